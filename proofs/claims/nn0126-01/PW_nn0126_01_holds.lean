import PyProof.Rows.All
import Wide.All
import OpenK.AllK
import KE.KIsNot
import KE.KDictOf
import Wide.FinOn
import Lean
import PySem.Challenge.RW_nn0126_01
open PySem PySem.W PyProof.Rows PySem.Calls
set_option Elab.async false
set_option maxRecDepth 100000
set_option maxHeartbeats 16000000
set_option linter.all false
set_option compiler.extract_closed false
namespace Enc
noncomputable abbrev lawQ : OpenLaw := PySem.Challenge.rw_nn0126_01
noncomputable def lookK : Look := { strict := !(importedModules lawQ.prog.main.body).all cThrough.contains, foot := none, bare := (["vars", "dir", "locals"] : List Str).filter (readsOut lawQ.prog lawQ.prog.main.body) }
theorem split_at (lk : Look) : ∀ (n : Nat) (l : List Stmt), noRoadLSs lk l = (noRoadLSs lk (l.take n) && noRoadLSs lk (l.drop n))
  | 0, l => rfl
  | n + 1, [] => rfl
  | n + 1, s :: r => by
    show (noRoadLS lk s && noRoadLSs lk r) = ((noRoadLS lk s && noRoadLSs lk (r.take n)) && noRoadLSs lk (r.drop n))
    rw [split_at lk n r, Bool.and_assoc]
theorem join_at (lk : Look) (n : Nat) (l : List Stmt) (h1 : noRoadLSs lk (l.take n) = true) (h2 : noRoadLSs lk (l.drop n) = true) : noRoadLSs lk l = true := by
  rw [split_at lk n l, h1, h2]; rfl
theorem not_in_short {l : List Str} {x : Str} {n : Nat} (h : l.all (fun a => Nat.ble a.cps.size n) = true) (hx : Nat.blt n x.cps.size = true) : l.contains x = false := by
  cases hc : l.contains x with
  | false => rfl
  | true =>
    have hm := List.contains_iff_mem.mp hc
    have h1 := Nat.le_of_ble_eq_true (List.all_eq_true.mp h x hm)
    have h2 := Nat.le_of_ble_eq_true hx
    omega
theorem frames_short : frameAttrs.all (fun a => Nat.ble a.cps.size 60) = true := by k_qdec
theorem roads_short : (["__dict__", "__getstate__", "__getattribute__", "__reduce__", "__reduce_ex__"] : List Str).all (fun a => Nat.ble a.cps.size 60) = true := by k_qdec
theorem road_of (x : Str) (h : (x.cps.toList.any fun c => Nat.beq c 123 || Nat.beq c 125 || Nat.beq c 46) = false) : roadStr x = false := by
  have hb : ∀ c ∈ x.cps.toList, c ≠ 123 ∧ c ≠ 125 ∧ c ≠ 46 := by
    intro c hc
    have := (List.any_eq_false.mp h) c hc
    refine ⟨?_, ?_, ?_⟩ <;> (rintro rfl; exact this (by decide))
  have a1 : (x.cps.any fun c => c == 123 || c == 125) = false := by
    rw [← Array.any_toList, List.any_eq_false]
    intro c hc
    have := hb c hc
    simp [this.1, this.2.1]
  have a2 : (x.cps.any (· == 46)) = false := by
    rw [← Array.any_toList, List.any_eq_false]
    intro c hc
    have := hb c hc
    simp [this.2.2]
  unfold roadStr
  rw [a1, a2]; rfl
theorem str_long (k : Look) (x : Str) (h1 : k.but = none) (h2 : k.foot = none) (h3 : Nat.blt 60 x.cps.size = true) (h4 : (!x.opensWith "__") = true) (h5 : (!(x.cps.toList.any fun c => Nat.beq c 123 || Nat.beq c 125 || Nat.beq c 46)) = true) : k.str x = true := by
  replace h4 : x.opensWith "__" = false := by simpa using h4
  replace h5 : roadStr x = false := road_of x (by simpa using h5)
  have ha : attrL x = true := by
    unfold attrL
    rw [not_in_short frames_short h3, h4]; rfl
  have hw : k.word x = true := by
    unfold Look.word
    rw [ha, h1, h2, not_in_short roads_short h3]
    simp
  unfold Look.str
  rw [hw, h5]
  simp
theorem asg (lk : Look) (n : Str) (x : Str) (p1 : Pos) (k : Nat) (p2 p3 : Pos) (hs : lk.foot = none) (hn : lk.name n = true) (hx : lk.str x = true) :
    noRoadLS lk (.Assign [.Name n p1] (.Constant (.str x) k p2) p3) = true := by
  have e1 : lk.stores [.Name n p1] = true := by unfold Look.stores; rw [hs]; rfl
  show (lk.stores [.Name n p1] && (lk.name n && true) && lk.str x) = true
  rw [e1, hn, hx]; rfl
theorem asgs (lk : Look) (n : Str) (x : Str) (p1 : Pos) (k : Nat) (p2 p3 : Pos) (r : List Stmt) (hs : lk.foot = none) (hn : lk.name n = true) (hx : lk.str x = true) (hr : noRoadLSs lk r = true) :
    noRoadLSs lk (.Assign [.Name n p1] (.Constant (.str x) k p2) p3 :: r) = true := by
  show (noRoadLS lk (.Assign [.Name n p1] (.Constant (.str x) k p2) p3) && noRoadLSs lk r) = true
  rw [asg lk n x p1 k p2 p3 hs hn hx, hr]; rfl
theorem t0.tw15986637202944990301 : True := trivial
theorem t1.tw15986637202944990301 : True := trivial
theorem t2.tw15986637202944990301 : True := trivial
theorem said.tw15986637202944990301 : True := trivial
set_option Elab.async true in
theorem t0 : noRoadLSs lookK (List.take 20 lawQ.prog.main.body) = true := by k_qdec
set_option Elab.async true in
theorem t2 : noRoadLSs lookK (List.drop 7 (List.drop 20 lawQ.prog.main.body)) = true := by k_qdec
set_option Elab.async true in
theorem t1 : noRoadLSs lookK (List.take 7 (List.drop 20 lawQ.prog.main.body)) = true := by
  refine asgs lookK _ _ _ _ _ _ _ rfl (by k_qdec) (str_long _ _ rfl rfl (by k_qdec) (by k_qdec) (by k_qdec)) ?_
  refine asgs lookK _ _ _ _ _ _ _ rfl (by k_qdec) (str_long _ _ rfl rfl (by k_qdec) (by k_qdec) (by k_qdec)) ?_
  refine asgs lookK _ _ _ _ _ _ _ rfl (by k_qdec) (by k_qdec) ?_
  refine asgs lookK _ _ _ _ _ _ _ rfl (by k_qdec) (str_long _ _ rfl rfl (by k_qdec) (by k_qdec) (by k_qdec)) ?_
  refine asgs lookK _ _ _ _ _ _ _ rfl (by k_qdec) (str_long _ _ rfl rfl (by k_qdec) (by k_qdec) (by k_qdec)) ?_
  refine asgs lookK _ _ _ _ _ _ _ rfl (by k_qdec) (str_long _ _ rfl rfl (by k_qdec) (by k_qdec) (by k_qdec)) ?_
  refine asgs lookK _ _ _ _ _ _ _ rfl (by k_qdec) (str_long _ _ rfl rfl (by k_qdec) (by k_qdec) (by k_qdec)) ?_
  rfl
theorem t : noRoadLSs lookK lawQ.prog.main.body = true := join_at _ 20 _ t0 (join_at _ 7 _ t1 t2)
set_option Elab.async true in
theorem said : lawQ.wellSaid = true := by
  unfold OpenLaw.wellSaid OpenRow.wellSaid OpenRow.partSaid looksOpen
  repeat' (with_reducible refine look_both ?_ ?_)
  rotate_left 4
  exact t
  all_goals k_qdec
noncomputable abbrev prg : PySem.Program := PySem.Challenge.pw_nn0126_01
noncomputable def stAt (i : Nat) : Stmt := (prg.main.body[i]?).getD (.Pass default)
noncomputable def mtAt (i j : Nat) : Stmt := match stAt i with
  | .ClassDef _ _ _ b _ _ _ _ _ _ _ => (b[j]?).getD (.Pass default)
  | _ => .Pass default
noncomputable def ctAt (i : Nat) : Const := match stAt i with
  | .Assign _ (.Constant c _ _) _ => c
  | _ => .none
noncomputable def ctVal (c : Const) (t : Tok) : Value := match c with
  | .int i => .int i t
  | .str x => .str x t
  | _ => .none
noncomputable def fnO (st : Stmt) (q md : Str) (mt : Tok) (c : Addr) (dV : Value) : Obj := match st with
  | .FunctionDef n a b _ _ _ sc _ _ _ => { cls := .type "function", data := .func { name := n, qualname := q, params := a, body := .stmts b, scope := sc, globals := 3, closure := [], defaults := dV, kwdefaults := .none, pyModule := .str md mt, code := .ref c } }
  | _ => default
noncomputable def clO (nm : Str) (t1 t2 : Tok) (bases mro subs : List Value) (ns : Addr) (s0 : Option Value) (new : String) : Obj :=
  { cls := .type "type", data := .cls { name := nm, bases := bases, mro := mro, ns := ns, qualname := nm, hasDict := true, slotNames := [], subclasses := subs }, slots := #[s0, none, some (.str nm t1), some (.str nm t2), some (.builtin new), some (.bool true)] }
noncomputable def enO (P : Params) (k : Str) (t : Tok) (v : Value) : DictEntry := ⟨PyData.keyHash P k, .str k t, v⟩
noncomputable def objAt : Nat → Params → Obj
  | 29, _ => { cls := .type "tuple", data := .seq ([.int (-1) 209] : List Value).toArray }
  | 36, _ => fnO (mtAt 2 0) "PaperError.__init__" "paperhold.errors" 194 35 (.ref 29)
  | 45, P => { cls := .type "dict", data := .dict #[enO P "__module__" 203 (.str "paperhold.errors" 194), enO P "__firstlineno__" 207 (.int 5 206), enO P "__init__" 218 (.ref 36), enO P "told" 225 (.ref 43), enO P "__static_attributes__" 228 (.ref 44), enO P "__weakref__" 230 (.ref 47), enO P "__doc__" 231 (.none)] 3 }
  | 46, _ => clO "PaperError" 196 204 [.type "Exception"] [.ref 46, .type "Exception", .type "BaseException", .type "object"] [.ref 59] 45 (some (.ref 22)) "Exception.__new__"
  | 58, P => { cls := .type "dict", data := .dict #[enO P "__module__" 243 (.str "paperhold.errors" 194), enO P "__firstlineno__" 247 (.int 14 246), enO P "__static_attributes__" 248 (.ref 57), enO P "__doc__" 249 (.none)] 2 }
  | 59, _ => clO "FontFault" 236 244 [.ref 46] [.ref 59, .ref 46, .type "Exception", .type "BaseException", .type "object"] [] 58 (some (.ref 50)) "Exception.__new__"
  | 155, _ => clO "Decimal" 254 262 [.type "object"] [.ref 155, .type "object"] [] 154 (none) "object.__new__"
  | 194, _ => fnO (mtAt 11 0) "Name.__init__" "paperhold.objects" 396 193 (.none)
  | 196, P => { cls := .type "dict", data := .dict #[enO P "__module__" 407 (.str "paperhold.objects" 396), enO P "__firstlineno__" 411 (.int 78 410), enO P "__init__" 419 (.ref 194), enO P "__static_attributes__" 421 (.ref 195), enO P "__dict__" 423 (.ref 198), enO P "__weakref__" 425 (.ref 199), enO P "__doc__" 426 (.none)] 4 }
  | 197, _ => clO "Name" 400 408 [.type "object"] [.ref 197, .type "object"] [] 196 (none) "object.__new__"
  | 209, _ => { cls := .type "tuple", data := .seq ([.bool false] : List Value).toArray }
  | 216, _ => fnO (mtAt 12 0) "String.__init__" "paperhold.objects" 396 215 (.ref 209)
  | 218, P => { cls := .type "dict", data := .dict #[enO P "__module__" 436 (.str "paperhold.objects" 396), enO P "__firstlineno__" 440 (.int 82 439), enO P "__init__" 449 (.ref 216), enO P "__static_attributes__" 452 (.ref 217), enO P "__dict__" 454 (.ref 220), enO P "__weakref__" 456 (.ref 221), enO P "__doc__" 457 (.none)] 4 }
  | 219, _ => clO "String" 429 437 [.type "object"] [.ref 219, .type "object"] [] 218 (none) "object.__new__"
  | 240, _ => clO "Stream" 460 468 [.type "object"] [.ref 240, .type "object"] [] 239 (none) "object.__new__"
  | 258, _ => fnO (mtAt 14 0) "Reference.__init__" "paperhold.objects" 396 257 (.none)
  | 267, P => { cls := .type "dict", data := .dict #[enO P "__module__" 498 (.str "paperhold.objects" 396), enO P "__firstlineno__" 502 (.int 92 501), enO P "__init__" 511 (.ref 258), enO P "pair" 518 (.ref 265), enO P "__static_attributes__" 521 (.ref 266), enO P "__dict__" 523 (.ref 269), enO P "__weakref__" 525 (.ref 270), enO P "__doc__" 526 (.none)] 4 }
  | 268, _ => clO "Reference" 491 499 [.type "object"] [.ref 268, .type "object"] [] 267 (none) "object.__new__"
  | 279, _ => fnO (stAt 15) "kind_of" "paperhold.objects" 396 278 .none
  | 287, _ => { cls := .type "tuple", data := .seq ([.none, .none] : List Value).toArray }
  | 294, _ => fnO (mtAt 16 0) "Lookup.__init__" "paperhold.objects" 396 293 (.ref 287)
  | 301, _ => fnO (mtAt 16 1) "Lookup.fetch" "paperhold.objects" 396 300 (.none)
  | 308, _ => fnO (mtAt 16 2) "Lookup.get" "paperhold.objects" 396 307 (.none)
  | 310, P => { cls := .type "dict", data := .dict #[enO P "__module__" 543 (.str "paperhold.objects" 396), enO P "__firstlineno__" 547 (.int 122 546), enO P "__init__" 556 (.ref 294), enO P "fetch" 568 (.ref 301), enO P "get" 577 (.ref 308), enO P "__static_attributes__" 580 (.ref 309), enO P "__dict__" 582 (.ref 312), enO P "__weakref__" 584 (.ref 313), enO P "__doc__" 585 (.none)] 4 }
  | 311, _ => clO "Lookup" 536 544 [.type "object"] [.ref 311, .type "object"] [] 310 (none) "object.__new__"
  | 320, _ => fnO (stAt 27) "ascii_names" "paperhold.encodings" 588 319 .none
  | 325, _ => fnO (stAt 28) "latin_names" "paperhold.encodings" 588 324 .none
  | 332, _ => fnO (stAt 29) "with_words" "paperhold.encodings" 588 331 .none
  | 337, _ => fnO (stAt 30) "base_names" "paperhold.encodings" 588 336 .none
  | 344, _ => fnO (stAt 31) "with_differences" "paperhold.encodings" 588 343 .none
  | 351, _ => fnO (stAt 32) "differences_of" "paperhold.encodings" 588 350 .none
  | 356, _ => fnO (stAt 33) "encoding_of" "paperhold.encodings" 588 355 .none
  | 363, _ => fnO (stAt 34) "encoding_written" "paperhold.encodings" 588 362 .none
  | 370, _ => fnO (stAt 36) "_law_encodings" "law_nn0126_01" 675 369 .none
  | 377, _ => fnO (stAt 37) "_law_glyphs" "law_nn0126_01" 675 376 .none
  | 382, _ => fnO (stAt 38) "_law_pot" "law_nn0126_01" 675 381 .none
  | 389, _ => fnO (stAt 39) "_law_draw" "law_nn0126_01" 675 388 .none
  | 396, _ => fnO (stAt 40) "_law_turned" "law_nn0126_01" 675 395 .none
  | 401, _ => fnO (stAt 41) "_law_due" "law_nn0126_01" 675 400 .none
  | 406, _ => fnO (stAt 42) "_law_shape" "law_nn0126_01" 675 405 .none
  | 411, _ => fnO (stAt 43) "_law_is_best" "law_nn0126_01" 675 410 .none
  | 418, _ => fnO (stAt 44) "_law_laid" "law_nn0126_01" 675 417 .none
  | 423, _ => fnO (stAt 45) "_law_font" "law_nn0126_01" 675 422 .none
  | 430, _ => fnO (stAt 46) "_law_parts" "law_nn0126_01" 675 429 .none
  | 435, _ => fnO (stAt 47) "_law_plain" "law_nn0126_01" 675 434 .none
  | 442, _ => fnO (stAt 48) "_law_bare_right" "law_nn0126_01" 675 441 .none
  | 449, _ => fnO (stAt 49) "_law_is_refused" "law_nn0126_01" 675 448 .none
  | 454, _ => fnO (stAt 50) "law" "law_nn0126_01" 675 453 .none
  | _, _ => default
noncomputable def topAs : List Addr := [29, 36, 45, 46, 58, 59, 155, 194, 196, 197, 209, 216, 218, 219, 240, 258, 267, 268, 279, 287, 294, 301, 308, 310, 311, 320, 325, 332, 337, 344, 351, 356, 363, 370, 377, 382, 389, 396, 401, 406, 411, 418, 423, 430, 435, 442, 449, 454]
noncomputable def topK (P : Params) : Frag := topAs.map fun a => (a, objAt a P)
noncomputable def codeQ : List (Addr × Str) := [((278 : Addr), Str.ofString "kind_of"), ((319 : Addr), Str.ofString "ascii_names"), ((324 : Addr), Str.ofString "latin_names"), ((331 : Addr), Str.ofString "with_words"), ((336 : Addr), Str.ofString "base_names"), ((343 : Addr), Str.ofString "with_differences"), ((350 : Addr), Str.ofString "differences_of"), ((355 : Addr), Str.ofString "encoding_of"), ((362 : Addr), Str.ofString "encoding_written"), ((369 : Addr), Str.ofString "_law_encodings"), ((376 : Addr), Str.ofString "_law_glyphs"), ((381 : Addr), Str.ofString "_law_pot"), ((388 : Addr), Str.ofString "_law_draw"), ((395 : Addr), Str.ofString "_law_turned"), ((400 : Addr), Str.ofString "_law_due"), ((405 : Addr), Str.ofString "_law_shape"), ((410 : Addr), Str.ofString "_law_is_best"), ((417 : Addr), Str.ofString "_law_laid"), ((422 : Addr), Str.ofString "_law_font"), ((429 : Addr), Str.ofString "_law_parts"), ((434 : Addr), Str.ofString "_law_plain"), ((441 : Addr), Str.ofString "_law_bare_right"), ((448 : Addr), Str.ofString "_law_is_refused"), ((453 : Addr), Str.ofString "law"), ((35 : Addr), Str.ofString "PaperError.__init__"), ((193 : Addr), Str.ofString "Name.__init__"), ((215 : Addr), Str.ofString "String.__init__"), ((257 : Addr), Str.ofString "Reference.__init__"), ((293 : Addr), Str.ofString "Lookup.__init__"), ((300 : Addr), Str.ofString "Lookup.fetch"), ((307 : Addr), Str.ofString "Lookup.get")]
@[reducible] noncomputable def globV : List (Str × Value) := [(Str.ofString "kind_of", (.ref 279 : Value)), (Str.ofString "ascii_names", (.ref 320 : Value)), (Str.ofString "latin_names", (.ref 325 : Value)), (Str.ofString "with_words", (.ref 332 : Value)), (Str.ofString "base_names", (.ref 337 : Value)), (Str.ofString "with_differences", (.ref 344 : Value)), (Str.ofString "differences_of", (.ref 351 : Value)), (Str.ofString "encoding_of", (.ref 356 : Value)), (Str.ofString "encoding_written", (.ref 363 : Value)), (Str.ofString "_law_encodings", (.ref 370 : Value)), (Str.ofString "_law_glyphs", (.ref 377 : Value)), (Str.ofString "_law_pot", (.ref 382 : Value)), (Str.ofString "_law_draw", (.ref 389 : Value)), (Str.ofString "_law_turned", (.ref 396 : Value)), (Str.ofString "_law_due", (.ref 401 : Value)), (Str.ofString "_law_shape", (.ref 406 : Value)), (Str.ofString "_law_is_best", (.ref 411 : Value)), (Str.ofString "_law_laid", (.ref 418 : Value)), (Str.ofString "_law_font", (.ref 423 : Value)), (Str.ofString "_law_parts", (.ref 430 : Value)), (Str.ofString "_law_plain", (.ref 435 : Value)), (Str.ofString "_law_bare_right", (.ref 442 : Value)), (Str.ofString "_law_is_refused", (.ref 449 : Value)), (Str.ofString "law", (.ref 454 : Value)), (Str.ofString "PaperError", (.ref 46 : Value)), (Str.ofString "FontFault", (.ref 59 : Value)), (Str.ofString "Decimal", (.ref 155 : Value)), (Str.ofString "Name", (.ref 197 : Value)), (Str.ofString "String", (.ref 219 : Value)), (Str.ofString "Stream", (.ref 240 : Value)), (Str.ofString "Reference", (.ref 268 : Value)), (Str.ofString "Lookup", (.ref 311 : Value)), (Str.ofString "MOST_HOPS", (ctVal (ctAt 10) 398 : Value)), (Str.ofString "FIGURES", (ctVal (ctAt 18) 590 : Value)), (Str.ofString "NO_GLYPH", (ctVal (ctAt 19) 592 : Value))]
noncomputable def codeOfH (h : Heap) (c : Addr) : Option Str := (h.get? c).bind fun o => match o.data with
  | .fields vs => (match (vs[1]? : Option Value) with | some (.str q _) => some q | _ => none)
  | _ => none
theorem codeOfH_rec {h : Heap} {c : Addr} {q : Str} (e : codeOfH h c = some q) : h.CodeRec (.ref c) q := by
  unfold codeOfH at e
  cases ho : h.get? c with
  | none => rw [ho] at e; cases e
  | some o =>
    rw [ho] at e
    simp only [Option.bind_some] at e
    split at e
    · rename_i vs hd
      split at e
      · rename_i q' t hv
        cases e
        exact ⟨c, o, vs, t, rfl, ho, hd, hv⟩
      · cases e
    · cases e
@[reducible] noncomputable def bltL : List Str := ["list", "range", "len", "min", "max", "abs", "int", "isinstance", "sorted", "dict", "str", "bool", "chr", "Exception"]
noncomputable def TopSays (w : World) (h : Heap) : Prop :=
  (∀ a o, (topK w.params).lookup a = some o → h.get? a = some o) ∧ (∀ p ∈ codeQ, h.CodeRec (.ref p.1) p.2) ∧ ∃ m, h.Ns mainGlobals m ∧ (∀ p ∈ globV, m p.1 = some p.2) ∧ ∀ x ∈ bltL, m x = none
noncomputable def obsQ (s : Shared) : List (Option Obj) × (List (Option Str) × (List (Option Value) × (List (Option Value) × Bool))) :=
  (topAs.map s.heap.get?, (codeQ.map fun p => codeOfH s.heap p.1), (globV.map fun p => s.heap.nsMap mainGlobals p.1), (bltL.map fun x => s.heap.nsMap mainGlobals x), s.heap.isNs mainGlobals)
noncomputable def valQ (w : World) : List (Option Obj) × (List (Option Str) × (List (Option Value) × (List (Option Value) × Bool))) :=
  ((topK w.params).map fun p => some p.2, (codeQ.map fun p => some p.2), (globV.map fun p => some p.2), (bltL.map fun _ => none), true)
theorem map_all {α β : Type} {f g : α → β} : ∀ {l : List α}, l.map f = l.map g → ∀ x ∈ l, f x = g x
  | _ :: _, e, _, .head _ => (List.cons.inj e).1
  | _ :: _, e, _, .tail _ m => map_all (List.cons.inj e).2 _ m
theorem topSays_of (w : World) (s : Shared) (e : obsQ s = valQ w) : TopSays w s.heap := by
  have e1 : topAs.map s.heap.get? = (topK w.params).map fun p => some p.2 := congrArg Prod.fst e
  have e2 : (codeQ.map fun p => codeOfH s.heap p.1) = codeQ.map fun p => some p.2 := congrArg (fun x => x.2.1) e
  have e3 : (globV.map fun p => s.heap.nsMap mainGlobals p.1) = globV.map fun p => some p.2 := congrArg (fun x => x.2.2.1) e
  have e4 : (bltL.map fun x => s.heap.nsMap mainGlobals x) = bltL.map fun _ => none := congrArg (fun x => x.2.2.2.1) e
  have e5 : s.heap.isNs mainGlobals = true := congrArg (fun x => x.2.2.2.2) e
  refine ⟨Frag.in_of (as := topAs) ?_ e1, fun p hp => codeOfH_rec (map_all e2 p hp), _, .of_isNs e5, fun p hp => map_all e3 p hp, fun x hx => map_all e4 x hx⟩
  unfold topK
  rw [List.map_map]
  exact (List.map_id' topAs).symm
theorem topSays_keeps (w : World) (h h' : Heap) (x : TopSays w h) (k : ∀ b o, h.get? b = some o → h'.get? b = some o) : TopSays w h' :=
  let ⟨a, b, m, c, d⟩ := x; ⟨fun p o e => k _ _ (a p o e), fun p hp => (b p hp).keeps k, m, c.keeps k, d⟩
noncomputable def topHook : Hook := ⟨_, obsQ, valQ, TopSays, topSays_of, topSays_keeps⟩
noncomputable def strAt (i : Nat) : Str := match ctAt i with
  | .str x => x
  | _ => Str.empty
@[reducible] noncomputable def constL : List (Str × Nat) := [(Str.ofString "LOW_NAMES", 20), (Str.ofString "MIDDLE_NAMES", 21), (Str.ofString "HIGH_NAMES", 22), (Str.ofString "LATIN_NAMES", 23), (Str.ofString "STANDARD_WORDS", 24), (Str.ofString "WIN_WORDS", 25), (Str.ofString "MAC_WORDS", 26)]
structure Wld (w : World) (h : Heap) : Prop where
  top : ∀ a o, (topK w.params).lookup a = some o → h.get? a = some o
  codes : ∀ p ∈ codeQ, h.CodeRec (.ref p.1) p.2
  globs : ∃ m, h.Ns mainGlobals m ∧ (∀ p ∈ globV, m p.1 = some p.2) ∧ (∀ x ∈ bltL, m x = none) ∧ ∀ p ∈ constL, ∃ t, m p.1 = some (.str (strAt p.2) t)
  blt : ∃ m, h.Ns builtinsNs m ∧ ∀ x : Str, x ≠ "__name__" → m x = bootBuiltins x
  nolimit : h.NoLimit
  nodigits : ∃ mc, h.Ns cStatics mc ∧ mc "sys.int_max_str_digits" = none
theorem Wld.keeps {w : World} {h h' : Heap} (x : Wld w h) (k : ∀ b o, h.get? b = some o → h'.get? b = some o) : Wld w h' where
  top := fun a o e => k _ _ (x.top a o e)
  codes := fun p hp => (x.codes p hp).keeps k
  globs := let ⟨m, a, b⟩ := x.globs; ⟨m, a.keeps k, b⟩
  blt := let ⟨m, a, b⟩ := x.blt; ⟨m, a.keeps k, b⟩
  nolimit := x.nolimit.keeps k
  nodigits := let ⟨m, a, b⟩ := x.nodigits; ⟨m, a.keeps k, b⟩
theorem ns_unique {h : Heap} {a : Addr} {m m' : Str → Option Value} (x : h.Ns a m) (y : h.Ns a m') : m = m' := by
  obtain ⟨o, es, ep, ho, hd, _, hf⟩ := x
  obtain ⟨o', es', ep', ho', hd', _, hf'⟩ := y
  rw [ho] at ho'; cases ho'
  rw [hd] at hd'; cases hd'
  funext n
  rw [← hf, ← hf']
noncomputable def LawSpec : Prop :=
  ∀ (w : World) (s : Shared) (l : Addr) (vs : List Value) (ns : List Int), Wld w s.heap → s.gens = #[] → s.heap.IsList l vs.toArray → IntsAre vs ns → ns.length ≤ 63 →
    codeAny (model prg w) callerA (.call (.ref 454) ⟨[.ref l], []⟩) (fun r s' => r = .ok (.ret (.bool true)) ∧ (∀ b o, s.heap.get? b = some o → s'.heap.get? b = some o) ∧ s'.os = s.os ∧ s'.gens = #[]) s
theorem go_true {b : Bool} {P Q : Prop} (h : b = true) (p : P) : if b = true then P else Q := by rw [if_pos h]; exact p
theorem go_false {b : Bool} {P Q : Prop} (h : b = false) (q : Q) : if b = true then P else Q := by rw [if_neg (by rw [h]; exact Bool.false_ne_true)]; exact q
theorem getSnoc {α : Type} {ys : List α} {y v : α} {j : Nat} (e : (ys ++ [y])[j]? = some v) : ys[j]? = some v ∨ (j = ys.length ∧ v = y) := by
  rw [List.getElem?_append] at e
  split at e
  · exact .inl e
  · rename_i hj
    have hj' : j = ys.length := by
      rcases Nat.lt_or_ge j (ys.length + 1) with q | q
      · omega
      · rw [List.getElem?_eq_none (by simp; omega)] at e; cases e
    subst hj'
    rw [Nat.sub_self] at e
    simp at e
    exact .inr ⟨rfl, e.symm⟩
theorem lt3 {j : Nat} (h : j < 3) : j = 0 ∨ j = 1 ∨ j = 2 := (by decide : ∀ i : Fin 3, i.val = 0 ∨ i.val = 1 ∨ i.val = 2) ⟨j, h⟩
theorem lt7 {i : Nat} (h : i < 7) : i = 0 ∨ i = 1 ∨ i = 2 ∨ i = 3 ∨ i = 4 ∨ i = 5 ∨ i = 6 := (by decide : ∀ i : Fin 7, i.val = 0 ∨ i.val = 1 ∨ i.val = 2 ∨ i.val = 3 ∨ i.val = 4 ∨ i.val = 5 ∨ i.val = 6) ⟨i, h⟩
theorem int6 {v : Int} (h0 : 0 ≤ v) (h1 : v < 6) : v = 0 ∨ v = 1 ∨ v = 2 ∨ v = 3 ∨ v = 4 ∨ v = 5 := by
  obtain ⟨n, rfl⟩ := Int.eq_ofNat_of_zero_le h0
  exact (by decide : ∀ i : Fin 6, (i.val : Int) = 0 ∨ (i.val : Int) = 1 ∨ (i.val : Int) = 2 ∨ (i.val : Int) = 3 ∨ (i.val : Int) = 4 ∨ (i.val : Int) = 5) ⟨n, Int.ofNat_lt.mp h1⟩
theorem n63 {n m : Nat} (h : n < m) (e : Nat.ble m 1000000 = true) : (n : Int) < 2 ^ 63 := by
  have := Nat.le_of_ble_eq_true e
  omega
@[reducible] noncomputable def Ap {α : Type} (Q : α → Shared → Prop) (a : α) (s : Shared) : Prop := Q a s
noncomputable def Kont {α : Type} (K : α → Shared → Prop) (a : α) (s : Shared) : Prop := K a s
section
variable {M : Model} {A : Around} {E : Value → Shared → Prop} {s : Shared} {α β : Type}
theorem K1 {m : Sem α} {P : α → Shared → Prop} (h : ∀ K : α → Shared → Prop, (∀ a s', P a s' → Kont K a s') → wpAny M A m (Kont K) E s) : wpAny M A m P E s := h P fun _ _ q => q
theorem K2 {m : Sem α} {m' : α → Sem β} {P : β → Shared → Prop} (h : ∀ K : β → Shared → Prop, (∀ b s', P b s' → Kont K b s') → wpAny M A m (fun a s₂ => wpAny M A (m' a) (Kont K) E s₂) E s) : wpAny M A m (fun a s₂ => wpAny M A (m' a) P E s₂) E s := h P fun _ _ q => q
end
inductive Desc where
  | ns (l : List (Str × Value))
  | cell (v : Option Value)
  | lst (vs : List Value)
  | obj (o : Obj)
  | prop (P : Obj → Prop)
noncomputable def Desc.is : Desc → Obj → Prop
  | .ns l, o => (l.map (·.1)).Nodup ∧ ∃ es ep, o.data = .dict es ep ∧ StrKeys es ∧ ∀ p ∈ l, nsFind es p.1 = some p.2
  | .cell v, o => o.data = .cell v
  | .lst vs, o => ∃ n, o = { cls := .type "list", data := .seq vs.toArray n }
  | .obj p, o => o = p
  | .prop P, o => P o
noncomputable abbrev Led := List (Addr × Desc)
structure St (k : Shared) (g : Heap) (n : Led) (s : Shared) : Prop where
  keep : ∀ b o, g.get? b = some o → s.heap.get? b = some o
  led : ∀ p ∈ n, (∃ o, s.heap.get? p.1 = some o ∧ p.2.is o) ∧ g.get? p.1 = none
  nd : (n.map (·.1)).Nodup
  os : s.os = k.os
  gens : s.gens = k.gens
inductive Upd (a : Addr) (d' : Desc) : Desc → Led → Led → Prop
  | head {d r} : Upd a d' d ((a, d) :: r) ((a, d') :: r)
  | tail {d x r r'} : Upd a d' d r r' → Upd a d' d (x :: r) (x :: r')
theorem Upd.mem {a : Addr} {d d' : Desc} {n n' : Led} (u : Upd a d' d n n') : (a, d) ∈ n := by
  induction u with
  | head => exact .head _
  | tail _ ih => exact .tail _ ih
theorem Upd.keys {a : Addr} {d d' : Desc} {n n' : Led} (u : Upd a d' d n n') : n'.map (·.1) = n.map (·.1) := by
  induction u with
  | head => rfl
  | tail _ ih => simp [ih]
theorem Upd.of_mem {a : Addr} {d d' : Desc} {n n' : Led} (u : Upd a d' d n n') (nd : (n.map (·.1)).Nodup) : ∀ p ∈ n', p = (a, d') ∨ (p ∈ n ∧ p.1 ≠ a) := by
  induction u with
  | head =>
    intro p hp
    simp only [List.map_cons, List.nodup_cons] at nd
    rcases List.mem_cons.mp hp with rfl | hp
    · exact .inl rfl
    · exact .inr ⟨.tail _ hp, fun e => nd.1 (e ▸ List.mem_map.mpr ⟨p, hp, rfl⟩)⟩
  | tail u ih =>
    intro p hp
    simp only [List.map_cons, List.nodup_cons] at nd
    rcases List.mem_cons.mp hp with rfl | hp
    · refine .inr ⟨.head _, fun e => nd.1 (e ▸ List.mem_map.mpr ⟨_, u.mem, rfl⟩)⟩
    · rcases ih nd.2 p hp with h | ⟨h1, h2⟩
      · exact .inl h
      · exact .inr ⟨.tail _ h1, h2⟩
section
variable {k : Shared} {g : Heap} {n n' : Led} {s : Shared}
theorem St.toks (S : St k g n s) (t : Nat) : St k g n { s with toks := t } := ⟨S.keep, S.led, S.nd, S.os, S.gens⟩
theorem St.sub (S : St k g n s) (h : ∀ p ∈ n', p ∈ n) (nd : (n'.map (·.1)).Nodup) : St k g n' s := ⟨S.keep, fun p hp => S.led p (h p hp), nd, S.os, S.gens⟩
theorem St.drop {x : Addr × Desc} (S : St k g (x :: n) s) : St k g n s := S.sub (fun _ h => .tail _ h) (by have := S.nd; simp only [List.map_cons, List.nodup_cons] at this; exact this.2)
theorem St.lt (S : St k g n s) {p : Addr × Desc} (hp : p ∈ n) : p.1 < s.heap.objs.size := let ⟨⟨_, h, _⟩, _⟩ := S.led p hp; Heap.lt_size h
theorem St.kept (S : St k g n s) {h' : Heap} {tk : Nat} (hk : ∀ b o, s.heap.get? b = some o → h'.get? b = some o) : St k g n { s with heap := h', toks := tk } :=
  ⟨fun b o e => hk _ _ (S.keep b o e), fun p hp => let ⟨⟨o, h, i⟩, z⟩ := S.led p hp; ⟨⟨o, hk _ _ h, i⟩, z⟩, S.nd, S.os, S.gens⟩
theorem St.fresh (S : St k g n s) : g.get? s.heap.objs.size = none := by
  cases e : g.get? s.heap.objs.size with
  | none => rfl
  | some o => exact absurd (Heap.lt_size (S.keep _ _ e)) (Nat.lt_irrefl _)
theorem St.add (S : St k g n s) {a : Addr} {d : Desc} (h : ∃ o, s.heap.get? a = some o ∧ d.is o) (hg : g.get? a = none) (hn : a ∉ n.map (·.1)) : St k g ((a, d) :: n) s :=
  ⟨S.keep, fun p hp => by
    rcases List.mem_cons.mp hp with rfl | hp
    · exact ⟨h, hg⟩
    · exact S.led p hp, by simp only [List.map_cons, List.nodup_cons]; exact ⟨hn, S.nd⟩, S.os, S.gens⟩
theorem St.notin (S : St k g n s) {a : Addr} (h : s.heap.objs.size ≤ a) : a ∉ n.map (·.1) := fun hm => by
  obtain ⟨p, hp, rfl⟩ := List.mem_map.mp hm
  exact absurd (S.lt hp) (Nat.not_lt.mpr h)
theorem St.push (S : St k g n s) {o : Obj} {d : Desc} {tk : Nat} (hd : d.is o) (hf : o.isFreed = false) : St k g ((s.heap.objs.size, d) :: n) { s with heap := s.heap.push o, toks := tk } :=
  (S.kept (h' := s.heap.push o) (tk := tk) fun b o' e => Heap.get?_push_of_some _ e).add ⟨o, Heap.get?_push_size _ hf, hd⟩ S.fresh (S.notin (Nat.le_refl _))
theorem St.upd (S : St k g n s) {a : Addr} {d d' : Desc} (u : Upd a d' d n n') {h' : Heap} {tk : Nat} (hs : ∀ b o, b ≠ a → s.heap.get? b = some o → h'.get? b = some o) (hd : ∃ o, h'.get? a = some o ∧ d'.is o) :
    St k g n' { s with heap := h', toks := tk } := by
  have ga : g.get? a = none := (S.led _ u.mem).2
  refine ⟨fun b o e => hs b o (fun h => by rw [h, ga] at e; cases e) (S.keep b o e), fun p hp => ?_, by rw [u.keys]; exact S.nd, S.os, S.gens⟩
  rcases u.of_mem S.nd p hp with rfl | ⟨h1, h2⟩
  · exact ⟨hd, ga⟩
  · obtain ⟨⟨o, e, i⟩, z⟩ := S.led p h1
    exact ⟨⟨o, hs _ _ h2 e, i⟩, z⟩
theorem St.tl {a : Addr} {d : Desc} {s' : Shared} (S : St k g ((a, d) :: n) s) (hk : ∀ b o, b ≠ a → s.heap.get? b = some o → s'.heap.get? b = some o) (ho : s'.os = s.os) (hg : s'.gens = s.gens) : St k g n s' := by
  have nd := List.nodup_cons.mp S.nd
  refine ⟨fun b o e => hk b o (fun z => ?_) (S.keep b o e), fun p hp => ?_, nd.2, ho.trans S.os, hg.trans S.gens⟩
  · rw [z, (S.led _ (.head _)).2] at e
    cases e
  · obtain ⟨⟨o, e, i⟩, z⟩ := S.led p (.tail _ hp)
    exact ⟨⟨o, hk _ _ (fun q => nd.1 (by rw [← q]; exact List.mem_map_of_mem (f := (·.1)) hp)) e, i⟩, z⟩
theorem St.third {a : Addr} {d : Desc} {x y : Addr × Desc} {s' : Shared} (S : St k g (x :: y :: (a, d) :: n) s) (hk : ∀ b o, b ≠ a → s.heap.get? b = some o → s'.heap.get? b = some o) (ho : s'.os = s.os) (hg : s'.gens = s.gens) : St k g (x :: y :: n) s' := by
  have P : ((a, d) :: x :: y :: n).Perm (x :: y :: (a, d) :: n) := (List.perm_middle (l₁ := [x, y])).symm
  exact (S.sub (fun p hp => P.mem_iff.mp hp) ((P.map _).nodup_iff.mpr S.nd)).tl hk ho hg
theorem St.get (S : St k g n s) {a : Addr} {d : Desc} (hm : (a, d) ∈ n) : ∃ o, s.heap.get? a = some o ∧ d.is o := (S.led _ hm).1
theorem St.getO (S : St k g n s) {a : Addr} {o : Obj} (hm : (a, .obj o) ∈ n) : s.heap.get? a = some o := by
  obtain ⟨o', e, i⟩ := S.get hm; cases i; exact e
theorem St.plainList (S : St k g n s) {a : Addr} {vs : List Value} (hm : (a, .lst vs) ∈ n) : s.heap.PlainList a vs.toArray := by
  obtain ⟨o, e, n, rfl⟩ := S.get hm; exact ⟨n, e⟩
theorem St.isList (S : St k g n s) {a : Addr} {vs : List Value} (hm : (a, .lst vs) ∈ n) : s.heap.IsList a vs.toArray := (S.plainList hm).isList
theorem St.isCell (S : St k g n s) {a : Addr} {v : Option Value} (hm : (a, .cell v) ∈ n) : s.heap.IsCell a v := by
  obtain ⟨o, e, i⟩ := S.get hm; exact ⟨o, e, i⟩
theorem St.ns (S : St k g n s) {a : Addr} {l : List (Str × Value)} (hm : (a, .ns l) ∈ n) : ∃ m, s.heap.Ns a m ∧ (l.map (·.1)).Nodup ∧ ∀ p ∈ l, m p.1 = some p.2 := by
  obtain ⟨o, e, nd, es, ep, i1, i2, i3⟩ := S.get hm
  exact ⟨_, ⟨o, es, ep, e, i1, i2, fun _ => rfl⟩, nd, i3⟩
theorem desc_ns {h : Heap} {a : Addr} {m : Str → Option Value} {l : List (Str × Value)} (x : h.Ns a m) (nd : (l.map (·.1)).Nodup) (hl : ∀ p ∈ l, m p.1 = some p.2) : ∃ o, h.get? a = some o ∧ (Desc.ns l).is o := by
  obtain ⟨o, es, ep, e, i1, i2, i3⟩ := x
  exact ⟨o, e, nd, es, ep, i1, i2, fun p hp => (i3 p.1).trans (hl p hp)⟩
theorem desc_lst {h : Heap} {a : Addr} {its : Array Value} (x : h.PlainList a its) : ∃ o, h.get? a = some o ∧ (Desc.lst its.toList).is o := by
  obtain ⟨n, e⟩ := x
  exact ⟨_, e, n, by simp⟩
theorem desc_cell {h : Heap} {a : Addr} {v : Option Value} (x : h.IsCell a v) : ∃ o, h.get? a = some o ∧ (Desc.cell v).is o := x
structure Eff (X : Led) (s s' : Shared) : Prop where
  keep : ∀ b o, s.heap.get? b = some o → b ∉ X.map (·.1) → s'.heap.get? b = some o
  led : ∀ p ∈ X, ∃ o, s'.heap.get? p.1 = some o ∧ p.2.is o
  os : s'.os = s.os
  gens : s'.gens = s.gens
theorem nodup_key {n : Led} (nd : (n.map (·.1)).Nodup) {a : Addr} {d d' : Desc} (h : (a, d) ∈ n) (h' : (a, d') ∈ n) : d = d' := by
  induction n with
  | nil => cases h
  | cons x r ih =>
    simp only [List.map_cons, List.nodup_cons] at nd
    rcases List.mem_cons.mp h with e1 | h1
    · rcases List.mem_cons.mp h' with e2 | h2
      · rw [← e2] at e1; exact (Prod.mk.inj e1).2
      · exact absurd (show x.1 ∈ r.map (·.1) from List.mem_map.mpr ⟨(a, d'), h2, by rw [← e1]⟩) nd.1
    · rcases List.mem_cons.mp h' with e2 | h2
      · exact absurd (show x.1 ∈ r.map (·.1) from List.mem_map.mpr ⟨(a, d), h1, by rw [← e2]⟩) nd.1
      · exact ih nd.2 h1 h2
theorem St.eff (S : St k g n s) {X : Led} {s' : Shared} (e : Eff X s s') (hX : ∀ p ∈ X, p ∈ n) : St k g n s' := by
  refine ⟨fun b o eb => e.keep _ _ (S.keep b o eb) fun hm => ?_, fun p hp => ⟨?_, (S.led p hp).2⟩, S.nd, e.os.trans S.os, e.gens.trans S.gens⟩
  · obtain ⟨p, hp, rfl⟩ := List.mem_map.mp hm
    rw [(S.led p (hX p hp)).2] at eb
    cases eb
  · by_cases hm : p.1 ∈ X.map (·.1)
    · obtain ⟨q, hq, eq⟩ := List.mem_map.mp hm
      have : p.2 = q.2 := nodup_key S.nd (a := p.1) (by exact hp) (by rw [← eq]; exact hX q hq)
      obtain ⟨o, ho, hi⟩ := e.led q hq
      exact ⟨o, eq ▸ ho, this ▸ hi⟩
    · obtain ⟨⟨o, ho, hi⟩, _⟩ := S.led p hp
      exact ⟨o, e.keep _ _ ho hm, hi⟩
theorem St.toEff {X n : Led} {s s' : Shared} (S : St s (hideAll s.heap (X.map (·.1))) n s') (hX : ∀ p ∈ X, p ∈ n) : Eff X s s' :=
  ⟨fun b o e hb => S.keep _ _ (hideAll_get _ e hb), fun p hp => (S.led p (hX p hp)).1, S.os, S.gens⟩
theorem St.grow (S : St k g n s) (h : ∀ p ∈ n', p ∈ n) (nd : (n'.map (·.1)).Nodup) : ∃ g', (∀ b o, g.get? b = some o → g'.get? b = some o) ∧ St k g' n' s ∧ (∀ b o, s.heap.get? b = some o → b ∉ n'.map (·.1) → g'.get? b = some o) := by
  refine ⟨hideAll s.heap (n'.map (·.1)), fun b o e => hideAll_get _ (S.keep _ _ e) ?_, ⟨fun b o e => of_hideAll _ e, fun p hp => ⟨(S.led p (h p hp)).1, hideAll_none _ (List.mem_map_of_mem hp)⟩, nd, S.os, S.gens⟩, fun b o e hb => hideAll_get _ e hb⟩
  intro hm
  obtain ⟨p, hp, rfl⟩ := List.mem_map.mp hm
  rw [(S.led p (h p hp)).2] at e
  cases e
end
@[reducible] noncomputable def fnAs : List Addr := [36, 194, 216, 258, 279, 294, 301, 308, 320, 325, 332, 337, 344, 351, 356, 363, 370, 377, 382, 389, 396, 401, 406, 411, 418, 423, 430, 435, 442, 449, 454]
noncomputable def fdOf : Option Obj → FuncData
  | some o => (match o.data with | .func fd => fd | _ => default)
  | none => default
theorem fnT {P : Params} {a : Addr} (h : fnAs.contains a = true) : ∃ fd, (topK P).lookup a = some ⟨.type "function", none, .func fd, #[]⟩ :=
  ⟨_, List.map_inj_left.mp (show fnAs.map (fun a => (topK P).lookup a) = fnAs.map (fun a => some ⟨.type "function", none, .func (fdOf ((topK P).lookup a)), #[]⟩) from by kernel_rfl) a (List.contains_iff_mem.mp h)⟩
theorem dle {d a b : Nat} (h : d ≤ a) (e : Nat.ble (a + 1) b = true) : d + 1 ≤ b := Nat.le_trans (Nat.succ_le_succ h) (Nat.le_of_ble_eq_true e)
theorem dle0 {d a b : Nat} (h : d ≤ a) (e : Nat.ble a b = true) : d ≤ b := Nat.le_trans h (Nat.le_of_ble_eq_true e)
noncomputable abbrev Mo (w : World) : Model := model prg w
-- what comes after a step, folded
section
variable (w : World) (A : Around) (E : Value → Shared → Prop)
@[reducible] noncomputable def Ret (Q : Value → Shared → Prop) (r : Result) (s : Shared) : Prop := match r with | .ok (.ret v) => Q v s | .ok _ => False | .error e => E e s
@[reducible] noncomputable def TruK (Q : Bool → Shared → Prop) (v : Value) (s : Shared) : Prop := wpAny (Mo w) A (truthy v) Q E s
@[reducible] noncomputable def FnK (a : Addr) (Q : Value → Shared → Prop) (vs : List Value) (s : Shared) : Prop := Wld w s.heap ∧ codeAny (Mo w) A (.call (.ref a) ⟨vs, []⟩) (Ret E Q) s
@[reducible] noncomputable def MethK (a : Addr) (x : Value) (Q : Value → Shared → Prop) (vs : List Value) (s : Shared) : Prop := Wld w s.heap ∧ codeAny (Mo w) A (.call (.ref a) ⟨x :: vs, []⟩) (Ret E Q) s
@[reducible] noncomputable def BltK (id : String) (Q : Value → Shared → Prop) (vs : List Value) (s : Shared) : Prop := wpAny (Mo w) A (call (.builtin id) vs) Q E s
@[reducible] noncomputable def TypK (id : String) (Q : Value → Shared → Prop) (vs : List Value) (s : Shared) : Prop := wpAny (Mo w) A (call (.type id) vs) Q E s
@[reducible] noncomputable def BinK2 (op : Operator) (a : Value) (Q : Value → Shared → Prop) (b : Value) (s : Shared) : Prop := wpAny (Mo w) A (binaryOp op a b) Q E s
@[reducible] noncomputable def CmpK2 (op : CmpOp) (a : Value) (Q : Bool → Shared → Prop) (b : Value) (s : Shared) : Prop := wpAny (Mo w) A (compareOp op a b) (TruK w A E Q) E s
@[reducible] noncomputable def CmvK2 (op : CmpOp) (a : Value) (Q : Value → Shared → Prop) (b : Value) (s : Shared) : Prop := wpAny (Mo w) A (compareOp op a b) Q E s
@[reducible] noncomputable def SubK2 (value slice : Expr) (o : Value) (Q : Value → Shared → Prop) (i : Value) (s : Shared) : Prop := wpAny (Mo w) A (subscriptTail value slice o i) Q E s
@[reducible] noncomputable def AttrK (attr : Str) (Q : Value → Shared → Prop) (o : Value) (s : Shared) : Prop := wpAny (Mo w) A (getAttr o attr true) Q E s
variable (env : Env)
@[reducible] noncomputable def ExecK (rest : List Stmt) (Q : Flow → Shared → Prop) (_ : Unit) (s : Shared) : Prop := wpAny (Mo w) A (execs rest env) Q E s
@[reducible] noncomputable def ExprK (rest : List Stmt) (Q : Flow → Shared → Prop) (_ : Value) (s : Shared) : Prop := wpAny (Mo w) A (execs rest env) Q E s
@[reducible] noncomputable def ConsK (rest : List Stmt) (Q : Flow → Shared → Prop) (f : Flow) (s : Shared) : Prop := match f with | .next => wpAny (Mo w) A (execs rest env) Q E s | f => Q f s
@[reducible] noncomputable def StoreK (x : Str) (rest : List Stmt) (Q : Flow → Shared → Prop) (v : Value) (s : Shared) : Prop := wpAny (Mo w) A (storeName env x v) (ExecK w A E env rest Q) E s
@[reducible] noncomputable def CallK (pos : Pos) (args : List Expr) (Q : Value → Shared → Prop) (f : Value) (s : Shared) : Prop := wpAny (Mo w) A (callWith pos f [] (backTo pos (starEach args env)) []) Q E s
@[reducible] noncomputable def AppK (v : Value) (Q : List Value → Shared → Prop) (vs : List Value) (s : Shared) : Prop := Q (v :: vs) s
@[reducible] noncomputable def ArgK (pos : Pos) (rest : List Expr) (Q : List Value → Shared → Prop) (v : Value) (s : Shared) : Prop := wpAny (Mo w) A (spliced (backTo pos (starEach rest env))) (AppK v Q) E s
@[reducible] noncomputable def BinK (op : Operator) (r : Expr) (Q : Value → Shared → Prop) (a : Value) (s : Shared) : Prop := wpAny (Mo w) A (eval r env) (BinK2 w A E op a Q) E s
@[reducible] noncomputable def CmpK (op : CmpOp) (r : Expr) (Q : Bool → Shared → Prop) (a : Value) (s : Shared) : Prop := wpAny (Mo w) A (eval r env) (CmpK2 w A E op a Q) E s
@[reducible] noncomputable def CmvK (op : CmpOp) (r : Expr) (Q : Value → Shared → Prop) (a : Value) (s : Shared) : Prop := wpAny (Mo w) A (eval r env) (CmvK2 w A E op a Q) E s
@[reducible] noncomputable def SubK (value slice : Expr) (Q : Value → Shared → Prop) (o : Value) (s : Shared) : Prop := wpAny (Mo w) A (eval slice env) (SubK2 w A E value slice o Q) E s
@[reducible] noncomputable def IfK (body orelse : List Stmt) (Q : Flow → Shared → Prop) (b : Bool) (s : Shared) : Prop := if b = true then wpAny (Mo w) A (execs body env) Q E s else wpAny (Mo w) A (execs orelse env) Q E s
@[reducible] noncomputable def IfeK (body orelse : Expr) (Q : Value → Shared → Prop) (b : Bool) (s : Shared) : Prop := if b = true then wpAny (Mo w) A (eval body env) Q E s else wpAny (Mo w) A (eval orelse env) Q E s
@[reducible] noncomputable def MetK2 (pos : Pos) (args : List Expr) (Q : Value → Shared → Prop) (fx : Value × List Value) (s : Shared) : Prop := wpAny (Mo w) A (callWith pos fx.1 fx.2 (backTo pos (starEach args env)) []) Q E s
@[reducible] noncomputable def MetK (name : Str) (pl : Sem Bool) (pos : Pos) (args : List Expr) (Q : Value → Shared → Prop) (ov : Value) (s : Shared) : Prop := wpAny (Mo w) A (getMethod ov name pl) (MetK2 w A E env pos args Q) E s
@[reducible] noncomputable def RetuK (Q : Flow → Shared → Prop) (v : Value) (s : Shared) : Prop := Q (.ret v) s
@[reducible] noncomputable def NotK (Q : Bool → Shared → Prop) (b : Bool) (s : Shared) : Prop := Q (!b) s
@[reducible] noncomputable def AndK (rest : List Expr) (Q : Bool → Shared → Prop) (b : Bool) (s : Shared) : Prop := if b = true then wpAny (Mo w) A (allTrue .And rest env) Q E s else Q false s
@[reducible] noncomputable def OrK (rest : List Expr) (Q : Bool → Shared → Prop) (b : Bool) (s : Shared) : Prop := if b = true then Q true s else wpAny (Mo w) A (allTrue .Or rest env) Q E s
end
structure Room (A : Around) (d : Nat) : Prop where
  handled : A.handled = none
  depth : A.depth ≤ 301 + 2 * d
  units : A.units ≤ 4 + 10 * d
theorem Room.limit {A : Around} {d : Nat} (r : Room A d) (h : d ≤ 50 := by decide) : A.depth < recursionLimit := by
  have := r.depth
  show A.depth < 1000
  omega
theorem Room.deeper {A : Around} {d : Nat} (r : Room A d) (env : Env) : Room (A.deeper env) (d + 1) :=
  ⟨r.handled, by have := r.depth; show A.depth + 1 ≤ _; omega, by have := r.units; show A.units + 3 ≤ _; omega⟩
theorem Room.caller : Room callerA 0 := ⟨rfl, by decide, by decide⟩
structure Fe (env : Env) (sc : Scope) (L : Addr) (cl : List (Str × Addr)) : Prop where
  scope : env.scope = sc
  locals : env.locals = L
  cells : env.cells = cl
  kind : env.scope.kind = .function
  glob : env.globals = mainGlobals
  blt : env.builtins = builtinsNs
noncomputable def kindIs (sc : Scope) (x : Str) (k : NameKind) : Bool := sc.names.lookup x == some k && !(x == ("__debug__" : Str))
theorem kindIs_is {env : Env} {sc : Scope} {L : Addr} {cl : List (Str × Addr)} {x : Str} {k : NameKind} (fe : Fe env sc L cl) (h : kindIs sc x k = true) : env.kindOf x = some k ∧ (x == ("__debug__" : Str)) = false := by
  unfold kindIs at h
  simp only [Bool.and_eq_true, beq_iff_eq, Bool.not_eq_true'] at h
  exact ⟨by unfold Env.kindOf; rw [fe.scope]; exact h.1, h.2⟩
section
variable {w : World} {A : Around} {E : Value → Shared → Prop} {k : Shared} {g : Heap} {env : Env} {sc : Scope} {L : Addr} {cl : List (Str × Addr)} {d : Nat} {s : Shared} {n n' n'' : Led}
theorem e_local {x : Str} {pos : Pos} {v : Value} {l : List (Str × Value)} {Q : Value → Shared → Prop} (S : St k g n s) (fe : Fe env sc L cl) (hx : kindIs sc x .local = true) (hn : (L, .ns l) ∈ n) (hv : (x, v) ∈ l) (h : Q v s) :
    wpAny (Mo w) A (eval (.Name x pos) env) Q E s := by
  obtain ⟨m, h1, _, h2⟩ := S.ns hn
  obtain ⟨h3, h4⟩ := kindIs_is fe hx
  exact wpAny_Name (wpAny_loadName_local fe.kind h3 (by rw [fe.locals]; exact h1) (h2 _ hv) h) h4
theorem e_cell {x : Str} {pos : Pos} {v : Value} {a : Addr} {Q : Value → Shared → Prop} (S : St k g n s) (fe : Fe env sc L cl) (hx : kindIs sc x .cell = true) (hc : cl.lookup x = some a) (hn : (a, .cell (some v)) ∈ n) (h : Q v s) :
    wpAny (Mo w) A (eval (.Name x pos) env) Q E s := by
  obtain ⟨h3, h4⟩ := kindIs_is fe hx
  exact wpAny_Name (wpAny_loadName_cell fe.kind h3 (by rw [fe.cells]; exact hc) (S.isCell hn) h) h4
theorem e_glob {x : Str} {pos : Pos} {v : Value} {Q : Value → Shared → Prop} (S : St k g n s) (W : Wld w g) (fe : Fe env sc L cl) (hx : kindIs sc x .globalImplicit = true) (hv : (x, v) ∈ globV) (h : Q v s) :
    wpAny (Mo w) A (eval (.Name x pos) env) Q E s := by
  obtain ⟨m, h1, h2, _⟩ := W.globs
  obtain ⟨h3, h4⟩ := kindIs_is fe hx
  exact Calls.Name_function_global fe.kind h3 (Calls.loadGlobal_global (by rw [fe.glob]; exact h1.keeps S.keep) (h2 _ hv) h) h4
theorem e_const {x : Str} {pos : Pos} {i : Nat} {Q : Value → Shared → Prop} (S : St k g n s) (W : Wld w g) (fe : Fe env sc L cl) (hx : kindIs sc x .globalImplicit = true) (hv : (x, i) ∈ constL) (h : ∀ t, Q (.str (strAt i) t) s) :
    wpAny (Mo w) A (eval (.Name x pos) env) Q E s := by
  obtain ⟨m, h1, _, _, h2⟩ := W.globs
  obtain ⟨h3, h4⟩ := kindIs_is fe hx
  obtain ⟨t, ht⟩ := h2 _ hv
  exact Calls.Name_function_global fe.kind h3 (Calls.loadGlobal_global (by rw [fe.glob]; exact h1.keeps S.keep) ht (h t)) h4
theorem e_blt {x : Str} {pos : Pos} {v : Value} {Q : Value → Shared → Prop} (S : St k g n s) (W : Wld w g) (fe : Fe env sc L cl) (hx : kindIs sc x .globalImplicit = true) (hm : x ∈ bltL) (hb : bootBuiltins x = some v) (h : Q v s) :
    wpAny (Mo w) A (eval (.Name x pos) env) Q E s := by
  obtain ⟨m, h1, _, h2, _⟩ := W.globs
  obtain ⟨mb, b1, b2⟩ := W.blt
  obtain ⟨h3, h4⟩ := kindIs_is fe hx
  refine Calls.Name_function_global fe.kind h3 (Calls.loadGlobal_builtin (by rw [fe.glob]; exact h1.keeps S.keep) (h2 _ hm) (by rw [fe.blt]; exact b1.keeps S.keep) ((b2 x ?_).trans hb) h) h4
  rintro rfl
  exact absurd hm (by decide +kernel)
theorem e_int {i : Int} {c : Nat} {pos : Pos} {Q : Value → Shared → Prop} (S : St k g n s) (h : ∀ t s', St k g n s' → Q (.int i t) s') : wpAny (Mo w) A (eval (.Constant (.int i) c pos) env) Q E s :=
  wpAny_Constant_int (h _ _ (S.toks _))
theorem e_str {x : Str} {c : Nat} {pos : Pos} {Q : Value → Shared → Prop} (S : St k g n s) (h : ∀ t s', St k g n s' → Q (.str x t) s') : wpAny (Mo w) A (eval (.Constant (.str x) c pos) env) Q E s :=
  wpAny_Constant_str (h _ _ (S.toks _))
theorem e_none {c : Nat} {pos : Pos} {Q : Value → Shared → Prop} (h : Q .none s) : wpAny (Mo w) A (eval (.Constant .none c pos) env) Q E s := wpAny_Constant_none h
theorem e_bool {b : Bool} {c : Nat} {pos : Pos} {Q : Value → Shared → Prop} (h : Q (.bool b) s) : wpAny (Mo w) A (eval (.Constant (.bool b) c pos) env) Q E s := wpAny_Constant_bool h
inductive LUpd (x : Str) (v : Value) : List (Str × Value) → List (Str × Value) → Prop
  | head {u r} : LUpd x v ((x, u) :: r) ((x, v) :: r)
  | tail {y r r'} : LUpd x v r r' → LUpd x v (y :: r) (y :: r')
theorem LUpd.keys {x : Str} {v : Value} {l l' : List (Str × Value)} (u : LUpd x v l l') : l'.map (·.1) = l.map (·.1) := by
  induction u with
  | head => rfl
  | tail _ ih => simp [ih]
theorem LUpd.key {x : Str} {v : Value} {l l' : List (Str × Value)} (u : LUpd x v l l') : x ∈ l.map (·.1) := by
  induction u with
  | head => exact .head _
  | tail _ ih => exact .tail _ ih
theorem LUpd.of_mem {x : Str} {v : Value} {l l' : List (Str × Value)} (u : LUpd x v l l') (nd : (l.map (·.1)).Nodup) : ∀ p ∈ l', p = (x, v) ∨ (p ∈ l ∧ p.1 ≠ x) := by
  induction u with
  | head =>
    intro p hp
    simp only [List.map_cons, List.nodup_cons] at nd
    rcases List.mem_cons.mp hp with rfl | hp
    · exact .inl rfl
    · exact .inr ⟨.tail _ hp, fun e => nd.1 (e ▸ List.mem_map.mpr ⟨p, hp, rfl⟩)⟩
  | tail u ih =>
    intro p hp
    simp only [List.map_cons, List.nodup_cons] at nd
    rcases List.mem_cons.mp hp with rfl | hp
    · exact .inr ⟨.head _, fun e => nd.1 (e ▸ u.key)⟩
    · rcases ih nd.2 p hp with h | ⟨h1, h2⟩
      · exact .inl h
      · exact .inr ⟨.tail _ h1, h2⟩
theorem s_store0 {x : Str} {v : Value} {l l' : List (Str × Value)} {Q : Unit → Shared → Prop} (S : St k g n s) (fe : Fe env sc L cl) (hx : kindIs sc x .local = true) (hu : Upd L (.ns l') (.ns l) n n')
    (hl : ∀ m : Str → Option Value, (∀ p ∈ l, m p.1 = some p.2) → ∀ p ∈ l', (if p.1 = x then some v else m p.1) = some p.2) (nd : (l.map (·.1)).Nodup → (l'.map (·.1)).Nodup) (h : ∀ s', St k g n' s' → Q () s') :
    wpAny (Mo w) A (storeName env x v) Q E s := by
  obtain ⟨m, h1, hnd, h2⟩ := S.ns hu.mem
  obtain ⟨h3, _⟩ := kindIs_is fe hx
  refine wpAny_storeName_local h3 (by rw [fe.locals]; exact h1) (fun h' hn' hs => h _ (S.upd hu (fun b o hb e => (hs.2 b (by rw [fe.locals]; exact hb)).trans e) (desc_ns (by rw [← fe.locals]; exact hn') (nd hnd) (hl m h2)))) ?_
  have := fe.kind
  cases hq : env.scope.kind <;> simp_all
theorem s_store {x : Str} {v : Value} {l l' : List (Str × Value)} {Q : Unit → Shared → Prop} (S : St k g n s) (fe : Fe env sc L cl) (hx : kindIs sc x .local = true) (hu : Upd L (.ns l') (.ns l) n n') (hl : LUpd x v l l')
    (h : ∀ s', St k g n' s' → Q () s') : wpAny (Mo w) A (storeName env x v) Q E s := by
  obtain ⟨_, _, hnd, _⟩ := S.ns hu.mem
  refine s_store0 S fe hx hu (fun m hm p hp => ?_) (fun nd => by rw [hl.keys]; exact nd) h
  rcases hl.of_mem hnd p hp with rfl | ⟨h1, h2⟩
  · exact if_pos rfl
  · rw [if_neg h2]; exact hm p h1
theorem s_new {x : Str} {v : Value} {l : List (Str × Value)} {Q : Unit → Shared → Prop} (S : St k g n s) (fe : Fe env sc L cl) (hx : kindIs sc x .local = true) (hu : Upd L (.ns ((x, v) :: l)) (.ns l) n n') (hl : (l.map (·.1)).contains x = false)
    (h : ∀ s', St k g n' s' → Q () s') : wpAny (Mo w) A (storeName env x v) Q E s := by
  have hl' : x ∉ l.map (·.1) := fun hm => by rw [List.contains_iff_mem.mpr hm] at hl; cases hl
  refine s_store0 S fe hx hu (fun m hm p hp => ?_) (fun nd => by simp only [List.map_cons, List.nodup_cons]; exact ⟨hl', nd⟩) h
  rcases List.mem_cons.mp hp with rfl | hp
  · exact if_pos rfl
  · rw [if_neg fun e => hl' (by rw [← e]; exact List.mem_map_of_mem hp)]; exact hm p hp
end
theorem fn_enter {w : World} {A : Around} {R : Result → Shared → Prop} {s : Shared} {a c : Addr} {nm q : Str} {params : Arguments} {dV pm : Value} {sc : Scope} {body : List Stmt} {args : Args} {binds : List (Str × Value)} {d : Nat} (X : Led)
    (W : Wld w s.heap) (rm : Room A d) (ha : (topK w.params).lookup a = some ⟨.type "function", none, .func (fnOf nm q params body sc dV .none .none pm none (.ref c) .none), #[]⟩) (hcd : (c, q) ∈ codeQ)
    (hbind : BindsTo s (fnOf nm q params body sc dV .none .none pm none (.ref c) .none) args binds) (hok : ((sc.names.all fun x => x.2 != .cell) && (binds.all fun x => sc.names.lookup x.1 == some .local) && decide (binds.map (·.1)).Nodup && !sc.isCoroutine && !sc.isGenerator && sc.kind == .function) = true)
    (hX : ∀ p ∈ X, ∃ o, s.heap.get? p.1 = some o ∧ p.2.is o) (hXn : (X.map (·.1)).Nodup)
    (hW : Wld w (hideAll s.heap (X.map (·.1))))
    (h : ∀ (g : Heap) (L : Addr) (s₁ : Shared) (env : Env) (A' : Around), g = hideAll s.heap (X.map (·.1)) → Wld w g → St s g ((L, .ns binds) :: X) s₁ → Fe env sc L [] → Room A' (d + 1) → (env = envX q sc L a (.ref c) [] ∧ A' = A.deeper env) →
      ∀ K : Flow → Shared → Prop, (∀ f s', R (.ok (.ret (match f with | .ret v => v | _ => .none))) s' → Kont K f s') → wpAny (Mo w) A' (execs body env) (Kont K)
        (fun e s' => wpAny (Mo w) A' (leaving env e) (fun _ s'' => R (.error e) s'') (fun e' s'' => R (.error e') s'') s') s₁)
    (hd : d ≤ 50 := by decide) : codeAny (Mo w) A (.call (.ref a) args) R s := by
  simp only [Bool.and_eq_true, Bool.not_eq_true', beq_iff_eq, decide_eq_true_eq, List.all_eq_true, bne_iff_ne, ne_eq] at hok
  obtain ⟨⟨⟨⟨⟨k1, k2⟩, k3⟩, k4⟩, k5⟩, k6⟩ := hok
  refine codeAny_call_def (fd := fnOf nm q params body sc dV .none .none pm none (.ref c) .none) (body := body) (binds := binds) (rm.limit hd) (W.top _ _ ha) rfl W.nolimit (W.codes (c, q) hcd) rfl hbind k1 k2 (fun h₁ hns hk₁ => ?_) k4 k5 k6
  show wpAny (Mo w) (A.deeper (envX q sc s.heap.objs.size a (.ref c) [])) (execs body (envX q sc s.heap.objs.size a (.ref c) [])) _ (fun e s' => wpAny (Mo w) (A.deeper (envX q sc s.heap.objs.size a (.ref c) [])) (leaving (envX q sc s.heap.objs.size a (.ref c) []) e) _ _ s') _
  refine K1 (h _ s.heap.objs.size _ _ _ rfl hW ⟨fun b o e => hk₁ b o (of_hideAll _ e), fun p hp => ?_, ?_, rfl, rfl⟩ ⟨rfl, rfl, rfl, k6, rfl, rfl⟩ (rm.deeper _) ⟨rfl, rfl⟩)
  · rcases List.mem_cons.mp hp with rfl | hp
    · refine ⟨desc_ns hns k3 fun p hp => ?_, ?_⟩
      · obtain ⟨x, v⟩ := p
        have hm : (x, v) ∈ binds.reverse := List.mem_reverse.mpr hp
        have nd : (binds.reverse.map (·.1)).Nodup := by rw [List.map_reverse]; exact List.pairwise_reverse.mpr (List.Pairwise.imp (fun h e => h e.symm) k3)
        show binds.reverse.lookup x = some v
        generalize binds.reverse = l at hm nd
        clear hp
        induction l with
        | nil => cases hm
        | cons p r ih =>
          simp only [List.map_cons, List.nodup_cons] at nd
          rcases List.mem_cons.mp hm with rfl | hm
          · simp [List.lookup]
          · have : x ≠ p.1 := fun e => nd.1 (e ▸ List.mem_map_of_mem hm)
            rw [List.lookup_cons, beq_false_of_ne this]
            exact ih hm nd.2
      · cases e : (hideAll s.heap (X.map (·.1))).get? s.heap.objs.size with
        | none => rfl
        | some o => exact absurd (Heap.lt_size (of_hideAll _ e)) (Nat.lt_irrefl _)
    · obtain ⟨o, e, i⟩ := hX p hp
      exact ⟨⟨o, hk₁ _ _ e, i⟩, hideAll_none _ (List.mem_map_of_mem hp)⟩
  · simp only [List.map_cons, List.nodup_cons]
    refine ⟨fun hm => ?_, hXn⟩
    obtain ⟨p, hp, e⟩ := List.mem_map.mp hm
    obtain ⟨o, e', _⟩ := hX p hp
    have := Heap.lt_size e'
    rw [e] at this
    exact absurd this (Nat.lt_irrefl _)
theorem fn_enter0 {w : World} {A : Around} {R : Result → Shared → Prop} {s : Shared} {a c : Addr} {nm q : Str} {params : Arguments} {dV pm : Value} {sc : Scope} {body : List Stmt} {args : Args} {binds : List (Str × Value)} {d : Nat} (X : Led)
    (W : Wld w s.heap) (rm : Room A d) (ha : (topK w.params).lookup a = some ⟨.type "function", none, .func (fnOf nm q params body sc dV .none .none pm none (.ref c) .none), #[]⟩) (hcd : (c, q) ∈ codeQ)
    (hbind : BindsTo s (fnOf nm q params body sc dV .none .none pm none (.ref c) .none) args binds) (hok : ((sc.names.all fun x => x.2 != .cell) && (binds.all fun x => sc.names.lookup x.1 == some .local) && decide (binds.map (·.1)).Nodup && !sc.isCoroutine && !sc.isGenerator && sc.kind == .function) = true)
    (hX : ∀ p ∈ X, ∃ o, s.heap.get? p.1 = some o ∧ p.2.is o) (hXn : (X.map (·.1)).Nodup)
    (hW : Wld w (hideAll s.heap (X.map (·.1))))
    (h : ∀ (g : Heap) (L : Addr) (s₁ : Shared) (env : Env) (A' : Around) (E' : Value → Shared → Prop), g = hideAll s.heap (X.map (·.1)) → Wld w g → St s g ((L, .ns binds) :: X) s₁ → Fe env sc L [] → Room A' (d + 1) →
      ∀ K : Flow → Shared → Prop, (∀ f s', R (.ok (.ret (match f with | .ret v => v | _ => .none))) s' → Kont K f s') → wpAny (Mo w) A' (execs body env) (Kont K) E' s₁)
    (hd : d ≤ 50 := by decide) : codeAny (Mo w) A (.call (.ref a) args) R s :=
  fn_enter X W rm ha hcd hbind hok hX hXn hW (fun g L s₁ env A' hg W' S fe rm' _ => h g L s₁ env A' _ hg W' S fe rm') hd
section
variable {w : World} {A : Around} {E : Value → Shared → Prop} {k : Shared} {g : Heap} {env : Env} {d : Nat} {s : Shared} {n n' n'' : Led}

-- built-in names
theorem b_len : bootBuiltins (Str.ofString "len") = some (.builtin "len") := by boot_by_name
theorem b_list : bootBuiltins (Str.ofString "list") = some (.type "list") := by boot_by_name
theorem b_range : bootBuiltins (Str.ofString "range") = some (.type "range") := by boot_by_name
theorem b_min : bootBuiltins (Str.ofString "min") = some (.builtin "min") := by boot_by_name
theorem b_abs : bootBuiltins (Str.ofString "abs") = some (.builtin "abs") := by boot_by_name
theorem b_int : bootBuiltins (Str.ofString "int") = some (.type "int") := by boot_by_name
theorem b_isinstance : bootBuiltins (Str.ofString "isinstance") = some (.builtin "isinstance") := by boot_by_name
theorem b_sorted : bootBuiltins (Str.ofString "sorted") = some (.builtin "sorted") := by boot_by_name
theorem b_dict : bootBuiltins (Str.ofString "dict") = some (.type "dict") := by boot_by_name
theorem b_bool : bootBuiltins (Str.ofString "bool") = some (.type "bool") := by boot_by_name
theorem b_chr : bootBuiltins (Str.ofString "chr") = some (.builtin "chr") := by boot_by_name
theorem b_Exception : bootBuiltins (Str.ofString "Exception") = some (.type "Exception") := by boot_by_name
-- ints
theorem i_add {a b : Int} {t u : Tok} {Q : Value → Shared → Prop} (S : St k g n s) (h : ∀ t s', St k g n s' → Q (.int (a + b) t) s') : wpAny (Mo w) A (binaryOp .Add (.int a t) (.int b u)) Q E s := add_int (h _ _ (S.toks _))
theorem i_sub {a b : Int} {t u : Tok} {Q : Value → Shared → Prop} (S : St k g n s) (h : ∀ t s', St k g n s' → Q (.int (a - b) t) s') : wpAny (Mo w) A (binaryOp .Sub (.int a t) (.int b u)) Q E s := PyProof.Rows.sub_int (h _ _ (S.toks _))
theorem i_mod {a b : Int} {t u : Tok} {Q : Value → Shared → Prop} (S : St k g n s) (hb : b ≠ 0) (h : ∀ t s', St k g n s' → Q (.int (a.fmod b) t) s') : wpAny (Mo w) A (binaryOp .Mod (.int a t) (.int b u)) Q E s := PyProof.Rows.mod_int hb (h _ _ (S.toks _))
theorem i_mul {a b : Int} {t u : Tok} {Q : Value → Shared → Prop} (S : St k g n s) (hm : IntMulOk a b) (h : ∀ t s', St k g n s' → Q (.int (a * b) t) s') : wpAny (Mo w) A (binaryOp .Mult (.int a t) (.int b u)) Q E s := PyProof.Rows.mul_int (h _ _ (S.toks _)) hm
theorem i_div {a b : Int} {t u : Tok} {Q : Value → Shared → Prop} (S : St k g n s) (hb : b ≠ 0) (hs : b.natAbs < 1073741824) (h : ∀ t s', St k g n s' → Q (.int (a.fdiv b) t) s') : wpAny (Mo w) A (binaryOp .FloorDiv (.int a t) (.int b u)) Q E s :=
  PyProof.Rows.floordiv_int hb (h _ _ (S.toks _)) (.inl (PyProof.noPylong_small hs))
theorem i_pow {a b : Int} {t u : Tok} {Q : Value → Shared → Prop} (S : St k g n s) (h0 : 0 ≤ b) (h1 : b ≤ 1000000) (ha : a.natAbs < 2 ^ 64) (h : ∀ t s', St k g n s' → Q (.int (a ^ b.toNat) t) s') : wpAny (Mo w) A (binaryOp .Pow (.int a t) (.int b u)) Q E s :=
  PyProof.Rows.pow_int_small h0 h1 ha (h _ _ (S.toks _))
theorem c_lt {a b : Int} {t u : Tok} {Q : Value → Shared → Prop} (h : Q (.bool (decide (a < b))) s) : wpAny (Mo w) A (compareOp .Lt (.int a t) (.int b u)) Q E s := PyProof.Rows.lt_int h
theorem c_gt {a b : Int} {t u : Tok} {Q : Value → Shared → Prop} (h : Q (.bool (decide (b < a))) s) : wpAny (Mo w) A (compareOp .Gt (.int a t) (.int b u)) Q E s := PyProof.Rows.gt_int h
theorem c_eq {a b : Int} {t u : Tok} {Q : Value → Shared → Prop} (h : Q (.bool (a == b)) s) : wpAny (Mo w) A (compareOp .Eq (.int a t) (.int b u)) Q E s := PyProof.Rows.eq_int h
theorem c_ne {a b : Int} {t u : Tok} {Q : Value → Shared → Prop} (h : Q (.bool (a != b)) s) : wpAny (Mo w) A (compareOp .NotEq (.int a t) (.int b u)) Q E s := PyProof.Rows.ne_int h

-- control
theorem x_nil {Q : Flow → Shared → Prop} (h : Q .next s) : wpAny (Mo w) A (execs [] env) Q E s := wpAny_execs_nil h
theorem x_cons {st : Stmt} {rest : List Stmt} {Q : Flow → Shared → Prop} (h : wpAny (Mo w) A (exec st env) (ConsK w A E env rest Q) E s) :
    wpAny (Mo w) A (execs (st :: rest) env) Q E s := wpAny_execs_cons h
theorem x_step {st : Stmt} {rest : List Stmt} {Q : Flow → Shared → Prop} (h : wpAny (Mo w) A (exec st env) (fun f s' => f = .next ∧ wpAny (Mo w) A (execs rest env) Q E s') E s) :
    wpAny (Mo w) A (execs (st :: rest) env) Q E s := wpAny_execs_cons (wpAny_mono h (fun f s' ⟨e, x⟩ => by subst e; exact x) fun _ _ x => x)
theorem x_assign {x : Str} {p : Pos} {value : Expr} {pos : Pos} {Q : Flow → Shared → Prop} (h : wpAny (Mo w) A (eval value env) (fun v s₁ => wpAny (Mo w) A (storeName env x v) (fun _ s₂ => Ap Q .next s₂) E s₁) E s)
    (hs : swapsWith value (some (.Name x p)) pos.line env = pure false) : wpAny (Mo w) A (exec (.Assign [.Name x p] value pos) env) Q E s := wpAny_Assign_Name h hs
theorem x_assignSub {o i : Expr} {p : Pos} {value : Expr} {pos : Pos} {Q : Flow → Shared → Prop}
    (h : wpAny (Mo w) A (eval value env) (fun v s₁ => wpAny (Mo w) A (eval o env) (fun ov s₂ => wpAny (Mo w) A (eval i env) (fun iv s₃ => wpAny (Mo w) A (setItem ov iv v) (fun _ s₄ => Ap Q .next s₄) E s₃) E s₂) E s₁) E s)
    (hs : swapsWith value (some (.Subscript o i p)) pos.line env = pure false) : wpAny (Mo w) A (exec (.Assign [.Subscript o i p] value pos) env) Q E s := wpAny_Assign_Subscript h hs
theorem x_asg {x : Str} {p : Pos} {value : Expr} {pos : Pos} {rest : List Stmt} {Q : Flow → Shared → Prop} (h : wpAny (Mo w) A (eval value env) (StoreK w A E env x rest Q) E s)
    (hs : swapsWith value (some (.Name x p)) pos.line env = pure false) : wpAny (Mo w) A (execs (.Assign [.Name x p] value pos :: rest) env) Q E s :=
  x_step (x_assign (wpAny_mono h (fun _ _ h₁ => wpAny_mono h₁ (fun _ _ h₂ => ⟨rfl, h₂⟩) fun _ _ x => x) fun _ _ x => x) hs)
theorem x_subS {o i : Expr} {p : Pos} {value : Expr} {pos : Pos} {rest : List Stmt} {Q : Flow → Shared → Prop}
    (h : wpAny (Mo w) A (eval value env) (fun v s₁ => wpAny (Mo w) A (eval o env) (fun ov s₂ => wpAny (Mo w) A (eval i env) (fun iv s₃ => wpAny (Mo w) A (setItem ov iv v) (fun _ s₄ => wpAny (Mo w) A (execs rest env) Q E s₄) E s₃) E s₂) E s₁) E s)
    (hs : swapsWith value (some (.Subscript o i p)) pos.line env = pure false) : wpAny (Mo w) A (execs (.Assign [.Subscript o i p] value pos :: rest) env) Q E s :=
  x_step (x_assignSub (wpAny_mono h (fun _ _ h₁ => wpAny_mono h₁ (fun _ _ h₂ => wpAny_mono h₂ (fun _ _ h₃ => wpAny_mono h₃ (fun _ _ h₄ => ⟨rfl, h₄⟩) fun _ _ x => x) fun _ _ x => x) fun _ _ x => x) fun _ _ x => x) hs)
theorem x_if {test : Expr} {body orelse : List Stmt} {pos : Pos} {Q : Flow → Shared → Prop} (h : wpAny (Mo w) A (isTrue test env (eval test env)) (IfK w A E env body orelse Q) E s) :
    wpAny (Mo w) A (exec (.If test body orelse pos) env) Q E s := wpAny_If h
theorem x_return {e : Expr} {pos : Pos} {Q : Flow → Shared → Prop} (h : wpAny (Mo w) A (eval e env) (RetuK Q) E s) : wpAny (Mo w) A (exec (.Return (some e) pos) env) Q E s := wpAny_Return_some h
theorem e_bin {l r : Expr} {op : Operator} {pos : Pos} {Q : Value → Shared → Prop} (h : wpAny (Mo w) A (eval l env) (BinK w A E env op r Q) E s) :
    wpAny (Mo w) A (eval (.BinOp l op r pos) env) Q E s := wpAny_BinOp h
theorem t_cmp {l r : Expr} {op : CmpOp} {pos : Pos} {whole : Sem Value} {Q : Bool → Shared → Prop} (h : wpAny (Mo w) A (eval l env) (CmpK w A E env op r Q) E s)
    (hm : behindInMarks op r = false) : wpAny (Mo w) A (isTrue (.Compare l [op] [r] pos) env whole) Q E s := wpAny_isTrue_Compare1 h hm
theorem t_val {e : Expr} {whole : Sem Value} {Q : Bool → Shared → Prop} (h : wpAny (Mo w) A whole (TruK w A E Q) E s)
    (he : isTrue e env whole = (do let v ← whole; standAt e.pos; holding [v] (truthy v))) : wpAny (Mo w) A (isTrue e env whole) Q E s := wpAny_isTrue_value h he
theorem t_bool {b : Bool} {Q : Bool → Shared → Prop} (h : Q b s) : wpAny (Mo w) A (truthy (.bool b)) Q E s := wpAny_truthy_bool h

-- lists
theorem l_len {a : Addr} {vs : List Value} {Q : Value → Shared → Prop} (S : St k g n s) (hl : s.heap.IsList a vs.toArray) (hz : vs.length ≤ sizeLine) (h : ∀ t s', St k g n s' → Q (.int vs.length t) s') : wpAny (Mo w) A (call (.builtin "len") [.ref a]) Q E s := by
  refine len_list hl ?_ ?_
  · rw [List.size_toArray]; have : sizeLine = 16777216 := rfl; omega
  · rw [List.size_toArray]; exact h _ _ (S.toks _)
theorem l_truthy {a : Addr} {vs : List Value} {Q : Bool → Shared → Prop} (S : St k g n s) (hl : s.heap.IsList a vs.toArray) (hz : vs.length ≤ sizeLine) (h : ∀ s', St k g n s' → Q (!vs.isEmpty) s') : wpAny (Mo w) A (truthy (.ref a)) Q E s := by
  refine wpAny_truthy_list hl ?_ ?_
  · rw [List.size_toArray]; have : sizeLine = 16777216 := rfl; omega
  · have e : vs.toArray.isEmpty = vs.isEmpty := by simp
    rw [e]; exact h _ (S.toks _)
theorem e_sub {value slice : Expr} {pos : Pos} {Q : Value → Shared → Prop} (h : wpAny (Mo w) A (eval value env) (SubK w A E env value slice Q) E s) :
    wpAny (Mo w) A (eval (.Subscript value slice pos) env) Q E s := Subscript_ h
theorem l_item {value slice : Expr} {l : Addr} {vs : List Value} {i : Int} {u : Tok} {x : Value} {Q : Value → Shared → Prop} (hl : s.heap.IsList l vs.toArray) (h0 : 0 ≤ i) (hf : i < 2 ^ 63) (hx : vs[i.toNat]? = some x) (h : Q x s)
    (hs : subscripted slice false (.ref l) (.int i u) = operate [.ref l, .int i u] (getItem (.ref l) (.int i u))) : wpAny (Mo w) A (subscriptTail value slice (.ref l) (.int i u)) Q E s :=
  tail_any hl.typeIs slot_list_getitem.lookup (wpAny_getItem_list hl h0 hf (by simpa using hx) h) hs
theorem setItem_plain {l : Addr} {its : Array Value} {i : Int} {t : Tok} {v : Value} {Q : Unit → Shared → Prop} (hl : s.heap.PlainList l its) (h0 : 0 ≤ i) (hf : i < 2 ^ 63) (hn : i < its.size)
    (hQ : ∀ h', h'.PlainList l (its.setIfInBounds i.toNat v) → Heap.SameBut l s.heap h' → Q () { s with heap := h' }) : wpAny (Mo w) A (setItem (.ref l) (.int i t) v) Q E s := by
  obtain ⟨ne, ho⟩ := id hl
  unfold setItem
  try with_reducible refine wpAny_holding ?_
  first | refine wpAny_bind (wpAny_pure ?_) | skip
  refine wpAny_bind (wpAny_sequenceKey hl.isList.typeIs (by decide) ?_)
  refine wpAny_bind (wpAny_callSpecial?_slot (name := Str.ofString "__setitem__") hl.isList.typeIs slot_list_setitem
    (wpAny_call_entry slot_list_setitem hl.isList.typeIs entry_list_setitem ?_ (args_list_setitem _ _ _)))
  show wpAny _ _ (Builtin.List.listSubscript? (.int i t) >>= _) _ _ s
  refine wpAny_bind (wpAny_listSubscript_int (fitsIndex_of h0 hf) ?_)
  clear hf
  obtain ⟨j, rfl⟩ := Int.eq_ofNat_of_zero_le h0
  have hj : j < its.size := by omega
  have hx' : its[j]? = some its[j] := Array.getElem?_eq_getElem hj
  show wpAny _ _ ((seqItemAt l j >>= fun r => pure (r.map (j, ·))) >>= _) _ _ s
  refine wpAny_bind (wpAny_bind (wpAny_seqItemAt ho rfl (wpAny_pure ?_)))
  rw [hx']
  show wpAny _ _ (setSeqItemAt l j v >>= _) _ _ s
  have e : Obj.mapSeq (·.setIfInBounds j v) { cls := .type "list", data := .seq its ne } = { cls := .type "list", data := .seq (its.setIfInBounds j v) ne } := by simp [Obj.mapSeq]
  have hfin : (s.heap.update l (Obj.mapSeq (·.setIfInBounds j v))).PlainList l (its.setIfInBounds j v) := ⟨ne, by rw [Heap.get?_update_self _ ho (by rw [e]; rfl), e]⟩
  refine wpAny_bind (wpAny_setSeqItemAt ho rfl ?_)
  first
    | exact wpAny_bind (wpAny_pure (wpAny_pure ⟨.none, rfl, wpAny_pure (hQ _ hfin (Heap.SameBut.update ..))⟩))
    | exact wpAny_pure ⟨.none, rfl, wpAny_pure (hQ _ hfin (Heap.SameBut.update ..))⟩
theorem l_set {l : Addr} {vs : List Value} {i : Int} {t : Tok} {v : Value} {Q : Unit → Shared → Prop} (S : St k g n s) (hu : Upd l (.lst (vs.set i.toNat v)) (.lst vs) n n') (h0 : 0 ≤ i) (hf : i < 2 ^ 63) (hn : i < vs.length) (h : ∀ s', St k g n' s' → Q () s') :
    wpAny (Mo w) A (setItem (.ref l) (.int i t) v) Q E s := by
  refine setItem_plain (S.plainList hu.mem) h0 hf (by simpa using hn) fun h' hp hs => h _ (S.upd hu (fun b o hb e => (hs.2 b hb).trans e) ?_)
  have := desc_lst hp
  simpa using this

-- calls
theorem e_call {func : Expr} {args : List Expr} {pos : Pos} {Q : Value → Shared → Prop} (h : wpAny (Mo w) A (eval func env) (CallK w A E env pos args Q) E s)
    (he : eval (.Call func args [] pos) env = (do callWith pos (← eval func env) [] (backTo pos (starEach args env)) (backToKw pos (keywordEach [] env)))) : wpAny (Mo w) A (eval (.Call func args [] pos) env) Q E s := Call_ h he
theorem a_nil {pos : Pos} {Q : List Value → Shared → Prop} (h : Q [] s) : wpAny (Mo w) A (spliced (backTo pos (starEach [] env))) Q E s := args_nil h
theorem a_cons {e : Expr} {rest : List Expr} {pos : Pos} {Q : List Value → Shared → Prop} (h : wpAny (Mo w) A (eval e env) (ArgK w A E env pos rest Q) E s)
    (he : starEach (e :: rest) env = (false, eval e env) :: starEach rest env) : wpAny (Mo w) A (spliced (backTo pos (starEach (e :: rest) env))) Q E s := args_cons h he
theorem k_blt {pos : Pos} {id : String} {e : Expr} {rest : List Expr} {Q : Value → Shared → Prop} (h : wpAny (Mo w) A (spliced (backTo pos (starEach (e :: rest) env))) (BltK w A E id Q) E s)
    (he : starEach (e :: rest) env = (false, eval e env) :: starEach rest env) (hp : (backTo pos (starEach rest env)).any (·.1) = false) : wpAny (Mo w) A (callWith pos (.builtin id) [] (backTo pos (starEach (e :: rest) env)) []) Q E s := callWith_builtin1 h he hp
theorem k_type {pos : Pos} {id : String} {e : Expr} {rest : List Expr} {Q : Value → Shared → Prop} (h : wpAny (Mo w) A (spliced (backTo pos (starEach (e :: rest) env))) (TypK w A E id Q) E s)
    (he : starEach (e :: rest) env = (false, eval e env) :: starEach rest env) (hp : (backTo pos (starEach rest env)).any (·.1) = false) : wpAny (Mo w) A (callWith pos (.type id) [] (backTo pos (starEach (e :: rest) env)) []) Q E s := callWith_type1 h he hp
theorem k_fn {pos : Pos} {a : Addr} {e : Expr} {rest : List Expr} {Q : Value → Shared → Prop} (hf : ∃ fd, (topK w.params).lookup a = some ⟨.type "function", none, .func fd, #[]⟩)
    (h : wpAny (Mo w) A (spliced (backTo pos (starEach (e :: rest) env))) (FnK w A E a Q) E s)
    (he : starEach (e :: rest) env = (false, eval e env) :: starEach rest env) : wpAny (Mo w) A (callWith pos (.ref a) [] (backTo pos (starEach (e :: rest) env)) []) Q E s := by
  obtain ⟨fd, hf⟩ := hf
  exact callWith_def (o := ⟨.type "function", none, .func fd, #[]⟩) rfl (wpAny_mono h (fun vs s₁ ⟨W, c⟩ => ⟨W.top _ _ hf, wpAny_call c⟩) fun _ _ x => x) he
end
structure It (w : World) (A : Around) (g : Heap) (I : Addr) (N : Nat) (P : Nat → Value → Prop) (D : Nat → Obj → Prop) : Prop where
  next : ∀ (i : Nat) (s : Shared) (Q : Option Value → Shared → Prop) (E : Value → Shared → Prop), i < N → (∀ b o, g.get? b = some o → s.heap.get? b = some o) → (∃ o, s.heap.get? I = some o ∧ D i o) →
    (∀ v h' tk, P i v → (∃ o, h'.get? I = some o ∧ D (i + 1) o) → (∀ b o, b ≠ I → s.heap.get? b = some o → h'.get? b = some o) → Q (some v) { s with heap := h', toks := tk }) → wpAny (Mo w) A (pyNext (.ref I)) Q E s
  stop : ∀ (s : Shared) (Q : Option Value → Shared → Prop) (E : Value → Shared → Prop), (∀ b o, g.get? b = some o → s.heap.get? b = some o) → (∃ o, s.heap.get? I = some o ∧ D N o) →
    (∀ h' tk, (∀ b o, b ≠ I → s.heap.get? b = some o → h'.get? b = some o) → Q none { s with heap := h', toks := tk }) → wpAny (Mo w) A (pyNext (.ref I)) Q E s
theorem It.list {w : World} {A : Around} {g : Heap} {l : Addr} {vs : List Value} (hh : A.handled = none) (hl : g.IsList l vs.toArray) (I : Addr) :
    It w A g I vs.length (fun i v => vs[i]? = some v) (fun i o => o.cls = .type "list_iterator" ∧ o.data = .fields #[.ref l, .int i 0]) where
  next := fun i s Q E hi hg ⟨o, ho, hc, hd⟩ hQ => by
    have hx : vs[i]? = some vs[i] := List.getElem?_eq_getElem hi
    refine wpAny_pyNext_list_item ⟨o, ho, hc, hd⟩ (hl.at fun o e => hg _ o e) (x := vs[i]) (by simpa using hx) fun h' ⟨o', e1, e2, e3⟩ hs => ?_
    exact hQ _ h' s.toks hx ⟨o', e1, e2, e3⟩ fun b o hb e => (hs.2 b hb).trans e
  stop := fun s Q E hg ⟨o, ho, hc, hd⟩ hQ => by
    refine wpAny_pyNext_list_end hh ⟨o, ho, hc, hd⟩ (hl.at fun o e => hg _ o e) (by simp) fun h' hs => ?_
    exact hQ h' s.toks fun b o hb e => hs b o hb e
theorem It.range {w : World} {A : Around} {g : Heap} {a : Int} {N : Nat} (hh : A.handled = none) (I : Addr) :
    It w A g I N (fun i v => ∃ t, v = .int (a + i) t) (fun i o => o = { cls := .type "range_iterator", dict := none, data := .fields #[rawInt (a + i), rawInt ((N : Int) - i), rawInt 1], slots := #[] }) where
  next := fun i s Q E hi hg ⟨o, ho, hd⟩ hQ => by
    subst hd
    refine wpAny_pyNext_range_item (x := a + i) (left := (N : Int) - i) (step := 1) ho (by omega) fun h' e1 hs => ?_
    refine hQ _ h' _ ⟨_, rfl⟩ ⟨_, e1, ?_⟩ fun b o hb e => (hs.2 b hb).trans e
    have q1 : a + (i : Int) + 1 = a + ((i + 1 : Nat) : Int) := by omega
    have q2 : (N : Int) - i - 1 = (N : Int) - ((i + 1 : Nat) : Int) := by omega
    rw [q1, q2]
  stop := fun s Q E hg ⟨o, ho, hd⟩ hQ => by
    subst hd
    refine wpAny_pyNext_range_end (x := a + N) (left := (N : Int) - N) (step := 1) hh ho (by omega) fun h' hs => ?_
    exact hQ h' s.toks fun b o hb e => hs b o hb e
section
variable {w : World} {A : Around} {E : Value → Shared → Prop} {k : Shared} {g : Heap} {env : Env} {sc : Scope} {L : Addr} {cl : List (Str × Addr)} {d : Nat} {s : Shared} {n n' n'' : Led}
theorem loop_it {I : Addr} {N : Nat} {P : Nat → Value → Prop} {D : Nat → Obj → Prop} {x : Str} {px : Pos} {body : List Stmt} {Q : Flow → Shared → Prop} {E₀ : Value → Shared → Prop} (it : It w A g I N P D) (S : St k g ((I, .prop (D 0)) :: n) s) (J : Nat → Led → Prop) (h0 : J 0 n)
    (turn : ∀ i v n₁ s₁ E', i < N → P i v → J i n₁ → St k g ((I, .prop (D (i + 1))) :: n₁) s₁ →
      ∀ K : Flow → Shared → Prop, (∀ f s₃, (match f with
        | .next => ∃ n₂, J (i + 1) n₂ ∧ St k g ((I, .prop (D (i + 1))) :: n₂) s₃
        | .cont => ∃ n₂, J (i + 1) n₂ ∧ St k g ((I, .prop (D (i + 1))) :: n₂) s₃
        | .brk => Ap Q .next s₃
        | .ret v => Ap Q (.ret v) s₃) → Kont K f s₃) →
      wpAny (Mo w) A (storeName env x v) (fun _ s₂ => wpAny (Mo w) A (execs body env) (Kont K) E' s₂) E' s₁)
    (done : ∀ n₁ s₁, J N n₁ → St k g n₁ s₁ → Q .next s₁) :
    codeAny (Mo w) A (.forLoop (.Name x px) (.ref I) body [] env) (fun r s' => match r with | .ok f => Ap Q f s' | .error e => cameBackBy (Mo w) A env E₀ e s') s := by
  refine codeAny_forLoop (fun m s₁ => ∃ i n₁, m = N - i ∧ i ≤ N ∧ J i n₁ ∧ St k g ((I, .prop (D i)) :: n₁) s₁) ?_ N ⟨0, n, by omega, by omega, h0, S⟩ (fun _ => rfl)
  rintro m s₁ ⟨i, n₁, rfl, hi, hJ, S₁⟩
  by_cases hlt : i < N
  · refine it.next i s₁ _ _ hlt S₁.keep (S₁.get (.head _)) fun v h' tk hP hD hk => ?_
    have S₂ : St k g ((I, .prop (D (i + 1))) :: n₁) { s₁ with heap := h', toks := tk } := S₁.upd Upd.head hk hD
    refine wpAny_assign_Name (wpAny_mono (K2 (turn i v n₁ _ _ hlt hP hJ S₂)) (fun _ s₂ h2 => wpAny_mono h2 (fun f s₃ h3 => ?_) fun _ _ x => x) fun _ _ x => x)
    cases f with
    | next => obtain ⟨n₂, hJ2, S3⟩ := h3; exact ⟨N - (i + 1), by omega, i + 1, n₂, rfl, hlt, hJ2, S3⟩
    | cont => obtain ⟨n₂, hJ2, S3⟩ := h3; exact ⟨N - (i + 1), by omega, i + 1, n₂, rfl, hlt, hJ2, S3⟩
    | brk => exact h3
    | ret v => exact h3
  · have : i = N := by omega
    subst this
    refine it.stop s₁ _ _ S₁.keep (S₁.get (.head _)) fun h' tk hk => ?_
    exact wpAny_execs_nil (done n₁ _ hJ (S₁.tl hk rfl rfl))
theorem x_for {target iter : Expr} {body orelse : List Stmt} {pos : Pos} {Q : Flow → Shared → Prop}
    (h : wpAny (Mo w) A (eval iter env) (fun x s₁ => wpAny (Mo w) A (pyIter x) (fun it s₂ => codeAny (Mo w) A (.forLoop target it body orelse env) (fun r s' => match r with | .ok f => Ap Q f s' | .error e => cameBackBy (Mo w) A env E e s') s₂) E s₁) E s)
    (hs : ∀ x, foldedSetIterable iter env x = pure x) : wpAny (Mo w) A (exec (.For target iter body orelse pos) env) Q E s := wpAny_For h hs
theorem p_list {l : Addr} {vs : List Value} {Q : Value → Shared → Prop} (S : St k g n s) (hl : g.IsList l vs.toArray)
    (h : ∀ I s', St k g ((I, .prop fun o => o.cls = .type "list_iterator" ∧ o.data = .fields #[.ref l, .int (0 : Nat) 0]) :: n) s' → Q (.ref I) s') : wpAny (Mo w) A (pyIter (.ref l)) Q E s :=
  wpAny_pyIter_list (hl.at fun o e => S.keep _ o e) (h _ _ (S.push (tk := s.toks) ⟨rfl, rfl⟩ rfl))
@[reducible] noncomputable def rangeO (N : Nat) (t u v : Tok) : Obj := { cls := .type "range", data := .fields #[.int 0 t, .int (N : Int) u, .int 1 v] }
theorem r_range {N : Nat} {t : Tok} {Q : Value → Shared → Prop} (S : St k g n s) (h : ∀ r t u v s', St k g ((r, .obj (rangeO N t u v)) :: n) s' → Q (.ref r) s') : wpAny (Mo w) A (call (.type "range") [.int (N : Int) t]) Q E s :=
  call_range_1 (h _ _ _ _ _ (S.push (o := rangeO N _ _ _) rfl rfl))
theorem p_range {r : Addr} {N : Nat} {t u v : Tok} {Q : Value → Shared → Prop} (S : St k g ((r, .obj (rangeO N t u v)) :: n) s) (hN : N ≤ 1000000)
    (h : ∀ I s', St k g ((I, .prop fun o => o = { cls := .type "range_iterator", dict := none, data := .fields #[rawInt (0 + (0 : Nat)), rawInt ((N : Int) - (0 : Nat)), rawInt 1], slots := #[] }) :: n) s' → Q (.ref I) s') : wpAny (Mo w) A (pyIter (.ref r)) Q E s := by
  refine wpAny_pyIter_range (S.getO (.head _)) (small_one (by decide) (by decide) (by omega) (by omega)) (h _ _ ?_)
  have e : Builtin.Range.rangeSize 0 (N : Int) 1 = (N : Int) - (0 : Nat) := by
    rw [rangeSize_one]
    by_cases hz : (0 : Int) < N
    · rw [if_pos hz]; omega
    · rw [if_neg hz]; omega
  rw [e]
  exact S.drop.push (tk := s.toks) rfl rfl
end
section
variable {w : World} {A : Around} {E : Value → Shared → Prop} {k : Shared} {g : Heap} {env : Env} {d : Nat} {s : Shared} {n n' n'' : Led}
-- statements
theorem x_expr {e : Expr} {pos : Pos} {Q : Flow → Shared → Prop} (h : wpAny (Mo w) A (eval e env) (fun _ s' => Ap Q .next s') E s)
    (hi : interactive env = false) (hs : swapsWith e none pos.line env = pure false) : wpAny (Mo w) A (exec (.Expr e pos) env) Q E s := wpAny_Expr_any h hi hs
theorem x_exprS {e : Expr} {pos : Pos} {rest : List Stmt} {Q : Flow → Shared → Prop} (h : wpAny (Mo w) A (eval e env) (ExprK w A E env rest Q) E s)
    (hi : interactive env = false) (hs : swapsWith e none pos.line env = pure false) : wpAny (Mo w) A (execs (.Expr e pos :: rest) env) Q E s := x_step (x_expr (wpAny_mono h (fun _ _ x => ⟨rfl, x⟩) fun _ _ x => x) hi hs)
theorem e_method {o : Expr} {name : Str} {apos pos : Pos} {args : List Expr} {pl : Sem Bool} {Q : Value → Shared → Prop}
    (h : wpAny (Mo w) A (eval o env) (MetK w A E env name pl pos args Q) E s)
    (he : eval (.Call (.Attribute o name apos) args [] pos) env = (do
      let ov ← eval o env
      standAt apos.atName
      let (f, first) ← holding [ov] (getMethod ov name pl)
      callWith pos f first (backTo pos (starEach args env)) [])) : wpAny (Mo w) A (eval (.Call (.Attribute o name apos) args [] pos) env) Q E s := MethodCall_ h he
theorem e_if {test body orelse : Expr} {pos : Pos} {Q : Value → Shared → Prop}
    (h : wpAny (Mo w) A (isTrue test env (eval test env)) (IfeK w A E env body orelse Q) E s) : wpAny (Mo w) A (eval (.IfExp test body orelse pos) env) Q E s :=
  wpAny_IfExp h
theorem t_not {x : Expr} {pos : Pos} {whole : Sem Value} {Q : Bool → Shared → Prop} (h : wpAny (Mo w) A (isTrue x env (eval x env)) (NotK Q) E s) : wpAny (Mo w) A (isTrue (.UnaryOp .Not x pos) env whole) Q E s := wpAny_isTrue_Not h
theorem t_boolop {op : BoolOp} {values : List Expr} {pos : Pos} {whole : Sem Value} {Q : Bool → Shared → Prop} (h : wpAny (Mo w) A (allTrue op values env) Q E s) : wpAny (Mo w) A (isTrue (.BoolOp op values pos) env whole) Q E s := wpAny_isTrue_BoolOp h
theorem t_and_nil {Q : Bool → Shared → Prop} (h : Q true s) : wpAny (Mo w) A (allTrue .And [] env) Q E s := wpAny_allTrue_And_nil h
theorem t_or_nil {Q : Bool → Shared → Prop} (h : Q false s) : wpAny (Mo w) A (allTrue .Or [] env) Q E s := wpAny_allTrue_Or_nil h
theorem t_and {x : Expr} {rest : List Expr} {Q : Bool → Shared → Prop} (h : wpAny (Mo w) A (isTrue x env (eval x env)) (AndK w A E env rest Q) E s) : wpAny (Mo w) A (allTrue .And (x :: rest) env) Q E s :=
  wpAny_allTrue_And_cons h
theorem t_or {x : Expr} {rest : List Expr} {Q : Bool → Shared → Prop} (h : wpAny (Mo w) A (isTrue x env (eval x env)) (OrK w A E env rest Q) E s) : wpAny (Mo w) A (allTrue .Or (x :: rest) env) Q E s :=
  wpAny_allTrue_Or_cons h
theorem c_is {v : Value} {Q : Value → Shared → Prop} (h : Q (.bool (v == .none)) s) : wpAny (Mo w) A (compareOp .Is v .none) Q E s := is_none h
theorem c_isnot {v : Value} {Q : Value → Shared → Prop} (h : Q (.bool (!(v == .none))) s) : wpAny (Mo w) A (compareOp .IsNot v .none) Q E s := isNot_none h
theorem str_beq (x y : Str) : (x.cps.toList == y.cps.toList) = (x == y) := by
  rw [Bool.eq_iff_iff, beq_iff_eq, beq_iff_eq]
  cases x; cases y
  simp
theorem c_eqs {x y : Str} {t u : Tok} {Q : Value → Shared → Prop} (h : Q (.bool (x == y)) s) : wpAny (Mo w) A (compareOp .Eq (.str x t) (.str y u)) Q E s := P.eq_str (by rw [str_beq]; exact h)
theorem c_nes {x y : Str} {t u : Tok} {Q : Value → Shared → Prop} (h : Q (.bool (x != y)) s) : wpAny (Mo w) A (compareOp .NotEq (.str x t) (.str y u)) Q E s := P.ne_str (by
  have : (x.cps.toList != y.cps.toList) = (x != y) := by show (!(x.cps.toList == y.cps.toList)) = !(x == y); rw [str_beq]
  rw [this]; exact h)
-- lists
theorem St.plainObj (S : St k g n s) {a : Addr} {vs : List Value} (hm : (a, .lst vs) ∈ n) : ∃ c, s.heap.get? a = some { cls := .type "list", dict := none, data := .seq vs.toArray c, slots := #[] } := by
  obtain ⟨o, e, c, rfl⟩ := S.get hm; exact ⟨c, e⟩
theorem g_append {l : Addr} {vs : List Value} {pl : Sem Bool} {Q : Value × List Value → Shared → Prop} (S : St k g n s) (hm : (l, .lst vs) ∈ n) (h : Q (.builtin "list.append", [.ref l]) s) : wpAny (Mo w) A (getMethod (.ref l) (Str.ofString "append") pl) Q E s := by
  obtain ⟨c, e⟩ := S.plainObj hm
  exact getMethod_list_append e rfl rfl h
theorem l_append {l : Addr} {vs : List Value} {v : Value} {Q : Value → Shared → Prop} (S : St k g n s) (hu : Upd l (.lst (vs ++ [v])) (.lst vs) n n') (hz : vs.length ≤ sizeLine) (h : ∀ s', St k g n' s' → Q .none s') :
    wpAny (Mo w) A (call (.builtin "list.append") [.ref l, v]) Q E s := by
  refine wpAny_list_append_plain (S.plainList hu.mem) (fun h' hp hs => h _ (S.upd hu (fun b o hb e => (hs.2 b hb).trans e) ?_)) (by simpa using hz)
  have := desc_lst hp
  simpa using this
theorem e_list {elts : List Expr} {pos : Pos} {Q : Value → Shared → Prop}
    (h : wpAny (Mo w) A (spliced (backTo pos (starEach elts env))) (fun vs s₁ => ∃ n, St k g n s₁ ∧ vs.length ≤ sizeLine ∧ ∀ a s', St k g ((a, .lst vs) :: n) s' → Ap Q (.ref a) s') E s) : wpAny (Mo w) A (eval (.List elts pos) env) Q E s := by
  refine wpAny_List (wpAny_mono h (fun vs s₁ ⟨n, S, hz, hQ⟩ => ⟨hz, hQ _ _ (S.push (tk := s₁.toks) (d := .lst vs) ⟨0, rfl⟩ rfl)⟩) fun _ _ x => x)
@[reducible] noncomputable def tupO (vs : List Value) : Obj := { cls := .type "tuple", data := .seq vs.toArray }
theorem e_tuple {elts : List Expr} {c : Nat} {pos : Pos} {Q : Value → Shared → Prop}
    (h : wpAny (Mo w) A (spliced (backTo pos (starEach elts env))) (fun vs s₁ => ∃ n, St k g n s₁ ∧ vs.length ≤ sizeLine ∧ ∀ a s', St k g ((a, .obj (tupO vs)) :: n) s' → Ap Q (.ref a) s') E s) : wpAny (Mo w) A (eval (.Tuple elts c pos) env) Q E s := by
  refine wpAny_Tuple (wpAny_mono h (fun vs s₁ ⟨n, S, hz, hQ⟩ => ⟨hz, hQ _ _ (S.push (tk := s₁.toks) (d := .obj (tupO vs)) rfl rfl)⟩) fun _ _ x => x)
theorem l_copy {l : Addr} {vs : List Value} {Q : Value → Shared → Prop} (S : St k g n s) (hl : s.heap.IsList l vs.toArray) (hz : vs.length ≤ sizeLine) (h : ∀ a s', St k g ((a, .lst vs) :: n) s' → Q (.ref a) s') :
    wpAny (Mo w) A (call (.type "list") [.ref l]) Q E s := by
  obtain ⟨o, ho, hc, c, hd⟩ := hl
  refine call_list_seq l (.inl rfl) ho hc hd (fun h' c' hk e => h _ _ ?_) (by simpa using hz)
  exact (S.kept (h' := h') (tk := s.toks) hk).add ⟨_, e, c', rfl⟩ S.fresh (S.notin (Nat.le_refl _))
theorem l_add {a b : Addr} {vs ws : List Value} {Q : Value → Shared → Prop} (S : St k g n s) (ha : (a, .lst vs) ∈ n) (hb : (b, .lst ws) ∈ n) (hz : vs.length + ws.length ≤ sizeLine) (h : ∀ c s', St k g ((c, .lst (vs ++ ws)) :: n) s' → Q (.ref c) s') :
    wpAny (Mo w) A (binaryOp .Add (.ref a) (.ref b)) Q E s := by
  obtain ⟨c1, e1⟩ := S.plainObj ha
  obtain ⟨c2, e2⟩ := S.plainObj hb
  refine P.add_list e1 e2 (h _ _ (S.push (tk := s.toks) (d := .lst (vs ++ ws)) ⟨0, by simp⟩ rfl)) (by simpa using hz)
theorem fold_rep (vs : List Value) (m : Nat) : List.foldl (fun x1 x2 => x1 ++ x2) #[] (List.replicate (if vs.toArray.isEmpty = true then 0 else m) vs.toArray) = (List.replicate m vs).flatten.toArray := listMul_foldl_if _ _
end
theorem Wld.inK {w : World} {h : Heap} (W : Wld w h) : (topK w.params).In h := W.top
inductive Ents : List DictEntry → List (Str × Value) → Prop
  | nil : Ents [] []
  | cons {h : Int} {x : Str} {t : Tok} {v : Value} {es : List DictEntry} {l : List (Str × Value)} : Ents es l → Ents (⟨h, .str x t, v⟩ :: es) ((x, v) :: l)
theorem Ents.length {es : List DictEntry} {l : List (Str × Value)} (e : Ents es l) : es.length = l.length := by
  induction e with
  | nil => rfl
  | cons _ ih => simp [ih]
theorem Ents.noRef {es : List DictEntry} {l : List (Str × Value)} (e : Ents es l) : es.any (·.refKey) = false := by
  induction e with
  | nil => rfl
  | cons _ ih => rw [List.any_cons, ih]; rfl
theorem Ents.get {es : List DictEntry} {l : List (Str × Value)} (e : Ents es l) (name : Str) : getL name es = some (l.lookup name) := by
  induction e with
  | nil => rfl
  | @cons h x t v es l e ih =>
    have hk : (DictEntry.mk h (.str x t) v).key.isStr name = (x == name) := rfl
    unfold getL at ih ⊢
    by_cases q : x = name
    · subst q
      rw [List.find?_cons, hk, beq_self_eq_true, List.lookup_cons, beq_self_eq_true]
    · have q1 : (x == name) = false := beq_false_of_ne q
      have q2 : (name == x) = false := beq_false_of_ne fun e => q e.symm
      have q3 : (DictEntry.mk h (.str x t) v).refKey = false := rfl
      rw [List.find?_cons, hk, q1, List.lookup_cons, q2, List.any_cons, q3, Bool.false_or]
      exact ih
theorem Ents.put {es : List DictEntry} {l : List (Str × Value)} (e : Ents es l) {name : Str} {h : Int} {t : Tok} {v : Value} (hn : l.lookup name = none) : Ents (putL name h (.str name t) v es) (l ++ [(name, v)]) := by
  induction e with
  | nil => exact .cons .nil
  | @cons h' x t' v' es l e ih =>
    have hk : (DictEntry.mk h' (.str x t') v').key.isStr name = (x == name) := rfl
    rw [List.lookup_cons] at hn
    cases q : (name == x) with
    | true => rw [q] at hn; cases hn
    | false =>
      rw [q] at hn
      have q1 : (x == name) = false := beq_false_of_ne fun e => by rw [e, beq_self_eq_true] at q; cases q
      unfold putL
      rw [hk, q1, if_neg Bool.false_ne_true]
      exact .cons (ih hn)
noncomputable def dicD (l : List (Str × Value)) (o : Obj) : Prop := ∃ es c, o = dictOf es c ∧ Ents es l
noncomputable def InstH (h : Heap) (x C : Addr) (l : List (Str × Value)) : Prop := ∃ dx o, h.get? x = some (instObj C dx) ∧ h.get? dx = some o ∧ dicD l o
theorem InstH.keeps {h h' : Heap} {x C : Addr} {l : List (Str × Value)} (I : InstH h x C l) (k : ∀ b o, h.get? b = some o → h'.get? b = some o) : InstH h' x C l :=
  let ⟨dx, o, a, b, c⟩ := I; ⟨dx, o, k _ _ a, k _ _ b, c⟩
theorem InstH.at {h : Heap} {x C : Addr} {l : List (Str × Value)} (I : InstH h x C l) : ∃ dx es c, InstAt h x (instObj C dx) C (some (dictOf es c)) ∧ Ents es l := by
  obtain ⟨dx, o, a, b, es, c, rfl, e⟩ := I
  exact ⟨dx, es, c, ⟨a, rfl, rfl, b⟩, e⟩
section
variable {w : World} {A : Around} {E : Value → Shared → Prop} {k : Shared} {g : Heap} {env : Env} {d : Nat} {s : Shared} {n n' n'' : Led}
theorem e_attr {value : Expr} {attr : Str} {pos : Pos} {Q : Value → Shared → Prop} (h : wpAny (Mo w) A (eval value env) (AttrK w A E attr Q) E s)
    (he : eval (.Attribute value attr pos) env = (do
      let o ← eval value env
      standAt pos.atName
      let r ← holding [o] (getAttr o attr true)
      letTemporaryGo value o r
      pure r)) : wpAny (Mo w) A (eval (.Attribute value attr pos) env) Q E s := Attribute_any_ h he
theorem i_get {x C : Addr} {l : List (Str × Value)} {name : Str} {expr : Bool} {v : Value} {attr : Option Value} {Q : Value → Shared → Prop} (W : Wld w s.heap) (S : St k g n s) (I : InstH s.heap x C l) (hl : l.lookup name = some v)
    (hg : plainGet (topK w.params) C name = true) (hh : hasDictIn (topK w.params) C = true) (ha : findIn (topK w.params) (.ref C) name = some attr) (hn : noGet (topK w.params) attr = true) (hv : handedIn v = true) (h : ∀ s', St k g n s' → Q v s') :
    wpAny (Mo w) A (getAttr (.ref x) name expr) Q E s := by
  obtain ⟨dx, es, c, IA, e⟩ := I.at
  exact get_value W.inK IA (plainGet_of hg).1 (findObj_own hh ha hn (by rw [lookIn_dict, e.get, hl])) hv (h _ (S.toks _))
theorem i_osa {x dx C : Addr} {l : List (Str × Value)} {name : Str} {tk : Tok} {v : Value} {R : Result → Shared → Prop} (W : Wld w s.heap) (S : St k g n s) (hx : (x, .obj (instObj C dx)) ∈ n) (hu : Upd dx (.prop (dicD (l ++ [(name, v)]))) (.prop (dicD l)) n n')
    (hl : l.lookup name = none) (hz : l.length ≤ 100) (hp : plainOver (topK w.params) C = true) (ht : takerIn (topK w.params) C name = some none)
    (hh : hasDictIn (topK w.params) C = true) (h : ∀ s', St k g n' s' → R (.ok (.ret .none)) s') : codeAny (Mo w) A (.call (.builtin "object.__setattr__") ⟨[.ref x, .str name tk, v], []⟩) R s := by
  obtain ⟨o, D, es, c, rfl, e⟩ := S.get hu.mem
  have X := W.inK
  have IA : InstAt s.heap x (instObj C dx) C (some (dictOf es c)) := ⟨S.getO hx, rfl, rfl, D⟩
  refine osa_open X IA hp ht fun b => ?_
  obtain ⟨cd, hc, hd'⟩ := any_some hh
  have hx' := S.getO hx
  refine wpAny_bind (wpAny_pure (wpAny_bind (wpAny_bind (wpAny_loadPart hx' (wpAny_bind ((looks_clsIn X hc).here ?_))))))
  rw [hd']
  refine wpAny_pure (a := some dx) (wpAny_bind (wpAny_pure (wpAny_bind ?_)))
  unfold nsSet
  refine wpAny_bind (wpAny_bind (wpAny_askSetting (wpAny_pure (wpAny_bind (wpAny_mkText (wpAny_bind (wpAny_loadPart D ?_)))))))
  dsimp only [dictOf]
  have c' : (!es.toArray.any (·.key.isStr name) && es.toArray.any (·.refKey)) = false := by
    rw [List.any_toArray, List.any_toArray, e.noRef, Bool.and_false]
  rw [aRefKeyMayBeTheName_at, c']
  refine wpAny_updatePart D ?_
  have D' : (s.heap.update dx (Obj.putName name (PyData.keyHash w.params name) (.str name s.toks) v)).get? dx = some (dictOf (putL name (PyData.keyHash w.params name) (.str name s.toks) v es) (putN name es c)) := by
    rw [← putName_dict]
    exact Heap.get?_update_self _ D (by rw [putName_dict]; rfl)
  have e2 := e.put (h := PyData.keyHash w.params name) (t := s.toks) (v := v) hl
  refine wpAny_bind (wpAny_lookBehind D' (pastItsLine_dict (by rw [List.size_toArray, e2.length, sizeLine_eq, List.length_append, List.length_singleton]; omega)) ?_)
  exact wpAny_pure (h _ (S.upd hu (fun b o hb e => (Heap.get?_update_other _ _ (Ne.symm hb)).trans e) ⟨_, D', _, _, rfl, e2⟩))
theorem i_set {x dx C : Addr} {l : List (Str × Value)} {name : Str} {v : Value} {Q : Unit → Shared → Prop} (W : Wld w s.heap) (S : St k g n s) (hx : (x, .obj (instObj C dx)) ∈ n) (hu : Upd dx (.prop (dicD (l ++ [(name, v)]))) (.prop (dicD l)) n n')
    (hl : l.lookup name = none) (hz : l.length ≤ 100) (hs : findIn (topK w.params) (.ref C) "__setattr__" = some (some (.builtin "object.__setattr__"))) (hp : plainOver (topK w.params) C = true) (ht : takerIn (topK w.params) C name = some none)
    (hh : hasDictIn (topK w.params) C = true) (h : ∀ s', St k g n' s' → Q () s') : wpAny (Mo w) A (setAttr (.ref x) name v) Q E s := by
  obtain ⟨o, D, es, c, rfl, e⟩ := S.get hu.mem
  exact set_plain W.inK (C := C) (od := some (dictOf es c)) ⟨S.getO hx, rfl, rfl, D⟩ hs (i_osa (s := { s with toks := s.toks + 1 }) W (S.toks _) hx hu hl hz hp ht hh fun s' S' => h s' S')
theorem k_cls {pos : Pos} {C : Addr} {e : Expr} {rest : List Expr} {Q : Value → Shared → Prop} (hk : keepIn (topK w.params) (.ref C) = true)
    (h : wpAny (Mo w) A (spliced (backTo pos (starEach (e :: rest) env))) (FnK w A E C Q) E s)
    (he : starEach (e :: rest) env = (false, eval e env) :: starEach rest env) (hp : (backTo pos (starEach rest env)).any (·.1) = false) : wpAny (Mo w) A (callWith pos (.ref C) [] (backTo pos (starEach (e :: rest) env)) []) Q E s := by
  rw [he] at h ⊢
  refine callWith_of (P := (topK w.params).In) ?_ (fun _ X => keeps_K hk _ X) (evalArgs_plain (wpAny_mono h (fun vs s₁ ⟨W, c⟩ => ⟨W.inK, wpAny_call c⟩) fun _ _ x => x))
  show ((false || (backTo pos (starEach rest env)).any (·.1)) || false) = false
  rw [hp]; rfl
theorem new_cls {C fI : Addr} {rest : List Value} {R : Result → Shared → Prop} (W : Wld w s.heap) (S : St k g n s) (hm : makesIn (topK w.params) C = true) (hi : findIn (topK w.params) (.ref C) "__init__" = some (some (.ref fI))) (hf : typeIn (topK w.params) (.ref fI) = some (.type "function"))
    (h : ∀ x dx s', s.heap.objs.size ≤ dx → dx < x → (∀ b o, s.heap.get? b = some o → s'.heap.get? b = some o) → St k g ((x, .obj (instObj C dx)) :: (dx, .prop (dicD [])) :: n) s' → codeAny (Mo w) (A.under (.builtin "type.__call__" ⟨.ref C :: rest, []⟩)) (.call (.ref fI) ⟨.ref x :: rest, []⟩) (InitBack x R) s') :
    codeAny (Mo w) A (.call (.ref C) ⟨rest, []⟩) R s := by
  obtain ⟨hh, g', d, t, os⟩ := s
  have S1 := S.push (tk := t) (o := emptyDict) (d := .prop (dicD [])) ⟨[], 0, rfl, .nil⟩ rfl
  have S2 := S1.push (tk := t) (o := instObj C hh.objs.size) (d := .obj (instObj C hh.objs.size)) rfl rfl
  rw [Heap.size_push] at S2
  exact make_core (makes_of W.inK hm) (looks_findIn W.inK hi) (fun self => bind_fn W.inK self hf) (.inl rfl) (h _ hh.objs.size _ (Nat.le_refl _) (Nat.lt_succ_self _) (fun b o e => Heap.get?_push_of_some _ (Heap.get?_push_of_some _ e)) S2)
end
section
variable {w : World} {A : Around} {E : Value → Shared → Prop} {s k : Shared} {g : Heap} {n n' : Led} {env : Env} {d : Nat}
theorem x_assignAttr {o : Expr} {attr : Str} {p : Pos} {value : Expr} {pos : Pos} {Q : Flow → Shared → Prop}
    (h : wpAny (Mo w) A (eval value env) (fun v s₁ => wpAny (Mo w) A (eval o env) (fun ov s₂ => wpAny (Mo w) A (setAttr ov attr v) (fun _ s' => Ap Q .next s') E s₂) E s₁) E s)
    (hs : swapsWith value (some (.Attribute o attr p)) pos.line env = pure false) : wpAny (Mo w) A (exec (.Assign [.Attribute o attr p] value pos) env) Q E s := plainObj_wpAny_Assign_Attribute h hs
theorem x_attrS {o : Expr} {attr : Str} {p : Pos} {value : Expr} {pos : Pos} {rest : List Stmt} {Q : Flow → Shared → Prop}
    (h : wpAny (Mo w) A (eval value env) (fun v s₁ => wpAny (Mo w) A (eval o env) (fun ov s₂ => wpAny (Mo w) A (setAttr ov attr v) (fun _ s' => wpAny (Mo w) A (execs rest env) Q E s') E s₂) E s₁) E s)
    (hs : swapsWith value (some (.Attribute o attr p)) pos.line env = pure false) : wpAny (Mo w) A (execs (.Assign [.Attribute o attr p] value pos :: rest) env) Q E s :=
  x_step (x_assignAttr (wpAny_mono h (fun _ _ h₁ => wpAny_mono h₁ (fun _ _ h₂ => wpAny_mono h₂ (fun _ _ h₃ => ⟨rfl, h₃⟩) fun _ _ x => x) fun _ _ x => x) fun _ _ x => x) hs)
theorem Room.under {C : Addr} {rest : List Value} (r : Room A d) : Room (A.under (.builtin "type.__call__" ⟨.ref C :: rest, []⟩)) (d + 1) :=
  ⟨r.handled, by
    have := r.depth
    show A.depth + (Code.builtin "type.__call__" ⟨.ref C :: rest, []⟩).weight ≤ _
    have : (Code.builtin "type.__call__" ⟨.ref C :: rest, []⟩).weight ≤ 2 := by show 1 ≤ 2; decide
    omega, by
    have := r.units
    show A.units + (Code.builtin "type.__call__" ⟨.ref C :: rest, []⟩).cUnits ≤ _
    have : (Code.builtin "type.__call__" ⟨.ref C :: rest, []⟩).cUnits ≤ 10 := by first | (show 1 ≤ 10; decide) | (show 4 ≤ 10; decide)
    omega⟩
theorem St.base {s : Shared} : St s s.heap [] s := ⟨fun _ _ e => e, fun _ hp => (nomatch hp), .nil, rfl, rfl⟩
theorem St.hide (S : St k g n s) {X : Led} (hX : ∀ p ∈ X, p ∈ n) : ∀ b o, g.get? b = some o → (hideAll s.heap (X.map (·.1))).get? b = some o := fun b o e => hideAll_get _ (S.keep _ _ e) fun hm => by
  obtain ⟨p, hp, rfl⟩ := List.mem_map.mp hm
  rw [(S.led p (hX p hp)).2] at e
  cases e
structure NewI (s s' : Shared) (x dx C : Addr) (l : List (Str × Value)) : Prop where
  eff : Eff [] s s'
  lo : s.heap.objs.size ≤ dx
  lt : dx < x
  at_ : s'.heap.get? x = some (instObj C dx)
  dict : ∃ o, s'.heap.get? dx = some o ∧ dicD l o
theorem NewI.of {g : Heap} {s s₁ s₂ : Shared} {x dx C : Addr} {n₁ n₂ : Led} {l : List (Str × Value)} (S₁ : St s s.heap n₁ s₁) (h0 : s.heap.objs.size ≤ dx) (h1 : dx < x) (S₂ : St s₁ g n₂ s₂) (hg : ∀ b o, s.heap.get? b = some o → g.get? b = some o) (m1 : (x, .obj (instObj C dx)) ∈ n₂) (m2 : (dx, .prop (dicD l)) ∈ n₂) : NewI s s₂ x dx C l :=
  ⟨⟨fun b o e _ => S₂.keep _ _ (hg _ _ e), fun _ hp => (nomatch hp), S₂.os.trans S₁.os, S₂.gens.trans S₁.gens⟩, h0, h1, S₂.getO m1, S₂.get m2⟩
end
inductive Ty where
  | none | bool | int | str | list | dict
  | inst (C : Addr)
  deriving DecidableEq
noncomputable def HasTy (h : Heap) (v : Value) : Ty → Prop
  | .none => v = .none
  | .bool => ∃ b, v = .bool b
  | .int => ∃ i t, v = .int i t
  | .str => ∃ x t, v = .str x t
  | .list => ∃ a o, v = .ref a ∧ h.get? a = some o ∧ o.cls = .type "list"
  | .dict => ∃ a o, v = .ref a ∧ h.get? a = some o ∧ o.cls = .type "dict"
  | .inst C => ∃ x l, v = .ref x ∧ InstH h x C l
theorem HasTy.keeps {h h' : Heap} {v : Value} {ty : Ty} (x : HasTy h v ty) (k : ∀ b o, h.get? b = some o → h'.get? b = some o) : HasTy h' v ty := by
  cases ty with
  | list => obtain ⟨a, o, e, g, c⟩ := x; exact ⟨a, o, e, k _ _ g, c⟩
  | dict => obtain ⟨a, o, e, g, c⟩ := x; exact ⟨a, o, e, k _ _ g, c⟩
  | inst C => obtain ⟨a, l, e, g⟩ := x; exact ⟨a, l, e, g.keeps k⟩
  | _ => exact x
@[reducible] noncomputable def userC : List Addr := [155, 197, 219, 240, 268]
@[reducible] noncomputable def instC : List Addr := [197, 219, 268]
theorem no_T (P : Params) {C : Addr} (hC : C ∈ userC) : isNotIn (topK P) "int" C = true ∧ isNotIn (topK P) "str" C = true ∧ isNotIn (topK P) "bool" C = true ∧ isNotIn (topK P) "NoneType" C = true ∧ isNotIn (topK P) "list" C = true ∧ isNotIn (topK P) "dict" C = true := by
  simp only [userC, List.mem_cons, List.not_mem_nil, or_false] at hC
  rcases hC with rfl | rfl | rfl | rfl | rfl <;> exact ⟨by kernel_rfl, by kernel_rfl, by kernel_rfl, by kernel_rfl, by kernel_rfl, by kernel_rfl⟩
theorem cls_facts (P : Params) {D : Addr} (hD : D ∈ instC) : isIn (topK P) (.ref D) D = true ∧ plainGet (topK P) D "__class__" = true ∧ hasDictIn (topK P) D = true ∧ findIn (topK P) (.ref D) "__class__" = some (some (.builtin "object.__class__")) ∧ mroIn (topK P) D (.type "object") = some true
    ∧ kin_notT (topK P) D "bool" = true ∧ kin_notT (topK P) D "int" = true ∧ kin_notT (topK P) D "list" = true ∧ kin_notT (topK P) D "dict" = true := by
  simp only [instC, List.mem_cons, List.not_mem_nil, or_false] at hD
  rcases hD with rfl | rfl | rfl <;> exact ⟨by kernel_rfl, by kernel_rfl, by kernel_rfl, by kernel_rfl, by kernel_rfl, by kernel_rfl, by kernel_rfl, by kernel_rfl, by kernel_rfl⟩
theorem not_C (P : Params) {C D : Addr} (hC : C ∈ userC) (hD : D ∈ instC) (h : D ≠ C) : kin_not (topK P) D C = true := by
  simp only [instC, userC, List.mem_cons, List.not_mem_nil, or_false] at hD hC
  rcases hD with rfl | rfl | rfl <;> rcases hC with rfl | rfl | rfl | rfl | rfl <;> first | exact absurd rfl h | kernel_rfl
theorem cc1 (P : Params) : specialIn (topK P) (.builtin "object.__class__") "__get__" = some (some (.builtin "getset_descriptor.__get__")) := by kernel_rfl
theorem cc2 (P : Params) : takesIn (topK P) (.builtin "object.__class__") = some true := by kernel_rfl
noncomputable def Ty.ok : Ty → Bool
  | .inst C => decide (C ∈ instC)
  | _ => true
section
variable {w : World} {A : Around} {E : Value → Shared → Prop} {k : Shared} {g : Heap} {env : Env} {d : Nat} {s : Shared} {n n' n'' : Led}
theorem isi_user {v : Value} {ty : Ty} {C : Addr} {Q : Value → Shared → Prop} (W : Wld w g) (S : St k g n s) (hv : HasTy s.heap v ty) (ho : ty.ok = true) (hC : C ∈ userC) (h : ∀ s', St k g n s' → Q (.bool (decide (ty = .inst C))) s') :
    wpAny (Mo w) A (call (.builtin "isinstance") [v, .ref C]) Q E s := by
  have X := (W.keeps S.keep).inK
  obtain ⟨n1, n2, n3, n4, n5, n6⟩ := no_T w.params hC
  cases ty with
  | none => cases hv; exact isn_call (P := fun _ => True) X (fun M => Looks.of_pure rfl) n4 (fun e => nomatch e) trivial none_cls (h _ (S.toks _))
  | bool => obtain ⟨b, rfl⟩ := hv; exact isn_call (P := fun _ => True) X (fun M => Looks.of_pure rfl) n3 (fun e => nomatch e) trivial bool_cls (h _ (S.toks _))
  | int => obtain ⟨i, t, rfl⟩ := hv; exact isn_call (P := fun _ => True) X (fun M => Looks.of_pure rfl) n1 (fun e => nomatch e) trivial int_cls (h _ (S.toks _))
  | str => obtain ⟨i, t, rfl⟩ := hv; exact isn_call (P := fun _ => True) X (fun M => Looks.of_pure rfl) n2 (fun e => nomatch e) trivial str_cls (h _ (S.toks _))
  | list =>
    obtain ⟨a, o, rfl, e, c⟩ := hv
    exact isn_call (P := fun h => ∃ o, h.get? a = some o ∧ o.cls = .type "list") X (fun M => (Looks.ld (part := none) e).andThen (by rw [← c]; exact Looks.of_pure rfl)) n5 (fun e => nomatch e) ⟨o, e, c⟩ list_cls (h _ (S.toks _))
  | dict =>
    obtain ⟨a, o, rfl, e, c⟩ := hv
    exact isn_call (P := fun h => ∃ o, h.get? a = some o ∧ o.cls = .type "dict") X (fun M => (Looks.ld (part := none) e).andThen (by rw [← c]; exact Looks.of_pure rfl)) n6 (fun e => nomatch e) ⟨o, e, c⟩ dict_cls (h _ (S.toks _))
  | inst D =>
    obtain ⟨x, l, rfl, I⟩ := hv
    have hD : D ∈ instC := of_decide_eq_true ho
    obtain ⟨c1, c2, c3, c4, c5, _⟩ := cls_facts w.params hD
    obtain ⟨dx, es, c, IA, _⟩ := I.at
    by_cases q : D = C
    · subst q
      refine isi_call X (fun M => IA.type) c1 (fun e => nomatch e) ?_
      have := h s S
      simpa using this
    · refine kin_callC X IA (not_C w.params hC hD q) c2 c3 c4 (cc1 _) (cc2 _) c5 ?_
      have := h _ (S.toks (s.toks + 1))
      have e : decide (Ty.inst D = Ty.inst C) = false := by simp [q]
      rw [e] at this
      exact this
noncomputable def bltTy : String → Ty → Bool
  | "bool", t => decide (t = .bool)
  | "int", t => decide (t = .bool) || decide (t = .int)
  | "list", t => decide (t = .list)
  | "dict", t => decide (t = .dict)
  | _, _ => false
theorem isi_bool {v : Value} {ty : Ty} {Q : Value → Shared → Prop} (W : Wld w g) (S : St k g n s) (hv : HasTy s.heap v ty) (ho : ty.ok = true) (hs : ty ≠ .str) (h : ∀ s', St k g n s' → Q (.bool (bltTy "bool" ty)) s') :
    wpAny (Mo w) A (call (.builtin "isinstance") [v, .type "bool"]) Q E s := by
  have X := (W.keeps S.keep).inK
  cases ty with
  | none => cases hv; exact IsiPair.NoneType_bool (h _ (S.toks _))
  | bool => obtain ⟨b, rfl⟩ := hv; exact IsiPair.bool_bool (h _ (S.toks _))
  | int => obtain ⟨i, t, rfl⟩ := hv; exact IsiPair.int_bool (h _ (S.toks _))
  | str => exact absurd rfl hs
  | list => obtain ⟨a, o, rfl, e, c⟩ := hv; exact IsiPair.list_bool e c (h _ (S.toks _))
  | dict => obtain ⟨a, o, rfl, e, c⟩ := hv; exact IsiPair.dict_bool e c (h _ (S.toks _))
  | inst D =>
    obtain ⟨x, l, rfl, I⟩ := hv
    have hD : D ∈ instC := of_decide_eq_true ho
    obtain ⟨c1, c2, c3, c4, c5, b1, b2, b3, b4⟩ := cls_facts w.params hD
    obtain ⟨dx, es, c, IA, _⟩ := I.at
    exact kin_callT X IA (by assumption) F.isi_meta_bool c2 c3 c4 (cc1 _) (cc2 _) c5 (h _ (S.toks _))
theorem isi_int {v : Value} {ty : Ty} {Q : Value → Shared → Prop} (W : Wld w g) (S : St k g n s) (hv : HasTy s.heap v ty) (ho : ty.ok = true) (hs : ty ≠ .str) (h : ∀ s', St k g n s' → Q (.bool (bltTy "int" ty)) s') :
    wpAny (Mo w) A (call (.builtin "isinstance") [v, .type "int"]) Q E s := by
  have X := (W.keeps S.keep).inK
  cases ty with
  | none => cases hv; exact IsiPair.NoneType_int (h _ (S.toks _))
  | bool => obtain ⟨b, rfl⟩ := hv; exact IsiPair.bool_int (h _ (S.toks _))
  | int => obtain ⟨i, t, rfl⟩ := hv; exact IsiPair.int_int (h _ (S.toks _))
  | str => exact absurd rfl hs
  | list => obtain ⟨a, o, rfl, e, c⟩ := hv; exact IsiPair.list_int e c (h _ (S.toks _))
  | dict => obtain ⟨a, o, rfl, e, c⟩ := hv; exact IsiPair.dict_int e c (h _ (S.toks _))
  | inst D =>
    obtain ⟨x, l, rfl, I⟩ := hv
    have hD : D ∈ instC := of_decide_eq_true ho
    obtain ⟨c1, c2, c3, c4, c5, b1, b2, b3, b4⟩ := cls_facts w.params hD
    obtain ⟨dx, es, c, IA, _⟩ := I.at
    exact kin_callT X IA (by assumption) F.isi_meta_int c2 c3 c4 (cc1 _) (cc2 _) c5 (h _ (S.toks _))
theorem isi_list {v : Value} {ty : Ty} {Q : Value → Shared → Prop} (W : Wld w g) (S : St k g n s) (hv : HasTy s.heap v ty) (ho : ty.ok = true) (hs : ty ≠ .str) (h : ∀ s', St k g n s' → Q (.bool (bltTy "list" ty)) s') :
    wpAny (Mo w) A (call (.builtin "isinstance") [v, .type "list"]) Q E s := by
  have X := (W.keeps S.keep).inK
  cases ty with
  | none => cases hv; exact IsiPair.NoneType_list (h _ (S.toks _))
  | bool => obtain ⟨b, rfl⟩ := hv; exact IsiPair.bool_list (h _ (S.toks _))
  | int => obtain ⟨i, t, rfl⟩ := hv; exact IsiPair.int_list (h _ (S.toks _))
  | str => exact absurd rfl hs
  | list => obtain ⟨a, o, rfl, e, c⟩ := hv; exact IsiPair.list_list e c (h _ (S.toks _))
  | dict => obtain ⟨a, o, rfl, e, c⟩ := hv; exact IsiPair.dict_list e c (h _ (S.toks _))
  | inst D =>
    obtain ⟨x, l, rfl, I⟩ := hv
    have hD : D ∈ instC := of_decide_eq_true ho
    obtain ⟨c1, c2, c3, c4, c5, b1, b2, b3, b4⟩ := cls_facts w.params hD
    obtain ⟨dx, es, c, IA, _⟩ := I.at
    exact kin_callT X IA (by assumption) F.isi_meta_list c2 c3 c4 (cc1 _) (cc2 _) c5 (h _ (S.toks _))
theorem isi_dict {v : Value} {ty : Ty} {Q : Value → Shared → Prop} (W : Wld w g) (S : St k g n s) (hv : HasTy s.heap v ty) (ho : ty.ok = true) (hs : ty ≠ .str) (h : ∀ s', St k g n s' → Q (.bool (bltTy "dict" ty)) s') :
    wpAny (Mo w) A (call (.builtin "isinstance") [v, .type "dict"]) Q E s := by
  have X := (W.keeps S.keep).inK
  cases ty with
  | none => cases hv; exact IsiPair.NoneType_dict (h _ (S.toks _))
  | bool => obtain ⟨b, rfl⟩ := hv; exact IsiPair.bool_dict (h _ (S.toks _))
  | int => obtain ⟨i, t, rfl⟩ := hv; exact IsiPair.int_dict (h _ (S.toks _))
  | str => exact absurd rfl hs
  | list => obtain ⟨a, o, rfl, e, c⟩ := hv; exact IsiPair.list_dict e c (h _ (S.toks _))
  | dict => obtain ⟨a, o, rfl, e, c⟩ := hv; exact IsiPair.dict_dict e c (h _ (S.toks _))
  | inst D =>
    obtain ⟨x, l, rfl, I⟩ := hv
    have hD : D ∈ instC := of_decide_eq_true ho
    obtain ⟨c1, c2, c3, c4, c5, b1, b2, b3, b4⟩ := cls_facts w.params hD
    obtain ⟨dx, es, c, IA, _⟩ := I.at
    exact kin_callT X IA (by assumption) F.isi_meta_dict c2 c3 c4 (cc1 _) (cc2 _) c5 (h _ (S.toks _))
end
theorem St.recast {k : Shared} {g : Heap} {n n' : Led} {s : Shared} {a : Addr} {d d' : Desc} (S : St k g n s) (u : Upd a d' d n n') (h : ∃ o, s.heap.get? a = some o ∧ d'.is o) : St k g n' s :=
  S.upd (h' := s.heap) (tk := s.toks) u (fun _ _ _ e => e) h
theorem l_set1 {w : World} {A : Around} {E : Value → Shared → Prop} {s k : Shared} {g : Heap} {n n' : Led} {l : Addr} {a b : Value} {r : List Value} {t : Tok} {v : Value} {Q : Unit → Shared → Prop} (S : St k g n s) (hu : Upd l (.lst (a :: v :: r)) (.lst (a :: b :: r)) n n') (h : ∀ s', St k g n' s' → Q () s') :
    wpAny (Mo w) A (setItem (.ref l) (.int 1 t) v) Q E s := l_set (vs := a :: b :: r) S hu (by decide) (by decide) (by simp only [List.length_cons]; omega) h
theorem l_set2 {w : World} {A : Around} {E : Value → Shared → Prop} {s k : Shared} {g : Heap} {n n' : Led} {l : Addr} {a b c : Value} {r : List Value} {t : Tok} {v : Value} {Q : Unit → Shared → Prop} (S : St k g n s) (hu : Upd l (.lst (a :: b :: v :: r)) (.lst (a :: b :: c :: r)) n n') (h : ∀ s', St k g n' s' → Q () s') :
    wpAny (Mo w) A (setItem (.ref l) (.int 2 t) v) Q E s := l_set (vs := a :: b :: c :: r) S hu (by decide) (by decide) (by simp only [List.length_cons]; omega) h
noncomputable def potD (C : Addr) (m : Nat) (o : Obj) : Prop := ∃ (st pl : Int) (t1 t2 : Tok), 0 ≤ st ∧ st < 2147483647 ∧ 0 ≤ pl ∧ pl ≤ m ∧ (Desc.lst [.ref C, .int st t1, .int pl t2]).is o
noncomputable def cellsD (o : Obj) : Prop := ∃ vs : List Value, (∀ v ∈ vs, ∃ (x : Int) (t : Tok), v = .int x t ∧ 0 ≤ x) ∧ vs.length ≤ 63 ∧ (Desc.lst vs).is o
@[reducible] noncomputable def potX (P C : Addr) (m : Nat) : Led := [(P, .prop (potD C m)), (C, .prop cellsD)]
theorem beq_none {h : Heap} {v : Value} {ty : Ty} (hv : HasTy h v ty) : (v == Value.none) = decide (ty = .none) := by
  cases ty with
  | none => cases hv; exact beq_self_eq_true _
  | bool => obtain ⟨_, rfl⟩ := hv; exact beq_false_of_ne (fun e => nomatch e)
  | int => obtain ⟨_, _, rfl⟩ := hv; exact beq_false_of_ne (fun e => nomatch e)
  | str => obtain ⟨_, _, rfl⟩ := hv; exact beq_false_of_ne (fun e => nomatch e)
  | list => obtain ⟨_, _, rfl, _⟩ := hv; exact beq_false_of_ne (fun e => nomatch e)
  | dict => obtain ⟨_, _, rfl, _⟩ := hv; exact beq_false_of_ne (fun e => nomatch e)
  | inst C => obtain ⟨_, _, rfl, _⟩ := hv; exact beq_false_of_ne (fun e => nomatch e)
theorem c_is_ty {w : World} {A : Around} {E : Value → Shared → Prop} {s : Shared} {h' : Heap} {v : Value} {ty : Ty} {Q : Value → Shared → Prop} (hv : HasTy h' v ty) (h : Q (.bool (decide (ty = .none))) s) : wpAny (Mo w) A (compareOp .Is v .none) Q E s := c_is (by rw [beq_none hv]; exact h)
theorem c_isnot_ty {w : World} {A : Around} {E : Value → Shared → Prop} {s : Shared} {h' : Heap} {v : Value} {ty : Ty} {Q : Value → Shared → Prop} (hv : HasTy h' v ty) (h : Q (.bool (!decide (ty = .none))) s) : wpAny (Mo w) A (compareOp .IsNot v .none) Q E s := c_isnot (by rw [beq_none hv]; exact h)
noncomputable def kindWord : Ty → Str
  | .none => Str.ofString "null"
  | .bool => Str.ofString "truth"
  | .int => Str.ofString "int"
  | .str => Str.empty
  | .list => Str.ofString "array"
  | .dict => Str.ofString "dict"
  | .inst 197 => Str.ofString "name"
  | .inst 219 => Str.ofString "string"
  | .inst _ => Str.ofString "ref"
inductive Strs : List Value → List Str → Prop
  | nil : Strs [] []
  | cons {x : Str} {t : Tok} {vs : List Value} {xs : List Str} : Strs vs xs → Strs (.str x t :: vs) (x :: xs)
theorem Strs.length {vs : List Value} {xs : List Str} (h : Strs vs xs) : vs.length = xs.length := by
  induction h with
  | nil => rfl
  | cons _ ih => simp [ih]
theorem Strs.append {vs vs' : List Value} {xs xs' : List Str} (h : Strs vs xs) (h' : Strs vs' xs') : Strs (vs ++ vs') (xs ++ xs') := by
  induction h with
  | nil => exact h'
  | cons _ ih => exact .cons ih
theorem Strs.get {vs : List Value} {xs : List Str} (h : Strs vs xs) : ∀ {i : Nat} {x : Str}, xs[i]? = some x → ∃ t, vs[i]? = some (.str x t) := by
  induction h with
  | nil => intro i x e; simp at e
  | @cons y t vs xs h ih =>
    intro i x e
    cases i with
    | zero => simp at e; subst e; exact ⟨t, by simp⟩
    | succ i => simp at e; simpa using ih e
theorem Strs.set {vs : List Value} {xs : List Str} (h : Strs vs xs) (x : Str) (t : Tok) : ∀ i : Nat, Strs (vs.set i (.str x t)) (xs.set i x) := by
  induction h with
  | nil => intro i; exact .nil
  | cons h ih =>
    intro i
    cases i with
    | zero => exact .cons h
    | succ i => exact .cons (ih i)
theorem Strs.take {vs : List Value} {xs : List Str} (h : Strs vs xs) : ∀ i : Nat, Strs (vs.take i) (xs.take i) := by
  induction h with
  | nil => intro i; simp; exact .nil
  | cons h ih =>
    intro i
    cases i with
    | zero => exact .nil
    | succ i => exact .cons (ih i)
theorem Strs.drop {vs : List Value} {xs : List Str} (h : Strs vs xs) : ∀ i : Nat, Strs (vs.drop i) (xs.drop i) := by
  induction h with
  | nil => intro i; simp; exact .nil
  | cons h ih =>
    intro i
    cases i with
    | zero => exact .cons h
    | succ i => exact ih i
structure NewL (s s' : Shared) (a : Addr) (vs : List Value) : Prop where
  eff : Eff [] s s'
  fresh : s.heap.get? a = none
  at_ : ∃ o, s'.heap.get? a = some o ∧ (Desc.lst vs).is o
theorem St.outside {k : Shared} {g : Heap} {n : Led} {s : Shared} (S : St k g n s) {a : Addr} (h : s.heap.get? a = none) : g.get? a = none := by
  cases e : g.get? a with
  | none => rfl
  | some o => rw [S.keep _ _ e] at h; cases h
theorem St.out {k : Shared} {g : Heap} {n : Led} {s : Shared} (S : St k g n s) {a : Addr} (h : s.heap.get? a = none) : a ∉ n.map (·.1) := fun hm => by
  obtain ⟨p, hp, rfl⟩ := List.mem_map.mp hm
  obtain ⟨⟨o, e, _⟩, _⟩ := S.led p hp
  rw [e] at h; cases h
theorem St.newL {k : Shared} {g : Heap} {n : Led} {s s' : Shared} {a : Addr} {vs : List Value} (S : St k g n s) (N : NewL s s' a vs) : St k g ((a, .lst vs) :: n) s' :=
  (S.eff N.eff (fun _ hp => nomatch hp)).add N.at_ (S.outside N.fresh) (S.out N.fresh)
theorem NewL.of {s s' : Shared} {g : Heap} {n : Led} {a : Addr} {vs : List Value} (S : St s g n s') (hg : g = hideAll s.heap (([] : Led).map (·.1))) (hm : (a, .lst vs) ∈ n) : NewL s s' a vs := by
  subst hg
  exact ⟨St.toEff (X := []) S (fun _ hp => nomatch hp), (S.led _ hm).2, S.get hm⟩
@[reducible] noncomputable def encWords : List Str := [Str.ofString "StandardEncoding", Str.ofString "WinAnsiEncoding", Str.ofString "MacRomanEncoding"]
@[reducible] noncomputable def glyphWords : List Str := [Str.ofString "", Str.ofString "space", Str.ofString "A", Str.ofString "bullet", Str.ofString "eacute", Str.ofString "g12", Str.ofString "uni20AC"]
section
variable {w : World} {A : Around} {E : Value → Shared → Prop} {k : Shared} {g : Heap} {env : Env} {sc : Scope} {L : Addr} {cl : List (Str × Addr)} {d : Nat} {s : Shared} {n n' n'' : Led}
theorem comp_loop {R : Result → Shared → Prop} {I C acc : Addr} {N : Nat} {P : Nat → Value → Prop} {D : Nat → Obj → Prop} {x : Str} {px : Pos} {elt iter : Expr} {scope : Scope} {pos : Pos} {cenv : Env} (it : It w A g I N P D) (hz : N ≤ sizeLine)
    (J : Nat → List Value → Led → Prop) (fe : Fe cenv sc C cl) (hx : kindIs sc x .local = true) {n : Led} (h0 : J 0 [] n) (S : St k g ((C, .ns []) :: (acc, .lst []) :: (I, .prop (D 0)) :: n) s)
    (hJ : ∀ i ys n, J i ys n → ys.length = i)
    (turn : ∀ i v ys n₁ s₁ E', i < N → P i v → J i ys n₁ → St k g ((C, .ns [(x, v)]) :: (acc, .lst ys) :: (I, .prop (D (i + 1))) :: n₁) s₁ →
      ∀ K : Value → Shared → Prop, (∀ y s₂, (∃ n₂, J (i + 1) (ys ++ [y]) n₂ ∧ St k g ((C, .ns [(x, v)]) :: (acc, .lst ys) :: (I, .prop (D (i + 1))) :: n₂) s₂) → Kont K y s₂) → wpAny (Mo w) A (eval elt cenv) (Kont K) E' s₁)
    (done : ∀ ys n₁ s₁, J N ys n₁ → St k g ((C, .ns []) :: (acc, .lst ys) :: n₁) s₁ → R (.ok .next) s₁)
    (ht : ∀ v, letOwnedTupleGo (.Name x px) (.ref I) v = pure ()) :
    codeAny (Mo w) A (.compLoop (.ListComp elt [⟨.Name x px, iter, [], 0⟩] scope pos) 0 (.ref I) (.ref acc) cenv) R s := by
  refine codeAny_compLoop_tests (fun m s₁ => ∃ i ys n₁, m = N - i ∧ i ≤ N ∧ J i ys n₁ ∧ St k g ((C, .ns []) :: (acc, .lst ys) :: (I, .prop (D i)) :: n₁) s₁) ?_ N ⟨0, [], n, by omega, by omega, h0, S⟩ ht
  rintro m s₁ ⟨i, ys, n₁, rfl, hi, hJ1, S₁⟩
  by_cases hlt : i < N
  · refine it.next i s₁ _ _ hlt S₁.keep (S₁.get (.tail _ (.tail _ (.head _)))) fun v h' tk hP hD hk => ?_
    have S₂ : St k g ((C, .ns []) :: (acc, .lst ys) :: (I, .prop (D (i + 1))) :: n₁) { s₁ with heap := h', toks := tk } := S₁.upd (Upd.tail (Upd.tail Upd.head)) hk hD
    refine wpAny_assign_Name (s_new S₂ fe hx Upd.head rfl fun s₃ S₃ => ?_)
    refine wpAny_tests_nil ?_
    rw [if_pos rfl]
    refine wpAny_mono (K1 (turn i v ys n₁ _ _ hlt hP hJ1 S₃)) (fun y s₄ ⟨n₂, hJ2, S₄⟩ => ?_) fun _ _ x => x
    refine l_append S₄ (Upd.tail Upd.head) (by rw [hJ _ _ _ hJ1]; omega) fun s₅ S₅ => ?_
    refine ⟨N - (i + 1), by omega, i + 1, ys ++ [y], n₂, rfl, hlt, hJ2, ?_⟩
    obtain ⟨o, ho, nd', es, ep, i1, i2, i3⟩ := S₅.get (.head _)
    exact S₅.recast (d' := .ns []) Upd.head ⟨o, ho, .nil, es, ep, i1, i2, fun p hp => nomatch hp⟩
  · have : i = N := by omega
    subst this
    refine it.stop s₁ _ _ S₁.keep (S₁.get (.tail _ (.tail _ (.head _)))) fun h' tk hk => ?_
    exact done ys n₁ _ hJ1 (S₁.third hk rfl rfl)
noncomputable def rl (scope sc : Scope) : Scope := { scope with names := scope.names.map fun (n, k) => if (k == .free && sc.kind == .function && sc.names.lookup n == some .cell) then (n, .cell) else (n, k) }
theorem rl_of {scope sc : Scope} {env : Env} (h : env.scope = sc) : relabel scope env = rl scope sc := by subst h; rfl
theorem e_comp {elt iter : Expr} {x : Str} {px pos : Pos} {scope : Scope} {cl' : List (Str × Addr)} {Q : Value → Shared → Prop} (fe : Fe env sc L cl) (hclos : closureFor scope env = pure cl') (hcell : (scope.names.all fun y => y.2 != .cell) = true) (hkind : scope.kind = .function)
    (hnames : (scope.names.all fun y => y.2 != .local || scope.names.lookup y.1 == some .local) = true) (hx : kindIs (rl scope sc) x .local = true)
    (h : wpAny (Mo w) A (eval iter env) (fun xv s₁ => wpAny (Mo w) A (pyIter xv) (fun iv s₂ => ∃ (g : Heap) (I : Addr) (N : Nat) (P : Nat → Value → Prop) (D : Nat → Obj → Prop) (n : Led) (J : Nat → List Value → Led → Prop), iv = .ref I ∧ It w A g I N P D ∧ N ≤ sizeLine ∧ St k g ((I, .prop (D 0)) :: n) s₂ ∧ J 0 [] n ∧ (∀ i ys n, J i ys n → ys.length = i) ∧
      (∀ (s : Shared) (Q : Value → Shared → Prop) (E : Value → Shared → Prop), (∃ o, s.heap.get? I = some o ∧ D 0 o) → Q (.ref I) s → wpAny (Mo w) A (pyIter (.ref I)) Q E s) ∧
      (∀ C acc cenv i v ys n₁ s₁ E', i < N → P i v → J i ys n₁ → Fe cenv (rl scope sc) C cl' → St k g ((C, .ns [(x, v)]) :: (acc, .lst ys) :: (I, .prop (D (i + 1))) :: n₁) s₁ →
        ∀ K : Value → Shared → Prop, (∀ y s₂, (∃ n₂, J (i + 1) (ys ++ [y]) n₂ ∧ St k g ((C, .ns [(x, v)]) :: (acc, .lst ys) :: (I, .prop (D (i + 1))) :: n₂) s₂) → Kont K y s₂) → wpAny (Mo w) A (eval elt cenv) (Kont K) E' s₁) ∧
      (∀ acc ys n₁ s₁, J N ys n₁ → St k g ((acc, .lst ys) :: n₁) s₁ → Ap Q (.ref acc) s₁)) E s₁) E s)
    (hs : ∀ x, foldedSetIterable iter env x = pure x) : wpAny (Mo w) A (eval (.ListComp elt [⟨.Name x px, iter, [], 0⟩] scope pos) env) Q E s := by
  have hcell' : ∀ y ∈ scope.names, y.2 ≠ .cell := fun y hy => by have := List.all_eq_true.mp hcell y hy; simpa using this
  have hnames' : ∀ y ∈ scope.names, y.2 = .local → scope.names.lookup y.1 = some .local := fun y hy e => by have := List.all_eq_true.mp hnames y hy; simpa [e] using this
  rw [eval_ListComp]
  refine wpAny_comprehension_free (use := none) rfl hs hclos hkind hnames' (wpAny_mono h (fun xv s₁ h₁ => wpAny_mono h₁ (fun iv s₂ h₂ => ?_) fun _ _ e => e) fun _ _ e => e)
  obtain ⟨g, I, N, P, D, n, J, rfl, it, hz, S, h0, hJ, hself, turn, done⟩ := h₂
  have S1 := S.push (tk := s₂.toks) (o := { cls := .type "list", data := .seq ([] : List Value).toArray }) (d := .lst []) ⟨0, rfl⟩ rfl
  refine wpAny_newObj_type (wpAny_newFunctionEnv hcell' (by intro y hy; simp at hy) (fun h₁ hns hsb => ?_) hkind)
  dsimp only at hns hsb ⊢
  have hC : ∀ b o, (s₂.heap.push { cls := .type "list", data := .seq ([] : List Value).toArray }).get? b = some o → h₁.get? b = some o := fun b o e =>
    (hsb.2 b (fun z => absurd (Heap.lt_size e) (by rw [z]; exact Nat.lt_irrefl _))).trans (Heap.get?_push_of_some _ e)
  have S2 := (S1.kept (h' := h₁) (tk := s₂.toks + ([] : List (Str × Value)).length) hC).add (desc_ns (l := []) hns .nil fun p hp => nomatch hp) S1.fresh (S1.notin (Nat.le_refl _))
  have fe' : Fe (compEnvC scope cl' (s₂.heap.push { cls := .type "list", data := .seq ([] : List Value).toArray }).objs.size env) (rl scope sc) (s₂.heap.push { cls := .type "list", data := .seq ([] : List Value).toArray }).objs.size cl' :=
    ⟨rl_of fe.scope, rfl, rfl, by show (relabel scope env).kind = _; exact hkind, fe.glob, fe.blt⟩
  have loop := comp_loop (R := compPost (Mo w) A E none Q (.ref s₂.heap.objs.size) (s₂.heap.push { cls := .type "list", data := .seq ([] : List Value).toArray }).objs.size) (px := px) (elt := elt) (iter := iter) (scope := scope) (pos := pos) it hz J fe' hx h0 S2 hJ
    (fun i v ys n₁ s₁ E' hi hP hJ1 S₁ => turn _ _ _ i v ys n₁ s₁ E' hi hP hJ1 fe' S₁)
    (fun ys n₁ s₁ hJ1 S₁ => by
      obtain ⟨m, hm, _⟩ := S₁.ns (.head _)
      exact ⟨m, hm, fun h' hs' => done _ ys n₁ _ hJ1 (S₁.tl (fun b o hb e => (hs'.2 b hb).trans e) rfl rfl)⟩) (fun v => rfl)
  exact codeAny_compStart_list loop (hself _ _ _ (S2.get (.tail _ (.tail _ (.head _)))) loop)
theorem self_list {I l : Addr} (s : Shared) (Q : Value → Shared → Prop) (E : Value → Shared → Prop) (h : ∃ o, s.heap.get? I = some o ∧ o.cls = .type "list_iterator" ∧ o.data = .fields #[.ref l, .int (0 : Nat) 0]) (hQ : Q (.ref I) s) : wpAny (Mo w) A (pyIter (.ref I)) Q E s :=
  wpAny_pyIter_listiter (l := l) (i := 0) (let ⟨o, a, b, c⟩ := h; ⟨o, a, b, c⟩) hQ
theorem self_range {I : Addr} {N : Nat} {a : Int} (s : Shared) (Q : Value → Shared → Prop) (E : Value → Shared → Prop) (h : ∃ o, s.heap.get? I = some o ∧ o = { cls := .type "range_iterator", dict := none, data := .fields #[rawInt (a + (0 : Nat)), rawInt ((N : Int) - (0 : Nat)), rawInt 1], slots := #[] }) (hQ : Q (.ref I) s) : wpAny (Mo w) A (pyIter (.ref I)) Q E s := by
  obtain ⟨o, e, rfl⟩ := h
  exact wpAny_pyIter_rangeiter e hQ
end
noncomputable def Desc.slotFree (d : Desc) : Prop := ∀ o o' : Obj, o'.data = o.data → d.is o → d.is o'
theorem slotFree_ns (l : List (Str × Value)) : (Desc.ns l).slotFree := fun o o' e ⟨nd, es, ep, h1, h2⟩ => ⟨nd, es, ep, e.trans h1, h2⟩
noncomputable def frD (h : Heap) (a : Addr) : Desc := .prop fun o => ∃ o₀, h.get? a = some o₀ ∧ o.data = o₀.data
theorem slotFree_frD (h : Heap) (a : Addr) : (frD h a).slotFree := fun o o' e ⟨o₀, h1, h2⟩ => ⟨o₀, h1, e.trans h2⟩
@[reducible] noncomputable def frL (h : Heap) (fs : List Addr) : Led := fs.map fun a => (a, frD h a)
theorem frL_keys (h : Heap) (fs : List Addr) : (frL h fs).map (·.1) = fs := by
  induction fs with
  | nil => rfl
  | cons a r ih => show a :: _ = _; rw [ih]
noncomputable def FrA (A : Around) (fs : List Addr) : Prop := ∃ envs, A.frames = some envs ∧ ∀ e ∈ envs, e.scope.kind ≠ .module ∧ ∃ f, f ∈ fs ∧ e.frame = some f
theorem FrA.caller : FrA callerA [] := ⟨[], rfl, fun _ h => nomatch h⟩
theorem FrA.deeper {A : Around} {fs : List Addr} (x : FrA A fs) {env : Env} {L : Addr} (hk : env.scope.kind = .function) (hf : env.frame = some L) : FrA (A.deeper env) (L :: fs) := by
  obtain ⟨envs, h1, h2⟩ := x
  refine ⟨env :: envs, by show A.frames.map (env :: ·) = _; rw [h1]; rfl, fun e he => ?_⟩
  rcases List.mem_cons.mp he with rfl | he
  · exact ⟨by rw [hk]; decide, L, .head _, hf⟩
  · obtain ⟨a, f, b, c⟩ := h2 e he
    exact ⟨a, f, .tail _ b, c⟩
noncomputable def Stk (A : Around) (env : Env) (n : Led) : Prop := ∃ outer, A.frames = some (env :: outer) ∧ env.scope.kind ≠ .module ∧ (∃ f, env.frame = some f) ∧ ∀ e ∈ env :: outer, e.scope.kind ≠ .module ∧ ∃ f d, e.frame = some f ∧ (f, d) ∈ n ∧ d.slotFree
theorem Stk.of {A : Around} {env : Env} {L : Addr} {d : Desc} {n : Led} {fs : List Addr} (x : FrA A fs) (hk : env.scope.kind = .function) (hf : env.frame = some L) (hL : (L, d) ∈ n) (hd : d.slotFree) (hfs : ∀ a ∈ fs, ∃ d, (a, d) ∈ n ∧ d.slotFree) : Stk (A.deeper env) env n := by
  obtain ⟨envs, h1, h2⟩ := x
  have hk' : env.scope.kind ≠ .module := by rw [hk]; decide
  refine ⟨envs, by show A.frames.map (env :: ·) = _; rw [h1]; rfl, hk', ⟨L, hf⟩, fun e he => ?_⟩
  rcases List.mem_cons.mp he with rfl | he
  · exact ⟨hk', L, d, hf, hL, hd⟩
  · obtain ⟨a, f, b, c⟩ := h2 e he
    obtain ⟨d, h3, h4⟩ := hfs f b
    exact ⟨a, f, d, c, h3, h4⟩
theorem Upd.self {a : Addr} {d : Desc} {n : Led} (h : (a, d) ∈ n) : Upd a d d n n := by
  induction n with
  | nil => cases h
  | cons x r ih =>
    rcases List.mem_cons.mp h with rfl | h
    · exact .head
    · exact .tail (ih h)
section
variable {M : Model} {A : Around} {E : Value → Shared → Prop} {s k : Shared} {g : Heap} {n n' : Led} {env : Env} {d : Nat}
theorem isFreed_data {o o' : Obj} (h : o'.data = o.data) : o'.isFreed = o.isFreed := by
  obtain ⟨c, d, dt, sl⟩ := o
  obtain ⟨c', d', dt', sl'⟩ := o'
  dsimp only at h
  subst h
  cases dt' <;> rfl
theorem St.touch (S : St k g n s) {a : Addr} {d : Desc} (hm : (a, d) ∈ n) (hd : d.slotFree) {f : Obj → Obj} (hf : ∀ o, (f o).data = o.data) : St k g n { s with heap := s.heap.update a f } := by
  obtain ⟨o, ho, hi⟩ := S.get hm
  have hfr : o.isFreed = false := (Heap.get?_some_iff.mp ho).2
  refine S.upd (tk := s.toks) (Upd.self hm) (fun b o' hb e => (Heap.get?_update_other _ _ (Ne.symm hb)).trans e) ⟨f o, Heap.get?_update_self _ ho ?_, hd o _ (hf o) hi⟩
  rw [isFreed_data (hf o)]; exact hfr
theorem ready_st {Q : Unit → Shared → Prop} : ∀ (envs : List Env) (s : Shared), St k g n s → (∀ e ∈ envs, e.scope.kind ≠ .module ∧ ∃ f d, e.frame = some f ∧ (f, d) ∈ n ∧ d.slotFree) → (∀ s', St k g n s' → Q () s') → wpAny M A (readyFrames envs) Q E s
  | [], s, S, _, h => wpAny_pure (h s S)
  | env :: outer, s, S, he, h => by
    obtain ⟨hk, f, d, hf, hm, hd⟩ := he env (.head _)
    obtain ⟨o, ho, hi⟩ := S.get hm
    simp only [readyFrames, hf]
    refine wpAny_bind (wpAny_load ho ?_)
    by_cases hr : ((o.slots.getD 3 none).isSome) = true
    · rw [if_pos hr]; exact wpAny_pure (h s S)
    · rw [if_neg hr]
      refine wpAny_bind (wpAny_of_eq (a := false) (by simp [behindIsImport, hk]) ?_)
      refine wpAny_bind (wpAny_keptBack_false fun back => ?_)
      refine wpAny_bind (wpAny_update ho ?_)
      exact ready_st outer _ (S.touch hm hd (fun o => rfl)) (fun e h' => he e (.tail _ h')) h
noncomputable def excO (t : Option Addr) : Desc := .prop fun o => o.cls = .ref 59 ∧ ∃ vs : Array Value, o.data = .fields vs ∧ vs[1]? = some (t.elim .none .ref)
noncomputable def tbO : Desc := .prop fun o => ∃ ts : Array Value, o.data = .fields ts ∧ 3 < ts.size
noncomputable def Flies (k : Shared) (g : Heap) (n : Led) (e : Value) (s : Shared) : Prop := ∃ a t, e = .ref a ∧ St k g ((a, excO (some t)) :: (t, tbO) :: n) s
noncomputable def Flew (k : Shared) (g : Heap) (n : Led) (e : Value) (s : Shared) : Prop := (∃ a, e = .ref a ∧ St k g ((a, excO none) :: n) s) ∨ Flies k g n e s
theorem Flies.flew {e : Value} (x : Flies k g n e s) : Flew k g n e s := .inr x
theorem setIf1 {vs : Array Value} {v x : Value} (h : vs[1]? = some v) : (vs.setIfInBounds 1 x)[1]? = some x := by
  have := (Array.getElem?_eq_some_iff.mp h).1
  simp [this]
theorem newTb_st {vs : Array Value} {Q : Unit → Shared → Prop} {a f : Addr} {t : Option Addr} {head : Value} {r : Led} (K : Stk A env n) (hf : env.frame = some f) (S : St k g ((a, excO t) :: r) s) (hr : ∀ p ∈ n, p ∈ r) (hne : t ≠ none → True)
    (h : ∀ s' t', St k g ((t', tbO) :: (a, excO (some t')) :: r) s' → Q () s') :
    wpAny M A (do setField (.ref a) 1 (← EntryCells.newEntry head (← PySem.frameOf env) .none (rawInt f) .none (← entryPlaceOf f (head != .none)))) Q E s := by
  obtain ⟨outer, h1, h2, ⟨f', h3⟩, h4⟩ := K
  rw [hf] at h3; cases h3
  unfold PySem.frameOf
  refine wpAny_bind (wpAny_bind (wpAny_frameEnvs h1 ?_))
  have hdw : ((env :: outer).dropWhile fun x => x.frame != env.frame) = env :: outer := by simp [List.dropWhile]
  rw [hdw]
  unfold frameObject
  refine wpAny_bind (wpAny_bind (ready_st (env :: outer) s S (fun e he => let ⟨p, f, q, r', s', t'⟩ := h4 e he; ⟨p, f, q, r', .tail _ (hr _ s'), t'⟩) fun s₁ S₁ => wpAny_pure ?_))
  rw [hf]
  refine wpAny_pure ?_
  refine wpAny_bind (wpAny_entryPlaceOf fun pl hpl => ?_)
  unfold EntryCells.newEntry newFields
  refine wpAny_bind (wpAny_newObj_type ?_ (hpl.sizeOk5 _ _ _ _ _))
  have S₂ := S₁.push (tk := s₁.toks) (o := { cls := .type "traceback", dict := none, data := .fields ([head, .ref f, .none, rawInt f, .none] ++ (if pl.isEmpty then List.replicate 6 Value.none else pl)).toArray }) (d := tbO) ⟨_, rfl, by simp⟩ rfl
  obtain ⟨oe, he, hc, vs, hd, hv⟩ := S₂.get (a := a) (d := excO t) (.tail _ (.head _))
  have hsz : 1 < vs.size := (Array.getElem?_eq_some_iff.mp hv).1
  refine wpAny_setField he hd hsz ?_
  have hd₃ := Obj.data_mapFields hd (·.setIfInBounds 1 (Value.ref s₁.heap.objs.size))
  refine h _ s₁.heap.objs.size (S₂.upd (tk := s₁.toks) (d' := excO (some s₁.heap.objs.size)) (.tail .head) (fun b o hb e => (Heap.get?_update_other _ _ (Ne.symm hb)).trans e) ⟨_, Heap.get?_update_self _ he (Obj.isFreed_of_fields hd₃), (Obj.cls_mapFields _ _).trans hc, _, hd₃, setIf1 hv⟩)
theorem St.swap {x y : Addr × Desc} {r : Led} (S : St k g (x :: y :: r) s) : St k g (y :: x :: r) s :=
  S.sub (fun p hp => by rcases List.mem_cons.mp hp with rfl | hp; exact .tail _ (.head _); rcases List.mem_cons.mp hp with rfl | hp; exact .head _; exact .tail _ (.tail _ hp))
    (by have := S.nd; simp only [List.map_cons, List.nodup_cons, List.mem_cons, not_or] at this ⊢; exact ⟨⟨fun e => this.1.1 e.symm, this.2.1⟩, this.1.2, this.2.2⟩)
theorem St.drop2 {x y : Addr × Desc} {r : Led} (S : St k g (x :: y :: r) s) : St k g (x :: r) s := S.swap.drop
theorem note_st {e : Value} {Q : Unit → Shared → Prop} (K : Stk A env n) (F : Flew k g n e s) (h : ∀ s', Flies k g n e s' → Q () s') : wpAny M A (noteFrame e env) Q E s := by
  obtain ⟨_, _, _, ⟨f, hf⟩, _⟩ := id K
  rcases F with ⟨a, rfl, S⟩ | ⟨a, t, rfl, S⟩
  · obtain ⟨oe, he, hc, vs, hd, hv⟩ := S.get (a := a) (d := excO none) (.head _)
    replace hv : vs[1]? = some .none := hv
    unfold noteFrame
    simp only [hf]
    refine wpAny_bind (wpAny_field he hd hv ?_)
    rw [if_neg (by decide)]
    exact newTb_st (vs := vs) K hf S (fun _ h => h) (fun _ => trivial) fun s' t' S' => h s' ⟨a, t', rfl, S'.swap⟩
  · obtain ⟨oe, he, hc, vs, hd, hv⟩ := S.get (a := a) (d := excO (some t)) (.head _)
    replace hv : vs[1]? = some (.ref t) := hv
    obtain ⟨ot, ht, ts, htd, hts⟩ := S.get (a := t) (d := tbO) (.tail _ (.head _))
    unfold noteFrame
    simp only [hf]
    refine wpAny_bind (wpAny_field he hd hv ?_)
    rw [if_pos (show (Value.ref t != Value.none) = true from by simp)]
    refine wpAny_bind (wpAny_field ht htd (Array.getElem?_eq_getElem hts) ?_)
    by_cases hq : (ts[3] == rawInt f) = true
    · rw [if_pos hq]
      exact wpAny_pure (h s ⟨a, t, rfl, S⟩)
    · rw [if_neg hq]
      refine wpAny_bind (wpAny_setField ht htd hts ?_)
      have hd₃ := Obj.data_mapFields htd (·.setIfInBounds 3 Value.none)
      have S₂ := S.upd (tk := s.toks) (d' := tbO) (.tail .head) (fun b o hb e => (Heap.get?_update_other _ _ (Ne.symm hb)).trans e) ⟨_, Heap.get?_update_self (Obj.mapFields (·.setIfInBounds 3 Value.none)) ht (Obj.isFreed_of_fields hd₃), _, hd₃, by simpa using hts⟩
      exact newTb_st (vs := vs) K hf S₂ (fun _ h => .tail _ h) (fun _ => trivial) fun s' t' S' => h s' ⟨a, t', rfl, S'.swap.sub (fun p hp => by
        rcases List.mem_cons.mp hp with rfl | hp
        · exact .head _
        · rcases List.mem_cons.mp hp with rfl | hp
          · exact .tail _ (.head _)
          · exact .tail _ (.tail _ (.tail _ hp))) (by have := S'.swap.nd; simp only [List.map_cons, List.nodup_cons, List.mem_cons, not_or] at this ⊢; exact ⟨⟨this.1.1, this.1.2.2⟩, this.2.1.2, this.2.2.2⟩)⟩
theorem flight_st {e : Value} {v : Option Addr} {Q : Unit → Shared → Prop} (F : Flies k g n e s) (h : ∀ s', Flies k g n e s' → Q () s') : wpAny M A (setFlight e v) Q E s := by
  obtain ⟨a, t, rfl, S⟩ := F
  obtain ⟨oe, he, hc, vs, hd, hv⟩ := S.get (a := a) (d := excO (some t)) (.head _)
  replace hv : vs[1]? = some (.ref t) := hv
  obtain ⟨ot, ht, ts, htd, hts⟩ := S.get (a := t) (d := tbO) (.tail _ (.head _))
  unfold setFlight
  refine wpAny_bind (wpAny_field he hd hv ?_)
  rw [if_pos (show (Value.ref t != Value.none) = true from by simp)]
  refine wpAny_setField ht htd hts ?_
  have hd₃ := Obj.data_mapFields htd (·.setIfInBounds 3 (v.elim Value.none fun f => rawInt f))
  exact h _ ⟨a, t, rfl, S.upd (tk := s.toks) (d' := tbO) (.tail .head) (fun b o hb e => (Heap.get?_update_other _ _ (Ne.symm hb)).trans e) ⟨_, Heap.get?_update_self (Obj.mapFields (·.setIfInBounds 3 _)) ht (Obj.isFreed_of_fields hd₃), _, hd₃, by simpa using hts⟩⟩
theorem leaving_st {e : Value} {Q : Unit → Shared → Prop} (K : Stk A env n) (F : Flew k g n e s) (h : ∀ s', Flies k g n e s' → Q () s') : wpAny M A (leaving env e) Q E s :=
  wpAny_bind (note_st K F fun s₁ F₁ => flight_st F₁ h)
theorem noted_st {M' : Model} {e : Value} {R : Value → Shared → Prop} (K : Stk A env n) (F : Flew k g n e s) (h : ∀ s', Flies k g n e s' → R e s') : notedBy M' A env R e s := note_st K F h
theorem cameBack_st {M' : Model} {e : Value} {R : Value → Shared → Prop} (F : Flies k g n e s) (h : ∀ s', Flies k g n e s' → R e s') : cameBackBy M' A env R e s := by
  obtain ⟨a, t, rfl, S⟩ := id F
  obtain ⟨oe, he, hc, vs, hd, hv⟩ := S.get (a := a) (d := excO (some t)) (.head _)
  replace hv : vs[1]? = some (.ref t) := hv
  unfold cameBackBy
  refine wpAny_bind (wpAny_field he hd hv ?_)
  rw [if_neg (by simp)]
  exact flight_st F h
end
section
variable {prog : Program} {w : World} {A : Around} {E : Value → Shared → Prop} {h : Heap} {g : Array GenState} {d : Drawn} {t : Nat} {os : OsState}
variable {nm q : Str} {C N : Addr} {bs bm bm0 : List Value} {hdct : Bool} {sn : List Str} {sub : List Value} {ab : Bool} {col : Option Bool} {dd : Option Addr} {k0 k1 k2 k3 k5 : Option Value} {B newId initId : String}
theorem check_new_e (F : ExcBaseFacts B newId initId bm0) (hB : bm.contains (.type B) = true) {M : Model} {rest : List Value} {Q : Unit → Shared → Prop} (hC : h.get? C = some (excClassObj nm q C N bs bm hdct sn sub ab col dd k0 k1 k2 k3 k5 newId))
    (hq : Q () ⟨h, g, d, t, os⟩) : wpAny M A (checkBuiltinCall newId ⟨.ref C :: rest, []⟩) Q E ⟨h, g, d, t, os⟩ := by
  have hcont : (Value.ref C :: bm).contains (.type B) = true := by rw [List.contains_cons, hB, Bool.or_true]
  have hstar := F.noStar
  simp only [checkBuiltinCall, F.newKind, F.newSplit, F.newRow]
  repeat (first | refine wpAny_loadPart_at hC ?_ | (refine wpAny_isSubtype_exc hC ?_; rw [hcont]) | refine wpAny_staticBase_exc hC ?_ | refine wpAny_madeBy_exc hC ?_ | simp only [bne_self_eq_false, Bool.false_eq_true, if_false] | wp_step)
  exact hq
theorem exc_new_e (F : ExcBaseFacts B newId initId bm0) (hB : bm.contains (.type B) = true) (hA : bm.contains (.type "AttributeError") = false) (hN : bm.contains (.type "NameError") = false) {R : Result → Shared → Prop} {rest : List Value} (hC : h.get? C = some (excClassObj nm q C N bs bm hdct sn sub ab col dd k0 k1 k2 k3 k5 newId))
    (hq : R (.ok (.ret (.ref (h.objs.size + 1)))) ⟨(h.push { cls := .type "tuple", data := .seq rest.toArray }).push
      { cls := .ref C, data := .fields #[.ref h.objs.size, .none, .none, .none, .bool false, .none] }, g, d, t, os⟩) (hrest : rest.length ≤ sizeLine) :
    codeAny (model prog w) A (.builtin newId ⟨.ref C :: rest, []⟩) R ⟨h, g, d, t, os⟩ := by
  have hends := F.ends
  have hcB : (Value.ref C :: bm).contains (.type B) = true := by rw [List.contains_cons, hB, Bool.or_true]
  have hcA : (Value.ref C :: bm).contains (.type "AttributeError") = false := by rw [List.contains_cons, hA]; rfl
  have hcN : (Value.ref C :: bm).contains (.type "NameError") = false := by rw [List.contains_cons, hN]; rfl
  refine PySem.codeAny_builtinAt F.entry ?_
  unfold Builtin.«BaseException.__new__»
  refine PySem.wpAt_bind ?_
  show PySem.wpAt _ _ _ (stack >>= _) _ _ _
  refine PySem.wpAt_bind (PySem.wpAt_stack fun p below => PySem.wpAt_of_wpAny ?_)
  wp_walk
  refine PySem.wpAt_of_wpAny ?_
  rw [F.owner]
  repeat (first | with_reducible refine wpAny_madeHere_exc F.canon hC ?_ | with_reducible refine wpAny_loadPart_at hC ?_ | (with_reducible refine wpAny_isSubtype_exc hC ?_; first | rw [hcB] | rw [hcA] | rw [hcN]) | wp_step)
  show R _ _
  rw [Heap.size_push]
  exact hq
end
@[reducible] noncomputable def excObj (C t : Addr) : Obj := { cls := .ref C, data := .fields #[.ref t, .none, .none, .none, .bool false, .none] }
section
variable {w : World} {A : Around} {E : Value → Shared → Prop} {k : Shared} {g : Heap} {d : Nat} {R : Result → Shared → Prop} {s : Shared} {n n' n'' : Led}
theorem fault_call {v : Value} (W : Wld w s.heap) (h : ∀ t x s', St s s.heap [(x, .obj (excObj 59 t))] s' → codeAny (Mo w) (A.under (.builtin "type.__call__" ⟨[.ref 59, v], []⟩)) (.call (.ref 36) ⟨[.ref x, v], []⟩) (InitBack x R) s') :
    codeAny (Mo w) A (.call (.ref 59) ⟨[v], []⟩) R s := by
  have F := PySem.F.excBase_Exception
  have X := W.inK
  obtain ⟨hp, g, dr, tk, os⟩ := s
  dsimp only at X
  have hC := X 59 _ rfl
  have f1 := tc_lookup
  have f2 := tc_bind (.ref 59)
  have hT : (⟨hp, g, dr, tk, os⟩ : Shared).TypeIs (.ref 59) "type" := ⟨_, hC, rfl⟩
  refine codeAny_of_tree ?_
  show wpAny _ _ (callAny (.ref 59) _) _ _ _
  repeat (any_goals (first | assumption | with_reducible refine wpAny_loadPart_at hC ?_ | wp_step))
  refine ⟨rfl, ?_⟩
  refine codeAny_call_builtin_at (Code.quiet_builtin _ (by decide +kernel)) entry_typeCall (wpAny_check_type_call_sub hC ?_)
  repeat (first | with_reducible refine wpAny_loadPart_at hC ?_ | with_reducible refine wpAny_madeBy_exc hC ?_ | wp_step)
  refine codeAny_call_builtin_code (Code.quiet_builtin _ F.quiet) (check_new_e F (by decide) hC ?_)
  refine exc_new_e F (by decide) (by decide) (by decide) hC ?_ (Nat.le_of_ble_eq_true (by rfl))
  show wpAny _ _ _ _ _ _
  have S1 := (St.base (s := ⟨hp, g, dr, tk, os⟩)).push (tk := tk) (o := { cls := .type "tuple", data := .seq [v].toArray }) (d := .prop fun _ => True) trivial rfl
  have S2 := S1.push (tk := tk) (o := excObj 59 hp.objs.size) (d := .obj (excObj 59 hp.objs.size)) rfl rfl
  have S3 := S2.drop2
  rw [Heap.size_push] at S3
  dsimp only at S3
  have X' : (topK w.params).In ((hp.push { cls := .type "tuple", data := .seq [v].toArray }).push (excObj 59 hp.objs.size)) := fun a o e => S3.keep _ _ (X a o e)
  have hget := S3.getO (.head _)
  have hC₁ := X' 59 _ rfl
  unfold isInstance
  have hcC : ([Value.ref 59, .ref 46, .type "Exception", .type "BaseException", .type "object"] : List Value).contains (.ref 59) = true := by decide
  repeat (first | with_reducible refine wpAny_loadPart_at hget ?_ | wp_step)
  show wpAny _ _ (isSubtype (.ref 59) _) _ _ _
  refine wpAny_isSubtype_exc hC₁ ?_
  rw [hcC]
  repeat (first | with_reducible refine wpAny_loadPart_at hget ?_ | wp_step)
  show wpAny _ _ (typeLookup (.ref 59) _) _ _ _
  refine (looks_findIn X' (r := some (.ref 36)) (by kernel_rfl)).here ?_
  refine wpAny_holding (wpAny_bind ((bind_fn X' (f := 36) _ (by kernel_rfl)).here ?_))
  refine wpAny_bind (wpAny_call (codeAny_mono (h _ _ _ S3) fun r s' z => ?_))
  rcases r with e | (v | _ | _ | _) <;> first | exact z | exact z.elim | skip
  obtain ⟨rfl, z⟩ := z
  wp_walk
  exact z
theorem check_init_e {hp : Heap} {gs : Array GenState} {dr : Drawn} {tk : Nat} {os : OsState} {M : Model} {e : Addr} {oe : Obj} {rest : List Value} {Q : Unit → Shared → Prop}
    {nm q : Str} {C N : Addr} {bs bm bm0 : List Value} {hdct : Bool} {sn : List Str} {sub : List Value} {ab : Bool} {col : Option Bool} {dd : Option Addr} {k0 k1 k2 k3 k5 : Option Value} {B newId newId' initId : String}
    (F : ExcBaseFacts B newId initId bm0) (hB : bm.contains (.type B) = true)
    (hC : hp.get? C = some (excClassObj nm q C N bs bm hdct sn sub ab col dd k0 k1 k2 k3 k5 newId')) (he : hp.get? e = some oe) (hcls : oe.cls = .ref C) (hq : Q () ⟨hp, gs, dr, tk, os⟩) :
    wpAny M A (checkBuiltinCall initId ⟨.ref e :: rest, []⟩) Q E ⟨hp, gs, dr, tk, os⟩ := by
  have hcB : (Value.ref C :: bm).contains (.type B) = true := by rw [List.contains_cons, hB, Bool.or_true]
  have hshort := F.noStar
  simp only [checkBuiltinCall, F.initKind, F.initSplit, F.initRow]
  repeat (first | (with_reducible refine wpAny_loadPart_at he ?_; rw [hcls]) | with_reducible refine wpAny_loadPart_at hC ?_ | (with_reducible refine wpAny_isSubtype_exc hC ?_; rw [hcB]) | wp_step)
  refine wpAny_onRaise ?_
  rw [show ∀ (a b : String) (n : Nat), Bind.check ⟨.positional, "*", B, .self, [⟨"args", .varPos, false⟩]⟩ a b n (List.map (fun x => x.fst) ({ pos := Value.ref e :: rest } : Args).kw) = pure () from
    fun a b n => check_star_args _ _ _ _ _ _]
  exact wpAny_pure hq
theorem cls59 {hp : Heap} (P : Params) (X : (topK P).In hp) : ∃ nm q N bs hdct sn sub ab col dd k0 k1 k2 k3 k5, hp.get? 59 = some (excClassObj nm q 59 N bs [Value.ref 46, .type "Exception", .type "BaseException", .type "object"] hdct sn sub ab col dd k0 k1 k2 k3 k5 "Exception.__new__") := by
  have hC := X 59 _ rfl
  exact ⟨_, _, _, _, _, _, _, _, _, _, _, _, _, _, _, hC⟩
theorem check_init1 {x t : Addr} {v : Value} {Q : Unit → Shared → Prop} (X : (topK w.params).In s.heap) (hx : s.heap.get? x = some (excObj 59 t)) (hQ : Q () s) :
    wpAny (Mo w) A (checkBuiltinCall "Exception.__init__" ⟨.ref x :: [v], []⟩) Q E s := by
  have F := PySem.F.excBase_Exception
  obtain ⟨hp, gs, dr, tk, os⟩ := s
  dsimp only at X hx
  obtain ⟨nm, q, N, bs, hdct, sn, sub, ab, col, dd, k0, k1, k2, k3, k5, hC⟩ := cls59 w.params X
  have hB : ([Value.ref 46, .type "Exception", .type "BaseException", .type "object"] : List Value).contains (.type "Exception") = true := by decide
  have h1 := @check_init_e A E hp gs dr tk os (Mo w) x (excObj 59 t) [v] Q nm q 59 N bs [Value.ref 46, .type "Exception", .type "BaseException", .type "object"] _ hdct sn sub ab col dd k0 k1 k2 k3 k5 _ _ "Exception.__new__" _ F
  have h2 := h1 hB
  have h3 := h2 hC
  exact h3 hx rfl hQ
theorem exc_init {x t : Addr} {r : Led} {v : Value} {Q : Value → Shared → Prop} (W : Wld w g) (S : St k g ((x, .obj (excObj 59 t)) :: r) s)
    (h : ∀ t' s', St k g ((x, .obj (excObj 59 t')) :: r) s' → Q .none s') : wpAny (Mo w) A (call (.builtin "Exception.__init__") [.ref x, v]) Q E s := by
  have F := PySem.F.excBase_Exception
  have X := (W.keeps S.keep).inK
  have hx := S.getO (.head _)
  have S1 := S.kept (tk := s.toks) (h' := s.heap.push { cls := .type "tuple", data := .seq [v].toArray }) fun b o e => Heap.get?_push_of_some _ e
  have hx1 := S1.getO (.head _)
  have S2 := S1.upd (tk := s.toks) (h' := (s.heap.push { cls := .type "tuple", data := .seq [v].toArray }).update x (Obj.mapFields (·.setIfInBounds 0 (.ref s.heap.objs.size)))) (d' := .obj (excObj 59 s.heap.objs.size)) .head (fun b o hb e => (Heap.get?_update_other _ _ (Ne.symm hb)).trans e) ⟨_, Heap.get?_update_self _ hx1 rfl, rfl⟩
  have hQ := h _ _ S2
  refine wpAny_call (codeAny_call_builtin F.init.plain F.initEntry (check_init1 X hx ?_))
  clear S S1 S2 X W h
  obtain ⟨hp, g, dr, tk, os⟩ := s
  wp_walk
  exact hQ
theorem g_exc {pl : Sem Bool} {Q : Value × List Value → Shared → Prop} (W : Wld w g) (S : St k g n s) (h : ∀ s', St k g n s' → Q (.builtin "Exception.__init__", []) s') : wpAny (Mo w) A (getMethod (.type "Exception") (Str.ofString "__init__") pl) Q E s := by
  have X := (W.keeps S.keep).inK
  have hstub : opaqueClassAbove (.type "Exception") = pure none := by unfold opaqueClassAbove; dsimp only; rw [show Manifest.isStub "Exception" = false by kernel_rfl]; rfl
  have L0 : Looks (Mo w) s.heap (typeOf (.type "Exception")) (.type "type") := Looks.of_pure (by kernel_rfl)
  have hg : findIn (topK w.params) (.type "type") "__getattribute__" = some (some (.builtin "type.__getattribute__")) := type_tga
  unfold getMethod specialOf
  refine wpAny_bind (wpAny_bind (L0.here ((looks_findIn X hg).here ?_)))
  dsimp only
  rw [if_pos canon_tga]
  refine wpAny_bind (wpAny_mono (Q := fun v => Q (v, [])) (E := E) ?_ (fun _ _ z => wpAny_pure z) fun _ _ z => z)
  have LO : Looks (Mo w) s.heap (opaqueClassAbove (.type "Exception")) none := Looks.of_pure hstub
  refine cls_open (r := .val (.builtin "Exception.__init__")) X LO L0 hg (looks_hook X (r := none) (by rfl)) (by show subIn _ _ _ = _; rfl) (by kernel_rfl)
    (wpAny_pure (by show wpAny _ _ (handedOut _) _ _ _; rw [handedOut_of (by rfl)]; exact wpAny_pure (h _ (S.toks _))))
noncomputable def mro59 : List Value := [.ref 59, .ref 46, .type "Exception", .type "BaseException", .type "object"]
theorem osa_openE {x : Addr} {ox : Obj} {od : Option Obj} {name : Str} {tk : Tok} {v : Value} (X : (topK w.params).In s.heap) (I : InstAt s.heap x ox 59 od) (ht : takerIn (topK w.params) 59 name = some none)
    (h : ∀ b, wpAny (Mo w) A.in1 (Builtin.ObjectAttr.storeInOwnDict (.ref x) (.ref 59) (.str name tk) name v b)
      (fun fin s' => match fin with | .done f => R (.ok f) s' | .again c' => c'.quiet = true ∧ codeAny (Mo w) A c' R s') (fun e s' => R (.error e) s') s) :
    codeAny (Mo w) A (.call (.builtin "object.__setattr__") ⟨[.ref x, .str name tk, v], []⟩) R s := by
  have SF := PySem.F.store_Exception
  obtain ⟨cd, hc, hmro⟩ : ∃ cd, clsIn (topK w.params) 59 = some cd ∧ cd.mro = mro59 := ⟨_, rfl, rfl⟩
  have sub : Looks (Mo w) s.heap (isInstance (.ref x) (.type "object")) true := I.type.andThen (looks_mroIn X (by unfold mroIn; rw [hc, Option.bind_some, hmro]; rfl))
  refine codeAny_call_builtin SF.slot.plain SF.entry (@check_slot (Mo w) _ _ s "object.__setattr__" "object" "__setattr__" (.ref x) [.str name tk, v] [] _ SF.kind SF.split sub (SF.args (.ref x) (.str name tk) v) ?_)
  obtain ⟨attr, ha, hr⟩ := Option.bind_eq_some_iff.mp ht
  have hm : Looks (Mo w) s.heap (mroOf (.ref 59)) mro59 := hmro ▸ (looks_clsIn X hc).andThen .now
  have L3 : Looks (Mo w) s.heap (Builtin.ObjectAttr.storeTaker? attr) none := by
    cases attr with
    | none => exact .now
    | some a =>
      obtain ⟨b, hb, hr'⟩ := Option.map_eq_some_iff.mp hr
      refine (looks_takesIn X hb).andThen ?_
      cases b <;> first | exact .now | cases hr'
  rw [osa_eq, refuse_eq]
  refine wpAny_bind (wpAny_bind (I.type.here (wpAny_bind (hm.here ?_))))
  unfold mro59
  rw [refuseLoop_ref, refuseLoop_ref, SF.passes]
  refine wpAny_pure (wpAny_bind (I.type.here (wpAny_bind ((looks_findIn X ha).here (wpAny_bind (L3.here ?_))))))
  exact h _
theorem ns_put {dx : Addr} {l : List (Str × Value)} {name : Str} {tk : Tok} {v : Value} {Q : Fin → Shared → Prop} (S : St k g n s) (hu : Upd dx (.prop (dicD (l ++ [(name, v)]))) (.prop (dicD l)) n n') (hl : l.lookup name = none) (hz : l.length ≤ 100)
    (h : ∀ s', St k g n' s' → Q (.done (.ret .none)) s') : wpAny (Mo w) A (Builtin.ObjectAttr.storeInDict dx (.str name tk) name v) Q E s := by
  obtain ⟨o, D, es, c, rfl, e⟩ := S.get hu.mem
  refine wpAny_bind (wpAny_pure (wpAny_bind ?_))
  unfold nsSet
  refine wpAny_bind (wpAny_bind (wpAny_askSetting (wpAny_pure (wpAny_bind (wpAny_mkText (wpAny_bind (wpAny_loadPart D ?_)))))))
  dsimp only [dictOf]
  have c' : (!es.toArray.any (·.key.isStr name) && es.toArray.any (·.refKey)) = false := by
    rw [List.any_toArray, List.any_toArray, e.noRef, Bool.and_false]
  rw [aRefKeyMayBeTheName_at, c']
  refine wpAny_updatePart D ?_
  have D' : (s.heap.update dx (Obj.putName name (PyData.keyHash w.params name) (.str name s.toks) v)).get? dx = some (dictOf (putL name (PyData.keyHash w.params name) (.str name s.toks) v es) (putN name es c)) := by
    rw [← putName_dict]
    exact Heap.get?_update_self _ D (by rw [putName_dict]; rfl)
  have e2 := e.put (h := PyData.keyHash w.params name) (t := s.toks) (v := v) hl
  refine wpAny_bind (wpAny_lookBehind D' (pastItsLine_dict (by rw [List.size_toArray, e2.length, sizeLine_eq, List.length_append, List.length_singleton]; omega)) ?_)
  exact wpAny_pure (h _ (S.upd hu (fun b o hb e => (Heap.get?_update_other _ _ (Ne.symm hb)).trans e) ⟨_, D', _, _, rfl, e2⟩))
theorem exc_osa1 {x t : Addr} {r : Led} {name : Str} {tk : Tok} {v : Value} {R : Result → Shared → Prop} (W : Wld w g) (S : St k g ((x, .obj (excObj 59 t)) :: r) s) (ht : takerIn (topK w.params) 59 name = some none)
    (h : ∀ dx s', St k g ((dx, .prop (dicD [(name, v)])) :: (x, .obj { excObj 59 t with dict := some dx }) :: r) s' → R (.ok (.ret .none)) s') : codeAny (Mo w) A (.call (.builtin "object.__setattr__") ⟨[.ref x, .str name tk, v], []⟩) R s := by
  have X := (W.keeps S.keep).inK
  have hx := S.getO (.head _)
  have I : InstAt s.heap x (excObj 59 t) 59 none := ⟨hx, rfl, rfl, trivial⟩
  refine osa_openE X I ht fun b => ?_
  have S1 := S.push (tk := s.toks) (o := { cls := .type "dict", data := .dict #[] }) (d := .prop (dicD [])) ⟨[], 0, rfl, .nil⟩ rfl
  have hx1 := S1.getO (.tail _ (.head _))
  obtain ⟨cd, hc, hd'⟩ : ∃ cd, clsIn (topK w.params) 59 = some cd ∧ cd.hasDict = true := ⟨_, rfl, rfl⟩
  have S2 := S1.upd (tk := s.toks) (h' := (s.heap.push { cls := .type "dict", data := .dict #[] }).update x fun o => { o with dict := some s.heap.objs.size }) (d' := .obj { excObj 59 t with dict := some s.heap.objs.size }) (.tail .head) (fun b o hb e => (Heap.get?_update_other _ _ (Ne.symm hb)).trans e) ⟨_, Heap.get?_update_self _ hx1 rfl, rfl⟩
  refine wpAny_bind (wpAny_pure (wpAny_bind (wpAny_bind (wpAny_loadPart hx (wpAny_bind ((looks_clsIn X hc).here ?_))))))
  rw [hd']
  refine wpAny_bind (wpAny_alloc (wpAny_bind (wpAny_update hx1 ?_)))
  refine wpAny_pure ?_
  exact ns_put S2 (l := []) .head rfl (by decide) fun s₃ S₃ => h s.heap.objs.size s₃ S₃
theorem exc_set1 {x t : Addr} {r : Led} {name : Str} {v : Value} {Q : Unit → Shared → Prop} (W : Wld w g) (S : St k g ((x, .obj (excObj 59 t)) :: r) s) (ht : takerIn (topK w.params) 59 name = some none)
    (h : ∀ dx s', St k g ((dx, .prop (dicD [(name, v)])) :: (x, .obj { excObj 59 t with dict := some dx }) :: r) s' → Q () s') : wpAny (Mo w) A (setAttr (.ref x) name v) Q E s :=
  set_plain (W.keeps S.keep).inK (C := 59) (ox := excObj 59 t) (od := none) ⟨S.getO (.head _), rfl, rfl, trivial⟩ (by kernel_rfl) (exc_osa1 (s := { s with toks := s.toks + 1 }) W (S.toks _) ht h)
theorem exc_osa2 {x dx t : Addr} {r : Led} {l : List (Str × Value)} {name : Str} {tk : Tok} {v : Value} {R : Result → Shared → Prop} (W : Wld w g) (S : St k g ((dx, .prop (dicD l)) :: (x, .obj { excObj 59 t with dict := some dx }) :: r) s) (ht : takerIn (topK w.params) 59 name = some none) (hl : l.lookup name = none) (hz : l.length ≤ 100)
    (h : ∀ s', St k g ((dx, .prop (dicD (l ++ [(name, v)]))) :: (x, .obj { excObj 59 t with dict := some dx }) :: r) s' → R (.ok (.ret .none)) s') : codeAny (Mo w) A (.call (.builtin "object.__setattr__") ⟨[.ref x, .str name tk, v], []⟩) R s := by
  have X := (W.keeps S.keep).inK
  have hx := S.getO (.tail _ (.head _))
  obtain ⟨o, D, i⟩ := S.get (.head _)
  have I : InstAt s.heap x { excObj 59 t with dict := some dx } 59 (some o) := ⟨hx, rfl, rfl, D⟩
  refine osa_openE X I ht fun b => ?_
  obtain ⟨cd, hc, hd'⟩ : ∃ cd, clsIn (topK w.params) 59 = some cd ∧ cd.hasDict = true := ⟨_, rfl, rfl⟩
  refine wpAny_bind (wpAny_pure (wpAny_bind (wpAny_bind (wpAny_loadPart hx (wpAny_bind ((looks_clsIn X hc).here ?_))))))
  rw [hd']
  refine wpAny_pure (a := some dx) ?_
  exact ns_put S .head hl hz h
theorem exc_set2 {x dx t : Addr} {r : Led} {l : List (Str × Value)} {name : Str} {v : Value} {Q : Unit → Shared → Prop} (W : Wld w g) (S : St k g ((dx, .prop (dicD l)) :: (x, .obj { excObj 59 t with dict := some dx }) :: r) s) (ht : takerIn (topK w.params) 59 name = some none) (hl : l.lookup name = none) (hz : l.length ≤ 100)
    (h : ∀ s', St k g ((dx, .prop (dicD (l ++ [(name, v)]))) :: (x, .obj { excObj 59 t with dict := some dx }) :: r) s' → Q () s') : wpAny (Mo w) A (setAttr (.ref x) name v) Q E s := by
  obtain ⟨o, D, i⟩ := S.get (.head _)
  exact set_plain (W.keeps S.keep).inK (C := 59) (ox := { excObj 59 t with dict := some dx }) (od := some o) ⟨S.getO (.tail _ (.head _)), rfl, rfl, D⟩ (by kernel_rfl) (exc_osa2 (s := { s with toks := s.toks + 1 }) W (S.toks _) ht hl hz h)
end
theorem Fe.quiet {env : Env} {sc : Scope} {L : Addr} {cl : List (Str × Addr)} (fe : Fe env sc L cl) : interactive env = false := by unfold interactive; rw [fe.kind]; rfl
inductive Part where
  | code (i : Int)
  | name (x : Str)
noncomputable def partIn (n : Led) (v : Value) : Part → Prop
  | .code i => ∃ t, v = .int i t
  | .name x => ∃ a dx t, v = .ref a ∧ (a, .obj (instObj 197 dx)) ∈ n ∧ (dx, .prop (dicD [(Str.ofString "text", .str x t)])) ∈ n
inductive PartsIn (n : Led) : List Value → List Part → Prop
  | nil : PartsIn n [] []
  | cons {v : Value} {p : Part} {vs : List Value} {ps : List Part} : partIn n v p → PartsIn n vs ps → PartsIn n (v :: vs) (p :: ps)
theorem partIn.mono {n n' : Led} {v : Value} {p : Part} (h : partIn n v p) (k : ∀ q ∈ n, q ∈ n') : partIn n' v p := by
  cases p with
  | code i => exact h
  | name x => obtain ⟨a, dx, t, e, m1, m2⟩ := h; exact ⟨a, dx, t, e, k _ m1, k _ m2⟩
theorem PartsIn.mono {n n' : Led} {vs : List Value} {ps : List Part} (h : PartsIn n vs ps) (k : ∀ q ∈ n, q ∈ n') : PartsIn n' vs ps := by
  induction h with
  | nil => exact .nil
  | cons a _ ih => exact .cons (a.mono k) ih
theorem PartsIn.snoc {n : Led} {vs : List Value} {ps : List Part} (h : PartsIn n vs ps) {v : Value} {p : Part} (a : partIn n v p) : PartsIn n (vs ++ [v]) (ps ++ [p]) := by
  induction h with
  | nil => exact .cons a .nil
  | cons b _ ih => exact .cons b ih
theorem PartsIn.length {n : Led} {vs : List Value} {ps : List Part} (h : PartsIn n vs ps) : vs.length = ps.length := by
  induction h with
  | nil => rfl
  | cons _ _ ih => simp [ih]
noncomputable def nameOf (x : Str) : Str := if x = Str.ofString "" then Str.ofString ".notdef" else x
noncomputable def diffStep (xs ys : List Str) (st : Int × List Part) (c : Nat) : Int × List Part :=
  if xs.getD c Str.empty = ys.getD c Str.empty then st
  else ((c : Int), st.2 ++ (if (c : Int) = st.1 + 1 then [] else [.code c]) ++ [.name (nameOf (xs.getD c Str.empty))])
noncomputable def diffTo (xs ys : List Str) (i : Nat) : Int × List Part := (List.range i).foldl (diffStep xs ys) (-2, [])
noncomputable def diffL (xs ys : List Str) : List Part := (diffTo xs ys 256).2
theorem diffTo_succ (xs ys : List Str) (i : Nat) : diffTo xs ys (i + 1) = diffStep xs ys (diffTo xs ys i) i := by
  unfold diffTo; rw [List.range_succ, List.foldl_append]; rfl
theorem diffTo_len (xs ys : List Str) : ∀ i, (diffTo xs ys i).2.length ≤ 2 * i
  | 0 => Nat.le_refl _
  | i + 1 => by
    have := diffTo_len xs ys i
    rw [diffTo_succ]; unfold diffStep
    split
    · omega
    · split <;> simp <;> omega
theorem e_neg {w : World} {A : Around} {E : Value → Shared → Prop} {s k : Shared} {g : Heap} {env : Env} {x : Expr} {pos : Pos} {Q : Value → Shared → Prop} (h : wpAny (Mo w) A (eval x env) (fun v s₁ => ∃ i t, v = .int i t ∧ (∃ n, St k g n s₁ ∧ ∀ t s', St k g n s' → Ap Q (.int (-i) t) s')) E s) :
    wpAny (Mo w) A (eval (.UnaryOp .USub x pos) env) Q E s :=
  wpAny_UnaryOp (wpAny_mono h (fun v s₁ ⟨i, t, e, n, S, hQ⟩ => by subst e; exact PyProof.Rows.neg_int (hQ _ _ (S.toks _))) fun _ _ x => x)
theorem St.forget {k : Shared} {g : Heap} {n n' : Led} {s : Shared} {a : Addr} {l l' : List (Str × Value)} (S : St k g n s) (u : Upd a (.ns l') (.ns l) n n') (h : ∀ p ∈ l', p ∈ l) (nd : (l.map (·.1)).Nodup → (l'.map (·.1)).Nodup) : St k g n' s := by
  obtain ⟨o, ho, nd', es, ep, i1, i2, i3⟩ := S.get u.mem
  exact S.recast u ⟨o, ho, nd nd', es, ep, i1, i2, fun p hp => i3 p (h p hp)⟩
theorem St.perm {k : Shared} {g : Heap} {n n' : Led} {s : Shared} (S : St k g n s) (h : n'.Perm n) : St k g n' s := S.sub (fun p hp => h.mem_iff.mp hp) ((h.map _).nodup_iff.mpr S.nd)
theorem St.newI {k : Shared} {g : Heap} {n : Led} {s s' : Shared} {x dx C : Addr} {l : List (Str × Value)} (S : St k g n s) (N : NewI s s' x dx C l) : St k g ((x, .obj (instObj C dx)) :: (dx, .prop (dicD l)) :: n) s' := by
  have f : ∀ a, s.heap.objs.size ≤ a → s.heap.get? a = none := fun a h => by
    cases e : s.heap.get? a with
    | none => rfl
    | some o => exact absurd (Heap.lt_size e) (Nat.not_lt.mpr h)
  have h1 := f _ N.lo
  have h2 := f _ (Nat.le_of_lt (Nat.lt_of_le_of_lt N.lo N.lt))
  have S1 := (S.eff N.eff (fun _ hp => nomatch hp)).add (d := .prop (dicD l)) N.dict (S.outside h1) (S.out h1)
  refine S1.add ⟨_, N.at_, rfl⟩ (S.outside h2) ?_
  simp only [List.map_cons, List.mem_cons, not_or]
  exact ⟨Nat.ne_of_gt N.lt, S.out h2⟩
@[reducible] noncomputable def diffJ (L P : Addr) (a b : Addr) (xs ys : List Str) (i : Nat) (n : Led) : Prop := ∃ ps news tl, n = (P, .lst ps) :: (L, .ns [(Str.ofString "last", .int (diffTo xs ys i).1 tl), (Str.ofString "parts", .ref P), (Str.ofString "names", .ref a), (Str.ofString "base", .ref b)]) :: news ∧ PartsIn news ps (diffTo xs ys i).2
section
variable {w : World} {A : Around} {E : Value → Shared → Prop} {s k : Shared} {g : Heap} {n n' : Led} {env : Env} {sc : Scope} {L : Addr} {cl : List (Str × Addr)} {d : Nat}
theorem raise_st {e : Expr} {pos : Pos} {Q : Flow → Shared → Prop} (hh : A.handled = none) (W : Wld w g)
    (h : wpAny (Mo w) A (eval e env) (fun v s₁ => ∃ a n, v = .ref a ∧ St k g ((a, excO none) :: n) s₁ ∧ Ap E (.ref a) s₁) E s) : wpAny (Mo w) A (exec (.Raise (some e) none pos) env) Q E s := by
  rw [arm_exec_Raise]
  refine wpAny_bind (wpAny_standAt ?_)
  unfold raiseStmt
  refine wpAny_bind (wpAny_bind (wpAny_mono h (fun v s₁ h₁ => wpAny_bind (wpAny_standAt (wpAny_pure ?_))) fun _ _ x => x))
  obtain ⟨a, n, rfl, S, hE⟩ := h₁
  obtain ⟨oe, he, hc, vs, hd, hv⟩ := S.get (a := a) (d := excO none) (.head _)
  replace hv : vs[1]? = some .none := hv
  have X := (W.keeps S.keep).inK
  obtain ⟨c, dd, dt, sl⟩ := oe
  dsimp only at hc hd
  subst hc hd
  clear S h W
  obtain ⟨hp, gs, dr, tk, os⟩ := s₁
  dsimp only at X he
  obtain ⟨nm, q, N, bs, hdct, sn, sub, ab, col, dd', k0, k1, k2, k3, k5, hC⟩ := cls59 w.params X
  have hcB : (Value.ref 59 :: [Value.ref 46, .type "Exception", .type "BaseException", .type "object"]).contains (.type "BaseException") = true := by decide
  repeat (first | with_reducible refine wpAny_loadPart_at he ?_ | with_reducible refine wpAny_loadPart_at hC ?_ | (with_reducible refine wpAny_isSubtype_exc hC ?_; rw [hcB]) | wp_step)
  rw [hv]
  refine wpAny_pure ?_
  rw [if_neg (by decide)]
  exact wpAny_pure (wpAny_raiseNew_none hh hE)
end
noncomputable def Hold (h : Heap) (L : Addr) (fs : List Addr) (n : Led) : Prop := (∃ d, (L, d) ∈ n ∧ d.slotFree) ∧ ∀ a ∈ fs, (a, frD h a) ∈ n
theorem Hold.cons {h : Heap} {L : Addr} {fs : List Addr} {n : Led} {x : Addr × Desc} (H : Hold h L fs n) : Hold h L fs (x :: n) :=
  ⟨let ⟨d, a, b⟩ := H.1; ⟨d, .tail _ a, b⟩, fun a ha => .tail _ (H.2 a ha)⟩
theorem Hold.base {h : Heap} {L : Addr} {fs : List Addr} {l : List (Str × Value)} : Hold h L fs ((L, .ns l) :: frL h fs) :=
  ⟨⟨_, .head _, slotFree_ns l⟩, fun a ha => .tail _ (List.mem_map_of_mem (f := fun a => (a, frD h a)) ha)⟩
structure Way (A : Around) (env : Env) (h : Heap) (L : Addr) (fs : List Addr) : Prop where
  stk : ∀ n, Hold h L fs n → Stk A env n
noncomputable def FlewN (k : Shared) (g : Heap) (L : Addr) (fs : List Addr) (e : Value) (s : Shared) : Prop := ∃ n, Hold k.heap L fs n ∧ Flew k g n e s
noncomputable def FliesN (k : Shared) (g : Heap) (L : Addr) (fs : List Addr) (e : Value) (s : Shared) : Prop := ∃ n, Hold k.heap L fs n ∧ Flies k g n e s
theorem FliesN.flew {k : Shared} {g : Heap} {L : Addr} {fs : List Addr} {e : Value} {s : Shared} (F : FliesN k g L fs e s) : FlewN k g L fs e s := let ⟨n, a, b⟩ := F; ⟨n, a, b.flew⟩
structure Raised (fs : List Addr) (s s' : Shared) (e : Value) : Prop where
  keep : ∀ b o, s.heap.get? b = some o → b ∉ fs → s'.heap.get? b = some o
  frames : ∀ a ∈ fs, ∃ o, s'.heap.get? a = some o ∧ (frD s.heap a).is o
  exc : ∃ a t, e = .ref a ∧ s.heap.get? a = none ∧ s.heap.get? t = none ∧ a ≠ t ∧ (∃ o, s'.heap.get? a = some o ∧ (excO (some t)).is o) ∧ (∃ o, s'.heap.get? t = some o ∧ tbO.is o)
  os : s'.os = s.os
  gens : s'.gens = s.gens
section
variable {w : World} {A : Around} {E : Value → Shared → Prop} {k : Shared} {g : Heap} {env : Env} {sc : Scope} {L : Addr} {cl : List (Str × Addr)} {d : Nat} {s : Shared} {n n' n'' : Led}
theorem St.raised {fs : List Addr} {s' : Shared} {e : Value} (S : St k g n s) (x : Raised fs s s' e) (hf : ∀ a ∈ fs, ∃ d, (a, d) ∈ n ∧ d.slotFree) : Flies k g n e s' := by
  obtain ⟨a, t, rfl, h1, h2, h3, h4, h5⟩ := x.exc
  have ga := S.outside h1
  have gt := S.outside h2
  have S1 : St k g n s' := by
    refine ⟨fun b o eb => x.keep _ _ (S.keep b o eb) fun hm => ?_, fun p hp => ⟨?_, (S.led p hp).2⟩, S.nd, x.os.trans S.os, x.gens.trans S.gens⟩
    · obtain ⟨d, hd, _⟩ := hf _ hm
      rw [(S.led _ hd).2] at eb; cases eb
    · obtain ⟨⟨o, ho, hi⟩, _⟩ := S.led p hp
      by_cases hm : p.1 ∈ fs
      · obtain ⟨d, hd, hs⟩ := hf _ hm
        have : p.2 = d := nodup_key S.nd (a := p.1) (by exact hp) hd
        obtain ⟨o', ho', o₀, h6, h7⟩ := x.frames _ hm
        rw [ho] at h6; cases h6
        exact ⟨o', ho', this ▸ hs o o' h7 (this ▸ hi)⟩
      · exact ⟨o, x.keep _ _ ho hm, hi⟩
  have S2 := S1.add (d := tbO) h5 gt (S.out h2)
  refine ⟨a, t, rfl, S2.add h4 ga ?_⟩
  simp only [List.map_cons, List.mem_cons, not_or]
  exact ⟨h3, S.out h1⟩
theorem Raised.of {fs : List Addr} {e : Value} {s' : Shared} (F : FliesN s (hideAll s.heap fs) L fs e s') : Raised fs s s' e := by
  obtain ⟨n, ⟨_, H⟩, a, t, rfl, S⟩ := F
  have fr : ∀ p ∈ (a, excO (some t)) :: (t, tbO) :: n, p.1 ∈ fs ∨ s.heap.get? p.1 = none := fun p hp => by
    by_cases hm : p.1 ∈ fs
    · exact .inl hm
    · refine .inr ?_
      cases q : s.heap.get? p.1 with
      | none => rfl
      | some o => have := hideAll_get fs q hm; rw [(S.led p hp).2] at this; cases this
  have nd := S.nd
  simp only [List.map_cons, List.nodup_cons, List.mem_cons, not_or] at nd
  have na : a ∉ fs := fun hm => nd.1.2 (List.mem_map_of_mem (f := (·.1)) (H a hm))
  have nt : t ∉ fs := fun hm => nd.2.1 (List.mem_map_of_mem (f := (·.1)) (H t hm))
  refine ⟨fun b o eb hb => S.keep _ _ (hideAll_get _ eb hb), fun a ha => ?_, ⟨a, t, rfl, ?_, ?_, nd.1.1, S.get (.head _), S.get (.tail _ (.head _))⟩, S.os, S.gens⟩
  · exact S.get (.tail _ (.tail _ (H a ha)))
  · rcases fr _ (.head _) with h | h
    · exact absurd h na
    · exact h
  · rcases fr _ (.tail _ (.head _)) with h | h
    · exact absurd h nt
    · exact h
theorem Way.noted {M : Model} {fs : List Addr} {e : Value} {R : Value → Shared → Prop} (K : Way A env k.heap L fs) (F : FlewN k g L fs e s) (h : ∀ s', FliesN k g L fs e s' → R e s') : notedBy M A env R e s := by
  obtain ⟨n, H, F⟩ := F
  exact noted_st (K.stk n H) F fun s' F' => h s' ⟨n, H, F'⟩
theorem Way.cameBack {M : Model} {fs : List Addr} {e : Value} {R : Value → Shared → Prop} (F : FliesN k g L fs e s) (h : ∀ s', FliesN k g L fs e s' → R e s') : cameBackBy M A env R e s := by
  obtain ⟨n, H, F⟩ := F
  exact cameBack_st F fun s' F' => h s' ⟨n, H, F'⟩
noncomputable def Mode (A : Around) (h : Heap) (fs : List Addr) (ok : Bool) : Prop := (ok = true ∧ fs = []) ∨ (ok = false ∧ FrA A fs ∧ fs.Nodup ∧ ∀ a ∈ fs, ∃ o, h.get? a = some o)
theorem Mode.nodup {h : Heap} {fs : List Addr} {ok : Bool} (m : Mode A h fs ok) : fs.Nodup := by
  rcases m with ⟨_, rfl⟩ | ⟨_, _, h, _⟩
  · exact .nil
  · exact h
theorem Mode.there {h : Heap} {fs : List Addr} {ok : Bool} (m : Mode A h fs ok) : ∀ a ∈ fs, ∃ o, h.get? a = some o := by
  rcases m with ⟨_, rfl⟩ | ⟨_, _, _, h⟩
  · exact fun _ h => nomatch h
  · exact h
theorem fn_enterE {R : Result → Shared → Prop} {a c : Addr} {nm q : Str} {params : Arguments} {dV pm : Value} {sc : Scope} {body : List Stmt} {args : Args} {binds : List (Str × Value)} (fs : List Addr) (ok : Bool) (mode : Mode A s.heap fs ok)
    (W : Wld w s.heap) (rm : Room A d) (ha : (topK w.params).lookup a = some ⟨.type "function", none, .func (fnOf nm q params body sc dV .none .none pm none (.ref c) .none), #[]⟩) (hcd : (c, q) ∈ codeQ)
    (hbind : BindsTo s (fnOf nm q params body sc dV .none .none pm none (.ref c) .none) args binds) (hok : ((sc.names.all fun x => x.2 != .cell) && (binds.all fun x => sc.names.lookup x.1 == some .local) && decide (binds.map (·.1)).Nodup && !sc.isCoroutine && !sc.isGenerator && sc.kind == .function) = true)
    (hW : Wld w (hideAll s.heap fs)) (hE : ok = false → ∀ e s', Raised fs s s' e → R (.error e) s')
    (h : ∀ (g : Heap) (L : Addr) (s₁ : Shared) (env : Env) (A' : Around), g = hideAll s.heap fs → Wld w g → St s g ((L, .ns binds) :: frL s.heap fs) s₁ → Fe env sc L [] → Room A' (d + 1) → (ok = false → Way A' env s.heap L fs) → (∀ fs', FrA A fs' → FrA A' (L :: fs')) →
      ∀ K : Flow → Shared → Prop, (∀ f s', R (.ok (.ret (match f with | .ret v => v | _ => .none))) s' → Kont K f s') → wpAny (Mo w) A' (execs body env) (Kont K) (fun e s' => ok = false ∧ FlewN s g L fs e s') s₁)
    (hd : d ≤ 50 := by decide) : codeAny (Mo w) A (.call (.ref a) args) R s := by
  have hok' := hok
  simp only [Bool.and_eq_true, beq_iff_eq] at hok'
  refine fn_enter (frL s.heap fs) W rm ha hcd hbind hok (fun p hp => ?_) (by rw [frL_keys]; exact mode.nodup) (by rw [frL_keys]; exact hW) (fun g L s₁ env A' hg W' S fe rm' he KK hKK => ?_) hd
  · obtain ⟨b, hb, rfl⟩ := List.mem_map.mp hp
    obtain ⟨o, ho⟩ := mode.there b hb
    exact ⟨o, ho, o, ho, rfl⟩
  · obtain ⟨rfl, rfl⟩ := he
    rw [frL_keys] at hg
    have way : ok = false → Way (A.deeper (envX q sc L a (.ref c) [])) (envX q sc L a (.ref c) []) s.heap L fs := fun q => by
      rcases mode with ⟨h1, _⟩ | ⟨_, fr, _, _⟩
      · rw [h1] at q; cases q
      · exact ⟨fun n H => let ⟨d, m1, m2⟩ := H.1; Stk.of fr hok'.2 rfl m1 m2 fun b hb => ⟨_, H.2 b hb, slotFree_frD _ _⟩⟩
    refine wpAny_mono (h g L s₁ _ _ hg W' S fe rm' way (fun fs' x => x.deeper hok'.2 rfl) KK hKK) (fun _ _ x => x) fun e s' ⟨q, n, H, F⟩ => ?_
    subst hg
    exact leaving_st ((way q).stk n H) F fun s'' F' => hE q _ _ (Raised.of ⟨n, H, F'⟩)
theorem loop_itE {fs : List Addr} {I : Addr} {N : Nat} {P : Nat → Value → Prop} {D : Nat → Obj → Prop} {x : Str} {px : Pos} {body : List Stmt} {Q : Flow → Shared → Prop} {ok : Bool} (K : ok = false → Way A env k.heap L fs) (it : It w A g I N P D) (S : St k g ((I, .prop (D 0)) :: n) s) (J : Nat → Led → Prop) (h0 : J 0 n)
    (turn : ∀ i v n₁ s₁, i < N → P i v → J i n₁ → St k g ((I, .prop (D (i + 1))) :: n₁) s₁ →
      ∀ K : Flow → Shared → Prop, (∀ f s₃, (match f with
        | .next => ∃ n₂, J (i + 1) n₂ ∧ St k g ((I, .prop (D (i + 1))) :: n₂) s₃
        | .cont => ∃ n₂, J (i + 1) n₂ ∧ St k g ((I, .prop (D (i + 1))) :: n₂) s₃
        | .brk => Ap Q .next s₃
        | .ret v => Ap Q (.ret v) s₃) → Kont K f s₃) →
      wpAny (Mo w) A (storeName env x v) (fun _ s₂ => wpAny (Mo w) A (execs body env) (Kont K) (fun e s' => ok = false ∧ FlewN k g L fs e s') s₂) (fun e s' => ok = false ∧ FlewN k g L fs e s') s₁)
    (done : ∀ n₁ s₁, J N n₁ → St k g n₁ s₁ → Q .next s₁) :
    codeAny (Mo w) A (.forLoop (.Name x px) (.ref I) body [] env) (fun r s' => match r with | .ok f => Ap Q f s' | .error e => cameBackBy (Mo w) A env (fun e s' => ok = false ∧ FlewN k g L fs e s') e s') s := by
  have hE : ∀ e s', (ok = false ∧ FlewN k g L fs e s') → notedBy (Mo w) A env (fun e s' => cameBackBy (Mo w) A env (fun e s' => ok = false ∧ FlewN k g L fs e s') e s') e s' := fun e s' ⟨q, F⟩ =>
    (K q).noted F fun s'' F' => Way.cameBack F' fun s''' F'' => ⟨q, F''.flew⟩
  refine codeAny_forLoop (fun m s₁ => ∃ i n₁, m = N - i ∧ i ≤ N ∧ J i n₁ ∧ St k g ((I, .prop (D i)) :: n₁) s₁) ?_ N ⟨0, n, by omega, by omega, h0, S⟩ (fun _ => rfl)
  rintro m s₁ ⟨i, n₁, rfl, hi, hJ, S₁⟩
  by_cases hlt : i < N
  · refine it.next i s₁ _ _ hlt S₁.keep (S₁.get (.head _)) fun v h' tk hP hD hk => ?_
    have S₂ : St k g ((I, .prop (D (i + 1))) :: n₁) { s₁ with heap := h', toks := tk } := S₁.upd Upd.head hk hD
    refine wpAny_assign_Name (wpAny_mono (K2 (turn i v n₁ _ hlt hP hJ S₂)) (fun _ s₂ h2 => wpAny_mono h2 (fun f s₃ h3 => ?_) hE) hE)
    cases f with
    | next => obtain ⟨n₂, hJ2, S3⟩ := h3; exact ⟨N - (i + 1), by omega, i + 1, n₂, rfl, hlt, hJ2, S3⟩
    | cont => obtain ⟨n₂, hJ2, S3⟩ := h3; exact ⟨N - (i + 1), by omega, i + 1, n₂, rfl, hlt, hJ2, S3⟩
    | brk => exact h3
    | ret v => exact h3
  · have : i = N := by omega
    subst this
    refine it.stop s₁ _ _ S₁.keep (S₁.get (.head _)) fun h' tk hk => ?_
    exact wpAny_execs_nil (done n₁ _ hJ (S₁.tl hk rfl rfl))
theorem try_st {body suite : List Stmt} {b₀ : Stmt} {np pos pos' : Pos} {Q : Flow → Shared → Prop} (K : Stk A env n) (W : Wld w g) (fe : Fe env sc L cl) (hx : kindIs sc (Str.ofString "FontFault") .globalImplicit = true)
    (h : wpAny (Mo w) A (execs body env) (fun f s₁ => match f with | .next => Ap Q .next s₁ | f => Ap Q f s₁) (fun e s₁ => Flew k g n e s₁) s)
    (hs : ∀ e s₁ E', Flies k g n e s₁ → wpAny (Mo w) (A.mark (some e)) (execs (b₀ :: suite) env) Q E' s₁) :
    wpAny (Mo w) A (exec (.Try body [.ExceptHandler (some (.Name (Str.ofString "FontFault") np)) none (b₀ :: suite) pos] [] [] pos') env) Q E s := by
  refine wpAny_Try_except (wpAny_mono h (fun f s₁ h₁ => ?_) fun e s₁ F => ?_)
  · cases f <;> first | exact h₁ | exact wpAny_execs_nil h₁
  · refine note_st K F fun s₂ F₂ => flight_st F₂ fun s₃ F₃ => ?_
    obtain ⟨a, t, rfl, S⟩ := id F₃
    refine wpAny_handleBy_cons (codeAny_handlers_test (e_glob (v := .ref 59) S W fe hx (by decide +kernel) ?_)) (by intro q; cases q)
    obtain ⟨oe, he, hc, vs, hd, hv⟩ := S.get (a := a) (d := excO (some t)) (.head _)
    have X := (W.keeps S.keep).inK
    obtain ⟨hp, gs, dr, tk, os⟩ := s₃
    obtain ⟨nm, q, N, bs, hdct, sn, sub, ab, col, dd', k0, k1, k2, k3, k5, hC⟩ := cls59 w.params X
    refine wpAny_excMatches_sub_self hC he hc (by decide) ?_
    exact codeAny_handlers_suite (flight_st F₃ fun s₄ F₄ => hs _ _ _ F₄)
end
theorem bindL_of {kind : Str → Option NameKind} : ∀ {binds : List (Str × Value)} (m : Str → Option Value), (binds.map (·.1)).Nodup → ∀ {p : Str × Value}, p ∈ binds → kind p.1 = some .local → bindL kind binds m p.1 = some p.2
  | [], _, _, _, h, _ => nomatch h
  | (n, v) :: r, m, nd, p, h, hk => by
    simp only [List.map_cons, List.nodup_cons] at nd
    rcases List.mem_cons.mp h with rfl | h
    · show bindL kind r (if kind n = some .local then fun y => if y = n then some v else m y else m) n = some v
      rw [if_pos hk]
      have : ∀ (l : List (Str × Value)) (m : Str → Option Value), n ∉ l.map (·.1) → bindL kind l m n = m n := by
        intro l
        induction l with
        | nil => intro m _; rfl
        | cons q l ih =>
          intro m hn
          simp only [List.map_cons, List.mem_cons, not_or] at hn
          show bindL kind l (if kind q.1 = some .local then fun y => if y = q.1 then some q.2 else m y else m) n = m n
          rw [ih _ hn.2]
          split
          · exact if_neg hn.1
          · rfl
      rw [this r _ nd.1]; exact if_pos rfl
    · exact bindL_of (binds := r) _ nd.2 h hk
theorem mem_cellsFrom_lookup {cs : List (Str × Addr)} (nd : (cs.map (·.1)).Nodup) : ∀ p ∈ cs, cs.lookup p.1 = some p.2 := by
  induction cs with
  | nil => exact fun _ h => nomatch h
  | cons q r ih =>
    simp only [List.map_cons, List.nodup_cons] at nd
    intro p hp
    rcases List.mem_cons.mp hp with rfl | hp
    · simp [List.lookup]
    · have : p.1 ≠ q.1 := fun e => nd.1 (e ▸ List.mem_map_of_mem hp)
      rw [List.lookup_cons, beq_false_of_ne this]
      exact ih nd.2 p hp
noncomputable def cellL (sc : Scope) (binds : List (Str × Value)) (L : Addr) : Led := (cellsFrom (L + 1) sc.names []).map fun p => (p.2, .cell (bindC (fun y => sc.names.lookup y) binds (fun _ => none) p.1))
noncomputable def cellOk (sc : Scope) (binds lb : List (Str × Value)) : Bool := decide (binds.map (·.1)).Nodup && decide (lb.map (·.1)).Nodup && (lb.all fun x => sc.names.lookup x.1 == some .local) && !sc.isCoroutine && !sc.isGenerator && sc.kind == .function
theorem fn_enterC {w : World} {A : Around} {R : Result → Shared → Prop} {s : Shared} {a c : Addr} {nm q : Str} {params : Arguments} {dV pm : Value} {sc : Scope} {body : List Stmt} {vals : List Value} {binds lb : List (Str × Value)} {d : Nat} (X : Led) (cl : Addr → List (Str × Addr)) (cn : Addr → Led)
    (W : Wld w s.heap) (rm : Room A d) (ha : (topK w.params).lookup a = some ⟨.type "function", none, .func (fnOf nm q params body sc dV .none .none pm none (.ref c) .none), #[]⟩) (hcd : (c, q) ∈ codeQ)
    (hbind : bindArgs (fnOf nm q params body sc dV .none .none pm none (.ref c) .none) ⟨vals, []⟩ = pure binds) (hok : cellOk sc binds lb = true) (hlb : ∀ p ∈ lb, p ∈ binds)
    (hkind : ∀ L : Addr, ∀ x ∈ binds, sc.names.lookup x.1 = some .local ∨ (sc.names.lookup x.1 = some .cell ∧ ((cl L).lookup x.1).isSome = true))
    (hcl : ∀ L, cellsFrom (L + 1) sc.names [] = cl L) (hcn : ∀ L, cellL sc binds L = cn L) (hnd : ∀ L, ((cl L).map (·.1)).Nodup)
    (hX : ∀ p ∈ X, ∃ o, s.heap.get? p.1 = some o ∧ p.2.is o) (hXn : (X.map (·.1)).Nodup)
    (hW : Wld w (hideAll s.heap (X.map (·.1))))
    (h : ∀ (g : Heap) (L : Addr) (s₁ : Shared) (env : Env) (A' : Around), g = hideAll s.heap (X.map (·.1)) → Wld w g → St s g (cn L ++ (L, .ns lb) :: X) s₁ → Fe env sc L (cl L) → Room A' (d + 1) → (env = envX q sc L a (.ref c) (cl L) ∧ A' = A.deeper env) →
      ∀ K : Flow → Shared → Prop, (∀ f s', R (.ok (.ret (match f with | .ret v => v | _ => .none))) s' → Kont K f s') → wpAny (Mo w) A' (execs body env) (Kont K)
        (fun e s' => wpAny (Mo w) A' (leaving env e) (fun _ s'' => R (.error e) s'') (fun e' s'' => R (.error e') s'') s') s₁)
    (hd : d ≤ 50 := by decide) : codeAny (Mo w) A (.call (.ref a) ⟨vals, []⟩) R s := by
  simp only [cellOk, Bool.and_eq_true, Bool.not_eq_true', beq_iff_eq, decide_eq_true_eq, List.all_eq_true] at hok
  obtain ⟨⟨⟨⟨⟨k1, k2⟩, k3⟩, k4⟩, k5⟩, k6⟩ := hok
  refine codeAny_call_cells (fd := fnOf nm q params body sc dV .none .none pm none (.ref c) .none) (body := body) (binds := binds) (rm.limit hd) (W.top _ _ ha) rfl W.nolimit (W.codes (c, q) hcd) rfl hbind rfl (fun x hx => by rw [hcl]; exact hkind _ x hx) (fun s₁ x => ?_) k4 k5 k6
  have hcl' := hcl s.heap.objs.size
  have e : callEnvC (fnOf nm q params body sc dV .none .none pm none (.ref c) .none) s.heap.objs.size a = envX q sc s.heap.objs.size a (.ref c) (cl s.heap.objs.size) := by rw [← hcl']; rfl
  have hcs : ∀ p ∈ cn s.heap.objs.size, (∃ o, s₁.heap.get? p.1 = some o ∧ p.2.is o) ∧ s.heap.objs.size < p.1 := fun p hp => by
    rw [← hcn] at hp
    obtain ⟨y, hy, rfl⟩ := List.mem_map.mp hp
    have nd := hnd s.heap.objs.size
    rw [← hcl'] at nd
    exact ⟨desc_cell (x.cell y.1 y.2 (mem_cellsFrom_lookup nd y hy)), x.above y.1 y.2 hy⟩
  have hcd' : ((cn s.heap.objs.size).map (·.1)).Nodup := by
    rw [← hcn]
    unfold cellL
    rw [List.map_map]
    exact List.pairwise_map.mpr x.apart
  have hns : s₁.heap.Ns s.heap.objs.size (bindL (fun y => sc.names.lookup y) binds fun _ => none) := x.toInCall.ns
  rw [e]
  obtain ⟨h₁, tk, es, hk⟩ := x.done
  refine K1 (h _ s.heap.objs.size s₁ _ _ rfl hW ⟨fun b o e => x.toInCall.keep b o (of_hideAll _ e), fun p hp => ?_, ?_, by rw [es], by rw [es]⟩ ⟨rfl, rfl, rfl, k6, rfl, rfl⟩ (rm.deeper _) ⟨rfl, rfl⟩)
  · have none_of : ∀ a, s.heap.objs.size ≤ a → (hideAll s.heap (X.map (·.1))).get? a = none := fun a ha => by
      cases e : (hideAll s.heap (X.map (·.1))).get? a with
      | none => rfl
      | some o => exact absurd (Heap.lt_size (of_hideAll _ e)) (Nat.not_lt.mpr ha)
    rcases List.mem_append.mp hp with hp | hp
    · obtain ⟨h1, h2⟩ := hcs p hp
      exact ⟨h1, none_of _ (Nat.le_of_lt h2)⟩
    · rcases List.mem_cons.mp hp with rfl | hp
      · exact ⟨desc_ns hns k2 fun p hp => bindL_of _ k1 (hlb p hp) (by have := k3 p hp; simpa using this), none_of _ (Nat.le_refl _)⟩
      · obtain ⟨o, e, i⟩ := hX p hp
        exact ⟨⟨o, x.toInCall.keep _ _ e, i⟩, hideAll_none _ (List.mem_map_of_mem hp)⟩
  · have lt : ∀ p ∈ X, p.1 < s.heap.objs.size := fun p hp => let ⟨o, e, _⟩ := hX p hp; Heap.lt_size e
    rw [List.map_append, List.map_cons, List.nodup_append]
    refine ⟨hcd', ?_, ?_⟩
    · simp only [List.nodup_cons]
      refine ⟨fun hm => ?_, hXn⟩
      obtain ⟨p, hp, e⟩ := List.mem_map.mp hm
      have := lt p hp
      rw [e] at this
      exact absurd this (Nat.lt_irrefl _)
    · rintro a ha b hb rfl
      obtain ⟨p, hp, rfl⟩ := List.mem_map.mp ha
      have h2 := (hcs p hp).2
      rcases List.mem_cons.mp hb with e | hb
      · have e' : p.1 = s.heap.objs.size := e
        rw [e'] at h2
        exact absurd h2 (Nat.lt_irrefl _)
      · obtain ⟨q, hq, e⟩ := List.mem_map.mp hb
        have h3 := lt q hq
        have e' : q.1 = p.1 := e
        rw [e'] at h3
        exact absurd (Nat.lt_trans h2 h3) (Nat.lt_irrefl _)
section
variable {w : World} {A : Around} {E : Value → Shared → Prop} {k : Shared} {g : Heap} {env : Env} {sc : Scope} {L : Addr} {cl : List (Str × Addr)} {d : Nat} {s : Shared} {n n' n'' : Led}
theorem fn_enterCE {R : Result → Shared → Prop} {a c : Addr} {nm q : Str} {params : Arguments} {dV pm : Value} {sc : Scope} {body : List Stmt} {vals : List Value} {binds lb : List (Str × Value)} (fs : List Addr) (ok : Bool) (mode : Mode A s.heap fs ok) (cl : Addr → List (Str × Addr)) (cn : Addr → Led)
    (W : Wld w s.heap) (rm : Room A d) (ha : (topK w.params).lookup a = some ⟨.type "function", none, .func (fnOf nm q params body sc dV .none .none pm none (.ref c) .none), #[]⟩) (hcd : (c, q) ∈ codeQ)
    (hbind : bindArgs (fnOf nm q params body sc dV .none .none pm none (.ref c) .none) ⟨vals, []⟩ = pure binds) (hok : cellOk sc binds lb = true) (hlb : ∀ p ∈ lb, p ∈ binds)
    (hkind : ∀ L : Addr, ∀ x ∈ binds, sc.names.lookup x.1 = some .local ∨ (sc.names.lookup x.1 = some .cell ∧ ((cl L).lookup x.1).isSome = true))
    (hcl : ∀ L, cellsFrom (L + 1) sc.names [] = cl L) (hcn : ∀ L, cellL sc binds L = cn L) (hnd : ∀ L, ((cl L).map (·.1)).Nodup)
    (hW : Wld w (hideAll s.heap fs)) (hE : ok = false → ∀ e s', Raised fs s s' e → R (.error e) s')
    (h : ∀ (g : Heap) (L : Addr) (s₁ : Shared) (env : Env) (A' : Around), g = hideAll s.heap fs → Wld w g → St s g (cn L ++ (L, .ns lb) :: frL s.heap fs) s₁ → Fe env sc L (cl L) → Room A' (d + 1) → (ok = false → Way A' env s.heap L fs) → (∀ fs', FrA A fs' → FrA A' (L :: fs')) →
      ∀ K : Flow → Shared → Prop, (∀ f s', R (.ok (.ret (match f with | .ret v => v | _ => .none))) s' → Kont K f s') → wpAny (Mo w) A' (execs body env) (Kont K) (fun e s' => ok = false ∧ FlewN s g L fs e s') s₁)
    (hd : d ≤ 50 := by decide) : codeAny (Mo w) A (.call (.ref a) ⟨vals, []⟩) R s := by
  have hok' := hok
  simp only [cellOk, Bool.and_eq_true, beq_iff_eq] at hok'
  refine fn_enterC (frL s.heap fs) cl cn W rm ha hcd hbind hok hlb hkind hcl hcn hnd (fun p hp => ?_) (by rw [frL_keys]; exact mode.nodup) (by rw [frL_keys]; exact hW) (fun g L s₁ env A' hg W' S fe rm' he KK hKK => ?_) hd
  · obtain ⟨b, hb, rfl⟩ := List.mem_map.mp hp
    obtain ⟨o, ho⟩ := mode.there b hb
    exact ⟨o, ho, o, ho, rfl⟩
  · obtain ⟨rfl, rfl⟩ := he
    rw [frL_keys] at hg
    have way : ok = false → Way (A.deeper (envX q sc L a (.ref c) (cl L))) (envX q sc L a (.ref c) (cl L)) s.heap L fs := fun q => by
      rcases mode with ⟨h1, _⟩ | ⟨_, fr, _, _⟩
      · rw [h1] at q; cases q
      · exact ⟨fun n H => let ⟨d, m1, m2⟩ := H.1; Stk.of fr hok'.2 rfl m1 m2 fun b hb => ⟨_, H.2 b hb, slotFree_frD _ _⟩⟩
    refine wpAny_mono (h g L s₁ _ _ hg W' S fe rm' way (fun fs' x => x.deeper hok'.2 rfl) KK hKK) (fun _ _ x => x) fun e s' ⟨q, n, H, F⟩ => ?_
    subst hg
    exact leaving_st ((way q).stk n H) F fun s'' F' => hE q _ _ (Raised.of ⟨n, H, F'⟩)
theorem s_cell {x : Str} {v : Value} {v₀ : Option Value} {a : Addr} {Q : Unit → Shared → Prop} (S : St k g n s) (fe : Fe env sc L cl) (hx : kindIs sc x .cell = true) (hc : cl.lookup x = some a) (hu : Upd a (.cell (some v)) (.cell v₀) n n')
    (h : ∀ s', St k g n' s' → Q () s') : wpAny (Mo w) A (storeName env x v) Q E s := by
  obtain ⟨h3, h4⟩ := kindIs_is fe hx
  exact wpAny_storeName_cell fe.kind h3 (by rw [fe.cells]; exact hc) (S.isCell hu.mem) fun h' hv hs => h _ (S.upd hu (tk := s.toks) (fun b o hb e => (hs.2 b hb).trans e) (desc_cell hv))
end
section
variable {w : World} {A : Around} {E : Value → Shared → Prop} {k : Shared} {g : Heap} {env : Env} {d : Nat} {s : Shared} {n n' n'' : Led}
theorem mul_list0 {l : Addr} {items : Array Value} {c : Nat} {x : Int} {u : Tok} {Q : Value → Shared → Prop}
    (hl : s.heap.get? l = some { cls := .type "list", dict := none, data := .seq items c, slots := #[] })
    (hlo : -(2 ^ 63 : Int) ≤ x) (hhi : x < 2 ^ 63) (hsz : items.size * x.toNat ≤ 2 ^ 24)
    (h : Q (.ref s.heap.objs.size) { s with heap := s.heap.push { cls := .type "list", data := .seq (List.foldl (fun x1 x2 => x1 ++ x2) #[] (List.replicate (if items.isEmpty = true then 0 else x.toNat) items)) } }) :
    wpAny (Mo w) A (binaryOp .Mult (.ref l) (.int x u)) Q E s :=
  wpAny_binaryOp_repeat_ref (T := "list") (U := "int") (by decide) ⟨_, hl, rfl⟩ (fun s' => typeIs_int s' x u) noFill_list_mul F.fills_int_mul F.slot_int_rmul repeat_list F.slot_int_index.lookup
    (call_meets F.slot_int_rmul (typeIs_int s x u) F.entry_int_rmul (F.args_int_rmul_2 _ _) (int___rmul___int_list x u l items c)
      ⟨hl, rfl, ⟨_, hl, rfl⟩, call_meets F.slot_list_mul ⟨_, hl, rfl⟩ F.entry_list_mul (F.args_list_mul_2 _ _)
        (AutoListH.list___mul___list_int_3 l items c x u (by simp [Builtin.List.listFitsIndex]; omega) (by omega) (by simp [Builtin.List.listTooLong, sizeLine]; omega))
        ⟨hl, h⟩⟩)
theorem l_mul {l : Addr} {vs : List Value} {m : Nat} {u : Tok} {Q : Value → Shared → Prop} (S : St k g n s) (hm : (l, .lst vs) ∈ n) (hlo : m ≤ 1000) (hz : vs.length ≤ 1000)
    (h : ∀ a s', St k g ((a, .lst (List.replicate m vs).flatten) :: n) s' → Q (.ref a) s') : wpAny (Mo w) A (binaryOp .Mult (.ref l) (.int (m : Int) u)) Q E s := by
  obtain ⟨c, hl⟩ := S.plainObj hm
  have hsz : vs.toArray.size * ((m : Int)).toNat ≤ 2 ^ 24 := by
    simp only [List.size_toArray, Int.toNat_natCast]
    exact Nat.le_trans (Nat.mul_le_mul hz hlo) (Nat.le_of_ble_eq_true rfl)
  refine mul_list0 hl (by omega) (by omega) hsz (h _ _ (S.push (tk := s.toks) (d := .lst (List.replicate m vs).flatten) ⟨0, ?_⟩ rfl))
  rw [Int.toNat_natCast, fold_rep vs m]
theorem e_upto {value upper : Expr} {p pos : Pos} {Q : Value → Shared → Prop}
    (h : wpAny (Mo w) A (eval value env) (fun o s₁ => wpAny (Mo w) A (eval upper env) (fun u s₂ => ∃ (l : Addr) (vs : List Value) (b : Nat) (t : Tok) (n : Led), o = .ref l ∧ u = .int ((b : Nat) : Int) t ∧ St k g n s₂ ∧ s₂.heap.IsList l vs.toArray ∧ vs.length ≤ sizeLine ∧ ∀ a s', St k g ((a, .lst (vs.take b)) :: n) s' → Ap Q (.ref a) s') E s₁) E s)
    (ht : ∀ o r, letTemporaryGo value o r = pure ()) : wpAny (Mo w) A (eval (.Subscript value (.Slice none (some upper) none p) pos) env) Q E s := by
  refine wpAny_Subscript_list_slice (wpAny_mono h (fun o s₁ h₁ => ?_) fun _ _ x => x) ht
  rw [evalPart_none]
  refine wpAny_pure (wpAny_mono h₁ (fun u s₂ h₂ => ?_) fun _ _ x => x)
  obtain ⟨l, vs, b, t, n, rfl, rfl, S, hl, hz, hQ⟩ := h₂
  refine ⟨l, vs.toArray, _, _, rfl, hl, by rw [List.size_toArray]; exact hz, .none, .int _ _, ?_⟩
  have S1 := S.kept (tk := s₂.toks) (h' := s₂.heap.push { cls := .type "slice", data := .fields #[.none, .int ((b : Nat) : Int) t, .none] }) fun b o e => Heap.get?_push_of_some _ e
  have S2 := S1.push (tk := s₂.toks) (o := { cls := .type "list", data := .seq (slicePick vs.toArray none (some ((b : Nat) : Int)) none) }) (d := .lst (vs.take b)) ⟨0, by rw [slicePick_upto']⟩ rfl
  have := hQ _ _ S2
  rw [Heap.size_push] at this
  exact this
theorem e_from {value lower : Expr} {p pos : Pos} {Q : Value → Shared → Prop}
    (h : wpAny (Mo w) A (eval value env) (fun o s₁ => wpAny (Mo w) A (eval lower env) (fun u s₂ => ∃ (l : Addr) (vs : List Value) (b : Nat) (t : Tok) (n : Led), o = .ref l ∧ u = .int ((b : Nat) : Int) t ∧ St k g n s₂ ∧ s₂.heap.IsList l vs.toArray ∧ vs.length ≤ sizeLine ∧ ∀ a s', St k g ((a, .lst (vs.drop b)) :: n) s' → Ap Q (.ref a) s') E s₁) E s)
    (ht : ∀ o r, letTemporaryGo value o r = pure ()) : wpAny (Mo w) A (eval (.Subscript value (.Slice (some lower) none none p) pos) env) Q E s := by
  refine wpAny_Subscript_list_slice (wpAny_mono h (fun o s₁ h₁ => wpAny_mono h₁ (fun u s₂ h₂ => ?_) fun _ _ x => x) fun _ _ x => x) ht
  rw [evalPart_none]
  refine wpAny_pure ?_
  obtain ⟨l, vs, b, t, n, rfl, rfl, S, hl, hz, hQ⟩ := h₂
  refine ⟨l, vs.toArray, _, _, rfl, hl, by rw [List.size_toArray]; exact hz, .int _ _, .none, ?_⟩
  have S1 := S.kept (tk := s₂.toks) (h' := s₂.heap.push { cls := .type "slice", data := .fields #[.int ((b : Nat) : Int) t, .none, .none] }) fun b o e => Heap.get?_push_of_some _ e
  have S2 := S1.push (tk := s₂.toks) (o := { cls := .type "list", data := .seq (slicePick vs.toArray (some ((b : Nat) : Int)) none none) }) (d := .lst (vs.drop b)) ⟨0, by rw [slicePick_from']⟩ rfl
  have := hQ _ _ S2
  rw [Heap.size_push] at this
  exact this
theorem e_cut {value lower upper : Expr} {p pos : Pos} {Q : Value → Shared → Prop}
    (h : wpAny (Mo w) A (eval value env) (fun o s₁ => wpAny (Mo w) A (eval lower env) (fun u s₂ => wpAny (Mo w) A (eval upper env) (fun u' s₃ => ∃ (l : Addr) (vs : List Value) (b c : Nat) (t t' : Tok) (n : Led), o = .ref l ∧ u = .int ((b : Nat) : Int) t ∧ u' = .int ((c : Nat) : Int) t' ∧ St k g n s₃ ∧ s₃.heap.IsList l vs.toArray ∧ vs.length ≤ sizeLine ∧ b ≤ c ∧ c ≤ vs.length ∧ ∀ a s', St k g ((a, .lst ((vs.drop b).take (c - b))) :: n) s' → Ap Q (.ref a) s') E s₂) E s₁) E s)
    (ht : ∀ o r, letTemporaryGo value o r = pure ()) : wpAny (Mo w) A (eval (.Subscript value (.Slice (some lower) (some upper) none p) pos) env) Q E s := by
  refine wpAny_Subscript_list_slice (wpAny_mono h (fun o s₁ h₁ => wpAny_mono h₁ (fun u s₂ h₂ => wpAny_mono h₂ (fun u' s₃ h₃ => ?_) fun _ _ x => x) fun _ _ x => x) fun _ _ x => x) ht
  obtain ⟨l, vs, b, c, t, t', n, rfl, rfl, rfl, S, hl, hz, hbc, hc, hQ⟩ := h₃
  refine ⟨l, vs.toArray, _, _, rfl, hl, by rw [List.size_toArray]; exact hz, .int _ _, .int _ _, ?_⟩
  have S1 := S.kept (tk := s₃.toks) (h' := s₃.heap.push { cls := .type "slice", data := .fields #[.int ((b : Nat) : Int) t, .int ((c : Nat) : Int) t', .none] }) fun b o e => Heap.get?_push_of_some _ e
  have S2 := S1.push (tk := s₃.toks) (o := { cls := .type "list", data := .seq (slicePick vs.toArray (some ((b : Nat) : Int)) (some ((c : Nat) : Int)) none) }) (d := .lst ((vs.drop b).take (c - b))) ⟨0, by rw [slicePick_run _ _ _ (by simpa using hc) hbc]⟩ rfl
  have := hQ _ _ S2
  rw [Heap.size_push] at this
  exact this
-- data
theorem c_eqD {a b : Value} {da db : PyData} {as bs : List Addr} {Q : Value → Shared → Prop} (rm : Room A d) (hd : d ≤ 50) (ra : Reads s.heap a da as) (rb : Reads s.heap b db bs) (ha : SeqAt.shaped da = true) (hb : SeqAt.shaped db = true) (h : Q (.bool (PyData.eqv da db)) s) :
    wpAny (Mo w) A (compareOp .Eq a b) Q E s := SeqAt.compareEq_shaped ra rb ha hb (by have := rm.units; show A.units + 64 < 9900; omega) h
theorem c_neD {a b : Value} {da db : PyData} {as bs : List Addr} {Q : Value → Shared → Prop} (rm : Room A d) (hd : d ≤ 50) (ra : Reads s.heap a da as) (rb : Reads s.heap b db bs) (ha : SeqAt.shaped da = true) (hb : SeqAt.shaped db = true) (h : Q (.bool (!PyData.eqv da db)) s) :
    wpAny (Mo w) A (compareOp .NotEq a b) Q E s := SeqAt.compareNe_shaped ra rb ha hb (by have := rm.units; show A.units + 64 < 9900; omega) h
-- ints, texts
theorem i_int {i : Int} {t : Tok} {Q : Value → Shared → Prop} (h : Q (.int i t) s) : wpAny (Mo w) A (call (.type "int") [.int i t]) Q E s := call_int_int h
theorem i_abs {i : Int} {t : Tok} {Q : Value → Shared → Prop} (S : St k g n s) (h : ∀ u s', St k g n s' → Q (.int (if i < 0 then -i else i) u) s') : wpAny (Mo w) A (call (.builtin "abs") [.int i t]) Q E s := call_abs_int fun u tk => h u _ (S.toks tk)
theorem i_text {x : Str} {t : Tok} {i : Int} {Q : Value → Shared → Prop} (S : St k g n s) (hn : PySem.intText? x = some i) (hl : x.length ≤ 640) (h : ∀ u s', St k g n s' → Q (.int i u) s') : wpAny (Mo w) A (call (.type "int") [.str x t]) Q E s := KIN.call_text hn hl (h _ _ (S.toks _))
theorem i_chr {i : Int} {t : Tok} {Q : Value → Shared → Prop} (S : St k g n s) (h0 : 0 ≤ i) (h1 : i ≤ 1114111) (h : ∀ u s', St k g n s' → Q (.str ⟨#[i.toNat]⟩ u) s') : wpAny (Mo w) A (call (.builtin "chr") [.int i t]) Q E s := chr_of_range h0 h1 (h _ _ (S.toks _))
theorem t_in {x y : Str} {t u : Tok} {Q : Value → Shared → Prop} (h : Q (.bool (Txt.contains x y)) s) : wpAny (Mo w) A (compareOp .In (.str y u) (.str x t)) Q E s := SB.contains h
theorem t_item {value slice : Expr} {x : Str} {t : Tok} {i : Int} {u : Tok} {Q : Value → Shared → Prop} (S : St k g n s) (h0 : 0 ≤ i) (h63 : i < 2 ^ 63) (h1 : i < x.length) (h : ∀ u s', St k g n s' → Q (.str (Txt.item x i) u) s')
    (hs : subscripted slice false (.str x t) (.int i u) = operate [.str x t, .int i u] (getItem (.str x t) (.int i u))) (ht : ∀ r, letTemporaryGo value (.str x t) r = pure ()) :
    wpAny (Mo w) A (subscriptTail value slice (.str x t) (.int i u)) Q E s := item_str (fitsSsize_of (N := 9223372036854775808) (by omega) (by omega) (Int.le_refl _)) (by omega) h1 (fun _ => h _ _ (S.toks _)) hs ht
end
section
variable {w : World} {A : Around} {E : Value → Shared → Prop} {k : Shared} {g : Heap} {env : Env} {d : Nat} {K : Type} [DecidableEq K] {knd : KeyKind prg w K} {s : Shared} {n n' n'' : Led}
noncomputable def DicH (knd : KeyKind prg w K) (h : Heap) (a : Addr) (kvs : List (K × Value)) : Prop := (a == sysModules) = false ∧ h.DictOf knd a kvs
noncomputable def dcD (knd : KeyKind prg w K) (kvs : List (K × Value)) : Desc := .prop fun o => o.IsDictOf knd kvs
theorem DicH.keeps {h h' : Heap} {a : Addr} {kvs : List (K × Value)} (D : DicH knd h a kvs) (k : ∀ b o, h.get? b = some o → h'.get? b = some o) : DicH knd h' a kvs := ⟨D.1, D.2.keep k⟩
theorem St.dic (S : St k g n s) {a : Addr} {kvs : List (K × Value)} (lo : (a == sysModules) = false) (hm : (a, dcD knd kvs) ∈ n) : DicH knd s.heap a kvs := ⟨lo, Heap.dictOf_iff.mpr (S.get hm)⟩
theorem d_sub {a : Addr} {kvs : List (K × Value)} {key : K} {kv v : Value} {value slice : Expr} {Q : Value → Shared → Prop} (S : St k g n s) (D : DicH knd s.heap a kvs) (hkey : knd.is key kv = true) (hl : valueAt kvs key = some v) (h : ∀ s', St k g n s' → Q v s')
    (hs : subscripted slice false (.ref a) kv = operate [.ref a, kv] (getItem (.ref a) kv)) : wpAny (Mo w) A (subscriptTail value slice (.ref a) kv) Q E s :=
  tail_any D.2.typeIs slot_dict_getitem.lookup (wpAny_getItem_of hkey D.2.mapOf hl (h _ (S.toks _))) hs
theorem d_meth {a : Addr} {kvs : List (K × Value)} {pl : Sem Bool} {Q : Value × List Value → Shared → Prop} (D : DicH knd s.heap a kvs) (h : Q (.builtin "dict.get", [.ref a]) s) : wpAny (Mo w) A (getMethod (.ref a) (Str.ofString "get") pl) Q E s :=
  getMethod_builtin D.2.typeIs PySem.F.plainAttrs_dict PySem.F.slot_dict_get PySem.F.type_dict_get D.2.mapOf.noDict h
theorem d_get1 {a : Addr} {kvs : List (K × Value)} {key : K} {kv : Value} {Q : Value → Shared → Prop} (S : St k g n s) (D : DicH knd s.heap a kvs) (hkey : knd.is key kv = true) (x : Option Value) (hl : valueAt kvs key = x) (h : ∀ s', St k g n s' → Q (x.getD .none) s') :
    wpAny (Mo w) A (call (.builtin "dict.get") [.ref a, kv]) Q E s :=
  call_meetsIn PySem.F.slot_dict_get D.2.typeIs PySem.F.entry_dict_get (PySem.F.args_dict_get_2 _ _) (meets_dict_get knd a hkey D.1) ⟨_, D.2.mapOf, by rw [hl]; exact h _ (S.toks _)⟩
theorem d_get2 {a : Addr} {kvs : List (K × Value)} {key : K} {kv dflt : Value} {Q : Value → Shared → Prop} (S : St k g n s) (D : DicH knd s.heap a kvs) (hkey : knd.is key kv = true) (x : Option Value) (hl : valueAt kvs key = x) (h : ∀ s', St k g n s' → Q (x.getD dflt) s') :
    wpAny (Mo w) A (call (.builtin "dict.get") [.ref a, kv, dflt]) Q E s :=
  call_meetsIn PySem.F.slot_dict_get D.2.typeIs PySem.F.entry_dict_get (PySem.F.args_dict_get_3 _ _ _) (meets_dict_get_default knd a hkey D.1 dflt) ⟨_, D.2.mapOf, by rw [hl]; exact h _ (S.toks _)⟩
theorem d_len {a : Addr} {kvs : List (K × Value)} {Q : Value → Shared → Prop} (S : St k g n s) (D : DicH knd s.heap a kvs) (hz : kvs.length ≤ 1000000) (h : ∀ t s', St k g n s' → Q (.int kvs.length t) s') : wpAny (Mo w) A (call (.builtin "len") [.ref a]) Q E s :=
  call_len_dict D.1 D.2 (by omega) (h _ _ (S.toks _))
theorem d_set {a : Addr} {kvs : List (K × Value)} {key : K} {kv v : Value} {Q : Unit → Shared → Prop} (S : St k g n s) (hu : Upd a (dcD knd (stored kvs key v)) (dcD knd kvs) n n') (hkey : knd.is key kv = true) (hz : kvs.length ≤ sizeLine) (h : ∀ s', St k g n' s' → Q () s') :
    wpAny (Mo w) A (setItem (.ref a) kv v) Q E s :=
  wpAny_setItem_pairs (hsz := hz) hkey (Heap.dictOf_iff.mpr (S.get hu.mem)) fun h' hm hs => h _ (S.upd hu (fun b o hb e => (hs.2 b hb).trans e) (Heap.dictOf_iff.mp hm))
theorem not_modules (W : Wld w g) (S : St k g n s) : (s.heap.objs.size == sysModules) = false := by
  have : g.get? 454 = some _ := W.top 454 _ rfl
  have h1 := Heap.lt_size (S.keep _ _ this)
  refine beq_false_of_ne fun e => ?_
  rw [e] at h1
  exact absurd h1 (by decide)
theorem e_dict0 {pos : Pos} {Q : Value → Shared → Prop} (W : Wld w g) (S : St k g n s) (knd : KeyKind prg w K) (h : ∀ a s', (a == sysModules) = false → St k g ((a, dcD knd []) :: n) s' → Q (.ref a) s') : wpAny (Mo w) A (eval (.Dict [] [] pos) env) Q E s := by
  have hd := Heap.dictOf_iff.mp (Heap.DictOf.new (knd := knd) s.heap)
  have S1 := (S.kept (tk := s.toks) (h' := s.heap.push { cls := .type "dict", data := .dict #[] }) fun b o e => Heap.get?_push_of_some _ e).add (d := dcD knd []) hd S.fresh (S.notin (Nat.le_refl _))
  have := h _ _ (not_modules W S) S1
  exact wpAny_Dict_empty this
theorem e_dict {keys : List (Option Expr)} {values : List Expr} {pos : Pos} {Q : Value → Shared → Prop} (W : Wld w g) (S : St k g n s) (knd : KeyKind prg w K) (hall : keys.all (·.isSome) = true) (hl : keys.length = values.length) (h0 : keys ≠ []) (hlen : keys.length ≤ 15)
    (h : ∀ a s', (a == sysModules) = false → St k g ((a, dcD knd []) :: n) s' → wpAny (Mo w) A (evalPairs (pairTrees keys values env pos)) (fun vs s₁ => ∃ n₁ n₂ kvs, St k g n₁ s₁ ∧ Upd a (dcD knd (merged [] kvs)) (dcD knd []) n₁ n₂ ∧ Carries knd vs kvs ∧ ∀ s₂, St k g n₂ s₂ → Ap Q (.ref a) s₂) E s') :
    wpAny (Mo w) A (eval (.Dict keys values pos) env) Q E s := by
  have hd := Heap.dictOf_iff.mp (Heap.DictOf.new (knd := knd) s.heap)
  have S1 := (S.kept (tk := s.toks) (h' := s.heap.push { cls := .type "dict", data := .dict #[] }) fun b o e => Heap.get?_push_of_some _ e).add (d := dcD knd []) hd S.fresh (S.notin (Nat.le_refl _))
  refine wpAny_Dict_walk (knd := knd) hall hl h0 hlen (wpAny_mono (h _ _ (not_modules W S) S1) (fun vs s₁ ⟨n₁, n₂, kvs, S2, hu, hc, hQ⟩ => ?_) fun _ _ x => x)
  exact ⟨kvs, hc, Heap.dictOf_iff.mpr (S2.get hu.mem), fun h' hm hs => hQ _ (S2.upd hu (fun b o hb e => (hs.2 b hb).trans e) (Heap.dictOf_iff.mp hm))⟩
theorem p_nil {Q : List (Value × Value) → Shared → Prop} (h : Q [] s) : wpAny (Mo w) A (evalPairs (pairTrees [] [] env pos)) Q E s := evalPairs_nil h
theorem p_cons {ke ve : Expr} {ks : List (Option Expr)} {vs : List Expr} {pos : Pos} {Q : List (Value × Value) → Shared → Prop}
    (h : wpAny (Mo w) A (eval ke env) (fun kv s₁ => wpAny (Mo w) A (eval ve env) (fun vv s₂ => wpAny (Mo w) A (evalPairs (pairTrees ks vs env pos)) (fun r s₃ => Ap Q ((kv, vv) :: r) s₃) E s₂) E s₁) E s) :
    wpAny (Mo w) A (evalPairs (pairTrees (some ke :: ks) (ve :: vs) env pos)) Q E s :=
  evalPairs_cons (wpAny_mono h (fun kv s₁ h₁ => wpAny_bind (wpAny_mono h₁ (fun vv s₂ h₂ => wpAny_bind (wpAny_standAt (wpAny_pure h₂))) fun _ _ x => x)) fun _ _ x => x)
end
theorem Strs.of_pairs : ∀ l : List (Str × Tok), Strs (strValues l) (l.map (·.1))
  | [] => .nil
  | p :: r => .cons (Strs.of_pairs r)
theorem Strs.of_are {vs : List Value} {xs : List Str} (h : StrsAre vs xs) : Strs vs xs := by
  induction h with
  | nil => exact .nil
  | cons y t _ ih => exact .cons ih
theorem Strs.are {vs : List Value} {xs : List Str} (h : Strs vs xs) : StrsAre vs xs := by
  induction h with
  | nil => exact .nil
  | cons _ ih => exact .cons _ _ ih
theorem It.tuple {w : World} {A : Around} {g : Heap} {l : Addr} {vs : List Value} (hh : A.handled = none) (hl : g.IsTuple l vs.toArray) (I : Addr) :
    It w A g I vs.length (fun i v => vs[i]? = some v) (fun i o => o.cls = .type "tuple_iterator" ∧ o.data = .fields #[.ref l, .int i 0]) where
  next := fun i s Q E hi hg ⟨o, ho, hc, hd⟩ hQ => by
    have hx : vs[i]? = some vs[i] := List.getElem?_eq_getElem hi
    have ht : s.heap.IsTuple l vs.toArray := let ⟨o, a, b⟩ := hl; ⟨o, hg _ _ a, b⟩
    refine wpAny_pyNext_tuple_item ⟨o, ho, hc, hd⟩ ht (x := vs[i]) (by simpa using hx) fun h' ⟨o', e1, e2, e3⟩ hs => ?_
    exact hQ _ h' s.toks hx ⟨o', e1, e2, e3⟩ fun b o hb e => (hs.2 b hb).trans e
  stop := fun s Q E hg ⟨o, ho, hc, hd⟩ hQ => by
    have ht : s.heap.IsTuple l vs.toArray := let ⟨o, a, b⟩ := hl; ⟨o, hg _ _ a, b⟩
    refine wpAny_pyNext_tuple_end hh ⟨o, ho, hc, hd⟩ ht (by simp) fun h' hs => ?_
    exact hQ h' s.toks fun b o hb e => hs b o hb e
section
variable {w : World} {A : Around} {E : Value → Shared → Prop} {k : Shared} {g : Heap} {env : Env} {d : Nat} {s : Shared} {n n' n'' : Led}
theorem St.isTup (S : St k g n s) {a : Addr} {vs : List Value} (hm : (a, .obj (tupO vs)) ∈ n) : s.heap.IsTuple a vs.toArray := ⟨_, S.getO hm, rfl, 0, rfl⟩
theorem m_split {x : Str} {t : Tok} {pl : Sem Bool} {Q : Value × List Value → Shared → Prop} (h : Q (.builtin "str.split", [.str x t]) s) : wpAny (Mo w) A (getMethod (.str x t) (Str.ofString "split") pl) Q E s := PySem.GM.split h
theorem m_lower {x : Str} {t : Tok} {pl : Sem Bool} {Q : Value × List Value → Shared → Prop} (h : Q (.builtin "str.lower", [.str x t]) s) : wpAny (Mo w) A (getMethod (.str x t) (Str.ofString "lower") pl) Q E s := PySem.GM.lower h
theorem t_split {x : Str} {t : Tok} {Q : Value → Shared → Prop} (S : St k g n s) (hz : x.length + 2 ≤ sizeLine) (h : ∀ a vs s', Strs vs (Txt.words x) → St k g ((a, .lst vs) :: n) s' → Q (.ref a) s') : wpAny (Mo w) A (call (.builtin "str.split") [.str x t]) Q E s := by
  have hn : (Builtin.Str.spaceWords x (x.length + 1)).length ≤ sizeLine := by
    have e1 := (StrLaws.sw_weight x).1
    have e2 := StrLaws.len_le_wsum (Builtin.Str.spaceWords x (x.length + 1))
    omega
  refine call_meets F.slot_str_split (typeIs_str _ _ _) F.entry_str_split (F.args_str_split_1 _) (meets_str_split_space x t (by omega) hn) ?_
  cases hw : Builtin.Str.spaceWords x (x.length + 1) == [(0, x.length)]
  · simp only [Bool.false_eq_true, if_false]
    rw [strsFrom_eq]
    refine h _ _ _ ?_ (S.push (d := .lst (strValues (numbered s.toks (PySem.wordsOf x)))) ⟨0, rfl⟩ rfl)
    have := Strs.of_pairs (numbered s.toks (PySem.wordsOf x))
    rw [numbered_texts] at this
    have e : Txt.words x = PySem.wordsOf x := by unfold Txt.words; rw [if_neg (ne_true_of_eq_false hw)]
    rw [e]; exact this
  · simp only [if_true]
    refine h _ _ _ ?_ (S.push (tk := s.toks) (d := .lst [.str x t]) ⟨0, rfl⟩ rfl)
    have e : Txt.words x = [x] := by unfold Txt.words; rw [if_pos hw]
    rw [e]; exact .cons .nil
theorem t_lower {x : Str} {t : Tok} {Q : Value → Shared → Prop} (S : St k g n s) (hz : x.length ≤ 1000) (h : ∀ u s', St k g n s' → Q (.str (Txt.lower x) u) s') : wpAny (Mo w) A (call (.builtin "str.lower") [.str x t]) Q E s :=
  PyProof.Rows.SCL.lower (by omega) fun _ => h _ _ (S.toks _)
@[reducible] noncomputable def rangeO2 (a : Int) (N : Nat) (t u v : Tok) : Obj := { cls := .type "range", data := .fields #[.int a t, .int (a + N) u, .int 1 v] }
theorem r_range2 {a b : Int} {N : Nat} {t u : Tok} {Q : Value → Shared → Prop} (S : St k g n s) (hb : b = a + N) (h : ∀ r t u v s', St k g ((r, .obj (rangeO2 a N t u v)) :: n) s' → Q (.ref r) s') : wpAny (Mo w) A (call (.type "range") [.int a t, .int b u]) Q E s := by
  subst hb
  exact call_range_2 (h _ _ _ _ _ (S.push (o := rangeO2 a N _ _ _) rfl rfl))
theorem p_range2 {r : Addr} {a : Int} {N : Nat} {t u v : Tok} {Q : Value → Shared → Prop} (S : St k g ((r, .obj (rangeO2 a N t u v)) :: n) s) (hN : N ≤ 100000) (ha : 0 ≤ a) (ha' : a ≤ 100000)
    (h : ∀ I s', St k g ((I, .prop fun o => o = { cls := .type "range_iterator", dict := none, data := .fields #[rawInt (a + (0 : Nat)), rawInt ((N : Int) - (0 : Nat)), rawInt 1], slots := #[] }) :: n) s' → Q (.ref I) s') : wpAny (Mo w) A (pyIter (.ref r)) Q E s := by
  refine wpAny_pyIter_range (S.getO (.head _)) (small_one (by omega) (by omega) (by omega) (by omega)) (h _ _ ?_)
  have e : Builtin.Range.rangeSize a (a + (N : Int)) 1 = (N : Int) - (0 : Nat) := by
    rw [rangeSize_one]
    by_cases hz : a < a + (N : Int)
    · rw [if_pos hz]; omega
    · rw [if_neg hz]; omega
  rw [e]
  have e2 : a + ((0 : Nat) : Int) = a := by omega
  rw [e2]
  exact S.drop.push (tk := s.toks) rfl rfl
theorem p_tuple {l : Addr} {vs : List Value} {Q : Value → Shared → Prop} (S : St k g n s) (hl : g.IsTuple l vs.toArray)
    (h : ∀ I s', St k g ((I, .prop fun o => o.cls = .type "tuple_iterator" ∧ o.data = .fields #[.ref l, .int (0 : Nat) 0]) :: n) s' → Q (.ref I) s') : wpAny (Mo w) A (pyIter (.ref l)) Q E s :=
  wpAny_pyIter_tuple (let ⟨o, a, b⟩ := hl; ⟨o, S.keep _ _ a, b⟩) (h _ _ (S.push (tk := s.toks) ⟨rfl, rfl⟩ rfl))
theorem u_item {value slice : Expr} {t : Addr} {vs : List Value} {i : Int} {u : Tok} {x : Value} {Q : Value → Shared → Prop} (ht : s.heap.IsTuple t vs.toArray) (h0 : 0 ≤ i) (hf : i < 2 ^ 63) (hx : vs[i.toNat]? = some x) (h : Q x s)
    (hs : subscripted slice false (.ref t) (.int i u) = operate [.ref t, .int i u] (getItem (.ref t) (.int i u))) : wpAny (Mo w) A (subscriptTail value slice (.ref t) (.int i u)) Q E s := by
  have hlt : i.toNat < vs.length := (List.getElem?_eq_some_iff.mp hx).1
  refine item_tupleT (j := i.toNat) (let ⟨o, a, b, n, c⟩ := ht; ⟨o, a, b, n, c⟩) (by omega) hf ?_ hx h hs
  unfold seqIndex?
  have e1 : ¬ i < 0 := by omega
  have e2 : i < (vs.length : Int) := by omega
  simp [e1, e2, h0]
theorem u_pair {x y : Str} {p q pos vpos : Pos} {c : Nat} {value : Expr} {Q : Flow → Shared → Prop} (hh : A.handled = none)
    (h : wpAny (Mo w) A (eval value env) (fun v s₁ => ∃ t a b n, v = .ref t ∧ St k g n s₁ ∧ s₁.heap.IsTuple t [a, b].toArray ∧ ∀ s₂, St k g n s₂ → wpAny (Mo w) A (storeName env x a) (fun _ s₃ => wpAny (Mo w) A (storeName env y b) (fun _ s₄ => Ap Q .next s₄) E s₃) E s₂) E s)
    (hs : swapsWithSole [.Tuple [.Name x p, .Name y q] c vpos] value pos.line env = pure false) (hw : swappedStores [.Tuple [.Name x p, .Name y q] c vpos] value env = pure none) :
    wpAny (Mo w) A (exec (.Assign [.Tuple [.Name x p, .Name y q] c vpos] value pos) env) Q E s := by
  refine Assign_Tuple (wpAny_mono h (fun v s₁ ⟨t, a, b, n, e, S, ht, hQ⟩ => ?_) fun _ _ x => x) hs hw
  subst e
  refine wpAny_assign_Tuple hh ht rfl rfl fun h' hk => ?_
  have S1 : St k g n { s₁ with heap := h' } := S.kept (tk := s₁.toks) fun b o e => hk b o (Nat.ne_of_lt (Heap.lt_size e)) e
  refine assignInOrder_cons (wpAny_assign_Name (wpAny_mono (hQ _ S1) (fun _ s₂ h2 => ?_) fun _ _ x => x))
  exact assignInOrder_cons (wpAny_assign_Name (wpAny_mono h2 (fun _ s₃ h3 => assignInOrder_nil h3) fun _ _ x => x))
theorem l_min {l : Addr} {vs : List Value} {ns : List Int} {Q : Value → Shared → Prop} (hh : A.handled = none) (S : St k g n s) (hl : s.heap.IsList l vs.toArray) (hi : IntsAre vs ns) (hne : 0 < ns.length)
    (h : ∀ M t s', St k g n s' → M ∈ ns → (∀ a ∈ ns, M ≤ a) → Q (.int M t) s') : wpAny (Mo w) A (call (.builtin "min") [.ref l]) Q E s := by
  obtain ⟨xs, e⟩ := hi.allInts.items
  have hns : ns = xs.toList.map (·.1) := by
    rw [← hi.numsOf, ← nums_intItems, ← e]
  have hsz : 0 < xs.size := by
    have h3 := hne; rw [hns, List.length_map, Array.length_toList] at h3; exact h3
  rw [e] at hl
  refine min_intList hh hl hsz fun v h' tk hv hk => ?_
  obtain ⟨t, rfl⟩ := intItems_at hv
  obtain ⟨h1, h2⟩ := argBest_lt (numAt xs) (xs.size - 1)
  refine h _ t _ (S.kept hk) ?_ fun a ha => ?_
  · rw [hns, numAt_eq]; exact getD_mem (by rw [List.length_map, Array.length_toList]; omega)
  · rw [hns] at ha
    obtain ⟨j, hj, rfl⟩ := mem_getD ha
    rw [List.length_map, Array.length_toList] at hj
    rw [← numAt_eq]; exact h2 j (by omega)
theorem sort_led {a' : Addr} {vs : List Value} {c : Nat} (S : St k g ((a', .lst vs) :: n) s) (hoL : s.heap.get? a' = some (seqObj "list" vs.toArray c)) (out : Array Value) : St k g ((a', .lst out.toList) :: n) { s with heap := sortedHeap s.heap a' vs out } := by
  obtain ⟨e, he⟩ := sortedHeap_at (vs := vs) (n := c) (out := out) hoL
  exact S.upd (tk := s.toks) (h' := sortedHeap s.heap a' vs out) (d' := .lst out.toList) .head (fun b o hb eb => (sortedHeap_old hb (Heap.lt_size eb)).trans eb) ⟨_, he, e, by simp [seqObj]⟩
theorem sort_out {vs : List Value} {xs : List Str} (hA : StrsAre vs xs) (xs' : Array Keyed) (hp : xs'.Perm (pairsOf vs)) (hs : SortedToK PyProof.Rows.strKind xs' (pairsOf vs).size) : ∃ ss', Strs (xs'.map (·.2)).toList ss' ∧ ss'.Perm xs ∧ sortedS ss' = true := by
  obtain ⟨ss', h1, h2, h3⟩ := sorted_out_str hA hp hs
  exact ⟨ss', .of_are h1, h2, h3⟩
theorem l_sort {a' : Addr} {vs : List Value} {xs : List Str} {Q : Value → Shared → Prop} (S : St k g ((a', .lst vs) :: n) s) (hS : Strs vs xs) (hz : vs.length < 64)
    (h : ∀ vs' xs' s', Strs vs' xs' → xs'.Perm xs → sortedS xs' = true → St k g ((a', .lst vs') :: n) s' → Q .none s') : wpAny (Mo w) A (call (.builtin "list.sort") [.ref a']) Q E s := by
  obtain ⟨o, hoL, c, rfl⟩ := S.get (.head _)
  have hA := hS.are
  have h0 := hA.keysOf
  have hkk : ∀ v₁ v₂ rest, vs = v₁ :: v₂ :: rest → keyKind' (v₁ :: v₂ :: rest).toArray = pure oneType' := fun v₁ v₂ rest e => keyKind_strs (by rw [← e]; exact hA)
  have h1 := @list_sort_treeK prg w A.in1 E s PyProof.Rows.strKind strKind_oneLt a' vs c (fun fin s' => ∃ v, fin = Fin.done (.ret v) ∧ Q v s') hoL h0 hkk hz
  have key := h1 (fun st' hp hs => by
    obtain ⟨ss', h1, h2, h3⟩ := sort_out hA _ hp hs
    exact ⟨_, rfl, h _ _ _ h1 h2 h3 (sort_led S hoL _)⟩)
  exact wpAny_call_entry PyProof.Rows.slot_list_sort ⟨_, hoL, rfl⟩ PyProof.Rows.entry_list_sort key (PyProof.Rows.args_list_sort _)
theorem d_sorted {a : Addr} {kvs : List (Str × Value)} {Q : Value → Shared → Prop} (hh : A.handled = none) (S : St k g n s) (D : DicH (PySem.strKind prg w) s.heap a kvs) (hz : kvs.length < 64)
    (h : ∀ l vs xs s', St k g ((l, .lst vs) :: n) s' → Strs vs xs → xs.Perm (kvs.map (·.1)) → sortedS xs = true → Q (.ref l) s') : wpAny (Mo w) A (call (.builtin "sorted") [.ref a]) Q E s := by
  obtain ⟨ep, hat⟩ := D.2.dictAt
  refine call_function_entry kind_sorted plain_sorted entry_sorted (args_sorted1 _) ?_
  unfold Builtin.«sorted»
  refine wpAny_bind (m := checkCount "sorted" 1 1 _) (wpAny_pure ?_)
  have hle : kvs.length ≤ sizeLine := by show _ ≤ 16777216; omega
  refine wpAny_bind (kdu_collect (A := A.in1) (kdl_dict (knd := PySem.strKind prg w) (kvs := kvs) (ep := ep) D.1) hh hat hle fun h' tk acc hk hacc => ?_)
  have S1 := S.kept (tk := tk) hk
  have hl : acc.toList.length = kvs.length := by rw [Array.length_toList]; exact hacc.1
  refine wpAny_bind (wpAny_newList ?_ (by rw [hl]; exact hle))
  have S2 := S1.push (tk := tk) (o := { cls := .type "list", data := .seq acc.toList.toArray }) (d := .lst acc.toList) ⟨0, rfl⟩ rfl
  have hS : StrsAre acc.toList (kvs.map (·.1)) := by
    have : ∀ (vs : List Value) (kvs : List (Str × Value)), vs.length = kvs.length → (∀ (j : Nat) (v : Value), vs[j]? = some v → ∃ k x, kvs[j]? = some (k, x) ∧ (PySem.strKind prg w).is k v = true) → StrsAre vs (kvs.map (·.1)) := by
      intro vs
      induction vs with
      | nil => intro kvs e _; cases kvs with | nil => exact .nil | cons _ _ => cases e
      | cons v vs ih =>
        intro kvs e hv
        cases kvs with
        | nil => cases e
        | cons p kvs =>
          obtain ⟨k, x, e1, e2⟩ := hv 0 v rfl
          cases e1
          obtain ⟨t, rfl⟩ := Value.isStrOf_shape e2
          exact .cons _ _ (ih kvs (Nat.succ.inj e) fun j v hj => hv (j + 1) v (by simpa using hj))
    exact this _ _ hl fun j v e => hacc.2 j v (by rw [← Array.getElem?_toList]; exact e)
  refine wpAny_bind (wpAny_holding (l_sort S2 (Strs.of_are hS) (by rw [hl]; exact hz) fun vs' xs' s' h1 h2 h3 S3 => ?_))
  exact wpAny_pure ⟨_, rfl, h _ _ _ _ S3 h1 h2 h3⟩
end
section
variable {w : World} {A : Around} {E : Value → Shared → Prop} {k : Shared} {g : Heap} {env : Env} {sc : Scope} {L : Addr} {cl : List (Str × Addr)} {d : Nat} {s : Shared} {n n' n'' : Led}
theorem St.shrink {g' : Heap} (S : St k g' n s) (h : ∀ b o, g.get? b = some o → g'.get? b = some o) : St k g n s :=
  ⟨fun b o e => S.keep _ _ (h _ _ e), fun p hp => ⟨(S.led p hp).1, by
    cases e : g.get? p.1 with
    | none => rfl
    | some o => have := h _ _ e; rw [(S.led p hp).2] at this; cases this⟩, S.nd, S.os, S.gens⟩
theorem St.freeze {a : Addr} {vs : List Value} (S : St k g ((a, .lst vs) :: n) s) : ∃ g', (∀ b o, g.get? b = some o → g'.get? b = some o) ∧ g'.IsList a vs.toArray ∧ St k g' n s := by
  obtain ⟨g', h1, S', h2⟩ := S.grow (n' := n) (fun p hp => .tail _ hp) S.drop.nd
  obtain ⟨o, ho, c, rfl⟩ := S.get (.head _)
  have nd := S.nd
  simp only [List.map_cons, List.nodup_cons] at nd
  exact ⟨g', h1, ⟨_, h2 _ _ ho nd.1, rfl, c, rfl⟩, S'⟩
theorem swaps_comp {elt iter : Expr} {x y : Str} {px py pos : Pos} {scope : Scope} {line : Nat} (fe : Fe env sc L cl) (h : (sc.kind == .function && sc.names.lookup y == some .local && py.line == pos.line && !(scope.names.any fun (n, k) => n == y && (k == .local || k == .cell))) = true) :
    swapsWith (.ListComp elt [⟨.Name x px, iter, [], 0⟩] scope pos) (some (.Name y py)) line env = pure true := by
  have e1 := fe.scope
  subst e1
  show pure (env.blockKind == .function && env.kindOf y == some .local && py.line == pos.line && !(scope.names.any fun (n, k) => n == y && (k == .local || k == .cell))) = pure true
  have hk := fe.kind
  have : env.blockKind = .function := by unfold Env.blockKind; rw [hk]; rfl
  rw [this, show env.kindOf y = env.scope.names.lookup y from rfl]
  simp only [Bool.and_eq_true] at h
  obtain ⟨⟨⟨_, h2⟩, h3⟩, h4⟩ := h
  rw [h2, h3, h4]; rfl
theorem x_comp {elt iter : Expr} {x y : Str} {px py pos spos : Pos} {scope : Scope} {cl' : List (Str × Addr)} {Q : Flow → Shared → Prop} (fe : Fe env sc L cl)
    (hsw : swapsWith (.ListComp elt [⟨.Name x px, iter, [], 0⟩] scope pos) (some (.Name y py)) spos.line env = pure true) (hclos : closureFor scope env = pure cl') (hcell : (scope.names.all fun y => y.2 != .cell) = true) (hkind : scope.kind = .function)
    (hnames : (scope.names.all fun y => y.2 != .local || scope.names.lookup y.1 == some .local) = true) (hx : kindIs (rl scope sc) x .local = true)
    (h : wpAny (Mo w) A (eval iter env) (fun xv s₁ => wpAny (Mo w) A (pyIter xv) (fun iv s₂ => ∃ (g : Heap) (I : Addr) (N : Nat) (P : Nat → Value → Prop) (D : Nat → Obj → Prop) (n : Led) (J : Nat → List Value → Led → Prop), iv = .ref I ∧ It w A g I N P D ∧ N ≤ sizeLine ∧ St k g ((I, .prop (D 0)) :: n) s₂ ∧ J 0 [] n ∧ (∀ i ys n, J i ys n → ys.length = i) ∧
      (∀ (s : Shared) (Q : Value → Shared → Prop) (E : Value → Shared → Prop), (∃ o, s.heap.get? I = some o ∧ D 0 o) → Q (.ref I) s → wpAny (Mo w) A (pyIter (.ref I)) Q E s) ∧
      (∀ C acc cenv i v ys n₁ s₁ E', i < N → P i v → J i ys n₁ → Fe cenv (rl scope sc) C cl' → St k g ((C, .ns [(x, v)]) :: (acc, .lst ys) :: (I, .prop (D (i + 1))) :: n₁) s₁ →
        ∀ K : Value → Shared → Prop, (∀ y s₂, (∃ n₂, J (i + 1) (ys ++ [y]) n₂ ∧ St k g ((C, .ns [(x, v)]) :: (acc, .lst ys) :: (I, .prop (D (i + 1))) :: n₂) s₂) → Kont K y s₂) → wpAny (Mo w) A (eval elt cenv) (Kont K) E' s₁) ∧
      (∀ C acc ys n₁ s₁, J N ys n₁ → St k g ((C, .ns []) :: (acc, .lst ys) :: n₁) s₁ → wpAny (Mo w) A (storeName env y (.ref acc)) (fun _ s₂ => ∃ n₂, St k g ((C, .ns []) :: n₂) s₂ ∧ ∀ s₃, St k g n₂ s₃ → Ap Q .next s₃) E s₁)) E s₁) E s)
    (hs : ∀ x, foldedSetIterable iter env x = pure x) : wpAny (Mo w) A (exec (.Assign [.Name y py] (.ListComp elt [⟨.Name x px, iter, [], 0⟩] scope pos) spos) env) Q E s := by
  have hcell' : ∀ y ∈ scope.names, y.2 ≠ .cell := fun y hy => by have := List.all_eq_true.mp hcell y hy; simpa using this
  have hnames' : ∀ y ∈ scope.names, y.2 = .local → scope.names.lookup y.1 = some .local := fun y hy e => by have := List.all_eq_true.mp hnames y hy; simpa [e] using this
  rw [exec_Assign_Name_used _ _ _ _ hsw]
  refine wpAny_bind (wpAny_standAt (wpAny_bind ?_))
  show wpAny _ A (do let _ ← comprehension (.ListComp elt [⟨.Name x px, iter, [], 0⟩] scope pos) scope env _ (newList []) false (eval iter env) (some (assign (.Name y py) env))) _ _ s
  refine wpAny_bind (wpAny_mono (wpAny_comprehension_free (use := some (assign (.Name y py) env)) (Q := fun _ s' => Q .next s') rfl hs hclos hkind hnames'
    (wpAny_mono h (fun xv s₁ h₁ => wpAny_mono h₁ (fun iv s₂ h₂ => ?_) fun _ _ e => e) fun _ _ e => e)) (fun _ s' hq => wpAny_pure (wpAny_pure hq)) fun _ _ e => e)
  obtain ⟨g, I, N, P, D, n, J, rfl, it, hz, S, h0, hJ, hself, turn, done⟩ := h₂
  have S1 := S.push (tk := s₂.toks) (o := { cls := .type "list", data := .seq ([] : List Value).toArray }) (d := .lst []) ⟨0, rfl⟩ rfl
  refine wpAny_newObj_type (wpAny_newFunctionEnv hcell' (by intro y hy; simp at hy) (fun h₁ hns hsb => ?_) hkind)
  dsimp only at hns hsb ⊢
  have hC : ∀ b o, (s₂.heap.push { cls := .type "list", data := .seq ([] : List Value).toArray }).get? b = some o → h₁.get? b = some o := fun b o e =>
    (hsb.2 b (fun z => absurd (Heap.lt_size e) (by rw [z]; exact Nat.lt_irrefl _))).trans (Heap.get?_push_of_some _ e)
  have S2 := (S1.kept (h' := h₁) (tk := s₂.toks + ([] : List (Str × Value)).length) hC).add (desc_ns (l := []) hns .nil fun p hp => nomatch hp) S1.fresh (S1.notin (Nat.le_refl _))
  have fe' : Fe (compEnvC scope cl' (s₂.heap.push { cls := .type "list", data := .seq ([] : List Value).toArray }).objs.size env) (rl scope sc) (s₂.heap.push { cls := .type "list", data := .seq ([] : List Value).toArray }).objs.size cl' :=
    ⟨rl_of fe.scope, rfl, rfl, by show (relabel scope env).kind = _; exact hkind, fe.glob, fe.blt⟩
  have loop := comp_loop (R := compPost (Mo w) A E (some (assign (.Name y py) env)) (fun _ s' => Q .next s') (.ref s₂.heap.objs.size) (s₂.heap.push { cls := .type "list", data := .seq ([] : List Value).toArray }).objs.size) (px := px) (elt := elt) (iter := iter) (scope := scope) (pos := pos) it hz J fe' hx h0 S2 hJ
    (fun i v ys n₁ s₁ E' hi hP hJ1 S₁ => turn _ _ _ i v ys n₁ s₁ E' hi hP hJ1 fe' S₁)
    (fun ys n₁ s₁ hJ1 S₁ => by
      show wpAny _ A (assign (.Name y py) env (.ref _)) _ _ _
      refine wpAny_assign_Name (wpAny_mono (done _ _ ys n₁ s₁ hJ1 S₁) (fun _ s₂' ⟨n₂, S₂, hQ⟩ => ?_) fun _ _ x => x)
      obtain ⟨m, hm, _⟩ := S₂.ns (.head _)
      exact ⟨m, hm, fun h' hs' => hQ _ (S₂.tl (fun b o hb e => (hs'.2 b hb).trans e) rfl rfl)⟩) (fun v => rfl)
  exact codeAny_compStart_list loop (hself _ _ _ (S2.get (.tail _ (.tail _ (.head _)))) loop)
end
section
variable {w : World} {A : Around} {E : Value → Shared → Prop} {k : Shared} {g : Heap} {env : Env} {sc : Scope} {L : Addr} {cl : List (Str × Addr)} {d : Nat} {s : Shared} {n n' n'' : Led}
theorem c_le {a b : Int} {t u : Tok} {Q : Value → Shared → Prop} (h : Q (.bool (decide (a ≤ b))) s) : wpAny (Mo w) A (compareOp .LtE (.int a t) (.int b u)) Q E s := PyProof.Rows.le_int h
theorem t_chain {l r₁ r₂ : Expr} {op₁ op₂ : CmpOp} {pos : Pos} {whole : Sem Value} {Q : Bool → Shared → Prop}
    (h : wpAny (Mo w) A (eval l env) (fun a s₁ => wpAny (Mo w) A (eval r₁ env) (fun b s₂ => wpAny (Mo w) A (compareOp op₁ a b) (fun c s₃ => wpAny (Mo w) A (truthy c) (fun t s₄ =>
      if t = true then wpAny (Mo w) A (eval r₂ env) (fun b' s₅ => wpAny (Mo w) A (compareOp op₂ b b') (fun c' s₆ => wpAny (Mo w) A (truthy c') Q E s₆) E s₅) E s₄ else Ap Q false s₄) E s₃) E s₂) E s₁) E s)
    (hm : lastMarks [op₁, op₂] [r₁, r₂] = false) : wpAny (Mo w) A (isTrue (.Compare l [op₁, op₂] [r₁, r₂] pos) env whole) Q E s := by
  refine isTrue_chain (wpAny_mono h (fun a s₁ h₁ => ?_) fun _ _ x => x) hm
  show wpAny _ _ (testChain pos a [op₁, op₂] [eval r₁ env, eval r₂ env]) _ _ _
  unfold testChain
  refine wpAny_bind (wpAny_holding (wpAny_mono h₁ (fun b s₂ h₂ => wpAny_bind (wpAny_standAt (wpAny_bind (wpAny_holding (wpAny_mono h₂ (fun c s₃ h₃ => ?_) fun _ _ x => x))))) fun _ _ x => x))
  refine wpAny_bind (wpAny_release' (wpAny_bind (wpAny_holding (wpAny_mono h₃ (fun t s₄ h₄ => ?_) fun _ _ x => x))))
  cases t with
  | false => exact wpAny_pure h₄
  | true =>
    rw [if_pos rfl] at h₄ ⊢
    unfold testChain
    exact wpAny_bind (wpAny_holding (wpAny_mono h₄ (fun b' s₅ h₅ => wpAny_bind (wpAny_standAt (wpAny_bind (wpAny_operate' (wpAny_mono h₅ (fun c' s₆ h₆ => wpAny_holding h₆) fun _ _ x => x))))) fun _ _ x => x))
end
section
variable {w : World} {A : Around} {E : Value → Shared → Prop} {k : Shared} {g : Heap} {env : Env} {sc : Scope} {L : Addr} {cl : List (Str × Addr)} {d : Nat} {s : Shared} {n n' n'' : Led}
theorem e_bytes {x : List UInt8} {c : Nat} {pos : Pos} {Q : Value → Shared → Prop} (S : St k g n s) (h : ∀ t s', St k g n s' → Q (.bytes x.toArray t) s') : wpAny (Mo w) A (eval (.Constant (.bytes x) c pos) env) Q E s := Constant_bytes (h _ _ (S.toks _))
theorem i_meth {x C f : Addr} {l : List (Str × Value)} {name : Str} {pl : Sem Bool} {Q : Value × List Value → Shared → Prop} (W : Wld w s.heap) (I : InstH s.heap x C l) (hg : plainGet (topK w.params) C name = true)
    (hf : findIn (topK w.params) (.ref C) name = some (some (.ref f))) (ht : isFn (topK w.params) (.ref f) = true) (hl : l.lookup name = none) (h : Q (.ref f, [.ref x]) s) : wpAny (Mo w) A (getMethod (.ref x) name pl) Q E s := by
  obtain ⟨dx, es, c, IA, e⟩ := I.at
  exact method_fn W.inK IA (plainGet_of hg).1 (plainGet_of hg).2 hf (beq_iff_eq.mp ht) (by show (lookIn name (dictOf es c)).map _ = _; rw [lookIn_dict, e.get, hl]; rfl) h
theorem k_meth {pos : Pos} {a : Addr} {x : Value} {e : Expr} {rest : List Expr} {Q : Value → Shared → Prop} (hf : ∃ fd, (topK w.params).lookup a = some ⟨.type "function", none, .func fd, #[]⟩)
    (h : wpAny (Mo w) A (spliced (backTo pos (starEach (e :: rest) env))) (MethK w A E a x Q) E s)
    (he : starEach (e :: rest) env = (false, eval e env) :: starEach rest env) : wpAny (Mo w) A (callWith pos (.ref a) [x] (backTo pos (starEach (e :: rest) env)) []) Q E s := by
  obtain ⟨fd, hf⟩ := hf
  rw [he] at h ⊢
  exact callWith_function (o := ⟨.type "function", none, .func fd, #[]⟩) (fd := fd) (evalArgs_plain (wpAny_mono h (fun vs s₁ ⟨W, c⟩ => ⟨⟨W.top _ _ hf, rfl⟩, wpAny_call c⟩) fun _ _ x => x))
end
noncomputable def wordsGo : Option (List Nat) → List Nat → List (List Nat)
  | none, [] => []
  | some w, [] => [w]
  | none, c :: r => if Unicode.isSpace c then wordsGo none r else wordsGo (some [c]) r
  | some w, c :: r => if Unicode.isSpace c then w :: wordsGo none r else wordsGo (some (w ++ [c])) r
theorem extract_succ {xs : Array Nat} {b c : Nat} (h1 : b ≤ c) (h2 : c < xs.size) : (xs.extract b (c + 1)).toList = (xs.extract b c).toList ++ [xs.getD c 0] := by
  simp only [Array.toList_extract, List.extract_eq_take_drop]
  have e : c + 1 - b = (c - b) + 1 := by omega
  rw [e, List.take_succ]
  have : (xs.toList.drop b)[c - b]? = some (xs.getD c 0) := by
    rw [List.getElem?_drop, show b + (c - b) = c by omega, Array.getElem?_toList, Array.getElem?_eq_getElem h2]
    simp [Array.getD, h2]
  rw [this]; rfl
open StrLaws in
theorem sw_words (x : Str) : ∀ (m cur : Nat) (words : Array (Nat × Nat)) (start : Option Nat), cur + m = x.length → words.size ≤ cur → (∀ b, start = some b → b ≤ cur) →
    ((swEnd x (forIn (List.range' cur m) ((none, words, start) : SwSt) (swBody x (x.length + 1))).run).map fun p => (Builtin.Str.strSub x p.1 p.2).cps.toList) =
      (words.toList.map fun p => (Builtin.Str.strSub x p.1 p.2).cps.toList) ++ wordsGo (start.map fun b => (x.cps.extract b cur).toList) (x.cps.toList.drop cur)
  | 0, cur, words, start, hm, hw, hs => by
    have hc : cur = x.cps.size := by simpa [Str.length] using hm
    have hd : x.cps.toList.drop cur = [] := by rw [hc]; exact List.drop_of_length_le (by simp)
    rw [hd]
    cases start with
    | none => simp [swEnd, wordsGo]
    | some b => simp [swEnd, wordsGo, Builtin.Str.strSub, Str.length, hc]
  | m + 1, cur, words, start, hm, hw, hs => by
    have hlt : cur < x.cps.size := by simp only [Str.length] at hm; omega
    rw [List.range'_succ, List.forIn_cons]
    have hd : x.cps.toList.drop cur = x.cps.getD cur 0 :: x.cps.toList.drop (cur + 1) := by
      rw [List.drop_eq_getElem_cons (by simpa using hlt)]
      simp [Array.getD, hlt]
    rw [hd]
    have hsz : ¬ ((words.size == x.length + 1) = true) := by rw [beq_iff_eq]; omega
    unfold swBody
    simp only [hsz, if_false]
    cases start with
    | none =>
      cases hsp : Unicode.isSpace (x.cps.getD cur 0)
      · have ih := sw_words x m (cur + 1) words (some cur) (by omega) (by omega) (by intro b e; cases e; omega)
        refine ih.trans ?_
        simp only [Option.map, wordsGo, hsp, Bool.false_eq_true, if_false]
        rw [extract_succ (Nat.le_refl _) hlt]
        simp
      · have ih := sw_words x m (cur + 1) words none (by omega) (by omega) (by intro b e; cases e)
        refine ih.trans ?_
        simp only [Option.map, wordsGo, hsp, if_true]
    | some b =>
      have hb := hs b rfl
      cases hsp : Unicode.isSpace (x.cps.getD cur 0)
      · have ih := sw_words x m (cur + 1) words (some b) (by omega) (by omega) (by intro b' e; cases e; omega)
        refine ih.trans ?_
        simp only [Option.map, wordsGo, hsp, Bool.false_eq_true, if_false]
        rw [extract_succ hb hlt]
      · have ih := sw_words x m (cur + 1) (words.push (b, cur)) none (by omega) (by rw [Array.size_push]; omega) (by intro b e; cases e)
        refine ih.trans ?_
        simp only [Option.map, wordsGo, hsp, if_true]
        simp [Builtin.Str.strSub]
theorem words_list (x : Str) : (Txt.words x).map (fun y => y.cps.toList) = wordsGo none x.cps.toList := by
  have key := sw_words x x.length 0 #[] none (by omega) (by simp) (by intro b e; cases e)
  rw [← StrLaws.sw_eq] at key
  simp only [List.map_nil, List.nil_append, Option.map, List.drop_zero] at key
  unfold Txt.words
  split
  · rename_i h
    rw [beq_iff_eq.mp h] at key
    rw [← key]
    simp only [Builtin.Str.strSub, Str.length, List.map_cons, List.map_nil, Array.toList_extract, List.extract_eq_take_drop, List.drop_zero, Nat.sub_zero]
    rw [List.take_of_length_le (by simp)]
  · rw [← key]
    unfold PySem.wordsOf
    rw [List.map_map]
    rfl
theorem words_eq (l : List Nat) : Txt.words ⟨l.toArray⟩ = (wordsGo none l).map fun c => ⟨c.toArray⟩ := by
  have h := words_list ⟨l.toArray⟩
  have : (Txt.words ⟨l.toArray⟩) = ((Txt.words ⟨l.toArray⟩).map (fun y => y.cps.toList)).map fun c => ⟨c.toArray⟩ := by
    rw [List.map_map]
    conv => lhs; rw [← List.map_id (Txt.words ⟨l.toArray⟩)]
    exact List.map_congr_left fun y _ => by cases y; rfl
  rw [this, h]
theorem ofLit (l : List Char) : Str.ofString (String.ofList l) = ⟨(l.map Char.toNat).toArray⟩ := by
  rw [Str.ofString_eq_toList, String.toList_ofList]
theorem lit20 : ∃ l : List Char, strAt 20 = Str.ofString (String.ofList l) ∧ l.length ≤ 2000 := ⟨_, rfl, Nat.le_of_ble_eq_true (by decide +kernel)⟩
theorem lit21 : ∃ l : List Char, strAt 21 = Str.ofString (String.ofList l) ∧ l.length ≤ 2000 := ⟨_, rfl, Nat.le_of_ble_eq_true (by decide +kernel)⟩
theorem lit22 : ∃ l : List Char, strAt 22 = Str.ofString (String.ofList l) ∧ l.length ≤ 2000 := ⟨_, rfl, Nat.le_of_ble_eq_true (by decide +kernel)⟩
theorem lit23 : ∃ l : List Char, strAt 23 = Str.ofString (String.ofList l) ∧ l.length ≤ 2000 := ⟨_, rfl, Nat.le_of_ble_eq_true (by decide +kernel)⟩
theorem lit24 : ∃ l : List Char, strAt 24 = Str.ofString (String.ofList l) ∧ l.length ≤ 2000 := ⟨_, rfl, Nat.le_of_ble_eq_true (by decide +kernel)⟩
theorem lit25 : ∃ l : List Char, strAt 25 = Str.ofString (String.ofList l) ∧ l.length ≤ 2000 := ⟨_, rfl, Nat.le_of_ble_eq_true (by decide +kernel)⟩
theorem lit26 : ∃ l : List Char, strAt 26 = Str.ofString (String.ofList l) ∧ l.length ≤ 2000 := ⟨_, rfl, Nat.le_of_ble_eq_true (by decide +kernel)⟩
theorem lit_len {x : Str} (h : ∃ l : List Char, x = Str.ofString (String.ofList l) ∧ l.length ≤ 2000) : x.length ≤ 2000 := by
  obtain ⟨l, rfl, h⟩ := h
  rw [ofLit]
  simpa [Str.length] using h
noncomputable def partH (h : Heap) (v : Value) : Part → Prop
  | .code i => ∃ t, v = .int i t
  | .name x => ∃ a t, v = .ref a ∧ InstH h a 197 [(Str.ofString "text", .str x t)]
noncomputable def shapeV (v : Value) : Part → Prop
  | .code i => ∃ t, v = .int i t
  | .name x => ∃ t, v = .str x t
inductive All2 (P : Value → Part → Prop) : List Value → List Part → Prop
  | nil : All2 P [] []
  | cons {v : Value} {p : Part} {vs : List Value} {ps : List Part} : P v p → All2 P vs ps → All2 P (v :: vs) (p :: ps)
theorem All2.length {P : Value → Part → Prop} {vs : List Value} {ps : List Part} (h : All2 P vs ps) : vs.length = ps.length := by
  induction h with
  | nil => rfl
  | cons _ _ ih => simp [ih]
theorem All2.snoc {P : Value → Part → Prop} {vs : List Value} {ps : List Part} (h : All2 P vs ps) {v : Value} {p : Part} (a : P v p) : All2 P (vs ++ [v]) (ps ++ [p]) := by
  induction h with
  | nil => exact .cons a .nil
  | cons b _ ih => exact .cons b ih
theorem All2.get {P : Value → Part → Prop} {vs : List Value} {ps : List Part} (h : All2 P vs ps) : ∀ {i : Nat} {v : Value}, vs[i]? = some v → ∃ p, ps[i]? = some p ∧ P v p := by
  induction h with
  | nil => intro i v e; simp at e
  | cons a h ih =>
    intro i v e
    cases i with
    | zero => simp at e; subst e; exact ⟨_, by simp, a⟩
    | succ i => simp at e; simpa using ih e
noncomputable def chrs (a m : Nat) : List Str := (List.range m).map fun j => ⟨#[a + j]⟩
theorem Strs.snoc {vs : List Value} {xs : List Str} (h : Strs vs xs) {x : Str} {t : Tok} : Strs (vs ++ [.str x t]) (xs ++ [x]) := h.append (.cons .nil)
theorem chrs_succ (a m : Nat) : chrs a (m + 1) = chrs a m ++ [⟨#[a + m]⟩] := by unfold chrs; rw [List.range_succ, List.map_append]; rfl
theorem chrs_len (a m : Nat) : (chrs a m).length = m := by simp [chrs]
theorem words_short (x : Str) (h : x.length ≤ 3000) : (Txt.words x).length ≤ 3000 := by have := fact_words x; omega
theorem sz_split {x : Str} (h : x.length ≤ 2000) : x.length + 2 ≤ sizeLine := by show _ ≤ 16777216; omega
theorem sl20 : (strAt 20).length ≤ 2000 := lit_len lit20
theorem ws20 : (Txt.words (strAt 20)).length ≤ 3000 := words_short _ (Nat.le_trans sl20 (by decide))
theorem sl21 : (strAt 21).length ≤ 2000 := lit_len lit21
theorem ws21 : (Txt.words (strAt 21)).length ≤ 3000 := words_short _ (Nat.le_trans sl21 (by decide))
theorem sl22 : (strAt 22).length ≤ 2000 := lit_len lit22
theorem ws22 : (Txt.words (strAt 22)).length ≤ 3000 := words_short _ (Nat.le_trans sl22 (by decide))
theorem sl23 : (strAt 23).length ≤ 2000 := lit_len lit23
theorem sl24 : (strAt 24).length ≤ 2000 := lit_len lit24
theorem sl25 : (strAt 25).length ≤ 2000 := lit_len lit25
theorem sl26 : (strAt 26).length ≤ 2000 := lit_len lit26
noncomputable def asciiL : List Str := Txt.words (strAt 20) ++ chrs 65 26 ++ Txt.words (strAt 21) ++ chrs 97 26 ++ Txt.words (strAt 22)
noncomputable def latinW : List Str := Txt.words (strAt 23)
noncomputable def latinL : List Str := latinW ++ (((latinW.drop 31).take 31).map Txt.lower).set 23 (Str.ofString "divide") ++ [Str.ofString "ydieresis"]
noncomputable def latinOk : Prop := latinW.length = 63 ∧ ∀ x ∈ latinW, x.length ≤ 1000
theorem Strs.map_snoc {ys : List Value} {xs : List Str} {i : Nat} {f : Str → Str} {x : Str} {t : Tok} (h : Strs ys ((xs.take i).map f)) (e : xs[i]? = some x) : Strs (ys ++ [.str (f x) t]) ((xs.take (i + 1)).map f) := by
  rw [List.take_succ, e]
  simp only [Option.toList_some, List.map_append, List.map_cons, List.map_nil]
  exact h.snoc
theorem Strs.back {vs : List Value} {xs : List Str} (h : Strs vs xs) : ∀ {i : Nat} {v : Value}, vs[i]? = some v → ∃ x t, xs[i]? = some x ∧ v = .str x t := by
  induction h with
  | nil => intro i v e; simp at e
  | @cons y t vs xs h ih =>
    intro i v e
    cases i with
    | zero => simp at e; subst e; exact ⟨y, t, by simp, rfl⟩
    | succ i => simp at e; simpa using ih e
noncomputable def figs : Str := Str.ofString "0123456789"
noncomputable def figB (w : Str) : Bool := Txt.contains figs (Txt.item w 0)
noncomputable def numOf (w : Str) : Nat := ((PySem.intText? w).getD 0).toNat
noncomputable def wwStep (st : List Str × Nat) (w : Str) : List Str × Nat := if figB w = true then (st.1, numOf w) else (st.1.set st.2 w, st.2 + 1)
noncomputable def wwOk1 (n c : Nat) (w : Str) : Bool := Nat.ble 1 w.length && Nat.ble w.length 600 && (if figB w = true then PySem.intText? w == some (numOf w : Int) else Nat.blt c n)
noncomputable def wwOk (n : Nat) : Nat → List Str → Bool
  | _, [] => true
  | c, w :: r => wwOk1 n c w && wwOk n (if figB w = true then numOf w else c + 1) r
noncomputable def wwTo (xs : List Str) (ws : List Str) (i : Nat) : List Str × Nat := (ws.take i).foldl wwStep (xs, 0)
noncomputable def withWords (xs ws : List Str) : List Str := (ws.foldl wwStep (xs, 0)).1
theorem wwTo_succ {xs ws : List Str} {i : Nat} {w : Str} (h : ws[i]? = some w) : wwTo xs ws (i + 1) = wwStep (wwTo xs ws i) w := by
  unfold wwTo; rw [List.take_succ, h, List.foldl_append]; rfl
theorem wwTo_len (xs ws : List Str) : ∀ i, (wwTo xs ws i).1.length = xs.length := by
  have : ∀ (l : List Str) (st : List Str × Nat), (l.foldl wwStep st).1.length = st.1.length := by
    intro l
    induction l with
    | nil => intro st; rfl
    | cons w r ih =>
      intro st
      rw [List.foldl_cons, ih]
      unfold wwStep
      split
      · rfl
      · simp
  exact fun i => this _ _
theorem wwOk_at {n : Nat} : ∀ {ws : List Str} {st : List Str × Nat}, wwOk n st.2 ws = true → ∀ {i : Nat} {w : Str}, ws[i]? = some w → wwOk1 n ((ws.take i).foldl wwStep st).2 w = true
  | [], st, h, i, w, e => by simp at e
  | v :: r, st, h, i, w, e => by
    unfold wwOk at h
    rw [Bool.and_eq_true] at h
    cases i with
    | zero => simp at e; subst e; exact h.1
    | succ i =>
      simp only [List.take_succ_cons, List.foldl_cons]
      refine wwOk_at (ws := r) (st := wwStep st v) ?_ (by simpa using e)
      have : (wwStep st v).2 = if figB v = true then numOf v else st.2 + 1 := by unfold wwStep; split <;> rfl
      rw [this]; exact h.2
theorem St.unname {k : Shared} {g : Heap} {n n' : Led} {s : Shared} {a : Addr} {x : Str} {v : Value} {l : List (Str × Value)} (S : St k g n s) (u : Upd a (.ns l) (.ns ((x, v) :: l)) n n') : St k g n' s :=
  St.forget S u (fun p h => List.mem_cons_of_mem _ h) (fun nd => (List.nodup_cons.mp nd).2)
theorem k_fn0 {w : World} {A : Around} {E : Value → Shared → Prop} {s : Shared} {env : Env} {pos : Pos} {a : Addr} {Q : Value → Shared → Prop} (hf : ∃ fd, (topK w.params).lookup a = some ⟨.type "function", none, .func fd, #[]⟩) (W : Wld w s.heap)
    (h : codeAny (Mo w) A (.call (.ref a) ⟨[], []⟩) (Ret E Q) s) : wpAny (Mo w) A (callWith pos (.ref a) [] (backTo pos (starEach [] env)) []) Q E s := by
  obtain ⟨fd, hf⟩ := hf
  exact callWith_function (o := ⟨.type "function", none, .func fd, #[]⟩) (fd := fd) (evalArgs_nil3 ⟨⟨W.top _ _ hf, rfl⟩, wpAny_call h⟩)
noncomputable def names0 : List Str := List.replicate 32 (Str.ofString "") ++ asciiL ++ List.replicate 129 (Str.ofString "")
noncomputable def stdL : List Str := withWords names0 (Txt.words (strAt 24))
noncomputable def macL : List Str := withWords names0 (Txt.words (strAt 26))
noncomputable def winN : List Str := withWords (names0.take 161) (Txt.words (strAt 25)) ++ latinL
noncomputable def bulletOf (x : Str) : Str := if x = Str.ofString "" then Str.ofString "bullet" else x
noncomputable def winL : List Str := winN.take 33 ++ (winN.drop 33).map bulletOf
noncomputable def baseOf (x : Str) : Option (List Str) :=
  if x = Str.ofString "StandardEncoding" then some stdL else if x = Str.ofString "MacRomanEncoding" then some macL else if x = Str.ofString "WinAnsiEncoding" then some winL else none
structure BaseOk : Prop where
  ascii : asciiL.length = 95
  latin : latinOk
  w24 : wwOk 256 0 (Txt.words (strAt 24)) = true
  w25 : wwOk 161 0 (Txt.words (strAt 25)) = true
  w26 : wwOk 256 0 (Txt.words (strAt 26)) = true
theorem Strs.rep (x : Str) (t : Tok) : ∀ m, Strs (List.replicate m [Value.str x t]).flatten (List.replicate m x)
  | 0 => .nil
  | m + 1 => by rw [List.replicate_succ, List.flatten_cons, List.replicate_succ]; exact .cons (Strs.rep x t m)
theorem rep_len (v : Value) (m : Nat) : (List.replicate m [v]).flatten.length = m := by simp
theorem St.someL {k : Shared} {g : Heap} {n : Led} {s : Shared} {a : Addr} {vs : List Value} {xs : List Str} (S : St k g ((a, .lst vs) :: n) s) (h : Strs vs xs) : ∃ vs', St k g ((a, .lst vs') :: n) s ∧ Strs vs' xs := ⟨vs, S, h⟩
theorem St.more {k : Shared} {g : Heap} {n X : Led} {s s' : Shared} (S : St k g n s) (T : St s s.heap X s') : St k g (X ++ n) s' := by
  refine ⟨fun b o e => T.keep _ _ (S.keep b o e), fun p hp => ?_, ?_, T.os.trans S.os, T.gens.trans S.gens⟩
  · rcases List.mem_append.mp hp with hp | hp
    · exact ⟨(T.led p hp).1, S.outside (T.led p hp).2⟩
    · obtain ⟨⟨o, e, i⟩, z⟩ := S.led p hp
      exact ⟨⟨o, T.keep _ _ e, i⟩, z⟩
  · rw [List.map_append, List.nodup_append]
    refine ⟨T.nd, S.nd, ?_⟩
    rintro a ha b hb rfl
    obtain ⟨p, hp, rfl⟩ := List.mem_map.mp ha
    obtain ⟨q, hq, e⟩ := List.mem_map.mp hb
    obtain ⟨⟨o, h, _⟩, _⟩ := S.led q hq
    have := (T.led p hp).2
    rw [← e, h] at this; cases this
theorem flewN_of {k : Shared} {g : Heap} {n : Led} {s : Shared} {L e : Addr} {fs : List Addr} (S : St k g ((e, excO none) :: n) s) (H : Hold k.heap L fs n) : FlewN k g L fs (.ref e) s := ⟨n, H, .inl ⟨e, rfl, S⟩⟩
theorem BaseOk.n0 (B : BaseOk) : names0.length = 256 := by unfold names0; simp [B.ascii]
@[reducible] noncomputable def fsOf (ok : Bool) (L : Addr) (fs : List Addr) : List Addr := if ok = true then [] else L :: fs
section
variable {A : Around} {s k : Shared} {g : Heap} {n : Led} {L : Addr} {fs : List Addr} {h : Heap}
theorem Hold.all (H : Hold h L fs n) : ∀ a ∈ L :: fs, ∃ d, (a, d) ∈ n ∧ d.slotFree := fun a ha => by
  rcases List.mem_cons.mp ha with rfl | ha
  · exact H.1
  · exact ⟨_, H.2 a ha, slotFree_frD _ _⟩
theorem Mode.call (ok : Bool) (S : St k g n s) (H : Hold h L fs n) (nd : (L :: fs).Nodup) (fr : ok = false → FrA A (L :: fs)) : Mode A s.heap (fsOf ok L fs) ok := by
  cases ok with
  | true => exact .inl ⟨rfl, rfl⟩
  | false => exact .inr ⟨rfl, fr rfl, nd, fun a ha => let ⟨d, hd, _⟩ := H.all a ha; let ⟨o, ho, _⟩ := S.get hd; ⟨o, ho⟩⟩
theorem St.hideF (ok : Bool) (S : St k g n s) (H : Hold h L fs n) : ∀ b o, g.get? b = some o → (hideAll s.heap (fsOf ok L fs)).get? b = some o := fun b o e => by
  cases ok with
  | true => exact S.keep _ _ e
  | false =>
    refine hideAll_get _ (S.keep _ _ e) fun hm => ?_
    obtain ⟨d, hd, _⟩ := H.all b hm
    rw [(S.led _ hd).2] at e; cases e
theorem St.flewN {e : Value} {s' : Shared} (S : St k g n s) (H : Hold k.heap L fs n) (x : Raised (L :: fs) s s' e) : FlewN k g L fs e s' := ⟨n, H, (S.raised x H.all).flew⟩
end
theorem closure_of {scope : Scope} {env : Env} {sc : Scope} {L : Addr} {cl cl' : List (Str × Addr)} (fe : Fe env sc L cl) (h : ∀ env : Env, env.cells = cl → closureFor scope env = pure cl') : closureFor scope env = pure cl' := h env fe.cells
section
variable {w : World} {A : Around} {E : Value → Shared → Prop} {k : Shared} {g : Heap} {d : Nat} {s : Shared} {n n' n'' : Led}
theorem potD_mono {C : Addr} {m m' : Nat} (h : m ≤ m') {o : Obj} (x : potD C m o) : potD C m' o := by
  obtain ⟨st, pl, t1, t2, a, b, c, d, e⟩ := x
  exact ⟨st, pl, t1, t2, a, b, c, by omega, e⟩
theorem St.pot {P C : Addr} {m : Nat} (m' : Nat) (S : St k g n s) (u : Upd P (.prop (potD C m')) (.prop (potD C m)) n n') (h : m ≤ m') : St k g n' s :=
  let ⟨o, ho, hi⟩ := S.get u.mem
  S.recast u ⟨o, ho, potD_mono h hi⟩
end
noncomputable def pvH (h : Heap) (v : Value) : Option Part → Prop
  | some p => partH h v p
  | none => ∃ ty, HasTy h v ty ∧ ty.ok = true ∧ ty ≠ .str ∧ ty ≠ .int ∧ ty ≠ .inst 197
theorem pvH.keeps {h h' : Heap} {v : Value} {p : Option Part} (x : pvH h v p) (k : ∀ b o, h.get? b = some o → h'.get? b = some o) : pvH h' v p := by
  cases p with
  | none => obtain ⟨ty, a, b⟩ := x; exact ⟨ty, a.keeps k, b⟩
  | some p =>
    cases p with
    | code i => exact x
    | name y => obtain ⟨a, t, e, I⟩ := x; exact ⟨a, t, e, I.keeps k⟩
inductive All3 (P : Value → Option Part → Prop) : List Value → List (Option Part) → Prop
  | nil : All3 P [] []
  | cons {v : Value} {p : Option Part} {vs : List Value} {ps : List (Option Part)} : P v p → All3 P vs ps → All3 P (v :: vs) (p :: ps)
theorem All3.length {P : Value → Option Part → Prop} {vs : List Value} {ps : List (Option Part)} (h : All3 P vs ps) : vs.length = ps.length := by
  induction h with
  | nil => rfl
  | cons _ _ ih => simp [ih]
theorem All3.get {P : Value → Option Part → Prop} {vs : List Value} {ps : List (Option Part)} (h : All3 P vs ps) : ∀ {i : Nat} {v : Value}, vs[i]? = some v → ∃ p, ps[i]? = some p ∧ P v p := by
  induction h with
  | nil => intro i v e; simp at e
  | cons a h ih =>
    intro i v e
    cases i with
    | zero => simp at e; subst e; exact ⟨_, by simp, a⟩
    | succ i => simp at e; simpa using ih e
theorem All3.mono {P Q : Value → Option Part → Prop} {vs : List Value} {ps : List (Option Part)} (h : All3 P vs ps) (k : ∀ v p, P v p → Q v p) : All3 Q vs ps := by
  induction h with
  | nil => exact .nil
  | cons a _ ih => exact .cons (k _ _ a) ih
theorem All3.snoc {P : Value → Option Part → Prop} {vs : List Value} {ps : List (Option Part)} (h : All3 P vs ps) {v : Value} {p : Option Part} (a : P v p) : All3 P (vs ++ [v]) (ps ++ [p]) := by
  induction h with
  | nil => exact .cons a .nil
  | cons b _ ih => exact .cons b ih
noncomputable def glyphOf (x : Str) : Str := if x = Str.ofString ".notdef" then Str.ofString "" else x
noncomputable def wdStep (st : List Str × Int) : Option Part → Option (List Str × Int)
  | some (.code i) => if 0 ≤ i ∧ i ≤ 255 then some (st.1, i) else none
  | some (.name x) => if 0 ≤ st.2 ∧ st.2 ≤ 255 then some (st.1.set st.2.toNat (glyphOf x), st.2 + 1) else none
  | none => none
noncomputable def wdTo (xs : List Str) (ps : List (Option Part)) (i : Nat) : Option (List Str × Int) := (ps.take i).foldlM wdStep (xs, -1)
noncomputable def withDiff (xs : List Str) (ps : List (Option Part)) : Option (List Str) := (ps.foldlM wdStep (xs, -1)).map (·.1)
theorem wdTo_succ {xs : List Str} {ps : List (Option Part)} {i : Nat} {p : Option Part} (h : ps[i]? = some p) {st : List Str × Int} (e : wdTo xs ps i = some st) : wdTo xs ps (i + 1) = wdStep st p := by
  unfold wdTo at e ⊢
  rw [List.take_succ, h, List.foldlM_append, e]
  simp only [Option.bind_eq_bind, Option.bind_some, Option.toList_some, List.foldlM_cons, List.foldlM_nil]
  cases wdStep st p <;> rfl
theorem withDiff_none {xs : List Str} {ps : List (Option Part)} {i : Nat} (e : wdTo xs ps i = none) : withDiff xs ps = none := by
  unfold withDiff wdTo at *
  rw [← List.take_append_drop i ps, List.foldlM_append, e]
  rfl
theorem withDiff_all {xs : List Str} {ps : List (Option Part)} {st : List Str × Int} (e : wdTo xs ps ps.length = some st) : withDiff xs ps = some st.1 := by
  unfold withDiff wdTo at *
  rw [List.take_length] at e
  rw [e]; rfl
theorem kw_bad {ty : Ty} (h : ty.ok = true) (h1 : ty ≠ .int) (h2 : ty ≠ .inst 197) : (kindWord ty == Str.ofString "int") = false ∧ (kindWord ty == Str.ofString "name") = false := by
  cases ty with
  | int => exact absurd rfl h1
  | inst C =>
    have hC : C ∈ instC := of_decide_eq_true h
    simp only [instC, List.mem_cons, List.not_mem_nil, or_false] at hC
    rcases hC with rfl | rfl | rfl
    · exact absurd rfl h2
    · exact ⟨by decide +kernel, by decide +kernel⟩
    · exact ⟨by decide +kernel, by decide +kernel⟩
  | none => exact ⟨by decide +kernel, by decide +kernel⟩
  | bool => exact ⟨by decide +kernel, by decide +kernel⟩
  | str => exact ⟨by decide +kernel, by decide +kernel⟩
  | list => exact ⟨by decide +kernel, by decide +kernel⟩
  | dict => exact ⟨by decide +kernel, by decide +kernel⟩
@[reducible] noncomputable def wdLed (s : Shared) (L P a pl : Addr) (fs : List Addr) (vs : List Value) (c : Int) (tc : Tok) : Led := (P, .lst vs) :: (L, .ns [(Str.ofString "code", .int c tc), (Str.ofString "laid", .ref P), (Str.ofString "names", .ref a), (Str.ofString "parts", .ref pl)]) :: frL s.heap fs
noncomputable def Holds (X : Led) (h : Heap) : Prop := ∀ p ∈ X, ∃ o, h.get? p.1 = some o ∧ p.2.is o
theorem Holds.list {X : Led} {h : Heap} (H : Holds X h) {a : Addr} {vs : List Value} (m : (a, .lst vs) ∈ X) : h.IsList a vs.toArray := by
  obtain ⟨o, ho, c, rfl⟩ := H _ m
  exact ⟨_, ho, rfl, c, rfl⟩
theorem Holds.tup {X : Led} {h : Heap} (H : Holds X h) {a : Addr} {vs : List Value} (m : (a, .obj (tupO vs)) ∈ X) : h.IsTuple a vs.toArray := by
  obtain ⟨o, ho, i⟩ := H _ m
  cases i
  exact ⟨_, ho, rfl, 0, rfl⟩
theorem Holds.inst {X : Led} {h : Heap} (H : Holds X h) {x dx C : Addr} {l : List (Str × Value)} (m1 : (x, .obj (instObj C dx)) ∈ X) (m2 : (dx, .prop (dicD l)) ∈ X) : InstH h x C l := by
  obtain ⟨o, ho, i⟩ := H _ m1
  cases i
  obtain ⟨o, ho', i'⟩ := H _ m2
  exact ⟨dx, o, ho, ho', i'⟩
theorem Holds.dic {w : World} {K : Type} [DecidableEq K] {knd : KeyKind prg w K} {X : Led} {h : Heap} (H : Holds X h) {a : Addr} {kvs : List (K × Value)} (lo : (a == sysModules) = false) (m : (a, dcD knd kvs) ∈ X) : DicH knd h a kvs :=
  ⟨lo, Heap.dictOf_iff.mpr (H _ m)⟩
theorem Holds.parts {X : Led} {h : Heap} (H : Holds X h) {n : Led} (hn : ∀ p ∈ n, p ∈ X) {vs : List Value} {ps : List Part} (m : PartsIn n vs ps) : All2 (partH h) vs ps := by
  induction m with
  | nil => exact .nil
  | cons a _ ih =>
    refine .cons ?_ ih
    rename_i v p _ _ _
    cases p with
    | code i => exact a
    | name x => obtain ⟨b, dx, t, e, m1, m2⟩ := a; exact ⟨b, t, e, H.inst (hn _ m1) (hn _ m2)⟩
theorem Holds.mono {X Y : Led} {h : Heap} (H : Holds X h) (k : ∀ p ∈ Y, p ∈ X) : Holds Y h := fun p hp => H p (k p hp)
theorem St.subl {k : Shared} {g : Heap} {n n' : Led} {s : Shared} (S : St k g n s) (h : n'.Sublist n) : St k g n' s := S.sub (fun p hp => h.subset hp) (S.nd.sublist (h.map _))
section
variable {s k : Shared} {g : Heap} {n : Led}
theorem St.freezeAll {X : Led} (S : St k g (X ++ n) s) : ∃ g', (∀ b o, g.get? b = some o → g'.get? b = some o) ∧ St k g' n s ∧ Holds X g' := by
  have nd := S.nd
  rw [List.map_append, List.nodup_append] at nd
  obtain ⟨g', h1, S', h2⟩ := S.grow (n' := n) (fun p hp => List.mem_append_right _ hp) nd.2.1
  refine ⟨g', h1, S', fun p hp => ?_⟩
  obtain ⟨o, ho, hi⟩ := (S.led p (List.mem_append_left _ hp)).1
  exact ⟨o, h2 _ _ ho (fun hm => nd.2.2 _ (List.mem_map_of_mem hp) _ hm rfl), hi⟩
end
section
variable {w : World} {A : Around} {E : Value → Shared → Prop} {k : Shared} {g : Heap} {env : Env} {sc : Scope} {L : Addr} {cl : List (Str × Addr)} {d : Nat} {s : Shared} {n n' n'' : Led}
theorem comp_loopF {R : Result → Shared → Prop} {I C acc : Addr} {N : Nat} {P : Nat → Value → Prop} {D : Nat → Obj → Prop} {x : Str} {px : Pos} {elt iter tst : Expr} {scope : Scope} {pos : Pos} {cenv : Env} (it : It w A g I N P D) (hz : N ≤ sizeLine)
    (J : Nat → List Value → Led → Prop) (fe : Fe cenv sc C cl) (hx : kindIs sc x .local = true) {n : Led} (h0 : J 0 [] n) (S : St k g ((C, .ns []) :: (acc, .lst []) :: (I, .prop (D 0)) :: n) s)
    (hJ : ∀ i ys n, J i ys n → ys.length ≤ i)
    (turn : ∀ i v ys n₁ s₁ E', i < N → P i v → J i ys n₁ → St k g ((C, .ns [(x, v)]) :: (acc, .lst ys) :: (I, .prop (D (i + 1))) :: n₁) s₁ →
      wpAny (Mo w) A (isTrue tst cenv (eval tst cenv)) (fun b s₂ => if b = true then wpAny (Mo w) A (eval elt cenv) (fun y s₃ => ∃ n₂, J (i + 1) (ys ++ [y]) n₂ ∧ St k g ((C, .ns [(x, v)]) :: (acc, .lst ys) :: (I, .prop (D (i + 1))) :: n₂) s₃) E' s₂ else ∃ n₂, J (i + 1) ys n₂ ∧ St k g ((C, .ns [(x, v)]) :: (acc, .lst ys) :: (I, .prop (D (i + 1))) :: n₂) s₂) E' s₁)
    (done : ∀ ys n₁ s₁, J N ys n₁ → St k g ((C, .ns []) :: (acc, .lst ys) :: n₁) s₁ → R (.ok .next) s₁)
    (ht : ∀ v, letOwnedTupleGo (.Name x px) (.ref I) v = pure ()) :
    codeAny (Mo w) A (.compLoop (.ListComp elt [⟨.Name x px, iter, [tst], 0⟩] scope pos) 0 (.ref I) (.ref acc) cenv) R s := by
  refine codeAny_compLoop_tests (fun m s₁ => ∃ i ys n₁, m = N - i ∧ i ≤ N ∧ J i ys n₁ ∧ St k g ((C, .ns []) :: (acc, .lst ys) :: (I, .prop (D i)) :: n₁) s₁) ?_ N ⟨0, [], n, by omega, by omega, h0, S⟩ ht
  rintro m s₁ ⟨i, ys, n₁, rfl, hi, hJ1, S₁⟩
  by_cases hlt : i < N
  · refine it.next i s₁ _ _ hlt S₁.keep (S₁.get (.tail _ (.tail _ (.head _)))) fun v h' tk hP hD hk => ?_
    have S₂ : St k g ((C, .ns []) :: (acc, .lst ys) :: (I, .prop (D (i + 1))) :: n₁) { s₁ with heap := h', toks := tk } := S₁.upd (Upd.tail (Upd.tail Upd.head)) hk hD
    refine wpAny_assign_Name (s_new S₂ fe hx Upd.head rfl fun s₃ S₃ => ?_)
    refine wpAny_tests_one (wpAny_mono (turn i v ys n₁ _ _ hlt hP hJ1 S₃) (fun b s₄ h4 => ?_) fun _ _ x => x)
    have fin : ∀ ys' n₂ s₅, J (i + 1) ys' n₂ → St k g ((C, .ns [(x, v)]) :: (acc, .lst ys') :: (I, .prop (D (i + 1))) :: n₂) s₅ → ∃ m, m < N - i ∧ ∃ i ys n₁, m = N - i ∧ i ≤ N ∧ J i ys n₁ ∧ St k g ((C, .ns []) :: (acc, .lst ys) :: (I, .prop (D i)) :: n₁) s₅ := fun ys' n₂ s₅ hJ2 S₅ => by
      refine ⟨N - (i + 1), by omega, i + 1, ys', n₂, rfl, hlt, hJ2, ?_⟩
      obtain ⟨o, ho, nd', es, ep, i1, i2, i3⟩ := S₅.get (.head _)
      exact S₅.recast (d' := .ns []) Upd.head ⟨o, ho, .nil, es, ep, i1, i2, fun p hp => nomatch hp⟩
    cases b with
    | true =>
      rw [if_pos rfl] at h4 ⊢
      refine wpAny_mono h4 (fun y s₅ ⟨n₂, hJ2, S₄⟩ => ?_) fun _ _ x => x
      refine l_append S₄ (Upd.tail Upd.head) (by have := hJ _ _ _ hJ1; omega) fun s₅ S₅ => fin _ _ _ hJ2 S₅
    | false =>
      rw [if_neg (by decide)] at h4 ⊢
      obtain ⟨n₂, hJ2, S₄⟩ := h4
      exact fin _ _ _ hJ2 S₄
  · have : i = N := by omega
    subst this
    refine it.stop s₁ _ _ S₁.keep (S₁.get (.tail _ (.tail _ (.head _)))) fun h' tk hk => ?_
    exact done ys n₁ _ hJ1 (S₁.third hk rfl rfl)
theorem swaps_compF {elt iter tst : Expr} {x y : Str} {px py pos : Pos} {scope : Scope} {line : Nat} (fe : Fe env sc L cl) (h : (sc.kind == .function && sc.names.lookup y == some .local && py.line == pos.line && !(scope.names.any fun (n, k) => n == y && (k == .local || k == .cell))) = true) :
    swapsWith (.ListComp elt [⟨.Name x px, iter, [tst], 0⟩] scope pos) (some (.Name y py)) line env = pure true := by
  have e1 := fe.scope
  subst e1
  show pure (env.blockKind == .function && env.kindOf y == some .local && py.line == pos.line && !(scope.names.any fun (n, k) => n == y && (k == .local || k == .cell))) = pure true
  have hk := fe.kind
  have : env.blockKind = .function := by unfold Env.blockKind; rw [hk]; rfl
  rw [this, show env.kindOf y = env.scope.names.lookup y from rfl]
  simp only [Bool.and_eq_true] at h
  obtain ⟨⟨⟨_, h2⟩, h3⟩, h4⟩ := h
  rw [h2, h3, h4]; rfl
theorem x_compF {elt iter tst : Expr} {x y : Str} {px py pos spos : Pos} {scope : Scope} {cl' : List (Str × Addr)} {Q : Flow → Shared → Prop} (fe : Fe env sc L cl)
    (hsw : swapsWith (.ListComp elt [⟨.Name x px, iter, [tst], 0⟩] scope pos) (some (.Name y py)) spos.line env = pure true) (hclos : closureFor scope env = pure cl') (hcell : (scope.names.all fun y => y.2 != .cell) = true) (hkind : scope.kind = .function)
    (hnames : (scope.names.all fun y => y.2 != .local || scope.names.lookup y.1 == some .local) = true) (hx : kindIs (rl scope sc) x .local = true)
    (h : wpAny (Mo w) A (eval iter env) (fun xv s₁ => wpAny (Mo w) A (pyIter xv) (fun iv s₂ => ∃ (g : Heap) (I : Addr) (N : Nat) (P : Nat → Value → Prop) (D : Nat → Obj → Prop) (n : Led) (J : Nat → List Value → Led → Prop), iv = .ref I ∧ It w A g I N P D ∧ N ≤ sizeLine ∧ St k g ((I, .prop (D 0)) :: n) s₂ ∧ J 0 [] n ∧ (∀ i ys n, J i ys n → ys.length ≤ i) ∧
      (∀ (s : Shared) (Q : Value → Shared → Prop) (E : Value → Shared → Prop), (∃ o, s.heap.get? I = some o ∧ D 0 o) → Q (.ref I) s → wpAny (Mo w) A (pyIter (.ref I)) Q E s) ∧
      (∀ C acc cenv i v ys n₁ s₁ E', i < N → P i v → J i ys n₁ → Fe cenv (rl scope sc) C cl' → St k g ((C, .ns [(x, v)]) :: (acc, .lst ys) :: (I, .prop (D (i + 1))) :: n₁) s₁ →
        wpAny (Mo w) A (isTrue tst cenv (eval tst cenv)) (fun b s₂ => if b = true then wpAny (Mo w) A (eval elt cenv) (fun y s₃ => ∃ n₂, J (i + 1) (ys ++ [y]) n₂ ∧ St k g ((C, .ns [(x, v)]) :: (acc, .lst ys) :: (I, .prop (D (i + 1))) :: n₂) s₃) E' s₂ else ∃ n₂, J (i + 1) ys n₂ ∧ St k g ((C, .ns [(x, v)]) :: (acc, .lst ys) :: (I, .prop (D (i + 1))) :: n₂) s₂) E' s₁) ∧
      (∀ C acc ys n₁ s₁, J N ys n₁ → St k g ((C, .ns []) :: (acc, .lst ys) :: n₁) s₁ → wpAny (Mo w) A (storeName env y (.ref acc)) (fun _ s₂ => ∃ n₂, St k g ((C, .ns []) :: n₂) s₂ ∧ ∀ s₃, St k g n₂ s₃ → Ap Q .next s₃) E s₁)) E s₁) E s)
    (hs : ∀ x, foldedSetIterable iter env x = pure x) : wpAny (Mo w) A (exec (.Assign [.Name y py] (.ListComp elt [⟨.Name x px, iter, [tst], 0⟩] scope pos) spos) env) Q E s := by
  have hcell' : ∀ y ∈ scope.names, y.2 ≠ .cell := fun y hy => by have := List.all_eq_true.mp hcell y hy; simpa using this
  have hnames' : ∀ y ∈ scope.names, y.2 = .local → scope.names.lookup y.1 = some .local := fun y hy e => by have := List.all_eq_true.mp hnames y hy; simpa [e] using this
  rw [exec_Assign_Name_used _ _ _ _ hsw]
  refine wpAny_bind (wpAny_standAt (wpAny_bind ?_))
  show wpAny _ A (do let _ ← comprehension (.ListComp elt [⟨.Name x px, iter, [tst], 0⟩] scope pos) scope env _ (newList []) false (eval iter env) (some (assign (.Name y py) env))) _ _ s
  refine wpAny_bind (wpAny_mono (wpAny_comprehension_free (use := some (assign (.Name y py) env)) (Q := fun _ s' => Q .next s') rfl hs hclos hkind hnames'
    (wpAny_mono h (fun xv s₁ h₁ => wpAny_mono h₁ (fun iv s₂ h₂ => ?_) fun _ _ e => e) fun _ _ e => e)) (fun _ s' hq => wpAny_pure (wpAny_pure hq)) fun _ _ e => e)
  obtain ⟨g, I, N, P, D, n, J, rfl, it, hz, S, h0, hJ, hself, turn, done⟩ := h₂
  have S1 := S.push (tk := s₂.toks) (o := { cls := .type "list", data := .seq ([] : List Value).toArray }) (d := .lst []) ⟨0, rfl⟩ rfl
  refine wpAny_newObj_type (wpAny_newFunctionEnv hcell' (by intro y hy; simp at hy) (fun h₁ hns hsb => ?_) hkind)
  dsimp only at hns hsb ⊢
  have hC : ∀ b o, (s₂.heap.push { cls := .type "list", data := .seq ([] : List Value).toArray }).get? b = some o → h₁.get? b = some o := fun b o e =>
    (hsb.2 b (fun z => absurd (Heap.lt_size e) (by rw [z]; exact Nat.lt_irrefl _))).trans (Heap.get?_push_of_some _ e)
  have S2 := (S1.kept (h' := h₁) (tk := s₂.toks + ([] : List (Str × Value)).length) hC).add (desc_ns (l := []) hns .nil fun p hp => nomatch hp) S1.fresh (S1.notin (Nat.le_refl _))
  have fe' : Fe (compEnvC scope cl' (s₂.heap.push { cls := .type "list", data := .seq ([] : List Value).toArray }).objs.size env) (rl scope sc) (s₂.heap.push { cls := .type "list", data := .seq ([] : List Value).toArray }).objs.size cl' :=
    ⟨rl_of fe.scope, rfl, rfl, by show (relabel scope env).kind = _; exact hkind, fe.glob, fe.blt⟩
  have loop := comp_loopF (R := compPost (Mo w) A E (some (assign (.Name y py) env)) (fun _ s' => Q .next s') (.ref s₂.heap.objs.size) (s₂.heap.push { cls := .type "list", data := .seq ([] : List Value).toArray }).objs.size) (px := px) (elt := elt) (iter := iter) (scope := scope) (pos := pos) it hz J fe' hx h0 S2 hJ
    (fun i v ys n₁ s₁ E' hi hP hJ1 S₁ => turn _ _ _ i v ys n₁ s₁ E' hi hP hJ1 fe' S₁)
    (fun ys n₁ s₁ hJ1 S₁ => by
      show wpAny _ A (assign (.Name y py) env (.ref _)) _ _ _
      refine wpAny_assign_Name (wpAny_mono (done _ _ ys n₁ s₁ hJ1 S₁) (fun _ s₂' ⟨n₂, S₂, hQ⟩ => ?_) fun _ _ x => x)
      obtain ⟨m, hm, _⟩ := S₂.ns (.head _)
      exact ⟨m, hm, fun h' hs' => hQ _ (S₂.tl (fun b o hb e => (hs'.2 b hb).trans e) rfl rfl)⟩) (fun v => rfl)
  exact codeAny_compStart_list loop (hself _ _ _ (S2.get (.tail _ (.tail _ (.head _)))) loop)
end
noncomputable def strD (xs : List Str) : PyData := .list (xs.map .str)
noncomputable def partV : Part → PyData
  | .code i => .int i
  | .name x => .str x
noncomputable def partD (ps : List Part) : PyData := .list (ps.map partV)
noncomputable def okL (xs : List Str) : Prop := ∀ x ∈ xs, PyData.strOk x = true
theorem lay_strs : ∀ {xs : List Str}, okL xs → PyData.canLayAll0 (xs.map .str) = true
  | [], _ => rfl
  | x :: r, h => by
    show (PyData.canLay0 (.str x) && PyData.canLayAll0 (r.map .str)) = true
    rw [lay_strs fun y hy => h y (.tail _ hy)]
    show (PyData.strOk x && true) = true
    rw [h x (.head _)]; rfl
theorem lay_parts : ∀ {ps : List Part}, (∀ x, Part.name x ∈ ps → PyData.strOk x = true) → PyData.canLayAll0 (ps.map partV) = true
  | [], _ => rfl
  | p :: r, h => by
    show (PyData.canLay0 (partV p) && PyData.canLayAll0 (r.map partV)) = true
    rw [lay_parts fun y hy => h y (.tail _ hy)]
    cases p with
    | code i => rfl
    | name x => show (PyData.strOk x && true) = true; rw [h x (.head _)]; rfl
theorem reads_all {h : Heap} {vs : List Value} {xs : List Str} (s : Strs vs xs) : ReadsAll h vs (xs.map .str) [] := by
  induction s with
  | nil => exact .nil
  | cons _ ih => exact .cons (as := []) (.str _ _) ih
theorem reads_strs {h : Heap} {a : Addr} {vs : List Value} {xs : List Str} (l : h.IsList a vs.toArray) (s : Strs vs xs) : Reads h (.ref a) (strD xs) [a] := by
  obtain ⟨o, h1, h2, n, h3⟩ := l
  exact .list h1 h2 h3 (by simpa using reads_all s)
theorem reads_allP {h : Heap} {vs : List Value} {ps : List Part} (s : All2 shapeV vs ps) : ReadsAll h vs (ps.map partV) [] := by
  induction s with
  | nil => exact .nil
  | cons a _ ih =>
    rename_i v p _ _ _
    cases p with
    | code i => obtain ⟨t, rfl⟩ := a; exact .cons (as := []) (.int _ _) ih
    | name x => obtain ⟨t, rfl⟩ := a; exact .cons (as := []) (.str _ _) ih
theorem reads_parts {h : Heap} {a : Addr} {vs : List Value} {ps : List Part} (l : h.IsList a vs.toArray) (s : All2 shapeV vs ps) : Reads h (.ref a) (partD ps) [a] := by
  obtain ⟨o, h1, h2, n, h3⟩ := l
  exact .list h1 h2 h3 (by simpa using reads_allP s)
section
variable {w : World} {A : Around} {E : Value → Shared → Prop} {k : Shared} {g : Heap} {env : Env} {d : Nat} {s : Shared} {n n' n'' : Led}
theorem c_same {a b : Value} {da : PyData} {as bs : List Addr} {Q : Value → Shared → Prop} (rm : Room A d) (hd : d ≤ 50) (ra : Reads s.heap a da as) (rb : Reads s.heap b da bs) (ha : SeqAt.shaped da = true) (h : Q (.bool true) s) : wpAny (Mo w) A (compareOp .Eq a b) Q E s :=
  c_eqD rm hd ra rb ha ha (by rw [PySem.SeqAt.eqv_refl _ (SeqAt.canLay_of_shaped ha)]; exact h)
theorem c_same_ne {a b : Value} {da : PyData} {as bs : List Addr} {Q : Value → Shared → Prop} (rm : Room A d) (hd : d ≤ 50) (ra : Reads s.heap a da as) (rb : Reads s.heap b da bs) (ha : SeqAt.shaped da = true) (h : Q (.bool false) s) : wpAny (Mo w) A (compareOp .NotEq a b) Q E s :=
  c_neD rm hd ra rb ha ha (by rw [PySem.SeqAt.eqv_refl _ (SeqAt.canLay_of_shaped ha)]; exact h)
theorem e_cmp {l r : Expr} {op : CmpOp} {pos : Pos} {Q : Value → Shared → Prop} (h : wpAny (Mo w) A (eval l env) (CmvK w A E env op r Q) E s) (hm : behindInMarks op r = false) : wpAny (Mo w) A (eval (.Compare l [op] [r] pos) env) Q E s :=
  wpAny_Compare1 h hm
end
theorem depth_strs : ∀ xs : List Str, PyData.depthAll (xs.map .str) ≤ 1
  | [] => by simp [PyData.depthAll]
  | x :: r => by
    have := depth_strs r
    simp only [List.map_cons, PyData.depthAll]
    refine Nat.max_le.mpr ⟨?_, this⟩
    simp [PyData.depth]
theorem depth_parts : ∀ ps : List Part, PyData.depthAll (ps.map partV) ≤ 1
  | [] => by simp [PyData.depthAll]
  | p :: r => by
    have := depth_parts r
    simp only [List.map_cons, PyData.depthAll]
    refine Nat.max_le.mpr ⟨?_, this⟩
    cases p <;> simp [partV, PyData.depth]
theorem shaped_strs {xs : List Str} (h : okL xs) : SeqAt.shaped (strD xs) = true := by
  unfold SeqAt.shaped
  rw [show (strD xs).canLay0 = true from lay_strs h, Bool.true_and]
  have := depth_strs xs
  refine decide_eq_true ?_
  show PyData.depthAll (xs.map .str) + 1 ≤ 64
  omega
theorem shaped_parts {ps : List Part} (h : ∀ x, Part.name x ∈ ps → PyData.strOk x = true) : SeqAt.shaped (partD ps) = true := by
  unfold SeqAt.shaped
  rw [show (partD ps).canLay0 = true from lay_parts h, Bool.true_and]
  have := depth_parts ps
  refine decide_eq_true ?_
  show PyData.depthAll (ps.map partV) + 1 ≤ 64
  omega
theorem It.dict {w : World} {A : Around} {K : Type} [DecidableEq K] {knd : KeyKind prg w K} {g : Heap} {d : Addr} {kvs : List (K × Value)} {ep : Nat} (hh : A.handled = none) (hd : g.DictAt knd d kvs ep) (I : Addr) :
    It w A g I kvs.length (fun i v => ∃ k x, kvs[i]? = some (k, x) ∧ knd.is k v = true) (fun i o => o.cls = .type "dict_keyiterator" ∧ o.data = .fields #[.ref d, .int i 0, .int kvs.length 0, .int ep 0]) where
  next := fun i s Q E hi hg ⟨o, ho, hc, hdt⟩ hQ => by
    obtain ⟨⟨k, x⟩, hx⟩ : ∃ p, kvs[i]? = some p := ⟨kvs[i], by simp [hi]⟩
    refine wpAny_pyNext_dict_item ⟨o, ho, hc, hdt⟩ (hd.keep hg) hx fun key h' hkey ⟨o', e1, e2, e3⟩ hs => ?_
    exact hQ _ h' s.toks ⟨k, x, hx, hkey⟩ ⟨o', e1, e2, e3⟩ fun b o hb e => (hs.2 b hb).trans e
  stop := fun s Q E hg ⟨o, ho, hc, hdt⟩ hQ => by
    refine wpAny_pyNext_dict_end hh ⟨o, ho, hc, hdt⟩ (hd.keep hg) (by simp) fun h' hs => ?_
    exact hQ h' s.toks fun b o hb e => hs b o hb e
section
variable {w : World} {A : Around} {E : Value → Shared → Prop} {k : Shared} {g : Heap} {env : Env} {d : Nat} {K : Type} [DecidableEq K] {knd : KeyKind prg w K} {s : Shared} {n n' n'' : Led}
theorem p_dict {a : Addr} {kvs : List (K × Value)} {ep : Nat} {Q : Value → Shared → Prop} (lo : (a == sysModules) = false) (S : St k g n s) (hd : g.DictAt knd a kvs ep)
    (h : ∀ I s', St k g ((I, .prop fun o => o.cls = .type "dict_keyiterator" ∧ o.data = .fields #[.ref a, .int (0 : Nat) 0, .int kvs.length 0, .int ep 0]) :: n) s' → Q (.ref I) s') : wpAny (Mo w) A (pyIter (.ref a)) Q E s :=
  wpAny_pyIter_dict lo (hd.keep fun b o e => S.keep b o e) (h _ _ (S.push (tk := s.toks) ⟨rfl, rfl⟩ rfl))
theorem self_dict {I a : Addr} {m ep : Nat} (s : Shared) (Q : Value → Shared → Prop) (E : Value → Shared → Prop) (h : ∃ o, s.heap.get? I = some o ∧ o.cls = .type "dict_keyiterator" ∧ o.data = .fields #[.ref a, .int (0 : Nat) 0, .int m 0, .int ep 0]) (hQ : Q (.ref I) s) : wpAny (Mo w) A (pyIter (.ref I)) Q E s :=
  wpAny_pyIter_keyiter (d := a) (i := 0) (n := m) (ep := ep) (let ⟨o, a, b, c⟩ := h; ⟨o, a, b, c⟩) hQ
theorem e_and2 {x y : Expr} {pos : Pos} {Q : Value → Shared → Prop}
    (h : wpAny (Mo w) A (eval x env) (fun v s₁ => wpAny (Mo w) A (truthy v) (fun t s₂ => if t = true then wpAny (Mo w) A (eval y env) Q E s₂ else Ap Q v s₂) E s₁) E s) : wpAny (Mo w) A (eval (.BoolOp .And [x, y] pos) env) Q E s :=
  wpAny_And2 h
end
section
open Sem (wp)
theorem lk_list_keys : typeLookup (.type "list") (Str.ofString "keys") = pure none := by rw [typeLookup_type, builtinLookup_eq_fast]; kernel_rfl
theorem lk_list_getattr : typeLookup (.type "list") "__getattr__" = pure none := by rw [typeLookup_type, builtinLookup_eq_fast]; kernel_rfl
section
variable {prog : Program} {w : World} {A : Around} {E : Value → Shared → Prop} {h : Heap} {g : Array GenState} {d : Drawn} {t : Nat} {os : OsState} {a : Addr} {vs : Array Value} {c : Nat}
theorem keys_entry_list {tk : Tok} {Q : PySem.Fin → Shared → Prop} (hh : A.handled = none) (hx : h.get? a = some { cls := .type "list", dict := none, data := .seq vs c, slots := #[] })
    (hE : ∀ h' tk' e, Heap.NewAttrErr h h' e (.ref a) (Str.ofString "keys") → E (.ref e) ⟨h', g, d, tk', os⟩) :
    wpAny (model prog w) A (Builtin.«object.__getattribute__» ⟨[.ref a, .str (Str.ofString "keys") tk], []⟩) Q E ⟨h, g, d, t, os⟩ := by
  have hT : (⟨h, g, d, t, os⟩ : Shared).TypeIs (.ref a) "list" := ⟨_, hx, rfl⟩
  have f4 := lk_list_keys
  repeat (any_goals (first | assumption | wp_step))
  exact wpAny_raiseAttrError hh hE (by decide +kernel)
theorem keys_by_list {tk : Tok} {Q : Value → Shared → Prop} (hh : A.handled = none) (hx : h.get? a = some { cls := .type "list", dict := none, data := .seq vs c, slots := #[] })
    (hE : ∀ h' tk' e, Heap.NewExcOf h h' e "AttributeError" → E (.ref e) ⟨h', g, d, tk', os⟩) : wpAny (model prog w) A (getAttrBy (.ref a) (.str (Str.ofString "keys") tk) false) Q E ⟨h, g, d, t, os⟩ := by
  have hT : (⟨h, g, d, t, os⟩ : Shared).TypeIs (.ref a) "list" := ⟨_, hx, rfl⟩
  have f1 := sub_AttributeError
  have f2 := F.slot_list_getattribute.lookup
  have f3 := F.slot_list_getattribute.bind (.ref a)
  have f5 := lk_list_getattr
  repeat (any_goals (first | assumption | wp_step))
  refine codeAny_call_builtin F.slot_list_getattribute.plain F.entry_list_ga (F.slot_list_getattribute.check _ _ _ _ _ _ _ _ hT (F.args_list_getattribute_2 _ _) (keys_entry_list hh hx fun h' tk' e X => ?_))
  obtain ⟨t', u', he⟩ := X.there
  show wpAny _ _ (getattributeRaised _ _ _ _ _ _ _) _ _ _
  unfold getattributeRaised
  repeat (any_goals (first | assumption | wp_step))
  exact hE _ _ _ X.of
theorem keys_attr_list {Q : Option Value → Shared → Prop} (hh : A.handled = none) (hx : h.get? a = some { cls := .type "list", dict := none, data := .seq vs c, slots := #[] })
    (hq : ∀ h' tk', (∀ b o, h.get? b = some o → h'.get? b = some o) → Q none ⟨h', g, d, tk', os⟩) : wpAny (model prog w) A (getAttr? (.ref a) (Str.ofString "keys")) Q E ⟨h, g, d, t, os⟩ := by
  have f1 := sub_AttributeError
  unfold getAttr? getAttrBy?
  refine wpAny_bind (wpAny_mkText (wpAny_bind (wpAny_attempt (keys_by_list hh hx fun h' tk' e X => ?_))))
  obtain ⟨o', k1, k2, k3⟩ := X.there
  have hT : (⟨h', g, d, tk', os⟩ : Shared).TypeIs (.ref e) "AttributeError" := ⟨_, k2, k3.1⟩
  refine wpAny_bind (wpAny_isInstance hT f1 ?_)
  rw [if_pos rfl]
  exact wpAny_pure (hq _ _ fun b o eb => X.keeps b o eb)
end
end
theorem upd_entry : entryFor table "dict.update.loop" = some Builtin.«dict.update.loop» := entryFor_of_tree (by kernel_rfl)
section
variable {w : World} {A : Around} {E : Value → Shared → Prop} {k : Shared} {g : Heap} {env : Env} {d : Nat} {K : Type} [DecidableEq K] {knd : KeyKind prg w K} {s : Shared} {n n' n'' : Led}
noncomputable def PairIn (knd : KeyKind prg w K) (g : Heap) (kvs : List (K × Value)) (i : Nat) (v : Value) : Prop := ∃ t key kv x, v = .ref t ∧ g.get? t = some (tupO [kv, x]) ∧ kvs[i]? = some (key, x) ∧ knd.is key kv = true
theorem upd_loop {R : Result → Shared → Prop} {a I D : Addr} {vs : List Value} {kvs : List (K × Value)} (hh : A.handled = none) (ha : g.IsList a vs.toArray) (hlen : vs.length = kvs.length)
    (hp : ∀ i v, vs[i]? = some v → PairIn knd g kvs i v) (hz : vs.length ≤ 1000)
    (h : ∀ s', St k g ((D, dcD knd (merged [] kvs)) :: n) s' → R (.ok (.ret .none)) s') : ∀ (m i : Nat) (s : Shared), m = vs.length - i → i ≤ vs.length →
      St k g ((I, .prop fun o => o.cls = .type "list_iterator" ∧ o.data = .fields #[.ref a, .int (i : Nat) 0]) :: (D, dcD knd (merged [] (kvs.take i))) :: n) s →
      codeAny (Mo w) A (.builtin "dict.update.loop" ⟨[.ref D, .ref I, rawInt (i : Nat), .none], []⟩) R s := by
  intro m
  induction m with
  | zero =>
    intro i s hm hi S
    have e : i = vs.length := by omega
    subst e
    refine codeAny_builtin upd_entry ?_
    unfold Builtin.«dict.update.loop»
    refine wpAny_bind ((It.list (A := A.under _) (w := w) hh ha I).stop s _ _ S.keep (S.get (.head _)) fun h' tk hk => ?_)
    refine wpAny_bind (wpAny_pure (wpAny_pure (h _ ?_)))
    have nd := S.nd
    simp only [List.map_cons, List.nodup_cons, List.mem_cons, not_or] at nd
    have hI := (S.led _ (.head _)).2
    rw [List.take_of_length_le (by omega)] at S
    refine ⟨fun b o e => hk b o (fun z => by rw [z] at e; rw [hI] at e; cases e) (S.keep b o e), fun p hp => ?_, S.drop.nd, S.os, S.gens⟩
    obtain ⟨⟨o, e, i⟩, z⟩ := S.led p (.tail _ hp)
    refine ⟨⟨o, hk _ _ ?_ e, i⟩, z⟩
    rintro rfl
    rcases List.mem_cons.mp hp with q | hp
    · exact nd.1.1 (by rw [q])
    · exact nd.1.2 (List.mem_map_of_mem hp)
  | succ m ih =>
    intro i s hm hi S
    have hlt : i < vs.length := by omega
    refine codeAny_builtin upd_entry ?_
    unfold Builtin.«dict.update.loop»
    refine wpAny_bind ((It.list (A := A.under _) (w := w) hh ha I).next i s _ _ hlt S.keep (S.get (.head _)) fun v h' tk hv hD hk => ?_)
    have S₂ := S.upd (tk := tk) (d' := .prop fun o => o.cls = .type "list_iterator" ∧ o.data = .fields #[.ref a, .int ((i + 1 : Nat) : Nat) 0]) Upd.head hk hD
    obtain ⟨t, key, kv, x, rfl, ht, hkv, hkey⟩ := hp i v hv
    have ht' := S₂.keep _ _ ht
    dsimp only
    refine wpAny_bind (wpAny_holding (wpAny_bind (wpAny_tryCatch ?_)))
    unfold Builtin.Dict.pairItems
    refine wpAny_bind (wpAny_typeOf (T := "tuple") ⟨_, ht', rfl⟩ ?_)
    rw [if_pos (by decide)]
    refine wpAny_bind (wpAny_seqItems (items := [kv, x].toArray) (n := 0) ht' rfl (wpAny_pure ?_))
    have S₃ := S₂.swap
    have hsz : (merged [] (kvs.take i)).length ≤ sizeLine := by
      have := merged_length_le [] (kvs.take i)
      rw [List.length_take] at this
      show _ ≤ 16777216
      simp at this
      omega
    refine wpAny_holding (wpAny_dictSet_pairs (knd := knd) (hsz := hsz) hkey (Heap.dictOf_iff.mpr (S₂.get (.tail _ (.head _)))) fun h'' hm' hs => ?_)
    have S₄ := S₂.upd (tk := tk + 1) (h' := h'') (d' := dcD knd (stored (merged [] (kvs.take i)) key x)) (.tail .head) (fun b o hb e => (hs.2 b hb).trans e) (Heap.dictOf_iff.mp hm')
    rw [← merged_take_succ [] kvs i (key, x) hkv] at S₄
    refine wpAny_pure ⟨?_, ?_⟩
    · exact Code.quiet_builtin _ (by decide +kernel)
    · have := ih (i + 1) _ (by omega) (by omega) S₄
      exact this
theorem d_of_list {a : Addr} {vs : List Value} {kvs : List (K × Value)} {c : Nat} {Q : Value → Shared → Prop} (hh : A.handled = none) (W : Wld w g) (S : St k g n s) (hx : g.get? a = some { cls := .type "list", dict := none, data := .seq vs.toArray c, slots := #[] }) (hlen : vs.length = kvs.length)
    (hp : ∀ i v, vs[i]? = some v → PairIn knd g kvs i v) (hz : vs.length ≤ 1000) (h : ∀ D s', (D == sysModules) = false → St k g ((D, dcD knd (merged [] kvs)) :: n) s' → Q (.ref D) s') : wpAny (Mo w) A (call (.type "dict") [.ref a]) Q E s := by
  refine callType_codes (Q₁ := fun obj s₁ => obj = .ref s.heap.objs.size ∧ s₁ = { s with heap := s.heap.push { cls := .type "dict", data := .dict #[] } }) F.kt_called_dict (F.kt_typeCall_dict_1 _) F.entry_dict_init (kt_code_dict_new _ ⟨rfl, rfl⟩) ?_
  rintro obj s₁ ⟨rfl, rfl⟩
  have hd := Heap.dictOf_iff.mp (Heap.DictOf.new (knd := knd) s.heap)
  have S1 := (S.kept (tk := s.toks) (h' := s.heap.push { cls := .type "dict", data := .dict #[] }) fun b o e => Heap.get?_push_of_some _ e).add (d := dcD knd []) hd S.fresh (S.notin (Nat.le_refl _))
  have lo := not_modules W S
  have hnew := Heap.dictOf_iff.mpr (S1.get (.head _))
  have ha : g.IsList a vs.toArray := ⟨_, hx, rfl, c, rfl⟩
  refine ⟨hnew.typeIs, F.args_dict_init_2 _ _, ?_⟩
  unfold Builtin.«dict.__init__»
  refine wpAny_bind ?_
  unfold Builtin.Dict.selfAndRest
  refine wpAny_bind (wpAny_notOrdered_dict hnew.typeIs ?_)
  show wpAny _ _ (pure (s.heap.objs.size, [Value.ref a])) _ _ _
  refine wpAny_pure ?_
  show wpAny _ _ (Builtin.Dict.updateFrom "dict.__init__" s.heap.objs.size (.ref a) [] .none) _ _ _
  unfold Builtin.Dict.updateFrom
  have hx1 := S1.keep _ _ hx
  refine wpAny_bind (wpAny_typeOf (T := "list") ⟨_, hx1, rfl⟩ ?_)
  rw [if_pos (by decide)]
  refine wpAny_bind (keys_attr_list (A := A.in1.in1) hh hx1 fun h' tk' hk => ?_)
  rw [if_pos (by rfl)]
  have S2 := S1.kept (tk := tk') hk
  refine wpAny_bind (wpAny_rule (wpAny_bind (p_list S2 ha fun I s' S3 => wpAny_pure ⟨Code.quiet_builtin _ (by decide +kernel), ?_⟩)))
  exact upd_loop (A := A.in1) hh ha hlen hp hz (fun s'' S4 => ⟨rfl, h _ _ lo S4⟩) vs.length 0 _ (by omega) (by omega) S3
end
section
variable {w : World} {A : Around} {d : Nat} {s : Shared} {R : Result → Shared → Prop}
noncomputable def NotRef (h : Heap) (u : Value) : Prop := ∃ ty, HasTy h u ty ∧ ty.ok = true ∧ ty ≠ .inst 268
noncomputable def ResH (h : Heap) (kvs : List (Int × Value)) (v u : Value) : Prop :=
  NotRef h u ∧ (v = u ∨ ∃ x n t tg tp tg', v = .ref x ∧ InstH h x 268 [(Str.ofString "number", .int n t), (Str.ofString "generation", .int 0 tg)] ∧ valueAt kvs n = some (.ref tp) ∧ h.IsTuple tp [.int 0 tg', u].toArray)
theorem NotRef.keeps {h h' : Heap} {u : Value} (x : NotRef h u) (k : ∀ b o, h.get? b = some o → h'.get? b = some o) : NotRef h' u := let ⟨ty, a, b⟩ := x; ⟨ty, a.keeps k, b⟩
theorem ResH.keeps {h h' : Heap} {kvs : List (Int × Value)} {v u : Value} (x : ResH h kvs v u) (k : ∀ b o, h.get? b = some o → h'.get? b = some o) : ResH h' kvs v u := by
  obtain ⟨a, b⟩ := x
  refine ⟨a.keeps k, ?_⟩
  rcases b with b | ⟨x, n, t, tg, tp, tg', e, I, v, ⟨o, h1, h2⟩⟩
  · exact .inl b
  · exact .inr ⟨x, n, t, tg, tp, tg', e, I.keeps k, v, o, k _ _ h1, h2⟩
end
theorem e_word {w : World} {A : Around} {E : Value → Shared → Prop} {k s : Shared} {g : Heap} {n : Led} {env : Env} {m : Sem Value} {a b : Expr} {y : Str} {Q : Value → Shared → Prop} (S : St k g n s)
    (hs : ∀ Q : Value → Shared → Prop, (∀ t s', St k g n s' → Q (.str y t) s') → wpAny (Mo w) A m (TruK w A E (IfeK w A E env a b Q)) E s) (h : ∀ t s', St k g n s' → Q (.str y t) s') : wpAny (Mo w) A m (TruK w A E (IfeK w A E env a b Q)) E s := hs Q h
inductive BaseV | other | name (x : Str)
inductive DiffV | none | bad | parts (ps : List (Option Part))
inductive EncV | none | name (x : Str) | other | dict (b : BaseV) (d : DiffV)
noncomputable def BaseV.word : BaseV → Str
  | .name x => x
  | .other => Str.ofString "StandardEncoding"
noncomputable def DiffV.list : DiffV → Option (List (Option Part))
  | .none => some []
  | .bad => Option.none
  | .parts ps => some ps
noncomputable def encOf : EncV → Option (List Str)
  | .none => some stdL
  | .name x => baseOf x
  | .other => Option.none
  | .dict b d => d.list.bind fun ps => (baseOf b.word).bind fun ys => withDiff ys ps
noncomputable def BaseH (h : Heap) (u : Value) : BaseV → Prop
  | .name x => ∃ a t, u = .ref a ∧ InstH h a 197 [(Str.ofString "text", .str x t)]
  | .other => ∃ ty, HasTy h u ty ∧ ty.ok = true ∧ ty ≠ .inst 197
noncomputable def ResP (h : Heap) (kvs : List (Int × Value)) (v : Value) (p : Option Part) : Prop := ∃ u, ResH h kvs v u ∧ pvH h u p
noncomputable def DiffH (h : Heap) (kvs : List (Int × Value)) (u : Value) : DiffV → Prop
  | .none => u = .none
  | .bad => ∃ ty, HasTy h u ty ∧ ty.ok = true ∧ ty ≠ .none ∧ ty ≠ .list ∧ ty ≠ .str
  | .parts ps => ∃ a vs, u = .ref a ∧ h.IsList a vs.toArray ∧ All3 (ResP h kvs) vs ps ∧ ps.length ≤ 1000
noncomputable def EncH (w : World) (h : Heap) (kvs : List (Int × Value)) (u : Value) : EncV → Prop
  | .none => u = .none
  | .name x => ∃ a t, u = .ref a ∧ InstH h a 197 [(Str.ofString "text", .str x t)]
  | .other => ∃ ty, HasTy h u ty ∧ ty.ok = true ∧ ty ≠ .none ∧ ty ≠ .inst 197 ∧ ty ≠ .dict ∧ ty ≠ .str
  | .dict b d => ∃ D hk, u = .ref D ∧ DicH (PySem.strKind prg w) h D hk ∧ (∃ ub, ResH h kvs ((valueAt hk (Str.ofString "BaseEncoding")).getD .none) ub ∧ BaseH h ub b) ∧ (∃ ud, ResH h kvs ((valueAt hk (Str.ofString "Differences")).getD .none) ud ∧ DiffH h kvs ud d)
theorem BaseOk.len (B : BaseOk) {x : Str} {ys : List Str} (h : baseOf x = some ys) : ys.length = 256 := by
  have n0 := B.n0
  have ww : ∀ (a : List Str) (b : List Str), (withWords a b).length = a.length := fun a b => by
    have := wwTo_len a b b.length
    unfold wwTo at this
    rwa [List.take_length] at this
  have ll : latinL.length = 95 := by unfold latinL; simp [B.latin.1]
  have lwn : winN.length = 256 := by unfold winN; rw [List.length_append, ww, ll, List.length_take, n0]; rfl
  unfold baseOf at h
  split at h
  · cases h; exact (ww _ _).trans n0
  · split at h
    · cases h; exact (ww _ _).trans n0
    · split at h
      · cases h; unfold winL; rw [List.length_append, List.length_map, List.length_take, List.length_drop, lwn]; rfl
      · cases h
theorem FlewN.shrink {k : Shared} {g g' : Heap} {L : Addr} {fs : List Addr} {e : Value} {s : Shared} (F : FlewN k g' L fs e s) (h : ∀ b o, g.get? b = some o → g'.get? b = some o) : FlewN k g L fs e s := by
  obtain ⟨n, H, ⟨a, rfl, S⟩ | ⟨a, t, rfl, S⟩⟩ := F
  · exact ⟨n, H, .inl ⟨a, rfl, S.shrink h⟩⟩
  · exact ⟨n, H, .inr ⟨a, t, rfl, S.shrink h⟩⟩
theorem dic_ty {w : World} {h : Heap} {D : Addr} {hk : List (Str × Value)} (x : DicH (PySem.strKind prg w) h D hk) : HasTy h (.ref D) .dict := by
  obtain ⟨o, h1, h2⟩ := Heap.dictOf_iff.mp x.2
  obtain ⟨_, _, h3, _⟩ := h2
  exact ⟨D, o, rfl, h1, h3.1⟩
theorem ints_at {vs : List Value} {ns : List Int} (h : IntsAre vs ns) : ∀ v ∈ vs, ∃ x t, v = .int x t := by
  induction h with
  | nil => exact fun _ h => nomatch h
  | cons n t _ ih => intro v hv; rcases List.mem_cons.mp hv with rfl | hv; exact ⟨n, t, rfl⟩; exact ih v hv
section
variable {w : World} {A : Around} {d : Nat} {s : Shared} {R : Result → Shared → Prop}
theorem i_min {A : Around} {E : Value → Shared → Prop} {k : Shared} {g : Heap} {n : Led} {a b : Int} {t u : Tok} {Q : Value → Shared → Prop} (hh : A.handled = none) (S : St k g n s) (h : ∀ t s', St k g n s' → Q (.int (if b < a then b else a) t) s') : wpAny (Mo w) A (call (.builtin "min") [.int a t, .int b u]) Q E s :=
  min_two_ints hh fun h' tk hk => by
    by_cases q : b < a
    · have := h u _ (S.kept (tk := tk) hk)
      rw [if_pos q] at this ⊢; exact this
    · have := h t _ (S.kept (tk := tk) hk)
      rw [if_neg q] at this ⊢; exact this
noncomputable def Drawn (ys : List Str) (x : Str) : Prop := x ∈ ys ∨ x ∈ glyphWords
end
theorem fn_enterC0 {w : World} {A : Around} {R : Result → Shared → Prop} {s : Shared} {a c : Addr} {nm q : Str} {params : Arguments} {dV pm : Value} {sc : Scope} {body : List Stmt} {vals : List Value} {binds lb : List (Str × Value)} {d : Nat} (X : Led) (cl : Addr → List (Str × Addr)) (cn : Addr → Led)
    (W : Wld w s.heap) (rm : Room A d) (ha : (topK w.params).lookup a = some ⟨.type "function", none, .func (fnOf nm q params body sc dV .none .none pm none (.ref c) .none), #[]⟩) (hcd : (c, q) ∈ codeQ)
    (hbind : bindArgs (fnOf nm q params body sc dV .none .none pm none (.ref c) .none) ⟨vals, []⟩ = pure binds) (hok : cellOk sc binds lb = true) (hlb : ∀ p ∈ lb, p ∈ binds)
    (hkind : ∀ L : Addr, ∀ x ∈ binds, sc.names.lookup x.1 = some .local ∨ (sc.names.lookup x.1 = some .cell ∧ ((cl L).lookup x.1).isSome = true))
    (hcl : ∀ L, cellsFrom (L + 1) sc.names [] = cl L) (hcn : ∀ L, cellL sc binds L = cn L) (hnd : ∀ L, ((cl L).map (·.1)).Nodup)
    (hX : ∀ p ∈ X, ∃ o, s.heap.get? p.1 = some o ∧ p.2.is o) (hXn : (X.map (·.1)).Nodup)
    (hW : Wld w (hideAll s.heap (X.map (·.1))))
    (h : ∀ (g : Heap) (L : Addr) (s₁ : Shared) (env : Env) (A' : Around) (E' : Value → Shared → Prop), g = hideAll s.heap (X.map (·.1)) → Wld w g → St s g (cn L ++ (L, .ns lb) :: X) s₁ → Fe env sc L (cl L) → Room A' (d + 1) →
      ∀ K : Flow → Shared → Prop, (∀ f s', R (.ok (.ret (match f with | .ret v => v | _ => .none))) s' → Kont K f s') → wpAny (Mo w) A' (execs body env) (Kont K)
        E' s₁)
    (hd : d ≤ 50) : codeAny (Mo w) A (.call (.ref a) ⟨vals, []⟩) R s :=
  fn_enterC X cl cn W rm ha hcd hbind hok hlb hkind hcl hcn hnd hX hXn hW (fun g L s₁ env A' hg W' S fe rm' _ => h g L s₁ env A' _ hg W' S fe rm') hd
noncomputable def unl (xs ys : List Str) (i : Nat) : List Nat := (List.range i).filter fun c => xs.getD c Str.empty != ys.getD c Str.empty
noncomputable def dueStep (xs : List Str) (u : List Nat) (acc : List Part) (k : Nat) : List Part :=
  acc ++ (if k = 0 ∨ u.getD (k - 1) 0 + 1 < u.getD k 0 then [.code (u.getD k 0)] else []) ++ [.name (nameOf (xs.getD (u.getD k 0) Str.empty))]
noncomputable def dueTo (xs : List Str) (u : List Nat) (i : Nat) : List Part := (List.range i).foldl (dueStep xs u) []
noncomputable def dueL (xs ys : List Str) : List Part := dueTo xs (unl xs ys 256) (unl xs ys 256).length
theorem unl_succ (xs ys : List Str) (i : Nat) : unl xs ys (i + 1) = unl xs ys i ++ (if xs.getD i Str.empty != ys.getD i Str.empty then [i] else []) := by
  unfold unl; rw [List.range_succ, List.filter_append]; simp only [List.filter_cons, List.filter_nil]
theorem unl_le (xs ys : List Str) (i : Nat) : (unl xs ys i).length ≤ i := by
  have := List.length_filter_le (fun c => xs.getD c Str.empty != ys.getD c Str.empty) (List.range i)
  rwa [List.length_range] at this
theorem dueTo_succ (xs : List Str) (u : List Nat) (i : Nat) : dueTo xs u (i + 1) = dueStep xs u (dueTo xs u i) i := by
  unfold dueTo; rw [List.range_succ, List.foldl_append]; rfl
theorem dueTo_len (xs : List Str) (u : List Nat) : ∀ i, (dueTo xs u i).length ≤ 2 * i
  | 0 => Nat.le_refl _
  | i + 1 => by
    have := dueTo_len xs u i
    rw [dueTo_succ]; unfold dueStep
    split <;> simp <;> omega
noncomputable def CodesAre (vs : List Value) (u : List Nat) : Prop := vs.length = u.length ∧ ∀ (i : Nat) (c : Nat), u[i]? = some c → ∃ t, vs[i]? = some (.int (c : Int) t)
theorem CodesAre.snoc {vs : List Value} {u : List Nat} (h : CodesAre vs u) {c : Nat} {t : Tok} : CodesAre (vs ++ [.int (c : Int) t]) (u ++ [c]) := by
  refine ⟨by simp [h.1], fun i c' e => ?_⟩
  rw [List.getElem?_append] at e ⊢
  rw [h.1]
  split at e
  · rename_i q; rw [if_pos q]; exact h.2 _ _ e
  · rename_i q
    rw [if_neg q]
    cases hi : i - u.length with
    | zero => rw [hi] at e; simp at e; subst e; exact ⟨t, rfl⟩
    | succ j => rw [hi] at e; simp at e
noncomputable def encW (j : Nat) : Str := encWords.getD j Str.empty
noncomputable def baseAt (j : Nat) : List Str := (baseOf (encW j)).getD []
noncomputable def sizeAt (xs : List Str) (j : Nat) : Nat := (diffL xs (baseAt j)).length
noncomputable def bestTo (xs : List Str) : Nat → Nat
  | 0 => 0
  | 1 => 0
  | i + 2 => if sizeAt xs (i + 1) < sizeAt xs (bestTo xs (i + 1)) then i + 1 else bestTo xs (i + 1)
theorem bestTo_next (xs : List Str) {i : Nat} (h : 0 < i) : bestTo xs (i + 1) = if sizeAt xs i < sizeAt xs (bestTo xs i) then i else bestTo xs i := by
  cases i with
  | zero => cases h
  | succ j => rw [bestTo]
theorem bestTo_lt (xs : List Str) : ∀ i, bestTo xs (i + 1) < i + 1
  | 0 => Nat.zero_lt_one
  | i + 1 => by
    have := bestTo_lt xs i
    unfold bestTo
    split <;> omega
theorem base_std : baseOf (Str.ofString "StandardEncoding") = some stdL := by unfold baseOf; rw [if_pos rfl]
theorem base_mac : baseOf (Str.ofString "MacRomanEncoding") = some macL := by unfold baseOf; rw [if_neg (by decide +kernel), if_pos rfl]
theorem base_win : baseOf (Str.ofString "WinAnsiEncoding") = some winL := by unfold baseOf; rw [if_neg (by decide +kernel), if_neg (by decide +kernel), if_pos rfl]
theorem encW_base {j : Nat} (h : j < 3) : baseOf (encW j) = some (baseAt j) := by
  have : ∃ ys, baseOf (encW j) = some ys := by
    match j, h with
    | 0, _ => exact ⟨_, base_std⟩
    | 1, _ => exact ⟨_, base_win⟩
    | 2, _ => exact ⟨_, base_mac⟩
  obtain ⟨ys, e⟩ := this
  unfold baseAt
  rw [e, Option.getD_some]
theorem encW_at {j : Nat} {x : Str} (h : encWords[j]? = some x) : j < 3 ∧ x = encW j := by
  have hj : j < 3 := by
    rcases Nat.lt_or_ge j 3 with q | q
    · exact q
    · rw [List.getElem?_eq_none (by exact q)] at h; cases h
  refine ⟨hj, ?_⟩
  unfold encW
  rw [List.getD_eq_getElem?_getD, h]; rfl
theorem diffL_len (xs ys : List Str) : (diffL xs ys).length ≤ 512 := by unfold diffL; exact diffTo_len xs ys 256
theorem encW_std {j : Nat} (h : j < 3) : (encW j == Str.ofString "StandardEncoding") = decide (j = 0) := by
  match j, h with
  | 0, _ => decide +kernel
  | 1, _ => decide +kernel
  | 2, _ => decide +kernel
noncomputable def FoundH (w : World) (h : Heap) (v : Value) (j : Nat) (ps : List Part) : Prop :=
  (ps = [] ∧ j = 0 ∧ v = .none) ∨ (ps = [] ∧ j ≠ 0 ∧ ∃ x t, v = .ref x ∧ InstH h x 197 [(Str.ofString "text", .str (encW j) t)]) ∨
  (ps ≠ [] ∧ ∃ D x t p vs kvs, v = .ref D ∧ DicH (PySem.strKind prg w) h D kvs ∧ InstH h x 197 [(Str.ofString "text", .str (Str.ofString "Encoding") t)] ∧ h.IsList p vs.toArray ∧ All2 (partH h) vs ps ∧
    ((j = 0 ∧ kvs = [(Str.ofString "Type", .ref x), (Str.ofString "Differences", .ref p)]) ∨ (j ≠ 0 ∧ ∃ y u, kvs = [(Str.ofString "Type", .ref x), (Str.ofString "BaseEncoding", .ref y), (Str.ofString "Differences", .ref p)] ∧ InstH h y 197 [(Str.ofString "text", .str (encW j) u)])))
theorem merged2 {k1 k2 : Str} (a b : Value) (h : k1 ≠ k2) : merged [] [(k1, a), (k2, b)] = [(k1, a), (k2, b)] := by simp [merged, stored, h]
theorem merged3 {k1 k2 k3 : Str} (a b c : Value) (h : k1 ≠ k2) (h1 : k1 ≠ k3) (h2 : k2 ≠ k3) : merged [] [(k1, a), (k2, b), (k3, c)] = [(k1, a), (k2, b), (k3, c)] := by simp [merged, stored, h, h1, h2]
noncomputable def KeysUp (kvs : List (Int × Value)) : Prop := kvs.map (·.1) = (List.range kvs.length).map fun (i : Nat) => ((i : Int) + 1)
theorem KeysUp.snoc {kvs : List (Int × Value)} (h : KeysUp kvs) (v : Value) : stored kvs ((kvs.length : Int) + 1) v = kvs ++ [((kvs.length : Int) + 1, v)] ∧ KeysUp (kvs ++ [((kvs.length : Int) + 1, v)]) ∧ valueAt (kvs ++ [((kvs.length : Int) + 1, v)]) ((kvs.length : Int) + 1) = some v := by
  have h0 : kvs.map (·.1) = (List.range kvs.length).map fun (i : Nat) => ((i : Int) + 1) := h
  have hn : ∀ p ∈ kvs, p.1 ≠ (kvs.length : Int) + 1 := fun p hp e => by
    have : p.1 ∈ kvs.map (·.1) := List.mem_map_of_mem hp
    rw [h0] at this
    obtain ⟨i, hi, e'⟩ := List.mem_map.mp this
    have := List.mem_range.mp hi
    omega
  refine ⟨?_, ?_, ?_⟩
  · unfold stored
    rw [if_neg]
    simp only [List.any_eq_true, decide_eq_true_eq, not_exists, not_and]
    exact fun p hp => hn p hp
  · unfold KeysUp at h ⊢
    rw [List.map_append, h, List.length_append, show [((kvs.length : Int) + 1, v)].length = 1 from rfl, List.range_succ, List.map_append]
    rfl
  · unfold valueAt
    have e : kvs.find? (fun kv => decide (kv.1 = (kvs.length : Int) + 1)) = none := List.find?_eq_none.mpr fun p hp => by simpa using hn p hp
    rw [List.find?_append, e]
    simp
theorem valueAt_more {kvs more : List (Int × Value)} {n : Int} {v : Value} (h : valueAt kvs n = some v) : valueAt (kvs ++ more) n = some v := by
  unfold valueAt at h ⊢
  rw [List.find?_append]
  cases e : kvs.find? (fun kv => kv.1 = n) with
  | none => rw [e] at h; cases h
  | some p => rw [e] at h; exact h
@[reducible] noncomputable def layX (w : World) (P C T : Addr) (m : Nat) (kvs : List (Int × Value)) : Led := [(P, .prop (potD C m)), (C, .prop cellsD), (T, dcD (PySem.intKind prg w) kvs)]
noncomputable def LaidIn (Y : Led) (kvs : List (Int × Value)) (u v : Value) : Prop := u = v ∨ ∃ x dx n t tg tp tg', u = .ref x ∧ (x, .obj (instObj 268 dx)) ∈ Y ∧ (dx, .prop (dicD [(Str.ofString "number", .int n t), (Str.ofString "generation", .int 0 tg)])) ∈ Y ∧ (tp, .obj (tupO [.int 0 tg', v])) ∈ Y ∧ valueAt kvs n = some (.ref tp)
section
variable {s k : Shared} {g : Heap} {n : Led}
theorem St.moreU {X0 X Y n0 : Led} {s' : Shared} (S : St k g (X0 ++ n0) s) (T : St s (hideAll s.heap (X0.map (·.1))) (Y ++ X) s') (hk : X.map (·.1) = X0.map (·.1)) : St k g (Y ++ (X ++ n0)) s' := by
  have nd0 := S.nd
  rw [List.map_append, List.nodup_append] at nd0
  obtain ⟨d1, d2, d3⟩ := nd0
  have nd := T.nd
  rw [List.map_append, List.nodup_append] at nd
  obtain ⟨nd1, nd2, nd3⟩ := nd
  have out : ∀ b, (hideAll s.heap (X0.map (·.1))).get? b = none → b ∉ X0.map (·.1) → s.heap.get? b = none := fun b h hb => by
    cases e : s.heap.get? b with
    | none => rfl
    | some o => rw [hideAll_get _ e hb] at h; cases h
  have gX : ∀ b ∈ X0.map (·.1), g.get? b = none := fun b hb => by
    obtain ⟨p, hp, rfl⟩ := List.mem_map.mp hb
    exact (S.led p (List.mem_append_left _ hp)).2
  have yX : ∀ p ∈ Y, p.1 ∉ X0.map (·.1) := fun p hp hm => by
    rw [← hk] at hm
    exact nd3 _ (List.mem_map_of_mem hp) _ hm rfl
  have n0X : ∀ p ∈ n0, p.1 ∉ X0.map (·.1) := fun p hp hm => d3 _ hm _ (List.mem_map_of_mem hp) rfl
  have yN : ∀ p ∈ Y, s.heap.get? p.1 = none := fun p hp => out _ (T.led p (List.mem_append_left _ hp)).2 (yX p hp)
  refine ⟨fun b o e => T.keep _ _ (hideAll_get _ (S.keep b o e) fun hm => by rw [gX b hm] at e; cases e), fun p hp => ?_, ?_, T.os.trans S.os, T.gens.trans S.gens⟩
  · rcases List.mem_append.mp hp with hp | hp
    · exact ⟨(T.led p (List.mem_append_left _ hp)).1, S.outside (yN p hp)⟩
    · rcases List.mem_append.mp hp with hp | hp
      · exact ⟨(T.led p (List.mem_append_right _ hp)).1, gX _ (by rw [← hk]; exact List.mem_map_of_mem hp)⟩
      · obtain ⟨⟨o, e, i⟩, z⟩ := S.led p (List.mem_append_right _ hp)
        exact ⟨⟨o, T.keep _ _ (hideAll_get _ e (n0X p hp)), i⟩, z⟩
  · rw [List.map_append, List.map_append, List.nodup_append, List.nodup_append]
    refine ⟨nd1, ⟨nd2, d2, ?_⟩, ?_⟩
    · rw [hk]; exact d3
    · intro a ha b hb hab
      subst hab
      obtain ⟨p, hp, rfl⟩ := List.mem_map.mp ha
      rcases List.mem_append.mp hb with hb | hb
      · rw [hk] at hb; exact yX p hp hb
      · obtain ⟨q, hq, e⟩ := List.mem_map.mp hb
        obtain ⟨⟨o, h, _⟩, _⟩ := S.led q (List.mem_append_right _ hq)
        rw [e, yN p hp] at h; cases h
end
theorem perm3 (Y X c r : Led) : (Y ++ (X ++ (c ++ r))).Perm (c ++ (X ++ (r ++ Y))) := by
  refine (List.perm_append_comm (l₁ := Y)).trans ?_
  rw [List.append_assoc, List.append_assoc]
  exact List.perm_append_comm_assoc X c (r ++ Y)
theorem perm2 (Y X c : Led) : (Y ++ (X ++ c)).Perm (X ++ (c ++ Y)) := by
  refine (List.perm_append_comm (l₁ := Y)).trans ?_
  rw [List.append_assoc]
theorem All2.mono {P Q : Value → Part → Prop} {vs : List Value} {ps : List Part} (h : All2 P vs ps) (k : ∀ v p, P v p → Q v p) : All2 Q vs ps := by
  induction h with
  | nil => exact .nil
  | cons a _ ih => exact .cons (k _ _ a) ih
theorem All2.all3 {P : Value → Part → Prop} {Q : Value → Option Part → Prop} {vs : List Value} {ps : List Part} (h : All2 P vs ps) (k : ∀ v p, P v p → Q v (some p)) : All3 Q vs (ps.map some) := by
  induction h with
  | nil => exact .nil
  | cons a _ ih => exact .cons (k _ _ a) ih
theorem partH.keeps {h h' : Heap} {v : Value} {p : Part} (x : partH h v p) (k : ∀ b o, h.get? b = some o → h'.get? b = some o) : partH h' v p := by
  cases p with
  | code i => exact x
  | name y => obtain ⟨a, t, e, I⟩ := x; exact ⟨a, t, e, I.keeps k⟩
theorem partH.notRef {h : Heap} {v : Value} {p : Part} (x : partH h v p) : NotRef h v := by
  cases p with
  | code i => obtain ⟨t, rfl⟩ := x; exact ⟨.int, ⟨_, _, rfl⟩, rfl, by decide⟩
  | name y => obtain ⟨a, t, rfl, I⟩ := x; exact ⟨.inst 197, ⟨_, _, rfl, I⟩, by decide, by decide⟩
theorem LaidIn.mono {Y Y' : Led} {kvs : List (Int × Value)} (more : List (Int × Value)) {u v : Value} (x : LaidIn Y kvs u v) (k : ∀ p ∈ Y, p ∈ Y') : LaidIn Y' (kvs ++ more) u v := by
  rcases x with rfl | ⟨x, dx, n, t, tg, tp, tg', e, m1, m2, m3, hv⟩
  · exact .inl rfl
  · exact .inr ⟨x, dx, n, t, tg, tp, tg', e, k _ m1, k _ m2, k _ m3, valueAt_more hv⟩
theorem LaidIn.res {h : Heap} {Y : Led} {kvs : List (Int × Value)} {u v : Value} (x : LaidIn Y kvs u v) (H : Holds Y h) (nr : NotRef h v) : ResH h kvs u v := by
  refine ⟨nr, ?_⟩
  rcases x with rfl | ⟨x, dx, n, t, tg, tp, tg', e, m1, m2, m3, hv⟩
  · exact .inl rfl
  · exact .inr ⟨x, n, t, tg, tp, tg', e, H.inst m1 m2, hv, H.tup m3⟩
noncomputable def LaidP (g : Heap) (Y : Led) (kvs : List (Int × Value)) (u : Value) (p : Part) : Prop := ∃ v, partH g v p ∧ LaidIn Y kvs u v
theorem LaidP.mono {g : Heap} {Y Y' : Led} {kvs : List (Int × Value)} (more : List (Int × Value)) {u : Value} {p : Part} (x : LaidP g Y kvs u p) (k : ∀ p ∈ Y, p ∈ Y') : LaidP g Y' (kvs ++ more) u p :=
  let ⟨v, a, b⟩ := x; ⟨v, a, b.mono more k⟩
theorem LaidP.res {g h : Heap} {Y : Led} {kvs : List (Int × Value)} {u : Value} {p : Part} (x : LaidP g Y kvs u p) (H : Holds Y h) (k : ∀ b o, g.get? b = some o → h.get? b = some o) : ResP h kvs u (some p) :=
  let ⟨v, a, b⟩ := x; ⟨v, b.res H (a.keeps k).notRef, a.keeps k⟩
noncomputable def evOf (j : Nat) (ps : List Part) : EncV :=
  if ps = [] then (if j = 0 then .none else .name (encW j)) else .dict (if j = 0 then .other else .name (encW j)) (.parts (ps.map some))
theorem encW_zero : encW 0 = Str.ofString "StandardEncoding" := rfl
theorem encOf_evOf {j : Nat} (h : j < 3) (ps : List Part) : encOf (evOf j ps) = withDiff (baseAt j) (ps.map some) := by
  unfold evOf
  by_cases p0 : ps = []
  · rw [if_pos p0]
    subst p0
    have e : withDiff (baseAt j) (List.map some []) = some (baseAt j) := by simp [withDiff]
    rw [e]
    by_cases j0 : j = 0
    · rw [if_pos j0]
      subst j0
      have := encW_base h
      rw [encW_zero, base_std] at this
      exact this
    · rw [if_neg j0]
      exact encW_base h
  · rw [if_neg p0]
    have e : (if j = 0 then BaseV.other else BaseV.name (encW j)).word = encW j := by
      by_cases j0 : j = 0
      · rw [if_pos j0, j0]; rfl
      · rw [if_neg j0]; rfl
    simp only [encOf, DiffV.list, Option.bind_some, e, encW_base h]
structure EncD (g : Heap) (kvs : List (Str × Value)) (j : Nat) (p : Addr) : Prop where
  at_ : valueAt kvs (Str.ofString "Differences") = some (.ref p)
  set_ : ∀ u, valueAt (stored kvs (Str.ofString "Differences") u) (Str.ofString "Differences") = some u
  base : ∀ u, ∃ ub, (valueAt (stored kvs (Str.ofString "Differences") u) (Str.ofString "BaseEncoding")).getD .none = ub ∧ NotRef g ub ∧ BaseH g ub (if j = 0 then .other else .name (encW j))
  few : kvs.length ≤ 3
theorem encD_of {g : Heap} {kvs : List (Str × Value)} {j : Nat} {x p : Addr}
    (h : (j = 0 ∧ kvs = [(Str.ofString "Type", .ref x), (Str.ofString "Differences", .ref p)]) ∨ (j ≠ 0 ∧ ∃ y u, kvs = [(Str.ofString "Type", .ref x), (Str.ofString "BaseEncoding", .ref y), (Str.ofString "Differences", .ref p)] ∧ InstH g y 197 [(Str.ofString "text", .str (encW j) u)])) : EncD g kvs j p := by
  have n1 : Str.ofString "Type" ≠ Str.ofString "Differences" := by decide +kernel
  have n2 : Str.ofString "Type" ≠ Str.ofString "BaseEncoding" := by decide +kernel
  have n3 : Str.ofString "Differences" ≠ Str.ofString "BaseEncoding" := by decide +kernel
  have n4 : Str.ofString "BaseEncoding" ≠ Str.ofString "Differences" := by decide +kernel
  rcases h with ⟨j0, rfl⟩ | ⟨j0, y, u, rfl, hy⟩
  · refine ⟨by simp [valueAt, List.find?_cons, n1], fun u => by simp [stored, valueAt, List.find?_cons, n1], fun u => ⟨.none, ?_, ⟨.none, rfl, rfl, by decide⟩, ?_⟩, by simp⟩
    · simp [stored, valueAt, List.find?_cons, n1, n2, n3]
    · rw [if_pos j0]; exact ⟨.none, rfl, rfl, by decide⟩
  · refine ⟨by simp [valueAt, List.find?_cons, n1, n4], fun u => by simp [stored, valueAt, List.find?_cons, n1, n4], fun u => ⟨.ref y, ?_, ⟨.inst 197, ⟨_, _, rfl, hy⟩, by decide, by decide⟩, ?_⟩, by simp⟩
    · simp [stored, valueAt, List.find?_cons, n1, n2, n3, n4]
    · rw [if_neg j0]; exact ⟨y, _, rfl, hy⟩
theorem FoundH.keeps {w : World} {h h' : Heap} {v : Value} {j : Nat} {ps : List Part} (x : FoundH w h v j ps) (k : ∀ b o, h.get? b = some o → h'.get? b = some o) : FoundH w h' v j ps := by
  rcases x with x | ⟨p0, j0, y, t, e, I⟩ | ⟨p0, D, y, t, p, vs, kf, e, hD, hy, hl, hvs, hkf⟩
  · exact .inl x
  · exact .inr (.inl ⟨p0, j0, y, t, e, I.keeps k⟩)
  · refine .inr (.inr ⟨p0, D, y, t, p, vs, kf, e, hD.keeps k, hy.keeps k, hl.at fun o e => k _ _ e, hvs.mono fun v p h => h.keeps k, ?_⟩)
    rcases hkf with h | ⟨j0, z, u, e, I⟩
    · exact .inl h
    · exact .inr ⟨j0, z, u, e, I.keeps k⟩
theorem valueAt_get {K : Type} [DecidableEq K] : ∀ {kvs : List (K × Value)} {i : Nat} {key : K} {x : Value}, (kvs.map (·.1)).Nodup → kvs[i]? = some (key, x) → valueAt kvs key = some x
  | [], i, _, _, _, h => by simp at h
  | p :: r, 0, key, x, nd, h => by
    simp at h
    subst h
    simp [valueAt, List.find?_cons]
  | p :: r, i + 1, key, x, nd, h => by
    simp only [List.map_cons, List.nodup_cons] at nd
    simp at h
    have hm : key ∈ r.map (·.1) := List.mem_map.mpr ⟨(key, x), List.mem_of_getElem? h, rfl⟩
    have ne : p.1 ≠ key := fun e => nd.1 (by rw [e]; exact hm)
    have := valueAt_get nd.2 h
    unfold valueAt at this ⊢
    rw [List.find?_cons]
    simp only [ne, decide_false]
    exact this
theorem DicH.nodup {w : World} {K : Type} [DecidableEq K] {knd : KeyKind prg w K} {h : Heap} {a : Addr} {kvs : List (K × Value)} (D : DicH knd h a kvs) : (kvs.map (·.1)).Nodup :=
  let ⟨_, _, _, _, _, _, _, _, hn⟩ := D.2; hn
noncomputable def GlyphOk (p : Option Part) : Prop := ∀ x, p = some (.name x) → x ∈ glyphWords ∨ x = Str.ofString ".notdef"
noncomputable def TabH (kvs : List (Int × Value)) (f : Int → Option Str) : Prop := ∀ c, match f c with
  | none => valueAt kvs c = none
  | some x => ∃ t, valueAt kvs c = some (.str x t)
noncomputable def plStep (st : (Int → Option Str) × Int) : Option Part → Option ((Int → Option Str) × Int)
  | some (.name x) => if 255 < st.2 then none else some ((fun c => if c = st.2 then some x else st.1 c), st.2 + 1)
  | some (.code i) => if 0 ≤ i ∧ i < 256 then some (st.1, i) else none
  | none => none
noncomputable def plTo (ps : List (Option Part)) (i : Nat) : Option ((Int → Option Str) × Int) := (ps.take i).foldlM plStep ((fun _ => none), 256)
noncomputable def plainAt (xs : List Str) (f : Int → Option Str) (c : Nat) : Str := (f c).getD (xs.getD c Str.empty)
noncomputable def plainL (xs : List Str) (ps : List (Option Part)) : Option (List Str) := (ps.foldlM plStep ((fun _ => none), 256)).map fun st => ((List.range 256).map (plainAt xs st.1)).map glyphOf
theorem plTo_succ {ps : List (Option Part)} {i : Nat} {p : Option Part} (h : ps[i]? = some p) {st : (Int → Option Str) × Int} (e : plTo ps i = some st) : plTo ps (i + 1) = plStep st p := by
  unfold plTo at e ⊢
  rw [List.take_succ, h, List.foldlM_append, e]
  simp only [Option.bind_eq_bind, Option.bind_some, Option.toList_some, List.foldlM_cons, List.foldlM_nil]
  cases plStep st p <;> rfl
theorem plainL_none {xs : List Str} {ps : List (Option Part)} {i : Nat} (e : plTo ps i = none) : plainL xs ps = none := by
  unfold plainL plTo at *
  rw [← List.take_append_drop i ps, List.foldlM_append, e]
  rfl
theorem plainL_all {xs : List Str} {ps : List (Option Part)} {st : (Int → Option Str) × Int} (e : plTo ps ps.length = some st) : plainL xs ps = some (((List.range 256).map (plainAt xs st.1)).map glyphOf) := by
  unfold plainL plTo at *
  rw [List.take_length] at e
  rw [e]; rfl
theorem stored_len (kvs : List (Int × Value)) (k : Int) (v : Value) : (stored kvs k v).length ≤ kvs.length + 1 := by
  unfold stored
  split <;> simp
theorem va_cons (p : Int × Value) (r : List (Int × Value)) (c : Int) : valueAt (p :: r) c = if p.1 = c then some p.2 else valueAt r c := by
  unfold valueAt
  rw [List.find?_cons]
  by_cases q : p.1 = c
  · simp [q]
  · simp [q]
theorem va_map (k : Int) (v : Value) (c : Int) : ∀ kvs : List (Int × Value), valueAt (kvs.map fun kv => if kv.1 = k then (kv.1, v) else kv) c = if c = k then (valueAt kvs k).map (fun _ => v) else valueAt kvs c
  | [] => by by_cases q : c = k <;> simp [valueAt, q]
  | p :: r => by
    rw [List.map_cons, va_cons, va_map k v c r, va_cons, va_cons]
    by_cases q : c = k
    · subst q
      by_cases p1 : p.1 = c
      · simp [p1]
      · simp [p1]
    · by_cases p1 : p.1 = k
      · subst p1
        simp [q, Ne.symm q]
      · simp [q, p1]
theorem va_app (k : Int) (v : Value) (c : Int) : ∀ kvs : List (Int × Value), (∀ p ∈ kvs, p.1 ≠ k) → valueAt (kvs ++ [(k, v)]) c = if c = k then some v else valueAt kvs c
  | [], _ => by
    rw [List.nil_append, va_cons]
    by_cases q : c = k
    · simp [q]
    · simp [q, Ne.symm q]
  | p :: r, h => by
    have hp := h p (.head _)
    rw [List.cons_append, va_cons, va_app k v c r (fun p hp => h p (.tail _ hp)), va_cons]
    by_cases q : c = k
    · subst q; simp [hp]
    · simp [q]
theorem valueAt_stored (kvs : List (Int × Value)) (k : Int) (v : Value) (c : Int) : valueAt (stored kvs k v) c = if c = k then some v else valueAt kvs c := by
  unfold stored
  split
  · rename_i h
    rw [va_map]
    have : ∀ l : List (Int × Value), (l.any fun kv => kv.1 = k) = true → ∃ u, valueAt l k = some u := by
      intro l
      induction l with
      | nil => intro h; cases h
      | cons p r ih =>
        intro h
        rw [va_cons]
        by_cases q : p.1 = k
        · exact ⟨p.2, if_pos q⟩
        · rw [if_neg q]
          simp only [List.any_cons, decide_eq_false q, Bool.false_or] at h
          exact ih h
    obtain ⟨u, e⟩ := this kvs h
    rw [e]; rfl
  · rename_i h
    simp only [List.any_eq_true, decide_eq_true_eq, not_exists, not_and] at h
    exact va_app k v c kvs h
theorem TabH.set {kvs : List (Int × Value)} {f : Int → Option Str} (h : TabH kvs f) (k : Int) (x : Str) (t : Tok) : TabH (stored kvs k (.str x t)) (fun c => if c = k then some x else f c) := fun c => by
  have := h c
  by_cases q : c = k
  · simp only [q, if_true, valueAt_stored]
    exact ⟨t, rfl⟩
  · simp only [valueAt_stored, if_neg q]
    exact this
section
variable {w : World} {A : Around} {d : Nat} {s k : Shared} {g : Heap} {n : Led} {R : Result → Shared → Prop}
theorem St.touched {fs : List Addr} {s' : Shared} (S : St k g n s) (hf : ∀ a ∈ fs, ∃ d, (a, d) ∈ n ∧ d.slotFree) (x : Eff (frL s.heap fs) s s') : St k g n s' := by
  refine ⟨fun b o eb => x.keep _ _ (S.keep b o eb) fun hm => ?_, fun p hp => ⟨?_, (S.led p hp).2⟩, S.nd, x.os.trans S.os, x.gens.trans S.gens⟩
  · rw [frL_keys] at hm
    obtain ⟨d, hd, _⟩ := hf _ hm
    rw [(S.led _ hd).2] at eb; cases eb
  · obtain ⟨⟨o, ho, hi⟩, _⟩ := S.led p hp
    by_cases hm : p.1 ∈ fs
    · obtain ⟨d, hd, hs⟩ := hf _ hm
      have : p.2 = d := nodup_key S.nd (a := p.1) (by exact hp) hd
      obtain ⟨o', ho', o₀, h6, h7⟩ := x.led (p.1, frD s.heap p.1) (List.mem_map_of_mem (f := fun a => (a, frD s.heap a)) hm)
      rw [ho] at h6; cases h6
      exact ⟨o', ho', this ▸ hs o o' h7 (this ▸ hi)⟩
    · exact ⟨o, x.keep _ _ ho (by rw [frL_keys]; exact hm), hi⟩
theorem ResP.keeps {h h' : Heap} {kvs : List (Int × Value)} {v : Value} {p : Option Part} (x : ResP h kvs v p) (k : ∀ b o, h.get? b = some o → h'.get? b = some o) : ResP h' kvs v p := let ⟨u, a, b⟩ := x; ⟨u, a.keeps k, b.keeps k⟩
theorem BaseH.keeps {h h' : Heap} {u : Value} {b : BaseV} (x : BaseH h u b) (k : ∀ b o, h.get? b = some o → h'.get? b = some o) : BaseH h' u b := by
  cases b with
  | other => obtain ⟨ty, a, b⟩ := x; exact ⟨ty, a.keeps k, b⟩
  | name y => obtain ⟨a, t, e, I⟩ := x; exact ⟨a, t, e, I.keeps k⟩
theorem DiffH.keeps {h h' : Heap} {kvs : List (Int × Value)} {u : Value} {dv : DiffV} (x : DiffH h kvs u dv) (k : ∀ b o, h.get? b = some o → h'.get? b = some o) : DiffH h' kvs u dv := by
  cases dv with
  | none => exact x
  | bad => obtain ⟨ty, a, b⟩ := x; exact ⟨ty, a.keeps k, b⟩
  | parts ps => obtain ⟨a, vs, e, l, q, z⟩ := x; exact ⟨a, vs, e, l.at fun o e => k _ _ e, q.mono fun v p h => h.keeps k, z⟩
theorem EncH.keeps {w : World} {h h' : Heap} {kvs : List (Int × Value)} {u : Value} {ev : EncV} (x : EncH w h kvs u ev) (k : ∀ b o, h.get? b = some o → h'.get? b = some o) : EncH w h' kvs u ev := by
  cases ev with
  | none => exact x
  | name y => obtain ⟨a, t, e, I⟩ := x; exact ⟨a, t, e, I.keeps k⟩
  | other => obtain ⟨ty, a, b⟩ := x; exact ⟨ty, a.keeps k, b⟩
  | dict b dv => obtain ⟨D, hk, e, hD, ⟨ub, r1, h1⟩, ⟨ud, r2, h2⟩⟩ := x; exact ⟨D, hk, e, hD.keeps k, ⟨ub, r1.keeps k, h1.keeps k⟩, ⟨ud, r2.keeps k, h2.keeps k⟩⟩
end
theorem st2 (a v : Value) : stored [(Str.ofString "Type", a)] (Str.ofString "BaseEncoding") v = [(Str.ofString "Type", a), (Str.ofString "BaseEncoding", v)] := by
  have : Str.ofString "Type" ≠ Str.ofString "BaseEncoding" := by decide +kernel
  simp [stored, this]
theorem va1 (a : Value) : (valueAt [(Str.ofString "Type", a)] (Str.ofString "BaseEncoding")).getD .none = .none := by
  have : Str.ofString "Type" ≠ Str.ofString "BaseEncoding" := by decide +kernel
  simp [valueAt, this]
theorem va2 (a v : Value) : (valueAt [(Str.ofString "Type", a), (Str.ofString "BaseEncoding", v)] (Str.ofString "BaseEncoding")).getD .none = v := by
  have : Str.ofString "Type" ≠ Str.ofString "BaseEncoding" := by decide +kernel
  simp [valueAt, List.find?_cons, this]
theorem va3 (a v : Value) : valueAt [(Str.ofString "Type", a), (Str.ofString "BaseEncoding", v)] (Str.ofString "Differences") = none := by
  have h1 : Str.ofString "Type" ≠ Str.ofString "Differences" := by decide +kernel
  have h2 : Str.ofString "BaseEncoding" ≠ Str.ofString "Differences" := by decide +kernel
  simp [valueAt, List.find?_cons, h1, h2]
theorem va4 (a : Value) : valueAt [(Str.ofString "Type", a)] (Str.ofString "Differences") = none := by
  have h1 : Str.ofString "Type" ≠ Str.ofString "Differences" := by decide +kernel
  simp [valueAt, h1]
structure BasesH (h : Heap) (bl : Addr) : Prop where
  all : ∃ bs : List Addr, h.IsList bl (bs.map Value.ref).toArray ∧ bs.length = 3 ∧ ∀ j b, bs[j]? = some b → ∃ vs, h.IsList b vs.toArray ∧ Strs vs (baseAt j)
theorem BasesH.keeps {h h' : Heap} {bl : Addr} (x : BasesH h bl) (k : ∀ b o, h.get? b = some o → h'.get? b = some o) : BasesH h' bl :=
  let ⟨bs, a, b, c⟩ := x.all; ⟨bs, a.at fun o e => k _ _ e, b, fun j q e => let ⟨vs, l, s⟩ := c j q e; ⟨vs, l.at fun o e => k _ _ e, s⟩⟩
noncomputable def lastOf (u : List Nat) : Int := if u = [] then -2 else (u.getD (u.length - 1) 0 : Nat)
theorem getD_app (u : List Nat) (c : Nat) {k : Nat} (h : k < u.length) : (u ++ [c]).getD k 0 = u.getD k 0 := by
  rw [List.getD_eq_getElem?_getD, List.getD_eq_getElem?_getD, List.getElem?_append_left h]
theorem getD_end (u : List Nat) (c : Nat) : (u ++ [c]).getD u.length 0 = c := by
  rw [List.getD_eq_getElem?_getD, List.getElem?_append_right (Nat.le_refl _)]
  simp
theorem dueTo_app (xs : List Str) (u : List Nat) (c : Nat) : ∀ k, k ≤ u.length → dueTo xs (u ++ [c]) k = dueTo xs u k
  | 0, _ => rfl
  | k + 1, h => by
    rw [dueTo_succ, dueTo_succ, dueTo_app xs u c k (by omega)]
    unfold dueStep
    rw [getD_app u c (show k < u.length by omega)]
    by_cases k0 : k = 0
    · simp [k0]
    · rw [getD_app u c (show k - 1 < u.length by omega)]
theorem unl_lt {xs ys : List Str} {i c : Nat} (h : c ∈ unl xs ys i) : c < i := List.mem_range.mp (List.mem_filter.mp h).1
theorem due_diff (xs ys : List Str) : ∀ i, diffTo xs ys i = (lastOf (unl xs ys i), dueTo xs (unl xs ys i) (unl xs ys i).length)
  | 0 => rfl
  | i + 1 => by
    rw [diffTo_succ, due_diff xs ys i, unl_succ]
    unfold diffStep
    by_cases q : xs.getD i Str.empty = ys.getD i Str.empty
    · rw [if_pos q, if_neg (show ¬ (xs.getD i Str.empty != ys.getD i Str.empty) = true by simpa using q), List.append_nil]
    · rw [if_neg q, if_pos (show (xs.getD i Str.empty != ys.getD i Str.empty) = true by simpa using q)]
      have hlt : ∀ c ∈ unl xs ys i, c < i := fun c h => unl_lt h
      generalize unl xs ys i = u at *
      have e1 : lastOf (u ++ [i]) = (i : Int) := by
        unfold lastOf
        rw [if_neg (by simp), List.length_append, show u.length + [i].length - 1 = u.length from rfl, getD_end]
      rw [e1, List.length_append, show u.length + [i].length = u.length + 1 from rfl, dueTo_succ, dueTo_app xs u i _ (Nat.le_refl _)]
      unfold dueStep
      rw [getD_end]
      refine Prod.ext rfl ?_
      show _ ++ _ ++ _ = _ ++ _ ++ _
      have e2 : (if (i : Int) = lastOf u + 1 then ([] : List Part) else [.code i]) = if u.length = 0 ∨ (u ++ [i]).getD (u.length - 1) 0 + 1 < i then [.code (i : Int)] else [] := by
        by_cases u0 : u = []
        · subst u0
          rw [if_neg (by unfold lastOf; rw [if_pos rfl]; omega), if_pos (.inl rfl)]
        · have hl : 0 < u.length := List.length_pos_iff.mpr u0
          have hu : u.getD (u.length - 1) 0 < i := by
            refine hlt _ ?_
            rw [List.getD_eq_getElem?_getD, List.getElem?_eq_getElem (by omega)]
            exact List.getElem_mem _
          rw [getD_app u i (by omega)]
          unfold lastOf
          rw [if_neg u0]
          generalize u.getD (u.length - 1) 0 = l at *
          by_cases z : (i : Int) = (l : Int) + 1
          · rw [if_pos z, if_neg (by omega)]
          · rw [if_neg z, if_pos (by omega)]
      rw [← e2]
theorem dueL_eq (xs ys : List Str) : dueL xs ys = diffL xs ys := by
  have := due_diff xs ys 256
  unfold diffL
  rw [this]
  rfl
noncomputable def Plain (xs : List Str) : Prop := ∀ x ∈ xs, x ≠ Str.ofString ".notdef"
theorem glyph_name {x : Str} (h : x ≠ Str.ofString ".notdef") : glyphOf (nameOf x) = x := by
  unfold nameOf
  split
  · rename_i q; rw [q]; exact if_pos rfl
  · exact if_neg h
theorem glyph_plain {x : Str} (h : x ≠ Str.ofString ".notdef") : glyphOf x = x := if_neg h
theorem take_drop_set {xs ys : List Str} {i : Nat} (hx : i < xs.length) (h : xs.length = ys.length) : (xs.take i ++ ys.drop i).set i (xs.getD i Str.empty) = xs.take (i + 1) ++ ys.drop (i + 1) := by
  rw [List.set_append_right _ _ (by rw [List.length_take]; omega), List.length_take, Nat.min_eq_left (by omega), Nat.sub_self, List.drop_eq_getElem_cons (by omega), List.set_cons_zero, List.take_succ_eq_append_getElem hx, List.append_assoc]
  rw [List.getD_eq_getElem?_getD, List.getElem?_eq_getElem hx]
  rfl
theorem diff_back (xs ys : List Str) (hx : xs.length = 256) (hy : ys.length = 256) (hp : Plain xs) : ∀ i, i ≤ 256 → ((diffTo xs ys i).2.map some).foldlM wdStep (ys, -1) = some (xs.take i ++ ys.drop i, (diffTo xs ys i).1 + 1)
  | 0, _ => by simp [diffTo]
  | i + 1, hi => by
    have ih := diff_back xs ys hx hy hp i (by omega)
    rw [diffTo_succ]
    unfold diffStep
    have hset := take_drop_set (xs := xs) (ys := ys) (i := i) (by omega) (by omega)
    by_cases q : xs.getD i Str.empty = ys.getD i Str.empty
    · rw [if_pos q, ih, ← hset]
      refine congrArg some (Prod.ext ?_ rfl)
      show _ = (xs.take i ++ ys.drop i).set i (xs.getD i Str.empty)
      rw [q, List.set_append_right _ _ (by rw [List.length_take]; omega), List.length_take, Nat.min_eq_left (by omega), Nat.sub_self, List.drop_eq_getElem_cons (by omega), List.set_cons_zero]
      rw [List.getD_eq_getElem?_getD, List.getElem?_eq_getElem (by omega)]
      rfl
    · rw [if_neg q]
      have hn : xs.getD i Str.empty ≠ Str.ofString ".notdef" := by
        refine hp _ ?_
        rw [List.getD_eq_getElem?_getD, List.getElem?_eq_getElem (by omega)]
        exact List.getElem_mem _
      have hname : ∀ st : List Str × Int, st.1 = xs.take i ++ ys.drop i → st.2 = (i : Int) → wdStep st (some (.name (nameOf (xs.getD i Str.empty)))) = some (xs.take (i + 1) ++ ys.drop (i + 1), (i : Int) + 1) := fun st e1 e2 => by
        unfold wdStep
        simp only [e1, e2, glyph_name hn]
        rw [if_pos (by omega), Int.toNat_natCast, hset]
      simp only [List.map_append, List.foldlM_append, ih]
      by_cases z : (i : Int) = (diffTo xs ys i).1 + 1
      · rw [if_pos z]
        simp only [List.map_nil, List.foldlM_nil, Option.bind_eq_bind, Option.bind_some, List.map_cons, List.foldlM_cons, Option.pure_def]
        rw [hname _ rfl z.symm]
        rfl
      · rw [if_neg z]
        have hc : wdStep (xs.take i ++ ys.drop i, (diffTo xs ys i).1 + 1) (some (.code i)) = some (xs.take i ++ ys.drop i, (i : Int)) := by
          unfold wdStep
          exact if_pos (by omega)
        simp only [List.map_nil, List.foldlM_nil, Option.bind_eq_bind, Option.bind_some, List.map_cons, List.foldlM_cons, Option.pure_def, hc]
        rw [hname _ rfl rfl]
        rfl
theorem withDiff_diffL {xs ys : List Str} (hx : xs.length = 256) (hy : ys.length = 256) (hp : Plain xs) : withDiff ys ((diffL xs ys).map some) = some xs := by
  unfold withDiff diffL
  rw [diff_back xs ys hx hy hp 256 (Nat.le_refl _)]
  show some _ = some _
  rw [List.take_of_length_le (by omega), List.drop_eq_nil_of_le (by omega), List.append_nil]
noncomputable def PRel (xs : List Str) (st : List Str × Int) (pt : (Int → Option Str) × Int) : Prop :=
  st.1 = (List.range 256).map (fun c => glyphOf (plainAt xs pt.1 c)) ∧ ((st.2 = -1 ∧ pt.2 = 256) ∨ (st.2 = pt.2 ∧ 0 ≤ pt.2))
theorem pset (xs : List Str) (f : Int → Option Str) (sp : Int) (x : Str) (h0 : 0 ≤ sp) (h1 : sp ≤ 255) :
    ((List.range 256).map (fun c => glyphOf (plainAt xs f c))).set sp.toNat (glyphOf x) = (List.range 256).map (fun c => glyphOf (plainAt xs (fun c => if c = sp then some x else f c) c)) := by
  refine List.ext_getElem (by simp) fun i h2 h3 => ?_
  rw [List.getElem_set, List.getElem_map, List.getElem_range]
  rw [List.getElem_map, List.getElem_range]
  unfold plainAt
  dsimp only
  by_cases q : sp.toNat = i
  · rw [if_pos q, if_pos (show (i : Int) = sp by omega)]; rfl
  · rw [if_neg q, if_neg (show ¬ (i : Int) = sp by omega)]
theorem fold_rel (xs : List Str) : ∀ (ps : List (Option Part)) (st : List Str × Int) (pt : (Int → Option Str) × Int), PRel xs st pt →
    (ps.foldlM plStep pt = none ∧ ps.foldlM wdStep st = none) ∨ ∃ pt' st', ps.foldlM plStep pt = some pt' ∧ ps.foldlM wdStep st = some st' ∧ PRel xs st' pt'
  | [], st, pt, h => .inr ⟨pt, st, rfl, rfl, h⟩
  | p :: r, st, pt, h => by
    have go : (plStep pt p = none ∧ wdStep st p = none) ∨ ∃ pt' st', plStep pt p = some pt' ∧ wdStep st p = some st' ∧ PRel xs st' pt' := by
      obtain ⟨h1, h2⟩ := h
      cases p with
      | none => exact .inl ⟨rfl, rfl⟩
      | some p =>
        cases p with
        | code i =>
          unfold plStep wdStep
          by_cases q : 0 ≤ i ∧ i < 256
          · refine .inr ⟨_, _, if_pos q, if_pos (by omega), h1, .inr ⟨rfl, q.1⟩⟩
          · exact .inl ⟨if_neg q, if_neg (by omega)⟩
        | name x =>
          unfold plStep wdStep
          rcases h2 with ⟨e1, e2⟩ | ⟨e1, e2⟩
          · exact .inl ⟨if_pos (by omega), if_neg (by omega)⟩
          · by_cases q : 255 < pt.2
            · exact .inl ⟨if_pos q, if_neg (by omega)⟩
            · refine .inr ⟨_, _, if_neg q, if_pos (by omega), ?_, .inr ⟨by show st.2 + 1 = pt.2 + 1; omega, by show 0 ≤ pt.2 + 1; omega⟩⟩
              show st.1.set st.2.toNat (glyphOf x) = _
              rw [h1, e1]
              exact pset xs pt.1 pt.2 x e2 (by omega)
    rw [List.foldlM_cons, List.foldlM_cons]
    rcases go with ⟨e1, e2⟩ | ⟨pt', st', e1, e2, h'⟩
    · rw [e1, e2]; exact .inl ⟨rfl, rfl⟩
    · rw [e1, e2]; exact fold_rel xs r st' pt' h'
theorem plain_with {xs : List Str} (hx : xs.length = 256) (hp : Plain xs) (ps : List (Option Part)) : plainL xs ps = withDiff xs ps := by
  have h0 : PRel xs (xs, -1) ((fun _ => none), 256) := by
    refine ⟨?_, .inl ⟨rfl, rfl⟩⟩
    refine List.ext_getElem (by simp [hx]) fun i h1 h2 => ?_
    rw [List.getElem_map, List.getElem_range]
    have e : plainAt xs (fun _ => none) i = xs[i] := by
      show xs.getD i Str.empty = _
      rw [List.getD_eq_getElem?_getD, List.getElem?_eq_getElem h1]; rfl
    rw [e, glyph_plain (hp _ (List.getElem_mem h1))]
  unfold plainL withDiff
  rcases fold_rel xs ps _ _ h0 with ⟨e1, e2⟩ | ⟨pt', st', e1, e2, h⟩
  · rw [e1, e2]; rfl
  · rw [e1, e2]
    show some (List.map glyphOf (List.map (plainAt xs pt'.1) (List.range 256))) = some st'.1
    rw [h.1, List.map_map]
    rfl
theorem best_index (xs : List Str) : (bestTo xs 3 = 0 ∧ sizeAt xs 0 ≤ sizeAt xs 1 ∧ sizeAt xs 0 ≤ sizeAt xs 2) ∨ (bestTo xs 3 = 1 ∧ sizeAt xs 1 < sizeAt xs 0 ∧ sizeAt xs 1 ≤ sizeAt xs 2) ∨ (bestTo xs 3 = 2 ∧ sizeAt xs 2 < sizeAt xs 0 ∧ sizeAt xs 2 < sizeAt xs 1) := by
  have e1 : bestTo xs 1 = 0 := rfl
  have e2 := bestTo_next xs (i := 1) (by decide)
  have e3 := bestTo_next xs (i := 2) (by decide)
  rw [e1] at e2
  by_cases q : sizeAt xs 1 < sizeAt xs 0
  · rw [if_pos q] at e2
    rw [e2] at e3
    by_cases r : sizeAt xs 2 < sizeAt xs 1
    · rw [if_pos r] at e3; exact .inr (.inr ⟨e3, by omega, r⟩)
    · rw [if_neg r] at e3; exact .inr (.inl ⟨e3, q, by omega⟩)
  · rw [if_neg q] at e2
    rw [e2] at e3
    by_cases r : sizeAt xs 2 < sizeAt xs 0
    · rw [if_pos r] at e3; exact .inr (.inr ⟨e3, r, by omega⟩)
    · rw [if_neg r] at e3; exact .inl ⟨e3, by omega, by omega⟩
noncomputable def wsOf (l : List Char) : List Str := (wordsGo none (l.map Char.toNat)).map (⟨·.toArray⟩)
theorem words_of {i : Nat} {l : List Char} (e : strAt i = Str.ofString (String.ofList l)) : Txt.words (strAt i) = wsOf l := by
  rw [e, ofLit, words_eq]
  rfl
noncomputable def gB (x : Str) : Bool := PyData.strOk x && x != Str.ofString ".notdef"
theorem t20 : ∃ l : List Char, strAt 20 = Str.ofString (String.ofList l) ∧ ((wsOf l).length == 33 && (wsOf l).all gB) = true := ⟨_, rfl, by decide +kernel⟩
theorem t21 : ∃ l : List Char, strAt 21 = Str.ofString (String.ofList l) ∧ ((wsOf l).length == 6 && (wsOf l).all gB) = true := ⟨_, rfl, by decide +kernel⟩
theorem t22 : ∃ l : List Char, strAt 22 = Str.ofString (String.ofList l) ∧ ((wsOf l).length == 4 && (wsOf l).all gB) = true := ⟨_, rfl, by decide +kernel⟩
theorem t23 : ∃ l : List Char, strAt 23 = Str.ofString (String.ofList l) ∧ ((wsOf l).length == 63 && ((wsOf l).all fun x => Nat.ble x.length 1000 && gB x && gB (Txt.lower x))) = true := ⟨_, rfl, by decide +kernel⟩
theorem t24 : ∃ l : List Char, strAt 24 = Str.ofString (String.ofList l) ∧ (wwOk 256 0 (wsOf l) && (wsOf l).all gB) = true := ⟨_, rfl, by decide +kernel⟩
theorem t25 : ∃ l : List Char, strAt 25 = Str.ofString (String.ofList l) ∧ (wwOk 161 0 (wsOf l) && (wsOf l).all gB) = true := ⟨_, rfl, by decide +kernel⟩
theorem t26 : ∃ l : List Char, strAt 26 = Str.ofString (String.ofList l) ∧ (wwOk 256 0 (wsOf l) && (wsOf l).all gB) = true := ⟨_, rfl, by decide +kernel⟩
theorem tchr : (chrs 65 26 ++ chrs 97 26).all gB = true := by decide +kernel
theorem tfew : [Str.ofString "", Str.ofString "divide", Str.ofString "ydieresis", Str.ofString "bullet"].all gB = true := by decide +kernel
theorem len_of {i n : Nat} {q : List Str → Bool} (h : ∃ l : List Char, strAt i = Str.ofString (String.ofList l) ∧ ((wsOf l).length == n && q (wsOf l)) = true) : (Txt.words (strAt i)).length = n ∧ q (Txt.words (strAt i)) = true := by
  obtain ⟨l, e, h⟩ := h
  rw [words_of e]
  simpa using h
theorem ww_of {i n : Nat} {q : List Str → Bool} (h : ∃ l : List Char, strAt i = Str.ofString (String.ofList l) ∧ (wwOk n 0 (wsOf l) && q (wsOf l)) = true) : wwOk n 0 (Txt.words (strAt i)) = true ∧ q (Txt.words (strAt i)) = true := by
  obtain ⟨l, e, h⟩ := h
  rw [words_of e]
  simpa using h
theorem k23 : (Txt.words (strAt 23)).length = 63 ∧ ((Txt.words (strAt 23)).all fun x => Nat.ble x.length 1000 && gB x && gB (Txt.lower x)) = true := len_of (q := fun ws => ws.all fun x => Nat.ble x.length 1000 && gB x && gB (Txt.lower x)) t23
theorem baseOk : BaseOk where
  ascii := by
    have h20 := (len_of (q := fun ws => ws.all gB) t20).1
    have h21 := (len_of (q := fun ws => ws.all gB) t21).1
    have h22 := (len_of (q := fun ws => ws.all gB) t22).1
    unfold asciiL
    simp only [List.length_append, chrs_len, h20, h21, h22]
  latin := by
    refine ⟨k23.1, fun x hx => ?_⟩
    have := List.all_eq_true.mp k23.2 x hx
    simp only [Bool.and_eq_true] at this
    exact Nat.le_of_ble_eq_true this.1.1
  w24 := (ww_of (q := fun ws => ws.all gB) t24).1
  w25 := (ww_of (q := fun ws => ws.all gB) t25).1
  w26 := (ww_of (q := fun ws => ws.all gB) t26).1
noncomputable def G (x : Str) : Prop := gB x = true
theorem ww_all {P : Str → Prop} : ∀ (ws : List Str) (st : List Str × Nat), (∀ x ∈ ws, P x) → (∀ x ∈ st.1, P x) → ∀ x ∈ (ws.foldl wwStep st).1, P x
  | [], _, _, h => h
  | w :: r, st, hw, h => by
    refine ww_all r (wwStep st w) (fun x hx => hw x (.tail _ hx)) ?_
    unfold wwStep
    split
    · exact h
    · intro x hx
      rcases List.mem_or_eq_of_mem_set hx with h' | rfl
      · exact h x h'
      · exact hw _ (.head _)
theorem few (x : Str) (h : x ∈ [Str.ofString "", Str.ofString "divide", Str.ofString "ydieresis", Str.ofString "bullet"]) : G x := List.all_eq_true.mp tfew x h
theorem wordsG {i : Nat} (h : (Txt.words (strAt i)).all gB = true) : ∀ x ∈ Txt.words (strAt i), G x := fun x hx => List.all_eq_true.mp h x hx
theorem asciiG : ∀ x ∈ asciiL, G x := by
  unfold asciiL
  intro x hx
  simp only [List.mem_append] at hx
  rcases hx with (((h | h) | h) | h) | h
  · exact wordsG (len_of (q := fun ws => ws.all gB) t20).2 x h
  · exact List.all_eq_true.mp tchr x (List.mem_append_left _ h)
  · exact wordsG (len_of (q := fun ws => ws.all gB) t21).2 x h
  · exact List.all_eq_true.mp tchr x (List.mem_append_right _ h)
  · exact wordsG (len_of (q := fun ws => ws.all gB) t22).2 x h
theorem names0G : ∀ x ∈ names0, G x := by
  unfold names0
  intro x hx
  simp only [List.mem_append] at hx
  rcases hx with (h | h) | h
  · rw [(List.mem_replicate.mp h).2]; exact few _ (.head _)
  · exact asciiG x h
  · rw [(List.mem_replicate.mp h).2]; exact few _ (.head _)
theorem latinG : ∀ x ∈ latinL, G x := by
  unfold latinL
  have hw : ∀ x ∈ latinW, G x ∧ G (Txt.lower x) := fun x hx => by
    have := List.all_eq_true.mp k23.2 x hx
    simp only [Bool.and_eq_true] at this
    exact ⟨this.1.2, this.2⟩
  intro x hx
  simp only [List.mem_append] at hx
  rcases hx with (h | h) | h
  · exact (hw x h).1
  · rcases List.mem_or_eq_of_mem_set h with h | rfl
    · obtain ⟨y, hy, rfl⟩ := List.mem_map.mp h
      exact (hw y (List.mem_of_mem_drop (List.mem_of_mem_take hy))).2
    · exact few _ (.tail _ (.head _))
  · rw [List.mem_singleton.mp h]; exact few _ (.tail _ (.tail _ (.head _)))
theorem baseG {x : Str} {ys : List Str} (h : baseOf x = some ys) : ∀ y ∈ ys, G y := by
  have hw : ∀ {i : Nat} {xs : List Str}, (Txt.words (strAt i)).all gB = true → (∀ x ∈ xs, G x) → ∀ y ∈ withWords xs (Txt.words (strAt i)), G y := fun h1 h2 => ww_all _ _ (wordsG h1) h2
  unfold baseOf at h
  split at h
  · cases h; exact hw (ww_of (q := fun ws => ws.all gB) t24).2 names0G
  · split at h
    · cases h; exact hw (ww_of (q := fun ws => ws.all gB) t26).2 names0G
    · split at h
      · cases h
        have hN : ∀ y ∈ winN, G y := by
          unfold winN
          intro y hy
          rcases List.mem_append.mp hy with h | h
          · exact hw (ww_of (q := fun ws => ws.all gB) t25).2 (fun x hx => names0G x (List.mem_of_mem_take hx)) y h
          · exact latinG y h
        unfold winL
        intro y hy
        rcases List.mem_append.mp hy with h | h
        · exact hN y (List.mem_of_mem_take h)
        · obtain ⟨z, hz, rfl⟩ := List.mem_map.mp h
          unfold bulletOf
          split
          · exact few _ (.tail _ (.tail _ (.tail _ (.head _))))
          · exact hN z (List.mem_of_mem_drop hz)
      · cases h
theorem G.ok {x : Str} (h : G x) : PyData.strOk x = true := by unfold G gB at h; simp only [Bool.and_eq_true] at h; exact h.1
theorem G.ne {x : Str} (h : G x) : x ≠ Str.ofString ".notdef" := by unfold G gB at h; simp only [Bool.and_eq_true, bne_iff_ne] at h; exact h.2
theorem ok_notdef : PyData.strOk (Str.ofString ".notdef") = true := by decide +kernel
theorem ok_empty : PyData.strOk Str.empty = true := by decide +kernel
theorem diffTo_ok {xs : List Str} (h : okL xs) (ys : List Str) : ∀ i x, Part.name x ∈ (diffTo xs ys i).2 → PyData.strOk x = true
  | 0, x, hx => by simp [diffTo] at hx
  | i + 1, x, hx => by
    rw [diffTo_succ] at hx
    unfold diffStep at hx
    split at hx
    · exact diffTo_ok h ys i x hx
    · simp only [List.mem_append, List.mem_singleton] at hx
      rcases hx with (hx | hx) | hx
      · exact diffTo_ok h ys i x hx
      · split at hx <;> simp at hx
      · have e : x = nameOf (xs.getD i Str.empty) := by injection hx
        rw [e]
        unfold nameOf
        split
        · exact ok_notdef
        · rw [List.getD_eq_getElem?_getD]
          cases q : xs[i]? with
          | none => exact ok_empty
          | some y => exact h y (List.mem_of_getElem? q)
theorem diffL_ok {xs : List Str} (h : okL xs) (ys : List Str) : ∀ x, Part.name x ∈ diffL xs ys → PyData.strOk x = true := fun x hx => by unfold diffL at hx; exact diffTo_ok h ys 256 x hx
theorem best_idx {xs : List Str} {M : Int} (hm : M ∈ [(sizeAt xs 0 : Int), (sizeAt xs 1 : Int), (sizeAt xs 2 : Int)]) (hl : ∀ a ∈ [(sizeAt xs 0 : Int), (sizeAt xs 1 : Int), (sizeAt xs 2 : Int)], M ≤ a) :
    [(sizeAt xs 0 : Int), (sizeAt xs 1 : Int), (sizeAt xs 2 : Int)].idxOf M = bestTo xs 3 := by
  have hb := best_index xs
  have l0 := hl _ (.head _)
  have l1 := hl _ (.tail _ (.head _))
  have l2 := hl _ (.tail _ (.tail _ (.head _)))
  simp only [List.mem_cons, List.not_mem_nil, or_false] at hm
  generalize sizeAt xs 0 = a at *
  generalize sizeAt xs 1 = b at *
  generalize sizeAt xs 2 = c at *
  rw [List.idxOf_cons, List.idxOf_cons, List.idxOf_cons]
  rcases hb with ⟨e, h1, h2⟩ | ⟨e, h1, h2⟩ | ⟨e, h1, h2⟩
  · rw [e]
    have : (a : Int) = M := by omega
    simp [this]
  · rw [e]
    have h3 : ¬ (a : Int) = M := by omega
    have h4 : (b : Int) = M := by omega
    rw [beq_false_of_ne h3, h4, beq_self_eq_true]; rfl
  · rw [e]
    have h3 : ¬ (a : Int) = M := by omega
    have h4 : ¬ (b : Int) = M := by omega
    have h5 : (c : Int) = M := by omega
    rw [beq_false_of_ne h3, beq_false_of_ne h4, h5, beq_self_eq_true]; rfl
theorem perm2_cases {a b : Str} {xs : List Str} (h : xs.Perm [a, b]) : xs = [a, b] ∨ xs = [b, a] := by
  match xs, h with
  | [], h => exact absurd h.length_eq (by simp)
  | [p], h => exact absurd h.length_eq (by simp)
  | p :: q :: r :: t, h => exact absurd h.length_eq (by simp)
  | [p, q], h =>
    have hp : p ∈ [a, b] := h.mem_iff.mp (.head _)
    simp only [List.mem_cons, List.not_mem_nil, or_false] at hp
    rcases hp with rfl | rfl
    · have := h.cons_inv
      rw [List.perm_singleton] at this
      rw [this]; exact .inl rfl
    · have := (h.trans (List.Perm.swap _ _ _)).cons_inv
      rw [List.perm_singleton] at this
      rw [this]; exact .inr rfl
theorem perm3_cases {a b c : Str} {xs : List Str} (h : xs.Perm [a, b, c]) : xs = [a, b, c] ∨ xs = [a, c, b] ∨ xs = [b, a, c] ∨ xs = [b, c, a] ∨ xs = [c, a, b] ∨ xs = [c, b, a] := by
  match xs, h with
  | [], h => exact absurd h.length_eq (by simp)
  | p :: r, h =>
    have hp : p ∈ [a, b, c] := h.mem_iff.mp (.head _)
    simp only [List.mem_cons, List.not_mem_nil, or_false] at hp
    rcases hp with rfl | rfl | rfl
    · rcases perm2_cases h.cons_inv with e | e <;> simp [e]
    · rcases perm2_cases (h.trans (List.Perm.swap _ _ _)).cons_inv with e | e <;> simp [e]
    · have h2 : [a, b, p].Perm [p, a, b] := (List.perm_middle (l₁ := [a, b]) (l₂ := []) (a := p))
      rcases perm2_cases (h.trans h2).cons_inv with e | e <;> simp [e]
theorem sorted_2 {xs : List Str} (h : xs.Perm [Str.ofString "Type", Str.ofString "Differences"]) (hs : sortedS xs = true) : xs = [Str.ofString "Differences", Str.ofString "Type"] := by
  rcases perm2_cases h with rfl | rfl
  · exact absurd hs (by decide +kernel)
  · rfl
theorem sorted_3 {xs : List Str} (h : xs.Perm [Str.ofString "Type", Str.ofString "BaseEncoding", Str.ofString "Differences"]) (hs : sortedS xs = true) : xs = [Str.ofString "BaseEncoding", Str.ofString "Differences", Str.ofString "Type"] := by
  rcases perm3_cases h with rfl | rfl | rfl | rfl | rfl | rfl
  all_goals first | rfl | exact absurd hs (by decide +kernel)
theorem okWords : okL [Str.ofString "Differences", Str.ofString "Type"] ∧ okL [Str.ofString "BaseEncoding", Str.ofString "Differences", Str.ofString "Type"] := by
  have h : ([Str.ofString "BaseEncoding", Str.ofString "Differences", Str.ofString "Type"].all PyData.strOk) = true := by decide +kernel
  have h2 := List.all_eq_true.mp h
  exact ⟨fun x hx => h2 x (.tail _ hx), h2⟩
theorem lay3 {a b c : Nat} (ha : a ≤ 512) (hb : b ≤ 512) (hc : c ≤ 512) : PyData.layable0 (.list ([(a : Int), (b : Int), (c : Int)].map .int)) = true := by
  have q : ∀ n : Nat, n ≤ 512 → (if (n : Int) = 0 then 0 else (n : Int).natAbs.log2 + 1) ≤ 513 := fun n hn => by
    split
    · omega
    · have := Nat.log2_le_self (n : Int).natAbs
      omega
  have h1 := q a ha
  have h2 := q b hb
  have h3 := q c hc
  simp [PyData.layable0, PyData.canLay0, PyData.canLayAll0, PyData.depth, PyData.depthAll, PyData.weight, PyData.weightAll] at h1 h2 h3 ⊢
  omega
theorem len3 {α : Type} {l : List α} (h : l.length = 3) : ∃ x y z, l = [x, y, z] := by
  cases l with
  | nil => cases h
  | cons x l => cases l with
    | nil => cases h
    | cons y l => cases l with
      | nil => cases h
      | cons z l => cases l with
        | nil => exact ⟨x, y, z, rfl⟩
        | cons t l => exact absurd h (by simp)
theorem codes3 {vs : List Value} {a b c : Nat} (h : CodesAre vs [a, b, c]) : ∃ t0 t1 t2, vs = [.int (a : Int) t0, .int (b : Int) t1, .int (c : Int) t2] := by
  obtain ⟨hl, h⟩ := h
  obtain ⟨t0, e0⟩ := h 0 a rfl
  obtain ⟨t1, e1⟩ := h 1 b rfl
  obtain ⟨t2, e2⟩ := h 2 c rfl
  obtain ⟨x, y, z, rfl⟩ := len3 hl
  cases e0; cases e1; cases e2
  exact ⟨t0, t1, t2, rfl⟩
theorem glyphG : ∀ x ∈ glyphWords, G x := by
  have h : glyphWords.all gB = true := by decide +kernel
  exact fun x hx => List.all_eq_true.mp h x hx
theorem baseAtG {j : Nat} (h : j < 3) : ∀ x ∈ baseAt j, G x := baseG (encW_base h)
theorem baseAtL {j : Nat} (h : j < 3) : (baseAt j).length = 256 := baseOk.len (encW_base h)
theorem okG {xs : List Str} (h : ∀ x ∈ xs, G x) : okL xs := fun x hx => (h x hx).ok
theorem plainG {xs : List Str} (h : ∀ x ∈ xs, G x) : Plain xs := fun x hx => (h x hx).ne
theorem drawnG {xs ys : List Str} (h : ∀ x ∈ xs, Drawn ys x) (hy : ∀ y ∈ ys, G y) : ∀ x ∈ xs, G x := fun x hx => by
  rcases h x hx with q | q
  · exact hy x q
  · exact glyphG x q
theorem refs_of {ys : List Value} (h : ∀ (j : Nat) (v : Value), ys[j]? = some v → ∃ p : Addr, v = .ref p) : ∃ bs : List Addr, ys = bs.map Value.ref := by
  induction ys with
  | nil => exact ⟨[], rfl⟩
  | cons v r ih =>
    obtain ⟨p, rfl⟩ := h 0 v rfl
    obtain ⟨bs, rfl⟩ := ih fun j v e => h (j + 1) v e
    exact ⟨p :: bs, rfl⟩
theorem glyph_ok {x : Str} (h : x ∈ glyphWords ∨ x = Str.ofString ".notdef") : PyData.strOk (glyphOf x) = true := by
  rcases h with h | rfl
  · unfold glyphOf
    split
    · exact (few _ (.head _)).ok
    · exact (glyphG x h).ok
  · unfold glyphOf
    rw [if_pos rfl]
    exact (few _ (.head _)).ok
theorem wd_okL : ∀ (ps : List (Option Part)) (st st' : List Str × Int), (∀ p ∈ ps, GlyphOk p) → okL st.1 → ps.foldlM wdStep st = some st' → okL st'.1
  | [], st, st', _, h, e => by cases e; exact h
  | p :: r, st, st', hp, h, e => by
    rw [List.foldlM_cons] at e
    cases q : wdStep st p with
    | none => rw [q] at e; cases e
    | some st1 =>
      rw [q] at e
      refine wd_okL r st1 st' (fun p h => hp p (.tail _ h)) ?_ e
      have hg := hp p (.head _)
      unfold wdStep at q
      cases p with
      | none => cases q
      | some p =>
        cases p with
        | code i =>
          dsimp only at q
          split at q
          · cases q; exact h
          · cases q
        | name x =>
          dsimp only at q
          split at q
          · cases q
            intro y hy
            rcases List.mem_or_eq_of_mem_set hy with hy | rfl
            · exact h y hy
            · exact glyph_ok (hg x rfl)
          · cases q
theorem withDiff_ok {ys zs : List Str} {ps : List (Option Part)} (hp : ∀ p ∈ ps, GlyphOk p) (h : okL ys) (e : withDiff ys ps = some zs) : okL zs := by
  unfold withDiff at e
  cases q : ps.foldlM wdStep (ys, -1) with
  | none => rw [q] at e; cases e
  | some st =>
    rw [q] at e
    cases e
    exact wd_okL ps _ st hp h q
theorem reads_two {h : Heap} {a b c : Addr} {vs ws : List Value} {xs ys : List Str} (l : h.IsList a [Value.ref b, .ref c].toArray) (hb : h.IsList b vs.toArray) (hc : h.IsList c ws.toArray) (hx : Strs vs xs) (hy : Strs ws ys) : ∃ as, Reads h (.ref a) (.list [strD xs, strD ys]) as := by
  obtain ⟨o, h1, h2, n, h3⟩ := l
  exact ⟨_, .list h1 h2 h3 (.cons (reads_strs hb hx) (.cons (reads_strs hc hy) .nil))⟩
theorem shaped_two {xs ys : List Str} (hx : okL xs) (hy : okL ys) : SeqAt.shaped (.list [strD xs, strD ys]) = true := by
  have h1 := lay_strs hx
  have h2 := lay_strs hy
  have d1 := depth_strs xs
  have d2 := depth_strs ys
  unfold SeqAt.shaped
  simp only [strD, PyData.canLay0, PyData.canLayAll0, h1, h2, PyData.depth, PyData.depthAll, Bool.and_true, Bool.true_and]
  refine decide_eq_true ?_
  omega
theorem enc_no1 : encOf (.name (Str.ofString "MacExpertEncoding")) = none := by
  show baseOf _ = none
  unfold baseOf
  rw [if_neg (by decide +kernel), if_neg (by decide +kernel), if_neg (by decide +kernel)]
theorem enc_no2 : encOf (.name (Str.ofString "")) = none := by
  show baseOf _ = none
  unfold baseOf
  rw [if_neg (by decide +kernel), if_neg (by decide +kernel), if_neg (by decide +kernel)]
theorem enc_no3 {b : BaseV} : encOf (.dict b .bad) = none := rfl
theorem enc_no4 : encOf (.dict (.name (Str.ofString "WinAnsi")) .none) = none := by
  have : baseOf (Str.ofString "WinAnsi") = none := by
    unfold baseOf
    rw [if_neg (by decide +kernel), if_neg (by decide +kernel), if_neg (by decide +kernel)]
  simp only [encOf, DiffV.list, BaseV.word, Option.bind_some, this]
  rfl
theorem va_diff (a : Value) : valueAt [(Str.ofString "Differences", a)] (Str.ofString "Differences") = some a ∧ valueAt [(Str.ofString "Differences", a)] (Str.ofString "BaseEncoding") = none := by
  have n1 : Str.ofString "Differences" ≠ Str.ofString "BaseEncoding" := by decide +kernel
  simp [valueAt, List.find?_cons, n1]
theorem va_base (a : Value) : valueAt [(Str.ofString "BaseEncoding", a)] (Str.ofString "BaseEncoding") = some a ∧ valueAt [(Str.ofString "BaseEncoding", a)] (Str.ofString "Differences") = none := by
  have n1 : Str.ofString "BaseEncoding" ≠ Str.ofString "Differences" := by decide +kernel
  simp [valueAt, List.find?_cons, n1]
theorem all2_all3 {h : Heap} {vs : List Value} {ps : List Part} (x : All2 (partH h) vs ps) : All3 (pvH h) vs (ps.map some) := x.all3 fun v p q => q
@[reducible] noncomputable def fontN (w : World) (P C T L x : Addr) (m : Nat) (kvs : List (Int × Value)) (v : Value) (lb : List (Str × Value)) (Y : Led) : Led :=
  (P, .prop (potD C m)) :: (C, .prop cellsD) :: (T, dcD (PySem.intKind prg w) kvs) :: (L + 3, .cell (some v)) :: (L + 2, .cell (some (.ref x))) :: (L + 1, .cell (some (.ref P))) :: (L, .ns lb) :: Y
theorem encW_get {j : Nat} (h : j < 3) : encWords[j]? = some (encW j) := by
  rcases lt3 h with rfl | rfl | rfl <;> rfl
noncomputable def DuesH (h : Heap) (xs : List Str) (ys : List Value) : Prop := ∀ (j : Nat) (v : Value), ys[j]? = some v → ∃ p qs, v = .ref p ∧ h.IsList p qs.toArray ∧ All2 shapeV qs (diffL xs (baseAt j))
@[reducible] noncomputable def lawN (P C L : Addr) (m : Nat) (lb : List (Str × Value)) (r : Led) : Led := (P, .prop (potD C m)) :: (C, .prop cellsD) :: (L, .ns lb) :: r
theorem perm4 (Y : Led) (p c t l : Addr × Desc) : (t :: (Y ++ [p, c, l])).Perm (Y ++ [p, c, t, l]) := by
  have := (List.perm_middle (l₁ := Y ++ [p, c]) (a := t) (l₂ := [l])).symm
  simpa using this
theorem vaE (a u : Value) : (valueAt [(Str.ofString "Type", a), (Str.ofString "Encoding", u)] (Str.ofString "Encoding")).getD .none = u := by
  have : Str.ofString "Type" ≠ Str.ofString "Encoding" := by decide +kernel
  simp [valueAt, List.find?_cons, this]
noncomputable def dataOf : Option (List Str) → PyData
  | none => .none
  | some zs => strD zs
theorem try_stP {w : World} {A : Around} {E : Value → Shared → Prop} {s k : Shared} {g : Heap} {n : Led} {env : Env} {sc : Scope} {L : Addr} {cl : List (Str × Addr)} {body suite : List Stmt} {b₀ : Stmt} {np pos pos' : Pos} {Q : Flow → Shared → Prop} (Pr : Prop) (K : Stk A env n) (W : Wld w g) (fe : Fe env sc L cl) (hx : kindIs sc (Str.ofString "FontFault") .globalImplicit = true)
    (h : wpAny (Mo w) A (execs body env) (fun f s₁ => match f with | .next => Ap Q .next s₁ | f => Ap Q f s₁) (fun e s₁ => Pr ∧ Flew k g n e s₁) s)
    (hs : Pr → ∀ e s₁ E', Flies k g n e s₁ → wpAny (Mo w) (A.mark (some e)) (execs (b₀ :: suite) env) Q E' s₁) :
    wpAny (Mo w) A (exec (.Try body [.ExceptHandler (some (.Name (Str.ofString "FontFault") np)) none (b₀ :: suite) pos] [] [] pos') env) Q E s := by
  by_cases hp : Pr
  · exact try_st K W fe hx (wpAny_mono h (fun _ _ x => x) fun _ _ x => x.2) (hs hp)
  · refine wpAny_Try_except (wpAny_mono h (fun f s₁ h₁ => ?_) fun e s₁ F => absurd F.1 hp)
    cases f <;> first | exact h₁ | exact wpAny_execs_nil h₁
section
variable {w : World} {A : Around} {E : Value → Shared → Prop} {k : Shared} {g : Heap} {env : Env} {s : Shared} {n : Led}
theorem e_callN {x : Str} {p : Pos} {args : List Expr} {pos : Pos} {Q : Value → Shared → Prop} (h : wpAny (Mo w) A (eval (.Name x p) env) (CallK w A E env pos args Q) E s)
    (he : eval (.Call (.Name x p) args [] pos) env = (do callWith pos (← eval (.Name x p) env) [] (backTo pos (starEach args env)) (backToKw pos (keywordEach [] env)))) : wpAny (Mo w) A (eval (.Call (.Name x p) args [] pos) env) Q E s := e_call h he
theorem t_valS {a b : Expr} {p : Pos} {whole : Sem Value} {Q : Bool → Shared → Prop} (h : wpAny (Mo w) A whole (TruK w A E Q) E s)
    (he : isTrue (.Subscript a b p) env whole = (do let v ← whole; standAt (Expr.Subscript a b p).pos; holding [v] (truthy v))) : wpAny (Mo w) A (isTrue (.Subscript a b p) env whole) Q E s := t_val h he
theorem t_valN {x : Str} {p : Pos} {whole : Sem Value} {Q : Bool → Shared → Prop} (h : wpAny (Mo w) A whole (TruK w A E Q) E s)
    (he : isTrue (.Name x p) env whole = (do let v ← whole; standAt (Expr.Name x p).pos; holding [v] (truthy v))) : wpAny (Mo w) A (isTrue (.Name x p) env whole) Q E s := t_val h he
theorem t_valC {f : Expr} {a : List Expr} {b : List Keyword} {p : Pos} {whole : Sem Value} {Q : Bool → Shared → Prop} (h : wpAny (Mo w) A whole (TruK w A E Q) E s)
    (he : isTrue (.Call f a b p) env whole = (do let v ← whole; standAt (Expr.Call f a b p).pos; holding [v] (truthy v))) : wpAny (Mo w) A (isTrue (.Call f a b p) env whole) Q E s := t_val h he
theorem isi_blt {v : Value} {ty : Ty} {T : String} {Q : Value → Shared → Prop} (W : Wld w g) (S : St k g n s) (hv : HasTy g v ty) (ho : ty.ok = true) (hs : ty ≠ .str) (hT : T = "bool" ∨ T = "int" ∨ T = "list" ∨ T = "dict")
    (h : ∀ s', St k g n s' → Q (.bool (bltTy T ty)) s') : wpAny (Mo w) A (call (.builtin "isinstance") [v, .type T]) Q E s := by
  rcases hT with rfl | rfl | rfl | rfl
  · exact isi_bool W S (hv.keeps S.keep) ho hs h
  · exact isi_int W S (hv.keeps S.keep) ho hs h
  · exact isi_list W S (hv.keeps S.keep) ho hs h
  · exact isi_dict W S (hv.keeps S.keep) ho hs h
theorem isi_usr {v : Value} {ty : Ty} {C : Addr} {Q : Value → Shared → Prop} (W : Wld w g) (S : St k g n s) (hv : HasTy g v ty) (ho : ty.ok = true) (hC : C ∈ userC) (h : ∀ s', St k g n s' → Q (.bool (decide (ty = .inst C))) s') :
    wpAny (Mo w) A (call (.builtin "isinstance") [v, .ref C]) Q E s := isi_user W S (hv.keeps S.keep) ho hC h
end
local macro_rules | `(tactic| wtm_at "mem") => `(tactic| ((repeat (first | exact List.mem_cons_self | apply List.mem_cons_of_mem)); first | done | fail))
local macro_rules | `(tactic| wtm_at "upd") => `(tactic| ((repeat (first | exact Upd.head | apply Upd.tail)); first | done | fail))
local macro_rules | `(tactic| wtm_at "mr") => `(tactic| with_reducible wtm_at "mem")
local macro_rules | `(tactic| wtm_at "ur") => `(tactic| with_reducible wtm_at "upd")
local macro_rules | `(tactic| wtm_at "rf") => `(tactic| first | kernel_rfl! | with_unfolding_all rfl)
local macro_rules | `(tactic| wtm_at "sz") => `(tactic| (show _ ≤ 16777216; omega))
local macro_rules | `(tactic| wtm_at "idx") => `(tactic| focus (first | decide | omega))
local macro_rules | `(tactic| wtm_at "item0") => `(tactic| (refine l_item (St.isList (by assumption) (by wtm_at "mr")) (by decide) (by decide) rfl ?_ (by wtm_at "rf")))
local macro_rules | `(tactic| wtm_at "kk") => `(tactic| (repeat (refine (by assumption : ∀ a s', _ → Kont _ a s') _ _ ?_)))
local macro_rules | `(tactic| wtm_at "qe") => `(tactic| with_reducible first
  | refine e_local (by assumption) (by assumption) (by kernel_rfl) (by wtm_at "mr") (by wtm_at "mr") ?_
  | refine e_glob (by assumption) (by assumption) (by assumption) (by kernel_rfl) (by wtm_at "mr") ?_
  | refine e_blt (by assumption) (by assumption) (by assumption) (by kernel_rfl) (by wtm_at "mr") (by with_reducible first | exact b_len | exact b_list | exact b_range | exact b_min | exact b_abs | exact b_int | exact b_isinstance | exact b_sorted | exact b_dict | exact b_bool | exact b_chr | exact b_Exception) ?_
  | refine e_cell (by assumption) (by assumption) (by kernel_rfl) (by wtm_at "rf") (by wtm_at "mr") ?_
  | (refine e_const (by assumption) (by assumption) (by assumption) (by kernel_rfl) (by wtm_at "mr") ?_; intro _)
  | (refine e_int (by assumption) ?_; intro _ _ _)
  | refine e_callN ?_ (by wtm_at "rf")
  | refine e_method ?_ (by wtm_at "rf")
  | ((fail_if_success guard_target = wpAny _ _ (eval (Expr.Subscript _ (Expr.Slice _ _ _ _) _) _) _ _ _); refine e_sub ?_)
  | refine e_bin ?_
  | (refine e_str (by assumption) ?_; intro _ _ _)
  | refine e_none ?_
  | refine e_bool ?_
  | refine e_if ?_
  | refine e_attr ?_ (by wtm_at "rf")
  | (refine e_bytes (by assumption) ?_; intro _ _ _))
local macro_rules | `(tactic| wtm_at "qx") => `(tactic| with_reducible first
  | refine x_asg ?_ (by wtm_at "rf")
  | refine x_cons (x_if ?_)
  | refine x_cons (x_return ?_)
  | refine x_nil ?_
  | refine x_exprS ?_ (Fe.quiet (by assumption)) (by wtm_at "rf")
  | refine x_cons (x_for ?_ (fun _ => by wtm_at "rf"))
  | refine x_subS ?_ (by wtm_at "rf")
  | refine x_attrS ?_ (by wtm_at "rf"))
local macro_rules | `(tactic| wtm_at "qc") => `(tactic| with_reducible first
  | refine k_blt ?_ (by wtm_at "rf") (by wtm_at "rf")
  | refine k_type ?_ (by wtm_at "rf") (by wtm_at "rf")
  | refine k_fn (fnT (by wtm_at "rf")) ?_ (by wtm_at "rf")
  | refine k_cls (C := 197) (by kernel_rfl) ?_ (by wtm_at "rf") (by wtm_at "rf")
  | refine k_cls (C := 59) (by kernel_rfl) ?_ (by wtm_at "rf") (by wtm_at "rf")
  | refine k_fn0 (fnT (by wtm_at "rf")) (Wld.keeps (by assumption) (St.keep (by assumption))) ?_
  | refine k_meth (fnT (by wtm_at "rf")) ?_ (by wtm_at "rf")
  | refine callWith_method1 (first := [_]) ?_ (by wtm_at "rf") (by wtm_at "rf")
  | refine callWith_method0 ?_)
local macro_rules | `(tactic| wtm_at "qt") => `(tactic| with_reducible first
  | refine t_cmp ?_ (by wtm_at "rf")
  | refine t_valS ?_ (by wtm_at "rf")
  | refine t_valN ?_ (by wtm_at "rf")
  | refine t_valC ?_ (by wtm_at "rf")
  | refine t_not ?_
  | refine t_boolop ?_
  | refine t_chain ?_ (by wtm_at "rf"))
local macro_rules | `(tactic| wtm_at "qo") => `(tactic| with_reducible first
  | refine c_lt ?_
  | refine c_gt ?_
  | refine c_eq ?_
  | refine c_ne ?_
  | refine c_le ?_
  | refine c_is_ty (by assumption) ?_
  | refine c_is ?_
  | refine c_isnot_ty (by assumption) ?_
  | refine c_isnot ?_
  | refine c_eqs ?_
  | refine c_nes ?_
  | refine t_in ?_)
local macro_rules | `(tactic| wtm_at "qb") => `(tactic| first
  | ((with_reducible refine i_add (by assumption) ?_); intro _ _ _)
  | ((with_reducible refine i_sub (by assumption) ?_); intro _ _ _)
  | ((with_reducible refine i_mod (by assumption) ?_ ?_); wtm_at "idx"; intro _ _ _)
  | ((with_reducible refine i_div (by assumption) ?_ ?_ ?_); wtm_at "idx"; wtm_at "idx"; intro _ _ _)
  | ((with_reducible refine i_mul (by assumption) ?_ ?_); (focus first | exact IntMulOk.of_left (intBits_le_64 (by omega) (by omega)) | exact IntMulOk.of_right (intBits_le_64 (by omega) (by omega))); intro _ _ _))
local macro_rules | `(tactic| wtm_at "ql") => `(tactic| first
  | ((with_reducible refine isi_blt (by assumption) (by assumption) (by assumption) (by first | assumption | wtm_at "rf") (by first | decide | assumption) (by decide) ?_); intro _ _)
  | ((with_reducible refine isi_usr (by assumption) (by assumption) (by assumption) (by first | assumption | wtm_at "rf") (by decide) ?_); intro _ _)
  | ((with_reducible guard_target = wpAny _ _ (call (Value.builtin "list.append") _) _ _ _); refine l_append (by assumption) (by wtm_at "ur") (by first | assumption | wtm_at "sz") ?_; intro _ _)
  | with_reducible refine i_int ?_
  | ((with_reducible refine i_abs (by assumption) ?_); intro _ _ _))
local macro_rules | `(tactic| wtm_at "q7") => `(tactic| first
  | with_reducible refine (by assumption : ∀ a s', _ → Kont _ a s') _ _ ?_
  | ((with_reducible guard_target = wpAny _ _ (eval _ _) _ _ _); wtm_at "qe")
  | ((with_reducible guard_target = wpAny _ _ (execs _ _) _ _ _); wtm_at "qx")
  | with_reducible refine a_cons ?_ (by wtm_at "rf")
  | with_reducible refine a_nil ?_
  | ((with_reducible guard_target = wpAny _ _ (storeName _ _ _) _ _ _); (first
      | (refine s_store (by assumption) (by assumption) (by kernel_rfl) (by with_reducible ((repeat (first | exact Upd.head | apply Upd.tail)); first | done | fail)) (by with_reducible ((repeat (first | exact LUpd.head | apply LUpd.tail)); first | done | fail)) ?_; intro _ _)
      | (refine s_new (by assumption) (by assumption) (by kernel_rfl) (by with_reducible ((repeat (first | exact Upd.head | apply Upd.tail)); first | done | fail)) (by kernel_rfl) ?_; intro _ _)))
  | ((with_reducible guard_target = _ ∧ wpAny _ _ _ _ _ _); refine ⟨rfl, ?_⟩)
  | ((with_reducible guard_target = wpAny _ _ (callWith _ _ _ _ _) _ _ _); wtm_at "qc")
  | ((with_reducible guard_target = wpAny _ _ (isTrue _ _ _) _ _ _); wtm_at "qt")
  | ((with_reducible guard_target = wpAny _ _ (binaryOp _ _ _) _ _ _); wtm_at "qb")
  | ((with_reducible guard_target = wpAny _ _ (compareOp _ _ _) _ _ _); wtm_at "qo")
  | with_reducible refine t_bool ?_
  | ((with_reducible guard_target = wpAny _ _ (call _ _) _ _ _); wtm_at "ql")
  | ((with_reducible show (if _ = true then wpAny _ _ _ _ _ _ else wpAny _ _ _ _ _ _)); first | refine go_true (by rfl) ?_ | refine go_false (by rfl) ?_)
  | with_reducible refine t_and ?_
  | with_reducible refine t_or ?_
  | with_reducible refine t_and_nil ?_
  | with_reducible refine t_or_nil ?_
  | with_reducible refine g_append (by assumption) (by wtm_at "mr") ?_
  | with_reducible refine m_split ?_
  | with_reducible refine m_lower ?_)
local macro_rules | `(tactic| wtm_at "r7") => `(tactic| repeat' wtm_at "q7")
section
variable {w : World} {A : Around} {E : Value → Shared → Prop} {s k : Shared} {g : Heap} {n n' : Led} {env : Env} {d : Nat}
theorem name_new {R : Result → Shared → Prop} {v : Value} (rm : Room A d) (hd : d ≤ 45) (W : Wld w s.heap) (hR : ∀ s' x dx, NewI s s' x dx 197 [(Str.ofString "text", v)] → R (.ok (.ret (.ref x))) s') :
    codeAny (Mo w) A (.call (.ref 197) ⟨[v], []⟩) R s := by
  refine new_cls W St.base (by kernel_rfl) (fI := 194) (by kernel_rfl) (by kernel_rfl) fun x dx s₁ h0 h1 hk S₁ => ?_
  refine fn_enter0 [(x, .obj (instObj 197 dx)), (dx, .prop (dicD []))] (W.keeps hk) (Room.under rm) (by rfl) (by decide +kernel) (BindsTo.of_eq (binds := [(Str.ofString "self", .ref x), (Str.ofString "text", v)]) (by kernel_rfl)) (by kernel_rfl)
    (fun p hp => (S₁.led p hp).1) S₁.nd (W.keeps (S₁.hide fun _ h => h)) (fun g L s₂ env A' E' hg W' S fe rm' KK hKK => ?_) (by omega)
  have hh := S₁.hide (X := [(x, .obj (instObj 197 dx)), (dx, .prop (dicD []))]) fun _ h => h
  rw [← hg] at hh
  clear hg W hk
  refine x_step (x_assignAttr ?_ (by wtm_at "rf"))
  wtm_at "r7"
  refine i_set (W'.keeps (St.keep (by assumption))) (by assumption) (by with_reducible wtm_at "mem") (by with_reducible wtm_at "upd") (by kernel_rfl) (by decide) (by kernel_rfl) (by kernel_rfl) (by kernel_rfl) (by kernel_rfl) fun s₃ S₃ => ?_
  refine ⟨rfl, ?_⟩
  refine x_nil (hKK _ _ ⟨rfl, hR _ _ _ (NewI.of S₁ h0 h1 S₃ hh (by with_reducible wtm_at "mem") (by wtm_at "mem"))⟩)
end
theorem draw_end {k : Shared} {g : Heap} {s s' : Shared} {P C L : Addr} {m : Nat} {l : List (Str × Value)} {st pl : Int} {t1 t2 : Tok} {vs : List Value} (S : St s g [(L, .ns l), (P, .lst [.ref C, .int st t1, .int pl t2]), (C, .lst vs)] s') (hg : g = hideAll s.heap ((potX P C m).map (·.1)))
    (b1 : 0 ≤ st) (b2 : st < 2147483647) (b3 : 0 ≤ pl) (b4 : pl ≤ (m + 1 : Nat)) (c1 : ∀ v ∈ vs, ∃ (x : Int) (t : Tok), v = .int x t ∧ 0 ≤ x) (c3 : vs.length ≤ 63) : Eff (potX P C (m + 1)) s s' := by
  obtain ⟨o, ho, hi⟩ := S.get (a := P) (d := .lst [.ref C, .int st t1, .int pl t2]) (by wtm_at "mem")
  replace S := S.recast (a := P) (d' := .prop (potD C (m + 1))) (by wtm_at "upd") ⟨o, ho, st, pl, t1, t2, b1, b2, b3, b4, hi⟩
  obtain ⟨o, ho, hi⟩ := S.get (a := C) (d := .lst vs) (by wtm_at "mem")
  replace S := S.recast (a := C) (d' := .prop cellsD) (by wtm_at "upd") ⟨o, ho, vs, c1, c3, hi⟩
  subst hg
  exact St.toEff (X := potX P C (m + 1)) S (fun p hp => List.mem_cons_of_mem _ hp)
theorem draw_spec {w : World} {A : Around} {d m : Nat} {R : Result → Shared → Prop} {s : Shared} {P C : Addr} {lim : Int} {t : Tok} (rm : Room A d) (hd : d ≤ 40) (hm : m ≤ 1000) (W : Wld w s.heap) (hX : ∀ p ∈ potX P C m, ∃ o, s.heap.get? p.1 = some o ∧ p.2.is o) (hn : P ≠ C)
    (hW : Wld w (hideAll s.heap [P, C])) (h0 : 0 < lim) (h1 : lim ≤ 256)
    (hR : ∀ s' v t, Eff (potX P C (m + 1)) s s' → 0 ≤ v → v < lim → R (.ok (.ret (.int v t))) s') :
    codeAny (Mo w) A (.call (.ref 389) ⟨[.ref P, .int lim t], []⟩) R s := by
  refine fn_enter0 (potX P C m) W rm (by rfl) (by decide +kernel) (BindsTo.of_eq (binds := [(Str.ofString "pot", .ref P), (Str.ofString "limit", .int lim t)]) (by kernel_rfl)) (by kernel_rfl) hX (by simpa [potX] using hn) hW (fun g L s₁ env A' E' hg W S fe rm' KK hKK => ?_) (dle0 (by assumption) (by rfl))
  clear hW hX
  obtain ⟨o, ho, st, pl, t1, t2, b1, b2, b3, b4, hi⟩ := S.get (a := P) (d := .prop (potD C m)) (by with_reducible wtm_at "mem")
  replace S := S.recast (a := P) (d' := .lst [.ref C, .int st t1, .int pl t2]) (by with_reducible wtm_at "upd") ⟨o, ho, hi⟩
  obtain ⟨o, ho, vs, c1, c3, hi⟩ := S.get (a := C) (d := .prop cellsD) (by with_reducible wtm_at "mem")
  replace S := S.recast (a := C) (d' := .lst vs) (by with_reducible wtm_at "upd") ⟨o, ho, hi⟩
  clear ho hi
  -- place = pot[2]
  wtm_at "r7"
  wtm_at "item0"
  wtm_at "r7"
  refine l_set2 (by assumption) (by with_reducible wtm_at "upd") ?_; intro _ _
  wtm_at "r7"
  wtm_at "item0"
  refine l_truthy (by assumption) (St.isList (by assumption) (by with_reducible wtm_at "mem")) (by show _ ≤ 16777216; omega) ?_; intro _ _
  have hpp : 0 ≤ pl * pl ∧ pl * pl ≤ 1000000 := ⟨Int.mul_nonneg b3 b3, Int.le_trans (Int.mul_le_mul (show pl ≤ 1000 by omega) (show pl ≤ 1000 by omega) b3 (by decide)) (by decide)⟩
  by_cases he : vs = []
  · refine go_false (by simp [he]) ?_
    wtm_at "r7"
    wtm_at "item0"
    wtm_at "r7"
    refine l_set1 (by assumption) (by with_reducible wtm_at "upd") ?_; intro _ _
    wtm_at "r7"
    wtm_at "item0"
    wtm_at "r7"
    have q1 := Int.fmod_nonneg_of_pos (st * 16807 + pl * pl + 7) (b := 2147483647) (by decide)
    have q2 := Int.fmod_lt_of_pos (st * 16807 + pl * pl + 7) (b := 2147483647) (by decide)
    wtm_at "kk"; exact hR _ _ _ (draw_end (k := s) (by assumption) hg q1 q2 (by omega) (by omega) c1 c3) (Int.fmod_nonneg_of_pos _ h0) (Int.fmod_lt_of_pos _ h0)
  · refine go_true (by simp [he]) ?_
    have hl : 0 < vs.length := List.length_pos_iff.mpr he
    wtm_at "r7"
    wtm_at "item0"
    wtm_at "r7"
    refine l_len (by assumption) (St.isList (by assumption) (by with_reducible wtm_at "mem")) (by show _ ≤ 16777216; omega) ?_; intro _ _ _
    wtm_at "r7"
    wtm_at "item0"
    wtm_at "r7"
    have p1 := Int.fmod_nonneg_of_pos pl (b := (vs.length : Int)) (by omega)
    have p2 := Int.fmod_lt_of_pos pl (b := (vs.length : Int)) (by omega)
    have p3 : (pl.fmod vs.length).toNat < vs.length := by omega
    obtain ⟨x, tx, hx, hx0⟩ := c1 _ (List.getElem_mem p3)
    have hx' : vs[(pl.fmod vs.length).toNat]? = some (.int x tx) := by rw [List.getElem?_eq_getElem p3, hx]
    refine l_item (St.isList (by assumption) (by with_reducible wtm_at "mem")) p1 (by omega) hx' ?_ (by wtm_at "rf")
    wtm_at "r7"
    by_cases hz : 0 < x
    · refine go_true (by simp [hz]) ?_
      wtm_at "r7"
      wtm_at "item0"
      wtm_at "r7"
      refine l_set (by assumption) (by with_reducible wtm_at "upd") p1 (by omega) (by omega) ?_; intro _ _
      wtm_at "r7"
      wtm_at "kk"; refine hR _ _ _ (draw_end (k := s) (by assumption) hg b1 b2 (by omega) (by omega) ?_ (by simpa using c3)) (Int.fmod_nonneg_of_pos _ h0) (Int.fmod_lt_of_pos _ h0)
      intro v hv
      rcases List.mem_or_eq_of_mem_set hv with hv | rfl
      · exact c1 v hv
      · wtm_at "kk"; exact ⟨_, _, rfl, Int.fdiv_nonneg (by omega) (by omega)⟩
    · refine go_false (by simp [hz]) ?_
      wtm_at "r7"
      wtm_at "item0"
      wtm_at "r7"
      refine l_set1 (by assumption) (by with_reducible wtm_at "upd") ?_; intro _ _
      wtm_at "r7"
      wtm_at "item0"
      wtm_at "r7"
      have q1 := Int.fmod_nonneg_of_pos (st * 16807 + pl * pl + 7) (b := 2147483647) (by decide)
      have q2 := Int.fmod_lt_of_pos (st * 16807 + pl * pl + 7) (b := 2147483647) (by decide)
      wtm_at "kk"; exact hR _ _ _ (draw_end (k := s) (by assumption) hg q1 q2 (by omega) (by omega) c1 c3) (Int.fmod_nonneg_of_pos _ h0) (Int.fmod_lt_of_pos _ h0)
theorem kind_spec {w : World} {A : Around} {d : Nat} {R : Result → Shared → Prop} {s : Shared} {v : Value} {ty : Ty} (rm : Room A d) (hd : d ≤ 45) (W : Wld w s.heap) (hv : HasTy s.heap v ty) (ho : ty.ok = true) (hs : ty ≠ .str)
    (hR : ∀ s' t, Eff [] s s' → R (.ok (.ret (.str (kindWord ty) t))) s') : codeAny (Mo w) A (.call (.ref 279) ⟨[v], []⟩) R s := by
  refine fn_enter0 [] W rm (by rfl) (by decide +kernel) (BindsTo.of_eq (binds := [(Str.ofString "value", v)]) (by kernel_rfl)) (by kernel_rfl) (fun _ hp => nomatch hp) .nil W (fun g L s₁ env A' E' hg W S fe rm' KK hKK => ?_) (dle0 (by assumption) (by rfl))
  subst hg
  have hv' : HasTy (hideAll s.heap (([] : Led).map (·.1))) v ty := hv
  have fin : ∀ {n' : Led} {s' : Shared}, St s (hideAll s.heap (([] : Led).map (·.1))) n' s' → Eff [] s s' := fun S => St.toEff (X := []) S (fun _ hp => nomatch hp)
  clear hv
  clear hd
  wtm_at "r7"
  by_cases h0 : ty = .none
  · subst h0
    refine go_true (by rfl) ?_
    wtm_at "r7"
    wtm_at "kk"; exact hR _ _ (fin (by assumption))
  refine go_false (by simp [bltTy, h0]) ?_
  wtm_at "r7"
  by_cases h1 : ty = .bool
  · subst h1
    refine go_true (by rfl) ?_
    wtm_at "r7"
    wtm_at "kk"; exact hR _ _ (fin (by assumption))
  refine go_false (by simp [bltTy, h1]) ?_
  wtm_at "r7"
  by_cases h2 : ty = .int
  · subst h2
    refine go_true (by rfl) ?_
    wtm_at "r7"
    wtm_at "kk"; exact hR _ _ (fin (by assumption))
  refine go_false (by simp [bltTy, h1, h2]) ?_
  wtm_at "r7"
  refine go_false (decide_eq_false fun e => by subst e; exact absurd ho (by decide)) ?_
  wtm_at "r7"
  by_cases h4 : ty = .inst 197
  · subst h4
    refine go_true (by rfl) ?_
    wtm_at "r7"
    wtm_at "kk"; exact hR _ _ (fin (by assumption))
  refine go_false (by simp [bltTy, h4]) ?_
  wtm_at "r7"
  by_cases h5 : ty = .inst 219
  · subst h5
    refine go_true (by rfl) ?_
    wtm_at "r7"
    wtm_at "kk"; exact hR _ _ (fin (by assumption))
  refine go_false (by simp [bltTy, h5]) ?_
  wtm_at "r7"
  by_cases h6 : ty = .list
  · subst h6
    refine go_true (by rfl) ?_
    wtm_at "r7"
    wtm_at "kk"; exact hR _ _ (fin (by assumption))
  refine go_false (by simp [bltTy, h6]) ?_
  wtm_at "r7"
  by_cases h7 : ty = .dict
  · subst h7
    refine go_true (by rfl) ?_
    wtm_at "r7"
    wtm_at "kk"; exact hR _ _ (fin (by assumption))
  refine go_false (by simp [bltTy, h7]) ?_
  wtm_at "r7"
  refine go_false (decide_eq_false fun e => by subst e; exact absurd ho (by decide)) ?_
  wtm_at "r7"
  by_cases h9 : ty = .inst 268
  · subst h9
    refine go_true (by rfl) ?_
    wtm_at "r7"
    wtm_at "kk"; exact hR _ _ (fin (by assumption))
  refine go_false (by simp [bltTy, h9]) ?_
  exfalso
  cases ty with
  | inst C =>
    have hC : C ∈ instC := of_decide_eq_true ho
    simp only [instC, List.mem_cons, List.not_mem_nil, or_false] at hC
    rcases hC with rfl | rfl | rfl <;> simp_all
  | _ => simp_all
theorem encodings_spec {w : World} {A : Around} {d : Nat} {R : Result → Shared → Prop} {s : Shared} (rm : Room A d) (hd : d ≤ 45) (W : Wld w s.heap) (hR : ∀ s' a vs, NewL s s' a vs → Strs vs encWords → R (.ok (.ret (.ref a))) s') :
    codeAny (Mo w) A (.call (.ref 370) ⟨[], []⟩) R s := by
  refine fn_enter0 [] W rm (by rfl) (by decide +kernel) (BindsTo.of_eq (binds := []) (by kernel_rfl)) (by kernel_rfl) (fun _ hp => nomatch hp) .nil W (fun g L s₁ env A' E' hg W S fe rm' KK hKK => ?_) (dle0 (by assumption) (by rfl))
  wtm_at "r7"
  refine e_list (k := s) (g := g) ?_
  wtm_at "r7"
  wtm_at "kk"; refine ⟨_, by assumption, Nat.le_of_ble_eq_true (by rfl), fun a s' S' => ?_⟩
  wtm_at "kk"; exact hR _ _ _ (NewL.of S' hg (by with_reducible wtm_at "mem")) (.cons (.cons (.cons .nil)))
theorem glyphs_spec {w : World} {A : Around} {d : Nat} {R : Result → Shared → Prop} {s : Shared} (rm : Room A d) (hd : d ≤ 45) (W : Wld w s.heap) (hR : ∀ s' a vs, NewL s s' a vs → Strs vs glyphWords → R (.ok (.ret (.ref a))) s') :
    codeAny (Mo w) A (.call (.ref 377) ⟨[], []⟩) R s := by
  refine fn_enter0 [] W rm (by rfl) (by decide +kernel) (BindsTo.of_eq (binds := []) (by kernel_rfl)) (by kernel_rfl) (fun _ hp => nomatch hp) .nil W (fun g L s₁ env A' E' hg W S fe rm' KK hKK => ?_) (dle0 (by assumption) (by rfl))
  wtm_at "r7"
  refine e_list (k := s) (g := g) ?_
  wtm_at "r7"
  wtm_at "kk"; refine ⟨_, by assumption, Nat.le_of_ble_eq_true (by rfl), fun a s' S' => ?_⟩
  wtm_at "kk"; exact hR _ _ _ (NewL.of S' hg (by with_reducible wtm_at "mem")) (.cons (.cons (.cons (.cons (.cons (.cons (.cons .nil)))))))
theorem diff_spec {w : World} {A : Around} {d : Nat} {R : Result → Shared → Prop} {s : Shared} {a b : Addr} {vs ws : List Value} {xs ys : List Str} (rm : Room A d) (hd : d ≤ 40) (W : Wld w s.heap)
    (ha : s.heap.IsList a vs.toArray) (hb : s.heap.IsList b ws.toArray) (hx : Strs vs xs) (hy : Strs ws ys) (hxl : xs.length = 256) (hyl : ys.length = 256)
    (hR : ∀ s' p ps news, PartsIn news ps (diffL xs ys) → St s s.heap ((p, .lst ps) :: news) s' → R (.ok (.ret (.ref p))) s') :
    codeAny (Mo w) A (.call (.ref 351) ⟨[.ref a, .ref b], []⟩) R s := by
  refine fn_enter0 [] W rm (by rfl) (by decide +kernel) (BindsTo.of_eq (binds := [(Str.ofString "names", .ref a), (Str.ofString "base", .ref b)]) (by kernel_rfl)) (by kernel_rfl) (fun _ hp => nomatch hp) .nil W (fun g L s₁ env A' E' hg W S fe rm' KK hKK => ?_) (dle0 (by assumption) (by rfl))
  replace ha : g.IsList a vs.toArray := by rw [hg]; exact ha
  replace hb : g.IsList b ws.toArray := by rw [hg]; exact hb
  wtm_at "r7"
  refine e_list (k := s) (g := g) ?_
  wtm_at "r7"
  wtm_at "kk"; refine ⟨_, by assumption, Nat.le_of_ble_eq_true (by rfl), fun P s₂ S₂ => ?_⟩
  wtm_at "r7"
  refine e_neg (k := s) (g := g) ?_
  wtm_at "r7"
  wtm_at "kk"; refine ⟨_, _, rfl, _, by assumption, fun _ _ _ => ?_⟩
  wtm_at "r7"
  wtm_at "r7"
  refine r_range (N := 256) (by assumption) fun r t u v s₃ S₃ => ?_
  refine p_range S₃ (by decide) fun I s₄ S₄ => ?_
  refine loop_it (It.range (A := A') (g := g) rm'.handled I) S₄ (diffJ L P a b xs ys) ⟨_, _, _, rfl, .nil⟩ ?_ ?_
  · rintro i v n₁ s₅ E₂ hi ⟨ti, rfl⟩ ⟨ps, news, tl, rfl, hp⟩ S₅
    intro KK hKK
    rw [Int.zero_add]
    obtain ⟨x, hxi⟩ : ∃ x, xs[i]? = some x := ⟨_, List.getElem?_eq_getElem (by omega)⟩
    obtain ⟨y, hyi⟩ : ∃ y, ys[i]? = some y := ⟨_, List.getElem?_eq_getElem (by omega)⟩
    obtain ⟨tx, hvx⟩ := hx.get hxi
    obtain ⟨ty, hwy⟩ := hy.get hyi
    wtm_at "r7"
    refine l_item (ha.at fun o e => St.keep (by assumption) _ o e) (by omega) (by omega) hvx ?_ (by wtm_at "rf")
    wtm_at "r7"
    refine l_item (hb.at fun o e => St.keep (by assumption) _ o e) (by omega) (by omega) hwy ?_ (by wtm_at "rf")
    wtm_at "r7"
    have gx : xs.getD i Str.empty = x := by rw [List.getD_eq_getElem?_getD, hxi]; rfl
    have gy : ys.getD i Str.empty = y := by rw [List.getD_eq_getElem?_getD, hyi]; rfl
    have ds : diffTo xs ys (i + 1) = diffStep xs ys (diffTo xs ys i) i := diffTo_succ xs ys i
    have dl := diffTo_len xs ys i
    have pl := hp.length
    unfold diffStep at ds
    rw [gx, gy] at ds
    by_cases hq : x = y
    · refine go_false (by simp [hq]) ?_
      rw [if_pos hq] at ds
      refine x_nil (x_nil (hKK _ _ ⟨(P, .lst ps) :: (L, .ns [(Str.ofString "last", .int (diffTo xs ys i).1 tl), (Str.ofString "parts", .ref P), (Str.ofString "names", .ref a), (Str.ofString "base", .ref b)]) :: news, ⟨ps, news, tl, by rw [ds], by rw [ds]; exact hp⟩, ?_⟩))
      refine St.forget (a := L) (l := (Str.ofString "code", .int i ti) :: [(Str.ofString "last", .int (diffTo xs ys i).1 tl), (Str.ofString "parts", .ref P), (Str.ofString "names", .ref a), (Str.ofString "base", .ref b)]) (by assumption) (by with_reducible wtm_at "upd") (fun p h => List.mem_cons_of_mem _ h) (fun nd => (List.nodup_cons.mp nd).2)
    · refine go_true (by simpa using hq) ?_
      rw [if_neg hq] at ds
      refine x_cons (wpAny_mono (Q := fun f s' => f = .next ∧ ∃ ps1, PartsIn news ps1 ((diffTo xs ys i).2 ++ (if (i : Int) = (diffTo xs ys i).1 + 1 then [] else [.code i])) ∧ St s g ((I, Desc.prop fun o => o = { cls := Value.type "range_iterator", data := Data.fields #[rawInt (0 + ↑(i + 1)), rawInt (↑256 - ↑(i + 1)), rawInt 1] }) :: (P, .lst ps1) ::
        (L, .ns [(Str.ofString "code", .int i ti), (Str.ofString "last", .int (diffTo xs ys i).1 tl), (Str.ofString "parts", .ref P), (Str.ofString "names", .ref a), (Str.ofString "base", .ref b)]) :: news) s') ?_ (fun f s' ⟨e, ps1, h1, S1⟩ => ?_) (fun _ _ x => x))
      · refine x_if ?_
        wtm_at "r7"
        by_cases hc : (i : Int) = (diffTo xs ys i).1 + 1
        · refine go_false (by simp [hc]) ?_
          refine x_nil ⟨rfl, ps, ?_, by assumption⟩
          rw [if_pos hc, List.append_nil]; exact hp
        · refine go_true (by simpa using hc) ?_
          wtm_at "r7"
          refine ⟨rfl, _, ?_, by assumption⟩
          rw [if_neg hc]
          exact hp.snoc ⟨ti, rfl⟩
      · subst e
        have pl1 := h1.length
        have dl1 : ps1.length ≤ 600 := by rw [pl1, List.length_append]; split <;> simp <;> omega
        show wpAny _ _ (execs _ _) _ _ _
        wtm_at "r7"
        refine l_item (ha.at fun o e => St.keep (by assumption) _ o e) (by omega) (by omega) hvx ?_ (by wtm_at "rf")
        wtm_at "r7"
        by_cases hz : x = Str.ofString ""
        · refine go_true (by simpa using hz) ?_
          wtm_at "r7"
          refine ⟨W.keeps (St.keep (by assumption)), name_new rm' (dle (by assumption) (by rfl)) (W.keeps (St.keep (by assumption))) fun s6 x6 dx6 N => ?_⟩
          rw [show ctVal (ctAt 19) 592 = Value.str (nameOf x) 592 by rw [hz]; rfl] at N
          have S7 := St.newI (by assumption) N
          show wpAny _ _ (spliced _) _ _ _
          wtm_at "r7"
          show ∃ n₂, _ ∧ _
          refine ⟨(P, .lst (ps1 ++ [.ref x6])) :: (L, .ns [(Str.ofString "last", .int i ti), (Str.ofString "parts", .ref P), (Str.ofString "names", .ref a), (Str.ofString "base", .ref b)]) :: (x6, .obj (instObj 197 dx6)) :: (dx6, .prop (dicD [(Str.ofString "text", .str (nameOf x) 592)])) :: news, ⟨ps1 ++ [.ref x6], (x6, .obj (instObj 197 dx6)) :: (dx6, .prop (dicD [(Str.ofString "text", .str (nameOf x) 592)])) :: news, ti, by rw [ds], ?_⟩, ?_⟩
          · rw [ds]
            exact (h1.mono fun q hq => .tail _ (.tail _ hq)).snoc ⟨x6, dx6, 592, rfl, .head _, .tail _ (.head _)⟩
          · refine St.perm (St.forget (a := L) (l := (Str.ofString "code", .int i ti) :: [(Str.ofString "last", .int i ti), (Str.ofString "parts", .ref P), (Str.ofString "names", .ref a), (Str.ofString "base", .ref b)]) (by assumption) (by with_reducible wtm_at "upd") (fun p h => List.mem_cons_of_mem _ h) (fun nd => (List.nodup_cons.mp nd).2)) ?_
            exact List.perm_append_comm_assoc [(I, _), (P, _), (L, _)] [(x6, _), (dx6, _)] news
        · refine go_false (by simpa using hz) ?_
          wtm_at "r7"
          refine l_item (ha.at fun o e => St.keep (by assumption) _ o e) (by omega) (by omega) hvx ?_ (by wtm_at "rf")
          wtm_at "r7"
          refine ⟨W.keeps (St.keep (by assumption)), name_new rm' (dle (by assumption) (by rfl)) (W.keeps (St.keep (by assumption))) fun s6 x6 dx6 N => ?_⟩
          rw [show x = nameOf x by unfold nameOf; rw [if_neg hz]] at N
          have S7 := St.newI (by assumption) N
          show wpAny _ _ (spliced _) _ _ _
          wtm_at "r7"
          show ∃ n₂, _ ∧ _
          refine ⟨(P, .lst (ps1 ++ [.ref x6])) :: (L, .ns [(Str.ofString "last", .int i ti), (Str.ofString "parts", .ref P), (Str.ofString "names", .ref a), (Str.ofString "base", .ref b)]) :: (x6, .obj (instObj 197 dx6)) :: (dx6, .prop (dicD [(Str.ofString "text", .str (nameOf x) tx)])) :: news, ⟨ps1 ++ [.ref x6], (x6, .obj (instObj 197 dx6)) :: (dx6, .prop (dicD [(Str.ofString "text", .str (nameOf x) tx)])) :: news, ti, by rw [ds], ?_⟩, ?_⟩
          · rw [ds]
            exact (h1.mono fun q hq => .tail _ (.tail _ hq)).snoc ⟨x6, dx6, tx, rfl, .head _, .tail _ (.head _)⟩
          · refine St.perm (St.forget (a := L) (l := (Str.ofString "code", .int i ti) :: [(Str.ofString "last", .int i ti), (Str.ofString "parts", .ref P), (Str.ofString "names", .ref a), (Str.ofString "base", .ref b)]) (by assumption) (by with_reducible wtm_at "upd") (fun p h => List.mem_cons_of_mem _ h) (fun nd => (List.nodup_cons.mp nd).2)) ?_
            exact List.perm_append_comm_assoc [(I, _), (P, _), (L, _)] [(x6, _), (dx6, _)] news
  · rintro n₁ s₅ ⟨ps, news, tl, rfl, hp⟩ S₅
    show wpAny _ _ (execs _ _) _ _ _
    wtm_at "r7"
    have S6 := S₅.sub (n' := (P, .lst ps) :: news) (fun p hp => by rcases List.mem_cons.mp hp with rfl | hp; exact .head _; exact .tail _ (.tail _ hp)) (by have := S₅.nd; simp only [List.map_cons, List.nodup_cons, List.mem_cons, not_or] at this ⊢; exact ⟨this.1.2, this.2.2⟩)
    wtm_at "kk"; exact hR _ _ _ _ hp (by rw [hg] at S6; exact S6)
section
variable {w : World} {A : Around} {E : Value → Shared → Prop} {s k : Shared} {g : Heap} {n n' : Led} {env : Env} {sc : Scope} {L : Addr} {cl : List (Str × Addr)} {d : Nat}
theorem fault_new {R : Result → Shared → Prop} {v : Value} (rm : Room A d) (hd : d ≤ 45) (W : Wld w s.heap) (hR : ∀ s' x, St s s.heap [(x, excO none)] s' → R (.ok (.ret (.ref x))) s') :
    codeAny (Mo w) A (.call (.ref 59) ⟨[v], []⟩) R s := by
  refine fault_call W fun t x s₁ S₁ => ?_
  refine fn_enter0 [(x, .obj (excObj 59 t))] (W.keeps S₁.keep) (Room.under rm) (by rfl) (by decide +kernel) (BindsTo.of_defaults (binds := [(Str.ofString "self", .ref x), (Str.ofString "what", v), (Str.ofString "at", .int (-1) 209)]) (T := 29) (n := 0) rfl ((W.keeps S₁.keep).top 29 _ rfl) rfl rfl (by kernel_rfl)) (by kernel_rfl)
    (fun p hp => (S₁.led p hp).1) S₁.nd (W.keeps (S₁.hide fun _ h => h)) (fun g L s₂ env A' E' hg W' S fe rm' KK hKK => ?_) (by omega)
  have hh := S₁.hide (X := [(x, .obj (excObj 59 t))]) fun _ h => h
  rw [← hg] at hh
  clear hg W
  wtm_at "r7"
  refine g_exc (by assumption) (by assumption) ?_; intro _ _
  wtm_at "r7"
  refine exc_init W' (St.swap (by assumption)) fun t' s₃ S₃ => ?_
  wtm_at "r7"
  wtm_at "r7"
  refine exc_set1 W' (by assumption) (by kernel_rfl) fun dx s₄ S₄ => ?_
  wtm_at "r7"
  wtm_at "r7"
  refine exc_set2 W' (by assumption) (by kernel_rfl) (by kernel_rfl) (by show 1 ≤ 100; decide) fun s₅ S₅ => ?_
  refine x_nil (hKK _ _ ⟨rfl, hR _ _ ?_⟩)
  have S6 := S₅.drop
  have S7 : St s₁ g [(x, .obj { excObj 59 t' with dict := some dx })] s₅ := S6.drop2
  obtain ⟨o, ho, hi⟩ := S7.get (.head _)
  have S8 := S7.recast (d' := excO none) .head ⟨o, ho, by cases hi; exact ⟨rfl, _, rfl, rfl⟩⟩
  refine ⟨fun b o e => S8.keep _ _ (hh _ _ e), fun p hp => ⟨(S8.led p hp).1, (S₁.led (x, .obj (excObj 59 t)) (.head _)).2 |> fun z => by rcases List.mem_cons.mp hp with rfl | hp; exact z; cases hp⟩, S8.nd, S8.os.trans S₁.os, S8.gens.trans S₁.gens⟩
end
open StrLaws in
theorem shape_spec {w : World} {A : Around} {d : Nat} {R : Result → Shared → Prop} {s : Shared} {a : Addr} {vs : List Value} {ps : List Part} (rm : Room A d) (hd : d ≤ 40) (W : Wld w s.heap)
    (ha : s.heap.IsList a vs.toArray) (hp : All2 (partH s.heap) vs ps) (hz : ps.length ≤ 10000)
    (hR : ∀ s' p ys, All2 shapeV ys ps → NewL s s' p ys → R (.ok (.ret (.ref p))) s') :
    codeAny (Mo w) A (.call (.ref 406) ⟨[.ref a], []⟩) R s := by
  refine fn_enter0 [] W rm (by rfl) (by decide +kernel) (BindsTo.of_eq (binds := [(Str.ofString "parts", .ref a)]) (by kernel_rfl)) (by kernel_rfl) (fun _ hp => nomatch hp) .nil W (fun g L s₁ env A' E' hg W S fe rm' KK hKK => ?_) (dle0 (by assumption) (by rfl))
  replace ha : g.IsList a vs.toArray := by rw [hg]; exact ha
  replace hp : All2 (partH g) vs ps := by rw [hg]; exact hp
  wtm_at "r7"
  refine e_comp (k := s) fe (cl' := []) (by rfl) (by decide +kernel) (by decide +kernel) (by decide +kernel) (by decide +kernel) ?_ (fun _ => by wtm_at "rf")
  wtm_at "r7"
  refine p_list (by assumption) ha fun I s₂ S₂ => ?_
  refine ⟨g, I, vs.length, _, _, _, fun i ys n => n = [(L, .ns [(Str.ofString "parts", .ref a)])] ∧ i ≤ ps.length ∧ All2 shapeV ys (ps.take i), rfl, It.list rm'.handled ha I, by rw [hp.length]; show _ ≤ 16777216; omega, S₂, ⟨rfl, by omega, .nil⟩, fun i ys n h => by rw [h.2.2.length, List.length_take]; omega, fun s Q E h hQ => self_list (l := a) s Q E h hQ, ?_, ?_⟩
  · rintro C acc cenv i v ys n₁ s₁ E₂ hi hv ⟨rfl, hi', hy⟩ fe' S₁
    intro KK hKK
    obtain ⟨q, hq, hpv⟩ := hp.get hv
    clear fe
    have il : i + 1 ≤ ps.length := by have := hp.length; omega
    cases q with
    | code j =>
      obtain ⟨t, rfl⟩ := hpv
      have hT : HasTy g (.int j t) .int := ⟨_, _, rfl⟩
      wtm_at "r7"
      wtm_at "kk"; refine ⟨_, ⟨rfl, il, ?_⟩, by assumption⟩
      rw [List.take_succ, hq]
      exact hy.snoc ⟨t, rfl⟩
    | name x =>
      obtain ⟨b, t, rfl, I1⟩ := hpv
      have hT : HasTy g (.ref b) (.inst 197) := ⟨_, _, rfl, I1⟩
      wtm_at "r7"
      refine i_get (W.keeps (St.keep (by assumption))) (by assumption) (I1.keeps (St.keep (by assumption))) rfl (by kernel_rfl) (by kernel_rfl) (attr := none) (by kernel_rfl) rfl rfl fun _ _ => ?_
      wtm_at "kk"
      wtm_at "kk"; refine ⟨_, ⟨rfl, il, ?_⟩, by assumption⟩
      rw [List.take_succ, hq]
      exact hy.snoc ⟨t, rfl⟩
  · rintro acc ys n₁ s₃ ⟨rfl, _, hy⟩ S₃
    rw [hp.length, List.take_length] at hy
    wtm_at "kk"; exact hR _ _ _ hy (NewL.of S₃ hg (.head _))
theorem ascii_spec {w : World} {A : Around} {d : Nat} {R : Result → Shared → Prop} {s : Shared} (rm : Room A d) (hd : d ≤ 45) (W : Wld w s.heap) (hR : ∀ s' a vs, NewL s s' a vs → Strs vs asciiL → R (.ok (.ret (.ref a))) s') :
    codeAny (Mo w) A (.call (.ref 320) ⟨[], []⟩) R s := by
  refine fn_enter0 [] W rm (by rfl) (by decide +kernel) (BindsTo.of_eq (binds := []) (by kernel_rfl)) (by kernel_rfl) (fun _ hp => nomatch hp) .nil W (fun g L s₁ env A' E' hg W S fe rm' KK hKK => ?_) (dle0 (by assumption) (by rfl))
  wtm_at "r7"
  refine x_step (wpAny_mono (x_comp (k := s) (E := E') (Q := fun f s' => f = .next ∧ ∃ a vs n, n = [(a, .lst vs), (L, .ns [(Str.ofString "capitals", .ref a)])] ∧ Strs vs (chrs 65 26) ∧ St s g n s') fe (swaps_comp fe (by kernel_rfl)) (cl' := []) (by rfl) (by decide +kernel) (by decide +kernel) (by decide +kernel) (by decide +kernel) ?_ (fun _ => by wtm_at "rf")) (fun f s' ⟨e, a, vs, n, en, hv, S'⟩ => ⟨e, ?_⟩) (fun _ _ x => x))
  · wtm_at "r7"
    refine r_range2 (N := 26) (by assumption) (by rfl) fun r t u v s₃ S₃ => ?_
    refine p_range2 S₃ (by decide) (by decide) (by decide) fun I s₂ S₂ => ?_
    refine ⟨g, I, 26, _, _, _, fun i ys n => n = [(L, .ns [])] ∧ Strs ys (chrs 65 i), rfl, It.range rm'.handled I, by wtm_at "sz", S₂, ⟨rfl, .nil⟩, fun i ys n h => by rw [h.2.length, chrs_len], fun s Q E h hQ => self_range s Q E h hQ, ?_, ?_⟩
    · rintro C acc cenv i v ys n₁ s₁ E₂ hi ⟨ti, rfl⟩ ⟨rfl, hy⟩ fe' S₁
      intro KK hKK
      clear fe
      wtm_at "r7"
      refine i_chr (by assumption) (by omega) (by omega) fun u s₅ S₅ => ?_
      wtm_at "kk"; refine ⟨_, ⟨rfl, ?_⟩, S₅⟩
      rw [chrs_succ, show ((65 : Int) + (i : Int)).toNat = 65 + i by omega]
      exact hy.snoc
    · rintro C acc ys n₁ s₁ ⟨rfl, hy⟩ S₁
      wtm_at "r7"
      wtm_at "kk"; exact ⟨_, by assumption, fun s₃ S₃ => ⟨rfl, _, _, _, rfl, hy, S₃⟩⟩
  · subst en
    clear S
    refine x_step (wpAny_mono (x_comp (k := s) (E := E') (Q := fun f s' => f = .next ∧ ∃ b ws n, n = [(b, .lst ws), (a, .lst vs), (L, .ns [(Str.ofString "smalls", .ref b), (Str.ofString "capitals", .ref a)])] ∧ Strs ws (chrs 97 26) ∧ St s g n s') fe (swaps_comp fe (by kernel_rfl)) (cl' := []) (by rfl) (by decide +kernel) (by decide +kernel) (by decide +kernel) (by decide +kernel) ?_ (fun _ => by wtm_at "rf")) (fun f s' ⟨e, b, ws, n, en, hw, S''⟩ => ⟨e, ?_⟩) (fun _ _ x => x))
    · wtm_at "r7"
      refine r_range2 (N := 26) (by assumption) (by rfl) fun r t u v s₃ S₃ => ?_
      refine p_range2 S₃ (by decide) (by decide) (by decide) fun I s₂ S₂ => ?_
      refine ⟨g, I, 26, _, _, _, fun i ys n => n = [(a, .lst vs), (L, .ns [(Str.ofString "capitals", .ref a)])] ∧ Strs ys (chrs 97 i), rfl, It.range rm'.handled I, by wtm_at "sz", S₂, ⟨rfl, .nil⟩, fun i ys n h => by rw [h.2.length, chrs_len], fun s Q E h hQ => self_range s Q E h hQ, ?_, ?_⟩
      · rintro C acc cenv i v ys n₁ s₁ E₂ hi ⟨ti, rfl⟩ ⟨rfl, hy⟩ fe' S₁
        intro KK hKK
        clear fe
        wtm_at "r7"
        refine i_chr (by assumption) (by omega) (by omega) fun u s₅ S₅ => ?_
        wtm_at "kk"; refine ⟨_, ⟨rfl, ?_⟩, S₅⟩
        rw [chrs_succ, show ((97 : Int) + (i : Int)).toNat = 97 + i by omega]
        exact hy.snoc
      · rintro C acc ys n₁ s₁ ⟨rfl, hy⟩ S₁
        wtm_at "r7"
        wtm_at "kk"; exact ⟨_, by assumption, fun s₃ S₃ => ⟨rfl, _, _, _, rfl, hy, S₃⟩⟩
    · subst en
      clear S'
      wtm_at "r7"
      refine t_split (by assumption) (sz_split sl20) fun c1 us1 s₁ h1 S1 => ?_
      wtm_at "r7"
      have e1 := h1.length
      have e2 := hv.length
      have e3 := hw.length
      rw [chrs_len] at e2 e3
      have w1 := ws20
      have w2 := ws21
      have w3 := ws22
      refine l_add S1 (by with_reducible wtm_at "mem") (by with_reducible wtm_at "mem") (by wtm_at "sz") fun c2 s₂ S2 => ?_
      wtm_at "r7"
      refine t_split (by assumption) (sz_split sl21) fun c3 us3 s₃ h3 S3 => ?_
      have e4 := h3.length
      refine l_add S3 (by with_reducible wtm_at "mem") (by with_reducible wtm_at "mem") (by simp only [List.length_append]; wtm_at "sz") fun c4 s₄ S4 => ?_
      wtm_at "r7"
      refine l_add S4 (by with_reducible wtm_at "mem") (by with_reducible wtm_at "mem") (by simp only [List.length_append]; wtm_at "sz") fun c5 s₅ S5 => ?_
      wtm_at "r7"
      refine t_split (by assumption) (sz_split sl22) fun c6 us6 s₆ h6 S6 => ?_
      have e6 := h6.length
      refine l_add S6 (by with_reducible wtm_at "mem") (by with_reducible wtm_at "mem") (by simp only [List.length_append]; wtm_at "sz") fun c7 s₇ S7 => ?_
      wtm_at "kk"; exact hR _ _ _ (NewL.of S7 hg (by with_reducible wtm_at "mem")) ((((h1.append hv).append h3).append hw).append h6)
theorem latin_spec (LO : latinOk) {w : World} {A : Around} {d : Nat} {R : Result → Shared → Prop} {s : Shared} (rm : Room A d) (hd : d ≤ 45) (W : Wld w s.heap) (hR : ∀ s' a vs, NewL s s' a vs → Strs vs latinL → R (.ok (.ret (.ref a))) s') :
    codeAny (Mo w) A (.call (.ref 325) ⟨[], []⟩) R s := by
  refine fn_enter0 [] W rm (by rfl) (by decide +kernel) (BindsTo.of_eq (binds := []) (by kernel_rfl)) (by kernel_rfl) (fun _ hp => nomatch hp) .nil W (fun g L s₁ env A' E' hg W S fe rm' KK hKK => ?_) (dle0 (by assumption) (by rfl))
  wtm_at "r7"
  refine t_split (by assumption) (sz_split sl23) fun c1 us1 s₂ h1 S1 => ?_
  have e1 : us1.length = 63 := h1.length.trans LO.1
  clear S
  wtm_at "r7"
  refine x_step (wpAny_mono (x_comp (k := s) (E := E') (Q := fun f s' => f = .next ∧ ∃ b ws n, n = [(b, .lst ws), (c1, .lst us1), (L, .ns [(Str.ofString "smalls", .ref b), (Str.ofString "names", .ref c1)])] ∧ Strs ws (((latinW.drop 31).take 31).map Txt.lower) ∧ St s g n s') fe (swaps_comp fe (by kernel_rfl)) (cl' := []) (by rfl) (by decide +kernel) (by decide +kernel) (by decide +kernel) (by decide +kernel) ?_ (fun _ => by wtm_at "rf")) (fun f s' ⟨e, b, ws, n, en, hw, S''⟩ => ⟨e, ?_⟩) (fun _ _ x => x))
  · refine e_cut (k := s) (g := g) ?_ (fun _ _ => by wtm_at "rf")
    wtm_at "r7"
    refine ⟨c1, us1, 31, 62, _, _, _, rfl, rfl, rfl, by assumption, St.isList (by assumption) (by with_reducible wtm_at "mem"), by wtm_at "sz", by decide, by omega, fun a s₃ S3 => ?_⟩
    obtain ⟨g', hgg, hl, S4⟩ := S3.freeze
    have hcut : Strs ((us1.drop 31).take 31) ((latinW.drop 31).take 31) := (h1.drop 31).take 31
    refine p_list S4 hl fun I s₅ S5 => ?_
    have hlen : ((us1.drop 31).take 31).length = 31 := by rw [List.length_take, List.length_drop]; omega
    refine ⟨g', I, ((us1.drop 31).take 31).length, _, _, _, fun i ys n => n = [(c1, .lst us1), (L, .ns [(Str.ofString "names", .ref c1)])] ∧ i ≤ 31 ∧ Strs ys ((((latinW.drop 31).take 31).take i).map Txt.lower), rfl, It.list rm'.handled hl I, by rw [hlen]; wtm_at "sz", S5, ⟨rfl, by decide, .nil⟩, fun i ys n h => ?_, fun s Q E h hQ => self_list (l := a) s Q E h hQ, ?_, ?_⟩
    · have hl2 : ((latinW.drop 31).take 31).length = 31 := hcut.length.symm.trans hlen
      rw [h.2.2.length, List.length_map, List.length_take, hl2]; omega
    · rintro C acc cenv i v ys n₁ s₁ E₂ hi hv ⟨rfl, hi31, hy⟩ fe' S₁
      intro KK hKK
      obtain ⟨x, t, hx, rfl⟩ := hcut.back hv
      have hxm : x.length ≤ 1000 := LO.2 x (List.mem_of_mem_drop (List.mem_of_mem_take (List.mem_of_getElem? hx)))
      clear fe
      wtm_at "r7"
      refine t_lower (by assumption) hxm fun u s₆ S6 => ?_
      rw [hlen] at hi
      wtm_at "kk"; exact ⟨_, ⟨rfl, hi, hy.map_snoc hx⟩, S6⟩
    · rintro C acc ys n₁ s₁ ⟨rfl, _, hy⟩ S₁
      rw [hlen] at hy
      wtm_at "r7"
      wtm_at "kk"; refine ⟨_, by assumption, fun s₃ S₃ => ⟨rfl, _, _, _, rfl, ?_, S₃.shrink hgg⟩⟩
      rw [List.take_take, Nat.min_self] at hy
      exact hy
  · subst en
    have e2 := hw.length
    rw [List.length_map, List.length_take, List.length_drop, LO.1] at e2
    wtm_at "r7"
    refine l_set (by assumption) (by with_reducible wtm_at "upd") (by decide) (by decide) (by omega) ?_; intro _ _
    wtm_at "r7"
    refine l_add (by assumption) (by with_reducible wtm_at "mem") (by with_reducible wtm_at "mem") (by simp only [List.length_set]; wtm_at "sz") fun c2 s₃ S3 => ?_
    wtm_at "r7"
    refine e_list (k := s) (g := g) ?_
    wtm_at "r7"
    wtm_at "kk"; refine ⟨_, by assumption, Nat.le_of_ble_eq_true (by rfl), fun c3 s₄ S4 => ?_⟩
    refine l_add S4 (by with_reducible wtm_at "mem") (by with_reducible wtm_at "mem") (by simp only [List.length_append, List.length_set, List.length_cons, List.length_nil]; wtm_at "sz") fun c5 s₅ S5 => ?_
    wtm_at "kk"; exact hR _ _ _ (NewL.of S5 hg (by with_reducible wtm_at "mem")) ((h1.append (hw.set _ _ (Int.toNat 23))).append (.cons .nil))
theorem words_spec {w : World} {A : Around} {d : Nat} {R : Result → Shared → Prop} {s : Shared} {a : Addr} {vs : List Value} {xs : List Str} {x : Str} {t : Tok} (rm : Room A d) (hd : d ≤ 45) (W : Wld w s.heap)
    (ha : s.heap.IsList a vs.toArray) (hx : Strs vs xs) (hxl : xs.length ≤ 1000) (hsz : x.length ≤ 2000) (hok : wwOk xs.length 0 (Txt.words x) = true)
    (hR : ∀ s' p ps, NewL s s' p ps → Strs ps (withWords xs (Txt.words x)) → R (.ok (.ret (.ref p))) s') :
    codeAny (Mo w) A (.call (.ref 332) ⟨[.ref a, .str x t], []⟩) R s := by
  refine fn_enter0 [] W rm (by rfl) (by decide +kernel) (BindsTo.of_eq (binds := [(Str.ofString "names", .ref a), (Str.ofString "words", .str x t)]) (by kernel_rfl)) (by kernel_rfl) (fun _ hp => nomatch hp) .nil W (fun g L s₁ env A' E' hg W S fe rm' KK hKK => ?_) (dle0 (by assumption) (by rfl))
  replace ha : g.IsList a vs.toArray := by rw [hg]; exact ha
  have el := hx.length
  wtm_at "r7"
  refine l_copy (by assumption) (ha.at fun o e => St.keep (by assumption) _ o e) (by wtm_at "sz") fun P s₂ S₂ => ?_
  wtm_at "r7"
  refine t_split (by assumption) (sz_split hsz) fun l us s₃ hu S₃ => ?_
  have ul := hu.length
  have uz := words_short x (by omega)
  obtain ⟨g', hgg, hl, S₄⟩ := S₃.freeze
  have W₂ : Wld w g' := W.keeps hgg
  refine p_list S₄ hl fun I s₅ S₅ => ?_
  refine loop_it (It.list (A := A') rm'.handled hl I) S₅ (fun i n => ∃ ps tc, n = [(P, .lst ps), (L, .ns [(Str.ofString "code", .int (wwTo xs (Txt.words x) i).2 tc), (Str.ofString "laid", .ref P), (Str.ofString "names", .ref a), (Str.ofString "words", .str x t)])] ∧ Strs ps (wwTo xs (Txt.words x) i).1) ⟨_, _, rfl, hx⟩ ?_ ?_
  · rintro i v n₁ s₆ E₂ hi hv ⟨ps, tc, rfl, hp⟩ S₆
    intro KK hKK
    obtain ⟨y, ty, hy, rfl⟩ := hu.back hv
    have hw := wwOk_at (n := xs.length) (ws := Txt.words x) (st := (xs, 0)) hok hy
    change wwOk1 xs.length (wwTo xs (Txt.words x) i).2 y = true at hw
    have hs := wwTo_succ (xs := xs) hy
    have pl := hp.length
    rw [wwTo_len] at pl
    generalize wwTo xs (Txt.words x) i = st at *
    unfold wwOk1 at hw
    simp only [Bool.and_eq_true] at hw
    obtain ⟨⟨h1, h6⟩, hw⟩ := hw
    replace h1 := Nat.le_of_ble_eq_true h1
    replace h6 := Nat.le_of_ble_eq_true h6
    wtm_at "r7"
    refine t_item (by assumption) (by decide) (by decide) (by omega) (fun u s₇ S₇ => ?_) (by wtm_at "rf") (fun _ => by wtm_at "rf")
    refine e_glob (v := .str figs 590) (by assumption) (W.keeps hgg) (by assumption) (by kernel_rfl) (by decide +kernel) ?_
    wtm_at "r7"
    unfold wwStep at hs
    rw [hs] at hKK
    clear hs
    cases hf : figB y
    · rw [hf] at hw hKK
      simp only [Bool.false_eq_true, if_false] at hw hKK
      have hlt : st.2 < xs.length := by unfold Nat.blt at hw; exact Nat.le_of_ble_eq_true hw
      rw [show ((st.2 + 1 : Nat) : Int) = (st.2 : Int) + 1 by omega] at hKK
      refine go_false hf ?_
      wtm_at "r7"
      refine l_set (by assumption) (by with_reducible wtm_at "upd") (by omega) (by omega) (by omega) ?_; intro _ _
      wtm_at "r7"
      have S9 := St.unname (a := L) (by assumption) (by with_reducible wtm_at "upd")
      wtm_at "kk"; exact ⟨_, ⟨_, _, rfl, hp.set _ _ _⟩, S9⟩
    · rw [hf] at hw hKK
      simp only [if_true] at hw hKK
      refine go_true hf ?_
      wtm_at "r7"
      refine i_text (by assumption) (beq_iff_eq.mp hw) (by omega) fun u s₉ S₉ => ?_
      wtm_at "r7"
      have S9 := St.unname (a := L) (by assumption) (by with_reducible wtm_at "upd")
      wtm_at "kk"; exact ⟨_, ⟨_, _, rfl, hp⟩, S9⟩
  · rintro n₁ s₅ ⟨ps, tc, rfl, hp⟩ S₅
    show wpAny _ _ (execs _ _) _ _ _
    have S6 := S₅.shrink hgg
    wtm_at "r7"
    rw [show us.length = (Txt.words x).length from ul, show wwTo xs (Txt.words x) (Txt.words x).length = (Txt.words x).foldl wwStep (xs, 0) by unfold wwTo; rw [List.take_length]] at hp
    wtm_at "kk"; exact hR _ _ _ (NewL.of S6 hg (by with_reducible wtm_at "mem")) hp
theorem base_spec (B : BaseOk) {w : World} {A : Around} {d : Nat} {R : Result → Shared → Prop} {s : Shared} {x : Str} {t : Tok} (fs : List Addr) (mode : Mode A s.heap fs (baseOf x).isSome) (rm : Room A d) (hd : d ≤ 40) (W : Wld w s.heap) (hW : Wld w (hideAll s.heap fs))
    (hR : ∀ ys s' p ps, baseOf x = some ys → NewL s s' p ps → Strs ps ys → R (.ok (.ret (.ref p))) s') (hE : baseOf x = none → ∀ e s', Raised fs s s' e → R (.error e) s') :
    codeAny (Mo w) A (.call (.ref 337) ⟨[.str x t], []⟩) R s := by
  refine fn_enterE fs (baseOf x).isSome mode W rm (by rfl) (by decide +kernel) (BindsTo.of_eq (binds := [(Str.ofString "encoding", .str x t)]) (by kernel_rfl)) (by kernel_rfl) hW (fun q => hE (by simpa using q)) (fun g L s₁ env A' hg W S fe rm' way _ KK hKK => ?_) (by omega)
  clear hW
  wtm_at "r7"
  refine e_list (k := s) (g := g) ?_
  wtm_at "r7"
  wtm_at "kk"; refine ⟨_, by assumption, Nat.le_of_ble_eq_true (by rfl), fun c1 s₂ S2 => ?_⟩
  wtm_at "r7"
  refine l_mul (m := 32) (by assumption) (by with_reducible wtm_at "mem") (by decide) (by show 1 ≤ 1000; decide) fun c2 s₃ S3 => ?_
  wtm_at "r7"
  refine ascii_spec rm' (dle (by assumption) (by rfl)) (W.keeps S3.keep) fun s₄ c3 vs N hv => ?_
  have S4 := S3.newL N
  have l3 := hv.length
  rw [B.ascii] at l3
  show wpAny _ _ (binaryOp _ _ _) _ _ _
  refine l_add S4 (by with_reducible wtm_at "mem") (by with_reducible wtm_at "mem") (by simp only [rep_len]; wtm_at "sz") fun c4 s₅ S5 => ?_
  wtm_at "r7"
  refine e_list (k := s) (g := g) ?_
  wtm_at "r7"
  wtm_at "kk"; refine ⟨_, by assumption, Nat.le_of_ble_eq_true (by rfl), fun c5 s₆ S6 => ?_⟩
  wtm_at "r7"
  refine l_mul (m := 129) (by assumption) (by with_reducible wtm_at "mem") (by decide) (by show 1 ≤ 1000; decide) fun c6 s₇ S7 => ?_
  refine l_add S7 (by with_reducible wtm_at "mem") (by with_reducible wtm_at "mem") (by simp only [rep_len, List.length_append]; wtm_at "sz") fun c7 s₈ S8 => ?_
  obtain ⟨vs7, S9, h7⟩ := S8.someL (xs := names0) (((Strs.rep _ _ 32).append hv).append (Strs.rep _ _ 129))
  have l7 := h7.length
  rw [B.n0] at l7
  have n0 := B.n0
  clear S S2 S3 S4 S5 S6 S7 S8
  wtm_at "r7"
  by_cases q1 : x = Str.ofString "StandardEncoding"
  · have eb : baseOf x = some stdL := by unfold baseOf; rw [if_pos q1]
    have fs0 : fs = [] := by rcases mode with ⟨_, h⟩ | ⟨h, _⟩; exact h; rw [eb] at h; cases h
    subst fs0
    refine go_true (by simpa using q1) ?_
    wtm_at "r7"
    refine ⟨W.keeps (St.keep (by assumption)), words_spec rm' (dle (by assumption) (by rfl)) (W.keeps (St.keep (by assumption))) (St.isList (by assumption) (by with_reducible wtm_at "mem")) h7 (by omega) sl24 (by rw [n0]; exact B.w24) fun s' p ps N hp => ?_⟩
    have S10 := St.newL (by assumption) N
    wtm_at "kk"; exact hR _ _ _ _ eb (NewL.of S10 hg (by with_reducible wtm_at "mem")) hp
  refine go_false (by simpa using q1) ?_
  wtm_at "r7"
  by_cases q2 : x = Str.ofString "MacRomanEncoding"
  · have eb : baseOf x = some macL := by unfold baseOf; rw [if_neg q1, if_pos q2]
    have fs0 : fs = [] := by rcases mode with ⟨_, h⟩ | ⟨h, _⟩; exact h; rw [eb] at h; cases h
    subst fs0
    refine go_true (by simpa using q2) ?_
    wtm_at "r7"
    refine ⟨W.keeps (St.keep (by assumption)), words_spec rm' (dle (by assumption) (by rfl)) (W.keeps (St.keep (by assumption))) (St.isList (by assumption) (by with_reducible wtm_at "mem")) h7 (by omega) sl26 (by rw [n0]; exact B.w26) fun s' p ps N hp => ?_⟩
    have S10 := St.newL (by assumption) N
    wtm_at "kk"; exact hR _ _ _ _ eb (NewL.of S10 hg (by with_reducible wtm_at "mem")) hp
  refine go_false (by simpa using q2) ?_
  wtm_at "r7"
  by_cases q3 : x = Str.ofString "WinAnsiEncoding"
  · have eb : baseOf x = some winL := by unfold baseOf; rw [if_neg q1, if_neg q2, if_pos q3]
    have fs0 : fs = [] := by rcases mode with ⟨_, h⟩ | ⟨h, _⟩; exact h; rw [eb] at h; cases h
    subst fs0
    refine go_true (by simpa using q3) ?_
    wtm_at "r7"
    refine e_upto (k := s) (g := g) ?_ (fun _ _ => by wtm_at "rf")
    wtm_at "r7"
    refine ⟨c7, vs7, 161, _, _, rfl, rfl, by assumption, St.isList (by assumption) (by with_reducible wtm_at "mem"), by wtm_at "sz", fun c8 s₉ S9 => ?_⟩
    have lt : (names0.take 161).length = 161 := by rw [List.length_take, n0]; rfl
    wtm_at "r7"
    refine ⟨W.keeps (St.keep (by assumption)), words_spec rm' (dle (by assumption) (by rfl)) (W.keeps (St.keep (by assumption))) (St.isList (by assumption) (by with_reducible wtm_at "mem")) (h7.take 161) (by omega) sl25 (by rw [lt]; exact B.w25) fun s' p ps N hp => ?_⟩
    have S10 := St.newL (by assumption) N
    have lp := hp.length
    have lw : (withWords (names0.take 161) (Txt.words (strAt 25))).length = 161 := by
      have := wwTo_len (names0.take 161) (Txt.words (strAt 25)) (Txt.words (strAt 25)).length
      unfold wwTo at this
      rw [List.take_length] at this
      exact this.trans lt
    rw [lw] at lp
    show wpAny _ _ (eval _ _) _ _ _
    wtm_at "r7"
    refine latin_spec B.latin rm' (dle (by assumption) (by rfl)) (W.keeps (St.keep (by assumption))) fun s'' q qs N2 hq => ?_
    have S11 := St.newL (by assumption) N2
    have lq := hq.length
    have ll : latinL.length = 95 := by unfold latinL; simp [B.latin.1]
    rw [ll] at lq
    show wpAny _ _ (binaryOp _ _ _) _ _ _
    refine l_add S11 (by with_reducible wtm_at "mem") (by with_reducible wtm_at "mem") (by wtm_at "sz") fun c9 s10 S12 => ?_
    obtain ⟨ws, S12, hws⟩ := S12.someL (xs := winN) (hp.append hq)
    have lws := hws.length
    have lwn : winN.length = 256 := by unfold winN; rw [List.length_append, lw, ll]
    rw [lwn] at lws
    wtm_at "r7"
    refine e_upto (k := s) (g := g) ?_ (fun _ _ => by wtm_at "rf")
    wtm_at "r7"
    refine ⟨c9, ws, 33, _, _, rfl, rfl, by assumption, St.isList (by assumption) (by with_reducible wtm_at "mem"), by wtm_at "sz", fun c10 s11 S13 => ?_⟩
    refine e_comp (k := s) fe (cl' := []) (by rfl) (by decide +kernel) (by decide +kernel) (by decide +kernel) (by decide +kernel) ?_ (fun _ => by wtm_at "rf")
    refine e_from (k := s) (g := g) ?_ (fun _ _ => by wtm_at "rf")
    wtm_at "r7"
    refine ⟨c9, ws, 33, _, _, rfl, rfl, by assumption, St.isList (by assumption) (by with_reducible wtm_at "mem"), by wtm_at "sz", fun c11 s12 S14 => ?_⟩
    obtain ⟨g', hgg, hl, S15⟩ := S14.freeze
    have W₂ : Wld w g' := W.keeps hgg
    have hcut := hws.drop 33
    refine p_list S15 hl fun I s13 S16 => ?_
    have hlen : (ws.drop 33).length = 223 := by rw [List.length_drop]; omega
    refine ⟨g', I, (ws.drop 33).length, _, _, _, fun i ys n => (∃ n0, n = n0 ∧ (c10, .lst (ws.take 33)) ∈ n0 ∧ n0 = _) ∧ i ≤ 223 ∧ Strs ys (((winN.drop 33).take i).map bulletOf), rfl, It.list rm'.handled hl I, by rw [hlen]; wtm_at "sz", S16, ⟨⟨_, rfl, by with_reducible wtm_at "mem", rfl⟩, by decide, .nil⟩, fun i ys n h => ?_, fun s Q E h hQ => self_list (l := c11) s Q E h hQ, ?_, ?_⟩
    · have hl2 : (winN.drop 33).length = 223 := hcut.length.symm.trans hlen
      rw [h.2.2.length, List.length_map, List.length_take, hl2]; omega
    · rintro C acc cenv i v ys n₁ s₁ E₂ hi hv ⟨⟨_, rfl, _, rfl⟩, hi31, hy⟩ fe' S₁
      intro KK hKK
      obtain ⟨y, ty, hx, rfl⟩ := hcut.back hv
      clear fe
      rw [hlen] at hi
      wtm_at "r7"
      by_cases hz : y = Str.ofString ""
      · refine go_true (by simpa using hz) ?_
        wtm_at "r7"
        wtm_at "kk"; refine ⟨_, ⟨⟨_, rfl, by with_reducible wtm_at "mem", rfl⟩, hi, ?_⟩, by assumption⟩
        have := hy.map_snoc (f := bulletOf) (t := ‹Tok›) hx
        rw [show bulletOf y = Str.ofString "bullet" by unfold bulletOf; rw [if_pos hz]] at this
        exact this
      · refine go_false (by simpa using hz) ?_
        wtm_at "r7"
        wtm_at "kk"; refine ⟨_, ⟨⟨_, rfl, by with_reducible wtm_at "mem", rfl⟩, hi, ?_⟩, by assumption⟩
        have := hy.map_snoc (f := bulletOf) (t := ty) hx
        rw [show bulletOf y = y by unfold bulletOf; rw [if_neg hz]] at this
        exact this
    · rintro acc ys n₁ s₁ ⟨⟨_, rfl, _, rfl⟩, _, hy⟩ S₁
      rw [hlen] at hy
      have S17 := S₁.shrink hgg
      wtm_at "r7"
      have ly := hy.length
      rw [List.length_map, List.length_take, List.length_drop, lwn] at ly
      refine l_add S17 (by with_reducible wtm_at "mem") (by with_reducible wtm_at "mem") (by rw [List.length_take]; wtm_at "sz") fun c12 s14 S18 => ?_
      wtm_at "kk"; refine hR _ _ _ _ eb (NewL.of S18 hg (by with_reducible wtm_at "mem")) ((hws.take 33).append ?_)
      rwa [List.take_of_length_le (by rw [List.length_drop, lwn]; decide)] at hy
  · have eb : baseOf x = none := by unfold baseOf; rw [if_neg q1, if_neg q2, if_neg q3]
    refine go_false (by simpa using q3) ?_
    wtm_at "r7"
    refine x_cons (raise_st (k := s) (g := g) rm'.handled W ?_)
    wtm_at "r7"
    refine ⟨W.keeps (St.keep (by assumption)), fault_new rm' (dle (by assumption) (by rfl)) (W.keeps (St.keep (by assumption))) fun s' e Se => ?_⟩
    have S10 := St.more (by assumption) Se
    exact ⟨e, _, rfl, S10, by rw [eb]; rfl, flewN_of S10 (by repeat (first | exact Hold.base | apply Hold.cons))⟩
section
variable {w : World} {A : Around} {E : Value → Shared → Prop} {k : Shared} {g : Heap} {d : Nat} {s : Shared} {n n' n'' : Led}
theorem draw_at {P C : Addr} {m : Nat} {lim : Int} {t : Tok} {R : Result → Shared → Prop} (W : Wld w g) (S : St k g n s) (u : Upd P (.prop (potD C (m + 1))) (.prop (potD C m)) n n') (hC : (C, .prop cellsD) ∈ n') (hC0 : (C, .prop cellsD) ∈ n) (hP : (P, .prop (potD C (m + 1))) ∈ n') (hn : P ≠ C) (rm : Room A d) (hd : d ≤ 40) (hm : m ≤ 1000)
    (h0 : 0 < lim) (h1 : lim ≤ 256) (hR : ∀ s' v t, St k g n' s' → 0 ≤ v → v < lim → R (.ok (.ret (.int v t))) s') : Wld w s.heap ∧ codeAny (Mo w) A (.call (.ref 389) ⟨[.ref P, .int lim t], []⟩) R s := by
  have hX : ∀ p ∈ potX P C m, p ∈ n := fun p hp => by
    simp only [potX, List.mem_cons, List.not_mem_nil, or_false] at hp
    rcases hp with rfl | rfl
    · exact u.mem
    · exact hC0
  have S' := S.pot (m + 1) u (Nat.le_succ m)
  refine ⟨W.keeps S.keep, draw_spec rm hd hm (W.keeps S.keep) (fun p hp => (S.led p (hX p hp)).1) hn (W.keeps (S.hide (X := potX P C m) hX)) h0 h1 fun s' v t Ef h2 h3 => hR _ _ _ (S'.eff Ef fun p hp => ?_) h2 h3⟩
  simp only [potX, List.mem_cons, List.not_mem_nil, or_false] at hp
  rcases hp with rfl | rfl
  · exact hP
  · exact hC
end
local macro_rules | `(tactic| wtm_at "qd") => `(tactic| ((with_reducible guard_target = Wld _ _ ∧ codeAny _ _ (Code.call (Value.ref 389) _) _ _); refine draw_at (by assumption) (by assumption) (by wtm_at "ur") (by wtm_at "mr") (by wtm_at "mr") (by wtm_at "mr") (by assumption) (by assumption) (by first | exact dle (by assumption) (by rfl) | exact Nat.le_of_ble_eq_true (by rfl)) (by omega) (by decide) (by decide) ?_; intro _ _ _ _ _ _; first | show wpAny _ _ (eval _ _) _ _ _ | show wpAny _ _ (execs _ _) _ _ _ | show wpAny _ _ (storeName _ _ _) _ _ _ | show wpAny _ _ (spliced _) _ _ _ | show wpAny _ _ (binaryOp _ _ _) _ _ _ | show wpAny _ _ (compareOp _ _ _) _ _ _ | show wpAny _ _ (subscriptTail _ _ _ _) _ _ _))
local macro_rules | `(tactic| wtm_at "r8") => `(tactic| repeat' first | wtm_at "q7" | wtm_at "qd")
theorem wd_spec {w : World} {A : Around} {d : Nat} {R : Result → Shared → Prop} {s : Shared} {a pl : Addr} {vs ws : List Value} {xs : List Str} {ps : List (Option Part)} (fs : List Addr) (mode : Mode A s.heap fs (withDiff xs ps).isSome) (rm : Room A d) (hd : d ≤ 40) (W : Wld w s.heap)
    (hW : Wld w (hideAll s.heap fs)) (ha : (hideAll s.heap fs).IsList a vs.toArray) (hx : Strs vs xs) (hxl : xs.length = 256) (hp : (hideAll s.heap fs).IsList pl ws.toArray) (hps : All3 (pvH (hideAll s.heap fs)) ws ps) (hpl : ps.length ≤ 10000)
    (hR : ∀ ys s' p vs', withDiff xs ps = some ys → NewL s s' p vs' → Strs vs' ys → R (.ok (.ret (.ref p))) s') (hE : withDiff xs ps = none → ∀ e s', Raised fs s s' e → R (.error e) s') :
    codeAny (Mo w) A (.call (.ref 344) ⟨[.ref a, .ref pl], []⟩) R s := by
  refine fn_enterE fs (withDiff xs ps).isSome mode W rm (by rfl) (by decide +kernel) (BindsTo.of_eq (binds := [(Str.ofString "names", .ref a), (Str.ofString "parts", .ref pl)]) (by kernel_rfl)) (by kernel_rfl) hW (fun q => hE (by simpa using q)) (fun g L s₁ env A' hg W S fe rm' way _ KK hKK => ?_) (by omega)
  clear hW
  rw [← hg] at ha hp hps
  have lx := hx.length
  have lw := hps.length
  wtm_at "r7"
  refine l_copy (by assumption) (ha.at fun o e => St.keep (by assumption) _ o e) (by wtm_at "sz") fun P s₂ S₂ => ?_
  wtm_at "r7"
  refine e_neg (k := s) (g := g) ?_
  wtm_at "r7"
  wtm_at "kk"; refine ⟨_, _, rfl, _, by assumption, fun _ _ _ => ?_⟩
  wtm_at "r7"
  refine p_list (by assumption) hp fun I s₅ S₅ => ?_
  refine loop_itE way (It.list (A := A') rm'.handled hp I) S₅ (fun i n => ∃ st vs' tc, wdTo xs ps i = some st ∧ st.1.length = 256 ∧ Strs vs' st.1 ∧ n = wdLed s L P a pl fs vs' st.2 tc) ⟨(xs, -1), vs, _, rfl, hxl, hx, rfl⟩ ?_ ?_
  · rintro i v n₁ s₆ hi hv ⟨st, vs', tc, est, hl, hvs, rfl⟩ S₆
    intro KK hKK
    obtain ⟨p, hpi, hpv⟩ := hps.get hv
    have es := wdTo_succ hpi est
    have lv := hvs.length
    rw [hl] at lv
    have kn : ∀ ty, HasTy g v ty → ty.ok = true → ty ≠ .str → ∀ s₇ n₇ (Q : Result → Shared → Prop), St s g n₇ s₇ → (∀ s' t, St s g n₇ s' → Q (.ok (.ret (.str (kindWord ty) t))) s') → Wld w s₇.heap ∧ codeAny (Mo w) A' (.call (.ref 279) ⟨[v], []⟩) Q s₇ := fun ty h1 h2 h3 s₇ n₇ Q S7 hQ =>
      ⟨W.keeps S7.keep, kind_spec rm' (dle (by assumption) (by rfl)) (W.keeps S7.keep) (h1.keeps S7.keep) h2 h3 fun s' t Ef => hQ s' t (S7.eff Ef (fun _ h => nomatch h))⟩
    cases p with
    | none =>
      obtain ⟨ty, h1, h2, h3, h4, h5⟩ := hpv
      obtain ⟨k1, k2⟩ := kw_bad h2 h4 h5
      have en : withDiff xs ps = none := withDiff_none es
      wtm_at "r7"
      refine kn ty h1 h2 h3 _ _ _ (by assumption) fun s₇ t₇ S7 => ?_
      show wpAny _ _ (eval _ _) _ _ _
      wtm_at "r7"
      refine go_false k1 ?_
      wtm_at "r7"
      refine kn ty h1 h2 h3 _ _ _ (by assumption) fun s₈ t₈ S8 => ?_
      show wpAny _ _ (eval _ _) _ _ _
      wtm_at "r7"
      refine go_false k2 ?_
      refine x_cons (raise_st (k := s) (g := g) rm'.handled W ?_)
      wtm_at "r7"
      refine ⟨W.keeps (St.keep (by assumption)), fault_new rm' (dle (by assumption) (by rfl)) (W.keeps (St.keep (by assumption))) fun s' e Se => ?_⟩
      have S10 := St.more (by assumption) Se
      exact ⟨e, _, rfl, S10, by rw [en]; rfl, flewN_of S10 (by repeat (first | exact Hold.base | apply Hold.cons))⟩
    | some p =>
      cases p with
      | code j =>
        obtain ⟨tj, rfl⟩ := hpv
        wtm_at "r7"
        refine kn .int ⟨_, _, rfl⟩ rfl (by decide) _ _ _ (by assumption) fun s₇ t₇ S7 => ?_
        show wpAny _ _ (eval _ _) _ _ _
        wtm_at "r7"
        by_cases j0 : 0 ≤ j
        rotate_left
        · have en : withDiff xs ps = none := withDiff_none (es.trans (if_neg fun h => j0 h.1))
          refine go_false (by simpa using j0) ?_
          refine go_true (by rfl) ?_
          refine x_cons (raise_st (k := s) (g := g) rm'.handled W ?_)
          wtm_at "r7"
          refine ⟨W.keeps (St.keep (by assumption)), fault_new rm' (dle (by assumption) (by rfl)) (W.keeps (St.keep (by assumption))) fun s' e Se => ?_⟩
          have S10 := St.more (by assumption) Se
          exact ⟨e, _, rfl, S10, by rw [en]; rfl, flewN_of S10 (by repeat (first | exact Hold.base | apply Hold.cons))⟩
        refine go_true (by simpa using j0) ?_
        wtm_at "r7"
        by_cases j1 : j ≤ 255
        rotate_left
        · have en : withDiff xs ps = none := withDiff_none (es.trans (if_neg fun h => j1 h.2))
          refine go_true (by simpa using j1) ?_
          refine x_cons (raise_st (k := s) (g := g) rm'.handled W ?_)
          wtm_at "r7"
          refine ⟨W.keeps (St.keep (by assumption)), fault_new rm' (dle (by assumption) (by rfl)) (W.keeps (St.keep (by assumption))) fun s' e Se => ?_⟩
          have S10 := St.more (by assumption) Se
          exact ⟨e, _, rfl, S10, by rw [en]; rfl, flewN_of S10 (by repeat (first | exact Hold.base | apply Hold.cons))⟩
        refine go_false (by simpa using j1) ?_
        have es' := es.trans (if_pos ⟨j0, j1⟩)
        wtm_at "r7"
        have S9 := St.unname (a := L) (by assumption) (by with_reducible wtm_at "upd")
        wtm_at "kk"; exact ⟨_, ⟨_, _, _, es', hl, hvs, rfl⟩, S9⟩
      | name y =>
        obtain ⟨b, ty, rfl, hI⟩ := hpv
        have hT : HasTy g (.ref b) (.inst 197) := ⟨_, _, rfl, hI⟩
        wtm_at "r7"
        refine kn _ hT rfl (by decide) _ _ _ (by assumption) fun s₇ t₇ S7 => ?_
        show wpAny _ _ (eval _ _) _ _ _
        wtm_at "r7"
        refine kn _ hT rfl (by decide) _ _ _ (by assumption) fun s₈ t₈ S8 => ?_
        show wpAny _ _ (eval _ _) _ _ _
        wtm_at "r7"
        by_cases j0 : 0 ≤ st.2
        rotate_left
        · have en : withDiff xs ps = none := withDiff_none (es.trans (if_neg fun h => j0 h.1))
          refine go_false (by simpa using j0) ?_
          refine go_true (by rfl) ?_
          refine x_cons (raise_st (k := s) (g := g) rm'.handled W ?_)
          wtm_at "r7"
          refine ⟨W.keeps (St.keep (by assumption)), fault_new rm' (dle (by assumption) (by rfl)) (W.keeps (St.keep (by assumption))) fun s' e Se => ?_⟩
          have S10 := St.more (by assumption) Se
          exact ⟨e, _, rfl, S10, by rw [en]; rfl, flewN_of S10 (by repeat (first | exact Hold.base | apply Hold.cons))⟩
        refine go_true (by simpa using j0) ?_
        wtm_at "r7"
        by_cases j1 : st.2 ≤ 255
        rotate_left
        · have en : withDiff xs ps = none := withDiff_none (es.trans (if_neg fun h => j1 h.2))
          refine go_true (by simpa using j1) ?_
          refine x_cons (raise_st (k := s) (g := g) rm'.handled W ?_)
          wtm_at "r7"
          refine ⟨W.keeps (St.keep (by assumption)), fault_new rm' (dle (by assumption) (by rfl)) (W.keeps (St.keep (by assumption))) fun s' e Se => ?_⟩
          have S10 := St.more (by assumption) Se
          exact ⟨e, _, rfl, S10, by rw [en]; rfl, flewN_of S10 (by repeat (first | exact Hold.base | apply Hold.cons))⟩
        refine go_false (by simpa using j1) ?_
        have es' := es.trans (if_pos ⟨j0, j1⟩)
        wtm_at "r7"
        refine i_get (W.keeps (St.keep (by assumption))) (by assumption) (hI.keeps (St.keep (by assumption))) rfl (by kernel_rfl) (by kernel_rfl) (attr := none) (by kernel_rfl) rfl rfl fun _ _ => ?_
        wtm_at "r7"
        rw [show ctVal (ctAt 19) 592 = Value.str (Str.ofString ".notdef") 592 from rfl]
        wtm_at "r7"
        by_cases jz : y = Str.ofString ".notdef"
        · have eg : glyphOf y = Str.ofString "" := if_pos jz
          rw [eg] at es'
          refine go_true (by simpa using jz) ?_
          wtm_at "r7"
          refine l_set (by assumption) (by with_reducible wtm_at "upd") j0 (by omega) (by omega) ?_; intro _ _
          wtm_at "r7"
          have S9 := St.unname (a := L) (by assumption) (by with_reducible wtm_at "upd")
          wtm_at "kk"; exact ⟨_, ⟨_, _, _, es', by rw [List.length_set]; exact hl, hvs.set _ _ _, rfl⟩, S9⟩
        · have eg : glyphOf y = y := if_neg jz
          rw [eg] at es'
          refine go_false (by simpa using jz) ?_
          wtm_at "r7"
          refine i_get (W.keeps (St.keep (by assumption))) (by assumption) (hI.keeps (St.keep (by assumption))) rfl (by kernel_rfl) (by kernel_rfl) (attr := none) (by kernel_rfl) rfl rfl fun _ _ => ?_
          wtm_at "r7"
          refine l_set (by assumption) (by with_reducible wtm_at "upd") j0 (by omega) (by omega) ?_; intro _ _
          wtm_at "r7"
          have S9 := St.unname (a := L) (by assumption) (by with_reducible wtm_at "upd")
          wtm_at "kk"; exact ⟨_, ⟨_, _, _, es', by rw [List.length_set]; exact hl, hvs.set _ _ _, rfl⟩, S9⟩
  · rintro n₁ s₅ ⟨st, vs', tc, est, hl, hvs, rfl⟩ S₅
    rw [lw] at est
    have en := withDiff_all est
    have fs0 : fs = [] := by rcases mode with ⟨_, h⟩ | ⟨h, _⟩; exact h; rw [en] at h; cases h
    subst fs0
    show wpAny _ _ (execs _ _) _ _ _
    wtm_at "r7"
    wtm_at "kk"; exact hR _ _ _ _ en (NewL.of S₅ hg (by with_reducible wtm_at "mem")) hvs
section
variable {w : World} {A : Around} {d : Nat} {s : Shared} {R : Result → Shared → Prop}
theorem string_new {v : Value} (rm : Room A d) (hd : d ≤ 45) (W : Wld w s.heap) (hR : ∀ s' x dx, NewI s s' x dx 219 [(Str.ofString "octets", v), (Str.ofString "is_hex", .bool false)] → R (.ok (.ret (.ref x))) s') :
    codeAny (Mo w) A (.call (.ref 219) ⟨[v], []⟩) R s := by
  refine new_cls W St.base (by kernel_rfl) (fI := 216) (by kernel_rfl) (by kernel_rfl) fun x dx s₁ h0 h1 hk S₁ => ?_
  refine fn_enter0 [(x, .obj (instObj 219 dx)), (dx, .prop (dicD []))] (W.keeps hk) (Room.under rm) (by rfl) (by decide +kernel) (BindsTo.of_defaults (binds := [(Str.ofString "self", .ref x), (Str.ofString "octets", v), (Str.ofString "is_hex", .bool false)]) (T := 209) (n := 0) rfl ((W.keeps hk).top 209 _ rfl) rfl rfl (by kernel_rfl)) (by kernel_rfl)
    (fun p hp => (S₁.led p hp).1) S₁.nd (W.keeps (S₁.hide fun _ h => h)) (fun g L s₂ env A' E' hg W' S fe rm' KK hKK => ?_) (by omega)
  have hh := S₁.hide (X := [(x, .obj (instObj 219 dx)), (dx, .prop (dicD []))]) fun _ h => h
  rw [← hg] at hh
  clear hg W hk
  wtm_at "r7"
  refine i_set (W'.keeps (St.keep (by assumption))) (by assumption) (by with_reducible wtm_at "mem") (by with_reducible wtm_at "upd") (by kernel_rfl) (by decide) (by kernel_rfl) (by kernel_rfl) (by kernel_rfl) (by kernel_rfl) fun s₃ S₃ => ?_
  wtm_at "r7"
  refine i_set (W'.keeps (St.keep (by assumption))) (by assumption) (by with_reducible wtm_at "mem") (by with_reducible wtm_at "upd") (by kernel_rfl) (by show 1 ≤ 100; decide) (by kernel_rfl) (by kernel_rfl) (by kernel_rfl) (by kernel_rfl) fun s₄ S₄ => ?_
  wtm_at "r7"
  exact ⟨rfl, hR _ _ _ (NewI.of S₁ h0 h1 S₄ hh (by with_reducible wtm_at "mem") (by wtm_at "mem"))⟩
theorem ref_new {v u : Value} (rm : Room A d) (hd : d ≤ 45) (W : Wld w s.heap) (hR : ∀ s' x dx, NewI s s' x dx 268 [(Str.ofString "number", v), (Str.ofString "generation", u)] → R (.ok (.ret (.ref x))) s') :
    codeAny (Mo w) A (.call (.ref 268) ⟨[v, u], []⟩) R s := by
  refine new_cls W St.base (by kernel_rfl) (fI := 258) (by kernel_rfl) (by kernel_rfl) fun x dx s₁ h0 h1 hk S₁ => ?_
  refine fn_enter0 [(x, .obj (instObj 268 dx)), (dx, .prop (dicD []))] (W.keeps hk) (Room.under rm) (by rfl) (by decide +kernel) (BindsTo.of_eq (binds := [(Str.ofString "self", .ref x), (Str.ofString "number", v), (Str.ofString "generation", u)]) (by kernel_rfl)) (by kernel_rfl)
    (fun p hp => (S₁.led p hp).1) S₁.nd (W.keeps (S₁.hide fun _ h => h)) (fun g L s₂ env A' E' hg W' S fe rm' KK hKK => ?_) (by omega)
  have hh := S₁.hide (X := [(x, .obj (instObj 268 dx)), (dx, .prop (dicD []))]) fun _ h => h
  rw [← hg] at hh
  clear hg W hk
  wtm_at "r7"
  refine i_set (W'.keeps (St.keep (by assumption))) (by assumption) (by with_reducible wtm_at "mem") (by with_reducible wtm_at "upd") (by kernel_rfl) (by decide) (by kernel_rfl) (by kernel_rfl) (by kernel_rfl) (by kernel_rfl) fun s₃ S₃ => ?_
  wtm_at "r7"
  refine i_set (W'.keeps (St.keep (by assumption))) (by assumption) (by with_reducible wtm_at "mem") (by with_reducible wtm_at "upd") (by kernel_rfl) (by show 1 ≤ 100; decide) (by kernel_rfl) (by kernel_rfl) (by kernel_rfl) (by kernel_rfl) fun s₄ S₄ => ?_
  wtm_at "r7"
  exact ⟨rfl, hR _ _ _ (NewI.of S₁ h0 h1 S₄ hh (by with_reducible wtm_at "mem") (by wtm_at "mem"))⟩
theorem lookup_new {a b : Addr} (rm : Room A d) (hd : d ≤ 45) (W : Wld w s.heap) (hR : ∀ s' x dx, NewI s s' x dx 311 [(Str.ofString "table", .ref a), (Str.ofString "trailer", .ref b)] → R (.ok (.ret (.ref x))) s') :
    codeAny (Mo w) A (.call (.ref 311) ⟨[.ref a, .ref b], []⟩) R s := by
  refine new_cls W St.base (by kernel_rfl) (fI := 294) (by kernel_rfl) (by kernel_rfl) fun x dx s₁ h0 h1 hk S₁ => ?_
  refine fn_enter0 [(x, .obj (instObj 311 dx)), (dx, .prop (dicD []))] (W.keeps hk) (Room.under rm) (by rfl) (by decide +kernel) (BindsTo.of_defaults (binds := [(Str.ofString "self", .ref x), (Str.ofString "table", .ref a), (Str.ofString "trailer", .ref b)]) (T := 287) (n := 0) rfl ((W.keeps hk).top 287 _ rfl) rfl rfl (by kernel_rfl)) (by kernel_rfl)
    (fun p hp => (S₁.led p hp).1) S₁.nd (W.keeps (S₁.hide fun _ h => h)) (fun g L s₂ env A' E' hg W' S fe rm' KK hKK => ?_) (by omega)
  have hh := S₁.hide (X := [(x, .obj (instObj 311 dx)), (dx, .prop (dicD []))]) fun _ h => h
  rw [← hg] at hh
  clear hg W hk
  wtm_at "r7"
  refine i_set (W'.keeps (St.keep (by assumption))) (by assumption) (by with_reducible wtm_at "mem") (by with_reducible wtm_at "upd") (by kernel_rfl) (by decide) (by kernel_rfl) (by kernel_rfl) (by kernel_rfl) (by kernel_rfl) fun s₃ S₃ => ?_
  wtm_at "r7"
  refine i_set (W'.keeps (St.keep (by assumption))) (by assumption) (by with_reducible wtm_at "mem") (by with_reducible wtm_at "upd") (by kernel_rfl) (by show 1 ≤ 100; decide) (by kernel_rfl) (by kernel_rfl) (by kernel_rfl) (by kernel_rfl) fun s₄ S₄ => ?_
  wtm_at "r7"
  exact ⟨rfl, hR _ _ _ (NewI.of S₁ h0 h1 S₄ hh (by with_reducible wtm_at "mem") (by wtm_at "mem"))⟩
theorem fetch_spec {x T T2 : Addr} {kvs : List (Int × Value)} {v u : Value} (rm : Room A d) (hd : d ≤ 40) (W : Wld w s.heap) (hI : InstH s.heap x 311 [(Str.ofString "table", .ref T), (Str.ofString "trailer", .ref T2)])
    (hT : DicH (PySem.intKind prg w) s.heap T kvs) (hv : ResH s.heap kvs v u) (hR : ∀ s', Eff [] s s' → R (.ok (.ret u)) s') :
    codeAny (Mo w) A (.call (.ref 301) ⟨[.ref x, v], []⟩) R s := by
  refine fn_enter0 [] W rm (by rfl) (by decide +kernel) (BindsTo.of_eq (binds := [(Str.ofString "self", .ref x), (Str.ofString "value", v)]) (by kernel_rfl)) (by kernel_rfl) (fun _ hp => nomatch hp) .nil W (fun g L s₁ env A' E' hg W S fe rm' KK hKK => ?_) (dle0 (by assumption) (by rfl))
  have e0 : s.heap = g := by rw [hg]; rfl
  rw [e0] at hI hT hv
  have fin : ∀ {n' : Led} {s' : Shared}, St s g n' s' → Eff [] s s' := fun S => St.toEff (X := []) (by rw [hg] at S; exact S) (fun _ hp => nomatch hp)
  obtain ⟨nr, hv⟩ := hv
  wtm_at "r7"
  rw [show ctVal (ctAt 10) 398 = Value.int (30 : Nat) 398 from rfl]
  refine r_range (N := 30) (by assumption) fun r t1 t2 t3 s₃ S₃ => ?_
  refine p_range S₃ (by decide) fun I s₄ S₄ => ?_
  clear S₃
  refine loop_it (It.range (A := A') (g := g) rm'.handled I) S₄ (fun i n => (i = 0 ∧ n = [(L, .ns [(Str.ofString "here", v), (Str.ofString "self", .ref x), (Str.ofString "value", v)])]) ∨ (i = 1 ∧ ∃ q vs v1 v2 v3, n = [(q, .obj (tupO vs)), (L, .ns [(Str.ofString "found", v1), (Str.ofString "generation", v2), (Str.ofString "hop", v3), (Str.ofString "here", u), (Str.ofString "self", .ref x), (Str.ofString "value", v)])])) (.inl ⟨rfl, rfl⟩) ?_ ?_
  · rintro i v' n₁ s₅ E₂ hi ⟨ti, rfl⟩ (⟨rfl, rfl⟩ | ⟨rfl, q, vs, v1, v2, v3, rfl⟩) S₅
    all_goals intro KK hKK
    · rcases hv with rfl | ⟨y, m, tm, tg, tp, tg', rfl, hI2, hval, htup⟩
      · obtain ⟨ty, h1, h2, h3⟩ := nr
        wtm_at "r7"
        refine go_true (by simp [h3]) ?_
        wtm_at "r7"
        wtm_at "kk"; exact hR _ (fin (by assumption))
      · have hT2 : HasTy g (.ref y) (.inst 268) := ⟨_, _, rfl, hI2⟩
        wtm_at "r7"
        refine x_step (u_pair (k := s) (g := g) rm'.handled ?_ (by wtm_at "rf") (by wtm_at "rf"))
        wtm_at "r7"
        refine i_get (W.keeps (St.keep (by assumption))) (by assumption) (hI.keeps (St.keep (by assumption))) rfl (by kernel_rfl) (by kernel_rfl) (attr := none) (by kernel_rfl) rfl rfl fun _ _ => ?_
        refine d_meth (hT.keeps (St.keep (by assumption))) ?_
        wtm_at "r7"
        refine i_get (W.keeps (St.keep (by assumption))) (by assumption) (hI2.keeps (St.keep (by assumption))) rfl (by kernel_rfl) (by kernel_rfl) (attr := none) (by kernel_rfl) rfl rfl fun _ _ => ?_
        wtm_at "r7"
        refine e_tuple (k := s) (g := g) ?_
        wtm_at "r7"
        refine e_neg (k := s) (g := g) ?_
        wtm_at "r7"
        wtm_at "kk"; refine ⟨_, _, rfl, _, by assumption, fun _ _ _ => ?_⟩
        wtm_at "r7"
        wtm_at "kk"; refine ⟨_, by assumption, Nat.le_of_ble_eq_true (by rfl), fun q s₆ S₆ => ?_⟩
        wtm_at "r7"
        refine d_get2 (knd := PySem.intKind prg w) (a := T) S₆ (hT.keeps S₆.keep) (intKind_is _ _ _ _) _ hval fun s₇ S₇ => ?_
        refine ⟨tp, _, u, _, rfl, S₇, let ⟨o, a, b⟩ := htup; ⟨o, S₇.keep _ _ a, b⟩, fun s₈ S₈ => ?_⟩
        clear S₆ S₇
        wtm_at "r7"
        refine i_get (W.keeps (St.keep (by assumption))) (by assumption) (hI2.keeps (St.keep (by assumption))) rfl (by kernel_rfl) (by kernel_rfl) (attr := none) (by kernel_rfl) rfl rfl fun _ _ => ?_
        wtm_at "r7"
        wtm_at "kk"; exact ⟨_, .inr ⟨rfl, _, _, _, _, _, rfl⟩, St.swap (by assumption)⟩
    · obtain ⟨ty, h1, h2, h3⟩ := nr
      wtm_at "r7"
      refine go_true (by simp [h3]) ?_
      wtm_at "r7"
      wtm_at "kk"; exact hR _ (fin (by assumption))
  · rintro n₁ s₅ (⟨h, _⟩ | ⟨h, _⟩) S₅ <;> cases h
theorem get_spec {x T T2 D : Addr} {kvs : List (Int × Value)} {hk : List (Str × Value)} {key : Str} {tk : Tok} {u : Value} (rm : Room A d) (hd : d ≤ 39) (W : Wld w s.heap) (hI : InstH s.heap x 311 [(Str.ofString "table", .ref T), (Str.ofString "trailer", .ref T2)])
    (hT : DicH (PySem.intKind prg w) s.heap T kvs) (hD : DicH (PySem.strKind prg w) s.heap D hk) (hv : ResH s.heap kvs ((valueAt hk key).getD .none) u) (hR : ∀ s', Eff [] s s' → R (.ok (.ret u)) s') :
    codeAny (Mo w) A (.call (.ref 308) ⟨[.ref x, .ref D, .str key tk], []⟩) R s := by
  refine fn_enter0 [] W rm (by rfl) (by decide +kernel) (BindsTo.of_eq (binds := [(Str.ofString "self", .ref x), (Str.ofString "head", .ref D), (Str.ofString "key", .str key tk)]) (by kernel_rfl)) (by kernel_rfl) (fun _ hp => nomatch hp) .nil W (fun g L s₁ env A' E' hg W S fe rm' KK hKK => ?_) (dle0 (by assumption) (by rfl))
  have e0 : s.heap = g := by rw [hg]; rfl
  rw [e0] at hI hT hv hD
  have fin : ∀ {n' : Led} {s' : Shared}, St s g n' s' → Eff [] s s' := fun S => St.toEff (X := []) (by rw [hg] at S; exact S) (fun _ hp => nomatch hp)
  wtm_at "r7"
  refine i_meth (W.keeps (St.keep (by assumption))) (hI.keeps (St.keep (by assumption))) (by kernel_rfl) (f := 301) (by kernel_rfl) (by kernel_rfl) (by kernel_rfl) ?_
  wtm_at "r7"
  refine d_meth (hD.keeps (St.keep (by assumption))) ?_
  wtm_at "r7"
  refine d_get1 (knd := PySem.strKind prg w) (by assumption) (hD.keeps (St.keep (by assumption))) (strKind_is _ _ _ _) _ rfl fun s₇ S₇ => ?_
  wtm_at "r7"
  refine ⟨W.keeps S₇.keep, fetch_spec rm' (dle (by assumption) (by rfl)) (W.keeps S₇.keep) (hI.keeps S₇.keep) (hT.keeps S₇.keep) (hv.keeps S₇.keep) fun s₈ Ef => ?_⟩
  wtm_at "kk"; exact hR _ (fin (S₇.eff Ef (fun _ h => nomatch h)))
end
section
variable {w : World} {A : Around} {d : Nat} {s : Shared} {R : Result → Shared → Prop}
theorem enc_spec (B : BaseOk) {x T T2 F : Addr} {kvs : List (Int × Value)} {fk : List (Str × Value)} {u : Value} {ev : EncV} (fs : List Addr) (mode : Mode A s.heap fs (encOf ev).isSome) (rm : Room A d) (hd : d ≤ 35) (W : Wld w s.heap) (hW : Wld w (hideAll s.heap fs))
    (hI : InstH (hideAll s.heap fs) x 311 [(Str.ofString "table", .ref T), (Str.ofString "trailer", .ref T2)]) (hT : DicH (PySem.intKind prg w) (hideAll s.heap fs) T kvs) (hF : DicH (PySem.strKind prg w) (hideAll s.heap fs) F fk)
    (hu : ResH (hideAll s.heap fs) kvs ((valueAt fk (Str.ofString "Encoding")).getD .none) u) (he : EncH w (hideAll s.heap fs) kvs u ev)
    (hR : ∀ ys s' p ps, encOf ev = some ys → NewL s s' p ps → Strs ps ys → R (.ok (.ret (.ref p))) s') (hE : encOf ev = none → ∀ e s', Raised fs s s' e → R (.error e) s') :
    codeAny (Mo w) A (.call (.ref 356) ⟨[.ref x, .ref F], []⟩) R s := by
  refine fn_enterCE (binds := [(Str.ofString "shelf", .ref x), (Str.ofString "font", .ref F)]) (lb := [(Str.ofString "font", .ref F)]) fs (encOf ev).isSome mode (fun L => [(Str.ofString "shelf", L + 1)]) (fun L => [(L + 1, .cell (some (.ref x)))]) W rm (by rfl) (by decide +kernel) (by kernel_rfl) (by kernel_rfl) (by simp) (fun L x hx => by simp only [List.mem_cons, List.not_mem_nil, or_false] at hx; rcases hx with rfl | rfl; exact .inr ⟨by kernel_rfl, by rfl⟩; exact .inl (by kernel_rfl)) (fun L => by kernel_rfl) (fun L => by kernel_rfl) (fun L => by simp) hW (fun q => hE (by simpa using q)) (fun g L s₁ env A' hg W S fe rm' way fr KK hKK => ?_) (by omega)
  clear hW
  rw [← hg] at hI hT hF hu he
  replace S : St s g ((L + 1, .cell (some (.ref x))) :: (L, .ns [(Str.ofString "font", .ref F)]) :: frL s.heap fs) s₁ := S
  replace fe : Fe env _ L [(Str.ofString "shelf", L + 1)] := fe
  have nd : (L :: fs).Nodup := by
    have := S.nd
    simp only [List.map_cons, frL_keys, List.nodup_cons] at this
    exact List.nodup_cons.mpr this.2
  have frA : encOf ev = none → FrA A' (L :: fs) := fun q => fr fs (by
    rcases mode with ⟨h, _⟩ | ⟨_, h, _⟩
    · rw [q] at h; cases h
    · exact h)
  have fs0 : ∀ {ys}, encOf ev = some ys → fs = [] := fun q => by rcases mode with ⟨_, h⟩ | ⟨h, _⟩; exact h; rw [q] at h; cases h
  clear fr
  have gt : ∀ {D : Addr} {hk : List (Str × Value)} {key : Str} {tk : Tok} {u : Value} {n₇ : Led} {s₇ : Shared} {Q : Result → Shared → Prop}, St s g n₇ s₇ → DicH (PySem.strKind prg w) g D hk → ResH g kvs ((valueAt hk key).getD .none) u → (∀ s', St s g n₇ s' → Q (.ok (.ret u)) s') → Wld w s₇.heap ∧ codeAny (Mo w) A' (.call (.ref 308) ⟨[.ref x, .ref D, .str key tk], []⟩) Q s₇ := fun S7 h1 h2 hQ =>
    ⟨W.keeps S7.keep, get_spec rm' (dle (by assumption) (by rfl)) (W.keeps S7.keep) (hI.keeps S7.keep) (hT.keeps S7.keep) (h1.keeps S7.keep) (h2.keeps S7.keep) fun s' Ef => hQ _ (S7.eff Ef (fun _ h => nomatch h))⟩
  have bs : ∀ {y : Str} {ty : Tok} {n₇ : Led} {s₇ : Shared} {Q : Result → Shared → Prop}, St s g n₇ s₇ → Hold s.heap L fs n₇ → (baseOf y = none → encOf ev = none) → (∀ p ps ys s', baseOf y = some ys → St s g ((p, .lst ps) :: n₇) s' → Strs ps ys → Q (.ok (.ret (.ref p))) s') →
      (∀ e s', encOf ev = none → FlewN s g L fs e s' → Q (.error e) s') → Wld w s₇.heap ∧ codeAny (Mo w) A' (.call (.ref 337) ⟨[.str y ty], []⟩) Q s₇ := fun {y ty n₇ s₇ Q} S7 H hn hQ hQE =>
    ⟨W.keeps S7.keep, base_spec B (fsOf (baseOf y).isSome L fs) (Mode.call _ S7 H nd fun q => frA (hn (by simpa using q))) rm' (dle (by assumption) (by rfl)) (W.keeps S7.keep) (W.keeps (S7.hideF _ H)) (fun ys s' p ps e N hp => by
      have e0 : fsOf (baseOf y).isSome L fs = [] := by rw [e]; rfl
      exact hQ _ _ _ _ e (S7.newL N) hp) fun e ex s' r => by
      rw [e] at r
      exact hQE _ _ (hn e) (S7.flewN H r)⟩
  have wsp : ∀ {a pl : Addr} {vs ws : List Value} {xs : List Str} {ps : List (Option Part)} {n₇ : Led} {s₇ : Shared} {Q : Result → Shared → Prop}, St s g ((a, .lst vs) :: (pl, .lst ws) :: n₇) s₇ → Hold s.heap L fs n₇ → Strs vs xs → xs.length = 256 → All3 (pvH g) ws ps → ps.length ≤ 10000 → encOf ev = withDiff xs ps →
      (∀ p vs' ys s', encOf ev = some ys → St s g ((p, .lst vs') :: n₇) s' → Strs vs' ys → Q (.ok (.ret (.ref p))) s') →
      (∀ e s', encOf ev = none → FlewN s g L fs e s' → Q (.error e) s') → Wld w s₇.heap ∧ codeAny (Mo w) A' (.call (.ref 344) ⟨[.ref a, .ref pl], []⟩) Q s₇ := fun {a pl vs ws xs ps n₇ s₇ Q} S7 H hx hxl hps hpl hn hQ hQE => by
    obtain ⟨g₁, k1, l1, S8⟩ := S7.freeze
    obtain ⟨g₂, k2, l2, S9⟩ := S8.freeze
    have k3 : ∀ b o, g.get? b = some o → g₂.get? b = some o := fun b o e => k2 _ _ (k1 _ _ e)
    have hide := S9.hideF (withDiff xs ps).isSome H
    refine ⟨W.keeps S7.keep, wd_spec (fsOf (withDiff xs ps).isSome L fs) (Mode.call _ S9 H nd fun q => frA (hn.trans (by simpa using q))) rm' (dle (by assumption) (by rfl)) (W.keeps S7.keep) ((W.keeps k3).keeps hide) (l1.at fun o e => hide _ _ (k2 _ _ e)) hx hxl (l2.at fun o e => hide _ _ e) (hps.mono fun v p h => (h.keeps k3).keeps hide) hpl (fun ys s' p vs' e N hp => ?_) fun e ex s' r => ?_⟩
    · have e0 : fsOf (withDiff xs ps).isSome L fs = [] := by rw [e]; rfl
      exact hQ _ _ _ _ (hn.trans e) ((S9.newL N).shrink k3) hp
    · rw [e] at r
      exact hQE _ _ (hn.trans e) ((S9.flewN H r).shrink k3)
  wtm_at "r7"
  refine i_meth (W.keeps (St.keep (by assumption))) (hI.keeps (St.keep (by assumption))) (by kernel_rfl) (f := 308) (by kernel_rfl) (by kernel_rfl) (by kernel_rfl) ?_
  wtm_at "r7"
  refine gt (by assumption) hF hu fun s₇ S7 => ?_
  show wpAny _ _ (storeName _ _ _) _ _ _
  clear S
  cases ev with
  | none =>
    obtain rfl := he
    wtm_at "r7"
    refine bs (by assumption) (by repeat (first | exact Hold.base | apply Hold.cons)) (fun h => h) (fun p ps ys s' e S8 hp => ?_) fun e s' e0 F => ?_
    · obtain rfl := fs0 e
      wtm_at "kk"; exact hR _ _ _ _ e (NewL.of S8 hg (by with_reducible wtm_at "mem")) hp
    · exact ⟨by rw [e0]; rfl, F⟩
  | name y =>
    obtain ⟨a, ta, rfl, hN⟩ := he
    have hT2 : HasTy g (.ref a) (.inst 197) := ⟨_, _, rfl, hN⟩
    wtm_at "r7"
    refine i_get (W.keeps (St.keep (by assumption))) (by assumption) (hN.keeps (St.keep (by assumption))) rfl (by kernel_rfl) (by kernel_rfl) (attr := none) (by kernel_rfl) rfl rfl fun _ _ => ?_
    wtm_at "r7"
    refine bs (by assumption) (by repeat (first | exact Hold.base | apply Hold.cons)) (fun h => h) (fun p ps ys s' e S8 hp => ?_) fun e s' e0 F => ?_
    · obtain rfl := fs0 e
      wtm_at "kk"; exact hR _ _ _ _ e (NewL.of S8 hg (by with_reducible wtm_at "mem")) hp
    · exact ⟨by rw [e0]; rfl, F⟩
  | other =>
    obtain ⟨ty, h1, h2, h3, h4, h5, h6⟩ := he
    wtm_at "r7"
    refine go_false (by simp [h3]) ?_
    wtm_at "r7"
    refine go_false (by simp [h4]) ?_
    wtm_at "r7"
    refine go_true (by simp [bltTy, h5]) ?_
    refine x_cons (raise_st (k := s) (g := g) rm'.handled W ?_)
    wtm_at "r7"
    refine ⟨W.keeps (St.keep (by assumption)), fault_new rm' (dle (by assumption) (by rfl)) (W.keeps (St.keep (by assumption))) fun s' e Se => ?_⟩
    have S10 := St.more (by assumption) Se
    exact ⟨e, _, rfl, S10, rfl, flewN_of S10 (by repeat (first | exact Hold.base | apply Hold.cons))⟩
  | dict b dv =>
    obtain ⟨D, hk, rfl, hD, ⟨ub, rb, hb⟩, ⟨ud, rd, hdv⟩⟩ := he
    have hT2 := dic_ty hD
    wtm_at "r7"
    refine i_meth (W.keeps (St.keep (by assumption))) (hI.keeps (St.keep (by assumption))) (by kernel_rfl) (f := 308) (by kernel_rfl) (by kernel_rfl) (by kernel_rfl) ?_
    wtm_at "r7"
    refine gt (by assumption) hD rb fun s₈ S8 => ?_
    show wpAny _ _ (storeName _ _ _) _ _ _
    clear S7
    wtm_at "r7"
    refine i_meth (W.keeps (St.keep (by assumption))) (hI.keeps (St.keep (by assumption))) (by kernel_rfl) (f := 308) (by kernel_rfl) (by kernel_rfl) (by kernel_rfl) ?_
    wtm_at "r7"
    refine gt (by assumption) hD rd fun s₉ S9 => ?_
    show wpAny _ _ (storeName _ _ _) _ _ _
    clear S8
    have bw : ∀ (P : Prop), (∀ y, b = .name y → P) → (b = .other → P) → P := fun P h1 h2 => by cases b with | name y => exact h1 y rfl | other => exact h2 rfl
    cases dv with
    | bad =>
      obtain ⟨ty, h1, h2, h3, h4, h5⟩ := hdv
      wtm_at "r7"
      refine go_true (by simp [h3]) ?_
      wtm_at "r7"
      refine go_true (by simp [bltTy, h4]) ?_
      wtm_at "r7"
      refine x_cons (raise_st (k := s) (g := g) rm'.handled W ?_)
      wtm_at "r7"
      refine ⟨W.keeps (St.keep (by assumption)), fault_new rm' (dle (by assumption) (by rfl)) (W.keeps (St.keep (by assumption))) fun s' e Se => ?_⟩
      have S10 := St.more (by assumption) Se
      exact ⟨e, _, rfl, S10, rfl, flewN_of S10 (by repeat (first | exact Hold.base | apply Hold.cons))⟩
    | none =>
      obtain rfl := hdv
      wtm_at "r7"
      refine go_false (by rfl) ?_
      wtm_at "r7"
      refine e_word (k := s) (g := g) (y := b.word) (by assumption) (fun Q' hQ' => ?_) fun t₉ s₉' S9' => ?_
      · cases b with
        | other =>
          obtain ⟨ty, h1, h2, h3⟩ := hb
          wtm_at "r7"
          refine go_false (by simp [h3]) ?_
          wtm_at "r7"
          exact hQ' _ _ (by assumption)
        | name y =>
          obtain ⟨ab, tb, rfl, hN⟩ := hb
          have hT8 : HasTy g (.ref ab) (.inst 197) := ⟨_, _, rfl, hN⟩
          wtm_at "r7"
          refine i_get (W.keeps (St.keep (by assumption))) (by assumption) (hN.keeps (St.keep (by assumption))) rfl (by kernel_rfl) (by kernel_rfl) (attr := none) (by kernel_rfl) rfl rfl fun _ _ => ?_
          exact hQ' _ _ (by assumption)
      clear S9
      wtm_at "r7"
      refine bs (by assumption) (by repeat (first | exact Hold.base | apply Hold.cons)) (fun h => by simp [encOf, DiffV.list, h]) (fun p ps ys s' e S8 hp => ?_) fun e s' e0 F => ⟨by rw [e0]; rfl, F⟩
      have hev : encOf (.dict b .none) = withDiff ys [] := by simp [encOf, DiffV.list, e]
      show wpAny _ _ (storeName _ _ _) _ _ _
      clear S9'
      wtm_at "r7"
      refine e_list (k := s) (g := g) ?_
      wtm_at "r7"
      wtm_at "kk"; refine ⟨_, by assumption, Nat.le_of_ble_eq_true (by rfl), fun c1 s₁₀ S10 => ?_⟩
      wtm_at "r7"
      refine wsp (S10.perm (List.Perm.swap _ _ _)) (by repeat (first | exact Hold.base | apply Hold.cons)) hp (B.len e) .nil (by decide) hev (fun p' vs' zs s' e' S11 hp' => ?_) fun e s' e0 F => ⟨by rw [e0]; rfl, F⟩
      obtain rfl := fs0 e'
      wtm_at "kk"; exact hR _ _ _ _ e' (NewL.of S11 hg (by with_reducible wtm_at "mem")) hp'
    | parts ps =>
      obtain ⟨al, vs, rfl, hl, hps, hpl⟩ := hdv
      have hT3 : HasTy g (.ref al) .list := by
        obtain ⟨o, h1, h2, _⟩ := hl
        wtm_at "kk"; exact ⟨_, _, rfl, h1, h2⟩
      have lvs := hps.length
      wtm_at "r7"
      refine go_true (by rfl) ?_
      wtm_at "r7"
      refine go_false (by rfl) ?_
      wtm_at "r7"
      refine e_word (k := s) (g := g) (y := b.word) (by assumption) (fun Q' hQ' => ?_) fun t₉ s₉' S9' => ?_
      · cases b with
        | other =>
          obtain ⟨ty, h1, h2, h3⟩ := hb
          wtm_at "r7"
          refine go_false (by simp [h3]) ?_
          wtm_at "r7"
          exact hQ' _ _ (by assumption)
        | name y =>
          obtain ⟨ab, tb, rfl, hN⟩ := hb
          have hT8 : HasTy g (.ref ab) (.inst 197) := ⟨_, _, rfl, hN⟩
          wtm_at "r7"
          refine i_get (W.keeps (St.keep (by assumption))) (by assumption) (hN.keeps (St.keep (by assumption))) rfl (by kernel_rfl) (by kernel_rfl) (attr := none) (by kernel_rfl) rfl rfl fun _ _ => ?_
          exact hQ' _ _ (by assumption)
      clear S9
      wtm_at "r7"
      refine bs (by assumption) (by repeat (first | exact Hold.base | apply Hold.cons)) (fun h => by simp [encOf, DiffV.list, h]) (fun p pvs ys s' e S8 hp => ?_) fun e s' e0 F => ⟨by rw [e0]; rfl, F⟩
      have hev : encOf (.dict b (.parts ps)) = withDiff ys ps := by simp [encOf, DiffV.list, e]
      show wpAny _ _ (storeName _ _ _) _ _ _
      clear S9'
      wtm_at "r7"
      refine e_comp (k := s) fe (cl' := [(Str.ofString "shelf", L + 1)]) (closure_of fe (by intro env h; cases env; cases h; rfl)) (by decide +kernel) (by decide +kernel) (by decide +kernel) (by decide +kernel) ?_ (fun _ => by wtm_at "rf")
      wtm_at "r7"
      refine p_list (by assumption) hl fun I s₁₀ S10 => ?_
      refine ⟨g, I, vs.length, _, _, _, fun i ws n => (∃ n0, n = n0 ∧ (L + 1, .cell (some (.ref x))) ∈ n0 ∧ n0 = _) ∧ i ≤ vs.length ∧ All3 (pvH g) ws (ps.take i), rfl, It.list rm'.handled hl I, by wtm_at "sz", S10, ⟨⟨_, rfl, by with_reducible wtm_at "mem", rfl⟩, Nat.zero_le _, .nil⟩, fun i ys n h => ?_, fun s Q E h hQ => self_list (l := al) s Q E h hQ, ?_, ?_⟩
      · rw [h.2.2.length, List.length_take]; omega
      · rintro C acc cenv i v ws n₁ s₁ E₂ hi hv ⟨⟨_, rfl, _, rfl⟩, hil, hw⟩ fe' S₁
        intro KK hKK
        obtain ⟨q, hq, u', ru, pu⟩ := hps.get hv
        clear fe
        wtm_at "r7"
        refine i_meth (W.keeps (St.keep (by assumption))) (hI.keeps (St.keep (by assumption))) (by kernel_rfl) (f := 301) (by kernel_rfl) (by kernel_rfl) (by kernel_rfl) ?_
        wtm_at "r7"
        refine ⟨W.keeps S₁.keep, fetch_spec rm' (dle (by assumption) (by rfl)) (W.keeps S₁.keep) (hI.keeps S₁.keep) (hT.keeps S₁.keep) (ru.keeps S₁.keep) fun s' Ef => ?_⟩
        wtm_at "kk"; refine ⟨_, ⟨⟨_, rfl, by with_reducible wtm_at "mem", rfl⟩, hi, ?_⟩, S₁.eff Ef (fun _ h => nomatch h)⟩
        rw [List.take_succ, hq]
        exact hw.snoc pu
      · rintro acc ws n₁ s₁ ⟨⟨_, rfl, _, rfl⟩, _, hw⟩ S₁
        rw [List.take_of_length_le (by omega)] at hw
        wtm_at "r7"
        refine wsp (S₁.perm (List.Perm.swap _ _ _)) (by repeat (first | exact Hold.base | apply Hold.cons)) hp (B.len e) hw (by omega) hev (fun p' vs' zs s' e' S11 hp' => ?_) fun e s' e0 F => ⟨by rw [e0]; rfl, F⟩
        obtain rfl := fs0 e'
        wtm_at "kk"; exact hR _ _ _ _ e' (NewL.of S11 hg (by with_reducible wtm_at "mem")) hp'
end
section
variable {w : World} {A : Around} {d : Nat} {s : Shared} {R : Result → Shared → Prop}
theorem pot_spec {a : Addr} {vs : List Value} {ns : List Int} (rm : Room A d) (hd : d ≤ 40) (W : Wld w s.heap) (ha : s.heap.IsList a vs.toArray) (hi : IntsAre vs ns) (hz : vs.length ≤ 63)
    (hR : ∀ s' P C, P ≠ C → St s s.heap (potX P C 0) s' → R (.ok (.ret (.ref P))) s') :
    codeAny (Mo w) A (.call (.ref 382) ⟨[.ref a], []⟩) R s := by
  refine fn_enter0 [] W rm (by rfl) (by decide +kernel) (BindsTo.of_eq (binds := [(Str.ofString "script", .ref a)]) (by kernel_rfl)) (by kernel_rfl) (fun _ hp => nomatch hp) .nil W (fun g L s₁ env A' E' hg W S fe rm' KK hKK => ?_) (dle0 (by assumption) (by rfl))
  replace hg : g = s.heap := hg
  rw [← hg] at ha
  have hall := ints_at hi
  wtm_at "r7"
  refine x_step (wpAny_mono (x_comp (k := s) (E := E') (Q := fun f s' => f = .next ∧ ∃ b ws n, n = [(b, .lst ws), (L, .ns [(Str.ofString "cells", .ref b), (Str.ofString "script", .ref a)])] ∧ (ws.length ≤ 40 ∧ ∀ v ∈ ws, ∃ x t, v = .int x t) ∧ St s g n s') fe (swaps_comp fe (by kernel_rfl)) (cl' := []) (by rfl) (by decide +kernel) (by decide +kernel) (by decide +kernel) (by decide +kernel) ?_ (fun _ => by wtm_at "rf")) (fun f s' ⟨e, b, ws, n, en, hw, S''⟩ => ⟨e, ?_⟩) (fun _ _ x => x))
  · refine e_upto (k := s) (g := g) ?_ (fun _ _ => by wtm_at "rf")
    wtm_at "r7"
    refine ⟨a, vs, 40, _, _, rfl, rfl, by assumption, ha.at fun o e => St.keep (by assumption) _ o e, by wtm_at "sz", fun c1 s₂ S2 => ?_⟩
    obtain ⟨g', hgg, hl, S4⟩ := S2.freeze
    refine p_list S4 hl fun I s₅ S5 => ?_
    have hlen : (vs.take 40).length ≤ 40 := by rw [List.length_take]; omega
    refine ⟨g', I, (vs.take 40).length, _, _, _, fun i ys n => n = [(L, .ns [(Str.ofString "script", .ref a)])] ∧ ys.length = i ∧ ∀ v ∈ ys, ∃ x t, v = .int x t, rfl, It.list rm'.handled hl I, by wtm_at "sz", S5, ⟨rfl, rfl, fun _ h => nomatch h⟩, fun i ys n h => h.2.1, fun s Q E h hQ => self_list (l := c1) s Q E h hQ, ?_, ?_⟩
    · rintro C acc cenv i v ys n₁ s₁ E₂ hi hv ⟨rfl, hl1, hy⟩ fe' S₁
      intro KK hKK
      obtain ⟨x, t, rfl⟩ := hall _ (List.mem_of_mem_take (List.mem_of_getElem? hv))
      have W₂ : Wld w g' := W.keeps hgg
      clear fe
      wtm_at "r7"
      wtm_at "kk"; refine ⟨_, ⟨rfl, by rw [List.length_append, hl1]; rfl, fun v hv => ?_⟩, by assumption⟩
      rcases List.mem_append.mp hv with hv | hv
      · exact hy v hv
      · rw [List.mem_singleton.mp hv]; exact ⟨_, _, rfl⟩
    · rintro C acc ys n₁ s₁ ⟨rfl, hl1, hy⟩ S₁
      wtm_at "r7"
      wtm_at "kk"; exact ⟨_, by assumption, fun s₃ S₃ => ⟨rfl, _, _, _, rfl, ⟨by omega, hy⟩, S₃.shrink hgg⟩⟩
  · subst en
    clear S
    obtain ⟨hw1, hw2⟩ := hw
    wtm_at "r7"
    rename_i S3
    obtain ⟨g', hgg, hl, S4⟩ := S3.freeze
    have W₂ : Wld w g' := W.keeps hgg
    have hg' := hgg
    rw [hg] at hg'
    clear S3 hgg
    refine p_list S4 hl fun I s₅ S5 => ?_
    refine loop_it (It.list (A := A') rm'.handled hl I) S5 (fun i n => ∃ st tk, 0 ≤ st ∧ st < 2147483647 ∧ n = [(L, .ns [(Str.ofString "state", .int st tk), (Str.ofString "cells", .ref b), (Str.ofString "script", .ref a)])]) ⟨1, _, by decide, by decide, rfl⟩ ?_ ?_
    · rintro i v n₁ s₆ E₂ hi hv ⟨st, tk, b1, b2, rfl⟩ S6
      intro KK hKK
      obtain ⟨x, tx, rfl⟩ := hw2 _ (List.mem_of_getElem? hv)
      wtm_at "r7"
      have q1 := Int.fmod_nonneg_of_pos (st * 48271 + x.fmod 2147483647 + 12345) (b := 2147483647) (by decide)
      have q2 := Int.fmod_lt_of_pos (st * 48271 + x.fmod 2147483647 + 12345) (b := 2147483647) (by decide)
      have S9 := St.unname (a := L) (by assumption) (by with_reducible wtm_at "upd")
      wtm_at "kk"; exact ⟨_, ⟨_, _, q1, q2, rfl⟩, S9⟩
    · rintro n₁ s₆ ⟨st, tk, b1, b2, rfl⟩ S6
      show wpAny _ _ (execs _ _) _ _ _
      wtm_at "r7"
      refine e_list (k := s) (g := g') ?_
      wtm_at "r7"
      refine e_comp (k := s) fe (cl' := []) (by rfl) (by decide +kernel) (by decide +kernel) (by decide +kernel) (by decide +kernel) ?_ (fun _ => by wtm_at "rf")
      wtm_at "r7"
      refine p_list S6 hl fun I s₇ S7 => ?_
      refine ⟨g', I, ws.length, _, _, _, fun i ys n => n = [(L, .ns [(Str.ofString "state", .int st tk), (Str.ofString "cells", .ref b), (Str.ofString "script", .ref a)])] ∧ ys.length = i ∧ ∀ v ∈ ys, ∃ (x : Int) (t : Tok), v = .int x t ∧ 0 ≤ x, rfl, It.list rm'.handled hl I, by wtm_at "sz", S7, ⟨rfl, rfl, fun _ h => nomatch h⟩, fun i ys n h => h.2.1, fun s Q E h hQ => self_list (l := b) s Q E h hQ, ?_, ?_⟩
      · rintro C acc cenv i v ys n₁ s₁ E₂ hi hv ⟨rfl, hl1, hy⟩ fe' S₁
        intro KK hKK
        obtain ⟨x, t, rfl⟩ := hw2 _ (List.mem_of_getElem? hv)
        clear fe
        wtm_at "r7"
        refine i_pow (by assumption) (by decide) (by decide) (by decide) ?_; intro _ _ _
        have pz : (10 : Int) ^ (400 : Int).toNat > 0 := Int.pow_pos (by decide)
        refine i_mod (by assumption) (Int.ne_of_gt pz) ?_; intro _ _ _
        have q1 := Int.fmod_nonneg_of_pos (if x < 0 then -x else x) pz
        wtm_at "kk"; refine ⟨_, ⟨rfl, by rw [List.length_append, hl1]; rfl, fun v hv => ?_⟩, by assumption⟩
        rcases List.mem_append.mp hv with hv | hv
        · exact hy v hv
        · rw [List.mem_singleton.mp hv]; exact ⟨_, _, rfl, q1⟩
      · rintro acc ys n₁ s₁ ⟨rfl, hl1, hy⟩ S₁
        wtm_at "r7"
        wtm_at "kk"; refine ⟨_, by assumption, Nat.le_of_ble_eq_true (by rfl), fun c1 s₁₀ S10 => ?_⟩
        have nd := S10.nd
        simp only [List.map_cons, List.nodup_cons, List.mem_cons, not_or] at nd
        have hne : c1 ≠ acc := nd.1.1
        have S11 := S10.shrink hg'
        have S12 : St s s.heap [(c1, .lst [.ref acc, .int st tk, .int 0 _]), (acc, .lst ys)] _ := S11.sub (fun p hp => by
          rcases List.mem_cons.mp hp with rfl | hp
          · exact .head _
          · rw [List.mem_singleton.mp hp]; exact .tail _ (.head _)) (by simpa using hne)
        obtain ⟨o1, h1, i1⟩ := S12.get (.head _)
        obtain ⟨o2, h2, i2⟩ := S12.get (.tail _ (.head _))
        have S13 := S12.recast (a := c1) (d' := .prop (potD acc 0)) Upd.head ⟨o1, h1, st, 0, tk, _, b1, b2, by decide, by decide, i1⟩
        have S14 := S13.recast (a := acc) (d' := .prop cellsD) (Upd.tail Upd.head) ⟨o2, h2, ys, hy, by omega, i2⟩
        wtm_at "kk"; exact hR _ _ _ hne S14
end
section
variable {w : World} {A : Around} {d : Nat} {s : Shared} {R : Result → Shared → Prop}
theorem turned_spec {P C b : Addr} {m : Nat} {vs : List Value} {xs : List Str} (rm : Room A d) (hd : d ≤ 35) (hm : m ≤ 900) (W : Wld w s.heap) (hX : ∀ p ∈ potX P C m, ∃ o, s.heap.get? p.1 = some o ∧ p.2.is o) (hn : P ≠ C)
    (hW : Wld w (hideAll s.heap [P, C])) (hb : (hideAll s.heap [P, C]).IsList b vs.toArray) (hx : Strs vs xs) (hl : xs.length = 256)
    (hR : ∀ s' p vs' xs', St s (hideAll s.heap [P, C]) ((p, .lst vs') :: potX P C (m + 28)) s' → Strs vs' xs' → xs'.length = 256 → (∀ x ∈ xs', Drawn xs x) → R (.ok (.ret (.ref p))) s') :
    codeAny (Mo w) A (.call (.ref 396) ⟨[.ref P, .ref b], []⟩) R s := by
  refine fn_enter0 (potX P C m) W rm (by rfl) (by decide +kernel) (BindsTo.of_eq (binds := [(Str.ofString "pot", .ref P), (Str.ofString "base", .ref b)]) (by kernel_rfl)) (by kernel_rfl) hX (by simpa [potX] using hn) hW (fun g L s₁ env A' E' hg W S fe rm' KK hKK => ?_) (dle0 (by assumption) (by rfl))
  clear hW hX
  replace hg : g = hideAll s.heap [P, C] := hg
  rw [← hg] at hb
  have lv := hx.length
  wtm_at "r8"
  refine l_copy (by assumption) (hb.at fun o e => St.keep (by assumption) _ o e) (by wtm_at "sz") fun p s₂ S₂ => ?_
  wtm_at "r8"
  rename_i s3 v3 t3 S3 v0 v1
  obtain ⟨N, rfl⟩ := Int.eq_ofNat_of_zero_le v0
  refine r_range (N := N) (by assumption) fun r t1 t2 t3 s₃ S₃ => ?_
  refine p_range S₃ (by omega) fun I s₄ S₄ => ?_
  clear S₃ S S₂
  refine loop_it (It.range (A := A') (g := g) rm'.handled I) S₄ (fun i n => ∃ ws zs sp tk, n = [(p, .lst ws), (L, .ns [(Str.ofString "spot", .int sp tk), (Str.ofString "names", .ref p), (Str.ofString "pot", .ref P), (Str.ofString "base", .ref b)]), (P, .prop (potD C (m + 1 + 3 * i))), (C, .prop cellsD)] ∧ Strs ws zs ∧ zs.length = 256 ∧ (∀ x ∈ zs, Drawn xs x) ∧ 0 ≤ sp ∧ sp ≤ 255) ⟨_, _, _, _, rfl, hx, hl, fun x h => .inl h, by decide, by decide⟩ ?_ ?_
  · rintro i v' n₁ s₅ E₂ hi ⟨ti, rfl⟩ ⟨ws, zs, sp, tk, rfl, hws, hzl, hdr, sp0, sp1⟩ S₅
    intro KK hKK
    have lw := hws.length
    wtm_at "r8"
    rename_i s5 v5 t5 S5 w0 w1 _ _ S6
    by_cases hz : v5 = 0
    · refine go_true (by simpa using hz) ?_
      wtm_at "r8"
      rename_i s7 v7 t7 S7 y0 y1 s6 S6'
      refine glyphs_spec rm' (dle (by assumption) (by rfl)) (W.keeps (St.keep (by assumption))) fun s' q qs N hq => ?_
      have S7 := St.newL (by assumption) N
      show wpAny _ _ (eval _ _) _ _ _
      wtm_at "r8"
      rename_i s8 v8 t8 S8 x0 x1
      have hgl : glyphWords[v8.toNat]? = some (glyphWords.getD v8.toNat Str.empty) := by
        have : v8.toNat < glyphWords.length := by show _ < 7; omega
        rw [List.getD_eq_getElem?_getD, List.getElem?_eq_getElem this]; rfl
      obtain ⟨tg, hg7⟩ := hq.get hgl
      refine l_item (St.isList (by assumption) (by with_reducible wtm_at "mem")) (by omega) (by omega) hg7 ?_ (by wtm_at "rf")
      wtm_at "r8"
      refine l_set (by assumption) (by with_reducible wtm_at "upd") (by omega) (by omega) (by omega) ?_; intro _ _
      wtm_at "r8"
      have S9 := St.unname (a := L) (by assumption) (by with_reducible wtm_at "upd")
      have hdr' : ∀ x ∈ zs.set v7.toNat (glyphWords.getD v8.toNat Str.empty), Drawn xs x := fun x hx => by
        rcases List.mem_or_eq_of_mem_set hx with h | rfl
        · exact hdr x h
        · exact .inr (List.mem_of_getElem? hgl)
      have S10 := S9.drop
      wtm_at "kk"; exact ⟨_, ⟨_, _, _, _, rfl, hws.set _ _ _, by rw [List.length_set]; exact hzl, hdr', by omega, by omega⟩, S10⟩
    · refine go_false (by simpa using hz) ?_
      wtm_at "r8"
      rename_i va ta Sa a0 a1 sb tb Sb
      refine i_min rm'.handled (by assumption) fun tm s7 S7 => ?_
      have y0 : 0 ≤ (if sp + va < 255 then sp + va else 255) := by split <;> omega
      have y1 : (if sp + va < 255 then sp + va else 255) ≤ 255 := by split <;> omega
      generalize (if sp + va < 255 then sp + va else 255) = v7 at *
      wtm_at "r8"
      refine glyphs_spec rm' (dle (by assumption) (by rfl)) (W.keeps (St.keep (by assumption))) fun s' q qs N hq => ?_
      have S7 := St.newL (by assumption) N
      show wpAny _ _ (eval _ _) _ _ _
      wtm_at "r8"
      rename_i s8 v8 t8 S8 x0 x1
      have hgl : glyphWords[v8.toNat]? = some (glyphWords.getD v8.toNat Str.empty) := by
        have : v8.toNat < glyphWords.length := by show _ < 7; omega
        rw [List.getD_eq_getElem?_getD, List.getElem?_eq_getElem this]; rfl
      obtain ⟨tg, hg7⟩ := hq.get hgl
      refine l_item (St.isList (by assumption) (by with_reducible wtm_at "mem")) (by omega) (by omega) hg7 ?_ (by wtm_at "rf")
      wtm_at "r8"
      refine l_set (by assumption) (by with_reducible wtm_at "upd") (by omega) (by omega) (by omega) ?_; intro _ _
      wtm_at "r8"
      have S9 := St.unname (a := L) (by assumption) (by with_reducible wtm_at "upd")
      have hdr' : ∀ x ∈ zs.set v7.toNat (glyphWords.getD v8.toNat Str.empty), Drawn xs x := fun x hx => by
        rcases List.mem_or_eq_of_mem_set hx with h | rfl
        · exact hdr x h
        · exact .inr (List.mem_of_getElem? hgl)
      have S10 := S9.drop
      wtm_at "kk"; exact ⟨_, ⟨_, _, _, _, rfl, hws.set _ _ _, by rw [List.length_set]; exact hzl, hdr', by omega, by omega⟩, S10⟩
  · rintro n₁ s₆ ⟨ws, zs, sp, tk, rfl, hws, hzl, hdr, sp0, sp1⟩ S6
    show wpAny _ _ (execs _ _) _ _ _
    wtm_at "r8"
    have S7 := S6.pot (P := P) (m + 28) (by with_reducible wtm_at "upd") (by omega)
    have S8 := S7.sub (n' := (p, .lst ws) :: potX P C (m + 28)) (fun q hq => by
      rcases List.mem_cons.mp hq with rfl | hq
      · exact .head _
      · exact .tail _ (.tail _ hq)) (by
      have nd := S7.nd
      simp only [List.map_cons, List.nodup_cons, List.mem_cons, not_or] at nd ⊢
      exact ⟨⟨nd.1.2.1, nd.1.2.2⟩, nd.2.2⟩)
    rw [hg] at S8
    wtm_at "kk"; exact hR _ _ _ _ S8 hws hzl hdr
end
section
variable {w : World} {A : Around} {d : Nat} {s : Shared} {R : Result → Shared → Prop}
theorem due_spec {a b : Addr} {vs ws : List Value} {xs ys : List Str} (rm : Room A d) (hd : d ≤ 40) (W : Wld w s.heap)
    (ha : s.heap.IsList a vs.toArray) (hb : s.heap.IsList b ws.toArray) (hx : Strs vs xs) (hy : Strs ws ys) (hxl : xs.length = 256) (hyl : ys.length = 256)
    (hR : ∀ s' p ps, All2 shapeV ps (dueL xs ys) → NewL s s' p ps → R (.ok (.ret (.ref p))) s') :
    codeAny (Mo w) A (.call (.ref 401) ⟨[.ref a, .ref b], []⟩) R s := by
  refine fn_enterC0 (binds := [(Str.ofString "names", .ref a), (Str.ofString "base", .ref b)]) (lb := []) [] (fun L => [(Str.ofString "base", L + 2), (Str.ofString "names", L + 1)]) (fun L => [(L + 2, .cell (some (.ref b))), (L + 1, .cell (some (.ref a)))]) W rm (by rfl) (by decide +kernel) (by kernel_rfl) (by kernel_rfl) (by simp) (fun L x hx => by simp only [List.mem_cons, List.not_mem_nil, or_false] at hx; rcases hx with rfl | rfl; exact .inr ⟨by kernel_rfl, by rfl⟩; exact .inr ⟨by kernel_rfl, by rfl⟩) (fun L => by kernel_rfl) (fun L => by kernel_rfl) (fun L => by simp; decide) (fun _ hp => nomatch hp) .nil W (fun g L s₁ env A' E' hg W S fe rm' KK hKK => ?_) (dle0 (by assumption) (by rfl))
  replace S : St s g [(L + 2, .cell (some (.ref b))), (L + 1, .cell (some (.ref a))), (L, .ns [])] s₁ := S
  replace fe : Fe env _ L [(Str.ofString "base", L + 2), (Str.ofString "names", L + 1)] := fe
  replace hg : g = s.heap := hg
  rw [← hg] at ha hb
  have lx := hx.length
  have ly := hy.length
  have gx : ∀ {i : Nat}, i < 256 → ∃ t, vs[i]? = some (.str (xs.getD i Str.empty) t) := fun {i} h => hx.get (by rw [List.getD_eq_getElem?_getD, List.getElem?_eq_getElem (by omega)]; rfl)
  have gy : ∀ {i : Nat}, i < 256 → ∃ t, ws[i]? = some (.str (ys.getD i Str.empty) t) := fun {i} h => hy.get (by rw [List.getD_eq_getElem?_getD, List.getElem?_eq_getElem (by omega)]; rfl)
  wtm_at "r7"
  refine x_step (wpAny_mono (x_compF (k := s) (E := E') (Q := fun f s' => f = .next ∧ ∃ c vu n, n = [(c, .lst vu), (L + 2, .cell (some (.ref b))), (L + 1, .cell (some (.ref a))), (L, .ns [(Str.ofString "unlike", .ref c)])] ∧ CodesAre vu (unl xs ys 256) ∧ St s g n s') fe (swaps_compF fe (by kernel_rfl)) (cl' := [(Str.ofString "names", L + 1), (Str.ofString "base", L + 2)]) (closure_of fe (by intro env h; cases env; cases h; rfl)) (by decide +kernel) (by decide +kernel) (by decide +kernel) (by decide +kernel) ?_ (fun _ => by wtm_at "rf")) (fun f s' ⟨e, c, vu, n, en, hu, S''⟩ => ⟨e, ?_⟩) (fun _ _ x => x))
  · wtm_at "r7"
    refine r_range (N := 256) (by assumption) fun r t1 t2 t3 s₃ S₃ => ?_
    refine p_range S₃ (by decide) fun I s₄ S₄ => ?_
    clear S₃
    refine ⟨g, I, 256, _, _, _, fun i zs n => n = [(L + 2, .cell (some (.ref b))), (L + 1, .cell (some (.ref a))), (L, .ns [])] ∧ CodesAre zs (unl xs ys i), rfl, It.range rm'.handled I, by wtm_at "sz", S₄, ⟨rfl, rfl, fun i c e => by simp [unl] at e⟩, fun i zs n h => by rw [h.2.1]; exact unl_le _ _ _, fun s Q E h hQ => self_range s Q E h hQ, ?_, ?_⟩
    · rintro C acc cenv i v zs n₁ s₁ E₂ hi ⟨ti, rfl⟩ ⟨rfl, hz⟩ fe' S₁
      obtain ⟨tx, hxi⟩ := gx hi
      obtain ⟨ty, hyi⟩ := gy hi
      rw [Int.zero_add] at S₁ ⊢
      clear fe
      wtm_at "r7"
      refine l_item (ha.at fun o e => St.keep (by assumption) _ o e) (by omega) (by omega) hxi ?_ (by wtm_at "rf")
      wtm_at "r7"
      refine l_item (hb.at fun o e => St.keep (by assumption) _ o e) (by omega) (by omega) hyi ?_ (by wtm_at "rf")
      wtm_at "r7"
      by_cases q : xs.getD i Str.empty = ys.getD i Str.empty
      · refine go_false (by simpa using q) ?_
        wtm_at "kk"; exact ⟨_, ⟨rfl, by rw [unl_succ, if_neg (by simpa using q), List.append_nil]; exact hz⟩, by assumption⟩
      · refine go_true (by simpa using q) ?_
        wtm_at "r7"
        wtm_at "kk"; exact ⟨_, ⟨rfl, by rw [unl_succ, if_pos (by simpa using q)]; exact hz.snoc⟩, by assumption⟩
    · rintro C acc zs n₁ s₁ ⟨rfl, hz⟩ S₁
      wtm_at "r7"
      wtm_at "kk"; exact ⟨_, by assumption, fun s₃ S₃ => ⟨rfl, _, _, _, rfl, hz, S₃⟩⟩
  · subst en
    clear S
    have hU := unl_le xs ys 256
    have hUm : ∀ {j : Nat}, j < (unl xs ys 256).length → (unl xs ys 256).getD j 0 < 256 ∧ ∃ t, vu[j]? = some (.int (((unl xs ys 256).getD j 0 : Nat) : Int) t) := fun {j} h => by
      have e : (unl xs ys 256)[j]? = some ((unl xs ys 256).getD j 0) := by rw [List.getD_eq_getElem?_getD, List.getElem?_eq_getElem h]; rfl
      refine ⟨?_, hu.2 _ _ e⟩
      have := List.mem_of_getElem? e
      exact List.mem_range.mp (List.mem_filter.mp this).1
    obtain ⟨hul, _⟩ := hu
    have dul := dueTo_len xs (unl xs ys 256)
    have dus := dueTo_succ xs (unl xs ys 256)
    have edue : dueL xs ys = dueTo xs (unl xs ys 256) (unl xs ys 256).length := rfl
    rw [edue] at hR
    generalize unl xs ys 256 = U at *
    wtm_at "r7"
    refine e_list (k := s) (g := g) ?_
    wtm_at "r7"
    wtm_at "kk"; refine ⟨_, by assumption, Nat.le_of_ble_eq_true (by rfl), fun P s₂ S2 => ?_⟩
    wtm_at "r7"
    refine l_len (by assumption) (St.isList (by assumption) (by with_reducible wtm_at "mem")) (by wtm_at "sz") fun t₁ s₃ S3 => ?_
    rw [hul]
    wtm_at "r7"
    refine r_range (N := U.length) (by assumption) fun r t1 t2 t3 s₄ S4 => ?_
    refine p_range S4 (by omega) fun I s₅ S5 => ?_
    clear S2 S3 S4
    refine loop_it (It.range (A := A') (g := g) rm'.handled I) S5 (fun i n => ∃ ps, n = [(P, .lst ps), (c, .lst vu), (L + 2, .cell (some (.ref b))), (L + 1, .cell (some (.ref a))), (L, .ns [(Str.ofString "parts", .ref P), (Str.ofString "unlike", .ref c)])] ∧ All2 shapeV ps (dueTo xs U i)) ⟨_, rfl, .nil⟩ ?_ ?_
    · rintro i v n₁ s₆ E₂ hi ⟨ti, rfl⟩ ⟨ps, rfl, hps⟩ S6
      intro KK hKK
      obtain ⟨h1, t1, h2⟩ := hUm hi
      obtain ⟨tx, hxi⟩ := gx h1
      have lps := hps.length
      have l2 := dul i
      have es := dus i
      unfold dueStep at es
      rw [Int.zero_add]
      clear S5
      wtm_at "r7"
      by_cases q0 : i = 0
      · refine go_true (by simpa using q0) ?_
        rw [if_pos (.inl q0)] at es
        wtm_at "r7"
        refine l_item (St.isList (by assumption) (by with_reducible wtm_at "mem")) (by omega) (by omega) (by rw [Int.toNat_natCast]; exact h2) ?_ (by wtm_at "rf")
        wtm_at "r7"
        refine l_item (St.isList (by assumption) (by with_reducible wtm_at "mem")) (by omega) (by omega) (by rw [Int.toNat_natCast]; exact h2) ?_ (by wtm_at "rf")
        wtm_at "r7"
        refine l_item (ha.at fun o e => St.keep (by assumption) _ o e) (by omega) (by omega) (by rw [Int.toNat_natCast]; exact hxi) ?_ (by wtm_at "rf")
        wtm_at "r7"
        by_cases q3 : xs.getD (U.getD i 0) Str.empty = Str.ofString ""
        · have en : nameOf (xs.getD (U.getD i 0) Str.empty) = Str.ofString ".notdef" := if_pos q3
          rw [en] at es
          refine go_true (by simpa using q3) ?_
          wtm_at "r7"
          refine l_append (by assumption) (by with_reducible wtm_at "upd") (by rw [List.length_append]; show _ + 1 ≤ 16777216; omega) ?_; intro _ _
          wtm_at "r7"
          have S9 := St.unname (a := L) (by assumption) (by with_reducible wtm_at "upd")
          wtm_at "kk"; refine ⟨_, ⟨_, rfl, ?_⟩, S9⟩
          rw [es]
          exact (hps.snoc (p := .code _) ⟨_, rfl⟩).snoc (p := .name _) ⟨_, rfl⟩
        · have en : nameOf (xs.getD (U.getD i 0) Str.empty) = xs.getD (U.getD i 0) Str.empty := if_neg q3
          rw [en] at es
          refine go_false (by simpa using q3) ?_
          wtm_at "r7"
          refine l_item (St.isList (by assumption) (by with_reducible wtm_at "mem")) (by omega) (by omega) (by rw [Int.toNat_natCast]; exact h2) ?_ (by wtm_at "rf")
          wtm_at "r7"
          refine l_item (ha.at fun o e => St.keep (by assumption) _ o e) (by omega) (by omega) (by rw [Int.toNat_natCast]; exact hxi) ?_ (by wtm_at "rf")
          wtm_at "r7"
          refine l_append (by assumption) (by with_reducible wtm_at "upd") (by rw [List.length_append]; show _ + 1 ≤ 16777216; omega) ?_; intro _ _
          wtm_at "r7"
          have S9 := St.unname (a := L) (by assumption) (by with_reducible wtm_at "upd")
          wtm_at "kk"; refine ⟨_, ⟨_, rfl, ?_⟩, S9⟩
          rw [es]
          exact (hps.snoc (p := .code _) ⟨_, rfl⟩).snoc (p := .name _) ⟨_, rfl⟩
      · refine go_false (by simpa using q0) ?_
        obtain ⟨h3, t3, h4⟩ := hUm (j := i - 1) (by omega)
        wtm_at "r7"
        refine l_item (St.isList (by assumption) (by with_reducible wtm_at "mem")) (by omega) (by omega) (by rw [show ((i : Int) - 1).toNat = i - 1 by omega]; exact h4) ?_ (by wtm_at "rf")
        wtm_at "r7"
        refine l_item (St.isList (by assumption) (by with_reducible wtm_at "mem")) (by omega) (by omega) (by rw [Int.toNat_natCast]; exact h2) ?_ (by wtm_at "rf")
        wtm_at "r7"
        by_cases q1 : U.getD (i - 1) 0 + 1 < U.getD i 0
        · rw [if_pos (.inr q1)] at es
          refine go_true (by simpa using (by omega : ((U.getD (i - 1) 0 : Nat) : Int) + 1 < (U.getD i 0 : Nat))) ?_
          wtm_at "r7"
          refine l_item (St.isList (by assumption) (by with_reducible wtm_at "mem")) (by omega) (by omega) (by rw [Int.toNat_natCast]; exact h2) ?_ (by wtm_at "rf")
          wtm_at "r7"
          refine l_item (St.isList (by assumption) (by with_reducible wtm_at "mem")) (by omega) (by omega) (by rw [Int.toNat_natCast]; exact h2) ?_ (by wtm_at "rf")
          wtm_at "r7"
          refine l_item (ha.at fun o e => St.keep (by assumption) _ o e) (by omega) (by omega) (by rw [Int.toNat_natCast]; exact hxi) ?_ (by wtm_at "rf")
          wtm_at "r7"
          by_cases q3 : xs.getD (U.getD i 0) Str.empty = Str.ofString ""
          · have en : nameOf (xs.getD (U.getD i 0) Str.empty) = Str.ofString ".notdef" := if_pos q3
            rw [en] at es
            refine go_true (by simpa using q3) ?_
            wtm_at "r7"
            refine l_append (by assumption) (by with_reducible wtm_at "upd") (by rw [List.length_append]; show _ + 1 ≤ 16777216; omega) ?_; intro _ _
            wtm_at "r7"
            have S9 := St.unname (a := L) (by assumption) (by with_reducible wtm_at "upd")
            wtm_at "kk"; refine ⟨_, ⟨_, rfl, ?_⟩, S9⟩
            rw [es]
            exact (hps.snoc (p := .code _) ⟨_, rfl⟩).snoc (p := .name _) ⟨_, rfl⟩
          · have en : nameOf (xs.getD (U.getD i 0) Str.empty) = xs.getD (U.getD i 0) Str.empty := if_neg q3
            rw [en] at es
            refine go_false (by simpa using q3) ?_
            wtm_at "r7"
            refine l_item (St.isList (by assumption) (by with_reducible wtm_at "mem")) (by omega) (by omega) (by rw [Int.toNat_natCast]; exact h2) ?_ (by wtm_at "rf")
            wtm_at "r7"
            refine l_item (ha.at fun o e => St.keep (by assumption) _ o e) (by omega) (by omega) (by rw [Int.toNat_natCast]; exact hxi) ?_ (by wtm_at "rf")
            wtm_at "r7"
            refine l_append (by assumption) (by with_reducible wtm_at "upd") (by rw [List.length_append]; show _ + 1 ≤ 16777216; omega) ?_; intro _ _
            wtm_at "r7"
            have S9 := St.unname (a := L) (by assumption) (by with_reducible wtm_at "upd")
            wtm_at "kk"; refine ⟨_, ⟨_, rfl, ?_⟩, S9⟩
            rw [es]
            exact (hps.snoc (p := .code _) ⟨_, rfl⟩).snoc (p := .name _) ⟨_, rfl⟩
        · rw [if_neg (by rintro (h | h); exact q0 h; exact q1 h)] at es
          refine go_false (by simpa using (by omega : ((U.getD i 0 : Nat) : Int) ≤ (U.getD (i - 1) 0 : Nat) + 1)) ?_
          wtm_at "r7"
          refine l_item (St.isList (by assumption) (by with_reducible wtm_at "mem")) (by omega) (by omega) (by rw [Int.toNat_natCast]; exact h2) ?_ (by wtm_at "rf")
          wtm_at "r7"
          refine l_item (ha.at fun o e => St.keep (by assumption) _ o e) (by omega) (by omega) (by rw [Int.toNat_natCast]; exact hxi) ?_ (by wtm_at "rf")
          wtm_at "r7"
          by_cases q3 : xs.getD (U.getD i 0) Str.empty = Str.ofString ""
          · have en : nameOf (xs.getD (U.getD i 0) Str.empty) = Str.ofString ".notdef" := if_pos q3
            rw [en] at es
            refine go_true (by simpa using q3) ?_
            wtm_at "r7"
            have S9 := St.unname (a := L) (by assumption) (by with_reducible wtm_at "upd")
            wtm_at "kk"; refine ⟨_, ⟨_, rfl, ?_⟩, S9⟩
            rw [es, List.append_nil]
            exact hps.snoc (p := .name _) ⟨_, rfl⟩
          · have en : nameOf (xs.getD (U.getD i 0) Str.empty) = xs.getD (U.getD i 0) Str.empty := if_neg q3
            rw [en] at es
            refine go_false (by simpa using q3) ?_
            wtm_at "r7"
            refine l_item (St.isList (by assumption) (by with_reducible wtm_at "mem")) (by omega) (by omega) (by rw [Int.toNat_natCast]; exact h2) ?_ (by wtm_at "rf")
            wtm_at "r7"
            refine l_item (ha.at fun o e => St.keep (by assumption) _ o e) (by omega) (by omega) (by rw [Int.toNat_natCast]; exact hxi) ?_ (by wtm_at "rf")
            wtm_at "r7"
            have S9 := St.unname (a := L) (by assumption) (by with_reducible wtm_at "upd")
            wtm_at "kk"; refine ⟨_, ⟨_, rfl, ?_⟩, S9⟩
            rw [es, List.append_nil]
            exact hps.snoc (p := .name _) ⟨_, rfl⟩
    · rintro n₁ s₆ ⟨ps, rfl, hps⟩ S6
      show wpAny _ _ (execs _ _) _ _ _
      wtm_at "r7"
      wtm_at "kk"; exact hR _ _ _ hps (NewL.of S6 hg (by with_reducible wtm_at "mem"))
end
section
variable {w : World} {A : Around} {d : Nat} {s : Shared} {R : Result → Shared → Prop}
theorem written_spec (B : BaseOk) {a : Addr} {vs : List Value} {xs : List Str} (rm : Room A d) (hd : d ≤ 35) (W : Wld w s.heap)
    (ha : s.heap.IsList a vs.toArray) (hx : Strs vs xs) (hxl : xs.length = 256)
    (hR : ∀ s' v X, St s s.heap X s' → (∀ h, Holds X h → FoundH w h v (bestTo xs 3) (diffL xs (baseAt (bestTo xs 3)))) → R (.ok (.ret v)) s') :
    codeAny (Mo w) A (.call (.ref 363) ⟨[.ref a], []⟩) R s := by
  refine fn_enter0 [] W rm (by rfl) (by decide +kernel) (BindsTo.of_eq (binds := [(Str.ofString "names", .ref a)]) (by kernel_rfl)) (by kernel_rfl) (fun _ hp => nomatch hp) .nil W (fun g L s₁ env A' E' hg W S fe rm' KK hKK => ?_) (dle0 (by assumption) (by rfl))
  replace hg : g = s.heap := hg
  rw [← hg] at ha
  wtm_at "r7"
  refine e_tuple (k := s) (g := g) ?_
  wtm_at "r7"
  wtm_at "kk"; refine ⟨_, by assumption, Nat.le_of_ble_eq_true (by rfl), fun tq s₂ S2 => ?_⟩
  obtain ⟨ts, S2, hts⟩ : ∃ ts, St s g ((tq, .obj (tupO ts)) :: (L, .ns [(Str.ofString "best", .none), (Str.ofString "names", .ref a)]) :: []) s₂ ∧ Strs ts encWords := ⟨_, S2, .cons (.cons (.cons .nil))⟩
  obtain ⟨g', hgg, S3, H3⟩ := St.freezeAll (X := [(tq, .obj (tupO ts))]) S2
  have ht := H3.tup (.head _)
  have hz := hts.length
  replace ha : g'.IsList a vs.toArray := ha.at fun o e => hgg _ _ e
  have hgg' := hgg
  rw [hg] at hgg'
  replace W : Wld w g' := W.keeps hgg
  clear H3 S2 S hgg
  refine p_tuple S3 ht fun I s₃ S4 => ?_
  refine loop_it (It.tuple (A := A') rm'.handled ht I) S4 (fun i n => (i = 0 ∧ n = [(L, .ns [(Str.ofString "best", .none), (Str.ofString "names", .ref a)])]) ∨ (0 < i ∧ ∃ q p ps news te, n = (q, .obj (tupO [.str (encW (bestTo xs i)) te, .ref p])) :: (p, .lst ps) :: (L, .ns [(Str.ofString "best", .ref q), (Str.ofString "names", .ref a)]) :: news ∧ PartsIn news ps (diffL xs (baseAt (bestTo xs i))))) (.inl ⟨rfl, rfl⟩) ?_ ?_
  · rintro i v n₁ s₅ E₂ hi hv hJ S5
    intro KK hKK
    obtain ⟨y, ty, hy, rfl⟩ := hts.back hv
    obtain ⟨hi3, rfl⟩ := encW_at hy
    have hb := encW_base hi3
    clear S4 S3
    have callB : ∀ {s₇ : Shared} {n₇ : Led} {Q : Result → Shared → Prop}, St s g' n₇ s₇ → (∀ p ps s', St s g' ((p, .lst ps) :: n₇) s' → Strs ps (baseAt i) → Q (.ok (.ret (.ref p))) s') → Wld w s₇.heap ∧ codeAny (Mo w) A' (.call (.ref 337) ⟨[.str (encW i) ty], []⟩) Q s₇ := fun {s₇ n₇ Q} S7 hQ =>
      ⟨W.keeps S7.keep, base_spec B [] (.inl ⟨by rw [hb]; rfl, rfl⟩) rm' (dle (by assumption) (by rfl)) (W.keeps S7.keep) (W.keeps S7.keep) (fun ys s' p ps e N hp => hQ _ _ _ (S7.newL N) (by rw [hb] at e; cases e; exact hp)) fun e => by rw [hb] at e; cases e⟩
    have lb := B.len hb
    have callD : ∀ {s₇ : Shared} {n₇ : Led} {b : Addr} {ws : List Value} {Q : Result → Shared → Prop}, St s g' n₇ s₇ → (b, .lst ws) ∈ n₇ → Strs ws (baseAt i) → (∀ p ps news s', PartsIn news ps (diffL xs (baseAt i)) → St s g' ((p, .lst ps) :: (n₇ ++ news)) s' → Q (.ok (.ret (.ref p))) s') → Wld w s₇.heap ∧ codeAny (Mo w) A' (.call (.ref 351) ⟨[.ref a, .ref b], []⟩) Q s₇ := fun {s₇ n₇ b ws Q} S7 hm hw hQ =>
      ⟨W.keeps S7.keep, diff_spec rm' (dle (by assumption) (by rfl)) (W.keeps S7.keep) (ha.at fun o e => S7.keep _ o e) (S7.isList hm) hx hw hxl lb fun s' p ps news hp S8 => hQ _ _ _ _ hp ((S7.more S8).perm (List.perm_append_comm.cons _))⟩
    rcases hJ with ⟨rfl, rfl⟩ | ⟨i0, q, p, ps, news, te, rfl, hp⟩
    · wtm_at "r7"
      refine callB (by assumption) fun pb vb s₆ S6 hvb => ?_
      wtm_at "r7"
      refine callD S6 (.head _) hvb fun p ps news s₇ hp S7 => ?_
      replace S7 : St s g' ((p, .lst ps) :: _ :: _ :: _ :: news) s₇ := S7
      clear S6 S5
      show wpAny _ _ (storeName _ _ _) _ _ _
      wtm_at "r7"
      refine go_true (by rfl) ?_
      refine go_true (by rfl) ?_
      wtm_at "r7"
      refine e_tuple (k := s) (g := g') ?_
      wtm_at "r7"
      wtm_at "kk"; refine ⟨_, by assumption, Nat.le_of_ble_eq_true (by rfl), fun q s₈ S8 => ?_⟩
      wtm_at "r7"
      have S9 := St.unname (a := L) (by assumption) (by with_reducible wtm_at "upd")
      have S10 := St.unname (a := L) S9 (by with_reducible wtm_at "upd")
      have S11 := (S10.perm (List.perm_middle (l₁ := [_, _, _])).symm).subl (.cons₂ _ (.cons₂ _ (.cons₂ _ (.cons _ (.refl _)))))
      wtm_at "kk"; exact ⟨_, .inr ⟨Nat.zero_lt_one, _, _, _, _, _, rfl, hp⟩, S11⟩
    · wtm_at "r7"
      refine callB (by assumption) fun pb vb s₆ S6 hvb => ?_
      wtm_at "r7"
      refine callD S6 (.head _) hvb fun p' ps' news' s₇ hp' S7 => ?_
      replace S7 : St s g' ((p', .lst ps') :: _ :: _ :: _ :: _ :: _ :: (news ++ news')) s₇ := S7
      clear S6 S5
      show wpAny _ _ (storeName _ _ _) _ _ _
      wtm_at "r7"
      refine go_false (by rfl) ?_
      have lp := hp.length
      have lp' := hp'.length
      have d1 : ps.length ≤ 512 := by rw [lp]; exact diffL_len _ _
      have d2 : ps'.length ≤ 512 := by rw [lp']; exact diffL_len _ _
      wtm_at "r7"
      refine l_len (by assumption) (St.isList (by assumption) (by with_reducible wtm_at "mem")) (by wtm_at "sz") fun t₁ s₈ S8 => ?_
      wtm_at "r7"
      refine u_item (St.isTup (by assumption) (by with_reducible wtm_at "mem")) (by decide) (by decide) rfl ?_ (by wtm_at "rf")
      wtm_at "r7"
      refine l_len (by assumption) (St.isList (by assumption) (by with_reducible wtm_at "mem")) (by wtm_at "sz") fun t₂ s₉ S9 => ?_
      wtm_at "r7"
      have eb := bestTo_next xs i0
      unfold sizeAt at eb
      rw [← lp, ← lp'] at eb
      by_cases q1 : ps'.length < ps.length
      · rw [if_pos q1] at eb
        refine go_true (by simpa using q1) ?_
        refine go_true (by rfl) ?_
        wtm_at "r7"
        refine e_tuple (k := s) (g := g') ?_
        wtm_at "r7"
        wtm_at "kk"; refine ⟨_, by assumption, Nat.le_of_ble_eq_true (by rfl), fun q2 s10 S10 => ?_⟩
        wtm_at "r7"
        have S11 := St.unname (a := L) (by assumption) (by with_reducible wtm_at "upd")
        have S12 := St.unname (a := L) S11 (by with_reducible wtm_at "upd")
        have S13 := (S12.perm (List.perm_middle (l₁ := [_, _, _])).symm).subl (.cons₂ _ (.cons₂ _ (.cons₂ _ (.cons _ (.cons _ (.cons _ (.cons₂ _ (List.sublist_append_right news news'))))))))
        wtm_at "kk"; exact ⟨_, .inr ⟨Nat.succ_pos _, _, _, ps', news', ty, by rw [eb], by rw [eb]; exact hp'⟩, S13⟩
      · rw [if_neg q1] at eb
        refine go_false (by simpa using q1) ?_
        wtm_at "r7"
        have S11 := St.unname (a := L) (by assumption) (by with_reducible wtm_at "upd")
        have S12 := St.unname (a := L) S11 (by with_reducible wtm_at "upd")
        have S13 := (S12.perm (List.perm_middle (l₁ := [_, _])).symm).subl (.cons₂ _ (.cons _ (.cons _ (.cons₂ _ (.cons₂ _ (.cons₂ _ (List.sublist_append_left news news')))))))
        wtm_at "kk"; exact ⟨_, .inr ⟨Nat.succ_pos _, _, _, ps, news, te, by rw [eb], by rw [eb]; exact hp⟩, S13⟩
  · rintro n₁ s₆ hJ S6
    have e3 : ts.length = 3 := hz
    rw [e3] at hJ
    rcases hJ with ⟨h, _⟩ | ⟨_, q, p, ps, news, te, rfl, hp⟩
    · cases h
    have hj : bestTo xs 3 < 3 := bestTo_lt xs 2
    have es := encW_std hj
    have lp := hp.length
    have d1 : ps.length ≤ 512 := by rw [lp]; exact diffL_len _ _
    generalize bestTo xs 3 = j at *
    generalize hP : diffL xs (baseAt j) = D at *
    clear S4 S3
    show wpAny _ _ (execs _ _) _ _ _
    refine x_step (u_pair (k := s) (g := g') rm'.handled ?_ (by wtm_at "rf") (by wtm_at "rf"))
    wtm_at "r7"
    refine ⟨q, _, _, _, rfl, by assumption, St.isTup (by assumption) (by with_reducible wtm_at "mem"), fun s₇ S7 => ?_⟩
    clear S6
    wtm_at "r7"
    by_cases j0 : j = 0
    · refine go_true (by rw [es]; simpa using j0) ?_
      wtm_at "r7"
      refine l_truthy (by assumption) (St.isList (by assumption) (by with_reducible wtm_at "mem")) (by wtm_at "sz") fun s₈ S8 => ?_
      by_cases p0 : ps = []
      · refine go_false (by simp [p0]) ?_
        wtm_at "r7"
        wtm_at "kk"; refine hR _ _ [] ((S8.subl (List.nil_sublist _)).shrink hgg') fun h _ => .inl ⟨?_, j0, rfl⟩
        rw [p0] at lp; exact List.eq_nil_of_length_eq_zero lp.symm
      · refine go_true (by simp [p0]) ?_
        have D0 : D ≠ [] := fun h => p0 (List.eq_nil_of_length_eq_zero (by rw [lp, h]; rfl))
        refine e_dict W S8 (PySem.strKind prg w) (by rfl) (by rfl) (by decide) (by decide) fun Dd s₉ lo S9 => ?_
        clear S8 S7
        refine p_cons ?_
        wtm_at "r7"
        refine ⟨W.keeps (St.keep (by assumption)), name_new rm' (dle (by assumption) (by rfl)) (W.keeps (St.keep (by assumption))) fun s10 x10 dx10 N => ?_⟩
        have S10 := St.newI (by assumption) N
        clear N
        show wpAny _ _ (evalPairs _) _ _ _
        refine p_cons ?_
        wtm_at "r7"
        refine p_nil ?_
        wtm_at "kk"; refine ⟨_, _, [(Str.ofString "Type", .ref x10), (Str.ofString "Differences", .ref p)], by assumption, by with_reducible wtm_at "upd", ⟨strKind_is _ _ _ _, rfl, strKind_is _ _ _ _, rfl, trivial⟩, fun s11 S11 => ?_⟩
        rw [merged2 _ _ (by decide +kernel)] at S11
        have S12 := (S11.subl (n' := [_, _, _, _] ++ news) (.cons₂ _ (.cons₂ _ (.cons₂ _ (.cons _ (.cons₂ _ (.cons _ (.refl _)))))))).shrink hgg'
        wtm_at "kk"; exact hR _ _ _ S12 fun h H => .inr (.inr ⟨D0, Dd, x10, _, p, ps, _, rfl, H.dic lo (by wtm_at "mem"), H.inst (by wtm_at "mem") (by wtm_at "mem"), H.list (by wtm_at "mem"), H.parts (fun q hq => List.mem_append_right _ hq) hp, .inl ⟨j0, rfl⟩⟩)
    · refine go_false (by rw [es]; simpa using j0) ?_
      wtm_at "r7"
      refine l_truthy (by assumption) (St.isList (by assumption) (by with_reducible wtm_at "mem")) (by wtm_at "sz") fun s₈ S8 => ?_
      by_cases p0 : ps = []
      · refine go_true (by simp [p0]) ?_
        wtm_at "r7"
        have D0 : D = [] := by rw [p0] at lp; exact List.eq_nil_of_length_eq_zero lp.symm
        refine ⟨W.keeps (St.keep (by assumption)), name_new rm' (dle (by assumption) (by rfl)) (W.keeps (St.keep (by assumption))) fun s10 x10 dx10 N => ?_⟩
        have S10 := St.newI (by assumption) N
        clear N
        have S12 := (S10.subl (n' := [_, _]) (.cons₂ _ (.cons₂ _ (List.nil_sublist _)))).shrink hgg'
        wtm_at "kk"; exact hR _ _ _ S12 fun h H => .inr (.inl ⟨D0, j0, x10, _, rfl, H.inst (by wtm_at "mem") (by wtm_at "mem")⟩)
      · refine go_false (by simp [p0]) ?_
        wtm_at "r7"
        have D0 : D ≠ [] := fun h => p0 (List.eq_nil_of_length_eq_zero (by rw [lp, h]; rfl))
        refine e_dict W (by assumption) (PySem.strKind prg w) (by rfl) (by rfl) (by decide) (by decide) fun Dd s₉ lo S9 => ?_
        clear S8 S7
        refine p_cons ?_
        wtm_at "r7"
        refine ⟨W.keeps (St.keep (by assumption)), name_new rm' (dle (by assumption) (by rfl)) (W.keeps (St.keep (by assumption))) fun s10 x10 dx10 N => ?_⟩
        have S10 := St.newI (by assumption) N
        clear N
        show wpAny _ _ (evalPairs _) _ _ _
        refine p_cons ?_
        wtm_at "r7"
        refine ⟨W.keeps (St.keep (by assumption)), name_new rm' (dle (by assumption) (by rfl)) (W.keeps (St.keep (by assumption))) fun s11 x11 dx11 N => ?_⟩
        have S11 := St.newI (by assumption) N
        clear N
        show wpAny _ _ (evalPairs _) _ _ _
        refine p_cons ?_
        wtm_at "r7"
        refine p_nil ?_
        wtm_at "kk"; refine ⟨_, _, [(Str.ofString "Type", .ref x10), (Str.ofString "BaseEncoding", .ref x11), (Str.ofString "Differences", .ref p)], by assumption, by with_reducible wtm_at "upd", ⟨strKind_is _ _ _ _, rfl, strKind_is _ _ _ _, rfl, strKind_is _ _ _ _, rfl, trivial⟩, fun s12 S12 => ?_⟩
        rw [merged3 _ _ _ (by decide +kernel) (by decide +kernel) (by decide +kernel)] at S12
        have S13 := (S12.subl (n' := [_, _, _, _, _, _] ++ news) (.cons₂ _ (.cons₂ _ (.cons₂ _ (.cons₂ _ (.cons₂ _ (.cons _ (.cons₂ _ (.cons _ (.refl _)))))))))).shrink hgg'
        wtm_at "kk"; exact hR _ _ _ S13 fun h H => .inr (.inr ⟨D0, Dd, x10, _, p, ps, _, rfl, H.dic lo (by wtm_at "mem"), H.inst (by wtm_at "mem") (by wtm_at "mem"), H.list (by wtm_at "mem"), H.parts (fun q hq => List.mem_append_right _ hq) hp, .inr ⟨j0, x11, _, rfl, H.inst (by wtm_at "mem") (by wtm_at "mem")⟩⟩)
end
section
variable {w : World} {A : Around} {d : Nat} {s : Shared} {R : Result → Shared → Prop}
theorem laid_spec {P C T x T2 : Addr} {m : Nat} {kvs : List (Int × Value)} {v : Value} (rm : Room A d) (hd : d ≤ 35) (hm : m ≤ 1000) (W : Wld w s.heap) (hX : ∀ p ∈ layX w P C T m kvs, ∃ o, s.heap.get? p.1 = some o ∧ p.2.is o) (nd : [P, C, T].Nodup)
    (hW : Wld w (hideAll s.heap [P, C, T])) (hI : InstH (hideAll s.heap [P, C, T]) x 311 [(Str.ofString "table", .ref T), (Str.ofString "trailer", .ref T2)]) (lo : (T == sysModules) = false) (hk : KeysUp kvs) (hz : kvs.length ≤ 5000)
    (hR : ∀ s' u kvs' Y, St s (hideAll s.heap [P, C, T]) (Y ++ layX w P C T (m + 1) kvs') s' → LaidIn Y kvs' u v → KeysUp kvs' → (∃ more, kvs' = kvs ++ more ∧ more.length ≤ 1) → R (.ok (.ret u)) s') :
    codeAny (Mo w) A (.call (.ref 418) ⟨[.ref P, .ref x, v], []⟩) R s := by
  have hn : P ≠ C := fun h => by rw [h] at nd; simp at nd
  refine fn_enter0 (layX w P C T m kvs) W rm (by rfl) (by decide +kernel) (BindsTo.of_eq (binds := [(Str.ofString "pot", .ref P), (Str.ofString "shelf", .ref x), (Str.ofString "value", v)]) (by kernel_rfl)) (by kernel_rfl) hX nd hW (fun g L s₁ env A' E' hg W S fe rm' KK hKK => ?_) (dle0 (by assumption) (by rfl))
  clear hW hX
  replace hg : g = hideAll s.heap [P, C, T] := hg
  rw [← hg] at hI
  have fin : ∀ {s'} {tl : Led}, St s g ((L, tl.headD (L, .ns []) |>.2) :: layX w P C T (m + 1) kvs) s' → True := fun _ => trivial
  clear fin
  wtm_at "r8"
  by_cases vn : (v == .none) = true
  · refine go_false (by rw [vn]; rfl) ?_
    wtm_at "r8"
    have S2 := (S.pot (P := P) (m + 1) (by with_reducible wtm_at "upd") (Nat.le_succ m)).drop
    rw [hg] at S2
    wtm_at "kk"; exact hR _ _ _ [] S2 (.inl rfl) hk ⟨[], (List.append_nil _).symm, Nat.zero_le _⟩
  · refine go_true (by rw [Bool.not_eq_true] at vn; rw [vn]; rfl) ?_
    wtm_at "r8"
    rename_i s5 v5 t5 S5 w0 w1 _ _ S6
    by_cases hz1 : v5 = 1
    · refine go_true (by simpa using hz1) ?_
      wtm_at "r8"
      refine i_get (W.keeps (St.keep (by assumption))) (by assumption) (hI.keeps (St.keep (by assumption))) rfl (by kernel_rfl) (by kernel_rfl) (attr := none) (by kernel_rfl) rfl rfl fun _ _ => ?_
      wtm_at "r8"
      refine d_len (by assumption) (St.dic (knd := PySem.intKind prg w) (by assumption) lo (by with_reducible wtm_at "mem")) (by omega) fun _ s7 S7 => ?_
      wtm_at "r8"
      refine e_tuple (k := s) (g := g) ?_
      wtm_at "r8"
      wtm_at "kk"; refine ⟨_, by assumption, Nat.le_of_ble_eq_true (by rfl), fun tp s8 S8 => ?_⟩
      wtm_at "r8"
      refine i_get (W.keeps (St.keep (by assumption))) (by assumption) (hI.keeps (St.keep (by assumption))) rfl (by kernel_rfl) (by kernel_rfl) (attr := none) (by kernel_rfl) rfl rfl fun _ _ => ?_
      wtm_at "r8"
      obtain ⟨ks1, ks2, ks3⟩ := hk.snoc (.ref tp)
      refine d_set (knd := PySem.intKind prg w) (by assumption) (by with_reducible wtm_at "upd") (intKind_is _ _ _ _) (by wtm_at "sz") fun s9 S9 => ?_
      rw [ks1] at S9
      clear S5 S6 S7 S8
      wtm_at "r8"
      refine k_cls (by kernel_rfl) ?_ (by wtm_at "rf") (by wtm_at "rf")
      wtm_at "r8"
      refine ⟨W.keeps (St.keep (by assumption)), ref_new rm' (dle (by assumption) (by rfl)) (W.keeps (St.keep (by assumption))) fun s10 y dy N => ?_⟩
      have S10 := St.newI (by assumption) N
      have S11 := S10.subl (n' := [(y, _), (dy, _), (tp, _)] ++ layX w P C T (m + 1) (kvs ++ [((kvs.length : Int) + 1, .ref tp)])) (.cons₂ _ (.cons₂ _ (.cons₂ _ (.cons _ (.refl _)))))
      rw [hg] at S11
      wtm_at "kk"; exact hR _ _ _ _ S11 (.inr ⟨y, dy, _, _, _, tp, _, rfl, by wtm_at "mem", by wtm_at "mem", by wtm_at "mem", ks3⟩) ks2 ⟨_, rfl, Nat.le_refl _⟩
    · refine go_false (by simpa using hz1) ?_
      wtm_at "r8"
      have S2 := S6.drop
      rw [hg] at S2
      wtm_at "kk"; exact hR _ _ _ [] S2 (.inl rfl) hk ⟨[], (List.append_nil _).symm, Nat.zero_le _⟩
end
section
variable {w : World} {A : Around} {d : Nat} {s : Shared} {R : Result → Shared → Prop}
theorem parts_spec {P C : Addr} {m : Nat} (rm : Room A d) (hd : d ≤ 35) (hm : m ≤ 900) (W : Wld w s.heap) (hX : ∀ p ∈ potX P C m, ∃ o, s.heap.get? p.1 = some o ∧ p.2.is o) (hn : P ≠ C)
    (hW : Wld w (hideAll s.heap [P, C]))
    (hR : ∀ s' p vs ps Y, St s (hideAll s.heap [P, C]) (((p, .lst vs) :: Y) ++ potX P C (m + 15)) s' → (∀ h, Holds Y h → All3 (pvH h) vs ps) → ps.length ≤ 7 → (∀ p ∈ ps, GlyphOk p) → R (.ok (.ret (.ref p))) s') :
    codeAny (Mo w) A (.call (.ref 430) ⟨[.ref P], []⟩) R s := by
  refine fn_enter0 (potX P C m) W rm (by rfl) (by decide +kernel) (BindsTo.of_eq (binds := [(Str.ofString "pot", .ref P)]) (by kernel_rfl)) (by kernel_rfl) hX (by simpa [potX] using hn) hW (fun g L s₁ env A' E' hg W S fe rm' KK hKK => ?_) (dle0 (by assumption) (by rfl))
  clear hW hX
  replace hg : g = hideAll s.heap [P, C] := hg
  wtm_at "r8"
  refine e_list (k := s) (g := g) ?_
  wtm_at "r8"
  wtm_at "kk"; refine ⟨_, by assumption, Nat.le_of_ble_eq_true (by rfl), fun p s₂ S2 => ?_⟩
  wtm_at "r8"
  rename_i s3 v3 t3 S3 v0 v1
  obtain ⟨N, rfl⟩ := Int.eq_ofNat_of_zero_le v0
  refine r_range (N := N) (by assumption) fun r t1 t2 t3 s₃ S₃ => ?_
  refine p_range S₃ (by omega) fun I s₄ S₄ => ?_
  clear S₃ S S2
  refine loop_it (It.range (A := A') (g := g) rm'.handled I) S₄ (fun i n => ∃ vs ps Y, n = (p, .lst vs) :: (L, .ns [(Str.ofString "parts", .ref p), (Str.ofString "pot", .ref P)]) :: (P, .prop (potD C (m + 1 + 2 * i))) :: (C, .prop cellsD) :: Y ∧ (∀ h, Holds Y h → All3 (pvH h) vs ps) ∧ ps.length = i ∧ vs.length = i ∧ ∀ p ∈ ps, GlyphOk p) ⟨_, [], [], rfl, fun _ _ => .nil, rfl, rfl, fun _ h => nomatch h⟩ ?_ ?_
  · rintro i v' n₁ s₅ E₂ hi ⟨ti, rfl⟩ ⟨vs, ps, Y, rfl, hps, hpl, hvl, hgo⟩ S₅
    intro KK hKK
    have snocG : ∀ q, GlyphOk q → ∀ p ∈ ps ++ [q], GlyphOk p := fun q hq p hp => by
      rcases List.mem_append.mp hp with h | h
      · exact hgo p h
      · rw [List.mem_singleton.mp h]; exact hq
    have lsn : ∀ q : Option Part, (ps ++ [q]).length = i + 1 := fun q => by rw [List.length_append, hpl]; rfl
    have lvn : ∀ q : Value, (vs ++ [q]).length = i + 1 := fun q => by rw [List.length_append, hvl]; rfl
    clear S₄ S3
    wtm_at "r8"
    rename_i v5 t5 S5 w0 w1 _ _ _ _ S6
    by_cases c1 : v5 < 3
    · refine go_true (by simpa using c1) ?_
      wtm_at "r8"
      have Sa := St.unname (a := L) (by assumption) (by with_reducible wtm_at "upd")
      have Sb := St.unname (a := L) Sa (by with_reducible wtm_at "upd")
      have Sc := Sb.pot (P := P) (m + 1 + 2 * (i + 1)) (by with_reducible wtm_at "upd") (by omega)
      wtm_at "kk"; exact ⟨_, ⟨_, ps ++ [some (.code _)], Y, rfl, fun h H => (hps h H).snoc (p := some (.code _)) ⟨_, rfl⟩, lsn _, lvn _, snocG _ fun x h => by cases h⟩, Sc⟩
    · refine go_false (by simpa using c1) ?_
      wtm_at "r8"
      by_cases c2 : v5 = 3
      · refine go_true (by simpa using c2) ?_
        wtm_at "r8"
        have Sa := St.unname (a := L) (by assumption) (by with_reducible wtm_at "upd")
        have Sb := St.unname (a := L) Sa (by with_reducible wtm_at "upd")
        have Sc := Sb.pot (P := P) (m + 1 + 2 * (i + 1)) (by with_reducible wtm_at "upd") (by omega)
        wtm_at "kk"; exact ⟨_, ⟨_, ps ++ [some (.code _)], Y, rfl, fun h H => (hps h H).snoc (p := some (.code _)) ⟨_, rfl⟩, lsn _, lvn _, snocG _ fun x h => by cases h⟩, Sc⟩
      · refine go_false (by simpa using c2) ?_
        wtm_at "r8"
        by_cases c3 : v5 < 9
        · refine go_true (by simpa using c3) ?_
          wtm_at "r8"
          by_cases c4 : 4 < v5
          · refine go_true (by simpa using c4) ?_
            wtm_at "r8"
            refine glyphs_spec rm' (dle (by assumption) (by rfl)) (W.keeps (St.keep (by assumption))) fun s' q qs N hq => ?_
            have S7 := St.newL (by assumption) N
            clear N
            show wpAny _ _ (eval _ _) _ _ _
            wtm_at "r8"
            rename_i s8 v8 t8 S8 x0 x1 _ _ S9
            have hgl : glyphWords[(1 + v8).toNat]? = some (glyphWords.getD (1 + v8).toNat Str.empty) := by
              have : (1 + v8).toNat < glyphWords.length := by show _ < 7; omega
              rw [List.getD_eq_getElem?_getD, List.getElem?_eq_getElem this]; rfl
            obtain ⟨tg, hg7⟩ := hq.get hgl
            refine l_item (St.isList (by assumption) (by with_reducible wtm_at "mem")) (by omega) (by omega) hg7 ?_ (by wtm_at "rf")
            wtm_at "r8"
            refine ⟨W.keeps (St.keep (by assumption)), name_new rm' (dle (by assumption) (by rfl)) (W.keeps (St.keep (by assumption))) fun s10 x10 dx10 N => ?_⟩
            have S10 := St.newI (by assumption) N
            show wpAny _ _ (spliced _) _ _ _
            wtm_at "r8"
            have Sa := St.unname (a := L) (by assumption) (by with_reducible wtm_at "upd")
            have Sb := St.unname (a := L) Sa (by with_reducible wtm_at "upd")
            have Sc := Sb.pot (P := P) (m + 1 + 2 * (i + 1)) (by with_reducible wtm_at "upd") (by omega)
            have Sd := Sc.subl (.cons₂ _ (.cons₂ _ (.cons _ (.refl _))))
            have Se := Sd.perm (List.perm_append_comm_assoc [(I, _), (p, _), (L, _), (P, _), (C, _)] [(x10, _), (dx10, _)] Y)
            wtm_at "kk"; exact ⟨_, ⟨_, ps ++ [some (.name (_))], _, rfl, fun h H => (hps h (H.mono fun q hq => List.mem_append_right _ hq)).snoc (p := some (.name _)) ⟨_, _, rfl, H.inst (by wtm_at "mem") (by wtm_at "mem")⟩, lsn _, lvn _, snocG _ fun x h => by cases h; exact .inl (List.mem_of_getElem? hgl)⟩, Se⟩
          · refine go_false (by simpa using c4) ?_
            wtm_at "r8"
            refine ⟨W.keeps (St.keep (by assumption)), name_new rm' (dle (by assumption) (by rfl)) (W.keeps (St.keep (by assumption))) fun s10 x10 dx10 N => ?_⟩
            have S10 := St.newI (by assumption) N
            show wpAny _ _ (spliced _) _ _ _
            wtm_at "r8"
            have Sa := St.unname (a := L) (by assumption) (by with_reducible wtm_at "upd")
            have Sb := St.unname (a := L) Sa (by with_reducible wtm_at "upd")
            have Sc := Sb.pot (P := P) (m + 1 + 2 * (i + 1)) (by with_reducible wtm_at "upd") (by omega)
            have Sd := Sc
            have Se := Sd.perm (List.perm_append_comm_assoc [(I, _), (p, _), (L, _), (P, _), (C, _)] [(x10, _), (dx10, _)] Y)
            wtm_at "kk"; exact ⟨_, ⟨_, ps ++ [some (.name (_))], _, rfl, fun h H => (hps h (H.mono fun q hq => List.mem_append_right _ hq)).snoc (p := some (.name _)) ⟨_, _, rfl, H.inst (by wtm_at "mem") (by wtm_at "mem")⟩, lsn _, lvn _, snocG _ fun x h => by cases h; exact .inr rfl⟩, Se⟩
        · refine go_false (by simpa using c3) ?_
          wtm_at "r8"
          refine e_list (k := s) (g := g) ?_
          wtm_at "r8"
          refine e_neg (k := s) (g := g) ?_
          wtm_at "r8"
          wtm_at "kk"; refine ⟨_, _, rfl, _, by assumption, fun _ _ _ => ?_⟩
          wtm_at "r8"
          refine k_cls (by kernel_rfl) ?_ (by wtm_at "rf") (by wtm_at "rf")
          wtm_at "r8"
          refine ⟨W.keeps (St.keep (by assumption)), string_new rm' (dle (by assumption) (by rfl)) (W.keeps (St.keep (by assumption))) fun s10 xs dxs N => ?_⟩
          have S10 := St.newI (by assumption) N
          clear N
          show wpAny _ _ (spliced _) _ _ _
          wtm_at "r8"
          refine e_list (k := s) (g := g) ?_
          wtm_at "r8"
          wtm_at "kk"; refine ⟨_, by assumption, Nat.le_of_ble_eq_true (by rfl), fun l1 s11 S11 => ?_⟩
          wtm_at "r8"
          wtm_at "kk"; refine ⟨_, by assumption, Nat.le_of_ble_eq_true (by rfl), fun q s12 S12 => ?_⟩
          clear S10 S11 S6 S5
          wtm_at "r8"
          rename_i s8 v8 t8 S8 x0 x1
          clear S12
          have hv8 := int6 x0 x1
          rcases hv8 with rfl | rfl | rfl | rfl | rfl | rfl
          · refine l_item (St.isList (by assumption) (by with_reducible wtm_at "mem")) (by decide) (by decide) rfl ?_ (by wtm_at "rf")
            wtm_at "r8"
            have Sa := St.unname (a := L) (by assumption) (by with_reducible wtm_at "upd")
            have Sb := St.unname (a := L) Sa (by with_reducible wtm_at "upd")
            have Sc := Sb.pot (P := P) (m + 1 + 2 * (i + 1)) (by with_reducible wtm_at "upd") (by omega)
            have Se := Sc.perm (List.perm_append_comm_assoc [(I, _), (p, _), (L, _), (P, _), (C, _)] [(q, _), (l1, _), (xs, _), (dxs, _)] Y)
            wtm_at "kk"; exact ⟨_, ⟨_, ps ++ [none], _, rfl, fun h H => (hps h (H.mono fun q hq => List.mem_append_right _ hq)).snoc (p := none) ⟨.none, rfl, rfl, by decide, by decide, by decide⟩, lsn _, lvn _, snocG _ fun x h => by cases h⟩, Se⟩
          · refine l_item (St.isList (by assumption) (by with_reducible wtm_at "mem")) (by decide) (by decide) rfl ?_ (by wtm_at "rf")
            wtm_at "r8"
            have Sa := St.unname (a := L) (by assumption) (by with_reducible wtm_at "upd")
            have Sb := St.unname (a := L) Sa (by with_reducible wtm_at "upd")
            have Sc := Sb.pot (P := P) (m + 1 + 2 * (i + 1)) (by with_reducible wtm_at "upd") (by omega)
            have Se := Sc.perm (List.perm_append_comm_assoc [(I, _), (p, _), (L, _), (P, _), (C, _)] [(q, _), (l1, _), (xs, _), (dxs, _)] Y)
            wtm_at "kk"; exact ⟨_, ⟨_, ps ++ [none], _, rfl, fun h H => (hps h (H.mono fun q hq => List.mem_append_right _ hq)).snoc (p := none) ⟨.bool, ⟨_, rfl⟩, rfl, by decide, by decide, by decide⟩, lsn _, lvn _, snocG _ fun x h => by cases h⟩, Se⟩
          · refine l_item (St.isList (by assumption) (by with_reducible wtm_at "mem")) (by decide) (by decide) rfl ?_ (by wtm_at "rf")
            wtm_at "r8"
            have Sa := St.unname (a := L) (by assumption) (by with_reducible wtm_at "upd")
            have Sb := St.unname (a := L) Sa (by with_reducible wtm_at "upd")
            have Sc := Sb.pot (P := P) (m + 1 + 2 * (i + 1)) (by with_reducible wtm_at "upd") (by omega)
            have Se := Sc.perm (List.perm_append_comm_assoc [(I, _), (p, _), (L, _), (P, _), (C, _)] [(q, _), (l1, _), (xs, _), (dxs, _)] Y)
            wtm_at "kk"; exact ⟨_, ⟨_, ps ++ [some (.code _)], _, rfl, fun h H => (hps h (H.mono fun q hq => List.mem_append_right _ hq)).snoc (p := some (.code _)) ⟨_, rfl⟩, lsn _, lvn _, snocG _ fun x h => by cases h⟩, Se⟩
          · refine l_item (St.isList (by assumption) (by with_reducible wtm_at "mem")) (by decide) (by decide) rfl ?_ (by wtm_at "rf")
            wtm_at "r8"
            have Sa := St.unname (a := L) (by assumption) (by with_reducible wtm_at "upd")
            have Sb := St.unname (a := L) Sa (by with_reducible wtm_at "upd")
            have Sc := Sb.pot (P := P) (m + 1 + 2 * (i + 1)) (by with_reducible wtm_at "upd") (by omega)
            have Se := Sc.perm (List.perm_append_comm_assoc [(I, _), (p, _), (L, _), (P, _), (C, _)] [(q, _), (l1, _), (xs, _), (dxs, _)] Y)
            wtm_at "kk"; exact ⟨_, ⟨_, ps ++ [none], _, rfl, fun h H => (hps h (H.mono fun q hq => List.mem_append_right _ hq)).snoc (p := none) ⟨.inst 219, ⟨_, _, rfl, H.inst (by wtm_at "mem") (by wtm_at "mem")⟩, by decide, by decide, by decide, by decide⟩, lsn _, lvn _, snocG _ fun x h => by cases h⟩, Se⟩
          · refine l_item (St.isList (by assumption) (by with_reducible wtm_at "mem")) (by decide) (by decide) rfl ?_ (by wtm_at "rf")
            wtm_at "r8"
            have Sa := St.unname (a := L) (by assumption) (by with_reducible wtm_at "upd")
            have Sb := St.unname (a := L) Sa (by with_reducible wtm_at "upd")
            have Sc := Sb.pot (P := P) (m + 1 + 2 * (i + 1)) (by with_reducible wtm_at "upd") (by omega)
            have Se := Sc.perm (List.perm_append_comm_assoc [(I, _), (p, _), (L, _), (P, _), (C, _)] [(q, _), (l1, _), (xs, _), (dxs, _)] Y)
            wtm_at "kk"; exact ⟨_, ⟨_, ps ++ [none], _, rfl, fun h H => (hps h (H.mono fun q hq => List.mem_append_right _ hq)).snoc (p := none) ⟨.list, by obtain ⟨o, h1, c, h2⟩ := H (l1, _) (by wtm_at "mem"); exact ⟨l1, o, rfl, h1, by rw [h2]⟩, rfl, by decide, by decide, by decide⟩, lsn _, lvn _, snocG _ fun x h => by cases h⟩, Se⟩
          · refine l_item (St.isList (by assumption) (by with_reducible wtm_at "mem")) (by decide) (by decide) rfl ?_ (by wtm_at "rf")
            wtm_at "r8"
            have Sa := St.unname (a := L) (by assumption) (by with_reducible wtm_at "upd")
            have Sb := St.unname (a := L) Sa (by with_reducible wtm_at "upd")
            have Sc := Sb.pot (P := P) (m + 1 + 2 * (i + 1)) (by with_reducible wtm_at "upd") (by omega)
            have Se := Sc.perm (List.perm_append_comm_assoc [(I, _), (p, _), (L, _), (P, _), (C, _)] [(q, _), (l1, _), (xs, _), (dxs, _)] Y)
            wtm_at "kk"; exact ⟨_, ⟨_, ps ++ [some (.code _)], _, rfl, fun h H => (hps h (H.mono fun q hq => List.mem_append_right _ hq)).snoc (p := some (.code _)) ⟨_, rfl⟩, lsn _, lvn _, snocG _ fun x h => by cases h⟩, Se⟩
  · rintro n₁ s₆ ⟨vs, ps, Y, rfl, hps, hpl, hvl, hgo⟩ S6
    show wpAny _ _ (execs _ _) _ _ _
    wtm_at "r8"
    have S7 := S6.pot (P := P) (m + 15) (by with_reducible wtm_at "upd") (by omega)
    have S8 := S7.subl (.cons₂ _ (.cons _ (.refl _)))
    have S9 := S8.perm (n' := ((p, .lst vs) :: Y) ++ potX P C (m + 15)) (List.Perm.cons _ (List.perm_append_comm (l₁ := Y) (l₂ := potX P C (m + 15))))
    rw [hg] at S9
    wtm_at "kk"; exact hR _ _ _ _ _ S9 hps (by omega) hgo
end
section
variable {w : World} {A : Around} {d : Nat} {s : Shared} {R : Result → Shared → Prop}
theorem plain_spec {a pl : Addr} {vs ws : List Value} {xs : List Str} {ps : List (Option Part)} (rm : Room A d) (hd : d ≤ 40) (W : Wld w s.heap)
    (ha : s.heap.IsList a vs.toArray) (hx : Strs vs xs) (hxl : xs.length = 256) (hp : s.heap.IsList pl ws.toArray) (hps : All3 (pvH s.heap) ws ps) (hpl : ps.length ≤ 100)
    (hN : ∀ s', plainL xs ps = none → Eff [] s s' → R (.ok (.ret .none)) s') (hR : ∀ s' p vs' ys, plainL xs ps = some ys → NewL s s' p vs' → Strs vs' ys → R (.ok (.ret (.ref p))) s') :
    codeAny (Mo w) A (.call (.ref 435) ⟨[.ref a, .ref pl], []⟩) R s := by
  refine fn_enterC0 (binds := [(Str.ofString "names", .ref a), (Str.ofString "parts", .ref pl)]) (lb := [(Str.ofString "parts", .ref pl)]) [] (fun L => [(Str.ofString "told_at", L + 2), (Str.ofString "names", L + 1)]) (fun L => [(L + 2, .cell none), (L + 1, .cell (some (.ref a)))]) W rm (by rfl) (by decide +kernel) (by kernel_rfl) (by kernel_rfl) (by simp) (fun L x hx => by simp only [List.mem_cons, List.not_mem_nil, or_false] at hx; rcases hx with rfl | rfl; exact .inr ⟨by kernel_rfl, by rfl⟩; exact .inl (by kernel_rfl)) (fun L => by kernel_rfl) (fun L => by kernel_rfl) (fun L => by simp; decide) (fun _ hp => nomatch hp) .nil W (fun g L s₁ env A' E' hg W S fe rm' KK hKK => ?_) (dle0 (by assumption) (by rfl))
  replace S : St s g [(L + 2, .cell none), (L + 1, .cell (some (.ref a))), (L, .ns [(Str.ofString "parts", .ref pl)])] s₁ := S
  replace fe : Fe env _ L [(Str.ofString "told_at", L + 2), (Str.ofString "names", L + 1)] := fe
  replace hg : g = s.heap := hg
  rw [← hg] at ha hp hps
  have lx := hx.length
  have lw := hps.length
  have gx : ∀ {i : Nat}, i < 256 → ∃ t, vs[i]? = some (.str (xs.getD i Str.empty) t) := fun {i} h => hx.get (by rw [List.getD_eq_getElem?_getD, List.getElem?_eq_getElem (by omega)]; rfl)
  have fin : ∀ {n' : Led} {s' : Shared}, St s g n' s' → Eff [] s s' := fun S => St.toEff (X := []) (by rw [hg] at S; exact S) (fun _ hp => nomatch hp)
  wtm_at "r7"
  refine e_dict0 W (by assumption) (PySem.intKind prg w) fun T s₂ lo S2 => ?_
  show wpAny _ _ (storeName _ _ _) _ _ _
  refine s_cell (by assumption) (by assumption) (by kernel_rfl) (by wtm_at "rf") (by with_reducible wtm_at "upd") fun s₃ S3 => ?_
  clear S S2
  wtm_at "r7"
  refine p_list (by assumption) hp fun I s₄ S4 => ?_
  clear S3
  refine loop_it (It.list (A := A') rm'.handled hp I) S4 (fun i n => ∃ f sp kvs ts, plTo ps i = some (f, sp) ∧ TabH kvs f ∧ kvs.length ≤ i ∧ 0 ≤ sp ∧ n = [(T, dcD (PySem.intKind prg w) kvs), (L + 2, .cell (some (.ref T))), (L + 1, .cell (some (.ref a))), (L, .ns [(Str.ofString "spot", .int sp ts), (Str.ofString "parts", .ref pl)])]) ⟨_, _, [], _, rfl, fun _ => rfl, Nat.le_refl _, by decide, rfl⟩ ?_ ?_
  · rintro i v n₁ s₆ E₂ hi hv ⟨f, sp, kvs, ts, est, hf, hk, sp0, rfl⟩ S₆
    intro KK hKK
    obtain ⟨p, hpi, hpv⟩ := hps.get hv
    have es := plTo_succ hpi est
    have ilt : i < ps.length := by omega
    clear S4
    cases p with
    | none =>
      obtain ⟨ty, h1, h2, h3, h4, h5⟩ := hpv
      have en : plainL xs ps = none := plainL_none es
      wtm_at "r7"
      refine go_false (by simp [h5]) ?_
      wtm_at "r7"
      by_cases hb : ty = .bool
      · subst hb
        refine go_true (by rfl) ?_
        wtm_at "r7"
        refine go_false (by rfl) ?_
        wtm_at "r7"
        wtm_at "kk"; exact hN _ en (fin (by assumption))
      · refine go_false (by simp [bltTy, hb, h4]) ?_
        wtm_at "r7"
        wtm_at "kk"; exact hN _ en (fin (by assumption))
    | some p =>
      cases p with
      | code j =>
        obtain ⟨tj, rfl⟩ := hpv
        have hT : HasTy g (.int j tj) .int := ⟨_, _, rfl⟩
        wtm_at "r7"
        refine go_true (by rfl) ?_
        wtm_at "r7"
        refine go_true (by rfl) ?_
        wtm_at "r7"
        by_cases j0 : 0 ≤ j
        · refine go_true (by simpa using j0) ?_
          wtm_at "r7"
          by_cases j1 : j < 256
          · have es' := es.trans (if_pos ⟨j0, j1⟩)
            refine go_true (by simpa using j1) ?_
            wtm_at "r7"
            have S9 := St.unname (a := L) (by assumption) (by with_reducible wtm_at "upd")
            wtm_at "kk"; exact ⟨_, ⟨_, _, _, _, es', hf, by omega, j0, rfl⟩, S9⟩
          · have en : plainL xs ps = none := plainL_none (es.trans (if_neg fun h => j1 h.2))
            refine go_false (by simpa using j1) ?_
            wtm_at "r7"
            wtm_at "kk"; exact hN _ en (fin (by assumption))
        · have en : plainL xs ps = none := plainL_none (es.trans (if_neg fun h => j0 h.1))
          refine go_false (by simpa using j0) ?_
          refine go_false (by rfl) ?_
          wtm_at "r7"
          wtm_at "kk"; exact hN _ en (fin (by assumption))
      | name y =>
        obtain ⟨b, ty, rfl, hI⟩ := hpv
        have hT : HasTy g (.ref b) (.inst 197) := ⟨_, _, rfl, hI⟩
        wtm_at "r7"
        by_cases c1 : 255 < sp
        · have en : plainL xs ps = none := plainL_none (es.trans (if_pos c1))
          refine go_true (by simpa using c1) ?_
          wtm_at "r7"
          wtm_at "kk"; exact hN _ en (fin (by assumption))
        · have es' := es.trans (if_neg c1)
          refine go_false (by simpa using c1) ?_
          wtm_at "r7"
          refine i_get (W.keeps (St.keep (by assumption))) (by assumption) (hI.keeps (St.keep (by assumption))) rfl (by kernel_rfl) (by kernel_rfl) (attr := none) (by kernel_rfl) rfl rfl fun _ _ => ?_
          wtm_at "r7"
          refine d_set (knd := PySem.intKind prg w) (by assumption) (by with_reducible wtm_at "upd") (intKind_is _ _ _ _) (by wtm_at "sz") fun s9 S9 => ?_
          wtm_at "r7"
          have S10 := St.unname (a := L) (by assumption) (by with_reducible wtm_at "upd")
          wtm_at "kk"; exact ⟨_, ⟨_, _, _, _, es', hf.set _ _ _, Nat.le_trans (stored_len _ _ _) (Nat.succ_le_succ hk), by omega, rfl⟩, S10⟩
  · rintro n₁ s₆ ⟨f, sp, kvs, ts, est, hf, hk, sp0, rfl⟩ S₆
    rw [lw] at est
    have en := plainL_all (xs := xs) est
    show wpAny _ _ (execs _ _) _ _ _
    refine x_step (wpAny_mono (x_comp (k := s) (E := E') (Q := fun f' s' => f' = .next ∧ ∃ b zs n, n = [(b, .lst zs), (T, dcD (PySem.intKind prg w) kvs), (L + 2, .cell (some (.ref T))), (L + 1, .cell (some (.ref a))), (L, .ns [(Str.ofString "answer", .ref b), (Str.ofString "spot", .int sp ts), (Str.ofString "parts", .ref pl)])] ∧ Strs zs ((List.range 256).map (plainAt xs f)) ∧ St s g n s') fe (swaps_comp fe (by kernel_rfl)) (cl' := [(Str.ofString "told_at", L + 2), (Str.ofString "names", L + 1)]) (closure_of fe (by intro env h; cases env; cases h; rfl)) (by decide +kernel) (by decide +kernel) (by decide +kernel) (by decide +kernel) ?_ (fun _ => by wtm_at "rf")) (fun f' s' ⟨e, b, zs, n, en', hz, S''⟩ => ⟨e, ?_⟩) (fun _ _ x => x))
    · wtm_at "r7"
      refine r_range (N := 256) (by assumption) fun r t1 t2 t3 s₃ S₃ => ?_
      refine p_range S₃ (by decide) fun I s₂ S₂ => ?_
      clear S₃ S₆ S4
      refine ⟨g, I, 256, _, _, _, fun i zs n => n = [(T, dcD (PySem.intKind prg w) kvs), (L + 2, .cell (some (.ref T))), (L + 1, .cell (some (.ref a))), (L, .ns [(Str.ofString "spot", .int sp ts), (Str.ofString "parts", .ref pl)])] ∧ Strs zs ((List.range i).map (plainAt xs f)), rfl, It.range rm'.handled I, by wtm_at "sz", S₂, ⟨rfl, .nil⟩, fun i zs n h => by rw [h.2.length]; simp, fun s Q E h hQ => self_range s Q E h hQ, ?_, ?_⟩
      · rintro C acc cenv i v zs n₁ s₁ E₂ hi ⟨ti, rfl⟩ ⟨rfl, hy⟩ fe' S₁
        intro KK hKK
        clear fe
        obtain ⟨tx, hxi⟩ := gx hi
        have hfi := hf (i : Int)
        rw [Int.zero_add] at S₁ hKK
        wtm_at "r7"
        refine d_meth (St.dic (knd := PySem.intKind prg w) (by assumption) lo (by with_reducible wtm_at "mem")) ?_
        wtm_at "r7"
        refine l_item (ha.at fun o e => St.keep (by assumption) _ o e) (by omega) (by omega) (by rw [Int.toNat_natCast]; exact hxi) ?_ (by wtm_at "rf")
        wtm_at "r7"
        have pv : ∃ t, (valueAt kvs (i : Int)).getD (.str (xs.getD i Str.empty) tx) = .str (plainAt xs f i) t := by
          unfold plainAt
          cases q : f (i : Int) with
          | none => rw [q] at hfi; exact ⟨tx, by rw [hfi]; rfl⟩
          | some x => rw [q] at hfi; obtain ⟨t, e⟩ := hfi; exact ⟨t, by rw [e]; rfl⟩
        obtain ⟨tp, pv⟩ := pv
        refine d_get2 (knd := PySem.intKind prg w) (a := T) (by assumption) (St.dic (knd := PySem.intKind prg w) (by assumption) lo (by with_reducible wtm_at "mem")) (intKind_is _ _ _ _) _ rfl fun s₇ S₇ => ?_
        rw [pv]
        wtm_at "kk"; refine ⟨_, ⟨rfl, ?_⟩, S₇⟩
        rw [List.range_succ, List.map_append]
        exact hy.append (.cons .nil)
      · rintro C acc zs n₁ s₁ ⟨rfl, hy⟩ S₁
        wtm_at "r7"
        wtm_at "kk"; exact ⟨_, by assumption, fun s₃ S₃ => ⟨rfl, _, _, _, rfl, hy, S₃⟩⟩
    · subst en'
      clear S₆ S4
      wtm_at "r7"
      refine e_comp (k := s) fe (cl' := []) (by rfl) (by decide +kernel) (by decide +kernel) (by decide +kernel) (by decide +kernel) ?_ (fun _ => by wtm_at "rf")
      wtm_at "r7"
      obtain ⟨g', hgg, hl, S4⟩ := St.freeze S''
      have W₂ : Wld w g' := W.keeps hgg
      refine p_list S4 hl fun I s13 S16 => ?_
      have hzl : zs.length = 256 := by rw [hz.length]; simp
      generalize (List.range 256).map (plainAt xs f) = ans at *
      have lz := hz.length
      refine ⟨g', I, zs.length, _, _, _, fun i ys n => (∃ n0, n = n0 ∧ n0 = _) ∧ i ≤ zs.length ∧ Strs ys ((ans.take i).map glyphOf), rfl, It.list rm'.handled hl I, ?_, S16, ⟨⟨_, rfl, rfl⟩, Nat.zero_le _, .nil⟩, fun i ys n h => ?_, fun s Q E h hQ => self_list (l := b) s Q E h hQ, ?_, ?_⟩
      · rw [hzl]; wtm_at "sz"
      · rw [h.2.2.length, List.length_map, List.length_take]; omega
      · rintro C acc cenv i v ys n₁ s₁ E₂ hi hv ⟨⟨_, rfl, rfl⟩, hil, hy⟩ fe' S₁
        intro KK hKK
        obtain ⟨y, ty, hx', rfl⟩ := hz.back hv
        clear fe
        wtm_at "r7"
        by_cases q : y = Str.ofString ".notdef"
        · refine go_true (by simpa using q) ?_
          wtm_at "r7"
          wtm_at "kk"; refine ⟨_, ⟨⟨_, rfl, rfl⟩, hi, ?_⟩, by assumption⟩
          have := hy.map_snoc (f := glyphOf) (t := ‹Tok›) hx'
          rw [show glyphOf y = Str.ofString "" from if_pos q] at this
          exact this
        · refine go_false (by simpa using q) ?_
          wtm_at "r7"
          wtm_at "kk"; refine ⟨_, ⟨⟨_, rfl, rfl⟩, hi, ?_⟩, by assumption⟩
          have := hy.map_snoc (f := glyphOf) (t := ty) hx'
          rw [show glyphOf y = y from if_neg q] at this
          exact this
      · rintro acc ys n₁ s₁ ⟨⟨_, rfl, rfl⟩, _, hy⟩ S₁
        rw [List.take_of_length_le (by omega)] at hy
        have S17 := S₁.shrink hgg
        wtm_at "r7"
        wtm_at "kk"; exact hR _ _ _ _ en (NewL.of S17 hg (by with_reducible wtm_at "mem")) hy
end
section
variable {w : World} {A : Around} {d : Nat} {s k : Shared} {g : Heap} {n : Led} {R : Result → Shared → Prop}
theorem refused_spec (B : BaseOk) {x T T2 : Addr} {kvs : List (Int × Value)} {u : Value} {ev : EncV} (fs : List Addr) (fr : FrA A fs) (fnd : fs.Nodup) (there : ∀ a ∈ fs, ∃ o, s.heap.get? a = some o) (rm : Room A d) (hd : d ≤ 30) (W : Wld w s.heap) (hW : Wld w (hideAll s.heap fs))
    (hI : InstH (hideAll s.heap fs) x 311 [(Str.ofString "table", .ref T), (Str.ofString "trailer", .ref T2)]) (hT : DicH (PySem.intKind prg w) (hideAll s.heap fs) T kvs)
    (hu : NotRef (hideAll s.heap fs) u) (he : EncH w (hideAll s.heap fs) kvs u ev) (hev : encOf ev = none)
    (hR : ∀ s', Eff (frL s.heap fs) s s' → R (.ok (.ret (.bool true))) s') :
    codeAny (Mo w) A (.call (.ref 449) ⟨[.ref x, u], []⟩) R s := by
  refine fn_enter (frL s.heap fs) W rm (by rfl) (by decide +kernel) (BindsTo.of_eq (binds := [(Str.ofString "shelf", .ref x), (Str.ofString "found", u)]) (by kernel_rfl)) (by kernel_rfl) (fun p hp => by
    obtain ⟨b, hb, rfl⟩ := List.mem_map.mp hp
    obtain ⟨o, ho⟩ := there b hb
    exact ⟨o, ho, o, ho, rfl⟩) (by rw [frL_keys]; exact fnd) (by rw [frL_keys]; exact hW) (fun g L s₁ env A' hg W' S fe rm' hee KK hKK => ?_) (by omega)
  rw [frL_keys] at hg
  have fin : ∀ {n' : Led} {s' : Shared}, St s g n' s' → (∀ p ∈ frL s.heap fs, p ∈ n') → Eff (frL s.heap fs) s s' := fun S h => St.toEff (X := frL s.heap fs) (by rw [frL_keys, ← hg]; exact S) h
  have frA : FrA A' (L :: fs) := by rw [hee.2]; exact fr.deeper fe.kind (by rw [hee.1])
  have stk : Stk A' env ((L, .ns [(Str.ofString "shelf", .ref x), (Str.ofString "found", u)]) :: frL s.heap fs) := by
    have k1 := fe.kind
    have k2 : env.frame = some L := by rw [hee.1]
    rw [hee.2]
    exact Stk.of fr k1 k2 (.head _) (slotFree_ns _) fun a ha => ⟨_, .tail _ (List.mem_map_of_mem (f := fun a => (a, frD s.heap a)) ha), slotFree_frD _ _⟩
  clear hee hW
  rw [← hg] at hI hT hu he
  generalize (fun (e : Value) (s' : Shared) => wpAny (Mo w) A' (leaving env e) (fun _ s'' => R (.error e) s'') (fun e' s'' => R (.error e') s'') s') = E'
  have nd : (L :: fs).Nodup := by
    have := S.nd
    simpa only [List.map_cons, frL_keys] using this
  refine x_cons (try_st (k := s) (g := g) stk W' fe (by kernel_rfl) ?_ ?_)
  · wtm_at "r7"
    refine e_dict W' (by assumption) (PySem.strKind prg w) (by rfl) (by rfl) (by decide) (by decide) fun D s₂ lo S2 => ?_
    clear S
    refine p_cons ?_
    wtm_at "r7"
    refine p_nil ?_
    wtm_at "kk"; refine ⟨_, _, [(Str.ofString "Encoding", u)], by assumption, by with_reducible wtm_at "upd", ⟨strKind_is _ _ _ _, rfl, trivial⟩, fun s₃ S3 => ?_⟩
    replace S3 : St s g ([(D, dcD (PySem.strKind prg w) [(Str.ofString "Encoding", u)])] ++ ((L, .ns [(Str.ofString "shelf", .ref x), (Str.ofString "found", u)]) :: frL s.heap fs)) s₃ := S3
    clear S2
    wtm_at "r7"
    obtain ⟨g', hgg, S4, H⟩ := S3.freezeAll
    have hide := S4.hideF (encOf ev).isSome Hold.base
    have k2 : ∀ b o, g.get? b = some o → (hideAll s₃.heap (fsOf (encOf ev).isSome L fs)).get? b = some o := fun b o e => hide _ _ (hgg _ _ e)
    refine ⟨W'.keeps S3.keep, enc_spec B (fsOf (encOf ev).isSome L fs) (Mode.call _ S4 Hold.base nd fun _ => frA) rm' (dle (by assumption) (by rfl)) (W'.keeps S3.keep) (W'.keeps k2) (hI.keeps k2) (hT.keeps k2) ((H.dic lo (.head _)).keeps hide) (u := u) (ev := ev) ⟨hu.keeps k2, .inl ?_⟩ (he.keeps k2) (fun ys s' p ps e => ?_) fun _ e s' r => ?_⟩
    · simp [valueAt]
    · rw [hev] at e; cases e
    · rw [hev] at r
      obtain ⟨a, t, rfl, S5⟩ := S4.raised r Hold.base.all
      exact .inr ⟨a, t, rfl, S5.shrink hgg⟩
  · rintro e s₂ E₂ ⟨a, t, rfl, S2⟩
    wtm_at "r7"
    wtm_at "kk"; exact hR _ (fin S2 fun p hp => .tail _ (.tail _ (.tail _ hp)))
end
section
variable {w : World} {A : Around} {d : Nat} {s : Shared} {R : Result → Shared → Prop}
theorem bare_spec (B : BaseOk) (hok : ∀ j < 3, okL (baseAt j)) {P C x T T2 bl : Addr} {m : Nat} {tk : List (Int × Value)} (rm : Room A d) (hd : d ≤ 30) (hm : m ≤ 900) (W : Wld w s.heap) (hX : ∀ p ∈ potX P C m, ∃ o, s.heap.get? p.1 = some o ∧ p.2.is o) (hn : P ≠ C)
    (hW : Wld w (hideAll s.heap [P, C])) (hI : InstH (hideAll s.heap [P, C]) x 311 [(Str.ofString "table", .ref T), (Str.ofString "trailer", .ref T2)]) (hT : DicH (PySem.intKind prg w) (hideAll s.heap [P, C]) T tk) (hb : BasesH (hideAll s.heap [P, C]) bl)
    (hR : ∀ s', St s (hideAll s.heap [P, C]) (potX P C (m + 2)) s' → R (.ok (.ret (.bool true))) s') :
    codeAny (Mo w) A (.call (.ref 442) ⟨[.ref P, .ref x, .ref bl], []⟩) R s := by
  refine fn_enter0 (potX P C m) W rm (by rfl) (by decide +kernel) (BindsTo.of_eq (binds := [(Str.ofString "pot", .ref P), (Str.ofString "shelf", .ref x), (Str.ofString "bases", .ref bl)]) (by kernel_rfl)) (by kernel_rfl) hX (by simpa [potX] using hn) hW (fun g L s₁ env A' E' hg W S fe rm' KK hKK => ?_) (dle0 (by assumption) (by rfl))
  clear hW hX
  replace hg : g = hideAll s.heap [P, C] := hg
  rw [← hg] at hI hT hb
  wtm_at "r8"
  rename_i _ sp t1 _ sp0 sp1 _ _ _ _ _ _ wy t2 _ wy0 wy1 s5 S5
  refine e_dict W (by assumption) (PySem.strKind prg w) (by rfl) (by rfl) (by decide) (by decide) fun D s6 lo S6 => ?_
  refine p_cons ?_
  wtm_at "r8"
  refine ⟨W.keeps (St.keep (by assumption)), name_new rm' (dle (by assumption) (by rfl)) (W.keeps (St.keep (by assumption))) fun s10 x10 dx10 N => ?_⟩
  have S10 := St.newI (by assumption) N
  clear N
  show wpAny _ _ (evalPairs _) _ _ _
  refine p_nil ?_
  wtm_at "kk"; refine ⟨_, _, [(Str.ofString "Type", .ref x10)], by assumption, by with_reducible wtm_at "upd", ⟨strKind_is _ _ _ _, rfl, trivial⟩, fun s7 S7 => ?_⟩
  have S8 : St s g ((D, dcD (PySem.strKind prg w) [(Str.ofString "Type", .ref x10)]) :: _) s7 := S7.subl (.cons _ (.cons _ (.refl _)))
  clear S7 S6 S5 S10 S
  wtm_at "q7"
  clear S8
  refine x_step (wpAny_mono (Q := fun f s' => f = .next ∧ ∃ kvs Y b, St s g ((D, dcD (PySem.strKind prg w) kvs) :: (L, .ns [(Str.ofString "found", .ref D), (Str.ofString "way", .int wy t2), (Str.ofString "spot", .int sp t1), (Str.ofString "pot", .ref P), (Str.ofString "shelf", .ref x), (Str.ofString "bases", .ref bl)]) :: (P, .prop (potD C (m + 1 + 1))) :: (C, .prop cellsD) :: Y) s' ∧ (∀ h, Holds Y h → ∃ ub, ResH h tk ((valueAt kvs (Str.ofString "BaseEncoding")).getD .none) ub ∧ BaseH h ub b) ∧ valueAt kvs (Str.ofString "Differences") = none ∧ b.word = encW (if wy = 1 then sp.toNat else 0)) (x_if ?_) (fun f s' ⟨e, kvs, Y, b, S9, hY, hD, hw⟩ => ⟨e, ?_⟩) (fun _ _ x => x))
  · wtm_at "r8"
    by_cases w0 : 0 < wy
    · refine go_true (by simpa using w0) ?_
      wtm_at "r8"
      refine e_list (k := s) (g := g) ?_
      wtm_at "r8"
      refine encodings_spec rm' (dle (by assumption) (by rfl)) (W.keeps (St.keep (by assumption))) fun s' q qs N hq => ?_
      have S7 := St.newL (by assumption) N
      clear N
      show wpAny _ _ (eval _ _) _ _ _
      wtm_at "r8"
      have hgl : encWords[sp.toNat]? = some (encW sp.toNat) := by
        have : sp.toNat < encWords.length := by show _ < 3; omega
        unfold encW
        rw [List.getD_eq_getElem?_getD, List.getElem?_eq_getElem this]; rfl
      obtain ⟨tg, hg7⟩ := hq.get hgl
      refine l_item (St.isList (by assumption) (by with_reducible wtm_at "mem")) (by omega) (by omega) hg7 ?_ (by wtm_at "rf")
      wtm_at "r8"
      refine ⟨W.keeps (St.keep (by assumption)), name_new rm' (dle (by assumption) (by rfl)) (W.keeps (St.keep (by assumption))) fun s10 x11 dx11 N => ?_⟩
      have S11 := St.newI (by assumption) N
      clear N
      show wpAny _ _ (spliced _) _ _ _
      wtm_at "r8"
      refine k_cls (by kernel_rfl) ?_ (by wtm_at "rf") (by wtm_at "rf")
      wtm_at "r8"
      refine ⟨W.keeps (St.keep (by assumption)), string_new rm' (dle (by assumption) (by rfl)) (W.keeps (St.keep (by assumption))) fun s10 xs dxs N => ?_⟩
      have S12 := St.newI (by assumption) N
      clear N
      show wpAny _ _ (spliced _) _ _ _
      wtm_at "r8"
      wtm_at "kk"; refine ⟨_, by assumption, Nat.le_of_ble_eq_true (by rfl), fun lq s12 S13 => ?_⟩
      clear S7 S11 S12
      wtm_at "r8"
      have hw3 : wy = 1 ∨ wy = 2 ∨ wy = 3 := by omega
      rcases hw3 with rfl | rfl | rfl
      · refine l_item (St.isList (by assumption) (by with_reducible wtm_at "mem")) (by decide) (by decide) rfl ?_ (by wtm_at "rf")
        wtm_at "r8"
        refine d_set (knd := PySem.strKind prg w) (by assumption) (by with_reducible wtm_at "upd") (strKind_is _ _ _ _) (Nat.le_of_ble_eq_true (by rfl)) fun s9 S9 => ?_
        rw [st2] at S9
        wtm_at "r8"
        have S11 := S9.perm (List.perm_append_comm_assoc [(D, _), (L, _), (P, _), (C, _)] [(lq, _), (xs, _), (dxs, _), (x11, _), (dx11, _), (q, _)] [])
        refine ⟨rfl, _, _, .name (encW sp.toNat), S11, fun h H => ⟨_, ⟨⟨.inst 197, ⟨_, _, rfl, H.inst (by wtm_at "mem") (by wtm_at "mem")⟩, by decide, by decide⟩, .inl (va2 _ _)⟩, ⟨_, _, rfl, H.inst (by wtm_at "mem") (by wtm_at "mem")⟩⟩, va3 _ _, rfl⟩
      · refine l_item (St.isList (by assumption) (by with_reducible wtm_at "mem")) (by decide) (by decide) rfl ?_ (by wtm_at "rf")
        wtm_at "r8"
        refine d_set (knd := PySem.strKind prg w) (by assumption) (by with_reducible wtm_at "upd") (strKind_is _ _ _ _) (Nat.le_of_ble_eq_true (by rfl)) fun s9 S9 => ?_
        rw [st2] at S9
        wtm_at "r8"
        have S11 := S9.perm (List.perm_append_comm_assoc [(D, _), (L, _), (P, _), (C, _)] [(lq, _), (xs, _), (dxs, _), (x11, _), (dx11, _), (q, _)] [])
        refine ⟨rfl, _, _, .other, S11, fun h H => ⟨_, ⟨⟨.int, ⟨_, _, rfl⟩, rfl, by decide⟩, .inl (va2 _ _)⟩, ⟨.int, ⟨_, _, rfl⟩, rfl, by decide⟩⟩, va3 _ _, rfl⟩
      · refine l_item (St.isList (by assumption) (by with_reducible wtm_at "mem")) (by decide) (by decide) rfl ?_ (by wtm_at "rf")
        wtm_at "r8"
        refine d_set (knd := PySem.strKind prg w) (by assumption) (by with_reducible wtm_at "upd") (strKind_is _ _ _ _) (Nat.le_of_ble_eq_true (by rfl)) fun s9 S9 => ?_
        rw [st2] at S9
        wtm_at "r8"
        have S11 := S9.perm (List.perm_append_comm_assoc [(D, _), (L, _), (P, _), (C, _)] [(lq, _), (xs, _), (dxs, _), (x11, _), (dx11, _), (q, _)] [])
        refine ⟨rfl, _, _, .other, S11, fun h H => ⟨_, ⟨⟨.inst 219, ⟨_, _, rfl, H.inst (by wtm_at "mem") (by wtm_at "mem")⟩, by decide, by decide⟩, .inl (va2 _ _)⟩, ⟨.inst 219, ⟨_, _, rfl, H.inst (by wtm_at "mem") (by wtm_at "mem")⟩, by decide, by decide⟩⟩, va3 _ _, rfl⟩
    · refine go_false (by simpa using w0) ?_
      wtm_at "r8"
      have w00 : wy = 0 := by omega
      subst w00
      refine ⟨rfl, _, [], .other, by assumption, fun h _ => ⟨.none, ⟨⟨.none, rfl, rfl, by decide⟩, .inl (va1 _)⟩, ⟨.none, rfl, rfl, by decide⟩⟩, va4 _, rfl⟩
  · have hj : (if wy = 1 then sp.toNat else 0) < 3 := by split <;> omega
    have hev : encOf (.dict b .none) = some (baseAt (if wy = 1 then sp.toNat else 0)) := by
      show (baseOf b.word).bind (fun ys => withDiff ys []) = _
      rw [hw, encW_base hj]
      simp [withDiff]
    wtm_at "r8"
    refine e_cmp ?_ (by wtm_at "rf")
    wtm_at "r8"
    refine e_dict W (by assumption) (PySem.strKind prg w) (by rfl) (by rfl) (by decide) (by decide) fun F s10 lo2 S10 => ?_
    refine p_cons ?_
    wtm_at "r8"
    refine p_nil ?_
    wtm_at "kk"; refine ⟨_, _, [(Str.ofString "Encoding", .ref D)], by assumption, by with_reducible wtm_at "upd", ⟨strKind_is _ _ _ _, rfl, trivial⟩, fun s11 S11 => ?_⟩
    have S12 := S11.perm (n' := ((F, dcD (PySem.strKind prg w) [(Str.ofString "Encoding", .ref D)]) :: (D, _) :: Y) ++ [(L, _), (P, _), (C, _)]) (.cons _ (.cons _ (List.perm_append_comm (l₁ := Y) (l₂ := [(L, _), (P, _), (C, _)]))))
    clear S9 S10 S11
    wtm_at "r8"
    obtain ⟨g', hgg, S13, H⟩ := S12.freezeAll
    have hDD : DicH (PySem.strKind prg w) g' D kvs := H.dic lo (.tail _ (.head _))
    have k3 : ∀ b o, g.get? b = some o → s11.heap.get? b = some o := S12.keep
    refine ⟨W.keeps k3, enc_spec B [] (.inl ⟨by rw [hev]; rfl, rfl⟩) rm' (dle (by assumption) (by rfl)) (W.keeps k3) (W.keeps k3) (hI.keeps k3) (hT.keeps k3) ((H.dic lo2 (.head _)).keeps S13.keep) (u := .ref D) (ev := .dict b .none) ⟨⟨.dict, dic_ty (hDD.keeps S13.keep), rfl, by decide⟩, .inl (by simp [valueAt])⟩
      ⟨D, kvs, rfl, hDD.keeps S13.keep, (let ⟨ub, h1, h2⟩ := hY g' (H.mono fun q hq => .tail _ (.tail _ hq)); ⟨ub, h1.keeps S13.keep, h2.keeps S13.keep⟩), ⟨.none, ⟨⟨.none, rfl, rfl, by decide⟩, .inl (by rw [hD]; rfl)⟩, rfl⟩⟩
      (fun ys s' p ps e N hp => ?_) fun e => by rw [hev] at e; cases e⟩
    rw [hev] at e
    cases e
    have S14 := S13.newL N
    have W₂ : Wld w g' := W.keeps hgg
    obtain ⟨bs, hbl, hbn, hbs⟩ := hb.all
    clear S12 S13 N
    show wpAny _ _ (eval _ _) _ _ _
    wtm_at "r8"
    by_cases w1 : wy = 1
    · rw [if_pos w1] at hp hj
      refine go_true (by simpa using w1) ?_
      wtm_at "r8"
      obtain ⟨b0, hb0⟩ : ∃ b0, bs[sp.toNat]? = some b0 := ⟨_, List.getElem?_eq_getElem (by omega)⟩
      obtain ⟨wv, lw, sw⟩ := hbs _ _ hb0
      refine l_item (hbl.at fun o e => St.keep (by assumption) _ _ (hgg _ _ e)) (by omega) (by omega) (x := .ref b0) (by simpa using hb0) ?_ (by wtm_at "rf")
      wtm_at "r8"
      refine c_same rm' (dle (by assumption) (by rfl)) (reads_strs (St.isList (by assumption) (by with_reducible wtm_at "mem")) hp) (reads_strs (lw.at fun o e => St.keep (by assumption) _ _ (hgg _ _ e)) sw) (shaped_strs (hok _ hj)) ?_
      have S15 := (St.subl (n' := [(P, _), (C, _)]) (by assumption) (.cons _ (.cons _ (.refl _)))).shrink hgg
      rw [hg] at S15
      wtm_at "kk"; exact hR _ S15
    · rw [if_neg w1] at hp hj
      refine go_false (by simpa using w1) ?_
      wtm_at "r8"
      obtain ⟨b0, hb0⟩ : ∃ b0, bs[0]? = some b0 := ⟨_, List.getElem?_eq_getElem (by omega)⟩
      obtain ⟨wv, lw, sw⟩ := hbs _ _ hb0
      refine l_item (hbl.at fun o e => St.keep (by assumption) _ _ (hgg _ _ e)) (by omega) (by omega) (x := .ref b0) (by simpa using hb0) ?_ (by wtm_at "rf")
      wtm_at "r8"
      refine c_same rm' (dle (by assumption) (by rfl)) (reads_strs (St.isList (by assumption) (by with_reducible wtm_at "mem")) hp) (reads_strs (lw.at fun o e => St.keep (by assumption) _ _ (hgg _ _ e)) sw) (shaped_strs (hok _ hj)) ?_
      have S15 := (St.subl (n' := [(P, _), (C, _)]) (by assumption) (.cons _ (.cons _ (.refl _)))).shrink hgg
      rw [hg] at S15
      wtm_at "kk"; exact hR _ S15
end
section
variable {w : World} {A : Around} {d : Nat} {s : Shared} {R : Result → Shared → Prop}
theorem font_spec {P C T x T2 : Addr} {g₀ : Heap} {m j : Nat} {kvs : List (Int × Value)} {v : Value} {ps : List Part} (rm : Room A d) (hd : d ≤ 30) (hm : m ≤ 300) (W : Wld w s.heap) (hX : ∀ p ∈ layX w P C T m kvs, ∃ o, s.heap.get? p.1 = some o ∧ p.2.is o) (nd : [P, C, T].Nodup)
    (hW : Wld w (hideAll s.heap [P, C, T])) (hI : InstH (hideAll s.heap [P, C, T]) x 311 [(Str.ofString "table", .ref T), (Str.ofString "trailer", .ref T2)]) (lo : (T == sysModules) = false) (hk : KeysUp kvs) (hz : kvs.length ≤ 1000)
    (k0 : ∀ b o, g₀.get? b = some o → (hideAll s.heap [P, C, T]).get? b = some o) (hF : FoundH w g₀ v j ps) (hps : ps.length ≤ 512)
    (hR : ∀ s' F nm u kvs' Y m', (F == sysModules) = false → St s (hideAll s.heap [P, C, T]) ((F, dcD (PySem.strKind prg w) [(Str.ofString "Type", nm), (Str.ofString "Encoding", u)]) :: (layX w P C T m' kvs' ++ Y)) s' → m' ≤ m + 600 →
      (∀ h, Holds Y h → (∀ b o, g₀.get? b = some o → h.get? b = some o) → ∃ v', ResH h kvs' u v' ∧ EncH w h kvs' v' (evOf j ps)) → R (.ok (.ret (.ref F))) s') :
    codeAny (Mo w) A (.call (.ref 423) ⟨[.ref P, .ref x, v], []⟩) R s := by
  refine fn_enterC0 (binds := [(Str.ofString "pot", .ref P), (Str.ofString "shelf", .ref x), (Str.ofString "found", v)]) (lb := []) (layX w P C T m kvs) (fun L => [(Str.ofString "found", L + 3), (Str.ofString "shelf", L + 2), (Str.ofString "pot", L + 1)]) (fun L => [(L + 3, .cell (some v)), (L + 2, .cell (some (.ref x))), (L + 1, .cell (some (.ref P)))]) W rm (by rfl) (by decide +kernel) (by kernel_rfl) (by kernel_rfl) (by simp) (fun L x hx => by simp only [List.mem_cons, List.not_mem_nil, or_false] at hx; rcases hx with rfl | rfl | rfl; exact .inr ⟨by kernel_rfl, by rfl⟩; exact .inr ⟨by kernel_rfl, by rfl⟩; exact .inr ⟨by kernel_rfl, by rfl⟩) (fun L => by kernel_rfl) (fun L => by kernel_rfl) (fun L => by simp; decide) hX nd hW (fun g L s₁ env A' E' hg W S fe rm' KK hKK => ?_) (dle0 (by assumption) (by rfl))
  clear hW hX
  replace hg : g = hideAll s.heap [P, C, T] := hg
  rw [← hg] at hI k0
  replace S : St s g ([(L + 3, .cell (some v)), (L + 2, .cell (some (.ref x))), (L + 1, .cell (some (.ref P))), (L, .ns [])] ++ layX w P C T m kvs) s₁ := S
  replace fe : Fe env _ L [(Str.ofString "found", L + 3), (Str.ofString "shelf", L + 2), (Str.ofString "pot", L + 1)] := fe
  have callL : ∀ {m₁ : Nat} {kvs₁ : List (Int × Value)} {n₇ : Led} {s₇ : Shared} {v₁ : Value} {Q : Result → Shared → Prop}, St s g (layX w P C T m₁ kvs₁ ++ n₇) s₇ → m₁ ≤ 1000 → KeysUp kvs₁ → kvs₁.length ≤ 5000 →
      (∀ u kvs' Y s', St s g (Y ++ (layX w P C T (m₁ + 1) kvs' ++ n₇)) s' → LaidIn Y kvs' u v₁ → KeysUp kvs' → (∃ more, kvs' = kvs₁ ++ more ∧ more.length ≤ 1) → Q (.ok (.ret u)) s') → Wld w s₇.heap ∧ codeAny (Mo w) A' (.call (.ref 418) ⟨[.ref P, .ref x, v₁], []⟩) Q s₇ := fun {m₁ kvs₁ n₇ s₇ v₁ Q} S7 h1 h2 h3 hQ => by
    have hide := S7.hide (X := layX w P C T m₁ kvs₁) fun _ h => List.mem_append_left _ h
    exact ⟨W.keeps S7.keep, laid_spec rm' (dle (by assumption) (by rfl)) h1 (W.keeps S7.keep) (fun p hp => (S7.led p (List.mem_append_left _ hp)).1) nd (W.keeps hide) (hI.keeps hide) lo h2 h3 fun s' u kvs' Y T' hl hk' hm' => hQ u kvs' Y s' (S7.moreU T' rfl) hl hk' hm'⟩
  refine x_step (wpAny_mono (Q := fun f s' => f = .next ∧ ∃ v2 m2 kvs2 Y lb, St s g (fontN w P C T L x m2 kvs2 v2 lb Y) s' ∧ m2 ≤ m + 513 ∧ KeysUp kvs2 ∧ kvs2.length ≤ kvs.length + 513 ∧
      (∀ h more, Holds Y h → (∀ b o, g₀.get? b = some o → h.get? b = some o) → NotRef h v2 ∧ EncH w h (kvs2 ++ more) v2 (evOf j ps))) (x_if ?_) (fun f s' ⟨e, v2, m2, kvs2, Y, lb, S2, hm2, hk2, hl2, hY⟩ => ⟨e, ?_⟩) (fun _ _ x => x))
  · have S0 : St s g (fontN w P C T L x m kvs v [] []) s₁ := S.perm (List.perm_append_comm (l₁ := layX w P C T m kvs) (l₂ := [(L + 3, _), (L + 2, _), (L + 1, _), (L, _)]))
    clear S
    rcases hF with ⟨p0, j0, rfl⟩ | ⟨p0, j0, y, ty, rfl, hy0⟩ | ⟨p0, D, y, ty, p, vs, kf, rfl, hD0, hy0, hl0, hvs, hkf⟩
    · have hT : HasTy g .none .none := rfl
      wtm_at "r8"
      refine ⟨rfl, .none, m, kvs, [], [], by assumption, by omega, hk, by omega, fun h more H kk => ⟨⟨.none, rfl, rfl, by decide⟩, ?_⟩⟩
      unfold evOf
      rw [if_pos p0, if_pos j0]
      rfl
    · have hy := hy0.keeps k0
      have hT : HasTy g (.ref y) (.inst 197) := ⟨_, _, rfl, hy⟩
      wtm_at "r8"
      refine ⟨rfl, _, m, kvs, [], [], by assumption, by omega, hk, by omega, fun h more H kk => ⟨⟨.inst 197, ⟨_, _, rfl, hy0.keeps kk⟩, by decide, by decide⟩, ?_⟩⟩
      unfold evOf
      rw [if_pos p0, if_neg j0]
      exact ⟨y, _, rfl, hy0.keeps kk⟩
    · have hD := hD0.keeps k0
      have hl : g.IsList p vs.toArray := hl0.at fun o e => k0 _ _ e
      have hT : HasTy g (.ref D) .dict := dic_ty hD
      have hE := encD_of hkf
      have hnd := hD.nodup
      clear hkf
      have lvs := hvs.length
      wtm_at "r8"
      refine x_step (wpAny_mono (x_comp (k := s) (E := E') (Q := fun f s' => f = .next ∧ ∃ a us kvs1 Y, All2 (LaidP g₀ Y kvs1) us ps ∧ KeysUp kvs1 ∧ kvs1.length ≤ kvs.length + 512 ∧ us.length ≤ 512 ∧ ∃ m1, m1 ≤ m + 512 ∧ St s g (fontN w P C T L x m1 kvs1 (.ref D) [(Str.ofString "parts", .ref a)] ((a, .lst us) :: Y)) s') fe (swaps_comp fe (by kernel_rfl)) (cl' := [(Str.ofString "shelf", L + 2), (Str.ofString "pot", L + 1)]) (closure_of fe (by intro env h; cases env; cases h; rfl)) (by decide +kernel) (by decide +kernel) (by decide +kernel) (by decide +kernel) ?_ (fun _ => by wtm_at "rf")) (fun f s' ⟨e, a, us, kvs1, Y, hus, hk1, hl1, hu1, m1, hm1, S1⟩ => ⟨e, ?_⟩) (fun _ _ x => x))
      · wtm_at "r8"
        refine d_sub (knd := PySem.strKind prg w) (by assumption) (hD.keeps (St.keep (by assumption))) (strKind_is _ _ _ _) hE.at_ (fun s₃ S3 => ?_) (by wtm_at "rf")
        refine p_list S3 hl fun I s₄ S4 => ?_
        refine ⟨g, I, vs.length, _, _, _, fun i ys n => ∃ kvs1 Y, n = fontN w P C T L x (m + i) kvs1 (.ref D) [] Y ∧ i ≤ vs.length ∧ KeysUp kvs1 ∧ kvs1.length ≤ kvs.length + i ∧ All2 (LaidP g₀ Y kvs1) ys (ps.take i), rfl, It.list rm'.handled hl I, by wtm_at "sz", S4, ⟨kvs, [], rfl, Nat.zero_le _, hk, Nat.le_refl _, .nil⟩, fun i ys n h => ?_, fun s Q E h hQ => self_list (l := p) s Q E h hQ, ?_, ?_⟩
        · obtain ⟨_, _, _, h1, _, _, h2⟩ := h
          rw [h2.length, List.length_take]; omega
        · rintro C1 acc cenv i v1 ys n₁ s₁ E₂ hi hv ⟨kvs1, Y, rfl, hi1, hk1, hl1, hy⟩ fe' S₁
          intro KK hKK
          obtain ⟨q, hq, pq⟩ := hvs.get hv
          clear fe
          wtm_at "r8"
          refine callL (S₁.perm (List.perm_append_comm_assoc (layX w P C T (m + i) kvs1) [(C1, _), (acc, _), (I, _)] ([(L + 3, _), (L + 2, _), (L + 1, _), (L, _)] ++ Y))) (by omega) hk1 (by omega) fun u kvs' Y1 s' S' hla hk' ⟨more, hkm, hml⟩ => ?_
          subst hkm
          have S'' := S'.perm (perm3 Y1 (layX w P C T (m + i + 1) (kvs1 ++ more)) [(C1, _), (acc, _), (I, _)] ([(L + 3, _), (L + 2, _), (L + 1, _), (L, _)] ++ Y)).symm
          wtm_at "kk"; refine ⟨_, ⟨_, Y ++ Y1, rfl, hi, hk', by rw [List.length_append]; omega, ?_⟩, S''⟩
          rw [List.take_succ, hq]
          exact (hy.mono fun u p h => h.mono more fun q hq => List.mem_append_left _ hq).snoc ⟨_, pq, by have := hla.mono (Y' := Y ++ Y1) [] fun q hq => List.mem_append_right _ hq; rwa [List.append_nil] at this⟩
        · rintro C1 acc ys n₁ s₁ ⟨kvs1, Y, rfl, hi1, hk1, hl1, hy⟩ S₁
          rw [List.take_of_length_le (by omega)] at hy
          have ly := hy.length
          wtm_at "r8"
          wtm_at "kk"; refine ⟨_, by assumption, fun s₃ S₃ => ⟨rfl, acc, ys, kvs1, Y, hy, hk1, by omega, by omega, m + vs.length, by omega, ?_⟩⟩
          exact S₃.perm (List.perm_middle (l₁ := [_, _, _, _, _, _, _]))
      · obtain ⟨ep, hat⟩ := hD.2.dictAt
        have lf := hE.few
        wtm_at "r8"
        refine e_comp (k := s) fe (cl' := [(Str.ofString "found", L + 3)]) (closure_of fe (by intro env h; cases env; cases h; rfl)) (by decide +kernel) (by decide +kernel) (by decide +kernel) (by decide +kernel) ?_ (fun _ => by wtm_at "rf")
        wtm_at "r8"
        refine p_dict hD.1 (by assumption) hat fun I s₄ S4 => ?_
        refine ⟨g, I, kf.length, _, _, _, fun i ys n => ∃ Y2, n = fontN w P C T L x m1 kvs1 (.ref D) [(Str.ofString "parts", .ref a)] ((a, .lst us) :: (Y2 ++ Y)) ∧ ys.length = i ∧ ∀ (h : Heap), Holds Y2 h → ∀ (j : Nat) (v : Value), ys[j]? = some v → PairIn (PySem.strKind prg w) h kf j v, rfl, It.dict rm'.handled hat I, by wtm_at "sz", S4, ⟨[], rfl, rfl, fun h H j v e => by simp at e⟩, fun i ys n h => h.elim fun _ h => h.2.1, fun s Q E h hQ => self_dict (a := D) (m := kf.length) (ep := ep) s Q E h hQ, ?_, ?_⟩
        · rintro C1 acc cenv i v1 ys n₁ s₁ E₂ hi ⟨key, xv, hkx, hkey⟩ ⟨Y2, rfl, hyl, hy⟩ fe' S₁
          intro KK hKK
          clear fe
          wtm_at "r8"
          refine e_tuple (k := s) (g := g) ?_
          wtm_at "r8"
          refine d_sub (knd := PySem.strKind prg w) (by assumption) (hD.keeps (St.keep (by assumption))) hkey (valueAt_get hnd hkx) (fun s₃ S3 => ?_) (by wtm_at "rf")
          wtm_at "r8"
          wtm_at "kk"; refine ⟨_, by assumption, Nat.le_of_ble_eq_true (by rfl), fun q s₅ S5 => ?_⟩
          have S6 := S5.perm (List.perm_middle (l₁ := [_, _, _, _, _, _, _, _, _, _, _]))
          wtm_at "kk"; refine ⟨_, ⟨(q, _) :: Y2, rfl, by rw [List.length_append, hyl]; rfl, fun h H j v e => ?_⟩, S6⟩
          rcases getSnoc e with e | ⟨rfl, rfl⟩
          · exact hy h (H.mono fun p hp => .tail _ hp) j v e
          · obtain ⟨o, ho, hi'⟩ := H _ (.head _)
            cases hi'
            exact ⟨q, key, _, xv, rfl, ho, by rw [hyl]; exact hkx, hkey⟩
        · rintro acc ys n₁ s₁ ⟨Y2, rfl, hyl, hy⟩ S₁
          wtm_at "r8"
          have S5 : St s g (((acc, .lst ys) :: Y2) ++ fontN w P C T L x m1 kvs1 (.ref D) [(Str.ofString "parts", .ref a)] ((a, .lst us) :: Y)) _ := St.perm S₁ (.cons _ (List.perm_append_comm_assoc Y2 [_, _, _, _, _, _, _, _] Y))
          obtain ⟨g', hgg, S6, H⟩ := S5.freezeAll
          obtain ⟨oa, hoa, ca, rfl⟩ := H (acc, .lst ys) (.head _)
          refine d_of_list (knd := PySem.strKind prg w) (kvs := kf) rm'.handled (W.keeps hgg) S6 hoa hyl (fun i v e => hy g' (H.mono fun p hp => .tail _ hp) i v e) (by omega) fun D2 s₇ lo2 S7 => ?_
          rw [merged_nil_of_nodup kf hnd] at S7
          have S8 : St s g (fontN w P C T L x m1 kvs1 (.ref D) [(Str.ofString "parts", .ref a)] ((a, .lst us) :: (D2, dcD (PySem.strKind prg w) kf) :: Y)) s₇ := (S7.shrink hgg).perm (List.perm_middle (l₁ := [_, _, _, _, _, _, _, _]))
          clear S7 S6 S5 S₁ S4
          show wpAny _ _ (storeName _ _ _) _ _ _
          refine s_cell S8 (by assumption) (by kernel_rfl) (by wtm_at "rf") (by with_reducible wtm_at "upd") fun s₈ S9 => ?_
          clear S8 S1
          wtm_at "r8"
          refine callL S9 (by omega) hk1 (by omega) fun u kvs' Y1 s' S' hla hk' ⟨more, hkm, hml⟩ => ?_
          subst hkm
          have S10 : St s g (fontN w P C T L x (m1 + 1) (kvs1 ++ more) (.ref D2) [(Str.ofString "parts", .ref a)] ((a, .lst us) :: (D2, dcD (PySem.strKind prg w) kf) :: (Y ++ Y1))) s' := S'.perm (perm2 Y1 (layX w P C T (m1 + 1) (kvs1 ++ more)) ([(L + 3, _), (L + 2, _), (L + 1, _), (L, _), (a, _), (D2, _)] ++ Y)).symm
          clear S9 S'
          show wpAny _ _ (eval _ _) _ _ _
          wtm_at "r8"
          refine d_set (knd := PySem.strKind prg w) (by assumption) (by with_reducible wtm_at "upd") (strKind_is _ _ _ _) (by wtm_at "sz") fun s9 S11 => ?_
          wtm_at "r8"
          refine ⟨rfl, .ref D2, m1 + 1, kvs1 ++ more, (a, .lst us) :: (D2, dcD (PySem.strKind prg w) (stored kf (Str.ofString "Differences") u)) :: (Y ++ Y1), _, S11, by omega, hk', by rw [List.length_append]; omega, fun h more' H kk => ?_⟩
          have hD2 := H.dic lo2 (.tail _ (.head _))
          refine ⟨⟨.dict, dic_ty hD2, rfl, by decide⟩, ?_⟩
          have HY : Holds (Y ++ Y1) h := H.mono fun p hp => .tail _ (.tail _ hp)
          have hlist := H.list (.head _)
          unfold evOf
          rw [if_neg p0]
          obtain ⟨ub, eb, nb, hb⟩ := hE.base u
          refine ⟨D2, _, rfl, hD2, ⟨ub, ?_, BaseH.keeps hb kk⟩, ⟨.ref a, ?_, a, us, rfl, hlist, ?_, by rw [List.length_map]; omega⟩⟩
          · rw [eb]; exact ⟨nb.keeps kk, .inl rfl⟩
          · rw [hE.set_]
            exact ((hla.mono more' fun q hq => List.mem_append_right Y hq).res HY ⟨.list, by obtain ⟨o, h1, h2, _⟩ := hlist; exact ⟨_, _, rfl, h1, h2⟩, rfl, by decide⟩)
          · refine hus.all3 fun v p hp => ?_
            have := (hp.mono (Y' := Y ++ Y1) more fun q hq => List.mem_append_left _ hq).mono more' fun q hq => hq
            exact this.res HY kk
  · clear S
    have hz2 : kvs2.length ≤ 5000 := by omega
    wtm_at "r8"
    refine e_dict W (by assumption) (PySem.strKind prg w) (by rfl) (by rfl) (by decide) (by decide) fun F s₃ lo3 S3 => ?_
    refine p_cons ?_
    wtm_at "r8"
    refine ⟨W.keeps (St.keep (by assumption)), name_new rm' (dle (by assumption) (by rfl)) (W.keeps (St.keep (by assumption))) fun s10 x10 dx10 N => ?_⟩
    have S10 := St.newI (by assumption) N
    clear N
    show wpAny _ _ (evalPairs _) _ _ _
    refine p_cons ?_
    wtm_at "r8"
    rename_i S10'
    have S11 := St.perm S10' (List.perm_append_comm_assoc (layX w P C T m2 kvs2) [(x10, _), (dx10, _), (F, _)] ([(L + 3, .cell (some v2)), (L + 2, .cell (some (.ref x))), (L + 1, .cell (some (.ref P))), (L, .ns lb)] ++ Y))
    refine callL S11 (by omega) hk2 hz2 fun u kvs' Y1 s' S' hla hk' ⟨more, hkm, hml⟩ => ?_
    subst hkm
    have S12 : St s g ((x10, _) :: (dx10, _) :: (F, dcD (PySem.strKind prg w) []) :: fontN w P C T L x (m2 + 1) (kvs2 ++ more) v2 lb (Y ++ Y1)) s' := S'.perm (perm3 Y1 (layX w P C T (m2 + 1) (kvs2 ++ more)) [(x10, _), (dx10, _), (F, _)] ([(L + 3, .cell (some v2)), (L + 2, .cell (some (.ref x))), (L + 1, .cell (some (.ref P))), (L, .ns lb)] ++ Y)).symm
    show wpAny _ _ (evalPairs _) _ _ _
    refine p_nil ?_
    wtm_at "kk"; refine ⟨_, _, [(Str.ofString "Type", .ref x10), (Str.ofString "Encoding", u)], S12, by with_reducible wtm_at "upd", ⟨strKind_is _ _ _ _, rfl, strKind_is _ _ _ _, rfl, trivial⟩, fun s13 S13 => ?_⟩
    rw [merged2 _ _ (by decide +kernel)] at S13
    have S14 := S13.subl (n' := (F, _) :: (layX w P C T (m2 + 1) (kvs2 ++ more) ++ (Y ++ Y1))) (.cons _ (.cons _ (.cons₂ _ (.cons₂ _ (.cons₂ _ (.cons₂ _ (.cons _ (.cons _ (.cons _ (.cons _ (.refl _)))))))))))
    rw [hg] at S14
    wtm_at "kk"; refine hR _ _ _ _ _ _ _ lo3 S14 (by omega) fun h H kk => ?_
    obtain ⟨nr, he⟩ := hY h more (H.mono fun q hq => List.mem_append_left _ hq) kk
    have := (hla.mono (Y' := Y ++ Y1) [] fun q hq => List.mem_append_right _ hq).res H nr
    rw [List.append_nil] at this
    exact ⟨v2, this, he⟩
end
section
variable {w : World} {A : Around} {d : Nat} {s : Shared} {R : Result → Shared → Prop}
theorem best_spec {nl bl : Addr} {vs : List Value} {xs : List Str} {v : Value} (rm : Room A d) (hd : d ≤ 30) (W : Wld w s.heap) (ha : s.heap.IsList nl vs.toArray) (hx : Strs vs xs) (hxl : xs.length = 256) (hok : okL xs) (hbl : ∀ j < 3, (baseAt j).length = 256) (hb : BasesH s.heap bl)
    (hF : FoundH w s.heap v (bestTo xs 3) (diffL xs (baseAt (bestTo xs 3)))) (hR : ∀ s', Eff [] s s' → R (.ok (.ret (.bool true))) s') :
    codeAny (Mo w) A (.call (.ref 411) ⟨[v, .ref nl, .ref bl], []⟩) R s := by
  refine fn_enterC0 (binds := [(Str.ofString "found", v), (Str.ofString "names", .ref nl), (Str.ofString "bases", .ref bl)]) (lb := [(Str.ofString "found", v), (Str.ofString "bases", .ref bl)]) [] (fun L => [(Str.ofString "names", L + 1)]) (fun L => [(L + 1, .cell (some (.ref nl)))]) W rm (by rfl) (by decide +kernel) (by kernel_rfl) (by kernel_rfl) (by simp) (fun L x hx => by simp only [List.mem_cons, List.not_mem_nil, or_false] at hx; rcases hx with rfl | rfl | rfl; exact .inl (by kernel_rfl); exact .inr ⟨by kernel_rfl, by rfl⟩; exact .inl (by kernel_rfl)) (fun L => by kernel_rfl) (fun L => by kernel_rfl) (fun L => by simp) (fun _ hp => nomatch hp) .nil W (fun g L s₁ env A' E' hg W S fe rm' KK hKK => ?_) (dle0 (by assumption) (by rfl))
  replace S : St s g [(L + 1, .cell (some (.ref nl))), (L, .ns [(Str.ofString "found", v), (Str.ofString "bases", .ref bl)])] s₁ := S
  replace fe : Fe env _ L [(Str.ofString "names", L + 1)] := fe
  replace hg : g = s.heap := hg
  rw [← hg] at ha hb hF
  have fin : ∀ {g' : Heap} {n' : Led} {s' : Shared}, (∀ b o, g.get? b = some o → g'.get? b = some o) → St s g' n' s' → Eff [] s s' := fun hk S => St.toEff (X := []) (by rw [hg] at hk; exact S.shrink hk) (fun _ hp => nomatch hp)
  obtain ⟨bs, hbs1, hbs2, hbs3⟩ := hb.all
  wtm_at "r7"
  refine x_step (wpAny_mono (x_comp (k := s) (E := E') (Q := fun f s' => f = .next ∧ ∃ g' dl dvs, (∀ b o, g.get? b = some o → g'.get? b = some o) ∧ St s g' [(L + 1, .cell (some (.ref nl))), (L, .ns [(Str.ofString "dues", .ref dl), (Str.ofString "found", v), (Str.ofString "bases", .ref bl)])] s' ∧ g'.IsList dl dvs.toArray ∧ dvs.length = 3 ∧ DuesH g' xs dvs) fe (swaps_comp fe (by kernel_rfl)) (cl' := [(Str.ofString "names", L + 1)]) (closure_of fe (by intro env h; cases env; cases h; rfl)) (by decide +kernel) (by decide +kernel) (by decide +kernel) (by decide +kernel) ?_ (fun _ => by wtm_at "rf")) (fun f s' ⟨e, g', dl, dvs, hgg, S1, hdl, hdn, hdu⟩ => ⟨e, ?_⟩) (fun _ _ x => x))
  · wtm_at "r7"
    refine p_list S hbs1 fun I s₂ S2 => ?_
    have lb : (bs.map Value.ref).length = 3 := by rw [List.length_map]; exact hbs2
    refine ⟨g, I, (bs.map Value.ref).length, _, _, _, fun i ys n => ∃ Y, n = (L + 1, .cell (some (.ref nl))) :: (L, .ns [(Str.ofString "found", v), (Str.ofString "bases", .ref bl)]) :: Y ∧ ys.length = i ∧ ∀ h, Holds Y h → DuesH h xs ys, rfl, It.list rm'.handled hbs1 I, by rw [lb]; wtm_at "sz", S2, ⟨[], rfl, rfl, fun h H j v e => by simp at e⟩, fun i ys n h => h.elim fun _ h => h.2.1, fun s Q E h hQ => self_list (l := bl) s Q E h hQ, ?_, ?_⟩
    · rintro C acc cenv i v1 ys n₁ s₁ E₂ hi hv ⟨Y, rfl, hyl, hy⟩ fe' S₁
      intro KK hKK
      rw [lb] at hi
      clear fe
      obtain ⟨b, hbi, rfl⟩ : ∃ b, bs[i]? = some b ∧ v1 = .ref b := by
        rw [List.getElem?_map] at hv
        cases q : bs[i]? with
        | none => rw [q] at hv; cases hv
        | some b => rw [q] at hv; cases hv; exact ⟨b, rfl, rfl⟩
      obtain ⟨ws, hw1, hw2⟩ := hbs3 i b hbi
      wtm_at "r7"
      refine ⟨W.keeps S₁.keep, due_spec rm' (dle (by assumption) (by rfl)) (W.keeps S₁.keep) (ha.at fun o e => S₁.keep _ o e) (hw1.at fun o e => S₁.keep _ o e) hx hw2 hxl (hbl i hi) fun s' p ps hp N => ?_⟩
      have S3 := (S₁.newL N).perm (List.perm_middle (l₁ := [_, _, _, _, _]))
      rw [dueL_eq] at hp
      wtm_at "kk"; refine ⟨_, ⟨(p, .lst ps) :: Y, rfl, by rw [List.length_append, hyl]; rfl, fun h H j v e => ?_⟩, S3⟩
      rcases getSnoc e with e | ⟨rfl, rfl⟩
      · exact hy h (H.mono fun p hp => .tail _ hp) j v e
      · exact ⟨p, ps, rfl, H.list (.head _), by rw [hyl]; exact hp⟩
    · rintro C acc ys n₁ s₁ ⟨Y, rfl, hyl, hy⟩ S₁
      wtm_at "r7"
      wtm_at "kk"; refine ⟨_, by assumption, fun s₃ S₃ => ⟨rfl, ?_⟩⟩
      have S4 : St s g (((acc, .lst ys) :: Y) ++ [(L + 1, .cell (some (.ref nl))), (L, .ns [(Str.ofString "dues", .ref acc), (Str.ofString "found", v), (Str.ofString "bases", .ref bl)])]) s₃ := S₃.perm (.cons _ List.perm_append_comm)
      obtain ⟨g', hgg, S5, H⟩ := S4.freezeAll
      exact ⟨g', acc, ys, hgg, S5, H.list (.head _), by rw [hyl]; exact lb, hy g' (H.mono fun p hp => .tail _ hp)⟩
  · clear S
    have hF' := hF
    replace W : Wld w g' := W.keeps hgg
    have i3 := bestTo_lt xs 2
    have bmin := @best_idx xs
    have l512 : ∀ j, sizeAt xs j ≤ 512 := fun j => diffL_len _ _
    have dok : ∀ j x, Part.name x ∈ diffL xs (baseAt j) → PyData.strOk x = true := fun j => diffL_ok hok _
    have hsz : ∀ j, (diffL xs (baseAt j)).length = sizeAt xs j := fun j => rfl
    wtm_at "r7"
    refine x_step (wpAny_mono (x_comp (k := s) (E := E') (Q := fun f s' => f = .next ∧ ∃ sl svs, CodesAre svs ((List.range 3).map (sizeAt xs)) ∧ St s g' [(sl, .lst svs), (L + 1, .cell (some (.ref nl))), (L, .ns [(Str.ofString "sizes", .ref sl), (Str.ofString "dues", .ref dl), (Str.ofString "found", v), (Str.ofString "bases", .ref bl)])] s') fe (swaps_comp fe (by kernel_rfl)) (cl' := []) (by rfl) (by decide +kernel) (by decide +kernel) (by decide +kernel) (by decide +kernel) ?_ (fun _ => by wtm_at "rf")) (fun f s' ⟨e, sl, svs, hsv, S2⟩ => ⟨e, ?_⟩) (fun _ _ x => x))
    · wtm_at "r7"
      refine p_list S1 hdl fun I s₂ S2 => ?_
      refine ⟨g', I, dvs.length, _, _, _, fun i ys n => n = [(L + 1, .cell (some (.ref nl))), (L, .ns [(Str.ofString "dues", .ref dl), (Str.ofString "found", v), (Str.ofString "bases", .ref bl)])] ∧ CodesAre ys ((List.range i).map (sizeAt xs)), rfl, It.list rm'.handled hdl I, by rw [hdn]; wtm_at "sz", S2, ⟨rfl, rfl, fun i c e => by simp at e⟩, fun i ys n h => by rw [h.2.1]; simp, fun s Q E h hQ => self_list (l := dl) s Q E h hQ, ?_, ?_⟩
      · rintro C acc cenv i v1 ys n₁ s₁ E₂ hi hv ⟨rfl, hy⟩ fe' S₁
        intro KK hKK
        clear fe
        obtain ⟨p, qs, rfl, hp1, hp2⟩ := hdu i v1 hv
        have lq := hp2.length
        have l5 := l512 i
        rw [hsz] at lq
        wtm_at "r7"
        refine l_len S₁ (hp1.at fun o e => S₁.keep _ o e) (by wtm_at "sz") fun t s₃ S3 => ?_
        rw [lq]
        wtm_at "kk"; refine ⟨_, ⟨rfl, ?_⟩, S3⟩
        rw [List.range_succ, List.map_append]
        exact hy.snoc
      · rintro C acc ys n₁ s₁ ⟨rfl, hy⟩ S₁
        rw [hdn] at hy
        wtm_at "r7"
        wtm_at "kk"; exact ⟨_, by assumption, fun s₃ S₃ => ⟨rfl, _, _, hy, S₃⟩⟩
    · clear S1
      obtain ⟨t0, t1, t2, rfl⟩ := codes3 (a := sizeAt xs 0) (b := sizeAt xs 1) (c := sizeAt xs 2) hsv
      have hints : IntsAre [.int (sizeAt xs 0 : Int) t0, .int (sizeAt xs 1 : Int) t1, .int (sizeAt xs 2 : Int) t2] [(sizeAt xs 0 : Int), (sizeAt xs 1 : Int), (sizeAt xs 2 : Int)] := .cons _ _ (.cons _ _ (.cons _ _ .nil))
      have hget : ∀ j < 3, ∃ t, [Value.int (sizeAt xs 0 : Int) t0, .int (sizeAt xs 1 : Int) t1, .int (sizeAt xs 2 : Int) t2][j]? = some (.int (sizeAt xs j : Int) t) := fun j hj => by
        rcases lt3 hj with rfl | rfl | rfl <;> exact ⟨_, rfl⟩
      wtm_at "r7"
      refine getMethod_builtin (St.isList (by assumption) (by with_reducible wtm_at "mem")).typeIs PySem.F.plainAttrs_list PySem.F.slot_list_index PySem.F.type_list_index (fun a e => by cases e; obtain ⟨c, h⟩ := S2.plainObj (a := sl) (.head _); exact ⟨_, h, rfl⟩) ?_
      wtm_at "r7"
      refine l_min rm'.handled (by assumption) (St.isList (by assumption) (by with_reducible wtm_at "mem")) hints (by simp) fun M tM s₃ S3 hM1 hM2 => ?_
      have hi := bmin hM1 hM2
      wtm_at "r7"
      refine index_list_ints (St.isList (by assumption) (by with_reducible wtm_at "mem")) hints (lay3 (l512 0) (l512 1) (l512 2)) hM1 ?_
      rw [hi]
      have S4 := S3.toks (s₃.toks + 1)
      clear S2 S3 hM1 hM2 hi bmin hsv
      generalize s₃.toks = tj at S4 ⊢
      generalize bestTo xs 3 = j at *
      obtain ⟨tz, hzj⟩ := hget j i3
      obtain ⟨tz0, hz0⟩ := hget 0 (by decide)
      clear hget hints
      generalize [Value.int (sizeAt xs 0 : Int) t0, .int (sizeAt xs 1 : Int) t1, .int (sizeAt xs 2 : Int) t2] = svs at *
      have hj := hsz j
      have e0 : j = 0 → sizeAt xs 0 = sizeAt xs j := fun h => by rw [h]
      have lj := l512 j
      have okj := dok j
      obtain ⟨pj, qj, hpj, hlj, hqj⟩ : ∃ p qs, dvs[j]? = some (.ref p) ∧ g'.IsList p qs.toArray ∧ All2 shapeV qs (diffL xs (baseAt j)) := by
        obtain ⟨u, hu⟩ : ∃ u, dvs[j]? = some u := ⟨_, List.getElem?_eq_getElem (by rw [hdn]; exact i3)⟩
        obtain ⟨p, qs, rfl, h1, h2⟩ := hdu j u hu
        exact ⟨p, qs, hu, h1, h2⟩
      clear hsz l512 dok hdu
      generalize diffL xs (baseAt j) = D at *
      generalize sizeAt xs 0 = z0 at *
      generalize sizeAt xs j = zj at *
      have hDw := encW_get i3
      show wpAny _ _ (storeName _ _ _) _ _ _
      wtm_at "q7"
      rcases hF with ⟨p0, j0, rfl⟩ | ⟨p0, j0, y, ty, rfl, hy⟩ | ⟨p0, Dd, y, ty, p, pvs, kf, rfl, hDd, hy, hl, hvs, hkf⟩
      · subst p0
        have z00 : z0 = 0 := (e0 j0).trans hj.symm
        have hT : HasTy g' .none .none := rfl
        wtm_at "r7"
        refine go_true (by rw [j0]; rfl) ?_
        wtm_at "r7"
        refine l_item (St.isList (by assumption) (by with_reducible wtm_at "mem")) (by decide) (by decide) hz0 ?_ (by wtm_at "rf")
        wtm_at "r7"
        refine go_true (by rw [z00]; rfl) ?_
        wtm_at "r7"
        refine e_cmp ?_ (by wtm_at "rf")
        wtm_at "r7"
        wtm_at "kk"; exact hR _ (fin hgg (by assumption))
      · subst p0
        have hT : HasTy g' (.ref y) (.inst 197) := ⟨_, _, rfl, hy.keeps hgg⟩
        wtm_at "r7"
        refine go_false (by simpa using j0) ?_
        refine go_false (by rfl) ?_
        wtm_at "r7"
        refine l_item (St.isList (by assumption) (by with_reducible wtm_at "mem")) (Int.natCast_nonneg _) (n63 i3 (by rfl)) (by rw [Int.toNat_natCast]; exact hzj) ?_ (by wtm_at "rf")
        wtm_at "r7"
        refine go_true (by rw [← hj]; rfl) ?_
        wtm_at "r7"
        refine e_and2 ?_
        wtm_at "r7"
        refine go_true (by rfl) ?_
        refine e_cmp ?_ (by wtm_at "rf")
        wtm_at "r7"
        refine i_get (W.keeps (St.keep (by assumption))) (by assumption) ((hy.keeps hgg).keeps (St.keep (by assumption))) rfl (by kernel_rfl) (by kernel_rfl) (attr := none) (by kernel_rfl) rfl rfl fun _ _ => ?_
        wtm_at "r7"
        refine encodings_spec rm' (dle (by assumption) (by rfl)) (W.keeps (St.keep (by assumption))) fun s' q qs N hq => ?_
        have S7 := St.newL (by assumption) N
        clear N
        show wpAny _ _ (eval _ _) _ _ _
        wtm_at "r7"
        obtain ⟨tg, hg7⟩ := hq.get hDw
        refine l_item (St.isList (by assumption) (by with_reducible wtm_at "mem")) (Int.natCast_nonneg _) (n63 i3 (by rfl)) (by rw [Int.toNat_natCast]; exact hg7) ?_ (by wtm_at "rf")
        wtm_at "r7"
        rw [beq_self_eq_true]
        wtm_at "kk"; exact hR _ (fin hgg (by assumption))
      · have hT : HasTy g' (.ref Dd) .dict := dic_ty (hDd.keeps hgg)
        have hjn : ¬ zj = 0 := fun h => p0 (List.eq_nil_of_length_eq_zero (hj.trans h))
        have hy' := hy.keeps hgg
        have hDd' := hDd.keeps hgg
        have hE := encD_of hkf
        have hvt : valueAt kf (Str.ofString "Type") = some (.ref y) := by
          rcases hkf with ⟨_, rfl⟩ | ⟨_, y', u, rfl, _⟩ <;> simp [valueAt, List.find?_cons]
        refine x_step (wpAny_mono (Q := fun f s' => f = .next ∧ St s g' [(sl, .lst svs), (L + 1, .cell (some (.ref nl))), (L, .ns [(Str.ofString "best", .int (j : Int) tj), (Str.ofString "sizes", .ref sl), (Str.ofString "dues", .ref dl), (Str.ofString "found", .ref Dd), (Str.ofString "bases", .ref bl)])] s') (x_if ?_) (fun f s' ⟨e, S5⟩ => ⟨e, ?_⟩) (fun _ _ x => x))
        · wtm_at "r7"
          by_cases q : j = 0
          · refine go_true (by rw [q]; rfl) ?_
            wtm_at "r7"
            refine l_item (St.isList (by assumption) (by with_reducible wtm_at "mem")) (by decide) (by decide) hz0 ?_ (by wtm_at "rf")
            wtm_at "r7"
            refine go_false (by rw [e0 q]; simpa using hjn) ?_
            refine go_false (by rfl) ?_
            wtm_at "r7"
            exact ⟨rfl, by assumption⟩
          · refine go_false (by simpa using q) ?_
            refine go_false (by rfl) ?_
            wtm_at "r7"
            exact ⟨rfl, by assumption⟩
        · clear S4
          wtm_at "r7"
          refine l_item (St.isList (by assumption) (by with_reducible wtm_at "mem")) (Int.natCast_nonneg _) (n63 i3 (by rfl)) (by rw [Int.toNat_natCast]; exact hzj) ?_ (by wtm_at "rf")
          wtm_at "r7"
          refine go_false (by simpa using hjn) ?_
          wtm_at "r7"
          refine go_false (by rfl) ?_
          wtm_at "r7"
          refine d_sub (knd := PySem.strKind prg w) (by assumption) (hDd'.keeps (St.keep (by assumption))) (strKind_is _ _ _ _) hvt (fun s₃ S3 => ?_) (by wtm_at "rf")
          refine i_get (W.keeps (St.keep (by assumption))) (by assumption) (hy'.keeps (St.keep (by assumption))) rfl (by kernel_rfl) (by kernel_rfl) (attr := none) (by kernel_rfl) rfl rfl fun _ _ => ?_
          wtm_at "r7"
          refine go_false (by simp) ?_
          wtm_at "r7"
          refine d_sub (knd := PySem.strKind prg w) (by assumption) (hDd'.keeps (St.keep (by assumption))) (strKind_is _ _ _ _) hE.at_ (fun s₆ S6 => ?_) (by wtm_at "rf")
          wtm_at "r7"
          refine ⟨W.keeps (St.keep (by assumption)), shape_spec rm' (dle (by assumption) (by rfl)) (W.keeps (St.keep (by assumption))) (hl.at fun o e => St.keep (by assumption) _ _ (hgg _ _ e)) (hvs.mono fun v p h => (h.keeps hgg).keeps (St.keep (by assumption))) (by omega) fun s₇ p' ys hys N => ?_⟩
          have S7 := St.newL (by assumption) N
          clear N S3 S5 S6
          show wpAny _ _ (eval _ _) _ _ _
          wtm_at "r7"
          refine l_item (hdl.at fun o e => St.keep (by assumption) _ _ e) (Int.natCast_nonneg _) (n63 i3 (by rfl)) (by rw [Int.toNat_natCast]; exact hpj) ?_ (by wtm_at "rf")
          refine c_same_ne rm' (dle (by assumption) (by rfl)) (reads_parts (St.isList (by assumption) (by with_reducible wtm_at "mem")) hys) (reads_parts (hlj.at fun o e => St.keep (by assumption) _ _ e) hqj) (shaped_parts okj) ?_
          wtm_at "r7"
          refine go_false (by rfl) ?_
          wtm_at "r7"
          have few : kf.length < 64 := by have := hE.few; omega
          by_cases q : j = 0
          · have hk : kf.map (·.1) = [Str.ofString "Type", Str.ofString "Differences"] := by
              rcases hkf with ⟨_, rfl⟩ | ⟨h, _⟩
              · rfl
              · exact absurd q h
            refine go_true (by rw [q]; rfl) ?_
            wtm_at "r7"
            refine e_cmp ?_ (by wtm_at "rf")
            wtm_at "r7"
            refine d_sorted rm'.handled (by assumption) (hDd'.keeps (St.keep (by assumption))) few fun lq vq xq s₈ S8 hq1 hq2 hq3 => ?_
            rw [hk] at hq2
            have hq4 := sorted_2 hq2 hq3
            subst hq4
            wtm_at "r7"
            refine e_list (k := s) (g := g') ?_
            wtm_at "r7"
            wtm_at "kk"; refine ⟨_, by assumption, Nat.le_of_ble_eq_true (by rfl), fun l2 s₉ S9 => ?_⟩
            refine c_same rm' (dle (by assumption) (by rfl)) (reads_strs (S9.isList (by with_reducible wtm_at "mem")) hq1) (reads_strs (S9.isList (.head _)) (.cons (.cons .nil))) (shaped_strs okWords.1) ?_
            wtm_at "kk"; exact hR _ (fin hgg S9)
          · have hk : kf.map (·.1) = [Str.ofString "Type", Str.ofString "BaseEncoding", Str.ofString "Differences"] ∧ ∃ y' u, valueAt kf (Str.ofString "BaseEncoding") = some (.ref y') ∧ InstH g y' 197 [(Str.ofString "text", .str (encW j) u)] := by
              rcases hkf with ⟨h, _⟩ | ⟨_, y', u, rfl, hy2⟩
              · exact absurd h q
              · have n2 : Str.ofString "Type" ≠ Str.ofString "BaseEncoding" := by decide +kernel
                exact ⟨rfl, y', u, by simp [valueAt, List.find?_cons, n2], hy2⟩
            obtain ⟨hk, y', u, hvb, hy2⟩ := hk
            have hy3 := hy2.keeps hgg
            refine go_false (by simpa using q) ?_
            wtm_at "r7"
            refine e_and2 ?_
            refine e_cmp ?_ (by wtm_at "rf")
            wtm_at "r7"
            refine d_sorted rm'.handled (by assumption) (hDd'.keeps (St.keep (by assumption))) few fun lq vq xq s₈ S8 hq1 hq2 hq3 => ?_
            rw [hk] at hq2
            have hq4 := sorted_3 hq2 hq3
            subst hq4
            wtm_at "r7"
            refine e_list (k := s) (g := g') ?_
            wtm_at "r7"
            wtm_at "kk"; refine ⟨_, by assumption, Nat.le_of_ble_eq_true (by rfl), fun l2 s₉ S9 => ?_⟩
            refine c_same rm' (dle (by assumption) (by rfl)) (reads_strs (S9.isList (by with_reducible wtm_at "mem")) hq1) (reads_strs (S9.isList (.head _)) (.cons (.cons (.cons .nil)))) (shaped_strs okWords.2) ?_
            clear S8
            wtm_at "r7"
            refine e_cmp ?_ (by wtm_at "rf")
            wtm_at "r7"
            refine d_sub (knd := PySem.strKind prg w) (by assumption) (hDd'.keeps (St.keep (by assumption))) (strKind_is _ _ _ _) hvb (fun s10 S10 => ?_) (by wtm_at "rf")
            refine i_get (W.keeps (St.keep (by assumption))) (by assumption) (hy3.keeps (St.keep (by assumption))) rfl (by kernel_rfl) (by kernel_rfl) (attr := none) (by kernel_rfl) rfl rfl fun _ _ => ?_
            wtm_at "r7"
            refine encodings_spec rm' (dle (by assumption) (by rfl)) (W.keeps (St.keep (by assumption))) fun s' q qs N hq => ?_
            have S7 := St.newL (by assumption) N
            clear N
            show wpAny _ _ (eval _ _) _ _ _
            wtm_at "r7"
            obtain ⟨tg, hg7⟩ := hq.get hDw
            refine l_item (St.isList (by assumption) (by with_reducible wtm_at "mem")) (Int.natCast_nonneg _) (n63 i3 (by rfl)) (by rw [Int.toNat_natCast]; exact hg7) ?_ (by wtm_at "rf")
            wtm_at "r7"
            rw [beq_self_eq_true]
            wtm_at "kk"; exact hR _ (fin hgg (by assumption))
end
theorem law_spec : LawSpec := by
  intro w s l vs ns W hgen hl hi hz
  refine fn_enter (d := 0) (binds := [(Str.ofString "script", .ref l)]) [] W Room.caller (by rfl) (by decide +kernel) (BindsTo.of_eq (by kernel_rfl)) (by kernel_rfl) (fun _ hp => nomatch hp) .nil W (fun g L s₁ env A' hg W S fe rm' hee KK hKK => ?_)
  have frA : FrA A' [L] := by rw [hee.2]; exact FrA.caller.deeper fe.kind (by rw [hee.1])
  have stk : ∀ {lb : List (Str × Value)} {n : Led}, (L, .ns lb) ∈ n → Stk A' env n := fun {lb n} hm => by
    have k1 := fe.kind
    have k2 : env.frame = some L := by rw [hee.1]
    rw [hee.2]
    exact Stk.of FrA.caller k1 k2 hm (slotFree_ns _) fun a ha => nomatch ha
  clear hee
  generalize (fun (e : Value) (s' : Shared) => wpAny (Mo w) A' (leaving env e) (fun _ s'' => (Except.error e : Result) = .ok (.ret (.bool true)) ∧ (∀ b o, s.heap.get? b = some o → s''.heap.get? b = some o) ∧ s''.os = s.os ∧ s''.gens = #[]) (fun e' s'' => (Except.error e' : Result) = .ok (.ret (.bool true)) ∧ (∀ b o, s.heap.get? b = some o → s''.heap.get? b = some o) ∧ s''.os = s.os ∧ s''.gens = #[]) s') = E'
  replace hg : g = s.heap := hg
  have fin : ∀ {g' : Heap} {n' : Led} {s' : Shared}, (∀ b o, g.get? b = some o → g'.get? b = some o) → St s g' n' s' → (∀ b o, s.heap.get? b = some o → s'.heap.get? b = some o) ∧ s'.os = s.os ∧ s'.gens = #[] := fun hk S => ⟨fun b o e => S.keep _ _ (hk _ _ (hg ▸ e)), S.os, S.gens.trans hgen⟩
  rw [← hg] at hl
  have lz : vs.length ≤ 63 := by rw [hi.length]; exact hz
  wtm_at "r8"
  refine ⟨W.keeps S.keep, pot_spec rm' (Nat.le_of_ble_eq_true (by rfl)) (W.keeps S.keep) (hl.at fun o e => S.keep _ o e) hi lz fun s₂ P C hn T => ?_⟩
  have S2 : St s g (lawN P C L 0 [(Str.ofString "script", .ref l)] []) s₂ := S.more T
  have nPC : [P, C].Nodup := by simpa using hn
  clear T S hl hi lz hz hgen
  show wpAny _ _ (storeName _ _ _) _ _ _
  wtm_at "r8"
  rename_i S3
  clear S2
  refine x_step (wpAny_mono (x_comp (k := s) (E := E') (Q := fun f s' => f = .next ∧ ∃ g' bl, (∀ b o, g.get? b = some o → g'.get? b = some o) ∧ BasesH g' bl ∧ St s g' (lawN P C L 0 [(Str.ofString "bases", .ref bl), (Str.ofString "pot", .ref P), (Str.ofString "script", .ref l)] []) s') fe (swaps_comp fe (by kernel_rfl)) (cl' := []) (by rfl) (by decide +kernel) (by decide +kernel) (by decide +kernel) (by decide +kernel) ?_ (fun _ => by wtm_at "rf")) (fun f s' ⟨e, g1, bl, k1, hB, S4⟩ => ⟨e, ?_⟩) (fun _ _ x => x))
  · wtm_at "r8"
    refine encodings_spec rm' (Nat.le_of_ble_eq_true (by rfl)) (W.keeps S3.keep) fun s₄ q qs N hq => ?_
    obtain ⟨g', hgg, hlq, S5⟩ := (S3.newL N).freeze
    have W₂ : Wld w g' := W.keeps hgg
    have lq : qs.length = 3 := hq.length
    refine p_list S5 hlq fun I s₅ S6 => ?_
    refine ⟨g', I, qs.length, _, _, _, fun i ys n => ∃ Y, n = lawN P C L 0 [(Str.ofString "pot", .ref P), (Str.ofString "script", .ref l)] Y ∧ ys.length = i ∧ ∀ h, Holds Y h → ∀ (j : Nat) (v : Value), ys[j]? = some v → ∃ p ps, v = .ref p ∧ h.IsList p ps.toArray ∧ Strs ps (baseAt j), rfl, It.list rm'.handled hlq I, by rw [lq]; wtm_at "sz", S6, ⟨[], rfl, rfl, fun h H j v e => by simp at e⟩, fun i ys n h => h.elim fun _ h => h.2.1, fun s Q E h hQ => self_list (l := q) s Q E h hQ, ?_, ?_⟩
    · rintro C1 acc cenv i v1 ys n₁ s₁ E₂ hi hv ⟨Y, rfl, hyl, hy⟩ fe' S₁
      intro KK hKK
      clear fe S3 S5 S6
      obtain ⟨x, tx, hx, rfl⟩ := hq.back hv
      obtain ⟨i3, rfl⟩ := encW_at hx
      have hb := encW_base i3
      wtm_at "r8"
      refine ⟨W₂.keeps S₁.keep, base_spec baseOk [] (.inl ⟨by rw [hb]; rfl, rfl⟩) rm' (Nat.le_of_ble_eq_true (by rfl)) (W₂.keeps S₁.keep) (W₂.keeps S₁.keep) (fun zs s' p ps e N hp => ?_) fun e => by rw [hb] at e; cases e⟩
      rw [hb] at e
      cases e
      have S7 := (S₁.newL N).perm (List.perm_middle (l₁ := [_, _, _, _, _, _]))
      wtm_at "kk"; refine ⟨_, ⟨(p, .lst ps) :: Y, rfl, by rw [List.length_append, hyl]; rfl, fun h H j v e => ?_⟩, S7⟩
      rcases getSnoc e with e | ⟨rfl, rfl⟩
      · exact hy h (H.mono fun p hp => .tail _ hp) j v e
      · exact ⟨p, ps, rfl, H.list (.head _), by rw [hyl]; exact hp⟩
    · rintro C1 acc ys n₁ s₁ ⟨Y, rfl, hyl, hy⟩ S₁
      clear S3 S5 S6
      wtm_at "r8"
      wtm_at "kk"; refine ⟨_, by assumption, fun s₃ S₃ => ⟨rfl, ?_⟩⟩
      have S4 : St s g' (((acc, .lst ys) :: Y) ++ lawN P C L 0 [(Str.ofString "bases", .ref acc), (Str.ofString "pot", .ref P), (Str.ofString "script", .ref l)] []) s₃ := S₃.perm (.cons _ (List.perm_append_comm (l₁ := Y) (l₂ := [(P, _), (C, _), (L, _)])))
      obtain ⟨g2, h2, S5, H⟩ := S4.freezeAll
      have hy2 := hy g2 (H.mono fun p hp => .tail _ hp)
      obtain ⟨bs, rfl⟩ := refs_of fun j v e => let ⟨p, _, h, _⟩ := hy2 j v e; ⟨p, h⟩
      refine ⟨g2, acc, fun b o e => h2 _ _ (hgg _ _ e), ⟨bs, H.list (.head _), ?_, fun j b e => ?_⟩, S5⟩
      · rw [List.length_map] at hyl; rw [hyl, lq]
      · obtain ⟨p, ps, h3, h4, h5⟩ := hy2 j (.ref b) (by rw [List.getElem?_map, e]; rfl)
        cases h3
        exact ⟨ps, h4, h5⟩
  · replace W : Wld w g1 := W.keeps k1
    clear S3
    have pm : ∀ {m : Nat} {lb : List (Str × Value)} {r : Led} (p : Addr × Desc), p ∈ potX P C m → p ∈ lawN P C L m lb r := fun {m lb r} p hp => (List.mem_append_left ((L, Desc.ns lb) :: r) hp : p ∈ potX P C m ++ (L, Desc.ns lb) :: r)
    obtain ⟨bs, hbl, hbn, hbs⟩ := hB.all
    wtm_at "r8"
    rename_i sA vA tA SA a0 a1
    obtain ⟨b, hb⟩ : ∃ b, bs[vA.toNat]? = some b := ⟨_, List.getElem?_eq_getElem (by omega)⟩
    obtain ⟨ws, hw1, hw2⟩ := hbs _ b hb
    refine l_item (hbl.at fun o e => SA.keep _ o e) (by omega) (by omega) (x := .ref b) (by rw [List.getElem?_map, hb]; rfl) ?_ (by wtm_at "rf")
    clear S4
    wtm_at "r8"
    have hide := SA.hide (X := potX P C 1) pm
    refine ⟨W.keeps SA.keep, turned_spec rm' (Nat.le_of_ble_eq_true (by rfl)) (by omega) (W.keeps SA.keep) (fun p hp => (SA.led p (pm p hp)).1) hn (W.keeps hide) (hw1.at fun o e => hide _ _ e) hw2 (baseAtL (by omega)) fun s8 nl nvs xs T hxs hxl hdr => ?_⟩
    have hxG : ∀ x ∈ xs, G x := drawnG hdr (baseAtG (by omega))
    have S8 : St s g1 ((nl, .lst nvs) :: lawN P C L 29 [(Str.ofString "bases", .ref bl), (Str.ofString "pot", .ref P), (Str.ofString "script", .ref l)] []) s8 := SA.moreU (X0 := potX P C 1) (Y := [(nl, .lst nvs)]) (X := potX P C (1 + 28)) T rfl
    obtain ⟨g2, k2, hnl, S9⟩ := S8.freeze
    clear SA T S8 hide hdr hbs hbl hw1 hw2
    replace k1 : ∀ b o, g.get? b = some o → g2.get? b = some o := fun b o e => k2 _ _ (k1 _ _ e)
    replace hB := hB.keeps k2
    replace W := W.keeps k2
    clear k2 hb
    show wpAny _ _ (storeName _ _ _) _ _ _
    obtain ⟨bs, hbl, hbn, hbs⟩ := hB.all
    wtm_at "r8"
    rename_i sB vB tB SB b0 b1
    obtain ⟨bb, hb⟩ : ∃ b, bs[vB.toNat]? = some b := ⟨_, List.getElem?_eq_getElem (by omega)⟩
    obtain ⟨wvs, hwl, hws⟩ := hbs _ bb hb
    refine l_item (hbl.at fun o e => SB.keep _ o e) (by omega) (by omega) (x := .ref bb) (by rw [List.getElem?_map, hb]; rfl) ?_ (by wtm_at "rf")
    have hj3 : vB.toNat < 3 := by omega
    clear S9 hb hbs hbl
    generalize vB.toNat = jb at *
    have hyG := baseAtG hj3
    have hyl := baseAtL hj3
    generalize baseAt jb = ys at *
    have lxv := hxs.length
    have lyv := hws.length
    wtm_at "r8"
    rename_i S10
    clear SB
    wtm_at "r8"
    refine e_list (k := s) (g := g2) ?_
    wtm_at "r8"
    refine l_copy S10 (hnl.at fun o e => S10.keep _ o e) (by wtm_at "sz") fun c1 s11 S11 => ?_
    clear S10
    wtm_at "r8"
    refine l_copy S11 (hwl.at fun o e => S11.keep _ o e) (by wtm_at "sz") fun c2 s12 S12 => ?_
    clear S11
    wtm_at "r8"
    wtm_at "kk"; refine ⟨_, S12, Nat.le_of_ble_eq_true (by rfl), fun hl s13 S13 => ?_⟩
    clear S12
    obtain ⟨g3, k3, S14, H3⟩ := St.freezeAll (X := [(hl, .lst [.ref c1, .ref c2]), (c2, .lst wvs), (c1, .lst nvs)]) S13
    have hhl := H3.list (a := hl) (.head _)
    have hc1 := H3.list (a := c1) (.tail _ (.tail _ (.head _)))
    have hc2 := H3.list (a := c2) (.tail _ (.head _))
    replace k1 : ∀ b o, g.get? b = some o → g3.get? b = some o := fun b o e => k3 _ _ (k1 _ _ e)
    replace hB := hB.keeps k3
    replace W := W.keeps k3
    replace hnl : g3.IsList nl nvs.toArray := hnl.at fun o e => k3 _ _ e
    replace hwl : g3.IsList bb wvs.toArray := hwl.at fun o e => k3 _ _ e
    clear k3 S13 H3
    wtm_at "r8"
    rename_i S15
    clear S14
    refine ⟨W.keeps S15.keep, diff_spec rm' (Nat.le_of_ble_eq_true (by rfl)) (W.keeps S15.keep) (hnl.at fun o e => S15.keep _ _ e) (hwl.at fun o e => S15.keep _ _ e) hxs hws hxl hyl fun s16 pl pvs news hpn T => ?_⟩
    obtain ⟨g4, k4, S16, H4⟩ := (S15.more T).freezeAll
    have hpl := H4.list (a := pl) (.head _)
    have hpp := H4.parts (fun q hq => .tail _ hq) hpn
    have lpl := hpp.length
    have ldl := diffL_len xs ys
    have hdu := dueL_eq xs ys
    have hwd := withDiff_diffL hxl hyl (plainG hxG)
    have hdo := diffL_ok (okG hxG) ys
    generalize diffL xs ys = D at *
    replace k1 : ∀ b o, g.get? b = some o → g4.get? b = some o := fun b o e => k4 _ _ (k1 _ _ e)
    replace hB := hB.keeps k4
    replace W := W.keeps k4
    replace hnl : g4.IsList nl nvs.toArray := hnl.at fun o e => k4 _ _ e
    replace hwl : g4.IsList bb wvs.toArray := hwl.at fun o e => k4 _ _ e
    replace hhl : g4.IsList hl _ := hhl.at fun o e => k4 _ _ e
    replace hc1 : g4.IsList c1 nvs.toArray := hc1.at fun o e => k4 _ _ e
    replace hc2 : g4.IsList c2 wvs.toArray := hc2.at fun o e => k4 _ _ e
    clear k4 S15 H4 T hpn
    show wpAny _ _ (storeName _ _ _) _ _ _
    wtm_at "r8"
    rename_i S17
    clear S16
    refine ⟨W.keeps S17.keep, shape_spec rm' (Nat.le_of_ble_eq_true (by rfl)) (W.keeps S17.keep) (hpl.at fun o e => S17.keep _ _ e) (hpp.mono fun v p h => h.keeps S17.keep) (by omega) fun s18 q1 ys1 hs1 N => ?_⟩
    have S18 := S17.newL N
    clear N S17
    show wpAny _ _ (eval _ _) _ _ _
    wtm_at "r8"
    refine ⟨W.keeps S18.keep, due_spec rm' (Nat.le_of_ble_eq_true (by rfl)) (W.keeps S18.keep) (hnl.at fun o e => S18.keep _ _ e) (hwl.at fun o e => S18.keep _ _ e) hxs hws hxl hyl fun s19 q2 ys2 hs2 N => ?_⟩
    rw [hdu] at hs2
    have S19 := S18.newL N
    clear N S18
    show wpAny _ _ (compareOp _ _ _) _ _ _
    refine c_same_ne rm' (Nat.le_of_ble_eq_true (by rfl)) (reads_parts (S19.isList (by with_reducible wtm_at "mem")) hs1) (reads_parts (S19.isList (.head _)) hs2) (shaped_parts hdo) ?_
    wtm_at "r8"
    refine go_false (by rfl) ?_
    wtm_at "r8"
    refine ⟨W.keeps S19.keep, wd_spec [] (.inl ⟨by rw [hwd]; rfl, rfl⟩) rm' (Nat.le_of_ble_eq_true (by rfl)) (W.keeps S19.keep) (W.keeps S19.keep) (hwl.at fun o e => S19.keep _ _ e) hws hyl (hpl.at fun o e => S19.keep _ _ e) ((all2_all3 hpp).mono fun v p h => pvH.keeps h S19.keep) (by rw [List.length_map]; omega) (fun zs s20 p vs' e N hp => ?_) fun e => by rw [hwd] at e; cases e⟩
    rw [hwd] at e
    cases e
    have S20 := S19.newL N
    clear N S19
    show wpAny _ _ (eval _ _) _ _ _
    wtm_at "r8"
    refine c_same_ne rm' (Nat.le_of_ble_eq_true (by rfl)) (reads_strs (S20.isList (.head _)) hp) (reads_strs (hnl.at fun o e => S20.keep _ _ e) hxs) (shaped_strs (okG hxG)) ?_
    wtm_at "r8"
    refine go_false (by rfl) ?_
    wtm_at "r8"
    have S21 := S20.subl (n' := lawN _ _ _ _ _ _) (.cons _ (.cons _ (.cons _ (.refl _))))
    clear S20 hp hs1 hs2 hpp hpl hdu hwd hdo lpl ldl
    refine ⟨W.keeps S21.keep, written_spec baseOk rm' (Nat.le_of_ble_eq_true (by rfl)) (W.keeps S21.keep) (hnl.at fun o e => S21.keep _ _ e) hxs hxl fun s22 fv X T hFX => ?_⟩
    obtain ⟨g5, k5, S22, H5⟩ := (S21.more T).freezeAll
    have hF := hFX g5 H5
    replace k1 : ∀ b o, g.get? b = some o → g5.get? b = some o := fun b o e => k5 _ _ (k1 _ _ e)
    replace hB := hB.keeps k5
    replace W := W.keeps k5
    replace hnl : g5.IsList nl nvs.toArray := hnl.at fun o e => k5 _ _ e
    replace hwl : g5.IsList bb wvs.toArray := hwl.at fun o e => k5 _ _ e
    replace hhl : g5.IsList hl _ := hhl.at fun o e => k5 _ _ e
    replace hc1 : g5.IsList c1 nvs.toArray := hc1.at fun o e => k5 _ _ e
    replace hc2 : g5.IsList c2 wvs.toArray := hc2.at fun o e => k5 _ _ e
    clear k5 S21 H5 T hFX
    show wpAny _ _ (storeName _ _ _) _ _ _
    wtm_at "r8"
    rename_i S23
    clear S22
    refine ⟨W.keeps S23.keep, best_spec rm' (Nat.le_of_ble_eq_true (by rfl)) (W.keeps S23.keep) (hnl.at fun o e => S23.keep _ _ e) hxs hxl (okG hxG) (fun j hj => baseAtL hj) (hB.keeps S23.keep) (hF.keeps S23.keep) fun s24 Ef => ?_⟩
    have S24 := S23.eff Ef fun _ h => nomatch h
    clear Ef S23
    have hj3' := bestTo_lt xs 2
    have ld2 := diffL_len xs (baseAt (bestTo xs 3))
    have hev : encOf (evOf (bestTo xs 3) (diffL xs (baseAt (bestTo xs 3)))) = some xs := (encOf_evOf hj3' _).trans (withDiff_diffL hxl (baseAtL hj3') (plainG hxG))
    generalize diffL xs (baseAt (bestTo xs 3)) = D2 at *
    generalize bestTo xs 3 = j2 at *
    show wpAny _ _ (truthy _) _ _ _
    wtm_at "r8"
    refine k_cls (by kernel_rfl) ?_ (by wtm_at "rf") (by wtm_at "rf")
    wtm_at "r8"
    refine e_dict0 W S24 (PySem.intKind prg w) fun Tt s25 loT S25 => ?_
    clear S24
    wtm_at "r8"
    refine e_dict0 W S25 (PySem.strKind prg w) fun T2 s26 lo2 S26 => ?_
    clear S25
    wtm_at "r8"
    refine ⟨W.keeps S26.keep, lookup_new rm' (Nat.le_of_ble_eq_true (by rfl)) (W.keeps S26.keep) fun s27 x dx N => ?_⟩
    have S27 := S26.newI N
    clear N S26
    obtain ⟨g6, k6, S28, H6⟩ := St.freezeAll (X := [(x, .obj (instObj 311 dx)), (dx, _), (T2, _)]) S27
    have hI := H6.inst (.head _) (.tail _ (.head _))
    replace k1 : ∀ b o, g.get? b = some o → g6.get? b = some o := fun b o e => k6 _ _ (k1 _ _ e)
    replace hB := hB.keeps k6
    replace W := W.keeps k6
    replace hF := hF.keeps k6
    replace hnl : g6.IsList nl nvs.toArray := hnl.at fun o e => k6 _ _ e
    replace hwl : g6.IsList bb wvs.toArray := hwl.at fun o e => k6 _ _ e
    replace hhl : g6.IsList hl _ := hhl.at fun o e => k6 _ _ e
    replace hc1 : g6.IsList c1 nvs.toArray := hc1.at fun o e => k6 _ _ e
    replace hc2 : g6.IsList c2 wvs.toArray := hc2.at fun o e => k6 _ _ e
    clear k6 H6 S27
    show wpAny _ _ (storeName _ _ _) _ _ _
    wtm_at "r8"
    rename_i S29
    clear S28
    have S30 : St s g6 (layX w P C Tt 30 [] ++ [(L, .ns [(Str.ofString "shelf", .ref x), (Str.ofString "found", fv), (Str.ofString "parts", .ref pl), (Str.ofString "held", .ref hl), (Str.ofString "base", .ref bb), (Str.ofString "names", .ref nl), (Str.ofString "bases", .ref bl), (Str.ofString "pot", .ref P), (Str.ofString "script", .ref l)])]) _ := S29.perm (List.perm_append_comm_assoc [(P, _), (C, _)] [(Tt, _)] [(L, _)])
    clear S29
    have nd3 : [P, C, Tt].Nodup := by
      have := S30.nd
      simp only [List.map_append, List.map_cons, List.nodup_append] at this
      exact this.1
    have hide := S30.hide (X := layX w P C Tt 30 []) fun p hp => List.mem_append_left _ hp
    refine ⟨W.keeps S30.keep, font_spec (g₀ := g6) rm' (Nat.le_of_ble_eq_true (by rfl)) (by omega) (W.keeps S30.keep) (fun p hp => (S30.led p (List.mem_append_left _ hp)).1) nd3 (W.keeps hide) (hI.keeps hide) loT (by rfl) (Nat.zero_le _) hide hF ld2 fun s31 F nm u kvs' Y m' loF T hm' hY => ?_⟩
    have S31 := (S30.moreU (X0 := layX w P C Tt 30 []) (Y := (F, _) :: Y) (X := layX w P C Tt m' kvs') (T.perm (.cons _ (List.perm_append_comm (l₁ := Y) (l₂ := layX w P C Tt m' kvs')))) rfl).perm (n' := ((F, _) :: (Tt, dcD (PySem.intKind prg w) kvs') :: Y) ++ lawN P C L m' _ []) (.cons _ (perm4 Y _ _ _ _))
    obtain ⟨g7, k7, S32, H7⟩ := S31.freezeAll
    have hT := H7.dic loT (.tail _ (.head _))
    have hFd := H7.dic loF (.head _)
    obtain ⟨u', hu, he⟩ := hY g7 (H7.mono fun p hp => .tail _ (.tail _ hp)) k7
    replace k1 : ∀ b o, g.get? b = some o → g7.get? b = some o := fun b o e => k7 _ _ (k1 _ _ e)
    replace hB := hB.keeps k7
    replace W := W.keeps k7
    replace hI := hI.keeps k7
    replace hnl : g7.IsList nl nvs.toArray := hnl.at fun o e => k7 _ _ e
    replace hwl : g7.IsList bb wvs.toArray := hwl.at fun o e => k7 _ _ e
    replace hhl : g7.IsList hl _ := hhl.at fun o e => k7 _ _ e
    replace hc1 : g7.IsList c1 nvs.toArray := hc1.at fun o e => k7 _ _ e
    replace hc2 : g7.IsList c2 wvs.toArray := hc2.at fun o e => k7 _ _ e
    clear k7 H7 S30 S31 T hY hF hide
    show wpAny _ _ (spliced _) _ _ _
    wtm_at "r8"
    refine ⟨W.keeps S32.keep, enc_spec baseOk [] (.inl ⟨by rw [hev]; rfl, rfl⟩) rm' (Nat.le_of_ble_eq_true (by rfl)) (W.keeps S32.keep) (W.keeps S32.keep) (hI.keeps S32.keep) (hT.keeps S32.keep) (hFd.keeps S32.keep) (u := u') (ev := evOf j2 D2) (by rw [vaE]; exact hu.keeps S32.keep) (he.keeps S32.keep) (fun zs s34 p ps e N hp => ?_) fun e => by rw [hev] at e; cases e⟩
    rw [hev] at e
    cases e
    have S34 := S32.newL N
    clear N S32 hu he hFd hev
    show wpAny _ _ (eval _ _) _ _ _
    wtm_at "r8"
    refine c_same_ne rm' (Nat.le_of_ble_eq_true (by rfl)) (reads_strs (S34.isList (.head _)) hp) (reads_strs (hnl.at fun o e => S34.keep _ _ e) hxs) (shaped_strs (okG hxG)) ?_
    wtm_at "r8"
    have S35 := S34.drop
    clear S34 hp
    have hide := S35.hide (X := potX P C m') pm
    refine ⟨W.keeps S35.keep, bare_spec baseOk (fun j hj => okG (baseAtG hj)) rm' (Nat.le_of_ble_eq_true (by rfl)) (by omega) (W.keeps S35.keep) (fun p hp => (S35.led p (pm p hp)).1) hn (W.keeps hide) (hI.keeps hide) (hT.keeps hide) (hB.keeps hide) fun s36 T => ?_⟩
    have S36 := S35.moreU (X0 := potX P C m') (Y := []) (X := potX P C (m' + 2)) T rfl
    replace S36 : St s g7 (lawN P C L (m' + 2) _ []) s36 := S36
    clear S35 T hide
    show wpAny _ _ (truthy _) _ _ _
    wtm_at "r8"
    have hide := S36.hide (X := potX P C (m' + 2)) pm
    refine ⟨W.keeps S36.keep, parts_spec rm' (Nat.le_of_ble_eq_true (by rfl)) (by omega) (W.keeps S36.keep) (fun p hp => (S36.led p (pm p hp)).1) hn (W.keeps hide) fun s37 dl dvs dps Y' T hY hdn hgo => ?_⟩
    obtain ⟨g8, k8, S38, H8⟩ := (S36.moreU (X0 := potX P C (m' + 2)) (Y := (dl, .lst dvs) :: Y') (X := potX P C (m' + 2 + 15)) T rfl).freezeAll
    replace S38 : St s g8 (lawN P C L (m' + 2 + 15) _ []) s37 := S38
    have hdl := H8.list (a := dl) (.head _)
    have hdp := hY g8 (H8.mono fun p hp => .tail _ hp)
    replace k1 : ∀ b o, g.get? b = some o → g8.get? b = some o := fun b o e => k8 _ _ (k1 _ _ e)
    replace W := W.keeps k8
    replace hI := hI.keeps k8
    replace hT := hT.keeps k8
    replace hnl : g8.IsList nl nvs.toArray := hnl.at fun o e => k8 _ _ e
    replace hwl : g8.IsList bb wvs.toArray := hwl.at fun o e => k8 _ _ e
    replace hhl : g8.IsList hl _ := hhl.at fun o e => k8 _ _ e
    replace hc1 : g8.IsList c1 nvs.toArray := hc1.at fun o e => k8 _ _ e
    replace hc2 : g8.IsList c2 wvs.toArray := hc2.at fun o e => k8 _ _ e
    clear k8 H8 S36 T hY hide hB
    show wpAny _ _ (storeName _ _ _) _ _ _
    wtm_at "r8"
    rename_i S39
    clear S38
    have hlb : ∃ lb, lb = [(Str.ofString "drawn", .ref dl), (Str.ofString "shelf", .ref x), (Str.ofString "found", fv), (Str.ofString "parts", .ref pl), (Str.ofString "held", .ref hl), (Str.ofString "base", .ref bb), (Str.ofString "names", .ref nl), (Str.ofString "bases", .ref bl), (Str.ofString "pot", .ref P), (Str.ofString "script", .ref l)] := ⟨_, rfl⟩
    have mm : m' + 2 + 15 ≤ 700 := by omega
    generalize m' + 2 + 15 = m3 at *
    have hold : ∀ {lb : List (Str × Value)} {r : Led}, Hold s.heap L [] (lawN P C L m3 lb r) := fun {lb r} => ⟨⟨.ns lb, .tail _ (.tail _ (.head _)), slotFree_ns _⟩, fun a h => nomatch h⟩
    have shd : SeqAt.shaped (dataOf (withDiff ys dps)) = true := by
      cases hw : withDiff ys dps with
      | none => rfl
      | some zs => exact shaped_strs (withDiff_ok hgo (okG hyG) hw)
    refine x_step (wpAny_mono (Q := fun f s' => f = .next ∧ ∃ av g9, (∀ b o, g8.get? b = some o → g9.get? b = some o) ∧ St s g9 (lawN P C L m3 ((Str.ofString "answer", av) :: [(Str.ofString "drawn", .ref dl), (Str.ofString "shelf", .ref x), (Str.ofString "found", fv), (Str.ofString "parts", .ref pl), (Str.ofString "held", .ref hl), (Str.ofString "base", .ref bb), (Str.ofString "names", .ref nl), (Str.ofString "bases", .ref bl), (Str.ofString "pot", .ref P), (Str.ofString "script", .ref l)]) []) s' ∧ ∀ h : Heap, (∀ b o, g9.get? b = some o → h.get? b = some o) → ∃ as, Reads h av (dataOf (withDiff ys dps)) as) (try_stP (k := s) (g := g8) (n := lawN P C L m3 [(Str.ofString "drawn", .ref dl), (Str.ofString "shelf", .ref x), (Str.ofString "found", fv), (Str.ofString "parts", .ref pl), (Str.ofString "held", .ref hl), (Str.ofString "base", .ref bb), (Str.ofString "names", .ref nl), (Str.ofString "bases", .ref bl), (Str.ofString "pot", .ref P), (Str.ofString "script", .ref l)] []) (withDiff ys dps = none) (stk (by wtm_at "mem")) W fe (by kernel_rfl) ?_ ?_) (fun f s' ⟨e, av, g9, k9, S40, hav⟩ => ⟨e, ?_⟩) (fun _ _ x => x))
    · wtm_at "r8"
      have hide := S39.hideF (withDiff ys dps).isSome hold
      refine ⟨W.keeps S39.keep, wd_spec (fsOf (withDiff ys dps).isSome L []) (Mode.call _ S39 hold (by simp) fun q => frA) rm' (Nat.le_of_ble_eq_true (by rfl)) (W.keeps S39.keep) (W.keeps hide) (hwl.at fun o e => hide _ _ e) hws hyl (hdl.at fun o e => hide _ _ e) (hdp.mono fun v p h => h.keeps hide) (by omega) (fun zs s40 p vs' e N hp => ?_) fun e ex s40 r => ?_⟩
      · obtain ⟨g9, k9, hpl9, S40⟩ := (S39.newL N).freeze
        replace S40 : St s g9 (lawN P C L m3 [(Str.ofString "drawn", .ref dl), (Str.ofString "shelf", .ref x), (Str.ofString "found", fv), (Str.ofString "parts", .ref pl), (Str.ofString "held", .ref hl), (Str.ofString "base", .ref bb), (Str.ofString "names", .ref nl), (Str.ofString "bases", .ref bl), (Str.ofString "pot", .ref P), (Str.ofString "script", .ref l)] []) s40 := S40
        clear S39 N
        have W₂ : Wld w g9 := W.keeps k9
        show wpAny _ _ (storeName _ _ _) _ _ _
        wtm_at "q7"
        refine x_nil ⟨rfl, _, g9, k9, by assumption, fun h kh => ⟨[p], ?_⟩⟩
        rw [e]
        exact reads_strs (hpl9.at fun o e => kh _ _ e) hp
      · rw [e] at r
        exact ⟨e, (S39.raised r hold.all).flew⟩
    · rintro hw e s2 E₂ ⟨a, t, rfl, S2⟩
      replace S2 : St s g8 (lawN P C L m3 [(Str.ofString "drawn", .ref dl), (Str.ofString "shelf", .ref x), (Str.ofString "found", fv), (Str.ofString "parts", .ref pl), (Str.ofString "held", .ref hl), (Str.ofString "base", .ref bb), (Str.ofString "names", .ref nl), (Str.ofString "bases", .ref bl), (Str.ofString "pot", .ref P), (Str.ofString "script", .ref l)] []) s2 := S2.drop.drop
      clear S39
      wtm_at "r8"
      refine ⟨rfl, _, g8, fun _ _ e => e, by assumption, fun h kh => ⟨[], ?_⟩⟩
      rw [hw]
      exact .none
    · clear S39
      replace k1 : ∀ b o, g.get? b = some o → g9.get? b = some o := fun b o e => k9 _ _ (k1 _ _ e)
      replace W := W.keeps k9
      replace hI := hI.keeps k9
      replace hT := hT.keeps k9
      replace hnl : g9.IsList nl nvs.toArray := hnl.at fun o e => k9 _ _ e
      replace hwl : g9.IsList bb wvs.toArray := hwl.at fun o e => k9 _ _ e
      replace hhl : g9.IsList hl _ := hhl.at fun o e => k9 _ _ e
      replace hc1 : g9.IsList c1 nvs.toArray := hc1.at fun o e => k9 _ _ e
      replace hc2 : g9.IsList c2 wvs.toArray := hc2.at fun o e => k9 _ _ e
      replace hdl : g9.IsList dl dvs.toArray := hdl.at fun o e => k9 _ _ e
      replace hdp : All3 (pvH g9) dvs dps := hdp.mono fun v p h => h.keeps k9
      clear k9 hlb
      have hpw := plain_with hyl (plainG hyG) dps
      wtm_at "r8"
      refine ⟨W.keeps S40.keep, codeAny_mono (R := fun r s' => ∃ pv as, r = .ok (.ret pv) ∧ St s g9 (lawN P C L m3 ((Str.ofString "answer", av) :: [(Str.ofString "drawn", .ref dl), (Str.ofString "shelf", .ref x), (Str.ofString "found", fv), (Str.ofString "parts", .ref pl), (Str.ofString "held", .ref hl), (Str.ofString "base", .ref bb), (Str.ofString "names", .ref nl), (Str.ofString "bases", .ref bl), (Str.ofString "pot", .ref P), (Str.ofString "script", .ref l)]) []) s' ∧ Reads s'.heap pv (dataOf (withDiff ys dps)) as) (plain_spec rm' (Nat.le_of_ble_eq_true (by rfl)) (W.keeps S40.keep) (hwl.at fun o e => S40.keep _ _ e) hws hyl (hdl.at fun o e => S40.keep _ _ e) (hdp.mono fun v p h => h.keeps S40.keep) (by omega) (fun s41 e Ef => ?_) fun s41 p vs' zs e N hz => ?_) (fun r s41 ⟨pv, as, e, S41, hr⟩ => ?_)⟩
      · rw [hpw] at e
        exact ⟨.none, [], rfl, S40.eff Ef (fun _ h => nomatch h), by rw [e]; exact .none⟩
      · rw [hpw] at e
        have S41 := S40.newL N
        exact ⟨.ref p, _, rfl, S41.drop, by rw [e]; exact reads_strs (S41.isList (.head _)) hz⟩
      · subst e
        clear S40
        obtain ⟨as', ha⟩ := hav s41.heap S41.keep
        show wpAny _ _ (compareOp _ _ _) _ _ _
        refine c_same_ne rm' (Nat.le_of_ble_eq_true (by rfl)) ha hr shd ?_
        wtm_at "r8"
        refine go_false (by rfl) ?_
        wtm_at "r8"
        refine e_list (k := s) (g := g9) ?_
        wtm_at "r8"
        wtm_at "kk"; refine ⟨_, S41, Nat.le_of_ble_eq_true (by rfl), fun l2 s42 S42 => ?_⟩
        clear S41 hr ha hav
        wtm_at "r8"
        obtain ⟨as1, hr1⟩ := reads_two (h := s42.heap) (S42.isList (.head _)) (hnl.at fun o e => S42.keep _ _ e) (hwl.at fun o e => S42.keep _ _ e) hxs hws
        obtain ⟨as2, hr2⟩ := reads_two (h := s42.heap) (hhl.at fun o e => S42.keep _ _ e) (hc1.at fun o e => S42.keep _ _ e) (hc2.at fun o e => S42.keep _ _ e) hxs hws
        refine c_same_ne rm' (Nat.le_of_ble_eq_true (by rfl)) hr1 hr2 (shaped_two (okG hxG) (okG hyG)) ?_
        clear hr1 hr2
        wtm_at "r8"
        refine go_false (by rfl) ?_
        wtm_at "r8"
        clear hdl hdp hnl hwl hhl hc1 hc2 hxs hws lxv lyv shd hpw hgo hdn
        refine e_list (k := s) (g := g9) ?_
        wtm_at "r8"
        refine ⟨W.keeps (St.keep (by assumption)), name_new rm' (Nat.le_of_ble_eq_true (by rfl)) (W.keeps (St.keep (by assumption))) fun s43 n1 dn1 N => ?_⟩
        have S43 := St.newI (by assumption) N
        clear N S42
        show wpAny _ _ (spliced _) _ _ _
        wtm_at "r8"
        refine ⟨W.keeps (St.keep (by assumption)), name_new rm' (Nat.le_of_ble_eq_true (by rfl)) (W.keeps (St.keep (by assumption))) fun s44 n2 dn2 N => ?_⟩
        have S44 := St.newI (by assumption) N
        clear N S43
        show wpAny _ _ (spliced _) _ _ _
        wtm_at "r8"
        refine e_list (k := s) (g := g9) ?_
        wtm_at "r8"
        wtm_at "kk"; refine ⟨_, by assumption, Nat.le_of_ble_eq_true (by rfl), fun l1 s45 S45 => ?_⟩
        clear S44
        wtm_at "r8"
        refine k_cls (by kernel_rfl) ?_ (by wtm_at "rf") (by wtm_at "rf")
        wtm_at "r8"
        refine ⟨W.keeps (St.keep (by assumption)), string_new rm' (Nat.le_of_ble_eq_true (by rfl)) (W.keeps (St.keep (by assumption))) fun s46 st dst N => ?_⟩
        have S46 := St.newI (by assumption) N
        clear N S45
        show wpAny _ _ (spliced _) _ _ _
        wtm_at "r8"
        refine e_dict W S46 (PySem.strKind prg w) (by rfl) (by rfl) (by decide) (by decide) fun D3 s47 lo3 S47 => ?_
        clear S46
        refine p_cons ?_
        wtm_at "r8"
        refine p_nil ?_
        wtm_at "kk"; refine ⟨_, _, [(Str.ofString "Differences", .int 5 _)], by assumption, by with_reducible wtm_at "upd", ⟨strKind_is _ _ _ _, rfl, trivial⟩, fun s48 S48 => ?_⟩
        clear S47
        wtm_at "r8"
        refine e_dict W S48 (PySem.strKind prg w) (by rfl) (by rfl) (by decide) (by decide) fun D4 s49 lo4 S49 => ?_
        clear S48
        refine p_cons ?_
        wtm_at "r8"
        refine ⟨W.keeps (St.keep (by assumption)), name_new rm' (Nat.le_of_ble_eq_true (by rfl)) (W.keeps (St.keep (by assumption))) fun s50 n3 dn3 N => ?_⟩
        have S50 := St.newI (by assumption) N
        clear N S49
        show wpAny _ _ (evalPairs _) _ _ _
        refine p_nil ?_
        wtm_at "kk"; refine ⟨_, _, [(Str.ofString "BaseEncoding", .ref n3)], S50, by with_reducible wtm_at "upd", ⟨strKind_is _ _ _ _, rfl, trivial⟩, fun s51 S51 => ?_⟩
        clear S50
        wtm_at "r8"
        wtm_at "kk"; refine ⟨_, S51, Nat.le_of_ble_eq_true (by rfl), fun ol s52 S52 => ?_⟩
        clear S51
        obtain ⟨g10, k10, S53, H⟩ := St.freezeAll (X := [(ol, _), (n3, .obj (instObj 197 dn3)), (dn3, _), (D4, dcD (PySem.strKind prg w) [(Str.ofString "BaseEncoding", .ref n3)]), (D3, dcD (PySem.strKind prg w) [(Str.ofString "Differences", _)]), (st, .obj (instObj 219 dst)), (dst, _), (l1, _), (n2, .obj (instObj 197 dn2)), (dn2, _), (n1, .obj (instObj 197 dn1)), (dn1, _), (l2, _)]) S52
        clear S52
        have I1 := H.inst (x := n1) (dx := dn1) (by wtm_at "mem") (by wtm_at "mem")
        have I2 := H.inst (x := n2) (dx := dn2) (by wtm_at "mem") (by wtm_at "mem")
        have I3 := H.inst (x := n3) (dx := dn3) (by wtm_at "mem") (by wtm_at "mem")
        have I4 := H.inst (x := st) (dx := dst) (by wtm_at "mem") (by wtm_at "mem")
        obtain ⟨ovs, t5, hovs, hol⟩ : ∃ ovs t5, ovs = [Value.ref n1, .ref n2, .int 5 t5, .ref l1, .ref st, .ref D3, .ref D4] ∧ g10.IsList ol ovs.toArray := ⟨_, _, rfl, H.list (a := ol) (by wtm_at "mem")⟩
        have hl1 := H.list (a := l1) (by wtm_at "mem")
        have hD3 := H.dic (a := D3) lo3 (by wtm_at "mem")
        have hD4 := H.dic (a := D4) lo4 (by wtm_at "mem")
        have nN : NotRef g10 .none := ⟨.none, rfl, rfl, by decide⟩
        have nI : ∀ {i : Int} {t : Tok}, NotRef g10 (.int i t) := ⟨.int, ⟨_, _, rfl⟩, rfl, by decide⟩
        have hodd : ∀ i < 7, ∃ u ev, ovs[i]? = some u ∧ NotRef g10 u ∧ EncH w g10 kvs' u ev ∧ encOf ev = none := fun i hi => by
          subst hovs
          rcases lt7 hi with rfl | rfl | rfl | rfl | rfl | rfl | rfl
          · exact ⟨.ref n1, .name (Str.ofString "MacExpertEncoding"), rfl, ⟨.inst 197, ⟨_, _, rfl, I1⟩, by decide, by decide⟩, ⟨n1, _, rfl, I1⟩, enc_no1⟩
          · exact ⟨.ref n2, .name (Str.ofString ""), rfl, ⟨.inst 197, ⟨_, _, rfl, I2⟩, by decide, by decide⟩, ⟨n2, _, rfl, I2⟩, enc_no2⟩
          · exact ⟨.int 5 _, .other, rfl, nI, ⟨.int, ⟨_, _, rfl⟩, rfl, by decide, by decide, by decide, by decide⟩, rfl⟩
          · have hT1 : HasTy g10 (.ref l1) .list := by obtain ⟨o, h1, h2, _⟩ := hl1; exact ⟨_, _, rfl, h1, h2⟩
            exact ⟨.ref l1, .other, rfl, ⟨.list, hT1, rfl, by decide⟩, ⟨.list, hT1, rfl, by decide, by decide, by decide, by decide⟩, rfl⟩
          · have hT1 : HasTy g10 (.ref st) (.inst 219) := ⟨_, _, rfl, I4⟩
            exact ⟨.ref st, .other, rfl, ⟨.inst 219, hT1, by decide, by decide⟩, ⟨.inst 219, hT1, by decide, by decide, by decide, by decide, by decide⟩, rfl⟩
          · exact ⟨.ref D3, .dict .other .bad, rfl, ⟨.dict, dic_ty hD3, rfl, by decide⟩, ⟨D3, _, rfl, hD3, ⟨.none, ⟨nN, .inl (by rw [(va_diff _).2]; rfl)⟩, ⟨.none, rfl, rfl, by decide⟩⟩, ⟨_, ⟨nI, .inl (by rw [(va_diff _).1]; rfl)⟩, ⟨.int, ⟨_, _, rfl⟩, rfl, by decide, by decide, by decide⟩⟩⟩, enc_no3⟩
          · exact ⟨.ref D4, .dict (.name (Str.ofString "WinAnsi")) .none, rfl, ⟨.dict, dic_ty hD4, rfl, by decide⟩, ⟨D4, _, rfl, hD4, ⟨.ref n3, ⟨⟨.inst 197, ⟨_, _, rfl, I3⟩, by decide, by decide⟩, .inl (by rw [(va_base _).1]; rfl)⟩, ⟨n3, _, rfl, I3⟩⟩, ⟨.none, ⟨nN, .inl (by rw [(va_base _).2]; rfl)⟩, rfl⟩⟩, enc_no4⟩
        replace k1 : ∀ b o, g.get? b = some o → g10.get? b = some o := fun b o e => k10 _ _ (k1 _ _ e)
        replace W := W.keeps k10
        replace hI := hI.keeps k10
        replace hT := hT.keeps k10
        clear k10 I1 I2 I3 I4 hl1 hD3 hD4 nN nI H hovs
        wtm_at "r8"
        rename_i sO vO tO SO o0 o1
        obtain ⟨u, ev, hu, hnr, hen, hno⟩ := hodd vO.toNat (by omega)
        clear hodd
        refine l_item (hol.at fun o e => SO.keep _ o e) (by omega) (by omega) hu ?_ (by wtm_at "rf")
        wtm_at "r8"
        have hide := SO.hide (X := [(L, _)]) fun p hp => by rw [List.mem_singleton.mp hp]; wtm_at "mem"
        refine ⟨W.keeps SO.keep, refused_spec baseOk [L] frA (by simp) (fun a ha => by rw [List.mem_singleton.mp ha]; obtain ⟨o, h, _⟩ := SO.get (a := L) (.tail _ (.tail _ (.head _))); exact ⟨o, h⟩) rm' (Nat.le_of_ble_eq_true (by rfl)) (W.keeps SO.keep) (W.keeps hide) (hI.keeps hide) (hT.keeps hide) (hnr.keeps hide) (hen.keeps hide) hno fun s60 Ef => ?_⟩
        have S60 := SO.touched (fs := [L]) (fun a ha => by rw [List.mem_singleton.mp ha]; exact ⟨_, .tail _ (.tail _ (.head _)), slotFree_ns _⟩) Ef
        wtm_at "kk"; exact ⟨rfl, fin k1 S60⟩
namespace head
noncomputable def setC (x : Str) : Stmt → Stmt
  | .Assign t (.Constant (.str _) k p) q => .Assign t (.Constant (.str x) k p) q
  | s => s
@[reducible] noncomputable def bodyX (x20 x21 x22 x23 x24 x25 x26 : Str) : List Stmt := [stAt 0, stAt 2, stAt 3, stAt 5, stAt 6, stAt 7, stAt 8, stAt 10, stAt 11, stAt 12, stAt 13, stAt 14, stAt 15, stAt 16, stAt 18, stAt 19, setC x20 (stAt 20), setC x21 (stAt 21), setC x22 (stAt 22), setC x23 (stAt 23), setC x24 (stAt 24), setC x25 (stAt 25), setC x26 (stAt 26), stAt 27, stAt 28, stAt 29, stAt 30, stAt 31, stAt 32, stAt 33, stAt 34, stAt 36, stAt 37, stAt 38, stAt 39, stAt 40, stAt 41, stAt 42, stAt 43, stAt 44, stAt 45, stAt 46, stAt 47, stAt 48, stAt 49, stAt 50]
@[reducible] noncomputable def progX (x20 x21 x22 x23 x24 x25 x26 : Str) : PySem.Program := { prg with main := { prg.main with body := bodyX x20 x21 x22 x23 x24 x25 x26 } }
noncomputable def cps20 : { cs : List Char // strAt 20 = Str.ofString (String.ofList cs) } := ⟨_, rfl⟩
noncomputable def fast20 : Str := ⟨(cps20.1.map Char.toNat).toArray⟩
theorem fast20_eq : strAt 20 = fast20 := cps20.2.trans (PySem.W.Fast.ofString_ofList _)
noncomputable def cps21 : { cs : List Char // strAt 21 = Str.ofString (String.ofList cs) } := ⟨_, rfl⟩
noncomputable def fast21 : Str := ⟨(cps21.1.map Char.toNat).toArray⟩
theorem fast21_eq : strAt 21 = fast21 := cps21.2.trans (PySem.W.Fast.ofString_ofList _)
noncomputable def cps22 : { cs : List Char // strAt 22 = Str.ofString (String.ofList cs) } := ⟨_, rfl⟩
noncomputable def fast22 : Str := ⟨(cps22.1.map Char.toNat).toArray⟩
theorem fast22_eq : strAt 22 = fast22 := cps22.2.trans (PySem.W.Fast.ofString_ofList _)
noncomputable def cps23 : { cs : List Char // strAt 23 = Str.ofString (String.ofList cs) } := ⟨_, rfl⟩
noncomputable def fast23 : Str := ⟨(cps23.1.map Char.toNat).toArray⟩
theorem fast23_eq : strAt 23 = fast23 := cps23.2.trans (PySem.W.Fast.ofString_ofList _)
noncomputable def cps24 : { cs : List Char // strAt 24 = Str.ofString (String.ofList cs) } := ⟨_, rfl⟩
noncomputable def fast24 : Str := ⟨(cps24.1.map Char.toNat).toArray⟩
theorem fast24_eq : strAt 24 = fast24 := cps24.2.trans (PySem.W.Fast.ofString_ofList _)
noncomputable def cps25 : { cs : List Char // strAt 25 = Str.ofString (String.ofList cs) } := ⟨_, rfl⟩
noncomputable def fast25 : Str := ⟨(cps25.1.map Char.toNat).toArray⟩
theorem fast25_eq : strAt 25 = fast25 := cps25.2.trans (PySem.W.Fast.ofString_ofList _)
noncomputable def cps26 : { cs : List Char // strAt 26 = Str.ofString (String.ofList cs) } := ⟨_, rfl⟩
noncomputable def fast26 : Str := ⟨(cps26.1.map Char.toNat).toArray⟩
theorem fast26_eq : strAt 26 = fast26 := cps26.2.trans (PySem.W.Fast.ofString_ofList _)
noncomputable def nsT (x20 x21 x22 x23 x24 x25 x26 : Str) (P : Params) : List DictEntry := [enO P "__doc__" 166 (.none), enO P "__package__" 167 (.none), enO P "__loader__" 168 (.builtin "__main__.__loader__#opaque"), enO P "__spec__" 169 (.none), enO P "__annotations__" 170 (.ref 6), enO P "__builtins__" 171 (.ref 4), enO P "__file__" 173 (.str "/claim/cut.py" 172), enO P "__cached__" 174 (.none), enO P "_wall" 193 (.ref 21), enO P "PaperError" 235 (.ref 46), enO P "FontFault" 251 (.ref 59), enO P "Decimal" 370 (.ref 155), enO P "sign_text" 377 (.ref 166), enO P "decimal_of" 384 (.ref 173), enO P "at_one_scale" 395 (.ref 180), enO P "MOST_HOPS" 399 (.int 30 398), enO P "Name" 428 (.ref 197), enO P "String" 459 (.ref 219), enO P "Stream" 490 (.ref 240), enO P "Reference" 528 (.ref 268), enO P "kind_of" 535 (.ref 279), enO P "Lookup" 587 (.ref 311), enO P "FIGURES" 591 (.str "0123456789" 590), enO P "NO_GLYPH" 593 (.str ".notdef" 592), enO P "LOW_NAMES" 595 (.str x20 594), enO P "MIDDLE_NAMES" 597 (.str x21 596), enO P "HIGH_NAMES" 599 (.str x22 598), enO P "LATIN_NAMES" 601 (.str x23 600), enO P "STANDARD_WORDS" 603 (.str x24 602), enO P "WIN_WORDS" 605 (.str x25 604), enO P "MAC_WORDS" 607 (.str x26 606), enO P "ascii_names" 613 (.ref 320), enO P "latin_names" 619 (.ref 325), enO P "with_words" 630 (.ref 332), enO P "base_names" 636 (.ref 337), enO P "with_differences" 647 (.ref 344), enO P "differences_of" 658 (.ref 351), enO P "encoding_of" 664 (.ref 356), enO P "encoding_written" 674 (.ref 363), enO P "_law_encodings" 682 (.ref 370), enO P "_law_glyphs" 688 (.ref 377), enO P "_law_pot" 694 (.ref 382), enO P "_law_draw" 705 (.ref 389), enO P "_law_turned" 716 (.ref 396), enO P "_law_due" 722 (.ref 401), enO P "_law_shape" 728 (.ref 406), enO P "_law_is_best" 734 (.ref 411), enO P "_law_laid" 744 (.ref 418), enO P "_law_font" 750 (.ref 423), enO P "_law_parts" 760 (.ref 430), enO P "_law_plain" 766 (.ref 435), enO P "_law_bare_right" 778 (.ref 442), enO P "_law_is_refused" 786 (.ref 449), enO P "law" 792 (.ref 454)]
noncomputable def nsO (n : Nat) (md : Str) (mt : Tok) (x20 x21 x22 x23 x24 x25 x26 : Str) : Params → Obj := fun P => { cls := .type "dict", data := .dict (enO P "__name__" 165 (.str md mt) :: (nsT x20 x21 x22 x23 x24 x25 x26 P).take n).toArray (n + 1) }
noncomputable def stsX (x20 x21 x22 x23 x24 x25 x26 : Str) : List Stmt := [stAt 16, stAt 17, stAt 18, stAt 19, setC x20 (stAt 20), setC x21 (stAt 21), setC x22 (stAt 22), setC x23 (stAt 23), setC x24 (stAt 24), setC x25 (stAt 25), setC x26 (stAt 26)]
noncomputable def o316X : Params → Obj := nsO 31 "paperhold.encodings" 588 (strAt 20) (strAt 21) (strAt 22) (strAt 23) (strAt 24) (strAt 25) (strAt 26)
noncomputable def tw15978756843589016077 : Params → Obj := nsO 31 "paperhold.encodings" 588 fast20 fast21 fast22 fast23 fast24 fast25 fast26
theorem te15978756843589016077 : o316X = tw15978756843589016077 := by
  unfold o316X tw15978756843589016077
  rw [fast20_eq, fast21_eq, fast22_eq, fast23_eq, fast24_eq, fast25_eq, fast26_eq]
noncomputable def o357X : Params → Obj := nsO 44 "law_nn0126_01" 675 (strAt 20) (strAt 21) (strAt 22) (strAt 23) (strAt 24) (strAt 25) (strAt 26)
noncomputable def tw17316921648307693606 : Params → Obj := nsO 44 "law_nn0126_01" 675 fast20 fast21 fast22 fast23 fast24 fast25 fast26
theorem te17316921648307693606 : o357X = tw17316921648307693606 := by
  unfold o357X tw17316921648307693606
  rw [fast20_eq, fast21_eq, fast22_eq, fast23_eq, fast24_eq, fast25_eq, fast26_eq]
noncomputable def o443X : Params → Obj := nsO 54 "law_nn0126_01" 675 (strAt 20) (strAt 21) (strAt 22) (strAt 23) (strAt 24) (strAt 25) (strAt 26)
noncomputable def tw10998311414152205545 : Params → Obj := nsO 54 "law_nn0126_01" 675 fast20 fast21 fast22 fast23 fast24 fast25 fast26
theorem te10998311414152205545 : o443X = tw10998311414152205545 := by
  unfold o443X tw10998311414152205545
  rw [fast20_eq, fast21_eq, fast22_eq, fast23_eq, fast24_eq, fast25_eq, fast26_eq]
noncomputable def s315X : List Stmt := stsX (strAt 20) (strAt 21) (strAt 22) (strAt 23) (strAt 24) (strAt 25) (strAt 26)
noncomputable def tw794593698271750114 : List Stmt := stsX fast20 fast21 fast22 fast23 fast24 fast25 fast26
theorem te794593698271750114 : s315X = tw794593698271750114 := by
  unfold s315X tw794593698271750114
  rw [fast20_eq, fast21_eq, fast22_eq, fast23_eq, fast24_eq, fast25_eq, fast26_eq]
noncomputable def viewX : PySem.Program := progX (strAt 20) (strAt 21) (strAt 22) (strAt 23) (strAt 24) (strAt 25) (strAt 26)
noncomputable def tw4209808695631260738 : PySem.Program := progX fast20 fast21 fast22 fast23 fast24 fast25 fast26
theorem te4209808695631260738 : viewX = tw4209808695631260738 := by
  unfold viewX tw4209808695631260738
  rw [fast20_eq, fast21_eq, fast22_eq, fast23_eq, fast24_eq, fast25_eq, fast26_eq]
theorem tw15986637202944990301 : True := trivial
theorem tw18732435306828618 : True := trivial
theorem tw8121561921238263154 : True := trivial
theorem tw4351336433847823175 : True := trivial
theorem tw15495501364587947693 : True := trivial
theorem tw5696161533212525335 : True := trivial
theorem tw5465832774826651892 : True := trivial
theorem tw9073668229908807841 : True := trivial
theorem tw3940316758213304484 : True := trivial
theorem tw6232225290360786575 : True := trivial
theorem tw5721959249741640242 : True := trivial
theorem tw4803999417956127158 : True := trivial
theorem tw15539076058944396609 : True := trivial
theorem tw1630499318912278537 : True := trivial
theorem tw10050330462241913509 : True := trivial
theorem tw10089699074443587686 : True := trivial
theorem tw10095215701052247105 : True := trivial
theorem tw10102095504308763365 : True := trivial
theorem tw10112815496767960088 : True := trivial
theorem tw10163915652734795517 : True := trivial
theorem tw10224669731511840994 : True := trivial
theorem tw10306735677439369586 : True := trivial
theorem tw1031603165258198268 : True := trivial
theorem tw10343214486471062361 : True := trivial
theorem tw10353807471093609989 : True := trivial
theorem tw10382913776885109971 : True := trivial
theorem tw10499003244910623824 : True := trivial
theorem tw10536167263575023621 : True := trivial
theorem tw10558891394945109628 : True := trivial
theorem tw10614324147560314813 : True := trivial
theorem tw10616730048598792670 : True := trivial
theorem tw1063943172048348370 : True := trivial
theorem tw10661969253576076748 : True := trivial
theorem tw10699440497168795304 : True := trivial
theorem tw1070659882922576501 : True := trivial
theorem tw10759323865047359974 : True := trivial
theorem tw1076022170294707215 : True := trivial
theorem tw10885196670527500924 : True := trivial
theorem tw10985317635223799875 : True := trivial
theorem tw11033127131148898338 : True := trivial
theorem tw11064202403032206350 : True := trivial
theorem tw1107525179776384766 : True := trivial
theorem tw11088617102431035162 : True := trivial
theorem tw11132341679004378475 : True := trivial
theorem tw1114037476310740070 : True := trivial
theorem tw11163789156156329341 : True := trivial
theorem tw11181630787467745001 : True := trivial
theorem tw11205842430728436232 : True := trivial
theorem tw11240988827263369249 : True := trivial
theorem tw11255816048961219627 : True := trivial
theorem tw11314525942766884420 : True := trivial
theorem tw11372567502559587026 : True := trivial
theorem tw11382879185549982469 : True := trivial
theorem tw1140594061482185057 : True := trivial
theorem tw11445319998881622169 : True := trivial
theorem tw11528519896236416449 : True := trivial
theorem tw11529751800443914212 : True := trivial
theorem tw1155621819259066139 : True := trivial
theorem tw1156223305519274630 : True := trivial
theorem tw11577373068786246476 : True := trivial
theorem tw11577909779794647837 : True := trivial
theorem tw11614423020188726988 : True := trivial
theorem tw11634245589664399805 : True := trivial
theorem tw1173293269756429722 : True := trivial
theorem tw11752629607418962885 : True := trivial
theorem tw11788390655616903721 : True := trivial
theorem tw11806457240997854263 : True := trivial
theorem tw11807432944139860230 : True := trivial
theorem tw11855723409757558564 : True := trivial
theorem tw11864046393568423835 : True := trivial
theorem tw11869950821650445431 : True := trivial
theorem tw1187595075560739304 : True := trivial
theorem tw11887753599215052914 : True := trivial
theorem tw11923813291186694107 : True := trivial
theorem tw11940992469207693422 : True := trivial
theorem tw12106514424202917231 : True := trivial
theorem tw12155773926554255851 : True := trivial
theorem tw12176399075548469306 : True := trivial
theorem tw12206850508214739769 : True := trivial
theorem tw12238047080409826078 : True := trivial
theorem tw12275469859003461298 : True := trivial
theorem tw12392812586332415059 : True := trivial
theorem tw12421281250992332501 : True := trivial
theorem tw1242892692640146014 : True := trivial
theorem tw12506349841298528949 : True := trivial
theorem tw12535109838420282932 : True := trivial
theorem tw12554129663829488729 : True := trivial
theorem tw12568617060432036118 : True := trivial
theorem tw12574859834685105546 : True := trivial
theorem tw12617312995923619265 : True := trivial
theorem tw12641601452388476433 : True := trivial
theorem tw12663536821553362777 : True := trivial
theorem tw1266539973789262091 : True := trivial
theorem tw12813779687224390819 : True := trivial
theorem tw12846249238099354430 : True := trivial
theorem tw12910507159210812748 : True := trivial
theorem tw12932224532573871497 : True := trivial
theorem tw12936691650682532097 : True := trivial
theorem tw12987818774918176709 : True := trivial
theorem tw13033391489344085420 : True := trivial
theorem tw13057508610410675219 : True := trivial
theorem tw13158450867858438086 : True := trivial
theorem tw13184650005928665858 : True := trivial
theorem tw13264229197918437436 : True := trivial
theorem tw1333169053481860712 : True := trivial
theorem tw1345822412292975868 : True := trivial
theorem tw13478376646239162027 : True := trivial
theorem tw13560981777081451109 : True := trivial
theorem tw1358958469823295269 : True := trivial
theorem tw13633530548199142246 : True := trivial
theorem tw13652111684951287012 : True := trivial
theorem tw13848716689829959636 : True := trivial
theorem tw13974764575369185719 : True := trivial
theorem tw14094481567184286786 : True := trivial
theorem tw14152515570552603990 : True := trivial
theorem tw14238901164299424386 : True := trivial
theorem tw14279460142853385931 : True := trivial
theorem tw14284780640986802589 : True := trivial
theorem tw14413065009005856021 : True := trivial
theorem tw1443801244205871748 : True := trivial
theorem tw14478804348827736584 : True := trivial
theorem tw14484385234342644032 : True := trivial
theorem tw14490749625161633904 : True := trivial
theorem tw14556613348023184570 : True := trivial
theorem tw14593658687285430986 : True := trivial
theorem tw14602993194720230624 : True := trivial
theorem tw14615818862299966562 : True := trivial
theorem tw14621753266980098106 : True := trivial
theorem tw14671053302104835137 : True := trivial
theorem tw14696878306355957362 : True := trivial
theorem tw14771030608985864353 : True := trivial
theorem tw14799212025004548916 : True := trivial
theorem tw14815065188939057066 : True := trivial
theorem tw14872140798664494772 : True := trivial
theorem tw14877032231315171406 : True := trivial
theorem tw14955399626788643433 : True := trivial
theorem tw15022733543810632777 : True := trivial
theorem tw15026352246958068925 : True := trivial
theorem tw15184410369225252541 : True := trivial
theorem tw15320848744382606189 : True := trivial
theorem tw15392985415507044627 : True := trivial
theorem tw15395184891937581354 : True := trivial
theorem tw15395452199623898277 : True := trivial
theorem tw15407724435027607234 : True := trivial
theorem tw15497686664521494510 : True := trivial
theorem tw15498654374086340415 : True := trivial
theorem tw15537587031283531589 : True := trivial
theorem tw15553853956038625568 : True := trivial
theorem tw15594793427767767162 : True := trivial
theorem tw1560126941178088952 : True := trivial
theorem tw15638183826547414160 : True := trivial
theorem tw15658493451953937116 : True := trivial
theorem tw15669395989183391717 : True := trivial
theorem tw15764402789628621166 : True := trivial
theorem tw15836410654282438128 : True := trivial
theorem tw1584417701341810283 : True := trivial
theorem tw15853817966537453143 : True := trivial
theorem tw15862087475102914745 : True := trivial
theorem tw15873666189694409120 : True := trivial
theorem tw15903522869099072573 : True := trivial
theorem tw15931683730293796083 : True := trivial
theorem tw15951412374525296361 : True := trivial
theorem tw16015953719463980493 : True := trivial
theorem tw16022184048390432649 : True := trivial
theorem tw16076378310406140084 : True := trivial
theorem tw16083290366110207358 : True := trivial
theorem tw16147864864199474771 : True := trivial
theorem tw16154048942086779772 : True := trivial
theorem tw1619950463281056512 : True := trivial
theorem tw16204446113026549421 : True := trivial
theorem tw16234978628215890624 : True := trivial
theorem tw16284257977258085164 : True := trivial
theorem tw16333148963930402659 : True := trivial
theorem tw16338542484670205759 : True := trivial
theorem tw16363809366796459031 : True := trivial
theorem tw16381789503821668230 : True := trivial
theorem tw16422961543837290585 : True := trivial
theorem tw16430126841831694563 : True := trivial
theorem tw16439572410075867678 : True := trivial
theorem tw16518229711798713050 : True := trivial
theorem tw16529115705359359362 : True := trivial
theorem tw16569945539207726907 : True := trivial
theorem tw16576223626677242142 : True := trivial
theorem tw16610270392350913194 : True := trivial
theorem tw16620064804348006253 : True := trivial
theorem tw16631050693291812793 : True := trivial
theorem tw16637234087623946940 : True := trivial
theorem tw16748945047951924743 : True := trivial
theorem tw16755519130981398468 : True := trivial
theorem tw1678777037627489924 : True := trivial
theorem tw16851763391305205819 : True := trivial
theorem tw1686810344635791770 : True := trivial
theorem tw16883758413602026072 : True := trivial
theorem tw16885110347160216830 : True := trivial
theorem tw1693959950871104056 : True := trivial
theorem tw1694714774937481341 : True := trivial
theorem tw1699070656727643649 : True := trivial
theorem tw17014091925267590209 : True := trivial
theorem tw17015165675228681433 : True := trivial
theorem tw17043042321228663467 : True := trivial
theorem tw17086850879753640141 : True := trivial
theorem tw17107738987127161647 : True := trivial
theorem tw17123253421899073616 : True := trivial
theorem tw17157437877967833535 : True := trivial
theorem tw1717175051496305792 : True := trivial
theorem tw17325472708699264225 : True := trivial
theorem tw17345787358275557076 : True := trivial
theorem tw17351618278267782816 : True := trivial
theorem tw17412637859444758865 : True := trivial
theorem tw17469235572378808908 : True := trivial
theorem tw17469753947406698130 : True := trivial
theorem tw17483746887134567246 : True := trivial
theorem tw1748880203951884110 : True := trivial
theorem tw1749781448147600704 : True := trivial
theorem tw1751173253528583326 : True := trivial
theorem tw17525168922751296960 : True := trivial
theorem tw17589700279090362923 : True := trivial
theorem tw1759360573176798900 : True := trivial
theorem tw17628795913155907655 : True := trivial
theorem tw17640536960961764749 : True := trivial
theorem tw17674541763439985402 : True := trivial
theorem tw17735627803155129888 : True := trivial
theorem tw17766457468547580464 : True := trivial
theorem tw17796724638874445080 : True := trivial
theorem tw1780567252454981069 : True := trivial
theorem tw17807211602939113886 : True := trivial
theorem tw17812685752147132037 : True := trivial
theorem tw17874448173876958152 : True := trivial
theorem tw17878731533853911974 : True := trivial
theorem tw17920991309270947813 : True := trivial
theorem tw18002517190756350523 : True := trivial
theorem tw18013929435656306916 : True := trivial
theorem tw18015244379762511774 : True := trivial
theorem tw18088878748017859300 : True := trivial
theorem tw18188421283140818793 : True := trivial
theorem tw18207931707878782674 : True := trivial
theorem tw18244299558520366880 : True := trivial
theorem tw18275616819375377394 : True := trivial
theorem tw18285564534607029431 : True := trivial
theorem tw18300043956355479627 : True := trivial
theorem tw18316920508549190399 : True := trivial
theorem tw18365235165242912795 : True := trivial
theorem tw1838090985092536832 : True := trivial
theorem tw1849404690672204882 : True := trivial
theorem tw1871050577662828705 : True := trivial
theorem tw1872143464802027477 : True := trivial
theorem tw1899668063210481751 : True := trivial
theorem tw1959670806291593620 : True := trivial
theorem tw1978301049094803742 : True := trivial
theorem tw1990939486662498952 : True := trivial
theorem tw2075632655527121339 : True := trivial
theorem tw2077948738788697767 : True := trivial
theorem tw2088753293692260121 : True := trivial
theorem tw2103895086020021793 : True := trivial
theorem tw2107334865576442969 : True := trivial
theorem tw2179549537314925591 : True := trivial
theorem tw2204153719776194888 : True := trivial
theorem tw2217065800183329912 : True := trivial
theorem tw2222977054765989662 : True := trivial
theorem tw2334025558389267479 : True := trivial
theorem tw2442456937284199525 : True := trivial
theorem tw2480932598747721717 : True := trivial
theorem tw2537995858497435487 : True := trivial
theorem tw2564633867578055707 : True := trivial
theorem tw2569197826277599153 : True := trivial
theorem tw262894691866384261 : True := trivial
theorem tw2645385159606523624 : True := trivial
theorem tw2660734193805457525 : True := trivial
theorem tw2697969259492130621 : True := trivial
theorem tw2752511640941712406 : True := trivial
theorem tw2858258575880072166 : True := trivial
theorem tw2868275635737601222 : True := trivial
theorem tw2934522882247243693 : True := trivial
theorem tw2978088903302656414 : True := trivial
theorem tw2981314468463546736 : True := trivial
theorem tw305137886670338603 : True := trivial
theorem tw3098209528392437609 : True := trivial
theorem tw3130342896926057978 : True := trivial
theorem tw3144371346346491206 : True := trivial
theorem tw3159375743421523740 : True := trivial
theorem tw3199294433721487188 : True := trivial
theorem tw320369691416903619 : True := trivial
theorem tw3288695112092255117 : True := trivial
theorem tw3291782751134344595 : True := trivial
theorem tw3329918688264159093 : True := trivial
theorem tw3330027161183287555 : True := trivial
theorem tw3332938691445880927 : True := trivial
theorem tw334973386843022250 : True := trivial
theorem tw3387761113747492983 : True := trivial
theorem tw3415626225553849514 : True := trivial
theorem tw3486272897459106758 : True := trivial
theorem tw3512501419773589830 : True := trivial
theorem tw3547382416731448300 : True := trivial
theorem tw3706433852448319544 : True := trivial
theorem tw3708553885416196078 : True := trivial
theorem tw3739245453386954580 : True := trivial
theorem tw3742171838363909863 : True := trivial
theorem tw3743901165017640828 : True := trivial
theorem tw3776002276359059591 : True := trivial
theorem tw3804929184136566336 : True := trivial
theorem tw3805674499484636991 : True := trivial
theorem tw3837432311423416689 : True := trivial
theorem tw3888487327988027620 : True := trivial
theorem tw3905341064630945913 : True := trivial
theorem tw3926244332627147522 : True := trivial
theorem tw3931000695942501861 : True := trivial
theorem tw3934047919884814670 : True := trivial
theorem tw3948479479610380065 : True := trivial
theorem tw397543728671461065 : True := trivial
theorem tw4068159861621267954 : True := trivial
theorem tw4157010000458822294 : True := trivial
theorem tw4215321127934311338 : True := trivial
theorem tw4222352832462688579 : True := trivial
theorem tw4302832160743379805 : True := trivial
theorem tw4362068376742274291 : True := trivial
theorem tw4380591755518825504 : True := trivial
theorem tw4403668973487822821 : True := trivial
theorem tw4408046141473071791 : True := trivial
theorem tw4427811727860713288 : True := trivial
theorem tw4451858322581991910 : True := trivial
theorem tw4498079050146597352 : True := trivial
theorem tw4591733878018344384 : True := trivial
theorem tw4625513229372163452 : True := trivial
theorem tw4675193386129384934 : True := trivial
theorem tw4680918257763205332 : True := trivial
theorem tw4793866077534045599 : True := trivial
theorem tw4799410548700052398 : True := trivial
theorem tw480577798083139099 : True := trivial
theorem tw4808962305333334028 : True := trivial
theorem tw4871743421278062489 : True := trivial
theorem tw4895598205951439349 : True := trivial
theorem tw4977588028305455444 : True := trivial
theorem tw5067639328005568251 : True := trivial
theorem tw5113499213167990677 : True := trivial
theorem tw5131542527306738575 : True := trivial
theorem tw5295704601602417232 : True := trivial
theorem tw5297098129714031535 : True := trivial
theorem tw5428659221319576383 : True := trivial
theorem tw5431763438542330775 : True := trivial
theorem tw5463516435254246931 : True := trivial
theorem tw5474648914574918958 : True := trivial
theorem tw5539548878890894652 : True := trivial
theorem tw5565970990666863615 : True := trivial
theorem tw5587219059148261669 : True := trivial
theorem tw5610692077826808967 : True := trivial
theorem tw5654542840716239422 : True := trivial
theorem tw5730213934702254210 : True := trivial
theorem tw5768980256136046696 : True := trivial
theorem tw5776206597700539115 : True := trivial
theorem tw579977378708795056 : True := trivial
theorem tw5801311855253618476 : True := trivial
theorem tw5815142251596254948 : True := trivial
theorem tw5833585966435921929 : True := trivial
theorem tw5839862928627005552 : True := trivial
theorem tw5843210589604838909 : True := trivial
theorem tw5859400194364050292 : True := trivial
theorem tw5898279192632540182 : True := trivial
theorem tw5903717742887604696 : True := trivial
theorem tw596705074586699174 : True := trivial
theorem tw6175936039567264352 : True := trivial
theorem tw6198701249759773193 : True := trivial
theorem tw6209744869398403571 : True := trivial
theorem tw6228401354639061047 : True := trivial
theorem tw627218882639037983 : True := trivial
theorem tw630512715182821393 : True := trivial
theorem tw637172890252677228 : True := trivial
theorem tw6399566188672082440 : True := trivial
theorem tw6430946898046944180 : True := trivial
theorem tw6443458354726168346 : True := trivial
theorem tw6521290693116486091 : True := trivial
theorem tw6568538252854149786 : True := trivial
theorem tw6597216140804936424 : True := trivial
theorem tw6638963053472072016 : True := trivial
theorem tw6644011875431817338 : True := trivial
theorem tw6710972771038670787 : True := trivial
theorem tw6721400907054817055 : True := trivial
theorem tw6770531871747071484 : True := trivial
theorem tw6814621867323107905 : True := trivial
theorem tw6885957993251737699 : True := trivial
theorem tw6971697723258679451 : True := trivial
theorem tw7019264716293259784 : True := trivial
theorem tw7020598993596511119 : True := trivial
theorem tw7061000875272316822 : True := trivial
theorem tw7150186719799678026 : True := trivial
theorem tw7175539074782016732 : True := trivial
theorem tw7243799666471589471 : True := trivial
theorem tw7347130420571410444 : True := trivial
theorem tw7355344573675627549 : True := trivial
theorem tw741617039589921822 : True := trivial
theorem tw7468546552598400538 : True := trivial
theorem tw7487683791243461160 : True := trivial
theorem tw7500484336937801583 : True := trivial
theorem tw7509068098974973070 : True := trivial
theorem tw7509508991096582323 : True := trivial
theorem tw7537737031681725684 : True := trivial
theorem tw7581996664967954640 : True := trivial
theorem tw7644537780040453484 : True := trivial
theorem tw7682871643551448250 : True := trivial
theorem tw7687061639264286652 : True := trivial
theorem tw7701580543555162410 : True := trivial
theorem tw774767707650964579 : True := trivial
theorem tw7759076741102672117 : True := trivial
theorem tw7763346433929018229 : True := trivial
theorem tw776508714923083591 : True := trivial
theorem tw7871429927001386553 : True := trivial
theorem tw7896854882992272307 : True := trivial
theorem tw7914474738008061994 : True := trivial
theorem tw7981440307302629060 : True := trivial
theorem tw7986347179436603880 : True := trivial
theorem tw803889643290624652 : True := trivial
theorem tw8074797254100316044 : True := trivial
theorem tw8160239042443399824 : True := trivial
theorem tw8165717983453217341 : True := trivial
theorem tw817470384225147361 : True := trivial
theorem tw8205130175467105492 : True := trivial
theorem tw8207920636066046459 : True := trivial
theorem tw8217142335259255473 : True := trivial
theorem tw8243355748390974431 : True := trivial
theorem tw8275305862218968017 : True := trivial
theorem tw8302501623531826527 : True := trivial
theorem tw832015388709339512 : True := trivial
theorem tw8328319998011535266 : True := trivial
theorem tw8339526720281020292 : True := trivial
theorem tw8354315785521505661 : True := trivial
theorem tw8395460079770261718 : True := trivial
theorem tw8411520319502955394 : True := trivial
theorem tw84375963361790156 : True := trivial
theorem tw8442429546112663708 : True := trivial
theorem tw8472010470244981853 : True := trivial
theorem tw8481227131091459721 : True := trivial
theorem tw8515106111212264533 : True := trivial
theorem tw8594186942470156041 : True := trivial
theorem tw8656907156741523330 : True := trivial
theorem tw866915404893812711 : True := trivial
theorem tw8701070350208172454 : True := trivial
theorem tw8752344846047357792 : True := trivial
theorem tw8809705425865317970 : True := trivial
theorem tw8810616528835167258 : True := trivial
theorem tw8813746458529668375 : True := trivial
theorem tw8830143315125342726 : True := trivial
theorem tw8903381843744174282 : True := trivial
theorem tw8938093906682878517 : True := trivial
theorem tw9003691545697101687 : True := trivial
theorem tw9090548986962050120 : True := trivial
theorem tw9099676936673182165 : True := trivial
theorem tw9110641911383230463 : True := trivial
theorem tw914298208369114154 : True := trivial
theorem tw9201023929499120864 : True := trivial
theorem tw9244364589540642154 : True := trivial
theorem tw9252522842246332180 : True := trivial
theorem tw9260861728213839086 : True := trivial
theorem tw9266104446661090042 : True := trivial
theorem tw932089689025925318 : True := trivial
theorem tw9331630469960722047 : True := trivial
theorem tw9458856180953094946 : True := trivial
theorem tw9496473130260838024 : True := trivial
theorem tw9503497471847564548 : True := trivial
theorem tw9518887970697207573 : True := trivial
theorem tw9527424724103664617 : True := trivial
theorem tw9595636141105108295 : True := trivial
theorem tw9597985451101731761 : True := trivial
theorem tw9630918471315781575 : True := trivial
theorem tw9683807207364475727 : True := trivial
theorem tw9765732531857558093 : True := trivial
theorem tw9777532492097869232 : True := trivial
theorem tw9807818445283467392 : True := trivial
theorem tw9813013758969246484 : True := trivial
theorem tw9969760716057380097 : True := trivial
theorem tw9976812589780023253 : True := trivial
theorem tw9998442721051879543 : True := trivial
end head
set_option Elab.async true in
theorem head : PySem.Challenge.rw_nn0126_01.Holds := by
  w_on
  refine holds_law Enc.said fun said => ?_
  o_head Enc.topHook
  (case hw => w_witness2)
  intro w s₀ s₁ mg mb G Y fa o pm cd doc dV kV ho hd hcd hD hmg hg args vals as hpre hlay hrd hwl hlo
  refine Ground.open G ?_
  intro T B D TE TW
  wrow_args hpre hlay hrd hwl hlo
  refine enter_call ?_
  clear ho hd hcd hD B TE TW D G
  have Y' : TopSays w s₁.heap := Y
  obtain ⟨y1, y2, m, y3, y4, y5⟩ := Y'
  have em := ns_unique y3 T.g
  subst em
  have W : Wld w s₁.heap := ⟨y1, y2, ⟨m, y3, y4, y5, by
    intro p hp
    simp only [constL, List.mem_cons, List.not_mem_nil, or_false] at hp
    rcases hp with rfl | rfl | rfl | rfl | rfl | rfl | rfl
    all_goals
      dsimp only
      first
      | (obtain ⟨v, h1, h2⟩ := T.const (Str.ofString "LOW_NAMES") (.str (strAt 20)) (by kernel_rfl); obtain ⟨t, rfl, _⟩ := reads_str_inv (h2 s₁.heap); exact ⟨t, h1⟩)
      | (obtain ⟨v, h1, h2⟩ := T.const (Str.ofString "MIDDLE_NAMES") (.str (strAt 21)) (by kernel_rfl); obtain ⟨t, rfl, _⟩ := reads_str_inv (h2 s₁.heap); exact ⟨t, h1⟩)
      | (obtain ⟨v, h1, h2⟩ := T.const (Str.ofString "HIGH_NAMES") (.str (strAt 22)) (by kernel_rfl); obtain ⟨t, rfl, _⟩ := reads_str_inv (h2 s₁.heap); exact ⟨t, h1⟩)
      | (obtain ⟨v, h1, h2⟩ := T.const (Str.ofString "LATIN_NAMES") (.str (strAt 23)) (by kernel_rfl); obtain ⟨t, rfl, _⟩ := reads_str_inv (h2 s₁.heap); exact ⟨t, h1⟩)
      | (obtain ⟨v, h1, h2⟩ := T.const (Str.ofString "STANDARD_WORDS") (.str (strAt 24)) (by kernel_rfl); obtain ⟨t, rfl, _⟩ := reads_str_inv (h2 s₁.heap); exact ⟨t, h1⟩)
      | (obtain ⟨v, h1, h2⟩ := T.const (Str.ofString "WIN_WORDS") (.str (strAt 25)) (by kernel_rfl); obtain ⟨t, rfl, _⟩ := reads_str_inv (h2 s₁.heap); exact ⟨t, h1⟩)
      | (obtain ⟨v, h1, h2⟩ := T.const (Str.ofString "MAC_WORDS") (.str (strAt 26)) (by kernel_rfl); obtain ⟨t, rfl, _⟩ := reads_str_inv (h2 s₁.heap); exact ⟨t, h1⟩)⟩, ⟨mb, T.b, T.builtins⟩, T.nolimit, T.nodigits⟩
  have efa : fa = 454 := by
    have h1 := y4 (Str.ofString "law", .ref 454) (by decide +kernel)
    have h2 : m (Str.ofString "law") = some (.ref fa) := hmg
    rw [h2] at h1
    injection h1 with h1; injection h1
  subst efa
  rename IntsAre _ _ => hI
  rename Heap.IsList _ _ _ => hL
  refine codeAny_mono (law_spec w s₁ _ _ _ W hg hL hI (by omega)) ?_
  rintro r s' ⟨rfl, hk, hos, hgn⟩
  refine GoodW.toG ⟨.inl ⟨_, _, [], rfl, ?_, ReadsW.bool true, ?_, ?_⟩, hk, hos, hgn⟩
  · intro cls; rfl
  · wrow_post
  · intro _; exact ⟨List.nodup_nil, fun _ hm => nomatch hm⟩
end Enc
theorem PySem.Challenge.cw_nn0126_01_holds : PySem.Challenge.rw_nn0126_01.Holds :=
  Enc.head
