import PyProof.Rows.All
import Wide.All
import OpenK.AllK
import Wide.FinOn
import KE.KDictOf
import PyProof.EqKinds
import PyProof.NeKinds
import PyProof.TupleKey
import PyProof.DictRoadsH
import PyProof.AttrMissHeap
import PySem.Challenge.RW_pq0047_01
set_option linter.unusedVariables false
set_option linter.unusedSimpArgs false
set_option Elab.async false
set_option maxRecDepth 100000
set_option maxHeartbeats 2000000
namespace Mine
section
open PySem PySem.W PyProof.Rows
/-! the head: the text's top is run once, on a tree of objects -/
noncomputable def runT (F : SharedT → Thread → Option (SharedT × Thread)) (ok : Thread → Bool) : Nat → SharedT → Thread → Option SharedT
  | 0, _, _ => none
  | n + 1, s, t => match through t with
    | true => some s
    | false => match ok t with
      | false => none
      | true => match F s t with
        | some (s', t') => runT F ok n s' t'
        | none => none
theorem runT_of {tb : String → Option Builtin} {p : Program} {w : World} {n₀ : Nat} {ann : Option Value} : ∀ {n : Nat} {s s' : SharedT} {t : Thread}, runT (stepT (denote tb) p w) (stepOk n₀ ann) n s t = some s' → topRun tb p w n₀ ann n s.abs t = some s'.abs
  | 0, _, _, _, h => nomatch h
  | n + 1, s, s', t, h => by
    unfold runT at h
    unfold topRun
    cases ht : through t with
    | true => rw [ht] at h; cases h; rfl
    | false =>
      rw [ht] at h
      cases hk : stepOk n₀ ann t with
      | false => rw [hk] at h; cases h
      | true =>
        rw [hk] at h
        cases hs : stepT (denote tb) p w s t with
        | none => rw [hs] at h; cases h
        | some r => obtain ⟨s₂, t₂⟩ := r; rw [hs] at h; rw [stepT_spec hs]; exact runT_of h
noncomputable def treeOf (l : List Obj) : BT × Nat := l.foldl (fun x o => (x.1.ins x.2 o, x.2 + 1)) (.nil, 0)
noncomputable def S0 (w : World) (os : OsState) : SharedT := ⟨(treeOf (boot_heap w.params).objs.toList).1, 11, (boot_heap w.params).life, #[], boot_drawn, boot_toks, os⟩
theorem S0_abs (w : World) (os : OsState) : (S0 w os).abs = ⟨boot_heap w.params, #[], boot_drawn, boot_toks, os⟩ := by kernel_rfl
theorem boot_looks (w : World) : ((boot_heap w.params).isNs mainGlobals, (boot_heap w.params).objs.size, (boot_heap w.params).nsMap mainGlobals "__annotations__") = (true, 11, some (.ref 6)) := by kernel_rfl
noncomputable def topOk (p : Program) (w : World) (s : Shared) : Bool := staticsOk (importedModules p.main.body) (boot_heap w.params) s.heap && namesBound p s.heap && gensDone s && laidKept (boot_heap w.params) s.heap
theorem left_of_run {p q : Program} {loose : List Str} {Xt : Shared → Bool} {α : Type} {Yf : Shared → α} {Ya : World → α} {N M : Nat}
    (open_ : ∀ w : World, (fencedOpening treeTable p w N).map (fun s => (s.heap, s.gens, s.drawn, s.toks)) = some (boot_heap w.params, #[], boot_drawn, boot_toks))
    (run : ∀ (w : World) (os : OsState), (runT (stepT (denote treeTable) p w) (stepOk 11 (some (.ref 6))) M (S0 w os) (topStub p)).map (fun s => (topOk p w s.abs, openSeen q loose (importedModules p.main.body) Xt true s.abs, Yf s.abs)) = some (true, openGood q loose, Ya w))
    (le : Nat.ble M N = true) : LeftO p q loose Xt Yf Ya N := fun w => by
  obtain ⟨⟨h, gs, d, k, os⟩, e, e'⟩ := Option.map_eq_some_iff.mp (open_ w)
  obtain ⟨rfl, rfl, rfl, rfl⟩ : h = boot_heap w.params ∧ gs = #[] ∧ d = boot_drawn ∧ k = boot_toks := by simpa using e'
  obtain ⟨z1, z2, z3⟩ : _ ∧ _ ∧ _ := by simpa only [Prod.mk.injEq] using boot_looks w
  obtain ⟨s', hr, hl⟩ := Option.map_eq_some_iff.mp (run w os)
  obtain ⟨l1, l2, l3⟩ : _ ∧ _ ∧ _ := by simpa only [Prod.mk.injEq] using hl
  have r := runT_of hr
  rw [S0_abs] at r
  have r := topRun_mono (N - M) _ _ _ _ r
  rw [show M + (N - M) = N by have := Nat.le_of_ble_eq_true le; omega] at r
  have t : topFrom treeTable p w N ⟨boot_heap w.params, #[], boot_drawn, boot_toks, os⟩ = some s'.abs := by
    unfold topFrom
    dsimp only
    rw [z1, z2, z3, r]
    show (match topOk p w s'.abs with | true => _ | false => _) = _
    rw [l1]
  unfold openEnds
  rw [e]
  show (topFrom treeTable p w N _).map _ = _
  rw [t]
  exact congrArg some (Prod.ext l2 l3)
noncomputable abbrev pr : Program := PySem.Challenge.rw_pq0047_01.row.prog
noncomputable def recOfS : Stmt → DefRec
  | .FunctionDef n a b _ _ _ sc _ _ pos => ⟨n, a, b, sc, pos⟩
  | _ => ⟨"", ⟨[], [], none, [], [], none, []⟩, [], ⟨.function, [], false, false, []⟩, ⟨0, 0, 0, 0⟩⟩
/-- a def of the text, a method of a class, by its place -/
noncomputable def dr (i : Nat) : DefRec := recOfS (pr.main.body.getD i (.Pass ⟨0, 0, 0, 0⟩))
noncomputable def dm (i j : Nat) : DefRec := match pr.main.body.getD i (.Pass ⟨0, 0, 0, 0⟩) with
  | .ClassDef _ _ _ b .. => recOfS (b.getD j (.Pass ⟨0, 0, 0, 0⟩))
  | _ => dr 0
/-- objects of the heap behind the top -/
noncomputable def kv (p : Params) (x : Str) (t : Nat) (v : Value) : DictEntry := ⟨PyData.keyHash p x, .str x t, v⟩
noncomputable def dcO (es : List DictEntry) (n : Nat) : Obj := { cls := .type "dict", data := .dict es.toArray n }
noncomputable def cdO (vs : Array Value) : Obj := { cls := .type "code", data := .fields vs }
noncomputable def fnO (d : DefRec) (qual : Str) (pm : Value) (cd : Addr) : Obj := ⟨.type "function", none, .func (fnOf d.name qual d.params d.body d.scope .none .none .none pm none (.ref cd) .none), #[]⟩
noncomputable def hd.heap_39 : Params → Frag := fun p =>
  (nat_lit 3, dcO (kv p "__name__" 165 (.str "law_pq0047_01" 486) :: kv p "__doc__" 166 (.none) :: kv p "__package__" 167 (.none) :: kv p "__loader__" 168 (.builtin "__main__.__loader__#opaque") :: kv p "__spec__" 169 (.none) :: kv p "__annotations__" 170 (.ref 6) :: kv p "__builtins__" 171 (.ref 4) :: kv p "__file__" 173 (.str "/claim/cut.py" 172) :: kv p "__cached__" 174 (.none) :: kv p "HeapError" 226 (.ref 40) :: kv p "TermFault" 242 (.ref 53) :: kv p "RuleFault" 258 (.ref 65) :: kv p "PaperFault" 293 (.ref 93) :: kv p "is_variable" 302 (.ref 102) :: kv p "variables" 308 (.ref 107) :: kv p "placed" 314 (.ref 112) :: kv p "parts" 320 (.ref 117) :: kv p "parts_of" 329 (.ref 124) :: kv p "is_plain_term" 338 (.ref 131) :: kv p "are_places" 344 (.ref 136) :: kv p "has_form" 353 (.ref 143) :: kv p "in_order" 359 (.ref 148) :: kv p "want_form" 367 (.ref 155) :: kv p "turned" 374 (.ref 162) :: kv p "joined" 382 (.ref 169) :: kv p "Judge" 446 (.ref 213) :: kv p "Rule" 485 (.ref 239) :: kv p "_law_terms" 493 (.ref 250) :: kv p "_law_draw" 503 (.ref 257) :: kv p "_law_told" 513 (.ref 264) :: kv p "_law_ruled" 522 (.ref 271) :: kv p "_law_under" 528 (.ref 276) :: kv p "_law_made" 534 (.ref 281) :: kv p "_law_fits" 545 (.ref 288) :: kv p "_law_idle" 551 (.ref 293) :: kv p "law" 571 (.ref 300) :: []) 36) ::
  (nat_lit 101, cdO #[.str "is_variable" 296, .str "is_variable" 297, .str "/claim/cut.py" 298, .int 23 0, .int 1 0, .int 0 0, .int 0 0, .int 3 0, .ref 96, .bool true, .int 181 0, .ref 97, .none, .ref 98, .ref 99, .ref 100, .int 300 0, .int 23 0, .str "/claim/cut.py" 301]) ::
  (nat_lit 102, fnO (dr 6) "is_variable" (.str "alikeheap.terms" 294) 101) ::
  (nat_lit 106, cdO #[.str "variables" 303, .str "variables" 304, .str "/claim/cut.py" 305, .int 25 0, .int 1 0, .int 0 0, .int 0 0, .int 3 0, .ref 103, .bool true, .int 181 0, .ref 104, .none, .none, .none, .ref 105, .int 306 0, .int 25 0, .str "/claim/cut.py" 307]) ::
  (nat_lit 107, fnO (dr 7) "variables" (.str "alikeheap.terms" 294) 106) ::
  (nat_lit 111, cdO #[.str "placed" 309, .str "placed" 310, .str "/claim/cut.py" 311, .int 27 0, .int 2 0, .int 0 0, .int 0 0, .int 3 0, .ref 108, .bool true, .int 181 0, .ref 109, .none, .none, .none, .ref 110, .int 312 0, .int 27 0, .str "/claim/cut.py" 313]) ::
  (nat_lit 112, fnO (dr 8) "placed" (.str "alikeheap.terms" 294) 111) ::
  (nat_lit 116, cdO #[.str "parts" 315, .str "parts" 316, .str "/claim/cut.py" 317, .int 33 0, .int 1 0, .int 0 0, .int 0 0, .int 3 0, .ref 113, .bool true, .int 181 0, .ref 114, .none, .none, .none, .ref 115, .int 318 0, .int 33 0, .str "/claim/cut.py" 319]) ::
  (nat_lit 117, fnO (dr 9) "parts" (.str "alikeheap.terms" 294) 116) ::
  (nat_lit 123, cdO #[.str "parts_of" 323, .str "parts_of" 324, .str "/claim/cut.py" 325, .int 39 0, .int 1 0, .int 0 0, .int 0 0, .int 3 0, .ref 118, .bool true, .int 181 0, .ref 119, .none, .ref 120, .ref 121, .ref 122, .int 327 0, .int 39 0, .str "/claim/cut.py" 328]) ::
  (nat_lit 124, fnO (dr 11) "parts_of" (.str "alikeheap.papers" 321) 123) ::
  (nat_lit 130, cdO #[.str "is_plain_term" 330, .str "is_plain_term" 331, .str "/claim/cut.py" 332, .int 43 0, .int 1 0, .int 0 0, .int 0 0, .int 3 0, .ref 125, .bool true, .int 181 0, .ref 126, .none, .ref 127, .ref 128, .ref 129, .int 336 0, .int 43 0, .str "/claim/cut.py" 337]) ::
  (nat_lit 131, fnO (dr 12) "is_plain_term" (.str "alikeheap.papers" 321) 130) ::
  (nat_lit 135, cdO #[.str "are_places" 339, .str "are_places" 340, .str "/claim/cut.py" 341, .int 51 0, .int 1 0, .int 0 0, .int 0 0, .int 3 0, .ref 132, .bool true, .int 181 0, .ref 133, .none, .none, .none, .ref 134, .int 342 0, .int 51 0, .str "/claim/cut.py" 343]) ::
  (nat_lit 136, fnO (dr 13) "are_places" (.str "alikeheap.papers" 321) 135) ::
  (nat_lit 142, cdO #[.str "has_form" 345, .str "has_form" 346, .str "/claim/cut.py" 347, .int 58 0, .int 1 0, .int 0 0, .int 0 0, .int 3 0, .ref 137, .bool true, .int 181 0, .ref 138, .none, .ref 139, .ref 140, .ref 141, .int 351 0, .int 58 0, .str "/claim/cut.py" 352]) ::
  (nat_lit 143, fnO (dr 14) "has_form" (.str "alikeheap.papers" 321) 142) ::
  (nat_lit 147, cdO #[.str "in_order" 354, .str "in_order" 355, .str "/claim/cut.py" 356, .int 71 0, .int 1 0, .int 0 0, .int 0 0, .int 3 0, .ref 144, .bool true, .int 181 0, .ref 145, .none, .none, .none, .ref 146, .int 357 0, .int 71 0, .str "/claim/cut.py" 358]) ::
  (nat_lit 148, fnO (dr 15) "in_order" (.str "alikeheap.papers" 321) 147) ::
  (nat_lit 154, cdO #[.str "want_form" 360, .str "want_form" 361, .str "/claim/cut.py" 362, .int 80 0, .int 2 0, .int 0 0, .int 0 0, .int 3 0, .ref 149, .bool true, .int 181 0, .ref 150, .none, .ref 151, .ref 152, .ref 153, .int 365 0, .int 80 0, .str "/claim/cut.py" 366]) ::
  (nat_lit 155, fnO (dr 16) "want_form" (.str "alikeheap.papers" 321) 154) ::
  (nat_lit 161, cdO #[.str "turned" 368, .str "turned" 369, .str "/claim/cut.py" 370, .int 83 0, .int 1 0, .int 0 0, .int 0 0, .int 3 0, .ref 156, .bool true, .int 181 0, .ref 157, .none, .ref 158, .ref 159, .ref 160, .int 372 0, .int 83 0, .str "/claim/cut.py" 373]) ::
  (nat_lit 162, fnO (dr 17) "turned" (.str "alikeheap.papers" 321) 161) ::
  (nat_lit 168, cdO #[.str "joined" 375, .str "joined" 376, .str "/claim/cut.py" 377, .int 87 0, .int 2 0, .int 0 0, .int 0 0, .int 3 0, .ref 163, .bool true, .int 181 0, .ref 164, .none, .ref 165, .ref 166, .ref 167, .int 380 0, .int 87 0, .str "/claim/cut.py" 381]) ::
  (nat_lit 169, fnO (dr 18) "joined" (.str "alikeheap.papers" 321) 168) ::
  (nat_lit 182, cdO #[.str "__init__" 395, .str "Judge.__init__" 396, .str "/claim/cut.py" 397, .int 93 0, .int 3 0, .int 0 0, .int 0 0, .int 3 0, .ref 177, .bool true, .int 181 0, .ref 178, .none, .ref 179, .ref 180, .ref 181, .int 401 0, .int 93 0, .str "/claim/cut.py" 402]) ::
  (nat_lit 183, fnO (dm 19 0) "Judge.__init__" (.str "alikeheap.papers" 321) 182) ::
  (nat_lit 189, cdO #[.str "told_sides" 404, .str "Judge.told_sides" 405, .str "/claim/cut.py" 406, .int 97 0, .int 3 0, .int 0 0, .int 0 0, .int 3 0, .ref 184, .bool true, .int 181 0, .ref 185, .none, .ref 186, .ref 187, .ref 188, .int 410 0, .int 97 0, .str "/claim/cut.py" 411]) ::
  (nat_lit 190, fnO (dm 19 1) "Judge.told_sides" (.str "alikeheap.papers" 321) 189) ::
  (nat_lit 194, cdO #[.str "rule_sides" 413, .str "Judge.rule_sides" 414, .str "/claim/cut.py" 415, .int 102 0, .int 4 0, .int 0 0, .int 0 0, .int 3 0, .ref 191, .bool true, .int 181 0, .ref 192, .none, .none, .none, .ref 193, .int 416 0, .int 102 0, .str "/claim/cut.py" 417]) ::
  (nat_lit 195, fnO (dm 19 2) "Judge.rule_sides" (.str "alikeheap.papers" 321) 194) ::
  (nat_lit 199, cdO #[.str "sides_of" 419, .str "Judge.sides_of" 420, .str "/claim/cut.py" 421, .int 113 0, .int 4 0, .int 0 0, .int 0 0, .int 3 0, .ref 196, .bool true, .int 181 0, .ref 197, .none, .none, .none, .ref 198, .int 422 0, .int 113 0, .str "/claim/cut.py" 423]) ::
  (nat_lit 200, fnO (dm 19 3) "Judge.sides_of" (.str "alikeheap.papers" 321) 199) ::
  (nat_lit 204, cdO #[.str "sides" 425, .str "Judge.sides" 426, .str "/claim/cut.py" 427, .int 129 0, .int 2 0, .int 0 0, .int 0 0, .int 3 0, .ref 201, .bool true, .int 181 0, .ref 202, .none, .none, .none, .ref 203, .int 428 0, .int 129 0, .str "/claim/cut.py" 429]) ::
  (nat_lit 205, fnO (dm 19 4) "Judge.sides" (.str "alikeheap.papers" 321) 204) ::
  (nat_lit 209, cdO #[.str "count" 431, .str "Judge.count" 432, .str "/claim/cut.py" 433, .int 136 0, .int 2 0, .int 0 0, .int 0 0, .int 3 0, .ref 206, .bool true, .int 181 0, .ref 207, .none, .none, .none, .ref 208, .int 434 0, .int 136 0, .str "/claim/cut.py" 435]) ::
  (nat_lit 210, fnO (dm 19 5) "Judge.count" (.str "alikeheap.papers" 321) 209) ::
  (nat_lit 211, { cls := Value.type "tuple", data := Data.seq #[.str "rules" 437, .str "told" 438] }) ::
  (nat_lit 212, dcO (kv p "__module__" 390 (.str "alikeheap.papers" 321) :: kv p "__firstlineno__" 394 (.int 91 393) :: kv p "__init__" 403 (.ref 183) :: kv p "told_sides" 412 (.ref 190) :: kv p "rule_sides" 418 (.ref 195) :: kv p "sides_of" 424 (.ref 200) :: kv p "sides" 430 (.ref 205) :: kv p "count" 436 (.ref 210) :: kv p "__static_attributes__" 439 (.ref 211) :: kv p "__dict__" 441 (.ref 214) :: kv p "__weakref__" 443 (.ref 215) :: kv p "__doc__" 444 (.none) :: []) 4) ::
  (nat_lit 213, { cls := Value.type "type", data := Data.cls { name := "Judge", bases := [.type "object"], mro := [.ref 213, .type "object"], ns := 212, qualname := "Judge" }, slots := #[none, none, some (.str "Judge" 383), some (.str "Judge" 391), some (.builtin "object.__new__"), some (.bool true)] }) ::
  (nat_lit 214, { cls := Value.type "getset_descriptor", data := Data.fields #[.str "__dict__" 440, .ref 213, .builtin "function.__dict__", .builtin "function.__dict__#set"] }) ::
  (nat_lit 215, { cls := Value.type "getset_descriptor", data := Data.fields #[.str "__weakref__" 442, .ref 213, .builtin "ExceptionGroup.__weakref__", .none] }) ::
  (nat_lit 228, cdO #[.str "__init__" 461, .str "Rule.__init__" 462, .str "/claim/cut.py" 463, .int 141 0, .int 5 0, .int 0 0, .int 0 0, .int 3 0, .ref 225, .bool true, .int 181 0, .ref 226, .none, .none, .none, .ref 227, .int 464 0, .int 141 0, .str "/claim/cut.py" 465]) ::
  (nat_lit 229, fnO (dm 21 0) "Rule.__init__" (.str "alikeheap.rules" 447) 228) ::
  (nat_lit 235, cdO #[.str "turned" 467, .str "Rule.turned" 468, .str "/claim/cut.py" 469, .int 157 0, .int 1 0, .int 0 0, .int 0 0, .int 3 0, .ref 230, .bool true, .int 181 0, .ref 231, .none, .ref 232, .ref 233, .ref 234, .int 471 0, .int 157 0, .str "/claim/cut.py" 472]) ::
  (nat_lit 236, fnO (dm 21 1) "Rule.turned" (.str "alikeheap.rules" 447) 235) ::
  (nat_lit 237, { cls := Value.type "tuple", data := Data.seq #[.str "left" 474, .str "name" 475, .str "needs" 476, .str "right" 477] }) ::
  (nat_lit 238, dcO (kv p "__module__" 456 (.str "alikeheap.rules" 447) :: kv p "__firstlineno__" 460 (.int 139 459) :: kv p "__init__" 466 (.ref 229) :: kv p "turned" 473 (.ref 236) :: kv p "__static_attributes__" 478 (.ref 237) :: kv p "__dict__" 480 (.ref 240) :: kv p "__weakref__" 482 (.ref 241) :: kv p "__doc__" 483 (.none) :: []) 4) ::
  (nat_lit 239, { cls := Value.type "type", data := Data.cls { name := "Rule", bases := [.type "object"], mro := [.ref 239, .type "object"], ns := 238, qualname := "Rule" }, slots := #[none, none, some (.str "Rule" 449), some (.str "Rule" 457), some (.builtin "object.__new__"), some (.bool true)] }) ::
  (nat_lit 240, { cls := Value.type "getset_descriptor", data := Data.fields #[.str "__dict__" 479, .ref 239, .builtin "function.__dict__", .builtin "function.__dict__#set"] }) ::
  (nat_lit 241, { cls := Value.type "getset_descriptor", data := Data.fields #[.str "__weakref__" 481, .ref 239, .builtin "ExceptionGroup.__weakref__", .none] }) ::
  (nat_lit 249, cdO #[.str "_law_terms" 488, .str "_law_terms" 489, .str "/claim/cut.py" 490, .int 160 0, .int 0 0, .int 0 0, .int 0 0, .int 3 0, .ref 244, .bool true, .int 181 0, .ref 245, .none, .ref 246, .ref 247, .ref 248, .int 491 0, .int 160 0, .str "/claim/cut.py" 492]) ::
  (nat_lit 250, fnO (dr 23) "_law_terms" (.str "law_pq0047_01" 486) 249) ::
  (nat_lit 256, cdO #[.str "_law_draw" 494, .str "_law_draw" 495, .str "/claim/cut.py" 496, .int 162 0, .int 2 0, .int 0 0, .int 0 0, .int 3 0, .ref 251, .bool true, .int 181 0, .ref 252, .none, .ref 253, .ref 254, .ref 255, .int 501 0, .int 162 0, .str "/claim/cut.py" 502]) ::
  (nat_lit 257, fnO (dr 24) "_law_draw" (.str "law_pq0047_01" 486) 256) ::
  (nat_lit 263, cdO #[.str "_law_told" 504, .str "_law_told" 505, .str "/claim/cut.py" 506, .int 168 0, .int 3 0, .int 0 0, .int 0 0, .int 3 0, .ref 258, .bool true, .int 181 0, .ref 259, .none, .ref 260, .ref 261, .ref 262, .int 511 0, .int 168 0, .str "/claim/cut.py" 512]) ::
  (nat_lit 264, fnO (dr 25) "_law_told" (.str "law_pq0047_01" 486) 263) ::
  (nat_lit 270, cdO #[.str "_law_ruled" 514, .str "_law_ruled" 515, .str "/claim/cut.py" 516, .int 172 0, .int 1 0, .int 0 0, .int 0 0, .int 3 0, .ref 265, .bool true, .int 181 0, .ref 266, .none, .ref 267, .ref 268, .ref 269, .int 520 0, .int 172 0, .str "/claim/cut.py" 521]) ::
  (nat_lit 271, fnO (dr 26) "_law_ruled" (.str "law_pq0047_01" 486) 270) ::
  (nat_lit 275, cdO #[.str "_law_under" 523, .str "_law_under" 524, .str "/claim/cut.py" 525, .int 177 0, .int 1 0, .int 0 0, .int 0 0, .int 3 0, .ref 272, .bool true, .int 181 0, .ref 273, .none, .none, .none, .ref 274, .int 526 0, .int 177 0, .str "/claim/cut.py" 527]) ::
  (nat_lit 276, fnO (dr 27) "_law_under" (.str "law_pq0047_01" 486) 275) ::
  (nat_lit 280, cdO #[.str "_law_made" 529, .str "_law_made" 530, .str "/claim/cut.py" 531, .int 182 0, .int 3 0, .int 0 0, .int 0 0, .int 3 0, .ref 277, .bool true, .int 181 0, .ref 278, .none, .none, .none, .ref 279, .int 532 0, .int 182 0, .str "/claim/cut.py" 533]) ::
  (nat_lit 281, fnO (dr 28) "_law_made" (.str "law_pq0047_01" 486) 280) ::
  (nat_lit 287, cdO #[.str "_law_fits" 535, .str "_law_fits" 536, .str "/claim/cut.py" 537, .int 201 0, .int 5 0, .int 0 0, .int 0 0, .int 3 0, .ref 282, .bool true, .int 181 0, .ref 283, .none, .ref 284, .ref 285, .ref 286, .int 543 0, .int 201 0, .str "/claim/cut.py" 544]) ::
  (nat_lit 288, fnO (dr 29) "_law_fits" (.str "law_pq0047_01" 486) 287) ::
  (nat_lit 292, cdO #[.str "_law_idle" 546, .str "_law_idle" 547, .str "/claim/cut.py" 548, .int 203 0, .int 1 0, .int 0 0, .int 0 0, .int 3 0, .ref 289, .bool true, .int 181 0, .ref 290, .none, .none, .none, .ref 291, .int 549 0, .int 203 0, .str "/claim/cut.py" 550]) ::
  (nat_lit 293, fnO (dr 30) "_law_idle" (.str "law_pq0047_01" 486) 292) ::
  (nat_lit 299, cdO #[.str "law" 552, .str "law" 553, .str "/claim/cut.py" 554, .int 211 0, .int 1 0, .int 0 0, .int 0 0, .int 3 0, .ref 294, .bool true, .int 181 0, .ref 295, .none, .ref 296, .ref 297, .ref 298, .int 569 0, .int 211 0, .str "/claim/cut.py" 570]) ::
  (nat_lit 300, fnO (dr 31) "law" (.str "law_pq0047_01" 486) 299) :: []
noncomputable def hd.view_39 : Program := view Mine.pr [1, 2, 3, 4, 6, 7, 8, 9, 11, 12, 13, 14, 15, 16, 17, 18, 19, 21, 23, 24, 25, 26, 27, 28, 29, 30, 31]
noncomputable abbrev addrs : List Addr := [3, 101, 102, 106, 107, 111, 112, 116, 117, 123, 124, 130, 131, 135, 136, 142, 143, 147, 148, 154, 155, 161, 162, 168, 169, 182, 183, 189, 190, 194, 195, 199, 200, 204, 205, 209, 210, 211, 212, 213, 214, 215, 228, 229, 235, 236, 237, 238, 239, 240, 241, 249, 250, 256, 257, 263, 264, 270, 271, 275, 276, 280, 281, 287, 288, 292, 293, 299, 300]
noncomputable def hook : Hook := kHook hd.heap_39 addrs (fun _ => by kernel_rfl)
theorem boot_is : ∀ w : World, (fencedOpening treeTable pr w 4676).map (fun s => (s.heap, s.gens, s.drawn, s.toks)) = some (boot_heap w.params, #[], boot_drawn, boot_toks) := boot_open (by kernel_rfl) rfl fun s => by kernel_rfl
theorem run_is (w : World) (os : OsState) : (runT (stepT (denote treeTable) pr w) (stepOk 11 (some (.ref 6))) 2400 (S0 w os) (topStub pr)).map (fun s => (topOk pr w s.abs, openSeen hd.view_39 [] (importedModules pr.main.body) (fun s => xlAt hd.view_39 [] s && recOk [] s) true s.abs, hook.obs s.abs)) = some (true, openGood hd.view_39 [], hook.val w) := by
  rw [Fast.te10156331382660048174, Fast.te11892475500146522536, Fast.te14364793385576792824, Fast.te6613529449190102663, Fast.te4187177175401517315]
  kernel_rfl
theorem said_is : PySem.Challenge.rw_pq0047_01.wellSaid = true := by rw [Fast.te9446332074065402090]; kernel_rfl
theorem hd (call : WalkO hd.view_39 [] (XL hd.view_39 []) Mine.hook.says PySem.Challenge.rw_pq0047_01.row.toRowW (Mine.dr 31) [] fun f vs => PySem.call f vs) : PySem.Challenge.rw_pq0047_01.Holds :=
  holds_law Mine.said_is fun said => PySem.W.holds_open (Xt := fun s => xlAt hd.view_39 [] s && recOk [] s) (Yf := Mine.hook.obs) (Ya := Mine.hook.val) (N := 4676) (Mine.left_of_run Mine.boot_is Mine.run_is rfl) Mine.hook.of Mine.hook.keeps (fun s e => xl_of s (Bool.and_eq_true_iff.mp e).1) XL.keeps
    (by kernel_rfl) (by kernel_rfl) (by kernel_rfl) (fun s e => recFacts_of (Bool.and_eq_true_iff.mp e).2) (by kernel_rfl) said (by decide +kernel) ⟨rfl, rfl, rfl, rfl, rfl, by decide +kernel⟩ (by w_witness2) call
end
section
open PySem PySem.W PyProof.Rows
section
open PySem PySem.W PyProof.Rows
noncomputable abbrev PR : Program := PySem.Challenge.rw_pq0047_01.row.prog
/-- what every call of the text's own leans on -/
structure Gd (w : World) (mg mb : Str → Option Value) (h : Heap) : Prop where
  k : (hd.heap_39 w.params).In h
  t : TopRead hd.view_39 [] mg mb h
theorem Gd.keeps {w : World} {mg mb : Str → Option Value} {h h' : Heap} (G : Gd w mg mb h) (k : h.StaysIn h') : Gd w mg mb h' := ⟨G.k.keeps k, G.t.keeps k⟩
structure Room (A : Around) (n : Nat) : Prop where
  d : A.depth + 4 * n < recursionLimit
  u : A.units + 20 * n < cLine
  h : A.handled = none
theorem Room.depth {A : Around} {n : Nat} (r : Room A n) : A.depth < recursionLimit := by have := r.d; omega
theorem Room.mono {A : Around} {n k : Nat} (r : Room A n) (h : k ≤ n) : Room A k := ⟨by have := r.d; omega, by have := r.u; omega, r.h⟩
theorem Room.deeper {A : Around} {n : Nat} {env : Env} (r : Room A (n + 1)) : Room (A.deeper env) n := ⟨by have := r.d; show A.depth + 1 + 4 * n < _; omega, by have := r.u; show A.units + 3 + 20 * n < _; omega, r.h⟩
theorem StaysIn.refl (h : Heap) : h.StaysIn h := fun _ _ e => e
open Classical in
noncomputable def restOf (b h : Heap) (L : Addr) (xs : List Addr) : List (Addr × Obj) :=
  (List.range h.objs.size).filterMap fun a => if a = L ∨ a ∈ xs ∨ (b.get? a).isSome = true then none else (h.get? a).map fun o => (a, o)
theorem mem_restOf {b h : Heap} {L : Addr} {xs : List Addr} {p : Addr × Obj} : p ∈ restOf b h L xs ↔ h.get? p.1 = some p.2 ∧ p.1 ≠ L ∧ p.1 ∉ xs ∧ b.get? p.1 = none := by
  unfold restOf
  rw [List.mem_filterMap]
  constructor
  · rintro ⟨a, ha, e⟩
    split at e
    · cases e
    · rename_i hn
      obtain ⟨o, ho, rfl⟩ := Option.map_eq_some_iff.mp e
      refine ⟨ho, fun q => hn (.inl q), fun q => hn (.inr (.inl q)), ?_⟩
      cases hb : b.get? a with
      | none => rfl
      | some _ => exact absurd (.inr (.inr (by rw [hb]; rfl))) hn
  · rintro ⟨h1, h2, h3, h4⟩
    refine ⟨p.1, List.mem_range.mpr (Heap.lt_size h1), ?_⟩
    rw [if_neg (by rintro (q | q | q); exact h2 q; exact h3 q; rw [h4] at q; cases q), h1]
    rfl
inductive T where
  | a | b | lf | lg | vx | vy
  | f (t : T)
  | g (t u : T)
noncomputable def T.isVar : T → Bool
  | .vx => true
  | .vy => true
  | _ => false
noncomputable def T.size : T → Nat
  | .f t => t.size + 1
  | .g t u => t.size + u.size + 1
  | _ => 1
noncomputable def T.depth : T → Nat
  | .f t => t.depth + 1
  | .g t u => max t.depth u.depth + 1
  | _ => 1
noncomputable def T.plain : T → Prop
  | .f t => t.plain
  | .g t u => t.plain ∧ u.plain
  | .vx => False
  | .vy => False
  | _ => True
noncomputable def T.op : T → Str
  | .a => "a"
  | .b => "b"
  | .lf => "f"
  | .lg => "g"
  | .vx => "?x"
  | .vy => "?y"
  | .f _ => "f"
  | .g _ _ => "g"
inductive TermAt (h : Heap) : Value → T → Prop
  | a {p : Addr} {tk : Tok} : IsTup h p #[.str "a" tk] → TermAt h (.ref p) .a
  | b {p : Addr} {tk : Tok} : IsTup h p #[.str "b" tk] → TermAt h (.ref p) .b
  | lf {p : Addr} {tk : Tok} : IsTup h p #[.str "f" tk] → TermAt h (.ref p) .lf
  | lg {p : Addr} {tk : Tok} : IsTup h p #[.str "g" tk] → TermAt h (.ref p) .lg
  | vx {p : Addr} {tk : Tok} : IsTup h p #[.str "?x" tk] → TermAt h (.ref p) .vx
  | vy {p : Addr} {tk : Tok} : IsTup h p #[.str "?y" tk] → TermAt h (.ref p) .vy
  | f {p : Addr} {tk : Tok} {v : Value} {t : T} : IsTup h p #[.str "f" tk, v] → TermAt h v t → TermAt h (.ref p) (.f t)
  | g {p : Addr} {tk : Tok} {v u : Value} {t t' : T} : IsTup h p #[.str "g" tk, v, u] → TermAt h v t → TermAt h u t' → TermAt h (.ref p) (.g t t')
theorem TermAt.keeps {h h' : Heap} (k : h.StaysIn h') {v : Value} {t : T} (x : TermAt h v t) : TermAt h' v t := by
  induction x with
  | a i => exact .a (stays_tup k i)
  | b i => exact .b (stays_tup k i)
  | lf i => exact .lf (stays_tup k i)
  | lg i => exact .lg (stays_tup k i)
  | vx i => exact .vx (stays_tup k i)
  | vy i => exact .vy (stays_tup k i)
  | f i _ ih => exact .f (stays_tup k i) ih
  | g i _ _ ih ih' => exact .g (stays_tup k i) ih ih'
inductive TermsAt (h : Heap) : List Value → List T → Prop
  | nil : TermsAt h [] []
  | cons {v : Value} {t : T} {vs : List Value} {ts : List T} : TermAt h v t → TermsAt h vs ts → TermsAt h (v :: vs) (t :: ts)
theorem TermsAt.length {h : Heap} {vs : List Value} {ts : List T} (x : TermsAt h vs ts) : vs.length = ts.length := by
  induction x with
  | nil => rfl
  | cons i _ ih => simp [ih]
noncomputable abbrev tupOf (its : Array Value) (n : Nat) : Obj := { cls := .type "tuple", data := .seq its n }
section
variable {prog : Program} {w : World} {A : Around} {s : Shared} {E : Value → Shared → Prop} {Q : Value → Shared → Prop}
theorem typeOf_tuple_ty : typeOf (.type "tuple") = pure (.type "type") := by kernel_rfl
theorem typeOf_str_ty : typeOf (.type "str") = pure (.type "type") := by kernel_rfl
theorem isi_tup {a : Addr} {its : Array Value} (ht : IsTup s.heap a its) (h : Q (.bool true) s) : wpAny (model prog w) A (call (.builtin "isinstance") [.ref a, .type "tuple"]) Q E s :=
  call_isinstance (isinstance_true typeOf_tuple_ty isSubtype_tuple_tuple) ⟨ht.typeIs, h⟩
theorem isi_str {x : Str} {tk : Tok} (h : Q (.bool true) s) : wpAny (model prog w) A (call (.builtin "isinstance") [.str x tk, .type "str"]) Q E s :=
  call_isinstance (isinstance_true typeOf_str_ty isSubtype_str_str) ⟨typeIs_str _ _ _, h⟩
end
theorem T.size_pos (t : T) : 1 ≤ t.size := by cases t <;> simp [T.size]
noncomputable def T.kids : T → List T
  | .f t => [t]
  | .g t u => [t, u]
  | _ => []
theorem TermAt.view {h : Heap} {v : Value} {t : T} (x : TermAt h v t) : ∃ a tk vs, v = .ref a ∧ IsTup h a (.str t.op tk :: vs).toArray ∧ TermsAt h vs t.kids := by
  cases x with
  | a i => exact ⟨_, _, _, rfl, i, .nil⟩
  | b i => exact ⟨_, _, _, rfl, i, .nil⟩
  | lf i => exact ⟨_, _, _, rfl, i, .nil⟩
  | lg i => exact ⟨_, _, _, rfl, i, .nil⟩
  | vx i => exact ⟨_, _, _, rfl, i, .nil⟩
  | vy i => exact ⟨_, _, _, rfl, i, .nil⟩
  | f i x => exact ⟨_, _, _, rfl, i, .cons x .nil⟩
  | g i x y => exact ⟨_, _, _, rfl, i, .cons x (.cons y .nil)⟩
theorem T.kids_plain {t : T} (h : t.plain) : ∀ u ∈ t.kids, u.plain := by
  cases t <;> simp_all [T.kids, T.plain]
theorem T.kids_size (t : T) : (t.kids.map T.size).sum + 1 = t.size := by
  cases t <;> simp [T.kids, T.size]
theorem T.kids_le (t : T) : t.kids.length ≤ 2 := by cases t <;> simp [T.kids]
theorem T.plain_op {t : T} (h : t.plain) : t.op = "a" ∨ t.op = "b" ∨ t.op = "f" ∨ t.op = "g" := by
  cases t <;> simp_all [T.op, T.plain]
theorem plain_first {x : Str} (h : x = "a" ∨ x = "b" ∨ x = "f" ∨ x = "g") : ((["", "?"] : List Str).any fun y => y == Txt.slice x none (some 1)) = false := by
  rcases h with rfl | rfl | rfl | rfl <;> decide +kernel
section
variable {prog : Program} {w : World} {A : Around} {s : Shared} {E : Value → Shared → Prop} {Q : Value → Shared → Prop}
theorem seq0 (n : Nat) : seqIndex? 0 (n + 1) = some 0 := by unfold seqIndex?; simp
theorem item_0 {value slice : Expr} {t : Addr} {l : List Value} {u : Tok} {x : Value} (ht : IsTup s.heap t (x :: l).toArray) (h : Q x s)
    (hs : subscripted slice false (.ref t) (.int 0 u) = operate [.ref t, .int 0 u] (getItem (.ref t) (.int 0 u)) := by with_unfolding_all rfl) :
    wpAny (model prog w) A (subscriptTail value slice (.ref t) (.int 0 u)) Q E s :=
  item_tupleT ht (by decide) (by decide) (seq0 _) rfl h hs
end
end
section
open PySem PySem.W PyProof.Rows PySem.Calls
/-- the tuples stay -/
noncomputable def TupSub (h h' : Heap) : Prop := ∀ a o, o.cls = .type "tuple" → (∃ it n, o.data = .seq it n) → h.get? a = some o → h'.get? a = some o
theorem TupSub.trans {a b c : Heap} (x : TupSub a b) (y : TupSub b c) : TupSub a c := fun p o h1 h2 e => y p o h1 h2 (x p o h1 h2 e)
theorem TupSub.of {h h' : Heap} (x : h.StaysIn h') : TupSub h h' := fun p o _ _ e => x p o e
theorem TupSub.tup {h h' : Heap} (x : TupSub h h') {a : Addr} {items : Array Value} (t : IsTup h a items) : IsTup h' a items :=
  let ⟨o, ho, hc, n, hd⟩ := t; ⟨o, x a o hc ⟨_, _, hd⟩ ho, hc, n, hd⟩
theorem TermAt.sub {h h' : Heap} (k : TupSub h h') {v : Value} {t : T} (x : TermAt h v t) : TermAt h' v t := by
  induction x with
  | a i => exact .a (k.tup i)
  | b i => exact .b (k.tup i)
  | lf i => exact .lf (k.tup i)
  | lg i => exact .lg (k.tup i)
  | vx i => exact .vx (k.tup i)
  | vy i => exact .vy (k.tup i)
  | f i _ ih => exact .f (k.tup i) ih
  | g i _ _ ih ih' => exact .g (k.tup i) ih ih'
theorem TermsAt.sub {h h' : Heap} (k : TupSub h h') {vs : List Value} {ts : List T} (x : TermsAt h vs ts) : TermsAt h' vs ts := by
  induction x with
  | nil => exact .nil
  | cons i _ ih => exact .cons (i.sub k) ih
section
variable {prog : Program} {w : World} {A : Around} {E : Value → Shared → Prop} {R : Result → Shared → Prop} {s : Shared}
theorem false_any {α : Type} {t : Sem α} {Q : α → Shared → Prop} (h : wpAny (model prog w) A t Q (fun _ _ => False) s) : wpAny (model prog w) A t Q E s := wpAny_mono h (fun _ _ x => x) fun _ _ x => x.elim
/-- t runs and does not raise -/
noncomputable abbrev Runs (prog : Program) (w : World) (A : Around) {α : Type} (t : Sem α) (Q : α → Shared → Prop) (s : Shared) : Prop := wpAny (model prog w) A t Q (fun _ _ => False) s
theorem Runs.seq {α β : Type} {t : Sem α} {f : α → Sem β} {Q : α → Shared → Prop} {Q' : β → Shared → Prop} (x : Runs prog w A t Q s) (y : ∀ a s₁, Q a s₁ → Runs prog w A (f a) Q' s₁) : Runs prog w A (t >>= f) Q' s := wpAny_bind (wpAny_mono x y fun _ _ q => q)
/-- the tests of a comprehension -/
noncomputable abbrev testsOf (env : Env) (ifs : List Expr) : Sem Bool := forIn ifs true fun c r => if r = true then do let ok ← isTrue c env (eval c env); pure (ForInStep.yield ok) else pure (ForInStep.yield r)
/-- a comprehension's loop whose turns do not raise; the target may hand the iterator's tuple on -/
theorem compLoop_any {elt target iter : Expr} {ifs : List Expr} {scope : Scope} {pos : Pos} {it acc : Value} {env : Env} (I : Nat → Shared → Prop)
    (turn : ∀ n s, I n s → Runs prog w A (pyNext it) (fun r s₁ => match r with
      | none => R (.ok .next) s₁
      | some v => Runs prog w A (letOwnedTupleGo target it v) (fun _ s₂ => Runs prog w A (assign target env v) (fun _ s₃ => Runs prog w A (testsOf env ifs) (fun ok s₄ =>
          if ok = true then Runs prog w A (eval elt env) (fun x s₅ => Runs prog w A (call (.builtin "list.append") [acc, x]) (fun _ s₆ => ∃ m, m < n ∧ I m s₆) s₅) s₄
          else ∃ m, m < n ∧ I m s₄) s₃) s₂) s₁) s)
    (n : Nat) (h : I n s) : codeAny (model prog w) A (.compLoop (.ListComp elt [⟨target, iter, ifs, 0⟩] scope pos) 0 it acc env) R s :=
  codeAny_loop rfl I (fun k s i => wpAny_noted (false_any (by
    rw [compTurn_list]
    refine wpAny_bind (wpAny_standAt ((turn k s i).seq fun r s₁ z => ?_))
    match r, z with
    | none, z => exact wpAny_pure z
    | some v, z => exact Runs.seq z fun _ _ z => Runs.seq z fun _ _ z => Runs.seq z fun ok s₄ z => match ok, z with
      | false, z => wpAny_pure ⟨rfl, z⟩
      | true, z => Runs.seq (Runs.seq z fun _ _ z => Runs.seq z fun _ _ z => wpAny_pure z) fun _ _ z => wpAny_pure ⟨rfl, z⟩))) n h
end
end
section
open PySem PySem.W PyProof.Rows PySem.Calls
open PySem.AutoSeq1 (wpAny_loadPart')
section
variable {prog : Program} {w : World} {A : Around} {E : Value → Shared → Prop} {s : Shared}
/-- an iterator's end -/
theorem ends {α : Type} {Q : α → Shared → Prop} (hh : A.handled = none) (h : ∀ h' e, s.heap.StaysIn h' → (∃ o, h'.get? e = some o ∧ o.cls = .type "StopIteration") → E (.ref e) { s with heap := h' }) :
    wpAny (model prog w) A (Builtin.SmallTypes.stopIteration : Sem α) Q E s := by
  have m : firstArgMember (.type "StopIteration") [] = pure Value.none := by simp only [firstArgMember]; rfl
  unfold Builtin.SmallTypes.stopIteration newExc newTuple
  simp only [m, pure_bind]
  refine wpAny_bind (wpAny_bind (wpAny_newObj_type (wpAny_newObj_type (wpAny_raiseNew_none hh ?_))))
  exact h _ _ (fun a o q => Heap.get?_push_of_some _ (Heap.get?_push_of_some _ q)) ⟨_, Heap.get?_push_size _ rfl, rfl⟩
/-- a tuple's iterator: its next item, or its end -/
theorem turnT {I t : Addr} {i : Nat} {its : Array Value} {Q : Value → Shared → Prop} (hh : A.handled = none) (hI : s.heap.IsTupleIter I t i) (ht : s.heap.IsTuple t its)
    (more : ∀ x h', its[i]? = some x → h'.IsTupleIter I t (i + 1) → Heap.SameBut I s.heap h' → Q x { s with heap := h' })
    (last : ∀ h' e, its[i]? = none → Heap.ExtBut I s.heap h' → (∃ o, h'.get? e = some o ∧ o.cls = .type "StopIteration") → E (.ref e) { s with heap := h' }) :
    wpAny (model prog w) A (Builtin.SmallTypes.nextOf (.ref I)) Q E s := by
  have hT := hI.typeIs
  obtain ⟨oI, gI, cI, dI⟩ := hI
  obtain ⟨ot, gt, _, k, dt⟩ := ht
  have walk : wpAny (model prog w) A.in1 (Builtin.«tuple_iterator.__next__» ⟨[.ref I], []⟩) (fun f s' => ∃ v, f = .done (.ret v) ∧ Q v s') E s := by
    show wpAny _ _ (do let q ← field (.ref I) 0; _) _ _ s
    refine wpAny_bind (wpAny_field gI dI rfl ?_)
    show wpAny _ _ (do let j ← field (.ref I) 1; _) _ _ s
    refine wpAny_bind (wpAny_field gI dI rfl ?_)
    show wpAny _ _ (do let xs ← seqItems? (.ref t); _) _ _ s
    refine wpAny_bind (wpAny_seqItems gt dt ?_)
    dsimp only
    rw [Int.toNat_natCast]
    cases e : its[i]? with
    | some x =>
      refine wpAny_bind (wpAny_setField gI dI (by simp) (wpAny_pure ⟨x, rfl, more x _ e ⟨_, Heap.get?_update_self _ gI (Obj.isFreed_of_fields (Obj.data_mapFields dI _)), by rw [Obj.cls_mapFields]; exact cI, ?_⟩ (Heap.SameBut.update ..)⟩))
      rw [Obj.data_mapFields dI]; simp [rawInt]
    | none => exact wpAny_bind (wpAny_rule (wpAny_bind (wpAny_setField gI dI (by simp) (ends hh fun h' a st q => last h' a e (fun b o hb g => st _ _ ((Heap.SameBut.update ..).extBut b o hb g)) q))))
  unfold Builtin.SmallTypes.nextOf
  refine wpAny_bind (wpAny_callSpecial?_slot (name := Str.ofString "__next__") hT F.slot_tuple_iterator_next (wpAny_call_entry F.slot_tuple_iterator_next hT F.entry_tuple_iterator_next ?_ (F.args_tuple_iterator_next_1 _)))
  exact wpAny_mono walk (fun f s' ⟨v, e, q⟩ => ⟨v, e, wpAny_pure q⟩) fun _ _ q => q
end
theorem drawsT {prog : Program} {w : World} {A : Around} (hh : A.handled = none) {I t : Addr} (ne : t ≠ I) (its : Array Value) :
    Draws prog w A I [I, t] its.size (fun i v => its[i]? = some v) (fun i h => h.IsTupleIter I t i ∧ h.IsTuple t its) where
  live := fun _ _ ⟨⟨o, e, _⟩, _⟩ => ⟨o, e⟩
  frame := fun _ _ _ ⟨⟨o, e, r⟩, ⟨o', e', r'⟩⟩ k => ⟨⟨o, k I (.head _) o e, r⟩, ⟨o', k t (.tail _ (.head _)) o' e', r'⟩⟩
  item := fun i s Q E lt ⟨a, b⟩ q => turnT hh a b (fun x h' e a' k => q x h' s.toks e ⟨a', b.extBut k.extBut ne⟩ k) fun _ _ e => by
    rw [Array.getElem?_eq_getElem lt] at e; cases e
  done := fun s Q E ⟨a, b⟩ q => turnT hh a b (fun x h' e => by rw [Array.getElem?_eq_none (Nat.le_refl _)] at e; cases e) fun h' a _ k o => q h' a k o
noncomputable abbrev itT (t : Addr) : Obj := { cls := .type "tuple_iterator", data := .fields #[.ref t, .int 0 0] }
noncomputable abbrev enO (I : Addr) : Obj := { cls := .type "enumerate", data := .fields #[.none, .bool false, .ref I, rawInt 0, .none, .none] }
theorem newE (t : Addr) (its : Array Value) : Meets (Builtin.«enumerate.__new__» ⟨[.type "enumerate", .ref t], []⟩) fun _ R s =>
    s.heap.IsTuple t its ∧ R (.ok (.ret (.ref (s.heap.objs.size + 1)))) { s with heap := (s.heap.push (itT t)).push (enO s.heap.objs.size) } := .of_wp fun prog w A R s h => by
  obtain ⟨hp, g, d, tk, os⟩ := s
  obtain ⟨⟨⟨c, di, da, sl⟩, ho, hc, n, hd⟩, h⟩ := h
  dsimp only at hc hd ho h
  subst hc hd
  have su := sub_enumerate
  have fin : ∀ {A' : Around} {Q' : Value → Shared → Prop} {E' : Value → Shared → Prop}, Q' (.ref hp.objs.size) ⟨hp.push (itT t), g, d, tk, os⟩ → wpAny (model prog w) A' (pyIter (.ref t)) Q' E' ⟨hp, g, d, tk, os⟩ := fun q => wpAny_pyIter_tuple ⟨_, ho, rfl, n, rfl⟩ q
  have z : (hp.push (itT t)).objs.size = hp.objs.size + 1 := Heap.size_push ..
  wp_walk using AutoSeq1.wpAny_loadPart' ho
  refine wpAny_stack_any fun st => wpAny_pure ?_
  split
  · rename_i c' _ _ _ _ _
    generalize (c' == Value.type "enumerate") = b
    cases b
    all_goals
      wp_walk using AutoSeq1.wpAny_loadPart' ho, fin
      exact ⟨_, rfl, by rw [← z] at h; exact h⟩
  · wp_walk using AutoSeq1.wpAny_loadPart' ho, fin
    exact ⟨_, rfl, by rw [← z] at h; exact h⟩
theorem callE {prog : Program} {w : World} {A : Around} {E : Value → Shared → Prop} {s : Shared} {t : Addr} {its : Array Value} {Q : Value → Shared → Prop} (ht : s.heap.IsTuple t its)
    (h : Q (.ref (s.heap.objs.size + 1)) { s with heap := (s.heap.push (itT t)).push (enO s.heap.objs.size) }) : wpAny (model prog w) A (call (.type "enumerate") [.ref t]) Q E s := by
  refine callType_new F.called_enumerate (by decide) (F.typeCall_enumerate_1 _) (F.newCall_enumerate_1 _) (fun _ => F.args_object_init_2 _ _) F.entry_enumerate_new (newE t its) ⟨ht, ?_⟩
  exact ⟨⟨enO s.heap.objs.size, by have := Heap.get?_push_size (s.heap.push (itT t)) (o := enO s.heap.objs.size) rfl; rw [Heap.size_push] at this; exact this, rfl⟩, h⟩
theorem enE (h : Heap) (t : Addr) : ∃ h₂, (h.push (itT t)).push (enO h.objs.size) = h₂ ∧ IsEnum h₂ (h.objs.size + 1) h.objs.size (0 : Nat) .none ∧ h₂.IsTupleIter h.objs.size t 0 ∧ h₂.objs.size = h.objs.size + 2 ∧ h.StaysIn h₂ := by
  have e := Heap.get?_push_size (h.push (itT t)) (o := enO h.objs.size) rfl
  rw [Heap.size_push] at e
  exact ⟨_, rfl, e, ⟨_, Heap.get?_push_of_some _ (Heap.get?_push_size _ rfl), rfl, rfl⟩, by rw [Heap.size_push, Heap.size_push], fun a o q => Heap.get?_push_of_some _ (Heap.get?_push_of_some _ q)⟩
end
section
open PySem PySem.W PyProof.Rows PySem.Calls
section
variable {prog : Program} {w : World} {A : Around} {E : Value → Shared → Prop} {s : Shared} {env : Env} {b g : Heap} {L : Addr} {m : Str → Option Value} {news : List (Addr × Obj)}
theorem nm_K {mg mb : Str → Option Value} {x : Str} {pos : Pos} {v : Value} {Q : Value → Shared → Prop} (G : Gd w mg mb b) (st : b.StaysIn s.heap) (e : nsIn (hd.heap_39 w.params) mainGlobals x = some (some v)) (h : Q v s)
    (hg : env.globals = mainGlobals) (hk : env.scope.kind = .function) (hx : env.kindOf x = some .globalImplicit) (hd : (x == ("__debug__" : Str)) = false) :
    wpAny (model prog w) A (eval (.Name x pos) env) Q E s :=
  Name_function_global hk hx (loadGlobal_global (env := env) (by rw [hg]; exact G.t.g.keeps st) (mg_of G.k G.t.g e) h) hd
theorem nm_B {mg mb : Str → Option Value} {x : Str} {pos : Pos} {v : Value} {Q : Value → Shared → Prop} (G : Gd w mg mb b) (st : b.StaysIn s.heap) (e : nsIn (hd.heap_39 w.params) mainGlobals x = some none) (hv : bootBuiltins x = some v) (hn : x ≠ "__name__") (h : Q v s)
    (hg : env.globals = mainGlobals) (hb : env.builtins = builtinsNs) (hk : env.scope.kind = .function) (hx : env.kindOf x = some .globalImplicit) (hd : (x == ("__debug__" : Str)) = false) :
    wpAny (model prog w) A (eval (.Name x pos) env) Q E s :=
  Name_function_global hk hx (loadGlobal_builtin (env := env) (by rw [hg]; exact G.t.g.keeps st) (mg_none_of G.k G.t.g e) (by rw [hb]; exact G.t.b.keeps st) ((G.t.builtins x hn).trans hv) h) hd
theorem go_any {target : Expr} {I : Addr} {o : Obj} {n : String} {v : Value} {Q : Unit → Shared → Prop} (ho : s.heap.get? I = some o) (hc : o.cls = .type n)
    (hn : (["enumerate", "zip", "dict_itemiterator", "dict_reverseitemiterator", "odict_iterator", "itertools.zip_longest", "itertools.pairwise"].contains n) = false) (h : Q () s) :
    wpAny (model prog w) A (letOwnedTupleGo target (.ref I) v) Q E s := by
  unfold letOwnedTupleGo
  split
  · split
    · rename_i r a e
      cases e
      refine wpAny_bind (wpAny_load ho ?_)
      rw [hc]
      split
      · rename_i n' vs e1 e2
        cases e1
        rw [hn, Bool.false_and, if_neg Bool.false_ne_true]
        exact wpAny_pure h
      · exact wpAny_pure h
    · exact wpAny_pure h
  · split
    · rename_i r a e
      cases e
      refine wpAny_bind (wpAny_load ho ?_)
      rw [hc]
      split
      · rename_i n' vs e1 e2
        cases e1
        rw [hn, Bool.false_and, if_neg Bool.false_ne_true]
        exact wpAny_pure h
      · exact wpAny_pure h
    · exact wpAny_pure h
  · exact wpAny_pure h
end
end
section
open PySem PySem.W PyProof.Rows PySem.Calls
inductive All2 {α β : Type} (R : α → β → Prop) : List α → List β → Prop
  | nil : All2 R [] []
  | cons {x : α} {y : β} {xs : List α} {ys : List β} : R x y → All2 R xs ys → All2 R (x :: xs) (y :: ys)
section
variable {α β : Type} {R R' : α → β → Prop}
theorem All2.imp (h : ∀ x y, R x y → R' x y) {xs : List α} {ys : List β} (a : All2 R xs ys) : All2 R' xs ys := by
  induction a with
  | nil => exact .nil
  | cons x _ ih => exact .cons (h _ _ x) ih
theorem All2.length {xs : List α} {ys : List β} (a : All2 R xs ys) : xs.length = ys.length := by
  induction a with
  | nil => rfl
  | cons x _ ih => simp [ih]
theorem All2.append {xs us : List α} {ys vs : List β} (a : All2 R xs ys) (b : All2 R us vs) : All2 R (xs ++ us) (ys ++ vs) := by
  induction a with
  | nil => exact b
  | cons x _ ih => exact .cons x ih
theorem All2.one {x : α} {y : β} (h : R x y) : All2 R [x] [y] := .cons h .nil
theorem All2.get {xs : List α} {ys : List β} (a : All2 R xs ys) {i : Nat} {x : α} (h : xs[i]? = some x) : ∃ y, ys[i]? = some y ∧ R x y := by
  induction a generalizing i with
  | nil => simp at h
  | cons r _ ih =>
    cases i with
    | zero => simp only [List.getElem?_cons_zero, Option.some.injEq] at h; subst h; exact ⟨_, by simp, r⟩
    | succ i => simp only [List.getElem?_cons_succ] at h ⊢; exact ih h
theorem All2.snoc {xs : List α} {x : α} {ys : List β} (a : All2 R (xs ++ [x]) ys) : ∃ ys' y, ys = ys' ++ [y] ∧ All2 R xs ys' ∧ R x y := by
  induction xs generalizing ys with
  | nil => cases a with | cons r z => cases z; exact ⟨[], _, rfl, .nil, r⟩
  | cons u us ih => cases a with | cons r z => obtain ⟨ys', y, rfl, a, b⟩ := ih z; exact ⟨_ :: ys', y, rfl, .cons r a, b⟩
theorem All2.reverse {xs : List α} {ys : List β} (a : All2 R xs ys) : All2 R xs.reverse ys.reverse := by
  induction a with
  | nil => exact .nil
  | cons r _ ih => rw [List.reverse_cons, List.reverse_cons]; exact ih.append (.one r)
end
theorem TermsAt.get {h : Heap} {xs : List Value} {ys : List T} (a : TermsAt h xs ys) {i : Nat} {x : Value} (e : xs[i]? = some x) : ∃ y, ys[i]? = some y ∧ TermAt h x y := by
  induction a generalizing i with
  | nil => simp at e
  | cons r _ ih =>
    cases i with
    | zero => simp only [List.getElem?_cons_zero, Option.some.injEq] at e; subst e; exact ⟨_, by simp, r⟩
    | succ i => simp only [List.getElem?_cons_succ] at e ⊢; exact ih e
section
variable {prog : Program} {w : World} {A : Around} {s : Shared} {E : Value → Shared → Prop} {Q : Value → Shared → Prop} {value slice : Expr} {t : Addr} {l : List Value} {u : Tok} {x y z y' : Value}
theorem seq1 (n : Nat) : seqIndex? 1 (n + 2) = some 1 := by unfold seqIndex?; simp; omega
theorem seq2 (n : Nat) : seqIndex? 2 (n + 3) = some 2 := by unfold seqIndex?; simp; omega
theorem seq3 (n : Nat) : seqIndex? 3 (n + 4) = some 3 := by unfold seqIndex?; simp; omega
theorem item_1 (ht : IsTup s.heap t (y :: x :: l).toArray) (h : Q x s)
    (hs : subscripted slice false (.ref t) (.int 1 u) = operate [.ref t, .int 1 u] (getItem (.ref t) (.int 1 u)) := by with_unfolding_all rfl) :
    wpAny (model prog w) A (subscriptTail value slice (.ref t) (.int 1 u)) Q E s :=
  item_tupleT ht (by decide) (by decide) (seq1 _) rfl h hs
theorem item_2 (ht : IsTup s.heap t (y :: z :: x :: l).toArray) (h : Q x s)
    (hs : subscripted slice false (.ref t) (.int 2 u) = operate [.ref t, .int 2 u] (getItem (.ref t) (.int 2 u)) := by with_unfolding_all rfl) :
    wpAny (model prog w) A (subscriptTail value slice (.ref t) (.int 2 u)) Q E s :=
  item_tupleT ht (by decide) (by decide) (seq2 _) rfl h hs
theorem item_3 (ht : IsTup s.heap t (y :: z :: y' :: x :: l).toArray) (h : Q x s)
    (hs : subscripted slice false (.ref t) (.int 3 u) = operate [.ref t, .int 3 u] (getItem (.ref t) (.int 3 u)) := by with_unfolding_all rfl) :
    wpAny (model prog w) A (subscriptTail value slice (.ref t) (.int 3 u)) Q E s :=
  item_tupleT ht (by decide) (by decide) (seq3 _) rfl h hs
end
noncomputable def T.parts : T → List T
  | .f t => .f t :: t.parts
  | .g t u => .g t u :: (t.parts ++ u.parts)
  | t => [t]
theorem T.parts_eq (t : T) : t.parts = t :: t.kids.flatMap T.parts := by
  cases t <;> simp [T.parts, T.kids]
theorem T.parts_len (t : T) : t.parts.length = t.size := by
  induction t <;> simp_all [T.parts, T.size]
noncomputable def PartAt (h : Heap) (d : Nat) (v : Value) (t : T) : Prop := ∃ p q l u, v = .ref p ∧ IsTup h p [.ref q, u].toArray ∧ IsTup h q (List.toArray l) ∧ l.length ≤ d ∧ TermAt h u t
theorem PartAt.sub {h h' : Heap} {d d' : Nat} {v : Value} {t : T} (x : PartAt h d v t) (k : TupSub h h') (hd : d ≤ d') : PartAt h' d' v t :=
  let ⟨p, q, l, u, e, a, b, c, d⟩ := x; ⟨p, q, l, u, e, k.tup a, k.tup b, Nat.le_trans c hd, d.sub k⟩
end
section
open PySem PySem.W PyProof.Rows PySem.Calls
theorem T.depth_pos (t : T) : 1 ≤ t.depth := by cases t <;> simp [T.depth]
end
section
open PySem PySem.W PyProof.Rows PySem.Calls
noncomputable def stepS (σ : List Str) (v : Str) : List Str := if v ∈ σ then σ else σ ++ [v]
noncomputable def metS (xs : List Str) : List Str := xs.foldl stepS []
end
section
open PySem PySem.W PyProof.Rows PySem.Calls
/-- what «sorted(set(..))» of these strs is -/
noncomputable def SortTo (xs ys : List Str) : Prop := 0 < (metS xs).length ∧ (metS xs).length < 64 ∧ ∀ ss : List Str, ss.length = (metS xs).length → (∀ k, k ∈ ss ↔ k ∈ metS xs) → sortedS ss = true → ss = ys
theorem sortTo_1 {xs : List Str} {x : Str} (h : metS xs = [x]) : SortTo xs [x] := by
  refine ⟨by rw [h]; exact Nat.one_pos, by rw [h]; show 1 < 64; omega, fun ss hl hm _ => ?_⟩
  rw [h] at hl hm
  match ss, hl with
  | [a], _ => rw [List.mem_singleton.mp ((hm a).mp (by simp))]
theorem sortTo_2 {xs : List Str} {x y : Str} (h : metS xs = [x, y] ∨ metS xs = [y, x]) (hne : x ≠ y) (hs : sortedS [y, x] = false) : SortTo xs [x, y] := by
  have hlen : (metS xs).length = 2 := by rcases h with h | h <;> rw [h] <;> rfl
  have hmem : ∀ k, k ∈ metS xs ↔ k = x ∨ k = y := by
    intro k
    rcases h with h | h <;> rw [h] <;> simp [or_comm]
  refine ⟨by rw [hlen]; exact Nat.two_pos, by rw [hlen]; decide, fun ss hl hm hsr => ?_⟩
  rw [hlen] at hl
  match ss, hl with
  | [a, b], _ =>
    have ha := (hmem a).mp ((hm a).mp (by simp))
    have hb := (hmem b).mp ((hm b).mp (by simp))
    have hx := (hm x).mpr ((hmem x).mpr (.inl rfl))
    have hy := (hm y).mpr ((hmem y).mpr (.inr rfl))
    simp only [List.mem_cons, List.not_mem_nil, or_false] at hx hy
    rcases ha with rfl | rfl <;> rcases hb with rfl | rfl
    · exact absurd (hy.elim id id) (Ne.symm hne)
    · rfl
    · rw [hs] at hsr; cases hsr
    · exact absurd (hx.elim id id) hne
end
section
open PySem PySem.W PyProof.Rows PySem.Calls
noncomputable def T.vars (t : T) : List Str := (t.parts.filter T.isVar).map T.op
theorem vars_fx : (T.f .vx).vars = [("?x" : Str)] := by decide +kernel
theorem vars_gxx : (T.g .vx .vx).vars = [("?x" : Str), ("?x" : Str)] := by decide +kernel
theorem vars_gxy : (T.g .vx .vy).vars = [("?x" : Str), ("?y" : Str)] := by decide +kernel
theorem vars_gyx : (T.g .vy .vx).vars = [("?y" : Str), ("?x" : Str)] := by decide +kernel
theorem sort_x : SortTo [("?x" : Str)] [("?x" : Str)] := sortTo_1 (by decide +kernel)
theorem sort_xx : SortTo [("?x" : Str), ("?x" : Str)] [("?x" : Str)] := sortTo_1 (by decide +kernel)
theorem sort_xy : SortTo [("?x" : Str), ("?y" : Str)] [("?x" : Str), ("?y" : Str)] := sortTo_2 (.inl (by decide +kernel)) (by decide +kernel) (by decide +kernel)
theorem sort_yx : SortTo [("?y" : Str), ("?x" : Str)] [("?x" : Str), ("?y" : Str)] := sortTo_2 (.inr (by decide +kernel)) (by decide +kernel) (by decide +kernel)
end
section
open PySem PySem.W PyProof.Rows PySem.Calls
section
variable {prog : Program} {w : World} {A : Around} {E : Value → Shared → Prop} {s : Shared} {kvs : List (Str × Value)} {its : List Value}
/-- a dict with str keys, as an object -/
noncomputable def MapOb (prog : Program) (w : World) (o : Obj) (f : Str → Option Value) : Prop := ∀ (h' : Heap) (a : Addr), h'.get? a = some o → h'.MapOf (PySem.strKind prog w) a f
theorem getitem_some {d : Addr} {o : Obj} {f : Str → Option Value} {k : Str} {tk : Tok} {u : Value} {Q : Value → Shared → Prop} (hm : MapOb prog w o f) (hf : f k = some u) (ho : s.heap.get? d = some o) (h : Q u { s with toks := s.toks + 1 }) :
    wpAny (model prog w) A (getItem (.ref d) (.str k tk)) Q E s :=
  wpAny_getItem_of (knd := PySem.strKind prog w) (strKind_is _ _ _ _) (hm _ _ ho) hf h
theorem item_some {value slice : Expr} {d : Addr} {o : Obj} {f : Str → Option Value} {k : Str} {tk : Tok} {u : Value} {Q : Value → Shared → Prop} (hm : MapOb prog w o f) (hf : f k = some u) (ho : s.heap.get? d = some o) (h : Q u { s with toks := s.toks + 1 })
    (hs : subscripted slice false (.ref d) (.str k tk) = operate [.ref d, .str k tk] (getItem (.ref d) (.str k tk)) := by with_unfolding_all rfl) :
    wpAny (model prog w) A (subscriptTail value slice (.ref d) (.str k tk)) Q E s :=
  tail_any (hm _ _ ho).typeIs slot_dict_getitem.lookup (getitem_some hm hf ho h) hs
variable {b : Heap} {L : Addr} {m : Str → Option Value} {news : List (Addr × Obj)} {t : Addr} {n : Nat}
end
end
section
open PySem PySem.W PyProof.Rows PySem.Calls
noncomputable def T.subst (t sx sy : T) : T :=
  match t with
  | .vx => sx
  | .vy => sy
  | .f t => .f (t.subst sx sy)
  | .g t u => .g (t.subst sx sy) (u.subst sx sy)
  | .a => .a
  | .b => .b
  | .lf => .lf
  | .lg => .lg
theorem TermAt.mk {h : Heap} {a : Addr} {tk : Tok} {vs : List Value} {t : T} (i : IsTup h a (.str t.op tk :: vs).toArray) (k : TermsAt h vs t.kids) : TermAt h (.ref a) t := by
  cases t with
  | a => cases k; exact .a i
  | b => cases k; exact .b i
  | lf => cases k; exact .lf i
  | lg => cases k; exact .lg i
  | vx => cases k; exact .vx i
  | vy => cases k; exact .vy i
  | f t => cases k with | cons x y => cases y; exact .f i x
  | g t u => cases k with | cons x y => cases y with | cons z y => cases y; exact .g i x z
theorem subst_op {sx sy t : T} (h : t.isVar = false) : (t.subst sx sy).op = t.op := by cases t <;> simp_all [T.subst, T.op, T.isVar]
theorem subst_kids {sx sy t : T} (h : t.isVar = false) : (t.subst sx sy).kids = t.kids.map fun u => u.subst sx sy := by cases t <;> simp_all [T.subst, T.kids, T.isVar]
theorem vars_self {t : T} (h : t.isVar = true) : t.op ∈ t.vars := by
  cases t <;> first | (cases h; done) | decide +kernel
theorem vars_kids {t u : T} (h : u ∈ t.kids) {x : Str} (hx : x ∈ u.vars) : x ∈ t.vars := by
  unfold T.vars at hx ⊢
  rw [T.parts_eq t]
  obtain ⟨p, hp, rfl⟩ := List.mem_map.mp hx
  have hp' := List.mem_filter.mp hp
  exact List.mem_map.mpr ⟨p, List.mem_filter.mpr ⟨List.mem_cons_of_mem _ (List.mem_flatMap.mpr ⟨u, h, hp'.1⟩), hp'.2⟩, rfl⟩
end
section
open PySem PySem.W PyProof.Rows PySem.Calls
inductive P where
  | same (t : T)
  | told (lab : Str) (l r : T)
  | twice (t : T)
  | swap (t u : T)
  | turn (p : P)
  | join (p q : P)
  | under1 (p : P)
  | under2 (p q : P)
noncomputable def P.sides : P → T × T
  | .same t => (t, t)
  | .told _ l r => (l, r)
  | .twice t => (.f t, .g t t)
  | .swap t u => (.g t u, .g u t)
  | .turn p => (p.sides.2, p.sides.1)
  | .join p q => (p.sides.1, q.sides.2)
  | .under1 p => (.f p.sides.1, .f p.sides.2)
  | .under2 p q => (.g p.sides.1 q.sides.1, .g p.sides.2 q.sides.2)
noncomputable def P.count : P → Nat
  | .same _ => 0
  | .told .. => 1
  | .twice _ => 1
  | .swap .. => 1
  | .turn p => p.count
  | .join p q => p.count + q.count
  | .under1 p => p.count
  | .under2 p q => p.count + q.count
noncomputable def P.kids : P → List P
  | .turn p => [p]
  | .join p q => [p, q]
  | .under1 p => [p]
  | .under2 p q => [p, q]
  | _ => []
noncomputable def P.size : P → Nat
  | .turn p => p.size + 1
  | .join p q => p.size + q.size + 1
  | .under1 p => p.size + 1
  | .under2 p q => p.size + q.size + 1
  | _ => 1
noncomputable def small (t : T) : Prop := t.plain ∧ t.size ≤ 100
noncomputable def P.ok : P → Prop
  | .same t => small t
  | .told .. => True
  | .twice t => small t
  | .swap t u => small t ∧ small u
  | .turn p => p.ok
  | .join p q => p.ok ∧ q.ok ∧ p.sides.2 = q.sides.1 ∧ p.sides.2.depth ≤ 60
  | .under1 p => p.ok
  | .under2 p q => p.ok ∧ q.ok
/-- a tuple whose object is written whole -/
noncomputable def ExTup (h : Heap) (a : Addr) (its : List Value) : Prop := ∃ n, h.get? a = some (tupOf its.toArray n)
theorem ExTup.tup {h : Heap} {a : Addr} {its : List Value} (x : ExTup h a its) : IsTup h a its.toArray := let ⟨n, e⟩ := x; ⟨_, e, rfl, n, rfl⟩
theorem ExTup.sub {h h' : Heap} (k : TupSub h h') {a : Addr} {its : List Value} (x : ExTup h a its) : ExTup h' a its := let ⟨n, e⟩ := x; ⟨n, k _ _ rfl ⟨_, _, rfl⟩ e⟩
inductive PaperAt (h : Heap) : Value → P → Prop
  | same {a : Addr} {k : Tok} {v : Value} {t : T} : IsTup h a [.str "same" k, v].toArray → TermAt h v t → PaperAt h (.ref a) (.same t)
  | told {a : Addr} {k k' : Tok} {lab : Str} {l r : T} : IsTup h a [.str "told" k, .str lab k'].toArray → PaperAt h (.ref a) (.told lab l r)
  | twice {a pl p1 : Addr} {k k' k1 : Tok} {v : Value} {t : T} : IsTup h a [.str "rule" k, .str "twice" k', .ref pl].toArray → ExTup h pl [.ref p1] → IsTup h p1 [.str "?x" k1, v].toArray → TermAt h v t → PaperAt h (.ref a) (.twice t)
  | swap {a pl p1 p2 : Addr} {k k' k1 k2 : Tok} {v u : Value} {t t' : T} : IsTup h a [.str "rule" k, .str "swap" k', .ref pl].toArray → ExTup h pl [.ref p1, .ref p2] → IsTup h p1 [.str "?x" k1, v].toArray → TermAt h v t →
      IsTup h p2 [.str "?y" k2, u].toArray → TermAt h u t' → PaperAt h (.ref a) (.swap t t')
  | turn {a : Addr} {k : Tok} {v : Value} {p : P} : IsTup h a [.str "turn" k, v].toArray → PaperAt h v p → PaperAt h (.ref a) (.turn p)
  | join {a : Addr} {k : Tok} {v u : Value} {p q : P} : IsTup h a [.str "join" k, v, u].toArray → PaperAt h v p → PaperAt h u q → PaperAt h (.ref a) (.join p q)
  | under1 {a ps : Addr} {k k' : Tok} {v : Value} {p : P} : IsTup h a [.str "under" k, .str "f" k', .ref ps].toArray → IsTup h ps [v].toArray → PaperAt h v p → PaperAt h (.ref a) (.under1 p)
  | under2 {a ps : Addr} {k k' : Tok} {v u : Value} {p q : P} : IsTup h a [.str "under" k, .str "g" k', .ref ps].toArray → IsTup h ps [v, u].toArray → PaperAt h v p → PaperAt h u q → PaperAt h (.ref a) (.under2 p q)
theorem PaperAt.sub {h h' : Heap} (s : TupSub h h') {v : Value} {p : P} (x : PaperAt h v p) : PaperAt h' v p := by
  induction x with
  | same i t => exact .same (s.tup i) (t.sub s)
  | told i => exact .told (s.tup i)
  | twice i e j t => exact .twice (s.tup i) (e.sub s) (s.tup j) (t.sub s)
  | swap i e j t j' t' => exact .swap (s.tup i) (e.sub s) (s.tup j) (t.sub s) (s.tup j') (t'.sub s)
  | turn i _ ih => exact .turn (s.tup i) ih
  | join i _ _ ih ih' => exact .join (s.tup i) ih ih'
  | under1 i j _ ih => exact .under1 (s.tup i) (s.tup j) ih
  | under2 i j _ _ ih ih' => exact .under2 (s.tup i) (s.tup j) ih ih'
end
section
open PySem PySem.W PyProof.Rows PySem.Calls PySem.SeqAt
noncomputable def P.dep : P → Nat
  | .same t => t.depth + 1
  | .told .. => 1
  | .twice t => t.depth + 3
  | .swap t u => max t.depth u.depth + 3
  | .turn p => p.dep + 1
  | .join p q => max p.dep q.dep + 1
  | .under1 p => p.dep + 2
  | .under2 p q => max p.dep q.dep + 2
end
section
open PySem PySem.W PyProof.Rows PySem.Calls
/-- a pair of a written name and a small term -/
noncomputable def PairOk (h : Heap) (v : Value) (x : Str) : Prop := ∃ p k u t, v = .ref p ∧ IsTup h p [.str x k, u].toArray ∧ TermAt h u t ∧ small t
theorem strsAre_of {zs : List Value} {xs : List Str} (a : All2 (fun v x => ∃ tk, v = .str x tk) zs xs) : StrsAre zs xs := by
  induction a with
  | nil => exact .nil
  | cons r _ ih => obtain ⟨tk, rfl⟩ := r; exact .cons _ _ ih
end
section
open PySem PySem.W PyProof.Rows PySem.Calls
noncomputable def P.pre : P → List Int → List (List Int × P)
  | .turn p, π => (π, .turn p) :: p.pre (π ++ [0])
  | .join p q, π => (π, .join p q) :: (q.pre (π ++ [1]) ++ p.pre (π ++ [0]))
  | .under1 p, π => (π, .under1 p) :: p.pre (π ++ [0])
  | .under2 p q, π => (π, .under2 p q) :: (q.pre (π ++ [1]) ++ p.pre (π ++ [0]))
  | p, π => [(π, p)]
noncomputable def itemsOf (π : List Int) (i : Nat) : List P → List (List Int × P)
  | [] => []
  | p :: ps => (π ++ [(i : Int)], p) :: itemsOf π (i + 1) ps
theorem P.pre_eq (p : P) (π : List Int) : p.pre π = (π, p) :: ((itemsOf π 0 p.kids).reverse.flatMap fun x => x.2.pre x.1) := by
  cases p <;> simp [P.pre, P.kids, itemsOf]
theorem itemsOf_get (π : List Int) : ∀ (i j : Nat) (ps : List P), (itemsOf π i ps)[j]? = (ps[j]?).map fun p => (π ++ [((i + j : Nat) : Int)], p)
  | i, j, [] => by simp [itemsOf]
  | i, 0, p :: ps => by simp [itemsOf]
  | i, j + 1, p :: ps => by
    rw [itemsOf, List.getElem?_cons_succ, List.getElem?_cons_succ, itemsOf_get π (i + 1) j ps]
    have : i + 1 + j = i + (j + 1) := by omega
    rw [this]
theorem itemsOf_len (π : List Int) : ∀ (i : Nat) (ps : List P), (itemsOf π i ps).length = ps.length
  | _, [] => rfl
  | i, _ :: ps => by simp [itemsOf, itemsOf_len π (i + 1) ps]
theorem P.pre_len (p : P) : ∀ π, (p.pre π).length = p.size := by
  induction p with
  | join p q ih ih' => intro π; simp only [P.pre, P.size, List.length_cons, List.length_append, ih, ih']; omega
  | under2 p q ih ih' => intro π; simp only [P.pre, P.size, List.length_cons, List.length_append, ih, ih']; omega
  | turn p ih => intro π; simp [P.pre, P.size, ih]
  | under1 p ih => intro π; simp [P.pre, P.size, ih]
  | _ => intro π; rfl
theorem P.size_pos (p : P) : 1 ≤ p.size := by cases p <;> simp [P.size]
theorem P.kids_size (p : P) : (p.kids.map P.size).sum + 1 = p.size := by cases p <;> simp [P.kids, P.size]
theorem P.kids_len (p : P) : p.kids.length ≤ 2 := by cases p <;> simp [P.kids]
theorem P.kids_ok {p : P} (h : p.ok) : ∀ q ∈ p.kids, q.ok := by
  cases p <;> simp_all [P.kids, P.ok]
theorem P.kids_lt {p q : P} (h : q ∈ p.kids) : q.size < p.size := by
  cases p <;> simp_all [P.kids, P.size] <;> (rcases h with rfl | rfl <;> omega)
theorem flat_len : ∀ W : List (List Int × P), (W.flatMap fun x => x.2.pre x.1).length = (W.map fun x => x.2.size).sum
  | [] => rfl
  | x :: W => by simp only [List.flatMap_cons, List.length_append, List.map_cons, List.sum_cons, P.pre_len, flat_len W]
theorem sum_rev (W : List (List Int × P)) : (W.reverse.map fun x => x.2.size).sum = (W.map fun x => x.2.size).sum := by
  induction W with
  | nil => rfl
  | cons x W ih => simp only [List.reverse_cons, List.map_append, List.sum_append, List.map_cons, List.map_nil, List.sum_cons, List.sum_nil, ih]; omega
theorem len_sum (W : List (List Int × P)) : W.length ≤ (W.map fun x => x.2.size).sum := by
  induction W with
  | nil => exact Nat.le_refl _
  | cons x W ih => have := x.2.size_pos; simp only [List.length_cons, List.map_cons, List.sum_cons]; omega
theorem items_sum (π : List Int) : ∀ (i : Nat) (ps : List P), ((itemsOf π i ps).map fun x => x.2.size).sum = (ps.map P.size).sum
  | _, [] => rfl
  | i, p :: ps => by simp [itemsOf, items_sum π (i + 1) ps]
theorem items_mem {π : List Int} : ∀ {i : Nat} {ps : List P} {x : List Int × P}, x ∈ itemsOf π i ps → x.2 ∈ ps ∧ x.1.length = π.length + 1
  | _, [], _, h => nomatch h
  | i, p :: ps, x, h => by
    rcases List.mem_cons.mp h with rfl | h
    · exact ⟨.head _, by simp⟩
    · exact ⟨.tail _ (items_mem h).1, (items_mem h).2⟩
noncomputable def PathAt (h : Heap) (v : Value) (π : List Int) : Prop := ∃ a l, v = .ref a ∧ IsTup h a (List.toArray l) ∧ IntsAre l π
noncomputable def ItemAt (h : Heap) (v : Value) (x : List Int × P) : Prop := ∃ a pv u, v = .ref a ∧ IsTup h a [pv, u].toArray ∧ PathAt h pv x.1 ∧ PaperAt h u x.2
theorem PathAt.sub {h h' : Heap} (k : TupSub h h') {v : Value} {π : List Int} (x : PathAt h v π) : PathAt h' v π := let ⟨a, l, e, i, j⟩ := x; ⟨a, l, e, k.tup i, j⟩
theorem ItemAt.sub {h h' : Heap} (k : TupSub h h') {v : Value} {x : List Int × P} (y : ItemAt h v x) : ItemAt h' v x := let ⟨a, pv, u, e, i, j, p⟩ := y; ⟨a, pv, u, e, k.tup i, j.sub k, p.sub k⟩
end
section
open PySem PySem.W PyProof.Rows PySem.Calls
/-- a Judge with these two dicts -/
structure JudgeAt (h : Heap) (J : Addr) (rules told : Value) : Prop where
  ex : ∃ dx sl es n, h.get? J = some ⟨.ref 213, some dx, .plain, sl⟩ ∧ h.get? dx = some (dictOf es n) ∧ getL "rules" es = some (some rules) ∧ getL "told" es = some (some told) ∧
    getL "told_sides" es = some none ∧ getL "rule_sides" es = some none ∧ getL "sides_of" es = some none ∧ getL "sides" es = some none ∧ getL "count" es = some none
theorem JudgeAt.keeps {h h' : Heap} (k : h.StaysIn h') {J : Addr} {r t : Value} (x : JudgeAt h J r t) : JudgeAt h' J r t :=
  let ⟨dx, sl, es, n, a, b, c⟩ := x.ex; ⟨dx, sl, es, n, k _ _ a, k _ _ b, c⟩
theorem instAt {h : Heap} {J dx : Addr} {sl : Array (Option Value)} {es : List DictEntry} {n : Nat} {C : Addr} (a : h.get? J = some ⟨.ref C, some dx, .plain, sl⟩) (b : h.get? dx = some (dictOf es n)) : InstAt h J ⟨.ref C, some dx, .plain, sl⟩ C (some (dictOf es n)) := ⟨a, rfl, rfl, b⟩
noncomputable def SidesAt (h : Heap) (v : Value) (x : T × T) : Prop := ∃ a l r, v = .ref a ∧ IsTup h a [l, r].toArray ∧ TermAt h l x.1 ∧ TermAt h r x.2
theorem SidesAt.sub {h h' : Heap} (k : TupSub h h') {v : Value} {x : T × T} (y : SidesAt h v x) : SidesAt h' v x := let ⟨a, l, r, e, i, j, p⟩ := y; ⟨a, l, r, e, k.tup i, j.sub k, p.sub k⟩
end
section
open PySem PySem.W PyProof.Rows PySem.Calls
structure RuleAt (h : Heap) (R : Addr) (l r : T) : Prop where
  ex : ∃ dx sl es n vl vr, h.get? R = some ⟨.ref 239, some dx, .plain, sl⟩ ∧ h.get? dx = some (dictOf es n) ∧ getL "left" es = some (some vl) ∧ getL "right" es = some (some vr) ∧ TermAt h vl l ∧ TermAt h vr r
theorem RuleAt.keeps {h h' : Heap} (k : h.StaysIn h') {R : Addr} {l r : T} (x : RuleAt h R l r) : RuleAt h' R l r :=
  let ⟨dx, sl, es, n, vl, vr, a, b, c, d, i, j⟩ := x.ex; ⟨dx, sl, es, n, vl, vr, k _ _ a, k _ _ b, c, d, i.keeps k, j.keeps k⟩
end
section
open PySem PySem.W PyProof.Rows PySem.Calls
noncomputable def P.tolds : P → List (Str × T × T)
  | .told lab l r => [(lab, l, r)]
  | .turn p => p.tolds
  | .join p q => p.tolds ++ q.tolds
  | .under1 p => p.tolds
  | .under2 p q => p.tolds ++ q.tolds
  | _ => []
/-- what was told stands in the table -/
noncomputable def ToldOk (h : Heap) (f : Str → Option Value) (p : P) : Prop := ∀ x ∈ p.tolds, ∃ u, f x.1 = some u ∧ SidesAt h u x.2
structure WorldAt (w : World) (h : Heap) (J : Addr) (ft : Str → Option Value) : Prop where
  ex : ∃ dR dT oR oT fr R1 R2, JudgeAt h J (.ref dR) (.ref dT) ∧ h.get? dR = some oR ∧ MapOb PR w oR fr ∧ (dR == sysModules) = false ∧ fr "twice" = some (.ref R1) ∧ fr "swap" = some (.ref R2) ∧
    RuleAt h R1 (.f .vx) (.g .vx .vx) ∧ RuleAt h R2 (.g .vx .vy) (.g .vy .vx) ∧ h.get? dT = some oT ∧ MapOb PR w oT ft ∧ (dT == sysModules) = false
theorem WorldAt.keeps {w : World} {h h' : Heap} (k : h.StaysIn h') {J : Addr} {ft : Str → Option Value} (x : WorldAt w h J ft) : WorldAt w h' J ft :=
  let ⟨dR, dT, oR, oT, fr, R1, R2, a, b, c, d, e, f, g, i, j, l, m⟩ := x.ex
  ⟨dR, dT, oR, oT, fr, R1, R2, a.keeps k, k _ _ b, c, d, e, f, g.keeps k, i.keeps k, k _ _ j, l, m⟩
theorem ToldOk.sub {h h' : Heap} (k : TupSub h h') {f : Str → Option Value} {p : P} (x : ToldOk h f p) : ToldOk h' f p := fun y hy => let ⟨u, e, s⟩ := x y hy; ⟨u, e, s.sub k⟩
end
section
open PySem PySem.W PyProof.Rows PySem.Calls
noncomputable def P.at (p : P) : List Int → Option P
  | [] => some p
  | i :: π => (p.kids[i.toNat]?).bind fun q => q.at π
theorem at_snoc (p : P) (π : List Int) (k : Nat) : p.at (π ++ [(k : Int)]) = (p.at π).bind fun q => q.kids[k]? := by
  induction π generalizing p with
  | nil => simp [P.at]
  | cons i π ih =>
    simp only [List.cons_append, P.at]
    cases p.kids[i.toNat]? with
    | none => rfl
    | some q => simpa using ih q
/-- the items of a paper below a root -/
theorem pre_at {r : P} : ∀ {p : P} {π : List Int}, r.at π = some p → ∀ x ∈ p.pre π, r.at x.1 = some x.2 := by
  intro p
  induction p with
  | turn p ih =>
    intro π h x hx
    rcases List.mem_cons.mp hx with rfl | hx
    · exact h
    · exact ih (π := π ++ [0]) (by have := at_snoc r π 0; rw [h] at this; simpa [P.kids] using this) x hx
  | join p q ih ih' =>
    intro π h x hx
    rcases List.mem_cons.mp hx with rfl | hx
    · exact h
    · rcases List.mem_append.mp hx with hx | hx
      · exact ih' (π := π ++ [1]) (by have := at_snoc r π 1; rw [h] at this; simpa [P.kids] using this) x hx
      · exact ih (π := π ++ [0]) (by have := at_snoc r π 0; rw [h] at this; simpa [P.kids] using this) x hx
  | under1 p ih =>
    intro π h x hx
    rcases List.mem_cons.mp hx with rfl | hx
    · exact h
    · exact ih (π := π ++ [0]) (by have := at_snoc r π 0; rw [h] at this; simpa [P.kids] using this) x hx
  | under2 p q ih ih' =>
    intro π h x hx
    rcases List.mem_cons.mp hx with rfl | hx
    · exact h
    · rcases List.mem_append.mp hx with hx | hx
      · exact ih' (π := π ++ [1]) (by have := at_snoc r π 1; rw [h] at this; simpa [P.kids] using this) x hx
      · exact ih (π := π ++ [0]) (by have := at_snoc r π 0; rw [h] at this; simpa [P.kids] using this) x hx
  | _ => intro π h x hx; rw [List.mem_singleton.mp hx]; exact h
noncomputable def Later (l : List (List Int × P)) : Prop := ∀ A x B, l = A ++ x :: B → ∀ y ∈ itemsOf x.1 0 x.2.kids, y ∈ B
theorem later_cons {x : List Int × P} {l : List (List Int × P)} (h : ∀ y ∈ itemsOf x.1 0 x.2.kids, y ∈ l) (hl : Later l) : Later (x :: l) := by
  intro A z B e y hy
  cases A with
  | nil => cases e; exact h y hy
  | cons a A => cases e; exact hl A z B rfl y hy
theorem later_append {l l' : List (List Int × P)} (hl : Later l) (hl' : Later l') : Later (l ++ l') := by
  intro A z B e y hy
  rcases List.append_eq_append_iff.mp e with ⟨C, e1, e2⟩ | ⟨C, e1, e2⟩
  · exact hl' C z B e2 y hy
  · cases C with
    | nil => exact hl' [] z B e2.symm y hy
    | cons c C =>
      cases e2
      exact List.mem_append_left _ (hl A z C e1 y hy)
theorem pre_head (p : P) (π : List Int) : (π, p) ∈ p.pre π := by rw [P.pre_eq]; exact .head _
theorem pre_later (p : P) : ∀ π, Later (p.pre π) := by
  induction p with
  | turn p ih =>
    intro π
    refine later_cons (fun y hy => ?_) (ih _)
    simp only [P.kids, itemsOf, List.mem_cons, List.not_mem_nil, or_false] at hy
    subst hy
    exact pre_head _ _
  | join p q ih ih' =>
    intro π
    refine later_cons (fun y hy => ?_) (later_append (ih' _) (ih _))
    simp only [P.kids, itemsOf, List.mem_cons, List.not_mem_nil, or_false] at hy
    rcases hy with rfl | rfl
    · exact List.mem_append_right _ (pre_head _ _)
    · exact List.mem_append_left _ (pre_head _ _)
  | under1 p ih =>
    intro π
    refine later_cons (fun y hy => ?_) (ih _)
    simp only [P.kids, itemsOf, List.mem_cons, List.not_mem_nil, or_false] at hy
    subst hy
    exact pre_head _ _
  | under2 p q ih ih' =>
    intro π
    refine later_cons (fun y hy => ?_) (later_append (ih' _) (ih _))
    simp only [P.kids, itemsOf, List.mem_cons, List.not_mem_nil, or_false] at hy
    rcases hy with rfl | rfl
    · exact List.mem_append_right _ (pre_head _ _)
    · exact List.mem_append_left _ (pre_head _ _)
  | _ =>
    intro π
    refine later_cons (fun y hy => nomatch hy) ?_
    intro A x B e
    cases A <;> cases e
/-- in the order parts come ahead of the whole -/
theorem kids_done {p : P} {i : Nat} {x y : List Int × P} (hx : (p.pre []).reverse[i]? = some x) (hy : y ∈ itemsOf x.1 0 x.2.kids) : y ∈ (p.pre []).reverse.take i := by
  have hlt : i < (p.pre []).reverse.length := by
    rcases Nat.lt_or_ge i (p.pre []).reverse.length with h | h
    · exact h
    · rw [List.getElem?_eq_none h] at hx; cases hx
  have e : (p.pre []).reverse = (p.pre []).reverse.take i ++ x :: (p.pre []).reverse.drop (i + 1) := by
    conv => lhs; rw [← List.take_append_drop i (p.pre []).reverse]
    rw [List.drop_eq_getElem_cons hlt]
    rw [List.getElem?_eq_getElem hlt] at hx
    cases hx
    rfl
  have e2 : p.pre [] = ((p.pre []).reverse.drop (i + 1)).reverse ++ x :: ((p.pre []).reverse.take i).reverse := by
    have := congrArg List.reverse e
    rw [List.reverse_reverse] at this
    exact this.trans (by simp only [List.reverse_append, List.reverse_cons, List.append_assoc, List.cons_append, List.nil_append])
  exact List.mem_reverse.mp (pre_later p [] _ _ _ e2 y hy)
theorem pre_hered {R : P → Prop} (hR : ∀ p, R p → ∀ k ∈ p.kids, R k) : ∀ {p : P} {π : List Int}, R p → ∀ x ∈ p.pre π, R x.2 := by
  intro p
  induction p with
  | turn p ih =>
    intro π h x hx
    rcases List.mem_cons.mp hx with rfl | hx
    · exact h
    · exact ih (hR _ h _ (by simp [P.kids])) x hx
  | under1 p ih =>
    intro π h x hx
    rcases List.mem_cons.mp hx with rfl | hx
    · exact h
    · exact ih (hR _ h _ (by simp [P.kids])) x hx
  | join p q ih ih' =>
    intro π h x hx
    rcases List.mem_cons.mp hx with rfl | hx
    · exact h
    · rcases List.mem_append.mp hx with hx | hx
      · exact ih' (hR _ h _ (by simp [P.kids])) x hx
      · exact ih (hR _ h _ (by simp [P.kids])) x hx
  | under2 p q ih ih' =>
    intro π h x hx
    rcases List.mem_cons.mp hx with rfl | hx
    · exact h
    · rcases List.mem_append.mp hx with hx | hx
      · exact ih' (hR _ h _ (by simp [P.kids])) x hx
      · exact ih (hR _ h _ (by simp [P.kids])) x hx
  | _ => intro π h x hx; rw [List.mem_singleton.mp hx]; exact h
theorem pre_room {p : P} : ∀ {π : List Int}, ∀ x ∈ p.pre π, x.1.length + x.2.size ≤ π.length + p.size := by
  induction p with
  | turn p ih =>
    intro π x hx
    rcases List.mem_cons.mp hx with rfl | hx
    · exact Nat.le_refl _
    · have := ih x hx; simp only [List.length_append, List.length_singleton, P.size] at this ⊢; omega
  | under1 p ih =>
    intro π x hx
    rcases List.mem_cons.mp hx with rfl | hx
    · exact Nat.le_refl _
    · have := ih x hx; simp only [List.length_append, List.length_singleton, P.size] at this ⊢; omega
  | join p q ih ih' =>
    intro π x hx
    rcases List.mem_cons.mp hx with rfl | hx
    · exact Nat.le_refl _
    · rcases List.mem_append.mp hx with hx | hx
      · have := ih' x hx; simp only [List.length_append, List.length_singleton, P.size] at this ⊢; omega
      · have := ih x hx; simp only [List.length_append, List.length_singleton, P.size] at this ⊢; omega
  | under2 p q ih ih' =>
    intro π x hx
    rcases List.mem_cons.mp hx with rfl | hx
    · exact Nat.le_refl _
    · rcases List.mem_append.mp hx with hx | hx
      · have := ih' x hx; simp only [List.length_append, List.length_singleton, P.size] at this ⊢; omega
      · have := ih x hx; simp only [List.length_append, List.length_singleton, P.size] at this ⊢; omega
  | _ => intro π x hx; rw [List.mem_singleton.mp hx]; exact Nat.le_refl _
noncomputable def Fine (h : Heap) (ft : Str → Option Value) (p : P) : Prop := p.ok ∧ ToldOk h ft p ∧ p.dep ≤ 50
theorem fine_kids {h : Heap} {ft : Str → Option Value} (p : P) (x : Fine h ft p) : ∀ k ∈ p.kids, Fine h ft k := by
  intro k hk
  refine ⟨P.kids_ok x.1 k hk, fun y hy => x.2.1 y ?_, ?_⟩
  · cases p <;> simp_all [P.kids, P.tolds] <;> (rcases hk with rfl | rfl <;> simp [hy])
  · have := x.2.2
    cases p <;> simp_all [P.kids, P.dep] <;> (rcases hk with rfl | rfl <;> omega)
theorem stored_mem {xs : List (List Int × Addr × Value)} {k : List Int} {a : Addr} {v : Value} {x : List Int × Addr × Value} (h : x ∈ storedH xs k a v) : x ∈ xs ∨ (x.1 = k ∧ x.2.2 = v) := by
  unfold storedH at h
  split at h
  · obtain ⟨y, hy, rfl⟩ := List.mem_map.mp h
    unfold putAt
    split
    · rename_i e; exact .inr ⟨e, rfl⟩
    · exact .inl hy
  · rcases List.mem_append.mp h with h | h
    · exact .inl h
    · rw [List.mem_singleton.mp h]; exact .inr ⟨rfl, rfl⟩
theorem atKey_mem {xs : List (List Int × Addr × Value)} {k : List Int} {p : Addr × Value} (h : atKey xs k = some p) : (k, p) ∈ xs := by
  unfold atKey at h
  obtain ⟨x, hx, rfl⟩ := Option.map_eq_some_iff.mp h
  have h1 := List.find?_some hx
  have h2 := List.mem_of_find?_eq_some hx
  have : x.1 = k := by simpa using h1
  subst this
  exact h2
theorem atKey_some {xs : List (List Int × Addr × Value)} {k : List Int} (h : ∃ x ∈ xs, x.1 = k) : (atKey xs k).isSome = true := by
  unfold atKey
  rw [Option.isSome_map, List.find?_isSome]
  obtain ⟨x, hx, e⟩ := h
  exact ⟨x, hx, by simpa using e⟩
theorem stored_has {xs : List (List Int × Addr × Value)} {k k' : List Int} {a : Addr} {v : Value} (h : k' = k ∨ (atKey xs k').isSome = true) : (atKey (storedH xs k a v) k').isSome = true := by
  refine atKey_some ?_
  unfold storedH
  split
  · rename_i hk
    have : (atKey xs k').isSome = true := h.elim (fun e => e ▸ hk) id
    obtain ⟨p, hp⟩ := Option.isSome_iff_exists.mp this
    exact ⟨putAt k v (k', p), List.mem_map.mpr ⟨_, atKey_mem hp, rfl⟩, by unfold putAt; split <;> rfl⟩
  · rcases h with rfl | h
    · exact ⟨_, List.mem_append_right _ (.head _), rfl⟩
    · obtain ⟨p, hp⟩ := Option.isSome_iff_exists.mp h
      exact ⟨_, List.mem_append_left _ (atKey_mem hp), rfl⟩
theorem stored_len {xs : List (List Int × Addr × Value)} {k : List Int} {a : Addr} {v : Value} : (storedH xs k a v).length ≤ xs.length + 1 := by
  unfold storedH
  split <;> simp
section
variable {prog : Program} {w : World}
theorem items_are {l : List Value} {π : List Int} (h : IntsAre l π) : ItemsAre (PySem.intKind prog w) π l := by
  induction h with
  | nil => exact .nil
  | cons n t _ ih => exact .cons (intKind_is _ _ _ _) ih
theorem key_at {h : Heap} {a : Addr} {l : List Value} {π : List Int} (i : IsTup h a l.toArray) (j : IntsAre l π) : IsTupleKey (PySem.intKind prog w) h π a := by
  obtain ⟨o, ho, hc, n, hd⟩ := i
  exact ⟨o, _, n, ho, hc, hd, by simpa using items_are j⟩
/-- the table at d, its object written -/
noncomputable def KnownAt (prog : Program) (w : World) (h : Heap) (d : Addr) (o : Obj) (xs : List (List Int × Addr × Value)) : Prop := h.get? d = some o ∧ h.DictOfH (tupleKind (PySem.intKind prog w)) d xs
theorem KnownAt.sub {h h' : Heap} {d : Addr} {o : Obj} {xs : List (List Int × Addr × Value)} (x : KnownAt prog w h d o xs) (k : TupSub h h') (hd : h'.get? d = some o) : KnownAt prog w h' d o xs := by
  obtain ⟨ho, o', es, ep, ho', hex, hdd, he, hk, hn⟩ := x
  rw [ho] at ho'; cases ho'
  refine ⟨hd, o, es, ep, hd, hex, hdd, he, fun y hy => ?_, hn⟩
  obtain ⟨o2, items, n, h1, h2, h3, h4⟩ := hk y hy
  exact ⟨o2, items, n, k _ _ h2 ⟨_, _, h3⟩ h1, h2, h3, h4⟩
theorem KnownAt.cls {h : Heap} {d : Addr} {o : Obj} {xs : List (List Int × Addr × Value)} (x : KnownAt prog w h d o xs) : o.cls ≠ .type "tuple" := by
  obtain ⟨ho, o', es, ep, ho', hex, _⟩ := x
  rw [ho] at ho'; cases ho'
  rw [hex.1]
  exact fun q => absurd (Value.type.inj q) (by decide)
theorem KnownAt.new {h : Heap} {d : Addr} {o : Obj} (hd : h.get? d = some o) (x : o.IsDictOf (PySem.strKind prog w) []) : KnownAt prog w h d o [] := by
  obtain ⟨es, ep, hex, hdd, hk, hp, hn⟩ := x
  refine ⟨hd, o, es, ep, hd, hex, hdd, ?_, (fun x hx => nomatch hx), List.nodup_nil⟩
  have := hp.length
  simpa using this
variable {A : Around} {E : Value → Shared → Prop} {s : Shared} {d a : Addr} {o : Obj} {xs : List (List Int × Addr × Value)} {l : List Value} {π : List Int}
end
end
section
open PySem PySem.W PyProof.Rows PySem.Calls
noncomputable def P.kind : P → Str
  | .same _ => "same"
  | .told .. => "told"
  | .twice _ => "rule"
  | .swap .. => "rule"
  | .turn _ => "turn"
  | .join .. => "join"
  | .under1 _ => "under"
  | .under2 .. => "under"
noncomputable def P.isTR : P → Bool
  | .told .. => true
  | .twice _ => true
  | .swap .. => true
  | _ => false
theorem PaperAt.view {h : Heap} {v : Value} {p : P} (x : PaperAt h v p) : ∃ a tk vs, v = .ref a ∧ IsTup h a (.str p.kind tk :: vs).toArray := by
  cases x with
  | same i => exact ⟨_, _, _, rfl, i⟩
  | told i => exact ⟨_, _, _, rfl, i⟩
  | twice i => exact ⟨_, _, _, rfl, i⟩
  | swap i => exact ⟨_, _, _, rfl, i⟩
  | turn i => exact ⟨_, _, _, rfl, i⟩
  | join i => exact ⟨_, _, _, rfl, i⟩
  | under1 i => exact ⟨_, _, _, rfl, i⟩
  | under2 i => exact ⟨_, _, _, rfl, i⟩
theorem count_pre (p : P) : ∀ π, ((p.pre π).filter fun x => x.2.isTR).length = p.count := by
  induction p with
  | join p q ih ih' =>
    intro π
    rw [P.pre, List.filter_cons_of_neg (Bool.false_ne_true), List.filter_append, List.length_append, ih, ih', P.count, Nat.add_comm]
  | under2 p q ih ih' =>
    intro π
    rw [P.pre, List.filter_cons_of_neg (Bool.false_ne_true), List.filter_append, List.length_append, ih, ih', P.count, Nat.add_comm]
  | turn p ih => intro π; rw [P.pre, List.filter_cons_of_neg (Bool.false_ne_true), ih, P.count]
  | under1 p ih => intro π; rw [P.pre, List.filter_cons_of_neg (Bool.false_ne_true), ih, P.count]
  | _ => intro π; rfl
theorem count_le (p : P) : p.count ≤ p.size := by
  induction p <;> simp_all [P.count, P.size] <;> omega
end
section
open PySem PySem.W PyProof.Rows PySem.Calls
noncomputable def P.turned : P → P
  | .turn p => p
  | .same t => .same t
  | p => .turn p
noncomputable def P.isSame : P → Bool
  | .same _ => true
  | _ => false
noncomputable def P.joined (p q : P) : P := if p.isSame then q else if q.isSame then p else .join p q
end
section
open PySem PySem.W PyProof.Rows PySem.Calls
noncomputable def baseTs : List T := [.a, .b, .f .a, .g .a .b, .f (.f .b)]
end
section
open PySem PySem.W PyProof.Rows PySem.Calls
theorem hide_none {h : Heap} {X : List Addr} {a : Addr} (hx : a ∈ X) : (hideAll h X).get? a = none := hideAll_none _ hx
section
variable {prog : Program} {w : World} {A : Around} {E : Value → Shared → Prop} {s : Shared} {b : Heap} {L d : Addr} {m : Str → Option Value} {news : List (Addr × Obj)} {g : Obj → List (Addr × Obj)} {o : Obj} {kvs : List (Str × Value)} {k : Str} {tk : Tok} {v : Value} {Q : Unit → Shared → Prop}
theorem mapOb_dic (x : o.IsDictOf (PySem.strKind prog w) kvs) : MapOb prog w o (valueAt kvs) := fun _ _ e => (Heap.dictOf_iff.mpr ⟨o, e, x⟩).mapOf
theorem lenD_t {d2 : Addr} {Q' : Value → Shared → Prop} (ho : s.heap.get? d2 = some o) (hd : o.IsDictOf (PySem.strKind prog w) kvs) (hs : (d2 == sysModules) = false) (hz : kvs.length ≤ 16384) (h : Q' (.int (kvs.length : Int) (s.toks + 1)) { s with toks := s.toks + 1 + 1 }) :
    wpAny (model prog w) A (call (.builtin "len") [.ref d2]) Q' E s :=
  call_len_dict hs (Heap.dictOf_iff.mpr ⟨o, ho, hd⟩) (by omega) h
theorem dic_cls (x : o.IsDictOf (PySem.strKind prog w) kvs) : o.cls ≠ .type "tuple" := by
  obtain ⟨_, _, hex, _⟩ := x
  rw [hex.1]
  exact fun q => absurd (Value.type.inj q) (by decide)
end
theorem itemL_k {prog : Program} {w : World} {A : Around} {s : Shared} {E : Value → Shared → Prop} {Q : Value → Shared → Prop} {value slice : Expr} {t : Addr} {l : List Value} {u : Tok} {x : Value} {r : Nat} (ht : s.heap.IsList t l.toArray) (hx : l[r]? = some x) (hr : r < 100000) (h : Q x s)
    (hs : subscripted slice false (.ref t) (.int (r : Int) u) = operate [.ref t, .int (r : Int) u] (getItem (.ref t) (.int (r : Int) u)) := by with_unfolding_all rfl) :
    wpAny (model prog w) A (subscriptTail value slice (.ref t) (.int (r : Int) u)) Q E s :=
  tail_any ht.typeIs slot_list_getitem.lookup (wpAny_getItem_list ht (by omega) (by omega) (by simpa using hx) h) hs
theorem fmod_nat (i : Int) {W : Nat} (h : 0 < W) : ∃ r : Nat, r < W ∧ i.fmod (W : Int) = (r : Int) := by
  have h0 : (0 : Int) ≤ (W : Int) := Int.natCast_nonneg _
  rw [Int.fmod_eq_emod_of_nonneg _ h0]
  have h1 := Int.emod_nonneg i (b := (W : Int)) (by omega)
  have h2 := Int.emod_lt_of_pos i (b := (W : Int)) (by omega)
  exact ⟨(i % (W : Int)).toNat, by omega, by omega⟩
/-- the draws: the cells and the spot -/
noncomputable def FeedOb (w : World) (o : Obj) (cl : Addr) (sp : Nat) : Prop := ∃ k, o.IsDictOf (PySem.strKind PR w) [("cells", .ref cl), ("spot", .int (sp : Int) k)]
end
section
open PySem PySem.W PyProof.Rows PySem.Calls
theorem valueAt_put (kvs : List (Str × Value)) (k : Str) (v : Value) : valueAt (stored kvs k v) k = some v := by
  have key : ∃ kv ∈ stored kvs k v, kv.1 = k := by
    unfold stored
    split
    · rename_i h
      obtain ⟨x, hx, e⟩ := List.any_eq_true.mp h
      exact ⟨_, List.mem_map.mpr ⟨x, hx, rfl⟩, by have := of_decide_eq_true e; simp [this]⟩
    · exact ⟨(k, v), List.mem_append_right _ (.head _), rfl⟩
  have all : ∀ kv ∈ stored kvs k v, kv.1 = k → kv.2 = v := by
    unfold stored
    split
    · intro kv h e
      obtain ⟨x, hx, rfl⟩ := List.mem_map.mp h
      by_cases hk : x.1 = k
      · simp [hk]
      · simp [hk] at e
    · rename_i hn
      intro kv h e
      rcases List.mem_append.mp h with h | h
      · exact absurd (List.any_eq_true.mpr ⟨kv, h, decide_eq_true e⟩) hn
      · rw [List.mem_singleton.mp h]
  unfold valueAt
  cases hf : (stored kvs k v).find? fun kv => decide (kv.1 = k) with
  | none =>
    obtain ⟨kv, h, e⟩ := key
    have := List.find?_eq_none.mp hf kv h
    simp [e] at this
  | some kv =>
    have h1 := List.find?_some hf
    have h2 := List.mem_of_find?_eq_some hf
    simp only [Option.map_some, Option.some.injEq]
    exact all kv h2 (by simpa using h1)
noncomputable def labelOf (n : Nat) : Str := ("m" : Str) ++ Str.ofString (toString (n : Int))
end
section
open PySem PySem.W PyProof.Rows PySem.Calls
theorem turned_sides (p : P) : p.turned.sides = (p.sides.2, p.sides.1) := by cases p <;> rfl
theorem turned_count (p : P) : p.turned.count = p.count := by cases p <;> rfl
theorem turned_ok {p : P} (h : p.ok) : p.turned.ok := by cases p <;> exact h
theorem turned_tolds (p : P) : p.turned.tolds = p.tolds := by cases p <;> rfl
theorem turned_size (p : P) : p.turned.size ≤ p.size + 1 := by cases p <;> simp only [P.turned, P.size] <;> omega
theorem turned_dep (p : P) : p.turned.dep ≤ p.dep + 1 := by cases p <;> simp only [P.turned, P.dep] <;> omega
theorem same_sides {p : P} (h : p.isSame = true) : ∃ t, p = .same t := by cases p <;> first | exact ⟨_, rfl⟩ | (exact absurd h Bool.false_ne_true)
theorem joined_cases (p q : P) (e : p.sides.2 = q.sides.1) : (p.joined q = q ∧ p.sides.1 = q.sides.1 ∧ p.count = 0) ∨ (p.joined q = p ∧ q.sides.2 = p.sides.2 ∧ q.count = 0) ∨ p.joined q = .join p q := by
  unfold P.joined
  cases hp : p.isSame with
  | true =>
    obtain ⟨t, rfl⟩ := same_sides hp
    exact .inl ⟨rfl, e, rfl⟩
  | false =>
    cases hq : q.isSame with
    | true =>
      obtain ⟨t, rfl⟩ := same_sides hq
      exact .inr (.inl ⟨rfl, e.symm, rfl⟩)
    | false => exact .inr (.inr rfl)
theorem joined_sides {p q : P} (e : p.sides.2 = q.sides.1) : (p.joined q).sides = (p.sides.1, q.sides.2) := by
  rcases joined_cases p q e with ⟨h, a, _⟩ | ⟨h, a, _⟩ | h
  · rw [h, a]
  · rw [h, a]
  · rw [h]; rfl
theorem joined_count {p q : P} (e : p.sides.2 = q.sides.1) : (p.joined q).count = p.count + q.count := by
  rcases joined_cases p q e with ⟨h, _, a⟩ | ⟨h, _, a⟩ | h
  · rw [h, a, Nat.zero_add]
  · rw [h, a, Nat.add_zero]
  · rw [h]; rfl
theorem joined_ok {p q : P} (e : p.sides.2 = q.sides.1) (hp : p.ok) (hq : q.ok) (hd : p.sides.2.depth ≤ 60) : (p.joined q).ok := by
  rcases joined_cases p q e with ⟨h, _⟩ | ⟨h, _⟩ | h
  · rw [h]; exact hq
  · rw [h]; exact hp
  · rw [h]; exact ⟨hp, hq, e, hd⟩
theorem joined_size {p q : P} (e : p.sides.2 = q.sides.1) : (p.joined q).size ≤ p.size + q.size + 1 := by
  rcases joined_cases p q e with ⟨h, _⟩ | ⟨h, _⟩ | h
  · rw [h]; omega
  · rw [h]; omega
  · rw [h]; exact Nat.le_refl _
theorem joined_dep {p q : P} (e : p.sides.2 = q.sides.1) : (p.joined q).dep ≤ p.dep + q.dep + 1 := by
  rcases joined_cases p q e with ⟨h, _⟩ | ⟨h, _⟩ | h
  · rw [h]; omega
  · rw [h]; omega
  · rw [h]; simp only [P.dep]; omega
theorem ToldOk.turned {h : Heap} {f : Str → Option Value} {p : P} (x : ToldOk h f p) : ToldOk h f p.turned := fun y hy => x y (turned_tolds p ▸ hy)
theorem ToldOk.join {h : Heap} {f : Str → Option Value} {p q : P} (x : ToldOk h f p) (y : ToldOk h f q) : ToldOk h f (.join p q) := fun z hz => (List.mem_append.mp hz).elim (x z) (y z)
theorem ToldOk.joined {h : Heap} {f : Str → Option Value} {p q : P} (e : p.sides.2 = q.sides.1) (x : ToldOk h f p) (y : ToldOk h f q) : ToldOk h f (p.joined q) := by
  rcases joined_cases p q e with ⟨h, _⟩ | ⟨h, _⟩ | h
  · rw [h]; exact y
  · rw [h]; exact x
  · rw [h]; exact x.join y
theorem joined_same_r {p : P} {t : T} (e : p.sides.2 = t) : p.joined (.same t) = p := by
  unfold P.joined
  cases hp : p.isSame with
  | true =>
    obtain ⟨u, rfl⟩ := same_sides hp
    have : u = t := e
    rw [this]; rfl
  | false => rfl
noncomputable def P.isTS : P → Bool
  | .turn _ => true
  | .same _ => true
  | _ => false
noncomputable def P.idle : P → Nat
  | .turn p => (if p.isTS then 1 else 0) + p.idle
  | .join p q => p.idle + q.idle
  | .under1 p => p.idle
  | .under2 p q => p.idle + q.idle
  | _ => 0
theorem idle_turned (p : P) : p.turned.idle ≤ p.idle := by
  cases p <;> simp only [P.turned, P.idle, P.isTS] <;> simp
/-- how big a made paper may be -/
noncomputable def szOf : Nat → Nat
  | 0 => 1
  | n + 1 => 2 * szOf n + 2
theorem sz_pos (n : Nat) : 1 ≤ szOf n := by cases n <;> simp only [szOf] <;> omega
structure Within (p : P) (n : Nat) : Prop where
  ok : p.ok
  dep : p.dep ≤ 6 + 2 * n
  size : p.size ≤ szOf n
  dl : p.sides.1.depth ≤ 4 + n
  dr : p.sides.2.depth ≤ 4 + n
theorem base_ok {t : T} (h : t ∈ baseTs) : small t ∧ t.depth ≤ 3 := by
  simp only [baseTs, List.mem_cons, List.not_mem_nil, or_false] at h
  rcases h with rfl | rfl | rfl | rfl | rfl <;> refine ⟨⟨?_, ?_⟩, ?_⟩ <;> simp [T.plain, T.size, T.depth]
theorem Within.same {t : T} (n : Nat) (h : t ∈ baseTs) : Within (.same t) n := by
  obtain ⟨a, b⟩ := base_ok h
  have := sz_pos n
  exact ⟨a, by simp only [P.dep]; omega, this, by simp only [P.sides]; omega, by simp only [P.sides]; omega⟩
theorem Within.told {lab : Str} {l r : T} (n : Nat) (hl : l.depth ≤ 4 + n) (h : r ∈ baseTs) : Within (.told lab l r) n := by
  obtain ⟨a, b⟩ := base_ok h
  have := sz_pos n
  exact ⟨trivial, by simp only [P.dep]; omega, this, hl, by simp only [P.sides]; omega⟩
theorem Within.twice {t : T} (n : Nat) (h : t ∈ baseTs) : Within (.twice t) n := by
  obtain ⟨a, b⟩ := base_ok h
  have := sz_pos n
  exact ⟨a, by simp only [P.dep]; omega, this, by simp only [P.sides, T.depth]; omega, by simp only [P.sides, T.depth]; omega⟩
theorem Within.swap {t u : T} (n : Nat) (h : t ∈ baseTs) (h' : u ∈ baseTs) : Within (.swap t u) n := by
  obtain ⟨a, b⟩ := base_ok h
  obtain ⟨a', b'⟩ := base_ok h'
  have := sz_pos n
  exact ⟨⟨a, a'⟩, by simp only [P.dep]; omega, this, by simp only [P.sides, T.depth]; omega, by simp only [P.sides, T.depth]; omega⟩
theorem Within.turn {p : P} {n : Nat} (x : Within p n) : Within (.turn p) (n + 1) := by
  obtain ⟨a, b, c, d, e⟩ := x
  exact ⟨a, by simp only [P.dep]; omega, by simp only [P.size, szOf]; omega, by simp only [P.sides]; omega, by simp only [P.sides]; omega⟩
theorem Within.joinT {p : P} {n : Nat} {lab : Str} {r : T} (x : Within p n) (hn : n ≤ 40) (h : r ∈ baseTs) : Within (.join p (.told lab p.sides.2 r)) (n + 1) := by
  obtain ⟨a, b, c, d, e⟩ := x
  obtain ⟨a', b'⟩ := base_ok h
  have := sz_pos n
  exact ⟨⟨a, trivial, rfl, by omega⟩, by simp only [P.dep]; omega, by simp only [P.size, szOf]; omega, by simp only [P.sides]; omega, by simp only [P.sides]; omega⟩
theorem Within.joinB {p : P} {n : Nat} (x : Within p n) (hn : n ≤ 40) : Within (.join p (.turn p)) (n + 1) := by
  obtain ⟨a, b, c, d, e⟩ := x
  exact ⟨⟨a, a, rfl, by omega⟩, by simp only [P.dep]; omega, by simp only [P.size, szOf]; omega, by simp only [P.sides]; omega, by simp only [P.sides]; omega⟩
theorem Within.u1 {p : P} {n : Nat} (x : Within p n) : Within (.under1 p) (n + 1) := by
  obtain ⟨a, b, c, d, e⟩ := x
  exact ⟨a, by simp only [P.dep]; omega, by simp only [P.size, szOf]; omega, by simp only [P.sides, T.depth]; omega, by simp only [P.sides, T.depth]; omega⟩
theorem Within.u2 {p q : P} {n : Nat} (x : Within p n) (y : Within q n) : Within (.under2 p q) (n + 1) := by
  obtain ⟨a, b, c, d, e⟩ := x
  obtain ⟨a', b', c', d', e'⟩ := y
  exact ⟨⟨a, a'⟩, by simp only [P.dep]; omega, by simp only [P.size, szOf]; omega, by simp only [P.sides, T.depth]; omega, by simp only [P.sides, T.depth]; omega⟩
noncomputable def Keys (kvs : List (Str × Value)) : Prop := kvs.map Prod.fst = (List.range kvs.length).map labelOf
theorem labelOf_inj : ∀ i < 12, ∀ j < 12, labelOf i = labelOf j → i = j := by decide +kernel
theorem Keys.new {kvs : List (Str × Value)} (hk : Keys kvs) (hz : kvs.length ≤ 10) : ∀ kv ∈ kvs, kv.1 ≠ labelOf kvs.length := by
  intro kv hm e
  have h1 : kv.1 ∈ kvs.map Prod.fst := List.mem_map.mpr ⟨kv, hm, rfl⟩
  rw [hk] at h1
  obtain ⟨i, hi, e2⟩ := List.mem_map.mp h1
  have hi' := List.mem_range.mp hi
  have := labelOf_inj i (by omega) kvs.length (by omega) (e2.trans e)
  omega
theorem stored_new {kvs : List (Str × Value)} {u : Value} (hk : Keys kvs) (hz : kvs.length ≤ 10) : stored kvs (labelOf kvs.length) u = kvs ++ [(labelOf kvs.length, u)] := by
  unfold stored
  rw [if_neg]
  intro h
  obtain ⟨kv, hm, e⟩ := List.any_eq_true.mp h
  exact hk.new hz kv hm (of_decide_eq_true e)
theorem Keys.snoc {kvs : List (Str × Value)} {u : Value} (hk : Keys kvs) : Keys (kvs ++ [(labelOf kvs.length, u)]) := by
  unfold Keys at hk ⊢
  simp only [List.map_append, List.map_cons, List.map_nil, List.length_append, List.length_singleton, List.range_succ, hk]
theorem valueAt_append {kvs more : List (Str × Value)} {k : Str} {v : Value} (h : valueAt kvs k = some v) : valueAt (kvs ++ more) k = some v := by
  unfold valueAt at h ⊢
  rw [List.find?_append]
  cases hf : kvs.find? fun kv => decide (kv.1 = k) with
  | none => rw [hf] at h; cases h
  | some kv => rw [hf] at h; exact h
theorem ToldOk.grow {h : Heap} {kvs : List (Str × Value)} (more : List (Str × Value)) {p : P} (x : ToldOk h (valueAt kvs) p) : ToldOk h (valueAt (kvs ++ more)) p := fun y hy => let ⟨u, e, z⟩ := x y hy; ⟨u, valueAt_append e, z⟩
theorem ToldOk.last {h : Heap} {kvs : List (Str × Value)} {u : Value} {l r : T} (hk : Keys kvs) (hz : kvs.length ≤ 10) (x : SidesAt h u (l, r)) : ToldOk h (valueAt (kvs ++ [(labelOf kvs.length, u)])) (.told (labelOf kvs.length) l r) := by
  intro y hy
  rw [List.mem_singleton.mp hy]
  exact ⟨u, by rw [← stored_new hk hz]; exact valueAt_put .., x⟩
/-- a made paper with its sides and its steps -/
noncomputable def Made (h : Heap) (v : Value) (p : P) : Prop := ∃ D pv lv rv k, v = .ref D ∧ IsTup h D [pv, lv, rv, .int (p.count : Int) k].toArray ∧ PaperAt h pv p ∧ TermAt h lv p.sides.1 ∧ TermAt h rv p.sides.2
theorem Made.sub {h h' : Heap} (k : TupSub h h') {v : Value} {p : P} (x : Made h v p) : Made h' v p :=
  let ⟨D, a, b, c, d, e, i, j, l, m⟩ := x; ⟨D, a, b, c, d, e, k.tup i, j.sub k, l.sub k, m.sub k⟩
end
section
open PySem PySem.W PyProof.Rows PySem.Calls
noncomputable def P.und : List P → P
  | [p] => .under1 p
  | [p, q] => .under2 p q
  | _ => .same .a
noncomputable def opOf (ps : List P) : Str := if ps.length = 1 then "f" else "g"
theorem und_sum {ps : List P} (hps : ps.length = 1 ∨ ps.length = 2) : (ps.map fun q => (q.count : Int)).sum = ((P.und ps).count : Int) := by
  rcases ps with _ | ⟨p, _ | ⟨q, _ | ⟨_, _⟩⟩⟩
  · simp at hps
  · simp [P.und, P.count]
  · simp [P.und, P.count]
  · simp at hps
theorem und_made {h : Heap} {ps : List P} {zs : List Value} {ls rs : List Value} {a d l r : Addr} {k k' k1 k2 : Tok} (hps : ps.length = 1 ∨ ps.length = 2) (i1 : IsTup h a [.str "under" k, .str (opOf ps) k', .ref d].toArray) (i2 : IsTup h d zs.toArray) (hz : All2 (PaperAt h) zs ps)
    (i3 : IsTup h l (.str (opOf ps) k1 :: ls).toArray) (hl : All2 (fun v (x : P) => TermAt h v x.sides.1) ls ps) (i4 : IsTup h r (.str (opOf ps) k2 :: rs).toArray) (hr : All2 (fun v (x : P) => TermAt h v x.sides.2) rs ps) :
    PaperAt h (.ref a) (P.und ps) ∧ TermAt h (.ref l) (P.und ps).sides.1 ∧ TermAt h (.ref r) (P.und ps).sides.2 := by
  rcases ps with _ | ⟨p, _ | ⟨q, _ | ⟨_, _⟩⟩⟩
  · simp at hps
  · cases hz with | cons z1 zn => cases zn; cases hl with | cons l1 ln => cases ln; cases hr with | cons r1 rn => cases rn; exact ⟨.under1 i1 i2 z1, .f i3 l1, .f i4 r1⟩
  · cases hz with | cons z1 zn => cases zn with | cons z2 zn => cases zn; cases hl with | cons l1 ln => cases ln with | cons l2 ln => cases ln; cases hr with | cons r1 rn => cases rn with | cons r2 rn => cases rn; exact ⟨.under2 i1 i2 z1 z2, .g i3 l1 l2, .g i4 r1 r2⟩
  · simp at hps
end
section
open PySem PySem.W PyProof.Rows PySem.Calls
noncomputable def drOf : Nat → Nat
  | 0 => 4
  | n + 1 => 2 * drOf n + 2
noncomputable def toOf : Nat → Nat
  | 0 => 1
  | n + 1 => 2 * toOf n
theorem drOf_ge (n : Nat) : 4 ≤ drOf n := by
  induction n <;> simp only [drOf] <;> omega
theorem toOf_ge (n : Nat) : 1 ≤ toOf n := by
  induction n <;> simp only [toOf] <;> omega
theorem und_within {p : P} {qs : List P} {m : Nat} (h : qs.length ≤ 1) (hp : Within p m) (hq : ∀ q ∈ qs, Within q m) : Within (P.und (p :: qs)) (m + 1) := by
  rcases qs with _ | ⟨q, _ | ⟨_, _⟩⟩
  · exact hp.u1
  · exact hp.u2 (hq q (.head _))
  · simp only [List.length_cons] at h; omega
theorem und_told {p : P} {qs : List P} {h : Heap} {f : Str → Option Value} (hl : qs.length ≤ 1) (hp : ToldOk h f p) (hq : ∀ q ∈ qs, ToldOk h f q) : ToldOk h f (P.und (p :: qs)) := by
  rcases qs with _ | ⟨q, _ | ⟨_, _⟩⟩
  · exact hp
  · exact fun x hx => (List.mem_append.mp hx).elim (hp x) (hq q (.head _) x)
  · simp only [List.length_cons] at hl; omega
end
section
open PySem PySem.W PyProof.Rows PySem.Calls
theorem kind_ts (p : P) : ((["turn", "same"] : List Str).any fun y => y == p.kind) = p.isTS := by
  cases p <;> (simp only [P.kind, P.isTS]; decide +kernel)
end
section
open PySem PySem.W PyProof.Rows PySem.Calls
theorem Room.made {A : Around} {n : Nat} {C : Addr} {vs : List Value} (r : Room A (n + 1)) : Room (A.under (.builtin "type.__call__" ⟨.ref C :: vs, []⟩)) n := by
  refine ⟨?_, ?_, r.h⟩
  · have := r.d
    have e : (A.under (.builtin "type.__call__" ⟨.ref C :: vs, []⟩)).depth = A.depth + 1 := rfl
    rw [e]; omega
  · have := r.u
    have e : (A.under (.builtin "type.__call__" ⟨.ref C :: vs, []⟩)).units ≤ A.units + 20 := by
      first | exact Nat.le_add_right _ _ | exact Nat.le.intro rfl | (simp [Around.under, Code.cUnits, Code.frames, Code.isFrame])
    omega
end
section
open PySem PySem.W PyProof.Rows PySem.Calls
/-- a paper that may be judged -/
structure Good (h : Heap) (f : Str → Option Value) (p : P) (d z : Nat) : Prop where
  ok : p.ok
  told : ToldOk h f p
  dep : p.dep ≤ d
  size : p.size ≤ z
  dl : p.sides.1.depth ≤ 10
  dr : p.sides.2.depth ≤ 10
theorem Good.sub {h h' : Heap} {f : Str → Option Value} {p : P} {d z : Nat} (k : TupSub h h') (x : Good h f p d z) : Good h' f p d z := ⟨x.ok, x.told.sub k, x.dep, x.size, x.dl, x.dr⟩
theorem Good.of {h : Heap} {f : Str → Option Value} {p : P} {n : Nat} (x : Within p n) (hn : n ≤ 2) (t : ToldOk h f p) : Good h f p 10 10 := by
  have hs : szOf n ≤ 10 := by
    have : n = 0 ∨ n = 1 ∨ n = 2 := by omega
    rcases this with rfl | rfl | rfl <;> decide
  obtain ⟨a, b, c, d, e⟩ := x
  exact ⟨a, t, by omega, by omega, by omega, by omega⟩
theorem Good.turned {h : Heap} {f : Str → Option Value} {p : P} {d z : Nat} (x : Good h f p d z) : Good h f p.turned (d + 1) (z + 1) := by
  obtain ⟨a, b, c, e, dl, dr⟩ := x
  refine ⟨turned_ok a, b.turned, Nat.le_trans (turned_dep p) (by omega), Nat.le_trans (turned_size p) (by omega), ?_, ?_⟩
  · rw [turned_sides]; exact dr
  · rw [turned_sides]; exact dl
theorem Good.joined {h : Heap} {f : Str → Option Value} {p q : P} {d z d' z' : Nat} (x : Good h f p d z) (y : Good h f q d' z') (e : p.sides.2 = q.sides.1) : Good h f (p.joined q) (d + d' + 1) (z + z' + 1) := by
  refine ⟨joined_ok e x.ok y.ok (Nat.le_trans x.dr (by omega)), ToldOk.joined e x.told y.told, Nat.le_trans (joined_dep e) ?_, Nat.le_trans (joined_size e) ?_, ?_, ?_⟩
  · have := x.dep; have := y.dep; omega
  · have := x.size; have := y.size; omega
  · rw [joined_sides e]; exact x.dl
  · rw [joined_sides e]; exact y.dr
end
end
section
open PySem PySem.W PyProof.Rows PySem.Calls
/-! a small logic over the walk's rules: g is a heap of the past that holds all but the frame -/
noncomputable abbrev isT (o : Obj) : Prop := o.cls = .type "tuple" ∧ ∃ it n, o.data = .seq it n
/-- all but X stays; tuples stay always -/
noncomputable def Kp (X : List Addr) (h h' : Heap) : Prop := ∀ a o, (a ∈ X → isT o) → h.get? a = some o → h'.get? a = some o
section
variable {X Y : List Addr} {a b c h h' : Heap}
theorem Kp.refl : Kp X h h := fun _ _ _ e => e
theorem Kp.trans (x : Kp X a b) (y : Kp X b c) : Kp X a c := fun p o n e => y p o n (x p o n e)
theorem Kp.mono (x : Kp X h h') (s : ∀ a ∈ X, a ∈ Y) : Kp Y h h' := fun a o n e => x a o (fun q => n (s a q)) e
theorem Kp.of (x : h.StaysIn h') : Kp X h h' := fun a o _ e => x a o e
theorem Kp.stays (x : Kp [] h h') : h.StaysIn h' := fun a o e => x a o (fun q => nomatch q) e
theorem Kp.sub (x : Kp X h h') : TupSub h h' := fun a o h1 h2 e => x a o (fun _ => ⟨h1, h2⟩) e
theorem Kp.get {p : Addr} {o : Obj} (x : Kp X h h') (n : p ∉ X) (e : h.get? p = some o) : h'.get? p = some o := x p o (fun q => absurd q n) e
end
/-- what does not change in the whole run -/
structure Wd where
  w : World
  mg : Str → Option Value
  mb : Str → Option Value
  b0 : Heap
  gd : Gd w mg mb b0
/-- what does not change in a function's run; D names its variables, n is the room -/
structure Cx (D : List (Str × NameKind)) (n : Nat) where
  W : Wd
  A : Around
  L : Addr
  cs : List (Str × Addr)
  more : List (Str × Const)
  qual : Str
  func : Option Addr
  code : Value
  frame : Option Addr
  X : List Addr
  b : Heap
  up : W.b0.StaysIn b
  xs : ∀ a ∈ X, W.b0.get? a = none
  fs : ∀ a ∈ L :: cs.map (·.2), b.get? a = none
  ap : cs.Pairwise fun x y => x.2 ≠ y.2
  ab : ∀ x c, (x, c) ∈ cs → c ≠ L
  nd : ∀ x c, (x, c) ∈ cs → cs.lookup x = some c
  hc : ∀ x, D.lookup x = some .cell → ∃ a, cs.lookup x = some a
  room : Room A n
section
variable {D : List (Str × NameKind)} {n : Nat}
noncomputable def Cx.env (c : Cx D n) : Env := { scope := ⟨.function, D, false, false, c.more⟩, locals := c.L, globals := mainGlobals, cells := c.cs, qual := c.qual, func := c.func, code := c.code, frame := c.frame, builtins := builtinsNs }
noncomputable def Cx.all (c : Cx D n) : List Addr := c.L :: c.cs.map (·.2)
/-- the frame and its cells hold l -/
structure Fv (c : Cx D n) (h : Heap) (l : List (Str × Value)) : Prop where
  ns : ∃ m, h.Ns c.L m ∧ ∀ x v, l.lookup x = some v → D.lookup x = some .local → m x = some v
  cell : ∀ x a, c.cs.lookup x = some a → ∃ v₀, h.IsCell a v₀ ∧ ∀ v, l.lookup x = some v → D.lookup x = some .cell → v₀ = some v
noncomputable def St (c : Cx D n) (g : Heap) (l : List (Str × Value)) (h : Heap) : Prop := Kp c.all g h ∧ Kp c.X c.b h ∧ Fv c h l
noncomputable def hp0 : Heap := { objs := #[] }
/-- what a step may change -/
noncomputable def okX (c : Cx D n) (X : List Addr) : Prop := ∀ a ∈ X, (a ∈ c.X ∨ c.b.get? a = none) ∧ a ∉ c.all
noncomputable abbrev Up (c : Cx D n) (X : List Addr) (g g' : Heap) : Prop := Kp (c.all ++ X) g g'
/-- behind a step of the frame: its own object may be another, but it says the same -/
noncomputable def PostE (c : Cx D n) (l : List (Str × Value)) {α : Type} (X : List Addr) (s : Shared) (P : α → Heap → Prop) (Q : α → Shared → Prop) : Prop := ∀ v h' d' tk', Kp (c.L :: X) s.heap h' → Fv c h' l → P v h' → Q v { s with heap := h', drawn := d', toks := tk' }
noncomputable def Post {α : Type} (X : List Addr) (s : Shared) (P : α → Heap → Prop) (Q : α → Shared → Prop) : Prop := ∀ v h' d' tk', Kp X s.heap h' → P v h' → Q v { s with heap := h', drawn := d', toks := tk' }
inductive At where
  | v (x : Value)
  | s (x : Str)
  | i (n : Int)
noncomputable def At.is : At → Value → Prop
  | .v x, u => u = x
  | .s x, u => ∃ tk, u = .str x tk
  | .i n, u => ∃ tk, u = .int n tk
noncomputable abbrev Ats (vs : List Value) (as : List At) : Prop := All2 (fun v (a : At) => a.is v) vs as
variable (c : Cx D n) (X : List Addr) (g : Heap) (l : List (Str × Value))
noncomputable def Ev0 (e : Expr) (a : At) : Prop := ∀ (s : Shared) (Q : Value → Shared → Prop) (E : Value → Shared → Prop), St c g l s.heap → (∀ v tk', a.is v → Q v { s with toks := tk' }) → wpAny (model PR c.W.w) c.A (eval e c.env) Q E s
noncomputable def EvL0 (es : List Expr) (as : List At) : Prop := ∀ (pos : Pos) (s : Shared) (Q : List Value → Shared → Prop) (E : Value → Shared → Prop), St c g l s.heap → (∀ vs tk', Ats vs as → Q vs { s with toks := tk' }) → wpAny (model PR c.W.w) c.A (spliced (backTo pos (starEach es c.env))) Q E s
noncomputable def Tr0 (e : Expr) (β : Bool) : Prop := ∀ (s : Shared) (Q : Bool → Shared → Prop) (E : Value → Shared → Prop), St c g l s.heap → (∀ tk', Q β { s with toks := tk' }) → wpAny (model PR c.W.w) c.A (isTrue e c.env (eval e c.env)) Q E s
structure Ev (e : Expr) (P : Value → Heap → Prop) : Prop where
  run : ∀ (s : Shared) (Q : Value → Shared → Prop) (E : Value → Shared → Prop), okX c X → St c g l s.heap → PostE c l X s P Q → wpAny (model PR c.W.w) c.A (eval e c.env) Q E s
structure EvL (es : List Expr) (P : List Value → Heap → Prop) : Prop where
  run : ∀ (pos : Pos) (s : Shared) (Q : List Value → Shared → Prop) (E : Value → Shared → Prop), okX c X → St c g l s.heap → PostE c l X s P Q → wpAny (model PR c.W.w) c.A (spliced (backTo pos (starEach es c.env))) Q E s
structure Tr (e : Expr) (P : Bool → Heap → Prop) : Prop where
  run : ∀ (s : Shared) (Q : Bool → Shared → Prop) (E : Value → Shared → Prop), okX c X → St c g l s.heap → PostE c l X s P Q → wpAny (model PR c.W.w) c.A (isTrue e c.env (eval e c.env)) Q E s
/-- the statements: a return with P, or their end with N -/
structure Ex (ss : List Stmt) (P : Value → Heap → Prop) (N : Heap → List (Str × Value) → Prop) : Prop where
  run : ∀ (s : Shared) (Q : Flow → Shared → Prop) (E : Value → Shared → Prop), St c g l s.heap →
  (∀ v h' d' tk', Kp c.X c.b h' → P v h' → Q (.ret v) { s with heap := h', drawn := d', toks := tk' }) →
  (∀ g' l' h' d' tk', St c g' l' h' → N g' l' → Q .next { s with heap := h', drawn := d', toks := tk' }) → wpAny (model PR c.W.w) c.A (execs ss c.env) Q E s
end
noncomputable def Fn (W : Wd) (n : Nat) (X : List Addr) (h : Heap) (f : Value) (vs : List Value) (P : Value → Heap → Prop) : Prop := ∀ (A : Around) (s : Shared) (Q : Value → Shared → Prop) (E : Value → Shared → Prop), Room A n → W.b0.StaysIn h → (∀ a ∈ X, W.b0.get? a = none) → s.heap = h → Post X s P Q → wpAny (model PR W.w) A (call f vs) Q E s
section
variable {D : List (Str × NameKind)} {n : Nat} {c : Cx D n} {X X' : List Addr} {g h h' : Heap} {l : List (Str × Value)} {P : Value → Heap → Prop} {N : Heap → List (Str × Value) → Prop}
theorem okX.nil : okX c [] := fun _ q => nomatch q
theorem all_L : c.L ∈ c.all := .head _
theorem all_c {x : Str} {a : Addr} (e : c.cs.lookup x = some a) : a ∈ c.all := .tail _ (List.mem_map.mpr ⟨(x, a), mem_of_lookup e, rfl⟩)
theorem Fv.keeps {h h' : Heap} (f : Fv c h l) (k : ∀ a ∈ c.all, ∀ o, h.get? a = some o → h'.get? a = some o) : Fv c h' l :=
  ⟨let ⟨m, n, r⟩ := f.ns; ⟨m, n.at' fun o e => k _ all_L o e, r⟩, fun x a e => let ⟨v, ⟨o, ho, hd⟩, r⟩ := f.cell x a e; ⟨v, ⟨o, k a (all_c e) o ho, hd⟩, r⟩⟩
theorem St.next (x : St c g l h) (ok : okX c X) (k : Kp (c.L :: X) h h') (f : Fv c h' l) : St c h' l h' :=
  ⟨.refl, fun a o q e => k a o (fun m => by
    rcases List.mem_cons.mp m with rfl | m
    · rw [c.fs _ (.head _)] at e; cases e
    · exact (ok a m).1.elim (fun z => q z) fun z => by rw [z] at e; cases e) (x.2.1 a o q e), f⟩
theorem St.up (x : St c g l h) (k : Kp (c.L :: X) h h') : Up c X g h' := (x.1.mono fun _ q => List.mem_append_left _ q).trans (k.mono fun a q => by
  rcases List.mem_cons.mp q with rfl | q
  · exact List.mem_append_left _ all_L
  · exact List.mem_append_right _ q)
theorem St.tok (x : St c g l h) : St c h l h := ⟨.refl, x.2⟩
theorem St.b0 (x : St c g l h) : c.W.b0.StaysIn h := fun a o e => x.2.1 a o (fun q => by rw [c.xs a q] at e; cases e) (c.up a o e)
theorem St.tup {t : Addr} {its : Array Value} (x : St c g l h) (i : IsTup g t its) : IsTup h t its := x.1.sub.tup i
theorem St.get {a : Addr} {o : Obj} (x : St c g l h) (n : a ∉ c.all) (e : g.get? a = some o) : h.get? a = some o := x.1.get n e
theorem Fv.next (x : Fv c h l) (ok : okX c X) (k : Kp X h h') : Fv c h' l := x.keeps fun a q o e => k a o (fun m => absurd q (ok a m).2) e
/-- the walk's own words -/
theorem St.fn' (x : St c g l h) (mu : List (Addr × Obj)) (hm : ∀ p ∈ mu, h.get? p.1 = some p.2 ∧ p.1 ∉ c.all ∧ ¬ isT p.2) : ∃ m rest, (∀ p ∈ rest, p.1 ∉ mu.map (·.1)) ∧ Fr hp0 c.L h m ∧ News hp0 c.L h (mu ++ rest) ∧ ∀ h', Fr hp0 c.L h' m → News hp0 c.L h' rest → Kp (c.L :: mu.map (·.1)) h h' ∧ Fv c h' l := by
  obtain ⟨m, n, r⟩ := x.2.2.ns
  have e0 : ∀ a, hp0.get? a = none := fun a => by
    cases q : hp0.get? a with
    | none => rfl
    | some o => exact absurd (Heap.lt_size q) (Nat.not_lt_zero _)
  refine ⟨m, restOf hp0 h c.L (mu.map (·.1)), fun p hp => (mem_restOf.mp hp).2.2.1, ⟨n, fun a o e => (by rw [e0] at e; cases e), Nat.zero_le _⟩, fun p hp => ?_, fun h' F' N' => ?_⟩
  · rcases List.mem_append.mp hp with hp | hp
    · exact ⟨(hm p hp).1, fun q => (hm p hp).2.1 (q ▸ all_L), e0 _⟩
    · have z := mem_restOf.mp hp
      exact ⟨z.1, z.2.1, e0 _⟩
  · have k : ∀ a o, a ≠ c.L → a ∉ mu.map (·.1) → h.get? a = some o → h'.get? a = some o := fun a o h1 h2 e => (N' (a, o) (mem_restOf.mpr ⟨e, h1, h2, e0 _⟩)).1
    refine ⟨fun a o q e => ?_, ⟨⟨m, F'.ns, r⟩, fun y a e => ?_⟩⟩
    · by_cases h1 : a = c.L
      · subst h1
        obtain ⟨o', _, _, ho, hd, _⟩ := n
        rw [e] at ho; cases ho
        obtain ⟨_, _, _, h2⟩ := q (.head _)
        rw [h2] at hd; cases hd
      · by_cases h2 : a ∈ mu.map (·.1)
        · have t := q (.tail _ h2)
          obtain ⟨p, hp, rfl⟩ := List.mem_map.mp h2
          rw [(hm p hp).1] at e; cases e
          exact absurd t (hm p hp).2.2
        · exact k a o h1 h2 e
    · obtain ⟨v, ⟨o, ho, hd⟩, r⟩ := x.2.2.cell y a e
      exact ⟨v, ⟨o, k a o (c.ab y a (mem_of_lookup e)) (fun q => by
        obtain ⟨p, hp, rfl⟩ := List.mem_map.mp q
        exact (hm p hp).2.1 (all_c e)) ho, hd⟩, r⟩
theorem St.fn (x : St c g l h) (mu : List (Addr × Obj)) (hm : ∀ p ∈ mu, h.get? p.1 = some p.2 ∧ p.1 ∉ c.all ∧ ¬ isT p.2) : ∃ m rest, Fr hp0 c.L h m ∧ News hp0 c.L h (mu ++ rest) ∧ ∀ h', Fr hp0 c.L h' m → News hp0 c.L h' rest → Kp (c.L :: mu.map (·.1)) h h' ∧ Fv c h' l := let ⟨m, r, _, z⟩ := x.fn' mu hm; ⟨m, r, z⟩
end
end
section
open PySem PySem.W PyProof.Rows PySem.Calls
noncomputable def noStar : List Expr → Bool
  | [] => true
  | .Starred .. :: _ => false
  | _ :: r => noStar r
theorem starEach_cons {e : Expr} {es : List Expr} {env : Env} (h : noStar (e :: es) = true) : starEach (e :: es) env = (false, eval e env) :: starEach es env ∧ noStar es = true := by
  cases e <;> first | exact ⟨rfl, h⟩ | cases h
theorem star_plain {pos : Pos} {env : Env} : ∀ {es : List Expr}, noStar es = true → (backTo pos (starEach es env)).any (·.1) = false
  | [], _ => rfl
  | e :: es, h => by
    obtain ⟨a, b⟩ := starEach_cons (env := env) h
    rw [a]
    exact star_plain b
/-- a name of the text's own, a builtin name -/
structure IsG (x : Str) (v : Value) : Prop where
  en : ∀ w : World, nsIn (hd.heap_39 w.params) mainGlobals x = some (some v)
  hk : ∀ w : World, keepIn (hd.heap_39 w.params) v = true
structure IsB (x : Str) (v : Value) : Prop where
  en : ∀ w : World, nsIn (hd.heap_39 w.params) mainGlobals x = some none
  hv : bootBuiltins x = some v
  hn : x ≠ "__name__"
noncomputable def okN (D : List (Str × NameKind)) (x : Str) : Bool := (D.lookup x == some .local || D.lookup x == some .cell) && !(x == ("__debug__" : Str))
noncomputable def okG (D : List (Str × NameKind)) (x : Str) : Bool := D.lookup x == some .globalImplicit && !(x == ("__debug__" : Str))
section
variable {D : List (Str × NameKind)} {n : Nat} {c : Cx D n} {X X' : List Addr} {g h h' : Heap} {l : List (Str × Value)} {P : Value → Heap → Prop} {N : Heap → List (Str × Value) → Prop}
/-- what a new thing's address is -/
structure New (c : Cx D n) (g : Heap) (t : Addr) : Prop where
  b : t ∈ c.X ∨ c.b.get? t = none
  f : t ∉ c.all
  g : g.get? t = none
theorem New.ok {t : Addr} (x : New c g t) : okX c [t] := fun _ q => List.mem_singleton.mp q ▸ ⟨x.b, x.f⟩
theorem New.ne {t a : Addr} {o : Obj} (x : New c g t) (e : g.get? a = some o) : t ≠ a := fun q => by subst q; rw [x.g] at e; cases e
theorem St.new (x : St c g l h) {a : Addr} (e : h.get? a = none) : New c g a := by
  have f : a ∉ c.all := fun q => by
    rcases List.mem_cons.mp q with rfl | q
    · obtain ⟨m, ⟨o, _, _, ho, _⟩, _⟩ := x.2.2.ns
      rw [e] at ho; cases ho
    · obtain ⟨⟨y, a'⟩, hm, rfl⟩ := List.mem_map.mp q
      obtain ⟨v, ⟨o, ho, _⟩, _⟩ := x.2.2.cell y a' (c.nd y a' hm)
      rw [e] at ho; cases ho
  refine ⟨?_, f, ?_⟩
  · by_cases t : a ∈ c.X
    · exact .inl t
    · refine .inr ?_
      cases q : c.b.get? a with
      | none => rfl
      | some o => have := x.2.1.get t q; rw [e] at this; cases this
  · cases q : g.get? a with
    | none => rfl
    | some o => have := x.get f q; rw [e] at this; cases this
theorem size_none (h : Heap) : h.get? h.objs.size = none := by
  cases q : h.get? h.objs.size with
  | none => rfl
  | some o => exact absurd (Heap.lt_size q) (Nat.lt_irrefl _)
/-! pure parts -/
theorem Ev0.var {x : Str} {pos : Pos} {v : Value} (hv : l.lookup x = some v := by rfl) (hk : okN D x = true := by rfl) : Ev0 c g l (.Name x pos) (.v v) := fun s Q E x1 p => by
  unfold okN at hk
  rw [Bool.and_eq_true, Bool.or_eq_true, Bool.not_eq_true'] at hk
  obtain ⟨hk, hd⟩ := hk
  obtain ⟨m, hn, hm⟩ := x1.2.2.ns
  rcases hk with hk | hk
  · rw [beq_iff_eq] at hk
    exact wpAny_Name (wpAny_loadName_local rfl hk hn (hm _ _ hv hk) (p v s.toks rfl)) hd
  · rw [beq_iff_eq] at hk
    obtain ⟨a, ha⟩ := c.hc _ hk
    obtain ⟨v₀, hc, hr⟩ := x1.2.2.cell _ a ha
    exact wpAny_Name (wpAny_loadName_cell rfl hk ha (hr _ hv hk ▸ hc) (p v s.toks rfl)) hd
theorem Ev0.str {x : Str} {k : Nat} {pos : Pos} : Ev0 c g l (.Constant (.str x) k pos) (.s x) := fun s _ _ _ p => Constant_str (p _ _ ⟨_, rfl⟩)
theorem Ev0.int {i : Int} {k : Nat} {pos : Pos} : Ev0 c g l (.Constant (.int i) k pos) (.i i) := fun s _ _ _ p => wpAny_Constant_int (p _ _ ⟨_, rfl⟩)
theorem Ev0.bltn {x : Str} {pos : Pos} {v : Value} (b : IsB x v) (hk : okG D x = true := by rfl) : Ev0 c g l (.Name x pos) (.v v) := fun s Q E x1 p => by
  unfold okG at hk
  rw [Bool.and_eq_true, Bool.not_eq_true', beq_iff_eq] at hk
  exact nm_B c.W.gd x1.b0 (b.en _) b.hv b.hn (p v s.toks rfl) rfl rfl rfl hk.1 hk.2
theorem Ev0.glob {x : Str} {pos : Pos} {v : Value} (b : IsG x v) (hk : okG D x = true := by rfl) : Ev0 c g l (.Name x pos) (.v v) := fun s Q E x1 p => by
  unfold okG at hk
  rw [Bool.and_eq_true, Bool.not_eq_true', beq_iff_eq] at hk
  exact nm_K c.W.gd x1.b0 (b.en _) (p v s.toks rfl) rfl rfl hk.1 hk.2
theorem tup_item {s : Shared} {w : World} {A : Around} {value slice : Expr} {t : Addr} {its : List Value} {i : Nat} {u : Tok} {y : Value} {Q E : Value → Shared → Prop} (it : IsTup s.heap t its.toArray) (hy : its[i]? = some y) (hi : i ≤ 3) (fin : Q y s)
    (hs : subscripted slice false (.ref t) (.int (i : Int) u) = operate [.ref t, .int (i : Int) u] (getItem (.ref t) (.int (i : Int) u))) : wpAny (model PR w) A (subscriptTail value slice (.ref t) (.int (i : Int) u)) Q E s := by
  have : i = 0 ∨ i = 1 ∨ i = 2 ∨ i = 3 := by omega
  rcases this with rfl | rfl | rfl | rfl
  · obtain _ | ⟨a, l⟩ := its
    · cases hy
    · cases hy; exact item_0 it fin hs
  · obtain _ | ⟨a, _ | ⟨c, l⟩⟩ := its
    · cases hy
    · cases hy
    · cases hy; exact item_1 it fin hs
  · obtain _ | ⟨a, _ | ⟨c, _ | ⟨d, l⟩⟩⟩ := its
    · cases hy
    · cases hy
    · cases hy
    · cases hy; exact item_2 it fin hs
  · obtain _ | ⟨a, _ | ⟨c, _ | ⟨d, _ | ⟨f, l⟩⟩⟩⟩ := its
    · cases hy
    · cases hy
    · cases hy
    · cases hy
    · cases hy; exact item_3 it fin hs
/-- x[i] of a tuple -/
theorem Ev0.item {e : Expr} {i : Nat} {k : Nat} {p1 p2 : Pos} {t : Addr} {its : List Value} {a : At} (x : Ev0 c g l e (.v (.ref t))) (it : IsTup g t its.toArray) (hy : ∃ y, its[i]? = some y ∧ a.is y) (hi : i ≤ 3 := by exact Nat.le_of_ble_eq_true rfl) : Ev0 c g l (.Subscript e (.Constant (.int (i : Int)) k p1) p2) a :=
  fun s Q E x1 p => Subscript_ (x s _ E x1 fun v tk' z => by
    obtain rfl : v = .ref t := z
    obtain ⟨y, hy, ya⟩ := hy
    exact wpAny_Constant_int (tup_item (x1.tup it) hy hi (p y _ ya) (by with_unfolding_all rfl)))
theorem Ev0.itemV {x : Str} {i : Nat} {k : Nat} {p0 p1 p2 : Pos} {t : Addr} {its : List Value} {y : Value} (it : IsTup g t its.toArray) (hy : its[i]? = some y := by rfl) (hv : l.lookup x = some (.ref t) := by rfl) (hk : okN D x = true := by rfl) (hi : i ≤ 3 := by exact Nat.le_of_ble_eq_true rfl) : Ev0 c g l (.Subscript (.Name x p0) (.Constant (.int (i : Int)) k p1) p2) (.v y) :=
  .item (.var hv hk) it ⟨y, hy, rfl⟩ hi
/-- what a comparison tells -/
noncomputable def Cm (c : Cx D n) (h : Heap) (op : CmpOp) (a b : Value) (β : Bool) : Prop := ∀ (s : Shared) (Q : Value → Shared → Prop) (E : Value → Shared → Prop), s.heap = h → (∀ tk', Q (.bool β) { s with toks := tk' }) → wpAny (model PR c.W.w) c.A (compareOp op a b) Q E s
theorem Tr0.cmp {e r : Expr} {op : CmpOp} {pos : Pos} {a b : At} {β : Bool} (x : Ev0 c g l e a) (y : Ev0 c g l r b) (z : ∀ h u v, St c g l h → a.is u → b.is v → Cm c h op u v β) (hm : behindInMarks op r = false := by with_unfolding_all rfl) : Tr0 c g l (.Compare e [op] [r] pos) β :=
  fun s Q E x1 p => wpAny_isTrue_Compare1 (x s _ E x1 fun u tk' z1 => y { s with toks := tk' } _ E x1 fun v tk2 z2 => z _ u v x1 z1 z2 { s with toks := tk2 } _ E rfl fun tk3 => wpAny_truthy_bool (p tk3)) hm
theorem Ev0.cmp {e r : Expr} {op : CmpOp} {pos : Pos} {a b : At} {β : Bool} (x : Ev0 c g l e a) (y : Ev0 c g l r b) (z : ∀ h u v, St c g l h → a.is u → b.is v → Cm c h op u v β) (hm : behindInMarks op r = false := by with_unfolding_all rfl) : Ev0 c g l (.Compare e [op] [r] pos) (.v (.bool β)) :=
  fun s Q E x1 p => wpAny_Compare1 (x s _ E x1 fun u tk' z1 => y { s with toks := tk' } _ E x1 fun v tk2 z2 => z _ u v x1 z1 z2 { s with toks := tk2 } _ E rfl fun tk3 => p _ tk3 rfl) hm
theorem str_beq (a b : Str) : (a.cps.toList == b.cps.toList) = (a == b) := by
  rw [Bool.eq_iff_iff, beq_iff_eq, beq_iff_eq]
  constructor
  · intro e
    cases a; cases b
    simp only [Str.mk.injEq]
    exact Array.toList_inj.mp e
  · rintro rfl; rfl
theorem Cm.eqS {a b : Str} (h : Heap) (u v : Value) (_ : St c g l h) (x : (At.s a).is u) (y : (At.s b).is v) : Cm c h .Eq u v (a == b) := fun s Q E _ p => by
  obtain ⟨t, rfl⟩ := x
  obtain ⟨t', rfl⟩ := y
  exact eq_str (str_beq a b ▸ p s.toks)
theorem Cm.eqI {a b : Int} (h : Heap) (u v : Value) (_ : St c g l h) (x : (At.i a).is u) (y : (At.i b).is v) : Cm c h .Eq u v (a == b) := fun s Q E _ p => by
  obtain ⟨t, rfl⟩ := x
  obtain ⟨t', rfl⟩ := y
  exact P.eq_int (p s.toks)
theorem Cm.ltI {a b : Int} (h : Heap) (u v : Value) (_ : St c g l h) (x : (At.i a).is u) (y : (At.i b).is v) : Cm c h .Lt u v (decide (a < b)) := fun s Q E _ p => by
  obtain ⟨t, rfl⟩ := x
  obtain ⟨t', rfl⟩ := y
  exact P.lt_int (p s.toks)
theorem Cm.gtI {a b : Int} (h : Heap) (u v : Value) (_ : St c g l h) (x : (At.i a).is u) (y : (At.i b).is v) : Cm c h .Gt u v (decide (a > b)) := fun s Q E _ p => by
  obtain ⟨t, rfl⟩ := x
  obtain ⟨t', rfl⟩ := y
  exact P.gt_int (p s.toks)
/-- x[i] == text -/
theorem Tr0.itemIs {x a b : Str} {i k k2 : Nat} {p0 p1 p2 p3 pos : Pos} {t : Addr} {its : List Value} {tk : Tok} (it : IsTup g t its.toArray) (hy : its[i]? = some (.str a tk) := by rfl) (hv : l.lookup x = some (.ref t) := by rfl) (hk : okN D x = true := by rfl) (hi : i ≤ 3 := by exact Nat.le_of_ble_eq_true rfl) :
    Tr0 c g l (.Compare (.Subscript (.Name x p0) (.Constant (.int (i : Int)) k p1) p2) [.Eq] [.Constant (.str b) k2 p3] pos) (a == b) :=
  Tr0.cmp (.item (a := .s a) (.var hv hk) it ⟨_, hy, ⟨_, rfl⟩⟩ hi) .str Cm.eqS rfl
/-- x == text -/
theorem Tr0.varIs {x a b : Str} {k2 : Nat} {p0 p3 pos : Pos} {tk : Tok} (hv : l.lookup x = some (.str a tk) := by rfl) (hk : okN D x = true := by rfl) :
    Tr0 c g l (.Compare (.Name x p0) [.Eq] [.Constant (.str b) k2 p3] pos) (a == b) :=
  Tr0.cmp (a := .s a) (fun s Q E x1 p => Ev0.var hv hk s Q E x1 fun v tk' z => p v tk' ⟨tk, z⟩) .str Cm.eqS rfl
/-- x == number, as a test -/
theorem Tr0.varIsI {x : Str} {a b : Int} {k2 : Nat} {p0 p3 pos : Pos} {tk : Tok} (hv : l.lookup x = some (.int a tk) := by rfl) (hk : okN D x = true := by rfl) :
    Tr0 c g l (.Compare (.Name x p0) [.Eq] [.Constant (.int b) k2 p3] pos) (a == b) :=
  Tr0.cmp (a := .i a) (fun s Q E x1 p => Ev0.var hv hk s Q E x1 fun v tk' z => p v tk' ⟨tk, z⟩) .int Cm.eqI rfl
theorem Ev0.varI {x : Str} {pos : Pos} {i : Int} {tk : Tok} (hv : l.lookup x = some (.int i tk) := by rfl) (hk : okN D x = true := by rfl) : Ev0 c g l (.Name x pos) (.i i) := fun s Q E x1 p => Ev0.var hv hk s Q E x1 fun v tk' z => p v tk' ⟨tk, z⟩
theorem Ev0.varS {x : Str} {pos : Pos} {i : Str} {tk : Tok} (hv : l.lookup x = some (.str i tk) := by rfl) (hk : okN D x = true := by rfl) : Ev0 c g l (.Name x pos) (.s i) := fun s Q E x1 p => Ev0.var hv hk s Q E x1 fun v tk' z => p v tk' ⟨tk, z⟩
theorem Tr0.not {e : Expr} {pos : Pos} {β : Bool} (x : Tr0 c g l e β) : Tr0 c g l (.UnaryOp .Not e pos) (!β) := fun s Q E x1 p => isTrue_not (x s _ E x1 p)
theorem isTrue_whole {env : Env} {op : BoolOp} {es : List Expr} {pos : Pos} {u v : Sem Value} : isTrue (.BoolOp op es pos) env u = isTrue (.BoolOp op es pos) env v := by rfl
/-- the tests in their order -/
theorem Tr0.orN {pos : Pos} : Tr0 c g l (.BoolOp .Or [] pos) false := fun s _ _ _ p => isTrue_or_nil (p s.toks)
theorem Tr0.orF {e : Expr} {es : List Expr} {pos : Pos} {β : Bool} (x : Tr0 c g l e false) (y : Tr0 c g l (.BoolOp .Or es pos) β) : Tr0 c g l (.BoolOp .Or (e :: es) pos) β := fun s Q E x1 p => isTrue_or (x s _ E x1 fun tk => by
  show wpAny _ c.A (isTrue _ c.env _) _ _ _
  rw [isTrue_whole (v := eval (.BoolOp .Or es pos) c.env)]
  exact y { s with toks := tk } Q E x1 fun tk2 => p tk2)
/-- a value as a test -/
theorem Tr0.val {e : Expr} {β : Bool} (x : Ev0 c g l e (.v (.bool β))) (he : isTrue e c.env (eval e c.env) = (do let v ← eval e c.env; standAt e.pos; holding [v] (truthy v)) := by rfl) : Tr0 c g l e β := fun s Q E x1 p =>
  wpAny_isTrue_value (x s _ E x1 fun v tk z => by
    obtain rfl : v = .bool β := z
    exact wpAny_truthy_bool (p tk)) he
/-- and, or as values of two truths -/
theorem Ev0.and {e f : Expr} {pos : Pos} {α β : Bool} (x : Ev0 c g l e (.v (.bool α))) (y : α = true → Ev0 c g l f (.v (.bool β))) : Ev0 c g l (.BoolOp .And [e, f] pos) (.v (.bool (α && β))) := fun s Q E x1 p =>
  BoolOp_and (x s _ E x1 fun v tk z => by
    obtain rfl : v = .bool α := z
    refine wpAny_truthy_bool ?_
    cases α with
    | true => exact BoolOp_one (y rfl { s with toks := tk } _ E x1 fun v2 tk2 z2 => p v2 tk2 z2)
    | false => exact p _ tk rfl)
theorem EvL0.nil : EvL0 c g l [] [] := fun _ s _ _ _ p => args_nil (p [] s.toks .nil)
theorem EvL0.cons {e : Expr} {es : List Expr} {a : At} {as : List At} (x : Ev0 c g l e a) (y : EvL0 c g l es as) (he : noStar (e :: es) = true := by rfl) : EvL0 c g l (e :: es) (a :: as) :=
  fun pos s Q E x1 p => args_cons (x s _ E x1 fun v tk' z => y pos { s with toks := tk' } _ E x1 fun us tk2 z2 => p _ _ (.cons z z2)) (starEach_cons he).1
theorem EvL0.var {x : Str} {pos : Pos} {es : List Expr} {v : Value} {as : List At} (y : EvL0 c g l es as) (hv : l.lookup x = some v := by rfl) (hk : okN D x = true := by rfl) (he : noStar (.Name x pos :: es) = true := by rfl) : EvL0 c g l (.Name x pos :: es) (.v v :: as) := .cons (.var hv hk) y he
theorem EvL0.str {x : Str} {k : Nat} {pos : Pos} {es : List Expr} {as : List At} (y : EvL0 c g l es as) (he : noStar (.Constant (.str x) k pos :: es) = true := by rfl) : EvL0 c g l (.Constant (.str x) k pos :: es) (.s x :: as) := .cons .str y he
theorem EvL0.int {x : Int} {k : Nat} {pos : Pos} {es : List Expr} {as : List At} (y : EvL0 c g l es as) (he : noStar (.Constant (.int x) k pos :: es) = true := by rfl) : EvL0 c g l (.Constant (.int x) k pos :: es) (.i x :: as) := .cons .int y he
theorem Ats.v1 {vs : List Value} {a : Value} (x : Ats vs [.v a]) : vs = [a] := by cases x with | cons p q => cases q; cases p; rfl
theorem Ats.v2 {vs : List Value} {a b : Value} (x : Ats vs [.v a, .v b]) : vs = [a, b] := by cases x with | cons p q => cases p; rw [Ats.v1 q]
theorem Ats.v3 {vs : List Value} {a b d : Value} (x : Ats vs [.v a, .v b, .v d]) : vs = [a, b, d] := by cases x with | cons p q => cases p; rw [Ats.v2 q]
theorem Ats.v4 {vs : List Value} {a b d e : Value} (x : Ats vs [.v a, .v b, .v d, .v e]) : vs = [a, b, d, e] := by cases x with | cons p q => cases p; rw [Ats.v3 q]
theorem Ats.sv {vs : List Value} {x : Str} {as : List At} (y : Ats vs (.s x :: as)) : ∃ tk us, vs = .str x tk :: us ∧ Ats us as := by cases y with | cons p q => obtain ⟨tk, rfl⟩ := p; exact ⟨tk, _, rfl, q⟩
theorem Ats.iv {vs : List Value} {x : Int} {as : List At} (y : Ats vs (.i x :: as)) : ∃ tk us, vs = .int x tk :: us ∧ Ats us as := by cases y with | cons p q => obtain ⟨tk, rfl⟩ := p; exact ⟨tk, _, rfl, q⟩
theorem Ats.s1 {vs : List Value} {x : Str} {a : Value} (y : Ats vs [.s x, .v a]) : ∃ tk, vs = [.str x tk, a] := let ⟨tk, _, e, q⟩ := y.sv; ⟨tk, by rw [e, q.v1]⟩
theorem Ats.s2 {vs : List Value} {x : Str} {a b : Value} (y : Ats vs [.s x, .v a, .v b]) : ∃ tk, vs = [.str x tk, a, b] := let ⟨tk, _, e, q⟩ := y.sv; ⟨tk, by rw [e, q.v2]⟩
/-- a call of a builtin with plain arguments -/
theorem call_head {x : Str} {e : Expr} {es : List Expr} {p1 p2 : Pos} {v : Value} {s : Shared} {Q E : Value → Shared → Prop} (x1 : Ev0 c g l (.Name x p1) (.v v)) (st : St c g l s.heap)
    (h : ∀ tk, wpAny (model PR c.W.w) c.A (callWith p2 v [] (backTo p2 (starEach (e :: es) c.env)) []) Q E { s with toks := tk }) : wpAny (model PR c.W.w) c.A (eval (.Call (.Name x p1) (e :: es) [] p2) c.env) Q E s :=
  Call_ (x1 s _ E st fun u tk z => by
    obtain rfl : u = v := z
    exact h tk) rfl
theorem callWith_typeN {pos : Pos} {T : String} {e : Expr} {rest : List Expr} {M : Model} {A : Around} {E : Value → Shared → Prop} {s : Shared} {env : Env} {Q : Value → Shared → Prop}
    (h : wpAny M A (spliced (backTo pos (starEach (e :: rest) env))) (fun vs s₁ => wpAny M A (call (.type T) vs) Q E s₁) E s) (hp : noStar (e :: rest) = true) :
    wpAny M A (callWith pos (.type T) [] (backTo pos (starEach (e :: rest) env)) []) Q E s := by
  obtain ⟨a, b⟩ := starEach_cons (env := env) hp
  rw [a] at h ⊢
  exact PyProof.Rows.callWith_type (by show (false || (backTo pos (starEach rest env)).any (·.1)) = false; rw [star_plain b]; rfl) (evalArgs_plain h)
noncomputable def Ca0 (c : Cx D n) (h : Heap) (f : Value) (vs : List Value) (a : At) : Prop := ∀ (s : Shared) (Q : Value → Shared → Prop) (E : Value → Shared → Prop), s.heap = h → (∀ v tk', a.is v → Q v { s with toks := tk' }) → wpAny (model PR c.W.w) c.A (call f vs) Q E s
theorem Ev0.callB {x : Str} {id : String} {e : Expr} {es : List Expr} {p1 p2 : Pos} {as : List At} {a : At} (b : IsB x (.builtin id)) (y : EvL0 c g l (e :: es) as) (z : ∀ h vs, St c g l h → Ats vs as → Ca0 c h (.builtin id) vs a) (hk : okG D x = true := by rfl) (hs : noStar (e :: es) = true := by rfl) : Ev0 c g l (.Call (.Name x p1) (e :: es) [] p2) a := fun s Q E x1 p =>
  call_head (.bltn b hk) x1 fun tk => PyProof.Rows.callWith_builtin1 (y p2 { s with toks := tk } _ E x1 fun vs tk2 q => z _ vs x1 q { s with toks := tk2 } Q E rfl p) (starEach_cons hs).1 (star_plain (starEach_cons (env := c.env) hs).2)
theorem Ev0.callTy {x : Str} {id : String} {e : Expr} {es : List Expr} {p1 p2 : Pos} {as : List At} {a : At} (b : IsB x (.type id)) (y : EvL0 c g l (e :: es) as) (z : ∀ h vs, St c g l h → Ats vs as → Ca0 c h (.type id) vs a) (hk : okG D x = true := by rfl) (hs : noStar (e :: es) = true := by rfl) : Ev0 c g l (.Call (.Name x p1) (e :: es) [] p2) a := fun s Q E x1 p =>
  call_head (.bltn b hk) x1 fun tk => callWith_typeN (y p2 { s with toks := tk } _ E x1 fun vs tk2 q => z _ vs x1 q { s with toks := tk2 } Q E rfl p) hs
theorem Ev0.lenT {e : Expr} {p1 p2 : Pos} {t : Addr} {its : List Value} (b : IsB "len" (.builtin "len")) (y : Ev0 c g l e (.v (.ref t))) (it : IsTup g t its.toArray) (hz : its.length ≤ 16384) (hk : okG D "len" = true := by rfl) (hs : noStar [e] = true := by rfl) : Ev0 c g l (.Call (.Name "len" p1) [e] [] p2) (.i (its.length : Int)) :=
  .callB b (.cons y .nil hs) (fun h vs x1 q s Q E eh p => by
    rw [q.v1]
    subst eh
    exact kun_lenT (x1.tup it) (by rw [List.size_toArray]) (by omega) (p _ _ ⟨_, rfl⟩)) hk hs
theorem Ev0.lenL {e : Expr} {p1 p2 : Pos} {t : Addr} {its : List Value} (b : IsB "len" (.builtin "len")) (y : Ev0 c g l e (.v (.ref t))) (it : g.IsList t its.toArray) (hn : t ∉ c.all) (hz : its.length ≤ 16384) (hk : okG D "len" = true := by rfl) (hs : noStar [e] = true := by rfl) : Ev0 c g l (.Call (.Name "len" p1) [e] [] p2) (.i (its.length : Int)) :=
  .callB b (.cons y .nil hs) (fun h vs x1 q s Q E eh p => by
    rw [q.v1]
    subst eh
    exact kun_lenL (let ⟨o, e, r⟩ := it; ⟨o, x1.get hn e, r⟩) (by rw [List.size_toArray]) (by omega) (p _ _ ⟨_, rfl⟩)) hk hs
theorem Ev0.isiT {e : Expr} {p1 p2 p3 : Pos} {t : Addr} {its : Array Value} (b : IsB "isinstance" (.builtin "isinstance")) (b2 : IsB "tuple" (.type "tuple")) (y : Ev0 c g l e (.v (.ref t))) (it : IsTup g t its) (hk : okG D "isinstance" = true := by rfl) (hk2 : okG D "tuple" = true := by rfl) (hs : noStar [e, .Name "tuple" p3] = true := by rfl) : Ev0 c g l (.Call (.Name "isinstance" p1) [e, .Name "tuple" p3] [] p2) (.v (.bool true)) :=
  .callB b (.cons y (.cons (.bltn b2 hk2) .nil) hs) (fun h vs x1 q s Q E eh p => by
    rw [q.v2]
    subst eh
    exact isi_tup (x1.tup it) (p _ s.toks rfl)) hk hs
theorem Ev0.isiS {e : Expr} {p1 p2 p3 : Pos} {x : Str} (b : IsB "isinstance" (.builtin "isinstance")) (b2 : IsB "str" (.type "str")) (y : Ev0 c g l e (.s x)) (hk : okG D "isinstance" = true := by rfl) (hk2 : okG D "str" = true := by rfl) (hs : noStar [e, .Name "str" p3] = true := by rfl) : Ev0 c g l (.Call (.Name "isinstance" p1) [e, .Name "str" p3] [] p2) (.v (.bool true)) :=
  .callB b (.cons y (.cons (.bltn b2 hk2) .nil) hs) (fun h vs x1 q s Q E eh p => by
    obtain ⟨tk, us, rfl, q2⟩ := q.sv
    rw [q2.v1]
    exact isi_str (p _ s.toks rfl)) hk hs
end

end
section
open PySem PySem.W PyProof.Rows PySem.Calls
theorem fill_K : PySem.Challenge.rw_pq0047_01 = PySem.Challenge.rw_pq0047_01 ∧ hd.heap_39 = hd.heap_39 := by
  k_fill
  exact ⟨rfl, rfl⟩
end
open PySem PySem.W PyProof.Rows PySem.Calls
local macro_rules | `(tactic| walk_at "K side") => `(tactic| (
  (case ho => k_is)
  (case hcd => k_is)
  (case hbind => exact fun _ => BindsTo.of_eq rfl)
  (case hkind => rfl)
  (case hnd => decide)))
section
open PySem PySem.W PyProof.Rows PySem.Calls

theorem B_len : IsB "len" (.builtin "len") := ⟨fun w => by k_is, by boot_by_name, by decide⟩
theorem B_isinstance : IsB "isinstance" (.builtin "isinstance") := ⟨fun w => by k_is, by boot_by_name, by decide⟩
theorem B_tuple : IsB "tuple" (.type "tuple") := ⟨fun w => by k_is, by boot_by_name, by decide⟩
theorem B_str : IsB "str" (.type "str") := ⟨fun w => by k_is, by boot_by_name, by decide⟩
end
section
open PySem PySem.W PyProof.Rows PySem.Calls
section
variable {D : List (Str × NameKind)} {n : Nat} {c : Cx D n} {X X' : List Addr} {g h h' : Heap} {l : List (Str × Value)} {P : Value → Heap → Prop} {N : Heap → List (Str × Value) → Prop}
theorem PostE.at {α : Type} {s : Shared} {P' : α → Heap → Prop} {Q : α → Shared → Prop} (p : PostE c l X s P' Q) (x1 : St c g l s.heap) {v : α} {tk : Nat} (z : P' v s.heap) : Q v { s with toks := tk } := p v s.heap s.drawn tk .refl x1.2.2 z
theorem PostE.then {β : Type} {s : Shared} {P' : β → Heap → Prop} {Q : β → Shared → Prop} {h' : Heap} {d' : Drawn} {tk' : Nat} (p : PostE c l X s P' Q) (k : Kp (c.L :: X) s.heap h') : PostE c l X { s with heap := h', drawn := d', toks := tk' } P' Q := fun v h₂ d₂ tk₂ k₂ f z => p v h₂ d₂ tk₂ (k.trans k₂) f z
theorem Ev.imp {e : Expr} {P' : Value → Heap → Prop} (x : Ev c X g l e P') (hi : ∀ v h', Up c X g h' → P' v h' → P v h') : Ev c X g l e P := .mk fun s Q E ok x1 p => x.run s Q E ok x1 fun v h' d' tk' k f z => p v h' d' tk' k f (hi v h' (x1.up k) z)
theorem St.up0 (x : St c g l h) : Up c [] g h := x.1.mono fun _ q => List.mem_append_left _ q
theorem Ev.of {e : Expr} {a : At} (x : Ev0 c g l e a) (hp : ∀ v h', Up c [] g h' → a.is v → P v h') : Ev c X g l e P := .mk fun s Q E ok x1 p => x s Q E x1 fun v tk' z => p.at x1 (hp v _ x1.up0 z)
theorem Ev.ofV {e : Expr} {u : Value} (x : Ev0 c g l e (.v u)) (hp : ∀ h', Up c [] g h' → P u h') : Ev c X g l e P := .of x fun v h' k z => by obtain rfl : v = u := z; exact hp h' k
theorem Ev.mono {e : Expr} (x : Ev c X' g l e P) (hs : ∀ a ∈ X', a ∈ X) : Ev c X g l e P := .mk fun s Q E ok x1 p => x.run s Q E (fun a q => ok a (hs a q)) x1 fun v h' d' tk' k f z => p v h' d' tk' (k.mono fun a q => by
  rcases List.mem_cons.mp q with rfl | q
  · exact .head _
  · exact .tail _ (hs a q)) f z
theorem Ev.mono0 {e : Expr} (x : Ev c [] g l e P) : Ev c X g l e P := x.mono fun _ q => nomatch q
theorem EvL.nil {P : List Value → Heap → Prop} (hp : ∀ h', Up c [] g h' → P [] h') : EvL c X g l [] P := .mk fun _ s _ _ _ x1 p => args_nil (p.at (tk := s.toks) x1 (hp _ x1.up0))
theorem EvL.cons {e : Expr} {es : List Expr} {P' : Value → Heap → Prop} {P : List Value → Heap → Prop} (x : Ev c X g l e P') (hr : ∀ v g', Up c X g g' → P' v g' → EvL c X g' l es fun vs => P (v :: vs)) (he : noStar (e :: es) = true := by rfl) : EvL c X g l (e :: es) P :=
  .mk fun pos s Q E ok x1 p => args_cons (x.run s _ E ok x1 fun v h' d' tk' k f z => (hr v h' (x1.up k) z).run pos _ _ E ok (x1.next ok k f) fun vs h₂ d₂ tk₂ k₂ f₂ z₂ => p (v :: vs) h₂ d₂ tk₂ (k.trans k₂) f₂ z₂) (starEach_cons he).1
theorem EvL.of {es : List Expr} {as : List At} {P : List Value → Heap → Prop} (x : EvL0 c g l es as) (hp : ∀ vs h', Up c [] g h' → Ats vs as → P vs h') : EvL c X g l es P := .mk fun pos s Q E _ x1 p => x pos s Q E x1 fun vs tk' z => p.at x1 (hp vs _ x1.up0 z)
/-- behind an allocation -/
theorem PostE.new {s : Shared} {Q : Value → Shared → Prop} (p : PostE c l X s P Q) (x1 : St c g l s.heap) {o : Obj} {tk : Nat} (hp : ∀ t h', Up c [] g h' → New c g t → h'.get? t = some o → P (.ref t) h') (hf : o.isFreed = false := by rfl) : Q (.ref s.heap.objs.size) { s with heap := s.heap.push o, toks := tk } := by
  have up : s.heap.StaysIn (s.heap.push o) := fun a o e => Heap.get?_push_of_some _ e
  exact p _ _ s.drawn tk (Kp.of up) (x1.2.2.keeps fun a _ o e => up a o e) (hp _ _ (x1.up (X := []) (Kp.of up)) (x1.new (size_none _)) (Heap.get?_push_size _ hf))
theorem Ev.tup {es : List Expr} {k : Nat} {pos : Pos} {as : List At} (x : EvL0 c g l es as) (hp : ∀ vs t h', Up c [] g h' → New c g t → Ats vs as → ExTup h' t vs → P (.ref t) h') (hz : as.length ≤ 100 := by exact Nat.le_of_ble_eq_true rfl) : Ev c X g l (.Tuple es k pos) P :=
  .mk fun s Q E ok x1 p => Tuple_ (x pos s _ E x1 fun vs tk' z => by
    refine wpAny_newObj_type ?_ (by show vs.toArray.size ≤ sizeLine; rw [List.size_toArray, sizeLine_eq, All2.length z]; omega)
    exact p.new x1 fun t h' u n e => hp vs t h' u n z ⟨0, e⟩)
theorem Ev.list {es : List Expr} {pos : Pos} {as : List At} (x : EvL0 c g l es as) (hp : ∀ vs t h', Up c [] g h' → New c g t → Ats vs as → h'.get? t = some (PySem.W.listOf vs.toArray 0) → P (.ref t) h') (hz : as.length ≤ 100 := by exact Nat.le_of_ble_eq_true rfl) : Ev c X g l (.List es pos) P :=
  .mk fun s Q E ok x1 p => List_ (x pos s _ E x1 fun vs tk' z => by
    refine wpAny_newObj_type ?_ (by show vs.toArray.size ≤ sizeLine; rw [List.size_toArray, sizeLine_eq, All2.length z]; omega)
    exact p.new x1 fun t h' u n e => hp vs t h' u n z e)
/-- the items may do something -/
theorem Ev.tupL {es : List Expr} {k : Nat} {pos : Pos} {P' : List Value → Heap → Prop} (x : EvL c X g l es P') (hp : ∀ vs t g' h', Up c X g g' → P' vs g' → Up c [] g' h' → New c g' t → ExTup h' t vs → P (.ref t) h') (hz : ∀ vs g', P' vs g' → vs.length ≤ 100) : Ev c X g l (.Tuple es k pos) P :=
  .mk fun s Q E ok x1 p => Tuple_ (x.run pos s _ E ok x1 fun vs h' d' tk' k f z => by
    refine wpAny_newObj_type ?_ (by show vs.toArray.size ≤ sizeLine; rw [List.size_toArray, sizeLine_eq]; have := hz vs h' z; omega)
    exact PostE.new (p.then k) (x1.next ok k f) fun t h₂ u n e => hp vs t _ h₂ (x1.up k) z u n ⟨0, e⟩)
theorem Ev.listL {es : List Expr} {pos : Pos} {P' : List Value → Heap → Prop} (x : EvL c X g l es P') (hp : ∀ vs t g' h', Up c X g g' → P' vs g' → Up c [] g' h' → New c g' t → h'.get? t = some (PySem.W.listOf vs.toArray 0) → P (.ref t) h') (hz : ∀ vs g', P' vs g' → vs.length ≤ 100) : Ev c X g l (.List es pos) P :=
  .mk fun s Q E ok x1 p => List_ (x.run pos s _ E ok x1 fun vs h' d' tk' k f z => by
    refine wpAny_newObj_type ?_ (by show vs.toArray.size ≤ sizeLine; rw [List.size_toArray, sizeLine_eq]; have := hz vs h' z; omega)
    exact PostE.new (p.then k) (x1.next ok k f) fun t h₂ u n e => hp vs t _ h₂ (x1.up k) z u n e)
/-- what an operator gives -/
noncomputable def Op (c : Cx D n) (X : List Addr) (g : Heap) (l : List (Str × Value)) (t : Sem Value) (P : Value → Heap → Prop) : Prop := ∀ (s : Shared) (Q : Value → Shared → Prop) (E : Value → Shared → Prop), okX c X → St c g l s.heap → PostE c l X s P Q → wpAny (model PR c.W.w) c.A t Q E s
/-- a op b; a[b] -/
theorem Ev.bin {a b : Expr} {op : Operator} {pos : Pos} {P' : Value → Heap → Prop} (x : Ev c X g l a P') (y : ∀ u g', Up c X g g' → P' u g' → Ev c X g' l b fun v g₂ => Op c X g₂ l (binaryOp op u v) P) : Ev c X g l (.BinOp a op b pos) P := .mk fun s Q E ok x1 p =>
  wpAny_BinOp (x.run s _ E ok x1 fun u h' d' tk' k f z => (y u h' (x1.up k) z).run _ _ E ok (x1.next ok k f) fun v h₂ d₂ tk₂ k₂ f₂ z₂ => z₂ _ _ E ok ((x1.next ok k f).next ok k₂ f₂) (PostE.then (p.then k) k₂))
theorem Ev.sub {a b : Expr} {pos : Pos} {P' : Value → Heap → Prop} (x : Ev c X g l a P') (y : ∀ u g', Up c X g g' → P' u g' → Ev c X g' l b fun v g₂ => Op c X g₂ l (subscriptTail a b u v) P) : Ev c X g l (.Subscript a b pos) P := .mk fun s Q E ok x1 p =>
  Subscript_ (x.run s _ E ok x1 fun u h' d' tk' k f z => (y u h' (x1.up k) z).run _ _ E ok (x1.next ok k f) fun v h₂ d₂ tk₂ k₂ f₂ z₂ => z₂ _ _ E ok ((x1.next ok k f).next ok k₂ f₂) (PostE.then (p.then k) k₂))
theorem Ev.cmp {a b : Expr} {op : CmpOp} {pos : Pos} {P' : Value → Heap → Prop} (x : Ev c X g l a P') (y : ∀ u g', Up c X g g' → P' u g' → Ev c X g' l b fun v g₂ => Op c X g₂ l (compareOp op u v) P) (hm : behindInMarks op b = false := by with_unfolding_all rfl) : Ev c X g l (.Compare a [op] [b] pos) P := .mk fun s Q E ok x1 p =>
  wpAny_Compare1 (x.run s _ E ok x1 fun u h' d' tk' k f z => (y u h' (x1.up k) z).run _ _ E ok (x1.next ok k f) fun v h₂ d₂ tk₂ k₂ f₂ z₂ => z₂ _ _ E ok ((x1.next ok k f).next ok k₂ f₂) (PostE.then (p.then k) k₂)) hm
theorem Tr.cmp {a b : Expr} {op : CmpOp} {pos : Pos} {P : Bool → Heap → Prop} {P' : Value → Heap → Prop} (x : Ev c X g l a P') (y : ∀ u g', Up c X g g' → P' u g' → Ev c X g' l b fun v g₂ => Op c X g₂ l (compareOp op u v) fun r h' => ∃ β, r = .bool β ∧ P β h') (hm : behindInMarks op b = false := by with_unfolding_all rfl) : Tr c X g l (.Compare a [op] [b] pos) P := .mk fun s Q E ok x1 p =>
  wpAny_isTrue_Compare1 (x.run s _ E ok x1 fun u h' d' tk' k f z => (y u h' (x1.up k) z).run _ _ E ok (x1.next ok k f) fun v h₂ d₂ tk₂ k₂ f₂ z₂ => z₂ _ _ E ok ((x1.next ok k f).next ok k₂ f₂) fun r h₃ d₃ tk₃ k₃ f₃ z₃ => by
    obtain ⟨β, rfl, z₃⟩ := z₃
    exact wpAny_truthy_bool (p β h₃ d₃ tk₃ ((k.trans k₂).trans k₃) f₃ z₃)) hm
/-- a comparison that leaves all as it is -/
theorem Op.cm {op : CmpOp} {u v : Value} {β : Bool} (x : ∀ h, St c g l h → Cm c h op u v β) (hp : ∀ h', Up c [] g h' → P (.bool β) h') : Op c X g l (compareOp op u v) P := fun s Q E ok x1 p => x s.heap x1 s Q E rfl fun tk => p.at x1 (hp _ x1.up0)
theorem Tr.of {e : Expr} {β : Bool} {P : Bool → Heap → Prop} (x : Tr0 c g l e β) (hp : ∀ h', Up c [] g h' → P β h') : Tr c X g l e P := .mk fun s Q E ok x1 p => x s Q E x1 fun tk => p.at x1 (hp _ x1.up0)
theorem Tr.val {e : Expr} {P : Bool → Heap → Prop} (x : Ev c X g l e fun v h' => ∃ β, v = .bool β ∧ P β h') (he : isTrue e c.env (eval e c.env) = (do let v ← eval e c.env; standAt e.pos; holding [v] (truthy v)) := by rfl) : Tr c X g l e P := .mk fun s Q E ok x1 p =>
  wpAny_isTrue_value (x.run s _ E ok x1 fun v h' d' tk' k f z => by
    obtain ⟨β, rfl, z⟩ := z
    exact wpAny_truthy_bool (p β h' d' tk' k f z)) he
theorem Tr.not {e : Expr} {pos : Pos} {P : Bool → Heap → Prop} (x : Tr c X g l e fun β => P (!β)) : Tr c X g l (.UnaryOp .Not e pos) P := .mk fun s Q E ok x1 p => isTrue_not (x.run s _ E ok x1 fun β h' d' tk' k f z => p (!β) h' d' tk' k f z)
theorem Tr.or {e : Expr} {es : List Expr} {pos : Pos} {P P' : Bool → Heap → Prop} (x : Tr c X g l e P') (y : ∀ g', Up c X g g' → P' false g' → Tr c X g' l (.BoolOp .Or es pos) P) (z : ∀ g', Up c X g g' → P' true g' → P true g') : Tr c X g l (.BoolOp .Or (e :: es) pos) P := .mk fun s Q E ok x1 p =>
  isTrue_or (x.run s _ E ok x1 fun β h' d' tk' k f q => by
    cases β with
    | true => exact p true h' d' tk' k f (z h' (x1.up k) q)
    | false =>
      show wpAny _ c.A (isTrue _ c.env _) _ _ _
      rw [isTrue_whole (v := eval (.BoolOp .Or es pos) c.env)]
      exact (y h' (x1.up k) q).run _ Q E ok (x1.next ok k f) (p.then k))
theorem Tr.orN {pos : Pos} {P : Bool → Heap → Prop} (hp : ∀ h', Up c [] g h' → P false h') : Tr c X g l (.BoolOp .Or [] pos) P := .of .orN hp
theorem Ev.and {e f : Expr} {pos : Pos} {P' : Bool → Heap → Prop} (x : Ev c X g l e fun v h' => ∃ β, v = .bool β ∧ P' β h') (y : ∀ g', Up c X g g' → P' true g' → Ev c X g' l f P) (z : ∀ g', Up c X g g' → P' false g' → P (.bool false) g') : Ev c X g l (.BoolOp .And [e, f] pos) P := .mk fun s Q E ok x1 p =>
  BoolOp_and (x.run s _ E ok x1 fun v h' d' tk' k f q => by
    obtain ⟨β, rfl, q⟩ := q
    refine wpAny_truthy_bool ?_
    cases β with
    | true => exact BoolOp_one ((y h' (x1.up k) q).run _ Q E ok (x1.next ok k f) (p.then k))
    | false => exact p _ h' d' tk' k f (z h' (x1.up k) q))
theorem Ev.ite0 {t a b : Expr} {pos : Pos} {β : Bool} (x : Tr0 c g l t β) (ha : β = true → Ev c X g l a P) (hb : β = false → Ev c X g l b P) : Ev c X g l (.IfExp t a b pos) P := .mk fun s Q E ok x1 p =>
  IfExp_ (x s _ E x1 fun tk => by
    cases β with
    | true => exact (ha rfl).run { s with toks := tk } Q E ok x1 p
    | false => exact (hb rfl).run { s with toks := tk } Q E ok x1 p)
theorem Fn.imp {W : Wd} {k : Nat} {f : Value} {vs : List Value} {P' : Value → Heap → Prop} (x : Fn W k X h f vs P') (hi : ∀ v h', Kp X h h' → P' v h' → P v h') : Fn W k X h f vs P := fun A s Q E r u xs e p => x A s Q E r u xs e fun v h' d' tk' kk z => p v h' d' tk' kk (hi v h' (e ▸ kk) z)
/-- calls -/
theorem Ev.callG {f : Str} {fa : Addr} {e : Expr} {es : List Expr} {p1 p2 : Pos} {k : Nat} {P' : List Value → Heap → Prop} (b : IsG f (.ref fa)) (y : EvL c X g l (e :: es) P') (z : ∀ vs g', (∀ a, g'.get? a = none → New c g' a) → Up c X g g' → P' vs g' → Fn c.W k X g' (.ref fa) vs P) (hr : k ≤ n := by first | exact Nat.le_of_ble_eq_true rfl | omega) (hk : okG D f = true := by rfl) (hs : noStar (e :: es) = true := by rfl) : Ev c X g l (.Call (.Name f p1) (e :: es) [] p2) P := .mk fun s Q E ok x1 p =>
  call_head (.glob b hk) x1 fun tk => callWith_K (K := hd.heap_39 c.W.w.params) (h₀ := c.W.b0) c.W.gd.k (b.hk _) ((y.run p2) { s with toks := tk } _ E ok x1 fun vs h' d' tk' kk f' q => by
    have x2 := x1.next ok kk f'
    exact ⟨c.W.gd.k.keeps x2.b0, z vs h' (fun a e => x2.new e) (x1.up kk) q c.A _ Q E (c.room.mono hr) x2.b0 (fun a m => (ok a m).1.elim (c.xs a) fun e0 => by
      cases q0 : c.W.b0.get? a with
      | none => rfl
      | some o => rw [c.up _ _ q0] at e0; cases e0) rfl fun v h₂ d₂ tk₂ k₂ z₂ => p v h₂ d₂ tk₂ (kk.trans (k₂.mono fun _ q => .tail _ q)) (x2.2.2.next ok k₂) z₂⟩) (starEach_cons hs).1 (star_plain (starEach_cons (env := c.env) hs).2)
/-- with plain arguments -/
theorem Ev.callF {f : Str} {fa : Addr} {e : Expr} {es : List Expr} {p1 p2 : Pos} {k : Nat} {as : List At} (b : IsG f (.ref fa)) (y : EvL0 c g l (e :: es) as) (z : ∀ vs g', (∀ a, g'.get? a = none → New c g' a) → Up c [] g g' → Ats vs as → Fn c.W k X g' (.ref fa) vs P) (hr : k ≤ n := by first | exact Nat.le_of_ble_eq_true rfl | omega) (hk : okG D f = true := by rfl) (hs : noStar (e :: es) = true := by rfl) : Ev c X g l (.Call (.Name f p1) (e :: es) [] p2) P :=
  .callG b (.of (P := fun vs h' => Up c [] g h' ∧ Ats vs as) y fun vs h' u q => ⟨u, q⟩) (fun vs g' nw u q => z vs g' nw q.1 q.2) hr hk hs
theorem Ev.call0 {f : Str} {fa : Addr} {p1 p2 : Pos} {k : Nat} (b : IsG f (.ref fa)) (z : ∀ g', (∀ a, g'.get? a = none → New c g' a) → Up c [] g g' → Fn c.W k X g' (.ref fa) [] P) (hr : k ≤ n := by first | exact Nat.le_of_ble_eq_true rfl | omega) (hk : okG D f = true := by rfl) : Ev c X g l (.Call (.Name f p1) [] [] p2) P := .mk fun s Q E ok x1 p =>
  Call_ (Ev0.glob (c := c) (g := g) (l := l) b hk s _ E x1 fun v tk q => by
    obtain rfl : v = .ref fa := q
    exact callWith_K0 (K := hd.heap_39 c.W.w.params) (c.W.gd.k.keeps x1.b0) (b.hk _) (z s.heap (fun a e => St.new x1.tok e) x1.up0 c.A { s with toks := tk } Q E (c.room.mono hr) x1.b0 (fun a m => (ok a m).1.elim (c.xs a) fun e0 => by
      cases q0 : c.W.b0.get? a with
      | none => rfl
      | some o => rw [c.up _ _ q0] at e0; cases e0) rfl fun v h₂ d₂ tk₂ k₂ z₂ => p v h₂ d₂ tk₂ (k₂.mono fun _ q => .tail _ q) (x1.2.2.next ok k₂) z₂)) rfl
/-- a call of a builtin or a type that makes something -/
theorem Ev.callB {x : Str} {id : String} {e : Expr} {es : List Expr} {p1 p2 : Pos} {P' : List Value → Heap → Prop} (b : IsB x (.builtin id)) (y : EvL c X g l (e :: es) P') (z : ∀ vs g', Up c X g g' → P' vs g' → Op c X g' l (call (.builtin id) vs) P) (hk : okG D x = true := by rfl) (hs : noStar (e :: es) = true := by rfl) : Ev c X g l (.Call (.Name x p1) (e :: es) [] p2) P := .mk fun s Q E ok x1 p =>
  call_head (.bltn b hk) x1 fun tk => PyProof.Rows.callWith_builtin1 ((y.run p2) { s with toks := tk } _ E ok x1 fun vs h' d' tk' k f q => (z vs h' (x1.up k) q) _ Q E ok (x1.next ok k f) (p.then k)) (starEach_cons hs).1 (star_plain (starEach_cons (env := c.env) hs).2)
theorem Ev.callTy {x : Str} {id : String} {e : Expr} {es : List Expr} {p1 p2 : Pos} {P' : List Value → Heap → Prop} (b : IsB x (.type id)) (y : EvL c X g l (e :: es) P') (z : ∀ vs g', Up c X g g' → P' vs g' → Op c X g' l (call (.type id) vs) P) (hk : okG D x = true := by rfl) (hs : noStar (e :: es) = true := by rfl) : Ev c X g l (.Call (.Name x p1) (e :: es) [] p2) P := .mk fun s Q E ok x1 p =>
  call_head (.bltn b hk) x1 fun tk => callWith_typeN ((y.run p2) { s with toks := tk } _ E ok x1 fun vs h' d' tk' k f q => (z vs h' (x1.up k) q) _ Q E ok (x1.next ok k f) (p.then k)) hs
/-! statements -/
/-- these objects, of those that may change, are as said -/
theorem Kp.base (x1 : St c g l h) (ok : okX c X) (k : Kp (c.L :: X) h h') (f : Fv c h' l) : Kp c.X c.b h' := (x1.next ok k f).2.1
theorem Ex.ret {e : Expr} {pos : Pos} {ss : List Stmt} (x : Ev c X g l e P) (ok : okX c X := by exact okX.nil) : Ex c g l (.Return (some e) pos :: ss) P N := .mk fun s Q E x1 r t =>
  wpAny_execs_cons (wpAny_Return_some (x.run s _ E ok x1 fun v h' d' tk' k f z => r v h' d' tk' (k.base x1 ok f) z))
theorem Ex.nil (hn : N g l) : Ex c g l [] P N := .mk fun s Q E x1 r t => wpAny_execs_nil (t g l s.heap s.drawn s.toks x1 hn)
theorem Ex.ite {t : Expr} {body ss : List Stmt} {pos : Pos} {Pt : Bool → Heap → Prop} {N' : Heap → List (Str × Value) → Prop} (x : Tr c X g l t Pt) (ha : ∀ g', Up c X g g' → Pt true g' → Ex c g' l body P N') (hb : ∀ g', Up c X g g' → Pt false g' → Ex c g' l ss P N) (hc : ∀ g' l', N' g' l' → Ex c g' l' ss P N) (ok : okX c X := by exact okX.nil) : Ex c g l (.If t body [] pos :: ss) P N := .mk fun s Q E x1 r t =>
  wpAny_execs_cons (wpAny_If (x.run s _ E ok x1 fun β h' d' tk' k f z => by
    cases β with
    | true => exact (ha h' (x1.up k) z).run _ _ E (x1.next ok k f) (fun v h₂ d₂ tk₂ k₂ z₂ => r v h₂ d₂ tk₂ k₂ z₂) fun g₂ l₂ h₂ d₂ tk₂ x2 z₂ => (hc g₂ l₂ z₂).run _ Q E x2 (fun v h₃ d₃ tk₃ k₃ z₃ => r v h₃ d₃ tk₃ k₃ z₃) fun g₃ l₃ h₃ d₃ tk₃ x3 z₃ => t g₃ l₃ h₃ d₃ tk₃ x3 z₃
    | false => exact wpAny_execs_nil ((hb h' (x1.up k) z).run _ Q E (x1.next ok k f) (fun v h₂ d₂ tk₂ k₂ z₂ => r v h₂ d₂ tk₂ k₂ z₂) fun g₂ l₂ h₂ d₂ tk₂ x2 z₂ => t g₂ l₂ h₂ d₂ tk₂ x2 z₂)))
/-- if: the body returns, the test leaves all as it is -/
theorem Ex.ite0 {t : Expr} {body ss : List Stmt} {pos : Pos} {β : Bool} (x : Tr0 c g l t β) (ha : β = true → Ex c g l body P fun _ _ => False) (hb : β = false → Ex c g l ss P N) : Ex c g l (.If t body [] pos :: ss) P N := .mk fun s Q E x1 r t =>
  wpAny_execs_cons (wpAny_If (x s _ E x1 fun tk => by
    cases β with
    | true => exact (ha rfl).run { s with toks := tk } _ E x1 (fun v h₂ d₂ tk₂ k₂ z₂ => r v h₂ d₂ tk₂ k₂ z₂) fun _ _ _ _ _ _ z₂ => z₂.elim
    | false => exact wpAny_execs_nil ((hb rfl).run { s with toks := tk } Q E x1 r t)))
theorem Ex.iteR {t : Expr} {body ss : List Stmt} {pos : Pos} {Pt : Bool → Heap → Prop} (x : Tr c X g l t Pt) (ha : ∀ g', Up c X g g' → Pt true g' → Ex c g' l body P fun _ _ => False) (hb : ∀ g', Up c X g g' → Pt false g' → Ex c g' l ss P N) (ok : okX c X := by exact okX.nil) : Ex c g l (.If t body [] pos :: ss) P N := .ite x ha hb (fun _ _ q => q.elim) ok
theorem Ex.itF {t : Expr} {body ss : List Stmt} {pos : Pos} (x : Tr0 c g l t false) (hb : Ex c g l ss P N) : Ex c g l (.If t body [] pos :: ss) P N := .ite0 x (fun q => nomatch q) fun _ => hb
/-- a store into a variable of the frame -/
theorem store {s : Shared} {x : Str} {v : Value} {Q : Unit → Shared → Prop} {E : Value → Shared → Prop} (x1 : St c g l s.heap) (hx : okN D x = true) (p : ∀ h' tk', St c g ((x, v) :: l) h' → Kp c.all s.heap h' → Q () { s with heap := h', toks := tk' }) : wpAny (model PR c.W.w) c.A (storeName c.env x v) Q E s := by
  have look : ∀ y u, y ≠ x → ((x, v) :: l).lookup y = some u → l.lookup y = some u := fun y u hy e => by
    rw [List.lookup_cons, beq_eq_false_iff_ne.mpr hy] at e; exact e
  have same : ∀ u, ((x, v) :: l).lookup x = some u → v = u := fun u e => by
    rw [List.lookup_cons, beq_self_eq_true] at e; exact Option.some.inj e
  have fin : ∀ h' tk', Kp c.all s.heap h' → Fv c h' ((x, v) :: l) → Q () { s with heap := h', toks := tk' } := fun h' tk' k f =>
    p h' tk' ⟨x1.1.trans k, fun a o q e => k a o (fun m => by
      rw [c.fs a m] at e; cases e) (x1.2.1 a o q e), f⟩ k
  have kp : ∀ {a : Addr} {h' : Heap}, a ∈ c.all → Heap.SameBut a s.heap h' → (∀ o, s.heap.get? a = some o → ¬ isT o) → Kp c.all s.heap h' := fun {a h'} hm hs ht b o q e => by
    by_cases e2 : b = a
    · subst e2; exact absurd (q hm) (ht o e)
    · exact hs.extBut b o e2 e
  unfold okN at hx
  rw [Bool.and_eq_true, Bool.or_eq_true] at hx
  obtain ⟨m, hn, hm⟩ := x1.2.2.ns
  rcases hx.1 with hk | hk
  · rw [beq_iff_eq] at hk
    refine wpAny_storeName_local hk hn (fun h' hn' hs => fin _ _ (kp all_L hs fun o e => ?_) ⟨⟨_, hn', fun y u e d => ?_⟩, fun y a e => ?_⟩) rfl
    · obtain ⟨o', _, _, ho, hd, _⟩ := hn
      rw [e] at ho; cases ho
      rintro ⟨_, _, _, h2⟩
      rw [h2] at hd; cases hd
    · by_cases hy : y = x
      · subst hy; simp only [if_true]; rw [same u e]
      · simp only [if_neg hy]; exact hm y u (look y u hy e) d
    · obtain ⟨v₀, ⟨o, ho, hd⟩, r⟩ := x1.2.2.cell y a e
      refine ⟨v₀, ⟨o, hs.extBut _ _ (c.ab y a (mem_of_lookup e)) ho, hd⟩, fun u q d => r u (look y u (fun z => ?_) q) d⟩
      subst z; rw [hk] at d; cases d
  · rw [beq_iff_eq] at hk
    obtain ⟨a, ha⟩ := c.hc _ hk
    obtain ⟨v₀, hc, hr⟩ := x1.2.2.cell _ a ha
    refine wpAny_storeName_cell rfl hk ha hc fun h' hc' hs => fin h' s.toks (kp (all_c ha) hs fun o e => ?_) ⟨⟨m, hn.sameBut hs (Ne.symm (c.ab _ _ (mem_of_lookup ha))), fun y u e d => hm y u (look y u (fun z => ?_) e) d⟩, fun y a' e => ?_⟩
    · obtain ⟨o', ho, hd⟩ := hc
      rw [e] at ho; cases ho
      rintro ⟨_, _, _, h2⟩
      rw [h2] at hd; cases hd
    · subst z; rw [hk] at d; cases d
    · by_cases hy : y = x
      · subst hy
        rw [ha] at e; cases e
        exact ⟨_, hc', fun u q _ => congrArg some (same u q)⟩
      · have hne : a' ≠ a := fun q => hy (name_of_addr c.ap (mem_of_lookup e) (q ▸ mem_of_lookup ha))
        obtain ⟨v1, i1, r1⟩ := x1.2.2.cell y a' e
        exact ⟨v1, i1.sameBut hs hne, fun u q d => r1 u (look y u hy q) d⟩
theorem Ex.assign {x : Str} {p0 pos : Pos} {e : Expr} {ss : List Stmt} {P' : Value → Heap → Prop} (a : Ev c X g l e P') (r : ∀ v g', Up c X g g' → P' v g' → Ex c g' ((x, v) :: l) ss P N) (ok : okX c X := by exact okX.nil)
    (hs : swapsWith e (some (.Name x p0)) pos.line c.env = pure false := by rfl) (hx : okN D x = true := by rfl) : Ex c g l (.Assign [.Name x p0] e pos :: ss) P N := .mk fun s Q E x1 rr t =>
  wpAny_execs_cons (wpAny_Assign_Name (a.run s _ E ok x1 fun v h' d' tk' k f z => store (x1.next ok k f) hx fun h₂ tk₂ x2 _ => (r v h' (x1.up k) z).run _ Q E x2 (fun v h₃ d₃ tk₃ k₃ z₃ => rr v h₃ d₃ tk₃ k₃ z₃) fun g₃ l₃ h₃ d₃ tk₃ x3 z₃ => t g₃ l₃ h₃ d₃ tk₃ x3 z₃) hs)
theorem Ex.assign0 {x : Str} {p0 pos : Pos} {e : Expr} {ss : List Stmt} {a : At} (y : Ev0 c g l e a) (r : ∀ v, a.is v → Ex c g ((x, v) :: l) ss P N)
    (hs : swapsWith e (some (.Name x p0)) pos.line c.env = pure false := by rfl) (hx : okN D x = true := by rfl) : Ex c g l (.Assign [.Name x p0] e pos :: ss) P N := .mk fun s Q E x1 rr t =>
  wpAny_execs_cons (wpAny_Assign_Name (y s _ E x1 fun v tk z => store x1 hx fun h₂ tk₂ x2 _ => (r v z).run _ Q E x2 (fun v h₃ d₃ tk₃ k₃ z₃ => rr v h₃ d₃ tk₃ k₃ z₃) fun g₃ l₃ h₃ d₃ tk₃ x3 z₃ => t g₃ l₃ h₃ d₃ tk₃ x3 z₃) hs)
theorem Ex.assignV {x : Str} {p0 pos : Pos} {e : Expr} {ss : List Stmt} {v : Value} (y : Ev0 c g l e (.v v)) (r : Ex c g ((x, v) :: l) ss P N)
    (hs : swapsWith e (some (.Name x p0)) pos.line c.env = pure false := by rfl) (hx : okN D x = true := by rfl) : Ex c g l (.Assign [.Name x p0] e pos :: ss) P N := .assign0 y (fun u q => by obtain rfl : u = v := q; exact r) hs hx
/-- an expression alone; what comes is no thing -/
theorem Ex.expr {e : Expr} {pos : Pos} {ss : List Stmt} {P' : Value → Heap → Prop} (a : Ev c X g l e P') (r : ∀ v g', Up c X g g' → P' v g' → (∀ t, v ≠ .ref t) ∧ Ex c g' l ss P N) (ok : okX c X := by exact okX.nil) (hs : swapsWith e none pos.line c.env = pure false := by rfl) : Ex c g l (.Expr e pos :: ss) P N := .mk fun s Q E x1 rr t =>
  wpAny_execs_cons (wpAny_Expr (a.run s _ E ok x1 fun v h' d' tk' k f z => by
    obtain ⟨hv, r⟩ := r v h' (x1.up k) z
    cases v with
    | ref a => exact (hv a rfl).elim
    | _ => exact r.run _ Q E (x1.next ok k f) (fun v h₃ d₃ tk₃ k₃ z₃ => rr v h₃ d₃ tk₃ k₃ z₃) fun g₃ l₃ h₃ d₃ tk₃ x3 z₃ => t g₃ l₃ h₃ d₃ tk₃ x3 z₃) rfl hs)
end
end
section
open PySem PySem.W PyProof.Rows PySem.Calls
theorem bindL_look {k : Str → Option NameKind} {x : Str} (hx : k x = some .local) : ∀ (bs : List (Str × Value)) (m : Str → Option Value) (v : Value), bs.reverse.lookup x = some v ∨ (bs.reverse.lookup x = none ∧ m x = some v) → bindL k bs m x = some v
  | [], m, v, h => by
    rcases h with h | h
    · cases h
    · exact h.2
  | (y, u) :: r, m, v, h => by
    refine bindL_look hx r _ v ?_
    rw [List.reverse_cons, List.lookup_append] at h
    cases e : r.reverse.lookup x with
    | some z =>
      rw [e] at h
      rcases h with h | h
      · exact .inl h
      · cases h.1
    | none =>
      refine .inr ⟨rfl, ?_⟩
      rw [e, Option.none_or, List.lookup_cons] at h
      by_cases hy : x = y
      · subst hy
        rw [beq_self_eq_true] at h
        rw [if_pos hx]
        rcases h with h | h
        · simpa using h
        · cases h.1
      · rw [beq_eq_false_iff_ne.mpr hy] at h
        have h2 : m x = some v := by
          rcases h with h | h
          · cases h
          · exact h.2
        by_cases hk : k y = some .local
        · rw [if_pos hk, if_neg hy]; exact h2
        · rw [if_neg hk]; exact h2
theorem bindC_look {k : Str → Option NameKind} {x : Str} (hx : k x = some .cell) : ∀ (bs : List (Str × Value)) (m : Str → Option Value) (v : Value), bs.reverse.lookup x = some v ∨ (bs.reverse.lookup x = none ∧ m x = some v) → bindC k bs m x = some v
  | [], m, v, h => by
    rcases h with h | h
    · cases h
    · exact h.2
  | (y, u) :: r, m, v, h => by
    refine bindC_look hx r _ v ?_
    rw [List.reverse_cons, List.lookup_append] at h
    cases e : r.reverse.lookup x with
    | some z =>
      rw [e] at h
      rcases h with h | h
      · exact .inl h
      · cases h.1
    | none =>
      refine .inr ⟨rfl, ?_⟩
      rw [e, Option.none_or, List.lookup_cons] at h
      by_cases hy : x = y
      · subst hy
        rw [beq_self_eq_true] at h
        rw [if_neg (by rw [hx]; decide)]
        rcases h with h | h
        · simpa using h
        · cases h.1
      · rw [beq_eq_false_iff_ne.mpr hy] at h
        have h2 : m x = some v := by
          rcases h with h | h
          · cases h
          · exact h.2
        by_cases hk : k y = some .local
        · rw [if_pos hk]; exact h2
        · rw [if_neg hk, if_neg hy]; exact h2
theorem nodup_look {cs : List (Str × Addr)} (h : (cs.map (·.1)).Nodup) : ∀ x c, (x, c) ∈ cs → cs.lookup x = some c := fun _ _ m => lookup_of_mem_nodup h m
section
variable {D : List (Str × NameKind)} {n : Nat} {X X' : List Addr} {g h h' : Heap} {l : List (Str × Value)} {P : Value → Heap → Prop} {N : Heap → List (Str × Value) → Prop}
theorem cells_have {D : List (Str × NameKind)} {L : Nat} {x : Str} (h : D.lookup x = some .cell) : ∃ a, (cellsFrom L D []).lookup x = some a := by
  have e := kindsX (scope := ⟨.function, D, false, false, []⟩) (binds := [(x, .none)]) (by simp [h]) L (x, .none) (.head _)
  rcases e with e | e
  · have e : D.lookup x = some .local := e
    rw [h] at e; cases e
  · exact Option.isSome_iff_exists.mp e.2
/-- the same for a code's run -/
noncomputable def FnC (W : Wd) (n : Nat) (X : List Addr) (h : Heap) (f : Value) (vs : List Value) (P : Value → Heap → Prop) : Prop := ∀ (A : Around) (s : Shared) (R : Result → Shared → Prop), Room A n → W.b0.StaysIn h → (∀ a ∈ X, W.b0.get? a = none) → s.heap = h → (∀ v h' d' tk', Kp X s.heap h' → P v h' → R (.ok (.ret v)) { s with heap := h', drawn := d', toks := tk' }) → codeAny (model PR W.w) A (.call f ⟨vs, []⟩) R s
theorem FnC.fn {W : Wd} {n : Nat} {f : Value} {vs : List Value} (x : FnC W n X h f vs P) : Fn W n X h f vs P := fun A s Q E room up xs eh p => wpAny_call (x A s _ room up xs eh fun v h' d' tk' k z => p v h' d' tk' k z)
/-- a call of a function of the text: its body on a new frame -/
theorem FnC.enterN {W : Wd} {name qual : Str} {params : Arguments} {body : List Stmt} {more : List (Str × Const)} {dV kV doc pm cdv ct oc : Value} {an od : Option Addr} {osl : Array (Option Value)} {f : Addr} {vs : List Value} (l : List (Str × Value))
    (ho : (hd.heap_39 W.w.params).lookup f = some ⟨oc, od, .func (fnOf name qual params body ⟨.function, D, false, false, more⟩ dV kV doc pm an cdv ct), osl⟩) (hcd : codeIn (hd.heap_39 W.w.params) cdv qual = true)
    (hbind : ∀ s, BindsTo s (fnOf name qual params body ⟨.function, D, false, false, more⟩ dV kV doc pm an cdv ct) ⟨vs, []⟩ l.reverse) (hkind : (l.reverse.all fun y => D.lookup y.1 == some .local || D.lookup y.1 == some .cell) = true)
    (hnd : ((cellsFrom 0 D []).map (·.1)).Nodup)
    (x : ∀ c : Cx D n, c.W = W → c.X = X → (∀ a o, h.get? a = some o → a ∉ c.all) → Ex c h l body P N) (hN : ∀ (c : Cx D n) g' l' h', (∀ a o, h.get? a = some o → a ∉ c.all) → St c g' l' h' → N g' l' → P .none h') :
    FnC W (n + 1) X h (.ref f) vs P := fun A s R room up xs eh p => by
  subst eh
  have G := W.gd.keeps up
  refine codeAny_call_function room.depth (G.k _ _ ho) rfl rfl rfl rfl (codeRec_of G.k hcd) (hbind _ _ _ _ _ ?_)
  refine wpAny_newFunctionEnv_cells rfl (kindsX hkind _) fun env' he s' y => ?_
  subst he
  refine ⟨G.t.nolimit.keeps y.toInCall.keep, codeAny_func ?_⟩
  obtain ⟨h₁, tk, rfl, _⟩ := y.done
  have hk₁ := y.toInCall.keep
  have big : ∀ a, s.heap.objs.size ≤ a → s.heap.get? a = none := fun a q => by
    cases e : s.heap.get? a with
    | none => rfl
    | some o => exact absurd (Heap.lt_size e) (Nat.not_lt.mpr q)
  have nds : ((cellsFrom (s.heap.objs.size + 1) D []).map (·.1)).Nodup := cellsFrom_names D 0 (s.heap.objs.size + 1) [] [] rfl ▸ hnd
  have c : { c : Cx D n // c.W = W ∧ c.X = X ∧ c.b = s.heap ∧ c.L = s.heap.objs.size ∧ c.cs = cellsFrom (s.heap.objs.size + 1) D [] ∧ c.more = more ∧ c.qual = qual ++ ".<locals>." ∧ c.func = some f ∧ c.code = cdv ∧ c.frame = some s.heap.objs.size ∧ c.A = A.deeper c.env } :=
    ⟨{ W := W, A := A.deeper (envOfC qual ⟨.function, D, false, false, more⟩ s.heap.objs.size f cdv), L := s.heap.objs.size, cs := cellsFrom (s.heap.objs.size + 1) D [], more := more, qual := qual ++ ".<locals>.", func := some f, code := cdv, frame := some s.heap.objs.size, X := X, b := s.heap, up := up, xs := xs,
       fs := fun a q => big a (by
         rcases List.mem_cons.mp q with rfl | q
         · exact Nat.le_refl _
         · obtain ⟨⟨z, a'⟩, hm, rfl⟩ := List.mem_map.mp q
           exact Nat.le_of_lt (y.above z a' hm)),
       ap := y.apart, ab := fun z a hm => Nat.ne_of_gt (y.above z a hm), nd := nodup_look nds, hc := fun z hz => cells_have hz, room := room.deeper }, rfl, rfl, rfl, rfl, rfl, rfl, rfl, rfl, rfl, rfl, rfl⟩
  obtain ⟨c, rfl, rfl, eb, eL, ec, em, eq, ef, ecd, efr, eA⟩ := c
  have eenv : c.env = envOfC qual ⟨.function, D, false, false, more⟩ s.heap.objs.size f cdv := by
    unfold Cx.env envOfC
    rw [eL, ec, em, eq, ef, ecd, efr]
  have st : St c s.heap l h₁ := by
    refine ⟨Kp.of hk₁, eb ▸ Kp.of hk₁, ⟨_, by rw [eL]; exact y.toInCall.ns, fun z v e d => bindL_look (k := fun z => D.lookup z) d l.reverse _ v (.inl (by rw [List.reverse_reverse]; exact e))⟩, fun z a e => ?_⟩
    rw [ec] at e
    refine ⟨_, y.cell z a e, fun v e2 d => bindC_look (k := fun z => D.lookup z) d l.reverse _ v (.inl (by rw [List.reverse_reverse]; exact e2))⟩
  have old : ∀ a o, s.heap.get? a = some o → a ∉ c.all := fun a o e q => by
    have := c.fs a q
    rw [eb, e] at this; cases this
  have run := (x c rfl rfl old).run { s with heap := h₁, toks := tk } (fun fl s' => R (.ok (.ret (match fl with | .ret v => v | _ => .none))) s') (fun _ _ => False) st (fun v h' d' tk' k z => p v h' d' tk' (eb ▸ k) z) fun g' l' h' d' tk' x2 z => p .none h' d' tk' (eb ▸ x2.2.1) (hN c g' l' h' old x2 z)
  rw [eA, eenv] at run
  exact wpAny_mono run (fun fl s' hl => hl) fun _ _ y => y.elim
theorem Fn.enterN {W : Wd} {name qual : Str} {params : Arguments} {body : List Stmt} {more : List (Str × Const)} {dV kV doc pm cdv ct oc : Value} {an od : Option Addr} {osl : Array (Option Value)} {f : Addr} {vs : List Value} (l : List (Str × Value))
    (ho : (hd.heap_39 W.w.params).lookup f = some ⟨oc, od, .func (fnOf name qual params body ⟨.function, D, false, false, more⟩ dV kV doc pm an cdv ct), osl⟩) (hcd : codeIn (hd.heap_39 W.w.params) cdv qual = true)
    (hbind : ∀ s, BindsTo s (fnOf name qual params body ⟨.function, D, false, false, more⟩ dV kV doc pm an cdv ct) ⟨vs, []⟩ l.reverse) (hkind : (l.reverse.all fun y => D.lookup y.1 == some .local || D.lookup y.1 == some .cell) = true)
    (hnd : ((cellsFrom 0 D []).map (·.1)).Nodup)
    (x : ∀ c : Cx D n, c.W = W → c.X = X → (∀ a o, h.get? a = some o → a ∉ c.all) → Ex c h l body P N) (hN : ∀ (c : Cx D n) g' l' h', (∀ a o, h.get? a = some o → a ∉ c.all) → St c g' l' h' → N g' l' → P .none h') :
    Fn W (n + 1) X h (.ref f) vs P := (FnC.enterN l ho hcd hbind hkind hnd x hN).fn
theorem Fn.enter {W : Wd} {name qual : Str} {params : Arguments} {body : List Stmt} {more : List (Str × Const)} {dV kV doc pm cdv ct oc : Value} {an od : Option Addr} {osl : Array (Option Value)} {f : Addr} {vs : List Value} (l : List (Str × Value))
    (ho : (hd.heap_39 W.w.params).lookup f = some ⟨oc, od, .func (fnOf name qual params body ⟨.function, D, false, false, more⟩ dV kV doc pm an cdv ct), osl⟩) (hcd : codeIn (hd.heap_39 W.w.params) cdv qual = true)
    (hbind : ∀ s, BindsTo s (fnOf name qual params body ⟨.function, D, false, false, more⟩ dV kV doc pm an cdv ct) ⟨vs, []⟩ l.reverse) (hkind : (l.reverse.all fun y => D.lookup y.1 == some .local || D.lookup y.1 == some .cell) = true)
    (hnd : ((cellsFrom 0 D []).map (·.1)).Nodup)
    (x : ∀ c : Cx D n, c.W = W → c.X = X → (∀ a o, h.get? a = some o → a ∉ c.all) → Ex c h l body P fun _ _ => False) : Fn W (n + 1) X h (.ref f) vs P := .enterN l ho hcd hbind hkind hnd x fun _ _ _ _ _ _ q => q.elim
end
theorem G_turned : IsG "turned" (.ref 162) := ⟨fun w => by k_is, fun w => by k_is⟩
theorem G_joined : IsG "joined" (.ref 169) := ⟨fun w => by k_is, fun w => by k_is⟩
theorem G_parts_of : IsG "parts_of" (.ref 124) := ⟨fun w => by k_is, fun w => by k_is⟩
theorem kind_same' (p : P) : (p.kind == "same") = p.isSame := by
  cases p <;> (simp only [P.kind, P.isSame]; decide +kernel)
noncomputable def P.isTurn : P → Bool
  | .turn _ => true
  | _ => false
theorem kind_turn (p : P) : (p.kind == "turn") = p.isTurn := by
  cases p <;> (simp only [P.kind, P.isTurn]; decide +kernel)
theorem PaperAt.turnInv {h : Heap} {v : Value} {p : P} (x : PaperAt h v p) (e : p.isTurn = true) : ∃ a tk u, v = .ref a ∧ IsTup h a [.str "turn" tk, u].toArray ∧ PaperAt h u p.turned := by
  cases x with
  | turn i y => exact ⟨_, _, _, rfl, i, y⟩
  | _ => cases e
theorem turned_other {p : P} (e : p.isTurn = false) : p.turned = if p.isSame then p else .turn p := by
  cases p <;> first | rfl | cases e
theorem turned_f {W : Wd} {h : Heap} {v : Value} {p : P} (hp : PaperAt h v p) : Fn W 2 [] h (.ref 162) [v] fun x h' => PaperAt h' x p.turned := by
  obtain ⟨a, tk, vs, rfl, hi⟩ := hp.view
  refine' .enter [("paper", .ref a)] ?ho ?hcd ?hbind ?hkind ?hnd ?_
  walk_at "K side"
  intro c _ _ _
  refine .ite0 (.itemIs (i := 0) hi) (fun e => ?_) fun e => ?_
  · rw [kind_turn] at e
    obtain ⟨a', tk', u, ea, it, hu⟩ := hp.turnInv e
    cases ea
    exact .ret (.ofV (.itemV (i := 1) it) fun h' k => hu.sub k.sub)
  · rw [kind_turn] at e
    rw [turned_other e]
    refine .ret (.ite0 (.itemIs (i := 0) hi) (fun e2 => ?_) fun e2 => ?_)
    · rw [kind_same'] at e2
      rw [e2]
      exact .ofV .var fun h' k => hp.sub k.sub
    · rw [kind_same'] at e2
      rw [e2]
      refine .tup (.str (.var .nil)) fun vs t h₂ k _ z ht => ?_
      obtain ⟨tk, rfl⟩ := z.s1
      exact .turn ht.tup (hp.sub k.sub)
theorem joined_f {W : Wd} {h : Heap} {v u : Value} {p q : P} (hp : PaperAt h v p) (hq : PaperAt h u q) : Fn W 2 [] h (.ref 169) [v, u] fun x h' => PaperAt h' x (p.joined q) := by
  obtain ⟨a, tk, vs, rfl, hi⟩ := hp.view
  obtain ⟨a', tk', us, rfl, hj⟩ := hq.view
  refine' .enter [("other", .ref a'), ("one", .ref a)] ?ho ?hcd ?hbind ?hkind ?hnd ?_
  walk_at "K side"
  intro c _ _ _
  refine .ite0 (.itemIs (i := 0) hi) (fun e => ?_) fun e => ?_
  · unfold P.joined
    rw [if_pos (kind_same' p ▸ e)]
    exact .ret (.ofV .var fun h' k => hq.sub k.sub)
  · rw [kind_same'] at e
    refine .ret (.ite0 (.itemIs (i := 0) hj) (fun e2 => ?_) fun e2 => ?_)
    · unfold P.joined
      rw [e, if_neg Bool.false_ne_true, if_pos (kind_same' q ▸ e2)]
      exact .ofV .var fun h' k => hp.sub k.sub
    · rw [kind_same'] at e2
      refine .tup (.str (.var (.var .nil))) fun vs t h₂ k _ z ht => ?_
      obtain ⟨tk, rfl⟩ := z.s2
      unfold P.joined
      rw [e, e2, if_neg Bool.false_ne_true, if_neg Bool.false_ne_true]
      exact .join ht.tup (hp.sub k.sub) (hq.sub k.sub)
end
section
open PySem PySem.W PyProof.Rows PySem.Calls
theorem zip_rev {α β : Type} : ∀ {xs : List α} {ys : List β}, xs.length = ys.length → xs.reverse.zip ys.reverse = (xs.zip ys).reverse
  | [], [], _ => rfl
  | x :: xs, y :: ys, h => by
    rw [List.reverse_cons, List.reverse_cons, List.zip_append (by rw [List.length_reverse, List.length_reverse]; exact Nat.succ.inj h), zip_rev (Nat.succ.inj h)]
    show _ = ((x, y) :: xs.zip ys).reverse
    rw [List.reverse_cons]
    rfl
  | [], _ :: _, h => nomatch h
  | _ :: _, [], h => nomatch h
section
variable {D : List (Str × NameKind)} {n : Nat} {c : Cx D n} {X X' : List Addr} {g h h' : Heap} {l : List (Str × Value)} {P : Value → Heap → Prop} {N : Heap → List (Str × Value) → Prop}
/-- numbers -/
theorem Ev0.add {a b : Expr} {pos : Pos} {i j : Int} (x : Ev0 c g l a (.i i)) (y : Ev0 c g l b (.i j)) : Ev0 c g l (.BinOp a .Add b pos) (.i (i + j)) := fun s Q E x1 p =>
  wpAny_BinOp (x s _ E x1 fun u tk z => y { s with toks := tk } _ E x1 fun v tk2 z2 => by
    obtain ⟨t, rfl⟩ := z
    obtain ⟨t', rfl⟩ := z2
    exact AutoIntOps.add_0 (p _ _ ⟨_, rfl⟩))
theorem Ev0.sub {a b : Expr} {pos : Pos} {i j : Int} (x : Ev0 c g l a (.i i)) (y : Ev0 c g l b (.i j)) : Ev0 c g l (.BinOp a .Sub b pos) (.i (i - j)) := fun s Q E x1 p =>
  wpAny_BinOp (x s _ E x1 fun u tk z => y { s with toks := tk } _ E x1 fun v tk2 z2 => by
    obtain ⟨t, rfl⟩ := z
    obtain ⟨t', rfl⟩ := z2
    exact AutoIntOps.sub_0 (p _ _ ⟨_, rfl⟩))
theorem Ev0.mul {a b : Expr} {pos : Pos} {i j : Int} (x : Ev0 c g l a (.i i)) (y : Ev0 c g l b (.i j)) (hm : Builtin.Int.intBits i ≤ 64) : Ev0 c g l (.BinOp a .Mult b pos) (.i (i * j)) := fun s Q E x1 p =>
  wpAny_BinOp (x s _ E x1 fun u tk z => y { s with toks := tk } _ E x1 fun v tk2 z2 => by
    obtain ⟨t, rfl⟩ := z
    obtain ⟨t', rfl⟩ := z2
    exact AutoIntOps.mul_0 (p _ _ ⟨_, rfl⟩) (IntMulOk.of_left hm))
theorem Ev0.mod {a b : Expr} {pos : Pos} {i j : Int} (x : Ev0 c g l a (.i i)) (y : Ev0 c g l b (.i j)) (hj : ¬(j == 0) = true) : Ev0 c g l (.BinOp a .Mod b pos) (.i (i.fmod j)) := fun s Q E x1 p =>
  wpAny_BinOp (x s _ E x1 fun u tk z => y { s with toks := tk } _ E x1 fun v tk2 z2 => by
    obtain ⟨t, rfl⟩ := z
    obtain ⟨t', rfl⟩ := z2
    exact AutoIntOps.mod_1 hj (p _ _ ⟨_, rfl⟩))
theorem Op.add {i j : Int} {u v : Value} (x : (At.i i).is u) (y : (At.i j).is v) (hp : ∀ v h', Up c [] g h' → (At.i (i + j)).is v → P v h') : Op c X g l (binaryOp .Add u v) P := fun s Q E ok x1 p => by
  obtain ⟨t, rfl⟩ := x
  obtain ⟨t', rfl⟩ := y
  exact AutoIntOps.add_0 (p.at x1 (hp _ _ x1.up0 ⟨_, rfl⟩))
/-- texts -/
theorem Ev0.cat {a b : Expr} {pos : Pos} {i j : Str} (x : Ev0 c g l a (.s i)) (y : Ev0 c g l b (.s j)) (hz : i.length + j.length ≤ 16777216) : Ev0 c g l (.BinOp a .Add b pos) (.s (i ++ j)) := fun s Q E x1 p =>
  wpAny_BinOp (x s _ E x1 fun u tk z => y { s with toks := tk } _ E x1 fun v tk2 z2 => by
    obtain ⟨t, rfl⟩ := z
    obtain ⟨t', rfl⟩ := z2
    exact KXadd.add (Nat.le_refl _) (Nat.le_refl _) hz fun t k _ => p _ _ ⟨_, rfl⟩)
/-- d[text] of a dict -/
theorem Ev0.itemD {e f : Expr} {pos : Pos} {d : Addr} {o : Obj} {m : Str → Option Value} {k : Str} {u : Value} (x : Ev0 c g l e (.v (.ref d))) (y : Ev0 c g l f (.s k)) (ho : g.get? d = some o) (hd : d ∉ c.all) (hm : MapOb PR c.W.w o m) (hf : m k = some u)
    (hs : ∀ tk, subscripted f false (.ref d) (.str k tk) = operate [.ref d, .str k tk] (getItem (.ref d) (.str k tk)) := by intro _; with_unfolding_all rfl) : Ev0 c g l (.Subscript e f pos) (.v u) := fun s Q E x1 p =>
  Subscript_ (x s _ E x1 fun v tk z => y { s with toks := tk } _ E x1 fun v2 tk2 z2 => by
    obtain rfl : v = .ref d := z
    obtain ⟨t, rfl⟩ := z2
    exact item_some hm hf (x1.get hd ho) (p _ _ rfl) (hs t))
/-- l[i] of a list -/
theorem Ev0.itemL {e f : Expr} {pos : Pos} {t : Addr} {us : List Value} {r : Nat} {u : Value} (x : Ev0 c g l e (.v (.ref t))) (y : Ev0 c g l f (.i (r : Int))) (ho : g.IsList t us.toArray) (hd : t ∉ c.all) (hf : us[r]? = some u) (hr : r < 100000)
    (hs : ∀ tk, subscripted f false (.ref t) (.int (r : Int) tk) = operate [.ref t, .int (r : Int) tk] (getItem (.ref t) (.int (r : Int) tk)) := by intro _; with_unfolding_all rfl) : Ev0 c g l (.Subscript e f pos) (.v u) := fun s Q E x1 p =>
  Subscript_ (x s _ E x1 fun v tk z => y { s with toks := tk } _ E x1 fun v2 tk2 z2 => by
    obtain rfl : v = .ref t := z
    obtain ⟨t', rfl⟩ := z2
    exact itemL_k (let ⟨o, e, r⟩ := ho; ⟨o, x1.get hd e, r⟩) hf hr (p _ _ rfl) (hs t'))
theorem Ev0.intI {e : Expr} {p1 p2 : Pos} {i : Int} (b : IsB "int" (.type "int")) (y : Ev0 c g l e (.i i)) (hk : okG D "int" = true := by rfl) (hs : noStar [e] = true := by rfl) : Ev0 c g l (.Call (.Name "int" p1) [e] [] p2) (.i i) :=
  .callTy b (.cons y .nil hs) (fun h vs x1 q s Q E eh p => by
    obtain ⟨t, us, rfl, q2⟩ := q.iv
    cases q2
    exact call_int_int (p _ s.toks ⟨_, rfl⟩)) hk hs
theorem Ev0.strI {e : Expr} {p1 p2 : Pos} {i : Int} (b : IsB "str" (.type "str")) (y : Ev0 c g l e (.i i)) (hi : i.natAbs.log2 < 1920) (hk : okG D "str" = true := by rfl) (hs : noStar [e] = true := by rfl) : Ev0 c g l (.Call (.Name "str" p1) [e] [] p2) (.s (Str.ofString (toString i))) :=
  .callTy b (.cons y .nil hs) (fun h vs x1 q s Q E eh p => by
    obtain ⟨t, us, rfl, q2⟩ := q.iv
    cases q2
    exact PySem.P.str_of_int hi (p _ _ ⟨_, rfl⟩)) hk hs
theorem Ev0.lenD {e : Expr} {p1 p2 : Pos} {t : Addr} {o : Obj} {kvs : List (Str × Value)} (b : IsB "len" (.builtin "len")) (y : Ev0 c g l e (.v (.ref t))) (it : g.get? t = some o) (hd : o.IsDictOf (PySem.strKind PR c.W.w) kvs) (hn : t ∉ c.all) (hss : (t == sysModules) = false) (hz : kvs.length ≤ 16384) (hk : okG D "len" = true := by rfl) (hs : noStar [e] = true := by rfl) : Ev0 c g l (.Call (.Name "len" p1) [e] [] p2) (.i (kvs.length : Int)) :=
  .callB b (.cons y .nil hs) (fun h vs x1 q s Q E eh p => by
    rw [q.v1]
    subst eh
    exact lenD_t (x1.get hn it) hd hss hz (p _ _ ⟨_, rfl⟩)) hk hs
/-- stores in their order -/
noncomputable abbrev Stores (c : Cx D n) (ts : List (Value → Sem Unit)) (ns : List Str) : Prop := All2 (fun t x => ∀ v s (Q : Unit → Shared → Prop) (E : Value → Shared → Prop), wpAny (model PR c.W.w) c.A (storeName c.env x v) Q E s → wpAny (model PR c.W.w) c.A (t v) Q E s) ts ns
theorem stores {ts : List (Value → Sem Unit)} {ns : List Str} (as : Stores c ts ns) : ∀ {vs : List Value} {l : List (Str × Value)} {s : Shared} {Q : Unit → Shared → Prop} {E : Value → Shared → Prop}, ns.length = vs.length → (ns.all (okN D) = true) → St c g l s.heap →
    (∀ h' tk', St c g ((ns.zip vs).reverse ++ l) h' → Kp c.all s.heap h' → Q () { s with heap := h', toks := tk' }) → wpAny (model PR c.W.w) c.A (assignInOrder ts vs) Q E s := by
  induction as with
  | nil =>
    intro vs l s Q E e _ x1 p
    cases vs with
    | nil => exact wpAny_assignInOrder_none (p s.heap s.toks x1 .refl)
    | cons v vs => cases e
  | cons a as ih =>
    rename_i t x ts ns
    intro vs l s Q E e ok x1 p
    cases vs with
    | nil => cases e
    | cons v vs =>
      rw [List.all_cons, Bool.and_eq_true] at ok
      exact wpAny_assignInOrder_more (a v s _ E (store x1 ok.1 fun h₂ tk₂ x2 k => ih (Nat.succ.inj e) ok.2 x2 fun h₃ tk₃ x3 k3 => by
        have := p h₃ tk₃ (by rw [List.zip_cons_cons, List.reverse_cons, List.append_assoc]; exact x3) (k.trans k3)
        exact this))
theorem Stores.binds : ∀ (ns : List Str), Stores c (ns.map fun n => bindName c.env n) ns
  | [] => .nil
  | _ :: ns => .cons (fun _ _ _ _ h => bindName_ h) (Stores.binds ns)
/-- the names of plain targets -/
noncomputable def namesOf : List Expr → Option (List Str)
  | [] => some []
  | .Name x _ :: r => (namesOf r).map (x :: ·)
  | _ => none
theorem Stores.names : ∀ {es : List Expr} {ns : List Str}, namesOf es = some ns → (assignEach es c.env).findIdx? (·.1) = none ∧ (assignEach es c.env).length = ns.length ∧ Stores c ((assignEach es c.env).map (·.2)) ns
  | [], ns, h => by cases h; exact ⟨rfl, rfl, .nil⟩
  | e :: es, ns, h => by
    cases e with
    | Name x p =>
      obtain ⟨ms, hm, rfl⟩ := Option.map_eq_some_iff.mp h
      obtain ⟨a, b, d⟩ := Stores.names (es := es) hm
      refine ⟨?_, congrArg Nat.succ b, .cons (fun _ _ _ _ h => PyProof.Rows.assign_Name h) d⟩
      show ((false, assign (.Name x p) c.env) :: assignEach es c.env).findIdx? (·.1) = none
      rw [List.findIdx?_cons]
      simp [a]
    | _ => cases h
theorem unpack {s : Shared} {t : Addr} {vs : List Value} {m : Nat} {Q : List Value → Shared → Prop} {E : Value → Shared → Prop} (x1 : St c g l s.heap) (it : IsTup s.heap t vs.toArray) (hm : m = vs.length) (p : ∀ h', St c g l h' → Kp c.all s.heap h' → Q vs { s with heap := h' }) : wpAny (model PR c.W.w) c.A (unpackItems (.ref t) m none) Q E s := by
  obtain ⟨r, rest, F, Nw, back⟩ := x1.fn [] (fun p hp => nomatch hp)
  refine unpackItemsN_ F Nw it c.room.h (by rw [List.size_toArray, hm]) fun h₂ F₂ N₂ => ?_
  obtain ⟨k2, f2⟩ := back h₂ F₂ N₂
  have k3 : Kp c.all s.heap h₂ := k2.mono fun a q => by rw [List.mem_singleton.mp q]; exact all_L
  exact p h₂ ⟨x1.1.trans k3, (x1.next okX.nil k2 f2).2⟩ k3
/-- x, y = e where e is a display: the stores go from the last to the first -/
theorem Ex.swap {ns : List Str} {elts : List Expr} {k : Nat} {tpos pos : Pos} {e : Expr} {ss : List Stmt} {vs : List Value} {t : Heap → Prop} (a : Ev c X g l e fun v h' => ∃ t', v = .ref t' ∧ IsTup h' t' (List.toArray vs) ∧ t h')
    (r : ∀ g', Up c X g g' → t g' → Ex c g' (ns.zip vs ++ l) ss P N) (ok : okX c X := by exact okX.nil)
    (hs : swapsWithSole [.Tuple elts k tpos] e pos.line c.env = pure false := by rfl) (hw : swappedStores [.Tuple elts k tpos] e c.env = pure (some ns) := by rfl) (hl : ns.length = vs.length := by rfl) (hn : ns.all (okN D) = true := by rfl) : Ex c g l (.Assign [.Tuple elts k tpos] e pos :: ss) P N := .mk fun s Q E x1 rr t' =>
  wpAny_execs_cons (Assign_Tuple_swapped (a.run s _ E ok x1 fun v h' d' tk' kk f z => by
    obtain ⟨t1, rfl, it, z⟩ := z
    have x2 := x1.next ok kk f
    refine unpack x2 it hl fun h₂ x3 _ => ?_
    have e1 : (ns.reverse.zip vs.reverse).reverse = ns.zip vs := by rw [zip_rev hl, List.reverse_reverse]
    refine stores (.binds _) (by rw [List.length_reverse, List.length_reverse, hl]) (by rw [List.all_reverse]; exact hn) x3 fun h₃ tk₃ x4 _ => ?_
    rw [e1] at x4
    exact (r h' (x1.up kk) z).run _ Q E x4 (fun v h₃ d₃ tk₃ k₃ z₃ => rr v h₃ d₃ tk₃ k₃ z₃) fun g₃ l₃ h₃ d₃ tk₃ x3 z₃ => t' g₃ l₃ h₃ d₃ tk₃ x3 z₃) hs hw)
/-- x, y = e, from the first to the last -/
theorem Ex.unpack {ns : List Str} {elts : List Expr} {k : Nat} {tpos pos : Pos} {e : Expr} {ss : List Stmt} {t : List Value → Heap → Prop} (a : Ev c X g l e fun v h' => ∃ t' vs, v = .ref t' ∧ IsTup h' t' (List.toArray vs) ∧ t vs h' ∧ ns.length = vs.length)
    (r : ∀ vs g', Up c X g g' → t vs g' → Ex c g' ((ns.zip vs).reverse ++ l) ss P N) (ok : okX c X := by exact okX.nil)
    (hs : swapsWithSole [.Tuple elts k tpos] e pos.line c.env = pure false := by rfl) (hw : swappedStores [.Tuple elts k tpos] e c.env = pure none := by rfl) (he : namesOf elts = some ns := by rfl) (hn : ns.all (okN D) = true := by rfl) : Ex c g l (.Assign [.Tuple elts k tpos] e pos :: ss) P N := .mk fun s Q E x1 rr t' =>
  wpAny_execs_cons (Assign_Tuple (a.run s _ E ok x1 fun v h' d' tk' kk f z => by
    obtain ⟨t1, vs, rfl, it, z, hl⟩ := z
    have x2 := x1.next ok kk f
    obtain ⟨a1, a2, a3⟩ := Stores.names (c := c) he
    obtain ⟨m, rest, F, Nw, back⟩ := x2.fn [] (fun p hp => nomatch hp)
    refine unpackN_ F Nw it c.room.h (by rw [List.size_toArray, a2, hl]) a1 fun h₂ F₂ N₂ => ?_
    obtain ⟨k2, f2⟩ := back h₂ F₂ N₂
    have x3 : St c h' l h₂ := ⟨k2.mono fun a q => by rw [List.mem_singleton.mp q]; exact all_L, (x2.next okX.nil k2 f2).2⟩
    refine stores (vs := vs) a3 hl hn x3 fun h₃ tk₃ x4 _ => ?_
    exact (r vs h' (x1.up kk) z).run _ Q E x4 (fun v h₃ d₃ tk₃ k₃ z₃ => rr v h₃ d₃ tk₃ k₃ z₃) fun g₃ l₃ h₃ d₃ tk₃ x3 z₃ => t' g₃ l₃ h₃ d₃ tk₃ x3 z₃) hs hw)
theorem Kp.of_but {d : Addr} {h h' : Heap} (k : Heap.SameBut d h h') {o : Obj} (ho : h.get? d = some o) (ht : ¬ isT o) : Kp [d] h h' := fun a o' q e => by
  by_cases e2 : a = d
  · subst e2; rw [ho] at e; cases e; exact absurd (q (.head _)) ht
  · exact k.extBut a o' e2 e
theorem dic_noT {w : World} {o : Obj} {kvs : List (Str × Value)} (x : o.IsDictOf (PySem.strKind PR w) kvs) : ¬ isT o := fun q => dic_cls x q.1
/-- d[text] = e -/
theorem Ex.setD {e f v : Expr} {pos p1 : Pos} {ss : List Stmt} {P' : Value → Heap → Prop} (a : Ev c X g l v P')
    (r : ∀ u g', Up c X g g' → P' u g' → ∃ d o kvs k, Ev0 c g' l e (.v (.ref d)) ∧ Ev0 c g' l f (.s k) ∧ g'.get? d = some o ∧ okX c [d] ∧ o.IsDictOf (PySem.strKind PR c.W.w) kvs ∧ kvs.length ≤ 10000 ∧ ∀ g₂ o', Up c [d] g' g₂ → g₂.get? d = some o' → o'.IsDictOf (PySem.strKind PR c.W.w) (stored kvs k u) → Ex c g₂ l ss P N)
    (ok : okX c X := by exact okX.nil) (hs : swapsWith v (some (.Subscript e f p1)) pos.line c.env = pure false := by rfl) : Ex c g l (.Assign [.Subscript e f p1] v pos :: ss) P N := .mk fun s Q E x1 rr t' =>
  wpAny_execs_cons (wpAny_Assign_Subscript (a.run s _ E ok x1 fun u h' d' tk' kk ff z => by
    obtain ⟨d, o, kvs, k, y1, y2, ho, od, hd, hz, fin⟩ := r u h' (x1.up kk) z
    have x2 := x1.next ok kk ff
    have x2 : St c h' l h' := x2
    refine y1 _ _ E x2 fun v1 tk1 z1 => y2 _ _ E x2 fun v2 tk2 z2 => ?_
    obtain rfl : v1 = .ref d := z1
    obtain ⟨tk3, rfl⟩ := z2
    refine wpAny_setItem_pairs (knd := PySem.strKind PR c.W.w) (strKind_is _ _ _ _) (Heap.dictOf_iff.mpr ⟨o, ho, hd⟩) (fun h₂ hm' hs' => ?_) (by rw [sizeLine_eq]; omega)
    obtain ⟨o', ho', hd'⟩ := Heap.dictOf_iff.mp hm'
    have k2 : Kp [d] h' h₂ := Kp.of_but hs' ho (dic_noT hd)
    have k3 : Kp (c.L :: [d]) h' h₂ := k2.mono fun _ q => .tail _ q
    have x3 := x2.next od k3 (x2.2.2.next od k2)
    exact (fin h₂ o' (x2.up k3) ho' hd').run _ Q E x3 (fun v h₃ d₃ tk₃ k₃ z₃ => rr v h₃ d₃ tk₃ k₃ z₃) fun g₃ l₃ h₃ d₃ tk₃ x3 z₃ => t' g₃ l₃ h₃ d₃ tk₃ x3 z₃) hs)
end
theorem B_int : IsB "int" (.type "int") := ⟨fun w => by k_is, by boot_by_name, by decide⟩
/-- the draws and the told labels, as they stand -/
structure Dr (W : Wd) (h : Heap) (fd td cl : Addr) (sp : Nat) (kvs : List (Str × Value)) : Prop where
  f : ∃ oF, h.get? fd = some oF ∧ FeedOb W.w oF cl sp
  t : ∃ oT, h.get? td = some oT ∧ oT.IsDictOf (PySem.strKind PR W.w) kvs
  k : Keys kvs
  l : ∃ cs ns, h.IsList cl (List.toArray cs) ∧ IntsAre cs ns ∧ cs.length ≤ 40
  ft : fd ≠ td
  cf : cl ≠ fd
  ct : cl ≠ td
  sys : (td == sysModules) = false
noncomputable abbrev DX (fd td cl : Addr) : List Addr := [fd, td, cl]
theorem Dr.keep {W : Wd} {h h' : Heap} {fd td cl : Addr} {sp : Nat} {kvs : List (Str × Value)} {Y : List Addr} (d : Dr W h fd td cl sp kvs) (k : Kp Y h h') (h1 : fd ∉ Y) (h2 : td ∉ Y) (h3 : cl ∉ Y) : Dr W h' fd td cl sp kvs :=
  ⟨let ⟨o, e, r⟩ := d.f; ⟨o, k.get h1 e, r⟩, let ⟨o, e, r⟩ := d.t; ⟨o, k.get h2 e, r⟩, d.k, let ⟨cs, ns, ⟨o, e, r⟩, q⟩ := d.l; ⟨cs, ns, ⟨o, k.get h3 e, r⟩, q⟩, d.ft, d.cf, d.ct, d.sys⟩
section
variable {D : List (Str × NameKind)} {n : Nat} {c : Cx D n} {X X' : List Addr} {g h h' : Heap}
theorem Dr.up {W : Wd} {g g' : Heap} {fd td cl : Addr} {sp : Nat} {kvs : List (Str × Value)} (d : Dr W g fd td cl sp kvs) (ok : okX c (DX fd td cl)) (k : Up c [] g g') : Dr W g' fd td cl sp kvs :=
  d.keep k (by rw [List.append_nil]; exact (ok _ (.head _)).2) (by rw [List.append_nil]; exact (ok _ (.tail _ (.head _))).2) (by rw [List.append_nil]; exact (ok _ (.tail _ (.tail _ (.head _)))).2)
theorem Dr.ok {W : Wd} {fd td cl : Addr} {sp : Nat} {kvs : List (Str × Value)} (d : Dr W h fd td cl sp kvs) (hX : c.X = DX fd td cl) (old : ∀ a o, h.get? a = some o → a ∉ c.all) : okX c (DX fd td cl) := fun a q => ⟨.inl (hX ▸ q), by
  obtain ⟨o, e, _⟩ := d.f
  obtain ⟨o2, e2, _⟩ := d.t
  obtain ⟨_, _, ⟨o3, e3, _⟩, _⟩ := d.l
  rcases List.mem_cons.mp q with rfl | q
  · exact old _ _ e
  · rcases List.mem_cons.mp q with rfl | q
    · exact old _ _ e2
    · rw [List.mem_singleton.mp q]; exact old _ _ e3⟩
end
end
section
open PySem PySem.W PyProof.Rows PySem.Calls
theorem fit_small {i : Int} (h : 0 ≤ i) (h2 : i < 1000000) : Builtin.Int.intBits i ≤ 64 := by
  have e : i.natAbs < 2 ^ 20 := by omega
  unfold Builtin.Int.intBits
  by_cases h0 : i = 0
  · subst h0; decide
  · rw [if_neg (by rw [beq_iff_eq]; exact h0)]
    have := (Nat.log2_lt (n := i.natAbs) (k := 20) (by omega)).mpr e
    omega
theorem ints_get {cs : List Value} {ns : List Int} (x : IntsAre cs ns) : ∀ {j : Nat} {u : Value}, cs[j]? = some u → ∃ i tk, u = .int i tk := by
  induction x with
  | nil => intro j u e; cases e
  | cons n t _ ih =>
    intro j u e
    cases j with
    | zero => cases e; exact ⟨_, _, rfl⟩
    | succ j => exact ih e
/-- one draw -/
theorem draw_f {W : Wd} {h : Heap} {fd td cl : Addr} {sp V : Nat} {kvs : List (Str × Value)} {k : Tok} (d : Dr W h fd td cl sp kvs) (hsp : sp ≤ 900) (hV : 0 < V) :
    Fn W 2 (DX fd td cl) h (.ref 257) [.ref fd, .int (V : Int) k] fun v h' => ∃ r : Nat, (At.i (r : Int)).is v ∧ r < V ∧ Dr W h' fd td cl (sp + 1) kvs := by
  refine' .enter [("wide", .int (V : Int) k), ("feed", .ref fd)] ?ho ?hcd ?hbind ?hkind ?hnd ?_
  walk_at "K side"
  rintro c rfl hX old
  have ok := d.ok hX old
  obtain ⟨oF, hF, ks, hD⟩ := d.f
  have hfn := (ok fd (.head _)).2
  have hm := mapOb_dic hD
  refine .swap (ns := ["cells", "spot"]) (vs := [.ref cl, .int (sp : Int) ks]) (t := fun g => Dr c.W g fd td cl sp kvs ∧ g.get? fd = some oF) (.tup (.cons (.itemD .var .str hF hfn hm rfl) (.cons (.itemD .var .str hF hfn hm rfl) .nil)) fun vs t g u _ z i => ⟨t, rfl, z.v2 ▸ i.tup, d.up ok u, u.get (by rw [List.append_nil]; exact hfn) hF⟩) fun g u z => ?_
  obtain ⟨d, hF⟩ := z
  refine .setD (P' := fun v _ => (At.i ((sp : Int) + 1)).is v) (.of (.add .varI .int) fun v _ _ z => z) fun v g2 u z => ?_
  have d2 := d.up ok u
  obtain ⟨k2, rfl⟩ := z
  refine ⟨fd, oF, _, "spot", .var, .str, u.get (by rw [List.append_nil]; exact hfn) hF, fun a q => ok a (by rw [List.mem_singleton.mp q]; exact .head _), hD, Nat.le_of_ble_eq_true rfl, fun g3 o' u2 e hd => ?_⟩
  have d3 : Dr c.W g3 fd td cl (sp + 1) kvs := by
    obtain ⟨o, e2, r⟩ := d2.t
    obtain ⟨cs, ns, ⟨o3, e3, r3⟩, q⟩ := d2.l
    have nn : ∀ a, a ∈ DX fd td cl → a ≠ fd → a ∉ c.all ++ [fd] := fun a m ne q => (List.mem_append.mp q).elim (ok a m).2 fun q => ne (List.mem_singleton.mp q)
    exact ⟨⟨o', e, k2, hd⟩, ⟨o, u2.get (nn td (.tail _ (.head _)) (Ne.symm d.ft)) e2, r⟩, d.k, ⟨cs, ns, ⟨o3, u2.get (nn cl (.tail _ (.tail _ (.head _))) d.cf) e3, r3⟩, q⟩, d.ft, d.cf, d.ct, d.sys⟩
  obtain ⟨cs, ns, il, ii, hz⟩ := d3.l
  have hcn := (ok cl (.tail _ (.tail _ (.head _)))).2
  have fin : ∀ i : Int, ∀ v h', Up c [] g3 h' → (At.i (i.fmod (V : Int))).is v → ∃ r : Nat, (At.i (r : Int)).is v ∧ r < V ∧ Dr c.W h' fd td cl (sp + 1) kvs := fun i v h' u z => by
    obtain ⟨r, hr, e⟩ := fmod_nat i hV
    rw [e] at z
    exact ⟨r, z, hr, d3.up ok u⟩
  have hV0 : ¬((V : Int) == 0) = true := by rw [beq_iff_eq]; omega
  have b1 : Builtin.Int.intBits 3 ≤ 64 := by decide
  have b2 : Builtin.Int.intBits 7 ≤ 64 := by decide
  have b3 : Builtin.Int.intBits 5 ≤ 64 := by decide
  refine .ite0 (β := decide ((sp : Int) < (cs.length : Int))) (.cmp .varI (.lenL B_len .var il hcn (by omega)) Cm.ltI) (fun e => ?_) fun _ => ?_
  · have e := of_decide_eq_true e
    obtain ⟨u, hu⟩ : ∃ u, cs[sp]? = some u := ⟨_, List.getElem?_eq_getElem (by omega)⟩
    obtain ⟨i, tk, rfl⟩ : ∃ i tk, u = .int i tk := by
      exact ints_get ii hu
    exact .ret (.of (.mod (.intI B_int (fun s Q E x1 p => Ev0.itemL .var .varI il hcn hu (by omega) (by intro _; with_unfolding_all rfl) s Q E x1 fun v tk' z => p v tk' ⟨tk, z⟩)) .varI hV0) (fin i))
  · exact .ret (.of (.mod (.mod (.add (.add (.mul (.mul .int .varI b1) .varI (fit_small (by omega) (by omega))) (.mul .int .varI b2)) (.mul .int (.lenL B_len .var il hcn (by omega)) b3)) .int (by decide)) .varI hV0) (fin _))
end
section
open PySem PySem.W PyProof.Rows PySem.Calls
/-! comprehensions -/
noncomputable abbrev relN (D ns : List (Str × NameKind)) : List (Str × NameKind) := ns.map fun x => if (x.2 == NameKind.free && D.lookup x.1 == some .cell) then (x.1, NameKind.cell) else (x.1, x.2)
/-- the names that a block takes from without, newest first -/
noncomputable def freeN : List (Str × NameKind) → List Str → List Str
  | [], a => a
  | (x, k) :: r, a => freeN r (if k == .free then x :: a else a)
section
variable {D : List (Str × NameKind)} {n : Nat} {c : Cx D n} {X X' : List Addr} {g h h' : Heap} {l : List (Str × Value)} {P : Value → Heap → Prop} {N : Heap → List (Str × Value) → Prop}
theorem clos_of {ns : List (Str × NameKind)} : ∀ (r : List (Str × NameKind)) (cs : List (Str × Addr)) (as : List Str), cs.map (·.1) = as → (∀ x ∈ freeN r as, ∃ a, c.cs.lookup x = some a) → (∀ p ∈ cs, c.cs.lookup p.1 = some p.2) →
    ∃ cl : List (Str × Addr), (forIn r cs fun (p : Str × NameKind) cs => (if p.2 == .free then do let a ← cellOf c.env p.1; pure (ForInStep.yield ((p.1, a) :: cs)) else pure (ForInStep.yield cs) : Sem (ForInStep (List (Str × Addr))))) = pure cl ∧ cl.map (·.1) = freeN r as ∧ ∀ p ∈ cl, c.cs.lookup p.1 = some p.2 := by
  intro r
  induction r with
  | nil => intro cs as e _ k; exact ⟨cs, rfl, e, k⟩
  | cons p r ih =>
    obtain ⟨x, k⟩ := p
    intro cs as e f hk
    by_cases hf : (k == NameKind.free) = true
    · have hx : x ∈ freeN ((x, k) :: r) as := by
        have : ∀ (r : List (Str × NameKind)) (as : List Str), x ∈ as → x ∈ freeN r as := by
          intro r
          induction r with
          | nil => exact fun _ h => h
          | cons p r ih => exact fun as h => ih _ (by split; exact .tail _ h; exact h)
        unfold freeN
        rw [if_pos hf]
        exact this _ _ (.head _)
      obtain ⟨a, ha⟩ := f x hx
      have ha' : c.env.cells.lookup x = some a := ha
      obtain ⟨cl, e1, e2, e3⟩ := ih ((x, a) :: cs) (x :: as) (by rw [List.map_cons, e]) (fun y hy => f y (by unfold freeN; rw [if_pos hf]; exact hy)) (fun p hp => by
        rcases List.mem_cons.mp hp with rfl | hp
        · exact ha
        · exact hk p hp)
      refine ⟨cl, ?_, by unfold freeN; rw [if_pos hf]; exact e2, e3⟩
      rw [List.forIn_cons, if_pos hf]
      unfold cellOf
      rw [ha']
      exact e1
    · obtain ⟨cl, e1, e2, e3⟩ := ih cs as e (fun y hy => f y (by unfold freeN; rw [if_neg hf]; exact hy)) hk
      refine ⟨cl, ?_, by unfold freeN; rw [if_neg hf]; exact e2, e3⟩
      rw [List.forIn_cons, if_neg hf]
      exact e1
/-- a block's frame -/
structure Inner (c : Cx D n) (ns : List (Str × NameKind)) (C : Addr) (cl : List (Str × Addr)) : Prop where
  fs : ∀ a ∈ C :: cl.map (·.2), c.W.b0.get? a = none
  ap : cl.Pairwise fun x y => x.2 ≠ y.2
  ab : ∀ x a, (x, a) ∈ cl → a ≠ C
  nd : ∀ x a, (x, a) ∈ cl → cl.lookup x = some a
  hc : ∀ x, (relN D ns).lookup x = some .cell → ∃ a, cl.lookup x = some a
  sub : ∀ x a, (x, a) ∈ cl → c.cs.lookup x = some a
noncomputable def Cx.inner (c : Cx D n) {ns : List (Str × NameKind)} {C : Addr} {cl : List (Str × Addr)} (k : Inner c ns C cl) (more : List (Str × Const)) : Cx (relN D ns) n :=
  { W := c.W, A := c.A, L := C, cs := cl, more := more, qual := c.qual, func := none, code := c.code, frame := c.frame, X := c.X, b := c.W.b0, up := fun _ _ e => e, xs := c.xs, fs := k.fs, ap := k.ap, ab := k.ab, nd := k.nd, hc := k.hc, room := c.room }
noncomputable def okRel (D ns : List (Str × NameKind)) : Bool := ((relN D ns).all fun p => !(p.2 == NameKind.cell) || (D.lookup p.1 == some .cell && (freeN ns []).contains p.1)) && (freeN ns []).all fun x => D.lookup x == some .cell
theorem relN_env {c : Cx D n} {ns : List (Str × NameKind)} {C : Addr} {cl : List (Str × Addr)} (k : Inner c ns C cl) (more : List (Str × Const)) : (c.inner k more).env = compEnvC ⟨.function, ns, false, false, more⟩ cl C c.env := by
  unfold Cx.env Cx.inner compEnvC relabel
  simp only [Env.mk.injEq, Scope.mk.injEq, and_true, true_and]
  refine List.map_congr_left fun p _ => ?_
  show _ = if (p.2 == NameKind.free && true && List.lookup p.1 D == some NameKind.cell) = true then _ else _
  rw [Bool.and_true]
theorem relN_cell {ns : List (Str × NameKind)} (ok : okRel D ns = true) {x : Str} (e : (relN D ns).lookup x = some .cell) : D.lookup x = some .cell ∧ x ∈ freeN ns [] := by
  have m := mem_of_lookup e
  unfold okRel at ok
  rw [Bool.and_eq_true] at ok
  have := List.all_eq_true.mp ok.1 _ m
  simp only [beq_self_eq_true, Bool.not_true, Bool.false_or, Bool.and_eq_true, beq_iff_eq, List.contains_iff_mem] at this
  exact this
theorem pw_of_nodup {cs : List (Str × Addr)} (ap : cs.Pairwise fun x y => x.2 ≠ y.2) : ∀ {cl : List (Str × Addr)}, (cl.map (·.1)).Nodup → (∀ p ∈ cl, cs.lookup p.1 = some p.2) → cl.Pairwise fun x y => x.2 ≠ y.2
  | [], _, _ => .nil
  | p :: cl, nd, h => by
    rw [List.map_cons, List.nodup_cons] at nd
    refine .cons (fun q hq e => ?_) (pw_of_nodup ap nd.2 fun q hq => h q (.tail _ hq))
    have h1 := mem_of_lookup (h p (.head _))
    have h2 := mem_of_lookup (h q (.tail _ hq))
    have : p.1 = q.1 := name_of_addr ap h1 (e ▸ h2)
    exact nd.1 (this ▸ List.mem_map_of_mem hq)
/-- a target takes a value; only Y turns -/
noncomputable def As (c : Cx D n) (Y : List Addr) (g : Heap) (l : List (Str × Value)) (target : Expr) (v : Value) (l' : List (Str × Value)) : Prop := ∀ (s : Shared) (Q : Unit → Shared → Prop) (E : Value → Shared → Prop), St c g l s.heap → (∀ h' tk', St c g l' h' → Kp Y s.heap h' → Q () { s with heap := h', toks := tk' }) → wpAny (model PR c.W.w) c.A (assign target c.env v) Q E s
/-- the tests of a block -/
noncomputable def Ifs (c : Cx D n) (X : List Addr) (g : Heap) (l : List (Str × Value)) (ifs : List Expr) (P : Bool → Heap → Prop) : Prop := ∀ (s : Shared) (Q : Bool → Shared → Prop) (E : Value → Shared → Prop), okX c X → St c g l s.heap → PostE c l X s P Q →
  wpAny (model PR c.W.w) c.A (forIn ifs true fun e r => if r = true then do let ok ← isTrue e c.env (eval e c.env); pure (ForInStep.yield ok) else pure (ForInStep.yield r)) Q E s
theorem Ifs.nil {P : Bool → Heap → Prop} (hp : ∀ h', Up c [] g h' → P true h') : Ifs c X g l [] P := fun s Q E ok x1 p => wpAny_tests_nil (p.at (tk := s.toks) x1 (hp _ x1.up0))
theorem Ifs.one {e : Expr} {P : Bool → Heap → Prop} (x : Tr c X g l e P) : Ifs c X g l [e] P := fun s Q E ok x1 p => wpAny_tests_one (x.run s Q E ok x1 p)
/-- the turns of a source -/
structure SrcAt (c : Cx D n) (X : List Addr) (target : Expr) (m : Nat) (Pv : Nat → Value → Heap → Prop) (g' h' : Heap) (I : Addr) (fp wr : List Addr) (Md : Nat → Value → Heap → Prop) (Si : Nat → Heap → Prop) : Prop where
  W : KTurns PR c.W.w c.A target I fp wr m Pv Md Si
  self : ∀ (s : Shared) (Q : Value → Shared → Prop) (E : Value → Shared → Prop), Si 0 s.heap → Q (.ref I) s → wpAny (model PR c.W.w) c.A (pyIter (.ref I)) Q E s
  wt : ∀ i h, Si i h → ∀ a ∈ wr, ∀ o, h.get? a = some o → o.cls ≠ .type "tuple"
  st : Si 0 h'
  fp : ∀ a ∈ fp, a < h'.objs.size ∧ a ∉ X ∧ a ∉ c.all
  wn : ∀ a ∈ wr, g'.get? a = none
noncomputable def Src (c : Cx D n) (X : List Addr) (g : Heap) (l : List (Str × Value)) (iter target : Expr) (R : Nat → (Nat → Value → Heap → Prop) → Heap → Prop) : Prop := ∀ (s : Shared) (Q : Value → Shared → Prop) (E : Value → Shared → Prop), okX c X → St c g l s.heap →
  (∀ m Pv g' h' d' tk' I fp wr Md Si, Kp (c.L :: X) s.heap g' → Fv c g' l → R m Pv g' → g'.StaysIn h' → Fv c h' l → SrcAt c X target m Pv g' h' I fp wr Md Si → Q (.ref I) { s with heap := h', drawn := d', toks := tk' }) →
  wpAny (model PR c.W.w) c.A (eval iter c.env) (fun xv s₁ => wpAny (model PR c.W.w) c.A (pyIter xv) Q E s₁) E s
theorem filter_look {p : Str → Bool} {x : Str} {v : Value} : ∀ {l : List (Str × Value)}, (l.filter fun y => p y.1).lookup x = some v → l.lookup x = some v ∧ p x = true
  | [], h => nomatch h
  | (y, u) :: l, h => by
    rw [List.filter_cons] at h
    by_cases hy : p y = true
    · rw [if_pos hy, List.lookup_cons] at h
      rw [List.lookup_cons]
      by_cases e : x = y
      · subst e; rw [beq_self_eq_true] at h ⊢; exact ⟨h, hy⟩
      · rw [beq_eq_false_iff_ne.mpr e] at h ⊢; exact filter_look h
    · rw [if_neg hy] at h
      obtain ⟨h1, h2⟩ := filter_look h
      refine ⟨?_, h2⟩
      rw [List.lookup_cons, (beq_eq_false_iff_ne.mpr (fun e : x = y => hy (by rw [← e]; exact h2)) : (x == y) = false)]
      exact h1
/-- what a block sees of the names without -/
noncomputable abbrev outer (D ns : List (Str × NameKind)) (l : List (Str × Value)) : List (Str × Value) := l.filter fun y => (relN D ns).lookup y.1 == some .cell
noncomputable abbrev TurnK (c : Cx D n) (X : List Addr) (l : List (Str × Value)) (ns : List (Str × NameKind)) (more : List (Str × Const)) (elt target : Expr) (ifs : List Expr) (m : Nat) (Pv : Nat → Value → Heap → Prop) (J : Nat → List Value → Heap → Prop) (g' : Heap) : Prop :=
  ∀ C cl (k : Inner c ns C cl) i ys v h, i < m → Pv i v h → J i ys h → Kp X g' h → (∀ a o, g'.get? a = some o → a ∉ c.all → a ∉ (c.inner k more).all) → okX (c.inner k more) X →
    ∃ l', As (c.inner k more) [C] h (outer D ns l) target v l' ∧ Ifs (c.inner k more) X h l' ifs fun β h₅ => (β = true → Ev (c.inner k more) X h₅ l' elt fun y h₆ => J (i + 1) (ys ++ [y]) h₆) ∧ (β = false → J (i + 1) ys h₅)
theorem comp_core {ns : List (Str × NameKind)} {more : List (Str × Const)} {elt target iter : Expr} {ifs : List Expr} {pos : Pos} {g' : Heap} {s₂ : Shared} {m : Nat} {Pv : Nat → Value → Heap → Prop} {I : Addr} {fp wr : List Addr} {Md : Nat → Value → Heap → Prop} {Si : Nat → Heap → Prop} {cl : List (Str × Addr)} {E : Value → Shared → Prop}
    (ok : okX c X) (xg : St c g' l g') (f2 : Fv c s₂.heap l) (up : g'.StaysIn s₂.heap) (S : SrcAt c X target m Pv g' s₂.heap I fp wr Md Si) (hm : m ≤ 16384) (hns : ∀ y ∈ ns, y.2 ≠ .cell) (hcl : cl.map (·.1) = freeN ns []) (hcs : ∀ p ∈ cl, c.cs.lookup p.1 = some p.2) (hnd : (freeN ns []).Nodup) (hrel : okRel D ns = true)
    (J : Nat → List Value → Heap → Prop) (hX : ∀ x ∈ X, ∃ o, g'.get? x = some o) (hJ : ∀ i ys h h', J i ys h → TupSub h h' → (∀ x ∈ X, ∀ o, h.get? x = some o → h'.get? x = some o) → J i ys h') (hlen : ∀ i ys h, J i ys h → ys.length ≤ i) (hJ0 : J 0 [] g') (turn : TurnK c X l ns more elt target ifs m Pv J g') {RR : Value → Addr → Result → Shared → Prop}
    (fin : ∀ D' C ys k h' dd tk m', New c g' D' → s₂.heap.get? D' = none → s₂.heap.get? C = none → D' ≠ C → h'.Ns C m' → Kp X g' h' → Fv c h' l → h'.get? D' = some (PySem.W.listOf (List.toArray ys) k) → J m ys h' → RR (.ref D') C (.ok .next) { s₂ with heap := h', drawn := dd, toks := tk }) :
    wpAny (model PR c.W.w) c.A (newList []) (fun acc s₃ => wpAny (model PR c.W.w) c.A (newFunctionEnv ⟨.function, ns, false, false, more⟩ c.env.globals cl [] c.env.qual none .none (some c.env)) (fun cenv s₄ =>
      codeAny (model PR c.W.w) c.A (.compStart (.ListComp elt [⟨target, iter, ifs, 0⟩] ⟨.function, ns, false, false, more⟩ pos) 0 (.ref I) acc { cenv with scope := relabel ⟨.function, ns, false, false, more⟩ c.env }) (RR acc cenv.locals) s₄) E s₃) E s₂ := by
  obtain ⟨W, self, wt, hst, hfp, wn⟩ := S
  refine wpAny_newObj_type (wpAny_newFunctionEnv hns (by intro y hy; simp at hy) (fun h₁ hns₁ hsb₁ => ?_) rfl)
  dsimp only at hns₁ hsb₁ ⊢
  generalize hH2 : s₂.heap.push { cls := .type "list", dict := none, data := .seq ([] : List Value).toArray } = H2 at hns₁ hsb₁ ⊢
  have hC : H2.objs.size = s₂.heap.objs.size + 1 := by rw [← hH2, Heap.size_push]
  have hDC : s₂.heap.objs.size ≠ H2.objs.size := by rw [hC]; exact Nat.ne_of_lt (Nat.lt_succ_self _)
  have below : ∀ b, b < s₂.heap.objs.size → b ≠ H2.objs.size ∧ b ≠ s₂.heap.objs.size := fun b hb => ⟨by rw [hC]; exact Nat.ne_of_lt (Nat.lt_succ_of_lt hb), Nat.ne_of_lt hb⟩
  have old2 : ∀ {a o}, s₂.heap.get? a = some o → a ≠ H2.objs.size ∧ a ≠ s₂.heap.objs.size := fun {a o} e => below a (Heap.lt_size e)
  have up2 : ∀ b o, s₂.heap.get? b = some o → H2.get? b = some o := fun b o e => hH2 ▸ Heap.get?_push_of_some _ e
  have old : ∀ b o, s₂.heap.get? b = some o → h₁.get? b = some o := fun b o e => hsb₁.extBut b o (old2 e).1 (Heap.get?_push_of_some _ (up2 b o e))
  have hacc : h₁.get? s₂.heap.objs.size = some (PySem.W.listOf #[] 0) := hsb₁.extBut _ _ hDC (Heap.get?_push_of_some _ (hH2 ▸ Heap.get?_push_size _ rfl))
  have fresh : ∀ a, s₂.heap.objs.size ≤ a → s₂.heap.get? a = none := fun a ha => by
    cases e : s₂.heap.get? a with
    | none => rfl
    | some o' => exact absurd (Heap.lt_size e) (Nat.not_lt.mpr ha)
  have freshC : s₂.heap.get? H2.objs.size = none := fresh _ (by rw [hC]; exact Nat.le_succ _)
  have nw : New c g' s₂.heap.objs.size := by
    have e0 : g'.get? s₂.heap.objs.size = none := by
      cases e : g'.get? s₂.heap.objs.size with
      | none => rfl
      | some o => have := up _ _ e; rw [fresh _ (Nat.le_refl _)] at this; cases this
    exact xg.new e0
  have hXw : ∀ x ∈ X, x ∉ wr := fun x hx q => by obtain ⟨o, e⟩ := hX x hx; rw [wn x q] at e; cases e
  have hX2 : ∀ x ∈ X, x ≠ H2.objs.size ∧ x ≠ s₂.heap.objs.size := fun x hx => let ⟨o, e⟩ := hX x hx; old2 (up _ _ e)
  have b0X : ∀ a ∈ X, c.W.b0.get? a = none := fun a q => (ok a q).1.elim (c.xs a) fun e => by
    cases q0 : c.W.b0.get? a with
    | none => rfl
    | some o => rw [c.up _ _ q0] at e; cases e
  have cellIn : ∀ x a, c.cs.lookup x = some a → ∃ o, g'.get? a = some o := fun x a e => let ⟨_, ⟨o, e, _⟩, _⟩ := xg.2.2.cell x a e; ⟨o, e⟩
  have k : Inner c ns H2.objs.size cl := by
    refine ⟨fun a q => ?_, pw_of_nodup c.ap (hcl ▸ hnd) hcs, fun x a q => ?_, fun x a q => lookup_of_mem_nodup (hcl ▸ hnd) q, fun x q => ?_, fun x a q => hcs _ q⟩
    · cases q0 : c.W.b0.get? a with
      | none => rfl
      | some o =>
        exfalso
        rcases List.mem_cons.mp q with rfl | q
        · have := up _ _ (xg.b0 _ _ q0); rw [freshC] at this; cases this
        · obtain ⟨p, hp, rfl⟩ := List.mem_map.mp q
          have := c.fs p.2 (all_c (hcs p hp))
          rw [c.up _ _ q0] at this; cases this
    · obtain ⟨o, e⟩ := cellIn x a (hcs _ q)
      exact (old2 (up _ _ e)).1
    · have m := (relN_cell hrel q).2
      rw [← hcl] at m
      obtain ⟨p, hp, rfl⟩ := List.mem_map.mp m
      exact ⟨p.2, lookup_of_mem_nodup (hcl ▸ hnd) hp⟩
  have sub : ∀ a, a ∈ cl.map (·.2) → a ∈ c.all := fun a q => by
    obtain ⟨p, hp, rfl⟩ := List.mem_map.mp q
    exact all_c (hcs p hp)
  have okI : okX (c.inner k more) X := fun a q => ⟨.inr (b0X a q), fun z => by
    rcases List.mem_cons.mp z with z | z
    · exact (hX2 a q).1 z
    · exact (ok a q).2 (sub a z)⟩
  have oldI : ∀ a o, g'.get? a = some o → a ∉ c.all → a ∉ (c.inner k more).all := fun a o e q z => by
    rcases List.mem_cons.mp z with z | z
    · exact (old2 (up _ _ e)).1 z
    · exact q (sub a z)
  have eenv := relN_env k more
  have loop : ∀ s₃ : Shared, s₃ = { s₂ with heap := h₁, toks := s₂.toks + ([] : List (Str × Value)).length } →
      codeAny (model PR c.W.w) c.A (.compLoop (.ListComp elt [⟨target, iter, ifs, 0⟩] ⟨.function, ns, false, false, more⟩ pos) 0 (.ref I) (.ref s₂.heap.objs.size) (compEnvC ⟨.function, ns, false, false, more⟩ cl H2.objs.size c.env))
        (RR (.ref s₂.heap.objs.size) H2.objs.size) s₃ := by
    rintro s₃ rfl
    refine compLoop_any
      (fun k s' => ∃ h' dd tk i ys cn, s' = { s₂ with heap := h', drawn := dd, toks := tk } ∧ i ≤ m ∧ k = m + 1 - i ∧ Si i h' ∧ (∃ m', h'.Ns H2.objs.size m') ∧ Kp (wr ++ X) s₂.heap h' ∧ h'.get? s₂.heap.objs.size = some (PySem.W.listOf (List.toArray ys) cn) ∧ J i ys h') ?_ (m + 1)
      ⟨h₁, _, _, 0, [], 0, rfl, Nat.zero_le _, rfl, W.frame _ _ _ hst fun b _ o e => old b o e, ⟨_, by simpa using hns₁⟩, Kp.of old, hacc, hJ _ _ _ _ hJ0 (Kp.of (X := []) fun a o e => old _ _ (up _ _ e)).sub fun x _ o e => old _ _ (up _ _ e)⟩
    rintro kk s' ⟨h', dd, tk, i, ys, cn, rfl, hi, rfl, hst', ⟨m', hn'⟩, K', hD', hJ'⟩
    have hCw : H2.objs.size ∉ wr := fun q => (below _ (hfp _ (W.sub _ q)).1).1 rfl
    have hDw : s₂.heap.objs.size ∉ wr := fun q => (below _ (hfp _ (W.sub _ q)).1).2 rfl
    -- what the iterator's step leaves
    have step : ∀ h₃ : Heap, (∀ a o, a ∉ wr → h'.get? a = some o → h₃.get? a = some o) → h₃.Ns H2.objs.size m' ∧ Kp (wr ++ X) s₂.heap h₃ ∧ h₃.get? s₂.heap.objs.size = some (PySem.W.listOf (List.toArray ys) cn) ∧ J i ys h₃ ∧ Kp X g' h₃ ∧ Fv c h₃ l := fun h₃ k3 => by
      have ts : TupSub h' h₃ := fun a o h1 _ e => k3 a o (fun hw => wt _ _ hst' a hw o e h1) e
      have K3 : Kp (wr ++ X) s₂.heap h₃ := fun a o q e => k3 a o (fun hw => wt _ _ hst' a hw o (K' a o q e) (q (List.mem_append_left _ hw)).1) (K' a o q e)
      have KX : Kp X g' h₃ := fun a o q e => K3 a o (fun z => (List.mem_append.mp z).elim (fun z => by rw [wn a z] at e; cases e) q) (up _ _ e)
      exact ⟨hn'.at' fun o e => k3 _ o hCw e, K3, k3 _ _ hDw hD', hJ _ _ _ _ hJ' ts fun x hx o e => k3 _ _ (hXw x hx) e, KX, xg.2.2.next ok KX⟩
    by_cases hlt : i < m
    · refine W.item i _ _ _ hlt hst' fun v h₂ tk₂ hMd hk₂ => ?_
      refine W.go i v _ _ _ hMd fun h₃ hP hst₃ hk₃ => ?_
      obtain ⟨n3, K3, D3, J3, KX3, _⟩ := step h₃ fun a o h1 e => hk₃ a o h1 (hk₂ a o h1 e)
      have xI : St (c.inner k more) h₃ (outer D ns l) h₃ := by
        refine ⟨.refl, fun a o q e => KX3 a o (fun z => by have e : c.W.b0.get? a = some o := e; rw [b0X a z] at e; cases e) (xg.b0 _ _ e), ⟨_, n3, fun x v e d => ?_⟩, fun x a e => ?_⟩
        · have := (filter_look (p := fun y => (relN D ns).lookup y == some .cell) e).2
          rw [d] at this; cases this
        · obtain ⟨v₀, ⟨o, ho, hd⟩, r⟩ := xg.2.2.cell x a (k.sub x a (mem_of_lookup e))
          refine ⟨v₀, ⟨o, KX3 a o (fun z => absurd (all_c (k.sub x a (mem_of_lookup e))) (ok a z).2) ho, hd⟩, fun v e2 d => ?_⟩
          exact r v (filter_look (p := fun y => (relN D ns).lookup y == some .cell) e2).1 (relN_cell hrel d).1
      obtain ⟨l', as, ti⟩ := turn _ _ k i ys v h₃ hlt hP J3 KX3 oldI okI
      rw [← eenv]
      refine as { s₂ with heap := h₃, drawn := dd, toks := tk₂ } _ _ xI fun h₄ tk₄ x4 k4 => ti _ _ _ okI x4 fun β h₅ d₅ tk₅ k5 f5 z => ?_
      have c34 : Kp (H2.objs.size :: X) h₃ h₄ := Kp.mono k4 fun a q => by rw [List.mem_singleton.mp q]; exact .head _
      -- behind a turn
      have done : ∀ h₆ : Heap, Kp (H2.objs.size :: X) h₃ h₆ → Si (i + 1) h₆ ∧ Kp (wr ++ X) s₂.heap h₆ ∧ h₆.get? s₂.heap.objs.size = some (PySem.W.listOf (List.toArray ys) cn) := fun h₆ k6 =>
        ⟨W.frame _ _ _ hst₃ fun a ha o e => k6 a o (fun q => by
            rcases List.mem_cons.mp q with q | q
            · exact absurd q (below a (hfp a ha).1).1
            · exact absurd q (hfp a ha).2.1) e,
          fun a o q e => k6 a o (fun z => by
            rcases List.mem_cons.mp z with z | z
            · exact absurd z (old2 e).1
            · exact q (List.mem_append_right _ z)) (K3 a o q e),
          k6 _ _ (fun z => by
            rcases List.mem_cons.mp z with z | z
            · exact absurd z hDC
            · exact absurd rfl (hX2 _ z).2) D3⟩
      have c35 : Kp (H2.objs.size :: X) h₃ h₅ := c34.trans k5
      cases β with
      | false =>
        simp only [Bool.false_eq_true, if_false]
        obtain ⟨a1, a2, a3⟩ := done h₅ c35
        obtain ⟨m5, n5, _⟩ := f5.ns
        exact ⟨m + 1 - (i + 1), by omega, h₅, d₅, tk₅, i + 1, ys, cn, rfl, hlt, rfl, a1, ⟨m5, n5⟩, a2, a3, z.2 rfl⟩
      | true =>
        simp only [if_true]
        refine (z.1 rfl).run _ _ _ okI (x4.next okI k5 f5) fun y h₆ d₆ tk₆ k6 f6 J6 => ?_
        obtain ⟨a1, a2, a3⟩ := done h₆ (c35.trans k6)
        obtain ⟨m6, n6, _⟩ := f6.ns
        have hle := hlen _ _ _ J3
        refine append_at (hsz := by show ys.toArray.size ≤ sizeLine; rw [List.size_toArray, sizeLine_eq]; omega) a3 fun h₇ hs₇ hD₇ => ?_
        have s7 : ∀ a o, a ≠ s₂.heap.objs.size → h₆.get? a = some o → h₇.get? a = some o := hs₇.extBut
        have ne7 : ∀ a o, h₆.get? a = some o → o.cls = .type "tuple" → a ≠ s₂.heap.objs.size := fun a o e h1 q => by
          subst q
          rw [e] at a3; cases a3
          exact absurd (Value.type.inj h1) (by decide)
        refine ⟨m + 1 - (i + 1), by omega, h₇, d₆, tk₆, i + 1, ys ++ [y], cn + 1, rfl, hlt, rfl, W.frame _ _ _ a1 fun a ha o e => s7 a o (below a (hfp a ha).1).2 e, ⟨m6, n6.sameBut hs₇ (Ne.symm hDC)⟩,
          fun a o q e => s7 a o (old2 e).2 (a2 a o q e), ?_, hJ _ _ _ _ J6 (fun a o h1 _ e => s7 a o (ne7 a o e h1) e) fun x hx o e => s7 x o (hX2 x hx).2 e⟩
        rw [hD₇]
        simp [PySem.W.listOf]
    · obtain rfl : i = m := Nat.le_antisymm hi (Nat.not_lt.mp hlt)
      refine W.done _ _ _ hst' fun h₂ tk₂ hk₂ => ?_
      obtain ⟨n3, K3, D3, J3, KX3, F3⟩ := step h₂ hk₂
      exact fin _ _ ys cn h₂ dd tk₂ _ nw (fresh _ (Nat.le_refl _)) freshC hDC n3 KX3 F3 D3 J3
  exact codeAny_compStart_list (loop _ rfl) (self _ _ _ (W.frame _ _ _ hst fun b _ o e => old b o e) (loop _ rfl))
end
end
section
open PySem PySem.W PyProof.Rows PySem.Calls
theorem clos_is {ns : List (Str × NameKind)} {more : List (Str × Const)} {env : Env} : closureFor ⟨.function, ns, false, false, more⟩ env = forIn ns ([] : List (Str × Addr)) fun p cs => (if p.2 == .free then do let a ← cellOf env p.1; pure (ForInStep.yield ((p.1, a) :: cs)) else pure (ForInStep.yield cs) : Sem (ForInStep (List (Str × Addr)))) := by
  unfold closureFor
  simp only [bind_pure]
section
variable {D : List (Str × NameKind)} {n : Nat} {c : Cx D n} {X X' : List Addr} {g h h' : Heap} {l : List (Str × Value)} {P : Value → Heap → Prop} {N : Heap → List (Str × Value) → Prop}
theorem clos {ns : List (Str × NameKind)} (more : List (Str × Const)) (hr : okRel D ns = true) : ∃ cl : List (Str × Addr), closureFor ⟨.function, ns, false, false, more⟩ c.env = pure cl ∧ cl.map (·.1) = freeN ns [] ∧ ∀ p ∈ cl, c.cs.lookup p.1 = some p.2 := by
  unfold okRel at hr
  rw [Bool.and_eq_true] at hr
  obtain ⟨cl, e, r⟩ := clos_of (c := c) (ns := ns) ns [] [] rfl (fun x hx => c.hc x (by simpa using List.all_eq_true.mp hr.2 x hx)) (fun p hp => nomatch hp)
  exact ⟨cl, by rw [clos_is, e], r⟩
/-- what is asked of a block's names -/
noncomputable def okNs (D ns : List (Str × NameKind)) : Bool := okRel D ns && (ns.all fun y => !(y.2 == .cell)) && (ns.all fun y => !(y.2 == .local) || ns.lookup y.1 == some .local) && decide ((freeN ns []).Nodup)
/-- what is asked of a block's word -/
structure JOk (X : List Addr) (J : Nat → List Value → Heap → Prop) : Prop where
  st : ∀ i ys h h', J i ys h → TupSub h h' → (∀ x ∈ X, ∀ o, h.get? x = some o → h'.get? x = some o) → J i ys h'
  len : ∀ i ys h, J i ys h → ys.length ≤ i
theorem Ev.comp {ns : List (Str × NameKind)} {more : List (Str × Const)} {elt target iter : Expr} {ifs : List Expr} {pos : Pos} {R : Nat → (Nat → Value → Heap → Prop) → Heap → Prop} (src : Src c X g l iter target R)
    (h : ∀ m Pv g', Up c X g g' → R m Pv g' → m ≤ 16384 ∧ (∀ x ∈ X, ∃ o, g'.get? x = some o) ∧ ∃ J, JOk X J ∧ J 0 [] g' ∧ TurnK c X l ns more elt target ifs m Pv J g' ∧ ∀ D' ys k h', New c g' D' → Up c X g' h' → h'.get? D' = some (PySem.W.listOf (List.toArray ys) k) → J m ys h' → P (.ref D') h')
    (hs : ∀ x, foldedSetIterable iter c.env x = pure x := by intro _; rfl) (hn : okNs D ns = true := by rfl) : Ev c X g l (.ListComp elt [⟨target, iter, ifs, 0⟩] ⟨.function, ns, false, false, more⟩ pos) P := .mk fun s Q E ok x1 p => by
  unfold okNs at hn
  simp only [Bool.and_eq_true] at hn
  obtain ⟨⟨⟨hr, h1⟩, h2⟩, h3⟩ := hn
  obtain ⟨cl, ec, hcl, hcs⟩ := clos (c := c) more hr
  rw [eval_ListComp]
  refine wpAny_comprehension_free (use := none) rfl hs ec rfl (fun y hy e => by simpa [e] using List.all_eq_true.mp h2 y hy) ?_
  refine src s _ E ok x1 fun m Pv g' h₂ d₂ tk₂ I fp wr Md Si k1 fg r up f2 S => ?_
  have xg := x1.next ok k1 fg
  obtain ⟨hm, hX, J, jo, j0, turn, fin⟩ := h m Pv g' (x1.up k1) r
  refine comp_core (RR := fun acc C => compPost (model PR c.W.w) c.A E none Q acc C) ok xg f2 up S hm (fun y hy e => by have := List.all_eq_true.mp h1 y hy; rw [e] at this; cases this) hcl hcs (of_decide_eq_true h3) hr J hX jo.st jo.len j0 turn fun D' C ys k h₃ dd tk m' nw hD hC hDC hnC k3 f3 ho JJ => ?_
  refine ⟨m', hnC, fun h₄ hs₄ => ?_⟩
  have sC : ∀ a o, a ≠ C → h₃.get? a = some o → h₄.get? a = some o := hs₄.extBut
  have gC : ∀ a o, g'.get? a = some o → a ≠ C := fun a o e q => by subst q; rw [up _ _ e] at hC; cases hC
  have K4 : Kp X g' h₄ := fun a o q e => sC a o (gC a o e) (k3 a o q e)
  have K4' : Kp (c.L :: X) g' h₄ := K4.mono fun _ q => .tail _ q
  have f4 : Fv c h₄ l := fg.next ok K4
  exact p _ h₄ dd tk (k1.trans K4') f4 (fin D' ys k h₄ nw (xg.up K4') (sC _ _ hDC ho) (jo.st _ _ _ _ JJ (fun a o _ ⟨_, _, h2⟩ e => sC a o (fun q => by
    subst q
    obtain ⟨o', _, _, ho', hd, _⟩ := hnC
    rw [e] at ho'; cases ho'
    rw [h2] at hd; cases hd) e) fun x hx o e => sC x o (fun q => let ⟨_, e2⟩ := hX x hx; gC _ _ e2 q) e))
theorem offL {a : Addr} {p : Prop} (h : a ∉ c.all) (z : a ∈ [c.L]) : p := absurd (by rw [List.mem_singleton.mp z]; exact all_L) h
theorem Kp.base0 (k0 : Kp c.X c.b h) (ok : okX c X) (k : Kp (c.L :: X) h h') : Kp c.X c.b h' := fun a o q e => k a o (fun m => by
  rcases List.mem_cons.mp m with rfl | m
  · rw [c.fs _ (.head _)] at e; cases e
  · exact (ok a m).1.elim (fun z => q z) fun z => by rw [z] at e; cases e) (k0 a o q e)
/-- a store into a variable of the frame's own -/
theorem storeL {s : Shared} {x : Str} {v : Value} {Q : Unit → Shared → Prop} {E : Value → Shared → Prop} (x1 : St c g l s.heap) (hk : D.lookup x = some .local) (p : ∀ h' tk', St c g ((x, v) :: l) h' → Kp [c.L] s.heap h' → Q () { s with heap := h', toks := tk' }) : wpAny (model PR c.W.w) c.A (storeName c.env x v) Q E s := by
  obtain ⟨m, hn, hm⟩ := x1.2.2.ns
  refine wpAny_storeName_local hk hn (fun h' hn' hs => ?_) rfl
  have k : Kp [c.L] s.heap h' := fun a o q e => by
    by_cases e2 : a = c.L
    · obtain ⟨o', _, _, ho, hd, _⟩ := hn
      subst e2
      rw [e] at ho; cases ho
      obtain ⟨_, _, _, h2⟩ := q (.head _)
      rw [h2] at hd; cases hd
    · exact hs.extBut a o e2 e
  have look : ∀ {y u}, y ≠ x → ((x, v) :: l).lookup y = some u → l.lookup y = some u := fun {y u} hy e => by
    rw [List.lookup_cons, beq_eq_false_iff_ne.mpr hy] at e; exact e
  refine p _ _ ⟨x1.1.trans (k.mono fun a q => by rw [List.mem_singleton.mp q]; exact all_L), x1.2.1.base0 (X := []) okX.nil k, ⟨_, hn', fun y u e d => ?_⟩, fun y a e => ?_⟩ k
  · by_cases hy : y = x
    · subst hy; simp only [if_true]
      rw [List.lookup_cons, beq_self_eq_true] at e; exact e
    · simp only [if_neg hy]; exact hm y u (look hy e) d
  · obtain ⟨v₀, ⟨o, ho, hd⟩, r⟩ := x1.2.2.cell y a e
    refine ⟨v₀, ⟨o, hs.extBut _ _ (c.ab y a (mem_of_lookup e)) ho, hd⟩, fun u q d => r u (look (fun z => ?_) q) d⟩
    subst z; rw [hk] at d; cases d
/-- y = a block -/
theorem Ex.comp {ns : List (Str × NameKind)} {more : List (Str × Const)} {elt target iter : Expr} {ifs : List Expr} {pos py spos : Pos} {y : Str} {ss : List Stmt} {R : Nat → (Nat → Value → Heap → Prop) → Heap → Prop} (src : Src c X g l iter target R)
    (h : ∀ m Pv g', Up c X g g' → R m Pv g' → m ≤ 16384 ∧ (∀ x ∈ X, ∃ o, g'.get? x = some o) ∧ ∃ J, JOk X J ∧ J 0 [] g' ∧ TurnK c X l ns more elt target ifs m Pv J g' ∧ ∀ D' ys k h', New c g' D' → Up c X g' h' → h'.get? D' = some (PySem.W.listOf (List.toArray ys) k) → J m ys h' → Ex c h' ((y, .ref D') :: l) ss P N)
    (ok : okX c X := by exact okX.nil) (hs : ∀ x, foldedSetIterable iter c.env x = pure x := by intro _; rfl) (hn : okNs D ns = true := by rfl) (hy : D.lookup y = some .local := by rfl) (hsw : swapsWith (.ListComp elt [⟨target, iter, ifs, 0⟩] ⟨.function, ns, false, false, more⟩ pos) (some (.Name y py)) spos.line c.env = pure true := by rfl) :
    Ex c g l (.Assign [.Name y py] (.ListComp elt [⟨target, iter, ifs, 0⟩] ⟨.function, ns, false, false, more⟩ pos) spos :: ss) P N := .mk fun s Q E x1 rr t => by
  unfold okNs at hn
  simp only [Bool.and_eq_true] at hn
  obtain ⟨⟨⟨hr, h1⟩, h2⟩, h3⟩ := hn
  obtain ⟨cl, ec, hcl, hcs⟩ := clos (c := c) more hr
  refine wpAny_execs_cons ?_
  rw [exec_Assign_Name_used _ _ _ _ hsw]
  refine wpAny_bind (wpAny_standAt (wpAny_bind ?_))
  show wpAny _ c.A (do let _ ← comprehension (.ListComp elt [⟨target, iter, ifs, 0⟩] ⟨.function, ns, false, false, more⟩ pos) ⟨.function, ns, false, false, more⟩ c.env _ (newList []) false (eval iter c.env) (some (PySem.assign (.Name y py) c.env))) _ _ s
  refine wpAny_bind (wpAny_mono (wpAny_comprehension_free (use := some (PySem.assign (.Name y py) c.env)) (Q := fun _ s' => wpAny (model PR c.W.w) c.A (execs ss c.env) Q E s') rfl hs ec rfl (fun y hy e => by simpa [e] using List.all_eq_true.mp h2 y hy) ?_) (fun _ s' hq => wpAny_pure (wpAny_pure hq)) fun _ _ e => e)
  refine src s _ E ok x1 fun m Pv g' h₂ d₂ tk₂ I fp wr Md Si k1 fg r up f2 S => ?_
  have xg := x1.next ok k1 fg
  obtain ⟨hm, hX, J, jo, j0, turn, fin⟩ := h m Pv g' (x1.up k1) r
  refine comp_core (RR := fun acc C => compPost (model PR c.W.w) c.A E (some (PySem.assign (.Name y py) c.env)) (fun _ s' => wpAny (model PR c.W.w) c.A (execs ss c.env) Q E s') acc C) ok xg f2 up S hm (fun y hy e => by have := List.all_eq_true.mp h1 y hy; rw [e] at this; cases this) hcl hcs (of_decide_eq_true h3) hr J hX jo.st jo.len j0 turn fun D' C ys k h₃ dd tk m' nw hD hC hDC hnC k3 f3 ho JJ => ?_
  have gC : ∀ a o, g'.get? a = some o → a ≠ C := fun a o e q => by subst q; rw [up _ _ e] at hC; cases hC
  have cC : C ∉ c.all := fun q => by
    rcases List.mem_cons.mp q with q | q
    · obtain ⟨_, ⟨o, _, _, e, _⟩, _⟩ := fg.ns; exact gC _ _ e q.symm
    · obtain ⟨⟨z, a'⟩, hm, e2⟩ := List.mem_map.mp q
      obtain ⟨_, ⟨o, e, _⟩, _⟩ := fg.cell z a' (c.nd z a' hm); exact gC _ _ e e2
  have K3 : Kp (c.L :: X) g' h₃ := k3.mono fun _ q => .tail _ q
  refine PyProof.Rows.assign_Name (storeL (xg.next ok K3 f3) hy fun h₄ tk₄ x4 k4 => ?_)
  have hnC4 := hnC.at' fun o e => k4 C o (offL cC) e
  refine ⟨m', hnC4, fun h₅ hs₅ => ?_⟩
  have sC : ∀ a o, a ≠ C → h₄.get? a = some o → h₅.get? a = some o := hs₅.extBut
  have K5 : Kp (c.L :: X) g' h₅ := fun a o q e => sC a o (gC a o e) (k4 a o (fun z => q (by rw [List.mem_singleton.mp z]; exact .head _)) (K3 a o q e))
  have f5 : Fv c h₅ ((y, .ref D') :: l) := x4.2.2.keeps fun a q o e => sC a o (fun z => cC (z ▸ q)) e
  have x5 : St c h₅ ((y, .ref D') :: l) h₅ := ⟨.refl, xg.2.1.base0 ok K5, f5⟩
  · have ho5 : h₅.get? D' = _ := sC _ _ hDC (k4 _ _ (offL nw.f) ho)
    have := fin D' ys k h₅ nw (xg.up K5) ho5 (jo.st _ _ _ _ JJ (fun a o h1 h2 e => sC a o (fun q => by
      subst q
      obtain ⟨o', _, _, ho', hd, _⟩ := hnC
      rw [e] at ho'; cases ho'
      obtain ⟨_, _, h2⟩ := h2
      rw [h2] at hd; cases hd) (k4 a o (fun _ => ⟨h1, h2⟩) e)) fun x hx o e => sC x o (fun q => let ⟨_, e2⟩ := hX x hx; gC _ _ e2 q) (k4 x o (offL (ok x hx).2) e))
    exact this.run _ Q E x5 (fun v h d tk kk z => rr v h d tk kk z) fun g₂ l₂ h₂ d₂ tk₂ x z => t g₂ l₂ h₂ d₂ tk₂ x z
end
end
section
open PySem PySem.W PyProof.Rows PySem.Calls
section
variable {D : List (Str × NameKind)} {n : Nat} {c : Cx D n} {X X' : List Addr} {g h h' : Heap} {l : List (Str × Value)} {P : Value → Heap → Prop} {N : Heap → List (Str × Value) → Prop}
/-! targets -/
noncomputable def StOk (c : Cx D n) (Y : List Addr) (p : Str → Bool) : Prop := ∀ {g : Heap} {l : List (Str × Value)} {s : Shared} {x : Str} {v : Value} {Q : Unit → Shared → Prop} {E : Value → Shared → Prop}, St c g l s.heap → p x = true → (∀ h' tk', St c g ((x, v) :: l) h' → Kp Y s.heap h' → Q () { s with heap := h', toks := tk' }) → wpAny (model PR c.W.w) c.A (storeName c.env x v) Q E s
noncomputable def okL (D : List (Str × NameKind)) (x : Str) : Bool := D.lookup x == some .local
theorem stL : StOk c [c.L] (okL D) := fun x1 hk p => storeL x1 (beq_iff_eq.mp hk) p
theorem stA : StOk c c.all (okN D) := fun x1 hk p => store x1 hk p
theorem stores' {Y : List Addr} {p : Str → Bool} (so : StOk c Y p) {ts : List (Value → Sem Unit)} {ns : List Str} (as : Stores c ts ns) : ∀ {vs : List Value} {l : List (Str × Value)} {s : Shared} {Q : Unit → Shared → Prop} {E : Value → Shared → Prop}, ns.length = vs.length → (ns.all p = true) → St c g l s.heap →
    (∀ h' tk', St c g ((ns.zip vs).reverse ++ l) h' → Kp Y s.heap h' → Q () { s with heap := h', toks := tk' }) → wpAny (model PR c.W.w) c.A (assignInOrder ts vs) Q E s := by
  induction as with
  | nil =>
    intro vs l s Q E e _ x1 p
    cases vs with
    | nil => exact wpAny_assignInOrder_none (p s.heap s.toks x1 .refl)
    | cons v vs => cases e
  | cons a as ih =>
    intro vs l s Q E e ok x1 p
    cases vs with
    | nil => cases e
    | cons v vs =>
      rw [List.all_cons, Bool.and_eq_true] at ok
      exact wpAny_assignInOrder_more (a v s _ E (so x1 ok.1 fun h₂ tk₂ x2 k => ih (Nat.succ.inj e) ok.2 x2 fun h₃ tk₃ x3 k3 => by
        have := p h₃ tk₃ (by rw [List.zip_cons_cons, List.reverse_cons, List.append_assoc]; exact x3) (k.trans k3)
        exact this))
theorem As.nameL {x : Str} {p0 : Pos} {v : Value} (hk : D.lookup x = some .local := by rfl) : As c [c.L] g l (.Name x p0) v ((x, v) :: l) := fun s Q E x1 p => PyProof.Rows.assign_Name (storeL x1 hk p)
theorem As.tup' {Y : List Addr} {q : Str → Bool} (so : StOk c Y q) {elts : List Expr} {k : Nat} {pos : Pos} {t : Addr} {vs : List Value} {ns : List Str} (it : IsTup g t vs.toArray) (he : namesOf elts = some ns) (hl : ns.length = vs.length) (hn : ns.all q = true) : As c Y g l (.Tuple elts k pos) (.ref t) ((ns.zip vs).reverse ++ l) := fun s Q E x1 p => by
  obtain ⟨a1, a2, a3⟩ := Stores.names (c := c) he
  refine assign_Tuple_tuple c.room.h (x1.tup it) (by rw [List.size_toArray, a2, hl]) a1 fun h₂ ke => ?_
  have k2 : Kp [] s.heap h₂ := fun a o _ e => ke a o (Nat.ne_of_lt (Heap.lt_size e)) e
  have x2 : St c g l h₂ := ⟨x1.1.trans (k2.mono fun _ q => nomatch q), x1.2.1.base0 (X := []) okX.nil (k2.mono fun _ q => nomatch q), x1.2.2.next okX.nil k2⟩
  exact stores' so a3 hl hn x2 fun h₃ tk₃ x3 k3 => p h₃ tk₃ x3 ((k2.mono fun _ q => nomatch q).trans k3)
theorem As.tupL {elts : List Expr} {k : Nat} {pos : Pos} {t : Addr} {vs : List Value} {ns : List Str} (it : IsTup g t vs.toArray) (he : namesOf elts = some ns := by rfl) (hl : ns.length = vs.length := by rfl) (hn : ns.all (okL D) = true := by rfl) : As c [c.L] g l (.Tuple elts k pos) (.ref t) ((ns.zip vs).reverse ++ l) := .tup' stL it he hl hn
theorem As.tup {elts : List Expr} {k : Nat} {pos : Pos} {t : Addr} {vs : List Value} {ns : List Str} (it : IsTup g t vs.toArray) (he : namesOf elts = some ns := by rfl) (hl : ns.length = vs.length := by rfl) (hn : ns.all (okN D) = true := by rfl) : As c c.all g l (.Tuple elts k pos) (.ref t) ((ns.zip vs).reverse ++ l) := .tup' stA it he hl hn
/-! sources -/
theorem Fv.seq {t : Addr} {o : Obj} {it : Array Value} {k : Nat} (f : Fv c h l) (e : h.get? t = some o) (hd : o.data = .seq it k) : t ∉ c.all := fun q => by
  rcases List.mem_cons.mp q with rfl | q
  · obtain ⟨_, ⟨o', _, _, e', hd', _⟩, _⟩ := f.ns
    rw [e] at e'; cases e'
    rw [hd] at hd'; cases hd'
  · obtain ⟨⟨z, a'⟩, hm, rfl⟩ := List.mem_map.mp q
    obtain ⟨_, ⟨o', e', hd'⟩, _⟩ := f.cell z a' (c.nd z a' hm)
    rw [e] at e'; cases e'
    rw [hd] at hd'; cases hd'
theorem Fv.off {t : Addr} {o : Obj} (f : Fv c h l) (e : h.get? t = some o) (hd : ∀ es k, o.data ≠ .dict es k) (hc : ∀ v, o.data ≠ .cell v) : t ∉ c.all := fun q => by
  rcases List.mem_cons.mp q with rfl | q
  · obtain ⟨_, ⟨o', _, _, e', hd', _⟩, _⟩ := f.ns
    rw [e] at e'; cases e'
    exact hd _ _ hd'
  · obtain ⟨⟨z, a'⟩, hm, rfl⟩ := List.mem_map.mp q
    obtain ⟨_, ⟨o', e', hd'⟩, _⟩ := f.cell z a' (c.nd z a' hm)
    rw [e] at e'; cases e'
    exact hc _ hd'
theorem fresh_ne {a : Addr} {o : Obj} (e : h.get? a = some o) : a ≠ h.objs.size := Nat.ne_of_lt (Heap.lt_size e)
theorem X_new (ok : okX c X) (f : Fv c h l) (hX : ∀ x ∈ X, ∃ o, h.get? x = some o) : h.objs.size ∉ X ∧ h.objs.size ∉ c.all := ⟨fun q => let ⟨_, e⟩ := hX _ q; fresh_ne e rfl, fun q => by
  rcases List.mem_cons.mp q with q | q
  · obtain ⟨_, ⟨o', _, _, e', _⟩, _⟩ := f.ns; exact fresh_ne e' q.symm
  · obtain ⟨⟨z, a'⟩, hm, e2⟩ := List.mem_map.mp q
    obtain ⟨_, ⟨o', e', _⟩, _⟩ := f.cell z a' (c.nd z a' hm); exact fresh_ne e' e2⟩
/-- an iterator at the heap's end, over t -/
theorem src1 {target : Expr} {t : Addr} {m : Nat} {Pv : Nat → Value → Prop} {Si : Nat → Heap → Prop} {oi : Obj} {cn : String} (W : Walks PR c.W.w c.A h.objs.size [h.objs.size, t] [h.objs.size] m Pv Si) (ht : t < h.objs.size ∧ t ∉ X ∧ t ∉ c.all) (hn : h.objs.size ∉ X ∧ h.objs.size ∉ c.all)
    (hgo : ∀ i h', Si i h' → ∃ o, h'.get? h.objs.size = some o ∧ o.cls = .type cn) (hcn : (["enumerate", "zip", "dict_itemiterator", "dict_reverseitemiterator", "odict_iterator", "itertools.zip_longest", "itertools.pairwise"].contains cn) = false) (hct : cn ≠ "tuple")
    (self : ∀ (s : Shared) (Q : Value → Shared → Prop) (E : Value → Shared → Prop), Si 0 s.heap → Q (.ref h.objs.size) s → wpAny (model PR c.W.w) c.A (pyIter (.ref h.objs.size)) Q E s) (st : Si 0 (h.push oi)) :
    ∃ fp wr Md Si, SrcAt c X target m (fun i v _ => Pv i v) h (h.push oi) h.objs.size fp wr Md Si :=
  ⟨_, _, _, _, KTurns.ofWalks W (fun i v s Q E st k => let ⟨o, e, hc⟩ := hgo i s.heap st; go_any e hc hcn k), self, fun i h' st a ha o e => by
      obtain ⟨o', e', hc⟩ := hgo i h' st
      rw [List.mem_singleton.mp ha, e'] at e; cases e
      rw [hc]; exact fun q => hct (Value.type.inj q), st, fun a ha => by
      rcases List.mem_cons.mp ha with rfl | ha
      · exact ⟨by rw [Heap.size_push]; exact Nat.lt_succ_self _, hn⟩
      · rw [List.mem_singleton.mp ha]
        exact ⟨by rw [Heap.size_push]; exact Nat.lt_succ_of_lt ht.1, ht.2⟩, fun a ha => by rw [List.mem_singleton.mp ha]; exact size_none h⟩
theorem Fv.push (f : Fv c h l) (o : Obj) : Fv c (h.push o) l := f.keeps fun a _ o e => Heap.get?_push_of_some _ e
/-- the items of a tuple -/
theorem Src.tup {iter target : Expr} {P' : Value → Heap → Prop} (x : Ev c X g l iter P') (hv : ∀ v g', Up c X g g' → P' v g' → (∀ x ∈ X, ∃ o, g'.get? x = some o) ∧ ∃ t ys, v = .ref t ∧ t ∉ X ∧ IsTup g' t (List.toArray ys)) : Src c X g l iter target fun m Pv g' => ∃ t ys, P' (.ref t) g' ∧ IsTup g' t (List.toArray ys) ∧ m = ys.length ∧ Pv = fun i v _ => ys[i]? = some v := fun s Q E ok x1 p => by
  refine x.run s _ E ok x1 fun v h' d' tk' k f z => ?_
  obtain ⟨hX, t, ys, rfl, htX, it⟩ := hv v h' (x1.up k) z
  obtain ⟨o, e, _, nn, hd⟩ := id it
  have htc := f.off e (fun _ _ q => by rw [hd] at q; cases q) (fun _ q => by rw [hd] at q; cases q)
  refine wpAny_pyIter_tuple (s := { s with heap := h', drawn := d', toks := tk' }) it ?_
  have lt := Heap.lt_size e
  obtain ⟨fp, wr, Md, Si, S⟩ := src1 (target := target) (oi := { cls := .type "tuple_iterator", data := .fields #[.ref t, .int 0 0] }) (Walks.tuple c.room.h h'.objs.size t (Nat.ne_of_lt lt) ys.toArray) ⟨lt, htX, htc⟩ (X_new ok f hX) (fun i h st => let ⟨⟨o, ho, hc, _⟩, _⟩ := st; ⟨o, ho, hc⟩) rfl (by decide)
    (fun s Q E st k => wpAny_pyIter_tupleiter st.1 k) ⟨⟨_, Heap.get?_push_size _ rfl, rfl, rfl⟩, Heap.IsTuple.push it _⟩
  exact p _ _ h' _ d' tk' _ fp wr Md Si k f ⟨t, ys, z, it, rfl, rfl⟩ (fun a o e => Heap.get?_push_of_some _ e) (f.push _) (by simpa using S)
/-- the items of a list -/
theorem Src.list {iter target : Expr} {P' : Value → Heap → Prop} (x : Ev c X g l iter P') (hv : ∀ v g', Up c X g g' → P' v g' → (∀ x ∈ X, ∃ o, g'.get? x = some o) ∧ ∃ t ys, v = .ref t ∧ t ∉ X ∧ g'.IsList t (List.toArray ys)) : Src c X g l iter target fun m Pv g' => ∃ t ys, P' (.ref t) g' ∧ g'.IsList t (List.toArray ys) ∧ m = ys.length ∧ Pv = fun i v _ => ys[i]? = some v := fun s Q E ok x1 p => by
  refine x.run s _ E ok x1 fun v h' d' tk' k f z => ?_
  obtain ⟨hX, t, ys, rfl, htX, it⟩ := hv v h' (x1.up k) z
  obtain ⟨o, e, _, nn, hd⟩ := id it
  have htc := f.off e (fun _ _ q => by rw [hd] at q; cases q) (fun _ q => by rw [hd] at q; cases q)
  refine wpAny_pyIter_list (s := { s with heap := h', drawn := d', toks := tk' }) it ?_
  have lt := Heap.lt_size e
  obtain ⟨fp, wr, Md, Si, S⟩ := src1 (target := target) (oi := { cls := .type "list_iterator", data := .fields #[.ref t, .int 0 0] }) (Walks.list c.room.h h'.objs.size t (Nat.ne_of_lt lt) ys.toArray) ⟨lt, htX, htc⟩ (X_new ok f hX) (fun i h st => let ⟨⟨o, ho, hc, _⟩, _⟩ := st; ⟨o, ho, hc⟩) rfl (by decide)
    (fun s Q E st k => wpAny_pyIter_listiter st.1 k) ⟨⟨_, Heap.get?_push_size _ rfl, rfl, rfl⟩, Heap.IsList.push it _⟩
  exact p _ _ h' _ d' tk' _ fp wr Md Si k f ⟨t, ys, z, it, rfl, rfl⟩ (fun a o e => Heap.get?_push_of_some _ e) (f.push _) (by simpa using S)
theorem range_small : ∀ m : Nat, m < 9 → Builtin.Range.small 0 (m : Int) 1 = true ∧ Builtin.Range.rangeSize 0 (m : Int) 1 = (m : Int) := by decide
/-- the items of a range -/
theorem Src.range {e target : Expr} {p1 p2 : Pos} {P' : List Value → Heap → Prop} (b : IsB "range" (.type "range")) (x : EvL c X g l [e] P') (hv : ∀ vs g', Up c X g g' → P' vs g' → (∀ x ∈ X, ∃ o, g'.get? x = some o) ∧ ∃ m u, vs = [.int ((m : Nat) : Int) u] ∧ m ≤ 8) (hk : okG D "range" = true := by rfl) (hs : noStar [e] = true := by rfl) :
    Src c X g l (.Call (.Name "range" p1) [e] [] p2) target fun m Pv g' => ∃ g₀ u, g₀.StaysIn g' ∧ P' [.int (m : Int) u] g₀ ∧ m ≤ 8 ∧ ∀ i v h, Pv i v h → ∃ u, v = .int ((i : Nat) : Int) u := fun s Q E ok x1 p =>
  call_head (.bltn b hk) x1 fun tk => callWith_typeN ((x.run p2) { s with toks := tk } _ E ok x1 fun vs h' d' tk' k f z => by
    obtain ⟨hX, m, u, rfl, hm⟩ := hv vs h' (x1.up k) z
    obtain ⟨r1, r2⟩ := range_small m (by omega)
    refine call_range_1 (s := { s with heap := h', drawn := d', toks := tk' }) ?_
    generalize hG : h'.push { cls := .type "range", data := .fields #[.int 0 tk', .int (m : Int) u, .int 1 (tk' + 1)] } = G
    have up : h'.StaysIn G := fun a o e => hG ▸ Heap.get?_push_of_some _ e
    have f2 : Fv c G l := f.keeps fun a _ o e => up _ _ e
    have hX2 : ∀ x ∈ X, ∃ o, G.get? x = some o := fun x hx => let ⟨o, e⟩ := hX x hx; ⟨o, up _ _ e⟩
    obtain ⟨n1, n2⟩ := X_new ok f2 hX2
    refine wpAny_pyIter_range (t := tk') (u := u) (v := tk' + 1) (by show IsRange G _ _ _ _ _ _ _; rw [← hG]; exact Heap.get?_push_size _ rfl) r1 ?_
    have W := KTurns.ofWalks (target := target) (PyProof.Rows.LCg.range_walks (prog := PR) (w := c.W.w) (I := G.objs.size) c.room.h 0 m) (fun i v s Q E st h => go_any (I := _) st rfl (by decide) h)
    refine p m _ G _ d' _ _ [G.objs.size] [G.objs.size] _ _ (k.trans (Kp.of up)) f2 ⟨h', u, up, z, hm, fun i v h q => ?_⟩ (fun a o e => Heap.get?_push_of_some _ e) (f2.push _)
      ⟨W, fun s Q E st h => wpAny_pyIter_rangeiter st h, ?_, ?_, ?_, ?_⟩
    · obtain ⟨u, rfl⟩ := q
      exact ⟨u, by rw [Int.zero_add]⟩
    · intro i h st a ha o e
      rw [List.mem_singleton.mp ha] at e
      have st' : h.get? G.objs.size = some _ := st
      rw [e] at st'; cases st'
      exact fun q => absurd (Value.type.inj q) (by decide)
    · show IsRangeIter _ _ _ _ _
      rw [r2]; simpa using Heap.get?_push_size _ rfl
    · intro a ha
      rw [List.mem_singleton.mp ha]
      exact ⟨by rw [Heap.size_push]; exact Nat.lt_succ_self _, n1, n2⟩
    · intro a ha
      rw [List.mem_singleton.mp ha]; exact size_none _) hs
/-- a tuple's items with their numbers -/
theorem Src.enum {e : Expr} {elts : List Expr} {kk : Nat} {tpos p1 p2 : Pos} {P' : List Value → Heap → Prop} (b : IsB "enumerate" (.type "enumerate")) (x : EvL c X g l [e] P') (hv : ∀ vs g', Up c X g g' → P' vs g' → (∀ x ∈ X, ∃ o, g'.get? x = some o) ∧ ∃ t ys, vs = [.ref t] ∧ t ∉ X ∧ IsTup g' t (List.toArray ys)) (hk : okG D "enumerate" = true := by rfl) (hs : noStar [e] = true := by rfl) :
    Src c X g l (.Call (.Name "enumerate" p1) [e] [] p2) (.Tuple elts kk tpos) fun m Pv g' => ∃ t ys, P' [.ref t] g' ∧ IsTup g' t (List.toArray ys) ∧ m = ys.length ∧ ∀ i v h, Pv i v h → ∃ T u x, v = .ref T ∧ ys[i]? = some x ∧ IsTup h T [.int ((i : Nat) : Int) u, x].toArray := fun s Q E ok x1 p =>
  call_head (.bltn b hk) x1 fun tk => callWith_typeN ((x.run p2) { s with toks := tk } _ E ok x1 fun vs h' d' tk' k f z => by
    obtain ⟨hX, t, ys, rfl, htX, it⟩ := hv vs h' (x1.up k) z
    obtain ⟨o, e, _, nn, hd⟩ := id it
    have htc := f.off e (fun _ _ q => by rw [hd] at q; cases q) (fun _ q => by rw [hd] at q; cases q)
    have lt := Heap.lt_size e
    obtain ⟨h₂, eh, he, hit, hsz, up⟩ := enE h' t
    refine callE (s := { s with heap := h', drawn := d', toks := tk' }) it ?_
    show wpAny _ _ _ _ _ { s with heap := (h'.push (itT t)).push (enO h'.objs.size), drawn := d', toks := tk' }
    rw [eh]
    refine wpAny_pyIter_enum he ?_
    have W := KTurns.ofWalksU (elts := elts) (k := kk) (pos := tpos) (WalksT.enumerateD (drawsT (prog := PR) (w := c.W.w) (A := c.A.in1) (by simpa using c.room.h) (Nat.ne_of_lt lt) ys.toArray) (h'.objs.size + 1) (Nat.ne_of_gt (Nat.lt_succ_self _)) (by simp [Nat.ne_of_gt (Nat.lt_succ_of_lt lt)]) (.head _)).toU
    obtain ⟨n1, n2⟩ := X_new ok f hX
    have n0 : ∀ a, h'.objs.size ≤ a → h'.get? a = none := fun a q => by
      cases e : h'.get? a with
      | none => rfl
      | some o => exact absurd (Heap.lt_size e) (Nat.not_lt.mpr q)
    have off : ∀ a, a ∈ X ∨ a ∈ c.all → a < h'.objs.size := fun a q => by
      have : ∃ o, h'.get? a = some o := q.elim (hX a) fun q => by
        rcases List.mem_cons.mp q with rfl | q
        · obtain ⟨_, ⟨o, _, _, e, _⟩, _⟩ := f.ns; exact ⟨o, e⟩
        · obtain ⟨⟨z, a'⟩, hm, rfl⟩ := List.mem_map.mp q
          obtain ⟨_, ⟨o, e, _⟩, _⟩ := f.cell z a' (c.nd z a' hm); exact ⟨o, e⟩
      exact let ⟨_, e⟩ := this; Heap.lt_size e
    refine p ys.toArray.size _ h' h₂ d' _ _ [h'.objs.size + 1, h'.objs.size, t] [h'.objs.size + 1, h'.objs.size] _ _ k f ⟨t, ys, z, it, List.size_toArray, fun i v h q => ?_⟩ up (f.keeps fun a _ o e => up _ _ e)
      ⟨W, (fun s Q E st h => by obtain ⟨⟨old, he⟩, _, _⟩ := st; exact wpAny_pyIter_enum he h), ?_, ⟨⟨_, he⟩, hit, let ⟨o, e, r⟩ := it; ⟨o, up _ _ e, r⟩⟩, ?_, ?_⟩
    · obtain ⟨T, _, rfl, ⟨u, x, hx, rfl⟩, hT⟩ := q
      exact ⟨T, u, x, rfl, by simpa using hx, hT⟩
    · rintro i h ⟨⟨old, he'⟩, ⟨o', e', hc, _⟩, _⟩ a ha o e
      rcases List.mem_cons.mp ha with rfl | ha
      · have he2 : h.get? (h'.objs.size + 1) = some _ := he'
        rw [e] at he2; cases he2
        exact fun q => absurd (Value.type.inj q) (by decide)
      · rw [List.mem_singleton.mp ha, e'] at e; cases e
        rw [hc]; exact fun q => absurd (Value.type.inj q) (by decide)
    · intro a ha
      have big : h'.objs.size ≤ a → a ∉ X ∧ a ∉ c.all := fun q => ⟨fun z => absurd (off a (.inl z)) (Nat.not_lt.mpr q), fun z => absurd (off a (.inr z)) (Nat.not_lt.mpr q)⟩
      have hsz : h₂.objs.size = h'.objs.size + 2 := hsz
      rcases List.mem_cons.mp ha with rfl | ha
      · exact ⟨by show _ < h₂.objs.size; omega, big (by omega)⟩
      · rcases List.mem_cons.mp ha with rfl | ha
        · exact ⟨by show _ < h₂.objs.size; omega, big (by omega)⟩
        · have e2 := List.mem_singleton.mp ha; exact ⟨by rw [e2]; exact Nat.lt_of_lt_of_le lt (by show h'.objs.size ≤ h₂.objs.size; omega), e2 ▸ htX, e2 ▸ htc⟩
    · intro a ha
      refine n0 a ?_
      rcases List.mem_cons.mp ha with rfl | ha
      · omega
      · rw [List.mem_singleton.mp ha]; omega) hs
/-- for target in iter: body -/
theorem Ex.for {target iter : Expr} {body ss : List Stmt} {pos : Pos} {R : Nat → (Nat → Value → Heap → Prop) → Heap → Prop} (src : Src c X g l iter target R)
    (h : ∀ m Pv g', Up c X g g' → R m Pv g' → (∀ x ∈ X, ∃ o, g'.get? x = some o) ∧ ∃ J : Nat → List (Str × Value) → Heap → Prop, (∀ i l h h', J i l h → TupSub h h' → (∀ x ∈ X, ∀ o, h.get? x = some o → h'.get? x = some o) → J i l h') ∧ J 0 l g' ∧
      (∀ i v l₁ h₁, i < m → Pv i v h₁ → J i l₁ h₁ → Up c X g' h₁ → ∃ l₂, As c c.all h₁ l₁ target v l₂ ∧ Ex c h₁ l₂ body (fun _ _ => False) fun h₂ l₃ => Up c X h₁ h₂ ∧ J (i + 1) l₃ h₂) ∧
      ∀ l' h', J m l' h' → Up c X g' h' → Ex c h' l' ss P N)
    (ok : okX c X := by exact okX.nil) (hs : ∀ x, foldedSetIterable iter c.env x = pure x := by intro _; rfl) : Ex c g l (.For target iter body [] pos :: ss) P N := .mk fun s Q E x1 rr t => by
  refine wpAny_execs_cons (wpAny_For ?_ hs)
  refine src s _ E ok x1 fun m Pv g' h₂ d₂ tk₂ I fp wr Md Si k1 fg r up f2 S => ?_
  obtain ⟨hX, J, jst, j0, turn, fin⟩ := h m Pv g' (x1.up k1) r
  obtain ⟨W, _, wt, hst, hfp, wn⟩ := S
  have xg := x1.next ok k1 fg
  have hXw : ∀ x ∈ X, x ∉ wr := fun x hx q => by obtain ⟨o, e⟩ := hX x hx; rw [wn x q] at e; cases e
  have hXc : ∀ x ∈ X, x ∉ c.all := fun x hx => (ok x hx).2
  refine codeAny_forLoop_any
    (fun k s' => ∃ h' dd tk l' i, s' = { s with heap := h', drawn := dd, toks := tk } ∧ Si i h' ∧ Fv c h' l' ∧ Up c X g' h' ∧ J i l' h' ∧ i ≤ m ∧ k = m + 1 - i) ?_ (m + 1)
    ⟨h₂, d₂, tk₂, l, 0, rfl, hst, f2, Kp.of up, jst _ _ _ _ j0 (Kp.of (X := []) up).sub fun x _ o e => up _ _ e, Nat.zero_le _, rfl⟩
  rintro kk s' ⟨h', dd, tk, l', i, rfl, hst', f', K', J', hi, rfl⟩
  have cw : ∀ a, a ∈ c.all → a ∉ wr := fun a q z => (hfp a (W.sub a z)).2.2 q
  have step : ∀ h₃ : Heap, (∀ a o, a ∉ wr → h'.get? a = some o → h₃.get? a = some o) → Fv c h₃ l' ∧ Up c X g' h₃ ∧ J i l' h₃ ∧ St c h₃ l' h₃ := fun h₃ k3 => by
    have f3 : Fv c h₃ l' := f'.keeps fun a q o e => k3 a o (cw a q) e
    have K3 : Up c X g' h₃ := fun a o q e => k3 a o (fun hw => by rw [wn a hw] at e; cases e) (K' a o q e)
    exact ⟨f3, K3, jst _ _ _ _ J' (fun a o h1 _ e => k3 a o (fun hw => wt _ _ hst' a hw o e h1) e) fun x hx o e => k3 _ _ (hXw x hx) e, .refl, fun a o q e => K3 a o (fun z => by
      rcases List.mem_append.mp z with z | z
      · rw [c.fs a z] at e; cases e
      · exact (ok a z).1.elim (fun z => q z) fun z => by rw [z] at e; cases e) (xg.2.1 a o q e), f3⟩
  by_cases hlt : i < m
  · refine W.item i _ _ _ hlt hst' fun v h₃ tk₃ hMd hk₃ => ?_
    refine W.go i v _ _ _ hMd fun h₄ hP hst₄ hk₄ => ?_
    obtain ⟨f4, K4, J4, x4⟩ := step h₄ fun a o h1 e => hk₄ a o h1 (hk₃ a o h1 e)
    obtain ⟨l₂, as, ex⟩ := turn i v l' h₄ hlt hP J4 K4
    refine as { s with heap := h₄, drawn := dd, toks := tk₃ } _ _ x4 fun h₅ tk₅ x5 k5 => ex.run _ _ _ x5 (fun _ _ _ _ _ q => q.elim) fun g₆ l₆ h₆ d₆ tk₆ x6 z => ?_
    have K6 : Up c X h₄ h₆ := z.1.trans (x6.1.mono fun _ q => List.mem_append_left _ q)
    exact ⟨m + 1 - (i + 1), by omega, h₆, d₆, tk₆, l₆, i + 1, rfl, W.frame _ _ _ hst₄ fun a ha o e => K6 a o (fun q => by
      rcases List.mem_append.mp q with q | q
      · exact absurd q (hfp a ha).2.2
      · exact absurd q (hfp a ha).2.1) e, x6.2.2, K4.trans K6, jst _ _ _ _ z.2 x6.1.sub fun x hx o e => x6.get (hXc x hx) e, hlt, rfl⟩
  · obtain rfl : i = m := Nat.le_antisymm hi (Nat.not_lt.mp hlt)
    refine W.done _ _ _ hst' fun h₃ tk₃ hk₃ => wpAny_execs_nil ?_
    obtain ⟨f3, K3, J3, x3⟩ := step h₃ hk₃
    exact (fin l' h₃ J3 K3).run _ Q E x3 (fun v h d tk kk z => rr v h d tk kk z) fun g₂ l₂ h₂ d₂ tk₂ x z => t g₂ l₂ h₂ d₂ tk₂ x z
/-- while test: body -/
theorem Ex.while {test : Expr} {body ss : List Stmt} {pos : Pos} (J : Nat → List (Str × Value) → Heap → Prop) (k₀ : Nat) (j0 : J k₀ l g)
    (h : ∀ k l₁ h₁, J k l₁ h₁ → ∃ X Pt, okX c X ∧ Tr c X h₁ l₁ test Pt ∧ (∀ h₂, Up c X h₁ h₂ → Pt true h₂ → Ex c h₂ l₁ body P fun h₃ l₂ => ∃ k', k' < k ∧ J k' l₂ h₃) ∧ ∀ h₂, Up c X h₁ h₂ → Pt false h₂ → Ex c h₂ l₁ ss P N) : Ex c g l (.While test body [] pos :: ss) P N := .mk fun s Q E x1 rr t => by
  refine wpAny_execs_cons (wpAny_While (codeAny_whileLoop (fun k s' => ∃ g₁ l₁ h₁ dd tk, s' = { s with heap := h₁, drawn := dd, toks := tk } ∧ St c g₁ l₁ h₁ ∧ J k l₁ g₁) ?_ k₀ ⟨g, l, s.heap, s.drawn, s.toks, rfl, x1, j0⟩))
  rintro k s' ⟨g₁, l₁, h₁, dd, tk, rfl, x2, j⟩
  obtain ⟨X, Pt, ok, tr, hb, he⟩ := h k l₁ g₁ j
  refine tr.run _ _ _ ok x2 fun β h₂ d₂ tk₂ k2 f2 z => ?_
  have x3 := x2.next ok k2 f2
  cases β with
  | true =>
    simp only [if_true]
    refine (hb h₂ (x2.up k2) z).run _ _ _ x3 (fun v h d tk kk z => rr v h d tk kk z) fun g₂ l₂ h₃ d₃ tk₃ x z => ?_
    obtain ⟨k', hk, j'⟩ := z
    exact ⟨k', hk, g₂, l₂, h₃, d₃, tk₃, rfl, x, j'⟩
  | false =>
    simp only [Bool.false_eq_true, if_false]
    refine wpAny_execs_nil ?_
    exact (he h₂ (x2.up k2) z).run _ Q E x3 (fun v h d tk kk z => rr v h d tk kk z) fun g₂ l₂ h₃ d₃ tk₃ x z => t g₂ l₂ h₃ d₃ tk₃ x z
end
end
section
open PySem PySem.W PyProof.Rows PySem.Calls
noncomputable def ListAt (h : Heap) (d : Addr) (us : List Value) : Prop := ∃ n, h.get? d = some (PySem.W.listOf (List.toArray us) n)
theorem ListAt.is {h : Heap} {d : Addr} {us : List Value} (x : ListAt h d us) : h.IsList d us.toArray := let ⟨_, e⟩ := x; ⟨_, e, rfl, _, rfl⟩
theorem list_noT {us : Array Value} {n : Nat} : ¬ isT (PySem.W.listOf us n) := fun q => absurd (Value.type.inj q.1) (by decide)
theorem ListAt.keep {h h' : Heap} {d : Addr} {us : List Value} {Y : List Addr} (x : ListAt h d us) (k : Kp Y h h') (hn : d ∉ Y) : ListAt h' d us := let ⟨n, e⟩ := x; ⟨n, k.get hn e⟩
theorem Ats.strs : ∀ {ys : List Str} {vs : List Value}, Ats vs (ys.map At.s) → StrsAre vs ys
  | [], _, .nil => .nil
  | y :: ys, _, .cons x r => by obtain ⟨t, rfl⟩ := x; exact .cons y t (Ats.strs r)
section
variable {D : List (Str × NameKind)} {n : Nat} {c : Cx D n} {X X' : List Addr} {g h h' : Heap} {l : List (Str × Value)} {P : Value → Heap → Prop} {N : Heap → List (Str × Value) → Prop}
theorem St.fn0 (x : St c g l h) : ∃ m rest, Fr hp0 c.L h m ∧ News hp0 c.L h rest ∧ ∀ h', Fr hp0 c.L h' m → News hp0 c.L h' rest → Kp [c.L] h h' ∧ Fv c h' l := by
  obtain ⟨m, rest, F, N, k⟩ := x.fn [] (fun p hp => nomatch hp)
  exact ⟨m, rest, F, N, k⟩
/-- in, not in, of written texts -/
theorem Op.inT {t : Addr} {vs : List Value} {ys : List Str} {a : Str} {tk : Tok} (it : IsTup g t vs.toArray) (hy : StrsAre vs ys) (hp : ∀ h', Up c [] g h' → P (.bool (ys.any (· == a))) h') : Op c X g l (compareOp .In (.str a tk) (.ref t)) P :=
  .cm (fun h x s Q E eh p => in_tuple_strs (by subst eh; exact x.tup it) hy (p s.toks)) hp
theorem Op.ninT {t : Addr} {vs : List Value} {ys : List Str} {a : Str} {tk : Tok} (it : IsTup g t vs.toArray) (hy : StrsAre vs ys) (hp : ∀ h', Up c [] g h' → P (.bool (!ys.any (· == a))) h') : Op c X g l (compareOp .NotIn (.str a tk) (.ref t)) P :=
  .cm (fun h x s Q E eh p => notin_tuple_strs (by subst eh; exact x.tup it) hy (p s.toks)) hp
theorem Tr.inLits {e : Expr} {es : List Expr} {k : Nat} {p1 pos : Pos} {ys : List Str} {P' : Value → Heap → Prop} {P : Bool → Heap → Prop} (x : Ev c X g l e P') (lits : ∀ g, EvL0 c g l es (ys.map At.s)) (hp : ∀ v g' h', Up c X g g' → P' v g' → Up c [] g' h' → (∃ a, (At.s a).is v ∧ P (ys.any (· == a)) h')) (hv : ∀ v g', P' v g' → ∃ a, (At.s a).is v)
    (hz : ys.length ≤ 100 := by exact Nat.le_of_ble_eq_true rfl) (hm : behindInMarks .In (.Tuple es k p1) = false := by with_unfolding_all rfl) : Tr c X g l (.Compare e [.In] [.Tuple es k p1] pos) P :=
  .cmp x (fun u g' up z => .tup (lits g') (fun vs t h₂ up2 nw zz i => by
    obtain ⟨a, tk, rfl⟩ := hv u g' z
    refine .inT i.tup (Ats.strs zz) fun h₃ up3 => ?_
    obtain ⟨b, ⟨tk2, e⟩, p⟩ := hp _ g' h₃ up z (up2.trans up3)
    cases e
    exact ⟨_, rfl, p⟩) (by rw [List.length_map]; exact hz)) hm
theorem Tr.ninLits {e : Expr} {es : List Expr} {k : Nat} {p1 pos : Pos} {ys : List Str} {P' : Value → Heap → Prop} {P : Bool → Heap → Prop} (x : Ev c X g l e P') (lits : ∀ g, EvL0 c g l es (ys.map At.s)) (hp : ∀ v g' h', Up c X g g' → P' v g' → Up c [] g' h' → (∃ a, (At.s a).is v ∧ P (!ys.any (· == a)) h')) (hv : ∀ v g', P' v g' → ∃ a, (At.s a).is v)
    (hz : ys.length ≤ 100 := by exact Nat.le_of_ble_eq_true rfl) (hm : behindInMarks .NotIn (.Tuple es k p1) = false := by with_unfolding_all rfl) : Tr c X g l (.Compare e [.NotIn] [.Tuple es k p1] pos) P :=
  .cmp x (fun u g' up z => .tup (lits g') (fun vs t h₂ up2 nw zz i => by
    obtain ⟨a, tk, rfl⟩ := hv u g' z
    refine .ninT i.tup (Ats.strs zz) fun h₃ up3 => ?_
    obtain ⟨b, ⟨tk2, e⟩, p⟩ := hp _ g' h₃ up z (up2.trans up3)
    cases e
    exact ⟨_, rfl, p⟩) (by rw [List.length_map]; exact hz)) hm
/-- x[:j] of a text, x[1:] of a tuple -/
theorem Ev.cut {e : Expr} {j : Int} {k : Nat} {p1 p2 p3 : Pos} {a : Str} (x : Ev0 c g l e (.s a)) (hp : ∀ v h', Up c [] g h' → (At.s (Txt.slice a none (some j))).is v → P v h') (hz : a.length ≤ 100)
    (hs : ∀ t r, subscripted (.Slice none (some (.Constant (.int j) k p1)) none p2) false (.str a t) (.ref r) = operate [.ref r, .str a t] (getItem (.str a t) (.ref r)) := by intro _ _; with_unfolding_all rfl) (ht : ∀ t r, letTemporaryGo e (.str a t) r = pure () := by intro _ _; with_unfolding_all rfl) :
    Ev c X g l (.Subscript e (.Slice none (some (.Constant (.int j) k p1)) none p2) p3) P := .mk fun s Q E ok x1 p =>
  Subscript_ (x s _ E x1 fun v tk z => by
    obtain ⟨t, rfl⟩ := z
    refine wpAny_Slice (wpAny_pure (wpAny_Constant_int (pos := p1) (k := k) (wpAny_pure ?_)))
    obtain ⟨m, rest, F, Nw, back⟩ := x1.fn0
    refine slice_strN_ns (s := { s with toks := _ }) F Nw (fun h' t' k' F' N' => ?_) (hs _ _) (ht _) (by rw [sizeLine_eq]; omega)
    obtain ⟨k2, f2⟩ := back h' F' N'
    exact p _ h' s.drawn k' (k2.mono fun a q => by rw [List.mem_singleton.mp q]; exact .head _) f2 (hp _ h' (x1.up (X := []) k2) ⟨_, rfl⟩))
theorem Ev.tail {e : Expr} {k : Nat} {p1 p2 p3 : Pos} {t : Addr} {us : List Value} (x : Ev0 c g l e (.v (.ref t))) (it : IsTup g t us.toArray) (ha : 1 ≤ us.length) (hz : us.length ≤ 100) (hp : ∀ v h', Up c [] g h' → New c g v → ExTup h' v (us.drop 1) → P (.ref v) h')
    (hs : ∀ r, subscripted (.Slice (some (.Constant (.int 1) k p1)) none none p2) false (.ref t) (.ref r) = operate [.ref r, .ref t] (getItem (.ref t) (.ref r)) := by intro _; with_unfolding_all rfl) (ht : ∀ r, letTemporaryGo e (.ref t) r = pure () := by intro _; with_unfolding_all rfl) :
    Ev c X g l (.Subscript e (.Slice (some (.Constant (.int 1) k p1)) none none p2) p3) P := .mk fun s Q E ok x1 p =>
  Subscript_ (x s _ E x1 fun v tk z => by
    obtain rfl : v = .ref t := z
    refine wpAny_Slice (wpAny_Constant_int (pos := p1) (k := k) (wpAny_pure (wpAny_pure ?_)))
    obtain ⟨m, rest, F, Nw, back⟩ := x1.fn0
    refine slice_tuple_from (a := 1) (s := { s with toks := _ }) F Nw (x1.tup it) (Nat.le_refl _) (by rw [List.size_toArray]; exact ha) (fun h' F' N' => ?_) (hs _) ht (by rw [List.size_toArray, sizeLine_eq]; omega)
    obtain ⟨k2, f2⟩ := back h' F' fun q hq => N' q (.tail _ hq)
    have e0 : s.heap.get? (s.heap.objs.size + 1) = none := by
      cases q : s.heap.get? (s.heap.objs.size + 1) with
      | none => rfl
      | some o => exact absurd (Heap.lt_size q) (Nat.not_lt.mpr (Nat.le_succ _))
    exact p _ h' s.drawn _ (k2.mono fun a q => by rw [List.mem_singleton.mp q]; exact .head _) f2 (hp _ h' (x1.up (X := []) k2) (x1.new e0) ⟨_, (N' _ (.head _)).1⟩))
/-! a list's own methods -/
theorem Op.upd {t : Sem Value} {d : Addr} {us us' : List Value} {f : Array Value → Array Value} {u : Value} (hl : ListAt g d us) (hm : d ∈ X) (hf : f us.toArray = us'.toArray)
    (rule : ∀ (s : Shared) (k : Nat) (Q : Value → Shared → Prop) (E : Value → Shared → Prop), St c g l s.heap → s.heap.get? d = some (PySem.W.listOf us.toArray k) → Q u { s with heap := s.heap.update d (Obj.mapSeq f) } → wpAny (model PR c.W.w) c.A t Q E s) (hp : ∀ h', Up c [d] g h' → ListAt h' d us' → P u h') : Op c X g l t P := fun s Q E ok x1 p => by
  obtain ⟨k, e⟩ := hl
  have e1 := x1.get (ok d hm).2 e
  refine rule s k Q E x1 e1 ?_
  have e2 := PySem.IsL.update e1 f
  have kp : Kp [d] s.heap (s.heap.update d (Obj.mapSeq f)) := Kp.of_but (Heap.SameBut.update ..) e1 list_noT
  have k2 : Kp (c.L :: X) s.heap (s.heap.update d (Obj.mapSeq f)) := kp.mono fun a q => by rw [List.mem_singleton.mp q]; exact .tail _ hm
  exact p u _ s.drawn s.toks k2 (x1.2.2.next ok (kp.mono fun a q => by rw [List.mem_singleton.mp q]; exact hm)) (hp _ (x1.up (kp.mono fun a q => .tail _ q)) ⟨_, by rw [← hf]; exact e2⟩)
theorem Op.append {d : Addr} {us : List Value} {y : Value} (hl : ListAt g d us) (hm : d ∈ X) (hz : us.length ≤ 16000) (hp : ∀ h', Up c [d] g h' → ListAt h' d (us ++ [y]) → P .none h') : Op c X g l (call (.builtin "list.append") [.ref d, y]) P :=
  .upd (f := (·.push y)) hl hm (by simp) (fun s k Q E _ e q => by
    refine wpAny_call_entry slot_list_append ⟨_, e, rfl⟩ entry_list_append ?_ (args_list_append _ _)
    show wpAny _ _ (updateSeq d (·.push y) >>= fun _ => ret .none) _ _ s
    have hsz : us.toArray.size ≤ sizeLine := by rw [List.size_toArray, sizeLine_eq]; omega
    exact wpAny_bind (wpAny_updateSeq e rfl (wpAny_pure ⟨.none, rfl, q⟩))) hp
theorem ext_ok {us ks : List Value} (hz : us.length + ks.length ≤ 16000) : us.toArray.size ≤ sizeLine ∧ us.toArray.size + ks.toArray.size ≤ sizeLine ∧ ¬(!us.toArray.isEmpty && Builtin.List.listTooLong (us.toArray.size + ks.toArray.size)) = true := by
  have h2 : us.toArray.size + ks.toArray.size ≤ sizeLine := by rw [List.size_toArray, List.size_toArray, sizeLine_eq]; omega
  refine ⟨by rw [List.size_toArray, sizeLine_eq]; omega, h2, ?_⟩
  have : Builtin.List.listTooLong (us.toArray.size + ks.toArray.size) = false := by unfold Builtin.List.listTooLong; exact decide_eq_false (by omega)
  rw [this, Bool.and_false]; exact Bool.false_ne_true
theorem Op.extT {d b : Addr} {us ks : List Value} (hl : ListAt g d us) (hb : ExTup g b ks) (hm : d ∈ X) (hz : us.length + ks.length ≤ 16000) (hp : ∀ h', Up c [d] g h' → ListAt h' d (us ++ ks) → P .none h') : Op c X g l (call (.builtin "list.extend") [.ref d, .ref b]) P :=
  .upd (f := fun x => x ++ ks.toArray) hl hm (by simp) (fun s k Q E x1 e q => by
    obtain ⟨k2, e2⟩ := hb.sub x1.1.sub
    obtain ⟨h1, h2, h3⟩ := ext_ok hz
    exact call_meets PySem.F.slot_list_extend ⟨_, e, rfl⟩ PySem.F.entry_list_extend (PySem.F.args_list_extend_2 _ _) (PySem.AutoSeq1.list_extend_list_tuple_0 d us.toArray k b ks.toArray k2 h3 h1 (Nat.le_succ_of_le h2)) ⟨e, e2, q⟩) hp
theorem Op.extL {d b : Addr} {us ks : List Value} (hl : ListAt g d us) (hb : ListAt g b ks) (hbn : b ∉ c.all) (hm : d ∈ X) (hz : us.length + ks.length ≤ 16000) (hp : ∀ h', Up c [d] g h' → ListAt h' d (us ++ ks) → P .none h') : Op c X g l (call (.builtin "list.extend") [.ref d, .ref b]) P :=
  .upd (f := fun x => x ++ ks.toArray) hl hm (by simp) (fun s k Q E x1 e q => by
    obtain ⟨k2, e2⟩ := hb
    obtain ⟨h1, h2, h3⟩ := ext_ok hz
    exact call_meets PySem.F.slot_list_extend ⟨_, e, rfl⟩ PySem.F.entry_list_extend (PySem.F.args_list_extend_2 _ _) (PySem.AutoSeq1.list_extend_list_list_0 d us.toArray k b ks.toArray k2 h3 h1 (Nat.le_succ_of_le h2)) ⟨e, x1.get hbn e2, q⟩) hp
theorem Op.reverse {d : Addr} {us : List Value} (hl : ListAt g d us) (hm : d ∈ X) (hz : us.length ≤ 16000) (hp : ∀ h', Up c [d] g h' → ListAt h' d us.reverse → P .none h') : Op c X g l (call (.builtin "list.reverse") [.ref d]) P :=
  .upd (f := (·.reverse)) hl hm (by simp) (fun s k Q E _ e q => call_meets PySem.F.slot_list_reverse ⟨_, e, rfl⟩ PySem.F.entry_list_reverse (PySem.F.args_list_reverse_1 _) (PySem.AutoSeq1.list_reverse_list_0 d us.toArray k (by rw [List.size_toArray, sizeLine_eq]; omega)) ⟨e, q⟩) hp
theorem Op.pop {d : Addr} {us : List Value} {y : Value} (hl : ListAt g d (us ++ [y])) (hm : d ∈ X) (hz : us.length ≤ 16000) (hp : ∀ h', Up c [d] g h' → ListAt h' d us → P y h') : Op c X g l (call (.builtin "list.pop") [.ref d]) P := by
  have hk : (us ++ [y]).toArray.size - 1 = us.length := by rw [List.size_toArray, List.length_append]; rfl
  refine .upd (f := fun x => x.eraseIdxIfInBounds ((us ++ [y]).toArray.size - 1)) hl hm (by rw [hk, kl_erase, List.append_nil]) (fun s k Q E _ e q => ?_) hp
  have hz' : (us ++ [y]).toArray.size ≤ sizeLine := by rw [List.size_toArray, List.length_append, List.length_singleton, sizeLine_eq]; omega
  have hy : (us ++ [y]).toArray[(us ++ [y]).toArray.size - 1]? = some y := by rw [hk]; simp
  exact call_meets PySem.F.slot_list_pop ⟨_, e, rfl⟩ PySem.F.entry_list_pop (PySem.F.args_list_pop_1 _) (PySem.MeetsSeq.list_pop_last d _ k y hy hz') ⟨e, q⟩
/-- d.name(args) of a list -/
theorem meth_head {pl : Sem Bool} {o : Expr} {name : Str} {id : String} {args : List Expr} {p1 p2 : Pos} {d : Addr} {us : List Value} {s : Shared} {Q E : Value → Shared → Prop} (x : Ev0 c g l o (.v (.ref d))) (x1 : St c g l s.heap) (hl : ListAt g d us) (hd : d ∉ c.all) (slot : Slot "list" name id) (hty : typeOf (.builtin id) = pure (.type "method_descriptor")) (hs : noStar args = true)
    (he : eval (.Call (.Attribute o name p1) args [] p2) c.env = (do
      let ov ← eval o c.env
      standAt p1.atName
      let (f, first) ← holding [ov] (getMethod ov name pl)
      callWith p2 f first (backTo p2 (starEach args c.env)) (backToKw p2 (keywordEach [] c.env))))
    (h : ∀ tk, wpAny (model PR c.W.w) c.A (evalArgs (.builtin id) true (backTo p2 (starEach args c.env)) []) (fun a s₁ => wpAny (model PR c.W.w) c.A (call (.builtin id) (.ref d :: a.pos) a.kw) Q E s₁) E { s with toks := tk }) : wpAny (model PR c.W.w) c.A (eval (.Call (.Attribute o name p1) args [] p2) c.env) Q E s :=
  methodCall_KW (pl := pl) (x s _ E x1 fun v tk zz => by
    obtain rfl : v = .ref d := zz
    have e := x1.get hd hl.choose_spec
    exact getMethod_builtin ⟨_, e, rfl⟩ PySem.F.plainAttrs_list slot hty (fun a q => by cases q; exact ⟨_, e, rfl⟩) (callWith_builtin_kwB (star_plain hs) rfl (h tk))) he
theorem Ev.methL {pl : Sem Bool} {o e : Expr} {name : Str} {id : String} {es : List Expr} {p1 p2 : Pos} {d : Addr} {us : List Value} {P' : List Value → Heap → Prop} (x : Ev0 c g l o (.v (.ref d))) (hl : ListAt g d us) (hd : d ∉ c.all) (slot : Slot "list" name id) (hty : typeOf (.builtin id) = pure (.type "method_descriptor"))
    (y : EvL c [] g l (e :: es) P') (z : ∀ vs g', Up c [] g g' → P' vs g' → Op c X g' l (call (.builtin id) (.ref d :: vs)) P) (hs : noStar (e :: es) = true := by rfl)
    (he : eval (.Call (.Attribute o name p1) (e :: es) [] p2) c.env = (do
      let ov ← eval o c.env
      standAt p1.atName
      let (f, first) ← holding [ov] (getMethod ov name pl)
      callWith p2 f first (backTo p2 (starEach (e :: es) c.env)) (backToKw p2 (keywordEach [] c.env))) := by rfl) : Ev c X g l (.Call (.Attribute o name p1) (e :: es) [] p2) P := .mk fun s Q E ok x1 p =>
  meth_head x x1 hl hd slot hty hs he fun tk => by
    have y1 := y.run p2 { s with toks := tk } (fun vs s₁ => wpAny (model PR c.W.w) c.A (call (.builtin id) (.ref d :: vs) []) Q E s₁) E okX.nil x1 fun vs h' d' tk' k f zz =>
      z vs h' (x1.up (X := []) k) zz { s with heap := h', drawn := d', toks := tk' } Q E ok (x1.next okX.nil k f) (p.then (k.mono fun a q => by rw [List.mem_singleton.mp q]; exact .head _))
    obtain ⟨a, b⟩ := starEach_cons (env := c.env) hs
    rw [a] at y1 ⊢
    exact evalArgs_plain y1
theorem Ev.methL0 {pl : Sem Bool} {o : Expr} {name : Str} {id : String} {p1 p2 : Pos} {d : Addr} {us : List Value} (x : Ev0 c g l o (.v (.ref d))) (hl : ListAt g d us) (hd : d ∉ c.all) (slot : Slot "list" name id) (hty : typeOf (.builtin id) = pure (.type "method_descriptor"))
    (z : Op c X g l (call (.builtin id) [.ref d]) P)
    (he : eval (.Call (.Attribute o name p1) [] [] p2) c.env = (do
      let ov ← eval o c.env
      standAt p1.atName
      let (f, first) ← holding [ov] (getMethod ov name pl)
      callWith p2 f first (backTo p2 (starEach [] c.env)) (backToKw p2 (keywordEach [] c.env))) := by rfl) : Ev c X g l (.Call (.Attribute o name p1) [] [] p2) P := .mk fun s Q E ok x1 p =>
  meth_head x x1 hl hd slot hty rfl he fun tk => evalArgs_nil3 (z { s with toks := tk } Q E ok x1 p)
end
end
section
open PySem PySem.W PyProof.Rows PySem.Calls
theorem G_is_variable : IsG "is_variable" (.ref 102) := ⟨fun w => by k_is, fun w => by k_is⟩
theorem op_short (t : T) : t.op.length ≤ 100 := by cases t <;> exact Nat.le_of_ble_eq_true (by rfl)
theorem isVar_is (t : T) : (((1 + t.kids.length : Nat) : Int) == 1 && Txt.slice t.op none (some 1) == ("?" : Str)) = t.isVar := by
  cases t <;> (simp only [T.kids, T.op, T.isVar, List.length_nil, List.length_cons]; decide +kernel)
theorem is_variable_f {W : Wd} {h : Heap} {v : Value} {t : T} (ht : TermAt h v t) : Fn W 2 [] h (.ref 102) [v] fun x _ => x = .bool t.isVar := by
  obtain ⟨a, tk, vs, rfl, it, hk⟩ := ht.view
  refine' .enter [("t", .ref a)] ?ho ?hcd ?hbind ?hkind ?hnd ?_
  walk_at "K side"
  intro c _ _ _
  have e := isVar_is t
  have hl : (Value.str t.op tk :: vs).length = 1 + t.kids.length := by rw [List.length_cons, hk.length, Nat.add_comm]
  have hz := t.kids_le
  rw [← hl] at e
  refine .ret (.and (P' := fun β _ => β = (((Value.str t.op tk :: vs).length : Int) == 1)) (.ofV (.cmp (.lenT B_len .var it (by omega)) .int Cm.eqI rfl) fun _ _ => ⟨_, rfl, rfl⟩) (fun g' up q => ?_) fun g' up q => ?_)
  · rw [← q, Bool.true_and] at e
    refine .cmp (.cut (P := fun v _ => (At.s (Txt.slice t.op none (some 1))).is v) (.item .var (up.sub.tup it) ⟨_, rfl, ⟨_, rfl⟩⟩) (fun v h' _ z => z) (op_short t)) (fun u g₂ u2 z => .of .str fun v g₃ u3 z2 => ?_) rfl
    exact .cm (fun h x => Cm.eqS h u v x z z2) fun h' u4 => congrArg _ e
  · rw [← q, Bool.false_and] at e
    exact congrArg _ e
end
section
open PySem PySem.W PyProof.Rows PySem.Calls
section
variable {D : List (Str × NameKind)} {n : Nat} {c : Cx D n} {X X' : List Addr} {g h h' : Heap} {l : List (Str × Value)} {P : Value → Heap → Prop} {N : Heap → List (Str × Value) → Prop}
theorem get_snoc {α : Type} {ys : List α} {y z : α} {j : Nat} (e : (ys ++ [y])[j]? = some z) : ys[j]? = some z ∨ (j = ys.length ∧ z = y) := by
  rw [List.getElem?_append] at e
  split at e
  · exact .inl e
  · rename_i h
    rw [List.getElem?_singleton] at e
    split at e
    · exact .inr ⟨by omega, (Option.some.inj e).symm⟩
    · cases e
noncomputable abbrev Each (S : Nat → Value → Heap → Prop) (i : Nat) (ys : List Value) (h : Heap) : Prop := ys.length = i ∧ ∀ j y, ys[j]? = some y → S j y h
theorem each_ok {S : Nat → Value → Heap → Prop} (hS : ∀ i y h h', S i y h → TupSub h h' → S i y h') : JOk [] (Each S) := ⟨fun _ _ _ _ ⟨a, b⟩ ts _ => ⟨a, fun j y e => hS _ _ _ _ (b j y e) ts⟩, fun _ _ _ x => Nat.le_of_eq x.1⟩
theorem Each.snoc {S : Nat → Value → Heap → Prop} (hS : ∀ i y h h', S i y h → TupSub h h' → S i y h') {i : Nat} {ys : List Value} {y : Value} (x : Each S i ys h) (k : TupSub h h') (z : S i y h') : Each S (i + 1) (ys ++ [y]) h' :=
  ⟨by simp [x.1], fun j u e => (get_snoc e).elim (fun e => hS _ _ _ _ (x.2 j u e) k) fun ⟨e1, e2⟩ => by rw [e1, e2, x.1]; exact z⟩
noncomputable abbrev TurnM (c : Cx D n) (l : List (Str × Value)) (ns : List (Str × NameKind)) (more : List (Str × Const)) (elt target : Expr) (m : Nat) (Pv : Nat → Value → Heap → Prop) (S : Nat → Value → Heap → Prop) (g' : Heap) : Prop :=
  ∀ C cl (k : Inner c ns C cl) i v h, i < m → Pv i v h → g'.StaysIn h → (∀ a o, g'.get? a = some o → a ∉ c.all → a ∉ (c.inner k more).all) →
    ∃ l', As (c.inner k more) [C] h (outer D ns l) target v l' ∧ Ev (c.inner k more) [] h l' elt (S i)
theorem TurnM.all {ns : List (Str × NameKind)} {more : List (Str × Const)} {elt target : Expr} {m : Nat} {Pv : Nat → Value → Heap → Prop} {S : Nat → Value → Heap → Prop} {g' : Heap} (hS : ∀ i y h h', S i y h → TupSub h h' → S i y h') (t : TurnM c l ns more elt target m Pv S g') : TurnK c [] l ns more elt target [] m Pv (Each S) g' :=
  fun C cl k i ys v h hi hp j up old ok => by
    obtain ⟨l', as, ev⟩ := t C cl k i v h hi hp up.stays old
    exact ⟨l', as, .nil fun h₅ u5 => ⟨fun _ => .mk fun s Q E ok x1 p => ev.run s Q E ok ⟨(u5.trans (x1.1.mono fun _ q => List.mem_append_left _ q)).mono fun a q => by rw [List.append_nil] at q; exact q, x1.2⟩ fun y h₆ d₆ tk₆ k₆ f₆ z => p y h₆ d₆ tk₆ k₆ f₆ (j.snoc hS (u5.sub.trans (x1.1.sub.trans k₆.sub)) z), fun e => nomatch e⟩⟩
/-- [elt for target in iter] -/
theorem Ev.map {ns : List (Str × NameKind)} {more : List (Str × Const)} {elt target iter : Expr} {pos : Pos} {R : Nat → (Nat → Value → Heap → Prop) → Heap → Prop} (src : Src c [] g l iter target R)
    (h : ∀ m Pv g', Up c [] g g' → R m Pv g' → m ≤ 16384 ∧ ∃ S : Nat → Value → Heap → Prop, (∀ i y h h', S i y h → TupSub h h' → S i y h') ∧ TurnM c l ns more elt target m Pv S g' ∧ ∀ d ys h', New c g' d → Up c [] g' h' → ListAt h' d ys → Each S m ys h' → P (.ref d) h')
    (hs : ∀ x, foldedSetIterable iter c.env x = pure x := by intro _; rfl) (hn : okNs D ns = true := by rfl) : Ev c X g l (.ListComp elt [⟨target, iter, [], 0⟩] ⟨.function, ns, false, false, more⟩ pos) P :=
  .mono0 (.comp src (fun m Pv g' u r => by
    obtain ⟨hm, S, hS, t, fin⟩ := h m Pv g' u r
    exact ⟨hm, (fun _ q => nomatch q), Each S, each_ok hS, ⟨rfl, (fun j y e => nomatch e)⟩, t.all hS, fun D' ys k h' nw u e z => fin D' ys h' nw u ⟨k, e⟩ z⟩) hs hn)
theorem Ex.map {ns : List (Str × NameKind)} {more : List (Str × Const)} {elt target iter : Expr} {pos py spos : Pos} {y : Str} {ss : List Stmt} {R : Nat → (Nat → Value → Heap → Prop) → Heap → Prop} (src : Src c [] g l iter target R)
    (h : ∀ m Pv g', Up c [] g g' → R m Pv g' → m ≤ 16384 ∧ ∃ S : Nat → Value → Heap → Prop, (∀ i y h h', S i y h → TupSub h h' → S i y h') ∧ TurnM c l ns more elt target m Pv S g' ∧ ∀ d ys h', New c g' d → Up c [] g' h' → ListAt h' d ys → Each S m ys h' → Ex c h' ((y, .ref d) :: l) ss P N)
    (hs : ∀ x, foldedSetIterable iter c.env x = pure x := by intro _; rfl) (hn : okNs D ns = true := by rfl) (hy : D.lookup y = some .local := by rfl) (hsw : swapsWith (.ListComp elt [⟨target, iter, [], 0⟩] ⟨.function, ns, false, false, more⟩ pos) (some (.Name y py)) spos.line c.env = pure true := by rfl) :
    Ex c g l (.Assign [.Name y py] (.ListComp elt [⟨target, iter, [], 0⟩] ⟨.function, ns, false, false, more⟩ pos) spos :: ss) P N :=
  .comp src (fun m Pv g' u r => by
    obtain ⟨hm, S, hS, t, fin⟩ := h m Pv g' u r
    exact ⟨hm, (fun _ q => nomatch q), Each S, each_ok hS, ⟨rfl, (fun j y e => nomatch e)⟩, t.all hS, fun D' ys k h' nw u e z => fin D' ys h' nw u ⟨k, e⟩ z⟩) okX.nil hs hn hy hsw
/-- with a test -/
noncomputable abbrev Some (S : Nat → Option Value → Heap → Prop) (i : Nat) (ys : List Value) (h : Heap) : Prop := ∃ zs : List (Option Value), zs.length = i ∧ ys = zs.filterMap id ∧ ∀ j z, zs[j]? = some z → S j z h
theorem some_ok {S : Nat → Option Value → Heap → Prop} (hS : ∀ i y h h', S i y h → TupSub h h' → S i y h') : JOk [] (Some S) := ⟨fun _ _ _ _ ⟨zs, a, e, b⟩ ts _ => ⟨zs, a, e, fun j y e => hS _ _ _ _ (b j y e) ts⟩, fun _ _ _ ⟨zs, a, e, _⟩ => by
  rw [e, ← a]; exact List.length_filterMap_le _ _⟩
theorem Some.snoc {S : Nat → Option Value → Heap → Prop} (hS : ∀ i y h h', S i y h → TupSub h h' → S i y h') {i : Nat} {ys : List Value} {y : Option Value} (x : Some S i ys h) (k : TupSub h h') (z : S i y h') : Some S (i + 1) (ys ++ y.toList) h' :=
  let ⟨zs, a, e, b⟩ := x
  ⟨zs ++ [y], by simp [a], by rw [e, List.filterMap_append]; cases y <;> rfl, fun j u e => (get_snoc e).elim (fun e => hS _ _ _ _ (b j u e) k) fun ⟨e1, e2⟩ => by rw [e1, e2, a]; exact z⟩
theorem Ev.filter {ns : List (Str × NameKind)} {more : List (Str × Const)} {elt target iter test : Expr} {pos : Pos} {R : Nat → (Nat → Value → Heap → Prop) → Heap → Prop} (src : Src c [] g l iter target R)
    (h : ∀ m Pv g', Up c [] g g' → R m Pv g' → m ≤ 16384 ∧ ∃ S : Nat → Option Value → Heap → Prop, (∀ i y h h', S i y h → TupSub h h' → S i y h') ∧
      (∀ C cl (k : Inner c ns C cl) i v h, i < m → Pv i v h → g'.StaysIn h → (∀ a o, g'.get? a = some o → a ∉ c.all → a ∉ (c.inner k more).all) →
        ∃ l', As (c.inner k more) [C] h (outer D ns l) target v l' ∧ Tr (c.inner k more) [] h l' test fun β h₅ => (β = true → Ev (c.inner k more) [] h₅ l' elt fun y h₆ => S i (some y) h₆) ∧ (β = false → S i none h₅)) ∧
      ∀ d ys h', New c g' d → Up c [] g' h' → ListAt h' d ys → Some S m ys h' → P (.ref d) h')
    (hs : ∀ x, foldedSetIterable iter c.env x = pure x := by intro _; rfl) (hn : okNs D ns = true := by rfl) : Ev c X g l (.ListComp elt [⟨target, iter, [test], 0⟩] ⟨.function, ns, false, false, more⟩ pos) P :=
  .mono0 (.comp src (fun m Pv g' u r => by
    obtain ⟨hm, S, hS, t, fin⟩ := h m Pv g' u r
    refine ⟨hm, (fun _ q => nomatch q), Some S, some_ok hS, ⟨[], rfl, rfl, (fun j y e => nomatch e)⟩, fun C cl k i ys v h hi hp j up old ok => ?_, fun D' ys k h' nw u e z => fin D' ys h' nw u ⟨k, e⟩ z⟩
    obtain ⟨l', as, tr⟩ := t C cl k i v h hi hp up.stays old
    refine ⟨l', as, .one <| .mk fun s Q E ok x1 p => tr.run s Q E ok x1 fun β h₅ d₅ tk₅ k₅ f₅ z => p β h₅ d₅ tk₅ k₅ f₅ ⟨fun e => .mk fun s Q E ok x2 p => (z.1 e).run s Q E ok x2 fun y h₆ d₆ tk₆ k₆ f₆ zz => p y h₆ d₆ tk₆ k₆ f₆ (j.snoc hS (x1.1.sub.trans (k₅.sub.trans (x2.1.sub.trans k₆.sub))) zz), fun e => ?_⟩⟩
    have := j.snoc hS (x1.1.sub.trans k₅.sub) (z.2 e)
    simpa using this) hs hn)
/-- t + u of tuples -/
theorem Op.addT {t b : Addr} {vs ws : List Value} (ht : IsTup g t vs.toArray) (hb : IsTup g b ws.toArray) (hz : vs.length + ws.length ≤ 16000) (hp : ∀ r h', Up c [] g h' → IsTup h' r (vs ++ ws).toArray → P (.ref r) h') : Op c X g l (binaryOp .Add (.ref t) (.ref b)) P := fun s Q E ok x1 p => by
  obtain ⟨m, rest, F, Nw, back⟩ := x1.fn0
  refine add_tuples F Nw (x1.tup ht) (x1.tup hb) (fun e => ?_) (fun _ e => ?_) (fun _ _ h' F' N' => ?_) (by rw [sizeLine_eq]; omega)
  · exact p.at x1 (tk := s.toks) (hp b _ x1.up0 (by rw [e]; exact x1.tup hb))
  · exact p.at x1 (tk := s.toks) (hp t _ x1.up0 (by rw [e, List.append_nil]; exact x1.tup ht))
  · obtain ⟨k2, f2⟩ := back h' F' fun q hq => N' q (.tail _ hq)
    exact p _ h' s.drawn s.toks (k2.mono fun a q => by rw [List.mem_singleton.mp q]; exact .head _) f2 (hp _ h' (x1.up (X := []) k2) (News.isTup N' (.head _)))
theorem all2_of {α : Type} {R : Value → α → Prop} : ∀ {ys : List Value} {xs : List α}, ys.length = xs.length → (∀ (i : Nat) (y : Value), ys[i]? = some y → ∃ x, xs[i]? = some x ∧ R y x) → All2 R ys xs
  | [], [], _, _ => .nil
  | y :: ys, x :: xs, e, h => .cons (by obtain ⟨x', e, r⟩ := h 0 y rfl; cases e; exact r) (all2_of (Nat.succ.inj e) fun i y e => h (i + 1) y e)
  | [], _ :: _, e, _ => nomatch e
  | _ :: _, [], e, _ => nomatch e
theorem EvL.one {e : Expr} {P : List Value → Heap → Prop} (x : Ev c X g l e fun v h' => P [v] h') (he : noStar [e] = true := by rfl) : EvL c X g l [e] P := .mk fun pos s Q E ok x1 p =>
  args_cons (x.run s _ E ok x1 fun v h' d' tk' k f z => args_nil (p [v] h' d' tk' k f z)) (starEach_cons he).1
/-- the next item is plain: a name -/
theorem EvL.then {x : Str} {pos : Pos} {e : Expr} {u : Value} {P : List Value → Heap → Prop} (a : Ev c X g l e fun v h' => P [v, u] h') (hv : l.lookup x = some u := by rfl) (hk : okN D x = true := by rfl) (he : noStar [e, .Name x pos] = true := by rfl) : EvL c X g l [e, .Name x pos] P := .mk fun p0 s Q E ok x1 p =>
  args_cons (a.run s _ E ok x1 fun v h' d' tk' k f z => by
    have x2 := x1.next ok k f
    exact args_cons (Ev0.var hv hk _ _ E x2 fun w tk2 zz => by
      obtain rfl : w = u := zz
      exact args_nil (p [v, w] h' d' tk2 k f z)) rfl) (starEach_cons he).1
theorem Ev.unit {k : Nat} {pos : Pos} (hp : ∀ t h', Up c [] g h' → New c g t → ExTup h' t [] → P (.ref t) h') : Ev c X g l (.Tuple [] k pos) P := .tup .nil fun vs t h' u nw z i => by cases z; exact hp t h' u nw i
theorem tup_inj {t : Addr} {us vs : List Value} (x : IsTup h t us.toArray) (y : IsTup h t vs.toArray) : us = vs := by
  obtain ⟨o, e, _, n, d⟩ := x
  obtain ⟨o', e', _, n', d'⟩ := y
  rw [e] at e'; cases e'
  rw [d] at d'
  simpa using congrArg (fun x => match x with | Data.seq a _ => a.toList | _ => []) d'
theorem list_inj {t : Addr} {us vs : List Value} (x : h.IsList t us.toArray) (y : ListAt h t vs) : us = vs := by
  obtain ⟨o, e, _, n, d⟩ := x
  obtain ⟨n', e'⟩ := y
  rw [e] at e'; cases e'
  simpa using congrArg (fun x => match x with | Data.seq a _ => a.toList | _ => []) d.symm
end
end
section
open PySem PySem.W PyProof.Rows PySem.Calls
theorem G_parts : IsG "parts" (.ref 117) := ⟨fun w => by k_is, fun w => by k_is⟩
theorem B_enumerate : IsB "enumerate" (.type "enumerate") := ⟨fun w => by k_is, by boot_by_name, by decide⟩
theorem terms_all {h : Heap} {vs : List Value} {ts : List T} (x : TermsAt h vs ts) : All2 (TermAt h) vs ts := by
  induction x with
  | nil => exact .nil
  | cons y _ ih => exact .cons y ih
theorem kid_lt {t u : T} (h : u ∈ t.kids) : u.depth < t.depth ∧ u.size < t.size := by
  cases t with
  | f a => rw [List.mem_singleton.mp h]; exact ⟨Nat.lt_succ_self _, Nat.lt_succ_self _⟩
  | g a b =>
    rcases List.mem_cons.mp h with rfl | h
    · exact ⟨by simp only [T.depth]; omega, by simp only [T.size]; omega⟩
    · rw [List.mem_singleton.mp h]; exact ⟨by simp only [T.depth]; omega, by simp only [T.size]; omega⟩
  | _ => cases h
theorem parts_take (t : T) (hz : t.size ≤ 1000) (i : Nat) : (t :: (t.kids.take i).flatMap T.parts).length ≤ 1000 := by
  rw [← T.parts_len, T.parts_eq] at hz
  refine Nat.le_trans ?_ hz
  simp only [List.length_cons]
  have : ((t.kids.take i).flatMap T.parts).length ≤ (t.kids.flatMap T.parts).length := by
    conv => rhs; rw [← List.take_append_drop i t.kids, List.flatMap_append, List.length_append]
    exact Nat.le_add_right _ _
  omega
theorem parts_f {W : Wd} : ∀ n, n ≤ 1000 → ∀ t : T, t.depth ≤ n → ∀ {h : Heap} {v : Value}, TermAt h v t → t.size ≤ 1000 → Fn W (n + 1) [] h (.ref 117) [v] fun x h' => ∃ d ys, x = .ref d ∧ h.get? d = none ∧ ListAt h' d ys ∧ All2 (PartAt h' n) ys t.parts := by
  intro n
  induction n with
  | zero => intro _ t h; have := t.depth_pos; omega
  | succ n ih =>
  intro hn t hd h v ht hz
  obtain ⟨a, tk, ks, rfl, it, hk⟩ := ht.view
  have hb2 : ks.length ≤ 2 := hk.length ▸ t.kids_le
  refine' .enter [("t", .ref a)] ?ho ?hcd ?hbind ?hkind ?hnd ?_
  walk_at "K side"
  rintro c rfl _ _
  refine .assign (P' := fun v h' => ∃ d p, v = .ref d ∧ New c h d ∧ ListAt h' d [p] ∧ PartAt h' (n + 1) p t) (.listL (P' := fun vs h' => ∃ p, vs = [p] ∧ PartAt h' (n + 1) p t) (.one (.tupL (P' := fun vs h' => ∃ q, vs = [.ref q, .ref a] ∧ IsTup h' q (List.toArray [])) (.then (.unit fun q h' u _ i => ⟨q, rfl, i.tup⟩))
    (fun vs p g' h' u z u2 _ i => ?_) ?_)) (fun vs d g' h' u z u2 nw e => ?_) ?_) fun v g1 u1 z => ?_
  · obtain ⟨q, rfl, iq⟩ := z
    exact ⟨_, rfl, p, q, [], _, rfl, i.tup, u2.sub.tup iq, Nat.zero_le _, ht.sub (u.sub.trans u2.sub)⟩
  · rintro vs g' ⟨q, rfl, _⟩; exact Nat.le_of_ble_eq_true rfl
  · obtain ⟨p, rfl, z⟩ := z
    have nd : New c h d := ⟨nw.b, nw.f, by
      cases q : h.get? d with
      | none => rfl
      | some o => have := u.get (by rw [List.append_nil]; exact nw.f) q; rw [nw.g] at this; cases this⟩
    exact ⟨d, p, rfl, nd, ⟨0, e⟩, z.sub u2.sub (Nat.le_refl _)⟩
  · rintro vs g' ⟨q, rfl, _⟩; exact Nat.le_of_ble_eq_true rfl
  · obtain ⟨d, p, rfl, nd, hl, hp⟩ := z
    have hd1 : ∀ {g'}, Up c [] g1 g' → ListAt g' d [p] := fun u => hl.keep u (by rw [List.append_nil]; exact nd.f)
    refine .for (X := [d]) (.enum (P' := fun vs h' => ∃ D, vs = [.ref D] ∧ D ≠ d ∧ IsTup h' D ks.toArray ∧ ListAt h' d [p]) B_enumerate (.one (.tail .var (u1.sub.tup it) (Nat.le_add_left _ _) (by simp only [List.length_cons]; omega) fun D h' u nw i => ⟨D, rfl, nw.ne hl.choose_spec, i.tup, hd1 u⟩)) ?_) (fun m Pv g2 u2 r => ?_) nd.ok
    · rintro vs g' _ ⟨D, rfl, hne, iD, hl⟩
      exact ⟨fun x hx => by rw [List.mem_singleton.mp hx]; exact ⟨_, hl.choose_spec⟩, D, ks, rfl, fun q => hne (List.mem_singleton.mp q), iD⟩
    · obtain ⟨D, ys, ⟨D', eD, hne, iD, hl⟩, iD2, rfl, hPv⟩ := r
      cases eD
      obtain rfl := tup_inj iD2 iD
      refine ⟨fun x hx => by rw [List.mem_singleton.mp hx]; exact ⟨_, hl.choose_spec⟩, fun i l h => l.lookup ("found" : Str) = some (.ref d) ∧ ∃ ys, ListAt h d ys ∧ All2 (PartAt h (n + 1)) ys (t :: (t.kids.take i).flatMap T.parts), ?_, ?_, ?_, ?_⟩
      · rintro i l h h' ⟨hf, ys, hl, hp⟩ ts hx
        exact ⟨hf, ys, ⟨_, hx d (.head _) _ hl.choose_spec⟩, hp.imp fun _ _ x => x.sub ts (Nat.le_refl _)⟩
      · exact ⟨rfl, [p], hl, by rw [List.take_zero]; exact .one (hp.sub u2.sub (Nat.le_refl _))⟩
      · rintro i v l₁ h₁ hi hv ⟨hf, zs, hl, hzs⟩ up
        obtain ⟨T1, u, x, rfl, hx, hT⟩ := hPv i v h₁ hv
        have hT1 := iD2
        obtain ⟨r, hr, hxr⟩ := (terms_all hk).get hx
        have hmem : r ∈ t.kids := List.mem_of_getElem? hr
        have hkid := kid_lt hmem
        have hxr := hxr.sub (u1.sub.trans (u2.sub.trans up.sub))
        refine ⟨_, .tup (ns := ["k", "kid"]) hT, .expr (X := [d]) (P' := fun v h' => v = .none ∧ Up c [d] h₁ h' ∧ ∃ ys, ListAt h' d ys ∧ All2 (PartAt h' (n + 1)) ys (t :: (t.kids.take (i + 1)).flatMap T.parts)) (.methL (P' := fun vs h' => ∃ e us, vs = [.ref e] ∧ e ∉ c.all ∧ ListAt h' e us ∧ All2 (PartAt h' (n + 1)) us r.parts) (.var (hv := hf)) hl nd.f PySem.F.slot_list_extend PySem.F.type_list_extend
          (.one (.map (.list (P' := fun v h' => ∃ D us, v = .ref D ∧ ListAt h' D us ∧ All2 (PartAt h' n) us r.parts) (.callF G_parts (.cons .var .nil) fun vs g' nw u z => by rw [z.v1]; exact (ih (by omega) r (by omega) (hxr.sub u.sub) (by omega)).imp fun v h' k ⟨d, ys, e, _, r⟩ => ⟨d, ys, e, r⟩) fun v g' _ ⟨D, us, e, hl, r⟩ => ⟨(fun _ q => nomatch q), D, us, e, (fun q => nomatch q), hl.is⟩) fun m Pv g3 u3 ⟨D, us, ⟨D2, us2, e2, hl2, hus⟩, iD, em, ep⟩ => ?_)) fun vs g' u z => ?_) (fun v g' u z => ?_) nd.ok⟩
        · cases e2
          obtain rfl := list_inj iD hl2
          subst em ep
          have hlen : us.length ≤ 1000 := by rw [hus.length, T.parts_len]; omega
          refine ⟨by omega, fun i y h => ∃ q, r.parts[i]? = some q ∧ PartAt h (n + 1) y q, fun i y h h' ⟨q, e, p⟩ ts => ⟨q, e, p.sub ts (Nat.le_refl _)⟩, fun C cl kk j y h' hj hy st old => ?_, fun d' zs' h' nw u4 hl4 z => ⟨d', zs', rfl, nw.f, hl4, all2_of (z.1.trans hus.length) z.2⟩⟩
          obtain ⟨q, hq, p, pp, ll, w, rfl, i1, i2, hll, hw⟩ := hus.get hy
          have ts := TupSub.of st
          refine ⟨_, .tupL (ns := ["path", "part"]) (ts.tup i1), .tupL (P' := fun vs h => ∃ p, vs = [.ref p, w] ∧ IsTup h p (.int (i : Int) u :: ll).toArray) (.then (.bin (P' := fun v h => ∃ p, v = .ref p ∧ IsTup h p [.int (i : Int) u].toArray ∧ IsTup h pp ll.toArray) (.tup (.cons .var .nil) fun vs t h u z3 zz it => ⟨t, rfl, zz.v1 ▸ it.tup, u.sub.tup (ts.tup i2)⟩) fun v g' u z => ?_)) (fun vs p2 g' h'' u z u2 _ it => ?_) ?_⟩
          · obtain ⟨p2, rfl, ia, ib⟩ := z
            exact .ofV .var fun h'' u2 => .addT (u2.sub.tup ia) (u2.sub.tup ib) (by simp only [List.length_cons, List.length_nil]; omega) fun rr h3 u3 it => ⟨rr, rfl, it⟩
          · obtain ⟨p3, rfl, ic⟩ := z
            exact ⟨q, hq, p2, p3, _, w, rfl, it.tup, u2.sub.tup ic, by simp only [List.length_cons]; omega, hw.sub (ts.trans (u.sub.trans u2.sub))⟩
          · rintro vs g' ⟨q, rfl, _⟩; exact Nat.le_of_ble_eq_true rfl
        · obtain ⟨e, us, rfl, he, hl5, hus⟩ := z
          have hl6 : ListAt g' d zs := hl.keep u (by rw [List.append_nil]; exact nd.f)
          have h1 : zs.length ≤ 1000 := by rw [hzs.length]; exact parts_take t hz i
          have h2 : us.length ≤ 1000 := by rw [hus.length, T.parts_len]; omega
          refine .extL hl6 hl5 he (.head _) (by omega) fun h' u7 hl8 => ⟨rfl, (u.mono fun a q => by rw [List.append_nil] at q; exact List.mem_append_left _ q).trans u7, _, hl8, ?_⟩
          rw [List.take_add_one, hr, List.flatMap_append, Option.toList_some, List.flatMap_cons, List.flatMap_nil, List.append_nil, ← List.cons_append]
          exact (hzs.imp fun _ _ x => x.sub (u.sub.trans u7.sub) (Nat.le_refl _)).append (hus.imp fun _ _ x => x.sub u7.sub (Nat.le_refl _))
        · obtain ⟨rfl, u8, r8⟩ := z
          exact ⟨(fun t q => nomatch q), .nil ⟨u8, hf, r8⟩⟩
      · rintro l' h' ⟨hf, zs, hl, hzs⟩ up
        refine .ret (.ofV (.var (hv := hf)) fun h₂ u3 => ⟨d, zs, rfl, nd.g, hl.keep u3 (by rw [List.append_nil]; exact nd.f), ?_⟩)
        rw [T.parts_eq]
        rw [List.take_of_length_le (by rw [← hk.length]; exact Nat.le_refl _)] at hzs
        exact hzs.imp fun _ _ x => x.sub u3.sub (Nat.le_refl _)
end
section
open PySem PySem.W PyProof.Rows
section
open PySem PySem.W PyProof.Rows PySem.Calls
theorem laid_lp {mask finger moves : Nat} {led plain : Bool} {hs : Array Int} {t' : SetTable} {o : Array Nat} (h : SetTable.laid mask finger moves led plain hs = some (t', o)) : t'.led = led ∧ t'.plain = plain := by
  unfold SetTable.laid at h
  cases e : SetTable.layClean mask hs with
  | none => rw [e] at h; cases h
  | some ow => rw [e] at h; cases h; exact ⟨rfl, rfl⟩
theorem orStandIn_lp (t : SetTable) (n : Nat) : (t.orStandIn n).led = t.led := by
  unfold SetTable.orStandIn; split <;> rfl
theorem layNew_led (t : SetTable) (es : Array (Int × Value)) (h : Int) (x : Value) : (layNew t es h x).2.1.led = t.led := by
  unfold layNew
  split
  · exact orStandIn_lp ..
  · rfl
theorem relayAll_lp (t : SetTable) (es : Array (Int × Value)) (n : Nat) (hp : t.plain = false) : (relayAll t es n).2.1.led = t.led ∧ (relayAll t es n).2.1.plain = false := by
  unfold relayAll
  split
  · rename_i t' o e
    have := laid_lp e
    dsimp only
    split
    · exact ⟨this.1, this.2.trans hp⟩
    · exact ⟨rfl, rfl⟩
  · exact ⟨rfl, rfl⟩
section
variable {prog : Program} {w : World} {A : Around} {E : Value → Shared → Prop} {s : Shared}
/-- a set of strs, with what its walk must know of the table -/
noncomputable def SetX (prog : Program) (w : World) (h : Heap) (a : Addr) (S : Str → Bool) (n : Nat) (led : Bool) : Prop :=
  ∃ o es ep t, h.get? a = some o ∧ o.ExactSet ∧ o.data = .set es ep t ∧ ElemsOf (PySem.strKind prog w) es.toList ∧ (∀ k, S k = true ↔ ∃ e ∈ es.toList, (PySem.strKind prog w).is k e.2 = true)
    ∧ es.size < scanBound ∧ t.fits es.size = true ∧ es.size = n ∧ t.led = led ∧ (es.size ≠ 0 → t.plain = false)
theorem perm_size {α : Type} {x y : Array α} (p : x.toList.Perm y.toList) : x.size = y.size := by
  rw [← Array.length_toList, ← Array.length_toList]; exact p.length_eq
/-- what an add of a new str leaves of the entries and the table -/
structure Grown (t : SetTable) (es : Array (Int × Value)) (e : Int × Value) (es' : Array (Int × Value)) (t' : SetTable) : Prop where
  perm : es'.toList.Perm (es.push e).toList
  fits : t'.fits es'.size = true
  led : t'.led = t.led
  plain : t'.plain = false
theorem Grown.relaid {t t' : SetTable} {es es' : Array (Int × Value)} {e : Int × Value} (x : Grown t es e es' t') (n : Nat) : Grown t es e (relayAll t' es' n).1 (relayAll t' es' n).2.1 :=
  ⟨(relayAll_perm ..).trans x.perm, relayAll_fits .., (relayAll_lp _ _ _ x.plain).1.trans x.led, (relayAll_lp _ _ _ x.plain).2⟩
theorem still {α : Type} {m : Sem α} {f : α → Prop} {Q : α → Shared → Prop} (x : wpAny (model prog w) A m (fun a s₁ => s₁ = s ∧ f a) E s) (y : ∀ a, f a → Q a s) : wpAny (model prog w) A m Q E s :=
  wpAny_mono x (fun a _ z => z.1 ▸ y a z.2) fun _ _ z => z
/-- add: an old str leaves all; a new one leaves the grown set -/
theorem addS {a : Addr} {o : Obj} {es : Array (Int × Value)} {ep : Nat} {t : SetTable} {k : Str} {tk : Tok} {Q : Bool → Shared → Prop} (ho : s.heap.get? a = some o) (ex : o.ExactSet) (hd : o.data = .set es ep t)
    (el : ElemsOf (PySem.strKind prog w) es.toList) (ft : t.fits es.size = true) (room : es.size + 1 < scanBound)
    (old : ∀ e ∈ es.toList, (PySem.strKind prog w).is k e.2 = true → Q false s)
    (new : ∀ h' o' ep' es' t', (∀ e ∈ es.toList, (PySem.strKind prog w).is k e.2 = false) → Grown t es ((PySem.strKind prog w).hash k, .str k tk) es' t' → Heap.SameBut a s.heap h' → h'.get? a = some o' → o'.ExactSet → o'.data = .set es' ep' t' → Q true { s with heap := h' }) :
    wpAny (model prog w) A (setAddHashed a (.str k tk) ((PySem.strKind prog w).hash k)) Q E s := by
  have key : (PySem.strKind prog w).is k (.str k tk) = true := strKind_is ..
  -- a store
  have put : ∀ {s₁ : Shared} {o₁ : Obj} {es₁ es₂ : Array (Int × Value)} {e₁ : Nat} {t₁ t₂ : SetTable} {Q' : Unit → Shared → Prop} {E' : Value → Shared → Prop}, s₁.heap.get? a = some o₁ → o₁.ExactSet → o₁.data = .set es₁ e₁ t₁ → Grown t es ((PySem.strKind prog w).hash k, .str k tk) es₂ t₂ →
      (∀ h o₂ e₂, Heap.SameBut a s₁.heap h → h.get? a = some o₂ → o₂.ExactSet → o₂.data = .set es₂ e₂ t₂ → Q' () { s₁ with heap := h }) → wpAny (model prog w) A (storeSet a es₂ t₂) Q' E' s₁ := by
    intro s₁ o₁ es₁ es₂ e₁ t₁ t₂ Q' E' g x d gr q
    have z : es₂.size = es.size + 1 := by rw [perm_size gr.perm, Array.size_push]
    have lt : es₂.size < scanBound := z ▸ room
    have el2 : ElemsOf (PySem.strKind prog w) es₂.toList := ElemsOf.perm (by rw [Array.toList_push]; exact el.push key rfl) gr.perm
    exact wpAny_storeSet_of g d (q _ _ _ (Heap.SameBut.update ..) (SetOf_store (S' := fun k' => es₂.toList.any fun e => (PySem.strKind prog w).is k' e.2) g x d el2 (fun _ => List.any_eq_true) lt gr.fits).1 x rfl) (fits_of_scanBound lt)
  unfold setAddHashed setAddHashedIn setAddByScan
  refine wpAny_holding (wpAny_bind (wpAny_setState_of ho hd ft ?_))
  dsimp only
  rw [byScan_of (x := .str k tk) rfl (Nat.lt_of_succ_lt room) el, if_pos rfl]
  refine wpAny_bind (wpAny_bind (wpAny_rule (wpAny_bind (wpAny_setScan_of key ho hd ft el ?_))))
  cases f : es.toList.findIdx? fun e => (PySem.strKind prog w).is k e.2 with
  | some j =>
    obtain ⟨lt, h, _⟩ := List.findIdx?_eq_some_iff_getElem.mp f
    exact wpAny_pure (wpAny_pure (old _ (List.getElem_mem lt) h))
  | none =>
    have no := List.findIdx?_eq_none_iff.mp f
    have g0 : (layNew t es ((PySem.strKind prog w).hash k) (.str k tk)).1.toList.Perm _ := layNew_perm ..
    have g1 := layNew_fits t es ((PySem.strKind prog w).hash k) (.str k tk)
    have g2 := layNew_led t es ((PySem.strKind prog w).hash k) (.str k tk)
    dsimp only
    generalize layNew t es ((PySem.strKind prog w).hash k) (.str k tk) = r at g0 g1 g2 ⊢
    obtain ⟨es₁, t₁, dum, gave⟩ := r
    dsimp only at g0 g1 g2 ⊢
    refine wpAny_bind (still (f := fun _ => True) (by cases gave <;> first | exact wpAny_pure ⟨rfl, trivial⟩ | exact wpAny_rule ⟨rfl, trivial⟩) fun _ _ => ?_)
    split
    all_goals
      rename_i p
      first
      | have x : ∃ t₂, t₁ = t₂ ∧ Grown t es ((PySem.strKind prog w).hash k, .str k tk) es₁ t₂ := ⟨_, rfl, g0, g1, g2, eq_false_of_ne_true p⟩
      | have x : ∃ t₂, ({ t₁ with plain := false } : SetTable) = t₂ ∧ Grown t es ((PySem.strKind prog w).hash k, .str k tk) es₁ t₂ := ⟨_, rfl, g0, SetTable.fits_plain_off g1, g2, rfl⟩
      obtain ⟨t₂, e, gr⟩ := x
      refine wpAny_bind ?_
      try rw [hashByValue_scannable 8 rfl]
      refine wpAny_pure ?_
      show wpAny _ _ (storeSet a es₁ _ >>= _) _ _ s
      simp only [plainKind, Bool.false_eq_true, if_true, if_false, e]
      refine wpAny_bind (put ho ex hd gr fun h o₂ e₂ sb ho₂ ex₂ hd₂ => ?_)
      cases (!dum && t₂.tooFull) with
      | false => exact wpAny_pure (wpAny_pure (new h o₂ e₂ _ _ no gr sb ho₂ ex₂ hd₂))
      | true =>
        rw [if_pos rfl]
        have gr' := gr.relaid (SetTable.grown es₁.size)
        generalize relayAll t₂ es₁ (SetTable.grown es₁.size) = r at gr' ⊢
        refine wpAny_bind (wpAny_mono (Q := fun _ s₁ => s₁ = { s with heap := h }) ?_ (fun _ s₁ q => ?_) fun _ _ q => q)
        · obtain ⟨_, _, b⟩ := r
          cases b <;> first | exact wpAny_pure rfl | exact wpAny_rule rfl
        · subst q
          exact wpAny_bind (put ho₂ ex₂ hd₂ gr' fun h' o₃ e₃ sb' ho₃ ex₃ hd₃ => wpAny_pure (wpAny_pure (new h' o₃ e₃ _ _ no gr' (sb.trans sb') ho₃ ex₃ hd₃)))
theorem addX {a : Addr} {S : Str → Bool} {n : Nat} {led : Bool} {k : Str} {tk : Tok} {Q : Bool → Shared → Prop} (x : SetX prog w s.heap a S n led) (room : n + 1 < scanBound)
    (h : ∀ b h', Heap.SameBut a s.heap h' → SetX prog w h' a (fun k' => S k' || decide (k' = k)) (if S k then n else n + 1) led → Q b { s with heap := h' }) :
    wpAny (model prog w) A (setAddHashed a (.str k tk) ((PySem.strKind prog w).hash k)) Q E s := by
  obtain ⟨o, es, ep, t, ho, ex, hd, el, mem, lt, ft, rfl, ld, pl⟩ := x
  refine addS ho ex hd el ft room (fun e he q => ?_) fun h' o' ep' es' t' no gr sb ho' ex' hd' => h _ _ sb ?_
  · have y : S k = true := (mem k).mpr ⟨e, he, q⟩
    refine h false s.heap (.refl ..) ⟨o, es, ep, t, ho, ex, hd, el, fun k' => ?_, lt, ft, by rw [if_pos y], ld, pl⟩
    rw [← mem k', Bool.or_eq_true, decide_eq_true_iff]
    exact ⟨fun z => z.elim id fun z => z ▸ y, .inl⟩
  · have y : S k = false := by
      rw [← Bool.not_eq_true, mem k]
      rintro ⟨e, he, q⟩
      rw [no e he] at q; cases q
    have p := gr.perm
    rw [Array.toList_push] at p
    have z : es'.size = es.size + 1 := by rw [perm_size gr.perm, Array.size_push]
    exact ⟨o', es', ep', t', ho', ex', hd', ElemsOf.perm (el.push (strKind_is ..) rfl) p, mem_push_iff (strKind_is ..) mem p, z ▸ room, gr.fits, by rw [y, z]; rfl, gr.led.trans ld, fun _ => gr.plain⟩
theorem SetX.congr {h : Heap} {a : Addr} {S S' : Str → Bool} {n n' : Nat} {led : Bool} (x : SetX prog w h a S n led) (e : ∀ k, S k = S' k) (en : n = n') : SetX prog w h a S' n' led := by
  have : S = S' := funext e
  subst this en; exact x
theorem SetX.at' {h h' : Heap} {a : Addr} {S : Str → Bool} {n : Nat} {led : Bool} (x : SetX prog w h a S n led) (k : ∀ o, h.get? a = some o → h'.get? a = some o) : SetX prog w h' a S n led := by
  obtain ⟨o, es, ep, t, ho, r⟩ := x
  exact ⟨o, es, ep, t, k o ho, r⟩
/-- the set's loop over a list of strs: σ is met already -/
theorem feedS {R : Result → Shared → Prop} {S I l : Addr} {items : Array Value} {led : Bool} (hh : A.in1.handled = none) (nI : S ≠ I) (nl : S ≠ l) (lI : l ≠ I) {vs : List Value} {zs : List Str} (a : StrsAre vs zs) :
    ∀ (pre : List Value) (σ : List Str) (s : Shared), items.toList = pre ++ vs → s.heap.IsListIter I l pre.length → s.heap.IsList l items → SetX prog w s.heap S (fun k => decide (k ∈ σ)) σ.length led → σ.length + zs.length + 1 < scanBound →
      (∀ h' tk, (∀ b o, b ≠ S → b ≠ I → s.heap.get? b = some o → h'.get? b = some o) → SetX prog w h' S (fun k => decide (k ∈ zs.foldl stepS σ)) (zs.foldl stepS σ).length led → R (.ok (.ret .none)) { s with heap := h', toks := tk }) →
      codeAny (model prog w) A (.builtin "set.update.loop" ⟨[.ref S, .ref I], []⟩) R s := by
  have W := Walks.list (prog := prog) (w := w) hh I l lI items
  have start : ∀ {s : Shared}, wpAny (model prog w) A.in1 (pyNext (.ref I)) (fun r s₁ => match r with
      | none => R (.ok (.ret .none)) s₁
      | some x => wpAny (model prog w) A.in1 (setAdd S x) (fun _ s₂ => codeAny (model prog w) A (.builtin "set.update.loop" ⟨[.ref S, .ref I], []⟩) R s₂) (fun e s₂ => R (.error e) s₂) s₁) (fun e s₁ => R (.error e) s₁) s →
      codeAny (model prog w) A (.builtin "set.update.loop" ⟨[.ref S, .ref I], []⟩) R s := fun z => codeAny_builtin F.entry_set_update_loop (by
    rw [Around.under_plainId F.plain_set_update_loop]
    show wpAny _ _ (pyNext (.ref I) >>= _) _ _ _
    refine wpAny_bind (wpAny_mono z (fun r s₁ q => ?_) fun _ _ q => q)
    match r, q with
    | none, q => exact wpAny_pure q
    | some x, q => exact wpAny_bind (wpAny_holding (wpAny_mono q (fun _ _ q => wpAny_pure ⟨plainId_quiet F.plain_set_update_loop _, q⟩) fun _ _ q => q)))
  induction a with
  | nil =>
    intro pre σ s e hI hl x _ fin
    have z : pre.length = items.size := by rw [← Array.length_toList, e, List.append_nil]
    exact start (W.done _ _ _ ⟨z ▸ hI, hl⟩ fun h' tk k => fin h' tk (fun b o _ q => k b o (by simp [q])) (x.at' fun o => k S o (by simp [nI])))
  | @cons x t vs zs a ih =>
    intro pre σ s e hI hl X room fin
    have at_ : items[pre.length]? = some (.str x t) := by rw [← Array.getElem?_toList, e]; simp
    have lt : pre.length < items.size := (Array.getElem?_eq_some_iff.mp at_).1
    refine start (W.item _ _ _ _ lt ⟨hI, hl⟩ fun v h' tk hv st k => ?_)
    obtain rfl : _ = v := Option.some.inj (at_.symm.trans hv)
    have X' := X.at' (h' := h') fun o => k S o (by simp [nI])
    unfold setAdd
    refine wpAny_holding (wpAny_bind ((PySem.strKind prog w).pyHash (k := x) (strKind_is ..) (addX (n := σ.length) X' (by simp only [List.length_cons] at room; omega) fun _ h₂ sb X₂ => ?_)))
    have g : ∀ b o, b ≠ S → h'.get? b = some o → h₂.get? b = some o := fun b o nb e => (sb.2 b nb).trans e
    have len : (stepS σ x).length ≤ σ.length + 1 := by unfold stepS; split <;> simp
    refine ih (pre ++ [.str x t]) (stepS σ x) _ (by rw [e, List.append_assoc]; rfl) (by rw [List.length_append]; exact st.1.at fun o e => g I o (Ne.symm nI) e) (st.2.at fun o e => g l o (Ne.symm nl) e) (X₂.congr (fun k' => ?_) ?_)
      (by simp only [List.length_cons] at room; omega) fun h₃ tk₃ k₃ X₃ => fin h₃ tk₃ (fun b o bS bI e => k₃ b o bS bI (g b o bS (k b o (by simp [bI]) e))) X₃
    all_goals
      unfold stepS
      by_cases m : x ∈ σ
      · simp only [if_pos m, decide_eq_true m, if_true]
        try (by_cases q : k' = x <;> simp [q, m])
      · simp [m]
/-- a call of a type: its new and its init, each as a code -/
theorem makes {T newId initId : String} {args : List Value} {Q Q₁ : Value → Shared → Prop} (ft : TypeCalled T newId initId) (ok : checkTypeCall T ⟨args, []⟩ = pure ())
    (new : codeAny (model prog w) A.in1 (.call (.builtin newId) ⟨.type T :: args, []⟩) (wants Q₁ E) s)
    (init : ∀ obj s₁, Q₁ obj s₁ → s₁.TypeIs obj T ∧ codeAny (model prog w) A.in1 (.call (.builtin initId) ⟨obj :: args, []⟩) (wants (fun r s₂ => r = .none ∧ Q obj s₂) E) s₁) :
    wpAny (model prog w) A (call (.type T) args) Q E s := by
  obtain ⟨c, tl, m⟩ := ft.mro
  have e1 := ft.made
  have e2 := ft.sub
  have e3 := ft.notType
  have e4 := ft.canCreate
  refine wpAny_call (codeAny_of_tree ?_)
  show wpAny _ _ (callAny (.type T) ⟨args, []⟩) _ _ s
  refine wpAny_pure ⟨Code.quiet_builtin _ (by decide +kernel), codeAny_builtin F.entry_type_call ?_⟩
  rw [Around.under_plain (weight_type_call_type T args []) rfl]
  repeat (any_goals (first | assumption | wp_step))
  refine codeAny_mono new fun r s₁ q => ?_
  match r, q with
  | .error _, q => exact q
  | .ok (.ret obj), q =>
    obtain ⟨hT, i⟩ := init obj s₁ q
    have e5 := ft.init.lookup
    have e6 := ft.init.bind obj
    repeat (any_goals (first | assumption | wp_step))
    refine codeAny_mono i fun r s₂ q => ?_
    match r, q with
    | .error _, q => exact q
    | .ok (.ret _), ⟨rfl, q⟩ => repeat (any_goals (first | assumption | wp_step))
/-- the empty set as its makers lay it down -/
noncomputable def ledW (w : World) : Bool := !w.params.followText "set-order"
noncomputable abbrev setO (w : World) : Obj := { cls := .type "set", dict := none, data := .set #[] 0 (.fresh 0 0 (ledW w)) }
theorem newS (a : Value) {Q₁ : Value → Shared → Prop} (h : Q₁ (.ref s.heap.objs.size) { s with heap := s.heap.push (setO w) }) :
    codeAny (model prog w) A (.call (.builtin "set.__new__") ⟨[.type "set", a], []⟩) (wants Q₁ E) s := by
  have e1 := sub_set_self
  refine codeAny_call_builtin F.plain_set_new F.entry_set_new (wpAny_of_eq (F.newCall_set_1 a) ?_)
  obtain ⟨hp, g, d, tk, os⟩ := s
  unfold Builtin.«set.__new__» Builtin.Frozenset.newClass
  dsimp only
  wp_walk
  refine wpAny_askSetting (wpAny_pure ?_)
  simp only [newObj]
  exact wpAny_bind (wpAny_alloc (wpAny_pure (wpAny_pure h)))
/-- its init, from a list of strs -/
theorem initS {R : Result → Shared → Prop} {S l : Addr} {items : Array Value} {zs : List Str} (hh : A.handled = none) (hS : s.heap.get? S = some (setO w)) (hl : s.heap.IsList l items) (hi : StrsAre items.toList zs) (room : zs.length + 1 < scanBound)
    (fin : ∀ h' tk, (∀ b o, b ≠ S → s.heap.get? b = some o → h'.get? b = some o) → SetX prog w h' S (fun k => decide (k ∈ metS zs)) (metS zs).length (ledW w) → R (.ok (.ret .none)) { s with heap := h', toks := tk }) :
    codeAny (model prog w) A (.call (.builtin "set.__init__") ⟨[.ref S, .ref l], []⟩) R s := by
  refine codeAny_call_builtin F.called_set.init.plain F.entry_set_init (check_set_init_1 ⟨_, hS, rfl⟩ ?_)
  have IL := hl
  obtain ⟨⟨c, di, da, sl⟩, ho, hc, n, hd⟩ := hl
  dsimp only at hc hd
  subst hc hd
  have nl : S ≠ l := fun q => by subst q; exact absurd (Value.type.inj (congrArg Obj.cls (Option.some.inj (hS.symm.trans ho)))) (by decide)
  have e1 := F.sub_list_set
  have e2 := F.sub_list_frozenset
  have e3 : (Value.type "list" == Value.type "dict") = false := by decide
  unfold Builtin.«set.__init__» noKeywords Builtin.Frozenset.updateFrom
  generalize e4 : pyIter = PI
  wp_walk
  subst e4
  refine wpAny_pyIter_list IL (wpAny_bind (wpAny_runValue ?_))
  have lt := Heap.lt_size hS
  have lt' := Heap.lt_size ho
  refine feedS (prog := prog) (led := ledW w) (by simpa using hh) (Nat.ne_of_lt lt) nl (Nat.ne_of_lt lt') hi [] [] _ rfl ⟨_, Heap.get?_push_size _ rfl, rfl, rfl⟩ (IL.push _) ⟨_, #[], 0, _, Heap.get?_push_of_some _ hS, ⟨rfl, rfl, rfl⟩, rfl, fun e q => by simp at q, fun k => by simp, by unfold scanBound; decide, rfl, rfl, rfl, fun q => absurd rfl q⟩ (by simpa using room) fun h' tk k X => ?_
  exact wpAny_pure (wpAny_pure (fin h' tk (fun b o nb e => k b o nb (Nat.ne_of_lt (Heap.lt_size e)) (Heap.get?_push_of_some _ e)) X))
theorem call_set_strs {l : Addr} {items : Array Value} {xs : List Str} {Q : Value → Shared → Prop} (hh : A.handled = none) (hl : s.heap.IsList l items) (hi : StrsAre items.toList xs) (hb : xs.length + 1 < scanBound)
    (h : ∀ (h' : Heap) (tk : Nat), SetX prog w h' s.heap.objs.size (fun k' => decide (k' ∈ metS xs)) (metS xs).length (ledW w) → s.heap.StaysIn h' → Q (.ref s.heap.objs.size) { s with heap := h', toks := tk }) :
    wpAny (model prog w) A (call (.type "set") [.ref l]) Q E s := by
  refine makes F.called_set (F.typeCall_set_1 _) (newS (Q₁ := fun obj s₁ => obj = .ref s.heap.objs.size ∧ s₁ = { s with heap := s.heap.push (setO w) }) _ ⟨rfl, rfl⟩) ?_
  rintro obj s₁ ⟨rfl, rfl⟩
  have g : (s.heap.push (setO w)).get? s.heap.objs.size = some (setO w) := Heap.get?_push_size _ rfl
  exact ⟨⟨_, g, rfl⟩, initS (by simpa using hh) g (hl.push _) hi hb fun h' tk k X => ⟨rfl, h h' tk X fun a o e => k a o (Nat.ne_of_lt (Heap.lt_size e)) (Heap.get?_push_of_some _ e)⟩⟩
end
end
section
open PySem PySem.W PyProof.Rows PySem.Calls
theorem slot_set_next : Slot "set_iterator" "__next__" "set_iterator.__next__" :=
  .of (owner := "set_iterator") (n := "__next__") (by rw [typeLookup_type, builtinLookup_eq_fast]; kernel_rfl) (by decide +kernel) (by decide +kernel) (by decide +kernel)
    (by first | exact .inl (by decide +kernel) | exact .inr (by decide +kernel)) (by rw [isSubtype_type]; kernel_rfl)
theorem entry_set_next : entryFor table "set_iterator.__next__" = some Builtin.«set_iterator.__next__» := entryFor_of_tree (by kernel_rfl)
theorem args_set_next (a : Value) : argsOk "set_iterator.__next__" ⟨[a], []⟩ := by unfold argsOk; kernel_rfl
theorem entry_set_iter : entryFor table "set.__iter__" = some Builtin.«frozenset.__iter__» :=
  entryFor_alias (id' := "frozenset.__iter__") (by kernel_rfl) rfl (by decide +kernel) (by kernel_rfl)
theorem slot_set_it_iter : Slot "set_iterator" "__iter__" "set_iterator.__iter__" :=
  .of (owner := "set_iterator") (n := "__iter__") (by rw [typeLookup_type, builtinLookup_eq_fast]; kernel_rfl) (by decide +kernel) (by decide +kernel) (by decide +kernel)
    (by first | exact .inl (by decide +kernel) | exact .inr (by decide +kernel)) (by rw [isSubtype_type]; kernel_rfl)
theorem args_set_it_iter (a : Value) : argsOk "set_iterator.__iter__" ⟨[a], []⟩ := by unfold argsOk; kernel_rfl
noncomputable abbrev itO (first : Value) (i : Nat) (S : Addr) (n ep : Nat) : Obj := { cls := .type "set_iterator", dict := none, data := .fields #[first, rawInt i, .ref S, rawInt n, rawInt ep], slots := #[] }
section
variable {prog : Program} {w : World} {A : Around} {E : Value → Shared → Prop} {s : Shared} {I S : Addr} {i n ep : Nat} {o : Obj} {es : Array (Int × Value)} {t : SetTable}
theorem setEnt {Q : Array (Int × Value) → Shared → Prop} (ho : s.heap.get? S = some o) (hd : o.data = .set es ep t) (hf : t.fits es.size = true) (h : Q es s) : wpAny (model prog w) A (setEntries S) Q E s := by
  unfold setEntries
  exact wpAny_bind (wpAny_setState_of ho hd hf (wpAny_pure h))
theorem next_slot_item {slot nx : Nat} {x : Value} {Q : Option Value → Shared → Prop} (hit : s.heap.get? I = some (itO (rawInt slot) i S n ep)) (ho : s.heap.get? S = some o) (hd : o.data = .set es ep t) (hf : t.fits es.size = true) (hn : es.size = n)
    (hnx : ∀ {Q' : Option (Value × Nat) → Shared → Prop} {E' : Value → Shared → Prop} {A' : Around}, Q' (some (x, nx)) s → wpAny (model prog w) A' (setNext S slot i ep) Q' E' s)
    (hQ : ∀ h', h'.get? I = some (itO (rawInt nx) (i + 1) S n ep) → Heap.SameBut I s.heap h' → Q (some x) { s with heap := h' }) :
    wpAny (model prog w) A (pyNext (.ref I)) Q E s := by
  have hT : s.TypeIs (.ref I) "set_iterator" := ⟨_, hit, rfl⟩
  unfold pyNext
  refine wpAny_bind (wpAny_attempt (wpAny_callSpecial?_slot (name := Str.ofString "__next__") hT slot_set_next
    (wpAny_call_entry slot_set_next hT entry_set_next ?_ (args_set_next _))))
  show wpAny _ _ (fieldsOf (.ref I) >>= _) _ _ s
  refine wpAny_bind (wpAny_fieldsOf hit rfl ?_)
  show wpAny _ _ (setEntries S >>= _) _ _ s
  refine wpAny_bind (setEnt ho hd hf ?_)
  show wpAny _ _ (if ((es.size : Int) != (n : Int)) = true then _ else _) _ _ s
  rw [if_neg (by simp [hn])]
  show wpAny _ _ (setNext S slot i ep >>= _) _ _ s
  refine wpAny_bind (hnx ?_)
  show wpAny _ _ (setField (.ref I) 0 (rawInt nx) >>= _) _ _ s
  refine wpAny_bind (wpAny_setField_rec hit (by simp) fun h₁ hi₁ hs₁ => ?_)
  refine wpAny_bind (wpAny_setField_rec hi₁ (by simp) fun h₂ hi₂ hs₂ => ?_)
  refine wpAny_pure ⟨x, rfl, wpAny_pure (hQ h₂ ?_ (hs₁.trans hs₂))⟩
  rw [hi₂]
  simp [rawInt]
theorem next_slot_end {slot : Nat} {Q : Option Value → Shared → Prop} (hh : A.handled = none) (hit : s.heap.get? I = some (itO (rawInt slot) i S n ep)) (ho : s.heap.get? S = some o) (hd : o.data = .set es ep t) (hf : t.fits es.size = true) (hn : es.size = n)
    (hnx : ∀ {Q' : Option (Value × Nat) → Shared → Prop} {E' : Value → Shared → Prop} {A' : Around}, Q' none s → wpAny (model prog w) A' (setNext S slot i ep) Q' E' s)
    (hQ : ∀ h', Heap.ExtBut I s.heap h' → Q none { s with heap := h' }) :
    wpAny (model prog w) A (pyNext (.ref I)) Q E s := by
  have hT : s.TypeIs (.ref I) "set_iterator" := ⟨_, hit, rfl⟩
  unfold pyNext
  refine wpAny_bind (wpAny_attempt (wpAny_callSpecial?_slot (name := Str.ofString "__next__") hT slot_set_next
    (wpAny_call_entry slot_set_next hT entry_set_next ?_ (args_set_next _))))
  show wpAny _ _ (fieldsOf (.ref I) >>= _) _ _ s
  refine wpAny_bind (wpAny_fieldsOf hit rfl ?_)
  show wpAny _ _ (setEntries S >>= _) _ _ s
  refine wpAny_bind (setEnt ho hd hf ?_)
  show wpAny _ _ (if ((es.size : Int) != (n : Int)) = true then _ else _) _ _ s
  rw [if_neg (by simp [hn])]
  show wpAny _ _ (setNext S slot i ep >>= _) _ _ s
  refine wpAny_bind (hnx ?_)
  show wpAny _ _ (setField (.ref I) 2 .none >>= _) _ _ s
  refine wpAny_bind (wpAny_setField_rec hit (by simp) fun h₁ hi₁ hs₁ => ?_)
  exact ends hh fun h' e st o => wpAny_bind (wpAny_isInstance (T := "StopIteration") (b := true) o isSubtype_stop (wpAny_pure (hQ _ fun a o q g => st _ _ (hs₁.extBut a o q g))))
theorem next_drawn_item {P : Addr} {pl : List Nat} {p : Nat} {h0 : Int} {x : Value} {Q : Option Value → Shared → Prop} (hit : s.heap.get? I = some (itO (.ref P) i S n ep)) (ho : s.heap.get? S = some o) (hd : o.data = .set es ep t) (hf : t.fits es.size = true) (hn : es.size = n)
    (hP : IsTup s.heap P (pl.map fun k : Nat => rawInt k).toArray) (hp : pl[i]? = some p) (hx : es[p]? = some (h0, x))
    (hQ : ∀ h', h'.get? I = some (itO (.ref P) (i + 1) S n ep) → Heap.SameBut I s.heap h' → Q (some x) { s with heap := h' }) :
    wpAny (model prog w) A (pyNext (.ref I)) Q E s := by
  have hT : s.TypeIs (.ref I) "set_iterator" := ⟨_, hit, rfl⟩
  obtain ⟨oP, hoP, _, nP, hdP⟩ := id hP
  unfold pyNext
  refine wpAny_bind (wpAny_attempt (wpAny_callSpecial?_slot (name := Str.ofString "__next__") hT slot_set_next
    (wpAny_call_entry slot_set_next hT entry_set_next ?_ (args_set_next _))))
  show wpAny _ _ (fieldsOf (.ref I) >>= _) _ _ s
  refine wpAny_bind (wpAny_fieldsOf hit rfl ?_)
  show wpAny _ _ (setEntries S >>= _) _ _ s
  refine wpAny_bind (setEnt ho hd hf ?_)
  show wpAny _ _ (if ((es.size : Int) != (n : Int)) = true then _ else _) _ _ s
  rw [if_neg (by simp [hn])]
  show wpAny _ _ (seqItems? (.ref P) >>= _) _ _ s
  refine wpAny_bind (wpAny_seqItems hoP hdP ?_)
  have hg : (pl.map fun k : Nat => rawInt k).toArray[(Int.toNat (i : Int))]? = some (rawInt p) := by simp [hp]
  dsimp only
  rw [hg]
  show wpAny _ _ (setNextDrawn S p ep >>= _) _ _ s
  refine wpAny_bind ?_
  unfold setNextDrawn
  refine wpAny_bind (wpAny_setState_of ho hd hf ?_)
  dsimp only
  rw [if_neg (by simp)]
  simp only [hx]
  refine wpAny_pure ?_
  refine wpAny_bind (wpAny_setField_rec hit (by simp) fun h₁ hi₁ hs₁ => ?_)
  refine wpAny_pure ⟨x, rfl, wpAny_pure (hQ h₁ ?_ hs₁)⟩
  rw [hi₁]
  simp [rawInt]
theorem next_drawn_end {P : Addr} {pl : List Nat} {Q : Option Value → Shared → Prop} (hh : A.handled = none) (hit : s.heap.get? I = some (itO (.ref P) i S n ep)) (ho : s.heap.get? S = some o) (hd : o.data = .set es ep t) (hf : t.fits es.size = true) (hn : es.size = n)
    (hP : IsTup s.heap P (pl.map fun k : Nat => rawInt k).toArray) (hp : pl[i]? = none)
    (hQ : ∀ h', Heap.ExtBut I s.heap h' → Q none { s with heap := h' }) :
    wpAny (model prog w) A (pyNext (.ref I)) Q E s := by
  have hT : s.TypeIs (.ref I) "set_iterator" := ⟨_, hit, rfl⟩
  obtain ⟨oP, hoP, _, nP, hdP⟩ := id hP
  unfold pyNext
  refine wpAny_bind (wpAny_attempt (wpAny_callSpecial?_slot (name := Str.ofString "__next__") hT slot_set_next
    (wpAny_call_entry slot_set_next hT entry_set_next ?_ (args_set_next _))))
  show wpAny _ _ (fieldsOf (.ref I) >>= _) _ _ s
  refine wpAny_bind (wpAny_fieldsOf hit rfl ?_)
  show wpAny _ _ (setEntries S >>= _) _ _ s
  refine wpAny_bind (setEnt ho hd hf ?_)
  show wpAny _ _ (if ((es.size : Int) != (n : Int)) = true then _ else _) _ _ s
  rw [if_neg (by simp [hn])]
  show wpAny _ _ (seqItems? (.ref P) >>= _) _ _ s
  refine wpAny_bind (wpAny_seqItems hoP hdP ?_)
  have hg : (pl.map fun k : Nat => rawInt k).toArray[(Int.toNat (i : Int))]? = none := by simpa using hp
  dsimp only
  rw [hg]
  show wpAny _ _ (setField (.ref I) 0 (rawInt 0) >>= _) _ _ s
  refine wpAny_bind (wpAny_setField_rec hit (by simp) fun h₁ hi₁ hs₁ => ?_)
  refine wpAny_bind (wpAny_setField_rec hi₁ (by simp) fun h₂ hi₂ hs₂ => ?_)
  exact ends hh fun h' e st o => wpAny_bind (wpAny_isInstance (T := "StopIteration") (b := true) o isSubtype_stop (wpAny_pure (hQ _ fun a o q g => st _ _ ((hs₁.trans hs₂).extBut a o q g))))
end
end
section
open PySem PySem.W PyProof.Rows PySem.Calls
theorem tup_at {h h' : Heap} {P : Addr} {l : Array Value} (x : IsTup h P l) (k : ∀ o, h.get? P = some o → h'.get? P = some o) : IsTup h' P l :=
  let ⟨o, e, r⟩ := x; ⟨o, k _ e, r⟩
theorem erase_perm {α : Type} : ∀ {l : List α} {k : Nat} (h : k < l.length), (l[k] :: l.eraseIdx k).Perm l
  | x :: l, 0, _ => .refl _
  | x :: l, k + 1, h => by
    simp only [List.getElem_cons_succ, List.eraseIdx_cons_succ]
    exact (List.Perm.swap _ _ _).trans ((erase_perm (l := l) (k := k) (by simpa using h)).cons x)
theorem entry_set_it_iter : entryFor table "set_iterator.__iter__" = some Builtin.«dict_keyiterator.__iter__» :=
  entryFor_alias (id' := "dict_keyiterator.__iter__") (by kernel_rfl) rfl (by decide +kernel) (by kernel_rfl)
theorem pick_perm {α : Type} (next : Nat → Nat) : ∀ (fuel k : Nat) (left : List α) (out : Array α), fuel = left.length → (pickOrder.go next fuel k left out).toList.Perm (out.toList ++ left)
  | 0, k, left, out, h => by
    have : left = [] := List.length_eq_zero_iff.mp h.symm
    subst this
    unfold pickOrder.go
    simp
  | fuel + 1, k, left, out, h => by
    have hpos : 0 < left.length := by omega
    have hlt : next k % left.length < left.length := Nat.mod_lt _ hpos
    unfold pickOrder.go
    rw [List.getElem?_eq_getElem hlt]
    dsimp only
    refine (pick_perm next fuel (k + 1) _ _ (by rw [List.length_eraseIdx_of_lt hlt]; omega)).trans ?_
    rw [Array.toList_push, List.append_assoc]
    exact List.Perm.append_left _ (erase_perm hlt)
theorem pickOrder_perm {α : Type} (next : Nat → Nat) (xs : Array α) : (pickOrder next xs).toList.Perm xs.toList := by
  unfold pickOrder
  simpa using pick_perm next xs.size 0 xs.toList #[] (by simp)
section
variable {prog : Program} {w : World} {A : Around} {E : Value → Shared → Prop} {s : Shared} {I S : Addr} {i n ep : Nat} {o : Obj} {es : Array (Int × Value)} {t : SetTable}
theorem wpAny_choose {src : Source} {m : Nat} {Q : Nat → Shared → Prop} (hm : m ≠ 0) (h : ∀ k d, k < m → Q k { s with drawn := d }) : wpAny (model prog w) A (choose src m) Q E s := fun Γ p hΓ => by
  show Sem.wp (model prog w) Γ (.choose src m .pure) _ _ p s
  rw [Sem.wp]
  refine ⟨hm, ?_⟩
  rw [Sem.wp]
  exact h _ _ (Nat.mod_lt _ (Nat.pos_of_ne_zero hm))
theorem drawOrder_t : ∀ (m : Nat) (xs : List Nat) {s : Shared} {Q : List Nat → Shared → Prop}, m = xs.length → (∀ ys d, ys.Perm xs → Q ys { s with drawn := d }) → wpAny (model prog w) A (drawOrder m xs) Q E s
  | 0, xs, s, Q, h, hQ => by
    have : xs = [] := List.length_eq_zero_iff.mp h.symm
    subst this
    unfold drawOrder
    have := hQ [] s.drawn .nil
    exact wpAny_pure this
  | m + 1, [], s, Q, h, hQ => by simp at h
  | m + 1, x :: xs, s, Q, h, hQ => by
    unfold drawOrder
    refine wpAny_bind (wpAny_choose (by simp) fun k d hk => ?_)
    rw [List.getElem?_eq_getElem hk]
    dsimp only
    refine wpAny_bind (drawOrder_t m _ (by rw [List.length_eraseIdx_of_lt hk]; simp only [List.length_cons] at h ⊢; omega) fun ys d' hp => wpAny_pure ?_)
    exact hQ _ d' ((hp.cons _).trans (erase_perm hk))
theorem self_set {first : Value} {Q : Value → Shared → Prop} (hit : s.heap.get? I = some (itO first i S n ep)) (h : Q (.ref I) s) : wpAny (model prog w) A (pyIter (.ref I)) Q E s := by
  have hT : s.TypeIs (.ref I) "set_iterator" := ⟨_, hit, rfl⟩
  refine wpAny_pyIter_slot hT slot_set_it_iter (wpAny_call_entry slot_set_it_iter hT entry_set_it_iter ?_ (args_set_it_iter _))
  show wpAny _ _ (ret (.ref I)) _ _ s
  exact wpAny_pure ⟨_, rfl, "set_iterator", _, hT, slot_set_next.lookup, h⟩
theorem text_next {slot : Nat} {r : Option (Int × Value)} {Q : Option (Value × Nat) → Shared → Prop} (hbt : w.params.followText "set-order" = true) (ho : s.heap.get? S = some o) (ho' : o.data = .set es ep t) (hf : t.fits es.size = true)
    (hx : (pickOrder (w.params.setOrder S ep) es)[i]? = r) (hq : Q (r.map fun e => (e.2, slot)) s) : wpAny (model prog w) A (setNext S slot i ep) Q E s := by
  unfold setNext
  refine wpAny_bind (wpAny_setState_of ho ho' hf ?_)
  unfold setsByText
  refine wpAny_bind (wpAny_bind (wpAny_askSetting (wpAny_pure ?_)))
  dsimp only
  rw [show (model prog w).w.params = w.params from rfl, hbt]
  simp only [if_true, bne_self_eq_false, Bool.false_eq_true, if_false]
  refine wpAny_bind ?_
  unfold setWalk
  refine wpAny_bind (wpAny_setState_of ho ho' hf ?_)
  unfold setsByText
  refine wpAny_bind (wpAny_bind (wpAny_askSetting (wpAny_pure ?_)))
  dsimp only
  rw [show (model prog w).w.params = w.params from rfl, hbt]
  simp only [if_true]
  refine wpAny_bind (wpAny_askSetting (wpAny_pure ?_))
  refine wpAny_pure ?_
  dsimp only
  rw [show (model prog w).w.params = w.params from rfl, hx]
  exact hq
theorem place_next {j slot : Nat} {e : Int × Value} {Q : Option (Value × Nat) → Shared → Prop} (hbt : w.params.followText "set-order" = false) (ho : s.heap.get? S = some o) (ho' : o.data = .set #[e] ep t) (hf : t.fits 1 = true) (hl : t.led = true) (hp : t.place = #[j])
    (hq : Q (if slot ≤ j then some (e.2, j + 1) else none) s) : wpAny (model prog w) A (setNext S slot i ep) Q E s := by
  unfold setNext
  refine wpAny_bind (wpAny_setState_of ho ho' hf ?_)
  unfold setsByText
  refine wpAny_bind (wpAny_bind (wpAny_askSetting (wpAny_pure ?_)))
  dsimp only
  rw [show (model prog w).w.params = w.params from rfl, hbt]
  simp only [Bool.false_eq_true, if_false]
  show wpAny _ _ (if (!t.plain && decide ((1 : Nat) > 1)) = true then _ else _) _ _ s
  rw [if_neg (by simp)]
  show wpAny _ _ ((if (!t.led && !Array.isEmpty #[e]) = true then unsupported "set:maker-not-led" else pure ()) >>= _) _ _ s
  rw [hl, if_neg (by simp)]
  refine wpAny_bind (wpAny_pure ?_)
  have hb : SetTable.below t.place slot = if slot ≤ j then 0 else 1 := by
    rw [hp]
    unfold SetTable.below
    show SetTable.below.go #[j] slot 1 0 1 = _
    unfold SetTable.below.go SetTable.below.go
    by_cases h : slot ≤ j
    · have : ¬ j < slot := Nat.not_lt.mpr h
      simp [h, this]
    · have : j < slot := Nat.lt_of_not_le h
      simp [h, this]
  refine wpAny_pure ?_
  rw [hb, hp]
  by_cases h : slot ≤ j
  · rw [if_pos h] at hq ⊢; exact hq
  · rw [if_neg h] at hq ⊢; exact hq
/-- the walks over a set of strs -/
theorem walks_text (hh : A.handled = none) (hbt : w.params.followText "set-order" = true) (hne : S ≠ I) (ho' : o.data = .set es ep t) (hf : t.fits es.size = true) (hn : es.size = n) :
    Walks prog w A I [I, S] [I] n (fun i v => ((pickOrder (w.params.setOrder S ep) es).toList.map (·.2))[i]? = some v) (fun i h => h.get? I = some (itO (rawInt 0) i S n ep) ∧ h.get? S = some o) where
  sub := fun b hb => by simp at hb; simp [hb]
  frame := fun _ _ _ st hk => ⟨hk I (by simp) _ st.1, hk S (by simp) _ st.2⟩
  item := fun i s Q E hi st hQ => by
    have hz : (pickOrder (w.params.setOrder S ep) es).size = n := by
      rw [← Array.length_toList, (pickOrder_perm _ _).length_eq, Array.length_toList, hn]
    have hi' : i < (pickOrder (w.params.setOrder S ep) es).size := hz ▸ hi
    obtain ⟨⟨hs0, x⟩, hx⟩ : ∃ e, (pickOrder (w.params.setOrder S ep) es)[i]? = some e := ⟨_, Array.getElem?_eq_getElem hi'⟩
    refine next_slot_item (nx := 0) (x := x) st.1 st.2 ho' hf hn (fun {Q' E' A'} hq => text_next hbt st.2 ho' hf hx hq) fun h' hi₁ hs₁ => hQ x h' s.toks ?_ ⟨hi₁, (hs₁.2 S hne).trans st.2⟩ fun b o hb e => (hs₁.2 b fun q => hb (by simp [q])).trans e
    rw [List.getElem?_map, Array.getElem?_toList, hx]; rfl
  done := fun s Q E st hQ => by
    have hz : (pickOrder (w.params.setOrder S ep) es).size = n := by
      rw [← Array.length_toList, (pickOrder_perm _ _).length_eq, Array.length_toList, hn]
    have hx : (pickOrder (w.params.setOrder S ep) es)[n]? = none := Array.getElem?_eq_none (Nat.le_of_eq hz)
    exact next_slot_end hh st.1 st.2 ho' hf hn (fun {Q' E' A'} hq => text_next hbt st.2 ho' hf hx hq) fun h' hs₁ => hQ h' s.toks fun b o hb e => hs₁ b o (fun q => hb (by simp [q])) e
  self := fun i s Q E st hQ => self_set st.1 hQ
theorem walks_place {j : Nat} {e : Int × Value} (hh : A.handled = none) (hbt : w.params.followText "set-order" = false) (hne : S ≠ I) (ho' : o.data = .set #[e] ep t) (hf : t.fits 1 = true) (hl : t.led = true) (hp : t.place = #[j]) :
    Walks prog w A I [I, S] [I] 1 (fun i v => [e.2][i]? = some v) (fun i h => h.get? I = some (itO (rawInt (if i = 0 then (0 : Nat) else (j + 1 : Nat))) i S 1 ep) ∧ h.get? S = some o) where
  sub := fun b hb => by simp at hb; simp [hb]
  frame := fun _ _ _ st hk => ⟨hk I (by simp) _ st.1, hk S (by simp) _ st.2⟩
  item := fun i s Q E hi st hQ => by
    have : i = 0 := by omega
    subst this
    refine next_slot_item (slot := 0) (nx := j + 1) (x := e.2) st.1 st.2 ho' hf rfl (fun {Q' E' A'} hq => place_next hbt st.2 ho' hf hl hp (by rw [if_pos (Nat.zero_le _)]; exact hq)) fun h' hi₁ hs₁ => hQ e.2 h' s.toks rfl ⟨hi₁, (hs₁.2 S hne).trans st.2⟩ fun b o hb e => (hs₁.2 b fun q => hb (by simp [q])).trans e
  done := fun s Q E st hQ =>
    next_slot_end (slot := j + 1) hh st.1 st.2 ho' hf rfl (fun {Q' E' A'} hq => place_next hbt st.2 ho' hf hl hp (by rw [if_neg (Nat.not_le.mpr (Nat.lt_succ_self _))]; exact hq)) fun h' hs₁ => hQ h' s.toks fun b o hb e => hs₁ b o (fun q => hb (by simp [q])) e
  self := fun i s Q E st hQ => self_set st.1 hQ
theorem walks_drawn {P : Addr} {pl : List Nat} (hh : A.handled = none) (hne : S ≠ I) (hPI : P ≠ I) (ho' : o.data = .set es ep t) (hf : t.fits es.size = true) (hn : es.size = n) (hpl : pl.Perm (List.range n)) :
    Walks prog w A I [I, S, P] [I] n (fun i v => (pl.filterMap fun p => es[p]?.map (·.2))[i]? = some v) (fun i h => h.get? I = some (itO (.ref P) i S n ep) ∧ h.get? S = some o ∧ IsTup h P (pl.map fun k : Nat => rawInt k).toArray) where
  sub := fun b hb => by simp at hb; simp [hb]
  frame := fun _ _ _ st hk => ⟨hk I (by simp) _ st.1, hk S (by simp) _ st.2.1, tup_at st.2.2 fun _ e => hk P (by simp) _ e⟩
  item := fun i s Q E hi st hQ => by
    have hlen : pl.length = n := by rw [hpl.length_eq, List.length_range]
    have hi' : i < pl.length := hlen ▸ hi
    have hall : ∀ p ∈ pl, p < es.size := fun p hp => by rw [hn]; exact List.mem_range.mp (hpl.mem_iff.mp hp)
    have hp : pl[i]? = some pl[i] := List.getElem?_eq_getElem hi'
    obtain ⟨⟨hs0, x⟩, hx⟩ : ∃ e, es[pl[i]]? = some e := ⟨_, Array.getElem?_eq_getElem (hall _ (List.getElem_mem hi'))⟩
    have hfm : ∀ (l : List Nat), (∀ p ∈ l, p < es.size) → ∀ (i : Nat), (l.filterMap fun p : Nat => es[p]?.map (fun e : Int × Value => e.2))[i]? = (l[i]?).bind fun p : Nat => es[p]?.map (fun e : Int × Value => e.2) := by
      intro l
      induction l with
      | nil => intro _ i; simp
      | cons a l ih =>
        intro ha i
        obtain ⟨ea, hea⟩ : ∃ e, es[a]? = some e := ⟨_, Array.getElem?_eq_getElem (ha a (by simp))⟩
        rw [List.filterMap_cons, hea]
        cases i with
        | zero => simp [hea]
        | succ i => simpa using ih (fun p hp => ha p (by simp [hp])) i
    refine next_drawn_item st.1 st.2.1 ho' hf hn st.2.2 hp hx fun h' hi₁ hs₁ => hQ x h' s.toks ?_ ⟨hi₁, (hs₁.2 S hne).trans st.2.1, tup_at st.2.2 fun _ e => (hs₁.2 P hPI).trans e⟩ fun b o hb e => (hs₁.2 b fun q => hb (by simp [q])).trans e
    rw [hfm pl hall i, hp]
    simp [hx]
  done := fun s Q E st hQ => by
    have hlen : pl.length = n := by rw [hpl.length_eq, List.length_range]
    exact next_drawn_end hh st.1 st.2.1 ho' hf hn st.2.2 (by rw [List.getElem?_eq_none (Nat.le_of_eq hlen)]) fun h' hs₁ => hQ h' s.toks fun b o hb e => hs₁ b o (fun q => hb (by simp [q])) e
  self := fun i s Q E st hQ => self_set st.1 hQ
end
end
section
open PySem PySem.W PyProof.Rows PySem.Calls
/-- what a walk over a set of strs meets -/
noncomputable def OrdOf (Sf : Str → Bool) (n : Nat) (ord : List Value) : Prop := ord.length = n ∧ (∀ v ∈ ord, ∃ k tk, v = .str k tk ∧ Sf k = true) ∧ ∀ k, Sf k = true → ∃ tk, Value.str k tk ∈ ord
theorem arr_one {α : Type} {a : Array α} (h : a.size = 1) : ∃ e, a = #[e] := by
  obtain ⟨l⟩ := a
  match l, h with
  | [e], _ => exact ⟨e, rfl⟩
section
variable {prog : Program} {w : World} {A : Around} {E : Value → Shared → Prop} {s : Shared} {I S : Addr} {i n ep : Nat} {o : Obj} {es : Array (Int × Value)} {t : SetTable} {Sf : Str → Bool}
theorem strKind_inv {k : Str} {v : Value} (h : (PySem.strKind prog w).is k v = true) : ∃ tk, v = .str k tk := Value.isStrOf_shape h
theorem ordOf_perm {ord : List Value} (hp : ord.Perm (es.toList.map (·.2))) (hel : ElemsOf (PySem.strKind prog w) es.toList) (hmem : ∀ k, Sf k = true ↔ ∃ e ∈ es.toList, (PySem.strKind prog w).is k e.2 = true) (hn : es.size = n) : OrdOf Sf n ord := by
  refine ⟨by rw [hp.length_eq, List.length_map, Array.length_toList, hn], fun v hv => ?_, fun k hk => ?_⟩
  · obtain ⟨e, he, rfl⟩ := List.mem_map.mp (hp.mem_iff.mp hv)
    obtain ⟨⟨k, hk, _⟩, _⟩ := hel e he
    obtain ⟨tk, e2⟩ := strKind_inv hk
    exact ⟨k, tk, e2, (hmem k).mpr ⟨e, he, hk⟩⟩
  · obtain ⟨e, he, hk'⟩ := (hmem k).mp hk
    obtain ⟨tk, e2⟩ := strKind_inv hk'
    exact ⟨tk, e2 ▸ hp.mem_iff.mpr (List.mem_map.mpr ⟨e, he, rfl⟩)⟩
theorem iter_set {Q : Value → Shared → Prop} (hS : SetX prog w s.heap S Sf n (ledW w)) (hn0 : 0 < n)
    (h : ∀ I fp ord St h₂ d, (∀ A' : Around, A'.handled = none → Walks prog w A' I fp [I] n (fun i v => ord[i]? = some v) St) → St 0 h₂ → (∀ b ∈ fp, b = S ∨ s.heap.get? b = none) → s.heap.StaysIn h₂ → s.heap.get? I = none → I < h₂.objs.size →
      OrdOf Sf n ord → Q (.ref I) { s with heap := h₂, drawn := d }) :
    wpAny (model prog w) A (pyIter (.ref S)) Q E s := by
  obtain ⟨o, es, ep, t, ho, hex, hd, hel, hmem, hb, hf, hn, hl, hpl⟩ := hS
  have hT : s.TypeIs (.ref S) "set" := ⟨o, ho, hex.1⟩
  have fresh : ∀ a, s.heap.objs.size ≤ a → s.heap.get? a = none := fun a ha => by
    cases e : s.heap.get? a with
    | none => rfl
    | some o' => exact absurd (Heap.lt_size e) (Nat.not_lt.mpr ha)
  have hSl : S < s.heap.objs.size := Heap.lt_size ho
  refine wpAny_pyIter_slot hT F.slot_set_iter (wpAny_call_entry F.slot_set_iter hT entry_set_iter ?_ (F.args_set_iter_1 _))
  unfold Builtin.«frozenset.__iter__» Builtin.Frozenset.slot0 slotArgs
  simp only [List.isEmpty_nil, Bool.not_true, Bool.false_eq_true, ↓reduceIte, bind_assoc, List.length_nil, bne_self_eq_false]
  unfold Builtin.Frozenset.addrOf Builtin.Frozenset.sizeOf
  refine wpAny_bind (wpAny_pure ?_)
  try dsimp only
  refine wpAny_bind (wpAny_pure ?_)
  simp only [bind_assoc]
  refine wpAny_bind (setEnt ho hd hf ?_)
  simp only [pure_bind]
  have hset : ∀ {Q' : Bool → Shared → Prop} {E' : Value → Shared → Prop} {A' : Around}, Q' (!w.params.followText "set-order" && (!t.plain && decide (es.size > 1))) s → wpAny (model prog w) A' (setDrawn S) Q' E' s := by
    intro Q' E' A' hq
    unfold setDrawn
    refine wpAny_bind (wpAny_setState_of ho hd hf ?_)
    unfold setsByText
    refine wpAny_bind (wpAny_bind (wpAny_askSetting (wpAny_pure ?_)))
    exact wpAny_pure hq
  have hn1 : ∀ (first : Value) (s₁ : Shared) {Q' : Fin → Shared → Prop} {E' : Value → Shared → Prop} {A' : Around}, s₁.heap.get? S = some o → (Q' (.done (.ret (.ref s₁.heap.objs.size))) { s₁ with heap := s₁.heap.push (itO first 0 S n ep) }) →
      wpAny (model prog w) A' (do let x ← setEpoch S; let r ← newFields "set_iterator" [first, rawInt 0, .ref S, rawInt es.size, rawInt x]; ret r) Q' E' s₁ := by
    intro first s₁ Q' E' A' ho₁ hq
    refine wpAny_bind (wpAny_setEpoch_of ho₁ hd hf ?_)
    rw [hn]
    exact wpAny_bind (wpAny_newObj_type (wpAny_pure hq))
  refine wpAny_bind (hset ?_)
  have mk : ∀ (h₁ : Heap) (first : Value), s.heap.StaysIn h₁ → s.heap.StaysIn (h₁.push (itO first 0 S n ep)) := fun h₁ first k a o e => Heap.get?_push_of_some _ (k a o e)
  cases hbt : w.params.followText "set-order" with
  | true =>
    simp only [Bool.not_true, Bool.false_and, Bool.false_eq_true, if_false]
    refine hn1 _ _ ho ⟨_, rfl, "set_iterator", _, ⟨_, Heap.get?_push_size _ rfl, rfl⟩, slot_set_next.lookup, ?_⟩
    refine h s.heap.objs.size _ _ _ _ s.drawn (fun A' hh => walks_text hh hbt (Nat.ne_of_lt hSl) hd hf hn) ⟨Heap.get?_push_size _ rfl, Heap.get?_push_of_some _ ho⟩ (fun b hb => ?_) (mk _ _ (StaysIn.refl _)) (fresh _ (Nat.le_refl _)) (by rw [Heap.size_push]; exact Nat.lt_succ_self _) (ordOf_perm ((pickOrder_perm _ _).map _) hel hmem hn)
    simp only [List.mem_cons, List.not_mem_nil, or_false] at hb
    rcases hb with rfl | rfl
    · exact .inr (fresh _ (Nat.le_refl _))
    · exact .inl rfl
  | false =>
    have hl' : t.led = true := by rw [hl]; unfold ledW; rw [hbt]; rfl
    by_cases h1 : es.size > 1
    · rw [hpl (by omega), decide_eq_true h1]
      simp only [Bool.not_false, Bool.and_self, if_true]
      refine wpAny_bind (drawOrder_t _ _ (by simp) fun pl d hperm => ?_)
      refine wpAny_bind (wpAny_newTuple ?_ (by rw [List.length_map, hperm.length_eq, List.length_range]; exact fits_of_scanBound hb))
      have hup : s.heap.StaysIn (s.heap.push { cls := .type "tuple", data := .seq (pl.map fun k : Nat => rawInt k).toArray }) := fun a o e => Heap.get?_push_of_some _ e
      have hz : (s.heap.push { cls := .type "tuple", data := .seq (pl.map fun k : Nat => rawInt k).toArray }).objs.size = s.heap.objs.size + 1 := Heap.size_push ..
      refine hn1 _ _ (hup _ _ ho) ⟨_, rfl, "set_iterator", _, ⟨_, Heap.get?_push_size _ rfl, rfl⟩, slot_set_next.lookup, ?_⟩
      dsimp only
      rw [hz]
      have hIne : S ≠ s.heap.objs.size + 1 := Nat.ne_of_lt (Nat.lt_succ_of_lt hSl)
      refine h (s.heap.objs.size + 1) _ _ _ _ d (fun A' hh => walks_drawn (P := s.heap.objs.size) hh hIne (Nat.ne_of_lt (Nat.lt_succ_self _)) hd hf hn (hn ▸ hperm)) ⟨?_, mk _ _ hup _ _ ho, ?_⟩ (fun b hb => ?_) (mk _ _ hup) (fresh _ (Nat.le_succ _)) (by rw [Heap.size_push, hz]; exact Nat.lt_succ_self _) (ordOf_perm ?_ hel hmem hn)
      · rw [← hz]; exact Heap.get?_push_size _ rfl
      · exact ⟨_, Heap.get?_push_of_some _ (Heap.get?_push_size _ rfl), rfl, _, rfl⟩
      · simp only [List.mem_cons, List.not_mem_nil, or_false] at hb
        rcases hb with rfl | rfl | rfl
        · exact .inr (fresh _ (Nat.le_succ _))
        · exact .inl rfl
        · exact .inr (fresh _ (Nat.le_refl _))
      · have e1 : (List.range es.size).filterMap (fun p => es[p]?.map (·.2)) = es.toList.map (·.2) := by
          rw [← filterMap_getElem?_range es, List.map_filterMap]
        rw [← e1]
        exact hperm.filterMap _
    · have h1' : es.size = 1 := by omega
      rw [decide_eq_false h1]
      simp only [Bool.not_false, Bool.and_false, Bool.false_eq_true, if_false]
      refine hn1 _ _ ho ⟨_, rfl, "set_iterator", _, ⟨_, Heap.get?_push_size _ rfl, rfl⟩, slot_set_next.lookup, ?_⟩
      obtain ⟨e, he⟩ := arr_one h1'
      subst he
      have hn' : n = 1 := hn.symm
      subst hn'
      obtain ⟨j, hj⟩ : ∃ j, t.place = #[j] := by
        have : t.place.size = 1 := by
          have := hf
          simp only [SetTable.fits, Bool.and_eq_true, beq_iff_eq] at this
          simpa using this.1
        exact arr_one this
      refine h s.heap.objs.size _ [e.2] _ _ s.drawn (fun A' hh => walks_place hh hbt (Nat.ne_of_lt hSl) hd hf hl' hj) ⟨Heap.get?_push_size _ rfl, Heap.get?_push_of_some _ ho⟩ (fun b hb => ?_) (mk _ _ (StaysIn.refl _)) (fresh _ (Nat.le_refl _)) (by rw [Heap.size_push]; exact Nat.lt_succ_self _) (ordOf_perm (by simp) hel hmem hn)
      simp only [List.mem_cons, List.not_mem_nil, or_false] at hb
      rcases hb with rfl | rfl
      · exact .inr (fresh _ (Nat.le_refl _))
      · exact .inl rfl
end
end
section
open PySem PySem.W PyProof.Rows PySem.Calls
theorem len_set : typeLookup (.type "set") "__len__" = pure (some (.builtin "set.__len__")) := by rw [typeLookup_type, builtinLookup_eq_fast]; kernel_rfl
section
variable {prog : Program} {w : World} {A : Around} {E : Value → Shared → Prop} {s : Shared} {S : Addr} {n : Nat} {Sf : Str → Bool}
theorem collect_set {Q : List Value → Shared → Prop} (hh : A.handled = none) (hS : SetX prog w s.heap S Sf n (ledW w)) (hn0 : 0 < n)
    (hQ : ∀ ord h' d' tk, OrdOf Sf n ord → s.heap.StaysIn h' → Q ord { s with heap := h', drawn := d', toks := tk }) :
    wpAny (model prog w) A (collect (.ref S)) Q E s := by
  have hbd : n < scanBound := by obtain ⟨o, es, ep, t, _, _, _, _, _, hb, _, hn, _⟩ := hS; exact hn ▸ hb
  have hnl : n ≤ sizeLine := fits_of_scanBound hbd
  obtain ⟨oS, hoS, hcS⟩ : s.TypeIs (.ref S) "set" := by obtain ⟨o, es, ep, t, ho, hex, _⟩ := hS; exact ⟨o, ho, hex.1⟩
  unfold collect
  refine wpAny_bind (wpAny_runValue (codeAny_builtin F.entry_proto_collect ?_))
  rw [Around.under_plainId F.plain_proto_collect _]
  show wpAny _ A.in1 (newList [] >>= fun l => again (.builtin "list.__iadd__" ⟨[l, .ref S], []⟩)) _ _ s
  refine wpAny_bind (wpAny_newObj_type ?_)
  refine wpAny_pure ⟨plainId_quiet F.plain_list_iadd _, codeAny_builtin F.entry_list_iadd ?_⟩
  rw [Around.under_plainId F.plain_list_iadd _]
  have up₁ : s.heap.StaysIn (s.heap.push { cls := .type "list", data := .seq ([] : List Value).toArray }) := fun a o e => Heap.get?_push_of_some _ e
  have hS₁ := hS.at' fun o e => up₁ _ o e
  have hL₁ : (s.heap.push { cls := .type "list", data := .seq ([] : List Value).toArray }).get? s.heap.objs.size = some { cls := .type "list", data := .seq ([] : List Value).toArray } := Heap.get?_push_size _ rfl
  have hSne : s.heap.objs.size ≠ S := Nat.ne_of_gt (Heap.lt_size hoS)
  have h1 : Builtin.List.listSameRef (.ref s.heap.objs.size) (.ref S) = false := by simp [Builtin.List.listSameRef, hSne]
  show wpAny _ A.in1 (Builtin.List.listExtendWith (.ref s.heap.objs.size) (.ref S) (.ref s.heap.objs.size)) _ _ _
  unfold Builtin.List.listExtendWith
  refine wpAny_bind (wpAny_typeOf (T := "set") ⟨oS, up₁ _ _ hoS, hcS⟩ ?_)
  rw [if_neg (by rw [h1]; decide)]
  refine wpAny_bind (iter_set hS₁ hn0 fun I fp ord St h₂ d W st hfp up₂ hI hIlt hord => ?_)
  refine wpAny_bind (wpAny_holding ?_)
  unfold Builtin.List.listLengthHint
  have hoS₂ := up₂ _ _ (up₁ _ _ hoS)
  refine wpAny_bind (wpAny_specialOf (T := "set") ⟨oS, hoS₂, hcS⟩ len_set ?_)
  (generalize hid : ("set.__len__" : String) = id0; (fail_if_success (clear hid id0)); wp_delta; rw [show splitId id0 = some ("set", "__len__") from by subst hid; decide +kernel]; subst hid)
  refine wpAny_bind (wpAny_isInstance (T := "set") (b := true) ⟨oS, hoS₂, hcS⟩ (by rw [isSubtype_type]; kernel_rfl) ?_)
  refine wpAny_bind (wpAny_typeOf (T := "set") ⟨oS, hoS₂, hcS⟩ ?_)
  refine wpAny_pure ?_
  rw [if_pos (by rfl)]
  refine wpAny_bind (wpAny_rule (wpAny_bind ?_))
  have hL₂ := up₂ _ _ hL₁
  have hIS : I ≠ s.heap.objs.size := by rintro rfl; rw [hI] at hL₁; cases hL₁
  have hLf : s.heap.objs.size ∉ fp := fun q => (hfp _ q).elim (fun e => hSne e) fun e => by rw [hL₁] at e; cases e
  unfold Builtin.List.listTouch
  refine wpAny_bind (listUpdate_at (xs := #[]) (n := 0) hL₂ rfl ?_ (Nat.zero_le _) (by show (1 : Nat) ≤ sizeLine + 1; omega))
  have hL₃ := get?_update_seq (c := "list") (xs := #[]) (n := 0) (h := h₂) hL₂ (·.push .none)
  refine listUpdate_at hL₃ rfl ?_ (by show (1 : Nat) ≤ sizeLine; rw [sizeLine_eq]; omega) (by show (0 : Nat) ≤ sizeLine + 1; omega)
  have hL₄ := get?_update_seq hL₃ (·.pop)
  have hsb : Heap.SameBut s.heap.objs.size h₂ ((h₂.update s.heap.objs.size (Obj.mapSeq (·.push .none))).update s.heap.objs.size (Obj.mapSeq (·.pop))) := (Heap.SameBut.update ..).trans (Heap.SameBut.update ..)
  generalize (h₂.update s.heap.objs.size (Obj.mapSeq (·.push .none))).update s.heap.objs.size (Obj.mapSeq (·.pop)) = h₄ at hL₄ hsb ⊢
  have hh2 : A.in1.handled = none := by simp [hh]
  have W' := (W A.in1 hh2).toS
  have st₄ := W'.frame 0 { s with heap := h₂, drawn := d } h₄ s.toks st (Nat.le_refl _) fun b hb o e => (hsb.2 b fun q => hLf (q ▸ hb)).trans e
  refine wpAny_pure ⟨plainId_quiet F.plain_extend_loop _, codeAny_extend_loopS W' hnl _ hLf _ n 0 _ _ _ rfl (Nat.zero_le _) st₄ hL₄ (ItemsOf.nil _) fun s' acc' c' hm hS' hacc => ?_⟩
  show wpAny _ A (load s.heap.objs.size >>= _) _ _ s'
  refine wpAny_bind (wpAny_load hS' ?_)
  refine wpAny_pure ?_
  have he : acc'.toList = ord := by
    refine List.ext_getElem? fun i => ?_
    by_cases hi : i < acc'.size
    · have := hacc.2 i acc'[i] (Array.getElem?_eq_getElem hi)
      rw [this, Array.getElem?_toList, Array.getElem?_eq_getElem hi]
    · rw [List.getElem?_eq_none (by simpa using Nat.not_lt.mp hi), List.getElem?_eq_none (by rw [hord.1, ← hacc.1]; exact Nat.not_lt.mp hi)]
  rw [he]
  obtain ⟨h', g', d', tk', os'⟩ := s'
  have eg : g' = s.gens := hm.gens
  have ed : d' = d := hm.drawn
  have eo : os' = s.os := hm.os
  subst eg ed eo
  refine hQ ord h' _ _ hord fun a o e => ?_
  have hal : a < s.heap.objs.size := Heap.lt_size e
  refine hm.heap a o ?_ ((hsb.2 a (Nat.ne_of_lt hal)).trans (up₂ _ _ (up₁ _ _ e)))
  simp only [List.mem_cons, List.not_mem_nil, or_false, not_or]
  exact ⟨Nat.ne_of_lt hal, fun q => by subst q; rw [up₁ _ _ e] at hI; cases hI⟩
end
end
section
open PySem PySem.W PyProof.Rows PySem.Calls
section
variable {prog : Program} {w : World} {A : Around} {E : Value → Shared → Prop} {s : Shared} {b : Heap} {L : Addr} {m : Str → Option Value} {news : List (Addr × Obj)} {l S : Addr} {n : Nat} {Sf : Str → Bool} {vs : List Value} {xs ys : List Str}
noncomputable def SetOb (prog : Program) (w : World) (o : Obj) (xs : List Str) : Prop := ∀ (h' : Heap) (a : Addr), h'.get? a = some o → SetX prog w h' a (fun k => decide (k ∈ metS xs)) (metS xs).length (ledW w)
theorem set_t {n2 : Nat} {Q : Value → Shared → Prop} (F : Fr b L s.heap m) (N : News b L s.heap news) (hh : A.handled = none) (hb : (l, PySem.W.listOf vs.toArray n2) ∈ news) (hi : StrsAre vs xs) (hz : xs.length ≤ 1000)
    (h : ∀ D h' tk o, Fr b L h' m → News b L h' ((D, o) :: news) → (∀ p ∈ news, p.1 < D) → SetOb prog w o xs → Q (.ref D) { s with heap := h', toks := tk }) :
    wpAny (model prog w) A (call (.type "set") [.ref l]) Q E s := by
  obtain ⟨oL, _, _, eL, _⟩ := F.ns
  refine call_set_strs (items := vs.toArray) hh (News.isList N hb) (by simpa using hi) (by unfold scanBound; omega) fun h' tk x up => ?_
  obtain ⟨o, es, ep, t, ho, r⟩ := x
  exact h _ h' tk o (F.keeps up) (fun p q => (List.mem_cons.mp q).elim (fun q => q ▸ ⟨ho, Nat.ne_of_gt (Heap.lt_size eL), Heap.get?_none_of_le (Nat.le_trans F.above (Nat.le_of_lt (Heap.lt_size eL)))⟩) fun q => N.grown up p q) (fun p q => Heap.lt_size (N p q).1) fun h'' a e => ⟨o, es, ep, t, e, r⟩
theorem sorted_t {o : Obj} {Q : Value → Shared → Prop} (F : Fr b L s.heap m) (N : News b L s.heap news) (hh : A.handled = none) (hm : (S, o) ∈ news) (hx : SetOb prog w o xs) (hst : SortTo xs ys)
    (h : ∀ D h' d' tk us e, Fr b L h' m → News b L h' ((D, PySem.W.listOf (List.toArray us) e) :: news) → (∀ p ∈ news, p.1 < D) → StrsAre us ys → Q (.ref D) { s with heap := h', drawn := d', toks := tk }) :
    wpAny (model prog w) A (call (.builtin "sorted") [.ref S]) Q E s := by
  have hS := hx s.heap S (N _ hm).1
  refine Calls.call_function_entry kind_sorted plain_sorted entry_sorted (args_sorted1 _) ?_
  unfold Builtin.«sorted»
  refine wpAny_bind (m := checkCount "sorted" 1 1 _) (wpAny_pure ?_)
  refine wpAny_bind (collect_set (by simpa using hh) hS hst.1 fun ord h₁ d₁ tk₁ hord up₁ => ?_)
  have hoS : StrsAre ord (ord.map strOf) := strsAre_map ord fun v hv => let ⟨k, t, e, _⟩ := hord.2.1 v hv; ⟨k, t, e⟩
  have hlen : ord.length = (metS xs).length := hord.1
  refine wpAny_bind (wpAny_newList ?_ (by rw [hlen, sizeLine_eq]; have := hst.2.1; omega))
  have hoL : (h₁.push (seqObj "list" ord.toArray 0)).get? h₁.objs.size = some (seqObj "list" ord.toArray 0) := Heap.get?_push_size _ rfl
  show wpAny _ _ _ _ _ { s with heap := h₁.push (seqObj "list" ord.toArray 0), drawn := d₁, toks := tk₁ }
  refine wpAny_bind (wpAny_holding (wpAny_call_entry slot_list_sort ⟨_, hoL, rfl⟩ entry_list_sort (list_sort_treeK strKind_oneLt hoL hoS.keysOf (fun v₁ v₂ rest e => keyKind_strs (by rw [← e]; exact hoS)) (by rw [hlen]; exact hst.2.1) fun st' a1 a2 => ⟨_, rfl, ?_⟩) (args_list_sort _)))
  obtain ⟨ss', h1, h2, h3⟩ := sorted_out_str hoS a1 a2
  refine wpAny_pure ⟨_, rfl, ?_⟩
  have hss : ss' = ys := by
    refine hst.2.2 ss' (by rw [h2.length_eq, List.length_map, hlen]) (fun k => ?_) h3
    rw [h2.mem_iff]
    constructor
    · intro hk
      obtain ⟨v, hv, rfl⟩ := List.mem_map.mp hk
      obtain ⟨k, t, rfl, hk'⟩ := hord.2.1 v hv
      exact of_decide_eq_true hk'
    · intro hk
      obtain ⟨tk, hv⟩ := hord.2.2 k (decide_eq_true hk)
      exact List.mem_map.mpr ⟨_, hv, rfl⟩
  subst hss
  obtain ⟨e, he⟩ := sortedHeap_at (vs := ord) (out := (arrOf st').map (·.2)) hoL
  have old : ∀ a o', s.heap.get? a = some o' → (sortedHeap (h₁.push (seqObj "list" ord.toArray 0)) h₁.objs.size ord ((arrOf st').map (·.2))).get? a = some o' := fun a o' e => by
    have := Heap.lt_size (up₁ a o' e)
    rw [sortedHeap_old (Nat.ne_of_lt this) (by rw [size_push']; exact Nat.lt_succ_of_lt this)]
    exact Heap.get?_push_of_some _ (up₁ a o' e)
  refine h h₁.objs.size _ d₁ _ ((arrOf st').map (·.2)).toList e (F.kept old) ?_ (fun p hp => Heap.lt_size (up₁ _ _ (N p hp).1)) h1
  intro p hp
  rcases List.mem_cons.mp hp with rfl | hp
  · have hne : L ≠ h₁.objs.size := by obtain ⟨oL, _, _, hL, _⟩ := F.ns; exact Nat.ne_of_lt (Heap.lt_size (up₁ _ _ hL))
    refine ⟨he, Ne.symm hne, ?_⟩
    cases hq : b.get? h₁.objs.size with
    | none => rfl
    | some o' => exact absurd (Heap.lt_size (up₁ _ _ (F.keep _ _ hq))) (Nat.lt_irrefl _)
  · exact ⟨old _ _ (N p hp).1, (N p hp).2⟩
end
end
section
open PySem PySem.W PyProof.Rows PySem.Calls
section
variable {prog : Program} {w : World} {A : Around} {E : Value → Shared → Prop} {s : Shared} {a : Addr} {its : Array Value} {n : Nat}
/-- a tuple has no keys -/
theorem keys_code {R : Result → Shared → Prop} {u : Tok} (hx : s.heap.get? a = some (tupOf its n)) (hA : A.handled = none)
    (h : ∀ h' tk e, Heap.NewAttrErr s.heap h' e (.ref a) "keys" → R (.error (.ref e)) { s with heap := h', toks := tk }) :
    codeAny (model prog w) A (.call (.builtin "tuple.__getattribute__") ⟨[.ref a, .str "keys" u], []⟩) R s :=
  have f := F.slot_tuple_getattribute
  have m := meets_getattribute_miss_tuple a its n #[] "keys" u (by rw [typeLookup_type, builtinLookup_eq_fast]; kernel_rfl) (by decide +kernel) (by size_fits)
  codeAny_call_builtin f.plain am_entry_tuple_getattribute (f.check _ _ _ _ _ _ _ _ ⟨_, hx, rfl⟩ (F.args_tuple_getattribute_2 _ _) (m prog w A R s ⟨hx, hA, h⟩))
theorem keys_miss {Q : Option Value → Shared → Prop} (hx : s.heap.get? a = some (tupOf its n)) (hA : A.handled = none)
    (h : ∀ h' tk, s.heap.StaysIn h' → Q none { s with heap := h', toks := tk }) : wpAny (model prog w) A (getAttr? (.ref a) "keys") Q E s := by
  obtain ⟨hp, g, d, tk, os⟩ := s
  have ty : ∀ tk, Shared.TypeIs ⟨hp, g, d, tk, os⟩ (.ref a) "tuple" := fun _ => ⟨_, hx, rfl⟩
  have e1 := sub_AttributeError
  have e2 := F.slot_tuple_getattribute.lookup
  have e3 := F.slot_tuple_getattribute.bind (.ref a)
  have e4 := am_tuple_getattr_none
  unfold getAttr? getAttrBy? getAttrBy
  repeat (any_goals (first | assumption | exact ty _ | wp_step))
  refine keys_code (s := ⟨hp, g, d, tk + 1, os⟩) hx hA fun h' tk' e q => ?_
  obtain ⟨_, _, e5⟩ := q.there
  show wpAny _ _ (getattributeRaised ..) _ _ _
  unfold getattributeRaised
  repeat (any_goals (first | assumption | wp_step))
  exact h _ _ q.keeps
end
end
section
open PySem PySem.W PyProof.Rows PySem.Calls
theorem entry_dict_update_loop : entryFor table "dict.update.loop" = some Builtin.«dict.update.loop» := entryFor_of_tree (by kernel_rfl)
theorem plain_dict_update_loop : plainId "dict.update.loop" = true := by decide +kernel
section
variable {prog : Program} {w : World} {A : Around} {E : Value → Shared → Prop} {s : Shared} {kvs : List (Str × Value)} {its : List Value}
noncomputable def PairIn (h : Heap) (v : Value) (kv : Str × Value) : Prop := ∃ p tk, v = .ref p ∧ IsTup h p [.str kv.1 tk, kv.2].toArray
theorem dictLoop {R : Result → Shared → Prop} {I D : Addr} {fp wr : List Addr} {St : Nat → Shared → Prop} {b0 : Heap}
    (W : WalksS prog w A.in1 I fp wr (fun a b => b = a) kvs.length (fun i v => its[i]? = some v) St) (hSf : D ∉ fp) (hp : All2 (PairIn b0) its kvs) (hb : kvs.length ≤ 1000) (hwt : ∀ a ∈ wr, b0.get? a = none) (hD : b0.get? D = none) :
    ∀ (k i : Nat) (s : Shared), kvs.length - i = k → i ≤ kvs.length → St i s → b0.StaysIn s.heap → s.heap.DictOf (PySem.strKind prog w) D (merged [] (kvs.take i)) →
      (∀ s', Moved (D :: wr) (fun a b => b = a) s s' → s'.heap.DictOf (PySem.strKind prog w) D (merged [] kvs) → R (.ok (.ret .none)) s') →
      codeAny (model prog w) A (.builtin "dict.update.loop" ⟨[.ref D, .ref I, rawInt i, .none], []⟩) R s := by
  have hSw : D ∉ wr := fun h => hSf (W.sub _ h)
  have hsub : ∀ b ∈ wr, b ∈ D :: wr := fun b hb => List.mem_cons_of_mem _ hb
  intro k
  induction k with
  | zero =>
    intro i s hk hi hst hb0 hS hR
    have hin : i = kvs.length := by omega
    subst hin
    rw [List.take_length] at hS
    refine codeAny_builtin entry_dict_update_loop ?_
    rw [Around.under_plainId plain_dict_update_loop _]
    show wpAny _ A.in1 (pyNext (.ref I) >>= _) _ _ s
    refine wpAny_bind (W.done s _ _ hst fun s' hm => ?_)
    show wpAny _ A.in1 (Builtin.Dict.addKeywords D [] >>= fun _ => ret Value.none) _ _ s'
    refine wpAny_bind (wpAny_pure ?_)
    refine wpAny_pure (hR s' (hm.mono hsub) ?_)
    obtain ⟨o, es, ep, ho, r⟩ := hS
    exact ⟨o, es, ep, hm.heap D _ hSw ho, r⟩
  | succ k ih =>
    intro i s hk hi hst hb0 hS hR
    have hlt : i < kvs.length := by omega
    refine codeAny_builtin entry_dict_update_loop ?_
    rw [Around.under_plainId plain_dict_update_loop _]
    show wpAny _ A.in1 (pyNext (.ref I) >>= _) _ _ s
    refine wpAny_bind (W.item i s _ _ hlt hst fun v s' hP hst' hm => ?_)
    obtain ⟨⟨key, val⟩, hkv, p, tk, rfl, hpt⟩ := hp.get hP
    have hb1 : b0.StaysIn s'.heap := fun a o e => hm.heap a o (fun q => by rw [hwt a q] at e; cases e) (hb0 a o e)
    have hpt' := stays_tup hb1 hpt
    obtain ⟨op, hop, hcp, np, hdp⟩ := id hpt'
    have hS' : s'.heap.DictOf (PySem.strKind prog w) D (merged [] (kvs.take i)) := by
      obtain ⟨o, es, ep, ho, r⟩ := hS
      exact ⟨o, es, ep, hm.heap D _ hSw ho, r⟩
    refine wpAny_bind (wpAny_holding (wpAny_bind (m := (Builtin.Dict.pairItems (.ref p)).tryCatch _) ?_))
    refine wpAny_tryCatch ?_
    unfold Builtin.Dict.pairItems
    refine wpAny_bind (wpAny_typeOf (T := "tuple") ⟨op, hop, hcp⟩ ?_)
    rw [if_pos (by decide)]
    refine wpAny_bind (wpAny_seqItems hop hdp (wpAny_pure ?_))
    refine wpAny_holding ?_
    have hlen : (merged [] (kvs.take i)).length ≤ sizeLine := by
      have := merged_length_le ([] : List (Str × Value)) (kvs.take i)
      simp only [List.length_nil, List.length_take, Nat.zero_add] at this
      rw [sizeLine_eq]; omega
    refine wpAny_dictSet_pairs (knd := PySem.strKind prog w) (k := key) (hsz := hlen) (strKind_is _ _ _ _) hS' fun h' hS2 hsb => ?_
    have e : merged [] (kvs.take (i + 1)) = stored (merged [] (kvs.take i)) key val := merged_take_succ _ _ _ _ hkv
    refine wpAny_pure ⟨plainId_quiet plain_dict_update_loop _, ih (i + 1) _ (by omega) hlt (W.frame _ s' _ _ hst' (Nat.le_succ _) fun b hb o e => ?_) (fun a o e => ?_) (e ▸ hS2) fun s'' hm'' hS'' => ?_⟩
    · exact (hsb.2 b (fun h : b = D => hSf (h ▸ hb))).trans e
    · exact (hsb.2 a (fun h : a = D => by subst h; rw [hD] at e; cases e)).trans (hb1 a o e)
    · refine hR s'' (Moved.trans W.gtrans ((hm.mono hsub).then_heap (Nat.le_succ _) fun b o hb e => ?_) hm'') hS''
      exact (hsb.2 b (fun h : b = D => hb (h ▸ List.mem_cons_self))).trans e
theorem mapOb_of {h : Heap} {a : Addr} {f : Str → Option Value} (x : h.MapOf (PySem.strKind prog w) a f) : ∃ o, h.get? a = some o ∧ MapOb prog w o f :=
  let ⟨o, es, ep, ho, r⟩ := x
  ⟨o, ho, fun _ _ e => ⟨o, es, ep, e, r⟩⟩
variable {b : Heap} {L : Addr} {m : Str → Option Value} {news : List (Addr × Obj)} {t : Addr} {n : Nat}
theorem dict_s {Q : Value → Shared → Prop} (F : Fr b L s.heap m) (N : News b L s.heap news) (hbig : sysModules < s.heap.objs.size) (hh : A.handled = none) (ho : s.heap.get? t = some (tupOf its.toArray n)) (hp : All2 (PairIn s.heap) its kvs) (hnd : (kvs.map (·.1)).Nodup) (hz : kvs.length ≤ 1000)
    (h : ∀ D h' tk o, Fr b L h' m → News b L h' ((D, o) :: news) → (∀ p ∈ news, p.1 < D) → (D == sysModules) = false → MapOb prog w o (valueAt kvs) → Q (.ref D) { s with heap := h', toks := tk }) :
    wpAny (model prog w) A (call (.type "dict") [.ref t]) Q E s := by
  refine callType_codes (Q₁ := fun obj s₁ => obj = .ref s.heap.objs.size ∧ s₁ = { s with heap := s.heap.push { cls := .type "dict", data := .dict #[] } }) PySem.F.kt_called_dict (PySem.F.kt_typeCall_dict_1 _) PySem.F.entry_dict_init (kt_code_dict_new _ ⟨rfl, rfl⟩) ?_
  rintro obj s₁ ⟨rfl, rfl⟩
  have hnew : (s.heap.push { cls := .type "dict", data := .dict #[] }).DictOf (PySem.strKind prog w) s.heap.objs.size [] := Heap.DictOf.new s.heap
  have up : s.heap.StaysIn (s.heap.push { cls := .type "dict", data := .dict #[] }) := fun a o e => Heap.get?_push_of_some _ e
  have hto := up _ _ ho
  have htl : t < s.heap.objs.size := Heap.lt_size ho
  have fresh : ∀ a, s.heap.objs.size ≤ a → s.heap.get? a = none := fun a ha => by
    cases e : s.heap.get? a with
    | none => rfl
    | some o' => exact absurd (Heap.lt_size e) (Nat.not_lt.mpr ha)
  refine ⟨hnew.typeIs, PySem.F.args_dict_init_2 _ _, ?_⟩
  unfold Builtin.«dict.__init__»
  refine wpAny_bind ?_
  unfold Builtin.Dict.selfAndRest
  refine wpAny_bind (wpAny_notOrdered_dict hnew.typeIs ?_)
  show wpAny _ _ (pure (s.heap.objs.size, [Value.ref t])) _ _ _
  refine wpAny_pure ?_
  show wpAny _ _ (Builtin.Dict.updateFrom "dict.__init__" s.heap.objs.size (.ref t) [] .none) _ _ _
  unfold Builtin.Dict.updateFrom
  refine wpAny_bind (wpAny_typeOf (T := "tuple") ⟨_, hto, rfl⟩ ?_)
  rw [if_pos (by decide)]
  refine wpAny_bind (keys_miss hto (by simpa using hh) fun h₁ tk₁ up₁ => ?_)
  simp only [Option.isNone_none, if_true]
  refine wpAny_bind (wpAny_rule ?_)
  have ht₁ : h₁.IsTuple t its.toArray := ⟨_, up₁ _ _ hto, rfl, _, rfl⟩
  refine wpAny_bind (wpAny_pyIter_tuple ht₁ ?_)
  have htI : t < h₁.objs.size := Heap.lt_size (up₁ _ _ hto)
  have hnew₁ : h₁.get? s.heap.objs.size = some { cls := .type "dict", data := .dict #[] } := up₁ _ _ (Heap.get?_push_size _ rfl)
  have hD₁ : s.heap.objs.size < h₁.objs.size := Heap.lt_size hnew₁
  have up₂ : h₁.StaysIn (h₁.push { cls := .type "tuple_iterator", data := .fields #[.ref t, .int 0 0] }) := fun a o e => Heap.get?_push_of_some _ e
  have W := (Walks.tuple (prog := prog) (w := w) (A := A.in1.in1) (by simpa using hh) h₁.objs.size t (Nat.ne_of_lt htI) its.toArray).toS
  have hlen : its.toArray.size = kvs.length := by simpa using hp.length
  rw [hlen] at W
  simp only [List.getElem?_toArray] at W
  refine wpAny_pure ⟨plainId_quiet plain_dict_update_loop _, dictLoop (b0 := s.heap) W ?_ hp hz ?_ (fresh _ (Nat.le_refl _)) (kvs.length - 0) 0 _ (by omega) (Nat.zero_le _) ⟨⟨_, Heap.get?_push_size _ rfl, rfl, rfl⟩, ht₁.push _⟩ (fun a o e => up₂ _ _ (up₁ _ _ (up _ _ e))) ?_ ?_⟩
  · simp only [List.mem_cons, List.not_mem_nil, or_false, not_or]
    exact ⟨Nat.ne_of_lt hD₁, Nat.ne_of_gt htl⟩
  · intro a ha
    rw [List.mem_singleton.mp ha]
    exact fresh _ (Nat.le_of_lt hD₁)
  · rw [List.take_zero]
    obtain ⟨o, es, ep, ho', r⟩ := hnew
    rw [Heap.get?_push_size _ rfl] at ho'
    cases ho'
    exact ⟨_, es, ep, up₂ _ _ hnew₁, r⟩
  · intro s' hm hS'
    rw [merged_nil_of_nodup kvs hnd] at hS'
    obtain ⟨o, ho', hmo⟩ := mapOb_of hS'.mapOf
    obtain ⟨h', g', d', tk', os'⟩ := s'
    have eg : g' = s.gens := hm.gens
    have ed : d' = s.drawn := hm.drawn
    have eo : os' = s.os := hm.os
    subst eg ed eo
    have old : ∀ a o', s.heap.get? a = some o' → h'.get? a = some o' := fun a o' e => hm.heap a o' (by
      simp only [List.mem_cons, List.not_mem_nil, or_false, not_or]
      exact ⟨Nat.ne_of_lt (Heap.lt_size e), Nat.ne_of_lt (Nat.lt_trans (Heap.lt_size e) hD₁)⟩) (up₂ _ _ (up₁ _ _ (up _ _ e)))
    have hLne : s.heap.objs.size ≠ L := by obtain ⟨oL, _, _, hL, _⟩ := F.ns; exact Nat.ne_of_gt (Heap.lt_size hL)
    refine ⟨rfl, h s.heap.objs.size h' tk' o (F.kept old) (fun p hp => ?_) (fun p hp => Heap.lt_size (N p hp).1) ?_ hmo⟩
    · rcases List.mem_cons.mp hp with rfl | hp
      · refine ⟨ho', hLne, ?_⟩
        cases hq : b.get? s.heap.objs.size with
        | none => rfl
        | some o' => exact absurd (Heap.lt_size (F.keep _ _ hq)) (Nat.lt_irrefl _)
      · exact ⟨old _ _ (N p hp).1, (N p hp).2⟩
    · exact beq_eq_false_iff_ne.mpr (Nat.ne_of_gt hbig)
end
end
end
section
open PySem PySem.W PyProof.Rows PySem.Calls
section
variable {D : List (Str × NameKind)} {n : Nat} {c : Cx D n} {X X' : List Addr} {g h h' : Heap} {l : List (Str × Value)} {P : Value → Heap → Prop} {N : Heap → List (Str × Value) → Prop}
theorem St.fnA (x : St c g l h) : ∃ m news, Fr hp0 c.L h m ∧ News hp0 c.L h news ∧ (∀ a o, a ≠ c.L → h.get? a = some o → (a, o) ∈ news) ∧ ∀ h', Fr hp0 c.L h' m → News hp0 c.L h' news → Kp [c.L] h h' ∧ Fv c h' l := by
  obtain ⟨m, n, r⟩ := x.2.2.ns
  have e0 : ∀ a, hp0.get? a = none := fun a => by
    cases q : hp0.get? a with
    | none => rfl
    | some o => exact absurd (Heap.lt_size q) (Nat.not_lt_zero _)
  have all : ∀ a o, a ≠ c.L → h.get? a = some o → (a, o) ∈ restOf hp0 h c.L [] := fun a o ne e => mem_restOf.mpr ⟨e, ne, (fun q => nomatch q), e0 _⟩
  refine ⟨m, restOf hp0 h c.L [], ⟨n, fun a o e => (by rw [e0] at e; cases e), Nat.zero_le _⟩, fun p hp => ?_, all, fun h' F' N' => ?_⟩
  · have z := mem_restOf.mp hp
    exact ⟨z.1, z.2.1, e0 _⟩
  · have k : ∀ a o, a ≠ c.L → h.get? a = some o → h'.get? a = some o := fun a o h1 e => (N' (a, o) (all a o h1 e)).1
    refine ⟨fun a o q e => ?_, ⟨⟨m, F'.ns, r⟩, fun y a e => ?_⟩⟩
    · by_cases h1 : a = c.L
      · subst h1
        obtain ⟨o', _, _, ho, hd, _⟩ := n
        rw [e] at ho; cases ho
        obtain ⟨_, _, _, h2⟩ := q (.head _)
        rw [h2] at hd; cases hd
      · exact k a o h1 e
    · obtain ⟨v, ⟨o, ho, hd⟩, r⟩ := x.2.2.cell y a e
      exact ⟨v, ⟨o, k a o (c.ab y a (mem_of_lookup e)) ho, hd⟩, r⟩
theorem St.newAt (x : St c g l h) {a : Addr} (lt : ∀ b o, b ≠ c.L → h.get? b = some o → b < a) (ne : a ≠ c.L) : New c g a := x.new (by
  cases q : h.get? a with
  | none => rfl
  | some o => exact absurd (lt a o ne q) (Nat.lt_irrefl _))
theorem New.up {g' : Heap} {a : Addr} (nw : New c g' a) (u : Up c X g g') (ha : a ∉ X) : New c g a := ⟨nw.b, nw.f, by
  cases q : g.get? a with
  | none => rfl
  | some o => have := u.get (fun z => (List.mem_append.mp z).elim nw.f ha) q; rw [nw.g] at this; cases this⟩
theorem Op.set {d : Addr} {vs : List Value} {xs : List Str} (hl : ListAt g d vs) (hd : d ∉ c.all) (hi : StrsAre vs xs) (hz : xs.length ≤ 1000) (hp : ∀ S o h', Up c [] g h' → S ∉ c.all → h'.get? S = some o → SetOb PR c.W.w o xs → P (.ref S) h') : Op c X g l (call (.type "set") [.ref d]) P := fun s Q E ok x1 p => by
  obtain ⟨k, e⟩ := hl
  obtain ⟨m, news, F, Nw, all, back⟩ := x1.fnA
  refine set_t F Nw c.room.h (all _ _ (fun q => hd (q ▸ all_L)) (x1.get hd e)) hi hz fun S h' tk o F' N' lt so => ?_
  obtain ⟨k2, f2⟩ := back h' F' fun q hq => N' q (.tail _ hq)
  have z := N' _ (.head _)
  have nw := x1.newAt (fun b o ne e => lt _ (all b o ne e)) z.2.1
  exact p _ h' s.drawn tk (k2.mono fun a q => by rw [List.mem_singleton.mp q]; exact .head _) f2 (hp S o h' (x1.up (X := []) k2) nw.f z.1 so)
theorem Op.sorted {S : Addr} {o : Obj} {xs ys : List Str} (ho : g.get? S = some o) (hS : S ∉ c.all) (so : SetOb PR c.W.w o xs) (hst : SortTo xs ys) (hp : ∀ d us h', Up c [] g h' → New c g d → ListAt h' d us → StrsAre us ys → P (.ref d) h') : Op c X g l (call (.builtin "sorted") [.ref S]) P := fun s Q E ok x1 p => by
  obtain ⟨m, news, F, Nw, all, back⟩ := x1.fnA
  refine sorted_t F Nw c.room.h (all _ _ (fun q => hS (q ▸ all_L)) (x1.get hS ho)) so hst fun D' h' d' tk us e F' N' lt hs => ?_
  obtain ⟨k2, f2⟩ := back h' F' fun q hq => N' q (.tail _ hq)
  have z := N' _ (.head _)
  have nw := x1.newAt (fun b o ne e => lt _ (all b o ne e)) z.2.1
  exact p _ h' d' tk (k2.mono fun a q => by rw [List.mem_singleton.mp q]; exact .head _) f2 (hp D' us h' (x1.up (X := []) k2) nw ⟨e, z.1⟩ hs)
end
theorem G_variables : IsG "variables" (.ref 107) := ⟨fun w => by k_is, fun w => by k_is⟩
theorem G_placed : IsG "placed" (.ref 112) := ⟨fun w => by k_is, fun w => by k_is⟩
theorem B_set : IsB "set" (.type "set") := ⟨fun w => by k_is, by boot_by_name, by decide⟩
theorem B_sorted : IsB "sorted" (.builtin "sorted") := ⟨fun w => by k_is, by boot_by_name, by decide⟩
theorem vars_some {us : List Value} : ∀ {ts : List T} {zs : List (Option Value)}, zs.length = ts.length → (∀ (i : Nat) z, zs[i]? = some z → ∃ r : T, ts[i]? = some r ∧ ((r.isVar = true ∧ ∃ tk, z = some (.str r.op tk)) ∨ (r.isVar = false ∧ z = none))) → StrsAre (zs.filterMap id) ((ts.filter T.isVar).map T.op)
  | [], [], _, _ => .nil
  | r :: ts, z :: zs, e, h => by
    have ih := vars_some (us := us) (ts := ts) (zs := zs) (Nat.succ.inj e) fun i z e => h (i + 1) z e
    obtain ⟨r', e', hr⟩ := h 0 z rfl
    cases e'
    rcases hr with ⟨h1, tk, rfl⟩ | ⟨h1, rfl⟩
    · rw [List.filter_cons, if_pos h1, List.filterMap_cons]
      exact .cons _ tk ih
    · rw [List.filter_cons, if_neg (by rw [h1]; exact Bool.false_ne_true), List.filterMap_cons]
      exact ih
  | [], _ :: _, e, _ => nomatch e
  | _ :: _, [], e, _ => nomatch e
theorem variables_f {W : Wd} {k : Nat} {t : T} {h : Heap} {v : Value} {xs ys : List Str} (hn : 1 ≤ k ∧ k ≤ 1000) (ht : TermAt h v t) (hd : t.depth ≤ k) (hz : t.size ≤ 1000) (hv : t.vars = xs) (hst : SortTo xs ys) : Fn W (k + 2) [] h (.ref 107) [v] fun x h' => ∃ d us, x = .ref d ∧ h.get? d = none ∧ ListAt h' d us ∧ StrsAre us ys := by
  obtain ⟨a, _, _, rfl, _, _⟩ := id ht.view
  refine' .enter [("t", .ref a)] ?ho ?hcd ?hbind ?hkind ?hnd ?_
  walk_at "K side"
  rintro c rfl _ _
  refine .ret (.callB (P' := fun vs h' => ∃ S o, vs = [.ref S] ∧ S ∉ c.all ∧ h'.get? S = some o ∧ SetOb PR c.W.w o xs) B_sorted (.one (.callTy (P' := fun vs h' => ∃ d us, vs = [.ref d] ∧ d ∉ c.all ∧ ListAt h' d us ∧ StrsAre us xs) B_set (.one (.filter (.list (P' := fun v h' => ∃ D us, v = .ref D ∧ ListAt h' D us ∧ All2 (PartAt h' k) us t.parts) (.callF G_parts (.cons .var .nil) fun vs g' nw u z => by
    rw [z.v1]; exact (parts_f k hn.2 t hd (ht.sub u.sub) hz).imp fun v h' k ⟨d, ys, e, _, r⟩ => ⟨d, ys, e, r⟩) fun v g' _ ⟨D, us, e, hl, r⟩ => ⟨(fun _ q => nomatch q), D, us, e, (fun q => nomatch q), hl.is⟩) fun m Pv g3 u3 ⟨D, us, ⟨D2, us2, e2, hl2, hus⟩, iD, em, ep⟩ => ?_)) fun vs g' u z => ?_)) fun vs g' u z => ?_)
  · cases e2
    obtain rfl := list_inj iD hl2
    subst em ep
    have hl0 : us.length = t.parts.length := hus.length
    have hlen : us.length ≤ 1000 := by rw [hl0, T.parts_len]; exact hz
    refine ⟨by omega, fun i y h => ∃ r : T, t.parts[i]? = some r ∧ ((r.isVar = true ∧ ∃ tk, y = some (.str r.op tk)) ∨ (r.isVar = false ∧ y = none)), fun i y h h' x _ => x, fun C cl kk j y h' hj hy st old => ?_, fun d' zs' h' nw u4 hl4 ⟨zs, z1, z2, z3⟩ => ?_⟩
    · obtain ⟨q, hq, p, pp, ll, w, rfl, i1, i2, hll, hw⟩ := hus.get hy
      have ts := TupSub.of st
      obtain ⟨pw, tkw, kw, rfl, iw, _⟩ := hw.view
      have iw := ts.tup iw
      refine ⟨_, .tupL (ns := ["path", "part"]) (ts.tup i1), .val (.callF G_is_variable (.cons .var .nil) fun vs g' nw u z => by
        rw [z.v1]
        exact (is_variable_f (hw.sub (ts.trans u.sub))).imp fun v h₂ k2 e => ⟨_, e, (fun e2 => .of (.item (a := .s q.op) .var ((u.sub.trans k2.sub).tup iw) ⟨_, rfl, ⟨_, rfl⟩⟩) fun v h3 u3 ⟨tk, e3⟩ => ⟨q, hq, .inl ⟨e2, tk, by rw [e3]⟩⟩), fun e2 => ⟨q, hq, .inr ⟨e2, rfl⟩⟩⟩)⟩
    · have := vars_some (us := []) (ts := t.parts) (z1.trans hl0) z3
      rw [← z2] at this
      exact ⟨d', zs', rfl, nw.f, hl4, hv ▸ this⟩
  · obtain ⟨d, us, rfl, hd, hl, hs⟩ := z
    have hlx : xs.length ≤ 1000 := by
      rw [← hv]
      unfold T.vars
      rw [List.length_map]
      exact Nat.le_trans (List.length_filter_le _ _) (by rw [T.parts_len]; exact hz)
    exact .set hl hd hs hlx fun S o h' _ hS e so => ⟨S, o, rfl, hS, e, so⟩
  · obtain ⟨S, o, rfl, hS, e, so⟩ := z
    exact .sorted e hS so hst fun d us h' u2 nw hl hs => ⟨d, us, rfl, (nw.up u fun q => nomatch q).g, hl, hs⟩
end
section
open PySem PySem.W PyProof.Rows PySem.Calls
section
variable {D : List (Str × NameKind)} {n : Nat} {c : Cx D n} {X X' : List Addr} {g h h' : Heap} {l : List (Str × Value)} {P : Value → Heap → Prop} {N : Heap → List (Str × Value) → Prop}
theorem Op.tuple {d : Addr} {vs : List Value} (hl : ListAt g d vs) (hd : d ∉ c.all) (hz : vs.length ≤ 16000) (hp : ∀ t h', Up c [] g h' → New c g t → ExTup h' t vs → P (.ref t) h') : Op c X g l (call (.type "tuple") [.ref d]) P := fun s Q E ok x1 p => by
  obtain ⟨k, e⟩ := hl
  refine call_tuple_list (s := s) ⟨_, x1.get hd e, rfl, _, rfl⟩ (fun h₁ hk => ?_) (by rw [List.size_toArray, sizeLine_eq]; omega)
  have up : s.heap.StaysIn (h₁.push { cls := .type "tuple", data := .seq vs.toArray }) := fun a o e => Heap.get?_push_of_some _ (hk a o e)
  have e0 : s.heap.get? h₁.objs.size = none := by
    cases q : s.heap.get? h₁.objs.size with
    | none => rfl
    | some o => exact absurd (Heap.lt_size (hk _ _ q)) (Nat.lt_irrefl _)
  exact p _ _ s.drawn s.toks (Kp.of up) (x1.2.2.keeps fun a _ o e => up a o e) (hp _ _ (x1.up (X := []) (Kp.of up)) (x1.new e0) ⟨0, Heap.get?_push_size _ rfl⟩)
theorem Cm.nin {d : Addr} {o : Obj} {f : Str → Option Value} {k : Str} (ho : g.get? d = some o) (hd : d ∉ c.all) (hm : MapOb PR c.W.w o f) (hds : (d == sysModules) = false) (h : Heap) (u v : Value) (x : St c g l h) (y : (At.s k).is u) (z : (At.v (.ref d)).is v) : Cm c h .NotIn u v (!(f k).isSome) := fun s Q E eh p => by
  obtain ⟨t, rfl⟩ := y
  obtain rfl : v = .ref d := z
  subst eh
  exact wpAny_notIn_of (knd := PySem.strKind PR c.W.w) (strKind_is _ _ _ _) hds (hm _ _ (x.get hd ho)) (p _)
end
theorem all_terms {h : Heap} {vs : List Value} {ts : List T} (x : All2 (TermAt h) vs ts) : TermsAt h vs ts := by
  induction x with
  | nil => exact .nil
  | cons y _ ih => exact .cons y ih
theorem subst_var {t sx sy : T} (h : t.isVar = true) : (if t.op = ("?x" : Str) then sx else sy) = t.subst sx sy := by
  cases t <;> first | (cases h; done) | rfl
theorem placed_f {W : Wd} {f : Str → Option Value} {sx sy : T} {d : Addr} {o : Obj} (hm : MapOb PR W.w o f) (hds : (d == sysModules) = false) : ∀ n, n ≤ 1000 → ∀ t : T, t.depth ≤ n → ∀ {h : Heap} {v : Value}, TermAt h v t → h.get? d = some o → (∀ x ∈ t.vars, ∃ u, f x = some u ∧ TermAt h u (if x = ("?x" : Str) then sx else sy)) →
    Fn W (n + 2) [] h (.ref 112) [v, .ref d] fun x h' => TermAt h' x (t.subst sx sy) := by
  intro n
  induction n with
  | zero => intro _ t h; have := t.depth_pos; omega
  | succ n ih =>
  intro hn t hd h v ht ho hs
  obtain ⟨a, tk, ks, rfl, it, hk⟩ := ht.view
  have hb2 : ks.length ≤ 2 := hk.length ▸ t.kids_le
  refine' .enter [("table", .ref d), ("pattern", .ref a)] ?ho ?hcd ?hbind ?hkind ?hnd ?_
  walk_at "K side"
  rintro c rfl _ old
  have hdn := old d o ho
  refine .iteR (X := []) (Pt := fun β _ => β = !t.isVar) (.not (.val (.callF G_is_variable (.cons .var .nil) fun vs g' nw u z => by
    rw [z.v1]; exact (is_variable_f (ht.sub u.sub)).imp fun v h₂ k2 e => ⟨_, e, rfl⟩))) (fun g1 u1 z => ?_) fun g1 u1 z => ?_
  · have hiv : t.isVar = false := by cases e : t.isVar with | false => rfl | true => rw [e] at z; cases z
    have i1 := u1.sub.tup it
    refine .ret (.bin (P' := fun v h' => ∃ p, v = .ref p ∧ IsTup h' p [.str t.op tk].toArray) (.tup (.cons (.item (a := .v (.str t.op tk)) .var i1 ⟨_, rfl, rfl⟩) .nil) fun vs p h' u nw z i => ⟨p, rfl, z.v1 ▸ i.tup⟩) fun v g2 u2 ⟨p, e, ip⟩ => ?_)
    subst e
    have hkk := terms_all hk
    refine .callTy (P' := fun vs h' => ∃ e us, vs = [.ref e] ∧ e ∉ c.all ∧ ListAt h' e us ∧ All2 (TermAt h') us (t.kids.map fun u => u.subst sx sy) ∧ IsTup h' p [.str t.op tk].toArray) B_tuple (.one (.map (.tup (P' := fun v h' => ∃ q, v = .ref q ∧ IsTup h' q ks.toArray) (.tail .var (u2.sub.tup i1) (Nat.le_add_left _ _) (by simp only [List.length_cons]; omega) fun q h' u nw i => ⟨q, rfl, i.tup⟩) fun v g' _ ⟨q, e, i⟩ => ⟨(fun _ q => nomatch q), q, ks, e, (fun q => nomatch q), i⟩) fun m Pv g3 u3 ⟨q, us, ⟨q2, e2, i2⟩, i3, em, ep⟩ => ?_)) fun vs g' u ⟨e, us, ev, he, hl, hus, ip⟩ => ?_
    · cases e2
      obtain rfl := tup_inj i3 i2
      subst em ep
      have s3 : TupSub h g3 := u1.sub.trans (u2.sub.trans u3.sub)
      have d3 : g3.get? d = some o := u3.get (by rw [List.append_nil]; exact hdn) (u2.get (by rw [List.append_nil]; exact hdn) (u1.get (by rw [List.append_nil]; exact hdn) ho))
      refine ⟨by omega, fun i y h => ∃ r, (t.kids.map fun u => u.subst sx sy)[i]? = some r ∧ TermAt h y r, fun i y h h' ⟨r, e, x⟩ ts => ⟨r, e, x.sub ts⟩, fun C cl kk j y h' hj hy st old2 => ?_, fun e zs' h' nw u4 hl4 z => ⟨e, zs', rfl, nw.f, hl4, all2_of (z.1.trans (by rw [List.length_map, hk.length])) z.2, u4.sub.tup (u3.sub.tup ip)⟩⟩
      obtain ⟨r, hr, hxr⟩ := hkk.get hy
      have hmem : r ∈ t.kids := List.mem_of_getElem? hr
      have s4 : TupSub h h' := s3.trans (TupSub.of st)
      refine ⟨_, .nameL, .callF G_placed (.cons .var (.cons .var .nil)) fun vs g' nw u z => by
        rw [z.v2]
        exact (ih (by omega) r (by have := (kid_lt hmem).1; omega) (hxr.sub (s4.trans u.sub)) (u.get (by rw [List.append_nil]; exact old2 _ _ d3 hdn) (st _ _ d3)) fun x hx => (hs x (vars_kids hmem hx)).imp fun w e => ⟨e.1, e.2.sub (s4.trans u.sub)⟩).imp fun v h' k e => ⟨_, by rw [List.getElem?_map, hr]; rfl, e⟩⟩
    · subst ev
      refine .tuple hl he (by rw [hus.length, List.length_map]; have := t.kids_le; omega) fun q h' u5 nw i5 => .addT (u5.sub.tup ip) i5.tup (by rw [hus.length, List.length_map, List.length_singleton]; have := t.kids_le; omega) fun r h6 u6 i6 => ?_
      refine TermAt.mk (tk := tk) (vs := us) ?_ ?_
      · rw [subst_op hiv]; exact i6
      · rw [subst_kids hiv]
        exact all_terms (hus.imp fun _ _ x => x.sub (u5.sub.trans u6.sub))
  · have hiv : t.isVar = true := by cases e : t.isVar with | true => rfl | false => rw [e] at z; cases z
    obtain ⟨u, hf, hu⟩ := hs _ (vars_self hiv)
    have i1 := u1.sub.tup it
    have d1 : g1.get? d = some o := u1.get (by rw [List.append_nil]; exact hdn) ho
    have e1 : (!(f t.op).isSome) = false := by rw [hf]; rfl
    refine .itF (e1 ▸ .cmp (.item (a := .s t.op) .var i1 ⟨_, rfl, ⟨_, rfl⟩⟩) .var (Cm.nin d1 hdn hm hds) rfl) (.ret (.ofV (.itemD .var (.item (a := .s t.op) .var i1 ⟨_, rfl, ⟨_, rfl⟩⟩) d1 hdn hm hf) fun h' u2 => ?_))
    rw [← subst_var hiv]
    exact hu.sub (u1.sub.trans u2.sub)
end
section
open PySem PySem.W PyProof.Rows PySem.Calls
section
variable {D : List (Str × NameKind)} {n : Nat} {c : Cx D n} {X X' : List Addr} {g h h' : Heap} {l : List (Str × Value)} {P : Value → Heap → Prop} {N : Heap → List (Str × Value) → Prop}
theorem Ev0.bool {b : Bool} {k : Nat} {pos : Pos} : Ev0 c g l (.Constant (.bool b) k pos) (.v (.bool b)) := fun s _ _ _ p => wpAny_Constant_bool (p _ s.toks rfl)
theorem Tr.orF0 {e : Expr} {es : List Expr} {pos : Pos} {P : Bool → Heap → Prop} (x : Tr0 c g l e false) (y : Tr c X g l (.BoolOp .Or es pos) P) : Tr c X g l (.BoolOp .Or (e :: es) pos) P := .mk fun s Q E ok x1 p => isTrue_or (x s _ E x1 fun tk => by
  show wpAny _ c.A (isTrue _ c.env _) _ _ _
  rw [isTrue_whole (v := eval (.BoolOp .Or es pos) c.env)]
  exact y.run { s with toks := tk } Q E ok x1 p)
/-- x in (texts) where x is plain -/
theorem Tr.inL {e : Expr} {es : List Expr} {k : Nat} {p1 pos : Pos} {ys : List Str} {a : Str} (x : Ev0 c g l e (.s a)) (lits : ∀ g, EvL0 c g l es (ys.map At.s))
    (hz : ys.length ≤ 100 := by exact Nat.le_of_ble_eq_true rfl) (hm : behindInMarks .In (.Tuple es k p1) = false := by with_unfolding_all rfl) : Tr c X g l (.Compare e [.In] [.Tuple es k p1] pos) fun β _ => β = ys.any (· == a) :=
  .inLits (P' := fun v _ => (At.s a).is v) (.of x fun v h' _ z => z) lits (fun v g' h' _ z _ => ⟨a, z, rfl⟩) (fun v g' z => ⟨a, z⟩) hz hm
end
/-- what lies within a paper -/
theorem PaperAt.view2 {h : Heap} {v : Value} {p : P} (x : PaperAt h v p) : ∃ a tk vs, v = .ref a ∧ IsTup h a (.str p.kind tk :: vs).toArray ∧
    ((([("turn" : Str), "join"].any (· == p.kind)) = true ∧ 1 ≤ vs.length ∧ vs.length ≤ 2 ∧ All2 (PaperAt h) vs p.kids) ∨ (([("turn" : Str), "join"].any (· == p.kind)) = false ∧ (p.kind == "under") = true ∧ ∃ x q us, vs = [x, .ref q] ∧ IsTup h q us.toArray ∧ All2 (PaperAt h) us p.kids) ∨ (([("turn" : Str), "join"].any (· == p.kind)) = false ∧ (p.kind == "under") = false ∧ p.kids = [])) := by
  cases x with
  | same i => exact ⟨_, _, _, rfl, i, .inr (.inr ⟨by kernel_rfl, by kernel_rfl, rfl⟩)⟩
  | told i => exact ⟨_, _, _, rfl, i, .inr (.inr ⟨by kernel_rfl, by kernel_rfl, rfl⟩)⟩
  | twice i => exact ⟨_, _, _, rfl, i, .inr (.inr ⟨by kernel_rfl, by kernel_rfl, rfl⟩)⟩
  | swap i => exact ⟨_, _, _, rfl, i, .inr (.inr ⟨by kernel_rfl, by kernel_rfl, rfl⟩)⟩
  | turn i y => exact ⟨_, _, _, rfl, i, .inl ⟨by kernel_rfl, Nat.le_refl _, Nat.le_succ _, .cons y .nil⟩⟩
  | join i y z => exact ⟨_, _, _, rfl, i, .inl ⟨by kernel_rfl, Nat.le_succ _, Nat.le_refl _, .cons y (.cons z .nil)⟩⟩
  | under1 i j y => exact ⟨_, _, _, rfl, i, .inr (.inl ⟨by kernel_rfl, by kernel_rfl, _, _, _, rfl, j, .cons y .nil⟩)⟩
  | under2 i j y z => exact ⟨_, _, _, rfl, i, .inr (.inl ⟨by kernel_rfl, by kernel_rfl, _, _, _, rfl, j, .cons y (.cons z .nil)⟩)⟩
theorem G_is_plain_term : IsG "is_plain_term" (.ref 131) := ⟨fun w => by k_is, fun w => by k_is⟩
theorem parts_of_f {W : Wd} {h : Heap} {v : Value} {p : P} (hp : PaperAt h v p) : Fn W 2 [] h (.ref 124) [v] fun x h' => ∃ d vs, x = .ref d ∧ IsTup h' d (List.toArray vs) ∧ All2 (PaperAt h') vs p.kids := by
  obtain ⟨a, tk, vs, rfl, it, hc⟩ := hp.view2
  refine' .enter [("paper", .ref a)] ?ho ?hcd ?hbind ?hkind ?hnd ?_
  walk_at "K side"
  rintro c rfl _ _
  refine .iteR (X := []) (.inL (a := p.kind) (ys := ["turn", "join"]) (.item .var it ⟨_, rfl, ⟨_, rfl⟩⟩) fun g => .str (.str .nil)) (fun g1 u1 z => ?_) fun g1 u1 z => ?_
  · rcases hc with ⟨_, h1, h2, hk⟩ | ⟨e, _⟩ | ⟨e, _⟩
    · exact .ret (.tail .var (u1.sub.tup it) (Nat.le_add_left _ _) (by simp only [List.length_cons]; omega) fun d h' u nw i => ⟨d, vs, rfl, i.tup, hk.imp fun _ _ x => x.sub (u1.sub.trans u.sub)⟩)
    · rw [e] at z; cases z
    · rw [e] at z; cases z
  · rcases hc with ⟨e, _⟩ | ⟨_, e, x, q, us, rfl, iq, hk⟩ | ⟨_, e, hk⟩
    · rw [e] at z; cases z
    · exact .ret (.ite0 (.itemIs (i := 0) (u1.sub.tup it)) (fun _ => .ofV (.itemV (i := 2) (u1.sub.tup it)) fun h' u => ⟨q, us, rfl, u.sub.tup (u1.sub.tup iq), hk.imp fun _ _ x => x.sub (u1.sub.trans u.sub)⟩) fun e2 => by rw [e] at e2; cases e2)
    · exact .ret (.ite0 (.itemIs (i := 0) (u1.sub.tup it)) (fun e2 => by rw [e] at e2; cases e2) fun _ => .unit fun d h' u nw i => ⟨d, [], rfl, i.tup, by rw [hk]; exact .nil⟩)
theorem lenIs0 {v : Value} {us : List Value} : ((((v :: us).length : Nat) : Int) == 0) = false := by rw [List.length_cons, beq_eq_false_iff_ne]; omega
theorem is_plain_term_f {W : Wd} {h : Heap} {v : Value} {t : T} (ht : TermAt h v t) (hp : t.plain) (hz : t.size ≤ 1000) : Fn W 2 [] h (.ref 131) [v] fun x _ => x = .bool true := by
  refine' .enter [("thing", v)] ?ho ?hcd ?hbind ?hkind ?hnd ?_
  walk_at "K side"
  rintro c rfl _ _
  refine .assign (P' := fun x h' => ∃ d, x = .ref d ∧ New c h d ∧ ListAt h' d [v]) (.list (.var .nil) fun vs d h' u nw z e => ⟨d, rfl, nw, z.v1 ▸ ⟨0, e⟩⟩) fun x g1 u1 ⟨d, e, nd, hl⟩ => ?_
  subst e
  refine .while (fun k l g => l.lookup ("waiting" : Str) = some (.ref d) ∧ ∃ vs ts, ListAt g d vs ∧ All2 (TermAt g) vs ts ∧ (∀ t ∈ ts, t.plain) ∧ (ts.map T.size).sum = k ∧ k ≤ 1000) t.size ⟨rfl, [v], [t], hl, .one (ht.sub u1.sub), (fun t h => by rw [List.mem_singleton.mp h]; exact hp), by simp, hz⟩ ?_
  rintro k l₁ h₁ ⟨hf, vs, ts, hl, hts, hpl, hs, hk⟩
  have hlen : vs.length ≤ 1000 := by
    rw [hts.length]
    refine Nat.le_trans ?_ (hs ▸ hk)
    clear hs hpl hts
    induction ts with
    | nil => exact Nat.le_refl _
    | cons t ts ih => simp only [List.map_cons, List.sum_cons, List.length_cons]; have := t.size_pos; omega
  refine ⟨[], fun β _ => β = decide (((vs.length : Nat) : Int) > 0), okX.nil, .of (.cmp (.lenL B_len (.var (hv := hf)) hl.is nd.f (by omega)) .int Cm.gtI rfl) fun _ _ => rfl, fun h₂ u2 z => ?_, fun h₂ u2 z => .ret (.ofV .bool fun h' u => rfl)⟩
  have hne : vs ≠ [] := fun e => by rw [e] at z; cases z
  have hl2 : ListAt h₂ d vs := hl.keep u2 (by rw [List.append_nil]; exact nd.f)
  have hts2 := hts.imp fun _ _ (x : TermAt h₁ _ _) => x.sub u2.sub
  clear hts hl
  obtain ⟨vs, v', rfl⟩ : ∃ us u, vs = us ++ [u] := ⟨vs.dropLast, vs.getLast hne, (List.dropLast_concat_getLast hne).symm⟩
  obtain ⟨ts, t', rfl, hts, ht'⟩ := hts2.snoc
  have hv1 : vs.length ≤ 1000 := by simp only [List.length_append, List.length_singleton] at hlen; omega
  refine .assign (X := [d]) (P' := fun v h' => v = v' ∧ ListAt h' d vs) (.methL0 (.var (hv := hf)) hl2 nd.f PySem.F.slot_list_pop PySem.F.type_list_pop (.pop hl2 (.head _) (by omega) fun h' u hl => ⟨rfl, hl⟩)) (fun x h₃ u3 ⟨e, hl3⟩ => ?_) nd.ok
  subst e
  have hp' := hpl t' (List.mem_append_right _ (.head _))
  obtain ⟨a, tk, us, rfl, it, hk⟩ := (ht'.sub u3.sub).view
  have hb2 : us.length ≤ 2 := hk.length ▸ t'.kids_le
  have hkk := terms_all hk
  refine .iteR (X := []) (Pt := fun β _ => β = false) (.orF0 (.not (.val (.isiT B_isinstance B_tuple .var it))) (.orF0 (lenIs0 ▸ .cmp (.lenT B_len .var it (by simp only [List.length_cons]; omega)) .int Cm.eqI rfl) (.orF0 (.not (.val (.isiS B_isinstance B_str (.item (a := .s t'.op) .var it ⟨_, rfl, ⟨_, rfl⟩⟩)))) (.or (P' := fun β _ => β = false) (.inLits (ys := ["", "?"]) (P' := fun v _ => (At.s (Txt.slice t'.op none (some 1))).is v) (.cut (.item (a := .s t'.op) .var it ⟨_, rfl, ⟨_, rfl⟩⟩) (fun v h' _ z => z) (op_short t')) (fun g => .str (.str .nil)) (fun v g' h' _ z _ => ⟨_, z, plain_first (T.plain_op hp')⟩) fun v g' z => ⟨_, z⟩) (fun g' _ _ => .orN fun _ _ => rfl) fun _ _ e => nomatch e)))) (fun g' _ e => nomatch e) fun h₄ u4 _ => ?_
  have hl4 : ListAt h₄ d vs := hl3.keep u4 (by rw [List.append_nil]; exact nd.f)
  refine .expr (X := [d]) (P' := fun v h' => v = .none ∧ ListAt h' d (vs ++ us) ∧ Up c [d] h₄ h') (.methL (P' := fun ws h' => ∃ q, ws = [.ref q] ∧ ExTup h' q us) (.var (hv := hf)) hl4 nd.f PySem.F.slot_list_extend PySem.F.type_list_extend (.one (.tail .var (u4.sub.tup it) (Nat.le_add_left _ _) (by simp only [List.length_cons]; omega) fun q h' u nw i => ⟨q, rfl, i⟩)) fun ws g' u ⟨q, e, i⟩ => ?_) (fun v g' u ⟨e, hl6, u6⟩ => ?_) nd.ok
  · subst e
    exact .extT (hl4.keep u (by rw [List.append_nil]; exact nd.f)) i (.head _) (by omega) fun h' u7 hl => ⟨rfl, hl, (u.mono fun a q => by rw [List.append_nil] at q; exact List.mem_append_left _ q).trans u7⟩
  · subst e
    have ks := t'.kids_size
    rw [List.map_append, List.sum_append, List.map_cons, List.map_nil, List.sum_cons, List.sum_nil] at hs
    refine ⟨(fun t q => nomatch q), .nil ⟨((ts ++ t'.kids).map T.size).sum, ?_, hf, _, _, hl6, (hts.imp fun _ _ x => x.sub (u3.sub.trans (u4.sub.trans u6.sub))).append (hkk.imp fun _ _ x => x.sub (u4.sub.trans u6.sub)), fun u hu => (List.mem_append.mp hu).elim (fun z => hpl u (List.mem_append_left _ z)) (T.kids_plain hp' u), rfl, ?_⟩⟩
    · rw [List.map_append, List.sum_append]; omega
    · rw [List.map_append, List.sum_append]; omega
end
section
open PySem PySem.W PyProof.Rows
section
open PySem PySem.W PyProof.Rows PySem.Calls PySem.SeqAt
/-- equal to the depth n -/
noncomputable def Deep (h : Heap) : Nat → Value → Value → Prop
  | 0, v, u => v = u ∨ (∃ x t t', v = .str x t ∧ u = .str x t') ∨ (∃ i t t', v = .int i t ∧ u = .int i t')
  | n + 1, v, u => (v = u ∨ (∃ x t t', v = .str x t ∧ u = .str x t') ∨ (∃ i t t', v = .int i t ∧ u = .int i t')) ∨ ∃ a b l l', v = .ref a ∧ u = .ref b ∧ IsTup h a (List.toArray l) ∧ IsTup h b (List.toArray l') ∧ All2 (Deep h n) l l'
theorem Deep.flat {h : Heap} {n : Nat} {v u : Value} (x : v = u ∨ (∃ x t t', v = .str x t ∧ u = .str x t') ∨ (∃ i t t', v = .int i t ∧ u = .int i t')) : Deep h n v u := by
  cases n with
  | zero => exact x
  | succ n => exact .inl x
theorem Deep.refl {h : Heap} {n : Nat} (v : Value) : Deep h n v v := .flat (.inl rfl)
theorem Deep.str {h : Heap} {n : Nat} (x : Str) (t t' : Tok) : Deep h n (.str x t) (.str x t') := .flat (.inr (.inl ⟨x, t, t', rfl, rfl⟩))
theorem Deep.tup {h : Heap} {n : Nat} {a b : Addr} {l l' : List Value} (x : IsTup h a l.toArray) (y : IsTup h b l'.toArray) (z : All2 (Deep h n) l l') : Deep h (n + 1) (.ref a) (.ref b) := .inr ⟨a, b, l, l', rfl, rfl, x, y, z⟩
theorem Deep.mono {h : Heap} : ∀ {n m : Nat} {v u : Value}, n ≤ m → Deep h n v u → Deep h m v u
  | 0, _, _, _, _, x => .flat x
  | n + 1, 0, _, _, hl, _ => absurd hl (Nat.not_succ_le_zero _)
  | n + 1, m + 1, _, _, hl, x => by
    rcases x with x | ⟨a, b, l, l', e1, e2, i, j, z⟩
    · exact .flat x
    · exact .inr ⟨a, b, l, l', e1, e2, i, j, z.imp fun _ _ y => y.mono (Nat.le_of_succ_le_succ hl)⟩
theorem all_true {n : Nat} : ((List.range n).all fun _ => true) = true := by simp
theorem All2.ix {α β : Type} {R : α → β → Prop} {xs : List α} {ys : List β} (a : All2 R xs ys) {i : Nat} (h1 : i < xs.length) (h2 : i < ys.length) : R xs[i] ys[i] := by
  obtain ⟨y, e, r⟩ := a.get (List.getElem?_eq_getElem h1)
  rw [List.getElem?_eq_getElem h2] at e
  cases e; exact r
section
variable {s : Shared} {a b : Addr} {l l' : List Value} {n : Nat}
theorem rc_tups {A : Around} (hu : A.units < cLine) (x : IsTup s.heap a l.toArray) (y : IsTup s.heap b l'.toArray) (z : All2 (fun v u => EqAt A.in1 s v u true) l l') : RcAt A s (.ref a) (.ref b) true := by
  have hl := z.length
  have := RcAt.tuples (e := fun _ => true) x y hu fun j h1 h2 => by
    simp only [List.getElem_toArray]
    exact z.ix (by simpa using h1) (by simpa using h2)
  rw [all_true] at this
  simpa [hl] using this
theorem rne_tups {A : Around} (hu : A.units < cLine) (x : IsTup s.heap a l.toArray) (y : IsTup s.heap b l'.toArray) (z : All2 (fun v u => EqAt A.in1 s v u true) l l') : RcNeAt A s (.ref a) (.ref b) false := by
  have hl := z.length
  have := RcNeAt.tuples (e := fun _ => true) x y hu fun j h1 h2 => by
    simp only [List.getElem_toArray]
    exact z.ix (by simpa using h1) (by simpa using h2)
  rw [all_true] at this
  simpa [hl] using this
theorem Deep.eq : ∀ {n : Nat} {v u : Value} {A : Around}, A.units + n < cLine → Deep s.heap n v u → EqAt A s v u true
  | 0, v, u, A, hu, x => by
    rcases x with rfl | ⟨x, t, t', rfl, rfl⟩ | ⟨i, t, t', rfl, rfl⟩
    · exact EqAt.same _
    · have := EqAt.str_str (A := A) (s := s) x t x t'; simpa using this
    · have := EqAt.int_int (A := A) (s := s) i t i t'; simpa using this
  | n + 1, v, u, A, hu, x => by
    rcases x with (rfl | ⟨x, t, t', rfl, rfl⟩ | ⟨i, t, t', rfl, rfl⟩) | ⟨a, b, l, l', rfl, rfl, i, j, z⟩
    · exact EqAt.same _
    · have := EqAt.str_str (A := A) (s := s) x t x t'; simpa using this
    · have := EqAt.int_int (A := A) (s := s) i t i t'; simpa using this
    · by_cases hne : a = b
      · subst hne; exact EqAt.same _
      · exact EqAt.of_refs hne (rc_tups (by omega) i j (z.imp fun _ _ y => y.eq (by show A.units + 1 + n < cLine; omega)))
/-- two tuples that are equal to a depth, compared -/
theorem Deep.rc {A : Around} (hu : A.units + 1 + n < cLine) (x : IsTup s.heap a l.toArray) (y : IsTup s.heap b l'.toArray) (z : All2 (Deep s.heap n) l l') : RcAt A s (.ref a) (.ref b) true :=
  rc_tups (by omega) x y (z.imp fun _ _ y => y.eq (by show A.units + 1 + n < cLine; omega))
theorem Deep.rne {A : Around} (hu : A.units + 1 + n < cLine) (x : IsTup s.heap a l.toArray) (y : IsTup s.heap b l'.toArray) (z : All2 (Deep s.heap n) l l') : RcNeAt A s (.ref a) (.ref b) false :=
  rne_tups (by omega) x y (z.imp fun _ _ y => y.eq (by show A.units + 1 + n < cLine; omega))
theorem rc_lists {A : Around} (hu : A.units < cLine) (x : s.heap.IsList a l.toArray) (y : s.heap.IsList b l'.toArray) (z : All2 (fun v u => EqAt A.in1 s v u true) l l') : RcAt A s (.ref a) (.ref b) true := by
  have hl := z.length
  have := RcAt.lists (e := fun _ => true) x y (by simpa using hl) hu fun j h1 h2 => by
    simp only [List.getElem_toArray]
    exact z.ix (by simpa using h1) (by simpa using h2)
  rwa [all_true] at this
theorem rne_lists {A : Around} (hu : A.units < cLine) (x : s.heap.IsList a l.toArray) (y : s.heap.IsList b l'.toArray) (z : All2 (fun v u => EqAt A.in1 s v u true) l l') : RcNeAt A s (.ref a) (.ref b) false := by
  have hl := z.length
  have := RcNeAt.lists (e := fun _ => true) x y (by simpa using hl) hu fun j h1 h2 => by
    simp only [List.getElem_toArray]
    exact z.ix (by simpa using h1) (by simpa using h2)
  rwa [all_true] at this
end
theorem strs_deep {h : Heap} {vs us : List Value} {xs : List Str} (x : StrsAre vs xs) (y : StrsAre us xs) : All2 (Deep h 0) vs us := by
  induction x generalizing us with
  | nil => cases y; exact .nil
  | cons k t _ ih => cases y with | cons _ t' y => exact .cons (.str k t t') (ih y)
section
variable {prog : Program} {w : World} {A : Around} {E : Value → Shared → Prop} {s : Shared} {b : Heap} {L p q : Addr} {m : Str → Option Value} {news : List (Addr × Obj)} {vs us : List Value} {n1 n2 n : Nat} {Q : Value → Shared → Prop}
theorem eqT_t (x : IsTup s.heap p vs.toArray) (y : IsTup s.heap q us.toArray) (z : All2 (Deep s.heap n) vs us) (hu : A.units + 1 + n < cLine) (h : Q (.bool true) s) :
    wpAny (model prog w) A (compareOp .Eq (.ref p) (.ref q)) Q E s := Deep.rc hu x y z prog w E Q h
theorem neT_t (x : IsTup s.heap p vs.toArray) (y : IsTup s.heap q us.toArray) (z : All2 (Deep s.heap n) vs us) (hu : A.units + 1 + n < cLine) (h : Q (.bool false) s) :
    wpAny (model prog w) A (compareOp .NotEq (.ref p) (.ref q)) Q E s := Deep.rne hu x y z prog w E Q h
end
theorem All2.refl {h : Heap} {n : Nat} : ∀ l : List Value, All2 (Deep h n) l l
  | [] => .nil
  | v :: l => .cons (.refl v) (All2.refl l)
section
variable {prog : Program} {w : World} {A : Around} {E : Value → Shared → Prop} {s : Shared} {p q : Addr} {l : List Value} {n : Nat} {Q : Value → Shared → Prop}
theorem deep_tups {h : Heap} (x : IsTup h p l.toArray) (d : Deep h n (.ref p) (.ref q)) : ∃ l1 l2, IsTup h p (List.toArray l1) ∧ IsTup h q (List.toArray l2) ∧ All2 (Deep h n) l1 l2 := by
  have same : p = q → ∃ l1 l2, IsTup h p (List.toArray l1) ∧ IsTup h q (List.toArray l2) ∧ All2 (Deep h n) l1 l2 := fun e => ⟨l, l, x, e ▸ x, All2.refl l⟩
  have flat : ((Value.ref p) = .ref q ∨ (∃ x t t', (Value.ref p) = .str x t ∧ (Value.ref q) = .str x t') ∨ (∃ i t t', (Value.ref p) = .int i t ∧ (Value.ref q) = .int i t')) → p = q := by
    rintro (e | ⟨_, _, _, e, _⟩ | ⟨_, _, _, e, _⟩)
    · exact Value.ref.inj e
    · cases e
    · cases e
  cases n with
  | zero => exact same (flat d)
  | succ n =>
    rcases d with d | ⟨a, b, l1, l2, e1, e2, i, j, z⟩
    · exact same (flat d)
    · cases e1; cases e2
      exact ⟨l1, l2, i, j, z.imp fun _ _ y => y.mono (Nat.le_succ _)⟩
theorem neD_t (hu : A.units + 1 + n < cLine) (x : IsTup s.heap p l.toArray) (d : Deep s.heap n (.ref p) (.ref q)) (h : Q (.bool false) s) : wpAny (model prog w) A (compareOp .NotEq (.ref p) (.ref q)) Q E s :=
  let ⟨_, _, i, j, z⟩ := deep_tups x d
  neT_t i j z hu h
end
theorem TermAt.deep {h : Heap} {v u : Value} {t : T} (x : TermAt h v t) (y : TermAt h u t) : Deep h t.depth v u := by
  induction x generalizing u with
  | a i => cases y with | a j => exact .tup i j (.one (.str _ _ _))
  | b i => cases y with | b j => exact .tup i j (.one (.str _ _ _))
  | lf i => cases y with | lf j => exact .tup i j (.one (.str _ _ _))
  | lg i => cases y with | lg j => exact .tup i j (.one (.str _ _ _))
  | vx i => cases y with | vx j => exact .tup i j (.one (.str _ _ _))
  | vy i => cases y with | vy j => exact .tup i j (.one (.str _ _ _))
  | f i _ ih => cases y with | f j y => exact .tup i j (.cons (.str _ _ _) (.one (ih y)))
  | g i _ _ ih ih' => cases y with | g j y y' => exact .tup i j (.cons (.str _ _ _) (.cons ((ih y).mono (Nat.le_max_left _ _)) (.one ((ih' y').mono (Nat.le_max_right _ _)))))
theorem PaperAt.deep {h : Heap} {v u : Value} {p : P} (x : PaperAt h v p) (y : PaperAt h u p) : Deep h p.dep v u := by
  induction x generalizing u with
  | same i t => cases y with | same j t' => exact .tup i j (.cons (.str _ _ _) (.one (t.deep t')))
  | told i => cases y with | told j => exact .tup i j (.cons (.str _ _ _) (.one (.str _ _ _)))
  | twice i e i1 t => cases y with | twice j e' j1 t' => exact .tup i j (.cons (.str _ _ _) (.cons (.str _ _ _) (.one (.tup e.tup e'.tup (.one (.tup i1 j1 (.cons (.str _ _ _) (.one (t.deep t')))))))))
  | swap i e i1 t i2 t2 => cases y with | swap j e' j1 t' j2 t2' => exact .tup i j (.cons (.str _ _ _) (.cons (.str _ _ _) (.one (.tup e.tup e'.tup
      (.cons (.tup i1 j1 (.cons (.str _ _ _) (.one ((t.deep t').mono (Nat.le_max_left _ _))))) (.one (.tup i2 j2 (.cons (.str _ _ _) (.one ((t2.deep t2').mono (Nat.le_max_right _ _)))))))))))
  | turn i _ ih => cases y with | turn j y => exact .tup i j (.cons (.str _ _ _) (.one (ih y)))
  | join i _ _ ih ih' => cases y with | join j y y' => exact .tup i j (.cons (.str _ _ _) (.cons ((ih y).mono (Nat.le_max_left _ _)) (.one ((ih' y').mono (Nat.le_max_right _ _)))))
  | under1 i i1 _ ih => cases y with | under1 j j1 y => exact .tup i j (.cons (.str _ _ _) (.cons (.str _ _ _) (.one (.tup i1 j1 (.one (ih y))))))
  | under2 i i1 _ _ ih ih' => cases y with | under2 j j1 y y' => exact .tup i j (.cons (.str _ _ _) (.cons (.str _ _ _) (.one (.tup i1 j1 (.cons ((ih y).mono (Nat.le_max_left _ _)) (.one ((ih' y').mono (Nat.le_max_right _ _))))))))
end
end
section
open PySem PySem.W PyProof.Rows PySem.Calls
section
variable {D : List (Str × NameKind)} {n : Nat} {c : Cx D n} {X X' : List Addr} {g h h' : Heap} {l : List (Str × Value)} {P : Value → Heap → Prop} {N : Heap → List (Str × Value) → Prop}
theorem Cx.units (c : Cx D n) : c.A.units + 20 * n < cLine := c.room.u
theorem Cm.neI {a b : Int} (h : Heap) (u v : Value) (_ : St c g l h) (x : (At.i a).is u) (y : (At.i b).is v) : Cm c h .NotEq u v (a != b) := fun s Q E _ p => by
  obtain ⟨t, rfl⟩ := x
  obtain ⟨t', rfl⟩ := y
  exact PySem.P.ne_int (p s.toks)
theorem Cm.neS {a b : Str} (h : Heap) (u v : Value) (_ : St c g l h) (x : (At.s a).is u) (y : (At.s b).is v) : Cm c h .NotEq u v (a != b) := fun s Q E _ p => by
  obtain ⟨t, rfl⟩ := x
  obtain ⟨t', rfl⟩ := y
  have e : (a.cps.toList != b.cps.toList) = (a != b) := congrArg (!·) (str_beq a b)
  exact PySem.P.ne_str (e ▸ p s.toks)
theorem Src.imp {iter target : Expr} {R R' : Nat → (Nat → Value → Heap → Prop) → Heap → Prop} (x : Src c X g l iter target R) (hi : ∀ m Pv g', Up c X g g' → R m Pv g' → R' m Pv g') : Src c X g l iter target R' := fun s Q E ok x1 p => x s Q E ok x1 fun m Pv g' h' d' tk' I fp wr Md Si k f r => p m Pv g' h' d' tk' I fp wr Md Si k f (hi m Pv g' (x1.up k) r)
theorem Src.nameT {x : Str} {p0 : Pos} {target : Expr} {t : Addr} {ys : List Value} (it : IsTup g t ys.toArray) (hv : l.lookup x = some (.ref t) := by rfl) (hk : okN D x = true := by rfl) : Src c [] g l (.Name x p0) target fun m Pv g' => m = ys.length ∧ ∀ i v h, Pv i v h → ys[i]? = some v :=
  .imp (.tup (P' := fun v g' => v = .ref t ∧ IsTup g' t ys.toArray) (.ofV (.var hv hk) fun h' u => ⟨rfl, u.sub.tup it⟩) fun v g' _ ⟨e, i⟩ => ⟨(fun _ q => nomatch q), t, ys, e, (fun q => nomatch q), i⟩) fun m Pv g' _ ⟨t', us, ⟨e, i⟩, i2, em, ep⟩ => by
    cases e
    obtain rfl := tup_inj i2 i
    exact ⟨em, fun i v h q => by rw [ep] at q; exact q⟩
theorem Src.nameL {x : Str} {p0 : Pos} {target : Expr} {t : Addr} {ys : List Value} (hl : ListAt g t ys) (ht : t ∉ c.all) (hv : l.lookup x = some (.ref t) := by rfl) (hk : okN D x = true := by rfl) : Src c [] g l (.Name x p0) target fun m Pv g' => m = ys.length ∧ ∀ i v h, Pv i v h → ys[i]? = some v :=
  .imp (.list (P' := fun v g' => v = .ref t ∧ ListAt g' t ys) (.ofV (.var hv hk) fun h' u => ⟨rfl, hl.keep u (by rw [List.append_nil]; exact ht)⟩) fun v g' _ ⟨e, i⟩ => ⟨(fun _ q => nomatch q), t, ys, e, (fun q => nomatch q), i.is⟩) fun m Pv g' _ ⟨t', us, ⟨e, i⟩, i2, em, ep⟩ => by
    cases e
    obtain rfl := list_inj i2 i
    exact ⟨em, fun i v h q => by rw [ep] at q; exact q⟩
/-- lists of the same texts -/
theorem Op.eqL {a b : Addr} {vs us : List Value} {xs : List Str} (ha : ListAt g a vs) (hb : ListAt g b us) (na : a ∉ c.all) (nb : b ∉ c.all) (x : StrsAre vs xs) (y : StrsAre us xs) (hn : 1 ≤ n) (hp : ∀ h', Up c [] g h' → P (.bool true) h') : Op c X g l (compareOp .Eq (.ref a) (.ref b)) P :=
  .cm (fun h x1 s Q E eh p => by
    subst eh
    have u := c.units
    obtain ⟨_, e1⟩ := ha
    obtain ⟨_, e2⟩ := hb
    exact rc_lists (by omega) ⟨_, x1.get na e1, rfl, _, rfl⟩ ⟨_, x1.get nb e2, rfl, _, rfl⟩ ((strs_deep x y).imp fun _ _ y => y.eq (by show c.A.units + 1 + 0 < cLine; omega)) PR c.W.w E Q (p s.toks)) hp
theorem Op.neL {a b : Addr} {vs us : List Value} {xs : List Str} (ha : ListAt g a vs) (hb : ListAt g b us) (na : a ∉ c.all) (nb : b ∉ c.all) (x : StrsAre vs xs) (y : StrsAre us xs) (hn : 1 ≤ n) (hp : ∀ h', Up c [] g h' → P (.bool false) h') : Op c X g l (compareOp .NotEq (.ref a) (.ref b)) P :=
  .cm (fun h x1 s Q E eh p => by
    subst eh
    have u := c.units
    obtain ⟨_, e1⟩ := ha
    obtain ⟨_, e2⟩ := hb
    exact rne_lists (by omega) ⟨_, x1.get na e1, rfl, _, rfl⟩ ⟨_, x1.get nb e2, rfl, _, rfl⟩ ((strs_deep x y).imp fun _ _ y => y.eq (by show c.A.units + 1 + 0 < cLine; omega)) PR c.W.w E Q (p s.toks)) hp
theorem none_all {zs : List (Option Value)} (h : ∀ (i : Nat) z, zs[i]? = some z → z = none) : zs.filterMap id = [] := by
  induction zs with
  | nil => rfl
  | cons z zs ih =>
    rw [List.filterMap_cons, h 0 z rfl]
    exact ih fun i z e => h (i + 1) z e
/-- a block that takes nothing -/
noncomputable abbrev NoneT (c : Cx D n) (l : List (Str × Value)) (ns : List (Str × NameKind)) (more : List (Str × Const)) (test target : Expr) (m : Nat) (Pv : Nat → Value → Heap → Prop) (g' : Heap) : Prop :=
  m ≤ 16384 ∧ ∀ C cl (k : Inner c ns C cl) i v h, i < m → Pv i v h → g'.StaysIn h → (∀ a o, g'.get? a = some o → a ∉ c.all → a ∉ (c.inner k more).all) → ∃ l', As (c.inner k more) [C] h (outer D ns l) target v l' ∧ Tr (c.inner k more) [] h l' test fun β _ => β = false
theorem Ev.none {ns : List (Str × NameKind)} {more : List (Str × Const)} {elt target iter test : Expr} {pos : Pos} {R : Nat → (Nat → Value → Heap → Prop) → Heap → Prop} (src : Src c [] g l iter target R)
    (h : ∀ m Pv g', Up c [] g g' → R m Pv g' → NoneT c l ns more test target m Pv g') (hp : ∀ d h', Up c [] g h' → d ∉ c.all → ListAt h' d [] → P (.ref d) h')
    (hs : ∀ x, foldedSetIterable iter c.env x = pure x := by intro _; rfl) (hn : okNs D ns = true := by rfl) : Ev c X g l (.ListComp elt [⟨target, iter, [test], 0⟩] ⟨.function, ns, false, false, more⟩ pos) P :=
  .filter src (fun m Pv g' u r => by
    obtain ⟨hm, t⟩ := h m Pv g' u r
    refine ⟨hm, fun _ z _ => z = .none, fun _ _ _ _ x _ => x, fun C cl k i v h hi hv up old => ?_, fun d ys h' nw u2 hl ⟨zs, _, e, z⟩ => hp d h' (u.trans u2) nw.f ?_⟩
    · obtain ⟨l', as, tr⟩ := t C cl k i v h hi hv up old
      exact ⟨l', as, .mk fun s Q E ok x1 p => tr.run s Q E ok x1 fun β h₅ d₅ tk₅ k₅ f₅ z => p β h₅ d₅ tk₅ k₅ f₅ ⟨fun e => (nomatch e.symm.trans z), fun _ => rfl⟩⟩
    · rw [e, none_all z] at hl; exact hl) hs hn
/-- block != [], block == [] where the block takes nothing -/
theorem Tr.neNil {e : Expr} {p1 pos : Pos} (x : Ev c [] g l e fun v h' => ∃ d, v = .ref d ∧ d ∉ c.all ∧ ListAt h' d []) (hn : 1 ≤ n) (hm : behindInMarks .NotEq (.List [] p1) = false := by with_unfolding_all rfl) : Tr c [] g l (.Compare e [.NotEq] [.List [] p1] pos) fun β _ => β = false :=
  .cmp x (fun u g' up ⟨d, e, nd, hl⟩ => .list .nil fun vs t h' u2 nw z i => by
    subst e
    cases z
    exact .neL (hl.keep u2 (by rw [List.append_nil]; exact nd)) ⟨0, i⟩ nd nw.f .nil .nil hn fun _ _ => ⟨_, rfl, rfl⟩) hm
theorem Ev.eqNil {e : Expr} {p1 pos : Pos} (x : Ev c [] g l e fun v h' => ∃ d, v = .ref d ∧ d ∉ c.all ∧ ListAt h' d []) (hn : 1 ≤ n) (hm : behindInMarks .Eq (.List [] p1) = false := by with_unfolding_all rfl) : Ev c [] g l (.Compare e [.Eq] [.List [] p1] pos) fun v _ => v = .bool true :=
  .cmp x (fun u g' up ⟨d, e, nd, hl⟩ => .list .nil fun vs t h' u2 nw z i => by
    subst e
    cases z
    exact .eqL (hl.keep u2 (by rw [List.append_nil]; exact nd)) ⟨0, i⟩ nd nw.f .nil .nil hn fun _ _ => rfl) hm
end
theorem G_are_places : IsG "are_places" (.ref 136) := ⟨fun w => by k_is, fun w => by k_is⟩
theorem qm {x : Str} (h : x = "?x" ∨ x = "?y") : (Txt.slice x none (some 1) != ("?" : Str)) = false ∧ x.length ≤ 100 := by
  rcases h with rfl | rfl <;> exact ⟨by decide +kernel, Nat.le_of_ble_eq_true (by rfl)⟩
theorem are_places_f {W : Wd} {h : Heap} {pl : Addr} {ps : List Value} {xs : List Str} (hp : IsTup h pl ps.toArray) (hq : All2 (PairOk h) ps xs) (hz : xs.length ≤ 2) (hst : SortTo xs xs) (hx : ∀ x ∈ xs, x = "?x" ∨ x = "?y") : Fn W 4 [] h (.ref 136) [.ref pl] fun x _ => x = .bool true := by
  have hlp : ps.length ≤ 2 := hq.length ▸ hz
  refine' .enter [("thing", .ref pl)] ?ho ?hcd ?hbind ?hkind ?hnd ?_
  walk_at "K side"
  rintro c rfl _ _
  have item : ∀ {i : Nat} {v : Value}, ps[i]? = some v → ∃ x a k u t, xs[i]? = some x ∧ v = .ref a ∧ IsTup h a [.str x k, u].toArray ∧ TermAt h u t ∧ small t := fun e => by
    obtain ⟨x, hx, a, k, u, t, e, r⟩ := hq.get e
    exact ⟨x, a, k, u, t, hx, e, r⟩
  refine .iteR (X := []) (Pt := fun β _ => β = false) (.orF0 (.not (.val (.isiT B_isinstance B_tuple .var hp))) (.or (P' := fun β _ => β = false) (.neNil (.none (.nameT hp) (fun m Pv g2 u2 ⟨em, ep⟩ => ⟨by omega, fun C cl k i v h3 hi hv st2 old => ?_⟩) fun d h' _ nd hl => ⟨d, rfl, nd, hl⟩) (by decide)) (fun g' _ _ => .orN fun _ _ => rfl) fun _ _ e => nomatch e)) (fun g' _ e => nomatch e) fun g1 u1 _ => ?_
  · obtain ⟨x, a, k, u, t, _, rfl, it, _, _⟩ := item (ep i v h3 hv)
    have it := (u2.sub.trans (TupSub.of st2)).tup it
    exact ⟨_, .nameL, .orF0 (.not (.val (.isiT B_isinstance B_tuple .var it))) (.orF0 (.cmp (.lenT B_len .var it (Nat.le_of_ble_eq_true rfl)) .int Cm.neI rfl) (.orN fun _ _ => rfl))⟩
  · refine .map (.nameT (u1.sub.tup hp)) (fun m Pv g2 u2 ⟨em, ep⟩ => ⟨by omega, fun i y _ => ∃ x tk, xs[i]? = some x ∧ y = .str x tk, fun _ _ _ _ x _ => x, fun C cl k i v h3 hi hv st2 old => ?_, fun d ys h3 nw u3 hl es => ?_⟩)
    · obtain ⟨x, a, k, u, t, hx, rfl, it, _, _⟩ := item (ep i v h3 hv)
      have it := (u1.sub.trans (u2.sub.trans (TupSub.of st2))).tup it
      exact ⟨_, .nameL, .ofV (.itemV (i := 0) it) fun _ _ => ⟨x, k, hx, rfl⟩⟩
    · have hs : StrsAre ys xs := strsAre_of (all2_of (es.1.trans (em.trans hq.length)) fun i y e => by obtain ⟨x, tk, hx, e⟩ := es.2 i y e; exact ⟨x, hx, tk, e⟩)
      refine .iteR (X := []) (Pt := fun β _ => β = false) (.neNil (.none (.nameL hl nw.f) (fun m Pv g4 u4 ⟨em, ep⟩ => ⟨by have := es.1; omega, fun C cl k i v h5 hi hv st2 old => ?_⟩) fun d h' _ nd hl => ⟨d, rfl, nd, hl⟩) (by decide)) (fun g' _ e => nomatch e) fun g4 u4 _ => ?_
      · obtain ⟨x, tk, hx', rfl⟩ := es.2 i v (ep i v h5 hv)
        obtain ⟨q1, q2⟩ := qm (hx x (List.mem_of_getElem? hx'))
        exact ⟨_, .nameL, .orF0 (.not (.val (.isiS B_isinstance B_str .varS))) (.or (P' := fun β _ => β = false) (.cmp (.cut (P := fun v _ => (At.s (Txt.slice x none (some 1))).is v) .varS (fun v h' _ z => z) q2) (fun u g' _ z => .of .str fun v g2 _ z2 => .cm (fun h x => Cm.neS h u v x z z2) fun _ _ => ⟨_, rfl, q1⟩) rfl) (fun g' _ _ => .orN fun _ _ => rfl) fun _ _ e => nomatch e)⟩
      · have k0 : ∀ {g g'}, Up c [] g g' → ListAt g d ys → ListAt g' d ys := fun u hl => hl.keep u (by rw [List.append_nil]; exact nw.f)
        have hl4 := k0 u4 hl
        refine .ret (.and (P' := fun β _ => β = true) (.cmp (.ofV (P := fun v g => v = .ref d ∧ ListAt g d ys) .var fun h' u => ⟨rfl, k0 u hl4⟩) (fun v g5 u5 ⟨e, hl5⟩ => .callB (P' := fun vs h' => ∃ S o, vs = [.ref S] ∧ S ∉ c.all ∧ h'.get? S = some o ∧ SetOb PR c.W.w o xs ∧ ListAt h' d ys) B_sorted (.one (.callTy (P' := fun vs h' => vs = [.ref d] ∧ ListAt h' d ys) B_set (.one (.ofV .var fun h' u => ⟨rfl, k0 u hl5⟩)) fun vs g' u ⟨e, hl⟩ => ?_)) fun vs g' u ⟨S, o, e2, hS, eo, so, hl6⟩ => ?_) rfl) (fun g' u _ => .eqNil (.none (.nameT ((u1.sub.trans (u2.sub.trans (u3.sub.trans (u4.sub.trans u.sub)))).tup hp)) (fun m Pv g7 u7 ⟨em, ep⟩ => ⟨by omega, fun C cl k i v h8 hi hv st2 old => ?_⟩) fun d h' _ nd hl => ⟨d, rfl, nd, hl⟩) (by decide)) fun g' _ e => nomatch e)
        · subst e
          exact .set hl nw.f hs (by have := hs.length; omega) fun S o h' u2 hS eo so => ⟨S, o, rfl, hS, eo, so, k0 u2 hl⟩
        · subst e e2
          exact .sorted eo hS so hst fun e us h' u2 nw2 hl7 hs7 => .eqL (k0 u2 hl6) hl7 nw.f nw2.f hs hs7 (by decide) fun _ _ => ⟨_, rfl, rfl⟩
        · obtain ⟨x, a, k, u8, t, _, rfl, it, ht, hsm⟩ := item (ep i v h8 hv)
          have ts := u1.sub.trans (u2.sub.trans (u3.sub.trans (u4.sub.trans (u.sub.trans (u7.sub.trans (TupSub.of st2))))))
          exact ⟨_, .nameL, .not (.val (.callF G_is_plain_term (.cons (.item (a := .v u8) .var (ts.tup it) ⟨_, rfl, rfl⟩) .nil) fun vs g' nw u z => by
            rw [z.v1]; exact (is_plain_term_f (ht.sub (ts.trans u.sub)) hsm.1 (by have := hsm.2; omega)).imp fun v h' k e => ⟨true, e, rfl⟩))⟩
end
section
open PySem PySem.W PyProof.Rows PySem.Calls
section
variable {D : List (Str × NameKind)} {n : Nat} {c : Cx D n} {X X' : List Addr} {g h h' : Heap} {l : List (Str × Value)} {P : Value → Heap → Prop} {N : Heap → List (Str × Value) → Prop}
theorem Ex.swapE {ns : List Str} {elts : List Expr} {k : Nat} {tpos pos : Pos} {e : Expr} {ss : List Stmt} {t : List Value → Heap → Prop} (a : Ev c X g l e fun v h' => ∃ t' vs, v = .ref t' ∧ IsTup h' t' (List.toArray vs) ∧ t vs h' ∧ ns.length = vs.length)
    (r : ∀ vs g', Up c X g g' → t vs g' → Ex c g' (ns.zip vs ++ l) ss P N) (ok : okX c X := by exact okX.nil)
    (hs : swapsWithSole [.Tuple elts k tpos] e pos.line c.env = pure false := by rfl) (hw : swappedStores [.Tuple elts k tpos] e c.env = pure (some ns) := by rfl) (hn : ns.all (okN D) = true := by rfl) : Ex c g l (.Assign [.Tuple elts k tpos] e pos :: ss) P N := .mk fun s Q E x1 rr t' =>
  wpAny_execs_cons (Assign_Tuple_swapped (a.run s _ E ok x1 fun v h' d' tk' kk f z => by
    obtain ⟨t1, vs, rfl, it, z, hl⟩ := z
    have x2 := x1.next ok kk f
    refine Mine.unpack x2 it hl fun h₂ x3 _ => ?_
    have e1 : (ns.reverse.zip vs.reverse).reverse = ns.zip vs := by rw [zip_rev hl, List.reverse_reverse]
    refine stores (.binds _) (by rw [List.length_reverse, List.length_reverse, hl]) (by rw [List.all_reverse]; exact hn) x3 fun h₃ tk₃ x4 _ => ?_
    rw [e1] at x4
    exact (r vs h' (x1.up kk) z).run _ Q E x4 (fun v h₃ d₃ tk₃ k₃ z₃ => rr v h₃ d₃ tk₃ k₃ z₃) fun g₃ l₃ h₃ d₃ tk₃ x3 z₃ => t' g₃ l₃ h₃ d₃ tk₃ x3 z₃) hs hw)
/-- and, or of plain truths, as values -/
theorem Ev0.or {e f : Expr} {pos : Pos} {α β : Bool} (x : Ev0 c g l e (.v (.bool α))) (y : α = false → Ev0 c g l f (.v (.bool β))) : Ev0 c g l (.BoolOp .Or [e, f] pos) (.v (.bool (α || β))) := fun s Q E x1 p =>
  BoolOp_or (x s _ E x1 fun v tk z => by
    obtain rfl : v = .bool α := z
    refine wpAny_truthy_bool ?_
    cases α with
    | false => exact BoolOp_one ((y rfl) { s with toks := tk } _ E x1 fun v2 tk2 z2 => p v2 tk2 z2)
    | true => exact p _ tk rfl)
/-- true and .. -/
theorem Ev.andT0 {e f : Expr} {es : List Expr} {pos : Pos} (x : Ev0 c g l e (.v (.bool true))) (y : Ev c X g l (.BoolOp .And (f :: es) pos) P) : Ev c X g l (.BoolOp .And (e :: f :: es) pos) P := .mk fun s Q E ok x1 p =>
  BoolOp_and (x s _ E x1 fun v tk z => by
    obtain rfl : v = .bool true := z
    exact wpAny_truthy_bool (y.run { s with toks := tk } Q E ok x1 p))
theorem Ev.andTE {e f : Expr} {es : List Expr} {pos : Pos} (x : Ev c X g l e fun v _ => v = .bool true) (y : ∀ g', Up c X g g' → Ev c X g' l (.BoolOp .And (f :: es) pos) P) : Ev c X g l (.BoolOp .And (e :: f :: es) pos) P := .mk fun s Q E ok x1 p =>
  BoolOp_and (x.run s _ E ok x1 fun v h' d' tk' k f z => by
    obtain rfl : v = .bool true := z
    exact wpAny_truthy_bool ((y h' (x1.up k)).run _ Q E ok (x1.next ok k f) (p.then k)))
theorem Ev.bo1 {op : BoolOp} {e : Expr} {pos : Pos} (x : Ev c X g l e P) : Ev c X g l (.BoolOp op [e] pos) P := .mk fun s Q E ok x1 p => BoolOp_one (x.run s Q E ok x1 p)
end
noncomputable def P.isTold : P → Bool
  | .told .. => true
  | _ => false
noncomputable def P.isRule : P → Bool
  | .twice _ => true
  | .swap .. => true
  | _ => false
noncomputable def P.isUnder : P → Bool
  | .under1 _ => true
  | .under2 .. => true
  | _ => false
noncomputable def P.isJoin : P → Bool
  | .join .. => true
  | _ => false
theorem kind_told (p : P) : (p.kind == "told") = p.isTold := by
  cases p <;> (simp only [P.kind, P.isTold]; decide +kernel)
theorem kind_rule (p : P) : (p.kind == "rule") = p.isRule := by
  cases p <;> (simp only [P.kind, P.isRule]; decide +kernel)
theorem kind_under (p : P) : (p.kind == "under") = p.isUnder := by
  cases p <;> (simp only [P.kind, P.isUnder]; decide +kernel)
theorem kind_join (p : P) : (p.kind == "join") = p.isJoin := by
  cases p <;> (simp only [P.kind, P.isJoin]; decide +kernel)
theorem G_has_form : IsG "has_form" (.ref 143) := ⟨fun w => by k_is, fun w => by k_is⟩
theorem G_want_form : IsG "want_form" (.ref 155) := ⟨fun w => by k_is, fun w => by k_is⟩
theorem view_len {h : Heap} {v : Value} {p : P} (x : PaperAt h v p) : ∃ a tk vs, v = .ref a ∧ IsTup h a (.str p.kind tk :: vs).toArray ∧ 1 ≤ vs.length ∧ vs.length ≤ 2 := by
  cases x with
  | same i => exact ⟨_, _, _, rfl, i, Nat.le_of_ble_eq_true rfl, Nat.le_of_ble_eq_true rfl⟩
  | told i => exact ⟨_, _, _, rfl, i, Nat.le_of_ble_eq_true rfl, Nat.le_of_ble_eq_true rfl⟩
  | twice i => exact ⟨_, _, _, rfl, i, Nat.le_of_ble_eq_true rfl, Nat.le_of_ble_eq_true rfl⟩
  | swap i => exact ⟨_, _, _, rfl, i, Nat.le_of_ble_eq_true rfl, Nat.le_of_ble_eq_true rfl⟩
  | turn i => exact ⟨_, _, _, rfl, i, Nat.le_of_ble_eq_true rfl, Nat.le_of_ble_eq_true rfl⟩
  | join i => exact ⟨_, _, _, rfl, i, Nat.le_of_ble_eq_true rfl, Nat.le_of_ble_eq_true rfl⟩
  | under1 i => exact ⟨_, _, _, rfl, i, Nat.le_of_ble_eq_true rfl, Nat.le_of_ble_eq_true rfl⟩
  | under2 i => exact ⟨_, _, _, rfl, i, Nat.le_of_ble_eq_true rfl, Nat.le_of_ble_eq_true rfl⟩
theorem has_form_f {W : Wd} {h : Heap} {v : Value} {p : P} (hp : PaperAt h v p) (hk : p.ok) : Fn W 6 [] h (.ref 143) [v] fun x _ => x = .bool true := by
  obtain ⟨a, tk, vs, rfl, it, hl1, hl2⟩ := view_len hp
  refine' .enter [("thing", .ref a)] ?ho ?hcd ?hbind ?hkind ?hnd ?_
  walk_at "K side"
  rintro c rfl _ _
  have e1 : decide ((((Value.str p.kind tk :: vs).length : Nat) : Int) < 2) = false := by rw [decide_eq_false_iff_not, List.length_cons]; omega
  refine .ite0 (β := false) (.orF (.not (.val (.isiT B_isinstance B_tuple .var it))) (.orF (e1 ▸ .cmp (.lenT B_len .var it (by simp only [List.length_cons]; omega)) .int Cm.ltI rfl) (.orF (.not (.val (.isiS B_isinstance B_str (.item (a := .s p.kind) .var it ⟨_, rfl, ⟨_, rfl⟩⟩)))) .orN))) (fun e => nomatch e) fun _ => ?_
  refine .swapE (t := fun us g' => ∃ tk2, us = [.str p.kind tk, .int (((Value.str p.kind tk :: vs).length : Nat) : Int) tk2] ∧ TupSub h g') (.tup (.cons (.item (a := .v (.str p.kind tk)) .var it ⟨_, rfl, rfl⟩) (.cons (.lenT B_len .var it (by simp only [List.length_cons]; omega)) .nil)) fun us t g' u nw z i => ?_) fun us g1 u1 ⟨tk2, e, ts⟩ => ?_
  · cases z with
    | cons z1 z2 =>
      cases z2 with
      | cons z2 z3 =>
        cases z3
        obtain rfl : _ = Value.str p.kind tk := z1
        obtain ⟨tk2, rfl⟩ := z2
        exact ⟨t, _, rfl, i.tup, ⟨tk2, rfl, u.sub⟩, rfl⟩
  · subst e
    have ip := ts.tup it
    have n2 : ∀ {m : Nat} {k p0 p1 pos}, vs.length + 1 = m → Ev0 c g1 [("kind", .str p.kind tk), ("many", .int (((Value.str p.kind tk :: vs).length : Nat) : Int) tk2), ("thing", .ref a)] (.Compare (.Name "many" p0) [.Eq] [.Constant (.int (m : Int)) k p1] pos) (.v (.bool true)) := fun {m k p0 p1 pos} e => by
      have e2 : ((((Value.str p.kind tk :: vs).length : Nat) : Int) == (m : Int)) = true := by rw [List.length_cons, beq_iff_eq]; omega
      rw [← e2]
      exact .cmp .varI .int Cm.eqI rfl
    refine .ite0 .varIs (fun e => ?_) fun e1 => .ite0 .varIs (fun e => ?_) fun e2 => .ite0 .varIs (fun e => ?_) fun e3 => .ite0 .varIs (fun e => ?_) fun e4 => ?_
    · rw [kind_same'] at e
      cases hp with
      | same i ht =>
        obtain ⟨_, rfl⟩ := List.cons.inj (tup_inj it i)
        exact .ret (.andT0 (n2 rfl) (.bo1 (.callF G_is_plain_term (.cons (.itemV (i := 1) ip) .nil) fun vs g' nw u z => by
          rw [z.v1]; exact is_plain_term_f (ht.sub (ts.trans u.sub)) hk.1 (by have := hk.2; omega))))
      | _ => cases e
    · rw [kind_told] at e
      cases hp with
      | told i =>
        obtain ⟨_, rfl⟩ := List.cons.inj (tup_inj it i)
        exact .ret (.andT0 (n2 rfl) (.bo1 (.ofV (.isiS B_isinstance B_str (.item (i := 1) .var ip ⟨_, rfl, ⟨_, rfl⟩⟩)) fun _ _ => rfl)))
      | _ => cases e
    · rw [kind_rule] at e
      cases hp with
      | twice i i1 i2 ht =>
        obtain ⟨_, rfl⟩ := List.cons.inj (tup_inj it i)
        exact .ret (.andT0 (n2 rfl) (.andT0 (.isiS B_isinstance B_str (.item (i := 1) .var ip ⟨_, rfl, ⟨_, rfl⟩⟩)) (.bo1 (.callF G_are_places (.cons (.itemV (i := 2) ip) .nil) fun vs g' nw u z => by
          rw [z.v1]; have t2 := ts.trans u.sub
          exact are_places_f (t2.tup i1.tup) (.one ⟨_, _, _, _, rfl, t2.tup i2, ht.sub t2, hk⟩) (Nat.le_of_ble_eq_true rfl) sort_x fun x hx => .inl (List.mem_singleton.mp hx)))))
      | swap i i1 i2 ht i3 hu =>
        obtain ⟨_, rfl⟩ := List.cons.inj (tup_inj it i)
        exact .ret (.andT0 (n2 rfl) (.andT0 (.isiS B_isinstance B_str (.item (i := 1) .var ip ⟨_, rfl, ⟨_, rfl⟩⟩)) (.bo1 (.callF G_are_places (.cons (.itemV (i := 2) ip) .nil) fun vs g' nw u z => by
          rw [z.v1]; have t2 := ts.trans u.sub
          exact are_places_f (t2.tup i1.tup) (.cons ⟨_, _, _, _, rfl, t2.tup i2, ht.sub t2, hk.1⟩ (.one ⟨_, _, _, _, rfl, t2.tup i3, hu.sub t2, hk.2⟩)) (Nat.le_of_ble_eq_true rfl) sort_xy fun x hx => (List.mem_cons.mp hx).imp id List.mem_singleton.mp))))
      | _ => cases e
    · rw [kind_under] at e
      cases hp with
      | under1 i ij hq =>
        obtain ⟨_, rfl⟩ := List.cons.inj (tup_inj it i)
        exact .ret (.andT0 (n2 rfl) (.andTE (.callG (P' := fun vs h' => ∃ q, vs = [.ref q] ∧ TermAt h' (.ref q) .lf) G_is_plain_term (.one (.tup (.cons (.itemV (i := 1) ip) .nil) fun vs t h' u nw z i => ⟨t, rfl, .lf (z.v1 ▸ i.tup)⟩)) fun vs g' nw u ⟨q, e, ht⟩ => by
          subst e; exact is_plain_term_f ht trivial (Nat.le_of_ble_eq_true rfl)) fun g' u => .bo1 (.ofV (.isiT B_isinstance B_tuple (.itemV (i := 2) (u.sub.tup ip)) ((ts.trans u.sub).tup ij)) fun _ _ => rfl)))
      | under2 i ij hq hr =>
        obtain ⟨_, rfl⟩ := List.cons.inj (tup_inj it i)
        exact .ret (.andT0 (n2 rfl) (.andTE (.callG (P' := fun vs h' => ∃ q, vs = [.ref q] ∧ TermAt h' (.ref q) .lg) G_is_plain_term (.one (.tup (.cons (.itemV (i := 1) ip) .nil) fun vs t h' u nw z i => ⟨t, rfl, .lg (z.v1 ▸ i.tup)⟩)) fun vs g' nw u ⟨q, e, ht⟩ => by
          subst e; exact is_plain_term_f ht trivial (Nat.le_of_ble_eq_true rfl)) fun g' u => .bo1 (.ofV (.isiT B_isinstance B_tuple (.itemV (i := 2) (u.sub.tup ip)) ((ts.trans u.sub).tup ij)) fun _ _ => rfl)))
      | _ => cases e
    · have ks : ∀ {x : Str} {k p0 p1 pos}, Ev0 c g1 [("kind", .str p.kind tk), ("many", .int (((Value.str p.kind tk :: vs).length : Nat) : Int) tk2), ("thing", .ref a)] (.Compare (.Name "kind" p0) [.Eq] [.Constant (.str x) k p1] pos) (.v (.bool (p.kind == x))) := .cmp .varS .str Cm.eqS rfl
      cases hp with
      | turn i hq =>
        obtain ⟨_, rfl⟩ := List.cons.inj (tup_inj it i)
        exact .ret (.ofV (.or (α := true) (β := false) (.and (α := true) (β := true) ks fun _ => n2 rfl) fun q => nomatch q) fun _ _ => rfl)
      | join i hq hr =>
        obtain ⟨_, rfl⟩ := List.cons.inj (tup_inj it i)
        exact .ret (.ofV (.or (α := false) (β := true) (.and (α := false) (β := false) ks fun q => nomatch q) fun _ => .and (α := true) (β := true) ks fun _ => n2 rfl) fun _ _ => rfl)
      | same i => rw [kind_same'] at e1; cases e1
      | told i => rw [kind_told] at e2; cases e2
      | twice i => rw [kind_rule] at e3; cases e3
      | swap i => rw [kind_rule] at e3; cases e3
      | under1 i => rw [kind_under] at e4; cases e4
      | under2 i => rw [kind_under] at e4; cases e4
end
section
open PySem PySem.W PyProof.Rows PySem.Calls
section
variable {D : List (Str × NameKind)} {n : Nat} {c : Cx D n} {X X' : List Addr} {g h h' : Heap} {l : List (Str × Value)} {P : Value → Heap → Prop} {N : Heap → List (Str × Value) → Prop}
/-- the test that has_form makes -/
theorem Tr.has_form {x : Str} {p1 p2 p3 : Pos} {v : Value} {p : Mine.P} {P : Bool → Heap → Prop} (hp : PaperAt g v p) (hk : p.ok) (hz : ∀ h', P true h') (hr : 6 ≤ n) (G : IsG "has_form" (.ref 143)) (hv : l.lookup x = some v := by rfl) (hx : okN D x = true := by rfl) (hf : okG D "has_form" = true := by rfl) (hs : noStar [.Name x p2] = true := by rfl)
    (he : ∀ (X : Env), isTrue (.Call (.Name "has_form" p1) [.Name x p2] [] p3) X (eval (.Call (.Name "has_form" p1) [.Name x p2] [] p3) X) = (do let v ← eval (.Call (.Name "has_form" p1) [.Name x p2] [] p3) X; standAt p3; holding [v] (truthy v)) := by intro _; rfl) : Tr c [] g l (.Call (.Name "has_form" p1) [.Name x p2] [] p3) P :=
  .val (.callF G (.var .nil hv hx) (fun vs g' nw u z => by
    rw [z.v1]; exact (has_form_f (hp.sub u.sub) hk).imp fun v h' k e => ⟨true, e, hz h'⟩) hr hf hs) (he c.env)
theorem nil_ok {a : Addr} (h : a ∉ c.all) : a ∉ c.all ++ [] := by rw [List.append_nil]; exact h
theorem ListAt.up {us : List Value} {d : Addr} (x : ListAt g d us) (u : Up c [] g g') (h : d ∉ c.all) : ListAt g' d us := x.keep u (nil_ok h)
theorem ListAt.up1 {us : List Value} {d a : Addr} (x : ListAt g d us) (u : Up c [a] g g') (h : d ∉ c.all) (ne : d ≠ a) : ListAt g' d us := x.keep u fun q => (List.mem_append.mp q).elim h fun q => ne (List.mem_singleton.mp q)
theorem Kp.up0 {g' : Heap} (u : Up c [] g g') : Up c X g g' := u.mono fun a q => by rw [List.append_nil] at q; exact List.mem_append_left _ q
end
theorem G_in_order : IsG "in_order" (.ref 148) := ⟨fun w => by k_is, fun w => by k_is⟩
theorem want_form_f {W : Wd} {h : Heap} {v pa : Value} {p : P} (hp : PaperAt h v p) (hk : p.ok) : Fn W 7 [] h (.ref 155) [v, pa] fun x _ => x = .none := by
  refine' .enterN (N := fun _ _ => True) [("path", pa), ("paper", v)] ?ho ?hcd ?hbind ?hkind ?hnd ?_ fun _ _ _ _ _ _ _ => rfl
  walk_at "K side"
  rintro c rfl _ _
  exact .iteR (X := []) (Pt := fun β _ => β = false) (.not (.has_form hp hk (fun _ => rfl) (Nat.le_refl _) G_has_form)) (fun _ _ e => nomatch e) fun _ _ _ => .nil trivial
theorem in_order_f {W : Wd} {h : Heap} {v : Value} {p : P} (hp : PaperAt h v p) (hk : p.ok) (hz : p.size ≤ 1000) : Fn W 8 [] h (.ref 148) [v] fun x h' => ∃ d ys, x = .ref d ∧ h.get? d = none ∧ ListAt h' d ys ∧ All2 (ItemAt h') ys (p.pre []).reverse := by
  refine' .enter [("paper", v)] ?ho ?hcd ?hbind ?hkind ?hnd ?_
  walk_at "K side"
  rintro c rfl _ _
  refine .swapE (ns := ["found", "waiting"]) (t := fun us g' => ∃ fa wa it, us = [.ref fa, .ref wa] ∧ New c h fa ∧ New c h wa ∧ wa ≠ fa ∧ ListAt g' fa [] ∧ ListAt g' wa [it] ∧ ItemAt g' it ([], p)) (.tupL (P' := fun us g' => ∃ fa wa it, us = [.ref fa, .ref wa] ∧ New c h fa ∧ New c h wa ∧ wa ≠ fa ∧ ListAt g' fa [] ∧ ListAt g' wa [it] ∧ ItemAt g' it ([], p))
    (.cons (P' := fun v h' => ∃ fa, v = .ref fa ∧ New c h fa ∧ ListAt h' fa []) (.list .nil fun vs fa h' u nw z e => by cases z; exact ⟨fa, rfl, nw, 0, e⟩) fun x g1 u1 ⟨fa, e, nf, hl⟩ => .one (.listL (P' := fun vs h' => ∃ it, vs = [it] ∧ ItemAt h' it ([], p) ∧ ListAt h' fa []) (.one (.tupL (P' := fun vs h' => ∃ q, vs = [.ref q, v] ∧ IsTup h' q (List.toArray []) ∧ ListAt h' fa []) (.then (.unit fun q h' u _ i => ⟨q, rfl, i.tup, hl.up u nf.f⟩))
      (fun vs t g' h' u z u2 _ i => ?_) ?_)) (fun vs t g' h' u z u2 nw e2 => ?_) ?_)) (fun us t g' h' u z u2 _ i => ?_) ?_) fun us g1 u1 z => ?_
  · obtain ⟨q, rfl, iq, hl⟩ := z
    exact ⟨_, rfl, ⟨t, _, _, rfl, i.tup, ⟨q, [], rfl, u2.sub.tup iq, .nil⟩, hp.sub (u1.sub.trans (u.sub.trans u2.sub))⟩, hl.up u2 nf.f⟩
  · rintro vs g' ⟨q, rfl, _⟩; exact Nat.le_of_ble_eq_true rfl
  · obtain ⟨it, rfl, ia, hl⟩ := z
    exact ⟨fa, t, it, by rw [e], nf, (nw.up u (fun q => nomatch q)).up u1 (fun q => nomatch q), nw.ne hl.choose_spec, hl.up u2 nf.f, ⟨0, e2⟩, ia.sub u2.sub⟩
  · rintro vs g' ⟨q, rfl, _⟩; exact Nat.le_of_ble_eq_true rfl
  · obtain ⟨fa, wa, it, rfl, nf, nw, ne, l1, l2, ia⟩ := z
    exact ⟨t, _, rfl, i.tup, ⟨fa, wa, it, rfl, nf, nw, ne, l1.up u2 nf.f, l2.up u2 nw.f, ia.sub u2.sub⟩, rfl⟩
  · rintro vs g' ⟨fa, wa, it, rfl, _⟩; exact Nat.le_of_ble_eq_true rfl
  obtain ⟨fa, wa, it, rfl, nf, nw, ne, l1, l2, ia⟩ := z
  refine .while (fun k l g => l.lookup ("found" : Str) = some (.ref fa) ∧ l.lookup ("waiting" : Str) = some (.ref wa) ∧ ∃ fs ws Fp Wp, ListAt g fa fs ∧ ListAt g wa ws ∧ All2 (ItemAt g) fs Fp ∧ All2 (ItemAt g) ws Wp ∧ (∀ x ∈ Wp, x.2.ok ∧ x.1.length + x.2.size ≤ 1000) ∧ Fp ++ (Wp.reverse.flatMap fun x => x.2.pre x.1) = p.pre [] ∧ k = (Wp.map fun x => x.2.size).sum) p.size
    ⟨rfl, rfl, [], [it], [], [([], p)], l1, l2, .nil, .one ia, fun x hx => by rw [List.mem_singleton.mp hx]; exact ⟨hk, by simpa using hz⟩, by simp, by simp⟩ ?_
  rintro k l₁ h₁ ⟨hf, hw, fs, ws, Fp, Wp, lf, lw, af, aw, hok, heq, rfl⟩
  have hlen : Fp.length + (Wp.map fun x => x.2.size).sum = p.size := by
    have := congrArg List.length heq
    rw [List.length_append, flat_len, sum_rev, P.pre_len] at this
    exact this
  have hlf : fs.length = Fp.length := af.length
  have hlw : ws.length = Wp.length := aw.length
  have hls := len_sum Wp
  refine ⟨[], fun β _ => β = decide (((ws.length : Nat) : Int) > 0), okX.nil, .of (.cmp (.lenL B_len (.var (hv := hw)) lw.is nw.f (by omega)) .int Cm.gtI rfl) fun _ _ => rfl, fun h₂ u2 z => ?_, fun h₂ u2 z => ?_⟩
  · have hne : ws ≠ [] := fun e => by rw [e] at z; cases z
    have lf2 := lf.up u2 nf.f
    have lw2 := lw.up u2 nw.f
    have aw2 := aw.imp fun _ _ (x : ItemAt h₁ _ _) => x.sub u2.sub
    clear aw lw lf
    obtain ⟨ws, v', rfl⟩ : ∃ us u, ws = us ++ [u] := ⟨ws.dropLast, ws.getLast hne, (List.dropLast_concat_getLast hne).symm⟩
    obtain ⟨Wp, ⟨π, q⟩, rfl, aw, ait⟩ := aw2.snoc
    have hok' := hok (π, q) (List.mem_append_right _ (.head _))
    simp only [List.length_append, List.length_singleton] at hlw hls
    have hb1 : ws.length ≤ 1000 := by omega
    have hb2 : fs.length ≤ 1000 := by omega
    refine .unpack (X := [wa]) (ns := ["path", "one"]) (t := fun us g' => ∃ pv u, us = [pv, u] ∧ ListAt g' wa ws ∧ PathAt g' pv π ∧ PaperAt g' u q) ((Ev.methL0 (P := fun v h' => v = v' ∧ TupSub h₂ h' ∧ ListAt h' wa ws) (.var (hv := hw)) lw2 nw.f PySem.F.slot_list_pop PySem.F.type_list_pop (.pop lw2 (.head _) (by omega) fun h' u hl => ⟨rfl, u.sub, hl⟩)).imp fun v h' u ⟨e, ts, hl⟩ => ?_) (fun us h₃ u3 ⟨pv, u, e, lw3, hpa, hpq⟩ => ?_) nw.ok
    · obtain ⟨ia, pv, u, rfl, i, j, r⟩ := ait.sub ts
      exact ⟨ia, _, e, i, ⟨pv, u, rfl, hl, j, r⟩, rfl⟩
    subst e
    have lf3 := lf2.up1 u3 nf.f (Ne.symm ne)
    refine .expr (X := [fa]) (P' := fun v h' => v = .none ∧ Up c [fa] h₃ h' ∧ ∃ it, ListAt h' fa (fs ++ [it]) ∧ ItemAt h' it (π, q)) (.methL (P' := fun vs h' => ∃ it, vs = [it] ∧ ItemAt h' it (π, q)) (.var (hv := hf)) lf3 nf.f PySem.F.slot_list_append PySem.F.type_list_append (.one (.tup (.cons .var (.cons .var .nil)) fun vs t h' u4 nw z i => ⟨_, rfl, t, _, _, rfl, z.v2 ▸ i.tup, hpa.sub u4.sub, hpq.sub u4.sub⟩)) fun vs g' u4 ⟨it, e, ia⟩ => ?_) (fun v h₄ u4 ⟨e, u5, it, lf4, ia⟩ => ?_) nf.ok
    · subst e
      exact .append (lf3.up u4 nf.f) (.head _) (by omega) fun h' u5 hl => ⟨rfl, u4.up0.trans u5, it, hl, ia.sub u5.sub⟩
    refine ⟨fun t e2 => (by rw [e] at e2; cases e2), ?_⟩
    have lw4 := lw3.up1 u5 nw.f ne
    have hpa4 := hpa.sub u5.sub
    have hpq4 := hpq.sub u5.sub
    refine .ite (X := []) (Pt := fun β _ => β = true) (N' := fun g' l' => ∃ k', k' < ((Wp ++ [(π, q)]).map fun x => x.2.size).sum ∧ _) (.has_form hpq4 hok'.1 (fun _ => rfl) (by decide) G_has_form) (fun h₅ u6 _ => ?_) (fun _ _ e => nomatch e) fun g' l' z => .nil z
    have lf5 := lf4.up u6 nf.f
    have lw5 := lw4.up u6 nw.f
    have hpa5 := hpa4.sub u6.sub
    have hpq5 := hpq4.sub u6.sub
    have hk2 := q.kids_len
    refine .expr (X := [wa]) (P' := fun v h' => v = .none ∧ Up c [wa] h₅ h' ∧ ∃ us, ListAt h' wa (ws ++ us) ∧ All2 (ItemAt h') us (itemsOf π 0 q.kids)) (.methL (P' := fun vs h' => ∃ e us, vs = [.ref e] ∧ e ∉ c.all ∧ ListAt h' e us ∧ All2 (ItemAt h') us (itemsOf π 0 q.kids)) (.var (hv := hw)) lw5 nw.f PySem.F.slot_list_extend PySem.F.type_list_extend
      (.one (.map (.enum (P' := fun vs h' => ∃ D vs', vs = [.ref D] ∧ IsTup h' D (List.toArray vs') ∧ All2 (PaperAt h') vs' q.kids) B_enumerate (.one (.callF G_parts_of (.cons .var .nil) fun vs g' nw u z => by rw [z.v1]; exact (parts_of_f (hpq5.sub u.sub)).imp fun v h' k ⟨d, vs, e, i, r⟩ => ⟨d, vs, by rw [e], i, r⟩)) ?_) fun m Pv g6 u7 ⟨D, ys, ⟨D', ys', e, i', hks⟩, i, em, hPv⟩ => ?_)) fun vs g' u z => ?_) (fun v h₆ u7 ⟨e2, u8, us, lw6, aus⟩ => ?_) nw.ok
    · rintro vs g' _ ⟨D, vs', rfl, i, _⟩
      exact ⟨(fun _ q => nomatch q), D, vs', rfl, (fun q => nomatch q), i⟩
    · cases e
      obtain rfl := tup_inj i' i
      have hlk : ys'.length = q.kids.length := hks.length
      refine ⟨by omega, fun i y h => ∃ x, (itemsOf π 0 q.kids)[i]? = some x ∧ ItemAt h y x, fun i y h h' ⟨x, e, z⟩ ts => ⟨x, e, z.sub ts⟩, fun C cl kk j y h' hj hy st old => ?_, fun e zs' h' nw u4 hl4 z => ⟨e, zs', rfl, nw.f, hl4, all2_of (z.1.trans (em.trans (hlk.trans (itemsOf_len ..).symm))) z.2⟩⟩
      obtain ⟨T, tk, x, rfl, hx, iT⟩ := hPv j y h' hy
      obtain ⟨r, hr, hxr⟩ := hks.get hx
      have ts := TupSub.of st
      obtain ⟨pa, l, rfl, hpl, hil⟩ := hpa5.sub (u7.sub.trans ts)
      have hll : l.length ≤ 1000 := by rw [IntsAre.length hil]; have := hok'.2; simp only at this; omega
      have hxr := hxr.sub ts
      refine ⟨_, .tupL (ns := ["k", "part"]) iT, .tupL (P' := fun vs h => ∃ p, vs = [.ref p, x] ∧ TupSub h' h ∧ IsTup h p (l ++ [Value.int (j : Int) tk]).toArray) (.then (.bin (P' := fun v h => v = .ref pa ∧ TupSub h' h) (.ofV .var fun h u => ⟨rfl, u.sub⟩) fun v g' u ⟨e, ts2⟩ => by
        subst e
        exact .tup (.cons .var .nil) fun vs t h u2 nw z it => .addT (u2.sub.tup (ts2.tup hpl)) (by have := it.tup; rw [z.v1] at this; exact this) (by simp only [List.length_cons, List.length_nil]; omega) fun rr h3 u3 it => ⟨rr, rfl, ts2.trans (u2.sub.trans u3.sub), it⟩)) (fun vs p2 g' h'' u z u2 _ it => ?_) ?_⟩
      · obtain ⟨p3, rfl, ts2, ic⟩ := z
        exact ⟨(π ++ [(j : Int)], r), by rw [itemsOf_get, hr]; simp, p2, _, _, rfl, it.tup, ⟨p3, _, rfl, u2.sub.tup ic, IntsAre.append hil (IntsAre.cons _ _ IntsAre.nil)⟩, hxr.sub (ts2.trans u2.sub)⟩
      · rintro vs g' ⟨q, rfl, _⟩; exact Nat.le_of_ble_eq_true rfl
    · obtain ⟨e, us, rfl, he, hl5, hus⟩ := z
      have h2 : us.length ≤ 2 := by rw [hus.length, itemsOf_len]; exact hk2
      exact .extL (lw5.up u nw.f) hl5 he (.head _) (by omega) fun h' u7 hl8 => ⟨rfl, u.up0.trans u7, us, hl8, hus.imp fun _ _ x => x.sub u7.sub⟩
    · subst e2
      have s1 : TupSub h₂ h₆ := u3.sub.trans (u5.sub.trans (u6.sub.trans u8.sub))
      have s0 : TupSub h₁ h₆ := u2.sub.trans s1
      refine ⟨(fun t q => nomatch q), .nil ⟨((Wp ++ itemsOf π 0 q.kids).map fun x => x.2.size).sum, ?lt, hf, hw, fs ++ [it], ws ++ us, Fp ++ [(π, q)], Wp ++ itemsOf π 0 q.kids, (lf5.up1 u8 nf.f (Ne.symm ne)), lw6, (af.imp fun _ _ x => x.sub s0).append (.one (ia.sub (u6.sub.trans u8.sub))), (aw.imp fun _ _ x => x.sub s1).append aus, ?ok, ?eq, rfl⟩⟩
      case lt =>
        have := q.kids_size
        simp only [List.map_append, List.sum_append, items_sum, List.map_cons, List.map_nil, List.sum_cons, List.sum_nil]
        omega
      case ok =>
        intro x hx
        rcases List.mem_append.mp hx with hx | hx
        · exact hok x (List.mem_append_left _ hx)
        · obtain ⟨h1, h2⟩ := items_mem hx
          refine ⟨P.kids_ok hok'.1 _ h1, ?_⟩
          have := P.kids_lt h1
          have h3 := hok'.2
          simp only at h3
          omega
      case eq =>
        rw [← heq, List.reverse_append, List.reverse_append, List.flatMap_append, List.flatMap_append, List.append_assoc]
        congr 1
        simp only [List.reverse_cons, List.reverse_nil, List.nil_append, List.flatMap_cons, List.flatMap_nil, List.append_nil]
        rw [P.pre_eq q π]
        simp
  · have h0 : ws = [] := by
      cases ws with
      | nil => rfl
      | cons w ws =>
        have h1 : ((((w :: ws).length : Nat) : Int) > 0) := by rw [List.length_cons]; omega
        rw [decide_eq_true h1] at z; cases z
    subst h0
    cases aw
    have lf2 := lf.up u2 nf.f
    have e : Fp = p.pre [] := by simpa using heq
    refine .expr (X := [fa]) (P' := fun v h' => v = .none ∧ Up c [fa] h₂ h' ∧ ListAt h' fa fs.reverse) (.methL0 (.var (hv := hf)) lf2 nf.f PySem.F.slot_list_reverse PySem.F.type_list_reverse (.reverse lf2 (.head _) (by simp only [List.map_nil, List.sum_nil] at hlen; omega) fun h' u hl => ⟨rfl, u, hl⟩)) (fun v h₃ u3 ⟨e3, u4, lf3⟩ => ?_) nf.ok
    subst e3
    refine ⟨(fun t q => nomatch q), .ret (.ofV (.var (hv := hf)) fun h' u5 => ⟨fa, _, rfl, nf.g, lf3.up u5 nf.f, ?_⟩)⟩
    rw [← e]
    exact (af.imp fun _ _ x => x.sub (u2.sub.trans (u4.sub.trans u5.sub))).reverse
end
section
open PySem PySem.W PyProof.Rows PySem.Calls
/-- a plain attribute of a class's things; a method -/
structure IsA (C : Addr) (x : Str) : Prop where
  a : ∀ w : World, plainGet (hd.heap_39 w.params) C x = true
  b : ∀ w : World, hasDictIn (hd.heap_39 w.params) C = true
  f : ∀ w : World, findIn (hd.heap_39 w.params) (.ref C) x = some none
structure IsM (C : Addr) (x : Str) (f : Addr) : Prop where
  a : ∀ w : World, plainGet (hd.heap_39 w.params) C x = true
  i : ∀ w : World, findIn (hd.heap_39 w.params) (.ref C) x = some (some (.ref f))
  t : ∀ w : World, isFn (hd.heap_39 w.params) (.ref f) = true
  k : ∀ w : World, keepIn (hd.heap_39 w.params) (.ref f) = true
/-- a thing of a class, its own dict -/
noncomputable def IAt (h : Heap) (x C : Addr) (es : List DictEntry) : Prop := ∃ dx sl n, h.get? x = some ⟨.ref C, some dx, .plain, sl⟩ ∧ h.get? dx = some (dictOf es n)
section
variable {D : List (Str × NameKind)} {n : Nat} {c : Cx D n} {X X' : List Addr} {g g' h h' h0 : Heap} {l : List (Str × Value)} {P : Value → Heap → Prop} {N : Heap → List (Str × Value) → Prop}
/-- what stood at the call stands still -/
structure Base (c : Cx D n) (h0 g : Heap) : Prop where
  st : h0.StaysIn g
  off : ∀ a o, h0.get? a = some o → a ∉ c.all
theorem Base.up (b : Base c h0 g) (u : Up c [] g g') : Base c h0 g' := ⟨fun a o e => u.get (nil_ok (b.off a o e)) (b.st a o e), b.off⟩
theorem Base.self (off : ∀ a o, h.get? a = some o → a ∉ c.all) : Base c h h := ⟨StaysIn.refl _, off⟩
theorem Base.st' (b : Base c h0 g) (x : St c g l h) : h0.StaysIn h := fun a o e => x.get (b.off a o e) (b.st a o e)
theorem Ev0.attr {x y : Str} {p0 pos : Pos} {a C : Addr} {es : List DictEntry} {v : Value} (I : IAt h0 a C es) (b : Base c h0 g) (A : IsA C y) (hl : getL y es = some (some v)) (hh : handedIn v = true) (hv : l.lookup x = some (.ref a) := by rfl) (hk : okN D x = true := by rfl)
    (he : ∀ env : Env, eval (.Attribute (.Name x p0) y pos) env = (do
      let o ← eval (.Name x p0) env
      standAt pos.atName
      let r ← holding [o] (getAttr o y true)
      letTemporaryGo (.Name x p0) o r
      pure r) := by intro _; with_unfolding_all rfl) : Ev0 c g l (.Attribute (.Name x p0) y pos) (.v v) := fun s Q E x1 p =>
  Attribute_any_ (Ev0.var hv hk s _ E x1 fun u tk z => by
    obtain rfl : u = .ref a := z
    obtain ⟨dx, sl, n', e1, e2⟩ := I
    have st := b.st' x1
    exact get_value (s := { s with toks := tk }) (c.W.gd.k.keeps x1.b0) (instAt (st _ _ e1) (st _ _ e2)) (plainGet_of (A.a _)).1 (findObj_own (A.b _) (A.f _) rfl hl) hh (p v _ rfl)) (he _)
theorem Ev.meth {pl : Sem Bool} {x y : Str} {p0 p1 p2 : Pos} {e : Expr} {es : List Expr} {a C f : Addr} {des : List DictEntry} {k : Nat} {P' : List Value → Heap → Prop} (I : IAt h0 a C des) (b : Base c h0 g) (M : IsM C y f) (hl : getL y des = .some Option.none)
    (args : EvL c X g l (e :: es) P') (z : ∀ vs g', (∀ a, g'.get? a = Option.none → New c g' a) → Up c X g g' → P' vs g' → Fn c.W k X g' (.ref f) (.ref a :: vs) P) (hr : k ≤ n := by first | exact Nat.le_of_ble_eq_true rfl | omega) (hv : l.lookup x = some (.ref a) := by rfl) (hk : okN D x = true := by rfl) (hs : noStar (e :: es) = true := by rfl)
    (he : eval (.Call (.Attribute (.Name x p0) y p1) (e :: es) [] p2) c.env = (do
      let ov ← eval (.Name x p0) c.env
      standAt p1.atName
      let (f, first) ← holding [ov] (getMethod ov y pl)
      callWith p2 f first (backTo p2 (starEach (e :: es) c.env)) (backToKw p2 (keywordEach [] c.env))) := by rfl) : Ev c X g l (.Call (.Attribute (.Name x p0) y p1) (e :: es) [] p2) P := .mk fun s Q E ok x1 p =>
  methodCall_KW (pl := pl) (Ev0.var hv hk s _ E x1 fun u tk zz => by
    obtain rfl : u = .ref a := zz
    obtain ⟨dx, sl, n', e1, e2⟩ := I
    have st := b.st' x1
    refine method_fn (s := { s with toks := tk }) (c.W.gd.k.keeps x1.b0) (instAt (st _ _ e1) (st _ _ e2)) (plainGet_of (M.a _)).1 (plainGet_of (M.a _)).2 (M.i _) (beq_iff_eq.mp (M.t _)) (by show (lookIn y (dictOf des n')).map _ = _; rw [lookIn_dict, hl]; rfl) ?_
    exact callWith_K (K := hd.heap_39 c.W.w.params) (h₀ := c.W.b0) c.W.gd.k (M.k _) ((args.run p2) { s with toks := tk } _ E ok x1 fun vs h' d' tk' kk f' q => by
      have x2 := x1.next ok kk f'
      exact ⟨c.W.gd.k.keeps x2.b0, z vs h' (fun a e => x2.new e) (x1.up kk) q c.A _ Q E (c.room.mono hr) x2.b0 (fun a m => (ok a m).1.elim (c.xs a) fun e0 => by
        cases q0 : c.W.b0.get? a with
        | none => rfl
        | some o => rw [c.up _ _ q0] at e0; cases e0) rfl fun v h₂ d₂ tk₂ k₂ z₂ => p v h₂ d₂ tk₂ (kk.trans (k₂.mono fun _ q => .tail _ q)) (x2.2.2.next ok k₂) z₂⟩) (starEach_cons hs).1 (star_plain (starEach_cons (env := c.env) hs).2)) he
theorem Op.dict {t : Addr} {its : List Value} {kvs : List (Str × Value)} (it : ExTup g t its) (hp : All2 (PairIn g) its kvs) (hnd : (kvs.map (·.1)).Nodup) (hz : kvs.length ≤ 1000) (fin : ∀ d h' o, Up c [] g h' → d ∉ c.all → h'.get? d = some o → (d == sysModules) = false → MapOb PR c.W.w o (valueAt kvs) → P (.ref d) h') : Op c X g l (call (.type "dict") [.ref t]) P := fun s Q E ok x1 p => by
  obtain ⟨k, e⟩ := it.sub x1.1.sub
  obtain ⟨m, news, F, Nw, all, back⟩ := x1.fnA
  refine dict_s F Nw (modules_low (c.W.gd.t.nolimit.keeps x1.b0)) c.room.h e (hp.imp fun _ _ ⟨p, tk, e, i⟩ => ⟨p, tk, e, x1.tup i⟩) hnd hz fun S h' tk o F' N' lt hs so => ?_
  obtain ⟨k2, f2⟩ := back h' F' fun q hq => N' q (.tail _ hq)
  have z := N' _ (.head _)
  have nw := x1.newAt (fun b o ne e => lt _ (all b o ne e)) z.2.1
  exact p _ h' s.drawn tk (k2.mono fun a q => by rw [List.mem_singleton.mp q]; exact .head _) f2 (fin S h' o (x1.up (X := []) k2) nw.f z.1 hs so)
/-- try: a body that returns -/
theorem Ex.try {body ss : List Stmt} {h₀ : ExceptHandler} {hs : List ExceptHandler} {pos : Pos} (x : Ex c g l body P fun _ _ => False) : Ex c g l (.Try body (h₀ :: hs) [] [] pos :: ss) P N := .mk fun s Q E x1 rr t =>
  wpAny_execs_cons (wpAny_Try_except (x.run s _ _ x1 (fun v h₃ d₃ tk₃ k₃ z₃ => rr v h₃ d₃ tk₃ k₃ z₃) fun _ _ _ _ _ _ z => z.elim))
end
theorem B_dict : IsB "dict" (.type "dict") := ⟨fun w => by k_is, by boot_by_name, by decide⟩
theorem A_told : IsA 213 "told" := ⟨fun w => by k_is, fun w => by k_is, fun w => by k_is⟩
theorem A_rules : IsA 213 "rules" := ⟨fun w => by k_is, fun w => by k_is, fun w => by k_is⟩
theorem A_left : IsA 239 "left" := ⟨fun w => by k_is, fun w => by k_is, fun w => by k_is⟩
theorem A_right : IsA 239 "right" := ⟨fun w => by k_is, fun w => by k_is, fun w => by k_is⟩
theorem M_told_sides : IsM 213 "told_sides" 190 := ⟨fun w => by k_is, fun w => by k_is, fun w => by k_is, fun w => by k_is⟩
theorem M_rule_sides : IsM 213 "rule_sides" 195 := ⟨fun w => by k_is, fun w => by k_is, fun w => by k_is, fun w => by k_is⟩
theorem M_sides_of : IsM 213 "sides_of" 200 := ⟨fun w => by k_is, fun w => by k_is, fun w => by k_is, fun w => by k_is⟩
theorem M_sides : IsM 213 "sides" 205 := ⟨fun w => by k_is, fun w => by k_is, fun w => by k_is, fun w => by k_is⟩
theorem M_count : IsM 213 "count" 210 := ⟨fun w => by k_is, fun w => by k_is, fun w => by k_is, fun w => by k_is⟩
theorem told_sides_f {W : Wd} {h : Heap} {J dT : Addr} {oT : Obj} {f : Str → Option Value} {rules pl u : Value} {lab : Str} {k : Tok} (hJ : JudgeAt h J rules (.ref dT)) (ho : h.get? dT = some oT) (hm : MapOb PR W.w oT f) (hds : (dT == sysModules) = false) (hf : f lab = some u) : Fn W 2 [] h (.ref 190) [.ref J, .str lab k, pl] fun x _ => x = u := by
  obtain ⟨dx, sl, es, n, hj, hdx, e1, e2, e3, e4, e5, e6, e7⟩ := hJ.ex
  refine' .enter [("place", pl), ("label", .str lab k), ("self", .ref J)] ?ho ?hcd ?hbind ?hkind ?hnd ?_
  walk_at "K side"
  rintro c rfl _ old
  have b := Base.self old
  have e : (!(f lab).isSome) = false := by rw [hf]; rfl
  refine .itF (e ▸ .cmp .varS (.attr ⟨dx, sl, n, hj, hdx⟩ b A_told e2 rfl) (Cm.nin ho (old _ _ ho) hm hds) rfl) (.ret (.ofV (.itemD (.attr ⟨dx, sl, n, hj, hdx⟩ b A_told e2 rfl) .varS ho (old _ _ ho) hm hf) fun _ _ => rfl))
end
section
open PySem PySem.W PyProof.Rows PySem.Calls
section
variable {D : List (Str × NameKind)} {n : Nat} {c : Cx D n} {X X' : List Addr} {g g' h h' h0 : Heap} {l : List (Str × Value)} {P : Value → Heap → Prop} {N : Heap → List (Str × Value) → Prop}
theorem Cm.neD {a b : Addr} {t : T} (ht : TermAt g (.ref a) t) (hu : TermAt g (.ref b) t) (hd : t.depth + 1 ≤ 20 * n) (h : Heap) (u v : Value) (x : St c g l h) (y : (At.v (.ref a)).is u) (z : (At.v (.ref b)).is v) : Cm c h .NotEq u v false := fun s Q E eh p => by
  obtain rfl : u = .ref a := y
  obtain rfl : v = .ref b := z
  subst eh
  obtain ⟨_, _, _, e, i, _⟩ := (ht.sub x.1.sub).view
  cases e
  exact neD_t (by have := c.units; omega) i (TermAt.deep (ht.sub x.1.sub) (hu.sub x.1.sub)) (p s.toks)
/-- (paper[1],) + tuple([one[j] for one in sides]) -/
theorem Ev.under {ns : List (Str × NameKind)} {more : List (Str × Const)} {j : Nat} {k1 k2 k3 : Nat} {p1 p2 p3 p4 p5 p6 p7 p8 p9 p10 p11 p12 p13 : Pos} {a S : Addr} {op : Str} {tk : Tok} {its ss : List Value} {xs : List (T × T)} {pr : T × T → T}
    (it : IsTup g a its.toArray) (hy : its[1]? = some (.str op tk)) (hl : ListAt g S ss) (hS : S ∉ c.all) (hss : All2 (SidesAt g) ss xs) (hz : ss.length ≤ 2) (hj : ∀ {h v x}, SidesAt h v x → ∃ a us y, v = .ref a ∧ IsTup h a (List.toArray us) ∧ us[j]? = some y ∧ TermAt h y (pr x))
    (hp : ∀ v h', Up c [] g h' → (∃ r us, v = .ref r ∧ IsTup h' r (.str op tk :: us).toArray ∧ All2 (TermAt h') us (xs.map pr)) → P v h') (hj3 : j ≤ 3 := by exact Nat.le_of_ble_eq_true rfl)
    (hv : l.lookup ("paper" : Str) = some (.ref a) := by rfl) (hv2 : l.lookup ("sides" : Str) = some (.ref S) := by rfl) (hk : okN D "paper" = true := by rfl) (hk2 : okN D "sides" = true := by rfl) (hk3 : okG D "tuple" = true := by rfl) (hn : okNs D ns = true := by rfl) (ho : (relN D ns).lookup ("one" : Str) = some .local := by rfl)
    (hs : ∀ x, foldedSetIterable (.Name "sides" p10) c.env x = pure x := by intro _; rfl) :
    Ev c [] g l (.BinOp (.Tuple [.Subscript (.Name "paper" p1) (.Constant (.int 1) k1 p2) p3] k2 p4) .Add (.Call (.Name "tuple" p5) [.ListComp (.Subscript (.Name "one" p6) (.Constant (.int (j : Int)) k3 p7) p8) [⟨.Name "one" p9, .Name "sides" p10, [], 0⟩] ⟨.function, ns, false, false, more⟩ p11] [] p12) p13) P :=
  .bin (P' := fun v h' => ∃ p, v = .ref p ∧ IsTup h' p [.str op tk].toArray) (.tup (.cons (.itemV (i := 1) it hy hv hk) .nil) fun vs p h' u nw z i => ⟨p, rfl, z.v1 ▸ i.tup⟩) fun v g2 u2 ⟨p, e, ip⟩ => by
    subst e
    refine .callTy (P' := fun vs h' => ∃ e us, vs = [.ref e] ∧ e ∉ c.all ∧ ListAt h' e us ∧ All2 (TermAt h') us (xs.map pr) ∧ IsTup h' p [.str op tk].toArray ∧ Up c [] g h') B_tuple (.one (.map (.nameL (hl.up u2 hS) hS hv2 hk2) (fun m Pv g3 u3 ⟨em, ep⟩ => ⟨by omega, fun i y h => ∃ r, (xs.map pr)[i]? = some r ∧ TermAt h y r, fun i y h h' ⟨r, e, x⟩ ts => ⟨r, e, x.sub ts⟩, fun C cl kk i y h' hi hy st old2 => ?_, fun e zs' h' nw u4 hl4 z => ⟨e, zs', rfl, nw.f, hl4, all2_of (z.1.trans (em.trans (by rw [List.length_map, hss.length]))) z.2, u4.sub.tup (u3.sub.tup ip), u2.trans (u3.trans u4)⟩⟩) hs hn)) (fun vs g' u ⟨e, us, ev, he, hl, hus, ip, ug⟩ => ?_) hk3
    · obtain ⟨x, hx, hsx⟩ := hss.get (ep i y h' hy)
      obtain ⟨b, us, w, rfl, ib, hw, ht⟩ := hj (hsx.sub (u2.sub.trans (u3.sub.trans (TupSub.of st))))
      exact ⟨_, .nameL ho, .ofV (.itemV (i := j) ib hw (by rfl) (by unfold okN; rw [ho]; rfl) hj3) fun h'' u => ⟨pr x, by rw [List.getElem?_map, hx]; rfl, ht.sub u.sub⟩⟩
    · subst ev
      exact .tuple hl he (by rw [hus.length, List.length_map, ← hss.length]; omega) fun q h' u5 nw i5 => .addT (u5.sub.tup ip) i5.tup (by rw [hus.length, List.length_map, ← hss.length, List.length_singleton]; omega) fun r h6 u6 i6 => hp _ _ (ug.trans (u5.trans u6)) ⟨r, us, rfl, i6, hus.imp fun _ _ x => x.sub (u5.sub.trans u6.sub)⟩
end
theorem rule_sides_f {W : Wd} {h : Heap} {J dR R pl : Addr} {oR : Obj} {f : Str → Option Value} {told pc : Value} {nm : Str} {k : Tok} {l r sx sy : T} {ps : List Value} {kvs : List (Str × Value)} {vl xs : List Str}
    (hJ : JudgeAt h J (.ref dR) told) (ho : h.get? dR = some oR) (hm : MapOb PR W.w oR f) (hds : (dR == sysModules) = false) (hf : f nm = some (.ref R)) (hR : RuleAt h R l r)
    (hpl : ExTup h pl ps) (hps : All2 (PairIn h) ps kvs) (hxs : kvs.map (·.1) = xs) (hnd : (kvs.map (·.1)).Nodup) (hv : l.vars = vl) (hst : SortTo vl xs) (hl : l.depth ≤ 4 ∧ l.size ≤ 100) (hrr : r.depth ≤ 4) (hz : kvs.length ≤ 2)
    (hs : ∀ x, x ∈ l.vars ∨ x ∈ r.vars → ∃ u, valueAt kvs x = some u ∧ TermAt h u (if x = ("?x" : Str) then sx else sy)) : Fn W 12 [] h (.ref 195) [.ref J, .str nm k, .ref pl, pc] fun x h' => SidesAt h' x (l.subst sx sy, r.subst sx sy) := by
  obtain ⟨dx, sl, es, n, hj, hdx, e1, e2, e3, e4, e5, e6, e7⟩ := hJ.ex
  obtain ⟨dx2, sl2, es2, n2, vL, vR, hj2, hdx2, g1, g2, hvl, hvr⟩ := hR.ex
  obtain ⟨aL, _, _, rfl, _, _⟩ := hvl.view
  obtain ⟨aR, _, _, rfl, _, _⟩ := hvr.view
  have hlp : ps.length ≤ 2 := hps.length ▸ hz
  refine' .enter [("place", pc), ("places", .ref pl), ("name", .str nm k), ("self", .ref J)] ?ho ?hcd ?hbind ?hkind ?hnd ?_
  walk_at "K side"
  rintro c rfl _ old
  have b := Base.self old
  have e : (!(f nm).isSome) = false := by rw [hf]; rfl
  have IJ : IAt h J 213 es := ⟨dx, sl, n, hj, hdx⟩
  have IR : IAt h R 239 es2 := ⟨dx2, sl2, n2, hj2, hdx2⟩
  have pair : ∀ {i : Nat} {v : Value}, ps[i]? = some v → ∃ x p tk w, xs[i]? = some x ∧ v = .ref p ∧ IsTup h p [.str x tk, w].toArray := fun e => by
    obtain ⟨⟨kx, vx⟩, hx', pp, tkp, rfl, hpp⟩ := hps.get e
    exact ⟨kx, pp, tkp, vx, by rw [← hxs, List.getElem?_map, hx']; rfl, rfl, hpp⟩
  have hxl : xs.length = ps.length := by rw [← hxs, List.length_map, hps.length]
  refine .itF (e ▸ .cmp .varS (.attr IJ b A_rules e1 rfl) (Cm.nin ho (old _ _ ho) hm hds) rfl) (.assignV (.itemD (.attr IJ b A_rules e1 rfl) .varS ho (old _ _ ho) hm hf) ?_)
  refine .iteR (X := []) (Pt := fun β _ => β = false) (.cmp (.map (P := fun v h' => ∃ d us, v = .ref d ∧ d ∉ c.all ∧ ListAt h' d us ∧ StrsAre us xs) (.nameT hpl.tup) fun m Pv g2 u2 ⟨em, ep⟩ => ⟨by omega, fun i y _ => ∃ x tk, xs[i]? = some x ∧ y = .str x tk, fun _ _ _ _ x _ => x, fun C cl k i v h3 hi hv st2 old => ?_, fun d ys h3 nw u3 hl es => ⟨d, ys, rfl, nw.f, hl, strsAre_of (all2_of (es.1.trans (em.trans hxl.symm)) fun i y e => by obtain ⟨x, tk, hx, e⟩ := es.2 i y e; exact ⟨x, hx, tk, e⟩)⟩⟩) (fun v g3 u3 ⟨d, us, e, nd, hl3, hs3⟩ => ?_) rfl) (fun _ _ e => nomatch e) fun g3 u3 _ => .try (.ret ?_)
  · obtain ⟨x, p, tk, w, hx, rfl, it⟩ := pair (ep i v h3 hv)
    exact ⟨_, .tupL (ns := ["variable", "term"]) ((u2.sub.trans (TupSub.of st2)).tup it), .ofV .var fun _ _ => ⟨x, tk, hx, rfl⟩⟩
  · subst e
    refine .callF (k := 6) G_variables (.cons (.attr IR (b.up u3) A_left g1 rfl) .nil) fun vs g4 nw u4 z => ?_
    rw [z.v1]
    exact (variables_f (k := 4) (by omega) (hvl.sub (u3.sub.trans u4.sub)) hl.1 (by omega) hv hst).imp fun v h' k ⟨d', us', e, hn', hl', hs'⟩ => by
      subst e
      exact .neL ((hl3.up u4 nd).keep k fun q => nomatch q) hl' nd (nw _ hn').f hs3 hs' (by decide) fun _ _ => ⟨_, rfl, rfl⟩
  · have b3 := b.up u3
    have plc : ∀ {g g' : Heap} {a d : Addr} {o : Obj} {t : T}, Up c [] h g → Up c [] g g' → TermAt h (.ref a) t → t.depth ≤ 4 → (∀ x ∈ t.vars, x ∈ l.vars ∨ x ∈ r.vars) → d ∉ c.all → (d == sysModules) = false → g.get? d = some o → MapOb PR c.W.w o (valueAt kvs) → Fn c.W 6 [] g' (.ref 112) [.ref a, .ref d] fun x h' => TermAt h' x (t.subst sx sy) := fun u u' ht hd hx nd hds ho hm =>
      placed_f (n := 4) hm hds (by decide) _ hd (ht.sub (u.sub.trans u'.sub)) (u'.get (nil_ok nd) ho) fun x q => let ⟨w, e, t⟩ := hs x (hx x q); ⟨w, e, t.sub (u.sub.trans u'.sub)⟩
    refine .tupL (P' := fun vs h' => ∃ v w, vs = [v, w] ∧ TermAt h' v (l.subst sx sy) ∧ TermAt h' w (r.subst sx sy)) (.cons (P' := fun v h' => TermAt h' v (l.subst sx sy)) (.callG (k := 6) (P' := fun vs h' => ∃ d o, vs = [.ref aL, .ref d] ∧ Up c [] h h' ∧ d ∉ c.all ∧ (d == sysModules) = false ∧ h'.get? d = some o ∧ MapOb PR c.W.w o (valueAt kvs)) G_placed (.cons (P' := fun v h' => v = .ref aL ∧ Up c [] h h') (.ofV (.attr IR b3 A_left g1 rfl) fun h' u => ⟨rfl, u3.trans u⟩) fun v g4 u4 ⟨e, ug⟩ => .one (.callTy (P' := fun vs h' => vs = [.ref pl] ∧ Up c [] h h') B_dict (.one (.ofV .var fun h' u => ⟨rfl, ug.trans u⟩)) fun vs g5 u5 ⟨e2, ug5⟩ => by
        subst e e2
        exact .dict (hpl.sub ug5.sub) (hps.imp fun _ _ ⟨p, tk, e, i⟩ => ⟨p, tk, e, ug5.sub.tup i⟩) hnd (by omega) fun d h' o u6 nd ho hds hm => ⟨d, o, rfl, ug5.trans u6, nd, hds, ho, hm⟩)) fun vs g6 nw u6 ⟨d, o, e, ug, nd, hds, ho, hm⟩ => by
      subst e; exact plc ug .refl hvl hl.1 (fun x q => .inl q) nd hds ho hm) fun v g7 u7 tv => .one (.callG (k := 6) (P' := fun vs h' => ∃ d o, vs = [.ref aR, .ref d] ∧ Up c [] h h' ∧ Up c [] g7 h' ∧ d ∉ c.all ∧ (d == sysModules) = false ∧ h'.get? d = some o ∧ MapOb PR c.W.w o (valueAt kvs)) G_placed (.cons (P' := fun v h' => v = .ref aR ∧ Up c [] h h' ∧ Up c [] g7 h') (.ofV (.attr IR (b3.up u7) A_right g2 rfl) fun h' u => ⟨rfl, u3.trans (u7.trans u), u⟩) fun v g4 u4 ⟨e, ug, uh⟩ => .one (.callTy (P' := fun vs h' => vs = [.ref pl] ∧ Up c [] h h' ∧ Up c [] g7 h') B_dict (.one (.ofV .var fun h' u => ⟨rfl, ug.trans u, uh.trans u⟩)) fun vs g5 u5 ⟨e2, ug5, uh5⟩ => by
        subst e e2
        exact .dict (hpl.sub ug5.sub) (hps.imp fun _ _ ⟨p, tk, e, i⟩ => ⟨p, tk, e, ug5.sub.tup i⟩) hnd (by omega) fun d h' o u6 nd ho hds hm => ⟨d, o, rfl, ug5.trans u6, uh5.trans u6, nd, hds, ho, hm⟩)) fun vs g6 nw u6 ⟨d, o, e, ug, uh, nd, hds, ho, hm⟩ => by
      subst e; exact (plc ug .refl hvr hrr (fun x q => .inr q) nd hds ho hm).imp fun w h' k tw => ⟨v, w, rfl, tv.sub (uh.sub.trans k.sub), tw⟩)) (fun vs t g' h' u z u2 _ i => ?_) ?_
    · obtain ⟨v, w, rfl, tv, tw⟩ := z
      exact ⟨t, v, w, rfl, i.tup, tv.sub u2.sub, tw.sub u2.sub⟩
    · rintro vs g' ⟨v, w, rfl, _⟩; exact Nat.le_of_ble_eq_true rfl
end
section
open PySem PySem.W PyProof.Rows PySem.Calls
theorem sides_of_f {W : Wd} {h : Heap} {J S : Addr} {ft : Str → Option Value} {v pv : Value} {p : P} {ss : List Value} (hW : WorldAt W.w h J ft) (hp : PaperAt h v p) (hk : p.ok) (hto : ToldOk h ft p) (hS : ListAt h S ss) (hss : All2 (SidesAt h) ss (p.kids.map P.sides)) :
    Fn W 14 [] h (.ref 200) [.ref J, v, pv, .ref S] fun x h' => SidesAt h' x p.sides := by
  obtain ⟨dR, dT, oR, oT, fr, R1, R2, hJ, hR0, hmR, hsR, hf1, hf2, hR1, hR2, hT0, hmT, hsT⟩ := hW.ex
  obtain ⟨dx, sl, es, n, hj, hdx, e1, e2, e3, e4, e5, e6, e7⟩ := hJ.ex
  obtain ⟨a, tk, vs, rfl, it⟩ := hp.view
  refine' .enter [("sides", .ref S), ("path", pv), ("paper", .ref a), ("self", .ref J)] ?ho ?hcd ?hbind ?hkind ?hnd ?_
  walk_at "K side"
  rintro c rfl _ old
  have b := Base.self old
  have hSo := old _ _ hS.choose_spec
  have hz : ss.length ≤ 2 := by rw [hss.length, List.length_map]; exact p.kids_len
  have IJ : IAt h J 213 es := ⟨dx, sl, n, hj, hdx⟩
  refine .assignV (.itemV (i := 0) it) (.ite0 .varIs (fun e => ?_) fun q1 => .ite0 .varIs (fun e => ?_) fun q2 => .ite0 .varIs (fun e => ?_) fun q3 => .ite0 .varIs (fun e => ?_) fun q4 => ?_)
  · rw [kind_same'] at e
    cases hp with
    | same i ht =>
      obtain ⟨_, rfl⟩ := List.cons.inj (tup_inj it i)
      exact .ret (.tup (.cons (.itemV (i := 1) it) (.cons (.itemV (i := 1) it) .nil)) fun us t h' u _ z i => ⟨t, _, _, rfl, z.v2 ▸ i.tup, ht.sub u.sub, ht.sub u.sub⟩)
    | _ => cases e
  · rw [kind_told] at e
    cases hp with
    | @told _ _ k' lab _ _ i =>
      obtain ⟨_, rfl⟩ := List.cons.inj (tup_inj it i)
      obtain ⟨u, hfu, hu⟩ := hto _ (.head _)
      exact .ret (.meth (k := 2) (P' := fun us h' => us = [.str lab k', pv] ∧ Up c [] h h') IJ b M_told_sides e3 (.of (.cons (.itemV (i := 1) it) (.var .nil)) fun us h' u z => ⟨z.v2, u⟩) fun us g' nw u ⟨e, ug⟩ => by
        subst e
        exact (told_sides_f (hJ.keeps (b.up ug).st) ((b.up ug).st _ _ hT0) hmT hsT hfu).imp fun v h' k e => e ▸ hu.sub (ug.sub.trans k.sub))
    | _ => cases e
  · rw [kind_rule] at e
    cases hp with
    | @twice _ pl _ _ k' _ v3 t3 i i1 i2 ht =>
      obtain ⟨_, rfl⟩ := List.cons.inj (tup_inj it i)
      exact .ret (.meth (k := 12) (P' := fun us h' => us = [.str "twice" k', .ref pl, pv] ∧ Up c [] h h') IJ b M_rule_sides e4 (.of (.cons (.itemV (i := 1) it) (.cons (.itemV (i := 2) it) (.var .nil))) fun us h' u z => ⟨z.v3, u⟩) fun us g' nw u ⟨e, ug⟩ => by
        subst e
        have st := (b.up ug).st
        exact rule_sides_f (sx := t3) (sy := .a) (hJ.keeps st) (st _ _ hR0) hmR hsR hf1 (hR1.keeps st) (i1.sub ug.sub) (kvs := [("?x", _)]) (.one ⟨_, _, rfl, ug.sub.tup i2⟩) rfl (by show [("?x" : Str)].Nodup; decide +kernel) vars_fx sort_x ⟨by decide, by decide⟩ (by decide) (by show (1 : Nat) ≤ 2; omega) fun x hx => by
          have : x = "?x" := by
            rw [vars_fx, vars_gxx] at hx
            simpa using hx
          subst this
          exact ⟨_, by rfl, by rw [if_pos rfl]; exact ht.sub ug.sub⟩)
    | @swap _ pl _ _ _ k' _ _ v3 u3 t3 t4 i i1 i2 ht i3 hu =>
      obtain ⟨_, rfl⟩ := List.cons.inj (tup_inj it i)
      exact .ret (.meth (k := 12) (P' := fun us h' => us = [.str "swap" k', .ref pl, pv] ∧ Up c [] h h') IJ b M_rule_sides e4 (.of (.cons (.itemV (i := 1) it) (.cons (.itemV (i := 2) it) (.var .nil))) fun us h' u z => ⟨z.v3, u⟩) fun us g' nw u ⟨e, ug⟩ => by
        subst e
        have st := (b.up ug).st
        exact rule_sides_f (sx := t3) (sy := t4) (hJ.keeps st) (st _ _ hR0) hmR hsR hf2 (hR2.keeps st) (i1.sub ug.sub) (kvs := [("?x", _), ("?y", _)]) (.cons ⟨_, _, rfl, ug.sub.tup i2⟩ (.one ⟨_, _, rfl, ug.sub.tup i3⟩)) rfl (by show [("?x" : Str), ("?y" : Str)].Nodup; decide +kernel) vars_gxy sort_xy ⟨by decide, by decide⟩ (by decide) (by show (2 : Nat) ≤ 2; omega) fun x hx => by
          have : x = "?x" ∨ x = "?y" := by
            rw [vars_gxy, vars_gyx] at hx
            simp only [List.mem_cons, List.not_mem_nil, or_false] at hx
            rcases hx with (h | h) | (h | h)
            · exact .inl h
            · exact .inr h
            · exact .inr h
            · exact .inl h
          rcases this with rfl | rfl
          · exact ⟨_, by rfl, by rw [if_pos rfl]; exact ht.sub ug.sub⟩
          · exact ⟨_, by rfl, by rw [if_neg (by decide +kernel)]; exact hu.sub ug.sub⟩)
    | _ => cases e
  · rw [kind_turn] at e
    cases hp with
    | turn i hq =>
      cases hss with
      | cons s0 hn =>
        cases hn
        obtain ⟨a0, l0, r0, rfl, ia0, tl0, tr0⟩ := s0
        exact .ret (.tup (.cons (.item (i := 1) (a := .v r0) (.itemL .var (r := 0) .int hS.is hSo rfl (by decide)) ia0 ⟨_, rfl, rfl⟩) (.cons (.item (i := 0) (a := .v l0) (.itemL .var (r := 0) .int hS.is hSo rfl (by decide)) ia0 ⟨_, rfl, rfl⟩) .nil)) fun us t h' u _ z i => ⟨t, _, _, rfl, z.v2 ▸ i.tup, tr0.sub u.sub, tl0.sub u.sub⟩)
    | _ => cases e
  · refine .ite0 .varIs (fun e => ?_) fun q5 => ?_
    · rw [kind_join] at e
      cases hp with
      | join i hq hr =>
        cases hss with
        | cons s0 hn =>
        cases hn with
        | cons s1 hn =>
          cases hn
          obtain ⟨a0, l0, r0, rfl, ia0, tl0, tr0⟩ := s0
          obtain ⟨a1, l1, r1, rfl, ia1, tl1, tr1⟩ := s1
          have heq := hk.2.2.1
          have hdp := hk.2.2.2
          rw [heq] at tr0 hdp
          obtain ⟨ar, _, _, rfl, iar, _⟩ := tr0.view
          obtain ⟨al, _, _, rfl, ial, _⟩ := tl1.view
          exact .itF (.cmp (.item (i := 1) (a := .v (.ref ar)) (.itemL .var (r := 0) .int hS.is hSo rfl (by decide)) ia0 ⟨_, rfl, rfl⟩) (.item (i := 0) (a := .v (.ref al)) (.itemL .var (r := 1) .int hS.is hSo rfl (by decide)) ia1 ⟨_, rfl, rfl⟩) (Cm.neD tr0 tl1 (by omega)) rfl)
            (.ret (.tup (.cons (.item (i := 0) (a := .v l0) (.itemL .var (r := 0) .int hS.is hSo rfl (by decide)) ia0 ⟨_, rfl, rfl⟩) (.cons (.item (i := 1) (a := .v r1) (.itemL .var (r := 1) .int hS.is hSo rfl (by decide)) ia1 ⟨_, rfl, rfl⟩) .nil)) fun us t h' u _ z i => ⟨t, _, _, rfl, z.v2 ▸ i.tup, tl0.sub u.sub, tr1.sub u.sub⟩))
      | _ => cases e
    · obtain ⟨op, k, hv, hfin⟩ : ∃ op k, vs[0]? = some (.str op k) ∧ (∀ h' q1 q2 l1 l2, IsTup h' q1 (.str op k :: l1).toArray → All2 (TermAt h') l1 ((p.kids.map P.sides).map Prod.fst) → IsTup h' q2 (.str op k :: l2).toArray → All2 (TermAt h') l2 ((p.kids.map P.sides).map Prod.snd) → TermAt h' (.ref q1) p.sides.1 ∧ TermAt h' (.ref q2) p.sides.2) := by
        cases hp with
        | under1 i ij hq =>
          obtain ⟨_, rfl⟩ := List.cons.inj (tup_inj it i)
          exact ⟨_, _, rfl, fun h' q1 q2 l1 l2 i1 a1 i2 a2 => ⟨.mk (t := .f _) i1 (all_terms a1), .mk (t := .f _) i2 (all_terms a2)⟩⟩
        | under2 i ij hq hr =>
          obtain ⟨_, rfl⟩ := List.cons.inj (tup_inj it i)
          exact ⟨_, _, rfl, fun h' q1 q2 l1 l2 i1 a1 i2 a2 => ⟨.mk (t := .g _ _) i1 (all_terms a1), .mk (t := .g _ _) i2 (all_terms a2)⟩⟩
        | same i => rw [kind_same'] at q1; cases q1
        | told i => rw [kind_told] at q2; cases q2
        | twice i => rw [kind_rule] at q3; cases q3
        | swap i => rw [kind_rule] at q3; cases q3
        | turn i => rw [kind_turn] at q4; cases q4
        | join i => rw [kind_join] at q5; cases q5
      refine .ret (.tupL (P' := fun us h' => ∃ q1 q2, us = [.ref q1, .ref q2] ∧ TermAt h' (.ref q1) p.sides.1 ∧ TermAt h' (.ref q2) p.sides.2) (.cons (P' := fun v h' => Up c [] h h' ∧ ∃ r us, v = .ref r ∧ IsTup h' r (.str op k :: us).toArray ∧ All2 (TermAt h') us ((p.kids.map P.sides).map Prod.fst)) (.under (j := 0) (pr := Prod.fst) it hv hS hSo hss hz (fun ⟨a, l, r, e, i, tl, tr⟩ => ⟨a, _, l, e, i, rfl, tl⟩) fun v h' u z => ⟨u, z⟩) fun v g1 u1 ⟨ug, q1, l1, e, i1, a1⟩ => .one (.under (j := 1) (pr := Prod.snd) (ug.sub.tup it) hv (hS.up ug hSo) hSo (hss.imp fun _ _ x => x.sub ug.sub) hz (fun ⟨a, l, r, e, i, tl, tr⟩ => ⟨a, _, r, e, i, rfl, tr⟩) fun v h' u ⟨q2, l2, e2, i2, a2⟩ => ⟨q1, q2, by rw [e, e2], hfin h' q1 q2 l1 l2 (u.sub.tup i1) (a1.imp fun _ _ x => x.sub u.sub) i2 a2⟩)) (fun us t g' h' u z u2 _ i => ?_) ?_)
      · obtain ⟨q1, q2, rfl, t1, t2⟩ := z
        exact ⟨t, _, _, rfl, i.tup, t1.sub u2.sub, t2.sub u2.sub⟩
      · rintro us g' ⟨q1, q2, rfl, _⟩; exact Nat.le_of_ble_eq_true rfl
end
section
open PySem PySem.W PyProof.Rows PySem.Calls
section
variable {D : List (Str × NameKind)} {n : Nat} {c : Cx D n} {X X' : List Addr} {g g' h h' h0 : Heap} {l : List (Str × Value)} {P : Value → Heap → Prop} {N : Heap → List (Str × Value) → Prop}
theorem Base.upX (b : Base c h0 g) (u : Up c X g g') (hX : ∀ a ∈ X, h0.get? a = none) : Base c h0 g' := ⟨fun a o e => u.get (fun q => (List.mem_append.mp q).elim (b.off a o e) fun q => by rw [hX a q] at e; cases e) (b.st a o e), b.off⟩
theorem outer_look {D ns : List (Str × NameKind)} {x : Str} {v : Value} : ∀ {l : List (Str × Value)}, l.lookup x = some v → ((relN D ns).lookup x == some .cell) = true → (outer D ns l).lookup x = some v
  | [], h, _ => nomatch h
  | (y, u) :: l, h, hp => by
    by_cases e : x = y
    · subst e
      rw [List.lookup_cons, beq_self_eq_true] at h
      rw [outer, List.filter_cons, if_pos hp, List.lookup_cons, beq_self_eq_true]; exact h
    · rw [List.lookup_cons, beq_eq_false_iff_ne.mpr e] at h
      have ih := outer_look (D := D) (ns := ns) (l := l) h hp
      rw [outer, List.filter_cons]
      split
      · rw [List.lookup_cons, beq_eq_false_iff_ne.mpr e]; exact ih
      · exact ih
/-- the table -/
noncomputable def KnAt (W : Wd) (h : Heap) (d : Addr) (xs : List (List Int × Addr × Value)) : Prop := ∃ o, KnownAt PR W.w h d o xs
theorem KnAt.at {W : Wd} {d : Addr} {xs : List (List Int × Addr × Value)} (x : KnAt W h d xs) (k : TupSub h h') (hd : ∀ o, h.get? d = some o → h'.get? d = some o) : KnAt W h' d xs := let ⟨o, y⟩ := x; ⟨o, y.sub k (hd o y.1)⟩
theorem KnAt.up {W : Wd} {d : Addr} {xs : List (List Int × Addr × Value)} (x : KnAt W g d xs) (u : Up c [] g g') (hd : d ∉ c.all) : KnAt W g' d xs := x.at u.sub fun _ e => u.get (nil_ok hd) e
theorem Op.known {value slice : Expr} {d a : Addr} {xs : List (List Int × Addr × Value)} {ls : List Value} {π : List Int} {pr : Addr × Value} (hm : KnAt c.W g d xs) (hd : d ∉ c.all) (i : IsTup g a ls.toArray) (j : IntsAre ls π) (hp : atKey xs π = some pr) (hn : 1 ≤ n) (fin : ∀ h', Up c [] g h' → P pr.2 h')
    (hs : ∀ d a, subscripted slice false (.ref d) (.ref a) = operate [.ref d, .ref a] (getItem (.ref d) (.ref a)) := by intro _ _; with_unfolding_all rfl) : Op c X g l (subscriptTail value slice (.ref d) (.ref a)) P := fun s Q E ok x1 p => by
  obtain ⟨o, hm⟩ := hm
  have hm := hm.sub x1.1.sub (x1.get hd hm.1)
  exact tail_any hm.2.typeIs slot_dict_getitem.lookup (wpAny_getItem_heap (knd := tupleKind (PySem.intKind PR c.W.w)) (by have := c.units; show c.A.units + 1 < cLine; omega) (key_at (x1.tup i) j) hm.2 hp (p.at x1 (fin _ x1.up0))) (hs d a)
/-- d[tuple] = e -/
theorem Ex.setK {e f v : Expr} {pos p1 : Pos} {ss : List Stmt} {P' : Value → Heap → Prop} (a : Ev c X g l v P')
    (r : ∀ u g', Up c X g g' → P' u g' → ∃ d b xs ls π, Ev0 c g' l e (.v (.ref d)) ∧ Ev0 c g' l f (.v (.ref b)) ∧ IsTup g' b (List.toArray ls) ∧ IntsAre ls π ∧ KnAt c.W g' d xs ∧ okX c [d] ∧ xs.length ≤ 10000 ∧ ∀ g₂, Up c [d] g' g₂ → KnAt c.W g₂ d (storedH xs π b u) → Ex c g₂ l ss P N)
    (hn : 1 ≤ n) (ok : okX c X := by exact okX.nil) (hs : swapsWith v (some (.Subscript e f p1)) pos.line c.env = pure false := by rfl) : Ex c g l (.Assign [.Subscript e f p1] v pos :: ss) P N := .mk fun s Q E x1 rr t' =>
  wpAny_execs_cons (wpAny_Assign_Subscript (a.run s _ E ok x1 fun u h' d' tk' kk ff z => by
    obtain ⟨d, b, xs, ls, π, y1, y2, i, j, ⟨o, hm⟩, od, hz, fin⟩ := r u h' (x1.up kk) z
    have x2 := x1.next ok kk ff
    have x2 : St c h' l h' := x2
    refine y1 _ _ E x2 fun v1 tk1 z1 => y2 _ _ E x2 fun v2 tk2 z2 => ?_
    obtain rfl : v1 = .ref d := z1
    obtain rfl : v2 = .ref b := z2
    refine wpAny_setItem_heap (knd := tupleKind (PySem.intKind PR c.W.w)) (by have := c.units; show c.A.units + 1 < cLine; omega) (key_at i j) hm.2 (fun h₂ hm' hs' => ?_) (by rw [sizeLine_eq]; omega)
    obtain ⟨o', es, ep, ho', rest⟩ := id hm'
    have k2 : Kp [d] h' h₂ := Kp.of_but hs' hm.1 fun q => hm.cls q.1
    have k3 : Kp (c.L :: [d]) h' h₂ := k2.mono fun _ q => .tail _ q
    have x3 := x2.next od k3 (x2.2.2.next od k2)
    exact (fin h₂ (x2.up k3) ⟨o', ho', hm'⟩).run _ Q E x3 (fun v h₃ d₃ tk₃ k₃ z₃ => rr v h₃ d₃ tk₃ k₃ z₃) fun g₃ l₃ h₃ d₃ tk₃ x3 z₃ => t' g₃ l₃ h₃ d₃ tk₃ x3 z₃) hs)
theorem Ev.dict {pos : Pos} (hp : ∀ t o h', Up c [] g h' → New c g t → (t == sysModules) = false → h'.get? t = some o → o.IsDictOf (PySem.strKind PR c.W.w) [] → P (.ref t) h') : Ev c X g l (.Dict [] [] pos) P := .mk fun s Q E ok x1 p =>
  wpAny_Dict_empty (by
    have up : s.heap.StaysIn (s.heap.push { cls := .type "dict", data := .dict #[] }) := fun a o e => Heap.get?_push_of_some _ e
    obtain ⟨o, ho, hd⟩ := Heap.dictOf_iff.mp (Heap.DictOf.new (knd := PySem.strKind PR c.W.w) s.heap)
    exact p _ _ s.drawn s.toks (Kp.of up) (x1.2.2.keeps fun a _ o e => up a o e) (hp _ o _ (x1.up (X := []) (Kp.of up)) (x1.new (size_none _)) (beq_eq_false_iff_ne.mpr (Nat.ne_of_gt (modules_low (c.W.gd.t.nolimit.keeps x1.b0)))) ho hd))
theorem Op.lenT {t : Addr} {us : List Value} (it : IsTup g t us.toArray) (hz : us.length ≤ 16384) (hp : ∀ v h', Up c [] g h' → (At.i (us.length : Int)).is v → P v h') : Op c X g l (call (.builtin "len") [.ref t]) P :=
  fun s Q E ok x1 p => kun_lenT (x1.tup it) (by rw [List.size_toArray]) (by omega) (p.at x1 (hp _ _ x1.up0 ⟨_, rfl⟩))
end
theorem B_range : IsB "range" (.type "range") := ⟨fun w => by k_is, by boot_by_name, by decide⟩
theorem sides_f {W : Wd} {h : Heap} {J : Addr} {ft : Str → Option Value} {v : Value} {p : P} (hW : WorldAt W.w h J ft) (hp : PaperAt h v p) (hk : p.ok) (ht : ToldOk h ft p) (hd : p.dep ≤ 50) (hz : p.size ≤ 1000) :
    Fn W 16 [] h (.ref 205) [.ref J, v] fun x h' => SidesAt h' x p.sides := by
  obtain ⟨dR, dT, oR, oT, fr, R1, R2, hJ, _⟩ := id hW.ex
  obtain ⟨dx, sl, es, n, hj, hdx, e1, e2, e3, e4, e5, e6, e7⟩ := hJ.ex
  refine' .enter [("paper", v), ("self", .ref J)] ?ho ?hcd ?hbind ?hkind ?hnd ?_
  walk_at "K side"
  rintro c rfl _ old
  have IJ : IAt h J 213 es := ⟨dx, sl, n, hj, hdx⟩
  refine .assign (P' := fun x h' => ∃ d, x = .ref d ∧ New c h d ∧ KnAt c.W h' d []) (.dict fun t o h' u nw _ ho hd => ⟨t, rfl, nw, o, .new ho hd⟩) fun x g1 u1 ⟨d, e, nd, kn⟩ => ?_
  subst e
  have b1 := (Base.self old).up u1
  refine .for (X := [d]) (.list (P' := fun v h' => ∃ D ys, v = .ref D ∧ ListAt h' D ys ∧ All2 (ItemAt h') ys (p.pre []).reverse ∧ D ≠ d ∧ KnAt c.W h' d []) (.mono0 (.callF G_in_order (.cons .var .nil) fun vs g' nw u z => by
      rw [z.v1]
      have kn' := kn.up u nd.f
      exact (in_order_f (hp.sub (u1.sub.trans u.sub)) hk hz).imp fun v h' k ⟨D, ys, e, hn, hl, ha⟩ => ⟨D, ys, e, hl, ha, (fun q => by subst q; rw [kn'.choose_spec.1] at hn; cases hn), kn'.at k.sub fun _ e => k.get (fun q => nomatch q) e⟩)) ?_) (fun m Pv g2 u2 r => ?_) nd.ok
  · rintro v g' _ ⟨D, ys, rfl, hl, _, hne, kn⟩
    exact ⟨fun x hx => by rw [List.mem_singleton.mp hx]; exact ⟨_, kn.choose_spec.1⟩, D, ys, rfl, fun q => hne (List.mem_singleton.mp q), hl.is⟩
  · obtain ⟨D, ys, ⟨D', ys', e, hl, hys, hne, kn2⟩, i2, em, ep⟩ := r
    cases e
    obtain rfl := list_inj i2 hl
    subst ep
    have hlen : ys.length = p.size := by rw [hys.length, List.length_reverse, P.pre_len]
    have hnd0 : ∀ a ∈ [d], h.get? a = none := fun a q => by rw [List.mem_singleton.mp q]; exact nd.g
    have b2 := b1.upX u2 hnd0
    refine ⟨fun x hx => by rw [List.mem_singleton.mp hx]; exact ⟨_, kn2.choose_spec.1⟩, fun i l h => l.lookup ("self" : Str) = some (.ref J) ∧ l.lookup ("known" : Str) = some (.ref d) ∧ ∃ xs, KnAt c.W h d xs ∧ xs.length ≤ i ∧ (∀ x ∈ xs, ∃ q, p.at x.1 = some q ∧ SidesAt h x.2.2 q.sides) ∧ ∀ y ∈ (p.pre []).reverse.take i, (atKey xs y.1).isSome = true, ?_, ?_, ?_, ?_⟩
    · rintro i l h h' ⟨hs, hkn, xs, kn, hx, ha, hb⟩ ts hX
      exact ⟨hs, hkn, xs, kn.at ts (hX d (.head _)), hx, fun x q => let ⟨r, e, s⟩ := ha x q; ⟨r, e, s.sub ts⟩, hb⟩
    · exact ⟨rfl, rfl, [], kn2, Nat.zero_le _, (fun x q => nomatch q), fun y q => by simp at q⟩
    · rintro i v l₁ h₁ hi hv ⟨hsf, hkn, xs, kn, hx, ha, hb⟩ up
      obtain ⟨⟨π, q⟩, hxi, T, pv, u, rfl, iT, hpa, hpq⟩ := (hys.imp fun _ _ x => x.sub up.sub).get hv
      have hmem : (π, q) ∈ p.pre [] := List.mem_reverse.mp (List.mem_of_getElem? hxi)
      have hati : p.at π = some q := pre_at (r := p) rfl (π, q) hmem
      have b3 := b2.upX up hnd0
      have hfine : Fine h ft q := pre_hered fine_kids ⟨hk, ht, hd⟩ (π, q) hmem
      obtain ⟨pa, ls, rfl, hpl, hil⟩ := hpa
      have hll : ls.length ≤ 1000 := by
        have h3 : π.length + q.size ≤ 0 + p.size := pre_room _ hmem
        rw [IntsAre.length hil]; show π.length ≤ 1000; omega
      refine ⟨_, .tup (ns := ["path", "one"]) iT, .expr (X := []) (P' := fun v _ => v = .none) (.callF G_want_form (.cons .var (.cons .var .nil)) fun vs g' nw u2 z => by rw [z.v2]; exact want_form_f (hpq.sub u2.sub) hfine.1) fun v h₂ u3 e => ⟨fun t q => (by rw [e] at q; cases q), ?_⟩⟩
      have b4 := b3.up u3
      have kn4 := kn.up u3 nd.f
      refine .setK (X := []) (P' := fun v h' => SidesAt h' v q.sides ∧ Up c [] h₂ h') (.meth (k := 14) (P' := fun us h' => ∃ S ss, us = [u, .ref pa, .ref S] ∧ Up c [] h₂ h' ∧ ListAt h' S ss ∧ All2 (SidesAt h') ss (q.kids.map P.sides)) IJ b4 M_sides_of e5 (.cons (P' := fun v h' => v = u ∧ Up c [] h₂ h') (.ofV .var fun h' u => ⟨rfl, u⟩) fun v g4 u4 ⟨e, w4⟩ => .cons (P' := fun v h' => v = .ref pa ∧ Up c [] h₂ h') (.ofV .var fun h' u => ⟨rfl, w4.trans u⟩) fun v2 g5 u5 ⟨e2, w5⟩ => .one (.map
          (.range (P' := fun vs h' => (∃ k, vs = [.int ((q.kids.length : Nat) : Int) k]) ∧ Up c [] h₂ h') B_range (.one (.callB (P' := fun vs h' => ∃ D vs', vs = [.ref D] ∧ IsTup h' D (List.toArray vs') ∧ vs'.length = q.kids.length ∧ Up c [] h₂ h') B_len (.one (.callF G_parts_of (.cons .var .nil) fun vs g' nw u z => by rw [z.v1]; exact (parts_of_f (hpq.sub (u3.sub.trans (w5.sub.trans u.sub)))).imp fun v h' k ⟨d, vs, e, i, r⟩ => ⟨d, vs, by rw [e], i, r.length, w5.trans (u.trans (k.mono fun _ q => nomatch q))⟩)) fun vs g' u ⟨D, vs', e, i, hlk, w6⟩ => by
            subst e; exact .lenT i (by have := q.kids_len; omega) fun v h' u ⟨k, z⟩ => ⟨⟨k, by rw [z, hlk]⟩, w6.trans u⟩)) fun vs g' _ ⟨⟨k, e⟩, _⟩ => ⟨(fun _ q => nomatch q), q.kids.length, k, e, by have := q.kids_len; omega⟩)
          fun m Pv g6 u6 ⟨g₀, k, st0, ⟨⟨k2, e6⟩, w6⟩, hm8, hPv⟩ => ?_)) (fun us g' nw u6 ⟨S, ss, e6, w6, hS, hss⟩ => ?_) (hv := hsf)) (fun u' g' u5 ⟨hsd, w5⟩ => ⟨d, pa, xs, ls, π, .var (hv := hkn), .var, (u3.sub.trans w5.sub).tup hpl, hil, (kn4.up w5 nd.f), nd.ok, by omega, fun g₂ u7 kn7 => .nil ⟨u3.up0.trans (w5.up0.trans u7), hsf, hkn, _, kn7, Nat.le_trans stored_len (Nat.succ_le_succ hx), ?_, ?_⟩⟩) (by decide)
      · obtain rfl : m = q.kids.length := by
          injection e6 with e6 _
          injection e6 with e6 _
          exact Int.ofNat.inj e6
        have w6' : Up c [] h₂ g6 := w6.trans (Kp.of st0)
        refine ⟨by omega, fun i y h => ∃ x, (q.kids.map P.sides)[i]? = some x ∧ SidesAt h y x, fun i y h h' ⟨x, e, z⟩ ts => ⟨x, e, z.sub ts⟩, fun C cl kk j y h' hj hy st old2 => ?_, fun S zs' h' nw u4 hl4 z => ⟨S, zs', by rw [e, e2], w6'.trans u4, hl4, all2_of (z.1.trans (by rw [List.length_map])) z.2⟩⟩
        obtain ⟨kt, rfl⟩ := hPv j y h' hy
        obtain ⟨kd, hkd⟩ : ∃ kd, q.kids[j]? = some kd := ⟨_, List.getElem?_eq_getElem hj⟩
        have hin : (π ++ [((0 + j : Nat) : Int)], kd) ∈ itemsOf π 0 q.kids := List.mem_of_getElem? (i := j) (by rw [itemsOf_get, hkd]; rfl)
        rw [Nat.zero_add] at hin
        obtain ⟨pr, hat⟩ := Option.isSome_iff_exists.mp (hb _ (kids_done hxi hin))
        obtain ⟨q', hq', hsd⟩ := ha _ (atKey_mem hat)
        have : q' = kd := by
          have e := at_snoc p π j
          rw [hati] at e
          have e2 := e.symm.trans hq'
          simp only [Option.bind_some, hkd, Option.some.injEq] at e2
          exact e2.symm
        subst this
        have ts := TupSub.of st
        have kn6 := kn4.up w6' nd.f
        have kn7 : KnAt c.W h' d xs := kn6.at ts (st d)
        have hsd6 := hsd.sub (u3.sub.trans (w6'.sub.trans ts))
        have hpl6 := (u3.sub.trans (w6'.sub.trans ts)).tup hpl
        have ndi := old2 _ _ kn6.choose_spec.1 nd.f
        exact ⟨_, .nameL, .sub (P' := fun v g => v = .ref d ∧ Up _ [] h' g) (.ofV (.var (hv := outer_look (l := ((["path", "one"] : List Str).zip [Value.ref pa, u]).reverse ++ l₁) hkn rfl)) fun h u => ⟨rfl, u⟩) fun v g8 u8 ⟨e, _⟩ => .bin (P' := fun v g => v = .ref pa ∧ Up _ [] h' g) (.ofV .var fun h u => ⟨rfl, u8.trans u⟩) fun v2 g9 u9 ⟨e2, w9⟩ => .tup (.cons .var .nil) fun vs t h10 u10 nw z it => by
          subst e e2
          have w10 := w9.trans u10
          exact .addT (w10.sub.tup hpl6) (by have := it.tup; rw [z.v1] at this; exact this) (by simp only [List.length_cons, List.length_nil]; omega) fun rr h11 u11 i11 => .known (kn7.up (w10.trans u11) ndi) ndi i11 (IntsAre.append hil (IntsAre.cons _ _ IntsAre.nil)) hat (by decide) fun h12 u12 => ⟨q'.sides, by rw [List.getElem?_map, hkd]; rfl, hsd6.sub (w10.sub.trans (u11.sub.trans u12.sub))⟩⟩
      · subst e6
        have b6 := b4.up w6
        exact (sides_of_f (hW.keeps b6.st) (hpq.sub (u3.sub.trans w6.sub)) hfine.1 (hfine.2.1.sub (TupSub.of b6.st)) hS hss).imp fun v h' k z => ⟨z, w6.trans (k.mono fun _ q => nomatch q)⟩
      · intro x hx'
        have tsa := u3.sub.trans (w5.sub.trans u7.sub)
        rcases stored_mem hx' with hx' | ⟨e1, e2⟩
        · obtain ⟨q', e, sd⟩ := ha x hx'
          exact ⟨q', e, sd.sub tsa⟩
        · exact ⟨q, e1 ▸ hati, e2 ▸ hsd.sub u7.sub⟩
      · intro y hy
        rw [List.take_add_one, hxi] at hy
        refine stored_has ?_
        rcases List.mem_append.mp hy with hy | hy
        · exact .inr (hb y hy)
        · rw [Option.toList_some, List.mem_singleton] at hy
          exact .inl (by rw [hy])
    · rintro l' h' ⟨hsf, hkn, xs, kn, hx, ha, hb⟩ up
      rw [em] at hb
      have hin : ([], p) ∈ (p.pre []).reverse.take ys.length := by
        rw [List.take_of_length_le (by rw [List.length_reverse, P.pre_len, hlen]; exact Nat.le_refl _)]
        exact List.mem_reverse.mpr (pre_head p [])
      obtain ⟨pr, hat⟩ := Option.isSome_iff_exists.mp (hb _ hin)
      obtain ⟨q', hq', hsd⟩ := ha _ (atKey_mem hat)
      cases hq'
      exact .ret (X := []) (.sub (P' := fun v g => v = .ref d ∧ Up c [] h' g) (.ofV (.var (hv := hkn)) fun h u => ⟨rfl, u⟩) fun v g8 u8 ⟨e, w⟩ => .unit fun t h9 u9 _ it => by
        subst e
        have w9 := w.trans u9
        exact .known (kn.up w9 nd.f) nd.f it.tup IntsAre.nil hat (by decide) fun h12 u12 => hsd.sub (w9.sub.trans u12.sub))
end
section
open PySem PySem.W PyProof.Rows PySem.Calls
theorem kind_tr (p : P) : ([("told" : Str), "rule"].any (· == p.kind)) = p.isTR := by
  cases p <;> (simp only [P.kind, P.isTR]; decide +kernel)
theorem tr_len {α : Type} {f : α → Bool} : ∀ {xs : List α} {zs : List (Option Value)}, zs.length = xs.length → (∀ (i : Nat) z, zs[i]? = some z → ∃ x, xs[i]? = some x ∧ z.isSome = f x) → (zs.filterMap id).length = (xs.filter f).length
  | [], [], _, _ => rfl
  | x :: xs, z :: zs, e, h => by
    have ih := tr_len (f := f) (xs := xs) (zs := zs) (Nat.succ.inj e) fun i z e => h (i + 1) z e
    obtain ⟨x', e', hz⟩ := h 0 z rfl
    cases e'
    cases z with
    | none => rw [List.filterMap_cons, List.filter_cons, if_neg (by rw [← hz]; exact Bool.false_ne_true)]; exact ih
    | some v => rw [List.filterMap_cons, List.filter_cons, if_pos (by rw [← hz]; rfl)]; exact congrArg Nat.succ ih
  | [], _ :: _, e, _ => nomatch e
  | _ :: _, [], e, _ => nomatch e
section
variable {D : List (Str × NameKind)} {n : Nat} {c : Cx D n} {X X' : List Addr} {g g' h h' h0 : Heap} {l : List (Str × Value)} {P : Value → Heap → Prop} {N : Heap → List (Str × Value) → Prop}
theorem Tr.imp {e : Expr} {P P' : Bool → Heap → Prop} (x : Tr c X g l e P') (hi : ∀ β h', Up c X g h' → P' β h' → P β h') : Tr c X g l e P := .mk fun s Q E ok x1 p => x.run s Q E ok x1 fun v h' d' tk' k f z => p v h' d' tk' k f (hi v h' (x1.up k) z)
theorem Op.lenL {t : Addr} {us : List Value} (it : ListAt g t us) (hd : t ∉ c.all) (hz : us.length ≤ 16384) (hp : ∀ v h', Up c [] g h' → (At.i (us.length : Int)).is v → P v h') : Op c X g l (call (.builtin "len") [.ref t]) P :=
  fun s Q E ok x1 p => kun_lenL (let ⟨_, e⟩ := it; ⟨_, x1.get hd e, rfl, _, rfl⟩) (by rw [List.size_toArray]) (by omega) (p.at x1 (hp _ _ x1.up0 ⟨_, rfl⟩))
end
theorem count_f {W : Wd} {h : Heap} {J v : Value} {p : P} (hp : PaperAt h v p) (hk : p.ok) (hz : p.size ≤ 1000) : Fn W 10 [] h (.ref 210) [J, v] fun x _ => (At.i (p.count : Int)).is x := by
  refine' .enter [("paper", v), ("self", J)] ?ho ?hcd ?hbind ?hkind ?hnd ?_
  walk_at "K side"
  rintro c rfl _ old
  have hcl := count_le p
  refine .ret (.callB (P' := fun vs h' => ∃ d us, vs = [.ref d] ∧ d ∉ c.all ∧ ListAt h' d us ∧ us.length = p.count) B_len (.one (.filter (.list (P' := fun v h' => ∃ D ys, v = .ref D ∧ ListAt h' D ys ∧ All2 (ItemAt h') ys (p.pre []).reverse) (.callF G_in_order (.cons .var .nil) fun vs g' nw u z => by
    rw [z.v1]; exact (in_order_f (hp.sub u.sub) hk hz).imp fun v h' k ⟨D, ys, e, _, hl, ha⟩ => ⟨D, ys, e, hl, ha⟩) fun v g' _ ⟨D, ys, e, hl, _⟩ => ⟨(fun _ q => nomatch q), D, ys, e, (fun q => nomatch q), hl.is⟩) fun m Pv g3 u3 ⟨D, ys, ⟨D2, ys2, e2, hl, hys⟩, iD, em, ep⟩ => ?_)) fun vs g' u ⟨d, us, e, nd, hl, hc⟩ => ?_)
  · cases e2
    obtain rfl := list_inj iD hl
    subst em ep
    have hlen : ys.length = p.size := by rw [hys.length, List.length_reverse, P.pre_len]
    refine ⟨by omega, fun i y _ => ∃ x, (p.pre []).reverse[i]? = some x ∧ y.isSome = x.2.isTR, fun i y h h' x _ => x, fun C cl kk j y h' hj hy st old2 => ?_, fun d zs' h' nw u4 hl4 ⟨zs, z1, z2, z3⟩ => ⟨d, zs', rfl, nw.f, hl4, ?_⟩⟩
    · obtain ⟨⟨π, q⟩, hx, T, pv, u, rfl, iT, _, hpq⟩ := hys.get hy
      have ts := TupSub.of st
      obtain ⟨a, tk, vs, rfl, it⟩ := (hpq.sub ts).view
      refine ⟨_, .tupL (ns := ["path", "one"]) (ts.tup iT), .imp (.inL (a := q.kind) (ys := ["told", "rule"]) (.item .var it ⟨_, rfl, ⟨_, rfl⟩⟩) fun g => .str (.str .nil)) fun β h' _ z => ?_⟩
      have z : β = q.isTR := z.trans (kind_tr q)
      exact ⟨fun e => .ofV .var fun _ _ => ⟨_, hx, (z.symm.trans e).symm⟩, fun e => ⟨_, hx, (z.symm.trans e).symm⟩⟩
    · rw [z2, tr_len (f := fun x => x.2.isTR) (z1.trans hys.length) z3, List.filter_reverse, List.length_reverse, count_pre]
  · subst e
    exact .lenL hl nd (by omega) fun v h' _ z => hc ▸ z
end
section
open PySem PySem.W PyProof.Rows PySem.Calls
section
variable {D : List (Str × NameKind)} {n : Nat} {c : Cx D n} {X X' : List Addr} {g g' h h' : Heap} {l : List (Str × Value)} {P : Value → Heap → Prop} {N : Heap → List (Str × Value) → Prop}
theorem EvL.pure {e : Expr} {es : List Expr} {a : At} {P : List Value → Heap → Prop} (x : Ev0 c g l e a) (y : ∀ v, a.is v → EvL c X g l es fun vs => P (v :: vs)) (he : noStar (e :: es) = true := by rfl) : EvL c X g l (e :: es) P :=
  .mk fun pos s Q E ok x1 p => args_cons (x s _ E x1 fun v tk z => (y v z).run pos { s with toks := tk } _ E ok x1 fun vs h₂ d₂ tk₂ k₂ f₂ z₂ => p (v :: vs) h₂ d₂ tk₂ k₂ f₂ z₂) (starEach_cons he).1
theorem EvL.var {x : Str} {pos : Pos} {v : Value} {es : List Expr} {P : List Value → Heap → Prop} (y : EvL c X g l es fun vs => P (v :: vs)) (hv : l.lookup x = some v := by rfl) (hk : okN D x = true := by rfl) (he : noStar (.Name x pos :: es) = true := by rfl) : EvL c X g l (.Name x pos :: es) P :=
  .pure (.var hv hk) (fun u z => by obtain rfl : u = v := z; exact y) he
/-- a display of terms -/
noncomputable abbrev evT (c : Cx D n) (l : List (Str × Value)) (e : Expr) (t : T) : Prop := ∀ g, Ev c [] g l e fun v h' => TermAt h' v t
noncomputable abbrev evTs (c : Cx D n) (l : List (Str × Value)) (es : List Expr) (ts : List T) : Prop := ∀ g, EvL c [] g l es fun vs h' => TermsAt h' vs ts
theorem evTs.nil : evTs c l [] [] := fun _ => .nil fun _ _ => .nil
theorem EvL.imp {es : List Expr} {P P' : List Value → Heap → Prop} (x : EvL c X g l es P') (hi : ∀ vs h', Up c X g h' → P' vs h' → P vs h') : EvL c X g l es P := .mk fun pos s Q E ok x1 p => x.run pos s Q E ok x1 fun v h' d' tk' k f z => p v h' d' tk' k f (hi v h' (x1.up k) z)
theorem evTs.cons {e : Expr} {es : List Expr} {t : T} {ts : List T} (x : evT c l e t) (y : evTs c l es ts) (he : noStar (e :: es) = true := by rfl) : evTs c l (e :: es) (t :: ts) := fun g =>
  .cons (x g) (fun v g' _ z => (y g').imp fun vs h' u z2 => .cons (z.sub u.sub) z2) he
theorem evT.mk {es : List Expr} {k k2 : Nat} {p1 p2 : Pos} {y : Str} {ks : List T} (t : T) (x : evTs c l es ks) (hy : y = t.op := by rfl) (hk : ks = t.kids := by rfl) (he : noStar es = true := by rfl) : evT c l (.Tuple (.Constant (.str y) k p1 :: es) k2 p2) t := fun g => by
  subst hy hk
  refine .tupL (P' := fun vs h' => ∃ tk us, vs = .str t.op tk :: us ∧ TermsAt h' us t.kids) (.pure .str (fun v z => (x g).imp fun vs h' u z2 => ?_) he) (fun vs t g' h' u z u2 _ i => ?_) fun vs g' z => ?_
  · obtain ⟨tk, rfl⟩ := z
    exact ⟨tk, vs, rfl, z2⟩
  · obtain ⟨tk, us, rfl, z⟩ := z
    exact .mk i.tup (z.sub u2.sub)
  · obtain ⟨tk, us, rfl, z⟩ := z
    have := z.length
    have := t.kids_le
    simp only [List.length_cons]; omega
theorem Op.itemL {e f : Expr} {t : Addr} {us : List Value} {r : Nat} {u v : Value} (hl : ListAt g t us) (hd : t ∉ c.all) (y : (At.i (r : Int)).is v) (hf : us[r]? = some u) (hr : r < 100000) (hp : ∀ h', Up c [] g h' → P u h')
    (hs : ∀ tk, subscripted f false (.ref t) (.int (r : Int) tk) = operate [.ref t, .int (r : Int) tk] (getItem (.ref t) (.int (r : Int) tk)) := by intro _; with_unfolding_all rfl) : Op c X g l (subscriptTail e f (.ref t) v) P := fun s Q E ok x1 p => by
  obtain ⟨t', rfl⟩ := y
  exact itemL_k (let ⟨_, e⟩ := hl; ⟨_, x1.get hd e, rfl, _, rfl⟩) hf hr (p.at x1 (hp _ x1.up0)) (hs t')
theorem New.at0 {t : Addr} (nw : New c g' t) (u : Up c [] g g') : g.get? t = none := (nw.up u fun q => nomatch q).g
end
theorem G_terms : IsG "_law_terms" (.ref 250) := ⟨fun w => by k_is, fun w => by k_is⟩
theorem G_draw : IsG "_law_draw" (.ref 257) := ⟨fun w => by k_is, fun w => by k_is⟩
theorem G_told : IsG "_law_told" (.ref 264) := ⟨fun w => by k_is, fun w => by k_is⟩
section
theorem terms_f {W : Wd} {h : Heap} : Fn W 2 [] h (.ref 250) [] fun v h' => ∃ D ys, v = .ref D ∧ h.get? D = none ∧ ListAt h' D ys ∧ TermsAt h' ys baseTs := by
  refine' .enter [] ?ho ?hcd ?hbind ?hkind ?hnd ?_
  walk_at "K side"
  intro c _ _ _
  have a : ∀ {k k2 p1 p2}, evT c [] (.Tuple [.Constant (.str "a") k p1] k2 p2) .a := .mk .a .nil
  have b : ∀ {k k2 p1 p2}, evT c [] (.Tuple [.Constant (.str "b") k p1] k2 p2) .b := .mk .b .nil
  have fa : ∀ {k k2 k3 k4 p1 p2 p3 p4}, evT c [] (.Tuple [.Constant (.str "f") k p1, .Tuple [.Constant (.str "a") k3 p3] k4 p4] k2 p2) (.f .a) := evT.mk (.f .a) (evTs.cons a evTs.nil)
  have fb : ∀ {k k2 k3 k4 p1 p2 p3 p4}, evT c [] (.Tuple [.Constant (.str "f") k p1, .Tuple [.Constant (.str "b") k3 p3] k4 p4] k2 p2) (.f .b) := evT.mk (.f .b) (evTs.cons b evTs.nil)
  have gab : ∀ {k k2 k3 k4 k5 k6 p1 p2 p3 p4 p5 p6}, evT c [] (.Tuple [.Constant (.str "g") k p1, .Tuple [.Constant (.str "a") k3 p3] k4 p4, .Tuple [.Constant (.str "b") k5 p5] k6 p6] k2 p2) (.g .a .b) := evT.mk (.g .a .b) (evTs.cons a (evTs.cons b evTs.nil))
  have ffb : ∀ {k k2 k3 k4 k5 k6 p1 p2 p3 p4 p5 p6}, evT c [] (.Tuple [.Constant (.str "f") k p1, .Tuple [.Constant (.str "f") k3 p3, .Tuple [.Constant (.str "b") k5 p5] k6 p6] k4 p4] k2 p2) (.f (.f .b)) := evT.mk (.f (.f .b)) (evTs.cons fb evTs.nil)
  refine .ret (.listL (P' := fun vs h' => TermsAt h' vs baseTs) ((show evTs c [] _ baseTs from evTs.cons a (evTs.cons b (evTs.cons fa (evTs.cons gab (evTs.cons ffb evTs.nil))))) h) (fun vs t g' h' u z u2 nw e => ⟨t, vs, rfl, nw.at0 u, ⟨0, e⟩, z.sub u2.sub⟩) fun vs g' z => ?_)
  rw [z.length]; decide
end
/-- a term drawn -/
theorem Ev.pick {D : List (Str × NameKind)} {n : Nat} {c : Cx D n} {g : Heap} {l : List (Str × Value)} {fd td cl : Addr} {sp : Nat} {kvs : List (Str × Value)} {p1 p2 p3 p4 p5 p6 p7 : Pos} {k : Nat} (d : Dr c.W g fd td cl sp kvs) (ok : okX c (DX fd td cl)) (hsp : sp ≤ 900) (hr : 2 ≤ n := by first | exact Nat.le_of_ble_eq_true rfl | omega) (hv : l.lookup ("feed" : Str) = some (Value.ref fd) := by rfl) (hk : okN D "feed" = true := by rfl) (hk1 : okG D "_law_terms" = true := by rfl) (hk2 : okG D "_law_draw" = true := by rfl)
    (hs : ∀ t r tk, subscripted (.Call (.Name "_law_draw" p3) [.Name "feed" p4, .Constant (.int 5) k p5] [] p6) false (.ref t) (.int (r : Int) tk) = operate [.ref t, .int (r : Int) tk] (getItem (.ref t) (.int (r : Int) tk)) := by intro _ _ _; with_unfolding_all rfl) :
    Ev c (DX fd td cl) g l (.Subscript (.Call (.Name "_law_terms" p1) [] [] p2) (.Call (.Name "_law_draw" p3) [.Name "feed" p4, .Constant (.int 5) k p5] [] p6) p7) fun v h' => (∃ r, r ∈ baseTs ∧ TermAt h' v r) ∧ Dr c.W h' fd td cl (sp + 1) kvs := by
  refine .sub (P' := fun v g' => Up c [] g g' ∧ ∃ D ys, v = .ref D ∧ New c g D ∧ ListAt g' D ys ∧ TermsAt g' ys baseTs) (.mono0 (.imp (.call0 G_terms (fun g' nw u => Fn.imp terms_f (P := fun v h' => ∃ D ys, v = .ref D ∧ New c g D ∧ ListAt h' D ys ∧ TermsAt h' ys baseTs) fun v h' k z => let ⟨D, ys, e, hn, r⟩ := z; ⟨D, ys, e, (nw D hn).up u (fun q => nomatch q), r⟩) hr hk1) fun v h' u z => ⟨u, z⟩)) fun u g1 _ ⟨w1, D1, ys, e, nD, hl, hy⟩ => ?_
  subst e
  have d1 := d.up ok w1
  refine .imp (.callF (P := fun v h' => (∃ r : Nat, (At.i (r : Int)).is v ∧ r < 5 ∧ Dr c.W h' fd td cl (sp + 1) kvs)) G_draw (.var (.int .nil) hv hk) (fun vs g2 nw u z => ?_) hr hk2) fun v h' u ⟨r, z, hr, d2⟩ => ?_
  · obtain ⟨t, us, e, z⟩ : ∃ t us, vs = [.ref fd, .int 5 t] ∧ us = () := by
      cases z with | cons a b => cases b with | cons b e => cases e; obtain rfl : _ = Value.ref fd := a; obtain ⟨t, rfl⟩ := b; exact ⟨t, (), rfl, rfl⟩
    subst e
    exact draw_f (V := 5) (d1.up ok u) hsp (by decide)
  · have hne : D1 ∉ c.all ++ DX fd td cl := fun q => (List.mem_append.mp q).elim nD.f fun q => by
      obtain ⟨_, e1, _⟩ := d.f
      obtain ⟨_, e2, _⟩ := d.t
      obtain ⟨_, _, ⟨_, e3, _⟩, _⟩ := d.l
      rcases List.mem_cons.mp q with rfl | q
      · exact nD.ne e1 rfl
      · rcases List.mem_cons.mp q with rfl | q
        · exact nD.ne e2 rfl
        · rw [List.mem_singleton.mp q] at nD; exact nD.ne e3 rfl
    have hl2 := hl.keep u hne
    have hlen : ys.length = 5 := hy.length
    obtain ⟨x, hx⟩ : ∃ x, ys[r]? = some x := ⟨_, List.getElem?_eq_getElem (by omega)⟩
    obtain ⟨t, ht, hxt⟩ := hy.get hx
    exact .itemL hl2 nD.f z hx (by omega) (fun h3 u3 => ⟨⟨t, List.mem_of_getElem? ht, hxt.sub (u.sub.trans u3.sub)⟩, d2.up ok u3⟩) (hs D1 r)
theorem lab_len : ∀ n : Nat, n < 11 → ("m" : Str).length + (Str.ofString (toString (n : Int))).length ≤ 16777216 := by decide +kernel
theorem told_f {W : Wd} {h : Heap} {fd td cl : Addr} {sp : Nat} {kvs : List (Str × Value)} {v : Value} {t : T} (d : Dr W h fd td cl sp kvs) (hsp : sp ≤ 900) (hz : kvs.length ≤ 10) (hv : TermAt h v t) :
    Fn W 4 (DX fd td cl) h (.ref 264) [.ref fd, .ref td, v] fun x h' => ∃ u r, Dr W h' fd td cl (sp + 1) (kvs ++ [(labelOf kvs.length, u)]) ∧ Made h' x (.told (labelOf kvs.length) t r) ∧ ToldOk h' (valueAt (kvs ++ [(labelOf kvs.length, u)])) (.told (labelOf kvs.length) t r) ∧ r ∈ baseTs := by
  refine' .enter [("begin", v), ("told", .ref td), ("feed", .ref fd)] ?ho ?hcd ?hbind ?hkind ?hnd ?_
  walk_at "K side"
  rintro c rfl hX old
  have ok := d.ok hX old
  obtain ⟨oT, hT, hD⟩ := d.t
  have htn := (ok td (.tail _ (.head _))).2
  refine .assign0 (.cat .str (.strI B_str (.lenD B_len .var hT hD htn d.sys (by omega)) ?_) (lab_len _ (by omega))) fun x z => ?_
  · have : ((kvs.length : Int).natAbs) ≤ 10 := by omega
    have := Nat.log2_lt (n := (kvs.length : Int).natAbs) (k := 1920)
    by_cases h0 : (kvs.length : Int).natAbs = 0
    · rw [h0]; decide
    · rw [Nat.log2_lt h0]; exact Nat.lt_of_le_of_lt ‹_ ≤ 10› (by decide)
  obtain ⟨kx, rfl⟩ := z
  refine .setD (X := DX fd td cl) (P' := fun u h' => Dr c.W h' fd td cl (sp + 1) kvs ∧ ∃ a w r, u = .ref a ∧ IsTup h' a [v, w].toArray ∧ r ∈ baseTs ∧ TermAt h' w r) (.tupL (P' := fun us h' => Dr c.W h' fd td cl (sp + 1) kvs ∧ ∃ w r, us = [v, w] ∧ r ∈ baseTs ∧ TermAt h' w r) (.var (.one (.imp (.pick d ok hsp) fun w h' _ ⟨⟨r, hr, ht⟩, d2⟩ => ⟨d2, w, r, rfl, hr, ht⟩))) (fun us a g' h' u z u2 nw i => ?_) ?_) (fun u g1 u1 ⟨d1, a, w, r, e, i, hr, hw⟩ => ?_) ok
  · obtain ⟨d2, w, r, rfl, hr, ht⟩ := z
    exact ⟨d2.up ok u2, a, w, r, rfl, i.tup, hr, ht.sub u2.sub⟩
  · rintro us g' ⟨_, w, r, rfl, _⟩; exact Nat.le_of_ble_eq_true rfl
  · subst e
    obtain ⟨oT1, hT1, hD1⟩ := d1.t
    refine ⟨td, oT1, kvs, labelOf kvs.length, .var, .varS, hT1, fun b q => ok b (by rw [List.mem_singleton.mp q]; exact .tail _ (.head _)), hD1, by omega, fun g2 o' u2 hT2 hD2 => ?_⟩
    have hD2' := hD2
    rw [stored_new d.k hz] at hD2'
    have d2 : Dr c.W g2 fd td cl (sp + 1) (kvs ++ [(labelOf kvs.length, .ref a)]) := by
      obtain ⟨oF, hF, hFb⟩ := d1.f
      obtain ⟨cs, ns, ⟨o3, e3, r3⟩, q⟩ := d1.l
      have nn : ∀ b, b ∈ DX fd td cl → b ≠ td → b ∉ c.all ++ [td] := fun b m ne q => (List.mem_append.mp q).elim (ok b m).2 fun q => ne (List.mem_singleton.mp q)
      exact ⟨⟨oF, u2.get (nn fd (.head _) d.ft) hF, hFb⟩, ⟨o', hT2, hD2'⟩, d.k.snoc, ⟨cs, ns, ⟨o3, u2.get (nn cl (.tail _ (.tail _ (.head _))) d.ct) e3, r3⟩, q⟩, d.ft, d.cf, d.ct, d.sys⟩
    have i2 := u2.sub.tup i
    have hw2 := hw.sub u2.sub
    have hv2 := hv.sub (u1.sub.trans u2.sub)
    refine .ret (.tupL (P' := fun us h' => ∃ pa k1, us = [.ref pa, v, w, .int 1 k1] ∧ Up c [] g2 h' ∧ PaperAt h' (.ref pa) (.told (labelOf kvs.length) t r)) (.cons (P' := fun x h' => ∃ pa, x = .ref pa ∧ Up c [] g2 h' ∧ PaperAt h' (.ref pa) (.told (labelOf kvs.length) t r)) (.tup (.str (.var .nil)) fun us pa h' u nw z i => ?_) fun x g3 u3 ⟨pa, e, w3, hp⟩ => .of (.var (.cons (.item (i := 1) (a := .v w) (.itemD .var .varS (w3.get (nil_ok htn) hT2) htn (mapOb_dic hD2) (valueAt_put ..)) (w3.sub.tup i2) ⟨_, rfl, rfl⟩) (.int .nil))) fun us h' u z => ?_) (fun us b g' h' u z u3 nw i => ?_) ?_) (X := [])
    · obtain ⟨tk, e⟩ := z.s1
      subst e
      exact ⟨pa, rfl, u, .told i.tup⟩
    · cases z with
      | cons z1 z2 => cases z2 with
        | cons z2 z3 => cases z3 with
          | cons z3 z4 =>
            cases z4
            obtain rfl : _ = v := z1
            obtain rfl : _ = w := z2
            obtain ⟨k1, rfl⟩ := z3
            exact ⟨pa, k1, by rw [e], w3.trans u, hp.sub u.sub⟩
    · obtain ⟨pa, k1, rfl, w3, hp⟩ := z
      have s3 := w3.sub.trans u3.sub
      exact ⟨_, r, d2.up ok (w3.trans u3), ⟨b, _, _, _, k1, rfl, i.tup, hp.sub u3.sub, hv2.sub s3, hw2.sub s3⟩, .last d.k hz ⟨a, _, _, rfl, s3.tup i2, hv2.sub s3, hw2.sub s3⟩, hr⟩
    · rintro us g' ⟨pa, k1, rfl, _⟩; exact Nat.le_of_ble_eq_true rfl
end
section
open PySem PySem.W PyProof.Rows PySem.Calls
section
variable {D : List (Str × NameKind)} {n : Nat} {c : Cx D n} {X X' : List Addr} {g g' h h' : Heap} {l : List (Str × Value)} {P : Value → Heap → Prop} {N : Heap → List (Str × Value) → Prop}
theorem Op.sum {t : Addr} {vs : List Value} {ns : List Int} (hl : ListAt g t vs) (hd : t ∉ c.all) (hi : IntsAre vs ns) (hp : ∀ v h', Up c [] g h' → (At.i ns.sum).is v → P v h') : Op c X g l (call (.builtin "sum") [.ref t]) P := fun s Q E ok x1 p => by
  obtain ⟨k, e⟩ := hl
  obtain ⟨m, rest, F, Nw, back⟩ := x1.fn0
  refine LSm.sum_ints F Nw c.room.h ⟨_, x1.get hd e, rfl, _, rfl⟩ hi fun h' tk' t' F' N' => ?_
  obtain ⟨k2, f2⟩ := back h' F' N'
  exact p _ h' s.drawn tk' (k2.mono fun a q => by rw [List.mem_singleton.mp q]; exact .head _) f2 (hp _ h' (x1.up (X := []) k2) ⟨_, rfl⟩)
/-- [one[j] for one in y] -/
theorem Ev.mapIx {α : Type} {y : Str} {ns : List (Str × NameKind)} {more : List (Str × Const)} {j k3 : Nat} {p6 p7 p8 p9 p10 p11 : Pos} {S : Addr} {ds : List Value} {xs : List α} {R : Heap → Value → α → Prop} (sub : ∀ h h' v x, TupSub h h' → R h v x → R h' v x)
    (hl : ListAt g S ds) (hS : S ∉ c.all) (hz : ds.length ≤ 2) (hd : All2 (fun v x => ∃ a us w, v = .ref a ∧ IsTup g a (List.toArray us) ∧ us[j]? = some w ∧ R g w x) ds xs) (hp : ∀ d us h', Up c [] g h' → d ∉ c.all → ListAt h' d us → All2 (R h') us xs → P (.ref d) h') (hj : j ≤ 3 := by exact Nat.le_of_ble_eq_true rfl)
    (hv : l.lookup y = some (.ref S) := by rfl) (hk : okN D y = true := by rfl) (hn : okNs D ns = true := by rfl) (ho : (relN D ns).lookup ("one" : Str) = some .local := by rfl)
    (hs : ∀ x, foldedSetIterable (.Name y p10) c.env x = pure x := by intro _; rfl) :
    Ev c X g l (.ListComp (.Subscript (.Name "one" p6) (.Constant (.int (j : Int)) k3 p7) p8) [⟨.Name "one" p9, .Name y p10, [], 0⟩] ⟨.function, ns, false, false, more⟩ p11) P :=
  .map (.nameL hl hS hv hk) (fun m Pv g3 u3 ⟨em, ep⟩ => ⟨by omega, fun i y h => ∃ r, xs[i]? = some r ∧ R h y r, fun i y h h' ⟨r, e, x⟩ ts => ⟨r, e, sub _ _ _ _ ts x⟩, fun C cl kk i y h' hi hy st old2 => by
    obtain ⟨x, hx, a, us, w, rfl, ia, hw, hr⟩ := hd.get (ep i y h' hy)
    have ts := u3.sub.trans (TupSub.of st)
    exact ⟨_, .nameL ho, .ofV (.itemV (i := j) (ts.tup ia) hw (by rfl) (by unfold okN; rw [ho]; rfl) hj) fun h'' u => ⟨x, hx, sub _ _ _ _ (ts.trans u.sub) hr⟩⟩, fun e zs' h' nw u4 hl4 z => hp e zs' h' (u3.trans u4) nw.f hl4 (all2_of (z.1.trans (em.trans hd.length)) z.2)⟩) hs hn
/-- a made paper's display -/
theorem Ev.made {e1 e2 e3 e4 : Expr} {k : Nat} {pos : Pos} {p : Mine.P} (a : Ev c [] g l e1 fun v h' => PaperAt h' v p) (b : ∀ g', Up c [] g g' → Ev c [] g' l e2 fun v h' => TermAt h' v p.sides.1) (d : ∀ g', Up c [] g g' → Ev c [] g' l e3 fun v h' => TermAt h' v p.sides.2) (e : ∀ g', Up c [] g g' → Ev0 c g' l e4 (.i (p.count : Int)))
    (hp : ∀ v h', Up c [] g h' → Made h' v p → P v h') (h1 : noStar [e1, e2, e3, e4] = true := by rfl) : Ev c [] g l (.Tuple [e1, e2, e3, e4] k pos) P := by
  have h2 := (starEach_cons (env := c.env) h1).2
  have h3 := (starEach_cons (env := c.env) h2).2
  have h4 := (starEach_cons (env := c.env) h3).2
  refine .tupL (P' := fun us h' => ∃ pv lv rv k1, us = [pv, lv, rv, .int (p.count : Int) k1] ∧ PaperAt h' pv p ∧ TermAt h' lv p.sides.1 ∧ TermAt h' rv p.sides.2) (.cons a (fun pv g1 u1 z1 => .cons (b g1 u1) (fun lv g2 u2 z2 => .cons (d g2 (u1.trans u2)) (fun rv g3 u3 z3 => .one (.of (e g3 (u1.trans (u2.trans u3))) fun v h' u ⟨k1, z⟩ => ⟨pv, lv, rv, k1, by rw [z], z1.sub (u2.sub.trans (u3.sub.trans u.sub)), z2.sub (u3.sub.trans u.sub), z3.sub u.sub⟩) h4) h3) h2) h1) (fun us t g' h' u z u2 _ i => ?_) fun us g' z => ?_
  · obtain ⟨pv, lv, rv, k1, rfl, z1, z2, z3⟩ := z
    exact hp _ h' (u.trans u2) ⟨t, pv, lv, rv, k1, rfl, i.tup, z1.sub u2.sub, z2.sub u2.sub, z3.sub u2.sub⟩
  · obtain ⟨pv, lv, rv, k1, rfl, _⟩ := z
    exact Nat.le_of_ble_eq_true rfl
theorem Ev.draw {V k : Nat} {p3 p4 p5 p6 : Pos} {fd td cl : Addr} {sp : Nat} {kvs : List (Str × Value)} (d : Dr c.W g fd td cl sp kvs) (ok : okX c (DX fd td cl)) (hsp : sp ≤ 900) (G : IsG "_law_draw" (.ref 257)) (hV : 0 < V) (hr : 2 ≤ n := by first | exact Nat.le_of_ble_eq_true rfl | omega) (hv : l.lookup ("feed" : Str) = some (Value.ref fd) := by rfl) (hk : okN D "feed" = true := by rfl) (hk2 : okG D "_law_draw" = true := by rfl) :
    Ev c (DX fd td cl) g l (.Call (.Name "_law_draw" p3) [.Name "feed" p4, .Constant (.int (V : Int)) k p5] [] p6) fun v h' => (∃ r : Nat, (At.i (r : Int)).is v ∧ r < V) ∧ Dr c.W h' fd td cl (sp + 1) kvs :=
  .callF G (.var (.int .nil) hv hk) (fun vs g2 nw u z => by
    obtain ⟨t, e⟩ : ∃ t, vs = [.ref fd, .int V t] := by
      cases z with | cons a b => cases b with | cons b e => cases e; obtain rfl : _ = Value.ref fd := a; obtain ⟨t, rfl⟩ := b; exact ⟨t, rfl⟩
    subst e
    exact (draw_f (V := V) (d.up ok u) hsp hV).imp fun v h' _ ⟨r, a, b, e⟩ => ⟨⟨r, a, b⟩, e⟩) hr hk2
theorem Ev.f1 {k k2 : Nat} {p1 p2 p3 : Pos} {y : Str} {v : Value} {t : T} (h1 : TermAt g v t) (hv : l.lookup y = some v := by rfl) (hk : okN D y = true := by rfl) : Ev c X g l (.Tuple [.Constant (.str "f") k p1, .Name y p2] k2 p3) fun v h' => TermAt h' v (.f t) := .tup (.str (.var .nil hv hk)) fun vs t h' u nw z i => by obtain ⟨tk, rfl⟩ := z.s1; exact .f i.tup (h1.sub u.sub)
theorem Ev.g2 {k k2 : Nat} {p1 p2 p3 p4 : Pos} {y z : Str} {v w : Value} {t t' : T} (h1 : TermAt g v t) (h2 : TermAt g w t') (hv : l.lookup y = some v := by rfl) (hw : l.lookup z = some w := by rfl) (hk : okN D y = true := by rfl) (hk' : okN D z = true := by rfl) : Ev c X g l (.Tuple [.Constant (.str "g") k p1, .Name y p2, .Name z p4] k2 p3) fun v h' => TermAt h' v (.g t t') := .tup (.str (.var (.var .nil hw hk') hv hk)) fun vs t h' u nw z i => by obtain ⟨tk, rfl⟩ := z.s2; exact .g i.tup (h1.sub u.sub) (h2.sub u.sub)
theorem Ev.pair {x y : Str} {k k2 : Nat} {p1 p2 p3 : Pos} {v : Value} (hp : ∀ p tk h', Up c [] g h' → IsTup h' p [.str x tk, v].toArray → P (.ref p) h') (hv : l.lookup y = some v := by rfl) (hk : okN D y = true := by rfl) : Ev c X g l (.Tuple [.Constant (.str x) k p1, .Name y p2] k2 p3) P := .tup (.str (.var .nil hv hk)) fun vs t h' u nw z i => by obtain ⟨tk, rfl⟩ := z.s1; exact hp t tk h' u i.tup
end
theorem G_ruled : IsG "_law_ruled" (.ref 271) := ⟨fun w => by k_is, fun w => by k_is⟩
theorem G_under : IsG "_law_under" (.ref 276) := ⟨fun w => by k_is, fun w => by k_is⟩
theorem G_made : IsG "_law_made" (.ref 281) := ⟨fun w => by k_is, fun w => by k_is⟩
theorem B_sum : IsB "sum" (.builtin "sum") := ⟨fun w => by k_is, by boot_by_name, by decide⟩
section
theorem ruled_f {W : Wd} {h : Heap} {fd td cl : Addr} {sp : Nat} {kvs : List (Str × Value)} (d : Dr W h fd td cl sp kvs) (hsp : sp ≤ 890) :
    Fn W 4 (DX fd td cl) h (.ref 271) [.ref fd] fun x h' => ∃ p, Dr W h' fd td cl (sp + 3) kvs ∧ Made h' x p ∧ p.tolds = [] ∧ ∀ n, Within p n := by
  refine' .enter [("feed", .ref fd)] ?ho ?hcd ?hbind ?hkind ?hnd ?_
  walk_at "K side"
  rintro c rfl hX old
  have ok := d.ok hX old
  have ts : ∀ {g g' : Heap}, Up c (DX fd td cl) g g' → TupSub g g' := fun u => u.sub
  refine .swapE (X := DX fd td cl) (ns := ["one", "other"]) (t := fun us g' => ∃ w1 w2 r1 r2, us = [w1, w2] ∧ r1 ∈ baseTs ∧ r2 ∈ baseTs ∧ TermAt g' w1 r1 ∧ TermAt g' w2 r2 ∧ Dr c.W g' fd td cl (sp + 2) kvs) (.tupL (P' := fun us g' => ∃ w1 w2 r1 r2, us = [w1, w2] ∧ r1 ∈ baseTs ∧ r2 ∈ baseTs ∧ TermAt g' w1 r1 ∧ TermAt g' w2 r2 ∧ Dr c.W g' fd td cl (sp + 2) kvs)
    (.cons (.pick d ok (by omega)) fun w1 g1 u1 ⟨⟨r1, h1, t1⟩, d1⟩ => .one (.imp (.pick d1 ok (by omega)) fun w2 h' u ⟨⟨r2, h2, t2⟩, d2⟩ => ⟨w1, w2, r1, r2, rfl, h1, h2, t1.sub u.sub, t2, d2⟩)) (fun us t g' h' u z u2 _ i => ?_) ?_) (fun us g1 u1 ⟨w1, w2, r1, r2, e, h1, h2, t1, t2, d1⟩ => ?_) ok
  · obtain ⟨w1, w2, r1, r2, rfl, h1, h2, t1, t2, d2⟩ := z
    exact ⟨t, _, rfl, i.tup, ⟨w1, w2, r1, r2, rfl, h1, h2, t1.sub u2.sub, t2.sub u2.sub, d2.up ok u2⟩, rfl⟩
  · rintro us g' ⟨w1, w2, r1, r2, rfl, _⟩; exact Nat.le_of_ble_eq_true rfl
  subst e
  refine .iteR (X := DX fd td cl) (Pt := fun _ h' => Dr c.W h' fd td cl (sp + 3) kvs) (.cmp (.draw (V := 2) d1 ok (by omega) G_draw (by decide)) (fun u g2 u2 ⟨⟨r, z, _⟩, d2⟩ => .of .int fun v g3 u3 z2 => .cm (fun h x => Cm.eqI h u v x z z2) fun h' u4 => ⟨_, rfl, (d2.up ok u3).up ok u4⟩) rfl) (fun g2 u2 d2 => ?_) (fun g2 u2 d2 => ?_) ok
  · have t1 := t1.sub u2.sub
    refine .ret (.made (p := .twice r1) (.tupL (P' := fun us h' => ∃ k k' pl p1 k1, us = [.str "rule" k, .str "twice" k', .ref pl] ∧ Up c [] g2 h' ∧ ExTup h' pl [.ref p1] ∧ IsTup h' p1 [.str "?x" k1, w1].toArray) (.pure .str fun _ ⟨k, e1⟩ => .pure .str fun _ ⟨k', e2⟩ => .one (.tupL (P' := fun us h' => ∃ p1 k1, us = [.ref p1] ∧ IsTup h' p1 [.str "?x" k1, w1].toArray) (.one (.pair fun p tk h' u i => ⟨p, tk, rfl, i⟩)) (fun us pl g' h' u ⟨p1, k1, e3, i1⟩ u2 _ i => ⟨k, k', pl, p1, k1, by rw [e1, e2], u.trans u2, (by rw [e3] at i; exact i), u2.sub.tup i1⟩) fun us g' ⟨p1, k1, e, _⟩ => by rw [e]; exact Nat.le_of_ble_eq_true rfl)) (fun us a g' h' u ⟨k, k', pl, p1, k1, e, ug, ip, i1⟩ u2 _ i => by
        subst e; exact .twice i.tup (ip.sub u2.sub) (u2.sub.tup i1) (t1.sub (ug.sub.trans u2.sub))) fun us g' ⟨k, k', pl, p1, k1, e, _⟩ => by rw [e]; exact Nat.le_of_ble_eq_true rfl)
      (fun g' u => .f1 (t1.sub u.sub)) (fun g' u => .g2 (t1.sub u.sub) (t1.sub u.sub)) (fun g' u => .int) fun v h' u m => ⟨_, d2.up ok u, m, rfl, fun n => .twice n h1⟩)
  · have t1 := t1.sub u2.sub
    have t2 := t2.sub u2.sub
    refine .ret (.made (p := .swap r1 r2) (.tupL (P' := fun us h' => ∃ k k' pl p1 p2 k1 k2, us = [.str "rule" k, .str "swap" k', .ref pl] ∧ Up c [] g2 h' ∧ ExTup h' pl [.ref p1, .ref p2] ∧ IsTup h' p1 [.str "?x" k1, w1].toArray ∧ IsTup h' p2 [.str "?y" k2, w2].toArray) (.pure .str fun _ ⟨k, e1⟩ => .pure .str fun _ ⟨k', e2⟩ => .one (.tupL (P' := fun us h' => ∃ p1 p2 k1 k2, us = [.ref p1, .ref p2] ∧ IsTup h' p1 [.str "?x" k1, w1].toArray ∧ IsTup h' p2 [.str "?y" k2, w2].toArray) (.cons (P' := fun v h' => ∃ p k, v = .ref p ∧ IsTup h' p [.str "?x" k, w1].toArray) (.pair fun p tk h' u i => ⟨p, tk, rfl, i⟩) fun v g' u ⟨p1, k1, e, i1⟩ => .one (.pair fun p tk h' u i => ⟨p1, p, k1, tk, by rw [e], u.sub.tup i1, i⟩)) (fun us pl g' h' u ⟨p1, p2, k1, k2, e3, i1, i2⟩ u2 _ i => ⟨k, k', pl, p1, p2, k1, k2, by rw [e1, e2], u.trans u2, (by rw [e3] at i; exact i), u2.sub.tup i1, u2.sub.tup i2⟩) fun us g' ⟨p1, p2, k1, k2, e, _⟩ => by rw [e]; exact Nat.le_of_ble_eq_true rfl)) (fun us a g' h' u ⟨k, k', pl, p1, p2, k1, k2, e, ug, ip, i1, i2⟩ u2 _ i => by
        subst e; exact .swap i.tup (ip.sub u2.sub) (u2.sub.tup i1) (t1.sub (ug.sub.trans u2.sub)) (u2.sub.tup i2) (t2.sub (ug.sub.trans u2.sub))) fun us g' ⟨k, k', pl, p1, p2, k1, k2, e, _⟩ => by rw [e]; exact Nat.le_of_ble_eq_true rfl)
      (fun g' u => .g2 (t1.sub u.sub) (t2.sub u.sub)) (fun g' u => .g2 (t2.sub u.sub) (t1.sub u.sub)) (fun g' u => .int) fun v h' u m => ⟨_, d2.up ok u, m, rfl, fun n => .swap n h1 h2⟩)
end
end
section
open PySem PySem.W PyProof.Rows PySem.Calls
section
variable {D : List (Str × NameKind)} {n : Nat} {c : Cx D n} {X X' : List Addr} {g g' h h' : Heap} {l : List (Str × Value)} {P : Value → Heap → Prop} {N : Heap → List (Str × Value) → Prop}
/-- (op,) + tuple([one[j] for one in some]) -/
theorem Ev.opTup {α : Type} {ns : List (Str × NameKind)} {more : List (Str × Const)} {j k2 k3 : Nat} {p1 p4 p5 p6 p7 p8 p9 p10 p11 p12 p13 : Pos} {S : Addr} {op : Str} {tk : Tok} {ds : List Value} {xs : List α} {R : Heap → Value → α → Prop} (sub : ∀ h h' v x, TupSub h h' → R h v x → R h' v x)
    (hl : ListAt g S ds) (hS : S ∉ c.all) (hz : ds.length ≤ 2) (hd : All2 (fun v x => ∃ a us w, v = .ref a ∧ IsTup g a (List.toArray us) ∧ us[j]? = some w ∧ R g w x) ds xs) (hp : ∀ r us h', Up c [] g h' → IsTup h' r (.str op tk :: us).toArray → All2 (R h') us xs → P (.ref r) h') (hj : j ≤ 3 := by exact Nat.le_of_ble_eq_true rfl)
    (hv : l.lookup ("op" : Str) = some (.str op tk) := by rfl) (hv2 : l.lookup ("some" : Str) = some (.ref S) := by rfl) (hk : okN D "op" = true := by rfl) (hk2 : okN D "some" = true := by rfl) (hk3 : okG D "tuple" = true := by rfl) (hn : okNs D ns = true := by rfl) (ho : (relN D ns).lookup ("one" : Str) = some .local := by rfl)
    (hs : ∀ x, foldedSetIterable (.Name "some" p10) c.env x = pure x := by intro _; rfl) :
    Ev c [] g l (.BinOp (.Tuple [.Name "op" p1] k2 p4) .Add (.Call (.Name "tuple" p5) [.ListComp (.Subscript (.Name "one" p6) (.Constant (.int (j : Int)) k3 p7) p8) [⟨.Name "one" p9, .Name "some" p10, [], 0⟩] ⟨.function, ns, false, false, more⟩ p11] [] p12) p13) P :=
  .bin (P' := fun v h' => Up c [] g h' ∧ ∃ p, v = .ref p ∧ IsTup h' p [.str op tk].toArray) (.tup (.var .nil hv hk) fun vs p h' u nw z i => ⟨u, p, rfl, z.v1 ▸ i.tup⟩) fun v g2 _ ⟨u2, p, e, ip⟩ => by
    subst e
    refine .callTy (P' := fun vs h' => ∃ e us, vs = [.ref e] ∧ e ∉ c.all ∧ ListAt h' e us ∧ All2 (R h') us xs ∧ Up c [] g2 h') B_tuple (.one (.mapIx sub (hl.up u2 hS) hS hz (hd.imp fun _ _ ⟨a, us, w, e, i, hw, r⟩ => ⟨a, us, w, e, u2.sub.tup i, hw, sub _ _ _ _ u2.sub r⟩) (fun d us h' u nd hl r => ⟨d, us, rfl, nd, hl, r, u⟩) hj hv2 hk2 hn ho hs)) (fun vs g' u ⟨e, us, ev, he, hl, hus, ug⟩ => ?_) hk3
    subst ev
    exact .tuple hl he (by rw [hus.length, ← hd.length]; omega) fun q h' u5 nw i5 => .addT (u5.sub.tup (ug.sub.tup ip)) i5.tup (by rw [hus.length, ← hd.length, List.length_singleton]; omega) fun r h6 u6 i6 => hp r us h6 (u2.trans (ug.trans (u5.trans u6))) i6 (hus.imp fun _ _ x => sub _ _ _ _ (u5.sub.trans u6.sub) x)
theorem Op.addL {t b : Addr} {vs ws : List Value} (ht : ListAt g t vs) (hb : ListAt g b ws) (nt : t ∉ c.all) (nb : b ∉ c.all) (hz : vs.length + ws.length ≤ 16000) (hp : ∀ r h', Up c [] g h' → New c g r → ListAt h' r (vs ++ ws) → P (.ref r) h') : Op c X g l (binaryOp .Add (.ref t) (.ref b)) P := fun s Q E ok x1 p => by
  obtain ⟨_, e1⟩ := ht
  obtain ⟨_, e2⟩ := hb
  obtain ⟨m, news, F, Nw, all, back⟩ := x1.fnA
  refine add_lists F Nw ⟨_, x1.get nt e1, rfl, _, rfl⟩ ⟨_, x1.get nb e2, rfl, _, rfl⟩ (fun h' F' N' => ?_) (by rw [sizeLine_eq]; omega)
  obtain ⟨k2, f2⟩ := back h' F' fun q hq => N' q (.tail _ hq)
  have z := N' _ (.head _)
  exact p _ h' s.drawn s.toks (k2.mono fun a q => by rw [List.mem_singleton.mp q]; exact .head _) f2 (hp _ h' (x1.up (X := []) k2) (x1.new (size_none _)) ⟨_, z.1⟩)
end
theorem counts_are {us : List Value} {ps : List P} (a : All2 (fun v (x : P) => ∃ tk, v = .int (x.count : Int) tk) us ps) : IntsAre us (ps.map fun x => (x.count : Int)) := by
  induction a with
  | nil => exact .nil
  | cons a _ ih => obtain ⟨tk, rfl⟩ := a; exact .cons _ _ ih
section
theorem under_f {W : Wd} {h : Heap} {S : Addr} {ds : List Value} {ps : List P} (hS : ListAt h S ds) (hd : All2 (Made h) ds ps) (hps : ps.length = 1 ∨ ps.length = 2) : Fn W 3 [] h (.ref 276) [.ref S] fun x h' => Made h' x (P.und ps) := by
  refine' .enter [("some", .ref S)] ?ho ?hcd ?hbind ?hkind ?hnd ?_
  walk_at "K side"
  rintro c rfl hX old
  have hSo := old _ _ hS.choose_spec
  have hlen := hd.length
  have hz : ds.length ≤ 2 := by omega
  have e0 : (ds.length : Int) - 1 = ((ds.length - 1 : Nat) : Int) := by omega
  have hix : ∀ {g : Heap} {j : Nat} {R : Heap → Value → P → Prop}, Up c [] h g → (∀ {pv lv rv : Value} {p : P} {k : Tok}, PaperAt g pv p → TermAt g lv p.sides.1 → TermAt g rv p.sides.2 → ∃ w, [pv, lv, rv, .int (p.count : Int) k][j]? = some w ∧ R g w p) → All2 (fun v x => ∃ a us w, v = .ref a ∧ IsTup g a (List.toArray us) ∧ us[j]? = some w ∧ R g w x) ds ps := fun u hj => hd.imp fun _ _ m => by
    obtain ⟨D, pv, lv, rv, k, rfl, i, a, b, e⟩ := m.sub u.sub
    obtain ⟨w, hw, r⟩ := hj a b e
    exact ⟨D, _, w, rfl, i, hw, r⟩
  refine .assign (X := []) (P' := fun v _ => ∃ tk, v = .str (opOf ps) tk) (.sub (P' := fun v g' => ∃ L k1 k2, v = .ref L ∧ L ∉ c.all ∧ Up c [] h g' ∧ ListAt g' L [.str "f" k1, .str "g" k2]) (.list (.str (.str .nil)) fun vs t h' u nw z e => ?_) fun u g1 u1 ⟨L, k1, k2, e, nL, w1, hl⟩ => .of (.sub (.lenL B_len .var (hS.up w1 hSo).is hSo (by omega)) .int) fun v g2 u2 z => ?_) fun v g1 u1 ⟨tk, e⟩ => ?_
  · obtain ⟨k1, us, rfl, z1⟩ := z.sv
    obtain ⟨k2, us2, rfl, z2⟩ := z1.sv
    cases z2
    exact ⟨t, k1, k2, rfl, nw.f, u, 0, e⟩
  · subst e
    rw [e0] at z
    have : ∃ k, [Value.str "f" k1, .str "g" k2][ds.length - 1]? = some (.str (opOf ps) k) := by
      rcases hps with q | q
      · rw [hlen, q]; exact ⟨k1, by simp [opOf, q]⟩
      · rw [hlen, q]; exact ⟨k2, by simp [opOf, q]⟩
    obtain ⟨k, hk⟩ := this
    exact .itemL (hl.up u2 nL) nL z hk (by omega) fun h' u => ⟨k, rfl⟩
  subst e
  refine .assign (X := []) (P' := fun v h' => ∃ a us, v = .ref a ∧ IsTup h' a (.str (opOf ps) tk :: us).toArray ∧ All2 (fun v (x : P) => TermAt h' v x.sides.1) us ps) (.opTup (j := 1) (R := fun h v (x : P) => TermAt h v x.sides.1) (fun _ _ _ _ k y => y.sub k) (hS.up u1 hSo) hSo hz (hix (j := 1) (R := fun h v (x : P) => TermAt h v x.sides.1) u1 fun _ b _ => ⟨_, rfl, b⟩) fun r us h' u i a => ⟨r, us, rfl, i, a⟩) fun v g2 u2 ⟨lf, ls, e, il, al⟩ => ?_
  subst e
  have w2 := u1.trans u2
  refine .assign (X := []) (P' := fun v h' => ∃ a us, v = .ref a ∧ IsTup h' a (.str (opOf ps) tk :: us).toArray ∧ All2 (fun v (x : P) => TermAt h' v x.sides.2) us ps) (.opTup (j := 2) (R := fun h v (x : P) => TermAt h v x.sides.2) (fun _ _ _ _ k y => y.sub k) (hS.up w2 hSo) hSo hz (hix (j := 2) (R := fun h v (x : P) => TermAt h v x.sides.2) w2 fun _ _ b => ⟨_, rfl, b⟩) fun r us h' u i a => ⟨r, us, rfl, i, a⟩) fun v g3 u3 ⟨rg, rs, e, ir, ar⟩ => ?_
  subst e
  have w3 := w2.trans u3
  refine .ret (X := []) (.tupL (P' := fun us h' => ∃ pa k1, us = [.ref pa, .ref lf, .ref rg, .int ((P.und ps).count : Int) k1] ∧ PaperAt h' (.ref pa) (P.und ps) ∧ TermAt h' (.ref lf) (P.und ps).sides.1 ∧ TermAt h' (.ref rg) (P.und ps).sides.2) (.cons (P' := fun v h' => ∃ pa, v = .ref pa ∧ Up c [] g3 h' ∧ PaperAt h' (.ref pa) (P.und ps) ∧ TermAt h' (.ref lf) (P.und ps).sides.1 ∧ TermAt h' (.ref rg) (P.und ps).sides.2) (.tupL (P' := fun us h' => ∃ k k' d zs, us = [.str "under" k, .str (opOf ps) k', .ref d] ∧ Up c [] g3 h' ∧ IsTup h' d (List.toArray zs) ∧ All2 (PaperAt h') zs ps) (.pure .str fun _ ⟨k, e1⟩ => .var (.one (.callTy (P' := fun vs h' => ∃ e us, vs = [.ref e] ∧ e ∉ c.all ∧ ListAt h' e us ∧ All2 (PaperAt h') us ps ∧ Up c [] g3 h') B_tuple (.one (.mapIx (j := 0) (R := PaperAt) (fun _ _ _ _ k y => y.sub k) (hS.up w3 hSo) hSo hz (hix (j := 0) (R := PaperAt) w3 fun b _ _ => ⟨_, rfl, b⟩) fun d us h' u nd hl r => ⟨d, us, rfl, nd, hl, r, u⟩)) fun vs g' u ⟨e, us, ev, he, hl, hus, ug⟩ => ?_))) (fun us a g' h' u ⟨k, k', d, zs, e, ug, iz, hz⟩ u2 _ i => ?_) ?_) fun v g4 u4 ⟨pa, e, w4, hp, ht, hr⟩ => .var (.var (.one (.callB (P' := fun vs h' => ∃ d us, vs = [.ref d] ∧ d ∉ c.all ∧ ListAt h' d us ∧ All2 (fun v (x : P) => ∃ tk, v = .int (x.count : Int) tk) us ps ∧ Up c [] g4 h') B_sum (.one (.mapIx (j := 3) (R := fun _ v (x : P) => ∃ tk, v = .int (x.count : Int) tk) (fun _ _ _ _ _ y => y) ((hS.up w3 hSo).up w4 hSo) hSo hz (hix (j := 3) (R := fun _ v (x : P) => ∃ tk, v = .int (x.count : Int) tk) (w3.trans w4) fun _ _ _ => ⟨_, rfl, _, rfl⟩) fun d us h' u nd hl r => ⟨d, us, rfl, nd, hl, r, u⟩)) fun vs g' u ⟨d, us, ev, nd, hl, r, ug⟩ => ?_)))) (fun us t g' h' u ⟨pa, k1, e, hp, ht, hr⟩ u2 _ i => ?_) ?_)
  · subst ev
    rw [e1]
    exact .tuple hl he (by rw [hus.length, ← hlen]; omega) fun q h' u5 nw i5 => ⟨k, _, q, us, rfl, ug.trans u5, i5.tup, hus.imp fun _ _ x => x.sub u5.sub⟩
  · subst e
    have w := ug.trans u2
    obtain ⟨a1, a2, a3⟩ := und_made hps i.tup (u2.sub.tup iz) (hz.imp fun _ _ x => x.sub u2.sub) ((u3.sub.trans w.sub).tup il) (al.imp fun _ _ x => x.sub (u3.sub.trans w.sub)) (w.sub.tup ir) (ar.imp fun _ _ x => x.sub w.sub)
    exact ⟨a, rfl, w, a1, a2, a3⟩
  · rintro us g' ⟨k, k', d, zs, rfl, _⟩; exact Nat.le_of_ble_eq_true rfl
  · subst ev
    have hi := counts_are r
    exact .sum hl nd hi fun v h' u5 ⟨k1, z⟩ => ⟨pa, k1, by rw [e, z, und_sum hps], hp.sub (ug.sub.trans u5.sub), ht.sub (ug.sub.trans u5.sub), hr.sub (ug.sub.trans u5.sub)⟩
  · subst e
    exact ⟨t, _, _, _, k1, rfl, i.tup, hp.sub u2.sub, ht.sub u2.sub, hr.sub u2.sub⟩
  · rintro us g' ⟨pa, k1, rfl, _⟩; exact Nat.le_of_ble_eq_true rfl
end
end
section
open PySem PySem.W PyProof.Rows PySem.Calls
theorem Dr.at {W : Wd} {h h' : Heap} {fd td cl : Addr} {sp : Nat} {kvs : List (Str × Value)} (d : Dr W h fd td cl sp kvs) (k : ∀ x ∈ DX fd td cl, ∀ o, h.get? x = some o → h'.get? x = some o) : Dr W h' fd td cl sp kvs :=
  ⟨let ⟨o, e, r⟩ := d.f; ⟨o, k _ (.head _) _ e, r⟩, let ⟨o, e, r⟩ := d.t; ⟨o, k _ (.tail _ (.head _)) _ e, r⟩, d.k, let ⟨cs, ns, ⟨o, e, r⟩, q⟩ := d.l; ⟨cs, ns, ⟨o, k _ (.tail _ (.tail _ (.head _))) _ e, r⟩, q⟩, d.ft, d.cf, d.ct, d.sys⟩
theorem Dr.has {W : Wd} {h : Heap} {fd td cl : Addr} {sp : Nat} {kvs : List (Str × Value)} (d : Dr W h fd td cl sp kvs) : ∀ x ∈ DX fd td cl, ∃ o, h.get? x = some o := fun x q => by
  obtain ⟨_, e1, _⟩ := d.f
  obtain ⟨_, e2, _⟩ := d.t
  obtain ⟨_, _, ⟨_, e3, _⟩, _⟩ := d.l
  rcases List.mem_cons.mp q with rfl | q
  · exact ⟨_, e1⟩
  · rcases List.mem_cons.mp q with rfl | q
    · exact ⟨_, e2⟩
    · rw [List.mem_singleton.mp q]; exact ⟨_, e3⟩
/-- what a made thing is -/
noncomputable def MadeR (W : Wd) (fd td cl : Addr) (sp : Nat) (kvs : List (Str × Value)) (n : Nat) (x : Value) (h' : Heap) : Prop := ∃ p sp' more, Dr W h' fd td cl sp' (kvs ++ more) ∧ sp' ≤ sp + drOf n ∧ more.length ≤ toOf n ∧ Made h' x p ∧ ToldOk h' (valueAt (kvs ++ more)) p ∧ Within p n
/-- between the turns of the block -/
noncomputable def JM (W : Wd) (fd td cl : Addr) (sp : Nat) (kvs : List (Str × Value)) (m i : Nat) (ys : List Value) (h : Heap) : Prop :=
  i ≤ 1 ∧ ∃ qs sp' more, qs.length = i ∧ All2 (Made h) ys qs ∧ Dr W h fd td cl sp' (kvs ++ more) ∧ sp' ≤ sp + (if i = 0 then 0 else drOf m) ∧ more.length ≤ (if i = 0 then 0 else toOf m) ∧ ∀ q ∈ qs, ToldOk h (valueAt (kvs ++ more)) q ∧ Within q m
theorem JM.ok {W : Wd} {fd td cl : Addr} {sp : Nat} {kvs : List (Str × Value)} {m : Nat} : JOk (DX fd td cl) (JM W fd td cl sp kvs m) :=
  ⟨fun i ys h h' ⟨a, qs, sp', more, b, x, d, e, f, g⟩ ts k => ⟨a, qs, sp', more, b, x.imp fun _ _ y => y.sub ts, d.at k, e, f, fun q hq => ⟨(g q hq).1.sub ts, (g q hq).2⟩⟩, fun i ys h ⟨_, qs, _, _, b, x, _⟩ => by rw [x.length, b]; exact Nat.le_refl _⟩
theorem ats3 {vs : List Value} {a b : Value} {i : Int} (z : Ats vs [.v a, .v b, .i i]) : ∃ k, vs = [a, b, .int i k] := by
  cases z with | cons a z => cases z with | cons b z => cases z with | cons d z => cases z; cases a; cases b; obtain ⟨k, rfl⟩ := d; exact ⟨k, rfl⟩
theorem int_pred (m : Nat) : ((m + 1 : Nat) : Int) - 1 = (m : Int) := by omega
theorem int_succ (m : Nat) : ((m + 1 : Nat) : Int) = (m : Int) + 1 := by omega
theorem int_dbl (m : Nat) : ((m + m : Nat) : Int) = (m : Int) + (m : Int) := by omega
noncomputable def MadeS (W : Wd) (fd td cl : Addr) (n : Nat) : Prop := ∀ {h : Heap} {sp : Nat} {kvs : List (Str × Value)} {k : Tok}, Dr W h fd td cl sp kvs → sp + drOf n ≤ 880 → kvs.length + toOf n ≤ 10 → Fn W (n + 6) (DX fd td cl) h (.ref 281) [.ref fd, .ref td, .int (n : Int) k] (MadeR W fd td cl sp kvs n)
section
theorem made_step {W : Wd} {fd td cl : Addr} (n : Nat) (hn : n ≤ 2) (ih : ∀ m, n = m + 1 → MadeS W fd td cl m) : MadeS W fd td cl n := by
  intro h sp kvs k d hsp hz
  have hd4 := drOf_ge n
  have ht1 := toOf_ge n
  refine' .enter [("deep", .int (n : Int) k), ("told", .ref td), ("feed", .ref fd)] ?ho ?hcd ?hbind ?hkind ?hnd ?_
  walk_at "K side"
  rintro c rfl hX old
  have ok := d.ok hX old
  refine .assign (X := DX fd td cl) (P' := fun v h' => (∃ r : Nat, (At.i (r : Int)).is v ∧ (n = 0 → r < 3)) ∧ Dr c.W h' fd td cl (sp + 1) kvs) (.ite0 (β := decide ((n : Int) > 0)) (.cmp .varI .int Cm.gtI rfl) (fun e => .imp (.draw (V := 7) d ok (by omega) G_draw (by decide)) fun v h' _ ⟨⟨r, z, _⟩, d1⟩ => ⟨⟨r, z, fun q => absurd (of_decide_eq_true e) (by omega)⟩, d1⟩) fun _ => .imp (.draw (V := 3) d ok (by omega) G_draw (by decide)) fun v h' _ ⟨⟨r, z, hr⟩, d1⟩ => ⟨⟨r, z, fun _ => hr⟩, d1⟩) (fun v g1 u1 zx => ?_) ok
  obtain ⟨⟨r, ⟨kw, rfl⟩, hr⟩, d1⟩ := zx
  refine .ite0 (.varIsI (a := (r : Int))) (fun _ => ?_) fun q0 => .ite0 (.varIsI (a := (r : Int))) (fun _ => ?_) fun q1 => .ite0 (.varIsI (a := (r : Int))) (fun _ => ?_) fun q2 => ?_
  · refine .assign (X := DX fd td cl) (.pick d1 ok (by omega)) (fun t g2 u2 zx => ?_) ok
    obtain ⟨⟨r, hr, ht⟩, d2⟩ := zx
    refine .ret (X := []) (.made (p := .same r) (.tup (.str (.var .nil)) fun us a h' u nw z i => ?_) (fun g' u => .ofV .var fun h' u' => ht.sub (u.sub.trans u'.sub)) (fun g' u => .ofV .var fun h' u' => ht.sub (u.sub.trans u'.sub)) (fun g' u => .int) fun v h' u m => ⟨.same r, sp + 1 + 1, [], by rw [List.append_nil]; exact d2.up ok u, by omega, Nat.zero_le _, m, (fun x hx => nomatch hx), .same n hr⟩)
    obtain ⟨tk, rfl⟩ := z.s1
    exact .same i.tup (ht.sub u.sub)
  · refine .ret (X := DX fd td cl) (.callG (k := 4) (P' := fun vs h' => ∃ w r, vs = [.ref fd, .ref td, w] ∧ r ∈ baseTs ∧ TermAt h' w r ∧ Dr c.W h' fd td cl (sp + 2) kvs) G_told (.var (.var (.one (.imp (.pick d1 ok (by omega)) fun w h' _ ⟨⟨r, hr, ht⟩, d2⟩ => ⟨w, r, rfl, hr, ht, d2⟩)))) fun vs g' nw u zx => ?_) ok
    obtain ⟨w, r, rfl, hr, ht, d2⟩ := zx
    refine (told_f d2 (by omega) (by omega) ht).imp fun v h' _ zx => ?_
    obtain ⟨u, r', d3, m, t, hr'⟩ := zx
    exact ⟨_, sp + 3, [_], d3, by omega, ht1, m, t, .told n (by have := (base_ok hr).2; omega) hr'⟩
  · exact .ret (X := DX fd td cl) (.callF (k := 4) G_ruled (.var .nil) fun vs g' nw u z => by
      rw [z.v1]
      refine (ruled_f (d1.up ok u) (by omega)).imp fun v h' _ zx => ?_
      obtain ⟨p, d2, m, e, w⟩ := zx
      exact ⟨p, sp + 4, [], by rw [List.append_nil]; exact d2, by omega, Nat.zero_le _, m, fun x hx => (by rw [e] at hx; cases hx), w n⟩) ok
  · obtain ⟨m, rfl⟩ : ∃ m, n = m + 1 := by
      cases n with
      | zero =>
        have := hr rfl
        rw [beq_eq_false_iff_ne] at q0 q1 q2
        exfalso; omega
      | succ m => exact ⟨m, rfl⟩
    have em : ((m + 1 : Nat) : Int) - 1 = (m : Int) := int_pred m
    have hdr : drOf (m + 1) = 2 * drOf m + 2 := rfl
    have hto : toOf (m + 1) = 2 * toOf m := rfl
    have hd4' := drOf_ge m
    have ht1' := toOf_ge m
    refine .unpack (X := DX fd td cl) (ns := ["paper", "left", "right", "many"]) (t := fun us g' => ∃ pv lv rv k1 p sp' more, us = [pv, lv, rv, .int (p.count : Int) k1] ∧ PaperAt g' pv p ∧ TermAt g' lv p.sides.1 ∧ TermAt g' rv p.sides.2 ∧ Dr c.W g' fd td cl sp' (kvs ++ more) ∧ sp' ≤ sp + 1 + drOf m ∧ more.length ≤ toOf m ∧ ToldOk g' (valueAt (kvs ++ more)) p ∧ Within p m) (.callF (k := m + 6) G_made (.var (.var (.cons (.sub .varI .int) .nil))) fun vs g' nw u z => by
      obtain ⟨k2, e⟩ := ats3 z
      subst e
      rw [em]
      refine (ih m rfl (d1.up ok u) (by omega) (by omega)).imp fun v h' _ zx => ?_
      obtain ⟨p, sp', more, d2, h1, h2, ⟨D, pv, lv, rv, k1, e, i, a, b, e2⟩, t, w⟩ := zx
      exact ⟨D, _, e, i, ⟨pv, lv, rv, k1, p, sp', more, rfl, a, b, e2, d2, h1, h2, t, w⟩, rfl⟩) (fun us g2 u2 zx => ?_) ok
    obtain ⟨pv, lv, rv, k1, p, sp', more, rfl, hp, hl, hr2, d2, h1, h2, tk, wn⟩ := zx
    have hs1 : sp' ≤ sp + drOf (m + 1) := by omega
    have hs2 : sp' + 1 ≤ sp + drOf (m + 1) := by omega
    have hs3 : sp' + 1 ≤ 880 := by omega
    have hm1 : more.length ≤ toOf (m + 1) := by omega
    have hm2' : more.length + 1 ≤ toOf (m + 1) := by omega
    have hzl : kvs.length + more.length + 1 ≤ 10 := by omega
    refine .ite0 (.varIsI (a := (r : Int))) (fun _ => ?_) fun q3 => .ite0 (.varIsI (a := (r : Int))) (fun _ => ?_) fun q4 => .ite0 (.varIsI (a := (r : Int))) (fun _ => ?_) fun q5 => ?_
    · refine .ret (X := []) (.made (p := .turn p) (.tup (.str (.var .nil)) fun us a h' u nw z i => ?_) (fun g' u => .ofV .var fun h' u' => hr2.sub (u.sub.trans u'.sub)) (fun g' u => .ofV .var fun h' u' => hl.sub (u.sub.trans u'.sub)) (fun g' u => .varI) fun v h' u m' => ⟨.turn p, sp', more, d2.up ok u, hs1, hm1, m', tk.sub u.sub, wn.turn⟩)
      obtain ⟨tk, rfl⟩ := z.s1
      exact .turn i.tup (hp.sub u.sub)
    · refine .assign (X := DX fd td cl) (.callF (k := 4) (P := fun v h' => ∃ u r' D pa lv' k3, v = .ref D ∧ IsTup h' D [pa, lv', u, .int ((P.told (labelOf (kvs ++ more).length) p.sides.2 r').count : Int) k3].toArray ∧ PaperAt h' pa (.told (labelOf (kvs ++ more).length) p.sides.2 r') ∧ TermAt h' lv' p.sides.2 ∧ TermAt h' u r' ∧ r' ∈ baseTs ∧ ∃ w, Dr c.W h' fd td cl (sp' + 1) (kvs ++ more ++ [(labelOf (kvs ++ more).length, w)]) ∧ ToldOk h' (valueAt (kvs ++ more ++ [(labelOf (kvs ++ more).length, w)])) (.told (labelOf (kvs ++ more).length) p.sides.2 r')) G_told (.var (.var (.var .nil))) fun vs g' nw u z => ?_) (fun v g3 u3 zx => ?_) ok
      · rw [z.v3]
        refine (told_f (d2.up ok u) (by omega) (by rw [List.length_append]; omega) (hr2.sub u.sub)).imp fun v h' _ zx => ?_
        obtain ⟨w, r', d3, ⟨D, pa, lv', rv', k3, e, i, a, b, e2⟩, t, hr'⟩ := zx
        exact ⟨rv', r', D, pa, lv', k3, e, i, a, b, e2, hr', w, d3, t⟩
      · obtain ⟨u, r', D, pa, lv', k3, rfl, iD, hpa, _, hu, hr', w, d3, t3⟩ := zx
        have ej : (((P.join p (.told (labelOf (kvs ++ more).length) p.sides.2 r')).count : Nat) : Int) = (p.count : Int) + 1 := by show ((p.count + 1 : Nat) : Int) = _; exact int_succ p.count
        refine .ret (X := []) (.made (p := .join p (.told (labelOf (kvs ++ more).length) p.sides.2 r')) (.tup (.str (.var (.cons (.itemV (i := 0) iD) .nil))) fun us a h' u nw z i => ?_) (fun g' u => .ofV .var fun h' u' => hl.sub (u3.sub.trans (u.sub.trans u'.sub))) (fun g' u => .ofV (.itemV (i := 2) (u.sub.tup iD)) fun h' u' => hu.sub (u.sub.trans u'.sub)) (fun g' u => by rw [ej]; exact .add .varI .int) fun v h' u m' => ⟨_, sp' + 1, more ++ [(labelOf (kvs ++ more).length, w)], by rw [← List.append_assoc]; exact d3.up ok u, hs2, by rw [List.length_append, List.length_singleton]; exact hm2', m', ?_, wn.joinT (by omega) hr'⟩)
        · obtain ⟨tk, rfl⟩ := z.s2
          exact .join i.tup (hp.sub (u3.sub.trans u.sub)) (hpa.sub u.sub)
        · rw [← List.append_assoc]
          exact fun x hx => (List.mem_append.mp hx).elim ((tk.sub (u3.sub.trans u.sub)).grow _ x) (t3.sub u.sub x)
    · have ej : (((P.join p (.turn p)).count : Nat) : Int) = (p.count : Int) + (p.count : Int) := by show ((p.count + p.count : Nat) : Int) = _; exact int_dbl p.count
      refine .ret (X := []) (.made (p := .join p (.turn p)) (.tupL (P' := fun us h' => ∃ k3 q, us = [.str "join" k3, pv, q] ∧ Up c [] g2 h' ∧ PaperAt h' q (.turn p)) (.pure .str fun _ zx => .var (.one (.tup (.str (.var .nil)) fun us a h' u nw z i => ?_))) (fun us a g' h' u zx u2 _ i => ?_) ?_) (fun g' u => .ofV .var fun h' u' => hl.sub (u.sub.trans u'.sub)) (fun g' u => .ofV .var fun h' u' => hl.sub (u.sub.trans u'.sub)) (fun g' u => by rw [ej]; exact .add .varI .varI) fun v h' u m' => ⟨.join p (.turn p), sp', more, d2.up ok u, hs1, hm1, m', ?_, wn.joinB (by omega)⟩)
      · obtain ⟨k3, e⟩ := zx
        obtain ⟨tk, rfl⟩ := z.s1
        exact ⟨k3, .ref a, by rw [e], u, .turn i.tup (hp.sub u.sub)⟩
      · obtain ⟨k3, q, rfl, ug, hq⟩ := zx
        exact .join i.tup (hp.sub (ug.sub.trans u2.sub)) (hq.sub u2.sub)
      · rintro us g' ⟨k3, q, rfl, _⟩; exact Nat.le_of_ble_eq_true rfl
      · exact fun x hx => (List.mem_append.mp hx).elim (tk.sub u.sub x) (tk.sub u.sub x)
    · refine .comp (X := DX fd td cl) (.range (P' := fun vs h' => (∃ (r : Nat) (k : Tok), vs = [.int (r : Int) k] ∧ r < 2) ∧ Dr c.W h' fd td cl (sp' + 1) (kvs ++ more)) B_range (.one (.imp (.draw (V := 2) d2 ok (by omega) G_draw (by decide)) fun v h' _ zx => by
        obtain ⟨⟨r, ⟨k, z⟩, hr⟩, d3⟩ := zx
        exact ⟨⟨r, k, by rw [z], hr⟩, d3⟩)) fun vs g' _ zx => by
        obtain ⟨⟨r, k, e, hr⟩, d3⟩ := zx
        exact ⟨d3.has, r, k, e, by omega⟩) (fun m' Pv g3 u3 zx => ?_) ok
      obtain ⟨g₀, k', st0, ⟨⟨r', k'', e, hr'⟩, d3⟩, hm8, hPv⟩ := zx
      have hm2 : m' < 2 := by
        injection e with e _
        injection e with e _
        have := Int.ofNat.inj e
        omega
      have d3 := d3.at fun x hx o e => st0 _ _ e
      refine ⟨by omega, d3.has, JM c.W fd td cl (sp' + 1) (kvs ++ more) m, JM.ok, ⟨Nat.zero_le _, [], sp' + 1, [], rfl, .nil, by rw [List.append_nil]; exact d3, Nat.le_refl _, Nat.zero_le _, fun q hq => nomatch hq⟩, fun C cl' kk i ys v h' hi hv jm up old2 ok2 => ?_, fun D' ys k h' nw u4 hl4 jm => ?_⟩
      · obtain ⟨hi1, qs, sq, mo, hq, hys, d4, h3, h4, hqs⟩ := jm
        obtain rfl : i = 0 := by omega
        cases qs with
        | cons a b => cases hq
        | nil =>
          cases hys
          simp only [if_true] at h3 h4
          refine ⟨_, .nameL, .nil fun h₅ u5 => ⟨fun _ => .imp (P' := MadeR c.W fd td cl sq (kvs ++ more ++ mo) m) (.callF (k := m + 6) G_made (.var (.var (.cons (.sub .varI .int) .nil))) fun vs g' nw u z => by
            obtain ⟨k2, e⟩ := ats3 z
            subst e
            rw [em]
            exact ih m rfl ((d4.up ok2 u5).up ok2 u) (by omega) (by rw [List.length_append, List.length_append]; omega)) fun v h' u zx => ?_, fun e => nomatch e⟩⟩
          obtain ⟨p2, sp2, more2, d5, h5, h6, m5, t5, w5⟩ := zx
          refine ⟨Nat.le_refl _, [p2], sp2, mo ++ more2, rfl, .one m5, by rw [← List.append_assoc]; exact d5, ?_, ?_, fun q hq => ?_⟩
          · rw [if_neg (by decide)]; omega
          · rw [if_neg (by decide), List.length_append]; omega
          · obtain rfl := List.mem_singleton.mp hq
            exact ⟨by rw [← List.append_assoc]; exact t5, w5⟩
      · obtain ⟨hi1, qs, sq, mo, hq, hys, d4, h3, h4, hqs⟩ := jm
        have s3 : TupSub g2 h' := u3.sub.trans u4.sub
        have h3' : sq ≤ sp' + 1 + drOf m := by split at h3 <;> omega
        have h4' : mo.length ≤ toOf m := by split at h4 <;> omega
        have hq1 : qs.length ≤ 1 := by omega
        have hly := hys.length
        refine .ret (X := []) (.callG (k := 3) (P' := fun vs h₂ => ∃ S ds, vs = [.ref S] ∧ Up c [] h' h₂ ∧ ListAt h₂ S ds ∧ All2 (Made h₂) ds (p :: qs)) G_under (.one (.bin (P' := fun v h₂ => ∃ S x, v = .ref S ∧ S ∉ c.all ∧ Up c [] h' h₂ ∧ ListAt h₂ S [x] ∧ Made h₂ x p) (.listL (P' := fun us h₂ => ∃ x, us = [x] ∧ Up c [] h' h₂ ∧ Made h₂ x p) (.one (.made (p := p) (.ofV .var fun h₂ u => hp.sub (s3.trans u.sub)) (fun g' u => .ofV .var fun h₂ u' => hl.sub (s3.trans (u.sub.trans u'.sub))) (fun g' u => .ofV .var fun h₂ u' => hr2.sub (s3.trans (u.sub.trans u'.sub))) (fun g' u => .varI) fun v h₂ u mm => ⟨v, rfl, u, mm⟩)) (fun us S g' h₂ u zx u2 nw e2 => by
            obtain ⟨x, e, ug, mm⟩ := zx
            exact ⟨S, x, rfl, nw.f, ug.trans u2, ⟨0, e ▸ e2⟩, mm.sub u2.sub⟩) fun us g' zx => by
            obtain ⟨x, e, _⟩ := zx
            rw [e]; exact Nat.le_of_ble_eq_true rfl) fun v g5 u5 zx => .ofV .var fun h6 u6 => by
            obtain ⟨S, x, rfl, nS, ug, hlS, mx⟩ := zx
            have w6 := ug.trans u6
            exact .addL (hlS.up u6 nS) (ListAt.up ⟨k, hl4⟩ w6 nw.f) nS nw.f (by rw [hly, hq]; simp only [List.length_singleton]; omega) fun R h7 u7 _ hlR => ⟨R, _, rfl, w6.trans u7, hlR, .cons (mx.sub (u6.sub.trans u7.sub)) (hys.imp fun _ _ x => x.sub (w6.sub.trans u7.sub))⟩)) fun vs g6 nw u6 zx => ?_)
        obtain ⟨S, ds, rfl, ug, hlS, hds⟩ := zx
        have hul : (p :: qs).length = 1 ∨ (p :: qs).length = 2 := by simp only [List.length_cons]; omega
        exact (under_f hlS hds hul).imp fun v h8 k8 mm => by
          have s8 : TupSub h' h8 := ug.sub.trans k8.sub
          exact ⟨_, sq, more ++ mo, by rw [← List.append_assoc]; exact ((d4.up ok ug).keep k8 (fun q => nomatch q) (fun q => nomatch q) (fun q => nomatch q)), by omega, by rw [List.length_append]; omega, mm, by rw [← List.append_assoc]; exact und_told hq1 ((tk.sub (s3.trans s8)).grow _) fun q hq => (hqs q hq).1.sub s8, und_within hq1 wn fun q hq => (hqs q hq).2⟩
theorem made_f {W : Wd} {fd td cl : Addr} : ∀ n, n ≤ 2 → MadeS W fd td cl n
  | 0, h => made_step 0 h fun m e => nomatch e
  | n + 1, h => made_step (n + 1) h fun m e => by cases e; exact made_f n (by omega)
end
end
section
open PySem PySem.W PyProof.Rows PySem.Calls
section
variable {D : List (Str × NameKind)} {n : Nat} {c : Cx D n} {X X' : List Addr} {g g' h h' : Heap} {l : List (Str × Value)} {P : Value → Heap → Prop} {N : Heap → List (Str × Value) → Prop}
theorem Op.eqT {a b : Addr} {us vs : List Value} {m : Nat} (x : IsTup g a us.toArray) (y : IsTup g b vs.toArray) (z : ∀ h, TupSub g h → All2 (Deep h m) us vs) (hm : m + 1 ≤ 20 * n) (hp : ∀ h', Up c [] g h' → P (.bool true) h') : Op c X g l (compareOp .Eq (.ref a) (.ref b)) P :=
  .cm (fun h x1 s Q E eh p => by subst eh; exact eqT_t (x1.tup x) (x1.tup y) (z _ x1.1.sub) (by have := c.units; omega) (p s.toks)) hp
theorem Op.intB {b : Bool} (hp : ∀ v h', Up c [] g h' → (At.i (if b then 1 else 0)).is v → P v h') : Op c X g l (call (.type "int") [.bool b]) P := fun s Q E ok x1 p => call_int_bool (p.at x1 (hp _ _ x1.up0 ⟨_, rfl⟩))
end
theorem idle_sum {p : P} (h : p.isUnder = true) : (p.kids.map fun q => (q.idle : Int)).sum = (p.idle : Int) := by
  cases p <;> first | (cases h; done) | simp [P.kids, P.idle]
theorem idles_are {us : List Value} {ps : List P} (a : All2 (fun v (x : P) => ∃ tk, v = .int (x.idle : Int) tk) us ps) : IntsAre us (ps.map fun x => (x.idle : Int)) := by
  induction a with
  | nil => exact .nil
  | cons a _ ih => obtain ⟨tk, rfl⟩ := a; exact .cons _ _ ih
theorem kid_dep {p q : P} (h : q ∈ p.kids) : q.dep + 1 ≤ p.dep := by
  cases p <;> simp_all [P.kids, P.dep] <;> (rcases h with rfl | rfl <;> omega)
section
theorem G_idle : IsG "_law_idle" (.ref 293) := ⟨fun w => by k_is, fun w => by k_is⟩
theorem G_fits : IsG "_law_fits" (.ref 288) := ⟨fun w => by k_is, fun w => by k_is⟩
theorem fits_f {W : Wd} {h : Heap} {J : Addr} {ft : Str → Option Value} {v lv rv : Value} {p : P} {i : Int} {k : Tok} (hW : WorldAt W.w h J ft) (hp : PaperAt h v p) (hk : p.ok) (ht : ToldOk h ft p) (hd : p.dep ≤ 50) (hz : p.size ≤ 1000)
    (hl : TermAt h lv p.sides.1) (hr : TermAt h rv p.sides.2) (hn : i = (p.count : Int)) (hds : p.sides.1.depth ≤ 60 ∧ p.sides.2.depth ≤ 60) : Fn W 18 [] h (.ref 288) [.ref J, v, lv, rv, .int i k] fun x _ => x = .bool true := by
  obtain ⟨dR, dT, oR, oT, fr, R1, R2, hJ, _⟩ := id hW.ex
  obtain ⟨dx, sl, es, nn, hj, hdx, e1, e2, e3, e4, e5, e6, e7⟩ := hJ.ex
  have IJ : IAt h J 213 es := ⟨dx, sl, nn, hj, hdx⟩
  refine' .enter [("many", .int i k), ("right", rv), ("left", lv), ("paper", v), ("judge", .ref J)] ?ho ?hcd ?hbind ?hkind ?hnd ?_
  walk_at "K side"
  rintro c rfl _ old
  have b := Base.self old
  refine .ret (X := []) (.and (P' := fun β _ => β = true) (.cmp (.meth (k := 16) (P := fun v h' => Up c [] h h' ∧ SidesAt h' v p.sides) (P' := fun us h' => us = [v] ∧ Up c [] h h') IJ b M_sides e6 (.of (.var .nil) fun us h' u z => ⟨z.v1, u⟩) fun us g1 nw u ⟨e, ug⟩ => ?_) fun v1 g1 u1 ⟨w1, a1, l1, r1, e, i1, tl, tr⟩ => .tup (.var (.var .nil)) fun us t g2 u2 nw z it => ?_) (fun g1 u1 _ => .cmp (.meth (k := 10) (P := fun v h' => (At.i (p.count : Int)).is v) (P' := fun us h' => us = [v] ∧ Up c [] g1 h') IJ (b.up u1) M_count e7 (.of (.var .nil) fun us h' u z => ⟨z.v1, u⟩) fun us g2 nw u ⟨e, ug⟩ => ?_) fun v1 g2 u2 z => .of .varI fun v2 g3 u3 z2 => .cm (fun h x => Cm.eqI h v1 v2 x z z2) fun h' u => ?_) fun _ _ e => nomatch e)
  · subst e
    exact (sides_f (hW.keeps (b.up ug).st) (hp.sub ug.sub) hk (ht.sub ug.sub) hd hz).imp fun v h' k z => ⟨ug.trans (k.mono fun _ q => nomatch q), z⟩
  · subst e
    rw [z.v2] at it
    have s2 := w1.sub.trans u2.sub
    exact .eqT (m := 60) (u2.sub.tup i1) it.tup (fun h ts => .cons ((TermAt.deep ((tl.sub u2.sub).sub ts) ((hl.sub s2).sub ts)).mono hds.1) (.one ((TermAt.deep ((tr.sub u2.sub).sub ts) ((hr.sub s2).sub ts)).mono hds.2))) (by decide) fun h' u => ⟨true, rfl, rfl⟩
  · subst e
    exact count_f (hp.sub (u1.sub.trans ug.sub)) hk hz
  · rw [hn, beq_self_eq_true]
theorem idle_f {W : Wd} : ∀ n, n ≤ 100 → ∀ p : P, p.dep ≤ n → ∀ {h : Heap} {v : Value}, PaperAt h v p → Fn W (n + 3) [] h (.ref 293) [v] fun x _ => (At.i (p.idle : Int)).is x := by
  intro n
  induction n with
  | zero => intro _ p h; cases p <;> simp only [P.dep] at h <;> omega
  | succ n ih =>
  intro hn p hd h v hp
  obtain ⟨a, tk, vs, rfl, it, hc⟩ := hp.view2
  refine' .enter [("paper", .ref a)] ?ho ?hcd ?hbind ?hkind ?hnd ?_
  walk_at "K side"
  rintro c rfl _ old
  have sub : ∀ {g : Heap} {w : Value} {q : P}, q ∈ p.kids → PaperAt g w q → Fn c.W (n + 3) [] g (.ref 293) [w] fun x _ => (At.i (q.idle : Int)).is x := fun hm hq => ih (by omega) _ (by have := kid_dep hm; omega) hq
  refine .ite0 (.itemIs (i := 0) it) (fun e => ?_) fun q1 => .ite0 (.itemIs (i := 0) it) (fun e => ?_) fun q2 => .ite0 (.cmp (.item (a := .s p.kind) .var it ⟨_, rfl, ⟨_, rfl⟩⟩) .str Cm.neS rfl) (fun e => ?_) fun e => ?_
  · rcases hc with ⟨e0, _⟩ | ⟨_, _, x, q, us, rfl, iq, hk⟩ | ⟨_, e0, _⟩
    · have hu : p.isUnder = true := (kind_under p) ▸ e
      cases p <;> first | (cases hu; done) | (simp only [P.kind] at e0; exact absurd e0 (by decide +kernel))
    · have hu : p.isUnder = true := (kind_under p) ▸ e
      have hkl := p.kids_len
      have hul := hk.length
      refine .ret (X := []) (.callB (P' := fun vs h' => ∃ d us, vs = [.ref d] ∧ d ∉ c.all ∧ ListAt h' d us ∧ All2 (fun v (x : P) => ∃ tk, v = .int (x.idle : Int) tk) us p.kids) B_sum (.one (.map (.tup (P' := fun v g' => v = .ref q ∧ IsTup g' q us.toArray) (.ofV (.itemV (i := 2) it) fun h' u => ⟨rfl, u.sub.tup iq⟩) fun v g' _ ⟨e, i⟩ => ⟨(fun _ q => nomatch q), q, us, e, (fun q => nomatch q), i⟩) fun m Pv g3 u3 ⟨q2, us2, ⟨e2, i2⟩, i3, em, ep⟩ => ?_)) fun vs g' u ⟨d, us, ev, nd, hl, r⟩ => ?_)
      · cases e2
        obtain rfl := tup_inj i3 i2
        subst em ep
        refine ⟨by omega, fun i y _ => ∃ x, p.kids[i]? = some x ∧ ∃ tk, y = .int (x.idle : Int) tk, fun _ _ _ _ x _ => x, fun C cl kk i y h' hi hy st old2 => ?_, fun d us h' nw u4 hl4 z => ⟨d, us, rfl, nw.f, hl4, all2_of (z.1.trans hul) z.2⟩⟩
        obtain ⟨x, hx, hpx⟩ := hk.get hy
        have ts := u3.sub.trans (TupSub.of st)
        exact ⟨_, .nameL, .callF (k := n + 3) G_idle (.cons .var .nil) fun vs g' nw u z => by
          rw [z.v1]; exact (sub (List.mem_of_getElem? hx) (hpx.sub (ts.trans u.sub))).imp fun v h k z => ⟨x, hx, z⟩⟩
      · subst ev
        exact .sum hl nd (idles_are r) fun v h' u z => (idle_sum hu) ▸ z
    · rw [e] at e0; cases e0
  · rw [kind_join] at e
    cases hp with
    | @join _ _ v1 u1 p1 p2 i hq hr =>
      obtain ⟨_, rfl⟩ := List.cons.inj (tup_inj it i)
      exact .ret (X := []) (.bin (P' := fun v g' => Up c [] h g' ∧ (At.i (p1.idle : Int)).is v) (.callF (k := n + 3) G_idle (.cons (.itemV (i := 1) it) .nil) fun vs g' nw u z => by
        rw [z.v1]; exact (sub (.head _) (hq.sub u.sub)).imp fun v h' k z => ⟨u.trans (k.mono fun _ q => nomatch q), z⟩) fun v g1 u1 ⟨w1, z1⟩ => .imp (.callF (k := n + 3) G_idle (.cons (.itemV (i := 2) (w1.sub.tup it)) .nil) fun vs g' nw u z => by
        rw [z.v1]; exact sub (.tail _ (.head _)) (hr.sub (w1.sub.trans u.sub))) fun w h' u z2 => .add z1 z2 fun x h2 u2 z => z)
    | _ => cases e
  · have e0 : p.isTurn = false := by
      rw [← kind_turn]
      rw [bne_iff_ne] at e
      exact beq_eq_false_iff_ne.mpr e
    have ei : p.idle = 0 := by
      rw [kind_under] at q1
      rw [kind_join] at q2
      cases p <;> first | rfl | (cases q1; done) | (cases q2; done) | (cases e0; done)
    exact .ret (X := []) (.of .int fun x h' _ z => by rw [ei]; exact z)
  · have e : p.isTurn = true := by
      rw [← kind_turn]
      cases q : (p.kind == ("turn" : Str)) with
      | true => rfl
      | false => rw [bne, q] at e; cases e
    cases hp with
    | @turn _ _ v1 q i hq =>
      obtain ⟨_, rfl⟩ := List.cons.inj (tup_inj it i)
      obtain ⟨b, tkb, us, rfl, ib⟩ := hq.view
      have hts := kind_ts q
      have ei : ((if q.isTS = true then 1 else 0) + (q.idle : Int)) = ((P.turn q).idle : Int) := by
        simp only [P.idle]
        cases q.isTS <;> simp
      refine .ret (X := []) (.bin (P' := fun v g' => Up c [] h g' ∧ (At.i (if q.isTS = true then 1 else 0)).is v) (.callTy (P' := fun vs h' => vs = [.bool q.isTS] ∧ Up c [] h h') B_int (.one (.cmp (P' := fun v g' => (At.s q.kind).is v ∧ Up c [] h g') (.of (.item (i := 0) (a := .s q.kind) (.itemV (i := 1) it) ib ⟨_, rfl, ⟨_, rfl⟩⟩) fun v h' u z => ⟨z, u⟩) fun v g1 u1 ⟨z, w1⟩ => .tup (as := (["turn", "same"] : List Str).map At.s) (.str (.str .nil)) fun us t g2 u2 nw zz i2 => ?_)) fun vs g' u ⟨e, w⟩ => ?_) fun v g1 u1 ⟨w1, z1⟩ => .imp (.callF (k := n + 3) G_idle (.cons (.itemV (i := 1) (w1.sub.tup it)) .nil) fun vs g' nw u z => by
        rw [z.v1]; exact sub (.head _) (hq.sub (w1.sub.trans u.sub))) fun w h' u z2 => .add z1 z2 fun x h2 u2 z => ei ▸ z)
      · obtain ⟨tk2, rfl⟩ := z
        exact .inT i2.tup (Ats.strs zz) fun h' u3 => ⟨by rw [hts], w1.trans (u2.trans u3)⟩
      · subst e
        exact .intB fun v h' u z => ⟨w.trans u, z⟩
    | _ => cases e
end
end
section
open PySem PySem.W PyProof.Rows PySem.Calls
structure IsS (C : Addr) (y : Str) : Prop where
  s : ∀ w : World, findIn (hd.heap_39 w.params) (.ref C) "__setattr__" = some (some (.builtin "object.__setattr__"))
  p : ∀ w : World, plainOver (hd.heap_39 w.params) C = true
  t : ∀ w : World, takerIn (hd.heap_39 w.params) C y = some none
  h : ∀ w : World, hasDictIn (hd.heap_39 w.params) C = true
structure IsC (C f : Addr) : Prop where
  m : ∀ w : World, makesIn (hd.heap_39 w.params) C = true
  i : ∀ w : World, findIn (hd.heap_39 w.params) (.ref C) "__init__" = some (some (.ref f))
  t : ∀ w : World, isFn (hd.heap_39 w.params) (.ref f) = true
theorem putL_len (name : Str) (hsh : Int) (key v : Value) : ∀ es : List DictEntry, (putL name hsh key v es).length ≤ es.length + 1
  | [] => Nat.le_refl _
  | e :: r => by
    unfold putL
    split
    · exact Nat.le_succ _
    · exact Nat.succ_le_succ (putL_len name hsh key v r)
section
variable {D : List (Str × NameKind)} {n : Nat} {c : Cx D n} {X X' : List Addr} {g g' h h' : Heap} {l : List (Str × Value)} {P : Value → Heap → Prop} {N : Heap → List (Str × Value) → Prop}
/-- x.y = e -/
theorem Ex.setA {x y : Str} {p0 p1 pos : Pos} {v : Expr} {ss : List Stmt} {P' : Value → Heap → Prop} (a : Ev c [] g l v P')
    (r : ∀ u g', Up c [] g g' → P' u g' → ∃ b dx C es k, l.lookup x = some (.ref b) ∧ g'.get? b = some (instObj C dx) ∧ g'.get? dx = some (dictOf es k) ∧ okX c [dx] ∧ IsS C y ∧ (getL y es).isSome = true ∧ es.length ≤ 900 ∧
      ∀ g₂ hsh tk k', Up c [dx] g' g₂ → g₂.get? dx = some (dictOf (putL y hsh (.str y tk) u es) k') → Ex c g₂ l ss P N)
    (hk : okN D x = true := by rfl) (hs : swapsWith v (some (.Attribute (.Name x p0) y p1)) pos.line c.env = pure false := by rfl) : Ex c g l (.Assign [.Attribute (.Name x p0) y p1] v pos :: ss) P N := .mk fun s Q E x1 rr t' =>
  wpAny_execs_cons (plainObj_wpAny_Assign_Attribute (a.run s _ E okX.nil x1 fun u h' d' tk' kk ff z => by
    obtain ⟨b, dx, C, es, k, hv, hb, hdx, od, S, hg, hz, fin⟩ := r u h' (x1.up kk) z
    have x2 : St c h' l h' := x1.next okX.nil kk ff
    refine Ev0.var hv hk _ _ E x2 fun w tk1 z1 => ?_
    obtain rfl : w = .ref b := z1
    obtain ⟨m, rest, ap, F, Nw, back⟩ := x2.fn' [(dx, dictOf es k)] (fun p hp => by rw [List.mem_singleton.mp hp]; exact ⟨hdx, (od dx (.head _)).2, fun q => absurd (Value.type.inj q.1) (by decide)⟩)
    have KX := c.W.gd.k.keeps x2.b0
    refine set_plain (s := { s with heap := h', drawn := d', toks := tk1 }) KX (instAt hb hdx) (S.s _) (osa_dict (s := { s with heap := h', drawn := d', toks := tk1 + 1 }) (pre := []) (post := rest) F Nw KX (instAt hb hdx) rfl (S.p _) (S.t _) (S.h _) hg (fun p hp => nomatch hp) (fun p hp q => ap p hp (by rw [q]; exact .head _)) (putName_dict ..) rfl (Nat.le_trans (putL_len ..) (by omega)) fun h₂ F₂ N₂ => ?_)
    obtain ⟨k2, f2⟩ := back h₂ F₂ fun q hq => N₂ q (.tail _ hq)
    exact (fin h₂ _ _ _ (x2.up k2) (N₂ _ (.head _)).1).run _ Q E (x2.next od k2 f2) (fun v h₃ d₃ tk₃ k₃ z₃ => rr v h₃ d₃ tk₃ k₃ z₃) fun g₃ l₃ h₃ d₃ tk₃ x3 z₃ => t' g₃ l₃ h₃ d₃ tk₃ x3 z₃) hs)
/-- a class of the text's own is called -/
theorem Fn.cls {W : Wd} {C f : Addr} {vs : List Value} (cl : IsC C f) (x : ∀ h₂ a dx, h.StaysIn h₂ → h.get? a = none → h.get? dx = none → a ≠ dx → h₂.get? a = some (instObj C dx) → h₂.get? dx = some (dictOf [] 0) → FnC W n [a, dx] h₂ (.ref f) (.ref a :: vs) fun v h' => v = .none ∧ P (.ref a) h') : Fn W (n + 1) [] h (.ref C) vs P := fun A s Q E room up xs eh p => by
  subst eh
  have G := W.gd.keeps up
  obtain ⟨hh, g, d, t, os⟩ := s
  have hs1 : ∀ a, hh.objs.size ≤ a → hh.get? a = none := fun a ha => by
    cases e : hh.get? a with
    | none => rfl
    | some o' => exact absurd (Heap.lt_size e) (Nat.not_lt.mpr ha)
  have up2 : hh.StaysIn ((hh.push emptyDict).push (instObj C hh.objs.size)) := fun a o e => Heap.get?_push_of_some _ (Heap.get?_push_of_some _ e)
  have hd1 : ((hh.push emptyDict).push (instObj C hh.objs.size)).get? hh.objs.size = some emptyDict := Heap.get?_push_of_some _ (Heap.get?_push_size _ rfl)
  have hd2 : ((hh.push emptyDict).push (instObj C hh.objs.size)).get? (hh.objs.size + 1) = some (instObj C hh.objs.size) := by
    have := Heap.get?_push_size (hh.push emptyDict) (o := instObj C hh.objs.size) rfl
    rwa [Heap.size_push] at this
  have nb : ∀ a, hh.get? a = none → W.b0.get? a = none := fun a e => by
    cases q : W.b0.get? a with
    | none => rfl
    | some o => have := up a o q; rw [show hh.get? a = none from e] at this; cases this
  refine wpAny_call (make_core (makes_of G.k (cl.m _)) (looks_findIn G.k (cl.i _)) (fun self => bind_fn G.k self (beq_iff_eq.mp (cl.t _))) (.inl rfl) ?_)
  have n0 := hs1 _ (Nat.le_refl _)
  have n1 := hs1 _ (Nat.le_succ _)
  refine x _ (hh.objs.size + 1) hh.objs.size up2 n1 n0 (Nat.ne_of_gt (Nat.lt_succ_self _)) hd2 hd1 _ _ _ (Room.made room) (fun a o e => up2 a o (up a o e)) (fun a q => ?_) rfl fun v h' d' tk' k z => ⟨z.1, p _ h' d' tk' (fun a o _ e => k a o (fun q => ?_) (up2 a o e)) z.2⟩
  · rcases List.mem_cons.mp q with rfl | q
    · exact nb _ n1
    · rw [List.mem_singleton.mp q]; exact nb _ n0
  · have e : hh.get? a = some o := e
    rcases List.mem_cons.mp q with rfl | q
    · rw [n1] at e; cases e
    · rw [List.mem_singleton.mp q, n0] at e; cases e
end
end
section
open PySem PySem.W PyProof.Rows PySem.Calls
section
variable {D : List (Str × NameKind)} {n : Nat} {c : Cx D n} {X X' : List Addr} {g g' h h' : Heap} {l : List (Str × Value)} {P : Value → Heap → Prop} {N : Heap → List (Str × Value) → Prop}
theorem Op.listT {t : Addr} {vs : List Value} (it : IsTup g t vs.toArray) (hz : vs.length ≤ 16000) (hp : ∀ d h', Up c [] g h' → New c g d → ListAt h' d vs → P (.ref d) h') : Op c X g l (call (.type "list") [.ref t]) P := fun s Q E ok x1 p => by
  obtain ⟨m, news, F, Nw, all, back⟩ := x1.fnA
  refine list_copyKT F Nw (x1.tup it) (fun D' k h' F' N' lt => ?_) (by rw [List.size_toArray, sizeLine_eq]; omega)
  obtain ⟨k2, f2⟩ := back h' F' fun q hq => N' q (.tail _ hq)
  have z := N' _ (.head _)
  have nw := x1.newAt (fun b o ne e => lt _ (all b o ne e)) z.2.1
  exact p _ h' s.drawn s.toks (k2.mono fun a q => by rw [List.mem_singleton.mp q]; exact .head _) f2 (hp _ h' (x1.up (X := []) k2) nw ⟨_, z.1⟩)
theorem Op.tupT {t : Addr} {vs : Array Value} (it : IsTup g t vs) (hp : ∀ h', Up c [] g h' → P (.ref t) h') : Op c X g l (call (.type "tuple") [.ref t]) P := fun s Q E ok x1 p => call_tuple_tup (x1.tup it) (p.at (tk := s.toks) x1 (hp _ x1.up0))
theorem Cm.ninL {d : Addr} {vs : List Value} {ys : List Str} {k : Str} (hl : ListAt g d vs) (hd : d ∉ c.all) (hi : StrsAre vs ys) (h : Heap) (u v : Value) (x : St c g l h) (y : (At.s k).is u) (z : (At.v (.ref d)).is v) : Cm c h .NotIn u v (!(ys.any (· == k))) := fun s Q E eh p => by
  obtain ⟨t, rfl⟩ := y
  obtain rfl : v = .ref d := z
  subst eh
  exact notin_list_strs (let ⟨_, e⟩ := hl; ⟨_, x.get hd e, rfl, _, rfl⟩) hi (p s.toks)
/-- y = a block that takes nothing -/
theorem Ex.none {ns : List (Str × NameKind)} {more : List (Str × Const)} {elt target iter test : Expr} {pos py spos : Pos} {y : Str} {ss : List Stmt} {R : Nat → (Nat → Value → Heap → Prop) → Heap → Prop} (src : Src c [] g l iter target R)
    (h : ∀ m Pv g', Up c [] g g' → R m Pv g' → NoneT c l ns more test target m Pv g') (r : ∀ d h', Up c [] g h' → d ∉ c.all → ListAt h' d [] → Ex c h' ((y, .ref d) :: l) ss P N)
    (hs : ∀ x, foldedSetIterable iter c.env x = pure x := by intro _; rfl) (hn : okNs D ns = true := by rfl) (hy : D.lookup y = some .local := by rfl) (hsw : swapsWith (.ListComp elt [⟨target, iter, [test], 0⟩] ⟨.function, ns, false, false, more⟩ pos) (some (.Name y py)) spos.line c.env = pure true := by rfl) :
    Ex c g l (.Assign [.Name y py] (.ListComp elt [⟨target, iter, [test], 0⟩] ⟨.function, ns, false, false, more⟩ pos) spos :: ss) P N :=
  .comp src (fun m Pv g' u rr => by
    obtain ⟨hm, t⟩ := h m Pv g' u rr
    refine ⟨hm, (fun _ q => nomatch q), fun _ ys _ => ys = [], ⟨fun _ _ _ _ x _ _ => x, fun i ys _ e => by rw [e]; exact Nat.zero_le _⟩, rfl, fun C cl k i ys v h hi hv e up old ok => ?_, fun d ys k h' nw u2 hl e => ?_⟩
    · obtain ⟨l', as, tr⟩ := t C cl k i v h hi hv up.stays old
      exact ⟨l', as, .one (.imp tr fun β _ _ z => ⟨(fun q => nomatch q.symm.trans z), fun _ => e⟩)⟩
    · subst e
      exact r d h' (u.trans u2) nw.f ⟨k, hl⟩) okX.nil hs hn hy hsw
end
theorem B_list : IsB "list" (.type "list") := ⟨fun w => by k_is, by boot_by_name, by decide⟩
theorem C_judge : IsC 213 183 := ⟨fun w => by k_is, fun w => by k_is, fun w => by k_is⟩
theorem C_rule : IsC 239 229 := ⟨fun w => by k_is, fun w => by k_is, fun w => by k_is⟩
theorem S_rules : IsS 213 "rules" := ⟨fun w => by k_is, fun w => by k_is, fun w => by k_is, fun w => by k_is⟩
theorem S_told : IsS 213 "told" := ⟨fun w => by k_is, fun w => by k_is, fun w => by k_is, fun w => by k_is⟩
theorem S_name : IsS 239 "name" := ⟨fun w => by k_is, fun w => by k_is, fun w => by k_is, fun w => by k_is⟩
theorem S_left : IsS 239 "left" := ⟨fun w => by k_is, fun w => by k_is, fun w => by k_is, fun w => by k_is⟩
theorem S_right : IsS 239 "right" := ⟨fun w => by k_is, fun w => by k_is, fun w => by k_is, fun w => by k_is⟩
theorem S_needs : IsS 239 "needs" := ⟨fun w => by k_is, fun w => by k_is, fun w => by k_is, fun w => by k_is⟩
/-- a new Judge's objects -/
noncomputable def JudgeO (h : Heap) (J dx : Addr) (rules told : Value) : Prop := ∃ es n, h.get? J = some (instObj 213 dx) ∧ h.get? dx = some (dictOf es n) ∧ getL "rules" es = some (some rules) ∧ getL "told" es = some (some told) ∧
    getL "told_sides" es = some none ∧ getL "rule_sides" es = some none ∧ getL "sides_of" es = some none ∧ getL "sides" es = some none ∧ getL "count" es = some none
noncomputable def RuleO (h : Heap) (R dx : Addr) (l r : Value) : Prop := ∃ es n, h.get? R = some (instObj 239 dx) ∧ h.get? dx = some (dictOf es n) ∧ getL "left" es = some (some l) ∧ getL "right" es = some (some r)
theorem judge_new_f {W : Wd} {h : Heap} {rules told : Value} : Fn W 3 [] h (.ref 213) [rules, told] fun v h' => ∃ J dx, v = .ref J ∧ h.get? J = none ∧ h.get? dx = none ∧ JudgeO h' J dx rules told := by
  refine .cls (n := 2) C_judge fun h₂ a dx st n1 n0 ne e1 e2 => ?_
  refine' .enterN (N := fun g' _ => JudgeO g' a dx rules told) [("told", told), ("rules", rules), ("self", .ref a)] ?ho ?hcd ?hbind ?hkind ?hnd ?_ ?_
  walk_at "K side"
  · rintro c rfl hX old
    have ok : okX c [dx] := fun b q => by rw [List.mem_singleton.mp q]; exact ⟨.inl (by rw [hX]; exact .tail _ (.head _)), old _ _ e2⟩
    have na := old _ _ e1
    have nn : a ∉ c.all ++ [dx] := fun q => (List.mem_append.mp q).elim na fun q => ne (List.mem_singleton.mp q)
    refine .setA (P' := fun v _ => v = rules) (.ofV .var fun _ _ => rfl) fun u g1 u1 e => ⟨a, dx, 213, [], 0, rfl, u1.get (nil_ok na) e1, u1.get (nil_ok (ok dx (.head _)).2) e2, ok, S_rules, rfl, Nat.zero_le _, fun g2 h1 t1 k1 u2 d2 => ?_⟩
    subst e
    have e3 := u2.get nn (u1.get (nil_ok na) e1)
    refine .setA (P' := fun v _ => v = told) (.ofV .var fun _ _ => rfl) fun u g3 u3 e => ⟨a, dx, 213, _, k1, rfl, u3.get (nil_ok na) e3, u3.get (nil_ok (ok dx (.head _)).2) d2, ok, S_told, rfl, Nat.le_of_ble_eq_true rfl, fun g4 h2 t2 k2 u4 d4 => .nil ⟨_, k2, u4.get nn (u3.get (nil_ok na) e3), d4, ?_⟩⟩
    subst e
    exact ⟨by k_get, by k_get, by k_get, by k_get, by k_get, by k_get, by k_get⟩
  · rintro c g' l' h' old x ⟨es, k, f1, f2, r⟩
    exact ⟨rfl, a, dx, rfl, n1, n0, es, k, x.get (old _ _ e1) f1, x.get (old _ _ e2) f2, r⟩
theorem any_mem {xs : List Str} {k : Str} (h : k ∈ xs) : (xs.any (· == k)) = true := List.any_eq_true.mpr ⟨k, h, beq_self_eq_true k⟩
theorem rule_new_f {W : Wd} {h : Heap} {nm : Str} {k : Tok} {a1 a2 nd : Addr} {l r : T} {ls rs xs : List Str} (hl : TermAt h (.ref a1) l) (hrr : TermAt h (.ref a2) r) (hn : IsTup h nd (List.toArray [])) (hlv : l.vars = ls) (hrv : r.vars = rs) (hsl : SortTo ls xs) (hsr : SortTo rs xs) (hiv : l.isVar = false) (hld : l.depth ≤ 4 ∧ l.size ≤ 100) (hrd : r.depth ≤ 4 ∧ r.size ≤ 100) (hxs : xs.length ≤ 2) :
    Fn W 12 [] h (.ref 239) [.str nm k, .ref a1, .ref a2, .ref nd] fun v h' => ∃ R dx, v = .ref R ∧ h.get? R = none ∧ h.get? dx = none ∧ RuleO h' R dx (.ref a1) (.ref a2) := by
  refine .cls (n := 11) C_rule fun h₂ a dx st n1 n0 ne e1 e2 => ?_
  refine' .enterN (N := fun g' _ => RuleO g' a dx (.ref a1) (.ref a2)) [("needs", .ref nd), ("right", .ref a2), ("left", .ref a1), ("name", .str nm k), ("self", .ref a)] ?ho ?hcd ?hbind ?hkind ?hnd ?_ ?_
  walk_at "K side"
  · rintro c rfl hX old
    have ok : okX c [dx] := fun b q => by rw [List.mem_singleton.mp q]; exact ⟨.inl (by rw [hX]; exact .tail _ (.head _)), old _ _ e2⟩
    have na := old _ _ e1
    have ndx := old _ _ e2
    have nn : a ∉ c.all ++ [dx] := fun q => (List.mem_append.mp q).elim na fun q => ne (List.mem_singleton.mp q)
    have s0 := TupSub.of st
    refine .iteR (X := []) (Pt := fun β _ => β = false) (.val (.callF (k := 2) G_is_variable (.cons .var .nil) fun vs g' nw u z => by
      rw [z.v1]; exact (is_variable_f (hl.sub (s0.trans u.sub))).imp fun v h k e => ⟨_, e, hiv⟩)) (fun _ _ e => nomatch e) fun g1 u1 _ => ?_
    refine .assign (X := []) (P' := fun v h' => ∃ d us, v = .ref d ∧ d ∉ c.all ∧ ListAt h' d us ∧ StrsAre us xs) (.callF (k := 6) G_variables (.cons .var .nil) fun vs g' nw u z => by
      rw [z.v1]; exact (variables_f (k := 4) (by omega) (hl.sub (s0.trans (u1.sub.trans u.sub))) hld.1 (by omega) hlv hsl).imp fun v h' k ⟨d, us, e, hn', hl', hs'⟩ => ⟨d, us, e, (nw _ hn').f, hl', hs'⟩) fun v g2 u2 ⟨d, us, e, nd', hkl, hks⟩ => ?_
    subst e
    have w2 := u1.trans u2
    refine .assign (X := []) (P' := fun v h' => Up c [] g2 h' ∧ ∃ A t tk, v = .ref A ∧ A ∉ c.all ∧ ListAt h' A [.ref t] ∧ IsTup h' t [.str "alike" tk, .ref a2, .ref a2].toArray) (.bin (P' := fun v h' => Up c [] g2 h' ∧ ∃ A t tk, v = .ref A ∧ A ∉ c.all ∧ ListAt h' A [.ref t] ∧ IsTup h' t [.str "alike" tk, .ref a2, .ref a2].toArray) (.listL (P' := fun us h' => Up c [] g2 h' ∧ ∃ t tk, us = [.ref t] ∧ IsTup h' t [.str "alike" tk, .ref a2, .ref a2].toArray) (.one (.tup (.str (.var (.var .nil))) fun us t h' u nw z i => ?_)) (fun us A g' h' u ⟨w, t, tk, e, i⟩ u2 nw e3 => ⟨w.trans u2, A, t, tk, rfl, nw.f, ⟨0, e ▸ e3⟩, u2.sub.tup i⟩) ?_) fun v g3 u3 ⟨w, A, t, tk, e, nA, hA, it⟩ => .callTy (P' := fun vs h' => vs = [.ref nd] ∧ Up c [] g3 h') B_list (.one (.ofV .var fun h' u => ⟨rfl, u⟩)) fun vs g4 u4 ⟨e4, w4⟩ => ?_) fun v g5 _ ⟨u5, A, t, tk, e, nA, hA, it⟩ => ?_
    · obtain ⟨tk, rfl⟩ := z.s2
      exact ⟨u, t, tk, rfl, i.tup⟩
    · rintro us g' ⟨_, t, tk, rfl, _⟩; exact Nat.le_of_ble_eq_true rfl
    · subst e e4
      exact .listT ((s0.trans (w2.trans (w.trans w4)).sub).tup hn) (Nat.zero_le _) fun d h' u nw hl => .addL ((hA.up w4 nA).up u nA) hl nA nw.f (Nat.le_of_ble_eq_true rfl) fun R h'' u' nw' hR => ⟨w.trans (w4.trans (u.trans u')), R, t, tk, rfl, nw'.f, hR, (w4.sub.trans (u.sub.trans u'.sub)).tup it⟩
    subst e
    have w5 := w2.trans u5
    have hkl5 := hkl.up u5 nd'
    refine .for (X := []) (.nameL hA nA) fun m Pv g6 u6 ⟨em, ep⟩ => ⟨(fun _ q => nomatch q), fun _ l _ => l.lookup ("self" : Str) = some (.ref a) ∧ l.lookup ("name" : Str) = some (.str nm k) ∧ l.lookup ("left" : Str) = some (.ref a1) ∧ l.lookup ("right" : Str) = some (.ref a2) ∧ l.lookup ("needs" : Str) = some (.ref nd) ∧ l.lookup ("known" : Str) = some (.ref d), fun _ _ _ _ x _ _ => x, ⟨rfl, rfl, rfl, rfl, rfl, rfl⟩, fun i v l₁ h₁ hi hv ⟨m1, m2, m3, m4, m5, m6⟩ up => ?_, fun l' h' ⟨m1, m2, m3, m4, m5, m6⟩ up => ?_⟩
    · have hv := ep i v h₁ hv
      obtain rfl : i = 0 := by rw [em] at hi; exact Nat.lt_one_iff.mp hi
      cases hv
      have w6 := w5.trans (u6.trans up)
      have iT := (u6.sub.trans up.sub).tup it
      have hr6 := hrr.sub (s0.trans w6.sub)
      have hk6 := (hkl5.up u6 nd').up up nd'
      refine ⟨_, .tup (ns := ["kind", "one", "other"]) iT, .iteR (X := []) (Pt := fun β _ => β = false) (.ninLits (ys := ["alike", "unlike"]) (P' := fun v _ => (At.s "alike").is v) (.of .varS fun v _ _ z => z) (fun g => .str (.str .nil)) (fun v g' h' _ z _ => ⟨_, z, by decide +kernel⟩) fun v g' z => ⟨_, z⟩) (fun _ _ e => nomatch e) fun g7 u7 _ => ?_⟩
      have hr7 := hr6.sub u7.sub
      have vr : ∀ {g : Heap}, TupSub g7 g → (∀ a, g.get? a = none → New c g a) → Fn c.W 6 [] g (.ref 107) [.ref a2] fun x h' => ∃ d us, x = .ref d ∧ d ∉ c.all ∧ ListAt h' d us ∧ StrsAre us xs := fun ts nw =>
        (variables_f (k := 4) (by omega) (hr7.sub ts) hrd.1 (by omega) hrv hsr).imp fun v h' k ⟨d, us, e, hn', hl', hs'⟩ => ⟨d, us, e, (nw _ hn').f, hl', hs'⟩
      refine .none (.list (P' := fun v g' => ∃ d us, v = .ref d ∧ ListAt g' d us ∧ StrsAre us (xs ++ xs)) (.bin (P' := fun v g' => Up c [] g7 g' ∧ ∃ d us, v = .ref d ∧ d ∉ c.all ∧ ListAt g' d us ∧ StrsAre us xs) (.imp (.callF (k := 6) G_variables (.cons .var .nil) fun vs g' nw u z => by rw [z.v1]; exact vr u.sub nw) fun v h' u z => ⟨u, z⟩) fun v g8 _ ⟨w8, d1, us1, e, n1, hl1, hs1⟩ => .imp (P' := fun v h' => ∃ d us, v = .ref d ∧ d ∉ c.all ∧ ListAt h' d us ∧ StrsAre us xs) (.callF (k := 6) G_variables (.cons .var .nil) fun vs g' nw u z => by rw [z.v1]; exact vr (w8.sub.trans u.sub) nw) fun v2 h' u ⟨d2, us2, e2, n2, hl2, hs2⟩ => ?_) fun v g' _ ⟨d, us, e, hl, _⟩ => ⟨(fun _ q => nomatch q), d, us, e, (fun q => nomatch q), hl.is⟩) (fun m Pv g8 u8 ⟨D2, us2, ⟨D3, us3, e, hl3, hs3⟩, iD, em, ep⟩ => ?_) fun d' h' u8 nd8 hl8 => ?_
      · subst e e2
        have hx1 := StrsAre.length hs1
        have hx2 := StrsAre.length hs2
        exact .addL (hl1.up u n1) hl2 n1 n2 (by omega) fun R h'' u' nw' hR => ⟨R, _, rfl, hR, StrsAre.append' hs1 hs2⟩
      · cases e
        obtain rfl := list_inj iD hl3
        have hlen : us2.length ≤ 4 := by have := StrsAre.length hs3; rw [List.length_append] at this; omega
        refine ⟨by omega, fun C cl kk i y h' hi hy st2 old2 => ?_⟩
        subst ep
        obtain ⟨kx, tkx, rfl, hkx⟩ := StrsAre.item hs3 i y hy
        have hmem : kx ∈ xs := by have := List.mem_of_getElem? hkx; simpa using this
        have hk8 := (hk6.up u7 nd').up u8 nd'
        have e9 : (!(xs.any (· == kx))) = false := by rw [any_mem hmem]; rfl
        have hk9 : ListAt h' d us := let ⟨k, e⟩ := hk8; ⟨k, st2 _ _ e⟩
        exact ⟨_, .nameL, .of (e9 ▸ .cmp .varS (.var (hv := outer_look (l := ((["kind", "one", "other"] : List Str).zip [Value.str "alike" tk, .ref a2, .ref a2]).reverse ++ l₁) m6 rfl)) (Cm.ninL hk9 (old2 _ _ hk8.choose_spec nd') hks) rfl) fun _ _ => rfl⟩
      · exact .iteR (X := []) (.neNil (.ofV .var fun h'' u => ⟨d', rfl, nd8, hl8.up u nd8⟩) (by decide)) (fun _ _ e => nomatch e) fun g9 u9 _ => .nil ⟨(u7.trans (u8.trans u9)).up0, m1, m2, m3, m4, m5, m6⟩
    · have w6 := w5.trans (u6.trans up)
      have f1 := w6.get (nil_ok na) e1
      have f2 := w6.get (nil_ok ndx) e2
      refine .setA (P' := fun v _ => v = .str nm k) (.ofV (.var (hv := m2)) fun _ _ => rfl) fun u g1 u1 e => ⟨a, dx, 239, [], 0, m1, u1.get (nil_ok na) f1, u1.get (nil_ok ndx) f2, ok, S_name, rfl, Nat.zero_le _, fun g2 h1 t1 k1 u2 d2 => ?_⟩
      subst e
      have f1 := u2.get nn (u1.get (nil_ok na) f1)
      refine .setA (P' := fun v _ => v = .ref a1) (.ofV (.var (hv := m3)) fun _ _ => rfl) fun u g3 u3 e => ⟨a, dx, 239, _, k1, m1, u3.get (nil_ok na) f1, u3.get (nil_ok ndx) d2, ok, S_left, rfl, Nat.le_of_ble_eq_true rfl, fun g4 h2 t2 k2 u4 d4 => ?_⟩
      subst e
      have f1 := u4.get nn (u3.get (nil_ok na) f1)
      refine .setA (P' := fun v _ => v = .ref a2) (.ofV (.var (hv := m4)) fun _ _ => rfl) fun u g5 u5 e => ⟨a, dx, 239, _, k2, m1, u5.get (nil_ok na) f1, u5.get (nil_ok ndx) d4, ok, S_right, rfl, Nat.le_of_ble_eq_true rfl, fun g6 h3 t3 k3 u6' d6 => ?_⟩
      subst e
      have f1 := u6'.get nn (u5.get (nil_ok na) f1)
      refine .setA (P' := fun v _ => True) (.callTy (P' := fun vs h' => vs = [.ref nd] ∧ Up c [] g6 h') B_tuple (.one (.ofV (.var (hv := m5)) fun h' u => ⟨rfl, u⟩)) fun vs g7 u7 ⟨e, w7⟩ => ?_) fun u g7 u7 _ => ⟨a, dx, 239, _, k3, m1, u7.get (nil_ok na) f1, u7.get (nil_ok ndx) d6, ok, S_needs, rfl, Nat.le_of_ble_eq_true rfl, fun g8 h4 t4 k4 u8 d8 => .nil ⟨_, k4, u8.get nn (u7.get (nil_ok na) f1), d8, by k_get, by k_get⟩⟩
      subst e
      exact .tupT ((s0.trans (w6.sub.trans (u1.sub.trans (u2.sub.trans (u3.sub.trans (u4.sub.trans (u5.sub.trans (u6'.sub.trans w7.sub)))))))).tup hn) fun _ _ => trivial
  · rintro c g' l' h' old x ⟨es, k, f1, f2, r⟩
    exact ⟨rfl, a, dx, rfl, n1, n0, es, k, x.get (old _ _ e1) f1, x.get (old _ _ e2) f2, r⟩
end
section
open PySem PySem.W PyProof.Rows PySem.Calls
section
variable {D : List (Str × NameKind)} {n : Nat} {c : Cx D n} {X X' : List Addr} {g g' h h' : Heap} {l : List (Str × Value)} {P : Value → Heap → Prop} {N : Heap → List (Str × Value) → Prop}
/-- l[:40] of a list of numbers -/
theorem Ev.cutL {e : Expr} {k : Nat} {p1 p2 p3 : Pos} {t : Addr} {vs : List Value} {ns : List Int} {j : Int} (x : Ev0 c g l e (.v (.ref t))) (hl : g.IsList t vs.toArray) (ht : t ∉ c.all) (hi : IntsAre vs ns) (hj : 0 ≤ j) (hz : ns.length ≤ 100) (hp : ∀ d us h', Up c [] g h' → New c g d → ListAt h' d us → IntsAre us (ns.take j.toNat) → P (.ref d) h')
    (hs : ∀ r, subscripted (.Slice Option.none (Option.some (.Constant (.int j) k p1)) Option.none p2) false (.ref t) (.ref r) = operate [.ref r, .ref t] (getItem (.ref t) (.ref r)) := by intro _; with_unfolding_all rfl) (hg : ∀ r, letTemporaryGo e (.ref t) r = pure () := by intro _; with_unfolding_all rfl) :
    Ev c X g l (.Subscript e (.Slice Option.none (Option.some (.Constant (.int j) k p1)) Option.none p2) p3) P := .mk fun s Q E ok x1 p =>
  Subscript_ (x s _ E x1 fun v tk z => by
    obtain rfl : v = .ref t := z
    refine wpAny_Slice (wpAny_pure (wpAny_Constant_int (pos := p1) (k := k) (wpAny_pure ?_)))
    obtain ⟨m, news, F, Nw, all, back⟩ := x1.fnA
    refine slice_list (s := { s with toks := _ }) (lo := Option.none) (hi := Option.some j) F Nw (let ⟨o, e, r⟩ := hl; ⟨o, x1.get ht e, r⟩) IsPart.none (IsPart.int _ _) (fun h' F' N' => ?_) (hs _) hg ?_
    · obtain ⟨k2, f2⟩ := back h' F' fun q hq => N' q (.tail _ hq)
      have z := N' _ (.head _)
      have e0 : s.heap.get? (s.heap.objs.size + 1) = Option.none := by
        cases q : s.heap.get? (s.heap.objs.size + 1) with
        | none => rfl
        | some o => exact absurd (Heap.lt_size q) (Nat.not_lt.mpr (Nat.le_succ _))
      exact p _ h' s.drawn _ (k2.mono fun a q => by rw [List.mem_singleton.mp q]; exact .head _) f2 (hp _ (slicePick vs.toArray Option.none (Option.some j) Option.none).toList h' (x1.up (X := []) k2) (x1.new e0) ⟨_, by simpa using z.1⟩ (kmk_upto hi hj))
    · rw [List.size_toArray, IntsAre.length hi, sizeLine_eq]; omega)
theorem Op.listL {t : Addr} {vs : List Value} (it : ListAt g t vs) (ht : t ∉ c.all) (hz : vs.length ≤ 16000) (hp : ∀ d h', Up c [] g h' → New c g d → ListAt h' d vs → P (.ref d) h') : Op c X g l (call (.type "list") [.ref t]) P := fun s Q E ok x1 p => by
  obtain ⟨k, e⟩ := it
  refine call_list_seq t (.inl rfl) (x1.get ht e) rfl rfl (fun h' c' hk hD => ?_) (by rw [List.size_toArray, sizeLine_eq]; omega)
  exact p _ h' s.drawn s.toks (Kp.of hk) (x1.2.2.keeps fun a _ o e => hk a o e) (hp _ h' (x1.up (X := []) (Kp.of hk)) (x1.new (size_none _)) ⟨c', hD⟩)
/-- the pairs of a dict display -/
structure EvP (c : Cx D n) (g : Heap) (l : List (Str × Value)) (pos : Pos) (ks : List (Option Expr)) (es : List Expr) (P : List (Str × Value) → Heap → Prop) : Prop where
  run : ∀ (s : Shared) (Q : List (Value × Value) → Shared → Prop) (E : Value → Shared → Prop), St c g l s.heap →
  (∀ vs kvs h' d' tk', Carries (PySem.strKind PR c.W.w) vs kvs → Kp [c.L] s.heap h' → Fv c h' l → P kvs h' → Q vs { s with heap := h', drawn := d', toks := tk' }) → wpAny (model PR c.W.w) c.A (evalPairs (pairTrees ks es c.env pos)) Q E s
theorem EvP.nil {pos : Pos} {P : List (Str × Value) → Heap → Prop} (hp : ∀ h', Up c [] g h' → P [] h') : EvP c g l pos [] [] P := .mk fun s _ _ x1 p => pairTrees_nil_walk (p [] [] s.heap s.drawn s.toks trivial .refl x1.2.2 (hp _ x1.up0))
theorem EvP.cons {pos p1 : Pos} {x : Str} {k : Nat} {ks : List (Option Expr)} {e : Expr} {es : List Expr} {P : List (Str × Value) → Heap → Prop} {P' : Value → Heap → Prop} (a : Ev c [] g l e P') (r : ∀ v g', Up c [] g g' → P' v g' → EvP c g' l pos ks es fun kvs => P ((x, v) :: kvs)) :
    EvP c g l pos (Option.some (.Constant (.str x) k p1) :: ks) (e :: es) P := .mk fun s Q E x1 p =>
  pairTrees_cons_walk (Ev0.str (c := c) (g := g) (l := l) s _ E x1 fun kv tk z => by
    obtain ⟨t, rfl⟩ := z
    exact a.run { s with toks := tk } _ E okX.nil x1 fun v h' d' tk' kk f z => (r v h' (x1.up kk) z).run _ _ E (x1.next okX.nil kk f) fun vs kvs h2 d2 tk2 ca k2 f2 z2 => p _ _ h2 d2 tk2 (show Carries _ ((.str x t, v) :: vs) ((x, v) :: kvs) from ⟨strKind_is _ _ _ _, rfl, ca⟩) (kk.trans k2) f2 z2)
theorem Ev.dictD {ks : List (Option Expr)} {es : List Expr} {pos : Pos} {P' : Addr → List (Str × Value) → Heap → Prop} (x : ∀ d g1, Up c [] g g1 → New c g d → (∃ o, g1.get? d = Option.some o) → EvP c g1 l pos ks es (P' d)) (hp : ∀ d o kvs g1 g' h', Up c [] g g1 → New c g d → (∃ o, g1.get? d = Option.some o) → Up c [] g1 g' → P' d kvs g' → Up c [d] g' h' → (d == sysModules) = false → h'.get? d = Option.some o → o.IsDictOf (PySem.strKind PR c.W.w) (merged [] kvs) → P (.ref d) h')
    (h1 : ks.all (·.isSome) = true := by rfl) (h2 : ks.length = es.length := by rfl) (h3 : ks ≠ [] := by exact fun q => nomatch q) (h4 : ks.length ≤ 15 := by exact Nat.le_of_ble_eq_true rfl) : Ev c [] g l (.Dict ks es pos) P := .mk fun s Q E ok x1 p => by
  refine wpAny_Dict_walk (knd := PySem.strKind PR c.W.w) h1 h2 h3 h4 ?_
  have up : s.heap.StaysIn (s.heap.push { cls := .type "dict", data := .dict #[] }) := fun a o e => Heap.get?_push_of_some _ e
  have x2 : St c (s.heap.push { cls := .type "dict", data := .dict #[] }) l (s.heap.push { cls := .type "dict", data := .dict #[] }) := ⟨.refl, x1.2.1.trans (Kp.of up), x1.2.2.keeps fun a _ o e => up a o e⟩
  have u1 : Up c [] g (s.heap.push { cls := .type "dict", data := .dict #[] }) := x1.up (X := []) (Kp.of up)
  have d1 : ∃ o, (s.heap.push { cls := .type "dict", data := .dict #[] }).get? s.heap.objs.size = Option.some o := ⟨_, Heap.get?_push_size _ rfl⟩
  have nw : New c g s.heap.objs.size := x1.new (size_none _)
  refine (x _ _ u1 nw d1).run { s with heap := s.heap.push { cls := .type "dict", data := .dict #[] } } _ E x2 fun vs kvs h' d' tk' ca kk f z => ⟨kvs, ca, ?_, fun h2 hd hs => ?_⟩
  · obtain ⟨o, ho, hd⟩ := Heap.dictOf_iff.mp (Heap.DictOf.new (knd := PySem.strKind PR c.W.w) s.heap)
    exact Heap.dictOf_iff.mpr ⟨o, kk.get (fun q => nw.f (by rw [List.mem_singleton.mp q]; exact all_L)) ho, hd⟩
  · obtain ⟨o, ho, hd0⟩ := Heap.dictOf_iff.mp (Heap.DictOf.new (knd := PySem.strKind PR c.W.w) s.heap)
    have e1 := kk.get (fun q => nw.f (by rw [List.mem_singleton.mp q]; exact all_L)) ho
    obtain ⟨o2, ho2, hd2⟩ := Heap.dictOf_iff.mp hd
    have k2 : Kp [s.heap.objs.size] h' h2 := Kp.of_but hs e1 (dic_noT hd0)
    have x3 : Up c [] _ h' := (x2.up (X := []) (kk.mono fun a q => by rw [List.mem_singleton.mp q]; exact .head _))
    have okd : okX c [s.heap.objs.size] := nw.ok
    refine p _ h2 d' _ (fun a o q e => k2 a o (fun m => ?_) (kk a o (fun m => q (by rw [List.mem_singleton.mp m]; exact .head _)) (up a o e))) (f.next okd k2) (hp _ o2 kvs _ h' h2 u1 nw d1 x3 z (k2.mono fun a q => List.mem_append_right _ q) (beq_eq_false_iff_ne.mpr (Nat.ne_of_gt (modules_low (c.W.gd.t.nolimit.keeps x1.b0)))) ho2 hd2)
    rw [List.mem_singleton.mp m, size_none] at e; cases e
/-- no tuple is the frame's -/
theorem Ex.tups {ss : List Stmt} (x : TupSub g (hideAll g c.all) → Ex c g l ss P N) : Ex c g l ss P N := .mk fun s Q E x1 r t => (x (fun a o h1 h2 e => hideAll_get _ e fun q => by
  have e2 := x1.1 a o (fun _ => ⟨h1, h2⟩) e
  obtain ⟨it, k, hd⟩ := h2
  exact x1.2.2.seq e2 hd q)).run s Q E x1 r t
end
end
section
open PySem PySem.W PyProof.Rows PySem.Calls
theorem RuleO.at {h h' : Heap} {R dx : Addr} {l r : Value} {Y : List Addr} (x : RuleO h R dx l r) (k : Kp Y h h') (h1 : R ∉ Y) (h2 : dx ∉ Y) : RuleO h' R dx l r := let ⟨es, n, a, b, c⟩ := x; ⟨es, n, k.get h1 a, k.get h2 b, c⟩
theorem RuleO.is {h h0 : Heap} {R dx a b : Addr} {l r : T} (x : RuleO h R dx (.ref a) (.ref b)) (h1 : ∀ o, h.get? R = some o → h0.get? R = some o) (h2 : ∀ o, h.get? dx = some o → h0.get? dx = some o) (tl : TermAt h0 (.ref a) l) (tr : TermAt h0 (.ref b) r) : RuleAt h0 R l r := let ⟨es, n, e1, e2, g1, g2⟩ := x; ⟨dx, _, es, n, _, _, h1 _ e1, h2 _ e2, g1, g2, tl, tr⟩
section
variable {D : List (Str × NameKind)} {n : Nat} {c : Cx D n} {X X' : List Addr} {g g' h h' : Heap} {l : List (Str × Value)} {P : Value → Heap → Prop} {N : Heap → List (Str × Value) → Prop}
/-- a new Rule -/
structure RN (c : Cx D n) (g : Heap) (Z : List Addr) (R : Addr) (lt rt : T) : Prop where
  ex : ∃ dx a b, RuleO g R dx (.ref a) (.ref b) ∧ TermAt g (.ref a) lt ∧ TermAt g (.ref b) rt ∧ (R ∉ c.all ∧ R ∉ Z) ∧ dx ∉ c.all ∧ dx ∉ Z
theorem RN.up {Z : List Addr} {R : Addr} {lt rt : T} (x : RN c g Z R lt rt) (u : Up c X g g') (hX : ∀ a ∈ X, a ∈ Z) : RN c g' Z R lt rt :=
  let ⟨dx, a, b, r, t1, t2, o1, o2⟩ := x.ex
  ⟨dx, a, b, r.at u (fun q => (List.mem_append.mp q).elim o1.1 fun q => o1.2 (hX _ q)) (fun q => (List.mem_append.mp q).elim o2.1 fun q => o2.2 (hX _ q)), t1.sub u.sub, t2.sub u.sub, o1, o2⟩
/-- the dict of both rules -/
structure RW (c : Cx D n) (g : Heap) (fd td cl dR : Addr) : Prop where
  ex : ∃ oR R1 R2, g.get? dR = some oR ∧ oR.IsDictOf (PySem.strKind PR c.W.w) [("twice", .ref R1), ("swap", .ref R2)] ∧ RN c g (dR :: DX fd td cl) R1 (.f .vx) (.g .vx .vx) ∧ RN c g (dR :: DX fd td cl) R2 (.g .vx .vy) (.g .vy .vx)
  sys : (dR == sysModules) = false
  off : dR ∉ c.all ∧ dR ∉ DX fd td cl
theorem RW.up {fd td cl dR : Addr} (x : RW c g fd td cl dR) (u : Up c X g g') (hX : ∀ a ∈ X, a ∈ DX fd td cl) : RW c g' fd td cl dR :=
  ⟨let ⟨o, R1, R2, e, d, r1, r2⟩ := x.ex; ⟨o, R1, R2, u.get (fun q => (List.mem_append.mp q).elim x.off.1 fun q => x.off.2 (hX _ q)) e, d, r1.up u (fun a q => .tail _ (hX a q)), r2.up u (fun a q => .tail _ (hX a q))⟩, x.sys, x.off⟩
theorem Base.hide : Base c (hideAll g c.all) g := ⟨fun a o e => of_hideAll _ e, fun a o e q => by rw [hide_none q] at e; cases e⟩
theorem RN.rule {Z : List Addr} {R : Addr} {lt rt : T} (x : RN c g Z R lt rt) (ts : TupSub g (hideAll g c.all)) : RuleAt (hideAll g c.all) R lt rt :=
  let ⟨_, _, _, r, t1, t2, o1, o2⟩ := x.ex
  r.is (fun _ e => hideAll_get _ e o1.1) (fun _ e => hideAll_get _ e o2.1) (t1.sub ts) (t2.sub ts)
theorem world_of {fd td cl dR J dj : Addr} {sp : Nat} {kvs : List (Str × Value)} (x : RW c g fd td cl dR) (d : Dr c.W g fd td cl sp kvs) (ok : okX c (DX fd td cl)) (jo : JudgeO g J dj (.ref dR) (.ref td)) (hJ : J ∉ c.all) (hj : dj ∉ c.all) (ts : TupSub g (hideAll g c.all)) : WorldAt c.W.w (hideAll g c.all) J (valueAt kvs) := by
  obtain ⟨oR, R1, R2, e, dd, r1, r2⟩ := x.ex
  obtain ⟨oT, eT, dT⟩ := d.t
  obtain ⟨es, k, e1, e2, q⟩ := jo
  exact ⟨dR, td, oR, oT, valueAt [("twice", .ref R1), ("swap", .ref R2)], R1, R2, ⟨dj, _, es, k, hideAll_get _ e1 hJ, hideAll_get _ e2 hj, q⟩, hideAll_get _ e x.off.1, mapOb_dic dd, x.sys, by rfl, by rfl, r1.rule ts, r2.rule ts, hideAll_get _ eT (ok td (.tail _ (.head _))).2, mapOb_dic dT, d.sys⟩
theorem DX.sub {fd td cl : Addr} : ∀ a ∈ ([] : List Addr), a ∈ DX fd td cl := fun _ q => nomatch q
end
end
section
open PySem PySem.W PyProof.Rows PySem.Calls
theorem G_Rule : IsG "Rule" (.ref 239) := ⟨fun w => by k_is, fun w => by k_is⟩
theorem G_Judge : IsG "Judge" (.ref 213) := ⟨fun w => by k_is, fun w => by k_is⟩
noncomputable abbrev LD : List (Str × NameKind) := (dr 31).scope.names
section
/-- Rule(name, left, right, ()) -/
theorem Ev.rule {c : Cx LD 27} {g : Heap} {l : List (Str × Value)} {Z : List Addr} {x : Str} {k k2 : Nat} {p1 p2 p3 p4 : Pos} {e1 e2 : Expr} {lt rt : T} {ls rs xs : List Str} (hZ : ∀ x ∈ Z, x ∉ c.all ∧ ∃ o, g.get? x = some o) (a : evT c l e1 lt) (b : evT c l e2 rt) (hlv : lt.vars = ls) (hrv : rt.vars = rs) (hsl : SortTo ls xs) (hsr : SortTo rs xs) (hiv : lt.isVar = false) (hld : lt.depth ≤ 4 ∧ lt.size ≤ 100) (hrd : rt.depth ≤ 4 ∧ rt.size ≤ 100) (hxs : xs.length ≤ 2)
    (h1 : noStar [e1, e2, .Tuple [] k2 p3] = true := by rfl) (hk : okG LD "Rule" = true := by rfl) : Ev c [] g l (.Call (.Name "Rule" p1) [.Constant (.str x) k p2, e1, e2, .Tuple [] k2 p3] [] p4) fun v h' => ∃ R, v = .ref R ∧ RN c h' Z R lt rt := by
  have h2 := (starEach_cons (env := c.env) h1).2
  have h0 : noStar [.Constant (.str x) k p2, e1, e2, .Tuple [] k2 p3] = true := h1
  refine .callG (k := 12) (P' := fun vs h' => ∃ kx a1 a2 nd, vs = [.str x kx, .ref a1, .ref a2, .ref nd] ∧ Up c [] g h' ∧ TermAt h' (.ref a1) lt ∧ TermAt h' (.ref a2) rt ∧ IsTup h' nd (List.toArray [])) G_Rule (.pure .str (fun _ ⟨kx, ek⟩ => .cons (P' := fun v h' => Up c [] g h' ∧ TermAt h' v lt) (.imp (a g) fun v h' u z => ⟨u, z⟩) (fun v1 g1 _ ⟨w1, t1⟩ => .cons (P' := fun v h' => Up c [] g h' ∧ TermAt h' v rt ∧ TermAt h' v1 lt) (.imp (b g1) fun v h' u z => ⟨w1.trans u, z, t1.sub u.sub⟩) (fun v2 g2 _ ⟨w2, t2, t1⟩ => .one (.unit fun nd h' u nw i => ?_)) h2) h1) h0) (fun vs g3 nw u ⟨kx, a1, a2, nd, e, ug, t1, t2, i⟩ => ?_) (by decide) hk h0
  · obtain ⟨a1, _, _, rfl, _, _⟩ := id t1.view
    obtain ⟨a2, _, _, rfl, _, _⟩ := id t2.view
    exact ⟨kx, a1, a2, nd, by rw [ek], w2.trans u, t1.sub u.sub, t2.sub u.sub, i.tup⟩
  · subst e
    have nz : ∀ {R : Addr}, New c g3 R → R ∉ Z := fun nw q => let ⟨o1, o, e⟩ := hZ _ q; nw.ne (ug.get (nil_ok o1) e) rfl
    exact (rule_new_f t1 t2 i hlv hrv hsl hsr hiv hld hrd hxs).imp fun v h' kk ⟨R, dx, e, n1, n2, ro⟩ => ⟨R, e, dx, a1, a2, ro, t1.sub kk.sub, t2.sub kk.sub, ⟨(nw R n1).f, nz (nw R n1)⟩, (nw dx n2).f, nz (nw dx n2)⟩
/-- the start of the law: the draws and what was told -/
theorem feed_e {c : Cx LD 27} {h : Heap} {S : Addr} {l : List (Str × Value)} {vs : List Value} {ns : List Int} {k k2 k3 k4 : Nat} {p1 p2 p3 p4 p5 p6 p7 p8 p9 p10 : Pos} (hS : h.IsList S vs.toArray) (hi : IntsAre vs ns) (hz : ns.length ≤ 63) (hSo : S ∉ c.all) (hv : l.lookup ("script" : Str) = some (.ref S) := by rfl) (hk : okN LD "script" = true := by rfl) (hk2 : okG LD "list" = true := by rfl) :
    Ev c [] h l (.Dict [some (.Constant (.str "cells") k p1), some (.Constant (.str "spot") k2 p2)] [.Call (.Name "list" p3) [.Subscript (.Name "script" p4) (.Slice none (some (.Constant (.int 40) k3 p5)) none p6) p7] [] p8, .Constant (.int 0) k4 p9] p10) fun v h' => ∃ fd cl oF ks us, v = .ref fd ∧ New c h fd ∧ New c h cl ∧ cl ≠ fd ∧ h'.get? fd = some oF ∧ oF.IsDictOf (PySem.strKind PR c.W.w) [("cells", .ref cl), ("spot", .int 0 ks)] ∧ ListAt h' cl us ∧ IntsAre us (ns.take 40) := by
  refine .dictD (P' := fun fd kvs g' => ∃ cl us ks, kvs = [(("cells" : Str), Value.ref cl), (("spot" : Str), Value.int 0 ks)] ∧ New c h cl ∧ cl ≠ fd ∧ ListAt g' cl us ∧ IntsAre us (ns.take 40)) (fun fd g1 u1 nf ⟨_, ef⟩ => .cons (P' := fun v g' => ∃ cl us, v = .ref cl ∧ New c g1 cl ∧ ListAt g' cl us ∧ IntsAre us (ns.take 40)) (.callTy (P' := fun vs h' => ∃ d us, vs = [.ref d] ∧ d ∉ c.all ∧ ListAt h' d us ∧ IntsAre us (ns.take 40)) B_list (.one (.cutL (j := 40) (.var hv hk) (let ⟨o, e, r⟩ := hS; ⟨o, u1.get (nil_ok hSo) e, r⟩) hSo hi (by decide) (by omega) fun d us h' u nw hl hu => ⟨d, us, rfl, nw.f, hl, hu⟩)) (fun vs g' u ⟨d, us, e, nd, hl, hu⟩ => ?_) hk2) fun v g' u ⟨cl, us, e, nc, hl, hu⟩ => .cons (.of .int fun v h' u z => (show ∃ ks, v = .int 0 ks ∧ Up c [] g' h' from let ⟨t, e⟩ := z; ⟨t, e, u⟩)) fun v2 g2 _ ⟨ks, e2, w2⟩ => .nil fun h' u2 => ⟨cl, us, ks, by rw [e, e2], nc.up u1 (fun q => nomatch q), nc.ne ef, (hl.up w2 nc.f).up u2 nc.f, hu⟩) fun d o kvs g1 g' h' u1 nw _ u ⟨cl, us, ks, e, nc, ne, hl, hu⟩ u2 _ ho hd => ?_
  · subst e
    have hlen : us.length ≤ 40 := by rw [IntsAre.length hu]; exact List.length_take_le _ _
    exact .listL hl nd (by omega) fun d' h' u' nw hl' => ⟨d', us, rfl, nw.up u (fun q => nomatch q), hl', hu⟩
  · subst e
    exact ⟨d, cl, o, ks, us, rfl, nw, nc, ne, ho, hd, hl.up1 u2 nc.f ne, hu⟩
end
end
section
open PySem PySem.W PyProof.Rows PySem.Calls
section
variable {c : Cx LD 27} {g g' h' h0 : Heap} {l : List (Str × Value)} {J : Addr} {ft : Str → Option Value}
/-- a paper that fits: what a call of _law_fits asks -/
theorem fits_ok {W : Wd} {h : Heap} {v lv rv : Value} {p : P} {i : Int} {k : Tok} {tl tr : T} {d z : Nat} (hW : WorldAt W.w h J ft) (hp : PaperAt h v p) (hg : Good h ft p d z) (hd : d ≤ 50) (hz : z ≤ 1000) (hl : TermAt h lv tl) (hr : TermAt h rv tr) (es : p.sides = (tl, tr)) (hn : i = (p.count : Int)) : Fn W 18 [] h (.ref 288) [.ref J, v, lv, rv, .int i k] fun x _ => x = .bool true :=
  fits_f hW hp hg.ok hg.told (Nat.le_trans hg.dep hd) (Nat.le_trans hg.size hz) (by rw [es]; exact hl) (by rw [es]; exact hr) hn ⟨Nat.le_trans hg.dl (by omega), Nat.le_trans hg.dr (by omega)⟩
/-- not _law_fits(..) -/
theorem Tr.fits {e2 e3 e4 e5 : Expr} {p1 p2 p3 p4 : Pos} {lv rv : Value} {p : P} {tl tr : T} {d z : Nat} (hW : WorldAt c.W.w h0 J ft) (b : Base c h0 g) (y : EvL c [] g l [e2, e3, e4, e5] fun vs h' => ∃ v k, vs = [v, lv, rv, .int (p.count : Int) k] ∧ PaperAt h' v p) (hg : Good g ft p d z) (hd : d ≤ 50) (hz : z ≤ 1000) (hl : TermAt g lv tl) (hr : TermAt g rv tr) (es : p.sides = (tl, tr))
    (h1 : noStar [.Name "judge" p2, e2, e3, e4, e5] = true := by rfl) (hv : l.lookup ("judge" : Str) = some (.ref J) := by rfl) (hk : okN LD "judge" = true := by rfl) (hk2 : okG LD "_law_fits" = true := by rfl)
    (he : isTrue (.Call (.Name "_law_fits" p1) [.Name "judge" p2, e2, e3, e4, e5] [] p3) c.env (eval (.Call (.Name "_law_fits" p1) [.Name "judge" p2, e2, e3, e4, e5] [] p3) c.env) = (do let v ← eval (.Call (.Name "_law_fits" p1) [.Name "judge" p2, e2, e3, e4, e5] [] p3) c.env; standAt p3; holding [v] (truthy v)) := by rfl) :
    Tr c [] g l (.UnaryOp .Not (.Call (.Name "_law_fits" p1) [.Name "judge" p2, e2, e3, e4, e5] [] p3) p4) fun β _ => β = false :=
  .not (.val (.callG (k := 18) (P' := fun vs h' => ∃ v k, vs = [.ref J, v, lv, rv, .int (p.count : Int) k] ∧ PaperAt h' v p) G_fits (.var (.imp y fun vs h' u ⟨v, k, e, hp⟩ => ⟨v, k, by rw [e], hp⟩) hv hk h1) (fun vs g' nw u ⟨v, k, e, hp⟩ => by
    subst e
    exact (fits_ok (hW.keeps (b.up u).st) hp (hg.sub u.sub) hd hz (hl.sub u.sub) (hr.sub u.sub) es rfl).imp fun v h' k e => ⟨true, e, rfl⟩) (by decide) hk2 h1) he)
theorem Ev.joinedE {e1 e2 : Expr} {p1 p2 : Pos} {p q : P} (x : Ev c [] g l e1 fun v h' => PaperAt h' v p) (y : ∀ g', Up c [] g g' → Ev c [] g' l e2 fun v h' => PaperAt h' v q)
    (h2 : noStar [e1, e2] = true := by rfl) (hk : okG LD "joined" = true := by rfl) : Ev c [] g l (.Call (.Name "joined" p1) [e1, e2] [] p2) fun v h' => PaperAt h' v (p.joined q) :=
  .callG (k := 2) (P' := fun vs h' => ∃ v w, vs = [v, w] ∧ PaperAt h' v p ∧ PaperAt h' w q) G_joined (.cons x (fun v g1 u1 z => .one (.imp (y g1 u1) fun w h' u z2 => ⟨v, w, rfl, z.sub u.sub, z2⟩) (starEach_cons (env := c.env) h2).2) h2) (fun vs g' nw u ⟨v, w, e, a, b⟩ => by subst e; exact joined_f a b) (by decide) hk h2
theorem EvL.joined {e1 e2 : Expr} {es : List Expr} {p1 p2 : Pos} {p q : P} {P2 : List Value → Heap → Prop} (x : Ev c [] g l e1 fun v h' => PaperAt h' v p) (y : ∀ g', Up c [] g g' → Ev c [] g' l e2 fun v h' => PaperAt h' v q) (r : ∀ v g', Up c [] g g' → PaperAt g' v (p.joined q) → EvL c [] g' l es fun vs h' => P2 (v :: vs) h')
    (h1 : noStar (.Call (.Name "joined" p1) [e1, e2] [] p2 :: es) = true := by rfl) (h2 : noStar [e1, e2] = true := by rfl) (hk : okG LD "joined" = true := by rfl) : EvL c [] g l (.Call (.Name "joined" p1) [e1, e2] [] p2 :: es) P2 :=
  .cons (.joinedE x y h2 hk) r h1
theorem Op.neP {u v : Value} {p : P} (a : PaperAt g u p) (b : PaperAt g v p) (hd : p.dep + 1 ≤ 500) {Q : Value → Heap → Prop} (hp : ∀ h', Up c [] g h' → Q (.bool false) h') : Op c [] g l (compareOp .NotEq u v) Q :=
  .cm (fun h x1 s Q E eh p => by
    subst eh
    have d := (a.sub x1.1.sub).deep (b.sub x1.1.sub)
    obtain ⟨_, _, _, rfl, ia⟩ := (a.sub x1.1.sub).view
    obtain ⟨_, _, _, rfl, ib⟩ := (b.sub x1.1.sub).view
    exact neD_t (by have := c.units; omega) ia d (p s.toks)) hp
theorem law_tail {pv bv lv rv p2v lv2 r2v p3v lv3 r3v : Value} {k k2 k3 : Tok} {D2 D3 : Addr} {p q2 q3 : P} (hW : WorldAt c.W.w h0 J ft) (b : Base c h0 g) (hp : PaperAt g pv p) (gp : Good g ft p 10 10) (hl : TermAt g lv p.sides.1) (hr : TermAt g rv p.sides.2) (hb : PaperAt g bv p.turned)
    (i2 : IsTup g D2 [p2v, lv2, r2v, .int (q2.count : Int) k2].toArray) (h2 : PaperAt g p2v q2) (gq2 : Good g ft q2 10 10) (e2 : p.sides.2 = q2.sides.1) (c2 : q2.count = 1) (i3 : IsTup g D3 [p3v, lv3, r3v, .int (q3.count : Int) k3].toArray) (h3 : PaperAt g p3v q3) (gq3 : Good g ft q3 10 10) (e3 : q2.sides.2 = q3.sides.1) (hr3 : TermAt g r3v q3.sides.2) :
    Ex c g (("judge", .ref J) :: ("back", bv) :: ("third", .ref D3) :: ("second", .ref D2) :: ("many", .int (p.count : Int) k) :: ("right", rv) :: ("left", lv) :: ("paper", pv) :: l) ((dr 31).body.drop 7) (fun v _ => v = .bool true) fun _ _ => False := by
  have efb : p.sides.2 = p.turned.sides.1 := by rw [turned_sides]
  have ett : p.turned.turned.sides = (p.sides.1, p.sides.2) := by rw [turned_sides, turned_sides]
  refine .iteR (X := []) (Pt := fun β _ => β = false) (.or (P' := fun β _ => β = false) (.fits hW b (.of (.var (.var (.var (.var .nil)))) fun vs h' u z => ⟨pv, k, z.v4, hp.sub u.sub⟩) gp (by decide) (by decide) hl hr rfl) (fun g1 u1 _ => .or (P' := fun β _ => β = false) (.fits hW (b.up u1) (.of (.var (.var (.var (.var .nil)))) fun vs h' u z => ⟨bv, k, by rw [turned_count]; exact z.v4, hb.sub (u1.sub.trans u.sub)⟩) (gp.turned.sub u1.sub) (by decide) (by decide) (hr.sub u1.sub) (hl.sub u1.sub) (turned_sides p)) (fun g2 u2 _ => .orN fun _ _ => rfl) fun _ _ e => nomatch e) fun _ _ e => nomatch e) (fun _ _ e => nomatch e) fun g1 u1 _ => ?_
  have eid : decide (((p.turned.idle : Nat) : Int) > ((p.idle : Nat) : Int)) = false := by
    have := idle_turned p
    rw [decide_eq_false_iff_not]; omega
  refine .iteR (X := []) (Pt := fun β _ => β = false) (.or (P' := fun β _ => β = false) (.fits (p := p.turned.turned) hW (b.up u1) (.cons (P' := fun v h' => PaperAt h' v p.turned.turned) (.callF (k := 2) G_turned (.var .nil) fun vs g' nw u z => by rw [z.v1]; exact turned_f (hb.sub (u1.sub.trans u.sub))) fun v g2 u2 z => .of (.var (.var (.var .nil))) fun vs h' u z2 => ⟨v, k, by rw [z2.v3, turned_count, turned_count], z.sub u.sub⟩) (gp.turned.turned.sub u1.sub) (by decide) (by decide) (hl.sub u1.sub) (hr.sub u1.sub) ett) (fun g2 u2 _ => .or (P' := fun β _ => β = false) (.cmp (P' := fun v h' => (At.i (p.turned.idle : Int)).is v) (.callF (k := 14) G_idle (.var .nil) fun vs g' nw u z => by rw [z.v1]; exact idle_f 11 (by decide) _ (Nat.le_trans gp.turned.dep (by decide)) (hb.sub (u1.sub.trans (u2.sub.trans u.sub)))) (fun v g3 u3 z => .imp (P' := fun v h' => (At.i (p.idle : Int)).is v) (.callF (k := 14) G_idle (.var .nil) fun vs g' nw u z => by rw [z.v1]; exact idle_f 11 (by decide) _ (Nat.le_trans gp.dep (by decide)) (hp.sub (u1.sub.trans (u2.sub.trans (u3.sub.trans u.sub))))) fun w h' u z2 => .cm (fun h x => Cm.gtI h v w x z z2) fun h' u => ⟨_, rfl, eid⟩) rfl) (fun g3 u3 _ => .orN fun _ _ => rfl) fun _ _ e => nomatch e) fun _ _ e => nomatch e) (fun _ _ e => nomatch e) fun g2 u2 _ => ?_
  have w2 := u1.trans u2
  have ej : (p.joined p.turned).sides = (p.sides.1, p.sides.1) := by rw [joined_sides efb, turned_sides]
  have cj : ((p.joined p.turned).count : Int) = (p.count : Int) + (p.count : Int) := by rw [joined_count efb, turned_count]; omega
  refine .iteR (X := []) (Pt := fun β _ => β = false) (.fits (p := p.joined p.turned) hW (b.up w2) (.joined (.ofV .var fun h' u => hp.sub (w2.sub.trans u.sub)) (fun g' u => .ofV .var fun h' u' => hb.sub (w2.sub.trans (u.sub.trans u'.sub))) fun v g3 u3 z => .of (.var (.var (.cons (.add .varI .varI) .nil))) fun vs h' u z2 => ?_) ((gp.joined gp.turned efb).sub w2.sub) (by decide) (by decide) (hl.sub w2.sub) (hl.sub w2.sub) ej) (fun _ _ e => nomatch e) fun g3 u3 _ => ?_
  · obtain ⟨k4, e⟩ := ats3 z2
    exact ⟨v, k4, by rw [e, cj], z.sub u.sub⟩
  have w3 := w2.trans u3
  have hs1 : ∀ {g' : Heap} {k k2 : Nat} {p1 p2 p3 : Pos} {y : Str} {v : Value} {t : T} {L : List (Str × Value)}, TermAt g' v t → L.lookup y = some v → okN LD y = true → Ev c [] g' L (.Tuple [.Constant (.str "same") k p1, .Name y p2] k2 p3) fun v h' => PaperAt h' v (.same t) := fun ht hv hk => .tup (.str (.var .nil hv hk)) fun us a h' u nw z i => by obtain ⟨tk, rfl⟩ := z.s1; exact .same i.tup (ht.sub u.sub)
  have hdp : p.dep + 1 ≤ 500 := by have := gp.dep; omega
  refine .iteR (X := []) (Pt := fun β _ => β = false) (.or (P' := fun β _ => β = false) (.cmp (P' := fun v h' => PaperAt h' v p) (.joinedE (p := .same p.sides.1) (hs1 (hl.sub w3.sub) rfl rfl) fun g' u => .ofV .var fun h' u' => hp.sub (w3.sub.trans (u.sub.trans u'.sub))) (fun v g' u z => .ofV .var fun h' u' => .neP (z.sub u'.sub) (hp.sub (w3.sub.trans (u.sub.trans u'.sub))) hdp fun _ _ => ⟨_, rfl, rfl⟩) rfl) (fun g4 u4 _ => .or (P' := fun β _ => β = false) (.cmp (P' := fun v h' => PaperAt h' v p) (.imp (.joinedE (q := .same p.sides.2) (.ofV .var fun h' u => hp.sub (w3.sub.trans (u4.sub.trans u.sub))) fun g' u => hs1 (hr.sub (w3.sub.trans (u4.sub.trans u.sub))) rfl rfl) fun v h' u z => by rw [joined_same_r rfl] at z; exact z) (fun v g' u z => .ofV .var fun h' u' => .neP (z.sub u'.sub) (hp.sub (w3.sub.trans (u4.sub.trans (u.sub.trans u'.sub)))) hdp fun _ _ => ⟨_, rfl, rfl⟩) rfl) (fun g5 u5 _ => .orN fun _ _ => rfl) fun _ _ e => nomatch e) fun _ _ e => nomatch e) (fun _ _ e => nomatch e) fun g4 u4 _ => ?_
  have w4 := w3.trans u4
  refine .assign0 (.add (.add .varI .int) (.item (i := 3) (a := .i (q3.count : Int)) .var (w4.sub.tup i3) ⟨_, rfl, ⟨_, rfl⟩⟩)) fun x z => ?_
  obtain ⟨kw, rfl⟩ := z
  have e12 : (p.joined q2).sides.2 = q3.sides.1 := by rw [joined_sides e2]; exact e3
  have e23 : p.sides.2 = (q2.joined q3).sides.1 := by rw [joined_sides e3]; exact e2
  have ca : (((p.joined q2).joined q3).count : Int) = (p.count : Int) + 1 + (q3.count : Int) := by rw [joined_count e12, joined_count e2, c2]; omega
  have cb : ((p.joined (q2.joined q3)).count : Int) = (p.count : Int) + 1 + (q3.count : Int) := by rw [joined_count e23, joined_count e3, c2]; omega
  refine .iteR (X := []) (Pt := fun β _ => β = false) (.fits (p := (p.joined q2).joined q3) hW (b.up w4) (.joined (.joinedE (.ofV .var fun h' u => hp.sub (w4.sub.trans u.sub)) fun g' u => .ofV (.itemV (i := 0) ((w4.trans u).sub.tup i2)) fun h' u' => h2.sub (w4.sub.trans (u.sub.trans u'.sub))) (fun g' u => .ofV (.itemV (i := 0) ((w4.trans u).sub.tup i3)) fun h' u' => h3.sub (w4.sub.trans (u.sub.trans u'.sub))) fun v g5 u5 z => .of (.var (.cons (.itemV (i := 2) ((w4.trans u5).sub.tup i3)) (.var .nil))) fun vs h' u z2 => ⟨v, kw, by rw [z2.v3, ca], z.sub u.sub⟩) (((gp.joined gq2 e2).joined gq3 e12).sub w4.sub) (by decide) (by decide) (hl.sub w4.sub) (hr3.sub w4.sub) (by rw [joined_sides e12, joined_sides e2])) (fun _ _ e => nomatch e) fun g5 u5 _ => ?_
  have w5 := w4.trans u5
  refine .iteR (X := []) (Pt := fun β _ => β = false) (.fits (p := p.joined (q2.joined q3)) hW (b.up w5) (.joined (.ofV .var fun h' u => hp.sub (w5.sub.trans u.sub)) (fun g' u => .joinedE (.ofV (.itemV (i := 0) ((w5.trans u).sub.tup i2)) fun h' u' => h2.sub (w5.sub.trans (u.sub.trans u'.sub))) fun g' u2 => .ofV (.itemV (i := 0) ((w5.trans (u.trans u2)).sub.tup i3)) fun h' u' => h3.sub (w5.sub.trans (u.sub.trans (u2.sub.trans u'.sub)))) fun v g6 u6 z => .of (.var (.cons (.itemV (i := 2) ((w5.trans u6).sub.tup i3)) (.var .nil))) fun vs h' u z2 => ⟨v, kw, by rw [z2.v3, cb], z.sub u.sub⟩) ((gp.joined (gq2.joined gq3 e3) e23).sub w5.sub) (by decide) (by decide) (hl.sub w5.sub) (hr3.sub w5.sub) (by rw [joined_sides e23, joined_sides e3])) (fun _ _ e => nomatch e) fun g6 u6 _ => ?_
  have w6 := w5.trans u6
  have e32 : q3.turned.sides.2 = q2.turned.sides.1 := by rw [turned_sides, turned_sides]; exact e3.symm
  have efl : (q3.turned.joined q2.turned).sides.2 = p.turned.sides.1 := by rw [joined_sides e32, turned_sides q2, turned_sides p]; exact e2.symm
  have cc : (((q3.turned.joined q2.turned).joined p.turned).count : Int) = (p.count : Int) + 1 + (q3.count : Int) := by rw [joined_count efl, joined_count e32, turned_count, turned_count, turned_count, c2]; omega
  have trn : ∀ {g' : Heap} {e : Expr} {v : Value} {q : P} {L : List (Str × Value)} {p1 p2 : Pos}, PaperAt g' v q → Ev0 c g' L e (.v v) → noStar [e] = true → okG LD "turned" = true → Ev c [] g' L (.Call (.Name "turned" p1) [e] [] p2) fun v h' => PaperAt h' v q.turned := fun hq x hs hk => .callF (k := 2) G_turned (.cons x .nil hs) (fun vs g' nw u z => by rw [z.v1]; exact turned_f (hq.sub u.sub)) (by decide) hk hs
  refine .assign (X := []) (P' := fun v h' => PaperAt h' v (q3.turned.joined q2.turned)) (.joinedE (trn (h3.sub w6.sub) (.itemV (i := 0) (w6.sub.tup i3)) rfl rfl) fun g' u => trn (h2.sub (w6.sub.trans u.sub)) (.itemV (i := 0) ((w6.trans u).sub.tup i2)) rfl rfl) fun fl g7 u7 hf => ?_
  have w7 := w6.trans u7
  refine .ret (X := []) (.callG (k := 18) (P' := fun vs h' => Up c [] g7 h' ∧ ∃ v k, vs = [.ref J, v, r3v, lv, .int (((q3.turned.joined q2.turned).joined p.turned).count : Int) k] ∧ PaperAt h' v ((q3.turned.joined q2.turned).joined p.turned)) G_fits (.var (.joined (.ofV .var fun h' u => hf.sub u.sub) (fun g' u => .ofV .var fun h' u' => hb.sub (w7.sub.trans (u.sub.trans u'.sub))) fun v g8 u8 z => .of (.cons (.itemV (i := 2) ((w7.trans u8).sub.tup i3)) (.var (.var .nil))) fun vs h' u z2 => ⟨u8.trans u, v, kw, by rw [z2.v3, cc], z.sub u.sub⟩)) fun vs g' nw u ⟨w8, v, k', e, hv⟩ => ?_)
  subst e
  have w9 := w7.trans w8
  exact fits_ok (hW.keeps (b.up w9).st) hv (((gq3.turned.joined gq2.turned e32).joined gp.turned efl).sub w9.sub) (by decide) (by decide) (hr3.sub w9.sub) (hl.sub w9.sub) (by rw [joined_sides efl, joined_sides e32, turned_sides q3, turned_sides p]) rfl
end
end
section
open PySem PySem.W PyProof.Rows PySem.Calls
theorem JudgeO.at {h h' : Heap} {J dx : Addr} {r t : Value} {Y : List Addr} (x : JudgeO h J dx r t) (k : Kp Y h h') (h1 : J ∉ Y) (h2 : dx ∉ Y) : JudgeO h' J dx r t := let ⟨es, n, a, b, c⟩ := x; ⟨es, n, k.get h1 a, k.get h2 b, c⟩
section
theorem law_x {c : Cx LD 27} {h : Heap} {S : Addr} {vs : List Value} {ns : List Int} (old : ∀ a o, h.get? a = some o → a ∉ c.all) (hS : h.IsList S vs.toArray) (hi : IntsAre vs ns) (hz : ns.length ≤ 63) : Ex c h [("script", .ref S)] (dr 31).body (fun v _ => v = .bool true) fun _ _ => False := by
  have hSo : S ∉ c.all := let ⟨o, e, _⟩ := hS; old S o e
  refine .swapE (X := []) (ns := ["feed", "told"]) (t := fun us g' => ∃ fd td cl, us = [.ref fd, .ref td] ∧ Dr c.W g' fd td cl 0 [] ∧ okX c (DX fd td cl)) (.tupL (P' := fun us g' => ∃ fd td cl, us = [.ref fd, .ref td] ∧ Dr c.W g' fd td cl 0 [] ∧ okX c (DX fd td cl)) (.cons (feed_e hS hi hz hSo) fun v g1 u1 zx => .one (.dict fun td o h' u nw hs ht hdt => ?_)) (fun us t g' h' u zx u2 _ i => by obtain ⟨fd, td, cl, e, d, ok⟩ := zx; exact ⟨t, _, rfl, i.tup, ⟨fd, td, cl, e, d.up ok u2, ok⟩, by rw [e]; rfl⟩) fun us g' zx => by obtain ⟨fd, td, cl, e, _⟩ := zx; rw [e]; exact Nat.le_of_ble_eq_true rfl) fun us g1 u1 zx => ?_
  · obtain ⟨fd, cl, oF, ks, us, rfl, nf, nc, ne, ho, hd, hl, hu⟩ := zx
    have nt := nw.up u1 (fun q => nomatch q)
    exact ⟨fd, td, cl, rfl, ⟨⟨oF, u.get (nil_ok nf.f) ho, ks, hd⟩, ⟨o, ht, hdt⟩, rfl, ⟨us, _, (hl.up u nc.f).is, hu, by rw [IntsAre.length hu]; exact List.length_take_le _ _⟩, Ne.symm (nw.ne ho), ne, Ne.symm (nw.ne hl.choose_spec), hs⟩, fun a q => by
      rcases List.mem_cons.mp q with rfl | q
      · exact ⟨nf.b, nf.f⟩
      · rcases List.mem_cons.mp q with rfl | q
        · exact ⟨nt.b, nt.f⟩
        · rw [List.mem_singleton.mp q]; exact ⟨nc.b, nc.f⟩⟩
  obtain ⟨fd, td, cl, rfl, d, ok⟩ := zx
  have hx : ∀ {k k2 p1 p2}, evT c _ (.Tuple [.Constant (.str "?x") k p1] k2 p2) .vx := fun {k k2 p1 p2} => evT.mk (l := [("feed", Value.ref fd), ("told", .ref td), ("script", .ref S)]) .vx .nil
  have hy : ∀ {k k2 p1 p2}, evT c _ (.Tuple [.Constant (.str "?y") k p1] k2 p2) .vy := fun {k k2 p1 p2} => evT.mk (l := [("feed", Value.ref fd), ("told", .ref td), ("script", .ref S)]) .vy .nil
  have hasD : ∀ {g : Heap}, Dr c.W g fd td cl 0 [] → ∀ x ∈ DX fd td cl, x ∉ c.all ∧ ∃ o, g.get? x = some o := fun d x q => ⟨(ok x q).2, d.has x q⟩
  refine .assign (X := []) (P' := fun v h' => Dr c.W h' fd td cl 0 [] ∧ ∃ dR oR R1, v = .ref dR ∧ h'.get? dR = some oR ∧ oR.IsDictOf (PySem.strKind PR c.W.w) [("twice", .ref R1)] ∧ (dR == sysModules) = false ∧ (dR ∉ c.all ∧ dR ∉ DX fd td cl) ∧ okX c [dR] ∧ RN c h' (dR :: DX fd td cl) R1 (.f .vx) (.g .vx .vx)) (.dictD (P' := fun dR kvs g' => Dr c.W g' fd td cl 0 [] ∧ ∃ R1, kvs = [(("twice" : Str), Value.ref R1)] ∧ RN c g' (dR :: DX fd td cl) R1 (.f .vx) (.g .vx .vx)) (fun dR g2 u2 nR zy => .cons (P' := fun v g' => Dr c.W g' fd td cl 0 [] ∧ ∃ R1, v = .ref R1 ∧ RN c g' (dR :: DX fd td cl) R1 (.f .vx) (.g .vx .vx)) (.imp (.rule (Z := dR :: DX fd td cl) (fun x q => ?_) (.mk (.f .vx) (evTs.cons hx evTs.nil)) (.mk (.g .vx .vx) (evTs.cons hx (evTs.cons hx evTs.nil))) vars_fx vars_gxx sort_x sort_xx rfl (by decide) (by decide) (by decide)) fun v h' u z => ⟨(d.up ok u2).up ok u, z⟩) fun v g3 u3 zx => by obtain ⟨d3, R1, e, rn⟩ := zx; exact .nil fun h' u4 => ⟨d3.up ok u4, R1, by rw [e], rn.up u4 fun _ q => nomatch q⟩) fun dR o kvs g2 g3 h' u2 nR zy u3 zx u4 hs ho hd => ?_) fun v g2 u2 zx => ?_
  · rcases List.mem_cons.mp q with rfl | q
    · obtain ⟨_, eR⟩ := zy
      exact ⟨nR.f, _, eR⟩
    · exact hasD (d.up ok u2) x q
  · obtain ⟨d3, R1, rfl, rn⟩ := zx
    have nD : dR ∉ DX fd td cl := fun q => let ⟨_, e⟩ := d.has dR q; nR.ne e rfl
    have nn : ∀ a ∈ DX fd td cl, a ∉ c.all ++ [dR] := fun a q z => (List.mem_append.mp z).elim (ok a q).2 fun z => nD (List.mem_singleton.mp z ▸ q)
    exact ⟨d3.keep u4 (nn _ (.head _)) (nn _ (.tail _ (.head _))) (nn _ (.tail _ (.tail _ (.head _)))), dR, o, R1, rfl, ho, hd, hs, ⟨nR.f, nD⟩, nR.ok, rn.up u4 fun a q => by rw [List.mem_singleton.mp q]; exact .head _⟩
  obtain ⟨d2, dR, oR, R1, rfl, hR, hdR, hsR, oRR, okR, rn1⟩ := zx
  have hx2 : ∀ {k k2 p1 p2}, evT c _ (.Tuple [.Constant (.str "?x") k p1] k2 p2) .vx := fun {k k2 p1 p2} => evT.mk (l := [("rules", Value.ref dR), ("feed", Value.ref fd), ("told", .ref td), ("script", .ref S)]) .vx .nil
  have hy2 : ∀ {k k2 p1 p2}, evT c _ (.Tuple [.Constant (.str "?y") k p1] k2 p2) .vy := fun {k k2 p1 p2} => evT.mk (l := [("rules", Value.ref dR), ("feed", Value.ref fd), ("told", .ref td), ("script", .ref S)]) .vy .nil
  refine .setD (X := []) (P' := fun v g' => Up c [] g2 g' ∧ ∃ R2, v = .ref R2 ∧ RN c g' (dR :: DX fd td cl) R2 (.g .vx .vy) (.g .vy .vx)) (.imp (.rule (Z := dR :: DX fd td cl) (fun x q => ?_) (.mk (.g .vx .vy) (evTs.cons hx2 (evTs.cons hy2 evTs.nil))) (.mk (.g .vy .vx) (evTs.cons hy2 (evTs.cons hx2 evTs.nil))) vars_gxy vars_gyx sort_xy sort_yx rfl (by decide) (by decide) (by decide)) fun v h' u z => ⟨u, z⟩) fun u g3 _ zx => ?_
  · rcases List.mem_cons.mp q with rfl | q
    · exact ⟨oRR.1, _, hR⟩
    · exact hasD d2 x q
  obtain ⟨w3, R2, rfl, rn2⟩ := zx
  refine ⟨dR, oR, _, "swap", .var, .str, w3.get (nil_ok oRR.1) hR, okR, hdR, Nat.le_of_ble_eq_true rfl, fun g4 o' u4 ho' hd' => ?_⟩
  have nn : ∀ a ∈ DX fd td cl, a ∉ c.all ++ [dR] := fun a q z => (List.mem_append.mp z).elim (ok a q).2 fun z => oRR.2 (List.mem_singleton.mp z ▸ q)
  have d4 := (d2.up ok w3).keep u4 (nn _ (.head _)) (nn _ (.tail _ (.head _))) (nn _ (.tail _ (.tail _ (.head _))))
  have hRs : ∀ a ∈ [dR], a ∈ dR :: DX fd td cl := fun a q => by rw [List.mem_singleton.mp q]; exact .head _
  have rw4 : RW c g4 fd td cl dR := ⟨⟨o', R1, R2, ho', hd', (rn1.up w3 fun _ q => nomatch q).up u4 hRs, rn2.up u4 hRs⟩, hsR, oRR⟩
  refine .unpack (X := DX fd td cl) (ns := ["paper", "left", "right", "many"]) (t := fun us g' => ∃ pv lv rv k1 p sp more, us = [pv, lv, rv, .int (p.count : Int) k1] ∧ PaperAt g' pv p ∧ TermAt g' lv p.sides.1 ∧ TermAt g' rv p.sides.2 ∧ Dr c.W g' fd td cl sp more ∧ sp ≤ 22 ∧ more.length ≤ 4 ∧ ToldOk g' (valueAt more) p ∧ Within p 2) (.callF (k := 8) G_made (.var (.var (.cons .int .nil))) fun vs g' nw u z => ?_) (fun us g5 u5 zx => ?_) ok
  · obtain ⟨k2, e⟩ := ats3 z
    subst e
    exact (made_f 2 (by decide) (d4.up ok u) (by decide) (by decide)).imp fun v h' _ zx => by obtain ⟨p, sp, more, d2, h1, h2, ⟨D, pv, lv, rv, k1, e, i, a, b, e2⟩, t, w⟩ := zx; exact ⟨D, _, e, i, ⟨pv, lv, rv, k1, p, sp, more, rfl, a, b, e2, d2, h1, h2, t, w⟩, rfl⟩
  obtain ⟨pv, lv, rv, k1, p, sp, more, rfl, hp, hl, hr, d5, hsp, hmo, tk, wn⟩ := zx
  have rw5 := rw4.up u5 fun _ q => q
  refine .assign (X := DX fd td cl) (P' := fun v h' => ∃ u r D2 pa lv2 k2, v = .ref D2 ∧ IsTup h' D2 [pa, lv2, u, .int ((P.told (labelOf more.length) p.sides.2 r).count : Int) k2].toArray ∧ PaperAt h' pa (.told (labelOf more.length) p.sides.2 r) ∧ TermAt h' u r ∧ r ∈ baseTs ∧ ∃ w, Dr c.W h' fd td cl (sp + 1) (more ++ [(labelOf more.length, w)]) ∧ ToldOk h' (valueAt (more ++ [(labelOf more.length, w)])) (.told (labelOf more.length) p.sides.2 r)) (.callF (k := 4) G_told (.var (.var (.var .nil))) fun vs g' nw u z => by
    rw [z.v3]
    exact (told_f (d5.up ok u) (by omega) (by omega) (hr.sub u.sub)).imp fun v h' _ zx => by obtain ⟨w, r', d3, ⟨D, pa, lv', rv', k3, e, i, a, b, e2⟩, t, hr'⟩ := zx; exact ⟨rv', r', D, pa, lv', k3, e, i, a, e2, hr', w, d3, t⟩) (fun v g6 u6 zx => ?_) ok
  obtain ⟨u2, r2, D2, pa2, lv2, k2, rfl, i2, h2, hu2, hr2, w, d6, t2⟩ := zx
  have rw6 := rw5.up u6 fun _ q => q
  have hm2 : (more ++ [(labelOf more.length, w)]).length ≤ 5 := by rw [List.length_append, List.length_singleton]; omega
  generalize hmm : more ++ [(labelOf more.length, w)] = more2 at *
  refine .assign (X := DX fd td cl) (P' := fun v h' => ∃ q3 D3 p3v lv3 r3v k3 sp3 w3, v = .ref D3 ∧ IsTup h' D3 [p3v, lv3, r3v, .int (q3.count : Int) k3].toArray ∧ PaperAt h' p3v q3 ∧ r2 = q3.sides.1 ∧ TermAt h' r3v q3.sides.2 ∧ Dr c.W h' fd td cl sp3 (more2 ++ [(labelOf more2.length, w3)]) ∧ Good h' (valueAt (more2 ++ [(labelOf more2.length, w3)])) q3 10 10) (.sub (P' := fun u g' => ∃ L v3 v4 w3 r3, u = .ref L ∧ L ∉ c.all ∧ L ∉ DX fd td cl ∧ ListAt g' L [v3, v4] ∧ Made g' v3 (.told (labelOf more2.length) r2 r3) ∧ Made g' v4 (.same r2) ∧ r3 ∈ baseTs ∧ Dr c.W g' fd td cl (sp + 2) (more2 ++ [(labelOf more2.length, w3)]) ∧ ToldOk g' (valueAt (more2 ++ [(labelOf more2.length, w3)])) (.told (labelOf more2.length) r2 r3)) (.listL (P' := fun us g' => ∃ v3 v4 w3 r3, us = [v3, v4] ∧ Made g' v3 (.told (labelOf more2.length) r2 r3) ∧ Made g' v4 (.same r2) ∧ r3 ∈ baseTs ∧ Dr c.W g' fd td cl (sp + 2) (more2 ++ [(labelOf more2.length, w3)]) ∧ ToldOk g' (valueAt (more2 ++ [(labelOf more2.length, w3)])) (.told (labelOf more2.length) r2 r3)) (.cons (P' := fun v3 h' => ∃ w3 r3, Dr c.W h' fd td cl (sp + 1 + 1) (more2 ++ [(labelOf more2.length, w3)]) ∧ Made h' v3 (.told (labelOf more2.length) r2 r3) ∧ ToldOk h' (valueAt (more2 ++ [(labelOf more2.length, w3)])) (.told (labelOf more2.length) r2 r3) ∧ r3 ∈ baseTs) (.callF (k := 4) G_told (.var (.var (.cons (.itemV (i := 2) i2) .nil))) fun vs g' nw u z => by
      rw [z.v3]; exact told_f (d6.up ok u) (by omega) (by omega) (hu2.sub u.sub)) fun v3 g7 u7 zx => by obtain ⟨w3, r3, d7, m3, t3, hr3⟩ := zx; exact .one (.mono0 (.made (p := .same r2) (.tup (.str (.cons (.itemV (i := 2) (u7.sub.tup i2)) .nil)) fun us a h' u nw z i => (show PaperAt h' (.ref a) (.same r2) by obtain ⟨tk, rfl⟩ := z.s1; exact .same i.tup (hu2.sub (u7.sub.trans u.sub)))) (fun g' u => .ofV (.itemV (i := 2) ((u7.sub.trans u.sub).tup i2)) fun h' u' => hu2.sub (u7.sub.trans (u.sub.trans u'.sub))) (fun g' u => .ofV (.itemV (i := 2) ((u7.sub.trans u.sub).tup i2)) fun h' u' => hu2.sub (u7.sub.trans (u.sub.trans u'.sub))) (fun g' u => .int) fun v4 h' u m4 => ⟨v3, v4, w3, r3, rfl, m3.sub u.sub, m4, hr3, d7.up ok u, t3.sub u.sub⟩))) (fun us L g' h' u zx u2 nw eL => by obtain ⟨v3, v4, w3, r3, e, m3, m4, hr3, d7, t3⟩ := zx; exact ⟨L, v3, v4, w3, r3, rfl, nw.f, fun q => (let ⟨_, e⟩ := d7.has L q; nw.ne e rfl), ⟨0, e ▸ eL⟩, m3.sub u2.sub, m4.sub u2.sub, hr3, d7.up ok u2, t3.sub u2.sub⟩) fun us g' zx => by obtain ⟨v3, v4, w3, r3, e, _⟩ := zx; rw [e]; exact Nat.le_of_ble_eq_true rfl) fun u g7 u7 zx => ?_) (fun v g7 u7 zx => ?_) ok
  · obtain ⟨L, v3, v4, w3, r3, rfl, nL, nL2, hL, m3, m4, hr3, d7, t3⟩ := zx
    refine .imp (P' := fun v h' => (∃ r : Nat, (At.i (r : Int)).is v ∧ r < 2) ∧ Dr c.W h' fd td cl (sp + 2 + 1) (more2 ++ [(labelOf more2.length, w3)])) (.draw (V := 2) d7 ok (by omega) G_draw (by decide)) fun v h' u8 zx => ?_
    obtain ⟨⟨r, z, hlt⟩, d8⟩ := zx
    have hL8 := hL.keep u8 fun q => (List.mem_append.mp q).elim nL nL2
    obtain ⟨x, q3, hx, m, e3, g3⟩ : ∃ x q3, [v3, v4][r]? = some x ∧ Made h' x q3 ∧ r2 = q3.sides.1 ∧ Good h' (valueAt (more2 ++ [(labelOf more2.length, w3)])) q3 10 10 := by
      have ts8 := u8.sub
      have : r = 0 ∨ r = 1 := by omega
      rcases this with rfl | rfl
      · exact ⟨v3, _, rfl, m3.sub ts8, rfl, Good.of (Within.told 0 (by have := (base_ok hr2).2; omega) hr3) (by decide) (t3.sub ts8)⟩
      · exact ⟨v4, _, rfl, m4.sub ts8, rfl, Good.of (Within.same 0 hr2) (by decide) (fun x q => nomatch q)⟩
    exact .itemL hL8 nL z hx (by omega) fun h2 u9 => by
      obtain ⟨D3, pv3, lv3, rv3, k3, e4, i, a, _, b⟩ := m.sub u9.sub
      exact ⟨q3, D3, pv3, lv3, rv3, k3, sp + 3, w3, e4, i, a, e3, b, d8.up ok u9, g3.sub u9.sub⟩
  obtain ⟨q3, D3, p3v, lv3, r3v, k3, sp3, w3, rfl, i3, h3, e3, hr3, d7, gq3⟩ := zx
  have rw7 := rw6.up u7 fun _ q => q
  refine .swapE (X := []) (ns := ["judge", "back"]) (t := fun us g' => ∃ J dj bv, us = [.ref J, bv] ∧ J ∉ c.all ∧ dj ∉ c.all ∧ JudgeO g' J dj (.ref dR) (.ref td) ∧ PaperAt g' bv p.turned) (.tupL (P' := fun us g' => ∃ J dj bv, us = [.ref J, bv] ∧ J ∉ c.all ∧ dj ∉ c.all ∧ JudgeO g' J dj (.ref dR) (.ref td) ∧ PaperAt g' bv p.turned) (.cons (P' := fun v g' => Up c [] g7 g' ∧ ∃ J dj, v = .ref J ∧ J ∉ c.all ∧ dj ∉ c.all ∧ JudgeO g' J dj (.ref dR) (.ref td)) (.callF (k := 3) G_Judge (.var (.var .nil)) fun vs g' nw u z => by rw [z.v2]; exact judge_new_f.imp fun v h' k zx => by obtain ⟨J, dj, e, n1, n2, jo⟩ := zx; exact ⟨u.trans (k.mono fun _ q => nomatch q), J, dj, e, (nw J n1).f, (nw dj n2).f, jo⟩) fun v g8 _ zx => by obtain ⟨w8, J, dj, e, a, b, jo⟩ := zx; exact .one (.imp (.callF (k := 2) G_turned (.var .nil) fun vs g' nw u z => by rw [z.v1]; exact turned_f (hp.sub (u6.sub.trans (u7.sub.trans (w8.sub.trans u.sub))))) fun bv h' u z => ⟨J, dj, bv, by rw [e], a, b, jo.at u (nil_ok a) (nil_ok b), z⟩)) (fun us t g' h' u zx u2 _ i => by obtain ⟨J, dj, bv, e, a, b, jo, z⟩ := zx; exact ⟨t, _, rfl, i.tup, ⟨J, dj, bv, e, a, b, jo.at u2 (nil_ok a) (nil_ok b), z.sub u2.sub⟩, by rw [e]; rfl⟩) fun us g' zx => by obtain ⟨J, dj, bv, e, _⟩ := zx; rw [e]; exact Nat.le_of_ble_eq_true rfl) fun us g9 u9 zx => ?_
  obtain ⟨J, dj, bv, rfl, hJ, hj, jo, hb⟩ := zx
  have s79 : TupSub g6 g9 := u7.sub.trans u9.sub
  have s59 : TupSub g5 g9 := u6.sub.trans s79
  refine .tups fun ts => law_tail (q2 := .told (labelOf more.length) p.sides.2 r2) (world_of (rw7.up u9 DX.sub) (d7.up ok u9) ok jo hJ hj ts) Base.hide (hp.sub s59) (Good.of wn (by decide) (by subst hmm; exact ((tk.sub s59).grow _).grow _)) (hl.sub s59) (hr.sub s59) hb (s79.tup i2) (h2.sub s79) (Good.of (Within.told 2 (by have := wn.dr; omega) hr2) (by decide) ((t2.sub s79).grow _)) rfl rfl (u9.sub.tup i3) (h3.sub u9.sub) (gq3.sub u9.sub) e3 (hr3.sub u9.sub)
end
end
section
open PySem PySem.W PyProof.Rows PySem.Calls
theorem post_true (a b : List WData) : PySem.Challenge.rw_pq0047_01.row.claim.post a (WData.bool true) b = true := by
  first
  | with_unfolding_all rfl
  | (simp [PySem.Challenge.rw_pq0047_01]; done)
theorem LD_cell {x : Str} (h : LD.lookup x = some .cell) : False := by
  have a : LD.all (fun p => !(p.2 == .cell)) = true := by rfl
  have := List.all_eq_true.mp a _ (mem_of_lookup h)
  simp at this
local macro_rules | `(tactic| k_qdec) => `(tactic| decide +kernel)
theorem test : PySem.Challenge.rw_pq0047_01.Holds := hd (by
  k_go0
  rename Frag.In _ _ => KX
  rename Top _ _ _ _ _ _ => TP
  rename IntsAre _ _ => hI
  rename Heap.IsList _ _ _ => hS
  rename Fr _ _ _ _ => F
  rename ¬ (_ < _) => hlen
  rename _ = #[] => hg
  have TX := topRead_of TP
  have G : Gd _ _ _ _ := ⟨KX, TX⟩
  have hrC : Room callerA 28 := ⟨by decide, by decide, rfl⟩
  refine (law_x (c := { W := ⟨_, _, _, _, G⟩, A := _, L := _, cs := [], more := (dr 31).scope.more, qual := _, func := _, code := _, frame := _, X := [], b := _, up := StaysIn.refl _, xs := fun _ q => (nomatch q), fs := fun a q => by rw [List.mem_singleton.mp q]; exact size_none _, ap := .nil, ab := fun _ _ q => (nomatch q), nd := fun _ _ q => (nomatch q), hc := fun x q => (LD_cell q).elim, room := Room.deeper hrC }) (fun a o e q => ?_) hS hI (by omega)).run _ _ _ ⟨Kp.of F.keep, Kp.of F.keep, ⟨⟨_, F.ns, fun y v e _ => e⟩, fun _ _ q => (nomatch q)⟩⟩ (fun v h' d' tk' k z => ?_) fun _ _ _ _ _ _ z => z.elim
  · have q := List.mem_singleton.mp q
    subst q
    exact absurd ((size_none _).symm.trans e) (fun z => nomatch z)
  · subst z
    exact ⟨.inl ⟨.bool true, .bool true, [], rfl, fun _ => rfl, .bool true, post_true _ _, fun _ => ⟨.nil, fun _ q => nomatch q⟩⟩, fun b o e => k b o (fun q => nomatch q) e, rfl, hg⟩)
end
end Mine
theorem PySem.Challenge.cw_pq0047_01_holds : PySem.Challenge.rw_pq0047_01.Holds :=
  Mine.test
