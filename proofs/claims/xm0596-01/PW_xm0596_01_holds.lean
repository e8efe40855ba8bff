import PyProof.Rows.All
import Wide.All
import OpenK.AllK
import Wide.FinOn
import PySem.Challenge.RW_xm0596_01
set_option Elab.async false
set_option linter.unusedVariables false
section
open PySem PySem.W PyProof.Rows
set_option maxRecDepth 100000
namespace Mine
noncomputable def kSt (pr : Program) (i : Nat) : Stmt := pr.main.body.getD i (.Pass ⟨0, 0, 0, 0⟩)
noncomputable def kMeth (pr : Program) (i : Nat) : Stmt := match kSt pr i with
 | .ClassDef (body := b) .. => (b.find? λs => match s with | .FunctionDef .. => true | _ => false).getD (.Pass ⟨0, 0, 0, 0⟩)
 | s => s
noncomputable def kFn (st : Stmt) (nm qn : String) (df : Value) (md : String) (mt : Tok) (cd : Addr) : Obj := match st with
 | .FunctionDef (args := ar) (body := b) (scope := sc) .. => { cls := .type "function", data := .func { name := nm, qualname := qn, params := ar, body := .stmts b, scope := sc, globals := 3, closure := [], defaults := df, kwdefaults := .none, pyModule := .str md mt, code := .ref cd } }
 | _ => default
noncomputable def kCode (nm : String) (t0 : Tok) (qn : String) (t1 t2 : Tok) (line pc fl : Int) (names tab : Addr) (v1 v2 : Value) (r : Addr) (lt : Int) (t3 : Tok) : Obj :=
 { cls := .type "code", data := .fields #[.str nm t0, .str qn t1, .str "/claim/cut.py" t2, .int line 0, .int pc 0, .int 0 0, .int 0 0, .int fl 0, .ref names, .bool true, .int 181 0, .ref tab, .none, v1, v2, .ref r, .int lt 0, .int line 0, .str "/claim/cut.py" t3] }
noncomputable def kE (P : Params) (x : String) (t : Tok) (v : Value) : DictEntry := { hash := PyData.keyHash P x, key := .str x t, val := v }
noncomputable def heapK (pr : Program) (P : Params) : Frag := [
  (3, { cls := .type "dict", data := .dict #[kE P "__name__" 165 (.str (Str.ofString "law_xm0596_01") 500),
   kE P "__doc__" 166 (.none),
   kE P "__package__" 167 (.none),
   kE P "__loader__" 168 (.builtin "__main__.__loader__#opaque"),
   kE P "__spec__" 169 (.none),
   kE P "__annotations__" 170 (.ref 6),
   kE P "__builtins__" 171 (.ref 4),
   kE P "__file__" 173 (.str (Str.ofString "/claim/cut.py") 172),
   kE P "__cached__" 174 (.none),
   kE P "_wall" 193 (.ref 21),
   kE P "LendError" 227 (.ref 39),
   kE P "TypeFault" 243 (.ref 52),
   kE P "parts_of" 253 (.ref 61),
   kE P "rebuilt" 262 (.ref 68),
   kE P "substituted" 268 (.ref 73),
   kE P "with_regions" 274 (.ref 78),
   kE P "regions_in" 283 (.ref 85),
   kE P "params_in" 293 (.ref 92),
   kE P "field_rows" 302 (.ref 99),
   kE P "fields_of" 308 (.ref 104),
   kE P "MOST_TYPES" 312 (.int 4000 311),
   kE P "implied" 318 (.ref 109),
   kE P "asked_of" 324 (.ref 114),
   kE P "param_regions" 330 (.ref 119),
   kE P "Adt" 374 (.ref 138),
   kE P "Sig" 417 (.ref 159),
   kE P "TraitRow" 452 (.ref 180),
   kE P "World" 499 (.ref 209),
   kE P "_law_pool" 510 (.ref 220),
   kE P "_law_take" 519 (.ref 227),
   kE P "_law_one" 527 (.ref 234),
   kE P "_law_world" 538 (.ref 241),
   kE P "_law_regions" 544 (.ref 248),
   kE P "_law_type" 555 (.ref 255),
   kE P "_law_below" 563 (.ref 262),
   kE P "_law_reached" 573 (.ref 269),
   kE P "_law_within" 583 (.ref 276),
   kE P "_law_implied_right" 589 (.ref 281),
   kE P "_law_sig" 596 (.ref 288),
   kE P "_law_asked_right" 602 (.ref 293),
   kE P "law" 608 (.ref 298)] 41 }),
  (60, kCode "parts_of" 246 "parts_of" 247 248 14 1 3 55 56 (.ref 57) (.ref 58) 59 251 252),
  (61, kFn (kSt pr 5) "parts_of" "parts_of" .none "lendcore.types" 244 60),
  (67, kCode "rebuilt" 254 "rebuilt" 255 256 23 2 3 62 63 (.ref 64) (.ref 65) 66 260 261),
  (68, kFn (kSt pr 6) "rebuilt" "rebuilt" .none "lendcore.types" 244 67),
  (72, kCode "substituted" 263 "substituted" 264 265 34 2 3 69 70 .none .none 71 266 267),
  (73, kFn (kSt pr 7) "substituted" "substituted" .none "lendcore.types" 244 72),
  (77, kCode "with_regions" 269 "with_regions" 270 271 38 2 3 74 75 .none .none 76 272 273),
  (78, kFn (kSt pr 8) "with_regions" "with_regions" .none "lendcore.types" 244 77),
  (84, kCode "regions_in" 275 "regions_in" 276 277 44 1 3 79 80 (.ref 81) (.ref 82) 83 281 282),
  (85, kFn (kSt pr 9) "regions_in" "regions_in" .none "lendcore.types" 244 84),
  (91, kCode "params_in" 284 "params_in" 285 286 52 1 3 86 87 (.ref 88) (.ref 89) 90 291 292),
  (92, kFn (kSt pr 10) "params_in" "params_in" .none "lendcore.types" 244 91),
  (98, kCode "field_rows" 294 "field_rows" 295 296 61 3 3 93 94 (.ref 95) (.ref 96) 97 300 301),
  (99, kFn (kSt pr 11) "field_rows" "field_rows" .none "lendcore.types" 244 98),
  (103, kCode "fields_of" 303 "fields_of" 304 305 63 3 3 100 101 .none .none 102 306 307),
  (104, kFn (kSt pr 12) "fields_of" "fields_of" .none "lendcore.types" 244 103),
  (108, kCode "implied" 313 "implied" 314 315 77 2 3 105 106 .none .none 107 316 317),
  (109, kFn (kSt pr 15) "implied" "implied" .none "lendcore.owed" 309 108),
  (113, kCode "asked_of" 319 "asked_of" 320 321 91 4 3 110 111 .none .none 112 322 323),
  (114, kFn (kSt pr 16) "asked_of" "asked_of" .none "lendcore.owed" 309 113),
  (118, kCode "param_regions" 325 "param_regions" 326 327 100 1 3 115 116 .none .none 117 328 329),
  (119, kFn (kSt pr 17) "param_regions" "param_regions" .none "lendcore.owed" 309 118),
  (128, { cls := Value.type "tuple", data := Data.seq #[Value.str (Str.ofString "") 345, Value.ref 127] }),
  (134, kCode "__init__" 346 "Adt.__init__" 347 348 105 8 3 129 130 (.ref 131) (.ref 132) 133 357 358),
  (135, kFn (kMeth pr 19) "__init__" "Adt.__init__" (.ref 128) "lendcore.world" 331 134),
  (137, { cls := .type "dict", data := .dict #[kE P "__module__" 340 (.str (Str.ofString "lendcore.world") 331),
   kE P "__firstlineno__" 344 (.int 103 343),
   kE P "__init__" 359 (.ref 135),
   kE P "__static_attributes__" 367 (.ref 136),
   kE P "__dict__" 369 (.ref 139),
   kE P "__weakref__" 371 (.ref 140),
   kE P "__doc__" 372 (.none)] 4 }),
  (138, { cls := Value.type "type", data := Data.cls { name := Str.ofString "Adt", bases := [Value.type "object"], mro := [Value.ref 138, Value.type "object"], ns := 137, qualname := Str.ofString "Adt" }, slots := #[none, none, some (Value.str (Str.ofString "Adt") 333), some (Value.str (Str.ofString "Adt") 341), some (Value.builtin "object.__new__"), some (Value.bool true)] }),
  (155, kCode "__init__" 387 "Sig.__init__" 388 389 115 9 3 150 151 (.ref 152) (.ref 153) 154 399 400),
  (156, kFn (kMeth pr 20) "__init__" "Sig.__init__" .none "lendcore.world" 331 155),
  (158, { cls := .type "dict", data := .dict #[kE P "__module__" 382 (.str (Str.ofString "lendcore.world") 331),
   kE P "__firstlineno__" 386 (.int 113 385),
   kE P "__init__" 401 (.ref 156),
   kE P "__static_attributes__" 410 (.ref 157),
   kE P "__dict__" 412 (.ref 160),
   kE P "__weakref__" 414 (.ref 161),
   kE P "__doc__" 415 (.none)] 4 }),
  (159, { cls := Value.type "type", data := Data.cls { name := Str.ofString "Sig", bases := [Value.type "object"], mro := [Value.ref 159, Value.type "object"], ns := 158, qualname := Str.ofString "Sig" }, slots := #[none, none, some (Value.str (Str.ofString "Sig") 375), some (Value.str (Str.ofString "Sig") 383), some (Value.builtin "object.__new__"), some (Value.bool true)] }),
  (176, kCode "__init__" 430 "TraitRow.__init__" 431 432 126 5 3 171 172 (.ref 173) (.ref 174) 175 438 439),
  (177, kFn (kMeth pr 21) "__init__" "TraitRow.__init__" .none "lendcore.world" 331 176),
  (179, { cls := .type "dict", data := .dict #[kE P "__module__" 425 (.str (Str.ofString "lendcore.world") 331),
   kE P "__firstlineno__" 429 (.int 124 428),
   kE P "__init__" 440 (.ref 177),
   kE P "__static_attributes__" 445 (.ref 178),
   kE P "__dict__" 447 (.ref 181),
   kE P "__weakref__" 449 (.ref 182),
   kE P "__doc__" 450 (.none)] 4 }),
  (180, { cls := Value.type "type", data := Data.cls { name := Str.ofString "TraitRow", bases := [Value.type "object"], mro := [Value.ref 180, Value.type "object"], ns := 179, qualname := Str.ofString "TraitRow" }, slots := #[none, none, some (Value.str (Str.ofString "TraitRow") 418), some (Value.str (Str.ofString "TraitRow") 426), some (Value.builtin "object.__new__"), some (Value.bool true)] }),
  (192, { cls := Value.type "tuple", data := Data.seq #[Value.none] }),
  (198, kCode "__init__" 465 "World.__init__" 466 467 133 2 3 193 194 (.ref 195) (.ref 196) 197 470 471),
  (199, kFn (kMeth pr 22) "__init__" "World.__init__" (.ref 192) "lendcore.world" 331 198),
  (208, { cls := .type "dict", data := .dict #[kE P "__module__" 460 (.str (Str.ofString "lendcore.world") 331),
   kE P "__firstlineno__" 464 (.int 131 463),
   kE P "__init__" 472 (.ref 199),
   kE P "is_field_seen" 483 (.ref 206),
   kE P "__static_attributes__" 492 (.ref 207),
   kE P "__dict__" 494 (.ref 210),
   kE P "__weakref__" 496 (.ref 211),
   kE P "__doc__" 497 (.none)] 4 }),
  (209, { cls := Value.type "type", data := Data.cls { name := Str.ofString "World", bases := [Value.type "object"], mro := [Value.ref 209, Value.type "object"], ns := 208, qualname := Str.ofString "World" }, slots := #[none, none, some (Value.str (Str.ofString "World") 453), some (Value.str (Str.ofString "World") 461), some (Value.builtin "object.__new__"), some (Value.bool true)] }),
  (219, kCode "_law_pool" 502 "_law_pool" 503 504 146 1 3 214 215 (.ref 216) (.ref 217) 218 508 509),
  (220, kFn (kSt pr 24) "_law_pool" "_law_pool" .none "law_xm0596_01" 500 219),
  (226, kCode "_law_take" 511 "_law_take" 512 513 150 2 3 221 222 (.ref 223) (.ref 224) 225 517 518),
  (227, kFn (kSt pr 25) "_law_take" "_law_take" .none "law_xm0596_01" 500 226),
  (233, kCode "_law_one" 520 "_law_one" 521 522 157 2 3 228 229 (.ref 230) (.ref 231) 232 525 526),
  (234, kFn (kSt pr 26) "_law_one" "_law_one" .none "law_xm0596_01" 500 233),
  (240, kCode "_law_world" 528 "_law_world" 529 530 159 0 3 235 236 (.ref 237) (.ref 238) 239 536 537),
  (241, kFn (kSt pr 27) "_law_world" "_law_world" .none "law_xm0596_01" 500 240),
  (247, kCode "_law_regions" 539 "_law_regions" 540 541 168 0 3 242 243 (.ref 244) (.ref 245) 246 542 543),
  (248, kFn (kSt pr 28) "_law_regions" "_law_regions" .none "law_xm0596_01" 500 247),
  (254, kCode "_law_type" 545 "_law_type" 546 547 170 2 3 249 250 (.ref 251) (.ref 252) 253 553 554),
  (255, kFn (kSt pr 29) "_law_type" "_law_type" .none "law_xm0596_01" 500 254),
  (261, kCode "_law_below" 556 "_law_below" 557 558 184 1 3 256 257 (.ref 258) (.ref 259) 260 561 562),
  (262, kFn (kSt pr 30) "_law_below" "_law_below" .none "law_xm0596_01" 500 261),
  (268, kCode "_law_reached" 564 "_law_reached" 565 566 199 1 3 263 264 (.ref 265) (.ref 266) 267 571 572),
  (269, kFn (kSt pr 31) "_law_reached" "_law_reached" .none "law_xm0596_01" 500 268),
  (275, kCode "_law_within" 574 "_law_within" 575 576 206 1 3 270 271 (.ref 272) (.ref 273) 274 581 582),
  (276, kFn (kSt pr 32) "_law_within" "_law_within" .none "law_xm0596_01" 500 275),
  (280, kCode "_law_implied_right" 584 "_law_implied_right" 585 586 220 2 3 277 278 .none .none 279 587 588),
  (281, kFn (kSt pr 33) "_law_implied_right" "_law_implied_right" .none "law_xm0596_01" 500 280),
  (287, kCode "_law_sig" 590 "_law_sig" 591 592 227 1 3 282 283 (.ref 284) (.ref 285) 286 594 595),
  (288, kFn (kSt pr 34) "_law_sig" "_law_sig" .none "law_xm0596_01" 500 287),
  (292, kCode "_law_asked_right" 597 "_law_asked_right" 598 599 229 4 3 289 290 .none .none 291 600 601),
  (293, kFn (kSt pr 35) "_law_asked_right" "_law_asked_right" .none "law_xm0596_01" 500 292),
  (297, kCode "law" 603 "law" 604 605 244 1 3 294 295 .none .none 296 606 607),
  (298, kFn (kSt pr 36) "law" "law" .none "law_xm0596_01" 500 297)]
end Mine
end
section
open PySem PySem.W PyProof.Rows
set_option maxRecDepth 100000
set_option maxHeartbeats 8000000
namespace Mine
theorem ws_look : looksOpen PySem.Challenge.rw_xm0596_01.row.prog = true := by
 rw [PySem.W.Fast.te12908688711261696721]
 kernel_rfl
theorem ws_row : PySem.Challenge.rw_xm0596_01.row.wellSaid = true := by
 unfold OpenRow.wellSaid OpenRow.partSaid
 rw [ws_look]
 kernel_rfl
theorem wellsaid : PySem.Challenge.rw_xm0596_01.wellSaid = true := by
 unfold OpenLaw.wellSaid
 rw [ws_row, PySem.W.Fast.te8326940854005059898, PySem.W.Fast.te17119622794617984870]
 kernel_rfl
theorem entry (h : PySem.Challenge.rw_xm0596_01.row.wellSaid = true -> PySem.Challenge.rw_xm0596_01.row.Holds) : PySem.Challenge.rw_xm0596_01.Holds := by
 w_on
 exact holds_law wellsaid h
noncomputable def runT (st : SharedT -> Thread -> Option (SharedT × Thread)) (ok : Thread -> Bool) : Nat -> SharedT -> Thread -> Option SharedT
 | 0, _, _ => none
 | n + 1, s, t => match through t with
  | true => some s
  | false => match ok t with
   | false => none
   | true => match st s t with
    | some (s', t') => runT st ok n s' t'
    | none => none
theorem runT_of {tb : String -> Option Builtin} {p : Program} {w : World} {n₀ : Nat} {ann : Option Value} : ∀ {n : Nat} {s s' : SharedT} {t : Thread}, runT (stepT (denote tb) p w) (stepOk n₀ ann) n s t = some s' -> topRun tb p w n₀ ann n s.abs t = some s'.abs
 | 0, _, _, _, h => nomatch h
 | n + 1, s, s', t, h => by
  unfold runT at h
  unfold topRun
  cases ht : through t with
  | true => rw [ht] at h; cases h; rfl
  | false =>
   rw [ht] at h
   cases hk : stepOk n₀ ann t with
   | false => rw [hk] at h; cases h
   | true =>
    rw [hk] at h
    cases hs : stepT (denote tb) p w s t with
    | none => rw [hs] at h; cases h
    | some r => obtain ⟨s₂, t₂⟩ := r; rw [hs] at h; rw [stepT_spec hs]; exact runT_of h
noncomputable def insL : List Obj -> Nat -> BT -> BT
 | [], _, t => t
 | o :: l, n, t => insL l (n + 1) (t.ins n o)
noncomputable def bootT (w : World) (os : OsState) : SharedT := ⟨insL (boot_heap w.params).objs.toList 0 .nil, 11, (boot_heap w.params).life, ⟨[]⟩, boot_drawn, boot_toks, os⟩
theorem bootT_abs (w : World) (os : OsState) : (bootT w os).abs = ⟨boot_heap w.params, ⟨[]⟩, boot_drawn, boot_toks, os⟩ := by kernel_rfl
abbrev pwL : Program := PySem.Challenge.pw_xm0596_01
noncomputable def keepL : List Nat := [0, 2, 3, 5, 6, 7, 8, 9, 10, 11, 12, 14, 15, 16, 17, 19, 20, 21, 22, 24, 25, 26, 27, 28, 29, 30, 31, 32, 33, 34, 35, 36]
noncomputable def addrsL : List Addr := [3, 60, 61, 67, 68, 72, 73, 77, 78, 84, 85, 91, 92, 98, 99, 103, 104, 108, 109, 113, 114, 118, 119, 128, 134, 135, 137, 138, 155, 156, 158, 159, 176, 177, 179, 180, 192, 198, 199, 208, 209, 219, 220, 226, 227, 233, 234, 240, 241, 247, 248, 254, 255, 261, 262, 268, 269, 275, 276, 280, 281, 287, 288, 292, 293, 297, 298]
noncomputable def looseL : List Str := [Str.ofString "LendError", Str.ofString "Adt"]
noncomputable def looseT : List Str := [⟨#[76, 101, 110, 100, 69, 114, 114, 111, 114]⟩, ⟨#[65, 100, 116]⟩]
theorem loose_eq : looseL = looseT := by kernel_rfl
theorem left_tw (w : World) (os : OsState) : (runT (PySem.W.Fast.tw10156331382660048174 (PySem.W.Fast.tw11892475500146522536 PySem.W.Fast.tw14364793385576792824) pwL w) (PySem.W.Fast.tw6613529449190102663 11 (some (.ref 6))) 4512 (bootT w os) (topStub pwL)).map (fun s => ((staticsOk (PySem.W.Fast.tw5923862056798008813 pwL.main.body) (boot_heap w.params) s.abs.heap && namesBound pwL s.abs.heap && gensDone s.abs && laidKept (boot_heap w.params) s.abs.heap), PySem.W.Fast.tw4187177175401517315 (view pwL keepL) looseT (PySem.W.Fast.tw5923862056798008813 pwL.main.body) (fun s => xlAt (view pwL keepL) [] s && recOk [] s) true s.abs, (addrsL.map s.abs.heap.get?, ([101, 80] : List Addr).map s.abs.heap.get?))) =
  some (true, openGood (view pwL keepL) looseT, ((heapK pwL w.params).map λp => some p.2, ([101, 80] : List Addr).map λ_ => some (tabObj #[]))) := by kernel_rfl
noncomputable def heapL (P : Params) : Frag := heapK pwL P
noncomputable def hookL : Hook := kmHook heapL addrsL (λP => by kernel_rfl) [101, 80]
noncomputable def qv : Program := view pwL keepL
theorem boot_size (w : World) : ((boot_heap w.params).isNs mainGlobals && (Array.mk [] : Array GenState).size == 0, (boot_heap w.params).objs.size, (boot_heap w.params).nsMap mainGlobals "__annotations__") = (true, 11, some (.ref 6)) := by kernel_rfl
theorem boot_e : opening pwL = plainProg pwL.main.scope.names := by kernel_rfl
theorem boot_f (s : Shared) : fenceModules? pwL s = some s := by kernel_rfl
noncomputable abbrev lookL (w : World) (s : Shared) : Bool := staticsOk (importedModules pwL.main.body) (boot_heap w.params) s.heap && namesBound pwL s.heap && gensDone s && laidKept (boot_heap w.params) s.heap
theorem left_o (w : World) (os : OsState) : ∃ s, topRun treeTable pwL w 11 (some (.ref 6)) 4512 ⟨boot_heap w.params, ⟨[]⟩, boot_drawn, boot_toks, os⟩ (topStub pwL) = some s ∧ lookL w s = true ∧
  (openSeen (view pwL keepL) looseL (importedModules pwL.main.body) (λs => xlAt (view pwL keepL) [] s && recOk [] s) true s, (addrsL.map s.heap.get?, ([101, 80] : List Addr).map s.heap.get?)) = (openGood (view pwL keepL) looseL, ((heapK pwL w.params).map λp => some p.2, ([101, 80] : List Addr).map λ_ => some (tabObj #[]))) := by
 have h := left_tw w os
 rw [<- PySem.W.Fast.te10156331382660048174, <- PySem.W.Fast.te11892475500146522536, <- PySem.W.Fast.te14364793385576792824, <- PySem.W.Fast.te6613529449190102663, <- PySem.W.Fast.te4187177175401517315, <- PySem.W.Fast.te5923862056798008813, <- loose_eq] at h
 obtain ⟨s, r, l⟩ := Option.map_eq_some_iff.mp h
 have r := runT_of r
 rw [bootT_abs] at r
 obtain ⟨l1, l2⟩ := Prod.mk.inj l
 exact ⟨s.abs, r, l1, l2⟩
theorem top_of {p : Program} {w : World} {N m : Nat} {ann : Option Value} {s s₁ : Shared} (z : (s.heap.isNs mainGlobals && s.gens.size == 0, s.heap.objs.size, s.heap.nsMap mainGlobals "__annotations__") = (true, m, ann)) (r : topRun treeTable p w m ann N s (topStub p) = some s₁)
  (l : (staticsOk (importedModules p.main.body) s.heap s₁.heap && namesBound p s₁.heap && gensDone s₁ && laidKept s.heap s₁.heap) = true) : topFrom treeTable p w N s = some s₁ := by
 obtain ⟨z1, z⟩ := Prod.mk.inj z
 obtain ⟨z2, z3⟩ := Prod.mk.inj z
 unfold topFrom
 rw [z1, z2, z3, r]
 show (match staticsOk _ _ _ && namesBound _ _ && gensDone _ && laidKept _ _ with | true => _ | false => _) = _
 rw [l]
theorem ends_of {p : Program} {w : World} {N : Nat} {H : Heap} {g : Array GenState} {d : Drawn} {k : Nat} {α : Type} {f : Shared → α} {y : α} (o : (fencedOpening treeTable p w N).map (fun s => (s.heap, s.gens, s.drawn, s.toks)) = some (H, g, d, k))
  (h : ∀ os, ∃ s, topFrom treeTable p w N ⟨H, g, d, k, os⟩ = some s /\ f s = y) : (openEnds treeTable p w N).map f = some y := by
 obtain ⟨⟨h', gs', d', k', os⟩, e, e'⟩ := Option.map_eq_some_iff.mp o
 cases e'
 obtain ⟨s, t, l⟩ := h os
 unfold openEnds
 rw [e]
 show (topFrom treeTable p w N _).map _ = _
 rw [t]
 exact congrArg some l
theorem left : LeftO pwL qv looseL (λs => xlAt qv [] s && recOk (RowW.records PySem.Challenge.rw_xm0596_01.row.toRowW) s) (Hook.obs hookL) (Hook.val hookL) 4512 := λw =>
 ends_of (boot_open boot_e rfl boot_f w) λos => let ⟨s, r, l1, l2⟩ := left_o w os; ⟨s, top_of (boot_size w) r l1, l2⟩
noncomputable def lawRec : DefRec := match kSt pwL 36 with
 | .FunctionDef (name := n) (args := a) (body := b) (scope := sc) (pos := p) .. => ⟨n, a, b, sc, p⟩
 | _ => ⟨"", ⟨[], [], none, [], [], none, []⟩, [], default, ⟨0, 0, 0, 0⟩⟩
theorem law_holds (walk : WalkO qv looseL (XL qv []) (Hook.says hookL) PySem.Challenge.rw_xm0596_01.row.toRowW lawRec [] λf vs => PySem.call f vs) : PySem.Challenge.rw_xm0596_01.Holds := entry λsaid => by
 refine holds_open (q := qv) (loose := looseL) (Xt := λs => xlAt qv [] s && recOk (RowW.records PySem.Challenge.rw_xm0596_01.row.toRowW) s) (XP := XL qv []) (Yf := Hook.obs hookL) (Ya := Hook.val hookL) (YP := Hook.says hookL) (N := 4512) (d := lawRec) (kwd := []) left (Hook.of hookL) (Hook.keeps hookL) (λs e => xl_of s (Bool.and_eq_true_iff.mp e).1) XL.keeps (by kernel_rfl) (by kernel_rfl) (by kernel_rfl) (λs e => recFacts_of (Bool.and_eq_true_iff.mp e).2) (by rfl) said (by decide +kernel) ⟨rfl, rfl, rfl, rfl, rfl, by decide +kernel⟩ ?hw walk
 w_witness2
end Mine
end
section
open PySem PySem.W PySem.Calls PyProof.Rows
namespace Mine
inductive Tag where
 | no | fz | fr | ce (x : Nat) | ol (x : Nat) | src | ad | tr | tb | ac
 deriving DecidableEq
inductive D where
 | none
 | bool (b : Bool)
 | int (i : Int)
 | str (k : Nat)
 | tup (ds : List D)
 | list (ds : List D)
 | dict (ks : List Nat) (ds : List D)
 | inst (c : Addr) (ks : List Nat) (ds : List D)
 | src | adts | trs
 | clo (k : Nat) (d : D)
 | rng (n : Nat)
 | acc
noncomputable def sL : List String := ["bool", "param", "ref", "box", "array", "tuple", "adt", "T", "U", "'a", "'b", "'static", "'r", "'s", "S", "E", "L", "A", "B", "a", "b", "0", "1", "named", "unit", "places", "method", "fn", "f", "m", "M", "N", "O", "P", "Q", "X", "Self", "Y", "Z"]
noncomputable def sN (k : Nat) : Str := Str.ofString (sL.getD k "")
theorem sN_inj : ∀ {i j : Nat}, i < 39 -> j < 39 -> (sN i == sN j) = (i == j) := by
 have : ∀ i < 39, ∀ j < 39, (sN i == sN j) = (i == j) := by decide +kernel
 exact λ{i j} hi hj => this i hi j hj
noncomputable def vL : List String := ["told", "kind", "parts", "table", "part", "change", "region", "found", "noted", "left", "here", "variant", "world", "adt", "types", "regions", "put_in", "name", "met", "many", "inner", "callee", "sig", "traits", "trait", "row", "at", "source", "top", "drawn", "things", "deep", "way", "t", "other", "due", "pair", "turn", "own", "params", "numbers", "k", "script", "cell", "great", "T", "fields", "far"]
noncomputable def vN (i : Nat) : Str := Str.ofString (vL.getD i "")
noncomputable def aL : List String := ["adts", "traits", "params", "regions", "variants", "path", "module", "publics", "is_enum", "own", "inputs", "output", "self_kind", "has_body", "methods", "defaults", "modules", "sigs", "impls", "consts", "bodies"]
noncomputable def aN (i : Nat) : Str := Str.ofString (aL.getD i "")
noncomputable def fL : List String := ["parts_of", "rebuilt", "substituted", "with_regions", "regions_in", "params_in", "field_rows", "fields_of", "implied", "asked_of", "param_regions", "_law_take", "_law_one", "_law_regions", "_law_type", "_law_below", "_law_reached", "_law_within", "_law_implied_right", "_law_sig", "_law_asked_right", "World", "Adt", "Sig", "TraitRow", "_law_pool", "_law_world", "law"]
noncomputable def fN (i : Nat) : Str := Str.ofString (fL.getD i "")
def clsOk (K : Frag) (c : Addr) : Prop := hasDictIn K c = true /\ plainGet K c (aN 0) = true /\ ∀ x, x < 21 -> ∃ attr, findIn K (.ref c) (aN x) = some attr /\ noGet K attr = true
structure Gh where
 prog : Program
 K : Frag
 tab : Addr -> Option Str
 fa : Nat -> Addr
 mg : Str -> Option Value
 mb : Str -> Option Value
 extIs : Nat -> Scope -> Expr -> List Nat -> Prop
 sxIs : Nat -> Scope -> Stmt -> Prop
 w : World
 h₀ : Heap
 isClo : Nat -> FuncData -> Addr -> Prop
def FieldsAre (ks : List Nat) (vs : List Value) (es : List DictEntry) : Prop := ∀ (i k : Nat) (v : Value), ks[i]? = some k -> vs[i]? = some v -> getL (aN k) es = some (some v)
def CodeFz (h : Heap) (own : Addr -> Tag) (cd : Value) (q : Str) : Prop := ∃ c o vs t, cd = .ref c /\ own c = .fz /\ h.get? c = some o /\ o.data = .fields vs /\ vs[1]? = some (.str q t)
mutual
inductive At (g : Gh) (h : Heap) (own : Addr -> Tag) : Value -> D -> Prop
 | none : At g h own .none .none
 | bool (b : Bool) : At g h own (.bool b) (.bool b)
 | int (i : Int) (t : Tok) : At g h own (.int i t) (.int i)
 | str {k : Nat} {x : Str} (hk : k < 39) (hx : x = sN k) (t : Tok) : At g h own (.str x t) (.str k)
 | tup {a : Addr} {vs : List Value} {ds : List D} : own a = .fz -> h.IsTuple a vs.toArray -> AtL g h own vs ds -> At g h own (.ref a) (.tup ds)
 | list {a : Addr} {vs : List Value} {ds : List D} : own a = .fz -> h.PlainList a vs.toArray -> AtL g h own vs ds -> At g h own (.ref a) (.list ds)
 | dict {a : Addr} {ks : List Nat} {vs : List Value} {ds : List D} : own a = .fz -> (a == sysModules) = false -> (∀ k ∈ ks, k < 39) -> ks.length = vs.length -> h.DictOf (strKind g.prog g.w) a ((ks.map sN).zip vs) -> AtL g h own vs ds -> At g h own (.ref a) (.dict ks ds)
 | inst {a dx c : Addr} {ks : List Nat} {vs : List Value} {ds : List D} {es : List DictEntry} {n : Nat} {sl : Array (Option Value)} : clsOk g.K c → (∀ x ∈ ks, x < 21) → own a = .fz → own dx = .fz → h.get? a = some ⟨.ref c, some dx, .plain, sl⟩ → h.get? dx = some (dictOf es n) → FieldsAre ks vs es → (∀ v ∈ vs, handedIn v = true) →
   ks.length = vs.length -> AtL g h own vs ds -> At g h own (.ref a) (.inst c ks ds)
 | clo {fa c : Addr} {fo oc : Obj} {fd : FuncData} {k : Nat} {v : Value} {d : D} : own fa = .fz → h.get? fa = some fo → fo.data = .func fd → g.isClo k fd c → own c = .fz → h.get? c = some oc → oc.data = .cell (some v) → CodeFz h own fd.code fd.qualname → At g h own v d →
   At g h own (.ref fa) (.clo k d)
 | src {a : Addr} : own a = .src -> At g h own (.ref a) .src
 | adts {a : Addr} : own a = .ad -> At g h own (.ref a) .adts
 | trs {a : Addr} : own a = .tr -> At g h own (.ref a) .trs
 | rng {a : Addr} {n : Nat} {t u v : Tok} : own a = .fz -> IsRange h a 0 n 1 t u v -> At g h own (.ref a) (.rng n)
 | acc {a : Addr} : own a = .ac -> At g h own (.ref a) .acc
inductive AtL (g : Gh) (h : Heap) (own : Addr -> Tag) : List Value -> List D -> Prop
 | nil : AtL g h own [] []
 | cons {v : Value} {vs : List Value} {d : D} {ds : List D} : At g h own v d -> AtL g h own vs ds -> AtL g h own (v :: vs) (d :: ds)
end
def Le (h h' : Heap) (own own' : Addr -> Tag) : Prop :=
 (∀ a o, own a = .fz -> h.get? a = some o -> h'.get? a = some o) /\ (∀ a, own a = .fz -> own' a = .fz) /\ (∀ a, own a = .src -> own' a = .src) /\ (∀ a, own a = .ad -> own' a = .ad) /\ (∀ a, own a = .tr -> own' a = .tr) /\ (∀ a, own a = .ac -> own' a = .ac)
section
variable {g : Gh} {h h' : Heap} {own own' : Addr -> Tag}
theorem CodeFz.mono (l : Le h h' own own') {cd : Value} {q : Str} (z : CodeFz h own cd q) : CodeFz h' own' cd q :=
 z.elim λc z => z.elim λo z => z.elim λvs z => z.elim λt z => ⟨c, o, vs, t, z.1, l.2.1 _ z.2.1, l.1 _ _ z.2.1 z.2.2.1, z.2.2.2⟩
theorem tup_keep {a : Addr} {xs : Array Value} (k : ∀ o, h.get? a = some o -> h'.get? a = some o) (z : h.IsTuple a xs) : h'.IsTuple a xs := z.elim λo r => ⟨o, k _ r.1, r.2⟩
theorem list_keep {a : Addr} {xs : Array Value} (k : ∀ o, h.get? a = some o -> h'.get? a = some o) (z : h.IsList a xs) : h'.IsList a xs := z.elim λo r => ⟨o, k _ r.1, r.2⟩
theorem plist_keep {a : Addr} {xs : Array Value} (k : ∀ o, h.get? a = some o -> h'.get? a = some o) (z : h.PlainList a xs) : h'.PlainList a xs := z.elim λn r => ⟨n, k _ r⟩
theorem dict_keep {g : Gh} {a : Addr} {m : List (Str × Value)} (k : ∀ o, h.get? a = some o -> h'.get? a = some o) (z : h.DictOf (strKind g.prog g.w) a m) : h'.DictOf (strKind g.prog g.w) a m := z.elim λo r => r.elim λes r => r.elim λep r => ⟨o, es, ep, k _ r.1, r.2⟩
theorem ns_keep {a : Addr} {m : Str -> Option Value} (k : ∀ o, h.get? a = some o -> h'.get? a = some o) (z : h.Ns a m) : h'.Ns a m := z.elim λo r => r.elim λes r => r.elim λep r => ⟨o, es, ep, k _ r.1, r.2⟩
theorem cell_keep {a : Addr} {v : Option Value} (k : ∀ o, h.get? a = some o -> h'.get? a = some o) (z : h.IsCell a v) : h'.IsCell a v := z.elim λo r => ⟨o, k _ r.1, r.2⟩
theorem At.mono (l : Le h h' own own') {v : Value} {d : D} (x : At g h own v d) : At g h' own' v d :=
 At.rec (motive_1 := λv d _ => At g h' own' v d) (motive_2 := λvs ds _ => AtL g h' own' vs ds) .none .bool .int (λhk hx t => .str hk hx t)
  (λhf z _ k => .tup (l.2.1 _ hf) (tup_keep (λo => l.1 _ o hf) z) k)
  (λhf z _ k => .list (l.2.1 _ hf) (plist_keep (λo => l.1 _ o hf) z) k)
  (λhf hs hk hz z _ k => .dict (l.2.1 _ hf) hs hk hz (dict_keep (λo => l.1 _ o hf) z) k)
  (λk1 k2 f1 f2 h1 h2 hf hd hz _ k => .inst k1 k2 (l.2.1 _ f1) (l.2.1 _ f2) (l.1 _ _ f1 h1) (l.1 _ _ f2 h2) hf hd hz k)
  (λf1 h1 hd hc f2 h2 hv z _ k => .clo (l.2.1 _ f1) (l.1 _ _ f1 h1) hd hc (l.2.1 _ f2) (l.1 _ _ f2 h2) hv (z.mono l) k)
  (λx => .src (l.2.2.1 _ x)) (λx => .adts (l.2.2.2.1 _ x)) (λx => .trs (l.2.2.2.2.1 _ x)) (λf r => .rng (l.2.1 _ f) (l.1 _ _ f r)) (λx => .acc (l.2.2.2.2.2 _ x)) .nil (λ_ _ a r => .cons a r) x
theorem AtL.mono (l : Le h h' own own') {vs : List Value} {ds : List D} (x : AtL g h own vs ds) : AtL g h' own' vs ds := by
 induction vs generalizing ds with
 | nil => cases x; exact .nil
 | cons v vs ih => cases x with | cons a r => exact .cons (At.mono l a) (ih r)
theorem AtL.length {vs : List Value} {ds : List D} (x : AtL g h own vs ds) : vs.length = ds.length := by
 induction vs generalizing ds with
 | nil => cases x; rfl
 | cons v vs ih => cases x with | cons _ r => simp [ih r]
theorem AtL.append {vs ws : List Value} {ds es : List D} (x : AtL g h own vs ds) (y : AtL g h own ws es) : AtL g h own (vs ++ ws) (ds ++ es) := by
 induction vs generalizing ds with
 | nil => cases x; exact y
 | cons v vs ih => cases x with | cons a r => exact .cons a (ih r)
theorem AtL.get {vs : List Value} {ds : List D} (x : AtL g h own vs ds) {i : Nat} {d : D} (hi : ds[i]? = some d) : ∃ v, vs[i]? = some v /\ At g h own v d := by
 induction vs generalizing ds i with
 | nil => cases x; simp at hi
 | cons v vs ih =>
  cases x with
  | cons a r =>
   cases i with
   | zero => simp at hi; subst hi; exact ⟨v, rfl, a⟩
   | succ i => simp at hi; exact ih r hi
theorem AtL.get' {vs : List Value} {ds : List D} (x : AtL g h own vs ds) {i : Nat} {v : Value} (hi : vs[i]? = some v) : ∃ d, ds[i]? = some d /\ At g h own v d := by
 induction vs generalizing ds i with
 | nil => simp at hi
 | cons w vs ih =>
  cases x with
  | cons a r =>
   cases i with
   | zero => simp at hi; subst hi; exact ⟨_, rfl, a⟩
   | succ i => simp at hi; exact ih r hi
theorem AtL.reverse {vs : List Value} {ds : List D} (x : AtL g h own vs ds) : AtL g h own vs.reverse ds.reverse := by
 induction vs generalizing ds with
 | nil => cases x; exact .nil
 | cons v vs ih => cases x with | cons a r => simp only [List.reverse_cons]; exact (ih r).append (.cons a .nil)
theorem AtL.take {vs : List Value} {ds : List D} (x : AtL g h own vs ds) (n : Nat) : AtL g h own (vs.take n) (ds.take n) := by
 induction vs generalizing ds n with
 | nil => cases x; simp; exact .nil
 | cons v vs ih => cases x with | cons a r => cases n with
  | zero => exact .nil
  | succ n => exact .cons a (ih r n)
end
mutual
noncomputable def deq : D -> D -> Bool
 | .none, .none => true
 | .bool a, .bool b => a == b
 | .int a, .int b => a == b
 | .bool a, .int b => (if a then 1 else 0) == b
 | .int a, .bool b => a == (if b then 1 else 0)
 | .str a, .str b => a == b
 | .tup a, .tup b => deqs a b
 | .list a, .list b => deqs a b
 | _, _ => false
noncomputable def deqs : List D -> List D -> Bool
 | [], [] => true
 | a :: as, b :: bs => deq a b && deqs as bs
 | _, _ => false
end
mutual
noncomputable def plain : D -> Bool
 | .none => true
 | .bool _ => true
 | .int _ => true
 | .str _ => true
 | .tup ds => plains ds
 | .list ds => plains ds
 | _ => false
noncomputable def plains : List D -> Bool
 | [] => true
 | d :: ds => plain d && plains ds
end
mutual
noncomputable def dep : D -> Nat
 | .tup ds => deps ds + 1
 | .list ds => deps ds + 1
 | _ => 0
noncomputable def deps : List D -> Nat
 | [] => 0
 | d :: ds => max (dep d) (deps ds)
end
theorem plains_cons {d : D} {ds : List D} (h : plains (d :: ds) = true) : plain d = true /\ plains ds = true := (Bool.and_eq_true _ _).mp h
mutual
theorem deq_refl : ∀ d : D, plain d = true -> deq d d = true
 | .none, _ => rfl
 | .bool _, _ => beq_self_eq_true _
 | .int _, _ => beq_self_eq_true _
 | .str _, _ => beq_self_eq_true _
 | .tup ds, h => deqs_refl ds h
 | .list ds, h => deqs_refl ds h
theorem deqs_refl : ∀ ds : List D, plains ds = true -> deqs ds ds = true
 | [], _ => rfl
 | d :: ds, h => (Bool.and_eq_true _ _).mpr ⟨deq_refl d (plains_cons h).1, deqs_refl ds (plains_cons h).2⟩
end
theorem plains_get : ∀ {ds : List D} {i : Nat} {d : D}, plains ds = true -> ds[i]? = some d -> plain d = true
 | e :: ds, 0, d, p, h => by cases h; exact (plains_cons p).1
 | e :: ds, i + 1, d, p, h => plains_get (plains_cons p).2 h
theorem deps_get : ∀ {ds : List D} {i : Nat} {d : D}, ds[i]? = some d -> dep d <= deps ds
 | e :: ds, 0, d, h => by cases h; exact Nat.le_max_left _ _
 | e :: ds, i + 1, d, h => Nat.le_trans (deps_get (ds := ds) h) (Nat.le_max_right _ _)
theorem deqs_len : ∀ {as bs : List D}, deqs as bs = true -> as.length = bs.length
 | [], [], _ => rfl
 | _ :: _, _ :: _, h => congrArg Nat.succ (deqs_len ((Bool.and_eq_true _ _).mp h).2)
theorem deqs_places : ∀ (as bs : List D), ((List.range (min as.length bs.length)).all (λj => deq (as.getD j .none) (bs.getD j .none)) && as.length == bs.length) = deqs as bs
 | [], [] => rfl
 | [], _ :: _ => rfl
 | _ :: _, [] => rfl
 | a :: as, b :: bs => by
  show _ = (deq a b && deqs as bs)
  rw [<- deqs_places as bs]
  simp only [List.length_cons, Nat.succ_min_succ, List.range_succ_eq_map, List.all_cons, List.all_map, Function.comp_def, List.getD_cons_zero, List.getD_cons_succ]
  rw [Bool.and_assoc]
  congr 2
  simp
section
variable {g : Gh} {s : Shared} {own : Addr -> Tag} {h : Heap} {ks : List Nat}
@[elab_as_elim] theorem At.plain_e {P : Value → D → Prop} {v : Value} {d : D} (y : At g h own v d) (p : plain d = true) (k1 : P .none .none) (k2 : ∀ b, P (.bool b) (.bool b)) (k3 : ∀ i t, P (.int i t) (.int i)) (k4 : ∀ j t, j < 39 → P (.str (sN j) t) (.str j))
  (k5 : ∀ a vs ds, own a = .fz -> h.IsTuple a vs.toArray -> AtL g h own vs ds -> plains ds = true -> P (.ref a) (.tup ds)) (k6 : ∀ a vs ds, own a = .fz -> h.PlainList a vs.toArray -> AtL g h own vs ds -> plains ds = true -> P (.ref a) (.list ds)) : P v d := by
 cases y with
 | none => exact k1
 | bool b => exact k2 b
 | int i t => exact k3 i t
 | str hk hx t => subst hx; exact k4 _ t hk
 | tup hf z hl => exact k5 _ _ _ hf z hl p
 | list hf z hl => exact k6 _ _ _ hf z hl p
 | _ => exact nomatch p
theorem PlainList.isList {a : Addr} {xs : Array Value} (z : h.PlainList a xs) : h.IsList a xs := z.elim λn r => ⟨_, r, rfl, _, rfl⟩
theorem tup_fun {a : Addr} {xs ys : Array Value} (z : h.IsTuple a xs) (z' : h.IsTuple a ys) : xs = ys := by
 obtain ⟨o, ho, hc, n, hd⟩ := z
 obtain ⟨o', ho', hc', n', hd'⟩ := z'
 rw [ho] at ho'; cases ho'; rw [hd] at hd'; cases hd'; rfl
theorem list_fun {a : Addr} {xs ys : Array Value} (z : h.PlainList a xs) (z' : h.PlainList a ys) : xs = ys := by
 obtain ⟨n, ho⟩ := z
 obtain ⟨n', ho'⟩ := z'
 rw [ho] at ho'; cases ho'; rfl
theorem tup_list {a : Addr} {xs ys : Array Value} (z : h.IsTuple a xs) (z' : h.PlainList a ys) : False := by
 obtain ⟨o, ho, hc, n, hd⟩ := z
 obtain ⟨n', ho'⟩ := z'
 rw [ho] at ho'; cases ho'; simp at hc
theorem ref_inj {a b : Addr} (q : Value.ref a = .ref b) : a = b := by cases q; rfl
def FunAt (g : Gh) (h : Heap) (own : Addr -> Tag) (v : Value) (d : D) : Prop := plain d = true -> ∀ w e, At g h own w e -> plain e = true -> w = v -> d = e
def FunAtL (g : Gh) (h : Heap) (own : Addr -> Tag) (vs : List Value) (ds : List D) : Prop := plains ds = true -> ∀ es, AtL g h own vs es -> plains es = true -> ds = es
theorem fun_tup {a : Addr} {vs : List Value} {ds : List D} (z : h.IsTuple a vs.toArray) (k : FunAtL g h own vs ds) : FunAt g h own (.ref a) (.tup ds) := λp w e y =>
 λq => At.plain_e (P := λw e => w = .ref a -> D.tup ds = e) y q (λe => nomatch e) (λ_ e => nomatch e) (λ_ _ e => nomatch e) (λ_ _ _ e => nomatch e)
  (λb ws es _ z' y' q' e => by have e := ref_inj e; subst e; have := Array.toList_inj.mpr (tup_fun z z'); simp at this; subst this; rw [k p es y' q'])
  (λb ws es _ z' y' q' e => (by have e := ref_inj e; subst e; exact (tup_list z z').elim))
theorem fun_list {a : Addr} {vs : List Value} {ds : List D} (z : h.PlainList a vs.toArray) (k : FunAtL g h own vs ds) : FunAt g h own (.ref a) (.list ds) := λp w e y =>
 λq => At.plain_e (P := λw e => w = .ref a -> D.list ds = e) y q (λe => nomatch e) (λ_ e => nomatch e) (λ_ _ e => nomatch e) (λ_ _ _ e => nomatch e)
  (λb ws es _ z' y' q' e => (by have e := ref_inj e; subst e; exact (tup_list z' z).elim))
  (λb ws es _ z' y' q' e => by have e := ref_inj e; subst e; have := Array.toList_inj.mpr (list_fun z z'); simp at this; subst this; rw [k p es y' q'])
theorem fun_lit {v : Value} {d : D} (k : ∀ e, At g h own v e -> plain e = true -> d = e) : FunAt g h own v d := λ_ w e y q r => k e (r ▸ y) q
theorem At.funs {v : Value} {d : D} (x : At g h own v d) : FunAt g h own v d :=
 At.rec (motive_1 := λv d _ => FunAt g h own v d) (motive_2 := λvs ds _ => FunAtL g h own vs ds)
  (fun_lit λe y q => by cases y; rfl) (λb => fun_lit λe y q => by cases y; rfl) (λi t => fun_lit λe y q => by cases y; rfl)
  (λhk hx t => fun_lit λe y q => by cases y with | str hk' hx' _ => have := sN_inj hk hk'; rw [<- hx, <- hx'] at this; rw [eq_of_beq (this.symm.trans (beq_self_eq_true _))])
  (λ_ z _ k => fun_tup z k) (λ_ z _ k => fun_list z k) (λ_ _ _ _ _ _ _ p => nomatch p) (λ_ _ _ _ _ _ _ _ _ _ _ p => nomatch p) (λ_ _ _ _ _ _ _ _ _ _ p => nomatch p) (λ_ p => nomatch p) (λ_ p => nomatch p) (λ_ p => nomatch p) (λ_ _ p => nomatch p) (λ_ p => nomatch p)
  (λ_ es y _ => by cases y; rfl)
  (λ_ _ k ks p es y q => by cases y with | cons b r' => rw [k (plains_cons p).1 _ _ b (plains_cons q).1 rfl, ks (plains_cons p).2 _ r' (plains_cons q).2]) x
theorem At.fun {v : Value} {d e : D} (x : At g s.heap own v d) (y : At g s.heap own v e) (p : plain d = true) (q : plain e = true) : d = e := x.funs p v e y q rfl
open SeqAt in
theorem places_get {vs : List Value} {ds : List D} (x : AtL g h own vs ds) (p : plains ds = true) {j : Nat} (hj : j < vs.toArray.size) : At g h own vs.toArray[j] (ds.getD j .none) /\ plain (ds.getD j .none) = true /\ dep (ds.getD j .none) <= deps ds := by
 obtain ⟨d1, hd1, x1⟩ := x.get' (i := j) (v := vs.toArray[j]) (by simp at hj ⊢)
 have g1 : ds.getD j .none = d1 := by rw [List.getD, hd1]; rfl
 rw [g1]
 exact ⟨x1, plains_get p hd1, deps_get hd1⟩
open SeqAt in
def EqIH (g : Gh) (s : Shared) (own : Addr -> Tag) (n : Nat) : Prop := ∀ {A : Around} {v w : Value} {d e : D}, At g s.heap own v d -> At g s.heap own w e -> plain d = true -> plain e = true -> dep d < n -> A.units + n < cLine -> EqAt A s v w (deq d e)
open SeqAt in
theorem eqat_tup {n : Nat} (ih : EqIH g s own n) {A : Around} {a b : Addr} {vs ws : List Value} {ds es : List D} (hf : own a = .fz) (z : s.heap.IsTuple a vs.toArray) (hl : AtL g s.heap own vs ds) (p : plains ds = true) (hf' : own b = .fz) (z' : s.heap.IsTuple b ws.toArray) (hl' : AtL g s.heap own ws es) (q : plains es = true)
  (hn : deps ds < n) (hu : A.units < cLine) (hu' : A.in1.units + n < cLine) : EqAt A s (.ref a) (.ref b) (deq (.tup ds) (.tup es)) := by
 by_cases hab : a = b
 ·subst hab
  rw [At.fun (.tup hf z hl) (.tup hf' z' hl') p q, deq_refl (.tup es) q]
  exact EqAt.same _
 ·refine EqAt.of_refs hab ?_
  have r := RcAt.tuples (A := A) (e := λj => deq (ds.getD j .none) (es.getD j .none)) z z' hu λj h1 h2 => ih (places_get hl p h1).1 (places_get hl' q h2).1 (places_get hl p h1).2.1 (places_get hl' q h2).2.1 (Nat.lt_of_le_of_lt (places_get hl p h1).2.2 hn) hu'
  rw [List.size_toArray, List.size_toArray, hl.length, hl'.length, deqs_places] at r
  exact r
open SeqAt in
theorem eqat_list {n : Nat} (ih : EqIH g s own n) {A : Around} {a b : Addr} {vs ws : List Value} {ds es : List D} (hf : own a = .fz) (z : s.heap.PlainList a vs.toArray) (hl : AtL g s.heap own vs ds) (p : plains ds = true) (hf' : own b = .fz) (z' : s.heap.PlainList b ws.toArray) (hl' : AtL g s.heap own ws es) (q : plains es = true)
  (hn : deps ds < n) (hu : A.units < cLine) (hu' : A.in1.units + n < cLine) : EqAt A s (.ref a) (.ref b) (deq (.list ds) (.list es)) := by
 by_cases hab : a = b
 ·subst hab
  rw [At.fun (.list hf z hl) (.list hf' z' hl') p q, deq_refl (.list es) q]
  exact EqAt.same _
 ·refine EqAt.of_refs hab ?_
  have l1 := hl.length
  have l2 := hl'.length
  by_cases hlen : vs.toArray.size = ws.toArray.size
  ·have r := RcAt.lists (A := A) (e := λj => deq (ds.getD j .none) (es.getD j .none)) (PlainList.isList z) (PlainList.isList z') hlen hu λj h1 h2 => ih (places_get hl p h1).1 (places_get hl' q h2).1 (places_get hl p h1).2.1 (places_get hl' q h2).2.1 (Nat.lt_of_le_of_lt (places_get hl p h1).2.2 hn) hu'
   have e1 : ((List.range vs.toArray.size).all (λj => deq (ds.getD j .none) (es.getD j .none))) = deqs ds es := by
    rw [<- deqs_places]; simp only [List.size_toArray] at hlen ⊢; rw [<- l1, <- l2, <- hlen, Nat.min_self, beq_self_eq_true, Bool.and_true]
   rw [e1] at r
   exact r
  ·have r := RcAt.lists_lengths (A := A) (PlainList.isList z) (PlainList.isList z') (bne_iff_ne.mpr hlen) hu
   have e1 : deqs ds es = false := Bool.eq_false_iff.mpr λhq => hlen (by rw [List.size_toArray, List.size_toArray, l1, l2]; exact deqs_len hq)
   show RcAt A s _ _ (deqs ds es)
   rw [e1]; exact r
open SeqAt in
theorem eq_step {n : Nat} (ih : EqIH g s own n) : EqIH g s own (n + 1) := λ{A v w d e} x y p q hn hu => by
 have hu' : A.units < cLine := Nat.lt_of_le_of_lt (Nat.le_add_right _ _) hu
 have hi : A.in1.units + n < cLine := by rw [show A.in1.units + n = A.units + (n + 1) from Nat.add_right_comm _ _ _]; exact hu
 revert hn
 refine At.plain_e (P := λv d => dep d < n + 1 -> EqAt A s v w (deq d e)) x p (λ_ => ?_) (λa _ => ?_) (λi t _ => ?_) (λj t hj _ => ?_) (λa vs ds hf z hl p' hn => ?_) (λa vs ds hf z hl p' hn => ?_)
 ·exact At.plain_e (P := λw e => EqAt A s .none w (deq .none e)) y q (EqAt.same _) EqAt.none_bool EqAt.none_int (λ_ _ _ => EqAt.none_str _ _) (λa vs ds hf z hl _ => EqAt.none_tuple z hu') (λa vs ds hf z hl _ => EqAt.none_list (PlainList.isList z) hu')
 ·exact At.plain_e (P := λw e => EqAt A s (.bool a) w (deq (.bool a) e)) y q (EqAt.bool_none a) (EqAt.bool_bool a) (EqAt.bool_int a) (λ_ _ _ => EqAt.bool_str a _ _) (λ_ vs ds hf z hl _ => EqAt.bool_tuple a z hu') (λ_ vs ds hf z hl _ => EqAt.bool_list a (PlainList.isList z) hu')
 ·exact At.plain_e (P := λw e => EqAt A s (.int i t) w (deq (.int i) e)) y q (EqAt.int_none i t) (EqAt.int_bool i t) (EqAt.int_int i t) (λ_ _ _ => EqAt.int_str i t _ _) (λ_ vs ds hf z hl _ => EqAt.int_tuple i t z hu') (λ_ vs ds hf z hl _ => EqAt.int_list i t (PlainList.isList z) hu')
 ·exact At.plain_e (P := λw e => EqAt A s (.str (sN j) t) w (deq (.str j) e)) y q (EqAt.str_none _ _) (EqAt.str_bool _ _) (EqAt.str_int _ _) (λj' t' hj' => by have k := EqAt.str_str (A := A) (s := s) (sN j) t (sN j') t'; rw [sN_inj hj hj'] at k; exact k) (λ_ vs ds hf z hl _ => EqAt.str_tuple _ _ z hu') (λ_ vs ds hf z hl _ => EqAt.str_list _ _ (PlainList.isList z) hu')
 ·exact At.plain_e (P := λw e => EqAt A s (.ref a) w (deq (.tup ds) e)) y q (EqAt.tuple_none z hu') (λb => EqAt.tuple_bool b z hu') (λi t => EqAt.tuple_int i t z hu') (λj t _ => EqAt.tuple_str _ t z hu') (λb ws es hf' z' hl' q' => eqat_tup ih hf z hl p' hf' z' hl' q' (Nat.lt_of_succ_lt_succ hn) hu' hi) (λb ws es hf' z' hl' q' => EqAt.tuple_list z (PlainList.isList z') hu')
 ·exact At.plain_e (P := λw e => EqAt A s (.ref a) w (deq (.list ds) e)) y q (EqAt.list_none (PlainList.isList z) hu') (λb => EqAt.list_bool b (PlainList.isList z) hu') (λi t => EqAt.list_int i t (PlainList.isList z) hu') (λj t _ => EqAt.list_str _ t (PlainList.isList z) hu') (λb ws es hf' z' hl' q' => EqAt.list_tuple (PlainList.isList z) z' hu') (λb ws es hf' z' hl' q' => eqat_list ih hf z hl p' hf' z' hl' q' (Nat.lt_of_succ_lt_succ hn) hu' hi)
open SeqAt in
theorem eq_all : ∀ n, EqIH g s own n
 | 0 => λ_ _ _ _ h => nomatch h
 | n + 1 => eq_step (eq_all n)
open SeqAt in
theorem eqAt (n : Nat) {A : Around} {v w : Value} {d e : D} (x : At g s.heap own v d) (y : At g s.heap own w e) (p : plain d = true) (q : plain e = true) (hn : dep d <= n) (hu : A.units + n + 1 < cLine) : EqAt A s v w (deq d e) := eq_all (n + 1) x y p q (Nat.lt_succ_of_le hn) hu
end
theorem sN_eq {i j : Nat} (hi : i < 39) (hj : j < 39) (q : sN i = sN j) : i = j := eq_of_beq ((sN_inj hi hj).symm.trans (by rw [q]; exact beq_self_eq_true _))
theorem len0 {P : List Value -> Prop} (k : P []) (vs : List Value) (h : vs.length = 0) : P vs := List.eq_nil_of_length_eq_zero h ▸ k
theorem lenS {P : List Value -> Prop} {n : Nat} (k : ∀ a vs, vs.length = n -> P (a :: vs)) (vs : List Value) (h : vs.length = n + 1) : P vs := by
 cases vs with
 | nil => exact nomatch h
 | cons a r => exact k a r (Nat.succ.inj h)
theorem len1 {P : List Value -> Prop} (k : ∀ a, P [a]) : ∀ vs : List Value, vs.length = 1 -> P vs := lenS λa => len0 (k a)
theorem len2 {P : List Value -> Prop} (k : ∀ a b, P [a, b]) : ∀ vs : List Value, vs.length = 2 -> P vs := lenS λa => len1 (k a)
theorem len3 {P : List Value -> Prop} (k : ∀ a b c, P [a, b, c]) : ∀ vs : List Value, vs.length = 3 -> P vs := lenS λa => len2 (k a)
theorem len4 {P : List Value -> Prop} (k : ∀ a b c d, P [a, b, c, d]) : ∀ vs : List Value, vs.length = 4 -> P vs := lenS λa => len3 (k a)
theorem len5 {P : List Value -> Prop} (k : ∀ a b c d e, P [a, b, c, d, e]) : ∀ vs : List Value, vs.length = 5 -> P vs := lenS λa => len4 (k a)
theorem len8 {P : List Value -> Prop} (k : ∀ a b c d e f u v, P [a, b, c, d, e, f, u, v]) : ∀ vs : List Value, vs.length = 8 -> P vs := lenS λa => lenS λb => lenS λc => len5 (k a b c)
@[elab_as_elim] theorem len1e {P : List Value -> Prop} (vs : List Value) (h : vs.length = 1) (k : ∀ a, P [a]) : P vs := len1 k vs h
@[elab_as_elim] theorem len4e {P : List Value -> Prop} (vs : List Value) (h : vs.length = 4) (k : ∀ a b c d, P [a, b, c, d]) : P vs := len4 k vs h
@[elab_as_elim] theorem len5e {P : List Value -> Prop} (vs : List Value) (h : vs.length = 5) (k : ∀ a b c d e, P [a, b, c, d, e]) : P vs := len5 k vs h
@[elab_as_elim] theorem len8e {P : List Value -> Prop} (vs : List Value) (h : vs.length = 8) (k : ∀ a b c d e f u v, P [a, b, c, d, e, f, u, v]) : P vs := len8 k vs h
section
variable {g : Gh} {h : Heap} {own : Addr -> Tag} {v : Value} {P : Value -> Prop} {ds : List D}
@[elab_as_elim] theorem At.none_e (y : At g h own v .none) (k : P .none) : P v := by cases y; exact k
@[elab_as_elim] theorem At.int_e {i : Int} (y : At g h own v (.int i)) (k : ∀ t, P (.int i t)) : P v := by cases y; exact k _
@[elab_as_elim] theorem At.bool_e {b : Bool} (y : At g h own v (.bool b)) (k : P (.bool b)) : P v := by cases y; exact k
@[elab_as_elim] theorem At.str_e {j : Nat} (y : At g h own v (.str j)) (k : ∀ t, j < 39 -> P (.str (sN j) t)) : P v := by cases y with | str hk hx t => cases hx; exact k t hk
@[elab_as_elim] theorem At.tup_e (y : At g h own v (.tup ds)) (k : ∀ a vs, own a = .fz -> h.IsTuple a vs.toArray -> AtL g h own vs ds -> P (.ref a)) : P v := by cases y with | tup a b c => exact k _ _ a b c
@[elab_as_elim] theorem AtL.two_e {a b : D} {vs : List Value} {P : List Value -> Prop} (y : AtL g h own vs [a, b]) (k : ∀ v w, At g h own v a -> At g h own w b -> P [v, w]) : P vs := by
 cases y with | cons p r => cases r with | cons q r => cases r; exact k _ _ p q
@[elab_as_elim] theorem At.list_e (y : At g h own v (.list ds)) (k : ∀ a vs, own a = .fz -> h.PlainList a vs.toArray -> AtL g h own vs ds -> P (.ref a)) : P v := by cases y with | list a b c => exact k _ _ a b c
@[elab_as_elim] theorem At.dict_e {ks : List Nat} (y : At g h own v (.dict ks ds)) (k : ∀ a vs, own a = .fz -> (a == sysModules) = false -> (∀ k ∈ ks, k < 39) -> ks.length = vs.length -> h.DictOf (strKind g.prog g.w) a ((ks.map sN).zip vs) -> AtL g h own vs ds -> P (.ref a)) : P v := by
 cases y with | dict a b c d e f => exact k _ _ a b c d e f
@[elab_as_elim] theorem At.clo_e {j : Nat} {d : D} (y : At g h own v (.clo j d)) (k : ∀ fa c fo oc fd w, own fa = .fz -> h.get? fa = some fo -> fo.data = .func fd -> g.isClo j fd c -> own c = .fz -> h.get? c = some oc -> oc.data = .cell (some w) -> CodeFz h own fd.code fd.qualname -> At g h own w d -> P (.ref fa)) : P v := by
 cases y with | clo a b c d e f i j k' => exact k _ _ _ _ _ _ a b c d e f i j k'
@[elab_as_elim] theorem At.src_e (y : At g h own v .src) (k : ∀ a, own a = .src -> P (.ref a)) : P v := by cases y with | src a => exact k _ a
@[elab_as_elim] theorem At.adts_e (y : At g h own v .adts) (k : ∀ a, own a = .ad -> P (.ref a)) : P v := by cases y with | adts a => exact k _ a
@[elab_as_elim] theorem At.trs_e (y : At g h own v .trs) (k : ∀ a, own a = .tr -> P (.ref a)) : P v := by cases y with | trs a => exact k _ a
@[elab_as_elim] theorem At.acc_e (y : At g h own v .acc) (k : ∀ a, own a = .ac -> P (.ref a)) : P v := by cases y with | acc a => exact k _ a
end
section
variable {h h' h'' : Heap} {own own' own'' : Addr -> Tag}
theorem Le.trans (a : Le h h' own own') (b : Le h' h'' own' own'') : Le h h'' own own'' :=
 ⟨λx o e ho => b.1 x o (a.2.1 x e) (a.1 x o e ho), λx e => b.2.1 x (a.2.1 x e), λx e => b.2.2.1 x (a.2.2.1 x e), λx e => b.2.2.2.1 x (a.2.2.2.1 x e), λx e => b.2.2.2.2.1 x (a.2.2.2.2.1 x e), λx e => b.2.2.2.2.2 x (a.2.2.2.2.2 x e)⟩
theorem none_of_le {a : Addr} (ha : h.objs.size <= a) : h.get? a = none := by
 cases e : h.get? a with
 | none => rfl
 | some o => exact absurd (Heap.lt_size e) (Nat.not_lt.mpr ha)
end
inductive LV where
 | un
 | val (d : D)
 | ow (ds : List D)
 | od (ks : List Nat) (ds : List D)
 | fv (d : D)
noncomputable def notFv : LV -> Bool
 | .fv _ => false | _ => true
abbrev Loc := List (Nat × LV)
structure Sg where
 src : Option (List D)
 ad : Option (List Nat × List D)
 tr : Option (List Nat × List D)
 ac : Option (List D)
abbrev Calls := Nat -> List D -> Sg -> Option (D × Sg)
mutual
noncomputable def noac : D -> Bool
 | .acc => false
 | .tup ds => noacs ds
 | .list ds => noacs ds
 | .dict _ ds => noacs ds
 | .inst _ _ ds => noacs ds
 | .clo _ d => noac d
 | _ => true
noncomputable def noacs : List D -> Bool
 | [] => true
 | d :: ds => noac d && noacs ds
end
noncomputable def sgOk (σ : Sg) : Bool := σ.src.all noacs && σ.ad.all (λp => noacs p.2) && σ.tr.all (λp => noacs p.2)
inductive X where
 | var (i : Nat) | cst (d : D)
 | tup (es : List X) | lst (es : List X) | emp
 | idx (e i : X) | rev (e : X) | upto (e k : X)
 | cmp (op : CmpOp) (a b : X)
 | and (a b : X) | or (a b : X) | not (a : X) | ite (t a b : X)
 | bin (op : Operator) (a b : X) | neg (a : X)
 | call (f : Nat) (args : List X) | clo (v : Nat) (arg : X)
 | len (e : X) | tuple (e : X) | list (e : X) | rng (e : X) | glob | get (d k e : X)
 | attr (e : X) (a : Nat)
 | comp (elt : X) (ts : List Nat) (fre : List Nat) (src : X) (cond : Option X)
 | inn (neg : Bool) (a : X) (y : Nat)
 | nem (y : Nat)
 | ext (j : Nat) (vs : List Nat)
 | dzip (a b : X)
 | max2 (a b : X) | b2i (a : X) | srcl (es : List X) | lenO (y : Nat)
noncomputable def lookD (ks : List Nat) (ds : List D) (k : Nat) : Option D := (ks.zip ds).lookup k
noncomputable def itemAt (ds : List D) (i : Int) : Option D := if 0 <= i /\ i < 1000000 then ds[i.toNat]? else none
noncomputable def item (σ : Sg) : D -> D -> Option D
 | .tup ds, .int i => itemAt ds i
 | .list ds, .int i => itemAt ds i
 | .dict ks ds, .str k => lookD ks ds k
 | .src, .int i => σ.src.bind λds => itemAt ds i
 | .adts, .str k => σ.ad.bind λp => lookD p.1 p.2 k
 | .trs, .str k => σ.tr.bind λp => lookD p.1 p.2 k
 | _, _ => none
noncomputable def okD (d : D) : Bool := plain d && decide (dep d <= 100)
noncomputable def okDs (ds : List D) : Bool := plains ds && decide (deps ds <= 100)
noncomputable def hasInts (js : List Nat) (es : List D) : List Nat -> List D -> Bool
 | [], [] => true
 | k :: ks, .int a :: ds => (match lookD js es k with | some (.int b) => a == b | _ => false) && hasInts js es ks ds
 | _, _ => false
noncomputable def cmpD : CmpOp -> D -> D -> Option Bool
 | .Eq, .str a, .str b => some (a == b)
 | .Eq, .int a, .int b => some (a == b)
 | .Eq, .list a, .list b => if okDs a && okDs b then some (deqs a b) else none
 | .Eq, .dict ks ds, .dict js es => if ks.length = js.length /\ hasInts js es ks ds = true then some true else none
 | .NotEq, .str a, .str b => some (!(a == b))
 | .NotEq, .list a, .list b => if okDs a && okDs b then some (!deqs a b) else none
 | .Gt, .int a, .int b => some (decide (b < a))
 | .Lt, .int a, .int b => some (decide (a < b))
 | .GtE, .int a, .int b => some (decide (b <= a))
 | .In, d, .list ds => if okD d && okDs ds then some (ds.any λy => deq y d) else none
 | .NotIn, d, .list ds => if okD d && okDs ds then some (!ds.any λy => deq y d) else none
 | .Is, d, .none => some (match d with | .none => true | _ => false)
 | _, _, _ => none
noncomputable def binD : Operator -> Int -> Int -> Option Int
 | .Add, a, b => some (a + b)
 | .Sub, a, b => some (a - b)
 | .Mult, a, b => if b.natAbs < 2 ^ 64 then some (a * b) else none
 | .Pow, a, b => if a.natAbs < 2 ^ 64 /\ 0 <= b /\ b <= 1000 then some (a ^ b.toNat) else none
 | .Mod, a, b => if b ≠ 0 then some (a.fmod b) else none
 | .FloorDiv, a, b => if 0 < b /\ b < 1000 then some (a.fdiv b) else none
 | _, _, _ => none
noncomputable def seqD : D -> Option (List D)
 | .tup ds => some ds
 | .list ds => some ds
 | _ => none
noncomputable def itD : D -> Option (List D)
 | .rng n => if n <= 1000000 then some ((List.range n).map λ(i : Nat) => .int (i : Int)) else none
 | d => seqD d
noncomputable def strsOf : List D -> Option (List Nat)
 | [] => some []
 | .str k :: r => (strsOf r).map (k :: ·)
 | _ => none
noncomputable def evs (f : Sg -> X -> Option (D × Sg)) : Sg -> List X -> Option (List D × Sg)
 | σ, [] => some ([], σ)
 | σ, e :: es => (f σ e).bind λp => (evs f p.2 es).bind λq => some (p.1 :: q.1, q.2)
noncomputable def bindT : List Nat -> D -> Option Loc
 | [x], d => some [(x, .val d)]
 | [x, y], .tup [a, b] => some [(x, .val a), (y, .val b)]
 | _, _ => none
noncomputable def evc (f : Loc -> Sg -> X -> Option (D × Sg)) (l : Loc) (elt : X) (ts : List Nat) (cond : Option X) : Sg -> List D -> Option (List D × Sg)
 | σ, [] => some ([], σ)
 | σ, d :: ds => (bindT ts d).bind λb =>
  (match cond with
   | none => some (true, σ)
   | some c => (f (b ++ l) σ c).bind λp => match p with | (.bool t, σ) => some (t, σ) | _ => none).bind λp =>
  if p.1 then (f (b ++ l) p.2 elt).bind λq => (evc f l elt ts cond q.2 ds).bind λr => some (q.1 :: r.1, r.2)
  else evc f l elt ts cond p.2 ds
noncomputable def maxLen : Nat := 1000000
noncomputable def valsOf (l : Loc) : List Nat -> Option (List D)
 | [] => some []
 | i :: is => match l.lookup i with
  | some (.val d) => (valsOf l is).map (d :: ·)
  | _ => none
noncomputable def ev (C : Calls) : Nat -> Loc -> Sg -> X -> Option (D × Sg)
 | 0, _, _, _ => none
 | n + 1, l, σ, e => match e with
  | .var i => (match l.lookup i with | some (.val d) => some (d, σ) | some (.fv d) => some (d, σ) | _ => none)
  | .cst d => some (d, σ)
  | .tup es => (evs (ev C n l) σ es).bind λp => if p.1.length <= 100 then some (.tup p.1, p.2) else none
  | .lst es => (evs (ev C n l) σ es).bind λp => if p.1.length <= 100 then some (.list p.1, p.2) else none
  | .emp => some (.dict [] [], σ)
  | .idx a i => (ev C n l σ a).bind λp => (ev C n l p.2 i).bind λq => (item q.2 p.1 q.1).bind λr => some (r, q.2)
  | .rev a => (ev C n l σ a).bind λp => match p.1 with | .tup ds => if ds.length <= maxLen then some (.tup ds.reverse, p.2) else none | _ => none
  | .upto a k => (ev C n l σ a).bind λp => (ev C n l p.2 k).bind λq => match p.1, q.1 with
   | .tup ds, .int i => if 0 <= i /\ i <= 100 /\ ds.length <= 100 then some (.tup (ds.take i.toNat), q.2) else none
   | .list ds, .int i => if 0 <= i /\ i <= 100 /\ ds.length <= 100 then some (.list (ds.take i.toNat), q.2) else none
   | _, _ => none
  | .cmp op a b => (ev C n l σ a).bind λp => (ev C n l p.2 b).bind λq => (cmpD op p.1 q.1).bind λr => some (.bool r, q.2)
  | .and a b => (ev C n l σ a).bind λp => match p.1 with | .bool true => ev C n l p.2 b | .bool false => some (.bool false, p.2) | _ => none
  | .or a b => (ev C n l σ a).bind λp => match p.1 with | .bool false => ev C n l p.2 b | .bool true => some (.bool true, p.2) | _ => none
  | .not a => (ev C n l σ a).bind λp => match p.1 with | .bool b => some (.bool (!b), p.2) | _ => none
  | .ite t a b => (ev C n l σ t).bind λp => match p.1 with | .bool true => ev C n l p.2 a | .bool false => ev C n l p.2 b | _ => none
  | .bin op a b => (ev C n l σ a).bind λp => (ev C n l p.2 b).bind λq => match p.1, q.1 with
   | .int x, .int y => (binD op x y).bind λr => some (.int r, q.2)
   | .list x, .list y => (match op with | .Add => if x.length + y.length <= maxLen then some (.list (x ++ y), q.2) else none | _ => none)
   | _, _ => none
  | .neg a => (ev C n l σ a).bind λp => match p.1 with | .int x => some (.int (-x), p.2) | _ => none
  | .call f args => (evs (ev C n l) σ args).bind λp => C f p.1 p.2
  | .clo v a => (ev C n l σ a).bind λp => match l.lookup v with | some (.val (.clo k d)) => C (1000 + k) [d, p.1] p.2 | _ => none
  | .len a => (ev C n l σ a).bind λp => (seqD p.1).bind λds => if ds.length <= maxLen then some (.int ds.length, p.2) else none
  | .tuple a => (ev C n l σ a).bind λp => (seqD p.1).bind λds => if ds.length <= maxLen then some (.tup ds, p.2) else none
  | .list a => (ev C n l σ a).bind λp => match p.1 with | .tup ds => if ds.length <= maxLen then some (.list ds, p.2) else none | _ => none
  | .rng a => (ev C n l σ a).bind λp => match p.1 with | .int i => if 0 <= i /\ i <= 1000000 then some (.rng i.toNat, p.2) else none | _ => none
  | .glob => some (.int 4000, σ)
  | .dzip a b => (ev C n l σ a).bind λp => (ev C n l p.2 b).bind λq => match p.1, q.1 with
   | .tup ks, .tup ds => (strsOf ks).bind λjs => if js.length = ds.length /\ js.length <= 4 /\ js.Nodup then some (.dict js ds, q.2) else none
   | _, _ => none
  | .get a k e => (ev C n l σ a).bind λp => (ev C n l p.2 k).bind λq => (ev C n l q.2 e).bind λr => match p.1, q.1 with
   | .dict ks ds, .str k => some ((lookD ks ds k).getD r.1, r.2)
   | _, _ => none
  | .attr a x => (ev C n l σ a).bind λp => match p.1 with | .inst _ ks ds => (lookD ks ds x).bind λd => some (d, p.2) | _ => none
  | .comp elt ts fre src cond => (ev C n l σ src).bind fun p => (itD p.1).bind fun ds => if ds.length ≤ maxLen ∧ fre.all (fun i => (l.lookup i).isSome) = true then
    (evc (ev C n) (l.filter λq => fre.contains q.1 && notFv q.2) elt ts cond p.2 ds).bind λq => some (.list q.1, q.2) else none
  | .inn neg a y => (ev C n l σ a).bind λp => match l.lookup y with
   | some (.ow ds) => if okD p.1 && okDs ds then some (.bool (neg ^^ ds.any λy => deq y p.1), p.2) else none
   | some (.val .acc) => match p.2.ac with
    | some ds => if okD p.1 && okDs ds then some (.bool (neg ^^ ds.any λy => deq y p.1), p.2) else none
    | none => none
   | _ => none
  | .nem y => match l.lookup y with
   | some (.ow ds) => some (.bool (!ds.isEmpty), σ)
   | _ => none
  | .max2 a b => (ev C n l σ a).bind λp => (ev C n l p.2 b).bind λq => match p.1, q.1 with
   | .int x, .int y => some (.int (if y > x then y else x), q.2)
   | _, _ => none
  | .b2i a => (ev C n l σ a).bind λp => match p.1 with | .bool b => some (.int (if b then 1 else 0), p.2) | _ => none
  | .srcl es => (evs (ev C n l) σ es).bind λp => if p.1.length <= 100 /\ p.2.src.isNone = true then some (.src, { p.2 with src := some p.1 }) else none
  | .lenO y => match l.lookup y with
   | some (.od ks ds) => if ks.length <= 1000 then some (.int ks.length, σ) else none
   | _ => none
  | .ext j vs => (valsOf l vs).bind λds => C (2000 + j) ds σ
theorem nB {G : Prop} (h : false = true) : G := nomatch h
theorem no {α : Type} {b : α} {G : Prop} (h : (none : Option α) = some b) : G := nomatch h
theorem bE {α β : Type} {o : Option α} {f : α -> Option β} {b : β} {G : Prop} (h : o.bind f = some b) (k : ∀ a, o = some a -> f a = some b -> G) : G := by
 cases o with
 | none => exact no h
 | some a => exact k a rfl h
theorem iE {α : Type} {c : Prop} [Decidable c] {x : Option α} {b : α} {G : Prop} (h : (if c then x else none) = some b) (k : c -> x = some b -> G) : G :=
 if hc : c then k hc ((if_pos hc).symm.trans h) else nomatch (if_neg hc).symm.trans h
theorem iN {α : Type} {c : Prop} [Decidable c] {x : Option α} {b : α} {G : Prop} (h : (if c then none else x) = some b) (k : ¬c -> x = some b -> G) : G :=
 if hc : c then nomatch (if_pos hc).symm.trans h else k hc ((if_neg hc).symm.trans h)
theorem bindS {α β : Type} {o : Option α} {a : α} {f : α -> Option β} {r : Option β} (h : o = some a) (k : f a = r) : o.bind f = r := by subst h; exact k
theorem ifS {c : Prop} [Decidable c] {α : Type} {a b r : α} (hc : c) (k : a = r) : (if c then a else b) = r := (if_pos hc).trans k
theorem ev_var {C : Calls} {n : Nat} {l : Loc} {σ : Sg} {i : Nat} {d : D} (h : l.lookup i = some (.val d)) : ev C (n + 1) l σ (.var i) = some (d, σ) := by
 conv => lhs; whnf
 rw [h]
theorem ev_idx {C : Calls} {n : Nat} {l : Loc} {σ σ₁ σ₂ : Sg} {a b : X} {d dd r : D} (h1 : ev C n l σ a = some (d, σ₁)) (h2 : ev C n l σ₁ b = some (dd, σ₂)) (h3 : item σ₂ d dd = some r) : ev C (n + 1) l σ (.idx a b) = some (r, σ₂) := bindS h1 (bindS h2 (bindS h3 rfl))
theorem ev_cmp {C : Calls} {n : Nat} {l : Loc} {σ σ₁ σ₂ : Sg} {op : CmpOp} {a b : X} {d e : D} {r : Bool} (h1 : ev C n l σ a = some (d, σ₁)) (h2 : ev C n l σ₁ b = some (e, σ₂)) (h3 : cmpD op d e = some r) : ev C (n + 1) l σ (.cmp op a b) = some (.bool r, σ₂) := bindS h1 (bindS h2 (bindS h3 rfl))
theorem pE {α : Type} {a b : α} {P : α -> Prop} (h : some a = some b) (k : P a) : P b := Option.some.inj h ▸ k
theorem pr {α β : Type} {o : Option (α × β)} {p : α × β} {a : α} (q : p.1 = a) (e : o = some p) : o = some (a, p.2) := q ▸ e
theorem pE2 {α β : Type} {a c : α} {b d : β} {P : α -> β -> Prop} (h : some (a, b) = some (c, d)) (k : P a b) : P c d := pE (P := λq => P q.1 q.2) h k
@[elab_as_elim] theorem bT2_e {x y : Nat} {d : D} {b : Loc} {P : D -> Loc -> Prop} (hb : bindT [x, y] d = some b) (k : ∀ p q, P (.tup [p, q]) [(x, .val p), (y, .val q)]) : P d b := by
 cases d with
 | tup ds =>
  cases ds with
  | nil => exact no hb
  | cons p r =>
   cases r with
   | nil => exact no hb
   | cons q r =>
    cases r with
    | nil => exact Option.some.inj hb ▸ k p q
    | cons => exact no hb
 | _ => exact no hb
section
variable {β : Type} {d : D} {b : β} {G : Prop}
theorem mInt {f : Int -> Option β} (h : (match d with | .int x => f x | _ => none) = some b) (k : ∀ x, d = .int x -> f x = some b -> G) : G := by
 cases d <;> first | exact k _ rfl h | exact no h
theorem mTup {f : List D -> Option β} (h : (match d with | .tup x => f x | _ => none) = some b) (k : ∀ x, d = .tup x -> f x = some b -> G) : G := by
 cases d <;> first | exact k _ rfl h | exact no h
theorem mBool {f : Bool -> Option β} (h : (match d with | .bool x => f x | _ => none) = some b) (k : ∀ x, d = .bool x -> f x = some b -> G) : G := by
 cases d <;> first | exact k _ rfl h | exact no h
theorem mInst {f : Addr -> List Nat -> List D -> Option β} (h : (match d with | .inst c ks ds => f c ks ds | _ => none) = some b) (k : ∀ c ks ds, d = .inst c ks ds -> f c ks ds = some b -> G) : G := by
 cases d <;> first | exact k _ _ _ rfl h | exact no h
theorem mTF {x y : Option β} (h : (match d with | .bool true => x | .bool false => y | _ => none) = some b) (kt : d = .bool true -> x = some b -> G) (kf : d = .bool false -> y = some b -> G) : G := by
 cases d with
 | bool c => cases c; exact kf rfl h; exact kt rfl h
 | _ => exact no h
theorem mFT {x y : Option β} (h : (match d with | .bool false => x | .bool true => y | _ => none) = some b) (kf : d = .bool false -> x = some b -> G) (kt : d = .bool true -> y = some b -> G) : G := by
 cases d with
 | bool c => cases c; exact kf rfl h; exact kt rfl h
 | _ => exact no h
end
section
variable {β : Type} {d e : D} {b : β} {G : Prop}
theorem mTL {α : Type} {i : α} {f g : List D -> Int -> Option β} (h : (match d, e with | .tup x, .int i => f x i | .list x, .int i => g x i | _, _ => none) = some b) (kt : ∀ x i, d = .tup x -> e = .int i -> f x i = some b -> G) (kl : ∀ x i, d = .list x -> e = .int i -> g x i = some b -> G) : G := by
 cases d with
 | tup x => cases e <;> first | exact kt _ _ rfl rfl h | exact no h
 | list x => cases e <;> first | exact kl _ _ rfl rfl h | exact no h
 | _ => exact no h
theorem mBin {f : Int -> Int -> Option β} {g : List D -> List D -> Option β} (h : (match d, e with | .int x, .int y => f x y | .list x, .list y => g x y | _, _ => none) = some b) (ki : ∀ x y, d = .int x -> e = .int y -> f x y = some b -> G) (kl : ∀ x y, d = .list x -> e = .list y -> g x y = some b -> G) : G := by
 cases d with
 | int x => cases e <;> first | exact ki _ _ rfl rfl h | exact no h
 | list x => cases e <;> first | exact kl _ _ rfl rfl h | exact no h
 | _ => exact no h
theorem mII {f : Int -> Int -> Option β} (h : (match d, e with | .int x, .int y => f x y | _, _ => none) = some b) (k : ∀ x y, d = .int x -> e = .int y -> f x y = some b -> G) : G := by
 cases d with
 | int x => cases e <;> first | exact k _ _ rfl rfl h | exact no h
 | _ => exact no h
theorem mTT {f : List D -> List D -> Option β} (h : (match d, e with | .tup x, .tup y => f x y | _, _ => none) = some b) (k : ∀ x y, d = .tup x -> e = .tup y -> f x y = some b -> G) : G := by
 cases d with
 | tup x => cases e <;> first | exact k _ _ rfl rfl h | exact no h
 | _ => exact no h
theorem mDS {f : List Nat -> List D -> Nat -> Option β} (h : (match d, e with | .dict x y, .str j => f x y j | _, _ => none) = some b) (k : ∀ x y j, d = .dict x y -> e = .str j -> f x y j = some b -> G) : G := by
 cases d with
 | dict x y => cases e <;> first | exact k _ _ _ rfl rfl h | exact no h
 | _ => exact no h
variable {o : Option LV}
theorem mVar {f g : D -> Option β} (h : (match o with | some (.val d) => f d | some (.fv d) => g d | _ => none) = some b) (k : ∀ d, o = some (.val d) -> f d = some b -> G) (k' : ∀ d, o = some (.fv d) -> g d = some b -> G) : G := by
 cases o with
 | none => exact no h
 | some lv => cases lv <;> first | exact k _ rfl h | exact k' _ rfl h | exact no h
theorem mOw {f : List D -> Option β} (h : (match o with | some (.ow ds) => f ds | _ => none) = some b) (k : ∀ ds, o = some (.ow ds) -> f ds = some b -> G) : G := by
 cases o with
 | none => exact no h
 | some lv => cases lv <;> first | exact k _ rfl h | exact no h
theorem mOd {f : List Nat -> List D -> Option β} (h : (match o with | some (.od ks ds) => f ks ds | _ => none) = some b) (k : ∀ ks ds, o = some (.od ks ds) -> f ks ds = some b -> G) : G := by
 cases o with
 | none => exact no h
 | some lv => cases lv <;> first | exact k _ _ rfl h | exact no h
theorem mClo {f : Nat -> D -> Option β} (h : (match o with | some (.val (.clo k d)) => f k d | _ => none) = some b) (k : ∀ j d, o = some (.val (.clo j d)) -> f j d = some b -> G) : G := by
 cases o with
 | none => exact no h
 | some lv =>
  cases lv with
  | val d => cases d <;> first | exact k _ _ rfl h | exact no h
  | _ => exact no h
theorem mOwAcc {f : List D -> Option β} {x : Option β} (h : (match o with | some (.ow ds) => f ds | some (.val .acc) => x | _ => none) = some b) (k : ∀ ds, o = some (.ow ds) -> f ds = some b -> G) (k' : o = some (.val .acc) -> x = some b -> G) : G := by
 cases o with
 | none => exact no h
 | some lv =>
  cases lv with
  | ow ds => exact k _ rfl h
  | val d => cases d <;> first | exact k' rfl h | exact no h
  | _ => exact no h
end
section
variable {C : Calls} {n : Nat} {l : Loc} {σ σ' : Sg} {d : D} {P : D -> Sg -> Prop} {es : List X} {a b c e : X} {i j f y : Nat}
@[elab_as_elim] theorem i_var (he : ev C (n + 1) l σ (.var i) = some (d, σ')) (k : ∀ d, (l.lookup i = some (.val d) \/ l.lookup i = some (.fv d)) -> P d σ) : P d σ' :=
 mVar he (λd q h => pE2 h (k d (.inl q))) λd q h => pE2 h (k d (.inr q))
@[elab_as_elim] theorem i_cst {d0 : D} (he : ev C (n + 1) l σ (.cst d0) = some (d, σ')) (k : P d0 σ) : P d σ' := pE2 he k
@[elab_as_elim] theorem i_emp (he : ev C (n + 1) l σ .emp = some (d, σ')) (k : P (.dict [] []) σ) : P d σ' := pE2 he k
@[elab_as_elim] theorem i_glob (he : ev C (n + 1) l σ .glob = some (d, σ')) (k : P (.int 4000) σ) : P d σ' := pE2 he k
@[elab_as_elim] theorem i_tup (he : ev C (n + 1) l σ (.tup es) = some (d, σ')) (k : ∀ ds σ₁, evs (ev C n l) σ es = some (ds, σ₁) -> ds.length <= 100 -> P (.tup ds) σ₁) : P d σ' :=
 bE he λp e1 h => iE h λhl h => pE2 h (k p.1 p.2 e1 hl)
@[elab_as_elim] theorem i_lst (he : ev C (n + 1) l σ (.lst es) = some (d, σ')) (k : ∀ ds σ₁, evs (ev C n l) σ es = some (ds, σ₁) -> ds.length <= 100 -> P (.list ds) σ₁) : P d σ' :=
 bE he λp e1 h => iE h λhl h => pE2 h (k p.1 p.2 e1 hl)
@[elab_as_elim] theorem i_idx (he : ev C (n + 1) l σ (.idx a b) = some (d, σ')) (k : ∀ d1 σ₁ d2 σ₂ r, ev C n l σ a = some (d1, σ₁) -> ev C n l σ₁ b = some (d2, σ₂) -> item σ₂ d1 d2 = some r -> P r σ₂) : P d σ' :=
 bE he λp e1 h => bE h λq e2 h => bE h λr e3 h => pE2 h (k p.1 p.2 q.1 q.2 r e1 e2 e3)
@[elab_as_elim] theorem i_rev (he : ev C (n + 1) l σ (.rev a) = some (d, σ')) (k : ∀ ds σ₁, ev C n l σ a = some (.tup ds, σ₁) -> ds.length <= maxLen -> P (.tup ds.reverse) σ₁) : P d σ' :=
 bE he λp e1 h => mTup h λds q h => iE h λhl h => pE2 h (k ds p.2 (pr q e1) hl)
@[elab_as_elim] theorem i_upto (he : ev C (n + 1) l σ (.upto a b) = some (d, σ')) (kt : ∀ ds i σ₁ σ₂, ev C n l σ a = some (.tup ds, σ₁) → ev C n l σ₁ b = some (.int i, σ₂) → (0 ≤ i ∧ i ≤ 100 ∧ ds.length ≤ 100) → P (.tup (ds.take i.toNat)) σ₂)
  (kl : ∀ ds i σ₁ σ₂, ev C n l σ a = some (.list ds, σ₁) -> ev C n l σ₁ b = some (.int i, σ₂) -> (0 <= i /\ i <= 100 /\ ds.length <= 100) -> P (.list (ds.take i.toNat)) σ₂) : P d σ' :=
 bE he λp e1 h => bE h λq e2 h => mTL (i := ()) h (λds i q1 q2 h => iE h λhl h => pE2 h (kt ds i p.2 q.2 (pr q1 e1) (pr q2 e2) hl)) λds i q1 q2 h => iE h λhl h => pE2 h (kl ds i p.2 q.2 (pr q1 e1) (pr q2 e2) hl)
@[elab_as_elim] theorem i_cmp {op : CmpOp} (he : ev C (n + 1) l σ (.cmp op a b) = some (d, σ')) (k : ∀ d1 σ₁ d2 σ₂ r, ev C n l σ a = some (d1, σ₁) -> ev C n l σ₁ b = some (d2, σ₂) -> cmpD op d1 d2 = some r -> P (.bool r) σ₂) : P d σ' :=
 bE he λp e1 h => bE h λq e2 h => bE h λr e3 h => pE2 h (k p.1 p.2 q.1 q.2 r e1 e2 e3)
@[elab_as_elim] theorem i_and (he : ev C (n + 1) l σ (.and a b) = some (d, σ')) (kt : ∀ σ₁, ev C n l σ a = some (.bool true, σ₁) -> ev C n l σ₁ b = some (d, σ') -> P d σ') (kf : ∀ σ₁, ev C n l σ a = some (.bool false, σ₁) -> P (.bool false) σ₁) : P d σ' :=
 bE he λp e1 h => mTF h (λq h => kt p.2 (pr q e1) h) λq h => pE2 h (kf p.2 (pr q e1))
@[elab_as_elim] theorem i_or (he : ev C (n + 1) l σ (.or a b) = some (d, σ')) (kf : ∀ σ₁, ev C n l σ a = some (.bool false, σ₁) -> ev C n l σ₁ b = some (d, σ') -> P d σ') (kt : ∀ σ₁, ev C n l σ a = some (.bool true, σ₁) -> P (.bool true) σ₁) : P d σ' :=
 bE he λp e1 h => mFT h (λq h => kf p.2 (pr q e1) h) λq h => pE2 h (kt p.2 (pr q e1))
@[elab_as_elim] theorem i_not (he : ev C (n + 1) l σ (.not a) = some (d, σ')) (k : ∀ b σ₁, ev C n l σ a = some (.bool b, σ₁) -> P (.bool (!b)) σ₁) : P d σ' :=
 bE he λp e1 h => mBool h λb q h => pE2 h (k b p.2 (pr q e1))
@[elab_as_elim] theorem i_ite (he : ev C (n + 1) l σ (.ite a b c) = some (d, σ')) (kt : ∀ σ₁, ev C n l σ a = some (.bool true, σ₁) -> ev C n l σ₁ b = some (d, σ') -> P d σ') (kf : ∀ σ₁, ev C n l σ a = some (.bool false, σ₁) -> ev C n l σ₁ c = some (d, σ') -> P d σ') : P d σ' :=
 bE he λp e1 h => mTF h (λq h => kt p.2 (pr q e1) h) λq h => kf p.2 (pr q e1) h
@[elab_as_elim] theorem i_bin {op : Operator} (he : ev C (n + 1) l σ (.bin op a b) = some (d, σ')) (ki : ∀ x y r σ₁ σ₂, ev C n l σ a = some (.int x, σ₁) → ev C n l σ₁ b = some (.int y, σ₂) → binD op x y = some r → P (.int r) σ₂)
  (kl : ∀ x y σ₁ σ₂, op = .Add -> ev C n l σ a = some (.list x, σ₁) -> ev C n l σ₁ b = some (.list y, σ₂) -> x.length + y.length <= maxLen -> P (.list (x ++ y)) σ₂) : P d σ' :=
 bE he λp e1 h => bE h λq e2 h => mBin h (λx y q1 q2 h => bE h λr e3 h => pE2 h (ki x y r p.2 q.2 (pr q1 e1) (pr q2 e2) e3)) λx y q1 q2 h => by
  cases op <;> first | exact iE h λhl h => pE2 h (kl x y p.2 q.2 rfl (pr q1 e1) (pr q2 e2) hl) | exact no h
@[elab_as_elim] theorem i_neg (he : ev C (n + 1) l σ (.neg a) = some (d, σ')) (k : ∀ i σ₁, ev C n l σ a = some (.int i, σ₁) -> P (.int (-i)) σ₁) : P d σ' :=
 bE he λp e1 h => mInt h λi q h => pE2 h (k i p.2 (pr q e1))
@[elab_as_elim] theorem i_call (he : ev C (n + 1) l σ (.call f es) = some (d, σ')) (k : ∀ ds σ₁, evs (ev C n l) σ es = some (ds, σ₁) -> C f ds σ₁ = some (d, σ') -> P d σ') : P d σ' :=
 bE he λp e1 h => k p.1 p.2 e1 h
@[elab_as_elim] theorem i_clo (he : ev C (n + 1) l σ (.clo i a) = some (d, σ')) (k : ∀ d1 σ₁ j dc, ev C n l σ a = some (d1, σ₁) -> l.lookup i = some (.val (.clo j dc)) -> C (1000 + j) [dc, d1] σ₁ = some (d, σ') -> P d σ') : P d σ' :=
 bE he λp e1 h => mClo h λj dc q h => k p.1 p.2 j dc e1 q h
@[elab_as_elim] theorem i_len (he : ev C (n + 1) l σ (.len a) = some (d, σ')) (k : ∀ d1 σ₁ ds, ev C n l σ a = some (d1, σ₁) -> seqD d1 = some ds -> ds.length <= maxLen -> P (.int ds.length) σ₁) : P d σ' :=
 bE he λp e1 h => bE h λds e2 h => iE h λhl h => pE2 h (k p.1 p.2 ds e1 e2 hl)
@[elab_as_elim] theorem i_tuple (he : ev C (n + 1) l σ (.tuple a) = some (d, σ')) (k : ∀ d1 σ₁ ds, ev C n l σ a = some (d1, σ₁) -> seqD d1 = some ds -> ds.length <= maxLen -> P (.tup ds) σ₁) : P d σ' :=
 bE he λp e1 h => bE h λds e2 h => iE h λhl h => pE2 h (k p.1 p.2 ds e1 e2 hl)
@[elab_as_elim] theorem i_list (he : ev C (n + 1) l σ (.list a) = some (d, σ')) (k : ∀ ds σ₁, ev C n l σ a = some (.tup ds, σ₁) -> ds.length <= maxLen -> P (.list ds) σ₁) : P d σ' :=
 bE he λp e1 h => mTup h λds q h => iE h λhl h => pE2 h (k ds p.2 (pr q e1) hl)
@[elab_as_elim] theorem i_rng (he : ev C (n + 1) l σ (.rng a) = some (d, σ')) (k : ∀ i σ₁, ev C n l σ a = some (.int i, σ₁) -> (0 <= i /\ i <= 1000000) -> P (.rng i.toNat) σ₁) : P d σ' :=
 bE he λp e1 h => mInt h λi q h => iE h λhl h => pE2 h (k i p.2 (pr q e1) hl)
@[elab_as_elim] theorem i_dzip (he : ev C (n + 1) l σ (.dzip a b) = some (d, σ')) (k : ∀ ks ds js σ₁ σ₂, ev C n l σ a = some (.tup ks, σ₁) -> ev C n l σ₁ b = some (.tup ds, σ₂) -> strsOf ks = some js -> (js.length = ds.length /\ js.length <= 4 /\ js.Nodup) -> P (.dict js ds) σ₂) : P d σ' :=
 bE he λp e1 h => bE h λq e2 h => mTT h λks ds q1 q2 h => bE h λjs e3 h => iE h λhl h => pE2 h (k ks ds js p.2 q.2 (pr q1 e1) (pr q2 e2) e3 hl)
@[elab_as_elim] theorem i_get (he : ev C (n + 1) l σ (.get a b c) = some (d, σ')) (k : ∀ ks ds j d3 σ₁ σ₂ σ₃, ev C n l σ a = some (.dict ks ds, σ₁) -> ev C n l σ₁ b = some (.str j, σ₂) -> ev C n l σ₂ c = some (d3, σ₃) -> P ((lookD ks ds j).getD d3) σ₃) : P d σ' :=
 bE he λp e1 h => bE h λq e2 h => bE h λr e3 h => mDS h λks ds j q1 q2 h => pE2 h (k ks ds j r.1 p.2 q.2 r.2 (pr q1 e1) (pr q2 e2) e3)
@[elab_as_elim] theorem i_attr (he : ev C (n + 1) l σ (.attr a i) = some (d, σ')) (k : ∀ c ks ds d2 σ₁, ev C n l σ a = some (.inst c ks ds, σ₁) -> lookD ks ds i = some d2 -> P d2 σ₁) : P d σ' :=
 bE he λp e1 h => mInst h λc ks ds q h => bE h λd2 e2 h => pE2 h (k c ks ds d2 p.2 (pr q e1) e2)
@[elab_as_elim] theorem i_inn {neg : Bool} (he : ev C (n + 1) l σ (.inn neg a y) = some (d, σ')) (k : ∀ d1 σ₁ ds, ev C n l σ a = some (d1, σ₁) -> (l.lookup y = some (.ow ds) \/ l.lookup y = some (.val .acc) /\ σ₁.ac = some ds) -> okD d1 = true -> okDs ds = true -> P (.bool (neg ^^ ds.any λy => deq y d1)) σ₁) : P d σ' :=
 bE he λp e1 h => mOwAcc h (λds q h => iE h λhl h => pE2 h (k p.1 p.2 ds e1 (.inl q) (Bool.and_eq_true_iff.mp hl).1 (Bool.and_eq_true_iff.mp hl).2)) λq h => by
  cases q2 : p.2.ac with
  | none => rw [q2] at h; exact no h
  | some ds => rw [q2] at h; exact iE h λhl h => pE2 h (k p.1 p.2 ds e1 (.inr ⟨q, q2⟩) (Bool.and_eq_true_iff.mp hl).1 (Bool.and_eq_true_iff.mp hl).2)
@[elab_as_elim] theorem i_nem (he : ev C (n + 1) l σ (.nem y) = some (d, σ')) (k : ∀ ds, l.lookup y = some (.ow ds) -> P (.bool (!ds.isEmpty)) σ) : P d σ' :=
 mOw he λds q h => pE2 h (k ds q)
@[elab_as_elim] theorem i_max2 (he : ev C (n + 1) l σ (.max2 a b) = some (d, σ')) (k : ∀ x y σ₁ σ₂, ev C n l σ a = some (.int x, σ₁) -> ev C n l σ₁ b = some (.int y, σ₂) -> P (.int (if y > x then y else x)) σ₂) : P d σ' :=
 bE he λp e1 h => bE h λq e2 h => mII h λx y q1 q2 h => pE2 h (k x y p.2 q.2 (pr q1 e1) (pr q2 e2))
@[elab_as_elim] theorem i_b2i (he : ev C (n + 1) l σ (.b2i a) = some (d, σ')) (k : ∀ b σ₁, ev C n l σ a = some (.bool b, σ₁) -> P (.int (if b then 1 else 0)) σ₁) : P d σ' :=
 bE he λp e1 h => mBool h λb q h => pE2 h (k b p.2 (pr q e1))
@[elab_as_elim] theorem i_srcl (he : ev C (n + 1) l σ (.srcl es) = some (d, σ')) (k : ∀ ds σ₁, evs (ev C n l) σ es = some (ds, σ₁) -> (ds.length <= 100 /\ σ₁.src.isNone = true) -> P (.src) { σ₁ with src := some ds }) : P d σ' :=
 bE he λp e1 h => iE h λhl h => pE2 h (k p.1 p.2 e1 hl)
@[elab_as_elim] theorem i_lenO (he : ev C (n + 1) l σ (.lenO y) = some (d, σ')) (k : ∀ ks ds, l.lookup y = some (.od ks ds) -> ks.length <= 1000 -> P (.int ks.length) σ) : P d σ' :=
 mOd he λks ds q h => iE h λhl h => pE2 h (k ks ds q hl)
@[elab_as_elim] theorem i_comp {ts fre : List Nat} {cond : Option X} (he : ev C (n + 1) l σ (.comp a ts fre b cond) = some (d, σ')) (k : ∀ d1 σ₁ ds rs σ₂, ev C n l σ b = some (d1, σ₁) -> itD d1 = some ds -> (ds.length <= maxLen /\ fre.all (λi => (l.lookup i).isSome) = true) -> evc (ev C n) (l.filter λq => fre.contains q.1 && notFv q.2) a ts cond σ₁ ds = some (rs, σ₂) -> P (.list rs) σ₂) : P d σ' :=
 bE he λp h1 he => bE he λds h2 he => iE he λh3 he => bE he λq h4 he => pE2 he (k p.1 p.2 ds q.1 q.2 h1 h2 h3 h4)
@[elab_as_elim] theorem i_ext {vs : List Nat} (he : ev C (n + 1) l σ (.ext j vs) = some (d, σ')) (k : ∀ ds, valsOf l vs = some ds -> C (2000 + j) ds σ = some (d, σ') -> P d σ') : P d σ' :=
 bE he λds e1 h => k ds e1 h
end
noncomputable def may : Tag -> Bool
 | .src => true | .ad => true | .tr => true | .tb => true | .ac => true | _ => false
structure Ext (own own' : Addr -> Tag) (h h' : Heap) : Prop where
 tags : ∀ a o, h.get? a = some o -> own' a = own a
 objs : ∀ a o, h.get? a = some o -> may (own a) = false -> h'.get? a = some o
 ex : ∀ a o, h.get? a = some o -> ∃ o', h'.get? a = some o'
theorem Ext.refl (own : Addr -> Tag) (h : Heap) : Ext own own h h := ⟨λ_ _ _ => rfl, λ_ _ e _ => e, λ_ o e => ⟨o, e⟩⟩
theorem Ext.trans {o₁ o₂ o₃ : Addr -> Tag} {h₁ h₂ h₃ : Heap} (x : Ext o₁ o₂ h₁ h₂) (y : Ext o₂ o₃ h₂ h₃) : Ext o₁ o₃ h₁ h₃ :=
 ⟨λa o e => let ⟨o', e'⟩ := x.ex a o e; (y.tags a o' e').trans (x.tags a o e), λa o e hm => y.objs a o (x.objs a o e hm) (by rw [x.tags a o e]; exact hm), λa o e => let ⟨o', e'⟩ := x.ex a o e; y.ex a o' e'⟩
def TabAt (h : Heap) (own : Addr -> Tag) (P : Addr) (q : Str) : Prop := own P = .tb /\ ∃ ps, h.get? P = some (tabObj ps) /\ TriplesOk ps.toList /\ ∀ pos cv, codeAmong pos ps.toList = some cv -> CodeFz h own cv q
theorem TabAt.mono {h h' : Heap} {own own' : Addr -> Tag} (l : Le h h' own own') {P : Addr} {q : Str} (ht : own' P = .tb) (ho : ∀ o, h.get? P = some o -> h'.get? P = some o) (z : TabAt h own P q) : TabAt h' own' P q :=
 ⟨ht, z.2.elim λps z => ⟨ps, ho _ z.1, z.2.1, λpos cv hc => (z.2.2 pos cv hc).mono l⟩⟩
noncomputable def uq : Tag -> Bool
 | .src => true | .ad => true | .tr => true | .ac => true | _ => false
def SrcAt (g : Gh) (own : Addr -> Tag) (σ : Sg) (h : Heap) (a : Addr) : Prop := ∃ ds, σ.src = some ds /\ ∃ vs, h.IsList a vs.toArray /\ AtL g h own vs ds
def DicAt (g : Gh) (own : Addr -> Tag) (x : Option (List Nat × List D)) (h : Heap) (a : Addr) : Prop := ∃ p, x = some p /\ (∀ k ∈ p.1, k < 39) /\ ∃ vs, p.1.length = vs.length /\ h.DictOf (strKind g.prog g.w) a ((p.1.map sN).zip vs) /\ AtL g h own vs p.2
def AcAt (g : Gh) (own : Addr -> Tag) (σ : Sg) (h : Heap) (a : Addr) : Prop := ∃ ds, σ.ac = some ds /\ ∃ vs, h.PlainList a vs.toArray /\ AtL g h own vs ds
structure Shr (g : Gh) (own : Addr -> Tag) (σ : Sg) (h : Heap) : Prop where
 src : ∀ a, own a = .src -> SrcAt g own σ h a
 ad : ∀ a, own a = .ad -> DicAt g own σ.ad h a
 tr : ∀ a, own a = .tr -> DicAt g own σ.tr h a
 ac : ∀ a, own a = .ac -> AcAt g own σ h a
 one : ∀ a b, uq (own a) = true -> own a = own b -> a = b
section
variable {g : Gh} {own own' : Addr -> Tag} {h h' : Heap} {σ σ' : Sg} {a : Addr}
theorem SrcAt.mono (L : Le h h' own own') (ho : ∀ o, h.get? a = some o -> h'.get? a = some o) (e : σ'.src = σ.src) (z : SrcAt g own σ h a) : SrcAt g own' σ' h' a :=
 z.elim λds z => ⟨ds, e.trans z.1, z.2.elim λvs z => ⟨vs, list_keep ho z.1, AtL.mono L z.2⟩⟩
theorem DicAt.mono {x x' : Option (List Nat × List D)} (L : Le h h' own own') (ho : ∀ o, h.get? a = some o -> h'.get? a = some o) (e : x' = x) (z : DicAt g own x h a) : DicAt g own' x' h' a :=
 z.elim λp z => ⟨p, e.trans z.1, z.2.1, z.2.2.elim λvs z => ⟨vs, z.1, dict_keep ho z.2.1, AtL.mono L z.2.2⟩⟩
theorem AcAt.mono (L : Le h h' own own') (ho : ∀ o, h.get? a = some o -> h'.get? a = some o) (e : σ'.ac = σ.ac) (z : AcAt g own σ h a) : AcAt g own' σ' h' a :=
 z.elim λds z => ⟨ds, e.trans z.1, z.2.elim λvs z => ⟨vs, plist_keep ho z.1, AtL.mono L z.2⟩⟩
theorem Shr.mono (r : Shr g own σ h) (L : Le h h' own own') (ha : ∀ a, uq (own' a) = true -> own a = own' a) (hk : ∀ a o, uq (own a) = true -> h.get? a = some o -> h'.get? a = some o) : Shr g own' σ h' where
 src := λa e => (r.src a ((ha a (by rw [e]; rfl)).trans e)).mono L (λo => hk a o (by rw [ha a (by rw [e]; rfl), e]; rfl)) rfl
 ad := λa e => (r.ad a ((ha a (by rw [e]; rfl)).trans e)).mono L (λo => hk a o (by rw [ha a (by rw [e]; rfl), e]; rfl)) rfl
 tr := λa e => (r.tr a ((ha a (by rw [e]; rfl)).trans e)).mono L (λo => hk a o (by rw [ha a (by rw [e]; rfl), e]; rfl)) rfl
 ac := λa e => (r.ac a ((ha a (by rw [e]; rfl)).trans e)).mono L (λo => hk a o (by rw [ha a (by rw [e]; rfl), e]; rfl)) rfl
 one := λa b e f => r.one a b (by rw [ha a e]; exact e) ((ha a e).trans (f.trans (ha b (f ▸ e)).symm))
end
structure RG (g : Gh) (own : Addr -> Tag) (σ : Sg) (h : Heap) : Prop where
 base : ∀ b o, g.h₀.get? b = some o -> h.get? b = some o /\ own b = .fz
 lt : ∀ a, own a ≠ .no -> ∃ o, h.get? a = some o
 tb : ∀ P q, g.tab P = some q -> TabAt h own P q
 shr : Shr g own σ h
noncomputable def LAt (g : Gh) (h : Heap) (own : Addr -> Tag) (x : Nat) (v : Value) : LV -> Prop
 | .un => True
 | .val d => At g h own v d
 | .fv d => At g h own v d
 | .ow ds => ∃ a vs, v = .ref a /\ own a = .ol x /\ h.PlainList a vs.toArray /\ AtL g h own vs ds
 | .od ks ds => ∃ a vs, v = .ref a /\ own a = .ol x /\ (∀ k ∈ ks, k < 39) /\ ks.length = vs.length /\ h.DictOf (strKind g.prog g.w) a ((ks.map sN).zip vs) /\ AtL g h own vs ds
def VarAt (g : Gh) (h : Heap) (own : Addr -> Tag) (env : Env) (m : Str -> Option Value) (x : Nat) (lv : LV) : Prop :=
 (env.kindOf (vN x) = some .local /\ (lv = .un \/ ∃ v, m (vN x) = some v /\ LAt g h own x v lv)) \/
 ((env.kindOf (vN x) = some .cell \/ env.kindOf (vN x) = some .free) /\ ∃ c v, env.cells.lookup (vN x) = some c /\ (own c = .ce x \/ own c = .fz /\ ∃ d, lv = .fv d) /\ h.IsCell c v /\ (lv = .un \/ ∃ w, v = some w /\ LAt g h own x w lv))
structure R (g : Gh) (own : Addr -> Tag) (env : Env) (l : Loc) (σ : Sg) (h : Heap) : Prop extends RG g own σ h where
 kf : env.scope.kind = .function
 gl : env.globals = mainGlobals
 bu : env.builtins = builtinsNs
 fr : ∃ m, h.Ns env.locals m /\ own env.locals = .fr /\ (∀ p ∈ l, VarAt g h own env m p.1 p.2) /\ ∀ p ∈ l, p.1 < 48
section
variable {g : Gh} {own own' : Addr -> Tag} {h h' : Heap} {env : Env} {l : Loc} {σ σ' : Sg}
theorem RG.tag {σ : Sg} (r : RG g own σ h) (x : Ext own own' h h') {a : Addr} {t : Tag} (e : own a = t) (ht : t ≠ .no) : own' a = t :=
 let ⟨o, q⟩ := r.lt a (by rw [e]; exact ht); (x.tags a o q).trans e
theorem Ext.le {σ : Sg} (r : RG g own σ h) (x : Ext own own' h h') : Le h h' own own' :=
 ⟨λa o e ho => x.objs a o ho (by rw [e]; rfl), λ_ e => r.tag x e (by decide), λ_ e => r.tag x e (by decide), λ_ e => r.tag x e (by decide), λ_ e => r.tag x e (by decide), λ_ e => r.tag x e (by decide)⟩
theorem LAt.ext (r : RG g own σ h) (x : Ext own own' h h') {i : Nat} {v : Value} {lv : LV} (y : LAt g h own i v lv) : LAt g h' own' i v lv := by
 cases lv with
 | un => trivial
 | val _ => exact At.mono (x.le r) y
 | fv _ => exact At.mono (x.le r) y
 | ow _ => exact Exists.elim y λa y => y.elim λvs y => ⟨a, vs, y.1, r.tag x y.2.1 nofun, plist_keep (λo ho => x.objs _ _ ho (by rw [y.2.1]; rfl)) y.2.2.1, AtL.mono (x.le r) y.2.2.2⟩
 | od _ _ => exact Exists.elim y λa y => y.elim λvs y => ⟨a, vs, y.1, r.tag x y.2.1 nofun, y.2.2.1, y.2.2.2.1, dict_keep (λo ho => x.objs _ _ ho (by rw [y.2.1]; rfl)) y.2.2.2.2.1, AtL.mono (x.le r) y.2.2.2.2.2⟩
theorem VarAt.ext (r : RG g own σ h) (x : Ext own own' h h') {m : Str -> Option Value} {i : Nat} {lv : LV} (y : VarAt g h own env m i lv) : VarAt g h' own' env m i lv :=
 y.imp (λy => ⟨y.1, y.2.imp id λz => z.elim λv z => ⟨v, z.1, z.2.ext r x⟩⟩) λy => ⟨y.1, y.2.elim λc y => y.elim λv y => ⟨c, v, y.1, y.2.1.imp (λt => r.tag x t nofun) (λt => ⟨r.tag x t.1 nofun, t.2⟩),
  cell_keep (λo ho => x.objs _ _ ho (y.2.1.elim (λt => by rw [t]; rfl) λt => by rw [t.1]; rfl)) y.2.2.1, y.2.2.2.imp id λz => z.elim λw z => ⟨w, z.1, z.2.ext r x⟩⟩⟩
theorem R.ext (r : R g own env l σ h) (x : Ext own own' h h') (r' : RG g own' σ' h') : R g own' env l σ' h' :=
 ⟨r', r.kf, r.gl, r.bu, r.fr.elim λm z => ⟨m, ns_keep (λo ho => x.objs _ _ ho (by rw [z.2.1]; rfl)) z.1, r.tag x z.2.1 nofun, (λp hp => (z.2.2.1 p hp).ext r.toRG x), z.2.2.2⟩⟩
noncomputable def upd (own : Addr -> Tag) (a : Addr) (t : Tag) : Addr -> Tag := λb => if b = a then t else own b
theorem upd_self {own : Addr -> Tag} {a : Addr} {t : Tag} : upd own a t a = t := by simp [upd]
theorem upd_ne {own : Addr -> Tag} {a b : Addr} {t : Tag} (h : b ≠ a) : upd own a t b = own b := by simp [upd, h]
theorem RG.fresh (r : RG g own σ h) : own h.objs.size = .no := by
 cases q : own h.objs.size with
 | no => rfl
 | _ => obtain ⟨o, e⟩ := r.lt _ (by rw [q]; intro z; cases z); exact absurd (Heap.lt_size e) (Nat.lt_irrefl _)
theorem Ext.push (own : Addr -> Tag) (h : Heap) (o : Obj) (t : Tag) : Ext own (upd own h.objs.size t) h (h.push o) :=
 ⟨λ_ _ e => upd_ne (Nat.ne_of_lt (Heap.lt_size e)), λ_ _ e _ => Heap.get?_push_of_some _ e, λ_ o e => ⟨o, Heap.get?_push_of_some _ e⟩⟩
theorem Ext.push' (own : Addr -> Tag) (h : Heap) (o : Obj) : Ext own own h (h.push o) :=
 ⟨λ_ _ _ => rfl, λ_ _ e _ => Heap.get?_push_of_some _ e, λ_ o e => ⟨o, Heap.get?_push_of_some _ e⟩⟩
theorem RG.keepAll (r : RG g own σ h) (x : Ext own own' h h') (hk : ∀ b o, h.get? b = some o -> h'.get? b = some o) (hl : ∀ a, own' a ≠ .no -> ∃ o, h'.get? a = some o) (ha : ∀ a, uq (own' a) = true -> own a = own' a) : RG g own' σ h' where
 base := λb o e => ⟨hk _ _ (r.base b o e).1, r.tag x (r.base b o e).2 (by decide)⟩
 lt := hl
 tb := λP q e => (r.tb P q e).mono (x.le r) (r.tag x (r.tb P q e).1 (by decide)) (λo e => hk _ _ e)
 shr := r.shr.mono (x.le r) ha λa o _ e => hk a o e
theorem RG.push (r : RG g own σ h) (o : Obj) (t : Tag) (hf : o.isFreed = false := by rfl) (ht : uq t = false := by decide) : RG g (upd own h.objs.size t) σ (h.push o) := by
 refine r.keepAll (Ext.push own h o t) (λ_ _ e => Heap.get?_push_of_some _ e) (λa ha => ?_) (λa ha => ?_)
 ·
  by_cases q : a = h.objs.size
  ·subst q; exact ⟨o, Heap.get?_push_size _ hf⟩
  ·rw [upd_ne q] at ha; obtain ⟨o', e⟩ := r.lt a ha; exact ⟨o', Heap.get?_push_of_some _ e⟩
 ·by_cases q : a = h.objs.size
  ·subst q; rw [upd_self, ht] at ha; cases ha
  ·exact (upd_ne q).symm
theorem RG.push' (r : RG g own σ h) (o : Obj) : RG g own σ (h.push o) :=
 r.keepAll (Ext.push' own h o) (λ_ _ e => Heap.get?_push_of_some _ e) (λa ha => by obtain ⟨o', e⟩ := r.lt a ha; exact ⟨o', Heap.get?_push_of_some _ e⟩) λ_ _ => rfl
end
def Gives (g : Gh) (A : Around) (own : Addr -> Tag) (s : Shared) (t : Sem Value) (d : D) (σ' : Sg) : Prop :=
 ∀ (Q : Value -> Shared -> Prop) (E : Value -> Shared -> Prop),
  (∀ v h' tk' own', Ext own own' s.heap h' -> RG g own' σ' h' -> At g h' own' v d -> Q v { s with heap := h', toks := tk' }) -> wpAny (model g.prog g.w) A t Q E s
def GivesB (g : Gh) (A : Around) (own : Addr -> Tag) (s : Shared) (t : Sem Bool) (b : Bool) (σ' : Sg) : Prop :=
 ∀ (Q : Bool -> Shared -> Prop) (E : Value -> Shared -> Prop),
  (∀ h' tk' own', Ext own own' s.heap h' -> RG g own' σ' h' -> Q b { s with heap := h', toks := tk' }) -> wpAny (model g.prog g.w) A t Q E s
def GivesL (g : Gh) (A : Around) (own : Addr -> Tag) (s : Shared) (t : Sem (List Value)) (ds : List D) (σ' : Sg) : Prop :=
 ∀ (Q : List Value -> Shared -> Prop) (E : Value -> Shared -> Prop),
  (∀ vs h' tk' own', Ext own own' s.heap h' -> RG g own' σ' h' -> AtL g h' own' vs ds -> Q vs { s with heap := h', toks := tk' }) -> wpAny (model g.prog g.w) A t Q E s
structure CA (A : Around) (k : Nat) : Prop where
 hd : A.handled = none
 dp : A.depth + k < recursionLimit
 un : A.units + 3 * k + 300 < cLine
section
variable {g : Gh} {A : Around} {own : Addr -> Tag} {s : Shared} {σ σ₁ σ₂ σ₃ : Sg} {d e : D}
theorem new_tuple {vs : List Value} {ds : List D} (r : RG g own σ s.heap) (y : AtL g s.heap own vs ds) (hz : ds.length <= sizeLine) : Gives g A own s (newTuple vs) (.tup ds) σ := λQ E K => by
 have hl := y.length
 have x := Ext.push own s.heap ({ cls := .type "tuple", data := .seq vs.toArray } : Obj) .fz
 refine wpAny_newObj_type ?_ (by show vs.toArray.size <= sizeLine; rw [List.size_toArray, hl]; exact hz)
 exact K _ _ _ _ x (r.push _ _) (.tup upd_self ⟨_, Heap.get?_push_size _ rfl, rfl, _, rfl⟩ (AtL.mono (x.le r) y))
theorem new_list {vs : List Value} {ds : List D} (r : RG g own σ s.heap) (y : AtL g s.heap own vs ds) (hz : ds.length <= sizeLine) : Gives g A own s (newList vs) (.list ds) σ := λQ E K => by
 have hl := y.length
 have x := Ext.push own s.heap ({ cls := .type "list", data := .seq vs.toArray } : Obj) .fz
 refine wpAny_newObj_type ?_ (by show vs.toArray.size <= sizeLine; rw [List.size_toArray, hl]; exact hz)
 exact K _ _ _ _ x (r.push _ _) (.list upd_self ⟨_, Heap.get?_push_size _ rfl⟩ (AtL.mono (x.le r) y))
theorem lookup_mem {l : Loc} {i : Nat} {lv : LV} (hl : l.lookup i = some lv) : (i, lv) ∈ l := by
 induction l with
 | nil => exact nomatch hl
 | cons q r ih =>
  obtain ⟨j, w⟩ := q
  rw [List.lookup_cons] at hl
  split at hl
  ·rename_i e; cases hl; exact eq_of_beq e ▸ .head _
  ·exact .tail _ (ih hl)
theorem vN_cls (j : Nat) : (vN j == ("__classdict__" : Str)) = false := by
 by_cases hj : j < 48
 ·exact (by decide +kernel : ∀ j < 48, (vN j == ("__classdict__" : Str)) = false) j hj
 ·have : vN j = Str.ofString "" := congrArg Str.ofString (by rw [List.getD, List.getElem?_eq_none (Nat.not_lt.mp hj)]; rfl)
  rw [this]; decide +kernel
theorem lname {env : Env} {l : Loc} {i : Nat} {p : Pos} {lv : LV} {Q : Value → Shared → Prop} {E : Value → Shared → Prop} (r : R g own env l σ s.heap) (hl : l.lookup i = some lv) (hu : lv ≠ .un) (hd : (vN i == ("__debug__" : Str)) = false)
  (hQ : ∀ v, LAt g s.heap own i v lv -> Q v s) : wpAny (model g.prog g.w) A (eval (.Name (vN i) p) env) Q E s := by
 refine wpAny_Name ?_ hd
 obtain ⟨m, hn, ht, hv⟩ := r.fr
 refine (hv.1 _ (lookup_mem hl)).elim (λy => y.2.elim (λy => absurd y hu) λz => z.elim λv z => wpAny_loadName_local r.kf y.1 hn z.1 (hQ _ z.2)) λy => y.2.elim λc z => z.elim λv z => z.2.2.2.elim (λy => absurd y hu) λw => w.elim λw q => ?_
 have hc := z.2.2.1
 rw [q.1] at hc
 exact y.1.elim (λk => wpAny_loadName_cell r.kf k z.1 hc (hQ _ q.2)) λk => wpAny_loadName_free r.kf k z.1 hc (hQ _ q.2) (vN_cls i)
theorem gives_var {env : Env} {l : Loc} {i : Nat} {p : Pos} (r : R g own env l σ s.heap) (hl : l.lookup i = some (.val d) ∨ l.lookup i = some (.fv d)) (hd : (vN i == ("__debug__" : Str)) = false) : Gives g A own s (eval (.Name (vN i) p) env) d σ := fun Q E K =>
 hl.elim (λhl => lname r hl nofun hd λ_ z => K _ _ _ _ (Ext.refl _ _) r.toRG z) λhl => lname r hl nofun hd λ_ z => K _ _ _ _ (Ext.refl _ _) r.toRG z
theorem dict_nil {h : Heap} {a : Addr} (e : h.get? a = some { cls := .type "dict", data := .dict #[] }) : h.DictOf (strKind g.prog g.w) a ((([] : List Nat).map sN).zip ([] : List Value)) :=
 ⟨_, _, _, e, ⟨rfl, rfl, rfl⟩, rfl, (λe h => by simp at h), .nil, .nil⟩
theorem gives_nil (r : RG g own σ s.heap) : GivesL g A own s (spliced []) [] σ := λ_ _ K => spliced_nil (K _ _ _ _ (Ext.refl _ _) r .nil)
theorem gives_cons {x : Sem Value} {rest : List (Bool × Sem Value)} {ds : List D} (r : RG g own σ s.heap) (h1 : Gives g A own s x d σ₁)
  (h2 : ∀ h' tk' own', Ext own own' s.heap h' -> RG g own' σ₁ h' -> GivesL g A own' { s with heap := h', toks := tk' } (spliced rest) ds σ₂) : GivesL g A own s (spliced ((false, x) :: rest)) (d :: ds) σ₂ := λQ E K =>
 spliced_cons (h1 _ _ λv h' tk' own' x' r' y => h2 h' tk' own' x' r' _ _ λvs h'' tk'' own'' x'' r'' ys => K _ _ _ _ (x'.trans x'') r'' (.cons (At.mono (x''.le r') y) ys))
end
end Mine
end
section
open PySem PySem.W PySem.Calls PyProof.Rows PySem.SeqAt
namespace Mine
section
variable {g : Gh} {A : Around} {own : Addr -> Tag} {s : Shared} {σ σ₁ σ₂ σ₃ : Sg} {d e : D}
theorem PlainList.is {h : Heap} {a : Addr} {items : Array Value} (x : h.PlainList a items) : h.IsList a items := let ⟨n, ho⟩ := x; ⟨_, ho, rfl, n, rfl⟩
theorem okDs_plain {ds : List D} (h : okDs ds = true) : plains ds = true := by unfold okDs at h; rw [Bool.and_eq_true] at h; exact h.1
theorem okDs_dep {ds : List D} (h : okDs ds = true) : deps ds <= 100 := by unfold okDs at h; rw [Bool.and_eq_true] at h; exact of_decide_eq_true h.2
theorem okD_plain {d : D} (h : okD d = true) : plain d = true := by unfold okD at h; rw [Bool.and_eq_true] at h; exact h.1
theorem eq_lists {a b : Addr} {vs ws : List Value} {ds es : List D} (z : s.heap.IsList a vs.toArray) (z' : s.heap.IsList b ws.toArray) (hl : AtL g s.heap own vs ds) (hl' : AtL g s.heap own ws es) (k1 : okDs ds = true) (k2 : okDs es = true)
  (hu : A.units + 300 < cLine) : RcAt A s (.ref a) (.ref b) (deqs ds es) := by
 have l1 := hl.length
 have l2 := hl'.length
 by_cases hlen : vs.toArray.size = ws.toArray.size
 ·have r := RcAt.lists (A := A) (e := λj => deq (ds.getD j .none) (es.getD j .none)) z z' hlen (by lia) (λj h1 h2 => ?_)
  ·have e1 : ((List.range vs.toArray.size).all (fun j => deq (ds.getD j .none) (es.getD j .none))) = deqs ds es := by
    rw [<- deqs_places]; simp only [List.size_toArray] at hlen ⊢; rw [<- l1, <- l2, <- hlen, Nat.min_self]; simp
   rw [e1] at r
   exact r
  ·simp at h1 h2
   obtain ⟨d1, hd1, x1⟩ := hl.get' (i := j) (v := vs[j]) (by simp [h1])
   obtain ⟨d2, hd2, x2⟩ := hl'.get' (i := j) (v := ws[j]) (by simp [h2])
   have g1 : ds.getD j .none = d1 := by simp [List.getD, hd1]
   have g2 : es.getD j .none = d2 := by simp [List.getD, hd2]
   have hdp := deps_get hd1
   have := okDs_dep k1
   show EqAt A.in1 s vs.toArray[j] ws.toArray[j] (deq (ds.getD j .none) (es.getD j .none))
   rw [g1, g2]
   have := eqAt 100 (A := A.in1) x1 x2 (plains_get (okDs_plain k1) hd1) (plains_get (okDs_plain k2) hd2) (by lia) (by show A.units + 1 + 100 + 1 < cLine; lia)
   simpa using this
 ·have r := RcAt.lists_lengths (A := A) z z' (by simpa using hlen) (by lia)
  have e1 : deqs ds es = false := by
   cases hq : deqs ds es with
   | false => rfl
   | true => have := deqs_len hq; simp at hlen; lia
  rw [e1]; exact r
theorem ne_lists {a b : Addr} {vs ws : List Value} {ds es : List D} (z : s.heap.IsList a vs.toArray) (z' : s.heap.IsList b ws.toArray) (hl : AtL g s.heap own vs ds) (hl' : AtL g s.heap own ws es) (k1 : okDs ds = true) (k2 : okDs es = true)
  (hu : A.units + 300 < cLine) : RcNeAt A s (.ref a) (.ref b) (!deqs ds es) := by
 have l1 := hl.length
 have l2 := hl'.length
 by_cases hlen : vs.toArray.size = ws.toArray.size
 ·have r := RcNeAt.lists (A := A) (e := λj => deq (ds.getD j .none) (es.getD j .none)) z z' hlen (by lia) (λj h1 h2 => ?_)
  ·have e1 : ((List.range vs.toArray.size).all (fun j => deq (ds.getD j .none) (es.getD j .none))) = deqs ds es := by
    rw [<- deqs_places]; simp only [List.size_toArray] at hlen ⊢; rw [<- l1, <- l2, <- hlen, Nat.min_self]; simp
   rw [e1] at r
   exact r
  ·simp at h1 h2
   obtain ⟨d1, hd1, x1⟩ := hl.get' (i := j) (v := vs[j]) (by simp [h1])
   obtain ⟨d2, hd2, x2⟩ := hl'.get' (i := j) (v := ws[j]) (by simp [h2])
   have g1 : ds.getD j .none = d1 := by simp [List.getD, hd1]
   have g2 : es.getD j .none = d2 := by simp [List.getD, hd2]
   have hdp := deps_get hd1
   have := okDs_dep k1
   show EqAt A.in1 s vs.toArray[j] ws.toArray[j] (deq (ds.getD j .none) (es.getD j .none))
   rw [g1, g2]
   have := eqAt 100 (A := A.in1) x1 x2 (plains_get (okDs_plain k1) hd1) (plains_get (okDs_plain k2) hd2) (by lia) (by show A.units + 1 + 100 + 1 < cLine; lia)
   simpa using this
 ·have r := RcNeAt.lists_lengths (A := A) z z' (by simpa using hlen) (by lia)
  have e1 : deqs ds es = false := by
   cases hq : deqs ds es with
   | false => rfl
   | true => have := deqs_len hq; simp at hlen; lia
  rw [e1]; exact r
theorem any_in {a : Addr} {vs : List Value} {v : Value} {ds : List D} (hl : AtL g s.heap own vs ds) (x : At g s.heap own v d) (k1 : okD d = true) (k2 : okDs ds = true) (hu : A.units + 300 < cLine) :
  ∃ f : Value -> Bool, (∀ y, y ∈ vs.toArray -> EqAt A.in1 s y v (f y)) /\ vs.toArray.any f = ds.any λy => deq y d := by
 classical
 have pick : ∀ y, y ∈ vs -> ∃ b, (∃ e, e ∈ ds /\ At g s.heap own y e /\ b = deq e d) := by
  intro y hy
  obtain ⟨i, hi, rfl⟩ := List.getElem_of_mem hy
  obtain ⟨e, he, z⟩ := hl.get' (i := i) (v := vs[i]) (by simp [hi])
  exact ⟨_, e, List.mem_of_getElem? he, z, rfl⟩
 refine ⟨λy => if h : ∃ b, (∃ e, e ∈ ds /\ At g s.heap own y e /\ b = deq e d) then Classical.choose h else false, λy hy => ?_, ?_⟩
 ·have h := pick y (by simpa using hy)
  dsimp only
  rw [dif_pos h]
  obtain ⟨e, he, z, q⟩ := Classical.choose_spec h
  rw [q]
  obtain ⟨i, hi, rfl⟩ := List.getElem_of_mem he
  have hdp := deps_get (ds := ds) (i := i) (d := ds[i]) (by simp [hi])
  have := okDs_dep k2
  exact eqAt 100 (A := A.in1) z x (plains_get (okDs_plain k2) (i := i) (by simp [hi])) (okD_plain k1) (by lia) (by show A.units + 1 + 100 + 1 < cLine; lia)
 ·have key : ∀ (vs' : List Value) (ds' : List D), AtL g s.heap own vs' ds' → plains ds' = true → (∀ e ∈ ds', e ∈ ds) → vs'.any (fun y => if h : ∃ b, (∃ e, e ∈ ds ∧ At g s.heap own y e ∧ b = deq e d) then Classical.choose h else false) = ds'.any fun y => deq y d := by
   intro vs'
   induction vs' with
   | nil => intro ds' h _ _; cases h; rfl
   | cons w vs' ih =>
    intro ds' h p hs
    cases h with
    | cons a r =>
     rename_i e ds''
     rw [plains, Bool.and_eq_true] at p
     rw [List.any_cons, List.any_cons, ih _ r p.2 λe he => hs e (.tail _ he)]
     congr 1
     have h : ∃ b, (∃ e, e ∈ ds /\ At g s.heap own w e /\ b = deq e d) := ⟨_, e, hs e (.head _), a, rfl⟩
     rw [dif_pos h]
     obtain ⟨e', he', z, q⟩ := Classical.choose_spec h
     rw [q]
     obtain ⟨i, hi, rfl⟩ := List.getElem_of_mem he'
     rw [At.fun z a (plains_get (okDs_plain k2) (i := i) (by simp [hi])) p.1]
  have := key vs ds hl (okDs_plain k2) λ_ h => h
  simpa using this
theorem valueAt_lookD {h : Heap} : ∀ {ks : List Nat} {vs : List Value} {ds : List D} {k : Nat} {d : D}, (∀ k ∈ ks, k < 39) → k < 39 → AtL g h own vs ds → lookD ks ds k = some d →
  ∃ v, valueAt ((ks.map sN).zip vs) (sN k) = some v /\ At g h own v d
 | [], _, _, _, _, _, _, _, e => by simp [lookD] at e
 | _ :: _, _, _, _, _, _, _, .nil, e => by simp [lookD] at e
 | j :: ks, v :: vs, _ :: ds, k, d, hk, hk', .cons a r, e => by
  have hj := hk j (.head _)
  unfold lookD at e
  simp only [List.zip_cons_cons, List.lookup_cons] at e
  unfold valueAt
  simp only [List.map_cons, List.zip_cons_cons, List.find?_cons]
  by_cases q : k = j
  ·subst q
   simp at e; subst e
   exact ⟨v, by simp, a⟩
  ·have n1 : (k == j) = false := by simp [q]
   rw [n1] at e
   have n2 : decide (sN j = sN k) = false := by
    apply decide_eq_false
    intro h
    have := sN_inj hj hk'
    rw [h] at this; simp at this; exact q this.symm
   rw [n2]
   exact valueAt_lookD (λk h => hk k (.tail _ h)) hk' r e
theorem hi_c {js : List Nat} {es ds : List D} {k : Nat} {ks : List Nat} {G : Prop} (h : hasInts js es (k :: ks) (d :: ds) = true) (c : ∀ a b, d = .int a -> lookD js es k = some (.int b) -> (a == b) = true -> hasInts js es ks ds = true -> G) : G := by
 cases d with
 | int a =>
  have h := Bool.and_eq_true_iff.mp h
  have h1 := h.1
  cases q : lookD js es k with
  | none => rw [q] at h1; exact nB h1
  | some e => rw [q] at h1; cases e with
   | int b => exact c a b rfl q h1 h.2
   | _ => exact nB h1
 | _ => exact nB h
@[elab_as_elim] theorem AtL.cons_e {h : Heap} {vs : List Value} {ds : List D} {P : List Value -> Prop} (y : AtL g h own vs (d :: ds)) (k : ∀ v vs, At g h own v d -> AtL g h own vs ds -> P (v :: vs)) : P vs := by
 cases y with | cons a r => exact k _ _ a r
theorem hits_ints {js : List Nat} {es : List D} {ws : List Value} (hj : ∀ k ∈ js, k < 39) (hw : AtL g s.heap own ws es) (ks : List Nat) : ∀ (vs : List Value) (ds : List D), (∀ k ∈ ks, k < 39) -> AtL g s.heap own vs ds -> hasInts js es ks ds = true -> KeqHits A s ((js.map sN).zip ws) ((ks.map sN).zip vs) true := by
 induction ks with
 | nil => exact λ_ _ _ _ _ => KeqHits.nil
 | cons k ks ih =>
  intro vs ds
  cases ds with
  | nil => exact λ_ _ h => nB h
  | cons d ds =>
   intro hk y h
   refine y.cons_e λv vs a r => hi_c h λi b hd q h1 h2 => ?_
   subst hd
   obtain ⟨w, hv, yw⟩ := valueAt_lookD hj (hk k (.head _)) hw q
   refine At.int_e (P := λw => valueAt ((js.map sN).zip ws) (sN k) = some w -> _) yw (λu => a.int_e λt hv => ?_) hv
   have e1 := EqAt.int_int (A := A) (s := s) i t b u
   rw [h1] at e1
   exact KeqHits.hit (k := sN k) hv e1 (ih vs ds (λk h => hk k (.tail _ h)) r h2)
theorem cmp_e {P : CmpOp → D → D → Bool → Prop} {op : CmpOp} {b : Bool} (hr : cmpD op d e = some b) (k1 : ∀ a b, P .Eq (.str a) (.str b) (a == b)) (k2 : ∀ a b, P .Eq (.int a) (.int b) (a == b)) (k3 : ∀ a b, okDs a = true → okDs b = true → P .Eq (.list a) (.list b) (deqs a b))
  (k4 : ∀ ks ds js es, ks.length = js.length -> hasInts js es ks ds = true -> P .Eq (.dict ks ds) (.dict js es) true) (k5 : ∀ a b, P .NotEq (.str a) (.str b) (!(a == b))) (k6 : ∀ a b, okDs a = true -> okDs b = true -> P .NotEq (.list a) (.list b) (!deqs a b))
  (k7 : ∀ a b, P .Gt (.int a) (.int b) (decide (b < a))) (k8 : ∀ a b, P .Lt (.int a) (.int b) (decide (a < b))) (k9 : ∀ a b, P .GtE (.int a) (.int b) (decide (b <= a))) (k10 : ∀ d ds, okD d = true -> okDs ds = true -> P .In d (.list ds) (ds.any λy => deq y d))
  (k11 : ∀ d ds, okD d = true -> okDs ds = true -> P .NotIn d (.list ds) (!ds.any λy => deq y d)) (k12 : ∀ d, P .Is d .none (match d with | .none => true | _ => false)) : P op d e b := by
 have two : ∀ {p q : Bool}, (p && q) = true -> p = true /\ q = true := λh => Bool.and_eq_true_iff.mp h
 cases op with
 | Eq =>
  cases d with
  | str a => cases e <;> first | exact pE hr (k1 _ _) | exact no hr
  | int a => cases e <;> first | exact pE hr (k2 _ _) | exact no hr
  | list a => cases e <;> first | exact iE hr λh q => pE q (k3 _ _ (two h).1 (two h).2) | exact no hr
  | dict a b => cases e <;> first | exact iE hr λh q => pE q (k4 _ _ _ _ h.1 h.2) | exact no hr
  | _ => exact no hr
 | NotEq =>
  cases d with
  | str a => cases e <;> first | exact pE hr (k5 _ _) | exact no hr
  | list a => cases e <;> first | exact iE hr λh q => pE q (k6 _ _ (two h).1 (two h).2) | exact no hr
  | _ => exact no hr
 | Gt => cases d with
  | int a => cases e <;> first | exact pE hr (k7 _ _) | exact no hr
  | _ => exact no hr
 | Lt => cases d with
  | int a => cases e <;> first | exact pE hr (k8 _ _) | exact no hr
  | _ => exact no hr
 | GtE => cases d with
  | int a => cases e <;> first | exact pE hr (k9 _ _) | exact no hr
  | _ => exact no hr
 | In => cases e <;> first | exact iE hr λh q => pE q (k10 _ _ (two h).1 (two h).2) | exact no hr
 | NotIn => cases e <;> first | exact iE hr λh q => pE q (k11 _ _ (two h).1 (two h).2) | exact no hr
 | Is => cases e <;> first | exact pE hr (k12 _) | exact no hr
 | _ => exact no hr
theorem cmp_ok {op : CmpOp} {v w : Value} {b : Bool} (hr : cmpD op d e = some b) (x : At g s.heap own v d) (y : At g s.heap own w e) (hu : A.units + 300 < cLine) {Q : Value -> Shared -> Prop} {E : Value -> Shared -> Prop} (h : Q (.bool b) s) : wpAny (model g.prog g.w) A (compareOp op v w) Q E s := by
 refine cmp_e (P := λop d e b => At g s.heap own v d -> At g s.heap own w e -> Q (.bool b) s -> wpAny (model g.prog g.w) A (compareOp op v w) Q E s) hr ?_ ?_ ?_ ?_ ?_ ?_ ?_ ?_ ?_ ?_ ?_ ?_ x y h
 ·exact λa b x y h => x.str_e λt h1 => y.str_e λu h2 => PyProof.Rows.eq_str (by rw [sN_inj h1 h2]; exact h)
 ·exact λa b x y h => x.int_e λt => y.int_e λu => PyProof.Rows.eq_int h
 ·exact λa b k1 k2 x y h => x.list_e λ_ _ hf z hl => y.list_e λ_ _ hf' z' hl' => eq_lists (PlainList.is z) (PlainList.is z') hl hl' k1 k2 hu g.prog g.w E Q h
 ·refine λks ds js es hl0 hk x y h => x.dict_e λ_ vs hf hs hk1 hz z hl => y.dict_e λ_ ws hf' hs' hk1' hz' z' hl' => ?_
  refine keq_eq hs hs' z z' (by lia) (λ_ => hits_ints hk1' hl' _ _ _ hk1 hl hk) ?_
  have e1 : ∀ (p q : List (Str × Value)), p.length = q.length -> (p.length == q.length && true) = true := λp q e => by rw [Bool.and_true, beq_iff_eq]; exact e
  rw [e1 _ _ (by rw [List.length_zip, List.length_zip, List.length_map, List.length_map, <- hz, <- hz', Nat.min_self, Nat.min_self]; exact hl0)]; exact h
 ·exact λa b x y h => x.str_e λt h1 => y.str_e λu h2 => PyProof.Rows.ne_str (by unfold bne; rw [sN_inj h1 h2]; exact h)
 ·exact λa b k1 k2 x y h => x.list_e λ_ _ hf z hl => y.list_e λ_ _ hf' z' hl' => ne_lists (PlainList.is z) (PlainList.is z') hl hl' k1 k2 hu g.prog g.w E Q h
 ·exact λa b x y h => x.int_e λt => y.int_e λu => PyProof.Rows.gt_int h
 ·exact λa b x y h => x.int_e λt => y.int_e λu => PyProof.Rows.lt_int h
 ·exact λa b x y h => x.int_e λt => y.int_e λu => PyProof.Rows.ge_int h
 ·refine λd ds k1 k2 x y h => y.list_e λ_ _ hf z hl => ?_
  obtain ⟨f, hf1, hf2⟩ := any_in (a := 0) hl x k1 k2 hu
  exact in_listAt f (PlainList.is z) hf1 (by rw [hf2]; exact h)
 ·refine λd ds k1 k2 x y h => y.list_e λ_ _ hf z hl => ?_
  obtain ⟨f, hf1, hf2⟩ := any_in (a := 0) hl x k1 k2 hu
  exact notIn_listAt f (PlainList.is z) hf1 (by rw [hf2]; exact h)
 ·refine λd x y h => y.none_e (PySem.is_none ?_)
  cases x <;> exact h
theorem valueAt_lookD_none {h : Heap} : ∀ {ks : List Nat} {vs : List Value} {ds : List D} {k : Nat}, (∀ k ∈ ks, k < 39) → k < 39 → AtL g h own vs ds → lookD ks ds k = none →
  valueAt ((ks.map sN).zip vs) (sN k) = none
 | [], _, _, _, _, _, _, e => by simp [valueAt]
 | _ :: _, _, _, _, _, _, .nil, e => by simp [valueAt]
 | j :: ks, v :: vs, _ :: ds, k, hk, hk', .cons a r, e => by
  have hj := hk j (.head _)
  unfold lookD at e
  simp only [List.zip_cons_cons, List.lookup_cons] at e
  unfold valueAt
  simp only [List.map_cons, List.zip_cons_cons, List.find?_cons]
  by_cases q : k = j
  ·subst q; simp at e
  ·have n1 : (k == j) = false := by simp [q]
   rw [n1] at e
   have n2 : decide (sN j = sN k) = false := by
    apply decide_eq_false
    intro h
    have := sN_inj hj hk'
    rw [h] at this; simp at this; exact q this.symm
   rw [n2]
   exact valueAt_lookD_none (λk h => hk k (.tail _ h)) hk' r e
theorem item_e {P : D → D → Prop} {r : D} (hr : item σ d e = some r) (kt : ∀ ds i, itemAt ds i = some r → P (.tup ds) (.int i)) (kl : ∀ ds i, itemAt ds i = some r → P (.list ds) (.int i)) (kd : ∀ ks ds k, lookD ks ds k = some r → P (.dict ks ds) (.str k))
  (ks : ∀ ds i, σ.src = some ds -> itemAt ds i = some r -> P .src (.int i)) (ka : ∀ p k, σ.ad = some p -> lookD p.1 p.2 k = some r -> P .adts (.str k)) (kr : ∀ p k, σ.tr = some p -> lookD p.1 p.2 k = some r -> P .trs (.str k)) : P d e := by
 cases d with
 | tup ds => cases e <;> first | exact kt _ _ hr | exact no hr
 | list ds => cases e <;> first | exact kl _ _ hr | exact no hr
 | dict a b => cases e <;> first | exact kd _ _ _ hr | exact no hr
 | src => cases e <;> first | exact bE hr λds h1 h2 => ks _ _ h1 h2 | exact no hr
 | adts => cases e <;> first | exact bE hr λds h1 h2 => ka _ _ h1 h2 | exact no hr
 | trs => cases e <;> first | exact bE hr λds h1 h2 => kr _ _ h1 h2 | exact no hr
 | _ => exact no hr
theorem item_ok {v w : Value} {r : D} {value slice : Expr} (hr : item σ d e = some r) (rg : RG g own σ s.heap) (x : At g s.heap own v d) (y : At g s.heap own w e)
  (hsl : ∀ o i, subscripted slice false o i = operate [o, i] (getItem o i)) : Gives g A own s (subscriptTail value slice v w) r σ := λQ E K => by
 have seq : ∀ {a : Addr} {vs : List Value} {ds : List D} {i : Int} {t : Tok}, (s.heap.IsTuple a vs.toArray \/ s.heap.IsList a vs.toArray) -> AtL g s.heap own vs ds -> itemAt ds i = some r -> wpAny (model g.prog g.w) A (subscriptTail value slice (.ref a) (.int i t)) Q E s := by
  intro a vs ds i t z hl e
  unfold itemAt at e
  split at e
  ·rename_i hi
   obtain ⟨v, hv, q⟩ := hl.get e
   rcases z with z | z
   ·have hlt : i.toNat < vs.length := by
     have := (List.getElem?_eq_some_iff.mp hv).1; lia
    refine tail_any z.typeIs PyProof.Rows.slot_tuple_getitem.lookup (PyProof.Rows.getItem_tuple (j := i.toNat) z (by lia) (by lia) ?_ (by simpa using hv) (K _ _ _ _ (Ext.refl _ _) rg q)) (hsl _ _)
    unfold seqIndex?
    simp
    lia
   ·exact tail_any z.typeIs PySem.slot_list_getitem.lookup (wpAny_getItem_list z hi.1 (by lia) (by simpa using hv) (K _ _ _ _ (Ext.refl _ _) rg q)) (hsl _ _)
  ·cases e
 have dic : ∀ {a : Addr} {ks : List Nat} {vs : List Value} {ds : List D} {k : Nat} {t : Tok}, (∀ k ∈ ks, k < 39) → s.heap.DictOf (strKind g.prog g.w) a ((ks.map sN).zip vs) → AtL g s.heap own vs ds → k < 39 → lookD ks ds k = some r →
   wpAny (model g.prog g.w) A (subscriptTail value slice (.ref a) (.str (sN k) t)) Q E s := by
  intro a ks vs ds k t hk z hl hk' e
  obtain ⟨v, hv, q⟩ := valueAt_lookD hk hk' hl e
  exact tail_any z.typeIs PySem.slot_dict_getitem.lookup (wpAny_getItem_of (strKind_is _ _ _ _) z.mapOf hv (K _ _ _ _ (Ext.refl _ _) rg q)) (hsl _ _)
 refine item_e (P := λd e => At g s.heap own v d -> At g s.heap own w e -> wpAny (model g.prog g.w) A (subscriptTail value slice v w) Q E s) hr ?_ ?_ ?_ ?_ ?_ ?_ x y
 ·exact λds i h x y => x.tup_e λa vs hf z hl => y.int_e λt => seq (.inl z) hl h
 ·exact λds i h x y => x.list_e λa vs hf z hl => y.int_e λt => seq (.inr (PlainList.is z)) hl h
 ·exact λks ds k h x y => x.dict_e λa vs hf hs hk hz z hl => y.str_e λt h1 => dic hk z hl h1 h
 ·refine λds i h1 h x y => x.src_e λa ho => y.int_e λt => ?_
  obtain ⟨ds', h3, vs, z, hl⟩ := rg.shr.src _ ho
  exact seq (.inr z) hl (Option.some.inj (h1.symm.trans h3) ▸ h)
 ·refine λp k h1 h x y => x.adts_e λa ho => y.str_e λt h3 => ?_
  obtain ⟨p', h4, hk, vs, hz, z, hl⟩ := rg.shr.ad _ ho
  cases Option.some.inj (h1.symm.trans h4)
  exact dic hk z hl h3 h
 ·refine λp k h1 h x y => x.trs_e λa ho => y.str_e λt h3 => ?_
  obtain ⟨p', h4, hk, vs, hz, z, hl⟩ := rg.shr.tr _ ho
  cases Option.some.inj (h1.symm.trans h4)
  exact dic hk z hl h3 h
theorem bin_ok {op : Operator} {a b r : Int} {t u : Tok} (hr : binD op a b = some r) {Q : Value -> Shared -> Prop} {E : Value -> Shared -> Prop} (h : ∀ tk tk', Q (.int r tk) { s with toks := tk' }) : wpAny (model g.prog g.w) A (binaryOp op (.int a t) (.int b u)) Q E s := by
 cases op with
 | Add => cases Option.some.inj hr; exact PyProof.Rows.add_int (h _ _)
 | Sub => cases Option.some.inj hr; exact PyProof.Rows.sub_int (h _ _)
 | Mult => exact iE hr λhb q => by cases Option.some.inj q; exact PyProof.Rows.mul_int (h _ _) (PySem.IntMulOk.of_right (PySem.intBits_le_64 (by lia) (by lia)))
 | Pow => exact iE hr λhb q => by cases Option.some.inj q; exact pow_int_small hb.2.1 (by lia) hb.1 (h _ _)
 | Mod => exact iE hr λhb q => by cases Option.some.inj q; exact PyProof.Rows.mod_int' hb (h _ _)
 | FloorDiv => exact iE hr λhb q => by cases Option.some.inj q; exact PyProof.Rows.floordiv_int (by lia) (h _ _) (.inl (PyProof.noPylong_small (by lia)))
 | _ => exact no hr
end
section
variable {prog : Program} {w : World} {A : Around} {E : Value -> Shared -> Prop} {s : Shared}
theorem sliceApplied_upto {sl : Addr} {a n : Nat} {u : Tok} {Q : Int × Int × Nat → Shared → Prop} (hs : s.heap.IsSliceOf sl .none (.int a u) .none) (h : Q (0, 1, min a n) s) :
  wpAny (model prog w) A (Builtin.Slice.sliceApplied (.ref sl) (pure (n : Int))) Q E s := by
 obtain ⟨os, hos, hcs, hds⟩ := id hs
 unfold Builtin.Slice.sliceApplied Builtin.Slice.sliceFields
 refine wpAny_bind (wpAny_bind (wpAny_field hos hds (x := .none) rfl (wpAny_bind (wpAny_field hos hds (x := .int a u) rfl (wpAny_bind (wpAny_field hos hds (x := .none) rfl (wpAny_pure ?_)))))))
 refine wpAny_bind (slicePart_none ?_)
 show wpAny _ _ (if ((1 : Int) == 0) = true then _ else _) _ _ s
 rw [if_neg (by decide)]
 refine wpAny_bind (slicePart_none (wpAny_bind (slicePart_int (wpAny_bind (wpAny_pure ?_)))))
 have e : Builtin.Slice.sliceAdjust none (some (a : Int)) 1 (n : Int) = (0, ((min a n : Nat) : Int)) := by
  unfold Builtin.Slice.sliceAdjust
  have h1 : ¬ ((1 : Int) < 0) := by lia
  have h2 : ¬ ((a : Int) < 0) := by lia
  simp only [h1, h2, if_false]
  congr 1
  lia
 show wpAny _ _ (match Builtin.Slice.sliceAdjust none (some (a : Int)) 1 (n : Int) with | (lo, hi) => pure (lo, (1 : Int), Builtin.Slice.slicePlaces lo hi 1)) _ _ s
 rw [e]
 have e2 : Builtin.Slice.slicePlaces 0 ((min a n : Nat) : Int) 1 = min a n := by
  unfold Builtin.Slice.slicePlaces
  have h1 : (1 : Int) > 0 := by lia
  simp only [h1, if_true, Int.ediv_one]
  split <;> lia
 show wpAny _ _ (pure ((0 : Int), (1 : Int), Builtin.Slice.slicePlaces 0 ((min a n : Nat) : Int) 1)) _ _ s
 rw [e2]
 exact wpAny_pure h
theorem sliceApplied_rev {sl : Addr} {n : Nat} {u : Tok} {Q : Int × Int × Nat → Shared → Prop} (hs : s.heap.IsSliceOf sl .none .none (.int (-1) u)) (h : Q ((n : Int) - 1, -1, n) s) :
  wpAny (model prog w) A (Builtin.Slice.sliceApplied (.ref sl) (pure (n : Int))) Q E s := by
 obtain ⟨os, hos, hcs, hds⟩ := id hs
 unfold Builtin.Slice.sliceApplied Builtin.Slice.sliceFields
 refine wpAny_bind (wpAny_bind (wpAny_field hos hds (x := .none) rfl (wpAny_bind (wpAny_field hos hds (x := .none) rfl (wpAny_bind (wpAny_field hos hds (x := .int (-1) u) rfl (wpAny_pure ?_)))))))
 refine wpAny_bind (slicePart_int ?_)
 show wpAny _ _ (if ((-1 : Int) == 0) = true then _ else _) _ _ s
 rw [if_neg (by decide)]
 refine wpAny_bind (slicePart_none (wpAny_bind (slicePart_none (wpAny_bind (wpAny_pure ?_)))))
 have e : Builtin.Slice.sliceAdjust none none (-1) (n : Int) = ((n : Int) - 1, -1) := by
  unfold Builtin.Slice.sliceAdjust
  simp
 show wpAny _ _ (match Builtin.Slice.sliceAdjust none none (-1) (n : Int) with | (lo, hi) => pure (lo, (-1 : Int), Builtin.Slice.slicePlaces lo hi (-1))) _ _ s
 rw [e]
 have e2 : Builtin.Slice.slicePlaces ((n : Int) - 1) (-1) (-1) = n := by
  unfold Builtin.Slice.slicePlaces
  have h1 : ¬ ((-1 : Int) > 0) := by lia
  simp only [h1, if_false]
  have e3 : (- (-1 : Int)) = 1 := by lia
  rw [e3, Int.ediv_one]
  split <;> lia
 show wpAny _ _ (pure ((n : Int) - 1, (-1 : Int), Builtin.Slice.slicePlaces ((n : Int) - 1) (-1) (-1))) _ _ s
 rw [e2]
 exact wpAny_pure h
theorem pick_upto (xs : Array Value) (a : Nat) : ((List.range (min a xs.size)).filterMap λ(k : Nat) => xs[((0 : Int) + (k : Int) * 1).toNat]?).toArray = (xs.toList.take a).toArray := by
 congr 1
 obtain ⟨l⟩ := xs
 simp only [List.size_toArray, List.getElem?_toArray]
 have e : (λ(k : Nat) => l[((0 : Int) + (k : Int) * 1).toNat]?) = λk => l[k]? := by
  funext k; congr 1; lia
 rw [e]
 clear e
 induction l generalizing a with
 | nil => simp
 | cons x l ih =>
  cases a with
  | zero => simp
  | succ a =>
   simp only [List.length_cons, Nat.succ_min_succ, List.range_succ_eq_map, List.filterMap_cons, List.getElem?_cons_zero, List.filterMap_map, List.take_succ_cons]
   congr 1
   have := ih a
   rw [<- this]
   congr 1
theorem fm_congr {α β : Type} {f g : α -> Option β} : ∀ {l : List α}, (∀ x ∈ l, f x = g x) -> l.filterMap f = l.filterMap g
 | [], _ => rfl
 | a :: l, h => by rw [List.filterMap_cons, List.filterMap_cons, h a (.head _), fm_congr λx hx => h x (.tail _ hx)]
theorem pick_rev (l : List Value) : (List.range l.length).filterMap (λ(k : Nat) => l[(((l.length : Int) - 1) + (k : Int) * (-1)).toNat]?) = l.reverse := by
 have e : ∀ k ∈ List.range l.length, l[(((l.length : Int) - 1) + (k : Int) * (-1)).toNat]? = l.reverse[k]? := by
  intro k hk
  rw [List.mem_range] at hk
  rw [List.getElem?_reverse hk]
  congr 1; lia
 rw [fm_congr e]
 have : l.length = l.reverse.length := by simp
 rw [this]
 generalize l.reverse = m
 clear e this
 induction m with
 | nil => simp
 | cons x m ih =>
  simp only [List.length_cons, List.range_succ_eq_map, List.filterMap_cons, List.getElem?_cons_zero, List.filterMap_map]
  congr 1
theorem tuple_slice {t sl : Addr} {items : Array Value} {Q : Value → Shared → Prop} {lo step : Int} {n : Nat} {l u st : Value} (ht : s.heap.IsTuple t items) (hs : s.heap.IsSliceOf sl l u st)
  (ap : ∀ (Q : Int × Int × Nat -> Shared -> Prop), Q (lo, step, n) s -> wpAny (model prog w) A.in1 (Builtin.Slice.sliceApplied (.ref sl) (pure ((items.size : Nat) : Int))) Q (λe s' => E e s') s)
  (h1 : (lo == 0 && step == 1 && n == items.size) = true -> Q (.ref t) s)
  (h2 : Q (.ref s.heap.objs.size) { s with heap := s.heap.push { cls := .type "tuple", data := .seq ((List.range n).filterMap fun (k : Nat) => items[(lo + (k : Int) * step).toNat]?).toArray } })
  (hsz : n <= sizeLine) : wpAny (model prog w) A (getItem (.ref t) (.ref sl)) Q E s := by
 obtain ⟨os, hos, hcs, hds⟩ := id hs
 have hTs : s.TypeIs (.ref sl) "slice" := ⟨os, hos, hcs⟩
 have hdrop : sizeOk (.seq ((List.range n).filterMap λ(k : Nat) => items[(lo + (k : Int) * step).toNat]?).toArray) := by
  show _ <= sizeLine
  rw [List.size_toArray]
  exact Nat.le_trans (List.length_filterMap_le _ _) (by simpa using hsz)
 unfold getItem
 try with_reducible refine wpAny_holding ?_
 first | refine wpAny_bind (wpAny_pure ?_) | skip
 refine wpAny_bind (wpAny_sequenceKey ht.typeIs (by decide) ?_)
 refine wpAny_bind (wpAny_callSpecial?_slot (name := Str.ofString "__getitem__") ht.typeIs PyProof.Rows.slot_tuple_getitem
  (wpAny_call_entry PyProof.Rows.slot_tuple_getitem ht.typeIs PyProof.Rows.entry_tuple_getitem ?_ (PyProof.Rows.args_tuple_getitem _ _)))
 show wpAny _ _ (Builtin.Tuple.tupleItemsOf (.ref t) >>= _) _ _ s
 refine wpAny_bind (tupleItemsOf_ ht ?_)
 refine wpAny_bind (wpAny_typeOf hTs ?_)
 rw [if_pos (by decide)]
 refine wpAny_bind (ap _ ?_)
 show wpAny _ _ (if (lo == 0 && step == 1 && n == items.size) = true then _ else _) _ _ s
 by_cases hw : (lo == 0 && step == 1 && n == items.size) = true
 ·rw [if_pos hw]
  refine wpAny_bind (m := Builtin.Tuple.tupleIsExact (.ref t)) (wpAny_bind (wpAny_typeOf ht.typeIs (wpAny_pure ?_)))
  show wpAny _ _ (if (Value.type "tuple" == Value.type "tuple") = true then _ else _) _ _ s
  rw [if_pos (by decide)]
  exact wpAny_bind (wpAny_rule (wpAny_bind (wpAny_pure (wpAny_pure ⟨_, rfl, wpAny_pure (h1 hw)⟩))))
 ·rw [if_neg hw]
  first
   | exact wpAny_bind (m := Builtin.Tuple.tupleExact _) (wpAny_newObj_type (wpAny_pure ⟨_, rfl, wpAny_pure h2⟩) hdrop)
   | exact wpAny_bind (m := Builtin.Tuple.tupleExact _) (wpAny_newObj_type (wpAny_bind (wpAny_pure (wpAny_pure ⟨_, rfl, wpAny_pure h2⟩))) hdrop)
   | exact wpAny_bind (wpAny_bind (m := Builtin.Tuple.tupleExact _) (wpAny_newObj_type (wpAny_pure (wpAny_pure ⟨_, rfl, wpAny_pure h2⟩)) hdrop))
   | exact wpAny_bind (wpAny_bind (m := Builtin.Tuple.tupleExact _) (wpAny_newObj_type (wpAny_pure ⟨_, rfl, wpAny_pure h2⟩) hdrop))
end
noncomputable def hot : Tag -> Bool
 | .fz => true | .src => true | .ad => true | .tr => true | .tb => true | .ac => true | _ => false
section
variable {g : Gh} {own own' : Addr -> Tag} {h h' : Heap} {σ σ' : Sg}
theorem le_of (k : ∀ a o, own a = .fz -> h.get? a = some o -> h'.get? a = some o) (t : ∀ a, hot (own a) = true -> own' a = own a) : Le h h' own own' :=
 ⟨λa o e ho => k a o e ho, λa e => (t a (by rw [e]; rfl)).trans e, λa e => (t a (by rw [e]; rfl)).trans e, λa e => (t a (by rw [e]; rfl)).trans e, λa e => (t a (by rw [e]; rfl)).trans e, λa e => (t a (by rw [e]; rfl)).trans e⟩
theorem RG.step (r : RG g own σ h) (k : ∀ a o, hot (own a) = true -> h.get? a = some o -> h'.get? a = some o) (t : ∀ a, hot (own a) = true -> own' a = own a) (lt : ∀ a, own' a ≠ .no -> ∃ o, h'.get? a = some o) (ha : ∀ a, uq (own' a) = true -> own a = own' a) : RG g own' σ h' where
 base := λb o e => ⟨k _ _ (by rw [(r.base b o e).2]; rfl) (r.base b o e).1, (t _ (by rw [(r.base b o e).2]; rfl)).trans (r.base b o e).2⟩
 lt := lt
 tb := λP q e => (r.tb P q e).mono (le_of (λa o e => k a o (by rw [e]; rfl)) t) ((t _ (by rw [(r.tb P q e).1]; rfl)).trans (r.tb P q e).1) (λo e' => k _ _ (by rw [(r.tb P q e).1]; rfl) e')
 shr := r.shr.mono (le_of (λa o e => k a o (by rw [e]; rfl)) t) ha λa o e => k a o (by cases q : own a <;> rw [q] at e <;> first | rfl | cases e)
theorem RG.same {a : Addr} (r : RG g own σ h) (hs : Heap.SameBut a h h') (ha : hot (own a) = false) (hx : ∃ o, h'.get? a = some o) : RG g own σ h' :=
 r.step (λb o hb e => hs.extBut b o (λq => by rw [q, ha] at hb; cases hb) e) (λ_ _ => rfl) (λb hb => by
  by_cases q : b = a
  ·rw [q]; exact hx
  ·obtain ⟨o, e⟩ := r.lt b hb; exact ⟨o, hs.extBut b o q e⟩) λ_ _ => rfl
end
theorem iter_seq {g : Gh} {A : Around} {own : Addr → Tag} {s : Shared} {σ : Sg} {v : Value} {d : D} {ds : List D} {Q : Value → Shared → Prop} {E : Value → Shared → Prop} (hh : A.handled = none) (r : RG g own σ s.heap) (y : At g s.heap own v d) (hq : itD d = some ds)
  (K : ∀ (P : Nat → Value → Prop) (ax : List Addr) (o : Obj) (St : Nat → Heap → Prop), (∀ i v, P i v → ∃ d, ds[i]? = some d ∧ At g s.heap own v d) → (∀ b ∈ ax, own b = .fz) → Walks g.prog g.w A s.heap.objs.size (s.heap.objs.size :: ax) [s.heap.objs.size] ds.length P St → St 0 (s.heap.push o) → o.isFreed = false → (∀ i h, St i h → ∃ o n, h.get? s.heap.objs.size = some o ∧ o.cls = .type n ∧ (n = "list_iterator" ∨ n = "tuple_iterator" ∨ n = "range_iterator")) → Q (.ref s.heap.objs.size) { s with heap := s.heap.push o }) :
  wpAny (model g.prog g.w) A (pyIter v) Q E s := by
 cases y with
 | tup hf z hl =>
  cases Option.some.inj hq
  rename_i a vs
  obtain ⟨o, ho, hc⟩ := id z
  have W := Walks.tuple (prog := g.prog) (w := g.w) hh s.heap.objs.size a (Nat.ne_of_lt (Heap.lt_size ho)) vs.toArray
  simp only [List.getElem?_toArray] at W
  rw [show vs.toArray.size = ds.length from (List.size_toArray ..).trans hl.length] at W
  exact wpAny_pyIter_tuple z (K _ [a] _ _ (λi v hv => hl.get' hv) (λb hb => by rw [List.mem_singleton.mp hb]; exact hf) W ⟨⟨_, Heap.get?_push_size _ rfl, rfl, rfl⟩, ⟨o, Heap.get?_push_of_some _ ho, hc⟩⟩ rfl λi h st => st.1.elim λo z => ⟨o, _, z.1, z.2.1, .inr (.inl rfl)⟩)
 | list hf z hl =>
  cases Option.some.inj hq
  rename_i a vs
  have z := PlainList.is z
  obtain ⟨o, ho, hc⟩ := id z
  have W := Walks.list (prog := g.prog) (w := g.w) hh s.heap.objs.size a (Nat.ne_of_lt (Heap.lt_size ho)) vs.toArray
  simp only [List.getElem?_toArray] at W
  rw [show vs.toArray.size = ds.length from (List.size_toArray ..).trans hl.length] at W
  exact wpAny_pyIter_list z (K _ [a] _ _ (λi v hv => hl.get' hv) (λb hb => by rw [List.mem_singleton.mp hb]; exact hf) W ⟨⟨_, Heap.get?_push_size _ rfl, rfl, rfl⟩, ⟨o, Heap.get?_push_of_some _ ho, hc⟩⟩ rfl λi h st => st.1.elim λo z => ⟨o, _, z.1, z.2.1, .inl rfl⟩)
 | rng hf z =>
  rename_i a n t u v
  refine iE hq λhn hq => ?_
  cases Option.some.inj hq
  have hsz : Builtin.Range.rangeSize 0 (n : Int) 1 = (n : Int) := by unfold Builtin.Range.rangeSize; simp only [Int.ediv_one]; split <;> split <;> lia
  refine wpAny_pyIter_range z ?_ ?_
  ·unfold Builtin.Range.small
   rw [hsz]
   unfold Builtin.Range.rangeFitsLong
   simp
   lia
  rw [hsz]
  have W := Walks.range (prog := g.prog) (w := g.w) hh s.heap.objs.size 0 1 n
  have W' : Walks g.prog g.w A s.heap.objs.size [s.heap.objs.size] [s.heap.objs.size] n (λi v => i < n /\ ∃ t, v = .int (0 + i * 1) t) (λi h => IsRangeIter h s.heap.objs.size (0 + (i : Nat) * 1) ((n : Int) - (i : Nat)) 1) :=
   ⟨W.sub, W.frame, λi s Q E hi st K => W.item i s Q E hi st λv h' tk p => K v h' tk ⟨hi, p⟩, W.done, W.self⟩
  have e : ((List.range n).map λ(i : Nat) => D.int (i : Int)).length = n := (List.length_map _).trans List.length_range
  revert W'; rw [<- e]; intro W'
  refine K _ [] _ _ (λi v hv => ?_) (List.forall_mem_nil _) W' ?_ rfl λi h st => ⟨_, _, st, rfl, .inr (.inr rfl)⟩
  ·obtain ⟨hi, t, hv⟩ := hv
   subst hv
   rw [Int.mul_one, Int.zero_add]
   exact ⟨.int i, by rw [List.getElem?_map, List.getElem?_range (e ▸ hi)]; rfl, .int _ _⟩
  ·show Heap.get? _ _ = _
   rw [show (0 : Int) + ((0 : Nat) : Int) * 1 = 0 from rfl, e]
   exact Heap.get?_push_size _ rfl
 | _ => exact no hq
noncomputable def closL (env : Env) : List (Str × NameKind) -> List (Str × Addr) -> List (Str × Addr)
 | [], acc => acc
 | (n, k) :: r, acc => if k == .free then closL env r ((n, (env.cells.lookup n).getD 0) :: acc) else closL env r acc
theorem closureFor_eq {env : Env} {scope : Scope} (h : ∀ p ∈ scope.names, p.2 = .free -> (env.cells.lookup p.1).isSome = true) : closureFor scope env = pure (closL env scope.names []) := by
 have key : ∀ (l : List (Str × NameKind)) (acc : List (Str × Addr)), (∀ p ∈ l, p.2 = .free → (env.cells.lookup p.1).isSome = true) →
   (forIn l acc (λ(p : Str × NameKind) (cs : List (Str × Addr)) => (if p.2 == .free then do
    let c <- cellOf env p.1
    pure (ForInStep.yield ((p.1, c) :: cs)) else pure (ForInStep.yield cs) : Sem (ForInStep (List (Str × Addr)))))) = (pure (closL env l acc) : Sem _) := by
  intro l
  induction l with
  | nil => intro acc _; rfl
  | cons p l ih =>
   intro acc hp
   obtain ⟨n, k⟩ := p
   rw [List.forIn_cons]
   by_cases hk : (k == NameKind.free) = true
   ·simp only [hk, if_true]
    have h1 := hp (n, k) (.head _) (by simpa using hk)
    obtain ⟨c, hc⟩ := Option.isSome_iff_exists.mp h1
    have e : cellOf env n = pure c := by unfold cellOf; simp only at hc; rw [hc]
    rw [e]
    simp only [pure_bind]
    rw [ih _ λq hq => hp q (.tail _ hq)]
    simp only [closL, hk, if_true]
    simp only at hc
    rw [hc]; rfl
   ·simp only [hk]
    simp only [Bool.false_eq_true, if_false, pure_bind]
    rw [ih _ λq hq => hp q (.tail _ hq)]
    simp only [closL, hk]
    simp
 have := key scope.names [] h
 unfold closureFor
 simp only [bind_pure]
 refine Eq.trans ?_ this
 congr 1
theorem closL_lookup {env : Env} {x : Str} {c : Addr} (hc : env.cells.lookup x = some c) : ∀ (l : List (Str × NameKind)) (acc : List (Str × Addr)), (acc.lookup x = some c \/ ((x, NameKind.free) ∈ l /\ (acc.lookup x = none \/ acc.lookup x = some c))) -> (closL env l acc).lookup x = some c
 | [], acc, h => by
  rcases h with h | ⟨h, _⟩
  ·exact h
  ·cases h
 | (n, k) :: r, acc, h => by
  unfold closL
  by_cases hk : (k == NameKind.free) = true
  ·rw [if_pos hk]
   apply closL_lookup hc r
   by_cases hn : x = n
   ·subst hn; left; simp [hc]
   ·have e : ((n, (env.cells.lookup n).getD 0) :: acc).lookup x = acc.lookup x := by
     rw [List.lookup_cons]; have : (x == n) = false := by simp [hn]
     rw [this]
    rw [e]
    rcases h with h | ⟨h, h2⟩
    ·exact .inl h
    ·cases h with
     | head => exact absurd rfl hn
     | tail _ h => exact .inr ⟨h, h2⟩
  ·rw [if_neg hk]
   apply closL_lookup hc r
   rcases h with h | ⟨h, h2⟩
   ·exact .inl h
   ·cases h with
    | head => simp at hk
    | tail _ h => exact .inr ⟨h, h2⟩
inductive IsT : List Nat -> Expr -> Prop
 | one {x : Nat} {p : Pos} : x < 48 -> IsT [x] (.Name (vN x) p)
 | two {x y k : Nat} {p q r : Pos} : x < 48 -> y < 48 -> (vN x == vN y) = false -> IsT [x, y] (.Tuple [.Name (vN x) p, .Name (vN y) q] k r)
section
variable {g : Gh} {A : Around} {own : Addr -> Tag} {s : Shared} {σ : Sg} {env : Env}
theorem assign_ok {ts : List Nat} {tg : Expr} {v : Value} {d : D} {b : Loc} {m : Str → Option Value} {Q : Unit → Shared → Prop} {E : Value → Shared → Prop}
  (hh : A.handled = none) (it : IsT ts tg) (hb : bindT ts d = some b) (kf : env.scope.kind = .function) (hl : ∀ t ∈ ts, env.kindOf (vN t) = some .local) (y : At g s.heap own v d) (hn : s.heap.Ns env.locals m)
  (K : ∀ h' tk' m', h'.Ns env.locals m' -> (∀ c o, c ≠ env.locals -> s.heap.get? c = some o -> h'.get? c = some o) -> (∀ p ∈ b, ∃ v, m' (vN p.1) = some v /\ ∃ d, p.2 = .val d /\ At g s.heap own v d) -> (∀ x, (∀ t ∈ ts, x ≠ vN t) -> m' x = m x) ->
   Q () { s with heap := h', toks := tk' }) : wpAny (model g.prog g.w) A (assign tg env v) Q E s := by
 have hp : (env.scope.kind == .class || (env.scope.kind == .module && env.locals != env.globals)) = false := by rw [kf]; rfl
 cases it with
 | one hx48 =>
  rename_i x p
  cases hb
  refine wpAny_assign_Name (wpAny_storeName_local (hl _ (.head _)) hn (λh' hn' hs => ?_) hp)
  refine K h' _ _ hn' (λc o hc e => hs.extBut c o hc e) (λp hp => ?_) λz hz => ?_
  ·rcases List.mem_singleton.mp hp with rfl
   exact ⟨v, by simp, d, rfl, y⟩
  ·have := hz x (.head _); simp [this]
 | two hx48 hy48 hxy =>
  rename_i x1 x2 k p q r
  have hne : vN x1 ≠ vN x2 := λq => by rw [q, beq_self_eq_true] at hxy; cases hxy
  revert y K
  refine bT2_e hb λa1 a2 y K => ?_
  refine y.tup_e λfa vs hf z hl2 => ?_
  revert z
  refine hl2.two_e λva vb ya yb z => ?_
  refine assign_Tuple_tuple hh z rfl rfl λh1 he => ?_
  have hn1 : Heap.Ns h1 env.locals m := hn.extBut he (Nat.ne_of_lt hn.lt)
  refine assignInOrder_cons (wpAny_assign_Name (wpAny_storeName_local (s := { s with heap := h1 }) (hl _ (.head _)) hn1 (λh2 hn2 hs2 => ?_) hp))
  refine assignInOrder_cons (wpAny_assign_Name (wpAny_storeName_local (s := { s with heap := h2, toks := s.toks + 1 }) (hl _ (.tail _ (.head _))) hn2 (λh3 hn3 hs3 => ?_) hp))
  refine assignInOrder_nil (K h3 _ _ hn3 (λc o hc e => hs3.extBut c o hc (hs2.extBut c o hc (he c o (Nat.ne_of_lt (Heap.lt_size e)) e))) (λp hp => ?_) λw hw => ?_)
  ·rcases List.mem_cons.mp hp with e | hp
   ·exact e ▸ ⟨va, by simp [hne], _, rfl, ya⟩
   ·exact List.mem_singleton.mp hp ▸ ⟨vb, by simp, _, rfl, yb⟩
  ·simp [hw _ (.head _), hw _ (.tail _ (.head _))]
end
structure ScC (sc scc : Scope) (ts fre : List Nat) : Prop where
 kind : scc.kind = .function
 nocell : ∀ p ∈ scc.names, p.2 ≠ .cell
 loc : ∀ t ∈ ts, scc.names.lookup (vN t) = some .local
 nm : ∀ p ∈ scc.names, p.2 = .local -> scc.names.lookup p.1 = some .local
 fr : ∀ i ∈ fre, scc.names.lookup (vN i) = some .free /\ (vN i, NameKind.free) ∈ scc.names
 all : ∀ p ∈ scc.names, p.2 = .free -> ∃ i ∈ fre, p.1 = vN i
 out : ∀ i ∈ fre, sc.names.lookup (vN i) = some .cell \/ sc.names.lookup (vN i) = some .free
structure ScOf (sc : Scope) (env : Env) : Prop where
 glb : ∀ x, sc.names.lookup x = some .globalImplicit -> env.kindOf x = some .globalImplicit
 cel : ∀ x, sc.names.lookup x = some .cell \/ sc.names.lookup x = some .free -> env.kindOf x = some .cell \/ env.kindOf x = some .free
theorem ScOf.self {env : Env} : ScOf env.scope env := ⟨λ_ h => h, λ_ h => h⟩
noncomputable def relK (env : Env) (n : Str) (k : NameKind) : NameKind := if (k == .free && env.scope.kind == .function && env.kindOf n == some .cell) then .cell else k
theorem relabel_lookup {env : Env} {sc : Scope} {x : Str} : (relabel sc env).names.lookup x = (sc.names.lookup x).map (relK env x) := by
 have : ∀ l : List (Str × NameKind), (l.map λ(n, k) => if (k == NameKind.free && env.scope.kind == .function && env.kindOf n == some .cell) then (n, NameKind.cell) else (n, k)).lookup x = (l.lookup x).map (relK env x) := by
  intro l
  induction l with
  | nil => rfl
  | cons p r ih =>
   obtain ⟨n, k⟩ := p
   rw [List.map_cons]
   by_cases hx : (x == n) = true
   ·have : x = n := by simpa using hx
    subst this
    simp only [List.lookup_cons, beq_self_eq_true, Option.map_some, relK]
    split <;> simp
   ·have hx' : (x == n) = false := by simpa using hx
    simp only [List.lookup_cons, hx']
    split
    ·simp only [List.lookup_cons, hx']; exact ih
    ·simp only [List.lookup_cons, hx']; exact ih
 exact this sc.names
theorem ScOf.comp {env : Env} {scc : Scope} {cl : List (Str × Addr)} {C : Addr} : ScOf scc (compEnvC scc cl C env) := by
 constructor
 ·intro x h
  show (relabel scc env).names.lookup x = _
  rw [relabel_lookup, h]; rfl
 ·intro x h
  show (relabel scc env).names.lookup x = _ \/ (relabel scc env).names.lookup x = _
  rw [relabel_lookup]
  rcases h with h | h
  ·rw [h]; left; rfl
  ·rw [h]; simp only [Option.map_some, relK]; split
   ·left; rfl
   ·right; rfl
theorem uq_hot {t : Tag} (h : uq t = true) : hot t = true := by cases t <;> first | rfl | cases h
noncomputable def inner (own : Addr -> Tag) : Addr -> Tag := λa => if own a = .fr then .no else own a
theorem inner_hot {own : Addr -> Tag} {a : Addr} (h : hot (own a) = true) : inner own a = own a := if_neg λq => by rw [q] at h; cases h
theorem inner_may {own : Addr -> Tag} {a : Addr} (h : may (own a) = false) : may (inner own a) = false := by
 unfold inner
 split
 ·rfl
 ·exact h
theorem inner_of_hot {own : Addr -> Tag} {a : Addr} (h : hot (inner own a) = true) : own a = inner own a := by
 unfold inner at h ⊢
 split at h
 ·cases h
 ·rename_i q; exact (if_neg q).symm
noncomputable def IsIf : Option X -> List Expr -> Prop
 | none, [] => True
 | some _, [_] => True
 | _, _ => False
theorem wp_ifN {M : Model} {A : Around} {c : Prop} [Decidable c] {α : Type} {x y : Sem α} {Q : α -> Shared -> Prop} {E : Value -> Shared -> Prop} {s : Shared} (hc : ¬c) (h : wpAny M A y Q E s) : wpAny M A (if c then x else y) Q E s := by rw [if_neg hc]; exact h
theorem go_none {M : Model} {A : Around} {s : Shared} {ts : List Nat} {tg : Expr} {I : Addr} {v : Value} {Q : Unit → Shared → Prop} {E : Value → Shared → Prop} (it : IsT ts tg) (h : ∃ o n, s.heap.get? I = some o ∧ o.cls = .type n ∧ (n = "list_iterator" ∨ n = "tuple_iterator" ∨ n = "range_iterator")) (hQ : Q () s) : wpAny M A (letOwnedTupleGo tg (.ref I) v) Q E s := by
 cases it with
 | one _ => exact wpAny_pure hQ
 | two _ _ _ =>
  obtain ⟨o, n, ho, hc, hn⟩ := h
  have hb : ["enumerate", "zip", "dict_itemiterator", "dict_reverseitemiterator", "odict_iterator", "itertools.zip_longest", "itertools.pairwise"].contains n = false := by rcases hn with e | e | e <;> rw [e] <;> decide
  obtain ⟨c, d, dt, sl⟩ := o
  cases (show c = .type n from hc)
  cases v with
  | ref a =>
   refine wpAny_bind (wpAny_load ho ?_)
   cases dt with
   | fields vs => exact wp_ifN (by rw [hb, Bool.false_and]; exact Bool.false_ne_true) (wpAny_pure hQ)
   | _ => exact wpAny_pure hQ
  | _ => exact wpAny_pure hQ
theorem comp_turns {prog : Program} {w : World} {A : Around} {R : Result → Shared → Prop} {s : Shared} {elt target iter : Expr} {ifs : List Expr} {scope : Scope} {pos : Pos} {it acc : Value} {env : Env} (I : Nat → Shared → Prop)
  (turn : ∀ n s, I n s -> wpAny (model prog w) A (pyNext it) (λr s₁ => match r with
   | none => R (.ok .next) s₁
   | some v => wpAny (model prog w) A (letOwnedTupleGo target it v) (fun _ s₁' => wpAny (model prog w) A (assign target env v) (fun _ s₂ =>
     wpAny (model prog w) A (forIn ifs true λc r => if r = true then do let ok <- isTrue c env (eval c env); pure (ForInStep.yield ok) else pure (ForInStep.yield r)) (λok s₃ =>
      if ok = true then wpAny (model prog w) A (eval elt env) (λx s₄ =>
       wpAny (model prog w) A (call (.builtin "list.append") [acc, x]) (fun _ s₅ => ∃ m, m < n ∧ I m s₅) (notedBy (model prog w) A env fun e s' => R (.error e) s') s₄) (notedBy (model prog w) A env fun e s' => R (.error e) s') s₃
      else ∃ m, m < n /\ I m s₃) (notedBy (model prog w) A env λe s' => R (.error e) s') s₂) (notedBy (model prog w) A env λe s' => R (.error e) s') s₁') (notedBy (model prog w) A env λe s' => R (.error e) s') s₁)
    (notedBy (model prog w) A env λe s' => R (.error e) s') s)
  (n : Nat) (h : I n s) : codeAny (model prog w) A (.compLoop (.ListComp elt [⟨target, iter, ifs, 0⟩] scope pos) 0 it acc env) R s := by
 refine codeAny_loop rfl I (λn s hI => ?_) n h
 show wpAny _ A ((compTurn (.ListComp elt [⟨target, iter, ifs, 0⟩] scope pos) 0 it acc env).onRaise (λx => do noteFrame x env; theTreesLotGoes x)) _ _ s
 refine wpAny_noted ?_
 rw [compTurn_list]
 refine wpAny_bind (wpAny_standAt (wpAny_bind (wpAny_mono (turn n s hI) (λr s₁ h₁ => ?_) λ_ _ h' => h')))
 cases r with
 | none => exact wpAny_pure h₁
 | some v =>
  refine wpAny_bind (wpAny_mono h₁ (λ_ s₁' h₁' => ?_) λ_ _ h' => h')
  refine wpAny_bind (wpAny_mono h₁' (λ_ s₂ h₂ => wpAny_bind (wpAny_mono h₂ (λok s₃ h₃ => ?_) λ_ _ h' => h')) λ_ _ h' => h')
  cases ok with
  | false => exact wpAny_pure ⟨rfl, h₃⟩
  | true =>
   exact wpAny_bind (wpAny_bind (wpAny_mono h₃ (λx s₄ h₄ => wpAny_bind (wpAny_mono h₄ (λ_ s₅ h₅ => wpAny_pure (wpAny_pure ⟨rfl, h₅⟩)) λ_ _ h' => h')) λ_ _ h' => h'))
theorem comp_abs {prog : Program} {w : World} {A : Around} {R : Result → Shared → Prop} {s : Shared} {elt target iter : Expr} {ifs : List Expr} {scope : Scope} {pos : Pos} {it acc : Value} {env : Env} (I : Nat → Shared → Prop)
  (turn : ∀ n s, I n s -> ∀ (N : Option Value -> Shared -> Prop) (E' : Value -> Shared -> Prop), (∀ s, R (.ok .next) s -> N none s) ->
   (∀ v s, (∀ (E : Value -> Shared -> Prop) (B : Bool -> Shared -> Prop) (J : Shared -> Prop), (∀ s m, m < n -> I m s -> J s) -> (∀ s, J s -> B false s) ->
    (∀ s, wpAny (model prog w) A (eval elt env) (fun x s => wpAny (model prog w) A (call (.builtin "list.append") [acc, x]) (fun _ s => J s) E s) E s → B true s) →
    wpAny (model prog w) A (letOwnedTupleGo target it v) (λ_ s => wpAny (model prog w) A (assign target env v) (λ_ s => wpAny (model prog w) A (forIn ifs true λc r => if r = true then do let ok <- isTrue c env (eval c env); pure (ForInStep.yield ok) else pure (ForInStep.yield r)) B E s) E s) E s) -> N (some v) s) ->
   wpAny (model prog w) A (pyNext it) N E' s)
  (n : Nat) (h : I n s) : codeAny (model prog w) A (.compLoop (.ListComp elt [⟨target, iter, ifs, 0⟩] scope pos) 0 it acc env) R s :=
 comp_turns I (λn s hI => turn n s hI _ _ (λ_ h => h) λv s k => k _ _ _ (λs m h1 h2 => ⟨m, h1, h2⟩) (λ_ h => h) λ_ h => h) n h
section
variable {g : Gh} {A : Around} {own : Addr -> Tag} {s : Shared} {σ σ' : Sg} {env : Env} {l : Loc}
theorem cell_of {ts fre : List Nat} {sc scc : Scope} {i : Nat} {lv : LV} (r : R g own env l σ s.heap) (hsc : ScOf sc env) (hcc : ScC sc scc ts fre) (hi : i ∈ fre) (hlv : l.lookup i = some lv) : ∃ c, env.cells.lookup (vN i) = some c := by
 obtain ⟨m₀, hn₀, htL, hv₀⟩ := r.fr
 exact (hv₀.1 _ (lookup_mem hlv)).elim (λz => ((hsc.cel _ (hcc.out _ hi)).elim (λq => nomatch z.1.symm.trans q) λq => nomatch z.1.symm.trans q)) λz => z.2.elim λc z => z.elim λv z => ⟨c, z.1⟩
theorem closure_ok {ts fre : List Nat} {sc scc : Scope} (r : R g own env l σ s.heap) (hsc : ScOf sc env) (hcc : ScC sc scc ts fre) (hin : fre.all (λi => (l.lookup i).isSome) = true) : closureFor scc env = pure (closL env scc.names []) := by
 refine closureFor_eq λp hp hk => ?_
 obtain ⟨i, hi, e⟩ := hcc.all p hp hk
 obtain ⟨lv, hlv⟩ := Option.isSome_iff_exists.mp (List.all_eq_true.mp hin i hi)
 obtain ⟨c, hc⟩ := cell_of r hsc hcc hi hlv
 rw [e, hc]; rfl
end
noncomputable def capt (l : Loc) (fre : List Nat) : Loc := l.filter λq => fre.contains q.1 && notFv q.2
structure Blk (g : Gh) (own own' : Addr -> Tag) (H h : Heap) (Da Ca : Addr) (σ : Sg) (m : Str -> Option Value) (oD : Obj) : Prop where
 ns : h.Ns Ca m
 rg : RG g own' σ h
 ext : Ext (inner own) own' H h
 tC : own' Ca = .fr
 tD : own' Da = .no
 acc : h.get? Da = some oD
 szD : H.objs.size <= Da
 szC : H.objs.size <= Ca
 ne : Da ≠ Ca
section
variable {g : Gh} {A : Around} {own own' own'' : Addr -> Tag} {s : Shared} {σ σ' σ'' : Sg} {env : Env} {l : Loc} {ts fre : List Nat} {sc scc : Scope} {H h h' : Heap} {Da Ca : Addr} {m m' : Str -> Option Value} {oD oD' : Obj}
theorem inner_rg (r : RG g own σ H) : RG g (inner own) σ H := r.step (λb o hb e => e) (λb hb => inner_hot hb) (λb hb => r.lt b (by intro z; apply hb; unfold inner; rw [z]; rfl)) λb hb => inner_of_hot (uq_hot hb)
theorem inner_le (H : Heap) (own : Addr -> Tag) : Le H H own (inner own) := le_of (λ_ _ _ e => e) λ_ hb => inner_hot hb
theorem Blk.below (B : Blk g own own' H h Da Ca σ m oD) {b : Addr} {o : Obj} (e : H.get? b = some o) : b ≠ Da /\ b ≠ Ca := by
 have := Heap.lt_size e
 exact ⟨Nat.ne_of_lt (Nat.lt_of_lt_of_le this B.szD), Nat.ne_of_lt (Nat.lt_of_lt_of_le this B.szC)⟩
theorem Blk.le (B : Blk g own own' H h Da Ca σ m oD) (r : RG g own σ'' H) : Le H h own own' := (inner_le H own).trans (B.ext.le (inner_rg r))
theorem block_in {P : Env → Shared → Prop} {E : Value → Shared → Prop} {oA : Obj} (hf : oA.isFreed = false) (r : R g own env l σ H) (hcc : ScC sc scc ts fre) (hkH : ∀ b o, H.get? b = some o → s.heap.get? b = some o) (hzH : H.objs.size ≤ s.heap.objs.size)
  (K : ∀ h₁ tk₁ m₁, Blk g own (upd (inner own) (s.heap.objs.size + 1) .fr) H h₁ s.heap.objs.size (s.heap.objs.size + 1) σ m₁ oA -> (∀ b o, s.heap.get? b = some o -> h₁.get? b = some o) -> P (newEnv scc (s.heap.objs.size + 1) env.globals (closL env scc.names []) env.qual none .none (some env) builtinsNs) { s with heap := h₁, toks := tk₁ }) :
  wpAny (model g.prog g.w) A (newFunctionEnv scc env.globals (closL env scc.names []) [] env.qual none .none (some env)) P E { s with heap := s.heap.push oA } := by
 refine wpAny_newFunctionEnv hcc.nocell (by intro y hy; cases hy) (λh₁ hns₁ hsb₁ => ?_) hcc.kind
 dsimp only at hns₁ hsb₁
 rw [Heap.size_push] at hns₁ hsb₁
 have ha : (s.heap.push oA).get? s.heap.objs.size = some oA := Heap.get?_push_size _ hf
 have n1 : s.heap.objs.size ≠ s.heap.objs.size + 1 := Nat.ne_of_lt (Nat.lt_succ_self _)
 have old1 : ∀ b o, s.heap.get? b = some o -> h₁.get? b = some o := λb o e => hsb₁.extBut b o (Nat.ne_of_lt (Nat.lt_succ_of_lt (Heap.lt_size e))) (Heap.get?_push_of_some _ (Heap.get?_push_of_some _ e))
 have old : ∀ b o, H.get? b = some o -> h₁.get? b = some o := λb o e => old1 b o (hkH b o e)
 have o1 : ∀ b o, H.get? b = some o -> upd (inner own) (s.heap.objs.size + 1) .fr b = inner own b := λb o e => upd_ne (Nat.ne_of_lt (Nat.lt_succ_of_lt (Heap.lt_size (hkH b o e))))
 have x1 : Ext (inner own) (upd (inner own) (s.heap.objs.size + 1) .fr) H h₁ := ⟨o1, λb o e _ => old b o e, λb o e => ⟨o, old b o e⟩⟩
 dsimp only
 rw [Heap.size_push]
 refine K h₁ _ _ ⟨hns₁, ?_, x1, upd_self, ?_, hsb₁.extBut _ _ n1 (Heap.get?_push_of_some _ ha), hzH, Nat.le_succ_of_le hzH, n1⟩ old1
 ·refine (inner_rg r.toRG).keepAll x1 (λb o e => old b o e) (λb hb => ?_) λb hb => ?_
  ·by_cases q : b = s.heap.objs.size + 1
   ·rw [q]; obtain ⟨o, _, _, e, _⟩ := hns₁; exact ⟨o, e⟩
   ·rw [upd_ne q] at hb
    obtain ⟨o, e⟩ := (inner_rg r.toRG).lt b hb
    exact ⟨o, old b o e⟩
  ·by_cases q : b = s.heap.objs.size + 1
   ·rw [q, upd_self] at hb; cases hb
   ·exact (upd_ne q).symm
 ·rw [upd_ne n1]; unfold inner
  cases q : own s.heap.objs.size with
  | no => rfl
  | _ => obtain ⟨o, e⟩ := r.toRG.lt _ (by rw [q]; intro z; cases z); exact absurd (Heap.lt_size (hkH _ _ e)) (Nat.lt_irrefl _)
theorem Blk.out (B : Blk g own own' H h Da Ca σ' m oD) (r : RG g own σ H) {h₇ : Heap} (hs₇ : Heap.SameBut Ca h h₇) :
  ∃ own₇, Ext own own₇ H h₇ /\ RG g own₇ σ' h₇ /\ own₇ Da = .fz /\ h₇.get? Da = some oD /\ Le h h₇ own' own₇ /\ own₇ Ca = .no := by
 let own₇ : Addr -> Tag := λb => if (H.get? b).isSome then own b else if b = Da then .fz else if own' b = .fr then .no else own' b
 have inH : ∀ b o, H.get? b = some o -> own₇ b = own b := λb o e => by show (if (H.get? b).isSome then _ else _) = _; rw [e]; rfl
 have off : ∀ b, H.get? b = none -> own₇ b = if b = Da then .fz else if own' b = .fr then .no else own' b := λb e => by show (if (H.get? b).isSome then _ else _) = _; rw [e]; rfl
 have k₇ : ∀ b o, b ≠ Ca -> h.get? b = some o -> h₇.get? b = some o := λb o n e => hs₇.extBut b o n e
 have hotK : ∀ b o, hot (own' b) = true -> h.get? b = some o -> h₇.get? b = some o := λb o hb e => k₇ b o (λq => by rw [q, B.tC] at hb; cases hb) e
 have hotT : ∀ b, hot (own' b) = true -> own₇ b = own' b := λb hb => by
  cases e : H.get? b with
  | some o =>
   have h1 := B.ext.tags b o e
   rw [inH b o e, h1]
   rw [h1] at hb
   exact inner_of_hot hb
  | none =>
   rw [off b e]
   have n1 : b ≠ Da := λq => by rw [q, B.tD] at hb; cases hb
   have n2 : own' b ≠ .fr := λq => by rw [q] at hb; cases hb
   rw [if_neg n1, if_neg n2]
 have aD : h₇.get? Da = some oD := k₇ _ _ B.ne B.acc
 have nD : H.get? Da = none := none_of_le B.szD
 refine ⟨own₇, ⟨inH, λb o e hm => k₇ b o (B.below e).2 (B.ext.objs b o e (inner_may hm)), λb o e => ?_⟩, ?_, ?_, aD, le_of (λb o hb e => hotK b o (by rw [hb]; rfl) e) hotT, by rw [off _ (none_of_le B.szC), if_neg (Ne.symm B.ne), if_pos B.tC]⟩
 ·obtain ⟨o', e'⟩ := B.ext.ex b o e; exact ⟨o', k₇ b o' (B.below e).2 e'⟩
 ·refine B.rg.step hotK hotT (λb hb => ?_) λb hb => ?_
  ·cases e : H.get? b with
   | some o =>
    obtain ⟨o', e'⟩ := B.ext.ex b o e
    exact ⟨o', k₇ b o' (B.below e).2 e'⟩
   | none =>
    rw [off b e] at hb
    by_cases q : b = Da
    ·rw [q]; exact ⟨_, aD⟩
    ·rw [if_neg q] at hb
     by_cases q2 : own' b = .fr
     ·rw [if_pos q2] at hb; exact absurd rfl hb
     ·rw [if_neg q2] at hb
      obtain ⟨o, eo⟩ := B.rg.lt b hb
      exact ⟨o, k₇ b o (λq => q2 (by rw [q]; exact B.tC)) eo⟩
  ·cases e : H.get? b with
   | some o =>
    rw [inH b o e] at hb ⊢
    rw [B.ext.tags b o e]
    exact inner_hot (uq_hot hb)
   | none =>
    rw [off b e] at hb ⊢
    by_cases q : b = Da
    ·rw [if_pos q] at hb; cases hb
    ·rw [if_neg q] at hb ⊢
     by_cases q2 : own' b = .fr
     ·rw [if_pos q2] at hb; cases hb
     ·rw [if_neg q2]
 ·rw [off _ nD, if_pos rfl]
theorem Blk.names (B : Blk g own own' H h Da Ca σ m oD) (hn : h'.Ns Ca m') (hk : ∀ b o, b ≠ Ca -> h.get? b = some o -> h'.get? b = some o) : Blk g own own' H h' Da Ca σ m' oD := by
 have hx : ∃ o, h'.get? Ca = some o := by obtain ⟨o, _, _, e, _⟩ := hn; exact ⟨o, e⟩
 refine ⟨hn, ?_, ⟨B.ext.tags, λb o e hm => hk b o (B.below e).2 (B.ext.objs b o e hm), λb o e => by obtain ⟨o', e'⟩ := B.ext.ex b o e; exact ⟨o', hk b o' (B.below e).2 e'⟩⟩, B.tC, B.tD, hk _ _ B.ne B.acc, B.szD, B.szC, B.ne⟩
 refine B.rg.step (λb o hb e => hk b o (λq => by rw [q, B.tC] at hb; cases hb) e) (λ_ _ => rfl) (λb hb => ?_) λ_ _ => rfl
 by_cases q : b = Ca
 ·rw [q]; exact hx
 ·obtain ⟨o, e⟩ := B.rg.lt b hb; exact ⟨o, hk b o q e⟩
theorem Blk.free (B : Blk g own own' H h Da Ca σ m oD) (hk : ∀ b o, own' b ≠ .no -> h.get? b = some o -> h'.get? b = some o) (hH : ∀ b o o', H.get? b = some o' -> own' b = .no -> h.get? b = some o -> h'.get? b = some o) (ha : h'.get? Da = some oD') : Blk g own own' H h' Da Ca σ m oD' := by
 have all : ∀ b o o', H.get? b = some o -> h.get? b = some o' -> h'.get? b = some o' := λb o o' e e' => by
  by_cases q : own' b = .no
  ·exact hH b o' o e q e'
  ·exact hk b o' q e'
 refine ⟨?_, ?_, ⟨B.ext.tags, λb o e hm => all b o o e (B.ext.objs b o e hm), λb o e => by obtain ⟨o', e'⟩ := B.ext.ex b o e; exact ⟨o', all b o o' e e'⟩⟩, B.tC, B.tD, ha, B.szD, B.szC, B.ne⟩
 ·obtain ⟨o, es, ep, e, q⟩ := B.ns; exact ⟨o, es, ep, hk _ _ (by rw [B.tC]; intro z; cases z) e, q⟩
 ·exact B.rg.step (λb o hb e => hk b o (by intro z; rw [z] at hb; cases hb) e) (λ_ _ => rfl) (λb hb => by obtain ⟨o, e⟩ := B.rg.lt b hb; exact ⟨o, hk b o hb e⟩) λ_ _ => rfl
theorem Blk.step (B : Blk g own own' H h Da Ca σ m oD) (x : Ext own' own'' h h') (r : RG g own'' σ'' h') : Blk g own own'' H h' Da Ca σ'' m oD := by
 refine ⟨?_, r, B.ext.trans x, B.rg.tag x B.tC (by intro z; cases z), (x.tags _ _ B.acc).trans B.tD, x.objs _ _ B.acc (by rw [B.tD]; rfl), B.szD, B.szC, B.ne⟩
 obtain ⟨o, es, ep, e, q⟩ := B.ns
 exact ⟨o, es, ep, x.objs _ _ e (by rw [B.tC]; rfl), q⟩
theorem Blk.R (B : Blk g own own' H h Da Ca σ m oD) (r : R g own env l σ'' H) (hsc : ScOf sc env) (hcc : ScC sc scc ts fre) {bl : Loc} (hb : ∀ p ∈ bl, p.1 ∈ ts ∧ p.1 < 48 ∧ ∃ v d, m (vN p.1) = some v ∧ p.2 = .val d ∧ At g h own' v d) :
  R g own' (compEnvC scc (closL env scc.names []) Ca env) (bl ++ capt l fre) σ h := by
 obtain ⟨m₀, hn₀, htL, hv₀⟩ := r.fr
 refine ⟨B.rg, hcc.kind, r.gl, r.bu, m, B.ns, B.tC, λp hp => ?_, λp hp => ?_⟩
 ·rcases List.mem_append.mp hp with hp | hp
  ·obtain ⟨h1, h2, v, d, h3, h4, h5⟩ := hb p hp
   refine .inl ⟨lookup_relabel_local (hcc.loc _ h1), .inr ⟨v, h3, ?_⟩⟩
   rw [h4]; exact h5
  ·obtain ⟨hpl, hpf⟩ := List.mem_filter.mp hp
   rw [Bool.and_eq_true] at hpf
   have hpi : p.1 ∈ fre := by simpa using hpf.1
   rcases hv₀.1 p hpl with ⟨hk, _⟩ | ⟨_, c, v, h1, h2, ⟨o, ho, hd⟩, h4⟩
   ·rcases hsc.cel _ (hcc.out _ hpi) with q | q <;> rw [hk] at q <;> cases q
   ·rcases h2 with h2 | ⟨_, d, e⟩
    ·refine .inr ⟨ScOf.comp.cel _ (.inr (hcc.fr _ hpi).1), c, v, closL_lookup h1 _ _ (.inr ⟨(hcc.fr _ hpi).2, .inl rfl⟩), .inl ?_, ⟨o, ?_, hd⟩, h4.imp id λ⟨w, e, z⟩ => ⟨w, e, ?_⟩⟩
     ·rw [B.ext.tags c o ho]; unfold inner; rw [h2]; rfl
     ·exact B.ext.objs c o ho (by unfold inner; rw [h2]; rfl)
     ·have z' : LAt g H (inner own) p.1 w p.2 := by
       cases q : p.2 with
       | un => trivial
       | val d => rw [q] at z; exact At.mono (inner_le H own) z
       | fv d => rw [q] at z; exact At.mono (inner_le H own) z
       | ow ds => rw [q] at z; obtain ⟨a, vs, e, t, z, k⟩ := z; exact ⟨a, vs, e, by unfold inner; rw [t]; rfl, z, AtL.mono (inner_le H own) k⟩
       | od ks ds => rw [q] at z; obtain ⟨a, vs, e, t, k1, k2, z, k⟩ := z; exact ⟨a, vs, e, by unfold inner; rw [t]; rfl, k1, k2, z, AtL.mono (inner_le H own) k⟩
      exact z'.ext (inner_rg r.toRG) B.ext
    ·rw [e] at hpf; simp [notFv] at hpf
 ·rcases List.mem_append.mp hp with hp | hp
  ·exact (hb p hp).2.1
  ·exact hv₀.2 p (List.mem_filter.mp hp).1
end
abbrev lst (ys : Array Value) (n : Nat) : Obj := { cls := .type "list", data := .seq ys n }
structure BlkI (g : Gh) (own : Addr -> Tag) (H : Heap) (fp : List Addr) (T : Heap -> Prop) (M : Heap -> (Addr -> Tag) -> Prop) (Da Ca : Addr) (own' : Addr -> Tag) (h : Heap) (σ : Sg) (m : Str -> Option Value) (ys : Array Value) (done : List D) : Prop where
 st : T h
 tg : ∀ b ∈ fp, (own' b = .no /\ b ≠ Da /\ b ≠ Ca /\ ∃ o, h.get? b = some o) \/ own' b = .fz
 blk : ∃ n, Blk g own own' H h Da Ca σ m (lst ys n)
 at_ : AtL g h own' ys.toList done
 mo : M h own'
section
variable {g : Gh} {A : Around} {own own' own'' : Addr -> Tag} {s : Shared} {σ σ' σ₁ : Sg} {H h h' : Heap} {Da Ca Ia : Addr} {m m' : Str -> Option Value} {fp : List Addr} {T T' : Heap -> Prop} {M : Heap -> (Addr -> Tag) -> Prop} {ys : Array Value} {done ds : List D} {d : D} {v : Value}
abbrev FpOf (fp : List Addr) (T : Heap -> Prop) : Prop := ∀ h h', T h -> (∀ b ∈ fp, ∀ o, h.get? b = some o -> h'.get? b = some o) -> T h'
abbrev MoOf (M : Heap -> (Addr -> Tag) -> Prop) : Prop := ∀ h h' o o', Le h h' o o' -> M h o -> M h' o'
theorem BlkI.ne (I : BlkI g own H fp T M Da Ca own' h σ m ys done) {b : Addr} (hb : b ∈ fp) : b ≠ Da /\ b ≠ Ca := by
 obtain ⟨n, B⟩ := I.blk
 rcases I.tg b hb with ⟨_, h1, h2, _⟩ | q
 ·exact ⟨h1, h2⟩
 ·exact ⟨(λe => by rw [e, B.tD] at q; cases q), (λe => by rw [e, B.tC] at q; cases q)⟩
theorem BlkI.names (F : FpOf fp T) (FM : MoOf M) (I : BlkI g own H fp T M Da Ca own' h σ m ys done) (hn : h'.Ns Ca m') (hk : ∀ b o, b ≠ Ca -> h.get? b = some o -> h'.get? b = some o) : BlkI g own H fp T M Da Ca own' h' σ m' ys done where
 st := F _ _ I.st λb hb o e => hk b o (I.ne hb).2 e
 tg := λb hb => (I.tg b hb).imp_left λ⟨a, b1, c, o, e⟩ => ⟨a, b1, c, o, hk _ _ c e⟩
 blk := let ⟨n, B⟩ := I.blk; ⟨n, B.names hn hk⟩
 at_ := by
  obtain ⟨n, B⟩ := I.blk
  exact AtL.mono (le_of (λb o hb e => hk b o (λq => by rw [q, B.tC] at hb; cases hb) e) λ_ _ => rfl) I.at_
 mo := by
  obtain ⟨n, B⟩ := I.blk
  exact FM _ _ _ _ (le_of (λb o hb e => hk b o (λq => by rw [q, B.tC] at hb; cases hb) e) λ_ _ => rfl) I.mo
theorem BlkI.eval (F : FpOf fp T) (FM : MoOf M) (I : BlkI g own H fp T M Da Ca own' h σ m ys done) (x : Ext own' own'' h h') (r : RG g own'' σ' h') : BlkI g own H fp T M Da Ca own'' h' σ' m ys done where
 st := F _ _ I.st λb hb o e => x.objs b o e (by rcases I.tg b hb with ⟨q, _⟩ | q <;> rw [q] <;> rfl)
 tg := λb hb => by
  obtain ⟨n, B⟩ := I.blk
  rcases I.tg b hb with ⟨a, b1, c, o, e⟩ | q
  ·exact .inl ⟨(x.tags b o e).trans a, b1, c, x.ex b o e⟩
  ·exact .inr (B.rg.tag x q (by intro z; cases z))
 blk := let ⟨n, B⟩ := I.blk; ⟨n, B.step x r⟩
 at_ := let ⟨n, B⟩ := I.blk; AtL.mono (x.le B.rg) I.at_
 mo := let ⟨n, B⟩ := I.blk; FM _ _ _ _ (x.le B.rg) I.mo
theorem BlkI.push (F : FpOf fp T) (FM : MoOf M) (I : BlkI g own H fp T M Da Ca own' h σ m ys done) (y : At g h own' v d) (hl : h'.PlainList Da (ys.push v)) (hs : Heap.SameBut Da h h') : BlkI g own H fp T M Da Ca own' h' σ m (ys.push v) (done ++ [d]) := by
 obtain ⟨n, B⟩ := I.blk
 obtain ⟨n', ho⟩ := hl
 have k : ∀ b o, b ≠ Da -> h.get? b = some o -> h'.get? b = some o := λb o hb e => hs.extBut b o hb e
 have L : Le h h' own' own' := le_of (λb o hb e => k b o (λq => by rw [q, B.tD] at hb; cases hb) e) λ_ _ => rfl
 refine ⟨F _ _ I.st λb hb o e => k b o (I.ne hb).1 e, λb hb => (I.tg b hb).imp_left λ⟨a, b1, c, o, e⟩ => ⟨a, b1, c, o, k _ _ b1 e⟩, ⟨n', B.free (λb o hb e => k b o (λq => hb (by rw [q]; exact B.tD)) e) (λb o o' e0 _ e => k b o (B.below e0).1 e) ho⟩, ?_, FM _ _ _ _ L I.mo⟩
 rw [Array.toList_push]
 exact (AtL.mono L I.at_).append (.cons (At.mono L y) .nil)
theorem BlkI.item (FM : MoOf M) (I : BlkI g own H fp T M Da Ca own' h σ m ys done) (hT : T' h') (hk : ∀ b o, b ∉ [Ia] -> h.get? b = some o -> h'.get? b = some o) (tI : own' Ia = .no) (nD : Ia ≠ Da) (nC : Ia ≠ Ca) (fI : H.get? Ia = none) (eI : ∃ o, h'.get? Ia = some o) : BlkI g own H fp T' M Da Ca own' h' σ m ys done := by
 obtain ⟨n, B⟩ := I.blk
 have k : ∀ b o, b ≠ Ia -> h.get? b = some o -> h'.get? b = some o := λb o hb e => hk b o (λq => hb (List.mem_singleton.mp q)) e
 have L : Le h h' own' own' := le_of (λb o hb e => k b o (λq => by rw [q, tI] at hb; cases hb) e) λ_ _ => rfl
 refine ⟨hT, λb hb => (I.tg b hb).imp_left λ⟨a, b1, c, o, e⟩ => ⟨a, b1, c, ?_⟩, ⟨n, B.free (λb o hb e => k b o (λq => hb (by rw [q]; exact tI)) e) (λb o o' e0 _ e => k b o (λq => by rw [q, fI] at e0; cases e0) e) (k _ _ (Ne.symm nD) B.acc)⟩, AtL.mono L I.at_, FM _ _ _ _ L I.mo⟩
 by_cases q : b = Ia
 ·rw [q]; exact eI
 ·exact ⟨o, k b o q e⟩
theorem BlkI.grow (F : FpOf fp T) (FM : MoOf M) (I : BlkI g own H fp T M Da Ca own' h σ m ys done) (hk : ∀ b o, h.get? b = some o -> h'.get? b = some o) : BlkI g own H fp T M Da Ca own' h' σ m ys done :=
 have L : Le h h' own' own' := le_of (λb o _ e => hk b o e) λ_ _ => rfl
 ⟨F _ _ I.st λb _ o e => hk b o e, λb hb => (I.tg b hb).imp_left λ⟨a, b1, c, o, e⟩ => ⟨a, b1, c, o, hk _ _ e⟩, let ⟨n, B⟩ := I.blk; ⟨n, B.free (λb o _ e => hk b o e) (λb o _ _ _ e => hk b o e) (hk _ _ B.acc)⟩, AtL.mono L I.at_, FM _ _ _ _ L I.mo⟩
theorem BlkI.kept (F : FpOf fp T) (FM : MoOf M) (I : BlkI g own H fp T M Da Ca own' h σ m ys done) (nI : ∀ b ∈ fp, b ≠ Ia) (hk : ∀ b o, b ≠ Ia -> h.get? b = some o -> h'.get? b = some o) (tI : own' Ia = .no) (fI : H.get? Ia = none) (nD : Ia ≠ Da) : BlkI g own H fp T M Da Ca own' h' σ m ys done :=
 have L : Le h h' own' own' := le_of (λb o hb e => hk b o (λq => by rw [q, tI] at hb; cases hb) e) λ_ _ => rfl
 ⟨F _ _ I.st λb hb o e => hk b o (nI b hb) e, λb hb => (I.tg b hb).imp_left λ⟨a, b1, c, o, e⟩ => ⟨a, b1, c, o, hk _ _ (nI b hb) e⟩, let ⟨n, B⟩ := I.blk; ⟨n, B.free (λb o hb e => hk b o (λq => hb (by rw [q]; exact tI)) e) (λb o o' e0 _ e => hk b o (λq => by rw [q, fI] at e0; cases e0) e) (hk _ _ (Ne.symm nD) B.acc)⟩, AtL.mono L I.at_, FM _ _ _ _ L I.mo⟩
theorem BlkI.weak {fp' : List Addr} {M' : Heap -> (Addr -> Tag) -> Prop} (I : BlkI g own H fp T M Da Ca own' h σ m ys done) (hf : ∀ b ∈ fp', b ∈ fp) (hT : T h -> T' h) (hM : M h own' -> M' h own') : BlkI g own H fp' T' M' Da Ca own' h σ m ys done :=
 ⟨hT I.st, λb hb => I.tg b (hf b hb), I.blk, I.at_, hM I.mo⟩
theorem BlkI.append {Q : Value → Shared → Prop} {E : Value → Shared → Prop} (F : FpOf fp T) (FM : MoOf M) (I : BlkI g own H fp T M Da Ca own' s.heap σ m ys done) (y : At g s.heap own' v d) (hl : done.length ≤ maxLen)
  (K : ∀ h', BlkI g own H fp T M Da Ca own' h' σ m (ys.push v) (done ++ [d]) → Q .none { s with heap := h' }) : wpAny (model g.prog g.w) A (call (.builtin "list.append") [.ref Da, v]) Q E s := by
 obtain ⟨n, B⟩ := I.blk
 refine wpAny_list_append_plain ⟨n, B.acc⟩ (λh' hl hs => K h' (I.push F FM y hl hs)) ?_
 have e := I.at_.length
 rw [Array.length_toList] at e
 rw [e]
 exact Nat.le_trans hl (by rw [sizeLine_eq]; decide)
end
noncomputable def condV (f : Loc -> Sg -> X -> Option (D × Sg)) (l : Loc) (cond : Option X) (σ : Sg) (b : Loc) : Option (Bool × Sg) := match cond with
 | none => some (true, σ)
 | some c => (f (b ++ l) σ c).bind λp => match p with | (.bool t, σ) => some (t, σ) | _ => none
theorem evc_e {f : Loc → Sg → X → Option (D × Sg)} {l : Loc} {elt : X} {ts : List Nat} {cond : Option X} {σ σ' : Sg} {d : D} {ds rs : List D} {G : Prop} (he : evc f l elt ts cond σ (d :: ds) = some (rs, σ'))
  (k : ∀ b σ₂, bindT ts d = some b -> condV f l cond σ b = some (false, σ₂) -> evc f l elt ts cond σ₂ ds = some (rs, σ') -> G)
  (k' : ∀ b σ₂ y σ₅ ys, bindT ts d = some b -> condV f l cond σ b = some (true, σ₂) -> f (b ++ l) σ₂ elt = some (y, σ₅) -> evc f l elt ts cond σ₅ ds = some (ys, σ') -> y :: ys = rs -> G) : G :=
 bE he λb hb he => bE he λp hc he => by
  obtain ⟨ok, σ₂⟩ := p
  cases ok with
  | false => exact k b σ₂ hb hc he
  | true =>
   refine bE he λq e1 he => bE he λr e2 he => ?_
   have h := Prod.mk.inj (Option.some.inj he)
   exact k' b σ₂ q.1 q.2 r.1 hb hc e1 (h.2 ▸ e2) h.1
theorem bindT_in {ts : List Nat} {tg : Expr} {d : D} {b : Loc} (it : IsT ts tg) (hb : bindT ts d = some b) : ∀ p ∈ b, p.1 ∈ ts /\ p.1 < 48 := by
 cases it with
 | one h48 =>
  cases Option.some.inj hb
  exact λp hp => List.mem_singleton.mp hp ▸ ⟨.head _, h48⟩
 | two h48 h48' _ =>
  refine bT2_e hb λa c p hp => ?_
  rcases List.mem_cons.mp hp with e | hp
  ·exact e ▸ ⟨.head _, h48⟩
  ·exact List.mem_singleton.mp hp ▸ ⟨.tail _ (.head _), h48'⟩
section
variable {g : Gh} {A : Around} {own own' own'' : Addr -> Tag} {s : Shared} {σ σ₁ σ₂ σ' : Sg} {env : Env} {l : Loc} {f : Loc -> Sg -> X -> Option (D × Sg)} {elt : X} {ts fre : List Nat} {cond : Option X} {ee : Expr} {ifs : List Expr} {tg iter : Expr} {sc scc : Scope} {pos : Pos} {ds rs : List D} {Da Ca Ia : Addr} {fp : List Addr} {St : Nat -> Heap -> Prop}
abbrev MT : Heap -> (Addr -> Tag) -> Prop := λ_ _ => True
theorem MT.of : MoOf MT := λ_ _ _ _ _ _ => trivial
def CompI (g : Gh) (own : Addr -> Tag) (s : Shared) (f : Loc -> Sg -> X -> Option (D × Sg)) (l : Loc) (elt : X) (ts : List Nat) (cond : Option X) (σ' : Sg) (ds rs : List D) (fp : List Addr) (St : Nat -> Heap -> Prop) (Ia Da Ca : Addr) (k : Nat) (s' : Shared) : Prop :=
 ∃ i own' σ₁ ys done rest m h' tk, s' = { s with heap := h', toks := tk } /\ k = ds.length + 1 - i /\ i <= ds.length /\ BlkI g own s.heap fp (St i) MT Da Ca own' h' σ₁ m ys done /\ done.length <= i /\ own' Ia = .no /\ evc f l elt ts cond σ₁ (ds.drop i) = some (rest, σ') /\ done ++ rest = rs
@[elab_as_elim] theorem CompI.elim {k : Nat} {s' : Shared} {P : Nat → Shared → Prop} (h : CompI g own s f l elt ts cond σ' ds rs fp St Ia Da Ca k s')
  (q : ∀ i own' σ₁ ys done rest m h' tk, i <= ds.length -> BlkI g own s.heap fp (St i) MT Da Ca own' h' σ₁ m ys done -> done.length <= i -> own' Ia = .no -> evc f l elt ts cond σ₁ (ds.drop i) = some (rest, σ') -> done ++ rest = rs -> P (ds.length + 1 - i) { s with heap := h', toks := tk }) : P k s' := by
 obtain ⟨i, own', σ₁, ys, done, rest, m, h', tk, e1, e2, h1, h2, h3, h4, h5, h6⟩ := h
 subst e1
 subst e2
 exact q _ _ _ _ _ _ _ _ _ h1 h2 h3 h4 h5 h6
theorem cond_ok {b : Loc} {ok : Bool} {m : Str → Option Value} (hif : IsIf cond ifs) (hc : condV f (capt l fre) cond σ₁ b = some (ok, σ₂)) (R₃ : R g own' env (b ++ capt l fre) σ₁ s.heap) (hs : ScOf scc env)
  (hC : ∀ c ce, cond = some c -> ifs = [ce] -> ∀ l σ b σ' env own s, f l σ c = some (.bool b, σ') -> ScOf scc env -> R g own env l σ s.heap -> GivesB g A own s (isTrue ce env (eval ce env)) b σ') :
  GivesB g A own' s (forIn ifs true λc r => if r = true then do let ok <- isTrue c env (eval c env); pure (ForInStep.yield ok) else pure (ForInStep.yield r)) ok σ₂ := by
 intro Q E K
 cases cond with
 | none =>
  cases ifs with
  | cons _ _ => exact hif.elim
  | nil =>
   cases Option.some.inj hc
   exact wpAny_pure (K _ _ _ (Ext.refl _ _) R₃.toRG)
 | some c =>
  cases ifs with
  | nil => exact hif.elim
  | cons ce r2 => cases r2 with
   | cons _ _ => exact hif.elim
   | nil =>
    refine bE hc λp hc1 hc2 => ?_
    obtain ⟨dc, σc⟩ := p
    cases dc <;> first | exact no hc2 | skip
    cases Option.some.inj hc2
    rw [List.forIn_cons]
    refine wpAny_bind ?_
    rw [if_pos rfl]
    refine wpAny_bind (hC c ce rfl rfl _ _ _ _ env own' s hc1 hs R₃ _ _ λh' tk' own'' x'' r'' => wpAny_pure ?_)
    dsimp only
    rw [List.forIn_nil]
    exact wpAny_pure (K _ _ _ x'' r'')
theorem drop_of {i : Nat} {d : D} (hd : ds[i]? = some d) : ds.drop i = d :: ds.drop (i + 1) := by
 obtain ⟨h1, h2⟩ := List.getElem?_eq_some_iff.mp hd
 rw [<- h2]; exact List.drop_eq_getElem_cons h1
theorem tI (own : Addr -> Tag) {H : Heap} {Ca : Addr} {σ : Sg} (r : RG g own σ H) (ne : H.objs.size ≠ Ca) : upd (inner own) Ca .fr H.objs.size = .no := by
 rw [upd_ne ne]
 have : own H.objs.size = .no := by
  cases q : own H.objs.size with
  | no => rfl
  | _ => obtain ⟨o, e⟩ := r.lt _ (by rw [q]; intro z; cases z); exact absurd (Heap.lt_size e) (Nat.lt_irrefl _)
 unfold inner; rw [this]; rfl
theorem comp_blk {use : Option (Value → Sem Unit)} {Q : Value → Shared → Prop} {E : Value → Shared → Prop} {P : Nat → Value → Prop} {ax : List Addr} {own₁ : Addr → Tag} {m₁ : Str → Option Value} {h₁ : Heap} {tk₁ : Tok}
  (hh : A.handled = none) (r : R g own env l σ s.heap) (hsc : ScOf sc env) (hcc : ScC sc scc ts fre) (it : IsT ts tg) (hif : IsIf cond ifs) (hev : evc f (capt l fre) elt ts cond σ ds = some (rs, σ'))
  (hE : ∀ l σ d σ' env own s, f l σ elt = some (d, σ') -> ScOf scc env -> R g own env l σ s.heap -> Gives g A own s (eval ee env) d σ')
  (hC : ∀ c ce, cond = some c -> ifs = [ce] -> ∀ l σ b σ' env own s, f l σ c = some (.bool b, σ') -> ScOf scc env -> R g own env l σ s.heap -> GivesB g A own s (isTrue ce env (eval ce env)) b σ') (hlen : ds.length <= maxLen)
  (hP : ∀ i v, P i v → ∃ d, ds[i]? = some d ∧ At g s.heap own v d) (hax : ∀ b ∈ ax, own b = .fz) (W : Walks g.prog g.w A Ia (Ia :: ax) [Ia] ds.length P St) (hcl : ∀ i h, St i h → ∃ o n, h.get? Ia = some o ∧ o.cls = .type n ∧ (n = "list_iterator" ∨ n = "tuple_iterator" ∨ n = "range_iterator"))
  (fI : s.heap.get? Ia = none) (nD : Ia ≠ Da) (nC : Ia ≠ Ca) (tI : own₁ Ia = .no) (B₁ : Blk g own own₁ s.heap h₁ Da Ca σ m₁ (lst ([] : List Value).toArray 0)) (hst₁ : St 0 h₁)
  (KK : ∀ (Da Ca : Addr) (h₂ : Heap) tk₂ m, h₂.Ns Ca m -> s.heap.get? Ca = none -> (∀ h₇, Heap.SameBut Ca h₂ h₇ -> ∃ own₇, Ext own own₇ s.heap h₇ /\ RG g own₇ σ' h₇ /\ At g h₇ own₇ (.ref Da) (.list rs) /\ own₇ Ca = .no) -> compPost (model g.prog g.w) A E use Q (.ref Da) Ca (.ok .next) { s with heap := h₂, toks := tk₂ }) :
  codeAny (model g.prog g.w) A (.compStart (.ListComp ee [⟨tg, iter, ifs, 0⟩] scc pos) 0 (.ref Ia) (.ref Da) (compEnvC scc (closL env scc.names []) Ca env)) (compPost (model g.prog g.w) A E use Q (.ref Da) Ca) { s with heap := h₁, toks := tk₁ } := by
 have F : ∀ i, FpOf (Ia :: ax) (St i) := λi h h' st k => W.frame i h h' st k
 have ex : ∀ {i h}, St i h -> ∃ o, h.get? Ia = some o := λst => let ⟨o, _, e, _⟩ := hcl _ _ st; ⟨o, e⟩
 have loop : ∀ tk₀ : Nat, codeAny (model g.prog g.w) A (.compLoop (.ListComp ee [⟨tg, iter, ifs, 0⟩] scc pos) 0 (.ref Ia) (.ref Da) (compEnvC scc (closL env scc.names []) Ca env)) (compPost (model g.prog g.w) A E use Q (.ref Da) Ca) { s with heap := h₁, toks := tk₀ } := λtk₀ => by
  refine comp_abs (CompI g own s f (capt l fre) elt ts cond σ' ds rs (Ia :: ax) St Ia Da Ca) (λk s' hI N E' kn ks => ?_) (ds.length + 1) ⟨0, own₁, σ, _, [], rs, m₁, h₁, _, rfl, rfl, Nat.zero_le _, ⟨hst₁, λb hb => ?_, ⟨_, B₁⟩, .nil, trivial⟩, Nat.zero_le _, tI, hev, rfl⟩
  ·revert kn ks
   refine hI.elim λi own' σ₁ ys done rest m h' tk hi I hdl oI hev' hdr kn ks => ?_
   by_cases hlt : i < ds.length
   ·refine W.item i _ _ _ hlt I.st λv h₂ tk₂ hvi hst₂ hk₂ => ?_
    obtain ⟨d, hd, yv⟩ := hP i v hvi
    rw [drop_of hd] at hev'
    have I₂ := I.item (T' := St (i + 1)) MT.of hst₂ hk₂ oI nD nC fI (ex hst₂)
    obtain ⟨n₂, B₂⟩ := I₂.blk
    have yv₂ : At g h₂ own' v d := At.mono (B₂.le r.toRG) yv
    have go : ∀ {b : Loc} {ok : Bool} {σ₂ : Sg} {Q' : Unit -> Shared -> Prop} {E' : Value -> Shared -> Prop}, bindT ts d = some b -> (∀ h₃ tk₃ m₃, BlkI g own s.heap (Ia :: ax) (St (i + 1)) MT Da Ca own' h₃ σ₁ m₃ ys done -> R g own' (compEnvC scc (closL env scc.names []) Ca env) (b ++ capt l fre) σ₁ h₃ -> Q' () { s with heap := h₃, toks := tk₃ }) -> wpAny (model g.prog g.w) A (assign tg (compEnvC scc (closL env scc.names []) Ca env) v) Q' E' { s with heap := h₂, toks := tk₂ } := λ{b ok σ₂ Q' E'} hb K =>
     assign_ok (g := g) (own := own') (s := { s with heap := h₂, toks := tk₂ }) (m := m) hh it hb hcc.kind (λt ht => lookup_relabel_local (hcc.loc t ht)) yv₂ B₂.ns λh₃ tk₃ m₃ hn₃ hk₃ hb₃ hm₃ => by
      have I₃ := I₂.names (F _) MT.of hn₃ (λb o hb e => hk₃ b o hb e)
      obtain ⟨n₃, B₃⟩ := I₃.blk
      have L₃ : Le h₂ h₃ own' own' := le_of (λb o hb e => hk₃ b o (λ(q : b = Ca) => by rw [q, B₃.tC] at hb; cases hb) e) λ_ _ => rfl
      exact K h₃ tk₃ m₃ I₃ (B₃.R r hsc hcc λp hp => let ⟨v, h1, d, h2, h3⟩ := hb₃ p hp; ⟨(bindT_in it hb p hp).1, (bindT_in it hb p hp).2, v, d, h1, h2, At.mono L₃ h3⟩)
    refine ks _ _ λE B J kJ kf kt => ?_
    have fin : ∀ {own₄ h₄ σ₄ m₄ ys' done' rest' tk₄}, BlkI g own s.heap (Ia :: ax) (St (i + 1)) MT Da Ca own₄ h₄ σ₄ m₄ ys' done' -> done'.length <= i + 1 -> own₄ Ia = .no -> evc f (capt l fre) elt ts cond σ₄ (ds.drop (i + 1)) = some (rest', σ') -> done' ++ rest' = rs -> J { s with heap := h₄, toks := tk₄ } :=
     λI a b c d => kJ _ _ (Nat.sub_lt_sub_left (Nat.lt_succ_of_lt hlt) (Nat.lt_succ_self _)) ⟨i + 1, _, _, _, _, _, _, _, _, rfl, rfl, hlt, I, a, b, c, d⟩
    refine go_none it (hcl _ _ hst₂) ?_
    refine evc_e hev' (λb σ₂ hb hc hev' => ?_) λb σ₂ y₁ σ₅ ys' hb hc he hev' hy => ?_
    ·refine go (ok := true) (σ₂ := σ₂) hb λh₃ tk₃ m₃ I₃ R₃ => ?_
     refine cond_ok (s := { s with heap := h₃, toks := tk₃ }) (m := m₃) hif hc R₃ ScOf.comp hC _ _ λh₄ tk₄ own₄ x₄ r₄ => ?_
     obtain ⟨o, e⟩ := ex I₃.st
     exact kf _ <| fin (I₃.eval (F _) MT.of x₄ r₄) (Nat.le_succ_of_le hdl) ((x₄.tags _ _ e).trans oI) hev' hdr
    ·refine go (ok := true) (σ₂ := σ₂) hb λh₃ tk₃ m₃ I₃ R₃ => ?_
     refine cond_ok (s := { s with heap := h₃, toks := tk₃ }) (m := m₃) hif hc R₃ ScOf.comp hC _ _ λh₄ tk₄ own₄ x₄ r₄ => ?_
     obtain ⟨o, e⟩ := ex I₃.st
     have I₄ := I₃.eval (F _) MT.of x₄ r₄
     refine kt _ <| hE _ _ _ _ _ own₄ { s with heap := h₄, toks := tk₄ } he ScOf.comp (R₃.ext x₄ r₄) _ _ λvy h₅ tk₅ own₅ x₅ r₅ y₅ => ?_
     obtain ⟨o', e'⟩ := ex I₄.st
     refine (I₄.eval (F _) MT.of x₅ r₅).append (s := { s with heap := h₅, toks := tk₅ }) (F _) MT.of y₅ (Nat.le_trans hdl (Nat.le_trans hi hlen)) λh₆ I₆ => ?_
     exact fin I₆ (by rw [List.length_append]; exact Nat.succ_le_succ hdl) ((x₅.tags _ _ e').trans ((x₄.tags _ _ e).trans oI)) hev' (by subst hy; rw [List.append_assoc]; exact hdr)
   ·have hi' : i = ds.length := Nat.le_antisymm hi (Nat.not_lt.mp hlt)
    subst hi'
    refine W.done _ _ _ I.st λh₂ tk₂ hk₂ => ?_
    rw [List.drop_length] at hev'
    have h := Prod.mk.inj (Option.some.inj hev')
    obtain ⟨h1, h2⟩ := h
    subst h1
    subst h2
    rw [List.append_nil] at hdr
    subst hdr
    obtain ⟨n, B⟩ := I.blk
    have k : ∀ b o, b ≠ Ia -> h'.get? b = some o -> h₂.get? b = some o := λb o hb e => hk₂ b o (λq => hb (List.mem_singleton.mp q)) e
    have B₂ : Blk g own own' s.heap h₂ Da Ca σ₁ m (lst ys n) := B.free (λb o hb e => k b o (λq => hb (by rw [q]; exact oI)) e) (λb o o' e0 _ e => k b o (λq => by rw [q, fI] at e0; cases e0) e) (k _ _ (Ne.symm nD) B.acc)
    refine kn _ <| KK Da Ca h₂ tk₂ m B₂.ns (none_of_le B.szC) λh₇ hs₇ => ?_
    obtain ⟨own₇, x, rg, tD, gD, L, tC⟩ := B₂.out r.toRG hs₇
    exact ⟨own₇, x, rg, .list tD ⟨n, gD⟩ (AtL.mono L (AtL.mono (le_of (λb o hb e => k b o (λq => by rw [q, oI] at hb; cases hb) e) λ_ _ => rfl) I.at_)), tC⟩
  ·rcases List.mem_cons.mp hb with q | q
   ·exact q ▸ .inl ⟨tI, nD, nC, ex hst₁⟩
   ·obtain ⟨o, e⟩ := r.lt b (by rw [hax b q]; intro z; cases z)
    exact .inr (by rw [B₁.ext.tags b o e, inner_hot (by rw [hax b q]; rfl)]; exact hax b q)
 exact codeAny_compStart_list (loop _) (W.self 0 _ _ _ hst₁ (loop _))
theorem comp_okU {use : Option (Value → Sem Unit)} {f : Loc → Sg → X → Option (D × Sg)} {elt : X} {ts fre : List Nat} {cond : Option X} {ee : Expr} {ifs : List Expr} {tg iter : Expr} {sc scc : Scope} {pos : Pos} {v : Value} {dsrc : D} {ds rs : List D} {Q : Value → Shared → Prop} {E : Value → Shared → Prop}
  (hh : A.handled = none) (r : R g own env l σ s.heap) (y : At g s.heap own v dsrc) (hq : itD dsrc = some ds) (hlen : ds.length <= maxLen) (hsc : ScOf sc env) (hcc : ScC sc scc ts fre) (it : IsT ts tg) (hif : IsIf cond ifs)
  (hin : fre.all (λi => (l.lookup i).isSome) = true)
  (hev : evc f (l.filter λq => fre.contains q.1 && notFv q.2) elt ts cond σ ds = some (rs, σ'))
  (hE : ∀ l σ d σ' env own s, f l σ elt = some (d, σ') -> ScOf scc env -> R g own env l σ s.heap -> Gives g A own s (eval ee env) d σ')
  (hC : ∀ c ce, cond = some c -> ifs = [ce] -> ∀ l σ b σ' env own s, f l σ c = some (.bool b, σ') -> ScOf scc env -> R g own env l σ s.heap -> GivesB g A own s (isTrue ce env (eval ce env)) b σ')
  (KK : ∀ (Da Ca : Addr) (h₂ : Heap) tk₂ m, h₂.Ns Ca m -> s.heap.get? Ca = none -> (∀ h₇, Heap.SameBut Ca h₂ h₇ -> ∃ own₇, Ext own own₇ s.heap h₇ /\ RG g own₇ σ' h₇ /\ At g h₇ own₇ (.ref Da) (.list rs) /\ own₇ Ca = .no) -> compPost (model g.prog g.w) A E use Q (.ref Da) Ca (.ok .next) { s with heap := h₂, toks := tk₂ }) :
  closureFor scc env = pure (closL env scc.names []) /\
  wpAny (model g.prog g.w) A (pyIter v) (λit s₂ => wpAny (model g.prog g.w) A (newList []) (λacc s₃ => wpAny (model g.prog g.w) A (newFunctionEnv scc env.globals (closL env scc.names []) [] env.qual none .none (some env)) (λcenv s₄ =>
   codeAny (model g.prog g.w) A (.compStart (.ListComp ee [⟨tg, iter, ifs, 0⟩] scc pos) 0 it acc { cenv with scope := relabel scc env }) (compPost (model g.prog g.w) A E use Q acc cenv.locals) s₄) E s₃) E s₂) E s :=
 ⟨closure_ok r hsc hcc hin, by
 refine iter_seq hh r.toRG y hq λP ax oI St hP hax W hst hIf hcl => ?_
 refine wpAny_newObj_type (T := "list") (data := .seq ([] : List Value).toArray) ?_ (Nat.zero_le _)
 refine block_in (s := { s with heap := s.heap.push oI }) rfl r hcc (λb o e => Heap.get?_push_of_some _ e) (by rw [Heap.size_push]; exact Nat.le_succ _) λh₁ tk₁ m₁ B₁ old₁ => ?_
 have eD : (s.heap.push oI).objs.size = s.heap.objs.size + 1 := Heap.size_push ..
 exact comp_blk (s := s) hh r hsc hcc it hif hev hE hC hlen hP hax W hcl (none_of_le (Nat.le_refl _)) (by rw [eD]; exact Nat.ne_of_lt (Nat.lt_succ_self _)) (by rw [eD]; exact Nat.ne_of_lt (Nat.lt_succ_of_lt (Nat.lt_succ_self _))) (tI own r.toRG (by rw [eD]; exact Nat.ne_of_lt (Nat.lt_succ_of_lt (Nat.lt_succ_self _)))) B₁
  (W.frame 0 _ _ hst λb _ o e => old₁ b o e) KK⟩
theorem comp_ok {f : Loc → Sg → X → Option (D × Sg)} {elt : X} {ts fre : List Nat} {cond : Option X} {ee : Expr} {ifs : List Expr} {tg iter : Expr} {sc scc : Scope} {pos : Pos} {v : Value} {dsrc : D} {ds rs : List D} {Q : Value → Shared → Prop} {E : Value → Shared → Prop}
  (hh : A.handled = none) (r : R g own env l σ s.heap) (y : At g s.heap own v dsrc) (hq : itD dsrc = some ds) (hlen : ds.length <= maxLen) (hsc : ScOf sc env) (hcc : ScC sc scc ts fre) (it : IsT ts tg) (hif : IsIf cond ifs)
  (hin : fre.all (λi => (l.lookup i).isSome) = true)
  (hev : evc f (l.filter λq => fre.contains q.1 && notFv q.2) elt ts cond σ ds = some (rs, σ'))
  (hE : ∀ l σ d σ' env own s, f l σ elt = some (d, σ') -> ScOf scc env -> R g own env l σ s.heap -> Gives g A own s (eval ee env) d σ')
  (hC : ∀ c ce, cond = some c -> ifs = [ce] -> ∀ l σ b σ' env own s, f l σ c = some (.bool b, σ') -> ScOf scc env -> R g own env l σ s.heap -> GivesB g A own s (isTrue ce env (eval ce env)) b σ')
  (K : ∀ v h' tk' own', Ext own own' s.heap h' -> RG g own' σ' h' -> At g h' own' v (.list rs) -> Q v { s with heap := h', toks := tk' }) :
  closureFor scc env = pure (closL env scc.names []) /\
  wpAny (model g.prog g.w) A (pyIter v) (λit s₂ => wpAny (model g.prog g.w) A (newList []) (λacc s₃ => wpAny (model g.prog g.w) A (newFunctionEnv scc env.globals (closL env scc.names []) [] env.qual none .none (some env)) (λcenv s₄ =>
   codeAny (model g.prog g.w) A (.compStart (.ListComp ee [⟨tg, iter, ifs, 0⟩] scc pos) 0 it acc { cenv with scope := relabel scc env }) (compPost (model g.prog g.w) A E none Q acc cenv.locals) s₄) E s₃) E s₂) E s :=
 comp_okU (use := none) hh r y hq hlen hsc hcc it hif hin hev hE hC λDa Ca h₂ tk₂ m hn _ fin => ⟨m, hn, λh₇ hs₇ => by
  obtain ⟨own₇, x, r, y, _⟩ := fin h₇ hs₇
  exact K _ h₇ _ own₇ x r y⟩
end
noncomputable def glb (sc : Scope) (x : Str) : Bool := sc.names.lookup x == some .globalImplicit
structure St (g : Gh) : Prop where
 nsg : g.h₀.Ns mainGlobals g.mg
 nsb : g.h₀.Ns builtinsNs g.mb
 lim : g.h₀.NoLimit
 fn : ∀ f < 28, g.mg (fN f) = some (.ref (g.fa f))
 keepF : ∀ f < 28, keepIn g.K (.ref (g.fa f)) = true
 KIn : g.K.In g.h₀
 sysm : ∃ o, g.h₀.get? sysModules = some o
 b_len : g.mg "len" = none ∧ g.mb "len" = some (.builtin "len")
 b_tuple : g.mg "tuple" = none ∧ g.mb "tuple" = some (.type "tuple")
 b_list : g.mg "list" = none ∧ g.mb "list" = some (.type "list")
 b_dict : g.mg "dict" = none ∧ g.mb "dict" = some (.type "dict")
 b_zip : g.mg "zip" = none ∧ g.mb "zip" = some (.type "zip")
 b_range : g.mg "range" = none ∧ g.mb "range" = some (.type "range")
 b_max : g.mg "max" = none ∧ g.mb "max" = some (.builtin "max")
 b_enum : g.mg "enumerate" = none ∧ g.mb "enumerate" = some (.type "enumerate")
 b_int : g.mg "int" = none ∧ g.mb "int" = some (.type "int")
 most : ∃ t, g.mg "MOST_TYPES" = some (.int 4000 t)
noncomputable def bx : X -> Bool
 | .cmp _ _ _ => true | .and _ _ => true | .or _ _ => true | .not _ => true | .call _ _ => true | .inn _ _ _ => true | .nem _ => true | .ext _ _ => true | _ => false
def callEq (func : Expr) (es : List Expr) (q : Pos) : Prop :=
 ∀ env, eval (.Call func es [] q) env = (do callWith q (<- eval func env) [] (backTo q (starEach es env)) (backToKw q (keywordEach [] env)))
def trueEq (e : Expr) : Prop := ∀ env whole, isTrue e env whole = (do let v <- whole; standAt e.pos; holding [v] (truthy v))
def attrEq (value : Expr) (attr : Str) (pos : Pos) : Prop := ∀ env, eval (.Attribute value attr pos) env = (do
   let o <- eval value env
   standAt pos.atName
   let r <- holding [o] (getAttr o attr true)
   letTemporaryGo value o r
   pure r)
inductive Es (P : Scope -> X -> Expr -> Prop) (sc : Scope) : List X -> List Expr -> Prop
 | nil : Es P sc [] []
 | cons {x : X} {xs : List X} {e : Expr} {es : List Expr} : (∀ env, starEach (e :: es) env = (false, eval e env) :: starEach es env) -> P sc x e -> Es P sc xs es -> Es P sc (x :: xs) (e :: es)
theorem Es.map {P Q : Scope -> X -> Expr -> Prop} {sc : Scope} (f : ∀ sc x e, P sc x e -> Q sc x e) {xs : List X} {es : List Expr} (h : Es P sc xs es) : Es Q sc xs es := Es.rec (motive := λxs es _ => Es Q sc xs es) .nil (λa b _ c => .cons a (f _ _ _ b) c) h
inductive IsE1 (g : Gh) (P : Scope -> X -> Expr -> Prop) (sc : Scope) : X -> Expr -> Prop
 | var {i : Nat} {p : Pos} : (vN i == ("__debug__" : Str)) = false → IsE1 g P sc (.var i) (.Name (vN i) p)
 | none {k : Nat} {p : Pos} : IsE1 g P sc (.cst .none) (.Constant .none k p)
 | bool {b : Bool} {k : Nat} {p : Pos} : IsE1 g P sc (.cst (.bool b)) (.Constant (.bool b) k p)
 | int {i : Int} {k : Nat} {p : Pos} : IsE1 g P sc (.cst (.int i)) (.Constant (.int i) k p)
 | str {i : Nat} {k : Nat} {p : Pos} : i < 39 -> IsE1 g P sc (.cst (.str i)) (.Constant (.str (sN i)) k p)
 | tup {xs : List X} {es : List Expr} {k : Nat} {p : Pos} : Es P sc xs es -> IsE1 g P sc (.tup xs) (.Tuple es k p)
 | lst {xs : List X} {es : List Expr} {p : Pos} : Es P sc xs es -> IsE1 g P sc (.lst xs) (.List es p)
 | emp {p : Pos} : IsE1 g P sc .emp (.Dict [] [] p)
 | idx {x y : X} {e i : Expr} {p : Pos} : (∀ o i', subscripted i false o i' = operate [o, i'] (getItem o i')) -> P sc x e -> P sc y i -> IsE1 g P sc (.idx x y) (.Subscript e i p)
 | rev {x : X} {e : Expr} {p q r t : Pos} {k : Nat} : P sc x e -> IsE1 g P sc (.rev x) (.Subscript e (.Slice none none (some (.UnaryOp .USub (.Constant (.int 1) k p) q)) r) t)
 | upto {x y : X} {e u : Expr} {p r : Pos} : P sc x e -> P sc y u -> IsE1 g P sc (.upto x y) (.Subscript e (.Slice none (some u) none r) p)
 | cmp {op : CmpOp} {x y : X} {a b : Expr} {p : Pos} : behindInMarks op b = false -> P sc x a -> P sc y b -> IsE1 g P sc (.cmp op x y) (.Compare a [op] [b] p)
 | and {x y : X} {a b : Expr} {p : Pos} : bx x = true -> bx y = true -> P sc x a -> P sc y b -> IsE1 g P sc (.and x y) (.BoolOp .And [a, b] p)
 | or {x y : X} {a b : Expr} {p : Pos} : bx x = true -> bx y = true -> P sc x a -> P sc y b -> IsE1 g P sc (.or x y) (.BoolOp .Or [a, b] p)
 | not {x : X} {a : Expr} {p : Pos} : bx x = true -> P sc x a -> IsE1 g P sc (.not x) (.UnaryOp .Not a p)
 | ite {t x y : X} {c a b : Expr} {p : Pos} : bx t = true -> P sc t c -> P sc x a -> P sc y b -> IsE1 g P sc (.ite t x y) (.IfExp c a b p)
 | bin {op : Operator} {x y : X} {a b : Expr} {p : Pos} : P sc x a -> P sc y b -> IsE1 g P sc (.bin op x y) (.BinOp a op b p)
 | neg {x : X} {a : Expr} {p : Pos} : P sc x a -> IsE1 g P sc (.neg x) (.UnaryOp .USub a p)
 | call {f : Nat} {xs : List X} {es : List Expr} {p q : Pos} : f < 28 -> glb sc (fN f) = true -> callEq (.Name (fN f) p) es q -> Es P sc xs es -> IsE1 g P sc (.call f xs) (.Call (.Name (fN f) p) es [] q)
 | clo {v : Nat} {x : X} {e : Expr} {p q : Pos} : (vN v == ("__debug__" : Str)) = false → callEq (.Name (vN v) p) [e] q → (∀ env, starEach [e] env = [(false, eval e env)]) → P sc x e → IsE1 g P sc (.clo v x) (.Call (.Name (vN v) p) [e] [] q)
 | len {x : X} {e : Expr} {p q : Pos} : glb sc "len" = true → callEq (.Name "len" p) [e] q → (∀ env, starEach [e] env = [(false, eval e env)]) → P sc x e → IsE1 g P sc (.len x) (.Call (.Name "len" p) [e] [] q)
 | tuple {x : X} {e : Expr} {p q : Pos} : glb sc "tuple" = true → callEq (.Name "tuple" p) [e] q → (∀ env, starEach [e] env = [(false, eval e env)]) → P sc x e → IsE1 g P sc (.tuple x) (.Call (.Name "tuple" p) [e] [] q)
 | list {x : X} {e : Expr} {p q : Pos} : glb sc "list" = true → callEq (.Name "list" p) [e] q → (∀ env, starEach [e] env = [(false, eval e env)]) → P sc x e → IsE1 g P sc (.list x) (.Call (.Name "list" p) [e] [] q)
 | rng {x : X} {e : Expr} {p q : Pos} : glb sc "range" = true → callEq (.Name "range" p) [e] q → (∀ env, starEach [e] env = [(false, eval e env)]) → P sc x e → IsE1 g P sc (.rng x) (.Call (.Name "range" p) [e] [] q)
 | dzip {x y : X} {a b : Expr} {p q r t : Pos} : glb sc "dict" = true → glb sc "zip" = true → callEq (.Name "dict" p) [.Call (.Name "zip" q) [a, b] [] r] t → (∀ env, starEach [.Call (.Name "zip" q) [a, b] [] r] env = [(false, eval (.Call (.Name "zip" q) [a, b] [] r) env)]) →
   callEq (.Name "zip" q) [a, b] r → (∀ env, starEach [a, b] env = [(false, eval a env), (false, eval b env)]) → P sc x a → P sc y b → IsE1 g P sc (.dzip x y) (.Call (.Name "dict" p) [.Call (.Name "zip" q) [a, b] [] r] [] t)
 | max2 {x y : X} {a b : Expr} {p q : Pos} : glb sc "max" = true → callEq (.Name "max" p) [a, b] q → (∀ env, starEach [a, b] env = [(false, eval a env), (false, eval b env)]) → P sc x a → P sc y b → IsE1 g P sc (.max2 x y) (.Call (.Name "max" p) [a, b] [] q)
 | b2i {x : X} {e : Expr} {p q : Pos} : glb sc "int" = true → callEq (.Name "int" p) [e] q → (∀ env, starEach [e] env = [(false, eval e env)]) → P sc x e → IsE1 g P sc (.b2i x) (.Call (.Name "int" p) [e] [] q)
 | srcl {xs : List X} {es : List Expr} {p : Pos} : Es P sc xs es -> IsE1 g P sc (.srcl xs) (.List es p)
 | lenO {y : Nat} {p q r : Pos} : (vN y == ("__debug__" : Str)) = false → glb sc "len" = true → callEq (.Name "len" p) [.Name (vN y) q] r → (∀ env, starEach [.Name (vN y) q] env = [(false, eval (.Name (vN y) q) env)]) → IsE1 g P sc (.lenO y) (.Call (.Name "len" p) [.Name (vN y) q] [] r)
 | glob {p : Pos} : glb sc "MOST_TYPES" = true → IsE1 g P sc .glob (.Name "MOST_TYPES" p)
 | get {x y z : X} {o a b : Expr} {p q : Pos} : (∀ env, attributeBase o "get" env (eval o env) = eval o env) →
   (∀ env, ((backTo q (starEach [a, b] env)).all (λx => !x.1) && (backToKw q (keywordEach [] env)).all (λx => x.1.isSome) && decide ([a, b].length + ([] : List Keyword).length + (if ([] : List Keyword).isEmpty then 0 else 1) < 30)) = true) ->
   (p.endLine == q.line) = true -> (∀ env, backTo q (starEach [a, b] env) = [(false, eval a env), (false, eval b env)]) ->
   P sc x o → P sc y a → P sc z b → IsE1 g P sc (.get x y z) (.Call (.Attribute o "get" p) [a, b] [] q)
 | attr {x : X} {i : Nat} {e : Expr} {p : Pos} : attrEq e (aN i) p -> P sc x e -> IsE1 g P sc (.attr x i) (.Attribute e (aN i) p)
 | comp0 {scc : Scope} {x y : X} {ts fre : List Nat} {ee tg it : Expr} {p : Pos} : ScC sc scc ts fre -> IsT ts tg -> (∀ env x, foldedSetIterable it env x = pure x) -> P scc x ee -> P sc y it -> IsE1 g P sc (.comp x ts fre y .none) (.ListComp ee [⟨tg, it, [], 0⟩] scc p)
 | comp1 {scc : Scope} {x y c : X} {ts fre : List Nat} {ee tg it ce : Expr} {p : Pos} : ScC sc scc ts fre -> IsT ts tg -> (∀ env x, foldedSetIterable it env x = pure x) -> P scc x ee -> P sc y it -> bx c = true -> P scc c ce -> IsE1 g P sc (.comp x ts fre y (some c)) (.ListComp ee [⟨tg, it, [ce], 0⟩] scc p)
 | inn {neg : Bool} {x : X} {y : Nat} {a : Expr} {p q : Pos} : (vN y == ("__debug__" : Str)) = false → P sc x a → IsE1 g P sc (.inn neg x y) (.Compare a [if neg then .NotIn else .In] [.Name (vN y) p] q)
 | nem {y : Nat} {p q r : Pos} : (vN y == ("__debug__" : Str)) = false → IsE1 g P sc (.nem y) (.Compare (.Name (vN y) p) [.NotEq] [.List [] q] r)
 | ext {j : Nat} {vs : List Nat} {e : Expr} : g.extIs j sc e vs -> trueEq e -> IsE1 g P sc (.ext j vs) e
theorem IsE1.map {g : Gh} {P Q : Scope -> X -> Expr -> Prop} {sc : Scope} {x : X} {e : Expr} (f : ∀ sc x e, P sc x e -> Q sc x e) (h : IsE1 g P sc x e) : IsE1 g Q sc x e := by
 induction h using IsE1.casesOn with
 | var h0 => exact .var h0
 | none => exact .none
 | bool => exact .bool
 | int => exact .int
 | str h0 => exact .str h0
 | tup h0 => exact .tup (h0.map f)
 | lst h0 => exact .lst (h0.map f)
 | emp => exact .emp
 | idx h0 h1 h2 => exact .idx h0 (f _ _ _ h1) (f _ _ _ h2)
 | rev h0 => exact .rev (f _ _ _ h0)
 | upto h0 h1 => exact .upto (f _ _ _ h0) (f _ _ _ h1)
 | cmp h0 h1 h2 => exact .cmp h0 (f _ _ _ h1) (f _ _ _ h2)
 | and h0 h1 h2 h3 => exact .and h0 h1 (f _ _ _ h2) (f _ _ _ h3)
 | or h0 h1 h2 h3 => exact .or h0 h1 (f _ _ _ h2) (f _ _ _ h3)
 | not h0 h1 => exact .not h0 (f _ _ _ h1)
 | ite h0 h1 h2 h3 => exact .ite h0 (f _ _ _ h1) (f _ _ _ h2) (f _ _ _ h3)
 | bin h0 h1 => exact .bin (f _ _ _ h0) (f _ _ _ h1)
 | neg h0 => exact .neg (f _ _ _ h0)
 | call h0 h1 h2 h3 => exact .call h0 h1 h2 (h3.map f)
 | clo h0 h1 h2 h3 => exact .clo h0 h1 h2 (f _ _ _ h3)
 | len h0 h1 h2 h3 => exact .len h0 h1 h2 (f _ _ _ h3)
 | tuple h0 h1 h2 h3 => exact .tuple h0 h1 h2 (f _ _ _ h3)
 | list h0 h1 h2 h3 => exact .list h0 h1 h2 (f _ _ _ h3)
 | rng h0 h1 h2 h3 => exact .rng h0 h1 h2 (f _ _ _ h3)
 | dzip h0 h1 h2 h3 h4 h5 h6 h7 => exact .dzip h0 h1 h2 h3 h4 h5 (f _ _ _ h6) (f _ _ _ h7)
 | max2 h0 h1 h2 h3 h4 => exact .max2 h0 h1 h2 (f _ _ _ h3) (f _ _ _ h4)
 | b2i h0 h1 h2 h3 => exact .b2i h0 h1 h2 (f _ _ _ h3)
 | srcl h0 => exact .srcl (h0.map f)
 | lenO h0 h1 h2 h3 => exact .lenO h0 h1 h2 h3
 | glob h0 => exact .glob h0
 | get h0 h1 h2 h3 h4 h5 h6 => exact .get h0 h1 h2 h3 (f _ _ _ h4) (f _ _ _ h5) (f _ _ _ h6)
 | attr h0 h1 => exact .attr h0 (f _ _ _ h1)
 | comp0 h0 h1 h2 h3 h4 => exact .comp0 h0 h1 h2 (f _ _ _ h3) (f _ _ _ h4)
 | comp1 h0 h1 h2 h3 h4 h5 h6 => exact .comp1 h0 h1 h2 (f _ _ _ h3) (f _ _ _ h4) h5 (f _ _ _ h6)
 | inn h0 h1 => exact .inn h0 (f _ _ _ h1)
 | nem h0 => exact .nem h0
 | ext h0 h1 => exact .ext h0 h1
def IsE (g : Gh) (sc : Scope) (x : X) (e : Expr) : Prop := ∃ P : Scope -> X -> Expr -> Prop, (∀ sc x e, P sc x e -> IsE1 g P sc x e) /\ P sc x e
abbrev IsEs (g : Gh) : Scope -> List X -> List Expr -> Prop := Es (IsE g)
theorem IsE.out {g : Gh} {sc : Scope} {x : X} {e : Expr} : IsE g sc x e -> IsE1 g (IsE g) sc x e := λ⟨P, h, p⟩ => (h _ _ _ p).map λ_ _ _ q => ⟨P, h, q⟩
theorem IsE.mk {g : Gh} {sc : Scope} {x : X} {e : Expr} (h : IsE1 g (IsE g) sc x e) : IsE g sc x e := ⟨λsc x e => IsE1 g (IsE g) sc x e, λ_ _ _ q => q.map λ_ _ _ => IsE.out, h⟩
structure COk (g : Gh) (C : Calls) (k : Nat) : Prop where
 fn : ∀ (A : Around) (own : Addr -> Tag) (s : Shared) f vs ds σ d σ', f < 28 -> CA A k -> RG g own σ s.heap -> AtL g s.heap own vs ds -> C f ds σ = some (d, σ') -> Gives g A own s (call (.ref (g.fa f)) vs []) d σ'
 cl : ∀ (A : Around) (own : Addr -> Tag) (s : Shared) j fv v dc a σ d σ', CA A k -> RG g own σ s.heap -> At g s.heap own fv (.clo j dc) -> At g s.heap own v a -> C (1000 + j) [dc, a] σ = some (d, σ') -> Gives g A own s (call fv [v] []) d σ'
 ex : ∀ (A : Around) (own : Addr -> Tag) (s : Shared) j sc e env l vs ds σ d σ', g.extIs j sc e vs -> CA A k -> ScOf sc env -> R g own env l σ s.heap -> valsOf l vs = some ds -> C (2000 + j) ds σ = some (d, σ') -> Gives g A own s (eval e env) d σ'
section
variable {g : Gh} {A : Around} {own own' : Addr -> Tag} {s : Shared} {σ σ₁ σ₂ σ₃ : Sg} {d e : D} {h h' : Heap}
theorem RG.ns (r : RG g own σ h) {a : Addr} {m : Str -> Option Value} (n : g.h₀.Ns a m) : h.Ns a m := let ⟨o, es, ep, ho, q⟩ := n; ⟨o, es, ep, (r.base _ _ ho).1, q⟩
theorem RG.kin (S : St g) (r : RG g own σ h) : g.K.In h := λa o e => (r.base _ _ (S.KIn a o e)).1
theorem glb_kind {sc : Scope} {env : Env} {x : Str} (hs : ScOf sc env) (h : glb sc x = true) : env.kindOf x = some .globalImplicit := hs.glb x (by simpa [glb] using h)
theorem fN_dbg : ∀ f < 28, (fN f == ("__debug__" : Str)) = false := by decide +kernel
theorem gname {env : Env} {l : Loc} {sc : Scope} {x : Str} {p : Pos} {v : Value} {Q : Value → Shared → Prop} {E : Value → Shared → Prop} (S : St g) (r : R g own env l σ s.heap) (hs : ScOf sc env) (h : glb sc x = true) (hd : (x == ("__debug__" : Str)) = false)
  (hv : g.mg x = some v) (hQ : Q v s) : wpAny (model g.prog g.w) A (eval (.Name x p) env) Q E s := by
 refine wpAny_Name ?_ hd
 rw [loadName_read r.kf (glb_kind hs h)]
 refine loadGlobal_global (mg := g.mg) ?_ hv hQ
 rw [r.gl]; exact r.toRG.ns S.nsg
theorem bname {env : Env} {l : Loc} {sc : Scope} {x : Str} {p : Pos} {v : Value} {Q : Value → Shared → Prop} {E : Value → Shared → Prop} (S : St g) (r : R g own env l σ s.heap) (hs : ScOf sc env) (h : glb sc x = true) (hd : (x == ("__debug__" : Str)) = false)
  (hv : g.mg x = none /\ g.mb x = some v) (hQ : Q v s) : wpAny (model g.prog g.w) A (eval (.Name x p) env) Q E s := by
 refine wpAny_Name ?_ hd
 rw [loadName_read r.kf (glb_kind hs h)]
 refine loadGlobal_builtin (mg := g.mg) (mb := g.mb) ?_ hv.1 ?_ hv.2 hQ
 ·rw [r.gl]; exact r.toRG.ns S.nsg
 ·rw [r.bu]; exact r.toRG.ns S.nsb
theorem plainArgs {sc : Scope} {xs : List X} {es : List Expr} (h : IsEs g sc xs es) (q : Pos) (env : Env) : (backTo q (starEach es env)).any (·.1) = false := by
 induction es generalizing xs with
 | nil => rfl
 | cons e es ih => cases h with | cons he _ hr => rw [he]; exact ih hr
theorem args_of {f : Value} {trees : List (Bool × Sem Value)} {Q : Args → Shared → Prop} {E : Value → Shared → Prop} (hp : trees.any (·.1) = false) (h : wpAny (model g.prog g.w) A (spliced trees) (fun vs s' => Q ⟨vs, []⟩ s') E s) :
  wpAny (model g.prog g.w) A (evalArgs f true trees []) Q E s := by
 cases trees with
 | nil =>
  unfold evalArgs
  show wpAny _ A (spliced [] >>= _) Q E s
  refine wpAny_bind (wpAny_mono h (λvs s' h' => ?_) λ_ _ x => x)
  refine wpAny_holding ?_
  exact wpAny_bind (wpAny_pure (wpAny_bind (wpAny_pure (wpAny_pure h'))))
 | cons x r => obtain ⟨b, t⟩ := x; simp at hp; obtain ⟨hb, hp⟩ := hp; subst hb; exact evalArgs_plain h
end
def EvOk (g : Gh) (C : Calls) (k : Nat) (A : Around) (n : Nat) : Prop :=
 ∀ (l : Loc) (σ : Sg) (x : X) (d : D) (σ' : Sg) (sc : Scope) (e : Expr) (env : Env) (own : Addr -> Tag) (s : Shared), ev C n l σ x = some (d, σ') -> IsE g sc x e -> ScOf sc env -> R g own env l σ s.heap -> Gives g A own s (eval e env) d σ'
def EvB (g : Gh) (C : Calls) (k : Nat) (A : Around) (n : Nat) : Prop :=
 ∀ (l : Loc) (σ : Sg) (x : X) (b : Bool) (σ' : Sg) (sc : Scope) (e : Expr) (env : Env) (own : Addr -> Tag) (s : Shared), ev C n l σ x = some (.bool b, σ') -> bx x = true -> IsE g sc x e -> ScOf sc env -> R g own env l σ s.heap -> GivesB g A own s (isTrue e env (eval e env)) b σ'
section
variable {g : Gh} {A : Around} {own own' : Addr -> Tag} {s : Shared} {σ σ₁ σ₂ σ₃ σ' : Sg} {d e : D} {h h' : Heap} {C : Calls} {k n : Nat} {l : Loc} {sc : Scope} {env : Env}
theorem two {t₁ t₂ : Sem Value} {Q : Value → Value → Shared → Prop} {E : Value → Shared → Prop} (h1 : Gives g A own s t₁ d σ₁)
  (h2 : ∀ h' tk' own', Ext own own' s.heap h' -> RG g own' σ₁ h' -> Gives g A own' { s with heap := h', toks := tk' } t₂ e σ₂)
  (K : ∀ v w h' tk' own', Ext own own' s.heap h' -> RG g own' σ₂ h' -> At g h' own' v d -> At g h' own' w e -> Q v w { s with heap := h', toks := tk' }) :
  wpAny (model g.prog g.w) A t₁ (λv s₁ => wpAny (model g.prog g.w) A t₂ (λw s₂ => Q v w s₂) E s₁) E s :=
 h1 _ _ λv h' tk' own' x' r' y => h2 h' tk' own' x' r' _ _ λw h'' tk'' own'' x'' r'' z => K v w _ _ _ (x'.trans x'') r'' (At.mono (x''.le r') y) z
theorem ev_list {xs : List X} {es : List Expr} {ds : List D} (ih : EvOk g C k A n) (q : Pos) (hs : ScOf sc env) :
  ∀ (xs : List X) (es : List Expr) (ds : List D) (σ σ' : Sg) (own : Addr -> Tag) (s : Shared), evs (ev C n l) σ xs = some (ds, σ') -> IsEs g sc xs es -> R g own env l σ s.heap -> GivesL g A own s (spliced (backTo q (starEach es env))) ds σ'
 | [], _, _, _, _, own, s, he, hi, r => by
  cases hi
  exact pE2 he (gives_nil r.toRG)
 | x :: xs, _, _, σ, σ', own, s, he, hi, r => by
  cases hi with
  | cons heq h1 h2 =>
   rw [heq]
   exact bE he λp e1 he => bE he λp2 e2 he => pE2 he (gives_cons r.toRG (ih _ _ _ _ _ _ _ _ _ _ e1 h1 hs r) λh' tk' own' x' r' =>
    ev_list (xs := xs) (es := []) (ds := p2.1) ih q hs xs _ _ _ _ own' { s with heap := h', toks := tk' } e2 h2 (r.ext x' r'))
theorem call_args {f : Value} {xs : List X} {es : List Expr} {ds : List D} {q : Pos} {Q : Args → Shared → Prop} {E : Value → Shared → Prop} (hp : (backTo q (starEach es env)).any (·.1) = false)
  (h : GivesL g A own s (spliced (backTo q (starEach es env))) ds σ') (K : ∀ vs h' tk' own', Ext own own' s.heap h' -> RG g own' σ' h' -> AtL g h' own' vs ds -> Q ⟨vs, []⟩ { s with heap := h', toks := tk' }) :
  wpAny (model g.prog g.w) A (evalArgs f true (backTo q (starEach es env)) []) Q E s := by
 refine args_of hp (h _ _ λvs h' tk' own' x' r' y => K vs h' tk' own' x' r' y)
theorem keep_new {t : Tag} {a : Addr} {o : Obj} (r : RG g own σ h) (hk : ∀ b o, h.get? b = some o -> h'.get? b = some o) (ha : h.get? a = none) (ho : h'.get? a = some o) (ht : uq t = false := by rfl) : Ext own (upd own a t) h h' /\ RG g (upd own a t) σ h' := by
 have x : Ext own (upd own a t) h h' := ⟨λb o' e => upd_ne (λq => by rw [q, ha] at e; cases e), λb o' e _ => hk b o' e, λb o' e => ⟨o', hk b o' e⟩⟩
 refine ⟨x, r.keepAll x hk (λb hb => ?_) λb hb => ?_⟩
 ·by_cases q : b = a
  ·rw [q]; exact ⟨o, ho⟩
  ·rw [upd_ne q] at hb; obtain ⟨o', e⟩ := r.lt b hb; exact ⟨o', hk _ _ e⟩
 ·by_cases q : b = a
  ·rw [q, upd_self, ht] at hb; cases hb
  ·exact (upd_ne q).symm
theorem size_none (h : Heap) : h.get? h.objs.size = none := by
 cases e : h.get? h.objs.size with
 | none => rfl
 | some o => exact absurd (Heap.lt_size e) (Nat.lt_irrefl _)
@[elab_as_elim] theorem At.seq_e {v : Value} {ds : List D} {P : Value -> Prop} (y : At g h own v d) (hq : seqD d = some ds) (kt : ∀ a vs, own a = .fz -> h.IsTuple a vs.toArray -> AtL g h own vs ds -> P (.ref a)) (kl : ∀ a vs, own a = .fz -> h.PlainList a vs.toArray -> AtL g h own vs ds -> P (.ref a)) : P v := by
 cases d with
 | tup ds' => exact At.tup_e (P := P) (Option.some.inj hq ▸ y) kt
 | list ds' => exact At.list_e (P := P) (Option.some.inj hq ▸ y) kl
 | _ => exact no hq
theorem sz_le {vs : List Value} {ds : List D} (hl : AtL g h own vs ds) (h : ds.length <= maxLen) : vs.toArray.size <= sizeLine := by
 rw [List.size_toArray, hl.length]; exact Nat.le_trans h (by decide)
theorem sz_eq {vs : List Value} {ds : List D} (hl : AtL g h own vs ds) : (vs.toArray.size : Int) = ds.length := by rw [List.size_toArray, hl.length]
theorem sz_lt {vs : List Value} {ds : List D} (hl : AtL g h own vs ds) (h : ds.length <= maxLen) : (vs.toArray.size : Int) < 2 ^ 63 := by
 rw [sz_eq hl]; exact Int.lt_of_le_of_lt (Int.ofNat_le.mpr h) (by decide)
theorem len_ok {v : Value} {ds : List D} {Q : Value → Shared → Prop} {E : Value → Shared → Prop} (y : At g s.heap own v d) (hq : seqD d = some ds) (hl : ds.length ≤ maxLen) (K : ∀ t tk, Q (.int ds.length t) { s with toks := tk }) : wpAny (model g.prog g.w) A (call (.builtin "len") [v]) Q E s :=
 y.seq_e (P := fun v => wpAny (model g.prog g.w) A (call (.builtin "len") [v]) Q E s) hq (fun a vs hf z hl' => PyProof.Rows.len_tuple (items := vs.toArray) z (sz_lt hl' hl) (by rw [sz_eq hl']; exact K _ _)) fun a vs hf z hl' => PySem.Calls.call_len_list (PlainList.is z) (sz_lt hl' hl) (by rw [sz_eq hl']; exact K _ _)
theorem tuple_ok {v : Value} {ds : List D} (r : RG g own σ s.heap) (y : At g s.heap own v d) (hq : seqD d = some ds) (hl : ds.length ≤ maxLen) : Gives g A own s (call (.type "tuple") [v]) (.tup ds) σ := fun Q E K =>
 y.seq_e (P := fun v => wpAny (model g.prog g.w) A (call (.type "tuple") [v]) Q E s) hq (fun a vs hf z hl' => call_tuple_same z (K _ _ _ _ (Ext.refl _ _) r (.tup hf z hl'))) fun a vs hf z hl' => call_tuple_list (PlainList.is z) (fun h' hk => by
  have hs : s.heap.get? h'.objs.size = none := by
   cases q : s.heap.get? h'.objs.size with
   | none => rfl
   | some o => exact absurd (Heap.lt_size (hk _ _ q)) (Nat.lt_irrefl _)
  have X := keep_new (t := .fz) (a := h'.objs.size) (o := { cls := .type "tuple", data := .seq vs.toArray }) (h' := h'.push { cls := .type "tuple", data := .seq vs.toArray }) r (fun b o e => Heap.get?_push_of_some _ (hk b o e)) hs (Heap.get?_push_size _ rfl)
  exact K _ _ _ _ X.1 X.2 (.tup upd_self ⟨_, Heap.get?_push_size _ rfl, rfl, _, rfl⟩ (AtL.mono (X.1.le r) hl'))) (sz_le hl' hl)
theorem list_ok {v : Value} {ds : List D} (r : RG g own σ s.heap) (y : At g s.heap own v (.tup ds)) (hl : ds.length ≤ maxLen) : Gives g A own s (call (.type "list") [v]) (.list ds) σ := fun Q E K =>
 y.tup_e λa vs hf z hl' => z.elim λo z => z.2.2.elim λn hd => call_list_seq a (.inr rfl) z.1 z.2.1 hd (λh' c' hk hn =>
  have X := keep_new (t := .fz) r hk (size_none _) hn
  K _ _ _ _ X.1 X.2 (.list upd_self ⟨_, hn⟩ (AtL.mono (X.1.le r) hl'))) (sz_le hl' hl)
theorem rng_ok {v : Value} {i : Int} (r : RG g own σ s.heap) (y : At g s.heap own v (.int i)) (h0 : 0 ≤ i) : Gives g A own s (call (.type "range") [v]) (.rng i.toNat) σ := fun Q E K =>
 y.int_e λt => call_range_1 (by
  have X := keep_new (t := .fz) (a := s.heap.objs.size) (h' := s.heap.push { cls := .type "range", data := .fields #[.int 0 s.toks, .int i t, .int 1 (s.toks + 1)] }) r (fun b o e => Heap.get?_push_of_some _ e) (size_none _) (Heap.get?_push_size _ rfl)
  refine K _ _ _ _ X.1 X.2 (.rng (t := s.toks) (u := t) (v := s.toks + 1) upd_self ?_)
  rw [Int.toNat_of_nonneg h0]
  exact Heap.get?_push_size _ rfl)
theorem add_ok {v w : Value} {ds es : List D} (r : RG g own σ s.heap) (y : At g s.heap own v (.list ds)) (z : At g s.heap own w (.list es)) (hl : ds.length + es.length <= maxLen) : Gives g A own s (binaryOp .Add v w) (.list (ds ++ es)) σ := λQ E K =>
 y.list_e λa vs hf p hl1 => z.list_e λb ws hf' p' hl2 => p.elim λn ho => p'.elim λn2 ho2 =>
  concat_meets ⟨_, ho, rfl⟩ ⟨_, ho2, rfl⟩ noFill_list_add seq_list_add PySem.F.slot_list_add PySem.F.entry_list_add (PySem.F.args_list_add_2 _ _) (list_addW a b vs.toArray ws.toArray n n2 none none #[] #[] (by rw [List.size_toArray, List.size_toArray, hl1.length, hl2.length]; exact Nat.le_trans hl (by decide))) ⟨ho, ho2, by
   have X := keep_new (t := .fz) (a := s.heap.objs.size) (h' := s.heap.push { cls := .type "list", data := .seq (vs.toArray ++ ws.toArray) }) r (fun b o e => Heap.get?_push_of_some _ e) (size_none _) (Heap.get?_push_size _ rfl)
   refine K _ _ _ _ X.1 X.2 (.list (vs := vs ++ ws) upd_self ⟨0, ?_⟩ (AtL.mono (X.1.le r) (hl1.append hl2)))
   rw [Heap.get?_push_size _ rfl, List.append_toArray]⟩
theorem lookD_get : ∀ {ks : List Nat} {ds : List D} {k : Nat} {d : D}, lookD ks ds k = some d -> ∃ i : Nat, ks[i]? = some k /\ ds[i]? = some d
 | [], _, _, _, e => no e
 | _ :: _, [], _, _, e => no e
 | j :: ks, d' :: ds, k, d, e => by
  have e : (match k == j with | true => some d' | false => (ks.zip ds).lookup k) = some d := e
  cases q : k == j with
  | true => rw [q] at e; exact ⟨0, congrArg some (eq_of_beq q).symm, e⟩
  | false => rw [q] at e; exact (lookD_get (ks := ks) (ds := ds) e).elim λi h => ⟨i + 1, h⟩
theorem attr_ok {v : Value} {c : Addr} {ks : List Nat} {ds : List D} {x : Nat} {Q : Value → Shared → Prop} {E : Value → Shared → Prop} (S : St g) (r : RG g own σ s.heap) (y : At g s.heap own v (.inst c ks ds)) (hl : lookD ks ds x = some d) (K : ∀ v tk, At g s.heap own v d → Q v { s with toks := tk }) {b : Bool} :
  wpAny (model g.prog g.w) A (getAttr v (aN x) b) Q E s := by
 cases y with
 | inst ok hx f1 f2 h1 h2 hf hh hz hat =>
  rename_i a dx vs es n sl
  obtain ⟨i, hi, hd⟩ := lookD_get hl
  obtain ⟨w, hw, yw⟩ := hat.get hd
  obtain ⟨k1, k2, k3⟩ := ok
  obtain ⟨attr, ha, hn⟩ := k3 x (hx x (List.mem_of_getElem? hi))
  have I : InstAt s.heap a ⟨.ref c, some dx, .plain, sl⟩ c (some (dictOf es n)) := ⟨h1, rfl, rfl, h2⟩
  exact get_value (r.kin S) I (plainGet_of (name := aN 0) k2).1 (findObj_own k1 ha hn (hf i x w hi hw)) (hh w (List.mem_of_getElem? hw)) (K _ _ yw)
theorem get_ok {v : Value} {ks : List Nat} {ds : List D} {q : Nat} {dd : D} {x y : Sem Value} {pos : Pos} (r : RG g own σ s.heap) (yv : At g s.heap own v (.dict ks ds))
  (hx : Gives g A own s x (.str q) σ₁) (hy : ∀ h' tk' own', Ext own own' s.heap h' -> RG g own' σ₁ h' -> Gives g A own' { s with heap := h', toks := tk' } y dd σ₂) {Q : Value -> Shared -> Prop} {E : Value -> Shared -> Prop}
  (K : ∀ v h' tk' own', Ext own own' s.heap h' -> RG g own' σ₂ h' -> At g h' own' v ((lookD ks ds q).getD dd) -> Q v { s with heap := h', toks := tk' }) :
  MethodOn g.prog g.w A "get" pos v [(false, x), (false, y)] Q E s := by
 refine yv.dict_e λa vs hf hs hk hz z hl => z.elim λo z => z.elim λes z => z.elim λep z => ?_
 refine ⟨"dict", "dict.get", PySem.F.plainAttrs_dict, PySem.F.slot_dict_get, rfl, (show s.heap.DictOf _ a _ from ⟨o, es, ep, z⟩).typeIs, fun a' e => Value.ref.inj e ▸ ⟨o, z.1, z.2.1.2.1⟩, wpAny_dict_get2 (knd := strKind g.prog g.w) hs ?_⟩
 refine two hx hy λw1 w2 h' tk' own' x' r' y1 y2 => y1.str_e λt1 h1 => ⟨sN q, _, strKind_is _ _ _ _, (show h'.DictOf (strKind g.prog g.w) a ((ks.map sN).zip vs) from ⟨o, es, ep, x'.objs _ _ z.1 (by rw [hf]; rfl), z.2⟩).mapOf, ?_⟩
 show Q ((valueAt ((ks.map sN).zip vs) (sN q)).getD w2) _
 cases e : lookD ks ds q with
 | some d' =>
  refine (valueAt_lookD hk h1 hl e).elim λw h => ?_
  rw [h.1]
  exact K w h' (tk' + 1) own' x' r' (by rw [e]; exact At.mono (x'.le r) h.2)
 | none =>
  rw [valueAt_lookD_none hk h1 hl e]
  exact K w2 h' (tk' + 1) own' x' r' (by rw [e]; exact y2)
end
end Mine
end
section
open PySem PySem.W PySem.Calls PyProof.Rows PySem.SeqAt
set_option maxRecDepth 100000
namespace Mine
section
variable {prog : Program} {w : World} {A : Around} {E : Value -> Shared -> Prop} {s : Shared}
theorem alive_ {M : Model} {a : Addr} {Q : Option Obj -> Shared -> Prop} (h : Q (s.heap.get? a) s) : wpAny M A (loadIfAlive a) Q E s := λΓ p hΓ => h
theorem nextOf_tuple_item {it l : Addr} {i : Nat} {items : Array Value} {x : Value} {Q : Value → Shared → Prop} (hit : s.heap.IsTupleIter it l i) (hl : s.heap.IsTuple l items) (hx : items[i]? = some x)
  (hQ : ∀ h', h'.IsTupleIter it l (i + 1) -> Heap.SameBut it s.heap h' -> Q x { s with heap := h' }) : wpAny (model prog w) A (Builtin.SmallTypes.nextOf (.ref it)) Q E s := by
 obtain ⟨o, ho, hc, hd⟩ := id hit
 obtain ⟨ol, hol, _, nl, hdl⟩ := hl
 unfold Builtin.SmallTypes.nextOf
 refine wpAny_bind (wpAny_callSpecial?_slot (name := Str.ofString "__next__") hit.typeIs F.slot_tuple_iterator_next
  (wpAny_call_entry F.slot_tuple_iterator_next hit.typeIs F.entry_tuple_iterator_next ?_ (F.args_tuple_iterator_next_1 _)))
 show wpAny _ _ (field (.ref it) 0 >>= _) _ _ s
 refine wpAny_bind (wpAny_field ho hd (x := .ref l) rfl ?_)
 show wpAny _ _ (if (Value.ref l == Value.none) = true then _ else _) _ _ s
 rw [if_neg (show ¬ ((Value.ref l == Value.none) = true) from Bool.false_ne_true)]
 show wpAny _ _ (field (.ref it) 1 >>= _) _ _ s
 refine wpAny_bind (wpAny_field ho hd (x := .int i 0) rfl ?_)
 show wpAny _ _ (seqItems? (.ref l) >>= _) _ _ s
 refine wpAny_bind (wpAny_seqItems hol hdl ?_)
 simp only [Int.toNat_natCast, hx]
 refine wpAny_bind (wpAny_setField ho hd (by simp) (wpAny_pure ⟨x, rfl, wpAny_pure (hQ _ ?_ (Heap.SameBut.update ..))⟩))
 exact ⟨_, Heap.get?_update_self _ ho (Obj.isFreed_of_fields (Obj.data_mapFields hd _)), (Obj.cls_mapFields ..).trans hc, by
  rw [Obj.data_mapFields hd]; simp [rawInt]⟩
theorem nextOf_tuple_end {it l : Addr} {i : Nat} {items : Array Value} {Q : Value → Shared → Prop} (hh : A.handled = none) (hit : s.heap.IsTupleIter it l i) (hl : s.heap.IsTuple l items) (hx : items[i]? = none)
  (hE : ∀ h' e, Heap.ExtBut it s.heap h' → (∃ o, h'.get? e = some o ∧ o.cls = .type "StopIteration") → E (.ref e) { s with heap := h' }) : wpAny (model prog w) A (Builtin.SmallTypes.nextOf (.ref it)) Q E s := by
 obtain ⟨o, ho, hc, hd⟩ := id hit
 obtain ⟨ol, hol, _, nl, hdl⟩ := hl
 unfold Builtin.SmallTypes.nextOf
 refine wpAny_bind (wpAny_callSpecial?_slot (name := Str.ofString "__next__") hit.typeIs F.slot_tuple_iterator_next
  (wpAny_call_entry F.slot_tuple_iterator_next hit.typeIs F.entry_tuple_iterator_next ?_ (F.args_tuple_iterator_next_1 _)))
 show wpAny _ _ (field (.ref it) 0 >>= _) _ _ s
 refine wpAny_bind (wpAny_field ho hd (x := .ref l) rfl ?_)
 show wpAny _ _ (if (Value.ref l == Value.none) = true then _ else _) _ _ s
 rw [if_neg (show ¬ ((Value.ref l == Value.none) = true) from Bool.false_ne_true)]
 show wpAny _ _ (field (.ref it) 1 >>= _) _ _ s
 refine wpAny_bind (wpAny_field ho hd (x := .int i 0) rfl ?_)
 show wpAny _ _ (seqItems? (.ref l) >>= _) _ _ s
 refine wpAny_bind (wpAny_seqItems hol hdl ?_)
 simp only [Int.toNat_natCast, hx]
 refine wpAny_bind (wpAny_rule (wpAny_bind (wpAny_setField ho hd (by simp) ?_)))
 show wpAny _ _ (newExc (.type "StopIteration") [] >>= _) _ _ _
 refine wpAny_bind ?_
 simp only [newExc, newTuple]
 refine wpAny_bind (wpAny_newObj_type ?_ (by size_fits))
 refine wpAny_bind (m := firstArgMember _ _) (wpAny_of_eq (a := Value.none) (by first | rfl | (simp only [firstArgMember]; rfl)) ?_)
 refine wpAny_newObj_type ?_ (by size_fits)
 simp only [raiseNew]
 refine wpAny_bind (wpAny_handled ?_)
 first | rw [show A.in1.handled = none from hh] | rw [hh]
 refine wpAny_bind (wpAny_pure (wpAny_throw ?_))
 exact hE _ _ (((Heap.SameBut.update ..).extBut.push _).push _) ⟨_, Heap.get?_push_size _ rfl, rfl⟩
structure ZS (z TI TO i1 i2 l1 l2 : Addr) (xs ys : Array Value) (k : Nat) (h : Heap) : Prop where
 zip : ∃ f0 f1, h.get? z = some { cls := .type "zip", dict := none, data := .fields #[f0, f1, .bool false, .ref TI, .ref TO], slots := #[] } ∧ (f0 = .none ∨ ∃ (T : Addr) (oT : Obj), f0 = rawInt T ∧ h.get? T = some oT ∧ T ≠ z ∧ T ≠ i1 ∧ T ≠ i2)
 ti : IsPair h TI (.ref i1) (.ref i2)
 to : ∃ a b, IsPair h TO a b
 it1 : h.IsTupleIter i1 l1 k
 it2 : h.IsTupleIter i2 l2 k
 t1 : h.IsTuple l1 xs
 t2 : h.IsTuple l2 ys
structure ZA (z TI TO i1 i2 l1 l2 : Addr) : Prop where
 a1 : TI ≠ z
 a2 : TO ≠ z
 a3 : i1 ≠ z
 a4 : i2 ≠ z
 a5 : TI ≠ TO
 a6 : TI ≠ i1
 a7 : TI ≠ i2
 a8 : TO ≠ i1
 a9 : TO ≠ i2
 b1 : i1 ≠ i2
 b2 : l1 ≠ z
 b3 : l1 ≠ TO
 b4 : l1 ≠ i1
 b5 : l1 ≠ i2
 b6 : l2 ≠ z
 b7 : l2 ≠ TO
 b8 : l2 ≠ i1
 b9 : l2 ≠ i2
theorem zip_mark {z TI TO T : Addr} {f1 : Value} {K : Bool → Shared → Prop} (hz : s.heap.get? z = some { cls := .type "zip", dict := none, data := .fields #[rawInt T, f1, .bool false, .ref TI, .ref TO], slots := #[] })
  (h : ∀ (h₁ : Heap) (f1' : Value), h₁.get? z = some { cls := .type "zip", dict := none, data := .fields #[rawInt T, f1', .bool false, .ref TI, .ref TO], slots := #[] } → (∀ c o, c ≠ z → s.heap.get? c = some o → h₁.get? c = some o) → K false { s with heap := h₁ }) :
  wpAny (model prog w) A (if (f1 != Value.bool true) = true then do
   setField (Value.ref z) 1 (Value.bool true)
   pure false
  else pure false) K E s := by
 by_cases hf : (f1 != Value.bool true) = true
 ·rw [if_pos hf]
  exact wpAny_bind (wpAny_setField_rec hz (by simp) λh₁ hz₁ hs₁ => wpAny_pure (h h₁ (.bool true) hz₁ λc o hc e => hs₁.extBut c o hc e))
 ·rw [if_neg hf]
  exact wpAny_pure (h s.heap f1 hz λ_ _ _ e => e)
theorem zip_item2 {z TI TO i1 i2 l1 l2 T : Addr} {k : Nat} {xs ys : Array Value} {x y f1 : Value} {oT : Obj} {Q : Value → Shared → Prop} (D : ZA z TI TO i1 i2 l1 l2)
  (hz : s.heap.get? z = some { cls := .type "zip", dict := none, data := .fields #[rawInt T, f1, .bool false, .ref TI, .ref TO], slots := #[] }) (hT : s.heap.get? T = some oT) (hTz : T ≠ z) (hT1 : T ≠ i1) (hT2 : T ≠ i2)
  (ti : IsPair s.heap TI (.ref i1) (.ref i2)) (to : ∃ a b, IsPair s.heap TO a b) (it1 : s.heap.IsTupleIter i1 l1 k) (it2 : s.heap.IsTupleIter i2 l2 k) (t1 : s.heap.IsTuple l1 xs) (t2 : s.heap.IsTuple l2 ys) (hx : xs[k]? = some x) (hy : ys[k]? = some y)
  (hQ : ∀ h' T', ZS z TI TO i1 i2 l1 l2 xs ys (k + 1) h' → (∃ o n, h'.get? T' = some o ∧ o.cls = .type "tuple" ∧ o.data = .seq #[x, y] n) → (∀ c o, c ≠ z → c ≠ TO → c ≠ i1 → c ≠ i2 → s.heap.get? c = some o → h'.get? c = some o) → Q (.ref T') { s with heap := h' }) :
  wpAny (model prog w) A (Builtin.«zip.__next__» ⟨[.ref z], []⟩) (λfin s' => ∃ v, fin = .done (.ret v) /\ Q v s') E s := by
 show wpAny _ _ (field (.ref z) 2 >>= _) _ _ _
 refine wpAny_bind (wpAny_field hz rfl (x := .bool false) rfl ?_)
 show wpAny _ _ (field (.ref z) 3 >>= _) _ _ _
 refine wpAny_bind (wpAny_field hz rfl (x := .ref TI) rfl ?_)
 refine wpAny_bind (wpAny_seqItems ti rfl ?_)
 show wpAny _ _ (Builtin.SmallTypes.ownedTupleIsFree (.ref z) >>= _) _ _ _
 refine wpAny_bind ?_
 unfold Builtin.SmallTypes.ownedTupleIsFree
 refine wpAny_bind (wpAny_field hz rfl (x := rawInt T) rfl ?_)
 show wpAny _ _ (loadIfAlive (T : Int).toNat >>= _) _ _ _
 refine wpAny_bind (alive_ ?_)
 rw [Int.toNat_natCast, hT]
 simp only [Option.isNone_some, Bool.false_eq_true, if_false]
 refine wpAny_bind (wpAny_field hz rfl (x := f1) rfl ?_)
 refine zip_mark hz λh₁ f1' hz₁ hk₁ => ?_
 rw [if_neg (by decide)]
 simp only [List.forIn_toArray, List.forIn_cons, List.forIn_nil]
 have ti₁ : IsPair h₁ TI (.ref i1) (.ref i2) := hk₁ _ _ D.a1 ti
 have it1₁ : h₁.IsTupleIter i1 l1 k := it1.at λo e => hk₁ _ o D.a3 e
 have it2₁ : h₁.IsTupleIter i2 l2 k := it2.at λo e => hk₁ _ o D.a4 e
 have t1₁ : h₁.IsTuple l1 xs := let ⟨o, e, q⟩ := t1; ⟨o, hk₁ _ o D.b2 e, q⟩
 have t2₁ : h₁.IsTuple l2 ys := let ⟨o, e, q⟩ := t2; ⟨o, hk₁ _ o D.b6 e, q⟩
 refine wpAny_bind (wpAny_bind (wpAny_bind (wpAny_holding ?_)))
 show wpAny _ _ (Builtin.SmallTypes.nextOf (.ref i1) >>= _) _ _ _
 refine wpAny_bind (nextOf_tuple_item it1₁ t1₁ hx λh₂ it1₂ hs₂ => wpAny_pure (wpAny_pure ?_))
 refine wpAny_bind (wpAny_bind (wpAny_holding ?_))
 show wpAny _ _ (Builtin.SmallTypes.nextOf (.ref i2) >>= _) _ _ _
 refine wpAny_bind (nextOf_tuple_item (it2₁.extBut hs₂.extBut D.b1.symm) (let ⟨o, e, q⟩ := t2₁; ⟨o, hs₂.extBut _ _ D.b8 e, q⟩) hy λh₃ it2₃ hs₃ => wpAny_pure (wpAny_pure ?_))
 refine wpAny_pure ?_
 refine wpAny_bind (wpAny_newTuple (hsz := by simp [sizeLine]) (wpAny_pure ⟨_, rfl, ?_⟩))
 have up : ∀ c o, c ≠ z → c ≠ i1 → c ≠ i2 → s.heap.get? c = some o → (h₃.push { cls := .type "tuple", data := .seq #[x, y] }).get? c = some o := fun c o c1 c2 c3 e => Heap.get?_push_of_some _ (hs₃.extBut _ _ c3 (hs₂.extBut _ _ c2 (hk₁ c o c1 e)))
 refine hQ _ _ ⟨⟨rawInt T, f1', Heap.get?_push_of_some _ (hs₃.extBut _ _ D.a4.symm (hs₂.extBut _ _ D.a3.symm hz₁)), .inr ⟨T, oT, rfl, up _ _ hTz hT1 hT2 hT, hTz, hT1, hT2⟩⟩, up _ _ D.a1 D.a6 D.a7 ti, let ⟨a, b, e⟩ := to; ⟨a, b, up _ _ D.a2 D.a8 D.a9 e⟩, ?_, ?_, let ⟨o, e, q⟩ := t1; ⟨o, up _ o D.b2 D.b4 D.b5 e, q⟩, let ⟨o, e, q⟩ := t2; ⟨o, up _ o D.b6 D.b8 D.b9 e, q⟩⟩ ⟨_, _, Heap.get?_push_size _ rfl, rfl, rfl⟩ λc o c1 c2 c3 c4 e => up c o c1 c3 c4 e
 ·exact (it1₂.extBut hs₃.extBut D.b1).at λo e => Heap.get?_push_of_some _ e
 ·exact it2₃.at λo e => Heap.get?_push_of_some _ e
theorem zip_item1 {z TI TO i1 i2 l1 l2 : Addr} {k : Nat} {xs ys : Array Value} {x y f1 : Value} {Q : Value → Shared → Prop} (D : ZA z TI TO i1 i2 l1 l2)
  (hz : s.heap.get? z = some { cls := .type "zip", dict := none, data := .fields #[.none, f1, .bool false, .ref TI, .ref TO], slots := #[] })
  (ti : IsPair s.heap TI (.ref i1) (.ref i2)) (to : ∃ a b, IsPair s.heap TO a b) (it1 : s.heap.IsTupleIter i1 l1 k) (it2 : s.heap.IsTupleIter i2 l2 k) (t1 : s.heap.IsTuple l1 xs) (t2 : s.heap.IsTuple l2 ys) (hx : xs[k]? = some x) (hy : ys[k]? = some y)
  (hQ : ∀ h' T', ZS z TI TO i1 i2 l1 l2 xs ys (k + 1) h' → (∃ o n, h'.get? T' = some o ∧ o.cls = .type "tuple" ∧ o.data = .seq #[x, y] n) → (∀ c o, c ≠ z → c ≠ TO → c ≠ i1 → c ≠ i2 → s.heap.get? c = some o → h'.get? c = some o) → Q (.ref T') { s with heap := h' }) :
  wpAny (model prog w) A (Builtin.«zip.__next__» ⟨[.ref z], []⟩) (λfin s' => ∃ v, fin = .done (.ret v) /\ Q v s') E s := by
 obtain ⟨a, b, to⟩ := to
 show wpAny _ _ (field (.ref z) 2 >>= _) _ _ _
 refine wpAny_bind (wpAny_field hz rfl (x := .bool false) rfl ?_)
 show wpAny _ _ (field (.ref z) 3 >>= _) _ _ _
 refine wpAny_bind (wpAny_field hz rfl (x := .ref TI) rfl ?_)
 refine wpAny_bind (wpAny_seqItems ti rfl ?_)
 show wpAny _ _ (Builtin.SmallTypes.ownedTupleIsFree (.ref z) >>= _) _ _ _
 refine wpAny_bind ?_
 unfold Builtin.SmallTypes.ownedTupleIsFree
 refine wpAny_bind (wpAny_field hz rfl (x := .none) rfl (wpAny_pure ?_))
 simp only [if_true]
 refine wpAny_bind (wpAny_rule ?_)
 refine wpAny_bind (wpAny_field hz rfl (x := .ref TO) rfl ?_)
 refine wpAny_bind (wpAny_setField_rec hz (by simp) λh₁ hz₁ hs₁ => ?_)
 replace hz₁ : h₁.get? z = some { cls := .type "zip", dict := none, data := .fields #[.ellipsis, f1, .bool false, .ref TI, .ref TO], slots := #[] } := hz₁
 refine wpAny_bind ?_
 simp only [List.zipIdx_cons, List.zipIdx_nil, List.forIn_cons, List.forIn_nil]
 refine wpAny_bind (wpAny_bind (wpAny_onRaise ?_))
 show wpAny _ _ (Builtin.SmallTypes.nextOf (.ref i1) >>= _) _ _ _
 refine wpAny_bind (nextOf_tuple_item (it1.extBut hs₁.extBut D.a3) (let ⟨o, e, q⟩ := t1; ⟨o, hs₁.extBut _ _ D.b2 e, q⟩) hx λh₂ it1₂ hs₂ => wpAny_pure ?_)
 have to₂ : IsPair h₂ TO a b := hs₂.extBut _ _ D.a8 (hs₁.extBut _ _ D.a2 to)
 refine wpAny_bind (wpAny_seqItems to₂ rfl ?_)
 refine wpAny_bind (wpAny_updateSeq_pair to₂ λh₃ to₃ hs₃ => ?_)
 replace to₃ : IsPair h₃ TO x b := to₃
 refine wpAny_bind (wpAny_letGo (wpAny_pure ?_))
 refine wpAny_bind (wpAny_bind (wpAny_onRaise ?_))
 show wpAny _ _ (Builtin.SmallTypes.nextOf (.ref i2) >>= _) _ _ _
 refine wpAny_bind (nextOf_tuple_item (((it2.extBut hs₁.extBut D.a4).extBut hs₂.extBut D.b1.symm).extBut hs₃.extBut D.a9.symm) (let ⟨o, e, q⟩ := t2; ⟨o, hs₃.extBut _ _ D.b7 (hs₂.extBut _ _ D.b8 (hs₁.extBut _ _ D.b6 e)), q⟩) hy λh₄ it2₄ hs₄ => wpAny_pure ?_)
 have to₄ : IsPair h₄ TO x b := hs₄.extBut _ _ D.a9 to₃
 refine wpAny_bind (wpAny_seqItems to₄ rfl ?_)
 refine wpAny_bind (wpAny_updateSeq_pair to₄ λh₅ to₅ hs₅ => ?_)
 replace to₅ : IsPair h₅ TO x y := to₅
 refine wpAny_bind (wpAny_letGo (wpAny_pure (wpAny_pure ?_)))
 refine wpAny_bind (wpAny_seqItems to₅ rfl ?_)
 refine wpAny_bind (wpAny_newTuple ?_)
 have hz₅ : h₅.get? z = some { cls := .type "zip", dict := none, data := .fields #[.ellipsis, f1, .bool false, .ref TI, .ref TO], slots := #[] } := hs₅.extBut _ _ D.a2.symm (hs₄.extBut _ _ D.a4.symm (hs₃.extBut _ _ D.a2.symm (hs₂.extBut _ _ D.a3.symm hz₁)))
 show wpAny _ _ (Builtin.SmallTypes.ownedTupleHandOut (.ref z) (.ref h₅.objs.size) >>= _) _ _ _
 refine wpAny_bind ?_
 unfold Builtin.SmallTypes.ownedTupleHandOut
 have hz₆ : (h₅.push { cls := .type "tuple", data := .seq #[x, y] }).get? z = some { cls := .type "zip", dict := none, data := .fields #[.ellipsis, f1, .bool false, .ref TI, .ref TO], slots := #[] } := Heap.get?_push_of_some _ hz₅
 refine wpAny_bind (wpAny_setField_rec hz₆ (by simp) λh₇ hz₇ hs₇ => ?_)
 replace hz₇ : h₇.get? z = some { cls := .type "zip", dict := none, data := .fields #[rawInt h₅.objs.size, f1, .bool false, .ref TI, .ref TO], slots := #[] } := hz₇
 refine wpAny_setField_rec hz₇ (by simp) λh₈ hz₈ hs₈ => ?_
 replace hz₈ : h₈.get? z = some { cls := .type "zip", dict := none, data := .fields #[rawInt h₅.objs.size, .bool false, .bool false, .ref TI, .ref TO], slots := #[] } := hz₈
 have zlt : z ≠ h₅.objs.size := Nat.ne_of_lt (Heap.lt_size hz₅)
 have up : ∀ c o, c ≠ z -> h₅.get? c = some o -> h₈.get? c = some o := λc o c1 e => hs₈.extBut _ _ c1 (hs₇.extBut _ _ c1 (Heap.get?_push_of_some _ e))
 have k₅ : ∀ c o, c ≠ z -> c ≠ TO -> c ≠ i1 -> c ≠ i2 -> s.heap.get? c = some o -> h₅.get? c = some o := λc o c1 c2 c3 c4 e => hs₅.extBut _ _ c2 (hs₄.extBut _ _ c4 (hs₃.extBut _ _ c2 (hs₂.extBut _ _ c3 (hs₁.extBut _ _ c1 e))))
 have hT₈ : h₈.get? h₅.objs.size = some { cls := .type "tuple", data := .seq #[x, y] } := hs₈.extBut _ _ zlt.symm (hs₇.extBut _ _ zlt.symm (Heap.get?_push_size _ rfl))
 have it1₅ : h₅.IsTupleIter i1 l1 (k + 1) := ((it1₂.extBut hs₃.extBut D.a8.symm).extBut hs₄.extBut D.b1).extBut hs₅.extBut D.a8.symm
 have it2₅ : h₅.IsTupleIter i2 l2 (k + 1) := it2₄.extBut hs₅.extBut D.a9.symm
 have n1 : h₅.objs.size ≠ i1 := by obtain ⟨o, e, _⟩ := it1₅; exact Nat.ne_of_gt (Heap.lt_size e)
 have n2 : h₅.objs.size ≠ i2 := by obtain ⟨o, e, _⟩ := it2₅; exact Nat.ne_of_gt (Heap.lt_size e)
 refine wpAny_pure ⟨_, rfl, ?_⟩
 refine hQ h₈ _ ⟨⟨_, _, hz₈, .inr ⟨_, _, rfl, hT₈, zlt.symm, n1, n2⟩⟩, up _ _ D.a1 (k₅ _ _ D.a1 D.a5 D.a6 D.a7 ti), ⟨x, y, up _ _ D.a2 to₅⟩, it1₅.at λo e => up _ o D.a3 e, it2₅.at λo e => up _ o D.a4 e, let ⟨o, e, q⟩ := t1; ⟨o, up _ o D.b2 (k₅ _ o D.b2 D.b3 D.b4 D.b5 e), q⟩, let ⟨o, e, q⟩ := t2; ⟨o, up _ o D.b6 (k₅ _ o D.b6 D.b7 D.b8 D.b9 e), q⟩⟩ ⟨_, _, hT₈, rfl, rfl⟩ λc o c1 c2 c3 c4 e => up c o c1 (k₅ c o c1 c2 c3 c4 e)
theorem zip_next {z TI TO i1 i2 l1 l2 : Addr} {k : Nat} {xs ys : Array Value} {x y : Value} {Q : Option Value → Shared → Prop} (D : ZA z TI TO i1 i2 l1 l2) (S : ZS z TI TO i1 i2 l1 l2 xs ys k s.heap) (hx : xs[k]? = some x) (hy : ys[k]? = some y)
  (hQ : ∀ h' T', ZS z TI TO i1 i2 l1 l2 xs ys (k + 1) h' → (∃ o n, h'.get? T' = some o ∧ o.cls = .type "tuple" ∧ o.data = .seq #[x, y] n) → (∀ c o, c ≠ z → c ≠ TO → c ≠ i1 → c ≠ i2 → s.heap.get? c = some o → h'.get? c = some o) → Q (some (.ref T')) { s with heap := h' }) :
  wpAny (model prog w) A (pyNext (.ref z)) Q E s := by
 obtain ⟨⟨f0, f1, hz, hf⟩, ti, to, it1, it2, t1, t2⟩ := S
 have hT : s.TypeIs (.ref z) "zip" := ⟨_, hz, rfl⟩
 unfold pyNext
 rcases hf with rfl | ⟨T, oT, rfl, e1, e2, e3, e4⟩
 ·exact wpAny_bind (wpAny_attempt (wpAny_callSpecial?_slot (name := Str.ofString "__next__") hT F.slot_zip_next (wpAny_call_entry F.slot_zip_next hT F.entry_zip_next
   (zip_item1 D hz ti to it1 it2 t1 t2 hx hy λh' T' a b c => wpAny_pure (hQ h' T' a b c)) (F.args_zip_next_1 _))))
 ·exact wpAny_bind (wpAny_attempt (wpAny_callSpecial?_slot (name := Str.ofString "__next__") hT F.slot_zip_next (wpAny_call_entry F.slot_zip_next hT F.entry_zip_next
   (zip_item2 D hz e1 e2 e3 e4 ti to it1 it2 t1 t2 hx hy λh' T' a b c => wpAny_pure (hQ h' T' a b c)) (F.args_zip_next_1 _))))
theorem zip_end {z TI TO i1 i2 l1 l2 : Addr} {k : Nat} {xs ys : Array Value} {Q : Option Value → Shared → Prop} (hh : A.handled = none) (D : ZA z TI TO i1 i2 l1 l2) (S : ZS z TI TO i1 i2 l1 l2 xs ys k s.heap) (hx : xs[k]? = none)
  (hQ : ∀ h', (∀ c o, c ≠ z -> c ≠ TO -> c ≠ i1 -> c ≠ i2 -> s.heap.get? c = some o -> h'.get? c = some o) -> Q none { s with heap := h' }) :
  wpAny (model prog w) A (pyNext (.ref z)) Q E s := by
 obtain ⟨⟨f0, f1, hz, hf⟩, ti, to, it1, it2, t1, t2⟩ := S
 have hT : s.TypeIs (.ref z) "zip" := ⟨_, hz, rfl⟩
 have stop : ∀ {h' : Heap} {e : Addr}, (∃ o, h'.get? e = some o ∧ o.cls = .type "StopIteration") → (∀ c o, c ≠ z → c ≠ TO → c ≠ i1 → c ≠ i2 → s.heap.get? c = some o → h'.get? c = some o) → True := fun _ _ => trivial
 unfold pyNext
 refine wpAny_bind (wpAny_attempt (wpAny_callSpecial?_slot (name := Str.ofString "__next__") hT F.slot_zip_next (wpAny_call_entry F.slot_zip_next hT F.entry_zip_next ?_ (F.args_zip_next_1 _))))
 show wpAny _ _ (field (.ref z) 2 >>= _) _ _ _
 refine wpAny_bind (wpAny_field hz rfl (x := .bool false) rfl ?_)
 show wpAny _ _ (field (.ref z) 3 >>= _) _ _ _
 refine wpAny_bind (wpAny_field hz rfl (x := .ref TI) rfl ?_)
 refine wpAny_bind (wpAny_seqItems ti rfl ?_)
 show wpAny _ _ (Builtin.SmallTypes.ownedTupleIsFree (.ref z) >>= _) _ _ _
 refine wpAny_bind ?_
 unfold Builtin.SmallTypes.ownedTupleIsFree
 rcases hf with rfl | ⟨T, oT, rfl, e1, e2, e3, e4⟩
 ·refine wpAny_bind (wpAny_field hz rfl (x := .none) rfl (wpAny_pure ?_))
  simp only [if_true]
  refine wpAny_bind (wpAny_rule ?_)
  refine wpAny_bind (wpAny_field hz rfl (x := .ref TO) rfl ?_)
  refine wpAny_bind (wpAny_setField_rec hz (by simp) λh₁ hz₁ hs₁ => ?_)
  replace hz₁ : h₁.get? z = some { cls := .type "zip", dict := none, data := .fields #[.ellipsis, f1, .bool false, .ref TI, .ref TO], slots := #[] } := hz₁
  refine wpAny_bind ?_
  simp only [List.zipIdx_cons, List.zipIdx_nil, List.forIn_cons, List.forIn_nil]
  refine wpAny_bind (wpAny_bind (wpAny_onRaise ?_))
  show wpAny _ _ (Builtin.SmallTypes.nextOf (.ref i1) >>= _) _ _ _
  refine wpAny_bind (nextOf_tuple_end hh (it1.extBut hs₁.extBut D.a3) (let ⟨o, e, q⟩ := t1; ⟨o, hs₁.extBut _ _ D.b2 e, q⟩) hx λh₂ e hs₂ he => ?_)
  obtain ⟨oe, hoe, hce⟩ := he
  have hz₂ : h₂.get? z = some { cls := .type "zip", dict := none, data := .fields #[.ellipsis, f1, .bool false, .ref TI, .ref TO], slots := #[] } := hs₂ _ _ D.a3.symm hz₁
  have hez : e ≠ z := λx => by subst x; rw [hz₂] at hoe; cases hoe; simp at hce
  refine wpAny_setField_rec hz₂ (by simp) λh₃ _ hs₃ => ?_
  refine wpAny_bind (wpAny_isInstance (T := "StopIteration") (b := true) ⟨oe, hs₃.extBut _ _ hez hoe, hce⟩ isSubtype_stop ?_)
  exact wpAny_pure (hQ _ λc o c1 _ c3 _ x => hs₃.extBut _ _ c1 (hs₂ _ _ c3 (hs₁.extBut _ _ c1 x)))
 ·refine wpAny_bind (wpAny_field hz rfl (x := rawInt T) rfl ?_)
  show wpAny _ _ (loadIfAlive (T : Int).toNat >>= _) _ _ _
  refine wpAny_bind (alive_ ?_)
  rw [Int.toNat_natCast, e1]
  simp only [Option.isNone_some, Bool.false_eq_true, if_false]
  refine wpAny_bind (wpAny_field hz rfl (x := f1) rfl ?_)
  refine zip_mark hz λh₁ f1' hz₁ hk₁ => ?_
  rw [if_neg (by decide)]
  simp only [List.forIn_toArray, List.forIn_cons, List.forIn_nil]
  refine wpAny_bind (wpAny_bind (wpAny_bind (wpAny_holding ?_)))
  show wpAny _ _ (Builtin.SmallTypes.nextOf (.ref i1) >>= _) _ _ _
  refine wpAny_bind (nextOf_tuple_end hh (it1.at λo e => hk₁ _ o D.a3 e) (let ⟨o, e, q⟩ := t1; ⟨o, hk₁ _ o D.b2 e, q⟩) hx λh₂ e hs₂ he => ?_)
  obtain ⟨oe, hoe, hce⟩ := he
  refine wpAny_bind (wpAny_isInstance (T := "StopIteration") (b := true) ⟨oe, hoe, hce⟩ isSubtype_stop ?_)
  exact wpAny_pure (hQ _ λc o c1 _ c3 _ x => hs₂ _ _ c3 (hk₁ c o c1 x))
abbrev zt1 (h : Heap) (l1 : Addr) : Heap := h.push { cls := .type "tuple_iterator", data := .fields #[.ref l1, .int 0 0] }
abbrev zt2 (h : Heap) (l1 l2 : Addr) : Heap := (zt1 h l1).push { cls := .type "tuple_iterator", data := .fields #[.ref l2, .int 0 0] }
abbrev zt3 (h : Heap) (l1 l2 : Addr) : Heap := (zt2 h l1 l2).push { cls := .type "tuple", data := .seq #[.ref h.objs.size, .ref (zt1 h l1).objs.size] }
abbrev zt4 (h : Heap) (l1 l2 : Addr) : Heap := (zt3 h l1 l2).push { cls := .type "tuple", data := .seq #[.none, .none] }
abbrev zt5 (h : Heap) (l1 l2 : Addr) : Heap := (zt4 h l1 l2).push { cls := .type "zip", data := .fields #[.none, .bool false, .bool false, .ref (zt2 h l1 l2).objs.size, .ref (zt3 h l1 l2).objs.size] }
theorem IsTuple_push {h : Heap} {a : Addr} {xs : Array Value} (o : Obj) (x : h.IsTuple a xs) : (h.push o).IsTuple a xs := let ⟨p, e, q⟩ := x; ⟨p, Heap.get?_push_of_some _ e, q⟩
theorem zip_new (l1 l2 : Addr) (xs ys : Array Value) :
  Meets (Builtin.«zip.__new__» ⟨[.type "zip", .ref l1, .ref l2], []⟩) (fun _ R s => s.heap.IsTuple l1 xs ∧ s.heap.IsTuple l2 ys ∧
   R (.ok (.ret (.ref (zt4 s.heap l1 l2).objs.size))) { s with heap := zt5 s.heap l1 l2 }) :=
 .of_wp λprog w A R s h => by
  obtain ⟨hp, g, d, tk, os⟩ := s
  obtain ⟨hl1, hl2, h⟩ := h
  have hsub := PySem.sub_zip
  have hL1 : Heap.IsTuple (Shared.heap ⟨hp, g, d, tk, os⟩) l1 xs := hl1
  have hL2 : Heap.IsTuple (Shared.heap ⟨hp.push { cls := .type "tuple_iterator", data := .fields #[.ref l1, .int 0 0] }, g, d, tk, os⟩) l2 ys := IsTuple_push _ hl2
  wp_walk using PySem.wpAny_pyIter_tuple hL1, PySem.wpAny_pyIter_tuple hL2
  exact ⟨_, rfl, h⟩
theorem ZA.of {n l1 l2 : Nat} (h1 : l1 < n) (h2 : l2 < n) : ZA (n + 4) (n + 2) (n + 3) n (n + 1) l1 l2 := by
 constructor <;> (intro q; first | exact absurd q (Nat.ne_of_gt (by lia)) | exact absurd q (Nat.ne_of_lt (by lia)))
theorem above5 {n c : Nat} (h : c ∈ [n + 4, n + 2, n + 3, n, n + 1]) : n <= c := by
 simp only [List.mem_cons, List.not_mem_nil, or_false] at h
 lia
theorem call_zip {l1 l2 : Addr} {xs ys : Array Value} {Q : Value → Shared → Prop} (hl1 : s.heap.IsTuple l1 xs) (hl2 : s.heap.IsTuple l2 ys)
  (h : ∀ h' z TI TO i1 i2, ZA z TI TO i1 i2 l1 l2 -> ZS z TI TO i1 i2 l1 l2 xs ys 0 h' -> (∀ c o, s.heap.get? c = some o -> h'.get? c = some o) -> (∀ c ∈ [z, TI, TO, i1, i2], s.heap.get? c = none) -> Q (.ref z) { s with heap := h' }) :
  wpAny (model prog w) A (call (.type "zip") [.ref l1, .ref l2]) Q E s := by
 refine callType_new F.called_zip (by decide) (F.typeCall_zip_2 _ _) (F.newCall_zip_2 _ _) (λobj => F.args_object_init_3 obj _ _) F.entry_zip_new (zip_new l1 l2 xs ys) ⟨hl1, hl2, ?_⟩
 have z1 : (zt1 s.heap l1).objs.size = s.heap.objs.size + 1 := Heap.size_push ..
 have z2 : (zt2 s.heap l1 l2).objs.size = s.heap.objs.size + 2 := by rw [Heap.size_push, z1]
 have z3 : (zt3 s.heap l1 l2).objs.size = s.heap.objs.size + 3 := by rw [Heap.size_push, z2]
 have z4 : (zt4 s.heap l1 l2).objs.size = s.heap.objs.size + 4 := by rw [Heap.size_push, z3]
 have g5 : (zt5 s.heap l1 l2).get? (zt4 s.heap l1 l2).objs.size = some _ := Heap.get?_push_size _ rfl
 have g4 : (zt5 s.heap l1 l2).get? (zt3 s.heap l1 l2).objs.size = some _ := Heap.get?_push_of_some _ (Heap.get?_push_size _ rfl)
 have g3 : (zt5 s.heap l1 l2).get? (zt2 s.heap l1 l2).objs.size = some _ := Heap.get?_push_of_some _ (Heap.get?_push_of_some _ (Heap.get?_push_size _ rfl))
 have g2 : (zt5 s.heap l1 l2).get? (zt1 s.heap l1).objs.size = some _ := Heap.get?_push_of_some _ (Heap.get?_push_of_some _ (Heap.get?_push_of_some _ (Heap.get?_push_size _ rfl)))
 have g1 : (zt5 s.heap l1 l2).get? s.heap.objs.size = some _ := Heap.get?_push_of_some _ (Heap.get?_push_of_some _ (Heap.get?_push_of_some _ (Heap.get?_push_of_some _ (Heap.get?_push_size _ rfl))))
 have keep : ∀ c o, s.heap.get? c = some o -> (zt5 s.heap l1 l2).get? c = some o := λc o x => Heap.get?_push_of_some _ (Heap.get?_push_of_some _ (Heap.get?_push_of_some _ (Heap.get?_push_of_some _ (Heap.get?_push_of_some _ x))))
 obtain ⟨o1, e1, _⟩ := id hl1
 obtain ⟨o2, e2, _⟩ := id hl2
 have lt1 := Heap.lt_size e1
 have lt2 := Heap.lt_size e2
 show _ /\ _
 rw [z2, z3, z4] at g5
 rw [z1, z2] at g3
 rw [z3] at g4
 rw [z1] at g2
 rw [z4]
 refine ⟨⟨_, g5, rfl⟩, h _ _ _ _ _ _ (ZA.of lt1 lt2) ⟨⟨_, _, g5, .inl rfl⟩, g3, ⟨_, _, g4⟩, ⟨_, g1, rfl, rfl⟩, ⟨_, g2, rfl, rfl⟩, let ⟨o, e, q⟩ := hl1; ⟨o, keep _ _ e, q⟩, let ⟨o, e, q⟩ := hl2; ⟨o, keep _ _ e, q⟩⟩ keep λc hc => none_of_le ?_⟩
 exact above5 hc
end
theorem zip_ga_entry : entryFor table "zip.__getattribute__" = some Builtin.«object.__getattribute__» :=
 entryFor_alias (id' := "object.__getattribute__") (by kernel_rfl) (by decide +kernel) (by decide +kernel) (by kernel_rfl)
theorem zip_no_getattr : typeLookup (.type "zip") "__getattr__" = pure none := by rw [typeLookup_type, builtinLookup_eq_fast]; kernel_rfl
theorem zip_no_keys : typeLookup (.type "zip") "keys" = pure none := by rw [typeLookup_type, builtinLookup_eq_fast]; kernel_rfl
theorem zip_ga_miss (a : Addr) (fs : Array Value) (name : Str) (u : Tok) (hmiss : typeLookup (.type "zip") name = pure none) (hname : (["__module__", "__name__", "__qualname__", "__doc__", "__annotations__"] : List Str).contains name = false) (hsz : name.length + 100 ≤ sizeLine) :
  Meets (Builtin.«object.__getattribute__» ⟨[.ref a, .str name u], []⟩) (fun A R s => s.heap.get? a = some { cls := .type "zip", dict := none, data := .fields fs, slots := #[] } ∧ raisesAttr (.ref a) name A R s) :=
 Meets.of_wp λprog w A R s hs => by
  obtain ⟨hp, g, d, tk, os⟩ := s
  obtain ⟨hx, hs⟩ := hs
  have hT : (⟨hp, g, d, tk, os⟩ : Shared).TypeIs (.ref a) "zip" := ⟨_, hx, rfl⟩
  unfold Builtin.«object.__getattribute__»
  repeat (any_goals (first | assumption | wp_step))
  simp only [hname, Bool.false_eq_true, if_false]
  repeat (any_goals (first | assumption | wp_step))
  exact wpAny_raiseAttrError hs.1 hs.2 (attrMsg_fits (by decide +kernel) hsz)
theorem zip_keys {prog : Program} {w : World} {A : Around} {E : Value → Shared → Prop} {s : Shared} {a : Addr} {fs : Array Value} {Q : Option Value → Shared → Prop} (hx : s.heap.get? a = some { cls := .type "zip", dict := none, data := .fields fs, slots := #[] }) (hA : A.handled = none)
  (h : ∀ h' tk, (∀ b o, s.heap.get? b = some o → h'.get? b = some o) → Q none { s with heap := h', toks := tk }) : wpAny (model prog w) A (getAttr? (.ref a) "keys") Q E s := by
 obtain ⟨hp, g, d, tk, os⟩ := s
 have hT : ∀ tk', (⟨hp, g, d, tk', os⟩ : Shared).TypeIs (.ref a) "zip" := fun _ => ⟨_, hx, rfl⟩
 have f1 := sub_AttributeError
 have f3 := F.slot_zip_getattribute.lookup
 have f4 := F.slot_zip_getattribute.bind (.ref a)
 have f5 := zip_no_getattr
 unfold getAttr? getAttrBy? getAttrBy
 repeat (any_goals (first | assumption | exact hT _ | ((with_reducible show wpAny _ _ (call (Value.builtin "zip.__getattribute__") _ _) _ _ _); refine call_meets F.slot_zip_getattribute (hT _) zip_ga_entry (F.args_zip_getattribute_2 _ _) (zip_ga_miss a fs "keys" _ zip_no_keys (by decide +kernel) (by decide +kernel)) ⟨hx, hA, fun h' tk' e hx' => ?_⟩) | wp_step))
 obtain ⟨t', u', he⟩ := hx'.there
 show wpAny _ _ (getattributeRaised _ _ _ _ _ _ _) _ _ _
 unfold getattributeRaised
 repeat (any_goals (first | assumption | wp_step))
 exact h _ _ hx'.keeps
theorem upd_loop_entry : entryFor table "dict.update.loop" = some Builtin.«dict.update.loop» := entryFor_of_fast (by kernel_rfl)
theorem upd_loop_plain : plainId "dict.update.loop" = true := by decide +kernel
section
variable {prog : Program} {w : World} {A : Around} {E : Value -> Shared -> Prop} {s : Shared}
theorem stored_fresh {kvs : List (Str × Value)} {k : Str} {v : Value} (h : k ∉ kvs.map (·.1)) : stored kvs k v = kvs ++ [(k, v)] := by
 unfold stored
 have : kvs.any (λkv => kv.1 = k) = false := by
  rw [List.any_eq_false]
  intro q hq
  simp only [decide_eq_true_eq]
  intro e
  exact h (List.mem_map.mpr ⟨q, hq, e⟩)
 rw [this]; simp
theorem dict_loop {z TI TO i1 i2 l1 l2 d : Addr} {kv : List (Str × Value)} {xs ys : Array Value} {R : Result → Shared → Prop} {res : Value} (hh : A.handled = none) (D : ZA z TI TO i1 i2 l1 l2) (hd : d ∉ [z, TI, TO, i1, i2, l1, l2]) (hn : (kv.map (·.1)).Nodup) (hl1 : xs.size = kv.length) (hl2 : ys.size = kv.length) (hsz : kv.length ≤ 1000)
  (hx : ∀ (j : Nat) (q : Str × Value), kv[j]? = some q -> ∃ t : Tok, xs[j]? = some (Value.str q.1 t) /\ ys[j]? = some q.2) :
  ∀ (n k : Nat) (s : Shared), kv.length - k = n -> k <= kv.length -> ZS z TI TO i1 i2 l1 l2 xs ys k s.heap -> s.heap.DictOf (PySem.strKind prog w) d (kv.take k) -> ∀ i : Int,
  (∀ h' tk, h'.DictOf (PySem.strKind prog w) d kv -> (∀ c o, c ≠ z -> c ≠ TO -> c ≠ i1 -> c ≠ i2 -> c ≠ d -> s.heap.get? c = some o -> h'.get? c = some o) -> R (.ok (.ret res)) { s with heap := h', toks := tk }) ->
  codeAny (model prog w) A (.builtin "dict.update.loop" ⟨[.ref d, .ref z, rawInt i, res], []⟩) R s
 | 0, k, s, hk, hle, S, hdo, i, hR => by
  have e : k = kv.length := by lia
  subst e
  rw [List.take_length] at hdo
  have nd : d ≠ z /\ d ≠ TI /\ d ≠ TO /\ d ≠ i1 /\ d ≠ i2 /\ d ≠ l1 /\ d ≠ l2 := by simpa using hd
  refine codeAny_builtin upd_loop_entry ?_
  rw [Around.under_plainId upd_loop_plain _]
  show wpAny _ A.in1 (pyNext (.ref z) >>= _) _ _ s
  refine wpAny_bind (zip_end (A := A.in1) hh D S (by simp [hl1]) λh' hk' => ?_)
  show wpAny _ _ (Builtin.Dict.addKeywords d [] >>= _) _ _ _
  refine wpAny_bind (wpAny_pure (wpAny_pure ?_))
  refine hR h' _ ?_ λc o c1 c2 c3 c4 _ e => hk' c o c1 c2 c3 c4 e
  obtain ⟨o, es, ep, ho, q⟩ := hdo
  exact ⟨o, es, ep, hk' _ _ nd.1 nd.2.2.1 nd.2.2.2.1 nd.2.2.2.2.1 ho, q⟩
 | n + 1, k, s, hk, hle, S, hdo, i, hR => by
  have hlt : k < kv.length := by lia
  have nd : d ≠ z /\ d ≠ TI /\ d ≠ TO /\ d ≠ i1 /\ d ≠ i2 /\ d ≠ l1 /\ d ≠ l2 := by simpa using hd
  obtain ⟨t, hx1, hy1⟩ := hx k kv[k] (by simp [hlt])
  refine codeAny_builtin upd_loop_entry ?_
  rw [Around.under_plainId upd_loop_plain _]
  show wpAny _ A.in1 (pyNext (.ref z) >>= _) _ _ s
  refine wpAny_bind (zip_next D S hx1 hy1 λh' T' S' hT' hk' => ?_)
  obtain ⟨oT, nT, hoT, hcT, hdT⟩ := hT'
  refine wpAny_bind (wpAny_holding ?_)
  have hdo' : h'.DictOf (PySem.strKind prog w) d (kv.take k) := by
   obtain ⟨o, es, ep, ho, q⟩ := hdo
   exact ⟨o, es, ep, hk' _ _ nd.1 nd.2.2.1 nd.2.2.2.1 nd.2.2.2.2.1 ho, q⟩
  have pairs : ∀ (P : List Value -> Shared -> Prop) (E' : Value -> Shared -> Prop), P [.str kv[k].1 t, kv[k].2] { s with heap := h' } -> wpAny (model prog w) A.in1 (Builtin.Dict.pairItems (.ref T')) P E' { s with heap := h' } := by
   intro P E' hP
   unfold Builtin.Dict.pairItems
   refine wpAny_bind (wpAny_typeOf (show ({ s with heap := h' } : Shared).TypeIs (.ref T') "tuple" from ⟨oT, hoT, hcT⟩) ?_)
   rw [if_pos (by decide)]
   refine wpAny_bind (wpAny_seqItems hoT hdT (wpAny_pure hP))
  refine wpAny_bind (wpAny_tryCatch (pairs _ _ ?_))
  refine wpAny_holding ?_
  have fresh : kv[k].1 ∉ (kv.take k).map (·.1) := by
   intro hm
   rw [List.map_take] at hm
   obtain ⟨j, hj, e⟩ := List.getElem_of_mem hm
   simp at hj
   have e2 : (kv.map (·.1))[j]'(by simp; lia) = (kv.map (·.1))[k]'(by simp; lia) := by simpa using e
   exact (List.pairwise_iff_getElem.mp hn) j k (by simp; lia) (by simp; lia) (by lia) e2
  refine wpAny_dictSet_pairs (k := kv[k].1) (PySem.strKind_is _ _ _ _) hdo' (λh2 hd2 hs2 => ?_) (by simp; unfold sizeLine; lia)
  rw [stored_fresh fresh] at hd2
  have et : kv.take k ++ [(kv[k].1, kv[k].2)] = kv.take (k + 1) := by rw [List.take_add_one, List.getElem?_eq_getElem hlt]; rfl
  rw [et] at hd2
  refine wpAny_pure ⟨plainId_quiet upd_loop_plain _, ?_⟩
  have kp : ∀ c o, c ≠ d -> h'.get? c = some o -> h2.get? c = some o := λc o hc e => hs2.extBut c o hc e
  obtain ⟨⟨f0, f1, hz, hf⟩, ti, to, it1, it2, t1, t2⟩ := S'
  have S2 : ZS z TI TO i1 i2 l1 l2 xs ys (k + 1) h2 := by
   refine ⟨⟨f0, f1, kp _ _ nd.1.symm hz, ?_⟩, kp _ _ nd.2.1.symm ti, let ⟨a, b, e⟩ := to; ⟨a, b, kp _ _ nd.2.2.1.symm e⟩, it1.at λo e => kp _ o nd.2.2.2.1.symm e, it2.at λo e => kp _ o nd.2.2.2.2.1.symm e, let ⟨o, e, q⟩ := t1; ⟨o, kp _ o nd.2.2.2.2.2.1.symm e, q⟩, let ⟨o, e, q⟩ := t2; ⟨o, kp _ o nd.2.2.2.2.2.2.symm e, q⟩⟩
   rcases hf with e | ⟨T, oT, e, e1, e2⟩
   ·exact .inl e
   ·by_cases q : T = d
    ·subst q
     have : ∃ o, h2.get? T = some o := by obtain ⟨o, _, _, ho, _⟩ := hd2; exact ⟨o, ho⟩
     obtain ⟨o, ho⟩ := this
     exact .inr ⟨T, o, e, ho, e2⟩
    ·exact .inr ⟨T, oT, e, kp _ _ q e1, e2⟩
  refine dict_loop hh D hd hn hl1 hl2 hsz hx n (k + 1) { s with heap := h2, toks := s.toks + 1 } (by lia) hlt S2 hd2 (i + 1) λh3 tk hd3 hk3 => ?_
  exact hR h3 tk hd3 λc o c1 c2 c3 c4 c5 e => hk3 c o c1 c2 c3 c4 c5 (kp c o c5 (hk' c o c1 c2 c3 c4 e))
theorem iter_zip {z : Addr} {fs : Array Value} {Q : Value → Shared → Prop} (hz : s.heap.get? z = some { cls := .type "zip", dict := none, data := .fields fs, slots := #[] }) (h : Q (.ref z) s) : wpAny (model prog w) A (pyIter (.ref z)) Q E s := by
 have hT : s.TypeIs (.ref z) "zip" := ⟨_, hz, rfl⟩
 refine wpAny_pyIter_slot hT F.slot_zip_iter (wpAny_call_entry F.slot_zip_iter hT F.entry_zip_iter ?_ (F.args_zip_iter_1 _))
 show wpAny _ _ (ret (.ref z)) _ _ s
 exact wpAny_pure ⟨_, rfl, "zip", _, hT, F.slot_zip_next.lookup, h⟩
theorem call_dict_zip {z TI TO i1 i2 l1 l2 : Addr} {kv : List (Str × Value)} {xs ys : Array Value} {Q : Value → Shared → Prop} (hh : A.handled = none) (D : ZA z TI TO i1 i2 l1 l2) (S : ZS z TI TO i1 i2 l1 l2 xs ys 0 s.heap) (hn : (kv.map (·.1)).Nodup) (hl1 : xs.size = kv.length) (hl2 : ys.size = kv.length) (hsz : kv.length ≤ 1000)
  (hx : ∀ (j : Nat) (q : Str × Value), kv[j]? = some q -> ∃ t : Tok, xs[j]? = some (Value.str q.1 t) /\ ys[j]? = some q.2)
  (h : ∀ h' tk, h'.DictOf (PySem.strKind prog w) s.heap.objs.size kv -> (∀ c o, c ≠ z -> c ≠ TO -> c ≠ i1 -> c ≠ i2 -> s.heap.get? c = some o -> h'.get? c = some o) -> Q (.ref s.heap.objs.size) { s with heap := h', toks := tk }) :
  wpAny (model prog w) A (call (.type "dict") [.ref z]) Q E s := by
 refine callType_codes (Q₁ := fun obj s₁ => obj = .ref s.heap.objs.size ∧ s₁ = { s with heap := s.heap.push { cls := .type "dict", data := .dict #[] } }) F.kt_called_dict (F.kt_typeCall_dict_1 _) F.entry_dict_init (kt_code_dict_new _ ⟨rfl, rfl⟩) ?_
 rintro obj s₁ ⟨rfl, rfl⟩
 have hnew : (s.heap.push { cls := .type "dict", data := .dict #[] }).DictOf (PySem.strKind prog w) s.heap.objs.size [] := Heap.DictOf.new s.heap
 refine ⟨hnew.typeIs, F.args_dict_init_2 _ _, ?_⟩
 unfold Builtin.«dict.__init__»
 refine wpAny_bind ?_
 unfold Builtin.Dict.selfAndRest
 refine wpAny_bind (wpAny_notOrdered_dict hnew.typeIs ?_)
 show wpAny _ _ (pure (s.heap.objs.size, [Value.ref z])) _ _ _
 refine wpAny_pure ?_
 show wpAny _ _ (Builtin.Dict.updateFrom "dict.__init__" s.heap.objs.size (.ref z) [] .none) _ _ _
 obtain ⟨⟨f0, f1, hz, hf⟩, ti, to, it1, it2, t1, t2⟩ := S
 have lt : ∀ {c : Addr} {o : Obj}, s.heap.get? c = some o -> s.heap.objs.size ≠ c := λe => Nat.ne_of_gt (Heap.lt_size e)
 have hd : s.heap.objs.size ∉ [z, TI, TO, i1, i2, l1, l2] := by
  obtain ⟨a, b, to⟩ := to
  obtain ⟨o1, e1, _⟩ := it1
  obtain ⟨o2, e2, _⟩ := it2
  obtain ⟨o3, e3, _⟩ := t1
  obtain ⟨o4, e4, _⟩ := t2
  simp only [List.mem_cons, List.not_mem_nil, or_false, not_or]
  exact ⟨lt hz, lt ti, lt to, lt e1, lt e2, lt e3, lt e4⟩
 have hz1 : (s.heap.push { cls := .type "dict", data := .dict #[] }).get? z = some { cls := .type "zip", dict := none, data := .fields #[f0, f1, .bool false, .ref TI, .ref TO], slots := #[] } := Heap.get?_push_of_some _ hz
 unfold Builtin.Dict.updateFrom
 refine wpAny_bind (wpAny_typeOf (show ({ s with heap := s.heap.push { cls := .type "dict", data := .dict #[] } } : Shared).TypeIs (.ref z) "zip" from ⟨_, hz1, rfl⟩) ?_)
 rw [if_pos (by decide)]
 refine wpAny_bind (zip_keys (A := A.in1.in1) hz1 hh λh1 tk1 hk1 => ?_)
 rw [if_pos (show (none : Option Value).isNone = true from rfl)]
 refine wpAny_bind (wpAny_rule ?_)
 refine wpAny_bind (iter_zip (hk1 _ _ hz1) ?_)
 refine wpAny_pure ⟨plainId_quiet upd_loop_plain _, ?_⟩
 have kp : ∀ c o, s.heap.get? c = some o -> h1.get? c = some o := λc o e => hk1 c o (Heap.get?_push_of_some _ e)
 refine dict_loop (A := A.in1) (kv := kv) hh D hd hn hl1 hl2 hsz hx kv.length 0 _ rfl (Nat.zero_le _) ⟨⟨f0, f1, kp _ _ hz, ?_⟩, kp _ _ ti, let ⟨a, b, e⟩ := to; ⟨a, b, kp _ _ e⟩, it1.at λo e => kp _ o e, it2.at λo e => kp _ o e, let ⟨o, e, q⟩ := t1; ⟨o, kp _ o e, q⟩, let ⟨o, e, q⟩ := t2; ⟨o, kp _ o e, q⟩⟩ ?_ 0 λh2 tk2 hd2 hk2 => ?_
 ·rcases hf with e | ⟨T, oT, e, e1, e2⟩
  ·exact .inl e
  ·exact .inr ⟨T, oT, e, kp _ _ e1, e2⟩
 ·obtain ⟨o, es, ep, ho, q⟩ := hnew
  exact ⟨o, es, ep, hk1 _ _ ho, q⟩
 ·exact ⟨rfl, h h2 tk2 hd2 λc o c1 c2 c3 c4 e => hk2 c o c1 c2 c3 c4 (λq => lt e q.symm) (kp c o e)⟩
end
section
variable {g : Gh} {A : Around} {own own' : Addr -> Tag} {s : Shared} {σ : Sg}
theorem strs_of {h : Heap} : ∀ {vs : List Value} {ks : List D} {js : List Nat}, AtL g h own vs ks -> strsOf ks = some js -> (∀ j ∈ js, j < 39) /\ vs.length = js.length /\ ∀ (i j : Nat), js[i]? = some j -> ∃ t : Tok, vs[i]? = some (.str (sN j) t)
 | [], _, _, .nil, h => by cases h; exact ⟨(λ_ h => by cases h), rfl, (λi j h => by simp at h)⟩
 | v :: vs, _, _, .cons (d := d) (ds := ds) a r, h => by
  cases a <;> simp only [strsOf] at h <;> first | cases h | skip
  rename_i k x hk hx t
  obtain ⟨js', e, h⟩ := Option.map_eq_some_iff.mp h
  subst h
  obtain ⟨i1, i2, i3⟩ := strs_of r e
  refine ⟨λj hj => ?_, by simp [i2], λi j h => ?_⟩
  ·rcases List.mem_cons.mp hj with rfl | hj
   ·exact hk
   ·exact i1 j hj
  ·cases i with
   | zero => simp at h; subst h; exact ⟨t, by rw [hx]; rfl⟩
   | succ i => simpa using i3 i j (by simpa using h)
theorem nodup_sN : ∀ {js : List Nat}, (∀ j ∈ js, j < 39) -> js.Nodup -> (js.map sN).Nodup
 | [], _, _ => by simp
 | j :: js, k, n => by
  rw [List.map_cons, List.nodup_cons]
  have n' := List.nodup_cons.mp n
  refine ⟨λhm => ?_, nodup_sN (λi h => k i (.tail _ h)) n'.2⟩
  obtain ⟨i, hi, e⟩ := List.mem_map.mp hm
  have := sN_inj (k i (.tail _ hi)) (k j (.head _))
  rw [e] at this; simp at this
  exact n'.1 (this ▸ hi)
theorem dzip_ok {v w : Value} {ks ds : List D} {js : List Nat} {Q : Value → Shared → Prop} {E : Value → Shared → Prop} (hh : A.handled = none) (hsm : ∃ o, g.h₀.get? sysModules = some o) (r : RG g own σ s.heap) (y : At g s.heap own v (.tup ks)) (z : At g s.heap own w (.tup ds)) (hj : strsOf ks = some js) (hlen : js.length = ds.length) (h4 : js.length ≤ 4) (hnd : js.Nodup)
  (K : ∀ v h' tk' own', Ext own own' s.heap h' -> RG g own' σ h' -> At g h' own' v (.dict js ds) -> Q v { s with heap := h', toks := tk' }) :
  wpAny (model g.prog g.w) A (call (.type "zip") [v, w]) (fun z s₁ => wpAny (model g.prog g.w) A (call (.type "dict") [z]) Q E s₁) E s := by
 cases y with
 | tup hf z1 hl1 =>
  cases z with
  | tup hf2 z2 hl2 =>
   rename_i a vs b ws
   refine call_zip z1 z2 λh1 z TI TO i1 i2 D S hk hn => ?_
   obtain ⟨k1, k2, k3⟩ := strs_of hl1 hj
   have e1 := hl1.length
   have e2 := hl2.length
   have own1 : ∀ c ∈ [z, TI, TO, i1, i2], own c = .no := λc hc => by
    cases q : own c with
    | no => rfl
    | _ => obtain ⟨o, e⟩ := r.lt c (by rw [q]; intro z; cases z); rw [hn c hc] at e; cases e
   have hw : ws.length = js.length := by lia
   refine call_dict_zip (kv := (js.map sN).zip ws) hh D S ?_ (by simp; lia) (by simp; lia) (by simp; lia) (λj q hq => ?_) λh2 tk2 hd2 hk2 => ?_
   ·have em : ((js.map sN).zip ws).map (·.1) = js.map sN := by rw [List.map_fst_zip]; simp; lia
    rw [em]
    exact nodup_sN k1 hnd
   ·obtain ⟨hq1, hq2⟩ := List.getElem?_zip_eq_some.mp hq
    rw [List.getElem?_map] at hq1
    obtain ⟨jj, hjj, e⟩ := Option.map_eq_some_iff.mp hq1
    obtain ⟨t, ht⟩ := k3 j jj hjj
    exact ⟨t, by rw [<- e]; simpa using ht, by simpa using hq2⟩
   ·have kp : ∀ c o, s.heap.get? c = some o → h2.get? c = some o := fun c o e => by
     have ne : ∀ x ∈ [z, TI, TO, i1, i2], c ≠ x := λx hx q => by rw [q, hn x hx] at e; cases e
     exact hk2 c o (ne _ (by simp)) (ne _ (by simp)) (ne _ (by simp)) (ne _ (by simp)) (hk c o e)
    have hnone : s.heap.get? h1.objs.size = none := by
     cases q : s.heap.get? h1.objs.size with
     | none => rfl
     | some o => exact absurd (Heap.lt_size (hk _ _ q)) (Nat.lt_irrefl _)
    obtain ⟨od, hod⟩ : ∃ o, h2.get? h1.objs.size = some o := by obtain ⟨o, _, _, ho, _⟩ := hd2; exact ⟨o, ho⟩
    obtain ⟨x, r'⟩ := keep_new (t := .fz) r kp hnone hod
    refine K _ h2 tk2 _ x r' (.dict upd_self ?_ k1 hw.symm hd2 (AtL.mono (x.le r) hl2))
    obtain ⟨o, ho⟩ := hsm
    exact beq_eq_false_iff_ne.mpr λq => by rw [q, (r.base _ _ ho).1] at hnone; cases hnone
end
end Mine
end
section
open PySem PySem.W PySem.Calls PyProof.Rows PySem.SeqAt
namespace Mine
section
variable {g : Gh} {A : Around} {own own' : Addr -> Tag} {s : Shared} {σ σ₁ σ₂ σ₃ σ' : Sg} {d e : D} {h h' : Heap} {C : Calls} {k n : Nat} {l : Loc} {sc : Scope} {env : Env}
theorem comp_all {x c y : X} {cond : Option X} {ts fre : List Nat} {ee tg it : Expr} {ifs : List Expr} {p : Pos} {scc : Scope} (hh : A.handled = none) (ihe : EvOk g C k A n) (ihb : EvB g C k A n) (hs : ScOf sc env) (r : R g own env l σ s.heap)
  (hcc : ScC sc scc ts fre) (ht : IsT ts tg) (hf : ∀ env x, foldedSetIterable it env x = pure x) (h1 : IsE g scc x ee) (h2 : IsE g sc y it) (hif : IsIf cond ifs) (h3 : ∀ c ce, cond = some c -> ifs = [ce] -> bx c = true /\ IsE g scc c ce)
  (he : ev C (n + 1) l σ (.comp x ts fre y cond) = some (d, σ')) : Gives g A own s (eval (.ListComp ee [⟨tg, it, ifs, 0⟩] scc p) env) d σ' := λQ E K => by
 refine i_comp he (λd1 σ₁ ds rs σ₂ e1 e2 hlen e3 Q E K => ?_) Q E K
 rw [eval_ListComp]
 refine wpAny_comprehension_free (g := ⟨tg, it, ifs, 0⟩) (gs := []) rfl (hf env) (closure_ok r hs hcc hlen.2) hcc.kind hcc.nm ?_
 refine ihe _ _ _ _ _ _ _ _ _ _ e1 h2 hs r _ _ λv h' tk' own' x' r' y' => ?_
 exact (comp_ok (f := ev C n) (s := { s with heap := h', toks := tk' }) (iter := it) hh (r.ext x' r') y' e2 hlen.1 hs hcc ht hif hlen.2 e3
  (λl σ d σ' env own s e hs r => ihe _ _ _ _ _ _ _ _ _ _ e h1 hs r)
  (λc ce q1 q2 l σ b σ' env own s e hs r => ihb _ _ _ _ _ _ _ _ _ _ e (h3 c ce q1 q2).1 (h3 c ce q1 q2).2 hs r)
  λv h'' tk'' own'' x'' r'' y'' => K v _ _ _ (x'.trans x'') r'' y'').2
theorem nem_run {ds : List D} {y : Nat} {p q : Pos} (r : R g own env l σ s.heap) (hl : l.lookup y = some (.ow ds)) (hd : (vN y == ("__debug__" : Str)) = false) (hu : A.units + 300 < cLine) {Q : Value → Shared → Prop} {E : Value → Shared → Prop}
  (K : ∀ h' tk' own', Ext own own' s.heap h' -> RG g own' σ h' -> Q (.bool (!ds.isEmpty)) { s with heap := h', toks := tk' }) :
  wpAny (model g.prog g.w) A (eval (.Name (vN y) p) env) (λa s₁ => wpAny (model g.prog g.w) A (eval (.List [] q) env) (λb s₂ => wpAny (model g.prog g.w) A (compareOp .NotEq a b) Q E s₂) E s₁) E s := by
 refine lname r hl (by intro z; cases z) hd λv hv => ?_
 obtain ⟨a, vs, rfl, ht, ⟨n, ho⟩, hat⟩ := hv
 refine wpAny_List (spliced_nil ⟨by simp [sizeLine], ?_⟩)
 have e := hat.length
 have z : (s.heap.push { cls := .type "list", data := .seq ([] : List Value).toArray }).IsList a vs.toArray := ⟨_, Heap.get?_push_of_some _ ho, rfl, n, rfl⟩
 have z' : (s.heap.push { cls := .type "list", data := .seq ([] : List Value).toArray }).IsList s.heap.objs.size ([] : List Value).toArray := ⟨_, Heap.get?_push_size _ rfl, rfl, 0, rfl⟩
 have fin := K (s.heap.push { cls := .type "list", data := .seq ([] : List Value).toArray }) s.toks own (Ext.push' _ _ _) (r.toRG.push' _)
 cases ds with
 | nil =>
  cases hat
  refine RcNeAt.lists (s := { s with heap := _ }) (e := λ_ => true) z z' (by simp) (by lia) (λj h1 h2 => ?_) g.prog g.w E Q ?_
  ·simp at h1
  ·exact fin
 | cons d ds =>
  have hsz : vs.length ≠ 0 := by rw [e]; simp
  exact RcNeAt.lists_lengths (s := { s with heap := _ }) z z' (by simp; intro q; apply hsz; rw [q]; rfl) (by lia) g.prog g.w E Q fin
theorem inn_run {x : X} {a : Expr} {ds : List D} {y : Nat} {p : Pos} {neg : Bool} (ihe : EvOk g C k A n) (hs : ScOf sc env) (r : R g own env l σ s.heap) (he : ev C n l σ x = some (d, σ')) (h1 : IsE g sc x a) (hl : l.lookup y = some (.ow ds) ∨ l.lookup y = some (.val .acc) ∧ σ'.ac = some ds) (hd : (vN y == ("__debug__" : Str)) = false)
  (k1 : okD d = true) (k2 : okDs ds = true) (hu : A.units + 300 < cLine) {Q : Value -> Shared -> Prop} {E : Value -> Shared -> Prop}
  (K : ∀ h' tk' own', Ext own own' s.heap h' -> RG g own' σ' h' -> Q (.bool (neg ^^ ds.any λy => deq y d)) { s with heap := h', toks := tk' }) :
  wpAny (model g.prog g.w) A (eval a env) (λa s₁ => wpAny (model g.prog g.w) A (eval (.Name (vN y) p) env) (λb s₂ => wpAny (model g.prog g.w) A (compareOp (if neg then .NotIn else .In) a b) Q E s₂) E s₁) E s := by
 refine ihe _ _ _ _ _ _ _ _ _ _ he h1 hs r _ _ λv h' tk' own' x' r' yv => ?_
 have run : ∀ {P : Value → Shared → Prop}, (∀ (a : Addr) (vs : List Value) (n : Nat), h'.get? a = some { cls := .type "list", data := .seq vs.toArray n } → AtL g h' own' vs ds → P (.ref a) { s with heap := h', toks := tk' }) → wpAny (model g.prog g.w) A (eval (.Name (vN y) p) env) P E { s with heap := h', toks := tk' } := fun hP => hl.elim
  (λhl => lname (s := { s with heap := h', toks := tk' }) (r.ext x' r') hl (by intro z; cases z) hd λw hw => hw.elim λa hw => hw.elim λvs hw => hw.1 ▸ hw.2.2.1.elim λn ho => hP a vs n ho hw.2.2.2)
  λhl => lname (s := { s with heap := h', toks := tk' }) (r.ext x' r') hl.1 (by intro z; cases z) hd λw hw => At.acc_e (show At g h' own' w .acc from hw) λa ha => (r'.shr.ac _ ha).elim λds' h => h.2.elim λvs h3 => h3.1.elim λn ho => hP _ vs n ho (Option.some.inj (h.1.symm.trans hl.2) ▸ h3.2)
 refine run λa vs n ho hat => ?_
 have z : h'.IsList a vs.toArray := ⟨_, ho, rfl, n, rfl⟩
 obtain ⟨f, hf1, hf2⟩ := any_in (s := { s with heap := h', toks := tk' }) (a := 0) hat yv k1 k2 hu
 have fin := K h' tk' own' x' r'
 cases neg with
 | false =>
  refine in_listAt f z hf1 ?_
  rw [hf2]; simpa using fin
 | true =>
  refine notIn_listAt f z hf1 ?_
  rw [hf2]; simpa using fin
abbrev slo (a b c : Value) : Obj := { cls := .type "slice", data := .fields #[a, b, c] }
theorem nat_i {i : Int} (h : 0 <= i) : (i.toNat : Int) = i := Int.toNat_of_nonneg h
theorem upto_ok {v w : Value} {ds : List D} {i : Int} {e u : Expr} {pr : Pos} {s' : Shared} (hs' : True) (r : RG g own σ s.heap) (y : At g s.heap own v (.tup ds)) (z : At g s.heap own w (.int i)) (h0 : 0 ≤ i ∧ i ≤ 100 ∧ ds.length ≤ 100) {Q : Value → Shared → Prop} {E : Value → Shared → Prop}
  (K : ∀ v h' tk' own', Ext own own' s.heap h' -> RG g own' σ h' -> At g h' own' v (.tup (ds.take i.toNat)) -> Q v { s with heap := h', toks := tk' }) :
  wpAny (model g.prog g.w) A (subscriptTail e (.Slice none (some u) none pr) v (.ref s.heap.objs.size)) Q E { s with heap := s.heap.push (slo .none w .none) } := by
 refine z.int_e λt => y.tup_e λa vs hf z hl => z.elim λo zz => ?_
 have r1 := r.push' (slo .none (.int i t) .none)
 have x1 := Ext.push' own s.heap (slo .none (.int i t) .none)
 have zt : (s.heap.push (slo .none (.int i t) .none)).IsTuple a vs.toArray := ⟨o, Heap.get?_push_of_some _ zz.1, zz.2⟩
 have zs : (s.heap.push (slo .none (.int i t) .none)).IsSliceOf s.heap.objs.size .none (.int (i.toNat : Int) t) .none := ⟨_, Heap.get?_push_size _ rfl, rfl, by rw [nat_i h0.1]⟩
 have hl1 := AtL.mono (x1.le r) hl
 revert zt zs r1 x1 hl1
 generalize s.heap.push (slo .none (.int i t) .none) = h1
 intro r1 x1 zt zs hl1
 refine tail_any (ops := [.ref s.heap.objs.size, .ref a]) zt.typeIs PyProof.Rows.slot_tuple_getitem.lookup ?_ rfl
 refine tuple_slice (lo := 0) (step := 1) (n := min i.toNat vs.toArray.size) zt zs (λQ hQ => sliceApplied_upto zs hQ) (λhw => K _ _ _ own x1 r1 ?_) ?_ (Nat.le_trans (Nat.min_le_right _ _) (sz_le hl (Nat.le_trans h0.2.2 (by decide))))
 ·have hw : min i.toNat vs.length = vs.length := eq_of_beq ((Bool.and_eq_true _ _).mp hw).2
  rw [List.take_of_length_le (hl.length ▸ hw ▸ Nat.min_le_left _ _)]
  exact .tup hf zt hl1
 ·rw [pick_upto]
  have X := keep_new (t := .fz) (h' := h1.push { cls := .type "tuple", data := .seq (vs.toArray.toList.take i.toNat).toArray }) r1 (fun b o e => Heap.get?_push_of_some _ e) (size_none _) (Heap.get?_push_size _ rfl)
  exact K _ _ _ _ (x1.trans X.1) X.2 (.tup upd_self ⟨_, Heap.get?_push_size _ rfl, rfl, _, rfl⟩ (AtL.mono (X.1.le r1) (hl1.take _)))
theorem rev_ok {v w : Value} {ds : List D} {e u : Expr} (r : RG g own σ s.heap) (y : At g s.heap own v (.tup ds)) (z : At g s.heap own w (.int (-1))) (h0 : ds.length ≤ maxLen) {Q : Value → Shared → Prop} {E : Value → Shared → Prop}
  (hsub : ∀ o i', ∃ ops, subscripted u false o i' = operate ops (getItem o i'))
  (K : ∀ v h' tk' own', Ext own own' s.heap h' -> RG g own' σ h' -> At g h' own' v (.tup ds.reverse) -> Q v { s with heap := h', toks := tk' }) :
  wpAny (model g.prog g.w) A (subscriptTail e u v (.ref s.heap.objs.size)) Q E { s with heap := s.heap.push (slo .none .none w) } := by
 refine z.int_e λt => y.tup_e λa vs hf z hl => z.elim λo zz => ?_
 have r1 := r.push' (slo .none .none (.int (-1) t))
 have x1 := Ext.push' own s.heap (slo .none .none (.int (-1) t))
 have zt : (s.heap.push (slo .none .none (.int (-1) t))).IsTuple a vs.toArray := ⟨o, Heap.get?_push_of_some _ zz.1, zz.2⟩
 have zs : (s.heap.push (slo .none .none (.int (-1) t))).IsSliceOf s.heap.objs.size .none .none (.int (-1) t) := ⟨_, Heap.get?_push_size _ rfl, rfl, rfl⟩
 have hl1 := AtL.mono (x1.le r) hl
 revert zt zs r1 x1 hl1
 generalize s.heap.push (slo .none .none (.int (-1) t)) = h1
 intro r1 x1 zt zs hl1
 refine (hsub (.ref a) (.ref s.heap.objs.size)).elim λops hops => tail_any (ops := ops) zt.typeIs PyProof.Rows.slot_tuple_getitem.lookup ?_ hops
 refine tuple_slice (lo := (vs.toArray.size : Int) - 1) (step := -1) (n := vs.toArray.size) zt zs (λQ hQ => sliceApplied_rev zs hQ) (λhw => nB (show false = true from ?_)) ?_ (sz_le hl h0)
 ·have hw := ((Bool.and_eq_true _ _).mp ((Bool.and_eq_true _ _).mp hw).1).2
  exact hw
 ·have ep : ((List.range vs.toArray.size).filterMap fun (k : Nat) => vs.toArray[((vs.toArray.size : Int) - 1 + (k : Int) * (-1)).toNat]?).toArray = vs.reverse.toArray := by
   simp only [List.size_toArray, List.getElem?_toArray]
   rw [pick_rev vs]
  rw [ep]
  have X := keep_new (t := .fz) (h' := h1.push { cls := .type "tuple", data := .seq vs.reverse.toArray }) r1 (fun b o e => Heap.get?_push_of_some _ e) (size_none _) (Heap.get?_push_size _ rfl)
  exact K _ _ _ _ (x1.trans X.1) X.2 (.tup upd_self ⟨_, Heap.get?_push_size _ rfl, rfl, _, rfl⟩ (AtL.mono (X.1.le r1) hl1.reverse))
theorem bounds_upto (j n : Nat) : sliceBounds none (some (j : Int)) none n = (((0 : Nat) : Int), ((min j n : Nat) : Int), 1) := by
 show (0, (if (0 : Int) < 1 then max 0 (min (if (j : Int) < 0 then (j : Int) + n else j) n) else _), (1 : Int)) = _
 rw [if_pos (by decide), if_neg (Int.not_lt.mpr (Int.natCast_nonneg j)), Int.max_eq_right (by lia)]
 refine congrArg (λx => ((0 : Int), x, (1 : Int))) ?_
 rcases Nat.le_total j n with h | h
 ·rw [Nat.min_eq_left h, Int.min_eq_left (Int.ofNat_le.mpr h)]
 ·rw [Nat.min_eq_right h, Int.min_eq_right (Int.ofNat_le.mpr h)]
theorem pickL (vs : List Value) (j : Nat) : slicePick vs.toArray none (some (j : Int)) none = (vs.take j).toArray := by
 rw [kmk_pick_nat _ (bounds_upto j _), List.drop_zero, Nat.sub_zero, List.size_toArray]
 exact congrArg List.toArray List.take_eq_take_min.symm
theorem uptoL_ok {v w : Value} {ds : List D} {i : Int} {e u : Expr} {pr : Pos} (r : RG g own σ s.heap) (y : At g s.heap own v (.list ds)) (z : At g s.heap own w (.int i)) (h0 : 0 ≤ i ∧ i ≤ 100 ∧ ds.length ≤ 100) {Q : Value → Shared → Prop} {E : Value → Shared → Prop}
  (K : ∀ v h' tk' own', Ext own own' s.heap h' -> RG g own' σ h' -> At g h' own' v (.list (ds.take i.toNat)) -> Q v { s with heap := h', toks := tk' }) :
  wpAny (model g.prog g.w) A (subscriptTail e (.Slice none (some u) none pr) v (.ref s.heap.objs.size)) Q E { s with heap := s.heap.push (slo .none w .none) } := by
 refine z.int_e λt => y.list_e λa vs hf z hl => z.elim λn0 ho => ?_
 have r1 := r.push' (slo .none (.int i t) .none)
 have x1 := Ext.push' own s.heap (slo .none (.int i t) .none)
 have zt : (s.heap.push (slo .none (.int i t) .none)).IsList a vs.toArray := ⟨_, Heap.get?_push_of_some _ ho, rfl, n0, rfl⟩
 have zs : (s.heap.push (slo .none (.int i t) .none)).IsSliceOf s.heap.objs.size .none (.int i t) .none := ⟨_, Heap.get?_push_size _ rfl, rfl, rfl⟩
 have hl1 := AtL.mono (x1.le r) hl
 revert zt zs r1 x1 hl1
 generalize s.heap.push (slo .none (.int i t) .none) = h1
 intro r1 x1 zt zs hl1
 refine tail_any (ops := [.ref s.heap.objs.size, .ref a]) zt.typeIs list_getitem_lookup ?_ rfl
 refine wpAny_getItem_list_slice zt zs .none (.int i t) .none (by intro z; cases z) ?_ (sz_le hl (Nat.le_trans h0.2.2 (by decide)))
 rw [<- nat_i h0.1, pickL]
 have X := keep_new (t := .fz) (h' := h1.push { cls := .type "list", data := .seq (vs.take i.toNat).toArray }) r1 (fun b o e => Heap.get?_push_of_some _ e) (size_none _) (Heap.get?_push_size _ rfl)
 exact K _ _ _ _ (x1.trans X.1) X.2 (.list upd_self ⟨_, Heap.get?_push_size _ rfl⟩ (AtL.mono (X.1.le r1) (hl1.take _)))
theorem RG.newsrc {vs : List Value} {ds : List D} (r : RG g own σ h) (hs : σ.src = none) (hat : AtL g h own vs ds) : RG g (upd own h.objs.size .src) { σ with src := some ds } (h.push { cls := .type "list", data := .seq vs.toArray }) ∧ Ext own (upd own h.objs.size .src) h (h.push { cls := .type "list", data := .seq vs.toArray }) := by
 have nsrc : ∀ a, own a ≠ .src := λa ha => by obtain ⟨ds, e, _⟩ := r.shr.src a ha; rw [hs] at e; cases e
 have x := Ext.push own h ({ cls := .type "list", data := .seq vs.toArray } : Obj) .src
 have L := x.le r
 have old : ∀ b t, upd own h.objs.size .src b = t -> t ≠ .src -> own b = t := λb t e ht => by
  by_cases q : b = h.objs.size
  ·rw [q, upd_self] at e; exact absurd e.symm ht
  ·rwa [upd_ne q] at e
 have kp : ∀ b o, h.get? b = some o → (h.push { cls := .type "list", data := .seq vs.toArray }).get? b = some o := fun b o e => Heap.get?_push_of_some _ e
 refine ⟨⟨λb o e => ⟨kp _ _ (r.base b o e).1, r.tag x (r.base b o e).2 (by intro z; cases z)⟩, λb hb => ?_, λP q e => (r.tb P q e).mono L (r.tag x (r.tb P q e).1 (by intro z; cases z)) λo ho => kp _ _ ho,
  ⟨λb e => ?_, λb e => (r.shr.ad b (old b _ e (by intro z; cases z))).mono L (λo ho => kp _ _ ho) rfl, λb e => (r.shr.tr b (old b _ e (by intro z; cases z))).mono L (λo ho => kp _ _ ho) rfl, λb e => (r.shr.ac b (old b _ e (by intro z; cases z))).mono L (λo ho => kp _ _ ho) rfl, λa b ha e => ?_⟩⟩, x⟩
 ·by_cases q : b = h.objs.size
  ·rw [q]; exact ⟨_, Heap.get?_push_size _ rfl⟩
  ·rw [upd_ne q] at hb; obtain ⟨o, e⟩ := r.lt b hb; exact ⟨o, kp _ _ e⟩
 ·by_cases q : b = h.objs.size
  ·rw [q]; exact ⟨ds, rfl, vs, ⟨_, Heap.get?_push_size _ rfl, rfl, _, rfl⟩, AtL.mono L hat⟩
  ·rw [upd_ne q] at e; exact absurd e (nsrc b)
 ·by_cases q1 : a = h.objs.size
  ·by_cases q2 : b = h.objs.size
   ·exact q1.trans q2.symm
   ·rw [q1, upd_self, upd_ne q2] at e; exact absurd e.symm (nsrc b)
  ·by_cases q2 : b = h.objs.size
   ·rw [q2, upd_self, upd_ne q1] at e; exact absurd e (nsrc a)
   ·rw [upd_ne q1] at ha
    rw [upd_ne q1, upd_ne q2] at e
    exact r.shr.one a b ha e
theorem call1 {x : X} {e : Expr} {v : Value} {nm : Str} {p q : Pos} (S : St g) (ihe : EvOk g C k A n) (hs : ScOf sc env) (r : R g own env l σ s.heap) (hce : callEq (.Name nm p) [e] q) (hst : ∀ env, starEach [e] env = [(false, eval e env)]) (h1 : IsE g sc x e)
  (hg : glb sc nm = true) (hd : (nm == ("__debug__" : Str)) = false) (hb : g.mg nm = none ∧ g.mb nm = some v) (hv : (∃ id, v = .builtin id) ∨ ∃ T, v = .type T) (he : ev C n l σ x = some (d, σ₁)) {Q : Value → Shared → Prop} {E : Value → Shared → Prop}
  (K : ∀ w h' tk' own', Ext own own' s.heap h' -> RG g own' σ₁ h' -> At g h' own' w d -> wpAny (model g.prog g.w) A (call v [w] []) Q E { s with heap := h', toks := tk' }) : wpAny (model g.prog g.w) A (eval (.Call (.Name nm p) [e] [] q) env) Q E s := by
 refine PyProof.Rows.Call_ ?_ (hce env)
 refine bname S r hs hg hd hb ?_
 have hb : backTo q (starEach [e] env) = [(false, eval e env)] := by rw [hst]; rfl
 rw [hb]
 have sp : wpAny (model g.prog g.w) A (spliced [(false, eval e env)]) (λvs s₁ => ∃ w, vs = [w] /\ wpAny (model g.prog g.w) A (call v [w] []) Q E s₁) E s :=
  spliced_cons (ihe _ _ _ _ _ _ _ _ _ _ he h1 hs r _ _ λw h' tk' own' x' r' y => spliced_nil ⟨w, rfl, K w h' tk' own' x' r' y⟩)
 have ar : ∀ f, wpAny (model g.prog g.w) A (evalArgs f true [(false, eval e env)] []) (λa s₁ => wpAny (model g.prog g.w) A (call v ([] ++ a.pos) a.kw) Q E s₁) E s := λf =>
  evalArgs_plain (wpAny_mono sp (λvs s₁ ⟨w, e, h⟩ => by subst e; exact h) λ_ _ h => h)
 rcases hv with ⟨id, rfl⟩ | ⟨T, rfl⟩
 ·exact Calls.callWith_builtin rfl (ar _)
 ·exact PyProof.Rows.callWith_type rfl (ar _)
theorem emp_new (S : St g) (r : RG g own σ s.heap) {Q : Value → Shared → Prop} (K : ∀ v h' tk' own', Ext own own' s.heap h' → RG g own' σ h' → At g h' own' v (.dict [] []) → Q v { s with heap := h', toks := tk' }) : Q (.ref s.heap.objs.size) { s with heap := s.heap.push { cls := .type "dict", data := .dict #[] } } := by
 obtain ⟨x, r'⟩ := keep_new (t := .fz) (a := s.heap.objs.size) (h' := s.heap.push { cls := .type "dict", data := .dict #[] }) r (fun b o e => Heap.get?_push_of_some _ e) (size_none _) (Heap.get?_push_size _ rfl)
 refine K _ _ _ _ x r' (.dict (vs := []) upd_self ?_ (List.forall_mem_nil _) rfl (dict_nil (Heap.get?_push_size _ rfl)) .nil)
 obtain ⟨o, ho⟩ := S.sysm
 exact beq_eq_false_iff_ne.mpr (Nat.ne_of_gt (Heap.lt_size (r.base _ _ ho).1))
theorem max_ok {v w : Value} {i j : Int} {Q : Value → Shared → Prop} {E : Value → Shared → Prop} (hh : A.handled = none) (r : RG g own σ s.heap) (y : At g s.heap own v (.int i)) (z : At g s.heap own w (.int j))
  (K : ∀ v h' tk' own', Ext own own' s.heap h' → RG g own' σ h' → At g h' own' v (.int (if j > i then j else i)) → Q v { s with heap := h', toks := tk' }) : wpAny (model g.prog g.w) A (call (.builtin "max") [v, w] []) Q E s :=
 y.int_e λt => z.int_e λu => max_two_ints hh λh3 tk3 hk =>
  K (if j > i then .int j u else .int i t) h3 tk3 own ⟨λ_ _ _ => rfl, λb o e _ => hk b o e, λb o e => ⟨o, hk b o e⟩⟩ (r.keepAll ⟨λ_ _ _ => rfl, λb o e _ => hk b o e, λb o e => ⟨o, hk b o e⟩⟩ hk (λa ha => let ⟨o, e⟩ := r.lt a ha; ⟨o, hk _ _ e⟩) λ_ _ => rfl) (by split <;> exact .int _ _)
theorem lenO_ok {x : Nat} {v : Value} {ks : List Nat} {ds : List D} {Q : Value → Shared → Prop} {E : Value → Shared → Prop} (S : St g) (r : RG g own σ s.heap) (hv : LAt g s.heap own x v (.od ks ds)) (hlen : ks.length ≤ 1000) (K : ∀ tk t, Q (.int ks.length t) { s with toks := tk }) :
  wpAny (model g.prog g.w) A (call (.builtin "len") [v] []) Q E s := by
 obtain ⟨a, vs, rfl, ta, k1, k2, hd, hat⟩ := hv
 have hne : (a == sysModules) = false := by
  refine beq_eq_false_iff_ne.mpr λq => ?_
  obtain ⟨o, ho⟩ := S.sysm
  have := (r.base _ _ ho).2
  rw [<- q, ta] at this; cases this
 have hlz : ((ks.map sN).zip vs).length = ks.length := by simp [k2]
 refine call_len_dict hne hd (by rw [hlz]; lia) ?_
 rw [hlz]
 exact K _ _
theorem ev_step (S : St g) (hc : COk g C k) (ca : CA A k) (ihe : EvOk g C k A n) (ihb : EvB g C k A n) : EvOk g C k A (n + 1) := by
 intro l σ x d σ' sc e env own s he hi hs r
 have hu : A.units + 300 < cLine := by have := ca.un; lia
 revert he hs
 have hi := hi.out
 induction hi using IsE1.casesOn with
 | var hd => intro he hs; exact i_var he λd q => gives_var r q hd
 | none => intro he hs; exact i_cst he λQ E K => PyProof.Rows.Constant_none (K _ _ _ _ (Ext.refl _ _) r.toRG .none)
 | bool => intro he hs; exact i_cst he λQ E K => PyProof.Rows.Constant_bool (K _ _ _ _ (Ext.refl _ _) r.toRG (.bool _))
 | int => intro he hs; exact i_cst he λQ E K => wpAny_Constant_int (K _ _ _ _ (Ext.refl _ _) r.toRG (.int _ _))
 | str h0 => intro he hs; exact i_cst he λQ E K => Calls.Constant_str (K _ _ _ _ (Ext.refl _ _) r.toRG (.str h0 rfl _))
 | tup h1 => intro he hs; exact i_tup he fun ds σ₁ e1 hl Q E K => PyProof.Rows.Tuple_ (ev_list (xs := []) (es := []) (ds := []) ihe _ hs _ _ _ _ _ _ _ e1 h1 r _ _ fun vs h' tk' own' x' r' y =>
    new_tuple (s := { s with heap := h', toks := tk' }) r' y (Nat.le_trans hl (by decide)) _ _ λv h'' tk'' own'' x'' r'' y'' => K _ _ _ _ (x'.trans x'') r'' y'')
 | lst h1 => intro he hs; exact i_lst he fun ds σ₁ e1 hl Q E K => PyProof.Rows.List_ (ev_list (xs := []) (es := []) (ds := []) ihe _ hs _ _ _ _ _ _ _ e1 h1 r _ _ fun vs h' tk' own' x' r' y =>
    new_list (s := { s with heap := h', toks := tk' }) r' y (Nat.le_trans hl (by decide)) _ _ λv h'' tk'' own'' x'' r'' y'' => K _ _ _ _ (x'.trans x'') r'' y'')
 | emp => intro he hs; exact i_emp he λQ E K => wpAny_Dict_empty (emp_new S r.toRG K)
 | idx hsl h1 h2 => intro he hs; exact i_idx he fun d1 σ₁ d2 σ₂ rr e1 e2 e3 Q E K => PyProof.Rows.Subscript_ (two (ihe _ _ _ _ _ _ _ _ _ _ e1 h1 hs r) (fun h' tk' own' x' r' => ihe _ _ _ _ _ _ _ _ _ _ e2 h2 hs (r.ext x' r')) fun v w h' tk' own' x' r' y z =>
   item_ok (s := { s with heap := h', toks := tk' }) e3 r' y z hsl _ _ λv h'' tk'' own'' x'' r'' y'' => K _ _ _ _ (x'.trans x'') r'' y'')
 | rev h1 => intro he hs; exact i_rev he fun ds σ₁ e1 hl Q E K => PyProof.Rows.Subscript_ (ihe _ _ _ _ _ _ _ _ _ _ e1 h1 hs r _ _ fun v h' tk' own' x' r' y => wpAny_Slice (by
    rw [evalPart_none, evalPart_some]
    exact wpAny_pure (wpAny_pure (PyProof.Rows.UnaryOp_ (wpAny_Constant_int (PyProof.Rows.neg_int (rev_ok (s := { s with heap := h', toks := tk' + 1 + 1 }) r' y (.int _ _) hl (λ_ _ => ⟨_, rfl⟩) λv h'' tk'' own'' x'' r'' y'' => K _ _ _ _ (x'.trans x'') r'' y'')))))))
 | upto h1 h2 =>
  intro he hs
  refine i_upto he (λds i σ₁ σ₂ e1 e2 hl Q E K => ?_) λds i σ₁ σ₂ e1 e2 hl Q E K => ?_
  ·refine PyProof.Rows.Subscript_ (ihe _ _ _ _ _ _ _ _ _ _ e1 h1 hs r _ _ λv h' tk' own' x' r' y => wpAny_Slice ?_)
   rw [evalPart_none, evalPart_some]
   exact wpAny_pure (ihe _ _ _ _ _ _ _ _ _ _ e2 h2 hs (r.ext x' r') _ _ λw h'' tk'' own'' x'' r'' z => wpAny_pure (upto_ok (s := { s with heap := h'', toks := tk'' }) (s' := s) trivial r'' (At.mono (x''.le r') y) z hl λv h3 tk3 own3 x3 r3 y3 => K _ _ _ _ ((x'.trans x'').trans x3) r3 y3))
  ·refine PyProof.Rows.Subscript_ (ihe _ _ _ _ _ _ _ _ _ _ e1 h1 hs r _ _ λv h' tk' own' x' r' y => wpAny_Slice ?_)
   rw [evalPart_none, evalPart_some]
   exact wpAny_pure (ihe _ _ _ _ _ _ _ _ _ _ e2 h2 hs (r.ext x' r') _ _ λw h'' tk'' own'' x'' r'' z => wpAny_pure (uptoL_ok (s := { s with heap := h'', toks := tk'' }) r'' (At.mono (x''.le r') y) z hl λv h3 tk3 own3 x3 r3 y3 => K _ _ _ _ ((x'.trans x'').trans x3) r3 y3))
 | cmp hm h1 h2 => intro he hs; exact i_cmp he fun d1 σ₁ d2 σ₂ rr e1 e2 e3 Q E K => wpAny_Compare1 (two (ihe _ _ _ _ _ _ _ _ _ _ e1 h1 hs r) (fun h' tk' own' x' r' => ihe _ _ _ _ _ _ _ _ _ _ e2 h2 hs (r.ext x' r')) fun v w h' tk' own' x' r' y z =>
   cmp_ok (s := { s with heap := h', toks := tk' }) e3 y z hu (K _ _ _ _ x' r' (.bool _))) hm
 | and b1 b2 h1 h2 =>
  intro he hs
  refine i_and he (λσ₁ e1 e2 Q E K => ?_) λσ₁ e1 Q E K => ?_
  ·exact PyProof.Rows.BoolOp_and (ihe _ _ _ _ _ _ _ _ _ _ e1 h1 hs r _ _ λv h' tk' own' x' r' y => y.bool_e (wpAny_truthy_bool (PyProof.Rows.BoolOp_one (ihe _ _ _ _ _ _ _ _ _ _ e2 h2 hs (r.ext x' r') _ _ λv h'' tk'' own'' x'' r'' y'' => K _ _ _ _ (x'.trans x'') r'' y''))))
  ·exact PyProof.Rows.BoolOp_and (ihe _ _ _ _ _ _ _ _ _ _ e1 h1 hs r _ _ λv h' tk' own' x' r' y => y.bool_e (wpAny_truthy_bool (K _ _ _ _ x' r' (.bool _))))
 | or b1 b2 h1 h2 =>
  intro he hs
  refine i_or he (λσ₁ e1 e2 Q E K => ?_) λσ₁ e1 Q E K => ?_
  ·exact PyProof.Rows.BoolOp_or (ihe _ _ _ _ _ _ _ _ _ _ e1 h1 hs r _ _ λv h' tk' own' x' r' y => y.bool_e (wpAny_truthy_bool (PyProof.Rows.BoolOp_one (ihe _ _ _ _ _ _ _ _ _ _ e2 h2 hs (r.ext x' r') _ _ λv h'' tk'' own'' x'' r'' y'' => K _ _ _ _ (x'.trans x'') r'' y''))))
  ·exact PyProof.Rows.BoolOp_or (ihe _ _ _ _ _ _ _ _ _ _ e1 h1 hs r _ _ λv h' tk' own' x' r' y => y.bool_e (wpAny_truthy_bool (K _ _ _ _ x' r' (.bool _))))
 | not b1 h1 => intro he hs; exact i_not he λb σ₁ e1 Q E K => PyProof.Rows.UnaryOp_ (ihe _ _ _ _ _ _ _ _ _ _ e1 h1 hs r _ _ λv h' tk' own' x' r' y => y.bool_e (PyProof.Rows.not_of (wpAny_truthy_bool (K _ _ _ _ x' r' (.bool _)))))
 | ite b1 h1 h2 h3 =>
  intro he hs
  refine i_ite he (λσ₁ e1 e2 Q E K => ?_) λσ₁ e1 e2 Q E K => ?_
  ·exact PyProof.Rows.IfExp_ (ihb _ _ _ _ _ _ _ _ _ _ e1 b1 h1 hs r _ _ λh' tk' own' x' r' => ihe _ _ _ _ _ _ _ _ _ _ e2 h2 hs (r.ext x' r') _ _ λv h'' tk'' own'' x'' r'' y'' => K _ _ _ _ (x'.trans x'') r'' y'')
  ·exact PyProof.Rows.IfExp_ (ihb _ _ _ _ _ _ _ _ _ _ e1 b1 h1 hs r _ _ λh' tk' own' x' r' => ihe _ _ _ _ _ _ _ _ _ _ e2 h3 hs (r.ext x' r') _ _ λv h'' tk'' own'' x'' r'' y'' => K _ _ _ _ (x'.trans x'') r'' y'')
 | bin h1 h2 =>
  intro he hs
  refine i_bin he (λi j rr σ₁ σ₂ e1 e2 e3 Q E K => ?_) λds es σ₁ σ₂ q e1 e2 hl Q E K => ?_
  ·exact wpAny_BinOp (two (ihe _ _ _ _ _ _ _ _ _ _ e1 h1 hs r) (λh' tk' own' x' r' => ihe _ _ _ _ _ _ _ _ _ _ e2 h2 hs (r.ext x' r')) λv w h' tk' own' x' r' y z => y.int_e λt => z.int_e λu => bin_ok (s := { s with heap := h', toks := tk' }) e3 λtk tk' => K _ _ _ _ x' r' (.int _ _))
  ·exact q ▸ wpAny_BinOp (two (ihe _ _ _ _ _ _ _ _ _ _ e1 h1 hs r) (λh' tk' own' x' r' => ihe _ _ _ _ _ _ _ _ _ _ e2 h2 hs (r.ext x' r')) λv w h' tk' own' x' r' y z => add_ok (s := { s with heap := h', toks := tk' }) r' y z hl _ _ λv h'' tk'' own'' x'' r'' y'' => K _ _ _ _ (x'.trans x'') r'' y'')
 | neg h1 => intro he hs; exact i_neg he λi σ₁ e1 Q E K => PyProof.Rows.UnaryOp_ (ihe _ _ _ _ _ _ _ _ _ _ e1 h1 hs r _ _ λv h' tk' own' x' r' y => y.int_e λt => PyProof.Rows.neg_int (K _ _ _ _ x' r' (.int _ _)))
 | call hf hg hce h1 =>
  intro he hs
  rename_i f xs es p q
  refine i_call he λds σ₁ e1 he Q E K => PyProof.Rows.Call_ (gname S r hs hg (fN_dbg f hf) (S.fn f hf) (callWith_of (P := g.K.In) (by rw [plainArgs h1]; rfl) (keeps_K (S.keepF f hf)) ?_)) (hce env)
  exact call_args (xs := []) (plainArgs h1 q env) (ev_list (xs := []) (es := []) (ds := []) ihe q hs _ _ _ _ _ _ _ e1 h1 r) λvs h' tk' own' x' r' y =>
   ⟨r'.kin S, hc.fn A own' { s with heap := h', toks := tk' } f vs ds σ₁ d σ' hf ca r' y he _ _ λv h'' tk'' own'' x'' r'' y'' => K _ _ _ _ (x'.trans x'') r'' y''⟩
 | clo hd hce hst h1 =>
  intro he hs
  rename_i v x e p q
  refine i_clo he λa σ₁ j dc e1 hl he Q E K => PyProof.Rows.Call_ (lname r hl (by intro z; cases z) hd λfv hv => ?_) (hce env)
  have hv' : At g s.heap own fv (.clo j dc) := hv
  have y' : ∀ {h' own'} (x' : Ext own own' s.heap h'), At g h' own' fv (.clo j dc) := λx' => At.mono (x'.le r.toRG) hv'
  have hb : backTo q (starEach [e] env) = [(false, eval e env)] := by rw [hst]; rfl
  rw [hb]
  clear hb
  revert y'
  refine hv'.clo_e λfa c fo oc fd w f1 h1' hdat _ _ _ _ _ _ y' => ?_
  exact callWith_function (o := fo) (fd := fd) (evalArgs_plain (spliced_cons (ihe _ _ _ _ _ _ _ _ _ _ e1 h1 hs r _ _ λw h' tk' own' x' r' y => spliced_nil ⟨⟨x'.objs _ _ h1' (by rw [f1]; rfl), hdat⟩,
   hc.cl A own' { s with heap := h', toks := tk' } j (.ref fa) w dc a σ₁ d σ' ca r' (y' x') y he _ _ λv h'' tk'' own'' x'' r'' y'' => K _ _ _ _ (x'.trans x'') r'' y''⟩)))
 | len hg hce hst h1 => intro he hs; exact i_len he λd1 σ₁ ds e1 e2 hl Q E K => call1 S ihe hs r hce hst h1 hg (by decide) S.b_len (.inl ⟨_, rfl⟩) e1 λw h' tk' own' x' r' y => len_ok (s := { s with heap := h', toks := tk' }) y e2 hl λt tk => K _ _ _ _ x' r' (.int _ _)
 | tuple hg hce hst h1 => intro he hs; exact i_tuple he λd1 σ₁ ds e1 e2 hl Q E K => call1 S ihe hs r hce hst h1 hg (by decide) S.b_tuple (.inr ⟨_, rfl⟩) e1 λw h' tk' own' x' r' y => tuple_ok (s := { s with heap := h', toks := tk' }) r' y e2 hl _ _ λv h'' tk'' own'' x'' r'' y'' => K _ _ _ _ (x'.trans x'') r'' y''
 | list hg hce hst h1 => intro he hs; exact i_list he λds σ₁ e1 hl Q E K => call1 S ihe hs r hce hst h1 hg (by decide) S.b_list (.inr ⟨_, rfl⟩) e1 λw h' tk' own' x' r' y => list_ok (s := { s with heap := h', toks := tk' }) r' y hl _ _ λv h'' tk'' own'' x'' r'' y'' => K _ _ _ _ (x'.trans x'') r'' y''
 | rng hg hce hst h1 => intro he hs; exact i_rng he λi σ₁ e1 hl Q E K => call1 S ihe hs r hce hst h1 hg (by decide) S.b_range (.inr ⟨_, rfl⟩) e1 λw h' tk' own' x' r' y => rng_ok (s := { s with heap := h', toks := tk' }) r' y hl.1 _ _ λv h'' tk'' own'' x'' r'' y'' => K _ _ _ _ (x'.trans x'') r'' y''
 | dzip g1 g2 c1 s1 c2 s2 h1 h2 =>
  intro he hs
  rename_i x y a b p q r0 t
  refine i_dzip he λks ds js σ₁ σ₂ e1 e2 e3 hc2 Q E K => PyProof.Rows.Call_ (bname S r hs g1 (by decide) S.b_dict ?_) (c1 env)
  rw [s1]
  refine PyProof.Rows.callWith_type rfl (evalArgs_plain (spliced_cons (PyProof.Rows.Call_ (bname S r hs g2 (by decide) S.b_zip ?_) (c2 env))))
  rw [s2]
  refine PyProof.Rows.callWith_type rfl (evalArgs_plain (spliced_cons (ihe _ _ _ _ _ _ _ _ _ _ e1 h1 hs r _ _ λv h' tk' own' x' r' y1 => spliced_cons (ihe _ _ _ _ _ _ _ _ own' { s with heap := h', toks := tk' } e2 h2 hs (r.ext x' r') _ _ λw h'' tk'' own'' x'' r'' y2 => spliced_nil ?_))))
  exact wpAny_mono (dzip_ok (s := { s with heap := h'', toks := tk'' }) ca.hd S.sysm r'' (At.mono (x''.le r') y1) y2 e3 hc2.1 hc2.2.1 hc2.2.2 λv h3 tk3 own3 x3 r3 y3 => K v h3 tk3 own3 ((x'.trans x'').trans x3) r3 y3) (λzv s3 h3 => spliced_nil h3) λ_ _ h => h
 | max2 g1 c1 s1 h1 h2 =>
  intro he hs
  rename_i x y a b p q
  refine i_max2 he λi j σ₁ σ₂ e1 e2 Q E K => PyProof.Rows.Call_ (bname S r hs g1 (by decide) S.b_max ?_) (c1 env)
  rw [s1]
  refine Calls.callWith_builtin rfl (evalArgs_plain (spliced_cons (ihe _ _ _ _ _ _ _ _ _ _ e1 h1 hs r _ _ λv h' tk' own' x' r' y1 => spliced_cons (ihe _ _ _ _ _ _ _ _ own' { s with heap := h', toks := tk' } e2 h2 hs (r.ext x' r') _ _ λw h'' tk'' own'' x'' r'' y2 => spliced_nil ?_))))
  exact max_ok (s := { s with heap := h'', toks := tk'' }) ca.hd r'' (At.mono (x''.le r') y1) y2 λv h3 tk3 own3 x3 r3 y3 => K v h3 tk3 own3 ((x'.trans x'').trans x3) r3 y3
 | b2i hg hce hst h1 => intro he hs; exact i_b2i he λb σ₁ e1 Q E K => call1 S ihe hs r hce hst h1 hg (by decide) S.b_int (.inr ⟨_, rfl⟩) e1 λw h' tk' own' x' r' y => y.bool_e (call_int_bool (s := { s with heap := h', toks := tk' }) (K _ _ _ _ x' r' (.int _ _)))
 | srcl h1 =>
  intro he hs
  refine i_srcl he λds σ₁ e1 hl Q E K => PyProof.Rows.List_ (ev_list (xs := []) (es := []) (ds := []) ihe _ hs _ _ _ _ _ _ _ e1 h1 r _ _ λvs h' tk' own' x' r' y => ?_)
  refine wpAny_newObj_type ?_ (show vs.toArray.size <= sizeLine from by rw [List.size_toArray, y.length]; exact Nat.le_trans hl.1 (by decide))
  obtain ⟨r2, x2⟩ := r'.newsrc (Option.isNone_iff_eq_none.mp hl.2) y
  exact K _ _ _ _ (x'.trans x2) r2 (At.src upd_self)
 | lenO hd hg hce hst =>
  intro he hs
  rename_i y p q t
  refine i_lenO he λks ds hl hlen Q E K => PyProof.Rows.Call_ (bname S r hs hg (by decide) S.b_len ?_) (hce env)
  rw [hst]
  exact Calls.callWith_builtin rfl (evalArgs_plain (spliced_cons (lname r hl (by intro z; cases z) hd λv hv => spliced_nil (lenO_ok S r.toRG hv hlen λtk t => K _ _ _ _ (Ext.refl _ _) r.toRG (.int _ t)))))
 | glob hg => intro he hs; exact i_glob he (let ⟨t, ht⟩ := S.most; λQ E K => gname S r hs hg (by decide) ht (K _ _ _ _ (Ext.refl _ _) r.toRG (.int _ _)))
 | get hb hfew hline htr h1 h2 h3 => intro he hs; exact i_get he fun ks ds j d3 σ₁ σ₂ σ₃ e1 e2 e3 Q E K => wpAny_Call_method_late (hb env) (hfew env) hline (htr env) (ihe _ _ _ _ _ _ _ _ _ _ e1 h1 hs r _ _ fun v h' tk' own' x' r' y =>
   get_ok (s := { s with heap := h', toks := tk' }) r' y (ihe _ _ _ _ _ _ _ _ _ _ e2 h2 hs (r.ext x' r')) (λh'' tk'' own'' x'' r'' => ihe _ _ _ _ _ _ _ _ _ _ e3 h3 hs ((r.ext x' r').ext x'' r'')) λv h'' tk'' own'' x'' r'' y'' => K _ _ _ _ (x'.trans x'') r'' y'')
 | attr heq h1 => intro he hs; exact i_attr he λc ks ds d2 σ₁ e1 e2 Q E K => PyProof.Rows.Attribute_any_ (ihe _ _ _ _ _ _ _ _ _ _ e1 h1 hs r _ _ λv h' tk' own' x' r' y => attr_ok (s := { s with heap := h', toks := tk' }) S r' y e2 λv tk y => K _ _ _ _ x' r' y) (heq env)
 | comp0 hcc ht hf h1 h2 => intro he hs; exact comp_all (c := .glob) (cond := .none) (ifs := []) ca.hd ihe ihb hs r hcc ht hf h1 h2 trivial (λc ce q => by cases q) he
 | comp1 hcc ht hf h1 h2 hb h3 => intro he hs; exact comp_all (c := .glob) (cond := some _) (ifs := [_]) ca.hd ihe ihb hs r hcc ht hf h1 h2 trivial (λc ce q q2 => by cases q; cases q2; exact ⟨hb, h3⟩) he
 | inn hd h1 =>
  intro he hs
  rename_i neg x1 y1 a1 p1 q1
  exact i_inn he λd1 σ₁ ds e1 hl k1 k2 Q E K => wpAny_Compare1 (inn_run ihe hs r e1 h1 hl hd k1 k2 hu λh' tk' own' x' r' => K _ _ _ _ x' r' (.bool _)) (by cases neg <;> rfl)
 | nem hd => intro he hs; exact i_nem he λds hl Q E K => wpAny_Compare1 (nem_run r hl hd hu λh' tk' own' x' r' => K _ _ _ _ x' r' (.bool _)) rfl
 | ext hx htr => intro he hs; exact i_ext he λds e1 he => hc.ex A own s _ _ _ env l _ ds σ d σ' hx ca hs r e1 he
def GB (g : Gh) (A : Around) (own : Addr -> Tag) (s : Shared) (t : Sem Bool) (d : D) (σ' : Sg) : Prop := ∀ b, d = .bool b -> GivesB g A own s t b σ'
theorem bI {t : Sem Bool} {r : Bool} (k : GivesB g A own s t r σ') : GB g A own s t (.bool r) σ' := λb q => D.bool.inj q ▸ k
theorem evB_step (S : St g) (hc : COk g C k) (ca : CA A k) (ihe : EvOk g C k A n) (ihb : EvB g C k A n) : EvB g C k A (n + 1) := by
 intro l σ x b σ' sc e env own s he hx hi hs r
 have hu : A.units + 300 < cLine := by have := ca.un; lia
 suffices h : GB g A own s (isTrue e env (eval e env)) (.bool b) σ' from h b rfl
 revert he
 generalize D.bool b = d
 intro he
 have plain : ∀ {sc x e}, ScOf sc env -> IsE g sc x e -> ev C (n + 1) l σ x = some (d, σ') -> trueEq e -> GB g A own s (isTrue e env (eval e env)) d σ' := λhs hi he hp b q Q E K =>
  PyProof.Rows.isTrue_plain (ev_step S hc ca ihe ihb _ _ _ _ _ _ _ _ _ _ (q ▸ he) hi hs r _ _ λv h' tk' own' x' r' y => y.bool_e (wpAny_truthy_bool (K _ _ _ x' r'))) (hp env _)
 revert he hx hs
 have hi := hi.out
 induction hi using IsE1.casesOn with
 | cmp hm h1 h2 => intro hx hs he; exact i_cmp he fun d1 σ₁ d2 σ₂ rr e1 e2 e3 => bI fun Q E K => wpAny_isTrue_Compare1 (two (ihe _ _ _ _ _ _ _ _ _ _ e1 h1 hs r) (fun h' tk' own' x' r' => ihe _ _ _ _ _ _ _ _ _ _ e2 h2 hs (r.ext x' r')) fun v w h' tk' own' x' r' y z =>
   cmp_ok (s := { s with heap := h', toks := tk' }) e3 y z hu (wpAny_truthy_bool (K _ _ _ x' r'))) hm
 | and b1 b2 h1 h2 =>
  intro hx hs he
  refine i_and he (λσ₁ e1 e2 b q Q E K => ?_) λσ₁ e1 => bI λQ E K => ?_
  ·exact PyProof.Rows.isTrue_and (ihb _ _ _ _ _ _ _ _ _ _ e1 b1 h1 hs r _ _ fun h' tk' own' x' r' => PyProof.Rows.isTrue_and (ihb _ _ _ _ _ _ _ _ _ _ (q ▸ e2) b2 h2 hs (r.ext x' r') _ _ fun h'' tk'' own'' x'' r'' => by
    have k := K _ tk'' _ (x'.trans x'') r''
    cases b
    ·exact k
    ·exact PyProof.Rows.isTrue_and_nil k))
  ·exact PyProof.Rows.isTrue_and (ihb _ _ _ _ _ _ _ _ _ _ e1 b1 h1 hs r _ _ λh' tk' own' x' r' => K _ _ _ x' r')
 | or b1 b2 h1 h2 =>
  intro hx hs he
  refine i_or he (λσ₁ e1 e2 b q Q E K => ?_) λσ₁ e1 => bI λQ E K => ?_
  ·exact PyProof.Rows.isTrue_or (ihb _ _ _ _ _ _ _ _ _ _ e1 b1 h1 hs r _ _ fun h' tk' own' x' r' => PyProof.Rows.isTrue_or (ihb _ _ _ _ _ _ _ _ _ _ (q ▸ e2) b2 h2 hs (r.ext x' r') _ _ fun h'' tk'' own'' x'' r'' => by
    have k := K _ tk'' _ (x'.trans x'') r''
    cases b
    ·exact PyProof.Rows.isTrue_or_nil k
    ·exact k))
  ·exact PyProof.Rows.isTrue_or (ihb _ _ _ _ _ _ _ _ _ _ e1 b1 h1 hs r _ _ λh' tk' own' x' r' => K _ _ _ x' r')
 | not b1 h1 => intro hx hs he; exact i_not he λb σ₁ e1 => bI λQ E K => PyProof.Rows.isTrue_not (ihb _ _ _ _ _ _ _ _ _ _ e1 b1 h1 hs r _ _ λh' tk' own' x' r' => K _ _ _ x' r')
 | inn hd h1 =>
  intro hx hs he
  rename_i neg x1 y1 a1 p1 q1
  exact i_inn he λd1 σ₁ ds e1 hl k1 k2 => bI λQ E K => wpAny_isTrue_Compare1 (inn_run ihe hs r e1 h1 hl hd k1 k2 hu λh' tk' own' x' r' => wpAny_truthy_bool (K _ _ _ x' r')) (by cases neg <;> rfl)
 | nem hd => intro hx hs he; exact i_nem he λds hl => bI λQ E K => wpAny_isTrue_Compare1 (nem_run r hl hd hu λh' tk' own' x' r' => wpAny_truthy_bool (K _ _ _ x' r')) rfl
 | call hf hg hce h1 => intro hx hs he; exact plain hs (.mk (.call hf hg hce h1)) he λ_ _ => rfl
 | ext hx' htr => intro hx hs he; exact plain hs (.mk (.ext hx' htr)) he htr
 | _ => intro hx hs he; exact nomatch hx
theorem ev_ok (S : St g) (hc : COk g C k) (ca : CA A k) : ∀ n, EvOk g C k A n /\ EvB g C k A n
 | 0 => ⟨(λl σ x d σ' sc e env own s he => nomatch he), (λl σ x d σ' sc e env own s he => nomatch he)⟩
 | n + 1 => let ⟨a, b⟩ := ev_ok S hc ca n; ⟨ev_step S hc ca a b, evB_step S hc ca a b⟩
end
inductive RH where
 | v (e : X) | l (es : List X) | d | p (y : Nat)
inductive S where
 | asg (ts : List Nat) (rs : List RH)
 | app (y : Nat) (e : X) | ext (y : Nat) (e : X)
 | ife (t : X) (a b : List S)
 | whl (t : X) (b : List S)
 | fore (ts : List Nat) (e : X) (b : List S)
 | foro (x y : Nat) (b : List S)
 | ret (e : X) | reto (y : Nat)
 | srci (i : Nat) (e : X)
 | acc (x : Nat) (es : List X)
 | exp (e : X)
 | seti (y : Nat) (k e : X)
 | frz (y : Nat)
 | setw (o k e : X)
 | asgc (x : Nat) (e : X)
 | sx (j : Nat)
 | dead
inductive Out where
 | next | ret (d : D)
noncomputable def evN : Nat := 14
noncomputable def setL (l : Loc) (x : Nat) (lv : LV) : Loc := l.map λp => if p.1 = x then (x, lv) else p
noncomputable def setLs (l : Loc) : List Nat -> List LV -> Loc
 | x :: xs, v :: vs => setLs (setL l x v) xs vs
 | _, _ => l
noncomputable def hasL (l : Loc) (x : Nat) : Bool := match l.lookup x with | some lv => notFv lv | none => false
theorem all1 {l : Loc} {x : Nat} (hx : hasL l x = true) : ([x] : List Nat).all (hasL l) = true := (Bool.and_true _).trans hx
theorem all2 {l : Loc} {x y : Nat} (hx : hasL l x = true) (hy : hasL l y = true) : ([x, y] : List Nat).all (hasL l) = true := (Bool.and_eq_true _ _).mpr ⟨hx, all1 hy⟩
noncomputable def rh (C : Calls) (ts : List Nat) (l : Loc) (σ : Sg) : RH -> Option (LV × Loc × Sg)
 | .v e => (ev C evN l σ e).bind λp => some (.val p.1, l, p.2)
 | .l es => (evs (ev C evN l) σ es).bind λp => if p.1.length <= 100 then some (.ow p.1, l, p.2) else none
 | .d => some (.od [] [], l, σ)
 | .p y => match l.lookup y with
  | some (.ow ds) => if ts.contains y then none else match ds.getLast? with
   | some d => if ds.length <= maxLen then some (.val d, setL l y (.ow ds.dropLast), σ) else none
   | none => none
  | _ => none
noncomputable def rhs (C : Calls) : List Nat -> Loc -> Sg -> List Nat -> List RH -> Option (List LV × Loc × Sg)
 | _, l, σ, [], [] => some ([], l, σ)
 | ts, l, σ, _ :: xs, r :: rs => (rh C ts l σ r).bind λp => (rhs C ts p.2.1 p.2.2 xs rs).bind λq => some (p.1 :: q.1, q.2)
 | _, _, _, _, _ => none
noncomputable def fors (f : Loc -> Sg -> Option (Out × Loc × Sg)) (ts : List Nat) : List D -> Loc -> Sg -> Option (Out × Loc × Sg)
 | [], l, σ => some (.next, l, σ)
 | d :: ds, l, σ => (bindT ts d).bind λb => if ts.all (hasL l) then (f (setLs l (b.map (·.1)) (b.map (·.2))) σ).bind λp => match p.1 with
  | .next => fors f ts ds p.2.1 p.2.2
  | .ret d => some (.ret d, p.2)
  else none
noncomputable def foros (f : Loc -> Sg -> Option (Out × Loc × Sg)) (x : Nat) : Nat -> Nat -> Loc -> Sg -> Option (Out × Loc × Sg)
 | 0, _, _, _ => none
 | n + 1, i, l, σ => match σ.ac with
  | some ds => match ds[i]? with
   | none => some (.next, l, σ)
   | some d => if hasL l x then (f (setL l x (.val d)) σ).bind λp => match p.1 with
    | .next => foros f x n (i + 1) p.2.1 p.2.2
    | .ret d => some (.ret d, p.2)
    else none
  | none => none
noncomputable def putD (ks : List Nat) (ds : List D) (j : Nat) (d : D) : List Nat × List D := if ks.contains j then (ks, (ks.zip ds).map λp => if p.1 = j then d else p.2) else (ks ++ [j], ds ++ [d])
noncomputable def xs (C : Calls) (sx : Nat -> Loc -> Sg -> Option (Loc × Sg)) : Nat -> Loc -> Sg -> List S -> Option (Out × Loc × Sg)
 | 0, _, _, _ => none
 | n + 1, l, σ, ss => match ss with
  | [] => some (.next, l, σ)
  | .asg ts rs :: rest => if ts.all (hasL l) then (rhs C ts l σ ts rs).bind λp => xs C sx n (setLs p.2.1 ts p.1) p.2.2 rest else none
  | .app y e :: rest => (ev C evN l σ e).bind λp => match l.lookup y with
   | some (.ow ds) => if ds.length <= maxLen then xs C sx n (setL l y (.ow (ds ++ [p.1]))) p.2 rest else none
   | some (.val .acc) => match p.2.ac with
    | some ds => if ds.length <= maxLen then xs C sx n l { p.2 with ac := some (ds ++ [p.1]) } rest else none
    | none => none
   | _ => none
  | .ext y e :: rest => (ev C evN l σ e).bind λp => match l.lookup y with
   | some (.ow ds) => (seqD p.1).bind λes => if ds.length + es.length <= maxLen then xs C sx n (setL l y (.ow (ds ++ es))) p.2 rest else none
   | _ => none
  | .ife t a b :: rest => (ev C evN l σ t).bind λp => match p.1 with
   | .bool c => (xs C sx n l p.2 (if c then a else b)).bind λq => match q.1 with
    | .next => xs C sx n q.2.1 q.2.2 rest
    | .ret d => some (.ret d, q.2)
   | _ => none
  | .whl t b :: rest => (ev C evN l σ t).bind λp => match p.1 with
   | .bool true => (xs C sx n l p.2 b).bind λq => match q.1 with
    | .next => xs C sx n q.2.1 q.2.2 (.whl t b :: rest)
    | .ret d => some (.ret d, q.2)
   | .bool false => xs C sx n l p.2 rest
   | _ => none
  | .fore ts e b :: rest => (ev C evN l σ e).bind fun p => (itD p.1).bind fun ds => if ds.length ≤ maxLen then (fors (fun l σ => xs C sx n l σ b) ts ds l p.2).bind fun q => match q.1 with
    | .next => xs C sx n q.2.1 q.2.2 rest
    | .ret d => some (.ret d, q.2)
   else none
  | .foro x y b :: rest => match l.lookup y with
   | some (.val .acc) => (foros (λl σ => xs C sx n l σ b) x n 0 l σ).bind λq => match q.1 with
    | .next => xs C sx n q.2.1 q.2.2 rest
    | .ret d => some (.ret d, q.2)
   | _ => none
  | .acc x es :: rest => (evs (ev C evN l) σ es).bind λp => if p.1.length <= 100 /\ hasL l x = true /\ p.2.ac.isNone = true then xs C sx n (setL l x (.val .acc)) { p.2 with ac := some p.1 } rest else none
  | .exp e :: rest => (ev C evN l σ e).bind λp => xs C sx n l p.2 rest
  | .ret e :: _ => (ev C evN l σ e).bind λp => some (.ret p.1, l, p.2)
  | .reto y :: _ => match l.lookup y with
   | some (.ow ds) => some (.ret (.list ds), l, σ)
   | some (.val .acc) => σ.ac.bind λds => if sgOk σ && noacs ds then some (.ret (.list ds), l, { σ with ac := none }) else none
   | some (.fv .acc) => σ.ac.bind λds => if sgOk σ && noacs ds then some (.ret (.list ds), l, { σ with ac := none }) else none
   | _ => none
  | .srci i e :: rest => (ev C evN l σ e).bind λp => match l.lookup 27, p.2.src with
   | some (.val .src), some ds => if i < ds.length then xs C sx n l { p.2 with src := some (ds.set i p.1) } rest else none
   | _, _ => none
  | .seti y k e :: rest => (ev C evN l σ e).bind λp => (ev C evN l p.2 k).bind λq => match l.lookup y, q.1 with
   | some (.od ks ds), .str j => if ks.length <= 100 /\ ks.contains j = false then xs C sx n (setL l y (.od (ks ++ [j]) (ds ++ [p.1]))) q.2 rest else none
   | _, _ => none
  | .asgc x e :: rest => if hasL l x then (ev C evN l σ e).bind λp => xs C sx n (setL l x (.val p.1)) p.2 rest else none
  | .setw o k e :: rest => (ev C evN l σ e).bind λp => (ev C evN l p.2 o).bind λq => (ev C evN l q.2 k).bind λr => match q.1, r.1 with
   | .adts, .str j => (match r.2.ad with
    | some (ks, ds) => if ks.length <= 100 /\ ks.length = ds.length then xs C sx n l { r.2 with ad := some (putD ks ds j p.1) } rest else none
    | none => none)
   | .trs, .str j => (match r.2.tr with
    | some (ks, ds) => if ks.length <= 100 /\ ks.length = ds.length then xs C sx n l { r.2 with tr := some (putD ks ds j p.1) } rest else none
    | none => none)
   | _, _ => none
  | .frz y :: rest => match l.lookup y with
   | some (.ow ds) => xs C sx n (setL l y (.val (.list ds))) σ rest
   | some (.od ks ds) => xs C sx n (setL l y (.val (.dict ks ds))) σ rest
   | _ => none
  | .sx j :: rest => (sx j l σ).bind λp => xs C sx n p.1 p.2 rest
  | .dead :: _ => none
noncomputable def mayS : Tag -> Bool
 | .fr => true | .ce _ => true | .ol _ => true | t => may t
noncomputable def soft : Tag -> Bool
 | .ol _ => true | .ce _ => true | _ => false
structure StepS (own own' : Addr -> Tag) (h h' : Heap) : Prop where
 tags : ∀ a o, h.get? a = some o -> own' a = own a \/ soft (own a) = true /\ own' a = .fz
 objs : ∀ a o, h.get? a = some o -> mayS (own a) = false -> h'.get? a = some o
 ex : ∀ a o, h.get? a = some o -> ∃ o', h'.get? a = some o'
section
variable {g : Gh} {A : Around} {own own' own'' : Addr -> Tag} {s : Shared} {σ σ₁ σ₂ σ₃ σ' : Sg} {d e : D} {h h' h'' : Heap} {C : Calls} {k n : Nat} {l : Loc} {sc : Scope} {env : Env}
theorem StepS.refl (own : Addr -> Tag) (h : Heap) : StepS own own h h := ⟨λ_ _ _ => .inl rfl, λ_ _ e _ => e, λ_ o e => ⟨o, e⟩⟩
theorem may_mayS {t : Tag} (h : mayS t = false) : may t = false := by cases t <;> simp_all [may, mayS]
theorem Ext.stepS (x : Ext own own' h h') : StepS own own' h h' := ⟨λa o e => .inl (x.tags a o e), λa o e hm => x.objs a o e (may_mayS hm), x.ex⟩
theorem StepS.trans (x : StepS own own' h h') (y : StepS own' own'' h' h'') : StepS own own'' h h'' := by
 refine ⟨λa o e => ?_, λa o e hm => ?_, λa o e => ?_⟩
 ·obtain ⟨o', e'⟩ := x.ex a o e
  rcases x.tags a o e with q | ⟨q, q2⟩
  ·rcases y.tags a o' e' with r | ⟨r, r2⟩
   ·exact .inl (r.trans q)
   ·exact .inr ⟨q ▸ r, r2⟩
  ·rcases y.tags a o' e' with r | ⟨r, r2⟩
   ·exact .inr ⟨q, r.trans q2⟩
   ·rw [q2] at r; cases r
 ·have e' := x.objs a o e hm
  refine y.objs a o e' ?_
  rcases x.tags a o e with q | ⟨q, q2⟩
  ·rw [q]; exact hm
  ·cases q3 : own a <;> rw [q3] at q hm <;> first | cases q; done | cases hm; done
 ·obtain ⟨o', e'⟩ := x.ex a o e; exact y.ex a o' e'
theorem vN_inj : ∀ {i j : Nat}, i < 48 -> j < 48 -> vN i = vN j -> i = j := by
 have : ∀ i < 48, ∀ j < 48, (vN i == vN j) = (i == j) := by decide +kernel
 intro i j hi hj e
 have := this i hi j hj
 rw [e] at this; simpa using this.symm
theorem vN_dbg : ∀ {i : Nat}, i < 48 → (vN i == ("__debug__" : Str)) = false := by
 have : ∀ i < 48, (vN i == ("__debug__" : Str)) = false := by decide +kernel
 exact λ{i} hi => this i hi
theorem mem_setL {x : Nat} {lv : LV} {p : Nat × LV} (hp : p ∈ setL l x lv) : (p = (x, lv) /\ ∃ q ∈ l, q.1 = x) \/ (p ∈ l /\ p.1 ≠ x) := by
 unfold setL at hp
 obtain ⟨q, hq, e⟩ := List.mem_map.mp hp
 split at e
 ·rename_i hx; exact .inl ⟨e.symm, q, hq, hx⟩
 ·rename_i hx; rw [<- e]; exact .inr ⟨hq, hx⟩
theorem has_mem {x : Nat} (h : hasL l x = true) : ∃ lv, l.lookup x = some lv /\ (x, lv) ∈ l /\ notFv lv = true := by
 unfold hasL at h
 split at h
 ·rename_i lv e; exact ⟨lv, e, lookup_mem e, h⟩
 ·cases h
theorem has_setL {x y : Nat} {lv : LV} (h : hasL l x = true) (hf : notFv lv = true := by rfl) : hasL (setL l y lv) x = true := by
 unfold hasL setL at *
 induction l with
 | nil => simp at h
 | cons q r ih =>
  obtain ⟨j, w⟩ := q
  simp only [List.map_cons]
  by_cases hj : j = y
  ·subst hj
   simp only [if_true]
   by_cases hx : x = j
   ·subst hx; simp only [List.lookup_cons, beq_self_eq_true]; exact hf
   ·have : (x == j) = false := by simp [hx]
    simp only [List.lookup_cons, this] at h ⊢
    exact ih h
  ·rw [if_neg hj]
   by_cases hx : x = j
   ·subst hx; simp only [List.lookup_cons, beq_self_eq_true] at h ⊢; exact h
   ·have : (x == j) = false := by simp [hx]
    simp only [List.lookup_cons, this] at h ⊢
    exact ih h
theorem LAt.keep {i : Nat} {v : Value} {lv : LV} (L : Le h h' own own') (hk : ∀ b o, own b = .ol i -> h.get? b = some o -> h'.get? b = some o /\ own' b = .ol i) : LAt g h own i v lv -> LAt g h' own' i v lv := by
 intro y
 cases lv with
 | un => trivial
 | val d => exact At.mono L y
 | fv d => exact At.mono L y
 | ow ds => obtain ⟨a, vs, e, t, ⟨n, ho⟩, y⟩ := y; exact ⟨a, vs, e, (hk _ _ t ho).2, ⟨n, (hk _ _ t ho).1⟩, AtL.mono L y⟩
 | od ks ds => obtain ⟨a, vs, e, t, k1, k2, ⟨o, es, ep, ho, q⟩, y⟩ := y; exact ⟨a, vs, e, (hk _ _ t ho).2, k1, k2, ⟨o, es, ep, (hk _ _ t ho).1, q⟩, AtL.mono L y⟩
theorem VarAt.keep {i : Nat} {lv : LV} {m m' : Str → Option Value} (L : Le h h' own own') (hm : m' (vN i) = m (vN i)) (hc : ∀ b o, own b = .ce i → h.get? b = some o → h'.get? b = some o ∧ own' b = .ce i)
  (hk : ∀ b o, own b = .ol i -> h.get? b = some o -> h'.get? b = some o /\ own' b = .ol i) : VarAt g h own env m i lv -> VarAt g h' own' env m' i lv
 | .inl ⟨k, y⟩ => .inl ⟨k, y.imp id λ⟨v, e, z⟩ => ⟨v, hm.trans e, z.keep L hk⟩⟩
 | .inr ⟨k, c, v, e, t, ⟨o, ho, hd⟩, y⟩ => .inr ⟨k, c, v, e, t.imp (λt => (hc _ _ t ho).2) (λ⟨t, q⟩ => ⟨L.2.1 _ t, q⟩), ⟨o, t.elim (λt => (hc _ _ t ho).1) (λ⟨t, _⟩ => L.1 _ _ t ho), hd⟩, y.imp id λ⟨w, e, z⟩ => ⟨w, e, z.keep L hk⟩⟩
theorem store_ok {x : Nat} {v : Value} {lv : LV} {Q : Unit → Shared → Prop} {E : Value → Shared → Prop} (r : R g own env l σ s.heap) (hx : hasL l x = true) (y : LAt g s.heap own x v lv) (hfree : env.kindOf (vN x) ≠ some .free)
  (K : ∀ h' tk', R g own env (setL l x lv) σ h' -> StepS own own s.heap h' -> (∀ b o, (own b = .fz \/ ∃ i, own b = .ol i) -> s.heap.get? b = some o -> h'.get? b = some o) -> Q () { s with heap := h', toks := tk' }) :
  wpAny (model g.prog g.w) A (storeName env (vN x) v) Q E s := by
 obtain ⟨rg, kf, gl, bu, m, hn, ht, hv, h48⟩ := r
 obtain ⟨lv0, _, hmem, hnf⟩ := has_mem hx
 have hx48 : x < 48 := h48 _ hmem
 have fin : ∀ (a : Addr) (h' : Heap) (m' : Str -> Option Value) (tk' : Tok), (own a = .fr \/ own a = .ce x) -> Heap.SameBut a s.heap h' -> (∃ o, h'.get? a = some o) -> h'.Ns env.locals m' -> (∀ i, i < 48 -> i ≠ x -> m' (vN i) = m (vN i)) -> VarAt g h' own env m' x lv -> Q () { s with heap := h', toks := tk' } := by
  intro a h' m' tk' ha hs hex hn' hm' hva
  have nothot : hot (own a) = false := by rcases ha with e | e <;> rw [e] <;> rfl
  have kp : ∀ b o, (own b ≠ .fr) -> (own b ≠ .ce x) -> s.heap.get? b = some o -> h'.get? b = some o := λb o n1 n2 e => hs.extBut b o (λq => by rw [q] at n1 n2; rcases ha with e | e; exact n1 e; exact n2 e) e
  have rg' : RG g own σ h' := rg.same hs nothot hex
  have L : Le s.heap h' own own := le_of (λb o e ho => kp b o (by rw [e]; intro z; cases z) (by rw [e]; intro z; cases z) ho) λ_ _ => rfl
  refine K h' tk' ⟨rg', kf, gl, bu, m', hn', ht, λp hp => ?_, λp hp => ?_⟩ ⟨λ_ _ _ => .inl rfl, λb o e hm => kp b o (λq => by rw [q] at hm; cases hm) (λq => by rw [q] at hm; cases hm) e, λb o e => ?_⟩ (λb o hb e => ?_)
  ·rcases mem_setL hp with ⟨rfl, _⟩ | ⟨hpl, hne⟩
   ·exact hva
   ·refine (hv p hpl).keep L (hm' _ (h48 p hpl) hne) (λb o e ho => ⟨kp b o (by rw [e]; intro z; cases z) (by rw [e]; intro z; cases z; exact hne rfl) ho, e⟩) (λb o e ho => ⟨kp b o (by rw [e]; intro z; cases z) (by rw [e]; intro z; cases z) ho, e⟩)
  ·rcases mem_setL hp with ⟨rfl, _⟩ | ⟨hpl, _⟩
   ·exact hx48
   ·exact h48 p hpl
  ·by_cases q : b = a
   ·rw [q]; exact hex
   ·exact ⟨o, hs.extBut b o q e⟩
  ·refine kp b o (λq => ?_) (λq => ?_) e
   ·rcases hb with e | ⟨_, e⟩ <;> rw [q] at e <;> cases e
   ·rcases hb with e | ⟨_, e⟩ <;> rw [q] at e <;> cases e
 have keepL : ∀ (a : Addr) (h' : Heap), (own a = .fr \/ own a = .ce x) -> Heap.SameBut a s.heap h' -> LAt g h' own x v lv := by
  intro a h' ha hs
  have kp : ∀ b o, (own b ≠ .fr) -> (own b ≠ .ce x) -> s.heap.get? b = some o -> h'.get? b = some o := λb o n1 n2 e => hs.extBut b o (λq => by rw [q] at n1 n2; rcases ha with e | e; exact n1 e; exact n2 e) e
  refine y.keep (le_of (λb o e ho => kp b o (by rw [e]; intro z; cases z) (by rw [e]; intro z; cases z) ho) λ_ _ => rfl) λb o e ho => ⟨kp b o (by rw [e]; intro z; cases z) (by rw [e]; intro z; cases z) ho, e⟩
 have hp : (env.scope.kind == .class || (env.scope.kind == .module && env.locals != env.globals)) = false := by rw [kf]; rfl
 rcases hv _ hmem with ⟨hk, _⟩ | ⟨hk, c, v0, hc, htc, hcell, _⟩
 ·refine wpAny_storeName_local hk hn (λh' hn' hs => ?_) hp
  refine fin env.locals h' _ _ (.inl ht) hs (by obtain ⟨o, _, _, e, _⟩ := hn'; exact ⟨o, e⟩) hn' (λi hi ne => ?_) (.inl ⟨hk, .inr ⟨v, by simp, keepL env.locals h' (.inl ht) hs⟩⟩)
  have : vN i ≠ vN x := λe => ne (vN_inj hi hx48 e)
  simp [this]
 ·have htc : own c = .ce x := by
   rcases htc with t | ⟨_, d, e⟩
   ·exact t
   ·have e : lv0 = .fv d := e
    rw [e] at hnf; cases hnf
  rcases hk with hk | hk
  ·refine wpAny_storeName_cell kf hk hc hcell λh' hc' hs => ?_
   obtain ⟨oc, hoc, hcd⟩ := id hc'
   have hne : env.locals ≠ c := λq => by rw [q, htc] at ht; cases ht
   refine fin c h' m _ (.inr htc) hs ⟨oc, hoc⟩ ?_ (λ_ _ _ => rfl) (.inr ⟨.inl hk, c, some v, hc, .inl htc, hc', .inr ⟨v, rfl, keepL c h' (.inr htc) hs⟩⟩)
   obtain ⟨o, es, ep, ho, q⟩ := hn
   exact ⟨o, es, ep, hs.extBut _ _ hne ho, q⟩
  ·exact absurd hk hfree
end
end Mine
end
section
open PySem PySem.W PySem.Calls PyProof.Rows
namespace Mine
noncomputable def thenS (C : Calls) (sx : Nat -> Loc -> Sg -> Option (Loc × Sg)) (n : Nat) (rest : List S) (q : Out × Loc × Sg) : Option (Out × Loc × Sg) := match q.1 with
 | .next => xs C sx n q.2.1 q.2.2 rest
 | .ret d => some (.ret d, q.2)
theorem pE3 {α β γ : Type} {a c : α} {b d : β} {e f : γ} {P : α -> β -> γ -> Prop} (h : some (a, b, e) = some (c, d, f)) (k : P a b e) : P c d f := pE (P := λq => P q.1 q.2.1 q.2.2) h k
section
variable {β : Type} {d e : D} {b : β} {G : Prop} {o : Option LV}
theorem mAcc {x : Option β} (h : (match o with | some (.val .acc) => x | _ => none) = some b) (k : o = some (.val .acc) -> x = some b -> G) : G := by
 cases o with
 | none => exact no h
 | some lv =>
  cases lv with
  | val d => cases d <;> first | exact k rfl h | exact no h
  | _ => exact no h
theorem mReto {f : List D -> Option β} {x y : Option β} (h : (match o with | some (.ow ds) => f ds | some (.val .acc) => x | some (.fv .acc) => y | _ => none) = some b) (k : ∀ ds, o = some (.ow ds) -> f ds = some b -> G) (k1 : o = some (.val .acc) -> x = some b -> G) (k2 : o = some (.fv .acc) -> y = some b -> G) : G := by
 cases o with
 | none => exact no h
 | some lv =>
  cases lv with
  | ow ds => exact k _ rfl h
  | val d => cases d <;> first | exact k1 rfl h | exact no h
  | fv d => cases d <;> first | exact k2 rfl h | exact no h
  | _ => exact no h
theorem mSrc {o' : Option (List D)} {f : List D -> Option β} (h : (match o, o' with | some (.val .src), some ds => f ds | _, _ => none) = some b) (k : ∀ ds, o = some (.val .src) -> o' = some ds -> f ds = some b -> G) : G := by
 cases o with
 | none => exact no h
 | some lv =>
  cases lv with
  | val d => cases d <;> first | (cases o' with | none => exact no h | some ds => exact k _ rfl rfl h) | exact no h
  | _ => exact no h
theorem mOdS {f : List Nat -> List D -> Nat -> Option β} (h : (match o, d with | some (.od ks ds), .str j => f ks ds j | _, _ => none) = some b) (k : ∀ ks ds j, o = some (.od ks ds) -> d = .str j -> f ks ds j = some b -> G) : G := by
 cases o with
 | none => exact no h
 | some lv =>
  cases lv with
  | od ks ds => cases d <;> first | exact k _ _ _ rfl rfl h | exact no h
  | _ => exact no h
theorem mOwOd {f : List D -> Option β} {g : List Nat -> List D -> Option β} (h : (match o with | some (.ow ds) => f ds | some (.od ks ds) => g ks ds | _ => none) = some b) (k : ∀ ds, o = some (.ow ds) -> f ds = some b -> G) (k' : ∀ ks ds, o = some (.od ks ds) -> g ks ds = some b -> G) : G := by
 cases o with
 | none => exact no h
 | some lv => cases lv <;> first | exact k _ rfl h | exact k' _ _ rfl h | exact no h
theorem mAT {f g : Nat -> Option β} (h : (match d, e with | .adts, .str j => f j | .trs, .str j => g j | _, _ => none) = some b) (k : ∀ j, d = .adts -> e = .str j -> f j = some b -> G) (k' : ∀ j, d = .trs -> e = .str j -> g j = some b -> G) : G := by
 cases d with
 | adts => cases e <;> first | exact k _ rfl rfl h | exact no h
 | trs => cases e <;> first | exact k' _ rfl rfl h | exact no h
 | _ => exact no h
end
section
variable {C : Calls} {sx : Nat -> Loc -> Sg -> Option (Loc × Sg)} {n : Nat} {l l' : Loc} {σ σ' : Sg} {out : Out} {P : Out -> Loc -> Sg -> Prop} {G : Prop} {r : Out × Loc × Sg} {rest a b : List S} {e k0 o t : X} {es : List X} {x y i j : Nat} {ts : List Nat} {rs : List RH}
@[elab_as_elim] theorem x_nil (he : xs C sx (n + 1) l σ [] = some (out, l', σ')) (k : P .next l σ) : P out l' σ' := pE3 he k
theorem x_asg (he : xs C sx (n + 1) l σ (.asg ts rs :: rest) = some r) (k : ts.all (hasL l) = true -> ∀ lvs l₁ σ₁, rhs C ts l σ ts rs = some (lvs, l₁, σ₁) -> xs C sx n (setLs l₁ ts lvs) σ₁ rest = some r -> G) : G :=
 iE he λh he => bE he λp e1 he => k h p.1 p.2.1 p.2.2 e1 he
theorem x_app (he : xs C sx (n + 1) l σ (.app y e :: rest) = some r) (k1 : ∀ d1 σ₁ ds, ev C evN l σ e = some (d1, σ₁) → l.lookup y = some (.ow ds) → ds.length ≤ maxLen → xs C sx n (setL l y (.ow (ds ++ [d1]))) σ₁ rest = some r → G)
  (k2 : ∀ d1 σ₁ ds, ev C evN l σ e = some (d1, σ₁) -> l.lookup y = some (.val .acc) -> σ₁.ac = some ds -> ds.length <= maxLen -> xs C sx n l { σ₁ with ac := some (ds ++ [d1]) } rest = some r -> G) : G :=
 bE he λp e1 he => mOwAcc he (λds q he => iE he λhl he => k1 p.1 p.2 ds e1 q hl he) λq he => by
  cases q2 : p.2.ac with
  | none => rw [q2] at he; exact no he
  | some ds => rw [q2] at he; exact iE he λhl he => k2 p.1 p.2 ds e1 q q2 hl he
theorem x_ext (he : xs C sx (n + 1) l σ (.ext y e :: rest) = some r) (k : ∀ d1 σ₁ ds es, ev C evN l σ e = some (d1, σ₁) -> l.lookup y = some (.ow ds) -> seqD d1 = some es -> ds.length + es.length <= maxLen -> xs C sx n (setL l y (.ow (ds ++ es))) σ₁ rest = some r -> G) : G :=
 bE he λp e1 he => mOw he λds q he => bE he λes e2 he => iE he λhl he => k p.1 p.2 ds es e1 q e2 hl he
theorem x_ife (he : xs C sx (n + 1) l σ (.ife t a b :: rest) = some r) (k : ∀ c σ₁ o1 l₁ σ₂, ev C evN l σ t = some (.bool c, σ₁) -> xs C sx n l σ₁ (if c then a else b) = some (o1, l₁, σ₂) -> thenS C sx n rest (o1, l₁, σ₂) = some r -> G) : G :=
 bE he λp e1 he => mBool he λc q he => bE he λp2 e2 he => k c p.2 p2.1 p2.2.1 p2.2.2 (pr q e1) e2 he
theorem x_whl (he : xs C sx (n + 1) l σ (.whl t b :: rest) = some r) (k1 : ∀ σ₁ o1 l₁ σ₂, ev C evN l σ t = some (.bool true, σ₁) → xs C sx n l σ₁ b = some (o1, l₁, σ₂) → thenS C sx n (.whl t b :: rest) (o1, l₁, σ₂) = some r → G)
  (k2 : ∀ σ₁, ev C evN l σ t = some (.bool false, σ₁) -> xs C sx n l σ₁ rest = some r -> G) : G :=
 bE he λp e1 he => mTF he (λq he => bE he λp2 e2 he => k1 p.2 p2.1 p2.2.1 p2.2.2 (pr q e1) e2 he) λq he => k2 p.2 (pr q e1) he
theorem x_fore (he : xs C sx (n + 1) l σ (.fore ts e b :: rest) = some r) (k : ∀ d1 σ₁ ds o1 l₁ σ₂, ev C evN l σ e = some (d1, σ₁) -> itD d1 = some ds -> fors (λl σ => xs C sx n l σ b) ts ds l σ₁ = some (o1, l₁, σ₂) -> thenS C sx n rest (o1, l₁, σ₂) = some r -> G) : G :=
 bE he λp e1 he => bE he λds e2 he => iE he λhl he => bE he λp2 e3 he => k p.1 p.2 ds p2.1 p2.2.1 p2.2.2 e1 e2 e3 he
theorem x_foro (he : xs C sx (n + 1) l σ (.foro x y b :: rest) = some r) (k : ∀ o1 l₁ σ₂, l.lookup y = some (.val .acc) -> foros (λl σ => xs C sx n l σ b) x n 0 l σ = some (o1, l₁, σ₂) -> thenS C sx n rest (o1, l₁, σ₂) = some r -> G) : G :=
 mAcc he λq he => bE he λp2 e3 he => k p2.1 p2.2.1 p2.2.2 q e3 he
theorem x_acc (he : xs C sx (n + 1) l σ (.acc x es :: rest) = some r) (k : ∀ ds σ₁, evs (ev C evN l) σ es = some (ds, σ₁) -> (ds.length <= 100 /\ hasL l x = true /\ σ₁.ac.isNone = true) -> xs C sx n (setL l x (.val .acc)) { σ₁ with ac := some ds } rest = some r -> G) : G :=
 bE he λp e1 he => iE he λhl he => k p.1 p.2 e1 hl he
theorem x_exp (he : xs C sx (n + 1) l σ (.exp e :: rest) = some r) (k : ∀ d1 σ₁, ev C evN l σ e = some (d1, σ₁) -> xs C sx n l σ₁ rest = some r -> G) : G :=
 bE he λp e1 he => k p.1 p.2 e1 he
@[elab_as_elim] theorem x_ret (he : xs C sx (n + 1) l σ (.ret e :: rest) = some (out, l', σ')) (k : ∀ d1 σ₁, ev C evN l σ e = some (d1, σ₁) -> P (.ret d1) l σ₁) : P out l' σ' :=
 bE he λp e1 he => pE3 he (k p.1 p.2 e1)
@[elab_as_elim] theorem x_reto (he : xs C sx (n + 1) l σ (.reto y :: rest) = some (out, l', σ')) (k1 : ∀ ds, l.lookup y = some (.ow ds) → P (.ret (.list ds)) l σ)
  (k2 : ∀ ds, (l.lookup y = some (.val .acc) \/ l.lookup y = some (.fv .acc)) -> σ.ac = some ds -> sgOk σ = true -> noacs ds = true -> P (.ret (.list ds)) l { σ with ac := none }) : P out l' σ' :=
 mReto he (λds q he => pE3 he (k1 ds q)) (λq he => bE he λds e1 he => iE he λhk he => pE3 he (k2 ds (.inl q) e1 (Bool.and_eq_true_iff.mp hk).1 (Bool.and_eq_true_iff.mp hk).2))
  λq he => bE he λds e1 he => iE he λhk he => pE3 he (k2 ds (.inr q) e1 (Bool.and_eq_true_iff.mp hk).1 (Bool.and_eq_true_iff.mp hk).2)
theorem x_srci (he : xs C sx (n + 1) l σ (.srci i e :: rest) = some r) (k : ∀ d1 σ₁ ds, ev C evN l σ e = some (d1, σ₁) -> l.lookup 27 = some (.val .src) -> σ₁.src = some ds -> i < ds.length -> xs C sx n l { σ₁ with src := some (ds.set i d1) } rest = some r -> G) : G :=
 bE he λp e1 he => mSrc he λds q1 q2 he => iE he λhl he => k p.1 p.2 ds e1 q1 q2 hl he
theorem x_seti (he : xs C sx (n + 1) l σ (.seti y k0 e :: rest) = some r) (k : ∀ d1 σ₁ j σ₂ ks ds, ev C evN l σ e = some (d1, σ₁) -> ev C evN l σ₁ k0 = some (.str j, σ₂) -> l.lookup y = some (.od ks ds) -> (ks.length <= 100 /\ ks.contains j = false) -> xs C sx n (setL l y (.od (ks ++ [j]) (ds ++ [d1]))) σ₂ rest = some r -> G) : G :=
 bE he λp e1 he => bE he λp2 e2 he => mOdS he λks ds j q1 q2 he => iE he λhl he => k p.1 p.2 j p2.2 ks ds e1 (pr q2 e2) q1 hl he
theorem x_asgc (he : xs C sx (n + 1) l σ (.asgc x e :: rest) = some r) (k : ∀ d1 σ₁, hasL l x = true -> ev C evN l σ e = some (d1, σ₁) -> xs C sx n (setL l x (.val d1)) σ₁ rest = some r -> G) : G :=
 iE he λh he => bE he λp e1 he => k p.1 p.2 h e1 he
theorem x_setw (he : xs C sx (n + 1) l σ (.setw o k0 e :: rest) = some r) (k1 : ∀ d1 σ₁ σ₂ j σ₃ ks ds, ev C evN l σ e = some (d1, σ₁) → ev C evN l σ₁ o = some (.adts, σ₂) → ev C evN l σ₂ k0 = some (.str j, σ₃) → σ₃.ad = some (ks, ds) → (ks.length ≤ 100 ∧ ks.length = ds.length) → xs C sx n l { σ₃ with ad := some (putD ks ds j d1) } rest = some r → G)
  (k2 : ∀ d1 σ₁ σ₂ j σ₃ ks ds, ev C evN l σ e = some (d1, σ₁) -> ev C evN l σ₁ o = some (.trs, σ₂) -> ev C evN l σ₂ k0 = some (.str j, σ₃) -> σ₃.tr = some (ks, ds) -> (ks.length <= 100 /\ ks.length = ds.length) -> xs C sx n l { σ₃ with tr := some (putD ks ds j d1) } rest = some r -> G) : G :=
 bE he λp e1 he => bE he λp2 e2 he => bE he λp3 e3 he => mAT he (λj q1 q2 he => by
  cases q3 : p3.2.ad with
  | none => rw [q3] at he; exact no he
  | some q => rw [q3] at he; exact iE he λhl he => k1 p.1 p.2 p2.2 j p3.2 q.1 q.2 e1 (pr q1 e2) (pr q2 e3) q3 hl he) λj q1 q2 he => by
  cases q3 : p3.2.tr with
  | none => rw [q3] at he; exact no he
  | some q => rw [q3] at he; exact iE he λhl he => k2 p.1 p.2 p2.2 j p3.2 q.1 q.2 e1 (pr q1 e2) (pr q2 e3) q3 hl he
theorem x_frz (he : xs C sx (n + 1) l σ (.frz y :: rest) = some r) (k1 : ∀ ds, l.lookup y = some (.ow ds) -> xs C sx n (setL l y (.val (.list ds))) σ rest = some r -> G) (k2 : ∀ ks ds, l.lookup y = some (.od ks ds) -> xs C sx n (setL l y (.val (.dict ks ds))) σ rest = some r -> G) : G :=
 mOwOd he (λds q he => k1 ds q he) λks ds q he => k2 ks ds q he
theorem x_sx (he : xs C sx (n + 1) l σ (.sx j :: rest) = some r) (k : ∀ l₁ σ₁, sx j l σ = some (l₁, σ₁) -> xs C sx n l₁ σ₁ rest = some r -> G) : G :=
 bE he λp e1 he => k p.1 p.2 e1 he
end
end Mine
end
section
open PySem PySem.W PySem.Calls PyProof.Rows PySem.SeqAt
namespace Mine
section
variable {g : Gh} {A : Around} {own own' own'' : Addr -> Tag} {s : Shared} {σ σ₁ σ₂ σ₃ σ' : Sg} {d e : D} {h h' h'' : Heap} {C : Calls} {k n : Nat} {l : Loc} {sc : Scope} {env : Env}
structure Held (g : Gh) (own : Addr -> Tag) (env : Env) (l : Loc) (h : Heap) (y : Nat) (lv : LV) (v : Value) : Prop where
 at_ : LAt g h own y v lv
 name : ∀ (A : Around) (s : Shared) (p : Pos) (Q : Value -> Shared -> Prop) (E : Value -> Shared -> Prop), s.heap = h -> Q v s -> wpAny (model g.prog g.w) A (eval (.Name (vN y) p) env) Q E s
 chg : ∀ (own' : Addr -> Tag) (h1 : Heap) (σ' : Sg), Ext own own' h h1 -> RG g own' σ' h1 -> LAt g h1 own' y v lv /\ ∀ (a : Addr) (h' : Heap) (lv' : LV), own' a = .ol y -> Heap.SameBut a h1 h' -> (∃ o, h'.get? a = some o) -> LAt g h' own' y v lv' ->
  R g own' env (setL l y lv') σ' h' /\ StepS own' own' h1 h' /\ (∀ b o, (own' b = .fz \/ ∃ i, i ≠ y /\ own' b = .ol i) -> h1.get? b = some o -> h'.get? b = some o)
theorem held {y : Nat} {lv : LV} (r : R g own env l σ h) (hl : l.lookup y = some lv) (hu : lv ≠ .un) (hf : notFv lv = true := by rfl) : ∃ v, Held g own env l h y lv v := by
 obtain ⟨rg, kf, gl, bu, m, hn, ht, hv, h48⟩ := id r
 have hmem := lookup_mem hl
 have hy48 : y < 48 := h48 _ hmem
 have key : ∀ v, LAt g h own y v lv → (∀ (own1 : Addr → Tag) (h1 : Heap), (∀ b o, own b = .ce y → h.get? b = some o → h1.get? b = some o ∧ own1 b = .ce y) → ∀ lv', LAt g h1 own1 y v lv' → VarAt g h1 own1 env m y lv') → (∀ (own' : Addr → Tag) (h1 : Heap) (σ' : Sg), Ext own own' h h1 → RG g own' σ' h1 → LAt g h1 own' y v lv ∧ ∀ (a : Addr) (h' : Heap) (lv' : LV), own' a = .ol y → Heap.SameBut a h1 h' → (∃ o, h'.get? a = some o) → LAt g h' own' y v lv' →
   R g own' env (setL l y lv') σ' h' /\ StepS own' own' h1 h' /\ (∀ b o, (own' b = .fz \/ ∃ i, i ≠ y /\ own' b = .ol i) -> h1.get? b = some o -> h'.get? b = some o)) := by
  intro v y1 hva own' h1 σ' x rg1
  refine ⟨y1.ext rg x, λa h' lv' ha hs hex yl => ?_⟩
  have kp : ∀ b o, own' b ≠ .ol y -> h1.get? b = some o -> h'.get? b = some o := λb o n1 e => hs.extBut b o (λq => by rw [q] at n1; exact n1 ha) e
  have L : Le h1 h' own' own' := le_of (λb o e ho => kp b o (by rw [e]; intro z; cases z) ho) λ_ _ => rfl
  have ex' : ∀ b o, h1.get? b = some o -> ∃ o', h'.get? b = some o' := λb o e => by
   by_cases q : b = a
   ·rw [q]; exact hex
   ·exact ⟨o, hs.extBut b o q e⟩
  have rg' : RG g own' σ' h' := rg1.same hs (by rw [ha]; rfl) hex
  have hnm : h1.Ns env.locals m := by
   obtain ⟨o, es, ep, ho, q⟩ := hn
   exact ⟨o, es, ep, x.objs _ _ ho (by rw [ht]; rfl), q⟩
  have ht' := rg.tag x ht (by decide)
  have hn' : h'.Ns env.locals m := by
   obtain ⟨o, es, ep, ho, q⟩ := hnm
   exact ⟨o, es, ep, kp _ _ (by rw [ht']; intro z; cases z) ho, q⟩
  refine ⟨⟨rg', kf, gl, bu, m, hn', ht', λp hp => ?_, λp hp => ?_⟩, ⟨λ_ _ _ => .inl rfl, λb o e hm => kp b o (λq => by rw [q] at hm; cases hm) e, ex'⟩, λb o hb e => kp b o (λq => ?_) e⟩
  ·rcases mem_setL hp with ⟨rfl, _⟩ | ⟨hpl, hne⟩
   ·refine hva own' h' (λb o e ho => ?_) _ yl
    have e' : own' b = .ce y := (x.tags b o ho).trans e
    exact ⟨kp b o (by rw [e']; intro z; cases z) (x.objs b o ho (by rw [e]; rfl)), e'⟩
   ·refine ((hv p hpl).ext rg x).keep L rfl (λb o e ho => ⟨kp b o (by rw [e]; intro z; cases z) ho, e⟩) (λb o e ho => ⟨kp b o (by rw [e]; intro z; cases z; exact hne rfl) ho, e⟩)
  ·rcases mem_setL hp with ⟨rfl, _⟩ | ⟨hpl, _⟩
   ·exact hy48
   ·exact h48 p hpl
  ·rcases hb with e | ⟨i, hi, e⟩
   ·rw [q] at e; cases e
   ·rw [q] at e; cases e; exact hi rfl
 rcases hv _ hmem with ⟨hk, hh⟩ | ⟨hk, c, v0, hc, htc, ⟨oc, hoc, hcd⟩, hh⟩
 ·rcases hh with q | ⟨v, e, yv⟩
  ·exact absurd q hu
  ·refine ⟨v, yv, λA s p Q E hs hQ => ?_, key v yv λown1 h1 _ lv' y' => .inl ⟨hk, .inr ⟨v, e, y'⟩⟩⟩
   subst hs
   exact wpAny_Name (wpAny_loadName_local kf hk hn e hQ) (vN_dbg hy48)
 ·have htc : own c = .ce y := by
   rcases htc with t | ⟨_, d, e⟩
   ·exact t
   ·have e : lv = .fv d := e
    rw [e] at hf; cases hf
  rcases hh with q | ⟨v, e, yv⟩
  ·exact absurd q hu
  ·subst e
   refine ⟨v, yv, λA s p Q E hs hQ => ?_, key v yv λown1 h1 k1 lv' y' => .inr ⟨hk, c, some v, hc, .inl (k1 c oc htc hoc).2, ⟨oc, (k1 c oc htc hoc).1, hcd⟩, .inr ⟨v, rfl, y'⟩⟩⟩
   subst hs
   rcases hk with hk | hk
   ·exact wpAny_Name (wpAny_loadName_cell kf hk hc ⟨oc, hoc, hcd⟩ hQ) (vN_dbg hy48)
   ·refine wpAny_Name (wpAny_loadName_free kf hk hc ⟨oc, hoc, hcd⟩ hQ ?_) (vN_dbg hy48)
    exact (by decide +kernel : ∀ j < 48, (vN j == ("__classdict__" : Str)) = false) y hy48
theorem extTup (l b : Addr) (its its2 : Array Value) (n n2 : Nat) (dd : Option Addr) (sl : Array (Option Value)) (h0 : ¬(!its.isEmpty && Builtin.List.listTooLong (its.size + its2.size)) = true) (h1 : its.size ≤ sizeLine) (h2 : its.size + its2.size ≤ sizeLine + 1) :
  Meets (Builtin.«list.extend» ⟨[.ref l, .ref b], []⟩) (fun _ R s => s.heap.get? l = some { cls := .type "list", dict := none, data := .seq its n, slots := #[] } ∧ s.heap.get? b = some { cls := .type "tuple", dict := dd, data := .seq its2 n2, slots := sl } ∧ R (.ok (.ret Value.none)) { s with heap := s.heap.update l (Obj.mapSeq fun x => x ++ its2), toks := s.toks }) :=
 .of_wp λprog w A R s h => by
  obtain ⟨hp, g, d, tk, os⟩ := s
  obtain ⟨hl, hb, h⟩ := h
  have q1 := AutoSeq1.idx_int; have q2 := AutoSeq1.sub_tuple_tuple; have q3 := AutoSeq1.sub_list_list; have q4 := AutoSeq1.sub_tuple_list; have q5 := AutoSeq1.sub_list_tuple
  have hz : (its ++ its2).size <= sizeLine + 1 := by rw [Array.size_append]; exact h2
  wp_walk using (wpAny_updateSeq hl rfl (hz := h1) (_hz' := hz)), AutoSeq1.wpAny_loadPart' hl, AutoSeq1.wpAny_loadPart' hb
  exact ⟨_, rfl, h⟩
theorem LAt.ow_e {y : Nat} {ds : List D} {v : Value} {P : Value → Prop} (x : LAt g h own y v (.ow ds)) (k : ∀ a vs n, own a = .ol y → h.get? a = some { cls := .type "list", data := .seq vs.toArray n } → AtL g h own vs ds → P (.ref a)) : P v :=
 x.elim λa x => x.elim λvs x => x.1 ▸ x.2.2.1.elim λn ho => k a vs n x.2.1 ho x.2.2.2
theorem ow_grow {y : Nat} {ds : List D} {a : Addr} {P : Prop} (H : Held g own env l h y (.ow ds) (.ref a)) (x' : Ext own own' h h') (r' : RG g own' σ' h')
  (k : ∀ vs n, h'.get? a = some { cls := .type "list", data := .seq vs.toArray n } → vs.length = ds.length → (∀ (h2 : Heap) (ws : List Value) (es : List D) (n2 : Nat), Heap.SameBut a h' h2 → h2.get? a = some { cls := .type "list", data := .seq (vs ++ ws).toArray n2 } → AtL g h' own' ws es → R g own' env (setL l y (.ow (ds ++ es))) σ' h2 ∧ StepS own own' h h2) → P) : P :=
 have C := H.chg own' h' σ' x' r'
 C.1.ow_e (P := λv => v = .ref a -> P) (λa' vs n ht ho hat e => by
  have e := Value.ref.inj e
  subst e
  refine k vs n ho hat.length λh2 ws es n2 hs ho2 hw => ?_
  have L : Le h' h2 own' own' := le_of (λb o e ho => hs.extBut b o (λq => by rw [q, ht] at e; cases e) ho) λ_ _ => rfl
  have X := C.2 a' h2 (.ow (ds ++ es)) ht hs ⟨_, ho2⟩ ⟨a', vs ++ ws, rfl, ht, ⟨_, ho2⟩, (AtL.mono L hat).append (AtL.mono L hw)⟩
  exact ⟨X.1, x'.stepS.trans X.2.1⟩) rfl
theorem app_ok {y : Nat} {ds : List D} {t : Sem Value} {pos : Pos} {Q : Value → Shared → Prop} {E : Value → Shared → Prop} {v : Value} (r : R g own env l σ s.heap) (H : Held g own env l s.heap y (.ow ds) v) (ht : Gives g A own s t d σ') (hlen : ds.length ≤ maxLen)
  (K : ∀ h' tk' own', R g own' env (setL l y (.ow (ds ++ [d]))) σ' h' → StepS own own' s.heap h' → Q .none { s with heap := h', toks := tk' }) : MethodOn g.prog g.w A "append" pos v [(false, t)] Q E s := by
 refine H.at_.ow_e (P := fun v => Held g own env l s.heap y (.ow ds) v → MethodOn g.prog g.w A "append" pos v [(false, t)] Q E s) (fun a vs0 n0 _ ho0 _ H => ?_) H
 refine ⟨"list", "list.append", PySem.F.plainAttrs_list, PySem.F.slot_list_append, rfl, ⟨_, ho0, rfl⟩, fun b e => Value.ref.inj e ▸ ⟨_, ho0, rfl⟩, ?_⟩
 refine PySem.P.append_list (ht _ _ λw h' tk' own' x' r' yw => ow_grow H x' r' λvs n ho e1 G => ?_)
 refine ⟨vs.toArray, n, by rw [List.size_toArray, e1]; exact Nat.le_trans hlen (by decide), ho, ?_⟩
 have X := G (h'.update a (Obj.mapSeq λxs => xs.push w)) [w] [d] (n + 1) (Heap.SameBut.update ..) (by
  rw [Heap.get?_update_self _ ho (by rw [Obj.mapSeq_push_plain]; rfl), Obj.mapSeq_push_plain, List.push_toArray]) (.cons yw .nil)
 exact K _ _ own' X.1 X.2
theorem extend_ok {y : Nat} {ds es : List D} {t : Sem Value} {pos : Pos} {Q : Value → Shared → Prop} {E : Value → Shared → Prop} {v : Value} (r : R g own env l σ s.heap) (H : Held g own env l s.heap y (.ow ds) v) (ht : Gives g A own s t d σ') (hq : seqD d = some es) (hlen : ds.length + es.length ≤ maxLen)
  (K : ∀ h' tk' own', R g own' env (setL l y (.ow (ds ++ es))) σ' h' → StepS own own' s.heap h' → Q .none { s with heap := h', toks := tk' }) : MethodOn g.prog g.w A "extend" pos v [(false, t)] Q E s := by
 refine H.at_.ow_e (P := fun v => Held g own env l s.heap y (.ow ds) v → MethodOn g.prog g.w A "extend" pos v [(false, t)] Q E s) (fun a vs0 n0 _ ho0 _ H => ?_) H
 refine ⟨"list", "list.extend", PySem.F.plainAttrs_list, PySem.F.slot_list_extend, rfl, ⟨_, ho0, rfl⟩, fun b e => Value.ref.inj e ▸ ⟨_, ho0, rfl⟩, ?_⟩
 refine PySem.seqMethod1_meets PySem.F.slot_list_extend PySem.F.entry_list_extend (ht _ _ λw h' tk' own' x' r' yw => ow_grow H x' r' λvs n ho e1 G => ?_)
 have hz : ∀ {ws : List Value}, AtL g h' own' ws es -> vs.toArray.size + ws.toArray.size <= sizeLine := λhw => by rw [List.size_toArray, List.size_toArray, e1, hw.length]; exact Nat.le_trans hlen (by decide)
 have fin : ∀ (ws : List Value), AtL g h' own' ws es -> Q .none { s with heap := h'.update a (Obj.mapSeq λxs => xs ++ ws.toArray), toks := tk' } := λws hw =>
  have X := G (h'.update a (Obj.mapSeq λxs => xs ++ ws.toArray)) ws es _ (Heap.SameBut.update ..) (by
   rw [Heap.get?_update_self _ ho (by rw [mapSeq_app]; rfl), mapSeq_app, List.append_toArray]) hw
  K _ _ own' X.1 X.2
 refine yw.seq_e hq (λb ws hf z hl => ?_) λb ws hf z hl => ?_
 ·obtain ⟨⟨ocls, odd, odat, osl⟩, hob, hcb, nb, hdb⟩ := z
  simp only at hcb hdb
  subst hcb hdb
  exact ⟨⟨_, ho, rfl⟩, PySem.F.args_list_extend_2 _ _, _, extTup a b vs.toArray ws.toArray n nb odd osl (extend_door (hz hl)) (Nat.le_trans (Nat.le_add_right _ _) (hz hl)) (Nat.le_succ_of_le (hz hl)), ho, hob, fin ws hl⟩
 ·exact z.elim λnb hob => ⟨⟨_, ho, rfl⟩, PySem.F.args_list_extend_2 _ _, _, AutoSeq1.list_extend_list_list_0 a vs.toArray n b ws.toArray nb (extend_door (hz hl)) (Nat.le_trans (Nat.le_add_right _ _) (hz hl)) (Nat.le_succ_of_le (hz hl)), ho, hob, fin ws hl⟩
end
inductive IsRH (g : Gh) : Scope -> RH -> Expr -> Prop
 | v {sc : Scope} {x : X} {e : Expr} : IsE g sc x e -> IsRH g sc (.v x) e
 | l {sc : Scope} {xs : List X} {es : List Expr} {p : Pos} : IsEs g sc xs es -> IsRH g sc (.l xs) (.List es p)
 | d {sc : Scope} {p : Pos} : IsRH g sc .d (.Dict [] [] p)
 | p {sc : Scope} {y : Nat} {p q r : Pos} : (∀ env, attributeBase (.Name (vN y) p) "pop" env (eval (.Name (vN y) p) env) = eval (.Name (vN y) p) env) →
   (∀ env, ((backTo r (starEach [] env)).all (λx => !x.1) && (backToKw r (keywordEach [] env)).all (λx => x.1.isSome) && decide (([] : List Expr).length + ([] : List Keyword).length + (if ([] : List Keyword).isEmpty then 0 else 1) < 30)) = true) ->
   (q.endLine == r.line) = true → IsRH g sc (.p y) (.Call (.Attribute (.Name (vN y) p) "pop" q) [] [] r)
inductive IsRHs (g : Gh) : Scope -> List RH -> List Expr -> Prop
 | nil {sc : Scope} : IsRHs g sc [] []
 | cons {sc : Scope} {x : RH} {xs : List RH} {e : Expr} {es : List Expr} : (∀ env, starEach (e :: es) env = (false, eval e env) :: starEach es env) -> IsRH g sc x e -> IsRHs g sc xs es -> IsRHs g sc (x :: xs) (e :: es)
inductive IsNames : List Nat -> List Expr -> Prop
 | nil : IsNames [] []
 | cons {x : Nat} {xs : List Nat} {p : Pos} {es : List Expr} : IsNames xs es -> IsNames (x :: xs) (.Name (vN x) p :: es)
inductive StoreFs (M : Model) (A : Around) (E : Value -> Shared -> Prop) (env : Env) : List (Value -> Sem Unit) -> List Nat -> Prop
 | nil : StoreFs M A E env [] []
 | cons {f : Value -> Sem Unit} {x : Nat} {fs : List (Value -> Sem Unit)} {xs : List Nat} : (∀ v (Q : Unit -> Shared -> Prop) s, wpAny M A (storeName env (vN x) v) Q E s -> wpAny M A (f v) Q E s) -> StoreFs M A E env fs xs -> StoreFs M A E env (f :: fs) (x :: xs)
structure KP (ts : List Nat) (own own' : Addr -> Tag) (h h' : Heap) : Prop where
 le : Le h h' own own'
 ol : ∀ x ∈ ts, ∀ b o, own b = .ol x -> h.get? b = some o -> h'.get? b = some o /\ own' b = .ol x
inductive LAts (g : Gh) (h : Heap) (own : Addr -> Tag) : List Nat -> List Value -> List LV -> Prop
 | nil : LAts g h own [] [] []
 | cons {x : Nat} {v : Value} {lv : LV} {xs : List Nat} {vs : List Value} {lvs : List LV} : notFv lv = true -> LAt g h own x v lv -> LAts g h own xs vs lvs -> LAts g h own (x :: xs) (v :: vs) (lv :: lvs)
section
variable {g : Gh} {A : Around} {own own' own'' : Addr -> Tag} {s : Shared} {σ σ₁ σ₂ σ₃ σ' : Sg} {d e : D} {h h' h'' : Heap} {C : Calls} {k n : Nat} {l l' : Loc} {sc : Scope} {env : Env} {ts : List Nat}
theorem KP.trans (a : KP ts own own' h h') (b : KP ts own' own'' h' h'') : KP ts own own'' h h'' :=
 ⟨a.le.trans b.le, λx hx c o e ho => let ⟨p, q⟩ := a.ol x hx c o e ho; b.ol x hx c o q p⟩
theorem Ext.kp (rg : RG g own σ h) (x : Ext own own' h h') : KP ts own own' h h' := ⟨x.le rg, λy hy b o e ho => ⟨x.objs b o ho (by rw [e]; rfl), (x.tags b o ho).trans e⟩⟩
theorem LAt.kp (kp : KP ts own own' h h') {x : Nat} (hx : x ∈ ts) {v : Value} {lv : LV} (y : LAt g h own x v lv) : LAt g h' own' x v lv := y.keep kp.le (kp.ol x hx)
theorem LAts.kp (kp : KP ts own own' h h') {xs : List Nat} {vs : List Value} {lvs : List LV} (y : LAts g h own xs vs lvs) (hx : ∀ x ∈ xs, x ∈ ts) : LAts g h' own' xs vs lvs := by
 induction y with
 | nil => exact .nil
 | cons nf a r ih => exact .cons nf (a.kp kp (hx _ (.head _))) (ih λx h => hx x (.tail _ h))
section
variable {lv : LV} {P : LV -> Loc -> Sg -> Prop} {y : Nat}
@[elab_as_elim] theorem rh_v_e {e : X} (h : rh C ts l σ (.v e) = some (lv, l', σ')) (k : ∀ d σ₁, ev C evN l σ e = some (d, σ₁) -> P (.val d) l σ₁) : P lv l' σ' := bE h λa h1 h2 => pE (P := λq => P q.1 q.2.1 q.2.2) h2 (k a.1 a.2 h1)
@[elab_as_elim] theorem rh_l_e {es : List X} (h : rh C ts l σ (.l es) = some (lv, l', σ')) (k : ∀ ds σ₁, evs (ev C evN l) σ es = some (ds, σ₁) -> ds.length <= 100 -> P (.ow ds) l σ₁) : P lv l' σ' := bE h λa h1 h2 => iE h2 λhl h2 => pE (P := λq => P q.1 q.2.1 q.2.2) h2 (k a.1 a.2 h1 hl)
@[elab_as_elim] theorem rh_d_e (h : rh C ts l σ .d = some (lv, l', σ')) (k : P (.od [] []) l σ) : P lv l' σ' := pE (P := λq => P q.1 q.2.1 q.2.2) h k
@[elab_as_elim] theorem rh_p_e (h : rh C ts l σ (.p y) = some (lv, l', σ')) (k : ∀ ds d, l.lookup y = some (.ow ds) -> ts.contains y = false -> ds.getLast? = some d -> ds.length <= maxLen -> P (.val d) (setL l y (.ow ds.dropLast)) σ) : P lv l' σ' :=
 mOw h λds h1 h => iN h λhn h => by
  cases q : ds.getLast? with
  | none => rw [q] at h; exact no h
  | some d => rw [q] at h; exact iE h λh3 h => pE (P := λq => P q.1 q.2.1 q.2.2) h (k ds d h1 (Bool.eq_false_iff.mpr hn) q h3)
end
theorem AtL.split {bs : List D} : ∀ {as : List D} {vs : List Value}, AtL g h own vs (as ++ bs) -> ∃ ws us, vs = ws ++ us /\ AtL g h own ws as /\ AtL g h own us bs
 | [], vs, x => ⟨[], vs, rfl, .nil, x⟩
 | a :: as, vs, x => by
  cases x with
  | cons y r =>
   obtain ⟨ws, us, e, p, q⟩ := AtL.split r
   exact ⟨_ :: ws, us, congrArg _ e, .cons y p, q⟩
theorem AtL.pop {vs : List Value} {ds : List D} (x : AtL g h own vs ds) (hd : ds.getLast? = some d) : ∃ ws w, vs = ws ++ [w] /\ AtL g h own ws ds.dropLast /\ At g h own w d := by
 obtain ⟨ys, e⟩ := List.getLast?_eq_some_iff.mp hd
 subst e
 rw [List.dropLast_concat]
 obtain ⟨ws, us, e, p, q⟩ := x.split
 cases q with
 | cons y r => cases r; exact ⟨ws, _, e, p, y⟩
theorem pop_arr (ws : List Value) (w : Value) : (ws ++ [w]).toArray.eraseIdxIfInBounds ((ws ++ [w]).toArray.size - 1) = ws.toArray := by
 have e : (ws ++ [w]).toArray.size = ws.length + 1 := by rw [List.size_toArray, List.length_append]; rfl
 rw [e, Array.eraseIdxIfInBounds, dif_pos (by rw [e]; exact Nat.lt_succ_self _)]
 apply Array.toList_inj.mp
 rw [Array.toList_eraseIdx]
 show (ws ++ [w]).eraseIdx ws.length = ws
 rw [List.eraseIdx_append_of_length_le (Nat.le_refl _), Nat.sub_self]
 exact List.append_nil _
theorem pop_get {a : Addr} {ws : List Value} {w : Value} {n0 : Nat} (ho : h.get? a = some { cls := .type "list", data := .seq (ws ++ [w]).toArray n0 }) :
  ∃ n1, (h.update a (Obj.mapSeq fun xs => xs.eraseIdxIfInBounds ((ws ++ [w]).toArray.size - 1))).get? a = some { cls := .type "list", data := .seq ws.toArray n1 } := by
 refine ⟨if ws.toArray.size == (ws ++ [w]).toArray.size then n0 else n0 + 1, ?_⟩
 rw [Heap.get?_update_self _ ho rfl]
 show some (Obj.mapSeq _ { cls := .type "list", dict := none, data := .seq (ws ++ [w]).toArray n0, slots := #[] }) = _
 simp only [Obj.mapSeq, pop_arr]
theorem pop_ok {y x : Nat} {ds : List D} {p q r1 : Pos} {Q : Value → Shared → Prop} {E : Value → Shared → Prop} (hx : x ∈ ts) (r : R g own env l σ s.heap) (hb : ∀ env, attributeBase (.Name (vN y) p) "pop" env (eval (.Name (vN y) p) env) = eval (.Name (vN y) p) env)
  (hf : ∀ env, ((backTo r1 (starEach [] env)).all (λx => !x.1) && (backToKw r1 (keywordEach [] env)).all (λx => x.1.isSome) && decide (([] : List Expr).length + ([] : List Keyword).length + (if ([] : List Keyword).isEmpty then 0 else 1) < 30)) = true)
  (hl : (q.endLine == r1.line) = true) (hly : l.lookup y = some (.ow ds)) (hny : ts.contains y = false) (hd : ds.getLast? = some d) (hlen : ds.length <= maxLen)
  (K : ∀ v h' tk' own', R g own' env (setL l y (.ow ds.dropLast)) σ h' → StepS own own' s.heap h' → KP ts own own' s.heap h' → LAt g h' own' x v (.val d) → Q v { s with heap := h', toks := tk' }) : wpAny (model g.prog g.w) A (eval (.Call (.Attribute (.Name (vN y) p) "pop" q) [] [] r1) env) Q E s := by
 obtain ⟨v, H⟩ := held r hly nofun
 refine wpAny_Call_method_late (trees := []) (hb env) (hf env) hl rfl (H.name A s p _ _ rfl ?_)
 obtain ⟨a, vs, e, hta, z, hat⟩ := id H.at_
 subst e
 obtain ⟨n0, ho⟩ := z
 refine ⟨"list", "list.pop", PySem.F.plainAttrs_list, PySem.F.slot_list_pop, rfl, ⟨_, ho, rfl⟩, fun b e => by cases e; exact ⟨_, ho, rfl⟩, ?_⟩
 have el := hat.length
 obtain ⟨ws, w, e, hws, hw⟩ := hat.pop hd
 subst e
 have hsz : (ws ++ [w]).toArray.size = ws.length + 1 := by rw [List.size_toArray, List.length_append]; rfl
 refine PySem.P.pop_list (y := w) ho (by rw [hsz]; simp) ?_ (by rw [List.size_toArray, el]; exact Nat.le_trans hlen (by rw [sizeLine_eq]; decide))
 obtain ⟨_, chg⟩ := H.chg own s.heap _ (Ext.refl _ _) r.toRG
 obtain ⟨n1, ho2⟩ := pop_get ho
 have hsb : Heap.SameBut a s.heap (s.heap.update a (Obj.mapSeq λxs => xs.eraseIdxIfInBounds ((ws ++ [w]).toArray.size - 1))) := Heap.SameBut.update ..
 have L : Le s.heap (s.heap.update a (Obj.mapSeq λxs => xs.eraseIdxIfInBounds ((ws ++ [w]).toArray.size - 1))) own own := le_of (λb o e ho => hsb.extBut b o (λq => by rw [q, hta] at e; cases e) ho) λ_ _ => rfl
 obtain ⟨rr, st, kk⟩ := chg a _ (.ow ds.dropLast) hta hsb ⟨_, ho2⟩ ⟨a, ws, rfl, hta, ⟨n1, ho2⟩, AtL.mono L hws⟩
 exact K w _ s.toks own rr st ⟨L, λz hz b o e ho => ⟨kk b o (.inr ⟨z, λq => absurd (List.contains_iff_mem.mpr hz) (by rw [q, hny]; exact Bool.false_ne_true), e⟩) ho, e⟩⟩ (At.mono L hw)
theorem rh_ok {r0 : RH} {e : Expr} {lv : LV} {x : Nat} {Q : Value → Shared → Prop} {E : Value → Shared → Prop} (ihe : EvOk g C k A evN) (S : St g) (hx : x ∈ ts) (he : rh C ts l σ r0 = some (lv, l', σ')) (hi : IsRH g sc r0 e) (hs : ScOf sc env) (r : R g own env l σ s.heap)
  (K : ∀ v h' tk' own', R g own' env l' σ' h' -> StepS own own' s.heap h' -> KP ts own own' s.heap h' -> LAt g h' own' x v lv -> Q v { s with heap := h', toks := tk' }) : wpAny (model g.prog g.w) A (eval e env) Q E s := by
 cases hi with
 | v h1 => exact rh_v_e he (λd σ₁ e1 K => ihe _ _ _ _ _ _ _ _ _ _ e1 h1 hs r _ _ λv h' tk' own' x' r' y => K v h' tk' own' (r.ext x' r') x'.stepS (x'.kp r.toRG) y) K
 | l h1 =>
  refine rh_l_e he (λds σ₁ e1 hl K => PyProof.Rows.List_ (ev_list (xs := []) (es := []) (ds := []) ihe _ hs _ _ _ _ _ _ _ e1 h1 r _ _ λvs h' tk' own' x' r' y => ?_)) K
  refine wpAny_newObj_type ?_ (by show vs.toArray.size <= sizeLine; rw [List.size_toArray, y.length]; exact Nat.le_trans hl (by rw [sizeLine_eq]; decide))
  obtain ⟨x2, r2⟩ := keep_new (t := .ol x) (a := h'.objs.size) (h' := h'.push { cls := .type "list", data := .seq vs.toArray }) r' (fun b o e => Heap.get?_push_of_some _ e) (size_none _) (Heap.get?_push_size _ rfl)
  exact K _ _ tk' _ (r.ext (x'.trans x2) r2) (x'.trans x2).stepS ((x'.trans x2).kp r.toRG) ⟨_, vs, rfl, upd_self, ⟨_, Heap.get?_push_size _ rfl⟩, AtL.mono (x2.le r') y⟩
 | d =>
  refine rh_d_e he (λK => wpAny_Dict_empty ?_) K
  obtain ⟨x2, r2⟩ := keep_new (t := .ol x) (a := s.heap.objs.size) (h' := s.heap.push { cls := .type "dict", data := .dict #[] }) r.toRG (fun b o e => Heap.get?_push_of_some _ e) (size_none _) (Heap.get?_push_size _ rfl)
  exact K _ _ s.toks _ (r.ext x2 r2) x2.stepS (x2.kp r.toRG) ⟨_, [], rfl, upd_self, List.forall_mem_nil _, rfl, dict_nil (Heap.get?_push_size _ rfl), .nil⟩
 | p hb hf hl => exact rh_p_e he (λds d h1 h2 h3 h4 K => pop_ok hx r hb hf hl h1 h2 h3 h4 K) K
theorem rh_nf {r0 : RH} {lv : LV} (h : rh C ts l σ r0 = some (lv, l', σ')) : notFv lv = true := by
 cases r0 with
 | v e => exact rh_v_e h λ_ _ _ => rfl
 | l es => exact rh_l_e h λ_ _ _ _ => rfl
 | d => exact rh_d_e h rfl
 | p y => exact rh_p_e h λ_ _ _ _ _ _ => rfl
theorem rhs_ok (q : Pos) (ihe : EvOk g C k A evN) (S : St g) (hs : ScOf sc env) {E : Value → Shared → Prop} : ∀ (xs : List Nat) (rs : List RH) (es : List Expr) (lvs : List LV) (l l' : Loc) (σ σ' : Sg) (own : Addr → Tag) (s : Shared) (Q : List Value → Shared → Prop), (∀ x ∈ xs, x ∈ ts) → rhs C ts l σ xs rs = some (lvs, l', σ') → IsRHs g sc rs es → R g own env l σ s.heap →
  (∀ vs h' tk' own', R g own' env l' σ' h' -> StepS own own' s.heap h' -> KP ts own own' s.heap h' -> LAts g h' own' xs vs lvs -> Q vs { s with heap := h', toks := tk' }) -> wpAny (model g.prog g.w) A (spliced (backTo q (starEach es env))) Q E s
 | [], [], _, lvs, l, l', σ, σ', own, s, Q, hx, he, hi, r, K => by
  cases hi
  cases he
  exact spliced_nil (K [] s.heap s.toks own r (StepS.refl _ _) ((Ext.refl _ _).kp r.toRG) .nil)
 | x :: xs, r0 :: rs, _, lvs, l, l', σ, σ', own, s, Q, hx, he, hi, r, K => by
  cases hi with
  | cons heq h1 h2 =>
   rw [heq]
   refine bE he λp e1 he => bE he λp2 e2 he => ?_
   obtain ⟨lv0, l1, σ1⟩ := p
   obtain ⟨lvs', l2, σ2⟩ := p2
   cases he
   refine spliced_cons (rh_ok ihe S (hx x (.head _)) e1 h1 hs r λv h' tk' own' r' st kp y => ?_)
   exact rhs_ok q ihe S hs xs rs _ _ _ _ _ _ own' { s with heap := h', toks := tk' } _ (λz hz => hx z (.tail _ hz)) e2 h2 r' λvs h'' tk'' own'' r'' st'' kp'' ys => K _ _ _ own'' r'' (st.trans st'') (kp.trans kp'') (.cons (rh_nf e1) (y.kp kp'' (hx x (.head _))) ys)
 | [], _ :: _, _, lvs, l, l', σ, σ', own, s, Q, hx, he, hi, r, K => no he
 | _ :: _, [], _, lvs, l, l', σ, σ', own, s, Q, hx, he, hi, r, K => no he
theorem stores_ok {E : Value → Shared → Prop} : ∀ (xs : List Nat) (fs : List (Value → Sem Unit)) (vs : List Value) (lvs : List LV) (l : Loc) (s : Shared) (Q : Unit → Shared → Prop), StoreFs (model g.prog g.w) A E env fs xs →
  (∀ x ∈ xs, hasL l x = true /\ env.kindOf (vN x) ≠ some .free) -> R g own env l σ s.heap -> LAts g s.heap own xs vs lvs -> (∀ h' tk', R g own env (setLs l xs lvs) σ h' -> StepS own own s.heap h' -> Q () { s with heap := h', toks := tk' }) -> wpAny (model g.prog g.w) A (assignInOrder fs vs) Q E s
 | [], _, _, _, l, s, Q, hf, hx, r, .nil, K => by
  cases hf
  exact assignInOrder_nil (K s.heap s.toks r (StepS.refl _ _))
 | x :: xs, _, _, _, l, s, Q, hf, hx, r, .cons nf y ys, K => by
  cases hf with
  | cons hf1 hf2 =>
   refine assignInOrder_cons (hf1 _ _ _ (store_ok r (hx x (.head _)).1 y (hx x (.head _)).2 λh' tk' r' st kk => ?_))
   have kp : KP xs own own s.heap h' := ⟨le_of (λb o e ho => kk b o (.inl e) ho) λ_ _ => rfl, λz _ b o e ho => ⟨kk b o (.inr ⟨z, e⟩) ho, e⟩⟩
   exact stores_ok xs _ _ _ _ { s with heap := h', toks := tk' } _ hf2 (λz hz => ⟨has_setL (hx z (.tail _ hz)).1 nf, (hx z (.tail _ hz)).2⟩) r' (ys.kp kp λ_ h => h) λh'' tk'' r'' st'' => K _ _ r'' (st.trans st'')
theorem setL_comm {x y : Nat} {a b : LV} (h : x ≠ y) : setL (setL l x a) y b = setL (setL l y b) x a := by
 unfold setL
 rw [List.map_map, List.map_map]
 apply List.map_congr_left
 intro p hp
 simp only [Function.comp]
 by_cases h1 : p.1 = x
 ·rw [if_pos h1]
  have n1 : ¬ p.1 = y := by rw [h1]; exact h
  rw [if_neg n1, if_pos h1]
  simp [h]
 ·rw [if_neg h1]
  by_cases h2 : p.1 = y
  ·rw [if_pos h2]; simp [Ne.symm h]
  ·rw [if_neg h2, if_neg h1]
theorem R.extBut (r : R g own env l σ h) (he : Heap.ExtBut h.objs.size h h') : R g own env l σ h' /\ StepS own own h h' := by
 have hk : ∀ b o, h.get? b = some o -> h'.get? b = some o := λb o e => he b o (Nat.ne_of_lt (Heap.lt_size e)) e
 have x : Ext own own h h' := ⟨λ_ _ _ => rfl, λb o e _ => hk b o e, λb o e => ⟨o, hk b o e⟩⟩
 exact ⟨r.ext x (r.toRG.keepAll x hk (λa ha => by obtain ⟨o, e⟩ := r.lt a ha; exact ⟨o, hk _ _ e⟩) λ_ _ => rfl), x.stepS⟩
theorem LAts.length {xs : List Nat} {vs : List Value} {lvs : List LV} (y : LAts g h own xs vs lvs) : vs.length = xs.length := by
 induction y with
 | nil => rfl
 | cons _ _ _ ih => simp [ih]
end
noncomputable def okT (sc : Scope) (ts : List Nat) : Bool := ts.all λt => sc.names.lookup (vN t) != some .free
def methEq (y : Nat) (nm : Str) (p q r : Pos) (es : List Expr) : Prop := (∀ env, attributeBase (.Name (vN y) p) nm env (eval (.Name (vN y) p) env) = eval (.Name (vN y) p) env) /\
 (∀ env, ((backTo r (starEach es env)).all (λx => !x.1) && (backToKw r (keywordEach [] env)).all (λx => x.1.isSome) && decide (es.length + ([] : List Keyword).length + (if ([] : List Keyword).isEmpty then 0 else 1) < 30)) = true) /\ (q.endLine == r.line) = true
def exprEq (sc : Scope) (e : Expr) (pos : Pos) : Prop := ∀ env : Env, env.scope = sc -> interactive env = false /\ swapsWith e none pos.line env = pure false
inductive IsS1 (g : Gh) (sc : Scope) (P : List S -> List Stmt -> Prop) : List S -> List Stmt -> Prop
 | nil : IsS1 g sc P [] []
 | asg1 {x : Nat} {r0 : RH} {value : Expr} {p pos : Pos} {rest : List S} {rs : List Stmt} : (∀ env : Env, env.scope = sc → swapsWith value (some (.Name (vN x) p)) pos.line env = pure false) → okT sc [x] = true → IsRH g sc r0 value → P rest rs →
   IsS1 g sc P (.asg [x] [r0] :: rest) (.Assign [.Name (vN x) p] value pos :: rs)
 | asg2 {x y : Nat} {rr : List RH} {elts es : List Expr} {k1 k2 : Nat} {p1 p2 pos : Pos} {rest : List S} {rs : List Stmt} : x ≠ y → (∀ env : Env, env.scope = sc → swapsWithSole [.Tuple elts k1 p1] (.Tuple es k2 p2) pos.line env = pure false ∧ swappedStores [.Tuple elts k1 p1] (.Tuple es k2 p2) env = pure (some [vN x, vN y])) → okT sc [x, y] = true → IsRHs g sc rr es → P rest rs →
   IsS1 g sc P (.asg [x, y] rr :: rest) (.Assign [.Tuple elts k1 p1] (.Tuple es k2 p2) pos :: rs)
 | asgn {ts : List Nat} {rr : List RH} {elts es : List Expr} {k1 k2 : Nat} {p1 p2 pos : Pos} {rest : List S} {rs : List Stmt} : IsNames ts elts → (∀ env : Env, env.scope = sc → swapsWithSole [.Tuple elts k1 p1] (.Tuple es k2 p2) pos.line env = pure false ∧ swappedStores [.Tuple elts k1 p1] (.Tuple es k2 p2) env = pure none) → okT sc ts = true → ts.length ≤ 100 → IsRHs g sc rr es → P rest rs →
   IsS1 g sc P (.asg ts rr :: rest) (.Assign [.Tuple elts k1 p1] (.Tuple es k2 p2) pos :: rs)
 | app {y : Nat} {x : X} {a : Expr} {p q r pos : Pos} {rest : List S} {rs : List Stmt} : methEq y "append" p q r [a] → exprEq sc (.Call (.Attribute (.Name (vN y) p) "append" q) [a] [] r) pos → (∀ env, backTo r (starEach [a] env) = [(false, eval a env)]) → IsE g sc x a → P rest rs →
   IsS1 g sc P (.app y x :: rest) (.Expr (.Call (.Attribute (.Name (vN y) p) "append" q) [a] [] r) pos :: rs)
 | ext {y : Nat} {x : X} {a : Expr} {p q r pos : Pos} {rest : List S} {rs : List Stmt} : methEq y "extend" p q r [a] → exprEq sc (.Call (.Attribute (.Name (vN y) p) "extend" q) [a] [] r) pos → (∀ env, backTo r (starEach [a] env) = [(false, eval a env)]) → IsE g sc x a → P rest rs →
   IsS1 g sc P (.ext y x :: rest) (.Expr (.Call (.Attribute (.Name (vN y) p) "extend" q) [a] [] r) pos :: rs)
 | ife {t : X} {c : Expr} {a b rest : List S} {body orelse rs : List Stmt} {pos : Pos} : bx t = true -> IsE g sc t c -> P a body -> P b orelse -> P rest rs -> IsS1 g sc P (.ife t a b :: rest) (.If c body orelse pos :: rs)
 | whl {t : X} {c : Expr} {b rest : List S} {body rs : List Stmt} {pos : Pos} : bx t = true -> IsE g sc t c -> P b body -> P rest rs -> IsS1 g sc P (.whl t b :: rest) (.While c body [] pos :: rs)
 | fore {ts : List Nat} {x : X} {tg it : Expr} {b rest : List S} {body rs : List Stmt} {pos : Pos} : IsT ts tg -> okT sc ts = true -> (∀ env x, foldedSetIterable it env x = pure x) -> IsE g sc x it -> P b body -> P rest rs -> IsS1 g sc P (.fore ts x b :: rest) (.For tg it body [] pos :: rs)
 | foro {x y : Nat} {p q : Pos} {b rest : List S} {body rs : List Stmt} {pos : Pos} : okT sc [x] = true -> P b body -> P rest rs -> IsS1 g sc P (.foro x y b :: rest) (.For (.Name (vN x) p) (.Name (vN y) q) body [] pos :: rs)
 | ret {x : X} {e : Expr} {pos : Pos} {rest : List S} {rs : List Stmt} : IsE g sc x e -> IsS1 g sc P (.ret x :: rest) (.Return (some e) pos :: rs)
 | reto {y : Nat} {p pos : Pos} {rest : List S} {rs : List Stmt} : IsS1 g sc P (.reto y :: rest) (.Return (some (.Name (vN y) p)) pos :: rs)
 | srci {i : Nat} {x : X} {e : Expr} {p q pos : Pos} {k : Nat} {r : Pos} {rest : List S} {rs : List Stmt} : (∀ env : Env, env.scope = sc → swapsWith e (some (.Subscript (.Name (vN 27) p) (.Constant (.int i) k q) r)) pos.line env = pure false) → i < 100 → IsE g sc x e → P rest rs →
   IsS1 g sc P (.srci i x :: rest) (.Assign [.Subscript (.Name (vN 27) p) (.Constant (.int i) k q) r] e pos :: rs)
 | seti {y : Nat} {x z : X} {e i : Expr} {p pos r : Pos} {rest : List S} {rs : List Stmt} : (∀ env : Env, env.scope = sc → swapsWith e (some (.Subscript (.Name (vN y) p) i r)) pos.line env = pure false) → IsE g sc x e → IsE g sc z i → P rest rs →
   IsS1 g sc P (.seti y z x :: rest) (.Assign [.Subscript (.Name (vN y) p) i r] e pos :: rs)
 | acc {x : Nat} {xs : List X} {es : List Expr} {p q pos : Pos} {rest : List S} {rs : List Stmt} : (∀ env : Env, env.scope = sc -> swapsWith (.List es q) (some (.Name (vN x) p)) pos.line env = pure false) -> okT sc [x] = true -> IsEs g sc xs es -> P rest rs -> IsS1 g sc P (.acc x xs :: rest) (.Assign [.Name (vN x) p] (.List es q) pos :: rs)
 | exp {x : X} {e : Expr} {pos : Pos} {rest : List S} {rs : List Stmt} : exprEq sc e pos -> IsE g sc x e -> P rest rs -> IsS1 g sc P (.exp x :: rest) (.Expr e pos :: rs)
 | asgc {x : Nat} {e y : X} {ts fre : List Nat} {ee tg it : Expr} {scc : Scope} {p q pos : Pos} {rest : List S} {rs : List Stmt} : (∀ env : Env, env.scope = sc → swapsWith (.ListComp ee [⟨tg, it, [], 0⟩] scc p) (some (.Name (vN x) q)) pos.line env = pure true) → okT sc [x] = true → ScC sc scc ts fre → IsT ts tg → (∀ env x, foldedSetIterable it env x = pure x) → IsE g scc e ee → IsE g sc y it → P rest rs →
   IsS1 g sc P (.asgc x (.comp e ts fre y none) :: rest) (.Assign [.Name (vN x) q] (.ListComp ee [⟨tg, it, [], 0⟩] scc p) pos :: rs)
 | setw {y x z : X} {o e i : Expr} {pos r : Pos} {rest : List S} {rs : List Stmt} : (∀ env : Env, env.scope = sc → swapsWith e (some (.Subscript o i r)) pos.line env = pure false) → IsE g sc x e → IsE g sc y o → IsE g sc z i → P rest rs →
   IsS1 g sc P (.setw y z x :: rest) (.Assign [.Subscript o i r] e pos :: rs)
 | frz {y : Nat} {rest : List S} {rs : List Stmt} : P rest rs -> IsS1 g sc P (.frz y :: rest) rs
 | sx {j : Nat} {st : Stmt} {rest : List S} {rs : List Stmt} : g.sxIs j sc st -> P rest rs -> IsS1 g sc P (.sx j :: rest) (st :: rs)
 | dead {rest : List S} {rs : List Stmt} : IsS1 g sc P (.dead :: rest) rs
theorem IsS1.map {g : Gh} {sc : Scope} {P Q : List S -> List Stmt -> Prop} {ss : List S} {ts : List Stmt} (f : ∀ ss ts, P ss ts -> Q ss ts) (h : IsS1 g sc P ss ts) : IsS1 g sc Q ss ts := by
 induction h using IsS1.casesOn with
 | nil => exact .nil
 | asg1 h0 h1 h2 h3 => exact .asg1 h0 h1 h2 (f _ _ h3)
 | asg2 h0 h1 h2 h3 h4 => exact .asg2 h0 h1 h2 h3 (f _ _ h4)
 | asgn h0 h1 h2 h3 h4 h5 => exact .asgn h0 h1 h2 h3 h4 (f _ _ h5)
 | app h0 h1 h2 h3 h4 => exact .app h0 h1 h2 h3 (f _ _ h4)
 | ext h0 h1 h2 h3 h4 => exact .ext h0 h1 h2 h3 (f _ _ h4)
 | ife h0 h1 h2 h3 h4 => exact .ife h0 h1 (f _ _ h2) (f _ _ h3) (f _ _ h4)
 | whl h0 h1 h2 h3 => exact .whl h0 h1 (f _ _ h2) (f _ _ h3)
 | fore h0 h1 h2 h3 h4 h5 => exact .fore h0 h1 h2 h3 (f _ _ h4) (f _ _ h5)
 | foro h0 h1 h2 => exact .foro h0 (f _ _ h1) (f _ _ h2)
 | ret h0 => exact .ret h0
 | reto => exact .reto
 | srci h0 h1 h2 h3 => exact .srci h0 h1 h2 (f _ _ h3)
 | seti h0 h1 h2 h3 => exact .seti h0 h1 h2 (f _ _ h3)
 | acc h0 h1 h2 h3 => exact .acc h0 h1 h2 (f _ _ h3)
 | exp h0 h1 h2 => exact .exp h0 h1 (f _ _ h2)
 | asgc h0 h1 h2 h3 h4 h5 h6 h7 => exact .asgc h0 h1 h2 h3 h4 h5 h6 (f _ _ h7)
 | setw h0 h1 h2 h3 h4 => exact .setw h0 h1 h2 h3 (f _ _ h4)
 | frz h0 => exact .frz (f _ _ h0)
 | sx h0 h1 => exact .sx h0 (f _ _ h1)
 | dead => exact .dead
def IsSs (g : Gh) (sc : Scope) (ss : List S) (ts : List Stmt) : Prop := ∃ P : List S -> List Stmt -> Prop, (∀ ss ts, P ss ts -> IsS1 g sc P ss ts) /\ P ss ts
theorem IsSs.out {g : Gh} {sc : Scope} {ss : List S} {ts : List Stmt} : IsSs g sc ss ts -> IsS1 g sc (IsSs g sc) ss ts := λ⟨P, h, p⟩ => (h _ _ p).map λ_ _ q => ⟨P, h, q⟩
theorem IsSs.mk {g : Gh} {sc : Scope} {ss : List S} {ts : List Stmt} (h : IsS1 g sc (IsSs g sc) ss ts) : IsSs g sc ss ts := ⟨IsS1 g sc (IsSs g sc), λ_ _ q => q.map λ_ _ => IsSs.out, h⟩
abbrev Sx := Nat -> Loc -> Sg -> Option (Loc × Sg)
def SxOk (g : Gh) (A : Around) (env : Env) (sx : Sx) : Prop := ∀ (j : Nat) (st : Stmt) (l : Loc) (σ : Sg) (l' : Loc) (σ' : Sg) (own : Addr -> Tag) (s : Shared) (Q : Flow -> Shared -> Prop) (E : Value -> Shared -> Prop), g.sxIs j env.scope st -> sx j l σ = some (l', σ') -> R g own env l σ s.heap ->
 (∀ h' tk' own', R g own' env l' σ' h' -> StepS own own' s.heap h' -> Q .next { s with heap := h', toks := tk' }) -> wpAny (model g.prog g.w) A (exec st env) Q E s
noncomputable def After (g : Gh) (env : Env) (own : Addr -> Tag) (l' : Loc) (σ' : Sg) (h' : Heap) (fl : Flow) : Out -> Prop
 | .next => fl = .next /\ R g own env l' σ' h'
 | .ret d => ∃ v own', fl = .ret v /\ (own' = own \/ σ'.ac = none /\ ∀ a, own' a = own a \/ own a = .ac /\ own' a = .fz) /\ RG g own' σ' h' /\ At g h' own' v d
def XsOk (g : Gh) (C : Calls) (sx : Sx) (A : Around) (env : Env) (n : Nat) : Prop := ∀ (l : Loc) (σ : Sg) (ss : List S) (out : Out) (l' : Loc) (σ' : Sg) (stmts : List Stmt) (own : Addr -> Tag) (s : Shared) (Q : Flow -> Shared -> Prop) (E : Value -> Shared -> Prop), xs C sx n l σ ss = some (out, l', σ') -> IsSs g env.scope ss stmts -> R g own env l σ s.heap ->
 (∀ fl h' tk' own', StepS own own' s.heap h' -> After g env own' l' σ' h' fl out -> Q fl { s with heap := h', toks := tk' }) -> wpAny (model g.prog g.w) A (execs stmts env) Q E s
section
variable {g : Gh} {A : Around} {own own' own'' : Addr -> Tag} {s : Shared} {σ σ₁ σ₂ σ₃ σ' : Sg} {d e : D} {h h' h'' : Heap} {C : Calls} {k n : Nat} {l l' : Loc} {sc : Scope} {env : Env} {ts : List Nat} {sx : Sx}
theorem okT_free {x : Nat} (h : okT env.scope ts = true) (hx : x ∈ ts) : env.kindOf (vN x) ≠ some .free := by
 have := List.all_eq_true.mp h x hx
 intro q
 have e : env.scope.names.lookup (vN x) = some .free := q
 rw [e] at this; simp at this
theorem StepS.le (rg : RG g own σ h) (x : StepS own own' h h') : Le h h' own own' := by
 have t : ∀ a, hot (own a) = true -> own' a = own a := λa ha => by
  obtain ⟨o, q⟩ := rg.lt a (by intro z; rw [z] at ha; cases ha)
  rcases x.tags a o q with e | ⟨e, _⟩
  ·exact e
  ·cases q3 : own a <;> rw [q3] at e ha <;> first | cases e; done | cases ha; done
 exact le_of (λa o e ho => x.objs a o ho (by rw [e]; rfl)) t
theorem StepS.but {I : Addr} (x : StepS own own' h h') (k : ∀ b o, b ≠ I -> h'.get? b = some o -> h''.get? b = some o) (hI : h.get? I = none) : StepS own own' h h'' := by
 have ne : ∀ b o, h.get? b = some o -> b ≠ I := λb o e q => by rw [q, hI] at e; cases e
 refine ⟨x.tags, λb o e hm => k b o (ne b o e) (x.objs b o e hm), λb o e => ?_⟩
 obtain ⟨o', e'⟩ := x.ex b o e
 exact ⟨o', k b o' (ne b o e) e'⟩
theorem R.but {I : Addr} (r : R g own env l σ h) (k : ∀ b o, b ≠ I -> h.get? b = some o -> h'.get? b = some o) (hI : own I = .no) : R g own env l σ h' := by
 obtain ⟨rg, kf, gl, bu, m, hn, ht, hv, h48⟩ := r
 have kk : ∀ b o, own b ≠ .no -> h.get? b = some o -> h'.get? b = some o := λb o hb e => k b o (λq => hb (by rw [q]; exact hI)) e
 have rg' : RG g own σ h' := rg.step (λb o hb e => kk b o (by intro z; rw [z] at hb; cases hb) e) (λ_ _ => rfl) (λb hb => by obtain ⟨o, e⟩ := rg.lt b hb; exact ⟨o, kk b o hb e⟩) λ_ _ => rfl
 have L : Le h h' own own := le_of (λb o e ho => kk b o (by rw [e]; intro z; cases z) ho) λ_ _ => rfl
 refine ⟨rg', kf, gl, bu, m, ?_, ht, λp hp => ?_, h48⟩
 ·obtain ⟨o, es, ep, ho, q⟩ := hn; exact ⟨o, es, ep, kk _ _ (by rw [ht]; intro z; cases z) ho, q⟩
 ·exact (hv p hp).keep L rfl (λb o e ho => ⟨kk b o (by rw [e]; intro z; cases z) ho, e⟩) (λb o e ho => ⟨kk b o (by rw [e]; intro z; cases z) ho, e⟩)
theorem assign_loc {tg : Expr} {v : Value} {b : Loc} {Q : Unit → Shared → Prop} {E : Value → Shared → Prop} (hh : A.handled = none) (it : IsT ts tg) (hb : bindT ts d = some b) (hx : ts.all (hasL l) = true) (ok : okT env.scope ts = true) (r : R g own env l σ s.heap) (y : At g s.heap own v d)
  (K : ∀ h' tk', R g own env (setLs l (b.map (·.1)) (b.map (·.2))) σ h' -> StepS own own s.heap h' -> Q () { s with heap := h', toks := tk' }) : wpAny (model g.prog g.w) A (assign tg env v) Q E s := by
 cases it with
 | one h48 =>
  rename_i x p
  cases hb
  have hx1 : hasL l x = true := List.all_eq_true.mp hx x (.head _)
  exact wpAny_assign_Name (store_ok r hx1 (lv := .val d) y (okT_free ok (.head _)) λh' tk' r' st _ => K h' tk' r' st)
 | two h48 h48' hxy =>
  rename_i x1 x2 k p q r1
  revert y K
  refine bT2_e hb λa1 a2 y K => ?_
  refine y.tup_e λfa vs hf z hl => ?_
  revert z
  refine hl.two_e λva vb ya yb z => ?_
  refine assign_Tuple_tuple hh z rfl rfl λh1 he => ?_
  obtain ⟨r1', st1⟩ := r.extBut he
  have L : Le s.heap h1 own own := st1.le r.toRG
  exact stores_ok [x1, x2] _ _ [.val _, .val _] l { s with heap := h1 } _ (.cons (λv Q s h => wpAny_assign_Name h) (.cons (λv Q s h => wpAny_assign_Name h) .nil)) (λx hx' => ⟨List.all_eq_true.mp hx x hx', okT_free ok hx'⟩) r1' (.cons (lv := .val _) rfl (At.mono L ya) (.cons (lv := .val _) rfl (At.mono L yb) .nil)) λh' tk' r' st' => K h' tk' r' (st1.trans st')
end
section
variable {e : Expr} {G : Prop}
theorem aB {a b : Bool} {G : Prop} (h : (a && b) = true) (k : a = true -> b = true -> G) : G := k ((Bool.and_eq_true _ _).mp h).1 ((Bool.and_eq_true _ _).mp h).2
theorem fB {a : Bool} (h : (!a) = true) : a = false := (Bool.not_eq_true' _).mp h
noncomputable def z1 {α : Type} (_ : α) : Bool := false
noncomputable def z2 {α β : Type} (_ : α) (_ : β) : Bool := false
noncomputable def z3 {α β γ : Type} (_ : α) (_ : β) (_ : γ) : Bool := false
noncomputable def z4 {α β γ δ : Type} (_ : α) (_ : β) (_ : γ) (_ : δ) : Bool := false
noncomputable def o1 {α : Type} (_ : α) : Bool := true
noncomputable def o2 {α β : Type} (_ : α) (_ : β) : Bool := true
noncomputable def o3 {α β γ : Type} (_ : α) (_ : β) (_ : γ) : Bool := true
noncomputable def o4 {α β γ δ : Type} (_ : α) (_ : β) (_ : γ) (_ : δ) : Bool := true
theorem y2 {α β : Type} {G : α -> β -> Prop} (a : α) (b : β) (h : false = true) : G a b := nomatch h
theorem y3 {α β γ : Type} {G : α -> β -> γ -> Prop} (a : α) (b : β) (c : γ) (h : false = true) : G a b c := nomatch h
theorem y4 {α β γ δ : Type} {G : α -> β -> γ -> δ -> Prop} (a : α) (b : β) (c : γ) (d : δ) (h : false = true) : G a b c d := nomatch h
noncomputable def onE (e : Expr) (f0 : Str -> Bool) (f1 : Const -> Bool) (f2 : List Expr -> Bool) (f3 : List Expr -> Bool) (f4 : List (Option Expr) -> List Expr -> Bool) (f5 : Expr -> Expr -> Bool) (f6 : Option Expr -> Option Expr -> Option Expr -> Bool) (f7 : Expr -> Operator -> Expr -> Bool) (f8 : UnaryOp -> Expr -> Bool) (f9 : Expr -> Expr -> Expr -> Bool) (f10 : PySem.BoolOp -> List Expr -> Bool) (f11 : Expr -> List CmpOp -> List Expr -> Bool) (f12 : Expr -> List Expr -> List Keyword -> Pos -> Bool) (f13 : Expr -> Str -> Pos -> Bool) (f14 : Expr -> List Comprehension -> Scope -> Bool) : Bool := match e with
 | .Name a _ => f0 a
 | .Constant a _ _ => f1 a
 | .Tuple a _ _ => f2 a
 | .List a _ => f3 a
 | .Dict a b _ => f4 a b
 | .Subscript a b _ => f5 a b
 | .Slice a b c _ => f6 a b c
 | .BinOp a b c _ => f7 a b c
 | .UnaryOp a b _ => f8 a b
 | .IfExp a b c _ => f9 a b c
 | .BoolOp a b _ => f10 a b
 | .Compare a b c _ => f11 a b c
 | .Call a b c d => f12 a b c d
 | .Attribute a b c => f13 a b c
 | .ListComp a b c _ => f14 a b c
 | _ => false
@[elab_as_elim] theorem onE_P {P : Expr -> Prop} {f0 : Str -> Bool} {f1 : Const -> Bool} {f2 : List Expr -> Bool} {f3 : List Expr -> Bool} {f4 : List (Option Expr) -> List Expr -> Bool} {f5 : Expr -> Expr -> Bool} {f6 : Option Expr -> Option Expr -> Option Expr -> Bool} {f7 : Expr -> Operator -> Expr -> Bool} {f8 : UnaryOp -> Expr -> Bool} {f9 : Expr -> Expr -> Expr -> Bool} {f10 : PySem.BoolOp -> List Expr -> Bool} {f11 : Expr -> List CmpOp -> List Expr -> Bool} {f12 : Expr -> List Expr -> List Keyword -> Pos -> Bool} {f13 : Expr -> Str -> Pos -> Bool} {f14 : Expr -> List Comprehension -> Scope -> Bool} (h : onE e f0 f1 f2 f3 f4 f5 f6 f7 f8 f9 f10 f11 f12 f13 f14 = true) (k0 : ∀ a b, f0 a = true -> P (.Name a b)) (k1 : ∀ a b c, f1 a = true -> P (.Constant a b c)) (k2 : ∀ a b c, f2 a = true -> P (.Tuple a b c)) (k3 : ∀ a b, f3 a = true -> P (.List a b)) (k4 : ∀ a b c, f4 a b = true -> P (.Dict a b c)) (k5 : ∀ a b c, f5 a b = true -> P (.Subscript a b c)) (k6 : ∀ a b c d, f6 a b c = true -> P (.Slice a b c d)) (k7 : ∀ a b c d, f7 a b c = true -> P (.BinOp a b c d)) (k8 : ∀ a b c, f8 a b = true -> P (.UnaryOp a b c)) (k9 : ∀ a b c d, f9 a b c = true -> P (.IfExp a b c d)) (k10 : ∀ a b c, f10 a b = true -> P (.BoolOp a b c)) (k11 : ∀ a b c d, f11 a b c = true -> P (.Compare a b c d)) (k12 : ∀ a b c d, f12 a b c d = true -> P (.Call a b c d)) (k13 : ∀ a b c, f13 a b c = true -> P (.Attribute a b c)) (k14 : ∀ a b c d, f14 a b c = true -> P (.ListComp a b c d)) : P e := by
 cases e with
 | Name a b => exact k0 _ _ h
 | Constant a b c => exact k1 _ _ _ h
 | Tuple a b c => exact k2 _ _ _ h
 | List a b => exact k3 _ _ h
 | Dict a b c => exact k4 _ _ _ h
 | Subscript a b c => exact k5 _ _ _ h
 | Slice a b c d => exact k6 _ _ _ _ h
 | BinOp a b c d => exact k7 _ _ _ _ h
 | UnaryOp a b c => exact k8 _ _ _ h
 | IfExp a b c d => exact k9 _ _ _ _ h
 | BoolOp a b c => exact k10 _ _ _ h
 | Compare a b c d => exact k11 _ _ _ _ h
 | Call a b c d => exact k12 _ _ _ _ h
 | Attribute a b c => exact k13 _ _ _ h
 | ListComp a b c d => exact k14 _ _ _ _ h
 | _ => exact nB h
noncomputable def onName (e : Expr) (f : Str -> Bool) : Bool := onE e f z1 z1 z1 z2 z2 z3 z3 z2 z3 z2 z3 z4 z3 z3
theorem onName_e {f : Str -> Bool} (h : onName e f = true) (k : ∀ a b, e = .Name a b -> f a = true -> G) : G := onE_P (P := λe' => e' = e -> G) h (λa b h q => k a b q.symm h) y3 y3 y2 y3 y3 y4 y4 y3 y4 y3 y4 y4 y3 y4 rfl
noncomputable def onConst (e : Expr) (f : Const -> Bool) : Bool := onE e z1 f z1 z1 z2 z2 z3 z3 z2 z3 z2 z3 z4 z3 z3
theorem onConst_e {f : Const -> Bool} (h : onConst e f = true) (k : ∀ a b c, e = .Constant a b c -> f a = true -> G) : G := onE_P (P := λe' => e' = e -> G) h y2 (λa b c h q => k a b c q.symm h) y3 y2 y3 y3 y4 y4 y3 y4 y3 y4 y4 y3 y4 rfl
noncomputable def onTuple (e : Expr) (f : List Expr -> Bool) : Bool := onE e z1 z1 f z1 z2 z2 z3 z3 z2 z3 z2 z3 z4 z3 z3
theorem onTuple_e {f : List Expr -> Bool} (h : onTuple e f = true) (k : ∀ a b c, e = .Tuple a b c -> f a = true -> G) : G := onE_P (P := λe' => e' = e -> G) h y2 y3 (λa b c h q => k a b c q.symm h) y2 y3 y3 y4 y4 y3 y4 y3 y4 y4 y3 y4 rfl
noncomputable def onList (e : Expr) (f : List Expr -> Bool) : Bool := onE e z1 z1 z1 f z2 z2 z3 z3 z2 z3 z2 z3 z4 z3 z3
theorem onList_e {f : List Expr -> Bool} (h : onList e f = true) (k : ∀ a b, e = .List a b -> f a = true -> G) : G := onE_P (P := λe' => e' = e -> G) h y2 y3 y3 (λa b h q => k a b q.symm h) y3 y3 y4 y4 y3 y4 y3 y4 y4 y3 y4 rfl
noncomputable def onSub (e : Expr) (f : Expr -> Expr -> Bool) : Bool := onE e z1 z1 z1 z1 z2 f z3 z3 z2 z3 z2 z3 z4 z3 z3
theorem onSub_e {f : Expr -> Expr -> Bool} (h : onSub e f = true) (k : ∀ a b c, e = .Subscript a b c -> f a b = true -> G) : G := onE_P (P := λe' => e' = e -> G) h y2 y3 y3 y2 y3 (λa b c h q => k a b c q.symm h) y4 y4 y3 y4 y3 y4 y4 y3 y4 rfl
noncomputable def onSlice (e : Expr) (f : Option Expr -> Option Expr -> Option Expr -> Bool) : Bool := onE e z1 z1 z1 z1 z2 z2 f z3 z2 z3 z2 z3 z4 z3 z3
theorem onSlice_e {f : Option Expr -> Option Expr -> Option Expr -> Bool} (h : onSlice e f = true) (k : ∀ a b c d, e = .Slice a b c d -> f a b c = true -> G) : G := onE_P (P := λe' => e' = e -> G) h y2 y3 y3 y2 y3 y3 (λa b c d h q => k a b c d q.symm h) y4 y3 y4 y3 y4 y4 y3 y4 rfl
noncomputable def onBin (e : Expr) (f : Expr -> Operator -> Expr -> Bool) : Bool := onE e z1 z1 z1 z1 z2 z2 z3 f z2 z3 z2 z3 z4 z3 z3
theorem onBin_e {f : Expr -> Operator -> Expr -> Bool} (h : onBin e f = true) (k : ∀ a b c d, e = .BinOp a b c d -> f a b c = true -> G) : G := onE_P (P := λe' => e' = e -> G) h y2 y3 y3 y2 y3 y3 y4 (λa b c d h q => k a b c d q.symm h) y3 y4 y3 y4 y4 y3 y4 rfl
noncomputable def onUn (e : Expr) (f : UnaryOp -> Expr -> Bool) : Bool := onE e z1 z1 z1 z1 z2 z2 z3 z3 f z3 z2 z3 z4 z3 z3
theorem onUn_e {f : UnaryOp -> Expr -> Bool} (h : onUn e f = true) (k : ∀ a b c, e = .UnaryOp a b c -> f a b = true -> G) : G := onE_P (P := λe' => e' = e -> G) h y2 y3 y3 y2 y3 y3 y4 y4 (λa b c h q => k a b c q.symm h) y4 y3 y4 y4 y3 y4 rfl
noncomputable def onIf (e : Expr) (f : Expr -> Expr -> Expr -> Bool) : Bool := onE e z1 z1 z1 z1 z2 z2 z3 z3 z2 f z2 z3 z4 z3 z3
theorem onIf_e {f : Expr -> Expr -> Expr -> Bool} (h : onIf e f = true) (k : ∀ a b c d, e = .IfExp a b c d -> f a b c = true -> G) : G := onE_P (P := λe' => e' = e -> G) h y2 y3 y3 y2 y3 y3 y4 y4 y3 (λa b c d h q => k a b c d q.symm h) y3 y4 y4 y3 y4 rfl
noncomputable def onAttr (e : Expr) (f : Expr -> Str -> Pos -> Bool) : Bool := onE e z1 z1 z1 z1 z2 z2 z3 z3 z2 z3 z2 z3 z4 f z3
theorem onAttr_e {f : Expr -> Str -> Pos -> Bool} (h : onAttr e f = true) (k : ∀ a b c, e = .Attribute a b c -> f a b c = true -> G) : G := onE_P (P := λe' => e' = e -> G) h y2 y3 y3 y2 y3 y3 y4 y4 y3 y4 y3 y4 y4 (λa b c h q => k a b c q.symm h) y4 rfl
noncomputable def onDict0 (e : Expr) (f : List (Option Expr) -> List Expr -> Bool) : Bool := onE e z1 z1 z1 z1 f z2 z3 z3 z2 z3 z2 z3 z4 z3 z3
theorem onDict0_e {f : List (Option Expr) -> List Expr -> Bool} (h : onDict0 e f = true) (k : ∀ a b c, e = .Dict a b c -> f a b = true -> G) : G := onE_P (P := λe' => e' = e -> G) h y2 y3 y3 y2 (λa b c h q => k a b c q.symm h) y3 y4 y4 y3 y4 y3 y4 y4 y3 y4 rfl
noncomputable def onBool0 (e : Expr) (f : PySem.BoolOp -> List Expr -> Bool) : Bool := onE e z1 z1 z1 z1 z2 z2 z3 z3 z2 z3 f z3 z4 z3 z3
theorem onBool0_e {f : PySem.BoolOp -> List Expr -> Bool} (h : onBool0 e f = true) (k : ∀ a b c, e = .BoolOp a b c -> f a b = true -> G) : G := onE_P (P := λe' => e' = e -> G) h y2 y3 y3 y2 y3 y3 y4 y4 y3 y4 (λa b c h q => k a b c q.symm h) y4 y4 y3 y4 rfl
noncomputable def onCmp0 (e : Expr) (f : Expr -> List CmpOp -> List Expr -> Bool) : Bool := onE e z1 z1 z1 z1 z2 z2 z3 z3 z2 z3 z2 f z4 z3 z3
theorem onCmp0_e {f : Expr -> List CmpOp -> List Expr -> Bool} (h : onCmp0 e f = true) (k : ∀ a b c d, e = .Compare a b c d -> f a b c = true -> G) : G := onE_P (P := λe' => e' = e -> G) h y2 y3 y3 y2 y3 y3 y4 y4 y3 y4 y3 (λa b c d h q => k a b c d q.symm h) y4 y3 y4 rfl
noncomputable def onCall0 (e : Expr) (f : Expr -> List Expr -> List Keyword -> Pos -> Bool) : Bool := onE e z1 z1 z1 z1 z2 z2 z3 z3 z2 z3 z2 z3 f z3 z3
theorem onCall0_e {f : Expr -> List Expr -> List Keyword -> Pos -> Bool} (h : onCall0 e f = true) (k : ∀ a b c d, e = .Call a b c d -> f a b c d = true -> G) : G := onE_P (P := λe' => e' = e -> G) h y2 y3 y3 y2 y3 y3 y4 y4 y3 y4 y3 y4 (λa b c d h q => k a b c d q.symm h) y3 y4 rfl
noncomputable def onComp0 (e : Expr) (f : Expr -> List Comprehension -> Scope -> Bool) : Bool := onE e z1 z1 z1 z1 z2 z2 z3 z3 z2 z3 z2 z3 z4 z3 f
theorem onComp0_e {f : Expr -> List Comprehension -> Scope -> Bool} (h : onComp0 e f = true) (k : ∀ a b c d, e = .ListComp a b c d -> f a b c = true -> G) : G := onE_P (P := λe' => e' = e -> G) h y2 y3 y3 y2 y3 y3 y4 y4 y3 y4 y3 y4 y4 y3 (λa b c d h q => k a b c d q.symm h) rfl
noncomputable def onSome (o : Option Expr) (f : Expr -> Bool) : Bool := match o with | some e => f e | none => false
theorem onSome_e {o : Option Expr} {f : Expr -> Bool} (h : onSome o f = true) (k : ∀ e, o = some e -> f e = true -> G) : G := by cases o <;> first | exact k _ rfl h | exact nB h
theorem nil_e {α : Type} {l : List α} (h : l.isEmpty = true) : l = [] := List.isEmpty_iff.mp h
noncomputable def isDict (e : Expr) : Bool := onDict0 e λa b => a.isEmpty && b.isEmpty
theorem isDict_e (h : isDict e = true) (k : ∀ p, e = .Dict [] [] p -> G) : G := onDict0_e h λa b p e h => aB h λh1 h2 => k p (by rw [e, nil_e h1, nil_e h2])
noncomputable def on1 {α : Type} (es : List α) (f : α -> Bool) : Bool := match es with | [a] => f a | _ => false
theorem on1_e {α : Type} {es : List α} {f : α -> Bool} (h : on1 es f = true) (k : ∀ a, es = [a] -> f a = true -> G) : G := by
 cases es with
 | nil => exact nB h
 | cons a r => cases r with
  | nil => exact k a rfl h
  | cons _ _ => exact nB h
noncomputable def on2 {α : Type} (es : List α) (f : α -> α -> Bool) : Bool := match es with | [a, b] => f a b | _ => false
theorem on2_e {α : Type} {es : List α} {f : α -> α -> Bool} (h : on2 es f = true) (k : ∀ a b, es = [a, b] -> f a b = true -> G) : G := by
 cases es with
 | nil => exact nB h
 | cons a r => cases r with
  | nil => exact nB h
  | cons b r => cases r with
   | nil => exact k a b rfl h
   | cons _ _ => exact nB h
noncomputable def onBool (e : Expr) (f : PySem.BoolOp -> Expr -> Expr -> Bool) : Bool := onBool0 e λo es => on2 es (f o)
theorem onBool_e {f : PySem.BoolOp -> Expr -> Expr -> Bool} (h : onBool e f = true) (k : ∀ o a b p, e = .BoolOp o [a, b] p -> f o a b = true -> G) : G :=
 onBool0_e h λo es p e h => on2_e h λa b q h => k o a b p (by rw [e, q]) h
noncomputable def onCmp (e : Expr) (f : Expr -> CmpOp -> Expr -> Bool) : Bool := onCmp0 e λa os bs => on1 os λo => on1 bs λb => f a o b
theorem onCmp_e {f : Expr -> CmpOp -> Expr -> Bool} (h : onCmp e f = true) (k : ∀ a o b p, e = .Compare a [o] [b] p -> f a o b = true -> G) : G :=
 onCmp0_e h λa os bs p e h => on1_e h λo q h => on1_e h λb q' h => k a o b p (by rw [e, q, q']) h
noncomputable def onCall (e : Expr) (f : Expr -> List Expr -> Pos -> Bool) : Bool := onCall0 e λa es ks q => ks.isEmpty && f a es q
theorem onCall_e {f : Expr -> List Expr -> Pos -> Bool} (h : onCall e f = true) (k : ∀ a es q, e = .Call a es [] q -> f a es q = true -> G) : G :=
 onCall0_e h λa es ks q e h => aB h λh1 h => k a es q (by rw [e, nil_e h1]) h
noncomputable def onCallN (e : Expr) (nm : Str) (f : List Expr -> Bool) : Bool := onCall e λa es _ => onName a λn => n == nm && f es
theorem onCallN_e {nm : Str} {f : List Expr -> Bool} (h : onCallN e nm f = true) (k : ∀ p es q, e = .Call (.Name nm p) es [] q -> f es = true -> G) : G :=
 onCall_e h λa es q e1 h => onName_e h λn p e2 h => aB h λh1 h => k p es q (by rw [e1, e2, eq_of_beq h1]) h
noncomputable def onMeth (e : Expr) (nm : Str) (f : Expr -> List Expr -> Bool) : Bool := onCall e λa es q => onAttr a λo n p => n == nm && (p.endLine == q.line && f o es)
theorem onMeth_e {nm : Str} {f : Expr -> List Expr -> Bool} (h : onMeth e nm f = true) (k : ∀ o p es q, e = .Call (.Attribute o nm p) es [] q -> (p.endLine == q.line) = true -> f o es = true -> G) : G :=
 onCall_e h λa es q e1 h => onAttr_e h λo n p e2 h => aB h λh1 h => aB h λh2 h => k o p es q (by rw [e1, e2, eq_of_beq h1]) h2 h
noncomputable def onComp (e : Expr) (f : Expr -> Expr -> Expr -> List Expr -> Scope -> Bool) : Bool := onComp0 e λee gs scc => on1 gs λc => c.is_async == 0 && f ee c.target c.iter c.ifs scc
theorem onComp_e {f : Expr -> Expr -> Expr -> List Expr -> Scope -> Bool} (h : onComp e f = true) (k : ∀ ee tg it ifs scc p, e = .ListComp ee [⟨tg, it, ifs, 0⟩] scc p -> f ee tg it ifs scc = true -> G) : G :=
 onComp0_e h λee gs scc p e h => on1_e h λc q h => by
  obtain ⟨tg, it, ifs, n⟩ := c
  exact aB h λh1 h => k ee tg it ifs scc p (by rw [e, q, (eq_of_beq h1 : n = 0)]) h
noncomputable def notStar (e : Expr) : Bool := onE e o1 o1 o1 o1 o2 o2 z3 o3 o2 o3 o2 o3 o4 o3 o3
theorem plain_e {P : Expr -> Prop} (h : notStar e = true) (k0 : ∀ a b, P (.Name a b)) (k1 : ∀ a b c, P (.Constant a b c)) (k2 : ∀ a b c, P (.Tuple a b c)) (k3 : ∀ a b, P (.List a b)) (k4 : ∀ a b c, P (.Dict a b c)) (k5 : ∀ a b c, P (.Subscript a b c)) (k7 : ∀ a b c d, P (.BinOp a b c d)) (k8 : ∀ a b c, P (.UnaryOp a b c)) (k9 : ∀ a b c d, P (.IfExp a b c d)) (k10 : ∀ a b c, P (.BoolOp a b c)) (k11 : ∀ a b c d, P (.Compare a b c d)) (k12 : ∀ a b c d, P (.Call a b c d)) (k13 : ∀ a b c, P (.Attribute a b c)) (k14 : ∀ a b c d, P (.ListComp a b c d)) : P e := onE_P h (λa b _ => k0 a b) (λa b c _ => k1 a b c) (λa b c _ => k2 a b c) (λa b _ => k3 a b) (λa b c _ => k4 a b c) (λa b c _ => k5 a b c) y4 (λa b c d _ => k7 a b c d) (λa b c _ => k8 a b c) (λa b c d _ => k9 a b c d) (λa b c _ => k10 a b c) (λa b c d _ => k11 a b c d) (λa b c d _ => k12 a b c d) (λa b c _ => k13 a b c) (λa b c d _ => k14 a b c d)
theorem star_cons (h : notStar e = true) (es : List Expr) (env : Env) : starEach (e :: es) env = (false, eval e env) :: starEach es env := plain_e (P := λe => starEach (e :: es) env = (false, eval e env) :: starEach es env) h (λ_ _ => rfl) (λ_ _ _ => rfl) (λ_ _ _ => rfl) (λ_ _ => rfl) (λ_ _ _ => rfl) (λ_ _ _ => rfl) (λ_ _ _ _ => rfl) (λ_ _ _ => rfl) (λ_ _ _ _ => rfl) (λ_ _ _ => rfl) (λ_ _ _ _ => rfl) (λ_ _ _ _ => rfl) (λ_ _ _ => rfl) (λ_ _ _ _ => rfl)
theorem star1 (h : notStar e = true) (env : Env) : starEach [e] env = [(false, eval e env)] := star_cons h [] env
theorem star2 {f : Expr} (h : notStar e = true) (h' : notStar f = true) (env : Env) : starEach [e, f] env = [(false, eval e env), (false, eval f env)] := (star_cons h _ env).trans (congrArg _ (star1 h' env))
theorem sub_of (h : notStar e = true) (o i : Value) : subscripted e false o i = operate [o, i] (getItem o i) := plain_e (P := λe => subscripted e false o i = operate [o, i] (getItem o i)) h (λ_ _ => rfl) (λ_ _ _ => rfl) (λ_ _ _ => rfl) (λ_ _ => rfl) (λ_ _ _ => rfl) (λ_ _ _ => rfl) (λ_ _ _ _ => rfl) (λ_ _ _ => rfl) (λ_ _ _ _ => rfl) (λ_ _ _ => rfl) (λ_ _ _ _ => rfl) (λ_ _ _ _ => rfl) (λ_ _ _ => rfl) (λ_ _ _ _ => rfl)
theorem fold_of (h : notStar e = true) (env : Env) (x : Value) : foldedSetIterable e env x = pure x := plain_e (P := λe => foldedSetIterable e env x = pure x) h (λ_ _ => rfl) (λ_ _ _ => rfl) (λ_ _ _ => rfl) (λ_ _ => rfl) (λ_ _ _ => rfl) (λ_ _ _ => rfl) (λ_ _ _ _ => rfl) (λ_ _ _ => rfl) (λ_ _ _ _ => rfl) (λ_ _ _ => rfl) (λ_ _ _ _ => rfl) (λ_ _ _ _ => rfl) (λ_ _ _ => rfl) (λ_ _ _ _ => rfl)
noncomputable def attrB (e : Expr) : Bool := onE e o1 z1 z1 z1 z2 o2 z3 z3 z2 z3 z2 z3 z4 o3 z3
theorem attr_of {a : Str} {p : Pos} (h : attrB e = true) : attrEq e a p := onE_P (P := λe => attrEq e a p) h (λ_ _ _ => λ_ => rfl) y3 y3 y2 y3 (λ_ _ _ _ => λ_ => rfl) y4 y4 y3 y4 y3 y4 y4 (λ_ _ _ _ => λ_ => rfl) y4
theorem base_of {a : Str} (h : attrB e = true) (env : Env) : attributeBase e a env (eval e env) = eval e env := onE_P (P := λe => attributeBase e a env (eval e env) = eval e env) h (λ_ _ _ => rfl) y3 y3 y2 y3 (λ_ _ _ _ => rfl) y4 y4 y3 y4 y3 y4 y4 (λ_ _ _ _ => rfl) y4
end
noncomputable def scB (sc scc : Scope) (ts fre : List Nat) : Bool := decide (scc.kind = .function /\ (∀ p ∈ scc.names, p.2 ≠ .cell) /\ (∀ t ∈ ts, scc.names.lookup (vN t) = some .local) /\ (∀ p ∈ scc.names, p.2 = .local -> scc.names.lookup p.1 = some .local) /\
 (∀ i ∈ fre, scc.names.lookup (vN i) = some .free /\ (vN i, NameKind.free) ∈ scc.names) /\ (∀ p ∈ scc.names, p.2 = .free -> ∃ i ∈ fre, p.1 = vN i) /\ ∀ i ∈ fre, sc.names.lookup (vN i) = some .cell \/ sc.names.lookup (vN i) = some .free)
theorem scB_e {sc scc : Scope} {ts fre : List Nat} (h : scB sc scc ts fre = true) : ScC sc scc ts fre := have h := of_decide_eq_true h; ⟨h.1, h.2.1, h.2.2.1, h.2.2.2.1, h.2.2.2.2.1, h.2.2.2.2.2.1, h.2.2.2.2.2.2⟩
noncomputable def tB (ts : List Nat) (tg : Expr) : Bool := match ts with
 | [x] => onName tg λn => n == vN x && decide (x < 48)
 | [x, y] => onTuple tg λes => on2 es λa b => onName a λn => onName b λm => n == vN x && (m == vN y && (decide (x < 48 /\ y < 48) && !(vN x == vN y)))
 | _ => false
theorem tB_e {tg : Expr} : ∀ {ts : List Nat}, tB ts tg = true -> IsT ts tg
 | [], h => nB h
 | [x], h => onName_e h λn p e h => aB h λh1 h => by rw [e, eq_of_beq h1]; exact .one (of_decide_eq_true h)
 | [x, y], h => onTuple_e h λes k r e h => on2_e h λa b e1 h => onName_e h λn p e2 h => onName_e h λm q e3 h => aB h λh1 h => aB h λh2 h => aB h λh3 h => by
  rw [e, e1, e2, e3, eq_of_beq h1, eq_of_beq h2]; exact .two (of_decide_eq_true h3).1 (of_decide_eq_true h3).2 (fB h)
 | _ :: _ :: _ :: _, h => nB h
noncomputable def cstB : D -> Const -> Bool
 | .none, .none => true
 | .bool b, .bool c => b == c
 | .int i, .int j => i == j
 | .str i, .str s => decide (i < 39) && s == sN i
 | _, _ => false
noncomputable def allX (f : X -> Expr -> Bool) : List X -> List Expr -> Bool
 | [], [] => true
 | x :: xs, e :: es => notStar e && (f x e && allX f xs es)
 | _, _ => false
noncomputable def dbg (i : Nat) : Bool := !(vN i == ("__debug__" : Str))
noncomputable def call1B (e : Expr) (sc : Scope) (nm : Str) (f : Expr -> Bool) : Bool := glb sc nm && onCallN e nm λes => on1 es λa => notStar a && f a
noncomputable def call2B (e : Expr) (sc : Scope) (nm : Str) (f : Expr -> Expr -> Bool) : Bool := glb sc nm && onCallN e nm λes => on2 es λa b => notStar a && (notStar b && f a b)
noncomputable def isRev (e : Expr) : Bool := onSlice e λa b c => a.isNone && (b.isNone && onSome c λu => onUn u λo d => decide (o = .USub) && onConst d λk => cstB (.int 1) k)
noncomputable def isNil (e : Expr) : Bool := onList e λes => es.isEmpty
noncomputable def ifB (f : X -> Expr -> Bool) (c : Option X) (ifs : List Expr) : Bool := match c with
 | none => ifs.isEmpty
 | some c => on1 ifs λce => bx c && f c ce
noncomputable def chkE : Nat -> Scope -> X -> Expr -> Bool
 | 0, _, _, _ => false
 | n + 1, sc, x, e => match x with
  | .var i => dbg i && onName e λm => m == vN i
  | .cst d => onConst e λc => cstB d c
  | .tup xs => onTuple e λes => allX (chkE n sc) xs es
  | .lst xs => onList e λes => allX (chkE n sc) xs es
  | .emp => isDict e
  | .idx x y => onSub e λa i => notStar i && (chkE n sc x a && chkE n sc y i)
  | .rev x => onSub e λa i => isRev i && chkE n sc x a
  | .upto x y => onSub e λa i => onSlice i λp q r => p.isNone && (r.isNone && (onSome q λu => chkE n sc x a && chkE n sc y u))
  | .cmp op x y => onCmp e λa o b => decide (o = op) && (!(behindInMarks op b) && (chkE n sc x a && chkE n sc y b))
  | .and x y => onBool e λo a b => decide (o = .And) && (bx x && (bx y && (chkE n sc x a && chkE n sc y b)))
  | .or x y => onBool e λo a b => decide (o = .Or) && (bx x && (bx y && (chkE n sc x a && chkE n sc y b)))
  | .not x => onUn e λo a => decide (o = .Not) && (bx x && chkE n sc x a)
  | .ite t x y => onIf e λc a b => bx t && (chkE n sc t c && (chkE n sc x a && chkE n sc y b))
  | .bin op x y => onBin e λa o b => decide (o = op) && (chkE n sc x a && chkE n sc y b)
  | .neg x => onUn e λo a => decide (o = .USub) && chkE n sc x a
  | .call f xs => decide (f < 28) && (glb sc (fN f) && onCallN e (fN f) λes => allX (chkE n sc) xs es)
  | .clo v x => dbg v && onCallN e (vN v) λes => on1 es λa => notStar a && chkE n sc x a
  | .len x => call1B e sc "len" (chkE n sc x)
  | .tuple x => call1B e sc "tuple" (chkE n sc x)
  | .list x => call1B e sc "list" (chkE n sc x)
  | .rng x => call1B e sc "range" (chkE n sc x)
  | .b2i x => call1B e sc "int" (chkE n sc x)
  | .dzip x y => call1B e sc "dict" fun z => call2B z sc "zip" fun a b => chkE n sc x a && chkE n sc y b
  | .max2 x y => call2B e sc "max" fun a b => chkE n sc x a && chkE n sc y b
  | .srcl xs => onList e λes => allX (chkE n sc) xs es
  | .lenO y => dbg y && call1B e sc "len" fun a => onName a fun m => m == vN y
  | .glob => glb sc "MOST_TYPES" && onName e fun m => m == "MOST_TYPES"
  | .get x y z => onMeth e "get" fun o es => attrB o && (on2 es fun a b => notStar a && (notStar b && (chkE n sc x o && (chkE n sc y a && chkE n sc z b))))
  | .attr x i => onAttr e λo a _ => a == aN i && (attrB o && chkE n sc x o)
  | .comp x ts fre y c => onComp e λee tg it ifs scc => scB sc scc ts fre && (tB ts tg && (notStar it && (chkE n scc x ee && (chkE n sc y it && ifB (chkE n scc) c ifs))))
  | .inn neg x y => dbg y && onCmp e λa o b => decide (o = if neg then .NotIn else .In) && (onName b (λm => m == vN y) && chkE n sc x a)
  | .nem y => dbg y && onCmp e λa o b => decide (o = .NotEq) && (onName a (λm => m == vN y) && isNil b)
  | .ext _ _ => false
section
variable {g : Gh} {sc : Scope} {e : Expr} {x y : X} {f : X -> Expr -> Bool} {G : Prop}
theorem dbg_e {i : Nat} (h : dbg i = true) : (vN i == ("__debug__" : Str)) = false := fB h
theorem allX_e {P : Scope -> X -> Expr -> Prop} (k : ∀ x e, f x e = true -> P sc x e) : ∀ {xs : List X} {es : List Expr}, allX f xs es = true -> Es P sc xs es
 | [], [], _ => .nil
 | x :: xs, e :: es, h => aB h λh1 h => aB h λh2 h => .cons (λenv => star_cons h1 es env) (k x e h2) (allX_e k h)
 | [], _ :: _, h => nB h
 | _ :: _, [], h => nB h
theorem call1B_e {nm : Str} {f : Expr -> Bool} {P : Expr -> Prop} (h : call1B e sc nm f = true) (k : ∀ p a q, glb sc nm = true -> callEq (.Name nm p) [a] q -> (∀ env, starEach [a] env = [(false, eval a env)]) -> f a = true -> P (.Call (.Name nm p) [a] [] q)) : P e :=
 aB h λh1 h => onCallN_e h λp es q e1 h => on1_e h λa e2 h => aB h λh2 h => by rw [e1, e2]; exact k p a q h1 (λ_ => rfl) (star1 h2) h
theorem call2B_e {nm : Str} {f : Expr -> Expr -> Bool} {P : Expr -> Prop} (h : call2B e sc nm f = true) (k : ∀ p a b q, glb sc nm = true -> callEq (.Name nm p) [a, b] q -> (∀ env, starEach [a, b] env = [(false, eval a env), (false, eval b env)]) -> f a b = true -> P (.Call (.Name nm p) [a, b] [] q)) : P e :=
 aB h λh1 h => onCallN_e h λp es q e1 h => on2_e h λa b e2 h => aB h λh2 h => aB h λh3 h => by rw [e1, e2]; exact k p a b q h1 (λ_ => rfl) (star2 h2 h3) h
theorem none_e {α : Type} {o : Option α} (h : o.isNone = true) : o = none := Option.isNone_iff_eq_none.mp h
theorem cst_of {d : D} {k : Nat} {p : Pos} {c : Const} {P : Scope -> X -> Expr -> Prop} (h : cstB d c = true) : IsE1 g P sc (.cst d) (.Constant c k p) := by
 cases d with
 | none => cases c <;> first | exact .none | exact nB h
 | bool b => cases c <;> first | exact (eq_of_beq h) ▸ .bool | exact nB h
 | int b => cases c <;> first | exact (eq_of_beq h) ▸ .int | exact nB h
 | str b => cases c <;> first | exact aB h λh1 h => (eq_of_beq h) ▸ .str (of_decide_eq_true h1) | exact nB h
 | _ => exact nB h
theorem rev_e (h : isRev e = true) (k : ∀ c p q r, e = .Slice none none (some (.UnaryOp .USub (.Constant (.int 1) c p) q)) r -> G) : G :=
 onSlice_e h λa b c r e1 h => aB h λh1 h => aB h λh2 h => onSome_e h λu e2 h => onUn_e h λo d q e3 h => aB h λh3 h => onConst_e h λv n p e4 h => by
  cases v with
  | int i => exact k n p q r (by rw [e1, none_e h1, none_e h2, e2, e3, of_decide_eq_true h3, e4, <- (eq_of_beq h : (1 : Int) = i)])
  | _ => exact nB h
def ChP (n : Nat) (sc : Scope) (x : X) (e : Expr) : Prop := chkE n sc x e = true
theorem chkE_out {n : Nat} (h : chkE (n + 1) sc x e = true) : IsE1 g (ChP n) sc x e := by
 cases x with
 | var i => exact aB h λh1 h => onName_e h λm p e1 h => by rw [e1, eq_of_beq h]; exact .var (dbg_e h1)
 | cst d => exact onConst_e h λc k p e1 h => e1 ▸ cst_of h
 | tup xs => exact onTuple_e h λes k p e1 h => e1 ▸ .tup (allX_e (λ_ _ h => h) h)
 | lst xs => exact onList_e h λes p e1 h => e1 ▸ .lst (allX_e (λ_ _ h => h) h)
 | emp => exact isDict_e h λp e1 => e1 ▸ .emp
 | idx x y => exact onSub_e h λa i p e1 h => aB h λh1 h => aB h λh2 h => e1 ▸ .idx (sub_of h1) h2 h
 | rev x => exact onSub_e h λa i p e1 h => aB h λh1 h => rev_e h1 λc p q r e2 => by rw [e1, e2]; exact .rev h
 | upto x y => exact onSub_e h λa i p e1 h => onSlice_e h λu v w r e2 h => aB h λh1 h => aB h λh2 h => onSome_e h λz e3 h => aB h λh3 h => by rw [e1, e2, none_e h1, none_e h2, e3]; exact .upto h3 h
 | cmp op x y => exact onCmp_e h λa o b p e1 h => aB h λh1 h => aB h λh2 h => aB h λh3 h => by rw [e1, of_decide_eq_true h1]; exact .cmp (fB h2) h3 h
 | and x y => exact onBool_e h λo a b p e1 h => aB h λh1 h => aB h λh2 h => aB h λh3 h => aB h λh4 h => by rw [e1, of_decide_eq_true h1]; exact .and h2 h3 h4 h
 | or x y => exact onBool_e h λo a b p e1 h => aB h λh1 h => aB h λh2 h => aB h λh3 h => aB h λh4 h => by rw [e1, of_decide_eq_true h1]; exact .or h2 h3 h4 h
 | not x => exact onUn_e h λo a p e1 h => aB h λh1 h => aB h λh2 h => by rw [e1, of_decide_eq_true h1]; exact .not h2 h
 | ite t x y => exact onIf_e h λc a b p e1 h => aB h λh1 h => aB h λh2 h => aB h λh3 h => e1 ▸ .ite h1 h2 h3 h
 | bin op x y => exact onBin_e h λa o b p e1 h => aB h λh1 h => aB h λh2 h => by rw [e1, of_decide_eq_true h1]; exact .bin h2 h
 | neg x => exact onUn_e h λo a p e1 h => aB h λh1 h => by rw [e1, of_decide_eq_true h1]; exact .neg h
 | call f xs => exact aB h λh1 h => aB h λh2 h => onCallN_e h λp es q e1 h => e1 ▸ .call (of_decide_eq_true h1) h2 (λ_ => rfl) (allX_e (λ_ _ h => h) h)
 | clo v x => exact aB h λh1 h => onCallN_e h λp es q e1 h => on1_e h λa e2 h => aB h λh2 h => by rw [e1, e2]; exact .clo (dbg_e h1) (λ_ => rfl) (star1 h2) h
 | len x => exact call1B_e h λp a q h1 h2 h3 h => .len h1 h2 h3 h
 | tuple x => exact call1B_e h λp a q h1 h2 h3 h => .tuple h1 h2 h3 h
 | list x => exact call1B_e h λp a q h1 h2 h3 h => .list h1 h2 h3 h
 | rng x => exact call1B_e h λp a q h1 h2 h3 h => .rng h1 h2 h3 h
 | b2i x => exact call1B_e h λp a q h1 h2 h3 h => .b2i h1 h2 h3 h
 | dzip x y => exact call1B_e h fun p a q h1 h2 h3 h => call2B_e (P := fun a => callEq (.Name "dict" p) [a] q → (∀ env, starEach [a] env = [(false, eval a env)]) → IsE1 g (ChP n) sc (.dzip x y) (.Call (.Name "dict" p) [a] [] q)) h (fun p' b c q' k1 k2 k3 h h2 h3 => aB h fun k4 h => .dzip h1 k1 h2 h3 k2 k3 k4 h) h2 h3
 | max2 x y => exact call2B_e h λp a b q h1 h2 h3 h => aB h λh4 h => .max2 h1 h2 h3 h4 h
 | srcl xs => exact onList_e h λes p e1 h => e1 ▸ .srcl (allX_e (λ_ _ h => h) h)
 | lenO y =>
  exact aB h λh1 h => call1B_e h λp a q h2 h3 h4 h => onName_e h λm r e1 h => by
   have e2 : a = .Name (vN y) r := by rw [e1, eq_of_beq h]
   subst e2
   exact .lenO (dbg_e h1) h2 h3 h4
 | glob => exact aB h λh1 h => onName_e h λm p e1 h => by rw [e1, eq_of_beq h]; exact .glob h1
 | get x y z =>
  exact onMeth_e h λo p es q e1 h1 h => aB h λh2 h => on2_e h λa b e2 h => aB h λh3 h => aB h λh4 h => aB h λh5 h => aB h λh6 h => by
   rw [e1, e2]
   exact .get (base_of h2) (λenv => by rw [star2 h3 h4]; rfl) h1 (λenv => by rw [star2 h3 h4]; rfl) h5 h6 h
 | attr x i => exact onAttr_e h λo a p e1 h => aB h λh1 h => aB h λh2 h => by rw [e1, eq_of_beq h1]; exact .attr (attr_of h2) h
 | comp x ts fre y c =>
  have h : onComp e (λee tg it ifs scc => scB sc scc ts fre && (tB ts tg && (notStar it && (chkE n scc x ee && (chkE n sc y it && ifB (chkE n scc) c ifs))))) = true := h
  exact onComp_e h λee tg it ifs scc p e1 h => aB h λh1 h => aB h λh2 h => aB h λh3 h => aB h λh4 h => aB h λh5 h => by
   rw [e1]
   cases c with
   | none => rw [nil_e h]; exact .comp0 (scB_e h1) (tB_e h2) (fold_of h3) h4 h5
   | some c => exact on1_e h λce e2 h => aB h λh6 h => by rw [e2]; exact .comp1 (scB_e h1) (tB_e h2) (fold_of h3) h4 h5 h6 h
 | inn neg x y => exact aB h λh1 h => onCmp_e h λa o b p e1 h => aB h λh2 h => aB h λh3 h => onName_e h3 λm r e2 h3 => by rw [e1, of_decide_eq_true h2, e2, eq_of_beq h3]; exact .inn (dbg_e h1) h
 | nem y => exact aB h λh1 h => onCmp_e h λa o b p e1 h => aB h λh2 h => aB h λh3 h => onName_e h3 λm r e2 h3 => onList_e h λes r' e3 h => by rw [e1, of_decide_eq_true h2, e2, eq_of_beq h3, e3, nil_e h]; exact .nem (dbg_e h1)
 | ext j vs => exact nB h
theorem chkE_ok (n : Nat) (sc : Scope) (x : X) (e : Expr) (h : chkE n sc x e = true) : IsE g sc x e := ⟨λsc x e => ∃ n, ChP n sc x e, λsc x e ⟨n, h⟩ => match n, h with | 0, h => nB h | n + 1, h => (chkE_out h).map λ_ _ _ q => ⟨n, q⟩, n, h⟩
end
noncomputable def envO (sc : Scope) : Env := { scope := sc, locals := 0, globals := 0, cells := [] }
noncomputable def onPure {α : Type} (t : Sem α) (f : α -> Bool) : Bool := match t with | .pure a => f a | _ => false
theorem onPure_e {α : Type} {P : Sem α -> Prop} {t : Sem α} {f : α -> Bool} (h : onPure t f = true) (k : ∀ a, f a = true -> P (.pure a)) : P t := by
 cases t with
 | pure a => exact k a h
 | _ => exact nB h
noncomputable def semO (t : Sem (Option (List Str))) (o : Option (List Str)) : Bool := onPure t λa => a == o
noncomputable def semB (t : Sem Bool) (b : Bool) : Bool := onPure t λa => a == b
theorem semO_e {t : Sem (Option (List Str))} {o : Option (List Str)} (h : semO t o = true) : t = pure o := onPure_e (P := λt => t = pure o) h λ_ h => congrArg Sem.pure (eq_of_beq h)
theorem semB_e {t : Sem Bool} {b : Bool} (h : semB t b = true) : t = pure b := onPure_e (P := λt => t = pure b) h λ_ h => congrArg Sem.pure (eq_of_beq h)
noncomputable def swB (sc : Scope) (v : Expr) (t : Option Expr) (line : Nat) (b : Bool) : Bool := semB (swapsWith v t line (envO sc)) b
theorem swB_e {sc : Scope} {v : Expr} {t : Option Expr} {line : Nat} {b : Bool} (h : swB sc v t line b = true) (env : Env) (q : env.scope = sc) : swapsWith v t line env = pure b := by
 subst q; exact semB_e (t := swapsWith v t line (envO env.scope)) h
noncomputable def sw2B (sc : Scope) (t v : Expr) (line : Nat) (o : Option (List Str)) : Bool := semB (swapsWithSole [t] v line (envO sc)) false && semO (swappedStores [t] v (envO sc)) o
theorem sw2B_e {sc : Scope} {t v : Expr} {line : Nat} {o : Option (List Str)} (h : sw2B sc t v line o = true) (env : Env) (q : env.scope = sc) : swapsWithSole [t] v line env = pure false /\ swappedStores [t] v env = pure o := by
 subst q; exact aB h λh1 h2 => ⟨semB_e (t := swapsWithSole [t] v line (envO env.scope)) h1, semO_e (t := swappedStores [t] v (envO env.scope)) h2⟩
noncomputable def exB (sc : Scope) (e : Expr) (pos : Pos) : Bool := !interactive (envO sc) && swB sc e none pos.line false
theorem exB_e {sc : Scope} {e : Expr} {pos : Pos} (h : exB sc e pos = true) : exprEq sc e pos := λenv q => aB h λh1 h2 => ⟨by subst q; exact fB h1, swB_e h2 env q⟩
noncomputable def rhB (n : Nat) (sc : Scope) (r : RH) (e : Expr) : Bool := match r with
 | .v x => chkE n sc x e
 | .l xs => onList e λes => allX (chkE n sc) xs es
 | .d => isDict e
 | .p y => onMeth e "pop" fun o es => onName o (fun m => m == vN y) && es.isEmpty
noncomputable def allR (n : Nat) (sc : Scope) : List RH -> List Expr -> Bool
 | [], [] => true
 | r :: rs, e :: es => notStar e && (rhB n sc r e && allR n sc rs es)
 | _, _ => false
noncomputable def namesB : List Nat -> List Expr -> Bool
 | [], [] => true
 | x :: xs, e :: es => onName e (λm => m == vN x) && namesB xs es
 | _, _ => false
section
variable {g : Gh} {n : Nat} {sc : Scope} {e : Expr} {G : Prop}
theorem rhB_e {r : RH} (h : rhB n sc r e = true) : IsRH g sc r e := by
 cases r with
 | v x => exact .v (chkE_ok n sc x e h)
 | l xs => exact onList_e h λes p e1 h => e1 ▸ .l (allX_e (chkE_ok n sc) h)
 | d => exact isDict_e h λp e1 => e1 ▸ .d
 | p y => exact onMeth_e h λo p es q e1 h1 h => aB h λh2 h => onName_e h2 λm r e2 h2 => by rw [e1, e2, eq_of_beq h2, nil_e h]; exact .p (λ_ => rfl) (λ_ => rfl) h1
theorem allR_e : ∀ {rs : List RH} {es : List Expr}, allR n sc rs es = true -> IsRHs g sc rs es
 | [], [], _ => .nil
 | r :: rs, e :: es, h => aB h λh1 h => aB h λh2 h => .cons (λenv => star_cons h1 es env) (rhB_e h2) (allR_e h)
 | [], _ :: _, h => nB h
 | _ :: _, [], h => nB h
theorem namesB_e : ∀ {xs : List Nat} {es : List Expr}, namesB xs es = true -> IsNames xs es
 | [], [], _ => .nil
 | x :: xs, e :: es, h => aB h λh1 h => onName_e h1 λm p e1 h1 => by rw [e1, eq_of_beq h1]; exact .cons (namesB_e h)
 | [], _ :: _, h => nB h
 | _ :: _, [], h => nB h
end
noncomputable def asgB (n : Nat) (sc : Scope) (s : S) (t v : Expr) (pos : Pos) : Bool := match s with
 | .asg [x] [r] => onName t (λm => m == vN x) && (swB sc v (some t) pos.line false && (okT sc [x] && rhB n sc r v))
 | .asg [x, y] rr => (onTuple t λ_ => onTuple v λes => decide (x ≠ y) && (sw2B sc t v pos.line (some [vN x, vN y]) && (okT sc [x, y] && allR n sc rr es))) || (onTuple t λelts => onTuple v λes => namesB [x, y] elts && (sw2B sc t v pos.line none && (okT sc [x, y] && (decide (([x, y] : List Nat).length <= 100) && allR n sc rr es))))
 | .asg ts rr => onTuple t λelts => onTuple v λes => namesB ts elts && (sw2B sc t v pos.line none && (okT sc ts && (decide (ts.length <= 100) && allR n sc rr es)))
 | .acc x xs => onName t (λm => m == vN x) && (swB sc v (some t) pos.line false && (okT sc [x] && onList v λes => allX (chkE n sc) xs es))
 | .asgc x (.comp e ts fre y none) => onName t (λm => m == vN x) && (swB sc v (some t) pos.line true && (okT sc [x] && onComp v λee tg it ifs scc => ifs.isEmpty && (scB sc scc ts fre && (tB ts tg && (notStar it && (chkE n scc e ee && chkE n sc y it))))))
 | .srci i x => onSub t λo k => onName o (λm => m == vN 27) && (onConst k (λc => cstB (.int i) c) && (swB sc v (some t) pos.line false && (decide (i < 100) && chkE n sc x v)))
 | .seti y z x => onSub t λo k => onName o (λm => m == vN y) && (swB sc v (some t) pos.line false && (chkE n sc x v && chkE n sc z k))
 | .setw y z x => onSub t λo k => swB sc v (some t) pos.line false && (chkE n sc x v && (chkE n sc y o && chkE n sc z k))
 | _ => false
noncomputable def onS (st : Stmt) (fA : List Expr -> Expr -> Pos -> Bool) (fE : Expr -> Pos -> Bool) (fI : Expr -> List Stmt -> List Stmt -> Bool) (fW : Expr -> List Stmt -> List Stmt -> Bool) (fF : Expr -> Expr -> List Stmt -> List Stmt -> Bool) (fR : Option Expr -> Bool) : Bool := match st with
 | .Assign ts v pos => fA ts v pos
 | .Expr e pos => fE e pos
 | .If c a b _ => fI c a b
 | .While c a b _ => fW c a b
 | .For tg it a b _ => fF tg it a b
 | .Return o _ => fR o
 | _ => false
theorem onS_P {st : Stmt} {P : Stmt → Prop} {fA : List Expr → Expr → Pos → Bool} {fE : Expr → Pos → Bool} {fI fW : Expr → List Stmt → List Stmt → Bool} {fF : Expr → Expr → List Stmt → List Stmt → Bool} {fR : Option Expr → Bool} (h : onS st fA fE fI fW fF fR = true) (kA : ∀ a b c, fA a b c = true → P (.Assign a b c)) (kE : ∀ a b, fE a b = true → P (.Expr a b))
  (kI : ∀ a b c p, fI a b c = true -> P (.If a b c p)) (kW : ∀ a b c p, fW a b c = true -> P (.While a b c p)) (kF : ∀ a b c d p, fF a b c d = true -> P (.For a b c d p)) (kR : ∀ o p, fR o = true -> P (.Return o p)) : P st := by
 cases st with
 | Assign a b c => exact kA _ _ _ h
 | Expr a b => exact kE _ _ h
 | If a b c p => exact kI _ _ _ _ h
 | While a b c p => exact kW _ _ _ _ h
 | For a b c d p => exact kF _ _ _ _ _ h
 | Return o p => exact kR _ _ h
 | _ => exact nB h
noncomputable def stB (n : Nat) (sc : Scope) (f : List S -> List Stmt -> Bool) (s : S) (st : Stmt) : Bool := match s with
 | .app y x => onS st z3 (fun e pos => exB sc e pos && onMeth e "append" fun o es => onName o (fun m => m == vN y) && on1 es fun a => notStar a && chkE n sc x a) z3 z3 z4 z1
 | .ext y x => onS st z3 (fun e pos => exB sc e pos && onMeth e "extend" fun o es => onName o (fun m => m == vN y) && on1 es fun a => notStar a && chkE n sc x a) z3 z3 z4 z1
 | .exp x => onS st z3 (λe pos => exB sc e pos && chkE n sc x e) z3 z3 z4 z1
 | .ife t x y => onS st z3 z2 (λc a b => bx t && (chkE n sc t c && (f x a && f y b))) z3 z4 z1
 | .whl t x => onS st z3 z2 z3 (λc a b => b.isEmpty && (bx t && (chkE n sc t c && f x a))) z4 z1
 | .fore ts x y => onS st z3 z2 z3 z3 (λtg it a b => b.isEmpty && (tB ts tg && (okT sc ts && (notStar it && (chkE n sc x it && f y a))))) z1
 | .foro x y z => onS st z3 z2 z3 z3 (λtg it a b => b.isEmpty && (onName tg (λm => m == vN x) && (onName it (λm => m == vN y) && (okT sc [x] && f z a)))) z1
 | .ret x => onS st z3 z2 z3 z3 z4 λo => onSome o λe => chkE n sc x e
 | .reto y => onS st z3 z2 z3 z3 z4 λo => onSome o λe => onName e λm => m == vN y
 | s => onS st (λts v pos => on1 ts λt => asgB n sc s t v pos) z2 z3 z3 z4 z1
noncomputable def kd : S -> Nat
 | .dead => 0
 | .frz _ => 1
 | _ => 2
theorem kd_0 {s : S} (h : kd s = 0) : s = .dead := by
 cases s with
 | dead => rfl
 | _ => exact nomatch h
theorem kd_1 {s : S} (h : kd s = 1) : ∃ y, s = .frz y := by
 cases s with
 | frz y => exact ⟨y, rfl⟩
 | _ => exact nomatch h
noncomputable def chkW (f : List S -> List Stmt -> Bool) (sc : Scope) (s : S) (rest : List S) : List Stmt -> Nat -> Bool
 | _, 0 => true
 | sts, 1 => f rest sts
 | [], _ => false
 | st :: sts, _ => stB 15 sc f s st && f rest sts
noncomputable def chkS : Nat -> Scope -> List S -> List Stmt -> Bool
 | 0, _, _, _ => false
 | n + 1, sc, ss, sts => match ss with
  | [] => sts.isEmpty
  | s :: rest => chkW (chkS n sc) sc s rest sts (kd s)
noncomputable def chkT (n : Nat) (sc : Scope) : Nat -> List S -> List Stmt -> Bool
 | 0, _, _ => true
 | k + 1, s :: ss, st :: sts => stB 15 sc (chkS n sc) s st && chkT n sc k ss sts
 | _, _, _ => false
section
variable {g : Gh} {n : Nat} {sc : Scope} {f : List S -> List Stmt -> Bool} {s : S} {rest : List S} {rs : List Stmt}
theorem onVar_P {x : Nat} {P : Expr -> Prop} {t : Expr} (h : onName t (λm => m == vN x) = true) (k : ∀ p, P (.Name (vN x) p)) : P t := onName_e h λm p e h => by rw [e, eq_of_beq h]; exact k p
theorem onTuple_P {f : List Expr -> Bool} {P : Expr -> Prop} {t : Expr} (h : onTuple t f = true) (k : ∀ es n p, f es = true -> P (.Tuple es n p)) : P t := onTuple_e h λes n p e h => by rw [e]; exact k es n p h
theorem onList_P {f : List Expr -> Bool} {P : Expr -> Prop} {t : Expr} (h : onList t f = true) (k : ∀ es p, f es = true -> P (.List es p)) : P t := onList_e h λes p e h => by rw [e]; exact k es p h
theorem onSub_P {f : Expr -> Expr -> Bool} {P : Expr -> Prop} {t : Expr} (h : onSub t f = true) (k : ∀ a i p, f a i = true -> P (.Subscript a i p)) : P t := onSub_e h λa i p e h => by rw [e]; exact k a i p h
theorem onInt_P {i : Int} {P : Expr -> Prop} {t : Expr} (h : onConst t (λc => cstB (.int i) c) = true) (k : ∀ n p, P (.Constant (.int i) n p)) : P t := onConst_e h λc n p e h => by
 cases c with
 | int j => rw [e, <- (eq_of_beq h : i = j)]; exact k n p
 | _ => exact nB h
abbrev AsgP (g : Gh) (sc : Scope) (Z : List S -> List Stmt -> Prop) (s : S) (rest : List S) (rs : List Stmt) (pos : Pos) (b : Bool) (v t : Expr) : Prop := swB sc v (some t) pos.line b = true -> IsS1 g sc Z (s :: rest) (.Assign [t] v pos :: rs)
variable {Z : List S -> List Stmt -> Prop}
section
variable {t v : Expr} {pos : Pos} {x y i : Nat} {rr : List RH} {ts : List Nat}
theorem as_1 {r : RH} (hr : Z rest rs) (h : (onName t (λm => m == vN x) && (swB sc v (some t) pos.line false && (okT sc [x] && rhB n sc r v))) = true) : IsS1 g sc Z (.asg [x] [r] :: rest) (.Assign [t] v pos :: rs) :=
 aB h λh1 h => aB h λh2 h => aB h λh3 h => onVar_P (P := AsgP g sc Z _ rest rs pos false v) h1 (λp h2 => .asg1 (swB_e h2) h3 (rhB_e h) hr) h2
theorem as_2 (hr : Z rest rs) (h : (onTuple t λ_ => onTuple v λes => decide (x ≠ y) && (sw2B sc t v pos.line (some [vN x, vN y]) && (okT sc [x, y] && allR n sc rr es))) = true) : IsS1 g sc Z (.asg [x, y] rr :: rest) (.Assign [t] v pos :: rs) :=
 onTuple_P (P := λt' => t = t' -> IsS1 g sc Z (.asg [x, y] rr :: rest) (.Assign [t'] v pos :: rs)) h (λelts k1 p1 h q => onTuple_P (P := λv' => v = v' -> IsS1 g sc Z (.asg [x, y] rr :: rest) (.Assign [.Tuple elts k1 p1] v' pos :: rs)) h (λes k2 p2 h q' => aB h λh1 h => aB h λh2 h => aB h λh3 h => .asg2 (of_decide_eq_true h1) (sw2B_e (q ▸ q' ▸ h2)) h3 (allR_e h) hr) rfl) rfl
theorem as_n (hr : Z rest rs) (h : (onTuple t λelts => onTuple v λes => namesB ts elts && (sw2B sc t v pos.line none && (okT sc ts && (decide (ts.length <= 100) && allR n sc rr es)))) = true) : IsS1 g sc Z (.asg ts rr :: rest) (.Assign [t] v pos :: rs) :=
 onTuple_P (P := λt' => t = t' -> IsS1 g sc Z (.asg ts rr :: rest) (.Assign [t'] v pos :: rs)) h (λelts k1 p1 h q => onTuple_P (P := λv' => v = v' -> IsS1 g sc Z (.asg ts rr :: rest) (.Assign [.Tuple elts k1 p1] v' pos :: rs)) h (λes k2 p2 h q' => aB h λh1 h => aB h λh2 h => aB h λh3 h => aB h λh4 h => .asgn (namesB_e h1) (sw2B_e (q ▸ q' ▸ h2)) h3 (of_decide_eq_true h4) (allR_e h) hr) rfl) rfl
theorem as_acc {xs : List X} (hr : Z rest rs) (h : (onName t (λm => m == vN x) && (swB sc v (some t) pos.line false && (okT sc [x] && onList v λes => allX (chkE n sc) xs es))) = true) : IsS1 g sc Z (.acc x xs :: rest) (.Assign [t] v pos :: rs) :=
 aB h λh1 h => aB h λh2 h => aB h λh3 h => onVar_P (P := AsgP g sc Z _ rest rs pos false v) h1 (λp h2 => onList_P (P := λv => swB sc v (some (.Name (vN x) p)) pos.line false = true -> IsS1 g sc Z (.acc x xs :: rest) (.Assign [.Name (vN x) p] v pos :: rs)) h (λes q h h2 => .acc (swB_e h2) h3 (allX_e (chkE_ok n sc) h) hr) h2) h2
theorem as_c {e y : X} {fre : List Nat} (hr : Z rest rs) (h : (onName t (λm => m == vN x) && (swB sc v (some t) pos.line true && (okT sc [x] && onComp v λee tg it ifs scc => ifs.isEmpty && (scB sc scc ts fre && (tB ts tg && (notStar it && (chkE n scc e ee && chkE n sc y it))))))) = true) : IsS1 g sc Z (.asgc x (.comp e ts fre y none) :: rest) (.Assign [t] v pos :: rs) :=
 aB h λh1 h => aB h λh2 h => aB h λh3 h => onVar_P (P := AsgP g sc Z _ rest rs pos true v) h1 (λq h2 => onComp_e h λee tg it ifs scc p e2 h => aB h λh4 h => aB h λh5 h => aB h λh6 h => aB h λh7 h => aB h λh8 h => by
  rw [e2, nil_e h4] at h2 ⊢
  exact .asgc (swB_e h2) h3 (scB_e h5) (tB_e h6) (fold_of h7) (chkE_ok _ _ _ _ h8) (chkE_ok _ _ _ _ h) hr) h2
theorem as_i {a : X} (hr : Z rest rs) (h : (onSub t λo k => onName o (λm => m == vN 27) && (onConst k (λc => cstB (.int i) c) && (swB sc v (some t) pos.line false && (decide (i < 100) && chkE n sc a v)))) = true) : IsS1 g sc Z (.srci i a :: rest) (.Assign [t] v pos :: rs) :=
 onSub_P (P := λt' => t = t' -> IsS1 g sc Z (.srci i a :: rest) (.Assign [t'] v pos :: rs)) h (λo k r h q => aB h λh1 h => aB h λh2 h => aB h λh3 h => aB h λh4 h => onVar_P (P := λo => AsgP g sc Z (.srci i a) rest rs pos false v (.Subscript o k r)) h1 (λp => onInt_P (P := λk => AsgP g sc Z (.srci i a) rest rs pos false v (.Subscript (.Name (vN 27) p) k r)) h2 λj p' h3 => .srci (swB_e h3) (of_decide_eq_true h4) (chkE_ok _ _ _ _ h) hr) (q ▸ h3)) rfl
theorem as_s {a z : X} (hr : Z rest rs) (h : (onSub t λo k => onName o (λm => m == vN y) && (swB sc v (some t) pos.line false && (chkE n sc a v && chkE n sc z k))) = true) : IsS1 g sc Z (.seti y z a :: rest) (.Assign [t] v pos :: rs) :=
 onSub_P (P := λt' => t = t' -> IsS1 g sc Z (.seti y z a :: rest) (.Assign [t'] v pos :: rs)) h (λo k r h q => aB h λh1 h => aB h λh2 h => aB h λh3 h => onVar_P (P := λo => AsgP g sc Z (.seti y z a) rest rs pos false v (.Subscript o k r)) h1 (λp h2 => .seti (swB_e h2) (chkE_ok _ _ _ _ h3) (chkE_ok _ _ _ _ h) hr) (q ▸ h2)) rfl
theorem as_w {a z o' : X} (hr : Z rest rs) (h : (onSub t λo k => swB sc v (some t) pos.line false && (chkE n sc a v && (chkE n sc o' o && chkE n sc z k))) = true) : IsS1 g sc Z (.setw o' z a :: rest) (.Assign [t] v pos :: rs) :=
 onSub_P (P := λt' => t = t' -> IsS1 g sc Z (.setw o' z a :: rest) (.Assign [t'] v pos :: rs)) h (λo k r h q => aB h λh1 h => aB h λh2 h => aB h λh3 h => .setw (swB_e (q ▸ h1)) (chkE_ok _ _ _ _ h2) (chkE_ok _ _ _ _ h3) (chkE_ok _ _ _ _ h) hr) rfl
end
theorem asgB_ok {t v : Expr} {pos : Pos} (h : asgB n sc s t v pos = true) (hr : Z rest rs) : IsS1 g sc Z (s :: rest) (.Assign [t] v pos :: rs) := by
 cases s with
 | asg ts rr =>
  cases ts with
  | nil => exact as_n hr h
  | cons x ts => cases ts with
   | nil => cases rr with
    | nil => exact as_n hr h
    | cons r rr => cases rr with
     | nil => exact as_1 hr h
     | cons _ _ => exact as_n hr h
   | cons y ts => cases ts with
    | nil => exact ((Bool.or_eq_true _ _).mp h).elim (λh => as_2 hr h) λh => as_n hr h
    | cons _ _ => exact as_n hr h
 | acc x xs => exact as_acc hr h
 | asgc x c =>
  cases c with
  | comp e ts fre y cnd => cases cnd with
   | none => exact as_c hr h
   | some _ => exact nB h
  | _ => exact nB h
 | srci i x => exact as_i hr h
 | seti y z x => exact as_s hr h
 | setw y z x => exact as_w hr h
 | _ => exact nB h
theorem meth_ok {nm : Str} {y : Nat} {x : X} {e : Expr} {P : Expr → Prop} (h : (onMeth e nm fun o es => onName o (fun m => m == vN y) && on1 es fun a => notStar a && chkE n sc x a) = true)
  (k : ∀ p q r a, methEq y nm p q r [a] -> (∀ env, backTo r (starEach [a] env) = [(false, eval a env)]) -> IsE g sc x a -> P (.Call (.Attribute (.Name (vN y) p) nm q) [a] [] r)) : P e :=
 onMeth_e h λo q es r e1 h2 h => aB h λh3 h => on1_e h λa e3 h => aB h λh4 h => by
  rw [e1, e3]
  exact onVar_P (P := λo => P (.Call (.Attribute o nm q) [a] [] r)) h3 λp => k p q r a ⟨λ_ => rfl, λenv => by rw [star1 h4]; rfl, h2⟩ (λenv => by rw [star1 h4]; rfl) (chkE_ok _ _ _ _ h)
theorem some_e {o : Option Expr} {f : Expr -> Bool} {P : Option Expr -> Prop} (h : onSome o f = true) (k : ∀ e, f e = true -> P (some e)) : P o := onSome_e h λe q h => q ▸ k e h
theorem y5 {α β γ δ ε : Type} {G : α -> β -> γ -> δ -> ε -> Prop} (a : α) (b : β) (c : γ) (d : δ) (e : ε) (h : false = true) : G a b c d e := nomatch h
def StP (g : Gh) (sc : Scope) (Z : List S -> List Stmt -> Prop) (s : S) (rest : List S) (rs : List Stmt) (st : Stmt) : Prop := IsS1 g sc Z (s :: rest) (st :: rs)
theorem stA {st : Stmt} (h : onS st (λts v pos => on1 ts λt => asgB n sc s t v pos) z2 z3 z3 z4 z1 = true) (hr : Z rest rs) : StP g sc Z s rest rs st :=
 onS_P (P := StP g sc Z s rest rs) h (λts v pos h => on1_e h λt e1 h => e1 ▸ asgB_ok h hr) y2 y4 y4 y5 y2
theorem stB_ok {st : Stmt} (h : stB n sc f s st = true) (F : ∀ a b, f a b = true -> Z a b) (hr : Z rest rs) : StP g sc Z s rest rs st := by
 cases s with
 | app y x => exact onS_P (P := StP g sc Z _ rest rs) h y3 (λe pos h => aB h λh1 h => meth_ok (g := g) (P := λe => exprEq sc e pos -> StP g sc Z (.app y x) rest rs (.Expr e pos)) h (λp q r a m b k h1 => .app m h1 b k hr) (exB_e h1)) y4 y4 y5 y2
 | ext y x => exact onS_P (P := StP g sc Z _ rest rs) h y3 (λe pos h => aB h λh1 h => meth_ok (g := g) (P := λe => exprEq sc e pos -> StP g sc Z (.ext y x) rest rs (.Expr e pos)) h (λp q r a m b k h1 => .ext m h1 b k hr) (exB_e h1)) y4 y4 y5 y2
 | exp x => exact onS_P (P := StP g sc Z _ rest rs) h y3 (λe pos h => aB h λh1 h => .exp (exB_e h1) (chkE_ok _ _ _ _ h) hr) y4 y4 y5 y2
 | ife t x y => exact onS_P (P := StP g sc Z _ rest rs) h y3 y2 (λc a b p h => aB h λh1 h => aB h λh2 h => aB h λh3 h => .ife h1 (chkE_ok _ _ _ _ h2) (F _ _ h3) (F _ _ h) hr) y4 y5 y2
 | whl t x => exact onS_P (P := StP g sc Z _ rest rs) h y3 y2 y4 (λc a b p h => aB h λh1 h => aB h λh2 h => aB h λh3 h => nil_e h1 ▸ .whl h2 (chkE_ok _ _ _ _ h3) (F _ _ h) hr) y5 y2
 | fore ts x y => exact onS_P (P := StP g sc Z _ rest rs) h y3 y2 y4 y4 (λtg it a b p h => aB h λh0 h => aB h λh1 h => aB h λh2 h => aB h λh3 h => aB h λh4 h => nil_e h0 ▸ .fore (tB_e h1) h2 (fold_of h3) (chkE_ok _ _ _ _ h4) (F _ _ h) hr) y2
 | foro x y z => exact onS_P (P := StP g sc Z _ rest rs) h y3 y2 y4 y4 (λtg it a b p h => aB h λh0 h => aB h λh1 h => aB h λh2 h => aB h λh3 h => onVar_P (P := λtg => StP g sc Z (.foro x y z) rest rs (.For tg it a b p)) h1 λp1 => onVar_P (P := λit => StP g sc Z (.foro x y z) rest rs (.For (.Name (vN x) p1) it a b p)) h2 λp2 => nil_e h0 ▸ .foro h3 (F _ _ h) hr) y2
 | ret x => exact onS_P (P := StP g sc Z _ rest rs) h y3 y2 y4 y4 y5 λo p h => some_e (P := λo => StP g sc Z (.ret x) rest rs (.Return o p)) h λe h => .ret (chkE_ok _ _ _ _ h)
 | reto y => exact onS_P (P := StP g sc Z _ rest rs) h y3 y2 y4 y4 y5 λo p h => some_e (P := λo => StP g sc Z (.reto y) rest rs (.Return o p)) h λe h => onVar_P (P := λe => StP g sc Z (.reto y) rest rs (.Return (some e) p)) h λ_ => .reto
 | _ => exact stA h hr
theorem chkW_ok (F : ∀ a b, f a b = true -> IsSs g sc a b) : ∀ (sts : List Stmt) (k : Nat), kd s = k -> chkW f sc s rest sts k = true -> IsSs g sc (s :: rest) sts
 | _, 0, q, _ => kd_0 q ▸ .mk .dead
 | _, 1, q, h => (kd_1 q).elim λy e => e ▸ .mk (.frz (F _ _ h))
 | [], _ + 2, _, h => nB h
 | _ :: _, _ + 2, _, h => aB h λh1 h => .mk (stB_ok h1 F (F _ _ h))
theorem chkS_ok : ∀ (n : Nat) (ss : List S) (sts : List Stmt), chkS n sc ss sts = true -> IsSs g sc ss sts
 | 0, _, _, h => nB h
 | n + 1, [], sts, h => nil_e h ▸ .mk .nil
 | n + 1, s :: rest, sts, h => chkW_ok (chkS_ok n) sts _ rfl h
theorem chkT_ok : ∀ (k : Nat) {ss : List S} {sts : List Stmt}, chkT n sc k ss sts = true -> IsSs g sc (ss.drop k) (sts.drop k) -> IsSs g sc ss sts
 | 0, _, _, _, hr => hr
 | k + 1, s :: ss, st :: sts, h, hr => aB h λh1 h => .mk (stB_ok h1 (chkS_ok n) (chkT_ok k h hr))
 | k + 1, [], _, h, _ => nB h
 | k + 1, _ :: _, [], h, _ => nB h
end
section
variable {g : Gh} {A : Around} {own own' own'' : Addr -> Tag} {s : Shared} {σ σ₁ σ₂ σ₃ σ' : Sg} {d e : D} {h h' h'' : Heap} {C : Calls} {k n : Nat} {l l' : Loc} {sc : Scope} {env : Env} {ts : List Nat} {sx : Sx}
theorem assign_names {xs : List Nat} {es : List Expr} (h : IsNames xs es) : (assignEach es env).length = xs.length /\ (assignEach es env).findIdx? (·.1) = none /\ ∀ (M : Model) (A : Around) (E : Value -> Shared -> Prop), StoreFs M A E env ((assignEach es env).map (·.2)) xs := by
 induction h with
 | nil => exact ⟨rfl, rfl, λ_ _ _ => .nil⟩
 | cons hr ih =>
  rename_i x xs p es
  obtain ⟨i1, i2, i3⟩ := ih
  have e : assignEach (.Name (vN x) p :: es) env = (false, assign (.Name (vN x) p) env) :: assignEach es env := rfl
  rw [e]
  refine ⟨by simp [i1], ?_, λM A E => .cons (λv Q s h => wpAny_assign_Name h) (i3 M A E)⟩
  rw [List.findIdx?_cons]
  simp only [Bool.false_eq_true, if_false]
  rw [i2]; rfl
theorem rh_has {C : Calls} {ts : List Nat} {l l' : Loc} {σ σ' : Sg} {r0 : RH} {lv : LV} {x : Nat} (h : rh C ts l σ r0 = some (lv, l', σ')) (hx : hasL l x = true) : hasL l' x = true := by
 cases r0 with
 | v e => exact rh_v_e h λ_ _ _ => hx
 | l es => exact rh_l_e h λ_ _ _ _ => hx
 | d => exact rh_d_e h hx
 | p y => exact rh_p_e h λ_ _ _ _ _ _ => has_setL hx
theorem rhs_has {C : Calls} {ts : List Nat} {x : Nat} : ∀ (xs : List Nat) (rs : List RH) {l : Loc} {σ : Sg} {r : List LV × Loc × Sg}, rhs C ts l σ xs rs = some r -> hasL l x = true -> hasL r.2.1 x = true
 | [], [], _, _, _, h, hx => pE (P := λq => hasL q.2.1 x = true) h hx
 | _ :: xs, _ :: rs, _, _, _, h, hx => bE h λp h1 h => bE h λp2 h2 h => pE (P := λq => hasL q.2.1 x = true) h (rhs_has xs rs h2 (rh_has h1 hx))
 | [], _ :: _, _, _, _, h, _ => no h
 | _ :: _, [], _, _, _, h, _ => no h
theorem tuple_rhs {lvs : List LV} {rr : List RH} {es : List Expr} {k2 : Nat} {p2 : Pos} {Q : Value → Shared → Prop} {E : Value → Shared → Prop} (ihe : EvOk g C k A evN) (S0 : St g) (hs : ScOf sc env) (hl : ts.length ≤ 100) (he : rhs C ts l σ ts rr = some (lvs, l', σ')) (hi : IsRHs g sc rr es) (r : R g own env l σ s.heap)
  (K : ∀ (t : Addr) (vs : List Value) (h' : Heap) tk' own', R g own' env l' σ' h' -> StepS own own' s.heap h' -> LAts g h' own' ts vs lvs -> IsTup h' t vs.toArray -> Q (.ref t) { s with heap := h', toks := tk' }) : wpAny (model g.prog g.w) A (eval (.Tuple es k2 p2) env) Q E s := by
 refine PyProof.Rows.Tuple_ (rhs_ok (ts := ts) p2 ihe S0 hs ts rr es lvs l l' σ σ' own s _ (λ_ h => h) he hi r λvs h' tk' own' r' st kp ys => ?_)
 have hlv := ys.length
 refine wpAny_newObj_type ?_ (by show vs.toArray.size <= sizeLine; rw [List.size_toArray, hlv]; unfold sizeLine; lia)
 have he : Heap.ExtBut h'.objs.size h' (h'.push { cls := .type "tuple", data := .seq vs.toArray }) := fun b o _ e => Heap.get?_push_of_some _ e
 obtain ⟨r2, st2⟩ := r'.extBut he
 have L : Le h' (h'.push { cls := .type "tuple", data := .seq vs.toArray }) own' own' := st2.le r'.toRG
 exact K _ vs _ tk' own' r2 (st.trans st2) (ys.kp (ts := ts) ⟨L, λx _ b o e ho => ⟨Heap.get?_push_of_some _ ho, e⟩⟩ λ_ h => h) ⟨_, Heap.get?_push_size _ rfl, rfl, _, rfl⟩
theorem asgn_ok {lvs : List LV} {rr : List RH} {elts es : List Expr} {k1 k2 : Nat} {p1 p2 pos : Pos} {Q : Flow → Shared → Prop} {E : Value → Shared → Prop} (hh : A.handled = none) (ihe : EvOk g C k A evN) (S0 : St g) (hx : ts.all (hasL l) = true) (he : rhs C ts l σ ts rr = some (lvs, l', σ'))
  (hn : IsNames ts elts) (hs2 : swapsWithSole [.Tuple elts k1 p1] (.Tuple es k2 p2) pos.line env = pure false) (hw : swappedStores [.Tuple elts k1 p1] (.Tuple es k2 p2) env = pure none) (ok : okT env.scope ts = true) (hl : ts.length <= 100) (hi : IsRHs g env.scope rr es) (r : R g own env l σ s.heap)
  (K : ∀ h' tk' own', R g own' env (setLs l' ts lvs) σ' h' -> StepS own own' s.heap h' -> Q .next { s with heap := h', toks := tk' }) : wpAny (model g.prog g.w) A (exec (.Assign [.Tuple elts k1 p1] (.Tuple es k2 p2) pos) env) Q E s := by
 refine PyProof.Rows.Assign_Tuple (tuple_rhs ihe S0 .self hl he hi r λt vs h' tk' own' r' st ys z => ?_) hs2 hw
 obtain ⟨e1, e2, e3⟩ := assign_names (env := env) hn
 have hv := ys.length
 refine assign_Tuple_tuple hh z (by rw [e1]; simp [hv]) e2 λh1 hx1 => ?_
 obtain ⟨r1, st1⟩ := r'.extBut hx1
 have L := st1.le r'.toRG
 refine stores_ok ts _ _ lvs l' { s with heap := h1, toks := tk' } _ (e3 _ _ _) (λx hx' => ⟨rhs_has _ _ he (List.all_eq_true.mp hx x hx'), okT_free ok hx'⟩) r1 (ys.kp (ts := ts) ⟨L, λx _ b o e ho => ⟨hx1 b o (Nat.ne_of_lt (Heap.lt_size ho)) ho, e⟩⟩ λ_ h => h) λh'' tk'' r'' st'' => ?_
 exact K h'' tk'' own' r'' (st.trans (st1.trans st''))
theorem asg2_ok {x y : Nat} {lvs : List LV} {rr : List RH} {elts es : List Expr} {k1 k2 : Nat} {p1 p2 pos : Pos} {Q : Flow → Shared → Prop} {E : Value → Shared → Prop} (hh : A.handled = none) (ihe : EvOk g C k A evN) (S0 : St g) (hx : [x, y].all (hasL l) = true) (he : rhs C [x, y] l σ [x, y] rr = some (lvs, l', σ'))
  (hxy : x ≠ y) (hs2 : swapsWithSole [.Tuple elts k1 p1] (.Tuple es k2 p2) pos.line env = pure false) (hw : swappedStores [.Tuple elts k1 p1] (.Tuple es k2 p2) env = pure (some [vN x, vN y])) (ok : okT env.scope [x, y] = true) (hi : IsRHs g env.scope rr es) (r : R g own env l σ s.heap)
  (K : ∀ h' tk' own', R g own' env (setLs l' [x, y] lvs) σ' h' -> StepS own own' s.heap h' -> Q .next { s with heap := h', toks := tk' }) : wpAny (model g.prog g.w) A (exec (.Assign [.Tuple elts k1 p1] (.Tuple es k2 p2) pos) env) Q E s := by
 refine PyProof.Rows.Assign_Tuple_swapped (tuple_rhs ihe S0 .self (by simp) he hi r λt vs h' tk' own' r' st ys z => ?_) hs2 hw
 have hv := ys.length
 have hsz : [vN x, vN y].length = vs.toArray.size := by simp [hv]
 rw [hsz]
 refine unpackItems_tuple hh z λh1 hx1 => ?_
 obtain ⟨r1, st1⟩ := r'.extBut hx1
 have L := st1.le r'.toRG
 have kp : KP [x, y] own' own' h' h1 := ⟨L, λx _ b o e ho => ⟨hx1 b o (Nat.ne_of_lt (Heap.lt_size ho)) ho, e⟩⟩
 have e1 : ([vN x, vN y].reverse.map λn => bindName env n) = [bindName env (vN y), bindName env (vN x)] := rfl
 rw [e1]
 have key : ∀ (vs : List Value), LAts g h' own' [x, y] vs lvs -> wpAny (model g.prog g.w) A (assignInOrder [bindName env (vN y), bindName env (vN x)] vs.reverse) (λ_ => Q .next) E { s with heap := h1, toks := tk' } := by
  clear ys z hv hsz r' hs2 hw
  intro vs1 zs
  cases zs with
  | cons nf1 y1 zs =>
   cases zs with
   | cons nf2 y2 zs =>
    cases zs
    refine stores_ok [y, x] _ [_, _] [_, _] l' { s with heap := h1, toks := tk' } _ (.cons (λv Q s h => bindName_ h) (.cons (λv Q s h => bindName_ h) .nil)) (λz hz => ?_) r1 (.cons nf2 (y2.kp kp (.tail _ (.head _))) (.cons nf1 (y1.kp kp (.head _)) .nil)) λh'' tk'' r'' st'' => ?_
    ·have hz' : z ∈ [x, y] := by
      rcases List.mem_cons.mp hz with rfl | hz
      ·exact .tail _ (.head _)
      ·rcases List.mem_singleton.mp hz with rfl; exact .head _
     exact ⟨rhs_has _ _ he (List.all_eq_true.mp hx z hz'), okT_free ok hz'⟩
    ·refine K h'' tk'' own' ?_ (st.trans (st1.trans st''))
     show R g own' env (setL (setL l' x _) y _) σ' h''
     rw [setL_comm hxy]; exact r''
 exact key vs ys
theorem go_on {ss : List S} {stmts : List Stmt} {out : Out} {h1 : Heap} {tk1 : Tok} {own1 : Addr → Tag} {l1 : Loc} {Q : Flow → Shared → Prop} {E : Value → Shared → Prop} (ih : XsOk g C sx A env n) (he : xs C sx n l1 σ₁ ss = some (out, l', σ')) (hi : IsSs g env.scope ss stmts) (r : R g own1 env l1 σ₁ h1) (st : StepS own own1 s.heap h1)
  (K : ∀ fl h' tk' own', StepS own own' s.heap h' -> After g env own' l' σ' h' fl out -> Q fl { s with heap := h', toks := tk' }) : wpAny (model g.prog g.w) A (execs stmts env) Q E { s with heap := h1, toks := tk1 } :=
 ih l1 σ₁ ss out l' σ' stmts own1 { s with heap := h1, toks := tk1 } Q E he hi r λfl h' tk' own' st' af => K fl h' tk' own' (st.trans st') af
theorem for_abs {prog : Program} {w : World} {A : Around} {R : Result → Shared → Prop} {s : Shared} {target : Expr} {it : Value} {body : List Stmt} (I : Nat → Shared → Prop)
  (turn : ∀ n s, I n s -> ∀ (N : Option Value -> Shared -> Prop) (E' : Value -> Shared -> Prop), (∀ s, R (.ok .next) s -> N none s) ->
   (∀ v s, (∀ (E : Value -> Shared -> Prop) (B : Flow -> Shared -> Prop), (∀ s m, m < n -> I m s -> B .next s) -> (∀ v s, R (.ok (.ret v)) s -> B (.ret v) s) ->
    wpAny (model prog w) A (letOwnedTupleGo target it v) (λ_ s => wpAny (model prog w) A (assign target env v) (λ_ s => wpAny (model prog w) A (execs body env) B E s) E s) E s) -> N (some v) s) ->
   wpAny (model prog w) A (pyNext it) N E' s)
  (n : Nat) (h : I n s) : codeAny (model prog w) A (.forLoop target it body [] env) R s :=
 codeAny_forLoop_any I (λn s hI => turn n s hI _ _ (λ_ h => wpAny_execs_nil h) λv s k => k _ _ (λs m h1 h2 => ⟨m, h1, h2⟩) λ_ _ h => h) n h
theorem StepS.no (x : StepS own own' h h') {a : Addr} {o : Obj} (e : h.get? a = some o) (q : own a = .no) : own' a = .no := (x.tags _ _ e).elim (λz => z.trans q) λz => by rw [q] at z; cases z.1
noncomputable def nextF (f : Loc -> Sg -> Option (Out × Loc × Sg)) (ts : List Nat) (ds : List D) (q : Out × Loc × Sg) : Option (Out × Loc × Sg) := match q.1 with
 | .next => fors f ts ds q.2.1 q.2.2
 | .ret d => some (.ret d, q.2)
theorem fors_e {f : Loc -> Sg -> Option (Out × Loc × Sg)} {ds : List D} {r : Out × Loc × Sg} {G : Prop} (he : fors f ts (d :: ds) l σ = some r) (k : ∀ b q, bindT ts d = some b -> ts.all (hasL l) = true -> f (setLs l (b.map (·.1)) (b.map (·.2))) σ = some q -> nextF f ts ds q = some r -> G) : G :=
 bE he λb h1 he => iE he λh2 he => bE he λq h3 he => k b q h1 h2 h3 he
def ForI (g : Gh) (env : Env) (own : Addr -> Tag) (s : Shared) (f : Loc -> Sg -> Option (Out × Loc × Sg)) (ts : List Nat) (ds : List D) (rr : Out × Loc × Sg) (St : Nat -> Heap -> Prop) (Ia : Addr) (k : Nat) (s' : Shared) : Prop :=
 ∃ i own' σ₁ l₁ h' tk, s' = { s with heap := h', toks := tk } /\ k = ds.length + 1 - i /\ i <= ds.length /\ St i h' /\ own' Ia = .no /\ R g own' env l₁ σ₁ h' /\ StepS own own' s.heap h' /\ fors f ts (ds.drop i) l₁ σ₁ = some rr
@[elab_as_elim] theorem ForI.elim {f : Loc → Sg → Option (Out × Loc × Sg)} {ds : List D} {rr : Out × Loc × Sg} {St : Nat → Heap → Prop} {Ia : Addr} {k : Nat} {s' : Shared} {P : Nat → Shared → Prop} (h : ForI g env own s f ts ds rr St Ia k s')
  (q : ∀ i own' σ₁ l₁ h' tk, i <= ds.length -> St i h' -> own' Ia = .no -> R g own' env l₁ σ₁ h' -> StepS own own' s.heap h' -> fors f ts (ds.drop i) l₁ σ₁ = some rr -> P (ds.length + 1 - i) { s with heap := h', toks := tk }) : P k s' := by
 obtain ⟨i, own', σ₁, l₁, h', tk, e1, e2, h1, h2, h3, h4, h5, h6⟩ := h
 subst e1
 subst e2
 exact q i own' σ₁ l₁ h' tk h1 h2 h3 h4 h5 h6
theorem fore_ok {b : List S} {body : List Stmt} {tg : Expr} {ds : List D} {out : Out} {v : Value} {dsrc : D} {Q : Flow → Shared → Prop} {E : Value → Shared → Prop} (hh : A.handled = none) (ih : XsOk g C sx A env n) (ht : IsT ts tg) (ok : okT env.scope ts = true) (hb : IsSs g env.scope b body) (r : R g own env l σ s.heap) (y : At g s.heap own v dsrc) (hq : itD dsrc = some ds)
  (he : fors (λl σ => xs C sx n l σ b) ts ds l σ = some (out, l', σ'))
  (K : ∀ fl h' tk' own', StepS own own' s.heap h' -> After g env own' l' σ' h' fl out -> Q fl { s with heap := h', toks := tk' }) :
  wpAny (model g.prog g.w) A (pyIter v) (λit s₂ => codeAny (model g.prog g.w) A (.forLoop tg it body [] env) (λr s' => match r with | .ok f => Q f s' | .error e => cameBackBy (model g.prog g.w) A env E e s') s₂) E s := by
 refine iter_seq hh r.toRG y hq λP ax oI St hP hax W hst hIf hcl => ?_
 have hI0 : s.heap.get? s.heap.objs.size = none := size_none _
 have e0 := r.extBut (h' := s.heap.push oI) λb o _ e => Heap.get?_push_of_some _ e
 refine for_abs (ForI g env own s (λl σ => xs C sx n l σ b) ts ds (out, l', σ') St s.heap.objs.size) (λk s' hI N E' kn ks => ?_) (ds.length + 1) ⟨0, own, σ, l, _, s.toks, rfl, rfl, Nat.zero_le _, hst, r.toRG.fresh, e0.1, e0.2, he⟩
 revert hI0 hst
 generalize s.heap.objs.size = Ia at hI W hcl ks
 intro _ hI0
 revert kn ks
 refine hI.elim λi own' σ₁ l₁ h' tk hi hsti oI' r' x' hev' kn ks => ?_
 by_cases hlt : i < ds.length
 ·refine W.item i _ _ _ hlt hsti λv h₂ tk₂ hvi hst₂ hk₂ => ?_
  obtain ⟨d, hd, yv⟩ := hP i v hvi
  rw [drop_of hd] at hev'
  refine fors_e hev' λbb q hbb hall hbody hev' => ?_
  have hk₂' : ∀ b o, b ≠ Ia -> h'.get? b = some o -> h₂.get? b = some o := λb o hb e => hk₂ b o (λq => hb (List.mem_singleton.mp q)) e
  have x₂ : StepS own own' s.heap h₂ := x'.but hk₂' hI0
  refine ks _ _ λE1 B kb kr => ?_
  refine go_none ht (hcl _ _ hst₂) ?_
  refine assign_loc (s := { s with heap := h₂, toks := tk₂ }) hh ht hbb hall ok (r'.but hk₂' oI') (At.mono (x₂.le r.toRG) yv) λh₃ tk₃ r₃ st₃ => ?_
  obtain ⟨o2, n2, ho2, _⟩ := hcl _ _ hst₂
  obtain ⟨o1, l2, σ2⟩ := q
  refine ih _ _ _ _ _ _ _ own' { s with heap := h₃, toks := tk₃ } _ _ hbody hb r₃ λfl h₄ tk₄ own₄ st₄ af => ?_
  have xX := st₃.trans st₄
  cases o1 with
  | next =>
   obtain ⟨e, r₄⟩ := af
   subst e
   refine kb _ (ds.length + 1 - (i + 1)) (Nat.sub_lt_sub_left (Nat.lt_succ_of_lt hlt) (Nat.lt_succ_self _)) ⟨i + 1, own₄, σ2, l2, h₄, tk₄, rfl, rfl, hlt, W.frame _ _ _ hst₂ λb hb o e => ?_, xX.no ho2 oI', r₄, x₂.trans xX, hev'⟩
   exact xX.objs _ _ e ((List.mem_cons.mp hb).elim (λq => by rw [q, oI']; rfl) λhba => by rw [(x₂.le r.toRG).2.1 b (hax b hba)]; rfl)
  | ret dd =>
   obtain ⟨v', own5, e, af2⟩ := af
   subst e
   cases Option.some.inj (show some (Out.ret dd, l2, σ2) = some (out, l', σ') from hev')
   exact kr _ _ (K (.ret v') h₄ tk₄ own₄ (x₂.trans xX) ⟨v', own5, rfl, af2⟩)
 ·cases Nat.le_antisymm hi (Nat.not_lt.mp hlt)
  rw [List.drop_length] at hev'
  refine W.done _ _ _ hsti λh₂ tk₂ hk₂ => ?_
  have hk₂' : ∀ b o, b ≠ Ia -> h'.get? b = some o -> h₂.get? b = some o := λb o hb e => hk₂ b o (λq => hb (List.mem_singleton.mp q)) e
  cases Option.some.inj (show some (Out.next, l₁, σ₁) = some (out, l', σ') from hev')
  exact kn _ (K .next h₂ tk₂ own' (x'.but hk₂' hI0) ⟨rfl, r'.but hk₂' oI'⟩)
theorem lookup_setL_ne {x y : Nat} {lv : LV} (h : y ≠ x) : (setL l x lv).lookup y = l.lookup y := by
 unfold setL
 induction l with
 | nil => rfl
 | cons q r ih =>
  obtain ⟨j, w⟩ := q
  simp only [List.map_cons]
  by_cases hj : j = x
  ·subst hj
   have : (y == j) = false := by simp [h]
   simp only [if_true, List.lookup_cons, this]
   exact ih
  ·rw [if_neg hj]
   simp only [List.lookup_cons]
   split
   ·rfl
   ·exact ih
noncomputable def nextO (f : Loc -> Sg -> Option (Out × Loc × Sg)) (x n i : Nat) (q : Out × Loc × Sg) : Option (Out × Loc × Sg) := match q.1 with
 | .next => foros f x n i q.2.1 q.2.2
 | .ret d => some (.ret d, q.2)
theorem foros_e {f : Loc → Sg → Option (Out × Loc × Sg)} {x n i : Nat} {r : Out × Loc × Sg} {G : Prop} (he : foros f x (n + 1) i l σ = some r) (k0 : ∀ ds, σ.ac = some ds → ds[i]? = none → (Out.next, l, σ) = r → G)
  (k1 : ∀ ds d q, σ.ac = some ds -> ds[i]? = some d -> hasL l x = true -> f (setL l x (.val d)) σ = some q -> nextO f x n (i + 1) q = some r -> G) : G := by
 have he : (match σ.ac with
  | some ds => match ds[i]? with
   | none => some (.next, l, σ)
   | some d => if hasL l x then (f (setL l x (.val d)) σ).bind (nextO f x n (i + 1)) else none
  | none => none) = some r := he
 cases h1 : σ.ac with
 | none => rw [h1] at he; exact no he
 | some ds =>
  rw [h1] at he
  dsimp only at he
  cases h2 : ds[i]? with
  | none => rw [h2] at he; exact k0 ds h1 h2 (Option.some.inj he)
  | some d => rw [h2] at he; exact iE he λh3 he => bE he λq h4 he => k1 ds d q h1 h2 h3 h4 he
def ForO (g : Gh) (env : Env) (own : Addr -> Tag) (s : Shared) (f : Loc -> Sg -> Option (Out × Loc × Sg)) (x : Nat) (rr : Out × Loc × Sg) (a I : Addr) (k : Nat) (s' : Shared) : Prop :=
 ∃ i own' σ₁ l₁ h' tk, s' = { s with heap := h', toks := tk } /\ h'.IsListIter I a i /\ own' I = .no /\ R g own' env l₁ σ₁ h' /\ StepS own own' s.heap h' /\ foros f x k i l₁ σ₁ = some rr
@[elab_as_elim] theorem ForO.elim {f : Loc → Sg → Option (Out × Loc × Sg)} {x : Nat} {rr : Out × Loc × Sg} {a I : Addr} {k : Nat} {s' : Shared} {P : Shared → Prop} (h : ForO g env own s f x rr a I k s')
  (q : ∀ i own' σ₁ l₁ h' tk, h'.IsListIter I a i -> own' I = .no -> R g own' env l₁ σ₁ h' -> StepS own own' s.heap h' -> foros f x k i l₁ σ₁ = some rr -> P { s with heap := h', toks := tk }) : P s' := by
 obtain ⟨i, own', σ₁, l₁, h', tk, e1, h1, h2, h3, h4, h5⟩ := h
 subst e1
 exact q i own' σ₁ l₁ h' tk h1 h2 h3 h4 h5
theorem foro_ok {b : List S} {body : List Stmt} {x : Nat} {p : Pos} {out : Out} {a : Addr} {I : Addr} {Q : Flow → Shared → Prop} {E : Value → Shared → Prop} (hh : A.handled = none) (ih : XsOk g C sx A env n) (ok : okT env.scope [x] = true) (hb : IsSs g env.scope b body) (hI0 : s.heap.get? I = none)
  (ha : own a = .ac) (hex : ∃ o, s.heap.get? a = some o) (m i : Nat) (own' : Addr -> Tag) (l₁ : Loc) (σ₁ : Sg) (h' : Heap) (tk : Tok) (hit : h'.IsListIter I a i) (oI' : own' I = .no) (r' : R g own' env l₁ σ₁ h') (x' : StepS own own' s.heap h') (hev : foros (λl σ => xs C sx n l σ b) x m i l₁ σ₁ = some (out, l', σ'))
  (K : ∀ fl h' tk' own', StepS own own' s.heap h' -> After g env own' l' σ' h' fl out -> Q fl { s with heap := h', toks := tk' }) :
  codeAny (model g.prog g.w) A (.forLoop (.Name (vN x) p) (.ref I) body [] env) (λr s' => match r with | .ok f => Q f s' | .error e => cameBackBy (model g.prog g.w) A env E e s') { s with heap := h', toks := tk } := by
 refine for_abs (ForO g env own s (λl σ => xs C sx n l σ b) x (out, l', σ') a I) (λk s' hI N E' kn ks => ?_) m ⟨i, own', σ₁, l₁, h', tk, rfl, hit, oI', r', x', hev⟩
 clear hit oI' r' x' hev
 revert kn ks
 refine hI.elim λi own' σ₁ l₁ h' tk hit oI' r' x' hev' kn ks => ?_
 cases k with
 | zero => exact no hev'
 | succ m =>
  obtain ⟨o, ho⟩ := hex
  have hta : own' a = .ac := (x'.tags _ _ ho).elim (λq => q.trans ha) λq => by rw [ha] at q; cases q.1
  obtain ⟨ds', e1, vs, hpl, hat⟩ := r'.shr.ac a hta
  refine foros_e hev' (λds h1 hnone hev' => ?_) λds d q h1 hd hcond hbody hev' => ?_
  ·cases Option.some.inj (h1.symm.trans e1)
   refine wpAny_pyNext_list_end hh hit (PlainList.isList hpl) (by rw [List.getElem?_toArray, List.getElem?_eq_none_iff, hat.length]; exact List.getElem?_eq_none_iff.mp hnone) λh₂ hk₂ => ?_
   have hk₂' : ∀ b o, b ≠ I -> h'.get? b = some o -> h₂.get? b = some o := λb o hb e => hk₂ b o hb e
   cases hev'
   exact kn _ (K .next h₂ tk own' (x'.but hk₂' hI0) ⟨rfl, r'.but hk₂' oI'⟩)
  ·cases Option.some.inj (h1.symm.trans e1)
   obtain ⟨v, hv, yv⟩ := hat.get hd
   refine wpAny_pyNext_list_item hit (PlainList.isList hpl) ((List.getElem?_toArray ..).trans hv) λh₂ hit₂ hs₂ => ?_
   have hk₂' : ∀ b o, b ≠ I -> h'.get? b = some o -> h₂.get? b = some o := λb o hb e => hs₂.extBut b o hb e
   have x₂ : StepS own own' s.heap h₂ := x'.but hk₂' hI0
   have yv₂ : At g h₂ own' v d := At.mono (le_of (λb o e ho => hk₂' b o (λq => by rw [q, oI'] at e; cases e) ho) λ_ _ => rfl) yv
   refine ks _ _ λE1 B kb kr => wpAny_pure (wpAny_assign_Name (store_ok (s := { s with heap := h₂, toks := tk }) (r'.but hk₂' oI') hcond (lv := .val d) yv₂ (okT_free ok (.head _)) λh₃ tk₃ r₃ st₃ _ => ?_))
   obtain ⟨o1, l2, σ2⟩ := q
   refine ih _ _ _ _ _ _ _ own' { s with heap := h₃, toks := tk₃ } _ _ hbody hb r₃ λfl h₄ tk₄ own₄ st₄ af => ?_
   have xX := st₃.trans st₄
   cases o1 with
   | next =>
    obtain ⟨oi, hoi, hci⟩ := hit₂
    obtain ⟨e, r₄⟩ := af
    subst e
    exact kb _ m (Nat.lt_succ_self _) ⟨i + 1, own₄, σ2, l2, h₄, tk₄, rfl, ⟨oi, xX.objs _ _ hoi (by rw [oI']; rfl), hci⟩, xX.no hoi oI', r₄, x₂.trans xX, hev'⟩
   | ret dd =>
    obtain ⟨v', own5, e, af2⟩ := af
    subst e
    cases Option.some.inj (show some (Out.ret dd, l2, σ2) = some (out, l', σ') from hev')
    exact kr _ _ (K (.ret v') h₄ tk₄ own₄ (x₂.trans xX) ⟨v', own5, rfl, af2⟩)
theorem turn_le {a : Addr} (hs : Heap.SameBut a h h') (ha : own a ≠ .fz) : Le h h' own own := le_of (λb o e ho => hs.extBut b o (λq => ha (by rw [<- q]; exact e)) ho) λ_ _ => rfl
theorem RG.turn {a : Addr} (r : RG g own σ h) (ha : uq (own a) = true) (hs : Heap.SameBut a h h') (hex : ∃ o, h'.get? a = some o) (sh : Shr g own σ' h') : RG g own σ' h' /\ Ext own own h h' := by
 have nf : own a ≠ .fz := by intro z; rw [z] at ha; cases ha
 have nt : own a ≠ .tb := by intro z; rw [z] at ha; cases ha
 have kp : ∀ b o, own b ≠ own a -> h.get? b = some o -> h'.get? b = some o := λb o n1 e => hs.extBut b o (λq => n1 (by rw [q])) e
 have L : Le h h' own own := turn_le hs nf
 have ex : ∀ b o, h.get? b = some o -> ∃ o', h'.get? b = some o' := λb o e => by
  by_cases q : b = a
  ·rw [q]; exact hex
  ·exact ⟨o, hs.extBut b o q e⟩
 refine ⟨⟨λb o e => ⟨kp b o (by rw [(r.base b o e).2]; exact λq => nf q.symm) (r.base b o e).1, (r.base b o e).2⟩, λb hb => by obtain ⟨o, e⟩ := r.lt b hb; exact ex b o e, λP q e => (r.tb P q e).mono L (r.tb P q e).1 λo ho => kp _ o (by rw [(r.tb P q e).1]; exact λq => nt q.symm) ho, sh⟩, ⟨λ_ _ _ => rfl, λb o e hm => kp b o (λq => ?_) e, ex⟩⟩
 rw [q] at hm
 cases q2 : own a <;> rw [q2] at hm ha <;> first | cases ha; done | cases hm; done
theorem RG.setac {a : Addr} {vs : List Value} {ds : List D} (r : RG g own σ h) (ha : own a = .ac) (hs : Heap.SameBut a h h') (hl : h'.PlainList a vs.toArray) (hat : AtL g h' own vs ds) : RG g own { σ with ac := some ds } h' /\ Ext own own h h' := by
 have L : Le h h' own own := turn_le hs (by rw [ha]; intro z; cases z)
 have kp : ∀ b t, own b = t -> t ≠ .ac -> ∀ o, h.get? b = some o -> h'.get? b = some o := λb t e ht o ho => hs.extBut b o (λq => ht (by rw [<- e, q]; exact ha)) ho
 refine r.turn (by rw [ha]; rfl) hs (let ⟨n, ho⟩ := hl; ⟨_, ho⟩) ⟨λb e => (r.shr.src b e).mono L (kp b _ e (by intro z; cases z)) rfl, λb e => (r.shr.ad b e).mono L (kp b _ e (by intro z; cases z)) rfl, λb e => (r.shr.tr b e).mono L (kp b _ e (by intro z; cases z)) rfl, λb e => ?_, r.shr.one⟩
 rw [r.shr.one b a (by rw [e]; rfl) (e.trans ha.symm)]; exact ⟨ds, rfl, vs, hl, hat⟩
theorem RG.setsrc {a : Addr} {vs : List Value} {ds : List D} (r : RG g own σ h) (ha : own a = .src) (hs : Heap.SameBut a h h') (hl : h'.IsList a vs.toArray) (hat : AtL g h' own vs ds) : RG g own { σ with src := some ds } h' /\ Ext own own h h' := by
 have L : Le h h' own own := turn_le hs (by rw [ha]; intro z; cases z)
 have kp : ∀ b t, own b = t -> t ≠ .src -> ∀ o, h.get? b = some o -> h'.get? b = some o := λb t e ht o ho => hs.extBut b o (λq => ht (by rw [<- e, q]; exact ha)) ho
 refine r.turn (by rw [ha]; rfl) hs (let ⟨o, ho, _⟩ := hl; ⟨_, ho⟩) ⟨λb e => ?_, λb e => (r.shr.ad b e).mono L (kp b _ e (by intro z; cases z)) rfl, λb e => (r.shr.tr b e).mono L (kp b _ e (by intro z; cases z)) rfl, λb e => (r.shr.ac b e).mono L (kp b _ e (by intro z; cases z)) rfl, r.shr.one⟩
 rw [r.shr.one b a (by rw [e]; rfl) (e.trans ha.symm)]; exact ⟨ds, rfl, vs, hl, hat⟩
theorem RG.setad {a : Addr} {p : List Nat × List D} (r : RG g own σ h) (ha : own a = .ad) (hs : Heap.SameBut a h h') (hex : ∃ o, h'.get? a = some o) (hd : DicAt g own (some p) h' a) : RG g own { σ with ad := some p } h' /\ Ext own own h h' := by
 have L : Le h h' own own := turn_le hs (by rw [ha]; intro z; cases z)
 have kp : ∀ b t, own b = t -> t ≠ .ad -> ∀ o, h.get? b = some o -> h'.get? b = some o := λb t e ht o ho => hs.extBut b o (λq => ht (by rw [<- e, q]; exact ha)) ho
 refine r.turn (by rw [ha]; rfl) hs hex ⟨λb e => (r.shr.src b e).mono L (kp b _ e (by intro z; cases z)) rfl, λb e => ?_, λb e => (r.shr.tr b e).mono L (kp b _ e (by intro z; cases z)) rfl, λb e => (r.shr.ac b e).mono L (kp b _ e (by intro z; cases z)) rfl, r.shr.one⟩
 rw [r.shr.one b a (by rw [e]; rfl) (e.trans ha.symm)]; exact hd
theorem RG.settr {a : Addr} {p : List Nat × List D} (r : RG g own σ h) (ha : own a = .tr) (hs : Heap.SameBut a h h') (hex : ∃ o, h'.get? a = some o) (hd : DicAt g own (some p) h' a) : RG g own { σ with tr := some p } h' /\ Ext own own h h' := by
 have L : Le h h' own own := turn_le hs (by rw [ha]; intro z; cases z)
 have kp : ∀ b t, own b = t -> t ≠ .tr -> ∀ o, h.get? b = some o -> h'.get? b = some o := λb t e ht o ho => hs.extBut b o (λq => ht (by rw [<- e, q]; exact ha)) ho
 refine r.turn (by rw [ha]; rfl) hs hex ⟨λb e => (r.shr.src b e).mono L (kp b _ e (by intro z; cases z)) rfl, λb e => (r.shr.ad b e).mono L (kp b _ e (by intro z; cases z)) rfl, λb e => ?_, λb e => (r.shr.ac b e).mono L (kp b _ e (by intro z; cases z)) rfl, r.shr.one⟩
 rw [r.shr.one b a (by rw [e]; rfl) (e.trans ha.symm)]; exact hd
theorem app_acc {ds : List D} {t : Sem Value} {pos : Pos} {Q : Value → Shared → Prop} {E : Value → Shared → Prop} {v : Value} (r : R g own env l σ s.heap) (y : At g s.heap own v .acc) (ht : Gives g A own s t d σ') (hac : σ'.ac = some ds) (hlen : ds.length ≤ maxLen)
  (K : ∀ h' tk' own', R g own' env l { σ' with ac := some (ds ++ [d]) } h' → Ext own own' s.heap h' → Q .none { s with heap := h', toks := tk' }) : MethodOn g.prog g.w A "append" pos v [(false, t)] Q E s := by
 unfold maxLen at hlen
 cases y with
 | acc ha =>
  rename_i a
  obtain ⟨ds0, _, vs0, ⟨n0, ho0⟩, _⟩ := r.toRG.shr.ac a ha
  refine ⟨"list", "list.append", PySem.F.plainAttrs_list, PySem.F.slot_list_append, rfl, ⟨_, ho0, rfl⟩, fun b e => by cases e; exact ⟨_, ho0, rfl⟩, ?_⟩
  refine PySem.P.append_list (ht _ _ λw h' tk' own' x' r' yw => ?_)
  have ha' : own' a = .ac := (x'.tags _ _ ho0).trans ha
  obtain ⟨ds1, e1, vs, ⟨n, ho'⟩, hat⟩ := r'.shr.ac a ha'
  rw [hac] at e1; cases e1
  have e1 := hat.length
  refine ⟨vs.toArray, n, by unfold sizeLine; simp; lia, ho', ?_⟩
  have ho2 : (h'.update a (Obj.mapSeq fun xs => xs.push w)).get? a = some { cls := .type "list", data := .seq (vs ++ [w]).toArray (n + 1) } := by
   rw [Heap.get?_update_self _ ho' (by rw [Obj.mapSeq_push_plain]; rfl), Obj.mapSeq_push_plain]; simp
  have hs : Heap.SameBut a h' (h'.update a (Obj.mapSeq λxs => xs.push w)) := Heap.SameBut.update ..
  have L := turn_le (own := own') hs (by rw [ha']; intro z; cases z)
  obtain ⟨r2, x2⟩ := r'.setac ha' hs (vs := vs ++ [w]) ⟨_, ho2⟩ ((AtL.mono L hat).append (.cons (At.mono L yw) .nil))
  exact K _ _ own' (r.ext (x'.trans x2) r2) (x'.trans x2)
theorem RG.fresh1 {o : Obj} {t : Tag} (r : RG g own σ h) (ht : t ≠ .no) (hf : o.isFreed = false) (sh : Shr g (upd own h.objs.size t) σ' (h.push o)) : RG g (upd own h.objs.size t) σ' (h.push o) /\ Ext own (upd own h.objs.size t) h (h.push o) := by
 have x := Ext.push own h o t
 have L := x.le r
 refine ⟨⟨λb o e => ⟨x.objs b o (r.base b o e).1 (by rw [(r.base b o e).2]; rfl), r.tag x (r.base b o e).2 (by intro z; cases z)⟩, λb hb => ?_, λP q e => (r.tb P q e).mono L (r.tag x (r.tb P q e).1 (by intro z; cases z)) λo ho => Heap.get?_push_of_some _ ho, sh⟩, x⟩
 by_cases q : b = h.objs.size
 ·rw [q]; exact ⟨_, Heap.get?_push_size _ hf⟩
 ·rw [upd_ne q] at hb; obtain ⟨o, e⟩ := r.lt b hb; exact ⟨o, Heap.get?_push_of_some _ e⟩
theorem one_new {t : Tag} (r : RG g own σ h) (hn : ∀ a, own a ≠ t) : ∀ a b, uq (upd own h.objs.size t a) = true -> upd own h.objs.size t a = upd own h.objs.size t b -> a = b := by
 intro a b ha e
 by_cases q1 : a = h.objs.size
 ·by_cases q2 : b = h.objs.size
  ·exact q1.trans q2.symm
  ·rw [q1, upd_self, upd_ne q2] at e; exact absurd e.symm (hn b)
 ·by_cases q2 : b = h.objs.size
  ·rw [q2, upd_self, upd_ne q1] at e; exact absurd e (hn a)
  ·rw [upd_ne q1] at ha
   rw [upd_ne q1, upd_ne q2] at e
   exact r.shr.one a b ha e
theorem RG.newac {vs : List Value} {ds : List D} (r : RG g own σ h) (hac : σ.ac = none) (hat : AtL g h own vs ds) : RG g (upd own h.objs.size .ac) { σ with ac := some ds } (h.push { cls := .type "list", data := .seq vs.toArray }) ∧ Ext own (upd own h.objs.size .ac) h (h.push { cls := .type "list", data := .seq vs.toArray }) := by
 have nac : ∀ a, own a ≠ .ac := λa ha => by obtain ⟨ds, e, _⟩ := r.shr.ac a ha; rw [hac] at e; cases e
 have L := (Ext.push own h ({ cls := .type "list", data := .seq vs.toArray } : Obj) .ac).le r
 have old : ∀ b t, upd own h.objs.size .ac b = t -> t ≠ .ac -> own b = t := λb t e ht => by
  by_cases q : b = h.objs.size
  ·rw [q, upd_self] at e; exact absurd e.symm ht
  ·rwa [upd_ne q] at e
 refine r.fresh1 (by intro z; cases z) rfl ⟨λb e => (r.shr.src b (old b _ e (by intro z; cases z))).mono L (λo ho => Heap.get?_push_of_some _ ho) rfl, λb e => (r.shr.ad b (old b _ e (by intro z; cases z))).mono L (λo ho => Heap.get?_push_of_some _ ho) rfl, λb e => (r.shr.tr b (old b _ e (by intro z; cases z))).mono L (λo ho => Heap.get?_push_of_some _ ho) rfl, λb e => ?_, one_new r nac⟩
 by_cases q : b = h.objs.size
 ·rw [q]; exact ⟨ds, rfl, vs, ⟨_, Heap.get?_push_size _ rfl⟩, AtL.mono L hat⟩
 ·rw [upd_ne q] at e; exact absurd e (nac b)
noncomputable def endA (own : Addr -> Tag) : Addr -> Tag := λb => if own b = .ac then .fz else own b
theorem RG.retag (r : RG g own σ h) (ht : ∀ b, own' b = own b \/ (∃ x, own b = .ol x) /\ own' b = .fz) : RG g own' σ h :=
 r.step (λ_ _ _ e => e) (λb hb => (ht b).elim id λ⟨⟨z, q⟩, _⟩ => by rw [q] at hb; cases hb) (λb hb => r.lt b λq => (ht b).elim (λe => hb (e.trans q)) λ⟨⟨z, q'⟩, _⟩ => by rw [q] at q'; cases q') λb hb => (ht b).elim (λe => e.symm) λ⟨_, q⟩ => by rw [q] at hb; cases hb
theorem fz {a : Addr} (e : own a = .fz) : endA own a = .fz := by unfold Mine.endA; rw [e]; rfl
theorem endA_eq {a : Addr} {t : Tag} (e : own a = t) (q : t ≠ .ac) : endA own a = t := by unfold Mine.endA; rw [e, if_neg q]
theorem plains_and {a b : Bool} (h : (a && b) = true) : a = true /\ b = true := (Bool.and_eq_true _ _).mp h
theorem At.free {v : Value} {d : D} (x : At g h own v d) : noac d = true -> At g h (endA own) v d :=
 At.rec (motive_1 := λv d _ => noac d = true -> At g h (endA own) v d) (motive_2 := λvs ds _ => noacs ds = true -> AtL g h (endA own) vs ds) (λ_ => .none) (λb _ => .bool b) (λi t _ => .int i t) (λhk hx t _ => .str hk hx t)
  (λhf z _ k n => .tup (fz hf) z (k n)) (λhf z _ k n => .list (fz hf) z (k n)) (λhf hs hk hz z _ k n => .dict (fz hf) hs hk hz z (k n)) (λk1 k2 f1 f2 h1 h2 hf hd hz _ k n => .inst k1 k2 (fz f1) (fz f2) h1 h2 hf hd hz (k n))
  (λf1 h1 hd hc f2 h2 hv z _ k n => .clo (fz f1) h1 hd hc (fz f2) h2 hv (z.elim λc z => z.elim λo z => z.elim λvs z => z.elim λt z => ⟨c, o, vs, t, z.1, fz z.2.1, z.2.2⟩) (k n))
  (λx _ => .src (endA_eq x nofun)) (λx _ => .adts (endA_eq x nofun)) (λx _ => .trs (endA_eq x nofun)) (λf r _ => .rng (fz f) r) (λ_ n => nomatch n) (λ_ => .nil) (λ_ _ a r n => .cons (a (plains_and n).1) (r (plains_and n).2)) x
theorem AtL.free {vs : List Value} {ds : List D} (x : AtL g h own vs ds) (n : noacs ds = true) : AtL g h (endA own) vs ds := by
 induction vs generalizing ds with
 | nil => cases x; exact .nil
 | cons v vs ih => cases x with | cons a r => exact .cons (a.free (plains_and n).1) (ih r (plains_and n).2)
theorem RG.endac (r : RG g own σ h) (ok : sgOk σ = true) : RG g (endA own) { σ with ac := none } h := by
 unfold sgOk at ok
 rw [Bool.and_eq_true, Bool.and_eq_true] at ok
 obtain ⟨⟨o1, o2⟩, o3⟩ := ok
 have fr : ∀ a t, own a = t -> t ≠ .ac -> endA own a = t := λa t e ht => by unfold endA; rw [e, if_neg ht]
 have bk : ∀ a t, endA own a = t -> t ≠ .fz -> own a = t := λa t e ht => by
  unfold endA at e
  split at e
  ·exact absurd e.symm ht
  ·exact e
 have nac : ∀ a, endA own a ≠ .ac := λa e => by
  have := bk a _ e (by intro z; cases z)
  unfold endA at e; rw [if_pos this] at e; cases e
 refine ⟨λb o e => ⟨(r.base b o e).1, fr _ _ (r.base b o e).2 (by intro z; cases z)⟩, λb hb => ?_, λP q e => ?_, ⟨λa e => ?_, λa e => ?_, λa e => ?_, λa e => absurd e (nac a), λa b ha e => ?_⟩⟩
 ·refine r.lt b λq => hb ?_
  unfold endA; rw [q]; rfl
 ·obtain ⟨t, ps, e1, e2, e3⟩ := r.tb P q e
  exact ⟨fr _ _ t (by intro z; cases z), ps, e1, e2, λpos cv hc => let ⟨c, o, vs, t', f1, f2, f3, f4⟩ := e3 pos cv hc; ⟨c, o, vs, t', f1, fr _ _ f2 (by intro z; cases z), f3, f4⟩⟩
 ·obtain ⟨ds, e', vs, z, y⟩ := r.shr.src a (bk a _ e (by intro z; cases z))
  exact ⟨ds, e', vs, z, y.free (by rw [e'] at o1; exact o1)⟩
 ·obtain ⟨p, e', k, vs, hz, w, y⟩ := r.shr.ad a (bk a _ e (by intro z; cases z))
  exact ⟨p, e', k, vs, hz, w, y.free (by rw [e'] at o2; exact o2)⟩
 ·obtain ⟨p, e', k, vs, hz, w, y⟩ := r.shr.tr a (bk a _ e (by intro z; cases z))
  exact ⟨p, e', k, vs, hz, w, y.free (by rw [e'] at o3; exact o3)⟩
 ·have e1 := bk a _ rfl (by intro z; rw [z] at ha; cases ha)
  have e2 := bk b _ rfl (by intro z; rw [e, z] at ha; cases ha)
  exact r.shr.one a b (by rw [e1]; exact ha) (e1.trans (e.trans e2.symm))
theorem frz_list {y : Nat} {lv : LV} {dn : D} (r : R g own env l σ h) (hl : l.lookup y = some lv) (hd : (∃ ds, lv = .ow ds /\ dn = .list ds) \/ ∃ ks ds, lv = .od ks ds /\ dn = .dict ks ds /\ ∃ o, g.h₀.get? sysModules = some o) : ∃ own', R g own' env (setL l y (.val dn)) σ h /\ StepS own own' h h := by
 obtain ⟨rg, kf, gl, bu, m, hn, ht, hv, h48⟩ := id r
 have hmem := lookup_mem hl
 have addr : ∀ v, LAt g h own y v lv -> ∃ a, v = .ref a /\ own a = .ol y /\ (∃ o, h.get? a = some o) /\ At g h (upd own a .fz) (.ref a) dn := by
  intro v z
  have L : ∀ a, own a = .ol y -> Le h h own (upd own a .fz) := λa ha => le_of (λ_ _ _ e => e) λb hb => upd_ne λq => by rw [q, ha] at hb; cases hb
  rcases hd with ⟨ds, rfl, rfl⟩ | ⟨ks, ds, rfl, rfl, so, hso⟩
  ·obtain ⟨a, vs, rfl, ta, hp, hat⟩ := z
   exact ⟨a, rfl, ta, let ⟨n, ho⟩ := hp; ⟨_, ho⟩, .list upd_self hp (AtL.mono (L a ta) hat)⟩
  ·obtain ⟨a, vs, rfl, ta, k1, k2, hp, hat⟩ := z
   refine ⟨a, rfl, ta, let ⟨o, _, _, ho, _⟩ := hp; ⟨o, ho⟩, .dict upd_self ?_ k1 k2 hp (AtL.mono (L a ta) hat)⟩
   refine beq_eq_false_iff_ne.mpr λq => ?_
   have := (rg.base _ _ hso).2
   rw [<- q, ta] at this; cases this
 have key : ∀ a, own a = .ol y -> (∃ o, h.get? a = some o) -> VarAt g h (upd own a .fz) env m y (.val dn) -> R g (upd own a .fz) env (setL l y (.val dn)) σ h /\ StepS own (upd own a .fz) h h := by
  intro a ta hex hy
  have L : Le h h own (upd own a .fz) := le_of (λ_ _ _ e => e) λb hb => upd_ne λq => by rw [q, ta] at hb; cases hb
  have alt : ∀ b, upd own a .fz b = own b \/ (∃ x, own b = .ol x) /\ upd own a .fz b = .fz := λb => by
   by_cases q : b = a
   ·rw [q]; exact .inr ⟨⟨y, ta⟩, upd_self⟩
   ·exact .inl (upd_ne q)
  refine ⟨⟨rg.retag alt, kf, gl, bu, m, hn, (upd_ne λq => by rw [q, ta] at ht; cases ht).trans ht, λp hp => ?_, λp hp => ?_⟩, ⟨λb o _ => (alt b).imp id λ⟨⟨x, q⟩, q2⟩ => ⟨by rw [q]; rfl, q2⟩, λ_ _ e _ => e, λ_ o e => ⟨o, e⟩⟩⟩
  ·rcases mem_setL hp with ⟨rfl, _⟩ | ⟨hpl, hne⟩
   ·exact hy
   ·refine (hv p hpl).keep L rfl (λb o e ho => ⟨ho, (upd_ne λq => by rw [q, ta] at e; cases e).trans e⟩) (λb o e ho => ⟨ho, (upd_ne λq => by rw [q, ta] at e; cases e; exact hne rfl).trans e⟩)
  ·rcases mem_setL hp with ⟨rfl, _⟩ | ⟨hpl, _⟩
   ·exact (h48 (y, lv) hmem : y < 48)
   ·exact h48 p hpl
 have hu : lv ≠ .un := by rcases hd with ⟨_, rfl, _⟩ | ⟨_, _, rfl, _⟩ <;> intro z <;> cases z
 rcases hv _ hmem with ⟨hk, hh⟩ | ⟨hk, c, v0, hc, htc, hcell, hh⟩
 ·rcases hh with q | ⟨v, e, yv⟩
  ·exact absurd q hu
  ·obtain ⟨a, rfl, ta, hex, hat⟩ := addr v yv
   exact ⟨_, key a ta hex (.inl ⟨hk, .inr ⟨_, e, hat⟩⟩)⟩
 ·rcases hh with q | ⟨v, e, yv⟩
  ·exact absurd q hu
  ·subst e
   have htc : own c = .ce y := by
    rcases htc with t | ⟨_, d, e⟩
    ·exact t
    ·have e : lv = .fv d := e
     rcases hd with ⟨_, q, _⟩ | ⟨_, _, q, _⟩ <;> rw [q] at e <;> cases e
   obtain ⟨a, rfl, ta, hex, hat⟩ := addr v yv
   exact ⟨_, key a ta hex (.inr ⟨hk, c, _, hc, .inl ((upd_ne λq => by rw [q, ta] at htc; cases htc).trans htc), hcell, .inr ⟨_, rfl, hat⟩⟩)⟩
theorem AtL.set {vs : List Value} {ds : List D} (x : AtL g h own vs ds) (i : Nat) {v : Value} {d : D} (y : At g h own v d) : AtL g h own (vs.set i v) (ds.set i d) := by
 induction vs generalizing ds i with
 | nil => cases x; exact .nil
 | cons a vs ih => cases x with
  | cons b c => cases i with
   | zero => exact .cons y c
   | succ i => exact .cons b (ih c i)
theorem acc_ok {x : Nat} {xs0 : List X} {es : List Expr} {ds : List D} {p q pos : Pos} {Q : Flow → Shared → Prop} {E : Value → Shared → Prop} (ihe : EvOk g C k A evN) (hsw : swapsWith (.List es q) (some (.Name (vN x) p)) pos.line env = pure false) (ok : okT env.scope [x] = true)
  (he : evs (ev C evN l) σ xs0 = some (ds, σ')) (hlen : ds.length <= 100) (hx : hasL l x = true) (hac : σ'.ac = none) (hi : IsEs g env.scope xs0 es) (r : R g own env l σ s.heap)
  (K : ∀ h' tk' own', R g own' env (setL l x (.val .acc)) { σ' with ac := some ds } h' -> StepS own own' s.heap h' -> Q .next { s with heap := h', toks := tk' }) : wpAny (model g.prog g.w) A (exec (.Assign [.Name (vN x) p] (.List es q) pos) env) Q E s := by
 refine wpAny_Assign_Name (PyProof.Rows.List_ (ev_list (xs := []) (es := []) (ds := []) ihe _ .self _ _ _ _ _ _ _ he hi r _ _ λvs h' tk' own' x' r' y => ?_)) hsw
 have el := y.length
 refine wpAny_newObj_type ?_ (by show vs.toArray.size <= sizeLine; rw [List.size_toArray, el]; unfold sizeLine; lia)
 obtain ⟨r2, x2⟩ := r'.newac hac y
 exact store_ok (s := { s with heap := h'.push { cls := .type "list", data := .seq vs.toArray }, toks := tk' }) (r.ext (x'.trans x2) r2) hx (lv := .val .acc) (At.acc upd_self) (okT_free ok (.head _)) fun h3 tk3 r3 st3 _ => K h3 tk3 _ r3 ((x'.trans x2).stepS.trans st3)
noncomputable def nextQ (g : Gh) (A : Around) (rs : List Stmt) (env : Env) (Q : Flow -> Shared -> Prop) (E : Value -> Shared -> Prop) : Flow -> Shared -> Prop := λf s' => match f with
 | .next => wpAny (model g.prog g.w) A (execs rs env) Q E s'
 | f => Q f s'
theorem st_then {st : Stmt} {rs : List Stmt} {Q : Flow -> Shared -> Prop} {E : Value -> Shared -> Prop} (h : wpAny (model g.prog g.w) A (exec st env) (nextQ g A rs env Q E) E s) : wpAny (model g.prog g.w) A (execs (st :: rs) env) Q E s := wpAny_execs_cons h
def KX (g : Gh) (env : Env) (own : Addr -> Tag) (s : Shared) (Q : Flow -> Shared -> Prop) (out : Out) (l' : Loc) (σ' : Sg) : Prop := ∀ fl h' tk' own', StepS own own' s.heap h' -> After g env own' l' σ' h' fl out -> Q fl { s with heap := h', toks := tk' }
def WhlI (g : Gh) (C : Calls) (sx : Sx) (env : Env) (own : Addr -> Tag) (s : Shared) (n : Nat) (ss : List S) (o : Option (Out × Loc × Sg)) (k : Nat) (s' : Shared) : Prop := ∃ own' l₁ σ₁ h' tk, s' = { s with heap := h', toks := tk } /\ k <= n /\ R g own' env l₁ σ₁ h' /\ StepS own own' s.heap h' /\ xs C sx k l₁ σ₁ ss = o
@[elab_as_elim] theorem WhlI.elim {P : Shared -> Prop} {ss : List S} {o : Option (Out × Loc × Sg)} {m : Nat} {s' : Shared} (h : WhlI g C sx env own s n ss o m s') (q : ∀ own' l₁ σ₁ h' tk, m <= n -> R g own' env l₁ σ₁ h' -> StepS own own' s.heap h' -> xs C sx m l₁ σ₁ ss = o -> P { s with heap := h', toks := tk }) : P s' := by
 obtain ⟨own', l₁, σ₁, h', tk, e, hm, r', x', hev⟩ := h
 subst e
 exact q _ _ _ _ _ hm r' x' hev
theorem whl_ok {t : X} {c : Expr} {b rest : List S} {body rs : List Stmt} {pos : Pos} {out : Out} {Q : Flow → Shared → Prop} {E : Value → Shared → Prop} (ihs : ∀ m, m < n → XsOk g C sx A env m) (ihb : EvB g C k A evN) (hb : bx t = true) (h1 : IsE g env.scope t c) (h2 : IsSs g env.scope b body) (hr : IsSs g env.scope rest rs) (r : R g own env l σ s.heap)
  (he : xs C sx n l σ (.whl t b :: rest) = some (out, l', σ')) (K : KX g env own s Q out l' σ') : wpAny (model g.prog g.w) A (execs (.While c body [] pos :: rs) env) Q E s := by
 refine wpAny_execs_cons (wpAny_While (codeAny_whileLoop (WhlI g C sx env own s n (.whl t b :: rest) (some (out, l', σ'))) (λm s' hI => ?_) n ⟨own, l, σ, s.heap, s.toks, rfl, Nat.le_refl _, r, StepS.refl _ _, he⟩))
 cases m with
 | zero => exact hI.elim λown' l₁ σ₁ h' tk hm r' x' hev => nomatch hev
 | succ m =>
  refine hI.elim λown' l₁ σ₁ h' tk hm r' x' hev => ?_
  refine x_whl hev (λσ₂ o1 l₂ σ₃ e1 e2 hev => ?_) λσ₂ e1 hev => ?_
  ·refine ihb _ _ _ _ _ _ _ _ own' { s with heap := h', toks := tk } e1 hb h1 .self r' _ _ λh₂ tk₂ own₂ x₂ r₂ => ?_
   refine ihs m hm _ _ _ _ _ _ _ own₂ { s with heap := h₂, toks := tk₂ } _ _ e2 h2 (r'.ext x₂ r₂) λfl h₃ tk₃ own₃ st af => ?_
   revert hev
   cases o1 with
   | next =>
    obtain ⟨e, r₃⟩ := af
    subst e
    exact λhev => ⟨m, Nat.lt_succ_self m, own₃, l₂, σ₃, h₃, tk₃, rfl, Nat.le_of_succ_le hm, r₃, x'.trans (x₂.stepS.trans st), hev⟩
   | ret dd =>
    intro hev
    have hev : some (Out.ret dd, l₂, σ₃) = some (out, l', σ') := hev
    have k := K fl h₃ tk₃ own₃ (x'.trans (x₂.stepS.trans st))
    obtain ⟨v, own5, e, af2⟩ := af
    subst e
    refine k ?_
    revert af2
    exact pE3 (P := λo l σ => _ -> After g env own₃ l σ h₃ (.ret v) o) hev λaf2 => ⟨v, own5, rfl, af2⟩
  ·exact ihb _ _ _ _ _ _ _ _ own' { s with heap := h', toks := tk } e1 hb h1 .self r' _ _ λh₂ tk₂ own₂ x₂ r₂ => wpAny_execs_nil (go_on (s := s) (ihs m hm) hev hr (r'.ext x₂ r₂) (x'.trans x₂.stepS) K)
theorem stored_put {ks : List Nat} {vs : List Value} {j : Nat} {v : Value} (hk : ∀ k ∈ ks, k < 39) (hj : j < 39) (hz : ks.length = vs.length) : ∃ vs', stored ((ks.map sN).zip vs) (sN j) v = (((if ks.contains j then ks else ks ++ [j]).map sN).zip vs') ∧ (if ks.contains j then ks else ks ++ [j]).length = vs'.length ∧
  vs' = if ks.contains j then (ks.zip vs).map (λp => if p.1 = j then v else p.2) else vs ++ [v] := by
 have inj : ∀ k ∈ ks, (sN k = sN j) = (k = j) := λk h => by
  have := sN_inj (hk k h) hj
  apply propext
  constructor
  ·intro e; rw [e] at this; simpa using this.symm
  ·intro e; rw [e]
 by_cases hc : ks.contains j = true
 ·refine ⟨_, ?_, ?_, rfl⟩
  ·rw [if_pos hc, if_pos hc]
   unfold stored
   have ha : ((ks.map sN).zip vs).any (λkv => decide (kv.1 = sN j)) = true := by
    rw [List.any_eq_true]
    have hm : j ∈ ks := by simpa using hc
    obtain ⟨i, hi, e⟩ := List.getElem_of_mem hm
    refine ⟨(sN j, vs[i]'(hz ▸ hi)), ?_, by simp⟩
    rw [List.mem_iff_getElem]
    refine ⟨i, by rw [List.length_zip, List.length_map, <- hz, Nat.min_self]; exact hi, ?_⟩
    simp [e]
   rw [ha]
   simp only [if_true]
   clear ha hc
   induction ks generalizing vs with
   | nil => simp
   | cons k ks ih =>
    cases vs with
    | nil => simp at hz
    | cons w vs =>
     simp only [List.map_cons, List.zip_cons_cons]
     rw [ih (λk h => hk k (.tail _ h)) (by simpa using hz) λk h => inj k (.tail _ h)]
     congr 1
     simp only [inj k (.head _)]
     by_cases q : k = j
     ·rw [if_pos q, if_pos q, q]
     ·rw [if_neg q, if_neg q]
  ·rw [if_pos hc, if_pos hc]; simp [hz]
 ·refine ⟨_, ?_, ?_, rfl⟩
  ·rw [if_neg hc, if_neg hc]
   unfold stored
   have ha : ((ks.map sN).zip vs).any (λkv => decide (kv.1 = sN j)) = false := by
    rw [List.any_eq_false]
    intro q hq
    obtain ⟨i0, hi0, e0⟩ := List.mem_map.mp (List.of_mem_zip hq).1
    simp only [decide_eq_true_eq]
    intro q2
    rw [<- e0, inj i0 hi0] at q2
    rw [q2] at hi0
    exact hc (by simpa using hi0)
   rw [ha]
   simp only [Bool.false_eq_true, if_false, List.map_append, List.map_cons, List.map_nil]
   rw [List.zip_append (by simp [hz])]
   rfl
  ·rw [if_neg hc, if_neg hc]; simp [hz]
theorem AtL.put {ks : List Nat} {vs : List Value} {ds : List D} {j : Nat} {v : Value} {d : D} (x : AtL g h own vs ds) (y : At g h own v d) : AtL g h own ((ks.zip vs).map (λp => if p.1 = j then v else p.2)) ((ks.zip ds).map λp => if p.1 = j then d else p.2) := by
 induction ks generalizing vs ds with
 | nil => exact .nil
 | cons k ks ih =>
  cases x with
  | nil => exact .nil
  | cons a r =>
   simp only [List.zip_cons_cons, List.map_cons]
   refine .cons ?_ (ih r)
   split
   ·exact y
   ·exact a
theorem dic_put {a : Addr} {x : Option (List Nat × List D)} {ks : List Nat} {ds : List D} {j : Nat} {v : Value} {d1 : D} {Q : Unit → Shared → Prop} {E : Value → Shared → Prop} {t : Tok} (hx : x = some (ks, ds)) (hl : ks.length ≤ 100) (hj : j < 39) (D0 : DicAt g own x s.heap a) (yv : At g s.heap own v d1) (hna : own a ≠ .fz)
  (hnf : uq (own a) = true) (K : ∀ h', Heap.SameBut a s.heap h' -> (∃ o, h'.get? a = some o) -> DicAt g own (some (putD ks ds j d1)) h' a -> Q () { s with heap := h', toks := s.toks + 1 }) : wpAny (model g.prog g.w) A (setItem (.ref a) (.str (sN j) t) v) Q E s := by
 obtain ⟨p, e, hk, vs, hz, hd, hat⟩ := D0
 rw [hx] at e; cases e
 have hzl : ((ks.map sN).zip vs).length <= sizeLine := by unfold sizeLine; simp; lia
 refine wpAny_setItem_pairs (k := sN j) (strKind_is _ _ _ _) hd (λh3 hd3 hs3 => ?_) hzl
 have L := turn_le (own := own) hs3 hna
 obtain ⟨vs', e1, e2, e3⟩ := stored_put (v := v) hk hj hz
 refine K h3 hs3 (let ⟨o, _, _, ho, _⟩ := hd3; ⟨o, ho⟩) ⟨_, rfl, λq hq => ?_, vs', ?_, ?_, ?_⟩
 ·unfold putD at hq
  by_cases hc : ks.contains j = true
  ·rw [if_pos hc] at hq; exact hk q hq
  ·rw [if_neg hc] at hq
   rcases List.mem_append.mp hq with hq | hq
   ·exact hk q hq
   ·rw [List.mem_singleton.mp hq]; exact hj
 ·unfold putD
  by_cases hc : ks.contains j = true
  ·rw [if_pos hc] at e2 ⊢; exact e2
  ·rw [if_neg hc] at e2 ⊢; exact e2
 ·rw [e1] at hd3
  unfold putD
  by_cases hc : ks.contains j = true
  ·rw [if_pos hc] at hd3 ⊢; exact hd3
  ·rw [if_neg hc] at hd3 ⊢; exact hd3
 ·unfold putD
  by_cases hc : ks.contains j = true
  ·rw [if_pos hc] at e3 ⊢; rw [e3]; exact (AtL.mono L hat).put (At.mono L yv)
  ·rw [if_neg hc] at e3 ⊢; rw [e3]; exact (AtL.mono L hat).append (.cons (At.mono L yv) .nil)
theorem use_store {x : Nat} {p : Pos} {Da Ca : Addr} {h₂ : Heap} {tk₂ : Nat} {m : Str → Option Value} {d1 : D} {Q : Flow → Shared → Prop} {E : Value → Shared → Prop} (r : R g own env l σ s.heap) (hx : hasL l x = true) (hfree : env.kindOf (vN x) ≠ some .free) (hn : h₂.Ns Ca m) (hC : s.heap.get? Ca = none)
  (fin : ∀ h₇, Heap.SameBut Ca h₂ h₇ -> ∃ own₇, Ext own own₇ s.heap h₇ /\ RG g own₇ σ' h₇ /\ At g h₇ own₇ (.ref Da) d1 /\ own₇ Ca = .no)
  (K : ∀ h' tk' own', R g own' env (setL l x (.val d1)) σ' h' -> StepS own own' s.heap h' -> Q .next { s with heap := h', toks := tk' }) :
  compPost (model g.prog g.w) A E (some (assign (.Name (vN x) p) env)) (λ_ s' => Q .next s') (.ref Da) Ca (.ok .next) { s with heap := h₂, toks := tk₂ } := by
 obtain ⟨own₇, x7, r7, y7, t7⟩ := fin h₂ ⟨rfl, λ_ _ => rfl⟩
 show wpAny _ A (assign (.Name (vN x) p) env (.ref Da)) _ _ _
 refine wpAny_assign_Name (store_ok (s := { s with heap := h₂, toks := tk₂ }) (r.ext x7 r7) hx (lv := .val d1) y7 hfree λh₃ tk₃ r₃ st₃ _ => ?_)
 obtain ⟨o, es, ep, e, q⟩ := hn
 refine ⟨m, ⟨o, es, ep, st₃.objs _ _ e (by rw [t7]; rfl), q⟩, λh₄ hs₄ => ?_⟩
 have k4 : ∀ b o, b ≠ Ca -> h₃.get? b = some o -> h₄.get? b = some o := λb o hb e => hs₄.extBut b o hb e
 exact K h₄ _ own₇ (r₃.but k4 t7) ((x7.stepS.trans st₃).but k4 hC)
theorem asgc_ok {x : Nat} {e y : X} {fre : List Nat} {ee tg it : Expr} {scc : Scope} {p q pos : Pos} {d1 : D} {Q : Flow → Shared → Prop} {E : Value → Shared → Prop} (hh : A.handled = none) (ihe : ∀ n, EvOk g C k A n) (hsw : swapsWith (.ListComp ee [⟨tg, it, [], 0⟩] scc p) (some (.Name (vN x) q)) pos.line env = pure true) (ok : okT env.scope [x] = true) (hx : hasL l x = true)
  (hcc : ScC env.scope scc ts fre) (ht : IsT ts tg) (hf : ∀ env x, foldedSetIterable it env x = pure x) (h1 : IsE g scc e ee) (h2 : IsE g env.scope y it) (r : R g own env l σ s.heap) (he : ev C evN l σ (.comp e ts fre y none) = some (d1, σ'))
  (K : ∀ h' tk' own', R g own' env (setL l x (.val d1)) σ' h' -> StepS own own' s.heap h' -> Q .next { s with heap := h', toks := tk' }) :
  wpAny (model g.prog g.w) A (exec (.Assign [.Name (vN x) q] (.ListComp ee [⟨tg, it, [], 0⟩] scc p) pos) env) Q E s := by
 rw [exec_Assign_Name_used _ _ _ _ hsw]
 refine wpAny_bind (wpAny_standAt (wpAny_bind ?_))
 have he' : ev C (13 + 1) l σ (.comp e ts fre y none) = some (d1, σ') := he
 revert K
 refine i_comp he' λd0 σ₁ ds rs σ₂ e1 e2 hlen e3 K => ?_
 show wpAny _ A (do let _ <- comprehension (.ListComp ee [⟨tg, it, [], 0⟩] scc p) scc env _ (newList []) false (eval it env) (some (assign (.Name (vN x) q) env))) _ _ s
 refine wpAny_bind (wpAny_mono (wpAny_comprehension_free (use := some (assign (.Name (vN x) q) env)) (Q := λ_ s' => Q .next s') (g := ⟨tg, it, [], 0⟩) (gs := []) rfl (hf env) (closure_ok r .self hcc hlen.2) hcc.kind hcc.nm ?_) (λ_ s' hq => wpAny_pure (wpAny_pure hq)) λ_ _ e => e)
 refine ihe 13 _ _ _ _ _ _ _ _ _ _ e1 h2 .self r _ _ λv h' tk' own' x' r' y' => ?_
 refine (comp_okU (use := some (assign (.Name (vN x) q) env)) (f := ev C 13) (s := { s with heap := h', toks := tk' }) (iter := it) (cond := none) (ifs := []) hh (r.ext x' r') y' e2 hlen.1 .self hcc ht trivial hlen.2 e3
  (λl σ d σ' env own s e hs r => ihe 13 _ _ _ _ _ _ _ _ _ _ e h1 hs r) (λc ce q1 => nomatch q1) λDa Ca h₂ tk₂ m hn hC fin => ?_).2
 exact use_store (s := { s with heap := h', toks := tk' }) (r.ext x' r') hx (okT_free ok (.head _)) hn hC fin λh'' tk'' own'' r'' st'' => K h'' tk'' own'' r'' (x'.stepS.trans st'')
section
variable {Q : Flow -> Shared -> Prop} {E : Value -> Shared -> Prop} {rest : List S} {rs : List Stmt} {out o1 : Out} {l₁ : Loc} {fl : Flow} {h1 : Heap} {tk1 : Tok} {own1 : Addr -> Tag}
theorem go_after (ih : XsOk g C sx A env n) (he : thenS C sx n rest (o1, l₁, σ₂) = some (out, l', σ')) (hr : IsSs g env.scope rest rs) (af : After g env own1 l₁ σ₂ h1 fl o1) (st : StepS own own1 s.heap h1) (K : KX g env own s Q out l' σ') :
  nextQ g A rs env Q E fl { s with heap := h1, toks := tk1 } := by
 cases o1 with
 | next => exact af.1 ▸ go_on ih he hr af.2 st K
 | ret dd =>
  obtain ⟨v, own5, e, af2⟩ := af
  subst e
  have he : some (Out.ret dd, l₁, σ₂) = some (out, l', σ') := he
  cases he
  exact K (.ret v) h1 tk1 own1 st ⟨v, own5, rfl, af2⟩
theorem kx_ret {d : D} (K : KX g env own s Q (.ret d) l' σ') : KX g env own s (nextQ g A rs env Q E) (.ret d) l' σ' := λfl h' tk' own' st af => by
 have ⟨v, o, e, r⟩ := af
 subst e
 exact K _ _ _ _ st af
theorem seti_ok {y j : Nat} {d1 : D} {ks : List Nat} {ds : List D} {e i : Expr} {p : Pos} {x k0 : X} (ihe : EvOk g C k A evN) (r : R g own env l σ s.heap) (e1 : ev C evN l σ x = some (d1, σ₁)) (e2 : ev C evN l σ₁ k0 = some (.str j, σ₂)) (hl : l.lookup y = some (.od ks ds)) (hcond : ks.length ≤ 100 ∧ ks.contains j = false)
  (h1 : IsE g env.scope x e) (h2 : IsE g env.scope k0 i) (K : ∀ h' tk' own', R g own' env (setL l y (.od (ks ++ [j]) (ds ++ [d1]))) σ₂ h' -> StepS own own' s.heap h' -> Q .next { s with heap := h', toks := tk' }) :
  wpAny (model g.prog g.w) A (eval e env) (λv s₁ => wpAny (model g.prog g.w) A (eval (.Name (vN y) p) env) (λw s₂ => wpAny (model g.prog g.w) A (eval i env) (λkv s₃ => wpAny (model g.prog g.w) A (setItem w kv v) (λ_ => Q .next) E s₃) E s₂) E s₁) E s := by
 refine ihe _ _ _ _ _ _ _ _ _ _ e1 h1 .self r _ _ λv h' tk' own' x' r' y1 => ?_
 have rr := r.ext x' r'
 obtain ⟨w, H⟩ := held rr hl (by intro z; cases z)
 refine H.name A { s with heap := h', toks := tk' } p _ _ rfl (ihe _ _ _ _ _ _ _ _ own' { s with heap := h', toks := tk' } e2 h2 .self rr _ _ λkv h2 tk2 own2 x2 r2 yk => ?_)
 obtain ⟨⟨a, vs, e0, ta, k1, k2, hd, hat⟩, chg⟩ := H.chg own2 h2 _ x2 r2
 subst e0
 refine yk.str_e λt hj => ?_
 have hzl : ((ks.map sN).zip vs).length <= 100 := by rw [List.length_zip]; exact Nat.le_trans (Nat.min_le_left _ _) (by rw [List.length_map]; exact hcond.1)
 refine wpAny_setItem_pairs (k := sN j) (strKind_is _ _ _ _) hd (λh3 hd3 hs3 => ?_) (Nat.le_trans hzl (by decide))
 have nin : ((ks.map sN).zip vs).any (λkv => kv.1 = sN j) = false := by
  rw [List.any_eq_false]
  intro q hq
  obtain ⟨i0, hi0, e0⟩ := List.mem_map.mp (List.of_mem_zip hq).1
  have hne : ¬ q.1 = sN j := λq2 => by
   have hc := hcond.2
   rw [<- sN_eq (k1 i0 hi0) hj (e0.trans q2), List.contains_iff_mem.mpr hi0] at hc
   exact absurd hc (by decide)
  exact λh => hne (of_decide_eq_true h)
 have es : stored ((ks.map sN).zip vs) (sN j) v = (((ks ++ [j]).map sN).zip (vs ++ [v])) := by
  unfold stored
  rw [nin, List.map_append, List.zip_append (by rw [List.length_map]; exact k2)]
  rfl
 rw [es] at hd3
 have L := turn_le (own := own2) hs3 (by rw [ta]; intro z; cases z)
 obtain ⟨r3, st3, _⟩ := chg a h3 (.od (ks ++ [j]) (ds ++ [d1])) ta hs3 (let ⟨o, _, _, ho, _⟩ := hd3; ⟨o, ho⟩) ⟨a, vs ++ [v], rfl, ta, (λq hq => (List.mem_append.mp hq).elim (k1 q) λhq => List.mem_singleton.mp hq ▸ hj), by rw [List.length_append, List.length_append, k2]; rfl, hd3, (AtL.mono L hat).append (.cons (At.mono L (At.mono (x2.le r') y1)) .nil)⟩
 exact K _ _ _ r3 (x'.stepS.trans (x2.stepS.trans st3))
theorem srci_ok {i : Nat} {d1 : D} {ds : List D} {e : Expr} {p q : Pos} {k0 : Nat} {x : X} (ihe : EvOk g C k A evN) (r : R g own env l σ s.heap) (e1 : ev C evN l σ x = some (d1, σ₁)) (hl : l.lookup 27 = some (.val .src)) (hsrc : σ₁.src = some ds) (hlt : i < ds.length) (hi1 : i < 100)
  (h1 : IsE g env.scope x e) (K : ∀ h' tk' own', R g own' env l { σ₁ with src := some (ds.set i d1) } h' -> StepS own own' s.heap h' -> Q .next { s with heap := h', toks := tk' }) :
  wpAny (model g.prog g.w) A (eval e env) (λv s₁ => wpAny (model g.prog g.w) A (eval (.Name (vN 27) p) env) (λw s₂ => wpAny (model g.prog g.w) A (eval (.Constant (.int i) k0 q) env) (λkv s₃ => wpAny (model g.prog g.w) A (setItem w kv v) (λ_ => Q .next) E s₃) E s₂) E s₁) E s := by
 refine ihe _ _ _ _ _ _ _ _ _ _ e1 h1 .self r _ _ λv h' tk' own' x' r' y => ?_
 have rr := r.ext x' r'
 obtain ⟨w, H⟩ := held rr hl (by intro z; cases z)
 refine H.name A { s with heap := h', toks := tk' } p _ _ rfl (wpAny_Constant_int ?_)
 refine At.src_e (show At g h' own' w .src from H.at_) λa ho => ?_
 obtain ⟨ds', e7, vs, z, hvs⟩ := r'.shr.src _ ho
 cases Option.some.inj (hsrc.symm.trans e7)
 have hlen := hvs.length
 refine wpAny_setItem_list z (by lia) (by lia) (by simp; lia) λh2 hl2 hs2 => ?_
 have L := turn_le (own := own') hs2 (by rw [ho]; intro z; cases z)
 rw [show vs.toArray.setIfInBounds (i : Int).toNat v = (vs.set i v).toArray from by simp] at hl2
 obtain ⟨r2, x2⟩ := r'.setsrc ho hs2 hl2 ((AtL.mono L hvs).set i (At.mono L y))
 exact K _ _ _ (rr.ext x2 r2) (x'.stepS.trans x2.stepS)
theorem setw_ok {j : Nat} {d1 dw : D} {e o i : Expr} {x o0 k0 : X} (ihe : EvOk g C k A evN) (r : R g own env l σ s.heap) (e1 : ev C evN l σ x = some (d1, σ₁)) (e2 : ev C evN l σ₁ o0 = some (dw, σ₂)) (e3 : ev C evN l σ₂ k0 = some (.str j, σ₃))
  (h1 : IsE g env.scope x e) (h2 : IsE g env.scope o0 o) (h3 : IsE g env.scope k0 i) (K : ∀ v w t h' tk' own', R g own' env l σ₃ h' -> StepS own own' s.heap h' -> j < 39 -> At g h' own' w dw -> At g h' own' v d1 -> wpAny (model g.prog g.w) A (setItem w (.str (sN j) t) v) (λ_ => Q .next) E { s with heap := h', toks := tk' }) :
  wpAny (model g.prog g.w) A (eval e env) (λv s₁ => wpAny (model g.prog g.w) A (eval o env) (λw s₂ => wpAny (model g.prog g.w) A (eval i env) (λkv s₃ => wpAny (model g.prog g.w) A (setItem w kv v) (λ_ => Q .next) E s₃) E s₂) E s₁) E s := by
 refine ihe _ _ _ _ _ _ _ _ _ _ e1 h1 .self r _ _ λv h' tk' own' x' r' y => ?_
 have rr := r.ext x' r'
 refine ihe _ _ _ _ _ _ _ _ own' { s with heap := h', toks := tk' } e2 h2 .self rr _ _ λw h2 tk2 own2 x2 r2 yw => ?_
 have rr2 := rr.ext x2 r2
 refine ihe _ _ _ _ _ _ _ _ own2 { s with heap := h2, toks := tk2 } e3 h3 .self rr2 _ _ λkv h3 tk3 own3 x3 r3 yk => ?_
 exact yk.str_e λt hj => K v w t h3 tk3 own3 (rr2.ext x3 r3) ((x'.trans x2).trans x3).stepS hj (At.mono (x3.le r2) yw) (At.mono (x3.le r2) (At.mono (x2.le r') y))
theorem reto_ow {y : Nat} {ds : List D} {p : Pos} (r : R g own env l σ s.heap) (hl : l.lookup y = some (.ow ds)) (K : KX g env own s Q (.ret (.list ds)) l σ) : wpAny (model g.prog g.w) A (eval (.Name (vN y) p) env) (λv s' => Q (.ret v) s') E s := by
 obtain ⟨v, H⟩ := held r hl (by intro z; cases z)
 refine H.name A s p _ _ rfl ?_
 obtain ⟨a, vs, e0, ta, hp, hat⟩ := H.at_
 subst e0
 have L : Le s.heap s.heap own (upd own a .fz) := le_of (λ_ _ _ e => e) λb hb => upd_ne λq => by rw [q, ta] at hb; cases hb
 have alt : ∀ b, upd own a .fz b = own b \/ (∃ x, own b = .ol x) /\ upd own a .fz b = .fz := λb => by
  by_cases q : b = a
  ·rw [q]; exact .inr ⟨⟨y, ta⟩, upd_self⟩
  ·exact .inl (upd_ne q)
 exact K (.ret (.ref a)) s.heap s.toks (upd own a .fz) ⟨λb o _ => (alt b).imp id λ⟨⟨x, q⟩, q2⟩ => ⟨by rw [q]; rfl, q2⟩, λ_ _ e _ => e, λ_ o e => ⟨o, e⟩⟩ ⟨_, upd own a .fz, rfl, .inl rfl, r.toRG.retag alt, .list upd_self hp (AtL.mono L hat)⟩
theorem reto_acc {y : Nat} {ds : List D} {p : Pos} (r : R g own env l σ s.heap) (hl : l.lookup y = some (.val .acc) ∨ l.lookup y = some (.fv .acc)) (e1 : σ.ac = some ds) (k1 : sgOk σ = true) (k2 : noacs ds = true) (K : KX g env own s Q (.ret (.list ds)) l { σ with ac := none }) :
  wpAny (model g.prog g.w) A (eval (.Name (vN y) p) env) (λv s' => Q (.ret v) s') E s := by
 have fin : ∀ v, At g s.heap own v .acc -> Q (.ret v) s := λv hv => hv.acc_e λa ha => by
  obtain ⟨ds', e5, vs, hp, hat⟩ := r.toRG.shr.ac a ha
  cases Option.some.inj (e1.symm.trans e5)
  refine K (.ret (.ref a)) s.heap s.toks own (StepS.refl _ _) ⟨_, endA own, rfl, .inr ⟨rfl, λb => ?_⟩, r.toRG.endac k1, .list (by unfold endA; rw [ha]; rfl) hp (hat.free k2)⟩
  unfold endA
  by_cases q : own b = .ac
  ·rw [if_pos q]; exact .inr ⟨q, rfl⟩
  ·rw [if_neg q]; exact .inl rfl
 have h48 : y < 48 := by
  obtain ⟨m, hn, ht, hv, h48⟩ := r.fr
  exact hl.elim (λq => h48 _ (lookup_mem q)) λq => h48 _ (lookup_mem q)
 exact hl.elim (λq => lname r q (by intro z; cases z) (vN_dbg h48) λv hat => fin v hat) λq => lname r q (by intro z; cases z) (vN_dbg h48) λv hat => fin v hat
theorem foro_on {x y : Nat} {p : Pos} {b : List S} {body : List Stmt} {q : Pos} (hh : A.handled = none) (ih : XsOk g C sx A env n) (ok : okT env.scope [x] = true) (h2 : IsSs g env.scope b body) (r : R g own env l σ s.heap) (hl : l.lookup y = some (.val .acc)) (e3 : foros (fun l σ => xs C sx n l σ b) x n 0 l σ = some (o1, l₁, σ₂))
  (K : KX g env own s Q o1 l₁ σ₂) : wpAny (model g.prog g.w) A (eval (.Name (vN y) q) env) (λv s₁ => wpAny (model g.prog g.w) A (pyIter v) (λit s₂ => codeAny (model g.prog g.w) A (.forLoop (.Name (vN x) p) it body [] env) (λr s' => match r with | .ok f => Q f s' | .error e => cameBackBy (model g.prog g.w) A env E e s') s₂) E s₁) E s := by
 obtain ⟨v, H⟩ := held r hl (by intro z; cases z)
 refine H.name A s q _ _ rfl ?_
 refine At.acc_e (show At g s.heap own v .acc from H.at_) λa ha => ?_
 obtain ⟨ds, e5, vs, ⟨n0, ho⟩, hat⟩ := r.toRG.shr.ac a ha
 refine wpAny_pyIter_list (items := vs.toArray) ⟨_, ho, rfl, _, rfl⟩ ?_
 obtain ⟨r1, st1⟩ := r.extBut (show Heap.ExtBut s.heap.objs.size s.heap (s.heap.push { cls := .type "list_iterator", data := .fields #[.ref a, .int 0 0] }) from fun b o _ e => Heap.get?_push_of_some _ e)
 exact foro_ok (s := s) (own := own) (a := a) hh ih ok h2 (size_none _) ha ⟨_, ho⟩ n 0 own l σ _ s.toks ⟨_, Heap.get?_push_size _ rfl, rfl, rfl⟩ r.toRG.fresh r1 st1 e3 K
end
theorem xs_step (S0 : St g) (hc : COk g C k) (ca : CA A k) (hsx : SxOk g A env sx) : ∀ n, (∀ m, m < n -> XsOk g C sx A env m) -> XsOk g C sx A env n
 | 0 => λ_ l σ ss out l' σ' stmts own s Q E he => nomatch he
 | n + 1 => λihs => by
  have ih := ihs n (Nat.lt_succ_self n)
  obtain ⟨ihe, ihb⟩ := ev_ok S0 hc ca evN
  intro l σ ss out l' σ' stmts own s Q E he hi r K
  have K : KX g env own s Q out l' σ' := K
  revert he
  have hi := hi.out
  induction hi using IsS1.casesOn with
  | nil =>
   intro he
   revert K
   exact x_nil he λK => wpAny_execs_nil (K .next s.heap s.toks own (StepS.refl _ _) ⟨rfl, r⟩)
  | asg1 hs ok h1 hr =>
   intro he
   rename_i x r0 value p pos rest rs
   refine x_asg he λhall lvs l₁ σ₁ e1 he => bE e1 λq e2 e1 => ?_
   obtain ⟨lv, l₂, σ₂⟩ := q
   cases e1
   exact st_then (wpAny_Assign_Name (rh_ok (ts := [x]) ihe S0 (.head _) e2 h1 .self r λv h' tk' own' r' st kp y =>
    store_ok (s := { s with heap := h', toks := tk' }) r' (rh_has e2 (List.all_eq_true.mp hall x (.head _))) y (okT_free ok (.head _)) λh'' tk'' r'' st'' _ => go_on (s := s) ih he hr r'' (st.trans st'') K) (hs env rfl))
  | asg2 hxy hs ok h1 hr => intro he; exact x_asg he λhall lvs l₁ σ₁ e1 he => st_then (asg2_ok ca.hd ihe S0 hall e1 hxy (hs env rfl).1 (hs env rfl).2 ok h1 r λh' tk' own' r' st => go_on ih he hr r' st K)
  | asgn hn hs ok hlen h1 hr => intro he; exact x_asg he λhall lvs l₁ σ₁ e1 he => st_then (asgn_ok ca.hd ihe S0 hall e1 hn (hs env rfl).1 (hs env rfl).2 ok hlen h1 r λh' tk' own' r' st => go_on ih he hr r' st K)
  | app hm hex htr h1 hr =>
   intro he
   rename_i y x a p q r1 pos rest rs
   refine x_app he (λd1 σ₁ ds e1 hl hlen he => ?_) λd1 σ₁ ds e1 hl hac hlen he => ?_
   ·obtain ⟨v, H⟩ := held r hl (by intro z; cases z)
    exact st_then (wpAny_Expr_any (wpAny_Call_method_late (hm.1 env) (hm.2.1 env) hm.2.2 (htr env) (H.name A s p _ _ rfl (app_ok r H (ihe _ _ _ _ _ _ _ _ _ _ e1 h1 .self r) hlen λh' tk' own' r' st => go_on ih he hr r' st K))) (hex env rfl).1 (hex env rfl).2)
   ·obtain ⟨v, H⟩ := held r hl (by intro z; cases z)
    exact st_then (wpAny_Expr_any (wpAny_Call_method_late (hm.1 env) (hm.2.1 env) hm.2.2 (htr env) (H.name A s p _ _ rfl (app_acc r H.at_ (ihe _ _ _ _ _ _ _ _ _ _ e1 h1 .self r) hac hlen λh' tk' own' r' x' => go_on ih he hr r' x'.stepS K))) (hex env rfl).1 (hex env rfl).2)
  | ext hm hex htr h1 hr =>
   intro he
   rename_i y x a p q r1 pos rest rs
   refine x_ext he λd1 σ₁ ds es e1 hl e2 hlen he => ?_
   obtain ⟨v, H⟩ := held r hl (by intro z; cases z)
   exact st_then (wpAny_Expr_any (wpAny_Call_method_late (hm.1 env) (hm.2.1 env) hm.2.2 (htr env) (H.name A s p _ _ rfl (extend_ok r H (ihe _ _ _ _ _ _ _ _ _ _ e1 h1 .self r) e2 hlen λh' tk' own' r' st => go_on ih he hr r' st K))) (hex env rfl).1 (hex env rfl).2)
  | ife hb h1 ha hbb hr =>
   intro he
   refine x_ife he λc σ₁ o1 l₁ σ₂ e1 e2 he => st_then (wpAny_If (ihb _ _ _ _ _ _ _ _ _ _ e1 hb h1 .self r _ _ λh' tk' own' x' r' => ?_))
   have K' : ∀ fl h'' tk'' own'', StepS own' own'' h' h'' -> After g env own'' l₁ σ₂ h'' fl o1 -> nextQ g A _ env Q E fl { s with heap := h'', toks := tk'' } := λfl h'' tk'' own'' st af => go_after ih he hr af (x'.stepS.trans st) K
   revert e2
   cases c
   ·exact λe2 => ih _ _ _ _ _ _ _ own' { s with heap := h', toks := tk' } _ _ e2 hbb (r.ext x' r') K'
   ·exact λe2 => ih _ _ _ _ _ _ _ own' { s with heap := h', toks := tk' } _ _ e2 ha (r.ext x' r') K'
  | whl hb h1 h2 hr => intro he; exact whl_ok ihs ihb hb h1 h2 hr r he K
  | fore ht ok hf h1 h2 hr =>
   intro he
   exact x_fore he λd1 σ₁ ds o1 l₁ σ₂ e1 e2 e3 he => st_then (wpAny_For (ihe _ _ _ _ _ _ _ _ _ _ e1 h1 .self r _ _ λv h' tk' own' x' r' y =>
    fore_ok (s := { s with heap := h', toks := tk' }) ca.hd ih ht ok h2 (r.ext x' r') y e2 e3 λfl h'' tk'' own'' st af => go_after (s := s) ih he hr af (x'.stepS.trans st) K) (hf env))
  | foro ok h2 hr => intro he; exact x_foro he λo1 l₁ σ₂ hl e3 he => st_then (wpAny_For (foro_on ca.hd ih ok h2 r hl e3 λfl h'' tk'' own'' st af => go_after ih he hr af st K) (λ_ => rfl))
  | ret h1 =>
   intro he
   revert K
   exact x_ret he λd1 σ₁ e1 K => st_then (wpAny_Return_some (ihe _ _ _ _ _ _ _ _ _ _ e1 h1 .self r _ _ λv h' tk' own' x' r' y => K (.ret v) h' tk' own' x'.stepS ⟨v, own', rfl, .inl rfl, r', y⟩))
  | reto =>
   intro he
   revert K
   exact x_reto he (λds hl K => st_then (wpAny_Return_some (reto_ow r hl (kx_ret K)))) λds hl e1 k1 k2 K => st_then (wpAny_Return_some (reto_acc r hl e1 k1 k2 (kx_ret K)))
  | srci hs hi1 h1 hr => intro he; exact x_srci he λd1 σ₁ ds e1 hl hsrc hlt he => st_then (wpAny_Assign_Subscript (srci_ok ihe r e1 hl hsrc hlt hi1 h1 λh' tk' own' r' st => go_on ih he hr r' st K) (hs env rfl))
  | seti hs h1 h2 hr => intro he; exact x_seti he λd1 σ₁ j σ₂ ks ds e1 e2 hl hcond he => st_then (wpAny_Assign_Subscript (seti_ok ihe r e1 e2 hl hcond h1 h2 λh' tk' own' r' st => go_on ih he hr r' st K) (hs env rfl))
  | asgc hs ok hcc ht hf h1 h2 hr => intro he; exact x_asgc he λd1 σ₁ hx e1 he => st_then (asgc_ok ca.hd (λn => (ev_ok S0 hc ca n).1) (hs env rfl) ok hx hcc ht hf h1 h2 r e1 λh' tk' own' r' st => go_on ih he hr r' st K)
  | setw hs h1 h2 h3 hr =>
   intro he
   refine x_setw he (λd1 σ₁ σ₂ j σ₃ ks ds e1 e2 e3 had hl he => st_then (wpAny_Assign_Subscript (setw_ok ihe r e1 e2 e3 h1 h2 h3 λv w t h3 tk3 own3 rr3 st3 hj yw yv => yw.adts_e λa ha => ?_) (hs env rfl))) λd1 σ₁ σ₂ j σ₃ ks ds e1 e2 e3 had hl he => st_then (wpAny_Assign_Subscript (setw_ok ihe r e1 e2 e3 h1 h2 h3 λv w t h3 tk3 own3 rr3 st3 hj yw yv => yw.trs_e λa ha => ?_) (hs env rfl))
   ·refine dic_put (s := { s with heap := h3, toks := tk3 }) had hl.1 hj (rr3.toRG.shr.ad _ ha) yv (by rw [ha]; intro z; cases z) (by rw [ha]; rfl) λh4 hs4 hex hd4 => ?_
    obtain ⟨r4, x4⟩ := rr3.toRG.setad ha hs4 hex hd4
    exact go_on (s := s) ih he hr (rr3.ext x4 r4) (st3.trans x4.stepS) K
   ·refine dic_put (s := { s with heap := h3, toks := tk3 }) had hl.1 hj (rr3.toRG.shr.tr _ ha) yv (by rw [ha]; intro z; cases z) (by rw [ha]; rfl) λh4 hs4 hex hd4 => ?_
    obtain ⟨r4, x4⟩ := rr3.toRG.settr ha hs4 hex hd4
    exact go_on (s := s) ih he hr (rr3.ext x4 r4) (st3.trans x4.stepS) K
  | acc hs ok h1 hr => intro he; exact x_acc he λds σ₁ e1 hcond he => st_then (acc_ok ihe (hs env rfl) ok e1 hcond.1 hcond.2.1 (Option.isNone_iff_eq_none.mp hcond.2.2) h1 r λh' tk' own' r' st => go_on ih he hr r' st K)
  | exp hex h1 hr => intro he; exact x_exp he λd1 σ₁ e1 he => st_then (wpAny_Expr_any (ihe _ _ _ _ _ _ _ _ _ _ e1 h1 .self r _ _ λv h' tk' own' x' r' y => go_on ih he hr (r.ext x' r') x'.stepS K) (hex env rfl).1 (hex env rfl).2)
  | frz hr =>
   intro he
   refine x_frz he (λds hl he => ?_) λks ds hl he => ?_
   ·obtain ⟨own', r', st⟩ := frz_list r hl (.inl ⟨ds, rfl, rfl⟩)
    exact go_on (h1 := s.heap) (tk1 := s.toks) ih he hr r' st K
   ·obtain ⟨own', r', st⟩ := frz_list r hl (.inr ⟨ks, ds, rfl, rfl, S0.sysm⟩)
    exact go_on (h1 := s.heap) (tk1 := s.toks) ih he hr r' st K
  | sx hj hr => intro he; exact x_sx he λl₁ σ₁ e1 he => st_then (hsx _ _ _ _ _ _ own s _ _ hj e1 r λh' tk' own' r' st => go_on ih he hr r' st K)
  | dead => intro he; exact nomatch he
theorem xs_ok (S0 : St g) (hc : COk g C k) (ca : CA A k) (hsx : SxOk g A env sx) (n : Nat) : XsOk g C sx A env n :=
 Nat.strongRecOn n λn ih => xs_step S0 hc ca hsx n ih
end
noncomputable def fuel : Nat := 1000000
noncomputable def loc0 (ps : List Nat) (ds : List D) (ns : List Nat) : Loc := ns.map λi => (i, match (ps.zip ds).lookup i with | some d => .val d | none => .un)
noncomputable def fnRun (C : Calls) (sx : Sx) (ps ns : List Nat) (body : List S) (ds : List D) (σ : Sg) : Option (D × Sg) :=
 if ds.length = ps.length then (xs C sx fuel (loc0 ps ds ns) σ body).bind λp => match p.1 with
  | .ret d => if σ.ac.isSome = p.2.2.ac.isSome then some (d, p.2.2) else none
  | .next => none
 else none
structure FnAt (g : Gh) (a : Addr) (fd : FuncData) (ps ns : List Nat) (stmts : List Stmt) : Prop where
 obj : ∃ o, g.h₀.get? a = some o /\ o.data = .func fd
 body : fd.body = .stmts stmts
 clo : fd.closure = []
 kind : fd.scope.kind = .function
 co : fd.scope.isCoroutine = false
 ge : fd.scope.isGenerator = false
 gl : fd.globals = mainGlobals
 bu : fd.builtins = builtinsNs
 code : g.h₀.CodeRec fd.code fd.qualname
 bind : ∀ vs : List Value, vs.length = ps.length -> bindArgs fd ⟨vs, []⟩ = pure ((ps.map vN).zip vs)
 kinds : ∀ i ∈ ns, fd.scope.names.lookup (vN i) = some .local \/ fd.scope.names.lookup (vN i) = some .cell
 sub : ∀ p ∈ ps, p ∈ ns
 nd : ps.Nodup
 n48 : ∀ i ∈ ns, i < 48
 cel : ∀ p ∈ fd.scope.names, p.2 = .cell -> ∃ i ∈ ns, p.1 = vN i
section
variable {g : Gh} {A : Around} {own own' own'' : Addr -> Tag} {s : Shared} {σ σ₁ σ₂ σ₃ σ' : Sg} {d e : D} {h h' h'' : Heap} {C : Calls} {k n : Nat} {l l' : Loc} {sc : Scope} {env : Env} {ts : List Nat} {sx : Sx}
theorem bindL_skip {kindOf : Str -> Option NameKind} {x : Str} : ∀ {binds : List (Str × Value)} {m : Str -> Option Value}, (∀ q ∈ binds, q.1 ≠ x) -> bindL kindOf binds m x = m x
 | [], _, _ => rfl
 | (n, v) :: r, m, h => by
  unfold bindL
  rw [bindL_skip λq hq => h q (.tail _ hq)]
  split
  ·have : x ≠ n := λe => h _ (.head _) e.symm
   simp [this]
  ·rfl
theorem bindC_skip {kindOf : Str -> Option NameKind} {x : Str} : ∀ {binds : List (Str × Value)} {m : Str -> Option Value}, (∀ q ∈ binds, q.1 ≠ x) -> bindC kindOf binds m x = m x
 | [], _, _ => rfl
 | (n, v) :: r, m, h => by
  unfold bindC
  rw [bindC_skip λq hq => h q (.tail _ hq)]
  split
  ·rfl
  ·have : x ≠ n := λe => h _ (.head _) e.symm
   simp [this]
theorem binds_get {kindOf : Str → Option NameKind} : ∀ {ps : List Nat} {vs : List Value} {ds : List D} {i : Nat} {d : D} {m mc : Str → Option Value}, ps.Nodup → (∀ p ∈ ps, p < 48) → AtL g h own vs ds → (ps.zip ds).lookup i = some d →
  ∃ v, At g h own v d /\ (kindOf (vN i) = some .local -> bindL kindOf ((ps.map vN).zip vs) m (vN i) = some v) /\ (kindOf (vN i) ≠ some .local -> bindC kindOf ((ps.map vN).zip vs) mc (vN i) = some v)
 | [], _, _, _, _, _, _, _, _, _, e => by simp at e
 | p :: ps, _, _, i, d, m, mc, nd, h48, .nil, e => by simp at e
 | p :: ps, _, _, i, d, m, mc, nd, h48, .cons (v := v) (vs := vs) (ds := ds) y ys, e => by
  simp only [List.zip_cons_cons, List.lookup_cons] at e
  have hp := h48 p (.head _)
  have nd' := List.nodup_cons.mp nd
  by_cases q : i = p
  ·subst q
   simp at e; subst e
   have sk : ∀ q ∈ (ps.map vN).zip vs, q.1 ≠ vN i := by
    intro q hq e
    obtain ⟨j, hj, ej⟩ := List.mem_map.mp (List.of_mem_zip hq).1
    have := vN_inj (h48 j (.tail _ hj)) hp (ej.trans e)
    exact nd'.1 (this ▸ hj)
   refine ⟨v, y, λhk => ?_, λhk => ?_⟩
   ·simp only [List.map_cons, List.zip_cons_cons]
    unfold bindL
    rw [bindL_skip sk, if_pos hk]; simp
   ·simp only [List.map_cons, List.zip_cons_cons]
    unfold bindC
    rw [bindC_skip sk, if_neg hk]; simp
  ·have n1 : (i == p) = false := by simp [q]
   rw [n1] at e
   simp only [List.map_cons, List.zip_cons_cons]
   unfold bindL bindC
   exact binds_get nd'.2 (λp hp => h48 p (.tail _ hp)) ys e
theorem cellsFrom_mem : ∀ {names : List (Str × NameKind)} {n : Nat} {acc : List (Str × Addr)} {q : Str × Addr}, q ∈ cellsFrom n names acc -> q ∈ acc \/ (q.1, NameKind.cell) ∈ names
 | [], _, _, _, h => .inl h
 | (y, k) :: r, n, acc, q, h => by
  unfold cellsFrom at h
  split at h
  ·rename_i hk
   rcases cellsFrom_mem h with h | h
   ·rcases List.mem_cons.mp h with rfl | h
    ·have : k = .cell := by simpa using hk
     right; rw [<- this]; exact .head _
    ·exact .inl h
   ·exact .inr (.tail _ h)
  ·rcases cellsFrom_mem h with h | h
   ·exact .inl h
   ·exact .inr (.tail _ h)
noncomputable def ceIx (ns : List Nat) (cells : List (Str × Addr)) (b : Addr) : Option Nat := ns.find? λi => cells.lookup (vN i) == some b
noncomputable def er (t : Tag) : Tag := if hot t then t else .no
noncomputable def ent (own : Addr -> Tag) (h : Heap) (ns : List Nat) (cells : List (Str × Addr)) (L : Addr) : Addr -> Tag := λb => if (h.get? b).isSome then er (own b) else if b = L then .fr else match ceIx ns cells b with | some i => .ce i | none => .no
noncomputable def ext (own own'' : Addr -> Tag) (h : Heap) : Addr -> Tag := λb => if (h.get? b).isSome then own b else er (own'' b)
theorem er_hot {t : Tag} (h : hot t = true) : er t = t := if_pos h
theorem er_not {t : Tag} (h : hot t = false) : er t = .no := by unfold er; rw [h]; rfl
theorem hot_er {t : Tag} (h : hot (er t) = true) : er t = t /\ hot t = true := by
 cases q : hot t with
 | true => exact ⟨er_hot q, rfl⟩
 | false => rw [er_not q] at h; cases h
theorem call_fn {a : Addr} {fd : FuncData} {ps ns : List Nat} {stmts : List Stmt} {body : List S} (S0 : St g) (F : FnAt g a fd ps ns stmts) (hi : IsSs g fd.scope body stmts) (hc : COk g C k)
  (hsx : ∀ (A : Around) (L : Addr), CA A k -> SxOk g A (callEnvC fd L a) sx) {vs : List Value} {ds : List D} (ca : CA A (k + 1)) (r : RG g own σ s.heap) (y : AtL g s.heap own vs ds) (he : fnRun C sx ps ns body ds σ = some (d, σ')) : Gives g A own s (call (.ref a) vs []) d σ' := λQ E K => by
 unfold fnRun at he
 split at he
 ·rename_i hlen
  obtain ⟨⟨out, l', σ2⟩, hx, he⟩ := Option.bind_eq_some_iff.mp he
  simp only at he
  split at he
  ·rename_i dd
   split at he
   ·rename_i hac
    cases he
    obtain ⟨o, ho, hdat⟩ := F.obj
    have hvl : vs.length = ps.length := y.length.trans hlen
    refine wpAny_call (codeAny_call_cells (fd := fd) (by have := ca.dp; lia) (r.base _ _ ho).1 hdat (S0.lim.keeps λb o e => (r.base b o e).1) ?_ F.body (F.bind vs hvl) F.clo ?_ ?_ F.co F.ge F.kind)
    ·obtain ⟨c, oc, fs, t, e1, e2, e3, e4⟩ := F.code; exact ⟨c, oc, fs, t, e1, (r.base _ _ e2).1, e3, e4⟩
    ·intro x hx
     have := (List.of_mem_zip hx).1
     obtain ⟨i, hi, e⟩ := List.mem_map.mp this
     rcases F.kinds i (F.sub i hi) with q | q
     ·rw [e] at q; exact .inl q
     ·rw [e] at q; exact .inr ⟨q, cellsFrom_some _ _ _ (.inl q)⟩
    intro s₁ X
    obtain ⟨h₁, tk₁, rfl⟩ := X.toInCall.same
    have hkeep := X.toInCall.keep
    simp only at hkeep
    generalize hL : s.heap.objs.size = L at *
    have hLn : s.heap.get? L = none := by rw [<- hL]; exact size_none _
    let cells := cellsFrom (L + 1) fd.scope.names []
    have cellsName : ∀ q ∈ cells, ∃ i ∈ ns, q.1 = vN i := by
     intro q hq
     rcases cellsFrom_mem hq with h | h
     ·cases h
     ·exact F.cel _ h rfl
    have cellNew : ∀ n c, cells.lookup n = some c -> s.heap.get? c = none /\ c ≠ L := by
     intro n c hc
     have := X.above n c (mem_of_lookup hc)
     exact ⟨none_of_le (by rw [hL]; exact Nat.le_of_lt this), Nat.ne_of_gt this⟩
    have cellIx : ∀ i ∈ ns, ∀ c, cells.lookup (vN i) = some c -> ceIx ns cells c = some i := by
     intro i hi c hc
     have hsome : (ceIx ns cells c).isSome = true := by
      unfold ceIx; rw [List.find?_isSome]; exact ⟨i, hi, by simp [hc]⟩
     obtain ⟨j, hj⟩ := Option.isSome_iff_exists.mp hsome
     have hj1 := List.find?_some hj
     have hj2 := List.mem_of_find?_eq_some hj
     have e : cells.lookup (vN j) = some c := by simpa using hj1
     have := name_of_addr X.apart (mem_of_lookup e) (mem_of_lookup hc)
     rw [hj, vN_inj (F.n48 j hj2) (F.n48 i hi) this]
    let own₀ := ent own s.heap ns cells L
    have o_old : ∀ b o, s.heap.get? b = some o -> own₀ b = er (own b) := λb o e => by show (if (s.heap.get? b).isSome then _ else _) = _; rw [e]; rfl
    have o_L : own₀ L = .fr := by show (if (s.heap.get? L).isSome then _ else _) = _; rw [hLn]; simp
    have o_cell : ∀ i ∈ ns, ∀ c, cells.lookup (vN i) = some c -> own₀ c = .ce i := λi hi c hc => by
     show (if (s.heap.get? c).isSome then _ else _) = _
     rw [(cellNew _ _ hc).1]
     simp only [Option.isSome_none, Bool.false_eq_true, if_false, if_neg (cellNew _ _ hc).2]
     rw [cellIx i hi c hc]
    have hot₀ : ∀ b, hot (own b) = true -> own₀ b = own b := λb hb => by
     obtain ⟨o, e⟩ := r.lt b (by intro z; rw [z] at hb; cases hb)
     rw [o_old b o e, er_hot hb]
    have ex₀ : ∀ b, own₀ b ≠ .no -> ∃ o, h₁.get? b = some o := λb hb => by
     cases e : s.heap.get? b with
     | some o => exact ⟨o, hkeep b o e⟩
     | none =>
      have e1 : own₀ b = if b = L then .fr else match ceIx ns cells b with | some i => .ce i | none => .no := by
       show (if (s.heap.get? b).isSome then _ else _) = _; rw [e]; rfl
      rw [e1] at hb
      by_cases q : b = L
      ·rw [q]; obtain ⟨o, _, _, e, _⟩ := X.toInCall.ns; exact ⟨o, e⟩
      ·rw [if_neg q] at hb
       cases e2 : ceIx ns cells b with
       | none => rw [e2] at hb; exact absurd rfl hb
       | some i =>
        have := List.find?_some e2
        have e3 : cells.lookup (vN i) = some b := by simpa using this
        obtain ⟨o, ho, _⟩ := X.cell _ _ e3
        exact ⟨o, ho⟩
    have ac₀ : ∀ b, uq (own₀ b) = true -> own b = own₀ b := λb hb => by
     cases e : s.heap.get? b with
     | some o =>
      rw [o_old b o e] at hb ⊢
      exact (hot_er (uq_hot hb)).1.symm
     | none =>
      have e1 : own₀ b = if b = L then .fr else match ceIx ns cells b with | some i => .ce i | none => .no := by
       show (if (s.heap.get? b).isSome then _ else _) = _; rw [e]; rfl
      rw [e1] at hb
      split at hb
      ·cases hb
      ·split at hb <;> cases hb
    have r₀ : RG g own₀ σ h₁ := r.step (λb o hb e => hkeep b o e) hot₀ ex₀ ac₀
    have L₀ : Le s.heap h₁ own own₀ := le_of (λb o e ho => hkeep b o ho) hot₀
    have y₀ : AtL g h₁ own₀ vs ds := AtL.mono L₀ y
    have ps48 : ∀ p ∈ ps, p < 48 := λp hp => F.n48 p (F.sub p hp)
    have rr : R g own₀ (callEnvC fd L a) (loc0 ps ds ns) σ h₁ := by
     refine ⟨r₀, F.kind, F.gl, F.bu, _, X.toInCall.ns, o_L, λp hp => ?_, λp hp => ?_⟩
     ·obtain ⟨i, hi, rfl⟩ := List.mem_map.mp hp
      have hkindE : ∀ x, (callEnvC fd L a).kindOf x = fd.scope.names.lookup x := λ_ => rfl
      rcases F.kinds i hi with q | q
      ·refine .inl ⟨q, ?_⟩
       cases e : (ps.zip ds).lookup i with
       | none => simp only; left; trivial
       | some d0 =>
        obtain ⟨v, yv, b1, _⟩ := binds_get (kindOf := (callEnvC fd L a).kindOf) (m := λ_ => none) (mc := λ_ => none) F.nd ps48 y₀ e
        right
        exact ⟨v, b1 q, yv⟩
      ·refine .inr ⟨.inl q, ?_⟩
       obtain ⟨c, hc⟩ := Option.isSome_iff_exists.mp (cellsFrom_some fd.scope.names (L + 1) [] (x := vN i) (.inl q))
       refine ⟨c, _, hc, .inl (o_cell i hi c hc), X.cell _ _ hc, ?_⟩
       cases e : (ps.zip ds).lookup i with
       | none => simp only; left; trivial
       | some d0 =>
        obtain ⟨v, yv, _, b2⟩ := binds_get (kindOf := (callEnvC fd L a).kindOf) (m := λ_ => none) (mc := λ_ => none) F.nd ps48 y₀ e
        right
        exact ⟨v, b2 (by rw [hkindE, q]; intro z; cases z), yv⟩
     ·obtain ⟨i, hi, rfl⟩ := List.mem_map.mp hp
      exact F.n48 i hi
    have ca' : CA (A.deeper (callEnvC fd L a)) k := ⟨ca.hd, by have := ca.dp; show A.depth + 1 + k < recursionLimit; lia, by have := ca.un; show A.units + 3 + 3 * k + 300 < cLine; lia⟩
    refine xs_ok S0 hc ca' (hsx _ L ca') fuel _ _ _ _ _ _ _ own₀ { s with heap := h₁, toks := tk₁ } _ _ hx hi rr λfl h' tk' own' st af => ?_
    obtain ⟨v, own'', rfl, alt, r'', yv⟩ := af
    have tag' : ∀ b o, s.heap.get? b = some o -> own' b = er (own b) := λb o e => by
     rcases st.tags b o (hkeep b o e) with q | ⟨q, _⟩
     ·exact q.trans (o_old b o e)
     ·rw [o_old b o e] at q
      unfold er at q
      split at q
      ·rename_i hh; cases q3 : own b <;> rw [q3] at q hh <;> first | (cases q; done) | (cases hh; done)
      ·cases q
    have tag'' : ∀ b o, s.heap.get? b = some o -> own'' b = er (own b) := λb o e => by
     rcases alt with q | ⟨hn, q⟩
     ·rw [q]; exact tag' b o e
     ·rcases q b with q | ⟨q, _⟩
      ·exact q.trans (tag' b o e)
      ·rw [tag' b o e] at q
       obtain ⟨e1, _⟩ := hot_er (t := own b) (by rw [q]; rfl)
       obtain ⟨ds', e2, _⟩ := r.shr.ac b (e1.symm.trans q)
       rw [e2, hn] at hac; cases hac
    let own_f := ext own own'' s.heap
    have f_old : ∀ b o, s.heap.get? b = some o -> own_f b = own b := λb o e => by show (if (s.heap.get? b).isSome then _ else _) = _; rw [e]; rfl
    have f_new : ∀ b, s.heap.get? b = none -> own_f b = er (own'' b) := λb e => by show (if (s.heap.get? b).isSome then _ else _) = _; rw [e]; rfl
    have hotF : ∀ b, hot (own'' b) = true -> own_f b = own'' b := λb hb => by
     cases e : s.heap.get? b with
     | some o =>
      rw [f_old b o e, tag'' b o e]
      rw [tag'' b o e] at hb
      exact (hot_er hb).1.symm
     | none => rw [f_new b e, er_hot hb]
    have rF : RG g own_f σ' h' := by
     refine r''.step (λ_ _ _ e => e) hotF (λb hb => ?_) λb hb => ?_
     ·cases e : s.heap.get? b with
      | some o => obtain ⟨o', e'⟩ := st.ex b o (hkeep b o e); exact ⟨o', e'⟩
      | none =>
       rw [f_new b e] at hb
       refine r''.lt b λq => hb ?_
       rw [q]; rfl
     ·cases e : s.heap.get? b with
      | some o =>
       rw [f_old b o e] at hb ⊢
       rw [tag'' b o e]
       exact er_hot (uq_hot hb)
      | none =>
       rw [f_new b e] at hb ⊢
       exact (hot_er (uq_hot hb)).1.symm
    have xF : Ext own own_f s.heap h' := by
     refine ⟨λb o e => f_old b o e, λb o e hm => st.objs b o (hkeep b o e) ?_, λb o e => st.ex b o (hkeep b o e)⟩
     rw [o_old b o e]
     unfold er
     cases q : own b <;> rw [q] at hm <;> first | rfl | cases hm
    exact K v h' tk' own_f xF rF (At.mono (le_of (λ_ _ _ e => e) hotF) yv)
   ·cases he
  ·cases he
 ·cases he
end
structure FdC (fd : FuncData) (y : Nat) (c : Addr) : Prop where
 clo : fd.closure = [(vN y, c)]
 kind : fd.scope.kind = .function
 co : fd.scope.isCoroutine = false
 ge : fd.scope.isGenerator = false
 gl : fd.globals = mainGlobals
 bu : fd.builtins = builtinsNs
 bind : ∀ v : Value, bindArgs fd ⟨[v], []⟩ = pure [(vN 6, v)]
 nocell : ∀ x ∈ fd.scope.names, x.2 ≠ .cell
 loc : fd.scope.names.lookup (vN 6) = some .local
 free : fd.scope.names.lookup (vN y) = some .free
def body0 (body : List Stmt) : Prop := ∃ p1 p2 p3 p4 p5 p6 p7, body = [.Expr (.Call (.Attribute (.Name (vN 7) p1) "append" p2) [.Name (vN 6) p3] [] p4) p5, .Return (some (.Name (vN 6) p6)) p7] ∧ (p2.endLine == p4.line) = true
def body1 (body : List Stmt) : Prop := ∃ p1 p2 p3 p4 p5 p6, body = [.Return (some (.Call (.Attribute (.Name (vN 15) p1) "get" p2) [.Name (vN 6) p3, .Name (vN 6) p4] [] p5)) p6] ∧ (p2.endLine == p5.line) = true
noncomputable def cloIs : Nat -> FuncData -> Addr -> Prop
 | 0, fd, c => FdC fd 7 c /\ ∃ b, fd.body = .stmts b /\ body0 b
 | 1, fd, c => FdC fd 15 c /\ ∃ b, fd.body = .stmts b /\ body1 b
 | _, _, _ => False
section
variable {g : Gh} {A : Around} {own own' own'' : Addr -> Tag} {s : Shared} {σ σ₁ σ₂ σ₃ σ' : Sg} {d e : D} {h h' h'' : Heap} {C : Calls} {k n : Nat} {l l' : Loc} {sc : Scope} {env : Env} {ts : List Nat} {sx : Sx}
theorem clo_in {fa c : Addr} {fo oc : Obj} {fd : FuncData} {y : Nat} {v v0 : Value} {b : List Stmt} {Q : Value → Shared → Prop} {E : Value → Shared → Prop} (S0 : St g) (r : RG g own σ s.heap) (hd : A.depth < recursionLimit) (f1 : own fa = .fz) (h1 : s.heap.get? fa = some fo) (hdat : fo.data = .func fd) (h2 : s.heap.get? c = some oc) (hv0 : oc.data = .cell (some v0))
  (hcode : CodeFz s.heap own fd.code fd.qualname) (F : FdC fd y c) (hb : fd.body = .stmts b) (h48 : y < 48) (hcd : (vN y == ("__classdict__" : Str)) = false)
  (H : ∀ (env : Env) (h' : Heap) (tk' : Tok), env.scope.kind = .function -> RG g own σ h' -> Ext own own s.heap h' -> (∀ (A : Around) (p : Pos) (P : Value -> Shared -> Prop) (E : Value -> Shared -> Prop) (s' : Shared), (∀ b o, h'.get? b = some o -> may (own b) = false -> s'.heap.get? b = some o) -> P v s' -> wpAny (model g.prog g.w) A (eval (.Name (vN 6) p) env) P E s') ->
   (∀ (A : Around) (p : Pos) (P : Value -> Shared -> Prop) (E : Value -> Shared -> Prop) (s' : Shared), s'.heap = h' -> P v0 s' -> wpAny (model g.prog g.w) A (eval (.Name (vN y) p) env) P E s') ->
   ∀ (A : Around) (E : Value -> Shared -> Prop), wpAny (model g.prog g.w) A (execs b env) (λf s' => Q (match f with | .ret v => v | _ => .none) s') E { s with heap := h', toks := tk' }) :
  wpAny (model g.prog g.w) A (call (.ref fa) [v] []) Q E s := by
 refine wpAny_call (codeAny_call_def hd h1 hdat (S0.lim.keeps λb o e => (r.base b o e).1) ?_ hb (BindsTo.of_eq (F.bind v)) F.nocell ?_ ?_ F.co F.ge F.kind)
 ·exact hcode.elim λc z => z.elim λo z => z.elim λvs z => z.elim λt z => ⟨c, o, vs, t, z.1, z.2.2⟩
 ·intro x hx; rcases List.mem_singleton.mp hx with rfl; exact F.loc
 intro h₀ hns hk
 have x : Ext own own s.heap h₀ := ⟨λ_ _ _ => rfl, λb o e _ => hk b o e, λb o e => ⟨o, hk b o e⟩⟩
 have r0 : RG g own σ h₀ := r.keepAll x hk (λa ha => by obtain ⟨o, e⟩ := r.lt a ha; exact ⟨o, hk _ _ e⟩) λ_ _ => rfl
 have hL : own s.heap.objs.size = .no := r.fresh
 refine H (callEnv fd s.heap.objs.size fa) h₀ _ F.kind r0 x (λA p P E s' hk' hP => ?_) (λA p P E s' hs hP => ?_) _ _
 ·have : s'.heap.Ns (callEnv fd s.heap.objs.size fa).locals (λx => [(vN 6, v)].reverse.lookup x) := ns_keep (λo ho => hk' _ _ ho (by show may (own s.heap.objs.size) = false; rw [hL]; rfl)) hns
  exact wpAny_Name (wpAny_loadName_local F.kind F.loc this (by simp) hP) (vN_dbg (by decide))
 ·subst hs
  have hc : (callEnv fd s.heap.objs.size fa).cells.lookup (vN y) = some c := by show fd.closure.lookup (vN y) = _; rw [F.clo]; simp
  exact wpAny_Name (wpAny_loadName_free F.kind F.free hc ⟨oc, hk _ _ h2, hv0⟩ hP hcd) (vN_dbg h48)
theorem mAccD {β : Type} {dc : D} {x : Option β} {b : β} {G : Prop} (h : (match dc with | .acc => x | _ => none) = some b) (k : dc = .acc -> x = some b -> G) : G := by
 cases dc <;> first | exact k rfl h | exact no h
noncomputable def clo0 (σ : Sg) (dc a : D) : Option (D × Sg) := match dc with
 | .acc => σ.ac.bind λds => if ds.length <= maxLen then some (a, { σ with ac := some (ds ++ [a]) }) else none
 | _ => none
noncomputable def clo1 (σ : Sg) (dc a : D) : Option (D × Sg) := match dc, a with
 | .dict ks ds, .str k => some ((lookD ks ds k).getD (.str k), σ)
 | _, _ => none
noncomputable def cloGo (j : Nat) (dc a : D) (σ : Sg) : Option (D × Sg) := match j with
 | 0 => clo0 σ dc a
 | 1 => clo1 σ dc a
 | _ => none
section
variable {fa c : Addr} {fo oc : Obj} {fd : FuncData} {v0 v : Value} {dc a : D}
theorem clo0_do {ds : List D} (S0 : St g) (hd : A.depth < recursionLimit) (r : RG g own σ s.heap) (f1 : own fa = .fz) (h1 : s.heap.get? fa = some fo) (hdat : fo.data = .func fd) (hc : cloIs 0 fd c) (h2 : s.heap.get? c = some oc) (hv : oc.data = .cell (some v0)) (hcode : CodeFz s.heap own fd.code fd.qualname) (hat : At g s.heap own v0 .acc) (yv : At g s.heap own v a)
  (hac : σ.ac = some ds) (hlen : ds.length <= maxLen) : Gives g A own s (call (.ref fa) [v] []) a { σ with ac := some (ds ++ [a]) } := λQ E K => by
 obtain ⟨F, b, hb, p1, p2, p3, p4, p5, p6, p7, e, hline⟩ := hc
 subst e
 refine clo_in S0 r hd f1 h1 hdat h2 hv hcode F hb (by decide) (by decide +kernel) λenv h' tk' hk r' x' hn1 hn2 A E => ?_
 revert hn2
 refine hat.acc_e λaa ha hn2 => ?_
 refine wpAny_execs_cons (wpAny_Expr_any (wpAny_Call_method_late (trees := [(false, eval (.Name (vN 6) p3) env)]) rfl rfl hline rfl (hn2 A p1 _ _ _ rfl ?_)) (by unfold interactive; rw [hk]; rfl) rfl)
 obtain ⟨ds1, e1, vs, ho, hvs⟩ := r'.shr.ac aa ha
 obtain ⟨n, ho⟩ := ho
 cases Option.some.inj (hac.symm.trans e1)
 refine ⟨"list", "list.append", PySem.F.plainAttrs_list, PySem.F.slot_list_append, rfl, ⟨_, ho, rfl⟩, fun b e => by cases e; exact ⟨_, ho, rfl⟩, ?_⟩
 refine PySem.P.append_list (hn1 A p3 _ _ _ (λb o e _ => e) ⟨vs.toArray, n, by rw [List.size_toArray, hvs.length]; exact Nat.le_trans hlen (by rw [sizeLine_eq]; decide), ho, ?_⟩)
 have ho2 : (h'.update aa (Obj.mapSeq fun xs => xs.push v)).get? aa = some { cls := .type "list", data := .seq (vs ++ [v]).toArray (n + 1) } := by
  rw [Heap.get?_update_self _ ho (by rw [Obj.mapSeq_push_plain]; rfl), Obj.mapSeq_push_plain, List.push_toArray]
 have hs : Heap.SameBut aa h' (h'.update aa (Obj.mapSeq λxs => xs.push v)) := Heap.SameBut.update ..
 have L := turn_le (own := own) hs (by rw [ha]; intro z; cases z)
 have yv' := At.mono (x'.le r) yv
 obtain ⟨r2, x2⟩ := r'.setac ha hs (vs := vs ++ [v]) ⟨_, ho2⟩ ((AtL.mono L hvs).append (.cons (At.mono L yv') .nil))
 exact wpAny_execs_cons (wpAny_Return_some (hn1 A p6 _ _ _ (λb o e hm => x2.objs b o e hm) (K v _ _ own (x'.trans x2) r2 (At.mono L yv'))))
theorem clo1_do {ks : List Nat} {ds : List D} {k : Nat} (S0 : St g) (hd : A.depth < recursionLimit) (r : RG g own σ s.heap) (f1 : own fa = .fz) (h1 : s.heap.get? fa = some fo) (hdat : fo.data = .func fd) (hc : cloIs 1 fd c) (h2 : s.heap.get? c = some oc) (hv : oc.data = .cell (some v0)) (hcode : CodeFz s.heap own fd.code fd.qualname) (hat : At g s.heap own v0 (.dict ks ds)) (yv : At g s.heap own v (.str k)) :
  Gives g A own s (call (.ref fa) [v] []) ((lookD ks ds k).getD (.str k)) σ := λQ E K => by
 obtain ⟨F, b, hb, p1, p2, p3, p4, p5, p6, e, hline⟩ := hc
 subst e
 refine clo_in S0 r hd f1 h1 hdat h2 hv hcode F hb (by decide) (by decide +kernel) λenv h' tk' hk r' x' hn1 hn2 A E => ?_
 refine wpAny_execs_cons (wpAny_Return_some (wpAny_Call_method_late (trees := [(false, eval (.Name (vN 6) p3) env), (false, eval (.Name (vN 6) p4) env)]) rfl rfl hline rfl (hn2 A p1 _ _ _ rfl ?_)))
 exact get_ok (s := { s with heap := h', toks := tk' }) r' (At.mono (x'.le r) hat) (λQ E K => hn1 A p3 _ _ _ (λb o e _ => e) (K v _ _ own (Ext.refl _ _) r' (At.mono (x'.le r) yv))) (λh'' tk'' own'' x'' r'' Q E K => hn1 A p4 _ _ { s with heap := h'', toks := tk'' } (λb o e hm => x''.objs b o e hm) (K v _ _ own'' (Ext.refl _ _) r'' (At.mono (x''.le r') (At.mono (x'.le r) yv))))
  λw h'' tk'' own'' x'' r'' y'' => K w h'' tk'' own'' (x'.trans x'') r'' y''
end
theorem clo_ok (S0 : St g) (hcl : g.isClo = cloIs) (hd : A.depth < recursionLimit) {fv v : Value} {dc a d : D} (r : RG g own σ s.heap) (yv : At g s.heap own v a) : ∀ {j : Nat}, At g s.heap own fv (.clo j dc) -> cloGo j dc a σ = some (d, σ') -> Gives g A own s (call fv [v] []) d σ'
 | 0, yf, he => yf.clo_e λfa c fo oc fd w f1 h1 hdat hc _ h2 hv hcode hat => mAccD he λq he => bE he λds hac he => iE he λhl he => pE2 (P := λd σ' => Gives g A own s (call (.ref fa) [v] []) d σ') he (clo0_do S0 hd r f1 h1 hdat (hcl ▸ hc) h2 hv hcode (q ▸ hat) yv hac hl)
 | 1, yf, he => yf.clo_e λfa c fo oc fd w f1 h1 hdat hc _ h2 hv hcode hat => mDS he λks ds k q1 q2 he => pE2 (P := λd σ' => Gives g A own s (call (.ref fa) [v] []) d σ') he (clo1_do S0 hd r f1 h1 hdat (hcl ▸ hc) h2 hv hcode (q1 ▸ hat) (q2 ▸ yv))
 | n + 2, _, he => no he
end
structure DefSh (y : Nat) (params : Arguments) (body : List Stmt) (scope : Scope) : Prop where
 d0 : params.defaults = []
 k0 : params.kw_defaults = []
 an : ∀ env, annTrees params none env = []
 cl : ∀ (env : Env) (c : Addr), env.cells.lookup (vN y) = some c -> closureFor scope env = pure [(vN y, c)]
 kind : scope.kind = .function
 co : scope.isCoroutine = false
 ge : scope.isGenerator = false
 bind : ∀ (name qual : Str) (cl : List (Str × Addr)) (doc pm cdv ctv v : Value), bindArgs (fnX name qual params body scope cl .none .none doc pm none cdv ctv) ⟨[v], []⟩ = pure [(vN 6, v)]
 nocell : ∀ x ∈ scope.names, x.2 ≠ .cell
 loc : scope.names.lookup (vN 6) = some .local
 free : scope.names.lookup (vN y) = some .free
noncomputable def bodyIs : Nat -> List Stmt -> Prop
 | 0, b => body0 b
 | 1, b => body1 b
 | _, _ => False
noncomputable def cy : Nat -> Nat
 | 0 => 7
 | _ => 15
theorem codeAmong_snoc' {pos : Pos} {a b : Int} {c : Addr} {cv : Value} {l : List Value} (t : TriplesOk l) (h : codeAmong pos (l ++ [rawInt a, rawInt b, .ref c]) = some cv) : codeAmong pos l = some cv \/ cv = .ref c := by
 fun_induction TriplesOk l with
 | case1 =>
  have h : (if (a == pos.line && b == pos.col) = true then some (Value.ref c) else none) = some cv := h
  by_cases hc : (a == pos.line && b == pos.col) = true
  ·rw [if_pos hc] at h; exact .inr (Option.some.inj h).symm
  ·rw [if_neg hc] at h; exact nomatch h
 | case2 i ti j tj w rest ih =>
  have h : (if (i == pos.line && j == pos.col) = true then some w else codeAmong pos (rest ++ [rawInt a, rawInt b, .ref c])) = some cv := h
  show (if (i == pos.line && j == pos.col) = true then some w else codeAmong pos rest) = some cv \/ _
  by_cases hc : (i == pos.line && j == pos.col) = true
  ·rw [if_pos hc] at h ⊢; exact .inl h
  ·rw [if_neg hc] at h ⊢; exact ih t h
 | case3 => exact t.elim
theorem cloIs_of {body : List Stmt} {fd : FuncData} {c : Addr} (hb : fd.body = .stmts body) : ∀ {j : Nat}, bodyIs j body -> FdC fd (cy j) c -> cloIs j fd c
 | 0, h, F => ⟨F, body, hb, h⟩
 | 1, h, F => ⟨F, body, hb, h⟩
 | _ + 2, h, _ => h.elim
section
variable {g : Gh} {A : Around} {own own' own'' own1 : Addr -> Tag} {s : Shared} {σ σ₁ σ₂ σ₃ σ' : Sg} {d e dv : D} {h h' h'' : Heap} {C : Calls} {k n : Nat} {l l' : Loc} {sc : Scope} {env : Env} {ts : List Nat} {sx : Sx}
theorem def_fin {y : Nat} {c : Addr} (r : R g own env l σ h) (hly : l.lookup y = some (.val dv)) (hc : env.cells.lookup (vN y) = some c) (htc : own c = .ce y) (hk : env.kindOf (vN y) = some .cell) {v : Value} (hcell : h.IsCell c (some v)) (yv : At g h own v dv)
  (r1 : RG g own1 σ h'') (kp : ∀ b o, own b ≠ .tb -> h.get? b = some o -> h''.get? b = some o) (tg : ∀ b o, h.get? b = some o -> own1 b = own b \/ b = c /\ own1 b = .fz) (hc1 : own1 c = .fz) (ex : ∀ b o, h.get? b = some o -> ∃ o', h''.get? b = some o') :
  R g own1 env (setL l y (.fv dv)) σ h'' /\ StepS own own1 h h'' := by
 obtain ⟨rg, kf, gl, bu, m, hn, ht, hv, h48⟩ := r
 have tgn : ∀ b, own b ≠ .no -> own b ≠ .ce y -> own1 b = own b := λb hb hn => by
  obtain ⟨o, e⟩ := rg.lt b hb
  rcases tg b o e with q | ⟨q, _⟩
  ·exact q
  ·rw [q] at hn; exact absurd htc hn
 have L : Le h h'' own own1 := le_of (λb o e ho => kp b o (by rw [e]; intro z; cases z) ho) λb hb => tgn b (by intro z; rw [z] at hb; cases hb) (by intro z; rw [z] at hb; cases hb)
 refine ⟨⟨r1, kf, gl, bu, m, ?_, (tgn _ (by rw [ht]; intro z; cases z) (by rw [ht]; intro z; cases z)).trans ht, λp hp => ?_, λp hp => ?_⟩, ⟨λb o e => ?_, λb o e hm => kp b o (by intro z; rw [z] at hm; cases hm) e, ex⟩⟩
 ·obtain ⟨o, es, ep, ho, q⟩ := hn; exact ⟨o, es, ep, kp _ _ (by rw [ht]; intro z; cases z) ho, q⟩
 ·rcases mem_setL hp with ⟨rfl, _⟩ | ⟨hpl, hne⟩
  ·obtain ⟨oc, hoc, hcd⟩ := hcell
   exact .inr ⟨.inl hk, c, some v, hc, .inr ⟨hc1, dv, rfl⟩, ⟨oc, kp _ _ (by rw [htc]; intro z; cases z) hoc, hcd⟩, .inr ⟨v, rfl, At.mono L yv⟩⟩
  ·exact (hv p hpl).keep L rfl (λb o e ho => ⟨kp b o (by rw [e]; intro z; cases z) ho, (tgn b (by rw [e]; intro z; cases z) (by rw [e]; intro z; cases z; exact hne rfl)).trans e⟩) (λb o e ho => ⟨kp b o (by rw [e]; intro z; cases z) ho, (tgn b (by rw [e]; intro z; cases z) (by rw [e]; intro z; cases z)).trans e⟩)
 ·rcases mem_setL hp with ⟨rfl, _⟩ | ⟨hpl, _⟩
  ·exact (h48 _ (lookup_mem hly) : y < 48)
  ·exact h48 p hpl
 ·rcases tg b o e with q | ⟨q, q2⟩
  ·exact .inl q
  ·rw [q] at q2 ⊢; exact .inr ⟨by rw [htc]; rfl, q2⟩
theorem def_ok {j x : Nat} {params : Arguments} {body : List Stmt} {scope : Scope} {pos : Pos} {cc P : Addr} {Q : Flow → Shared → Prop} {E : Value → Shared → Prop} (S0 : St g) (hcl : g.isClo = cloIs) (hbi : g.h₀.BuiltinsAt g.mg P) (D0 : DefSh (cy j) params body scope) (hb : bodyIs j body)
  (hcode : env.code = .ref cc) (hC : CodeHd g.h₀ cc P) (htab : g.tab P = some (qualnameIn env (vN x) (vN x))) (hgP : mainGlobals ≠ P) (hxy : x ≠ cy j) (hx : hasL l x = true) (hfree : env.kindOf (vN x) ≠ some .free) (hk : env.kindOf (vN (cy j)) = some .cell)
  (r : R g own env l σ s.heap) (hly : l.lookup (cy j) = some (.val dv))
  (K : ∀ h' tk' own', R g own' env (setL (setL l (cy j) (.fv dv)) x (.val (.clo j dv))) σ h' -> StepS own own' s.heap h' -> Q .next { s with heap := h', toks := tk' }) :
  wpAny (model g.prog g.w) A (exec (.FunctionDef (vN x) params body [] none [] scope none (vN x) pos) env) Q E s := by
 have hmem := lookup_mem hly
 obtain ⟨m, hn, ht, hv, h48⟩ := r.fr
 rcases hv _ hmem with ⟨hk2, _⟩ | ⟨_, c, v0, hc, htc, hcell, hh⟩
 ·rw [hk] at hk2; cases hk2
 have htc : own c = .ce (cy j) := by
  rcases htc with t | ⟨_, d, e⟩
  ·exact t
  ·cases e
 obtain ⟨v, rfl, yv⟩ : ∃ v, v0 = some v /\ At g s.heap own v dv := by
  rcases hh with q | ⟨v, e, yv⟩
  ·cases q
  ·exact ⟨v, e, yv⟩
 have rg := r.toRG
 obtain ⟨tP, ps, hP, htr, hps⟩ := rg.tb P _ htab
 have hbi' : s.heap.BuiltinsAt g.mg P := hbi.keeps λb o e => (rg.base b o e).1
 have hC' : CodeHd s.heap cc P := hC.keeps λb o e => (rg.base b o e).1
 obtain ⟨oc, hoc, hcd⟩ := id hcell
 have hcP : c ≠ P := λq => by rw [q, tP] at htc; cases htc
 refine nestDef_K D0.d0 D0.k0 (D0.an env) ?_
 have hclos := D0.cl env c hc
 have hxs : hasL (setL l (cy j) (.fv dv)) x = true := by
  unfold hasL at hx ⊢
  rw [lookup_setL_ne hxy]; exact hx
 have isC : ∀ (name qual : Str) (doc pm cdv ctv : Value), g.isClo j (fnX name qual params body scope [(vN (cy j), c)] .none .none doc pm none cdv ctv) c := by
  intro name qual doc pm cdv ctv
  rw [hcl]
  exact cloIs_of rfl hb ⟨rfl, D0.kind, D0.co, D0.ge, rfl, rfl, D0.bind name qual _ doc pm cdv ctv, D0.nocell, D0.loc, D0.free⟩
 cases hq : codeAmong pos ps.toList with
 | none =>
  refine makeFunction_K hclos r.gl (rg.ns S0.nsg) hcode hC' hP htr hq hgP hbi' λc' ctv doc h' tk hext hc1 hc2 hrec hP' => ?_
  have hPlt : P < s.heap.objs.size := Heap.lt_size hP
  have hclt : c < s.heap.objs.size := Heap.lt_size hoc
  let F : Obj := fnMade (vN x) (qualnameIn env (vN x) (vN x)) params body scope [(vN (cy j), c)] doc ((g.mg "__name__").getD .none) c' ctv
  have fa_ne : ∀ b o, s.heap.get? b = some o -> b ≠ h'.objs.size /\ b ≠ c' := λb o e => by
   have := Heap.lt_size e
   exact ⟨Nat.ne_of_lt (Nat.lt_of_lt_of_le this (Nat.le_of_lt (Nat.lt_of_le_of_lt hc1 hc2))), Nat.ne_of_lt (Nat.lt_of_lt_of_le this hc1)⟩
  let own1 : Addr -> Tag := upd (upd (upd own c .fz) c' .fz) h'.objs.size .fz
  have o_old : ∀ b o, s.heap.get? b = some o -> own1 b = if b = c then .fz else own b := λb o e => by
   show upd _ _ _ b = _
   rw [upd_ne (fa_ne b o e).1, upd_ne (fa_ne b o e).2]; rfl
  have o_fz : ∀ b, own b = .fz -> own1 b = .fz := λb e => by
   show upd _ _ _ b = _
   unfold upd; split; rfl; split; rfl; split; rfl; exact e
  have kp : ∀ b o, b ≠ P -> s.heap.get? b = some o -> (h'.push F).get? b = some o := λb o hb e => Heap.get?_push_of_some _ (hext b o hb e)
  have ex : ∀ b o, s.heap.get? b = some o -> ∃ o', (h'.push F).get? b = some o' := λb o e => by
   by_cases q : b = P
   ·rw [q]; exact ⟨_, Heap.get?_push_of_some _ hP'⟩
   ·exact ⟨o, kp b o q e⟩
  have hotT : ∀ b, hot (own b) = true -> own1 b = own b := λb hb => by
   obtain ⟨o, e⟩ := rg.lt b (by intro z; rw [z] at hb; cases hb)
   rw [o_old b o e, if_neg (λq => by rw [q, htc] at hb; cases hb)]
  have L : Le s.heap (h'.push F) own own1 := le_of (λb o e ho => kp b o (λq => by rw [q, tP] at e; cases e) ho) hotT
  have bk : ∀ b, own1 b ≠ .fz -> own1 b = own b := λb hb => by
   show upd _ _ _ b = _
   have n1 : b ≠ h'.objs.size := λq => hb (by rw [q]; exact upd_self)
   have n2 : b ≠ c' := λq => hb (by show upd _ _ _ b = _; rw [upd_ne n1, q]; exact upd_self)
   have n3 : b ≠ c := λq => hb (by show upd _ _ _ b = _; rw [upd_ne n1, upd_ne n2, q]; exact upd_self)
   rw [upd_ne n1, upd_ne n2, upd_ne n3]
  obtain ⟨cx, ocx, vsx, tx, e1, e2, e3, e4⟩ := hrec
  cases e1
  have cfz : CodeFz (h'.push F) own1 (.ref c') (qualnameIn env (vN x) (vN x)) := ⟨c', ocx, vsx, tx, rfl, by
   show upd _ _ _ c' = _
   rw [upd_ne (Nat.ne_of_lt hc2)]; exact upd_self, Heap.get?_push_of_some _ e2, e3, e4⟩
  have r1 : RG g own1 σ (h'.push F) := by
   refine ⟨λb o e => ⟨kp b o (λq => by have := (rg.base b o e).2; rw [q, tP] at this; cases this) (rg.base b o e).1, o_fz _ (rg.base b o e).2⟩, λb hb => ?_, λP' q' e => ?_, rg.shr.mono L (λb hb => (bk b (by intro z; rw [z] at hb; cases hb)).symm) λb o hb e => kp b o (λq => by rw [q, tP] at hb; cases hb) e⟩
   ·by_cases q1 : b = h'.objs.size
    ·rw [q1]; exact ⟨_, Heap.get?_push_size _ rfl⟩
    ·by_cases q2 : b = c'
     ·rw [q2]; exact ⟨_, Heap.get?_push_of_some _ e2⟩
     ·by_cases q3 : b = c
      ·rw [q3]; exact ex c oc hoc
      ·have : own1 b = own b := by show upd _ _ _ b = _; rw [upd_ne q1, upd_ne q2, upd_ne q3]
       rw [this] at hb
       obtain ⟨o, e⟩ := rg.lt b hb
       exact ex b o e
   ·obtain ⟨tP', ps', hP2, htr', hps'⟩ := rg.tb P' q' e
    by_cases q : P' = P
    ·subst q
     rw [htab] at e; cases e
     rw [hP] at hP2; cases hP2
     refine ⟨(hotT _ (by rw [tP]; rfl)).trans tP, _, Heap.get?_push_of_some _ hP', ?_, λpos' cv hcv => ?_⟩
     ·have := TriplesOk_snoc pos.line pos.col (.ref c') _ htr
      simpa using this
     ·have hcv' : codeAmong pos' (ps.toList ++ [rawInt pos.line, rawInt pos.col, .ref c']) = some cv := by simpa using hcv
      rcases codeAmong_snoc' htr hcv' with q | q
      ·exact (hps pos' cv q).mono L
      ·rw [q]; exact cfz
    ·exact ⟨(hotT _ (by rw [tP']; rfl)).trans tP', ps', kp _ _ q hP2, htr', λpos' cv hcv => (hps' pos' cv hcv).mono L⟩
  obtain ⟨r2, st2⟩ := def_fin (own1 := own1) (h'' := h'.push F) r hly hc htc hk hcell yv r1 (λb o hb e => kp b o (λq => hb (by rw [q]; exact tP)) e) (λb o e => by
   rw [o_old b o e]
   by_cases q : b = c
   ·rw [if_pos q]; exact .inr ⟨q, rfl⟩
   ·rw [if_neg q]; exact .inl rfl) (by rw [o_old c oc hoc, if_pos rfl]) ex
  have hat : At g (h'.push F) own1 (.ref h'.objs.size) (.clo j dv) := .clo upd_self (Heap.get?_push_size _ rfl) rfl (isC _ _ _ _ _ _) (by rw [o_old c oc hoc, if_pos rfl]) (kp c oc hcP hoc) hcd cfz (At.mono L yv)
  exact store_ok (s := { s with heap := h'.push F, toks := tk }) r2 hxs (lv := .val (.clo j dv)) hat hfree λh3 tk3 r3 st3 _ => K h3 tk3 own1 r3 (st2.trans st3)
 | some cv =>
  have cfz0 := hps pos cv hq
  refine makeFunction_hit hclos r.gl (rg.ns S0.nsg) hcode hC' hP htr hq hbi' λctv doc h' tk hkp hsz => ?_
  have fa_ne : ∀ b o, s.heap.get? b = some o -> b ≠ h'.objs.size := λb o e => Nat.ne_of_lt (Nat.lt_of_lt_of_le (Heap.lt_size e) hsz)
  let F : Obj := { cls := .type "function", data := .func (fnX (vN x) (qualnameIn env (vN x) (vN x)) params body scope [(vN (cy j), c)] .none .none doc ((g.mg "__name__").getD .none) none cv ctv) }
  let own1 : Addr -> Tag := upd (upd own c .fz) h'.objs.size .fz
  have o_old : ∀ b o, s.heap.get? b = some o -> own1 b = if b = c then .fz else own b := λb o e => by
   show upd _ _ _ b = _
   rw [upd_ne (fa_ne b o e)]; rfl
  have o_fz : ∀ b, own b = .fz -> own1 b = .fz := λb e => by
   show upd _ _ _ b = _
   unfold upd; split; rfl; split; rfl; exact e
  have kp : ∀ b o, s.heap.get? b = some o -> (h'.push F).get? b = some o := λb o e => Heap.get?_push_of_some _ (hkp b o e)
  have hotT : ∀ b, hot (own b) = true -> own1 b = own b := λb hb => by
   obtain ⟨o, e⟩ := rg.lt b (by intro z; rw [z] at hb; cases hb)
   rw [o_old b o e, if_neg (λq => by rw [q, htc] at hb; cases hb)]
  have L : Le s.heap (h'.push F) own own1 := le_of (λb o e ho => kp b o ho) hotT
  have bk : ∀ b, own1 b ≠ .fz -> own1 b = own b := λb hb => by
   show upd _ _ _ b = _
   have n1 : b ≠ h'.objs.size := λq => hb (by rw [q]; exact upd_self)
   have n3 : b ≠ c := λq => hb (by show upd _ _ _ b = _; rw [upd_ne n1, q]; exact upd_self)
   rw [upd_ne n1, upd_ne n3]
  have r1 : RG g own1 σ (h'.push F) := by
   refine rg.step (λb o _ e => kp b o e) hotT (λb hb => ?_) λb hb => (bk b (by intro z; rw [z] at hb; cases hb)).symm
   by_cases q1 : b = h'.objs.size
   ·rw [q1]; exact ⟨_, Heap.get?_push_size _ rfl⟩
   ·by_cases q3 : b = c
    ·rw [q3]; exact ⟨oc, kp _ _ hoc⟩
    ·have : own1 b = own b := by show upd _ _ _ b = _; rw [upd_ne q1, upd_ne q3]
     rw [this] at hb
     obtain ⟨o, e⟩ := rg.lt b hb
     exact ⟨o, kp b o e⟩
  obtain ⟨r2, st2⟩ := def_fin (own1 := own1) (h'' := h'.push F) r hly hc htc hk hcell yv r1 (λb o hb e => kp b o e) (λb o e => by
   rw [o_old b o e]
   by_cases q : b = c
   ·rw [if_pos q]; exact .inr ⟨q, rfl⟩
   ·rw [if_neg q]; exact .inl rfl) (by rw [o_old c oc hoc, if_pos rfl]) (λb o e => ⟨o, kp b o e⟩)
  have hat : At g (h'.push F) own1 (.ref h'.objs.size) (.clo j dv) := .clo upd_self (Heap.get?_push_size _ rfl) rfl (isC _ _ _ _ _ _) (by rw [o_old c oc hoc, if_pos rfl]) (kp c oc hoc) hcd (cfz0.mono L) (At.mono L yv)
  exact store_ok (s := { s with heap := h'.push F, toks := tk }) r2 hxs (lv := .val (.clo j dv)) hat hfree λh3 tk3 r3 st3 _ => K h3 tk3 own1 r3 (st2.trans st3)
end
theorem compTurn_two (elt tg0 it0 tg1 it1 : Expr) (ifs : List Expr) (scope : Scope) (pos : Pos) (it acc : Value) (env : Env) :
  compTurn (.ListComp elt [⟨tg0, it0, ifs, 0⟩, ⟨tg1, it1, [], 0⟩] scope pos) 0 it acc env = (do
   standAt it0.pos
   match <- pyNext it with
   | none => pure (.done .next)
   | some v =>
    letOwnedTupleGo tg0 it v
    assign tg0 env v
    let mut ok := true
    for c in ifs do
     if ok then ok <- isTrue c env (eval c env)
    if ok then
     let x <- eval it1 env
     standAt it1.pos
     let x <- foldedSetIterable it1 env x
     let _ <- runOwn (.compStart (.ListComp elt [⟨tg0, it0, ifs, 0⟩, ⟨tg1, it1, [], 0⟩] scope pos) 1 (<- holding [x] (pyIter x)) acc env) env
    again (.compLoop (.ListComp elt [⟨tg0, it0, ifs, 0⟩, ⟨tg1, it1, [], 0⟩] scope pos) 0 it acc env)) := by rfl
theorem compTurn_in (elt tg0 it0 tg1 it1 : Expr) (ifs : List Expr) (scope : Scope) (pos : Pos) (it acc : Value) (env : Env) :
  compTurn (.ListComp elt [⟨tg0, it0, ifs, 0⟩, ⟨tg1, it1, [], 0⟩] scope pos) 1 it acc env = (do
   standAt it1.pos
   match <- pyNext it with
   | none => pure (.done .next)
   | some v =>
    letOwnedTupleGo tg1 it v
    assign tg1 env v
    (eval elt env >>= fun x => call (.builtin "list.append") [acc, x] >>= fun _ => pure ())
    again (.compLoop (.ListComp elt [⟨tg0, it0, ifs, 0⟩, ⟨tg1, it1, [], 0⟩] scope pos) 1 it acc env)) := by rfl
section
variable {prog : Program} {w : World} {A : Around} {R : Result -> Shared -> Prop} {s : Shared} {elt tg0 it0 tg1 it1 : Expr} {c0 : Expr} {scope : Scope} {pos : Pos} {it acc : Value} {env : Env}
theorem two_turns (hf : ∀ x, foldedSetIterable it1 env x = pure x) (I : Nat → Shared → Prop)
  (turn : ∀ n s, I n s -> wpAny (model prog w) A (pyNext it) (λr s₁ => match r with
   | none => R (.ok .next) s₁
   | some v => wpAny (model prog w) A (letOwnedTupleGo tg0 it v) (fun _ s₁' => wpAny (model prog w) A (assign tg0 env v) (fun _ s₂ =>
     wpAny (model prog w) A (isTrue c0 env (eval c0 env)) (λok s₃ =>
      if ok = true then wpAny (model prog w) A (eval it1 env) (λx s₄ => wpAny (model prog w) A (pyIter x) (λi2 s₅ =>
       codeAny (model prog w) A (.compStart (.ListComp elt [⟨tg0, it0, [c0], 0⟩, ⟨tg1, it1, [], 0⟩] scope pos) 1 i2 acc env) (λr s₆ => match r with | .ok _ => ∃ m, m < n /\ I m s₆ | .error e => cameBackBy (model prog w) A env (notedBy (model prog w) A env λe s' => R (.error e) s') e s₆) s₅) (notedBy (model prog w) A env λe s' => R (.error e) s') s₄) (notedBy (model prog w) A env λe s' => R (.error e) s') s₃
      else ∃ m, m < n /\ I m s₃) (notedBy (model prog w) A env λe s' => R (.error e) s') s₂) (notedBy (model prog w) A env λe s' => R (.error e) s') s₁') (notedBy (model prog w) A env λe s' => R (.error e) s') s₁)
    (notedBy (model prog w) A env λe s' => R (.error e) s') s)
  (n : Nat) (h : I n s) : codeAny (model prog w) A (.compLoop (.ListComp elt [⟨tg0, it0, [c0], 0⟩, ⟨tg1, it1, [], 0⟩] scope pos) 0 it acc env) R s := by
 refine codeAny_loop rfl I (λn s hI => ?_) n h
 show wpAny _ A ((compTurn (.ListComp elt [⟨tg0, it0, [c0], 0⟩, ⟨tg1, it1, [], 0⟩] scope pos) 0 it acc env).onRaise (λx => do noteFrame x env; theTreesLotGoes x)) _ _ s
 refine wpAny_noted ?_
 rw [compTurn_two]
 refine wpAny_bind (wpAny_standAt (wpAny_bind (wpAny_mono (turn n s hI) (λr s₁ h₁ => ?_) λ_ _ h' => h')))
 cases r with
 | none => exact wpAny_pure h₁
 | some v =>
  refine wpAny_bind (wpAny_mono h₁ (λ_ s₁' h₁' => ?_) λ_ _ h' => h')
  refine wpAny_bind (wpAny_mono h₁' (λ_ s₂ h₂ => ?_) λ_ _ h' => h')
  refine wpAny_bind ?_
  rw [List.forIn_cons]
  refine wpAny_bind ?_
  rw [if_pos rfl]
  refine wpAny_bind (wpAny_mono h₂ (λok s₃ h₃ => ?_) λ_ _ h' => h')
  refine wpAny_pure ?_
  dsimp only
  rw [List.forIn_nil]
  refine wpAny_pure ?_
  cases ok with
  | false => exact wpAny_pure ⟨rfl, h₃⟩
  | true =>
   refine wpAny_bind (wpAny_mono h₃ (λx s₄ h₄ => ?_) λ_ _ h' => h')
   refine wpAny_bind (wpAny_standAt (wpAny_bind (wpAny_of_eq (hf x) ?_)))
   refine wpAny_bind (wpAny_holding (wpAny_mono h₄ (λi2 s₅ h₅ => ?_) λ_ _ h' => h'))
   refine wpAny_bind (wpAny_runOwn (codeAny_mono h₅ λr s₆ h₆ => ?_))
   rcases r with e | f
   ·exact h₆
   ·exact wpAny_pure ⟨rfl, h₆⟩
theorem in_turns (I : Nat → Shared → Prop)
  (turn : ∀ n s, I n s -> wpAny (model prog w) A (pyNext it) (λr s₁ => match r with
   | none => R (.ok .next) s₁
   | some v => wpAny (model prog w) A (letOwnedTupleGo tg1 it v) (fun _ s₁' => wpAny (model prog w) A (assign tg1 env v) (fun _ s₂ =>
     wpAny (model prog w) A (eval elt env) (fun x s₄ =>
       wpAny (model prog w) A (call (.builtin "list.append") [acc, x]) (fun _ s₅ => ∃ m, m < n ∧ I m s₅) (notedBy (model prog w) A env fun e s' => R (.error e) s') s₄) (notedBy (model prog w) A env fun e s' => R (.error e) s') s₂) (notedBy (model prog w) A env fun e s' => R (.error e) s') s₁') (notedBy (model prog w) A env fun e s' => R (.error e) s') s₁)
    (notedBy (model prog w) A env λe s' => R (.error e) s') s)
  (n : Nat) (h : I n s) {ifs : List Expr} : codeAny (model prog w) A (.compLoop (.ListComp elt [⟨tg0, it0, ifs, 0⟩, ⟨tg1, it1, [], 0⟩] scope pos) 1 it acc env) R s := by
 refine codeAny_loop rfl I (λn s hI => ?_) n h
 show wpAny _ A ((compTurn (.ListComp elt [⟨tg0, it0, ifs, 0⟩, ⟨tg1, it1, [], 0⟩] scope pos) 1 it acc env).onRaise (λx => do noteFrame x env; theTreesLotGoes x)) _ _ s
 refine wpAny_noted ?_
 rw [compTurn_in]
 refine wpAny_bind (wpAny_standAt (wpAny_bind (wpAny_mono (turn n s hI) (λr s₁ h₁ => ?_) λ_ _ h' => h')))
 cases r with
 | none => exact wpAny_pure h₁
 | some v =>
  refine wpAny_bind (wpAny_mono h₁ (λ_ s₁' h₁' => ?_) λ_ _ h' => h')
  refine wpAny_bind (wpAny_mono h₁' (λ_ s₂ h₂ => ?_) λ_ _ h' => h')
  exact wpAny_bind (wpAny_bind (wpAny_mono h₂ (λx s₄ h₄ => wpAny_bind (wpAny_mono h₄ (λ_ s₅ h₅ => wpAny_pure (wpAny_pure ⟨rfl, h₅⟩)) λ_ _ h' => h')) λ_ _ h' => h'))
theorem two_abs (hf : ∀ x, foldedSetIterable it1 env x = pure x) (I : Nat → Shared → Prop)
  (turn : ∀ n s, I n s -> ∀ (N : Option Value -> Shared -> Prop) (E' : Value -> Shared -> Prop), (∀ s, R (.ok .next) s -> N none s) ->
   (∀ v s, (∀ (E : Value -> Shared -> Prop) (B : Bool -> Shared -> Prop) (J : Shared -> Prop) (C : Result -> Shared -> Prop), (∀ s m, m < n -> I m s -> J s) -> (∀ s f, J s -> C (.ok f) s) -> (∀ s, J s -> B false s) ->
    (∀ s, wpAny (model prog w) A (eval it1 env) (λx s => wpAny (model prog w) A (pyIter x) (λi2 s => codeAny (model prog w) A (.compStart (.ListComp elt [⟨tg0, it0, [c0], 0⟩, ⟨tg1, it1, [], 0⟩] scope pos) 1 i2 acc env) C s) E s) E s -> B true s) ->
    wpAny (model prog w) A (letOwnedTupleGo tg0 it v) (λ_ s => wpAny (model prog w) A (assign tg0 env v) (λ_ s => wpAny (model prog w) A (isTrue c0 env (eval c0 env)) B E s) E s) E s) -> N (some v) s) ->
   wpAny (model prog w) A (pyNext it) N E' s)
  (n : Nat) (h : I n s) : codeAny (model prog w) A (.compLoop (.ListComp elt [⟨tg0, it0, [c0], 0⟩, ⟨tg1, it1, [], 0⟩] scope pos) 0 it acc env) R s :=
 two_turns hf I (λn s hI => turn n s hI _ _ (λ_ h => h) λv s k => k _ _ _ _ (λs m h1 h2 => ⟨m, h1, h2⟩) (λ_ _ h => h) (λ_ h => h) λ_ h => h) n h
theorem in_abs (I : Nat → Shared → Prop)
  (turn : ∀ n s, I n s -> ∀ (N : Option Value -> Shared -> Prop) (E' : Value -> Shared -> Prop), (∀ s, R (.ok .next) s -> N none s) ->
   (∀ v s, (∀ (E : Value -> Shared -> Prop) (J : Shared -> Prop), (∀ s m, m < n -> I m s -> J s) ->
    wpAny (model prog w) A (letOwnedTupleGo tg1 it v) (fun _ s => wpAny (model prog w) A (assign tg1 env v) (fun _ s => wpAny (model prog w) A (eval elt env) (fun x s => wpAny (model prog w) A (call (.builtin "list.append") [acc, x]) (fun _ s => J s) E s) E s) E s) E s) → N (some v) s) →
   wpAny (model prog w) A (pyNext it) N E' s)
  (n : Nat) (h : I n s) {ifs : List Expr} : codeAny (model prog w) A (.compLoop (.ListComp elt [⟨tg0, it0, ifs, 0⟩, ⟨tg1, it1, [], 0⟩] scope pos) 1 it acc env) R s :=
 in_turns I (λn s hI => turn n s hI _ _ (λ_ h => h) λv s k => k _ _ λs m h1 h2 => ⟨m, h1, h2⟩) n h
theorem start_in {ifs : List Expr}
  (h0 : codeAny (model prog w) A (.compLoop (.ListComp elt [⟨tg0, it0, ifs, 0⟩, ⟨tg1, it1, [], 0⟩] scope pos) 1 it acc env) R s)
  (h : wpAny (model prog w) A (pyIter it) (λit' s' => codeAny (model prog w) A (.compLoop (.ListComp elt [⟨tg0, it0, ifs, 0⟩, ⟨tg1, it1, [], 0⟩] scope pos) 1 it' acc env) R s')
   (notedBy (model prog w) A env λx s' => R (.error x) s') s) :
  codeAny (model prog w) A (.compStart (.ListComp elt [⟨tg0, it0, ifs, 0⟩, ⟨tg1, it1, [], 0⟩] scope pos) 1 it acc env) R s := by
 refine codeAny_of_tree ?_
 show wpAny _ _ ((compStart (.ListComp elt [⟨tg0, it0, ifs, 0⟩, ⟨tg1, it1, [], 0⟩] scope pos) 1 it acc env).onRaise (λx => do noteFrame x env; standAt theWindowsPlace)) _ _ s
 refine wpAny_notedAt ?_
 unfold compStart
 show wpAny _ _ (ask >>= _) _ _ s
 refine wpAny_bind (wpAny_askSetting (wpAny_ite ?_))
 split
 ·first
   | exact wpAny_bind (wpAny_pure (wpAny_pure (And.intro rfl h0)))
   | exact wpAny_pure (And.intro rfl h0)
 ·first
   | exact wpAny_bind (wpAny_rule (wpAny_bind (wpAny_standAt (wpAny_bind (wpAny_mono h (λit' s' h' => wpAny_pure (And.intro rfl h')) λ_ _ x => x)))))
   | (refine wpAny_bind (wpAny_rule ?_); show wpAny _ _ (standAt it1.pos >>= _) _ _ s; exact wpAny_bind (wpAny_standAt (wpAny_bind (wpAny_mono h (λit' s' h' => wpAny_pure (And.intro rfl h')) λ_ _ x => x))))
end
end Mine
end
section
open PySem PySem.W PySem.Calls PyProof.Rows PySem.SeqAt
set_option maxHeartbeats 1000000
namespace Mine
noncomputable def dueRun (tab : D) : List D -> Option (List D)
 | [] => some []
 | .tup [.str nm, .tup trs] :: r => if nm = 36 then dueRun tab r else match tab with
  | .dict ks ds => (lookD ks ds nm).bind λt => (dueRun tab r).map λrest => (trs.map λtr => .tup [tr, .tup [], t]) ++ rest
  | _ => none
 | _ => none
theorem dueRun_cons {tab d : D} {r rest : List D} (h : dueRun tab (d :: r) = some rest) : ∃ nm trs, d = .tup [.str nm, .tup trs] /\ ((nm = 36 /\ dueRun tab r = some rest) \/ (nm ≠ 36 /\ ∃ ks es t rest', tab = .dict ks es /\ lookD ks es nm = some t /\ dueRun tab r = some rest' /\ rest = (trs.map λtr => .tup [tr, .tup [], t]) ++ rest')) := by
 cases d with
 | tup ds =>
  cases ds with
  | nil => exact no h
  | cons a ds =>
   cases a with
   | str nm =>
    cases ds with
    | nil => exact no h
    | cons b ds =>
     cases b with
     | tup trs =>
      cases ds with
      | nil =>
       refine ⟨nm, trs, rfl, ?_⟩
       by_cases q : nm = 36
       ·exact .inl ⟨q, (if_pos q).symm.trans h⟩
       ·have h := (if_neg q).symm.trans h
        cases tab with
        | dict ks es =>
         refine bE h λt h1 h => ?_
         cases h2 : dueRun (.dict ks es) r with
         | none => rw [h2] at h; exact no h
         | some rest' => rw [h2] at h; exact .inr ⟨q, ks, es, t, rest', rfl, h1, rfl, (Option.some.inj h).symm⟩
        | _ => exact no h
      | cons _ _ => exact no h
     | _ => exact no h
   | _ => exact no h
 | _ => exact no h
inductive DueE (sc : Scope) : Expr -> Prop
 | mk {scc : Scope} {p1 p2 p3 p4 p5 p6 p7 p8 p9 p10 p11 p12 p13 p14 p15 pos : Pos} {k0 k1 k2 k3 : Nat} : ScC sc scc [17, 23, 24] [3] →
   DueE sc (.ListComp (.Tuple [.Name (vN 24) p1, .Tuple [] k0 p2, .Subscript (.Name (vN 3) p3) (.Name (vN 17) p4) p5] k1 p6) [⟨.Tuple [.Name (vN 17) p7, .Name (vN 23) p8] k2 p9, .Name (vN 39) p10, [.Compare (.Name (vN 17) p11) [.NotEq] [.Constant (.str (sN 36)) k3 p12] p13], 0⟩, ⟨.Name (vN 24) p14, .Name (vN 23) p15, [], 0⟩] scc pos)
theorem capt_lookup {l : Loc} {i : Nat} {fre : List Nat} {lv : LV} (hf : i ∈ fre) (hn : notFv lv = true) (h : l.lookup i = some lv) : (capt l fre).lookup i = some lv := by
 unfold capt
 induction l with
 | nil => simp at h
 | cons q r ih =>
  obtain ⟨j, w⟩ := q
  simp only [List.lookup_cons] at h
  by_cases e : i = j
  ·subst e
   simp only [beq_self_eq_true] at h
   cases h
   have : (fre.contains i && notFv lv) = true := by rw [hn, Bool.and_true]; simpa using hf
   rw [List.filter_cons, if_pos this, List.lookup_cons, beq_self_eq_true]
  ·have n1 : (i == j) = false := by simp [e]
   rw [n1] at h
   rw [List.filter_cons]
   split
   ·rw [List.lookup_cons, n1]; exact ih h
   ·exact ih h
def dueSt (sc : Scope) (st : Stmt) : Prop := ∃ p e pos, st = .Assign [.Name (vN 35) p] e pos /\ DueE sc e /\ (∀ env : Env, env.scope = sc -> swapsWith e (some (.Name (vN 35) p)) pos.line env = pure true) /\ okT sc [35] = true
section
variable {g : Gh} {A : Around} {own own' own'' : Addr -> Tag} {s : Shared} {σ σ' σ'' : Sg} {env : Env} {l : Loc} {sc : Scope} {C : Calls} {k : Nat}
abbrev dueF (t : D) (tr : D) : D := .tup [tr, .tup [], t]
def InI (g : Gh) (own : Addr -> Tag) (s : Shared) (σ : Sg) (fp : List Addr) (T : Nat -> Heap -> Prop) (M : Heap -> (Addr -> Tag) -> Prop) (Da Ca Ia Ja : Addr) (trs done : List D) (t : D) (v17 : Value) (k : Nat) (s' : Shared) : Prop :=
 ∃ j own5 ys m h5 tk5, s' = { s with heap := h5, toks := tk5 } /\ k = trs.length + 1 - j /\ j <= trs.length /\ BlkI g own s.heap fp (T j) M Da Ca own5 h5 σ m ys (done ++ (trs.take j).map (dueF t)) /\ own5 Ia = .no /\ own5 Ja = .no /\ m (vN 17) = some v17
@[elab_as_elim] theorem InI.elim {fp : List Addr} {T : Nat → Heap → Prop} {M : Heap → (Addr → Tag) → Prop} {Da Ca Ia Ja : Addr} {trs done : List D} {t : D} {v17 : Value} {k : Nat} {s' : Shared} {P : Nat → Shared → Prop} (h : InI g own s σ fp T M Da Ca Ia Ja trs done t v17 k s')
  (q : ∀ j own5 ys m h5 tk5, j <= trs.length -> BlkI g own s.heap fp (T j) M Da Ca own5 h5 σ m ys (done ++ (trs.take j).map (dueF t)) -> own5 Ia = .no -> own5 Ja = .no -> m (vN 17) = some v17 -> P (trs.length + 1 - j) { s with heap := h5, toks := tk5 }) : P k s' := by
 obtain ⟨j, own5, ys, m, h5, tk5, e1, e2, h1, h2, h3, h4, h5⟩ := h
 subst e1
 subst e2
 exact q _ _ _ _ _ _ h1 h2 h3 h4 h5
theorem elt_ev {C : Calls} {l : Loc} {σ : Sg} {tr t : D} {nm : Nat} {ks : List Nat} {es : List D} (h3 : l.lookup 3 = some (.val (.dict ks es))) (hlk : lookD ks es nm = some t) :
  ev C 14 ([(24, .val tr), (17, .val (.str nm))] ++ capt l [3]) σ (.tup [.var 24, .tup [], .idx (.var 3) (.var 17)]) = some (dueF t tr, σ) := by
 have l3 : (([(24, LV.val tr), (17, LV.val (D.str nm))] ++ capt l [3] : Loc)).lookup 3 = some (.val (.dict ks es)) := capt_lookup (.head _) rfl h3
 have a3 : ev C 12 ([(24, .val tr), (17, .val (.str nm))] ++ capt l [3]) σ (.var 3) = some (.dict ks es, σ) := ev_var l3
 have a5 : ev C 13 ([(24, .val tr), (17, .val (.str nm))] ++ capt l [3]) σ (.idx (.var 3) (.var 17)) = some (t, σ) := by
  show ((ev C 12 _ σ (.var 3)).bind _) = _
  rw [a3, Option.bind_some]
  show ((lookD ks es nm).bind _) = _
  rw [hlk]; rfl
 have a1 : ev C 13 ([(24, .val tr), (17, .val (.str nm))] ++ capt l [3]) σ (.var 24) = some (tr, σ) := rfl
 have a2 : ev C 13 ([(24, .val tr), (17, .val (.str nm))] ++ capt l [3]) σ (.tup []) = some (.tup [], σ) := rfl
 show ((evs (ev C 13 _) σ [.var 24, .tup [], .idx (.var 3) (.var 17)]).bind _) = _
 exact bindS (bindS a1 (bindS (bindS a2 (bindS (bindS a5 (bindS (o := evs _ σ []) rfl rfl)) rfl)) rfl)) rfl
theorem due_inner {scc : Scope} {t : D} {nm : Nat} {ks : List Nat} {es trs done : List D} {P2 : Nat → Value → Prop} {ax2 fp0 : List Addr} {St2 : Nat → Heap → Prop} {T0 : Heap → Prop} {Ia Ja Da Ca : Addr} {h5 : Heap} {own4 : Addr → Tag} {m0 : Str → Option Value} {ys0 : Array Value} {v17 : Value} {tk : Tok} {Rr : Result → Shared → Prop}
  {elt tg0 it0 it1 : Expr} {ifs : List Expr} {p14 pos : Pos} (hh : A.handled = none) (r : R g own env l σ s.heap) (hs : ScOf sc env) (hcc : ScC sc scc [17, 23, 24] [3]) (h3 : l.lookup 3 = some (.val (.dict ks es))) (hlk : lookD ks es nm = some t) (ihe : EvOk g C k A 14) (hE : IsE g scc (.tup [.var 24, .tup [], .idx (.var 3) (.var 17)]) elt)
  (W2 : Walks g.prog g.w A Ja (Ja :: ax2) [Ja] trs.length P2 St2) (hcl2 : ∀ i h, St2 i h → ∃ o n, h.get? Ja = some o ∧ o.cls = .type n ∧ (n = "list_iterator" ∨ n = "tuple_iterator" ∨ n = "range_iterator")) (F0 : FpOf fp0 T0) (hI0 : ∀ h, T0 h → ∃ o, h.get? Ia = some o) (nJ0 : ∀ b ∈ fp0, b ≠ Ja)
  (fJ : s.heap.get? Ja = none) (nJD : Ja ≠ Da) (nJC : Ja ≠ Ca) (hst2 : St2 0 h5) (I : BlkI g own s.heap fp0 T0 MT Da Ca own4 h5 σ m0 ys0 done) (oJ : own4 Ja = .no) (oI : own4 Ia = .no) (hax2 : ∀ b ∈ ax2, own4 b = .fz) (hP2 : ∀ j v, P2 j v -> ∃ d, trs[j]? = some d /\ At g h5 own4 v d)
  (hm17 : m0 (vN 17) = some v17) (y17 : ∀ h o, At g h o v17 (.str nm)) (hlen : done.length + trs.length <= maxLen)
  (K : ∀ own6 h6 tk6 m6 ys6, BlkI g own s.heap fp0 T0 MT Da Ca own6 h6 σ m6 ys6 (done ++ trs.map (dueF t)) -> own6 Ia = .no -> Rr (.ok .next) { s with heap := h6, toks := tk6 }) :
  codeAny (model g.prog g.w) A (.compStart (.ListComp elt [⟨tg0, it0, ifs, 0⟩, ⟨.Name (vN 24) p14, it1, [], 0⟩] scc pos) 1 (.ref Ja) (.ref Da) (compEnvC scc (closL env scc.names []) Ca env)) Rr { s with heap := h5, toks := tk } := by
 let T : Nat -> Heap -> Prop := λj h => St2 j h /\ T0 h
 let M : Heap -> (Addr -> Tag) -> Prop := λh o => ∀ j v, P2 j v -> ∃ d, trs[j]? = some d /\ At g h o v d
 have FM : MoOf M := λ_ _ _ _ L f j v hv => let ⟨d, h1, h2⟩ := f j v hv; ⟨d, h1, At.mono L h2⟩
 have F : ∀ j, FpOf (Ja :: ax2 ++ fp0) (T j) := λj h h' st q => ⟨W2.frame j h h' st.1 λb hb => q b (List.mem_append_left _ hb), F0 h h' st.2 λb hb => q b (List.mem_append_right _ hb)⟩
 have ex : ∀ {j h}, T j h -> ∃ o, h.get? Ja = some o := λst => let ⟨o, _, e, _⟩ := hcl2 _ _ st.1; ⟨o, e⟩
 have I0 : BlkI g own s.heap (Ja :: ax2 ++ fp0) (T 0) M Da Ca own4 h5 σ m0 ys0 done := ⟨⟨hst2, I.st⟩, λb hb => (List.mem_append.mp hb).elim (λhb => (List.mem_cons.mp hb).elim (λq => q ▸ .inl ⟨oJ, nJD, nJC, ex (j := 0) ⟨hst2, I.st⟩⟩) λq => .inr (hax2 b q)) (I.tg b), I.blk, I.at_, hP2⟩
 have loop2 : ∀ tk₀ : Nat, codeAny (model g.prog g.w) A (.compLoop (.ListComp elt [⟨tg0, it0, ifs, 0⟩, ⟨.Name (vN 24) p14, it1, [], 0⟩] scc pos) 1 (.ref Ja) (.ref Da) (compEnvC scc (closL env scc.names []) Ca env)) Rr { s with heap := h5, toks := tk₀ } := λtk₀ => by
  refine in_abs (InI g own s σ (Ja :: ax2 ++ fp0) T M Da Ca Ia Ja trs done t v17) (λk s' hI N E' kn ks => ?_) (trs.length + 1) ⟨0, own4, ys0, m0, h5, tk₀, rfl, rfl, Nat.zero_le _, by rw [List.take_zero, List.map_nil, List.append_nil]; exact I0, oI, oJ, hm17⟩
  revert kn ks
  refine hI.elim λj own5 ys5 m5 h5 tk5 hj I5 oI5 oJ5 hm175 kn ks => ?_
  by_cases hlt : j < trs.length
  ·refine W2.item j _ _ _ hlt I5.st.1 λv24 h6 tk6 hvj hst6 hk6 => ?_
   have k6 : ∀ b o, b ≠ Ja -> h5.get? b = some o -> h6.get? b = some o := λb o hb e => hk6 b o (λq => hb (List.mem_singleton.mp q)) e
   have T6 : T (j + 1) h6 := ⟨hst6, F0 _ _ I5.st.2 λb hb o e => k6 b o (nJ0 b hb) e⟩
   have I6 := I5.item (T' := T (j + 1)) FM T6 hk6 oJ5 nJD nJC fJ (ex T6)
   obtain ⟨tr, htr, y24⟩ := I6.mo j v24 hvj
   obtain ⟨n6, B6⟩ := I6.blk
   refine ks _ _ λE J kJ => ?_
   refine go_none (ts := [24]) (.one (by decide)) (hcl2 _ _ hst6) ?_
   refine assign_ok (g := g) (own := own5) (s := { s with heap := h6, toks := tk6 }) (m := m5) (b := [(24, .val tr)]) hh (IsT.one (by decide)) rfl hcc.kind (λt ht => lookup_relabel_local (hcc.loc t (by rcases List.mem_singleton.mp ht with rfl; decide))) y24 B6.ns λh7 tk7 m7 hn7 hk7 hb7 hm7 => ?_
   have I7 := I6.names (F _) FM hn7 (λb o hb e => hk7 b o hb e)
   obtain ⟨n7, B7⟩ := I7.blk
   have L7 : Le h6 h7 own5 own5 := le_of (λb o hb e => hk7 b o (λ(q : b = Ca) => by rw [q, B6.tC] at hb; cases hb) e) λ_ _ => rfl
   have hm177 : m7 (vN 17) = some v17 := (hm7 (vN 17) (λt ht => by rcases List.mem_singleton.mp ht with rfl; exact λq => absurd (vN_inj (by decide) (by decide) q) (by decide))).trans hm175
   have R7 := B7.R r hs hcc (bl := [(24, .val tr), (17, .val (.str nm))]) (λp hp => by
    rcases List.mem_cons.mp hp with rfl | hp
    ·obtain ⟨w, hm, d, e, z⟩ := hb7 _ (.head _)
     cases e
     exact ⟨(by decide : 24 ∈ [17, 23, 24]), (by decide : 24 < 48), w, _, hm, rfl, At.mono L7 z⟩
    ·rcases List.mem_singleton.mp hp with rfl
     exact ⟨(by decide : 17 ∈ [17, 23, 24]), (by decide : 17 < 48), v17, _, hm177, rfl, y17 _ _⟩)
   refine ihe _ _ _ _ _ _ _ _ own5 { s with heap := h7, toks := tk7 } (elt_ev h3 hlk) hE (ScOf.comp (scc := scc)) R7 _ _ λvy h8 tk8 own8 x8 r8 y8 => ?_
   obtain ⟨oi, ei⟩ := hI0 _ I7.st.2
   obtain ⟨oj, ej⟩ := ex I7.st
   refine (I7.eval (F _) FM x8 r8).append (s := { s with heap := h8, toks := tk8 }) (F _) FM y8 (by rw [List.length_append, List.length_map, List.length_take]; exact Nat.le_trans (Nat.add_le_add_left (Nat.min_le_right _ _) _) hlen) λh9 I9 => ?_
   refine kJ _ (trs.length + 1 - (j + 1)) (Nat.sub_lt_sub_left (Nat.lt_succ_of_lt hlt) (Nat.lt_succ_self _)) ⟨j + 1, own8, ys5.push vy, m7, h9, tk8, rfl, rfl, hlt, ?_, (x8.tags _ _ ei).trans oI5, (x8.tags _ _ ej).trans oJ5, hm177⟩
   rw [List.take_add_one, htr, List.map_append, <- List.append_assoc]
   exact I9
  ·have hjn : j = trs.length := Nat.le_antisymm hj (Nat.not_lt.mp hlt)
   subst hjn
   refine W2.done _ _ _ I5.st.1 λh6 tk6 hk6 => ?_
   have k6 : ∀ b o, b ≠ Ja -> h5.get? b = some o -> h6.get? b = some o := λb o hb e => hk6 b o (λq => hb (List.mem_singleton.mp q)) e
   rw [List.take_length] at I5
   obtain ⟨oj, ej⟩ := ex I5.st
   exact kn _ <| K own5 h6 tk6 m5 ys5 ((I5.weak (fp' := fp0) (T' := T0) (M' := MT) (λb hb => List.mem_append_right _ hb) (λq => q.2) λ_ => trivial).kept F0 MT.of nJ0 k6 oJ5 fJ nJD) oI5
 exact start_in (loop2 _) (W2.self 0 _ _ _ hst2 (loop2 _))
def DueI (g : Gh) (own : Addr -> Tag) (s : Shared) (σ : Sg) (tab : D) (ds rs : List D) (fp : List Addr) (St : Nat -> Heap -> Prop) (Ia Da Ca : Addr) (k : Nat) (s' : Shared) : Prop :=
 ∃ i own' ys done rest m h' tk, s' = { s with heap := h', toks := tk } /\ k = ds.length + 1 - i /\ i <= ds.length /\ BlkI g own s.heap fp (St i) MT Da Ca own' h' σ m ys done /\ own' Ia = .no /\ dueRun tab (ds.drop i) = some rest /\ done ++ rest = rs
@[elab_as_elim] theorem DueI.elim {tab : D} {ds rs : List D} {fp : List Addr} {St : Nat → Heap → Prop} {Ia Da Ca : Addr} {k : Nat} {s' : Shared} {P : Nat → Shared → Prop} (h : DueI g own s σ tab ds rs fp St Ia Da Ca k s')
  (q : ∀ i own' ys done rest m h' tk, i <= ds.length -> BlkI g own s.heap fp (St i) MT Da Ca own' h' σ m ys done -> own' Ia = .no -> dueRun tab (ds.drop i) = some rest -> done ++ rest = rs -> P (ds.length + 1 - i) { s with heap := h', toks := tk }) : P k s' := by
 obtain ⟨i, own', ys, done, rest, m, h', tk, e1, e2, h1, h2, h3, h4, h5⟩ := h
 subst e1
 subst e2
 exact q _ _ _ _ _ _ _ _ h1 h2 h3 h4 h5
theorem due_blk {use : Option (Value → Sem Unit)} {Q : Value → Shared → Prop} {E : Value → Shared → Prop} {scc : Scope} {tab : D} {ds rs : List D} {P : Nat → Value → Prop} {ax : List Addr} {St : Nat → Heap → Prop} {Ia Da Ca : Addr} {own₁ : Addr → Tag} {m₁ : Str → Option Value} {h₁ : Heap} {tk₁ : Tok} {elt c0 it0 : Expr} {p7 p8 p9 p14 p15 pos : Pos} {k2 : Nat}
  (hh : A.handled = none) (r : R g own env l σ s.heap) (hs : ScOf sc env) (hcc : ScC sc scc [17, 23, 24] [3]) (h3 : l.lookup 3 = some (.val tab)) (ihe : EvOk g C k A 14) (ihb : EvB g C k A 14) (hE : IsE g scc (.tup [.var 24, .tup [], .idx (.var 3) (.var 17)]) elt) (hC : IsE g scc (.cmp .NotEq (.var 17) (.cst (.str 36))) c0)
  (hf : ∀ x, foldedSetIterable (.Name (vN 23) p15) (compEnvC scc (closL env scc.names []) Ca env) x = pure x) (hd : dueRun tab ds = some rs) (hl : rs.length <= maxLen)
  (hP : ∀ i v, P i v → ∃ d, ds[i]? = some d ∧ At g s.heap own v d) (hax : ∀ b ∈ ax, own b = .fz) (W : Walks g.prog g.w A Ia (Ia :: ax) [Ia] ds.length P St) (hcl : ∀ i h, St i h → ∃ o n, h.get? Ia = some o ∧ o.cls = .type n ∧ (n = "list_iterator" ∨ n = "tuple_iterator" ∨ n = "range_iterator"))
  (fI : s.heap.get? Ia = none) (nD : Ia ≠ Da) (nC : Ia ≠ Ca) (tI : own₁ Ia = .no) (B₁ : Blk g own own₁ s.heap h₁ Da Ca σ m₁ (lst ([] : List Value).toArray 0)) (hst₁ : St 0 h₁)
  (KK : ∀ (h₂ : Heap) tk₂ m, h₂.Ns Ca m -> s.heap.get? Ca = none -> (∀ h₇, Heap.SameBut Ca h₂ h₇ -> ∃ own₇, Ext own own₇ s.heap h₇ /\ RG g own₇ σ h₇ /\ At g h₇ own₇ (.ref Da) (.list rs) /\ own₇ Ca = .no) -> compPost (model g.prog g.w) A E use Q (.ref Da) Ca (.ok .next) { s with heap := h₂, toks := tk₂ }) :
  codeAny (model g.prog g.w) A (.compStart (.ListComp elt [⟨.Tuple [.Name (vN 17) p7, .Name (vN 23) p8] k2 p9, it0, [c0], 0⟩, ⟨.Name (vN 24) p14, .Name (vN 23) p15, [], 0⟩] scc pos) 0 (.ref Ia) (.ref Da) (compEnvC scc (closL env scc.names []) Ca env)) (compPost (model g.prog g.w) A E use Q (.ref Da) Ca) { s with heap := h₁, toks := tk₁ } := by
 have F : ∀ i, FpOf (Ia :: ax) (St i) := λi h h' st k => W.frame i h h' st k
 have ex : ∀ {i h}, St i h -> ∃ o, h.get? Ia = some o := λst => let ⟨o, _, e, _⟩ := hcl _ _ st; ⟨o, e⟩
 have loop : ∀ tk₀ : Nat, codeAny (model g.prog g.w) A (.compLoop (.ListComp elt [⟨.Tuple [.Name (vN 17) p7, .Name (vN 23) p8] k2 p9, it0, [c0], 0⟩, ⟨.Name (vN 24) p14, .Name (vN 23) p15, [], 0⟩] scc pos) 0 (.ref Ia) (.ref Da) (compEnvC scc (closL env scc.names []) Ca env)) (compPost (model g.prog g.w) A E use Q (.ref Da) Ca) { s with heap := h₁, toks := tk₀ } := λtk₀ => by
  refine two_abs hf (DueI g own s σ tab ds rs (Ia :: ax) St Ia Da Ca) (λk s' hI N E' kn ks => ?_) (ds.length + 1) ⟨0, own₁, _, [], rs, m₁, h₁, _, rfl, rfl, Nat.zero_le _, ⟨hst₁, λb hb => ?_, ⟨_, B₁⟩, .nil, trivial⟩, tI, by rw [List.drop_zero]; exact hd, rfl⟩
  ·revert kn ks
   refine hI.elim λi own' ys done rest m h' tk hi I oI hdr hdone kn ks => ?_
   by_cases hlt : i < ds.length
   ·refine W.item i _ _ _ hlt I.st λv h₂ tk₂ hvi hst₂ hk₂ => ?_
    obtain ⟨d, hd', yv⟩ := hP i v hvi
    rw [drop_of hd'] at hdr
    obtain ⟨nm, trs, e0, hcase⟩ := dueRun_cons hdr
    subst e0
    have I₂ := I.item (T' := St (i + 1)) MT.of hst₂ hk₂ oI nD nC fI (ex hst₂)
    obtain ⟨n₂, B₂⟩ := I₂.blk
    refine ks _ _ λE B J CC kJ kC kf kt => ?_
    refine go_none (ts := [17, 23]) (.two (by decide) (by decide) (by decide +kernel)) (hcl _ _ hst₂) ?_
    have yv₂ : At g h₂ own' v (.tup [.str nm, .tup trs]) := At.mono (B₂.le r.toRG) yv
    refine assign_ok (g := g) (own := own') (s := { s with heap := h₂, toks := tk₂ }) (m := m) (b := [(17, .val (.str nm)), (23, .val (.tup trs))]) hh (IsT.two (by decide) (by decide) (by decide +kernel)) rfl hcc.kind (λt ht => lookup_relabel_local (hcc.loc t (by
     rcases List.mem_cons.mp ht with rfl | ht
     ·decide
     ·rcases List.mem_singleton.mp ht with rfl; decide))) yv₂ B₂.ns λh₃ tk₃ m₃ hn₃ hk₃ hb₃ hm₃ => ?_
    have I₃ := I₂.names (F _) MT.of hn₃ (λb o hb e => hk₃ b o hb e)
    obtain ⟨n₃, B₃⟩ := I₃.blk
    have L₃ : Le h₂ h₃ own' own' := le_of (λb o hb e => hk₃ b o (λ(q : b = Ca) => by rw [q, B₃.tC] at hb; cases hb) e) λ_ _ => rfl
    obtain ⟨v17, hm17, d17, e17, y17⟩ := hb₃ (17, .val (.str nm)) (.head _)
    cases e17
    have y17' : ∀ h o, At g h o v17 (.str nm) := (show At g h₂ own' v17 (.str nm) from y17).str_e λt hj h o => .str hj rfl t
    have R₃ := B₃.R r hs hcc (bl := [(17, .val (.str nm)), (23, .val (.tup trs))]) (λp hp => by
     obtain ⟨w, h1, d, h2, h3⟩ := hb₃ p hp
     refine ⟨?_, ?_, w, d, h1, h2, At.mono L₃ h3⟩
     ·rcases List.mem_cons.mp hp with rfl | hp
      ·exact (by decide : 17 ∈ [17, 23, 24])
      ·rcases List.mem_singleton.mp hp with rfl; exact (by decide : 23 ∈ [17, 23, 24])
     ·rcases List.mem_cons.mp hp with rfl | hp
      ·exact (by decide : 17 < 48)
      ·rcases List.mem_singleton.mp hp with rfl; exact (by decide : 23 < 48))
    have hcond : ev C 14 ([(17, .val (.str nm)), (23, .val (.tup trs))] ++ capt l [3]) σ (.cmp .NotEq (.var 17) (.cst (.str 36))) = some (.bool (!(nm == 36)), σ) := rfl
    refine ihb _ _ _ _ _ _ _ _ own' { s with heap := h₃, toks := tk₃ } hcond rfl hC (ScOf.comp (scc := scc)) R₃ _ _ λh₄ tk₄ own₄ x₄ r₄ => ?_
    obtain ⟨oi, ei⟩ := ex I₃.st
    have I₄ := I₃.eval (F _) MT.of x₄ r₄
    have oI₄ : own₄ Ia = .no := (x₄.tags _ _ ei).trans oI
    rcases hcase with ⟨rfl, hrest⟩ | ⟨hne, ks, es, t, rest', rfl, hlk, hrest, rfl⟩
    ·exact kf _ <| kJ _ (ds.length + 1 - (i + 1)) (Nat.sub_lt_sub_left (Nat.lt_succ_of_lt hlt) (Nat.lt_succ_self _)) ⟨i + 1, own₄, ys, done, rest, m₃, h₄, tk₄, rfl, rfl, hlt, I₄, oI₄, hrest, hdone⟩
    ·have hok : (!(nm == 36)) = true := by simp [hne]
     rw [hok]
     refine kt _ ?_
     have R₄ := R₃.ext x₄ r₄
     refine lname (s := { s with heap := h₄, toks := tk₄ }) R₄ (i := 23) (lv := .val (.tup trs)) rfl (by intro z; cases z) (by decide +kernel) λw hw => ?_
     refine iter_seq (s := { s with heap := h₄, toks := tk₄ }) hh r₄ (show At g h₄ own₄ w (.tup trs) from hw) (ds := trs) rfl λP2 ax2 oJ St2 hP2 hax2 W2 hst2 hJf hcl2 => ?_
     have gr : ∀ b o, h₄.get? b = some o -> (h₄.push oJ).get? b = some o := λb o e => Heap.get?_push_of_some _ e
     obtain ⟨n₄, B₄⟩ := I₄.blk
     have fJ : h₄.get? h₄.objs.size = none := none_of_le (Nat.le_refl _)
     have nJ : ∀ {b o}, h₄.get? b = some o -> b ≠ h₄.objs.size := λe q => by rw [q, fJ] at e; cases e
     have hJH : s.heap.get? h₄.objs.size = none := by
      cases q : s.heap.get? h₄.objs.size with
      | none => rfl
      | some o => obtain ⟨o', e'⟩ := B₄.ext.ex _ o q; rw [fJ] at e'; cases e'
     refine due_inner (s := s) hh r hs hcc h3 hlk ihe hE W2 hcl2 (F (i + 1)) (λh st => ex st) (λb hb => ?_) hJH (Ne.symm (nJ B₄.acc)) (Ne.symm (let ⟨o, _, _, e, _⟩ := B₄.ns; nJ e)) hst2 (I₄.grow (F _) MT.of gr) r₄.fresh oI₄ hax2 (λj v hv => let ⟨d, h1, h2⟩ := hP2 j v hv; ⟨d, h1, At.mono (le_of (λb o _ e => gr b o e) λ_ _ => rfl) h2⟩)
      hm17 y17' ?_ λown6 h6 tk6 m6 ys6 I6 oI6 => kC _ _ <| kJ _ (ds.length + 1 - (i + 1)) (Nat.sub_lt_sub_left (Nat.lt_succ_of_lt hlt) (Nat.lt_succ_self _)) ⟨i + 1, own6, ys6, _, rest', m6, h6, tk6, rfl, rfl, hlt, I6, oI6, hrest, by rw [List.append_assoc]; exact hdone⟩
     ·rcases I₄.tg b hb with ⟨_, _, _, o, e⟩ | q
      ·exact nJ e
      ·obtain ⟨o, e⟩ := r₄.lt b (by rw [q]; intro z; cases z)
       exact nJ e
     ·refine Nat.le_trans ?_ hl
      rw [<- hdone]
      simp only [List.length_append, List.length_map]
      lia
   ·have hi' : i = ds.length := Nat.le_antisymm hi (Nat.not_lt.mp hlt)
    subst hi'
    refine W.done _ _ _ I.st λh₂ tk₂ hk₂ => ?_
    rw [List.drop_length] at hdr
    have hr0 : [] = rest := Option.some.inj hdr
    subst hr0
    rw [List.append_nil] at hdone
    subst hdone
    obtain ⟨n, B⟩ := I.blk
    have k : ∀ b o, b ≠ Ia -> h'.get? b = some o -> h₂.get? b = some o := λb o hb e => hk₂ b o (λq => hb (List.mem_singleton.mp q)) e
    have B₂ : Blk g own own' s.heap h₂ Da Ca σ m (lst ys n) := B.free (λb o hb e => k b o (λq => hb (by rw [q]; exact oI)) e) (λb o o' e0 _ e => k b o (λq => by rw [q, fI] at e0; cases e0) e) (k _ _ (Ne.symm nD) B.acc)
    refine kn _ <| KK h₂ tk₂ m B₂.ns (none_of_le B.szC) λh₇ hs₇ => ?_
    obtain ⟨own₇, x, rg, tD, gD, L, tC⟩ := B₂.out r.toRG hs₇
    exact ⟨own₇, x, rg, .list tD ⟨n, gD⟩ (AtL.mono L (AtL.mono (le_of (λb o hb e => k b o (λq => by rw [q, oI] at hb; cases hb) e) λ_ _ => rfl) I.at_)), tC⟩
  ·rcases List.mem_cons.mp hb with q | q
   ·exact q ▸ .inl ⟨tI, nD, nC, ex hst₁⟩
   ·obtain ⟨o, e⟩ := r.lt b (by rw [hax b q]; intro z; cases z)
    exact .inr (by rw [B₁.ext.tags b o e, inner_hot (by rw [hax b q]; rfl)]; exact hax b q)
 exact codeAny_compStart_list (loop _) (W.self 0 _ _ _ hst₁ (loop _))
theorem due_ok {e : Expr} {dp tab : D} {ds rs : List D} {pn pst : Pos} {Q : Flow → Shared → Prop} {E : Value → Shared → Prop} (S : St g) (hc : COk g C k) (ca : CA A k) (r : R g own env l σ s.heap) (he : DueE env.scope e) (hsw : swapsWith e (some (.Name (vN 35) pn)) pst.line env = pure true) (hok : okT env.scope [35] = true) (h35 : hasL l 35 = true)
  (h39 : l.lookup 39 = some (.val dp)) (h3 : l.lookup 3 = some (.val tab)) (hq : itD dp = some ds) (hlen : ds.length <= maxLen) (hd : dueRun tab ds = some rs) (hl : rs.length <= maxLen)
  (K : ∀ h' tk' own', R g own' env (setL l 35 (.val (.list rs))) σ h' -> StepS own own' s.heap h' -> Q .next { s with heap := h', toks := tk' }) : wpAny (model g.prog g.w) A (exec (.Assign [.Name (vN 35) pn] e pst) env) Q E s := by
 have hs : ScOf env.scope env := .self
 obtain ⟨ihe, ihb⟩ := ev_ok S hc ca 14
 cases he with
 | mk hcc =>
 rename_i scc p1 p2 p3 p4 p5 p6 p7 p8 p9 p10 p11 p12 p13 p14 p15 pos k0 k1 k2 k3
 rw [exec_Assign_Name_used _ _ _ _ hsw]
 refine wpAny_bind (wpAny_standAt (wpAny_bind ?_))
 show wpAny _ A (do let _ <- comprehension (.ListComp (.Tuple [.Name (vN 24) p1, .Tuple [] k0 p2, .Subscript (.Name (vN 3) p3) (.Name (vN 17) p4) p5] k1 p6) [⟨.Tuple [.Name (vN 17) p7, .Name (vN 23) p8] k2 p9, .Name (vN 39) p10, [.Compare (.Name (vN 17) p11) [.NotEq] [.Constant (.str (sN 36)) k3 p12] p13], 0⟩, ⟨.Name (vN 24) p14, .Name (vN 23) p15, [], 0⟩] scc pos) scc env _ (newList []) false (eval (.Name (vN 39) p10) env) (some (assign (.Name (vN 35) pn) env))) _ _ s
 refine wpAny_bind (wpAny_mono (wpAny_comprehension_free (use := some (assign (.Name (vN 35) pn) env)) (Q := λ_ s' => Q .next s') (g := ⟨_, _, _, 0⟩) (gs := [_]) rfl (λ_ => rfl) (closure_ok r hs hcc (by simp [h3])) hcc.kind hcc.nm ?_) (λ_ s' hq => wpAny_pure (wpAny_pure hq)) λ_ _ e => e)
 refine lname r h39 (by intro z; cases z) (by decide +kernel) λv hv => ?_
 refine iter_seq ca.hd r.toRG (show At g s.heap own v dp from hv) hq λP ax oI St hP hax W hst hIf hcl => ?_
 refine wpAny_newObj_type (T := "list") (data := .seq ([] : List Value).toArray) ?_ (Nat.zero_le _)
 refine block_in (s := { s with heap := s.heap.push oI }) rfl r hcc (λb o e => Heap.get?_push_of_some _ e) (by rw [Heap.size_push]; exact Nat.le_succ _) λh₁ tk₁ m₁ B₁ old₁ => ?_
 have eD : (s.heap.push oI).objs.size = s.heap.objs.size + 1 := Heap.size_push ..
 exact due_blk (s := s) ca.hd r hs hcc h3 ihe ihb (.mk (.tup (.cons (λ_ => rfl) (.mk (.var (by decide +kernel))) (.cons (λ_ => rfl) (.mk (.tup .nil)) (.cons (λ_ => rfl) (.mk (.idx (λ_ _ => rfl) (.mk (.var (by decide +kernel))) (.mk (.var (by decide +kernel))))) .nil))))) (.mk (.cmp rfl (.mk (.var (by decide +kernel))) (.mk (.str (by decide))))) (λ_ => rfl) hd hl hP hax W hcl
  (none_of_le (Nat.le_refl _)) (by rw [eD]; exact Nat.ne_of_lt (Nat.lt_succ_self _)) (by rw [eD]; exact Nat.ne_of_lt (Nat.lt_succ_of_lt (Nat.lt_succ_self _))) (tI own r.toRG (by rw [eD]; exact Nat.ne_of_lt (Nat.lt_succ_of_lt (Nat.lt_succ_self _)))) B₁ (W.frame 0 _ _ hst λb _ o e => old₁ b o e)
  λh₂ tk₂ m hn hC fin => use_store (s := s) r h35 (okT_free hok (.head _)) hn hC fin K
end
noncomputable def numsRun : Nat -> List D -> Option (List Nat × List D)
 | _, [] => some ([], [])
 | i, .tup (.str nm :: _) :: r => (numsRun (i + 1) r).map λp => (nm :: p.1, .int (-1 - (i : Int)) :: p.2)
 | _, _ => none
theorem numsRun_cons {i : Nat} {d : D} {r : List D} {p : List Nat × List D} {G : Prop} (h : numsRun i (d :: r) = some p) (k : ∀ (nm : Nat) (ds : List D) (q : List Nat × List D), d = .tup (.str nm :: ds) -> numsRun (i + 1) r = some q -> (nm :: q.1, D.int (-1 - (i : Int)) :: q.2) = p -> G) : G := by
 cases d with
 | tup ds =>
  cases ds with
  | nil => exact no h
  | cons a ds =>
   cases a with
   | str nm =>
    have h : (numsRun (i + 1) r).map (λq : List Nat × List D => (nm :: q.1, D.int (-1 - (i : Int)) :: q.2)) = some p := h
    cases q : numsRun (i + 1) r with
    | none => rw [q] at h; exact no h
    | some q' => rw [q] at h; exact k nm ds q' rfl q (Option.some.inj h)
   | _ => exact no h
 | _ => exact no h
theorem nums_at : ∀ {ds : List D} {i : Nat} {p : List Nat × List D}, numsRun i ds = some p -> p.1.length = ds.length /\ p.2.length = ds.length /\ ∀ (j : Nat) (d : D), ds[j]? = some d -> ∃ (nm : Nat) (dr : List D), d = .tup (.str nm :: dr) /\ p.1[j]? = some nm /\ p.2[j]? = some (D.int (-1 - ((i + j : Nat) : Int)))
 | [], _, _, h => by cases Option.some.inj h; exact ⟨rfl, rfl, λj d h => nomatch h⟩
 | d :: ds, i, p, h => numsRun_cons h λnm dr q e h1 hp => by
  subst hp
  obtain ⟨a, b, c⟩ := nums_at h1
  refine ⟨congrArg Nat.succ a, congrArg Nat.succ b, λj d' hj => ?_⟩
  cases j with
  | zero => cases Option.some.inj hj; exact ⟨nm, dr, e, rfl, rfl⟩
  | succ j => obtain ⟨nm', dr', e1, e2, e3⟩ := c j d' hj; exact ⟨nm', dr', e1, e2, (show i + (j + 1) = i + 1 + j from (Nat.add_right_comm i j 1)) ▸ e3⟩
inductive EnumE (sc : Scope) : Expr -> Prop
 | mk {scc : Scope} {p1 p2 p3 p4 p5 p6 p7 p8 p9 p10 p11 p12 p13 p14 pos : Pos} {k1 k2 k3 : Nat} : ScC sc scc [26, 25] [] → glb sc "enumerate" = true → callEq (.Name "enumerate" p11) [.Attribute (.Name (vN 22) p12) (aN 2) p13] p14 → (∀ env, starEach [.Attribute (.Name (vN 22) p12) (aN 2) p13] env = [(false, eval (.Attribute (.Name (vN 22) p12) (aN 2) p13) env)]) → attrEq (.Name (vN 22) p12) (aN 2) p13 →
   EnumE sc (.DictComp (.Subscript (.Name (vN 25) p1) (.Constant (.int 0) k1 p2) p3) (.BinOp (.UnaryOp .USub (.Constant (.int 1) k2 p4) p5) .Sub (.Name (vN 26) p6) p7) [⟨.Tuple [.Name (vN 26) p8, .Name (vN 25) p9] k3 p10, .Call (.Name "enumerate" p11) [.Attribute (.Name (vN 22) p12) (aN 2) p13] [] p14, [], 0⟩] scc pos)
section
variable {prog : Program} {w : World} {A : Around} {R : Result -> Shared -> Prop} {s : Shared} {kx vx target iter : Expr} {scope : Scope} {pos : Pos} {it : Value} {D : Addr} {env : Env}
theorem dict_turns (I : Nat → Shared → Prop)
  (turn : ∀ n s, I n s -> wpAny (model prog w) A (pyNext it) (λr s₁ => match r with
   | none => R (.ok .next) s₁
   | some v => wpAny (model prog w) A (letOwnedTupleGo target it v) (fun _ s₁' => wpAny (model prog w) A (assign target env v) (fun _ s₂ =>
     wpAny (model prog w) A (eval kx env) (fun kv s₄ => wpAny (model prog w) A (eval vx env) (fun vv s₅ =>
       wpAny (model prog w) A (dictSet D kv vv) (λ_ s₆ => ∃ m, m < n /\ I m s₆) (notedBy (model prog w) A env λe s' => R (.error e) s') s₅) (notedBy (model prog w) A env λe s' => R (.error e) s') s₄) (notedBy (model prog w) A env λe s' => R (.error e) s') s₂) (notedBy (model prog w) A env λe s' => R (.error e) s') s₁') (notedBy (model prog w) A env λe s' => R (.error e) s') s₁) (notedBy (model prog w) A env λe s' => R (.error e) s') s)
  (n : Nat) (h : I n s) : codeAny (model prog w) A (.compLoop (.DictComp kx vx [⟨target, iter, [], 0⟩] scope pos) 0 it (.ref D) env) R s := by
 refine codeAny_loop rfl I (λn s hI => ?_) n h
 show wpAny _ A ((compTurn (.DictComp kx vx [⟨target, iter, [], 0⟩] scope pos) 0 it (.ref D) env).onRaise (λx => do noteFrame x env; theTreesLotGoes x)) _ _ s
 refine wpAny_noted ?_
 rw [compTurn_dict]
 refine wpAny_bind (wpAny_standAt (wpAny_bind (wpAny_mono (turn n s hI) (λr s₁ h₁ => ?_) λ_ _ h' => h')))
 cases r with
 | none => exact wpAny_pure h₁
 | some v =>
  refine wpAny_bind (wpAny_mono h₁ (λ_ s₁' h₁' => ?_) λ_ _ h' => h')
  refine wpAny_bind (wpAny_mono h₁' (λ_ s₂ h₂ => ?_) λ_ _ h' => h')
  refine wpAny_bind ?_
  rw [List.forIn_nil]
  refine wpAny_pure ?_
  rw [if_pos rfl]
  exact wpAny_bind (wpAny_bind (wpAny_mono h₂ (λkv s₄ h₄ => wpAny_bind (wpAny_holding (wpAny_mono h₄ (λvv s₅ h₅ => wpAny_bind (wpAny_standAt (wpAny_holding (wpAny_mono h₅ (λ_ s₆ h₆ => wpAny_pure ⟨rfl, h₆⟩) λ_ _ h' => h')))) λ_ _ h' => h'))) λ_ _ h' => h'))
theorem dict_abs (I : Nat → Shared → Prop)
  (turn : ∀ n s, I n s -> ∀ (N : Option Value -> Shared -> Prop) (E' : Value -> Shared -> Prop), (∀ s, R (.ok .next) s -> N none s) ->
   (∀ v s, (∀ (E : Value -> Shared -> Prop) (J : Shared -> Prop), (∀ s m, m < n -> I m s -> J s) -> wpAny (model prog w) A (letOwnedTupleGo target it v) (λ_ s => wpAny (model prog w) A (assign target env v) (λ_ s =>
    wpAny (model prog w) A (eval kx env) (λkv s => wpAny (model prog w) A (eval vx env) (λvv s => wpAny (model prog w) A (dictSet D kv vv) (λ_ s => J s) E s) E s) E s) E s) E s) -> N (some v) s) ->
   wpAny (model prog w) A (pyNext it) N E' s)
  (n : Nat) (h : I n s) : codeAny (model prog w) A (.compLoop (.DictComp kx vx [⟨target, iter, [], 0⟩] scope pos) 0 it (.ref D) env) R s :=
 dict_turns I (λn s hI => turn n s hI _ _ (λ_ h => h) λv s k => k _ _ λs m h1 h2 => ⟨m, h1, h2⟩) n h
end
section
variable {g : Gh} {A : Around} {own own' own'' : Addr -> Tag} {s : Shared} {σ σ' σ'' : Sg} {env : Env} {l : Loc} {sc : Scope} {C : Calls} {k : Nat} {H h h' : Heap} {Da Ca la ia ea : Addr} {m m' : Str -> Option Value} {oD oD' : Obj} {ks : List Nat} {ns : List D}
theorem Blk.fresh (B : Blk g own own' H h Da Ca σ m oD) {a : Addr} {o : Obj} (ha : h.get? a = none) (ho : h'.get? a = some o) (hk : ∀ b o, own' b ≠ .no -> h.get? b = some o -> h'.get? b = some o) (hH : ∀ b o o', H.get? b = some o' -> own' b = .no -> h.get? b = some o -> h'.get? b = some o) (hD : h'.get? Da = some oD') : Blk g own (upd own' a .fz) H h' Da Ca σ m oD' := by
 have ne : ∀ b o, h.get? b = some o -> b ≠ a := λb o e q => by rw [q, ha] at e; cases e
 have ne2 : ∀ b, own' b ≠ .no -> b ≠ a := λb hb => by obtain ⟨o, e⟩ := B.rg.lt b hb; exact ne b o e
 have all : ∀ b o o', H.get? b = some o -> h.get? b = some o' -> h'.get? b = some o' := λb o o' e e' => by
  by_cases q : own' b = .no
  ·exact hH b o' o e q e'
  ·exact hk b o' q e'
 refine ⟨?_, ?_, ⟨λb o e => ?_, λb o e hm => all b o o e (B.ext.objs b o e hm), λb o e => by obtain ⟨o', e'⟩ := B.ext.ex b o e; exact ⟨o', all b o o' e e'⟩⟩, (upd_ne (ne2 _ (by rw [B.tC]; intro z; cases z))).trans B.tC, (upd_ne (ne _ _ B.acc)).trans B.tD, hD, B.szD, B.szC, B.ne⟩
 ·obtain ⟨o, es, ep, e, q⟩ := B.ns; exact ⟨o, es, ep, hk _ _ (by rw [B.tC]; intro z; cases z) e, q⟩
 ·refine B.rg.step (λb o hb e => hk b o (by intro z; rw [z] at hb; cases hb) e) (λb hb => upd_ne (ne2 b (by intro z; rw [z] at hb; cases hb))) (λb hb => ?_) λb hb => ?_
  ·by_cases q : b = a
   ·rw [q]; exact ⟨o, ho⟩
   ·rw [upd_ne q] at hb; obtain ⟨o, e⟩ := B.rg.lt b hb; exact ⟨o, hk b o hb e⟩
  ·by_cases q : b = a
   ·rw [q, upd_self] at hb; cases hb
   ·exact (upd_ne q).symm
 ·obtain ⟨o', e'⟩ := B.ext.ex b o e
  rw [upd_ne (ne b o' e')]; exact B.ext.tags b o e
structure EnS (g : Gh) (own : Addr -> Tag) (H : Heap) (la ia ea Da Ca : Addr) (σ : Sg) (ks : List Nat) (ns : List D) (i j : Nat) (own' : Addr -> Tag) (h : Heap) (m : Str -> Option Value) : Prop where
 en : ∃ old, IsEnum h ea ia ((j : Nat) : Int) old
 it : h.IsListIter ia la j
 blk : ∃ oD, Blk g own own' H h Da Ca σ m oD
 di : ∃ xs, xs.length = i /\ h.DictOf (strKind g.prog g.w) Da (((ks.take i).map sN).zip xs) /\ AtL g h own' xs (ns.take i)
 tI : own' ia = .no
 tE : own' ea = .no
theorem EnS.keep {i j : Nat} (I : EnS g own H la ia ea Da Ca σ ks ns i j own' h m) (B : ∃ oD, Blk g own own'' H h' Da Ca σ m' oD) (k : ∀ b o, own' b = .no -> b ≠ Ca -> h.get? b = some o -> h'.get? b = some o /\ own'' b = .no) (L : Le h h' own' own'') : EnS g own H la ia ea Da Ca σ ks ns i j own'' h' m' := by
 obtain ⟨oD, B0⟩ := I.blk
 have ne : ∀ {b}, own' b = .no -> b ≠ Ca := λe q => by rw [q, B0.tC] at e; cases e
 obtain ⟨old, e⟩ := I.en
 obtain ⟨oi, ei, qi⟩ := I.it
 obtain ⟨xs, e1, e2, e3⟩ := I.di
 exact ⟨⟨old, (k _ _ I.tE (ne I.tE) e).1⟩, ⟨oi, (k _ _ I.tI (ne I.tI) ei).1, qi⟩, B, ⟨xs, e1, dict_keep (λo ho => (k _ _ B0.tD (ne B0.tD) ho).1) e2, AtL.mono L e3⟩, (k _ _ I.tI (ne I.tI) ei).2, (k _ _ I.tE (ne I.tE) e).2⟩
theorem EnS.names {i j : Nat} (I : EnS g own H la ia ea Da Ca σ ks ns i j own' h m) (hn : h'.Ns Ca m') (hk : ∀ b o, b ≠ Ca -> h.get? b = some o -> h'.get? b = some o) : EnS g own H la ia ea Da Ca σ ks ns i j own' h' m' :=
 I.keep (I.blk.elim λoD B => ⟨oD, B.names hn hk⟩) (λb o e hb ho => ⟨hk b o hb ho, e⟩) (I.blk.elim λ_ B => le_of (λb o hb e => hk b o (λq => by rw [q, B.tC] at hb; cases hb) e) λ_ _ => rfl)
theorem EnS.eval {i j : Nat} (I : EnS g own H la ia ea Da Ca σ ks ns i j own' h m) (x : Ext own' own'' h h') (r : RG g own'' σ h') : EnS g own H la ia ea Da Ca σ ks ns i j own'' h' m :=
 I.keep (I.blk.elim λoD B => ⟨oD, B.step x r⟩) (λb o e _ ho => ⟨x.objs b o ho (by rw [e]; rfl), (x.tags b o ho).trans e⟩) (I.blk.elim λ_ B => x.le B.rg)
theorem EnS.mid {i : Nat} {v : Value} {d : D} {tk : Tok} {h3 h4 h5 : Heap} (I : EnS g own H la ia ea Da Ca σ ks ns i i own' h3 m) (r : RG g own σ H) (fI : H.get? ia = none) (fE : H.get? ea = none) (nID : ia ≠ Da) (nED : ea ≠ Da) (nIE : ea ≠ ia) (hit4 : h4.IsListIter ia la (i + 1))
  (htup4 : h4.get? h3.objs.size = some { cls := .type "tuple", data := .seq #[.int (i : Int) tk, v] }) (hk4 : ∀ b o, b ≠ ea → b ≠ ia → h3.get? b = some o → h4.get? b = some o) (he5 : IsEnum h5 ea ia ((i : Int) + 1) v) (hs5 : Heap.SameBut ea h4 h5) (yv : At g H own v d) :
  EnS g own H la ia ea Da Ca σ ks ns i (i + 1) (upd own' h3.objs.size .fz) h5 m /\ At g h5 (upd own' h3.objs.size .fz) (.ref h3.objs.size) (.tup [.int (i : Int), d]) := by
 have hA0 : h3.get? h3.objs.size = none := size_none _
 have neA : ∀ {b o}, h3.get? b = some o -> b ≠ h3.objs.size := λe q => by rw [q, hA0] at e; cases e
 obtain ⟨oD, B⟩ := I.blk
 obtain ⟨old, e3⟩ := I.en
 obtain ⟨oi, ei, _⟩ := I.it
 have notI : ∀ {b o}, H.get? b = some o -> b ≠ ia := λe q => by rw [q, fI] at e; cases e
 have notE : ∀ {b o}, H.get? b = some o -> b ≠ ea := λe q => by rw [q, fE] at e; cases e
 have nI : ∀ {b}, own' b ≠ .no -> b ≠ ia := λhb q => hb (by rw [q]; exact I.tI)
 have nE : ∀ {b}, own' b ≠ .no -> b ≠ ea := λhb q => hb (by rw [q]; exact I.tE)
 have k5 : ∀ {b o}, b ≠ ea -> h4.get? b = some o -> h5.get? b = some o := λhb e => hs5.extBut _ _ hb e
 have tI : upd own' h3.objs.size .fz ia = .no := (upd_ne (neA ei)).trans I.tI
 have tE : upd own' h3.objs.size .fz ea = .no := (upd_ne (neA e3)).trans I.tE
 have B4 : Blk g own (upd own' h3.objs.size .fz) H h4 Da Ca σ m oD := B.fresh hA0 htup4 (λb o hb e => hk4 b o (nE hb) (nI hb) e) (λb o o' e0 _ e => hk4 b o (notE e0) (notI e0) e) (hk4 _ _ (Ne.symm nED) (Ne.symm nID) B.acc)
 have B5 : Blk g own (upd own' h3.objs.size .fz) H h5 Da Ca σ m oD := B4.free (λb o hb e => k5 (λq => hb (by rw [q]; exact tE)) e) (λb o o' e0 _ e => k5 (notE e0) e) (k5 (Ne.symm nED) B4.acc)
 have L : Le h3 h5 own' (upd own' h3.objs.size .fz) := le_of (λb o hb e => k5 (nE (by rw [hb]; intro z; cases z)) (hk4 b o (nE (by rw [hb]; intro z; cases z)) (nI (by rw [hb]; intro z; cases z)) e)) λb hb => upd_ne (by obtain ⟨o, e⟩ := B.rg.lt b (by intro z; rw [z] at hb; cases hb); exact neA e)
 obtain ⟨xs, q1, q2, q3⟩ := I.di
 refine ⟨⟨⟨v, he5⟩, hit4.elim λo q => ⟨o, k5 (Ne.symm nIE) q.1, q.2⟩, ⟨oD, B5⟩, ⟨xs, q1, dict_keep (λo ho => k5 (Ne.symm nED) (hk4 _ _ (Ne.symm nED) (Ne.symm nID) ho)) q2, AtL.mono L q3⟩, tI, tE⟩, ?_⟩
 exact .tup (vs := [.int (i : Int) tk, v]) upd_self ⟨_, k5 (Ne.symm (neA e3)) htup4, rfl, _, rfl⟩ (.cons (.int _ _) (.cons (At.mono (B5.le r) yv) .nil))
theorem EnS.put {i j nm : Nat} {vv : Value} {kv : Value} {dv : D} {J : Unit → Shared → Prop} {E : Value → Shared → Prop} (I : EnS g own H la ia ea Da Ca σ ks ns i j own' s.heap m) (nID : ia ≠ Da) (nED : ea ≠ Da) (yk : At g s.heap own' kv (.str nm)) (yv : At g s.heap own' vv dv) (hk : ks[i]? = some nm) (hn : ns[i]? = some dv) (hnd : ks.Nodup) (hk39 : ∀ k ∈ ks, k < 39) (hi : i ≤ 100)
  (K : ∀ h' tk, EnS g own H la ia ea Da Ca σ ks ns (i + 1) j own' h' m -> J () { s with heap := h', toks := tk }) : wpAny (model g.prog g.w) A (dictSet Da kv vv) J E s := by
 refine yk.str_e λtkk h39 => ?_
 obtain ⟨xs, q1, q2, q3⟩ := I.di
 obtain ⟨oD, B⟩ := I.blk
 obtain ⟨hki, hke⟩ := List.getElem?_eq_some_iff.mp hk
 have htk : ks.take (i + 1) = ks.take i ++ [nm] := by rw [List.take_add_one, hk]; rfl
 have htn : ns.take (i + 1) = ns.take i ++ [dv] := by rw [List.take_add_one, hn]; rfl
 have lxs : (ks.take i).length = xs.length := by rw [List.length_take, q1, Nat.min_eq_left (Nat.le_of_lt hki)]
 refine wpAny_dictSet_pairs (knd := strKind g.prog g.w) (k := sN nm) (strKind_is _ _ _ _) q2 (λh9 hD9 hs9 => ?_) (by rw [List.length_zip, q1]; exact Nat.le_trans (Nat.min_le_right _ _) (Nat.le_trans hi (by rw [sizeLine_eq]; decide)))
 have hnin : (ks.take i).contains nm = false := Bool.eq_false_iff.mpr λq => by
  have hnd2 : (ks.take (i + 1)).Nodup := hnd.sublist (List.take_sublist _ _)
  rw [htk, List.nodup_append] at hnd2
  exact hnd2.2.2 nm (List.contains_iff_mem.mp q) nm (.head _) rfl
 obtain ⟨vs', e1, e2, e3⟩ := stored_put (v := vv) (λk hk => hk39 k (List.mem_of_mem_take hk)) h39 lxs
 rw [e1, hnin] at hD9
 rw [hnin] at e3
 have e3 : vs' = xs ++ [vv] := e3
 have hD9 : h9.DictOf (strKind g.prog g.w) Da (((ks.take i ++ [nm]).map sN).zip vs') := hD9
 rw [e3, <- htk] at hD9
 have k9 : ∀ {b o}, b ≠ Da -> s.heap.get? b = some o -> h9.get? b = some o := λhb e => hs9.extBut _ _ hb e
 obtain ⟨oD9, _, _, hoD9, _⟩ := id hD9
 have L9 : Le s.heap h9 own' own' := le_of (λb o hb e => k9 (λq => by rw [q, B.tD] at hb; cases hb) e) λ_ _ => rfl
 refine K h9 _ ⟨I.en.elim λold e => ⟨old, k9 nED e⟩, I.it.elim λo q => ⟨o, k9 nID q.1, q.2⟩, ⟨oD9, B.free (λb o hb e => k9 (λq => hb (by rw [q]; exact B.tD)) e) (λb o o' e0 _ e => k9 (B.below e0).1 e) hoD9⟩, ⟨xs ++ [vv], by rw [List.length_append, q1]; rfl, hD9, ?_⟩, I.tI, I.tE⟩
 rw [htn]; exact AtL.mono L9 (q3.append (.cons yv .nil))
def EnI (g : Gh) (own : Addr -> Tag) (s : Shared) (la ia ea Da Ca : Addr) (σ : Sg) (ks : List Nat) (ns : List D) (n k : Nat) (s' : Shared) : Prop :=
 ∃ i own' m h' tk, s' = { s with heap := h', toks := tk } /\ k = n + 1 - i /\ i <= n /\ EnS g own s.heap la ia ea Da Ca σ ks ns i i own' h' m
@[elab_as_elim] theorem EnI.elim {n k : Nat} {s' : Shared} {P : Nat -> Shared -> Prop} (h : EnI g own s la ia ea Da Ca σ ks ns n k s') (q : ∀ i own' m h' tk, i <= n -> EnS g own s.heap la ia ea Da Ca σ ks ns i i own' h' m -> P (n + 1 - i) { s with heap := h', toks := tk }) : P k s' := by
 obtain ⟨i, own', m, h', tk, e1, e2, h1, h2⟩ := h
 subst e1
 subst e2
 exact q _ _ _ _ _ h1 h2
theorem two_loc {b : Loc} {l : Loc} {h h' : Heap} {own : Addr → Tag} {m' : Str → Option Value} {x y : Nat} {d1 d2 : D} (hx : x < 48) (hy : y < 48) (L : Le h h' own own) (hb : ∀ p ∈ [(x, LV.val d1), (y, LV.val d2)], ∃ v, m' (vN p.1) = some v ∧ ∃ d, p.2 = .val d ∧ At g h own v d) :
  ∀ p ∈ [(x, LV.val d1), (y, LV.val d2)], p.1 ∈ [x, y] /\ p.1 < 48 /\ ∃ v d, m' (vN p.1) = some v /\ p.2 = .val d /\ At g h' own v d := λp hp => by
 obtain ⟨v, e1, d, e2, e3⟩ := hb p hp
 refine ⟨?_, ?_, v, d, e1, e2, At.mono L e3⟩
 ·rcases List.mem_cons.mp hp with q | q
  ·rw [q]; exact .head _
  ·rw [List.mem_singleton.mp q]; exact .tail _ (.head _)
 ·rcases List.mem_cons.mp hp with q | q
  ·rw [q]; exact hx
  ·rw [List.mem_singleton.mp q]; exact hy
theorem enum_blk {Q : Value → Shared → Prop} {E : Value → Shared → Prop} {scc : Scope} {iter : Expr} {vs : List Value} {ds : List D} {m₁ : Str → Option Value} {own₁ : Addr → Tag} {h₁ : Heap} {tk₁ : Tok} {p1 p2 p3 p4 p5 p6 p7 p8 p9 p10 pos : Pos} {k1 k2 k3 : Nat} (hh : A.handled = none) (r : R g own env l σ s.heap) (hs : ScOf sc env) (hcc : ScC sc scc [26, 25] []) (ihe : EvOk g C k A 14)
  (hf : own la = .fz) (z : s.heap.PlainList la vs.toArray) (hl : AtL g s.heap own vs ds) (hat : ∀ (j : Nat) (d : D), ds[j]? = some d -> ∃ (nm : Nat) (dr : List D), d = .tup (.str nm :: dr) /\ ks[j]? = some nm /\ ns[j]? = some (D.int (-1 - (j : Int)))) (hks : ks.length = ds.length) (hns : ns.length = ds.length) (hlen : ds.length <= 100) (hnd : ks.Nodup) (hk39 : ∀ k ∈ ks, k < 39)
  (fI : s.heap.get? ia = none) (fE : s.heap.get? ea = none) (nID : ia ≠ Da) (nED : ea ≠ Da) (nIE : ea ≠ ia) (I₁ : EnS g own s.heap la ia ea Da Ca σ ks ns 0 0 own₁ h₁ m₁)
  (KK : ∀ (h₂ : Heap) tk₂ m, h₂.Ns Ca m -> (∀ h₇, Heap.SameBut Ca h₂ h₇ -> ∃ own₇ xs, Ext own own₇ s.heap h₇ /\ RG g own₇ σ h₇ /\ own₇ Da = .fz /\ ks.length = xs.length /\ h₇.DictOf (strKind g.prog g.w) Da ((ks.map sN).zip xs) /\ AtL g h₇ own₇ xs ns) -> compPost (model g.prog g.w) A E none Q (.ref Da) Ca (.ok .next) { s with heap := h₂, toks := tk₂ }) :
  codeAny (model g.prog g.w) A (.compStart (.DictComp (.Subscript (.Name (vN 25) p1) (.Constant (.int 0) k1 p2) p3) (.BinOp (.UnaryOp .USub (.Constant (.int 1) k2 p4) p5) .Sub (.Name (vN 26) p6) p7) [⟨.Tuple [.Name (vN 26) p8, .Name (vN 25) p9] k3 p10, iter, [], 0⟩] scc pos) 0 (.ref ea) (.ref Da) (compEnvC scc (closL env scc.names []) Ca env)) (compPost (model g.prog g.w) A E none Q (.ref Da) Ca) { s with heap := h₁, toks := tk₁ } := by
 have loop : ∀ tk₀ : Nat, codeAny (model g.prog g.w) A (.compLoop (.DictComp (.Subscript (.Name (vN 25) p1) (.Constant (.int 0) k1 p2) p3) (.BinOp (.UnaryOp .USub (.Constant (.int 1) k2 p4) p5) .Sub (.Name (vN 26) p6) p7) [⟨.Tuple [.Name (vN 26) p8, .Name (vN 25) p9] k3 p10, iter, [], 0⟩] scc pos) 0 (.ref ea) (.ref Da) (compEnvC scc (closL env scc.names []) Ca env)) (compPost (model g.prog g.w) A E none Q (.ref Da) Ca) { s with heap := h₁, toks := tk₀ } := λtk₀ => by
  refine dict_abs (EnI g own s la ia ea Da Ca σ ks ns ds.length) (λk s' hI N E' kn ks' => ?_) (ds.length + 1) ⟨0, own₁, m₁, h₁, tk₀, rfl, rfl, Nat.zero_le _, I₁⟩
  revert kn ks'
  refine hI.elim λi own' m h3 tk hi I kn ks' => ?_
  obtain ⟨old, e3⟩ := I.en
  obtain ⟨oD, B⟩ := I.blk
  have z3 : h3.IsList la vs.toArray := list_keep (λo e => B.ext.objs _ _ e (by rw [inner_hot (by rw [hf]; rfl), hf]; rfl)) (PlainList.is z)
  by_cases hlt : i < ds.length
  ·obtain ⟨nm, dr, e, hk, hn⟩ := hat i _ (List.getElem?_eq_getElem hlt)
   obtain ⟨v, hv, yv⟩ := hl.get (List.getElem?_eq_getElem hlt)
   rw [e] at yv
   refine wpAny_pyNext_enum_item (s := { s with heap := h3, toks := tk }) (x := v) e3 I.it z3 ((List.getElem?_toArray ..).trans hv) nIE λh4 heo4 hit4 htup4 hz4 hk4 => ks' _ _ λE1 J kJ => wpAny_letOwnedTupleGo_enum (s := { s with heap := h4, toks := tk + 1 }) heo4 λh5 he5 hs5 => ?_
   obtain ⟨I5, y5⟩ := I.mid r.toRG fI fE nID nED nIE hit4 htup4 hk4 he5 hs5 yv
   obtain ⟨oD5, B5⟩ := I5.blk
   refine assign_ok (g := g) (s := { s with heap := h5, toks := tk + 1 }) (m := m) (b := [(26, .val (.int (i : Int))), (25, .val (.tup (.str nm :: dr)))]) hh (IsT.two (by decide) (by decide) (by decide +kernel)) rfl hcc.kind (λt ht => lookup_relabel_local (hcc.loc t ht)) y5 B5.ns λh6 tk6 m6 hn6 hk6 hb6 hm6 => ?_
   have I6 := I5.names hn6 (λb o hb e => hk6 b o hb e)
   obtain ⟨oD6, B6⟩ := I6.blk
   have L6 : Le h5 h6 (upd own' h3.objs.size .fz) (upd own' h3.objs.size .fz) := le_of (λb o hb e => hk6 b o (λ(q : b = Ca) => by rw [q, B6.tC] at hb; cases hb) e) λ_ _ => rfl
   have R6 := B6.R r hs hcc (two_loc (b := []) (l := []) (by decide) (by decide) L6 hb6)
   refine ihe ([(26, .val (.int (i : Int))), (25, .val (.tup (.str nm :: dr)))] ++ capt l []) σ (.idx (.var 25) (.cst (.int 0))) (.str nm) σ _ _ _ _ { s with heap := h6, toks := tk6 } rfl (.mk (.idx (λ_ _ => rfl) (.mk (.var (by decide +kernel))) (.mk .int))) (ScOf.comp (scc := scc)) R6 _ _ λkv h7 tk7 own7 x7 r7 yk => ?_
   refine ihe ([(26, .val (.int (i : Int))), (25, .val (.tup (.str nm :: dr)))] ++ capt l []) σ (.bin .Sub (.neg (.cst (.int 1))) (.var 26)) (.int (-1 - (i : Int))) σ _ _ _ own7 { s with heap := h7, toks := tk7 } rfl (.mk (.bin (.mk (.neg (.mk .int))) (.mk (.var (by decide +kernel))))) (ScOf.comp (scc := scc)) (R6.ext x7 r7) _ _ λvv h8 tk8 own8 x8 r8 yv => ?_
   exact ((I6.eval x7 r7).eval x8 r8).put (s := { s with heap := h8, toks := tk8 }) nID nED (At.mono (x8.le r7) yk) yv hk hn hnd hk39 (Nat.le_trans hi hlen) λh9 tk9 I9 => kJ _ (ds.length + 1 - (i + 1)) (Nat.sub_lt_sub_left (Nat.lt_succ_of_lt hlt) (Nat.lt_succ_self _)) ⟨i + 1, own8, m6, h9, tk9, rfl, rfl, hlt, I9⟩
  ·cases Nat.le_antisymm hi (Nat.not_lt.mp hlt)
   refine wpAny_pyNext_enum_end (s := { s with heap := h3, toks := tk }) hh e3 I.it z3 (by rw [List.getElem?_toArray, List.getElem?_eq_none_iff, hl.length]; exact Nat.le_refl _) λh4 hk4 => kn _ ?_
   have k4 : ∀ {b o}, b ≠ ia -> h3.get? b = some o -> h4.get? b = some o := λhb e => hk4 _ _ hb e
   have B4 : Blk g own own' s.heap h4 Da Ca σ m oD := B.free (λb o hb e => k4 (λq => hb (by rw [q]; exact I.tI)) e) (λb o o' e0 _ e => k4 (λq => by rw [q, fI] at e0; cases e0) e) (k4 (Ne.symm nID) B.acc)
   refine KK h4 tk m B4.ns λh₇ hs₇ => ?_
   obtain ⟨own₇, x₇, r₇, t₇, a₇, L₇, _⟩ := B4.out r.toRG hs₇
   obtain ⟨xs, q1, q2, q3⟩ := I.di
   rw [<- hks, List.take_length] at q2
   rw [<- hns, List.take_length] at q3
   refine ⟨own₇, xs, x₇, r₇, t₇, hks.trans q1.symm, dict_keep (λo ho => ?_) q2, AtL.mono L₇ (AtL.mono (le_of (λb o hb e => k4 (λq => by rw [q, I.tI] at hb; cases hb) e) λ_ _ => rfl) q3)⟩
   cases Option.some.inj (B.acc.symm.trans ho)
   exact a₇
 obtain ⟨old, e⟩ := I₁.en
 exact codeAny_compStart_dict (loop _) (wpAny_pyIter_enum (s := { s with heap := h₁, toks := _ }) e (loop _))
theorem enum_ok {e : Expr} {c : Addr} {fs : List Nat} {fd : List D} {ds : List D} (S : St g) (hc : COk g C k) (ca : CA A k) (hs : ScOf sc env) (r : R g own env l σ s.heap) (he : EnumE sc e) (h22 : l.lookup 22 = some (.val (.inst c fs fd))) (hl2 : lookD fs fd 2 = some (.list ds)) (hlen : ds.length ≤ 100)
  (hd : numsRun 0 ds = some (ks, ns)) (hnd : ks.Nodup) (hk39 : ∀ k ∈ ks, k < 39) : Gives g A own s (eval e env) (.dict ks ns) σ := λQ E K => by
 have ihe := (ev_ok S hc ca 14).1
 cases he with
 | mk hcc hge hce hst hat =>
 rename_i scc p1 p2 p3 p4 p5 p6 p7 p8 p9 p10 p11 p12 p13 p14 pos k1 k2 k3
 rw [arm_eval_DictComp]
 refine wpAny_comprehension_free (use := none) (g := ⟨_, _, [], 0⟩) (gs := []) rfl (λ_ => rfl) (closure_ok r hs hcc rfl) hcc.kind hcc.nm ?_
 have hev : ev C 14 l σ (.attr (.var 22) 2) = some (.list ds, σ) := bindS (ev_var h22) (bindS hl2 rfl)
 refine call1 (x := .attr (.var 22) 2) S ihe hs r hce hst (.mk (.attr hat (.mk (.var (by decide +kernel))))) hge (by decide +kernel) S.b_enum (.inr ⟨_, rfl⟩) hev λw h' tk' own0 x0 r0 y0 => ?_
 have rr := r.ext x0 r0
 refine y0.list_e λla vs hf z hl => ?_
 refine call_enumerate_list (s := { s with heap := h', toks := tk' }) (PlainList.is z) λh2 he2 hit2 hz2 hk2 => ?_
 refine wpAny_pyIter_enum (s := { s with heap := h2, toks := tk' }) he2 ?_
 refine wpAny_newObj_type (T := "dict") (data := .dict #[]) ?_ (Nat.zero_le _)
 refine block_in (s := { s with heap := h2, toks := tk' }) rfl rr hcc (λb o e => hk2 b o e) (by show h'.objs.size <= h2.objs.size; rw [hz2]; exact Nat.le_add_right _ _) λh₁ tk₁ m₁ B₁ old₁ => ?_
 have hz2 : h2.objs.size = h'.objs.size + 1 + 1 := hz2
 have lt1 : h'.objs.size < h2.objs.size := by rw [hz2]; exact Nat.lt_succ_of_lt (Nat.lt_succ_self _)
 have lt2 : h'.objs.size + 1 < h2.objs.size := by rw [hz2]; exact Nat.lt_succ_self _
 have fE : h'.get? (h'.objs.size + 1) = none := none_of_le (Nat.le_succ _)
 have no : ∀ {a}, a < h2.objs.size -> h'.get? a = none -> upd (inner own0) (h2.objs.size + 1) .fr a = .no := λ{a} hlt e => by
  rw [upd_ne (Nat.ne_of_lt (Nat.lt_succ_of_lt hlt))]
  have : own0 a = .no := by
   cases q : own0 a with
   | no => rfl
   | _ => obtain ⟨o, e'⟩ := r0.lt a (by rw [q]; intro z; cases z); rw [e] at e'; cases e'
  unfold inner; rw [this]; rfl
 obtain ⟨n1, n2, n3⟩ := nums_at hd
 refine enum_blk (s := { s with heap := h', toks := tk' }) (own := own0) (la := la) ca.hd rr hs hcc ihe hf z hl (λj d hj => ?_) n1 n2 hlen hnd hk39 (size_none _) fE (Nat.ne_of_lt lt1) (Nat.ne_of_lt lt2) (Nat.ne_of_gt (Nat.lt_succ_self _))
  ⟨⟨.none, old₁ _ _ he2⟩, hit2.elim λo q => ⟨o, old₁ _ _ q.1, q.2⟩, ⟨_, B₁⟩, ⟨[], rfl, dict_nil B₁.acc, .nil⟩, no lt1 (size_none _), no lt2 fE⟩ λh₂ tk₂ m hn fin => ⟨m, hn, λh₇ hs₇ => ?_⟩
 ·obtain ⟨nm, dr, q1, q2, q3⟩ := n3 j d hj
  rw [Nat.zero_add] at q3
  exact ⟨nm, dr, q1, q2, q3⟩
 ·obtain ⟨own₇, xs, x₇, r₇, t₇, e1, e2, e3⟩ := fin h₇ hs₇
  refine K _ h₇ _ own₇ (x0.trans x₇) r₇ (.dict (vs := xs) t₇ ?_ hk39 e1 e2 e3)
  obtain ⟨so, hso⟩ := S.sysm
  exact beq_eq_false_iff_ne.mpr λq => absurd (Heap.lt_size (rr.toRG.base _ _ hso).1) (by rw [<- q]; exact Nat.not_lt.mpr (Nat.le_of_lt lt1))
end
inductive IR where
 | par (x : Str) | dict | list
inductive InitSt (a : Str) : IR -> Stmt -> Prop
 | par {x : Str} {p1 p2 p3 p4 : Pos} : InitSt a (.par x) (.Assign [.Attribute (.Name "self" p1) a p2] (.Name x p3) p4)
 | dict {p1 p2 p3 p4 : Pos} : InitSt a .dict (.Assign [.Attribute (.Name "self" p1) a p2] (.Dict [] [] p3) p4)
 | list {p1 p2 p3 p4 : Pos} : InitSt a .list (.Assign [.Attribute (.Name "self" p1) a p2] (.List [] p3) p4)
inductive InitB : List (Str × IR) -> List Stmt -> Prop
 | nil : InitB [] []
 | cons {a : Str} {r : IR} {st : Stmt} {ps : List (Str × IR)} {ss : List Stmt} : InitSt a r st -> InitB ps ss -> InitB ((a, r) :: ps) (st :: ss)
abbrev emptyL : Obj := { cls := .type "list", data := .seq ([] : List Value).toArray }
noncomputable def IVal (m : Str -> Option Value) (rest : List (Addr × Obj)) : IR -> Value -> Prop
 | .par x, v => m x = some v
 | .dict, v => ∃ a, v = .ref a /\ (a, emptyDict) ∈ rest
 | .list, v => ∃ a, v = .ref a /\ (a, emptyL) ∈ rest
def Apart (dn : List (Str × IR)) (es : List DictEntry) : Prop := ∀ p ∈ dn, ∀ q ∈ dn, p.1 ≠ q.1 -> p.2 = .dict -> q.2 = .dict -> ∀ a b, getL p.1 es = some (some (.ref a)) -> getL q.1 es = some (some (.ref b)) -> a ≠ b
structure ClsK (K : Frag) (C fI : Addr) (names : List Str) : Prop where
 mkC : makesIn K C = true
 ini : findIn K (.ref C) "__init__" = some (some (.ref fI))
 fn : typeIn K (.ref fI) = some (.type "function")
 sa : findIn K (.ref C) "__setattr__" = some (some (.builtin "object.__setattr__"))
 po : plainOver K C = true
 hd : hasDictIn K C = true
 tk : ∀ a ∈ names, takerIn K C a = some none
theorem isStr_self (a : Str) (t : Tok) : (Value.str a t).isStr a = true := beq_self_eq_true a
theorem isStr_eq {v : Value} {a b : Str} (h1 : v.isStr a = true) (h2 : v.isStr b = true) : a = b := by
 cases v with
 | str x t => exact (eq_of_beq h1).symm.trans (eq_of_beq h2)
 | _ => exact nB h1
section
variable {a b : Str} {hs : Int} {t : Tok} {v w : Value} {e : DictEntry} {r : List DictEntry}
theorem getL_hd (h : e.key.isStr a = true) : getL a (e :: r) = some (some e.val) := by unfold getL; rw [List.find?_cons_of_pos (p := λe : DictEntry => e.key.isStr a) h]
theorem getL_some {es : List DictEntry} : getL b es = some (some w) ↔ ∃ e, es.find? (λe => e.key.isStr b) = some e /\ e.val = w := by
 unfold getL
 cases es.find? (λe => e.key.isStr b) with
 | some e => exact ⟨λh => ⟨e, rfl, Option.some.inj (Option.some.inj h)⟩, λ⟨_, h, q⟩ => Option.some.inj h ▸ congrArg (λx => some (some x)) q⟩
 | none => exact ⟨λh => iN h λ_ h => (nomatch h), λ⟨_, h, _⟩ => (nomatch h)⟩
theorem ne_str (h : e.key.isStr b = false) : ¬ (e.key.isStr b = true) := by rw [h]; exact Bool.false_ne_true
theorem getL_tl (h : e.key.isStr b = false) : getL b (e :: r) = some (some w) ↔ getL b r = some (some w) := by rw [getL_some, getL_some, List.find?_cons_of_neg (p := λe : DictEntry => e.key.isStr b) (ne_str h)]
theorem getL_put : ∀ {es : List DictEntry}, getL a (putL a hs (.str a t) v es) = some (some v)
 | [] => getL_hd (isStr_self a t)
 | e :: r => by
  show getL a (if e.key.isStr a = true then ⟨e.hash, e.key, v⟩ :: r else e :: putL a hs (.str a t) v r) = _
  cases q : e.key.isStr a with
  | true => exact getL_hd (e := ⟨e.hash, e.key, v⟩) q
  | false => exact (getL_tl q).mpr getL_put
theorem getL_put_ne (hne : a ≠ b) : ∀ {es : List DictEntry}, getL b es = some (some w) -> getL b (putL a hs (.str a t) v es) = some (some w)
 | [], h => nomatch h
 | e :: r, h => by
  show getL b (if e.key.isStr a = true then ⟨e.hash, e.key, v⟩ :: r else e :: putL a hs (.str a t) v r) = _
  cases q : e.key.isStr b with
  | true =>
   rw [if_neg λq3 => hne (isStr_eq q3 q), getL_hd q, <- h, getL_hd q]
  | false =>
   have h := (getL_tl q).mp h
   cases e.key.isStr a with
   | true => exact (getL_tl (e := ⟨e.hash, e.key, v⟩) q).mpr h
   | false => exact (getL_tl q).mpr (getL_put_ne hne h)
theorem putL_noref : ∀ {es : List DictEntry}, (es.any (·.refKey)) = false -> ((putL a hs (.str a t) v es).any (·.refKey)) = false
 | [], _ => rfl
 | e :: r, h => by
  have h := Bool.or_eq_false_iff.mp h
  show (if e.key.isStr a = true then ⟨e.hash, e.key, v⟩ :: r else e :: putL a hs (.str a t) v r).any _ = _
  cases e.key.isStr a with
  | true => exact Bool.or_eq_false_iff.mpr h
  | false => exact Bool.or_eq_false_iff.mpr ⟨h.1, putL_noref h.2⟩
theorem putL_len {k : Value} : ∀ {es : List DictEntry}, (putL a hs k v es).length <= es.length + 1
 | [] => Nat.le_refl _
 | e :: r => by
  show (if e.key.isStr a = true then ⟨e.hash, e.key, v⟩ :: r else e :: putL a hs k v r).length <= _
  cases e.key.isStr a with
  | true => exact Nat.le_succ _
  | false => exact Nat.succ_le_succ putL_len
theorem getL_isSome {es : List DictEntry} (h : (es.any (·.refKey)) = false) : (getL a es).isSome = true := by
 unfold getL
 cases es.find? (λe => e.key.isStr a) with
 | some e => rfl
 | none => rw [h]; rfl
end
section
variable {prog : Program} {w : World} {A : Around} {s : Shared} {K : Frag} {C fI x dx L : Addr} {h₀ : Heap} {m : Str -> Option Value} {env : Env} {rest rest1 : List (Addr × Obj)} {dn : List (Str × IR)} {es : List DictEntry}
theorem IVal.mono (hs : ∀ q ∈ rest, q ∈ rest1) : ∀ {r : IR} {v : Value}, IVal m rest r v -> IVal m rest1 r v
 | .par _, _, h => h
 | .dict, _, ⟨a, e, hm⟩ => ⟨a, e, hs _ hm⟩
 | .list, _, ⟨a, e, hm⟩ => ⟨a, e, hs _ hm⟩
theorem Apart.put {a : Str} {r : IR} {t : Tok} {hs : Int} {v : Value} (hap : Apart dn es) (hdn : ∀ p ∈ dn, ∃ v, getL p.1 es = some (some v) /\ IVal m rest p.2 v) (hneq : ∀ p ∈ dn, a ≠ p.1) (hfr : r = .dict -> ∀ q ∈ rest, v ≠ .ref q.1) : Apart (dn ++ [(a, r)]) (putL a hs (.str a t) v es) := by
 have old : ∀ p ∈ dn, p.2 = .dict -> ∀ b, getL p.1 (putL a hs (.str a t) v es) = some (some (.ref b)) -> getL p.1 es = some (some (.ref b)) /\ ∃ q ∈ rest, q.1 = b := λp hp hd b hb => (hdn p hp).elim λw h => by
  have e3 : w = .ref b := Option.some.inj (Option.some.inj ((getL_put_ne (hneq p hp) h.1).symm.trans hb))
  have e2 := h.2
  rw [hd] at e2
  exact e2.elim λb' e => ⟨e3 ▸ h.1, _, e.2, Value.ref.inj (e.1.symm.trans e3)⟩
 have new : ∀ p ∈ dn, p.2 = .dict -> r = .dict -> ∀ b1 b2, getL p.1 (putL a hs (.str a t) v es) = some (some (.ref b1)) -> getL a (putL a hs (.str a t) v es) = some (some (.ref b2)) -> b1 ≠ b2 := λp hp hd hr b1 b2 g1 g2 e =>
  (old p hp hd b1 g1).2.elim λq0 h => hfr hr q0 h.1 ((Option.some.inj (Option.some.inj (getL_put.symm.trans g2))).trans (congrArg Value.ref (e.symm.trans h.2.symm)))
 intro p hp q hq hpq hpd hqd b1 b2 g1 g2
 rcases List.mem_append.mp hp with hp | hp <;> rcases List.mem_append.mp hq with hq | hq
 ·exact hap p hp q hq hpq hpd hqd b1 b2 (old p hp hpd b1 g1).1 (old q hq hqd b2 g2).1
 ·have e := List.mem_singleton.mp hq
  subst e
  exact new p hp hpd hqd b1 b2 g1 g2
 ·have e := List.mem_singleton.mp hp
  subst e
  exact (new q hq hqd hpd b2 b1 g2 g1).symm
 ·exact absurd (congrArg Prod.fst ((List.mem_singleton.mp hp).trans (List.mem_singleton.mp hq).symm)) hpq
structure InS (C x dx L : Addr) (h₀ : Heap) (m : Str -> Option Value) (h : Heap) (es : List DictEntry) (n : Nat) (rest : List (Addr × Obj)) (dn : List (Str × IR)) : Prop where
 F : Fr h₀ L h m
 N : News h₀ L h ((x, instObj C dx) :: (dx, dictOf es n) :: rest)
 hr : ∀ q ∈ rest, q.1 ≠ dx
 nr : (es.any (·.refKey)) = false
 hd : ∀ p ∈ dn, ∃ v, getL p.1 es = some (some v) /\ IVal m rest p.2 v
 ap : Apart dn es
theorem InS.push {h : Heap} {n : Nat} (I : InS C x dx L h₀ m h es n rest dn) (o : Obj) (ho : o.isFreed = false) : News h₀ L (h.push o) ((x, instObj C dx) :: (dx, dictOf es n) :: (h.objs.size, o) :: rest) /\ (∀ q ∈ (h.objs.size, o) :: rest, q.1 ≠ dx) := by
 have N' := I.N.push I.F o ho
 refine ⟨List.forall_mem_cons.mpr ⟨N' _ (.tail _ (.head _)), List.forall_mem_cons.mpr ⟨N' _ (.tail _ (.tail _ (.head _))), List.forall_mem_cons.mpr ⟨N' _ (.head _), λp hp => N' p (.tail _ (.tail _ (.tail _ hp)))⟩⟩⟩, List.forall_mem_cons.mpr ⟨?_, I.hr⟩⟩
 exact Nat.ne_of_gt (Heap.lt_size (I.N _ (.tail _ (.head _))).1)
theorem init_run {names : List Str} {Q : Flow → Shared → Prop} {E : Value → Shared → Prop} {ps : List (Str × IR)} {ss : List Stmt} (CK : ClsK K C fI names) (X : K.In h₀) (hxd : x ≠ dx) (kf : env.scope.kind = .function) (el : env.locals = L) (ks : env.kindOf "self" = some .local) (ms : m "self" = some (.ref x)) (hb : InitB ps ss) :
  ∀ {s : Shared} {es : List DictEntry} {n : Nat} {rest : List (Addr × Obj)} {dn : List (Str × IR)}, (∀ p ∈ ps, p.1 ∈ names) → InS C x dx L h₀ m s.heap es n rest dn → es.length + ps.length ≤ 900 → (∀ p ∈ ps, ∀ y, p.2 = .par y → env.kindOf y = some .local ∧ (y == ("__debug__" : Str)) = false ∧ ∃ v, m y = some v) → ((dn ++ ps).map (·.1)).Nodup →
   (∀ h' tk' es' n' rest', InS C x dx L h₀ m h' es' n' rest' (dn ++ ps) -> Q .next { s with heap := h', toks := tk' }) -> wpAny (model prog w) A (execs ss env) Q E s := by
 induction hb with
 | nil =>
  intro s es n rest dn hnm I hz hp nd K
  exact wpAny_execs_nil (K s.heap s.toks es n rest (by rw [List.append_nil]; exact I))
 | cons hst hrest ih =>
  rename_i a r st ps ss
  intro s es n rest dn hnm I hz hp nd Kf
  have hneq : ∀ p ∈ dn, a ≠ p.1 := λp hp' q => by
   rw [List.map_append, List.map_cons, List.nodup_append] at nd
   exact nd.2.2 p.1 (List.mem_map_of_mem hp') a (.head _) q.symm
  have assoc : dn ++ (a, r) :: ps = (dn ++ [(a, r)]) ++ ps := (List.append_assoc dn [(a, r)] ps).symm
  have key : ∀ (p1 : Pos) (h1 : Heap) (tk1 : Nat) (rest1 : List (Addr × Obj)) (v : Value), Fr h₀ L h1 m → News h₀ L h1 ((x, instObj C dx) :: (dx, dictOf es n) :: rest1) → (∀ q ∈ rest1, q.1 ≠ dx) → (∀ q ∈ rest, q ∈ rest1) → IVal m rest1 r v → (r = .dict → ∀ q ∈ rest, v ≠ .ref q.1) →
    wpAny (model prog w) A (eval (.Name "self" p1) env) (fun ov s₂ => wpAny (model prog w) A (setAttr ov a v) (fun _ s₃ => wpAny (model prog w) A (execs ss env) Q E s₃) E s₂) E { s with heap := h1, toks := tk1 } := by
   intro p1 h1 tk1 rest1 v F1 N1 hr1 hsub hv hfr
   refine wpAny_Name (wpAny_loadName_local kf ks (by rw [el]; exact F1.ns) ms ?_) (by decide +kernel)
   have hl := putL_len (a := a) (hs := PyData.keyHash w.params a) (k := .str a (tk1 + 1)) (v := v) (es := es)
   refine set_dict (s := { s with heap := h1, toks := tk1 }) F1 X N1 (InstAt.of_news N1 (.head _) (.tail _ (.head _))) rfl CK.sa CK.po (CK.tk a (hnm _ (.head _))) CK.hd (getL_isSome I.nr) rfl (.tail hxd (.head hr1)) ?_ λh2 F2 N2 => ?_
   ·exact Nat.le_trans hl (Nat.le_trans (Nat.add_le_add_left (Nat.succ_le_succ (Nat.zero_le _)) _) (Nat.le_trans hz (by decide)))
   ·refine ih (s := { s with heap := h2, toks := tk1 + 2 }) (dn := dn ++ [(a, r)]) (λp hp => hnm p (.tail _ hp)) ⟨F2, N2, hr1, putL_noref I.nr, λp hp' => ?_, I.ap.put I.hd hneq hfr⟩ ?_ (λp hp' => hp p (.tail _ hp')) (assoc ▸ nd) λh' tk' es' n' rest' I' => Kf h' tk' es' n' rest' (assoc ▸ I')
    ·exact (List.mem_append.mp hp').elim (λhp' => (I.hd p hp').elim λw' h => ⟨w', getL_put_ne (hneq p hp') h.1, h.2.mono hsub⟩) λhp' => List.mem_singleton.mp hp' ▸ ⟨v, getL_put, hv⟩
    ·exact Nat.le_trans (Nat.add_le_add_right hl _) (Nat.le_trans (Nat.le_of_eq (Nat.succ_add_eq_add_succ _ _)) hz)
  cases hst with
  | par =>
   exact (hp (a, .par _) (.head _) _ rfl).2.2.elim λv hv => wpAny_execs_cons (plainObj_wpAny_Assign_Attribute (wpAny_Name (wpAny_loadName_local kf (hp (a, .par _) (.head _) _ rfl).1 (by rw [el]; exact I.F.ns) hv (key _ s.heap s.toks rest v I.F I.N I.hr (λ_ h => h) hv λq => nomatch q)) (hp (a, .par _) (.head _) _ rfl).2.1) rfl)
  | dict =>
   exact wpAny_execs_cons (plainObj_wpAny_Assign_Attribute (wpAny_Dict_empty (key _ (s.heap.push emptyDict) s.toks ((s.heap.objs.size, emptyDict) :: rest) (.ref s.heap.objs.size) (I.F.push _) (I.push _ rfl).1 (I.push _ rfl).2 (λq hq => .tail _ hq) ⟨_, rfl, .head _⟩ λ_ q hq e =>
    Nat.ne_of_gt (Heap.lt_size (I.N _ (.tail _ (.tail _ hq))).1) (Value.ref.inj e))) rfl)
  | list =>
   exact wpAny_execs_cons (plainObj_wpAny_Assign_Attribute (wpAny_List (spliced_nil ⟨by simp [sizeLine], key _ (s.heap.push emptyL) s.toks ((s.heap.objs.size, emptyL) :: rest) (.ref s.heap.objs.size) (I.F.push _) (I.push _ rfl).1 (I.push _ rfl).2 (λq hq => .tail _ hq) ⟨_, rfl, .head _⟩ λq => nomatch q⟩)) rfl)
end
structure InitAt (g : Gh) (C fI : Addr) (fd : FuncData) (stmts : List Stmt) (ps : List (Str × IR)) (pars : List Str) : Prop where
 obj : ∃ o, g.h₀.get? fI = some o /\ o.data = .func fd
 body : fd.body = .stmts stmts
 ini : InitB ps stmts
 kind : fd.scope.kind = .function
 co : fd.scope.isCoroutine = false
 ge : fd.scope.isGenerator = false
 code : g.h₀.CodeRec fd.code fd.qualname
 bind : ∀ (s : Shared) (x : Addr) (vs : List Value), g.K.In s.heap → vs.length = pars.length → ∃ binds, BindsTo s fd ⟨.ref x :: vs, []⟩ binds ∧ (∀ q ∈ binds, fd.scope.names.lookup q.1 = some .local) ∧ binds.reverse.lookup ("self" : Str) = some (Value.ref x) ∧ (∀ (i : Nat) (y : Str), pars[i]? = some y → binds.reverse.lookup y = vs[i]?) ∧
  ∀ p ∈ ps, ∀ y, p.2 = .par y → fd.scope.names.lookup y = some .local ∧ (y == ("__debug__" : Str)) = false ∧ ∃ v, binds.reverse.lookup y = some v
 nocell : ∀ x ∈ fd.scope.names, x.2 ≠ .cell
 self : fd.scope.names.lookup ("self" : Str) = some NameKind.local
 nd : (ps.map (·.1)).Nodup
 few : ps.length <= 100
 cls : ClsK g.K C fI (ps.map (·.1))
section
variable {g : Gh} {A : Around} {own own' own'' : Addr -> Tag} {s : Shared} {σ σ' σ'' : Sg} {C fI : Addr} {fd : FuncData} {stmts : List Stmt} {ps : List (Str × IR)} {pars : List Str}
theorem class_call {vs : List Value} {Q : Value → Shared → Prop} {E : Value → Shared → Prop} (S0 : St g) (F : InitAt g C fI fd stmts ps pars) (hd : A.depth + 2 < recursionLimit) (hk0 : ∀ b o, g.h₀.get? b = some o → s.heap.get? b = some o) (hlen : vs.length = pars.length)
  (K : ∀ x dx h' tk' es n rest m, (∀ b o, s.heap.get? b = some o -> h'.get? b = some o) -> x ≠ dx -> s.heap.get? x = none -> s.heap.get? dx = none -> h'.get? x = some (instObj C dx) -> h'.get? dx = some (dictOf es n) -> (∀ q ∈ rest, h'.get? q.1 = some q.2 /\ s.heap.get? q.1 = none /\ q.1 ≠ dx) ->
   (∀ (i : Nat) (y : Str), pars[i]? = some y -> m y = vs[i]?) -> (∀ p ∈ ps, ∃ v, getL p.1 es = some (some v) /\ IVal m rest p.2 v) -> Apart ps es -> Q (.ref x) { s with heap := h', toks := tk' }) :
  wpAny (model g.prog g.w) A (call (.ref C) vs []) Q E s := by
 have X : g.K.In s.heap := λa o e => hk0 _ _ (S0.KIn a o e)
 obtain ⟨hh, gn, dr, t, os⟩ := s
 refine wpAny_call (make_core (makes_of X F.cls.mkC) (looks_findIn X F.cls.ini) (λself => bind_fn X self F.cls.fn) (.inl rfl) ?_)
 have k2 : ∀ b o, hh.get? b = some o -> ((hh.push emptyDict).push (instObj C hh.objs.size)).get? b = some o := λb o e => Heap.get?_push_of_some _ (Heap.get?_push_of_some _ e)
 obtain ⟨o, ho, hdat⟩ := F.obj
 have X2 : g.K.In ((hh.push emptyDict).push (instObj C hh.objs.size)) := λa o e => k2 _ _ (X a o e)
 obtain ⟨binds, hb1, hb2, hb3, hb4, hb5⟩ := F.bind ⟨(hh.push emptyDict).push (instObj C hh.objs.size), gn, dr, t, os⟩ (hh.objs.size + 1) vs X2 hlen
 refine codeAny_call_def (fd := fd) (binds := binds) (by show A.depth + 1 < recursionLimit; lia) (k2 _ _ (hk0 _ _ ho)) hdat (S0.lim.keeps λb o e => k2 _ _ (hk0 b o e)) ?_ F.body hb1 F.nocell hb2 ?_ F.co F.ge F.kind
 ·obtain ⟨c, oc, fs, t, e1, e2, e3, e4⟩ := F.code; exact ⟨c, oc, fs, t, e1, k2 _ _ (hk0 _ _ e2), e3, e4⟩
 intro h₀ hns hk
 have hz : ((hh.push emptyDict).push (instObj C hh.objs.size)).objs.size = hh.objs.size + 2 := by rw [Heap.size_push, Heap.size_push]
 have eD : ((hh.push emptyDict).push (instObj C hh.objs.size)).get? hh.objs.size = some emptyDict := Heap.get?_push_of_some _ (Heap.get?_push_size _ rfl)
 have eX : ((hh.push emptyDict).push (instObj C hh.objs.size)).get? (hh.objs.size + 1) = some (instObj C hh.objs.size) := by
  have := Heap.get?_push_size (hh.push emptyDict) (o := instObj C hh.objs.size) rfl
  rw [Heap.size_push] at this; exact this
 have fr : ∀ a, hh.objs.size <= a -> hh.get? a = none := λa ha => none_of_le ha
 have FR : Fr hh ((hh.push emptyDict).push (instObj C hh.objs.size)).objs.size h₀ (λx => binds.reverse.lookup x) := ⟨hns, λb o e => hk _ _ (k2 b o e), by rw [hz]; exact Nat.le_add_right _ _⟩
 have N : News hh ((hh.push emptyDict).push (instObj C hh.objs.size)).objs.size h₀ ((hh.objs.size + 1, instObj C hh.objs.size) :: (hh.objs.size, dictOf [] 0) :: []) := by
  intro p hp
  rcases List.mem_cons.mp hp with rfl | hp
  ·exact ⟨hk _ _ eX, by rw [hz]; exact Nat.ne_of_lt (Nat.lt_succ_self _), fr _ (Nat.le_succ _)⟩
  ·rcases List.mem_singleton.mp hp with rfl
   exact ⟨hk _ _ eD, by rw [hz]; exact Nat.ne_of_lt (Nat.lt_succ_of_lt (Nat.lt_succ_self _)), fr _ (Nat.le_refl _)⟩
 refine init_run F.cls X (Nat.ne_of_gt (Nat.lt_succ_self _)) F.kind rfl (by exact F.self) hb3 F.ini (dn := []) (λp hp => List.mem_map_of_mem hp) ⟨FR, N, (λq hq => (nomatch hq)), rfl, (λp hp => (nomatch hp)), λp hp => (nomatch hp)⟩ (by have := F.few; simp only [List.length_nil]; lia) (λp hp y e => hb5 p hp y e) F.nd λh' tk' es' n' rest' I => ?_
 exact ⟨rfl, K (hh.objs.size + 1) hh.objs.size h' tk' es' n' rest' _ (λb o e => I.F.keep b o e) (Nat.ne_of_gt (Nat.lt_succ_self _)) (fr _ (Nat.le_succ _)) (fr _ (Nat.le_refl _)) (I.N _ (.head _)).1 (I.N _ (.tail _ (.head _))).1 (λq hq => ⟨(I.N _ (.tail _ (.tail _ hq))).1, (I.N _ (.tail _ (.tail _ hq))).2.2, I.hr q hq⟩) hb4 I.hd I.ap⟩
theorem handed_at {h : Heap} {v : Value} {d : D} (y : At g h own v d) : handedIn v = true := by induction y using At.casesOn <;> rfl
theorem class_plain {vs : List Value} {ds : List D} {ks : List Nat} {ix : List Nat} (S0 : St g) (F : InitAt g C fI fd stmts ps pars) (hd : A.depth + 2 < recursionLimit) (r : RG g own σ s.heap) (y : AtL g s.heap own vs ds) (hlen : ds.length = pars.length) (ok : clsOk g.K C) (hx : ∀ x ∈ ks, x < 21)
  (hix : ix.length = ks.length) (hsel : ∀ (j i k : Nat), ix[j]? = some i -> ks[j]? = some k -> pars[i]? = some (aN k) /\ (aN k, IR.par (aN k)) ∈ ps) : Gives g A own s (call (.ref C) vs []) (.inst C ks (ix.map λi => ds.getD i .none)) σ := λQ E K => by
 have hvl := y.length
 refine class_call S0 F hd (λb o e => (r.base b o e).1) (by rw [hvl]; exact hlen) λx dx h' tk' es n rest m hk hxd fx fdx ex ed hrest hm hall hap => ?_
 let own1 : Addr -> Tag := upd (upd own dx .fz) x .fz
 have old : ∀ b o, s.heap.get? b = some o -> own1 b = own b := λb o e => by
  show upd _ _ _ b = _
  rw [upd_ne (λq => by rw [q, fx] at e; cases e), upd_ne (λq => by rw [q, fdx] at e; cases e)]
 have x1 : Ext own own1 s.heap h' := ⟨old, λb o e _ => hk b o e, λb o e => ⟨o, hk b o e⟩⟩
 have alt : ∀ b, own1 b = .fz \/ own1 b = own b := λb => by
  show upd _ _ _ b = _ \/ upd _ _ _ b = _
  unfold upd
  split
  ·exact .inl rfl
  ·split
   ·exact .inl rfl
   ·exact .inr rfl
 have r1 : RG g own1 σ h' := r.keepAll x1 hk (λb hb => by
  by_cases q1 : b = x
  ·rw [q1]; exact ⟨_, ex⟩
  ·by_cases q2 : b = dx
   ·rw [q2]; exact ⟨_, ed⟩
   ·have : own1 b = own b := by show upd _ _ _ b = _; rw [upd_ne q1, upd_ne q2]
    rw [this] at hb; obtain ⟨o, e⟩ := r.lt b hb; exact ⟨o, hk b o e⟩) λb hb => by
  rcases alt b with q | q
  ·rw [q] at hb; cases hb
  ·exact q.symm
 have tx : own1 x = .fz := upd_self
 have tdx : own1 dx = .fz := by show upd _ _ _ dx = _; rw [upd_ne (Ne.symm hxd)]; exact upd_self
 have y1 := AtL.mono (x1.le r) y
 have sel : ∀ (ix ks : List Nat), ix.length = ks.length -> (∀ (j i k : Nat), ix[j]? = some i -> ks[j]? = some k -> pars[i]? = some (aN k) /\ (aN k, IR.par (aN k)) ∈ ps) -> ∃ ws, FieldsAre ks ws es /\ (∀ v ∈ ws, handedIn v = true) /\ ks.length = ws.length /\ AtL g h' own1 ws (ix.map λi => ds.getD i .none) := by
  intro ix
  induction ix with
  | nil => intro ks hl _; cases ks with
   | nil => exact ⟨[], λi k v h => by simp at h, (λv hv => by cases hv), rfl, .nil⟩
   | cons _ _ => simp at hl
  | cons i ix ih =>
   intro ks hl hs
   cases ks with
   | nil => simp at hl
   | cons k ks =>
    obtain ⟨ws, f1, f2, f3, f4⟩ := ih ks (by simpa using hl) λj i' k' a b => hs (j + 1) i' k' (by simpa using a) (by simpa using b)
    obtain ⟨e1, e2⟩ := hs 0 i k rfl rfl
    have hi : i < ds.length := by rw [hlen]; obtain ⟨q, _⟩ := List.getElem?_eq_some_iff.mp e1; exact q
    obtain ⟨w, hw, yw⟩ := y1.get (i := i) (d := ds[i]) (by simp [hi])
    obtain ⟨w', g1, g2⟩ := hall _ e2
    have g2' : m (aN k) = some w' := g2
    rw [hm i _ e1, hw] at g2'
    cases g2'
    refine ⟨w :: ws, λj k' v hk' hv => ?_, λv hv => ?_, by simp [f3], ?_⟩
    ·cases j with
     | zero => simp at hk' hv; subst hk' hv; exact g1
     | succ j => exact f1 j k' v (by simpa using hk') (by simpa using hv)
    ·rcases List.mem_cons.mp hv with rfl | hv
     ·exact handed_at yw
     ·exact f2 v hv
    ·rw [List.map_cons]
     have : ds.getD i .none = ds[i] := by simp [List.getD, hi]
     rw [this]; exact .cons yw f4
 obtain ⟨ws, f1, f2, f3, f4⟩ := sel ix ks hix hsel
 exact K _ h' tk' own1 x1 r1 (.inst ok hx tx tdx ex ed f1 f2 f3 f4)
theorem class_world {vs : List Value} {ds : List D} (S0 : St g) (F : InitAt g C fI fd stmts ps pars) (hd : A.depth + 2 < recursionLimit) (r : RG g own σ s.heap) (y : AtL g s.heap own vs ds) (hlen : ds.length = pars.length) (ok : clsOk g.K C) (had : σ.ad = none) (htr : σ.tr = none)
  (h0 : (aN 0, IR.dict) ∈ ps) (h1 : (aN 1, IR.dict) ∈ ps) : Gives g A own s (call (.ref C) vs []) (.inst C [0, 1] [.adts, .trs]) { σ with ad := some ([], []), tr := some ([], []) } := λQ E K => by
 have hvl := y.length
 refine class_call S0 F hd (λb o e => (r.base b o e).1) (by rw [hvl]; exact hlen) λx dx h' tk' es n rest m hk hxd fx fdx ex ed hrest hm hall hap => ?_
 obtain ⟨v0, g0, a0, rfl, m0⟩ := hall _ h0
 obtain ⟨v1, g1, a1, rfl, m1⟩ := hall _ h1
 have n01 : a0 ≠ a1 := hap _ h0 _ h1 (by decide +kernel) rfl rfl a0 a1 g0 g1
 obtain ⟨e0, f0, d0⟩ := hrest _ m0
 obtain ⟨e1, f1, d1⟩ := hrest _ m1
 simp only at e0 f0 d0 e1 f1 d1
 have nx0 : x ≠ a0 := λq => by rw [q, e0] at ex; cases ex
 have nx1 : x ≠ a1 := λq => by rw [q, e1] at ex; cases ex
 let own1 : Addr -> Tag := λb => if b = x then .fz else if b = dx then .fz else if b = a0 then .ad else if b = a1 then .tr else own b
 have tx : own1 x = .fz := if_pos rfl
 have tdx : own1 dx = .fz := by show (if dx = x then _ else _) = _; rw [if_neg (Ne.symm hxd), if_pos rfl]
 have t0 : own1 a0 = .ad := by show (if a0 = x then _ else _) = _; rw [if_neg (Ne.symm nx0), if_neg d0, if_pos rfl]
 have t1 : own1 a1 = .tr := by show (if a1 = x then _ else _) = _; rw [if_neg (Ne.symm nx1), if_neg d1, if_neg (Ne.symm n01), if_pos rfl]
 have toth : ∀ b, b ≠ x -> b ≠ dx -> b ≠ a0 -> b ≠ a1 -> own1 b = own b := λb h1 h2 h3 h4 => by show (if b = x then _ else _) = _; rw [if_neg h1, if_neg h2, if_neg h3, if_neg h4]
 have old : ∀ b o, s.heap.get? b = some o -> own1 b = own b := λb o e => toth b (λq => by rw [q, fx] at e; cases e) (λq => by rw [q, fdx] at e; cases e) (λq => by rw [q, f0] at e; cases e) (λq => by rw [q, f1] at e; cases e)
 have x1 : Ext own own1 s.heap h' := ⟨old, λb o e _ => hk b o e, λb o e => ⟨o, hk b o e⟩⟩
 have nad : ∀ a, own a ≠ .ad := λa ha => by obtain ⟨p, e, _⟩ := r.shr.ad a ha; rw [had] at e; cases e
 have ntr : ∀ a, own a ≠ .tr := λa ha => by obtain ⟨p, e, _⟩ := r.shr.tr a ha; rw [htr] at e; cases e
 have L := x1.le r
 have bk : ∀ b t, own1 b = t -> t ≠ .fz -> t ≠ .ad -> t ≠ .tr -> own b = t := λb t e n1 n2 n3 => by
  by_cases q1 : b = x
  ·rw [q1, tx] at e; exact absurd e.symm n1
  ·by_cases q2 : b = dx
   ·rw [q2, tdx] at e; exact absurd e.symm n1
   ·by_cases q3 : b = a0
    ·rw [q3, t0] at e; exact absurd e.symm n2
    ·by_cases q4 : b = a1
     ·rw [q4, t1] at e; exact absurd e.symm n3
     ·rw [toth b q1 q2 q3 q4] at e; exact e
 have isad : ∀ b, own1 b = .ad -> b = a0 := λb e => by
  by_cases q3 : b = a0
  ·exact q3
  ·exfalso
   by_cases q1 : b = x
   ·rw [q1, tx] at e; cases e
   ·by_cases q2 : b = dx
    ·rw [q2, tdx] at e; cases e
    ·by_cases q4 : b = a1
     ·rw [q4, t1] at e; cases e
     ·rw [toth b q1 q2 q3 q4] at e; exact nad b e
 have istr : ∀ b, own1 b = .tr -> b = a1 := λb e => by
  by_cases q4 : b = a1
  ·exact q4
  ·exfalso
   by_cases q1 : b = x
   ·rw [q1, tx] at e; cases e
   ·by_cases q2 : b = dx
    ·rw [q2, tdx] at e; cases e
    ·by_cases q3 : b = a0
     ·rw [q3, t0] at e; cases e
     ·rw [toth b q1 q2 q3 q4] at e; exact ntr b e
 have dic : ∀ a, h'.get? a = some emptyDict -> DicAt g own1 (some ([], [])) h' a := λa e => ⟨_, rfl, (λk h => by cases h), [], rfl, ⟨_, _, _, e, ⟨rfl, rfl, rfl⟩, rfl, (λe h => by simp at h), .nil, by simp⟩, .nil⟩
 have r1 : RG g own1 { σ with ad := some ([], []), tr := some ([], []) } h' := by
  refine ⟨λb o e => ⟨hk _ _ (r.base b o e).1, (old b o (r.base b o e).1).trans (r.base b o e).2⟩, λb hb => ?_, λP q e => (r.tb P q e).mono L (r.tag x1 (r.tb P q e).1 (by intro z; cases z)) (λo ho => hk _ _ ho),
   ⟨λb e => (r.shr.src b (bk b _ e (by intro z; cases z) (by intro z; cases z) (by intro z; cases z))).mono L (λo ho => hk _ _ ho) rfl, λb e => by rw [isad b e]; exact dic _ e0, λb e => by rw [istr b e]; exact dic _ e1, λb e => (r.shr.ac b (bk b _ e (by intro z; cases z) (by intro z; cases z) (by intro z; cases z))).mono L (λo ho => hk _ _ ho) rfl, λa b ha e => ?_⟩⟩
  ·by_cases q1 : b = x
   ·rw [q1]; exact ⟨_, ex⟩
   ·by_cases q2 : b = dx
    ·rw [q2]; exact ⟨_, ed⟩
    ·by_cases q3 : b = a0
     ·rw [q3]; exact ⟨_, e0⟩
     ·by_cases q4 : b = a1
      ·rw [q4]; exact ⟨_, e1⟩
      ·rw [toth b q1 q2 q3 q4] at hb; obtain ⟨o, e⟩ := r.lt b hb; exact ⟨o, hk b o e⟩
  ·cases q : own1 a with
   | ad => rw [isad a q, isad b (e ▸ q)]
   | tr => rw [istr a q, istr b (e ▸ q)]
   | src => exact r.shr.one a b (by rw [bk a _ q (by intro z; cases z) (by intro z; cases z) (by intro z; cases z)]; rfl) ((bk a _ q (by intro z; cases z) (by intro z; cases z) (by intro z; cases z)).trans (bk b _ (e ▸ q) (by intro z; cases z) (by intro z; cases z) (by intro z; cases z)).symm)
   | ac => exact r.shr.one a b (by rw [bk a _ q (by intro z; cases z) (by intro z; cases z) (by intro z; cases z)]; rfl) ((bk a _ q (by intro z; cases z) (by intro z; cases z) (by intro z; cases z)).trans (bk b _ (e ▸ q) (by intro z; cases z) (by intro z; cases z) (by intro z; cases z)).symm)
   | _ => rw [q] at ha; cases ha
 refine K _ h' tk' own1 x1 r1 (.inst (vs := [.ref a0, .ref a1]) ok (by decide) tx tdx ex ed (λi k v hki hv => ?_) (λv hv => by rcases List.mem_cons.mp hv with rfl | hv; rfl; rcases List.mem_singleton.mp hv with rfl; rfl) rfl (.cons (.adts t0) (.cons (.trs t1) .nil)))
 match i, hki, hv with
 | 0, hki, hv => simp at hki hv; subst hki hv; exact g0
 | 1, hki, hv => simp at hki hv; subst hki hv; exact g1
 | i + 2, hki, hv => simp at hki
end
end Mine
end
section
open PySem PySem.W PySem.Calls PyProof.Rows PySem.SeqAt
set_option maxRecDepth 100000
set_option maxHeartbeats 4000000
namespace Mine
noncomputable def parOf (k : Nat) : Str × IR := (aN k, .par (aN k))
noncomputable def psAdt : List (Str × IR) := [parOf 5, parOf 6, parOf 3, parOf 2, parOf 4, parOf 7, parOf 8]
noncomputable def prAdt : List Str := [aN 5, aN 3, aN 2, aN 4, aN 8]
noncomputable def psSig : List (Str × IR) := [parOf 5, parOf 3, parOf 2, parOf 9, parOf 10, parOf 11, parOf 12, parOf 13]
noncomputable def prSig : List Str := [aN 5, aN 3, aN 2, aN 9, aN 10, aN 11, aN 12, aN 13]
noncomputable def psTr : List (Str × IR) := [parOf 5, parOf 2, parOf 14, parOf 15]
noncomputable def prTr : List Str := [aN 5, aN 2, aN 14, aN 15]
noncomputable def psW : List (Str × IR) := [parOf 16, (aN 0, .dict), (aN 4, .dict), (aN 17, .dict), (aN 1, .dict), (aN 18, .list), (aN 19, .dict), (aN 20, .dict)]
noncomputable def prW : List Str := [aN 16]
theorem all_ps {α : Type} {p : α -> Prop} {a : α} {l : List α} (h : p a) (t : ∀ x ∈ l, p x) : ∀ x ∈ a :: l, p x := λx hx => by
 rcases List.mem_cons.mp hx with rfl | hx
 ·exact h
 ·exact t x hx
theorem all_nil {α : Type} {p : α -> Prop} : ∀ x ∈ ([] : List α), p x := λ_ h => nomatch h
section
variable {g : Gh}
theorem clsK {p : Params} (hK : g.K = heapL p) {C fI : Addr} {names : List Str} (h1 : makesIn (heapL p) C = true) (h2 : findIn (heapL p) (.ref C) "__init__" = some (some (.ref fI))) (h3 : typeIn (heapL p) (.ref fI) = some (.type "function")) (h4 : findIn (heapL p) (.ref C) "__setattr__" = some (some (.builtin "object.__setattr__")))
  (h5 : plainOver (heapL p) C = true) (h6 : hasDictIn (heapL p) C = true) (h7 : ∀ a ∈ names, takerIn (heapL p) C a = some none) : ClsK g.K C fI names := by rw [hK]; exact ⟨h1, h2, h3, h4, h5, h6, h7⟩
theorem par_step {names : List (Str × NameKind)} {binds : List (Str × Value)} {k : Nat} (h1 : names.lookup (aN k) = some .local) (h2 : (aN k == ("__debug__" : Str)) = false) (h3 : (binds.reverse.lookup (aN k)).isSome = true) : ∀ y, (parOf k).2 = .par y → names.lookup y = some .local ∧ (y == ("__debug__" : Str)) = false ∧ ∃ v, binds.reverse.lookup y = some v := fun y e => by
 cases e; exact ⟨h1, h2, Option.isSome_iff_exists.mp h3⟩
theorem initTr {p : Params} (hI : g.K.In g.h₀) (hK : g.K = heapL p) : ∃ fd stmts, InitAt g 180 177 fd stmts psTr prTr := by
 have X : (heapL p).In g.h₀ := hK ▸ hI
 refine ⟨_, _, ⟨⟨_, X 177 _ rfl, rfl⟩, rfl, ?_, rfl, rfl, rfl, codeRec_of X (by rfl), ?_, by decide +kernel, by kernel_rfl, by decide +kernel, by decide +kernel, clsK hK (by rfl) (by rfl) (by rfl) (by rfl) (by rfl) (by rfl) ?_⟩⟩
 ·exact .cons .par (.cons .par (.cons .par (.cons .par .nil)))
 ·refine λs x vs hs hl => len4e vs hl λa b c d => ?_
  ·refine ⟨[("self", .ref x), (aN 5, a), (aN 2, b), (aN 14, c), (aN 15, d)], BindsTo.of_eq (by rfl), ?_, by kernel_rfl, ?_, ?_⟩
   ·exact all_ps (by kernel_rfl) (all_ps (by kernel_rfl) (all_ps (by kernel_rfl) (all_ps (by kernel_rfl) (all_ps (by kernel_rfl) all_nil))))
   ·intro i y h
    match i, h with
    | 0, h => cases h; kernel_rfl
    | 1, h => cases h; kernel_rfl
    | 2, h => cases h; kernel_rfl
    | 3, h => cases h; kernel_rfl
    | i + 4, h => cases h
   ·exact all_ps (par_step (by kernel_rfl) (by decide +kernel) (by kernel_rfl)) (all_ps (par_step (by kernel_rfl) (by decide +kernel) (by kernel_rfl)) (all_ps (par_step (by kernel_rfl) (by decide +kernel) (by kernel_rfl)) (all_ps (par_step (by kernel_rfl) (by decide +kernel) (by kernel_rfl)) all_nil)))
 ·exact all_ps (by rfl) (all_ps (by rfl) (all_ps (by rfl) (all_ps (by rfl) all_nil)))
theorem initSig {p : Params} (hI : g.K.In g.h₀) (hK : g.K = heapL p) : ∃ fd stmts, InitAt g 159 156 fd stmts psSig prSig := by
 have X : (heapL p).In g.h₀ := hK ▸ hI
 refine ⟨_, _, ⟨⟨_, X 156 _ rfl, rfl⟩, rfl, ?_, rfl, rfl, rfl, codeRec_of X (by rfl), ?_, by decide +kernel, by kernel_rfl, by decide +kernel, by decide +kernel, clsK hK (by rfl) (by rfl) (by rfl) (by rfl) (by rfl) (by rfl) ?_⟩⟩
 ·exact .cons .par (.cons .par (.cons .par (.cons .par (.cons .par (.cons .par (.cons .par (.cons .par .nil)))))))
 ·refine λs x vs hs hl => len8e vs hl λa b c d e f u v => ?_
  ·refine ⟨[("self", .ref x), (aN 5, a), (aN 3, b), (aN 2, c), (aN 9, d), (aN 10, e), (aN 11, f), (aN 12, u), (aN 13, v)], BindsTo.of_eq (by rfl), ?_, by kernel_rfl, ?_, ?_⟩
   ·exact all_ps (by kernel_rfl) (all_ps (by kernel_rfl) (all_ps (by kernel_rfl) (all_ps (by kernel_rfl) (all_ps (by kernel_rfl) (all_ps (by kernel_rfl) (all_ps (by kernel_rfl) (all_ps (by kernel_rfl) (all_ps (by kernel_rfl) all_nil))))))))
   ·intro i y h
    match i, h with
    | 0, h => cases h; kernel_rfl
    | 1, h => cases h; kernel_rfl
    | 2, h => cases h; kernel_rfl
    | 3, h => cases h; kernel_rfl
    | 4, h => cases h; kernel_rfl
    | 5, h => cases h; kernel_rfl
    | 6, h => cases h; kernel_rfl
    | 7, h => cases h; kernel_rfl
    | i + 8, h => cases h
   ·exact all_ps (par_step (by kernel_rfl) (by decide +kernel) (by kernel_rfl)) (all_ps (par_step (by kernel_rfl) (by decide +kernel) (by kernel_rfl)) (all_ps (par_step (by kernel_rfl) (by decide +kernel) (by kernel_rfl)) (all_ps (par_step (by kernel_rfl) (by decide +kernel) (by kernel_rfl)) (all_ps (par_step (by kernel_rfl) (by decide +kernel) (by kernel_rfl)) (all_ps (par_step (by kernel_rfl) (by decide +kernel) (by kernel_rfl)) (all_ps (par_step (by kernel_rfl) (by decide +kernel) (by kernel_rfl)) (all_ps (par_step (by kernel_rfl) (by decide +kernel) (by kernel_rfl)) all_nil)))))))
 ·exact all_ps (by rfl) (all_ps (by rfl) (all_ps (by rfl) (all_ps (by rfl) (all_ps (by rfl) (all_ps (by rfl) (all_ps (by rfl) (all_ps (by rfl) all_nil)))))))
theorem initAdt {p : Params} (hI : g.K.In g.h₀) (hK : g.K = heapL p) : ∃ fd stmts, InitAt g 138 135 fd stmts psAdt prAdt := by
 have X : (heapL p).In g.h₀ := hK ▸ hI
 refine ⟨_, _, ⟨⟨_, X 135 _ rfl, rfl⟩, rfl, ?_, rfl, rfl, rfl, codeRec_of X (by rfl), ?_, by decide +kernel, by kernel_rfl, by decide +kernel, by decide +kernel, clsK hK (by rfl) (by rfl) (by rfl) (by rfl) (by rfl) (by rfl) ?_⟩⟩
 ·exact .cons .par (.cons .par (.cons .par (.cons .par (.cons .par (.cons .par (.cons .par .nil))))))
 ·refine λs x vs hs hl => len5e vs hl λa b c d e => ?_
  ·refine ⟨[("self", .ref x), (aN 5, a), (aN 3, b), (aN 2, c), (aN 4, d), (aN 8, e), (aN 6, _), (aN 7, _)], BindsTo.of_defaults rfl (hs 128 _ (by rw [hK]; rfl)) rfl rfl (by rfl), ?_, by kernel_rfl, ?_, ?_⟩
   ·exact all_ps (by kernel_rfl) (all_ps (by kernel_rfl) (all_ps (by kernel_rfl) (all_ps (by kernel_rfl) (all_ps (by kernel_rfl) (all_ps (by kernel_rfl) (all_ps (by kernel_rfl) (all_ps (by kernel_rfl) all_nil)))))))
   ·intro i y h
    match i, h with
    | 0, h => cases h; kernel_rfl
    | 1, h => cases h; kernel_rfl
    | 2, h => cases h; kernel_rfl
    | 3, h => cases h; kernel_rfl
    | 4, h => cases h; kernel_rfl
    | i + 5, h => cases h
   ·exact all_ps (par_step (by kernel_rfl) (by decide +kernel) (by kernel_rfl)) (all_ps (par_step (by kernel_rfl) (by decide +kernel) (by kernel_rfl)) (all_ps (par_step (by kernel_rfl) (by decide +kernel) (by kernel_rfl)) (all_ps (par_step (by kernel_rfl) (by decide +kernel) (by kernel_rfl)) (all_ps (par_step (by kernel_rfl) (by decide +kernel) (by kernel_rfl)) (all_ps (par_step (by kernel_rfl) (by decide +kernel) (by kernel_rfl)) (all_ps (par_step (by kernel_rfl) (by decide +kernel) (by kernel_rfl)) all_nil))))))
 ·exact all_ps (by rfl) (all_ps (by rfl) (all_ps (by rfl) (all_ps (by rfl) (all_ps (by rfl) (all_ps (by rfl) (all_ps (by rfl) all_nil))))))
theorem initW {p : Params} (hI : g.K.In g.h₀) (hK : g.K = heapL p) : ∃ fd stmts, InitAt g 209 199 fd stmts psW prW := by
 have X : (heapL p).In g.h₀ := hK ▸ hI
 refine ⟨_, _, ⟨⟨_, X 199 _ rfl, rfl⟩, rfl, ?_, rfl, rfl, rfl, codeRec_of X (by rfl), ?_, by decide +kernel, by kernel_rfl, by decide +kernel, by decide +kernel, clsK hK (by rfl) (by rfl) (by rfl) (by rfl) (by rfl) (by rfl) ?_⟩⟩
 ·exact .cons .par (.cons .dict (.cons .dict (.cons .dict (.cons .dict (.cons .list (.cons .dict (.cons .dict .nil)))))))
 ·refine λs x vs hs hl => len1e vs hl λa => ?_
  ·refine ⟨[("self", .ref x), (aN 16, a)], BindsTo.of_defaults rfl (hs 192 _ (by rw [hK]; rfl)) rfl rfl (by rfl), ?_, by kernel_rfl, ?_, ?_⟩
   ·exact all_ps (by kernel_rfl) (all_ps (by kernel_rfl) all_nil)
   ·intro i y h
    match i, h with
    | 0, h => cases h; kernel_rfl
    | i + 1, h => cases h
   ·exact all_ps (par_step (by kernel_rfl) (by decide +kernel) (by kernel_rfl)) (all_ps (λy e => by cases e) (all_ps (λy e => by cases e) (all_ps (λy e => by cases e) (all_ps (λy e => by cases e) (all_ps (λy e => by cases e) (all_ps (λy e => by cases e) (all_ps (λy e => by cases e) all_nil)))))))
 ·exact all_ps (by rfl) (all_ps (by rfl) (all_ps (by rfl) (all_ps (by rfl) (all_ps (by rfl) (all_ps (by rfl) (all_ps (by rfl) (all_ps (by rfl) all_nil)))))))
end
noncomputable def metaOk (sc : Scope) (ps ns : List Nat) : Bool :=
 decide ((∀ i ∈ ns, sc.names.lookup (vN i) = some .local \/ sc.names.lookup (vN i) = some .cell) /\ (∀ p ∈ ps, p ∈ ns) /\ ps.Nodup /\ (∀ i ∈ ns, i < 48) /\ ∀ p ∈ sc.names, p.2 = .cell -> ∃ i ∈ ns, p.1 = vN i)
structure Meta (K : Frag) (fd : FuncData) (ps ns : List Nat) (stmts : List Stmt) : Prop where
 body : fd.body = .stmts stmts
 clo : fd.closure = []
 kind : fd.scope.kind = .function
 co : fd.scope.isCoroutine = false
 ge : fd.scope.isGenerator = false
 gl : fd.globals = mainGlobals
 bu : fd.builtins = builtinsNs
 code : codeIn K fd.code fd.qualname = true
 bind : ∀ vs : List Value, vs.length = ps.length -> bindArgs fd ⟨vs, []⟩ = pure ((ps.map vN).zip vs)
 chk : metaOk fd.scope ps ns = true
theorem Meta.kinds {K : Frag} {fd : FuncData} {ps ns : List Nat} {stmts : List Stmt} (m : Meta K fd ps ns stmts) : ∀ i ∈ ns, fd.scope.names.lookup (vN i) = some .local \/ fd.scope.names.lookup (vN i) = some .cell := (of_decide_eq_true m.chk).1
theorem Meta.sub {K : Frag} {fd : FuncData} {ps ns : List Nat} {stmts : List Stmt} (m : Meta K fd ps ns stmts) : ∀ p ∈ ps, p ∈ ns := (of_decide_eq_true m.chk).2.1
theorem Meta.nd {K : Frag} {fd : FuncData} {ps ns : List Nat} {stmts : List Stmt} (m : Meta K fd ps ns stmts) : ps.Nodup := (of_decide_eq_true m.chk).2.2.1
theorem Meta.n48 {K : Frag} {fd : FuncData} {ps ns : List Nat} {stmts : List Stmt} (m : Meta K fd ps ns stmts) : ∀ i ∈ ns, i < 48 := (of_decide_eq_true m.chk).2.2.2.1
theorem Meta.cel {K : Frag} {fd : FuncData} {ps ns : List Nat} {stmts : List Stmt} (m : Meta K fd ps ns stmts) : ∀ p ∈ fd.scope.names, p.2 = .cell -> ∃ i ∈ ns, p.1 = vN i := (of_decide_eq_true m.chk).2.2.2.2
def Rel (g : Gh) (K : Frag) (a : Addr) (ps ns : List Nat) (b : List S) : Prop := ∃ fd stmts, (∃ o, K.lookup a = some o /\ o.data = .func fd) /\ Meta K fd ps ns stmts /\ IsSs g fd.scope b stmts
noncomputable def objOf (K : Frag) (a : Addr) : Obj := (K.lookup a).getD default
noncomputable def funcOf (d : Data) : FuncData := match d with | .func fd => fd | _ => default
noncomputable def stmtsOf (b : FuncBody) : List Stmt := match b with | .stmts l => l | _ => []
noncomputable def fdOf (K : Frag) (a : Addr) : FuncData := funcOf (objOf K a).data
noncomputable def stOf (K : Frag) (a : Addr) : List Stmt := stmtsOf (fdOf K a).body
noncomputable def isFunc (d : Data) : Bool := match d with | .func _ => true | _ => false
noncomputable def isStmts (b : FuncBody) : Bool := match b with | .stmts _ => true | _ => false
noncomputable def relB (K : Frag) (a : Addr) (ps ns : List Nat) : Bool := (K.lookup a).isSome && (isFunc (objOf K a).data && (isStmts (fdOf K a).body && (decide ((fdOf K a).closure = [] /\ (fdOf K a).scope.kind = .function /\ (fdOf K a).scope.isCoroutine = false /\ (fdOf K a).scope.isGenerator = false /\ (fdOf K a).globals = mainGlobals /\ (fdOf K a).builtins = builtinsNs) && (codeIn K (fdOf K a).code (fdOf K a).qualname && metaOk (fdOf K a).scope ps ns))))
theorem isFunc_e {d : Data} (h : isFunc d = true) : d = .func (funcOf d) := by cases d <;> first | rfl | exact nB h
theorem isStmts_e {b : FuncBody} (h : isStmts b = true) : b = .stmts (stmtsOf b) := by cases b <;> first | rfl | exact nB h
theorem get_e {α : Type} [Inhabited α] {o : Option α} (h : o.isSome = true) : o = some (o.getD default) := by cases o <;> first | rfl | exact nB h
theorem relMk {g : Gh} {K : Frag} {a : Addr} {ps ns : List Nat} {b : List S} (h : relB K a ps ns = true) (hb : ∀ vs : List Value, vs.length = ps.length -> bindArgs (fdOf K a) ⟨vs, []⟩ = pure ((ps.map vN).zip vs)) (hs : chkS 40 (fdOf K a).scope b (stOf K a) = true) : Rel g K a ps ns b :=
 aB h λh1 h => aB h λh2 h => aB h λh3 h => aB h λh4 h => aB h λh5 h6 =>
  have h4 := of_decide_eq_true h4
  ⟨fdOf K a, stOf K a, ⟨objOf K a, get_e h1, isFunc_e h2⟩, ⟨isStmts_e h3, h4.1, h4.2.1, h4.2.2.1, h4.2.2.2.1, h4.2.2.2.2.1, h4.2.2.2.2.2, h5, hb, h6⟩, chkS_ok 40 _ _ hs⟩
noncomputable def ps_parts_of : List Nat := [0]
noncomputable def ns_parts_of : List Nat := [0, 1]
noncomputable def b_parts_of : List S := [.asg [1] [.v (.idx (.var 0) (.cst (.int 0)))], .ife (.cmp .Eq (.var 1) (.cst (.str 2))) [.ret (.tup [.idx (.var 0) (.cst (.int 3))])] [], .ife (.or (.cmp .Eq (.var 1) (.cst (.str 3))) (.cmp .Eq (.var 1) (.cst (.str 4)))) [.ret (.tup [.idx (.var 0) (.cst (.int 1))])] [], .ife (.cmp .Eq (.var 1) (.cst (.str 5))) [.ret (.idx (.var 0) (.cst (.int 1)))] [], .ret (.ite (.cmp .Eq (.var 1) (.cst (.str 6))) (.idx (.var 0) (.cst (.int 3))) (.tup []))]
theorem rel_parts_of (g : Gh) (p : Params) : Rel g (heapL p) 61 ps_parts_of ns_parts_of b_parts_of := relMk (by kernel_rfl) (len1 λa => by kernel_rfl) (by kernel_rfl)
noncomputable def ps_rebuilt : List Nat := [0, 2]
noncomputable def ns_rebuilt : List Nat := [0, 2, 1]
noncomputable def b_rebuilt : List S := [.asg [1] [.v (.idx (.var 0) (.cst (.int 0)))], .ife (.cmp .Eq (.var 1) (.cst (.str 2))) [.ret (.tup [.cst (.str 2), .idx (.var 0) (.cst (.int 1)), .idx (.var 0) (.cst (.int 2)), .idx (.var 2) (.cst (.int 0))])] [], .ife (.cmp .Eq (.var 1) (.cst (.str 3))) [.ret (.tup [.cst (.str 3), .idx (.var 2) (.cst (.int 0))])] [], .ife (.cmp .Eq (.var 1) (.cst (.str 4))) [.ret (.tup [.cst (.str 4), .idx (.var 2) (.cst (.int 0)), .idx (.var 0) (.cst (.int 2))])] [], .ife (.cmp .Eq (.var 1) (.cst (.str 5))) [.ret (.tup [.cst (.str 5), .tuple (.var 2)])] [], .ret (.ite (.cmp .Eq (.var 1) (.cst (.str 6))) (.tup [.cst (.str 6), .idx (.var 0) (.cst (.int 1)), .idx (.var 0) (.cst (.int 2)), .tuple (.var 2)]) (.var 0))]
theorem rel_rebuilt (g : Gh) (p : Params) : Rel g (heapL p) 68 ps_rebuilt ns_rebuilt b_rebuilt := relMk (by kernel_rfl) (len2 λa b => by kernel_rfl) (by kernel_rfl)
noncomputable def ps_substituted : List Nat := [0, 3]
noncomputable def ns_substituted : List Nat := [0, 3]
noncomputable def b_substituted : List S := [.ife (.cmp .Eq (.idx (.var 0) (.cst (.int 0))) (.cst (.str 1))) [.ret (.get (.var 3) (.idx (.var 0) (.cst (.int 1))) (.var 0))] [], .ret (.call 1 [.var 0, .comp (.call 2 [.var 4, .var 3]) [4] [3] (.call 0 [.var 0]) none])]
theorem rel_substituted (g : Gh) (p : Params) : Rel g (heapL p) 73 ps_substituted ns_substituted b_substituted := relMk (by kernel_rfl) (len2 λa b => by kernel_rfl) (by kernel_rfl)
noncomputable def ps_with_regions : List Nat := [0, 5]
noncomputable def ns_with_regions : List Nat := [0, 5]
noncomputable def b_with_regions : List S := [.ife (.cmp .Eq (.idx (.var 0) (.cst (.int 0))) (.cst (.str 2))) [.asg [0] [.v (.tup [.cst (.str 2), .clo 5 (.idx (.var 0) (.cst (.int 1))), .idx (.var 0) (.cst (.int 2)), .idx (.var 0) (.cst (.int 3))])]] [.ife (.cmp .Eq (.idx (.var 0) (.cst (.int 0))) (.cst (.str 6))) [.asg [0] [.v (.tup [.cst (.str 6), .idx (.var 0) (.cst (.int 1)), .tuple (.comp (.clo 5 (.var 6)) [6] [5] (.idx (.var 0) (.cst (.int 2))) none), .idx (.var 0) (.cst (.int 3))])]] []], .ret (.call 1 [.var 0, .comp (.call 3 [.var 4, .var 5]) [4] [5] (.call 0 [.var 0]) none])]
theorem rel_with_regions (g : Gh) (p : Params) : Rel g (heapL p) 78 ps_with_regions ns_with_regions b_with_regions := relMk (by kernel_rfl) (len2 λa b => by kernel_rfl) (by kernel_rfl)
noncomputable def ps_params_in : List Nat := [0]
noncomputable def ns_params_in : List Nat := [0, 7, 9, 10]
noncomputable def b_params_in : List S := [.asg [7] [.l []], .asg [9] [.l [.var 0]], .whl (.nem 9) [.asg [10] [.p 9], .ife (.and (.cmp .Eq (.idx (.var 10) (.cst (.int 0))) (.cst (.str 1))) (.inn true (.idx (.var 10) (.cst (.int 1))) 7)) [.app 7 (.idx (.var 10) (.cst (.int 1)))] [], .ext 9 (.rev (.call 0 [.var 10]))], .reto 7]
theorem rel_params_in (g : Gh) (p : Params) : Rel g (heapL p) 92 ps_params_in ns_params_in b_params_in := relMk (by kernel_rfl) (len1 λa => by kernel_rfl) (by kernel_rfl)
noncomputable def ps_field_rows : List Nat := [0, 11, 12]
noncomputable def ns_field_rows : List Nat := [0, 11, 12]
noncomputable def b_field_rows : List S := [.ret (.idx (.idx (.attr (.idx (.attr (.var 12) 0) (.idx (.var 0) (.cst (.int 1)))) 4) (.var 11)) (.cst (.int 2)))]
theorem rel_field_rows (g : Gh) (p : Params) : Rel g (heapL p) 99 ps_field_rows ns_field_rows b_field_rows := relMk (by kernel_rfl) (len3 λa b c => by kernel_rfl) (by kernel_rfl)
noncomputable def ps_implied : List Nat := [0, 12]
noncomputable def ns_implied : List Nat := [0, 12, 7, 9, 18, 19, 10, 11]
noncomputable def b_implied : List S := [.asg [7, 9, 18, 19] [.l [], .l [.var 0], .l [], .v (.cst (.int 0))], .whl (.nem 9) [.asg [10, 19] [.p 9, .v (.bin .Add (.var 19) (.cst (.int 1)))], .ife (.cmp .Gt (.var 19) .glob) [.dead] [], .ife (.cmp .Eq (.idx (.var 10) (.cst (.int 0))) (.cst (.str 2))) [.ext 7 (.comp (.tup [.var 20, .idx (.var 10) (.cst (.int 1))]) [20] [10] (.bin .Add (.call 4 [.idx (.var 10) (.cst (.int 3))]) (.call 5 [.idx (.var 10) (.cst (.int 3))])) none)] [], .ext 9 (.rev (.call 0 [.var 10])), .ife (.and (.cmp .Eq (.idx (.var 10) (.cst (.int 0))) (.cst (.str 6))) (.inn true (.var 10) 18)) [.app 18 (.var 10), .fore [11] (.rng (.len (.attr (.idx (.attr (.var 12) 0) (.idx (.var 10) (.cst (.int 1)))) 4))) [.ext 9 (.comp (.var 4) [17, 4] [] (.call 7 [.var 10, .var 11, .var 12]) none)]] []], .reto 7]
theorem rel_implied (g : Gh) (p : Params) : Rel g (heapL p) 109 ps_implied ns_implied b_implied := relMk (by kernel_rfl) (len2 λa b => by kernel_rfl) (by kernel_rfl)
noncomputable def ps_asked_of : List Nat := [12, 21, 22, 3]
noncomputable def ns_asked_of : List Nat := [12, 21, 22, 3, 7, 19, 17, 23]
noncomputable def b_asked_of : List S := [.asg [7] [.l []], .ife (.cmp .Eq (.idx (.var 21) (.cst (.int 0))) (.cst (.str 26))) [.asg [19] [.v (.len (.attr (.idx (.attr (.var 12) 1) (.idx (.var 21) (.cst (.int 1)))) 2))], .app 7 (.tup [.idx (.var 21) (.cst (.int 1)), .tuple (.upto (.idx (.var 21) (.cst (.int 4))) (.var 19)), .idx (.var 21) (.cst (.int 3))])] [], .fore [17, 23] (.attr (.var 22) 2) [.ife (.cmp .NotEq (.var 17) (.cst (.str 36))) [.ext 7 (.comp (.tup [.var 24, .tup [], .idx (.var 3) (.var 17)]) [24] [3, 17] (.var 23) none)] []], .reto 7]
theorem rel_asked_of (g : Gh) (p : Params) : Rel g (heapL p) 114 ps_asked_of ns_asked_of b_asked_of := relMk (by kernel_rfl) (len4 λa b c d => by kernel_rfl) (by kernel_rfl)
noncomputable def ps_l_take : List Nat := [27, 28]
noncomputable def ns_l_take : List Nat := [27, 28, 29]
noncomputable def b_l_take : List S := [.ife (.cmp .Gt (.idx (.var 27) (.cst (.int 0))) (.cst (.int 0))) [.asg [29] [.v (.bin .Mod (.idx (.var 27) (.cst (.int 0))) (.var 28))], .srci 0 (.bin .FloorDiv (.idx (.var 27) (.cst (.int 0))) (.var 28)), .ret (.var 29)] [], .srci 1 (.bin .Mod (.bin .Add (.bin .Mult (.idx (.var 27) (.cst (.int 1))) (.cst (.int 39373))) (.cst (.int 7))) (.cst (.int 2147483647))), .ret (.bin .Mod (.bin .FloorDiv (.bin .Mod (.bin .Mult (.idx (.var 27) (.cst (.int 1))) (.idx (.var 27) (.cst (.int 1)))) (.cst (.int 2147483629))) (.cst (.int 32))) (.var 28))]
theorem rel_l_take (g : Gh) (p : Params) : Rel g (heapL p) 227 ps_l_take ns_l_take b_l_take := relMk (by kernel_rfl) (len2 λa b => by kernel_rfl) (by kernel_rfl)
noncomputable def ps_l_one : List Nat := [27, 30]
noncomputable def ns_l_one : List Nat := [27, 30]
noncomputable def b_l_one : List S := [.ret (.idx (.var 30) (.call 11 [.var 27, .len (.var 30)]))]
theorem rel_l_one (g : Gh) (p : Params) : Rel g (heapL p) 234 ps_l_one ns_l_one b_l_one := relMk (by kernel_rfl) (len2 λa b => by kernel_rfl) (by kernel_rfl)
noncomputable def ps_l_regions : List Nat := []
noncomputable def ns_l_regions : List Nat := []
noncomputable def b_l_regions : List S := [.ret (.lst [.cst (.str 9), .cst (.str 10), .cst (.str 11)])]
theorem rel_l_regions (g : Gh) (p : Params) : Rel g (heapL p) 248 ps_l_regions ns_l_regions b_l_regions := relMk (by kernel_rfl) (len0 (by kernel_rfl)) (by kernel_rfl)
noncomputable def ps_l_type : List Nat := [27, 31]
noncomputable def ns_l_type : List Nat := [27, 31, 32, 20, 6]
noncomputable def b_l_type : List S := [.asg [32] [.v (.ite (.cmp .Gt (.var 31) (.cst (.int 0))) (.call 11 [.var 27, .cst (.int 9)]) (.call 11 [.var 27, .cst (.int 3)]))], .ife (.cmp .Lt (.var 32) (.cst (.int 3))) [.ret (.idx (.lst [.tup [.cst (.str 0)], .tup [.cst (.str 1), .cst (.str 7)], .tup [.cst (.str 1), .cst (.str 8)]]) (.var 32))] [], .asg [20, 6] [.v (.call 14 [.var 27, .bin .Sub (.var 31) (.cst (.int 1))]), .v (.call 12 [.var 27, .call 13 []])], .ife (.or (.cmp .Eq (.var 32) (.cst (.int 3))) (.cmp .Eq (.var 32) (.cst (.int 8)))) [.ret (.tup [.cst (.str 2), .var 6, .cmp .Eq (.call 11 [.var 27, .cst (.int 2)]) (.cst (.int 0)), .var 20])] [], .ife (.cmp .Eq (.var 32) (.cst (.int 4))) [.ret (.tup [.cst (.str 3), .var 20])] [], .ife (.cmp .Eq (.var 32) (.cst (.int 5))) [.ret (.tup [.cst (.str 5), .tup [.var 20, .call 14 [.var 27, .bin .Sub (.var 31) (.cst (.int 1))]]])] [], .ife (.cmp .Eq (.var 32) (.cst (.int 6))) [.ret (.tup [.cst (.str 6), .cst (.str 14), .tup [.var 6], .tup [.var 20]])] [], .ret (.tup [.cst (.str 6), .cst (.str 15), .tup [.var 6, .call 12 [.var 27, .call 13 []]], .tup [.var 20]])]
theorem rel_l_type (g : Gh) (p : Params) : Rel g (heapL p) 255 ps_l_type ns_l_type b_l_type := relMk (by kernel_rfl) (len2 λa b => by kernel_rfl) (by kernel_rfl)
noncomputable def ps_l_below : List Nat := [33]
noncomputable def ns_l_below : List Nat := [33, 20]
noncomputable def b_l_below : List S := [.ife (.cmp .Eq (.idx (.var 33) (.cst (.int 0))) (.cst (.str 2))) [.ret (.lst [.idx (.var 33) (.cst (.int 3))])] [], .ife (.cmp .In (.idx (.var 33) (.cst (.int 0))) (.lst [.cst (.str 3), .cst (.str 4)])) [.ret (.lst [.idx (.var 33) (.cst (.int 1))])] [], .ife (.cmp .Eq (.idx (.var 33) (.cst (.int 0))) (.cst (.str 5))) [.ret (.list (.idx (.var 33) (.cst (.int 1))))] [], .ife (.cmp .NotEq (.idx (.var 33) (.cst (.int 0))) (.cst (.str 6))) [.ret (.lst [])] [], .asg [20] [.v (.idx (.idx (.var 33) (.cst (.int 3))) (.cst (.int 0)))], .ife (.cmp .Eq (.idx (.var 33) (.cst (.int 1))) (.cst (.str 14))) [.ret (.lst [.var 20, .tup [.cst (.str 2), .idx (.idx (.var 33) (.cst (.int 2))) (.cst (.int 0)), .cst (.bool false), .var 20]])] [], .ife (.cmp .Eq (.idx (.var 33) (.cst (.int 1))) (.cst (.str 15))) [.ret (.lst [.var 20, .tup [.cst (.str 2), .idx (.idx (.var 33) (.cst (.int 2))) (.cst (.int 0)), .cst (.bool true), .tup [.cst (.str 2), .idx (.idx (.var 33) (.cst (.int 2))) (.cst (.int 1)), .cst (.bool false), .tup [.cst (.str 5), .tup [.var 20, .tup [.cst (.str 0)]]]]]])] [], .ret (.lst [.var 20, .tup [.cst (.str 3), .var 33]])]
theorem rel_l_below (g : Gh) (p : Params) : Rel g (heapL p) 262 ps_l_below ns_l_below b_l_below := relMk (by kernel_rfl) (len1 λa => by kernel_rfl) (by kernel_rfl)
noncomputable def ps_l_reached : List Nat := [33]
noncomputable def ns_l_reached : List Nat := [33, 7, 10, 34]
noncomputable def b_l_reached : List S := [.acc 7 [.var 33], .foro 10 7 [.fore [34] (.call 15 [.var 10]) [.ife (.inn true (.var 34) 7) [.app 7 (.var 34)] []]], .reto 7]
theorem rel_l_reached (g : Gh) (p : Params) : Rel g (heapL p) 269 ps_l_reached ns_l_reached b_l_reached := relMk (by kernel_rfl) (len1 λa => by kernel_rfl) (by kernel_rfl)
noncomputable def ps_l_within : List Nat := [33]
noncomputable def ns_l_within : List Nat := [33, 7, 9, 10]
noncomputable def b_l_within : List S := [.asg [7, 9] [.l [], .l [.var 33]], .whl (.nem 9) [.asg [10] [.p 9], .ife (.cmp .Eq (.idx (.var 10) (.cst (.int 0))) (.cst (.str 2))) [.app 7 (.idx (.var 10) (.cst (.int 1)))] [], .ife (.cmp .Eq (.idx (.var 10) (.cst (.int 0))) (.cst (.str 1))) [.app 7 (.idx (.var 10) (.cst (.int 1)))] [], .ife (.cmp .Eq (.idx (.var 10) (.cst (.int 0))) (.cst (.str 6))) [.ext 7 (.idx (.var 10) (.cst (.int 2))), .ext 9 (.idx (.var 10) (.cst (.int 3)))] [.ext 9 (.call 15 [.var 10])]], .reto 7]
theorem rel_l_within (g : Gh) (p : Params) : Rel g (heapL p) 276 ps_l_within ns_l_within b_l_within := relMk (by kernel_rfl) (len1 λa => by kernel_rfl) (by kernel_rfl)
noncomputable def ps_l_implied_right : List Nat := [12, 33]
noncomputable def ns_l_implied_right : List Nat := [12, 33, 35, 10, 0]
noncomputable def b_l_implied_right : List S := [.asg [35] [.l []], .fore [10] (.call 16 [.var 33]) [.ife (.cmp .Eq (.idx (.var 10) (.cst (.int 0))) (.cst (.str 2))) [.ext 35 (.comp (.tup [.var 20, .idx (.var 10) (.cst (.int 1))]) [20] [10] (.call 17 [.idx (.var 10) (.cst (.int 3))]) none)] []], .frz 35, .asg [0] [.v (.call 8 [.var 33, .var 12])], .ret (.and (.cmp .Eq (.comp (.var 36) [36] [35] (.var 0) (some (.cmp .NotIn (.var 36) (.var 35)))) (.lst [])) (.cmp .Eq (.comp (.var 36) [36] [0] (.var 35) (some (.cmp .NotIn (.var 36) (.var 0)))) (.lst [])))]
theorem rel_l_implied_right (g : Gh) (p : Params) : Rel g (heapL p) 281 ps_l_implied_right ns_l_implied_right b_l_implied_right := relMk (by kernel_rfl) (len2 λa b => by kernel_rfl) (by kernel_rfl)
noncomputable def dxN : Nat -> Nat
 | 0 => 8
 | _ => 16
def sxIs1 (j : Nat) (st : Stmt) : Prop := ∃ params body scope pos, st = .FunctionDef (vN (dxN j)) params body [] none [] scope none (vN (dxN j)) pos /\ DefSh (cy j) params body scope /\ bodyIs j body
def sxIs0 (j : Nat) (sc : Scope) (st : Stmt) : Prop := if j = 2 then dueSt sc st else sxIs1 j st
noncomputable def ps_regions_in : List Nat := [0]
noncomputable def ns_regions_in : List Nat := [0, 7, 8]
noncomputable def b_regions_in : List S := [.acc 7 [], .sx 0, .exp (.call 3 [.var 0, .var 8]), .reto 7]
theorem rel_regions_in (g : Gh) (hg : g.sxIs = sxIs0) (p : Params) : Rel g (heapL p) 85 ps_regions_in ns_regions_in b_regions_in := by
 refine ⟨_, _, ⟨_, rfl, rfl⟩, ⟨rfl, rfl, rfl, rfl, rfl, rfl, rfl, rfl, len1 λa => rfl, by decide +kernel⟩, ?_⟩
 refine chkT_ok (n := 40) 1 (by kernel_rfl) (.mk (.sx (by
     rw [hg]
     show sxIs1 _ _
     refine ⟨_, _, _, _, rfl, ⟨rfl, rfl, λ_ => rfl, λenv c h => ?_, rfl, rfl, rfl, λ_ _ _ _ _ _ _ _ => rfl, by decide +kernel, by decide +kernel, by decide +kernel⟩, ?_⟩
     ·rw [closureFor_eq (fun p hp hf => by
       rcases List.mem_cons.mp hp with rfl | hp
       ·cases hf
       ·rcases List.mem_cons.mp hp with rfl | hp
        ·exact Option.isSome_iff_exists.mpr ⟨c, h⟩
        ·cases hp)]
      exact congrArg (λ(o : Option Addr) => (pure [(_, o.getD 0)] : Sem (List (Str × Addr)))) h
     ·first | exact ⟨_, _, _, _, _, _, _, rfl, rfl⟩ | exact ⟨_, _, _, _, _, _, rfl, rfl⟩) (chkS_ok 40 _ _ (by kernel_rfl))))
noncomputable def ps_fields_of : List Nat := [0, 11, 12]
noncomputable def ns_fields_of : List Nat := [0, 11, 12, 13, 14, 15, 16]
noncomputable def b_fields_of : List S := [.ife (.cmp .Eq (.idx (.var 0) (.cst (.int 0))) (.cst (.str 5))) [.dead] [], .ife (.cmp .NotEq (.idx (.var 0) (.cst (.int 0))) (.cst (.str 6))) [.ret (.lst [])] [], .asg [13] [.v (.idx (.attr (.var 12) 0) (.idx (.var 0) (.cst (.int 1))))], .asg [14] [.v (.dzip (.attr (.var 13) 2) (.idx (.var 0) (.cst (.int 3))))], .asg [15] [.v (.dzip (.attr (.var 13) 3) (.idx (.var 0) (.cst (.int 2))))], .sx 1, .ret (.comp (.tup [.var 17, .call 2 [.call 3 [.var 4, .var 16], .var 14]]) [17, 4] [14, 16] (.call 6 [.var 0, .var 11, .var 12]) none)]
theorem rel_fields_of (g : Gh) (hg : g.sxIs = sxIs0) (p : Params) : Rel g (heapL p) 104 ps_fields_of ns_fields_of b_fields_of := by
 refine ⟨_, _, ⟨_, rfl, rfl⟩, ⟨rfl, rfl, rfl, rfl, rfl, rfl, rfl, rfl, len3 λa b c => rfl, by decide +kernel⟩, ?_⟩
 refine chkT_ok (n := 40) 5 (by kernel_rfl) (.mk (.sx (by
     rw [hg]
     show sxIs1 _ _
     refine ⟨_, _, _, _, rfl, ⟨rfl, rfl, λ_ => rfl, λenv c h => ?_, rfl, rfl, rfl, λ_ _ _ _ _ _ _ _ => rfl, by decide +kernel, by decide +kernel, by decide +kernel⟩, ?_⟩
     ·rw [closureFor_eq (fun p hp hf => by
       rcases List.mem_cons.mp hp with rfl | hp
       ·cases hf
       ·rcases List.mem_cons.mp hp with rfl | hp
        ·exact Option.isSome_iff_exists.mpr ⟨c, h⟩
        ·cases hp)]
      exact congrArg (λ(o : Option Addr) => (pure [(_, o.getD 0)] : Sem (List (Str × Addr)))) h
     ·first | exact ⟨_, _, _, _, _, _, _, rfl, rfl⟩ | exact ⟨_, _, _, _, _, _, rfl, rfl⟩) (chkS_ok 40 _ _ (by kernel_rfl))))
noncomputable def extIs0 : Nat -> Scope -> Expr -> List Nat -> Prop
 | 0, sc, e, vs => vs = [22] /\ EnumE sc e
 | _, _, _, _ => False
noncomputable def ps_param_regions : List Nat := [22]
noncomputable def ns_param_regions : List Nat := [22]
noncomputable def b_param_regions : List S := [.ret (.ite (.cmp .Is (.var 22) (.cst .none)) .emp (.ext 0 [22]))]
theorem rel_param_regions (g : Gh) (hx : g.extIs = extIs0) (p : Params) : Rel g (heapL p) 119 ps_param_regions ns_param_regions b_param_regions := by
 refine ⟨_, _, ⟨_, rfl, rfl⟩, ⟨rfl, rfl, rfl, rfl, rfl, rfl, rfl, rfl, len1 λa => rfl, by decide +kernel⟩, ?_⟩
 exact .mk (.ret (.mk (.ite (by decide) (chkE_ok 15 _ _ _ (by kernel_rfl)) (.mk .emp) (.mk (.ext (by
     rw [hx]
     exact ⟨rfl, EnumE.mk ⟨rfl, by decide +kernel, by decide +kernel, by decide +kernel, by decide +kernel, by decide +kernel, by decide +kernel⟩ (by decide +kernel) (λ_ => rfl) (λ_ => rfl) (λ_ => rfl)⟩) (λ_ _ => rfl))))))
noncomputable def ps_l_pool : List Nat := [42]
noncomputable def ns_l_pool : List Nat := [42, 43, 44]
noncomputable def b_l_pool : List S := [.asg [43] [.v (.ite (.cmp .NotEq (.var 42) (.lst [])) (.idx (.var 42) (.cst (.int 0))) (.cst (.int 0)))], .asg [44] [.v (.max2 (.var 43) (.bin .Sub (.neg (.cst (.int 1))) (.var 43)))], .ret (.srcl [.bin .Mult (.var 44) (.b2i (.cmp .GtE (.var 44) (.bin .Pow (.cst (.int 10)) (.cst (.int 18))))), .bin .Mod (.bin .Mult (.bin .Add (.bin .Mod (.var 44) (.cst (.int 2147483629))) (.cst (.int 17))) (.cst (.int 48271))) (.cst (.int 2147483647))])]
theorem rel_l_pool (g : Gh) (p : Params) : Rel g (heapL p) 220 ps_l_pool ns_l_pool b_l_pool := relMk (by kernel_rfl) (len1 λa => by kernel_rfl) (by kernel_rfl)
noncomputable def ps_l_world : List Nat := []
noncomputable def ns_l_world : List Nat := [45, 12, 46, 47, 38]
noncomputable def b_l_world : List S := [.asg [45, 12] [.v (.tup [.cst (.str 1), .cst (.str 7)]), .v (.call 21 [.cst .none])], .asg [46] [.v (.lst [.tup [.cst (.str 19), .tup [.cst (.str 2), .cst (.str 12), .cst (.bool false), .var 45]], .tup [.cst (.str 20), .tup [.cst (.str 0)]]])], .setw (.attr (.var 12) 0) (.cst (.str 14)) (.call 22 [.cst (.str 14), .tup [.cst (.str 12)], .tup [.cst (.str 7)], .lst [.tup [.cst (.str 14), .cst (.str 23), .var 46]], .cst (.bool false)]), .asg [47] [.v (.tup [.cst (.str 2), .cst (.str 12), .cst (.bool true), .tup [.cst (.str 2), .cst (.str 13), .cst (.bool false), .tup [.cst (.str 5), .tup [.var 45, .tup [.cst (.str 0)]]]]])], .setw (.attr (.var 12) 0) (.cst (.str 15)) (.call 22 [.cst (.str 15), .tup [.cst (.str 12), .cst (.str 13)], .tup [.cst (.str 7)], .lst [.tup [.cst (.str 17), .cst (.str 24), .lst []], .tup [.cst (.str 18), .cst (.str 25), .lst [.tup [.cst (.str 21), .var 47], .tup [.cst (.str 22), .var 45]]]], .cst (.bool true)]), .asg [38] [.v (.tup [.cst (.str 6), .cst (.str 16), .tup [], .tup [.var 45]])], .setw (.attr (.var 12) 0) (.cst (.str 16)) (.call 22 [.cst (.str 16), .tup [], .tup [.cst (.str 7)], .lst [.tup [.cst (.str 16), .cst (.str 23), .lst [.tup [.cst (.str 19), .var 45], .tup [.cst (.str 20), .tup [.cst (.str 3), .var 38]]]]], .cst (.bool false)]), .ret (.var 12)]
theorem rel_l_world (g : Gh) (p : Params) : Rel g (heapL p) 241 ps_l_world ns_l_world b_l_world := relMk (by kernel_rfl) (len0 (by kernel_rfl)) (by kernel_rfl)
noncomputable def ps_l_sig : List Nat := [39]
noncomputable def ns_l_sig : List Nat := [39]
noncomputable def b_l_sig : List S := [.ret (.call 23 [.cst (.str 28), .tup [], .var 39, .tup [], .tup [], .tup [.cst (.str 5), .tup []], .cst .none, .cst (.bool true)])]
theorem rel_l_sig (g : Gh) (p : Params) : Rel g (heapL p) 288 ps_l_sig ns_l_sig b_l_sig := relMk (by kernel_rfl) (len1 λa => by kernel_rfl) (by kernel_rfl)
noncomputable def ps_l_asked_right : List Nat := [27, 12, 19, 39]
noncomputable def ns_l_asked_right : List Nat := [27, 12, 19, 39, 22, 14, 38, 3, 17, 35, 40, 23]
noncomputable def b_l_asked_right : List S := [.setw (.attr (.var 12) 1) (.cst (.str 30)) (.call 24 [.cst (.str 30), .upto (.tup [.cst (.str 33), .cst (.str 34)]) (.var 19), .emp, .emp]), .asg [22, 14] [.v (.call 19 [.var 39]), .v (.tuple (.comp (.call 14 [.var 27, .cst (.int 1)]) [37] [27] (.rng (.cst (.int 3))) none))], .asg [38, 3] [.v (.call 14 [.var 27, .cst (.int 1)]), .d], .fore [17] (.lst [.cst (.str 35), .cst (.str 36), .cst (.str 37), .cst (.str 38)]) [.seti 3 (.var 17) (.call 14 [.var 27, .cst (.int 1)])], .frz 3, .sx 2, .ife (.cmp .NotEq (.call 9 [.var 12, .tup [.cst (.str 27), .cst (.str 28), .var 14], .var 22, .var 3]) (.var 35)) [.ret (.cst (.bool false))] [], .ife (.cmp .NotEq (.call 9 [.var 12, .tup [.cst (.str 26), .cst (.str 30), .cst (.str 29), .var 38, .var 14], .var 22, .var 3]) (.bin .Add (.lst [.tup [.cst (.str 30), .upto (.var 14) (.var 19), .var 38]]) (.var 35))) [.ret (.cst (.bool false))] [], .asg [40] [.d], .fore [17, 23] (.var 39) [.seti 40 (.var 17) (.bin .Sub (.neg (.cst (.int 1))) (.lenO 40))], .frz 40, .ret (.and (.cmp .Eq (.call 10 [.var 22]) (.var 40)) (.cmp .Eq (.call 10 [.cst .none]) .emp))]
theorem rel_l_asked_right (g : Gh) (hg : g.sxIs = sxIs0) (p : Params) : Rel g (heapL p) 293 ps_l_asked_right ns_l_asked_right b_l_asked_right := by
 refine ⟨_, _, ⟨_, rfl, rfl⟩, ⟨rfl, rfl, rfl, rfl, rfl, rfl, rfl, rfl, len4 λa b c d => rfl, by decide +kernel⟩, ?_⟩
 refine chkT_ok (n := 40) 4 (by kernel_rfl) (.mk (.frz (.mk (.sx (by
     rw [hg]
     show dueSt _ _
     exact ⟨_, _, _, rfl, DueE.mk ⟨rfl, by decide +kernel, by decide +kernel, by decide +kernel, by decide +kernel, by decide +kernel, by decide +kernel⟩, (λenv h => by cases env; cases h; rfl), by decide +kernel⟩) (chkS_ok 40 _ _ (by kernel_rfl))))))
noncomputable def ps_law : List Nat := [42]
noncomputable def ns_law : List Nat := [42, 27, 12, 39]
noncomputable def b_law : List S := [.asg [27, 12] [.v (.call 25 [.var 42]), .v (.call 26 [])], .ife (.not (.call 20 [.var 27, .var 12, .cst (.int 1), .lst [.tup [.cst (.str 36), .tup [.cst (.str 31)]], .tup [.cst (.str 35), .tup [.cst (.str 31), .cst (.str 32)]]]])) [.ret (.cst (.bool false))] [], .asgc 39 (.comp (.tup [.var 17, .upto (.tup [.cst (.str 31), .cst (.str 32)]) (.call 11 [.var 27, .cst (.int 3)])]) [17] [27] (.upto (.lst [.cst (.str 35), .cst (.str 36), .cst (.str 37)]) (.call 11 [.var 27, .cst (.int 4)])) none), .ife (.not (.call 20 [.var 27, .var 12, .call 11 [.var 27, .cst (.int 3)], .var 39])) [.ret (.cst (.bool false))] [], .ife (.not (.call 18 [.var 12, .call 14 [.var 27, .cst (.int 3)]])) [.ret (.cst (.bool false))] [], .ife (.not (.call 18 [.var 12, .tup [.cst (.str 4), .call 14 [.var 27, .cst (.int 2)], .cst (.int 2)]])) [.ret (.cst (.bool false))] [], .ret (.call 18 [.var 12, .tup [.cst (.str 6), .cst (.str 16), .tup [], .tup [.call 14 [.var 27, .cst (.int 1)]]]])]
theorem rel_law (g : Gh) (p : Params) : Rel g (heapL p) 298 ps_law ns_law b_law := relMk (by kernel_rfl) (len1 λa => by kernel_rfl) (by kernel_rfl)
noncomputable def sxF (j0 : Nat) : Sx := λj l σ => if j = j0 then (match l.lookup (cy j) with
 | some (.val d) => if hasL l (dxN j) then some (setL (setL l (cy j) (.fv d)) (dxN j) (.val (.clo j d)), σ) else none
 | _ => none) else none
noncomputable def sxD : Sx := λj l σ => if j = 2 then (match l.lookup 39, l.lookup 3 with
 | some (.val dp), some (.val tab) => (itD dp).bind λds => if ds.length <= maxLen /\ hasL l 35 = true then (dueRun tab ds).bind λrs => if rs.length <= maxLen then some (setL l 35 (.val (.list rs)), σ) else none else none
 | _, _ => none) else none
abbrev Bod := List Nat × List Nat × List S × Sx
noncomputable def bodyL : List (Option Bod) := [
 some (ps_parts_of, ns_parts_of, b_parts_of, λ_ _ _ => none),
 some (ps_rebuilt, ns_rebuilt, b_rebuilt, λ_ _ _ => none),
 some (ps_substituted, ns_substituted, b_substituted, λ_ _ _ => none),
 some (ps_with_regions, ns_with_regions, b_with_regions, λ_ _ _ => none),
 some (ps_regions_in, ns_regions_in, b_regions_in, sxF 0),
 some (ps_params_in, ns_params_in, b_params_in, λ_ _ _ => none),
 some (ps_field_rows, ns_field_rows, b_field_rows, λ_ _ _ => none),
 some (ps_fields_of, ns_fields_of, b_fields_of, sxF 1),
 some (ps_implied, ns_implied, b_implied, λ_ _ _ => none),
 some (ps_asked_of, ns_asked_of, b_asked_of, λ_ _ _ => none),
 some (ps_param_regions, ns_param_regions, b_param_regions, λ_ _ _ => none),
 some (ps_l_take, ns_l_take, b_l_take, λ_ _ _ => none),
 some (ps_l_one, ns_l_one, b_l_one, λ_ _ _ => none),
 some (ps_l_regions, ns_l_regions, b_l_regions, λ_ _ _ => none),
 some (ps_l_type, ns_l_type, b_l_type, λ_ _ _ => none),
 some (ps_l_below, ns_l_below, b_l_below, λ_ _ _ => none),
 some (ps_l_reached, ns_l_reached, b_l_reached, λ_ _ _ => none),
 some (ps_l_within, ns_l_within, b_l_within, λ_ _ _ => none),
 some (ps_l_implied_right, ns_l_implied_right, b_l_implied_right, λ_ _ _ => none),
 some (ps_l_sig, ns_l_sig, b_l_sig, λ_ _ _ => none),
 some (ps_l_asked_right, ns_l_asked_right, b_l_asked_right, sxD),
 none,
 none,
 none,
 none,
 some (ps_l_pool, ns_l_pool, b_l_pool, λ_ _ _ => none),
 some (ps_l_world, ns_l_world, b_l_world, λ_ _ _ => none),
 some (ps_law, ns_law, b_law, λ_ _ _ => none)]
noncomputable def bodyOf (f : Nat) : Option Bod := bodyL.getD f none
noncomputable def clsRun (f : Nat) (ds : List D) (σ : Sg) : Option (D × Sg) :=
 if f = 21 then if ds.length = 1 /\ σ.ad.isNone = true /\ σ.tr.isNone = true then some (.inst 209 [0, 1] [.adts, .trs], { σ with ad := some ([], []), tr := some ([], []) }) else none
 else if f = 22 then if ds.length = 5 then some (.inst 138 [3, 2, 4] [ds.getD 1 .none, ds.getD 2 .none, ds.getD 3 .none], σ) else none
 else if f = 23 then if ds.length = 8 then some (.inst 159 [2] [ds.getD 2 .none], σ) else none
 else if f = 24 then if ds.length = 4 then some (.inst 180 [2] [ds.getD 1 .none], σ) else none
 else none
noncomputable def ext0 (d : D) (σ : Sg) : Option (D × Sg) := match d with
 | .inst c fs fd => (match lookD fs fd 2 with
  | some (.list ds) => if ds.length <= 100 then (numsRun 0 ds).bind λp => if p.1.Nodup /\ (∀ k ∈ p.1, k < 39) then some (.dict p.1 p.2, σ) else none else none
  | _ => none)
 | _ => none
noncomputable def extRun : Nat -> List D -> Sg -> Option (D × Sg)
 | 0, [d], σ => ext0 d σ
 | _, _, _ => none
noncomputable def cloRun (j : Nat) (ds : List D) (σ : Sg) : Option (D × Sg) := match ds with
 | [dc, a] => cloGo j dc a σ
 | _ => none
noncomputable def run : Nat -> Calls
 | 0, _, _, _ => none
 | k + 1, f, ds, σ => if 2000 <= f then extRun (f - 2000) ds σ else if 21 <= f /\ f < 25 then (if 2 <= k then clsRun f ds σ else none) else if 1000 <= f then cloRun (f - 1000) ds σ else (bodyOf f).bind λp => fnRun (run k) p.2.2.2 p.1 p.2.1 p.2.2.1 ds σ
noncomputable def faL : List Addr := [61, 68, 73, 78, 85, 92, 99, 104, 109, 114, 119, 227, 234, 248, 255, 262, 269, 276, 281, 288, 293, 209, 138, 159, 180, 220, 241, 298]
structure Mod (g : Gh) (p : Params) : Prop where
 st : St g
 cl : g.isClo = cloIs
 sx : g.sxIs = sxIs0
 K : g.K = heapL p
 fa : ∀ i < 28, g.fa i = faL.getD i 0
 ext : g.extIs = extIs0
 t1 : g.tab 80 = some "regions_in.<locals>.noted"
 t2 : g.tab 101 = some "fields_of.<locals>.put_in"
 b1 : g.h₀.BuiltinsAt g.mg 80
 b2 : g.h₀.BuiltinsAt g.mg 101
theorem Rel.fn {g : Gh} {p : Params} (hK : g.K.In g.h₀) (e : g.K = heapL p) {a : Addr} {ps ns : List Nat} {b : List S} (r : Rel g (heapL p) a ps ns b) : ∃ fd stmts, FnAt g a fd ps ns stmts /\ IsSs g fd.scope b stmts /\ ∃ o, (heapL p).lookup a = some o /\ o.data = .func fd := by
 obtain ⟨fd, stmts, ⟨o, h1, h2⟩, m, hi⟩ := r
 rw [e] at hK
 refine ⟨fd, stmts, ⟨⟨o, hK _ _ h1, h2⟩, m.body, m.clo, m.kind, m.co, m.ge, m.gl, m.bu, codeRec_of hK m.code, m.bind, m.kinds, m.sub, m.nd, m.n48, m.cel⟩, hi, o, h1, h2⟩
theorem nest4 (p : Params) {fd : FuncData} (h : ∃ o, (heapL p).lookup 85 = some o ∧ o.data = .func fd) : fd.code = .ref 84 ∧ fd.qualname = "regions_in" ∧ fd.scope.names.lookup (vN 8) = some .local ∧ fd.scope.names.lookup (vN 7) = some .cell := by
 obtain ⟨o, h1, h2⟩ := h
 cases h1
 cases h2
 exact ⟨rfl, rfl, by decide +kernel, by decide +kernel⟩
theorem nest7 (p : Params) {fd : FuncData} (h : ∃ o, (heapL p).lookup 104 = some o ∧ o.data = .func fd) : fd.code = .ref 103 ∧ fd.qualname = "fields_of" ∧ fd.scope.names.lookup (vN 16) = some .cell ∧ fd.scope.names.lookup (vN 15) = some .cell := by
 obtain ⟨o, h1, h2⟩ := h
 cases h1
 cases h2
 exact ⟨rfl, rfl, by decide +kernel, by decide +kernel⟩
theorem codeHd4 (p : Params) {h : Heap} (X : (heapL p).In h) : CodeHd h 84 80 := ⟨_, _, _, _, _, _, _, _, _, X 84 _ rfl, rfl, rfl, rfl, rfl, rfl, rfl, rfl, rfl, by decide⟩
theorem codeHd7 (p : Params) {h : Heap} (X : (heapL p).In h) : CodeHd h 103 101 := ⟨_, _, _, _, _, _, _, _, _, X 103 _ rfl, rfl, rfl, rfl, rfl, rfl, rfl, rfl, rfl, by decide⟩
theorem mVal {β : Type} {o : Option LV} {f : D -> Option β} {b : β} {G : Prop} (h : (match o with | some (.val d) => f d | _ => none) = some b) (k : ∀ d, o = some (.val d) -> f d = some b -> G) : G := by
 cases o with
 | none => exact no h
 | some lv => cases lv <;> first | exact k _ rfl h | exact no h
theorem mVal2 {β : Type} {o o' : Option LV} {f : D -> D -> Option β} {b : β} {G : Prop} (h : (match o, o' with | some (.val d), some (.val e) => f d e | _, _ => none) = some b) (k : ∀ d e, o = some (.val d) -> o' = some (.val e) -> f d e = some b -> G) : G := by
 cases o with
 | none => exact no h
 | some lv =>
  cases lv with
  | val d =>
   cases o' with
   | none => exact no h
   | some lv => cases lv <;> first | exact k _ _ rfl rfl h | exact no h
  | _ => exact no h
theorem mLst {β : Type} {o : Option D} {f : List D -> Option β} {b : β} {G : Prop} (h : (match o with | some (.list ds) => f ds | _ => none) = some b) (k : ∀ ds, o = some (.list ds) -> f ds = some b -> G) : G := by
 cases o with
 | none => exact no h
 | some d => cases d <;> first | exact k _ rfl h | exact no h
theorem body_ne : ∀ {j : Nat} {b : List Stmt}, bodyIs j b -> dxN j ≠ cy j
 | 0, _, _ => by decide
 | 1, _, _ => by decide
 | _ + 2, _, h => h.elim
theorem sx_ok {g : Gh} {p : Params} (M : Mod g p) {j : Nat} (hj2 : j ≠ 2) {A : Around} {fd : FuncData} {L a cc P : Addr} (hcode : fd.code = .ref cc) (hC : CodeHd g.h₀ cc P) (htab : g.tab P = some (fd.qualname ++ ".<locals>." ++ vN (dxN j))) (hP : mainGlobals ≠ P) (hbi : g.h₀.BuiltinsAt g.mg P)
  (hx : fd.scope.names.lookup (vN (dxN j)) = some .local \/ fd.scope.names.lookup (vN (dxN j)) = some .cell) (hy : fd.scope.names.lookup (vN (cy j)) = some .cell) : SxOk g A (callEnvC fd L a) (sxF j) := by
 intro j' st l σ l' σ' own s Q E hj he r K
 refine iE he λe h2 => mVal h2 λd hl h3 => iE h3 λhh h4 => ?_
 subst e
 cases Option.some.inj h4
 rw [M.sx] at hj
 have hj : sxIs1 j' st := by unfold sxIs0 at hj; rwa [if_neg hj2] at hj
 obtain ⟨params, body, scope, pos, e, D0, hb⟩ := hj
 subst e
 have hk : ∀ x, (callEnvC fd L a).kindOf x = fd.scope.names.lookup x := λ_ => rfl
 refine def_ok M.st M.cl hbi D0 hb hcode hC ?_ hP (body_ne hb) hh ?_ ((hk _).trans hy) r hl K
 ·rw [htab]
  unfold qualnameIn
  rw [hk]
  rcases hx with q | q <;> rw [q] <;> rfl
 ·rw [hk]
  exact hx.elim (λq e => nomatch q.symm.trans e) λq e => nomatch q.symm.trans e
theorem sxD_ok {g : Gh} {p : Params} (M : Mod g p) {C : Calls} {k : Nat} (hc : COk g C k) {A : Around} (ca : CA A k) {env : Env} : SxOk g A env sxD := by
 intro j st l σ l' σ' own s Q E hj he r K
 refine iE he λe k1 => mVal2 k1 λdp tab h39 h3 k2 => bE k2 λds hq k3 => iE k3 λhlen k4 => bE k4 λrs hd k5 => iE k5 λhl k6 => ?_
 subst e
 cases Option.some.inj k6
 rw [M.sx] at hj
 obtain ⟨pn, e, pst, q, hE, hsw, hok⟩ := (show dueSt env.scope st from hj)
 subst q
 exact due_ok M.st hc ca r hE (hsw env rfl) hok hlen.2 h39 h3 hq hlen.1 hd hl K
theorem sx_none {g : Gh} {A : Around} {env : Env} : SxOk g A env (λ_ _ _ => none) := λ_ _ _ _ _ _ _ _ _ _ _ he => no he
structure BodyOk (g : Gh) (p : Params) (f : Nat) (x : Bod) : Prop where
 rel : Rel g (heapL p) (faL.getD f 0) x.1 x.2.1 x.2.2.1
 sx : ∀ {C : Calls} {k : Nat}, COk g C k -> ∀ fd, (∃ o, (heapL p).lookup (faL.getD f 0) = some o /\ o.data = .func fd) -> ∀ (A : Around) (L : Addr), CA A k -> SxOk g A (callEnvC fd L (faL.getD f 0)) x.2.2.2
theorem plainB {g : Gh} {p : Params} {f : Nat} {ps ns : List Nat} {b : List S} (r : Rel g (heapL p) (faL.getD f 0) ps ns b) : BodyOk g p f (ps, ns, b, λ_ _ _ => none) := ⟨r, λ_ _ _ _ _ _ => sx_none⟩
inductive AllB (g : Gh) (p : Params) : Nat -> List (Option Bod) -> Prop
 | nil {f : Nat} : AllB g p f []
 | none {f : Nat} {l : List (Option Bod)} : AllB g p (f + 1) l -> AllB g p f (.none :: l)
 | some {f : Nat} {x : Bod} {l : List (Option Bod)} : BodyOk g p f x -> AllB g p (f + 1) l -> AllB g p f (.some x :: l)
theorem AllB.get {g : Gh} {p : Params} {x : Bod} : ∀ {l : List (Option Bod)} {f i : Nat}, AllB g p f l -> l.getD i .none = .some x -> BodyOk g p (f + i) x
 | [], _, _, _, h => no h
 | _ :: _, f, 0, a, h => by cases a with | none r => exact no h | some k r => exact Option.some.inj h ▸ k
 | _ :: _, f, i + 1, a, h => by
  have k : ∀ {l}, AllB g p (f + 1) l -> l.getD i .none = .some x -> BodyOk g p (f + (i + 1)) x := λa h => (Nat.add_right_comm f i 1 : f + (i + 1) = f + 1 + i) ▸ AllB.get a h
  cases a with | none r => exact k r h | some _ r => exact k r h
theorem bodyOf_lt {f : Nat} {x : Bod} (h : bodyOf f = some x) : f < 28 := by
 refine Nat.lt_of_not_le λq => no (?_ : (none : Option Bod) = some x)
 rw [<- h]
 exact (show bodyL.getD f none = none by rw [List.getD, List.getElem?_eq_none q]; rfl).symm
theorem rels {g : Gh} {p : Params} (M : Mod g p) : AllB g p 0 bodyL := by
 have hK : (heapL p).In g.h₀ := M.K ▸ M.st.KIn
 exact (.some (plainB (rel_parts_of g p))
  (.some (plainB (rel_rebuilt g p))
  (.some (plainB (rel_substituted g p))
  (.some (plainB (rel_with_regions g p))
  (.some ⟨rel_regions_in g M.sx p, λhc fd ho A L ca => by obtain ⟨e1, e2, e3, e4⟩ := nest4 p ho; exact sx_ok M (j := 0) (by decide) e1 (codeHd4 p hK) (by rw [e2]; exact M.t1) (by decide) M.b1 (.inl e3) e4⟩
  (.some (plainB (rel_params_in g p))
  (.some (plainB (rel_field_rows g p))
  (.some ⟨rel_fields_of g M.sx p, λhc fd ho A L ca => by obtain ⟨e1, e2, e3, e4⟩ := nest7 p ho; exact sx_ok M (j := 1) (by decide) e1 (codeHd7 p hK) (by rw [e2]; exact M.t2) (by decide) M.b2 (.inr e3) e4⟩
  (.some (plainB (rel_implied g p))
  (.some (plainB (rel_asked_of g p))
  (.some (plainB (rel_param_regions g M.ext p))
  (.some (plainB (rel_l_take g p))
  (.some (plainB (rel_l_one g p))
  (.some (plainB (rel_l_regions g p))
  (.some (plainB (rel_l_type g p))
  (.some (plainB (rel_l_below g p))
  (.some (plainB (rel_l_reached g p))
  (.some (plainB (rel_l_within g p))
  (.some (plainB (rel_l_implied_right g p))
  (.some (plainB (rel_l_sig g p))
  (.some ⟨rel_l_asked_right g M.sx p, λhc fd ho A L ca => sxD_ok M hc ca⟩
  (.none
  (.none
  (.none
  (.none
  (.some (plainB (rel_l_pool g p))
  (.some (plainB (rel_l_world g p))
  (.some (plainB (rel_law g p))
  .nil))))))))))))))))))))))))))))
theorem clsOk_of {g : Gh} {p : Params} (M : Mod g p) {C : Addr} (h1 : hasDictIn (heapL p) C = true) (h2 : plainGet (heapL p) C (aN 0) = true) (h3 : (List.range 21).all (λx => match findIn (heapL p) (.ref C) (aN x) with | some attr => noGet (heapL p) attr | none => false) = true) : clsOk g.K C := by
 rw [M.K]
 refine ⟨h1, h2, λx hx => ?_⟩
 have := List.all_eq_true.mp h3 x (List.mem_range.mpr hx)
 split at this
 ·rename_i attr e; exact ⟨attr, e, this⟩
 ·cases this
theorem CA.down {A : Around} {k : Nat} (ca : CA A (k + 1)) : CA A k := ⟨ca.hd, by have := ca.dp; lia, by have := ca.un; lia⟩
theorem cls_ok {g : Gh} {p : Params} (M : Mod g p) {A : Around} {own : Addr -> Tag} {s : Shared} {f : Nat} {vs : List Value} {ds : List D} {σ σ' : Sg} {d : D} (hf : 21 <= f /\ f < 25) (hd' : A.depth + 2 < recursionLimit) (r : RG g own σ s.heap) (y : AtL g s.heap own vs ds) (he : clsRun f ds σ = some (d, σ')) : Gives g A own s (call (.ref (g.fa f)) vs []) d σ' := by
 rw [M.fa f (by lia)]
 have hf' : f = 21 \/ f = 22 \/ f = 23 \/ f = 24 := by lia
 rcases hf' with rfl | rfl | rfl | rfl
 ·obtain ⟨fd, stmts, F⟩ := initW M.st.KIn M.K
  exact iE he λ_ he => iE he λh q => by
   cases q
   exact class_world M.st F hd' r y h.1 (clsOk_of M (by rfl) (by rfl) (by rfl)) (Option.isNone_iff_eq_none.mp h.2.1) (Option.isNone_iff_eq_none.mp h.2.2) (.tail _ (.head _)) (.tail _ (.tail _ (.tail _ (.tail _ (.head _)))))
 ·obtain ⟨fd, stmts, F⟩ := initAdt M.st.KIn M.K
  exact iE he λh q => by
   cases q
   exact class_plain (ks := [3, 2, 4]) (ix := [1, 2, 3]) M.st F hd' r y h (clsOk_of M (by rfl) (by rfl) (by rfl)) (by decide) rfl (λj i k h1 h2 => by
    match j, h1, h2 with
    | 0, h1, h2 => cases h1; cases h2; exact ⟨rfl, .tail _ (.tail _ (.head _))⟩
    | 1, h1, h2 => cases h1; cases h2; exact ⟨rfl, .tail _ (.tail _ (.tail _ (.head _)))⟩
    | 2, h1, h2 => cases h1; cases h2; exact ⟨rfl, .tail _ (.tail _ (.tail _ (.tail _ (.head _))))⟩
    | j + 3, h1, _ => cases h1)
 ·obtain ⟨fd, stmts, F⟩ := initSig M.st.KIn M.K
  exact iE he λh q => by
   cases q
   exact class_plain (ks := [2]) (ix := [2]) M.st F hd' r y h (clsOk_of M (by rfl) (by rfl) (by rfl)) (by decide) rfl (λj i k h1 h2 => by
    match j, h1, h2 with
    | 0, h1, h2 => cases h1; cases h2; exact ⟨rfl, .tail _ (.tail _ (.head _))⟩
    | j + 1, h1, _ => cases h1)
 ·obtain ⟨fd, stmts, F⟩ := initTr M.st.KIn M.K
  exact iE he λh q => by
   cases q
   exact class_plain (ks := [2]) (ix := [1]) M.st F hd' r y h (clsOk_of M (by rfl) (by rfl) (by rfl)) (by decide) rfl (λj i k h1 h2 => by
    match j, h1, h2 with
    | 0, h1, h2 => cases h1; cases h2; exact ⟨rfl, .tail _ (.head _)⟩
    | j + 1, h1, _ => cases h1)
theorem vals_one {l : Loc} {i : Nat} {ds : List D} (h : valsOf l [i] = some ds) : ∃ d, ds = [d] /\ l.lookup i = some (.val d) :=
 mVal h λd q h => ⟨d, (Option.some.inj h).symm, q⟩
theorem ext_ok {g : Gh} {p : Params} (M : Mod g p) {k : Nat} {C : Calls} (hc : COk g C k) {A : Around} {own : Addr → Tag} {s : Shared} {sc : Scope} {e : Expr} {env : Env} {l : Loc} {vs : List Nat} {ds : List D} {σ σ' : Sg} {d : D} (ca : CA A k) (hs : ScOf sc env) (r : R g own env l σ s.heap) (hv : valsOf l vs = some ds) :
  ∀ {j : Nat}, extIs0 j sc e vs -> extRun j ds σ = some (d, σ') -> Gives g A own s (eval e env) d σ'
 | 0, hj, he => by
  obtain ⟨q, hE⟩ := hj
  subst q
  obtain ⟨dv, q, hl⟩ := vals_one hv
  subst q
  exact mInst (show ext0 dv σ = _ from he) λc fs fd q he => mLst he λds' h2 he => iE he λhlen he => bE he λp h3 he => iE he λh4 he => pE2 (P := λd σ' => Gives g A own s (eval e env) d σ') he (enum_ok M.st hc ca hs r hE (q ▸ hl) h2 hlen h3 h4.1 h4.2)
 | _ + 1, hj, _ => hj.elim
theorem run_ext {k j : Nat} {ds : List D} {σ : Sg} : run (k + 1) (2000 + j) ds σ = extRun j ds σ := (if_pos (Nat.le_add_right _ _)).trans (congrArg (λi => extRun i ds σ) (Nat.add_sub_cancel_left ..))
theorem run_cls {k f : Nat} {ds : List D} {σ : Sg} (h : 21 <= f /\ f < 25) : run (k + 1) f ds σ = if 2 <= k then clsRun f ds σ else none := (if_neg (Nat.not_le.mpr (Nat.lt_trans h.2 (by decide)))).trans (if_pos h)
theorem run_clo {k j : Nat} {ds : List D} {σ : Sg} (h : j < 1000) : run (k + 1) (1000 + j) ds σ = cloRun j ds σ :=
 (if_neg (Nat.not_le.mpr (Nat.add_lt_add_left h 1000))).trans ((if_neg λq => absurd (Nat.lt_of_le_of_lt (Nat.le_add_right 1000 j) q.2) (by decide)).trans ((if_pos (Nat.le_add_right _ _)).trans (congrArg (λi => cloRun i ds σ) (Nat.add_sub_cancel_left ..))))
theorem run_fn {k f : Nat} {ds : List D} {σ : Sg} (h : f < 28) (h' : ¬(21 <= f /\ f < 25)) : run (k + 1) f ds σ = (bodyOf f).bind λp => fnRun (run k) p.2.2.2 p.1 p.2.1 p.2.2.1 ds σ :=
 (if_neg (Nat.not_le.mpr (Nat.lt_trans h (by decide)))).trans ((if_neg h').trans (if_neg (Nat.not_le.mpr (Nat.lt_trans h (by decide)))))
theorem clo_lt {g : Gh} {own : Addr -> Tag} {h : Heap} {fv : Value} {dc : D} (hcl : g.isClo = cloIs) : ∀ {j : Nat}, At g h own fv (.clo j dc) -> j < 1000
 | 0, _ => by decide
 | 1, _ => by decide
 | j + 2, y => y.clo_e λfa c fo oc fd w f1 h1 hdat hc _ _ _ _ _ => (show cloIs (j + 2) fd c from hcl ▸ hc).elim
theorem run_ok {g : Gh} {p : Params} (M : Mod g p) : ∀ k, COk g (run k) k
 | 0 => ⟨λ_ _ _ _ _ _ _ _ _ _ _ _ _ he => no he, λ_ _ _ _ _ _ _ _ _ _ _ _ _ _ _ he => no he, λ_ _ _ _ _ _ _ _ _ _ _ _ _ _ _ _ _ _ he => no he⟩
 | k + 1 => by
  have ih := run_ok M k
  refine ⟨λA own s f vs ds σ d σ' hf ca r y he => ?_, λA own s j fv v dc a σ d σ' ca r yf yv he => ?_, λA own s j sc e env l vs ds σ d σ' hj ca hs r hv he => ?_⟩
  ·by_cases hcl : 21 <= f /\ f < 25
   ·rw [run_cls hcl] at he
    exact iE he λhk2 he => cls_ok M hcl (Nat.lt_of_le_of_lt (Nat.add_le_add_left (Nat.le_succ_of_le hk2) _) ca.dp) r y he
   ·rw [run_fn hf hcl] at he
    refine bE he λx hx he => ?_
    have B := (rels M).get (show bodyL.getD f none = some x from hx)
    rw [Nat.zero_add] at B
    rw [M.fa f (bodyOf_lt hx)]
    obtain ⟨fd, stmts, F, hi, ho⟩ := B.rel.fn M.st.KIn M.K
    exact call_fn M.st F hi ih (λA L ca' => B.sx ih fd ho A L ca') ca r y he
  ·rw [run_clo (clo_lt M.cl yf)] at he
   exact clo_ok M.st M.cl (Nat.lt_of_le_of_lt (Nat.le_add_right _ _) ca.dp) r yv yf he
  ·rw [run_ext] at he
   exact ext_ok M ih ca.down hs r hv (M.ext ▸ hj) he
end Mine
end
section
open PySem PySem.W PySem.Calls
set_option maxRecDepth 100000
namespace Mine
inductive Ty where
 | bool | par (k : Nat) | ref (r : Nat) (m : Bool) (t : Ty) | box (t : Ty) | arr (t : Ty) | pair (t u : Ty) | S (r : Nat) (t : Ty) | E (r q : Nat) (t : Ty) | L (t : Ty)
noncomputable def enc : Ty -> D
 | .bool => .tup [.str 0]
 | .par k => .tup [.str 1, .str k]
 | .ref r m t => .tup [.str 2, .str r, .bool m, enc t]
 | .box t => .tup [.str 3, enc t]
 | .arr t => .tup [.str 4, enc t, .int 2]
 | .pair t u => .tup [.str 5, .tup [enc t, enc u]]
 | .S r t => .tup [.str 6, .str 14, .tup [.str r], .tup [enc t]]
 | .E r q t => .tup [.str 6, .str 15, .tup [.str r, .str q], .tup [enc t]]
 | .L t => .tup [.str 6, .str 16, .tup [], .tup [enc t]]
noncomputable def tag : Ty -> Nat
 | .bool => 0 | .par _ => 1 | .ref _ _ _ => 2 | .box _ => 3 | .arr _ => 4 | .pair _ _ => 5 | _ => 6
theorem item_tag {σ : Sg} : ∀ v, item σ (enc v) (.int 0) = some (.str (tag v))
 | .bool => rfl | .par _ => rfl | .ref _ _ _ => rfl | .box _ => rfl | .arr _ => rfl | .pair _ _ => rfl | .S _ _ => rfl | .E _ _ _ => rfl | .L _ => rfl
theorem tag_test {C : Calls} {n : Nat} {l : Loc} {σ : Sg} {x j : Nat} {v : Ty} (h : l.lookup x = some (.val (enc v))) : ev C (n + 3) l σ (.cmp .Eq (.idx (.var x) (.cst (.int 0))) (.cst (.str j))) = some (.bool (tag v == j), σ) :=
 ev_cmp (ev_idx (ev_var h) rfl (item_tag v)) rfl rfl
theorem at_test {C : Calls} {n : Nat} {l : Loc} {σ : Sg} {x : Nat} {i : Int} {d r : D} (h : l.lookup x = some (.val d)) (hi : item σ d (.int i) = some r) : ev C (n + 2) l σ (.idx (.var x) (.cst (.int i))) = some (r, σ) := ev_idx (ev_var h) rfl hi
noncomputable def parts : Ty -> List Ty
 | .bool => [] | .par _ => [] | .ref _ _ t => [t] | .box t => [t] | .arr t => [t] | .pair t u => [t, u] | .S _ t => [t] | .E _ _ t => [t] | .L t => [t]
theorem rev_enc (v : Ty) (st : List Ty) : (v :: st).reverse.map enc = st.reverse.map enc ++ [enc v] := by rw [List.reverse_cons, List.map_append]; rfl
theorem last_enc (v : Ty) (st : List Ty) : ((v :: st).reverse.map enc).getLast? = some (enc v) := by rw [rev_enc]; exact List.getLast?_concat ..
theorem drop_enc (v : Ty) (st : List Ty) : ((v :: st).reverse.map enc).dropLast = st.reverse.map enc := by rw [rev_enc]; exact List.dropLast_concat ..
theorem len_enc (st : List Ty) : (st.reverse.map enc).length = st.length := by rw [List.length_map, List.length_reverse]
theorem ne_enc (v : Ty) (st : List Ty) : ((v :: st).reverse.map enc).isEmpty = false := by rw [rev_enc]; cases st.reverse.map enc <;> rfl
theorem push_enc (us st : List Ty) : st.reverse.map enc ++ us.map enc = (us.reverse ++ st).reverse.map enc := by rw [List.reverse_append, List.reverse_reverse, List.map_append]
theorem push_enc' (us st : List Ty) : st.reverse.map enc ++ (us.map enc).reverse = (us ++ st).reverse.map enc := by rw [List.reverse_append, List.map_append, List.map_reverse (l := us)]
theorem parts_2 : ∀ v, (parts v).length <= 2
 | .bool => Nat.zero_le _ | .par _ => Nat.zero_le _ | .ref _ _ _ => Nat.le_succ _ | .box _ => Nat.le_succ _ | .arr _ => Nat.le_succ _ | .pair _ _ => Nat.le_refl _ | .S _ _ => Nat.le_succ _ | .E _ _ _ => Nat.le_succ _ | .L _ => Nat.le_succ _
structure NoAc (σ : Sg) : Prop where
 no : σ.ac = none
noncomputable def outS (p : Out × Loc × Sg) : Out × Sg := (p.1, p.2.2)
theorem outS_e {o : Option (Out × Loc × Sg)} {r : Out} {σ : Sg} {G : Prop} (h : o.map outS = some (r, σ)) (k : ∀ l, o = some (r, l, σ) -> G) : G := by
 cases o with
 | none => exact nomatch h
 | some p => exact k p.2.1 (congrArg some ((congrArg (λq => (q.1, p.2.1, q.2)) (Option.some.inj h) : (p.1, p.2.1, p.2.2) = (r, p.2.1, σ))))
theorem fnRun_f {C : Calls} {sx : Sx} {ps ns : List Nat} {b : List S} {ds : List D} {σ σ' : Sg} {d : D} (hl : ds.length = ps.length) (h : (xs C sx fuel (loc0 ps ds ns) σ b).map outS = some (.ret d, σ')) (hac : σ.ac.isSome = σ'.ac.isSome) : fnRun C sx ps ns b ds σ = some (d, σ') :=
 outS_e h λl h => (if_pos hl).trans (bindS h (if_pos hac))
theorem fnRun_of {C : Calls} {sx : Sx} {ps ns : List Nat} {b : List S} {ds : List D} {σ σ' : Sg} {d : D} (hl : ds.length = ps.length) (h : ∀ m, (xs C sx (m + 100) (loc0 ps ds ns) σ b).map outS = some (.ret d, σ')) (hac : σ.ac.isSome = σ'.ac.isSome) : fnRun C sx ps ns b ds σ = some (d, σ') := fnRun_f hl (h 999900) hac
theorem run0 (k : Nat) (ds : List D) (σ : Sg) : run (k + 1) 0 ds σ = fnRun (run k) (λ_ _ _ => none) ps_parts_of ns_parts_of b_parts_of ds σ := run_fn (f := 0) (by decide) (by decide)
theorem run1 (k : Nat) (ds : List D) (σ : Sg) : run (k + 1) 1 ds σ = fnRun (run k) (λ_ _ _ => none) ps_rebuilt ns_rebuilt b_rebuilt ds σ := run_fn (f := 1) (by decide) (by decide)
theorem parts_of_run (k : Nat) (t : Ty) (σ : Sg) : run (k + 1) 0 [enc t] σ = some (.tup ((parts t).map enc), σ) := by
 refine (run0 _ _ _).trans (fnRun_of rfl (λm => ?_) rfl)
 generalize run k = C
 cases t <;> kernel_rfl
noncomputable def reb : Ty -> List Ty -> Ty
 | .ref r m t, ps => .ref r m (ps.headD t) | .box t, ps => .box (ps.headD t) | .arr t, ps => .arr (ps.headD t) | .pair t u, ps => .pair (ps.headD t) (ps.tail.headD u) | .S r t, ps => .S r (ps.headD t) | .E r q t, ps => .E r q (ps.headD t) | .L t, ps => .L (ps.headD t) | .bool, _ => .bool | .par k, _ => .par k
section
variable {α : Type} {P : List α -> Prop} {ps : List α}
@[elab_as_elim] theorem l0_e (h : ps.length = 0) (k : P []) : P ps := List.eq_nil_of_length_eq_zero h ▸ k
@[elab_as_elim] theorem l1_e (h : ps.length = 1) (k : ∀ a, P [a]) : P ps := by
 cases ps with
 | nil => exact nomatch h
 | cons a r => exact l0_e (P := λr => P (a :: r)) (Nat.succ.inj h) (k a)
@[elab_as_elim] theorem l2_e (h : ps.length = 2) (k : ∀ a b, P [a, b]) : P ps := by
 cases ps with
 | nil => exact nomatch h
 | cons a r => exact l1_e (P := λr => P (a :: r)) (Nat.succ.inj h) (k a)
end
theorem rebuilt_run (k : Nat) (t : Ty) (ps : List Ty) (σ : Sg) (h : ps.length = (parts t).length) : run (k + 1) 1 [enc t, .list (ps.map enc)] σ = some (enc (reb t ps), σ) := by
 refine (run1 _ _ _).trans (fnRun_of rfl (λm => ?_) rfl)
 generalize run k = C
 cases t with
 | bool => exact l0_e h (by kernel_rfl)
 | par => exact l0_e h (by kernel_rfl)
 | pair => exact l2_e h λa b => by kernel_rfl
 | _ => exact l1_e h λa => by kernel_rfl
section
variable {C : Calls} {sx : Sx} {n : Nat} {l l' : Loc} {σ σ₁ σ₂ : Sg} {x y f : Nat} {e t : X} {d : D} {a b rest : List S}
theorem xs_nil : xs C sx (n + 1) l σ [] = some (.next, l, σ) := rfl
theorem xs_asg (h : ev C evN l σ e = some (d, σ₁)) (hx : hasL l x = true) : xs C sx (n + 1) l σ (.asg [x] [.v e] :: rest) = xs C sx n (setL l x (.val d)) σ₁ rest :=
 ifS (all1 hx) (bindS (o := rhs C [x] l σ [x] [.v e]) (bindS (o := rh C [x] l σ (.v e)) (bindS h rfl) rfl) rfl)
theorem xs_ife {c : Bool} (h : ev C evN l σ t = some (.bool c, σ₁)) : xs C sx (n + 1) l σ (.ife t a b :: rest) = (xs C sx n l σ₁ (if c then a else b)).bind fun q => match q.1 with
  | .next => xs C sx n q.2.1 q.2.2 rest
  | .ret d => some (.ret d, q.2) := bindS h rfl
theorem xs_ife_t {r : Out × Loc × Sg} (h : ev C evN l σ t = some (.bool true, σ₁)) (ha : xs C sx n l σ₁ a = some (.ret d, r.2)) : xs C sx (n + 1) l σ (.ife t a b :: rest) = some (.ret d, r.2) := by
 rw [xs_ife h, if_pos rfl, ha]; rfl
theorem xs_ife_n {c : Bool} (h : ev C evN l σ t = some (.bool c, σ₁)) (ha : xs C sx n l σ₁ (if c then a else b) = some (.next, l', σ₂)) : xs C sx (n + 1) l σ (.ife t a b :: rest) = xs C sx n l' σ₂ rest := by
 rw [xs_ife h, ha]; rfl
theorem xs_ife_0 (h : ev C evN l σ t = some (.bool false, σ₁)) : xs C sx (n + 2) l σ (.ife t a [] :: rest) = xs C sx (n + 1) l σ₁ rest := xs_ife_n (n := n + 1) h rfl
theorem xs_ret (h : ev C evN l σ e = some (d, σ₁)) : xs C sx (n + 1) l σ (.ret e :: rest) = some (.ret d, l, σ₁) := bindS h rfl
theorem xs_app {ds : List D} (h : ev C evN l σ e = some (d, σ₁)) (hl : l.lookup y = some (.ow ds)) (hlen : ds.length <= maxLen) : xs C sx (n + 1) l σ (.app y e :: rest) = xs C sx n (setL l y (.ow (ds ++ [d]))) σ₁ rest := bindS h (by rw [hl]; exact if_pos hlen)
theorem xs_ext {ds es : List D} (h : ev C evN l σ e = some (d, σ₁)) (hq : seqD d = some es) (hl : l.lookup y = some (.ow ds)) (hlen : ds.length + es.length <= maxLen) : xs C sx (n + 1) l σ (.ext y e :: rest) = xs C sx n (setL l y (.ow (ds ++ es))) σ₁ rest := bindS h (by rw [hl]; exact bindS hq (if_pos hlen))
theorem xs_whl_f (h : ev C evN l σ t = some (.bool false, σ₁)) : xs C sx (n + 1) l σ (.whl t b :: rest) = xs C sx n l σ₁ rest := bindS h rfl
theorem xs_whl_t (h : ev C evN l σ t = some (.bool true, σ₁)) (hb : xs C sx n l σ₁ b = some (.next, l', σ₂)) : xs C sx (n + 1) l σ (.whl t b :: rest) = xs C sx n l' σ₂ (.whl t b :: rest) := bindS h (bindS hb rfl)
theorem xs_reto {ds : List D} (hl : l.lookup y = some (.ow ds)) : xs C sx (n + 1) l σ (.reto y :: rest) = some (.ret (.list ds), l, σ) := by
 conv => lhs; whnf
 rw [hl]
theorem ev_call {xs : List X} {ds : List D} (h : evs (ev C n l) σ xs = some (ds, σ₁)) : ev C (n + 1) l σ (.call f xs) = C f ds σ₁ := bindS h rfl
theorem evs_nil {g : Sg -> X -> Option (D × Sg)} : evs g σ [] = some ([], σ) := rfl
theorem evs_cons {g : Sg -> X -> Option (D × Sg)} {xs : List X} {ds : List D} (h1 : g σ e = some (d, σ₁)) (h2 : evs g σ₁ xs = some (ds, σ₂)) : evs g σ (e :: xs) = some (d :: ds, σ₂) := bindS h1 (bindS h2 rfl)
theorem ev_comp {elt src : X} {ts fre : List Nat} {cond : Option X} {ds rs : List D} (h1 : ev C n l σ src = some (d, σ₁)) (hq : itD d = some ds) (hlen : ds.length ≤ maxLen) (hf : fre.all (fun i => (l.lookup i).isSome) = true)
  (h2 : evc (ev C n) (l.filter λq => fre.contains q.1 && notFv q.2) elt ts cond σ₁ ds = some (rs, σ₂)) : ev C (n + 1) l σ (.comp elt ts fre src cond) = some (.list rs, σ₂) := bindS h1 (bindS hq (ifS ⟨hlen, hf⟩ (bindS h2 rfl)))
theorem evc_nil {g : Loc -> Sg -> X -> Option (D × Sg)} {ts : List Nat} {cond : Option X} {elt : X} : evc g l elt ts cond σ [] = some ([], σ) := rfl
theorem evc_cons {g : Loc -> Sg -> X -> Option (D × Sg)} {ts : List Nat} {elt : X} {b : Loc} {ds rs : List D} {r : D} (hb : bindT ts d = some b) (h1 : g (b ++ l) σ elt = some (r, σ₁)) (h2 : evc g l elt ts none σ₁ ds = some (rs, σ₂)) : evc g l elt ts none σ (d :: ds) = some (r :: rs, σ₂) := bindS hb (bindS (a := (true, σ)) rfl (bindS h1 (bindS h2 rfl)))
theorem evc_map {g : Loc -> Sg -> X -> Option (D × Sg)} {x : Nat} {elt : X} {α : Type} (en : α -> D) (F : α -> D) : ∀ (as : List α), (∀ a ∈ as, g ([(x, .val (en a))] ++ l) σ elt = some (F a, σ)) -> evc g l elt [x] none σ (as.map en) = some (as.map F, σ)
 | [], _ => rfl
 | a :: as, h => evc_cons rfl (h a (.head _)) (evc_map en F as λb hb => h b (.tail _ hb))
end
theorem ev_tup {C : Calls} {n : Nat} {l : Loc} {σ σ₁ : Sg} {es : List X} {ds : List D} (h : evs (ev C n l) σ es = some (ds, σ₁)) (hl : ds.length <= 100) : ev C (n + 1) l σ (.tup es) = some (.tup ds, σ₁) := bindS h (if_pos hl)
theorem ev_clo {C : Calls} {n i j : Nat} {l : Loc} {σ σ₁ : Sg} {a : X} {d dc : D} {r : Option (D × Sg)} (h : ev C n l σ a = some (d, σ₁)) (hl : l.lookup i = some (.val (.clo j dc))) (hc : C (1000 + j) [dc, d] σ₁ = r) : ev C (n + 1) l σ (.clo i a) = r := bindS h (by rw [hl]; exact hc)
theorem ev_tupl {C : Calls} {n : Nat} {l : Loc} {σ σ₁ : Sg} {a : X} {ds : List D} (h : ev C n l σ a = some (.list ds, σ₁)) (hl : ds.length <= maxLen) : ev C (n + 1) l σ (.tuple a) = some (.tup ds, σ₁) := bindS h (if_pos hl)
theorem run2 (k : Nat) (ds : List D) (σ : Sg) : run (k + 1) 2 ds σ = fnRun (run k) (λ_ _ _ => none) ps_substituted ns_substituted b_substituted ds σ := run_fn (f := 2) (by decide) (by decide)
theorem run3 (k : Nat) (ds : List D) (σ : Sg) : run (k + 1) 3 ds σ = fnRun (run k) (λ_ _ _ => none) ps_with_regions ns_with_regions b_with_regions ds σ := run_fn (f := 3) (by decide) (by decide)
noncomputable def sub (p : Nat) (u : Ty) : Ty -> Ty
 | .bool => .bool
 | .par k => if k = p then u else .par k
 | .ref r m t => .ref r m (sub p u t)
 | .box t => .box (sub p u t)
 | .arr t => .arr (sub p u t)
 | .pair t v => .pair (sub p u t) (sub p u v)
 | .S r t => .S r (sub p u t)
 | .E r q t => .E r q (sub p u t)
 | .L t => .L (sub p u t)
noncomputable def hgt : Ty -> Nat
 | .bool => 1 | .par _ => 1 | .ref _ _ t => hgt t + 1 | .box t => hgt t + 1 | .arr t => hgt t + 1 | .pair t u => max (hgt t) (hgt u) + 1 | .S _ t => hgt t + 1 | .E _ _ t => hgt t + 1 | .L t => hgt t + 1
theorem hgt_pos : ∀ t, 0 < hgt t
 | .bool | .par _ | .ref _ _ _ | .box _ | .arr _ | .pair _ _ | .S _ _ | .E _ _ _ | .L _ => Nat.succ_pos _
theorem hgt_1 {t u : Ty} (h : u ∈ [t]) : hgt u < hgt t + 1 := List.mem_singleton.mp h ▸ Nat.lt_succ_self _
theorem hgt_parts : ∀ {t u : Ty}, u ∈ parts t -> hgt u < hgt t
 | .bool, _, h | .par _, _, h => nomatch h
 | .ref _ _ _, _, h | .box _, _, h | .arr _, _, h | .S _ _, _, h | .E _ _ _, _, h | .L _, _, h => hgt_1 h
 | .pair _ _, _, h => (List.mem_cons.mp h).elim (λe => e ▸ Nat.lt_succ_of_le (Nat.le_max_left _ _)) λh => List.mem_singleton.mp h ▸ Nat.lt_succ_of_le (Nat.le_max_right _ _)
theorem sub_step {C : Calls} {sx : Sx} {d tab r : D} {ps : List D} {rs : List D} {σ : Sg} (m : Nat) (hc : ev C evN (loc0 ps_substituted [d, tab] ns_substituted) σ (.cmp .Eq (.idx (.var 0) (.cst (.int 0))) (.cst (.str 1))) = some (.bool false, σ)) (h0 : C 0 [d] σ = some (.tup ps, σ)) (hl : ps.length ≤ maxLen)
  (h2 : evc (ev C 12) [(3, .val tab)] (.call 2 [.var 4, .var 3]) [4] none σ ps = some (rs, σ)) (h1 : C 1 [d, .list rs] σ = some (r, σ)) : xs C sx (m + 100) (loc0 ps_substituted [d, tab] ns_substituted) σ b_substituted = some (.ret r, loc0 ps_substituted [d, tab] ns_substituted, σ) := by
 unfold b_substituted
 rw [xs_ife_n (n := m + 99) hc (by rw [if_neg (by decide)]; exact xs_nil (n := m + 98))]
 refine xs_ret (n := m + 98) ?_
 have hs : ev C 12 (loc0 ps_substituted [d, tab] ns_substituted) σ (.call 0 [.var 0]) = some (.tup ps, σ) := (ev_call (n := 11) (ds := [d]) (σ₁ := σ) rfl).trans h0
 have hcomp := ev_comp (n := 12) (elt := .call 2 [.var 4, .var 3]) (ts := [4]) (fre := [3]) (cond := none) (src := .call 0 [.var 0]) (l := loc0 ps_substituted [d, tab] ns_substituted) hs rfl hl rfl h2
 exact (ev_call (n := 13) (ds := [d, .list rs]) (σ₁ := σ) (evs_cons (d := d) (σ₁ := σ) rfl (evs_cons hcomp evs_nil))).trans h1
@[elab_as_elim] theorem par_e {P : Ty -> Prop} : ∀ t, (tag t == 1) = true -> (∀ j, P (.par j)) -> P t
 | .par j, _, k => k j
 | .bool, h, _ | .ref _ _ _, h, _ | .box _, h, _ | .arr _, h, _ | .pair _ _, h, _ | .S _ _, h, _ | .E _ _ _, h, _ | .L _, h, _ => nomatch h
theorem reb_sub {p : Nat} {u : Ty} : ∀ t, (tag t == 1) = false -> reb t ((parts t).map (sub p u)) = sub p u t
 | .par j, h => nomatch h
 | .bool, _ | .ref _ _ _, _ | .box _, _ | .arr _, _ | .pair _ _, _ | .S _ _, _ | .E _ _ _, _ | .L _, _ => rfl
theorem lookD_1 {p j : Nat} {u : Ty} : ∀ b, (j == p) = b -> enc (if j = p then u else .par j) = ((match b with | true => some (enc u) | false => none).getD (enc (.par j)))
 | true, h => congrArg enc (if_pos (beq_iff_eq.mp h))
 | false, h => congrArg enc (if_neg λq => Bool.noConfusion (h.symm.trans (beq_iff_eq.mpr q)))
theorem sub_par {C : Calls} {p j : Nat} {u : Ty} {σ : Sg} (m : Nat) : (xs C (λ_ _ _ => none) (m + 100) (loc0 ps_substituted [enc (.par j), .dict [p] [enc u]] ns_substituted) σ b_substituted).map outS = some (.ret (enc (sub p u (.par j))), σ) :=
 (show _ = some (Out.ret ((lookD [p] [enc u] j).getD (enc (.par j))), σ) by kernel_rfl).trans (congrArg (λd => some (Out.ret d, σ)) (lookD_1 _ rfl).symm)
theorem sub_run (p : Nat) (u : Ty) : ∀ (n : Nat) (t : Ty) (k : Nat) (σ : Sg), hgt t <= n -> n <= k -> run (k + 1) 2 [enc t, .dict [p] [enc u]] σ = some (enc (sub p u t), σ)
 | 0, t, _, _, h, _ => absurd h (Nat.not_le.mpr (hgt_pos t))
 | n + 1, _, 0, _, _, h => absurd h (Nat.not_succ_le_zero n)
 | n + 1, t, k + 1, σ, hn, hk => by
  refine (run2 _ _ _).trans (fnRun_of rfl (λm => ?_) rfl)
  cases ht : tag t == 1 with
  | true => exact par_e t ht λj => sub_par m
  | false =>
   refine congrArg (Option.map outS) (sub_step (tab := .dict [p] [enc u]) m ((tag_test rfl).trans (congrArg (λb => some (D.bool b, σ)) ht)) (parts_of_run k t σ) (by rw [List.length_map]; exact Nat.le_trans (parts_2 t) (by decide)) ?_ (r := enc (sub p u t)) (rs := ((parts t).map (sub p u)).map enc) ((rebuilt_run k t _ σ (List.length_map _)).trans (by rw [reb_sub t ht])))
   rw [List.map_map]
   exact evc_map enc (λv => enc (sub p u v)) _ λv hv => (ev_call (n := 11) (ds := [enc v, .dict [p] [enc u]]) (σ₁ := σ) rfl).trans (sub_run p u n v k σ (Nat.le_of_lt_succ (Nat.lt_of_lt_of_le (hgt_parts hv) hn)) (Nat.le_of_succ_le_succ hk))
noncomputable def hmap (f : Nat -> Nat) : Ty -> Ty
 | .ref r m t => .ref (f r) m t | .S r t => .S (f r) t | .E r q t => .E (f r) (f q) t | t => t
noncomputable def hregs : Ty -> List Nat
 | .ref r _ _ => [r] | .S r _ => [r] | .E r q _ => [r, q] | _ => []
noncomputable def mapR (f : Nat -> Nat) : Ty -> Ty
 | .bool => .bool | .par k => .par k | .ref r m t => .ref (f r) m (mapR f t) | .box t => .box (mapR f t) | .arr t => .arr (mapR f t) | .pair t u => .pair (mapR f t) (mapR f u) | .S r t => .S (f r) (mapR f t) | .E r q t => .E (f r) (f q) (mapR f t) | .L t => .L (mapR f t)
noncomputable def regs : Ty -> List Nat
 | .bool => [] | .par _ => [] | .ref r _ t => r :: regs t | .box t => regs t | .arr t => regs t | .pair t u => regs t ++ regs u | .S r t => r :: regs t | .E r q t => r :: q :: regs t | .L t => regs t
structure Chg (j : Nat) (dc : D) (f : Nat -> Nat) (step : Nat -> Sg -> Sg) (P : Nat -> Sg -> Prop) : Prop where
 go : ∀ n r σ, P (n + 1) σ -> cloRun j [dc, .str r] σ = some (.str (f r), step r σ) /\ P n (step r σ)
 ac : ∀ r σ, (step r σ).ac.isSome = σ.ac.isSome
 lt : j < 1000
theorem clo_call {j : Nat} (hj : j < 1000) {dc a : D} {σ : Sg} (k : Nat) : run (k + 1) (1000 + j) [dc, a] σ = cloRun j [dc, a] σ := run_clo hj
noncomputable def many (step : Nat -> Sg -> Sg) (rs : List Nat) (σ : Sg) : Sg := rs.foldl (λs r => step r s) σ
theorem many_append {step : Nat -> Sg -> Sg} {a b : List Nat} {σ : Sg} : many step (a ++ b) σ = many step b (many step a σ) := List.foldl_append
theorem many_ac {j : Nat} {dc : D} {f : Nat -> Nat} {step : Nat -> Sg -> Sg} {P : Nat -> Sg -> Prop} (H : Chg j dc f step P) : ∀ (rs : List Nat) (σ : Sg), (many step rs σ).ac.isSome = σ.ac.isSome
 | [], _ => rfl
 | r :: rs, σ => (many_ac H rs (step r σ)).trans (H.ac r σ)
theorem evc_fold {g : Loc → Sg → X → Option (D × Sg)} {l : Loc} {x : Nat} {elt : X} {α : Type} (en : α → D) (F : α → D) (st : α → Sg → Sg) (w : α → Nat) (P : Nat → Sg → Prop) : ∀ (as : List α) (b : Nat) (σ : Sg), P (b + (as.map w).sum) σ → (∀ a ∈ as, ∀ b σ, P (b + w a) σ → g ([(x, .val (en a))] ++ l) σ elt = some (F a, st a σ) ∧ P b (st a σ)) →
  evc g l elt [x] none σ (as.map en) = some (as.map F, as.foldl (λs a => st a s) σ) /\ P b (as.foldl (λs a => st a s) σ)
 | [], b, σ, h, _ => ⟨rfl, h⟩
 | a :: as, b, σ, h, hg =>
  have H := hg a (.head _) _ σ (((congrArg (b + ·) (Nat.add_comm _ _)).trans (Nat.add_assoc b _ _).symm : b + (w a + (as.map w).sum) = b + (as.map w).sum + w a) ▸ h)
  have T := evc_fold en F st w P as b (st a σ) H.2 λc hc => hg c (.tail _ hc)
  ⟨evc_cons rfl H.1 T.1, T.2⟩
theorem wr_adt {C : Calls} {sx : Sx} {j : Nat} {dc : D} {k1 : Nat} {rs rs' : List Nat} {t : Ty} {σ σ' : Sg} (m : Nat) (rest : List S) (hevc : evc (ev C 11) [(5, .val (.clo j dc))] (.clo 5 (.var 6)) [6] none σ (rs.map D.str) = some (rs'.map D.str, σ')) (hl : rs.length ≤ 2) (hl' : rs'.length ≤ 2) :
  xs C sx (m + 100) (loc0 ps_with_regions [.tup [.str 6, .str k1, .tup (rs.map D.str), .tup [enc t]], .clo j dc] ns_with_regions) σ (b_with_regions.take 1 ++ rest) = xs C sx (m + 99) [(0, .val (.tup [.str 6, .str k1, .tup (rs'.map D.str), .tup [enc t]])), (5, .val (.clo j dc))] σ' rest := by
 refine (xs_ife_n (n := m + 99) (c := false) (ev_cmp (at_test (i := 0) rfl rfl) rfl rfl) ?_)
 refine (xs_ife_n (n := m + 98) (c := true) (ev_cmp (at_test (i := 0) rfl rfl) rfl rfl) (l' := [(0, .val (.tup [.str 6, .str k1, .tup (rs'.map D.str), .tup [enc t]])), (5, .val (.clo j dc))]) (σ₂ := σ') ?_).trans (xs_nil (n := m + 97))
 have hcomp := ev_comp (n := 11) (elt := .clo 5 (.var 6)) (ts := [6]) (fre := [5]) (cond := none) (at_test (C := C) (n := 9) (l := loc0 ps_with_regions [.tup [.str 6, .str k1, .tup (rs.map D.str), .tup [enc t]], .clo j dc] ns_with_regions) (σ := σ) (x := 0) (i := 2) rfl rfl) rfl (by rw [List.length_map]; exact Nat.le_trans hl (by decide)) rfl hevc
 exact (xs_asg (n := m + 97) (ev_tup (evs_cons rfl (evs_cons (at_test (i := 1) rfl rfl) (evs_cons (ev_tupl hcomp ((by rw [List.length_map]; exact Nat.le_trans hl' (by decide)))) (evs_cons (at_test (i := 3) rfl rfl) evs_nil)))) (by simp)) rfl).trans (xs_nil (n := m + 96))
theorem wr_other {C : Calls} {sx : Sx} {dc : D} {σ : Sg} (m : Nat) (rest : List S) (t : Ty) (h2 : (tag t == 2) = false) (h6 : (tag t == 6) = false) :
  xs C sx (m + 100) (loc0 ps_with_regions [enc t, dc] ns_with_regions) σ (b_with_regions.take 1 ++ rest) = xs C sx (m + 99) [(0, .val (enc t)), (5, .val dc)] σ rest :=
 xs_ife_n (n := m + 99) (c := false) ((tag_test rfl).trans (congrArg (λb => some (D.bool b, σ)) h2)) ((xs_ife_n (n := m + 98) (c := false) ((tag_test rfl).trans (congrArg (λb => some (D.bool b, σ)) h6)) (l' := loc0 ps_with_regions [enc t, dc] ns_with_regions) (σ₂ := σ) (xs_nil (n := m + 97))).trans (xs_nil (n := m + 97)))
theorem wr_head {C : Calls} {sx : Sx} {j : Nat} {dc : D} {f : Nat → Nat} {step : Nat → Sg → Sg} {P : Nat → Sg → Prop} (H : Chg j dc f step P) (hC : ∀ a σ, C (1000 + j) [dc, a] σ = cloRun j [dc, a] σ) (t : Ty) (b : Nat) (σ : Sg) (hP : P (b + (hregs t).length) σ) (m : Nat) (rest : List S) :
  xs C sx (m + 100) (loc0 ps_with_regions [enc t, .clo j dc] ns_with_regions) σ (b_with_regions.take 1 ++ rest) = xs C sx (m + 99) [(0, .val (enc (hmap f t))), (5, .val (.clo j dc))] (many step (hregs t) σ) rest /\ P b (many step (hregs t) σ) := by
 cases t with
 | ref r mm t =>
  have G := H.go b r σ hP
  refine ⟨?_, G.2⟩
  refine xs_ife_n (n := m + 99) (c := true) (tag_test (v := .ref r mm t) rfl) ?_
  exact (xs_asg (n := m + 98) (ev_tup (evs_cons rfl (evs_cons (ev_clo (at_test (i := 1) rfl rfl) rfl ((hC _ _).trans G.1)) (evs_cons (at_test (i := 2) rfl rfl) (evs_cons (at_test (i := 3) rfl rfl) evs_nil)))) (by simp)) rfl).trans (xs_nil (n := m + 97))
 | S r t =>
  have G := H.go b r σ hP
  exact ⟨wr_adt (k1 := 14) (rs := [r]) (rs' := [f r]) (t := t) m rest (evc_cons (b := [(6, .val (.str r))]) rfl ((hC (.str r) σ).trans G.1) evc_nil) (Nat.le_succ 1) (Nat.le_succ 1), G.2⟩
 | E r q t =>
  have G := H.go (b + 1) r σ hP
  have G2 := H.go b q (step r σ) G.2
  exact ⟨wr_adt (k1 := 15) (rs := [r, q]) (rs' := [f r, f q]) (t := t) m rest (evc_cons (b := [(6, .val (.str r))]) rfl ((hC (.str r) σ).trans G.1) (evc_cons (b := [(6, .val (.str q))]) rfl ((hC (.str q) _).trans G2.1) evc_nil)) (Nat.le_refl 2) (Nat.le_refl 2), G2.2⟩
 | L t => exact ⟨wr_adt (k1 := 16) (rs := []) (rs' := []) (t := t) m rest evc_nil (Nat.zero_le 2) (Nat.zero_le 2), hP⟩
 | bool => exact ⟨wr_other m rest .bool rfl rfl, hP⟩
 | par k => exact ⟨wr_other m rest (.par k) rfl rfl, hP⟩
 | box t => exact ⟨wr_other m rest (.box t) rfl rfl, hP⟩
 | arr t => exact ⟨wr_other m rest (.arr t) rfl rfl, hP⟩
 | pair t u => exact ⟨wr_other m rest (.pair t u) rfl rfl, hP⟩
theorem regs_eq : ∀ t : Ty, regs t = hregs t ++ (parts t).flatMap regs
 | .bool | .par _ => rfl
 | .ref r _ t | .S r t => congrArg (r :: ·) (List.append_nil _).symm
 | .box t | .arr t | .L t => (List.append_nil _).symm
 | .pair t u => congrArg (regs t ++ ·) (List.append_nil _).symm
 | .E r q t => congrArg (λx => r :: q :: x) (List.append_nil _).symm
theorem many_parts (step : Nat -> Sg -> Sg) : ∀ (ps : List Ty) (σ : Sg), ps.foldl (λs a => many step (regs a) s) σ = many step (ps.flatMap regs) σ
 | [], _ => rfl
 | p :: ps, σ => by rw [List.foldl_cons, many_parts step ps, List.flatMap_cons, many_append]
theorem sum_regs : ∀ (ps : List Ty), (ps.map λa => (regs a).length).sum = (ps.flatMap regs).length
 | [] => rfl
 | p :: ps => (congrArg ((regs p).length + ·) (sum_regs ps)).trans List.length_append.symm
theorem len_regs (b : Nat) (t : Ty) : b + (regs t).length = (b + ((parts t).map λa => (regs a).length).sum) + (hregs t).length := by
 rw [regs_eq, List.length_append, sum_regs]
 lia
theorem many_regs {step : Nat -> Sg -> Sg} {σ : Sg} (t : Ty) : (parts t).foldl (λs a => many step (regs a) s) (many step (hregs t) σ) = many step (regs t) σ :=
 (many_parts step _ _).trans (many_append.symm.trans (congrArg (λl => many step l σ) (regs_eq t).symm))
theorem reb_mapR {f : Nat -> Nat} : ∀ t, reb (hmap f t) ((parts t).map (mapR f)) = mapR f t
 | .bool | .par _ | .ref _ _ _ | .box _ | .arr _ | .pair _ _ | .S _ _ | .E _ _ _ | .L _ => rfl
theorem parts_hmap {f : Nat -> Nat} : ∀ t, parts (hmap f t) = parts t
 | .bool | .par _ | .ref _ _ _ | .box _ | .arr _ | .pair _ _ | .S _ _ | .E _ _ _ | .L _ => rfl
theorem parts_len {f : Nat -> Nat} {g : Ty -> Ty} : ∀ t, ((parts t).map g).length = (parts (hmap f t)).length
 | .bool | .par _ | .ref _ _ _ | .box _ | .arr _ | .pair _ _ | .S _ _ | .E _ _ _ | .L _ => rfl
theorem wr_tail {C : Calls} {sx : Sx} {d dc r : D} {ps rs : List D} {σ σ' : Sg} (m : Nat) (h0 : C 0 [d] σ = some (.tup ps, σ)) (hl : ps.length ≤ maxLen) (h2 : evc (ev C 12) [(5, .val dc)] (.call 3 [.var 4, .var 5]) [4] none σ ps = some (rs, σ')) (h1 : C 1 [d, .list rs] σ' = some (r, σ')) :
  xs C sx (m + 99) [(0, .val d), (5, .val dc)] σ [.ret (.call 1 [.var 0, .comp (.call 3 [.var 4, .var 5]) [4] [5] (.call 0 [.var 0]) none])] = some (.ret r, [(0, .val d), (5, .val dc)], σ') := by
 refine xs_ret (n := m + 98) ?_
 have hs : ev C 12 [(0, .val d), (5, .val dc)] σ (.call 0 [.var 0]) = some (.tup ps, σ) := (ev_call (n := 11) (ds := [d]) (σ₁ := σ) rfl).trans h0
 have hcomp := ev_comp (n := 12) (elt := .call 3 [.var 4, .var 5]) (ts := [4]) (fre := [5]) (cond := none) (src := .call 0 [.var 0]) (l := [(0, .val d), (5, .val dc)]) hs rfl hl rfl h2
 exact (ev_call (n := 13) (ds := [d, .list rs]) (σ₁ := σ') (evs_cons (d := d) (σ₁ := σ) rfl (evs_cons hcomp evs_nil))).trans h1
theorem wr_run {j : Nat} {dc : D} {f : Nat -> Nat} {step : Nat -> Sg -> Sg} {P : Nat -> Sg -> Prop} (H : Chg j dc f step P) : ∀ (n : Nat) (t : Ty) (k b : Nat) (σ : Sg), hgt t <= n -> n <= k -> P (b + (regs t).length) σ -> run (k + 1) 3 [enc t, .clo j dc] σ = some (enc (mapR f t), many step (regs t) σ) /\ P b (many step (regs t) σ)
 | 0, t, _, _, _, h, _, _ => absurd h (Nat.not_le.mpr (hgt_pos t))
 | n + 1, _, 0, _, _, _, h, _ => absurd h (Nat.not_succ_le_zero n)
 | n + 1, t, k + 1, b, σ, hn, hk, hP => by
  have head := λm => wr_head (C := run (k + 1)) (sx := λ_ _ _ => none) H (λa σ => clo_call H.lt k) t _ σ (len_regs b t ▸ hP) m [.ret (.call 1 [.var 0, .comp (.call 3 [.var 4, .var 5]) [4] [5] (.call 0 [.var 0]) none])]
  have E := evc_fold (g := ev (run (k + 1)) 12) (l := [(5, .val (.clo j dc))]) (x := 4) (elt := .call 3 [.var 4, .var 5]) enc (λv => enc (mapR f v)) (λv s => many step (regs v) s) (λa => (regs a).length) P (parts t) b (many step (hregs t) σ) (head 0).2 (λv hv b σ hP =>
   have I := wr_run H n v k b σ (Nat.le_of_lt_succ (Nat.lt_of_lt_of_le (hgt_parts hv) hn)) (Nat.le_of_succ_le_succ hk) hP
   ⟨(ev_call (n := 11) (ds := [enc v, .clo j dc]) (σ₁ := σ) rfl).trans I.1, I.2⟩)
  rw [many_regs] at E
  refine ⟨(run3 _ _ _).trans (fnRun_of rfl (λm => congrArg (Option.map outS) ((head m).1.trans (wr_tail m ((parts_of_run k (hmap f t) _).trans (by rw [parts_hmap])) (by rw [List.length_map]; exact Nat.le_trans (parts_2 t) (by decide)) E.1 ?_))) (many_ac H _ _).symm), E.2⟩
  have h1 := rebuilt_run k (hmap f t) ((parts t).map (mapR f)) (many step (regs t) σ) (parts_len t)
  rw [List.map_map, reb_mapR] at h1
  exact h1
noncomputable def noteS (r : Nat) (σ : Sg) : Sg := { σ with ac := σ.ac.map (· ++ [.str r]) }
theorem chg_noted : Chg 0 .acc id noteS (λn σ => ∃ ds, σ.ac = some ds /\ ds.length + n <= maxLen) where
 go := λn r σ ⟨ds, h, hl⟩ => by
  refine ⟨?_, ds ++ [.str r], by unfold noteS; rw [h]; rfl, by simp; lia⟩
  show (σ.ac.bind λds => if ds.length <= maxLen then some (D.str r, { σ with ac := some (ds ++ [D.str r]) }) else none) = _
  rw [h, Option.bind_some, if_pos (by lia)]
  unfold noteS; rw [h]; rfl
 ac := λr σ => by unfold noteS; simp
 lt := by decide
theorem many_note : ∀ (rs : List Nat) (ds : List D) (σ : Sg), many noteS rs { σ with ac := some ds } = { σ with ac := some (ds ++ rs.map .str) }
 | [], ds, σ => by unfold many; simp
 | r :: rs, ds, σ => by
  show many noteS rs (noteS r { σ with ac := some ds }) = _
  have e : noteS r { σ with ac := some ds } = { σ with ac := some (ds ++ [.str r]) } := rfl
  rw [e, many_note rs]
  simp
theorem mapR_id : ∀ t, mapR id t = t
 | .bool => rfl | .par _ => rfl | .ref r m t => by simp [mapR, mapR_id t] | .box t => by simp [mapR, mapR_id t] | .arr t => by simp [mapR, mapR_id t] | .pair t u => by simp [mapR, mapR_id t, mapR_id u] | .S r t => by simp [mapR, mapR_id t] | .E r q t => by simp [mapR, mapR_id t] | .L t => by simp [mapR, mapR_id t]
theorem run4 (k : Nat) (ds : List D) (σ : Sg) : run (k + 1) 4 ds σ = fnRun (run k) (sxF 0) ps_regions_in ns_regions_in b_regions_in ds σ := run_fn (f := 4) (by decide) (by decide)
theorem noacs_str : ∀ rs : List Nat, noacs (rs.map D.str) = true
 | [] => rfl
 | r :: rs => noacs_str rs
theorem xs_exp {C : Calls} {sx : Sx} {n : Nat} {l : Loc} {σ σ₁ : Sg} {e : X} {d : D} {rest : List S} (h : ev C evN l σ e = some (d, σ₁)) : xs C sx (n + 1) l σ (.exp e :: rest) = xs C sx n l σ₁ rest := bindS h rfl
theorem regions_run (t : Ty) (k : Nat) (σ : Sg) (hk : hgt t + 1 <= k) (hac : σ.ac = none) (hok : sgOk σ = true) (hl : (regs t).length <= maxLen) : run (k + 1) 4 [enc t] σ = some (.list ((regs t).map .str), σ) := by
 rw [run4]
 obtain ⟨k, rfl⟩ : ∃ k', k = k' + 1 := ⟨k - 1, by lia⟩
 obtain ⟨a, b, c, x⟩ := σ
 cases hac
 refine fnRun_of rfl (λm => ?_) rfl
 have hw := (wr_run chg_noted (hgt t) t k 0 ⟨a, b, c, some []⟩ (Nat.le_refl _) (by lia) ⟨[], rfl, by simpa using hl⟩).1
 rw [many_note (regs t) [] ⟨a, b, c, none⟩, mapR_id, List.nil_append] at hw
 have e1 : xs (run (k + 1)) (sxF 0) (m + 100) (loc0 ps_regions_in [enc t] ns_regions_in) ⟨a, b, c, none⟩ b_regions_in = xs (run (k + 1)) (sxF 0) (m + 98) [(0, .val (enc t)), (7, .fv .acc), (8, .val (.clo 0 .acc))] ⟨a, b, c, some []⟩ [.exp (.call 3 [.var 0, .var 8]), .reto 7] := rfl
 rw [e1, xs_exp (n := m + 97) ((ev_call (n := 13) (ds := [enc t, .clo 0 .acc]) (σ₁ := ⟨a, b, c, some []⟩) rfl).trans hw)]
 have e2 : xs (run (k + 1)) (sxF 0) (m + 97) [(0, .val (enc t)), (7, .fv .acc), (8, .val (.clo 0 .acc))] ⟨a, b, c, some ((regs t).map .str)⟩ [.reto 7] = (if sgOk ⟨a, b, c, some ((regs t).map .str)⟩ && noacs ((regs t).map .str) then some (.ret (.list ((regs t).map .str)), [(0, .val (enc t)), (7, .fv .acc), (8, .val (.clo 0 .acc))], ⟨a, b, c, none⟩) else none) := rfl
 rw [e2, noacs_str]
 have e3 : sgOk ⟨a, b, c, some ((regs t).map .str)⟩ = true := hok
 rw [e3]
 rfl
noncomputable def putR (ks rs : List Nat) (r : Nat) : Nat := match lookD ks (rs.map .str) r with
 | some (.str q) => q
 | _ => r
theorem lookD_str : ∀ (ks rs : List Nat) (r : Nat), (lookD ks (rs.map D.str) r).getD (.str r) = .str (putR ks rs r) := by
 intro ks rs r
 unfold putR
 have key : ∀ (ks rs : List Nat), lookD ks (rs.map D.str) r = none \/ ∃ q, lookD ks (rs.map D.str) r = some (.str q) := by
  intro ks
  induction ks with
  | nil => intro rs; exact .inl rfl
  | cons k ks ih =>
   intro rs
   cases rs with
   | nil => exact .inl rfl
   | cons q rs =>
    have ih' := ih rs
    unfold lookD at ih' ⊢
    simp only [List.map_cons, List.zip_cons_cons, List.lookup_cons]
    split
    ·exact .inr ⟨q, rfl⟩
    ·exact ih'
 rcases key ks rs with h | ⟨q, h⟩ <;> rw [h] <;> rfl
theorem chg_put (ks rs : List Nat) : Chg 1 (.dict ks (rs.map .str)) (putR ks rs) (λ_ σ => σ) (λ_ _ => True) where
 go := λn r σ _ => ⟨by show some (_, σ) = _; rw [lookD_str], trivial⟩
 ac := λ_ _ => rfl
 lt := by decide
theorem many_same : ∀ (rs : List Nat) (σ : Sg), many (λ_ σ => σ) rs σ = σ
 | [], _ => rfl
 | _ :: rs, σ => many_same rs σ
theorem put_run (ks rs : List Nat) (t : Ty) (k : Nat) (σ : Sg) (hk : hgt t <= k) : run (k + 1) 3 [enc t, .clo 1 (.dict ks (rs.map .str))] σ = some (enc (mapR (putR ks rs) t), σ) := by
 have := (wr_run (chg_put ks rs) (hgt t) t k 0 σ (Nat.le_refl _) hk trivial).1
 rwa [many_same] at this
noncomputable def pre : Ty -> List Ty
 | .bool => [.bool] | .par k => [.par k] | .ref r m t => .ref r m t :: pre t | .box t => .box t :: pre t | .arr t => .arr t :: pre t | .pair t u => .pair t u :: (pre t ++ pre u) | .S r t => .S r t :: pre t | .E r q t => .E r q t :: pre t | .L t => .L t :: pre t
theorem pre_eq : ∀ t, pre t = t :: (parts t).flatMap pre
 | .bool => rfl | .par _ => rfl | .ref _ _ t => congrArg (List.cons _) (List.append_nil _).symm | .box t => congrArg (List.cons _) (List.append_nil _).symm | .arr t => congrArg (List.cons _) (List.append_nil _).symm
 | .pair t u => congrArg (λl => Ty.pair t u :: (pre t ++ l)) (List.append_nil (pre u)).symm | .S _ t => congrArg (List.cons _) (List.append_nil _).symm | .E _ _ t => congrArg (List.cons _) (List.append_nil _).symm | .L t => congrArg (List.cons _) (List.append_nil _).symm
noncomputable def isNew (fs : List Nat) : Ty -> Bool
 | .par k => !fs.contains k
 | _ => false
noncomputable def addP (f : List Nat) : Ty -> List Nat
 | .par k => if f.contains k then f else f ++ [k]
 | _ => f
section
variable {C : Calls} {sx : Sx} {n : Nat} {l l' : Loc} {σ σ₁ σ₂ : Sg} {x y f : Nat} {e t : X} {d : D} {a b rest : List S}
theorem ev_and_t {a b : X} (h : ev C n l σ a = some (.bool true, σ₁)) : ev C (n + 1) l σ (.and a b) = ev C n l σ₁ b := bindS h rfl
theorem rh_pop {ts : List Nat} {ds : List D} (hl : l.lookup y = some (.ow ds)) (hy : ts.contains y = false) (hd : ds.getLast? = some d) (hlen : ds.length <= maxLen) : rh C ts l σ (.p y) = some (.val d, setL l y (.ow ds.dropLast), σ) := by
 conv => lhs; whnf
 rw [hl]
 show (if ts.contains y = true then none else _) = _
 rw [hy, if_neg Bool.false_ne_true, hd]
 exact if_pos hlen
theorem xs_pop {ds : List D} (hx : hasL l x = true) (hl : l.lookup y = some (.ow ds)) (hxy : ([x] : List Nat).contains y = false) (hd : ds.getLast? = some d) (hlen : ds.length <= maxLen) : xs C sx (n + 1) l σ (.asg [x] [.p y] :: rest) = xs C sx n (setL (setL l y (.ow ds.dropLast)) x (.val d)) σ rest := by
 exact ifS (all1 hx) (bindS (o := rhs C [x] l σ [x] [.p y]) (bindS (rh_pop hl hxy hd hlen) rfl) rfl)
end
theorem plains_str : ∀ rs : List Nat, plains (rs.map D.str) = true
 | [] => rfl
 | r :: rs => plains_str rs
theorem deps_str : ∀ rs : List Nat, deps (rs.map D.str) = 0
 | [] => rfl
 | r :: rs => by show max 0 (deps (rs.map D.str)) = 0; rw [deps_str rs]; rfl
theorem okDs_str (rs : List Nat) : okDs (rs.map D.str) = true := by unfold okDs; rw [plains_str, deps_str]; rfl
theorem any_str (rs : List Nat) (k : Nat) : ((rs.map D.str).any λy => deq y (.str k)) = rs.contains k := by
 induction rs with
 | nil => rfl
 | cons r rs ih =>
  rw [List.map_cons, List.any_cons, ih, List.contains_cons]
  congr 1
  show (r == k) = (k == r)
  by_cases q : r = k
  ·rw [q]
  ·rw [beq_eq_false_iff_ne.mpr q, beq_eq_false_iff_ne.mpr (Ne.symm q)]
theorem run5 (k : Nat) (ds : List D) (σ : Sg) : run (k + 1) 5 ds σ = fnRun (run k) (λ_ _ _ => none) ps_params_in ns_params_in b_params_in ds σ := run_fn (f := 5) (by decide) (by decide)
noncomputable def pinTest : X := .and (.cmp .Eq (.idx (.var 10) (.cst (.int 0))) (.cst (.str 1))) (.inn true (.idx (.var 10) (.cst (.int 1))) 7)
noncomputable def pinBody : List S := [.asg [10] [.p 9], .ife pinTest [.app 7 (.idx (.var 10) (.cst (.int 1)))] [], .ext 9 (.rev (.call 0 [.var 10]))]
noncomputable def pinL (d : D) (fs : List Nat) (st : List Ty) (lv : LV) : Loc := [(0, .val d), (7, .ow (fs.map .str)), (9, .ow (st.reverse.map enc)), (10, lv)]
theorem ev_and_f {C : Calls} {n : Nat} {l : Loc} {σ σ₁ : Sg} {a b : X} (h : ev C n l σ a = some (.bool false, σ₁)) : ev C (n + 1) l σ (.and a b) = some (.bool false, σ₁) := bindS h rfl
theorem ev_rev {C : Calls} {n : Nat} {l : Loc} {σ σ₁ : Sg} {a : X} {ds : List D} (h : ev C n l σ a = some (.tup ds, σ₁)) (hl : ds.length <= maxLen) : ev C (n + 1) l σ (.rev a) = some (.tup ds.reverse, σ₁) := bindS h (if_pos hl)
theorem ev_nem {C : Calls} {n : Nat} {l : Loc} {σ : Sg} {y : Nat} {ds : List D} {b : Bool} (h : l.lookup y = some (.ow ds)) (hb : ds.isEmpty = b) : ev C (n + 1) l σ (.nem y) = some (.bool (!b), σ) := by
 conv => lhs; whnf
 rw [h, <- hb]
theorem pin_test {C : Calls} {d : D} {fs : List Nat} {st : List Ty} {σ : Sg} (v : Ty) : ev C evN (pinL d fs st (.val (enc v))) σ pinTest = some (.bool (isNew fs v), σ) := by
 cases v with
 | par k =>
  refine (ev_and_t (n := 13) (tag_test (n := 10) (v := .par k) rfl)).trans ?_
  show (if okD (.str k) && okDs (fs.map .str) then some (D.bool (true ^^ (fs.map .str).any λy => deq y (.str k)), σ) else none) = _
  rw [okDs_str, any_str, Bool.true_xor]
  rfl
 | bool => exact ev_and_f (n := 13) (tag_test (n := 10) (v := Ty.bool) rfl)
 | ref r m t => exact ev_and_f (n := 13) (tag_test (n := 10) (v := Ty.ref r m t) rfl)
 | box t => exact ev_and_f (n := 13) (tag_test (n := 10) (v := Ty.box t) rfl)
 | arr t => exact ev_and_f (n := 13) (tag_test (n := 10) (v := Ty.arr t) rfl)
 | pair t u => exact ev_and_f (n := 13) (tag_test (n := 10) (v := Ty.pair t u) rfl)
 | S r t => exact ev_and_f (n := 13) (tag_test (n := 10) (v := Ty.S r t) rfl)
 | E r q t => exact ev_and_f (n := 13) (tag_test (n := 10) (v := Ty.E r q t) rfl)
 | L t => exact ev_and_f (n := 13) (tag_test (n := 10) (v := Ty.L t) rfl)
@[elab_as_elim] theorem isNew_e {fs : List Nat} {P : Ty -> Prop} (v : Ty) (h : isNew fs v = true) (k : ∀ j, fs.contains j = false -> P (.par j)) : P v := by
 cases v with
 | par j => exact k j (fB h)
 | _ => exact nB h
theorem addP_old {fs : List Nat} : ∀ v : Ty, isNew fs v = false -> addP fs v = fs
 | .par j, h => if_pos (by cases q : fs.contains j with | true => rfl | false => rw [show isNew fs (.par j) = !fs.contains j from rfl, q] at h; exact nB h.symm)
 | .bool, _ => rfl | .ref _ _ _, _ => rfl | .box _, _ => rfl | .arr _, _ => rfl | .pair _ _, _ => rfl | .S _ _, _ => rfl | .E _ _ _, _ => rfl | .L _, _ => rfl
theorem addP_len (fs : List Nat) : ∀ v : Ty, (addP fs v).length <= fs.length + 1
 | .par j => by
  show (if fs.contains j then fs else fs ++ [j]).length <= _
  split
  ·exact Nat.le_succ _
  ·rw [List.length_append]; exact Nat.le_refl _
 | .bool => Nat.le_succ _ | .ref _ _ _ => Nat.le_succ _ | .box _ => Nat.le_succ _ | .arr _ => Nat.le_succ _ | .pair _ _ => Nat.le_succ _ | .S _ _ => Nat.le_succ _ | .E _ _ _ => Nat.le_succ _ | .L _ => Nat.le_succ _
section
variable {k m : Nat} {sx : Sx} {d : D} {fs : List Nat} {st : List Ty} {lv : LV} {v : Ty} {σ : Sg}
theorem pin_tail (h2 : st.length + 3 <= maxLen) : xs (run (k + 1)) sx (m + 3) (pinL d fs st (.val (enc v))) σ [.ext 9 (.rev (.call 0 [.var 10]))] = some (.next, pinL d fs (parts v ++ st) (.val (enc v)), σ) := by
 have hv : ((parts v).map enc).length <= 2 := by rw [List.length_map]; exact parts_2 v
 have hc : ev (run (k + 1)) 13 (pinL d fs st (.val (enc v))) σ (.call 0 [.var 10]) = some (.tup ((parts v).map enc), σ) := (ev_call (n := 12) (ds := [enc v]) (σ₁ := σ) rfl).trans (parts_of_run k v σ)
 refine (xs_ext (n := m + 2) (ev_rev (n := 13) hc (Nat.le_trans hv (by decide))) rfl rfl (by rw [len_enc, List.length_reverse]; exact Nat.le_trans (Nat.add_le_add_left (Nat.le_succ_of_le hv) _) h2)).trans ?_
 have e2 : setL (pinL d fs st (.val (enc v))) 9 (.ow (st.reverse.map enc ++ ((parts v).map enc).reverse)) = pinL d fs (parts v ++ st) (.val (enc v)) := by rw [push_enc']; rfl
 rw [e2]
 exact xs_nil (n := m + 1)
theorem pin_new {j : Nat} (h1 : fs.length <= maxLen) : xs (run (k + 1)) sx (m + 3) (pinL d fs st (.val (enc (.par j)))) σ [.app 7 (.idx (.var 10) (.cst (.int 1)))] = some (.next, pinL d (fs ++ [j]) st (.val (enc (.par j))), σ) := by
 refine (xs_app (n := m + 2) (d := .str j) (ds := fs.map .str) (σ₁ := σ) (at_test (n := 12) rfl rfl) rfl (by rw [List.length_map]; exact h1)).trans ?_
 have e3 : setL (pinL d fs st (.val (enc (.par j)))) 7 (.ow (fs.map .str ++ [.str j])) = pinL d (fs ++ [j]) st (.val (enc (.par j))) := by unfold pinL; rw [List.map_append]; rfl
 rw [e3]; exact xs_nil (n := m + 1)
theorem pin_step (hnf : notFv lv = true) (h1 : fs.length ≤ maxLen) (h2 : st.length + 3 ≤ maxLen) :
  xs (run (k + 1)) sx (m + 5) (pinL d fs (v :: st) lv) σ pinBody = some (.next, pinL d (addP fs v) (parts v ++ st) (.val (enc v)), σ) := by
 have e1 : setL (setL (pinL d fs (v :: st) lv) 9 (.ow ((v :: st).reverse.map enc).dropLast)) 10 (.val (enc v)) = pinL d fs st (.val (enc v)) := by rw [drop_enc]; rfl
 refine (xs_pop (n := m + 4) (ds := (v :: st).reverse.map enc) (d := enc v) (by show notFv lv = true; exact hnf) rfl (by decide) (last_enc v st) (by rw [len_enc]; exact Nat.le_trans (Nat.add_le_add_left (by decide) _) h2)).trans ?_
 rw [e1]
 have ht := pin_test (C := run (k + 1)) (d := d) (fs := fs) (st := st) (σ := σ) v
 cases hb : isNew fs v with
 | true =>
  rw [hb] at ht
  revert ht
  refine isNew_e v hb λj hj ht => (xs_ife_n (n := m + 3) ht (pin_new h1)).trans ?_
  rw [show addP fs (.par j) = fs ++ [j] from if_neg (by rw [hj]; exact Bool.false_ne_true)]
  exact pin_tail h2
 | false =>
  rw [hb] at ht
  rw [addP_old v hb]
  exact (xs_ife_n (n := m + 3) ht (xs_nil (n := m + 2))).trans (pin_tail h2)
end
theorem pin_loop {k : Nat} {sx : Sx} {d : D} {σ : Sg} : ∀ (N m : Nat) (st : List Ty) (fs : List Nat) (lv : LV), (st.flatMap pre).length = N → notFv lv = true → fs.length + N ≤ maxLen → st.length + 3 * N + 3 ≤ maxLen →
  (xs (run (k + 1)) sx (m + N + 10) (pinL d fs st lv) σ [.whl (.nem 9) pinBody, .reto 7]).map outS = some (.ret (.list ((st.flatMap pre).foldl addP fs |>.map .str)), σ)
 | N, m, [], fs, lv, hN, hl, h1, h2 => by
  subst hN
  show (xs _ sx ((m + 8 + 1) + 1) (pinL d fs [] lv) σ _).map outS = _
  rw [xs_whl_f (n := m + 8 + 1) (σ₁ := σ) (by rfl), xs_reto (n := m + 8) (ds := fs.map .str) rfl]
  rfl
 | 0, m, v :: st, fs, lv, hN, hl, h1, h2 => by
  rw [List.flatMap_cons, pre_eq v] at hN; exact nomatch hN
 | N' + 1, m, v :: st, fs, lv, hN, hl, h1, h2 => by
  have ef : ((v :: st).flatMap pre) = v :: ((parts v ++ st).flatMap pre) := by rw [List.flatMap_cons, pre_eq v, List.flatMap_append]; rfl
  have hN' : ((parts v ++ st).flatMap pre).length = N' := Nat.succ.inj (by rw [ef] at hN; exact hN)
  have hp := parts_2 v
  have hadd := addP_len fs v
  have h2 : st.length + 1 + 3 * (N' + 1) + 3 <= maxLen := h2
  have hs := pin_step (k := k) (m := m + N' + 5) (sx := sx) (d := d) (fs := fs) (st := st) (lv := lv) (v := v) (σ := σ) hl (Nat.le_trans (Nat.le_add_right _ _) h1) (by lia)
  show (xs _ sx ((m + N' + 10) + 1) (pinL d fs (v :: st) lv) σ _).map outS = _
  rw [xs_whl_t (n := m + N' + 10) (ev_nem (n := 13) (b := false) rfl (ne_enc v st)) hs, pin_loop N' m (parts v ++ st) (addP fs v) _ hN' rfl (by lia) (by rw [List.length_append]; lia), ef]
  rfl
theorem params_run (t : Ty) (k : Nat) (σ : Sg) (hl : (pre t).length <= 1000) : run (k + 2) 5 [enc t] σ = some (.list (((pre t).foldl addP []).map .str), σ) := by
 rw [run5]
 unfold fnRun
 rw [if_pos (show [enc t].length = ps_params_in.length from rfl)]
 have hs : ∃ m, fuel = m + (pre t).length + 10 + 2 := ⟨fuel - (pre t).length - 12, by unfold fuel; lia⟩
 obtain ⟨m, hm⟩ := hs
 have e1 : xs (run (k + 1)) (λ_ _ _ => none) (m + (pre t).length + 10 + 2) (loc0 ps_params_in [enc t] ns_params_in) σ b_params_in = xs (run (k + 1)) (λ_ _ _ => none) (m + (pre t).length + 10) (pinL (enc t) [] [t] .un) σ [.whl (.nem 9) pinBody, .reto 7] := rfl
 have hlp := pin_loop (k := k) (sx := λ_ _ _ => none) (d := enc t) (σ := σ) (pre t).length m [t] [] .un (by simp) rfl (by unfold maxLen; simp; lia) (by unfold maxLen; simp; lia)
 obtain ⟨⟨o, l', s'⟩, h1, h2⟩ := Option.map_eq_some_iff.mp hlp
 cases h2
 rw [hm, e1, h1, Option.bind_some]
 have e2 : [t].flatMap pre = pre t := by simp
 rw [<- e2]
 exact if_pos rfl
abbrev Fld := Nat × Ty
noncomputable def fldD (f : Fld) : D := .tup [.str f.1, enc f.2]
noncomputable def varD (v : Nat × Nat × List Fld) : D := .tup [.str v.1, .str v.2.1, .list (v.2.2.map fldD)]
noncomputable def adtD (rs ps : List Nat) (vars : List (Nat × Nat × List Fld)) : D := .inst 138 [3, 2, 4] [.tup (rs.map .str), .tup (ps.map .str), .list (vars.map varD)]
noncomputable def fdS : List Fld := [(19, .ref 12 false (.par 7)), (20, .bool)]
noncomputable def fdE : List Fld := [(21, .ref 12 true (.ref 13 false (.pair (.par 7) .bool))), (22, .par 7)]
noncomputable def fdL : List Fld := [(19, .par 7), (20, .box (.L (.par 7)))]
noncomputable def vS : List (Nat × Nat × List Fld) := [(14, 23, fdS)]
noncomputable def vE : List (Nat × Nat × List Fld) := [(17, 24, []), (18, 25, fdE)]
noncomputable def vL' : List (Nat × Nat × List Fld) := [(16, 23, fdL)]
noncomputable def wAd : List Nat × List D := ([14, 15, 16], [adtD [12] [7] vS, adtD [12, 13] [7] vE, adtD [] [7] vL'])
noncomputable def worldD : D := .inst 209 [0, 1] [.adts, .trs]
theorem evc_gen {g : Loc -> Sg -> X -> Option (D × Sg)} {l : Loc} {σ : Sg} {ts : List Nat} {elt : X} {α : Type} (en : α -> D) (bnd : α -> Loc) (F : α -> D) (hb : ∀ a, bindT ts (en a) = some (bnd a)) : ∀ (as : List α), (∀ a ∈ as, g (bnd a ++ l) σ elt = some (F a, σ)) -> evc g l elt ts none σ (as.map en) = some (as.map F, σ)
 | [], _ => rfl
 | a :: as, h => evc_cons (hb a) (h a (.head _)) (evc_gen en bnd F hb as λb hb => h b (.tail _ hb))
theorem run7 (k : Nat) (ds : List D) (σ : Sg) : run (k + 1) 7 ds σ = fnRun (run k) (sxF 1) ps_fields_of ns_fields_of b_fields_of ds σ := run_fn (f := 7) (by decide) (by decide)
theorem run6 (k : Nat) (ds : List D) (σ : Sg) : run (k + 1) 6 ds σ = fnRun (run k) (λ_ _ _ => none) ps_field_rows ns_field_rows b_field_rows ds σ := run_fn (f := 6) (by decide) (by decide)
noncomputable def fldsOf (ks rs : List Nat) (t : Ty) (fs : List Fld) : List Fld := fs.map λf => (f.1, sub 7 t (mapR (putR ks rs) f.2))
noncomputable def foL (told vr : D) (adt tys : D) (ks rs : List Nat) : Loc := [(0, .val told), (11, .val vr), (12, .val worldD), (13, .val adt), (14, .val tys), (15, .fv (.dict ks (rs.map .str))), (16, .val (.clo 1 (.dict ks (rs.map .str))))]
theorem fields_elt {C : Calls} {t : Ty} {f : Fld} {tys dc : D} {u v : D} {σ : Sg} (h3 : C 3 [enc f.2, dc] σ = some (u, σ)) (h2 : C 2 [u, tys] σ = some (v, σ)) :
  ev C 13 [(17, .val (.str f.1)), (4, .val (enc f.2)), (14, .val tys), (16, .val dc)] σ (.tup [.var 17, .call 2 [.call 3 [.var 4, .var 16], .var 14]]) = some (.tup [.str f.1, v], σ) := by
 have c3 : ev C 11 [(17, .val (.str f.1)), (4, .val (enc f.2)), (14, .val tys), (16, .val dc)] σ (.call 3 [.var 4, .var 16]) = some (u, σ) := (ev_call (n := 10) (ds := [enc f.2, dc]) (σ₁ := σ) rfl).trans h3
 have c2 : ev C 12 [(17, .val (.str f.1)), (4, .val (enc f.2)), (14, .val tys), (16, .val dc)] σ (.call 2 [.call 3 [.var 4, .var 16], .var 14]) = some (v, σ) :=
  (ev_call (n := 11) (ds := [u, tys]) (σ₁ := σ) (evs_cons c3 (evs_cons (d := tys) (σ₁ := σ) rfl evs_nil))).trans h2
 have c1 : evs (ev C 12 [(17, .val (.str f.1)), (4, .val (enc f.2)), (14, .val tys), (16, .val dc)]) σ [.var 17, .call 2 [.call 3 [.var 4, .var 16], .var 14]] = some ([.str f.1, v], σ) := evs_cons (d := .str f.1) (σ₁ := σ) rfl (evs_cons c2 evs_nil)
 exact ev_tup (n := 12) c1 (by simp)
theorem fields_tail {C : Calls} {sx : Sx} {m : Nat} {told vr adt tys : D} {ks rs : List Nat} {fs : List Fld} {G : Fld → D} {σ : Sg} (h6 : C 6 [told, vr, worldD] σ = some (.list (fs.map fldD), σ)) (hfs : fs.length ≤ 5) (hh : ∀ f ∈ fs, ∃ u, C 3 [enc f.2, .clo 1 (.dict ks (rs.map .str))] σ = some (u, σ) ∧ C 2 [u, tys] σ = some (G f, σ)) :
  xs C sx (m + 90) (foL told vr adt tys ks rs) σ [.ret (.comp (.tup [.var 17, .call 2 [.call 3 [.var 4, .var 16], .var 14]]) [17, 4] [14, 16] (.call 6 [.var 0, .var 11, .var 12]) none)] = some (.ret (.list (fs.map λf => .tup [.str f.1, G f])), foL told vr adt tys ks rs, σ) := by
 refine xs_ret (n := m + 89) ?_
 have hs : ev C 13 (foL told vr adt tys ks rs) σ (.call 6 [.var 0, .var 11, .var 12]) = some (.list (fs.map fldD), σ) := (ev_call (n := 12) (ds := [told, vr, worldD]) (σ₁ := σ) rfl).trans h6
 have hl : (fs.map fldD).length <= maxLen := by rw [List.length_map]; unfold maxLen; lia
 refine ev_comp (n := 13) (elt := .tup [.var 17, .call 2 [.call 3 [.var 4, .var 16], .var 14]]) (ts := [17, 4]) (fre := [14, 16]) (cond := none) hs rfl hl rfl ?_
 refine evc_gen fldD (λf => [(17, .val (.str f.1)), (4, .val (enc f.2))]) _ (λ_ => rfl) fs λf hf => ?_
 obtain ⟨u, q1, q2⟩ := hh f hf
 exact fields_elt (t := .bool) q1 q2
noncomputable def foRet : List S := [.ret (.comp (.tup [.var 17, .call 2 [.call 3 [.var 4, .var 16], .var 14]]) [17, 4] [14, 16] (.call 6 [.var 0, .var 11, .var 12]) none)]
theorem head_S {C : Calls} {m r : Nat} {t : Ty} {i : Int} {a : Option (List D)} {c : Option (List Nat × List D)} {x : Option (List D)} :
  xs C (sxF 1) (m + 100) (loc0 ps_fields_of [enc (.S r t), .int i, worldD] ns_fields_of) ⟨a, some wAd, c, x⟩ b_fields_of = xs C (sxF 1) (m + 94) (foL (enc (.S r t)) (.int i) (adtD [12] [7] vS) (.dict [7] [enc t]) [12] [r]) ⟨a, some wAd, c, x⟩ foRet := by
 rfl
theorem head_E {C : Calls} {m r q : Nat} {t : Ty} {i : Int} {a : Option (List D)} {c : Option (List Nat × List D)} {x : Option (List D)} :
  xs C (sxF 1) (m + 100) (loc0 ps_fields_of [enc (.E r q t), .int i, worldD] ns_fields_of) ⟨a, some wAd, c, x⟩ b_fields_of = xs C (sxF 1) (m + 94) (foL (enc (.E r q t)) (.int i) (adtD [12, 13] [7] vE) (.dict [7] [enc t]) [12, 13] [r, q]) ⟨a, some wAd, c, x⟩ foRet := by
 rfl
theorem head_L {C : Calls} {m : Nat} {t : Ty} {i : Int} {a : Option (List D)} {c : Option (List Nat × List D)} {x : Option (List D)} :
  xs C (sxF 1) (m + 100) (loc0 ps_fields_of [enc (.L t), .int i, worldD] ns_fields_of) ⟨a, some wAd, c, x⟩ b_fields_of = xs C (sxF 1) (m + 94) (foL (enc (.L t)) (.int i) (adtD [] [7] vL') (.dict [7] [enc t]) [] []) ⟨a, some wAd, c, x⟩ foRet := by
 rfl
inductive HasFlds : Ty -> Int -> List Nat -> List Nat -> Ty -> List Fld -> Prop
 | S (r : Nat) (t : Ty) : HasFlds (.S r t) 0 [12] [r] t fdS
 | E0 (r q : Nat) (t : Ty) : HasFlds (.E r q t) 0 [12, 13] [r, q] t []
 | E1 (r q : Nat) (t : Ty) : HasFlds (.E r q t) 1 [12, 13] [r, q] t fdE
 | L (t : Ty) : HasFlds (.L t) 0 [] [] t fdL
theorem rows_run {C : Calls} {u t : Ty} {i : Int} {ks rs : List Nat} {fs : List Fld} {a : Option (List D)} {c : Option (List Nat × List D)} {x : Option (List D)} (h : HasFlds u i ks rs t fs) : fnRun C (λ_ _ _ => none) ps_field_rows ns_field_rows b_field_rows [enc u, .int i, worldD] ⟨a, some wAd, c, x⟩ = some (.list (fs.map fldD), ⟨a, some wAd, c, x⟩) := by
 induction h using HasFlds.casesOn <;> cases x <;> kernel_rfl
theorem hgt_mapR (f : Nat -> Nat) : ∀ t, hgt (mapR f t) = hgt t
 | .bool => rfl | .par _ => rfl | .ref _ _ t | .box t | .arr t | .S _ t | .E _ _ t | .L t => congrArg (· + 1) (hgt_mapR f t) | .pair t u => congr (f₁ := λy => max (hgt (mapR f t)) y + 1) (f₂ := λy => max (hgt t) y + 1) (congrArg (λx y => max x y + 1) (hgt_mapR f t)) (hgt_mapR f u)
theorem HasFlds.few {u t : Ty} {i : Int} {ks rs : List Nat} {fs : List Fld} (h : HasFlds u i ks rs t fs) : (∀ f ∈ fs, hgt f.2 <= 10) /\ fs.length <= 5 := by
 induction h using HasFlds.casesOn <;> decide
theorem HasFlds.head {u t : Ty} {i : Int} {ks rs : List Nat} {fs : List Fld} (h : HasFlds u i ks rs t fs) : ∃ adt, ∀ (C : Calls) (m : Nat) (a : Option (List D)) (c : Option (List Nat × List D)) (x : Option (List D)),
  xs C (sxF 1) (m + 100) (loc0 ps_fields_of [enc u, .int i, worldD] ns_fields_of) ⟨a, some wAd, c, x⟩ b_fields_of = xs C (sxF 1) (m + 94) (foL (enc u) (.int i) adt (.dict [7] [enc t]) ks rs) ⟨a, some wAd, c, x⟩ foRet := by
 induction h using HasFlds.casesOn with
 | S => exact ⟨_, λ_ _ _ _ _ => head_S⟩
 | E0 => exact ⟨_, λ_ _ _ _ _ => head_E⟩
 | E1 => exact ⟨_, λ_ _ _ _ _ => head_E⟩
 | L => exact ⟨_, λ_ _ _ _ _ => head_L⟩
theorem fields_run {u t : Ty} {i : Int} {ks rs : List Nat} {fs : List Fld} {a : Option (List D)} {c : Option (List Nat × List D)} {x : Option (List D)} (h : HasFlds u i ks rs t fs) (k : Nat) (hk : 10 ≤ k) :
  run (k + 2) 7 [enc u, .int i, worldD] ⟨a, some wAd, c, x⟩ = some (.list ((fldsOf ks rs t fs).map fldD), ⟨a, some wAd, c, x⟩) := by
 rw [run7]
 have h6 : run (k + 1) 6 [enc u, .int i, worldD] ⟨a, some wAd, c, x⟩ = some (.list (fs.map fldD), ⟨a, some wAd, c, x⟩) := by rw [run6]; exact rows_run h
 have hcalls : ∀ f ∈ fs, ∃ v, run (k + 1) 3 [enc f.2, .clo 1 (.dict ks (rs.map .str))] ⟨a, some wAd, c, x⟩ = some (v, ⟨a, some wAd, c, x⟩) /\ run (k + 1) 2 [v, .dict [7] [enc t]] ⟨a, some wAd, c, x⟩ = some (enc (sub 7 t (mapR (putR ks rs) f.2)), ⟨a, some wAd, c, x⟩) := λf hf => by
  have := Nat.le_trans (h.few.1 f hf) hk
  exact ⟨_, put_run ks rs f.2 k _ this, sub_run 7 t _ _ k _ (Nat.le_refl _) ((hgt_mapR _ _).symm ▸ this)⟩
 have e : (fldsOf ks rs t fs).map fldD = fs.map λf => .tup [.str f.1, enc (sub 7 t (mapR (putR ks rs) f.2))] := by unfold fldsOf; rw [List.map_map]; rfl
 rw [e]
 generalize run (k + 1) = C at h6 hcalls ⊢
 obtain ⟨adt, hd⟩ := h.head
 exact fnRun_of rfl (λm => (congrArg (Option.map outS) (hd C m a c x)).trans (congrArg (Option.map outS) (fields_tail (sx := sxF 1) (m := m + 4) h6 h.few.2 hcalls))) rfl
end Mine
end
section
open PySem PySem.W PySem.Calls Classical
set_option maxRecDepth 100000
namespace Mine
noncomputable def pars : Ty -> List Nat
 | .bool => [] | .par k => [k] | .ref _ _ t => pars t | .box t => pars t | .arr t => pars t | .pair t u => pars t ++ pars u | .S _ t => pars t | .E _ _ t => pars t | .L t => pars t
noncomputable def isAdt : Ty -> Bool
 | .S _ _ => true | .E _ _ _ => true | .L _ => true | _ => false
noncomputable def flds : Ty -> List Ty
 | .S r t => [.ref r false t, .bool]
 | .E r q t => [.ref r true (.ref q false (.pair t .bool)), t]
 | .L t => [t, .box (.L t)]
 | _ => []
noncomputable def parsU (t : Ty) : List Nat := (pre t).foldl addP []
abbrev Pr := Nat × Nat
noncomputable def prD (p : Pr) : D := .tup [.str p.1, .str p.2]
noncomputable def tells : Ty -> List Pr
 | .ref r _ t => (regs t ++ parsU t).map λi => (i, r)
 | _ => []
structure Im where
 st : List Ty
 met : List Ty
 found : List Pr
noncomputable def turn (v : Ty) (s : Im) : Im :=
 if isAdt v && !s.met.contains v then ⟨(flds v).reverse ++ (parts v ++ s.st), s.met ++ [v], s.found ++ tells v⟩ else ⟨parts v ++ s.st, s.met, s.found ++ tells v⟩
theorem flds_S {r : Nat} {t : Ty} : (fldsOf [12] [r] t fdS).map (·.2) = [.ref r false t, .bool] := rfl
theorem flds_E {r q : Nat} {t : Ty} : (fldsOf [12, 13] [r, q] t fdE).map (·.2) = [.ref r true (.ref q false (.pair t .bool)), t] := rfl
theorem flds_L {t : Ty} : (fldsOf [] [] t fdL).map (·.2) = [t, .box (.L t)] := rfl
noncomputable def tellX : X := .comp (.tup [.var 20, .idx (.var 10) (.cst (.int 1))]) [20] [10] (.bin .Add (.call 4 [.idx (.var 10) (.cst (.int 3))]) (.call 5 [.idx (.var 10) (.cst (.int 3))])) none
theorem ev_add {C : Calls} {n : Nat} {l : Loc} {σ σ₁ σ₂ : Sg} {a b : X} {x y : List D} (h1 : ev C n l σ a = some (.list x, σ₁)) (h2 : ev C n l σ₁ b = some (.list y, σ₂)) (hl : x.length + y.length <= maxLen) : ev C (n + 1) l σ (.bin .Add a b) = some (.list (x ++ y), σ₂) := bindS h1 (bindS h2 (if_pos hl))
theorem tell_run {C : Calls} {r : Nat} {m : Bool} {t : Ty} {l : Loc} {σ : Sg} (h10 : l.lookup 10 = some (.val (enc (.ref r m t)))) (hf : (l.filter fun q => [10].contains q.1 && notFv q.2) = [(10, .val (enc (.ref r m t)))]) (h4 : C 4 [enc t] σ = some (.list ((regs t).map .str), σ)) (h5 : C 5 [enc t] σ = some (.list ((parsU t).map .str), σ)) (hl : (regs t).length + (parsU t).length ≤ maxLen) :
  ev C evN l σ tellX = some (.list ((tells (.ref r m t)).map prD), σ) := by
 have v10 : ∀ n, ev C (n + 1) l σ (.var 10) = some (enc (.ref r m t), σ) := λn => ev_var h10
 have i3 : ∀ n, ev C (n + 2) l σ (.idx (.var 10) (.cst (.int 3))) = some (enc t, σ) := λn => by
  show ((ev C (n + 1) l σ (.var 10)).bind _) = _
  rw [v10]; rfl
 have c4 : ev C 12 l σ (.call 4 [.idx (.var 10) (.cst (.int 3))]) = some (.list ((regs t).map .str), σ) := (ev_call (n := 11) (ds := [enc t]) (σ₁ := σ) (evs_cons (i3 9) evs_nil)).trans h4
 have c5 : ev C 12 l σ (.call 5 [.idx (.var 10) (.cst (.int 3))]) = some (.list ((parsU t).map .str), σ) := (ev_call (n := 11) (ds := [enc t]) (σ₁ := σ) (evs_cons (i3 9) evs_nil)).trans h5
 have hs : ev C 13 l σ (.bin .Add (.call 4 [.idx (.var 10) (.cst (.int 3))]) (.call 5 [.idx (.var 10) (.cst (.int 3))])) = some (.list ((regs t ++ parsU t).map .str), σ) := by
  rw [ev_add (n := 12) c4 c5 (by rw [List.length_map, List.length_map]; exact hl), List.map_append]
 have e : (tells (.ref r m t)).map prD = (regs t ++ parsU t).map λi => .tup [.str i, .str r] := by
  show ((regs t ++ parsU t).map λi => (i, r)).map prD = _
  rw [List.map_map]; rfl
 rw [e]
 refine ev_comp (n := 13) (elt := .tup [.var 20, .idx (.var 10) (.cst (.int 1))]) (ts := [20]) (fre := [10]) (cond := none) hs rfl (by rw [List.length_map, List.length_append]; exact hl) (by simp [h10]) ?_
 rw [hf]
 exact evc_map D.str (λi => .tup [.str i, .str r]) _ λi _ => ev_tup (n := 12) (evs_cons (d := .str i) (σ₁ := σ) rfl (evs_cons (d := .str r) (σ₁ := σ) rfl evs_nil)) (by simp)
theorem pl1 {a : Bool} (h : a = true) : (a && true) = true := by rw [h]; rfl
theorem plain_enc : ∀ t, plain (enc t) = true
 | .bool => rfl | .par _ => rfl
 | .ref _ _ t => pl1 (plain_enc t)
 | .box t => pl1 (plain_enc t)
 | .arr t => pl1 (plain_enc t)
 | .pair t u => pl1 ((Bool.and_eq_true _ _).mpr ⟨plain_enc t, pl1 (plain_enc u)⟩)
 | .S _ t => pl1 (pl1 (plain_enc t))
 | .E _ _ t => pl1 (pl1 (plain_enc t))
 | .L t => pl1 (pl1 (plain_enc t))
theorem dm {a b n : Nat} (h1 : a <= n) (h2 : b <= n) : max a b <= n := Nat.max_le.mpr ⟨h1, h2⟩
theorem dz {a n : Nat} (h : a <= n) : max 0 a <= n := dm (Nat.zero_le _) h
theorem dz' {a n : Nat} (h : a <= n) : max a 0 <= n := dm h (Nat.zero_le _)
theorem dep_enc : ∀ t, dep (enc t) <= 2 * hgt t
 | .bool => by decide
 | .par _ => Nat.le_succ 1
 | .ref _ _ t => Nat.le_succ_of_le (Nat.succ_le_succ (dz (dz (dz (dz' (dep_enc t))))))
 | .box t => Nat.le_succ_of_le (Nat.succ_le_succ (dz (dz' (dep_enc t))))
 | .arr t => Nat.le_succ_of_le (Nat.succ_le_succ (dz (dm (dep_enc t) (dz' (Nat.zero_le _)))))
 | .pair t u => Nat.succ_le_succ (dz (dz' (Nat.succ_le_succ (dm (Nat.le_trans (dep_enc t) (Nat.mul_le_mul_left 2 (Nat.le_max_left _ _))) (dz' (Nat.le_trans (dep_enc u) (Nat.mul_le_mul_left 2 (Nat.le_max_right _ _))))))))
 | .S _ t => Nat.succ_le_succ (dz (dz (dm (Nat.succ_le_succ (Nat.zero_le _)) (dz' (Nat.succ_le_succ (dz' (dep_enc t)))))))
 | .E _ _ t => Nat.succ_le_succ (dz (dz (dm (Nat.succ_le_succ (Nat.zero_le _)) (dz' (Nat.succ_le_succ (dz' (dep_enc t)))))))
 | .L t => Nat.succ_le_succ (dz (dz (dm (Nat.succ_le_succ (Nat.zero_le _)) (dz' (Nat.succ_le_succ (dz' (dep_enc t)))))))
theorem okD_enc {t : Ty} (h : hgt t <= 50) : okD (enc t) = true := by
 unfold okD; rw [plain_enc, Bool.true_and]; exact decide_eq_true (Nat.le_trans (dep_enc t) (Nat.mul_le_mul_left 2 h))
theorem okDs_enc {ts : List Ty} (h : ∀ t ∈ ts, hgt t <= 50) : okDs (ts.map enc) = true := by
 have key : ∀ ts : List Ty, (∀ t ∈ ts, hgt t <= 50) -> plains (ts.map enc) = true /\ deps (ts.map enc) <= 100 := by
  intro ts
  induction ts with
  | nil => intro _; exact ⟨rfl, Nat.zero_le _⟩
  | cons t ts ih =>
   intro h
   obtain ⟨h1, h2⟩ := ih λu hu => h u (.tail _ hu)
   exact ⟨(Bool.and_eq_true _ _).mpr ⟨plain_enc t, h1⟩, dm (Nat.le_trans (dep_enc t) (Nat.mul_le_mul_left 2 (h t (.head _)))) h2⟩
 obtain ⟨h1, h2⟩ := key ts h
 unfold okDs; rw [h1, Bool.true_and]; exact decide_eq_true h2
theorem enc_inj {a b : Ty} : deq (enc a) (enc b) = true -> a = b := by
 induction a generalizing b with
 | bool => cases b <;> first | exact λ_ => rfl | exact λh => nB h
 | par k => cases b <;> first | exact λh => aB h λh1 _ => by rw [eq_of_beq (h1 : (k == _) = true)] | exact λh => nB h
 | ref r m t ih => cases b <;> first | exact λh => nB h | exact λh => aB h λh1 h => aB h λh2 h => aB h λh3 _ => by rw [eq_of_beq (h1 : (r == _) = true), eq_of_beq (h2 : (m == _) = true), ih h3]
 | box t ih => cases b <;> first | exact λh => nB h | exact λh => aB h λh3 _ => by rw [ih h3]
 | arr t ih => cases b <;> first | exact λh => nB h | exact λh => aB h λh3 _ => by rw [ih h3]
 | pair t u ih1 ih2 => cases b <;> first | exact λh => nB h | exact λh => aB h λh _ => aB h λh1 h => aB h λh2 _ => by rw [ih1 h1, ih2 h2]
 | S r t ih => cases b <;> first | exact λh => nB h | exact λh => aB h λh1 h => aB h1 λh1 _ => aB h λh2 _ => aB h2 λh2 _ => by rw [eq_of_beq (h1 : (r == _) = true), ih h2]
 | E r q t ih => cases b <;> first | exact λh => nB h | exact λh => aB h λh1 h => aB h1 λh1 h1' => aB h1' λh1' _ => aB h λh2 _ => aB h2 λh2 _ => by rw [eq_of_beq (h1 : (r == _) = true), eq_of_beq (h1' : (q == _) = true), ih h2]
 | L t ih => cases b <;> first | exact λh => nB h | exact λh => aB h λh2 _ => aB h2 λh2 _ => by rw [ih h2]
theorem deq_enc (a b : Ty) : deq (enc a) (enc b) = decide (a = b) := by
 by_cases q : a = b
 ·rw [decide_eq_true q, q]; exact deq_refl _ (plain_enc b)
 ·rw [decide_eq_false q]; exact Bool.eq_false_iff.mpr λh => q (enc_inj h)
theorem any_enc (ts : List Ty) (t : Ty) : ((ts.map enc).any λy => deq y (enc t)) = ts.contains t := by
 induction ts with
 | nil => rfl
 | cons u ts ih =>
  rw [List.map_cons, List.any_cons, ih, List.contains_cons, deq_enc]
  congr 1
  by_cases q : u = t
  ·subst q; simp
  ·simp [q, Ne.symm q]
noncomputable def imL (d : D) (found : List Pr) (st met : List Ty) (n : Int) (lv lw : LV) : Loc := [(0, .val d), (12, .val worldD), (7, .ow (found.map prD)), (9, .ow (st.reverse.map enc)), (18, .ow (met.map enc)), (19, .val (.int n)), (10, lv), (11, lw)]
noncomputable def imTest : X := .and (.cmp .Eq (.idx (.var 10) (.cst (.int 0))) (.cst (.str 6))) (.inn true (.var 10) 18)
noncomputable def imFor : S := .fore [11] (.rng (.len (.attr (.idx (.attr (.var 12) 0) (.idx (.var 10) (.cst (.int 1)))) 4))) [.ext 9 (.comp (.var 4) [17, 4] [] (.call 7 [.var 10, .var 11, .var 12]) none)]
noncomputable def imBody : List S := [.asg [10, 19] [.p 9, .v (.bin .Add (.var 19) (.cst (.int 1)))], .ife (.cmp .Gt (.var 19) .glob) [.dead] [], .ife (.cmp .Eq (.idx (.var 10) (.cst (.int 0))) (.cst (.str 2))) [.ext 7 tellX] [], .ext 9 (.rev (.call 0 [.var 10])), .ife imTest [.app 18 (.var 10), imFor] []]
section
variable {C : Calls} {sx : Sx} {n : Nat} {l l' : Loc} {σ σ₁ σ₂ : Sg} {x y z : Nat} {e t : X} {d d2 : D} {a b rest : List S}
theorem xs_pop2 {ds : List D} (hx : hasL l x = true) (hz : hasL l z = true) (hl : l.lookup y = some (.ow ds)) (hxy : ([x, z] : List Nat).contains y = false) (hd : ds.getLast? = some d) (hlen : ds.length ≤ maxLen) (he : ev C evN (setL l y (.ow ds.dropLast)) σ e = some (d2, σ₁)) :
  xs C sx (n + 1) l σ (.asg [x, z] [.p y, .v e] :: rest) = xs C sx n (setL (setL (setL l y (.ow ds.dropLast)) x (.val d)) z (.val d2)) σ₁ rest :=
 ifS (all2 hx hz) (bindS (o := rhs C [x, z] l σ [x, z] [.p y, .v e]) (bindS (rh_pop hl hxy hd hlen) (bindS (o := rhs C [x, z] _ σ [z] [.v e]) (bindS (o := rh C [x, z] _ σ (.v e)) (bindS he rfl) rfl) rfl)) rfl)
end
section
variable {C : Calls} {sx : Sx} {m : Nat} {d : D} {found : List Pr} {st met : List Ty} {n : Int} {lv lw : LV} {v : Ty} {σ : Sg} {rest : List S}
theorem im_pop (hf : notFv lv = true) (hl : st.length + 1 ≤ maxLen) :
  xs C sx (m + 1) (imL d found (v :: st) met n lv lw) σ (.asg [10, 19] [.p 9, .v (.bin .Add (.var 19) (.cst (.int 1)))] :: rest) = xs C sx m (imL d found st met (n + 1) (.val (enc v)) lw) σ rest := by
 have e1 : setL (setL (setL (imL d found (v :: st) met n lv lw) 9 (.ow ((v :: st).reverse.map enc).dropLast)) 10 (.val (enc v))) 19 (.val (.int (n + 1))) = imL d found st met (n + 1) (.val (enc v)) lw := by
  rw [drop_enc]; rfl
 exact (xs_pop2 (ds := (v :: st).reverse.map enc) (d := enc v) (d2 := .int (n + 1)) (σ₁ := σ) (by show notFv lv = true; exact hf) rfl rfl (by decide) (last_enc v st) (by rw [len_enc]; exact hl) rfl).trans (by rw [e1])
theorem im_many (hn : n ≤ 4000) :
  xs C sx (m + 2) (imL d found st met n lv lw) σ (.ife (.cmp .Gt (.var 19) .glob) [.dead] [] :: rest) = xs C sx (m + 1) (imL d found st met n lv lw) σ rest :=
 xs_ife_0 (n := m) (ev_cmp (n := 13) (σ₁ := σ) (d := .int n) (e := .int 4000) rfl rfl (congrArg (λb => some b) (decide_eq_false (Int.not_lt.mpr hn))))
theorem im_tell (h45 : ∀ r b t, v = .ref r b t → C 4 [enc t] σ = some (.list ((regs t).map .str), σ) ∧ C 5 [enc t] σ = some (.list ((parsU t).map .str), σ)) (hl : found.length + (tells v).length ≤ maxLen) :
  xs C sx (m + 3) (imL d found st met n (.val (enc v)) lw) σ (.ife (.cmp .Eq (.idx (.var 10) (.cst (.int 0))) (.cst (.str 2))) [.ext 7 tellX] [] :: rest) = xs C sx (m + 2) (imL d (found ++ tells v) st met n (.val (enc v)) lw) σ rest := by
 have t := tag_test (C := C) (n := 11) (l := imL d found st met n (.val (enc v)) lw) (σ := σ) (x := 10) (j := 2) (v := v) rfl
 have skip : (tag v == 2) = false -> tells v = [] -> xs C sx (m + 3) (imL d found st met n (.val (enc v)) lw) σ (.ife (.cmp .Eq (.idx (.var 10) (.cst (.int 0))) (.cst (.str 2))) [.ext 7 tellX] [] :: rest) = xs C sx (m + 2) (imL d (found ++ tells v) st met n (.val (enc v)) lw) σ rest := λh e => by
  rw [h] at t
  rw [e, List.append_nil]
  exact xs_ife_0 (n := m + 1) t
 cases v with
 | ref r b u =>
  obtain ⟨h4, h5⟩ := h45 r b u rfl
  have ht : (tells (.ref r b u)).length = (regs u).length + (parsU u).length := (List.length_map _).trans List.length_append
  have htell := tell_run (C := C) (r := r) (m := b) (t := u) (l := imL d found st met n (.val (enc (.ref r b u))) lw) (σ := σ) rfl rfl h4 h5 (Nat.le_trans (by rw [<- ht]; exact Nat.le_add_left _ _) hl)
  refine xs_ife_n (n := m + 2) t ((xs_ext (n := m + 1) htell rfl rfl (by rw [List.length_map, List.length_map]; exact hl)).trans ?_)
  rw [<- List.map_append]
  exact xs_nil (n := m)
 | bool => exact skip rfl rfl
 | par _ => exact skip rfl rfl
 | box _ => exact skip rfl rfl
 | arr _ => exact skip rfl rfl
 | pair _ _ => exact skip rfl rfl
 | S _ _ => exact skip rfl rfl
 | E _ _ _ => exact skip rfl rfl
 | L _ => exact skip rfl rfl
theorem im_parts (h0 : C 0 [enc v] σ = some (.tup ((parts v).map enc), σ)) (hl : st.length + 2 ≤ maxLen) :
  xs C sx (m + 1) (imL d found st met n (.val (enc v)) lw) σ (.ext 9 (.rev (.call 0 [.var 10])) :: rest) = xs C sx m (imL d found (parts v ++ st) met n (.val (enc v)) lw) σ rest := by
 have hv : ((parts v).map enc).length <= 2 := by rw [List.length_map]; exact parts_2 v
 have e2 : setL (imL d found st met n (.val (enc v)) lw) 9 (.ow (st.reverse.map enc ++ ((parts v).map enc).reverse)) = imL d found (parts v ++ st) met n (.val (enc v)) lw := by rw [push_enc']; rfl
 exact (xs_ext (n := m) (ev_rev (n := 13) ((ev_call (n := 12) (ds := [enc v]) (σ₁ := σ) rfl).trans h0) (Nat.le_trans hv (by decide))) rfl rfl (by rw [len_enc, List.length_reverse]; exact Nat.le_trans (Nat.add_le_add_left hv _) hl)).trans (by rw [e2])
theorem im_test (hv : hgt v <= 50) (hm : ∀ u ∈ met, hgt u <= 50) : ev C evN (imL d found st met n (.val (enc v)) lw) σ imTest = some (.bool (isAdt v && !met.contains v), σ) := by
 have t := tag_test (C := C) (n := 10) (l := imL d found st met n (.val (enc v)) lw) (σ := σ) (x := 10) (j := 6) (v := v) rfl
 have yes : (tag v == 6) = true -> isAdt v = true -> ev C evN (imL d found st met n (.val (enc v)) lw) σ imTest = some (.bool (isAdt v && !met.contains v), σ) := λh e => by
  rw [h] at t
  refine (ev_and_t (n := 13) (b := .inn true (.var 10) 18) t).trans ?_
  show (if okD (enc v) && okDs (met.map enc) then some (D.bool (true ^^ (met.map enc).any λy => deq y (enc v)), σ) else none) = _
  rw [okD_enc hv, okDs_enc hm, any_enc, e, Bool.true_xor]
  rfl
 cases v with
 | bool => exact ev_and_f (n := 13) t
 | par _ => exact ev_and_f (n := 13) t
 | ref _ _ _ => exact ev_and_f (n := 13) t
 | box _ => exact ev_and_f (n := 13) t
 | arr _ => exact ev_and_f (n := 13) t
 | pair _ _ => exact ev_and_f (n := 13) t
 | S _ _ => exact yes rfl rfl
 | E _ _ _ => exact yes rfl rfl
 | L _ => exact yes rfl rfl
end
noncomputable def imExt : List S := [.ext 9 (.comp (.var 4) [17, 4] [] (.call 7 [.var 10, .var 11, .var 12]) none)]
section
variable {C : Calls} {sx : Sx} {m : Nat} {d : D} {found : List Pr} {st met : List Ty} {n : Int} {lv lw : LV} {v : Ty} {σ : Sg}
theorem im_iter {i : Int} {fs : List Fld} {us : List Ty} (h7 : C 7 [enc v, .int i, worldD] σ = some (.list (fs.map fldD), σ)) (hfs : fs.length ≤ 5) (hl : st.length + 5 ≤ maxLen) (e : fs.map (·.2) = us) :
  xs C sx (m + 2) (imL d found st met n (.val (enc v)) (.val (.int i))) σ imExt = some (.next, imL d found (us.reverse ++ st) met n (.val (enc v)) (.val (.int i)), σ) := by
 have hs : ev C 13 (imL d found st met n (.val (enc v)) (.val (.int i))) σ (.call 7 [.var 10, .var 11, .var 12]) = some (.list (fs.map fldD), σ) := (ev_call (n := 12) (ds := [enc v, .int i, worldD]) (σ₁ := σ) rfl).trans h7
 have hc := ev_comp (n := 13) (elt := .var 4) (ts := [17, 4]) (fre := []) (cond := none) hs rfl (by rw [List.length_map]; exact Nat.le_trans hfs (by decide)) rfl (evc_gen fldD (λf => [(17, .val (.str f.1)), (4, .val (enc f.2))]) (λf => enc f.2) (λ_ => rfl) fs λf hf => rfl)
 have q : (fs.map λf => enc f.2) = us.map enc := by rw [<- e, List.map_map]; rfl
 refine (xs_ext (n := m + 1) hc rfl rfl (by rw [List.length_map, List.length_reverse, List.length_map]; exact Nat.le_trans (Nat.add_le_add_left hfs _) hl)).trans ?_
 rw [q, push_enc]
 exact xs_nil (n := m)
theorem fors_cons {f : Loc -> Sg -> Option (Out × Loc × Sg)} {x : Nat} {d : D} {ds : List D} {l l' : Loc} {σ σ' : Sg} (hx : hasL l x = true) (h : f (setL l x (.val d)) σ = some (.next, l', σ')) : fors f [x] (d :: ds) l σ = fors f [x] ds l' σ' := by
 have e : fors f [x] (d :: ds) l σ = (if [x].all (hasL l) then (f (setL l x (.val d)) σ).bind λp => match p.1 with
  | .next => fors f [x] ds p.2.1 p.2.2
  | .ret d => some (.ret d, p.2)
  else none) := rfl
 exact e.trans (ifS (all1 hx) (bindS h rfl))
theorem xs_fore {ts : List Nat} {e : X} {b rest : List S} {ds : List D} {l l' : Loc} {dv : D} {σ₁ σ₂ : Sg} {n : Nat} (he : ev C evN l σ e = some (dv, σ₁)) (hq : itD dv = some ds) (hlen : ds.length ≤ maxLen) (hf : fors (fun l σ => xs C sx n l σ b) ts ds l σ₁ = some (.next, l', σ₂)) :
  xs C sx (n + 1) l σ (.fore ts e b :: rest) = xs C sx n l' σ₂ rest := bindS he (bindS hq (ifS hlen (bindS hf rfl)))
end
def Ask7 (C : Calls) (σ : Sg) : Prop := ∀ {u t : Ty} {i : Int} {ks rs : List Nat} {fs : List Fld}, HasFlds u i ks rs t fs -> C 7 [enc u, .int i, worldD] σ = some (.list ((fldsOf ks rs t fs).map fldD), σ)
section
variable {C : Calls} {sx : Sx} {m : Nat} {d : D} {found : List Pr} {st met : List Ty} {n : Int} {lv lw : LV} {v : Ty}
theorem im_one {σ : Sg} {u t : Ty} {i : Int} {ks rs : List Nat} {fs : List Fld} {us : List Ty} {ds : List D} (h7 : Ask7 C σ) (h : HasFlds u i ks rs t fs) (e : (fldsOf ks rs t fs).map (·.2) = us) (hw : notFv lw = true) (hl : st.length + 5 ≤ maxLen) :
  fors (λl σ => xs C sx (m + 2) l σ imExt) [11] (.int i :: ds) (imL d found st met n (.val (enc u)) lw) σ = fors (λl σ => xs C sx (m + 2) l σ imExt) [11] ds (imL d found (us.reverse ++ st) met n (.val (enc u)) (.val (.int i))) σ :=
 fors_cons (show notFv lw = true from hw) (im_iter (m := m) (h7 h) (by unfold fldsOf; rw [List.length_map]; exact h.few.2) hl e)
theorem im_go {σ : Sg} {u : Ty} {i : Int} {k : Nat} {us : List Ty} {ds : List D} {rest : List S} (he : ev C evN (imL d found st met n (.val (enc u)) lw) σ (.rng (.len (.attr (.idx (.attr (.var 12) 0) (.idx (.var 10) (.cst (.int 1)))) 4))) = some (.rng k, σ)) (hq : itD (.rng k) = some ds) (hk : ds.length ≤ maxLen)
  (hf : fors (λl σ => xs C sx (m + 2) l σ imExt) [11] ds (imL d found st met n (.val (enc u)) lw) σ = some (.next, imL d found (us.reverse ++ st) met n (.val (enc u)) (.val (.int i)), σ)) : ∃ i, xs C sx (m + 3) (imL d found st met n (.val (enc u)) lw) σ (imFor :: rest) = xs C sx (m + 2) (imL d found (us.reverse ++ st) met n (.val (enc u)) (.val (.int i))) σ rest :=
 ⟨i, xs_fore (n := m + 2) he hq hk hf⟩
theorem im_for {a : Option (List D)} {c : Option (List Nat × List D)} {rest : List S} (h7 : Ask7 C ⟨a, some wAd, c, none⟩) (hv : isAdt v = true) (hw : notFv lw = true) (hl : st.length + 20 ≤ maxLen) :
  ∃ i, xs C sx (m + 3) (imL d found st met n (.val (enc v)) lw) ⟨a, some wAd, c, none⟩ (imFor :: rest) = xs C sx (m + 2) (imL d found ((flds v).reverse ++ st) met n (.val (enc v)) (.val (.int i))) ⟨a, some wAd, c, none⟩ rest := by
 have hl5 := Nat.le_trans (Nat.add_le_add_left (show 5 <= 20 by decide) _) hl
 cases v with
 | S r t => exact im_go (k := 1) (ds := [.int 0]) (us := flds (.S r t)) (by kernel_rfl) rfl (by decide) ((im_one h7 (HasFlds.S r t) flds_S hw hl5).trans rfl)
 | E r q t => exact im_go (k := 2) (ds := [.int 0, .int 1]) (us := flds (.E r q t)) (by kernel_rfl) rfl (by decide) ((im_one h7 (HasFlds.E0 r q t) rfl hw hl5).trans ((im_one h7 (HasFlds.E1 r q t) flds_E rfl hl5).trans rfl))
 | L t => exact im_go (k := 1) (ds := [.int 0]) (us := flds (.L t)) (by kernel_rfl) rfl (by decide) ((im_one h7 (HasFlds.L t) flds_L hw hl5).trans rfl)
 | _ => exact nB hv
theorem im_adt {a : Option (List D)} {c : Option (List Nat × List D)} (h7 : Ask7 C ⟨a, some wAd, c, none⟩) (hv : hgt v ≤ 50) (hm : ∀ u ∈ met, hgt u ≤ 50) (hw : notFv lw = true) (hl : st.length + 20 ≤ maxLen) (hml : met.length ≤ maxLen) :
  ∃ lw', notFv lw' = true /\ xs C sx (m + 6) (imL d found st met n (.val (enc v)) lw) ⟨a, some wAd, c, none⟩ [.ife imTest [.app 18 (.var 10), imFor] []] =
   some (.next, (if isAdt v && !met.contains v then imL d found ((flds v).reverse ++ st) (met ++ [v]) n (.val (enc v)) lw' else imL d found st met n (.val (enc v)) lw'), ⟨a, some wAd, c, none⟩) := by
 have ht := im_test (C := C) (d := d) (found := found) (st := st) (met := met) (n := n) (lw := lw) (v := v) (σ := ⟨a, some wAd, c, none⟩) hv hm
 cases hb : isAdt v && !met.contains v with
 | true =>
  rw [hb] at ht
  obtain ⟨i, hf⟩ := im_for (C := C) (sx := sx) (m := m + 1) (d := d) (found := found) (st := st) (met := met ++ [v]) (n := n) (lw := lw) (v := v) (rest := []) h7 ((Bool.and_eq_true _ _).mp hb).1 hw hl
  have e3 : setL (imL d found st met n (.val (enc v)) lw) 18 (.ow (met.map enc ++ [enc v])) = imL d found st (met ++ [v]) n (.val (enc v)) lw := by
   rw [show met.map enc ++ [enc v] = (met ++ [v]).map enc from by rw [List.map_append]; rfl]; rfl
  exact ⟨.val (.int i), rfl, (xs_ife_n (n := m + 5) ht ((xs_app (n := m + 4) (d := enc v) (ds := met.map enc) (σ₁ := ⟨a, some wAd, c, none⟩) rfl rfl (by rw [List.length_map]; exact hml)).trans (e3 ▸ hf.trans (xs_nil (n := m + 2))))).trans (xs_nil (n := m + 4))⟩
 | false =>
  rw [hb] at ht
  exact ⟨lw, hw, (xs_ife_n (n := m + 5) ht (xs_nil (n := m + 4))).trans (xs_nil (n := m + 4))⟩
end
noncomputable def clo : Ty -> List Ty
 | .bool => [.bool] | .par k => [.par k] | .ref r m t => .ref r m t :: clo t | .box t => .box t :: clo t | .arr t => .arr t :: clo t | .pair t u => .pair t u :: (clo t ++ clo u)
 | .S r t => .S r t :: .ref r false t :: .bool :: clo t
 | .E r q t => .E r q t :: .ref r true (.ref q false (.pair t .bool)) :: .ref q false (.pair t .bool) :: .pair t .bool :: .bool :: clo t
 | .L t => .L t :: .box (.L t) :: clo t
theorem clo_self : ∀ t : Ty, t ∈ clo t
 | .bool => .head _ | .par _ => .head _ | .ref _ _ _ => .head _ | .box _ => .head _ | .arr _ => .head _ | .pair _ _ => .head _ | .S _ _ => .head _ | .E _ _ _ => .head _ | .L _ => .head _
section
variable {a b : Ty} {l : List Ty} {P : Ty -> Prop}
theorem mc (h : P a) (k : ∀ v ∈ l, P v) : ∀ v ∈ a :: l, P v := List.forall_mem_cons.mpr ⟨h, k⟩
theorem m0 : ∀ v ∈ ([] : List Ty), P v := List.forall_mem_nil _
theorem m1 (h : P a) : ∀ v ∈ [a], P v := mc h m0
theorem m2 (h : P a) (k : P b) : ∀ v ∈ [a, b], P v := mc h (m1 k)
theorem ma {l' : List Ty} (h : ∀ v ∈ l, P v) (k : ∀ v ∈ l', P v) : ∀ v ∈ l ++ l', P v := λv hv => (List.mem_append.mp hv).elim (h v) (k v)
end
def Cl (f : Ty -> List Ty) (l : List Ty) (u : Ty) : Prop := ∀ v ∈ f u, v ∈ l
theorem clo_p : ∀ t, ∀ u ∈ clo t, Cl parts (clo t) u
 | .bool => m1 m0
 | .par _ => m1 m0
 | .ref _ _ t => mc (m1 (.tail _ (clo_self t))) λu hu v hv => .tail _ (clo_p t u hu v hv)
 | .box t => mc (m1 (.tail _ (clo_self t))) λu hu v hv => .tail _ (clo_p t u hu v hv)
 | .arr t => mc (m1 (.tail _ (clo_self t))) λu hu v hv => .tail _ (clo_p t u hu v hv)
 | .pair t w => mc (m2 (.tail _ (List.mem_append_left _ (clo_self t))) (.tail _ (List.mem_append_right _ (clo_self w)))) (ma (λu hu v hv => .tail _ (List.mem_append_left _ (clo_p t u hu v hv))) λu hu v hv => .tail _ (List.mem_append_right _ (clo_p w u hu v hv)))
 | .S _ t => have k {v} (h : v ∈ clo t) : v ∈ clo (.S _ t) := .tail _ (.tail _ (.tail _ h))
  mc (m1 (k (clo_self t))) (mc (m1 (k (clo_self t))) (mc m0 λu hu v hv => k (clo_p t u hu v hv)))
 | .E _ _ t => have k {v} (h : v ∈ clo t) : v ∈ clo (.E _ _ t) := .tail _ (.tail _ (.tail _ (.tail _ (.tail _ h))))
  mc (m1 (k (clo_self t))) (mc (m1 (.tail _ (.tail _ (.head _)))) (mc (m1 (.tail _ (.tail _ (.tail _ (.head _))))) (mc (m2 (k (clo_self t)) (.tail _ (.tail _ (.tail _ (.tail _ (.head _)))))) (mc m0 λu hu v hv => k (clo_p t u hu v hv)))))
 | .L t => mc (m1 (.tail _ (.tail _ (clo_self t)))) (mc (m1 (.head _)) λu hu v hv => .tail _ (.tail _ (clo_p t u hu v hv)))
theorem clo_f : ∀ t, ∀ u ∈ clo t, Cl flds (clo t) u
 | .bool => m1 m0
 | .par _ => m1 m0
 | .ref _ _ t => mc m0 λu hu v hv => .tail _ (clo_f t u hu v hv)
 | .box t => mc m0 λu hu v hv => .tail _ (clo_f t u hu v hv)
 | .arr t => mc m0 λu hu v hv => .tail _ (clo_f t u hu v hv)
 | .pair t w => mc m0 (ma (λu hu v hv => .tail _ (List.mem_append_left _ (clo_f t u hu v hv))) λu hu v hv => .tail _ (List.mem_append_right _ (clo_f w u hu v hv)))
 | .S _ t => mc (m2 (.tail _ (.head _)) (.tail _ (.tail _ (.head _)))) (mc m0 (mc m0 λu hu v hv => .tail _ (.tail _ (.tail _ (clo_f t u hu v hv)))))
 | .E _ _ t => have k {v} (h : v ∈ clo t) : v ∈ clo (.E _ _ t) := .tail _ (.tail _ (.tail _ (.tail _ (.tail _ h))))
  mc (m2 (.tail _ (.head _)) (k (clo_self t))) (mc m0 (mc m0 (mc m0 (mc m0 λu hu v hv => k (clo_f t u hu v hv)))))
 | .L t => mc (m2 (.tail _ (.tail _ (clo_self t))) (.tail _ (.head _))) (mc m0 λu hu v hv => .tail _ (.tail _ (clo_f t u hu v hv)))
theorem clo_parts {t u v : Ty} (hu : u ∈ clo t) (hv : v ∈ parts u) : v ∈ clo t := clo_p t u hu v hv
theorem clo_flds {t u v : Ty} (hu : u ∈ clo t) (hv : v ∈ flds u) : v ∈ clo t := clo_f t u hu v hv
theorem clo_h : ∀ t, ∀ u ∈ clo t, hgt u <= hgt t + 2
 | .bool => m1 (Nat.le_add_right _ 2)
 | .par _ => m1 (Nat.le_add_right _ 2)
 | .ref _ _ t => mc (Nat.le_add_right _ 2) λu hu => Nat.le_succ_of_le (clo_h t u hu)
 | .box t => mc (Nat.le_add_right _ 2) λu hu => Nat.le_succ_of_le (clo_h t u hu)
 | .arr t => mc (Nat.le_add_right _ 2) λu hu => Nat.le_succ_of_le (clo_h t u hu)
 | .pair t w => mc (Nat.le_add_right _ 2) (ma (λu hu => Nat.le_succ_of_le (Nat.le_trans (clo_h t u hu) (Nat.add_le_add_right (Nat.le_max_left _ _) 2))) λu hu => Nat.le_succ_of_le (Nat.le_trans (clo_h w u hu) (Nat.add_le_add_right (Nat.le_max_right _ _) 2)))
 | .S _ t => mc (Nat.le_add_right _ 2) (mc (Nat.le_add_right _ 2) (mc (Nat.le_trans (hgt_pos _) (Nat.le_add_right _ 2)) λu hu => Nat.le_succ_of_le (clo_h t u hu)))
 | .E _ _ t => have k : hgt (.pair t .bool) <= hgt t + 1 := Nat.succ_le_succ (Nat.max_le.mpr ⟨Nat.le_refl _, hgt_pos t⟩)
  mc (Nat.le_add_right _ 2) (mc (Nat.succ_le_succ (Nat.succ_le_succ k)) (mc (Nat.le_succ_of_le (Nat.succ_le_succ k)) (mc (Nat.le_succ_of_le (Nat.le_succ_of_le k)) (mc (Nat.le_trans (hgt_pos _) (Nat.le_add_right _ 2)) λu hu => Nat.le_succ_of_le (clo_h t u hu)))))
 | .L t => mc (Nat.le_add_right _ 2) (mc (Nat.le_succ _) λu hu => Nat.le_succ_of_le (clo_h t u hu))
theorem clo_hgt {t u : Ty} (hu : u ∈ clo t) : hgt u <= hgt t + 2 := clo_h t u hu
noncomputable def siz : Ty -> Nat
 | .bool => 1 | .par _ => 1 | .ref _ _ t => 1 + siz t | .box t => 1 + siz t | .arr t => 1 + siz t | .pair t u => 1 + siz t + siz u | .S _ t => 1 + siz t | .E _ _ t => 1 + siz t | .L t => 1 + siz t
structure ImC (C : Calls) (σ : Sg) : Prop where
 h0 : ∀ v, C 0 [enc v] σ = some (.tup ((parts v).map enc), σ)
 h4 : ∀ t, hgt t <= 30 -> siz t <= 100 -> C 4 [enc t] σ = some (.list ((regs t).map .str), σ)
 h5 : ∀ t, hgt t <= 30 -> siz t <= 100 -> C 5 [enc t] σ = some (.list ((parsU t).map .str), σ)
 h7 : Ask7 C σ
section
variable {C : Calls} {sx : Sx} {m : Nat} {d : D} {n : Int} {lv lw : LV} {v : Ty} {st met : List Ty} {found : List Pr}
noncomputable def imLs (d : D) (s : Im) (n : Int) (lv lw : LV) : Loc := imL d s.found s.st s.met n lv lw
theorem im_step {a : Option (List D)} {c : Option (List Nat × List D)} (H : ImC C ⟨a, some wAd, c, none⟩) (hv : hgt v ≤ 30) (hvz : siz v ≤ 100) (hm : ∀ u ∈ met, hgt u ≤ 50) (hw : notFv lw = true) (hlv : notFv lv = true) (hl : st.length + 30 ≤ maxLen) (hml : met.length ≤ maxLen) (hfl : found.length + (tells v).length ≤ maxLen) (hn : n + 1 ≤ 4000) :
  ∃ lw', notFv lw' = true /\ xs C sx (m + 10) (imL d found (v :: st) met n lv lw) ⟨a, some wAd, c, none⟩ imBody = some (.next, imLs d (turn v ⟨st, met, found⟩) (n + 1) (.val (enc v)) lw', ⟨a, some wAd, c, none⟩) := by
 unfold imBody
 have hp := parts_2 v
 rw [im_pop (m := m + 9) hlv (by lia), im_many (m := m + 7) hn, im_tell (m := m + 5) (λr b t e => ?_) hfl, im_parts (m := m + 6) (H.h0 v) (by lia)]
 ·obtain ⟨lw', q1, q2⟩ := im_adt (C := C) (sx := sx) (m := m) (d := d) (found := found ++ tells v) (st := parts v ++ st) (met := met) (n := n + 1) (lw := lw) (v := v) H.h7 (by lia) hm hw (by rw [List.length_append]; lia) hml
  refine ⟨lw', q1, q2.trans ?_⟩
  congr 1
  unfold turn imLs
  by_cases hb : (isAdt v && !met.contains v) = true
  ·rw [if_pos hb, if_pos hb]
  ·rw [if_neg hb, if_neg hb]
 ·subst e
  have : hgt t <= 30 := Nat.le_of_succ_le hv
  have hz : siz t <= 100 := Nat.le_trans (Nat.le_add_left _ 1) hvz
  exact ⟨H.h4 t this hz, H.h5 t this hz⟩
end
noncomputable def cost (met : List Ty) : Ty -> Nat
 | .bool => 1 | .par _ => 1 | .ref _ _ t => 1 + cost met t | .box t => 1 + cost met t | .arr t => 1 + cost met t | .pair t u => 1 + cost met t + cost met u
 | .S _ t => 3 + 2 * cost met t | .E _ _ t => 5 + 3 * cost met t
 | .L t => if met.contains (.L t) then 1 + cost met t else 3 + 3 * cost met t
theorem cost_mono (met : List Ty) (v : Ty) : ∀ t, cost (met ++ [v]) t <= cost met t
 | .bool => Nat.le_refl _ | .par _ => Nat.le_refl _
 | .ref _ _ t => Nat.add_le_add_left (cost_mono met v t) 1
 | .box t => Nat.add_le_add_left (cost_mono met v t) 1
 | .arr t => Nat.add_le_add_left (cost_mono met v t) 1
 | .pair t u => Nat.add_le_add (Nat.add_le_add_left (cost_mono met v t) 1) (cost_mono met v u)
 | .S _ t => Nat.add_le_add_left (Nat.mul_le_mul_left 2 (cost_mono met v t)) 3
 | .E _ _ t => Nat.add_le_add_left (Nat.mul_le_mul_left 3 (cost_mono met v t)) 5
 | .L t => by
  have h := cost_mono met v t
  show (if (met ++ [v]).contains (.L t) = true then 1 + cost (met ++ [v]) t else 3 + 3 * cost (met ++ [v]) t) <= if met.contains (.L t) = true then 1 + cost met t else 3 + 3 * cost met t
  by_cases q : met.contains (.L t) = true
  ·rw [if_pos q, if_pos (List.contains_iff_mem.mpr (List.mem_append_left _ (List.contains_iff_mem.mp q)))]; exact Nat.add_le_add_left h 1
  ·rw [if_neg q]
   split
   ·lia
   ·exact Nat.add_le_add_left (Nat.mul_le_mul_left 3 h) 3
noncomputable def costs (met : List Ty) (st : List Ty) : Nat := (st.map (cost met)).sum
theorem costs_mono (met : List Ty) (v : Ty) : ∀ st, costs (met ++ [v]) st <= costs met st
 | [] => Nat.le_refl _
 | t :: st => Nat.add_le_add (cost_mono met v t) (costs_mono met v st)
theorem costs_app (met a b : List Ty) : costs met (a ++ b) = costs met a + costs met b := by unfold costs; rw [List.map_append, List.sum_append]
theorem cost_flds {met : List Ty} : ∀ v, (isAdt v && !met.contains v) = true -> costs (met ++ [v]) (flds v) + costs (met ++ [v]) (parts v) + 1 <= cost met v
 | .S r t, _ => by
  have h := cost_mono met (.S r t) t
  show (1 + cost (met ++ [.S r t]) t) + (1 + 0) + (cost (met ++ [.S r t]) t + 0) + 1 <= 3 + 2 * cost met t
  lia
 | .E r q t, _ => by
  have h := cost_mono met (.E r q t) t
  show (1 + (1 + (1 + cost (met ++ [.E r q t]) t + 1))) + (cost (met ++ [.E r q t]) t + 0) + (cost (met ++ [.E r q t]) t + 0) + 1 <= 5 + 3 * cost met t
  lia
 | .L t, hb => by
  have h := cost_mono met (.L t) t
  have e1 : cost (met ++ [.L t]) (.L t) = 1 + cost (met ++ [.L t]) t := if_pos (List.contains_iff_mem.mpr (List.mem_append_right _ (.head _)))
  have e2 : cost met (.L t) = 3 + 3 * cost met t := if_neg (by rw [(fB hb : met.contains (.L t) = false)]; exact Bool.false_ne_true)
  show (cost (met ++ [.L t]) t + ((1 + cost (met ++ [.L t]) (.L t)) + 0)) + (cost (met ++ [.L t]) t + 0) + 1 <= cost met (.L t)
  rw [e1, e2]
  lia
theorem cost_parts {met : List Ty} : ∀ v, costs met (parts v) + 1 <= cost met v
 | .bool => Nat.le_refl _ | .par _ => Nat.le_refl _
 | .ref _ _ t => (by lia : ∀ c, (c + 0) + 1 <= 1 + c) _
 | .box t => (by lia : ∀ c, (c + 0) + 1 <= 1 + c) _
 | .arr t => (by lia : ∀ c, (c + 0) + 1 <= 1 + c) _
 | .pair t u => (by lia : ∀ c b, (c + (b + 0)) + 1 <= 1 + c + b) _ _
 | .S _ t => (by lia : ∀ c, (c + 0) + 1 <= 3 + 2 * c) _
 | .E _ _ t => (by lia : ∀ c, (c + 0) + 1 <= 5 + 3 * c) _
 | .L t => by
  show (cost met t + 0) + 1 <= if met.contains (.L t) = true then 1 + cost met t else 3 + 3 * cost met t
  split <;> lia
theorem cost_turn (v : Ty) (s : Im) : costs (turn v s).met (turn v s).st + 1 <= costs s.met (v :: s.st) := by
 unfold turn
 show _ <= cost s.met v + costs s.met s.st
 by_cases hb : (isAdt v && !s.met.contains v) = true
 ·rw [if_pos hb]
  show costs (s.met ++ [v]) ((flds v).reverse ++ (parts v ++ s.st)) + 1 <= _
  have er : costs (s.met ++ [v]) (flds v).reverse = costs (s.met ++ [v]) (flds v) := by unfold costs; rw [List.map_reverse, List.sum_reverse]
  rw [costs_app, costs_app, er]
  have h1 := costs_mono s.met v s.st
  have key := cost_flds v hb
  lia
 ·rw [if_neg hb]
  show costs s.met (parts v ++ s.st) + 1 <= _
  rw [costs_app]
  have key := cost_parts (met := s.met) v
  lia
structure ImI (t0 : Ty) (W : List Ty) (s : Im) : Prop where
 start : t0 ∈ W \/ t0 ∈ s.st
 parts : ∀ u ∈ W, ∀ v ∈ parts u, v ∈ W \/ v ∈ s.st
 adts : ∀ u ∈ W, isAdt u = true -> u ∈ s.met
 flds : ∀ u ∈ s.met, ∀ v ∈ flds u, v ∈ W \/ v ∈ s.st
 metW : ∀ u ∈ s.met, u ∈ W
 wIn : ∀ u ∈ W, u ∈ clo t0
 stIn : ∀ u ∈ s.st, u ∈ clo t0
 found : ∀ p, p ∈ s.found ↔ ∃ u ∈ W, p ∈ tells u
theorem ImI.init (t0 : Ty) : ImI t0 [] ⟨[t0], [], []⟩ := ⟨.inr (.head _), m0, m0, m0, m0, m0, m1 (clo_self _), λp => ⟨λh => (nomatch h), λ⟨u, hu, _⟩ => (nomatch hu)⟩⟩
theorem ex_cons {v : Ty} {R : List Ty} {P : Ty -> Prop} : (∃ u, u ∈ v :: R /\ P u) ↔ P v \/ ∃ u, u ∈ R /\ P u := ⟨λ⟨u, hu, q⟩ => (List.mem_cons.mp hu).elim (λe => .inl (e ▸ q)) λh => .inr ⟨u, h, q⟩, λq => q.elim (λq => ⟨v, .head _, q⟩) λ⟨u, h, q⟩ => ⟨u, .tail _ h, q⟩⟩
theorem ImI.go {t0 v : Ty} {W st met st' met' : List Ty} {found : List Pr} (h : ImI t0 W ⟨v :: st, met, found⟩) (sub : ∀ w ∈ st, w ∈ st') (hp : ∀ w ∈ Mine.parts v, w ∈ st') (hin : ∀ u ∈ st', u ∈ clo t0) (hmet : ∀ u ∈ met, u ∈ met') (hmv : isAdt v = true -> v ∈ met') (hmet' : ∀ u ∈ met', u ∈ met \/ u = v /\ ∀ w ∈ Mine.flds v, w ∈ st') : ImI t0 (v :: W) ⟨st', met', found ++ tells v⟩ :=
 have mv : ∀ {u : Ty}, (u ∈ W \/ u ∈ v :: st) -> (u ∈ v :: W \/ u ∈ st') := λh => h.elim (λh => .inl (.tail _ h)) λh => (List.mem_cons.mp h).elim (λe => .inl (e ▸ .head _)) λh => .inr (sub _ h)
 ⟨mv h.start, mc (λw hw => .inr (hp w hw)) λu hu w hw => mv (h.parts u hu w hw), mc hmv λu hu ha => hmet u (h.adts u hu ha), λu hu w hw => (hmet' u hu).elim (λq => mv (h.flds u q w hw)) λ⟨e, q⟩ => .inr (q w (e ▸ hw)),
  λu hu => (hmet' u hu).elim (λq => .tail _ (h.metW u q)) λ⟨e, _⟩ => e ▸ .head _, mc (h.stIn v (.head _)) h.wIn, hin, λp => List.mem_append.trans ((or_congr (h.found p) Iff.rfl).trans (or_comm.trans (ex_cons (P := λu => p ∈ tells u)).symm))⟩
theorem ImI.turn {t0 v : Ty} {W st met : List Ty} {found : List Pr} (h : ImI t0 W ⟨v :: st, met, found⟩) : ImI t0 (v :: W) (turn v ⟨st, met, found⟩) := by
 have hv : v ∈ clo t0 := h.stIn v (.head _)
 have hin : ∀ u ∈ Mine.parts v ++ st, u ∈ clo t0 := ma (λu hu => clo_parts hv hu) λu hu => h.stIn u (.tail _ hu)
 unfold Mine.turn
 cases hb : isAdt v && !met.contains v with
 | true =>
  exact h.go (λw hw => List.mem_append_right _ (List.mem_append_right _ hw)) (λw hw => List.mem_append_right _ (List.mem_append_left _ hw)) (ma (λu hu => clo_flds hv (List.mem_reverse.mp hu)) hin) (λu hu => List.mem_append_left _ hu) (λ_ => List.mem_append_right _ (.head _))
   λu hu => (List.mem_append.mp hu).elim .inl λq => .inr ⟨List.mem_singleton.mp q, λw hw => List.mem_append_left _ (List.mem_reverse.mpr hw)⟩
 | false =>
  refine h.go (λw hw => List.mem_append_right _ hw) (λw hw => List.mem_append_left _ hw) hin (λu hu => hu) (λha => ?_) λu hu => .inl hu
  cases hc : met.contains v with
  | true => exact List.contains_iff_mem.mp hc
  | false => rw [ha, hc] at hb; exact nB hb.symm
theorem clo_sub {W : List Ty} (hp : ∀ u ∈ W, ∀ v ∈ parts u, v ∈ W) (hf : ∀ u ∈ W, ∀ v ∈ flds u, v ∈ W) : ∀ t, t ∈ W -> ∀ u ∈ clo t, u ∈ W
 | .bool, h => m1 h
 | .par _, h => m1 h
 | .ref _ _ t, h => mc h (clo_sub hp hf t (hp _ h _ (.head _)))
 | .box t, h => mc h (clo_sub hp hf t (hp _ h _ (.head _)))
 | .arr t, h => mc h (clo_sub hp hf t (hp _ h _ (.head _)))
 | .pair t w, h => mc h (ma (clo_sub hp hf t (hp _ h _ (.head _))) (clo_sub hp hf w (hp _ h _ (.tail _ (.head _)))))
 | .S _ t, h => mc h (mc (hf _ h _ (.head _)) (mc (hf _ h _ (.tail _ (.head _))) (clo_sub hp hf t (hp _ h _ (.head _)))))
 | .E _ _ t, h =>
  have a1 := hf _ h _ (.head _)
  have a2 := hp _ a1 _ (.head _)
  have a3 := hp _ a2 _ (.head _)
  mc h (mc a1 (mc a2 (mc a3 (mc (hp _ a3 _ (.tail _ (.head _))) (clo_sub hp hf t (hp _ h _ (.head _)))))))
 | .L t, h => mc h (mc (hf _ h _ (.tail _ (.head _))) (clo_sub hp hf t (hp _ h _ (.head _))))
theorem flds_adt {v : Ty} : ∀ {u : Ty}, v ∈ flds u -> isAdt u = true
 | .S _ _, _ | .E _ _ _, _ | .L _, _ => rfl
 | .bool, h | .par _, h | .ref _ _ _, h | .box _, h | .arr _, h | .pair _ _, h => nomatch h
theorem ImI.fin {t0 : Ty} {W met : List Ty} {found : List Pr} (h : ImI t0 W ⟨[], met, found⟩) (p : Pr) : p ∈ found ↔ ∃ u ∈ clo t0, p ∈ tells u := by
 have e : ∀ {u : Ty}, (u ∈ W \/ u ∈ ([] : List Ty)) -> u ∈ W := λhu => hu.elim id λq => nomatch q
 have hc := clo_sub (λu hu v hv => e (h.parts u hu v hv)) (λu hu v hv => e (h.flds u (h.adts u hu (flds_adt hv)) v hv)) t0 (e h.start)
 exact (h.found p).trans ⟨λ⟨u, hu, q⟩ => ⟨u, h.wIn u hu, q⟩, λ⟨u, hu, q⟩ => ⟨u, hc u hu, q⟩⟩
theorem siz_pos : ∀ t, 1 <= siz t
 | .bool => Nat.le_refl _ | .par _ => Nat.le_refl _ | .ref _ _ _ => Nat.le_add_right 1 _ | .box _ => Nat.le_add_right 1 _ | .arr _ => Nat.le_add_right 1 _ | .pair _ _ => Nat.le_trans (Nat.le_add_right 1 _) (Nat.le_add_right _ _) | .S _ _ => Nat.le_add_right 1 _ | .E _ _ _ => Nat.le_add_right 1 _ | .L _ => Nat.le_add_right 1 _
theorem ra {l s : Nat} (h : l <= 2 * s) : l + 1 + 1 <= 2 * (1 + s) := by lia
theorem rb {l s : Nat} (h : l <= 2 * s) : l <= 2 * (1 + s) := by lia
theorem regs_len : ∀ t, (regs t).length <= 2 * siz t
 | .bool => Nat.zero_le _ | .par _ => Nat.zero_le _
 | .ref _ _ t => Nat.le_of_succ_le (ra (regs_len t))
 | .box t => rb (regs_len t)
 | .arr t => rb (regs_len t)
 | .pair t u => by
  show (regs t ++ regs u).length <= 2 * (1 + siz t + siz u)
  have h1 := regs_len t
  have h2 := regs_len u
  rw [List.length_append]; lia
 | .S _ t => Nat.le_of_succ_le (ra (regs_len t))
 | .E _ _ t => ra (regs_len t)
 | .L t => rb (regs_len t)
theorem pl {a b : Nat} (h : a = b) : a + 1 = 1 + b := by rw [h]; exact Nat.add_comm _ _
theorem pre_len : ∀ t, (pre t).length = siz t
 | .bool => rfl | .par _ => rfl
 | .ref _ _ t => pl (pre_len t)
 | .box t => pl (pre_len t)
 | .arr t => pl (pre_len t)
 | .pair t u => by
  show (pre t ++ pre u).length + 1 = 1 + siz t + siz u
  rw [List.length_append, pre_len t, pre_len u]; lia
 | .S _ t => pl (pre_len t)
 | .E _ _ t => pl (pre_len t)
 | .L t => pl (pre_len t)
theorem foldP_len : ∀ (ts : List Ty) (fs : List Nat), (ts.foldl addP fs).length <= fs.length + ts.length
 | [], fs => Nat.le_refl _
 | t :: ts, fs => by
  have := foldP_len ts (addP fs t)
  have := addP_len fs t
  rw [List.foldl_cons, List.length_cons]; lia
theorem parsU_len (t : Ty) : (parsU t).length <= siz t := by
 have := foldP_len (pre t) []
 rw [pre_len] at this
 unfold parsU
 simpa using this
theorem tells_len : ∀ t, (tells t).length <= 3 * siz t
 | .ref r m t => by
  show ((regs t ++ parsU t).map _).length <= 3 * (1 + siz t)
  have h1 := regs_len t
  have h2 := parsU_len t
  rw [List.length_map, List.length_append]; lia
 | .bool => Nat.zero_le _ | .par _ => Nat.zero_le _ | .box _ => Nat.zero_le _ | .arr _ => Nat.zero_le _ | .pair _ _ => Nat.zero_le _ | .S _ _ => Nat.zero_le _ | .E _ _ _ => Nat.zero_le _ | .L _ => Nat.zero_le _
theorem cs1 {a s : Nat} (h : a <= s + 3) : a <= 1 + s + 3 := by lia
theorem cs2 {s w : Nat} : s + 3 <= 1 + s + w + 3 /\ w + 3 <= 1 + s + w + 3 := by lia
theorem cs3 {s : Nat} : 1 <= 1 + s + 3 /\ 1 + s <= 1 + s + 3 /\ 1 + s + 1 <= 1 + s + 3 /\ 1 + (1 + s) <= 1 + s + 3 /\ 1 + (1 + s + 1) <= 1 + s + 3 /\ 1 + (1 + (1 + s + 1)) <= 1 + s + 3 := by lia
theorem clo_s : ∀ t, ∀ u ∈ clo t, siz u <= siz t + 3
 | .bool => m1 (Nat.le_add_right _ 3)
 | .par _ => m1 (Nat.le_add_right _ 3)
 | .ref _ _ t => mc (Nat.le_add_right _ 3) λu hu => cs1 (clo_s t u hu)
 | .box t => mc (Nat.le_add_right _ 3) λu hu => cs1 (clo_s t u hu)
 | .arr t => mc (Nat.le_add_right _ 3) λu hu => cs1 (clo_s t u hu)
 | .pair t w => mc (Nat.le_add_right _ 3) (ma (λu hu => Nat.le_trans (clo_s t u hu) cs2.1) λu hu => Nat.le_trans (clo_s w u hu) cs2.2)
 | .S _ t => mc cs3.2.1 (mc cs3.2.1 (mc cs3.1 λu hu => cs1 (clo_s t u hu)))
 | .E _ _ t => mc cs3.2.1 (mc cs3.2.2.2.2.2 (mc cs3.2.2.2.2.1 (mc cs3.2.2.1 (mc cs3.1 λu hu => cs1 (clo_s t u hu)))))
 | .L t => mc cs3.2.1 (mc cs3.2.2.2.1 λu hu => cs1 (clo_s t u hu))
theorem clo_siz {t u : Ty} (hu : u ∈ clo t) : siz u <= siz t + 3 := clo_s t u hu
theorem cost_pos (met : List Ty) : ∀ t, 1 <= cost met t
 | .bool => Nat.le_refl _ | .par _ => Nat.le_refl _ | .ref _ _ _ => Nat.le_add_right 1 _ | .box _ => Nat.le_add_right 1 _ | .arr _ => Nat.le_add_right 1 _ | .pair _ _ => Nat.le_trans (Nat.le_add_right 1 _) (Nat.le_add_right _ _)
 | .S _ _ => Nat.le_trans (by decide) (Nat.le_add_right 3 _) | .E _ _ _ => Nat.le_trans (by decide) (Nat.le_add_right 5 _)
 | .L t => by
  show 1 <= if met.contains (.L t) = true then 1 + cost met t else 3 + 3 * cost met t
  split
  ·exact Nat.le_add_right 1 _
  ·exact Nat.le_trans (by decide) (Nat.le_add_right 3 _)
theorem costs_ge (met : List Ty) : ∀ st : List Ty, st.length <= costs met st
 | [] => Nat.le_refl _
 | t :: st => Nat.le_trans (Nat.le_of_eq (Nat.add_comm _ 1)) (Nat.add_le_add (cost_pos met t) (costs_ge met st))
theorem im_n {n N f s mt c c' tl : Nat} (hN : c ≤ N + 1) (hct : c' + 1 ≤ c) (hge : s + 1 ≤ c) (h1 : n + (N + 1) ≤ 3000) (h2 : mt ≤ n) (h3 : f ≤ 250 * n) (htl : tl ≤ 250) :
  s + 30 <= maxLen /\ mt <= maxLen /\ f + tl <= maxLen /\ (n : Int) + 1 <= 4000 /\ c' <= N /\ f + tl <= 250 * (n + 1) := by unfold maxLen; lia
theorem turn_met (v : Ty) (s : Im) : (turn v s).met.length <= s.met.length + 1 := by
 unfold turn
 split
 ·exact List.length_append ▸ Nat.le_refl _
 ·exact Nat.le_succ _
theorem turn_found (v : Ty) (s : Im) : (turn v s).found.length = s.found.length + (tells v).length := by
 unfold turn
 split <;> exact List.length_append
structure ImR (t0 : Ty) (b : Nat) (found : List Pr) : Prop where
 mem : ∀ p, p ∈ found ↔ ∃ u ∈ clo t0, p ∈ tells u
 len : found.length <= 250 * b
theorem im_loop {C : Calls} {sx : Sx} {d : D} {t0 : Ty} {a : Option (List D)} {c : Option (List Nat × List D)} (H : ImC C ⟨a, some wAd, c, none⟩) (hh : hgt t0 ≤ 28) (hs : siz t0 ≤ 66) :
  ∀ (N m : Nat) (W st met : List Ty) (found : List Pr) (n : Nat) (lv lw : LV), costs met st <= N -> ImI t0 W ⟨st, met, found⟩ -> notFv lv = true -> notFv lw = true -> n + N <= 3000 -> met.length <= n -> found.length <= 250 * n ->
  ∃ found' : List Pr, ImR t0 (n + N) found' /\ (xs C sx (m + N + 20) (imL d found st met (n : Int) lv lw) ⟨a, some wAd, c, none⟩ [.whl (.nem 9) imBody, .reto 7]).map outS = some (.ret (.list (found'.map prD)), ⟨a, some wAd, c, none⟩)
 | N, m, W, [], met, found, n, lv, lw, hN, hI, hlv, hlw, h1, h2, h3 =>
  ⟨found, ⟨hI.fin, Nat.le_trans h3 (Nat.mul_le_mul_left _ (Nat.le_add_right _ _))⟩, congrArg (Option.map outS) ((xs_whl_f (n := m + N + 19) (σ₁ := ⟨a, some wAd, c, none⟩) rfl).trans (xs_reto (n := m + N + 18) (ds := found.map prD) rfl))⟩
 | 0, m, W, v :: st, met, found, n, lv, lw, hN, hI, hlv, hlw, h1, h2, h3 => absurd (Nat.le_trans (costs_ge met (v :: st)) hN) (Nat.not_succ_le_zero _)
 | N' + 1, m, W, v :: st, met, found, n, lv, lw, hN, hI, hlv, hlw, h1, h2, h3 =>
  have hvc : v ∈ clo t0 := hI.stIn v (.head _)
  have hz : siz v <= 70 := Nat.le_trans (clo_siz hvc) (Nat.le_trans (Nat.add_le_add_right hs 3) (by decide))
  have ⟨b1, b2, b3, b4, b5, b6⟩ := im_n hN (cost_turn v ⟨st, met, found⟩) (costs_ge met (v :: st)) h1 h2 h3 (Nat.le_trans (tells_len v) (Nat.le_trans (Nat.mul_le_mul_left 3 hz) (by decide)))
  have h28 : hgt t0 + 2 <= 30 := Nat.add_le_add_right hh 2
  have ⟨lw', q1, q2⟩ := im_step (C := C) (sx := sx) (m := m + N' + 10) (d := d) (n := (n : Int)) (lv := lv) (lw := lw) (v := v) (st := st) (met := met) (found := found) H (Nat.le_trans (clo_hgt hvc) h28) (Nat.le_trans hz (by decide)) (λu hu => Nat.le_trans (clo_hgt (hI.wIn u (hI.metW u hu))) (Nat.le_trans h28 (by decide))) hlw hlv b1 b2 b3 b4
  have hev : ev C evN (imL d found (v :: st) met (n : Int) lv lw) ⟨a, some wAd, c, none⟩ (.nem 9) = some (.bool true, ⟨a, some wAd, c, none⟩) := congrArg (λb => some (D.bool (!b), (⟨a, some wAd, c, none⟩ : Sg))) (ne_enc v st)
  have ⟨found', p, p1⟩ := im_loop (sx := sx) (d := d) H hh hs N' m (v :: W) (turn v ⟨st, met, found⟩).st (turn v ⟨st, met, found⟩).met (turn v ⟨st, met, found⟩).found (n + 1) (.val (enc v)) lw' b5 hI.turn rfl q1 (Nat.succ_add_eq_add_succ n N' ▸ h1) (Nat.le_trans (turn_met v _) (Nat.succ_le_succ h2)) (Nat.le_trans (Nat.le_of_eq (turn_found v _)) b6)
  ⟨found', ⟨p.mem, Nat.succ_add_eq_add_succ n N' ▸ p.len⟩, (congrArg (Option.map outS) (xs_whl_t (n := m + N' + 20) hev q2)).trans p1⟩
theorem ch1 {a b B : Nat} (h : a <= b) (k : 3 * b + 5 <= B) : 1 + a <= B /\ 3 + 2 * a <= B /\ 5 + 3 * a <= B /\ 3 + 3 * a <= B := by lia
theorem ch2 {a c b B : Nat} (h : a <= b) (h' : c <= b) (k : 3 * b + 5 <= B) : 1 + a + c <= B := by lia
theorem cost_hgt : ∀ (n : Nat) (t : Ty), hgt t <= n -> n <= 6 -> cost [] t <= [0, 5, 20, 65, 200, 605, 1820].getD n 0
 | 0, t, h, _ => absurd (Nat.le_trans (hgt_pos t) h) (by decide)
 | n + 1, t, h, hn => by
  have ih := λu (hu : hgt u <= n) => cost_hgt n u hu (Nat.le_of_succ_le hn)
  have hb : 3 * [0, 5, 20, 65, 200, 605, 1820].getD n 0 + 5 <= [0, 5, 20, 65, 200, 605, 1820].getD (n + 1) 0 :=
   (by decide : ∀ n < 6, 3 * [0, 5, 20, 65, 200, 605, 1820].getD n 0 + 5 <= [0, 5, 20, 65, 200, 605, 1820].getD (n + 1) 0) n hn
  revert ih hb
  generalize [0, 5, 20, 65, 200, 605, 1820].getD n 0 = b
  generalize [0, 5, 20, 65, 200, 605, 1820].getD (n + 1) 0 = B
  intro ih hb
  have k {u : Ty} (q : hgt u + 1 <= n + 1) := ch1 (ih u (Nat.le_of_succ_le_succ q)) hb
  have z : 1 <= B := Nat.le_trans (Nat.le_add_left 1 (3 * b + 4)) hb
  cases t with
  | bool => exact z
  | par _ => exact z
  | ref _ _ t => exact (k h).1
  | box t => exact (k h).1
  | arr t => exact (k h).1
  | pair t u => exact ch2 (ih t (Nat.le_trans (Nat.le_max_left _ _) (Nat.le_of_succ_le_succ h))) (ih u (Nat.le_trans (Nat.le_max_right _ _) (Nat.le_of_succ_le_succ h))) hb
  | S _ t => exact (k h).2.1
  | E _ _ t => exact (k h).2.2.1
  | L t => exact (k h).2.2.2
theorem sh1 {a p : Nat} (h : a <= p - 1) (hp : 1 <= p) : 1 + a <= p * 2 - 1 := by lia
theorem sh2 {a c p : Nat} (h : a <= p - 1) (h' : c <= p - 1) (hp : 1 <= p) : 1 + a + c <= p * 2 - 1 := by lia
theorem siz_hgt : ∀ (n : Nat) (t : Ty), hgt t <= n -> siz t <= 2 ^ n - 1
 | 0, t, h => absurd (Nat.le_trans (hgt_pos t) h) (by decide)
 | n + 1, t, h => by
  have ih := λu (hu : hgt u <= n) => siz_hgt n u hu
  have hp : 1 <= 2 ^ n := Nat.one_le_two_pow
  rw [Nat.pow_succ]
  have k {u : Ty} (q : hgt u + 1 <= n + 1) := sh1 (ih u (Nat.le_of_succ_le_succ q)) hp
  have z : 1 <= 2 ^ n * 2 - 1 := sh1 (Nat.zero_le _) hp
  cases t with
  | bool => exact z
  | par _ => exact z
  | ref _ _ t => exact k h
  | box t => exact k h
  | arr t => exact k h
  | pair t u => exact sh2 (ih t (Nat.le_trans (Nat.le_max_left _ _) (Nat.le_of_succ_le_succ h))) (ih u (Nat.le_trans (Nat.le_max_right _ _) (Nat.le_of_succ_le_succ h))) hp
  | S _ t => exact k h
  | E _ _ t => exact k h
  | L t => exact k h
theorem run8 (k : Nat) (ds : List D) (σ : Sg) : run (k + 1) 8 ds σ = fnRun (run k) (λ_ _ _ => none) ps_implied ns_implied b_implied ds σ := run_fn (f := 8) (by decide) (by decide)
theorem imC_run {a : Option (List D)} {c : Option (List Nat × List D)} (k : Nat) (hk : 40 <= k) (hok : sgOk ⟨a, some wAd, c, none⟩ = true) : ImC (run (k + 2)) ⟨a, some wAd, c, none⟩ where
 h0 := λv => parts_of_run _ v _
 h4 := λt h1 h2 => regions_run t (k + 1) _ (by lia) rfl hok (by have := regs_len t; unfold maxLen; lia)
 h5 := λt h1 h2 => params_run t k _ (by rw [pre_len]; lia)
 h7 := λh => fields_run h k (by lia)
theorem implied_run {t : Ty} {a : Option (List D)} {c : Option (List Nat × List D)} (k : Nat) (hk : 40 ≤ k) (hok : sgOk ⟨a, some wAd, c, none⟩ = true) (hh : hgt t ≤ 6) :
  ∃ found : List Pr, run (k + 3) 8 [enc t, worldD] ⟨a, some wAd, c, none⟩ = some (.list (found.map prD), ⟨a, some wAd, c, none⟩) /\ (∀ p, p ∈ found ↔ ∃ u ∈ clo t, p ∈ tells u) /\ found.length <= maxLen := by
 have hc : costs [] [t] <= 1820 := cost_hgt 6 t hh (Nat.le_refl _)
 have hs := siz_hgt 6 t hh
 have ⟨m, hm⟩ : ∃ m, fuel = m + 1820 + 20 + 1 := ⟨998159, rfl⟩
 have ⟨found, p, h1⟩ := im_loop (C := run (k + 2)) (sx := λ_ _ _ => none) (d := enc t) (imC_run k hk hok) (Nat.le_trans hh (by decide)) (Nat.le_trans hs (by decide)) 1820 m [] [t] [] [] 0 .un .un hc (ImI.init t) rfl rfl (by decide) (Nat.le_refl _) (Nat.le_refl _)
 exact ⟨found, (run8 _ _ _).trans (fnRun_f rfl (hm ▸ h1) rfl), p.mem, Nat.le_trans p.len (by decide)⟩
noncomputable def below : Ty -> List Ty
 | .bool => [] | .par _ => [] | .ref _ _ t => [t] | .box t => [t] | .arr t => [t] | .pair t u => [t, u]
 | .S r t => [t, .ref r false t] | .E r q t => [t, .ref r true (.ref q false (.pair t .bool))] | .L t => [t, .box (.L t)]
theorem run15 (k : Nat) (ds : List D) (σ : Sg) : run (k + 1) 15 ds σ = fnRun (run k) (λ_ _ _ => none) ps_l_below ns_l_below b_l_below ds σ := run_fn (f := 15) (by decide) (by decide)
theorem below_run (k : Nat) (t : Ty) (σ : Sg) : run (k + 1) 15 [enc t] σ = some (.list ((below t).map enc), σ) := by
 refine (run15 _ _ _).trans (fnRun_of rfl (λm => ?_) rfl)
 generalize run k = C
 cases t <;> kernel_rfl
theorem in1 {v a b : Ty} (h : v ∈ [a, b]) {P : Ty -> Prop} (ha : P a) (hb : P b) : P v := (List.mem_cons.mp h).elim (λe => e ▸ ha) λh => List.mem_singleton.mp h ▸ hb
theorem clo_below {t v : Ty} : ∀ {u : Ty}, u ∈ clo t -> v ∈ below u -> v ∈ clo t
 | .bool, _, hv | .par _, _, hv => nomatch hv
 | .ref _ _ _, hu, hv | .box _, hu, hv | .arr _, hu, hv | .pair _ _, hu, hv => clo_parts hu hv
 | .S _ _, hu, hv => in1 hv (clo_parts hu (.head _)) (clo_flds hu (.head _))
 | .E _ _ _, hu, hv => in1 hv (clo_parts hu (.head _)) (clo_flds hu (.head _))
 | .L _, hu, hv => in1 hv (clo_parts hu (.head _)) (clo_flds hu (.tail _ (.head _)))
theorem below_sub {W : List Ty} (hb : ∀ u ∈ W, ∀ v ∈ below u, v ∈ W) : ∀ t, t ∈ W -> ∀ u ∈ clo t, u ∈ W \/ u = .bool
 | .bool, h => m1 (.inl h)
 | .par _, h => m1 (.inl h)
 | .ref _ _ t, h => mc (.inl h) (below_sub hb t (hb _ h _ (.head _)))
 | .box t, h => mc (.inl h) (below_sub hb t (hb _ h _ (.head _)))
 | .arr t, h => mc (.inl h) (below_sub hb t (hb _ h _ (.head _)))
 | .pair t w, h => mc (.inl h) (ma (below_sub hb t (hb _ h _ (.head _))) (below_sub hb w (hb _ h _ (.tail _ (.head _)))))
 | .S _ t, h => mc (.inl h) (mc (.inl (hb _ h _ (.tail _ (.head _)))) (mc (.inr rfl) (below_sub hb t (hb _ h _ (.head _)))))
 | .E _ _ t, h =>
  have a1 := hb _ h _ (.tail _ (.head _))
  have a2 := hb _ a1 _ (.head _)
  mc (.inl h) (mc (.inl a1) (mc (.inl a2) (mc (.inl (hb _ a2 _ (.head _))) (mc (.inr rfl) (below_sub hb t (hb _ h _ (.head _)))))))
 | .L t, h => mc (.inl h) (mc (.inl (hb _ h _ (.tail _ (.head _)))) (below_sub hb t (hb _ h _ (.head _))))
theorem clo_len : ∀ (n : Nat) (t : Ty), hgt t <= n -> (clo t).length + 10 <= 10 * 2 ^ n
 | 0, t, h => absurd h (Nat.not_le.mpr (hgt_pos t))
 | n + 1, t, h => by
  have k {u : Ty} (hu : hgt u + 1 <= n + 1) := clo_len n u (Nat.le_of_succ_le_succ hu)
  have p : 1 <= 2 ^ n := Nat.one_le_two_pow
  have one {a c : Nat} (hc : c <= 10) (h : a + 10 <= 10 * 2 ^ n) : a + c + 10 <= 10 * 2 ^ (n + 1) := by rw [Nat.pow_succ]; lia
  cases t with
  | bool | par => exact one (a := 0) (c := 1) (by decide) (by lia)
  | ref _ _ t | box t | arr t => exact one (c := 1) (by decide) (k h)
  | pair t u =>
   have h1 := k (Nat.le_trans (Nat.succ_le_succ (Nat.le_max_left _ _)) h)
   have h2 := k (Nat.le_trans (Nat.succ_le_succ (Nat.le_max_right _ _)) h)
   show (clo t ++ clo u).length + 1 + 10 <= _
   rw [List.length_append, Nat.pow_succ]; lia
  | S _ t => exact one (c := 3) (by decide) (k h)
  | E _ _ t => exact one (c := 5) (by decide) (k h)
  | L t => exact one (c := 2) (by decide) (k h)
theorem nodup_le {W X : List Ty} (nd : W.Nodup) (h : ∀ u ∈ W, u ∈ X) : W.length <= X.length := by
 induction W generalizing X with
 | nil => exact Nat.zero_le _
 | cons w W ih =>
  have nd' := List.nodup_cons.mp nd
  have hw : w ∈ X := h w (.head _)
  have := ih (X := X.erase w) nd'.2 λu hu => (List.mem_erase_of_ne (λ(q : u = w) => nd'.1 (by rw [<- q]; exact hu))).mpr (h u (.tail _ hu))
  rw [List.length_erase_of_mem hw] at this
  have : 1 <= X.length := List.length_pos_of_mem hw
  simp only [List.length_cons]; lia
mutual
theorem noac_plain : ∀ d : D, plain d = true -> noac d = true
 | .none, _ | .bool _, _ | .int _, _ | .str _, _ => rfl
 | .tup ds, h | .list ds, h => noacs_plain ds h
 | .dict _ _, h | .inst _ _ _, h | .src, h | .adts, h | .trs, h | .clo _ _, h | .rng _, h | .acc, h => nB h
theorem noacs_plain : ∀ ds : List D, plains ds = true -> noacs ds = true
 | [], _ => rfl
 | d :: ds, h => (Bool.and_eq_true _ _).mpr ⟨noac_plain d (plains_cons h).1, noacs_plain ds (plains_cons h).2⟩
end
theorem plains_enc : ∀ ts : List Ty, plains (ts.map enc) = true
 | [] => rfl
 | t :: ts => (Bool.and_eq_true _ _).mpr ⟨plain_enc t, plains_enc ts⟩
theorem noacs_enc (ts : List Ty) : noacs (ts.map enc) = true := noacs_plain _ (plains_enc ts)
theorem add_mem {α : Type} [BEq α] [LawfulBEq α] {k j : α} {fs : List α} : k ∈ (if fs.contains j then fs else fs ++ [j]) ↔ k ∈ fs \/ k = j := by
 by_cases h : fs.contains j = true
 ·rw [if_pos h]; exact ⟨.inl, λq => q.elim id λq => q ▸ List.contains_iff_mem.mp h⟩
 ·rw [if_neg h, List.mem_append, List.mem_singleton]
noncomputable def addT (R : List Ty) (v : Ty) : List Ty := if R.contains v then R else R ++ [v]
theorem addT_mem {R : List Ty} {v u : Ty} : u ∈ addT R v ↔ u ∈ R \/ u = v := add_mem
theorem addT_P {P : List Ty -> Prop} {R : List Ty} {v : Ty} (h : P R) (k : v ∉ R -> P (R ++ [v])) : P (addT R v) := by
 by_cases q : R.contains v = true
 ·exact (congrArg P (show addT R v = R from if_pos q)).mpr h
 ·exact (congrArg P (show addT R v = R ++ [v] from if_neg q)).mpr (k λh => q (List.contains_iff_mem.mpr h))
theorem addT_nodup {R : List Ty} {v : Ty} (h : R.Nodup) : (addT R v).Nodup := addT_P h λq => List.nodup_append.mpr ⟨h, List.nodup_cons.mpr ⟨λh => (nomatch h), List.nodup_nil⟩, λa ha b hb e => q (List.mem_singleton.mp hb ▸ e ▸ ha)⟩
theorem addT_pre {R : List Ty} {v : Ty} {i : Nat} (h : i < R.length) : (addT R v)[i]? = R[i]? := addT_P (P := λl => l[i]? = R[i]?) rfl λ_ => List.getElem?_append_left h
theorem addT_len {R : List Ty} {v : Ty} : R.length <= (addT R v).length := addT_P (P := λl => R.length <= l.length) (Nat.le_refl _) λ_ => List.length_append ▸ Nat.le_add_right _ _
theorem addT_le {R : List Ty} {v : Ty} : (addT R v).length <= R.length + 1 := addT_P (P := λl => l.length <= R.length + 1) (Nat.le_succ _) λ_ => List.length_append ▸ Nat.le_refl _
theorem foldT_mem {u : Ty} : ∀ {vs R : List Ty}, u ∈ vs.foldl addT R ↔ u ∈ R \/ u ∈ vs
 | [], R => ⟨.inl, λq => q.elim id λq => nomatch q⟩
 | v :: vs, R => by rw [List.foldl_cons, foldT_mem, addT_mem, List.mem_cons, or_assoc]
theorem foldT_nodup : ∀ {vs R : List Ty}, R.Nodup -> (vs.foldl addT R).Nodup
 | [], R, h => h
 | v :: vs, R, h => foldT_nodup (vs := vs) (addT_nodup (v := v) h)
theorem foldT_len : ∀ {vs R : List Ty}, R.length <= (vs.foldl addT R).length
 | [], R => Nat.le_refl _
 | v :: vs, R => Nat.le_trans (addT_len (v := v)) (foldT_len (vs := vs))
theorem foldT_pre {i : Nat} : ∀ {vs R : List Ty}, i < R.length -> (vs.foldl addT R)[i]? = R[i]?
 | [], R, h => rfl
 | v :: vs, R, h => (foldT_pre (vs := vs) (Nat.lt_of_lt_of_le h (addT_len (v := v)))).trans (addT_pre h)
noncomputable def rL (d : D) (lv lw : LV) : Loc := [(33, .val d), (7, .val .acc), (10, lv), (34, lw)]
noncomputable def rIn : List S := [.ife (.inn true (.var 34) 7) [.app 7 (.var 34)] []]
noncomputable def rBody : List S := [.fore [34] (.call 15 [.var 10]) rIn]
theorem foros_end {f : Loc -> Sg -> Option (Out × Loc × Sg)} {x n i : Nat} {l : Loc} {σ : Sg} {ds : List D} (ha : σ.ac = some ds) (h : ds[i]? = none) : foros f x (n + 1) i l σ = some (.next, l, σ) := by
 conv => lhs; whnf
 rw [ha]
 conv => lhs; whnf
 rw [h]
theorem foros_step {f : Loc -> Sg -> Option (Out × Loc × Sg)} {x n i : Nat} {l l' : Loc} {σ σ' : Sg} {ds : List D} {d : D} (ha : σ.ac = some ds) (h : ds[i]? = some d) (hx : hasL l x = true) (hb : f (setL l x (.val d)) σ = some (.next, l', σ')) : foros f x (n + 1) i l σ = foros f x n (i + 1) l' σ' := by
 conv => lhs; whnf
 rw [ha]
 conv => lhs; whnf
 rw [h]
 exact ifS hx (bindS hb rfl)
section
variable {C : Calls} {sx : Sx} {d : D} {a x : Option (List D)} {b c : Option (List Nat × List D)} {lv lw : LV}
noncomputable def sR (a : Option (List D)) (b c : Option (List Nat × List D)) (R : List Ty) : Sg := ⟨a, b, c, some (R.map enc)⟩
theorem r_in {m : Nat} {R : List Ty} {v : Ty} (hv : hgt v ≤ 50) (hR : ∀ u ∈ R, hgt u ≤ 50) (hl : R.length ≤ maxLen) :
  xs C sx (m + 4) (rL d lv (.val (enc v))) (sR a b c R) rIn = some (.next, rL d lv (.val (enc v)), sR a b c (addT R v)) := by
 have e2 : ev C evN (rL d lv (.val (enc v))) (sR a b c R) (.inn true (.var 34) 7) = some (.bool (!R.contains v), sR a b c R) := by
  show (if okD (enc v) && okDs (R.map enc) then some (D.bool (true ^^ (R.map enc).any λy => deq y (enc v)), sR a b c R) else none) = _
  rw [okD_enc hv, okDs_enc hR, any_enc, Bool.true_xor]; rfl
 cases hc : R.contains v with
 | true =>
  rw [hc] at e2
  rw [show addT R v = R from if_pos hc]
  exact (xs_ife_n (n := m + 3) e2 (xs_nil (n := m + 2))).trans (xs_nil (n := m + 2))
 | false =>
  rw [hc] at e2
  rw [show addT R v = R ++ [v] from if_neg (by rw [hc]; exact Bool.false_ne_true)]
  refine (xs_ife_n (n := m + 3) e2 (l' := rL d lv (.val (enc v))) (σ₂ := sR a b c (R ++ [v])) ?_).trans (xs_nil (n := m + 2))
  show (if (R.map enc).length <= maxLen then xs C sx (m + 2) (rL d lv (.val (enc v))) ⟨a, b, c, some (R.map enc ++ [enc v])⟩ [] else none) = _
  rw [if_pos (by rw [List.length_map]; exact hl), show R.map enc ++ [enc v] = (R ++ [v]).map enc from by rw [List.map_append]; rfl]
  exact xs_nil (n := m + 1)
theorem r_ins {m : Nat} : ∀ (vs R : List Ty) (lw : LV), notFv lw = true → (∀ v ∈ vs, hgt v ≤ 50) → (∀ u ∈ R, hgt u ≤ 50) → R.length + vs.length ≤ maxLen →
  ∃ lw', notFv lw' = true /\ fors (λl σ => xs C sx (m + 4) l σ rIn) [34] (vs.map enc) (rL d lv lw) (sR a b c R) = some (.next, rL d lv lw', sR a b c (vs.foldl addT R))
 | [], R, lw, hw, _, _, _ => ⟨lw, hw, rfl⟩
 | v :: vs, R, lw, hw, hv, hR, hl =>
  have hR' : ∀ u ∈ addT R v, hgt u <= 50 := λu hu => (addT_mem.mp hu).elim (hR u) λq => q ▸ hv v (.head _)
  have ⟨lw', q1, q2⟩ := r_ins (m := m) vs (addT R v) (.val (enc v)) rfl (λu hu => hv u (.tail _ hu)) hR' (Nat.le_trans (Nat.add_le_add_right addT_le _) (Nat.succ_add _ _ ▸ hl))
  ⟨lw', q1, (fors_cons (x := 34) (l := rL d lv lw) (show notFv lw = true from hw) (r_in (hv v (.head _)) hR (Nat.le_trans (Nat.le_add_right _ _) hl))).trans q2⟩
theorem below_2' : ∀ v, (below v).length <= 2
 | .bool | .par _ => Nat.zero_le _ | .ref _ _ _ | .box _ | .arr _ => Nat.le_succ _ | .pair _ _ | .S _ _ | .E _ _ _ | .L _ => Nat.le_refl _
theorem r_step {m : Nat} {R : List Ty} {v : Ty} (h15 : ∀ u σ, C 15 [enc u] σ = some (.list ((below u).map enc), σ)) (hw : notFv lw = true) (hv : ∀ u ∈ below v, hgt u ≤ 50) (hR : ∀ u ∈ R, hgt u ≤ 50) (hl : R.length + 5 ≤ maxLen) :
  ∃ lw', notFv lw' = true /\ xs C sx (m + 6) (rL d (.val (enc v)) lw) (sR a b c R) rBody = some (.next, rL d (.val (enc v)) lw', sR a b c ((below v).foldl addT R)) :=
 have ⟨lw', q1, q2⟩ := r_ins (C := C) (sx := sx) (d := d) (a := a) (b := b) (c := c) (lv := .val (enc v)) (m := m + 1) (below v) R lw hw hv hR (Nat.le_trans (Nat.add_le_add_left (Nat.le_trans (below_2' v) (by decide)) _) hl)
 ⟨lw', q1, (xs_fore (n := m + 5) ((ev_call (n := 13) (l := rL d (.val (enc v)) lw) (xs := [.var 10]) (ds := [enc v]) (σ₁ := sR a b c R) rfl).trans (h15 _ _)) rfl (by rw [List.length_map]; exact Nat.le_trans (below_2' v) (by decide)) q2).trans (xs_nil (n := m + 4))⟩
structure RI (t : Ty) (i : Nat) (R : List Ty) : Prop where
 nd : R.Nodup
 sub : ∀ u ∈ R, u ∈ clo t
 st : t ∈ R
 done : ∀ j, j < i -> ∀ u, R[j]? = some u -> ∀ v ∈ below u, v ∈ R
structure RD (t : Ty) (R : List Ty) : Prop where
 sub : ∀ u ∈ R, u ∈ clo t
 st : t ∈ R
 cl : ∀ u ∈ R, ∀ v ∈ below u, v ∈ R
 len : R.length <= (clo t).length
theorem RI.turn {t v : Ty} {i : Nat} {R : List Ty} (hI : RI t i R) (hq : R[i]? = some v) (hi : i < R.length) : RI t (i + 1) ((below v).foldl addT R) :=
 ⟨foldT_nodup hI.nd, λu hu => (foldT_mem.mp hu).elim (hI.sub u) (clo_below (hI.sub v (List.mem_of_getElem? hq))), foldT_mem.mpr (.inl hI.st), λj hj u hu w hw => by
  have hu := (foldT_pre (Nat.lt_of_le_of_lt (Nat.le_of_lt_succ hj) hi)).symm.trans hu
  by_cases hji : j = i
  ·exact foldT_mem.mpr (.inr (Option.some.inj (hq.symm.trans (hji ▸ hu)) ▸ hw))
  ·exact foldT_mem.mpr (.inl (hI.done j (Nat.lt_of_le_of_ne (Nat.le_of_lt_succ hj) hji) u hu w hw))⟩
theorem RI.fin {t : Ty} {i : Nat} {R : List Ty} (hI : RI t i R) (hi : R.length <= i) : RD t R := ⟨hI.sub, hI.st, λu hu v hv =>
 have ⟨j, hj, e⟩ := List.getElem_of_mem hu
 hI.done j (Nat.lt_of_lt_of_le hj hi) u (e ▸ List.getElem?_eq_getElem hj) v hv, nodup_le hI.nd hI.sub⟩
theorem r_loop {m : Nat} {t : Ty} (h15 : ∀ u σ, C 15 [enc u] σ = some (.list ((below u).map enc), σ)) (hh : hgt t ≤ 28) (hcl : (clo t).length ≤ 10000) : ∀ (n i : Nat) (R : List Ty) (lv lw : LV), notFv lv = true → notFv lw = true → RI t i R → i ≤ R.length → (clo t).length < n + i →
  ∃ R', RD t R' /\ ∃ lv' lw', foros (λl σ => xs C sx (m + 6) l σ rBody) 10 n i (rL d lv lw) (sR a b c R) = some (.next, rL d lv' lw', sR a b c R')
 | 0, i, R, lv, lw, _, _, hI, hi, hn => absurd (Nat.zero_add i ▸ hn : (clo t).length < i) (Nat.not_lt.mpr (Nat.le_trans hi (nodup_le hI.nd hI.sub)))
 | n + 1, i, R, lv, lw, hlv, hlw, hI, hi, hn =>
  match hq : R[i]? with
  | none => ⟨R, hI.fin (List.getElem?_eq_none_iff.mp hq), lv, lw, foros_end rfl (by rw [List.getElem?_map, hq]; rfl)⟩
  | some v =>
   have hiR : i < R.length := (List.getElem?_eq_some_iff.mp hq).1
   have h2 : hgt t + 2 <= 50 := Nat.le_trans (Nat.add_le_add_right hh 2) (by decide)
   have ⟨lw', q1, q2⟩ := r_step (C := C) (sx := sx) (d := d) (a := a) (b := b) (c := c) (m := m) (v := v) (lw := lw) h15 hlw (λu hu => Nat.le_trans (clo_hgt (clo_below (hI.sub v (List.mem_of_getElem? hq)) hu)) h2) (λu hu => Nat.le_trans (clo_hgt (hI.sub u hu)) h2) (Nat.le_trans (Nat.add_le_add_right (Nat.le_trans (nodup_le hI.nd hI.sub) hcl) 5) (by decide))
   have ⟨R', p, lv', lw2, p5⟩ := r_loop h15 hh hcl n (i + 1) ((below v).foldl addT R) (.val (enc v)) lw' rfl q1 (hI.turn hq hiR) (Nat.le_trans hiR foldT_len) (Nat.succ_add_eq_add_succ n i ▸ hn)
   ⟨R', p, lv', lw2, (foros_step (x := 10) (l := rL d lv lw) rfl (by rw [List.getElem?_map, hq]; rfl) (show notFv lv = true from hlv) q2).trans p5⟩
end
theorem run16 (k : Nat) (ds : List D) (σ : Sg) : run (k + 1) 16 ds σ = fnRun (run k) (λ_ _ _ => none) ps_l_reached ns_l_reached b_l_reached ds σ := run_fn (f := 16) (by decide) (by decide)
theorem reached_run {t : Ty} {a : Option (List D)} {b c : Option (List Nat × List D)} (k : Nat) (hok : sgOk ⟨a, b, c, none⟩ = true) (hh : hgt t ≤ 6) :
  ∃ R : List Ty, run (k + 2) 16 [enc t] ⟨a, b, c, none⟩ = some (.list (R.map enc), ⟨a, b, c, none⟩) /\ R.length <= 700 /\ (∀ u ∈ R, u ∈ clo t) /\ (∀ u ∈ clo t, u ∈ R \/ u = .bool) := by
 have hcl : (clo t).length <= 630 := Nat.le_of_add_le_add_right (b := 10) (clo_len 6 t hh)
 have ⟨R, p, lv, lw, p5⟩ := r_loop (C := run (k + 1)) (sx := λ_ _ _ => none) (d := enc t) (a := a) (b := b) (c := c) (m := 999992) (t := t) (λu σ => below_run k u σ) (Nat.le_trans hh (by decide)) (Nat.le_trans hcl (by decide)) 999998 0 [t] .un .un rfl rfl ⟨List.nodup_cons.mpr ⟨λh => (nomatch h), List.nodup_nil⟩, m1 (clo_self _), .head _, λj hj => absurd hj (Nat.not_lt_zero j)⟩ (Nat.zero_le _) (Nat.lt_of_le_of_lt hcl (by decide))
 refine ⟨R, ?_, Nat.le_trans p.len (Nat.le_trans hcl (by decide)), p.sub, below_sub p.cl t p.st⟩
 have e1 : xs (run (k + 1)) (λ_ _ _ => none) (999900 + 100) (loc0 ps_l_reached [enc t] ns_l_reached) ⟨a, b, c, none⟩ b_l_reached = some (.ret (.list (R.map enc)), rL (enc t) lv lw, ⟨a, b, c, none⟩) := by
  refine bindS p5 ?_
  show (if sgOk (sR a b c R) && noacs (R.map enc) then some (Out.ret (.list (R.map enc)), rL (enc t) lv lw, (⟨a, b, c, none⟩ : Sg)) else none) = _
  exact if_pos ((Bool.and_eq_true _ _).mpr ⟨hok, noacs_enc R⟩)
 exact (run16 _ _ _).trans (ifS (rfl : [enc t].length = ps_l_reached.length) (bindS e1 (if_pos rfl)))
noncomputable def hw : Ty -> List Nat
 | .ref r _ _ => [r] | .par k => [k] | .S r _ => [r] | .E r q _ => [r, q] | _ => []
noncomputable def nxt (v : Ty) (st : List Ty) : List Ty := if isAdt v then parts v ++ st else (parts v).reverse ++ st
noncomputable def wBody : List S := [.asg [10] [.p 9], .ife (.cmp .Eq (.idx (.var 10) (.cst (.int 0))) (.cst (.str 2))) [.app 7 (.idx (.var 10) (.cst (.int 1)))] [], .ife (.cmp .Eq (.idx (.var 10) (.cst (.int 0))) (.cst (.str 1))) [.app 7 (.idx (.var 10) (.cst (.int 1)))] [], .ife (.cmp .Eq (.idx (.var 10) (.cst (.int 0))) (.cst (.str 6))) [.ext 7 (.idx (.var 10) (.cst (.int 2))), .ext 9 (.idx (.var 10) (.cst (.int 3)))] [.ext 9 (.call 15 [.var 10])]]
noncomputable def wL (d : D) (fs : List Nat) (st : List Ty) (lv : LV) : Loc := [(33, .val d), (7, .ow (fs.map .str)), (9, .ow (st.reverse.map enc)), (10, lv)]
section
variable {C : Calls} {sx : Sx} {d : D} {σ : Sg} {lv : LV} {m : Nat} {fs : List Nat} {st : List Ty}
theorem w_appR {v : Ty} {r : Nat} (ht : item σ (enc v) (.int 1) = some (.str r)) (hl : fs.length ≤ maxLen) :
  xs C sx (m + 2) (wL d fs st (.val (enc v))) σ [.app 7 (.idx (.var 10) (.cst (.int 1)))] = some (.next, wL d (fs ++ [r]) st (.val (enc v)), σ) := by
 have e3 : setL (wL d fs st (.val (enc v))) 7 (.ow (fs.map .str ++ [.str r])) = wL d (fs ++ [r]) st (.val (enc v)) := by unfold wL; rw [List.map_append]; rfl
 exact (xs_app (n := m + 1) (d := .str r) (ds := fs.map .str) (σ₁ := σ) (at_test (n := 12) rfl ht) rfl (by rw [List.length_map]; exact hl)).trans (by rw [e3]; exact xs_nil (n := m))
theorem w_extF {v : Ty} {rs : List Nat} {rest : List S} (ht : item σ (enc v) (.int 2) = some (.tup (rs.map .str))) (hl : fs.length + rs.length ≤ maxLen) :
  xs C sx (m + 2) (wL d fs st (.val (enc v))) σ (.ext 7 (.idx (.var 10) (.cst (.int 2))) :: rest) = xs C sx (m + 1) (wL d (fs ++ rs) st (.val (enc v))) σ rest := by
 have e3 : setL (wL d fs st (.val (enc v))) 7 (.ow (fs.map .str ++ rs.map .str)) = wL d (fs ++ rs) st (.val (enc v)) := by unfold wL; rw [List.map_append]; rfl
 exact (xs_ext (n := m + 1) (at_test (n := 12) rfl ht) rfl rfl (by rw [List.length_map, List.length_map]; exact hl)).trans (by rw [e3])
theorem w_extL {v : Ty} {dd : D} {us : List Ty} {e : X} (ht : ev C evN (wL d fs st (.val (enc v))) σ e = some (dd, σ)) (hq : seqD dd = some (us.map enc)) (hl : st.length + us.length ≤ maxLen) :
  xs C sx (m + 2) (wL d fs st (.val (enc v))) σ [.ext 9 e] = some (.next, wL d fs (us.reverse ++ st) (.val (enc v)), σ) := by
 have e2 : setL (wL d fs st (.val (enc v))) 9 (.ow (st.reverse.map enc ++ us.map enc)) = wL d fs (us.reverse ++ st) (.val (enc v)) := by
  have : st.reverse.map enc ++ us.map enc = (us.reverse ++ st).reverse.map enc := by rw [List.reverse_append, List.reverse_reverse, List.map_append]
  rw [this]; rfl
 exact (xs_ext (n := m + 1) ht hq rfl (by rw [List.length_map, List.length_reverse, List.length_map]; exact hl)).trans (by rw [e2]; exact xs_nil (n := m))
noncomputable def wLast : S := .ife (.cmp .Eq (.idx (.var 10) (.cst (.int 0))) (.cst (.str 6))) [.ext 7 (.idx (.var 10) (.cst (.int 2))), .ext 9 (.idx (.var 10) (.cst (.int 3)))] [.ext 9 (.call 15 [.var 10])]
theorem below_2 : ∀ v, (below v).length <= 2
 | .bool => Nat.zero_le _ | .par _ => Nat.zero_le _ | .ref _ _ _ => Nat.le_succ _ | .box _ => Nat.le_succ _ | .arr _ => Nat.le_succ _ | .pair _ _ => Nat.le_refl _ | .S _ _ => Nat.le_refl _ | .E _ _ _ => Nat.le_refl _ | .L _ => Nat.le_refl _
theorem w_plain {v : Ty} (h15 : ∀ u σ, C 15 [enc u] σ = some (.list ((below u).map enc), σ)) (hl2 : st.length + 3 <= maxLen) (ht : (tag v == 6) = false) (hn : (below v).reverse ++ st = nxt v st) : xs C sx (m + 7) (wL d fs st (.val (enc v))) σ [wLast] = some (.next, wL d fs (nxt v st) (.val (enc v)), σ) := by
 have t6 := tag_test (C := C) (n := 11) (l := wL d fs st (.val (enc v))) (σ := σ) (x := 10) (j := 6) (v := v) rfl
 rw [ht] at t6
 have h9 := w_extL (C := C) (sx := sx) (d := d) (fs := fs) (m := m + 4) (v := v) (us := below v) (e := .call 15 [.var 10]) ((ev_call (n := 13) (ds := [enc v]) (σ₁ := σ) rfl).trans (h15 _ _)) rfl (Nat.le_trans (Nat.add_le_add_left (Nat.le_succ_of_le (below_2 v)) _) hl2)
 exact (xs_ife_n (n := m + 6) t6 h9).trans (by rw [hn]; exact xs_nil (n := m + 5))
theorem w_adt {v t : Ty} {rs : List Nat} (hl : fs.length + 3 <= maxLen) (hl2 : st.length + 3 <= maxLen) (ht : (tag v == 6) = true) (h2 : item σ (enc v) (.int 2) = some (.tup (rs.map .str))) (h3 : item σ (enc v) (.int 3) = some (.tup [enc t])) (hr : rs.length <= 3) : xs C sx (m + 7) (wL d fs st (.val (enc v))) σ [wLast] = some (.next, wL d (fs ++ rs) (t :: st) (.val (enc v)), σ) := by
 have t6 := tag_test (C := C) (n := 11) (l := wL d fs st (.val (enc v))) (σ := σ) (x := 10) (j := 6) (v := v) rfl
 rw [ht] at t6
 have h9 := (w_extF (C := C) (sx := sx) (d := d) (fs := fs) (st := st) (m := m + 4) (rest := [.ext 9 (.idx (.var 10) (.cst (.int 3)))]) h2 (Nat.le_trans (Nat.add_le_add_left hr _) hl)).trans (w_extL (C := C) (sx := sx) (m := m + 3) (us := [t]) (at_test (n := 12) rfl h3) rfl (Nat.le_trans (Nat.add_le_add_left (show 1 <= 3 by decide) _) hl2))
 exact (xs_ife_n (n := m + 6) t6 h9).trans (xs_nil (n := m + 5))
theorem w_step {v : Ty} (h15 : ∀ u σ, C 15 [enc u] σ = some (.list ((below u).map enc), σ)) (hf : notFv lv = true) (hl : fs.length + 3 ≤ maxLen) (hl2 : st.length + 3 ≤ maxLen) :
  xs C sx (m + 10) (wL d fs (v :: st) lv) σ wBody = some (.next, wL d (fs ++ hw v) (nxt v st) (.val (enc v)), σ) := by
 have e1 : setL (setL (wL d fs (v :: st) lv) 9 (.ow ((v :: st).reverse.map enc).dropLast)) 10 (.val (enc v)) = wL d fs st (.val (enc v)) := by
  rw [drop_enc]; rfl
 refine (xs_pop (n := m + 9) (ds := (v :: st).reverse.map enc) (d := enc v) (by show notFv lv = true; exact hf) rfl (by decide) (last_enc v st) (by rw [len_enc]; exact Nat.le_trans (Nat.add_le_add_left (by decide) _) hl2)).trans ?_
 rw [e1]
 have hl' : fs.length <= maxLen := Nat.le_trans (Nat.le_add_right _ _) hl
 have t (j : Nat) (fs : List Nat) := tag_test (C := C) (n := 11) (l := wL d fs st (.val (enc v))) (σ := σ) (x := 10) (j := j) (v := v) rfl
 cases v with
 | ref r mm u => exact (xs_ife_n (n := m + 8) (t 2 _) (w_appR (m := m + 6) (r := r) rfl hl')).trans ((xs_ife_0 (n := m + 6) (t 1 _)).trans (w_plain h15 hl2 rfl rfl))
 | par k => exact (xs_ife_0 (n := m + 7) (t 2 _)).trans ((xs_ife_n (n := m + 7) (t 1 _) (w_appR (m := m + 5) (r := k) rfl hl')).trans (w_plain h15 hl2 rfl rfl))
 | S r u => exact (xs_ife_0 (n := m + 7) (t 2 _)).trans ((xs_ife_0 (n := m + 6) (t 1 _)).trans (w_adt (rs := [r]) hl hl2 rfl rfl rfl (by show 1 <= 3; decide)))
 | E r q u => exact (xs_ife_0 (n := m + 7) (t 2 _)).trans ((xs_ife_0 (n := m + 6) (t 1 _)).trans (w_adt (rs := [r, q]) hl hl2 rfl rfl rfl (by show 2 <= 3; decide)))
 | L u => exact (xs_ife_0 (n := m + 7) (t 2 _)).trans ((xs_ife_0 (n := m + 6) (t 1 _)).trans (w_adt (rs := []) hl hl2 rfl rfl rfl (Nat.zero_le _)))
 | bool => exact (xs_ife_0 (n := m + 7) (t 2 _)).trans ((xs_ife_0 (n := m + 6) (t 1 _)).trans (by rw [show fs ++ hw .bool = fs from List.append_nil _]; exact w_plain h15 hl2 rfl rfl))
 | box u => exact (xs_ife_0 (n := m + 7) (t 2 _)).trans ((xs_ife_0 (n := m + 6) (t 1 _)).trans (by rw [show fs ++ hw (.box u) = fs from List.append_nil _]; exact w_plain h15 hl2 rfl rfl))
 | arr u => exact (xs_ife_0 (n := m + 7) (t 2 _)).trans ((xs_ife_0 (n := m + 6) (t 1 _)).trans (by rw [show fs ++ hw (.arr u) = fs from List.append_nil _]; exact w_plain h15 hl2 rfl rfl))
 | pair u w => exact (xs_ife_0 (n := m + 7) (t 2 _)).trans ((xs_ife_0 (n := m + 6) (t 1 _)).trans (by rw [show fs ++ hw (.pair u w) = fs from List.append_nil _]; exact w_plain h15 hl2 rfl rfl))
end
noncomputable def sizs (st : List Ty) : Nat := (st.map siz).sum
theorem sizs_app (a b : List Ty) : sizs (a ++ b) = sizs a + sizs b := by unfold sizs; rw [List.map_append, List.sum_append]
theorem siz_parts : ∀ v, 1 + sizs (parts v) = siz v
 | .pair _ _ => (Nat.add_assoc 1 _ _).symm
 | .bool | .par _ | .ref _ _ _ | .box _ | .arr _ | .S _ _ | .E _ _ _ | .L _ => rfl
theorem sizs_nxt (v : Ty) (st : List Ty) : sizs (nxt v st) + 1 = sizs (v :: st) := by
 have e : sizs (nxt v st) = sizs (parts v) + sizs st := by
  unfold nxt
  split
  ·exact sizs_app _ _
  ·exact (sizs_app _ _).trans (congrArg (· + sizs st) (by unfold sizs; rw [List.map_reverse, List.sum_reverse]))
 rw [e, Nat.add_right_comm, Nat.add_comm _ 1, siz_parts]; rfl
theorem len_sizs : ∀ st : List Ty, st.length <= sizs st
 | [] => Nat.le_refl _
 | t :: st => Nat.le_trans (Nat.add_le_add (len_sizs st) (siz_pos t)) (Nat.le_of_eq (Nat.add_comm (sizs st) (siz t)))
def Wi (k : Nat) (u : Ty) : Prop := k ∈ regs u \/ k ∈ pars u
theorem ex_nil {P : Ty -> Prop} {G : Prop} : (∃ u, u ∈ ([] : List Ty) /\ P u) -> G := λ⟨_, h, _⟩ => nomatch h
theorem wi_1 {k : Nat} {t : Ty} {h : List Nat} : (k ∈ h ++ regs t \/ k ∈ pars t) ↔ k ∈ h \/ ∃ u, u ∈ [t] /\ Wi k u := by
 rw [List.mem_append, or_assoc, ex_cons (P := Wi k)]
 exact or_congr Iff.rfl ⟨.inl, λq => q.elim id ex_nil⟩
theorem wi_2 {k : Nat} {t u : Ty} : (k ∈ regs t ++ regs u \/ k ∈ pars t ++ pars u) ↔ k ∈ ([] : List Nat) \/ ∃ w, w ∈ [t, u] /\ Wi k w := by
 rw [List.mem_append, List.mem_append, ex_cons (P := Wi k), ex_cons (P := Wi k)]
 exact ⟨λh => .inr (h.elim (λh => h.elim (λh => .inl (.inl h)) λh => .inr (.inl (.inl h))) λh => h.elim (λh => .inl (.inr h)) λh => .inr (.inl (.inr h))),
  λh => h.elim (λh => (nomatch h)) λh => h.elim (λh => h.elim (λh => .inl (.inl h)) λh => .inr (.inl h)) λh => h.elim (λh => h.elim (λh => .inl (.inr h)) λh => .inr (.inr h)) ex_nil⟩
theorem wi_parts {k : Nat} : ∀ v, Wi k v ↔ k ∈ hw v \/ ∃ u, u ∈ parts v /\ Wi k u
 | .bool => ⟨λh => h.elim (λh => (nomatch h)) λh => (nomatch h), λh => h.elim (λh => (nomatch h)) ex_nil⟩
 | .par j => ⟨λh => h.elim (λh => (nomatch h)) .inl, λh => h.elim .inr ex_nil⟩
 | .ref r _ t | .S r t => wi_1 (h := [r])
 | .E r q t => wi_1 (h := [r, q])
 | .box t | .arr t | .L t => wi_1 (h := [])
 | .pair t u => wi_2
theorem ex_app {P : Ty -> Prop} {a b l : List Ty} (h : ∀ u, u ∈ l ↔ u ∈ a \/ u ∈ b) : (∃ u, u ∈ l /\ P u) ↔ (∃ u, u ∈ a /\ P u) \/ ∃ u, u ∈ b /\ P u :=
 ⟨λ⟨u, hu, q⟩ => ((h u).mp hu).elim (λh => .inl ⟨u, h, q⟩) λh => .inr ⟨u, h, q⟩, λq => q.elim (λ⟨u, hu, q⟩ => ⟨u, (h u).mpr (.inl hu), q⟩) λ⟨u, hu, q⟩ => ⟨u, (h u).mpr (.inr hu), q⟩⟩
theorem mem_nxt {k : Nat} {v : Ty} {st : List Ty} : (∃ u, u ∈ v :: st /\ Wi k u) ↔ (k ∈ hw v \/ ∃ u, u ∈ nxt v st /\ Wi k u) := by
 rw [ex_cons (P := Wi k), wi_parts v, or_assoc, ex_app (a := parts v) (b := st) (l := nxt v st) λu => ?_]
 unfold nxt
 split
 ·exact List.mem_append
 ·exact List.mem_append.trans (or_congr List.mem_reverse Iff.rfl)
theorem hw_2 : ∀ v, (hw v).length <= 2
 | .E _ _ _ => Nat.le_refl _ | .par _ | .ref _ _ _ | .S _ _ => Nat.le_succ _ | .bool | .box _ | .arr _ | .pair _ _ | .L _ => Nat.zero_le _
theorem w_n {f h s N : Nat} (h1 : f + 2 * (N + 1) <= 5000) (hh : h <= 2) (hs : s + 1 <= N + 1) (h2 : N + 1 <= 1000) : f + 3 <= maxLen /\ s + 3 <= maxLen /\ f + h + 2 * N <= f + 2 * (N + 1) := by unfold maxLen; lia
structure WR (st : List Ty) (fs : List Nat) (N : Nat) (W : List Nat) : Prop where
 mem : ∀ k, k ∈ W ↔ k ∈ fs \/ ∃ u, u ∈ st /\ Wi k u
 len : W.length <= fs.length + 2 * N
theorem w_loop {C : Calls} {sx : Sx} {d : D} {σ : Sg} (h15 : ∀ u σ, C 15 [enc u] σ = some (.list ((below u).map enc), σ)) : ∀ (N m : Nat) (st : List Ty) (fs : List Nat) (lv : LV), sizs st = N → notFv lv = true → fs.length + 2 * N ≤ 5000 → N ≤ 1000 →
  ∃ W : List Nat, WR st fs N W /\ (xs C sx (m + N + 20) (wL d fs st lv) σ [.whl (.nem 9) wBody, .reto 7]).map outS = some (.ret (.list (W.map .str)), σ)
 | N, m, [], fs, lv, hN, hl, h1, h2 => ⟨fs, ⟨λk => ⟨.inl, λh => h.elim id ex_nil⟩, Nat.le_add_right _ _⟩, congrArg (Option.map outS) ((xs_whl_f (n := m + N + 19) (σ₁ := σ) rfl).trans (xs_reto (n := m + N + 18) (ds := fs.map .str) rfl))⟩
 | 0, m, v :: st, fs, lv, hN, hl, h1, h2 => absurd ((sizs_nxt v st).trans hN) (Nat.succ_ne_zero _)
 | N' + 1, m, v :: st, fs, lv, hN, hl, h1, h2 =>
  have ⟨b1, b2, b3⟩ := w_n h1 (hw_2 v) (hN ▸ len_sizs (v :: st)) h2
  have ⟨W, p, p1⟩ := w_loop h15 N' m (nxt v st) (fs ++ hw v) (.val (enc v)) (Nat.succ.inj ((sizs_nxt v st).trans hN)) rfl (by rw [List.length_append]; exact Nat.le_trans b3 h1) (Nat.le_of_succ_le h2)
  have hstep := w_step (C := C) (sx := sx) (d := d) (σ := σ) (lv := lv) (m := m + N' + 10) (fs := fs) (st := st) (v := v) h15 hl b1 b2
  have hev : ev C evN (wL d fs (v :: st) lv) σ (.nem 9) = some (.bool true, σ) := congrArg (λb => some (D.bool (!b), σ)) (ne_enc v st)
  ⟨W, ⟨λk => (p.mem k).trans (by rw [mem_nxt, List.mem_append, or_assoc]), Nat.le_trans p.len (by rw [List.length_append]; exact b3)⟩, (congrArg (Option.map outS) (xs_whl_t (n := m + N' + 20) hev hstep)).trans p1⟩
theorem run17 (k : Nat) (ds : List D) (σ : Sg) : run (k + 1) 17 ds σ = fnRun (run k) (λ_ _ _ => none) ps_l_within ns_l_within b_l_within ds σ := run_fn (f := 17) (by decide) (by decide)
theorem within_run {t : Ty} {σ : Sg} (k : Nat) (hs : siz t ≤ 1000) :
  ∃ W : List Nat, run (k + 2) 17 [enc t] σ = some (.list (W.map .str), σ) /\ (∀ k, k ∈ W ↔ k ∈ regs t \/ k ∈ pars t) /\ W.length <= 2 * siz t := by
 have ⟨W, p, p1⟩ := w_loop (C := run (k + 1)) (sx := λ_ _ _ => none) (d := enc t) (σ := σ) (λu τ => below_run k u τ) (siz t) (999979 - siz t) [t] [] .un rfl rfl (by rw [List.length_nil]; lia) hs
 refine ⟨W, (run17 _ _ _).trans (fnRun_f rfl ?_ rfl), λk => (p.mem k).trans ⟨λh => h.elim (λh => (nomatch h)) λ⟨u, hu, q⟩ => List.mem_singleton.mp hu ▸ q, λh => .inr ⟨t, .head _, h⟩⟩, Nat.zero_add (2 * siz t) ▸ p.len⟩
 have hm : fuel = 999979 - siz t + siz t + 20 + 1 := by unfold fuel; lia
 rw [hm]
 exact p1
theorem addP_mem {k : Nat} {fs : List Nat} : ∀ {v : Ty}, k ∈ addP fs v ↔ k ∈ fs \/ .par k = v
 | .par j => add_mem.trans (or_congr Iff.rfl ⟨λe => congrArg _ e, λe => Ty.par.inj e⟩)
 | .bool | .ref _ _ _ | .box _ | .arr _ | .pair _ _ | .S _ _ | .E _ _ _ | .L _ => ⟨.inl, λq => q.elim id λq => nomatch q⟩
theorem foldP_mem {k : Nat} : ∀ {ts : List Ty} {fs : List Nat}, k ∈ ts.foldl addP fs ↔ k ∈ fs \/ .par k ∈ ts
 | [], fs => ⟨.inl, λq => q.elim id λq => nomatch q⟩
 | t :: ts, fs => by
  rw [List.foldl_cons, foldP_mem, addP_mem, List.mem_cons, or_assoc]
theorem par_in {k : Nat} {u : Ty} {l : List Ty} (h : (tag u == 1) = false) : .par k ∈ u :: l ↔ .par k ∈ l := ⟨λq => (List.mem_cons.mp q).elim (λe => nB (show (tag (.par k) == 1) = false from e.symm ▸ h).symm) id, .tail _⟩
theorem pre_par {k : Nat} : ∀ t, .par k ∈ pre t ↔ k ∈ pars t
 | .bool => (par_in (l := []) rfl).trans ⟨λq => (nomatch q), λq => (nomatch q)⟩
 | .par j => List.mem_singleton.trans (Iff.trans ⟨λe => Ty.par.inj e, λe => congrArg _ e⟩ List.mem_singleton.symm)
 | .ref _ _ t | .box t | .arr t | .S _ t | .E _ _ t | .L t => (par_in rfl).trans (pre_par t)
 | .pair t u => (par_in rfl).trans (List.mem_append.trans ((or_congr (pre_par t) (pre_par u)).trans List.mem_append.symm))
theorem parsU_mem {k : Nat} {t : Ty} : k ∈ parsU t ↔ k ∈ pars t := foldP_mem.trans (Iff.trans ⟨λq => q.elim (λq => nomatch q) id, .inr⟩ (pre_par t))
theorem tells_ref {p : Pr} {r : Nat} {l : List Nat} : p ∈ l.map (λi => (i, r)) ↔ p.2 = r /\ p.1 ∈ l := by
 rw [List.mem_map]
 exact ⟨λ⟨k, hk, e⟩ => e ▸ ⟨rfl, hk⟩, λ⟨e, hk⟩ => ⟨p.1, hk, e ▸ rfl⟩⟩
theorem tells_mem {p : Pr} {r : Nat} {m : Bool} {t : Ty} : p ∈ tells (.ref r m t) ↔ p.2 = r /\ (p.1 ∈ regs t \/ p.1 ∈ pars t) :=
 tells_ref.trans (and_congr Iff.rfl (List.mem_append.trans (or_congr Iff.rfl parsU_mem)))
@[elab_as_elim] theorem ref_e {P : Ty -> Prop} : ∀ t, (tag t == 2) = true -> (∀ r m u, P (.ref r m u)) -> P t
 | .ref r m u, _, k => k r m u
 | .bool, h, _ | .par _, h, _ | .box _, h, _ | .arr _, h, _ | .pair _ _, h, _ | .S _ _, h, _ | .E _ _ _, h, _ | .L _, h, _ => nB h
theorem tells_no : ∀ t, (tag t == 2) = false -> tells t = []
 | .ref _ _ _, h => nomatch h
 | .bool, _ | .par _, _ | .box _, _ | .arr _, _ | .pair _ _, _ | .S _ _, _ | .E _ _ _, _ | .L _, _ => rfl
theorem okD_pr (p : Pr) : okD (prD p) = true := rfl
theorem okDs_pr (ps : List Pr) : okDs (ps.map prD) = true := by
 have key : ∀ ps : List Pr, plains (ps.map prD) = true /\ deps (ps.map prD) <= 1 := λps => by
  induction ps with
  | nil => exact ⟨rfl, Nat.zero_le 1⟩
  | cons p ps ih => exact ⟨ih.1, Nat.max_le.mpr ⟨Nat.le_refl 1, ih.2⟩⟩
 exact (Bool.and_eq_true _ _).mpr ⟨(key ps).1, decide_eq_true (Nat.le_trans (key ps).2 (by decide))⟩
theorem deq_pr (p q : Pr) : deq (prD q) (prD p) = (p == q) := by
 show ((q.1 == p.1) && ((q.2 == p.2) && true)) = ((p.1 == q.1) && (p.2 == q.2))
 rw [Bool.and_true, BEq.comm (a := q.1), BEq.comm (a := q.2)]
theorem any_pr (ps : List Pr) (p : Pr) : ((ps.map prD).any λy => deq y (prD p)) = ps.contains p := by
 induction ps with
 | nil => rfl
 | cons q ps ih => rw [List.map_cons, List.any_cons, ih, List.contains_cons, deq_pr]
noncomputable def trL (dt : D) (due : List Pr) (lv lw : LV) : Loc := [(12, .val worldD), (33, .val dt), (35, .ow (due.map prD)), (10, lv), (0, lw)]
noncomputable def dueX : X := .comp (.tup [.var 20, .idx (.var 10) (.cst (.int 1))]) [20] [10] (.call 17 [.idx (.var 10) (.cst (.int 3))]) none
noncomputable def irBody : List S := [.ife (.cmp .Eq (.idx (.var 10) (.cst (.int 0))) (.cst (.str 2))) [.ext 35 dueX] []]
theorem evc_none {g : Loc -> Sg -> X -> Option (D × Sg)} {l : Loc} {x : Nat} {elt cnd : X} {σ : Sg} {α : Type} (en : α -> D) : ∀ (as : List α), (∀ a ∈ as, g ([(x, .val (en a))] ++ l) σ cnd = some (.bool false, σ)) -> evc g l elt [x] (some cnd) σ (as.map en) = some ([], σ)
 | [], _ => rfl
 | a :: as, h => bindS (a := [(x, .val (en a))]) rfl (bindS (a := (false, σ)) (bindS (h a (.head _)) rfl) (evc_none en as λb hb => h b (.tail _ hb)))
section
variable {C : Calls} {sx : Sx} {dt : D} {σ : Sg} {lv lw : LV} {m : Nat} {due : List Pr}
def Win (C : Calls) (σ : Sg) : Prop := ∀ t, siz t <= 100 -> ∃ W : List Nat, C 17 [enc t] σ = some (.list (W.map .str), σ) /\ (∀ k, k ∈ W ↔ k ∈ regs t \/ k ∈ pars t) /\ W.length <= 2 * siz t
theorem ir_ref {r : Nat} {b : Bool} {t : Ty} {W : List Nat} (h1 : C 17 [enc t] σ = some (.list (W.map .str), σ)) (hl : due.length + W.length ≤ maxLen) :
  xs C sx (m + 4) (trL dt due (.val (enc (.ref r b t))) lw) σ irBody = some (.next, trL dt (due ++ W.map (λi => (i, r))) (.val (enc (.ref r b t))) lw, σ) := by
 have c17 : ev C 13 (trL dt due (.val (enc (.ref r b t))) lw) σ (.call 17 [.idx (.var 10) (.cst (.int 3))]) = some (.list (W.map .str), σ) := (ev_call (n := 12) (ds := [enc t]) (σ₁ := σ) (evs_cons (at_test (i := 3) rfl rfl) evs_nil)).trans h1
 have hcomp := ev_comp (n := 13) (elt := .tup [.var 20, .idx (.var 10) (.cst (.int 1))]) (ts := [20]) (fre := [10]) (cond := none) c17 rfl (by rw [List.length_map]; exact Nat.le_trans (Nat.le_add_left _ _) hl) rfl
  (evc_map D.str (λi => .tup [.str i, .str r]) _ λi _ => ev_tup (n := 12) (evs_cons (d := .str i) (σ₁ := σ) rfl (evs_cons (d := .str r) (σ₁ := σ) rfl evs_nil)) (show 2 <= 100 by decide))
 refine (xs_ife_n (n := m + 3) (c := true) (tag_test (v := .ref r b t) rfl) ((xs_ext (n := m + 2) hcomp rfl rfl (by rw [List.length_map, List.length_map]; exact hl)).trans (xs_nil (n := m + 1)))).trans ?_
 rw [show due.map prD ++ W.map (λi => .tup [.str i, .str r]) = (due ++ W.map (λi => (i, r))).map prD by rw [List.map_append, List.map_map]; rfl]
 exact xs_nil (n := m + 2)
theorem ir_step {P : List Pr → Prop} {v : Ty} (h17 : Win C σ) (hs : siz v ≤ 100) (hl : due.length + 200 ≤ maxLen)
  (K : ∀ due', due'.length <= due.length + 200 -> (∀ p, p ∈ due' ↔ p ∈ due \/ p ∈ tells v) -> xs C sx (m + 4) (trL dt due (.val (enc v)) lw) σ irBody = some (.next, trL dt due' (.val (enc v)) lw, σ) -> ∃ due, P due) : ∃ due, P due := by
 cases ht : tag v == 2 with
 | true =>
  revert hs K
  refine ref_e v ht λr b t hs K => ?_
  have ⟨W, h1, h2, h3⟩ := h17 t (Nat.le_trans (Nat.le_add_left _ 1) hs)
  have hW : W.length <= 200 := Nat.le_trans h3 (Nat.mul_le_mul_left 2 (Nat.le_trans (Nat.le_add_left _ 1) hs))
  have hA : due.length + W.length <= due.length + 200 := Nat.add_le_add_left hW _
  exact K (due ++ W.map λi => (i, r)) (by rw [List.length_append, List.length_map]; exact hA) (λp => List.mem_append.trans (or_congr Iff.rfl (tells_ref.trans ((and_congr Iff.rfl (h2 _)).trans tells_mem.symm)))) (ir_ref h1 (Nat.le_trans hA hl))
 | false => exact K due (Nat.le_add_right _ _) (λp => ⟨.inl, λq => q.elim id λq => nomatch tells_no v ht ▸ q⟩) ((xs_ife_n (n := m + 3) (c := false) ((tag_test rfl).trans (congrArg (λb => some (D.bool b, σ)) ht)) (xs_nil (n := m + 2))).trans (xs_nil (n := m + 2)))
def IrE (C : Calls) (sx : Sx) (dt : D) (σ : Sg) (lw : LV) (m : Nat) (R : List Ty) (due : List Pr) (lv : LV) (due' : List Pr) : Prop := due'.length <= due.length + 200 * R.length /\ (∀ p, p ∈ due' ↔ p ∈ due \/ ∃ u ∈ R, p ∈ tells u) /\ ∃ lv', fors (λl σ => xs C sx (m + 4) l σ irBody) [10] (R.map enc) (trL dt due lv lw) σ = some (.next, trL dt due' lv' lw, σ)
theorem ir_n {a n : Nat} (h : a + 200 * (n + 1) <= 200000) : a + 200 <= maxLen /\ ∀ b, b <= a + 200 -> b + 200 * n <= a + 200 * (n + 1) := by unfold maxLen; lia
theorem ir_loop (h17 : Win C σ) : ∀ (R : List Ty) (due : List Pr) (lv : LV), notFv lv = true -> (∀ u ∈ R, siz u <= 100) -> due.length + 200 * R.length <= 200000 -> ∃ due', IrE C sx dt σ lw m R due lv due'
 | [], due, lv, _, _, _ => ⟨due, Nat.le_refl _, λp => ⟨.inl, λq => q.elim id λ⟨_, q, _⟩ => nomatch q⟩, lv, rfl⟩
 | v :: R, due, lv, hlv, hs, hl => ir_step (sx := sx) (dt := dt) (lw := lw) (m := m) h17 (hs v (.head _)) (ir_n hl).1 λdue1 q1 q2 q3 =>
  have b := (ir_n hl).2 _ q1
  have ⟨due2, p1, p2, lv2, p3⟩ := ir_loop h17 R due1 (.val (enc v)) rfl (λu hu => hs u (.tail _ hu)) (Nat.le_trans b hl)
  ⟨due2, Nat.le_trans p1 b, λp => (p2 p).trans ((or_congr (q2 p) Iff.rfl).trans (or_assoc.trans (or_congr Iff.rfl (ex_cons (P := λu => p ∈ tells u)).symm))), lv2, (fors_cons (x := 10) (l := trL dt due lv lw) (show notFv lv = true from hlv) q3).trans p3⟩
end
theorem run18 (k : Nat) (ds : List D) (σ : Sg) : run (k + 1) 18 ds σ = fnRun (run k) (λ_ _ _ => none) ps_l_implied_right ns_l_implied_right b_l_implied_right ds σ := run_fn (f := 18) (by decide) (by decide)
noncomputable def irL (dt : D) (due : List Pr) (lv : LV) (told : List Pr) : Loc := [(12, .val worldD), (33, .val dt), (35, .val (.list (due.map prD))), (10, lv), (0, .val (.list (told.map prD)))]
theorem no_other {C : Calls} {l : Loc} {σ : Sg} {as bs : List Pr} {s w : Nat} (hs : ∀ n, ev C (n + 1) l σ (.var s) = some (.list (as.map prD), σ)) (hf : (l.filter fun q => [w].contains q.1 && notFv q.2) = [(w, .val (.list (bs.map prD)))]) (hw : (l.lookup w).isSome = true) (hne : w ≠ 36) (hl : as.length ≤ maxLen) (hsub : ∀ p ∈ as, p ∈ bs) :
  ev C 13 l σ (.cmp .Eq (.comp (.var 36) [36] [w] (.var s) (some (.cmp .NotIn (.var 36) (.var w)))) (.lst [])) = some (.bool true, σ) := by
 have hc : ev C 12 l σ (.comp (.var 36) [36] [w] (.var s) (some (.cmp .NotIn (.var 36) (.var w)))) = some (.list [], σ) := by
  refine ev_comp (n := 11) (elt := .var 36) (ts := [36]) (fre := [w]) (hs 10) rfl (by rw [List.length_map]; exact hl) (by simp [hw]) ?_
  rw [hf]
  refine evc_none prD as λp hp => ?_
  have v1 : ev C 10 ([(36, .val (prD p))] ++ [(w, .val (.list (bs.map prD)))]) σ (.var 36) = some (prD p, σ) := rfl
  have v2 : ev C 10 ([(36, .val (prD p))] ++ [(w, .val (.list (bs.map prD)))]) σ (.var w) = some (.list (bs.map prD), σ) := by
   have n1 : (w == 36) = false := by simp [hne]
   refine ev_var ?_
   rw [List.cons_append, List.nil_append, List.lookup_cons, n1]
   dsimp only
   rw [List.lookup_cons, beq_self_eq_true]
  refine ev_cmp (n := 10) v1 v2 ?_
  show (if okD (prD p) && okDs (bs.map prD) then some (!(bs.map prD).any λy => deq y (prD p)) else none) = _
  rw [okD_pr, okDs_pr, any_pr]
  have : bs.contains p = true := by simpa using hsub p hp
  rw [this]; rfl
 exact ev_cmp (n := 12) hc (d := .list []) (e := .list []) rfl rfl
theorem ir_end {C : Calls} {σ : Sg} {t : Ty} {R : List Ty} {found due : List Pr} {lv : LV} {m : Nat} (r1 : C 16 [enc t] σ = some (.list (R.map enc), σ)) (f1 : C 8 [enc t, worldD] σ = some (.list (found.map prD), σ)) (hR : (R.map enc).length ≤ maxLen) (hfl : found.length ≤ maxLen) (hdl : due.length ≤ maxLen) (same : ∀ p, p ∈ found ↔ p ∈ due)
  (d3 : fors (λl σ => xs C (λ_ _ _ => none) (m + 98) l σ irBody) [10] (R.map enc) (trL (enc t) [] .un .un) σ = some (.next, trL (enc t) due lv .un, σ)) : (xs C (λ_ _ _ => none) (m + 100) (loc0 ps_l_implied_right [worldD, enc t] ns_l_implied_right) σ b_l_implied_right).map outS = some (.ret (.bool true), σ) := by
 have e2 := xs_fore (sx := λ_ _ _ => none) (n := m + 98) (ts := [10]) (b := irBody) (rest := b_l_implied_right.drop 2) ((ev_call (n := 13) (l := trL (enc t) [] .un .un) (xs := [.var 33]) (ds := [enc t]) (σ₁ := σ) rfl).trans r1) rfl hR d3
 have h8 : ev C evN [(12, .val worldD), (33, .val (enc t)), (35, .val (.list (due.map prD))), (10, lv), (0, .un)] σ (.call 8 [.var 33, .var 12]) = some (.list (found.map prD), σ) := (ev_call (n := 13) (ds := [enc t, worldD]) (σ₁ := σ) rfl).trans f1
 have c1 := no_other (C := C) (l := irL (enc t) due lv found) (σ := σ) (as := found) (bs := due) (s := 0) (w := 35) (λn => rfl) rfl rfl (by decide) hfl λp hp => (same p).mp hp
 have c2 := no_other (C := C) (l := irL (enc t) due lv found) (σ := σ) (as := due) (bs := found) (s := 35) (w := 0) (λn => rfl) rfl rfl (by decide) hdl λp hp => (same p).mpr hp
 have e4 := (xs_asg (sx := λ_ _ _ => none) (n := m + 96) (x := 0) (rest := b_l_implied_right.drop 4) h8 rfl).trans (xs_ret (n := m + 95) (rest := []) ((ev_and_t (n := 13) c1).trans c2))
 exact congrArg (Option.map outS) (e2.trans e4)
theorem implied_right_run {t : Ty} {a : Option (List D)} {c : Option (List Nat × List D)} (k : Nat) (hk : 60 ≤ k) (hok : sgOk ⟨a, some wAd, c, none⟩ = true) (hh : hgt t ≤ 6) :
  run (k + 5) 18 [worldD, enc t] ⟨a, some wAd, c, none⟩ = some (.bool true, ⟨a, some wAd, c, none⟩) := by
 have hs := siz_hgt 6 t hh
 have ⟨R, r1, r2, r3, r4⟩ := reached_run (t := t) (a := a) (b := some wAd) (c := c) (k + 2) hok hh
 have ⟨found, f1, f2, hfl⟩ := implied_run (t := t) (a := a) (c := c) (k + 1) (by lia) hok hh
 refine (run18 _ _ _).trans (fnRun_of rfl (λm => ?_) rfl)
 have ⟨due, d1, d2, lv, d3⟩ := ir_loop (C := run (k + 4)) (sx := λ_ _ _ => none) (dt := enc t) (σ := ⟨a, some wAd, c, none⟩) (lw := .un) (m := m + 94) (λt ht => within_run (k + 2) (Nat.le_trans ht (by decide))) R [] .un rfl (λu hu => Nat.le_trans (clo_siz (r3 u hu)) (Nat.le_trans (Nat.add_le_add_right hs 3) (by decide))) (Nat.le_trans (Nat.add_le_add_left (Nat.mul_le_mul_left 200 r2) _) (by decide))
 have mid : ∀ p, (∃ u, u ∈ clo t /\ p ∈ tells u) ↔ (p ∈ ([] : List Pr) \/ ∃ u, u ∈ R /\ p ∈ tells u) := λp => ⟨λ⟨u, hu, q⟩ => (r4 u hu).elim (λh => .inr ⟨u, h, q⟩) λh => (nomatch (h ▸ q : p ∈ tells .bool)), λq => q.elim (λq => nomatch q) λ⟨u, hu, q⟩ => ⟨u, r3 u hu, q⟩⟩
 exact ir_end r1 f1 (by rw [List.length_map]; exact Nat.le_trans r2 (by decide)) hfl (Nat.le_trans d1 (Nat.le_trans (Nat.add_le_add_left (Nat.mul_le_mul_left 200 r2) _) (by decide))) (λp => (f2 p).trans ((mid p).trans (d2 p).symm)) d3
end Mine
end
section
open PySem PySem.W PySem.Calls
set_option maxRecDepth 100000
namespace Mine
def SrcOk (σ : Sg) : Prop := ∃ x y : Int, σ.src = some [.int x, .int y] /\ 0 <= y /\ y < 2147483648
def Same (σ σ' : Sg) : Prop := σ'.ad = σ.ad /\ σ'.tr = σ.tr /\ σ'.ac = σ.ac
theorem Same.refl (σ : Sg) : Same σ σ := ⟨rfl, rfl, rfl⟩
theorem Same.trans {a b c : Sg} (x : Same a b) (y : Same b c) : Same a c := ⟨y.1.trans x.1, y.2.1.trans x.2.1, y.2.2.trans x.2.2⟩
section
variable {C : Calls} {sx : Sx} {n : Nat} {l l' : Loc} {σ σ₁ σ₂ : Sg} {x y f : Nat} {e t a b : X} {d d1 d2 : D}
theorem ev_bin {op : Operator} {i j r : Int} (h1 : ev C n l σ a = some (.int i, σ₁)) (h2 : ev C n l σ₁ b = some (.int j, σ₂)) (h3 : binD op i j = some r) : ev C (n + 1) l σ (.bin op a b) = some (.int r, σ₂) := bindS h1 (bindS h2 (bindS h3 rfl))
theorem xs_srci {i : Nat} {ds : List D} {rest : List S} (h : ev C evN l σ e = some (d, σ₁)) (h27 : l.lookup 27 = some (.val .src)) (hs : σ₁.src = some ds) (hi : i < ds.length) : xs C sx (n + 1) l σ (.srci i e :: rest) = xs C sx n l { σ₁ with src := some (ds.set i d) } rest := bindS h (by rw [h27, hs]; exact if_pos hi)
theorem xs_asg2v {rest : List S} (h1 : ev C evN l σ e = some (d1, σ₁)) (h2 : ev C evN l σ₁ t = some (d2, σ₂)) (hx : hasL l x = true) (hy : hasL l y = true) : xs C sx (n + 1) l σ (.asg [x, y] [.v e, .v t] :: rest) = xs C sx n (setL (setL l x (.val d1)) y (.val d2)) σ₂ rest :=
 ifS (all2 hx hy) (bindS (o := rhs C [x, y] l σ [x, y] [.v e, .v t]) (bindS (o := rh C [x, y] l σ (.v e)) (bindS h1 rfl) (bindS (o := rhs C [x, y] l σ₁ [y] [.v t]) (bindS (o := rh C [x, y] l σ₁ (.v t)) (bindS h2 rfl) rfl) rfl)) rfl)
theorem ev_ite_t {a b : X} (h : ev C n l σ t = some (.bool true, σ₁)) : ev C (n + 1) l σ (.ite t a b) = ev C n l σ₁ a := bindS h rfl
theorem ev_ite_f {a b : X} (h : ev C n l σ t = some (.bool false, σ₁)) : ev C (n + 1) l σ (.ite t a b) = ev C n l σ₁ b := bindS h rfl
theorem ev_len {ds : List D} (h : ev C n l σ e = some (d, σ₁)) (hq : seqD d = some ds) (hl : ds.length <= maxLen) : ev C (n + 1) l σ (.len e) = some (.int ds.length, σ₁) := bindS h (bindS hq (if_pos hl))
end
theorem run11 (k : Nat) (ds : List D) (σ : Sg) : run (k + 1) 11 ds σ = fnRun (run k) (λ_ _ _ => none) ps_l_take ns_l_take b_l_take ds σ := run_fn (f := 11) (by decide) (by decide)
theorem fmod_lt {a b : Int} (hb : 0 < b) : 0 <= a.fmod b /\ a.fmod b < b := ⟨Int.fmod_nonneg_of_pos a hb, Int.fmod_lt_of_pos a hb⟩
theorem take_run {top : Int} (ht : top = 2 \/ top = 3 \/ top = 4 \/ top = 9) (k : Nat) {σ : Sg} (hs : SrcOk σ) : ∃ (r : Int) (σ' : Sg), run (k + 1) 11 [.src, .int top] σ = some (.int r, σ') /\ 0 <= r /\ r < top /\ SrcOk σ' /\ Same σ σ' := by
 obtain ⟨s0, ad, tr, ac⟩ := σ
 obtain ⟨x, y, e, y0, y1⟩ := hs
 cases e
 have t0 : 0 < top := by lia
 have t1 : top < 1000 := by lia
 generalize hC : run k = C
 let l0 : Loc := [(27, .val .src), (28, .val (.int top)), (29, .un)]
 let σ0 : Sg := ⟨some [.int x, .int y], ad, tr, ac⟩
 have test : ev C evN l0 σ0 (.cmp .Gt (.idx (.var 27) (.cst (.int 0))) (.cst (.int 0))) = some (.bool (decide (0 < x)), σ0) := rfl
 by_cases hx : 0 < x
 ·have dt : decide (0 < x) = true := by simp [hx]
  rw [dt] at test
  have bm := fmod_lt (a := x) t0
  refine ⟨x.fmod top, ⟨some [.int (x.fdiv top), .int y], ad, tr, ac⟩, ?_, bm.1, bm.2, ⟨_, _, rfl, y0, y1⟩, rfl, rfl, rfl⟩
  rw [run11, hC]
  refine fnRun_of rfl (λm => ?_) rfl
  have h1 : ev C evN l0 σ0 (.bin .Mod (.idx (.var 27) (.cst (.int 0))) (.var 28)) = some (.int (x.fmod top), σ0) := by
   refine ev_bin (n := 13) (i := x) (j := top) (σ₁ := σ0) rfl rfl ?_
   show (if top ≠ 0 then some (x.fmod top) else none) = _
   rw [if_pos (by lia)]
  have h2 : ev C evN (setL l0 29 (.val (.int (x.fmod top)))) σ0 (.bin .FloorDiv (.idx (.var 27) (.cst (.int 0))) (.var 28)) = some (.int (x.fdiv top), σ0) := by
   refine ev_bin (n := 13) (i := x) (j := top) (σ₁ := σ0) rfl rfl ?_
   show (if 0 < top /\ top < 1000 then some (x.fdiv top) else none) = _
   rw [if_pos ⟨t0, t1⟩]
  have r1 := xs_asg (C := C) (sx := λ_ _ _ => none) (n := m + 98) (x := 29) (rest := [.srci 0 (.bin .FloorDiv (.idx (.var 27) (.cst (.int 0))) (.var 28)), .ret (.var 29)]) h1 rfl
  have r2 := xs_srci (C := C) (sx := λ_ _ _ => none) (n := m + 97) (i := 0) (rest := [.ret (.var 29)]) h2 rfl rfl (by show 0 < 2; decide)
  have r3 : xs C (λ_ _ _ => none) (m + 97) (setL l0 29 (.val (.int (x.fmod top)))) ⟨some [.int (x.fdiv top), .int y], ad, tr, ac⟩ [.ret (.var 29)] = some (.ret (.int (x.fmod top)), setL l0 29 (.val (.int (x.fmod top))), ⟨some [.int (x.fdiv top), .int y], ad, tr, ac⟩) := rfl
  have all := xs_ife_t (C := C) (sx := λ_ _ _ => none) (n := m + 99) (b := []) (rest := b_l_take.drop 1) (r := (Out.ret (.int (x.fmod top)), setL l0 29 (.val (.int (x.fmod top))), ⟨some [.int (x.fdiv top), .int y], ad, tr, ac⟩)) test (r1.trans (r2.trans r3))
  exact congrArg (Option.map outS) all
 ·have dt : decide (0 < x) = false := by simp [hx]
  rw [dt] at test
  generalize hz : (y * 39373 + 7).fmod 2147483647 = z
  have bz : 0 <= z /\ z < 2147483647 := by rw [<- hz]; exact fmod_lt (by decide)
  have br := fmod_lt (a := (((z * z).fmod 2147483629).fdiv 32)) t0
  let σ1 : Sg := ⟨some [.int x, .int z], ad, tr, ac⟩
  refine ⟨(((z * z).fmod 2147483629).fdiv 32).fmod top, σ1, ?_, br.1, br.2, ⟨_, _, rfl, bz.1, by lia⟩, rfl, rfl, rfl⟩
  rw [run11, hC]
  refine fnRun_of rfl (λm => ?_) rfl
  have h1 : ev C evN l0 σ0 (.bin .Mod (.bin .Add (.bin .Mult (.idx (.var 27) (.cst (.int 1))) (.cst (.int 39373))) (.cst (.int 7))) (.cst (.int 2147483647))) = some (.int z, σ0) := by rw [<- hz]; rfl
  have m1 : ev C 11 l0 σ1 (.bin .Mult (.idx (.var 27) (.cst (.int 1))) (.idx (.var 27) (.cst (.int 1)))) = some (.int (z * z), σ1) := by
   refine ev_bin (n := 10) (i := z) (j := z) (σ₁ := σ1) rfl rfl ?_
   show (if z.natAbs < 2 ^ 64 then some (z * z) else none) = _
   rw [if_pos (by have : z.natAbs < 2147483647 := by lia
                  exact Nat.lt_trans this (by decide))]
  have m2 : ev C 12 l0 σ1 (.bin .Mod (.bin .Mult (.idx (.var 27) (.cst (.int 1))) (.idx (.var 27) (.cst (.int 1)))) (.cst (.int 2147483629))) = some (.int ((z * z).fmod 2147483629), σ1) := ev_bin (n := 11) m1 (j := 2147483629) rfl rfl
  have m3 : ev C 13 l0 σ1 (.bin .FloorDiv (.bin .Mod (.bin .Mult (.idx (.var 27) (.cst (.int 1))) (.idx (.var 27) (.cst (.int 1)))) (.cst (.int 2147483629))) (.cst (.int 32))) = some (.int (((z * z).fmod 2147483629).fdiv 32), σ1) := ev_bin (n := 12) m2 (j := 32) rfl rfl
  have h2 : ev C evN l0 σ1 (.bin .Mod (.bin .FloorDiv (.bin .Mod (.bin .Mult (.idx (.var 27) (.cst (.int 1))) (.idx (.var 27) (.cst (.int 1)))) (.cst (.int 2147483629))) (.cst (.int 32))) (.var 28)) = some (.int ((((z * z).fmod 2147483629).fdiv 32).fmod top), σ1) := by
   refine ev_bin (n := 13) m3 (j := top) rfl ?_
   show (if top ≠ 0 then some _ else none) = _
   rw [if_pos (by lia)]
  have r0 := xs_ife_n (C := C) (sx := λ_ _ _ => none) (n := m + 99) (a := [.asg [29] [.v (.bin .Mod (.idx (.var 27) (.cst (.int 0))) (.var 28))], .srci 0 (.bin .FloorDiv (.idx (.var 27) (.cst (.int 0))) (.var 28)), .ret (.var 29)]) (b := []) (rest := b_l_take.drop 1) test (by rw [if_neg (by decide)]; exact xs_nil (n := m + 98))
  have r1 := xs_srci (C := C) (sx := λ_ _ _ => none) (n := m + 98) (i := 1) (rest := b_l_take.drop 2) h1 rfl rfl (by show 1 < 2; decide)
  have r2 := xs_ret (C := C) (sx := λ_ _ _ => none) (n := m + 97) (rest := []) h2
  exact congrArg (Option.map outS) (r0.trans (r1.trans r2))
structure Draw (C : Calls) : Prop where
 take : ∀ (top : Int) (σ : Sg), (top = 2 \/ top = 3 \/ top = 4 \/ top = 9) -> SrcOk σ -> ∃ (r : Int) (σ' : Sg), C 11 [.src, .int top] σ = some (.int r, σ') /\ 0 <= r /\ r < top /\ SrcOk σ' /\ Same σ σ'
noncomputable def rgs : List D := [.str 9, .str 10, .str 11]
theorem run13 (k : Nat) (ds : List D) (σ : Sg) : run (k + 1) 13 ds σ = fnRun (run k) (λ_ _ _ => none) ps_l_regions ns_l_regions b_l_regions ds σ := run_fn (f := 13) (by decide) (by decide)
theorem regions3_run (k : Nat) (σ : Sg) : run (k + 1) 13 [] σ = some (.list rgs, σ) := by
 rw [run13]
 generalize run k = C
 obtain ⟨a, b, c, x⟩ := σ
 cases x <;> kernel_rfl
theorem run12 (k : Nat) (ds : List D) (σ : Sg) : run (k + 1) 12 ds σ = fnRun (run k) (λ_ _ _ => none) ps_l_one ns_l_one b_l_one ds σ := run_fn (f := 12) (by decide) (by decide)
theorem one_run (k : Nat) {σ : Sg} (hs : SrcOk σ) : ∃ (r : Nat) (σ' : Sg), run (k + 2) 12 [.src, .list rgs] σ = some (.str r, σ') /\ SrcOk σ' /\ Same σ σ' := by
 obtain ⟨i, σ', h1, h2, h3, h4, h5⟩ := take_run (top := 3) (by simp) k hs
 have hi : i = 0 \/ i = 1 \/ i = 2 := by lia
 have hl : ev (run (k + 1)) 12 [(27, .val .src), (30, .val (.list rgs))] σ (.len (.var 30)) = some (.int 3, σ) := ev_len (n := 11) (ds := rgs) rfl rfl (by unfold maxLen; decide)
 have hc : ev (run (k + 1)) 13 [(27, .val .src), (30, .val (.list rgs))] σ (.call 11 [.var 27, .len (.var 30)]) = some (.int i, σ') := (ev_call (n := 12) (ds := [.src, .int 3]) (σ₁ := σ) (evs_cons (d := .src) (σ₁ := σ) rfl (evs_cons hl evs_nil))).trans h1
 have fin : ∀ r, itemAt rgs i = some (.str r) -> run (k + 2) 12 [.src, .list rgs] σ = some (.str r, σ') := λr hr => by
  rw [run12]
  have hev : ev (run (k + 1)) evN [(27, .val .src), (30, .val (.list rgs))] σ (.idx (.var 30) (.call 11 [.var 27, .len (.var 30)])) = some (.str r, σ') := ev_idx (n := 13) (d := .list rgs) (dd := .int i) (σ₁ := σ) rfl hc hr
  refine fnRun_of rfl (λm => ?_) (by rw [h5.2.2])
  exact congrArg (Option.map outS) (xs_ret (C := run (k + 1)) (sx := λ_ _ _ => none) (n := m + 99) (rest := []) hev)
 rcases hi with rfl | rfl | rfl
 ·exact ⟨9, σ', fin 9 rfl, h4, h5⟩
 ·exact ⟨10, σ', fin 10 rfl, h4, h5⟩
 ·exact ⟨11, σ', fin 11 rfl, h4, h5⟩
noncomputable def tL (d : Nat) (lw li lr : LV) : Loc := [(27, .val .src), (31, .val (.int (d : Int))), (32, lw), (20, li), (6, lr)]
theorem run14 (k : Nat) (ds : List D) (σ : Sg) : run (k + 1) 14 ds σ = fnRun (run k) (λ_ _ _ => none) ps_l_type ns_l_type b_l_type ds σ := run_fn (f := 14) (by decide) (by decide)
section
variable {C : Calls} {sx : Sx} {σ σ₁ σ' : Sg} {d : Nat}
theorem t_leaf {w : Int} (hw : w = 0 \/ w = 1 \/ w = 2) : ∃ t, hgt t = 1 /\ ∀ m, ∃ l', xs C sx (m + 99) (tL d (.val (.int w)) .un .un) σ (b_l_type.drop 1) = some (.ret (enc t), l', σ) := by
 rcases hw with rfl | rfl | rfl
 ·exact ⟨.bool, rfl, λm => ⟨_, rfl⟩⟩
 ·exact ⟨.par 7, rfl, λm => ⟨_, rfl⟩⟩
 ·exact ⟨.par 8, rfl, λm => ⟨_, rfl⟩⟩
theorem t_deep {w : Int} (m : Nat) (hw : 3 ≤ w) {t : Ty} {r : Nat} {σ2 σ3 : Sg} (h1 : C 14 [.src, .int ((d : Int) - 1)] σ = some (enc t, σ2)) (h2 : C 13 [] σ2 = some (.list rgs, σ2)) (h3 : C 12 [.src, .list rgs] σ2 = some (.str r, σ3)) :
  xs C sx (m + 99) (tL d (.val (.int w)) .un .un) σ (b_l_type.drop 1) = xs C sx (m + 97) (tL d (.val (.int w)) (.val (enc t)) (.val (.str r))) σ3 (b_l_type.drop 3) := by
 have ht : ev C evN (tL d (.val (.int w)) .un .un) σ (.cmp .Lt (.var 32) (.cst (.int 3))) = some (.bool (decide (w < 3)), σ) := rfl
 have e : decide (w < 3) = false := by simp; lia
 rw [e] at ht
 have r1 := xs_ife_n (C := C) (sx := sx) (n := m + 98) (a := [.ret (.idx (.lst [.tup [.cst (.str 0)], .tup [.cst (.str 1), .cst (.str 7)], .tup [.cst (.str 1), .cst (.str 8)]]) (.var 32))]) (b := []) (rest := b_l_type.drop 2) ht (by rw [if_neg (by decide)]; exact xs_nil (n := m + 97))
 have c14 : ev C evN (tL d (.val (.int w)) .un .un) σ (.call 14 [.var 27, .bin .Sub (.var 31) (.cst (.int 1))]) = some (enc t, σ2) := (ev_call (n := 13) (ds := [.src, .int ((d : Int) - 1)]) (σ₁ := σ) rfl).trans h1
 have c12 : ev C evN (tL d (.val (.int w)) .un .un) σ2 (.call 12 [.var 27, .call 13 []]) = some (.str r, σ3) := (ev_call (n := 13) (ds := [.src, .list rgs]) (σ₁ := σ2) (evs_cons (d := .src) (σ₁ := σ2) rfl (evs_cons ((ev_call (n := 12) (ds := []) (σ₁ := σ2) rfl).trans h2) evs_nil))).trans h3
 have r2 := xs_asg2v (C := C) (sx := sx) (n := m + 97) (x := 20) (y := 6) (rest := b_l_type.drop 3) c14 c12 rfl rfl
 exact r1.trans r2
theorem t_skip {t : X} {a rest : List S} {l : Loc} {n : Nat} (h : ev C evN l σ t = some (.bool false, σ)) : xs C sx (n + 2) l σ (.ife t a [] :: rest) = xs C sx (n + 1) l σ rest := xs_ife_n (n := n + 1) h (by rw [if_neg (by decide)]; exact xs_nil (n := n))
theorem t_take {t : X} {e : X} {dd : D} {rest : List S} {l : Loc} {n : Nat} (h : ev C evN l σ t = some (.bool true, σ)) (he : ev C evN l σ e = some (dd, σ')) : xs C sx (n + 2) l σ (.ife t [.ret e] [] :: rest) = some (.ret dd, l, σ') :=
 xs_ife_t (n := n + 1) (r := (Out.ret dd, l, σ')) h (xs_ret (n := n) (rest := []) he)
end
theorem t_way {C : Calls} {d : Nat} {w top : Int} {σ σ1 : Sg} (m : Nat) (htop : top = if 0 < d then 9 else 3) (h1 : C 11 [.src, .int top] σ = some (.int w, σ1)) :
  xs C (λ_ _ _ => none) (m + 100) (loc0 ps_l_type [.src, .int (d : Int)] ns_l_type) σ b_l_type = xs C (λ_ _ _ => none) (m + 99) (tL d (.val (.int w)) .un .un) σ1 (b_l_type.drop 1) := by
 have ht : ev C 13 (tL d .un .un .un) σ (.cmp .Gt (.var 31) (.cst (.int 0))) = some (.bool (decide (0 < (d : Int))), σ) := rfl
 have hw : ev C evN (tL d .un .un .un) σ (.ite (.cmp .Gt (.var 31) (.cst (.int 0))) (.call 11 [.var 27, .cst (.int 9)]) (.call 11 [.var 27, .cst (.int 3)])) = some (.int w, σ1) := by
  by_cases h : 0 < d
  ·have e : decide (0 < (d : Int)) = true := by simp; lia
   rw [e] at ht
   rw [if_pos h] at htop
   subst htop
   exact (ev_ite_t (n := 13) ht).trans ((ev_call (n := 12) (ds := [.src, .int 9]) (σ₁ := σ) rfl).trans h1)
  ·have e : decide (0 < (d : Int)) = false := by simp; lia
   rw [e] at ht
   rw [if_neg h] at htop
   subst htop
   exact (ev_ite_f (n := 13) ht).trans ((ev_call (n := 12) (ds := [.src, .int 3]) (σ₁ := σ) rfl).trans h1)
 exact xs_asg (C := C) (sx := λ_ _ _ => none) (n := m + 99) (x := 32) (rest := b_l_type.drop 1) hw rfl
structure TyR (K d : Nat) (σ : Sg) (t : Ty) (σ' : Sg) : Prop where
 h : run K 14 [.src, .int (d : Int)] σ = some (enc t, σ')
 g : hgt t <= d + 1
 s : SrcOk σ'
 q : Same σ σ'
def TyE (K d : Nat) (σ : Sg) : Prop := ∃ t σ', TyR K d σ t σ'
theorem t_fin {K d : Nat} {σ σ4 : Sg} {u : Ty} {l : Loc} (h : ∀ m, ∃ l, xs (run K) (λ_ _ _ => none) (m + 100) (loc0 ps_l_type [.src, .int (d : Int)] ns_l_type) σ b_l_type = some (.ret (enc u), l, σ4)) (hu : hgt u <= d + 1) (s4 : SrcOk σ4) (q : Same σ σ4) : TyE (K + 1) d σ :=
 ⟨u, σ4, (run14 _ _ _).trans (fnRun_of rfl (λm => (h m).elim λl h => congrArg (Option.map outS) h) (congrArg Option.isSome q.2.2).symm), hu, s4, q⟩
theorem leaf_run {d K : Nat} {top w : Int} {σ σ1 : Sg} (htop : top = if 0 < d then 9 else 3) (h1 : run K 11 [.src, .int top] σ = some (.int w, σ1)) (s1 : SrcOk σ1) (q1 : Same σ σ1) (hw : w = 0 \/ w = 1 \/ w = 2) : TyE (K + 1) d σ :=
 (t_leaf (C := run K) (sx := λ_ _ _ => none) (σ := σ1) (d := d) hw).elim λt ht => t_fin (l := []) (λm => (ht.2 m).elim λl h => ⟨l, (t_way m htop h1).trans h⟩) (Nat.le_trans (Nat.le_of_eq ht.1) (Nat.le_add_left 1 d)) s1 q1
section
variable {C : Calls} {sx : Sx} {d m r q : Nat} {w i : Int} {t u : Ty} {σ σ' : Sg}
noncomputable def tT (d : Nat) (w : Int) (t : Ty) (r : Nat) : Loc := tL d (.val (.int w)) (.val (enc t)) (.val (.str r))
noncomputable def t38 : X := .or (.cmp .Eq (.var 32) (.cst (.int 3))) (.cmp .Eq (.var 32) (.cst (.int 8)))
theorem b_ref (hw : ev C evN (tT d w t r) σ t38 = some (.bool true, σ)) (h5 : C 11 [.src, .int 2] σ = some (.int i, σ')) : xs C sx (m + 97) (tT d w t r) σ (b_l_type.drop 3) = some (.ret (enc (.ref r (i == 0) t)), tT d w t r, σ') :=
 t_take (n := m + 95) hw (ev_tup (n := 13) (evs_cons (d := .str 2) (σ₁ := σ) rfl (evs_cons (d := .str r) (σ₁ := σ) rfl (evs_cons (ev_cmp (n := 12) ((ev_call (n := 11) (xs := [.var 27, .cst (.int 2)]) (ds := [.src, .int 2]) (σ₁ := σ) rfl).trans h5) (e := .int 0) (σ₂ := σ') rfl rfl) (evs_cons (d := enc t) (σ₁ := σ') rfl evs_nil)))) (show 4 <= 100 by decide))
theorem b_box : xs C sx (m + 97) (tT d 4 t r) σ (b_l_type.drop 3) = some (.ret (enc (.box t)), tT d 4 t r, σ) :=
 (t_skip (n := m + 95) rfl).trans (t_take (n := m + 94) rfl rfl)
theorem b_pair (h5 : C 14 [.src, .int ((d : Int) - 1)] σ = some (enc u, σ')) : xs C sx (m + 97) (tT d 5 t r) σ (b_l_type.drop 3) = some (.ret (enc (.pair t u)), tT d 5 t r, σ') :=
 (t_skip (n := m + 95) rfl).trans ((t_skip (n := m + 94) rfl).trans (t_take (n := m + 93) rfl (ev_tup (n := 13) (evs_cons (d := .str 5) (σ₁ := σ) rfl (evs_cons (ev_tup (n := 12) (evs_cons (d := enc t) (σ₁ := σ) rfl (evs_cons ((ev_call (n := 11) (xs := [.var 27, .bin .Sub (.var 31) (.cst (.int 1))]) (ds := [.src, .int ((d : Int) - 1)]) (σ₁ := σ) rfl).trans h5) evs_nil)) (show 2 <= 100 by decide)) evs_nil)) (show 2 <= 100 by decide))))
theorem b_S : xs C sx (m + 97) (tT d 6 t r) σ (b_l_type.drop 3) = some (.ret (enc (.S r t)), tT d 6 t r, σ) :=
 (t_skip (n := m + 95) rfl).trans ((t_skip (n := m + 94) rfl).trans ((t_skip (n := m + 93) rfl).trans (t_take (n := m + 92) rfl rfl)))
theorem b_E (h2 : C 13 [] σ = some (.list rgs, σ)) (h3 : C 12 [.src, .list rgs] σ = some (.str q, σ')) : xs C sx (m + 97) (tT d 7 t r) σ (b_l_type.drop 3) = some (.ret (enc (.E r q t)), tT d 7 t r, σ') :=
 (t_skip (n := m + 95) rfl).trans ((t_skip (n := m + 94) rfl).trans ((t_skip (n := m + 93) rfl).trans ((t_skip (n := m + 92) rfl).trans (xs_ret (n := m + 92) (rest := []) (ev_tup (n := 13) (evs_cons (d := .str 6) (σ₁ := σ) rfl (evs_cons (d := .str 15) (σ₁ := σ) rfl (evs_cons (ev_tup (n := 12) (evs_cons (d := .str r) (σ₁ := σ) rfl (evs_cons ((ev_call (n := 11) (xs := [.var 27, .call 13 []]) (ds := [.src, .list rgs]) (σ₁ := σ) (evs_cons (d := .src) (σ₁ := σ) rfl (evs_cons ((ev_call (n := 10) (ds := []) (σ₁ := σ) rfl).trans h2) evs_nil))).trans h3) evs_nil)) (show 2 <= 100 by decide)) (evs_cons (d := .tup [enc t]) (σ₁ := σ') rfl evs_nil)))) (show 4 <= 100 by decide))))))
end
theorem hgt_max {t u : Ty} {n : Nat} (h1 : hgt t <= n) (h2 : hgt u <= n) : max (hgt t) (hgt u) + 1 <= n + 1 := Nat.succ_le_succ (Nat.max_le.mpr ⟨h1, h2⟩)
theorem type_step {K d : Nat} {w : Int} {σ σ1 : Sg} (ih : ∀ {σ}, SrcOk σ -> TyE (K + 2) d σ) (h1 : run (K + 2) 11 [.src, .int 9] σ = some (.int w, σ1)) (s1 : SrcOk σ1) (q1 : Same σ σ1) (hw : w = 3 \/ w = 4 \/ w = 5 \/ w = 6 \/ w = 7 \/ w = 8) : TyE (K + 3) (d + 1) σ :=
 (ih s1).elim λt h => h.elim λσ2 H => (one_run K H.s).elim λr h => h.elim λσ3 h => by
  have d1 : ((d + 1 : Nat) : Int) - 1 = (d : Int) := Int.add_sub_cancel (d : Int) 1
  have pre := λm => (t_way (C := run (K + 2)) (d := d + 1) m (top := 9) (if_pos (Nat.succ_pos d)).symm h1).trans (t_deep (C := run (K + 2)) (sx := λ_ _ _ => none) m (by lia) (d1.symm ▸ H.h) (regions3_run (K + 1) σ2) h.1)
  have q3 : Same σ σ3 := q1.trans (H.q.trans h.2.2)
  have g : hgt t + 1 <= d + 1 + 1 := Nat.succ_le_succ H.g
  have ref (hw : ∀ C, ev C evN (tT (d + 1) w t r) σ3 t38 = some (.bool true, σ3)) : TyE (K + 3) (d + 1) σ := (take_run (top := 2) (.inl rfl) (K + 1) h.2.1).elim λi h => h.elim λσ4 h =>
   t_fin (l := []) (u := .ref r (i == 0) t) (λm => ⟨_, (pre m).trans (b_ref (hw _) h.1)⟩) g h.2.2.2.1 (q3.trans h.2.2.2.2)
  rcases hw with e | e | e | e | e | e
  ·exact ref λC => e ▸ rfl
  ·exact t_fin (l := []) (u := .box t) (λm => ⟨_, (pre m).trans (e ▸ b_box)⟩) g h.2.1 q3
  ·exact (ih h.2.1).elim λu h => h.elim λσ4 H2 => t_fin (l := []) (u := .pair t u) (λm => ⟨_, (pre m).trans (e ▸ b_pair (d1.symm ▸ H2.h))⟩) (hgt_max H.g H2.g) H2.s (q3.trans H2.q)
  ·exact t_fin (l := []) (u := .S r t) (λm => ⟨_, (pre m).trans (e ▸ b_S)⟩) g h.2.1 q3
  ·exact (one_run K h.2.1).elim λq h => h.elim λσ4 h => t_fin (l := []) (u := .E r q t) (λm => ⟨_, (pre m).trans (e ▸ b_E (regions3_run (K + 1) σ3) h.1)⟩) g h.2.1 (q3.trans h.2.2)
  ·exact ref λC => e ▸ rfl
theorem type_run : ∀ (d : Nat) (k : Nat) {σ : Sg}, SrcOk σ -> TyE (k + d + 4) d σ
 | 0, k, σ, hs => (take_run (top := 3) (.inr (.inl rfl)) (k + 2) hs).elim λw h => h.elim λσ1 h => leaf_run (K := k + 3) rfl h.1 h.2.2.2.1 h.2.2.2.2 (by lia)
 | d + 1, k, σ, hs => (take_run (top := 9) (.inr (.inr (.inr rfl))) (k + d + 3) hs).elim λw h => h.elim λσ1 h => by
  show TyE (k + d + 4 + 1) (d + 1) σ
  by_cases hw : w < 3
  ·exact leaf_run (if_pos (Nat.succ_pos d)).symm h.1 h.2.2.2.1 h.2.2.2.2 (by lia)
  ·exact type_step (K := k + d + 2) (type_run d k) h.1 h.2.2.2.1 h.2.2.2.2 (by lia)
abbrev Par := Nat × List Nat
noncomputable def pD (p : Par) : D := .tup [.str p.1, .tup (p.2.map .str)]
noncomputable def askd (f : Nat -> D) (p : Par) : List D := p.2.map λtr => .tup [.str tr, .tup [], f p.1]
noncomputable def dueOf (f : Nat -> D) (ps : List Par) : List D := ps.flatMap λp => if p.1 = 36 then [] else askd f p
noncomputable def sigD (ps : List Par) : D := .inst 159 [2] [.list (ps.map pD)]
noncomputable def trD (n : Nat) : D := .inst 180 [2] [.tup ([.str 33, .str 34].take n)]
theorem due_run {ks : List Nat} {es : List D} {f : Nat -> D} : ∀ (ps : List Par), (∀ p ∈ ps, p.1 ≠ 36 -> lookD ks es p.1 = some (f p.1)) -> dueRun (.dict ks es) (ps.map pD) = some (dueOf f ps)
 | [], _ => rfl
 | p :: ps, h => by
  have ih := due_run ps λq hq => h q (.tail _ hq)
  have e : dueRun (.dict ks es) ((p :: ps).map pD) = if p.1 = 36 then dueRun (.dict ks es) (ps.map pD) else (lookD ks es p.1).bind λt => (dueRun (.dict ks es) (ps.map pD)).map λrest => ((p.2.map D.str).map λtr => .tup [tr, .tup [], t]) ++ rest := rfl
  rw [e, ih]
  unfold dueOf
  rw [List.flatMap_cons]
  by_cases q : p.1 = 36
  ·rw [if_pos q, if_pos q]; rfl
  ·rw [if_neg q, if_neg q, h p (.head _) q]
   simp only [Option.bind_some, Option.map_some, askd, List.map_map]
   rfl
noncomputable def names (ps : List Par) : List Nat := ps.map (·.1)
noncomputable def numsFrom : Nat -> Nat -> List D
 | _, 0 => []
 | i, n + 1 => .int (-1 - (i : Int)) :: numsFrom (i + 1) n
theorem nums_run : ∀ (ps : List Par) (i : Nat), numsRun i (ps.map pD) = some (names ps, numsFrom i ps.length)
 | [], _ => rfl
 | p :: ps, i => by
  have ih := nums_run ps (i + 1)
  have e : numsRun i ((p :: ps).map pD) = (numsRun (i + 1) (ps.map pD)).map λq => (p.1 :: q.1, .int (-1 - (i : Int)) :: q.2) := rfl
  rw [e, ih]; rfl
theorem lookD_cons (k j : Nat) (ks : List Nat) (d : D) (ds : List D) : lookD (j :: ks) (d :: ds) k = if k = j then some d else lookD ks ds k := by
 unfold lookD
 simp only [List.zip_cons_cons, List.lookup_cons]
 by_cases q : k = j
 ·rw [if_pos q, q]; simp
 ·rw [if_neg q]; have : (k == j) = false := by simp [q]
  rw [this]
theorem hasInts_of {js : List Nat} {es : List D} : ∀ (ks : List Nat) (n i : Nat), ks.length = n -> (∀ j k, ks[j]? = some k -> lookD js es k = some (.int (-1 - ((i + j : Nat) : Int)))) -> hasInts js es ks (numsFrom i n) = true
 | [], 0, _, _, _ => rfl
 | [], n + 1, _, h, _ => by simp at h
 | k :: ks, 0, _, h, _ => by simp at h
 | k :: ks, n + 1, i, h, hk => by
  have h0 := hk 0 k rfl
  have ih := hasInts_of ks n (i + 1) (by simpa using h) λj k' e => by
   have := hk (j + 1) k' (by simpa using e)
   rw [this]; congr 2; lia
  have e : hasInts js es (k :: ks) (numsFrom i (n + 1)) = ((match lookD js es k with | some (.int b) => (-1 - (i : Int)) == b | _ => false) && hasInts js es ks (numsFrom (i + 1) n)) := rfl
  rw [e, ih, h0]
  simp
theorem look_nums : ∀ (ks : List Nat) (n i : Nat), ks.Nodup -> ks.length = n -> ∀ j k, ks[j]? = some k -> lookD ks (numsFrom i n) k = some (.int (-1 - ((i + j : Nat) : Int)))
 | [], _, _, _, _, j, k, e => by simp at e
 | k0 :: ks, 0, _, _, h, _, _, _ => by simp at h
 | k0 :: ks, n + 1, i, nd, h, 0, k, e => by
  simp at e; subst e
  show lookD (k0 :: ks) (.int (-1 - (i : Int)) :: numsFrom (i + 1) n) k0 = _
  rw [lookD_cons, if_pos rfl]; rfl
 | k0 :: ks, n + 1, i, nd, h, j + 1, k, e => by
  have nd' := List.nodup_cons.mp nd
  have hm : k ∈ ks := List.mem_of_getElem? (by simpa using e)
  show lookD (k0 :: ks) (.int (-1 - (i : Int)) :: numsFrom (i + 1) n) k = _
  rw [lookD_cons, if_neg (λ(q : k = k0) => nd'.1 (by rw [<- q]; exact hm)), look_nums ks n (i + 1) nd'.2 (by simpa using h) j k (by simpa using e)]
  congr 2; lia
theorem run10 (k : Nat) (ds : List D) (σ : Sg) : run (k + 1) 10 ds σ = fnRun (run k) (λ_ _ _ => none) ps_param_regions ns_param_regions b_param_regions ds σ := run_fn (f := 10) (by decide) (by decide)
theorem ext_run (k j : Nat) (ds : List D) (σ : Sg) : run (k + 1) (2000 + j) ds σ = extRun j ds σ := run_ext
theorem regions_of_run (k : Nat) {ps : List Par} {σ : Sg} (hl : ps.length <= 100) (nd : (names ps).Nodup) (h39 : ∀ k ∈ names ps, k < 39) : run (k + 2) 10 [sigD ps] σ = some (.dict (names ps) (numsFrom 0 ps.length), σ) := by
 rw [run10]
 have hx : extRun 0 [sigD ps] σ = some (.dict (names ps) (numsFrom 0 ps.length), σ) := by
  show (if (ps.map pD).length <= 100 then (numsRun 0 (ps.map pD)).bind _ else none) = _
  rw [if_pos (by rw [List.length_map]; exact hl), nums_run, Option.bind_some]
  exact if_pos ⟨nd, h39⟩
 have h13 : ev (run (k + 1)) 13 [(22, .val (sigD ps))] σ (.ext 0 [22]) = some (.dict (names ps) (numsFrom 0 ps.length), σ) := by
  have e : ev (run (k + 1)) 13 [(22, .val (sigD ps))] σ (.ext 0 [22]) = run (k + 1) (2000 + 0) [sigD ps] σ := rfl
  rw [e, ext_run]; exact hx
 have ht : ev (run (k + 1)) 13 [(22, .val (sigD ps))] σ (.cmp .Is (.var 22) (.cst .none)) = some (.bool false, σ) := rfl
 refine fnRun_of rfl (λm => ?_) rfl
 exact congrArg (Option.map outS) (xs_ret (C := run (k + 1)) (sx := λ_ _ _ => none) (n := m + 99) (rest := []) ((ev_ite_f (n := 13) ht).trans h13))
theorem regions_none_run (k : Nat) {σ : Sg} : run (k + 1) 10 [.none] σ = some (.dict [] [], σ) := by
 rw [run10]
 generalize run k = C
 obtain ⟨a, b, c, x⟩ := σ
 cases x <;> kernel_rfl
theorem run19 (k : Nat) (ds : List D) (σ : Sg) : run (k + 1) 19 ds σ = fnRun (run k) (λ_ _ _ => none) ps_l_sig ns_l_sig b_l_sig ds σ := run_fn (f := 19) (by decide) (by decide)
theorem cls_run (k f : Nat) (hf : 21 <= f /\ f < 25) (ds : List D) (σ : Sg) : run (k + 3) f ds σ = clsRun f ds σ := by
 show (if 2000 <= f then _ else if 21 <= f /\ f < 25 then (if 2 <= k + 2 then clsRun f ds σ else none) else _) = _
 rw [if_neg (by lia), if_pos hf, if_pos (by lia)]
theorem sig_run (k : Nat) {ps : List Par} {σ : Sg} : run (k + 4) 19 [.list (ps.map pD)] σ = some (sigD ps, σ) := by
 rw [run19]
 have h : ev (run (k + 3)) evN [(39, .val (.list (ps.map pD)))] σ (.call 23 [.cst (.str 28), .tup [], .var 39, .tup [], .tup [], .tup [.cst (.str 5), .tup []], .cst .none, .cst (.bool true)]) = some (sigD ps, σ) :=
  (ev_call (n := 13) (ds := [.str 28, .tup [], .list (ps.map pD), .tup [], .tup [], .tup [.str 5, .tup []], .none, .bool true]) (σ₁ := σ) rfl).trans (cls_run k 23 (by decide) _ _)
 refine fnRun_of rfl (λm => ?_) rfl
 exact congrArg (Option.map outS) (xs_ret (C := run (k + 3)) (sx := λ_ _ _ => none) (n := m + 99) (rest := []) h)
noncomputable def asL (call sig tab : D) (found : List D) (ln lt : LV) (l19 : LV) : Loc := [(12, .val worldD), (21, .val call), (22, .val sig), (3, .val tab), (7, .ow found), (19, l19), (17, ln), (23, lt)]
noncomputable def aBody : List S := [.ife (.cmp .NotEq (.var 17) (.cst (.str 36))) [.ext 7 (.comp (.tup [.var 24, .tup [], .idx (.var 3) (.var 17)]) [24] [3, 17] (.var 23) none)] []]
section
variable {C : Calls} {sx : Sx} {call sig : D} {ks : List Nat} {es : List D} {f : Nat -> D} {σ : Sg} {ln lt l19 : LV} {m : Nat} {found : List D}
theorem a_step {p : Par} (hk : p.1 ≠ 36 → lookD ks es p.1 = some (f p.1)) (hl : found.length + p.2.length ≤ maxLen) :
  xs C sx (m + 4) (asL call sig (.dict ks es) found (.val (.str p.1)) (.val (.tup (p.2.map .str))) l19) σ aBody = some (.next, asL call sig (.dict ks es) (found ++ if p.1 = 36 then [] else askd f p) (.val (.str p.1)) (.val (.tup (p.2.map .str))) l19, σ) := by
 have ht : ev C evN (asL call sig (.dict ks es) found (.val (.str p.1)) (.val (.tup (p.2.map .str))) l19) σ (.cmp .NotEq (.var 17) (.cst (.str 36))) = some (.bool (!(p.1 == 36)), σ) := rfl
 unfold aBody
 by_cases q : p.1 = 36
 ·have e : (!(p.1 == 36)) = false := by simp [q]
  rw [e] at ht
  rw [if_pos q, List.append_nil]
  exact (xs_ife_n (n := m + 3) ht (by rw [if_neg (by decide)]; exact xs_nil (n := m + 2))).trans (xs_nil (n := m + 2))
 ·have e : (!(p.1 == 36)) = true := by simp [q]
  rw [e] at ht
  rw [if_neg q]
  have hcomp : ev C evN (asL call sig (.dict ks es) found (.val (.str p.1)) (.val (.tup (p.2.map .str))) l19) σ (.comp (.tup [.var 24, .tup [], .idx (.var 3) (.var 17)]) [24] [3, 17] (.var 23) none) = some (.list (askd f p), σ) := by
   refine ev_comp (n := 13) (elt := .tup [.var 24, .tup [], .idx (.var 3) (.var 17)]) (ts := [24]) (fre := [3, 17]) (cond := none) (d := .tup (p.2.map .str)) (σ₁ := σ) rfl rfl (by rw [List.length_map]; lia) rfl ?_
   refine evc_map D.str (λtr => .tup [.str tr, .tup [], f p.1]) _ λtr _ => ?_
   have hi : ev C 12 ([(24, .val (.str tr))] ++ [(3, .val (.dict ks es)), (17, .val (.str p.1))]) σ (.idx (.var 3) (.var 17)) = some (f p.1, σ) := ev_idx (n := 11) (d := .dict ks es) (dd := .str p.1) (σ₁ := σ) rfl rfl (hk q)
   exact ev_tup (n := 12) (evs_cons (d := .str tr) (σ₁ := σ) rfl (evs_cons (d := .tup []) (σ₁ := σ) rfl (evs_cons hi evs_nil))) (by simp)
  refine (xs_ife_n (n := m + 3) ht (by
   rw [if_pos (by decide), xs_ext (n := m + 2) hcomp rfl rfl (by unfold askd; rw [List.length_map]; exact hl)]
   exact xs_nil (n := m + 1))).trans ?_
  exact xs_nil (n := m + 2)
theorem fors_cons2 {g : Loc -> Sg -> Option (Out × Loc × Sg)} {x y : Nat} {a b : D} {ds : List D} {l l' : Loc} {σ σ' : Sg} (hx : hasL l x = true) (hy : hasL l y = true) (h : g (setL (setL l x (.val a)) y (.val b)) σ = some (.next, l', σ')) : fors g [x, y] (.tup [a, b] :: ds) l σ = fors g [x, y] ds l' σ' := by
 have e : fors g [x, y] (.tup [a, b] :: ds) l σ = (if [x, y].all (hasL l) then (g (setL (setL l x (.val a)) y (.val b)) σ).bind λp => match p.1 with
  | .next => fors g [x, y] ds p.2.1 p.2.2
  | .ret d => some (.ret d, p.2)
  else none) := rfl
 rw [e, List.all_cons, List.all_cons, hx, hy, List.all_nil, Bool.true_and, Bool.true_and, if_pos rfl, h]
 rfl
theorem a_loop : ∀ (ps : List Par) (found : List D) (ln lt : LV), notFv ln = true → notFv lt = true → (∀ p ∈ ps, p.1 ≠ 36 → lookD ks es p.1 = some (f p.1)) → found.length + (ps.map fun p => p.2.length).sum ≤ maxLen →
  ∃ ln' lt', fors (λl σ => xs C sx (m + 4) l σ aBody) [17, 23] (ps.map pD) (asL call sig (.dict ks es) found ln lt l19) σ = some (.next, asL call sig (.dict ks es) (found ++ dueOf f ps) ln' lt' l19, σ)
 | [], found, ln, lt, _, _, _, _ => ⟨ln, lt, by rw [show dueOf f [] = [] from rfl, List.append_nil]; rfl⟩
 | p :: ps, found, ln, lt, hn, ht, hk, hl => by
  rw [List.map_cons, List.sum_cons] at hl
  have h1 := a_step (C := C) (sx := sx) (call := call) (sig := sig) (ks := ks) (es := es) (f := f) (σ := σ) (l19 := l19) (m := m) (found := found) (p := p) (hk p (.head _)) (by lia)
  have hlen : (found ++ if p.1 = 36 then [] else askd f p).length <= found.length + p.2.length := by
   rw [List.length_append]; split
   ·simp
   ·unfold askd; simp
  obtain ⟨ln', lt', h2⟩ := a_loop ps (found ++ if p.1 = 36 then [] else askd f p) (.val (.str p.1)) (.val (.tup (p.2.map .str))) rfl rfl (λq hq => hk q (.tail _ hq)) (by lia)
  refine ⟨ln', lt', ?_⟩
  have e : found ++ dueOf f (p :: ps) = (found ++ if p.1 = 36 then [] else askd f p) ++ dueOf f ps := by unfold dueOf; rw [List.flatMap_cons, List.append_assoc]
  rw [e, List.map_cons]
  exact (fors_cons2 (l' := asL call sig (.dict ks es) (found ++ if p.1 = 36 then [] else askd f p) (.val (.str p.1)) (.val (.tup (p.2.map .str))) l19) (σ' := σ) (by show notFv ln = true; exact hn) (by show notFv lt = true; exact ht) h1).trans h2
end
theorem run9 (k : Nat) (ds : List D) (σ : Sg) : run (k + 1) 9 ds σ = fnRun (run k) (λ_ _ _ => none) ps_asked_of ns_asked_of b_asked_of ds σ := run_fn (f := 9) (by decide) (by decide)
theorem asked_fn_run (k : Nat) {ps : List Par} {types : D} {ks : List Nat} {es : List D} {f : Nat → D} {σ : Sg} (hk : ∀ p ∈ ps, p.1 ≠ 36 → lookD ks es p.1 = some (f p.1)) (hl : (ps.map fun p => p.2.length).sum ≤ 1000) (hpl : ps.length ≤ 100) :
  run (k + 1) 9 [worldD, .tup [.str 27, .str 28, types], sigD ps, .dict ks es] σ = some (.list (dueOf f ps), σ) := by
 rw [run9]
 generalize run k = C
 refine fnRun_of rfl (λm => ?_) rfl
 obtain ⟨ln, lt, h⟩ := a_loop (C := C) (sx := λ_ _ _ => none) (call := .tup [.str 27, .str 28, types]) (sig := sigD ps) (ks := ks) (es := es) (f := f) (σ := σ) (l19 := .un) (m := m + 93) ps [] .un .un rfl rfl hk (by simp; unfold maxLen; lia)
 have e1 : xs C (λ_ _ _ => none) (m + 100) (loc0 ps_asked_of [worldD, .tup [.str 27, .str 28, types], sigD ps, .dict ks es] ns_asked_of) σ b_asked_of = xs C (λ_ _ _ => none) (m + 98) (asL (.tup [.str 27, .str 28, types]) (sigD ps) (.dict ks es) [] .un .un .un) σ (b_asked_of.drop 2) := rfl
 have e2 := xs_fore (C := C) (sx := λ_ _ _ => none) (n := m + 97) (ts := [17, 23]) (b := aBody) (rest := b_asked_of.drop 3) (l := asL (.tup [.str 27, .str 28, types]) (sigD ps) (.dict ks es) [] .un .un .un) (σ₁ := σ) (e := .attr (.var 22) 2) (dv := .list (ps.map pD)) rfl rfl (by rw [List.length_map]; unfold maxLen; lia) h
 rw [List.nil_append] at e2
 exact congrArg (Option.map outS) (e1.trans (e2.trans rfl))
theorem asked_method_run (k : Nat) {ps : List Par} {t0 t1 t2 own : D} {n : Nat} {ks : List Nat} {es : List D} {f : Nat → D} {a x : Option (List D)} {b : Option (List Nat × List D)} (hk : ∀ p ∈ ps, p.1 ≠ 36 → lookD ks es p.1 = some (f p.1)) (hl : (ps.map fun p => p.2.length).sum ≤ 1000) (hpl : ps.length ≤ 100) (hn : n = 0 ∨ n = 1 ∨ n = 2) :
  run (k + 1) 9 [worldD, .tup [.str 26, .str 30, .str 29, own, .tup [t0, t1, t2]], sigD ps, .dict ks es] ⟨a, b, some ([30], [trD n]), x⟩ = some (.list (.tup [.str 30, .tup ([t0, t1, t2].take n), own] :: dueOf f ps), ⟨a, b, some ([30], [trD n]), x⟩) := by
 rw [run9]
 generalize run k = C
 refine fnRun_of rfl (λm => ?_) rfl
 obtain ⟨ln, lt, h⟩ := a_loop (C := C) (sx := λ_ _ _ => none) (call := .tup [.str 26, .str 30, .str 29, own, .tup [t0, t1, t2]]) (sig := sigD ps) (ks := ks) (es := es) (f := f) (σ := ⟨a, b, some ([30], [trD n]), x⟩) (l19 := .val (.int n)) (m := m + 93) ps [.tup [.str 30, .tup ([t0, t1, t2].take n), own]] .un .un rfl rfl hk (by simp; unfold maxLen; lia)
 have e1 : xs C (λ_ _ _ => none) (m + 100) (loc0 ps_asked_of [worldD, .tup [.str 26, .str 30, .str 29, own, .tup [t0, t1, t2]], sigD ps, .dict ks es] ns_asked_of) ⟨a, b, some ([30], [trD n]), x⟩ b_asked_of = xs C (λ_ _ _ => none) (m + 98) (asL (.tup [.str 26, .str 30, .str 29, own, .tup [t0, t1, t2]]) (sigD ps) (.dict ks es) [.tup [.str 30, .tup ([t0, t1, t2].take n), own]] .un .un (.val (.int n))) ⟨a, b, some ([30], [trD n]), x⟩ (b_asked_of.drop 2) := by
  rcases hn with rfl | rfl | rfl <;> rfl
 have e2 := xs_fore (C := C) (sx := λ_ _ _ => none) (n := m + 97) (ts := [17, 23]) (b := aBody) (rest := b_asked_of.drop 3) (l := asL (.tup [.str 26, .str 30, .str 29, own, .tup [t0, t1, t2]]) (sigD ps) (.dict ks es) [.tup [.str 30, .tup ([t0, t1, t2].take n), own]] .un .un (.val (.int n))) (σ₁ := ⟨a, b, some ([30], [trD n]), x⟩) (e := .attr (.var 22) 2) (dv := .list (ps.map pD)) rfl rfl (by rw [List.length_map]; unfold maxLen; lia) h
 exact congrArg (Option.map outS) (e1.trans (e2.trans rfl))
section
variable {C : Calls} {sx : Sx} {n : Nat} {l l' : Loc} {σ σ₁ σ₂ σ₃ : Sg} {x y f : Nat} {e t o k : X} {d d1 d2 : D} {rest : List S}
theorem xs_setw_t {j : Nat} {ks : List Nat} {ds : List D} (h1 : ev C evN l σ e = some (d1, σ₁)) (h2 : ev C evN l σ₁ o = some (.trs, σ₂)) (h3 : ev C evN l σ₂ k = some (.str j, σ₃)) (h4 : σ₃.tr = some (ks, ds)) (h5 : ks.length ≤ 100 ∧ ks.length = ds.length) :
  xs C sx (n + 1) l σ (.setw o k e :: rest) = xs C sx n l { σ₃ with tr := some (putD ks ds j d1) } rest := bindS h1 (bindS h2 (bindS h3 (by rw [h4]; exact if_pos h5)))
theorem xs_setw_a {j : Nat} {ks : List Nat} {ds : List D} (h1 : ev C evN l σ e = some (d1, σ₁)) (h2 : ev C evN l σ₁ o = some (.adts, σ₂)) (h3 : ev C evN l σ₂ k = some (.str j, σ₃)) (h4 : σ₃.ad = some (ks, ds)) (h5 : ks.length ≤ 100 ∧ ks.length = ds.length) :
  xs C sx (n + 1) l σ (.setw o k e :: rest) = xs C sx n l { σ₃ with ad := some (putD ks ds j d1) } rest := bindS h1 (bindS h2 (bindS h3 (by rw [h4]; exact if_pos h5)))
theorem xs_seti {j : Nat} {ks : List Nat} {ds : List D} (h1 : ev C evN l σ e = some (d1, σ₁)) (h2 : ev C evN l σ₁ k = some (.str j, σ₂)) (h3 : l.lookup y = some (.od ks ds)) (h4 : ks.length ≤ 100 ∧ ks.contains j = false) :
  xs C sx (n + 1) l σ (.seti y k e :: rest) = xs C sx n (setL l y (.od (ks ++ [j]) (ds ++ [d1]))) σ₂ rest := bindS h1 (bindS h2 (by rw [h3]; exact if_pos h4))
theorem xs_asg2d (h1 : ev C evN l σ e = some (d1, σ₁)) (hx : hasL l x = true) (hy : hasL l y = true) : xs C sx (n + 1) l σ (.asg [x, y] [.v e, .d] :: rest) = xs C sx n (setL (setL l x (.val d1)) y (.od [] [])) σ₁ rest :=
 ifS (all2 hx hy) (bindS (o := rhs C [x, y] l σ [x, y] [.v e, .d]) (bindS (o := rh C [x, y] l σ (.v e)) (bindS h1 rfl) rfl) rfl)
theorem xs_sx {j : Nat} (h : sx j l σ = some (l', σ₁)) : xs C sx (n + 1) l σ (.sx j :: rest) = xs C sx n l' σ₁ rest := bindS h rfl
theorem ev_ne_same {a b : X} {ds : List D} (h1 : ev C n l σ a = some (.list ds, σ₁)) (h2 : ev C n l σ₁ b = some (.list ds, σ₂)) (h3 : okDs ds = true) : ev C (n + 1) l σ (.cmp .NotEq a b) = some (.bool false, σ₂) := by
 refine ev_cmp h1 h2 ?_
 show (if okDs ds && okDs ds then some (!deqs ds ds) else none) = _
 rw [h3, deqs_refl ds (by unfold okDs at h3; rw [Bool.and_eq_true] at h3; exact h3.1)]
 rfl
end
theorem plains_app : ∀ {a b : List D}, plains a = true -> plains b = true -> plains (a ++ b) = true
 | [], _, _, h => h
 | d :: ds, b, h1, h2 => (Bool.and_eq_true _ _).mpr ⟨(plains_cons h1).1, plains_app (plains_cons h1).2 h2⟩
theorem deps_app : ∀ {a b : List D} {n : Nat}, deps a <= n -> deps b <= n -> deps (a ++ b) <= n
 | [], _, _, _, h => h
 | d :: ds, b, n, h1, h2 => Nat.max_le.mpr ⟨(Nat.max_le.mp h1).1, deps_app (Nat.max_le.mp h1).2 h2⟩
theorem plains_map {α : Type} {g : α -> D} (h : ∀ a, plain (g a) = true) : ∀ l : List α, plains (l.map g) = true
 | [] => rfl
 | a :: l => (Bool.and_eq_true _ _).mpr ⟨h a, plains_map h l⟩
theorem deps_map {α : Type} {g : α -> D} {n : Nat} (h : ∀ a, dep (g a) <= n) : ∀ l : List α, deps (l.map g) <= n
 | [] => Nat.zero_le _
 | a :: l => Nat.max_le.mpr ⟨h a, deps_map h l⟩
theorem askd_ok {f : Nat -> D} {p : Par} (h1 : plain (f p.1) = true) (h2 : dep (f p.1) <= 50) : plains (askd f p) = true /\ deps (askd f p) <= 52 :=
 ⟨plains_map (g := λtr => .tup [.str tr, .tup [], f p.1]) (λt => by show (plain (f p.1) && true) = true; rw [h1]; rfl) _, deps_map (g := λtr => .tup [.str tr, .tup [], f p.1]) (λt => Nat.succ_le_succ (Nat.max_le.mpr ⟨Nat.zero_le _, Nat.max_le.mpr ⟨(by decide : 1 <= 51), Nat.max_le.mpr ⟨Nat.le_succ_of_le h2, Nat.zero_le _⟩⟩⟩)) _⟩
theorem due_ok2 {f : Nat -> D} : ∀ (ps : List Par), (∀ p ∈ ps, p.1 ≠ 36 -> plain (f p.1) = true /\ dep (f p.1) <= 50) -> plains (dueOf f ps) = true /\ deps (dueOf f ps) <= 52
 | [], _ => ⟨rfl, Nat.zero_le _⟩
 | p :: ps, h => by
  have I := due_ok2 ps λq hq => h q (.tail _ hq)
  unfold dueOf at I ⊢
  rw [List.flatMap_cons]
  by_cases q : p.1 = 36
  ·rw [if_pos q]; exact I
  ·rw [if_neg q]
   have A := h p (.head _) q
   have B := askd_ok (p := p) A.1 A.2
   exact ⟨plains_app B.1 I.1, deps_app B.2 I.2⟩
theorem okDs_of {ds : List D} (h1 : plains ds = true) (h2 : deps ds <= 100) : okDs ds = true := (Bool.and_eq_true _ _).mpr ⟨h1, decide_eq_true h2⟩
noncomputable def arL (n : Nat) (pd : D) (sg ty ow tb nm du nu tt : LV) : Loc := [(27, .val .src), (12, .val worldD), (19, .val (.int (n : Int))), (39, .val pd), (22, sg), (14, ty), (38, ow), (3, tb), (17, nm), (35, du), (40, nu), (23, tt)]
section
variable {C : Calls} {n : Nat} {pd : D} {sg ty ow tb nm du nu tt : LV} {σ : Sg}
structure Drw (C : Calls) (σ : Sg) (t : Ty) (σ' : Sg) : Prop where
 h : C 14 [.src, .int 1] σ = some (enc t, σ')
 g : hgt t <= 2
 s : SrcOk σ'
 q : Same σ σ'
def Draws (C : Calls) : Prop := ∀ σ, SrcOk σ -> ∃ (t : Ty) (σ' : Sg), Drw C σ t σ'
theorem ar_t {i : Int} {t : Ty} {σ' σ₂ : Sg} {ds rs : List D} (H : Drw C σ t σ') (h : evc (ev C 12) [(27, .val .src)] (.call 14 [.var 27, .cst (.int 1)]) [37] none σ' ds = some (rs, σ₂)) : evc (ev C 12) [(27, .val .src)] (.call 14 [.var 27, .cst (.int 1)]) [37] none σ (.int i :: ds) = some (enc t :: rs, σ₂) :=
 evc_cons (b := [(37, .val (.int i))]) rfl ((ev_call (n := 11) (ds := [.src, .int 1]) (σ₁ := σ) rfl).trans H.h) h
theorem ar_types {P : Prop} (hC : Draws C) (hs : SrcOk σ) (K : ∀ (t0 t1 t2 : Ty) (σ' : Sg), evc (ev C 12) [(27, .val .src)] (.call 14 [.var 27, .cst (.int 1)]) [37] none σ [.int 0, .int 1, .int 2] = some ([enc t0, enc t1, enc t2], σ') -> hgt t0 <= 2 -> hgt t1 <= 2 -> hgt t2 <= 2 -> SrcOk σ' -> Same σ σ' -> P) : P :=
 (hC σ hs).elim λt0 h => h.elim λσ1 H0 => (hC σ1 H0.s).elim λt1 h => h.elim λσ2 H1 => (hC σ2 H1.s).elim λt2 h => h.elim λσ3 H2 =>
 K t0 t1 t2 σ3 (ar_t H0 (ar_t H1 (ar_t H2 evc_nil))) H0.g H1.g H2.g H2.s (H0.q.trans (H1.q.trans H2.q))
noncomputable def tabBody : List S := [.seti 3 (.var 17) (.call 14 [.var 27, .cst (.int 1)])]
theorem ar_row {m : Nat} {sx : Sx} {ks : List Nat} {ds : List D} {j : Nat} {t : Ty} {σ' : Sg} (h : C 14 [.src, .int 1] σ = some (enc t, σ')) (hl : ks.length ≤ 100 ∧ ks.contains j = false) :
  xs C sx (m + 2) (arL n pd sg ty ow (.od ks ds) (.val (.str j)) du nu tt) σ tabBody = some (.next, arL n pd sg ty ow (.od (ks ++ [j]) (ds ++ [enc t])) (.val (.str j)) du nu tt, σ') := by
 have h1 : ev C evN (arL n pd sg ty ow (.od ks ds) (.val (.str j)) du nu tt) σ (.call 14 [.var 27, .cst (.int 1)]) = some (enc t, σ') := (ev_call (n := 13) (ds := [.src, .int 1]) (σ₁ := σ) rfl).trans h
 exact (xs_seti (n := m + 1) (y := 3) h1 (σ₂ := σ') rfl rfl hl).trans (xs_nil (n := m))
theorem tab_one {m : Nat} {sx : Sx} {ks : List Nat} {ds js : List D} {j : Nat} {t : Ty} {σ' : Sg} (H : Drw C σ t σ') (hl : ks.length ≤ 100 ∧ ks.contains j = false) (hn : notFv nm = true) :
  fors (λl σ => xs C sx (m + 2) l σ tabBody) [17] (.str j :: js) (arL n pd sg ty ow (.od ks ds) nm du nu tt) σ = fors (λl σ => xs C sx (m + 2) l σ tabBody) [17] js (arL n pd sg ty ow (.od (ks ++ [j]) (ds ++ [enc t])) (.val (.str j)) du nu tt) σ' :=
 fors_cons (x := 17) (l := arL n pd sg ty ow (.od ks ds) nm du nu tt) (show notFv nm = true from hn) (ar_row (m := m) H.h hl)
theorem ar_table {P : Prop} (hC : Draws C) (hs : SrcOk σ) (K : ∀ (a b c d : Ty) (σ' : Sg), (∀ (m : Nat) (sx : Sx), fors (λl σ => xs C sx (m + 2) l σ tabBody) [17] [.str 35, .str 36, .str 37, .str 38] (arL n pd sg ty ow (.od [] []) .un du nu tt) σ = some (.next, arL n pd sg ty ow (.od [35, 36, 37, 38] [enc a, enc b, enc c, enc d]) (.val (.str 38)) du nu tt, σ')) -> hgt a <= 2 -> hgt b <= 2 -> hgt c <= 2 -> SrcOk σ' -> Same σ σ' -> P) : P :=
 (hC σ hs).elim λt0 h => h.elim λσ1 H0 => (hC σ1 H0.s).elim λt1 h => h.elim λσ2 H1 => (hC σ2 H1.s).elim λt2 h => h.elim λσ3 H2 => (hC σ3 H2.s).elim λt3 h => h.elim λσ4 H3 =>
 K t0 t1 t2 t3 σ4 (λm sx => (tab_one H0 ⟨by decide, by decide⟩ rfl).trans ((tab_one H1 ⟨by decide, by decide⟩ rfl).trans ((tab_one H2 ⟨by decide, by decide⟩ rfl).trans (tab_one H3 ⟨by decide, by decide⟩ rfl)))) H0.g H1.g H2.g H3.s (H0.q.trans (H1.q.trans (H2.q.trans H3.q)))
noncomputable def numBody : List S := [.seti 40 (.var 17) (.bin .Sub (.neg (.cst (.int 1))) (.lenO 40))]
theorem ar_nums {m : Nat} {sx : Sx} : ∀ (ps : List Par) (ks : List Nat) (ds : List D) (nm tt : LV), notFv nm = true → notFv tt = true → (ks ++ names ps).Nodup → ks.length + ps.length ≤ 100 →
  ∃ nm' tt', fors (λl σ => xs C sx (m + 2) l σ numBody) [17, 23] (ps.map pD) (arL n pd sg ty ow tb nm du (.od ks ds) tt) σ = some (.next, arL n pd sg ty ow tb nm' du (.od (ks ++ names ps) (ds ++ numsFrom ks.length ps.length)) tt', σ)
 | [], ks, ds, nm, tt, _, _, _, _ => ⟨nm, tt, by rw [show names [] = [] from rfl, show numsFrom ks.length ([] : List Par).length = [] from rfl, List.append_nil, List.append_nil]; rfl⟩
 | p :: ps, ks, ds, nm, tt, hn, ht, nd, hl => by
  rw [List.length_cons] at hl
  have hc : ks.contains p.1 = false := by
   cases q : ks.contains p.1 with
   | false => rfl
   | true =>
    have hm : p.1 ∈ ks := List.contains_iff_mem.mp q
    rw [List.nodup_append] at nd
    exact absurd rfl (nd.2.2 p.1 hm p.1 (.head _))
  have h1 : ev C evN (arL n pd sg ty ow tb (.val (.str p.1)) du (.od ks ds) (.val (.tup (p.2.map .str)))) σ (.bin .Sub (.neg (.cst (.int 1))) (.lenO 40)) = some (.int (-1 - (ks.length : Int)), σ) := by
   refine ev_bin (n := 13) (i := -1) (j := ks.length) (σ₁ := σ) rfl ?_ rfl
   show (if ks.length <= 1000 then some (D.int (ks.length : Int), σ) else none) = _
   exact if_pos (Nat.le_trans (Nat.le_add_right _ _) (Nat.le_trans hl (by decide)))
  have h2 : xs C sx (m + 2) (arL n pd sg ty ow tb (.val (.str p.1)) du (.od ks ds) (.val (.tup (p.2.map .str)))) σ numBody = some (.next, arL n pd sg ty ow tb (.val (.str p.1)) du (.od (ks ++ [p.1]) (ds ++ [.int (-1 - (ks.length : Int))])) (.val (.tup (p.2.map .str))), σ) :=
   (xs_seti (n := m + 1) (y := 40) h1 (σ₂ := σ) rfl rfl ⟨Nat.le_trans (Nat.le_add_right _ _) hl, hc⟩).trans (xs_nil (n := m))
  have e0 : ks ++ names (p :: ps) = (ks ++ [p.1]) ++ names ps := (List.append_assoc ks [p.1] (names ps)).symm
  obtain ⟨nm', tt', h3⟩ := ar_nums ps (ks ++ [p.1]) (ds ++ [.int (-1 - (ks.length : Int))]) (.val (.str p.1)) (.val (.tup (p.2.map .str))) rfl rfl (e0 ▸ nd) (by rw [List.length_append, Nat.add_assoc, Nat.add_comm _ ps.length]; exact hl)
  refine ⟨nm', tt', ?_⟩
  have e1 : ds ++ numsFrom ks.length (p :: ps).length = (ds ++ [.int (-1 - (ks.length : Int))]) ++ numsFrom (ks ++ [p.1]).length ps.length := by
   rw [List.length_append, List.append_assoc]; rfl
  rw [e0, e1, List.map_cons]
  exact (fors_cons2 (by show notFv nm = true; exact hn) (by show notFv tt = true; exact ht) h2).trans h3
end
theorem run20 (k : Nat) (ds : List D) (σ : Sg) : run (k + 1) 20 ds σ = fnRun (run k) sxD ps_l_asked_right ns_l_asked_right b_l_asked_right ds σ := run_fn (f := 20) (by decide) (by decide)
section
variable {C : Calls} {sx : Sx} {n : Nat} {l l' : Loc} {σ σ₁ σ₂ σ₃ : Sg} {x y f : Nat} {e t o k a b : X} {d d1 d2 : D} {rest : List S}
theorem xs_frz_d {ks : List Nat} {ds : List D} (h : l.lookup y = some (.od ks ds)) : xs C sx (n + 1) l σ (.frz y :: rest) = xs C sx n (setL l y (.val (.dict ks ds))) σ rest := by
 conv => lhs; whnf
 rw [h]
theorem ev_tuple {ds : List D} (h : ev C n l σ e = some (d, σ₁)) (hq : seqD d = some ds) (hl : ds.length <= maxLen) : ev C (n + 1) l σ (.tuple e) = some (.tup ds, σ₁) := bindS h (bindS hq (if_pos hl))
theorem ev_addl {xs ys : List D} (h1 : ev C n l σ a = some (.list xs, σ₁)) (h2 : ev C n l σ₁ b = some (.list ys, σ₂)) (h3 : xs.length + ys.length <= maxLen) : ev C (n + 1) l σ (.bin .Add a b) = some (.list (xs ++ ys), σ₂) := bindS h1 (bindS h2 (if_pos h3))
theorem ev_upto_t {ds : List D} {i : Nat} (h1 : ev C n l σ a = some (.tup ds, σ₁)) (h2 : ev C n l σ₁ b = some (.int (i : Int), σ₂)) (h3 : i <= 100 /\ ds.length <= 100) : ev C (n + 1) l σ (.upto a b) = some (.tup (ds.take i), σ₂) := bindS h1 (bindS h2 (if_pos ⟨Int.natCast_nonneg _, Int.ofNat_le.mpr h3.1, h3.2⟩))
theorem ev_upto_l {ds : List D} {i : Nat} (h1 : ev C n l σ a = some (.list ds, σ₁)) (h2 : ev C n l σ₁ b = some (.int (i : Int), σ₂)) (h3 : i <= 100 /\ ds.length <= 100) : ev C (n + 1) l σ (.upto a b) = some (.list (ds.take i), σ₂) := bindS h1 (bindS h2 (if_pos ⟨Int.natCast_nonneg _, Int.ofNat_le.mpr h3.1, h3.2⟩))
end
noncomputable def tabF (a b c : Ty) (k : Nat) : D := if k = 35 then enc a else if k = 36 then enc b else enc c
theorem tab_look {a b c d : Ty} {k : Nat} (h : k = 35 \/ k = 36 \/ k = 37) : lookD [35, 36, 37, 38] [enc a, enc b, enc c, enc d] k = some (tabF a b c k) := by
 rcases h with rfl | rfl | rfl <;> rfl
theorem tab_ok {a b c : Ty} {k : Nat} (ha : hgt a <= 2) (hb : hgt b <= 2) (hc : hgt c <= 2) : plain (tabF a b c k) = true /\ dep (tabF a b c k) <= 50 := by
 unfold tabF
 have h1 := dep_enc a
 have h2 := dep_enc b
 have h3 := dep_enc c
 split
 ·exact ⟨plain_enc _, by lia⟩
 ·split
  ·exact ⟨plain_enc _, by lia⟩
  ·exact ⟨plain_enc _, by lia⟩
theorem dueOf_len {f : Nat -> D} : ∀ (ps : List Par), (dueOf f ps).length <= (ps.map λp => p.2.length).sum
 | [] => by simp [dueOf]
 | p :: ps => by
  have ih := dueOf_len (f := f) ps
  unfold dueOf at ih ⊢
  rw [List.flatMap_cons, List.length_append, List.map_cons, List.sum_cons]
  have : (if p.1 = 36 then [] else askd f p).length <= p.2.length := by
   split
   ·simp
   ·unfold askd; simp
  lia
theorem sxD_run {n : Nat} {sg ty ow nm du nu tt : LV} {ks : List Nat} {es : List D} {f : Nat → D} {ps : List Par} {σ : Sg} (hdu : notFv du = true) (hk : ∀ p ∈ ps, p.1 ≠ 36 → lookD ks es p.1 = some (f p.1)) (hpl : ps.length ≤ 100) (hl : (ps.map fun p => p.2.length).sum ≤ 1000) :
  sxD 2 (arL n (.list (ps.map pD)) sg ty ow (.val (.dict ks es)) nm du nu tt) σ = some (arL n (.list (ps.map pD)) sg ty ow (.val (.dict ks es)) nm (.val (.list (dueOf f ps))) nu tt, σ) := by
 have e : sxD 2 (arL n (.list (ps.map pD)) sg ty ow (.val (.dict ks es)) nm du nu tt) σ = if (ps.map pD).length <= maxLen /\ notFv du = true then (dueRun (.dict ks es) (ps.map pD)).bind λrs => if rs.length <= maxLen then some (arL n (.list (ps.map pD)) sg ty ow (.val (.dict ks es)) nm (.val (.list rs)) nu tt, σ) else none else none := rfl
 have hd := dueOf_len (f := f) ps
 rw [e, if_pos ⟨by rw [List.length_map]; unfold maxLen; lia, hdu⟩, due_run ps hk, Option.bind_some, if_pos (by unfold maxLen; lia)]
theorem ar_setw {C : Calls} {sx : Sx} {n m : Nat} {pd : D} {a x : Option (List D)} {b : Option (List Nat × List D)} {q : List Nat × List D} {rest : List S} (hn : n = 0 ∨ n = 1 ∨ n = 2) (hc : ∀ a b c d σ, C 24 [a, b, c, d] σ = some (.inst 180 [2] [b], σ)) (hq : q = ([], []) ∨ ∃ d0, q = ([30], [d0])) :
  xs C sx (m + 1) (arL n pd .un .un .un .un .un .un .un .un) ⟨a, b, some q, x⟩ (.setw (.attr (.var 12) 1) (.cst (.str 30)) (.call 24 [.cst (.str 30), .upto (.tup [.cst (.str 33), .cst (.str 34)]) (.var 19), .emp, .emp]) :: rest) = xs C sx m (arL n pd .un .un .un .un .un .un .un .un) ⟨a, b, some ([30], [trD n]), x⟩ rest := by
 have h1 : ev C evN (arL n pd .un .un .un .un .un .un .un .un) ⟨a, b, some q, x⟩ (.call 24 [.cst (.str 30), .upto (.tup [.cst (.str 33), .cst (.str 34)]) (.var 19), .emp, .emp]) = some (trD n, ⟨a, b, some q, x⟩) := by
  refine (ev_call (n := 13) (ds := [.str 30, .tup ([.str 33, .str 34].take n), .dict [] [], .dict [] []]) (σ₁ := ⟨a, b, some q, x⟩) ?_).trans (hc _ _ _ _ _)
  rcases hn with rfl | rfl | rfl <;> rfl
 rcases hq with rfl | ⟨d0, rfl⟩
 ·exact xs_setw_t (j := 30) (ks := []) (ds := []) h1 (σ₂ := ⟨a, b, some ([], []), x⟩) rfl (σ₃ := ⟨a, b, some ([], []), x⟩) rfl rfl ⟨by decide, rfl⟩
 ·exact xs_setw_t (j := 30) (ks := [30]) (ds := [d0]) h1 (σ₂ := ⟨a, b, some ([30], [d0]), x⟩) rfl (σ₃ := ⟨a, b, some ([30], [d0]), x⟩) rfl rfl ⟨by simp, rfl⟩
theorem draws_run (k : Nat) : Draws (run (k + 5)) := λσ hs => by
 exact (type_run 1 k hs).elim λt h => h.elim λσ' h => ⟨t, σ', ⟨h.h, h.g, h.s, h.q⟩⟩
theorem plains_take : ∀ (n : Nat) {ds : List D}, plains ds = true -> plains (ds.take n) = true
 | 0, _, _ => rfl
 | _ + 1, [], _ => rfl
 | n + 1, _ :: _, h => (Bool.and_eq_true _ _).mpr ⟨(plains_cons h).1, plains_take n (plains_cons h).2⟩
theorem deps_take : ∀ (n : Nat) (ds : List D), deps (ds.take n) <= deps ds
 | 0, _ => Nat.zero_le _
 | _ + 1, [] => Nat.zero_le _
 | n + 1, d :: ds => dm (Nat.le_max_left _ _) (Nat.le_trans (deps_take n ds) (Nat.le_max_right _ _))
theorem own_ok {t0 t1 t2 ow : Ty} {due : List D} (n : Nat) (h0 : hgt t0 <= 40) (h1 : hgt t1 <= 40) (h2 : hgt t2 <= 40) (h3 : hgt ow <= 40) (k1 : plains due = true) (k2 : deps due <= 52) : okDs (.tup [.str 30, .tup ([enc t0, enc t1, enc t2].take n), enc ow] :: due) = true := by
 have d {t : Ty} (h : hgt t <= 40) : dep (enc t) <= 80 := Nat.le_trans (dep_enc t) (Nat.mul_le_mul_left 2 h)
 have p : plains [enc t0, enc t1, enc t2] = true := (Bool.and_eq_true _ _).mpr ⟨plain_enc t0, (Bool.and_eq_true _ _).mpr ⟨plain_enc t1, pl1 (plain_enc t2)⟩⟩
 refine okDs_of ((Bool.and_eq_true _ _).mpr ⟨(Bool.and_eq_true _ _).mpr ⟨plains_take n p, pl1 (plain_enc ow)⟩, k1⟩) (dm ?_ (Nat.le_trans k2 (by decide)))
 have q : deps ([enc t0, enc t1, enc t2].take n) <= 80 := Nat.le_trans (deps_take n _) (dm (d h0) (dm (d h1) (dz' (d h2))))
 exact Nat.le_trans (Nat.succ_le_succ (dz (dm (Nat.succ_le_succ q) (dz' (Nat.le_trans (d h3) (by decide)))))) (by decide : 81 + 1 <= 100)
section
variable {C : Calls} {n m : Nat} {ps : List Par} {pd sg o : D} {T es due : List D} {ks : List Nat} {vs : List D} {nm tt : LV} {σ1 σ2 σ3 σ4 : Sg}
noncomputable def raL (n : Nat) (pd sg o : D) (T : List D) (tb nm du nu tt : LV) : Loc := arL n pd (.val sg) (.val (.tup T)) (.val o) tb nm du nu tt
theorem ar_1 {X0 : Option (Out × Loc × Sg)} (e1 : X0 = xs C sxD (m + 99) (arL n pd .un .un .un .un .un .un .un .un) σ1 (b_l_asked_right.drop 1)) (hsig : C 19 [pd] σ1 = some (sg, σ1)) (d1 : evc (ev C 12) [(27, .val .src)] (.call 14 [.var 27, .cst (.int 1)]) [37] none σ1 [.int 0, .int 1, .int 2] = some (T, σ2)) (hT : T.length ≤ maxLen)
  (d2 : C 14 [.src, .int 1] σ2 = some (o, σ3)) (d3 : fors (λl σ => xs C sxD (m + 96) l σ tabBody) [17] [.str 35, .str 36, .str 37, .str 38] (raL n pd sg o T (.od [] []) .un .un .un .un) σ3 = some (.next, raL n pd sg o T (.od [35, 36, 37, 38] es) (.val (.str 38)) .un .un .un, σ4))
  (e6 : sxD 2 (raL n pd sg o T (.val (.dict [35, 36, 37, 38] es)) (.val (.str 38)) .un .un .un) σ4 = some (raL n pd sg o T (.val (.dict [35, 36, 37, 38] es)) (.val (.str 38)) (.val (.list due)) .un .un, σ4)) :
  X0 = xs C sxD (m + 94) (raL n pd sg o T (.val (.dict [35, 36, 37, 38] es)) (.val (.str 38)) (.val (.list due)) .un .un) σ4 (b_l_asked_right.drop 6) :=
 e1.trans ((xs_asg2v (C := C) (sx := sxD) (n := m + 98) (x := 22) (y := 14) (rest := b_l_asked_right.drop 2) ((ev_call (n := 13) (l := arL n pd .un .un .un .un .un .un .un .un) (xs := [.var 39]) (ds := [pd]) (σ₁ := σ1) rfl).trans hsig) (ev_tuple (n := 13) (d := .list T) (ev_comp (n := 12) (elt := .call 14 [.var 27, .cst (.int 1)]) (ts := [37]) (fre := [27]) (cond := none) (d := .rng 3) (σ₁ := σ1) (ds := [.int 0, .int 1, .int 2]) rfl rfl (by decide) rfl d1) rfl hT) rfl rfl).trans
  ((xs_asg2d (C := C) (sx := sxD) (n := m + 97) (x := 38) (y := 3) (l := arL n pd (.val sg) (.val (.tup T)) .un .un .un .un .un .un) (rest := b_l_asked_right.drop 3) ((ev_call (n := 13) (xs := [.var 27, .cst (.int 1)]) (ds := [.src, .int 1]) (σ₁ := σ2) rfl).trans d2) rfl rfl).trans
  ((xs_fore (C := C) (sx := sxD) (n := m + 96) (ts := [17]) (b := tabBody) (rest := b_l_asked_right.drop 4) (σ₁ := σ3) (e := .lst [.cst (.str 35), .cst (.str 36), .cst (.str 37), .cst (.str 38)]) (dv := .list [.str 35, .str 36, .str 37, .str 38]) rfl rfl (by decide) d3).trans
  ((xs_frz_d (C := C) (sx := sxD) (n := m + 95) (y := 3) (rest := b_l_asked_right.drop 5) rfl).trans (xs_sx (C := C) (n := m + 94) (j := 2) (rest := b_l_asked_right.drop 6) e6)))))
theorem ar_2 {l : Loc} (hl : l = raL n pd sg o T (.val (.dict [35, 36, 37, 38] es)) (.val (.str 38)) (.val (.list due)) .un .un) (hT : T.length ≤ 100) (hn : n ≤ 2) (hfn : C 9 [worldD, .tup [.str 27, .str 28, .tup T], sg, .dict [35, 36, 37, 38] es] σ4 = some (.list due, σ4)) (hme : C 9 [worldD, .tup [.str 26, .str 30, .str 29, o, .tup T], sg, .dict [35, 36, 37, 38] es] σ4 = some (.list (.tup [.str 30, .tup (T.take n), o] :: due), σ4))
  (kd : okDs due = true) (kd2 : okDs (.tup [.str 30, .tup (T.take n), o] :: due) = true) (hdl : 1 + due.length <= maxLen) :
  xs C sxD (m + 94) l σ4 (b_l_asked_right.drop 6) = xs C sxD (m + 91) (raL n pd sg o T (.val (.dict [35, 36, 37, 38] es)) (.val (.str 38)) (.val (.list due)) (.od [] []) .un) σ4 (b_l_asked_right.drop 9) := by
 subst hl
 exact (xs_ife_n (C := C) (sx := sxD) (n := m + 93) (c := false) (a := [.ret (.cst (.bool false))]) (b := []) (rest := b_l_asked_right.drop 7) (ev_ne_same (n := 13) (ev_call (n := 12) (xs := [.var 12, .tup [.cst (.str 27), .cst (.str 28), .var 14], .var 22, .var 3]) (ds := [worldD, .tup [.str 27, .str 28, .tup T], sg, .dict [35, 36, 37, 38] es]) (σ₁ := σ4) rfl |>.trans hfn) (σ₂ := σ4) (b := .var 35) rfl kd) (xs_nil (n := m + 92))).trans
  (xs_ife_n (C := C) (sx := sxD) (n := m + 92) (c := false) (a := [.ret (.cst (.bool false))]) (b := []) (rest := b_l_asked_right.drop 8) (ev_ne_same (n := 13) (ev_call (n := 12) (xs := [.var 12, .tup [.cst (.str 26), .cst (.str 30), .cst (.str 29), .var 38, .var 14], .var 22, .var 3]) (ds := [worldD, .tup [.str 26, .str 30, .str 29, o, .tup T], sg, .dict [35, 36, 37, 38] es]) (σ₁ := σ4) rfl |>.trans hme)
   (ev_addl (n := 12) (xs := [.tup [.str 30, .tup (T.take n), o]]) (a := .lst [.tup [.cst (.str 30), .upto (.var 14) (.var 19), .var 38]]) (σ₁ := σ4) (bindS (evs_cons (ev_tup (n := 10) (evs_cons (d := .str 30) (σ₁ := σ4) rfl (evs_cons (ev_upto_t (n := 9) (ds := T) (i := n) (σ₁ := σ4) (σ₂ := σ4) rfl rfl ⟨Nat.le_trans hn (by decide), hT⟩) (evs_cons (d := o) (σ₁ := σ4) rfl evs_nil))) (show 3 <= 100 by decide)) evs_nil) rfl) (b := .var 35) (σ₂ := σ4) rfl hdl) kd2) (xs_nil (n := m + 91)))
theorem ar_3 (f1 : fors (fun l σ => xs C sxD (m + 90) l σ numBody) [17, 23] (ps.map pD) (raL n (.list (ps.map pD)) sg o T (.val (.dict [35, 36, 37, 38] es)) (.val (.str 38)) (.val (.list due)) (.od [] []) .un) σ4 = some (.next, raL n (.list (ps.map pD)) sg o T (.val (.dict [35, 36, 37, 38] es)) nm (.val (.list due)) (.od ks vs) tt, σ4)) (hpl : (ps.map pD).length ≤ maxLen)
  (hrg : C 10 [sg] σ4 = some (.dict ks vs, σ4)) (hrn : C 10 [.none] σ4 = some (.dict [] [], σ4)) (y3 : cmpD .Eq (.dict ks vs) (.dict ks vs) = some true) :
  (xs C sxD (m + 91) (raL n (.list (ps.map pD)) sg o T (.val (.dict [35, 36, 37, 38] es)) (.val (.str 38)) (.val (.list due)) (.od [] []) .un) σ4 (b_l_asked_right.drop 9)).map outS = some (.ret (.bool true), σ4) :=
 congrArg (Option.map outS) ((xs_fore (C := C) (sx := sxD) (n := m + 90) (ts := [17, 23]) (b := numBody) (rest := b_l_asked_right.drop 10) (σ₁ := σ4) (e := .var 39) (dv := .list (ps.map pD)) rfl rfl hpl f1).trans
  ((xs_frz_d (C := C) (sx := sxD) (n := m + 89) (y := 40) (rest := b_l_asked_right.drop 11) rfl).trans
  (xs_ret (C := C) (sx := sxD) (n := m + 88) (rest := []) ((ev_and_t (n := 13) (ev_cmp (n := 12) (a := .call 10 [.var 22]) (ev_call (n := 11) (ds := [sg]) (σ₁ := σ4) rfl |>.trans hrg) (σ₂ := σ4) (b := .var 40) rfl y3)).trans (ev_cmp (n := 12) (a := .call 10 [.cst .none]) (ev_call (n := 11) (ds := [.none]) (σ₁ := σ4) rfl |>.trans hrn) (σ₂ := σ4) (b := .emp) (e := .dict [] []) rfl rfl)))))
end
theorem same_to {σ τ : Sg} (h : Same σ τ) : τ = ⟨τ.src, σ.ad, σ.tr, σ.ac⟩ := by
 obtain ⟨h1, h2, h3⟩ := h
 rw [<- h1, <- h2, <- h3]
theorem hj_ok {ps : List Par} (hnm : ∀ p ∈ ps, p.1 = 35 \/ p.1 = 36 \/ p.1 = 37) {j : Nat} (hj : j ∈ names ps) : j < 39 :=
 have ⟨p, hp, e⟩ := List.mem_map.mp hj
 e ▸ (hnm p hp).elim (λh => h ▸ by decide) λh => h.elim (λh => h ▸ by decide) λh => h ▸ by decide
theorem asked_right_run (k : Nat) {n : Nat} (hn : n = 0 ∨ n = 1 ∨ n = 2) {ps : List Par} {a : Option (List D)} {b : Option (List Nat × List D)} {q : List Nat × List D} (hs : SrcOk ⟨a, b, some q, none⟩) (hq : q = ([], []) ∨ ∃ d0, q = ([30], [d0]))
  (hnm : ∀ p ∈ ps, p.1 = 35 \/ p.1 = 36 \/ p.1 = 37) (nd : (names ps).Nodup) (hpl : ps.length <= 100) (hsl : (ps.map λp => p.2.length).sum <= 1000) :
  ∃ a', run (k + 6) 20 [.src, worldD, .int (n : Int), .list (ps.map pD)] ⟨a, b, some q, none⟩ = some (.bool true, ⟨a', b, some ([30], [trD n]), none⟩) /\ SrcOk ⟨a', b, some ([30], [trD n]), none⟩ := by
 have hn2 : n <= 2 := by lia
 have hC := draws_run k
 refine ar_types (σ := ⟨a, b, some ([30], [trD n]), none⟩) hC hs λt0 t1 t2 σ2 d1 g0 g1 g2 s2 q2 => (hC _ s2).elim λow h => h.elim λσ3 H3 => ?_
 refine ar_table (C := run (k + 5)) (n := n) (pd := .list (ps.map pD)) (sg := .val (sigD ps)) (ty := .val (.tup [enc t0, enc t1, enc t2])) (ow := .val (enc ow)) (du := .un) (nu := .un) (tt := .un) hC H3.s λta tb tc td σ4 d3 ga gb gc s4 q4 => ?_
 have qs : Same _ σ4 := q2.trans (H3.q.trans q4)
 have hT : σ4 = ⟨σ4.src, b, some ([30], [trD n]), none⟩ := same_to qs
 have hk : ∀ p ∈ ps, p.1 ≠ 36 -> lookD [35, 36, 37, 38] [enc ta, enc tb, enc tc, enc td] p.1 = some (tabF ta tb tc p.1) := λp hp _ => tab_look (hnm p hp)
 have kk := due_ok2 (f := tabF ta tb tc) ps λp _ _ => tab_ok ga gb gc
 have kl := Nat.le_trans (dueOf_len (f := tabF ta tb tc) ps) hsl
 refine ⟨σ4.src, (run20 _ _ _).trans ((fnRun_of rfl (λm => ?_) (show (none : Option (List D)).isSome = σ4.ac.isSome from (congrArg Option.isSome qs.2.2).symm)).trans (congrArg (λs => some (D.bool true, s)) hT)), s4⟩
 refine Exists.elim (ar_nums (C := run (k + 5)) (n := n) (pd := .list (ps.map pD)) (sg := .val (sigD ps)) (ty := .val (.tup [enc t0, enc t1, enc t2])) (ow := .val (enc ow)) (tb := .val (.dict [35, 36, 37, 38] [enc ta, enc tb, enc tc, enc td])) (du := .val (.list (dueOf (tabF ta tb tc) ps))) (σ := σ4) (m := m + 88) (sx := sxD) ps [] [] (.val (.str 38)) .un rfl rfl nd (Nat.zero_add _ ▸ hpl)) λnm' h => h.elim λtt' f1 => ?_
 have A := ar_1 (m := m) (ar_setw (sx := sxD) (m := m + 99) (rest := b_l_asked_right.drop 1) hn (λx y z w σ => cls_run (k + 2) 24 (by decide) _ _) hq) (sig_run (k + 1)) d1 (show 3 <= maxLen by decide) H3.h (d3 (m + 94) sxD) (sxD_run rfl hk hpl hsl)
 have B := ar_2 (C := run (k + 5)) (m := m) (n := n) (pd := .list (ps.map pD)) (T := [enc t0, enc t1, enc t2]) (σ4 := σ4) rfl (show 3 <= 100 by decide) hn2 (asked_fn_run (k + 4) hk hsl hpl) (by rw [hT]; exact asked_method_run (k + 4) hk hsl hpl hn) (okDs_of kk.1 (Nat.le_trans kk.2 (by decide))) (own_ok n (Nat.le_trans g0 (by decide)) (Nat.le_trans g1 (by decide)) (Nat.le_trans g2 (by decide)) (Nat.le_trans H3.g (by decide)) kk.1 kk.2) (Nat.le_trans (Nat.add_le_add_left kl 1) (by decide))
 exact (congrArg (Option.map outS) (A.trans B)).trans (ar_3 (m := m) f1 (by rw [List.length_map]; exact Nat.le_trans hpl (by decide)) (regions_of_run (k + 3) hpl nd λj hj => hj_ok hnm hj) (regions_none_run (k + 4)) (if_pos ⟨rfl, hasInts_of _ _ _ (List.length_map _) (look_nums _ _ _ nd (List.length_map _))⟩))
theorem ev_b2i {C : Calls} {n : Nat} {l : Loc} {σ σ₁ : Sg} {e : X} {b : Bool} (h : ev C n l σ e = some (.bool b, σ₁)) : ev C (n + 1) l σ (.b2i e) = some (.int (if b then 1 else 0), σ₁) := bindS h rfl
theorem run26 (k : Nat) (ds : List D) (σ : Sg) : run (k + 1) 26 ds σ = fnRun (run k) (λ_ _ _ => none) ps_l_world ns_l_world b_l_world ds σ := run_fn (f := 26) (by decide) (by decide)
theorem run25 (k : Nat) (ds : List D) (σ : Sg) : run (k + 1) 25 ds σ = fnRun (run k) (λ_ _ _ => none) ps_l_pool ns_l_pool b_l_pool ds σ := run_fn (f := 25) (by decide) (by decide)
noncomputable def woL (a b c d e : LV) : Loc := [(45, a), (12, b), (46, c), (47, d), (38, e)]
theorem world_run (k : Nat) {a : Option (List D)} : run (k + 4) 26 [] ⟨a, none, none, none⟩ = some (worldD, ⟨a, some wAd, some ([], []), none⟩) := by
 have h21 : run (k + 3) 21 [.none] ⟨a, none, none, none⟩ = some (worldD, ⟨a, some ([], []), some ([], []), none⟩) := cls_run k 21 (by decide) _ _
 have h22 : ∀ x b c d y σ, run (k + 3) 22 [x, b, c, d, y] σ = some (.inst 138 [3, 2, 4] [b, c, d], σ) := λx b c d y σ => cls_run k 22 (by decide) _ _
 rw [run26]
 generalize run (k + 3) = C at h21 h22
 refine fnRun_of rfl (λm => ?_) rfl
 let sx : Sx := λ_ _ _ => none
 let pT : D := .tup [.str 1, .str 7]
 let σ0 : Sg := ⟨a, none, none, none⟩
 let σ1 : Sg := ⟨a, some ([], []), some ([], []), none⟩
 have e1 := xs_asg2v (C := C) (sx := sx) (n := m + 99) (x := 45) (y := 12) (l := woL .un .un .un .un .un) (σ := σ0) (σ₁ := σ0) (σ₂ := σ1) (rest := b_l_world.drop 1) (e := .tup [.cst (.str 1), .cst (.str 7)]) (t := .call 21 [.cst .none]) (d1 := pT) (d2 := worldD) rfl ((ev_call (n := 13) (ds := [.none]) (σ₁ := σ0) rfl).trans h21) rfl rfl
 have e2 : xs C sx (m + 99) (woL (.val pT) (.val worldD) .un .un .un) σ1 (b_l_world.drop 1) = xs C sx (m + 98) (woL (.val pT) (.val worldD) (.val (.list (fdS.map fldD))) .un .un) σ1 (b_l_world.drop 2) := rfl
 have c3 : ev C evN (woL (.val pT) (.val worldD) (.val (.list (fdS.map fldD))) .un .un) σ1 (.call 22 [.cst (.str 14), .tup [.cst (.str 12)], .tup [.cst (.str 7)], .lst [.tup [.cst (.str 14), .cst (.str 23), .var 46]], .cst (.bool false)]) = some (adtD [12] [7] vS, σ1) := (ev_call (n := 13) (ds := [.str 14, .tup [.str 12], .tup [.str 7], .list (vS.map varD), .bool false]) (σ₁ := σ1) rfl).trans (h22 _ _ _ _ _ _)
 let σ3 : Sg := ⟨a, some ([14], [adtD [12] [7] vS]), some ([], []), none⟩
 have e3 := xs_setw_a (C := C) (sx := sx) (n := m + 97) (o := .attr (.var 12) 0) (k := .cst (.str 14)) (j := 14) (ks := []) (ds := []) (rest := b_l_world.drop 3) c3 (σ₂ := σ1) rfl (σ₃ := σ1) rfl rfl ⟨by decide, rfl⟩
 have e4 : xs C sx (m + 97) (woL (.val pT) (.val worldD) (.val (.list (fdS.map fldD))) .un .un) σ3 (b_l_world.drop 3) = xs C sx (m + 96) (woL (.val pT) (.val worldD) (.val (.list (fdS.map fldD))) (.val (enc (.ref 12 true (.ref 13 false (.pair (.par 7) .bool))))) .un) σ3 (b_l_world.drop 4) := rfl
 have c5 : ev C evN (woL (.val pT) (.val worldD) (.val (.list (fdS.map fldD))) (.val (enc (.ref 12 true (.ref 13 false (.pair (.par 7) .bool))))) .un) σ3 (.call 22 [.cst (.str 15), .tup [.cst (.str 12), .cst (.str 13)], .tup [.cst (.str 7)], .lst [.tup [.cst (.str 17), .cst (.str 24), .lst []], .tup [.cst (.str 18), .cst (.str 25), .lst [.tup [.cst (.str 21), .var 47], .tup [.cst (.str 22), .var 45]]]], .cst (.bool true)]) = some (adtD [12, 13] [7] vE, σ3) := (ev_call (n := 13) (ds := [.str 15, .tup [.str 12, .str 13], .tup [.str 7], .list (vE.map varD), .bool true]) (σ₁ := σ3) rfl).trans (h22 _ _ _ _ _ _)
 let σ5 : Sg := ⟨a, some ([14, 15], [adtD [12] [7] vS, adtD [12, 13] [7] vE]), some ([], []), none⟩
 have e5 := xs_setw_a (C := C) (sx := sx) (n := m + 95) (o := .attr (.var 12) 0) (k := .cst (.str 15)) (j := 15) (ks := [14]) (ds := [adtD [12] [7] vS]) (rest := b_l_world.drop 5) c5 (σ₂ := σ3) rfl (σ₃ := σ3) rfl rfl ⟨by simp, rfl⟩
 have e6 : xs C sx (m + 95) (woL (.val pT) (.val worldD) (.val (.list (fdS.map fldD))) (.val (enc (.ref 12 true (.ref 13 false (.pair (.par 7) .bool))))) .un) σ5 (b_l_world.drop 5) = xs C sx (m + 94) (woL (.val pT) (.val worldD) (.val (.list (fdS.map fldD))) (.val (enc (.ref 12 true (.ref 13 false (.pair (.par 7) .bool))))) (.val (enc (.L (.par 7))))) σ5 (b_l_world.drop 6) := rfl
 have c7 : ev C evN (woL (.val pT) (.val worldD) (.val (.list (fdS.map fldD))) (.val (enc (.ref 12 true (.ref 13 false (.pair (.par 7) .bool))))) (.val (enc (.L (.par 7))))) σ5 (.call 22 [.cst (.str 16), .tup [], .tup [.cst (.str 7)], .lst [.tup [.cst (.str 16), .cst (.str 23), .lst [.tup [.cst (.str 19), .var 45], .tup [.cst (.str 20), .tup [.cst (.str 3), .var 38]]]]], .cst (.bool false)]) = some (adtD [] [7] vL', σ5) := (ev_call (n := 13) (ds := [.str 16, .tup [], .tup [.str 7], .list (vL'.map varD), .bool false]) (σ₁ := σ5) rfl).trans (h22 _ _ _ _ _ _)
 let σ7 : Sg := ⟨a, some wAd, some ([], []), none⟩
 have e7 := xs_setw_a (C := C) (sx := sx) (n := m + 93) (o := .attr (.var 12) 0) (k := .cst (.str 16)) (j := 16) (ks := [14, 15]) (ds := [adtD [12] [7] vS, adtD [12, 13] [7] vE]) (rest := b_l_world.drop 7) c7 (σ₂ := σ5) rfl (σ₃ := σ5) rfl rfl ⟨by simp, rfl⟩
 have e8 : xs C sx (m + 93) (woL (.val pT) (.val worldD) (.val (.list (fdS.map fldD))) (.val (enc (.ref 12 true (.ref 13 false (.pair (.par 7) .bool))))) (.val (enc (.L (.par 7))))) σ7 (b_l_world.drop 7) = some (.ret worldD, woL (.val pT) (.val worldD) (.val (.list (fdS.map fldD))) (.val (enc (.ref 12 true (.ref 13 false (.pair (.par 7) .bool))))) (.val (enc (.L (.par 7)))), σ7) := rfl
 exact congrArg (Option.map outS) (e1.trans (e2.trans (e3.trans (e4.trans (e5.trans (e6.trans (e7.trans e8)))))))
noncomputable def poL (p a b : LV) : Loc := [(42, p), (43, a), (44, b)]
theorem binD_mod {a b : Int} (h : b ≠ 0) : binD .Mod a b = some (a.fmod b) := if_pos h
theorem binD_mul {a b : Int} (h : b.natAbs < 2 ^ 64) : binD .Mult a b = some (a * b) := if_pos h
theorem pool_run (k : Nat) {ns : List Int} : ∃ x y : Int, run (k + 1) 25 [.list (ns.map .int)] ⟨none, none, none, none⟩ = some (.src, ⟨some [.int x, .int y], none, none, none⟩) /\ 0 <= y /\ y < 2147483648 := by
 rw [run25]
 generalize run k = C
 let σ0 : Sg := ⟨none, none, none, none⟩
 let sx : Sx := λ_ _ _ => none
 have ok0 : okDs (ns.map D.int) = true := by
  refine okDs_of ?_ (Nat.le_trans (m := 1) ?_ (by decide))
  ·induction ns with
   | nil => rfl
   | cons n ns ih => rw [List.map_cons, plains, ih]; rfl
  ·induction ns with
   | nil => exact Nat.zero_le _
   | cons n ns ih => rw [List.map_cons, deps, show dep (.int n) = 0 from rfl]; exact Nat.max_le.mpr ⟨Nat.zero_le _, ih⟩
 have h1 : ∃ i : Int, ev C evN (poL (.val (.list (ns.map .int))) .un .un) σ0 (.ite (.cmp .NotEq (.var 42) (.lst [])) (.idx (.var 42) (.cst (.int 0))) (.cst (.int 0))) = some (.int i, σ0) := by
  have hc : ev C 13 (poL (.val (.list (ns.map .int))) .un .un) σ0 (.cmp .NotEq (.var 42) (.lst [])) = some (.bool (!deqs (ns.map .int) []), σ0) := by
   refine ev_cmp (n := 12) (d := .list (ns.map .int)) (e := .list []) (σ₁ := σ0) rfl rfl ?_
   show (if okDs (ns.map .int) && okDs [] then some (!deqs (ns.map .int) []) else none) = _
   rw [ok0, show okDs [] = true from rfl]; rfl
  cases ns with
  | nil => exact ⟨0, (ev_ite_f (n := 13) hc).trans rfl⟩
  | cons i ns => exact ⟨i, (ev_ite_t (n := 13) hc).trans rfl⟩
 obtain ⟨i, h1⟩ := h1
 let g : Int := if -1 - i > i then -1 - i else i
 have h2 : ev C evN (poL (.val (.list (ns.map .int))) (.val (.int i)) .un) σ0 (.max2 (.var 43) (.bin .Sub (.neg (.cst (.int 1))) (.var 43))) = some (.int g, σ0) := rfl
 let l2 := poL (.val (.list (ns.map .int))) (.val (.int i)) (.val (.int g))
 let b : Int := if decide ((10 : Int) ^ 18 <= g) then 1 else 0
 let y : Int := ((g.fmod 2147483629 + 17) * 48271).fmod 2147483647
 have m1 : ev C 13 l2 σ0 (.bin .Mult (.var 44) (.b2i (.cmp .GtE (.var 44) (.bin .Pow (.cst (.int 10)) (.cst (.int 18)))))) = some (.int (g * b), σ0) := by
  have hp : ev C 10 l2 σ0 (.bin .Pow (.cst (.int 10)) (.cst (.int 18))) = some (.int ((10 : Int) ^ 18), σ0) := ev_bin (n := 9) (i := 10) (j := 18) (σ₁ := σ0) rfl rfl (by decide)
  have hq : ev C 11 l2 σ0 (.cmp .GtE (.var 44) (.bin .Pow (.cst (.int 10)) (.cst (.int 18)))) = some (.bool (decide ((10 : Int) ^ 18 <= g)), σ0) := ev_cmp (n := 10) (d := .int g) (σ₁ := σ0) rfl hp rfl
  have hb : ev C 12 l2 σ0 (.b2i (.cmp .GtE (.var 44) (.bin .Pow (.cst (.int 10)) (.cst (.int 18))))) = some (.int b, σ0) := ev_b2i (n := 11) hq
  refine ev_bin (n := 12) (i := g) (j := b) (σ₁ := σ0) rfl hb ?_
  refine if_pos ?_
  show (if decide ((10 : Int) ^ 18 <= g) = true then (1 : Int) else 0).natAbs < 2 ^ 64
  split <;> decide
 have m2 : ev C 13 l2 σ0 (.bin .Mod (.bin .Mult (.bin .Add (.bin .Mod (.var 44) (.cst (.int 2147483629))) (.cst (.int 17))) (.cst (.int 48271))) (.cst (.int 2147483647))) = some (.int y, σ0) := by
  have q1 : ev C 10 l2 σ0 (.bin .Mod (.var 44) (.cst (.int 2147483629))) = some (.int (g.fmod 2147483629), σ0) := ev_bin (n := 9) (i := g) (j := 2147483629) (σ₁ := σ0) rfl rfl (binD_mod (by decide))
  have q2 : ev C 11 l2 σ0 (.bin .Add (.bin .Mod (.var 44) (.cst (.int 2147483629))) (.cst (.int 17))) = some (.int (g.fmod 2147483629 + 17), σ0) := ev_bin (n := 10) (j := 17) q1 (σ₂ := σ0) rfl rfl
  have q3 : ev C 12 l2 σ0 (.bin .Mult (.bin .Add (.bin .Mod (.var 44) (.cst (.int 2147483629))) (.cst (.int 17))) (.cst (.int 48271))) = some (.int ((g.fmod 2147483629 + 17) * 48271), σ0) := ev_bin (n := 11) (j := 48271) q2 (σ₂ := σ0) rfl (binD_mul (by decide))
  exact ev_bin (n := 12) (j := 2147483647) q3 (σ₂ := σ0) rfl (binD_mod (by decide))
 have m3 : ev C evN l2 σ0 (.srcl [.bin .Mult (.var 44) (.b2i (.cmp .GtE (.var 44) (.bin .Pow (.cst (.int 10)) (.cst (.int 18))))), .bin .Mod (.bin .Mult (.bin .Add (.bin .Mod (.var 44) (.cst (.int 2147483629))) (.cst (.int 17))) (.cst (.int 48271))) (.cst (.int 2147483647))]) = some (.src, ⟨some [.int (g * b), .int y], none, none, none⟩) := by
  have hv : evs (ev C 13 l2) σ0 [.bin .Mult (.var 44) (.b2i (.cmp .GtE (.var 44) (.bin .Pow (.cst (.int 10)) (.cst (.int 18))))), .bin .Mod (.bin .Mult (.bin .Add (.bin .Mod (.var 44) (.cst (.int 2147483629))) (.cst (.int 17))) (.cst (.int 48271))) (.cst (.int 2147483647))] = some ([.int (g * b), .int y], σ0) := evs_cons m1 (evs_cons m2 evs_nil)
  have e : ∀ es, ev C evN l2 σ0 (.srcl es) = (evs (ev C 13 l2) σ0 es).bind λp => if p.1.length <= 100 /\ p.2.src.isNone = true then some (.src, { p.2 with src := some p.1 }) else none := λes => rfl
  rw [e, hv, Option.bind_some]
  exact if_pos ⟨by simp, rfl⟩
 have hy := fmod_lt (a := (g.fmod 2147483629 + 17) * 48271) (b := 2147483647) (by decide)
 refine ⟨g * b, y, fnRun_of rfl (λm => ?_) rfl, hy.1, Int.lt_trans hy.2 (by decide)⟩
 have e1 := xs_asg (C := C) (sx := sx) (n := m + 99) (x := 43) (rest := b_l_pool.drop 1) h1 rfl
 have e2 := xs_asg (C := C) (sx := sx) (n := m + 98) (x := 44) (rest := b_l_pool.drop 2) h2 rfl
 have e3 := xs_ret (C := C) (sx := sx) (n := m + 97) (rest := []) m3
 exact congrArg (Option.map outS) (e1.trans (e2.trans e3))
section
variable {C : Calls} {sx : Sx} {n : Nat} {l l' : Loc} {σ σ₁ σ₂ σ₃ : Sg} {x y f : Nat} {e t o k a b : X} {d d1 d2 : D} {rest : List S}
theorem ev_not_t (h : ev C n l σ e = some (.bool true, σ₁)) : ev C (n + 1) l σ (.not e) = some (.bool false, σ₁) := bindS h rfl
theorem xs_asgc (h : ev C evN l σ e = some (d, σ₁)) (hx : hasL l x = true) : xs C sx (n + 1) l σ (.asgc x e :: rest) = xs C sx n (setL l x (.val d)) σ₁ rest := ifS hx (bindS h rfl)
end
structure TkR (C : Calls) (top : Nat) (σ : Sg) (i : Nat) (σ' : Sg) : Prop where
 h : C 11 [.src, .int (top : Int)] σ = some (.int (i : Int), σ')
 lt : i < top
 s : SrcOk σ'
 q : Same σ σ'
theorem take_R {top : Nat} (ht : (top : Int) = 2 \/ (top : Int) = 3 \/ (top : Int) = 4 \/ (top : Int) = 9) (k : Nat) {σ : Sg} (hs : SrcOk σ) : ∃ i σ', TkR (run (k + 1)) top σ i σ' :=
 (take_run ht k hs).elim λr h => h.elim λσ' h => ⟨r.toNat, σ', by rw [Int.toNat_of_nonneg h.2.1]; exact h.1, (Int.toNat_lt h.2.1).mpr h.2.2.1, h.2.2.2.1, h.2.2.2.2⟩
structure PaR (C : Calls) (js : List Nat) (σ : Sg) (ps : List Par) (σ' : Sg) : Prop where
 h : evc (ev C 13) [(27, .val .src)] (.tup [.var 17, .upto (.tup [.cst (.str 31), .cst (.str 32)]) (.call 11 [.var 27, .cst (.int 3)])]) [17] none σ (js.map .str) = some (ps.map pD, σ')
 n : names ps = js
 l : ∀ p ∈ ps, p.2.length <= 2
 s : SrcOk σ'
 q : Same σ σ'
theorem pars_run {C : Calls} (hT : ∀ σ, SrcOk σ -> ∃ i σ', TkR C 3 σ i σ') : ∀ (js : List Nat) {σ : Sg}, SrcOk σ -> ∃ ps σ', PaR C js σ ps σ'
 | [], σ, hs => ⟨[], σ, rfl, rfl, List.forall_mem_nil _, hs, Same.refl σ⟩
 | j :: js, σ, hs => (hT σ hs).elim λi h => h.elim λσ1 H => (pars_run hT js H.s).elim λps h => h.elim λσ2 P =>
  ⟨(j, [31, 32].take i) :: ps, σ2, evc_cons (b := [(17, .val (.str j))]) (r := pD (j, [31, 32].take i)) rfl (ev_tup (n := 12) (evs_cons (d := .str j) (σ₁ := σ) rfl (evs_cons (d := .tup (([31, 32].take i).map .str)) (σ₁ := σ1) (by
   rw [List.map_take]
   exact ev_upto_t (n := 11) (ds := [.str 31, .str 32]) (σ₁ := σ) rfl ((ev_call (n := 10) (ds := [.src, .int 3]) (σ₁ := σ) rfl).trans H.h) ⟨Nat.le_of_lt (Nat.lt_trans H.lt (by decide)), by decide⟩) evs_nil)) (show 2 <= 100 by decide)) P.h,
   congrArg (j :: ·) P.n, List.forall_mem_cons.mpr ⟨by rw [List.length_take]; exact Nat.min_le_right _ _, P.l⟩, P.s, H.q.trans P.q⟩
theorem sgok_of {a : Option (List D)} {n : Nat} {b c : Option (List Nat × List D)} (hs : SrcOk ⟨a, b, c, none⟩) (hn : n = 0 \/ n = 1 \/ n = 2) : sgOk ⟨a, some wAd, some ([30], [trD n]), none⟩ = true := by
 obtain ⟨x, y, e, -, -⟩ := hs
 simp only at e
 subst e
 rcases hn with rfl | rfl | rfl <;> rfl
theorem sum_le {α : Type} {f : α -> Nat} {b : Nat} : ∀ (l : List α), (∀ x ∈ l, f x <= b) -> (l.map f).sum <= b * l.length
 | [], _ => Nat.zero_le _
 | a :: l, h => Nat.le_trans (Nat.add_le_add (h a (.head _)) (sum_le l λx hx => h x (.tail _ hx))) (Nat.le_of_eq (Nat.add_comm b (b * l.length)))
noncomputable def lwL (ns : List Int) (s w p : LV) : Loc := [(42, .val (.list (ns.map .int))), (27, s), (12, w), (39, p)]
def lawTrue (C : Calls) (ns : List Int) : Prop := ∃ (l' : Loc) (σ' : Sg), σ'.ac = none /\ ∀ m, xs C (λ_ _ _ => none) (m + 100) (lwL ns .un .un .un) ⟨none, none, none, none⟩ b_law = some (.ret (.bool true), l', σ')
structure LSt (σ : Sg) (n : Nat) : Prop where
 s : SrcOk σ
 ad : σ.ad = some wAd
 tr : σ.tr = some ([30], [trD n])
 ac : σ.ac = none
theorem LSt.keep {σ σ' : Sg} {n : Nat} (h : LSt σ n) (s : SrcOk σ') (q : Same σ σ') : LSt σ' n := ⟨s, q.1.trans h.ad, q.2.1.trans h.tr, q.2.2.trans h.ac⟩
theorem LSt.go {P : Sg -> Prop} {σ : Sg} {n : Nat} (h : LSt σ n) (k : SrcOk ⟨σ.src, some wAd, some ([30], [trD n]), none⟩ -> P ⟨σ.src, some wAd, some ([30], [trD n]), none⟩) : P σ :=
 have e : (⟨σ.src, some wAd, some ([30], [trD n]), none⟩ : Sg) = σ := by rw [<- h.ad, <- h.tr, <- h.ac]
 e ▸ k h.s
theorem ir_next {k n : Nat} {σ : Sg} {t : Ty} (hk : 60 <= k) (h : LSt σ n) (hn : n = 0 \/ n = 1 \/ n = 2) (hh : hgt t <= 6) : run (k + 5) 18 [worldD, enc t] σ = some (.bool true, σ) :=
 h.go (P := λσ => run (k + 5) 18 [worldD, enc t] σ = some (.bool true, σ)) λs => implied_right_run k hk (sgok_of s hn) hh
section
variable {C : Calls} {ns : List Int} {ps : List Par} {m i n : Nat} {t : Ty} {σa σb σ1 σ2 σ3 σ4 : Sg}
abbrev nsx : Sx := λ_ _ _ => none
noncomputable def ps1 : List Par := [(36, [31]), (35, [31, 32])]
noncomputable def lW (ns : List Int) (p : LV) : Loc := lwL ns (.val .src) (.val worldD) p
theorem law_1 (h25 : C 25 [.list (ns.map .int)] ⟨none, none, none, none⟩ = some (.src, σa)) (h26 : C 26 [] σa = some (worldD, σb)) (h20 : C 20 [.src, worldD, .int 1, .list (ps1.map pD)] σb = some (.bool true, σ2)) :
  xs C nsx (m + 100) (lwL ns .un .un .un) ⟨none, none, none, none⟩ b_law = xs C nsx (m + 98) (lW ns .un) σ2 (b_law.drop 2) :=
 (xs_asg2v (n := m + 99) (x := 27) (y := 12) (l := lwL ns .un .un .un) (rest := b_law.drop 1) ((ev_call (n := 13) (xs := [.var 42]) (ds := [.list (ns.map .int)]) (σ₁ := ⟨none, none, none, none⟩) rfl).trans h25) ((ev_call (n := 13) (xs := []) (ds := []) (σ₁ := σa) rfl).trans h26) rfl rfl).trans
  (xs_ife_n (n := m + 98) (c := false) (a := [.ret (.cst (.bool false))]) (b := []) (rest := b_law.drop 2) (ev_not_t (n := 13) ((ev_call (n := 12) (l := lW ns .un) (xs := [.var 27, .var 12, .cst (.int 1), .lst [.tup [.cst (.str 36), .tup [.cst (.str 31)]], .tup [.cst (.str 35), .tup [.cst (.str 31), .cst (.str 32)]]]]) (ds := [.src, worldD, .int 1, .list (ps1.map pD)]) (σ₁ := σb) rfl).trans h20)) (xs_nil (n := m + 97)))
theorem law_2 (h : TkR C 4 σ2 i σ3) (c4 : PaR C ([35, 36, 37].take i) σ3 ps σ4) : xs C nsx (m + 98) (lW ns .un) σ2 (b_law.drop 2) = xs C nsx (m + 97) (lW ns (.val (.list (ps.map pD)))) σ4 (b_law.drop 3) :=
 xs_asgc (n := m + 97) (x := 39) (rest := b_law.drop 3) (ev_comp (n := 13) (l := lW ns .un) (elt := .tup [.var 17, .upto (.tup [.cst (.str 31), .cst (.str 32)]) (.call 11 [.var 27, .cst (.int 3)])]) (ts := [17]) (fre := [27]) (cond := none) (src := .upto (.lst [.cst (.str 35), .cst (.str 36), .cst (.str 37)]) (.call 11 [.var 27, .cst (.int 4)])) (d := .list (([35, 36, 37].take i).map .str)) (by
  rw [List.map_take]
  exact ev_upto_l (n := 12) (ds := [.str 35, .str 36, .str 37]) (σ₁ := σ2) rfl ((ev_call (n := 11) (ds := [.src, .int 4]) (σ₁ := σ2) rfl).trans h.h) ⟨Nat.le_of_lt (Nat.lt_trans h.lt (by decide)), by decide⟩) rfl (by rw [List.length_map, List.length_take]; exact Nat.le_trans (Nat.min_le_right _ _) (by decide)) rfl c4.h) rfl
theorem law_3 (h : TkR C 3 σ2 n σ3) (h20 : C 20 [.src, worldD, .int (n : Int), .list (ps.map pD)] σ3 = some (.bool true, σ4)) : xs C nsx (m + 97) (lW ns (.val (.list (ps.map pD)))) σ2 (b_law.drop 3) = xs C nsx (m + 96) (lW ns (.val (.list (ps.map pD)))) σ4 (b_law.drop 4) :=
 xs_ife_n (n := m + 96) (c := false) (a := [.ret (.cst (.bool false))]) (b := []) (rest := b_law.drop 4) (ev_not_t (n := 13) ((ev_call (n := 12) (xs := [.var 27, .var 12, .call 11 [.var 27, .cst (.int 3)], .var 39]) (ds := [.src, worldD, .int (n : Int), .list (ps.map pD)]) (σ₁ := σ3) (evs_cons (d := .src) (σ₁ := σ2) rfl (evs_cons (d := worldD) (σ₁ := σ2) rfl (evs_cons ((ev_call (n := 11) (ds := [.src, .int 3]) (σ₁ := σ2) rfl).trans h.h) (evs_cons (d := .list (ps.map pD)) (σ₁ := σ3) rfl evs_nil))))).trans h20)) (xs_nil (n := m + 95))
theorem law_4 (h : C 14 [.src, .int 3] σ2 = some (enc t, σ3)) (h18 : C 18 [worldD, enc t] σ3 = some (.bool true, σ3)) : xs C nsx (m + 96) (lW ns (.val (.list (ps.map pD)))) σ2 (b_law.drop 4) = xs C nsx (m + 95) (lW ns (.val (.list (ps.map pD)))) σ3 (b_law.drop 5) :=
 xs_ife_n (n := m + 95) (c := false) (a := [.ret (.cst (.bool false))]) (b := []) (rest := b_law.drop 5) (ev_not_t (n := 13) ((ev_call (n := 12) (ds := [worldD, enc t]) (σ₁ := σ3) (evs_cons (d := worldD) (σ₁ := σ2) rfl (evs_cons ((ev_call (n := 11) (xs := [.var 27, .cst (.int 3)]) (ds := [.src, .int 3]) (σ₁ := σ2) rfl).trans h) evs_nil))).trans h18)) (xs_nil (n := m + 94))
theorem law_5 (h : C 14 [.src, .int 2] σ2 = some (enc t, σ3)) (h18 : C 18 [worldD, enc (.arr t)] σ3 = some (.bool true, σ3)) : xs C nsx (m + 95) (lW ns (.val (.list (ps.map pD)))) σ2 (b_law.drop 5) = xs C nsx (m + 94) (lW ns (.val (.list (ps.map pD)))) σ3 (b_law.drop 6) :=
 xs_ife_n (n := m + 94) (c := false) (a := [.ret (.cst (.bool false))]) (b := []) (rest := b_law.drop 6) (ev_not_t (n := 13) ((ev_call (n := 12) (ds := [worldD, enc (.arr t)]) (σ₁ := σ3) (evs_cons (d := worldD) (σ₁ := σ2) rfl (evs_cons (d := enc (.arr t)) (σ₁ := σ3) (ev_tup (n := 11) (ds := [.str 4, enc t, .int 2]) (evs_cons (d := .str 4) (σ₁ := σ2) rfl (evs_cons ((ev_call (n := 10) (xs := [.var 27, .cst (.int 2)]) (ds := [.src, .int 2]) (σ₁ := σ2) rfl).trans h) (evs_cons (d := .int 2) (σ₁ := σ3) rfl evs_nil))) (show 3 <= 100 by decide)) evs_nil))).trans h18)) (xs_nil (n := m + 93))
theorem law_6 (h : C 14 [.src, .int 1] σ2 = some (enc t, σ3)) (h18 : C 18 [worldD, enc (.L t)] σ3 = some (.bool true, σ3)) : xs C nsx (m + 94) (lW ns (.val (.list (ps.map pD)))) σ2 (b_law.drop 6) = some (.ret (.bool true), lW ns (.val (.list (ps.map pD))), σ3) :=
 xs_ret (n := m + 93) (rest := []) ((ev_call (n := 13) (ds := [worldD, enc (.L t)]) (σ₁ := σ3) (evs_cons (d := worldD) (σ₁ := σ2) rfl (evs_cons (d := enc (.L t)) (σ₁ := σ3) (ev_tup (n := 12) (ds := [.str 6, .str 16, .tup [], .tup [enc t]]) (evs_cons (d := .str 6) (σ₁ := σ2) rfl (evs_cons (d := .str 16) (σ₁ := σ2) rfl (evs_cons (d := .tup []) (σ₁ := σ2) rfl (evs_cons (ev_tup (n := 11) (evs_cons ((ev_call (n := 10) (xs := [.var 27, .cst (.int 1)]) (ds := [.src, .int 1]) (σ₁ := σ2) rfl).trans h) evs_nil) (show 1 <= 100 by decide)) evs_nil)))) (show 4 <= 100 by decide)) evs_nil))).trans h18)
end
theorem ar_next {k n0 n : Nat} (hn : n = 0 \/ n = 1 \/ n = 2) {ps : List Par} {σ : Sg} {i : Nat} (h : LSt σ n0) (hnm : names ps = [35, 36, 37].take i) (hl : ∀ p ∈ ps, p.2.length <= 2) : ∃ σ', run (k + 6) 20 [.src, worldD, .int (n : Int), .list (ps.map pD)] σ = some (.bool true, σ') /\ LSt σ' n := by
 have hps : ps.length <= 3 := by
  rw [<- List.length_map (as := ps) (·.1), show ps.map (·.1) = _ from hnm, List.length_take]
  exact Nat.min_le_right _ _
 refine h.go (P := λσ => ∃ σ', run (k + 6) 20 [.src, worldD, .int (n : Int), .list (ps.map pD)] σ = some (.bool true, σ') /\ LSt σ' n) λs => (asked_right_run k hn s (.inr ⟨_, rfl⟩) (λp hp => ?_) (by rw [hnm]; exact List.Nodup.sublist (List.take_sublist _ _) (by decide)) (Nat.le_trans hps (by decide)) (Nat.le_trans (sum_le (b := 2) ps hl) (Nat.le_trans (Nat.mul_le_mul_left 2 hps) (by decide)))).elim λa' h => ⟨_, h.1, h.2, rfl, rfl, rfl⟩
 have q : p.1 ∈ names ps := List.mem_map_of_mem hp
 rw [hnm] at q
 exact (List.mem_cons.mp (List.mem_of_mem_take q)).elim .inl λq => (List.mem_cons.mp q).elim (λq => .inr (.inl q)) λq => .inr (.inr (List.mem_singleton.mp q))
theorem law_run (k : Nat) (ns : List Int) : lawTrue (run (k + 65)) ns :=
 (pool_run (k + 64) (ns := ns)).elim λx0 h => h.elim λy0 P =>
 (asked_right_run (k + 59) (n := 1) (.inr (.inl rfl)) (ps := ps1) (a := some [.int x0, .int y0]) (b := some wAd) ⟨x0, y0, rfl, P.2⟩ (.inl rfl) (by decide) (by decide) (by decide) (by decide)).elim λa2 h2 =>
 have L2 : LSt ⟨a2, some wAd, some ([30], [trD 1]), none⟩ 1 := ⟨h2.2, rfl, rfl, rfl⟩
 (take_R (top := 4) (.inr (.inr (.inl rfl))) (k + 64) h2.2).elim λi3 h => h.elim λσ3 H3 =>
 (pars_run (λσ hs => take_R (top := 3) (.inr (.inl rfl)) (k + 64) hs) ([35, 36, 37].take i3) H3.s).elim λps h => h.elim λσ4 H4 =>
 (take_R (top := 3) (.inr (.inl rfl)) (k + 64) H4.s).elim λn5 h => h.elim λσ5 H5 =>
 have hn5 : n5 = 0 \/ n5 = 1 \/ n5 = 2 := by have := H5.lt; lia
 (ar_next (k := k + 59) hn5 (L2.keep H5.s (H3.q.trans (H4.q.trans H5.q))) H4.n H4.l).elim λσ6 H6 =>
 (type_run 3 (k + 58) H6.2.s).elim λt7 h => h.elim λσ7 H7 =>
 have L7 := H6.2.keep H7.s H7.q
 (type_run 2 (k + 59) H7.s).elim λt8 h => h.elim λσ8 H8 =>
 have L8 := L7.keep H8.s H8.q
 (type_run 1 (k + 60) H8.s).elim λt9 h => h.elim λσ9 H9 =>
 have L9 := L8.keep H9.s H9.q
 ⟨lW ns (.val (.list (ps.map pD))), σ9, L9.ac, λm => (law_1 P.1 (world_run (k + 61)) h2.1).trans ((law_2 H3 H4).trans ((law_3 H5 H6.1).trans ((law_4 H7.h (ir_next (Nat.le_add_left 60 k) L7 hn5 (Nat.le_trans H7.g (by decide)))).trans ((law_5 H8.h (ir_next (Nat.le_add_left 60 k) L8 hn5 (Nat.le_trans (Nat.succ_le_succ H8.g) (by decide)))).trans (law_6 H9.h (ir_next (Nat.le_add_left 60 k) L9 hn5 (Nat.le_trans (Nat.succ_le_succ H9.g) (by decide))))))))⟩
end Mine
end
section
open PySem PySem.W PySem.Calls PyProof.Rows
set_option maxRecDepth 100000
namespace Mine
theorem run27 (k : Nat) (ds : List D) (σ : Sg) : run (k + 1) 27 ds σ = fnRun (run k) (λ_ _ _ => none) ps_law ns_law b_law ds σ := by
 exact run_fn (f := 27) (by decide) (by decide)
theorem law_yes (k : Nat) (ns : List Int) : ∃ σ', run (k + 66) 27 [.list (ns.map .int)] ⟨none, none, none, none⟩ = some (.bool true, σ') := by
 obtain ⟨l', σ', hac, h⟩ := law_run k ns
 refine ⟨σ', ?_⟩
 rw [show k + 66 = k + 65 + 1 from rfl, run27]
 refine fnRun_of rfl (λm => ?_) (by rw [hac])
 exact congrArg (Option.map outS) (h m)
abbrev tabsL : List (Addr × Addr) := [(103, 101), (84, 80)]
theorem tabs_at {p : Params} {h : Heap} (X : (heapL p).In h) (hT : ∀ P ∈ ([101, 80] : List Addr), h.get? P = some (tabObj #[])) : TabsAt tabsL h := λq hq => by
 rcases hq with _ | ⟨_, _ | ⟨_, hq⟩⟩
 ·exact ⟨codeHd7 p X, hT 101 (.head _)⟩
 ·exact ⟨codeHd4 p X, hT 80 (.tail _ (.head _))⟩
 ·cases hq
noncomputable def tabQ (P : Addr) : Option Str := if P = 80 then some "regions_in.<locals>.noted" else if P = 101 then some "fields_of.<locals>.put_in" else none
noncomputable def gOf (w : World) (mg mb : Str -> Option Value) (h : Heap) : Gh where
 prog := PySem.Challenge.rw_xm0596_01.row.prog
 K := heapL w.params
 tab := tabQ
 fa := λi => faL.getD i 0
 mg := mg
 mb := mb
 extIs := extIs0
 sxIs := sxIs0
 w := w
 h₀ := ghostOf h tabsL
 isClo := cloIs
theorem fn_ns (p : Params) : ∀ f < 28, nsIn (heapL p) mainGlobals (fN f) = some (some (.ref (faL.getD f 0))) := λf hf => by
 have h : (List.range 28).all (λf => match nsIn (heapL p) mainGlobals (fN f) with | some (some (.ref a)) => a == faL.getD f 0 | _ => false) = true := by kernel_rfl
 have := List.all_eq_true.mp h f (List.mem_range.mpr hf)
 split at this
 ·rename_i a e; rw [e, eq_of_beq this]
 ·cases this
theorem fn_keep (p : Params) : ∀ f < 28, keepIn (heapL p) (.ref (faL.getD f 0)) = true := λf hf => by
 have h : (List.range 28).all (λf => keepIn (heapL p) (.ref (faL.getD f 0))) = true := by kernel_rfl
 exact List.all_eq_true.mp h f (List.mem_range.mpr hf)
theorem most_ns (p : Params) : ∃ t, nsIn (heapL p) mainGlobals "MOST_TYPES" = some (some (.int 4000 t)) := by
 have h : (match nsIn (heapL p) mainGlobals "MOST_TYPES" with | some (some (.int i t)) => i == 4000 | _ => false) = true := by kernel_rfl
 split at h
 ·rename_i i t e; exact ⟨t, by rw [e, eq_of_beq h]⟩
 ·cases h
section
variable {w : World} {mg mb : Str -> Option Value} {h : Heap} {p : Program} {loose : List Str} {mean : ExcName -> Option Value}
theorem bi_of (X : (heapL w.params).In (ghostOf h tabsL)) (T : Top p loose mean mg mb (ghostOf h tabsL)) {x : Str} {v : Value} (h1 : nsIn (heapL w.params) mainGlobals x = some none) (h2 : bootBuiltins x = some v) (h3 : x ≠ "__name__") : mg x = none ∧ mb x = some v :=
 ⟨mg_none_of X T.g h1, (T.builtins x h3).trans h2⟩
theorem st_of (hT : TabsAt tabsL h) (X : (heapL w.params).In h) (T : Top p loose mean mg mb h) (hs : ∃ o, h.get? sysModules = some o) : St (gOf w mg mb h) := by
 have X' := ghost_K hT X (by kernel_rfl)
 have T' := ghost_top hT T
 exact {
  nsg := T'.g
  nsb := T'.b
  lim := T'.nolimit
  fn := λf hf => mg_of X' T'.g (fn_ns w.params f hf)
  keepF := λf hf => fn_keep w.params f hf
  KIn := X'
  sysm := let ⟨o, e⟩ := hs; ⟨o, ghost_ne e (by decide)⟩
  b_len := bi_of X' T' (by kernel_rfl) (by decide +kernel) (by decide)
  b_tuple := bi_of X' T' (by kernel_rfl) (by decide +kernel) (by decide)
  b_list := bi_of X' T' (by kernel_rfl) (by decide +kernel) (by decide)
  b_dict := bi_of X' T' (by kernel_rfl) (by decide +kernel) (by decide)
  b_zip := bi_of X' T' (by kernel_rfl) (by decide +kernel) (by decide)
  b_range := bi_of X' T' (by kernel_rfl) (by decide +kernel) (by decide)
  b_max := bi_of X' T' (by kernel_rfl) (by decide +kernel) (by decide)
  b_enum := bi_of X' T' (by kernel_rfl) (by decide +kernel) (by decide)
  b_int := bi_of X' T' (by kernel_rfl) (by decide +kernel) (by decide)
  most := let ⟨t, e⟩ := most_ns w.params; ⟨t, mg_of X' T'.g e⟩ }
theorem bim_of (hT : TabsAt tabsL h) (T : Top p loose mean mg mb h) {P : Addr} (hP : P ∈ tabsL.map (·.2)) : (ghostOf h tabsL).BuiltinsAt mg P := by
 have T' := ghost_top hT T
 obtain ⟨bm, ob, b1, b2, b3, b4, b5, b6⟩ := T'.bmain
 refine ⟨bm, ob, b1, b2, λq => ?_, λq => ?_, b3, b4, b5, b6⟩
 ·obtain ⟨o, es, ep, e, hd', _⟩ := T'.g
  rw [q, e] at b3; cases b3; rw [hd'] at b6; cases b6
 ·rw [q, show (ghostOf h tabsL).get? P = none from hideAll_none _ hP] at b3; cases b3
theorem mod_of (hT : TabsAt tabsL h) (X : (heapL w.params).In h) (T : Top p loose mean mg mb h) (hs : ∃ o, h.get? sysModules = some o) : Mod (gOf w mg mb h) w.params where
 st := st_of hT X T hs
 cl := rfl
 sx := rfl
 K := rfl
 fa := λ_ _ => rfl
 ext := rfl
 t1 := rfl
 t2 := rfl
 b1 := bim_of hT T (by decide)
 b2 := bim_of hT T (by decide)
noncomputable def own0 (h : Heap) (b : Addr) : Tag := if b = 80 \/ b = 101 then .tb else if (h.get? b).isSome then .fz else .no
theorem own0_uq {b : Addr} : uq (own0 h b) = false := by
 unfold own0; split
 ·rfl
 ·split <;> rfl
theorem own0_fz {b : Addr} {o : Obj} (e : h.get? b = some o) (hb : b ∉ tabsL.map (·.2)) : own0 h b = .fz := by
 unfold own0
 rw [if_neg (λq => hb (by rcases q with rfl | rfl <;> decide)), e]; rfl
theorem rg_of (hT : TabsAt tabsL h) : RG (gOf w mg mb h) (own0 h) ⟨none, none, none, none⟩ h where
 base := λb o e => by
  have e : (ghostOf h tabsL).get? b = some o := e
  refine ⟨of_hideAll _ e, own0_fz (of_hideAll _ e) λq => ?_⟩
  rw [show (ghostOf h tabsL).get? b = none from hideAll_none _ q] at e; cases e
 lt := λa ha => by
  unfold own0 at ha
  split at ha
  ·rename_i q
   rcases q with rfl | rfl
   ·exact ⟨_, (hT (84, 80) (by decide)).2⟩
   ·exact ⟨_, (hT (103, 101) (by decide)).2⟩
  ·split at ha
   ·rename_i q; exact Option.isSome_iff_exists.mp q
   ·exact absurd rfl ha
 tb := λP q e => by
  have hP : P = 80 \/ P = 101 := by
   by_cases a : P = 80
   ·exact .inl a
   ·by_cases b : P = 101
    ·exact .inr b
    ·rw [show (gOf w mg mb h).tab P = tabQ P from rfl, tabQ, if_neg a, if_neg b] at e; cases e
  refine ⟨by unfold own0; rw [if_pos hP], #[], ?_, trivial, λpos cv hc => by cases hc⟩
  rcases hP with rfl | rfl
  ·exact (hT (84, 80) (by decide)).2
  ·exact (hT (103, 101) (by decide)).2
 shr := {
  src := λa e => by have := own0_uq (h := h) (b := a); rw [e] at this; cases this
  ad := λa e => by have := own0_uq (h := h) (b := a); rw [e] at this; cases this
  tr := λa e => by have := own0_uq (h := h) (b := a); rw [e] at this; cases this
  ac := λa e => by have := own0_uq (h := h) (b := a); rw [e] at this; cases this
  one := λa b e => by rw [own0_uq] at e; cases e }
theorem ints_at {g : Gh} {own : Addr -> Tag} : ∀ {vs : List Value} {ns : List Int}, IntsAre vs ns -> AtL g h own vs (ns.map .int)
 | _, _, .nil => .nil
 | _, _, .cons n t r => .cons (.int n t) (ints_at r)
end
theorem law_walk {w : World} {mg mb : Str → Option Value} {s : Shared} {p : Program} {loose : List Str} {mean : ExcName → Option Value} {fa a : Addr} {vs : List Value} {ns : List Int} {Q : Value → Shared → Prop} {E : Value → Shared → Prop}
  (hT : TabsAt tabsL s.heap) (X : (heapL w.params).In s.heap) (T : Top p loose mean mg mb s.heap) (hs : ∃ o, s.heap.get? sysModules = some o) (hmg : mg "law" = some (.ref fa)) (hl : s.heap.PlainList a vs.toArray) (hI : IntsAre vs ns)
  (K : ∀ h' tk', OldK s.heap h' -> Q (.bool true) { s with heap := h', toks := tk' }) : wpAny (model PySem.Challenge.rw_xm0596_01.row.prog w) callerA (call (.ref fa) [.ref a] []) Q E s := by
 have M := mod_of (mb := mb) hT X T hs
 have R := rg_of (w := w) (mg := mg) (mb := mb) hT
 obtain ⟨σ', hrun⟩ := law_yes 1 ns
 have hfa : fa = 298 := by
  have e1 := mg_of X T.g (fn_ns w.params 27 (by decide))
  rw [show mg (fN 27) = some (.ref fa) from hmg] at e1
  cases e1; rfl
 subst hfa
 have hla : At (gOf w mg mb s.heap) s.heap (own0 s.heap) (.ref a) (.list (ns.map .int)) := by
  refine .list ?_ hl (ints_at hI)
  obtain ⟨n, e⟩ := hl
  refine own0_fz e λq => ?_
  obtain ⟨r, hr, q⟩ := List.mem_map.mp q
  rw [<- q, (hT r hr).2] at e; cases e
 refine (run_ok M 67).fn callerA (own0 s.heap) s 27 [.ref a] [.list (ns.map .int)] ⟨none, none, none, none⟩ (.bool true) σ' (by decide) ⟨rfl, by decide, by decide⟩ R (.cons hla .nil) hrun Q E λv h' tk' own' x r y => ?_
 cases y
 refine K h' tk' ⟨λb o e => ?_, x.ex⟩
 by_cases hb : b ∈ tabsL.map (·.2)
 ·obtain ⟨q, hq, rfl⟩ := List.mem_map.mp hb
  have e2 := (hT q hq).2
  rw [e] at e2; cases e2
  have ht : ∃ z, (gOf w mg mb s.heap).tab q.2 = some z := by
   rcases hq with _ | ⟨_, _ | ⟨_, h⟩⟩
   ·exact ⟨_, rfl⟩
   ·exact ⟨_, rfl⟩
   ·cases h
  obtain ⟨z, hz⟩ := ht
  obtain ⟨_, ps, hP, _⟩ := r.tb _ _ hz
  exact .inr (.inl ⟨((hT q hq).1.tab (hT q hq).2).isCodeTable, rfl, #[], ps, rfl, by rw [Array.empty_append]; exact hP⟩)
 ·exact .inl (x.objs b o e (by rw [own0_fz e hb]; rfl))
end Mine
end
section
open PySem PySem.W PySem.Calls PyProof.Rows
set_option maxRecDepth 100000
set_option maxHeartbeats 8000000
namespace Mine
theorem well_list {P : Params} {h : Heap} {a : Addr} {vs : List Value} {d : WData} (w : Well P h (.ref a) d) (hl : h.IsList a vs.toArray) : h.PlainList a vs.toArray := by
 obtain ⟨o, ho, hc, n, hd'⟩ := hl
 cases w with
 | list e _ => rw [ho] at e; cases e; cases hd'; exact ⟨_, ho⟩
 | bytearray e => rw [ho] at e; cases e; simp at hc
 | tuple e _ => rw [ho] at e; cases e; simp at hc
 | dict e _ => rw [ho] at e; cases e; simp at hc
 | set e _ _ _ => rw [ho] at e; cases e; simp at hc
 | frozenset e _ _ _ => rw [ho] at e; cases e; simp at hc
 | obj e _ _ _ => rw [ho] at e; cases e; simp at hc
end Mine
theorem PySem.Challenge.cw_xm0596_01_holds : PySem.Challenge.rw_xm0596_01.Holds := by
 refine Mine.law_holds ?_
 intro w s₀ s₁ mg mb G Y fa o pm cd doc dV kV ho hdd hcd hD hmg hg args vals as hpre hlay hrd hwl hlo
 have KX := km_in_of Y
 have hT9 : TabsAt Mine.tabsL s₁.heap := Mine.tabs_at KX (km_tabs_of Y)
 have hsm : ∃ o, s₁.heap.get? sysModules = some o := let ⟨_, ⟨o, _, _, e, _⟩, _⟩ := (G.T.seer (by kernel_rfl)).mods; ⟨o, e⟩
 have T := G.T
 clear ho hdd hcd hD Y
 wrow_args hpre hlay hrd hwl hlo
 refine Mine.law_walk hT9 KX T hsm hmg (Mine.well_list (by assumption) (by assumption)) (by assumption) ?_
 intro h' tk' hold
 refine ⟨.inl ⟨.bool true, .bool true, [], rfl, ?_, .bool true, ?_, ?_⟩, hold, rfl, .of_eq hg⟩
 ·exact λ_ => rfl
 ·kernel_rfl
 ·exact λ_ => ⟨.nil, nofun⟩
end
