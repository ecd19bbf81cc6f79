import PyProof.Rows.All
import Wide.All
import OpenK.AllK
import Wide.FinOn
import PyProof.ExcBaseAll.Exception
import PyProof.InstStoreFacts
import Lean
import PySem.Challenge.RW_og0176_01
set_option Elab.async false
set_option compiler.extract_closed false
set_option linter.unusedVariables false
namespace Mine
section
open PySem PySem.W PyProof.Rows
theorem left_of_boot {p q : Program} {loose : List Str} {Xt : Shared → Bool} {α : Type} {Yf : Shared → α} {Ya : World → α} {N : Nat} {m₀ : Nat} {ann : Option Value} {M : Nat}
    (open_ : ∀ w : World, (fencedOpening treeTable p w N).map (fun s => (s.heap, s.gens, s.drawn, s.toks)) = some (boot_heap w.params, Array.mk [], boot_drawn, boot_toks))
    (size : ∀ w : World, ((boot_heap w.params).isNs mainGlobals && (Array.mk ([] : List GenState)).size == 0, (boot_heap w.params).objs.size, (boot_heap w.params).nsMap mainGlobals "__annotations__") = (true, m₀, ann))
    (run : ∀ (w : World) (os : OsState), (topRun treeTable p w m₀ ann M ⟨boot_heap w.params, Array.mk [], boot_drawn, boot_toks, os⟩ (topStub p)).map (fun s =>
      (staticsOk (importedModules p.main.body) (boot_heap w.params) s.heap && namesBound p s.heap && gensDone s && laidKept (boot_heap w.params) s.heap,
        openSeen q loose (importedModules p.main.body) Xt true s, Yf s)) = some (true, openGood q loose, Ya w))
    (le : Nat.ble M N = true) : LeftO p q loose Xt Yf Ya N true := fun w => by
  obtain ⟨⟨h, gs, d, k, os⟩, e, e'⟩ := Option.map_eq_some_iff.mp (open_ w)
  obtain ⟨rfl, rfl, rfl, rfl⟩ : h = boot_heap w.params ∧ gs = Array.mk [] ∧ d = boot_drawn ∧ k = boot_toks := by simpa using e'
  obtain ⟨z1, z2, z3⟩ : _ ∧ _ ∧ _ := by simpa only [Prod.mk.injEq] using size w
  obtain ⟨s, hs, l⟩ := Option.map_eq_some_iff.mp (run w os)
  obtain ⟨l1, l2, l3⟩ : _ ∧ _ ∧ _ := by simpa only [Prod.mk.injEq] using l
  have r := topRun_mono (N - M) _ _ _ _ hs
  rw [show M + (N - M) = N by have := Nat.le_of_ble_eq_true le; omega] at r
  have t : topFrom treeTable p w N ⟨boot_heap w.params, Array.mk [], boot_drawn, boot_toks, os⟩ = some s := by
    unfold topFrom
    dsimp only
    rw [z1, z2, z3, r]
    show (match staticsOk (importedModules p.main.body) (boot_heap w.params) s.heap && namesBound p s.heap && gensDone s && laidKept (boot_heap w.params) s.heap with | true => _ | false => _) = _
    rw [l1]
  unfold openEnds
  rw [e]
  show (topFrom treeTable p w N _).map _ = _
  rw [t]
  exact congrArg some (Prod.ext l2 l3)
noncomputable abbrev PRG : Program := PySem.Challenge.rw_og0176_01.row.toRowW.1
noncomputable def bodyC : Option Stmt → List Stmt
  | some (.ClassDef _ _ _ b _ _ _ _ _ _ _) => b
  | _ => []
noncomputable abbrev atT (i : Nat) : Option Stmt := PRG.main.body[i]?
noncomputable abbrev atM (i j : Nat) : Option Stmt := (bodyC (atT i))[j]?
noncomputable abbrev vs (x : String) (t : Tok) : Value := .str (Str.ofString x) t
noncomputable abbrev de (P : Params) (x : String) (t : Tok) (v : Value) : DictEntry := ⟨PyData.keyHash P (Str.ofString x), .str (Str.ofString x) t, v⟩
noncomputable abbrev fnF {n : Str} {a : Arguments} {b : List Stmt} {ds : List PySem.Expr} {r : Option PySem.Expr} {tp : List TypeParam} {sc : Scope} {so : Option Scope} {an : Str} {po : Pos} (x : Option Stmt) (gl : Addr) (q : Str) (df pm cd : Value) (_ : some (Stmt.FunctionDef n a b ds r tp sc so an po) = x) : FuncData := { name := n, qualname := q, params := a, body := .stmts b, scope := sc, globals := gl, closure := [], defaults := df, kwdefaults := .none, pyModule := pm, code := cd }
set_option maxRecDepth 100000 in
noncomputable def hd.heap_39 (P : Params) : Frag :=
  (nat_lit 2, (Obj.mk .none none (.dict #[de P "type.__subclasses__.Exception.0" 232 (.int 46 0), de P "type.__subclasses__.Exception.n" 233 (.int 1 0)] 2) #[] : Obj)) ::
  (nat_lit 3, (Obj.mk (.type "dict") none (.dict #[de P "__name__" 165 (vs "law_og0176_01" 647), de P "__doc__" 166 .none, de P "__package__" 167 .none, de P "__loader__" 168 (.builtin "__main__.__loader__#opaque"), de P "__spec__" 169 .none, de P "__annotations__" 170 (.ref 6), de P "__builtins__" 171 (.ref 4), de P "__file__" 173 (vs "/claim/cut.py" 172), de P "__cached__" 174 .none, de P "_wall" 193 (.ref 21), de P "PaperError" 235 (.ref 46), de P "DraftFault" 251 (.ref 59), de P "Decimal" 367 (.ref 155), de P "sign_text" 374 (.ref 166), de P "Name" 405 (.ref 183), de P "String" 436 (.ref 205), de P "Stream" 467 (.ref 226), de P "Reference" 505 (.ref 254), de P "kind_of" 512 (.ref 265), de P "told_plain" 520 (.ref 272), de P "told" 526 (.ref 277), de P "value_of" 534 (.ref 282), de P "dict_of" 544 (.ref 289), de P "leaf_of" 552 (.ref 296), de P "pairs_of" 562 (.ref 303), de P "need" 570 (.ref 310), de P "grouped" 582 (.ref 317), de P "single" 588 (.ref 322), de P "shape_applied" 597 (.ref 329), de P "dict_shape" 603 (.ref 334), de P "dict_applied" 616 (.ref 341), de P "array_applied" 633 (.ref 348), de P "stream_applied" 646 (.ref 355), de P "_law_pen" 655 (.ref 362), de P "_law_draw" 667 (.ref 369), de P "_law_leaf" 676 (.ref 376), de P "_law_thing" 682 (.ref 381), de P "_law_spoilt" 691 (.ref 388), de P "_law_refused" 700 (.ref 395), de P "_law_rows_right" 706 (.ref 400), de P "law" 712 (.ref 405)] 41) #[] : Obj)) ::
  (nat_lit 29, (Obj.mk (.type "tuple") none (.seq #[.int (-1) 209]) #[] : Obj)) ::
  (nat_lit 35, (Obj.mk (.type "code") none (.fields #[vs "__init__" 210, vs "PaperError.__init__" 211, vs "/claim/cut.py" 212, .int 7 0, .int 3 0, .int 0 0, .int 0 0, .int 3 0, .ref 30, .bool true, .int 181 0, .ref 31, .none, .ref 32, .ref 33, .ref 34, .int 216 0, .int 7 0, vs "/claim/cut.py" 217]) #[] : Obj)) ::
  (nat_lit 36, (Obj.mk (.type "function") none (.func (fnF (atM 2 0) 3 (Str.ofString "PaperError.__init__") (.ref 29) (vs "paperhold.errors" 194) (.ref 35) rfl)) #[] : Obj)) ::
  (nat_lit 45, (Obj.mk (.type "dict") none (.dict #[de P "__module__" 203 (vs "paperhold.errors" 194), de P "__firstlineno__" 207 (.int 5 206), de P "__init__" 218 (.ref 36), de P "told" 225 (.ref 43), de P "__static_attributes__" 228 (.ref 44), de P "__weakref__" 230 (.ref 47), de P "__doc__" 231 .none] 3) #[] : Obj)) ::
  (nat_lit 46, (Obj.mk (.type "type") none (.cls (ClassData.mk (Str.ofString "PaperError") [.type "Exception"] [.ref 46, .type "Exception", .type "BaseException", .type "object"] 45 (Str.ofString "PaperError") true [] [.ref 59] false none false)) #[some (.ref 22), none, some (vs "PaperError" 196), some (vs "PaperError" 204), some (.builtin "Exception.__new__"), some (.bool true)] : Obj)) ::
  (nat_lit 58, (Obj.mk (.type "dict") none (.dict #[de P "__module__" 243 (vs "paperhold.errors" 194), de P "__firstlineno__" 247 (.int 14 246), de P "__static_attributes__" 248 (.ref 57), de P "__doc__" 249 .none] 2) #[] : Obj)) ::
  (nat_lit 59, (Obj.mk (.type "type") none (.cls (ClassData.mk (Str.ofString "DraftFault") [.ref 46] [.ref 59, .ref 46, .type "Exception", .type "BaseException", .type "object"] 58 (Str.ofString "DraftFault") true [] [] false none false)) #[some (.ref 50), none, some (vs "DraftFault" 236), some (vs "DraftFault" 244), some (.builtin "Exception.__new__"), some (.bool true)] : Obj)) ::
  (nat_lit 74, (Obj.mk (.type "code") none (.fields #[vs "__init__" 266, vs "Decimal.__init__" 267, vs "/claim/cut.py" 268, .int 19 0, .int 3 0, .int 0 0, .int 0 0, .int 3 0, .ref 69, .bool true, .int 181 0, .ref 70, .none, .ref 71, .ref 72, .ref 73, .int 272 0, .int 19 0, vs "/claim/cut.py" 273]) #[] : Obj)) ::
  (nat_lit 75, (Obj.mk (.type "function") none (.func (fnF (atM 5 0) 3 (Str.ofString "Decimal.__init__") (.none) (vs "paperhold.decimals" 252) (.ref 74) rfl)) #[] : Obj)) ::
  (nat_lit 154, (Obj.mk (.type "dict") none (.dict #[de P "__module__" 261 (vs "paperhold.decimals" 252), de P "__firstlineno__" 265 (.int 17 264), de P "__init__" 274 (.ref 75), de P "plus" 282 (.ref 82), de P "minus" 290 (.ref 89), de P "times" 298 (.ref 96), de P "negated" 305 (.ref 103), de P "compared" 313 (.ref 110), de P "is_whole" 320 (.ref 117), de P "floor" 327 (.ref 124), de P "rounded" 335 (.ref 131), de P "told" 342 (.ref 138), de P "text" 350 (.ref 145), de P "least_text" 357 (.ref 152), de P "__static_attributes__" 360 (.ref 153), de P "__dict__" 362 (.ref 156), de P "__weakref__" 364 (.ref 157), de P "__doc__" 365 .none] 4) #[] : Obj)) ::
  (nat_lit 155, (Obj.mk (.type "type") none (.cls (ClassData.mk (Str.ofString "Decimal") [.type "object"] [.ref 155, .type "object"] 154 (Str.ofString "Decimal") true [] [] false none false)) #[none, none, some (vs "Decimal" 254), some (vs "Decimal" 262), some (.builtin "object.__new__"), some (.bool true)] : Obj)) ::
  (nat_lit 179, (Obj.mk (.type "code") none (.fields #[vs "__init__" 389, vs "Name.__init__" 390, vs "/claim/cut.py" 391, .int 67 0, .int 2 0, .int 0 0, .int 0 0, .int 3 0, .ref 174, .bool true, .int 181 0, .ref 175, .none, .ref 176, .ref 177, .ref 178, .int 394 0, .int 67 0, vs "/claim/cut.py" 395]) #[] : Obj)) ::
  (nat_lit 180, (Obj.mk (.type "function") none (.func (fnF (atM 8 0) 3 (Str.ofString "Name.__init__") (.none) (vs "paperhold.objects" 375) (.ref 179) rfl)) #[] : Obj)) ::
  (nat_lit 182, (Obj.mk (.type "dict") none (.dict #[de P "__module__" 384 (vs "paperhold.objects" 375), de P "__firstlineno__" 388 (.int 65 387), de P "__init__" 396 (.ref 180), de P "__static_attributes__" 398 (.ref 181), de P "__dict__" 400 (.ref 184), de P "__weakref__" 402 (.ref 185), de P "__doc__" 403 .none] 4) #[] : Obj)) ::
  (nat_lit 183, (Obj.mk (.type "type") none (.cls (ClassData.mk (Str.ofString "Name") [.type "object"] [.ref 183, .type "object"] 182 (Str.ofString "Name") true [] [] false none false)) #[none, none, some (vs "Name" 377), some (vs "Name" 385), some (.builtin "object.__new__"), some (.bool true)] : Obj)) ::
  (nat_lit 195, (Obj.mk (.type "tuple") none (.seq #[.bool false]) #[] : Obj)) ::
  (nat_lit 201, (Obj.mk (.type "code") none (.fields #[vs "__init__" 418, vs "String.__init__" 419, vs "/claim/cut.py" 420, .int 71 0, .int 3 0, .int 0 0, .int 0 0, .int 3 0, .ref 196, .bool true, .int 181 0, .ref 197, .none, .ref 198, .ref 199, .ref 200, .int 424 0, .int 71 0, vs "/claim/cut.py" 425]) #[] : Obj)) ::
  (nat_lit 202, (Obj.mk (.type "function") none (.func (fnF (atM 9 0) 3 (Str.ofString "String.__init__") (.ref 195) (vs "paperhold.objects" 375) (.ref 201) rfl)) #[] : Obj)) ::
  (nat_lit 204, (Obj.mk (.type "dict") none (.dict #[de P "__module__" 413 (vs "paperhold.objects" 375), de P "__firstlineno__" 417 (.int 69 416), de P "__init__" 426 (.ref 202), de P "__static_attributes__" 429 (.ref 203), de P "__dict__" 431 (.ref 206), de P "__weakref__" 433 (.ref 207), de P "__doc__" 434 .none] 4) #[] : Obj)) ::
  (nat_lit 205, (Obj.mk (.type "type") none (.cls (ClassData.mk (Str.ofString "String") [.type "object"] [.ref 205, .type "object"] 204 (Str.ofString "String") true [] [] false none false)) #[none, none, some (vs "String" 406), some (vs "String" 414), some (.builtin "object.__new__"), some (.bool true)] : Obj)) ::
  (nat_lit 222, (Obj.mk (.type "code") none (.fields #[vs "__init__" 449, vs "Stream.__init__" 450, vs "/claim/cut.py" 451, .int 76 0, .int 3 0, .int 0 0, .int 0 0, .int 3 0, .ref 217, .bool true, .int 181 0, .ref 218, .none, .ref 219, .ref 220, .ref 221, .int 455 0, .int 76 0, vs "/claim/cut.py" 456]) #[] : Obj)) ::
  (nat_lit 223, (Obj.mk (.type "function") none (.func (fnF (atM 10 0) 3 (Str.ofString "Stream.__init__") (.none) (vs "paperhold.objects" 375) (.ref 222) rfl)) #[] : Obj)) ::
  (nat_lit 225, (Obj.mk (.type "dict") none (.dict #[de P "__module__" 444 (vs "paperhold.objects" 375), de P "__firstlineno__" 448 (.int 74 447), de P "__init__" 457 (.ref 223), de P "__static_attributes__" 460 (.ref 224), de P "__dict__" 462 (.ref 227), de P "__weakref__" 464 (.ref 228), de P "__doc__" 465 .none] 4) #[] : Obj)) ::
  (nat_lit 226, (Obj.mk (.type "type") none (.cls (ClassData.mk (Str.ofString "Stream") [.type "object"] [.ref 226, .type "object"] 225 (Str.ofString "Stream") true [] [] false none false)) #[none, none, some (vs "Stream" 437), some (vs "Stream" 445), some (.builtin "object.__new__"), some (.bool true)] : Obj)) ::
  (nat_lit 243, (Obj.mk (.type "code") none (.fields #[vs "__init__" 480, vs "Reference.__init__" 481, vs "/claim/cut.py" 482, .int 81 0, .int 3 0, .int 0 0, .int 0 0, .int 3 0, .ref 238, .bool true, .int 181 0, .ref 239, .none, .ref 240, .ref 241, .ref 242, .int 486 0, .int 81 0, vs "/claim/cut.py" 487]) #[] : Obj)) ::
  (nat_lit 244, (Obj.mk (.type "function") none (.func (fnF (atM 11 0) 3 (Str.ofString "Reference.__init__") (.none) (vs "paperhold.objects" 375) (.ref 243) rfl)) #[] : Obj)) ::
  (nat_lit 253, (Obj.mk (.type "dict") none (.dict #[de P "__module__" 475 (vs "paperhold.objects" 375), de P "__firstlineno__" 479 (.int 79 478), de P "__init__" 488 (.ref 244), de P "pair" 495 (.ref 251), de P "__static_attributes__" 498 (.ref 252), de P "__dict__" 500 (.ref 255), de P "__weakref__" 502 (.ref 256), de P "__doc__" 503 .none] 4) #[] : Obj)) ::
  (nat_lit 254, (Obj.mk (.type "type") none (.cls (ClassData.mk (Str.ofString "Reference") [.type "object"] [.ref 254, .type "object"] 253 (Str.ofString "Reference") true [] [] false none false)) #[none, none, some (vs "Reference" 468), some (vs "Reference" 476), some (.builtin "object.__new__"), some (.bool true)] : Obj)) ::
  (nat_lit 264, (Obj.mk (.type "code") none (.fields #[vs "kind_of" 506, vs "kind_of" 507, vs "/claim/cut.py" 508, .int 87 0, .int 1 0, .int 0 0, .int 0 0, .int 3 0, .ref 259, .bool true, .int 181 0, .ref 260, .none, .ref 261, .ref 262, .ref 263, .int 510 0, .int 87 0, vs "/claim/cut.py" 511]) #[] : Obj)) ::
  (nat_lit 265, (Obj.mk (.type "function") none (.func (fnF (atT 12) 3 (Str.ofString "kind_of") (.none) (vs "paperhold.objects" 375) (.ref 264) rfl)) #[] : Obj)) ::
  (nat_lit 271, (Obj.mk (.type "code") none (.fields #[vs "told_plain" 513, vs "told_plain" 514, vs "/claim/cut.py" 515, .int 109 0, .int 2 0, .int 0 0, .int 0 0, .int 3 0, .ref 266, .bool true, .int 181 0, .ref 267, .none, .ref 268, .ref 269, .ref 270, .int 518 0, .int 109 0, vs "/claim/cut.py" 519]) #[] : Obj)) ::
  (nat_lit 272, (Obj.mk (.type "function") none (.func (fnF (atT 13) 3 (Str.ofString "told_plain") (.none) (vs "paperhold.objects" 375) (.ref 271) rfl)) #[] : Obj)) ::
  (nat_lit 276, (Obj.mk (.type "code") none (.fields #[vs "told" 521, vs "told" 522, vs "/claim/cut.py" 523, .int 123 0, .int 1 0, .int 0 0, .int 0 0, .int 3 0, .ref 273, .bool true, .int 181 0, .ref 274, .none, .none, .none, .ref 275, .int 524 0, .int 123 0, vs "/claim/cut.py" 525]) #[] : Obj)) ::
  (nat_lit 277, (Obj.mk (.type "function") none (.func (fnF (atT 14) 3 (Str.ofString "told") (.none) (vs "paperhold.objects" 375) (.ref 276) rfl)) #[] : Obj)) ::
  (nat_lit 281, (Obj.mk (.type "code") none (.fields #[vs "value_of" 529, vs "value_of" 530, vs "/claim/cut.py" 531, .int 133 0, .int 1 0, .int 0 0, .int 0 0, .int 3 0, .ref 278, .bool true, .int 181 0, .ref 279, .none, .none, .none, .ref 280, .int 532 0, .int 133 0, vs "/claim/cut.py" 533]) #[] : Obj)) ::
  (nat_lit 282, (Obj.mk (.type "function") none (.func (fnF (atT 16) 3 (Str.ofString "value_of") (.none) (vs "paperhold.compare" 527) (.ref 281) rfl)) #[] : Obj)) ::
  (nat_lit 288, (Obj.mk (.type "code") none (.fields #[vs "dict_of" 535, vs "dict_of" 536, vs "/claim/cut.py" 537, .int 148 0, .int 1 0, .int 0 0, .int 0 0, .int 3 0, .ref 283, .bool true, .int 181 0, .ref 284, .none, .ref 285, .ref 286, .ref 287, .int 542 0, .int 148 0, vs "/claim/cut.py" 543]) #[] : Obj)) ::
  (nat_lit 289, (Obj.mk (.type "function") none (.func (fnF (atT 17) 3 (Str.ofString "dict_of") (.none) (vs "paperhold.compare" 527) (.ref 288) rfl)) #[] : Obj)) ::
  (nat_lit 295, (Obj.mk (.type "code") none (.fields #[vs "leaf_of" 545, vs "leaf_of" 546, vs "/claim/cut.py" 547, .int 153 0, .int 1 0, .int 0 0, .int 0 0, .int 3 0, .ref 290, .bool true, .int 181 0, .ref 291, .none, .ref 292, .ref 293, .ref 294, .int 550 0, .int 153 0, vs "/claim/cut.py" 551]) #[] : Obj)) ::
  (nat_lit 296, (Obj.mk (.type "function") none (.func (fnF (atT 18) 3 (Str.ofString "leaf_of") (.none) (vs "paperhold.compare" 527) (.ref 295) rfl)) #[] : Obj)) ::
  (nat_lit 302, (Obj.mk (.type "code") none (.fields #[vs "pairs_of" 553, vs "pairs_of" 554, vs "/claim/cut.py" 555, .int 164 0, .int 1 0, .int 0 0, .int 0 0, .int 3 0, .ref 297, .bool true, .int 181 0, .ref 298, .none, .ref 299, .ref 300, .ref 301, .int 560 0, .int 164 0, vs "/claim/cut.py" 561]) #[] : Obj)) ::
  (nat_lit 303, (Obj.mk (.type "function") none (.func (fnF (atT 19) 3 (Str.ofString "pairs_of") (.none) (vs "paperhold.compare" 527) (.ref 302) rfl)) #[] : Obj)) ::
  (nat_lit 309, (Obj.mk (.type "code") none (.fields #[vs "need" 563, vs "need" 564, vs "/claim/cut.py" 565, .int 169 0, .int 2 0, .int 0 0, .int 0 0, .int 3 0, .ref 304, .bool true, .int 181 0, .ref 305, .none, .ref 306, .ref 307, .ref 308, .int 568 0, .int 169 0, vs "/claim/cut.py" 569]) #[] : Obj)) ::
  (nat_lit 310, (Obj.mk (.type "function") none (.func (fnF (atT 20) 3 (Str.ofString "need") (.none) (vs "paperhold.compare" 527) (.ref 309) rfl)) #[] : Obj)) ::
  (nat_lit 316, (Obj.mk (.type "code") none (.fields #[vs "grouped" 571, vs "grouped" 572, vs "/claim/cut.py" 573, .int 172 0, .int 1 0, .int 0 0, .int 0 0, .int 3 0, .ref 311, .bool true, .int 181 0, .ref 312, .none, .ref 313, .ref 314, .ref 315, .int 580 0, .int 172 0, vs "/claim/cut.py" 581]) #[] : Obj)) ::
  (nat_lit 317, (Obj.mk (.type "function") none (.func (fnF (atT 21) 3 (Str.ofString "grouped") (.none) (vs "paperhold.compare" 527) (.ref 316) rfl)) #[] : Obj)) ::
  (nat_lit 321, (Obj.mk (.type "code") none (.fields #[vs "single" 583, vs "single" 584, vs "/claim/cut.py" 585, .int 178 0, .int 2 0, .int 0 0, .int 0 0, .int 3 0, .ref 318, .bool true, .int 181 0, .ref 319, .none, .none, .none, .ref 320, .int 586 0, .int 178 0, vs "/claim/cut.py" 587]) #[] : Obj)) ::
  (nat_lit 322, (Obj.mk (.type "function") none (.func (fnF (atT 22) 3 (Str.ofString "single") (.none) (vs "paperhold.compare" 527) (.ref 321) rfl)) #[] : Obj)) ::
  (nat_lit 328, (Obj.mk (.type "code") none (.fields #[vs "shape_applied" 589, vs "shape_applied" 590, vs "/claim/cut.py" 591, .int 182 0, .int 2 0, .int 0 0, .int 0 0, .int 3 0, .ref 323, .bool true, .int 181 0, .ref 324, .none, .ref 325, .ref 326, .ref 327, .int 595 0, .int 182 0, vs "/claim/cut.py" 596]) #[] : Obj)) ::
  (nat_lit 329, (Obj.mk (.type "function") none (.func (fnF (atT 23) 3 (Str.ofString "shape_applied") (.none) (vs "paperhold.compare" 527) (.ref 328) rfl)) #[] : Obj)) ::
  (nat_lit 333, (Obj.mk (.type "code") none (.fields #[vs "dict_shape" 598, vs "dict_shape" 599, vs "/claim/cut.py" 600, .int 195 0, .int 1 0, .int 0 0, .int 0 0, .int 3 0, .ref 330, .bool true, .int 181 0, .ref 331, .none, .none, .none, .ref 332, .int 601 0, .int 195 0, vs "/claim/cut.py" 602]) #[] : Obj)) ::
  (nat_lit 334, (Obj.mk (.type "function") none (.func (fnF (atT 24) 3 (Str.ofString "dict_shape") (.none) (vs "paperhold.compare" 527) (.ref 333) rfl)) #[] : Obj)) ::
  (nat_lit 361, (Obj.mk (.type "code") none (.fields #[vs "_law_pen" 649, vs "_law_pen" 650, vs "/claim/cut.py" 651, .int 254 0, .int 1 0, .int 0 0, .int 0 0, .int 3 0, .ref 356, .bool true, .int 181 0, .ref 357, .none, .ref 358, .ref 359, .ref 360, .int 653 0, .int 254 0, vs "/claim/cut.py" 654]) #[] : Obj)) ::
  (nat_lit 362, (Obj.mk (.type "function") none (.func (fnF (atT 29) 3 (Str.ofString "_law_pen") (.none) (vs "law_og0176_01" 647) (.ref 361) rfl)) #[] : Obj)) ::
  (nat_lit 368, (Obj.mk (.type "code") none (.fields #[vs "_law_draw" 656, vs "_law_draw" 657, vs "/claim/cut.py" 658, .int 256 0, .int 2 0, .int 0 0, .int 0 0, .int 3 0, .ref 363, .bool true, .int 181 0, .ref 364, .none, .ref 365, .ref 366, .ref 367, .int 665 0, .int 256 0, vs "/claim/cut.py" 666]) #[] : Obj)) ::
  (nat_lit 369, (Obj.mk (.type "function") none (.func (fnF (atT 30) 3 (Str.ofString "_law_draw") (.none) (vs "law_og0176_01" 647) (.ref 368) rfl)) #[] : Obj)) ::
  (nat_lit 375, (Obj.mk (.type "code") none (.fields #[vs "_law_leaf" 668, vs "_law_leaf" 669, vs "/claim/cut.py" 670, .int 274 0, .int 1 0, .int 0 0, .int 0 0, .int 3 0, .ref 370, .bool true, .int 181 0, .ref 371, .none, .ref 372, .ref 373, .ref 374, .int 674 0, .int 274 0, vs "/claim/cut.py" 675]) #[] : Obj)) ::
  (nat_lit 376, (Obj.mk (.type "function") none (.func (fnF (atT 31) 3 (Str.ofString "_law_leaf") (.none) (vs "law_og0176_01" 647) (.ref 375) rfl)) #[] : Obj)) ::
  (nat_lit 380, (Obj.mk (.type "code") none (.fields #[vs "_law_thing" 677, vs "_law_thing" 678, vs "/claim/cut.py" 679, .int 287 0, .int 2 0, .int 0 0, .int 0 0, .int 3 0, .ref 377, .bool true, .int 181 0, .ref 378, .none, .none, .none, .ref 379, .int 680 0, .int 287 0, vs "/claim/cut.py" 681]) #[] : Obj)) ::
  (nat_lit 381, (Obj.mk (.type "function") none (.func (fnF (atT 32) 3 (Str.ofString "_law_thing") (.none) (vs "law_og0176_01" 647) (.ref 380) rfl)) #[] : Obj)) ::
  (nat_lit 387, (Obj.mk (.type "code") none (.fields #[vs "_law_spoilt" 683, vs "_law_spoilt" 684, vs "/claim/cut.py" 685, .int 296 0, .int 1 0, .int 0 0, .int 0 0, .int 3 0, .ref 382, .bool true, .int 181 0, .ref 383, .none, .ref 384, .ref 385, .ref 386, .int 689 0, .int 296 0, vs "/claim/cut.py" 690]) #[] : Obj)) ::
  (nat_lit 388, (Obj.mk (.type "function") none (.func (fnF (atT 33) 3 (Str.ofString "_law_spoilt") (.none) (vs "law_og0176_01" 647) (.ref 387) rfl)) #[] : Obj)) ::
  (nat_lit 394, (Obj.mk (.type "code") none (.fields #[vs "_law_refused" 692, vs "_law_refused" 693, vs "/claim/cut.py" 694, .int 308 0, .int 3 0, .int 0 0, .int 0 0, .int 3 0, .ref 389, .bool true, .int 181 0, .ref 390, .none, .ref 391, .ref 392, .ref 393, .int 698 0, .int 308 0, vs "/claim/cut.py" 699]) #[] : Obj)) ::
  (nat_lit 395, (Obj.mk (.type "function") none (.func (fnF (atT 34) 3 (Str.ofString "_law_refused") (.none) (vs "law_og0176_01" 647) (.ref 394) rfl)) #[] : Obj)) ::
  (nat_lit 399, (Obj.mk (.type "code") none (.fields #[vs "_law_rows_right" 701, vs "_law_rows_right" 702, vs "/claim/cut.py" 703, .int 321 0, .int 2 0, .int 0 0, .int 0 0, .int 3 0, .ref 396, .bool true, .int 181 0, .ref 397, .none, .none, .none, .ref 398, .int 704 0, .int 321 0, vs "/claim/cut.py" 705]) #[] : Obj)) ::
  (nat_lit 400, (Obj.mk (.type "function") none (.func (fnF (atT 35) 3 (Str.ofString "_law_rows_right") (.none) (vs "law_og0176_01" 647) (.ref 399) rfl)) #[] : Obj)) ::
  (nat_lit 404, (Obj.mk (.type "code") none (.fields #[vs "law" 707, vs "law" 708, vs "/claim/cut.py" 709, .int 342 0, .int 1 0, .int 0 0, .int 0 0, .int 3 0, .ref 401, .bool true, .int 181 0, .ref 402, .none, .none, .none, .ref 403, .int 710 0, .int 342 0, vs "/claim/cut.py" 711]) #[] : Obj)) ::
  (nat_lit 405, (Obj.mk (.type "function") none (.func (fnF (atT 36) 3 (Str.ofString "law") (.none) (vs "law_og0176_01" 647) (.ref 404) rfl)) #[] : Obj)) :: []

noncomputable abbrev vwF {n : Str} {a : Arguments} {b : List Stmt} {ds : List PySem.Expr} {r : Option PySem.Expr} {tp : List TypeParam} {sc : Scope} {so : Option Scope} {an : Str} {po : Pos} (x : Option Stmt) (_ : some (Stmt.FunctionDef n a b ds r tp sc so an po) = x) : Program := { PRG with main := { PRG.main with body := [Stmt.FunctionDef n a b ds r tp sc so an po] } }
noncomputable def hd.view : Program := vwF (atT 36) rfl
noncomputable def hd.loose : List Str := [Str.ofString "_wall", Str.ofString "PaperError", Str.ofString "DraftFault", Str.ofString "Decimal", Str.ofString "sign_text", Str.ofString "Name", Str.ofString "String", Str.ofString "Stream", Str.ofString "Reference", Str.ofString "kind_of", Str.ofString "told_plain", Str.ofString "told", Str.ofString "value_of", Str.ofString "dict_of", Str.ofString "leaf_of", Str.ofString "pairs_of", Str.ofString "need", Str.ofString "grouped", Str.ofString "single", Str.ofString "shape_applied", Str.ofString "dict_shape", Str.ofString "dict_applied", Str.ofString "array_applied", Str.ofString "stream_applied", Str.ofString "_law_pen", Str.ofString "_law_draw", Str.ofString "_law_leaf", Str.ofString "_law_thing", Str.ofString "_law_spoilt", Str.ofString "_law_refused", Str.ofString "_law_rows_right"]
abbrev hd.as : List Addr := nat_lit 2 :: nat_lit 3 :: nat_lit 29 :: nat_lit 35 :: nat_lit 36 :: nat_lit 45 :: nat_lit 46 :: nat_lit 58 :: nat_lit 59 :: nat_lit 74 :: nat_lit 75 :: nat_lit 154 :: nat_lit 155 :: nat_lit 179 :: nat_lit 180 :: nat_lit 182 :: nat_lit 183 :: nat_lit 195 :: nat_lit 201 :: nat_lit 202 :: nat_lit 204 :: nat_lit 205 :: nat_lit 222 :: nat_lit 223 :: nat_lit 225 :: nat_lit 226 :: nat_lit 243 :: nat_lit 244 :: nat_lit 253 :: nat_lit 254 :: nat_lit 264 :: nat_lit 265 :: nat_lit 271 :: nat_lit 272 :: nat_lit 276 :: nat_lit 277 :: nat_lit 281 :: nat_lit 282 :: nat_lit 288 :: nat_lit 289 :: nat_lit 295 :: nat_lit 296 :: nat_lit 302 :: nat_lit 303 :: nat_lit 309 :: nat_lit 310 :: nat_lit 316 :: nat_lit 317 :: nat_lit 321 :: nat_lit 322 :: nat_lit 328 :: nat_lit 329 :: nat_lit 333 :: nat_lit 334 :: nat_lit 361 :: nat_lit 362 :: nat_lit 368 :: nat_lit 369 :: nat_lit 375 :: nat_lit 376 :: nat_lit 380 :: nat_lit 381 :: nat_lit 387 :: nat_lit 388 :: nat_lit 394 :: nat_lit 395 :: nat_lit 399 :: nat_lit 400 :: nat_lit 404 :: nat_lit 405 :: []
noncomputable abbrev hd.Xt : Shared → Bool := fun s => xlAt hd.view [] s && recOk PySem.Challenge.rw_og0176_01.row.toRowW.records s
set_option maxRecDepth 100000 in
set_option maxHeartbeats 0 in
theorem hd.run1 : ∀ (w : World) (os : OsState), (PySem.W.Fast.tw14082659384304107361 PySem.W.Fast.tw14364793385576792824 PRG w 11 (some (Value.ref 6)) 2800 ⟨boot_heap w.params, Array.mk [], boot_drawn, boot_toks, os⟩ (topStub PRG)).map (fun s =>
      (staticsOk (importedModules PRG.main.body) (boot_heap w.params) s.heap && namesBound PRG s.heap && gensDone s && laidKept (boot_heap w.params) s.heap,
        PySem.W.Fast.tw4187177175401517315 hd.view hd.loose (importedModules PRG.main.body) hd.Xt true s, hd.as.map s.heap.get?)) = some (true, openGood hd.view hd.loose, (hd.heap_39 w.params).map fun p => some p.2) := fun w os => by kernel_rfl
set_option maxRecDepth 100000 in
theorem hd.said0 : PySem.W.Fast.tw9446332074065402090 PySem.Challenge.rw_og0176_01 = true := by kernel_rfl
theorem hd.said : PySem.Challenge.rw_og0176_01.wellSaid = true := by
  have h := hd.said0
  rw [← PySem.W.Fast.te9446332074065402090] at h
  exact h
theorem hd.open_ : ∀ w : World, (fencedOpening treeTable PRG w 5678).map (fun s => (s.heap, s.gens, s.drawn, s.toks)) = some (boot_heap w.params, Array.mk [], boot_drawn, boot_toks) :=
  boot_open (by kernel_rfl) (by rfl) (fun s => by kernel_rfl)
theorem hd.size : ∀ w : World, ((boot_heap w.params).isNs mainGlobals && (Array.mk ([] : List GenState)).size == 0, (boot_heap w.params).objs.size, (boot_heap w.params).nsMap mainGlobals "__annotations__") = (true, 11, some (.ref 6)) := fun w => by kernel_rfl
theorem hd.run2 : ∀ (w : World) (os : OsState), (topRun treeTable PRG w 11 (some (Value.ref 6)) 2800 ⟨boot_heap w.params, Array.mk [], boot_drawn, boot_toks, os⟩ (topStub PRG)).map (fun s =>
      (staticsOk (importedModules PRG.main.body) (boot_heap w.params) s.heap && namesBound PRG s.heap && gensDone s && laidKept (boot_heap w.params) s.heap,
        openSeen hd.view hd.loose (importedModules PRG.main.body) hd.Xt true s, hd.as.map s.heap.get?)) = some (true, openGood hd.view hd.loose, (hd.heap_39 w.params).map fun p => some p.2) := by
  have h := hd.run1
  rw [← PySem.W.Fast.te14082659384304107361, ← PySem.W.Fast.te14364793385576792824, ← PySem.W.Fast.te4187177175401517315] at h
  exact h
theorem hd.left : LeftO PRG hd.view hd.loose hd.Xt (fun s => hd.as.map s.heap.get?) (fun w => (hd.heap_39 w.params).map fun p => some p.2) 5678 true := left_of_boot hd.open_ hd.size hd.run2 (by rfl)
noncomputable abbrev hd.hook : Hook := kHook hd.heap_39 hd.as (fun _ => by kernel_rfl)
end
open PySem PySem.W PyProof.Rows PySem.Calls PySem.SeqAt
section
open PySem PySem.W PyProof.Rows
noncomputable def Ext (W : List Addr) (h h' : Heap) : Prop := ∀ b o, h.get? b = some o → b ∉ W → h'.get? b = some o
theorem ext_of {W : List Addr} {h g h' : Heap} {L : Addr} {m : Str → Option Value} (G : GSub h g W) (F : Fr g L h' m) : Ext W h h' := fun b o e n => F.keep b o (G b o e n)
noncomputable abbrev arnd (dp un : Nat) (gd : Option (List Code)) (env : Env) (outer : List Env) : Around := { handled := none, depth := dp, frames := some (env :: outer), guards := gd, units := un }
section
variable (w : World) (p : Program) (loose : List Str) (mean : ExcName → Option Value) (mg mb : Str → Option Value)
noncomputable def Spec (f : Addr) (vs : List Value) (dn un : Nat) (NL : List (Addr × Obj)) (Post : List (Addr × Obj) → Value → Prop) : Prop :=
  ∀ (dp u : Nat) (gd : Option (List Code)) (A₀ : Around) (base h₀ : Heap) (env : Env) (outer : List Env) (L : Addr) (m : Str → Option Value) (s : Shared) (Q E : Value → Shared → Prop),
    Below A₀ base outer h₀ → Fr h₀ L s.heap m → (hd.heap_39 w.params).In h₀ → Top p loose mean mg mb h₀ → env.frame = some L → env.scope.kind = .function → dp + dn < recursionLimit → u + un < cLine →
    News h₀ L s.heap NL →
    (∀ r h' tk' NL', Fr h₀ L h' m → News h₀ L h' NL' → Ext (NL.map (·.1)) s.heap h' → Post NL' r → Q r { s with heap := h', toks := tk' }) →
    wpAny (model PySem.Challenge.rw_og0176_01.row.prog w) (arnd dp u gd env outer) (call (.ref f) vs) Q E s
end
noncomputable def Above (NL tl : List (Addr × Obj)) : Prop := ∀ q ∈ NL, ∀ p ∈ tl, @LT.lt Nat _ q.1 p.1

theorem code_defCG {prog : Program} {w : World} {A₀ A : Around} {s : Shared} {K : Frag} {base h₀ : Heap} {outer : List Env} {L : Addr} {m mg mb : Str → Option Value} {p : Program} {loose : List Str} {mean : ExcName → Option Value} {env : Env} {news : List (Addr × Obj)}
    {R : Result → Shared → Prop} {name qual : Str} {params : Arguments} {body : List Stmt} {scope : Scope} {dV kV doc pm cdv ct oc : Value} {an od : Option Addr} {osl : Array (Option Value)} {f : Addr} {args : Args} {binds : List (Str × Value)}
    (B : Below A₀ base outer h₀) (F : Fr h₀ L s.heap m) (X₀ : K.In h₀) (N : News h₀ L s.heap news) (T : Top p loose mean mg mb h₀) (hA : A.frames = some (env :: outer)) (hf : env.frame = some L) (hke : env.scope.kind = .function)
    (ho : K.lookup f = some ⟨oc, od, .func (fnOf name qual params body scope dV kV doc pm an cdv ct), osl⟩) (hcd : codeIn K cdv qual = true) (hroom : A.depth < recursionLimit)
    (hbind : BindsTo s (fnOf name qual params body scope dV kV doc pm an cdv ct) args binds) (hkind : (binds.all fun y => scope.names.lookup y.1 == some .local || scope.names.lookup y.1 == some .cell) = true)
    (hnd : ((cellsFrom 0 scope.names []).map (·.1)).Nodup)
    (h : ∀ g L' h₁ tk cells, Fr h₀ L g m → Fr g L' h₁ (bindL (envOfC qual scope L' f cdv).kindOf binds fun _ => none) → News g L' h₁ (cells ++ news) →
      CellsAre (bindC (envOfC qual scope L' f cdv).kindOf binds fun _ => none) (cellsFrom (L' + 1) scope.names []) cells → Below A base (env :: outer) g → K.In g → Top p loose mean mg mb g → (∀ p ∈ news, p.1 < L') → GSub s.heap g (news.map (·.1)) →
      wpAny (model prog w) (A.deeper (envOfC qual scope L' f cdv)) (execs body (envOfC qual scope L' f cdv))
        (fun fl s' => LeaveK h₀ L m g R (match fl with | .ret v => v | _ => .none) s')
        (fun e s' => wpAny (model prog w) (A.deeper (envOfC qual scope L' f cdv)) (leaving (envOfC qual scope L' f cdv) e) (fun _ s'' => R (.error e) s'') (fun e' s'' => R (.error e') s'') s')
        { s with heap := h₁, toks := tk })
    (hco : scope.isCoroutine = false) (hgen : scope.isGenerator = false) (hk : scope.kind = .function) : codeAny (model prog w) A (.call (.ref f) args) R s := by
  obtain ⟨FG, BG, st, lv⟩ := groundX (R := R) B F N hA hf hke
  refine codeAny_call_function hroom ((X₀.keeps F.keep) _ _ ho) rfl hco hgen rfl (codeRec_of (X₀.keeps F.keep) hcd) (hbind _ _ _ _ ?_)
  refine wpAny_newFunctionEnv_cells hk (kindsX hkind _) fun env' he s' x => ?_
  subst he
  refine ⟨(T.nolimit.keeps F.keep).keeps x.toInCall.keep, codeAny_func ?_⟩
  obtain ⟨h₁, tk, rfl, _⟩ := x.done
  have hk₁ := x.toInCall.keep
  obtain ⟨cells, NC, Y⟩ := Cl.news (h₀ := s.heap) (Nat.le_refl _) fun n c hm => ⟨x.cell n c (lookup_of_mem_nodup (cellsFrom_names scope.names 0 (s.heap.objs.size + 1) [] [] rfl ▸ hnd) hm), x.above n c hm⟩
  refine wpAny_mono (h _ s.heap.objs.size h₁ tk cells FG ⟨x.toInCall.ns, fun b o e => hk₁ b o (of_hideAll _ e), Nat.le_of_eq (hideAll_size _ _)⟩ (fun p hp => ?_) Y BG (X₀.keeps st) (T.keeps st) (fun p hp => Heap.lt_size (N p hp).1) (fun b o e n => hideAll_get _ e n)) (fun fl s' hl => lv _ _ hl) fun _ _ y => y
  rcases List.mem_append.mp hp with hp | hp
  · refine ⟨(NC p hp).1, (NC p hp).2.1, ?_⟩
    cases q : (hideAll s.heap (news.map (·.1))).get? p.1 with
    | none => rfl
    | some o => have := of_hideAll _ q; rw [(NC p hp).2.2] at this; cases this
  · exact ⟨hk₁ _ _ (N p hp).1, Nat.ne_of_lt (Heap.lt_size (N p hp).1), hideAll_none _ (List.mem_map_of_mem hp)⟩
section
variable {w : World} {p : Program} {loose : List Str} {mean : ExcName → Option Value} {mg mb : Str → Option Value} {f : Addr} {vs : List Value} {dn un : Nat} {NL : List (Addr × Obj)} {Post : List (Addr × Obj) → Value → Prop}
theorem spec_use (Sp : Spec w p loose mean mg mb f vs dn un NL Post) {dp u : Nat} {gd : Option (List Code)} {A₀ : Around} {base h₀ : Heap} {env : Env} {outer : List Env} {L : Addr} {m : Str → Option Value} {s : Shared} {Q E : Value → Shared → Prop}
    (B : Below A₀ base outer h₀) (F : Fr h₀ L s.heap m) (X : (hd.heap_39 w.params).In h₀) (T : Top p loose mean mg mb h₀) (hf : env.frame = some L) (hk : env.scope.kind = .function) (hd : dp + dn < recursionLimit) (hu : u + un < cLine)
    (N : News h₀ L s.heap NL)
    (ret : ∀ r h' tk' NL', Fr h₀ L h' m → News h₀ L h' NL' → Ext (NL.map (·.1)) s.heap h' → Post NL' r → Q r { s with heap := h', toks := tk' }) :
    wpAny (model PySem.Challenge.rw_og0176_01.row.prog w) (arnd dp u gd env outer) (call (.ref f) vs) Q E s := Sp _ _ _ _ _ _ _ _ _ _ _ _ _ B F X T hf hk hd hu N ret
theorem spec_useG (Sp : Spec w p loose mean mg mb f vs dn un NL Post) {dp u : Nat} {gd : Option (List Code)} {A₀ : Around} {base h₀ : Heap} {env : Env} {outer : List Env} {L : Addr} {m : Str → Option Value} {s : Shared} {Q E : Value → Shared → Prop}
    (B : Below A₀ base outer h₀) (F : Fr h₀ L s.heap m) (X : (hd.heap_39 w.params).In h₀) (T : Top p loose mean mg mb h₀) (hf : env.frame = some L) (hk : env.scope.kind = .function) (hd : dp + dn < recursionLimit) (hu : u + un < cLine)
    (N : News h₀ L s.heap NL)
    (ret : ∀ G : Value → Heap → Nat → List (Addr × Obj) → Prop, (∀ r h' tk' NL', Q r { s with heap := h', toks := tk' } → G r h' tk' NL') → ∀ r h' tk' NL', Fr h₀ L h' m → News h₀ L h' NL' → Ext (NL.map (·.1)) s.heap h' → Post NL' r → G r h' tk' NL') :
    wpAny (model PySem.Challenge.rw_og0176_01.row.prog w) (arnd dp u gd env outer) (call (.ref f) vs) Q E s := spec_use Sp B F X T hf hk hd hu N (ret (fun r h' tk' _ => Q r { s with heap := h', toks := tk' }) fun _ _ _ _ z => z)
end
section
variable {M : Model} {A : Around} {E : Value → Shared → Prop} {env : Env} {pos : Pos} {hp : Heap} {gs : Array GenState} {dr : Drawn} {tk : Nat} {oss : OsState}
theorem const_int {i : Int} {k : Nat} {Q : Value → Shared → Prop} (x : Q (.int i tk) ⟨hp, gs, dr, tk + 1, oss⟩) : wpAny M A (eval (.Constant (.int i) k pos) env) Q E ⟨hp, gs, dr, tk, oss⟩ := wpAny_Constant_int x
theorem const_str {i : Str} {k : Nat} {Q : Value → Shared → Prop} (x : Q (.str i tk) ⟨hp, gs, dr, tk + 1, oss⟩) : wpAny M A (eval (.Constant (.str i) k pos) env) Q E ⟨hp, gs, dr, tk, oss⟩ := PySem.Calls.Constant_str x
noncomputable abbrev upd (m : Str → Option Value) (x : Str) (v : Value) : Str → Option Value := fun y => if y = x then some v else m y
theorem store_LC {h₀ : Heap} {L a : Addr} {m : Str → Option Value} {cn : Str} {cs : Scope} {ccd : Value} {cl : List (Str × Addr)} {x : Str} {v : Value} {Q : Unit → Shared → Prop} {news : List (Addr × Obj)} (F : Fr h₀ L hp m) (N : News h₀ L hp news)
    (k : ∀ h', Fr h₀ L h' (upd m x v) → News h₀ L h' news → Q () ⟨h', gs, dr, tk + 1, oss⟩)
    (hk : cs.kind = .function) (hx : (envX cn cs L a ccd cl).kindOf x = some .local) : wpAny M A (storeName (envX cn cs L a ccd cl) x v) Q E ⟨hp, gs, dr, tk, oss⟩ := storeX_L (s := ⟨hp, gs, dr, tk, oss⟩) F N k hk hx
end
theorem via {B : Prop} (h : ∀ G : Prop, (B → G) → G) : B := h B id
theorem rm1 {a k K R : Nat} (rmh : a + K < R) (rme : Nat.ble k K = true) : a + k < R := by have := Nat.le_of_ble_eq_true rme; omega
theorem rm2 {a j k K R : Nat} (rmh : a + K < R) (rme : Nat.ble (j + k) K = true) : a + j + k < R := by have := Nat.le_of_ble_eq_true rme; omega
theorem asm2 {a n b : Nat} (h : a + n < b) : a < b := by omega
end
section
open PySem PySem.W PyProof.Rows PySem.Calls
noncomputable def Off (nw : List (Addr × Obj)) (adr : List Addr) : Prop := ∀ p ∈ nw, p.1 ∉ adr
inductive CEnd (h₀ : Heap) (L : Addr) (m : Str → Option Value) (adr : List Addr) (own : List (Addr × Obj)) (Jn : List (Addr × Obj) → Prop) (s₁ s₂ : Shared) : Prop
  | mk (h' : Heap) (tk : Nat) (nw : List (Addr × Obj)) : s₂ = { s₁ with heap := h', toks := tk } → Fr h₀ L h' m → News h₀ L h' (own ++ nw) → Off nw adr → Jn nw → CEnd h₀ L m adr own Jn s₁ s₂

theorem fr_same {h₀ h h' : Heap} {L D : Addr} {m : Str → Option Value} (F : Fr h₀ L h m) (hs : Heap.SameBut D h h') (hL : L ≠ D) (h0 : h₀.get? D = none) : Fr h₀ L h' m :=
  ⟨F.ns.sameBut hs hL, fun b o e => hs.extBut b o (fun q => by rw [q, h0] at e; cases e) (F.keep b o e), F.above⟩
theorem news_same {h₀ h h' : Heap} {L D : Addr} {nw : List (Addr × Obj)} (N : News h₀ L h nw) (hs : Heap.SameBut D h h') (hn : ∀ p ∈ nw, p.1 ≠ D) : News h₀ L h' nw :=
  fun p hp => ⟨hs.extBut _ _ (hn p hp) (N p hp).1, (N p hp).2⟩

section
variable {prog : Program} {w : World} {A : Around} {E : Value → Shared → Prop} {s : Shared} {env : Env} {h₀ : Heap} {L : Addr} {m : Str → Option Value}
  {target elt iter : Expr} {ifs : List Expr} {scope : Scope} {cl : List (Str × Addr)} {pos : Pos} {Q : Value → Shared → Prop}
  {I : Addr} {fp wr : List Addr} {n : Nat} {P Md : Nat → Value → Heap → Prop} {St : Nat → Heap → Prop} {nw₀ : List (Addr × Obj)}

noncomputable def CompRun (prog : Program) (w : World) (A : Around) (E : Value → Shared → Prop) (env : Env) (e : Expr) (scope : Scope) (cl : List (Str × Addr)) (Q : Value → Shared → Prop) (it : Value) (s : Shared) : Prop :=
  wpAny (model prog w) A (newList []) (fun acc s₃ => wpAny (model prog w) A (newFunctionEnv scope env.globals cl [] env.qual none .none (some env)) (fun cenv s₄ =>
    codeAny (model prog w) A (.compStart e 0 it acc { cenv with scope := relabel scope env }) (compPost (model prog w) A E none Q acc cenv.locals) s₄) E s₃) E s

theorem comp_eval (hclos : closureFor scope env = pure cl) (hkind : scope.kind = .function) (hnames : ∀ y ∈ scope.names, y.2 = .local → scope.names.lookup y.1 = some .local)
    (h : wpAny (model prog w) A (eval iter env) (fun xv s₁ => wpAny (model prog w) A (pyIter xv) (fun it s₂ => CompRun prog w A E env (.ListComp elt [⟨target, iter, ifs, 0⟩] scope pos) scope cl Q it s₂) E s₁) E s)
    (hs : ∀ x, foldedSetIterable iter env x = pure x := by intro _; rfl) :
    wpAny (model prog w) A (eval (.ListComp elt [⟨target, iter, ifs, 0⟩] scope pos) env) Q E s := by
  rw [eval_ListComp]
  exact wpAny_comprehension_free (use := none) rfl hs hclos hkind hnames h

theorem comp_turnsR (RR : Value → Addr → Result → Shared → Prop) (J : Nat → List Value → List (Addr × Obj) → Prop) (G : Nat → Value → (Str → Option Value) → Prop) (W : KTurns prog w A target I fp wr n P Md St)
    (hself : ∀ (s : Shared) (Q : Value → Shared → Prop) (E : Value → Shared → Prop), St 0 s.heap → Q (.ref I) s → wpAny (model prog w) A (pyIter (.ref I)) Q E s)
    (hLf : L ∉ fp) (hwr : ∀ b ∈ wr, h₀.get? b = none) (hfp : ∀ b ∈ fp, b < s.heap.objs.size) (hnw : Off nw₀ wr) (hst : St 0 s.heap) (F : Fr h₀ L s.heap m) (N : News h₀ L s.heap nw₀) (h0 : J 0 [] nw₀) (hsz : n ≤ sizeLine)
    (hcell : ∀ y ∈ scope.names, y.2 ≠ .cell) (hkind : scope.kind = .function)
    (hass : ∀ (C : Addr) i v (s₁ : Shared) (mC : Str → Option Value) (Q' : Unit → Shared → Prop) (E' : Value → Shared → Prop), P i v s₁.heap → s₁.heap.Ns C mC → C ∉ fp →
      (∀ h₂ tk₂ mC', Heap.ExtBut C s₁.heap h₂ → h₂.Ns C mC' → G i v mC' → Q' () { s₁ with heap := h₂, toks := tk₂ }) → wpAny (model prog w) A (assign target (compEnvC scope cl C env) v) Q' E' s₁)
    (step : ∀ (C D : Addr) oC own i v ys kD nw h tk mC (E' : Value → Shared → Prop), i < n → G i v mC → J i ys nw → Off nw (C :: D :: wr) → (∀ b ∈ wr, b < D) → s.heap.objs.size ≤ D → D < C → (∀ p ∈ own, p.1 ∈ fp) → Fr h₀ L h m → h.Ns C mC →
      News h₀ L h ((C, oC) :: (D, listOf ys.toArray kD) :: (own ++ nw)) →
      wpAny (model prog w) A (forIn ifs true fun c r => if r = true then do let ok ← isTrue c (compEnvC scope cl C env) (eval c (compEnvC scope cl C env)); pure (ForInStep.yield ok) else pure (ForInStep.yield r))
        (fun ok s₃ => if ok = true then wpAny (model prog w) A (eval elt (compEnvC scope cl C env)) (fun y s₄ => CEnd h₀ L m (C :: D :: wr) ((C, oC) :: (D, listOf ys.toArray kD) :: own) (J (i + 1) (ys ++ [y])) { s with heap := h, toks := tk } s₄) E' s₃
          else CEnd h₀ L m (C :: D :: wr) ((C, oC) :: (D, listOf ys.toArray kD) :: own) (J (i + 1) ys) { s with heap := h, toks := tk } s₃) E' { s with heap := h, toks := tk })
    (done : ∀ (D C : Addr) ys kD nw h tk mC, s.heap.objs.size ≤ D → D < C → Off nw [C, D] → J n ys nw → Fr h₀ L h m → h.Ns C mC → h₀.get? C = none → L ≠ C → News h₀ L h ((D, listOf ys.toArray kD) :: nw) → RR (.ref D) C (.ok .next) { s with heap := h, toks := tk }) :
    wpAny (model prog w) A (newList []) (fun acc s₃ => wpAny (model prog w) A (newFunctionEnv scope env.globals cl [] env.qual none .none (some env)) (fun cenv s₄ =>
    codeAny (model prog w) A (.compStart (.ListComp elt [⟨target, iter, ifs, 0⟩] scope pos) 0 (.ref I) acc { cenv with scope := relabel scope env }) (RR acc cenv.locals) s₄) E s₃) E s := by
  refine wpAny_newObj_type (wpAny_newFunctionEnv hcell (by intro y hy; simp at hy) (fun h₁ hns₁ hsb₁ => ?_) hkind)
  dsimp only at hns₁ hsb₁ ⊢
  generalize hH2 : s.heap.push { cls := .type "list", dict := none, data := .seq ([] : List Value).toArray } = H2 at hns₁ hsb₁ ⊢
  have hC : H2.objs.size = s.heap.objs.size + 1 := by rw [← hH2, Heap.size_push]
  have hDC : s.heap.objs.size ≠ H2.objs.size := by rw [hC]; exact Nat.ne_of_lt (Nat.lt_succ_self _)
  have below : ∀ b, b < s.heap.objs.size → b ≠ H2.objs.size ∧ b ≠ s.heap.objs.size := fun b hb => ⟨by rw [hC]; exact Nat.ne_of_lt (Nat.lt_succ_of_lt hb), Nat.ne_of_lt hb⟩
  have hDf : s.heap.objs.size ∉ fp := fun hm => Nat.lt_irrefl _ (hfp _ hm)
  have hCf : H2.objs.size ∉ fp := fun hm => by have := hfp _ hm; rw [hC] at this; exact Nat.lt_irrefl _ (Nat.lt_of_succ_lt this)
  have old : ∀ b o, s.heap.get? b = some o → h₁.get? b = some o := fun b o e => hsb₁.extBut b o (below b (Heap.lt_size e)).1 (Heap.get?_push_of_some _ (hH2 ▸ Heap.get?_push_of_some _ e))
  have hacc : h₁.get? s.heap.objs.size = some (listOf ([] : List Value).toArray 0) := hsb₁.extBut _ _ hDC (Heap.get?_push_of_some _ (hH2 ▸ Heap.get?_push_size _ rfl))
  have new0 : ∀ b, s.heap.objs.size ≤ b → h₀.get? b = none := fun b hb => by
    cases e : h₀.get? b with
    | none => rfl
    | some o => exact absurd (Heap.lt_size (F.keep b o e)) (Nat.not_lt.mpr hb)
  have hLs : L < s.heap.objs.size := F.ns.lt
  have hLC : L ≠ H2.objs.size := (below L hLs).1
  have hLD : L ≠ s.heap.objs.size := (below L hLs).2
  have hDle : s.heap.objs.size ≤ s.heap.objs.size := Nat.le_refl _
  have hCle : s.heap.objs.size ≤ H2.objs.size := by rw [hC]; exact Nat.le_succ _
  have hDltC : s.heap.objs.size < H2.objs.size := by rw [hC]; exact Nat.lt_succ_self _
  have hDw : s.heap.objs.size ∉ wr := fun h => hDf (W.sub _ h)
  have hCw : H2.objs.size ∉ wr := fun h => hCf (W.sub _ h)
  have hLw : L ∉ wr := fun h => hLf (W.sub _ h)
  have F₁ : Fr h₀ L h₁ m := ⟨F.ns.at' fun o e => old L o e, fun b o e => old b o (F.keep b o e), F.above⟩
  have N₁ : News h₀ L h₁ nw₀ := fun p hp => ⟨old _ _ (N p hp).1, (N p hp).2⟩
  have hoff₁ : Off nw₀ (H2.objs.size :: s.heap.objs.size :: wr) := fun p hp hm => by
    have hlt := Heap.lt_size (N p hp).1
    rcases List.mem_cons.mp hm with e | hm
    · exact (below _ hlt).1 e
    · rcases List.mem_cons.mp hm with e | hm
      · exact (below _ hlt).2 e
      · exact hnw p hp hm
  have hst₁ : St 0 h₁ := W.frame _ _ _ hst fun b _ o e => old b o e
  have loop : ∀ s₃ : Shared, s₃ = { s with heap := h₁, toks := s.toks + ([] : List (Str × Value)).length } →
      codeAny (model prog w) A (.compLoop (.ListComp elt [⟨target, iter, ifs, 0⟩] scope pos) 0 (.ref I) (.ref s.heap.objs.size) (compEnvC scope cl H2.objs.size env))
        (RR (.ref s.heap.objs.size) H2.objs.size) s₃ := by
    rintro s₃ rfl
    refine codeAny_loop rfl
      (fun k s' => ∃ h' tk i ys kD nw mC, s' = { s with heap := h', toks := tk } ∧ St i h' ∧ Fr h₀ L h' m ∧ h'.Ns H2.objs.size mC ∧ h'.get? s.heap.objs.size = some (listOf ys.toArray kD) ∧ News h₀ L h' nw ∧
        Off nw (H2.objs.size :: s.heap.objs.size :: wr) ∧ J i ys nw ∧ i ≤ n ∧ ys.length ≤ i ∧ k = n + 1 - i) ?_ (n + 1)
      ⟨h₁, _, 0, [], 0, nw₀, _, rfl, hst₁, F₁, hns₁, hacc, N₁, hoff₁, h0, Nat.zero_le _, Nat.le_refl _, rfl⟩
    (intro k s' hZZ; refine via fun GG hGG => ?_; obtain ⟨h', tk, i, ys, kD, nw, mC, rfl, hst', F', hn', hacc', N', hoff', hJ, hi, hys, rfl⟩ := hZZ; refine hGG ?_; clear hGG GG)
    show wpAny _ A ((compTurn (.ListComp elt [⟨target, iter, ifs, 0⟩] scope pos) 0 (.ref I) (.ref s.heap.objs.size) (compEnvC scope cl H2.objs.size env)).onRaise (fun x => do noteFrame x (compEnvC scope cl H2.objs.size env); theTreesLotGoes x)) _ _ _
    refine wpAny_noted ?_
    rw [compTurn_list]
    refine wpAny_bind (wpAny_standAt (wpAny_bind ?_))
    have next : ∀ h₂ : Heap, (∀ b o, b ∉ wr → h'.get? b = some o → h₂.get? b = some o) → Fr h₀ L h₂ m ∧ News h₀ L h₂ nw ∧ h₂.Ns H2.objs.size mC ∧ h₂.get? s.heap.objs.size = some (listOf ys.toArray kD) := fun h₂ hk =>
      ⟨⟨F'.ns.at' fun o e => hk _ o hLw e, fun b o e => hk b o (fun hb => by rw [hwr b hb] at e; cases e) (F'.keep b o e), F'.above⟩,
        fun p hp => ⟨hk _ _ (fun hb => hoff' p hp (.tail _ (.tail _ hb))) (N' p hp).1, (N' p hp).2⟩, hn'.at' fun o e => hk _ o hCw e, hk _ _ hDw hacc'⟩
    by_cases hlt : i < n
    · refine W.item i _ _ _ hlt hst' fun v h₂ tk₂ hMd hk₂ => ?_
      refine wpAny_bind (W.go i v _ _ _ hMd fun h₃ hP hst₃ hk₃ => ?_)
      obtain ⟨F₃, N₃, hn₃, hacc₃⟩ := next h₃ fun b o hb x => hk₃ b o hb (hk₂ b o hb x)
      refine wpAny_bind (hass _ i v _ _ _ _ hP hn₃ hCf fun h₄ tk₄ mC' hs₄ hn₄ hG => ?_)
      dsimp only at hs₄
      have F₄ : Fr h₀ L h₄ m := ⟨F₃.ns.at' fun o e => hs₄ _ o hLC e, fun b o e => hs₄ b o (fun q => by rw [q, new0 _ hCle] at e; cases e) (F₃.keep b o e), F₃.above⟩
      have N₄ : News h₀ L h₄ nw := fun p hp => ⟨hs₄ _ _ (fun e => hoff' p hp (by rw [e]; exact .head _)) (N₃ p hp).1, (N₃ p hp).2⟩
      have hacc₄ : h₄.get? s.heap.objs.size = some (listOf ys.toArray kD) := hs₄ _ _ hDC hacc₃
      have hst₄ : St (i + 1) h₄ := W.frame _ _ _ hst₃ fun b hb o e => hs₄ b o (fun q => hCf (q ▸ hb)) e
      have Nown : News h₀ L h₄ (PyProof.Rows.ownOf h₀ fp h₄) := news_ownOf hLf
      obtain ⟨oC, hoC⟩ : ∃ oC, h₄.get? H2.objs.size = some oC := by obtain ⟨oC, _, _, hoC, _⟩ := hn₄; exact ⟨oC, hoC⟩
      have NC : News h₀ L h₄ ((H2.objs.size, oC) :: (s.heap.objs.size, listOf ys.toArray kD) :: (PyProof.Rows.ownOf h₀ fp h₄ ++ nw)) := by
        intro p hp
        rcases List.mem_cons.mp hp with rfl | hp
        · exact ⟨hoC, Ne.symm hLC, new0 _ hCle⟩
        · rcases List.mem_cons.mp hp with rfl | hp
          · exact ⟨hacc₄, Ne.symm hLD, new0 _ hDle⟩
          · exact (List.mem_append.mp hp).elim (Nown p) (N₄ p)
      have hown : ∀ b ∈ wr, b < s.heap.objs.size := fun b hb => hfp b (W.sub b hb)
      have fin : ∀ ys' (s₅ : Shared), CEnd h₀ L m (H2.objs.size :: s.heap.objs.size :: wr) ((H2.objs.size, oC) :: (s.heap.objs.size, listOf ys.toArray kD) :: PyProof.Rows.ownOf h₀ fp h₄) (J (i + 1) ys') { s with heap := h₄, toks := tk₄ } s₅ →
          ∃ h₅ tk₅ nw₅, s₅ = { s with heap := h₅, toks := tk₅ } ∧ St (i + 1) h₅ ∧ Fr h₀ L h₅ m ∧ (∃ mC₅, h₅.Ns H2.objs.size mC₅) ∧ h₅.get? s.heap.objs.size = some (listOf ys.toArray kD) ∧ News h₀ L h₅ nw₅ ∧ Off nw₅ (H2.objs.size :: s.heap.objs.size :: wr) ∧ J (i + 1) ys' nw₅ := by
        rintro ys' s₅ ⟨h₅, tk₅, nw₅, rfl, F₅, N₅, hoff₅, hJ₅⟩
        refine ⟨h₅, tk₅, nw₅, rfl, ?_, F₅, ⟨_, hn₄.at' fun o e => ?_⟩, (N₅ _ (.tail _ (.head _))).1, fun p hp => N₅ p (List.mem_append.mpr (.inr hp)), hoff₅, hJ₅⟩
        · refine W.frame _ _ _ hst₄ fun b hb o e => ?_
          cases hn : h₀.get? b with
          | some o₀ =>
            have : o₀ = o := by have q := F₄.keep b o₀ hn; rw [e] at q; exact (Option.some.inj q).symm
            exact this ▸ F₅.keep b o₀ hn
          | none => exact (N₅ _ (List.mem_append.mpr (.inl (.tail _ (.tail _ (mem_ownOf hb hn e)))))).1
        · rw [hoC] at e; cases e; exact (N₅ _ (.head _)).1
      refine wpAny_bind (wpAny_mono (step _ _ oC _ i v ys kD nw h₄ tk₄ mC' _ hlt hG hJ hoff' hown hDle hDltC ownOf_sub F₄ hn₄ NC) (fun ok s₅ h₅ => ?_) fun _ _ e => e)
      cases ok with
      | false =>
        (refine via fun GG hGG => ?_; obtain ⟨h₆, tk₆, nw₆, rfl, hst₆, F₆, ⟨mC₆, hn₆⟩, hacc₆, N₆, hoff₆, hJ₆⟩ := fin ys _ h₅; refine hGG ?_; clear hGG GG)
        exact wpAny_pure ⟨rfl, n + 1 - (i + 1), by omega, h₆, tk₆, i + 1, ys, kD, nw₆, mC₆, rfl, hst₆, F₆, hn₆, hacc₆, N₆, hoff₆, hJ₆, hlt, Nat.le_succ_of_le hys, rfl⟩
      | true =>
        refine wpAny_bind (wpAny_bind (wpAny_mono h₅ (fun y s₆ h₆ => wpAny_bind ?_) fun _ _ e => e))
        (refine via fun GG hGG => ?_; obtain ⟨h₇, tk₇, nw₇, rfl, hst₇, F₇, ⟨mC₇, hn₇⟩, hacc₇, N₇, hoff₇, hJ₇⟩ := fin _ _ h₆; refine hGG ?_; clear hGG GG)
        refine wpAny_list_append_plain (items := ys.toArray) (hsz := by rw [List.size_toArray]; omega) ⟨kD, hacc₇⟩ fun h₈ hl₈ hs₈ => ?_
        dsimp only at hs₈
        obtain ⟨kD₈, hl₈⟩ := hl₈
        refine wpAny_pure (wpAny_pure ⟨rfl, n + 1 - (i + 1), by omega, h₈, tk₇, i + 1, ys ++ [y], kD₈, nw₇, mC₇, rfl, ?_, fr_same F₇ hs₈ hLD (new0 _ hDle), hn₇.sameBut hs₈ (Ne.symm hDC), by rw [hl₈]; simp, news_same N₇ hs₈ fun p hp e => hoff₇ p hp (by rw [e]; exact .tail _ (.head _)), hoff₇, hJ₇, hlt, by simp; omega, rfl⟩)
        exact W.frame _ _ _ hst₇ fun b hb o e => hs₈.extBut b o (fun q => hDf (q ▸ hb)) e
    · have hin : i = n := by omega
      subst hin
      refine W.done _ _ _ hst' fun h₂ tk₂ hk₂ => ?_
      obtain ⟨F₂, N₂, hn₂, hacc₂⟩ := next h₂ hk₂
      refine wpAny_pure (done _ _ ys kD nw h₂ tk₂ mC hDle hDltC (fun p hp e => hoff' p hp ?_) hJ F₂ hn₂ (new0 _ hCle) hLC fun p hp => ?_)
      · rcases List.mem_cons.mp e with e | e
        · rw [e]; exact .head _
        · rw [List.mem_singleton.mp e]; exact .tail _ (.head _)
      · rcases List.mem_cons.mp hp with rfl | hp
        · exact ⟨hacc₂, Ne.symm hLD, new0 _ hDle⟩
        · exact N₂ p hp
  exact codeAny_compStart_list (loop _ rfl) (hself _ _ _ hst₁ (loop _ rfl))

theorem comp_turnsO (J : Nat → List Value → List (Addr × Obj) → Prop) (G : Nat → Value → (Str → Option Value) → Prop) (W : KTurns prog w A target I fp wr n P Md St)
    (hself : ∀ (s : Shared) (Q : Value → Shared → Prop) (E : Value → Shared → Prop), St 0 s.heap → Q (.ref I) s → wpAny (model prog w) A (pyIter (.ref I)) Q E s)
    (hLf : L ∉ fp) (hwr : ∀ b ∈ wr, h₀.get? b = none) (hfp : ∀ b ∈ fp, b < s.heap.objs.size) (hnw : Off nw₀ wr) (hst : St 0 s.heap) (F : Fr h₀ L s.heap m) (N : News h₀ L s.heap nw₀) (h0 : J 0 [] nw₀) (hsz : n ≤ sizeLine)
    (hcell : ∀ y ∈ scope.names, y.2 ≠ .cell) (hkind : scope.kind = .function)
    (hass : ∀ (C : Addr) i v (s₁ : Shared) (mC : Str → Option Value) (Q' : Unit → Shared → Prop) (E' : Value → Shared → Prop), P i v s₁.heap → s₁.heap.Ns C mC → C ∉ fp →
      (∀ h₂ tk₂ mC', Heap.SameBut C s₁.heap h₂ → h₂.Ns C mC' → G i v mC' → Q' () { s₁ with heap := h₂, toks := tk₂ }) → wpAny (model prog w) A (assign target (compEnvC scope cl C env) v) Q' E' s₁)
    (step : ∀ (C D : Addr) oC own i v ys kD nw h tk mC (E' : Value → Shared → Prop), i < n → G i v mC → J i ys nw → Off nw (C :: D :: wr) → (∀ b ∈ wr, b < D) → s.heap.objs.size ≤ D → D < C → (∀ p ∈ own, p.1 ∈ fp) → Fr h₀ L h m → h.Ns C mC →
      News h₀ L h ((C, oC) :: (D, listOf ys.toArray kD) :: (own ++ nw)) →
      wpAny (model prog w) A (forIn ifs true fun c r => if r = true then do let ok ← isTrue c (compEnvC scope cl C env) (eval c (compEnvC scope cl C env)); pure (ForInStep.yield ok) else pure (ForInStep.yield r))
        (fun ok s₃ => if ok = true then wpAny (model prog w) A (eval elt (compEnvC scope cl C env)) (fun y s₄ => CEnd h₀ L m (C :: D :: wr) ((C, oC) :: (D, listOf ys.toArray kD) :: own) (J (i + 1) (ys ++ [y])) { s with heap := h, toks := tk } s₄) E' s₃
          else CEnd h₀ L m (C :: D :: wr) ((C, oC) :: (D, listOf ys.toArray kD) :: own) (J (i + 1) ys) { s with heap := h, toks := tk } s₃) E' { s with heap := h, toks := tk })
    (done : ∀ (D : Addr) ys kD nw h tk, s.heap.objs.size ≤ D → Off nw [D] → J n ys nw → Fr h₀ L h m → News h₀ L h ((D, listOf ys.toArray kD) :: nw) → Q (.ref D) { s with heap := h, toks := tk }) :
    CompRun prog w A E env (.ListComp elt [⟨target, iter, ifs, 0⟩] scope pos) scope cl Q (.ref I) s := by
  unfold CompRun
  refine comp_turnsR (fun acc C => compPost (model prog w) A E none Q acc C) J G W hself hLf hwr hfp hnw hst F N h0 hsz hcell hkind
    (fun C i v s₁ mC Q' E' hP hn hf k => hass C i v s₁ mC Q' E' hP hn hf fun h₂ tk₂ mC' hs hn' hG => k h₂ tk₂ mC' hs.extBut hn' hG) step ?_
  intro D C ys kD nw h tk mC hD hDC hoff hJ F' hn hC0 hLC N'
  refine ⟨mC, hn, fun h₃ hs₃ => done D ys kD nw h₃ tk hD (fun p hp e => hoff p hp (by rw [List.mem_singleton.mp e]; exact .tail _ (.head _))) hJ (F'.change hs₃ (Ne.symm hLC) hC0) fun p hp => ⟨hs₃.extBut _ _ ?_ (N' p hp).1, (N' p hp).2⟩⟩
  rcases List.mem_cons.mp hp with rfl | hp
  · exact Nat.ne_of_lt hDC
  · exact fun e => hoff p hp (by rw [e]; exact .head _)

theorem comp_turns (J : Nat → List Value → List (Addr × Obj) → Prop) (G : Nat → Value → (Str → Option Value) → Prop) (W : KTurns prog w A target I fp wr n P Md St)
    (hself : ∀ (s : Shared) (Q : Value → Shared → Prop) (E : Value → Shared → Prop), St 0 s.heap → Q (.ref I) s → wpAny (model prog w) A (pyIter (.ref I)) Q E s)
    (hLf : L ∉ fp) (hwr : ∀ b ∈ wr, h₀.get? b = none) (hfp : ∀ b ∈ fp, b < s.heap.objs.size) (hnw : Off nw₀ wr) (hst : St 0 s.heap) (F : Fr h₀ L s.heap m) (N : News h₀ L s.heap nw₀) (h0 : J 0 [] nw₀) (hsz : n ≤ sizeLine)
    (hcell : ∀ y ∈ scope.names, y.2 ≠ .cell) (hkind : scope.kind = .function)
    (hass : ∀ (C : Addr) i v (s₁ : Shared) (mC : Str → Option Value) (Q' : Unit → Shared → Prop) (E' : Value → Shared → Prop), P i v s₁.heap → s₁.heap.Ns C mC → C ∉ fp →
      (∀ h₂ tk₂ mC', Heap.SameBut C s₁.heap h₂ → h₂.Ns C mC' → G i v mC' → Q' () { s₁ with heap := h₂, toks := tk₂ }) → wpAny (model prog w) A (assign target (compEnvC scope cl C env) v) Q' E' s₁)
    (step : ∀ (C D : Addr) oC own i v ys kD nw h tk mC (E' : Value → Shared → Prop), i < n → G i v mC → J i ys nw → Off nw (C :: D :: wr) → (∀ b ∈ wr, b < D) → s.heap.objs.size ≤ D → D < C → Fr h₀ L h m → h.Ns C mC →
      News h₀ L h ((C, oC) :: (D, listOf ys.toArray kD) :: (own ++ nw)) →
      wpAny (model prog w) A (forIn ifs true fun c r => if r = true then do let ok ← isTrue c (compEnvC scope cl C env) (eval c (compEnvC scope cl C env)); pure (ForInStep.yield ok) else pure (ForInStep.yield r))
        (fun ok s₃ => if ok = true then wpAny (model prog w) A (eval elt (compEnvC scope cl C env)) (fun y s₄ => CEnd h₀ L m (C :: D :: wr) ((C, oC) :: (D, listOf ys.toArray kD) :: own) (J (i + 1) (ys ++ [y])) { s with heap := h, toks := tk } s₄) E' s₃
          else CEnd h₀ L m (C :: D :: wr) ((C, oC) :: (D, listOf ys.toArray kD) :: own) (J (i + 1) ys) { s with heap := h, toks := tk } s₃) E' { s with heap := h, toks := tk })
    (done : ∀ (D : Addr) ys kD nw h tk, s.heap.objs.size ≤ D → Off nw [D] → J n ys nw → Fr h₀ L h m → News h₀ L h ((D, listOf ys.toArray kD) :: nw) → Q (.ref D) { s with heap := h, toks := tk }) :
    CompRun prog w A E env (.ListComp elt [⟨target, iter, ifs, 0⟩] scope pos) scope cl Q (.ref I) s := by
  refine comp_turnsO J G W hself hLf hwr hfp hnw hst F N h0 hsz hcell hkind hass (fun C D oC own i v ys kD nw h tk mC E' a b c d e f g _ => step C D oC own i v ys kD nw h tk mC E' a b c d e f g) done

theorem name_C {C : Addr} {x : Str} {px : Pos} {mC : Str → Option Value} {v : Value} (hn : s.heap.Ns C mC) (hv : mC x = some v) (h : Q v s)
    (hk : (compEnvC scope cl C env).scope.kind = .function := by rfl) (hl : (compEnvC scope cl C env).kindOf x = some .local := by rfl) (hd : (x == ("__debug__" : Str)) = false := by decide) :
    wpAny (model prog w) A (eval (.Name x px) (compEnvC scope cl C env)) Q E s := wpAny_Name (wpAny_loadName_local hk hl hn hv h) hd

theorem comp_list {x : Str} {px : Pos} {ax : Addr} {vs : List Value} {k : Nat} (J : Nat → List Value → List (Addr × Obj) → Prop) (hh : A.handled = none) (F : Fr h₀ L s.heap m) (N : News h₀ L s.heap nw₀) (hm : (ax, listOf vs.toArray k) ∈ nw₀) (h0 : J 0 [] nw₀) (hsz : vs.length ≤ sizeLine)
    (hcell : ∀ y ∈ scope.names, y.2 ≠ .cell) (hkind : scope.kind = .function) (hx : scope.names.lookup x = some .local)
    (step : ∀ (C D I : Addr) oC own i v ys kD nw h tk mC (E' : Value → Shared → Prop), vs[i]? = some v → mC x = some v → J i ys nw → Off nw [C, D, I] → @LT.lt Nat _ I D → @LT.lt Nat _ D C → Fr h₀ L h m → h.Ns C mC →
      News h₀ L h ((C, oC) :: (D, listOf ys.toArray kD) :: (own ++ nw)) →
      wpAny (model prog w) A (forIn ifs true fun c r => if r = true then do let ok ← isTrue c (compEnvC scope cl C env) (eval c (compEnvC scope cl C env)); pure (ForInStep.yield ok) else pure (ForInStep.yield r))
        (fun ok s₃ => if ok = true then wpAny (model prog w) A (eval elt (compEnvC scope cl C env)) (fun y s₄ => CEnd h₀ L m [C, D, I] ((C, oC) :: (D, listOf ys.toArray kD) :: own) (J (i + 1) (ys ++ [y])) { s with heap := h, toks := tk } s₄) E' s₃
          else CEnd h₀ L m [C, D, I] ((C, oC) :: (D, listOf ys.toArray kD) :: own) (J (i + 1) ys) { s with heap := h, toks := tk } s₃) E' { s with heap := h, toks := tk })
    (done : ∀ (D : Addr) ys kD nw h tk, (∀ p ∈ nw₀, @LT.lt Nat _ p.1 D) → Off nw [D] → J vs.length ys nw → Fr h₀ L h m → News h₀ L h ((D, listOf ys.toArray kD) :: nw) → Q (.ref D) { s with heap := h, toks := tk }) :
    wpAny (model prog w) A (pyIter (.ref ax)) (fun it s₂ => CompRun prog w A E env (.ListComp elt [⟨.Name x px, iter, ifs, 0⟩] scope pos) scope cl Q it s₂) E s := by
  have hls : s.heap.IsList ax vs.toArray := ⟨_, (N _ hm).1, rfl, k, rfl⟩
  have hlt : ax < s.heap.objs.size := Heap.lt_size (N _ hm).1
  refine wpAny_pyIter_list hls ?_
  have W := Walks.list (prog := prog) (w := w) hh s.heap.objs.size ax (Nat.ne_of_lt hlt) vs.toArray
  have hlen : vs.toArray.size = vs.length := by simp
  rw [hlen] at W
  have hsize : (s.heap.push { cls := .type "list_iterator", data := .fields #[.ref ax, .int 0 0] }).objs.size = s.heap.objs.size + 1 := Heap.size_push _ _
  refine comp_turns (s := { s with heap := s.heap.push { cls := .type "list_iterator", data := .fields #[.ref ax, .int 0 0] } }) (nw₀ := nw₀) J (fun i v mC => vs[i]? = some v ∧ mC x = some v)
    (KTurns.ofWalks (target := .Name x px) W fun i v s Q E st h => wpAny_pure h) (fun s Q E st hq => wpAny_pyIter_listiter st.1 hq) ?_ ?_ ?_ ?_
    ⟨⟨_, Heap.get?_push_size _ rfl, rfl, rfl⟩, hls.at fun o e => Heap.get?_push_of_some _ e⟩ (F.push _) (fun p hp => ⟨Heap.get?_push_of_some _ (N p hp).1, (N p hp).2⟩) h0 hsz hcell hkind ?_ ?_ ?_
  · intro hm'
    rcases List.mem_cons.mp hm' with e | hm'
    · exact absurd F.ns.lt (e ▸ Nat.lt_irrefl _)
    · exact (N _ hm).2.1 (List.mem_singleton.mp hm').symm
  · intro b hb
    rw [List.mem_singleton.mp hb]
    exact next_is_new F
  · intro b hb
    show b < (s.heap.push _).objs.size
    rw [hsize]
    rcases List.mem_cons.mp hb with e | hb
    · rw [e]; exact Nat.lt_succ_self _
    · rw [List.mem_singleton.mp hb]; exact Nat.lt_succ_of_lt hlt
  · intro p hp hI
    exact absurd (Heap.lt_size (N p hp).1) ((List.mem_singleton.mp hI) ▸ Nat.lt_irrefl _)
  · intro C i v s₁ mC Q' E' hP hn hC hq
    refine wpAny_assign_Name (wpAny_storeName_local (lookup_relabel_local hx) hn (fun h₂ hn₂ hs₂ => hq h₂ _ _ hs₂ hn₂ ⟨by simpa using hP, by simp⟩) (by simp [compEnvC, relabel, hkind]))
  · intro C D oC own i v ys kD nw h tk mC E' hi hG hJ hoff hwD hD hC F' hn' N'
    rw [show (Shared.heap _).objs.size = s.heap.objs.size + 1 from hsize] at hD
    exact step C D _ oC own i v ys kD nw h tk mC E' hG.1 hG.2 hJ hoff (hwD _ (.head _)) hC F' hn' N'
  · intro D ys kD nw h tk hD hoff hJ F' N'
    rw [show (Shared.heap _).objs.size = s.heap.objs.size + 1 from hsize] at hD
    exact done D ys kD nw h tk (fun p hp => Nat.lt_of_lt_of_le (Heap.lt_size (N p hp).1) (Nat.le_trans (Nat.le_succ _) hD)) hoff hJ F' N'

theorem comp_call1 {K : Frag} {p : Program} {loose : List Str} {mg mb : Str → Option Value} {C fa : Addr} {f x : Str} {p1 p2 cpos : Pos} {mC : Str → Option Value} {v : Value} (F : Fr h₀ L s.heap m) (X : K.In h₀) (T : TopRead p loose mg mb h₀) (e : nsIn K mainGlobals f = some (some (.ref fa))) (hkp : keepIn K (.ref fa) = true)
    (hg : env.globals = mainGlobals) (hn : s.heap.Ns C mC) (hv : mC x = some v) (h : wpAny (model prog w) A (call (.ref fa) [v]) Q E s)
    (hk : (compEnvC scope cl C env).scope.kind = .function := by rfl) (hf : (compEnvC scope cl C env).kindOf f = some .globalImplicit := by rfl) (hl : (compEnvC scope cl C env).kindOf x = some .local := by rfl) (hdf : (f == ("__debug__" : Str)) = false := by decide) (hd : (x == ("__debug__" : Str)) = false := by decide) :
    wpAny (model prog w) A (eval (.Call (.Name f p1) [.Name x p2] [] cpos) (compEnvC scope cl C env)) Q E s := by
  refine Call_Name1 ?_ rfl
  refine nameG_K F X T e ?_ hg hk hf hdf
  refine callWith_of (P := K.In) rfl (keeps_K hkp) (evalArgs_plain ?_)
  refine spliced_cons (name_C hn hv ?_ hk hl hd)
  exact spliced_nil ⟨X.keeps F.keep, h⟩
end
end
section
noncomputable def Has (h : Heap) (T : List (Addr × Obj)) : Prop := ∀ p ∈ T, h.get? p.1 = some p.2
theorem has_news {h₀ h : Heap} {L : Addr} {T : List (Addr × Obj)} (N : News h₀ L h T) : Has h T := fun p hp => (N p hp).1

mutual
noncomputable def dep : Dat → Nat
  | .tuple ds => depL ds + 1
  | .list ds => depL ds + 1
  | _ => 0
noncomputable def depL : List Dat → Nat
  | [] => 0
  | d :: ds => max (dep d) (depL ds)
end
theorem depL_mem : ∀ {ds : List Dat} {d : Dat}, d ∈ ds → dep d ≤ depL ds
  | _ :: _, _, .head _ => by rw [depL]; exact Nat.le_max_left _ _
  | _ :: _, _, .tail _ h => by rw [depL]; exact Nat.le_trans (depL_mem h) (Nat.le_max_right _ _)

section
variable {s : Shared} {T₁ T₂ : List (Addr × Obj)}
theorem all_get {T : List (Addr × Obj)} {vs : List Value} {ds : List Dat} {j : Nat} {v : Value} (x : DatAll T vs ds) (h : vs[j]? = some v) : ∃ d, ds[j]? = some d ∧ DatIn T v d := by
  induction vs generalizing ds j with
  | nil => simp at h
  | cons u vs ih =>
    cases x with
    | cons a r => cases j with
      | zero => exact ⟨_, rfl, Option.some.inj h ▸ a⟩
      | succ j => exact ih r (j := j) h

theorem EqAt.bytes (A : Around) (b : Array UInt8) (t u : Tok) : EqAt A s (.bytes b t) (.bytes b u) true := fun prog w E Q h => by
  unfold eqBool
  refine wpAny_holding ?_
  refine wpAny_ite_split (fun _ => wpAny_bind (wpAny_rule (wpAny_pure h))) fun _ => ?_
  exact wpAny_bind (eq_bytes (wpAny_truthy_bool (by simpa using h)))
theorem EqAt.bytes_ne (A : Around) {b c : Array UInt8} (hn : b ≠ c) (t u : Tok) : EqAt A s (.bytes b t) (.bytes c u) false := fun prog w E Q h => by
  unfold eqBool
  refine wpAny_holding ?_
  refine wpAny_ite_split (fun hab => absurd (by have := eq_of_beq hab; injection this) hn) fun _ => ?_
  refine wpAny_bind (eq_bytes (wpAny_truthy_bool ?_))
  have e : (b.toList == c.toList) = false := by
    rw [beq_eq_false_iff_ne]; intro q; exact hn (Array.toList_inj.mp q)
  rw [e]; exact h

end
end
section
noncomputable abbrev S (x : String) : Str := Str.ofString x
noncomputable abbrev tag (k : String) (ds : List Dat) : Dat := .tuple (.str (S k) :: ds)
noncomputable abbrev tupOf (its : Array Value) (n : Nat) : Obj := { cls := .type "tuple", data := .seq its n }

@[elab_as_elim] theorem in_tag {T : List (Addr × Obj)} {k : String} {ds : List Dat} {P : Value → Prop} (v : Value) (h : DatIn T v (tag k ds)) (K : ∀ a t vs n, (a, tupOf (.str (S k) t :: vs).toArray n) ∈ T → DatAll T vs ds → P (.ref a)) : P v := by
  cases h with | tuple hm ha => cases ha with | cons h1 ha => cases h1; exact K _ _ _ _ hm ha
@[elab_as_elim] theorem all_two {T : List (Addr × Obj)} {d : Dat} {x : Array UInt8} {P : List Value → Prop} (vs : List Value) (h : DatAll T vs [d, .bytes x]) (K : ∀ v u, DatIn T v d → P [v, .bytes x u]) : P vs := by
  cases h with | cons h1 h => cases h with | cons h2 h => cases h; cases h2; exact K _ _ h1
noncomputable abbrev PROG : Program := PySem.Challenge.rw_og0176_01.row.prog

inductive LeafIn (T : List (Addr × Obj)) : Value → Dat → Prop
  | null : LeafIn T .none (tag "null" [])
  | truth (b : Bool) : LeafIn T (.bool b) (tag "truth" [.int (if b then 1 else 0)])
  | int (i : Int) (t : Tok) : LeafIn T (.int i t) (tag "int" [.int i])
  | real {a dx : Addr} {h₁ h₂ : Int} {t₁ t₂ u₁ u₂ : Tok} {n : Nat} (i p : Int) : (a, instObj 155 dx) ∈ T → (dx, dictOf [⟨h₁, .str (S "top") t₁, .int i u₁⟩, ⟨h₂, .str (S "places") t₂, .int p u₂⟩] n) ∈ T →
      Int.fmod i 10 ≠ 0 → LeafIn T (.ref a) (tag "real" [.int i, .int p])
  | name {a dx : Addr} {h₁ : Int} {t₁ u₁ : Tok} {n : Nat} (x : Str) : (a, instObj 183 dx) ∈ T → (dx, dictOf [⟨h₁, .str (S "text") t₁, .str x u₁⟩] n) ∈ T → LeafIn T (.ref a) (tag "name" [.str x])
  | string {a dx : Addr} {h₁ h₂ : Int} {t₁ t₂ u₁ : Tok} {n : Nat} (x : Array UInt8) (b : Bool) : (a, instObj 205 dx) ∈ T → (dx, dictOf [⟨h₁, .str (S "octets") t₁, .bytes x u₁⟩, ⟨h₂, .str (S "is_hex") t₂, .bool b⟩] n) ∈ T →
      x.size ≤ 100 → LeafIn T (.ref a) (tag "string" [.bytes x])
  | ref {a dx : Addr} {h₁ h₂ : Int} {t₁ t₂ u₁ u₂ : Tok} {n : Nat} (i p : Int) : (a, instObj 254 dx) ∈ T → (dx, dictOf [⟨h₁, .str (S "number") t₁, .int i u₁⟩, ⟨h₂, .str (S "generation") t₂, .int p u₂⟩] n) ∈ T →
      LeafIn T (.ref a) (tag "ref" [.int i, .int p])

inductive All₂ {α β : Type} (R : α → β → Prop) : List α → List β → Prop
  | nil : All₂ R [] []
  | cons {a b l m} : R a b → All₂ R l m → All₂ R (a :: l) (b :: m)
theorem All₂.mono {α β : Type} {R R' : α → β → Prop} (h : ∀ a b, R a b → R' a b) {l : List α} {m : List β} (x : All₂ R l m) : All₂ R' l m := by
  induction x with
  | nil => exact .nil
  | cons a _ ih => exact .cons (h _ _ a) ih
theorem All₂.length {α β : Type} {R : α → β → Prop} {l : List α} {m : List β} (x : All₂ R l m) : l.length = m.length := by
  induction x with
  | nil => rfl
  | cons _ _ ih => exact congrArg Nat.succ ih
theorem All₂.snoc {α β : Type} {R : α → β → Prop} {a : α} {b : β} {l : List α} {m : List β} (x : All₂ R l m) (h : R a b) : All₂ R (l ++ [a]) (m ++ [b]) := by
  induction x with
  | nil => exact .cons h .nil
  | cons a _ ih => exact .cons a ih
theorem All₂.get {α β : Type} {R : α → β → Prop} {l : List α} {m : List β} {i : Nat} {a : α} (x : All₂ R l m) (h : l[i]? = some a) : ∃ b, m[i]? = some b ∧ R a b := by
  induction x generalizing i with
  | nil => simp at h
  | cons a _ ih =>
    cases i with
    | zero => exact ⟨_, rfl, Option.some.inj h ▸ a⟩
    | succ i => exact ih (i := i) h

inductive ArrIn (T : List (Addr × Obj)) (R : Value → Dat → Prop) (v : Value) (d : Dat) : Prop
  | mk (a : Addr) (k : Nat) (vs : List Value) (ds : List Dat) : v = .ref a → (a, listOf vs.toArray k) ∈ T → All₂ R vs ds → vs.length ≤ 3 → d = tag "array" ds → ArrIn T R v d
structure Sorted (kvs srt : List (Str × Value)) : Prop where
  perm : srt.Perm kvs
  up : srt.Pairwise (fun a b => a.1.cps.toList < b.1.cps.toList)
noncomputable def pairD (p : Str × Dat) : Dat := .tuple [.str p.1, p.2]
inductive DictIn (w : World) (T : List (Addr × Obj)) (R : Value → Dat → Prop) (v : Value) (d : Dat) : Prop
  | mk (a : Addr) (o : Obj) (kvs srt : List (Str × Value)) (ps : List (Str × Dat)) : v = .ref a → (a, o) ∈ T → o.IsDictOf (PySem.strKind PROG w) kvs → (a == sysModules) = false → Sorted kvs srt → kvs.length ≤ 4 →
    All₂ (fun (r : Str × Value) (p : Str × Dat) => r.1 = p.1 ∧ R r.2 p.2) (srt.filter (fun r => r.2 != .none)) ps → d = tag "dict" (ps.map pairD) → DictIn w T R v d
noncomputable def isDictD (d : Dat) : Prop := ∃ ds, d = tag "dict" ds
inductive StreamIn (T : List (Addr × Obj)) (R : Value → Dat → Prop) (v : Value) (d : Dat) : Prop
  | mk (a dx : Addr) (h₁ h₂ : Int) (t₁ t₂ u : Tok) (n : Nat) (hd : Addr) (dh : Dat) (x : Array UInt8) : v = .ref a → (a, instObj 226 dx) ∈ T → (dx, dictOf [⟨h₁, .str (S "head") t₁, .ref hd⟩, ⟨h₂, .str (S "octets") t₂, .bytes x u⟩] n) ∈ T → x.size ≤ 100 →
    R (.ref hd) dh → isDictD dh → d = tag "stream" [dh, .bytes x] → StreamIn T R v d
noncomputable def ThIn (w : World) (T : List (Addr × Obj)) : Nat → Value → Dat → Prop
  | 0, v, d => LeafIn T v d
  | n + 1, v, d => LeafIn T v d ∨ ArrIn T (ThIn w T n) v d ∨ DictIn w T (ThIn w T n) v d ∨ StreamIn T (ThIn w T n) v d
theorem LeafIn.mono {T T' : List (Addr × Obj)} (hs : ∀ p ∈ T, p ∈ T') {v : Value} {d : Dat} (h : LeafIn T v d) : LeafIn T' v d := by
  cases h with
  | null => exact .null
  | truth b => exact .truth b
  | int i t => exact .int i t
  | real i p a b c => exact .real i p (hs _ a) (hs _ b) c
  | name x a b => exact .name x (hs _ a) (hs _ b)
  | string x y a b c => exact .string x y (hs _ a) (hs _ b) c
  | ref i p a b => exact .ref i p (hs _ a) (hs _ b)
theorem ThIn.mono {w : World} {T T' : List (Addr × Obj)} (hs : ∀ p ∈ T, p ∈ T') : ∀ {n : Nat} {v : Value} {d : Dat}, ThIn w T n v d → ThIn w T' n v d
  | 0, _, _, h => LeafIn.mono hs h
  | n + 1, _, _, h => by
    rcases h with h | ⟨a, k, vs, ds, e, hm, r, l, q⟩ | ⟨a, o, rows, srt, ps, e, hm, hd, la, so, l, r, q⟩ | ⟨a, dx, h₁, h₂, t₁, t₂, u, m, hd, dh, x, e, m1, m2, sz, r, di, q⟩
    · exact .inl (h.mono hs)
    · exact .inr (.inl ⟨a, k, vs, ds, e, hs _ hm, r.mono fun _ _ => ThIn.mono hs, l, q⟩)
    · exact .inr (.inr (.inl ⟨a, o, rows, srt, ps, e, hs _ hm, hd, la, so, l, r.mono fun _ _ x => ⟨x.1, ThIn.mono hs x.2⟩, q⟩))
    · exact .inr (.inr (.inr ⟨a, dx, h₁, h₂, t₁, t₂, u, m, hd, dh, x, e, hs _ m1, hs _ m2, sz, ThIn.mono hs r, di, q⟩))
theorem obj_dict {w : World} {o : Obj} {kvs : List (Str × Value)} (h : o.IsDictOf (PySem.strKind PROG w) kvs) : ∃ es k, o = dictOf es k := by
  obtain ⟨es, ep, ⟨h1, h2, h3⟩, h4, _⟩ := h
  refine ⟨es.toList, ep, ?_⟩
  cases o
  simp_all
end
section
section
variable {prog : Program} {w : World} {A : Around} {E : Value → Shared → Prop} {s : Shared} {h₀ : Heap} {L : Addr} {m : Str → Option Value} {Q : Value → Shared → Prop} {nw : List (Addr × Obj)}
theorem fr_keeps {h h' : Heap} (F : Fr h₀ L h m) (k : ∀ b o, h.get? b = some o → h'.get? b = some o) : Fr h₀ L h' m := F.kept k
theorem news_keeps {h h' : Heap} (N : News h₀ L h nw) (k : ∀ b o, h.get? b = some o → h'.get? b = some o) : News h₀ L h' nw := fun p hp => ⟨k _ _ (N p hp).1, (N p hp).2⟩
theorem lt_keeps {h h' : Heap} (N : News h₀ L h nw) (k : ∀ b o, h.get? b = some o → h'.get? b = some o) : ∀ p ∈ nw, @LT.lt Nat _ p.1 h'.objs.size := fun p hp => Heap.lt_size (k _ _ (N p hp).1)
theorem tuple_list_N {l : Addr} {vs : List Value} {k : Nat} (F : Fr h₀ L s.heap m) (N : News h₀ L s.heap nw) (hl : (l, listOf vs.toArray k) ∈ nw) (hsz : vs.length ≤ sizeLine)
    (h : ∀ (a : Addr) h', Fr h₀ L h' m → News h₀ L h' ((a, tupOf vs.toArray 0) :: nw) → (∀ p ∈ nw, @LT.lt Nat _ p.1 a) → Q (.ref a) { s with heap := h' }) :
    wpAny (model prog w) A (call (.type "tuple") [.ref l]) Q E s := by
  refine call_tuple_list (items := vs.toArray) ⟨_, (N _ hl).1, rfl, k, rfl⟩ (fun h' hk => ?_) (by rw [List.size_toArray]; exact hsz)
  have F' := fr_keeps F hk
  have N' := news_keeps N hk
  exact h _ _ (F'.push _) (N'.push F' _) (lt_keeps N hk)
theorem add_tup_N {NL : List (Addr × Obj)} {l b : Addr} {xs ys : List Value} {k j : Nat} (F : Fr h₀ L s.heap m) (N : News h₀ L s.heap nw) (hl : (l, tupOf xs.toArray k) ∈ nw) (hb : (b, tupOf ys.toArray j) ∈ nw) (hne : xs ≠ []) (hsz : xs.length + ys.length ≤ sizeLine)
    (hab : ∀ p ∈ NL, @LT.lt Nat _ p.1 l) (hsub : ∀ p ∈ NL, p ∈ nw)
    (h : ∀ (a : Addr) n o h' nw', o = tupOf (xs ++ ys).toArray n → Fr h₀ L h' m → News h₀ L h' nw' → (∀ p ∈ nw, p ∈ nw') → (a, o) ∈ nw' → (∀ p ∈ NL, @LT.lt Nat _ p.1 a) → Q (.ref a) { s with heap := h' }) :
    wpAny (model prog w) A (binaryOp .Add (.ref l) (.ref b)) Q E s := by
  refine add_tuples (hsz := hsz) F N ⟨_, (N _ hl).1, rfl, k, rfl⟩ ⟨_, (N _ hb).1, rfl, j, rfl⟩ (fun e => absurd e hne) (fun _ e => ?_) (fun _ _ h' F' N' => ?_)
  · subst e
    exact h l k _ s.heap nw rfl F N (fun _ hp => hp) (by simpa using hl) hab
  · exact h _ 0 _ h' _ rfl F' N' (fun _ hp => .tail _ hp) (.head _) fun p hp => Heap.lt_size (N p (hsub p hp)).1

theorem rising_pw : ∀ (l : List Str) (p : Str), risingS p l = true → (∀ x ∈ l, p.cps.toList ≤ x.cps.toList) ∧ l.Pairwise (fun a b => a.cps.toList ≤ b.cps.toList)
  | [], _, _ => ⟨(fun _ h => nomatch h), .nil⟩
  | y :: r, p, h => by
    simp only [risingS, Bool.and_eq_true, Bool.not_eq_true', ltCps_eq, decide_eq_false_iff_not] at h
    obtain ⟨h1, h2⟩ := rising_pw r y h.2
    have hp : p.cps.toList ≤ y.cps.toList := List.not_lt.mp h.1
    refine ⟨fun x hx => ?_, List.pairwise_cons.mpr ⟨h1, h2⟩⟩
    rcases List.mem_cons.mp hx with rfl | hx
    · exact hp
    · exact List.le_trans hp (h1 x hx)
theorem sorted_pw {l : List Str} (h : sortedS l = true) : l.Pairwise (fun a b => a.cps.toList ≤ b.cps.toList) := by
  cases l with
  | nil => exact .nil
  | cons x r => exact List.pairwise_cons.mpr (rising_pw r x h)
theorem str_ext {a b : Str} (h : a.cps.toList = b.cps.toList) : a = b := by
  obtain ⟨⟨x⟩⟩ := a
  obtain ⟨⟨y⟩⟩ := b
  simp only at h
  rw [h]

theorem Sorted.nodup {kvs srt : List (Str × Value)} (so : Sorted kvs srt) : (kvs.map (·.1)).Nodup := by
  refine (so.perm.map (·.1)).nodup_iff.mp ?_
  refine List.pairwise_map.mpr (so.up.imp fun {a b} h e => ?_)
  rw [e] at h
  exact List.lt_irrefl _ h
theorem Sorted.length {kvs srt : List (Str × Value)} (so : Sorted kvs srt) : srt.length = kvs.length := so.perm.length_eq
theorem Sorted.value {kvs srt : List (Str × Value)} (so : Sorted kvs srt) {r : Str × Value} (h : r ∈ srt) : valueAt kvs r.1 = some r.2 := by
  obtain ⟨i, hi⟩ := List.getElem?_of_mem (so.perm.mem_iff.mp h)
  exact valueAt_of_get so.nodup hi

theorem strs_all2 : ∀ (srt : List (Str × Value)) (us : List Value), StrsAre us (srt.map (·.1)) → All₂ (fun v (r : Str × Value) => ∃ t, v = .str r.1 t) us srt
  | [], _, h => by cases h; exact .nil
  | r :: srt, _, h => by cases h with | cons x t q => exact .cons ⟨t, rfl⟩ (strs_all2 srt _ q)
theorem sorted_dict_N {a : Addr} {o : Obj} {kvs srt : List (Str × Value)} (hh : A.handled = none) (F : Fr h₀ L s.heap m) (N : News h₀ L s.heap nw) (hm : (a, o) ∈ nw) (hd : o.IsDictOf (PySem.strKind prog w) kvs) (lo : (a == sysModules) = false) (so : Sorted kvs srt) (hl : kvs.length ≤ 4)
    (h : ∀ (D : Addr) vs e h' tk, Fr h₀ L h' m → News h₀ L h' ((D, listOf vs.toArray e) :: nw) → (∀ p ∈ nw, @LT.lt Nat _ p.1 D) → All₂ (fun v (r : Str × Value) => ∃ t, v = .str r.1 t) vs srt → Q (.ref D) { s with heap := h', toks := tk }) :
    wpAny (model prog w) A (call (.builtin "sorted") [.ref a]) Q E s := by
  obtain ⟨ep, hk⟩ := KdkAt.of hd
  have hat : s.heap.DictAt (PySem.strKind prog w) a kvs ep := hk.dictAt (N _ hm).1
  refine kdu_sorted (kdl_dict (knd := PySem.strKind prog w) (kvs := kvs) (ep := ep) lo) hh F N hat (by rw [sizeLine_eq]; omega) fun D h' tk vs F' N' l1 hlen hv => ?_
  have hS : StrsAre vs (kvs.map (·.1)) := by
    have : ∀ (us : List Value) (l : List (Str × Value)), us.length = l.length → (∀ (j : Nat) (v : Value), us[j]? = some v → ∃ r, l[j]? = some r ∧ ∃ t, v = .str r.1 t) → StrsAre us (l.map (·.1)) := by
      intro us
      induction us with
      | nil => intro l e _; cases l with | nil => exact .nil | cons => simp at e
      | cons u us ih =>
        intro l e hh
        cases l with
        | nil => simp at e
        | cons r l =>
          obtain ⟨r', e', t, ht⟩ := hh 0 u rfl
          simp at e'
          subst e' ht
          exact .cons _ _ (ih l (by simpa using e) fun j v hj => by simpa using hh (j + 1) v (by simpa using hj))
    refine this vs kvs hlen fun j v hj => ?_
    obtain ⟨x, u, hx, hk⟩ := hv j v hj
    obtain ⟨t, rfl⟩ := Value.isStrOf_shape hk
    exact ⟨_, hx, t, rfl⟩
  have hD := (N' _ (.head _)).1
  refine wpAny_call_entry slot_list_sort ⟨_, hD, rfl⟩ entry_list_sort (list_sort_treeK strKind_oneLt (n := 0) hD hS.keysOf (fun v₁ v₂ rest e => keyKind_strs (by rw [← e]; exact hS)) (by omega) fun st' hp hs => ?_) (args_list_sort _)
  refine ⟨_, rfl, ?_⟩
  obtain ⟨ss', h1, h2, h3⟩ := sorted_out_str hS hp hs
  have hne : ∀ p ∈ nw, p.1 ≠ D := fun p hp => Nat.ne_of_lt (l1 p hp)
  have old : ∀ b o, b ≠ D → h'.get? b = some o → (sortedHeap h' D vs ((arrOf st').map (·.2))).get? b = some o := fun b o hb e => (sortedHeap_old hb (Heap.lt_size e)).trans e
  obtain ⟨e, he⟩ := sortedHeap_at (vs := vs) (out := (arrOf st').map (·.2)) hD
  have hDL := (N' _ (.head _)).2
  have es : ss' = srt.map (·.1) := by
    refine List.Perm.eq_of_pairwise (le := fun a b : Str => a.cps.toList ≤ b.cps.toList) (fun a b _ _ x y => str_ext (List.le_antisymm x y)) (sorted_pw h3) (List.pairwise_map.mpr (so.up.imp fun {a b} x => List.le_of_lt x)) (h2.trans (so.perm.map (·.1)).symm)
  have hall : All₂ (fun v (r : Str × Value) => ∃ t, v = .str r.1 t) ((arrOf st').map (·.2)).toList srt := by
    rw [es] at h1
    exact strs_all2 _ _ h1
  refine h D _ e _ tk ⟨F'.ns.at' fun o q => old _ o (Ne.symm hDL.1) q, fun b o q => old b o (fun z => by rw [z, hDL.2] at q; cases q) (F'.keep b o q), F'.above⟩ ?_ l1 hall
  intro p hp
  rcases List.mem_cons.mp hp with rfl | hp
  · exact ⟨he, hDL⟩
  · exact ⟨old _ _ (hne p hp) (N' p (.tail _ hp)).1, (N' p (.tail _ hp)).2⟩

section
variable {env : Env} {scope : Scope} {cl : List (Str × Addr)} {C : Addr} {mC : Str → Option Value}
theorem name_cellC {x : Str} {px : Pos} {c : Addr} {o : Obj} {v : Value} (N : News h₀ L s.heap nw) (hc : cl.lookup x = some c) (hm : (c, o) ∈ nw) (hd : o.data = .cell (some v)) (h : Q v s)
    (hk : (compEnvC scope cl C env).scope.kind = .function) (hl : (compEnvC scope cl C env).kindOf x = some .cell) (hb : (x == ("__debug__" : Str)) = false := by decide) :
    wpAny (model prog w) A (eval (.Name x px) (compEnvC scope cl C env)) Q E s := wpAny_Name (wpAny_loadName_cell hk hl hc ⟨o, (N _ hm).1, hd⟩ h) hb
theorem sub_cell_key {xv xk : Str} {p1 p2 p3 : Pos} {c a : Addr} {oc o : Obj} {kvs : List (Str × Value)} {x : Str} {t : Tok} {v : Value} (N : News h₀ L s.heap nw) (hc : cl.lookup xv = some c) (hm : (c, oc) ∈ nw) (hd : oc.data = .cell (some (.ref a)))
    (ha : (a, o) ∈ nw) (ho : o.IsDictOf (PySem.strKind prog w) kvs) (hr : valueAt kvs x = some v) (hn : s.heap.Ns C mC) (hx : mC xk = some (.str x t)) (h : Q v { s with toks := s.toks + 1 })
    (hk : (compEnvC scope cl C env).scope.kind = .function) (hl : (compEnvC scope cl C env).kindOf xv = some .cell) (hl2 : (compEnvC scope cl C env).kindOf xk = some .local)
    (hb : (xv == ("__debug__" : Str)) = false := by decide) (hb2 : (xk == ("__debug__" : Str)) = false := by decide) :
    wpAny (model prog w) A (eval (.Subscript (.Name xv p1) (.Name xk p2) p3) (compEnvC scope cl C env)) Q E s := by
  refine Subscript_ (name_cellC N hc hm hd ?_ hk hl hb)
  refine name_C hn hx ?_ hk hl2 hb2
  exact kda_item N ha ho (strKind_is prog w x t) hr h
theorem comp_callE {K : Frag} {p : Program} {loose : List Str} {mg mb : Str → Option Value} {fa : Addr} {f : Str} {p1 cpos : Pos} {e : Expr} (F : Fr h₀ L s.heap m) (X : K.In h₀) (T : TopRead p loose mg mb h₀) (he : nsIn K mainGlobals f = some (some (.ref fa))) (hkp : keepIn K (.ref fa) = true)
    (hg : env.globals = mainGlobals) (h : wpAny (model prog w) A (eval e (compEnvC scope cl C env)) (fun v s' => K.In s'.heap ∧ wpAny (model prog w) A (call (.ref fa) [v]) Q E s') E s)
    (hk : (compEnvC scope cl C env).scope.kind = .function) (hf : (compEnvC scope cl C env).kindOf f = some .globalImplicit) (hs : starEach [e] (compEnvC scope cl C env) = [(false, eval e (compEnvC scope cl C env))] := by rfl) (hdf : (f == ("__debug__" : Str)) = false := by decide) :
    wpAny (model prog w) A (eval (.Call (.Name f p1) [e] [] cpos) (compEnvC scope cl C env)) Q E s := by
  refine Call_Name1 ?_ hs
  refine nameG_K F X T he ?_ hg hk hf hdf
  refine callWith_of (P := K.In) rfl (keeps_K hkp) (evalArgs_plain ?_)
  exact spliced_cons (wpAny_mono h (fun v s' hv => spliced_nil hv) fun _ _ x => x)
end
end

section
variable {prog : Program} {w : World} {A : Around} {E : Value → Shared → Prop} {s : Shared} {h₀ : Heap} {L a : Addr} {m : Str → Option Value} {Q : Flow → Shared → Prop} {cn : Str} {cs : Scope} {ccd : Value} {cl : List (Str × Addr)}
theorem if_str_ne {x k c : Str} {t : Tok} {p1 p2 p3 p4 : Pos} {k0 : Nat} {body rest : List Stmt} (F : Fr h₀ L s.heap m) (hv : m x = some (.str k t)) (hne : (k == c) = false) (h : wpAny (model prog w) A (execs rest (envX cn cs L a ccd cl)) Q E { s with toks := s.toks + 1 })
    (hk : cs.kind = .function) (hl : (envX cn cs L a ccd cl).kindOf x = some .local) (hd : (x == ("__debug__" : Str)) = false) :
    wpAny (model prog w) A (execs (.If (.Compare (.Name x p1) [.Eq] [.Constant (.str c) k0 p2] p3) body [] p4 :: rest) (envX cn cs L a ccd cl)) Q E s := by
  refine wpAny_execs_cons (wpAny_If (wpAny_isTrue_Compare1 (nameX_L F hv ?_ hk hl hd)))
  refine Constant_str (PyProof.Rows.eq_str (wpAny_truthy_bool ?_))
  rw [hne]
  exact wpAny_execs_nil h
end
end
local macro_rules | `(tactic| walk_at "execs cons") => `(tactic| (k_here; (with_reducible show wpAny _ _ (execs (Stmt.If (Expr.Compare (Expr.Name _ _) [CmpOp.Eq] [Expr.Constant (Const.str _) _ _] _) _ [] _ :: _) _) _ _ _); k_dflt (refine' if_str_ne ?F ?v ?ne ?_ ?a ?b ?c; (case F => k_asm); (case v => exact rfl); (case a => exact rfl); (case b => exact rfl); (case c => decide); (case ne => decide))))
local macro_rules | `(tactic| k_mem) => `(tactic| first | assumption | exact List.mem_cons_self | (refine' List.mem_cons_of_mem _ ?_; k_mem) | (refine' List.mem_append_left _ ?_; k_mem) | (refine' List.mem_append_right _ ?_; k_mem))
local macro_rules | `(tactic| walk_at "eval Name") => `(tactic| (k_here; (refine' name_C ?n ?v ?_ ?a ?b ?c); (case n => with_reducible assumption); (case v => with_reducible assumption); (case a => rfl); (case b => rfl); (case c => decide)))
local macro_rules | `(tactic| walk_at "eval ListComp") => `(tactic| (k_here; (refine' comp_eval ?h1 ?h2 ?h3 ?_ ?h5); (case h1 => with_unfolding_all rfl); (case h2 => with_unfolding_all rfl); (case h3 => decide); (case h5 => (intro _; with_unfolding_all rfl))))
local macro_rules | `(tactic| k_mem) => `(tactic| ((repeat (refine' List.Mem.tail _ ?_)); assumption))
local macro_rules | `(tactic| walk_at "eval Constant int") => `(tactic| refine const_int ?_)
local macro_rules | `(tactic| walk_at "eval Constant str") => `(tactic| refine const_str ?_)
local macro_rules | `(tactic| walk_at "storeName") => `(tactic| (k_here; k_dflt (refine' store_LC ?F ?N ?_ ?a ?b; (case F => k_asm); (case N => k_asm); (case a => rfl); (case b => rfl); k_whole; intro h' F' N'; (try k_sweep))))
local macro_rules | `(tactic| k_room) => `(tactic| first | exact rm2 (by assumption) (by exact rfl) | exact rm1 (by assumption) (by exact rfl) | ((try simp only [depth_under_make, depth_under_kw, depth_in1, depth_deeper, depth_caller, units_in1, units_deeper, Around.mark_units, units_caller]); omega))
local macro_rules | `(tactic| k_units) => `(tactic| k_room)
local macro_rules | `(tactic| ke_room) => `(tactic| k_room)
example : ∀ (w : World) (h : Heap), (hd.heap_39 w.params).In h → PySem.Challenge.rw_og0176_01.row.prog = PySem.Challenge.rw_og0176_01.row.prog := by k_fill; intros; rfl
section
noncomputable abbrev kcls : List (Nat × Value) := [(0, .type "bool"), (1, .type "int"), (2, .ref 155), (3, .ref 183), (4, .ref 205), (5, .type "list"), (6, .type "dict"), (7, .ref 226), (8, .ref 254)]
noncomputable def Isi (w : World) (NL : List (Addr × Obj)) (v : Value) (isk : Nat → Bool) : Prop :=
  ∀ (j : Nat) (cv : Value), (j, cv) ∈ kcls → ∀ (h₀ : Heap) (L : Addr) (m : Str → Option Value) (A : Around) (E : Value → Shared → Prop) (s : Shared) (Q : Value → Shared → Prop), Fr h₀ L s.heap m → (hd.heap_39 w.params).In h₀ → News h₀ L s.heap NL → (∀ tk, Q (.bool (isk j)) { s with toks := tk }) →
    wpAny (model PySem.Challenge.rw_og0176_01.row.prog w) A (call (.builtin "isinstance") [v, cv]) Q E s
noncomputable def kname (isk : Nat → Bool) : Str :=
  if isk 0 then S "truth" else if isk 1 then S "int" else if isk 2 then S "real" else if isk 3 then S "name" else if isk 4 then S "string" else if isk 5 then S "array" else if isk 6 then S "dict" else if isk 7 then S "stream" else S "ref"
section
local macro_rules | `(tactic| walk_at "call builtin:isinstance") => `(tactic| (k_here; (rename Isi _ _ _ _ => lH'); (refine' lH' _ _ ?me _ _ _ _ _ _ _ ?F ?X ?N ?_); (case me => (repeat (first | exact List.Mem.head _ | refine' List.Mem.tail _ ?_))); (case F => k_asm); (case X => k_asm); (case N => k_asm); intro tk'))
local macro_rules | `(tactic| walk_at "compareOp Is") => `(tactic| (k_here; (refine is_none_gen ?_); (try simp only [*])))
local macro_rules | `(tactic| walk_at "exec Raise some none") => `(tactic| (exfalso; simp_all))
set_option maxRecDepth 100000 in
set_option maxHeartbeats 2000000 in
theorem kind_some {w : World} {p : Program} {loose : List Str} {mean : ExcName → Option Value} {mg mb : Str → Option Value} {NL : List (Addr × Obj)} {v : Value} {isk : Nat → Bool} (H : Isi w NL v isk) (hn : (v == Value.none) = false) (hany : (isk 0 || isk 1 || isk 2 || isk 3 || isk 4 || isk 5 || isk 6 || isk 7 || isk 8) = true) :
    Spec w p loose mean mg mb 265 [v] 2 20 NL (fun NL' r => NL' = NL ∧ ∃ t, r = .str (kname isk) t) := by
  unfold Spec
  intro dp u gd A₀ base h₀ env outer L m s Q E B F X Tp hf hk hd hu N hret
  refine wpAny_call ?_
  refine' code_defG B F X N Tp rfl hf hk ?k6 ?k7 (asm2 hd) ?k9 ?kB ?_ ?c2 ?c3 ?c4 ?c5
  case k6 => k_is
  case k7 => k_is
  case k9 => exact BindsTo.of_eq rfl
  case c5 => decide
  case kB => exact locs rfl
  case c2 => exact rfl
  case c3 => exact rfl
  case c4 => exact rfl
  intro g' L' h' FG' F' N' B' X' T' kG'
  (try dsimp only)
  (try k_fold)
  repeat' (first | (k_unfold; (try dsimp only)) | (k_end; wrow_close) | (walk1; try dsimp only) | (dsimp only; walk1; try dsimp only))
  all_goals exact hret _ _ _ _ (by assumption) (by assumption) (ext_of kG' (by assumption)) ⟨rfl, _, congrArg (Value.str · _) (by simp only [kname, *, if_true, if_false, Bool.false_eq_true])⟩
end
set_option maxRecDepth 100000 in
set_option maxHeartbeats 2000000 in
theorem isi_arr {w : World} {NL : List (Addr × Obj)} {a : Addr} {vs : Array Value} {k : Nat} (hm : (a, listOf vs k) ∈ NL) : Isi w NL (.ref a) (fun j => j == 5) := by
  intro j cv hj h₀ L m A E s Q F X N hq
  simp only [kcls, List.mem_cons, Prod.mk.injEq, List.not_mem_nil, or_false] at hj
  rcases hj with ⟨rfl, rfl⟩ | ⟨rfl, rfl⟩ | ⟨rfl, rfl⟩ | ⟨rfl, rfl⟩ | ⟨rfl, rfl⟩ | ⟨rfl, rfl⟩ | ⟨rfl, rfl⟩ | ⟨rfl, rfl⟩ | ⟨rfl, rfl⟩
  all_goals walk1
  all_goals exact hq _
set_option maxRecDepth 100000 in
set_option maxHeartbeats 2000000 in
theorem isi_dict {w : World} {NL : List (Addr × Obj)} {a : Addr} {es : List DictEntry} {k : Nat} (hm : (a, dictOf es k) ∈ NL) : Isi w NL (.ref a) (fun j => j == 6) := by
  intro j cv hj h₀ L m A E s Q F X N hq
  simp only [kcls, List.mem_cons, Prod.mk.injEq, List.not_mem_nil, or_false] at hj
  rcases hj with ⟨rfl, rfl⟩ | ⟨rfl, rfl⟩ | ⟨rfl, rfl⟩ | ⟨rfl, rfl⟩ | ⟨rfl, rfl⟩ | ⟨rfl, rfl⟩ | ⟨rfl, rfl⟩ | ⟨rfl, rfl⟩ | ⟨rfl, rfl⟩
  all_goals walk1
  all_goals exact hq _
set_option maxRecDepth 100000 in
set_option maxHeartbeats 2000000 in
theorem isi_bool {w : World} {NL : List (Addr × Obj)} (b : Bool)  : Isi w NL (.bool b) (fun j => j == 0 || j == 1) := by
  intro j cv hj h₀ L m A E s Q F X N hq
  simp only [kcls, List.mem_cons, Prod.mk.injEq, List.not_mem_nil, or_false] at hj
  rcases hj with ⟨rfl, rfl⟩ | ⟨rfl, rfl⟩ | ⟨rfl, rfl⟩ | ⟨rfl, rfl⟩ | ⟨rfl, rfl⟩ | ⟨rfl, rfl⟩ | ⟨rfl, rfl⟩ | ⟨rfl, rfl⟩ | ⟨rfl, rfl⟩
  all_goals walk1
  all_goals exact hq _
set_option maxRecDepth 100000 in
set_option maxHeartbeats 2000000 in
theorem isi_int {w : World} {NL : List (Addr × Obj)} (i : Int) (t : Tok)  : Isi w NL (.int i t) (fun j => j == 1) := by
  intro j cv hj h₀ L m A E s Q F X N hq
  simp only [kcls, List.mem_cons, Prod.mk.injEq, List.not_mem_nil, or_false] at hj
  rcases hj with ⟨rfl, rfl⟩ | ⟨rfl, rfl⟩ | ⟨rfl, rfl⟩ | ⟨rfl, rfl⟩ | ⟨rfl, rfl⟩ | ⟨rfl, rfl⟩ | ⟨rfl, rfl⟩ | ⟨rfl, rfl⟩ | ⟨rfl, rfl⟩
  all_goals walk1
  all_goals exact hq _
set_option maxRecDepth 100000 in
set_option maxHeartbeats 2000000 in
theorem isi_real {w : World} {NL : List (Addr × Obj)} {a dx : Addr} {es : List DictEntry} {k : Nat} (hm : (a, instObj 155 dx) ∈ NL) (hd : (dx, dictOf es k) ∈ NL) : Isi w NL (.ref a) (fun j => j == 2) := by
  intro j cv hj h₀ L m A E s Q F X N hq
  simp only [kcls, List.mem_cons, Prod.mk.injEq, List.not_mem_nil, or_false] at hj
  rcases hj with ⟨rfl, rfl⟩ | ⟨rfl, rfl⟩ | ⟨rfl, rfl⟩ | ⟨rfl, rfl⟩ | ⟨rfl, rfl⟩ | ⟨rfl, rfl⟩ | ⟨rfl, rfl⟩ | ⟨rfl, rfl⟩ | ⟨rfl, rfl⟩
  all_goals walk1
  all_goals exact hq _
set_option maxRecDepth 100000 in
set_option maxHeartbeats 2000000 in
theorem isi_name {w : World} {NL : List (Addr × Obj)} {a dx : Addr} {es : List DictEntry} {k : Nat} (hm : (a, instObj 183 dx) ∈ NL) (hd : (dx, dictOf es k) ∈ NL) : Isi w NL (.ref a) (fun j => j == 3) := by
  intro j cv hj h₀ L m A E s Q F X N hq
  simp only [kcls, List.mem_cons, Prod.mk.injEq, List.not_mem_nil, or_false] at hj
  rcases hj with ⟨rfl, rfl⟩ | ⟨rfl, rfl⟩ | ⟨rfl, rfl⟩ | ⟨rfl, rfl⟩ | ⟨rfl, rfl⟩ | ⟨rfl, rfl⟩ | ⟨rfl, rfl⟩ | ⟨rfl, rfl⟩ | ⟨rfl, rfl⟩
  all_goals walk1
  all_goals exact hq _
set_option maxRecDepth 100000 in
set_option maxHeartbeats 2000000 in
theorem isi_string {w : World} {NL : List (Addr × Obj)} {a dx : Addr} {es : List DictEntry} {k : Nat} (hm : (a, instObj 205 dx) ∈ NL) (hd : (dx, dictOf es k) ∈ NL) : Isi w NL (.ref a) (fun j => j == 4) := by
  intro j cv hj h₀ L m A E s Q F X N hq
  simp only [kcls, List.mem_cons, Prod.mk.injEq, List.not_mem_nil, or_false] at hj
  rcases hj with ⟨rfl, rfl⟩ | ⟨rfl, rfl⟩ | ⟨rfl, rfl⟩ | ⟨rfl, rfl⟩ | ⟨rfl, rfl⟩ | ⟨rfl, rfl⟩ | ⟨rfl, rfl⟩ | ⟨rfl, rfl⟩ | ⟨rfl, rfl⟩
  all_goals walk1
  all_goals exact hq _
set_option maxRecDepth 100000 in
set_option maxHeartbeats 2000000 in
theorem isi_stream {w : World} {NL : List (Addr × Obj)} {a dx : Addr} {es : List DictEntry} {k : Nat} (hm : (a, instObj 226 dx) ∈ NL) (hd : (dx, dictOf es k) ∈ NL) : Isi w NL (.ref a) (fun j => j == 7) := by
  intro j cv hj h₀ L m A E s Q F X N hq
  simp only [kcls, List.mem_cons, Prod.mk.injEq, List.not_mem_nil, or_false] at hj
  rcases hj with ⟨rfl, rfl⟩ | ⟨rfl, rfl⟩ | ⟨rfl, rfl⟩ | ⟨rfl, rfl⟩ | ⟨rfl, rfl⟩ | ⟨rfl, rfl⟩ | ⟨rfl, rfl⟩ | ⟨rfl, rfl⟩ | ⟨rfl, rfl⟩
  all_goals walk1
  all_goals exact hq _
set_option maxRecDepth 100000 in
set_option maxHeartbeats 2000000 in
theorem isi_ref {w : World} {NL : List (Addr × Obj)} {a dx : Addr} {es : List DictEntry} {k : Nat} (hm : (a, instObj 254 dx) ∈ NL) (hd : (dx, dictOf es k) ∈ NL) : Isi w NL (.ref a) (fun j => j == 8) := by
  intro j cv hj h₀ L m A E s Q F X N hq
  simp only [kcls, List.mem_cons, Prod.mk.injEq, List.not_mem_nil, or_false] at hj
  rcases hj with ⟨rfl, rfl⟩ | ⟨rfl, rfl⟩ | ⟨rfl, rfl⟩ | ⟨rfl, rfl⟩ | ⟨rfl, rfl⟩ | ⟨rfl, rfl⟩ | ⟨rfl, rfl⟩ | ⟨rfl, rfl⟩ | ⟨rfl, rfl⟩
  all_goals walk1
  all_goals exact hq _
end
section
inductive PostD (NL : List (Addr × Obj)) (d : Dat) (NL' : List (Addr × Obj)) (r : Value) : Prop
  | mk (tl : List (Addr × Obj)) : NL' = tl ++ NL → Above NL tl → DatIn tl r d → PostD NL d NL' r
noncomputable def Told (w : World) (p : Program) (loose : List Str) (mean : ExcName → Option Value) (mg mb : Str → Option Value) (n : Nat) : Prop :=
  ∀ (v : Value) (d : Dat) (NL : List (Addr × Obj)), ThIn w NL n v d → Spec w p loose mean mg mb 277 [v] (n + 3) (10 * n + 40) NL (PostD NL d)

theorem above_nil {NL : List (Addr × Obj)} : Above NL [] := fun _ _ _ h => nomatch h
theorem sub_big {a b : Addr × Obj} {own nw : List (Addr × Obj)} : ∀ p ∈ nw, p ∈ a :: b :: (own ++ nw) := fun _ hp => .tail _ (.tail _ (List.mem_append.mpr (.inr hp)))
theorem cend {h₀ h' : Heap} {L C D I : Addr} {m : Str → Option Value} {oC oD : Obj} {own nw tl : List (Addr × Obj)} {Jn : List (Addr × Obj) → Prop} {s₁ : Shared} {tk : Nat} (F : Fr h₀ L h' m) (N : News h₀ L h' (tl ++ (C, oC) :: (D, oD) :: (own ++ nw)))
    (ab : Above ((C, oC) :: (D, oD) :: (own ++ nw)) tl) (hID : @LT.lt Nat _ I D) (off : Off nw [C, D, I]) (J : Jn (tl ++ nw)) : CEnd h₀ L m [C, D, I] ((C, oC) :: (D, oD) :: own) Jn s₁ { s₁ with heap := h', toks := tk } := by
  refine ⟨h', tk, tl ++ nw, rfl, F, fun p hp => N p ?_, ?_, J⟩
  · rcases List.mem_append.mp hp with hp | hp
    · refine List.mem_append.mpr (.inr ?_)
      rcases List.mem_cons.mp hp with rfl | hp
      · exact .head _
      · rcases List.mem_cons.mp hp with rfl | hp
        · exact .tail _ (.head _)
        · exact .tail _ (.tail _ (List.mem_append.mpr (.inl hp)))
    · rcases List.mem_append.mp hp with hp | hp
      · exact List.mem_append.mpr (.inl hp)
      · exact List.mem_append.mpr (.inr (.tail _ (.tail _ (List.mem_append.mpr (.inr hp)))))
  · intro p hp hm
    rcases List.mem_append.mp hp with hp | hp
    · have h1 := ab (C, oC) (.head _) p hp
      have h2 := ab (D, oD) (.tail _ (.head _)) p hp
      dsimp only at h1 h2
      rcases List.mem_cons.mp hm with e | hm
      · rw [e] at h1; exact Nat.lt_irrefl _ h1
      · rcases List.mem_cons.mp hm with e | hm
        · rw [e] at h2; exact Nat.lt_irrefl _ h2
        · have e := List.mem_singleton.mp hm
          rw [e] at h2; exact Nat.lt_irrefl _ (Nat.lt_trans hID h2)
    · exact off p hp hm
set_option maxRecDepth 100000 in
set_option maxHeartbeats 2000000 in
theorem told_arr_comp {w : World} {p : Program} {loose : List Str} {mean : ExcName → Option Value} {mg mb : Str → Option Value} {n : Nat} (IH : Told w p loose mean mg mb n) {dp u : Nat} {gd : Option (List Code)} {A₀ : Around} {base h₀ : Heap} {env : Env} {outer : List Env} {L : Addr} {m : Str → Option Value} {s : Shared} {Q E : Value → Shared → Prop} {nw₀ : List (Addr × Obj)}
    {a : Addr} {k : Nat} {vs : List Value} {ds : List Dat} {p1 p2 p3 pos cpos : Pos} {iter : Expr}
    (B : Below A₀ base outer h₀) (F : Fr h₀ L s.heap m) (X : (hd.heap_39 w.params).In h₀) (T : Top p loose mean mg mb h₀) (hf : env.frame = some L) (hg : env.globals = mainGlobals) (hk : env.scope.kind = .function) (hd : dp + (n + 3) < recursionLimit) (hu : u + (10 * n + 40) < cLine)
    (N : News h₀ L s.heap nw₀) (hm : (a, listOf vs.toArray k) ∈ nw₀) (hr : All₂ (ThIn w nw₀ n) vs ds) (hl : vs.length ≤ 3)
    (done : ∀ (D : Addr) ys kD tl h tk, (∀ p ∈ nw₀, @LT.lt Nat _ p.1 D) → Fr h₀ L h m → News h₀ L h ((D, listOf ys.toArray kD) :: (tl ++ nw₀)) → Above nw₀ tl → DatAll tl ys ds → Q (.ref D) { s with heap := h, toks := tk }) :
    wpAny (model PySem.Challenge.rw_og0176_01.row.prog w) (arnd dp u gd env outer) (pyIter (.ref a))
      (fun it s₂ => CompRun PySem.Challenge.rw_og0176_01.row.prog w (arnd dp u gd env outer) E env (.ListComp (.Call (.Name (S "told") p1) [.Name (S "part") p2] [] pos) [⟨.Name (S "part") p3, iter, [], 0⟩]
        { kind := .function, names := [(S ".0", .local), (S "part", .local), (S "told", .globalImplicit)], isGenerator := false, isCoroutine := false, more := [] } cpos)
        { kind := .function, names := [(S ".0", .local), (S "part", .local), (S "told", .globalImplicit)], isGenerator := false, isCoroutine := false, more := [] } [] Q it s₂) E s := by
  have hdl := hr.length
  refine comp_list (h₀ := h₀) (L := L) (fun i ys nw => ∃ tl, nw = tl ++ nw₀ ∧ Above nw₀ tl ∧ DatAll tl ys (ds.take i)) rfl F N hm ⟨[], rfl, above_nil, by simpa using DatAll.nil⟩ (by rw [sizeLine_eq]; omega) (by decide) rfl rfl ?_ ?_
  · (intro C D I oC own i v ys kD nw h tk mC E' hv hx hZZ1 hoff hID hDC F' hn' N'; refine via fun GG hGG => ?_; obtain ⟨tl, rfl, ab, hys⟩ := hZZ1; refine hGG ?_; clear hGG GG)
    refine wpAny_tests_nil ?_
    rw [if_pos rfl]
    obtain ⟨d, hd', hth⟩ := hr.get hv
    refine comp_call1 F' X (topRead_of T) (fa := 277) (by k_is) (by k_is) hg hn' hx ?_ rfl rfl rfl
    refine spec_useG (IH v d _ (hth.mono fun p hp => sub_big p (List.mem_append.mpr (.inr hp)))) B F' X T hf hk hd hu N' ?_
    (rintro GG hGG r h' tk' NL' F₂ N₂ x₂ ⟨tl₂, rfl, ab₂, hr₂⟩; refine hGG _ _ _ _ ?_; clear hGG GG)
    refine cend F₂ N₂ ab₂ hID hoff ⟨tl₂ ++ tl, by simp, ?_, ?_⟩
    · intro q hq p hp
      rcases List.mem_append.mp hp with hp | hp
      · exact ab₂ q (sub_big q (List.mem_append.mpr (.inr hq))) p hp
      · exact ab q hq p hp
    · rw [List.take_add_one, hd']
      exact DatAll.append (hys.mono fun p hp => List.mem_append.mpr (.inr hp)) (DatAll.one (hr₂.mono fun p hp => List.mem_append.mpr (.inl hp)))
  · (intro D ys kD nw h tk hD hoff hZZ1 F' N'; refine via fun GG hGG => ?_; obtain ⟨tl, rfl, ab, hys⟩ := hZZ1; refine hGG ?_; clear hGG GG)
    rw [hdl, List.take_length] at hys
    exact done D ys kD tl h tk hD F' N' ab hys
theorem kind_arr {w : World} {p : Program} {loose : List Str} {mean : ExcName → Option Value} {mg mb : Str → Option Value} {a : Addr} {vs : List Value} {n : Nat} {T : List (Addr × Obj)} (hm : (a, listOf vs.toArray n) ∈ T) :
    Spec w p loose mean mg mb 265 [.ref a] 2 20 T (fun NL' r => NL' = T ∧ ∃ t, r = .str (S "array") t) := kind_some (isi_arr hm) rfl rfl
set_option maxRecDepth 100000 in
set_option maxHeartbeats 2000000 in
theorem told_arr {w : World} {p : Program} {loose : List Str} {mean : ExcName → Option Value} {mg mb : Str → Option Value} {n : Nat} (IH : Told w p loose mean mg mb n) {a : Addr} {k : Nat} {vs : List Value} {ds : List Dat} {NL : List (Addr × Obj)}
    (hm : (a, listOf vs.toArray k) ∈ NL) (hr : All₂ (ThIn w NL n) vs ds) (hl : vs.length ≤ 3) :
    Spec w p loose mean mg mb 277 [.ref a] (n + 4) (10 * n + 50) NL (PostD NL (tag "array" ds)) := by
  unfold Spec
  intro dp u gd A₀ base h₀ env outer L m s Q E B F X Tp hf hk hd hu N hret
  refine wpAny_call ?_
  refine' code_defCG B F X N Tp rfl hf hk ?k6 ?k7 (asm2 hd) ?k9 ?kB ?kD ?_ ?c2 ?c3 ?c4
  case k6 => k_is
  case k7 => k_is
  case k9 => exact BindsTo.of_eq rfl
  case kB => exact rfl
  case kD => decide +kernel
  case c2 => exact rfl
  case c3 => exact rfl
  case c4 => exact rfl
  intro g' L' h' tk' cells' FG' F' N' Y' B' X' T' l1 kG'
  k_cells Y'
  (try simp only [List.cons_append, List.nil_append] at N')
  (try dsimp only)
  (try k_fold)
  repeat' (first | (k_unfold; (try dsimp only)) | (k_end; wrow_close) | ((fail_if_success (fail_if_success (with_reducible show wpAny _ _ (call (Value.ref _) _) _ _ _))); (k_here; k_dflt ((refine' spec_useG (kind_arr ?hm9z) ?B9z ?F9z ?X9z ?T9z rfl rfl ?hd9z ?hu9z ?N9z ?_; (case B9z => k_asm); (case F9z => k_asm); (case X9z => k_asm); (case T9z => k_asm); (case hd9z => k_room); (case hu9z => k_units); (case N9z => k_asm); (case hm9z => k_mem)); (intro GGz hGGz r1z h1z tk1z NL1z F1z N1z x1z P1z; obtain ⟨e1z, t1z, e2z⟩ := P1z; subst e1z e2z; refine hGGz _ _ _ _ ?_; clear hGGz GGz; clear x1z; (try k_sweep)))); try dsimp only) | (walk1; try dsimp only) | (dsimp only; walk1; try dsimp only))
  refine' told_arr_comp IH ?B ?F ?X ?T rfl rfl rfl ?hd ?hu ?N ?hm ?hr hl ?_
  case B => k_asm
  case F => k_asm
  case X => k_asm
  case T => k_asm
  case N => k_asm
  case hd => k_room
  case hu => k_units
  case hm => k_mem
  case hr => exact hr.mono fun _ _ => ThIn.mono (fun p hp => by first | exact .tail _ hp | exact .tail _ (.tail _ hp) | exact .tail _ (.tail _ (.tail _ hp)))
  intro D ys kD tl h9 tk9 hD F9 N9 ab9 hy9
  dsimp only
  iterate 2 (all_goals (try (first | (k_unfold; (try dsimp only)) | (k_end; wrow_close) | ((fail_if_success (fail_if_success (with_reducible show wpAny _ _ (call (Value.ref _) _) _ _ _))); (k_here; k_dflt ((refine' spec_useG (kind_arr ?hm9z) ?B9z ?F9z ?X9z ?T9z rfl rfl ?hd9z ?hu9z ?N9z ?_; (case B9z => k_asm); (case F9z => k_asm); (case X9z => k_asm); (case T9z => k_asm); (case hd9z => k_room); (case hu9z => k_units); (case N9z => k_asm); (case hm9z => k_mem)); (intro GGz hGGz r1z h1z tk1z NL1z F1z N1z x1z P1z; obtain ⟨e1z, t1z, e2z⟩ := P1z; subst e1z e2z; refine hGGz _ _ _ _ ?_; clear hGGz GGz; clear x1z; (try k_sweep)))); try dsimp only) | (walk1; try dsimp only) | (dsimp only; walk1; try dsimp only))))
  have hyl := DatAll.length hy9
  have hrl := hr.length
  k_dflt (refine' tuple_list_N ?F ?N ?hl ?hz ?_)
  case F => k_asm
  case N => k_asm
  case hl => exact List.Mem.head _
  case hz => rw [sizeLine_eq]; omega
  intro a1 h10 F10 N10 l10
  dsimp only
  k_dflt (refine' add_tup_N (NL := NL) ?F ?N ?hl ?hb ?hne ?hz ?hab ?hs ?_)
  case F => k_asm
  case N => k_asm
  case hl => k_mem
  case hb => exact List.Mem.head _
  case hne => exact List.cons_ne_nil _ _
  case hz => (rw [sizeLine_eq]; simp only [List.length_cons, List.length_nil]; omega)
  case hab => exact ktn_ltOf (And.right (by assumption))
  case hs => exact fun p hp => .tail _ (.tail _ (List.mem_append.mpr (.inr (.tail _ (.tail _ hp)))))
  intro a2 n2 o2 h11 nw11 e11 F11 N11 s11 m11 l11
  dsimp only
  repeat' (first | (k_unfold; (try dsimp only)) | (k_end; wrow_close) | ((fail_if_success (fail_if_success (with_reducible show wpAny _ _ (call (Value.ref _) _) _ _ _))); (k_here; k_dflt ((refine' spec_useG (kind_arr ?hm9z) ?B9z ?F9z ?X9z ?T9z rfl rfl ?hd9z ?hu9z ?N9z ?_; (case B9z => k_asm); (case F9z => k_asm); (case X9z => k_asm); (case T9z => k_asm); (case hd9z => k_room); (case hu9z => k_units); (case N9z => k_asm); (case hm9z => k_mem)); (intro GGz hGGz r1z h1z tk1z NL1z F1z N1z x1z P1z; obtain ⟨e1z, t1z, e2z⟩ := P1z; subst e1z e2z; refine hGGz _ _ _ _ ?_; clear hGGz GGz; clear x1z; (try k_sweep)))); try dsimp only) | (walk1; try dsimp only) | (dsimp only; walk1; try dsimp only))
  refine hret _ _ _ ((a2, o2) :: (tl ++ NL)) (by assumption) ?_ (ext_of kG' F11) ⟨(a2, o2) :: tl, rfl, ?_, ?_⟩
  · rename News h₀ L h11 nw11 => N12
    intro p hp
    rcases List.mem_cons.mp hp with rfl | hp
    · exact N12 _ m11
    · refine N12 _ (s11 _ (.tail _ (.tail _ (List.mem_append.mpr ?_))))
      rcases List.mem_append.mp hp with hp | hp
      · exact .inl hp
      · exact .inr (.tail _ (.tail _ hp))
  · intro q hq p hp
    rcases List.mem_cons.mp hp with rfl | hp
    · exact l11 q hq
    · exact ab9 q (.tail _ (.tail _ hq)) p hp
  · subst e11
    exact DatIn.tuple (.head _) (.cons (.str _ _) (hy9.mono fun p hp => .tail _ hp))
end
section
theorem filter_at {α : Type} {f : α → Bool} {l : List α} {i : Nat} {r : α} (h : l[i]? = some r) : (l.take (i + 1)).filter f = (l.take i).filter f ++ (if f r then [r] else []) ∧ (f r = true → (l.filter f)[((l.take i).filter f).length]? = some r) := by
  have e : l.take (i + 1) = l.take i ++ [r] := by rw [List.take_add_one, h]; rfl
  refine ⟨?_, fun hf => ?_⟩
  · rw [e, List.filter_append]
    congr 1
    by_cases hf : f r = true
    · simp [hf]
    · simp [hf]
  · have e2 : l = l.take (i + 1) ++ l.drop (i + 1) := (List.take_append_drop _ _).symm
    have e3 : l.filter f = (l.take i).filter f ++ ([r] ++ (l.drop (i + 1)).filter f) := by
      conv => lhs; rw [e2, e, List.append_assoc, List.filter_append, List.filter_append]
      simp [hf]
    rw [e3, List.getElem?_append_right (Nat.le_refl _), Nat.sub_self]
    rfl
set_option maxRecDepth 100000 in
set_option maxHeartbeats 2000000 in
theorem told_dict_comp {w : World} {p : Program} {loose : List Str} {mean : ExcName → Option Value} {mg mb : Str → Option Value} {n : Nat} (IH : Told w p loose mean mg mb n) {dp u : Nat} {gd : Option (List Code)} {A₀ : Around} {base h₀ : Heap} {env : Env} {outer : List Env} {L : Addr} {m : Str → Option Value} {s : Shared} {Q E : Value → Shared → Prop} {nw₀ : List (Addr × Obj)}
    {a c D₀ : Addr} {o oc : Obj} {e₀ : Nat} {vs : List Value} {kvs srt : List (Str × Value)} {ps : List (Str × Dat)} {p1 p2 p3 p4 p5 p6 p7 p8 p9 p10 p11 p12 pos cpos : Pos} {k0 k1 : Nat} {iter : Expr}
    (B : Below A₀ base outer h₀) (F : Fr h₀ L s.heap m) (X : (hd.heap_39 w.params).In h₀) (T : Top p loose mean mg mb h₀) (hf : env.frame = some L) (hg : env.globals = mainGlobals) (hk : env.scope.kind = .function) (hkc : env.kindOf (S "value") = some .cell) (hd : dp + (n + 3) < recursionLimit) (hu : u + (10 * n + 40) < cLine)
    (N : News h₀ L s.heap nw₀) (hm : (a, o) ∈ nw₀) (hod : o.IsDictOf (PySem.strKind PROG w) kvs) (hc : (c, oc) ∈ nw₀) (hoc : oc.data = .cell (some (.ref a))) (so : Sorted kvs srt) (hl : kvs.length ≤ 4)
    (hD₀ : (D₀, listOf vs.toArray e₀) ∈ nw₀) (hv : All₂ (fun v (r : Str × Value) => ∃ t, v = .str r.1 t) vs srt)
    (hr : All₂ (fun (r : Str × Value) (p : Str × Dat) => r.1 = p.1 ∧ ThIn w nw₀ n r.2 p.2) (srt.filter (fun r => r.2 != .none)) ps)
    (done : ∀ (D : Addr) ys kD tl h tk, (∀ p ∈ nw₀, @LT.lt Nat _ p.1 D) → Fr h₀ L h m → News h₀ L h ((D, listOf ys.toArray kD) :: (tl ++ nw₀)) → Above nw₀ tl → DatAll tl ys (ps.map pairD) → Q (.ref D) { s with heap := h, toks := tk }) :
    wpAny (model PySem.Challenge.rw_og0176_01.row.prog w) (arnd dp u gd env outer) (pyIter (.ref D₀))
      (fun it s₂ => CompRun PySem.Challenge.rw_og0176_01.row.prog w (arnd dp u gd env outer) E env
        (.ListComp (.Tuple [.Name (S "key") p1, .Call (.Name (S "told") p2) [.Subscript (.Name (S "value") p3) (.Name (S "key") p4) p5] [] p6] k0 p7)
          [⟨.Name (S "key") p8, iter, [.Compare (.Subscript (.Name (S "value") p9) (.Name (S "key") p10) p11) [.IsNot] [.Constant .none k1 p12] pos], 0⟩]
        { kind := .function, names := [(S ".0", .local), (S "key", .local), (S "told", .globalImplicit), (S "value", .free)], isGenerator := false, isCoroutine := false, more := [] } cpos)
        { kind := .function, names := [(S ".0", .local), (S "key", .local), (S "told", .globalImplicit), (S "value", .free)], isGenerator := false, isCoroutine := false, more := [] } [(S "value", c)] Q it s₂) E s := by
  have hvl := hv.length
  have hsl := so.length
  have hrl := hr.length
  refine comp_list (h₀ := h₀) (L := L) (fun i ys nw => ∃ tl, nw = tl ++ nw₀ ∧ Above nw₀ tl ∧ DatAll tl ys ((ps.take ((srt.take i).filter (fun r => r.2 != .none)).length).map pairD)) rfl F N hD₀ ⟨[], rfl, above_nil, by simpa using DatAll.nil⟩ (by rw [sizeLine_eq]; omega) (by decide) rfl rfl ?_ ?_
  · (intro C D I oC own i v ys kD nw h tk mC E' hv' hx hZZ1 hoff hID hDC F' hn' N'; refine via fun GG hGG => ?_; obtain ⟨tl, rfl, ab, hys⟩ := hZZ1; refine hGG ?_; clear hGG GG)
    obtain ⟨r, hsr, t, rfl⟩ := hv.get hv'
    have hrow := so.value (List.mem_of_getElem? hsr)
    have hk1 : (compEnvC { kind := .function, names := [(S ".0", .local), (S "key", .local), (S "told", .globalImplicit), (S "value", .free)], isGenerator := false, isCoroutine := false, more := [] } [(S "value", c)] C env).kindOf (S "value") = some .cell := by
      unfold compEnvC relabel Env.kindOf
      simp only [List.map]
      rw [hk, show List.lookup (S "value") env.scope.names = some .cell from hkc]
      rfl
    have hsub : ∀ p ∈ nw₀, p ∈ (C, oC) :: (D, listOf ys.toArray kD) :: (own ++ (tl ++ nw₀)) := fun p hp => sub_big p (List.mem_append.mpr (.inr hp))
    obtain ⟨hf1, hf2⟩ := filter_at (f := fun r : Str × Value => r.2 != .none) hsr
    refine wpAny_tests_one (wpAny_isTrue_Compare1 (sub_cell_key N' rfl (hsub _ hc) hoc (hsub _ hm) hod hrow hn' hx ?_ rfl hk1 rfl))
    refine Constant_none (isnot_none_gen (wpAny_truthy_bool ?_))
    by_cases hn : (r.2 == Value.none) = true
    · rw [hn]
      refine ⟨h, _, tl ++ nw₀, rfl, F', N', hoff, tl, rfl, ab, ?_⟩
      rw [hf1]
      simpa [hn, bne] using hys
    · have hb : (r.2 != Value.none) = true := by simpa [bne] using hn
      have hnb : (!(r.2 == Value.none)) = true := hb
      rw [hnb, if_pos rfl]
      obtain ⟨p, hp, hp1, hth⟩ := hr.get (hf2 hb)
      refine Tuple_ ?_
      show wpAny _ _ (spliced [(false, eval (.Name (S "key") p1) _), (false, eval (.Call (.Name (S "told") p2) [.Subscript (.Name (S "value") p3) (.Name (S "key") p4) p5] [] p6) _)]) _ _ _
      refine spliced_cons (name_C hn' hx ?_ rfl rfl)
      refine spliced_cons (comp_callE F' X (topRead_of T) (fa := 277) (by k_is) (by k_is) hg ?_ rfl rfl rfl)
      refine sub_cell_key N' rfl (hsub _ hc) hoc (hsub _ hm) hod hrow hn' hx ?_ rfl hk1 rfl
      refine ⟨X.keeps F'.keep, ?_⟩
      refine spec_useG (IH r.2 p.2 _ (hth.mono hsub)) B F' X T hf hk hd hu N' ?_
      (rintro GG hGG r2 h2 tk2 NL2 F2 N2 x2 ⟨tl2, rfl, ab2, hr2⟩; refine hGG _ _ _ _ ?_; clear hGG GG)
      refine spliced_nil ?_
      refine newTuple_N F2 N2 (fun h3 F3 N3 => ?_) (by rw [sizeLine_eq]; simp)
      refine cend (tl := (_, _) :: tl2) F3 N3 ?_ hID hoff ⟨(_, _) :: (tl2 ++ tl), by rw [← List.append_assoc]; rfl, ?_, ?_⟩
      · intro q hq x hx'
        rcases List.mem_cons.mp hx' with rfl | hx'
        · exact Heap.lt_size (N2 q (List.mem_append.mpr (.inr hq))).1
        · exact ab2 q hq x hx'
      · intro q hq x hx'
        rcases List.mem_cons.mp hx' with rfl | hx'
        · exact Heap.lt_size (N2 q (List.mem_append.mpr (.inr (hsub q hq)))).1
        · rcases List.mem_append.mp hx' with hx' | hx'
          · exact ab2 q (hsub q hq) x hx'
          · exact ab q hq x hx'
      · rw [hf1, hb, if_pos rfl, List.length_append, List.length_singleton, List.take_add_one, hp, List.map_append]
        refine DatAll.append (hys.mono fun x hx' => .tail _ (List.mem_append.mpr (.inr hx'))) (DatAll.one (.tuple (.head _) (.cons ?_ (.cons (hr2.mono fun x hx' => .tail _ (List.mem_append.mpr (.inl hx'))) .nil))))
        rw [← hp1]
        exact .str _ _
  · (intro D ys kD nw h tk hD hoff hZZ1 F' N'; refine via fun GG hGG => ?_; obtain ⟨tl, rfl, ab, hys⟩ := hZZ1; refine hGG ?_; clear hGG GG)
    rw [hvl, List.take_length, hrl, List.take_length] at hys
    exact done D ys kD tl h tk hD F' N' ab hys
end
section
section
variable {prog : Program} {w : World} {A : Around} {E : Value → Shared → Prop} {s : Shared} {Q : Value → Shared → Prop}
theorem has_bytes : typeLookup (.type "bytes") "__bytes__" = pure (some (.builtin "bytes.__bytes__")) := by rw [typeLookup_type, builtinLookup_eq_fast]; kernel_rfl
theorem bytes_bytes {b : Array UInt8} {t : Tok} (h : Q (.bytes b t) s) : wpAny (model prog w) A (call (.type "bytes") [.bytes b t]) Q E s := by
  refine callType_codes (Q₁ := fun obj s₁ => s₁.TypeIs obj "bytes" ∧ Q obj s₁) F.bm_called (F.bm_typeCall _) F.entry_object_init ?_ fun obj s₁ h₁ => ?_
  · refine codeAny_of_tree ?_
    show wpAny (model prog w) A.in1.in1 (PySem.checkBuiltinCall "bytes.__new__" ⟨[.type "bytes", .bytes b t], []⟩ >>= fun _ => again (.builtin "bytes.__new__" ⟨[.type "bytes", .bytes b t], []⟩)) _ _ s
    refine wpAny_bind (wpAny_of_eq (F.bm_newCall _) (wpAny_pure ⟨plainId_quiet F.bm_plain _, codeAny_builtin F.bm_entry ?_⟩))
    rw [Around.under_plainId F.bm_plain _]
    have hT : s.TypeIs (.bytes b t) "bytes" := PySem.W.typeIs_bytes _ _ _
    unfold Builtin.«bytes.__new__»
    refine wpAny_bind (wpAny_of_eq (a := true) rfl ?_)
    refine bm_if_false rfl ?_
    refine wpAny_bind (wpAny_of_eq F.bm_sub ?_)
    refine bm_if_false rfl ?_
    refine wpAny_bind (wpAny_of_eq (F.bm_bind _) ?_)
    refine wpAny_bind (wpAny_of_eq (a := ()) rfl ?_)
    refine wpAny_bind (wpAny_of_eq (a := ()) rfl ?_)
    refine bm_if_false rfl ?_
    refine wpAny_bind (wpAny_specialOf hT has_bytes ?_)
    refine wpAny_bind (wpAny_rule (wpAny_bind (wpAny_of_eq (a := Value.type "bytes") rfl ?_)))
    refine bm_if_true (by decide) ?_
    refine bm_if_true (by decide) ?_
    first
      | exact wpAny_pure ⟨hT, h⟩
      | exact wpAny_bind (wpAny_pure (wpAny_pure ⟨hT, h⟩))
  · exact ⟨h₁.1, F.args_object_init_2 obj _, object_init_meets F.bm_called.init.lookup F.bm_called.made (by decide) prog w A.in1 _ s₁ ⟨h₁.1, rfl, h₁.2⟩⟩
end
end
section
theorem above_one {NL : List (Addr × Obj)} {D : Addr} {o : Obj} (h : ∀ p ∈ NL, @LT.lt Nat _ p.1 D) : Above NL [(D, o)] := fun q hq p hp => by
  rw [List.mem_singleton.mp hp]; exact h q hq
local macro_rules | `(tactic| walk_at "call type:bytes") => `(tactic| (k_here; refine' bytes_bytes ?_))
set_option maxRecDepth 100000 in
set_option maxHeartbeats 2000000 in
theorem kind_null {w : World} {p : Program} {loose : List Str} {mean : ExcName → Option Value} {mg mb : Str → Option Value} {NL : List (Addr × Obj)} : Spec w p loose mean mg mb 265 [.none] 2 20 NL (fun NL' r => NL' = NL ∧ ∃ t, r = .str (S "null") t) := by
  unfold Spec
  intro dp u gd A₀ base h₀ env outer L m s Q E B F X Tp hf hk hd hu N hret
  refine wpAny_call ?_
  refine' code_defG B F X N Tp rfl hf hk ?k6 ?k7 (asm2 hd) ?k9 ?kB ?_ ?c2 ?c3 ?c4 ?c5
  case k6 => k_is
  case k7 => k_is
  case k9 => exact BindsTo.of_eq rfl
  case c5 => decide
  case kB => exact locs rfl
  case c2 => exact rfl
  case c3 => exact rfl
  case c4 => exact rfl
  intro g' L' h' FG' F' N' B' X' T' kG'
  (try dsimp only)
  (try k_fold)
  repeat' (first | (k_unfold; (try dsimp only)) | (k_end; wrow_close) | (walk1; try dsimp only) | (dsimp only; walk1; try dsimp only))
  all_goals exact hret _ _ _ _ (by assumption) (by assumption) (ext_of kG' (by assumption)) ⟨rfl, _, rfl⟩
section
set_option maxRecDepth 100000 in
set_option maxHeartbeats 2000000 in
theorem told_leaf {w : World} {p : Program} {loose : List Str} {mean : ExcName → Option Value} {mg mb : Str → Option Value} {NL : List (Addr × Obj)} {v : Value} {d : Dat} {k : Str} (H : ∀ T : List (Addr × Obj), (∀ p ∈ NL, p ∈ T) → Spec w p loose mean mg mb 265 [v] 2 20 T (fun NL' r => NL' = T ∧ ∃ t, r = .str k t))
    (P : ∀ (T : List (Addr × Obj)) (t : Tok), (∀ p ∈ NL, p ∈ T) → Spec w p loose mean mg mb 272 [.str k t, v] 1 10 T (PostD T d)) (n1 : (k == S "array") = false) (n2 : (k == S "dict") = false) (n3 : (k == S "stream") = false) :
    Spec w p loose mean mg mb 277 [v] 3 40 NL (PostD NL d) := by
  unfold Spec
  intro dp u gd A₀ base h₀ env outer L m s Q E B F X Tp hf hk hd hu N hret
  refine wpAny_call ?_
  refine' code_defCG B F X N Tp rfl hf hk ?k6 ?k7 (asm2 hd) ?k9 ?kB ?kD ?_ ?c2 ?c3 ?c4
  case k6 => k_is
  case k7 => k_is
  case k9 => exact BindsTo.of_eq rfl
  case kB => exact rfl
  case kD => decide +kernel
  case c2 => exact rfl
  case c3 => exact rfl
  case c4 => exact rfl
  intro g' L' h' tk' cells' FG' F' N' Y' B' X' T' l1 kG'
  k_cells Y'
  (try simp only [List.cons_append, List.nil_append] at N')
  (try dsimp only)
  (try k_fold)
  repeat' (first | (k_unfold; (try dsimp only)) | (k_end; wrow_close) | ((fail_if_success (fail_if_success (with_reducible show wpAny _ _ (call (Value.ref _) _) _ _ _))); (first | (k_here; k_dflt ((with_reducible rename (∀ (T : List (Addr × Obj)) (t : Tok), (∀ p ∈ _, p ∈ T) → Spec _ _ _ _ _ _ 272 _ _ _ _ _) => lPz); (refine' spec_useG (lPz _ _ ?sub9z) ?B9z ?F9z ?X9z ?T9z rfl rfl ?hd9z ?hu9z ?N9z ?_; (case B9z => k_asm); (case F9z => k_asm); (case X9z => k_asm); (case T9z => k_asm); (case hd9z => k_room); (case hu9z => k_units); (case N9z => k_asm); (case sub9z => exact fun p hp => List.mem_cons_of_mem _ hp)); (intro GGz hGGz r1z h1z tk1z NL1z F1z N1z x1z P1z; obtain ⟨tl1z, e1z, ab1z, dt1z⟩ := P1z; subst e1z; refine hGGz _ _ _ _ ?_; clear hGGz GGz; clear x1z; (try k_sweep)))) | (k_here; k_dflt ((with_reducible rename (∀ T : List (Addr × Obj), (∀ p ∈ _, p ∈ T) → Spec _ _ _ _ _ _ 265 _ _ _ _ _) => lHz); (refine' spec_useG (lHz _ ?sub9z) ?B9z ?F9z ?X9z ?T9z rfl rfl ?hd9z ?hu9z ?N9z ?_; (case B9z => k_asm); (case F9z => k_asm); (case X9z => k_asm); (case T9z => k_asm); (case hd9z => k_room); (case hu9z => k_units); (case N9z => k_asm); (case sub9z => exact fun p hp => List.mem_cons_of_mem _ hp)); (intro GGz hGGz r1z h1z tk1z NL1z F1z N1z x1z P1z; obtain ⟨e1z, t1z, e2z⟩ := P1z; subst e1z e2z; refine hGGz _ _ _ _ ?_; clear hGGz GGz; clear x1z; (try k_sweep))))); try dsimp only) | ((fail_if_success (fail_if_success (with_reducible show wpAny _ _ (execs (_ :: _) _) _ _ _))); (k_here; (fail_if_success (fail_if_success (with_reducible show wpAny _ _ (execs (Stmt.If (Expr.Compare (Expr.Name _ _) [CmpOp.Eq] [Expr.Constant (Const.str _) _ _] _) _ [] _ :: _) _) _ _ _))); k_dflt (refine' if_str_ne ?F9z ?v9z ?ne9z ?_ ?a9z ?b9z ?c9z; (case F9z => k_asm); (case v9z => exact rfl); (case a9z => exact rfl); (case b9z => exact rfl); (case c9z => decide); (case ne9z => assumption))); try dsimp only) | (walk1; try dsimp only) | (dsimp only; walk1; try dsimp only))
  rename News h₀ L _ _ => kN9
  rename Above _ _ => ab9
  rename DatIn _ _ _ => dt9
  refine hret _ _ _ (_ ++ NL) (by assumption) (fun p hp => kN9 p ?_) (ext_of kG' (by assumption)) ⟨_, rfl, fun q hq => ab9 q (.tail _ hq), dt9⟩
  rcases List.mem_append.mp hp with hp | hp
  · exact List.mem_append.mpr (.inl hp)
  · exact List.mem_append.mpr (.inr (.tail _ hp))
end
set_option maxRecDepth 100000 in
set_option maxHeartbeats 2000000 in
theorem plain_null {w : World} {p : Program} {loose : List Str} {mean : ExcName → Option Value} {mg mb : Str → Option Value} {NL : List (Addr × Obj)}  (t' : Tok) : Spec w p loose mean mg mb 272 [.str (S "null") t', Value.none] 1 10 NL (PostD NL (tag "null" [])) := by
  unfold Spec
  intro dp u gd A₀ base h₀ env outer L m s Q E B F X Tp hf hk hd hu N hret
  refine wpAny_call ?_
  refine' code_defG B F X N Tp rfl hf hk ?k6 ?k7 (asm2 hd) ?k9 ?kB ?_ ?c2 ?c3 ?c4 ?c5
  case k6 => k_is
  case k7 => k_is
  case k9 => exact BindsTo.of_eq rfl
  case c5 => decide
  case kB => exact locs rfl
  case c2 => exact rfl
  case c3 => exact rfl
  case c4 => exact rfl
  intro g' L' h' FG' F' N' B' X' T' kG'
  (try dsimp only)
  (try k_fold)
  repeat' (first | (k_unfold; (try dsimp only)) | (k_end; wrow_close) | (walk1; try dsimp only) | (dsimp only; walk1; try dsimp only))
  all_goals (refine hret _ _ _ _ (by assumption) (by assumption) (ext_of kG' (by assumption)) ⟨[_], rfl, above_one (by assumption), ?_⟩)
  all_goals exact .tuple (vs := [_]) (n := 0) (.head _) (.cons (.str _ _) .nil)

theorem told_null {w : World} {p : Program} {loose : List Str} {mean : ExcName → Option Value} {mg mb : Str → Option Value} {NL : List (Addr × Obj)}  : Spec w p loose mean mg mb 277 [Value.none] 3 40 NL (PostD NL (tag "null" [])) :=
  told_leaf (k := S "null") (fun T hs => kind_null) (fun T t' hs => plain_null  t') (by decide) (by decide) (by decide)

set_option maxRecDepth 100000 in
set_option maxHeartbeats 2000000 in
theorem plain_truth {w : World} {p : Program} {loose : List Str} {mean : ExcName → Option Value} {mg mb : Str → Option Value} {NL : List (Addr × Obj)} (b : Bool) (t' : Tok) : Spec w p loose mean mg mb 272 [.str (S "truth") t', .bool b] 1 10 NL (PostD NL (tag "truth" [.int (if b then 1 else 0)])) := by
  unfold Spec
  intro dp u gd A₀ base h₀ env outer L m s Q E B F X Tp hf hk hd hu N hret
  refine wpAny_call ?_
  refine' code_defG B F X N Tp rfl hf hk ?k6 ?k7 (asm2 hd) ?k9 ?kB ?_ ?c2 ?c3 ?c4 ?c5
  case k6 => k_is
  case k7 => k_is
  case k9 => exact BindsTo.of_eq rfl
  case c5 => decide
  case kB => exact locs rfl
  case c2 => exact rfl
  case c3 => exact rfl
  case c4 => exact rfl
  intro g' L' h' FG' F' N' B' X' T' kG'
  (try dsimp only)
  (try k_fold)
  repeat' (first | (k_unfold; (try dsimp only)) | (k_end; wrow_close) | (walk1; try dsimp only) | (dsimp only; walk1; try dsimp only))
  all_goals (refine hret _ _ _ _ (by assumption) (by assumption) (ext_of kG' (by assumption)) ⟨[_], rfl, above_one (by assumption), ?_⟩)
  all_goals (first | (have hb : b = true := by assumption); subst hb | (have hb : ¬ (b = true) := by assumption); rw [Bool.not_eq_true] at hb; subst hb | (have hb : b = false := by assumption); subst hb)
  all_goals exact .tuple (vs := [_, _]) (n := 0) (.head _) (.cons (.str _ _) (.cons (.int _ _) .nil))

theorem told_truth {w : World} {p : Program} {loose : List Str} {mean : ExcName → Option Value} {mg mb : Str → Option Value} {NL : List (Addr × Obj)} (b : Bool) : Spec w p loose mean mg mb 277 [.bool b] 3 40 NL (PostD NL (tag "truth" [.int (if b then 1 else 0)])) :=
  told_leaf (k := S "truth") (fun T hs => kind_some (isi_bool _) rfl rfl) (fun T t' hs => plain_truth b t') (by decide) (by decide) (by decide)

set_option maxRecDepth 100000 in
set_option maxHeartbeats 2000000 in
theorem plain_int {w : World} {p : Program} {loose : List Str} {mean : ExcName → Option Value} {mg mb : Str → Option Value} {NL : List (Addr × Obj)} (i : Int) (t : Tok) (t' : Tok) : Spec w p loose mean mg mb 272 [.str (S "int") t', .int i t] 1 10 NL (PostD NL (tag "int" [.int i])) := by
  unfold Spec
  intro dp u gd A₀ base h₀ env outer L m s Q E B F X Tp hf hk hd hu N hret
  refine wpAny_call ?_
  refine' code_defG B F X N Tp rfl hf hk ?k6 ?k7 (asm2 hd) ?k9 ?kB ?_ ?c2 ?c3 ?c4 ?c5
  case k6 => k_is
  case k7 => k_is
  case k9 => exact BindsTo.of_eq rfl
  case c5 => decide
  case kB => exact locs rfl
  case c2 => exact rfl
  case c3 => exact rfl
  case c4 => exact rfl
  intro g' L' h' FG' F' N' B' X' T' kG'
  (try dsimp only)
  (try k_fold)
  repeat' (first | (k_unfold; (try dsimp only)) | (k_end; wrow_close) | (walk1; try dsimp only) | (dsimp only; walk1; try dsimp only))
  all_goals (refine hret _ _ _ _ (by assumption) (by assumption) (ext_of kG' (by assumption)) ⟨[_], rfl, above_one (by assumption), ?_⟩)
  all_goals exact .tuple (vs := [_, _]) (n := 0) (.head _) (.cons (.str _ _) (.cons (.int _ _) .nil))

theorem told_int {w : World} {p : Program} {loose : List Str} {mean : ExcName → Option Value} {mg mb : Str → Option Value} {NL : List (Addr × Obj)} (i : Int) (t : Tok) : Spec w p loose mean mg mb 277 [.int i t] 3 40 NL (PostD NL (tag "int" [.int i])) :=
  told_leaf (k := S "int") (fun T hs => kind_some (isi_int _ _) rfl rfl) (fun T t' hs => plain_int i t t') (by decide) (by decide) (by decide)

set_option maxRecDepth 100000 in
set_option maxHeartbeats 2000000 in
theorem plain_real {w : World} {p : Program} {loose : List Str} {mean : ExcName → Option Value} {mg mb : Str → Option Value} {NL : List (Addr × Obj)} {a dx : Addr} {h₁ h₂ : Int} {t₁ t₂ u₁ u₂ : Tok} {k : Nat} {i p' : Int} (h1 : (a, instObj 155 dx) ∈ NL) (h2 : (dx, dictOf [⟨h₁, .str (S "top") t₁, .int i u₁⟩, ⟨h₂, .str (S "places") t₂, .int p' u₂⟩] k) ∈ NL) (t' : Tok) : Spec w p loose mean mg mb 272 [.str (S "real") t', .ref a] 1 10 NL (PostD NL (tag "real" [.int i, .int p'])) := by
  unfold Spec
  intro dp u gd A₀ base h₀ env outer L m s Q E B F X Tp hf hk hd hu N hret
  refine wpAny_call ?_
  refine' code_defG B F X N Tp rfl hf hk ?k6 ?k7 (asm2 hd) ?k9 ?kB ?_ ?c2 ?c3 ?c4 ?c5
  case k6 => k_is
  case k7 => k_is
  case k9 => exact BindsTo.of_eq rfl
  case c5 => decide
  case kB => exact locs rfl
  case c2 => exact rfl
  case c3 => exact rfl
  case c4 => exact rfl
  intro g' L' h' FG' F' N' B' X' T' kG'
  (try dsimp only)
  (try k_fold)
  repeat' (first | (k_unfold; (try dsimp only)) | (k_end; wrow_close) | (walk1; try dsimp only) | (dsimp only; walk1; try dsimp only))
  all_goals (refine hret _ _ _ _ (by assumption) (by assumption) (ext_of kG' (by assumption)) ⟨[_], rfl, above_one (by assumption), ?_⟩)
  all_goals exact .tuple (vs := [_, _, _]) (n := 0) (.head _) (.cons (.str _ _) (.cons (.int _ _) (.cons (.int _ _) .nil)))

theorem told_real {w : World} {p : Program} {loose : List Str} {mean : ExcName → Option Value} {mg mb : Str → Option Value} {NL : List (Addr × Obj)} {a dx : Addr} {h₁ h₂ : Int} {t₁ t₂ u₁ u₂ : Tok} {k : Nat} {i p' : Int} (h1 : (a, instObj 155 dx) ∈ NL) (h2 : (dx, dictOf [⟨h₁, .str (S "top") t₁, .int i u₁⟩, ⟨h₂, .str (S "places") t₂, .int p' u₂⟩] k) ∈ NL) : Spec w p loose mean mg mb 277 [.ref a] 3 40 NL (PostD NL (tag "real" [.int i, .int p'])) :=
  told_leaf (k := S "real") (fun T hs => kind_some (isi_real (hs _ h1) (hs _ h2)) rfl rfl) (fun T t' hs => plain_real (hs _ h1) (hs _ h2) t') (by decide) (by decide) (by decide)

set_option maxRecDepth 100000 in
set_option maxHeartbeats 2000000 in
theorem plain_name {w : World} {p : Program} {loose : List Str} {mean : ExcName → Option Value} {mg mb : Str → Option Value} {NL : List (Addr × Obj)} {a dx : Addr} {h₁ : Int} {t₁ u₁ : Tok} {k : Nat} {x : Str} (h1 : (a, instObj 183 dx) ∈ NL) (h2 : (dx, dictOf [⟨h₁, .str (S "text") t₁, .str x u₁⟩] k) ∈ NL) (t' : Tok) : Spec w p loose mean mg mb 272 [.str (S "name") t', .ref a] 1 10 NL (PostD NL (tag "name" [.str x])) := by
  unfold Spec
  intro dp u gd A₀ base h₀ env outer L m s Q E B F X Tp hf hk hd hu N hret
  refine wpAny_call ?_
  refine' code_defG B F X N Tp rfl hf hk ?k6 ?k7 (asm2 hd) ?k9 ?kB ?_ ?c2 ?c3 ?c4 ?c5
  case k6 => k_is
  case k7 => k_is
  case k9 => exact BindsTo.of_eq rfl
  case c5 => decide
  case kB => exact locs rfl
  case c2 => exact rfl
  case c3 => exact rfl
  case c4 => exact rfl
  intro g' L' h' FG' F' N' B' X' T' kG'
  (try dsimp only)
  (try k_fold)
  repeat' (first | (k_unfold; (try dsimp only)) | (k_end; wrow_close) | (walk1; try dsimp only) | (dsimp only; walk1; try dsimp only))
  all_goals (refine hret _ _ _ _ (by assumption) (by assumption) (ext_of kG' (by assumption)) ⟨[_], rfl, above_one (by assumption), ?_⟩)
  all_goals exact .tuple (vs := [_, _]) (n := 0) (.head _) (.cons (.str _ _) (.cons (.str _ _) .nil))

theorem told_name {w : World} {p : Program} {loose : List Str} {mean : ExcName → Option Value} {mg mb : Str → Option Value} {NL : List (Addr × Obj)} {a dx : Addr} {h₁ : Int} {t₁ u₁ : Tok} {k : Nat} {x : Str} (h1 : (a, instObj 183 dx) ∈ NL) (h2 : (dx, dictOf [⟨h₁, .str (S "text") t₁, .str x u₁⟩] k) ∈ NL) : Spec w p loose mean mg mb 277 [.ref a] 3 40 NL (PostD NL (tag "name" [.str x])) :=
  told_leaf (k := S "name") (fun T hs => kind_some (isi_name (hs _ h1) (hs _ h2)) rfl rfl) (fun T t' hs => plain_name (hs _ h1) (hs _ h2) t') (by decide) (by decide) (by decide)

set_option maxRecDepth 100000 in
set_option maxHeartbeats 2000000 in
theorem plain_string {w : World} {p : Program} {loose : List Str} {mean : ExcName → Option Value} {mg mb : Str → Option Value} {NL : List (Addr × Obj)} {a dx : Addr} {h₁ h₂ : Int} {t₁ t₂ u₁ : Tok} {k : Nat} {x : Array UInt8} {b : Bool} (h1 : (a, instObj 205 dx) ∈ NL) (h2 : (dx, dictOf [⟨h₁, .str (S "octets") t₁, .bytes x u₁⟩, ⟨h₂, .str (S "is_hex") t₂, .bool b⟩] k) ∈ NL) (hx : x.size ≤ 100) (t' : Tok) : Spec w p loose mean mg mb 272 [.str (S "string") t', .ref a] 1 10 NL (PostD NL (tag "string" [.bytes x])) := by
  unfold Spec
  intro dp u gd A₀ base h₀ env outer L m s Q E B F X Tp hf hk hd hu N hret
  refine wpAny_call ?_
  refine' code_defG B F X N Tp rfl hf hk ?k6 ?k7 (asm2 hd) ?k9 ?kB ?_ ?c2 ?c3 ?c4 ?c5
  case k6 => k_is
  case k7 => k_is
  case k9 => exact BindsTo.of_eq rfl
  case c5 => decide
  case kB => exact locs rfl
  case c2 => exact rfl
  case c3 => exact rfl
  case c4 => exact rfl
  intro g' L' h' FG' F' N' B' X' T' kG'
  (try dsimp only)
  (try k_fold)
  repeat' (first | (k_unfold; (try dsimp only)) | (k_end; wrow_close) | (walk1; try dsimp only) | (dsimp only; walk1; try dsimp only))
  all_goals (refine hret _ _ _ _ (by assumption) (by assumption) (ext_of kG' (by assumption)) ⟨[_], rfl, above_one (by assumption), ?_⟩)
  all_goals exact .tuple (vs := [_, _]) (n := 0) (.head _) (.cons (.str _ _) (.cons (.bytes _ _) .nil))

theorem told_string {w : World} {p : Program} {loose : List Str} {mean : ExcName → Option Value} {mg mb : Str → Option Value} {NL : List (Addr × Obj)} {a dx : Addr} {h₁ h₂ : Int} {t₁ t₂ u₁ : Tok} {k : Nat} {x : Array UInt8} {b : Bool} (h1 : (a, instObj 205 dx) ∈ NL) (h2 : (dx, dictOf [⟨h₁, .str (S "octets") t₁, .bytes x u₁⟩, ⟨h₂, .str (S "is_hex") t₂, .bool b⟩] k) ∈ NL) (hx : x.size ≤ 100) : Spec w p loose mean mg mb 277 [.ref a] 3 40 NL (PostD NL (tag "string" [.bytes x])) :=
  told_leaf (k := S "string") (fun T hs => kind_some (isi_string (hs _ h1) (hs _ h2)) rfl rfl) (fun T t' hs => plain_string (hs _ h1) (hs _ h2) hx t') (by decide) (by decide) (by decide)

set_option maxRecDepth 100000 in
set_option maxHeartbeats 2000000 in
theorem plain_ref {w : World} {p : Program} {loose : List Str} {mean : ExcName → Option Value} {mg mb : Str → Option Value} {NL : List (Addr × Obj)} {a dx : Addr} {h₁ h₂ : Int} {t₁ t₂ u₁ u₂ : Tok} {k : Nat} {i p' : Int} (h1 : (a, instObj 254 dx) ∈ NL) (h2 : (dx, dictOf [⟨h₁, .str (S "number") t₁, .int i u₁⟩, ⟨h₂, .str (S "generation") t₂, .int p' u₂⟩] k) ∈ NL) (t' : Tok) : Spec w p loose mean mg mb 272 [.str (S "ref") t', .ref a] 1 10 NL (PostD NL (tag "ref" [.int i, .int p'])) := by
  unfold Spec
  intro dp u gd A₀ base h₀ env outer L m s Q E B F X Tp hf hk hd hu N hret
  refine wpAny_call ?_
  refine' code_defG B F X N Tp rfl hf hk ?k6 ?k7 (asm2 hd) ?k9 ?kB ?_ ?c2 ?c3 ?c4 ?c5
  case k6 => k_is
  case k7 => k_is
  case k9 => exact BindsTo.of_eq rfl
  case c5 => decide
  case kB => exact locs rfl
  case c2 => exact rfl
  case c3 => exact rfl
  case c4 => exact rfl
  intro g' L' h' FG' F' N' B' X' T' kG'
  (try dsimp only)
  (try k_fold)
  repeat' (first | (k_unfold; (try dsimp only)) | (k_end; wrow_close) | (walk1; try dsimp only) | (dsimp only; walk1; try dsimp only))
  all_goals (refine hret _ _ _ _ (by assumption) (by assumption) (ext_of kG' (by assumption)) ⟨[_], rfl, above_one (by assumption), ?_⟩)
  all_goals exact .tuple (vs := [_, _, _]) (n := 0) (.head _) (.cons (.str _ _) (.cons (.int _ _) (.cons (.int _ _) .nil)))

theorem told_ref {w : World} {p : Program} {loose : List Str} {mean : ExcName → Option Value} {mg mb : Str → Option Value} {NL : List (Addr × Obj)} {a dx : Addr} {h₁ h₂ : Int} {t₁ t₂ u₁ u₂ : Tok} {k : Nat} {i p' : Int} (h1 : (a, instObj 254 dx) ∈ NL) (h2 : (dx, dictOf [⟨h₁, .str (S "number") t₁, .int i u₁⟩, ⟨h₂, .str (S "generation") t₂, .int p' u₂⟩] k) ∈ NL) : Spec w p loose mean mg mb 277 [.ref a] 3 40 NL (PostD NL (tag "ref" [.int i, .int p'])) :=
  told_leaf (k := S "ref") (fun T hs => kind_some (isi_ref (hs _ h1) (hs _ h2)) rfl rfl) (fun T t' hs => plain_ref (hs _ h1) (hs _ h2) t') (by decide) (by decide) (by decide)

end
section
theorem spec_le {w : World} {p : Program} {loose : List Str} {mean : ExcName → Option Value} {mg mb : Str → Option Value} {f : Addr} {vs : List Value} {dn un dn' un' : Nat} {NL : List (Addr × Obj)} {Post : List (Addr × Obj) → Value → Prop} (h : Spec w p loose mean mg mb f vs dn un NL Post) (h1 : dn ≤ dn') (h2 : un ≤ un') : Spec w p loose mean mg mb f vs dn' un' NL Post :=
  fun dp u gd A₀ base h₀ env outer L m s Q E B F X T hf hk hd hu N ret => h dp u gd A₀ base h₀ env outer L m s Q E B F X T hf hk (by omega) (by omega) N ret
theorem drop_cell {h₀ h : Heap} {L : Addr} {x c : Addr × Obj} {tl NL : List (Addr × Obj)} (N : News h₀ L h (x :: (tl ++ c :: NL))) : News h₀ L h (x :: (tl ++ NL)) := fun p hp => by
  refine N p ?_
  rcases List.mem_cons.mp hp with rfl | hp
  · exact .head _
  · rcases List.mem_append.mp hp with hp | hp
    · exact .tail _ (List.mem_append.mpr (.inl hp))
    · exact .tail _ (List.mem_append.mpr (.inr (.tail _ hp)))
theorem told_use {w : World} {p : Program} {loose : List Str} {mean : ExcName → Option Value} {mg mb : Str → Option Value} {n : Nat} (IH : Told w p loose mean mg mb n) {v : Value} {d : Dat} {NL T : List (Addr × Obj)} (h : ThIn w NL n v d) (hs : ∀ p ∈ NL, p ∈ T) :
    Spec w p loose mean mg mb 277 [v] (n + 3) (10 * n + 40) T (PostD T d) := IH v d T (h.mono hs)
section
local macro_rules | `(tactic| walk_at "call type:bytes") => `(tactic| (k_here; refine' bytes_bytes ?_))
theorem kind_stream {w : World} {p : Program} {loose : List Str} {mean : ExcName → Option Value} {mg mb : Str → Option Value} {a dx : Addr} {es : List DictEntry} {k : Nat} {T : List (Addr × Obj)} (hm : (a, instObj 226 dx) ∈ T) (hd : (dx, dictOf es k) ∈ T) :
    Spec w p loose mean mg mb 265 [.ref a] 2 20 T (fun NL' r => NL' = T ∧ ∃ t, r = .str (S "stream") t) := kind_some (isi_stream hm hd) rfl rfl
theorem kind_dict {w : World} {p : Program} {loose : List Str} {mean : ExcName → Option Value} {mg mb : Str → Option Value} {a : Addr} {es : List DictEntry} {k : Nat} {T : List (Addr × Obj)} (hm : (a, dictOf es k) ∈ T) :
    Spec w p loose mean mg mb 265 [.ref a] 2 20 T (fun NL' r => NL' = T ∧ ∃ t, r = .str (S "dict") t) := kind_some (isi_dict hm) rfl rfl
section
set_option maxRecDepth 100000 in
set_option maxHeartbeats 2000000 in
theorem told_stream {w : World} {p : Program} {loose : List Str} {mean : ExcName → Option Value} {mg mb : Str → Option Value} {n : Nat} (IH : Told w p loose mean mg mb n) {NL : List (Addr × Obj)} {a dx : Addr} {h₁ h₂ : Int} {t₁ t₂ u : Tok} {k : Nat} {hd : Addr} {dh : Dat} {x : Array UInt8} (m1 : (a, instObj 226 dx) ∈ NL) (m2 : (dx, dictOf [⟨h₁, .str (S "head") t₁, .ref hd⟩, ⟨h₂, .str (S "octets") t₂, .bytes x u⟩] k) ∈ NL)
    (hth : ThIn w NL n (.ref hd) dh) :
    Spec w p loose mean mg mb 277 [.ref a] (n + 4) (10 * n + 50) NL (PostD NL (tag "stream" [dh, .bytes x])) := by
  unfold Spec
  intro dp u gd A₀ base h₀ env outer L m s Q E B F X Tp hf hk hd hu N hret
  refine wpAny_call ?_
  refine' code_defCG B F X N Tp rfl hf hk ?k6 ?k7 (asm2 hd) ?k9 ?kB ?kD ?_ ?c2 ?c3 ?c4
  case k6 => k_is
  case k7 => k_is
  case k9 => exact BindsTo.of_eq rfl
  case kB => exact rfl
  case kD => decide +kernel
  case c2 => exact rfl
  case c3 => exact rfl
  case c4 => exact rfl
  intro g' L' h' tk' cells' FG' F' N' Y' B' X' T' l1 kG'
  k_cells Y'
  (try simp only [List.cons_append, List.nil_append] at N')
  (try dsimp only)
  (try k_fold)
  repeat' (first | (k_unfold; (try dsimp only)) | (k_end; wrow_close) | ((fail_if_success (fail_if_success (with_reducible show wpAny _ _ (call (Value.ref _) _) _ _ _))); (first | (k_here; k_dflt ((rename Told _ _ _ _ _ _ _ => lIz); (rename ThIn _ _ _ _ _ => lTz); (refine' spec_useG (told_use lIz lTz ?th9z) ?B9z ?F9z ?X9z ?T9z rfl rfl ?hd9z ?hu9z ?N9z ?_; (case B9z => k_asm); (case F9z => k_asm); (case X9z => k_asm); (case T9z => k_asm); (case hd9z => k_room); (case hu9z => k_units); (case N9z => k_asm); (case th9z => exact fun p hp => List.mem_cons_of_mem _ hp)); (intro GGz hGGz r1z h1z tk1z NL1z F1z N1z x1z P1z; obtain ⟨tl1z, e1z, ab1z, dt1z⟩ := P1z; subst e1z; refine hGGz _ _ _ _ ?_; clear hGGz GGz; clear x1z; (try k_sweep)))) | (k_here; k_dflt ((refine' spec_useG (kind_stream ?hm9z ?hm29z) ?B9z ?F9z ?X9z ?T9z rfl rfl ?hd9z ?hu9z ?N9z ?_; (case B9z => k_asm); (case F9z => k_asm); (case X9z => k_asm); (case T9z => k_asm); (case hd9z => k_room); (case hu9z => k_units); (case N9z => k_asm); (case hm9z => k_mem); (case hm29z => k_mem)); (intro GGz hGGz r1z h1z tk1z NL1z F1z N1z x1z P1z; obtain ⟨e1z, t1z, e2z⟩ := P1z; subst e1z e2z; refine hGGz _ _ _ _ ?_; clear hGGz GGz; clear x1z; (try k_sweep))))); try dsimp only) | (walk1; try dsimp only) | (dsimp only; walk1; try dsimp only))
  rename News h₀ L _ _ => kN9
  rename Above _ _ => ab9
  rename DatIn _ _ _ => dt9
  refine hret _ _ _ _ (by assumption) (drop_cell kN9) (ext_of kG' (by assumption)) ⟨_ :: _, rfl, fun q hq p hp => ?_, .tuple (vs := [_, _, _]) (n := 0) (.head _) (.cons (.str _ _) (.cons (dt9.mono fun p hp => .tail _ hp) (.cons (.bytes _ _) .nil)))⟩
  · rcases List.mem_cons.mp hp with rfl | hp
    · exact (by assumption : ∀ q ∈ _, @LT.lt Nat _ q.1 _) q (List.mem_append.mpr (.inr (.tail _ hq)))
    · exact ab9 q (.tail _ hq) p hp
end
section
set_option maxRecDepth 100000 in
set_option maxHeartbeats 2000000 in
theorem told_dict {w : World} {p : Program} {loose : List Str} {mean : ExcName → Option Value} {mg mb : Str → Option Value} {n : Nat} (IH : Told w p loose mean mg mb n) {NL : List (Addr × Obj)} {a : Addr} {o : Obj} {kvs srt : List (Str × Value)} {ps : List (Str × Dat)}
    (hm : (a, o) ∈ NL) (hod : o.IsDictOf (PySem.strKind PROG w) kvs) (la : (a == sysModules) = false) (so : Sorted kvs srt) (hl : kvs.length ≤ 4)
    (hr : All₂ (fun (r : Str × Value) (p : Str × Dat) => r.1 = p.1 ∧ ThIn w NL n r.2 p.2) (srt.filter (fun r => r.2 != .none)) ps) :
    Spec w p loose mean mg mb 277 [.ref a] (n + 4) (10 * n + 50) NL (PostD NL (tag "dict" (ps.map pairD))) := by
  obtain ⟨es, k, rfl⟩ := obj_dict hod
  unfold Spec
  intro dp u gd A₀ base h₀ env outer L m s Q E B F X Tp hf hk hd hu N hret
  refine wpAny_call ?_
  refine' code_defCG B F X N Tp rfl hf hk ?k6 ?k7 (asm2 hd) ?k9 ?kB ?kD ?_ ?c2 ?c3 ?c4
  case k6 => k_is
  case k7 => k_is
  case k9 => exact BindsTo.of_eq rfl
  case kB => exact rfl
  case kD => decide +kernel
  case c2 => exact rfl
  case c3 => exact rfl
  case c4 => exact rfl
  intro g' L' h' tk' cells' FG' F' N' Y' B' X' T' l1 kG'
  k_cells Y'
  (try simp only [List.cons_append, List.nil_append] at N')
  (try dsimp only)
  (try k_fold)
  repeat' (first | (k_unfold; (try dsimp only)) | (k_end; wrow_close) | ((fail_if_success (fail_if_success (with_reducible show wpAny _ _ (call (Value.ref _) _) _ _ _))); (k_here; k_dflt ((refine' spec_useG (kind_dict ?hm9z) ?B9z ?F9z ?X9z ?T9z rfl rfl ?hd9z ?hu9z ?N9z ?_; (case B9z => k_asm); (case F9z => k_asm); (case X9z => k_asm); (case T9z => k_asm); (case hd9z => k_room); (case hu9z => k_units); (case N9z => k_asm); (case hm9z => k_mem)); (intro GGz hGGz r1z h1z tk1z NL1z F1z N1z x1z P1z; obtain ⟨e1z, t1z, e2z⟩ := P1z; subst e1z e2z; refine hGGz _ _ _ _ ?_; clear hGGz GGz; clear x1z; (try k_sweep)))); try dsimp only) | (walk1; try dsimp only) | (dsimp only; walk1; try dsimp only))
  k_dflt (refine' sorted_dict_N rfl ?F ?N ?hm hod la so hl ?_)
  case F => k_asm
  case N => k_asm
  case hm => k_mem
  intro D0 vs0 e0 h8 tk8 F8 N8 l8 hv8
  dsimp only
  iterate 2 (all_goals (try (first | (k_unfold; (try dsimp only)) | (k_end; wrow_close) | ((fail_if_success (fail_if_success (with_reducible show wpAny _ _ (call (Value.ref _) _) _ _ _))); (k_here; k_dflt ((refine' spec_useG (kind_dict ?hm9z) ?B9z ?F9z ?X9z ?T9z rfl rfl ?hd9z ?hu9z ?N9z ?_; (case B9z => k_asm); (case F9z => k_asm); (case X9z => k_asm); (case T9z => k_asm); (case hd9z => k_room); (case hu9z => k_units); (case N9z => k_asm); (case hm9z => k_mem)); (intro GGz hGGz r1z h1z tk1z NL1z F1z N1z x1z P1z; obtain ⟨e1z, t1z, e2z⟩ := P1z; subst e1z e2z; refine hGGz _ _ _ _ ?_; clear hGGz GGz; clear x1z; (try k_sweep)))); try dsimp only) | (walk1; try dsimp only) | (dsimp only; walk1; try dsimp only))))
  refine' told_dict_comp IH ?B ?F ?X ?T ?e1 ?e2 ?e3 ?e4 ?hd ?hu ?N ?hm hod ?hc ?hoc so hl ?hD ?hv ?hr ?_
  case B => k_asm
  case F => k_asm
  case X => k_asm
  case T => k_asm
  case N => k_asm
  case hd => k_room
  case hu => k_units
  case e1 => exact rfl
  case e2 => exact rfl
  case e3 => exact rfl
  case e4 => exact rfl
  case hD => exact List.Mem.head _
  case hc => exact List.Mem.tail _ (List.Mem.tail _ (List.Mem.head _))
  case hoc => assumption
  case hm => k_mem
  case hv => exact hv8
  case hr => exact hr.mono fun _ _ x => ⟨x.1, ThIn.mono (fun p hp => by first | exact .tail _ (.tail _ hp) | exact .tail _ (.tail _ (.tail _ hp))) x.2⟩
  intro D ys kD tl h9 tk9 hD F9 N9 ab9 hy9
  dsimp only
  iterate 2 (all_goals (try (first | (k_unfold; (try dsimp only)) | (k_end; wrow_close) | ((fail_if_success (fail_if_success (with_reducible show wpAny _ _ (call (Value.ref _) _) _ _ _))); (k_here; k_dflt ((refine' spec_useG (kind_dict ?hm9z) ?B9z ?F9z ?X9z ?T9z rfl rfl ?hd9z ?hu9z ?N9z ?_; (case B9z => k_asm); (case F9z => k_asm); (case X9z => k_asm); (case T9z => k_asm); (case hd9z => k_room); (case hu9z => k_units); (case N9z => k_asm); (case hm9z => k_mem)); (intro GGz hGGz r1z h1z tk1z NL1z F1z N1z x1z P1z; obtain ⟨e1z, t1z, e2z⟩ := P1z; subst e1z e2z; refine hGGz _ _ _ _ ?_; clear hGGz GGz; clear x1z; (try k_sweep)))); try dsimp only) | (walk1; try dsimp only) | (dsimp only; walk1; try dsimp only))))
  have hyl := DatAll.length hy9
  have hrl := hr.length
  have hfl := List.length_filter_le (fun r : Str × Value => r.2 != .none) srt
  have hsl := so.length
  rw [List.length_map] at hyl
  k_dflt (refine' tuple_list_N ?F ?N ?hl ?hz ?_)
  case F => k_asm
  case N => k_asm
  case hl => exact List.Mem.head _
  case hz => rw [sizeLine_eq]; omega
  intro a1 h10 F10 N10 l10
  dsimp only
  k_dflt (refine' add_tup_N (NL := NL) ?F ?N ?hl ?hb ?hne ?hz ?hab ?hs ?_)
  case F => k_asm
  case N => k_asm
  case hl => k_mem
  case hb => exact List.Mem.head _
  case hne => exact List.cons_ne_nil _ _
  case hz => (rw [sizeLine_eq]; simp only [List.length_cons, List.length_nil]; omega)
  case hab => exact ktn_ltOf (And.right (by assumption))
  case hs => exact fun p hp => .tail _ (.tail _ (List.mem_append.mpr (.inr (.tail _ (.tail _ (.tail _ hp))))))
  intro a2 n2 o2 h11 nw11 e11 F11 N11 s11 m11 l11
  dsimp only
  repeat' (first | (k_unfold; (try dsimp only)) | (k_end; wrow_close) | ((fail_if_success (fail_if_success (with_reducible show wpAny _ _ (call (Value.ref _) _) _ _ _))); (k_here; k_dflt ((refine' spec_useG (kind_dict ?hm9z) ?B9z ?F9z ?X9z ?T9z rfl rfl ?hd9z ?hu9z ?N9z ?_; (case B9z => k_asm); (case F9z => k_asm); (case X9z => k_asm); (case T9z => k_asm); (case hd9z => k_room); (case hu9z => k_units); (case N9z => k_asm); (case hm9z => k_mem)); (intro GGz hGGz r1z h1z tk1z NL1z F1z N1z x1z P1z; obtain ⟨e1z, t1z, e2z⟩ := P1z; subst e1z e2z; refine hGGz _ _ _ _ ?_; clear hGGz GGz; clear x1z; (try k_sweep)))); try dsimp only) | (walk1; try dsimp only) | (dsimp only; walk1; try dsimp only))
  refine hret _ _ _ ((a2, o2) :: (tl ++ NL)) (by assumption) ?_ (ext_of kG' F11) ⟨(a2, o2) :: tl, rfl, ?_, ?_⟩
  · rename News h₀ L h11 nw11 => N12
    intro p hp
    rcases List.mem_cons.mp hp with rfl | hp
    · exact N12 _ m11
    · refine N12 _ (s11 _ (.tail _ (.tail _ (List.mem_append.mpr ?_))))
      rcases List.mem_append.mp hp with hp | hp
      · exact .inl hp
      · exact .inr (.tail _ (.tail _ (.tail _ hp)))
  · intro q hq p hp
    rcases List.mem_cons.mp hp with rfl | hp
    · exact l11 q hq
    · exact ab9 q (.tail _ (.tail _ (.tail _ hq))) p hp
  · subst e11
    exact DatIn.tuple (.head _) (.cons (.str _ _) (hy9.mono fun p hp => .tail _ hp))
end
end
theorem told_all {w : World} {p : Program} {loose : List Str} {mean : ExcName → Option Value} {mg mb : Str → Option Value} : ∀ n, Told w p loose mean mg mb n
  | 0 => fun v d NL h => by
    cases h with
    | null => exact told_null
    | truth b => exact told_truth b
    | int i t => exact told_int i t
    | real i p a b c => exact told_real a b
    | name x a b => exact told_name a b
    | string x y a b c => exact told_string a b c
    | ref i p a b => exact told_ref a b
  | n + 1 => fun v d NL h => by
    rcases h with h | ⟨a, k, vs, ds, rfl, hm, r, l, rfl⟩ | ⟨a, o, rows, srt, ps, rfl, hm, hod, la, so, l, r, rfl⟩ | ⟨a, dx, h₁, h₂, t₁, t₂, u, m, hd, dh, x, rfl, m1, m2, sz, r, di, rfl⟩
    · refine spec_le ?_ (Nat.le_add_left 3 (n + 1)) (show 40 ≤ 10 * (n + 1) + 40 by omega)
      cases h with
      | null => exact told_null
      | truth b => exact told_truth b
      | int i t => exact told_int i t
      | real i p a b c => exact told_real a b
      | name x a b => exact told_name a b
      | string x y a b c => exact told_string a b c
      | ref i p a b => exact told_ref a b
    · exact told_arr (told_all n) hm r l
    · exact told_dict (told_all n) hm hod la so l r
    · exact told_stream (told_all n) m1 m2 r
end
section
inductive LfOk : Dat → Prop
  | null : LfOk (tag "null" [])
  | truth (b : Bool) : LfOk (tag "truth" [.int (if b then 1 else 0)])
  | int (i : Int) : LfOk (tag "int" [.int i])
  | real (i p : Int) : Int.fmod i 10 ≠ 0 → LfOk (tag "real" [.int i, .int p])
  | name (x : Str) : LfOk (tag "name" [.str x])
  | string (x : Array UInt8) : x.size ≤ 100 → LfOk (tag "string" [.bytes x])
  | ref (i p : Int) : LfOk (tag "ref" [.int i, .int p])
noncomputable def Rising (ps : List (Str × Dat)) : Prop := ps.Pairwise fun a b => a.1.cps.toList < b.1.cps.toList
noncomputable def DcOk (R : Dat → Prop) (ps : List (Str × Dat)) : Prop := ps.length ≤ 4 ∧ Rising ps ∧ ∀ p ∈ ps, R p.2 ∧ p.2 ≠ tag "null" []
inductive ShStr (R : Dat → Prop) (d : Dat) : Prop
  | mk (dh : Dat) (x : Array UInt8) : d = tag "stream" [dh, .bytes x] → x.size ≤ 100 → isDictD dh → R dh → ShStr R d
noncomputable def ShOk : Nat → Dat → Prop
  | 0, d => LfOk d
  | n + 1, d => LfOk d ∨ (∃ ds, d = tag "array" ds ∧ ds.length ≤ 3 ∧ ∀ x ∈ ds, ShOk n x) ∨ (∃ ps, d = tag "dict" (ps.map pairD) ∧ DcOk (ShOk n) ps) ∨ ShStr (ShOk n) d
theorem LeafIn.ok {T : List (Addr × Obj)} {v : Value} {d : Dat} (h : LeafIn T v d) : LfOk d := by
  cases h with
  | null => exact .null
  | truth b => exact .truth b
  | int i t => exact .int i
  | real i p a b c => exact .real i p c
  | name x a b => exact .name x
  | string x y a b c => exact .string x c
  | ref i p a b => exact .ref i p
theorem All₂.right {α β : Type} {R : α → β → Prop} {P : β → Prop} (h : ∀ a b, R a b → P b) {l : List α} {m : List β} (r : All₂ R l m) : ∀ x ∈ m, P x := by
  induction r with
  | nil => exact fun _ hx => nomatch hx
  | cons a _ ih => exact fun x hx => (List.mem_cons.mp hx).elim (fun e => e ▸ h _ _ a) (ih x)
theorem All₂.rightM {α β : Type} {R : α → β → Prop} {P : β → Prop} {l : List α} {m : List β} (h : ∀ a ∈ l, ∀ b, R a b → P b) (r : All₂ R l m) : ∀ x ∈ m, P x := by
  induction r with
  | nil => exact fun _ hx => nomatch hx
  | cons a _ ih => exact fun x hx => (List.mem_cons.mp hx).elim (fun e => e ▸ h _ (.head _) _ a) (ih (fun a ha => h a (.tail _ ha)) x)
theorem All₂.leftM {α β : Type} {R : α → β → Prop} {P : α → Prop} {l : List α} {m : List β} (h : ∀ b ∈ m, ∀ a, R a b → P a) (r : All₂ R l m) : ∀ x ∈ l, P x := by
  induction r with
  | nil => exact fun _ hx => nomatch hx
  | cons a _ ih => exact fun x hx => (List.mem_cons.mp hx).elim (fun e => e ▸ h _ (.head _) _ a) (ih (fun a ha => h a (.tail _ ha)) x)
theorem All₂.zip {α β γ : Type} {R : α → β → Prop} : ∀ {l : List (γ × α)} {m : List (γ × β)}, l.map (·.1) = m.map (·.1) → All₂ R (l.map (·.2)) (m.map (·.2)) → All₂ (fun a b => a.1 = b.1 ∧ R a.2 b.2) l m
  | [], [], _, _ => .nil
  | [], _ :: _, h, _ => by simp at h
  | _ :: _, [], h, _ => by simp at h
  | a :: l, b :: m, h, r => by
    simp only [List.map_cons, List.cons.injEq] at h
    simp only [List.map_cons] at r
    cases r with
    | cons x r => exact .cons ⟨h.1, x⟩ (All₂.zip h.2 r)
theorem tag_ne {k k' : String} (h : (S k = S k') = False) {ds ds' : List Dat} (e : tag k ds = tag k' ds') : False := by
  simp only [tag, Dat.tuple.injEq, List.cons.injEq, Dat.str.injEq] at e
  exact h.mp e.1
theorem th_null {w : World} {T : List (Addr × Obj)} {n : Nat} {v : Value} (h : ThIn w T n v (tag "null" [])) : v = .none := by
  have lf : ∀ d, LeafIn T v d → d = tag "null" [] → v = .none := by
    intro d h e
    cases h with
    | null => rfl
    | truth b => exact (tag_ne (eq_false (by decide)) e).elim
    | int i t => exact (tag_ne (eq_false (by decide)) e).elim
    | real i p a b c => exact (tag_ne (eq_false (by decide)) e).elim
    | name x a b => exact (tag_ne (eq_false (by decide)) e).elim
    | string x y a b c => exact (tag_ne (eq_false (by decide)) e).elim
    | ref i p a b => exact (tag_ne (eq_false (by decide)) e).elim
  cases n with
  | zero => exact lf _ h rfl
  | succ n =>
    rcases h with h | ⟨a, k, vs, ds, _, _, _, _, e⟩ | ⟨a, o, rows, srt, ps, _, _, _, _, _, _, _, e⟩ | ⟨a, dx, h₁, h₂, t₁, t₂, u, m, hd, dh, x, _, _, _, _, _, _, e⟩
    · exact lf _ h rfl
    · exact (tag_ne (eq_false (by decide)) e).elim
    · exact (tag_ne (eq_false (by decide)) e).elim
    · exact (tag_ne (eq_false (by decide)) e).elim
theorem th_none {w : World} {T : List (Addr × Obj)} {n : Nat} {d : Dat} (h : ThIn w T n .none d) : d = tag "null" [] := by
  cases n with
  | zero => cases h; rfl
  | succ n =>
    rcases h with h | ⟨a, k, vs, ds, e, _⟩ | ⟨a, o, rows, srt, ps, e, _⟩ | ⟨a, dx, h₁, h₂, t₁, t₂, u, m, hd, dh, x, e, _⟩
    · cases h; rfl
    · cases e
    · cases e
    · cases e
theorem All₂.keys {R : Value → Dat → Prop} {l : List (Str × Value)} {m : List (Str × Dat)} (x : All₂ (fun (r : Str × Value) (p : Str × Dat) => r.1 = p.1 ∧ R r.2 p.2) l m) : m.map (·.1) = l.map (·.1) := by
  induction x with
  | nil => rfl
  | cons a _ ih => rw [List.map_cons, List.map_cons, ih, a.1]
theorem th_sh {w : World} {T : List (Addr × Obj)} : ∀ {n : Nat} {v : Value} {d : Dat}, ThIn w T n v d → ShOk n d
  | 0, _, _, h => LeafIn.ok h
  | n + 1, _, _, h => by
    rcases h with h | ⟨a, k, vs, ds, rfl, hm, r, l, rfl⟩ | ⟨a, o, rows, srt, ps, rfl, hm, hod, la, so, l, r, rfl⟩ | ⟨a, dx, h₁, h₂, t₁, t₂, u, m, hd, dh, x, rfl, m1, m2, sz, r, di, rfl⟩
    · exact .inl h.ok
    · exact .inr (.inl ⟨ds, rfl, by have := r.length; omega, r.right (P := ShOk n) fun _ _ x => th_sh x⟩)
    · refine .inr (.inr (.inl ⟨ps, rfl, ?_, ?_, r.rightM (P := fun p => ShOk n p.2 ∧ p.2 ≠ tag "null" []) fun a ha b x => ⟨th_sh x.2, fun e => ?_⟩⟩))
      · have := r.length
        have h2 := List.length_filter_le (fun r : Str × Value => r.2 != .none) srt
        have h3 := so.length
        omega
      · have hk := r.keys
        have hp : ((srt.filter (fun r => r.2 != .none)).map (·.1)).Pairwise (fun a b : Str => a.cps.toList < b.cps.toList) := List.pairwise_map.mpr (List.Pairwise.sublist List.filter_sublist so.up)
        rw [← hk] at hp
        exact (List.pairwise_map (f := fun p : Str × Dat => p.1) (R := fun a b : Str => a.cps.toList < b.cps.toList)).mp hp
      · have x2 := x.2
        rw [e] at x2
        have := (List.mem_filter.mp ha).2
        rw [th_null x2] at this
        exact absurd this (by decide)
    · exact .inr (.inr (.inr ⟨dh, x, rfl, sz, di, th_sh r⟩))
theorem sh_dict : ∀ {n : Nat} {d : Dat}, ShOk n d → isDictD d → ∃ m ps, n = m + 1 ∧ d = tag "dict" (ps.map pairD) ∧ DcOk (ShOk m) ps := by
  have lf : ∀ d, LfOk d → isDictD d → False := by
    rintro d h ⟨ds, e⟩
    cases h <;> exact tag_ne (eq_false (by decide)) e
  rintro (_ | n) d h di
  · exact (lf d h di).elim
  · rcases h with h | ⟨ds, rfl, _⟩ | ⟨ps, rfl, h⟩ | ⟨dh, x, rfl, _⟩
    · exact (lf d h di).elim
    · obtain ⟨ds', e⟩ := di
      exact (tag_ne (eq_false (by decide)) e).elim
    · exact ⟨n, ps, rfl, rfl, h⟩
    · obtain ⟨ds', e⟩ := di
      exact (tag_ne (eq_false (by decide)) e).elim
noncomputable def Dis (T U : List (Addr × Obj)) : Prop := ∀ p ∈ T, ∀ q ∈ U, p.1 ≠ q.1
noncomputable def Part (T : List (Addr × Obj)) (as : List Addr) (R : List (Addr × Obj) → Value → Prop) (v : Value) (U : List (Addr × Obj)) : Prop := R U v ∧ ∀ p ∈ U, p ∈ T ∧ p.1 ∉ as
inductive SpArr (T : List (Addr × Obj)) (R : List (Addr × Obj) → Value → Prop) (v : Value) : Prop
  | mk (a : Addr) (k : Nat) (vs : List Value) (Us : List (List (Addr × Obj))) : v = .ref a → (a, listOf vs.toArray k) ∈ T → vs.length ≤ 3 → All₂ (Part T [a] R) vs Us → Us.Pairwise Dis → SpArr T R v
inductive SpDct (w : World) (T : List (Addr × Obj)) (R : List (Addr × Obj) → Value → Prop) (v : Value) : Prop
  | mk (a : Addr) (o : Obj) (kvs srt : List (Str × Value)) (Us : List (List (Addr × Obj))) : v = .ref a → (a, o) ∈ T → o.IsDictOf (PySem.strKind PROG w) kvs → (a == sysModules) = false → Sorted kvs srt → kvs.length ≤ 4 → All₂ (Part T [a] R) (srt.map (·.2)) Us → Us.Pairwise Dis → SpDct w T R v
inductive SpStr (T : List (Addr × Obj)) (R : List (Addr × Obj) → Value → Prop) (v : Value) : Prop
  | mk (a dx : Addr) (h₁ h₂ : Int) (t₁ t₂ u : Tok) (k : Nat) (hd : Addr) (x : Array UInt8) (U : List (Addr × Obj)) : v = .ref a → (a, instObj 226 dx) ∈ T → (dx, dictOf [⟨h₁, .str (S "head") t₁, .ref hd⟩, ⟨h₂, .str (S "octets") t₂, .bytes x u⟩] k) ∈ T → x.size ≤ 100 → Part T [a, dx] R (.ref hd) U → SpStr T R v
noncomputable def SpIn (w : World) : Nat → List (Addr × Obj) → Value → Prop
  | 0, T, v => ∃ d, LeafIn T v d
  | n + 1, T, v => (∃ d, LeafIn T v d) ∨
      SpArr T (SpIn w n) v ∨ SpDct w T (SpIn w n) v ∨ SpStr T (SpIn w n) v
end
section
section
variable {prog : Program} {w : World} {A : Around} {E : Value → Shared → Prop} {s : Shared} {h₀ : Heap} {L : Addr} {m : Str → Option Value} {nw : List (Addr × Obj)} {Q : Value → Shared → Prop}
theorem isTup_N {a : Addr} {xs : List Value} {n : Nat} (N : News h₀ L s.heap nw) (hm : (a, tupOf xs.toArray n) ∈ nw) : IsTup s.heap a xs.toArray := ⟨_, (N _ hm).1, rfl, n, rfl⟩
theorem tup_item_N {value slice : Expr} {a : Addr} {xs : List Value} {n : Nat} {i : Int} {u : Tok} {x : Value} (N : News h₀ L s.heap nw) (hm : (a, tupOf xs.toArray n) ∈ nw) (h0 : 0 ≤ i) (h1 : i < 2 ^ 62) (hx : xs[i.toNat]? = some x) (h : Q x s)
    (hs : subscripted slice false (.ref a) (.int i u) = operate [.ref a, .int i u] (getItem (.ref a) (.int i u)) := by with_unfolding_all rfl) (hg : ∀ r, letTemporaryGo value (.ref a) r = pure () := by intro _; with_unfolding_all rfl) :
    wpAny (model prog w) A (subscriptTail value slice (.ref a) (.int i u)) Q E s := by
  have hlt : i.toNat < xs.length := by
    rcases Nat.lt_or_ge i.toNat xs.length with h | h
    · exact h
    · rw [List.getElem?_eq_none h] at hx; cases hx
  refine item_tupleL (isTup_N N hm) (by omega) (by omega) (j := i.toNat) ?_ hx h hs hg
  unfold seqIndex?
  simp only
  split <;> first | omega | skip
  all_goals (try (split <;> first | omega | rfl | skip))
  all_goals (try simp_all)
  all_goals (try omega)
theorem tup_tail_N {value slice : Expr} {a : Addr} {v0 : Value} {vs : List Value} {n : Nat} {u : Tok} {h : Heap} {tk : Nat} (F : Fr h₀ L h m) (N : News h₀ L h nw) (hm : (a, tupOf (v0 :: vs).toArray n) ∈ nw) (hz : vs.length < 1000)
    (hq : ∀ (D : Addr) h', Fr h₀ L h' m → News h₀ L h' ((D, tupOf vs.toArray 0) :: nw) → (∀ p ∈ nw, @LT.lt Nat _ p.1 D) → Q (.ref D) { s with heap := h', toks := tk })
    (hs : subscripted slice false (.ref a) (.ref h.objs.size) = operate [.ref h.objs.size, .ref a] (getItem (.ref a) (.ref h.objs.size)) := by with_unfolding_all rfl)
    (hg : ∀ r, letTemporaryGo value (.ref a) r = pure () := by intro _; with_unfolding_all rfl) :
    wpAny (model prog w) A (subscriptTail value slice (.ref a) (.ref h.objs.size)) Q E { s with heap := h.push { cls := .type "slice", data := .fields #[.int 1 u, .none, .none] }, toks := tk } := by
  have hT : IsTup h a (v0 :: vs).toArray := ⟨_, (N _ hm).1, rfl, n, rfl⟩
  refine slice_tuple_from (s := { s with heap := h, toks := tk }) (a := 1) F N hT (Nat.le_refl 1) (by simp) (fun h' F' N' => ?_) hs hg (by rw [sizeLine_eq, List.size_toArray, List.length_cons]; omega)
  exact hq _ h' F' (by simpa using N') fun p hp => Nat.lt_succ_of_lt (Heap.lt_size (N p hp).1)
theorem while_no {test : Expr} {body : List Stmt} {pos : Pos} {env : Env} {Q : Flow → Shared → Prop} (h : ∀ E', wpAny (model prog w) A (isTrue test env (eval test env)) (fun b s₂ => b = false ∧ Q .next s₂) E' s) : wpAny (model prog w) A (exec (.While test body [] pos) env) Q E s := by
  refine wpAny_While (codeAny_whileLoop (fun _ s' => s' = s) (fun n s' hs => ?_) 0 rfl)
  subst hs
  refine wpAny_mono (h _) (fun b s₂ hb => ?_) fun _ _ e => e
  obtain ⟨rfl, hq⟩ := hb
  exact wpAny_execs_nil hq
end
end
section
local macro_rules | `(tactic| walk_at "subscriptTail") => `(tactic| (k_here; (with_reducible show wpAny _ _ (subscriptTail _ _ (Value.ref _) (Value.int _ _)) _ _ _); k_dflt (refine' tup_item_N ?N ?hm ?h0 ?h1 ?hx ?_; (case N => k_asm); (case hm => k_mem); (case h0 => decide); (case h1 => decide); (case hx => exact rfl))))
local macro_rules | `(tactic| walk_at "subscriptTail") => `(tactic| (k_here; (with_reducible show wpAny _ _ (subscriptTail _ _ (Value.ref _) (Value.ref _)) _ _ _); k_dflt (refine' tup_tail_N ?F ?N ?hm ?hz ?_; (case F => k_asm); (case N => k_asm); (case hm => k_mem); (case hz => ((try simp only [List.length_cons, List.length_nil]); omega)); intro D' h' F' N' l1; (try k_lt l1))))
section
inductive PostL (NL : List (Addr × Obj)) (d : Dat) (NL' : List (Addr × Obj)) (r : Value) : Prop
  | mk (tl : List (Addr × Obj)) : NL' = tl ++ NL → Above NL tl → LeafIn tl r d → PostL NL d NL' r
theorem above_two {NL : List (Addr × Obj)} {D D' : Addr} {o o' : Obj} (h : ∀ p ∈ NL, @LT.lt Nat _ p.1 D) (h' : @LT.lt Nat _ D D') : Above NL [(D', o'), (D, o)] := fun q hq p hp => by
  rcases List.mem_cons.mp hp with rfl | hp
  · exact Nat.lt_trans (h q hq) h'
  · rw [List.mem_singleton.mp hp]; exact h q hq
set_option maxRecDepth 100000 in
set_option maxHeartbeats 2000000 in
theorem leaf_real {w : World} {p : Program} {loose : List Str} {mean : ExcName → Option Value} {mg mb : Str → Option Value} {NL : List (Addr × Obj)} {a : Addr} {i p' : Int} {t2 t3 : Tok} {t1 : Tok} {k : Nat} (hm : (a, tupOf [.str (S "real") t1, .int i t2, .int p' t3].toArray k) ∈ NL) (hi : Int.fmod i 10 ≠ 0) : Spec w p loose mean mg mb 296 [.ref a] 2 30 NL
    (PostL NL (tag "real" [.int i, .int p'])) := by
  unfold Spec
  intro dp u gd A₀ base h₀ env outer L m s Q E B F X Tp hf hk hd hu N hret
  refine wpAny_call ?_
  refine' code_defG B F X N Tp rfl hf hk ?k6 ?k7 (asm2 hd) ?k9 ?kB ?_ ?c2 ?c3 ?c4 ?c5
  case k6 => k_is
  case k7 => k_is
  case k9 => exact BindsTo.of_eq rfl
  case c5 => decide
  case kB => exact locs rfl
  case c2 => exact rfl
  case c3 => exact rfl
  case c4 => exact rfl
  intro g' L' h' FG' F' N' B' X' T' kG'
  (try dsimp only)
  (try k_fold)
  repeat' (first | (k_unfold; (try dsimp only)) | (k_end; wrow_close) | ((fail_if_success (fail_if_success (with_reducible show wpAny _ _ (exec (Stmt.While _ _ _ _) _) _ _ _))); (k_here; k_dflt (refine' while_no ?_; intro _)); try dsimp only) | (walk1; try dsimp only) | (dsimp only; walk1; try dsimp only))
  all_goals exact hret _ _ _ _ (by assumption) (by assumption) (ext_of kG' (by assumption)) ⟨[_, _], rfl, above_two (by assumption) (by assumption), .real _ _ (.head _) (.tail _ (.head _)) hi⟩
set_option maxRecDepth 100000 in
set_option maxHeartbeats 2000000 in
theorem leaf_name {w : World} {p : Program} {loose : List Str} {mean : ExcName → Option Value} {mg mb : Str → Option Value} {NL : List (Addr × Obj)} {a : Addr} {x : Str} {t2 : Tok} {t1 : Tok} {k : Nat} (hm : (a, tupOf [.str (S "name") t1, .str x t2].toArray k) ∈ NL)  : Spec w p loose mean mg mb 296 [.ref a] 2 30 NL
    (PostL NL (tag "name" [.str x])) := by
  unfold Spec
  intro dp u gd A₀ base h₀ env outer L m s Q E B F X Tp hf hk hd hu N hret
  refine wpAny_call ?_
  refine' code_defG B F X N Tp rfl hf hk ?k6 ?k7 (asm2 hd) ?k9 ?kB ?_ ?c2 ?c3 ?c4 ?c5
  case k6 => k_is
  case k7 => k_is
  case k9 => exact BindsTo.of_eq rfl
  case c5 => decide
  case kB => exact locs rfl
  case c2 => exact rfl
  case c3 => exact rfl
  case c4 => exact rfl
  intro g' L' h' FG' F' N' B' X' T' kG'
  (try dsimp only)
  (try k_fold)
  repeat' (first | (k_unfold; (try dsimp only)) | (k_end; wrow_close) | ((fail_if_success (fail_if_success (with_reducible show wpAny _ _ (exec (Stmt.While _ _ _ _) _) _ _ _))); (k_here; k_dflt (refine' while_no ?_; intro _)); try dsimp only) | (walk1; try dsimp only) | (dsimp only; walk1; try dsimp only))
  all_goals exact hret _ _ _ _ (by assumption) (by assumption) (ext_of kG' (by assumption)) ⟨[_, _], rfl, above_two (by assumption) (by assumption), .name _ (.head _) (.tail _ (.head _))⟩
set_option maxRecDepth 100000 in
set_option maxHeartbeats 2000000 in
theorem leaf_string {w : World} {p : Program} {loose : List Str} {mean : ExcName → Option Value} {mg mb : Str → Option Value} {NL : List (Addr × Obj)} {a : Addr} {x : Array UInt8} {t2 : Tok} {t1 : Tok} {k : Nat} (hm : (a, tupOf [.str (S "string") t1, .bytes x t2].toArray k) ∈ NL) (hx : x.size ≤ 100) : Spec w p loose mean mg mb 296 [.ref a] 2 30 NL
    (PostL NL (tag "string" [.bytes x])) := by
  unfold Spec
  intro dp u gd A₀ base h₀ env outer L m s Q E B F X Tp hf hk hd hu N hret
  refine wpAny_call ?_
  refine' code_defG B F X N Tp rfl hf hk ?k6 ?k7 (asm2 hd) ?k9 ?kB ?_ ?c2 ?c3 ?c4 ?c5
  case k6 => k_is
  case k7 => k_is
  case k9 => exact BindsTo.of_eq rfl
  case c5 => decide
  case kB => exact locs rfl
  case c2 => exact rfl
  case c3 => exact rfl
  case c4 => exact rfl
  intro g' L' h' FG' F' N' B' X' T' kG'
  (try dsimp only)
  (try k_fold)
  repeat' (first | (k_unfold; (try dsimp only)) | (k_end; wrow_close) | ((fail_if_success (fail_if_success (with_reducible show wpAny _ _ (exec (Stmt.While _ _ _ _) _) _ _ _))); (k_here; k_dflt (refine' while_no ?_; intro _)); try dsimp only) | (walk1; try dsimp only) | (dsimp only; walk1; try dsimp only))
  all_goals exact hret _ _ _ _ (by assumption) (by assumption) (ext_of kG' (by assumption)) ⟨[_, _], rfl, above_two (by assumption) (by assumption), .string _ _ (.head _) (.tail _ (.head _)) hx⟩
set_option maxRecDepth 100000 in
set_option maxHeartbeats 2000000 in
theorem leaf_ref {w : World} {p : Program} {loose : List Str} {mean : ExcName → Option Value} {mg mb : Str → Option Value} {NL : List (Addr × Obj)} {a : Addr} {i p' : Int} {t2 t3 : Tok} {t1 : Tok} {k : Nat} (hm : (a, tupOf [.str (S "ref") t1, .int i t2, .int p' t3].toArray k) ∈ NL)  : Spec w p loose mean mg mb 296 [.ref a] 2 30 NL
    (PostL NL (tag "ref" [.int i, .int p'])) := by
  unfold Spec
  intro dp u gd A₀ base h₀ env outer L m s Q E B F X Tp hf hk hd hu N hret
  refine wpAny_call ?_
  refine' code_defG B F X N Tp rfl hf hk ?k6 ?k7 (asm2 hd) ?k9 ?kB ?_ ?c2 ?c3 ?c4 ?c5
  case k6 => k_is
  case k7 => k_is
  case k9 => exact BindsTo.of_eq rfl
  case c5 => decide
  case kB => exact locs rfl
  case c2 => exact rfl
  case c3 => exact rfl
  case c4 => exact rfl
  intro g' L' h' FG' F' N' B' X' T' kG'
  (try dsimp only)
  (try k_fold)
  repeat' (first | (k_unfold; (try dsimp only)) | (k_end; wrow_close) | ((fail_if_success (fail_if_success (with_reducible show wpAny _ _ (exec (Stmt.While _ _ _ _) _) _ _ _))); (k_here; k_dflt (refine' while_no ?_; intro _)); try dsimp only) | (walk1; try dsimp only) | (dsimp only; walk1; try dsimp only))
  all_goals exact hret _ _ _ _ (by assumption) (by assumption) (ext_of kG' (by assumption)) ⟨[_, _], rfl, above_two (by assumption) (by assumption), .ref _ _ (.head _) (.tail _ (.head _))⟩
section
set_option maxRecDepth 100000 in
set_option maxHeartbeats 2000000 in
theorem val_leaf {w : World} {p : Program} {loose : List Str} {mean : ExcName → Option Value} {mg mb : Str → Option Value} {NL : List (Addr × Obj)} {a : Addr} {k : Str} {t1 : Tok} {vs : List Value} {n : Nat} {d : Dat} (hm : (a, tupOf (.str k t1 :: vs).toArray n) ∈ NL) (n1 : (k == S "null") = false) (n2 : (k == S "truth") = false) (n3 : (k == S "int") = false) (n4 : (k == S "array") = false) (n5 : (k == S "dict") = false) (n6 : (k == S "stream") = false)
    (H : Spec w p loose mean mg mb 296 [.ref a] 2 30 NL (PostL NL d)) : Spec w p loose mean mg mb 282 [.ref a] 4 60 NL
    (PostL NL d) := by
  unfold Spec
  intro dp u gd A₀ base h₀ env outer L m s Q E B F X Tp hf hk hd hu N hret
  refine wpAny_call ?_
  refine' code_defG B F X N Tp rfl hf hk ?k6 ?k7 (asm2 hd) ?k9 ?kB ?_ ?c2 ?c3 ?c4 ?c5
  case k6 => k_is
  case k7 => k_is
  case k9 => exact BindsTo.of_eq rfl
  case c5 => decide
  case kB => exact locs rfl
  case c2 => exact rfl
  case c3 => exact rfl
  case c4 => exact rfl
  intro g' L' h' FG' F' N' B' X' T' kG'
  (try dsimp only)
  (try k_fold)
  repeat' (first | (k_unfold; (try dsimp only)) | (k_end; wrow_close) | ((fail_if_success (fail_if_success (with_reducible show wpAny _ _ (call (Value.ref _) _) _ _ _))); (k_here; k_dflt ((with_reducible rename (Spec _ _ _ _ _ _ 296 _ _ _ _ _) => lPz); (refine' spec_useG lPz ?B9z ?F9z ?X9z ?T9z rfl rfl ?hd9z ?hu9z ?N9z ?_; (case B9z => k_asm); (case F9z => k_asm); (case X9z => k_asm); (case T9z => k_asm); (case hd9z => k_room); (case hu9z => k_units); (case N9z => k_asm)); (intro GGz hGGz r1z h1z tk1z NL1z F1z N1z x1z P1z; obtain ⟨tl1z, e1z, ab1z, dt1z⟩ := P1z; subst e1z; refine hGGz _ _ _ _ ?_; clear hGGz GGz; clear x1z; (try k_sweep)))); try dsimp only) | ((fail_if_success (fail_if_success (with_reducible show wpAny _ _ (exec (Stmt.While _ _ _ _) _) _ _ _))); (k_here; k_dflt (refine' while_no ?_; intro _)); try dsimp only) | ((fail_if_success (fail_if_success (with_reducible show wpAny _ _ (execs (_ :: _) _) _ _ _))); (k_here; (fail_if_success (fail_if_success (with_reducible show wpAny _ _ (execs (Stmt.If (Expr.Compare (Expr.Name _ _) [CmpOp.Eq] [Expr.Constant (Const.str _) _ _] _) _ [] _ :: _) _) _ _ _))); k_dflt (refine' if_str_ne ?F9z ?v9z ?ne9z ?_ ?a9z ?b9z ?c9z; (case F9z => k_asm); (case v9z => exact rfl); (case a9z => exact rfl); (case b9z => exact rfl); (case c9z => decide); (case ne9z => assumption))); try dsimp only) | (walk1; try dsimp only) | (dsimp only; walk1; try dsimp only))
  rename News h₀ L _ _ => kN9
  rename Above _ _ => ab9
  rename LeafIn _ _ _ => dt9
  exact hret _ _ _ _ (by assumption) kN9 (ext_of kG' (by assumption)) ⟨_, rfl, ab9, dt9⟩
end
set_option maxRecDepth 100000 in
set_option maxHeartbeats 2000000 in
theorem val_null {w : World} {p : Program} {loose : List Str} {mean : ExcName → Option Value} {mg mb : Str → Option Value} {NL : List (Addr × Obj)} {a : Addr} {t1 : Tok} {n : Nat} (hm : (a, tupOf [.str (S "null") t1].toArray n) ∈ NL) : Spec w p loose mean mg mb 282 [.ref a] 4 60 NL
    (PostL NL (tag "null" [])) := by
  unfold Spec
  intro dp u gd A₀ base h₀ env outer L m s Q E B F X Tp hf hk hd hu N hret
  refine wpAny_call ?_
  refine' code_defG B F X N Tp rfl hf hk ?k6 ?k7 (asm2 hd) ?k9 ?kB ?_ ?c2 ?c3 ?c4 ?c5
  case k6 => k_is
  case k7 => k_is
  case k9 => exact BindsTo.of_eq rfl
  case c5 => decide
  case kB => exact locs rfl
  case c2 => exact rfl
  case c3 => exact rfl
  case c4 => exact rfl
  intro g' L' h' FG' F' N' B' X' T' kG'
  (try dsimp only)
  (try k_fold)
  repeat' (first | (k_unfold; (try dsimp only)) | (k_end; wrow_close) | ((fail_if_success (fail_if_success (with_reducible show wpAny _ _ (exec (Stmt.While _ _ _ _) _) _ _ _))); (k_here; k_dflt (refine' while_no ?_; intro _)); try dsimp only) | (walk1; try dsimp only) | (dsimp only; walk1; try dsimp only))
  exact hret _ _ _ _ (by assumption) (by assumption) (ext_of kG' (by assumption)) ⟨[], rfl, above_nil, .null⟩
set_option maxRecDepth 100000 in
set_option maxHeartbeats 2000000 in
theorem val_int {w : World} {p : Program} {loose : List Str} {mean : ExcName → Option Value} {mg mb : Str → Option Value} {NL : List (Addr × Obj)} {a : Addr} {t1 t2 : Tok} {i : Int} {n : Nat} (hm : (a, tupOf [.str (S "int") t1, .int i t2].toArray n) ∈ NL) : Spec w p loose mean mg mb 282 [.ref a] 4 60 NL
    (PostL NL (tag "int" [.int i])) := by
  unfold Spec
  intro dp u gd A₀ base h₀ env outer L m s Q E B F X Tp hf hk hd hu N hret
  refine wpAny_call ?_
  refine' code_defG B F X N Tp rfl hf hk ?k6 ?k7 (asm2 hd) ?k9 ?kB ?_ ?c2 ?c3 ?c4 ?c5
  case k6 => k_is
  case k7 => k_is
  case k9 => exact BindsTo.of_eq rfl
  case c5 => decide
  case kB => exact locs rfl
  case c2 => exact rfl
  case c3 => exact rfl
  case c4 => exact rfl
  intro g' L' h' FG' F' N' B' X' T' kG'
  (try dsimp only)
  (try k_fold)
  repeat' (first | (k_unfold; (try dsimp only)) | (k_end; wrow_close) | ((fail_if_success (fail_if_success (with_reducible show wpAny _ _ (exec (Stmt.While _ _ _ _) _) _ _ _))); (k_here; k_dflt (refine' while_no ?_; intro _)); try dsimp only) | (walk1; try dsimp only) | (dsimp only; walk1; try dsimp only))
  exact hret _ _ _ _ (by assumption) (by assumption) (ext_of kG' (by assumption)) ⟨[], rfl, above_nil, .int _ _⟩
set_option maxRecDepth 100000 in
set_option maxHeartbeats 2000000 in
theorem val_truth {w : World} {p : Program} {loose : List Str} {mean : ExcName → Option Value} {mg mb : Str → Option Value} {NL : List (Addr × Obj)} {a : Addr} {t1 t2 : Tok} {i : Int} {b : Bool} {n : Nat} (hm : (a, tupOf [.str (S "truth") t1, .int i t2].toArray n) ∈ NL) (hi : i = if b then 1 else 0) : Spec w p loose mean mg mb 282 [.ref a] 4 60 NL
    (PostL NL (tag "truth" [.int (if b then 1 else 0)])) := by
  unfold Spec
  intro dp u gd A₀ base h₀ env outer L m s Q E B F X Tp hf hk hd hu N hret
  refine wpAny_call ?_
  refine' code_defG B F X N Tp rfl hf hk ?k6 ?k7 (asm2 hd) ?k9 ?kB ?_ ?c2 ?c3 ?c4 ?c5
  case k6 => k_is
  case k7 => k_is
  case k9 => exact BindsTo.of_eq rfl
  case c5 => decide
  case kB => exact locs rfl
  case c2 => exact rfl
  case c3 => exact rfl
  case c4 => exact rfl
  intro g' L' h' FG' F' N' B' X' T' kG'
  (try dsimp only)
  (try k_fold)
  repeat' (first | (k_unfold; (try dsimp only)) | (k_end; wrow_close) | ((fail_if_success (fail_if_success (with_reducible show wpAny _ _ (exec (Stmt.While _ _ _ _) _) _ _ _))); (k_here; k_dflt (refine' while_no ?_; intro _)); try dsimp only) | (walk1; try dsimp only) | (dsimp only; walk1; try dsimp only))
  have e : (i == 1) = b := by subst hi; cases b <;> rfl
  exact hret _ _ _ _ (by assumption) (by assumption) (ext_of kG' (by assumption)) ⟨[], rfl, above_nil, by rw [e]; exact .truth b⟩
section
variable {NL : List (Addr × Obj)} {r : Value} {k : Str} {P : Value → Prop}
theorem in_0 (h : DatIn NL r (.tuple [.str k])) (K : ∀ a t n, (a, tupOf [.str k t].toArray n) ∈ NL → P (.ref a)) : P r := by
  cases h with | tuple hm ha => cases ha with | cons h1 ha => cases ha; cases h1; exact K _ _ _ hm
theorem in_i {i : Int} (h : DatIn NL r (.tuple [.str k, .int i])) (K : ∀ a t u n, (a, tupOf [.str k t, .int i u].toArray n) ∈ NL → P (.ref a)) : P r := by
  cases h with | tuple hm ha => cases ha with | cons h1 ha => cases ha with | cons h2 ha => cases ha; cases h1; cases h2; exact K _ _ _ _ hm
theorem in_s {x : Str} (h : DatIn NL r (.tuple [.str k, .str x])) (K : ∀ a t u n, (a, tupOf [.str k t, .str x u].toArray n) ∈ NL → P (.ref a)) : P r := by
  cases h with | tuple hm ha => cases ha with | cons h1 ha => cases ha with | cons h2 ha => cases ha; cases h1; cases h2; exact K _ _ _ _ hm
theorem in_b {x : Array UInt8} (h : DatIn NL r (.tuple [.str k, .bytes x])) (K : ∀ a t u n, (a, tupOf [.str k t, .bytes x u].toArray n) ∈ NL → P (.ref a)) : P r := by
  cases h with | tuple hm ha => cases ha with | cons h1 ha => cases ha with | cons h2 ha => cases ha; cases h1; cases h2; exact K _ _ _ _ hm
theorem in_ii {i j : Int} (h : DatIn NL r (.tuple [.str k, .int i, .int j])) (K : ∀ a t u u' n, (a, tupOf [.str k t, .int i u, .int j u'].toArray n) ∈ NL → P (.ref a)) : P r := by
  cases h with | tuple hm ha => cases ha with | cons h1 ha => cases ha with | cons h2 ha => cases ha with | cons h3 ha => cases ha; cases h1; cases h2; cases h3; exact K _ _ _ _ _ hm
end
theorem val_ok {w : World} {p : Program} {loose : List Str} {mean : ExcName → Option Value} {mg mb : Str → Option Value} {NL : List (Addr × Obj)} {r : Value} {d : Dat} (h : LfOk d) (hr : DatIn NL r d) : Spec w p loose mean mg mb 282 [r] 4 60 NL (PostL NL d) := by
  cases h with
  | null => exact in_0 (P := fun r => Spec w _ loose mean mg mb 282 [r] 4 60 NL _) hr fun a t n hm => val_null hm
  | truth b => exact in_i (P := fun r => Spec w _ loose mean mg mb 282 [r] 4 60 NL _) hr fun a t u n hm => val_truth hm rfl
  | int i => exact in_i (P := fun r => Spec w _ loose mean mg mb 282 [r] 4 60 NL _) hr fun a t u n hm => val_int hm
  | real i p hi => exact in_ii (P := fun r => Spec w _ loose mean mg mb 282 [r] 4 60 NL _) hr fun a t u v n hm => val_leaf hm (by decide) (by decide) (by decide) (by decide) (by decide) (by decide) (leaf_real hm hi)
  | name x => exact in_s (P := fun r => Spec w _ loose mean mg mb 282 [r] 4 60 NL _) hr fun a t u n hm => val_leaf hm (by decide) (by decide) (by decide) (by decide) (by decide) (by decide) (leaf_name hm)
  | string x hx => exact in_b (P := fun r => Spec w _ loose mean mg mb 282 [r] 4 60 NL _) hr fun a t u n hm => val_leaf hm (by decide) (by decide) (by decide) (by decide) (by decide) (by decide) (leaf_string hm hx)
  | ref i p => exact in_ii (P := fun r => Spec w _ loose mean mg mb 282 [r] 4 60 NL _) hr fun a t u v n hm => val_leaf hm (by decide) (by decide) (by decide) (by decide) (by decide) (by decide) (leaf_ref hm)
end
section
section
variable {prog : Program} {w : World} {A : Around} {E : Value → Shared → Prop} {s : Shared} {env : Env} {h₀ : Heap} {L : Addr} {m : Str → Option Value}
  {target elt iter : Expr} {ifs : List Expr} {scope : Scope} {cl : List (Str × Addr)} {pos : Pos} {Q : Value → Shared → Prop} {nw₀ : List (Addr × Obj)}
theorem comp_tup {x : Str} {px : Pos} {ax : Addr} {vs : List Value} {k : Nat} (J : Nat → List Value → List (Addr × Obj) → Prop) (hh : A.handled = none) (F : Fr h₀ L s.heap m) (N : News h₀ L s.heap nw₀) (hm : (ax, tupOf vs.toArray k) ∈ nw₀) (h0 : J 0 [] nw₀) (hsz : vs.length ≤ sizeLine)
    (hcell : ∀ y ∈ scope.names, y.2 ≠ .cell) (hkind : scope.kind = .function) (hx : scope.names.lookup x = some .local)
    (step : ∀ (C D I : Addr) oC own i v ys kD nw h tk mC (E' : Value → Shared → Prop), vs[i]? = some v → mC x = some v → J i ys nw → Off nw [C, D, I] → @LT.lt Nat _ I D → @LT.lt Nat _ D C → Fr h₀ L h m → h.Ns C mC →
      News h₀ L h ((C, oC) :: (D, listOf ys.toArray kD) :: (own ++ nw)) →
      wpAny (model prog w) A (forIn ifs true fun c r => if r = true then do let ok ← isTrue c (compEnvC scope cl C env) (eval c (compEnvC scope cl C env)); pure (ForInStep.yield ok) else pure (ForInStep.yield r))
        (fun ok s₃ => if ok = true then wpAny (model prog w) A (eval elt (compEnvC scope cl C env)) (fun y s₄ => CEnd h₀ L m [C, D, I] ((C, oC) :: (D, listOf ys.toArray kD) :: own) (J (i + 1) (ys ++ [y])) { s with heap := h, toks := tk } s₄) E' s₃
          else CEnd h₀ L m [C, D, I] ((C, oC) :: (D, listOf ys.toArray kD) :: own) (J (i + 1) ys) { s with heap := h, toks := tk } s₃) E' { s with heap := h, toks := tk })
    (done : ∀ (D : Addr) ys kD nw h tk, (∀ p ∈ nw₀, @LT.lt Nat _ p.1 D) → Off nw [D] → J vs.length ys nw → Fr h₀ L h m → News h₀ L h ((D, listOf ys.toArray kD) :: nw) → Q (.ref D) { s with heap := h, toks := tk }) :
    wpAny (model prog w) A (pyIter (.ref ax)) (fun it s₂ => CompRun prog w A E env (.ListComp elt [⟨.Name x px, iter, ifs, 0⟩] scope pos) scope cl Q it s₂) E s := by
  have hls : s.heap.IsTuple ax vs.toArray := ⟨_, (N _ hm).1, rfl, k, rfl⟩
  have hlt : ax < s.heap.objs.size := Heap.lt_size (N _ hm).1
  refine wpAny_pyIter_tuple hls ?_
  have W := Walks.tuple (prog := prog) (w := w) hh s.heap.objs.size ax (Nat.ne_of_lt hlt) vs.toArray
  have hlen : vs.toArray.size = vs.length := by simp
  rw [hlen] at W
  have hsize : (s.heap.push { cls := .type "tuple_iterator", data := .fields #[.ref ax, .int 0 0] }).objs.size = s.heap.objs.size + 1 := Heap.size_push _ _
  refine comp_turns (s := { s with heap := s.heap.push { cls := .type "tuple_iterator", data := .fields #[.ref ax, .int 0 0] } }) (nw₀ := nw₀) J (fun i v mC => vs[i]? = some v ∧ mC x = some v)
    (KTurns.ofWalks (target := .Name x px) W fun i v s Q E st h => wpAny_pure h) (fun s Q E st hq => wpAny_pyIter_tupleiter st.1 hq) ?_ ?_ ?_ ?_
    ⟨⟨_, Heap.get?_push_size _ rfl, rfl, rfl⟩, hls.at fun o e => Heap.get?_push_of_some _ e⟩ (F.push _) (fun p hp => ⟨Heap.get?_push_of_some _ (N p hp).1, (N p hp).2⟩) h0 hsz hcell hkind ?_ ?_ ?_
  · intro hm'
    rcases List.mem_cons.mp hm' with e | hm'
    · exact absurd F.ns.lt (e ▸ Nat.lt_irrefl _)
    · exact (N _ hm).2.1 (List.mem_singleton.mp hm').symm
  · intro b hb
    rw [List.mem_singleton.mp hb]
    exact next_is_new F
  · intro b hb
    show b < (s.heap.push _).objs.size
    rw [hsize]
    rcases List.mem_cons.mp hb with e | hb
    · rw [e]; exact Nat.lt_succ_self _
    · rw [List.mem_singleton.mp hb]; exact Nat.lt_succ_of_lt hlt
  · intro p hp hI
    exact absurd (Heap.lt_size (N p hp).1) ((List.mem_singleton.mp hI) ▸ Nat.lt_irrefl _)
  · intro C i v s₁ mC Q' E' hP hn hC hq
    refine wpAny_assign_Name (wpAny_storeName_local (lookup_relabel_local hx) hn (fun h₂ hn₂ hs₂ => hq h₂ _ _ hs₂ hn₂ ⟨by simpa using hP, by simp⟩) (by simp [compEnvC, relabel, hkind]))
  · intro C D oC own i v ys kD nw h tk mC E' hi hG hJ hoff hwD hD hC F' hn' N'
    rw [show (Shared.heap _).objs.size = s.heap.objs.size + 1 from hsize] at hD
    exact step C D _ oC own i v ys kD nw h tk mC E' hG.1 hG.2 hJ hoff (hwD _ (.head _)) hC F' hn' N'
  · intro D ys kD nw h tk hD hoff hJ F' N'
    rw [show (Shared.heap _).objs.size = s.heap.objs.size + 1 from hsize] at hD
    exact done D ys kD nw h tk (fun p hp => Nat.lt_of_lt_of_le (Heap.lt_size (N p hp).1) (Nat.le_trans (Nat.le_succ _) hD)) hoff hJ F' N'

end
end
section
inductive PostV (w : World) (n : Nat) (NL : List (Addr × Obj)) (d : Dat) (NL' : List (Addr × Obj)) (v : Value) : Prop
  | mk (tl : List (Addr × Obj)) : NL' = tl ++ NL → Above NL tl → ThIn w tl n v d → SpIn w n tl v → PostV w n NL d NL' v
noncomputable def ValOf (w : World) (p : Program) (loose : List Str) (mean : ExcName → Option Value) (mg mb : Str → Option Value) (n : Nat) : Prop :=
  ∀ (r : Value) (d : Dat) (NL : List (Addr × Obj)), ShOk n d → DatIn NL r d → Spec w p loose mean mg mb 282 [r] (2 * n + 4) (30 * n + 60) NL (PostV w n NL d)
theorem pw_snoc {Us : List (List (Addr × Obj))} {U : List (Addr × Obj)} (h : Us.Pairwise Dis) (hn : ∀ V ∈ Us, Dis V U) : (Us ++ [U]).Pairwise Dis :=
  List.pairwise_append.mpr ⟨h, List.pairwise_singleton _ _, fun V hV W hW => by rw [List.mem_singleton.mp hW]; exact hn V hV⟩
theorem All₂.right' {α β : Type} {R : α → β → Prop} {P : β → Prop} (h : ∀ a b, R a b → P b) {l : List α} {m : List β} (r : All₂ R l m) : ∀ x ∈ m, P x := r.right (P := P) h
structure Made (w : World) (n : Nat) (tl : List (Addr × Obj)) (ys : List Value) (ds : List Dat) (Us : List (List (Addr × Obj))) : Prop where
  th : All₂ (ThIn w tl n) ys ds
  sp : All₂ (fun v U => SpIn w n U v ∧ ∀ p ∈ U, p ∈ tl) ys Us
  dj : Us.Pairwise Dis
theorem Made.nil {w : World} {n : Nat} {tl : List (Addr × Obj)} : Made w n tl [] [] [] := ⟨.nil, .nil, .nil⟩
theorem Made.snoc {w : World} {n : Nat} {tl tl₂ : List (Addr × Obj)} {ys : List Value} {ds : List Dat} {Us : List (List (Addr × Obj))} {v : Value} {d : Dat} (M : Made w n tl ys ds Us) (ab : Above tl tl₂) (h1 : ThIn w tl₂ n v d) (h2 : SpIn w n tl₂ v) :
    Made w n (tl₂ ++ tl) (ys ++ [v]) (ds ++ [d]) (Us ++ [tl₂]) := by
  refine ⟨(M.th.mono fun _ _ => ThIn.mono fun p hp => List.mem_append.mpr (.inr hp)).snoc (h1.mono fun p hp => List.mem_append.mpr (.inl hp)), (M.sp.mono fun _ _ x => ⟨x.1, fun p hp => List.mem_append.mpr (.inr (x.2 p hp))⟩).snoc ⟨h2, fun p hp => List.mem_append.mpr (.inl hp)⟩, pw_snoc M.dj ?_⟩
  intro V hV p hp q hq e
  have hs := M.sp.right' (P := fun U => ∀ p ∈ U, p ∈ tl) (fun _ _ x => x.2) V hV
  have := ab p (hs p hp) q hq
  rw [e] at this
  exact Nat.lt_irrefl _ this
theorem Made.mono {w : World} {n : Nat} {tl tl₂ : List (Addr × Obj)} {ys : List Value} {ds : List Dat} {Us : List (List (Addr × Obj))} (M : Made w n tl ys ds Us) (h : ∀ p ∈ tl, p ∈ tl₂) : Made w n tl₂ ys ds Us :=
  ⟨M.th.mono fun _ _ => ThIn.mono h, M.sp.mono fun _ _ x => ⟨x.1, fun p hp => h p (x.2 p hp)⟩, M.dj⟩
theorem Made.parts {w : World} {n : Nat} {tl T : List (Addr × Obj)} {ys : List Value} {ds : List Dat} {Us : List (List (Addr × Obj))} {as : List Addr} (M : Made w n tl ys ds Us) (h : ∀ p ∈ tl, p ∈ T ∧ p.1 ∉ as) : All₂ (Part T as (SpIn w n)) ys Us :=
  M.sp.mono fun _ _ x => ⟨x.1, fun p hp => h p (x.2 p hp)⟩
set_option maxRecDepth 100000 in
set_option maxHeartbeats 2000000 in
theorem val_arr_comp {w : World} {p : Program} {loose : List Str} {mean : ExcName → Option Value} {mg mb : Str → Option Value} {n : Nat} (IH : ValOf w p loose mean mg mb n) {dp u : Nat} {gd : Option (List Code)} {A₀ : Around} {base h₀ : Heap} {env : Env} {outer : List Env} {L : Addr} {m : Str → Option Value} {s : Shared} {Q E : Value → Shared → Prop} {nw₀ : List (Addr × Obj)}
    {a : Addr} {k : Nat} {vs : List Value} {ds : List Dat} {p1 p2 p3 pos cpos : Pos} {iter : Expr}
    (B : Below A₀ base outer h₀) (F : Fr h₀ L s.heap m) (X : (hd.heap_39 w.params).In h₀) (T : Top p loose mean mg mb h₀) (hf : env.frame = some L) (hg : env.globals = mainGlobals) (hk : env.scope.kind = .function) (hd : dp + (2 * n + 4) < recursionLimit) (hu : u + (30 * n + 60) < cLine)
    (N : News h₀ L s.heap nw₀) (hm : (a, tupOf vs.toArray k) ∈ nw₀) (hr : DatAll nw₀ vs ds) (hs : ∀ x ∈ ds, ShOk n x) (hl : ds.length ≤ 3)
    (done : ∀ (D : Addr) ys kD tl Us h tk, (∀ p ∈ nw₀, @LT.lt Nat _ p.1 D) → (∀ p ∈ tl, p.1 ≠ D) → Fr h₀ L h m → News h₀ L h ((D, listOf ys.toArray kD) :: (tl ++ nw₀)) → Above nw₀ tl → Made w n tl ys ds Us → Q (.ref D) { s with heap := h, toks := tk }) :
    wpAny (model PySem.Challenge.rw_og0176_01.row.prog w) (arnd dp u gd env outer) (pyIter (.ref a))
      (fun it s₂ => CompRun PySem.Challenge.rw_og0176_01.row.prog w (arnd dp u gd env outer) E env (.ListComp (.Call (.Name (S "value_of") p1) [.Name (S "part") p2] [] pos) [⟨.Name (S "part") p3, iter, [], 0⟩]
        { kind := .function, names := [(S ".0", .local), (S "part", .local), (S "value_of", .globalImplicit)], isGenerator := false, isCoroutine := false, more := [] } cpos)
        { kind := .function, names := [(S ".0", .local), (S "part", .local), (S "value_of", .globalImplicit)], isGenerator := false, isCoroutine := false, more := [] } [] Q it s₂) E s := by
  have hdl := hr.length
  refine comp_tup (h₀ := h₀) (L := L) (fun i ys nw => ∃ tl Us, nw = tl ++ nw₀ ∧ Above nw₀ tl ∧ Made w n tl ys (ds.take i) Us) rfl F N hm ⟨[], [], rfl, above_nil, .nil⟩ (by rw [sizeLine_eq]; omega) (by decide) rfl rfl ?_ ?_
  · (intro C D I oC own i v ys kD nw h tk mC E' hv hx hZZ1 hoff hID hDC F' hn' N'; refine via fun GG hGG => ?_; obtain ⟨tl, Us, rfl, ab, M⟩ := hZZ1; refine hGG ?_; clear hGG GG)
    refine wpAny_tests_nil ?_
    rw [if_pos rfl]
    obtain ⟨d, hd', hth⟩ := all_get hr hv
    refine comp_call1 F' X (topRead_of T) (fa := 282) (by k_is) (by k_is) hg hn' hx ?_ rfl rfl rfl
    refine spec_useG (IH v d _ (hs d (List.mem_of_getElem? hd')) (hth.mono fun p hp => sub_big p (List.mem_append.mpr (.inr hp)))) B F' X T hf hk hd hu N' ?_
    (rintro GG hGG r h' tk' NL' F₂ N₂ x₂ ⟨tl₂, rfl, ab₂, hr₂, hs₂⟩; refine hGG _ _ _ _ ?_; clear hGG GG)
    refine cend F₂ N₂ ab₂ hID hoff ⟨tl₂ ++ tl, Us ++ [tl₂], by simp, ?_, ?_⟩
    · intro q hq p hp
      rcases List.mem_append.mp hp with hp | hp
      · exact ab₂ q (sub_big q (List.mem_append.mpr (.inr hq))) p hp
      · exact ab q hq p hp
    · rw [List.take_add_one, hd']
      exact M.snoc (fun q hq => ab₂ q (sub_big q (List.mem_append.mpr (.inl hq)))) hr₂ hs₂
  · (intro D ys kD nw h tk hD hoff hZZ1 F' N'; refine via fun GG hGG => ?_; obtain ⟨tl, Us, rfl, ab, M⟩ := hZZ1; refine hGG ?_; clear hGG GG)
    rw [hdl, List.take_length] at M
    exact done D ys kD tl Us h tk hD (fun p hp e => hoff p (List.mem_append.mpr (.inl hp)) (by rw [e]; exact .head _)) F' N' ab M
section
set_option maxRecDepth 100000 in
set_option maxHeartbeats 2000000 in
theorem val_arr {w : World} {p : Program} {loose : List Str} {mean : ExcName → Option Value} {mg mb : Str → Option Value} {n : Nat} (IH : ValOf w p loose mean mg mb n) {NL : List (Addr × Obj)} {a : Addr} {k : Nat} {t1 : Tok} {vs : List Value} {ds : List Dat}
    (hm : (a, tupOf (.str (S "array") t1 :: vs).toArray k) ∈ NL) (hr : DatAll NL vs ds) (hs : ∀ x ∈ ds, ShOk n x) (hl : ds.length ≤ 3) :
    Spec w p loose mean mg mb 282 [.ref a] (2 * n + 6) (30 * n + 90) NL (PostV w (n + 1) NL (tag "array" ds)) := by
  have hdl := hr.length
  unfold Spec
  intro dp u gd A₀ base h₀ env outer L m s Q E B F X Tp hf hk hd hu N hret
  refine wpAny_call ?_
  refine' code_defG B F X N Tp rfl hf hk ?k6 ?k7 (asm2 hd) ?k9 ?kB ?_ ?c2 ?c3 ?c4 ?c5
  case k6 => k_is
  case k7 => k_is
  case k9 => exact BindsTo.of_eq rfl
  case c5 => decide
  case kB => exact locs rfl
  case c2 => exact rfl
  case c3 => exact rfl
  case c4 => exact rfl
  intro g' L' h' FG' F' N' B' X' T' kG'
  (try dsimp only)
  (try k_fold)
  repeat' (first | (k_unfold; (try dsimp only)) | (k_end; wrow_close) | (walk1; try dsimp only) | (dsimp only; walk1; try dsimp only))
  refine' val_arr_comp IH ?B ?F ?X ?T rfl rfl rfl ?hd ?hu ?N (List.Mem.head _) ?hr hs hl ?_
  case B => k_asm
  case F => k_asm
  case X => k_asm
  case T => k_asm
  case N => k_asm
  case hd => k_room
  case hu => k_units
  case hr => exact hr.mono fun p hp => .tail _ hp
  intro D ys kD tl Us h9 tk9 hD hne F9 N9 ab9 M9
  dsimp only
  repeat' (first | (k_unfold; (try dsimp only)) | (k_end; wrow_close) | (walk1; try dsimp only) | (dsimp only; walk1; try dsimp only))
  rename News h₀ L _ _ => kN9
  have hyl := M9.th.length
  refine hret _ _ _ _ (by assumption) (drop_cell kN9) (ext_of kG' F9) ⟨_ :: _, rfl, ?_, .inr (.inl ⟨_, _, _, _, rfl, .head _, (M9.mono (fun p hp => .tail _ hp)).th, by omega, rfl⟩), .inr (.inl ⟨_, _, _, _, rfl, .head _, by omega, M9.parts (fun p hp => ⟨.tail _ hp, fun e => hne p hp (List.mem_singleton.mp e)⟩), M9.dj⟩)⟩
  intro q hq p hp
  rcases List.mem_cons.mp hp with rfl | hp
  · exact hD q (.tail _ hq)
  · exact ab9 q (.tail _ hq) p hp
end
end
section
section
variable {prog : Program} {w : World} {A : Around} {E : Value → Shared → Prop} {s : Shared} {env : Env} {h₀ : Heap} {target : Expr} {body : List Stmt} {Q : Flow → Shared → Prop}
theorem unr_mono {L : Addr} {s₁ s₂ : Shared} {its : List (Addr × Obj)} {R R' : (Str → Option Value) → List (Addr × Obj) → Prop} {f : Flow} (h : UnrPostW h₀ L s₁ its R Q f s₂) (hR : ∀ m n, R m n → R' m n) : UnrPostW h₀ L s₁ its R' Q f s₂ := by
  cases f with
  | ret v => exact h
  | brk => exact h
  | next => obtain ⟨h', tk, m', n', e, F, N, o, r⟩ := h; exact ⟨h', tk, m', n', e, F, N, o, hR _ _ r⟩
  | cont => obtain ⟨h', tk, m', n', e, F, N, o, r⟩ := h; exact ⟨h', tk, m', n', e, F, N, o, hR _ _ r⟩
theorem items_inv {vs : List Value} {I : Addr} {cls : String} {keep : List (Addr × Obj)} (J : Nat → (Str → Option Value) → List (Addr × Obj) → Prop)
    (turn : ∀ i v m news o h tk, vs[i]? = some v → J i m news → SubL keep news → o.cls = .type cls → Fr h₀ env.locals h m → News h₀ env.locals h ((I, o) :: news) →
      wpAny (model prog w) A (assign target env v) (fun _ s₂ => wpAny (model prog w) A (execs body env) (UnrPostW h₀ env.locals { s with heap := h, toks := tk } [(I, o)] (fun m' n' => SubL keep n' ∧ J (i + 1) m' n') Q) E s₂) E { s with heap := h, toks := tk })
    (done : ∀ m news h tk, J vs.length m news → Fr h₀ env.locals h m → News h₀ env.locals h news → Q .next { s with heap := h, toks := tk }) :
    ∀ (k i : Nat) m news, vs.length - i = k → i ≤ vs.length → J i m news → SubL keep news → ItemsRest prog w A E h₀ env target body Q s [(I, cls)] keep ((vs.drop i).map .val) m news := by
  intro k
  induction k with
  | zero =>
    intro i m news hk hle hJ hS
    have e : i = vs.length := by omega
    subst e
    rw [List.drop_length]
    exact ItemsRest.zero fun h tk F N => done m news h tk hJ F N
  | succ k ih =>
    intro i m news hk hle hJ hS
    have hlt : i < vs.length := by omega
    rw [List.drop_eq_getElem_cons hlt]
    refine ItemsRest.val fun h tk F => ?_
    intro o ho N
    refine wpAny_mono (turn i _ m news o h tk (List.getElem?_eq_getElem hlt) hJ hS ho F N) (fun _ s₂ h₂ => wpAny_mono h₂ (fun f s₃ h₃ => unr_mono h₃ fun m' n' x => ⟨x.1, ih (i + 1) m' n' (by omega) hlt x.2 x.1⟩) fun _ _ e => e) fun _ _ e => e
theorem items_inv0 {vs : List Value} {I : Addr} {cls : String} {keep : List (Addr × Obj)} {m : Str → Option Value} {news : List (Addr × Obj)} (J : Nat → (Str → Option Value) → List (Addr × Obj) → Prop) (h0 : J 0 m news) (hS : SubL keep news)
    (turn : ∀ i v m news o h tk, vs[i]? = some v → J i m news → SubL keep news → o.cls = .type cls → Fr h₀ env.locals h m → News h₀ env.locals h ((I, o) :: news) →
      wpAny (model prog w) A (assign target env v) (fun _ s₂ => wpAny (model prog w) A (execs body env) (UnrPostW h₀ env.locals { s with heap := h, toks := tk } [(I, o)] (fun m' n' => SubL keep n' ∧ J (i + 1) m' n') Q) E s₂) E { s with heap := h, toks := tk })
    (done : ∀ m news h tk, J vs.length m news → Fr h₀ env.locals h m → News h₀ env.locals h news → Q .next { s with heap := h, toks := tk }) :
    ItemsRest prog w A E h₀ env target body Q s [(I, cls)] keep (vs.map .val) m news :=
  items_inv J turn done vs.length 0 m news (by simp) (Nat.zero_le _) h0 hS
end
section
variable {prog : Program} {w : World} {A : Around} {E : Value → Shared → Prop} {s : Shared} {h₀ : Heap} {L d : Addr} {m : Str → Option Value} {news : List (Addr × Obj)} {o : Obj} {kvs : List (Str × Value)}
theorem news_upd {h h' : Heap} {o' : Obj} {n2 : List (Addr × Obj)} (N : News h₀ L h news) (hs : Heap.SameBut d h h') (hm : (d, o) ∈ news) (ho : h'.get? d = some o') (hsub : ∀ p ∈ n2, p = (d, o') ∨ (p ∈ news ∧ p.1 ≠ d)) : News h₀ L h' n2 := fun p hp => by
  rcases hsub p hp with rfl | ⟨h1, h2⟩
  · exact ⟨ho, (N _ hm).2⟩
  · exact ⟨hs.extBut _ _ h2 (N _ h1).1, (N _ h1).2⟩
theorem set_str_N {k : Str} {t : Tok} {v : Value} {Q : Unit → Shared → Prop} (F : Fr h₀ L s.heap m) (N : News h₀ L s.heap news) (hm : (d, o) ∈ news) (hd : o.IsDictOf (PySem.strKind prog w) kvs) (hsz : kvs.length ≤ 1000)
    (h : ∀ h' o', Fr h₀ L h' m → Heap.SameBut d s.heap h' → h'.get? d = some o' → o'.IsDictOf (PySem.strKind prog w) (stored kvs k v) → (∀ n2 : List (Addr × Obj), (∀ p ∈ n2, p = (d, o') ∨ (p ∈ news ∧ p.1 ≠ d)) → News h₀ L h' n2) → Q () { s with heap := h', toks := s.toks + 1 }) :
    wpAny (model prog w) A (setItem (.ref d) (.str k t) v) Q E s := by
  have hmm := N _ hm
  refine wpAny_setItem_pairs (hsz := by rw [sizeLine_eq]; omega) (strKind_is prog w k t) (Heap.dictOf_iff.mpr ⟨o, hmm.1, hd⟩) fun h' hx hs => ?_
  obtain ⟨o', ho', hd'⟩ := Heap.dictOf_iff.mp hx
  exact h h' o' (F.change hs hmm.2.1 hmm.2.2) hs ho' hd' fun n2 hsub => news_upd N hs hm ho' hsub
theorem stored_new {k : Str} {v : Value} (h : k ∉ kvs.map (·.1)) : stored kvs k v = kvs ++ [(k, v)] := by
  unfold stored
  rw [if_neg]
  intro he
  obtain ⟨x, hx, e⟩ := List.any_eq_true.mp he
  exact h (List.mem_map.mpr ⟨x, hx, of_decide_eq_true e⟩)
end
end
section
theorem rising_fresh {ps : List (Str × Dat)} (h : Rising ps) {i : Nat} {p : Str × Dat} (hp : ps[i]? = some p) : p.1 ∉ (ps.take i).map (·.1) := by
  intro hm
  obtain ⟨q, hq, e⟩ := List.mem_map.mp hm
  obtain ⟨j, hj⟩ := List.getElem?_of_mem hq
  have hji : j < i := by
    rcases Nat.lt_or_ge j i with h | h
    · exact h
    · rw [List.getElem?_eq_none (by rw [List.length_take]; omega)] at hj; cases hj
  rw [List.getElem?_take_of_lt hji] at hj
  obtain ⟨hl, e1⟩ := List.getElem?_eq_some_iff.mp hp
  obtain ⟨hl2, e2⟩ := List.getElem?_eq_some_iff.mp hj
  have := List.pairwise_iff_getElem.mp h j i hl2 hl hji
  rw [e1, e2, e] at this
  exact List.lt_irrefl _ this
noncomputable def Agr (xs : List Str) (m' m : Str → Option Value) : Prop := ∀ y, y ∉ xs → m' y = m y
theorem pair_at {NL : List (Addr × Obj)} {vs : List Value} {ps : List (Str × Dat)} {i : Nat} {v : Value} (hr : DatAll NL vs (ps.map pairD)) (hv : vs[i]? = some v) : ∃ a t part n pk pd, ps[i]? = some (pk, pd) ∧ v = .ref a ∧ (a, tupOf [.str pk t, part].toArray n) ∈ NL ∧ DatIn NL part pd := by
  obtain ⟨dd, hdd, hth⟩ := all_get hr hv
  rw [List.getElem?_map] at hdd
  cases hp : ps[i]? with
  | none => rw [hp] at hdd; cases hdd
  | some pr =>
    rw [hp] at hdd
    cases hdd
    obtain ⟨pk, pd⟩ := pr
    cases hth with | tuple hmb ha => cases ha with | cons hkey ha => cases ha with | cons hpart ha => cases ha; cases hkey; exact ⟨_, _, _, _, pk, pd, rfl, rfl, hmb, hpart⟩
theorem Agr.rfl {xs : List Str} {m : Str → Option Value} : Agr xs m m := fun _ _ => by exact Eq.refl _
theorem Agr.set {xs : List Str} {m' m : Str → Option Value} (h : Agr xs m' m) {x : Str} {v : Option Value} (hx : x ∈ xs) : Agr xs (fun y => if y = x then v else m' y) m := fun y hy => by
  have : y ≠ x := fun e => hy (e ▸ hx)
  simp only [this, if_false]
  exact h y hy
noncomputable abbrev dcEnv (L : Addr) : Env := envOf (S "dict_of") { kind := .function, names := [(S "shape", .local), (S "found", .local), (S "key", .local), (S "part", .local), (S "value_of", .globalImplicit)], isGenerator := false, isCoroutine := false } L 289 (.ref 288)
set_option maxRecDepth 100000 in
set_option maxHeartbeats 2000000 in
theorem dict_of_loop {w : World} {p : Program} {loose : List Str} {mean : ExcName → Option Value} {mg mb : Str → Option Value} {n : Nat} (IH : ValOf w p loose mean mg mb n) {dp u : Nat} {gd : Option (List Code)} {A₀ : Around} {base h₀ : Heap} {outer : List Env} {L : Addr} {m : Str → Option Value} {s : Shared} {Q : Flow → Shared → Prop} {E : Value → Shared → Prop} {NL : List (Addr × Obj)}
    {T d : Addr} {o : Obj} {e : Nat} {vs : List Value} {ps : List (Str × Dat)} {p1 p2 p3 p4 p5 p6 p7 p8 p9 p10 : Pos}
    (B : Below A₀ base outer h₀) (F : Fr h₀ L s.heap m) (X : (hd.heap_39 w.params).In h₀) (Tp : Top p loose mean mg mb h₀) (hd : dp + (2 * n + 4) < recursionLimit) (hu : u + (30 * n + 60) < cLine)
    (N : News h₀ L s.heap ((T, tupOf vs.toArray e) :: (d, o) :: NL)) (h0 : o.IsDictOf (PySem.strKind PROG w) []) (lo : (d == sysModules) = false) (l1 : ∀ p ∈ NL, @LT.lt Nat _ p.1 d) (l2 : @LT.lt Nat _ d T)
    (hr : DatAll NL vs (ps.map pairD)) (hs : DcOk (ShOk n) ps) (hfm : m (S "found") = some (.ref d))
    (done : ∀ tl o' h' tk' m', Agr [S "part", S "key"] m' m → Fr h₀ L h' m' → News h₀ L h' ((d, o') :: (tl ++ NL)) → Above NL ((d, o') :: tl) → ThIn w ((d, o') :: tl) (n + 1) (.ref d) (tag "dict" (ps.map pairD)) → SpIn w (n + 1) ((d, o') :: tl) (.ref d) → Q .next { s with heap := h', toks := tk' }) :
    wpAny (model PySem.Challenge.rw_og0176_01.row.prog w) (arnd dp u gd (dcEnv L) outer) (pyIter (.ref T))
      (fun it s₂ => TurnsAt PySem.Challenge.rw_og0176_01.row.prog w (arnd dp u gd (dcEnv L) outer) h₀ (dcEnv L) (.Tuple [.Name (S "key") p1, .Name (S "part") p2] 0 p3)
        [.Assign [.Subscript (.Name (S "found") p4) (.Name (S "key") p5) p6] (.Call (.Name (S "value_of") p7) [.Name (S "part") p8] [] p9) p10] Q E it s₂) E s := by
  have hdl := hr.length
  have hpl := hs.1
  rw [List.length_map] at hdl
  refine iter_tupTurns (env := dcEnv L) rfl F N (.head _) rfl rfl fun I hI => items_inv0 (env := dcEnv L)
    (fun i m' news => ∃ o' kvs tl Us, Agr [S "part", S "key"] m' m ∧ news = (T, tupOf vs.toArray e) :: (d, o') :: (tl ++ NL) ∧ o'.IsDictOf (PySem.strKind PROG w) kvs ∧ kvs.map (·.1) = (ps.take i).map (·.1) ∧ Above NL tl ∧ (∀ p ∈ tl, @LT.lt Nat _ d p.1 ∧ @LT.lt Nat _ I p.1) ∧ Made w n tl (kvs.map (·.2)) ((ps.take i).map (·.2)) Us)
    ⟨o, [], [], [], Agr.rfl, rfl, h0, rfl, above_nil, (fun _ h => nomatch h), .nil⟩ ⟨.head _, trivial⟩ ?_ ?_
  · (intro i v m' news oI h tk hv hZZ1 hS hoI F' N'; refine via fun GG hGG => ?_; obtain ⟨o', kvs, tl, Us, hag, rfl, hd', hk', ab, ld, M⟩ := hZZ1; refine hGG ?_; clear hGG GG)
    (refine via fun GG hGG => ?_; obtain ⟨a9, t9, part9, n9, pk, pd, hp, rfl, hmb, hpart⟩ := pair_at hr hv; refine hGG ?_; clear hGG GG)
    have hkl := congrArg List.length hk'
    simp only [List.length_map, List.length_take] at hkl
    have H := IH _ _ ((I, oI) :: (T, tupOf vs.toArray e) :: (d, o') :: (tl ++ NL)) (hs.2.2 _ (List.mem_of_getElem? hp)).1 (hpart.mono fun p hp => .tail _ (.tail _ (.tail _ (List.mem_append.mpr (.inr hp)))))
    have hfm' := (hag (S "found") (by decide)).trans hfm
    repeat' (first | (k_unfold; (try dsimp only)) | (k_end; wrow_close) | ((fail_if_success (fail_if_success (with_reducible show wpAny _ _ (call (Value.ref _) _) _ _ _))); (k_here; k_dflt ((with_reducible rename (Spec _ _ _ _ _ _ 282 _ _ _ _ _) => lH); (refine' spec_useG lH ?B9z ?F9z ?X9z ?T9z rfl rfl ?hd9z ?hu9z ?N9z ?_; (case B9z => k_asm); (case F9z => k_asm); (case X9z => k_asm); (case T9z => k_asm); (case hd9z => k_room); (case hu9z => k_units); (case N9z => k_asm)); (intro GG hGG r1 h1 tk1 NL1 F1 N1 x1 P1; obtain ⟨tl1, e1, ab1, th1, sp1⟩ := P1; subst e1; refine hGG _ _ _ _ ?_; clear hGG GG; clear x1; (try k_sweep)))); try dsimp only) | ((fail_if_success (fail_if_success (with_reducible show wpAny _ _ (eval (PySem.Expr.Name _ _) _) _ _ _))); (k_here; k_dflt (refine' nameX_L ?F9z ?v9z ?_ ?a9z ?b9z ?c9z; (case F9z => k_asm); (case v9z => with_unfolding_all assumption); (case a9z => exact rfl); (case b9z => exact rfl); (case c9z => decide))); try dsimp only) | ((fail_if_success (fail_if_success (with_reducible show wpAny _ _ (setItem (Value.ref _) (Value.str _ _) _) _ _ _))); (k_here; k_dflt (refine' set_str_N ?F9z ?N9z ?hm9z ?hd9z ?hz9z ?_; (case F9z => k_asm); (case N9z => k_asm); (case hm9z => k_mem); (case hd9z => k_asm); (case hz9z => omega)); intro h9 o9 F9 hs9 ho9 hd9 N9); try dsimp only) | (walk1; try dsimp only) | (dsimp only; walk1; try dsimp only))
    rw [stored_new (by rw [hk']; exact rising_fresh hs.2.1 hp)] at hd9
    have hdI : @LT.lt Nat _ d I := hI (d, o) (.tail _ (.head _))
    have hTI : @LT.lt Nat _ T I := hI (T, tupOf vs.toArray e) (.head _)
    refine ⟨_, _, _, (T, tupOf vs.toArray e) :: (d, o9) :: ((tl1 ++ tl) ++ NL), rfl, by assumption, N9 _ ?_, ?_, ⟨.head _, trivial⟩, ⟨o9, _, tl1 ++ tl, Us ++ [tl1], (hag.set (by decide)).set (by decide), rfl, hd9, ?_, ?_, ?_, ?_⟩⟩
    · intro q hq
      rcases List.mem_cons.mp hq with rfl | hq
      · exact .inr ⟨List.mem_append.mpr (.inr (.head _)), Ne.symm (Nat.ne_of_lt hdI)⟩
      · rcases List.mem_cons.mp hq with rfl | hq
        · exact .inr ⟨List.mem_append.mpr (.inr (.tail _ (.head _))), Ne.symm (Nat.ne_of_lt l2)⟩
        · rcases List.mem_cons.mp hq with rfl | hq
          · exact .inl rfl
          · rcases List.mem_append.mp hq with hq | hq
            · rcases List.mem_append.mp hq with hq | hq
              · exact .inr ⟨List.mem_append.mpr (.inl hq), Ne.symm (Nat.ne_of_lt (ab1 (d, o') (.tail _ (.tail _ (.head _))) q hq))⟩
              · exact .inr ⟨List.mem_append.mpr (.inr (.tail _ (.tail _ (.tail _ (List.mem_append.mpr (.inl hq)))))), Ne.symm (Nat.ne_of_lt (ld q hq).1)⟩
            · exact .inr ⟨List.mem_append.mpr (.inr (.tail _ (.tail _ (.tail _ (List.mem_append.mpr (.inr hq)))))), Nat.ne_of_lt (l1 q hq)⟩
    · intro q hq r hr'
      rw [List.mem_singleton.mp hr']
      rcases List.mem_cons.mp hq with rfl | hq
      · exact Nat.ne_of_lt hTI
      · rcases List.mem_cons.mp hq with rfl | hq
        · exact Nat.ne_of_lt hdI
        · rcases List.mem_append.mp hq with hq | hq
          · rcases List.mem_append.mp hq with hq | hq
            · exact Ne.symm (Nat.ne_of_lt (ab1 (I, oI) (.head _) q hq))
            · exact Ne.symm (Nat.ne_of_lt (ld q hq).2)
          · exact Nat.ne_of_lt (hI q (.tail _ (.tail _ hq)))
    · rw [List.map_append, hk', List.take_add_one, hp, List.map_append]; rfl
    · intro q hq r hr'
      rcases List.mem_append.mp hr' with hr' | hr'
      · exact ab1 q (.tail _ (.tail _ (.tail _ (List.mem_append.mpr (.inr hq))))) r hr'
      · exact ab q hq r hr'
    · intro q hq
      rcases List.mem_append.mp hq with hq | hq
      · exact ⟨ab1 (d, o') (.tail _ (.tail _ (.head _))) q hq, ab1 (I, oI) (.head _) q hq⟩
      · exact ld q hq
    · rw [List.map_append, List.take_add_one, hp, List.map_append]
      exact M.snoc (fun q hq => ab1 q (.tail _ (.tail _ (.tail _ (List.mem_append.mpr (.inl hq)))))) th1 sp1
  · (intro m' news h tk hZZ1 F' N'; refine via fun GG hGG => ?_; obtain ⟨o', kvs, tl, Us, hag, rfl, hd', hk', ab, ld, M⟩ := hZZ1; refine hGG ?_; clear hGG GG)
    rw [hdl, List.take_length] at hk' M
    have hkl := congrArg List.length hk'
    simp only [List.length_map] at hkl
    have M' := M.mono (tl₂ := (d, o') :: tl) fun p hp => .tail _ hp
    have hz : All₂ (fun (r : Str × Value) (p : Str × Dat) => r.1 = p.1 ∧ ThIn w ((d, o') :: tl) n r.2 p.2) kvs ps := All₂.zip hk' M'.th
    have hnn : ∀ r ∈ kvs, (r.2 != .none) = true := hz.leftM fun b hb a x => by
      rw [bne_iff_ne]
      intro e
      have x2 := x.2
      rw [e] at x2
      exact (hs.2.2 b hb).2 (th_none x2)
    have hfl : kvs.filter (fun r => r.2 != .none) = kvs := List.filter_eq_self.mpr hnn
    have so : Sorted kvs kvs := by
      refine ⟨List.Perm.refl _, ?_⟩
      have hp : (ps.map (·.1)).Pairwise (fun a b : Str => a.cps.toList < b.cps.toList) := List.pairwise_map.mpr hs.2.1
      rw [← hk'] at hp
      exact (List.pairwise_map (f := fun p : Str × Value => p.1) (R := fun a b : Str => a.cps.toList < b.cps.toList)).mp hp
    refine done tl o' h tk m' hag F' (fun p hp => N' p (.tail _ hp)) ?_ (.inr (.inr (.inl ⟨d, o', kvs, kvs, ps, rfl, .head _, hd', lo, so, by omega, by rw [hfl]; exact hz, rfl⟩))) (.inr (.inr (.inl ⟨d, o', kvs, kvs, Us, rfl, .head _, hd', lo, so, by omega, M.parts (T := (d, o') :: tl) (fun p hp => ?_), M.dj⟩)))
    · intro q hq p hp
      rcases List.mem_cons.mp hp with rfl | hp
      · exact l1 q hq
      · exact ab q hq p hp
    · exact ⟨.tail _ hp, fun e => Nat.lt_irrefl _ ((List.mem_singleton.mp e) ▸ (ld p hp).1)⟩
end
section
set_option maxRecDepth 100000 in
set_option maxHeartbeats 2000000 in
theorem dict_of_ok {w : World} {p : Program} {loose : List Str} {mean : ExcName → Option Value} {mg mb : Str → Option Value} {n : Nat} (IH : ValOf w p loose mean mg mb n) {NL : List (Addr × Obj)} {a : Addr} {k : Nat} {t1 : Tok} {vs : List Value} {ps : List (Str × Dat)}
    (hm : (a, tupOf (.str (S "dict") t1 :: vs).toArray k) ∈ NL) (hr : DatAll NL vs (ps.map pairD)) (hs : DcOk (ShOk n) ps) :
    Spec w p loose mean mg mb 289 [.ref a] (2 * n + 5) (30 * n + 75) NL (PostV w (n + 1) NL (tag "dict" (ps.map pairD))) := by
  have hdl := hr.length
  have hpl := hs.1
  rw [List.length_map] at hdl
  unfold Spec
  intro dp u gd A₀ base h₀ env outer L m s Q E B F X Tp hf hk hd hu N hret
  refine wpAny_call ?_
  refine' code_defG B F X N Tp rfl hf hk ?k6 ?k7 (asm2 hd) ?k9 ?kB ?_ ?c2 ?c3 ?c4 ?c5
  case k6 => k_is
  case k7 => k_is
  case k9 => exact BindsTo.of_eq rfl
  case c5 => decide
  case kB => exact locs rfl
  case c2 => exact rfl
  case c3 => exact rfl
  case c4 => exact rfl
  intro g' L' h' FG' F' N' B' X' T' kG'
  (try dsimp only)
  (try k_fold)
  iterate 7 (all_goals (try (first | (k_unfold; (try dsimp only)) | (k_end; wrow_close) | ((fail_if_success (fail_if_success (with_reducible show wpAny _ _ (eval (PySem.Expr.Name _ _) _) _ _ _))); (k_here; k_dflt (refine' nameX_L ?F9z ?v9z ?_ ?a9z ?b9z ?c9z; (case F9z => k_asm); (case v9z => with_unfolding_all assumption); (case a9z => exact rfl); (case b9z => exact rfl); (case c9z => decide))); try dsimp only) | (walk1; try dsimp only) | (dsimp only; walk1; try dsimp only))))
  refine' For_turns (by k_asm) ?_
  iterate 8 (all_goals (try (first | (k_unfold; (try dsimp only)) | (k_end; wrow_close) | ((fail_if_success (fail_if_success (with_reducible show wpAny _ _ (eval (PySem.Expr.Name _ _) _) _ _ _))); (k_here; k_dflt (refine' nameX_L ?F9z ?v9z ?_ ?a9z ?b9z ?c9z; (case F9z => k_asm); (case v9z => with_unfolding_all assumption); (case a9z => exact rfl); (case b9z => exact rfl); (case c9z => decide))); try dsimp only) | (walk1; try dsimp only) | (dsimp only; walk1; try dsimp only))))
  rename _ ∧ AllLt _ NL => hlt
  refine' dict_of_loop IH ?B ?F ?X ?T ?hd ?hu ?N ?h0 ?lo ?l1 hlt.1 hr hs ?hfm ?_
  case B => k_asm
  case F => k_asm
  case X => k_asm
  case T => k_asm
  case N => k_asm
  case hd => k_room
  case hu => k_units
  case h0 => k_asm
  case lo => k_asm
  case l1 => assumption
  case hfm => exact rfl
  intro tl o9 h9 tk9 m9 ag9 F9 N9 ab9 th9 sp9
  have hfm := (ag9 (S "found") (by decide)).trans (rfl : _ = some (Value.ref _))
  dsimp only
  repeat' (first | (k_unfold; (try dsimp only)) | (k_end; wrow_close) | ((fail_if_success (fail_if_success (with_reducible show wpAny _ _ (eval (PySem.Expr.Name _ _) _) _ _ _))); (k_here; k_dflt (refine' nameX_L ?F9z ?v9z ?_ ?a9z ?b9z ?c9z; (case F9z => k_asm); (case v9z => with_unfolding_all assumption); (case a9z => exact rfl); (case b9z => exact rfl); (case c9z => decide))); try dsimp only) | (walk1; try dsimp only) | (dsimp only; walk1; try dsimp only))
  rename News h₀ L _ _ => kN9
  exact hret _ _ _ _ (by assumption) kN9 (ext_of kG' F9) ⟨_ :: _, rfl, ab9, th9, sp9⟩
theorem dict_of_sp {w : World} {p : Program} {loose : List Str} {mean : ExcName → Option Value} {mg mb : Str → Option Value} {n : Nat} (IH : ValOf w p loose mean mg mb n) {NL : List (Addr × Obj)} {r : Value} {ps : List (Str × Dat)} (hr : DatIn NL r (tag "dict" (ps.map pairD))) (hs : DcOk (ShOk n) ps) :
    Spec w p loose mean mg mb 289 [r] (2 * n + 5) (30 * n + 75) NL (PostV w (n + 1) NL (tag "dict" (ps.map pairD))) := by
  refine in_tag r hr ?_
  exact fun a t vs k hm ha => dict_of_ok IH hm ha hs
theorem th_dict_ref {w : World} {T : List (Addr × Obj)} {n : Nat} {v : Value} {ds : List Dat} (h : ThIn w T n v (tag "dict" ds)) : ∃ a, v = .ref a := by
  have lf : ∀ d, LeafIn T v d → d = tag "dict" ds → ∃ a, v = .ref a := by
    intro d h e
    cases h with
    | null => exact (tag_ne (eq_false (by decide)) e).elim
    | truth b => exact (tag_ne (eq_false (by decide)) e).elim
    | int i t => exact (tag_ne (eq_false (by decide)) e).elim
    | real i p a b c => exact ⟨_, rfl⟩
    | name x a b => exact ⟨_, rfl⟩
    | string x y a b c => exact ⟨_, rfl⟩
    | ref i p a b => exact ⟨_, rfl⟩
  cases n with
  | zero => exact lf _ h rfl
  | succ n =>
    rcases h with h | ⟨a, k, vs, ds, e, _⟩ | ⟨a, o, rows, srt, ps, e, _⟩ | ⟨a, dx, h₁, h₂, t₁, t₂, u, m, hd, dh, x, e, _⟩
    · exact lf _ h rfl
    · exact ⟨_, e⟩
    · exact ⟨_, e⟩
    · exact ⟨_, e⟩
theorem above_stream {NL tl : List (Addr × Obj)} {D D' : Addr} {o o' : Obj} (h : ∀ p ∈ tl ++ NL, @LT.lt Nat _ p.1 D) (h' : @LT.lt Nat _ D D') (ab : Above NL tl) : Above NL ((D', o') :: (D, o) :: tl) := fun q hq p hp => by
  have hq' := h q (List.mem_append.mpr (.inr hq))
  rcases List.mem_cons.mp hp with rfl | hp
  · exact Nat.lt_trans hq' h'
  · rcases List.mem_cons.mp hp with rfl | hp
    · exact hq'
    · exact ab q hq p hp
section
set_option maxRecDepth 100000 in
set_option maxHeartbeats 2000000 in
theorem val_dict {w : World} {p : Program} {loose : List Str} {mean : ExcName → Option Value} {mg mb : Str → Option Value} {n : Nat} {NL : List (Addr × Obj)} {a : Addr} {k : Nat} {t1 : Tok} {vs : List Value} {d : Dat}
    (hm : (a, tupOf (.str (S "dict") t1 :: vs).toArray k) ∈ NL) (H : Spec w p loose mean mg mb 289 [.ref a] (2 * n + 5) (30 * n + 75) NL (PostV w (n + 1) NL d)) :
    Spec w p loose mean mg mb 282 [.ref a] (2 * n + 6) (30 * n + 90) NL (PostV w (n + 1) NL d) := by
  unfold Spec
  intro dp u gd A₀ base h₀ env outer L m s Q E B F X Tp hf hk hd hu N hret
  refine wpAny_call ?_
  refine' code_defG B F X N Tp rfl hf hk ?k6 ?k7 (asm2 hd) ?k9 ?kB ?_ ?c2 ?c3 ?c4 ?c5
  case k6 => k_is
  case k7 => k_is
  case k9 => exact BindsTo.of_eq rfl
  case c5 => decide
  case kB => exact locs rfl
  case c2 => exact rfl
  case c3 => exact rfl
  case c4 => exact rfl
  intro g' L' h' FG' F' N' B' X' T' kG'
  (try dsimp only)
  (try k_fold)
  repeat' (first | (k_unfold; (try dsimp only)) | (k_end; wrow_close) | ((fail_if_success (fail_if_success (with_reducible show wpAny _ _ (call (Value.ref _) _) _ _ _))); (k_here; k_dflt ((refine' spec_useG H ?B9z ?F9z ?X9z ?T9z rfl rfl ?hd9z ?hu9z ?N9z ?_; (case B9z => k_asm); (case F9z => k_asm); (case X9z => k_asm); (case T9z => k_asm); (case hd9z => k_room); (case hu9z => k_units); (case N9z => k_asm)); (intro GG hGG r1 h1 tk1 NL1 F1 N1 x1 P1; obtain ⟨tl1, e1, ab1, th1, sp1⟩ := P1; subst e1; refine hGG _ _ _ _ ?_; clear hGG GG; clear x1; (try k_sweep)))); try dsimp only) | ((fail_if_success (fail_if_success (with_reducible show wpAny _ _ (eval (PySem.Expr.Name _ _) _) _ _ _))); (k_here; k_dflt (refine' nameX_L ?F9z ?v9z ?_ ?a9z ?b9z ?c9z; (case F9z => k_asm); (case v9z => with_unfolding_all assumption); (case a9z => exact rfl); (case b9z => exact rfl); (case c9z => decide))); try dsimp only) | (walk1; try dsimp only) | (dsimp only; walk1; try dsimp only))
  rename News h₀ L _ _ => kN9
  exact hret _ _ _ _ (by assumption) kN9 (ext_of kG' F1) ⟨_, rfl, ab1, th1, sp1⟩
set_option maxRecDepth 100000 in
set_option maxHeartbeats 2000000 in
theorem val_stream {w : World} {p : Program} {loose : List Str} {mean : ExcName → Option Value} {mg mb : Str → Option Value} {n : Nat} {NL : List (Addr × Obj)} {a b : Addr} {k : Nat} {t1 t2 : Tok} {x : Array UInt8} {ps : List (Str × Dat)}
    (hm : (a, tupOf [.str (S "stream") t1, .ref b, .bytes x t2].toArray k) ∈ NL) (hx : x.size ≤ 100) (H : Spec w p loose mean mg mb 289 [.ref b] (2 * n + 5) (30 * n + 75) NL (PostV w (n + 1) NL (tag "dict" (ps.map pairD)))) :
    Spec w p loose mean mg mb 282 [.ref a] (2 * n + 8) (30 * n + 120) NL (PostV w (n + 2) NL (tag "stream" [tag "dict" (ps.map pairD), .bytes x])) := by
  unfold Spec
  intro dp u gd A₀ base h₀ env outer L m s Q E B F X Tp hf hk hd hu N hret
  refine wpAny_call ?_
  refine' code_defG B F X N Tp rfl hf hk ?k6 ?k7 (asm2 hd) ?k9 ?kB ?_ ?c2 ?c3 ?c4 ?c5
  case k6 => k_is
  case k7 => k_is
  case k9 => exact BindsTo.of_eq rfl
  case c5 => decide
  case kB => exact locs rfl
  case c2 => exact rfl
  case c3 => exact rfl
  case c4 => exact rfl
  intro g' L' h' FG' F' N' B' X' T' kG'
  (try dsimp only)
  (try k_fold)
  repeat' (first | (k_unfold; (try dsimp only)) | (k_end; wrow_close) | ((fail_if_success (fail_if_success (with_reducible show wpAny _ _ (call (Value.ref _) _) _ _ _))); (k_here; k_dflt ((refine' spec_useG H ?B9z ?F9z ?X9z ?T9z rfl rfl ?hd9z ?hu9z ?N9z ?_; (case B9z => k_asm); (case F9z => k_asm); (case X9z => k_asm); (case T9z => k_asm); (case hd9z => k_room); (case hu9z => k_units); (case N9z => k_asm)); (intro GG hGG r1 h1 tk1 NL1 F1 N1 x1 P1; obtain ⟨tl1, e1, ab1, th1, sp1⟩ := P1; subst e1; refine hGG _ _ _ _ ?_; clear hGG GG; clear x1; (try k_sweep)))); try dsimp only) | ((fail_if_success (fail_if_success (with_reducible show wpAny _ _ (eval (PySem.Expr.Name _ _) _) _ _ _))); (k_here; k_dflt (refine' nameX_L ?F9z ?v9z ?_ ?a9z ?b9z ?c9z; (case F9z => k_asm); (case v9z => with_unfolding_all assumption); (case a9z => exact rfl); (case b9z => exact rfl); (case c9z => decide))); try dsimp only) | (walk1; try dsimp only) | (dsimp only; walk1; try dsimp only))
  obtain ⟨hd9, rfl⟩ := th_dict_ref th1
  rename News h₀ L _ _ => kN9
  have l1 := (by assumption : ∀ p ∈ tl1 ++ NL, @LT.lt Nat _ p.1 _)
  have l2 := (by assumption : @LT.lt Nat _ _ _)
  refine hret _ _ _ _ (by assumption) kN9 (ext_of kG' (by assumption)) ⟨_ :: _ :: _, rfl, above_stream l1 l2 ab1, .inr (.inr (.inr ⟨_, _, _, _, _, _, _, _, _, _, _, rfl, .head _, .tail _ (.head _), hx, th1.mono fun p hp => .tail _ (.tail _ hp), ⟨_, rfl⟩, rfl⟩)), .inr (.inr (.inr ⟨_, _, _, _, _, _, _, _, _, _, tl1, rfl, .head _, .tail _ (.head _), hx, sp1, fun p hp => ⟨.tail _ (.tail _ hp), ?_⟩⟩))⟩
  intro e
  have hp1 := l1 p (List.mem_append.mpr (.inl hp))
  rcases List.mem_cons.mp e with e | e
  · rw [e] at hp1; exact Nat.lt_irrefl _ (Nat.lt_trans hp1 l2)
  · rw [List.mem_singleton.mp e] at hp1; exact Nat.lt_irrefl _ hp1
end
theorem spec_mono {w : World} {p : Program} {loose : List Str} {mean : ExcName → Option Value} {mg mb : Str → Option Value} {f : Addr} {vs : List Value} {dn un : Nat} {NL : List (Addr × Obj)} {Post Post' : List (Addr × Obj) → Value → Prop} (h : Spec w p loose mean mg mb f vs dn un NL Post) (hp : ∀ NL' r, Post NL' r → Post' NL' r) : Spec w p loose mean mg mb f vs dn un NL Post' :=
  fun dp u gd A₀ base h₀ env outer L m s Q E B F X T hf hk hd hu N ret => h dp u gd A₀ base h₀ env outer L m s Q E B F X T hf hk hd hu N fun r h' tk' NL' a b c d => ret r h' tk' NL' a b c (hp _ _ d)
theorem val_all {w : World} {p : Program} {loose : List Str} {mean : ExcName → Option Value} {mg mb : Str → Option Value} : ∀ n, ValOf w p loose mean mg mb n
  | 0 => fun r d NL h hr => spec_mono (val_ok h hr) fun NL' v ⟨tl, e, ab, lf⟩ => ⟨tl, e, ab, lf, _, lf⟩
  | n + 1 => fun r d NL h hr => by
    rcases h with h | ⟨ds, rfl, hl, hs⟩ | ⟨ps, rfl, hs⟩ | ⟨dh, x, rfl, hx, di, hs⟩
    · exact spec_le (spec_mono (val_ok h hr) fun NL' v ⟨tl, e, ab, lf⟩ => ⟨tl, e, ab, .inl lf, .inl ⟨_, lf⟩⟩) (by omega) (by omega)
    · refine in_tag r hr ?_
      exact fun a t vs k hm ha => val_arr (val_all n) hm ha hs hl
    · have H := dict_of_sp (w := w) (p := p) (loose := loose) (mean := mean) (mg := mg) (mb := mb) (val_all n) hr hs
      revert H
      refine in_tag r hr ?_
      exact fun a t vs k hm _ H => val_dict hm H
    · obtain ⟨m, ps, rfl, rfl, hp⟩ := sh_dict hs di
      refine in_tag r hr ?_
      intro a t vs k hm ha
      revert hm
      refine all_two vs ha ?_
      intro v u h2
      have H := dict_of_sp (w := w) (p := p) (loose := loose) (mean := mean) (mg := mg) (mb := mb) (val_all m) h2 hp
      revert H
      refine in_tag v h2 ?_
      exact fun b _ _ _ _ _ H hm => spec_le (val_stream hm hx H) (by omega) (by omega)
end
end
section
set_option maxRecDepth 100000 in
set_option maxHeartbeats 2000000 in
theorem isi_none {w : World} {NL : List (Addr × Obj)} : Isi w NL .none (fun _ => false) := by
  intro j cv hj h₀ L m A E s Q F X N hq
  simp only [kcls, List.mem_cons, Prod.mk.injEq, List.not_mem_nil, or_false] at hj
  rcases hj with ⟨rfl, rfl⟩ | ⟨rfl, rfl⟩ | ⟨rfl, rfl⟩ | ⟨rfl, rfl⟩ | ⟨rfl, rfl⟩ | ⟨rfl, rfl⟩ | ⟨rfl, rfl⟩ | ⟨rfl, rfl⟩ | ⟨rfl, rfl⟩
  all_goals walk1
  all_goals exact hq _
noncomputable def Lf3 (w : World) (NL : List (Addr × Obj)) (v : Value) : Prop :=
  ∀ (j : Nat) (cv : Value), (j, cv) ∈ kcls → 5 ≤ j → j < 8 → ∀ (h₀ : Heap) (L : Addr) (m : Str → Option Value) (A : Around) (E : Value → Shared → Prop) (s : Shared) (Q : Value → Shared → Prop), Fr h₀ L s.heap m → (hd.heap_39 w.params).In h₀ → News h₀ L s.heap NL → (∀ tk, Q (.bool false) { s with toks := tk }) →
    wpAny (model PySem.Challenge.rw_og0176_01.row.prog w) A (call (.builtin "isinstance") [v, cv]) Q E s
theorem lf3_of {w : World} {NL : List (Addr × Obj)} {v : Value} {isk : Nat → Bool} (H : Isi w NL v isk) (h : ∀ j, 5 ≤ j → j < 8 → isk j = false) : Lf3 w NL v := fun j cv hj a b h₀ L m A E s Q F X N hq =>
  H j cv hj h₀ L m A E s Q F X N fun tk => by rw [h j a b]; exact hq tk
theorem lf3_leaf {w : World} {NL : List (Addr × Obj)} {v : Value} {d : Dat} (h : LeafIn NL v d) : Lf3 w NL v := by
  cases h with
  | null => exact lf3_of isi_none fun _ _ _ => rfl
  | truth b => exact lf3_of (isi_bool b) (by intro j a b; have : j = 5 ∨ j = 6 ∨ j = 7 := by omega
                                             rcases this with rfl | rfl | rfl <;> rfl)
  | int i t => exact lf3_of (isi_int i t) (by intro j a b; have : j = 5 ∨ j = 6 ∨ j = 7 := by omega
                                              rcases this with rfl | rfl | rfl <;> rfl)
  | real i p a b c => exact lf3_of (isi_real a b) (by intro j a b; have : j = 5 ∨ j = 6 ∨ j = 7 := by omega
                                                      rcases this with rfl | rfl | rfl <;> rfl)
  | name x a b => exact lf3_of (isi_name a b) (by intro j a b; have : j = 5 ∨ j = 6 ∨ j = 7 := by omega
                                                  rcases this with rfl | rfl | rfl <;> rfl)
  | string x y a b c => exact lf3_of (isi_string a b) (by intro j a b; have : j = 5 ∨ j = 6 ∨ j = 7 := by omega
                                                          rcases this with rfl | rfl | rfl <;> rfl)
  | ref i p a b => exact lf3_of (isi_ref a b) (by intro j a b; have : j = 5 ∨ j = 6 ∨ j = 7 := by omega
                                                  rcases this with rfl | rfl | rfl <;> rfl)
section
local macro_rules | `(tactic| walk_at "call builtin:isinstance") => `(tactic| (k_here; (rename Lf3 _ _ _ => lH'); (refine' lH' _ _ ?me ?g1 ?g2 _ _ _ _ _ _ _ ?F ?X ?N ?_); (case me => (repeat (first | exact List.Mem.head _ | refine' List.Mem.tail _ ?_))); (case g1 => decide); (case g2 => decide); (case F => k_asm); (case X => k_asm); (case N => k_asm); intro tk'))
set_option maxRecDepth 100000 in
set_option maxHeartbeats 2000000 in
theorem spoil_leaf {w : World} {p : Program} {loose : List Str} {mean : ExcName → Option Value} {mg mb : Str → Option Value} {NL : List (Addr × Obj)} {v : Value} (H : Lf3 w NL v) : Spec w p loose mean mg mb 388 [v] 3 40 NL (fun _ _ => True) := by
  unfold Spec
  intro dp u gd A₀ base h₀ env outer L m s Q E B F X Tp hf hk hd hu N hret
  refine wpAny_call ?_
  refine' code_defG B F X N Tp rfl hf hk ?k6 ?k7 (asm2 hd) ?k9 ?kB ?_ ?c2 ?c3 ?c4 ?c5
  case k6 => k_is
  case k7 => k_is
  case k9 => exact BindsTo.of_eq rfl
  case c5 => decide
  case kB => exact locs rfl
  case c2 => exact rfl
  case c3 => exact rfl
  case c4 => exact rfl
  intro g' L' h' FG' F' N' B' X' T' kG'
  (try dsimp only)
  (try k_fold)
  repeat' (first | (k_unfold; (try dsimp only)) | (k_end; wrow_close) | (walk1; try dsimp only) | (dsimp only; walk1; try dsimp only))
  all_goals exact hret _ _ _ _ (by assumption) (by assumption) (ext_of kG' (by assumption)) trivial
end
end
section
theorem news_sub {h₀ h : Heap} {L : Addr} {nw n2 : List (Addr × Obj)} (N : News h₀ L h nw) (hs : ∀ p ∈ n2, p ∈ nw) : News h₀ L h n2 := fun p hp => N p (hs p hp)
theorem news_ext {h₀ h h' : Heap} {L : Addr} {nw n2 : List (Addr × Obj)} {W : List Addr} (N : News h₀ L h nw) (x : Ext W h h') (hs : ∀ p ∈ n2, p ∈ nw ∧ p.1 ∉ W) : News h₀ L h' n2 := fun p hp => ⟨x _ _ (N p (hs p hp).1).1 (hs p hp).2, (N p (hs p hp).1).2⟩
noncomputable def Spoil (w : World) (p : Program) (loose : List Str) (mean : ExcName → Option Value) (mg mb : Str → Option Value) (n : Nat) : Prop :=
  ∀ (v : Value) (T : List (Addr × Obj)), SpIn w n T v → Spec w p loose mean mg mb 388 [v] (n + 3) (10 * n + 40) T (fun _ _ => True)
noncomputable abbrev spEnv (L : Addr) : Env := envOf (S "_law_spoilt") { kind := .function, names := [(S "thing", .local), (S "part", .local), (S "key", .local), (S "isinstance", .globalImplicit), (S "list", .globalImplicit), (S "_law_spoilt", .globalImplicit), (S "Name", .globalImplicit), (S "dict", .globalImplicit), (S "sorted", .globalImplicit), (S "Stream", .globalImplicit)], isGenerator := false, isCoroutine := false } L 388 (.ref 387)
theorem all2_at {α β : Type} {R : α → β → Prop} {l : List α} {m : List β} {i : Nat} {a : α} (r : All₂ R l m) (h : l[i]? = some a) : ∃ b, m[i]? = some b ∧ R a b := r.get h
theorem drop_at {α : Type} {l : List α} {i : Nat} {a : α} (h : l[i]? = some a) : l.drop i = a :: l.drop (i + 1) := by
  obtain ⟨hl, e⟩ := List.getElem?_eq_some_iff.mp h
  rw [List.drop_eq_getElem_cons hl, e]
theorem dis_drop {Us : List (List (Addr × Obj))} (h : Us.Pairwise Dis) {i : Nat} {U : List (Addr × Obj)} (hu : Us[i]? = some U) : ∀ q ∈ (Us.drop (i + 1)).flatten, q.1 ∉ U.map (·.1) := by
  intro q hq hm
  obtain ⟨V, hV, hqV⟩ := List.mem_flatten.mp hq
  obtain ⟨r, hr, e⟩ := List.mem_map.mp hm
  have hp : (Us.drop i).Pairwise Dis := h.sublist (List.drop_sublist _ _)
  rw [drop_at hu] at hp
  exact (List.pairwise_cons.mp hp).1 V hV r hr q hqV e
set_option maxRecDepth 100000 in
set_option maxHeartbeats 2000000 in
theorem spoil_arr_loop {w : World} {p : Program} {loose : List Str} {mean : ExcName → Option Value} {mg mb : Str → Option Value} {n : Nat} (IH : Spoil w p loose mean mg mb n) {dp u : Nat} {gd : Option (List Code)} {A₀ : Around} {base h₀ : Heap} {outer : List Env} {L : Addr} {m : Str → Option Value} {s : Shared} {Q : Flow → Shared → Prop} {E : Value → Shared → Prop}
    {a : Addr} {k : Nat} {vs : List Value} {T : List (Addr × Obj)} {Us : List (List (Addr × Obj))} {p1 p2 p3 p4 p5 : Pos}
    (B : Below A₀ base outer h₀) (F : Fr h₀ L s.heap m) (X : (hd.heap_39 w.params).In h₀) (Tp : Top p loose mean mg mb h₀) (hd : dp + (n + 3) < recursionLimit) (hu : u + (10 * n + 40) < cLine)
    (N : News h₀ L s.heap ((a, listOf vs.toArray k) :: Us.flatten)) (hp : All₂ (Part T [a] (SpIn w n)) vs Us) (dj : Us.Pairwise Dis)
    (done : ∀ h' tk' m', Agr [S "part"] m' m → Fr h₀ L h' m' → News h₀ L h' [(a, listOf vs.toArray k)] → Q .next { s with heap := h', toks := tk' }) :
    wpAny (model PySem.Challenge.rw_og0176_01.row.prog w) (arnd dp u gd (spEnv L) outer) (pyIter (.ref a))
      (fun it s₂ => TurnsAt PySem.Challenge.rw_og0176_01.row.prog w (arnd dp u gd (spEnv L) outer) h₀ (spEnv L) (.Name (S "part") p1) [.Expr (.Call (.Name (S "_law_spoilt") p2) [.Name (S "part") p3] [] p4) p5] Q E it s₂) E s := by
  refine iter_listTurns (env := spEnv L) rfl F N (.head _) rfl rfl fun I hI => items_inv0 (env := spEnv L)
    (fun i m' news => Agr [S "part"] m' m ∧ news = (a, listOf vs.toArray k) :: (Us.drop i).flatten) ⟨Agr.rfl, rfl⟩ ⟨.head _, trivial⟩ ?_ ?_
  · rintro i v m' news oI h tk hv ⟨hag, rfl⟩ hS hoI F' N'
    obtain ⟨U, hU, hpt⟩ := hp.get hv
    have H := IH v U hpt.1
    have hsub : ∀ q ∈ U, q ∈ (I, oI) :: (a, listOf vs.toArray k) :: (Us.drop i).flatten := fun q hq => .tail _ (.tail _ (List.mem_flatten.mpr ⟨U, by rw [drop_at hU]; exact .head _, hq⟩))
    have hoff : ∀ q ∈ (I, oI) :: (a, listOf vs.toArray k) :: (Us.drop (i + 1)).flatten, q ∈ (I, oI) :: (a, listOf vs.toArray k) :: (Us.drop i).flatten ∧ q.1 ∉ U.map (·.1) := by
      intro q hq
      rcases List.mem_cons.mp hq with rfl | hq
      · refine ⟨.head _, fun hm => ?_⟩
        obtain ⟨r, hr, e⟩ := List.mem_map.mp hm
        have := hI r (.tail _ (List.mem_flatten.mpr ⟨U, List.mem_of_getElem? hU, hr⟩))
        rw [e] at this
        exact Nat.lt_irrefl _ this
      · rcases List.mem_cons.mp hq with rfl | hq
        · refine ⟨.tail _ (.head _), fun hm => ?_⟩
          obtain ⟨r, hr, e⟩ := List.mem_map.mp hm
          exact (hpt.2 r hr).2 (List.mem_singleton.mpr e)
        · exact ⟨.tail _ (.tail _ (by rw [drop_at hU]; exact List.mem_append.mpr (.inr hq))), dis_drop dj hU q hq⟩
    repeat' (first | (k_unfold; (try dsimp only)) | (k_end; wrow_close) | ((fail_if_success (fail_if_success (with_reducible show wpAny _ _ (call (Value.ref _) _) _ _ _))); (k_here; k_dflt ((refine' spec_use H ?B9z ?F9z ?X9z ?T9z rfl rfl ?hd9z ?hu9z ?N9z ?_; (case B9z => k_asm); (case F9z => k_asm); (case X9z => k_asm); (case T9z => k_asm); (case hd9z => k_room); (case hu9z => k_units); (case N9z => exact news_sub (by with_reducible assumption) hsub)); (rename News h₀ _ _ (_ :: _) => N0; intro r1 h1 tk1 NL1 F1 N1 x1 P1; have N2 := news_ext N0 x1 hoff; clear N0 N1 P1; (try k_sweep)))); try dsimp only) | ((fail_if_success (fail_if_success (with_reducible show wpAny _ _ (eval (PySem.Expr.Name _ _) _) _ _ _))); (k_here; k_dflt (refine' nameX_L ?F9z ?v9z ?_ ?a9z ?b9z ?c9z; (case F9z => k_asm); (case v9z => with_unfolding_all assumption); (case a9z => exact rfl); (case b9z => exact rfl); (case c9z => decide))); try dsimp only) | (walk1; try dsimp only) | (dsimp only; walk1; try dsimp only))
    refine ⟨h1, _, _, (a, listOf vs.toArray k) :: (Us.drop (i + 1)).flatten, rfl, F1, N2, ?_, ⟨.head _, trivial⟩, hag.set (by decide), rfl⟩
    intro q hq r hr
    rw [List.mem_singleton.mp hr]
    rcases List.mem_cons.mp hq with rfl | hq
    · exact Nat.ne_of_lt (hI _ (.head _))
    · obtain ⟨V, hV, hqV⟩ := List.mem_flatten.mp hq
      exact Nat.ne_of_lt (hI q (.tail _ (List.mem_flatten.mpr ⟨V, List.mem_of_mem_drop hV, hqV⟩)))
  · rintro m' news h tk ⟨hag, rfl⟩ F' N'
    exact done h tk m' hag F' (fun p hp => N' p (by rw [List.mem_singleton.mp hp]; exact .head _))
set_option maxRecDepth 100000 in
set_option maxHeartbeats 2000000 in
theorem spoil_dict_loop {w : World} {p : Program} {loose : List Str} {mean : ExcName → Option Value} {mg mb : Str → Option Value} {n : Nat} (IH : Spoil w p loose mean mg mb n) {dp u : Nat} {gd : Option (List Code)} {A₀ : Around} {base h₀ : Heap} {outer : List Env} {L : Addr} {m : Str → Option Value} {s : Shared} {Q : Flow → Shared → Prop} {E : Value → Shared → Prop}
    {a D : Addr} {k : Nat} {o : Obj} {ks : List Value} {kvs srt : List (Str × Value)} {T : List (Addr × Obj)} {Us : List (List (Addr × Obj))} {p1 p2 p3 p4 p5 p6 p7 : Pos}
    (B : Below A₀ base outer h₀) (F : Fr h₀ L s.heap m) (X : (hd.heap_39 w.params).In h₀) (Tp : Top p loose mean mg mb h₀) (hd : dp + (n + 3) < recursionLimit) (hu : u + (10 * n + 40) < cLine)
    (N : News h₀ L s.heap ((D, listOf ks.toArray k) :: (a, o) :: Us.flatten)) (hod : o.IsDictOf (PySem.strKind PROG w) kvs) (so : Sorted kvs srt) (hks : All₂ (fun v (r : Str × Value) => ∃ t, v = .str r.1 t) ks srt)
    (hDn : ∀ q ∈ Us.flatten, @LT.lt Nat _ q.1 D) (hthing : m (S "thing") = some (.ref a))
    (hp : All₂ (Part T [a] (SpIn w n)) (srt.map (·.2)) Us) (dj : Us.Pairwise Dis)
    (done : ∀ h' tk' m', Agr [S "key"] m' m → Fr h₀ L h' m' → News h₀ L h' [(a, o)] → Q .next { s with heap := h', toks := tk' }) :
    wpAny (model PySem.Challenge.rw_og0176_01.row.prog w) (arnd dp u gd (spEnv L) outer) (pyIter (.ref D))
      (fun it s₂ => TurnsAt PySem.Challenge.rw_og0176_01.row.prog w (arnd dp u gd (spEnv L) outer) h₀ (spEnv L) (.Name (S "key") p1) [.Expr (.Call (.Name (S "_law_spoilt") p2) [.Subscript (.Name (S "thing") p3) (.Name (S "key") p4) p5] [] p6) p7] Q E it s₂) E s := by
  refine iter_listTurns (env := spEnv L) rfl F N (.head _) rfl rfl fun I hI => items_inv0 (env := spEnv L)
    (fun i m' news => Agr [S "key"] m' m ∧ news = (D, listOf ks.toArray k) :: (a, o) :: (Us.drop i).flatten) ⟨Agr.rfl, rfl⟩ ⟨.head _, trivial⟩ ?_ ?_
  · rintro i v m' news oI h tk hv ⟨hag, rfl⟩ hS hoI F' N'
    obtain ⟨r, hr, t, rfl⟩ := hks.get hv
    have hrv : (srt.map (·.2))[i]? = some r.2 := by rw [List.getElem?_map, hr]; rfl
    obtain ⟨U, hU, hpt⟩ := hp.get hrv
    have hval := so.value (List.mem_of_getElem? hr)
    have H := IH r.2 U hpt.1
    have hth' := (hag (S "thing") (by decide)).trans hthing
    have hsub : ∀ q ∈ U, q ∈ (I, oI) :: (D, listOf ks.toArray k) :: (a, o) :: (Us.drop i).flatten := fun q hq => .tail _ (.tail _ (.tail _ (List.mem_flatten.mpr ⟨U, by rw [drop_at hU]; exact .head _, hq⟩)))
    have hUf : ∀ q ∈ U, q ∈ Us.flatten := fun q hq => List.mem_flatten.mpr ⟨U, List.mem_of_getElem? hU, hq⟩
    have hoff : ∀ q ∈ (I, oI) :: (D, listOf ks.toArray k) :: (a, o) :: (Us.drop (i + 1)).flatten, q ∈ (I, oI) :: (D, listOf ks.toArray k) :: (a, o) :: (Us.drop i).flatten ∧ q.1 ∉ U.map (·.1) := by
      intro q hq
      rcases List.mem_cons.mp hq with rfl | hq
      · refine ⟨.head _, fun hm => ?_⟩
        obtain ⟨r, hr, e⟩ := List.mem_map.mp hm
        have := hI r (.tail _ (.tail _ (hUf r hr)))
        rw [e] at this
        exact Nat.lt_irrefl _ this
      · rcases List.mem_cons.mp hq with rfl | hq
        · refine ⟨.tail _ (.head _), fun hm => ?_⟩
          obtain ⟨r, hr, e⟩ := List.mem_map.mp hm
          have := hDn r (hUf r hr)
          rw [e] at this
          exact Nat.lt_irrefl _ this
        · rcases List.mem_cons.mp hq with rfl | hq
          · refine ⟨.tail _ (.tail _ (.head _)), fun hm => ?_⟩
            obtain ⟨r, hr, e⟩ := List.mem_map.mp hm
            exact (hpt.2 r hr).2 (List.mem_singleton.mpr e)
          · exact ⟨.tail _ (.tail _ (.tail _ (by rw [drop_at hU]; exact List.mem_append.mpr (.inr hq)))), dis_drop dj hU q hq⟩
    repeat' (first | (k_unfold; (try dsimp only)) | (k_end; wrow_close) | ((fail_if_success (fail_if_success (with_reducible show wpAny _ _ (call (Value.ref _) _) _ _ _))); (k_here; k_dflt ((refine' spec_use H ?B9z ?F9z ?X9z ?T9z rfl rfl ?hd9z ?hu9z ?N9z ?_; (case B9z => k_asm); (case F9z => k_asm); (case X9z => k_asm); (case T9z => k_asm); (case hd9z => k_room); (case hu9z => k_units); (case N9z => exact news_sub (by with_reducible assumption) hsub)); (rename News h₀ _ _ (_ :: _) => N0; intro r1 h1 tk1 NL1 F1 N1 x1 P1; have N2 := news_ext N0 x1 hoff; clear N0 N1 P1; (try k_sweep)))); try dsimp only) | ((fail_if_success (fail_if_success (with_reducible show wpAny _ _ (eval (PySem.Expr.Name _ _) _) _ _ _))); (k_here; k_dflt (refine' nameX_L ?F9z ?v9z ?_ ?a9z ?b9z ?c9z; (case F9z => k_asm); (case v9z => with_unfolding_all assumption); (case a9z => exact rfl); (case b9z => exact rfl); (case c9z => decide))); try dsimp only) | ((fail_if_success (fail_if_success (with_reducible show wpAny _ _ (subscriptTail _ _ _ _) _ _ _))); (k_here; (fail_if_success (fail_if_success (with_reducible show wpAny _ _ (subscriptTail _ _ (Value.ref _) (Value.str _ _)) _ _ _))); k_dflt (refine' kda_item ?N9z ?hm9z ?hd9z (strKind_is _ _ _ _) ?hv9z ?_; (case N9z => k_asm); (case hm9z => k_mem); (case hd9z => k_asm); (case hv9z => assumption))); try dsimp only) | (walk1; try dsimp only) | (dsimp only; walk1; try dsimp only))
    refine ⟨h1, _, _, (D, listOf ks.toArray k) :: (a, o) :: (Us.drop (i + 1)).flatten, rfl, F1, N2, ?_, ⟨.head _, trivial⟩, hag.set (by decide), rfl⟩
    intro q hq r hr
    rw [List.mem_singleton.mp hr]
    rcases List.mem_cons.mp hq with rfl | hq
    · exact Nat.ne_of_lt (hI _ (.head _))
    · rcases List.mem_cons.mp hq with rfl | hq
      · exact Nat.ne_of_lt (hI _ (.tail _ (.head _)))
      · obtain ⟨V, hV, hqV⟩ := List.mem_flatten.mp hq
        exact Nat.ne_of_lt (hI q (.tail _ (.tail _ (List.mem_flatten.mpr ⟨V, List.mem_of_mem_drop hV, hqV⟩))))
  · rintro m' news h tk ⟨hag, rfl⟩ F' N'
    exact done h tk m' hag F' (fun p hp => N' p (by rw [List.mem_singleton.mp hp]; exact .tail _ (.head _)))
end
section
set_option maxRecDepth 100000 in
set_option maxHeartbeats 2000000 in
theorem spoil_arr {w : World} {p : Program} {loose : List Str} {mean : ExcName → Option Value} {mg mb : Str → Option Value} {n : Nat} (IH : Spoil w p loose mean mg mb n) {NL : List (Addr × Obj)} {a : Addr} {k : Nat} {vs : List Value} {Us : List (List (Addr × Obj))}
    (hm : (a, listOf vs.toArray k) ∈ NL) (hl : vs.length ≤ 3) (hp : All₂ (Part NL [a] (SpIn w n)) vs Us) (dj : Us.Pairwise Dis) : Spec w p loose mean mg mb 388 [.ref a] (n + 4) (10 * n + 50) NL (fun _ _ => True) := by
  unfold Spec
  intro dp u gd A₀ base h₀ env outer L m s Q E B F X Tp hf hk hd hu N hret
  refine wpAny_call ?_
  refine' code_defG B F X N Tp rfl hf hk ?k6 ?k7 (asm2 hd) ?k9 ?kB ?_ ?c2 ?c3 ?c4 ?c5
  case k6 => k_is
  case k7 => k_is
  case k9 => exact BindsTo.of_eq rfl
  case c5 => decide
  case kB => exact locs rfl
  case c2 => exact rfl
  case c3 => exact rfl
  case c4 => exact rfl
  intro g' L' h' FG' F' N' B' X' T' kG'
  (try dsimp only)
  (try k_fold)
  iterate 16 (all_goals (try (first | (k_unfold; (try dsimp only)) | (k_end; wrow_close) | ((fail_if_success (fail_if_success (with_reducible show wpAny _ _ (eval (PySem.Expr.Name _ _) _) _ _ _))); (k_here; k_dflt (refine' nameX_L ?F9z ?v9z ?_ ?a9z ?b9z ?c9z; (case F9z => k_asm); (case v9z => with_unfolding_all assumption); (case a9z => exact rfl); (case b9z => exact rfl); (case c9z => decide))); try dsimp only) | (walk1; try dsimp only) | (dsimp only; walk1; try dsimp only))))
  refine' For_turns (by k_asm) ?_
  iterate 1 (all_goals (try (first | (k_unfold; (try dsimp only)) | (k_end; wrow_close) | ((fail_if_success (fail_if_success (with_reducible show wpAny _ _ (eval (PySem.Expr.Name _ _) _) _ _ _))); (k_here; k_dflt (refine' nameX_L ?F9z ?v9z ?_ ?a9z ?b9z ?c9z; (case F9z => k_asm); (case v9z => with_unfolding_all assumption); (case a9z => exact rfl); (case b9z => exact rfl); (case c9z => decide))); try dsimp only) | (walk1; try dsimp only) | (dsimp only; walk1; try dsimp only))))
  have hsub : ∀ q ∈ (a, listOf vs.toArray k) :: Us.flatten, q ∈ NL := by
    intro q hq
    rcases List.mem_cons.mp hq with rfl | hq
    · exact hm
    · obtain ⟨U, hU, hqU⟩ := List.mem_flatten.mp hq
      exact (hp.rightM (P := fun U => ∀ q ∈ U, q ∈ NL) (fun _ _ _ x q hq => (x.2 q hq).1) U hU) q hqU
  refine' spoil_arr_loop IH ?B ?F ?X ?T ?hd ?hu (news_sub ?N hsub) hp dj ?_
  case B => k_asm
  case F => k_asm
  case X => k_asm
  case T => k_asm
  case N => k_asm
  case hd => k_room
  case hu => k_units
  intro h9 tk9 m9 ag9 F9 N9
  have hfm := (ag9 (S "thing") (by decide)).trans (rfl : _ = some (Value.ref _))
  dsimp only
  repeat' (first | (k_unfold; (try dsimp only)) | (k_end; wrow_close) | ((fail_if_success (fail_if_success (with_reducible show wpAny _ _ (eval (PySem.Expr.Name _ _) _) _ _ _))); (k_here; k_dflt (refine' nameX_L ?F9z ?v9z ?_ ?a9z ?b9z ?c9z; (case F9z => k_asm); (case v9z => with_unfolding_all assumption); (case a9z => exact rfl); (case b9z => exact rfl); (case c9z => decide))); try dsimp only) | (walk1; try dsimp only) | (dsimp only; walk1; try dsimp only))
  exact hret _ _ _ _ (by assumption) (by assumption) (ext_of kG' (by assumption)) trivial
section
set_option maxRecDepth 100000 in
set_option maxHeartbeats 2000000 in
theorem spoil_dict {w : World} {p : Program} {loose : List Str} {mean : ExcName → Option Value} {mg mb : Str → Option Value} {n : Nat} (IH : Spoil w p loose mean mg mb n) {NL : List (Addr × Obj)} {a : Addr} {o : Obj} {kvs srt : List (Str × Value)} {Us : List (List (Addr × Obj))}
    (hm : (a, o) ∈ NL) (hod : o.IsDictOf (PySem.strKind PROG w) kvs) (la : (a == sysModules) = false) (so : Sorted kvs srt) (hl : kvs.length ≤ 4) (hp : All₂ (Part NL [a] (SpIn w n)) (srt.map (·.2)) Us) (dj : Us.Pairwise Dis) : Spec w p loose mean mg mb 388 [.ref a] (n + 4) (10 * n + 50) NL (fun _ _ => True) := by
  have hod' := hod
  obtain ⟨es, k, rfl⟩ := obj_dict hod
  unfold Spec
  intro dp u gd A₀ base h₀ env outer L m s Q E B F X Tp hf hk hd hu N hret
  refine wpAny_call ?_
  refine' code_defG B F X N Tp rfl hf hk ?k6 ?k7 (asm2 hd) ?k9 ?kB ?_ ?c2 ?c3 ?c4 ?c5
  case k6 => k_is
  case k7 => k_is
  case k9 => exact BindsTo.of_eq rfl
  case c5 => decide
  case kB => exact locs rfl
  case c2 => exact rfl
  case c3 => exact rfl
  case c4 => exact rfl
  intro g' L' h' FG' F' N' B' X' T' kG'
  (try dsimp only)
  (try k_fold)
  repeat' (first | (k_unfold; (try dsimp only)) | (k_end; wrow_close) | ((fail_if_success (fail_if_success (with_reducible show wpAny _ _ (eval (PySem.Expr.Name _ _) _) _ _ _))); (k_here; k_dflt (refine' nameX_L ?F9z ?v9z ?_ ?a9z ?b9z ?c9z; (case F9z => k_asm); (case v9z => with_unfolding_all assumption); (case a9z => exact rfl); (case b9z => exact rfl); (case c9z => decide))); try dsimp only) | ((fail_if_success (fail_if_success (with_reducible show wpAny _ _ (setItem (Value.ref _) (Value.str _ _) _) _ _ _))); (k_here; k_dflt (refine' set_str_N ?F9z ?N9z ?hm9z ?hd9z ?hz9z ?_; (case F9z => k_asm); (case N9z => k_asm); (case hm9z => k_mem); (case hd9z => k_asm); (case hz9z => omega)); intro h9 o9 F9 hs9 ho9 hd9 N9; (have N9' := N9 [_] (fun _ hp => .inl (List.mem_singleton.mp hp))); clear N9); try dsimp only) | ((fail_if_success (fail_if_success (with_reducible show wpAny _ _ (exec (Stmt.For _ _ _ _ _) _) _ _ _))); (k_here; k_dflt (refine' For_turns ?F9z ?_; (case F9z => k_asm))); try dsimp only) | (walk1; try dsimp only) | (dsimp only; walk1; try dsimp only))
  k_dflt (refine' sorted_dict_N rfl ?F ?N ?hm hod la so hl ?_)
  case F => k_asm
  case N => k_asm
  case hm => k_mem
  intro D0 vs0 e0 h8 tk8 F8 N8 l8 hv8
  dsimp only
  have hUN : ∀ q ∈ Us.flatten, q ∈ NL := by
    intro q hq
    obtain ⟨U, hU, hqU⟩ := List.mem_flatten.mp hq
    exact (hp.rightM (P := fun U => ∀ q ∈ U, q ∈ NL) (fun _ _ _ x q hq => (x.2 q hq).1) U hU) q hqU
  have hsub : ∀ q ∈ (D0, listOf vs0.toArray e0) :: (a, dictOf es k) :: Us.flatten, q ∈ (D0, listOf vs0.toArray e0) :: NL := by
    intro q hq
    rcases List.mem_cons.mp hq with rfl | hq
    · exact .head _
    · rcases List.mem_cons.mp hq with rfl | hq
      · exact .tail _ hm
      · exact .tail _ (hUN q hq)
  refine' spoil_dict_loop IH ?B ?F ?X ?T ?hd ?hu (news_sub ?N hsub) hod so hv8 (fun q hq => l8 q (hUN q hq)) ?hth hp dj ?_
  case B => k_asm
  case F => k_asm
  case X => k_asm
  case T => k_asm
  case N => k_asm
  case hd => k_room
  case hu => k_units
  case hth => exact rfl
  intro h9 tk9 m9 ag9 F9 N9
  have hfm := (ag9 (S "thing") (by decide)).trans (rfl : _ = some (Value.ref _))
  dsimp only
  repeat' (first | (k_unfold; (try dsimp only)) | (k_end; wrow_close) | ((fail_if_success (fail_if_success (with_reducible show wpAny _ _ (eval (PySem.Expr.Name _ _) _) _ _ _))); (k_here; k_dflt (refine' nameX_L ?F9z ?v9z ?_ ?a9z ?b9z ?c9z; (case F9z => k_asm); (case v9z => with_unfolding_all assumption); (case a9z => exact rfl); (case b9z => exact rfl); (case c9z => decide))); try dsimp only) | ((fail_if_success (fail_if_success (with_reducible show wpAny _ _ (setItem (Value.ref _) (Value.str _ _) _) _ _ _))); (k_here; k_dflt (refine' set_str_N ?F9z ?N9z ?hm9z ?hd9z ?hz9z ?_; (case F9z => k_asm); (case N9z => k_asm); (case hm9z => k_mem); (case hd9z => k_asm); (case hz9z => omega)); intro h9 o9 F9 hs9 ho9 hd9 N9; (have N9' := N9 [_] (fun _ hp => .inl (List.mem_singleton.mp hp))); clear N9); try dsimp only) | ((fail_if_success (fail_if_success (with_reducible show wpAny _ _ (exec (Stmt.For _ _ _ _ _) _) _ _ _))); (k_here; k_dflt (refine' For_turns ?F9z ?_; (case F9z => k_asm))); try dsimp only) | (walk1; try dsimp only) | (dsimp only; walk1; try dsimp only))
  exact hret _ _ _ _ (by assumption) (by assumption) (ext_of kG' (by assumption)) trivial
end
section
set_option maxRecDepth 100000 in
set_option maxHeartbeats 2000000 in
theorem spoil_stream {w : World} {p : Program} {loose : List Str} {mean : ExcName → Option Value} {mg mb : Str → Option Value} {n : Nat} (IH : Spoil w p loose mean mg mb n) {NL : List (Addr × Obj)} {a dx : Addr} {h₁ h₂ : Int} {t₁ t₂ u : Tok} {k : Nat} {hd : Addr} {x : Array UInt8} {U : List (Addr × Obj)} (m1 : (a, instObj 226 dx) ∈ NL) (m2 : (dx, dictOf [⟨h₁, .str (S "head") t₁, .ref hd⟩, ⟨h₂, .str (S "octets") t₂, .bytes x u⟩] k) ∈ NL)
    (hx : x.size ≤ 100) (hp : Part NL [a, dx] (SpIn w n) (.ref hd) U) : Spec w p loose mean mg mb 388 [.ref a] (n + 4) (10 * n + 50) NL (fun _ _ => True) := by
  have H := IH (.ref hd) U hp.1
  have hsub : ∀ q ∈ U, q ∈ NL := fun q hq => (hp.2 q hq).1
  have hoff : ∀ q ∈ [(a, instObj 226 dx), (dx, dictOf [⟨h₁, .str (S "head") t₁, .ref hd⟩, ⟨h₂, .str (S "octets") t₂, .bytes x u⟩] k)], q ∈ NL ∧ q.1 ∉ U.map (·.1) := by
    intro q hq
    rcases List.mem_cons.mp hq with rfl | hq
    · refine ⟨m1, fun hm => ?_⟩
      obtain ⟨r, hr, e⟩ := List.mem_map.mp hm
      exact (hp.2 r hr).2 (by rw [e]; exact .head _)
    · rw [List.mem_singleton.mp hq]
      refine ⟨m2, fun hm => ?_⟩
      obtain ⟨r, hr, e⟩ := List.mem_map.mp hm
      exact (hp.2 r hr).2 (by rw [e]; exact .tail _ (.head _))
  unfold Spec
  intro dp u gd A₀ base h₀ env outer L m s Q E B F X Tp hf hk hd hu N hret
  refine wpAny_call ?_
  refine' code_defG B F X N Tp rfl hf hk ?k6 ?k7 (asm2 hd) ?k9 ?kB ?_ ?c2 ?c3 ?c4 ?c5
  case k6 => k_is
  case k7 => k_is
  case k9 => exact BindsTo.of_eq rfl
  case c5 => decide
  case kB => exact locs rfl
  case c2 => exact rfl
  case c3 => exact rfl
  case c4 => exact rfl
  intro g' L' h' FG' F' N' B' X' T' kG'
  (try dsimp only)
  (try k_fold)
  have hne : @Ne Nat a dx := by
    intro e
    have h1 := (N _ m1).1
    have h2 := (N _ m2).1
    dsimp only at h1 h2
    rw [e, h2] at h1
    cases h1
  repeat' (first | (k_unfold; (try dsimp only)) | (k_end; wrow_close) | ((fail_if_success (fail_if_success (with_reducible show wpAny _ _ (call (Value.ref _) _) _ _ _))); (k_here; k_dflt ((refine' spec_use H ?B9z ?F9z ?X9z ?T9z rfl rfl ?hd9z ?hu9z ?N9z ?_; (case B9z => k_asm); (case F9z => k_asm); (case X9z => k_asm); (case T9z => k_asm); (case hd9z => k_room); (case hu9z => k_units); (case N9z => exact news_sub (by with_reducible assumption) hsub)); (rename News g' _ _ _ => N0; intro r1 h1 tk1 NL1 F1 N1 x1 P1; have N2 := news_ext N0 x1 hoff; clear N0 N1 P1; (try k_sweep)))); try dsimp only) | ((fail_if_success (fail_if_success (with_reducible show wpAny _ _ (eval (PySem.Expr.Name _ _) _) _ _ _))); (k_here; k_dflt (refine' nameX_L ?F9z ?v9z ?_ ?a9z ?b9z ?c9z; (case F9z => k_asm); (case v9z => with_unfolding_all assumption); (case a9z => exact rfl); (case b9z => exact rfl); (case c9z => decide))); try dsimp only) | ((fail_if_success (fail_if_success (with_reducible show wpAny _ _ (setAttr (Value.ref _) _ _) _ _ _))); (k_here; k_dflt (refine' set_dict ?k19z ?k29z ?k39z ?k49z ?k59z ?k69z ?k79z ?k89z ?k99z ?k109z ?k119z ?k129z ?k139z ?_; (case k19z => k_asm); (case k29z => k_asm); (case k39z => k_asm); (case k49z => k_inst); (case k59z => exact rfl); (case k69z => k_is); (case k79z => k_is); (case k89z => k_is); (case k99z => k_is); (case k109z => k_get); (case k119z => exact rfl); (case k129z => k_upd); (case k139z => exact Nat.le_of_ble_eq_true rfl); intro h' F' N'; (try k_sweep))); try dsimp only) | ((fail_if_success (fail_if_success (with_reducible show wpAny _ _ (binaryOp .Add (Value.bytes _ _) (Value.bytes _ _)) _ _ _))); (k_here; k_dflt (refine' KBy.add_bytes ?hz9z ?_; (case hz9z => (simp only [List.size_toArray, List.length_cons, List.length_nil]; omega))); intro t9 k9); try dsimp only) | (walk1; try dsimp only) | (dsimp only; walk1; try dsimp only))
  exact hret _ _ _ _ (by assumption) (by assumption) (ext_of kG' (by assumption)) trivial
end
theorem spoil_all {w : World} {p : Program} {loose : List Str} {mean : ExcName → Option Value} {mg mb : Str → Option Value} : ∀ n, Spoil w p loose mean mg mb n
  | 0 => fun v T ⟨d, h⟩ => spoil_leaf (lf3_leaf h)
  | n + 1 => fun v T h => by
    rcases h with ⟨d, h⟩ | ⟨a, k, vs, Us, rfl, hm, l, r, dj⟩ | ⟨a, o, kvs, srt, Us, rfl, hm, hod, la, so, l, r, dj⟩ | ⟨a, dx, h₁, h₂, t₁, t₂, u, k, hd, x, U, rfl, m1, m2, sz, r⟩
    · exact spec_le (spoil_leaf (lf3_leaf h)) (by omega) (by omega)
    · exact spoil_arr (spoil_all n) hm l r dj
    · exact spoil_dict (spoil_all n) hm hod la so l r dj
    · exact spoil_stream (spoil_all n) m1 m2 sz r
end
section
theorem pow3 {prog : Program} {w : World} {A : Around} {E : Value → Shared → Prop} {s : Shared} {a : Int} {t u : Tok} {Q : Value → Shared → Prop} (ha : a.natAbs < 2 ^ 64) (h : ∀ b tb tk, Q (.int b tb) { s with toks := tk }) :
    wpAny (model prog w) A (binaryOp .Pow (.int a t) (.int 3 u)) Q E s := pow_int_small (by decide) (by decide) ha (h _ _ _)
theorem fmod_rng (a : Int) {b : Int} (hb : 0 < b) : 0 ≤ Int.fmod a b ∧ Int.fmod a b < b := ⟨Int.fmod_nonneg_of_pos a hb, Int.fmod_lt_of_pos a hb⟩
theorem pow_bound {x sp M : Int} (h0 : 0 ≤ sp) (h1 : sp < 100000) (hM : 0 < M ∧ M ≤ 2147483647) : (x.fmod M * (2 * sp + 373) + 65899 * sp + 4931).natAbs < 2 ^ 64 := by
  obtain ⟨a, b⟩ := fmod_rng x hM.1
  have h2 : x.fmod M * (2 * sp + 373) ≤ 2147483647 * 200373 := Int.mul_le_mul (by omega) (by omega) (by omega) (by decide)
  have h3 : 0 ≤ x.fmod M * (2 * sp + 373) := Int.mul_nonneg a (by omega)
  generalize x.fmod M * (2 * sp + 373) = z at h2 h3
  omega
local macro_rules | `(tactic| walk_at "binaryOp Pow int int") => `(tactic| (k_here; refine pow3 ?_ (fun _ _ _ => ?_)))
theorem join_next {M : Model} {A : Around} {E : Value → Shared → Prop} {t : Sem Flow} {Q : Flow → Shared → Prop} {s : Shared} (J : Shared → Prop) (x : wpAny M A t (fun fl s' => (fl = .next ∧ J s') ∨ (fl ≠ .next ∧ Q fl s')) E s) (k : ∀ s', J s' → Q .next s') : wpAny M A t Q E s :=
  wpAny_mono x (fun _ s' H => H.elim (fun H => H.1 ▸ k s' H.2) (·.2)) fun _ _ e => e
inductive PostW (pa la : Nat) (sp many : Int) (ep2 : Nat) (vs : List Value) (NL' : List (Addr × Obj)) (r : Value) : Prop
  | mk (sp' st' : Int) (t1' t2' : Tok) (ep' : Nat) (d : Int) (t' : Tok) : NL' = (pa, listOf #[.ref la, .int sp' t1', .int st' t2'] ep') :: (la, listOf vs.toArray ep2) :: [] → 0 ≤ sp' → sp' ≤ sp + 1 → 0 ≤ st' → r = .int d t' → 0 ≤ d → d < many → PostW pa la sp many ep2 vs NL' r
/- the state behind the first choice of a cell -/
inductive DrawJ (s : Shared) (g : Heap) (L pa la : Addr) (many sp st : Int) (t1 t2 t3 : Tok) (ep2 : Nat) (vs : List Value) (s' : Shared) : Prop
  | mk (h : Heap) (tk : Nat) (c : Int) (tc : Tok) (m : Str → Option Value) (tsp : Tok) (ep : Nat) : s' = { s with heap := h, toks := tk } → Fr g L h m → News g L h ((pa, listOf #[.ref la, .int (sp + 1) tsp, .int st t2] ep) :: (la, listOf vs.toArray ep2) :: []) →
    m (S "cell") = some (.int c tc) → m (S "spot") = some (.int sp t1) → m (S "pen") = some (.ref pa) → m (S "many") = some (.int many t3) → DrawJ s g L pa la many sp st t1 t2 t3 ep2 vs s'
section
set_option maxRecDepth 100000 in
set_option maxHeartbeats 2000000 in
theorem draw_spec {w : World} {p : Program} {loose : List Str} {mean : ExcName → Option Value} {mg mb : Str → Option Value} {pa la : Nat} {ns : List Int} {vs : List Value} {sp st many : Int} {t1 t2 t3 : Tok} {ep ep2 : Nat} (hne : pa ≠ la)
    (hi : IntsAre vs ns) (h0 : 0 ≤ sp) (h1 : sp < 100000) (h2 : 0 ≤ st) (h3 : 2 ≤ many) (h4 : many < 10) (hlen : ns.length ≤ 24) :
    Spec w p loose mean mg mb 369 [.ref pa, .int many t3] 3 50 ((pa, listOf #[.ref la, .int sp t1, .int st t2] ep) :: (la, listOf vs.toArray ep2) :: [])
      (PostW pa la sp many ep2 vs) := by
  unfold Spec
  intro dp u gd A₀ base h₀ env outer L m s Q E B F X Tp hf hk hd hu N hret
  refine wpAny_call ?_
  refine' code_defG B F X N Tp rfl hf hk ?k6 ?k7 (asm2 hd) ?k9 ?kB ?_ ?c2 ?c3 ?c4 ?c5
  case k6 => k_is
  case k7 => k_is
  case k9 => exact BindsTo.of_eq rfl
  case c5 => decide
  case kB => exact locs rfl
  case c2 => exact rfl
  case c3 => exact rfl
  case c4 => exact rfl
  intro g' L' h' FG' F' N' B' X' T' kG'
  (try dsimp only)
  (try k_fold)
  repeat' ((fail_if_success (with_reducible show wpAny _ _ (exec (Stmt.If (PySem.Expr.Compare (PySem.Expr.Call _ _ _ _) _ _ _) _ _ _) _) _ _ _)); (first | (k_unfold; (try dsimp only)) | (k_end; wrow_close) | ((fail_if_success (fail_if_success (with_reducible show wpAny _ _ (eval (PySem.Expr.Name _ _) _) _ _ _))); (k_here; k_dflt (refine' nameX_L ?F9z ?v9z ?_ ?a9z ?b9z ?c9z; (case F9z => k_asm); (case v9z => with_unfolding_all assumption); (case a9z => exact rfl); (case b9z => exact rfl); (case c9z => decide))); try dsimp only) | (walk1; try dsimp only) | (dsimp only; walk1; try dsimp only)))
  any_goals refine join_next (DrawJ s g' L' pa la many sp st t1 t2 t3 ep2 vs) ?_ (fun s' H => ?_)
  · refine hret _ _ _ _ (by assumption) (by assumption) (ext_of kG' (by assumption)) ⟨_, _, _, _, _, _, _, rfl, h0, by omega, Int.fdiv_nonneg (by omega) (by omega), rfl, (fmod_rng _ (by omega)).1, (fmod_rng _ (by omega)).2⟩
  · repeat' (first | (k_unfold; (try dsimp only)) | (k_end; wrow_close) | ((fail_if_success (fail_if_success (with_reducible show wpAny _ _ (eval (PySem.Expr.Name _ _) _) _ _ _))); (k_here; k_dflt (refine' nameX_L ?F9z ?v9z ?_ ?a9z ?b9z ?c9z; (case F9z => k_asm); (case v9z => with_unfolding_all assumption); (case a9z => exact rfl); (case b9z => exact rfl); (case c9z => decide))); try dsimp only) | (walk1; try dsimp only) | (dsimp only; walk1; try dsimp only))
    all_goals exact .inl ⟨rfl, _, _, _, _, _, _, _, rfl, by assumption, by assumption, rfl, rfl, rfl, rfl⟩
  · obtain ⟨h2, tk2, c, tc, m2, tsp, ep', rfl, F2, N2, mc, ms, mp, mm⟩ := H
    dsimp only
    repeat' ((fail_if_success (with_reducible show wpAny _ _ (exec (Stmt.If _ _ _ _) _) _ _ _)); (first | (k_unfold; (try dsimp only)) | (k_end; wrow_close) | ((fail_if_success (fail_if_success (with_reducible show wpAny _ _ (eval (PySem.Expr.Name _ _) _) _ _ _))); (k_here; k_dflt (refine' nameX_L ?F9z ?v9z ?_ ?a9z ?b9z ?c9z; (case F9z => k_asm); (case v9z => with_unfolding_all assumption); (case a9z => exact rfl); (case b9z => exact rfl); (case c9z => decide))); try dsimp only) | (walk1; try dsimp only) | (dsimp only; walk1; try dsimp only)))
    refine join_next (fun s' => ∃ tk3, s' = { s with heap := h2, toks := tk3 }) ?_ (fun s' H => ?_)
    · repeat' (first | (k_unfold; (try dsimp only)) | (k_end; wrow_close) | ((fail_if_success (fail_if_success (with_reducible show wpAny _ _ (eval (PySem.Expr.Name _ _) _) _ _ _))); (k_here; k_dflt (refine' nameX_L ?F9z ?v9z ?_ ?a9z ?b9z ?c9z; (case F9z => k_asm); (case v9z => with_unfolding_all assumption); (case a9z => exact rfl); (case b9z => exact rfl); (case c9z => decide))); try dsimp only) | (walk1; try dsimp only) | (dsimp only; walk1; try dsimp only))
      all_goals first | exact .inl ⟨rfl, _, rfl⟩ | refine .inr ⟨(fun e => nomatch e), ?_⟩
      repeat' (first | (k_unfold; (try dsimp only)) | (k_end; wrow_close) | ((fail_if_success (fail_if_success (with_reducible show wpAny _ _ (eval (PySem.Expr.Name _ _) _) _ _ _))); (k_here; k_dflt (refine' nameX_L ?F9z ?v9z ?_ ?a9z ?b9z ?c9z; (case F9z => k_asm); (case v9z => with_unfolding_all assumption); (case a9z => exact rfl); (case b9z => exact rfl); (case c9z => decide))); try dsimp only) | (walk1; try dsimp only) | (dsimp only; walk1; try dsimp only))
      all_goals refine hret _ _ _ _ (by assumption) (by assumption) (ext_of kG' (by assumption)) ⟨_, _, _, _, _, _, _, rfl, by omega, by omega, Int.fdiv_nonneg ?_ (by omega), rfl, (fmod_rng _ (by omega)).1, (fmod_rng _ (by omega)).2⟩
      all_goals omega
    · obtain ⟨tk3, rfl⟩ := H
      dsimp only
      repeat' (first | (k_unfold; (try dsimp only)) | (k_end; wrow_close) | ((fail_if_success (fail_if_success (with_reducible show wpAny _ _ (eval (PySem.Expr.Name _ _) _) _ _ _))); (k_here; k_dflt (refine' nameX_L ?F9z ?v9z ?_ ?a9z ?b9z ?c9z; (case F9z => k_asm); (case v9z => with_unfolding_all assumption); (case a9z => exact rfl); (case b9z => exact rfl); (case c9z => decide))); try dsimp only) | (walk1; try dsimp only) | (dsimp only; walk1; try dsimp only))
      all_goals first
        | exact pow_bound h0 h1 (by decide)
        | exact hret _ _ _ _ (by assumption) (by assumption) (ext_of kG' (by assumption)) ⟨_, _, _, _, _, _, _, rfl, by omega, by omega, by omega, rfl, (fmod_rng _ (by omega)).1, (fmod_rng _ (by omega)).2⟩
        | skip
end
end
section
inductive PenSt (pa la : Nat) (b : Int) (P : List (Addr × Obj)) : Prop
  | mk (sp st : Int) (t1 t2 : Tok) (ep ep2 : Nat) (vs : List Value) (ns : List Int) : P = [(pa, listOf #[.ref la, .int sp t1, .int st t2] ep), (la, listOf vs.toArray ep2)] → pa ≠ la → IntsAre vs ns → ns.length ≤ 24 → 0 ≤ sp → sp ≤ b → 0 ≤ st → PenSt pa la b P
noncomputable def Hi (pa la : Nat) (NL : List (Addr × Obj)) : Prop := ∀ p ∈ NL, @LT.lt Nat _ pa p.1 ∧ @LT.lt Nat _ la p.1
inductive PostP (pa la : Nat) (b many : Int) (NL N2 : List (Addr × Obj)) (r : Value) : Prop
  | mk (P' : List (Addr × Obj)) (d : Int) (t' : Tok) : N2 = P' ++ NL → PenSt pa la b P' → r = .int d t' → 0 ≤ d → d < many → PostP pa la b many NL N2 r
inductive PostF (pa la : Nat) (b : Int) (NL N2 : List (Addr × Obj)) (r : Value) : Prop
  | mk (P' tl : List (Addr × Obj)) (d : Dat) : N2 = tl ++ (P' ++ NL) → PenSt pa la b P' → Above (P' ++ NL) tl → LeafIn tl r d → PostF pa la b NL N2 r
theorem PenSt.le {pa la : Nat} {b b' : Int} {P : List (Addr × Obj)} (h : PenSt pa la b P) (hb : b ≤ b') : PenSt pa la b' P := by
  obtain ⟨sp, st, t1, t2, ep, ep2, vs, ns, e, h1, h2, h3, h4, h5, h6⟩ := h
  exact ⟨sp, st, t1, t2, ep, ep2, vs, ns, e, h1, h2, h3, h4, by omega, h6⟩
theorem spec_frame {w : World} {p : Program} {loose : List Str} {mean : ExcName → Option Value} {mg mb : Str → Option Value} {f : Addr} {vs : List Value} {dn un : Nat} {P NL : List (Addr × Obj)} {Post : List (Addr × Obj) → Value → Prop} (h : Spec w p loose mean mg mb f vs dn un P Post) (hd : ∀ p ∈ NL, p.1 ∉ P.map (·.1)) :
    Spec w p loose mean mg mb f vs dn un (P ++ NL) (fun N2 r => ∃ P', N2 = P' ++ NL ∧ Post P' r) :=
  fun dp u gd A₀ base h₀ env outer L m s Q E B F X T hf hk hd' hu N ret => h dp u gd A₀ base h₀ env outer L m s Q E B F X T hf hk hd' hu (news_sub N fun p hp => List.mem_append.mpr (.inl hp))
    fun r h' tk' NL' F' N' x' post => ret r h' tk' (NL' ++ NL) F'
      (fun p hp => (List.mem_append.mp hp).elim (N' p) fun hp => news_ext N x' (n2 := NL) (fun q hq => ⟨List.mem_append.mpr (.inr hq), hd q hq⟩) p hp)
      (fun b o e hn => x' b o e fun hb => hn (by rw [List.map_append]; exact List.mem_append.mpr (.inl hb))) ⟨NL', rfl, post⟩
theorem draw_ok {w : World} {p : Program} {loose : List Str} {mean : ExcName → Option Value} {mg mb : Str → Option Value} {pa la : Nat} {P NL : List (Addr × Obj)} {many b : Int} {t3 : Tok} (hp : PenSt pa la b P) (hb : b < 100000) (hN : Hi pa la NL) (h3 : 2 ≤ many) (h4 : many < 10) :
    Spec w p loose mean mg mb 369 [.ref pa, .int many t3] 3 50 (P ++ NL) (PostP pa la (b + 1) many NL) := by
  obtain ⟨sp, st, t1, t2, ep, ep2, vs, ns, rfl, h1, h2, h3', h4', h5, h6⟩ := hp
  refine spec_mono (spec_frame (draw_spec h1 h2 h4' (by omega) h6 h3 h4 h3') ?_) ?_
  · intro p hp hm
    have := hN p hp
    rcases List.mem_cons.mp hm with e | hm
    · rw [e] at this; exact Nat.lt_irrefl _ this.1
    · rw [List.mem_singleton.mp hm] at this; exact Nat.lt_irrefl _ this.2
  · rintro N2 r ⟨P', rfl, sp', st', t1', t2', ep', d, t', rfl, a, b', c, rfl, e, f⟩
    exact ⟨_, d, t', rfl, ⟨sp', st', t1', t2', ep', ep2, vs, ns, rfl, h1, h2, h3', a, by omega, c⟩, rfl, e, f⟩
theorem odd_fmod (d : Int) : Int.fmod (2 * d - 3) 10 ≠ 0 := by
  rw [Int.fmod_eq_emod_of_nonneg _ (by decide)]; omega
section
variable {prog : Program} {w : World} {A : Around} {E : Value → Shared → Prop} {s : Shared} {h₀ : Heap} {L : Addr} {nw : List (Addr × Obj)} {Q : Value → Shared → Prop}
theorem list_pick {value slice : Expr} {a : Addr} {xs : List Value} {k : Nat} {i : Int} {u : Tok} (N : News h₀ L s.heap nw) (hm : (a, listOf xs.toArray k) ∈ nw) (h0 : 0 ≤ i) (h1 : i < xs.length) (hz : xs.length < 1000) (h : ∀ x, x ∈ xs → Q x s)
    (hs : subscripted slice false (.ref a) (.int i u) = operate [.ref a, .int i u] (getItem (.ref a) (.int i u)) := by with_unfolding_all rfl) :
    wpAny (model prog w) A (subscriptTail value slice (.ref a) (.int i u)) Q E s := by
  have hlt : i.toNat < xs.length := by omega
  have hl : s.heap.IsList a xs.toArray := ⟨_, (N _ hm).1, rfl, k, rfl⟩
  exact tail_any hl.typeIs slot_list_getitem.lookup (wpAny_getItem_list (x := xs[i.toNat]) hl h0 (by omega) (by simp [hlt]) (h _ (List.getElem_mem hlt))) hs
end
theorem leaf_sub0 {h₀ h : Heap} {L : Addr} {a b : Addr × Obj} {R : List (Addr × Obj)} (N : News h₀ L h (a :: b :: R)) : News h₀ L h ([] ++ R) := fun p hp => N p (.tail _ (.tail _ hp))
theorem leaf_sub1 {h₀ h : Heap} {L : Addr} {a b c : Addr × Obj} {R : List (Addr × Obj)} (N : News h₀ L h (a :: b :: c :: R)) : News h₀ L h ([a, b] ++ R) := fun p hp => by
  rcases List.mem_cons.mp hp with rfl | hp
  · exact N _ (.head _)
  · rcases List.mem_cons.mp hp with rfl | hp
    · exact N _ (.tail _ (.head _))
    · exact N _ (.tail _ (.tail _ (.tail _ hp)))
theorem leaf_sub2 {h₀ h : Heap} {L : Addr} {a b c d : Addr × Obj} {R : List (Addr × Obj)} (N : News h₀ L h (a :: b :: c :: d :: R)) : News h₀ L h ([a, b] ++ R) := fun p hp => by
  rcases List.mem_cons.mp hp with rfl | hp
  · exact N _ (.head _)
  · rcases List.mem_cons.mp hp with rfl | hp
    · exact N _ (.tail _ (.head _))
    · exact N _ (.tail _ (.tail _ (.tail _ (.tail _ hp))))
set_option maxRecDepth 100000 in
set_option maxHeartbeats 2000000 in
theorem law_leaf {w : World} {p : Program} {loose : List Str} {mean : ExcName → Option Value} {mg mb : Str → Option Value} {pa la : Nat} {P NL : List (Addr × Obj)} {b : Int} (hP : PenSt pa la b P) (hb : b < 90000) (hHi : Hi pa la NL) :
    Spec w p loose mean mg mb 376 [.ref pa] 5 90 (P ++ NL) (PostF pa la (b + 2) NL) := by
  unfold Spec
  intro dp u gd A₀ base h₀ env outer L m s Q E B F X Tp hf hk hd hu N hret
  refine wpAny_call ?_
  refine' code_defG B F X N Tp rfl hf hk ?k6 ?k7 (asm2 hd) ?k9 ?kB ?_ ?c2 ?c3 ?c4 ?c5
  case k6 => k_is
  case k7 => k_is
  case k9 => exact BindsTo.of_eq rfl
  case c5 => decide
  case kB => exact locs rfl
  case c2 => exact rfl
  case c3 => exact rfl
  case c4 => exact rfl
  intro g' L' h' FG' F' N' B' X' T' kG'
  (try dsimp only)
  (try k_fold)
  repeat' (first | (k_unfold; (try dsimp only)) | (k_end; wrow_close) | ((fail_if_success (fail_if_success (with_reducible show wpAny _ _ (call (Value.ref _) _) _ _ _))); (k_here; k_dflt ((rename PenSt _ _ _ _ => hPo); (refine' spec_useG (draw_ok hPo ?hb9z hHi ?g39z ?g49z) ?B9z ?F9z ?X9z ?T9z rfl rfl ?hd9z ?hu9z ?N9z ?_; (case B9z => k_asm); (case F9z => k_asm); (case X9z => k_asm); (case T9z => k_asm); (case hd9z => k_room); (case hu9z => k_units); (case N9z => k_asm); (case hb9z => omega); (case g39z => decide); (case g49z => decide)); (intro GG hGG r1 h1 tk1 NL1 F1 N1 x1 P1; obtain ⟨P', d1, t1, e1, hP, e2, hd1, hd2⟩ := P1; subst e1 e2; refine hGG _ _ _ _ ?_; clear hGG GG; clear x1; have hodd := odd_fmod d1; (try k_sweep)))); try dsimp only) | ((fail_if_success (fail_if_success (with_reducible show wpAny _ _ (eval (PySem.Expr.Name _ _) _) _ _ _))); (k_here; k_dflt (refine' nameX_L ?F9z ?v9z ?_ ?a9z ?b9z ?c9z; (case F9z => k_asm); (case v9z => with_unfolding_all assumption); (case a9z => exact rfl); (case b9z => exact rfl); (case c9z => decide))); try dsimp only) | ((fail_if_success (fail_if_success (with_reducible show wpAny _ _ (subscriptTail _ _ _ _) _ _ _))); (k_here; (fail_if_success (fail_if_success (with_reducible show wpAny _ _ (subscriptTail _ _ (Value.ref _) (Value.int _ _)) _ _ _))); k_dflt (refine' list_pick ?N9z ?hm9z ?h09z ?h19z ?hz9z ?_; (case N9z => k_asm); (case hm9z => k_mem); (case h09z => assumption); (case h19z => (simp only [List.length_cons, List.length_nil]; omega)); (case hz9z => (simp only [List.length_cons, List.length_nil]; omega)); intro x9 hx9)); try dsimp only) | ((fail_if_success (fail_if_success (with_reducible show wpAny _ _ (exec (Stmt.While _ _ _ _) _) _ _ _))); (k_here; k_dflt (refine' while_no ?_; intro _)); try dsimp only) | (walk1; try dsimp only) | (dsimp only; walk1; try dsimp only))
  all_goals (rename News h₀ L _ _ => kN9)
  all_goals (try (rename ((_ : Value) ∈ (_ : List Value)) => hx9; simp only [List.mem_cons, List.not_mem_nil, or_false] at hx9; rcases hx9 with rfl | rfl | rfl | rfl))
  all_goals first
    | exact hret _ _ _ _ (by assumption) (leaf_sub0 kN9) (ext_of kG' (by assumption)) ⟨P', [], _, rfl, hP.le (by omega), above_nil, .null⟩
    | exact hret _ _ _ _ (by assumption) (leaf_sub0 kN9) (ext_of kG' (by assumption)) ⟨P', [], _, rfl, hP.le (by omega), above_nil, .truth _⟩
    | exact hret _ _ _ _ (by assumption) (leaf_sub0 kN9) (ext_of kG' (by assumption)) ⟨P', [], _, rfl, hP.le (by omega), above_nil, .int _ _⟩
    | exact hret _ _ _ _ (by assumption) (leaf_sub1 kN9) (ext_of kG' (by assumption)) ⟨P', [_, _], _, rfl, hP.le (by omega), above_two (ktn_ltOf (And.right (by assumption))) (by assumption), .real _ _ (.head _) (.tail _ (.head _)) hodd⟩
    | exact hret _ _ _ _ (by assumption) (leaf_sub1 kN9) (ext_of kG' (by assumption)) ⟨P', [_, _], _, rfl, hP.le (by omega), above_two (ktn_ltOf (And.right (by assumption))) (by assumption), .ref _ _ (.head _) (.tail _ (.head _))⟩
    | exact hret _ _ _ _ (by assumption) (leaf_sub2 kN9) (ext_of kG' (by assumption)) ⟨P', [_, _], _, rfl, hP.le (by omega), above_two (ktn_ltOf (And.right (And.right (by assumption)))) (by assumption), .name _ (.head _) (.tail _ (.head _))⟩
    | exact hret _ _ _ _ (by assumption) (leaf_sub2 kN9) (ext_of kG' (by assumption)) ⟨P', [_, _], _, rfl, hP.le (by omega), above_two (ktn_ltOf (And.right (And.right (by assumption)))) (by assumption), .string _ _ (.head _) (.tail _ (.head _)) (by decide)⟩
    | skip
end
section
section
variable {prog : Program} {w : World} {A : Around} {E : Value → Shared → Prop} {s : Shared} {env : Env} {h₀ : Heap} {L : Addr} {m : Str → Option Value}
  {target elt iter : Expr} {ifs : List Expr} {scope : Scope} {cl : List (Str × Addr)} {pos : Pos} {Q : Value → Shared → Prop}
  {I : Addr} {fp wr : List Addr} {n : Nat} {P Md : Nat → Value → Heap → Prop} {St : Nat → Heap → Prop} {nw₀ : List (Addr × Obj)}


theorem comp_range {x : Str} {px : Pos} {ar : Addr} {k : Int} {t1 t2 t3 : Tok} (J : Nat → List Value → List (Addr × Obj) → Prop) (hh : A.handled = none) (hr : IsRange s.heap ar 0 k 1 t1 t2 t3) (hk0 : 0 ≤ k) (hk1 : k < 100) (F : Fr h₀ L s.heap m) (N : News h₀ L s.heap nw₀) (h0 : J 0 [] nw₀)
    (hcell : ∀ y ∈ scope.names, y.2 ≠ .cell) (hkind : scope.kind = .function) (hx : scope.names.lookup x = some .local)
    (step : ∀ (C D I : Addr) oC own i v ys kD nw h tk mC (E' : Value → Shared → Prop), i < k.toNat → mC x = some v → J i ys nw → Off nw [C, D, I] → @LE.le Nat _ s.heap.objs.size I → @LT.lt Nat _ I D → @LT.lt Nat _ D C → (∀ p ∈ own, p.1 = I) → Fr h₀ L h m → h.Ns C mC →
      News h₀ L h ((C, oC) :: (D, listOf ys.toArray kD) :: (own ++ nw)) →
      wpAny (model prog w) A (forIn ifs true fun c r => if r = true then do let ok ← isTrue c (compEnvC scope cl C env) (eval c (compEnvC scope cl C env)); pure (ForInStep.yield ok) else pure (ForInStep.yield r))
        (fun ok s₃ => if ok = true then wpAny (model prog w) A (eval elt (compEnvC scope cl C env)) (fun y s₄ => CEnd h₀ L m [C, D, I] ((C, oC) :: (D, listOf ys.toArray kD) :: own) (J (i + 1) (ys ++ [y])) { s with heap := h, toks := tk } s₄) E' s₃
          else CEnd h₀ L m [C, D, I] ((C, oC) :: (D, listOf ys.toArray kD) :: own) (J (i + 1) ys) { s with heap := h, toks := tk } s₃) E' { s with heap := h, toks := tk })
    (done : ∀ (D : Addr) ys kD nw h tk, (∀ p ∈ nw₀, @LT.lt Nat _ p.1 D) → Off nw [D] → J k.toNat ys nw → Fr h₀ L h m → News h₀ L h ((D, listOf ys.toArray kD) :: nw) → Q (.ref D) { s with heap := h, toks := tk }) :
    wpAny (model prog w) A (pyIter (.ref ar)) (fun it s₂ => CompRun prog w A E env (.ListComp elt [⟨.Name x px, iter, ifs, 0⟩] scope pos) scope cl Q it s₂) E s := by
  have hsz : Builtin.Range.rangeSize 0 k 1 = k.toNat := by
    unfold Builtin.Range.rangeSize
    simp only [show (1 : Int) > 0 from by decide, if_true]
    by_cases h : 0 < k
    · rw [if_pos h]; omega
    · rw [if_neg h]; omega
  refine wpAny_pyIter_range hr ?_ ?_
  · have hall : ∀ n : Fin 100, Builtin.Range.small 0 ((n : Nat) : Int) 1 = true := by decide +kernel
    have := hall ⟨k.toNat, by omega⟩
    rwa [show (((⟨k.toNat, by omega⟩ : Fin 100) : Nat) : Int) = k from by simp; omega] at this
  have hsize : (s.heap.push { cls := .type "range_iterator", data := .fields #[rawInt 0, rawInt (Builtin.Range.rangeSize 0 k 1), rawInt 1] }).objs.size = s.heap.objs.size + 1 := Heap.size_push _ _
  have W := Walks.range (prog := prog) (w := w) (A := A) hh s.heap.objs.size 0 1 k.toNat
  refine comp_turnsO (s := { s with heap := s.heap.push { cls := .type "range_iterator", data := .fields #[rawInt 0, rawInt (Builtin.Range.rangeSize 0 k 1), rawInt 1] } }) (nw₀ := nw₀) J (fun i v mC => mC x = some v)
    (KTurns.ofWalks (target := .Name x px) W fun i v s Q E st h => wpAny_pure h) (fun s Q E st hq => wpAny_pyIter_rangeiter st hq) ?_ ?_ ?_ ?_
    ?_ (F.push _) (fun p hp => ⟨Heap.get?_push_of_some _ (N p hp).1, (N p hp).2⟩) h0 (by rw [sizeLine_eq]; omega) hcell hkind ?_ ?_ ?_
  · intro hm'
    exact absurd F.ns.lt ((List.mem_singleton.mp hm') ▸ Nat.lt_irrefl _)
  · intro b hb
    rw [List.mem_singleton.mp hb]
    exact next_is_new F
  · intro b hb
    show b < (s.heap.push _).objs.size
    rw [hsize, List.mem_singleton.mp hb]
    exact Nat.lt_succ_self _
  · intro p hp hI
    exact absurd (Heap.lt_size (N p hp).1) ((List.mem_singleton.mp hI) ▸ Nat.lt_irrefl _)
  · show IsRangeIter _ _ _ _ _
    unfold IsRangeIter
    rw [Heap.get?_push_size _ rfl, hsz]
    simp
  · intro C i v s₁ mC Q' E' hP hn hC hq
    refine wpAny_assign_Name (wpAny_storeName_local (lookup_relabel_local hx) hn (fun h₂ hn₂ hs₂ => hq h₂ _ _ hs₂ hn₂ (by simp)) (by simp [compEnvC, relabel, hkind]))
  · intro C D oC own i v ys kD nw h tk mC E' hi hG hJ hoff hwD hD hC hown F' hn' N'
    rw [show (Shared.heap _).objs.size = s.heap.objs.size + 1 from hsize] at hD
    exact step C D _ oC own i v ys kD nw h tk mC E' hi hG hJ hoff (Nat.le_refl _) (hwD _ (.head _)) hC (fun p hp => List.mem_singleton.mp (hown p hp)) F' hn' N'
  · intro D ys kD nw h tk hD hoff hJ F' N'
    rw [show (Shared.heap _).objs.size = s.heap.objs.size + 1 from hsize] at hD
    exact done D ys kD nw h tk (fun p hp => Nat.lt_of_lt_of_le (Heap.lt_size (N p hp).1) (Nat.le_trans (Nat.le_succ _) hD)) hoff hJ F' N'
theorem comp_listO {x : Str} {px : Pos} {ax : Addr} {vs : List Value} {k : Nat} (J : Nat → List Value → List (Addr × Obj) → Prop) (hh : A.handled = none) (F : Fr h₀ L s.heap m) (N : News h₀ L s.heap nw₀) (hm : (ax, listOf vs.toArray k) ∈ nw₀) (h0 : J 0 [] nw₀) (hsz : vs.length ≤ sizeLine)
    (hcell : ∀ y ∈ scope.names, y.2 ≠ .cell) (hkind : scope.kind = .function) (hx : scope.names.lookup x = some .local)
    (step : ∀ (C D I : Addr) oC own i v ys kD nw h tk mC (E' : Value → Shared → Prop), vs[i]? = some v → mC x = some v → J i ys nw → Off nw [C, D, I] → @LE.le Nat _ s.heap.objs.size I → @LT.lt Nat _ I D → @LT.lt Nat _ D C → (∀ p ∈ own, p.1 = I ∨ p.1 = ax) → Fr h₀ L h m → h.Ns C mC →
      News h₀ L h ((C, oC) :: (D, listOf ys.toArray kD) :: (own ++ nw)) →
      wpAny (model prog w) A (forIn ifs true fun c r => if r = true then do let ok ← isTrue c (compEnvC scope cl C env) (eval c (compEnvC scope cl C env)); pure (ForInStep.yield ok) else pure (ForInStep.yield r))
        (fun ok s₃ => if ok = true then wpAny (model prog w) A (eval elt (compEnvC scope cl C env)) (fun y s₄ => CEnd h₀ L m [C, D, I] ((C, oC) :: (D, listOf ys.toArray kD) :: own) (J (i + 1) (ys ++ [y])) { s with heap := h, toks := tk } s₄) E' s₃
          else CEnd h₀ L m [C, D, I] ((C, oC) :: (D, listOf ys.toArray kD) :: own) (J (i + 1) ys) { s with heap := h, toks := tk } s₃) E' { s with heap := h, toks := tk })
    (done : ∀ (D : Addr) ys kD nw h tk, (∀ p ∈ nw₀, @LT.lt Nat _ p.1 D) → Off nw [D] → J vs.length ys nw → Fr h₀ L h m → News h₀ L h ((D, listOf ys.toArray kD) :: nw) → Q (.ref D) { s with heap := h, toks := tk }) :
    wpAny (model prog w) A (pyIter (.ref ax)) (fun it s₂ => CompRun prog w A E env (.ListComp elt [⟨.Name x px, iter, ifs, 0⟩] scope pos) scope cl Q it s₂) E s := by
  have hls : s.heap.IsList ax vs.toArray := ⟨_, (N _ hm).1, rfl, k, rfl⟩
  have hlt : ax < s.heap.objs.size := Heap.lt_size (N _ hm).1
  refine wpAny_pyIter_list hls ?_
  have W := Walks.list (prog := prog) (w := w) hh s.heap.objs.size ax (Nat.ne_of_lt hlt) vs.toArray
  have hlen : vs.toArray.size = vs.length := by simp
  rw [hlen] at W
  have hsize : (s.heap.push { cls := .type "list_iterator", data := .fields #[.ref ax, .int 0 0] }).objs.size = s.heap.objs.size + 1 := Heap.size_push _ _
  refine comp_turnsO (s := { s with heap := s.heap.push { cls := .type "list_iterator", data := .fields #[.ref ax, .int 0 0] } }) (nw₀ := nw₀) J (fun i v mC => vs[i]? = some v ∧ mC x = some v)
    (KTurns.ofWalks (target := .Name x px) W fun i v s Q E st h => wpAny_pure h) (fun s Q E st hq => wpAny_pyIter_listiter st.1 hq) ?_ ?_ ?_ ?_
    ⟨⟨_, Heap.get?_push_size _ rfl, rfl, rfl⟩, hls.at fun o e => Heap.get?_push_of_some _ e⟩ (F.push _) (fun p hp => ⟨Heap.get?_push_of_some _ (N p hp).1, (N p hp).2⟩) h0 hsz hcell hkind ?_ ?_ ?_
  · intro hm'
    rcases List.mem_cons.mp hm' with e | hm'
    · exact absurd F.ns.lt (e ▸ Nat.lt_irrefl _)
    · exact (N _ hm).2.1 (List.mem_singleton.mp hm').symm
  · intro b hb
    rw [List.mem_singleton.mp hb]
    exact next_is_new F
  · intro b hb
    show b < (s.heap.push _).objs.size
    rw [hsize]
    rcases List.mem_cons.mp hb with e | hb
    · rw [e]; exact Nat.lt_succ_self _
    · rw [List.mem_singleton.mp hb]; exact Nat.lt_succ_of_lt hlt
  · intro p hp hI
    exact absurd (Heap.lt_size (N p hp).1) ((List.mem_singleton.mp hI) ▸ Nat.lt_irrefl _)
  · intro C i v s₁ mC Q' E' hP hn hC hq
    refine wpAny_assign_Name (wpAny_storeName_local (lookup_relabel_local hx) hn (fun h₂ hn₂ hs₂ => hq h₂ _ _ hs₂ hn₂ ⟨by simpa using hP, by simp⟩) (by simp [compEnvC, relabel, hkind]))
  · intro C D oC own i v ys kD nw h tk mC E' hi hG hJ hoff hwD hD hC hown F' hn' N'
    rw [show (Shared.heap _).objs.size = s.heap.objs.size + 1 from hsize] at hD
    exact step C D _ oC own i v ys kD nw h tk mC E' hG.1 hG.2 hJ hoff (Nat.le_refl _) (hwD _ (.head _)) hC (fun p hp => by have := hown p hp; simpa using this) F' hn' N'
  · intro D ys kD nw h tk hD hoff hJ F' N'
    rw [show (Shared.heap _).objs.size = s.heap.objs.size + 1 from hsize] at hD
    exact done D ys kD nw h tk (fun p hp => Nat.lt_of_lt_of_le (Heap.lt_size (N p hp).1) (Nat.le_trans (Nat.le_succ _) hD)) hoff hJ F' N'

end
end
section
noncomputable def KK : Nat → Int
  | 0 => 2
  | k + 1 => 5 + 3 * KK k
section
variable {prog : Program} {w : World} {A : Around} {E : Value → Shared → Prop} {s : Shared} {env : Env} {scope : Scope} {cl : List (Str × Addr)} {C : Addr} {h₀ : Heap} {L : Addr} {m : Str → Option Value} {nw : List (Addr × Obj)} {Q : Value → Shared → Prop}
theorem comp_thing {K : Frag} {p : Program} {loose : List Str} {mg mb : Str → Option Value} {fa : Addr} {f xp xd : Str} {p1 p2 p3 p4 p5 cpos : Pos} {k0 : Nat} {c1 c2 : Addr} {o1 o2 : Obj} {v : Value} {k : Int} {t : Tok} (F : Fr h₀ L s.heap m) (X : K.In h₀) (T : TopRead p loose mg mb h₀) (he : nsIn K mainGlobals f = some (some (.ref fa))) (hkp : keepIn K (.ref fa) = true)
    (hg : env.globals = mainGlobals) (N : News h₀ L s.heap nw) (hc1 : cl.lookup xp = some c1) (hm1 : (c1, o1) ∈ nw) (hd1 : o1.data = .cell (some v)) (hc2 : cl.lookup xd = some c2) (hm2 : (c2, o2) ∈ nw) (hd2 : o2.data = .cell (some (.int k t)))
    (h : ∀ t' tk, wpAny (model prog w) A (call (.ref fa) [v, .int (k - 1) t']) Q E { s with toks := tk })
    (hk : (compEnvC scope cl C env).scope.kind = .function) (hf : (compEnvC scope cl C env).kindOf f = some .globalImplicit) (hl1 : (compEnvC scope cl C env).kindOf xp = some .cell) (hl2 : (compEnvC scope cl C env).kindOf xd = some .cell)
    (hdf : (f == ("__debug__" : Str)) = false := by decide) (hb1 : (xp == ("__debug__" : Str)) = false := by decide) (hb2 : (xd == ("__debug__" : Str)) = false := by decide) :
    wpAny (model prog w) A (eval (.Call (.Name f p1) [.Name xp p2, .BinOp (.Name xd p3) .Sub (.Constant (.int 1) k0 p4) p5] [] cpos) (compEnvC scope cl C env)) Q E s := by
  refine Call_Name2 ?_ rfl
  refine nameG_K F X T he ?_ hg hk hf hdf
  refine callWith_of (P := K.In) rfl (keeps_K hkp) (evalArgs_plain ?_)
  refine spliced_cons (name_cellC N hc1 hm1 hd1 ?_ hk hl1 hb1)
  refine spliced_cons (wpAny_BinOp (name_cellC N hc2 hm2 hd2 ?_ hk hl2 hb2))
  refine wpAny_Constant_int (sub_int ?_)
  exact spliced_nil ⟨X.keeps F.keep, h _ _⟩
end
inductive PostT (w : World) (pa la : Nat) (b : Int) (k : Nat) (NL N2 : List (Addr × Obj)) (r : Value) : Prop
  | mk (P' tl : List (Addr × Obj)) (d : Dat) : N2 = tl ++ (P' ++ NL) → PenSt pa la b P' → Above (P' ++ NL) tl → ThIn w tl k r d → PostT w pa la b k NL N2 r
noncomputable def ThingOk (w : World) (p : Program) (loose : List Str) (mean : ExcName → Option Value) (mg mb : Str → Option Value) (k : Nat) : Prop :=
  ∀ (pa la : Nat) (P NL : List (Addr × Obj)) (b : Int) (t : Tok), PenSt pa la b P → Hi pa la NL → b + KK k ≤ 50000 → Spec w p loose mean mg mb 381 [.ref pa, .int k t] (k + 6) (10 * k + 120) (P ++ NL) (PostT w pa la (b + KK k) (k + 2) NL)
inductive BkSt (w : World) (pa la : Nat) (k : Nat) (b : Int) (Y : List (Addr × Obj)) (i : Nat) (R : List (Addr × Obj) → Prop) (nw : List (Addr × Obj)) : Prop
  | mk (P' tl : List (Addr × Obj)) : nw = P' ++ (tl ++ Y) → PenSt pa la (b + i * KK k) P' → Above (P' ++ Y) tl → R tl → BkSt w pa la k b Y i R nw
theorem pen_mem {pa la : Nat} {b : Int} {P : List (Addr × Obj)} (h : PenSt pa la b P) : ∀ p ∈ P, p.1 = pa ∨ p.1 = la := by
  obtain ⟨sp, st, t1, t2, ep, ep2, vs, ns, rfl, _⟩ := h
  intro p hp
  rcases List.mem_cons.mp hp with rfl | hp
  · exact .inl rfl
  · rw [List.mem_singleton.mp hp]; exact .inr rfl
theorem pen_has {pa la : Nat} {b : Int} {P : List (Addr × Obj)} (h : PenSt pa la b P) : (∃ o, (pa, o) ∈ P) ∧ ∃ o, (la, o) ∈ P := by
  obtain ⟨sp, st, t1, t2, ep, ep2, vs, ns, rfl, _⟩ := h
  exact ⟨⟨_, .head _⟩, _, .tail _ (.head _)⟩
theorem above_pen {pa la : Nat} {b b' : Int} {P P' NL tl : List (Addr × Obj)} (h : PenSt pa la b P) (h' : PenSt pa la b' P') (ab : Above (P ++ NL) tl) : Above (P' ++ NL) tl := fun q hq p hp => by
  rcases List.mem_append.mp hq with hq | hq
  · obtain ⟨⟨o1, m1⟩, o2, m2⟩ := pen_has h
    rcases pen_mem h' q hq with e | e
    · rw [e]; exact ab _ (List.mem_append.mpr (.inl m1)) p hp
    · rw [e]; exact ab _ (List.mem_append.mpr (.inl m2)) p hp
  · exact ab q (List.mem_append.mpr (.inr hq)) p hp
theorem hi_above {pa la : Nat} {b : Int} {P NL tl : List (Addr × Obj)} (h : PenSt pa la b P) (ab : Above (P ++ NL) tl) : Hi pa la tl := fun p hp => by
  obtain ⟨⟨o1, m1⟩, o2, m2⟩ := pen_has h
  exact ⟨ab _ (List.mem_append.mpr (.inl m1)) p hp, ab _ (List.mem_append.mpr (.inl m2)) p hp⟩
theorem Hi.app {pa la : Nat} {A B : List (Addr × Obj)} (h : Hi pa la A) (h' : Hi pa la B) : Hi pa la (A ++ B) := fun p hp => (List.mem_append.mp hp).elim (h p) (h' p)
theorem Hi.cons {pa la : Nat} {B : List (Addr × Obj)} {x : Addr × Obj} (h : @LT.lt Nat _ pa x.1 ∧ @LT.lt Nat _ la x.1) (h' : Hi pa la B) : Hi pa la (x :: B) := fun p hp => by
  rcases List.mem_cons.mp hp with rfl | hp
  · exact h
  · exact h' p hp
end
section
theorem KK_pos : ∀ k, 0 ≤ KK k
  | 0 => by decide
  | k + 1 => by have := KK_pos k; unfold KK; omega
theorem mul_le3 {i : Nat} {x : Int} (hi : i ≤ 3) (hx : 0 ≤ x) : (i : Int) * x ≤ 3 * x := Int.mul_le_mul_of_nonneg_right (by omega) hx
theorem mul_succ' (i : Nat) (x : Int) : ((i + 1 : Nat) : Int) * x = i * x + x := by rw [show ((i + 1 : Nat) : Int) = (i : Int) + 1 from by omega, Int.add_mul, Int.one_mul]
theorem thing_turn {pa la k : Nat} {b : Int} {i : Nat} {h₀ h' : Heap} {L C D I : Addr} {m : Str → Option Value} {oC oD : Obj} {own tl tl₂ Y P' P2 : List (Addr × Obj)} {Jn : List (Addr × Obj) → Prop} {s₁ : Shared} {tk : Nat}
    (F : Fr h₀ L h' m) (N : News h₀ L h' (tl₂ ++ (P2 ++ ((C, oC) :: (D, oD) :: (own ++ (tl ++ Y)))))) (hP' : PenSt pa la (b + i * KK k) P') (hP2 : PenSt pa la (b + i * KK k + KK k) P2) (ab₂ : Above (P2 ++ ((C, oC) :: (D, oD) :: (own ++ (tl ++ Y)))) tl₂) (ab : Above (P' ++ Y) tl)
    (hID : @LT.lt Nat _ I D) (off : Off (P' ++ (tl ++ Y)) [C, D, I])
    (J : ∀ _ : PenSt pa la (b + (i + 1 : Nat) * KK k) P2, Above (P2 ++ Y) (tl₂ ++ tl) → Above (P2 ++ Y) tl₂ → Jn (P2 ++ ((tl₂ ++ tl) ++ Y))) : CEnd h₀ L m [C, D, I] ((C, oC) :: (D, oD) :: own) Jn s₁ { s₁ with heap := h', toks := tk } := by
  have abP : Above (P2 ++ Y) tl := above_pen hP' hP2 ab
  have ab2 : Above (P2 ++ Y) tl₂ := fun q hq p hp => ab₂ q ((List.mem_append.mp hq).elim (fun hq => List.mem_append.mpr (.inl hq)) fun hq => List.mem_append.mpr (.inr (sub_big q (List.mem_append.mpr (.inr hq))))) p hp
  refine ⟨h', tk, P2 ++ ((tl₂ ++ tl) ++ Y), rfl, F, fun q hq => N q ?_, ?_, J (hP2.le (by rw [mul_succ']; omega)) ?_ ab2⟩
  · rcases List.mem_append.mp hq with hq | hq
    · refine List.mem_append.mpr (.inr (List.mem_append.mpr (.inr ?_)))
      rcases List.mem_cons.mp hq with rfl | hq
      · exact .head _
      · rcases List.mem_cons.mp hq with rfl | hq
        · exact .tail _ (.head _)
        · exact .tail _ (.tail _ (List.mem_append.mpr (.inl hq)))
    · rcases List.mem_append.mp hq with hq | hq
      · exact List.mem_append.mpr (.inr (List.mem_append.mpr (.inl hq)))
      · rcases List.mem_append.mp hq with hq | hq
        · rcases List.mem_append.mp hq with hq | hq
          · exact List.mem_append.mpr (.inl hq)
          · exact List.mem_append.mpr (.inr (List.mem_append.mpr (.inr (sub_big q (List.mem_append.mpr (.inl hq))))))
        · exact List.mem_append.mpr (.inr (List.mem_append.mpr (.inr (sub_big q (List.mem_append.mpr (.inr hq))))))
  · intro q hq hm
    rcases List.mem_append.mp hq with hq | hq
    · obtain ⟨⟨o3, m1⟩, o4, m2⟩ := pen_has hP'
      rcases pen_mem hP2 q hq with e | e
      · exact off _ (List.mem_append.mpr (.inl m1)) (by rw [← e]; exact hm)
      · exact off _ (List.mem_append.mpr (.inl m2)) (by rw [← e]; exact hm)
    · rcases List.mem_append.mp hq with hq | hq
      · rcases List.mem_append.mp hq with hq | hq
        · have h1 := ab₂ (C, oC) (List.mem_append.mpr (.inr (.head _))) q hq
          have h2 := ab₂ (D, oD) (List.mem_append.mpr (.inr (.tail _ (.head _)))) q hq
          dsimp only at h1 h2
          rcases List.mem_cons.mp hm with e | hm
          · rw [e] at h1; exact Nat.lt_irrefl _ h1
          · rcases List.mem_cons.mp hm with e | hm
            · rw [e] at h2; exact Nat.lt_irrefl _ h2
            · have e := List.mem_singleton.mp hm
              rw [e] at h2; exact Nat.lt_irrefl _ (Nat.lt_trans hID h2)
        · exact off q (List.mem_append.mpr (.inr (List.mem_append.mpr (.inl hq)))) hm
      · exact off q (List.mem_append.mpr (.inr (List.mem_append.mpr (.inr hq)))) hm
  · intro q hq p hp
    rcases List.mem_append.mp hp with hp | hp
    · exact ab2 q hq p hp
    · exact abP q hq p hp
set_option maxRecDepth 100000 in
set_option maxHeartbeats 2000000 in
theorem thing_rng {w : World} {p : Program} {loose : List Str} {mean : ExcName → Option Value} {mg mb : Str → Option Value} {k : Nat} (IH : ThingOk w p loose mean mg mb k) {dp u : Nat} {gd : Option (List Code)} {A₀ : Around} {base h₀ : Heap} {env : Env} {outer : List Env} {L : Addr} {m : Str → Option Value} {s : Shared} {Q E : Value → Shared → Prop}
    {pa la : Nat} {P Y : List (Addr × Obj)} {b d : Int} {c1 c2 ar : Addr} {o1 o2 : Obj} {t t1 t2 t3 : Tok} {cl : List (Str × Addr)} {p1 p2 p3 p4 p5 p6 p7 cpos : Pos} {iter : Expr}
    (B : Below A₀ base outer h₀) (F : Fr h₀ L s.heap m) (X : (hd.heap_39 w.params).In h₀) (T : Top p loose mean mg mb h₀) (hf : env.frame = some L) (hg : env.globals = mainGlobals) (hk : env.scope.kind = .function)
    (hk1 : env.kindOf (S "pen") = some .cell) (hk2 : env.kindOf (S "deep") = some .cell) (hd : dp + (k + 6) < recursionLimit) (hu : u + (10 * k + 120) < cLine)
    (hP : PenSt pa la b P) (hY : Hi pa la Y) (hb : b + 3 * KK k ≤ 50000) (N : News h₀ L s.heap (P ++ Y)) (hc1 : cl.lookup (S "pen") = some c1) (m1 : (c1, o1) ∈ Y) (e1 : o1.data = .cell (some (.ref pa))) (hc2 : cl.lookup (S "deep") = some c2) (m2 : (c2, o2) ∈ Y) (e2 : o2.data = .cell (some (.int ((k + 1 : Nat) : Int) t)))
    (hr : IsRange s.heap ar 0 d 1 t1 t2 t3) (h0 : 0 ≤ d) (h4 : d < 4)
    (done : ∀ (D : Addr) ys kD P' tl ds h tk, (∀ p ∈ P ++ Y, @LT.lt Nat _ p.1 D) → (∀ p ∈ tl, p.1 ≠ D) → Fr h₀ L h m → News h₀ L h ((D, listOf ys.toArray kD) :: (P' ++ (tl ++ Y))) → PenSt pa la (b + 3 * KK k) P' → Above (P' ++ Y) tl → All₂ (ThIn w tl (k + 2)) ys ds → ys.length ≤ 3 → Q (.ref D) { s with heap := h, toks := tk }) :
    wpAny (model PySem.Challenge.rw_og0176_01.row.prog w) (arnd dp u gd env outer) (pyIter (.ref ar))
      (fun it s₂ => CompRun PySem.Challenge.rw_og0176_01.row.prog w (arnd dp u gd env outer) E env (.ListComp (.Call (.Name (S "_law_thing") p1) [.Name (S "pen") p2, .BinOp (.Name (S "deep") p3) .Sub (.Constant (.int 1) 0 p4) p5] [] p6) [⟨.Name (S "spot") p7, iter, [], 0⟩]
        { kind := .function, names := [(S ".0", .local), (S "spot", .local), (S "_law_thing", .globalImplicit), (S "deep", .free), (S "pen", .free)], isGenerator := false, isCoroutine := false, more := [] } cpos)
        { kind := .function, names := [(S ".0", .local), (S "spot", .local), (S "_law_thing", .globalImplicit), (S "deep", .free), (S "pen", .free)], isGenerator := false, isCoroutine := false, more := [] } cl Q it s₂) E s := by
  have hK := KK_pos k
  have hpn := pen_has hP
  refine comp_range (h₀ := h₀) (L := L) (fun i ys nw => ∃ P' tl ds, nw = P' ++ (tl ++ Y) ∧ PenSt pa la (b + i * KK k) P' ∧ Above (P' ++ Y) tl ∧ All₂ (ThIn w tl (k + 2)) ys ds ∧ ys.length = i) rfl hr h0 (by omega) F N ⟨P, [], [], rfl, by simpa using hP, above_nil, .nil, rfl⟩ (by decide) rfl rfl ?_ ?_
  · (intro C D I oC own i v ys kD nw h tk mC E' hi hx hZZ1 hoff hsI hID hDC hown F' hn' N'; refine via fun GG hGG => ?_; obtain ⟨P', tl, ds, rfl, hP', ab, hys, hyl⟩ := hZZ1; refine hGG ?_; clear hGG GG)
    refine wpAny_tests_nil ?_
    rw [if_pos rfl]
    have hi3 : i + 1 ≤ 3 := by omega
    have hm3 := mul_le3 hi3 hK
    rw [mul_succ'] at hm3
    obtain ⟨⟨o3, mp1⟩, o4, mp2⟩ := hpn
    have hpa : @LT.lt Nat _ pa I := Nat.lt_of_lt_of_le (Heap.lt_size (N _ (List.mem_append.mpr (.inl mp1))).1) hsI
    have hla : @LT.lt Nat _ la I := Nat.lt_of_lt_of_le (Heap.lt_size (N _ (List.mem_append.mpr (.inl mp2))).1) hsI
    have hkk1 : (compEnvC { kind := .function, names := [(S ".0", .local), (S "spot", .local), (S "_law_thing", .globalImplicit), (S "deep", .free), (S "pen", .free)], isGenerator := false, isCoroutine := false, more := [] } cl C env).kindOf (S "pen") = some .cell := by
      unfold compEnvC relabel Env.kindOf
      simp only [List.map]
      rw [hk, show List.lookup (S "pen") env.scope.names = some .cell from hk1, show List.lookup (S "deep") env.scope.names = some .cell from hk2]
      rfl
    have hkk2 : (compEnvC { kind := .function, names := [(S ".0", .local), (S "spot", .local), (S "_law_thing", .globalImplicit), (S "deep", .free), (S "pen", .free)], isGenerator := false, isCoroutine := false, more := [] } cl C env).kindOf (S "deep") = some .cell := by
      unfold compEnvC relabel Env.kindOf
      simp only [List.map]
      rw [hk, show List.lookup (S "pen") env.scope.names = some .cell from hk1, show List.lookup (S "deep") env.scope.names = some .cell from hk2]
      rfl
    have hYm : ∀ q ∈ Y, q ∈ (C, oC) :: (D, listOf ys.toArray kD) :: (own ++ (P' ++ (tl ++ Y))) := fun q hq => sub_big q (List.mem_append.mpr (.inr (List.mem_append.mpr (.inr hq))))
    refine comp_thing F' X (topRead_of T) (fa := 381) (by k_is) (by k_is) hg N' hc1 (hYm _ m1) e1 hc2 (hYm _ m2) e2 ?_ rfl rfl hkk1 hkk2
    intro t' tk'
    rw [show (((k + 1 : Nat) : Int) - 1) = (k : Int) from by omega]
    have hHX : Hi pa la ((C, oC) :: (D, listOf ys.toArray kD) :: (own ++ (tl ++ Y))) :=
      .cons ⟨Nat.lt_trans hpa (Nat.lt_trans hID hDC), Nat.lt_trans hla (Nat.lt_trans hID hDC)⟩ (.cons ⟨Nat.lt_trans hpa hID, Nat.lt_trans hla hID⟩ (.app (fun q hq => by rw [hown q hq]; exact ⟨hpa, hla⟩) (.app (hi_above hP' ab) hY)))
    refine spec_use (IH pa la P' ((C, oC) :: (D, listOf ys.toArray kD) :: (own ++ (tl ++ Y))) _ t' hP' hHX (by omega)) B F' X T hf hk hd hu (news_sub N' ?_) ?_
    · intro q hq
      rcases List.mem_append.mp hq with hq | hq
      · exact sub_big q (List.mem_append.mpr (.inl hq))
      · rcases List.mem_cons.mp hq with rfl | hq
        · exact .head _
        · rcases List.mem_cons.mp hq with rfl | hq
          · exact .tail _ (.head _)
          · rcases List.mem_append.mp hq with hq | hq
            · exact .tail _ (.tail _ (List.mem_append.mpr (.inl hq)))
            · exact sub_big q (List.mem_append.mpr (.inr hq))
    · rintro r h' tk'' NL' F₂ N₂ x₂ ⟨P2, tl₂, dd, rfl, hP2, ab₂, hr₂⟩
      exact thing_turn F₂ N₂ hP' hP2 ab₂ ab hID hoff fun hp ha _ => ⟨P2, tl₂ ++ tl, ds ++ [dd], rfl, hp, ha, (hys.mono fun _ _ => ThIn.mono fun q hq => List.mem_append.mpr (.inr hq)).snoc (hr₂.mono fun q hq => List.mem_append.mpr (.inl hq)), by simp [hyl]⟩
  · (intro D ys kD nw h tk hD hoff hZZ1 F' N'; refine via fun GG hGG => ?_; obtain ⟨P', tl, ds, rfl, hP', ab, hys, hyl⟩ := hZZ1; refine hGG ?_; clear hGG GG)
    refine done D ys kD P' tl ds h tk hD (fun q hq e => hoff q (List.mem_append.mpr (.inr (List.mem_append.mpr (.inl hq)))) (by rw [e]; exact .head _)) F' N' (hP'.le ?_) ab hys (by omega)
    have := mul_le3 (i := d.toNat) (by omega) hK
    omega
end
section
section
variable {prog : Program} {w : World} {A : Around} {E : Value → Shared → Prop} {s : Shared}
theorem lk_list_keys : typeLookup (.type "list") "keys" = pure none := by rw [typeLookup_type, builtinLookup_eq_fast]; kernel_rfl
theorem keys_miss {a : Addr} {xs : Array Value} {k : Nat} {Q : Option Value → Shared → Prop} (hx : s.heap.get? a = some (listOf xs k)) (hA : A.handled = none)
    (h : ∀ h' tk, (∀ b o, s.heap.get? b = some o → h'.get? b = some o) → Q none { s with heap := h', toks := tk }) : wpAny (model prog w) A (getAttr? (.ref a) "keys") Q E s := by
  obtain ⟨hp, g, d, tk, os⟩ := s
  have hT : ∀ tk', (⟨hp, g, d, tk', os⟩ : Shared).TypeIs (.ref a) "list" := fun _ => ⟨_, hx, rfl⟩
  have f1 := sub_AttributeError
  have f3 := F.slot_list_getattribute.lookup
  have f4 := F.slot_list_getattribute.bind (.ref a)
  have f5 := am_list_getattr_none
  unfold getAttr? getAttrBy? getAttrBy
  repeat (any_goals (first | assumption | exact hT _ | ((with_reducible show wpAny _ _ (call (Value.builtin "list.__getattribute__") _ _) _ _ _); refine call_meets F.slot_list_getattribute (hT _) am_entry_list_getattribute (F.args_list_getattribute_2 _ _) (meets_getattribute_miss_list a xs k #[] "keys" _ lk_list_keys (by decide +kernel) (by rw [sizeLine_eq]; decide +kernel)) ⟨hx, hA, fun h' tk' e hx' => ?_⟩) | wp_step))
  obtain ⟨t', u', he⟩ := hx'.there
  show wpAny _ _ (getattributeRaised _ _ _ _ _ _ _) _ _ _
  unfold getattributeRaised
  repeat (any_goals (first | assumption | wp_step))
  exact h _ _ hx'.of.keeps
theorem entry_upd_loop : entryFor table "dict.update.loop" = some Builtin.«dict.update.loop» := by first | exact entryFor_of_fast (by kernel_rfl) | exact entryFor_of_tree (by kernel_rfl)
theorem plain_upd_loop : plainId "dict.update.loop" = true := by decide +kernel
noncomputable def PairAt (h : Heap) (v : Value) (r : Str × Value) : Prop := ∃ a n t, v = .ref a ∧ h.get? a = some (tupOf [.str r.1 t, r.2].toArray n)
theorem upd_loop {R : Result → Shared → Prop} {d I l : Addr} {vs : List Value} {kvs : List (Str × Value)} (hh : A.handled = none) (hn : (kvs.map (·.1)).Nodup) (hz : kvs.length ≤ 100) (hlen : vs.length = kvs.length) (hId : I ≠ d) (hlI : l ≠ I) (hld : l ≠ d) (h₀ : Heap) (hd0 : h₀.get? d = none) (hI0 : h₀.get? I = none)
    (hv : ∀ (i : Nat) (v : Value) (r : Str × Value), vs[i]? = some v → kvs[i]? = some r → PairAt h₀ v r) :
    ∀ (k i : Nat) (s : Shared) (tk : Tok), kvs.length - i = k → i ≤ kvs.length → (∀ b o, h₀.get? b = some o → s.heap.get? b = some o) → s.heap.IsList l vs.toArray → s.heap.IsListIter I l i → s.heap.DictOf (PySem.strKind prog w) d (kvs.take i) →
      (∀ h' k', (∀ b o, b ≠ I → b ≠ d → s.heap.get? b = some o → h'.get? b = some o) → h'.DictOf (PySem.strKind prog w) d kvs → R (.ok (.ret .none)) { s with heap := h', toks := k' }) →
      codeAny (model prog w) A (.builtin "dict.update.loop" ⟨[.ref d, .ref I, .int i tk, .none], []⟩) R s := by
  intro k
  induction k with
  | zero =>
    intro i s tk hk hle hold hl hit hd hR
    have hin : i = kvs.length := by omega
    subst hin
    refine codeAny_builtin entry_upd_loop ?_
    rw [Around.under_plainId plain_upd_loop _]
    show wpAny (model prog w) A.in1 (pyNext (.ref I) >>= _) _ _ s
    refine wpAny_bind (wpAny_pyNext_list_end hh hit hl (by simp [hlen]) fun h' he => ?_)
    have hd' : h'.DictOf (PySem.strKind prog w) d kvs := by
      rw [List.take_length] at hd
      exact hd.extBut he (Ne.symm hId)
    show wpAny (model prog w) A.in1 (Builtin.Dict.addKeywords d [] >>= _) _ _ _
    refine wpAny_bind (wpAny_pure ?_)
    first
      | exact wpAny_pure (hR h' _ (fun b o hb _ e => he b o hb e) hd')
      | exact wpAny_bind (wpAny_pure (wpAny_pure (hR h' _ (fun b o hb _ e => he b o hb e) hd')))
  | succ k ih =>
    intro i s tk hk hle hold hl hit hd hR
    have hlt : i < kvs.length := by omega
    obtain ⟨x, hx⟩ : ∃ x, vs[i]? = some x := ⟨vs[i]'(by omega), List.getElem?_eq_getElem (by omega)⟩
    obtain ⟨r, hr⟩ : ∃ r, kvs[i]? = some r := ⟨kvs[i]'(by omega), List.getElem?_eq_getElem (by omega)⟩
    obtain ⟨a, n, t, rfl, ha⟩ := hv i x r hx hr
    have haI : a ≠ I := fun e => by rw [e, hI0] at ha; cases ha
    have had : a ≠ d := fun e => by rw [e, hd0] at ha; cases ha
    refine codeAny_builtin entry_upd_loop ?_
    rw [Around.under_plainId plain_upd_loop _]
    show wpAny (model prog w) A.in1 (pyNext (.ref I) >>= _) _ _ s
    refine wpAny_bind (wpAny_pyNext_list_item (x := .ref a) hit hl (by simpa using hx) fun h' hit' hs => ?_)
    have ha' : h'.get? a = some (tupOf [.str r.1 t, r.2].toArray n) := hs.extBut _ _ haI (hold _ _ ha)
    have hT : ({ s with heap := h' } : Shared).TypeIs (.ref a) "tuple" := ⟨_, ha', rfl⟩
    refine wpAny_bind (wpAny_holding (wpAny_bind (wpAny_tryCatch ?_)))
    unfold Builtin.Dict.pairItems
    refine wpAny_bind (wpAny_typeOf hT ?_)
    rw [if_pos (by decide)]
    unfold seqItems?
    refine wpAny_bind (wpAny_bind (wpAny_load ha' ?_))
    refine wpAny_pure (wpAny_pure ?_)
    show wpAny (model prog w) A.in1 (holding [.str r.1 t, r.2] (dictSet d (.str r.1 t) r.2)) _ _ _
    have hd1 : h'.DictOf (PySem.strKind prog w) d (kvs.take i) := hd.extBut hs.extBut (Ne.symm hId)
    refine wpAny_holding (wpAny_dictSet_pairs (hsz := by rw [sizeLine_eq, List.length_take]; omega) (strKind_is prog w r.1 t) hd1 fun h2 hd2 hs2 => ?_)
    have hnew : r.1 ∉ (kvs.take i).map (·.1) := by
      intro hm
      obtain ⟨q, hq, e⟩ := List.mem_map.mp hm
      obtain ⟨j, hj⟩ := List.getElem?_of_mem hq
      have hji : j < i := by
        rcases Nat.lt_or_ge j i with h | h
        · exact h
        · rw [List.getElem?_eq_none (by rw [List.length_take]; omega)] at hj; cases hj
      rw [List.getElem?_take_of_lt hji] at hj
      obtain ⟨h1, e1⟩ := List.getElem?_eq_some_iff.mp hj
      obtain ⟨h2', e2⟩ := List.getElem?_eq_some_iff.mp hr
      have := List.pairwise_iff_getElem.mp hn j i (by rw [List.length_map]; exact h1) (by rw [List.length_map]; exact h2') hji
      rw [List.getElem_map, List.getElem_map, e1, e2] at this
      exact this e
    rw [stored_new hnew] at hd2
    have hd3 : h2.DictOf (PySem.strKind prog w) d (kvs.take (i + 1)) := by rw [List.take_add_one, hr]; exact hd2
    refine wpAny_pure ⟨plainId_quiet plain_upd_loop _, ih (i + 1) { s with heap := h2, toks := s.toks + 1 } _ (by omega) hlt (fun b o e => ?_) ?_ ?_ hd3 fun h3 k' hk3 hd4 => ?_⟩
    · have hbI : b ≠ I := fun q => by rw [q, hI0] at e; cases e
      have hbd : b ≠ d := fun q => by rw [q, hd0] at e; cases e
      exact hs2.extBut _ _ hbd (hs.extBut _ _ hbI (hold b o e))
    · exact (hl.extBut hs.extBut hlI).extBut hs2.extBut hld
    · exact hit'.extBut hs2.extBut hId
    · exact hR h3 k' (fun b o hbI hbd e => hk3 b o hbI hbd (hs2.extBut _ _ hbd (hs.extBut _ _ hbI e))) hd4
end
end
section
section
variable {prog : Program} {w : World} {A : Around} {E : Value → Shared → Prop} {s : Shared}
theorem dict_pairs_N {h₀ : Heap} {L : Addr} {m : Str → Option Value} {nw : List (Addr × Obj)} {Q : Value → Shared → Prop} {l : Addr} {e : Nat} {vs : List Value} {kvs : List (Str × Value)} (hh : A.handled = none) (F0 : Fr h₀ L s.heap m) (N : News h₀ L s.heap nw) (hbig : h₀.NoLimit) (hm : (l, listOf vs.toArray e) ∈ nw) (hn : (kvs.map (·.1)).Nodup) (hz : kvs.length ≤ 100)
    (hp : All₂ (PairAt s.heap) vs kvs)
    (h : ∀ (D : Addr) o h' tk, Fr h₀ L h' m → News h₀ L h' ((D, o) :: nw) → (∀ p ∈ nw, @LT.lt Nat _ p.1 D) → (D == sysModules) = false → o.IsDictOf (PySem.strKind prog w) kvs → Q (.ref D) { s with heap := h', toks := tk }) :
    wpAny (model prog w) A (call (.type "dict") [.ref l]) Q E s := by
  have hlen := hp.length
  refine callType_codes (Q₁ := fun obj s₁ => obj = .ref s.heap.objs.size ∧ s₁ = { s with heap := s.heap.push { cls := .type "dict", data := .dict #[] } }) F.kt_called_dict (F.kt_typeCall_dict_1 _) F.entry_dict_init (kt_code_dict_new _ ⟨rfl, rfl⟩) ?_
  rintro obj s₁ ⟨rfl, rfl⟩
  have hnew : (s.heap.push { cls := .type "dict", data := .dict #[] }).DictOf (PySem.strKind prog w) s.heap.objs.size [] := Heap.DictOf.new s.heap
  have hl1 : (s.heap.push { cls := .type "dict", data := .dict #[] }).get? l = some (listOf vs.toArray e) := Heap.get?_push_of_some _ (N _ hm).1
  refine ⟨hnew.typeIs, F.args_dict_init_2 _ _, ?_⟩
  unfold Builtin.«dict.__init__»
  refine wpAny_bind ?_
  unfold Builtin.Dict.selfAndRest
  refine wpAny_bind (wpAny_notOrdered_dict hnew.typeIs ?_)
  show wpAny _ _ (pure (s.heap.objs.size, [Value.ref l])) _ _ _
  refine wpAny_pure ?_
  show wpAny _ _ (Builtin.Dict.updateFrom "dict.__init__" s.heap.objs.size (.ref l) [] .none) _ _ _
  unfold Builtin.Dict.updateFrom
  refine wpAny_bind (wpAny_typeOf (T := "list") ⟨_, hl1, rfl⟩ ?_)
  rw [if_pos (by decide)]
  refine wpAny_bind (keys_miss hl1 hh fun h1 tk1 hk1 => ?_)
  refine bm_if_true rfl ?_
  refine wpAny_bind (wpAny_rule (wpAny_bind ?_))
  have hl2 : h1.IsList l vs.toArray := ⟨_, hk1 _ _ hl1, rfl, e, rfl⟩
  refine wpAny_pyIter_list hl2 ?_
  have hd1 : h1.get? s.heap.objs.size = some { cls := .type "dict", data := .dict #[] } := hk1 _ _ (Heap.get?_push_size _ rfl)
  have hlt : s.heap.objs.size < h1.objs.size := Heap.lt_size hd1
  have hls : l < s.heap.objs.size := Heap.lt_size (N _ hm).1
  have hI0 : s.heap.get? h1.objs.size = none := Heap.get?_none_of_le (Nat.le_of_lt hlt)
  have hd0 : s.heap.get? s.heap.objs.size = none := Heap.get?_none_of_le (Nat.le_refl _)
  have old : ∀ b o, s.heap.get? b = some o → (h1.push { cls := .type "list_iterator", data := .fields #[.ref l, .int 0 0] }).get? b = some o := fun b o x => Heap.get?_push_of_some _ (hk1 _ _ (Heap.get?_push_of_some _ x))
  have hdz : (h1.push { cls := .type "list_iterator", data := .fields #[.ref l, .int 0 0] }).DictOf (PySem.strKind prog w) s.heap.objs.size (kvs.take 0) := (hnew.keep hk1).push _
  refine wpAny_pure ⟨plainId_quiet plain_upd_loop _, upd_loop (prog := prog) (w := w) (A := A.in1) (l := l) (vs := vs) (kvs := kvs) (show A.in1.handled = none from hh) hn hz hlen (Ne.symm (Nat.ne_of_lt hlt)) (Nat.ne_of_lt (Nat.lt_trans hls hlt)) (Nat.ne_of_lt hls) s.heap hd0 hI0 (fun i v r a b => ?_) kvs.length 0 _ _ (by simp) (Nat.zero_le _) old (hl2.push _) ⟨_, Heap.get?_push_size _ rfl, rfl, rfl⟩ hdz fun h' k' hk' hd' => ?_⟩
  · obtain ⟨r', e1, q⟩ := hp.get a
    rw [e1] at b
    cases b
    exact q
  · obtain ⟨o', ho', hdo⟩ := Heap.dictOf_iff.mp hd'
    have keep : ∀ b o, s.heap.get? b = some o → h'.get? b = some o := fun b o x => hk' b o (fun q => by rw [q, hI0] at x; cases x) (fun q => by rw [q, hd0] at x; cases x) (old b o x)
    refine ⟨rfl, h _ o' h' k' (fr_keeps F0 keep) ?_ (fun p hp => Heap.lt_size (N p hp).1) (F0.notModules (modules_low hbig)) hdo⟩
    intro p hp
    rcases List.mem_cons.mp hp with rfl | hp
    · exact ⟨ho', Ne.symm (Nat.ne_of_lt F0.ns.lt), next_is_new F0⟩
    · exact ⟨keep _ _ (N p hp).1, (N p hp).2⟩
end
end
section
set_option maxRecDepth 100000 in
set_option maxHeartbeats 2000000 in
theorem thing_keys {w : World} {p : Program} {loose : List Str} {mean : ExcName → Option Value} {mg mb : Str → Option Value} {k : Nat} (IH : ThingOk w p loose mean mg mb k) {dp u : Nat} {gd : Option (List Code)} {A₀ : Around} {base h₀ : Heap} {env : Env} {outer : List Env} {L : Addr} {m : Str → Option Value} {s : Shared} {Q E : Value → Shared → Prop}
    {pa la : Nat} {P Y : List (Addr × Obj)} {b : Int} {c1 c2 ax : Addr} {o1 o2 : Obj} {t : Tok} {vs : List Value} {keys : List Str} {e : Nat} {cl : List (Str × Addr)} {p1 p2 p3 p4 p5 p6 p7 p8 p9 cpos : Pos} {iter : Expr}
    (B : Below A₀ base outer h₀) (F : Fr h₀ L s.heap m) (X : (hd.heap_39 w.params).In h₀) (T : Top p loose mean mg mb h₀) (hf : env.frame = some L) (hg : env.globals = mainGlobals) (hk : env.scope.kind = .function)
    (hk1 : env.kindOf (S "pen") = some .cell) (hk2 : env.kindOf (S "deep") = some .cell) (hd : dp + (k + 6) < recursionLimit) (hu : u + (10 * k + 120) < cLine)
    (hP : PenSt pa la b P) (hY : Hi pa la Y) (hb : b + 3 * KK k ≤ 50000) (N : News h₀ L s.heap (P ++ Y)) (hc1 : cl.lookup (S "pen") = some c1) (m1 : (c1, o1) ∈ Y) (e1 : o1.data = .cell (some (.ref pa))) (hc2 : cl.lookup (S "deep") = some c2) (m2 : (c2, o2) ∈ Y) (e2 : o2.data = .cell (some (.int ((k + 1 : Nat) : Int) t)))
    (hm : (ax, listOf vs.toArray e) ∈ Y) (hks : All₂ (fun v (x : Str) => ∃ t, v = .str x t) vs keys) (hl : keys.length ≤ 3)
    (done : ∀ (D : Addr) ys kD P' tl kvs ds h tk, (∀ p ∈ P ++ Y, @LT.lt Nat _ p.1 D) → (∀ p ∈ tl, p.1 ≠ D) → Fr h₀ L h m → News h₀ L h ((D, listOf ys.toArray kD) :: (P' ++ (tl ++ Y))) → PenSt pa la (b + 3 * KK k) P' → Above (P' ++ Y) tl → All₂ (fun v (r : Str × Value) => ∃ a n t, v = .ref a ∧ (a, tupOf [.str r.1 t, r.2].toArray n) ∈ tl) ys kvs → kvs.map (·.1) = keys → All₂ (ThIn w tl (k + 2)) (kvs.map (·.2)) ds → Q (.ref D) { s with heap := h, toks := tk }) :
    wpAny (model PySem.Challenge.rw_og0176_01.row.prog w) (arnd dp u gd env outer) (pyIter (.ref ax))
      (fun it s₂ => CompRun PySem.Challenge.rw_og0176_01.row.prog w (arnd dp u gd env outer) E env (.ListComp (.Tuple [.Name (S "key") p8, .Call (.Name (S "_law_thing") p1) [.Name (S "pen") p2, .BinOp (.Name (S "deep") p3) .Sub (.Constant (.int 1) 0 p4) p5] [] p6] 0 p9) [⟨.Name (S "key") p7, iter, [], 0⟩]
        { kind := .function, names := [(S ".0", .local), (S "key", .local), (S "_law_thing", .globalImplicit), (S "deep", .free), (S "pen", .free)], isGenerator := false, isCoroutine := false, more := [] } cpos)
        { kind := .function, names := [(S ".0", .local), (S "key", .local), (S "_law_thing", .globalImplicit), (S "deep", .free), (S "pen", .free)], isGenerator := false, isCoroutine := false, more := [] } cl Q it s₂) E s := by
  have hK := KK_pos k
  have hpn := pen_has hP
  have hvl := hks.length
  refine comp_listO (h₀ := h₀) (L := L) (fun i ys nw => ∃ P' tl kvs ds, nw = P' ++ (tl ++ Y) ∧ PenSt pa la (b + i * KK k) P' ∧ Above (P' ++ Y) tl ∧ All₂ (fun v (r : Str × Value) => ∃ a n t, v = .ref a ∧ (a, tupOf [.str r.1 t, r.2].toArray n) ∈ tl) ys kvs ∧ kvs.map (·.1) = keys.take i ∧ All₂ (ThIn w tl (k + 2)) (kvs.map (·.2)) ds) rfl F N (List.mem_append.mpr (.inr hm)) ⟨P, [], [], [], rfl, by simpa using hP, above_nil, .nil, rfl, .nil⟩ (by rw [sizeLine_eq]; omega) (by decide) rfl rfl ?_ ?_
  · (intro C D I oC own i v ys kD nw h tk mC E' hv hx hZZ1 hoff hsI hID hDC hown F' hn' N'; refine via fun GG hGG => ?_; obtain ⟨P', tl, kvs, ds, rfl, hP', ab, hys, hkv, hth⟩ := hZZ1; refine hGG ?_; clear hGG GG)
    refine wpAny_tests_nil ?_
    rw [if_pos rfl]
    obtain ⟨key, hkey, tk0, rfl⟩ := hks.get hv
    have hi3 : i + 1 ≤ 3 := by
      obtain ⟨hlt, _⟩ := List.getElem?_eq_some_iff.mp hkey
      omega
    have hm3 := mul_le3 hi3 hK
    rw [mul_succ'] at hm3
    obtain ⟨⟨o3, mp1⟩, o4, mp2⟩ := hpn
    have hpa : @LT.lt Nat _ pa I := Nat.lt_of_lt_of_le (Heap.lt_size (N _ (List.mem_append.mpr (.inl mp1))).1) hsI
    have hla : @LT.lt Nat _ la I := Nat.lt_of_lt_of_le (Heap.lt_size (N _ (List.mem_append.mpr (.inl mp2))).1) hsI
    have hkk1 : (compEnvC { kind := .function, names := [(S ".0", .local), (S "key", .local), (S "_law_thing", .globalImplicit), (S "deep", .free), (S "pen", .free)], isGenerator := false, isCoroutine := false, more := [] } cl C env).kindOf (S "pen") = some .cell := by
      unfold compEnvC relabel Env.kindOf
      simp only [List.map]
      rw [hk, show List.lookup (S "pen") env.scope.names = some .cell from hk1, show List.lookup (S "deep") env.scope.names = some .cell from hk2]
      rfl
    have hkk2 : (compEnvC { kind := .function, names := [(S ".0", .local), (S "key", .local), (S "_law_thing", .globalImplicit), (S "deep", .free), (S "pen", .free)], isGenerator := false, isCoroutine := false, more := [] } cl C env).kindOf (S "deep") = some .cell := by
      unfold compEnvC relabel Env.kindOf
      simp only [List.map]
      rw [hk, show List.lookup (S "pen") env.scope.names = some .cell from hk1, show List.lookup (S "deep") env.scope.names = some .cell from hk2]
      rfl
    have hYm : ∀ q ∈ Y, q ∈ (C, oC) :: (D, listOf ys.toArray kD) :: (own ++ (P' ++ (tl ++ Y))) := fun q hq => sub_big q (List.mem_append.mpr (.inr (List.mem_append.mpr (.inr hq))))
    refine Tuple_ ?_
    show wpAny _ _ (spliced [(false, eval (.Name (S "key") p8) _), (false, eval (.Call (.Name (S "_law_thing") p1) [.Name (S "pen") p2, .BinOp (.Name (S "deep") p3) .Sub (.Constant (.int 1) 0 p4) p5] [] p6) _)]) _ _ _
    refine spliced_cons (name_C hn' hx ?_ rfl rfl)
    refine spliced_cons (comp_thing F' X (topRead_of T) (fa := 381) (by k_is) (by k_is) hg N' hc1 (hYm _ m1) e1 hc2 (hYm _ m2) e2 ?_ rfl rfl hkk1 hkk2)
    intro t' tk'
    rw [show (((k + 1 : Nat) : Int) - 1) = (k : Int) from by omega]
    have hHX : Hi pa la ((C, oC) :: (D, listOf ys.toArray kD) :: (own ++ (tl ++ Y))) :=
      .cons ⟨Nat.lt_trans hpa (Nat.lt_trans hID hDC), Nat.lt_trans hla (Nat.lt_trans hID hDC)⟩ (.cons ⟨Nat.lt_trans hpa hID, Nat.lt_trans hla hID⟩ (.app (fun q hq => (hown q hq).elim (fun x => by rw [x]; exact ⟨hpa, hla⟩) fun x => by rw [x]; exact hY _ hm) (.app (hi_above hP' ab) hY)))
    refine spec_use (IH pa la P' ((C, oC) :: (D, listOf ys.toArray kD) :: (own ++ (tl ++ Y))) _ t' hP' hHX (by omega)) B F' X T hf hk hd hu (news_sub N' ?_) ?_
    · intro q hq
      rcases List.mem_append.mp hq with hq | hq
      · exact sub_big q (List.mem_append.mpr (.inl hq))
      · rcases List.mem_cons.mp hq with rfl | hq
        · exact .head _
        · rcases List.mem_cons.mp hq with rfl | hq
          · exact .tail _ (.head _)
          · rcases List.mem_append.mp hq with hq | hq
            · exact .tail _ (.tail _ (List.mem_append.mpr (.inl hq)))
            · exact sub_big q (List.mem_append.mpr (.inr hq))
    · rintro r h' tk'' NL' F₂ N₂ x₂ ⟨P2, tl₂, dd, rfl, hP2, ab₂, hr₂⟩
      refine spliced_nil ?_
      refine newTuple_N F₂ N₂ (fun h3 F3 N3 => ?_) (by rw [sizeLine_eq]; simp)
      have hnew : ∀ q ∈ tl₂ ++ (P2 ++ ((C, oC) :: (D, listOf ys.toArray kD) :: (own ++ (tl ++ Y)))), @LT.lt Nat _ q.1 h'.objs.size := fun q hq => Heap.lt_size (N₂ q hq).1
      refine thing_turn (tl₂ := (_, _) :: tl₂) F3 N3 hP' hP2 ?_ ab hID hoff fun hp ha ha2 => ⟨P2, (_, _) :: (tl₂ ++ tl), kvs ++ [(key, r)], ds ++ [dd], by simp, hp, ha, ?_, ?_, ?_⟩
      · intro q hq x hx'
        rcases List.mem_cons.mp hx' with rfl | hx'
        · exact hnew q (List.mem_append.mpr (.inr hq))
        · exact ab₂ q hq x hx'
      · exact (hys.mono fun _ _ ⟨a, n, t, e1, hm⟩ => ⟨a, n, t, e1, .tail _ (List.mem_append.mpr (.inr hm))⟩).snoc ⟨_, _, _, rfl, .head _⟩
      · rw [List.map_append, hkv, List.take_add_one, hkey]; rfl
      · rw [List.map_append]
        exact (hth.mono fun _ _ => ThIn.mono fun q hq => .tail _ (List.mem_append.mpr (.inr hq))).snoc (hr₂.mono fun q hq => .tail _ (List.mem_append.mpr (.inl hq)))
  · (intro D ys kD nw h tk hD hoff hZZ1 F' N'; refine via fun GG hGG => ?_; obtain ⟨P', tl, kvs, ds, rfl, hP', ab, hys, hkv, hth⟩ := hZZ1; refine hGG ?_; clear hGG GG)
    rw [hvl, List.take_length] at hkv
    refine done D ys kD P' tl kvs ds h tk hD (fun q hq e => hoff q (List.mem_append.mpr (.inr (List.mem_append.mpr (.inl hq)))) (by rw [e]; exact .head _)) F' N' (hP'.le ?_) ab hys hkv hth
    have := mul_le3 (i := vs.length) (by omega) hK
    omega
end
section
theorem thing_enter {pa la : Nat} {b : Int} {P NL : List (Addr × Obj)} {h₀ h : Heap} {L L' : Addr} {o1 o2 : Obj} (hp : PenSt pa la b P) (hl : ∀ p ∈ P ++ NL, @LT.lt Nat _ p.1 L') (hH : Hi pa la NL) (N : News h₀ L h ((L' + 1 + 1, o1) :: (L' + 1, o2) :: (P ++ NL))) :
    Hi pa la ((L' + 1 + 1, o1) :: (L' + 1, o2) :: NL) ∧ News h₀ L h (P ++ ((L' + 1 + 1, o1) :: (L' + 1, o2) :: NL)) := by
  obtain ⟨⟨o3, m1⟩, o4, m2⟩ := pen_has hp
  have a := hl _ (List.mem_append.mpr (.inl m1))
  have c := hl _ (List.mem_append.mpr (.inl m2))
  refine ⟨.cons ⟨Nat.lt_succ_of_lt (Nat.lt_succ_of_lt a), Nat.lt_succ_of_lt (Nat.lt_succ_of_lt c)⟩ (.cons ⟨Nat.lt_succ_of_lt a, Nat.lt_succ_of_lt c⟩ hH), fun p hp => ?_⟩
  rcases List.mem_append.mp hp with hp | hp
  · exact N p (.tail _ (.tail _ (List.mem_append.mpr (.inl hp))))
  · rcases List.mem_cons.mp hp with rfl | hp
    · exact N _ (.head _)
    · rcases List.mem_cons.mp hp with rfl | hp
      · exact N _ (.tail _ (.head _))
      · exact N p (.tail _ (.tail _ (List.mem_append.mpr (.inr hp))))
theorem cells_in {P NL : List (Addr × Obj)} {a c : Addr × Obj} : ∀ q ∈ P ++ NL, q ∈ P ++ (a :: c :: NL) := fun q hq => by
  rcases List.mem_append.mp hq with hq | hq
  · exact List.mem_append.mpr (.inl hq)
  · exact List.mem_append.mpr (.inr (.tail _ (.tail _ hq)))
theorem above_sub {N2 NL tl : List (Addr × Obj)} (h : Above N2 tl) (hs : ∀ q ∈ NL, q ∈ N2) : Above NL tl := fun q hq => h q (hs q hq)
theorem drop_cells {h₀ h : Heap} {L : Addr} {tl P NL : List (Addr × Obj)} {a c : Addr × Obj} (N : News h₀ L h (tl ++ (P ++ (a :: c :: NL)))) : News h₀ L h (tl ++ (P ++ NL)) := news_sub N fun q hq => by
  rcases List.mem_append.mp hq with hq | hq
  · exact List.mem_append.mpr (.inl hq)
  · exact List.mem_append.mpr (.inr (cells_in q hq))
set_option maxRecDepth 100000 in
set_option maxHeartbeats 2000000 in
theorem thing_zero {w : World} {p : Program} {loose : List Str} {mean : ExcName → Option Value} {mg mb : Str → Option Value} : ThingOk w p loose mean mg mb 0 := by
  intro pa la P NL b t hP hHi hb
  have hb' : b + 2 ≤ 50000 := hb
  unfold Spec
  intro dp u gd A₀ base h₀ env outer L m s Q E B F X Tp hf hk hd hu N hret
  refine wpAny_call ?_
  refine' code_defCG B F X N Tp rfl hf hk ?k6 ?k7 (asm2 hd) ?k9 ?kB ?kD ?_ ?c2 ?c3 ?c4
  case k6 => k_is
  case k7 => k_is
  case k9 => exact BindsTo.of_eq rfl
  case kB => exact rfl
  case kD => decide +kernel
  case c2 => exact rfl
  case c3 => exact rfl
  case c4 => exact rfl
  intro g' L' h' tk' cells' FG' F' N' Y' B' X' T' l1 kG'
  k_cells Y'
  (try simp only [List.cons_append, List.nil_append] at N')
  (try dsimp only)
  (try k_fold)
  obtain ⟨hHc, Nc⟩ := thing_enter hP l1 hHi N'
  clear N'
  repeat' (first | (k_unfold; (try dsimp only)) | (k_end; wrow_close) | ((fail_if_success (fail_if_success (with_reducible show wpAny _ _ (call (Value.ref _) _) _ _ _))); (first | (k_here; k_dflt ((rename PenSt _ _ _ _ => hPo); (refine' spec_useG (law_leaf hPo ?hb9z hHc) ?B9z ?F9z ?X9z ?T9z rfl rfl ?hd9z ?hu9z ?N9z ?_; (case B9z => k_asm); (case F9z => k_asm); (case X9z => k_asm); (case T9z => k_asm); (case hd9z => k_room); (case hu9z => k_units); (case N9z => k_asm); (case hb9z => omega)); (intro GG hGG r1 h1 tk1 NL1 F1 N1 x1 P1; obtain ⟨P', tl1, d1, e1, hP, ab1, lf1⟩ := P1; subst e1; refine hGG _ _ _ _ ?_; clear hGG GG; clear x1; (try k_sweep)))) | (k_here; k_dflt ((rename PenSt _ _ _ _ => hPo); (refine' spec_useG (draw_ok hPo ?hb9z hHc ?g39z ?g49z) ?B9z ?F9z ?X9z ?T9z rfl rfl ?hd9z ?hu9z ?N9z ?_; (case B9z => k_asm); (case F9z => k_asm); (case X9z => k_asm); (case T9z => k_asm); (case hd9z => k_room); (case hu9z => k_units); (case N9z => k_asm); (case hb9z => omega); (case g39z => decide); (case g49z => decide)); (intro GG hGG r1 h1 tk1 NL1 F1 N1 x1 P1; obtain ⟨P', d1, t1, e1, hP, e2, hd1, hd2⟩ := P1; subst e1 e2; refine hGG _ _ _ _ ?_; clear hGG GG; clear x1; have hodd := odd_fmod d1; (try k_sweep))))); try dsimp only) | ((fail_if_success (fail_if_success (with_reducible show wpAny _ _ (eval (PySem.Expr.Name _ _) _) _ _ _))); (k_here; k_dflt (refine' nameX_L ?F9z ?v9z ?_ ?a9z ?b9z ?c9z; (case F9z => k_asm); (case v9z => with_unfolding_all assumption); (case a9z => exact rfl); (case b9z => exact rfl); (case c9z => decide))); try dsimp only) | ((fail_if_success (fail_if_success (with_reducible show wpAny _ _ (pyIter (Value.ref _)) _ _ _))); (k_here; k_dflt ((rename PenSt _ _ _ _ => hPo); (refine' thing_rng IH ?B9z ?F9z ?X9z ?T9z ?e19z ?e29z ?e39z ?e49z ?e59z ?hd9z ?hu9z hPo ?hY9z ?hb9z ?N9z ?c19z ?m19z ?q19z ?c29z ?m29z ?q29z ?hr9z ?h09z ?h49z ?_; (case B9z => k_asm); (case F9z => k_asm); (case X9z => k_asm); (case T9z => k_asm); (case e19z => exact rfl); (case e29z => exact rfl); (case e39z => exact rfl); (case e49z => exact rfl); (case e59z => exact rfl); (case hd9z => k_room); (case hu9z => k_units)); trace_state)); try dsimp only) | (walk1; try dsimp only) | (dsimp only; walk1; try dsimp only))
  rename News h₀ L _ _ => kN9
  exact hret _ _ _ _ (by assumption) (drop_cells kN9) (ext_of kG' (by assumption)) ⟨P', tl1, d1, rfl, hP, above_sub ab1 cells_in, .inl lf1⟩
end
section
section
variable {prog : Program} {w : World} {A : Around} {E : Value → Shared → Prop} {s : Shared} {h₀ : Heap} {L : Addr} {m : Str → Option Value} {nw : List (Addr × Obj)} {Q : Value → Shared → Prop}
theorem list_upto_N {value slice : Expr} {l : Addr} {xs : List Value} {k : Nat} {d : Int} {u : Tok} {h : Heap} {tk : Nat} (F : Fr h₀ L h m) (N : News h₀ L h nw) (hm : (l, listOf xs.toArray k) ∈ nw) (h0 : 0 ≤ d) (hz : xs.length < 1000)
    (hq : ∀ (D : Addr) h', Fr h₀ L h' m → News h₀ L h' ((D, listOf (xs.take d.toNat).toArray 0) :: nw) → (∀ p ∈ nw, @LT.lt Nat _ p.1 D) → Q (.ref D) { s with heap := h', toks := tk })
    (hs : subscripted slice false (.ref l) (.ref h.objs.size) = operate [.ref h.objs.size, .ref l] (getItem (.ref l) (.ref h.objs.size)) := by with_unfolding_all rfl) :
    wpAny (model prog w) A (subscriptTail value slice (.ref l) (.ref h.objs.size)) Q E { s with heap := h.push { cls := .type "slice", data := .fields #[.none, .int d u, .none] }, toks := tk } := by
  have hl : h.IsList l xs.toArray := ⟨_, (N _ hm).1, rfl, k, rfl⟩
  have hl' : (h.push { cls := .type "slice", data := .fields #[.none, .int d u, .none] }).IsList l xs.toArray := hl.push _
  refine tail_any (Heap.IsList.typeIs (s := { s with heap := h.push { cls := .type "slice", data := .fields #[.none, .int d u, .none] }, toks := tk }) hl') list_getitem_lookup
    (wpAny_getItem_list_slice hl' (Heap.IsSliceOf.new ..) .none (.int d u) .none (by simp) ?_ (by rw [sizeLine_eq, List.size_toArray]; omega)) hs
  have e : slicePick xs.toArray none (some d) none = (xs.take d.toNat).toArray := by
    obtain ⟨n, rfl⟩ := Int.eq_ofNat_of_zero_le h0
    rw [slicePick_upto']
    rfl
  rw [e]
  have F1 := F.push { cls := .type "slice", data := .fields #[.none, .int d u, .none] }
  have N1 := News.push F1 (N.grown fun _ _ x => Heap.get?_push_of_some _ x) { cls := .type "list", data := .seq (xs.take d.toNat).toArray }
  exact hq _ _ (F1.push _) N1 fun p hp => by
    show p.1 < (h.push _).objs.size
    rw [Heap.size_push]
    exact Nat.lt_succ_of_lt (Heap.lt_size (N p hp).1)
end
end
section
theorem pen_lt {pa la : Nat} {b : Int} {P Y : List (Addr × Obj)} {a : Addr} (hP : PenSt pa la b P) (h : ∀ p ∈ P ++ Y, @LT.lt Nat _ p.1 a) : @LT.lt Nat _ pa a ∧ @LT.lt Nat _ la a := by
  obtain ⟨⟨o3, m1⟩, o4, m2⟩ := pen_has hP
  exact ⟨h _ (List.mem_append.mpr (.inl m1)), h _ (List.mem_append.mpr (.inl m2))⟩
theorem pen_norm {M : Model} {A : Around} {α : Type} {x : Sem α} {Q : α → Shared → Prop} {E : Value → Shared → Prop} {s : Shared} {pa la : Nat} {b : Int} {P Y : List (Addr × Obj)} {a : Addr} {o : Obj} {h₀ : Heap} {L : Addr}
    (hP : PenSt pa la b P) (hH : Hi pa la Y) (N : News h₀ L s.heap ((a, o) :: (P ++ Y))) (hl : ∀ p ∈ P ++ Y, @LT.lt Nat _ p.1 a) (k : Hi pa la ((a, o) :: Y) → News h₀ L s.heap (P ++ ((a, o) :: Y)) → wpAny M A x Q E s) : wpAny M A x Q E s :=
  k (.cons (pen_lt hP hl) hH) (news_sub N fun q hq => by
    rcases List.mem_append.mp hq with hq | hq
    · exact .tail _ (List.mem_append.mpr (.inl hq))
    · rcases List.mem_cons.mp hq with rfl | hq
      · exact .head _
      · exact .tail _ (List.mem_append.mpr (.inr hq)))
end
section
theorem All₂.take {α β : Type} {R : α → β → Prop} (n : Nat) {l : List α} {m : List β} (x : All₂ R l m) : All₂ R (l.take n) (m.take n) := by
  induction x generalizing n with
  | nil => cases n <;> exact .nil
  | cons a _ ih => cases n with
    | zero => exact .nil
    | succ n => exact .cons a (ih n)
theorem le_tot (a b : List Nat) : (decide (a ≤ b) || decide (b ≤ a)) = true := by
  rcases List.le_total a b with h | h <;> simp [h]
theorem sorted_ex (kvs : List (Str × Value)) (hn : (kvs.map (·.1)).Nodup) : ∃ srt, Sorted kvs srt := by
  refine ⟨kvs.mergeSort (fun a b => decide (a.1.cps.toList ≤ b.1.cps.toList)), List.mergeSort_perm _ _, ?_⟩
  have h := List.pairwise_mergeSort (le := fun a b : Str × Value => decide (a.1.cps.toList ≤ b.1.cps.toList)) (fun a b c h1 h2 => by
    simp only [decide_eq_true_eq] at h1 h2 ⊢; exact List.le_trans h1 h2) (fun a b => le_tot _ _) kvs
  have hn' : ((kvs.mergeSort (fun a b => decide (a.1.cps.toList ≤ b.1.cps.toList))).map (·.1)).Nodup := ((List.mergeSort_perm kvs _).map (·.1)).nodup_iff.mpr hn
  have hn2 := List.pairwise_map.mp hn'
  refine (h.and hn2).imp fun {a b} x => ?_
  obtain ⟨x1, x2⟩ := x
  have x1 := of_decide_eq_true x1
  rcases Decidable.em (a.1.cps.toList < b.1.cps.toList) with q | q
  · exact q
  · exact absurd (str_ext (List.le_antisymm x1 (List.not_lt.mp q))) x2
theorem pick_ds {R : Value → Dat → Prop} : ∀ (l : List (Str × Value)), (∀ r ∈ l, ∃ d, R r.2 d) → ∃ ps : List (Str × Dat), All₂ (fun (r : Str × Value) (p : Str × Dat) => r.1 = p.1 ∧ R r.2 p.2) l ps
  | [], _ => ⟨[], .nil⟩
  | r :: l, h => by
    obtain ⟨d, hd⟩ := h r (.head _)
    obtain ⟨ps, hps⟩ := pick_ds l fun r hr => h r (.tail _ hr)
    exact ⟨(r.1, d) :: ps, .cons ⟨rfl, hd⟩ hps⟩
theorem dict_ex {w : World} {T : List (Addr × Obj)} {R : Value → Dat → Prop} {a : Addr} {o : Obj} {kvs : List (Str × Value)} {ds : List Dat} (hm : (a, o) ∈ T) (hd : o.IsDictOf (PySem.strKind PROG w) kvs) (lo : (a == sysModules) = false) (hn : (kvs.map (·.1)).Nodup) (hl : kvs.length ≤ 4)
    (h : All₂ R (kvs.map (·.2)) ds) : ∃ d, DictIn w T R (.ref a) d ∧ isDictD d := by
  obtain ⟨srt, so⟩ := sorted_ex kvs hn
  obtain ⟨ps, hps⟩ := pick_ds (R := R) (srt.filter (fun r => r.2 != .none)) fun r hr => by
    have hr' := so.perm.mem_iff.mp ((List.mem_filter.mp hr).1)
    obtain ⟨i, hi⟩ := List.getElem?_of_mem hr'
    obtain ⟨d, _, q⟩ := h.get (i := i) (a := r.2) (by rw [List.getElem?_map, hi]; rfl)
    exact ⟨d, q⟩
  exact ⟨_, ⟨a, o, kvs, srt, ps, rfl, hm, hd, lo, so, hl, hps, rfl⟩, _, rfl⟩
theorem pairs_at {h₀ h : Heap} {L : Addr} {T nw : List (Addr × Obj)} {ys : List Value} {kvs : List (Str × Value)} (N : News h₀ L h nw) (hs : ∀ p ∈ T, p ∈ nw) (q : All₂ (fun v (r : Str × Value) => ∃ a n t, v = .ref a ∧ (a, tupOf [.str r.1 t, r.2].toArray n) ∈ T) ys kvs) : All₂ (PairAt h) ys kvs :=
  q.mono fun v r ⟨a, n, t, e, hm⟩ => ⟨a, n, t, e, (N _ (hs _ hm)).1⟩
theorem cab (t1 t2 t3 : Tok) : All₂ (fun v (x : Str) => ∃ t, v = .str x t) [Value.str (S "C") t1, Value.str (S "A") t2, Value.str (S "B") t3] [S "C", S "A", S "B"] := .cons ⟨_, rfl⟩ (.cons ⟨_, rfl⟩ (.cons ⟨_, rfl⟩ .nil))
theorem cab_nodup (n : Nat) : ([S "C", S "A", S "B"].take n).Nodup := (List.take_sublist n _).nodup (by decide)
section
variable {prog : Program} {w : World} {s : Shared} {h₀ : Heap} {L d l : Addr} {m : Str → Option Value} {o ol : Obj} {Q : Value → Shared → Prop} {vs : List (Value × Value)} {pa la : Nat} {b : Int} {P P0 Y tl : List (Addr × Obj)}
theorem made_K (F : Fr h₀ L s.heap m) (N : News h₀ L s.heap ((l, ol) :: (tl ++ (P ++ ((d, o) :: Y))))) (hP : PenSt pa la b P) (hH : Hi pa la ((d, o) :: Y)) (ab : Above (P ++ ((d, o) :: Y)) tl) (ll : ∀ p ∈ tl ++ (P ++ ((d, o) :: Y)), @LT.lt Nat _ p.1 l) (ly : ∀ p ∈ P0 ++ Y, @LT.lt Nat _ p.1 d)
    (hd : o.IsDictOf (PySem.strKind prog w) []) (hk : allStrKeys vs = true) (hn : ((strPairs vs).map (·.1)).Nodup)
    (h : ∀ h' o', Fr h₀ L h' m → News h₀ L h' (P ++ (((l, ol) :: (tl ++ [(d, o')])) ++ Y)) → Hi pa la (((l, ol) :: (tl ++ [(d, o')])) ++ Y) → Above (P ++ Y) ((l, ol) :: (tl ++ [(d, o')])) → o'.IsDictOf (PySem.strKind prog w) (strPairs vs) → Q (.ref d) { s with heap := h', toks := s.toks + vs.length }) : KdnMade prog w (PySem.strKind prog w) d Q vs s := by
  have hmd : (d, o) ∈ tl ++ (P ++ ((d, o) :: Y)) := List.mem_append.mpr (.inr (List.mem_append.mpr (.inr (.head _))))
  have hm := N (d, o) (.tail _ hmd)
  refine display_done_str hk hn (Heap.dictOf_iff.mpr ⟨o, hm.1, hd⟩) fun h' hmm hs => ?_
  obtain ⟨o', ho', hd'⟩ := Heap.dictOf_iff.mp hmm
  have hdp := hH (d, o) (.head _)
  refine h h' o' (F.change hs hm.2.1 hm.2.2) (news_upd N hs (.tail _ hmd) ho' fun p hp => ?_) (.cons ?_ (.app (.app (hi_above hP ab) (.cons hdp fun q hq => nomatch hq)) fun q hq => hH q (.tail _ hq))) (fun q hq p hp => ?_) hd'
  · rcases List.mem_append.mp hp with hp | hp
    · refine .inr ⟨.tail _ (List.mem_append.mpr (.inr (List.mem_append.mpr (.inl hp)))), fun e => ?_⟩
      rcases pen_mem hP p hp with e2 | e2
      · have := hdp.1; dsimp only at this; rw [← e, e2] at this; exact Nat.lt_irrefl _ this
      · have := hdp.2; dsimp only at this; rw [← e, e2] at this; exact Nat.lt_irrefl _ this
    · rcases List.mem_cons.mp hp with rfl | hp
      · exact .inr ⟨.head _, Ne.symm (Nat.ne_of_lt (ll _ hmd))⟩
      · rcases List.mem_append.mp hp with hp | hp
        · rcases List.mem_append.mp hp with hp | hp
          · exact .inr ⟨.tail _ (List.mem_append.mpr (.inl hp)), Ne.symm (Nat.ne_of_lt (ab (d, o) (List.mem_append.mpr (.inr (.head _))) p hp))⟩
          · exact .inl (List.mem_singleton.mp hp)
        · exact .inr ⟨.tail _ (List.mem_append.mpr (.inr (List.mem_append.mpr (.inr (.tail _ hp))))), Nat.ne_of_lt (ly p (List.mem_append.mpr (.inr hp)))⟩
  · have h1 := ll _ hmd
    exact ⟨Nat.lt_trans hdp.1 h1, Nat.lt_trans hdp.2 h1⟩
  · have hq' : q ∈ P ++ ((d, o) :: Y) := by
      rcases List.mem_append.mp hq with hq | hq
      · exact List.mem_append.mpr (.inl hq)
      · exact List.mem_append.mpr (.inr (.tail _ hq))
    rcases List.mem_cons.mp hp with rfl | hp
    · exact ll q (List.mem_append.mpr (.inr hq'))
    · rcases List.mem_append.mp hp with hp | hp
      · exact ab q hq' p hp
      · rw [List.mem_singleton.mp hp]
        rcases List.mem_append.mp hq with hq | hq
        · rcases pen_mem hP q hq with e2 | e2
          · rw [e2]; exact hdp.1
          · rw [e2]; exact hdp.2
        · exact ly q (List.mem_append.mpr (.inr hq))
end
theorem th_leaf {w : World} {T : List (Addr × Obj)} {v : Value} {d : Dat} (h : LeafIn T v d) : ∀ n, ThIn w T n v d
  | 0 => h
  | _ + 1 => .inl h
theorem fin_sub {h₀ h : Heap} {L : Addr} {x : Addr × Obj} {P tl Z NL : List (Addr × Obj)} (hz : ∀ p ∈ NL, p ∈ Z) (N : News h₀ L h (x :: (P ++ (tl ++ Z)))) : News h₀ L h ((x :: tl) ++ (P ++ NL)) := news_sub N fun q hq => by
  rcases List.mem_append.mp hq with hq | hq
  · rcases List.mem_cons.mp hq with rfl | hq
    · exact .head _
    · exact .tail _ (List.mem_append.mpr (.inr (List.mem_append.mpr (.inl hq))))
  · rcases List.mem_append.mp hq with hq | hq
    · exact .tail _ (List.mem_append.mpr (.inl hq))
    · exact .tail _ (List.mem_append.mpr (.inr (List.mem_append.mpr (.inr (hz q hq)))))
theorem fin_sub2 {h₀ h : Heap} {L : Addr} {x y : Addr × Obj} {P tl Z NL : List (Addr × Obj)} (hz : ∀ p ∈ NL, p ∈ Z) (N : News h₀ L h (x :: y :: (P ++ (tl ++ Z)))) : News h₀ L h ((x :: tl) ++ (P ++ NL)) :=
  fin_sub hz (news_sub N fun q hq => by
    rcases List.mem_cons.mp hq with rfl | hq
    · exact .head _
    · exact .tail _ (.tail _ hq))
theorem fin_above {pa la : Nat} {b b' : Int} {P0 P9 Z NL tl : List (Addr × Obj)} {D : Addr} {o : Obj} (hP : PenSt pa la b P0) (hP9 : PenSt pa la b' P9) (l : ∀ p ∈ P0 ++ Z, @LT.lt Nat _ p.1 D) (ab : Above (P9 ++ Z) tl) (hz : ∀ p ∈ NL, p ∈ Z) : Above (P9 ++ NL) ((D, o) :: tl) := fun q hq p hp => by
  rcases List.mem_cons.mp hp with rfl | hp
  · rcases List.mem_append.mp hq with hq | hq
    · have := pen_lt hP l
      rcases pen_mem hP9 q hq with e | e
      · rw [e]; exact this.1
      · rw [e]; exact this.2
    · exact l q (List.mem_append.mpr (.inr (hz q hq)))
  · refine ab q ?_ p hp
    rcases List.mem_append.mp hq with hq | hq
    · exact List.mem_append.mpr (.inl hq)
    · exact List.mem_append.mpr (.inr (hz q hq))
theorem fin_str {w : World} {h₀ h : Heap} {L : Addr} {k : Nat} {pa la : Nat} {b b' : Int} {P0 P Y NL tl : List (Addr × Obj)} {x dx l d lb : Addr} {o ob : Obj} {e : Nat} {n : Nat} {h₁ h₂ : Int} {t₁ t₂ t₃ t₄ t₅ : Tok} {i : Int} {r1 v : Value} {d1 : Dat}
    (hN : News h₀ L h ((x, instObj 226 dx) :: (dx, dictOf [⟨h₁, .str (S "head") t₁, .ref d⟩, ⟨h₂, .str (S "octets") t₂, v⟩] n) :: (P ++ ((lb, ob) :: (((l, listOf #[r1] e) :: (tl ++ [(d, o)])) ++ Y)))))
    (hP0 : PenSt pa la b P0) (hP : PenSt pa la b' P) (hz : ∀ p ∈ NL, p ∈ Y) (lf : LeafIn tl r1 d1) (hv : v ∈ [Value.bytes [].toArray t₃, Value.bytes [97, 98, 99].toArray t₄]) (ab : Above (P0 ++ Y) ((l, listOf #[r1] e) :: (tl ++ [(d, o)])))
    (l1 : ∀ p ∈ P ++ ((lb, ob) :: (((l, listOf #[r1] e) :: (tl ++ [(d, o)])) ++ Y)), @LT.lt Nat _ p.1 dx) (l2 : @LT.lt Nat _ dx x) (hd : o.IsDictOf (PySem.strKind PROG w) [(S "Length", .int i t₅), (S "K", .ref l)]) (lo : (d == sysModules) = false) :
    ∃ T dd, News h₀ L h (T ++ (P ++ NL)) ∧ Above (P ++ NL) T ∧ ThIn w T (k + 3) (.ref x) dd := by
  obtain ⟨dd, hdd, hdi⟩ := dict_ex (w := w) (T := (x, instObj 226 dx) :: (dx, dictOf [⟨h₁, .str (S "head") t₁, .ref d⟩, ⟨h₂, .str (S "octets") t₂, v⟩] n) :: (l, listOf #[r1] e) :: (tl ++ [(d, o)])) (R := ThIn w ((x, instObj 226 dx) :: (dx, dictOf [⟨h₁, .str (S "head") t₁, .ref d⟩, ⟨h₂, .str (S "octets") t₂, v⟩] n) :: (l, listOf #[r1] e) :: (tl ++ [(d, o)])) (k + 1)) (ds := [tag "int" [.int i], tag "array" [d1]])
    (.tail _ (.tail _ (.tail _ (List.mem_append.mpr (.inr (.head _)))))) hd lo (show ([S "Length", S "K"]).Nodup by decide) (by simp)
    (.cons (.inl (.int _ _)) (.cons (.inr (.inl ⟨l, e, [r1], [d1], rfl, .tail _ (.tail _ (.head _)), .cons (th_leaf (lf.mono fun p hp => .tail _ (.tail _ (.tail _ (List.mem_append.mpr (.inl hp))))) k) .nil, by simp, rfl⟩)) .nil))
  have main : ∀ (c : Array UInt8) (u : Tok), v = .bytes c u → c.size ≤ 100 → ∃ dd, ThIn w ((x, instObj 226 dx) :: (dx, dictOf [⟨h₁, .str (S "head") t₁, .ref d⟩, ⟨h₂, .str (S "octets") t₂, v⟩] n) :: (l, listOf #[r1] e) :: (tl ++ [(d, o)])) (k + 3) (.ref x) dd := by
    rintro c u rfl hc
    exact ⟨_, .inr (.inr (.inr ⟨x, dx, h₁, h₂, t₁, t₂, u, n, d, dd, c, rfl, .head _, .tail _ (.head _), hc, .inr (.inr (.inl hdd)), hdi, rfl⟩))⟩
  have hth : ∃ dd, ThIn w ((x, instObj 226 dx) :: (dx, dictOf [⟨h₁, .str (S "head") t₁, .ref d⟩, ⟨h₂, .str (S "octets") t₂, v⟩] n) :: (l, listOf #[r1] e) :: (tl ++ [(d, o)])) (k + 3) (.ref x) dd := by
    rcases List.mem_cons.mp hv with hv | hv
    · exact main _ _ hv (by decide)
    · exact main _ _ (List.mem_singleton.mp hv) (by decide)
  obtain ⟨d9, h9⟩ := hth
  refine ⟨_, d9, news_sub hN fun q hq => ?_, ?_, h9⟩
  · rcases List.mem_append.mp hq with hq | hq
    · rcases List.mem_cons.mp hq with rfl | hq
      · exact .head _
      · rcases List.mem_cons.mp hq with rfl | hq
        · exact .tail _ (.head _)
        · exact .tail _ (.tail _ (List.mem_append.mpr (.inr (.tail _ (List.mem_append.mpr (.inl hq))))))
    · rcases List.mem_append.mp hq with hq | hq
      · exact .tail _ (.tail _ (List.mem_append.mpr (.inl hq)))
      · exact .tail _ (.tail _ (List.mem_append.mpr (.inr (.tail _ (List.mem_append.mpr (.inr (hz q hq)))))))
  · intro q hq p hp
    have hq1 : @LT.lt Nat _ q.1 dx := by
      rcases List.mem_append.mp hq with hq | hq
      · exact l1 q (List.mem_append.mpr (.inl hq))
      · exact l1 q (List.mem_append.mpr (.inr (.tail _ (List.mem_append.mpr (.inr (hz q hq))))))
    rcases List.mem_cons.mp hp with rfl | hp
    · exact Nat.lt_trans hq1 l2
    · rcases List.mem_cons.mp hp with rfl | hp
      · exact hq1
      · refine above_pen hP0 hP ab q ?_ p hp
        rcases List.mem_append.mp hq with hq | hq
        · exact List.mem_append.mpr (.inl hq)
        · exact List.mem_append.mpr (.inr (hz q hq))
theorem sub2 {a c : Addr × Obj} {NL : List (Addr × Obj)} : ∀ p ∈ NL, p ∈ a :: c :: NL := fun p hp => .tail _ (.tail _ hp)
theorem sub4 {a c e f : Addr × Obj} {NL : List (Addr × Obj)} : ∀ p ∈ NL, p ∈ a :: c :: e :: f :: NL := fun p hp => .tail _ (.tail _ (.tail _ (.tail _ hp)))
end
section
set_option hygiene false in
local macro_rules | `(tactic| walk_at "KdnMade") => `(tactic| (k_here; k_dflt ((rename PenSt _ _ _ _ => hPo); (rename Hi _ _ _ => hHc); (refine' made_K ?F ?N hPo hHc ?ab ?ll ?ly ?hd ?hk ?hn ?_; (case F => k_asm); (case N => k_asm); (case ab => assumption); (case ll => assumption); (case ly => assumption); (case hd => assumption); (case hk => exact rfl); (case hn => (show ([S "Length", S "K"]).Nodup; decide))); (clear hHc; have hP6 := hPo; intro h6 o6 F6 N6 hHc ab6 hd6; (try k_sweep)))))
set_option maxRecDepth 100000 in
set_option maxHeartbeats 2000000 in
theorem thing_succ {w : World} {p : Program} {loose : List Str} {mean : ExcName → Option Value} {mg mb : Str → Option Value} {k : Nat} (IH : ThingOk w p loose mean mg mb k) : ThingOk w p loose mean mg mb (k + 1) := by
  intro pa la P NL b t hP hHi hb
  have hKK : KK (k + 1) = 5 + 3 * KK k := rfl
  have hK := KK_pos k
  have hkp : ((k + 1 : Nat) : Int) > 0 := by omega
  unfold Spec
  intro dp u gd A₀ base h₀ env outer L m s Q E B F X Tp hf hk hd hu N hret
  refine wpAny_call ?_
  refine' code_defCG B F X N Tp rfl hf hk ?k6 ?k7 (asm2 hd) ?k9 ?kB ?kD ?_ ?c2 ?c3 ?c4
  case k6 => k_is
  case k7 => k_is
  case k9 => exact BindsTo.of_eq rfl
  case kB => exact rfl
  case kD => decide +kernel
  case c2 => exact rfl
  case c3 => exact rfl
  case c4 => exact rfl
  intro g' L' h' tk' cells' FG' F' N' Y' B' X' T' l1 kG'
  k_cells Y'
  (try simp only [List.cons_append, List.nil_append] at N')
  (try dsimp only)
  (try k_fold)
  obtain ⟨hHc, Nc⟩ := thing_enter hP l1 hHi N'
  clear N' hHi
  iterate 19 (all_goals (try (first | (k_unfold; (try dsimp only)) | (k_end; wrow_close) | ((fail_if_success (fail_if_success (with_reducible show wpAny _ _ (call (Value.ref _) _) _ _ _))); (first | (k_here; k_dflt ((rename PenSt _ _ _ _ => hPo); (rename Hi _ _ _ => hHc); (first | (refine' spec_useG (law_leaf hPo ?hb9z hHc) ?B9z ?F9z ?X9z ?T9z rfl rfl ?hd9z ?hu9z ?N9z ?_; (case B9z => k_asm); (case F9z => k_asm); (case X9z => k_asm); (case T9z => k_asm); (case hd9z => k_room); (case hu9z => k_units); (case N9z => k_asm); (case hb9z => omega)) | ((refine' pen_norm hPo hHc ?N09z ?l09z ?_; (case N09z => k_asm); (case l09z => assumption); clear hHc; intro hHc Nc); refine' spec_useG (law_leaf hPo ?hb9z hHc) ?B9z ?F9z ?X9z ?T9z rfl rfl ?hd9z ?hu9z ?N9z ?_; (case B9z => k_asm); (case F9z => k_asm); (case X9z => k_asm); (case T9z => k_asm); (case hd9z => k_room); (case hu9z => k_units); (case N9z => k_asm); (case hb9z => omega))); (intro GG hGG r1 h1 tk1 NL1 F1 N1 x1 P1; obtain ⟨P', tl1, d1, e1, hP, ab1, lf1⟩ := P1; subst e1; refine hGG _ _ _ _ ?_; clear hGG GG; clear x1; (try k_sweep)))) | (k_here; k_dflt ((rename PenSt _ _ _ _ => hPo); (rename Hi _ _ _ => hHc); (first | (refine' spec_useG (draw_ok hPo ?hb9z hHc ?g39z ?g49z) ?B9z ?F9z ?X9z ?T9z rfl rfl ?hd9z ?hu9z ?N9z ?_; (case B9z => k_asm); (case F9z => k_asm); (case X9z => k_asm); (case T9z => k_asm); (case hd9z => k_room); (case hu9z => k_units); (case N9z => k_asm); (case hb9z => omega); (case g39z => decide); (case g49z => decide)) | ((refine' pen_norm hPo hHc ?N09z ?l09z ?_; (case N09z => k_asm); (case l09z => assumption); clear hHc; intro hHc Nc); refine' spec_useG (draw_ok hPo ?hb9z hHc ?g39z ?g49z) ?B9z ?F9z ?X9z ?T9z rfl rfl ?hd9z ?hu9z ?N9z ?_; (case B9z => k_asm); (case F9z => k_asm); (case X9z => k_asm); (case T9z => k_asm); (case hd9z => k_room); (case hu9z => k_units); (case N9z => k_asm); (case hb9z => omega); (case g39z => decide); (case g49z => decide))); (intro GG hGG r1 h1 tk1 NL1 F1 N1 x1 P1; obtain ⟨P', d1, t1, e1, hP, e2, hd1, hd2⟩ := P1; subst e1 e2; refine hGG _ _ _ _ ?_; clear hGG GG; clear x1; have hodd := odd_fmod d1; (try k_sweep))))); try dsimp only) | ((fail_if_success (fail_if_success (with_reducible show wpAny _ _ (eval (PySem.Expr.Name _ _) _) _ _ _))); (k_here; k_dflt (refine' nameX_L ?F9z ?v9z ?_ ?a9z ?b9z ?c9z; (case F9z => k_asm); (case v9z => with_unfolding_all assumption); (case a9z => exact rfl); (case b9z => exact rfl); (case c9z => decide))); try dsimp only) | ((fail_if_success (fail_if_success (with_reducible show wpAny _ _ (subscriptTail _ _ _ _) _ _ _))); (first | (k_here; (fail_if_success (fail_if_success (with_reducible show wpAny _ _ (subscriptTail _ _ (Value.ref _) (Value.int _ _)) _ _ _))); k_dflt (refine' list_pick ?N9z ?hm9z ?h09z ?h19z ?hz9z ?_; (case N9z => k_asm); (case hm9z => k_mem); (case h09z => assumption); (case h19z => (simp only [List.length_cons, List.length_nil]; omega)); (case hz9z => (simp only [List.length_cons, List.length_nil]; omega)); intro x9 hx9)) | (k_here; (fail_if_success (fail_if_success (with_reducible show wpAny _ _ (subscriptTail _ _ (Value.ref _) (Value.ref _)) _ _ _))); k_dflt (refine' list_upto_N ?F9z ?N9z ?hm9z ?h09z ?hz9z ?_; (case F9z => k_asm); (case N9z => k_asm); (case hm9z => k_mem); (case h09z => assumption); (case hz9z => (simp only [List.length_cons, List.length_nil]; omega)); intro D7 h7 F7 N7 lt7))); try dsimp only) | ((fail_if_success (fail_if_success (with_reducible show wpAny _ _ (pyIter (Value.ref _)) _ _ _))); (first | (k_here; (fail_if_success (fail_if_success (with_reducible show wpAny _ _ _ (fun _ _ => CompRun _ _ _ _ _ (.ListComp (.Tuple _ _ _) _ _ _) _ _ _ _ _) _ _))); k_dflt ((rename PenSt _ _ _ _ => hPo); (rename Hi _ _ _ => hHc); (refine' pen_norm hPo hHc ?N09z ?l09z ?_; (case N09z => k_asm); (case l09z => assumption); clear hHc; intro hHc Nc); (refine' thing_keys IH ?B9z ?F9z ?X9z ?T9z ?e19z ?e29z ?e39z ?e49z ?e59z ?hd9z ?hu9z hPo hHc ?hb9z ?N9z ?c19z ?m19z ?q19z ?c29z ?m29z ?q29z (List.Mem.head _) ((cab _ _ _).take _) ?hl9z ?_; (case B9z => k_asm); (case F9z => k_asm); (case X9z => k_asm); (case T9z => k_asm); (case hd9z => k_room); (case hu9z => k_units); (case N9z => k_asm); (case e19z => exact rfl); (case e29z => exact rfl); (case e39z => exact rfl); (case e49z => exact rfl); (case e59z => exact rfl); (case hb9z => omega); (case c19z => exact rfl); (case m19z => k_mem); (case q19z => assumption); (case c29z => exact rfl); (case m29z => k_mem); (case q29z => assumption); (case hl9z => (simp only [List.length_take, List.length_cons, List.length_nil]; omega))); (intro D9 ys9 kD9 P9 tl9 kvs9 ds9 h9 tk9 ltD neD F9 N9 hP9 ab9 al9 hk9 len9; (try k_sweep)))) | (k_here; (fail_if_success (fail_if_success (with_reducible show wpAny _ _ _ (fun _ _ => CompRun _ _ _ _ _ (.ListComp (.Call _ _ _ _) _ _ _) _ _ _ _ _) _ _))); k_dflt ((rename PenSt _ _ _ _ => hPo); (refine' thing_rng IH ?B9z ?F9z ?X9z ?T9z ?e19z ?e29z ?e39z ?e49z ?e59z ?hd9z ?hu9z hPo hHc ?hb9z ?N9z ?c19z ?m19z ?q19z ?c29z ?m29z ?q29z ?hr9z ?h09z ?h49z ?_; (case B9z => k_asm); (case F9z => k_asm); (case X9z => k_asm); (case T9z => k_asm); (case e19z => exact rfl); (case e29z => exact rfl); (case e39z => exact rfl); (case e49z => exact rfl); (case e59z => exact rfl); (case hd9z => k_room); (case hu9z => k_units); (case N9z => k_asm); (case hb9z => omega); (case c19z => exact rfl); (case m19z => k_mem); (case q19z => assumption); (case c29z => exact rfl); (case m29z => k_mem); (case q29z => assumption); (case hr9z => assumption); (case h09z => assumption); (case h49z => assumption)); (intro D9 ys9 kD9 P9 tl9 ds9 h9 tk9 ltD neD F9 N9 hP9 ab9 al9 len9; (try k_sweep))))); try dsimp only) | ((fail_if_success (fail_if_success (with_reducible show wpAny _ _ (call (Value.type "dict") _) _ _ _))); (k_here; k_dflt ((refine' dict_pairs_N rfl ?F9z ?N9z (Top.nolimit ?T9z) (List.Mem.head _) ?hn9z ?hz9z ?hp9z ?_; (case F9z => k_asm); (case N9z => k_asm); (case T9z => k_asm); (case hn9z => (rw [hk9]; exact cab_nodup _)); (case hz9z => (have := congrArg List.length hk9; simp only [List.length_map, List.length_take, List.length_cons, List.length_nil] at this; omega)); (case hp9z => exact pairs_at N9 (fun p hp => .tail _ (List.mem_append.mpr (.inr (List.mem_append.mpr (.inl hp))))) al9)); (intro D8 o8 h8 tk8 F8 N8 lt8 lo8 hd8; (try k_sweep)))); try dsimp only) | (walk1; try dsimp only) | (dsimp only; walk1; try dsimp only))))
  have hway : d1 = 0 ∨ d1 = 1 ∨ d1 = 2 ∨ d1 = 3 ∨ d1 = 4 := by omega
  rcases hway with rfl | rfl | rfl | rfl | rfl
  · repeat' (first | (k_unfold; (try dsimp only)) | (k_end; wrow_close) | ((fail_if_success (fail_if_success (with_reducible show wpAny _ _ (call (Value.ref _) _) _ _ _))); (first | (k_here; k_dflt ((rename PenSt _ _ _ _ => hPo); (rename Hi _ _ _ => hHc); (first | (refine' spec_useG (law_leaf hPo ?hb9z hHc) ?B9z ?F9z ?X9z ?T9z rfl rfl ?hd9z ?hu9z ?N9z ?_; (case B9z => k_asm); (case F9z => k_asm); (case X9z => k_asm); (case T9z => k_asm); (case hd9z => k_room); (case hu9z => k_units); (case N9z => k_asm); (case hb9z => omega)) | ((refine' pen_norm hPo hHc ?N09z ?l09z ?_; (case N09z => k_asm); (case l09z => assumption); clear hHc; intro hHc Nc); refine' spec_useG (law_leaf hPo ?hb9z hHc) ?B9z ?F9z ?X9z ?T9z rfl rfl ?hd9z ?hu9z ?N9z ?_; (case B9z => k_asm); (case F9z => k_asm); (case X9z => k_asm); (case T9z => k_asm); (case hd9z => k_room); (case hu9z => k_units); (case N9z => k_asm); (case hb9z => omega))); (intro GG hGG r1 h1 tk1 NL1 F1 N1 x1 P1; obtain ⟨P', tl1, d1, e1, hP, ab1, lf1⟩ := P1; subst e1; refine hGG _ _ _ _ ?_; clear hGG GG; clear x1; (try k_sweep)))) | (k_here; k_dflt ((rename PenSt _ _ _ _ => hPo); (rename Hi _ _ _ => hHc); (first | (refine' spec_useG (draw_ok hPo ?hb9z hHc ?g39z ?g49z) ?B9z ?F9z ?X9z ?T9z rfl rfl ?hd9z ?hu9z ?N9z ?_; (case B9z => k_asm); (case F9z => k_asm); (case X9z => k_asm); (case T9z => k_asm); (case hd9z => k_room); (case hu9z => k_units); (case N9z => k_asm); (case hb9z => omega); (case g39z => decide); (case g49z => decide)) | ((refine' pen_norm hPo hHc ?N09z ?l09z ?_; (case N09z => k_asm); (case l09z => assumption); clear hHc; intro hHc Nc); refine' spec_useG (draw_ok hPo ?hb9z hHc ?g39z ?g49z) ?B9z ?F9z ?X9z ?T9z rfl rfl ?hd9z ?hu9z ?N9z ?_; (case B9z => k_asm); (case F9z => k_asm); (case X9z => k_asm); (case T9z => k_asm); (case hd9z => k_room); (case hu9z => k_units); (case N9z => k_asm); (case hb9z => omega); (case g39z => decide); (case g49z => decide))); (intro GG hGG r1 h1 tk1 NL1 F1 N1 x1 P1; obtain ⟨P', d1, t1, e1, hP, e2, hd1, hd2⟩ := P1; subst e1 e2; refine hGG _ _ _ _ ?_; clear hGG GG; clear x1; have hodd := odd_fmod d1; (try k_sweep))))); try dsimp only) | ((fail_if_success (fail_if_success (with_reducible show wpAny _ _ (eval (PySem.Expr.Name _ _) _) _ _ _))); (k_here; k_dflt (refine' nameX_L ?F9z ?v9z ?_ ?a9z ?b9z ?c9z; (case F9z => k_asm); (case v9z => with_unfolding_all assumption); (case a9z => exact rfl); (case b9z => exact rfl); (case c9z => decide))); try dsimp only) | ((fail_if_success (fail_if_success (with_reducible show wpAny _ _ (subscriptTail _ _ _ _) _ _ _))); (first | (k_here; (fail_if_success (fail_if_success (with_reducible show wpAny _ _ (subscriptTail _ _ (Value.ref _) (Value.int _ _)) _ _ _))); k_dflt (refine' list_pick ?N9z ?hm9z ?h09z ?h19z ?hz9z ?_; (case N9z => k_asm); (case hm9z => k_mem); (case h09z => assumption); (case h19z => (simp only [List.length_cons, List.length_nil]; omega)); (case hz9z => (simp only [List.length_cons, List.length_nil]; omega)); intro x9 hx9)) | (k_here; (fail_if_success (fail_if_success (with_reducible show wpAny _ _ (subscriptTail _ _ (Value.ref _) (Value.ref _)) _ _ _))); k_dflt (refine' list_upto_N ?F9z ?N9z ?hm9z ?h09z ?hz9z ?_; (case F9z => k_asm); (case N9z => k_asm); (case hm9z => k_mem); (case h09z => assumption); (case hz9z => (simp only [List.length_cons, List.length_nil]; omega)); intro D7 h7 F7 N7 lt7))); try dsimp only) | ((fail_if_success (fail_if_success (with_reducible show wpAny _ _ (pyIter (Value.ref _)) _ _ _))); (first | (k_here; (fail_if_success (fail_if_success (with_reducible show wpAny _ _ _ (fun _ _ => CompRun _ _ _ _ _ (.ListComp (.Tuple _ _ _) _ _ _) _ _ _ _ _) _ _))); k_dflt ((rename PenSt _ _ _ _ => hPo); (rename Hi _ _ _ => hHc); (refine' pen_norm hPo hHc ?N09z ?l09z ?_; (case N09z => k_asm); (case l09z => assumption); clear hHc; intro hHc Nc); (refine' thing_keys IH ?B9z ?F9z ?X9z ?T9z ?e19z ?e29z ?e39z ?e49z ?e59z ?hd9z ?hu9z hPo hHc ?hb9z ?N9z ?c19z ?m19z ?q19z ?c29z ?m29z ?q29z (List.Mem.head _) ((cab _ _ _).take _) ?hl9z ?_; (case B9z => k_asm); (case F9z => k_asm); (case X9z => k_asm); (case T9z => k_asm); (case hd9z => k_room); (case hu9z => k_units); (case N9z => k_asm); (case e19z => exact rfl); (case e29z => exact rfl); (case e39z => exact rfl); (case e49z => exact rfl); (case e59z => exact rfl); (case hb9z => omega); (case c19z => exact rfl); (case m19z => k_mem); (case q19z => assumption); (case c29z => exact rfl); (case m29z => k_mem); (case q29z => assumption); (case hl9z => (simp only [List.length_take, List.length_cons, List.length_nil]; omega))); (intro D9 ys9 kD9 P9 tl9 kvs9 ds9 h9 tk9 ltD neD F9 N9 hP9 ab9 al9 hk9 len9; (try k_sweep)))) | (k_here; (fail_if_success (fail_if_success (with_reducible show wpAny _ _ _ (fun _ _ => CompRun _ _ _ _ _ (.ListComp (.Call _ _ _ _) _ _ _) _ _ _ _ _) _ _))); k_dflt ((rename PenSt _ _ _ _ => hPo); (refine' thing_rng IH ?B9z ?F9z ?X9z ?T9z ?e19z ?e29z ?e39z ?e49z ?e59z ?hd9z ?hu9z hPo hHc ?hb9z ?N9z ?c19z ?m19z ?q19z ?c29z ?m29z ?q29z ?hr9z ?h09z ?h49z ?_; (case B9z => k_asm); (case F9z => k_asm); (case X9z => k_asm); (case T9z => k_asm); (case e19z => exact rfl); (case e29z => exact rfl); (case e39z => exact rfl); (case e49z => exact rfl); (case e59z => exact rfl); (case hd9z => k_room); (case hu9z => k_units); (case N9z => k_asm); (case hb9z => omega); (case c19z => exact rfl); (case m19z => k_mem); (case q19z => assumption); (case c29z => exact rfl); (case m29z => k_mem); (case q29z => assumption); (case hr9z => assumption); (case h09z => assumption); (case h49z => assumption)); (intro D9 ys9 kD9 P9 tl9 ds9 h9 tk9 ltD neD F9 N9 hP9 ab9 al9 len9; (try k_sweep))))); try dsimp only) | ((fail_if_success (fail_if_success (with_reducible show wpAny _ _ (call (Value.type "dict") _) _ _ _))); (k_here; k_dflt ((refine' dict_pairs_N rfl ?F9z ?N9z (Top.nolimit ?T9z) (List.Mem.head _) ?hn9z ?hz9z ?hp9z ?_; (case F9z => k_asm); (case N9z => k_asm); (case T9z => k_asm); (case hn9z => (rw [hk9]; exact cab_nodup _)); (case hz9z => (have := congrArg List.length hk9; simp only [List.length_map, List.length_take, List.length_cons, List.length_nil] at this; omega)); (case hp9z => exact pairs_at N9 (fun p hp => .tail _ (List.mem_append.mpr (.inr (List.mem_append.mpr (.inl hp))))) al9)); (intro D8 o8 h8 tk8 F8 N8 lt8 lo8 hd8; (try k_sweep)))); try dsimp only) | (walk1; try dsimp only) | (dsimp only; walk1; try dsimp only))
    rename News h₀ L _ _ => kN9
    exact hret _ _ _ _ (by assumption) (fin_sub sub2 kN9) (ext_of kG' (by assumption)) ⟨P9, _, _, rfl, hP9.le (by omega), fin_above hPo hP9 ltD ab9 sub2, .inr (.inl ⟨_, _, _, _, rfl, .head _, al9.mono fun _ _ => ThIn.mono fun p hp => .tail _ hp, len9, rfl⟩)⟩
  · repeat' (first | (k_unfold; (try dsimp only)) | (k_end; wrow_close) | ((fail_if_success (fail_if_success (with_reducible show wpAny _ _ (call (Value.ref _) _) _ _ _))); (first | (k_here; k_dflt ((rename PenSt _ _ _ _ => hPo); (rename Hi _ _ _ => hHc); (first | (refine' spec_useG (law_leaf hPo ?hb9z hHc) ?B9z ?F9z ?X9z ?T9z rfl rfl ?hd9z ?hu9z ?N9z ?_; (case B9z => k_asm); (case F9z => k_asm); (case X9z => k_asm); (case T9z => k_asm); (case hd9z => k_room); (case hu9z => k_units); (case N9z => k_asm); (case hb9z => omega)) | ((refine' pen_norm hPo hHc ?N09z ?l09z ?_; (case N09z => k_asm); (case l09z => assumption); clear hHc; intro hHc Nc); refine' spec_useG (law_leaf hPo ?hb9z hHc) ?B9z ?F9z ?X9z ?T9z rfl rfl ?hd9z ?hu9z ?N9z ?_; (case B9z => k_asm); (case F9z => k_asm); (case X9z => k_asm); (case T9z => k_asm); (case hd9z => k_room); (case hu9z => k_units); (case N9z => k_asm); (case hb9z => omega))); (intro GG hGG r1 h1 tk1 NL1 F1 N1 x1 P1; obtain ⟨P', tl1, d1, e1, hP, ab1, lf1⟩ := P1; subst e1; refine hGG _ _ _ _ ?_; clear hGG GG; clear x1; (try k_sweep)))) | (k_here; k_dflt ((rename PenSt _ _ _ _ => hPo); (rename Hi _ _ _ => hHc); (first | (refine' spec_useG (draw_ok hPo ?hb9z hHc ?g39z ?g49z) ?B9z ?F9z ?X9z ?T9z rfl rfl ?hd9z ?hu9z ?N9z ?_; (case B9z => k_asm); (case F9z => k_asm); (case X9z => k_asm); (case T9z => k_asm); (case hd9z => k_room); (case hu9z => k_units); (case N9z => k_asm); (case hb9z => omega); (case g39z => decide); (case g49z => decide)) | ((refine' pen_norm hPo hHc ?N09z ?l09z ?_; (case N09z => k_asm); (case l09z => assumption); clear hHc; intro hHc Nc); refine' spec_useG (draw_ok hPo ?hb9z hHc ?g39z ?g49z) ?B9z ?F9z ?X9z ?T9z rfl rfl ?hd9z ?hu9z ?N9z ?_; (case B9z => k_asm); (case F9z => k_asm); (case X9z => k_asm); (case T9z => k_asm); (case hd9z => k_room); (case hu9z => k_units); (case N9z => k_asm); (case hb9z => omega); (case g39z => decide); (case g49z => decide))); (intro GG hGG r1 h1 tk1 NL1 F1 N1 x1 P1; obtain ⟨P', d1, t1, e1, hP, e2, hd1, hd2⟩ := P1; subst e1 e2; refine hGG _ _ _ _ ?_; clear hGG GG; clear x1; have hodd := odd_fmod d1; (try k_sweep))))); try dsimp only) | ((fail_if_success (fail_if_success (with_reducible show wpAny _ _ (eval (PySem.Expr.Name _ _) _) _ _ _))); (k_here; k_dflt (refine' nameX_L ?F9z ?v9z ?_ ?a9z ?b9z ?c9z; (case F9z => k_asm); (case v9z => with_unfolding_all assumption); (case a9z => exact rfl); (case b9z => exact rfl); (case c9z => decide))); try dsimp only) | ((fail_if_success (fail_if_success (with_reducible show wpAny _ _ (subscriptTail _ _ _ _) _ _ _))); (first | (k_here; (fail_if_success (fail_if_success (with_reducible show wpAny _ _ (subscriptTail _ _ (Value.ref _) (Value.int _ _)) _ _ _))); k_dflt (refine' list_pick ?N9z ?hm9z ?h09z ?h19z ?hz9z ?_; (case N9z => k_asm); (case hm9z => k_mem); (case h09z => assumption); (case h19z => (simp only [List.length_cons, List.length_nil]; omega)); (case hz9z => (simp only [List.length_cons, List.length_nil]; omega)); intro x9 hx9)) | (k_here; (fail_if_success (fail_if_success (with_reducible show wpAny _ _ (subscriptTail _ _ (Value.ref _) (Value.ref _)) _ _ _))); k_dflt (refine' list_upto_N ?F9z ?N9z ?hm9z ?h09z ?hz9z ?_; (case F9z => k_asm); (case N9z => k_asm); (case hm9z => k_mem); (case h09z => assumption); (case hz9z => (simp only [List.length_cons, List.length_nil]; omega)); intro D7 h7 F7 N7 lt7))); try dsimp only) | ((fail_if_success (fail_if_success (with_reducible show wpAny _ _ (pyIter (Value.ref _)) _ _ _))); (first | (k_here; (fail_if_success (fail_if_success (with_reducible show wpAny _ _ _ (fun _ _ => CompRun _ _ _ _ _ (.ListComp (.Tuple _ _ _) _ _ _) _ _ _ _ _) _ _))); k_dflt ((rename PenSt _ _ _ _ => hPo); (rename Hi _ _ _ => hHc); (refine' pen_norm hPo hHc ?N09z ?l09z ?_; (case N09z => k_asm); (case l09z => assumption); clear hHc; intro hHc Nc); (refine' thing_keys IH ?B9z ?F9z ?X9z ?T9z ?e19z ?e29z ?e39z ?e49z ?e59z ?hd9z ?hu9z hPo hHc ?hb9z ?N9z ?c19z ?m19z ?q19z ?c29z ?m29z ?q29z (List.Mem.head _) ((cab _ _ _).take _) ?hl9z ?_; (case B9z => k_asm); (case F9z => k_asm); (case X9z => k_asm); (case T9z => k_asm); (case hd9z => k_room); (case hu9z => k_units); (case N9z => k_asm); (case e19z => exact rfl); (case e29z => exact rfl); (case e39z => exact rfl); (case e49z => exact rfl); (case e59z => exact rfl); (case hb9z => omega); (case c19z => exact rfl); (case m19z => k_mem); (case q19z => assumption); (case c29z => exact rfl); (case m29z => k_mem); (case q29z => assumption); (case hl9z => (simp only [List.length_take, List.length_cons, List.length_nil]; omega))); (intro D9 ys9 kD9 P9 tl9 kvs9 ds9 h9 tk9 ltD neD F9 N9 hP9 ab9 al9 hk9 len9; (try k_sweep)))) | (k_here; (fail_if_success (fail_if_success (with_reducible show wpAny _ _ _ (fun _ _ => CompRun _ _ _ _ _ (.ListComp (.Call _ _ _ _) _ _ _) _ _ _ _ _) _ _))); k_dflt ((rename PenSt _ _ _ _ => hPo); (refine' thing_rng IH ?B9z ?F9z ?X9z ?T9z ?e19z ?e29z ?e39z ?e49z ?e59z ?hd9z ?hu9z hPo hHc ?hb9z ?N9z ?c19z ?m19z ?q19z ?c29z ?m29z ?q29z ?hr9z ?h09z ?h49z ?_; (case B9z => k_asm); (case F9z => k_asm); (case X9z => k_asm); (case T9z => k_asm); (case e19z => exact rfl); (case e29z => exact rfl); (case e39z => exact rfl); (case e49z => exact rfl); (case e59z => exact rfl); (case hd9z => k_room); (case hu9z => k_units); (case N9z => k_asm); (case hb9z => omega); (case c19z => exact rfl); (case m19z => k_mem); (case q19z => assumption); (case c29z => exact rfl); (case m29z => k_mem); (case q29z => assumption); (case hr9z => assumption); (case h09z => assumption); (case h49z => assumption)); (intro D9 ys9 kD9 P9 tl9 ds9 h9 tk9 ltD neD F9 N9 hP9 ab9 al9 len9; (try k_sweep))))); try dsimp only) | ((fail_if_success (fail_if_success (with_reducible show wpAny _ _ (call (Value.type "dict") _) _ _ _))); (k_here; k_dflt ((refine' dict_pairs_N rfl ?F9z ?N9z (Top.nolimit ?T9z) (List.Mem.head _) ?hn9z ?hz9z ?hp9z ?_; (case F9z => k_asm); (case N9z => k_asm); (case T9z => k_asm); (case hn9z => (rw [hk9]; exact cab_nodup _)); (case hz9z => (have := congrArg List.length hk9; simp only [List.length_map, List.length_take, List.length_cons, List.length_nil] at this; omega)); (case hp9z => exact pairs_at N9 (fun p hp => .tail _ (List.mem_append.mpr (.inr (List.mem_append.mpr (.inl hp))))) al9)); (intro D8 o8 h8 tk8 F8 N8 lt8 lo8 hd8; (try k_sweep)))); try dsimp only) | (walk1; try dsimp only) | (dsimp only; walk1; try dsimp only))
    rename News h₀ L _ _ => kN9
    exact hret _ _ _ _ (by assumption) (fin_sub sub2 kN9) (ext_of kG' (by assumption)) ⟨P9, _, _, rfl, hP9.le (by omega), fin_above hPo hP9 ltD ab9 sub2, .inr (.inl ⟨_, _, _, _, rfl, .head _, al9.mono fun _ _ => ThIn.mono fun p hp => .tail _ hp, len9, rfl⟩)⟩
  · repeat' (first | (k_unfold; (try dsimp only)) | (k_end; wrow_close) | ((fail_if_success (fail_if_success (with_reducible show wpAny _ _ (call (Value.ref _) _) _ _ _))); (first | (k_here; k_dflt ((rename PenSt _ _ _ _ => hPo); (rename Hi _ _ _ => hHc); (first | (refine' spec_useG (law_leaf hPo ?hb9z hHc) ?B9z ?F9z ?X9z ?T9z rfl rfl ?hd9z ?hu9z ?N9z ?_; (case B9z => k_asm); (case F9z => k_asm); (case X9z => k_asm); (case T9z => k_asm); (case hd9z => k_room); (case hu9z => k_units); (case N9z => k_asm); (case hb9z => omega)) | ((refine' pen_norm hPo hHc ?N09z ?l09z ?_; (case N09z => k_asm); (case l09z => assumption); clear hHc; intro hHc Nc); refine' spec_useG (law_leaf hPo ?hb9z hHc) ?B9z ?F9z ?X9z ?T9z rfl rfl ?hd9z ?hu9z ?N9z ?_; (case B9z => k_asm); (case F9z => k_asm); (case X9z => k_asm); (case T9z => k_asm); (case hd9z => k_room); (case hu9z => k_units); (case N9z => k_asm); (case hb9z => omega))); (intro GG hGG r1 h1 tk1 NL1 F1 N1 x1 P1; obtain ⟨P', tl1, d1, e1, hP, ab1, lf1⟩ := P1; subst e1; refine hGG _ _ _ _ ?_; clear hGG GG; clear x1; (try k_sweep)))) | (k_here; k_dflt ((rename PenSt _ _ _ _ => hPo); (rename Hi _ _ _ => hHc); (first | (refine' spec_useG (draw_ok hPo ?hb9z hHc ?g39z ?g49z) ?B9z ?F9z ?X9z ?T9z rfl rfl ?hd9z ?hu9z ?N9z ?_; (case B9z => k_asm); (case F9z => k_asm); (case X9z => k_asm); (case T9z => k_asm); (case hd9z => k_room); (case hu9z => k_units); (case N9z => k_asm); (case hb9z => omega); (case g39z => decide); (case g49z => decide)) | ((refine' pen_norm hPo hHc ?N09z ?l09z ?_; (case N09z => k_asm); (case l09z => assumption); clear hHc; intro hHc Nc); refine' spec_useG (draw_ok hPo ?hb9z hHc ?g39z ?g49z) ?B9z ?F9z ?X9z ?T9z rfl rfl ?hd9z ?hu9z ?N9z ?_; (case B9z => k_asm); (case F9z => k_asm); (case X9z => k_asm); (case T9z => k_asm); (case hd9z => k_room); (case hu9z => k_units); (case N9z => k_asm); (case hb9z => omega); (case g39z => decide); (case g49z => decide))); (intro GG hGG r1 h1 tk1 NL1 F1 N1 x1 P1; obtain ⟨P', d1, t1, e1, hP, e2, hd1, hd2⟩ := P1; subst e1 e2; refine hGG _ _ _ _ ?_; clear hGG GG; clear x1; have hodd := odd_fmod d1; (try k_sweep))))); try dsimp only) | ((fail_if_success (fail_if_success (with_reducible show wpAny _ _ (eval (PySem.Expr.Name _ _) _) _ _ _))); (k_here; k_dflt (refine' nameX_L ?F9z ?v9z ?_ ?a9z ?b9z ?c9z; (case F9z => k_asm); (case v9z => with_unfolding_all assumption); (case a9z => exact rfl); (case b9z => exact rfl); (case c9z => decide))); try dsimp only) | ((fail_if_success (fail_if_success (with_reducible show wpAny _ _ (subscriptTail _ _ _ _) _ _ _))); (first | (k_here; (fail_if_success (fail_if_success (with_reducible show wpAny _ _ (subscriptTail _ _ (Value.ref _) (Value.int _ _)) _ _ _))); k_dflt (refine' list_pick ?N9z ?hm9z ?h09z ?h19z ?hz9z ?_; (case N9z => k_asm); (case hm9z => k_mem); (case h09z => assumption); (case h19z => (simp only [List.length_cons, List.length_nil]; omega)); (case hz9z => (simp only [List.length_cons, List.length_nil]; omega)); intro x9 hx9)) | (k_here; (fail_if_success (fail_if_success (with_reducible show wpAny _ _ (subscriptTail _ _ (Value.ref _) (Value.ref _)) _ _ _))); k_dflt (refine' list_upto_N ?F9z ?N9z ?hm9z ?h09z ?hz9z ?_; (case F9z => k_asm); (case N9z => k_asm); (case hm9z => k_mem); (case h09z => assumption); (case hz9z => (simp only [List.length_cons, List.length_nil]; omega)); intro D7 h7 F7 N7 lt7))); try dsimp only) | ((fail_if_success (fail_if_success (with_reducible show wpAny _ _ (pyIter (Value.ref _)) _ _ _))); (first | (k_here; (fail_if_success (fail_if_success (with_reducible show wpAny _ _ _ (fun _ _ => CompRun _ _ _ _ _ (.ListComp (.Tuple _ _ _) _ _ _) _ _ _ _ _) _ _))); k_dflt ((rename PenSt _ _ _ _ => hPo); (rename Hi _ _ _ => hHc); (refine' pen_norm hPo hHc ?N09z ?l09z ?_; (case N09z => k_asm); (case l09z => assumption); clear hHc; intro hHc Nc); (refine' thing_keys IH ?B9z ?F9z ?X9z ?T9z ?e19z ?e29z ?e39z ?e49z ?e59z ?hd9z ?hu9z hPo hHc ?hb9z ?N9z ?c19z ?m19z ?q19z ?c29z ?m29z ?q29z (List.Mem.head _) ((cab _ _ _).take _) ?hl9z ?_; (case B9z => k_asm); (case F9z => k_asm); (case X9z => k_asm); (case T9z => k_asm); (case hd9z => k_room); (case hu9z => k_units); (case N9z => k_asm); (case e19z => exact rfl); (case e29z => exact rfl); (case e39z => exact rfl); (case e49z => exact rfl); (case e59z => exact rfl); (case hb9z => omega); (case c19z => exact rfl); (case m19z => k_mem); (case q19z => assumption); (case c29z => exact rfl); (case m29z => k_mem); (case q29z => assumption); (case hl9z => (simp only [List.length_take, List.length_cons, List.length_nil]; omega))); (intro D9 ys9 kD9 P9 tl9 kvs9 ds9 h9 tk9 ltD neD F9 N9 hP9 ab9 al9 hk9 len9; (try k_sweep)))) | (k_here; (fail_if_success (fail_if_success (with_reducible show wpAny _ _ _ (fun _ _ => CompRun _ _ _ _ _ (.ListComp (.Call _ _ _ _) _ _ _) _ _ _ _ _) _ _))); k_dflt ((rename PenSt _ _ _ _ => hPo); (refine' thing_rng IH ?B9z ?F9z ?X9z ?T9z ?e19z ?e29z ?e39z ?e49z ?e59z ?hd9z ?hu9z hPo hHc ?hb9z ?N9z ?c19z ?m19z ?q19z ?c29z ?m29z ?q29z ?hr9z ?h09z ?h49z ?_; (case B9z => k_asm); (case F9z => k_asm); (case X9z => k_asm); (case T9z => k_asm); (case e19z => exact rfl); (case e29z => exact rfl); (case e39z => exact rfl); (case e49z => exact rfl); (case e59z => exact rfl); (case hd9z => k_room); (case hu9z => k_units); (case N9z => k_asm); (case hb9z => omega); (case c19z => exact rfl); (case m19z => k_mem); (case q19z => assumption); (case c29z => exact rfl); (case m29z => k_mem); (case q29z => assumption); (case hr9z => assumption); (case h09z => assumption); (case h49z => assumption)); (intro D9 ys9 kD9 P9 tl9 ds9 h9 tk9 ltD neD F9 N9 hP9 ab9 al9 len9; (try k_sweep))))); try dsimp only) | ((fail_if_success (fail_if_success (with_reducible show wpAny _ _ (call (Value.type "dict") _) _ _ _))); (k_here; k_dflt ((refine' dict_pairs_N rfl ?F9z ?N9z (Top.nolimit ?T9z) (List.Mem.head _) ?hn9z ?hz9z ?hp9z ?_; (case F9z => k_asm); (case N9z => k_asm); (case T9z => k_asm); (case hn9z => (rw [hk9]; exact cab_nodup _)); (case hz9z => (have := congrArg List.length hk9; simp only [List.length_map, List.length_take, List.length_cons, List.length_nil] at this; omega)); (case hp9z => exact pairs_at N9 (fun p hp => .tail _ (List.mem_append.mpr (.inr (List.mem_append.mpr (.inl hp))))) al9)); (intro D8 o8 h8 tk8 F8 N8 lt8 lo8 hd8; (try k_sweep)))); try dsimp only) | (walk1; try dsimp only) | (dsimp only; walk1; try dsimp only))
    rename News h₀ L _ _ => kN9
    have hl9 := congrArg List.length hk9
    simp only [List.length_map, List.length_take, List.length_cons, List.length_nil] at hl9
    obtain ⟨dd, hdd, _⟩ := dict_ex (T := (D8, o8) :: tl9) (R := ThIn w ((D8, o8) :: tl9) (k + 2)) (.head _) hd8 lo8 (by rw [hk9]; exact cab_nodup _) (by omega) (len9.mono fun _ _ => ThIn.mono fun p hp => .tail _ hp)
    exact hret _ _ _ _ (by assumption) (fin_sub2 sub4 kN9) (ext_of kG' (by assumption)) ⟨P9, _, _, rfl, hP9.le (by omega), fin_above hP9 hP9 (fun p hp => lt8 p (.tail _ (by rcases List.mem_append.mp hp with hp | hp; exact List.mem_append.mpr (.inl hp); exact List.mem_append.mpr (.inr (List.mem_append.mpr (.inr hp)))))) ab9 sub4, .inr (.inr (.inl hdd))⟩
  · repeat' (first | (k_unfold; (try dsimp only)) | (k_end; wrow_close) | ((fail_if_success (fail_if_success (with_reducible show wpAny _ _ (call (Value.ref _) _) _ _ _))); (first | (k_here; k_dflt ((rename PenSt _ _ _ _ => hPo); (rename Hi _ _ _ => hHc); (first | (refine' spec_useG (law_leaf hPo ?hb9z hHc) ?B9z ?F9z ?X9z ?T9z rfl rfl ?hd9z ?hu9z ?N9z ?_; (case B9z => k_asm); (case F9z => k_asm); (case X9z => k_asm); (case T9z => k_asm); (case hd9z => k_room); (case hu9z => k_units); (case N9z => k_asm); (case hb9z => omega)) | ((refine' pen_norm hPo hHc ?N09z ?l09z ?_; (case N09z => k_asm); (case l09z => assumption); clear hHc; intro hHc Nc); refine' spec_useG (law_leaf hPo ?hb9z hHc) ?B9z ?F9z ?X9z ?T9z rfl rfl ?hd9z ?hu9z ?N9z ?_; (case B9z => k_asm); (case F9z => k_asm); (case X9z => k_asm); (case T9z => k_asm); (case hd9z => k_room); (case hu9z => k_units); (case N9z => k_asm); (case hb9z => omega))); (intro GG hGG r1 h1 tk1 NL1 F1 N1 x1 P1; obtain ⟨P', tl1, d1, e1, hP, ab1, lf1⟩ := P1; subst e1; refine hGG _ _ _ _ ?_; clear hGG GG; clear x1; (try k_sweep)))) | (k_here; k_dflt ((rename PenSt _ _ _ _ => hPo); (rename Hi _ _ _ => hHc); (first | (refine' spec_useG (draw_ok hPo ?hb9z hHc ?g39z ?g49z) ?B9z ?F9z ?X9z ?T9z rfl rfl ?hd9z ?hu9z ?N9z ?_; (case B9z => k_asm); (case F9z => k_asm); (case X9z => k_asm); (case T9z => k_asm); (case hd9z => k_room); (case hu9z => k_units); (case N9z => k_asm); (case hb9z => omega); (case g39z => decide); (case g49z => decide)) | ((refine' pen_norm hPo hHc ?N09z ?l09z ?_; (case N09z => k_asm); (case l09z => assumption); clear hHc; intro hHc Nc); refine' spec_useG (draw_ok hPo ?hb9z hHc ?g39z ?g49z) ?B9z ?F9z ?X9z ?T9z rfl rfl ?hd9z ?hu9z ?N9z ?_; (case B9z => k_asm); (case F9z => k_asm); (case X9z => k_asm); (case T9z => k_asm); (case hd9z => k_room); (case hu9z => k_units); (case N9z => k_asm); (case hb9z => omega); (case g39z => decide); (case g49z => decide))); (intro GG hGG r1 h1 tk1 NL1 F1 N1 x1 P1; obtain ⟨P', d1, t1, e1, hP, e2, hd1, hd2⟩ := P1; subst e1 e2; refine hGG _ _ _ _ ?_; clear hGG GG; clear x1; have hodd := odd_fmod d1; (try k_sweep))))); try dsimp only) | ((fail_if_success (fail_if_success (with_reducible show wpAny _ _ (eval (PySem.Expr.Name _ _) _) _ _ _))); (k_here; k_dflt (refine' nameX_L ?F9z ?v9z ?_ ?a9z ?b9z ?c9z; (case F9z => k_asm); (case v9z => with_unfolding_all assumption); (case a9z => exact rfl); (case b9z => exact rfl); (case c9z => decide))); try dsimp only) | ((fail_if_success (fail_if_success (with_reducible show wpAny _ _ (subscriptTail _ _ _ _) _ _ _))); (first | (k_here; (fail_if_success (fail_if_success (with_reducible show wpAny _ _ (subscriptTail _ _ (Value.ref _) (Value.int _ _)) _ _ _))); k_dflt (refine' list_pick ?N9z ?hm9z ?h09z ?h19z ?hz9z ?_; (case N9z => k_asm); (case hm9z => k_mem); (case h09z => assumption); (case h19z => (simp only [List.length_cons, List.length_nil]; omega)); (case hz9z => (simp only [List.length_cons, List.length_nil]; omega)); intro x9 hx9)) | (k_here; (fail_if_success (fail_if_success (with_reducible show wpAny _ _ (subscriptTail _ _ (Value.ref _) (Value.ref _)) _ _ _))); k_dflt (refine' list_upto_N ?F9z ?N9z ?hm9z ?h09z ?hz9z ?_; (case F9z => k_asm); (case N9z => k_asm); (case hm9z => k_mem); (case h09z => assumption); (case hz9z => (simp only [List.length_cons, List.length_nil]; omega)); intro D7 h7 F7 N7 lt7))); try dsimp only) | ((fail_if_success (fail_if_success (with_reducible show wpAny _ _ (pyIter (Value.ref _)) _ _ _))); (first | (k_here; (fail_if_success (fail_if_success (with_reducible show wpAny _ _ _ (fun _ _ => CompRun _ _ _ _ _ (.ListComp (.Tuple _ _ _) _ _ _) _ _ _ _ _) _ _))); k_dflt ((rename PenSt _ _ _ _ => hPo); (rename Hi _ _ _ => hHc); (refine' pen_norm hPo hHc ?N09z ?l09z ?_; (case N09z => k_asm); (case l09z => assumption); clear hHc; intro hHc Nc); (refine' thing_keys IH ?B9z ?F9z ?X9z ?T9z ?e19z ?e29z ?e39z ?e49z ?e59z ?hd9z ?hu9z hPo hHc ?hb9z ?N9z ?c19z ?m19z ?q19z ?c29z ?m29z ?q29z (List.Mem.head _) ((cab _ _ _).take _) ?hl9z ?_; (case B9z => k_asm); (case F9z => k_asm); (case X9z => k_asm); (case T9z => k_asm); (case hd9z => k_room); (case hu9z => k_units); (case N9z => k_asm); (case e19z => exact rfl); (case e29z => exact rfl); (case e39z => exact rfl); (case e49z => exact rfl); (case e59z => exact rfl); (case hb9z => omega); (case c19z => exact rfl); (case m19z => k_mem); (case q19z => assumption); (case c29z => exact rfl); (case m29z => k_mem); (case q29z => assumption); (case hl9z => (simp only [List.length_take, List.length_cons, List.length_nil]; omega))); (intro D9 ys9 kD9 P9 tl9 kvs9 ds9 h9 tk9 ltD neD F9 N9 hP9 ab9 al9 hk9 len9; (try k_sweep)))) | (k_here; (fail_if_success (fail_if_success (with_reducible show wpAny _ _ _ (fun _ _ => CompRun _ _ _ _ _ (.ListComp (.Call _ _ _ _) _ _ _) _ _ _ _ _) _ _))); k_dflt ((rename PenSt _ _ _ _ => hPo); (refine' thing_rng IH ?B9z ?F9z ?X9z ?T9z ?e19z ?e29z ?e39z ?e49z ?e59z ?hd9z ?hu9z hPo hHc ?hb9z ?N9z ?c19z ?m19z ?q19z ?c29z ?m29z ?q29z ?hr9z ?h09z ?h49z ?_; (case B9z => k_asm); (case F9z => k_asm); (case X9z => k_asm); (case T9z => k_asm); (case e19z => exact rfl); (case e29z => exact rfl); (case e39z => exact rfl); (case e49z => exact rfl); (case e59z => exact rfl); (case hd9z => k_room); (case hu9z => k_units); (case N9z => k_asm); (case hb9z => omega); (case c19z => exact rfl); (case m19z => k_mem); (case q19z => assumption); (case c29z => exact rfl); (case m29z => k_mem); (case q29z => assumption); (case hr9z => assumption); (case h09z => assumption); (case h49z => assumption)); (intro D9 ys9 kD9 P9 tl9 ds9 h9 tk9 ltD neD F9 N9 hP9 ab9 al9 len9; (try k_sweep))))); try dsimp only) | ((fail_if_success (fail_if_success (with_reducible show wpAny _ _ (call (Value.type "dict") _) _ _ _))); (k_here; k_dflt ((refine' dict_pairs_N rfl ?F9z ?N9z (Top.nolimit ?T9z) (List.Mem.head _) ?hn9z ?hz9z ?hp9z ?_; (case F9z => k_asm); (case N9z => k_asm); (case T9z => k_asm); (case hn9z => (rw [hk9]; exact cab_nodup _)); (case hz9z => (have := congrArg List.length hk9; simp only [List.length_map, List.length_take, List.length_cons, List.length_nil] at this; omega)); (case hp9z => exact pairs_at N9 (fun p hp => .tail _ (List.mem_append.mpr (.inr (List.mem_append.mpr (.inl hp))))) al9)); (intro D8 o8 h8 tk8 F8 N8 lt8 lo8 hd8; (try k_sweep)))); try dsimp only) | (walk1; try dsimp only) | (dsimp only; walk1; try dsimp only))
    rename News h₀ L _ _ => kN9
    obtain ⟨T9, d9, n9, a9, t9⟩ := fin_str (k := k) kN9 hPo hP sub2 lf1 (by assumption) ab6 (by assumption) (by assumption) hd6 (by assumption)
    exact hret _ _ _ _ (by assumption) n9 (ext_of kG' (by assumption)) ⟨_, T9, d9, rfl, hP.le (by omega), a9, t9⟩
  · repeat' (first | (k_unfold; (try dsimp only)) | (k_end; wrow_close) | ((fail_if_success (fail_if_success (with_reducible show wpAny _ _ (call (Value.ref _) _) _ _ _))); (first | (k_here; k_dflt ((rename PenSt _ _ _ _ => hPo); (rename Hi _ _ _ => hHc); (first | (refine' spec_useG (law_leaf hPo ?hb9z hHc) ?B9z ?F9z ?X9z ?T9z rfl rfl ?hd9z ?hu9z ?N9z ?_; (case B9z => k_asm); (case F9z => k_asm); (case X9z => k_asm); (case T9z => k_asm); (case hd9z => k_room); (case hu9z => k_units); (case N9z => k_asm); (case hb9z => omega)) | ((refine' pen_norm hPo hHc ?N09z ?l09z ?_; (case N09z => k_asm); (case l09z => assumption); clear hHc; intro hHc Nc); refine' spec_useG (law_leaf hPo ?hb9z hHc) ?B9z ?F9z ?X9z ?T9z rfl rfl ?hd9z ?hu9z ?N9z ?_; (case B9z => k_asm); (case F9z => k_asm); (case X9z => k_asm); (case T9z => k_asm); (case hd9z => k_room); (case hu9z => k_units); (case N9z => k_asm); (case hb9z => omega))); (intro GG hGG r1 h1 tk1 NL1 F1 N1 x1 P1; obtain ⟨P', tl1, d1, e1, hP, ab1, lf1⟩ := P1; subst e1; refine hGG _ _ _ _ ?_; clear hGG GG; clear x1; (try k_sweep)))) | (k_here; k_dflt ((rename PenSt _ _ _ _ => hPo); (rename Hi _ _ _ => hHc); (first | (refine' spec_useG (draw_ok hPo ?hb9z hHc ?g39z ?g49z) ?B9z ?F9z ?X9z ?T9z rfl rfl ?hd9z ?hu9z ?N9z ?_; (case B9z => k_asm); (case F9z => k_asm); (case X9z => k_asm); (case T9z => k_asm); (case hd9z => k_room); (case hu9z => k_units); (case N9z => k_asm); (case hb9z => omega); (case g39z => decide); (case g49z => decide)) | ((refine' pen_norm hPo hHc ?N09z ?l09z ?_; (case N09z => k_asm); (case l09z => assumption); clear hHc; intro hHc Nc); refine' spec_useG (draw_ok hPo ?hb9z hHc ?g39z ?g49z) ?B9z ?F9z ?X9z ?T9z rfl rfl ?hd9z ?hu9z ?N9z ?_; (case B9z => k_asm); (case F9z => k_asm); (case X9z => k_asm); (case T9z => k_asm); (case hd9z => k_room); (case hu9z => k_units); (case N9z => k_asm); (case hb9z => omega); (case g39z => decide); (case g49z => decide))); (intro GG hGG r1 h1 tk1 NL1 F1 N1 x1 P1; obtain ⟨P', d1, t1, e1, hP, e2, hd1, hd2⟩ := P1; subst e1 e2; refine hGG _ _ _ _ ?_; clear hGG GG; clear x1; have hodd := odd_fmod d1; (try k_sweep))))); try dsimp only) | ((fail_if_success (fail_if_success (with_reducible show wpAny _ _ (eval (PySem.Expr.Name _ _) _) _ _ _))); (k_here; k_dflt (refine' nameX_L ?F9z ?v9z ?_ ?a9z ?b9z ?c9z; (case F9z => k_asm); (case v9z => with_unfolding_all assumption); (case a9z => exact rfl); (case b9z => exact rfl); (case c9z => decide))); try dsimp only) | ((fail_if_success (fail_if_success (with_reducible show wpAny _ _ (subscriptTail _ _ _ _) _ _ _))); (first | (k_here; (fail_if_success (fail_if_success (with_reducible show wpAny _ _ (subscriptTail _ _ (Value.ref _) (Value.int _ _)) _ _ _))); k_dflt (refine' list_pick ?N9z ?hm9z ?h09z ?h19z ?hz9z ?_; (case N9z => k_asm); (case hm9z => k_mem); (case h09z => assumption); (case h19z => (simp only [List.length_cons, List.length_nil]; omega)); (case hz9z => (simp only [List.length_cons, List.length_nil]; omega)); intro x9 hx9)) | (k_here; (fail_if_success (fail_if_success (with_reducible show wpAny _ _ (subscriptTail _ _ (Value.ref _) (Value.ref _)) _ _ _))); k_dflt (refine' list_upto_N ?F9z ?N9z ?hm9z ?h09z ?hz9z ?_; (case F9z => k_asm); (case N9z => k_asm); (case hm9z => k_mem); (case h09z => assumption); (case hz9z => (simp only [List.length_cons, List.length_nil]; omega)); intro D7 h7 F7 N7 lt7))); try dsimp only) | ((fail_if_success (fail_if_success (with_reducible show wpAny _ _ (pyIter (Value.ref _)) _ _ _))); (first | (k_here; (fail_if_success (fail_if_success (with_reducible show wpAny _ _ _ (fun _ _ => CompRun _ _ _ _ _ (.ListComp (.Tuple _ _ _) _ _ _) _ _ _ _ _) _ _))); k_dflt ((rename PenSt _ _ _ _ => hPo); (rename Hi _ _ _ => hHc); (refine' pen_norm hPo hHc ?N09z ?l09z ?_; (case N09z => k_asm); (case l09z => assumption); clear hHc; intro hHc Nc); (refine' thing_keys IH ?B9z ?F9z ?X9z ?T9z ?e19z ?e29z ?e39z ?e49z ?e59z ?hd9z ?hu9z hPo hHc ?hb9z ?N9z ?c19z ?m19z ?q19z ?c29z ?m29z ?q29z (List.Mem.head _) ((cab _ _ _).take _) ?hl9z ?_; (case B9z => k_asm); (case F9z => k_asm); (case X9z => k_asm); (case T9z => k_asm); (case hd9z => k_room); (case hu9z => k_units); (case N9z => k_asm); (case e19z => exact rfl); (case e29z => exact rfl); (case e39z => exact rfl); (case e49z => exact rfl); (case e59z => exact rfl); (case hb9z => omega); (case c19z => exact rfl); (case m19z => k_mem); (case q19z => assumption); (case c29z => exact rfl); (case m29z => k_mem); (case q29z => assumption); (case hl9z => (simp only [List.length_take, List.length_cons, List.length_nil]; omega))); (intro D9 ys9 kD9 P9 tl9 kvs9 ds9 h9 tk9 ltD neD F9 N9 hP9 ab9 al9 hk9 len9; (try k_sweep)))) | (k_here; (fail_if_success (fail_if_success (with_reducible show wpAny _ _ _ (fun _ _ => CompRun _ _ _ _ _ (.ListComp (.Call _ _ _ _) _ _ _) _ _ _ _ _) _ _))); k_dflt ((rename PenSt _ _ _ _ => hPo); (refine' thing_rng IH ?B9z ?F9z ?X9z ?T9z ?e19z ?e29z ?e39z ?e49z ?e59z ?hd9z ?hu9z hPo hHc ?hb9z ?N9z ?c19z ?m19z ?q19z ?c29z ?m29z ?q29z ?hr9z ?h09z ?h49z ?_; (case B9z => k_asm); (case F9z => k_asm); (case X9z => k_asm); (case T9z => k_asm); (case e19z => exact rfl); (case e29z => exact rfl); (case e39z => exact rfl); (case e49z => exact rfl); (case e59z => exact rfl); (case hd9z => k_room); (case hu9z => k_units); (case N9z => k_asm); (case hb9z => omega); (case c19z => exact rfl); (case m19z => k_mem); (case q19z => assumption); (case c29z => exact rfl); (case m29z => k_mem); (case q29z => assumption); (case hr9z => assumption); (case h09z => assumption); (case h49z => assumption)); (intro D9 ys9 kD9 P9 tl9 ds9 h9 tk9 ltD neD F9 N9 hP9 ab9 al9 len9; (try k_sweep))))); try dsimp only) | ((fail_if_success (fail_if_success (with_reducible show wpAny _ _ (call (Value.type "dict") _) _ _ _))); (k_here; k_dflt ((refine' dict_pairs_N rfl ?F9z ?N9z (Top.nolimit ?T9z) (List.Mem.head _) ?hn9z ?hz9z ?hp9z ?_; (case F9z => k_asm); (case N9z => k_asm); (case T9z => k_asm); (case hn9z => (rw [hk9]; exact cab_nodup _)); (case hz9z => (have := congrArg List.length hk9; simp only [List.length_map, List.length_take, List.length_cons, List.length_nil] at this; omega)); (case hp9z => exact pairs_at N9 (fun p hp => .tail _ (List.mem_append.mpr (.inr (List.mem_append.mpr (.inl hp))))) al9)); (intro D8 o8 h8 tk8 F8 N8 lt8 lo8 hd8; (try k_sweep)))); try dsimp only) | (walk1; try dsimp only) | (dsimp only; walk1; try dsimp only))
    rename News h₀ L _ _ => kN9
    exact hret _ _ _ _ (by assumption) (drop_cells kN9) (ext_of kG' (by assumption)) ⟨P', tl1, d1, rfl, hP.le (by omega), above_sub ab1 cells_in, .inl lf1⟩
theorem thing_all {w : World} {p : Program} {loose : List Str} {mean : ExcName → Option Value} {mg mb : Str → Option Value} : ∀ k, ThingOk w p loose mean mg mb k
  | 0 => thing_zero
  | k + 1 => thing_succ (thing_all k)
end
section
open PySem PySem.W PyProof.Rows PySem.Calls PySem.SeqAt PySem.AutoSeq1 PySem.MeetsSeq
set_option maxRecDepth 100000
theorem bd_none (b : Array UInt8) (t : Tok) : Gives (Builtin.«bytes.__eq__» ⟨[.bytes b t, .none], []⟩) (.val .notImplemented) :=
  .of_wp fun M A E s Q h => by
    have f1 : isSubtype (.type "NoneType") (.type "bytes") = pure false := by rw [isSubtype_type]; kernel_rfl
    obtain ⟨hp, g, d, tk, os⟩ := s
    wp_walk
    exact ⟨_, rfl, h⟩
theorem bd_int (b : Array UInt8) (t : Tok) (i : Int) (u : Tok) : Gives (Builtin.«bytes.__eq__» ⟨[.bytes b t, .int i u], []⟩) (.val .notImplemented) :=
  .of_wp fun M A E s Q h => by
    have f1 : isSubtype (.type "int") (.type "bytes") = pure false := by rw [isSubtype_type]; kernel_rfl
    obtain ⟨hp, g, d, tk, os⟩ := s
    wp_walk
    exact ⟨_, rfl, h⟩
theorem bd_str (b : Array UInt8) (t : Tok) (i : Str) (u : Tok) : Gives (Builtin.«bytes.__eq__» ⟨[.bytes b t, .str i u], []⟩) (.val .notImplemented) :=
  .of_wp fun M A E s Q h => by
    have f1 : isSubtype (.type "str") (.type "bytes") = pure false := by rw [isSubtype_type]; kernel_rfl
    obtain ⟨hp, g, d, tk, os⟩ := s
    wp_walk
    exact ⟨_, rfl, h⟩
theorem none_bd (b : Array UInt8) (t : Tok) : Gives (Builtin.«NoneType.__eq__» ⟨[.none, .bytes b t], []⟩) (.val .notImplemented) :=
  .of_wp fun M A E s Q h => by obtain ⟨hp, g, d, tk, os⟩ := s; wp_walk; exact ⟨_, rfl, h⟩
theorem int_bd (b : Array UInt8) (t : Tok) (i : Int) (u : Tok) : Gives (Builtin.«int.__eq__» ⟨[.int i u, .bytes b t], []⟩) (.val .notImplemented) :=
  .of_wp fun M A E s Q h => by obtain ⟨hp, g, d, tk, os⟩ := s; wp_walk; exact ⟨_, rfl, h⟩
theorem str_bd (b : Array UInt8) (t : Tok) (i : Str) (u : Tok) : Gives (Builtin.«str.__eq__» ⟨[.str i u, .bytes b t], []⟩) (.val .notImplemented) :=
  .of_wp fun M A E s Q h => by obtain ⟨hp, g, d, tk, os⟩ := s; wp_walk; exact ⟨_, rfl, h⟩
theorem bd_ref (b : Array UInt8) (t : Tok) (l : Addr) (c : String) (items : Array Value) (n : Nat) (dd : Option Addr) (sl : Array (Option Value)) (f1 : isSubtype (.type c) (.type "bytes") = pure false) :
    Meets (Builtin.«bytes.__eq__» ⟨[.bytes b t, .ref l], []⟩) (fun _ R s => s.heap.get? l = some { cls := .type c, dict := dd, data := .seq items n, slots := sl } ∧ R (.ok (.ret .notImplemented)) s) :=
  .of_wp fun prog w A R s h => by
    obtain ⟨hl, h⟩ := h
    obtain ⟨hp, g, d, tk, os⟩ := s
    wp_walk using wpAny_loadPart' hl
    exact ⟨_, rfl, h⟩
theorem tup_bd (b : Array UInt8) (t : Tok) (l : Addr) (items : Array Value) (n : Nat) (dd : Option Addr) (sl : Array (Option Value)) :
    Meets (Builtin.«tuple.__eq__» ⟨[.ref l, .bytes b t], []⟩) (fun _ R s => s.heap.get? l = some { cls := .type "tuple", dict := dd, data := .seq items n, slots := sl } ∧ R (.ok (.ret .notImplemented)) s) :=
  .of_wp fun prog w A R s h => by obtain ⟨hp, g, d, tk, os⟩ := s; obtain ⟨hl, h⟩ := h; have f1 : isSubtype (.type "bytes") (.type "tuple") = pure false := (by rw [isSubtype_type]; kernel_rfl); wp_walk using wpAny_loadPart' hl; exact ⟨_, rfl, h⟩
theorem lst_bd (b : Array UInt8) (t : Tok) (l : Addr) (items : Array Value) (n : Nat) (dd : Option Addr) (sl : Array (Option Value)) :
    Meets (Builtin.«list.__eq__» ⟨[.ref l, .bytes b t], []⟩) (fun _ R s => s.heap.get? l = some { cls := .type "list", dict := dd, data := .seq items n, slots := sl } ∧ R (.ok (.ret .notImplemented)) s) :=
  .of_wp fun prog w A R s h => by obtain ⟨hp, g, d, tk, os⟩ := s; obtain ⟨hl, h⟩ := h; have f1 : isSubtype (.type "bytes") (.type "list") = pure false := (by rw [isSubtype_type]; kernel_rfl); wp_walk using wpAny_loadPart' hl; exact ⟨_, rfl, h⟩
theorem slot_bytes_eq_refl : Slot "bytes" (cmpInfo .Eq).2.2 "bytes.__eq__" := FB.slot_bytes_eq
section
variable {A : Around} {s : Shared}
theorem EqAt.bytes_none (b : Array UInt8) (t : Tok) : EqAt A s (.bytes b t) .none false := fun prog w E Q h₀ => by
  unfold eqBool
  refine wpAny_holding ?_
  refine wpAny_ite_split (fun hab => absurd (eq_of_beq hab) nofun) (fun _ => ?_)
  have h := wpAny_truthy_bool (M := model prog w) (A := A) (E := E) (b := false) h₀
  refine wpAny_bind ?_
  exact rc_eq_decline_or (k := false) (typeIs_bytes s b t) rfl (by decide) (by rw [isSubtype_type]; kernel_rfl) FB.slot_bytes_eq F.slot_NoneType_eq_refl
    (fun _ hq => call_gives FB.slot_bytes_eq (typeIs_bytes s b t) FB.entry_bytes_eq (FB.args_bytes_eq_2 _ _) (bd_none b t) hq)
    (fun _ hq => call_gives F.slot_NoneType_eq_refl rfl F.entry_NoneType_eq (F.args_NoneType_eq_2 _ _) (none_bd b t) hq)
    (fun _ hq => wpAny_of_eq (rfl : isSame (.bytes b t) .none = pure false) hq) (.inl rfl) h
theorem EqAt.none_bytes (b : Array UInt8) (t : Tok) : EqAt A s .none (.bytes b t) false := fun prog w E Q h₀ => by
  unfold eqBool
  refine wpAny_holding ?_
  refine wpAny_ite_split (fun hab => absurd (eq_of_beq hab) nofun) (fun _ => ?_)
  have h := wpAny_truthy_bool (M := model prog w) (A := A) (E := E) (b := false) h₀
  refine wpAny_bind ?_
  exact rc_eq_decline_or (k := false) rfl (typeIs_bytes s b t) (by decide) (by rw [isSubtype_type]; kernel_rfl) F.slot_NoneType_eq slot_bytes_eq_refl
    (fun _ hq => call_gives F.slot_NoneType_eq rfl F.entry_NoneType_eq (F.args_NoneType_eq_2 _ _) (none_bd b t) hq)
    (fun _ hq => call_gives slot_bytes_eq_refl (typeIs_bytes s b t) FB.entry_bytes_eq (FB.args_bytes_eq_2 _ _) (bd_none b t) hq)
    (fun _ hq => wpAny_of_eq (rfl : isSame .none (.bytes b t) = pure false) hq) (.inl rfl) h
theorem EqAt.bytes_int (b : Array UInt8) (t : Tok) (i : Int) (u : Tok) : EqAt A s (.bytes b t) (.int i u) false := fun prog w E Q h₀ => by
  unfold eqBool
  refine wpAny_holding ?_
  refine wpAny_ite_split (fun hab => absurd (eq_of_beq hab) nofun) (fun _ => ?_)
  have h := wpAny_truthy_bool (M := model prog w) (A := A) (E := E) (b := false) h₀
  refine wpAny_bind ?_
  exact rc_eq_decline_or (k := false) (typeIs_bytes s b t) (typeIs_int s i u) (by decide) (by rw [isSubtype_type]; kernel_rfl) FB.slot_bytes_eq F.slot_int_eq_refl
    (fun _ hq => call_gives FB.slot_bytes_eq (typeIs_bytes s b t) FB.entry_bytes_eq (FB.args_bytes_eq_2 _ _) (bd_int b t i u) hq)
    (fun _ hq => call_gives F.slot_int_eq_refl (typeIs_int s i u) F.entry_int_eq (F.args_int_eq_2 _ _) (int_bd b t i u) hq)
    (fun _ hq => wpAny_of_eq (rfl : isSame (.bytes b t) (.int i u) = pure false) hq) (.inl rfl) h
theorem EqAt.int_bytes (b : Array UInt8) (t : Tok) (i : Int) (u : Tok) : EqAt A s (.int i u) (.bytes b t) false := fun prog w E Q h₀ => by
  unfold eqBool
  refine wpAny_holding ?_
  refine wpAny_ite_split (fun hab => absurd (eq_of_beq hab) nofun) (fun _ => ?_)
  have h := wpAny_truthy_bool (M := model prog w) (A := A) (E := E) (b := false) h₀
  refine wpAny_bind ?_
  exact rc_eq_decline_or (k := false) (typeIs_int s i u) (typeIs_bytes s b t) (by decide) (by rw [isSubtype_type]; kernel_rfl) F.slot_int_eq slot_bytes_eq_refl
    (fun _ hq => call_gives F.slot_int_eq (typeIs_int s i u) F.entry_int_eq (F.args_int_eq_2 _ _) (int_bd b t i u) hq)
    (fun _ hq => call_gives slot_bytes_eq_refl (typeIs_bytes s b t) FB.entry_bytes_eq (FB.args_bytes_eq_2 _ _) (bd_int b t i u) hq)
    (fun _ hq => wpAny_of_eq (rfl : isSame (.int i u) (.bytes b t) = pure false) hq) (.inl rfl) h
theorem EqAt.bytes_str (b : Array UInt8) (t : Tok) (i : Str) (u : Tok) : EqAt A s (.bytes b t) (.str i u) false := fun prog w E Q h₀ => by
  unfold eqBool
  refine wpAny_holding ?_
  refine wpAny_ite_split (fun hab => absurd (eq_of_beq hab) nofun) (fun _ => ?_)
  have h := wpAny_truthy_bool (M := model prog w) (A := A) (E := E) (b := false) h₀
  refine wpAny_bind ?_
  exact rc_eq_decline_or (k := false) (typeIs_bytes s b t) (typeIs_str s i u) (by decide) (by rw [isSubtype_type]; kernel_rfl) FB.slot_bytes_eq F.slot_str_eq_refl
    (fun _ hq => call_gives FB.slot_bytes_eq (typeIs_bytes s b t) FB.entry_bytes_eq (FB.args_bytes_eq_2 _ _) (bd_str b t i u) hq)
    (fun _ hq => call_gives F.slot_str_eq_refl (typeIs_str s i u) F.entry_str_eq (F.args_str_eq_2 _ _) (str_bd b t i u) hq)
    (fun _ hq => wpAny_of_eq (rfl : isSame (.bytes b t) (.str i u) = pure false) hq) (.inl rfl) h
theorem EqAt.str_bytes (b : Array UInt8) (t : Tok) (i : Str) (u : Tok) : EqAt A s (.str i u) (.bytes b t) false := fun prog w E Q h₀ => by
  unfold eqBool
  refine wpAny_holding ?_
  refine wpAny_ite_split (fun hab => absurd (eq_of_beq hab) nofun) (fun _ => ?_)
  have h := wpAny_truthy_bool (M := model prog w) (A := A) (E := E) (b := false) h₀
  refine wpAny_bind ?_
  exact rc_eq_decline_or (k := false) (typeIs_str s i u) (typeIs_bytes s b t) (by decide) (by rw [isSubtype_type]; kernel_rfl) F.slot_str_eq slot_bytes_eq_refl
    (fun _ hq => call_gives F.slot_str_eq (typeIs_str s i u) F.entry_str_eq (F.args_str_eq_2 _ _) (str_bd b t i u) hq)
    (fun _ hq => call_gives slot_bytes_eq_refl (typeIs_bytes s b t) FB.entry_bytes_eq (FB.args_bytes_eq_2 _ _) (bd_str b t i u) hq)
    (fun _ hq => wpAny_of_eq (rfl : isSame (.str i u) (.bytes b t) = pure false) hq) (.inl rfl) h
theorem EqAt.tuple_bytes {l : Addr} {items : Array Value} (b : Array UInt8) (u : Tok) (hl : s.heap.IsTuple l items) (hu : A.units < cLine) : EqAt A s (.ref l) (.bytes b u) false := fun prog w E Q h₀ => by
  unfold eqBool
  refine wpAny_holding ?_
  refine wpAny_ite_split (fun hab => absurd (eq_of_beq hab) nofun) (fun _ => ?_)
  have h := wpAny_truthy_bool (M := model prog w) (A := A) (E := E) (b := false) h₀
  refine wpAny_bind ?_
  obtain ⟨⟨cls, dd, data, sl⟩, ho, hc, n, hd⟩ := id hl
  simp only at hc hd
  subst hc hd
  exact rc_eq_decline_or (k := false) ⟨_, ho, rfl⟩ (typeIs_bytes s b u) (by decide) (by rw [isSubtype_type]; kernel_rfl) F.slot_tuple_eq slot_bytes_eq_refl
    (fun _ hq => call_meets F.slot_tuple_eq ⟨_, ho, rfl⟩ F.entry_tuple_eq (F.args_tuple_eq_2 _ _) (tup_bd b u l items n dd sl) ⟨ho, hq⟩)
    (fun _ hq => call_meets slot_bytes_eq_refl (typeIs_bytes s b u) FB.entry_bytes_eq (FB.args_bytes_eq_2 _ _) (bd_ref b u l "tuple" items n dd sl (by rw [isSubtype_type]; kernel_rfl)) ⟨ho, hq⟩)
    (fun _ hq => wpAny_of_eq (rfl : isSame (.ref l) (.bytes b u) = pure false) hq) (.inr hu) h
theorem EqAt.bytes_tuple {l : Addr} {items : Array Value} (b : Array UInt8) (u : Tok) (hl : s.heap.IsTuple l items) (hu : A.units < cLine) : EqAt A s (.bytes b u) (.ref l) false := fun prog w E Q h₀ => by
  unfold eqBool
  refine wpAny_holding ?_
  refine wpAny_ite_split (fun hab => absurd (eq_of_beq hab) nofun) (fun _ => ?_)
  have h := wpAny_truthy_bool (M := model prog w) (A := A) (E := E) (b := false) h₀
  refine wpAny_bind ?_
  obtain ⟨⟨cls, dd, data, sl⟩, ho, hc, n, hd⟩ := id hl
  simp only at hc hd
  subst hc hd
  exact rc_eq_decline_or (k := false) (typeIs_bytes s b u) ⟨_, ho, rfl⟩ (by decide) (by rw [isSubtype_type]; kernel_rfl) FB.slot_bytes_eq F.slot_tuple_eq_refl
    (fun _ hq => call_meets FB.slot_bytes_eq (typeIs_bytes s b u) FB.entry_bytes_eq (FB.args_bytes_eq_2 _ _) (bd_ref b u l "tuple" items n dd sl (by rw [isSubtype_type]; kernel_rfl)) ⟨ho, hq⟩)
    (fun _ hq => call_meets F.slot_tuple_eq_refl ⟨_, ho, rfl⟩ F.entry_tuple_eq (F.args_tuple_eq_2 _ _) (tup_bd b u l items n dd sl) ⟨ho, hq⟩)
    (fun _ hq => wpAny_of_eq (rfl : isSame (.bytes b u) (.ref l) = pure false) hq) (.inr hu) h
theorem EqAt.list_bytes {l : Addr} {items : Array Value} (b : Array UInt8) (u : Tok) (hl : s.heap.IsList l items) (hu : A.units < cLine) : EqAt A s (.ref l) (.bytes b u) false := fun prog w E Q h₀ => by
  unfold eqBool
  refine wpAny_holding ?_
  refine wpAny_ite_split (fun hab => absurd (eq_of_beq hab) nofun) (fun _ => ?_)
  have h := wpAny_truthy_bool (M := model prog w) (A := A) (E := E) (b := false) h₀
  refine wpAny_bind ?_
  obtain ⟨⟨cls, dd, data, sl⟩, ho, hc, n, hd⟩ := id hl
  simp only at hc hd
  subst hc hd
  exact rc_eq_decline_or (k := false) ⟨_, ho, rfl⟩ (typeIs_bytes s b u) (by decide) (by rw [isSubtype_type]; kernel_rfl) F.slot_list_eq slot_bytes_eq_refl
    (fun _ hq => call_meets F.slot_list_eq ⟨_, ho, rfl⟩ F.entry_list_eq (F.args_list_eq_2 _ _) (lst_bd b u l items n dd sl) ⟨ho, hq⟩)
    (fun _ hq => call_meets slot_bytes_eq_refl (typeIs_bytes s b u) FB.entry_bytes_eq (FB.args_bytes_eq_2 _ _) (bd_ref b u l "list" items n dd sl (by rw [isSubtype_type]; kernel_rfl)) ⟨ho, hq⟩)
    (fun _ hq => wpAny_of_eq (rfl : isSame (.ref l) (.bytes b u) = pure false) hq) (.inr hu) h
theorem EqAt.bytes_list {l : Addr} {items : Array Value} (b : Array UInt8) (u : Tok) (hl : s.heap.IsList l items) (hu : A.units < cLine) : EqAt A s (.bytes b u) (.ref l) false := fun prog w E Q h₀ => by
  unfold eqBool
  refine wpAny_holding ?_
  refine wpAny_ite_split (fun hab => absurd (eq_of_beq hab) nofun) (fun _ => ?_)
  have h := wpAny_truthy_bool (M := model prog w) (A := A) (E := E) (b := false) h₀
  refine wpAny_bind ?_
  obtain ⟨⟨cls, dd, data, sl⟩, ho, hc, n, hd⟩ := id hl
  simp only at hc hd
  subst hc hd
  exact rc_eq_decline_or (k := false) (typeIs_bytes s b u) ⟨_, ho, rfl⟩ (by decide) (by rw [isSubtype_type]; kernel_rfl) FB.slot_bytes_eq F.slot_list_eq_refl
    (fun _ hq => call_meets FB.slot_bytes_eq (typeIs_bytes s b u) FB.entry_bytes_eq (FB.args_bytes_eq_2 _ _) (bd_ref b u l "list" items n dd sl (by rw [isSubtype_type]; kernel_rfl)) ⟨ho, hq⟩)
    (fun _ hq => call_meets F.slot_list_eq_refl ⟨_, ho, rfl⟩ F.entry_list_eq (F.args_list_eq_2 _ _) (lst_bd b u l items n dd sl) ⟨ho, hq⟩)
    (fun _ hq => wpAny_of_eq (rfl : isSame (.bytes b u) (.ref l) = pure false) hq) (.inr hu) h

mutual
noncomputable def nb : Dat → Bool
  | .bool _ => false
  | .tuple ds => nbL ds
  | .list ds => nbL ds
  | _ => true
noncomputable def nbL : List Dat → Bool
  | [] => true
  | d :: ds => nb d && nbL ds
end
theorem nbL_mem : ∀ {ds : List Dat} {d : Dat}, nbL ds = true → d ∈ ds → nb d = true
  | _ :: _, _, h, .head _ => by rw [nbL, Bool.and_eq_true] at h; exact h.1
  | _ :: _, _, h, .tail _ hm => by rw [nbL, Bool.and_eq_true] at h; exact nbL_mem h.2 hm
open Classical in
theorem range_eq {α : Type} (ds es : List α) (e : Nat → Bool) (h : ∀ j (h1 : j < ds.length) (h2 : j < es.length), e j = decide (ds[j] = es[j])) :
    ((List.range (min ds.length es.length)).all e && ds.length == es.length) = decide (ds = es) := by
  by_cases q : ds = es
  · subst q
    simp only [Nat.min_self, beq_self_eq_true, Bool.and_true, decide_true, List.all_eq_true, List.mem_range]
    intro j hj
    rw [h j hj hj]; simp
  · rw [decide_eq_false q]
    by_cases hl : ds.length = es.length
    · rw [Bool.and_eq_false_iff]
      left
      rw [List.all_eq_false]
      by_cases hx : ∃ j, ∃ h1 : j < ds.length, ∃ h2 : j < es.length, ds[j] ≠ es[j]
      · obtain ⟨j, h1, h2, hne⟩ := hx
        exact ⟨j, List.mem_range.mpr (by omega), by rw [h j h1 h2]; simpa using hne⟩
      · exfalso
        apply q
        refine List.ext_getElem hl fun j h1 h2 => ?_
        by_cases e : ds[j] = es[j]
        · exact e
        · exact (hx ⟨j, h1, h2, e⟩).elim
    · simp [hl]
theorem all_at {T : List (Addr × Obj)} {vs : List Value} {ds : List Dat} (h : DatAll T vs ds) (j : Nat) (h1 : j < vs.length) : ∃ h2 : j < ds.length, DatIn T vs[j] ds[j] := by
  obtain ⟨d, e, r⟩ := all_get h (List.getElem?_eq_getElem h1)
  obtain ⟨h2, e2⟩ := List.getElem?_eq_some_iff.mp e
  exact ⟨h2, e2 ▸ r⟩

theorem dat_det {h : Heap} {T₁ T₂ : List (Addr × Obj)} (H1 : Has h T₁) (H2 : Has h T₂) : ∀ (k : Nat) (d d' : Dat) (a : Value), dep d ≤ k → DatIn T₁ a d → DatIn T₂ a d' → d = d' := by
  have all : ∀ (k : Nat), (∀ (d d' : Dat) (a : Value), dep d ≤ k → DatIn T₁ a d → DatIn T₂ a d' → d = d') → ∀ (ds es : List Dat) (vs : List Value), depL ds ≤ k → DatAll T₁ vs ds → DatAll T₂ vs es → ds = es := by
    intro k ih ds
    induction ds with
    | nil => intro es vs _ r1 r2; cases r1; cases r2; rfl
    | cons d ds hi =>
      intro es vs hk r1 r2
      cases r1 with
      | cons x r1 =>
        cases r2 with
        | cons y r2 =>
          rw [depL] at hk
          rw [ih _ _ _ (by omega) x y, hi _ _ (by omega) r1 r2]
  intro k
  induction k with
  | zero =>
    intro d d' a hk ra rb
    cases ra with
    | tuple => rw [dep] at hk; omega
    | list => rw [dep] at hk; omega
    | _ => cases rb; rfl
  | succ k ih =>
    intro d d' a hk ra rb
    cases ra with
    | @tuple a vs n ds ma ra =>
      cases rb with
      | @tuple _ us n' es mb rb =>
        have q1 := H1 _ ma
        have q2 := H2 _ mb
        dsimp only at q1 q2
        have q := q1.symm.trans q2
        have q : vs = us := by simp at q; exact q.1
        subst q
        rw [all k ih ds es vs (by rw [dep] at hk; omega) ra rb]
      | @list _ us n' es mb rb =>
        have q1 := H1 _ ma
        have q2 := H2 _ mb
        dsimp only at q1 q2
        have q := q1.symm.trans q2
        simp [PySem.W.listOf] at q
    | @list a vs n ds ma ra =>
      cases rb with
      | @list _ us n' es mb rb =>
        have q1 := H1 _ ma
        have q2 := H2 _ mb
        dsimp only at q1 q2
        have q := q1.symm.trans q2
        have q : vs = us := by simp [PySem.W.listOf] at q; exact q.1
        subst q
        rw [all k ih ds es vs (by rw [dep] at hk; omega) ra rb]
      | @tuple _ us n' es mb rb =>
        have q1 := H1 _ ma
        have q2 := H2 _ mb
        dsimp only at q1 q2
        have q := q1.symm.trans q2
        simp [PySem.W.listOf] at q
    | _ => cases rb; rfl
open Classical in
theorem eqF {A : Around} {s : Shared} {a b : Value} {d d' : Dat} (x : EqAt A s a b false) (ne : d ≠ d') : EqAt A s a b (decide (d = d')) := by rw [decide_eq_false ne]; exact x
open Classical in
theorem eq_dat {T₁ T₂ : List (Addr × Obj)} (H1 : Has s.heap T₁) (H2 : Has s.heap T₂) : ∀ (k : Nat) (A : Around) (d d' : Dat) (a b : Value), dep d ≤ k → nb d = true → nb d' = true → DatIn T₁ a d → DatIn T₂ b d' → A.units + k < cLine → EqAt A s a b (decide (d = d')) := by
  intro k
  induction k with
  | zero =>
    intro A d d' a b hk n1 n2 ra rb hu
    have hu' : A.units < cLine := by omega
    cases ra with
    | tuple => rw [dep] at hk; omega
    | list => rw [dep] at hk; omega
    | bool x => cases n1
    | none =>
      cases rb with
      | none => simpa using EqAt.same (A := A) (s := s) Value.none
      | bool x => cases n2
      | int i t => exact eqF (EqAt.none_int i t) (by intro q; cases q)
      | str x t => exact eqF (EqAt.none_str x t) (by intro q; cases q)
      | bytes x t => exact eqF (EqAt.none_bytes x t) (by intro q; cases q)
      | tuple m r => exact eqF (EqAt.none_tuple ⟨_, H2 _ m, rfl, _, rfl⟩ hu') (by intro q; cases q)
      | list m r => exact eqF (EqAt.none_list ⟨_, H2 _ m, rfl, _, rfl⟩ hu') (by intro q; cases q)
    | int i t =>
      cases rb with
      | none => exact eqF (EqAt.int_none i t) (by intro q; cases q)
      | bool x => cases n2
      | int j u =>
        have := EqAt.int_int (A := A) (s := s) i t j u
        have e : (i == j) = decide (Dat.int i = Dat.int j) := by
          by_cases q : i = j
          · subst q; simp
          · simp [q]
        rwa [e] at this
      | str x u => exact eqF (EqAt.int_str i t x u) (by intro q; cases q)
      | bytes x u => exact eqF (EqAt.int_bytes x u i t) (by intro q; cases q)
      | tuple m r => exact eqF (EqAt.int_tuple i t ⟨_, H2 _ m, rfl, _, rfl⟩ hu') (by intro q; cases q)
      | list m r => exact eqF (EqAt.int_list i t ⟨_, H2 _ m, rfl, _, rfl⟩ hu') (by intro q; cases q)
    | str x t =>
      cases rb with
      | none => exact eqF (EqAt.str_none x t) (by intro q; cases q)
      | bool x => cases n2
      | int j u => exact eqF (EqAt.str_int x t j u) (by intro q; cases q)
      | str y u =>
        have := EqAt.str_str (A := A) (s := s) x t y u
        have e : (x == y) = decide (Dat.str x = Dat.str y) := by
          by_cases q : x = y
          · subst q; simp
          · simp [q]
        rwa [e] at this
      | bytes y u => exact eqF (EqAt.str_bytes y u x t) (by intro q; cases q)
      | tuple m r => exact eqF (EqAt.str_tuple x t ⟨_, H2 _ m, rfl, _, rfl⟩ hu') (by intro q; cases q)
      | list m r => exact eqF (EqAt.str_list x t ⟨_, H2 _ m, rfl, _, rfl⟩ hu') (by intro q; cases q)
    | bytes x t =>
      cases rb with
      | none => exact eqF (EqAt.bytes_none x t) (by intro q; cases q)
      | bool x => cases n2
      | int j u => exact eqF (EqAt.bytes_int x t j u) (by intro q; cases q)
      | str y u => exact eqF (EqAt.bytes_str x t y u) (by intro q; cases q)
      | bytes y u =>
        by_cases q : x = y
        · subst q; simpa using EqAt.bytes A x t u
        · simpa [q] using EqAt.bytes_ne A q t u
      | tuple m r => exact eqF (EqAt.bytes_tuple x t ⟨_, H2 _ m, rfl, _, rfl⟩ hu') (by intro q; cases q)
      | list m r => exact eqF (EqAt.bytes_list x t ⟨_, H2 _ m, rfl, _, rfl⟩ hu') (by intro q; cases q)
  | succ k ih =>
    intro A d d' a b hk n1 n2 ra rb hu
    have hu' : A.units < cLine := by omega
    have hu1 : A.in1.units + k < cLine := by show A.units + 1 + k < cLine; omega
    cases ra with
    | bool x => cases n1
    | none => exact ih A _ _ _ _ (Nat.zero_le _) n1 n2 .none rb (by omega)
    | int i t => exact ih A _ _ _ _ (Nat.zero_le _) n1 n2 (.int i t) rb (by omega)
    | str x t => exact ih A _ _ _ _ (Nat.zero_le _) n1 n2 (.str x t) rb (by omega)
    | bytes x t => exact ih A _ _ _ _ (Nat.zero_le _) n1 n2 (.bytes x t) rb (by omega)
    | @tuple a vs n ds ma ra =>
      have hl : s.heap.IsTuple a vs.toArray := ⟨_, H1 _ ma, rfl, _, rfl⟩
      cases rb with
      | none => exact eqF (EqAt.tuple_none hl hu') (by intro q; cases q)
      | bool x => cases n2
      | int j u => exact eqF (EqAt.tuple_int j u hl hu') (by intro q; cases q)
      | str y u => exact eqF (EqAt.tuple_str y u hl hu') (by intro q; cases q)
      | bytes y u => exact eqF (EqAt.tuple_bytes y u hl hu') (by intro q; cases q)
      | list m r => exact eqF (EqAt.tuple_list hl ⟨_, H2 _ m, rfl, _, rfl⟩ hu') (by intro q; cases q)
      | @tuple b us n' es mb rb =>
        have hl' : s.heap.IsTuple b us.toArray := ⟨_, H2 _ mb, rfl, _, rfl⟩
        have l1 := DatAll.length ra
        have l2 := DatAll.length rb
        have r := RcAt.tuples (A := A) (e := fun j => if h : j < ds.length ∧ j < es.length then decide (ds[j]'h.1 = es[j]'h.2) else true) hl hl' hu' fun j j1 j2 => by
          simp only [List.size_toArray] at j1 j2
          obtain ⟨h1, r1⟩ := all_at ra j j1
          obtain ⟨h2, r2⟩ := all_at rb j j2
          have hdj : dep ds[j] ≤ k := by
            have := depL_mem (List.getElem_mem h1)
            rw [dep] at hk; omega
          rw [dif_pos ⟨h1, h2⟩]
          simpa using ih A.in1 ds[j] es[j] _ _ hdj (nbL_mem n1 (List.getElem_mem h1)) (nbL_mem n2 (List.getElem_mem h2)) r1 r2 hu1
        have e := range_eq ds es (fun j => if h : j < ds.length ∧ j < es.length then decide (ds[j]'h.1 = es[j]'h.2) else true) fun j h1 h2 => by rw [dif_pos ⟨h1, h2⟩]
        simp only [List.size_toArray] at r
        rw [l1, l2, e] at r
        have e2 : decide (ds = es) = decide (Dat.tuple ds = Dat.tuple es) := by simp
        rw [e2] at r
        by_cases hab : a = b
        · subst hab
          have hde : Dat.tuple ds = Dat.tuple es := dat_det H1 H2 _ _ _ _ (Nat.le_refl _) (.tuple ma ra) (.tuple mb rb)
          rw [decide_eq_true hde]
          exact EqAt.same _
        · exact EqAt.of_refs hab r
    | @list a vs n ds ma ra =>
      have hl : s.heap.IsList a vs.toArray := ⟨_, H1 _ ma, rfl, _, rfl⟩
      cases rb with
      | none => exact eqF (EqAt.list_none hl hu') (by intro q; cases q)
      | bool x => cases n2
      | int j u => exact eqF (EqAt.list_int j u hl hu') (by intro q; cases q)
      | str y u => exact eqF (EqAt.list_str y u hl hu') (by intro q; cases q)
      | bytes y u => exact eqF (EqAt.list_bytes y u hl hu') (by intro q; cases q)
      | tuple m r => exact eqF (EqAt.list_tuple hl ⟨_, H2 _ m, rfl, _, rfl⟩ hu') (by intro q; cases q)
      | @list b us n' es mb rb =>
        have hl' : s.heap.IsList b us.toArray := ⟨_, H2 _ mb, rfl, _, rfl⟩
        have l1 := DatAll.length ra
        have l2 := DatAll.length rb
        by_cases hab : a = b
        · subst hab
          have hde : Dat.list ds = Dat.list es := dat_det H1 H2 _ _ _ _ (Nat.le_refl _) (.list ma ra) (.list mb rb)
          rw [decide_eq_true hde]
          exact EqAt.same _
        · refine EqAt.of_refs hab ?_
          by_cases hsz : ds.length = es.length
          · have r := RcAt.lists (A := A) (e := fun j => if h : j < ds.length ∧ j < es.length then decide (ds[j]'h.1 = es[j]'h.2) else true) hl hl' (by simp; omega) hu' fun j j1 j2 => by
              simp only [List.size_toArray] at j1 j2
              obtain ⟨h1, r1⟩ := all_at ra j j1
              obtain ⟨h2, r2⟩ := all_at rb j j2
              have hdj : dep ds[j] ≤ k := by
                have := depL_mem (List.getElem_mem h1)
                rw [dep] at hk; omega
              rw [dif_pos ⟨h1, h2⟩]
              simpa using ih A.in1 ds[j] es[j] _ _ hdj (nbL_mem n1 (List.getElem_mem h1)) (nbL_mem n2 (List.getElem_mem h2)) r1 r2 hu1
            have e := range_eq ds es (fun j => if h : j < ds.length ∧ j < es.length then decide (ds[j]'h.1 = es[j]'h.2) else true) fun j h1 h2 => by rw [dif_pos ⟨h1, h2⟩]
            rw [show min ds.length es.length = ds.length by omega, beq_iff_eq.mpr hsz, Bool.and_true] at e
            simp only [List.size_toArray] at r
            rw [l1, e] at r
            have e2 : decide (ds = es) = decide (Dat.list ds = Dat.list es) := by simp
            rwa [e2] at r
          · have e2 : decide (Dat.list ds = Dat.list es) = false := decide_eq_false fun q => hsz (by injection q with q; rw [q])
            rw [e2]
            exact RcAt.lists_lengths hl hl' (by simp; omega) hu'
end
end
section
set_option maxRecDepth 100000
noncomputable abbrev bmD : List Value := [.ref 46, .type "Exception", .type "BaseException", .type "object"]
noncomputable abbrev excInst (t : Addr) : Obj := { cls := .ref 59, data := .fields #[.ref t, .none, .none, .none, .bool false, .none] }
noncomputable abbrev tupO (l : List Value) : Obj := { cls := .type "tuple", data := .seq l.toArray }
section
variable {prog : Program} {w : World} {M : Model} {A : Around} {E : Value → Shared → Prop} {R : Result → Shared → Prop} {h : Heap} {g : Array GenState} {d : Drawn} {t : Nat} {os : OsState}
variable {nm q : Str} {N : Addr} {bs : List Value} {hdct : Bool} {sn : List Str} {sub : List Value} {ab : Bool} {col : Option Bool} {dd : Option Addr} {k0 k1 k2 k3 k5 : Option Value}
theorem fault_check_new {rest : List Value} {Q : Unit → Shared → Prop} (hC : h.get? 59 = some (excClassObj nm q 59 N bs bmD hdct sn sub ab col dd k0 k1 k2 k3 k5 "Exception.__new__"))
    (hq : Q () ⟨h, g, d, t, os⟩) : wpAny M A (checkBuiltinCall "Exception.__new__" ⟨.ref 59 :: rest, []⟩) Q E ⟨h, g, d, t, os⟩ := by
  have F := PySem.F.excBase_Exception
  have hcont : (Value.ref 59 :: bmD).contains (.type "Exception") = true := by decide
  have hstar := F.noStar
  simp only [checkBuiltinCall, F.newKind, F.newSplit, F.newRow]
  repeat (first | refine wpAny_loadPart_at hC ?_ | (refine wpAny_isSubtype_exc hC ?_; rw [hcont]) | refine wpAny_staticBase_exc hC ?_ | refine wpAny_madeBy_exc hC ?_ | simp only [bne_self_eq_false, Bool.false_eq_true, if_false] | wp_step)
  exact hq
theorem fault_new {rest : List Value} (hC : h.get? 59 = some (excClassObj nm q 59 N bs bmD hdct sn sub ab col dd k0 k1 k2 k3 k5 "Exception.__new__"))
    (hq : R (.ok (.ret (.ref (h.objs.size + 1)))) ⟨(h.push (tupO rest)).push (excInst h.objs.size), g, d, t, os⟩) (hrest : rest.length ≤ sizeLine) :
    codeAny (model prog w) A (.builtin "Exception.__new__" ⟨.ref 59 :: rest, []⟩) R ⟨h, g, d, t, os⟩ := by
  have F := PySem.F.excBase_Exception
  have hends := F.ends
  have hcB : (Value.ref 59 :: bmD).contains (.type "Exception") = true := by decide
  have hcA : (Value.ref 59 :: bmD).contains (.type "AttributeError") = false := by decide
  have hcN : (Value.ref 59 :: bmD).contains (.type "NameError") = false := by decide
  refine PySem.codeAny_builtinAt F.entry ?_
  unfold Builtin.«BaseException.__new__»
  refine PySem.wpAt_bind ?_
  show PySem.wpAt _ _ _ (stack >>= _) _ _ _
  refine PySem.wpAt_bind (PySem.wpAt_stack fun p below => PySem.wpAt_of_wpAny ?_)
  wp_walk
  refine PySem.wpAt_of_wpAny ?_
  rw [F.owner]
  repeat (first | with_reducible refine wpAny_madeHere_exc F.canon hC ?_ | with_reducible refine wpAny_loadPart_at hC ?_ | (with_reducible refine wpAny_isSubtype_exc hC ?_; first | rw [hcB] | rw [hcA] | rw [hcN]) | wp_step)
  show R _ _
  rw [Heap.size_push]
  exact hq
theorem fault_call {K : Frag} {v : Value} (X : K.In h) (hC : h.get? 59 = some (excClassObj nm q 59 N bs bmD hdct sn sub ab col dd k0 k1 k2 k3 k5 "Exception.__new__"))
    (hi : findIn K (.ref 59) "__init__" = some (some (.ref 36))) (hf : typeIn K (.ref 36) = some (.type "function"))
    (hq : codeAny (model prog w) (A.under (.builtin "type.__call__" ⟨[.ref 59, v], []⟩)) (.call (.ref 36) ⟨[.ref (h.objs.size + 1), v], []⟩) (InitBack (h.objs.size + 1) R) ⟨(h.push (tupO [v])).push (excInst h.objs.size), g, d, t, os⟩) :
    codeAny (model prog w) A (.call (.ref 59) ⟨[v], []⟩) R ⟨h, g, d, t, os⟩ := by
  have f1 := tc_lookup
  have f2 := tc_bind (.ref 59)
  have hT : (⟨h, g, d, t, os⟩ : Shared).TypeIs (.ref 59) "type" := ⟨_, hC, rfl⟩
  have F := PySem.F.excBase_Exception
  refine codeAny_of_tree ?_
  show wpAny _ _ (callAny (.ref 59) _) _ _ _
  repeat (any_goals (first | assumption | with_reducible refine wpAny_loadPart_at hC ?_ | wp_step))
  refine ⟨rfl, ?_⟩
  refine codeAny_call_builtin_at (Code.quiet_builtin _ (by decide +kernel)) entry_typeCall (wpAny_check_type_call_sub hC ?_)
  repeat (first | with_reducible refine wpAny_loadPart_at hC ?_ | with_reducible refine wpAny_madeBy_exc hC ?_ | wp_step)
  refine codeAny_call_builtin_code (Code.quiet_builtin _ F.quiet) (fault_check_new hC ?_)
  refine fault_new hC ?_ (by rw [sizeLine_eq]; simp)
  change wpAny (model prog w) (A.under (.builtin "type.__call__" ⟨[.ref 59, v], []⟩)) _ _ _ ⟨(h.push (tupO [v])).push (excInst h.objs.size), g, d, t, os⟩
  have hC₁ := Heap.get?_push_of_some (excInst h.objs.size) (Heap.get?_push_of_some (tupO [v]) hC)
  have k : ∀ b o, h.get? b = some o → ((h.push (tupO [v])).push (excInst h.objs.size)).get? b = some o := fun b o e => Heap.get?_push_of_some _ (Heap.get?_push_of_some _ e)
  have hget : ((h.push (tupO [v])).push (excInst h.objs.size)).get? (h.objs.size + 1) = some (excInst h.objs.size) := by heap_get
  have hcC : (Value.ref 59 :: bmD).contains (.ref 59) = true := by decide
  unfold isInstance
  repeat (first | with_reducible refine wpAny_loadPart_at hget ?_ | (with_reducible refine wpAny_isSubtype_exc hC₁ ?_; rw [hcC]) | wp_step)
  show wpAny _ _ (typeLookup (.ref 59) _) _ _ _
  refine (looks_findIn (X.keeps k) hi).here ?_
  refine wpAny_holding (wpAny_bind ((bind_fn (X.keeps k) (.ref (h.objs.size + 1)) hf).here ?_))
  refine wpAny_bind (wpAny_call (codeAny_mono hq fun r s' z => ?_))
  rcases r with e | (v | _ | _ | _) <;> first | exact z | exact z.elim | skip
  obtain ⟨rfl, z⟩ := z
  exact wpAny_pure (wpAny_pure z)
end
end
section
open PySem PySem.W PyProof.Rows PySem.Calls PySem.SeqAt PySem.Builtin PySem.Builtin.ObjectAttr
set_option maxRecDepth 100000
theorem exc_refuse (x : Addr) : refuseLoop (.ref x) "__setattr__" [.ref 59, .ref 46, .type "Exception", .type "BaseException", .type "object"] = pure () := by
  rw [refuseLoop_ref, refuseLoop_ref]; exact PySem.F.store_Exception.passes _
section
variable {prog : Program} {w : World} {A : Around} {E : Value → Shared → Prop} {h₀ : Heap} {L : Addr} {m : Str → Option Value} {K : Frag} {cd : ClassData}
structure ExcAt (h₀ : Heap) (L : Addr) (NL : List (Addr × Obj)) (h : Heap) (e : Addr) (oe : Obj) (vs : Array Value) (mA : Str → Option Value) : Prop where
  cls : oe.cls = .ref 59
  dat : oe.data = .fields vs
  dict : (oe.dict = none ∧ ∀ n, mA n = none) ∨ ∃ d, oe.dict = some d ∧ d ≠ e ∧ h.Ns1 d mA ∧ d ≠ L ∧ h₀.get? d = none ∧ ∀ p ∈ NL, p.1 ≠ d
theorem set_exc {s : Shared} {e : Addr} {oe : Obj} {vs : Array Value} {NL : List (Addr × Obj)} {mA : Str → Option Value} {ns : List Str} {name : Str} {v : Value} {Q : Unit → Shared → Prop} (X : K.In s.heap) (F : Fr h₀ L s.heap m) (N : News h₀ L s.heap ((e, oe) :: NL)) (I : ExcAt h₀ L NL s.heap e oe vs mA)
    (hlt : ∀ p ∈ NL, @LT.lt Nat _ p.1 e) (hc : clsIn K 59 = some cd) (hm : cd.mro = [.ref 59, .ref 46, .type "Exception", .type "BaseException", .type "object"]) (hhd : cd.hasDict = true) (hs : findIn K (.ref 59) "__setattr__" = some (some (.builtin "object.__setattr__"))) (ha : findIn K (.ref 59) name = some none)
    (hw : Within mA ns) (hsz : ns.length ≤ 100)
    (h : ∀ h' tk' oe', Fr h₀ L h' m → News h₀ L h' ((e, oe') :: NL) → ExcAt h₀ L NL h' e oe' vs (fun y => if y = name then some v else mA y) → (∃ d, oe'.dict = some d) → Q () { s with heap := h', toks := tk' }) :
    wpAny (model prog w) A (setAttr (.ref e) name v) Q E s := by
  obtain ⟨hp, g, d, tk, os⟩ := s
  have he := (N _ (.head _)).1
  dsimp only at he
  have I0 : InstAt hp e oe 59 (oe.dict.bind hp.get?) := by
    refine ⟨he, I.cls, ?_, ?_⟩
    · obtain ⟨oc, od, odt, osl⟩ := oe
      have := I.dat
      dsimp only at this
      subst this
      rfl
    · rcases I.dict with ⟨q, _⟩ | ⟨d, q, _, hn, _⟩
      · rw [q]; trivial
      · rw [q]
        obtain ⟨o', _, _, q', _⟩ := hn
        dsimp only [Option.bind]
        rw [q']
        trivial
  have I1 : Looks (model prog w) hp (typeOf (.ref e)) (.ref 59) := (Looks.ld he).andThen (by rw [I.cls]; exact .now)
  refine set_plain X I0 hs ?_
  have SF := PySem.F.store_object
  have sub : Looks (model prog w) hp (isInstance (.ref e) (.type "object")) true := I1.andThen (looks_mroIn X (by unfold mroIn; rw [hc, Option.bind_some, hm]; rfl))
  refine codeAny_call_builtin SF.slot.plain SF.entry (@check_slot (model prog w) _ _ ⟨hp, g, d, tk + 1, os⟩ "object.__setattr__" "object" "__setattr__" (.ref e) [.str name tk, v] [] _ SF.kind SF.split sub (SF.args (.ref e) (.str name tk) v) ?_)
  have hml : Looks (model prog w) hp (mroOf (.ref 59)) cd.mro := (looks_clsIn X hc).andThen .now
  rw [osa_eq, refuse_eq]
  refine wpAny_bind (wpAny_bind (I1.at (wpAny_bind (hml.at ?_))))
  rw [hm, exc_refuse]
  refine wpAny_pure (wpAny_bind (I1.at (wpAny_bind ((looks_findIn X ha).at (wpAny_bind (wpAny_pure ?_))))))
  dsimp only
  unfold storeInOwnDict
  refine wpAny_bind (wpAny_pure (wpAny_bind ?_))
  have hL : L ≠ e := Ne.symm (N _ (.head _)).2.1
  have he0 : h₀.get? e = none := (N _ (.head _)).2.2
  refine wpAny_bind (wpAny_loadPart_at he ?_)
  rw [I.cls]
  refine wpAny_bind ((looks_clsIn X hc).at ?_)
  rw [hhd]
  have hIc := I.cls
  rcases I.dict with ⟨hdn, hmA⟩ | ⟨dx, hdx, hne, hns, hdL, hd0, hdN⟩
  · rw [hdn]
    have he₁ : (hp.push { cls := .type "dict", data := .dict #[] }).get? e = some oe := Heap.get?_push_of_some _ he
    have hxs : e ≠ hp.objs.size := Nat.ne_of_lt (Heap.lt_size he)
    rw [I.dat]
    refine wpAny_bind (wpAny_alloc' ?_)
    refine wpAny_bind (wpAny_update' he₁ ?_)
    refine wpAny_pure (a := some hp.objs.size) ?_
    have hgd : ((hp.push { cls := .type "dict", data := .dict #[] }).update e fun o => { cls := o.cls, dict := some hp.objs.size, data := o.data, slots := o.slots }).get? hp.objs.size
        = some { cls := .type "dict", data := .dict #[] } :=
      (Heap.get?_update_ne _ _ _ _ hxs.symm).trans (Heap.get?_push_at rfl rfl)
    have hnd : ((hp.push { cls := .type "dict", data := .dict #[] }).update e fun o => { cls := o.cls, dict := some hp.objs.size, data := o.data, slots := o.slots }).Ns hp.objs.size (fun _ => none) :=
      ⟨_, #[], _, hgd, rfl, fun e he => absurd he (by simp), fun _ => rfl⟩
    show wpAny _ _ (storeInDict hp.objs.size (.str name tk) name v) _ _ _
    unfold storeInDict newKeyGuard
    refine wpAny_bind (wpAny_pure (wpAny_bind (wpAny_nsSet1 (Heap.Ns1.of_empty hnd) fun h' hn' hs => ?_)))
    obtain ⟨oD, esD, epD, hoD, hdD, hcD⟩ := hn'.count (Within.cons name v Within.nil)
    refine wpAny_bind (wpAny_lookBehind hoD (by rw [hdD]; exact pastItsLine_dict (Nat.le_trans hcD (by rw [List.length_cons, List.length_nil, sizeLine_eq]; omega))) ?_)
    wp_walk
    have old : ∀ b o, b ≠ e → hp.get? b = some o → h'.get? b = some o := fun b o hb q => (hs.2 b (Nat.ne_of_lt (Heap.lt_size q))).trans ((Heap.get?_update_ne _ _ _ _ hb).trans (Heap.get?_push_of_some _ q))
    have hx' : h'.get? e = some { cls := oe.cls, dict := some hp.objs.size, data := oe.data, slots := oe.slots } := by
      refine (hs.2 e hxs).trans (Heap.get?_update_self _ he₁ ?_)
      have hfr := (Heap.get?_some_iff.mp he).2
      obtain ⟨oc, od, odt, osl⟩ := oe
      cases odt <;> first | rfl | exact hfr
    have hmA' : mA = fun _ => none := funext hmA
    subst hmA'
    refine h h' _ { cls := oe.cls, dict := some hp.objs.size, data := oe.data, slots := oe.slots } ⟨F.ns.at' fun o q => old _ o hL q, fun b o q => old b o (fun z => by rw [z, he0] at q; cases q) (F.keep b o q), F.above⟩ (fun p hp' => ?_) ⟨I.cls, I.dat, .inr ⟨hp.objs.size, rfl, hxs.symm, hn', Ne.symm (Nat.ne_of_lt F.ns.lt), next_is_new F, fun p hp' => Nat.ne_of_lt (Heap.lt_size (N p (.tail _ hp')).1)⟩⟩ ⟨_, rfl⟩
    rcases List.mem_cons.mp hp' with rfl | hp'
    · exact ⟨hx', Ne.symm hL, he0⟩
    · exact ⟨old _ _ (Nat.ne_of_lt (hlt p hp')) (N p (.tail _ hp')).1, (N p (.tail _ hp')).2⟩
  · rw [hdx]
    refine wpAny_pure (a := some dx) ?_
    show wpAny _ _ (storeInDict dx (.str name tk) name v) _ _ _
    unfold storeInDict newKeyGuard
    refine wpAny_bind (wpAny_pure (wpAny_bind (wpAny_nsSet1 hns fun h' hn' hs' => ?_)))
    obtain ⟨oD, esD, epD, hoD, hdD, hcD⟩ := hn'.count (Within.cons name v hw)
    refine wpAny_bind (wpAny_lookBehind hoD (by rw [hdD]; exact pastItsLine_dict (Nat.le_trans hcD (by rw [List.length_cons, sizeLine_eq]; omega))) ?_)
    wp_walk
    have old : ∀ b o, b ≠ dx → hp.get? b = some o → h'.get? b = some o := fun b o hb q => (hs'.2 b hb).trans q
    refine h h' _ oe ⟨F.ns.at' fun o q => old _ o (Ne.symm hdL) q, fun b o q => old b o (fun z => by rw [z, hd0] at q; cases q) (F.keep b o q), F.above⟩ (fun p hp => ?_) ⟨hIc, I.dat, .inr ⟨dx, hdx, hne, hn', hdL, hd0, hdN⟩⟩ ⟨dx, hdx⟩
    rcases List.mem_cons.mp hp with rfl | hp
    · exact ⟨old _ _ (Ne.symm hne) he, Ne.symm hL, he0⟩
    · exact ⟨old _ _ (hdN p hp) (N p (.tail _ hp)).1, (N p (.tail _ hp)).2⟩

theorem exc_init {s : Shared} {e t : Addr} {v : Value} {Q : Value → Shared → Prop} {nm q : Str} {N : Addr} {bs : List Value} {hdct : Bool} {sn : List Str} {sub : List Value} {ab : Bool} {col : Option Bool} {dd : Option Addr} {k0 k1 k2 k3 k5 : Option Value} {NL : List (Addr × Obj)}
    (hC : s.heap.get? 59 = some (excClassObj nm q 59 N bs bmD hdct sn sub ab col dd k0 k1 k2 k3 k5 "Exception.__new__")) (F0 : Fr h₀ L s.heap m) (N0 : News h₀ L s.heap ((e, excInst t) :: NL)) (hlt : ∀ p ∈ NL, @LT.lt Nat _ p.1 e)
    (h : ∀ h' t', Fr h₀ L h' m → News h₀ L h' ((e, excInst t') :: NL) → Q .none { s with heap := h' }) : wpAny (model prog w) A (call (.builtin "Exception.__init__") [.ref e, v]) Q E s := by
  obtain ⟨hp, g, d, tk, os⟩ := s
  have F := PySem.F.excBase_Exception
  have he := (N0 _ (.head _)).1
  dsimp only at he hC
  have hcB : (Value.ref 59 :: bmD).contains (.type "Exception") = true := by decide
  have hshort := F.noStar
  refine wpAny_call (codeAny_call_builtin F.init.plain F.initEntry ?_)
  simp only [checkBuiltinCall, F.initKind, F.initSplit, F.initRow]
  repeat (first | with_reducible refine wpAny_loadPart_at he ?_ | with_reducible refine wpAny_loadPart_at hC ?_ | (with_reducible refine wpAny_isSubtype_exc hC ?_; rw [hcB]) | wp_step)
  have he₁ : (hp.push (tupO [v])).get? e = some (excInst t) := Heap.get?_push_of_some _ he
  have old : ∀ b o, b ≠ e → hp.get? b = some o → ((hp.push (tupO [v])).update e (Obj.mapFields fun x => x.setIfInBounds 0 (Value.ref hp.objs.size))).get? b = some o := fun b o hb q => (Heap.get?_update_other _ _ (Ne.symm hb)).trans (Heap.get?_push_of_some _ q)
  have he0 := (N0 _ (.head _)).2
  refine (show Q .none _ from ?_)
  refine h _ hp.objs.size ⟨F0.ns.at' fun o q => old _ o (Ne.symm he0.1) q, fun b o q => old b o (fun z => by rw [z, he0.2] at q; cases q) (F0.keep b o q), F0.above⟩ (fun p hp' => ?_)
  rcases List.mem_cons.mp hp' with rfl | hp'
  · exact ⟨Heap.get?_update_self _ he₁ rfl, he0⟩
  · exact ⟨old _ _ (Nat.ne_of_lt (hlt p hp')) (N0 p (.tail _ hp')).1, (N0 p (.tail _ hp')).2⟩
end
end
section
theorem meta_Exception : typeOf (.type "Exception") = pure (.type "type") := by first | rfl | kernel_rfl
set_option hygiene false in
local macro_rules | `(tactic| walk_at "getMethod type:Exception") => `(tactic| (k_here; refine' method_type ?F9 ?X9 ?m9 (by decide +kernel) ?e9 ?h9 ?_; (case F9 => k_asm); (case X9 => k_asm); (case m9 => exact meta_Exception); (case e9 => k_dflt k_is); (case h9 => k_handed)))
local macro_rules | `(tactic| walk_at "dummy line") => `(tactic| fail)
set_option maxRecDepth 100000 in
set_option maxHeartbeats 2000000 in
theorem fault_made {w : World} {p : Program} {loose : List Str} {mean : ExcName → Option Value} {mg mb : Str → Option Value} {NL : List (Addr × Obj)} {x : Str} {tx : Tok} :
    Spec w p loose mean mg mb 59 [.str x tx] 3 40 NL (fun NL' r => ∃ e o t, r = .ref e ∧ NL' = (e, o) :: NL ∧ o.cls = .ref 59 ∧ o.data = .fields #[.ref t, .none, .none, .none, .bool false, .none] ∧ ∀ p ∈ NL, @LT.lt Nat _ p.1 e) := by
  unfold Spec
  intro dp u gd A₀ base h₀ env outer L m s Q E B F X Tp hf hk hdep hu N hret
  obtain ⟨hp, g, d, tk, os⟩ := s
  refine wpAny_call ?_
  have hC := (X.keeps F.keep) 59 _ (by k_is)
  refine fault_call (K := hd.heap_39 w.params) (X.keeps F.keep) hC (by k_is) (by k_is) ?_
  have F2 := (F.push (tupO [.str x tx])).push (excInst hp.objs.size)
  have N2 := (N.push F (tupO [.str x tx])).push (F.push _) (excInst hp.objs.size)
  rw [Heap.size_push] at N2
  have l0 : ∀ p ∈ (hp.objs.size, tupO [.str x tx]) :: NL, @LT.lt Nat _ p.1 (hp.objs.size + 1) := fun p hp' => by
    rcases List.mem_cons.mp hp' with rfl | hp'
    · exact Nat.lt_succ_self _
    · exact Nat.lt_succ_of_lt (Heap.lt_size (N p hp').1)
  refine' code_defG B F2 X N2 Tp rfl hf hk ?k6 ?k7 ?kDep ?k9 ?kB ?_ ?c2 ?c3 ?c4 ?c5
  case k6 => k_is
  case k7 => k_is
  case k9 => exact binds_K (by k_in) rfl (by k_is) rfl rfl rfl
  case kDep => k_room
  case c5 => decide
  case kB => exact locs rfl
  case c2 => exact rfl
  case c3 => exact rfl
  case c4 => exact rfl
  intro g' L' h' FG' F' N' B' X' T' kG'
  (try dsimp only)
  (try k_fold)
  repeat' (first | (k_unfold; (try dsimp only)) | (k_end; wrow_close) | (walk1; try dsimp only) | (dsimp only; walk1; try dsimp only))
  have hC9 := (Frag.In.keeps X' F'.keep) 59 _ (by k_is)
  have hN9 := N'
  refine' exc_init hC9 ?F ?N ?l ?_
  case F => k_asm
  case N => k_asm
  case l => assumption
  intro h3 t3 F3 N3
  clear hN9 hC9
  have I3 : ExcAt g' L' ((hp.objs.size, tupO [.str x tx]) :: NL) h3 (hp.objs.size + 1) (excInst t3) _ (fun _ => none) := ⟨rfl, rfl, .inl ⟨rfl, fun _ => rfl⟩⟩
  dsimp only
  repeat' (first | (k_unfold; (try dsimp only)) | (k_end; wrow_close) | (walk1; try dsimp only) | (dsimp only; walk1; try dsimp only))
  refine' set_exc (Frag.In.keeps X' F3.keep) F3 N3 I3 l0 ?a1 ?a2 ?a3 ?a4 ?a5 Within.nil ?a6 ?_
  case a1 => k_is
  case a2 => exact rfl
  case a3 => exact rfl
  case a4 => k_is
  case a5 => k_is
  case a6 => decide
  intro h4 tk4 o4 F4 N4 I4 hd4
  clear I3 N3 F3
  dsimp only
  repeat' (first | (k_unfold; (try dsimp only)) | (k_end; wrow_close) | (walk1; try dsimp only) | (dsimp only; walk1; try dsimp only))
  refine' set_exc (Frag.In.keeps X' F4.keep) F4 N4 I4 l0 ?a1 ?a2 ?a3 ?a4 ?a5 (Within.cons _ _ Within.nil) ?a6 ?_
  case a1 => k_is
  case a2 => exact rfl
  case a3 => exact rfl
  case a4 => k_is
  case a5 => k_is
  case a6 => decide
  intro h5 tk5 o5 F5 N5 I5 hd5
  clear I4 N4 F4
  dsimp only
  repeat' (first | (k_unfold; (try dsimp only)) | (k_end; wrow_close) | (walk1; try dsimp only) | (dsimp only; walk1; try dsimp only))
  rename News h₀ L _ _ => kN9
  refine hret _ _ _ ((hp.objs.size + 1, o5) :: NL) (by assumption) (news_sub kN9 fun p hp' => ?_) (fun b o e n => F5.keep _ _ (kG' b o (Heap.get?_push_of_some _ (Heap.get?_push_of_some _ e)) ?_)) ⟨_, o5, t3, rfl, rfl, I5.cls, I5.dat, fun p hp' => l0 p (.tail _ hp')⟩
  · rcases List.mem_cons.mp hp' with rfl | hp'
    · exact .head _
    · exact .tail _ (.tail _ hp')
  · have := Heap.lt_size e
    simp only [List.map_cons, List.mem_cons, not_or]
    exact ⟨Nat.ne_of_lt (Nat.lt_succ_of_lt this), Nat.ne_of_lt this, n⟩
end
section
set_option maxRecDepth 100000
noncomputable abbrev frs (l : List Env) : List Addr := l.filterMap (·.frame)
inductive RaisedX (base h₀ : Heap) (env : Env) (outer : List Env) (L : Addr) (m : Str → Option Value) (NL : List (Addr × Obj)) (e : Addr) (h : Heap) : Prop
  | mk (B : Heap) (a0 : Value) : base.StaysIn B → (∀ b o, h₀.get? b = some o → b ∉ frs outer → B.get? b = some o) → (∀ q ∈ NL, B.get? q.1 = some q.2) → Heap.FlyingW B (env :: outer) e (.ref 59) a0 h → h₀.UpToSlots h → h.Ns L m → RaisedX base h₀ env outer L m NL e h
noncomputable def SpecE (w : World) (p : Program) (loose : List Str) (mean : ExcName → Option Value) (mg mb : Str → Option Value) (f : Addr) (vs : List Value) (dn un : Nat) (NL : List (Addr × Obj)) : Prop :=
  ∀ (dp u : Nat) (gd : Option (List Code)) (A₀ : Around) (base h₀ : Heap) (env : Env) (outer : List Env) (L : Addr) (m : Str → Option Value) (s : Shared) (Q E : Value → Shared → Prop),
    Below A₀ base outer h₀ → Fr h₀ L s.heap m → (hd.heap_39 w.params).In h₀ → Top p loose mean mg mb h₀ → env.frame = some L → env.scope.kind = .function → dp + dn < recursionLimit → u + un < cLine →
    News h₀ L s.heap NL → (∀ e h' tk', RaisedX base h₀ env outer L m NL e h' → E (.ref e) { s with heap := h', toks := tk' }) →
    wpAny (model PySem.Challenge.rw_og0176_01.row.prog w) (arnd dp u gd env outer) (call (.ref f) vs) Q E s
noncomputable def SpecT (w : World) (p : Program) (loose : List Str) (mean : ExcName → Option Value) (mg mb : Str → Option Value) (f : Addr) (vs : List Value) (dn un : Nat) (NL : List (Addr × Obj)) (Post : List (Addr × Obj) → Value → Prop) : Prop :=
  ∀ (dp u : Nat) (gd : Option (List Code)) (A₀ : Around) (base h₀ : Heap) (env : Env) (outer : List Env) (L : Addr) (m : Str → Option Value) (s : Shared) (Q E : Value → Shared → Prop),
    Below A₀ base outer h₀ → Fr h₀ L s.heap m → (hd.heap_39 w.params).In base → Top p loose mean mg mb base → env.frame = some L → env.scope.kind = .function → dp + dn < recursionLimit → u + un < cLine →
    News h₀ L s.heap NL → (∀ r h' tk' h₁ NL', KtsTurn (frs outer) h₀ h₁ → Fr h₁ L h' m → News h₁ L h' NL' → Below A₀ base outer h₁ → Post NL' r → Q r { s with heap := h', toks := tk' }) →
    wpAny (model PySem.Challenge.rw_og0176_01.row.prog w) (arnd dp u gd env outer) (call (.ref f) vs) Q E s

theorem below_any {A : Around} {base h₀ h : Heap} {env : Env} {outer : List Env} {L : Addr} {m : Str → Option Value} (K : Below A base outer h₀) (F : Fr h₀ L h m) (hf : env.frame = some L) (hk : env.scope.kind = .function) : h.FunFrames base (env :: outer) := by
  have hnew : base.get? L = none := by
    cases hq : base.get? L with
    | none => rfl
    | some o => exact absurd (Nat.lt_of_lt_of_le (Heap.lt_size (K.stays L o hq)) F.above) (Nat.lt_irrefl _)
  obtain ⟨o, es, ep, ho, hd, _⟩ := F.ns
  exact ⟨by rw [hk]; decide, ⟨L, o, hf, hnew, ho, fun vs e => by rw [hd] at e; cases e⟩, K.frames.of_keeps fun b o e _ => ⟨o, F.keep b o e, rfl⟩⟩
theorem hide_frames {base h : Heap} {as : List Addr} {l : List Env} (x : h.FunFrames base l) (hin : ∀ env ∈ l, ∀ a, env.frame = some a → a ∈ as) : h.FunFrames (hideAll h as) l := by
  induction l with
  | nil => trivial
  | cons env l ih =>
    obtain ⟨hk, ⟨L, o, hf, _, ho, hd⟩, hr⟩ := x
    exact ⟨hk, ⟨L, o, hf, hideAll_none _ (hin env (.head _) L hf), ho, hd⟩, ih hr fun e he => hin e (.tail _ he)⟩
section
variable {M : Model} {A A₀ : Around} {E : Value → Shared → Prop} {s' : Shared} {base h₀ g : Heap} {env env₁ : Env} {outer : List Env} {L L₁ e : Addr} {m m₁ : Str → Option Value} {Q : Unit → Shared → Prop} {NL N₁ : List (Addr × Obj)}
theorem not_frame {A : Around} {b : Addr} {nw : List (Addr × Obj)} {o : Obj} {h : Heap} (B : Below A base outer g) (N : News g L₁ h nw) (hm : (b, o) ∈ nw) : b ∉ frs outer := fun q => by
  obtain ⟨_, o', ho, _⟩ := B.frames.mem q
  have := (N _ hm).2.2
  dsimp only at this
  rw [this] at ho; cases ho
theorem leave_newX {oe : Obj} {t : Addr} (B' : Below A base (env :: outer) g) (FG : Fr h₀ L g m) (F' : Fr g L₁ s'.heap m₁) (N' : News g L₁ s'.heap N₁) (hf : env.frame = some L) (hf₁ : env₁.frame = some L₁) (hk₁ : env₁.scope.kind = .function)
    (hm : (e, oe) ∈ N₁) (hcl : oe.cls = .ref 59) (hd : oe.data = .fields #[.ref t, .none, .none, .none, .bool false, .none]) (hs : ∀ q ∈ NL, q ∈ N₁ ∧ q.1 ≠ e)
    (k : ∀ h'', RaisedX base h₀ env outer L m NL e h'' → Q () { s' with heap := h'' }) : wpAny M (A.deeper env₁) (leaving env₁ (.ref e)) Q E s' := by
  have hff := below_any B' F' hf₁ hk₁
  have he := N' _ hm
  dsimp only at he
  have hin : ∀ env' ∈ (env₁ :: env :: outer), ∀ b, env'.frame = some b → b ∈ e :: frs (env₁ :: env :: outer) := fun env' he b hb => .tail _ (List.mem_filterMap.mpr ⟨env', he, hb⟩)
  have hL1 : ∀ b o, g.get? b = some o → b ≠ L₁ := fun b o q z => by rw [z, kts_self F'] at q; cases q
  have hfr : ∀ b, b ∈ frs (env₁ :: env :: outer) → b = L₁ ∨ b ∈ frs (env :: outer) := fun b hb => by
    obtain ⟨env', h1, h2⟩ := List.mem_filterMap.mp hb
    rcases List.mem_cons.mp h1 with rfl | h1
    · rw [hf₁] at h2; exact .inl (Option.some.inj h2).symm
    · exact .inr (List.mem_filterMap.mpr ⟨env', h1, h2⟩)
  have hbase : ∀ b ∈ frs (env :: outer), base.get? b = none := fun b hb => (B'.frames.mem hb).1
  have stB : base.StaysIn (hideAll s'.heap (e :: frs (env₁ :: env :: outer))) := fun b o q => hideAll_get _ (F'.keep _ _ (B'.stays b o q)) fun hm' => by
    rcases List.mem_cons.mp hm' with rfl | hm'
    · have := B'.stays _ _ q; rw [he.2.2] at this; cases this
    · rcases hfr b hm' with z | z
      · exact hL1 b o (B'.stays _ _ q) z
      · rw [hbase b z] at q; cases q
  refine wpAny_leaving_firstW (base := hideAll s'.heap (e :: frs (env₁ :: env :: outer))) (a0 := .ref t) (Around.frames_deeper B'.stack) (hide_frames hff hin) hf₁ he.1 (fun b o q => of_hideAll _ q) (hideAll_none _ (.head _)) hd rfl rfl fun h' hL => ?_
  obtain ⟨k1, ⟨_, _, k2⟩, k3, k4⟩ := hL
  rw [hcl] at k3
  have up : g.UpToSlots h' := (Heap.UpToSlots.of_keeps F'.keep).trans k4
  refine k h' ⟨_, _, stB, fun b o q nm => hideAll_get _ (F'.keep _ _ (FG.keep _ _ q)) fun hm' => ?_, fun q hq => hideAll_get _ (N' _ (hs q hq).1).1 fun hm' => ?_, ⟨k1, hideAll_none _ (.head _), k2, k3⟩, (Heap.UpToSlots.of_keeps FG.keep).trans up, up.ns FG.ns⟩
  · rcases List.mem_cons.mp hm' with rfl | hm'
    · have := FG.keep _ _ q; rw [he.2.2] at this; cases this
    · rcases hfr b hm' with z | z
      · exact hL1 b o (FG.keep _ _ q) z
      · obtain ⟨env', h1, h2⟩ := List.mem_filterMap.mp z
        rcases List.mem_cons.mp h1 with rfl | h1
        · rw [hf] at h2
          rw [← Option.some.inj h2, kts_self FG] at q; cases q
        · exact nm (List.mem_filterMap.mpr ⟨env', h1, h2⟩)
  · rcases List.mem_cons.mp hm' with z | hm'
    · exact (hs q hq).2 z
    · rcases hfr q.1 hm' with z | z
      · exact (N' _ (hs q hq).1).2.1 z
      · exact not_frame B' N' (hs q hq).1 z
theorem leave_onX (B' : Below A base (env :: outer) g) (FG : Fr h₀ L g m) (hf : env.frame = some L) (hf₁ : env₁.frame = some L₁) (R : RaisedX base g env₁ (env :: outer) L₁ m₁ N₁ e s'.heap) (hs : ∀ q ∈ NL, q ∈ N₁)
    (k : ∀ h'', RaisedX base h₀ env outer L m NL e h'' → Q () { s' with heap := h'' }) : wpAny M (A.deeper env₁) (leaving env₁ (.ref e)) Q E s' := by
  obtain ⟨B, a0, b1, b2, b3, fl, up, hn⟩ := R
  refine wpAny_leaves_onW (Around.frames_deeper B'.stack) hf₁ fl fun h' x1 x2 => ?_
  have up' := up.trans x2
  refine k h' ⟨B, a0, b1, fun b o q nm => b2 b o (FG.keep _ _ q) fun hm' => ?_, fun q hq => b3 q (hs q hq), x1, (Heap.UpToSlots.of_keeps FG.keep).trans up', up'.ns FG.ns⟩
  obtain ⟨env', h1, h2⟩ := List.mem_filterMap.mp hm'
  rcases List.mem_cons.mp h1 with rfl | h1
  · rw [hf] at h2
    rw [← Option.some.inj h2, kts_self FG] at q; cases q
  · exact nm (List.mem_filterMap.mpr ⟨env', h1, h2⟩)
theorem turn_of {h : Heap} (B : Below A base outer h₀) (keep : ∀ b o, h₀.get? b = some o → b ∉ frs outer → h.get? b = some o) (up : h₀.UpToSlots h) :
    ∃ h₁, KtsTurn (frs outer) h₀ h₁ ∧ (∀ b o, h₁.get? b = some o → h.get? b = some o) ∧ Below A base outer h₁ := by
  obtain ⟨T, S⟩ := kts_turn_at (h := h) (fs := frs outer) (g := h₀)
    (fun b hb => by obtain ⟨_, o, ho, _⟩ := B.frames.mem hb; exact ⟨o, ho⟩) keep
    (fun b o e hm => by obtain ⟨_, o', ho', hd⟩ := B.frames.mem hm; rw [e] at ho'; cases ho'; exact up b o e hd)
  refine ⟨_, T, S, ⟨B.stack, fun b o e => T.other b o (B.stays b o e) (fun hm => by rw [(B.frames.mem hm).1] at e; cases e), B.frames.of_keeps fun b o e _ => ?_⟩⟩
  obtain ⟨sl, hs⟩ := T.up e
  exact ⟨_, hs, rfl⟩
end
inductive DraftCls (h : Heap) : Prop
  | mk (nm q : Str) (N : Addr) (bs : List Value) (hdct : Bool) (sn : List Str) (sub : List Value) (ab : Bool) (col : Option Bool) (dd : Option Addr) (k0 k1 k2 k3 k5 : Option Value) (newId : String) : h.get? 59 = some (excClassObj nm q 59 N bs bmD hdct sn sub ab col dd k0 k1 k2 k3 k5 newId) → DraftCls h
theorem draft_cls {w : World} {h : Heap} (X : (hd.heap_39 w.params).In h) : DraftCls h := ⟨_, _, _, _, _, _, _, _, _, _, _, _, _, _, _, _, X 59 _ (by k_is)⟩
section
variable {prog : Program} {w : World} {A : Around} {E : Value → Shared → Prop} {s : Shared} {env : Env} {Q : Flow → Shared → Prop}

theorem raise_made {x : Sem Value} (hh : A.handled = none)
    (h : wpAny (model prog w) A x (fun v s₁ => ∃ e oe t, v = .ref e ∧ oe.data = .fields #[.ref t, .none, .none, .none, .bool false, .none] ∧ DraftCls s₁.heap ∧ s₁.heap.get? e = some oe ∧ oe.cls = .ref 59 ∧ E (.ref e) s₁) E s) :
    wpAny (model prog w) A (raiseStmt env (some x) none) Q E s := by
  have hcB : (Value.ref 59 :: bmD).contains (.type "BaseException") = true := by decide
  unfold raiseStmt
  refine wpAny_bind (wpAny_mono h (fun v s₁ h₁ => ?_) fun _ _ x => x)
  obtain ⟨e, oe, t, rfl, hdt, hC, he, hcl, hE⟩ := h₁
  obtain ⟨nm, q, N, bs, hdct, sn, sub, ab, col, dd, k0, k1, k2, k3, k5, newId, hC⟩ := hC
  obtain ⟨oc, od, odt, osl⟩ := oe
  dsimp only at hdt hcl
  subst hdt hcl
  obtain ⟨hp, g, d, tk, os⟩ := s₁
  repeat (first | with_reducible refine wpAny_loadPart_at he ?_ | with_reducible refine wpAny_loadPart_at hC ?_ | (with_reducible refine wpAny_isSubtype_exc hC ?_; rw [hcB]) | wp_step)
  exact wpAny_raiseNew_none hh hE
theorem exec_raise {v : Expr} {pos : Pos} (hh : A.handled = none)
    (h : wpAny (model prog w) A (eval v env) (fun v s₁ => ∃ e oe t, v = .ref e ∧ oe.data = .fields #[.ref t, .none, .none, .none, .bool false, .none] ∧ DraftCls s₁.heap ∧ s₁.heap.get? e = some oe ∧ oe.cls = .ref 59 ∧ E (.ref e) s₁) E s) :
    wpAny (model prog w) A (exec (.Raise (some v) none pos) env) Q E s := by
  rw [arm_exec_Raise]
  refine wpAny_bind (wpAny_standAt (raise_made hh (wpAny_bind (wpAny_mono h (fun v s₁ h₁ => wpAny_bind (wpAny_standAt (wpAny_pure h₁))) fun _ _ x => x))))
end
end
section
set_option hygiene false in
local macro_rules | `(tactic| walk_at "exec Raise some none") => `(tactic| (k_here; refine' exec_raise rfl ?_))
set_option maxRecDepth 100000 in
set_option maxHeartbeats 2000000 in
theorem need_ok {w : World} {p : Program} {loose : List Str} {mean : ExcName → Option Value} {mg mb : Str → Option Value} {NL : List (Addr × Obj)} {x : Str} {tx : Tok} : Spec w p loose mean mg mb 310 [.bool true, .str x tx] 1 10 NL (fun NL' r => NL' = NL ∧ r = .none) := by
  unfold Spec
  intro dp u gd A₀ base h₀ env outer L m s Q E B F X Tp hf hk hd hu N hret
  refine wpAny_call ?_
  refine' code_defG B F X N Tp rfl hf hk ?k6 ?k7 (asm2 hd) ?k9 ?kB ?_ ?c2 ?c3 ?c4 ?c5
  case k6 => k_is
  case k7 => k_is
  case k9 => exact BindsTo.of_eq rfl
  case c5 => decide
  case kB => exact locs rfl
  case c2 => exact rfl
  case c3 => exact rfl
  case c4 => exact rfl
  intro g' L' h' FG' F' N' B' X' T' kG'
  (try dsimp only)
  (try k_fold)
  repeat' (first | (k_unfold; (try dsimp only)) | (k_end; wrow_close) | ((fail_if_success (fail_if_success (with_reducible show wpAny _ _ (call (Value.ref _) _) _ _ _))); (k_here; k_dflt ((with_reducible show wpAny _ _ (call (Value.ref 59) _) _ _ _); (refine' spec_useG fault_made ?B9z ?F9z ?X9z ?T9z rfl rfl ?hd9z ?hu9z ?N9z ?_; (case B9z => k_asm); (case F9z => k_asm); (case X9z => k_asm); (case T9z => k_asm); (case hd9z => k_room); (case hu9z => k_units); (case N9z => k_asm)); (intro GG hGG r1 h1 tk1 NL1 F1 N1 x1 P1; obtain ⟨ee, eo, et, e1, e2, hcl, hdt, hlt⟩ := P1; subst e1 e2; refine hGG _ _ _ _ ?_; clear hGG GG; clear x1; refine ⟨_, _, _, rfl, hdt, draft_cls (Frag.In.keeps X' F1.keep), (N1 _ (List.Mem.head _)).1, hcl, ?_⟩; (try dsimp only)))); try dsimp only) | (walk1; try dsimp only) | (dsimp only; walk1; try dsimp only))
  exact hret _ _ _ _ (by assumption) (by assumption) (ext_of kG' (by assumption)) ⟨rfl, rfl⟩
set_option maxRecDepth 100000 in
set_option maxHeartbeats 2000000 in
theorem need_no {w : World} {p : Program} {loose : List Str} {mean : ExcName → Option Value} {mg mb : Str → Option Value} {NL : List (Addr × Obj)} {x : Str} {tx : Tok} : SpecE w p loose mean mg mb 310 [.bool false, .str x tx] 5 60 NL := by
  unfold SpecE
  intro dp u gd A₀ base h₀ env outer L m s Q E B F X Tp hf hk hd hu N hret
  refine wpAny_call ?_
  refine' code_defG B F X N Tp rfl hf hk ?k6 ?k7 (asm2 hd) ?k9 ?kB ?_ ?c2 ?c3 ?c4 ?c5
  case k6 => k_is
  case k7 => k_is
  case k9 => exact BindsTo.of_eq rfl
  case c5 => decide
  case kB => exact locs rfl
  case c2 => exact rfl
  case c3 => exact rfl
  case c4 => exact rfl
  intro g' L' h' FG' F' N' B' X' T' kG'
  (try dsimp only)
  (try k_fold)
  repeat' (first | (k_unfold; (try dsimp only)) | (k_end; wrow_close) | ((fail_if_success (fail_if_success (with_reducible show wpAny _ _ (call (Value.ref _) _) _ _ _))); (k_here; k_dflt ((with_reducible show wpAny _ _ (call (Value.ref 59) _) _ _ _); (refine' spec_useG fault_made ?B9z ?F9z ?X9z ?T9z rfl rfl ?hd9z ?hu9z ?N9z ?_; (case B9z => k_asm); (case F9z => k_asm); (case X9z => k_asm); (case T9z => k_asm); (case hd9z => k_room); (case hu9z => k_units); (case N9z => k_asm)); (intro GG hGG r1 h1 tk1 NL1 F1 N1 x1 P1; obtain ⟨ee, eo, et, e1, e2, hcl, hdt, hlt⟩ := P1; subst e1 e2; refine hGG _ _ _ _ ?_; clear hGG GG; clear x1; refine ⟨_, _, _, rfl, hdt, draft_cls (Frag.In.keeps X' F1.keep), (N1 _ (List.Mem.head _)).1, hcl, ?_⟩; (try dsimp only)))); try dsimp only) | (walk1; try dsimp only) | (dsimp only; walk1; try dsimp only))
  refine leave_newX (h₀ := h₀) (NL := NL) B' FG' F1 N1 hf rfl rfl (.head _) hcl hdt (fun q hq => ⟨.tail _ hq, Nat.ne_of_lt (hlt q hq)⟩) fun h9 R9 => ?_
  exact hret _ _ _ R9
end
section
local macro_rules | `(tactic| walk_at "subscriptTail") => `(tactic| (k_here; (with_reducible show wpAny _ _ (subscriptTail _ _ (Value.ref _) (Value.int _ _)) _ _ _); k_dflt (refine' tup_item_N ?N ?hm ?h0 ?h1 ?hx ?_; (case N => k_asm); (case hm => k_mem); (case h0 => decide); (case h1 => decide); (case hx => exact rfl))))
local macro_rules | `(tactic| walk_at "subscriptTail") => `(tactic| (k_here; (with_reducible show wpAny _ _ (subscriptTail _ _ (Value.ref _) (Value.ref _)) _ _ _); k_dflt (refine' tup_tail_N ?F ?N ?hm ?hz ?_; (case F => k_asm); (case N => k_asm); (case hm => k_mem); (case hz => ((try simp only [List.length_cons, List.length_nil]); omega)); intro D' h' F' N' l1; (try k_lt l1))))
section
set_option hygiene false in
local macro_rules | `(tactic| walk_at "exec Raise some none") => `(tactic| (k_here; refine' exec_raise rfl ?_))
set_option maxRecDepth 100000 in
set_option maxHeartbeats 2000000 in
theorem leaf_no {w : World} {p : Program} {loose : List Str} {mean : ExcName → Option Value} {mg mb : Str → Option Value} {NL : List (Addr × Obj)} {a : Addr} {k : Str} {t : Tok} {vs : List Value} {n : Nat} (hm : (a, tupOf (.str k t :: vs).toArray n) ∈ NL) (n1 : (k == S "real") = false) (n2 : (k == S "name") = false) (n3 : (k == S "string") = false) (n4 : (k == S "ref") = false) : SpecE w p loose mean mg mb 296 [.ref a] 5 60 NL := by
  unfold SpecE
  intro dp u gd A₀ base h₀ env outer L m s Q E B F X Tp hf hk hd hu N hret
  refine wpAny_call ?_
  refine' code_defG B F X N Tp rfl hf hk ?k6 ?k7 (asm2 hd) ?k9 ?kB ?_ ?c2 ?c3 ?c4 ?c5
  case k6 => k_is
  case k7 => k_is
  case k9 => exact BindsTo.of_eq rfl
  case c5 => decide
  case kB => exact locs rfl
  case c2 => exact rfl
  case c3 => exact rfl
  case c4 => exact rfl
  intro g' L' h' FG' F' N' B' X' T' kG'
  (try dsimp only)
  (try k_fold)
  repeat' (first | (k_unfold; (try dsimp only)) | (k_end; wrow_close) | ((fail_if_success (fail_if_success (with_reducible show wpAny _ _ (call (Value.ref _) _) _ _ _))); (k_here; k_dflt ((with_reducible show wpAny _ _ (call (Value.ref 59) _) _ _ _); (refine' spec_useG fault_made ?B9z ?F9z ?X9z ?T9z rfl rfl ?hd9z ?hu9z ?N9z ?_; (case B9z => k_asm); (case F9z => k_asm); (case X9z => k_asm); (case T9z => k_asm); (case hd9z => k_room); (case hu9z => k_units); (case N9z => k_asm)); (intro GG hGG r1 h1 tk1 NL1 F1 N1 x1 P1; obtain ⟨ee, eo, et, e1, e2, hcl, hdt, hlt⟩ := P1; subst e1 e2; refine hGG _ _ _ _ ?_; clear hGG GG; clear x1; refine ⟨_, _, _, rfl, hdt, draft_cls (Frag.In.keeps X' F1.keep), (N1 _ (List.Mem.head _)).1, hcl, ?_⟩; (try dsimp only)))); try dsimp only) | (walk1; try dsimp only) | (dsimp only; walk1; try dsimp only))
  refine leave_newX (h₀ := h₀) (NL := NL) B' FG' F1 N1 hf rfl rfl (.head _) hcl hdt (fun q hq => ⟨.tail _ hq, Nat.ne_of_lt (hlt q hq)⟩) fun h9 R9 => ?_
  exact hret _ _ _ R9
end
section
section
variable {prog : Program} {w : World} {A : Around} {E : Value → Shared → Prop} {s : Shared} {env : Env} {h₀ : Heap} {L : Addr} {m : Str → Option Value}
  {target elt iter : Expr} {ifs : List Expr} {scope : Scope} {cl : List (Str × Addr)} {pos : Pos} {Q : Value → Shared → Prop}
  {I : Addr} {fp wr : List Addr} {n : Nat} {P Md : Nat → Value → Heap → Prop} {St : Nat → Heap → Prop} {nw₀ : List (Addr × Obj)}
theorem comp_turnsA {y : Str} {py : Pos} {QF : Flow → Shared → Prop} (J : Nat → List Value → List (Addr × Obj) → Prop) (G : Nat → Value → (Str → Option Value) → Prop) (W : KTurns prog w A target I fp wr n P Md St)
    (hself : ∀ (s : Shared) (Q : Value → Shared → Prop) (E : Value → Shared → Prop), St 0 s.heap → Q (.ref I) s → wpAny (model prog w) A (pyIter (.ref I)) Q E s)
    (hLf : L ∉ fp) (hwr : ∀ b ∈ wr, h₀.get? b = none) (hfp : ∀ b ∈ fp, b < s.heap.objs.size) (hnw : Off nw₀ wr) (hst : St 0 s.heap) (F : Fr h₀ L s.heap m) (N : News h₀ L s.heap nw₀) (h0 : J 0 [] nw₀) (hsz : n ≤ sizeLine)
    (hcell : ∀ y ∈ scope.names, y.2 ≠ .cell) (hkind : scope.kind = .function)
    (hass : ∀ (C : Addr) i v (s₁ : Shared) (mC : Str → Option Value) (Q' : Unit → Shared → Prop) (E' : Value → Shared → Prop), P i v s₁.heap → s₁.heap.Ns C mC → C ∉ fp →
      (∀ h₂ tk₂ mC', Heap.ExtBut C s₁.heap h₂ → h₂.Ns C mC' → G i v mC' → Q' () { s₁ with heap := h₂, toks := tk₂ }) → wpAny (model prog w) A (assign target (compEnvC scope cl C env) v) Q' E' s₁)
    (step : ∀ (C D : Addr) oC own i v ys kD nw h tk mC (E' : Value → Shared → Prop), i < n → G i v mC → J i ys nw → Off nw (C :: D :: wr) → (∀ b ∈ wr, b < D) → s.heap.objs.size ≤ D → D < C → (∀ p ∈ own, p.1 ∈ fp) → Fr h₀ L h m → h.Ns C mC →
      News h₀ L h ((C, oC) :: (D, listOf ys.toArray kD) :: (own ++ nw)) →
      wpAny (model prog w) A (forIn ifs true fun c r => if r = true then do let ok ← isTrue c (compEnvC scope cl C env) (eval c (compEnvC scope cl C env)); pure (ForInStep.yield ok) else pure (ForInStep.yield r))
        (fun ok s₃ => if ok = true then wpAny (model prog w) A (eval elt (compEnvC scope cl C env)) (fun y s₄ => CEnd h₀ L m (C :: D :: wr) ((C, oC) :: (D, listOf ys.toArray kD) :: own) (J (i + 1) (ys ++ [y])) { s with heap := h, toks := tk } s₄) E' s₃
          else CEnd h₀ L m (C :: D :: wr) ((C, oC) :: (D, listOf ys.toArray kD) :: own) (J (i + 1) ys) { s with heap := h, toks := tk } s₃) E' { s with heap := h, toks := tk })
    (hL : env.locals = L) (hy : env.kindOf y = some .local) (hp : (env.scope.kind == .class || (env.scope.kind == .module && env.locals != env.globals)) = false)
    (done : ∀ (D : Addr) ys kD nw h tk, s.heap.objs.size ≤ D → Off nw [D] → J n ys nw → Fr h₀ L h (fun z => if z = y then some (.ref D) else m z) → News h₀ L h ((D, listOf ys.toArray kD) :: nw) → QF .next { s with heap := h, toks := tk }) :
    wpAny (model prog w) A (newList []) (fun acc s₃ => wpAny (model prog w) A (newFunctionEnv scope env.globals cl [] env.qual none .none (some env)) (fun cenv s₄ =>
    codeAny (model prog w) A (.compStart (.ListComp elt [⟨target, iter, ifs, 0⟩] scope pos) 0 (.ref I) acc { cenv with scope := relabel scope env }) (compPost (model prog w) A E (some (assign (.Name y py) env)) (fun _ s' => QF .next s') acc cenv.locals) s₄) E s₃) E s := by
  subst hL
  refine comp_turnsR _ J G W hself hLf hwr hfp hnw hst F N h0 hsz hcell hkind hass step ?_
  intro D C ys kD nw h tk mC hD hDC hoff hJ F' hn hC0 hLC N'
  show wpAny _ A (assign (.Name y py) env (.ref D)) _ _ _
  refine wpAny_assign_Name (wpAny_storeName_local hy F'.ns (fun h₂ hn₂ hs₂ => ?_) hp)
  refine ⟨mC, hn.sameBut hs₂ (Ne.symm hLC), fun h₃ hs₃ => done D ys kD nw h₃ _ hD (fun p hp e => hoff p hp (by rw [List.mem_singleton.mp e]; exact .tail _ (.head _))) hJ ((F'.set hn₂ hs₂).change hs₃ (Ne.symm hLC) hC0) fun p hp => ?_⟩
  refine ⟨hs₃.extBut _ _ ?_ (hs₂.extBut _ _ (N' p hp).2.1 (N' p hp).1), (N' p hp).2⟩
  rcases List.mem_cons.mp hp with rfl | hp
  · exact Nat.ne_of_lt hDC
  · exact fun e => hoff p hp (by rw [e]; exact .head _)

theorem comp_listA {x y : Str} {px py spos : Pos} {ax : Addr} {vs : List Value} {k : Nat} {QF : Flow → Shared → Prop} {av : Expr} (J : Nat → List Value → List (Addr × Obj) → Prop) (hh : A.handled = none) (F : Fr h₀ L s.heap m) (N : News h₀ L s.heap nw₀) (hm : (ax, listOf vs.toArray k) ∈ nw₀) (h0 : J 0 [] nw₀) (hsz : vs.length ≤ sizeLine)
    (hsw : swapsWith (.ListComp elt [⟨.Name x px, av, ifs, 0⟩] scope pos) (some (.Name y py)) spos.line env = pure true)
    (hclos : closureFor scope env = pure cl) (hnames : ∀ y ∈ scope.names, y.2 = .local → scope.names.lookup y.1 = some .local)
    (hcell : ∀ y ∈ scope.names, y.2 ≠ .cell) (hkind : scope.kind = .function) (hx : scope.names.lookup x = some .local)
    (hL : env.locals = L) (hy : env.kindOf y = some .local) (hp : (env.scope.kind == .class || (env.scope.kind == .module && env.locals != env.globals)) = false)
    (hit : ∀ Q : Value → Shared → Prop, Q (.ref ax) s → wpAny (model prog w) A (eval av env) Q E s)
    (step : ∀ (C D I : Addr) oC own i v ys kD nw h tk mC (E' : Value → Shared → Prop), vs[i]? = some v → mC x = some v → J i ys nw → Off nw [C, D, I] → @LE.le Nat _ s.heap.objs.size I → @LT.lt Nat _ I D → @LT.lt Nat _ D C → (∀ p ∈ own, p.1 = I ∨ p.1 = ax) → Fr h₀ L h m → h.Ns C mC →
      News h₀ L h ((C, oC) :: (D, listOf ys.toArray kD) :: (own ++ nw)) →
      wpAny (model prog w) A (forIn ifs true fun c r => if r = true then do let ok ← isTrue c (compEnvC scope cl C env) (eval c (compEnvC scope cl C env)); pure (ForInStep.yield ok) else pure (ForInStep.yield r))
        (fun ok s₃ => if ok = true then wpAny (model prog w) A (eval elt (compEnvC scope cl C env)) (fun y s₄ => CEnd h₀ L m [C, D, I] ((C, oC) :: (D, listOf ys.toArray kD) :: own) (J (i + 1) (ys ++ [y])) { s with heap := h, toks := tk } s₄) E' s₃
          else CEnd h₀ L m [C, D, I] ((C, oC) :: (D, listOf ys.toArray kD) :: own) (J (i + 1) ys) { s with heap := h, toks := tk } s₃) E' { s with heap := h, toks := tk })
    (done : ∀ (D : Addr) ys kD nw h tk, (∀ p ∈ nw₀, @LT.lt Nat _ p.1 D) → Off nw [D] → J vs.length ys nw → Fr h₀ L h (fun z => if z = y then some (.ref D) else m z) → News h₀ L h ((D, listOf ys.toArray kD) :: nw) → QF .next { s with heap := h, toks := tk })
    (hs : ∀ x, foldedSetIterable av env x = pure x := by intro _; rfl) :
    wpAny (model prog w) A (exec (.Assign [.Name y py] (.ListComp elt [⟨.Name x px, av, ifs, 0⟩] scope pos) spos) env) QF E s := by
  rw [exec_Assign_Name_used _ _ _ _ hsw]
  refine wpAny_bind (wpAny_standAt (wpAny_bind ?_))
  show wpAny _ A (do let _ ← comprehension (.ListComp elt [⟨.Name x px, av, ifs, 0⟩] scope pos) scope env _ (newList []) false (eval av env) (some (assign (.Name y py) env))) _ _ s
  have hls : s.heap.IsList ax vs.toArray := ⟨_, (N _ hm).1, rfl, k, rfl⟩
  have hlt : ax < s.heap.objs.size := Heap.lt_size (N _ hm).1
  refine wpAny_bind (wpAny_mono (wpAny_comprehension_free (use := some (assign (.Name y py) env)) (Q := fun _ s' => QF .next s') rfl hs hclos hkind hnames
    (hit _ (wpAny_pyIter_list hls ?_))) (fun _ s' hq => wpAny_pure (wpAny_pure hq)) fun _ _ e => e)
  have W := Walks.list (prog := prog) (w := w) hh s.heap.objs.size ax (Nat.ne_of_lt hlt) vs.toArray
  have hlen : vs.toArray.size = vs.length := by simp
  rw [hlen] at W
  have hsize : (s.heap.push { cls := .type "list_iterator", data := .fields #[.ref ax, .int 0 0] }).objs.size = s.heap.objs.size + 1 := Heap.size_push _ _
  refine comp_turnsA (s := { s with heap := s.heap.push { cls := .type "list_iterator", data := .fields #[.ref ax, .int 0 0] } }) (nw₀ := nw₀) J (fun i v mC => vs[i]? = some v ∧ mC x = some v)
    (KTurns.ofWalks (target := .Name x px) W fun i v s Q E st h => wpAny_pure h) (fun s Q E st hq => wpAny_pyIter_listiter st.1 hq) ?_ ?_ ?_ ?_
    ⟨⟨_, Heap.get?_push_size _ rfl, rfl, rfl⟩, hls.at fun o e => Heap.get?_push_of_some _ e⟩ (F.push _) (fun p hp => ⟨Heap.get?_push_of_some _ (N p hp).1, (N p hp).2⟩) h0 hsz hcell hkind ?_ ?_ hL hy hp ?_
  · intro hm'
    rcases List.mem_cons.mp hm' with e | hm'
    · exact absurd F.ns.lt (e ▸ Nat.lt_irrefl _)
    · exact (N _ hm).2.1 (List.mem_singleton.mp hm').symm
  · intro b hb
    rw [List.mem_singleton.mp hb]
    exact next_is_new F
  · intro b hb
    show b < (s.heap.push _).objs.size
    rw [hsize]
    rcases List.mem_cons.mp hb with e | hb
    · rw [e]; exact Nat.lt_succ_self _
    · rw [List.mem_singleton.mp hb]; exact Nat.lt_succ_of_lt hlt
  · intro p hp hI
    exact absurd (Heap.lt_size (N p hp).1) ((List.mem_singleton.mp hI) ▸ Nat.lt_irrefl _)
  · intro C i v s₁ mC Q' E' hP hn hC hq
    refine wpAny_assign_Name (wpAny_storeName_local (lookup_relabel_local hx) hn (fun h₂ hn₂ hs₂ => hq h₂ _ _ hs₂.extBut hn₂ ⟨by simpa using hP, by simp⟩) (by simp [compEnvC, relabel, hkind]))
  · intro C D oC own i v ys kD nw h tk mC E' hi hG hJ hoff hwD hD hC hown F' hn' N'
    rw [show (Shared.heap _).objs.size = s.heap.objs.size + 1 from hsize] at hD
    refine step C D _ oC own i v ys kD nw h tk mC E' hG.1 hG.2 hJ hoff (Nat.le_refl _) (hwD _ (.head _)) hC (fun p hp => ?_) F' hn' N'
    rcases List.mem_cons.mp (hown p hp) with e | e
    · exact .inl e
    · exact .inr (List.mem_singleton.mp e)
  · intro D ys kD nw h tk hD hoff hJ F' N'
    rw [show (Shared.heap _).objs.size = s.heap.objs.size + 1 from hsize] at hD
    exact done D ys kD nw h tk (fun p hp => Nat.lt_of_lt_of_le (Heap.lt_size (N p hp).1) (Nat.le_trans (Nat.le_succ _) hD)) hoff hJ F' N'
end
end
section
inductive RowIn (NL : List (Addr × Obj)) (v : Value) (r : Bool × Str) : Prop
  | mk (a p : Addr) (ps : List Value) (old new : Value) (n1 n2 : Nat) (t : Tok) : v = .ref a → (a, tupOf [.ref p, .str r.2 t, old, new].toArray n1) ∈ NL → (p, tupOf ps.toArray n2) ∈ NL → r.1 = ps.isEmpty → ps.length ≤ 4 → RowIn NL v r
theorem RowIn.mono {T T' : List (Addr × Obj)} (hs : ∀ p ∈ T, p ∈ T') {v : Value} {r : Bool × Str} : RowIn T v r → RowIn T' v r := by
  rintro ⟨a, p, ps, old, new, n1, n2, t, e, h1, h2, h3, h4⟩
  exact ⟨a, p, ps, old, new, n1, n2, t, e, hs _ h1, hs _ h2, h3, h4⟩
theorem eq_unit_N {prog : Program} {w : World} {A : Around} {E : Value → Shared → Prop} {s : Shared} {h₀ : Heap} {L q D : Addr} {ps : List Value} {n1 n2 : Nat} {nw : List (Addr × Obj)} {Q : Value → Shared → Prop} (N : News h₀ L s.heap nw) (m1 : (q, tupOf ps.toArray n1) ∈ nw) (m2 : (D, tupOf #[] n2) ∈ nw) (hu : A.units < cLine) (h : Q (.bool ps.isEmpty) s) :
    wpAny (model prog w) A (compareOp .Eq (.ref q) (.ref D)) Q E s := by
  refine EqBoolInt.of_rc (RcAt.tuples (e := fun _ => true) ⟨_, (N _ m1).1, rfl, _, rfl⟩ ⟨_, (N _ m2).1, rfl, _, rfl⟩ hu fun j _ h2 => absurd h2 (by simp)) ?_
  have e : (List.all (List.range (min ps.toArray.size (#[] : Array Value).size)) (fun _ => true) && ps.toArray.size == (#[] : Array Value).size) = ps.isEmpty := by cases ps <;> simp
  rw [e]; exact h
section
variable {prog : Program} {w : World} {A : Around} {E : Value → Shared → Prop} {s : Shared} {h₀ : Heap} {L q D : Addr} {ps : List Value} {n1 n2 : Nat} {nw : List (Addr × Obj)} {Q : Value → Shared → Prop}
theorem eq_nil_N (N : News h₀ L s.heap nw) (m1 : (q, listOf ps.toArray n1) ∈ nw) (m2 : (D, listOf #[] n2) ∈ nw) (hu : A.units < cLine) (h : Q (.bool ps.isEmpty) s) :
    wpAny (model prog w) A (compareOp .Eq (.ref q) (.ref D)) Q E s := by
  cases ps with
  | nil => exact EqBoolInt.of_rc (RcAt.lists (e := fun _ => true) ⟨_, (N _ m1).1, rfl, _, rfl⟩ ⟨_, (N _ m2).1, rfl, _, rfl⟩ rfl hu fun j _ h2 => absurd h2 (by simp)) h
  | cons x l => exact EqBoolInt.of_rc (RcAt.lists_lengths ⟨_, (N _ m1).1, rfl, _, rfl⟩ ⟨_, (N _ m2).1, rfl, _, rfl⟩ (by simp) hu) h
theorem ne_nil_N (N : News h₀ L s.heap nw) (m1 : (q, listOf ps.toArray n1) ∈ nw) (m2 : (D, listOf #[] n2) ∈ nw) (hu : A.units < cLine) (h : Q (.bool (!ps.isEmpty)) s) :
    wpAny (model prog w) A (compareOp .NotEq (.ref q) (.ref D)) Q E s := by
  cases ps with
  | nil => exact EqBoolInt.of_rcne (RcNeAt.lists (e := fun _ => false) ⟨_, (N _ m1).1, rfl, _, rfl⟩ ⟨_, (N _ m2).1, rfl, _, rfl⟩ rfl hu fun j _ h2 => absurd h2 (by simp)) h
  | cons x l => exact EqBoolInt.of_rcne (RcNeAt.lists_lengths ⟨_, (N _ m1).1, rfl, _, rfl⟩ ⟨_, (N _ m2).1, rfl, _, rfl⟩ (by simp) hu) h
theorem len_list_N (N : News h₀ L s.heap nw) (m1 : (q, listOf ps.toArray n1) ∈ nw) (hl : ps.length ≤ 100) (h : Q (.int ps.length (s.toks + 1)) { s with toks := s.toks + 1 + 1 }) : wpAny (model prog w) A (call (.builtin "len") [.ref q]) Q E s :=
  call_len_list ⟨_, (N _ m1).1, rfl, _, rfl⟩ (by simp; omega) (by simpa using h)
end
theorem name_CO {prog : Program} {w : World} {A : Around} {E : Value → Shared → Prop} {s : Shared} {env : Env} {h₀ : Heap} {L : Addr} {scope : Scope} {cl : List (Str × Addr)} {Q : Value → Shared → Prop} {nw : List (Addr × Obj)} {C : Addr} {oC : Obj} {x : Str} {px : Pos} {mC : Str → Option Value} {v : Value} (H : ∀ h' : Heap, h'.get? C = some oC → h'.Ns C mC) (N : News h₀ L s.heap nw) (hm : (C, oC) ∈ nw) (hv : mC x = some v) (h : Q v s)
    (hk : (compEnvC scope cl C env).scope.kind = .function := by rfl) (hl : (compEnvC scope cl C env).kindOf x = some .local := by rfl) (hd : (x == ("__debug__" : Str)) = false := by decide) :
    wpAny (model prog w) A (eval (.Name x px) (compEnvC scope cl C env)) Q E s := name_C (H _ (N _ hm).1) hv h hk hl hd
theorem nsO {h : Heap} {C : Addr} {oC : Obj} {mC : Str → Option Value} (hn : h.Ns C mC) (e : h.get? C = some oC) : ∀ h' : Heap, h'.get? C = some oC → h'.Ns C mC := fun h' e' => hn.at' fun o q => by rw [e] at q; cases q; exact e'
section
noncomputable def hereB (wy : Str) (r : Bool × Str) : Bool := r.1 && r.2 == wy
noncomputable def heres (wy : Str) (vs : List Value) (rs : List (Bool × Str)) : List Value := (vs.zip rs).filterMap fun x => if hereB wy x.2 then some x.1 else none
theorem here_at {wy : Str} {vs : List Value} {rs : List (Bool × Str)} {i : Nat} {v : Value} {r : Bool × Str} (h1 : vs[i]? = some v) (h2 : rs[i]? = some r) : ((vs.zip rs).take (i + 1)).filterMap (fun x => if hereB wy x.2 then some x.1 else none) = ((vs.zip rs).take i).filterMap (fun x => if hereB wy x.2 then some x.1 else none) ++ (if hereB wy r then [v] else []) := by
  have hz : (vs.zip rs)[i]? = some (v, r) := List.getElem?_zip_eq_some.mpr ⟨h1, h2⟩
  rw [List.take_add_one, hz, List.filterMap_append]
  congr 1
  show List.filterMap _ [(v, r)] = _
  by_cases h : hereB wy r = true <;> simp [h]
noncomputable def SpecOr (w : World) (p : Program) (loose : List Str) (mean : ExcName → Option Value) (mg mb : Str → Option Value) (f : Addr) (vs : List Value) (dn un : Nat) (NL : List (Addr × Obj)) (c : Prop) (Post : List (Addr × Obj) → Value → Prop) : Prop :=
  ∀ (dp u : Nat) (gd : Option (List Code)) (A₀ : Around) (base h₀ : Heap) (env : Env) (outer : List Env) (L : Addr) (m : Str → Option Value) (s : Shared) (Q E : Value → Shared → Prop),
    Below A₀ base outer h₀ → Fr h₀ L s.heap m → (hd.heap_39 w.params).In h₀ → Top p loose mean mg mb h₀ → env.frame = some L → env.scope.kind = .function → dp + dn < recursionLimit → u + un < cLine →
    News h₀ L s.heap NL → (c → ∀ r h' tk' NL', Fr h₀ L h' m → News h₀ L h' NL' → Ext (NL.map (·.1)) s.heap h' → Post NL' r → Q r { s with heap := h', toks := tk' }) → (¬ c → ∀ e h' tk', RaisedX base h₀ env outer L m NL e h' → E (.ref e) { s with heap := h', toks := tk' }) →
    wpAny (model PySem.Challenge.rw_og0176_01.row.prog w) (arnd dp u gd env outer) (call (.ref f) vs) Q E s
section
variable {w : World} {p : Program} {loose : List Str} {mean : ExcName → Option Value} {mg mb : Str → Option Value} {f : Addr} {vs : List Value} {dn un : Nat} {NL : List (Addr × Obj)} {c : Prop} {Post : List (Addr × Obj) → Value → Prop}
theorem SpecOr.ok (h : SpecOr w p loose mean mg mb f vs dn un NL c Post) (hc : c) : Spec w p loose mean mg mb f vs dn un NL Post :=
  fun dp u gd A₀ base h₀ env outer L m s Q E B F X T hf hk hd hu N ret => h dp u gd A₀ base h₀ env outer L m s Q E B F X T hf hk hd hu N (fun _ => ret) fun q => absurd hc q
theorem SpecOr.no (h : SpecOr w p loose mean mg mb f vs dn un NL c Post) (hc : ¬ c) : SpecE w p loose mean mg mb f vs dn un NL :=
  fun dp u gd A₀ base h₀ env outer L m s Q E B F X T hf hk hd hu N ret => h dp u gd A₀ base h₀ env outer L m s Q E B F X T hf hk hd hu N (fun q => absurd q hc) fun _ => ret
theorem specE_use (Sp : SpecE w p loose mean mg mb f vs dn un NL) {dp u : Nat} {gd : Option (List Code)} {A₀ : Around} {base h₀ : Heap} {env : Env} {outer : List Env} {L : Addr} {m : Str → Option Value} {s : Shared} {Q E : Value → Shared → Prop}
    (B : Below A₀ base outer h₀) (F : Fr h₀ L s.heap m) (X : (hd.heap_39 w.params).In h₀) (T : Top p loose mean mg mb h₀) (hf : env.frame = some L) (hk : env.scope.kind = .function) (hd : dp + dn < recursionLimit) (hu : u + un < cLine)
    (N : News h₀ L s.heap NL) (ret : ∀ e h' tk', RaisedX base h₀ env outer L m NL e h' → E (.ref e) { s with heap := h', toks := tk' }) :
    wpAny (model PySem.Challenge.rw_og0176_01.row.prog w) (arnd dp u gd env outer) (call (.ref f) vs) Q E s := Sp _ _ _ _ _ _ _ _ _ _ _ _ _ B F X T hf hk hd hu N ret
end
theorem need_okB {w : World} {p : Program} {loose : List Str} {mean : ExcName → Option Value} {mg mb : Str → Option Value} {NL : List (Addr × Obj)} {b : Bool} {x : Str} {tx : Tok} (hb : b = true) : Spec w p loose mean mg mb 310 [.bool b, .str x tx] 1 10 NL (fun NL' r => NL' = NL ∧ r = .none) := by subst hb; exact need_ok
theorem need_noB {w : World} {p : Program} {loose : List Str} {mean : ExcName → Option Value} {mg mb : Str → Option Value} {NL : List (Addr × Obj)} {b : Bool} {x : Str} {tx : Tok} (hb : b = false) : SpecE w p loose mean mg mb 310 [.bool b, .str x tx] 5 60 NL := by subst hb; exact need_no
set_option maxRecDepth 100000 in
set_option maxHeartbeats 2000000 in
theorem single_or {w : World} {p : Program} {loose : List Str} {mean : ExcName → Option Value} {mg mb : Str → Option Value} {NL : List (Addr × Obj)} {lr : Addr} {vs : List Value} {rs : List (Bool × Str)} {k : Nat} {wy : Str} {tw : Tok} (hm : (lr, listOf vs.toArray k) ∈ NL) (hl : vs.length ≤ 100) (hr : All₂ (RowIn NL) vs rs)     : SpecOr w p loose mean mg mb 322 [.ref lr, .str wy tw] 10 100 NL ((heres wy vs rs).length ≤ 1) (fun NL' r => NL' = NL ∧ r = (heres wy vs rs).headD .none) := by
  unfold SpecOr
  intro dp u gd A₀ base h₀ env outer L m s Q E B F X Tp hf hk hd hu N hret hno
  refine wpAny_call ?_
  refine' code_defCG B F X N Tp rfl hf hk ?k6 ?k7 (asm2 hd) ?k9 ?kB ?kD ?_ ?c2 ?c3 ?c4
  case k6 => k_is
  case k7 => k_is
  case k9 => exact BindsTo.of_eq rfl
  case kB => exact rfl
  case kD => decide +kernel
  case c2 => exact rfl
  case c3 => exact rfl
  case c4 => exact rfl
  intro g' L' h' tk' cells' FG' F' N' Y' B' X' T' l1 kG'
  k_cells Y'
  (try simp only [List.cons_append, List.nil_append] at N')
  (try dsimp only)
  (try k_fold)
  rename Obj => oW
  rename oW.data = _ => dW
  iterate 1 (all_goals (try (first | (k_unfold; (try dsimp only)) | (k_end; wrow_close) | ((fail_if_success (fail_if_success (with_reducible show wpAny _ _ (call (Value.ref _) _) _ _ _))); (first | (k_here; k_dflt ((refine' specE_use (need_noB ?hb9z) ?B9z ?F9z ?X9z ?T9z rfl rfl ?hd9z ?hu9z ?N9z ?_; (case hb9z => (first | assumption | rfl | decide | exact decide_eq_false (by simp only [List.length_cons]; omega))); (case B9z => k_asm); (case F9z => k_asm); (case X9z => k_asm); (case T9z => k_asm); (case hd9z => k_room); (case hu9z => k_units); (case N9z => k_asm)); intro e1 h1 tk1 R1)) | (k_here; k_dflt ((refine' spec_use (need_okB ?hb9z) ?B9z ?F9z ?X9z ?T9z rfl rfl ?hd9z ?hu9z ?N9z ?_; (case hb9z => (first | assumption | rfl | decide)); (case B9z => k_asm); (case F9z => k_asm); (case X9z => k_asm); (case T9z => k_asm); (case hd9z => k_room); (case hu9z => k_units); (case N9z => k_asm)); (intro r1z h1z tk1z NL1z F1z N1z x1z P1z; obtain ⟨e1z, e2z⟩ := P1z; subst e1z e2z; clear x1z; (try k_sweep))))); try dsimp only) | ((fail_if_success (fail_if_success (with_reducible show wpAny _ _ (eval (PySem.Expr.Name _ _) _) _ _ _))); (k_here; k_dflt (refine' name_CO ?H9z ?N9z ?hm9z ?hv9z ?_ ?a9z ?b9z ?c9z; (case H9z => assumption); (case N9z => k_asm); (case hm9z => k_mem); (case hv9z => with_reducible assumption); (case a9z => rfl); (case b9z => rfl); (case c9z => decide))); try dsimp only) | ((fail_if_success (fail_if_success (with_reducible show wpAny _ _ (compareOp CmpOp.Eq (Value.ref _) (Value.ref _)) _ _ _))); (first | (k_here; k_dflt (refine' eq_unit_N ?N9z ?m19z ?m29z ?hu9z ?_; (case N9z => k_asm); (case m19z => k_mem); (case m29z => k_mem); (case hu9z => ke_room))) | (k_here; k_dflt (refine' eq_nil_N ?N9z ?m19z ?m29z ?hu9z ?_; (case N9z => k_asm); (case m19z => k_mem); (case m29z => k_mem); (case hu9z => ke_room)))); try dsimp only) | ((fail_if_success (fail_if_success (with_reducible show wpAny _ _ (compareOp CmpOp.NotEq (Value.ref _) (Value.ref _)) _ _ _))); (k_here; k_dflt (refine' ne_nil_N ?N9z ?m19z ?m29z ?hu9z ?_; (case N9z => k_asm); (case m19z => k_mem); (case m29z => k_mem); (case hu9z => ke_room))); try dsimp only) | (walk1; try dsimp only) | (dsimp only; walk1; try dsimp only))))
  refine comp_listA (h₀ := g') (L := L') (fun i ys nw => nw = ((L' + 1, oW) :: NL) ∧ ys = ((vs.zip rs).take i).filterMap fun x => if hereB wy x.2 then some x.1 else none) rfl F' N' (.tail _ hm) ⟨rfl, rfl⟩ (by rw [sizeLine_eq]; omega) (by with_unfolding_all rfl) (by with_unfolding_all rfl) (by decide) (by decide) rfl rfl rfl (by exact rfl) (by exact rfl) (fun Q h => ?_) ?_ ?_ (fun x => by with_unfolding_all rfl)
  · repeat' (first | (k_unfold; (try dsimp only)) | (k_end; wrow_close) | ((fail_if_success (fail_if_success (with_reducible show wpAny _ _ (call (Value.ref _) _) _ _ _))); (first | (k_here; k_dflt ((refine' specE_use (need_noB ?hb9z) ?B9z ?F9z ?X9z ?T9z rfl rfl ?hd9z ?hu9z ?N9z ?_; (case hb9z => (first | assumption | rfl | decide | exact decide_eq_false (by simp only [List.length_cons]; omega))); (case B9z => k_asm); (case F9z => k_asm); (case X9z => k_asm); (case T9z => k_asm); (case hd9z => k_room); (case hu9z => k_units); (case N9z => k_asm)); intro e1 h1 tk1 R1)) | (k_here; k_dflt ((refine' spec_use (need_okB ?hb9z) ?B9z ?F9z ?X9z ?T9z rfl rfl ?hd9z ?hu9z ?N9z ?_; (case hb9z => (first | assumption | rfl | decide)); (case B9z => k_asm); (case F9z => k_asm); (case X9z => k_asm); (case T9z => k_asm); (case hd9z => k_room); (case hu9z => k_units); (case N9z => k_asm)); (intro r1z h1z tk1z NL1z F1z N1z x1z P1z; obtain ⟨e1z, e2z⟩ := P1z; subst e1z e2z; clear x1z; (try k_sweep))))); try dsimp only) | ((fail_if_success (fail_if_success (with_reducible show wpAny _ _ (eval (PySem.Expr.Name _ _) _) _ _ _))); (k_here; k_dflt (refine' name_CO ?H9z ?N9z ?hm9z ?hv9z ?_ ?a9z ?b9z ?c9z; (case H9z => assumption); (case N9z => k_asm); (case hm9z => k_mem); (case hv9z => with_reducible assumption); (case a9z => rfl); (case b9z => rfl); (case c9z => decide))); try dsimp only) | ((fail_if_success (fail_if_success (with_reducible show wpAny _ _ (compareOp CmpOp.Eq (Value.ref _) (Value.ref _)) _ _ _))); (first | (k_here; k_dflt (refine' eq_unit_N ?N9z ?m19z ?m29z ?hu9z ?_; (case N9z => k_asm); (case m19z => k_mem); (case m29z => k_mem); (case hu9z => ke_room))) | (k_here; k_dflt (refine' eq_nil_N ?N9z ?m19z ?m29z ?hu9z ?_; (case N9z => k_asm); (case m19z => k_mem); (case m29z => k_mem); (case hu9z => ke_room)))); try dsimp only) | ((fail_if_success (fail_if_success (with_reducible show wpAny _ _ (compareOp CmpOp.NotEq (Value.ref _) (Value.ref _)) _ _ _))); (k_here; k_dflt (refine' ne_nil_N ?N9z ?m19z ?m29z ?hu9z ?_; (case N9z => k_asm); (case m19z => k_mem); (case m29z => k_mem); (case hu9z => ke_room))); try dsimp only) | (walk1; try dsimp only) | (dsimp only; walk1; try dsimp only))
    exact h
  · rintro C D I oC own i v ys kD nw h tk mC E' hv hx ⟨rfl, hys⟩ hoff hsI hID hDC hown F1 hn' N1
    obtain ⟨r, hri, a, q, ps, old, new, n1, n2, t, rfl, m1, m2, e1, l1⟩ := hr.get hv
    refine wpAny_tests_one ?_
    have hNs := nsO hn' (N1 _ (.head _)).1
    have mm1 := sub_big (a := (C, oC)) (b := (D, listOf ys.toArray kD)) (own := own) _ (List.mem_cons_of_mem (L' + 1, oW) m1)
    have hq := here_at (wy := wy) hv hri
    rw [← hys] at hq
    have hb : hereB wy r = (ps.isEmpty && r.2 == wy) := by unfold hereB; rw [e1]
    rw [hb] at hq
    repeat' (first | (k_unfold; (try dsimp only)) | (k_end; wrow_close) | ((fail_if_success (fail_if_success (with_reducible show wpAny _ _ (call (Value.ref _) _) _ _ _))); (first | (k_here; k_dflt ((refine' specE_use (need_noB ?hb9z) ?B9z ?F9z ?X9z ?T9z rfl rfl ?hd9z ?hu9z ?N9z ?_; (case hb9z => (first | assumption | rfl | decide | exact decide_eq_false (by simp only [List.length_cons]; omega))); (case B9z => k_asm); (case F9z => k_asm); (case X9z => k_asm); (case T9z => k_asm); (case hd9z => k_room); (case hu9z => k_units); (case N9z => k_asm)); intro e1 h1 tk1 R1)) | (k_here; k_dflt ((refine' spec_use (need_okB ?hb9z) ?B9z ?F9z ?X9z ?T9z rfl rfl ?hd9z ?hu9z ?N9z ?_; (case hb9z => (first | assumption | rfl | decide)); (case B9z => k_asm); (case F9z => k_asm); (case X9z => k_asm); (case T9z => k_asm); (case hd9z => k_room); (case hu9z => k_units); (case N9z => k_asm)); (intro r1z h1z tk1z NL1z F1z N1z x1z P1z; obtain ⟨e1z, e2z⟩ := P1z; subst e1z e2z; clear x1z; (try k_sweep))))); try dsimp only) | ((fail_if_success (fail_if_success (with_reducible show wpAny _ _ (eval (PySem.Expr.Name _ _) _) _ _ _))); (k_here; k_dflt (refine' name_CO ?H9z ?N9z ?hm9z ?hv9z ?_ ?a9z ?b9z ?c9z; (case H9z => assumption); (case N9z => k_asm); (case hm9z => k_mem); (case hv9z => with_reducible assumption); (case a9z => rfl); (case b9z => rfl); (case c9z => decide))); try dsimp only) | ((fail_if_success (fail_if_success (with_reducible show wpAny _ _ (compareOp CmpOp.Eq (Value.ref _) (Value.ref _)) _ _ _))); (first | (k_here; k_dflt (refine' eq_unit_N ?N9z ?m19z ?m29z ?hu9z ?_; (case N9z => k_asm); (case m19z => k_mem); (case m29z => k_mem); (case hu9z => ke_room))) | (k_here; k_dflt (refine' eq_nil_N ?N9z ?m19z ?m29z ?hu9z ?_; (case N9z => k_asm); (case m19z => k_mem); (case m29z => k_mem); (case hu9z => ke_room)))); try dsimp only) | ((fail_if_success (fail_if_success (with_reducible show wpAny _ _ (compareOp CmpOp.NotEq (Value.ref _) (Value.ref _)) _ _ _))); (k_here; k_dflt (refine' ne_nil_N ?N9z ?m19z ?m29z ?hu9z ?_; (case N9z => k_asm); (case m19z => k_mem); (case m29z => k_mem); (case hu9z => ke_room))); try dsimp only) | (walk1; try dsimp only) | (dsimp only; walk1; try dsimp only))
    all_goals (rename (News g' L' _ (_ :: (C, oC) :: _)) => N2)
    all_goals (refine ⟨_, _, _, rfl, by assumption, fun p hp => N2 p (.tail _ hp), hoff, rfl, ?_⟩)
    · rw [hq, (by assumption : ps.isEmpty = true), (by assumption : (r.2 == wy) = true)]; rfl
    · rw [hq, (by assumption : ps.isEmpty = true), (by assumption : (r.2 == wy) = false)]; simp
    · rw [hq, (by assumption : ps.isEmpty = false)]; simp
  · rintro D ys kD nw h tk hD hoff ⟨rfl, hys⟩ F1 N1
    have hz : vs.length = (vs.zip rs).length := by have := hr.length; simp [this]
    rw [hz, List.take_length] at hys
    subst hys
    dsimp only
    change News _ _ _ ((D, listOf (heres wy vs rs).toArray kD) :: _) at N1
    have hln : (heres wy vs rs).length ≤ 100 := by
      have q := List.length_filterMap_le (fun x : Value × Bool × Str => if hereB wy x.2 then some x.1 else none) (vs.zip rs)
      unfold heres; omega
    generalize heres wy vs rs = hs at N1 hret hno hln
    rcases hs with _ | ⟨v1, _ | ⟨v2, hs⟩⟩
    · repeat' (first | (k_unfold; (try dsimp only)) | (k_end; wrow_close) | ((fail_if_success (fail_if_success (with_reducible show wpAny _ _ (call (Value.ref _) _) _ _ _))); (first | (k_here; k_dflt ((refine' specE_use (need_noB ?hb9z) ?B9z ?F9z ?X9z ?T9z rfl rfl ?hd9z ?hu9z ?N9z ?_; (case hb9z => (first | assumption | rfl | decide | exact decide_eq_false (by simp only [List.length_cons]; omega))); (case B9z => k_asm); (case F9z => k_asm); (case X9z => k_asm); (case T9z => k_asm); (case hd9z => k_room); (case hu9z => k_units); (case N9z => k_asm)); intro e1 h1 tk1 R1)) | (k_here; k_dflt ((refine' spec_use (need_okB ?hb9z) ?B9z ?F9z ?X9z ?T9z rfl rfl ?hd9z ?hu9z ?N9z ?_; (case hb9z => (first | assumption | rfl | decide)); (case B9z => k_asm); (case F9z => k_asm); (case X9z => k_asm); (case T9z => k_asm); (case hd9z => k_room); (case hu9z => k_units); (case N9z => k_asm)); (intro r1z h1z tk1z NL1z F1z N1z x1z P1z; obtain ⟨e1z, e2z⟩ := P1z; subst e1z e2z; clear x1z; (try k_sweep))))); try dsimp only) | ((fail_if_success (fail_if_success (with_reducible show wpAny _ _ (eval (PySem.Expr.Name _ _) _) _ _ _))); (k_here; k_dflt (refine' name_CO ?H9z ?N9z ?hm9z ?hv9z ?_ ?a9z ?b9z ?c9z; (case H9z => assumption); (case N9z => k_asm); (case hm9z => k_mem); (case hv9z => with_reducible assumption); (case a9z => rfl); (case b9z => rfl); (case c9z => decide))); try dsimp only) | ((fail_if_success (fail_if_success (with_reducible show wpAny _ _ (compareOp CmpOp.Eq (Value.ref _) (Value.ref _)) _ _ _))); (first | (k_here; k_dflt (refine' eq_unit_N ?N9z ?m19z ?m29z ?hu9z ?_; (case N9z => k_asm); (case m19z => k_mem); (case m29z => k_mem); (case hu9z => ke_room))) | (k_here; k_dflt (refine' eq_nil_N ?N9z ?m19z ?m29z ?hu9z ?_; (case N9z => k_asm); (case m19z => k_mem); (case m29z => k_mem); (case hu9z => ke_room)))); try dsimp only) | ((fail_if_success (fail_if_success (with_reducible show wpAny _ _ (compareOp CmpOp.NotEq (Value.ref _) (Value.ref _)) _ _ _))); (k_here; k_dflt (refine' ne_nil_N ?N9z ?m19z ?m29z ?hu9z ?_; (case N9z => k_asm); (case m19z => k_mem); (case m29z => k_mem); (case hu9z => ke_room))); try dsimp only) | (walk1; try dsimp only) | (dsimp only; walk1; try dsimp only))
      all_goals rename News h₀ L _ _ => N9
      all_goals exact hret (by simp) _ _ _ NL (by assumption) (news_sub N9 fun p hp => by repeat (first | exact hp | refine List.mem_cons_of_mem _ ?_)) (ext_of kG' (by assumption)) ⟨rfl, rfl⟩
    · repeat' (first | (k_unfold; (try dsimp only)) | (k_end; wrow_close) | ((fail_if_success (fail_if_success (with_reducible show wpAny _ _ (call (Value.ref _) _) _ _ _))); (first | (k_here; k_dflt ((refine' specE_use (need_noB ?hb9z) ?B9z ?F9z ?X9z ?T9z rfl rfl ?hd9z ?hu9z ?N9z ?_; (case hb9z => (first | assumption | rfl | decide | exact decide_eq_false (by simp only [List.length_cons]; omega))); (case B9z => k_asm); (case F9z => k_asm); (case X9z => k_asm); (case T9z => k_asm); (case hd9z => k_room); (case hu9z => k_units); (case N9z => k_asm)); intro e1 h1 tk1 R1)) | (k_here; k_dflt ((refine' spec_use (need_okB ?hb9z) ?B9z ?F9z ?X9z ?T9z rfl rfl ?hd9z ?hu9z ?N9z ?_; (case hb9z => (first | assumption | rfl | decide)); (case B9z => k_asm); (case F9z => k_asm); (case X9z => k_asm); (case T9z => k_asm); (case hd9z => k_room); (case hu9z => k_units); (case N9z => k_asm)); (intro r1z h1z tk1z NL1z F1z N1z x1z P1z; obtain ⟨e1z, e2z⟩ := P1z; subst e1z e2z; clear x1z; (try k_sweep))))); try dsimp only) | ((fail_if_success (fail_if_success (with_reducible show wpAny _ _ (eval (PySem.Expr.Name _ _) _) _ _ _))); (k_here; k_dflt (refine' name_CO ?H9z ?N9z ?hm9z ?hv9z ?_ ?a9z ?b9z ?c9z; (case H9z => assumption); (case N9z => k_asm); (case hm9z => k_mem); (case hv9z => with_reducible assumption); (case a9z => rfl); (case b9z => rfl); (case c9z => decide))); try dsimp only) | ((fail_if_success (fail_if_success (with_reducible show wpAny _ _ (compareOp CmpOp.Eq (Value.ref _) (Value.ref _)) _ _ _))); (first | (k_here; k_dflt (refine' eq_unit_N ?N9z ?m19z ?m29z ?hu9z ?_; (case N9z => k_asm); (case m19z => k_mem); (case m29z => k_mem); (case hu9z => ke_room))) | (k_here; k_dflt (refine' eq_nil_N ?N9z ?m19z ?m29z ?hu9z ?_; (case N9z => k_asm); (case m19z => k_mem); (case m29z => k_mem); (case hu9z => ke_room)))); try dsimp only) | ((fail_if_success (fail_if_success (with_reducible show wpAny _ _ (compareOp CmpOp.NotEq (Value.ref _) (Value.ref _)) _ _ _))); (k_here; k_dflt (refine' ne_nil_N ?N9z ?m19z ?m29z ?hu9z ?_; (case N9z => k_asm); (case m19z => k_mem); (case m29z => k_mem); (case hu9z => ke_room))); try dsimp only) | (walk1; try dsimp only) | (dsimp only; walk1; try dsimp only))
      · exact absurd (by assumption : List.isEmpty [v1] = true) (by simp)
      · rename News h₀ L _ _ => N9
        exact hret (by simp) _ _ _ NL (by assumption) (news_sub N9 fun p hp => by repeat (first | exact hp | refine List.mem_cons_of_mem _ ?_)) (ext_of kG' (by assumption)) ⟨rfl, rfl⟩
    · iterate 13 (all_goals (try (first | (k_unfold; (try dsimp only)) | (k_end; wrow_close) | ((fail_if_success (fail_if_success (with_reducible show wpAny _ _ (call (Value.ref _) _) _ _ _))); (first | (k_here; k_dflt ((refine' specE_use (need_noB ?hb9z) ?B9z ?F9z ?X9z ?T9z rfl rfl ?hd9z ?hu9z ?N9z ?_; (case hb9z => (first | assumption | rfl | decide | exact decide_eq_false (by simp only [List.length_cons]; omega))); (case B9z => k_asm); (case F9z => k_asm); (case X9z => k_asm); (case T9z => k_asm); (case hd9z => k_room); (case hu9z => k_units); (case N9z => k_asm)); intro e1 h1 tk1 R1)) | (k_here; k_dflt ((refine' spec_use (need_okB ?hb9z) ?B9z ?F9z ?X9z ?T9z rfl rfl ?hd9z ?hu9z ?N9z ?_; (case hb9z => (first | assumption | rfl | decide)); (case B9z => k_asm); (case F9z => k_asm); (case X9z => k_asm); (case T9z => k_asm); (case hd9z => k_room); (case hu9z => k_units); (case N9z => k_asm)); (intro r1z h1z tk1z NL1z F1z N1z x1z P1z; obtain ⟨e1z, e2z⟩ := P1z; subst e1z e2z; clear x1z; (try k_sweep))))); try dsimp only) | ((fail_if_success (fail_if_success (with_reducible show wpAny _ _ (eval (PySem.Expr.Name _ _) _) _ _ _))); (k_here; k_dflt (refine' name_CO ?H9z ?N9z ?hm9z ?hv9z ?_ ?a9z ?b9z ?c9z; (case H9z => assumption); (case N9z => k_asm); (case hm9z => k_mem); (case hv9z => with_reducible assumption); (case a9z => rfl); (case b9z => rfl); (case c9z => decide))); try dsimp only) | ((fail_if_success (fail_if_success (with_reducible show wpAny _ _ (compareOp CmpOp.Eq (Value.ref _) (Value.ref _)) _ _ _))); (first | (k_here; k_dflt (refine' eq_unit_N ?N9z ?m19z ?m29z ?hu9z ?_; (case N9z => k_asm); (case m19z => k_mem); (case m29z => k_mem); (case hu9z => ke_room))) | (k_here; k_dflt (refine' eq_nil_N ?N9z ?m19z ?m29z ?hu9z ?_; (case N9z => k_asm); (case m19z => k_mem); (case m29z => k_mem); (case hu9z => ke_room)))); try dsimp only) | ((fail_if_success (fail_if_success (with_reducible show wpAny _ _ (compareOp CmpOp.NotEq (Value.ref _) (Value.ref _)) _ _ _))); (k_here; k_dflt (refine' ne_nil_N ?N9z ?m19z ?m29z ?hu9z ?_; (case N9z => k_asm); (case m19z => k_mem); (case m29z => k_mem); (case hu9z => ke_room))); try dsimp only) | (walk1; try dsimp only) | (dsimp only; walk1; try dsimp only))))
      k_dflt (refine' len_list_N ?N ?hm hln ?_; (case N => k_asm); (case hm => k_mem))
      dsimp only
      iterate 12 (all_goals (try (first | (k_unfold; (try dsimp only)) | (k_end; wrow_close) | ((fail_if_success (fail_if_success (with_reducible show wpAny _ _ (call (Value.ref _) _) _ _ _))); (first | (k_here; k_dflt ((refine' specE_use (need_noB ?hb9z) ?B9z ?F9z ?X9z ?T9z rfl rfl ?hd9z ?hu9z ?N9z ?_; (case hb9z => (first | assumption | rfl | decide | exact decide_eq_false (by simp only [List.length_cons]; omega))); (case B9z => k_asm); (case F9z => k_asm); (case X9z => k_asm); (case T9z => k_asm); (case hd9z => k_room); (case hu9z => k_units); (case N9z => k_asm)); intro e1 h1 tk1 R1)) | (k_here; k_dflt ((refine' spec_use (need_okB ?hb9z) ?B9z ?F9z ?X9z ?T9z rfl rfl ?hd9z ?hu9z ?N9z ?_; (case hb9z => (first | assumption | rfl | decide)); (case B9z => k_asm); (case F9z => k_asm); (case X9z => k_asm); (case T9z => k_asm); (case hd9z => k_room); (case hu9z => k_units); (case N9z => k_asm)); (intro r1z h1z tk1z NL1z F1z N1z x1z P1z; obtain ⟨e1z, e2z⟩ := P1z; subst e1z e2z; clear x1z; (try k_sweep))))); try dsimp only) | ((fail_if_success (fail_if_success (with_reducible show wpAny _ _ (eval (PySem.Expr.Name _ _) _) _ _ _))); (k_here; k_dflt (refine' name_CO ?H9z ?N9z ?hm9z ?hv9z ?_ ?a9z ?b9z ?c9z; (case H9z => assumption); (case N9z => k_asm); (case hm9z => k_mem); (case hv9z => with_reducible assumption); (case a9z => rfl); (case b9z => rfl); (case c9z => decide))); try dsimp only) | ((fail_if_success (fail_if_success (with_reducible show wpAny _ _ (compareOp CmpOp.Eq (Value.ref _) (Value.ref _)) _ _ _))); (first | (k_here; k_dflt (refine' eq_unit_N ?N9z ?m19z ?m29z ?hu9z ?_; (case N9z => k_asm); (case m19z => k_mem); (case m29z => k_mem); (case hu9z => ke_room))) | (k_here; k_dflt (refine' eq_nil_N ?N9z ?m19z ?m29z ?hu9z ?_; (case N9z => k_asm); (case m19z => k_mem); (case m29z => k_mem); (case hu9z => ke_room)))); try dsimp only) | ((fail_if_success (fail_if_success (with_reducible show wpAny _ _ (compareOp CmpOp.NotEq (Value.ref _) (Value.ref _)) _ _ _))); (k_here; k_dflt (refine' ne_nil_N ?N9z ?m19z ?m29z ?hu9z ?_; (case N9z => k_asm); (case m19z => k_mem); (case m29z => k_mem); (case hu9z => ke_room))); try dsimp only) | (walk1; try dsimp only) | (dsimp only; walk1; try dsimp only))))
      exact leave_onX (NL := NL) B' FG' hf rfl R1 (fun p hp => by repeat (first | exact hp | refine List.mem_cons_of_mem _ ?_)) fun h9 R9 => hno (by simp) _ _ _ R9
end
end
section
set_option maxRecDepth 100000
open Classical in
theorem parts_eq {A : Around} {s : Shared} {T₁ T₂ : List (Addr × Obj)} (H1 : Has s.heap T₁) (H2 : Has s.heap T₂) {k : Nat} {ds es : List Dat} {vs us : List Value} (hk : depL ds ≤ k) (n1 : nbL ds = true) (n2 : nbL es = true) (ra : DatAll T₁ vs ds) (rb : DatAll T₂ us es) (hu : A.units + 1 + k < cLine) :
    ∀ j (h1 : j < vs.toArray.size) (h2 : j < us.toArray.size), EqAt A.in1 s vs.toArray[j] us.toArray[j] ((fun j => if h : j < ds.length ∧ j < es.length then decide (ds[j]'h.1 = es[j]'h.2) else true) j) := fun j j1 j2 => by
  simp only [List.size_toArray] at j1 j2
  obtain ⟨h1, r1⟩ := all_at ra j j1
  obtain ⟨h2, r2⟩ := all_at rb j j2
  dsimp only
  rw [dif_pos ⟨h1, h2⟩]
  simpa using eq_dat H1 H2 k A.in1 ds[j] es[j] _ _ (Nat.le_trans (depL_mem (List.getElem_mem h1)) hk) (nbL_mem n1 (List.getElem_mem h1)) (nbL_mem n2 (List.getElem_mem h2)) r1 r2 (by show A.units + 1 + k < cLine; omega)
section
variable {prog : Program} {w : World} {A : Around} {E : Value → Shared → Prop} {s : Shared} {Q : Value → Shared → Prop} {T₁ T₂ : List (Addr × Obj)} {k : Nat} {ds es : List Dat} {a b : Addr} {r : Bool}
theorem dat_tup {T : List (Addr × Obj)} (h : DatIn T (.ref a) (.tuple ds)) : ∃ vs n, (a, tupOf (List.toArray vs) n) ∈ T ∧ DatAll T vs ds := by
  cases h with | tuple m r => exact ⟨_, _, m, r⟩
theorem dat_lst {T : List (Addr × Obj)} (h : DatIn T (.ref a) (.list ds)) : ∃ vs n, (a, listOf (List.toArray vs) n) ∈ T ∧ DatAll T vs ds := by
  cases h with | list m r => exact ⟨_, _, m, r⟩
open Classical in
theorem cmp_tup (H1 : Has s.heap T₁) (H2 : Has s.heap T₂) (ha : DatIn T₁ (.ref a) (.tuple ds)) (hb : DatIn T₂ (.ref b) (.tuple es)) (hk : depL ds ≤ k) (n1 : nbL ds = true) (n2 : nbL es = true) (hu : A.units + 1 + k < cLine) (hr : r = true ↔ ds = es) :
    RcAt A s (.ref a) (.ref b) r ∧ RcNeAt A s (.ref a) (.ref b) (!r) := by
  obtain ⟨vs, n, ma, ra⟩ := dat_tup ha
  obtain ⟨us, n', mb, rb⟩ := dat_tup hb
  have hl : s.heap.IsTuple a vs.toArray := ⟨_, H1 _ ma, rfl, _, rfl⟩
  have hl' : s.heap.IsTuple b us.toArray := ⟨_, H2 _ mb, rfl, _, rfl⟩
  have q := parts_eq H1 H2 hk n1 n2 ra rb hu
  have x := RcAt.tuples hl hl' (by omega) q
  have y := RcNeAt.tuples hl hl' (by omega) q
  have e := range_eq ds es (fun j => if h : j < ds.length ∧ j < es.length then decide (ds[j]'h.1 = es[j]'h.2) else true) fun j h1 h2 => by rw [dif_pos ⟨h1, h2⟩]
  have e2 : decide (ds = es) = r := by rw [Bool.eq_iff_iff, decide_eq_true_iff]; exact hr.symm
  simp only [List.size_toArray] at x y
  rw [DatAll.length ra, DatAll.length rb, e, e2] at x y
  exact ⟨x, y⟩
open Classical in
theorem cmp_lst (H1 : Has s.heap T₁) (H2 : Has s.heap T₂) (ha : DatIn T₁ (.ref a) (.list ds)) (hb : DatIn T₂ (.ref b) (.list es)) (hk : depL ds ≤ k) (n1 : nbL ds = true) (n2 : nbL es = true) (hu : A.units + 1 + k < cLine) (hr : r = true ↔ ds = es) :
    RcAt A s (.ref a) (.ref b) r ∧ RcNeAt A s (.ref a) (.ref b) (!r) := by
  obtain ⟨vs, n, ma, ra⟩ := dat_lst ha
  obtain ⟨us, n', mb, rb⟩ := dat_lst hb
  have hl : s.heap.IsList a vs.toArray := ⟨_, H1 _ ma, rfl, _, rfl⟩
  have hl' : s.heap.IsList b us.toArray := ⟨_, H2 _ mb, rfl, _, rfl⟩
  have l1 := DatAll.length ra
  have l2 := DatAll.length rb
  by_cases hsz : ds.length = es.length
  · have q := parts_eq H1 H2 hk n1 n2 ra rb hu
    have x := RcAt.lists hl hl' (by simp; omega) (by omega) q
    have y := RcNeAt.lists hl hl' (by simp; omega) (by omega) q
    have e := range_eq ds es (fun j => if h : j < ds.length ∧ j < es.length then decide (ds[j]'h.1 = es[j]'h.2) else true) fun j h1 h2 => by rw [dif_pos ⟨h1, h2⟩]
    rw [show min ds.length es.length = ds.length by omega, beq_iff_eq.mpr hsz, Bool.and_true] at e
    have e2 : decide (ds = es) = r := by rw [Bool.eq_iff_iff, decide_eq_true_iff]; exact hr.symm
    simp only [List.size_toArray] at x y
    rw [l1, e, e2] at x y
    exact ⟨x, y⟩
  · have e2 : r = false := by
      cases r with
      | false => rfl
      | true => exact absurd (congrArg List.length (hr.mp rfl)) hsz
    subst e2
    have hs : (vs.toArray.size != us.toArray.size) = true := by simp; omega
    exact ⟨RcAt.lists_lengths hl hl' hs (by omega), RcNeAt.lists_lengths hl hl' hs (by omega)⟩
end
end
section
theorem eq_nil0_N {prog : Program} {w : World} {A : Around} {E : Value → Shared → Prop} {s : Shared} {h₀ : Heap} {L q D : Addr} {n1 n2 : Nat} {nw : List (Addr × Obj)} {Q : Value → Shared → Prop} (N : News h₀ L s.heap nw) (m1 : (q, listOf ([] : List Value).toArray n1) ∈ nw) (m2 : (D, listOf #[] n2) ∈ nw) (hu : A.units < cLine) (h : Q (.bool true) s) :
    wpAny (model prog w) A (compareOp .Eq (.ref q) (.ref D)) Q E s := eq_nil_N N m1 m2 hu h
theorem eq_nil1_N {prog : Program} {w : World} {A : Around} {E : Value → Shared → Prop} {s : Shared} {h₀ : Heap} {L q D : Addr} {x : Value} {ps : List Value} {n1 n2 : Nat} {nw : List (Addr × Obj)} {Q : Value → Shared → Prop} (N : News h₀ L s.heap nw) (m1 : (q, listOf (x :: ps).toArray n1) ∈ nw) (m2 : (D, listOf #[] n2) ∈ nw) (hu : A.units < cLine) (h : Q (.bool false) s) :
    wpAny (model prog w) A (compareOp .Eq (.ref q) (.ref D)) Q E s := eq_nil_N N m1 m2 hu h
section
set_option maxRecDepth 100000 in
set_option maxHeartbeats 2000000 in
theorem sa_nil {w : World} {p : Program} {loose : List Str} {mean : ExcName → Option Value} {mg mb : Str → Option Value} {NL : List (Addr × Obj)} {sh lr : Addr} {k : Nat} (hm : (lr, listOf ([] : List Value).toArray k) ∈ NL) : Spec w p loose mean mg mb 329 [.ref sh, .ref lr] 12 140 NL (fun NL' r => NL' = NL ∧ r = .ref sh) := by
  unfold Spec
  intro dp u gd A₀ base h₀ env outer L m s Q E B F X Tp hf hk hd hu N hret
  refine wpAny_call ?_
  refine' code_defG B F X N Tp rfl hf hk ?k6 ?k7 (asm2 hd) ?k9 ?kB ?_ ?c2 ?c3 ?c4 ?c5
  case k6 => k_is
  case k7 => k_is
  case k9 => exact BindsTo.of_eq rfl
  case c5 => decide
  case kB => exact locs rfl
  case c2 => exact rfl
  case c3 => exact rfl
  case c4 => exact rfl
  intro g' L' h' FG' F' N' B' X' T' kG'
  (try dsimp only)
  (try k_fold)
  repeat' (first | (k_unfold; (try dsimp only)) | (k_end; wrow_close) | ((fail_if_success (fail_if_success (with_reducible show wpAny _ _ (call (Value.ref _) _) _ _ _))); (first | (k_here; k_dflt ((refine' specE_use (need_noB ?hb9z) ?B9z ?F9z ?X9z ?T9z rfl rfl ?hd9z ?hu9z ?N9z ?_; (case hb9z => (first | assumption | rfl | decide | exact decide_eq_false (by simp only [List.length_cons]; omega))); (case B9z => k_asm); (case F9z => k_asm); (case X9z => k_asm); (case T9z => k_asm); (case hd9z => k_room); (case hu9z => k_units); (case N9z => k_asm)); intro e1 h1 tk1 R1)) | (k_here; k_dflt ((refine' spec_use (need_okB ?hb9z) ?B9z ?F9z ?X9z ?T9z rfl rfl ?hd9z ?hu9z ?N9z ?_; (case hb9z => (first | assumption | rfl | decide)); (case B9z => k_asm); (case F9z => k_asm); (case X9z => k_asm); (case T9z => k_asm); (case hd9z => k_room); (case hu9z => k_units); (case N9z => k_asm)); (intro r1z h1z tk1z NL1z F1z N1z x1z P1z; obtain ⟨e1z, e2z⟩ := P1z; subst e1z e2z; clear x1z; (try k_sweep))))); try dsimp only) | ((fail_if_success (fail_if_success (with_reducible show wpAny _ _ (compareOp CmpOp.Eq (Value.ref _) (Value.ref _)) _ _ _))); (k_here; k_dflt (first | (refine' eq_nil0_N ?N9z ?m19z ?m29z ?hu9z ?_; (case N9z => k_asm); (case m19z => k_mem); (case m29z => k_mem); (case hu9z => ke_room)) | (refine' eq_nil1_N ?N9z ?m19z ?m29z ?hu9z ?_; (case N9z => k_asm); (case m19z => k_mem); (case m29z => k_mem); (case hu9z => ke_room)))); try dsimp only) | (walk1; try dsimp only) | (dsimp only; walk1; try dsimp only))
  all_goals (rename News h₀ L _ _ => N9)
  all_goals exact hret _ _ _ NL (by assumption) (news_sub N9 (fun p hp => by repeat (first | exact hp | refine List.mem_cons_of_mem _ ?_))) (ext_of kG' (by assumption)) ⟨rfl, rfl⟩
end
theorem single_is {w : World} {p : Program} {loose : List Str} {mean : ExcName → Option Value} {mg mb : Str → Option Value} {NL T : List (Addr × Obj)} {lr : Addr} {vs : List Value} {rs : List (Bool × Str)} {k : Nat} {wy : Str} {tw : Tok} {v : Value} (hm : (lr, listOf vs.toArray k) ∈ T) (hl : vs.length ≤ 100) (hr : All₂ (RowIn NL) vs rs) (hs : ∀ p ∈ NL, p ∈ T) (hh : heres wy vs rs = [v]) :
    Spec w p loose mean mg mb 322 [.ref lr, .str wy tw] 10 100 T (fun NL' r => NL' = T ∧ r = v) := by
  have q := SpecOr.ok (single_or (w := w) (p := p) (loose := loose) (mean := mean) (mg := mg) (mb := mb) (tw := tw) hm hl (hr.mono fun _ _ => RowIn.mono hs)) (by rw [hh]; exact Nat.le_refl 1)
  rw [hh] at q; exact q
theorem single_nil {w : World} {p : Program} {loose : List Str} {mean : ExcName → Option Value} {mg mb : Str → Option Value} {NL T : List (Addr × Obj)} {lr : Addr} {vs : List Value} {rs : List (Bool × Str)} {k : Nat} {wy : Str} {tw : Tok} (hm : (lr, listOf vs.toArray k) ∈ T) (hl : vs.length ≤ 100) (hr : All₂ (RowIn NL) vs rs) (hs : ∀ p ∈ NL, p ∈ T) (hh : heres wy vs rs = []) :
    Spec w p loose mean mg mb 322 [.ref lr, .str wy tw] 10 100 T (fun NL' r => NL' = T ∧ r = .none) := by
  have q := SpecOr.ok (single_or (w := w) (p := p) (loose := loose) (mean := mean) (mg := mg) (mb := mb) (tw := tw) hm hl (hr.mono fun _ _ => RowIn.mono hs)) (by rw [hh]; exact Nat.zero_le 1)
  rw [hh] at q; exact q
theorem single_no {w : World} {p : Program} {loose : List Str} {mean : ExcName → Option Value} {mg mb : Str → Option Value} {NL T : List (Addr × Obj)} {lr : Addr} {vs : List Value} {rs : List (Bool × Str)} {k : Nat} {wy : Str} {tw : Tok} (hm : (lr, listOf vs.toArray k) ∈ T) (hl : vs.length ≤ 100) (hr : All₂ (RowIn NL) vs rs) (hs : ∀ p ∈ NL, p ∈ T) (hh : 2 ≤ (heres wy vs rs).length) :
    SpecE w p loose mean mg mb 322 [.ref lr, .str wy tw] 10 100 T := SpecOr.no (single_or hm hl (hr.mono fun _ _ => RowIn.mono hs)) (by omega)
theorem eqT_N {prog : Program} {w : World} {A : Around} {E : Value → Shared → Prop} {s : Shared} {h₀ : Heap} {L a b : Addr} {nw NL : List (Addr × Obj)} {ds es : List Dat} {r : Bool} {Q : Value → Shared → Prop} (N : News h₀ L s.heap nw) (hs : ∀ p ∈ NL, p ∈ nw) (ha : DatIn NL (.ref a) (.tuple es)) (hb : DatIn NL (.ref b) (.tuple ds)) (hk : depL es ≤ 100) (n1 : nbL es = true) (n2 : nbL ds = true) (hr : r = true ↔ es = ds) (hu : A.units + 101 < cLine) (h : Q (.bool r) s) :
    wpAny (model prog w) A (compareOp .Eq (.ref a) (.ref b)) Q E s :=
  EqBoolInt.of_rc (cmp_tup (has_news N) (has_news N) (ha.mono hs) (hb.mono hs) hk n1 n2 (by omega) hr).1 h
theorem need_or {w : World} {p : Program} {loose : List Str} {mean : ExcName → Option Value} {mg mb : Str → Option Value} {NL : List (Addr × Obj)} {b : Bool} {x : Str} {tx : Tok} {dp u : Nat} {gd : Option (List Code)} {A₀ : Around} {base h₀ : Heap} {env : Env} {outer : List Env} {L : Addr} {m : Str → Option Value} {s : Shared} {Q E : Value → Shared → Prop}
    (B : Below A₀ base outer h₀) (F : Fr h₀ L s.heap m) (X : (hd.heap_39 w.params).In h₀) (T : Top p loose mean mg mb h₀) (hf : env.frame = some L) (hk : env.scope.kind = .function) (hd : dp + 5 < recursionLimit) (hu : u + 60 < cLine)
    (N : News h₀ L s.heap NL) (ok : b = true → ∀ h' tk', Fr h₀ L h' m → News h₀ L h' NL → Q .none { s with heap := h', toks := tk' }) (no : b = false → ∀ e h' tk', RaisedX base h₀ env outer L m NL e h' → E (.ref e) { s with heap := h', toks := tk' }) :
    wpAny (model PySem.Challenge.rw_og0176_01.row.prog w) (arnd dp u gd env outer) (call (.ref 310) [.bool b, .str x tx]) Q E s := by
  cases b with
  | true => exact spec_use need_ok B F X T hf hk (by omega) (by omega) N fun r h' tk' NL' F' N' _ P => by obtain ⟨rfl, rfl⟩ := P; exact ok rfl h' tk' F' N'
  | false => exact specE_use need_no B F X T hf hk hd hu N fun e h' tk' R => no rfl e h' tk' R
section
set_option maxRecDepth 100000 in
set_option maxHeartbeats 2000000 in
theorem sa_row {w : World} {p : Program} {loose : List Str} {mean : ExcName → Option Value} {mg mb : Str → Option Value} {NL : List (Addr × Obj)} {a pp old sh lr : Addr} {new : Value} {k n1 n2 : Nat} {t : Tok} {ds es : List Dat} (hm : (lr, listOf [Value.ref a].toArray k) ∈ NL) (m1 : (a, tupOf [.ref pp, .str (S "turned") t, .ref old, new].toArray n1) ∈ NL) (m2 : (pp, tupOf ([] : List Value).toArray n2) ∈ NL)
    (hs : DatIn NL (.ref sh) (.tuple ds)) (ho : DatIn NL (.ref old) (.tuple es)) (hdp : depL es ≤ 100) (nb1 : nbL ds = true) (nb2 : nbL es = true) : SpecOr w p loose mean mg mb 329 [.ref sh, .ref lr] 12 220 NL (es = ds) (fun NL' r => NL' = NL ∧ r = new) := by
  have hRw : All₂ (RowIn NL) [.ref a] [(true, S "turned")] := .cons ⟨a, pp, [], .ref old, new, n1, n2, t, rfl, m1, m2, rfl, Nat.zero_le _⟩ .nil
  have hl1 : heres (S "turned") [.ref a] [(true, S "turned")] = [.ref a] := rfl
  obtain ⟨r, hr⟩ : ∃ r : Bool, r = true ↔ es = ds := by
    by_cases q : es = ds
    · exact ⟨true, by simp [q]⟩
    · exact ⟨false, by simp [q]⟩
  unfold SpecOr
  intro dp u gd A₀ base h₀ env outer L m s Q E B F X Tp hf hk hd hu N hret hno
  refine wpAny_call ?_
  refine' code_defG B F X N Tp rfl hf hk ?k6 ?k7 (asm2 hd) ?k9 ?kB ?_ ?c2 ?c3 ?c4 ?c5
  case k6 => k_is
  case k7 => k_is
  case k9 => exact BindsTo.of_eq rfl
  case c5 => decide
  case kB => exact locs rfl
  case c2 => exact rfl
  case c3 => exact rfl
  case c4 => exact rfl
  intro g' L' h' FG' F' N' B' X' T' kG'
  (try dsimp only)
  (try k_fold)
  repeat' (first | (k_unfold; (try dsimp only)) | (k_end; wrow_close) | ((fail_if_success (fail_if_success (with_reducible show wpAny _ _ (call (Value.ref _) _) _ _ _))); (first | (k_here; k_dflt ((refine' spec_use (single_is ?hm9z ?hl9z ?hr9z ?hs9z ?hh9z) ?B9z ?F9z ?X9z ?T9z rfl rfl ?hd9z ?hu9z ?N9z ?_; (case B9z => k_asm); (case F9z => k_asm); (case X9z => k_asm); (case T9z => k_asm); (case hd9z => k_room); (case hu9z => k_units); (case N9z => k_asm); (case hh9z => assumption); (case hr9z => assumption); (case hm9z => k_mem); (case hl9z => (simp only [List.length_cons, List.length_nil]; omega)); (case hs9z => exact (fun p hp => by repeat (first | exact hp | refine List.mem_cons_of_mem _ ?_)))); (intro r1z h1z tk1z NL1z F1z N1z x1z P1z; obtain ⟨e1z, e2z⟩ := P1z; subst e1z e2z; clear x1z; (try k_sweep)))) | (k_here; k_dflt ((refine' need_or ?B9z ?F9z ?X9z ?T9z ?hf9z ?hk9z ?hd9z ?hu9z ?N9z ?_ ?_; (case hf9z => exact rfl); (case hk9z => exact rfl); (case B9z => k_asm); (case F9z => k_asm); (case X9z => k_asm); (case T9z => k_asm); (case hd9z => k_room); (case hu9z => k_units); (case N9z => k_asm); all_goals (intros; (try k_sweep))))) | (k_here; k_dflt ((refine' specE_use (need_noB ?hb9z) ?B9z ?F9z ?X9z ?T9z rfl rfl ?hd9z ?hu9z ?N9z ?_; (case hb9z => (first | assumption | rfl | decide | exact decide_eq_false (by simp only [List.length_cons]; omega))); (case B9z => k_asm); (case F9z => k_asm); (case X9z => k_asm); (case T9z => k_asm); (case hd9z => k_room); (case hu9z => k_units); (case N9z => k_asm)); intro e1 h1 tk1 R1)) | (k_here; k_dflt ((refine' spec_use (need_okB ?hb9z) ?B9z ?F9z ?X9z ?T9z rfl rfl ?hd9z ?hu9z ?N9z ?_; (case hb9z => (first | assumption | rfl | decide)); (case B9z => k_asm); (case F9z => k_asm); (case X9z => k_asm); (case T9z => k_asm); (case hd9z => k_room); (case hu9z => k_units); (case N9z => k_asm)); (intro r1z h1z tk1z NL1z F1z N1z x1z P1z; obtain ⟨e1z, e2z⟩ := P1z; subst e1z e2z; clear x1z; (try k_sweep))))); try dsimp only) | ((fail_if_success (fail_if_success (with_reducible show wpAny _ _ (compareOp CmpOp.Eq (Value.ref _) (Value.ref _)) _ _ _))); (first | (k_here; k_dflt (refine' eqT_N ?N9z ?hs9z ?ha9z ?hb9z ?hk9z ?n19z ?n29z ?hr9z ?hu9z ?_; (case N9z => k_asm); (case ha9z => assumption); (case hb9z => assumption); (case hs9z => exact (fun p hp => by repeat (first | exact hp | refine List.mem_cons_of_mem _ ?_))); (case hk9z => assumption); (case n19z => assumption); (case n29z => assumption); (case hr9z => assumption); (case hu9z => ke_room))) | (k_here; k_dflt (first | (refine' eq_nil0_N ?N9z ?m19z ?m29z ?hu9z ?_; (case N9z => k_asm); (case m19z => k_mem); (case m29z => k_mem); (case hu9z => ke_room)) | (refine' eq_nil1_N ?N9z ?m19z ?m29z ?hu9z ?_; (case N9z => k_asm); (case m19z => k_mem); (case m29z => k_mem); (case hu9z => ke_room))))); try dsimp only) | (walk1; try dsimp only) | (dsimp only; walk1; try dsimp only))
  · rename News h₀ L _ _ => N9
    exact hret (hr.mp (by assumption)) _ _ _ NL (by assumption) (news_sub N9 (fun p hp => by repeat (first | exact hp | refine List.mem_cons_of_mem _ ?_))) (ext_of kG' (by assumption)) ⟨rfl, rfl⟩
  · rename RaisedX _ _ _ _ _ _ _ _ _ => R1
    refine leave_onX (NL := NL) B' FG' hf rfl R1 (fun p hp => by repeat (first | exact hp | refine List.mem_cons_of_mem _ ?_)) fun h9 R9 => hno (fun q => ?_) _ _ _ R9
    have e := hr.mpr q
    rw [(by assumption : r = false)] at e; cases e
end
section
set_option maxRecDepth 100000 in
set_option maxHeartbeats 2000000 in
theorem sa_two {w : World} {p : Program} {loose : List Str} {mean : ExcName → Option Value} {mg mb : Str → Option Value} {NL : List (Addr × Obj)} {sh lr : Addr} {v : Value} {vs : List Value} {rs : List (Bool × Str)} {k : Nat} (hm : (lr, listOf (v :: vs).toArray k) ∈ NL) (hl : (v :: vs).length ≤ 100) (hr : All₂ (RowIn NL) (v :: vs) rs) (hh : 2 ≤ (heres (S "turned") (v :: vs) rs).length) : SpecE w p loose mean mg mb 329 [.ref sh, .ref lr] 12 220 NL := by
  unfold SpecE
  intro dp u gd A₀ base h₀ env outer L m s Q E B F X Tp hf hk hd hu N hret
  refine wpAny_call ?_
  refine' code_defG B F X N Tp rfl hf hk ?k6 ?k7 (asm2 hd) ?k9 ?kB ?_ ?c2 ?c3 ?c4 ?c5
  case k6 => k_is
  case k7 => k_is
  case k9 => exact BindsTo.of_eq rfl
  case c5 => decide
  case kB => exact locs rfl
  case c2 => exact rfl
  case c3 => exact rfl
  case c4 => exact rfl
  intro g' L' h' FG' F' N' B' X' T' kG'
  (try dsimp only)
  (try k_fold)
  repeat' (first | (k_unfold; (try dsimp only)) | (k_end; wrow_close) | ((fail_if_success (fail_if_success (with_reducible show wpAny _ _ (call (Value.ref _) _) _ _ _))); (first | (k_here; k_dflt ((refine' specE_use (single_no ?hm9z ?hl9z ?hr9z ?hs9z ?hh9z) ?B9z ?F9z ?X9z ?T9z rfl rfl ?hd9z ?hu9z ?N9z ?_; (case B9z => k_asm); (case F9z => k_asm); (case X9z => k_asm); (case T9z => k_asm); (case hd9z => k_room); (case hu9z => k_units); (case N9z => k_asm); (case hh9z => assumption); (case hr9z => assumption); (case hm9z => k_mem); (case hl9z => assumption); (case hs9z => exact (fun p hp => by repeat (first | exact hp | refine List.mem_cons_of_mem _ ?_)))); (intro e1 h1 tk1 R1))) | (k_here; k_dflt ((refine' specE_use (need_noB ?hb9z) ?B9z ?F9z ?X9z ?T9z rfl rfl ?hd9z ?hu9z ?N9z ?_; (case hb9z => (first | assumption | rfl | decide | exact decide_eq_false (by simp only [List.length_cons]; omega))); (case B9z => k_asm); (case F9z => k_asm); (case X9z => k_asm); (case T9z => k_asm); (case hd9z => k_room); (case hu9z => k_units); (case N9z => k_asm)); intro e1 h1 tk1 R1)) | (k_here; k_dflt ((refine' spec_use (need_okB ?hb9z) ?B9z ?F9z ?X9z ?T9z rfl rfl ?hd9z ?hu9z ?N9z ?_; (case hb9z => (first | assumption | rfl | decide)); (case B9z => k_asm); (case F9z => k_asm); (case X9z => k_asm); (case T9z => k_asm); (case hd9z => k_room); (case hu9z => k_units); (case N9z => k_asm)); (intro r1z h1z tk1z NL1z F1z N1z x1z P1z; obtain ⟨e1z, e2z⟩ := P1z; subst e1z e2z; clear x1z; (try k_sweep))))); try dsimp only) | ((fail_if_success (fail_if_success (with_reducible show wpAny _ _ (compareOp CmpOp.Eq (Value.ref _) (Value.ref _)) _ _ _))); (k_here; k_dflt (first | (refine' eq_nil0_N ?N9z ?m19z ?m29z ?hu9z ?_; (case N9z => k_asm); (case m19z => k_mem); (case m29z => k_mem); (case hu9z => ke_room)) | (refine' eq_nil1_N ?N9z ?m19z ?m29z ?hu9z ?_; (case N9z => k_asm); (case m19z => k_mem); (case m29z => k_mem); (case hu9z => ke_room)))); try dsimp only) | (walk1; try dsimp only) | (dsimp only; walk1; try dsimp only))
  exact leave_onX (NL := NL) B' FG' hf rfl R1 (fun p hp => by repeat (first | exact hp | refine List.mem_cons_of_mem _ ?_)) fun h9 R9 => hret _ _ _ R9
end
end
section
set_option maxRecDepth 100000
theorem code_defR {prog : Program} {w : World} {A₀ A : Around} {s : Shared} {base h₀ : Heap} {outer : List Env} {L : Addr} {m : Str → Option Value} {env : Env} {news : List (Addr × Obj)} {K : Frag} {p : Program} {loose : List Str} {mean : ExcName → Option Value} {mg mb : Str → Option Value} {R : Result → Shared → Prop} {name qual : Str} {params : Arguments} {body : List Stmt} {scope : Scope} {dV kV doc pm cdv ct oc : Value} {an od : Option Addr} {osl : Array (Option Value)} {f : Addr} {args : Args} {binds : List (Str × Value)}
    (B : Below A₀ base outer h₀) (F : Fr h₀ L s.heap m) (X₀ : K.In h₀) (N : News h₀ L s.heap news) (T : Top p loose mean mg mb h₀) (hA : A.frames = some (env :: outer)) (hf : env.frame = some L) (hke : env.scope.kind = .function)
    (ho : K.lookup f = some ⟨oc, od, .func (fnOf name qual params body scope dV kV doc pm an cdv ct), osl⟩) (hcd : codeIn K cdv qual = true) (hroom : A.depth < recursionLimit)
    (hbind : BindsTo s (fnOf name qual params body scope dV kV doc pm an cdv ct) args binds) (hloc : ∀ y ∈ binds, scope.names.lookup y.1 = some .local)
    (h : ∀ g L' h₁, Fr h₀ L g m → Fr g L' h₁ (fun y => binds.reverse.lookup y) → News g L' h₁ news → Below A base (env :: outer) g → K.In g → Top p loose mean mg mb g → GSub s.heap g (news.map (·.1)) →
      wpAny (model prog w) (A.deeper (envOf qual scope L' f cdv)) (execs body (envOf qual scope L' f cdv))
        (fun fl s' => R (.ok (.ret (match fl with | .ret v => v | _ => .none))) s')
        (fun e s' => wpAny (model prog w) (A.deeper (envOf qual scope L' f cdv)) (leaving (envOf qual scope L' f cdv) e) (fun _ s'' => R (.error e) s'') (fun e' s'' => R (.error e') s'') s')
        { s with heap := h₁, toks := s.toks + binds.length })
    (hco : scope.isCoroutine = false) (hgen : scope.isGenerator = false) (hk : scope.kind = .function)
    (hcell : ∀ x ∈ scope.names, x.2 ≠ .cell) : codeAny (model prog w) A (.call (.ref f) args) R s := by
  obtain ⟨FG, BG, st, lv⟩ := groundX (R := R) B F N hA hf hke
  refine codeAny_call_def (fd := fnX name qual params body scope [] dV kV doc pm an cdv ct) (body := body) (binds := binds) hroom ((X₀.keeps F.keep) _ _ ho) rfl (T.nolimit.keeps F.keep) (codeRec_of (X₀.keeps F.keep) hcd) rfl hbind hcell hloc (fun h₁ hns hk₁ => ?_) hco hgen hk
  exact h _ s.heap.objs.size h₁ FG ⟨hns, fun b o e => hk₁ b o (of_hideAll _ e), Nat.le_of_eq (hideAll_size _ _)⟩
    (fun p hp => ⟨hk₁ _ _ (N p hp).1, Nat.ne_of_lt (Heap.lt_size (N p hp).1), hideAll_none _ (List.mem_map_of_mem hp)⟩) BG (X₀.keeps st) (T.keeps st) (fun b o e n => hideAll_get _ e n)
theorem turn_slots {fs : List Addr} {g g' : Heap} (T : KtsTurn fs g g') : g.UpToSlots g' := fun b o e _ => T.up e
section
variable {A₀ : Around} {base h₀ g g₁ h' : Heap} {env : Env} {outer : List Env} {L L₁ : Addr} {m m₁ : Str → Option Value} {NL : List (Addr × Obj)}
theorem back_turn (B : Below A₀ base outer h₀) (FG : Fr h₀ L g m) (hf : env.frame = some L) (N : ∀ q ∈ NL, q.1 ≠ L ∧ h₀.get? q.1 = none) (T : KtsTurn (frs (env :: outer)) g g₁) (F : Fr g₁ L₁ h' m₁) (N' : News g₁ L₁ h' NL) :
    ∃ h₁, KtsTurn (frs outer) h₀ h₁ ∧ Fr h₁ L h' m ∧ News h₁ L h' NL ∧ Below A₀ base outer h₁ := by
  have up : h₀.UpToSlots h' := ((Heap.UpToSlots.of_keeps FG.keep).trans (turn_slots T)).trans (Heap.UpToSlots.of_keeps F.keep)
  have keep : ∀ b o, h₀.get? b = some o → b ∉ frs outer → h'.get? b = some o := fun b o e nm => F.keep _ _ (T.other _ _ (FG.keep _ _ e) fun hm => by
    obtain ⟨env', h1, h2⟩ := List.mem_filterMap.mp hm
    rcases List.mem_cons.mp h1 with rfl | h1
    · rw [hf] at h2
      rw [← Option.some.inj h2, kts_self FG] at e; cases e
    · exact nm (List.mem_filterMap.mpr ⟨env', h1, h2⟩))
  obtain ⟨h₁, T₁, S, B₁⟩ := turn_of B keep up
  exact ⟨h₁, T₁, ⟨(((turn_slots T).trans (Heap.UpToSlots.of_keeps F.keep)).ns FG.ns), S, by rw [T₁.size]; exact FG.above⟩, fun q hq => ⟨(N' q hq).1, (N q hq).1, T₁.none_ _ (N q hq).2⟩, B₁⟩
end
section
variable {prog : Program} {w : World} {A : Around} {E : Value → Shared → Prop} {s' : Shared} {base g : Heap} {env : Env} {outer : List Env} {L e : Addr} {m : Str → Option Value}
  {b₀ : Stmt} {suite : List Stmt} {pos np : Pos} {rest : List ExceptHandler} {Q : Flow → Shared → Prop} {NL : List (Addr × Obj)} {KF : Frag} {p : Program} {loose : List Str} {mean : ExcName → Option Value} {mg mb : Str → Option Value} {x : Str}
theorem caught_X {name : Str} {scope : Scope} {a : Addr} {cd : Value} (he : env = envOf name scope L a cd) (R : RaisedX base g env outer L m NL e s'.heap) (K : Below A base outer g) (above : g.objs.size ≤ L) (N : ∀ q ∈ NL, q.1 ≠ L ∧ g.get? q.1 = none) (XB : (hd.heap_39 w.params).In base) (TB : Top p loose mean mg mb base)
    (ex : nsIn (hd.heap_39 w.params) mainGlobals x = some (some (.ref 59)))
    (k : ∀ h' g', KtsTurn (frs outer) g g' → Fr g' L h' m → News g' L h' NL → Below A base outer g' → (hd.heap_39 w.params).In g' → Top p loose mean mg mb g' →
      wpAny (model prog w) ((A.deeper env).mark (some (.ref e))) (execs (b₀ :: suite) env) Q E { s' with heap := h' })
    (hkp : keepIn (hd.heap_39 w.params) (.ref 59) = true) (hk : scope.kind = .function := by rfl) (hx : env.kindOf x = some .globalImplicit := by rfl) (hd : (x == ("__debug__" : Str)) = false := by decide)
    (hE : PassesOwnAt (model prog w) ((A.deeper env).mark (some (.ref e))) (A.deeper env) env E := by passes_own) :
    wpAny (model prog w) (A.deeper env) (noteFrame (.ref e) env)
      (fun _ s₂ => wpAny (model prog w) (A.deeper env) (setFlight (.ref e) none) (fun _ s₃ =>
        wpAny (model prog w) (A.deeper env) (handleBy (.ref e) env (.ExceptHandler (some (.Name x np)) none (b₀ :: suite) pos :: rest)) Q E s₃) E s₂) E s' := by
  subst he
  obtain ⟨B, a0, b1, b2, b3, hfl, up, hn⟩ := R
  have ground : ∀ h₅, B.StaysIn h₅ → s'.heap.UpToSlots h₅ → ∃ g', KtsTurn (frs outer) g g' ∧ Fr g' L h₅ m ∧ Below A base outer g' := fun h₅ hB hs => by
    obtain ⟨g', T, S, B'⟩ := turn_of K (fun b o q nm => hB _ _ (b2 b o q nm)) (up.trans hs)
    exact ⟨g', T, ⟨hs.ns hn, S, by rw [T.size]; exact above⟩, B'⟩
  refine wpAny_looks_onW (Around.frames_deeper K.stack) rfl hfl fun h₄ hheld₄ hsm₄ => ?_
  refine wpAny_landsW hheld₄ fun h₅ hheld hsm₅' => ?_
  have hsm₅ := hsm₄.trans hsm₅'
  obtain ⟨g₅, T₅, F₅, K₅⟩ := ground h₅ hheld.1 hsm₅
  have X₅ := XB.keeps K₅.stays
  have P₅ : TopRead p loose mg mb g₅ := topRead_of (TB.keeps K₅.stays)
  obtain ⟨ob, hob, hobc⟩ := hheld.there
  obtain ⟨nm, q', N', bs, hdct, sn, sub, ab, col, dd, k0, k1, k2, k3, k5, newId, hC⟩ := draft_cls X₅
  have hC₅ := F₅.keep _ _ hC
  refine wpAny_handleBy_cons (codeAny_handlers_test (name_K F₅ X₅ P₅ ex ?_ hk hx hd)) (by intro q; cases q)
  refine wpAny_excMatches_sub_self hC₅ hob hobc (by decide) (codeAny_handlers_suite ?_)
  refine lands_againW hheld fun h₆ hfl₆ hsm₆ => ?_
  obtain ⟨g₆, T₆, F₆, K₆⟩ := ground h₆ hfl₆.1 (hsm₅.trans hsm₆)
  exact wpAny_passesOwnAt hE (k h₆ g₆ T₆ F₆ (fun q hq => ⟨hfl₆.1 _ _ (b3 q hq), (N q hq).1, T₆.none_ _ (N q hq).2⟩) K₆ (XB.keeps K₆.stays) (TB.keeps K₆.stays))
end
end
section
section
set_option maxRecDepth 100000 in
set_option maxHeartbeats 2000000 in
theorem refused_0 {w : World} {p : Program} {loose : List Str} {mean : ExcName → Option Value} {mg mb : Str → Option Value} {NL : List (Addr × Obj)} {sh lr : Value} {t0 : Tok} (S0 : SpecE w p loose mean mg mb 296 [sh] 12 220 NL) :
    SpecT w p loose mean mg mb 395 [sh, lr, .int 0 t0] 20 300 NL (fun NL' r => NL' = NL ∧ r = .bool true) := by
  unfold SpecT
  intro dp u gd A₀ base h₀ env outer L m s Q E B F XB TB hf hk hd hu N hret
  have X := XB.keeps B.stays
  have Tp := TB.keeps B.stays
  refine wpAny_call ?_
  refine' code_defR B F X N Tp rfl hf hk ?k6 ?k7 (asm2 hd) ?k9 ?kB ?_ ?c2 ?c3 ?c4 ?c5
  case k6 => k_is
  case k7 => k_is
  case k9 => exact BindsTo.of_eq rfl
  case c5 => decide
  case kB => exact locs rfl
  case c2 => exact rfl
  case c3 => exact rfl
  case c4 => exact rfl
  intro g' L' h' FG' F' N' B' X' T' kG'
  (try dsimp only)
  (try k_fold)
  refine wpAny_execs_cons (wpAny_Try_except ?_)
  (try dsimp only)
  repeat' (first | (k_unfold; (try dsimp only)) | (k_end; wrow_close) | ((fail_if_success (fail_if_success (with_reducible show wpAny _ _ (call (Value.ref _) _) _ _ _))); (k_here; k_dflt ((refine' specE_use ?sp9z ?B9z ?F9z ?X9z ?T9z rfl rfl ?hd9z ?hu9z ?N9z ?_; (case sp9z => (first | exact S0 | exact S0 _)); (case B9z => k_asm); (case F9z => k_asm); (case X9z => k_asm); (case T9z => k_asm); (case hd9z => k_room); (case hu9z => k_units); (case N9z => k_asm)); (intro e1 h1 tk1 R1))); try dsimp only) | (walk1; try dsimp only) | (dsimp only; walk1; try dsimp only))
  refine caught_X rfl R1 B' F'.above (fun q hq => (N' q hq).2) XB TB (by k_is) (fun h2 g2 T2 F2 N2 B2 X2 Tp2 => ?_) (by k_is)
  (try dsimp only)
  repeat' (first | (k_unfold; (try dsimp only)) | (k_end; wrow_close) | ((fail_if_success (fail_if_success (with_reducible show wpAny _ _ (call (Value.ref _) _) _ _ _))); (k_here; k_dflt ((refine' specE_use ?sp9z ?B9z ?F9z ?X9z ?T9z rfl rfl ?hd9z ?hu9z ?N9z ?_; (case sp9z => (first | exact S0 | exact S0 _)); (case B9z => k_asm); (case F9z => k_asm); (case X9z => k_asm); (case T9z => k_asm); (case hd9z => k_room); (case hu9z => k_units); (case N9z => k_asm)); (intro e1 h1 tk1 R1))); try dsimp only) | (walk1; try dsimp only) | (dsimp only; walk1; try dsimp only))
  obtain ⟨h₁, T₁, F₁, N₁, B₁⟩ := back_turn B FG' hf (fun q hq => (N q hq).2) T2 F2 N2
  exact hret _ _ _ h₁ NL T₁ F₁ N₁ B₁ ⟨rfl, rfl⟩
set_option maxRecDepth 100000 in
set_option maxHeartbeats 2000000 in
theorem refused_1 {w : World} {p : Program} {loose : List Str} {mean : ExcName → Option Value} {mg mb : Str → Option Value} {NL : List (Addr × Obj)} {sh lr : Value} {t0 : Tok} (S0 : SpecE w p loose mean mg mb 329 [sh, lr] 12 220 NL) :
    SpecT w p loose mean mg mb 395 [sh, lr, .int 1 t0] 20 300 NL (fun NL' r => NL' = NL ∧ r = .bool true) := by
  unfold SpecT
  intro dp u gd A₀ base h₀ env outer L m s Q E B F XB TB hf hk hd hu N hret
  have X := XB.keeps B.stays
  have Tp := TB.keeps B.stays
  refine wpAny_call ?_
  refine' code_defR B F X N Tp rfl hf hk ?k6 ?k7 (asm2 hd) ?k9 ?kB ?_ ?c2 ?c3 ?c4 ?c5
  case k6 => k_is
  case k7 => k_is
  case k9 => exact BindsTo.of_eq rfl
  case c5 => decide
  case kB => exact locs rfl
  case c2 => exact rfl
  case c3 => exact rfl
  case c4 => exact rfl
  intro g' L' h' FG' F' N' B' X' T' kG'
  (try dsimp only)
  (try k_fold)
  refine wpAny_execs_cons (wpAny_Try_except ?_)
  (try dsimp only)
  repeat' (first | (k_unfold; (try dsimp only)) | (k_end; wrow_close) | ((fail_if_success (fail_if_success (with_reducible show wpAny _ _ (call (Value.ref _) _) _ _ _))); (k_here; k_dflt ((refine' specE_use ?sp9z ?B9z ?F9z ?X9z ?T9z rfl rfl ?hd9z ?hu9z ?N9z ?_; (case sp9z => (first | exact S0 | exact S0 _)); (case B9z => k_asm); (case F9z => k_asm); (case X9z => k_asm); (case T9z => k_asm); (case hd9z => k_room); (case hu9z => k_units); (case N9z => k_asm)); (intro e1 h1 tk1 R1))); try dsimp only) | (walk1; try dsimp only) | (dsimp only; walk1; try dsimp only))
  refine caught_X rfl R1 B' F'.above (fun q hq => (N' q hq).2) XB TB (by k_is) (fun h2 g2 T2 F2 N2 B2 X2 Tp2 => ?_) (by k_is)
  (try dsimp only)
  repeat' (first | (k_unfold; (try dsimp only)) | (k_end; wrow_close) | ((fail_if_success (fail_if_success (with_reducible show wpAny _ _ (call (Value.ref _) _) _ _ _))); (k_here; k_dflt ((refine' specE_use ?sp9z ?B9z ?F9z ?X9z ?T9z rfl rfl ?hd9z ?hu9z ?N9z ?_; (case sp9z => (first | exact S0 | exact S0 _)); (case B9z => k_asm); (case F9z => k_asm); (case X9z => k_asm); (case T9z => k_asm); (case hd9z => k_room); (case hu9z => k_units); (case N9z => k_asm)); (intro e1 h1 tk1 R1))); try dsimp only) | (walk1; try dsimp only) | (dsimp only; walk1; try dsimp only))
  obtain ⟨h₁, T₁, F₁, N₁, B₁⟩ := back_turn B FG' hf (fun q hq => (N q hq).2) T2 F2 N2
  exact hret _ _ _ h₁ NL T₁ F₁ N₁ B₁ ⟨rfl, rfl⟩
set_option maxRecDepth 100000 in
set_option maxHeartbeats 2000000 in
theorem refused_2 {w : World} {p : Program} {loose : List Str} {mean : ExcName → Option Value} {mg mb : Str → Option Value} {NL : List (Addr × Obj)} {sh lr : Value} {t0 : Tok} (S0 : ∀ t, SpecE w p loose mean mg mb 322 [lr, .str (S "gone") t] 12 220 NL) :
    SpecT w p loose mean mg mb 395 [sh, lr, .int 2 t0] 20 300 NL (fun NL' r => NL' = NL ∧ r = .bool true) := by
  unfold SpecT
  intro dp u gd A₀ base h₀ env outer L m s Q E B F XB TB hf hk hd hu N hret
  have X := XB.keeps B.stays
  have Tp := TB.keeps B.stays
  refine wpAny_call ?_
  refine' code_defR B F X N Tp rfl hf hk ?k6 ?k7 (asm2 hd) ?k9 ?kB ?_ ?c2 ?c3 ?c4 ?c5
  case k6 => k_is
  case k7 => k_is
  case k9 => exact BindsTo.of_eq rfl
  case c5 => decide
  case kB => exact locs rfl
  case c2 => exact rfl
  case c3 => exact rfl
  case c4 => exact rfl
  intro g' L' h' FG' F' N' B' X' T' kG'
  (try dsimp only)
  (try k_fold)
  refine wpAny_execs_cons (wpAny_Try_except ?_)
  (try dsimp only)
  repeat' (first | (k_unfold; (try dsimp only)) | (k_end; wrow_close) | ((fail_if_success (fail_if_success (with_reducible show wpAny _ _ (call (Value.ref _) _) _ _ _))); (k_here; k_dflt ((refine' specE_use ?sp9z ?B9z ?F9z ?X9z ?T9z rfl rfl ?hd9z ?hu9z ?N9z ?_; (case sp9z => (first | exact S0 | exact S0 _)); (case B9z => k_asm); (case F9z => k_asm); (case X9z => k_asm); (case T9z => k_asm); (case hd9z => k_room); (case hu9z => k_units); (case N9z => k_asm)); (intro e1 h1 tk1 R1))); try dsimp only) | (walk1; try dsimp only) | (dsimp only; walk1; try dsimp only))
  refine caught_X rfl R1 B' F'.above (fun q hq => (N' q hq).2) XB TB (by k_is) (fun h2 g2 T2 F2 N2 B2 X2 Tp2 => ?_) (by k_is)
  (try dsimp only)
  repeat' (first | (k_unfold; (try dsimp only)) | (k_end; wrow_close) | ((fail_if_success (fail_if_success (with_reducible show wpAny _ _ (call (Value.ref _) _) _ _ _))); (k_here; k_dflt ((refine' specE_use ?sp9z ?B9z ?F9z ?X9z ?T9z rfl rfl ?hd9z ?hu9z ?N9z ?_; (case sp9z => (first | exact S0 | exact S0 _)); (case B9z => k_asm); (case F9z => k_asm); (case X9z => k_asm); (case T9z => k_asm); (case hd9z => k_room); (case hu9z => k_units); (case N9z => k_asm)); (intro e1 h1 tk1 R1))); try dsimp only) | (walk1; try dsimp only) | (dsimp only; walk1; try dsimp only))
  obtain ⟨h₁, T₁, F₁, N₁, B₁⟩ := back_turn B FG' hf (fun q hq => (N q hq).2) T2 F2 N2
  exact hret _ _ _ h₁ NL T₁ F₁ N₁ B₁ ⟨rfl, rfl⟩
set_option maxRecDepth 100000 in
set_option maxHeartbeats 2000000 in
theorem refused_3 {w : World} {p : Program} {loose : List Str} {mean : ExcName → Option Value} {mg mb : Str → Option Value} {NL : List (Addr × Obj)} {sh lr : Value} {t0 : Tok} (S0 : SpecE w p loose mean mg mb 317 [lr] 12 220 NL) :
    SpecT w p loose mean mg mb 395 [sh, lr, .int 3 t0] 20 300 NL (fun NL' r => NL' = NL ∧ r = .bool true) := by
  unfold SpecT
  intro dp u gd A₀ base h₀ env outer L m s Q E B F XB TB hf hk hd hu N hret
  have X := XB.keeps B.stays
  have Tp := TB.keeps B.stays
  refine wpAny_call ?_
  refine' code_defR B F X N Tp rfl hf hk ?k6 ?k7 (asm2 hd) ?k9 ?kB ?_ ?c2 ?c3 ?c4 ?c5
  case k6 => k_is
  case k7 => k_is
  case k9 => exact BindsTo.of_eq rfl
  case c5 => decide
  case kB => exact locs rfl
  case c2 => exact rfl
  case c3 => exact rfl
  case c4 => exact rfl
  intro g' L' h' FG' F' N' B' X' T' kG'
  (try dsimp only)
  (try k_fold)
  refine wpAny_execs_cons (wpAny_Try_except ?_)
  (try dsimp only)
  repeat' (first | (k_unfold; (try dsimp only)) | (k_end; wrow_close) | ((fail_if_success (fail_if_success (with_reducible show wpAny _ _ (call (Value.ref _) _) _ _ _))); (k_here; k_dflt ((refine' specE_use ?sp9z ?B9z ?F9z ?X9z ?T9z rfl rfl ?hd9z ?hu9z ?N9z ?_; (case sp9z => (first | exact S0 | exact S0 _)); (case B9z => k_asm); (case F9z => k_asm); (case X9z => k_asm); (case T9z => k_asm); (case hd9z => k_room); (case hu9z => k_units); (case N9z => k_asm)); (intro e1 h1 tk1 R1))); try dsimp only) | (walk1; try dsimp only) | (dsimp only; walk1; try dsimp only))
  refine caught_X rfl R1 B' F'.above (fun q hq => (N' q hq).2) XB TB (by k_is) (fun h2 g2 T2 F2 N2 B2 X2 Tp2 => ?_) (by k_is)
  (try dsimp only)
  repeat' (first | (k_unfold; (try dsimp only)) | (k_end; wrow_close) | ((fail_if_success (fail_if_success (with_reducible show wpAny _ _ (call (Value.ref _) _) _ _ _))); (k_here; k_dflt ((refine' specE_use ?sp9z ?B9z ?F9z ?X9z ?T9z rfl rfl ?hd9z ?hu9z ?N9z ?_; (case sp9z => (first | exact S0 | exact S0 _)); (case B9z => k_asm); (case F9z => k_asm); (case X9z => k_asm); (case T9z => k_asm); (case hd9z => k_room); (case hu9z => k_units); (case N9z => k_asm)); (intro e1 h1 tk1 R1))); try dsimp only) | (walk1; try dsimp only) | (dsimp only; walk1; try dsimp only))
  obtain ⟨h₁, T₁, F₁, N₁, B₁⟩ := back_turn B FG' hf (fun q hq => (N q hq).2) T2 F2 N2
  exact hret _ _ _ h₁ NL T₁ F₁ N₁ B₁ ⟨rfl, rfl⟩
end
end
section
noncomputable abbrev pfEnv (L : Addr) : Env := envOf (S "pairs_of") { kind := .function, names := [(S "shape", .local), (S "found", .local), (S "key", .local), (S "part", .local)], isGenerator := false, isCoroutine := false } L 303 (.ref 302)
section
set_option maxRecDepth 100000 in
set_option maxHeartbeats 2000000 in
theorem pairs_loop {w : World} {p : Program} {loose : List Str} {mean : ExcName → Option Value} {mg mb : Str → Option Value} {dp u : Nat} {gd : Option (List Code)} {A₀ : Around} {base h₀ : Heap} {outer : List Env} {L : Addr} {m : Str → Option Value} {s : Shared} {Q : Flow → Shared → Prop} {E : Value → Shared → Prop} {NL : List (Addr × Obj)}
    {T d : Addr} {o : Obj} {e : Nat} {vs : List Value} {ps : List (Str × Dat)} {p1 p2 p3 p4 p5 p6 p8 p10 : Pos}
    (B : Below A₀ base outer h₀) (F : Fr h₀ L s.heap m) (X : (hd.heap_39 w.params).In h₀) (Tp : Top p loose mean mg mb h₀)
    (N : News h₀ L s.heap ((T, tupOf vs.toArray e) :: (d, o) :: NL)) (h0 : o.IsDictOf (PySem.strKind PROG w) []) (lo : (d == sysModules) = false) (l1 : ∀ p ∈ NL, @LT.lt Nat _ p.1 d) (l2 : @LT.lt Nat _ d T)
    (hr : DatAll NL vs (ps.map pairD)) (hri : Rising ps) (hpl : ps.length ≤ 4) (hfm : m (S "found") = some (.ref d))
    (done : ∀ o' kvs h' tk' m', Agr [S "part", S "key"] m' m → Fr h₀ L h' m' → News h₀ L h' ((d, o') :: NL) → o'.IsDictOf (PySem.strKind PROG w) kvs → kvs.map (·.1) = ps.map (·.1) → All₂ (DatIn NL) (kvs.map (·.2)) (ps.map (·.2)) → Q .next { s with heap := h', toks := tk' }) :
    wpAny (model PySem.Challenge.rw_og0176_01.row.prog w) (arnd dp u gd (pfEnv L) outer) (pyIter (.ref T))
      (fun it s₂ => TurnsAt PySem.Challenge.rw_og0176_01.row.prog w (arnd dp u gd (pfEnv L) outer) h₀ (pfEnv L) (.Tuple [.Name (S "key") p1, .Name (S "part") p2] 0 p3)
        [.Assign [.Subscript (.Name (S "found") p4) (.Name (S "key") p5) p6] (.Name (S "part") p8) p10] Q E it s₂) E s := by
  have hdl := hr.length
  rw [List.length_map] at hdl
  refine iter_tupTurns (env := pfEnv L) rfl F N (.head _) rfl rfl fun I hI => items_inv0 (env := pfEnv L)
    (fun i m' news => ∃ o' kvs, Agr [S "part", S "key"] m' m ∧ news = (T, tupOf vs.toArray e) :: (d, o') :: NL ∧ o'.IsDictOf (PySem.strKind PROG w) kvs ∧ kvs.map (·.1) = (ps.take i).map (·.1) ∧ All₂ (DatIn NL) (kvs.map (·.2)) ((ps.take i).map (·.2)))
    ⟨o, [], Agr.rfl, rfl, h0, rfl, .nil⟩ ⟨.head _, trivial⟩ ?_ ?_
  · (intro i v m' news oI h tk hv hZZ1 hS hoI F' N'; refine via fun GG hGG => ?_; obtain ⟨o', kvs, hag, rfl, hd', hk', M⟩ := hZZ1; refine hGG ?_; clear hGG GG)
    (refine via fun GG hGG => ?_; obtain ⟨a9, t9, part9, n9, pk, pd, hp, rfl, hmb, hpart⟩ := pair_at hr hv; refine hGG ?_; clear hGG GG)
    have hkl := congrArg List.length hk'
    simp only [List.length_map, List.length_take] at hkl
    have hfm' := (hag (S "found") (by decide)).trans hfm
    repeat' (first | (k_unfold; (try dsimp only)) | (k_end; wrow_close) | ((fail_if_success (fail_if_success (with_reducible show wpAny _ _ (eval (PySem.Expr.Name _ _) _) _ _ _))); (k_here; k_dflt (refine' nameX_L ?F9z ?v9z ?_ ?a9z ?b9z ?c9z; (case F9z => k_asm); (case v9z => with_unfolding_all assumption); (case a9z => exact rfl); (case b9z => exact rfl); (case c9z => decide))); try dsimp only) | ((fail_if_success (fail_if_success (with_reducible show wpAny _ _ (setItem (Value.ref _) (Value.str _ _) _) _ _ _))); (k_here; k_dflt (refine' set_str_N ?F9z ?N9z ?hm9z ?hd9z ?hz9z ?_; (case F9z => k_asm); (case N9z => k_asm); (case hm9z => k_mem); (case hd9z => k_asm); (case hz9z => omega)); intro h9 o9 F9 hs9 ho9 hd9 N9); try dsimp only) | (walk1; try dsimp only) | (dsimp only; walk1; try dsimp only))
    rw [stored_new (by rw [hk']; exact rising_fresh hri hp)] at hd9
    have hdI : @LT.lt Nat _ d I := hI (d, o) (.tail _ (.head _))
    have hTI : @LT.lt Nat _ T I := hI (T, tupOf vs.toArray e) (.head _)
    refine ⟨_, _, _, (T, tupOf vs.toArray e) :: (d, o9) :: NL, rfl, by assumption, N9 _ ?_, ?_, ⟨.head _, trivial⟩, ⟨o9, _, (hag.set (by decide)).set (by decide), rfl, hd9, ?_, ?_⟩⟩
    · intro q hq
      rcases List.mem_cons.mp hq with rfl | hq
      · exact .inr ⟨.head _, Ne.symm (Nat.ne_of_lt hdI)⟩
      · rcases List.mem_cons.mp hq with rfl | hq
        · exact .inr ⟨.tail _ (.head _), Ne.symm (Nat.ne_of_lt l2)⟩
        · rcases List.mem_cons.mp hq with rfl | hq
          · exact .inl rfl
          · exact .inr ⟨.tail _ (.tail _ (.tail _ hq)), Nat.ne_of_lt (l1 q hq)⟩
    · intro q hq r hr'
      rw [List.mem_singleton.mp hr']
      rcases List.mem_cons.mp hq with rfl | hq
      · exact Nat.ne_of_lt hTI
      · rcases List.mem_cons.mp hq with rfl | hq
        · exact Nat.ne_of_lt hdI
        · exact Nat.ne_of_lt (hI q (.tail _ (.tail _ hq)))
    · rw [List.map_append, hk', List.take_add_one, hp, List.map_append]; rfl
    · rw [List.map_append, List.take_add_one, hp, List.map_append]
      exact M.snoc hpart
  · (intro m' news h tk hZZ1 F' N'; refine via fun GG hGG => ?_; obtain ⟨o', kvs, hag, rfl, hd', hk', M⟩ := hZZ1; refine hGG ?_; clear hGG GG)
    rw [hdl, List.take_length] at hk' M
    exact done o' kvs h tk m' hag F' (fun p hp => N' p (.tail _ hp)) hd' hk' M
end
section
set_option maxRecDepth 100000 in
set_option maxHeartbeats 2000000 in
theorem pairs_ok {w : World} {p : Program} {loose : List Str} {mean : ExcName → Option Value} {mg mb : Str → Option Value} {NL : List (Addr × Obj)} {a : Addr} {k : Nat} {t1 : Tok} {vs : List Value} {ps : List (Str × Dat)}
    (hm : (a, tupOf (.str (S "dict") t1 :: vs).toArray k) ∈ NL) (hr : DatAll NL vs (ps.map pairD)) (hri : Rising ps) (hpl : ps.length ≤ 4) :
    Spec w p loose mean mg mb 303 [.ref a] 5 60 NL (fun NL' v => ∃ d o kvs, NL' = (d, o) :: NL ∧ v = .ref d ∧ (∀ p ∈ NL, @LT.lt Nat _ p.1 d) ∧ (d == sysModules) = false ∧ o.IsDictOf (PySem.strKind PROG w) kvs ∧ kvs.map (·.1) = ps.map (·.1) ∧ All₂ (DatIn NL) (kvs.map (·.2)) (ps.map (·.2))) := by
  have hdl := hr.length
  rw [List.length_map] at hdl
  unfold Spec
  intro dp u gd A₀ base h₀ env outer L m s Q E B F X Tp hf hk hd hu N hret
  refine wpAny_call ?_
  refine' code_defG B F X N Tp rfl hf hk ?k6 ?k7 (asm2 hd) ?k9 ?kB ?_ ?c2 ?c3 ?c4 ?c5
  case k6 => k_is
  case k7 => k_is
  case k9 => exact BindsTo.of_eq rfl
  case c5 => decide
  case kB => exact locs rfl
  case c2 => exact rfl
  case c3 => exact rfl
  case c4 => exact rfl
  intro g' L' h' FG' F' N' B' X' T' kG'
  (try dsimp only)
  (try k_fold)
  iterate 7 (all_goals (try (first | (k_unfold; (try dsimp only)) | (k_end; wrow_close) | ((fail_if_success (fail_if_success (with_reducible show wpAny _ _ (eval (PySem.Expr.Name _ _) _) _ _ _))); (k_here; k_dflt (refine' nameX_L ?F9z ?v9z ?_ ?a9z ?b9z ?c9z; (case F9z => k_asm); (case v9z => with_unfolding_all assumption); (case a9z => exact rfl); (case b9z => exact rfl); (case c9z => decide))); try dsimp only) | (walk1; try dsimp only) | (dsimp only; walk1; try dsimp only))))
  refine' For_turns (by k_asm) ?_
  iterate 8 (all_goals (try (first | (k_unfold; (try dsimp only)) | (k_end; wrow_close) | ((fail_if_success (fail_if_success (with_reducible show wpAny _ _ (eval (PySem.Expr.Name _ _) _) _ _ _))); (k_here; k_dflt (refine' nameX_L ?F9z ?v9z ?_ ?a9z ?b9z ?c9z; (case F9z => k_asm); (case v9z => with_unfolding_all assumption); (case a9z => exact rfl); (case b9z => exact rfl); (case c9z => decide))); try dsimp only) | (walk1; try dsimp only) | (dsimp only; walk1; try dsimp only))))
  rename _ ∧ AllLt _ NL => hlt
  refine' pairs_loop ?B ?F ?X ?T ?N ?h0 ?lo ?l1 hlt.1 hr hri hpl ?hfm ?_
  case B => k_asm
  case F => k_asm
  case X => k_asm
  case T => k_asm
  case N => k_asm
  case h0 => k_asm
  case lo => k_asm
  case l1 => assumption
  case hfm => exact rfl
  intro o9 kvs9 h9 tk9 m9 ag9 F9 N9 hd9 hk9 hv9
  have hfm := (ag9 (S "found") (by decide)).trans (rfl : _ = some (Value.ref _))
  dsimp only
  repeat' (first | (k_unfold; (try dsimp only)) | (k_end; wrow_close) | ((fail_if_success (fail_if_success (with_reducible show wpAny _ _ (eval (PySem.Expr.Name _ _) _) _ _ _))); (k_here; k_dflt (refine' nameX_L ?F9z ?v9z ?_ ?a9z ?b9z ?c9z; (case F9z => k_asm); (case v9z => with_unfolding_all assumption); (case a9z => exact rfl); (case b9z => exact rfl); (case c9z => decide))); try dsimp only) | (walk1; try dsimp only) | (dsimp only; walk1; try dsimp only))
  rename News h₀ L _ _ => kN9
  exact hret _ _ _ _ (by assumption) kN9 (ext_of kG' F9) ⟨_, _, _, rfl, rfl, by assumption, by assumption, hd9, hk9, hv9⟩
end
end
section
set_option maxRecDepth 100000 in
set_option maxHeartbeats 2000000 in
theorem dshape_comp {prog : Program} {w : World} {A : Around} {h₀ : Heap} {env : Env} {L : Addr} {m : Str → Option Value} {s : Shared} {Q E : Value → Shared → Prop} {nw₀ NL : List (Addr × Obj)}
    {a c D₀ : Addr} {o oc : Obj} {e₀ : Nat} {vs : List Value} {kvs srt : List (Str × Value)} {ps : List (Str × Dat)} {p1 p3 p4 p5 p7 p8 cpos : Pos} {k0 : Nat} {iter : Expr} {cl : List (Str × Addr)}
    (hh : A.handled = none) (F : Fr h₀ L s.heap m) (hk : env.scope.kind = .function) (hkc : env.kindOf (S "pairs") = some .cell) (hcl : cl.lookup (S "pairs") = some c)
    (N : News h₀ L s.heap nw₀) (hm : (a, o) ∈ nw₀) (hod : o.IsDictOf (PySem.strKind prog w) kvs) (hc : (c, oc) ∈ nw₀) (hoc : oc.data = .cell (some (.ref a))) (so : Sorted kvs srt) (hl : kvs.length ≤ 4)
    (hD₀ : (D₀, listOf vs.toArray e₀) ∈ nw₀) (hv : All₂ (fun v (r : Str × Value) => ∃ t, v = .str r.1 t) vs srt)
    (hr : All₂ (fun (r : Str × Value) (p : Str × Dat) => r.1 = p.1 ∧ DatIn NL r.2 p.2) srt ps)
    (done : ∀ (D : Addr) ys kD tl h tk, (∀ p ∈ nw₀, @LT.lt Nat _ p.1 D) → Fr h₀ L h m → News h₀ L h ((D, listOf ys.toArray kD) :: (tl ++ nw₀)) → Above nw₀ tl → DatAll (tl ++ NL) ys (ps.map pairD) → Q (.ref D) { s with heap := h, toks := tk }) :
    wpAny (model prog w) A (pyIter (.ref D₀))
      (fun it s₂ => CompRun prog w A E env
        (.ListComp (.Tuple [.Name (S "key") p1, .Subscript (.Name (S "pairs") p3) (.Name (S "key") p4) p5] k0 p7)
          [⟨.Name (S "key") p8, iter, [], 0⟩] { kind := .function, names := [(S ".0", .local), (S "key", .local), (S "pairs", .free)], isGenerator := false, isCoroutine := false, more := [] } cpos) { kind := .function, names := [(S ".0", .local), (S "key", .local), (S "pairs", .free)], isGenerator := false, isCoroutine := false, more := [] } cl Q it s₂) E s := by
  have hvl := hv.length
  have hsl := so.length
  have hrl := hr.length
  refine comp_list (h₀ := h₀) (L := L) (fun i ys nw => ∃ tl, nw = tl ++ nw₀ ∧ Above nw₀ tl ∧ DatAll (tl ++ NL) ys ((ps.take i).map pairD)) hh F N hD₀ ⟨[], rfl, above_nil, by simpa using DatAll.nil⟩ (by rw [sizeLine_eq]; omega) (by decide) rfl rfl ?_ ?_
  · (intro C D I oC own i v ys kD nw h tk mC E' hv' hx hZZ1 hoff hID hDC F' hn' N'; refine via fun GG hGG => ?_; obtain ⟨tl, rfl, ab, hys⟩ := hZZ1; refine hGG ?_; clear hGG GG)
    obtain ⟨r, hsr, t, rfl⟩ := hv.get hv'
    have hrow := so.value (List.mem_of_getElem? hsr)
    have hk1 : (compEnvC { kind := .function, names := [(S ".0", .local), (S "key", .local), (S "pairs", .free)], isGenerator := false, isCoroutine := false, more := [] } cl C env).kindOf (S "pairs") = some .cell := by
      unfold compEnvC relabel Env.kindOf
      simp only [List.map]
      rw [hk, show List.lookup (S "pairs") env.scope.names = some .cell from hkc]
      rfl
    have hsub : ∀ p ∈ nw₀, p ∈ (C, oC) :: (D, listOf ys.toArray kD) :: (own ++ (tl ++ nw₀)) := fun p hp => sub_big p (List.mem_append.mpr (.inr hp))
    obtain ⟨p, hp, hp1, hth⟩ := hr.get hsr
    refine wpAny_tests_nil ?_
    rw [if_pos rfl]
    refine Tuple_ ?_
    show wpAny _ _ (spliced [(false, eval (.Name (S "key") p1) _), (false, eval (.Subscript (.Name (S "pairs") p3) (.Name (S "key") p4) p5) _)]) _ _ _
    refine spliced_cons (name_C hn' hx ?_ rfl rfl)
    refine spliced_cons (sub_cell_key N' hcl (hsub _ hc) hoc (hsub _ hm) hod hrow hn' hx ?_ rfl hk1 rfl)
    refine spliced_nil ?_
    refine newTuple_N F' N' (fun h3 F3 N3 => ?_) (by rw [sizeLine_eq]; simp)
    refine cend (tl := [(_, _)]) F3 N3 ?_ hID hoff ⟨(_, _) :: tl, rfl, ?_, ?_⟩
    · intro q hq x hx'
      rw [List.mem_singleton.mp hx']
      exact Heap.lt_size (N' q hq).1
    · intro q hq x hx'
      rcases List.mem_cons.mp hx' with rfl | hx'
      · exact Heap.lt_size (N' q (hsub q hq)).1
      · exact ab q hq x hx'
    · rw [List.take_add_one, hp, List.map_append]
      refine DatAll.append (hys.mono fun x hx' => .tail _ hx') (DatAll.one (.tuple (.head _) (.cons ?_ (.cons (hth.mono fun x hx' => .tail _ (List.mem_append.mpr (.inr hx'))) .nil))))
      rw [← hp1]
      exact .str _ _
  · (intro D ys kD nw h tk hD hoff hZZ1 F' N'; refine via fun GG hGG => ?_; obtain ⟨tl, rfl, ab, hys⟩ := hZZ1; refine hGG ?_; clear hGG GG)
    rw [hvl, hrl, List.take_length] at hys
    exact done D ys kD tl h tk hD F' N' ab hys
set_option maxRecDepth 100000 in
set_option maxHeartbeats 2000000 in
theorem dshape_ok {w : World} {p : Program} {loose : List Str} {mean : ExcName → Option Value} {mg mb : Str → Option Value} {NL : List (Addr × Obj)} {a : Addr} {o : Obj} {kvs srt : List (Str × Value)} {ps : List (Str × Dat)}
    (hm : (a, o) ∈ NL) (hod : o.IsDictOf (PySem.strKind PROG w) kvs) (la : (a == sysModules) = false) (so : Sorted kvs srt) (hl : kvs.length ≤ 4)
    (hr : All₂ (fun (r : Str × Value) (p : Str × Dat) => r.1 = p.1 ∧ DatIn NL r.2 p.2) srt ps) :
    Spec w p loose mean mg mb 334 [.ref a] 5 60 NL (fun NL' r => ∃ tl, NL' = tl ++ NL ∧ Above NL tl ∧ DatIn (tl ++ NL) r (tag "dict" (ps.map pairD))) := by
  obtain ⟨es, k, rfl⟩ := obj_dict hod
  have hsl := so.length
  have hrl := hr.length
  unfold Spec
  intro dp u gd A₀ base h₀ env outer L m s Q E B F X Tp hf hk hd hu N hret
  refine wpAny_call ?_
  refine' code_defCG B F X N Tp rfl hf hk ?k6 ?k7 (asm2 hd) ?k9 ?kB ?kD ?_ ?c2 ?c3 ?c4
  case k6 => k_is
  case k7 => k_is
  case k9 => exact BindsTo.of_eq rfl
  case kB => exact rfl
  case kD => decide +kernel
  case c2 => exact rfl
  case c3 => exact rfl
  case c4 => exact rfl
  intro g' L' h' tk' cells' FG' F' N' Y' B' X' T' l1 kG'
  k_cells Y'
  (try simp only [List.cons_append, List.nil_append] at N')
  (try dsimp only)
  (try k_fold)
  repeat' (first | (k_unfold; (try dsimp only)) | (k_end; wrow_close) | (walk1; try dsimp only) | (dsimp only; walk1; try dsimp only))
  k_dflt (refine' sorted_dict_N rfl ?F ?N ?hm hod la so hl ?_)
  case F => k_asm
  case N => k_asm
  case hm => k_mem
  intro D0 vs0 e0 h8 tk8 F8 N8 l8 hv8
  dsimp only
  iterate 2 (all_goals (try (first | (k_unfold; (try dsimp only)) | (k_end; wrow_close) | (walk1; try dsimp only) | (dsimp only; walk1; try dsimp only))))
  refine' dshape_comp rfl ?F ?e3 ?e4 ?e5 ?N ?hm hod ?hc ?hoc so hl ?hD ?hv ?hr ?_
  case F => k_asm
  case N => k_asm
  case e3 => exact rfl
  case e4 => exact rfl
  case e5 => exact rfl
  case hD => exact List.Mem.head _
  case hc => exact List.Mem.tail _ (List.Mem.tail _ (List.Mem.head _))
  case hoc => assumption
  case hm => k_mem
  case hv => exact hv8
  case hr => exact hr
  intro D ys kD tl h9 tk9 hD F9 N9 ab9 hy9
  dsimp only
  iterate 2 (all_goals (try (first | (k_unfold; (try dsimp only)) | (k_end; wrow_close) | (walk1; try dsimp only) | (dsimp only; walk1; try dsimp only))))
  have hyl := DatAll.length hy9
  rw [List.length_map] at hyl
  k_dflt (refine' tuple_list_N ?F ?N ?hl ?hz ?_)
  case F => k_asm
  case N => k_asm
  case hl => exact List.Mem.head _
  case hz => rw [sizeLine_eq]; omega
  intro a1 h10 F10 N10 l10
  dsimp only
  k_dflt (refine' add_tup_N (NL := NL) ?F ?N ?hl ?hb ?hne ?hz ?hab ?hs ?_)
  case F => k_asm
  case N => k_asm
  case hl => k_mem
  case hb => exact List.Mem.head _
  case hne => exact List.cons_ne_nil _ _
  case hz => (rw [sizeLine_eq]; simp only [List.length_cons, List.length_nil]; omega)
  case hab => exact ktn_ltOf (And.right (by assumption))
  case hs => exact fun p hp => .tail _ (.tail _ (List.mem_append.mpr (.inr (.tail _ (.tail _ (.tail _ hp))))))
  intro a2 n2 o2 h11 nw11 e11 F11 N11 s11 m11 l11
  dsimp only
  repeat' (first | (k_unfold; (try dsimp only)) | (k_end; wrow_close) | (walk1; try dsimp only) | (dsimp only; walk1; try dsimp only))
  refine hret _ _ _ ((a2, o2) :: (tl ++ NL)) (by assumption) ?_ (ext_of kG' F11) ⟨(a2, o2) :: tl, rfl, ?_, ?_⟩
  · rename News h₀ L h11 nw11 => N12
    intro p hp
    rcases List.mem_cons.mp hp with rfl | hp
    · exact N12 _ m11
    · refine N12 _ (s11 _ (.tail _ (.tail _ (List.mem_append.mpr ?_))))
      rcases List.mem_append.mp hp with hp | hp
      · exact .inl hp
      · exact .inr (.tail _ (.tail _ (.tail _ hp)))
  · intro q hq p hp
    rcases List.mem_cons.mp hp with rfl | hp
    · exact l11 q hq
    · exact ab9 q (.tail _ (.tail _ (.tail _ hq))) p hp
  · subst e11
    exact DatIn.tuple (.head _) (.cons (.str _ _) (hy9.mono fun p hp => .tail _ hp))
end
section
set_option maxRecDepth 100000
inductive KeyD : Dat → Prop
  | str (x : Str) : KeyD (.str x)
  | int (i : Int) : KeyD (.int i)
  | tup (x : Str) : KeyD (.tuple [.str x])
noncomputable def hashD (w : World) : Dat → Int
  | .str x => hashStr w x
  | .int i => hashInt i
  | .tuple [.str x] => reduceHash (Builtin.Tuple.tupleHashOf [hashStr w x])
  | _ => 0
noncomputable def KeyAt (h : Heap) (v : Value) (d : Dat) : Prop := KeyD d ∧ ∃ T, Has h T ∧ DatIn T v d
theorem KeyD.nb {d : Dat} (h : KeyD d) : nb d = true := by cases h <;> rfl
theorem KeyD.dep {d : Dat} (h : KeyD d) : dep d ≤ 1 := by cases h <;> simp [Mine.dep, depL]
theorem KeyAt.det {h : Heap} {v : Value} {d d' : Dat} (a : KeyAt h v d) (b : KeyAt h v d') : d = d' := by
  obtain ⟨_, T, H, r⟩ := a
  obtain ⟨_, T', H', r'⟩ := b
  exact dat_det H H' _ _ _ _ (Nat.le_refl _) r r'
theorem KeyAt.shape {h : Heap} {v : Value} {d : Dat} (a : KeyAt h v d) : (∃ x t, v = .str x t ∧ d = .str x) ∨ (∃ i t, v = .int i t ∧ d = .int i) ∨ ∃ b x t n, v = .ref b ∧ d = .tuple [.str x] ∧ h.get? b = some (tupOf [Value.str x t].toArray n) := by
  obtain ⟨k, T, H, r⟩ := a
  cases k with
  | str x => cases r; exact .inl ⟨_, _, rfl, rfl⟩
  | int i => cases r; exact .inr (.inl ⟨_, _, rfl, rfl⟩)
  | tup x =>
    cases r with
    | tuple m r =>
      cases r with
      | cons a r =>
        cases r
        cases a
        exact .inr (.inr ⟨_, _, _, _, rfl, rfl, H _ m⟩)
theorem KeyAt.isStr {h : Heap} {v : Value} {d : Dat} (a : KeyAt h v d) (x : Str) : v.isStr x = true ↔ d = .str x := by
  rcases a.shape with ⟨y, t, rfl, rfl⟩ | ⟨i, t, rfl, rfl⟩ | ⟨b, y, t, n, rfl, rfl, _⟩
  · simp [Value.isStr]
  · simp [Value.isStr]
  · simp [Value.isStr]
open Classical in
theorem KeyAt.eq {s : Shared} {A : Around} {a b : Value} {d d' : Dat} (x : KeyAt s.heap a d) (y : KeyAt s.heap b d') (hu : A.units + 1 < cLine) : EqAt A s a b (decide (d = d')) := by
  obtain ⟨k, T, H, r⟩ := x
  obtain ⟨k', T', H', r'⟩ := y
  exact eq_dat H H' 1 A d d' a b k.dep k.nb k'.nb r r' hu
theorem KeyAt.hash {prog : Program} {w : World} {A : Around} {E : Value → Shared → Prop} {s : Shared} {v : Value} {d : Dat} {Q : Int → Shared → Prop} (a : KeyAt s.heap v d) (hu : A.units < cLine) (h : ∀ tk, Q (hashD w d) { s with toks := tk }) : wpAny (model prog w) A (pyHash v) Q E s := by
  rcases a.shape with ⟨y, t, rfl, rfl⟩ | ⟨i, t, rfl, rfl⟩ | ⟨b, y, t, n, rfl, rfl, hb⟩
  · exact wpAny_pyHash_str (h _)
  · exact wpAny_pyHash_int (h _)
  · exact wpAny_pyHash_tuple (knd := PySem.strKind prog w) (ks := [y]) hu ⟨_, _, _, hb, rfl, rfl, .cons (by simp [PySem.strKind, Value.isStrOf]) .nil⟩ (h _)
theorem KeyAt.quiet {prog : Program} {w : World} {A : Around} {E : Value → Shared → Prop} {s : Shared} {v : Value} {d : Dat} {Q : Bool → Shared → Prop} (a : KeyAt s.heap v d) (h : Q true s) : wpAny (model prog w) A (eqIsQuiet 8 v) Q E s := by
  rcases a.shape with ⟨y, t, rfl, rfl⟩ | ⟨i, t, rfl, rfl⟩ | ⟨b, y, t, n, rfl, rfl, hb⟩
  · rw [eqIsQuiet_byValue 8 rfl]; exact wpAny_pure h
  · rw [eqIsQuiet_byValue 8 rfl]; exact wpAny_pure h
  · exact wpAny_eqIsQuiet_tuple (knd := PySem.strKind prog w) (ks := [y]) ⟨_, _, _, hb, rfl, rfl, .cons (by simp [PySem.strKind, Value.isStrOf]) .nil⟩ h
theorem quiet_table {prog : Program} {w : World} {A : Around} {E : Value → Shared → Prop} {s : Shared} {v : Value} {d : Dat} {l : List Value} {Q : Bool → Shared → Prop} (a : KeyAt s.heap v d) (hl : ∀ x ∈ l, ∃ d, KeyAt s.heap x d) (h : Q false s) : wpAny (model prog w) A (tableMayTell v l) Q E s := by
  unfold tableMayTell
  split
  · exact wpAny_pure h
  · refine wpAny_bind (a.quiet ?_)
    simp only [Bool.not_true, Bool.false_eq_true, if_false]
    refine wpAny_bind (wpAny_forIn_list _ (fun rest r s' => s = s' ∧ r = (none, ()) ∧ ∀ x ∈ rest, ∃ d, KeyAt s.heap x d) _ ?_ ?_ _ _ ⟨rfl, rfl, hl⟩)
    · rintro x rest r s' ⟨rfl, rfl, hr⟩
      obtain ⟨d', hd'⟩ := hr x List.mem_cons_self
      refine wpAny_bind (hd'.quiet ?_)
      simp only [Bool.not_true, Bool.false_eq_true, if_false]
      exact wpAny_pure ⟨rfl, rfl, fun y hy => hr y (List.mem_cons_of_mem _ hy)⟩
    · rintro r s' ⟨rfl, rfl, _⟩
      exact wpAny_pure h
end
section
set_option maxRecDepth 100000
section
variable {prog : Program} {w : World} {A : Around} {E : Value → Shared → Prop} {s : Shared} {a : Addr} {o : Obj} {es : Array DictEntry} {ep : Nat} {ds : List Dat} {key : Value} {kd : Dat}
noncomputable abbrev EntsAre (w : World) (h : Heap) (es : Array DictEntry) (ds : List Dat) : Prop := All₂ (fun (e : DictEntry) d => KeyAt h e.key d ∧ e.hash = hashD w d) es.toList ds
theorem ent_at {h : Heap} (he : EntsAre w h es ds) {j : Nat} {e : DictEntry} (q : es[j]? = some e) : ∃ d, ds[j]? = some d ∧ KeyAt h e.key d ∧ e.hash = hashD w d := he.get (by rw [Array.getElem?_toList]; exact q)
theorem ent_of {h : Heap} (he : EntsAre w h es ds) {j : Nat} {d : Dat} (q : ds[j]? = some d) : ∃ e, es[j]? = some e ∧ KeyAt h e.key d ∧ e.hash = hashD w d := by
  have hl := he.length
  obtain ⟨h1, h2⟩ := List.getElem?_eq_some_iff.mp q
  have hj : j < es.size := by rw [← Array.length_toList]; omega
  obtain ⟨d', e1, r⟩ := ent_at he (Array.getElem?_eq_getElem hj)
  rw [q] at e1; cases e1
  exact ⟨_, Array.getElem?_eq_getElem hj, r⟩
noncomputable abbrev placesOf (w : World) (es : Array DictEntry) (kd : Dat) : List Nat := placesWithHash es.size (fun i => es[i]?.map (·.hash)) (hashD w kd)
theorem place_iff {j : Nat} : j ∈ placesOf w es kd ↔ ∃ e, es[j]? = some e ∧ e.hash = hashD w kd := by
  unfold placesOf placesWithHash
  rw [List.mem_filter, List.mem_range]
  constructor
  · rintro ⟨h1, h2⟩
    refine ⟨es[j], Array.getElem?_eq_getElem h1, ?_⟩
    dsimp only at h2
    rw [Array.getElem?_eq_getElem h1] at h2
    simpa using h2
  · rintro ⟨e, h1, h2⟩
    refine ⟨(Array.getElem?_eq_some_iff.mp h1).1, ?_⟩
    dsimp only
    rw [h1]; simp [h2]
theorem places_nodup : (placesOf w es kd).Nodup := List.Pairwise.filter _ List.nodup_range
theorem inj_at (hn : ds.Nodup) {i j : Nat} (h1 : ds[i]? = some kd) (h2 : ds[j]? = some kd) : i = j :=
  (List.getElem?_inj (List.getElem?_eq_some_iff.mp h1).1 hn).mp (h1.trans h2.symm)
theorem quiet_if {c : Bool} {Q : Option Nat → Shared → Prop} {jp : Bool → Sem (Option Nat)} {stored : List Value} (hk : KeyAt s.heap key kd) (hst : ∀ v ∈ stored, ∃ d, KeyAt s.heap v d) (h : wpAny (model prog w) A (jp false) Q E s) :
    wpAny (model prog w) A (if c = true then pure false >>= jp else tableMayTell key stored >>= jp) Q E s := by
  cases c
  · exact wpAny_bind (quiet_table hk hst h)
  · exact wpAny_bind (wpAny_pure h)
open Classical in
theorem find_dat {Q : Option Nat → Shared → Prop} (hu : A.units + 1 < cLine) (hk : KeyAt s.heap key kd) (ho : s.heap.get? a = some o) (hd : o.data = .dict es ep) (he : EntsAre w s.heap es ds) (hn : ds.Nodup)
    (hnone : kd ∉ ds → Q none s) (hsome : ∀ j, ds[j]? = some kd → Q (some j) s) : wpAny (model prog w) A (dictFind a key (hashD w kd)) Q E s := by
  have hall : ∀ j ∈ placesOf w es kd, ∃ e d, es[j]? = some e ∧ ds[j]? = some d ∧ KeyAt s.heap e.key d ∧ e.hash = hashD w kd := fun j hj => by
    obtain ⟨e, h1, h2⟩ := place_iff.mp hj
    obtain ⟨d, h3, h4, _⟩ := ent_at he h1
    exact ⟨e, d, h1, h3, h4, h2⟩
  have hno : (∀ j ∈ placesOf w es kd, ds[j]? ≠ some kd) → kd ∉ ds := fun h hm => by
    obtain ⟨j, hj⟩ := List.mem_iff_getElem?.mp hm
    obtain ⟨e, h1, h2, h3⟩ := ent_of he hj
    exact h j (place_iff.mpr ⟨e, h1, h3⟩) hj
  have hst : ∀ v ∈ (placesOf w es kd).filterMap (fun i => es[i]?.map (·.key)), ∃ d, KeyAt s.heap v d := fun v hv => by
    obtain ⟨i, hi, e1⟩ := List.mem_filterMap.mp hv
    obtain ⟨e, d, h1, h2, h3, h4⟩ := hall i hi
    rw [h1] at e1
    cases e1
    exact ⟨d, h3⟩
  have hash : ¬ (es.any fun e => e.key == key && e.hash != hashD w kd) = true := by
    rw [← Array.any_toList, List.any_eq_true]
    rintro ⟨e, hin, hc⟩
    obtain ⟨j, hj⟩ := List.mem_iff_getElem?.mp hin
    obtain ⟨d, _, h1, h2⟩ := ent_at he (by rw [← Array.getElem?_toList]; exact hj)
    simp only [Bool.and_eq_true, beq_iff_eq, bne_iff_ne] at hc
    rw [hc.1] at h1
    exact hc.2 (by rw [h2, h1.det hk])
  -- the plain walk
  have plain : wpAny (model prog w) A (dictWalkPlain a key (hashD w kd) es (placesOf w es kd)) Q E s := by
    unfold dictWalkPlain
    refine wpAny_bind (wpAny_forIn_list _ (fun rest b s' => s = s' ∧ b = (none, ()) ∧ ∃ pre, placesOf w es kd = pre ++ rest ∧ ∀ j ∈ pre, ds[j]? ≠ some kd) _ ?_ ?_ _ _ ⟨rfl, rfl, [], rfl, fun _ h => nomatch h⟩)
    · (intro x rest b s' hZZ1; refine via fun GG hGG => ?_; obtain ⟨rfl, rfl, pre, hp, hpre⟩ := hZZ1; obtain ⟨e, d, h1, h2, h3, h4⟩ := hall x (by rw [hp]; exact List.mem_append.mpr (.inr (.head _))); refine hGG ?_; clear hGG GG)
      rw [h1]
      dsimp only
      rw [if_pos (by simp [h4])]
      refine wpAny_bind (wpAny_dictEpoch ho hd (wpAny_bind ((h3.eq hk hu) prog w _ _ (wpAny_bind (wpAny_dictEpoch ho hd ?_)))))
      show wpAny _ _ (if (ep != ep) = true then _ else _) _ E _
      rw [if_neg (by simp)]
      by_cases q : d = kd
      · rw [decide_eq_true q]
        rw [q] at h2
        exact wpAny_bind (wpAny_rule (wpAny_pure (wpAny_pure (hsome x h2))))
      · rw [decide_eq_false q]
        refine wpAny_bind (wpAny_rule (wpAny_pure ⟨rfl, rfl, pre ++ [x], by rw [hp]; simp, fun j hj => ?_⟩))
        rcases List.mem_append.mp hj with hj | hj
        · exact hpre j hj
        · rw [List.mem_singleton.mp hj, h2]
          exact fun e => q (Option.some.inj e)
    · rintro b s' ⟨rfl, rfl, pre, hp, hpre⟩
      exact wpAny_pure (hnone (hno fun j hj => hpre j (by rw [hp, List.append_nil] at hj; exact hj)))
  have found : ∀ x t, key = .str x t → (es.all fun e => isExactStrKey e.key) = true → wpAny (model prog w) A (foundByValue a key es x) Q E s := by
    rintro x t rfl hs
    obtain rfl : kd = .str x := by
      rcases hk.shape with ⟨y, u, e, rfl⟩ | ⟨i, u, e, rfl⟩ | ⟨b, y, u, n, e, rfl, _⟩
      · cases e; rfl
      · cases e
      · cases e
    unfold foundByValue
    cases hf : es.findIdx? (fun e => e.key.isStr x) with
    | none =>
      refine wpAny_pure (hnone fun hm => ?_)
      obtain ⟨j, hj⟩ := List.mem_iff_getElem?.mp hm
      obtain ⟨e, h1, h2, h3⟩ := ent_of he hj
      have := Array.findIdx?_eq_none_iff.mp hf e (Array.mem_of_getElem? h1)
      rw [(h2.isStr x).mpr rfl] at this
      cases this
    | some i =>
      obtain ⟨hlt, hi, _⟩ := Array.findIdx?_eq_some_iff_getElem.mp hf
      obtain ⟨d, h2, h3, h4⟩ := ent_at he (Array.getElem?_eq_getElem hlt)
      obtain rfl := (h3.isStr x).mp hi
      simp only [Array.getElem?_eq_getElem hlt]
      refine wpAny_bind (wpAny_dictEpoch ho hd (wpAny_bind ((h3.eq hk hu) prog w _ _ (wpAny_bind (wpAny_dictEpoch ho hd ?_)))))
      show wpAny _ _ (if (ep != ep) = true then _ else _) _ E _
      rw [if_neg (by simp), decide_eq_true rfl]
      exact wpAny_bind (wpAny_rule (wpAny_pure (hsome i h2)))
  unfold dictFind
  try with_reducible refine wpAny_holding ?_
  refine wpAny_bind (wpAny_dictEntries ho hd ?_)
  dsimp only
  have hv : ∀ b : Addr, key = .ref b → ¬ ((key :: (placesOf w es kd).filterMap (fun i => es[i]?.map (·.key))).all carriedByValue) = true := by
    rintro b rfl; simp [carriedByValue]
  refine' (fun (main : (_ : Prop)) => ?rest9) ?prf9
  case rest9 =>
    have hkey : (∃ x t, key = .str x t) ∨ (∃ i t, key = .int i t) ∨ ∃ b, key = .ref b := by
      rcases hk.shape with ⟨y, t, e, _⟩ | ⟨i, t, e, _⟩ | ⟨b, y, t, n, e, _⟩
      · exact .inl ⟨_, _, e⟩
      · exact .inr (.inl ⟨_, _, e⟩)
      · exact .inr (.inr ⟨_, e⟩)
    rcases hkey with ⟨x, t, e⟩ | ⟨i, t, e⟩ | ⟨b, e⟩ <;> rw [e] <;> dsimp only
    · by_cases hs : (es.all fun e => isExactStrKey e.key) = true
      · rw [if_pos hs]; rw [← e]; exact found x t e hs
      · rw [if_neg hs]
        by_cases hc : (((Value.str x t) :: (placesOf w es kd).filterMap (fun i => es[i]?.map (·.key))).all carriedByValue) = true
        · rw [if_pos hc, ← e]; exact plain
        · rw [if_neg hc]
          rw [← e]; exact main
    · by_cases hc : (((Value.int i t) :: (placesOf w es kd).filterMap (fun i => es[i]?.map (·.key))).all carriedByValue) = true
      · rw [if_pos hc, ← e]; exact plain
      · rw [if_neg hc]
        rw [← e]; exact main
    · rw [← e, if_neg (hv b e), if_neg hash]
      exact main
  case prf9 =>
    refine quiet_if hk hst ?_
    (
      simp only [Bool.false_and, Bool.false_eq_true, if_false]
      refine wpAny_bind (wpAny_forIn_list _ (fun rest b s' => s = s' ∧ ∃ hit, b = (none, hit) ∧ ∃ pre, placesOf w es kd = pre ++ rest ∧ ((hit = none ∧ ∀ j ∈ pre, ds[j]? ≠ some kd) ∨ ∃ j, hit = some j ∧ j ∈ pre ∧ ds[j]? = some kd)) _ ?_ ?_ _ _ ⟨rfl, none, rfl, [], rfl, .inl ⟨rfl, fun _ h => nomatch h⟩⟩)
      · (intro z rest b s' hZZ1; refine via fun GG hGG => ?_; obtain ⟨rfl, hit, rfl, pre, hp, hH⟩ := hZZ1; obtain ⟨e, d, h1, h2, h3, h4⟩ := hall z (by rw [hp]; exact List.mem_append.mpr (.inr (.head _))); refine hGG ?_; clear hGG GG)
        rw [h1]
        dsimp only
        rw [if_pos (by simp [h4])]
        refine wpAny_bind (wpAny_dictEpoch ho hd (wpAny_bind ((h3.eq hk hu) prog w _ _ (wpAny_bind (wpAny_dictEpoch ho hd ?_)))))
        show wpAny _ _ (if (ep != ep) = true then _ else _) _ E _
        rw [if_neg (by simp)]
        by_cases q : d = kd
        · rw [decide_eq_true q]
          rw [q] at h2
          rcases hH with ⟨rfl, hpre⟩ | ⟨j, rfl, hj, hdj⟩
          · simp only [Option.isSome_none, Bool.false_eq_true, if_false, if_true]
            refine wpAny_bind (wpAny_rule ?_)
            split
            · exact wpAny_pure (wpAny_pure (hsome z h2))
            · exact wpAny_pure ⟨rfl, some z, rfl, pre ++ [z], by rw [hp]; simp, .inr ⟨z, rfl, by simp, h2⟩⟩
          · exfalso
            have := inj_at hn hdj h2
            subst this
            have nd := places_nodup (w := w) (es := es) (kd := kd)
            rw [hp, List.nodup_append] at nd
            exact nd.2.2 j hj j (.head _) rfl
        · rw [decide_eq_false q]
          simp only [Bool.false_eq_true, if_false]
          refine wpAny_bind (wpAny_rule (wpAny_pure ⟨rfl, hit, rfl, pre ++ [z], by rw [hp]; simp, ?_⟩))
          rcases hH with ⟨rfl, hpre⟩ | ⟨j, rfl, hj, hdj⟩
          · refine .inl ⟨rfl, fun j hj => ?_⟩
            rcases List.mem_append.mp hj with hj | hj
            · exact hpre j hj
            · rw [List.mem_singleton.mp hj, h2]
              exact fun e => q (Option.some.inj e)
          · exact .inr ⟨j, rfl, List.mem_append.mpr (.inl hj), hdj⟩
      · rintro b s' ⟨rfl, hit, rfl, pre, hp, hH⟩
        rw [List.append_nil] at hp
        rcases hH with ⟨rfl, hpre⟩ | ⟨j, rfl, hj, hdj⟩
        · exact wpAny_pure (hnone (hno fun j hj => hpre j (by rw [← hp]; exact hj)))
        · exact wpAny_pure (hsome j hdj))
end
end
section
set_option maxRecDepth 100000
inductive Tab (w : World) (T : List (Addr × Obj)) (o : Obj) (ds : List Dat) (vs : List Value) : Prop
  | mk (es : Array DictEntry) (ep : Nat) : o.ExactDict → o.data = .dict es ep → All₂ (fun (e : DictEntry) d => (KeyD d ∧ DatIn T e.key d) ∧ e.hash = hashD w d) es.toList ds → es.toList.map (·.val) = vs → ds.Nodup → Tab w T o ds vs
theorem Tab.len {w : World} {T : List (Addr × Obj)} {o : Obj} {ds : List Dat} {vs : List Value} (h : Tab w T o ds vs) : vs.length = ds.length := by
  obtain ⟨es, ep, h1, h2, h3, h4, h5⟩ := h
  rw [← h4, List.length_map, h3.length]
section
variable {prog : Program} {w : World} {A : Around} {E : Value → Shared → Prop} {s : Shared} {h₀ : Heap} {L d : Addr} {m : Str → Option Value} {o : Obj} {T NL : List (Addr × Obj)} {ds : List Dat} {vs : List Value} {key : Value} {kd : Dat}
theorem getitem_N {Q : Value → Shared → Prop} {j : Nat} {v : Value} (hu : A.units + 2 < cLine) (N : News h₀ L s.heap NL) (hm : (d, o) ∈ NL) (hT : ∀ p ∈ T, p ∈ NL) (tb : Tab w T o ds vs) (hk : KeyD kd) (hkd : DatIn NL key kd) (hj : ds[j]? = some kd) (hv : vs[j]? = some v)
    (h : ∀ tk, Q v { s with toks := tk }) : wpAny (model prog w) A (getItem (.ref d) key) Q E s := by
  obtain ⟨es, ep, hx, hd, he, hvs, hn⟩ := tb
  have ho := (N _ hm).1
  have hT' : s.TypeIs (.ref d) "dict" := ⟨o, ho, hx.1⟩
  have hasT : Has s.heap T := fun p hp => (N _ (hT p hp)).1
  have he' : EntsAre w s.heap es ds := he.mono fun _ _ x => ⟨⟨x.1.1, T, hasT, x.1.2⟩, x.2⟩
  unfold getItem
  try with_reducible refine wpAny_holding ?_
  refine wpAny_bind (wpAny_sequenceKey hT' (by decide) ?_)
  refine wpAny_bind (wpAny_callSpecial?_slot (name := Str.ofString "__getitem__") hT' slot_dict_getitem
    (wpAny_call_entry slot_dict_getitem hT' entry_dict_getitem ?_ (args_dict_getitem _ _)))
  show wpAny _ _ (dictGet d key >>= _) _ _ s
  refine wpAny_bind ?_
  unfold dictGet
  try with_reducible refine wpAny_holding ?_
  have hu1 : A.in1.units + 1 < cLine := by show A.units + 1 + 1 < cLine; omega
  refine wpAny_bind (KeyAt.hash (d := kd) ⟨hk, NL, has_news N, hkd⟩ (by omega) fun tk => wpAny_bind (find_dat (s := { s with toks := tk }) hu1 ⟨hk, NL, has_news N, hkd⟩ ho hd he' hn (fun q => absurd (List.mem_of_getElem? hj) q) fun i hi => ?_))
  obtain rfl := inj_at hn hi hj
  refine wpAny_bind (wpAny_dictEntries (s := { s with toks := tk }) ho hd ?_)
  obtain ⟨e, h1, h2⟩ := ent_of he' hi
  have : e.val = v := by
    rw [← hvs, List.getElem?_map, Array.getElem?_toList, h1] at hv
    exact Option.some.inj hv
  rw [h1]
  refine wpAny_pure ?_
  refine wpAny_pure ⟨_, rfl, wpAny_pure ?_⟩
  show Q e.val _
  rw [this]; exact h tk
theorem setdef_N {Q : Value → Shared → Prop} {dflt : Value} (hu : A.units + 2 < cLine) (F : Fr h₀ L s.heap m) (N : News h₀ L s.heap NL) (lo : (d == sysModules) = false) (hm : (d, o) ∈ NL) (hT : ∀ p ∈ T, p ∈ NL) (hTd : ∀ p ∈ T, p.1 ≠ d) (tb : Tab w T o ds vs) (hk : KeyD kd) (hkd : DatIn T key kd) (hsz : ds.length ≤ 100)
    (h1 : ∀ (j : Nat) (v : Value) tk, ds[j]? = some kd → vs[j]? = some v → Q v { s with toks := tk })
    (h2 : kd ∉ ds → ∀ h' o' tk, Fr h₀ L h' m → Heap.SameBut d s.heap h' → (∀ n2 : List (Addr × Obj), (∀ p ∈ n2, p = (d, o') ∨ (p ∈ NL ∧ p.1 ≠ d)) → News h₀ L h' n2) → Tab w T o' (ds ++ [kd]) (vs ++ [dflt]) → Q dflt { s with heap := h', toks := tk }) :
    wpAny (model prog w) A (call (.builtin "dict.setdefault") [.ref d, key, dflt]) Q E s := by
  have hlen := tb.len
  obtain ⟨es, ep, hx, hd, he, hvs, hn⟩ := tb
  have ho := (N _ hm).1
  have hT' : s.TypeIs (.ref d) "dict" := ⟨o, ho, hx.1⟩
  have hasT : Has s.heap T := fun p hp => (N _ (hT p hp)).1
  have he' : EntsAre w s.heap es ds := he.mono fun _ _ x => ⟨⟨x.1.1, T, hasT, x.1.2⟩, x.2⟩
  have hes : es.size = ds.length := by rw [← Array.length_toList, he.length]
  refine wpAny_call_entry PySem.F.slot_dict_setdefault hT' PySem.F.entry_dict_setdefault ?_ (PySem.F.args_dict_setdefault_3 _ _ _)
  unfold Builtin.«dict.setdefault»
  refine wpAny_bind ?_
  unfold Builtin.Dict.keyAndDefault
  refine wpAny_bind (wpAny_notOrdered_dict hT' ?_)
  show wpAny _ _ (pure (d, key, some dflt)) _ _ s
  refine wpAny_pure ?_
  show wpAny _ _ (if (d == sysModules) = true then _ else (dictSetDefault d key dflt >>= _)) _ _ s
  rw [if_neg (by rw [lo]; exact Bool.false_ne_true)]
  refine wpAny_bind ?_
  unfold dictSetDefault
  try with_reducible refine wpAny_holding ?_
  have hu1 : A.in1.units + 1 < cLine := by show A.units + 1 + 1 < cLine; omega
  refine wpAny_bind (KeyAt.hash (d := kd) ⟨hk, T, hasT, hkd⟩ (by omega) fun tk => wpAny_bind (find_dat (s := { s with toks := tk }) hu1 ⟨hk, T, hasT, hkd⟩ ho hd he' hn (fun q => ?_) fun i hi => ?_))
  · refine wpAny_bind (wpAny_rule ?_)
    have hlen' : es.size ≤ sizeLine := by rw [sizeLine_eq]; omega
    refine wpAny_bind (wpAny_updateDictKeys (hz := hlen') (s := { s with toks := tk }) ho hd (wpAny_pure (wpAny_pure ⟨_, rfl, ?_⟩)))
    have hs : Heap.SameBut d s.heap (s.heap.update d (Obj.mapDictKeys fun x => x.push ⟨hashD w kd, key, dflt⟩)) := Heap.SameBut.update ..
    have hg : (s.heap.update d (Obj.mapDictKeys fun x => x.push ⟨hashD w kd, key, dflt⟩)).get? d = some (o.mapDictKeys fun x => x.push ⟨hashD w kd, key, dflt⟩) := Heap.get?_update_self _ ho (Obj.isFreed_of_dict (Obj.data_mapDictKeys hd _))
    refine h2 q _ _ tk (F.change hs (N _ hm).2.1 (N _ hm).2.2) hs (fun n2 hsub => news_upd N hs hm hg hsub) ⟨_, ep + 1, hx.mapDictKeys _, Obj.data_mapDictKeys hd _, ?_, ?_, ?_⟩
    · rw [Array.toList_push]
      exact he.snoc ⟨⟨hk, hkd⟩, rfl⟩
    · rw [Array.toList_push, List.map_append, hvs]; rfl
    · rw [List.nodup_append]
      exact ⟨hn, by simp, fun x hx y hy => by rw [List.mem_singleton.mp hy]; exact fun e => q (e ▸ hx)⟩
  · refine wpAny_bind (wpAny_dictEntries (s := { s with toks := tk }) ho hd ?_)
    obtain ⟨e, q1, q2⟩ := ent_of he' hi
    rw [q1]
    refine wpAny_bind (wpAny_rule (wpAny_pure (wpAny_pure ⟨_, rfl, h1 i e.val tk hi ?_⟩)))
    rw [← hvs, List.getElem?_map, Array.getElem?_toList, q1]; rfl
end
end
section
noncomputable abbrev grEnv (L : Addr) : Env := envOf (S "grouped") { kind := .function, names := [(S "rows", .local), (S "found", .local), (S "path", .local), (S "way", .local), (S "old", .local), (S "new", .local), (S "need", .globalImplicit), (S "len", .globalImplicit)], isGenerator := false, isCoroutine := false } L 317 (.ref 316)
structure Grp where
  kd : Dat
  g : Nat
  xs : List Value
  n : Nat
  es : List Dat
noncomputable abbrev grpLed (gs : List Grp) : List (Addr × Obj) := gs.map fun x => (x.g, listOf x.xs.toArray x.n)
inductive RowG (NL : List (Addr × Obj)) (v : Value) (r : Dat × Dat) : Prop
  | mk (a pp : Addr) (kv at' way old new : Value) (ad wd od nd : Dat) (n1 n2 : Nat) : v = .ref a → (a, tupOf [.ref pp, way, old, new].toArray n1) ∈ NL → (pp, tupOf [kv, at'].toArray n2) ∈ NL → KeyD r.1 → DatIn NL kv r.1 → DatIn NL at' ad → DatIn NL way wd → DatIn NL old od → DatIn NL new nd → r.2 = .tuple [.tuple [ad], wd, od, nd] → RowG NL v r
open Classical in
noncomputable def addG (l : List (Dat × List Dat)) (r : Dat × Dat) : List (Dat × List Dat) :=
  if r.1 ∈ l.map (·.1) then l.map (fun x => if x.1 = r.1 then (x.1, x.2 ++ [r.2]) else x) else l ++ [(r.1, [r.2])]
section
variable {prog : Program} {w : World} {A : Around} {E : Value → Shared → Prop} {s : Shared} {h₀ : Heap} {L g : Addr} {m : Str → Option Value} {nw : List (Addr × Obj)} {xs : List Value} {n : Nat} {x : Value} {Q : Value → Shared → Prop}
theorem append_N (F : Fr h₀ L s.heap m) (N : News h₀ L s.heap nw) (hm : (g, listOf xs.toArray n) ∈ nw) (hl : xs.length ≤ 100)
    (h : ∀ h' n', Fr h₀ L h' m → (∀ n2 : List (Addr × Obj), (∀ p ∈ n2, p = (g, listOf (xs ++ [x]).toArray n') ∨ (p ∈ nw ∧ p.1 ≠ g)) → News h₀ L h' n2) → Q .none { s with heap := h' }) :
    wpAny (model prog w) A (call (.builtin "list.append") [.ref g, x]) Q E s := by
  refine wpAny_list_append_plain (items := xs.toArray) (hsz := by rw [sizeLine_eq, List.size_toArray]; omega) ⟨n, (N _ hm).1⟩ fun h' hp hs => ?_
  obtain ⟨n', hp⟩ := hp
  refine h h' n' (F.change hs (N _ hm).2.1 (N _ hm).2.2) fun n2 hsub => news_upd N hs hm (o' := listOf (xs ++ [x]).toArray n') ?_ hsub
  rw [hp]; simp
end
theorem tab_dict {w : World} {T : List (Addr × Obj)} {o : Obj} {ds : List Dat} {us : List Value} (h : Tab w T o ds us) : o.cls = .type "dict" := by
  obtain ⟨_, _, h, _⟩ := h; exact h.1
theorem tab_nodict {w : World} {T : List (Addr × Obj)} {o : Obj} {ds : List Dat} {us : List Value} (h : Tab w T o ds us) : o.dict = none := by
  obtain ⟨_, _, h, _⟩ := h; exact h.2.1
section
set_option maxRecDepth 100000 in
set_option maxHeartbeats 2000000 in
theorem group_turn {w : World} {p : Program} {loose : List Str} {mean : ExcName → Option Value} {mg mb : Str → Option Value} {dp u : Nat} {gd : Option (List Code)} {A₀ : Around} {base h₀ : Heap} {outer : List Env} {L d a pp : Addr} {m : Str → Option Value} {s : Shared} {Q : Flow → Shared → Prop} {E : Value → Shared → Prop} {NL nw : List (Addr × Obj)}
    {o : Obj} {kv at' way old new : Value} {ad wd od nd kd : Dat} {n1 n2 : Nat} {ds : List Dat} {us : List Value} {p1 p2 p3 p4 p5 p6 p7 p8 p9 q1 q2 q3 q4 q5 q6 q7 q8 q9 q10 q11 q12 q13 q14 q15 q16 q17 r1 r2 r3 r4 r5 r6 : Pos} {k1 k2 k3 k4 k5 k6 : Nat} {e1 : Expr}
    (B : Below A₀ base outer h₀) (F : Fr h₀ L s.heap m) (X : (hd.heap_39 w.params).In h₀) (Tp : Top p loose mean mg mb h₀) (hd : dp + 10 < recursionLimit) (hu : u + 100 < cLine)
    (N : News h₀ L s.heap nw) (m1 : (a, tupOf [.ref pp, way, old, new].toArray n1) ∈ nw) (m2 : (pp, tupOf [kv, at'].toArray n2) ∈ nw) (md : (d, o) ∈ nw) (hfm : m (S "found") = some (.ref d)) (lo : (d == sysModules) = false)
    (hT : ∀ p ∈ NL, p ∈ nw) (hTd : ∀ p ∈ NL, p.1 ≠ d) (tb : Tab w NL o ds us) (hk : KeyD kd) (hkd : DatIn NL kv kd) (hus : ∀ (j : Nat) (v : Value), us[j]? = some v → ∃ g xs n, v = .ref g ∧ (g, listOf (List.toArray xs) n) ∈ nw ∧ xs.length ≤ 100) (hsz : ds.length ≤ 100) (hl1 : (q7.endLine == q12.line) = true) (hl2 : (q13.endLine == r5.line) = true)
    (hA : ∀ (j : Nat) (g D1 D2 : Addr) xs n n' h' tk' m' (o1 o2 : Obj), ds[j]? = some kd → us[j]? = some (.ref g) → (g, listOf (List.toArray xs) n) ∈ nw → Agr [S "path", S "way", S "old", S "new"] m' m → Fr h₀ L h' m' → (∀ p ∈ nw, @LT.lt Nat _ p.1 D1 ∧ @LT.lt Nat _ p.1 D2) → o1 = tupOf [at'].toArray 0 → o2 = tupOf [.ref D1, way, old, new].toArray 0 →
      (∀ n2 : List (Addr × Obj), (∀ p ∈ n2, p = (g, listOf (xs ++ [Value.ref D2]).toArray n') ∨ p = (D1, o1) ∨ p = (D2, o2) ∨ (p ∈ nw ∧ p.1 ≠ g)) → News h₀ L h' n2) → Q .next { s with heap := h', toks := tk' })
    (hB : ∀ (l D1 D2 : Addr) n' h' tk' m' (o' o1 o2 : Obj), kd ∉ ds → Tab w NL o' (ds ++ [kd]) (us ++ [.ref l]) → Agr [S "path", S "way", S "old", S "new"] m' m → Fr h₀ L h' m' → (∀ p ∈ nw, @LT.lt Nat _ p.1 l ∧ @LT.lt Nat _ p.1 D1 ∧ @LT.lt Nat _ p.1 D2) → @LT.lt Nat _ l D1 → @LT.lt Nat _ l D2 → o1 = tupOf [at'].toArray 0 → o2 = tupOf [.ref D1, way, old, new].toArray 0 →
      (∀ n2 : List (Addr × Obj), (∀ p ∈ n2, p = (d, o') ∨ p = (l, listOf [Value.ref D2].toArray n') ∨ p = (D1, o1) ∨ p = (D2, o2) ∨ (p ∈ nw ∧ p.1 ≠ d)) → News h₀ L h' n2) → Q .next { s with heap := h', toks := tk' }) :
    wpAny (model PySem.Challenge.rw_og0176_01.row.prog w) (arnd dp u gd (grEnv L) outer) (assign (.Tuple [.Name (S "path") p1, .Name (S "way") p2, .Name (S "old") p3, .Name (S "new") p4] 0 p5) (grEnv L) (.ref a))
      (fun _ s₂ => wpAny (model PySem.Challenge.rw_og0176_01.row.prog w) (arnd dp u gd (grEnv L) outer) (execs
        [.Expr (.Call (.Name (S "need") p6) [.Compare (.Call (.Name (Str.ofString "len") p7) [.Name (S "path") p8] [] p9) [.Gt] [.Constant (.int 0) 0 q1] q2, .Constant (.str (S "a difference of the whole beside others")) 0 q3] [] q4) q5,
         .Expr (.Call (.Attribute (.Call (.Attribute (.Name (S "found") q6) (S "setdefault") q7) [.Subscript (.Name (S "path") q8) (.Constant (.int 0) 0 q9) q10, .List [] q11] [] q12) (S "append") q13)
           [.Tuple [.Subscript (.Name (S "path") q14) (.Slice (some (.Constant (.int 1) 0 q15)) none none q16) q17, .Name (S "way") r1, .Name (S "old") r2, .Name (S "new") r3] 0 r4] [] r5) r6] (grEnv L)) Q E s₂) E s := by
  repeat' (first | (k_unfold; (try dsimp only)) | (k_end; wrow_close) | ((fail_if_success (fail_if_success (with_reducible show wpAny _ _ (call (Value.ref _) _) _ _ _))); (k_here; k_dflt ((refine' spec_use (need_okB ?hb9z) ?B9z ?F9z ?X9z ?T9z rfl rfl ?hd9z ?hu9z ?N9z ?_; (case hb9z => (first | assumption | rfl | decide)); (case B9z => k_asm); (case F9z => k_asm); (case X9z => k_asm); (case T9z => k_asm); (case hd9z => k_room); (case hu9z => k_units); (case N9z => k_asm)); (intro r1z h1z tk1z NL1z F1z N1z x1z P1z; obtain ⟨e1z, e2z⟩ := P1z; subst e2z; rw [e1z] at N1z; clear x1z e1z; (try k_sweep)))); try dsimp only) | ((fail_if_success (fail_if_success (with_reducible show wpAny _ _ (eval (PySem.Expr.Name _ _) _) _ _ _))); (k_here; k_dflt (refine' nameX_L ?F9z ?v9z ?_ ?a9z ?b9z ?c9z; (case F9z => k_asm); (case v9z => with_unfolding_all assumption); (case a9z => exact rfl); (case b9z => exact rfl); (case c9z => decide))); try dsimp only) | (walk1; try dsimp only) | (dsimp only; walk1; try dsimp only))
  refine wpAny_Call_method1_late rfl hl2 rfl (wpAny_Call_method2_late rfl hl1 rfl ?_)
  repeat' (first | (k_unfold; (try dsimp only)) | (k_end; wrow_close) | ((fail_if_success (fail_if_success (with_reducible show wpAny _ _ (call (Value.ref _) _) _ _ _))); (k_here; k_dflt ((refine' spec_use (need_okB ?hb9z) ?B9z ?F9z ?X9z ?T9z rfl rfl ?hd9z ?hu9z ?N9z ?_; (case hb9z => (first | assumption | rfl | decide)); (case B9z => k_asm); (case F9z => k_asm); (case X9z => k_asm); (case T9z => k_asm); (case hd9z => k_room); (case hu9z => k_units); (case N9z => k_asm)); (intro r1z h1z tk1z NL1z F1z N1z x1z P1z; obtain ⟨e1z, e2z⟩ := P1z; subst e2z; rw [e1z] at N1z; clear x1z e1z; (try k_sweep)))); try dsimp only) | ((fail_if_success (fail_if_success (with_reducible show wpAny _ _ (eval (PySem.Expr.Name _ _) _) _ _ _))); (k_here; k_dflt (refine' nameX_L ?F9z ?v9z ?_ ?a9z ?b9z ?c9z; (case F9z => k_asm); (case v9z => with_unfolding_all assumption); (case a9z => exact rfl); (case b9z => exact rfl); (case c9z => decide))); try dsimp only) | (walk1; try dsimp only) | (dsimp only; walk1; try dsimp only))
  refine ⟨"dict", "dict.setdefault", PySem.F.plainAttrs_dict, PySem.F.slot_dict_setdefault, PySem.F.type_dict_setdefault, ?_, ?_, ?_⟩
  · rename News h₀ L _ nw => N5
    exact ⟨o, (N5 _ md).1, tab_dict tb⟩
  · rintro b e
    cases e
    rename News h₀ L _ nw => N5
    exact ⟨o, (N5 _ md).1, tab_nodict tb⟩
  refine Calls.callWith_builtin rfl (Calls.evalArgs_plain (Calls.spliced_cons ?_))
  repeat' (first | (k_unfold; (try dsimp only)) | (k_end; wrow_close) | ((fail_if_success (fail_if_success (with_reducible show wpAny _ _ (call (Value.ref _) _) _ _ _))); (k_here; k_dflt ((refine' spec_use (need_okB ?hb9z) ?B9z ?F9z ?X9z ?T9z rfl rfl ?hd9z ?hu9z ?N9z ?_; (case hb9z => (first | assumption | rfl | decide)); (case B9z => k_asm); (case F9z => k_asm); (case X9z => k_asm); (case T9z => k_asm); (case hd9z => k_room); (case hu9z => k_units); (case N9z => k_asm)); (intro r1z h1z tk1z NL1z F1z N1z x1z P1z; obtain ⟨e1z, e2z⟩ := P1z; subst e2z; rw [e1z] at N1z; clear x1z e1z; (try k_sweep)))); try dsimp only) | ((fail_if_success (fail_if_success (with_reducible show wpAny _ _ (eval (PySem.Expr.Name _ _) _) _ _ _))); (k_here; k_dflt (refine' nameX_L ?F9z ?v9z ?_ ?a9z ?b9z ?c9z; (case F9z => k_asm); (case v9z => with_unfolding_all assumption); (case a9z => exact rfl); (case b9z => exact rfl); (case c9z => decide))); try dsimp only) | (walk1; try dsimp only) | (dsimp only; walk1; try dsimp only))
  refine Calls.spliced_cons ?_
  repeat' (first | (k_unfold; (try dsimp only)) | (k_end; wrow_close) | ((fail_if_success (fail_if_success (with_reducible show wpAny _ _ (call (Value.ref _) _) _ _ _))); (k_here; k_dflt ((refine' spec_use (need_okB ?hb9z) ?B9z ?F9z ?X9z ?T9z rfl rfl ?hd9z ?hu9z ?N9z ?_; (case hb9z => (first | assumption | rfl | decide)); (case B9z => k_asm); (case F9z => k_asm); (case X9z => k_asm); (case T9z => k_asm); (case hd9z => k_room); (case hu9z => k_units); (case N9z => k_asm)); (intro r1z h1z tk1z NL1z F1z N1z x1z P1z; obtain ⟨e1z, e2z⟩ := P1z; subst e2z; rw [e1z] at N1z; clear x1z e1z; (try k_sweep)))); try dsimp only) | ((fail_if_success (fail_if_success (with_reducible show wpAny _ _ (eval (PySem.Expr.Name _ _) _) _ _ _))); (k_here; k_dflt (refine' nameX_L ?F9z ?v9z ?_ ?a9z ?b9z ?c9z; (case F9z => k_asm); (case v9z => with_unfolding_all assumption); (case a9z => exact rfl); (case b9z => exact rfl); (case c9z => decide))); try dsimp only) | (walk1; try dsimp only) | (dsimp only; walk1; try dsimp only))
  refine Calls.spliced_nil ?_
  rename ∀ p ∈ nw, p.fst < _ => l6
  rename Fr h₀ L _ _ => F5
  rename News h₀ L _ (_ :: nw) => N5
  refine' setdef_N (o := o) (T := NL) ?hu F5 N5 lo ?hm ?hT hTd tb hk hkd hsz ?_ ?_
  case hu => ke_room
  case hm => exact .tail _ md
  case hT => exact fun p hp => .tail _ (hT p hp)
  · intro j v tk7 hj hv
    obtain ⟨g, xs, n, rfl, mg', lx⟩ := hus j v hv
    refine ⟨"list", "list.append", PySem.F.plainAttrs_list, PySem.F.slot_list_append, PySem.F.type_list_append, ?_, ?_, ?_⟩
    · exact ⟨_, (N5 _ (.tail _ mg')).1, rfl⟩
    · rintro b e
      cases e
      exact ⟨_, (N5 _ (.tail _ mg')).1, rfl⟩
    refine Calls.callWith_builtin rfl (Calls.evalArgs_plain (Calls.spliced_cons ?_))
    repeat' (first | (k_unfold; (try dsimp only)) | (k_end; wrow_close) | ((fail_if_success (fail_if_success (with_reducible show wpAny _ _ (call (Value.ref _) _) _ _ _))); (k_here; k_dflt ((refine' spec_use (need_okB ?hb9z) ?B9z ?F9z ?X9z ?T9z rfl rfl ?hd9z ?hu9z ?N9z ?_; (case hb9z => (first | assumption | rfl | decide)); (case B9z => k_asm); (case F9z => k_asm); (case X9z => k_asm); (case T9z => k_asm); (case hd9z => k_room); (case hu9z => k_units); (case N9z => k_asm)); (intro r1z h1z tk1z NL1z F1z N1z x1z P1z; obtain ⟨e1z, e2z⟩ := P1z; subst e2z; rw [e1z] at N1z; clear x1z e1z; (try k_sweep)))); try dsimp only) | ((fail_if_success (fail_if_success (with_reducible show wpAny _ _ (eval (PySem.Expr.Name _ _) _) _ _ _))); (k_here; k_dflt (refine' nameX_L ?F9z ?v9z ?_ ?a9z ?b9z ?c9z; (case F9z => k_asm); (case v9z => with_unfolding_all assumption); (case a9z => exact rfl); (case b9z => exact rfl); (case c9z => decide))); try dsimp only) | (walk1; try dsimp only) | (dsimp only; walk1; try dsimp only))
    refine Calls.spliced_nil ?_
    rename Fr h₀ L _ _ => F6
    rename News h₀ L _ (_ :: _ :: _ :: nw) => N6
    refine' append_N F6 N6 (.tail _ (.tail _ (.tail _ mg'))) lx ?_
    intro h9 n9 F9 N9
    dsimp only
    repeat' (first | (k_unfold; (try dsimp only)) | (k_end; wrow_close) | ((fail_if_success (fail_if_success (with_reducible show wpAny _ _ (call (Value.ref _) _) _ _ _))); (k_here; k_dflt ((refine' spec_use (need_okB ?hb9z) ?B9z ?F9z ?X9z ?T9z rfl rfl ?hd9z ?hu9z ?N9z ?_; (case hb9z => (first | assumption | rfl | decide)); (case B9z => k_asm); (case F9z => k_asm); (case X9z => k_asm); (case T9z => k_asm); (case hd9z => k_room); (case hu9z => k_units); (case N9z => k_asm)); (intro r1z h1z tk1z NL1z F1z N1z x1z P1z; obtain ⟨e1z, e2z⟩ := P1z; subst e2z; rw [e1z] at N1z; clear x1z e1z; (try k_sweep)))); try dsimp only) | ((fail_if_success (fail_if_success (with_reducible show wpAny _ _ (eval (PySem.Expr.Name _ _) _) _ _ _))); (k_here; k_dflt (refine' nameX_L ?F9z ?v9z ?_ ?a9z ?b9z ?c9z; (case F9z => k_asm); (case v9z => with_unfolding_all assumption); (case a9z => exact rfl); (case b9z => exact rfl); (case c9z => decide))); try dsimp only) | (walk1; try dsimp only) | (dsimp only; walk1; try dsimp only))
    rename _ ∧ _ ∧ AllLt _ nw => lt2
    rename _ ∧ AllLt _ nw => lt1
    have hg1 := ktn_ltOf lt1.2 _ mg'
    have hg2 := ktn_ltOf lt2.2.2 _ mg'
    refine hA j g _ _ xs n n9 h9 _ _ _ _ hj hv mg' ((((Agr.rfl.set (by decide)).set (by decide)).set (by decide)).set (by decide)) F9 (fun p hp => ⟨ktn_ltOf lt1.2 p hp, ktn_ltOf lt2.2.2 p hp⟩) rfl rfl fun n2 hs => N9 n2 fun p hp => ?_
    rcases hs p hp with e | e | e | ⟨e1, e2⟩
    · exact .inl e
    · rw [e]; exact .inr ⟨.tail _ (.head _), Ne.symm (Nat.ne_of_lt hg1)⟩
    · rw [e]; exact .inr ⟨.head _, Ne.symm (Nat.ne_of_lt hg2)⟩
    · exact .inr ⟨.tail _ (.tail _ (.tail _ e1)), e2⟩
  · intro hn h7 o7 tk7 F7 hs7 N7 tb7
    have hdl := l6 _ md
    have hpd : pp ≠ d := fun e => by
      have q1 := (N5 _ (.tail _ m2)).1
      have q2 := (N5 _ (.tail _ md)).1
      dsimp only at q1 q2
      rw [e, q2] at q1
      have q3 := tab_dict tb
      rw [Option.some.inj q1] at q3
      injection q3 with q4
      exact absurd q4 (by decide)
    have m2f : (pp, tupOf [kv, at'].toArray n2) ∈ nw.filter (fun p => p.1 != d) := List.mem_filter.mpr ⟨m2, by simpa using hpd⟩
    have N8 := N7 ((d, o7) :: (_, listOf #[] 0) :: nw.filter (fun p => p.1 != d)) (fun p hp => by
      rcases List.mem_cons.mp hp with rfl | hp
      · exact .inl rfl
      · rcases List.mem_cons.mp hp with rfl | hp
        · exact .inr ⟨.head _, Ne.symm (Nat.ne_of_lt hdl)⟩
        · obtain ⟨h1, h2⟩ := List.mem_filter.mp hp
          exact .inr ⟨.tail _ h1, by simpa using h2⟩)
    clear N5 F5
    dsimp only at F7 hs7 N8 ⊢
    refine ⟨"list", "list.append", PySem.F.plainAttrs_list, PySem.F.slot_list_append, PySem.F.type_list_append, ?_, ?_, ?_⟩
    · exact ⟨_, (N8 _ (.tail _ (.head _))).1, rfl⟩
    · rintro b e
      cases e
      exact ⟨_, (N8 _ (.tail _ (.head _))).1, rfl⟩
    refine Calls.callWith_builtin rfl (Calls.evalArgs_plain (Calls.spliced_cons ?_))
    repeat' (first | (k_unfold; (try dsimp only)) | (k_end; wrow_close) | ((fail_if_success (fail_if_success (with_reducible show wpAny _ _ (call (Value.ref _) _) _ _ _))); (k_here; k_dflt ((refine' spec_use (need_okB ?hb9z) ?B9z ?F9z ?X9z ?T9z rfl rfl ?hd9z ?hu9z ?N9z ?_; (case hb9z => (first | assumption | rfl | decide)); (case B9z => k_asm); (case F9z => k_asm); (case X9z => k_asm); (case T9z => k_asm); (case hd9z => k_room); (case hu9z => k_units); (case N9z => k_asm)); (intro r1z h1z tk1z NL1z F1z N1z x1z P1z; obtain ⟨e1z, e2z⟩ := P1z; subst e2z; rw [e1z] at N1z; clear x1z e1z; (try k_sweep)))); try dsimp only) | ((fail_if_success (fail_if_success (with_reducible show wpAny _ _ (eval (PySem.Expr.Name _ _) _) _ _ _))); (k_here; k_dflt (refine' nameX_L ?F9z ?v9z ?_ ?a9z ?b9z ?c9z; (case F9z => k_asm); (case v9z => with_unfolding_all assumption); (case a9z => exact rfl); (case b9z => exact rfl); (case c9z => decide))); try dsimp only) | (walk1; try dsimp only) | (dsimp only; walk1; try dsimp only))
    refine Calls.spliced_nil ?_
    rename Fr h₀ L _ _ => F6
    rename News h₀ L _ (_ :: _ :: _ :: _ :: _) => N6
    refine' append_N (xs := []) F6 N6 (.tail _ (.tail _ (.tail _ (.head _)))) (Nat.zero_le _) ?_
    intro h9 n9 F9 N9
    dsimp only
    repeat' (first | (k_unfold; (try dsimp only)) | (k_end; wrow_close) | ((fail_if_success (fail_if_success (with_reducible show wpAny _ _ (call (Value.ref _) _) _ _ _))); (k_here; k_dflt ((refine' spec_use (need_okB ?hb9z) ?B9z ?F9z ?X9z ?T9z rfl rfl ?hd9z ?hu9z ?N9z ?_; (case hb9z => (first | assumption | rfl | decide)); (case B9z => k_asm); (case F9z => k_asm); (case X9z => k_asm); (case T9z => k_asm); (case hd9z => k_room); (case hu9z => k_units); (case N9z => k_asm)); (intro r1z h1z tk1z NL1z F1z N1z x1z P1z; obtain ⟨e1z, e2z⟩ := P1z; subst e2z; rw [e1z] at N1z; clear x1z e1z; (try k_sweep)))); try dsimp only) | ((fail_if_success (fail_if_success (with_reducible show wpAny _ _ (eval (PySem.Expr.Name _ _) _) _ _ _))); (k_here; k_dflt (refine' nameX_L ?F9z ?v9z ?_ ?a9z ?b9z ?c9z; (case F9z => k_asm); (case v9z => with_unfolding_all assumption); (case a9z => exact rfl); (case b9z => exact rfl); (case c9z => decide))); try dsimp only) | (walk1; try dsimp only) | (dsimp only; walk1; try dsimp only))
    rename _ ∧ _ ∧ _ ∧ AllLt _ _ => lt2
    rename _ ∧ _ ∧ AllLt _ _ => lt1
    have f1 := lt1.2.1
    have f2 := lt2.2.2.1
    refine hB _ _ _ n9 h9 _ _ o7 _ _ hn tb7 ((((Agr.rfl.set (by decide)).set (by decide)).set (by decide)).set (by decide)) F9 (fun p hp => ⟨l6 p hp, Nat.lt_trans (l6 p hp) f1, Nat.lt_trans (l6 p hp) f2⟩) f1 f2 rfl rfl fun n2 hs => N9 n2 fun p hp => ?_
    rcases hs p hp with e | e | e | e | ⟨e1, e2⟩
    · rw [e]; exact .inr ⟨.tail _ (.tail _ (.head _)), Nat.ne_of_lt hdl⟩
    · exact .inl e
    · rw [e]; exact .inr ⟨.tail _ (.head _), Ne.symm (Nat.ne_of_lt f1)⟩
    · rw [e]; exact .inr ⟨.head _, Ne.symm (Nat.ne_of_lt f2)⟩
    · exact .inr ⟨.tail _ (.tail _ (.tail _ (.tail _ (List.mem_filter.mpr ⟨e1, by simpa using e2⟩)))), Nat.ne_of_lt (l6 p e1)⟩
end
end
section
section
set_option maxRecDepth 100000 in
set_option maxHeartbeats 2000000 in
theorem group_bad {w : World} {p : Program} {loose : List Str} {mean : ExcName → Option Value} {mg mb : Str → Option Value} {dp u : Nat} {gd : Option (List Code)} {A₀ : Around} {base h₀ : Heap} {outer : List Env} {L a pp : Addr} {m : Str → Option Value} {s : Shared} {Q : Flow → Shared → Prop} {E : Value → Shared → Prop} {nw : List (Addr × Obj)}
    {way old new : Value} {n1 n2 : Nat} {p1 p2 p3 p4 p5 p6 p7 p8 p9 q1 q2 q3 q4 q5 : Pos} {rest : List Stmt}
    (B : Below A₀ base outer h₀) (F : Fr h₀ L s.heap m) (X : (hd.heap_39 w.params).In h₀) (Tp : Top p loose mean mg mb h₀) (hd : dp + 10 < recursionLimit) (hu : u + 100 < cLine)
    (N : News h₀ L s.heap nw) (m1 : (a, tupOf [.ref pp, way, old, new].toArray n1) ∈ nw) (m2 : (pp, tupOf ([] : List Value).toArray n2) ∈ nw)
    (h : ∀ e h' tk' m', RaisedX base h₀ (grEnv L) outer L m' nw e h' → E (.ref e) { s with heap := h', toks := tk' }) :
    wpAny (model PySem.Challenge.rw_og0176_01.row.prog w) (arnd dp u gd (grEnv L) outer) (assign (.Tuple [.Name (S "path") p1, .Name (S "way") p2, .Name (S "old") p3, .Name (S "new") p4] 0 p5) (grEnv L) (.ref a))
      (fun _ s₂ => wpAny (model PySem.Challenge.rw_og0176_01.row.prog w) (arnd dp u gd (grEnv L) outer) (execs
        (.Expr (.Call (.Name (S "need") p6) [.Compare (.Call (.Name (Str.ofString "len") p7) [.Name (S "path") p8] [] p9) [.Gt] [.Constant (.int 0) 0 q1] q2, .Constant (.str (S "a difference of the whole beside others")) 0 q3] [] q4) q5 :: rest) (grEnv L)) Q E s₂) E s := by
  repeat' (first | (k_unfold; (try dsimp only)) | (k_end; wrow_close) | ((fail_if_success (fail_if_success (with_reducible show wpAny _ _ (call (Value.ref _) _) _ _ _))); (k_here; k_dflt ((refine' specE_use (need_noB ?hb9z) ?B9z ?F9z ?X9z ?T9z rfl rfl ?hd9z ?hu9z ?N9z ?_; (case hb9z => (first | assumption | rfl | decide)); (case B9z => k_asm); (case F9z => k_asm); (case X9z => k_asm); (case T9z => k_asm); (case hd9z => k_room); (case hu9z => k_units); (case N9z => k_asm)); intro e1 h1 tk1 R1)); try dsimp only) | ((fail_if_success (fail_if_success (with_reducible show wpAny _ _ (eval (PySem.Expr.Name _ _) _) _ _ _))); (k_here; k_dflt (refine' nameX_L ?F9z ?v9z ?_ ?a9z ?b9z ?c9z; (case F9z => k_asm); (case v9z => with_unfolding_all assumption); (case a9z => exact rfl); (case b9z => exact rfl); (case c9z => decide))); try dsimp only) | (walk1; try dsimp only) | (dsimp only; walk1; try dsimp only))
  exact h _ _ _ _ R1
end
inductive RowB (NL : List (Addr × Obj)) (v : Value) : Prop
  | mk (a pp : Addr) (way old new : Value) (n1 n2 : Nat) : v = .ref a → (a, tupOf [.ref pp, way, old, new].toArray n1) ∈ NL → (pp, tupOf ([] : List Value).toArray n2) ∈ NL → RowB NL v
noncomputable def RowO (NL : List (Addr × Obj)) (v : Value) : Option (Dat × Dat) → Prop
  | some r => RowG NL v r
  | none => RowB NL v

end
section
theorem nodup_inj {α β : Type} {f : α → β} : ∀ {l : List α} {x y : α}, (l.map f).Nodup → x ∈ l → y ∈ l → f x = f y → x = y
  | z :: l, x, y, hn, hx, hy, e => by
    rw [List.map_cons, List.nodup_cons] at hn
    rcases List.mem_cons.mp hx with ex | hx'
    · rcases List.mem_cons.mp hy with ey | hy'
      · rw [ex, ey]
      · exact (hn.1 (List.mem_map.mpr ⟨y, hy', by rw [← ex]; exact e.symm⟩)).elim
    · rcases List.mem_cons.mp hy with ey | hy'
      · exact (hn.1 (List.mem_map.mpr ⟨x, hx', by rw [← ey]; exact e⟩)).elim
      · exact nodup_inj hn.2 hx' hy' e
noncomputable def grp (rs : List (Dat × Dat)) : List (Dat × List Dat) := rs.foldl addG []
theorem grp_snoc (rs : List (Dat × Dat)) (r : Dat × Dat) : grp (rs ++ [r]) = addG (grp rs) r := by unfold grp; rw [List.foldl_append]; rfl
open Classical in
structure GrSt (w : World) (d I : Addr) (NL : List (Addr × Obj)) (rs : List (Dat × Dat)) (o : Obj) (gs : List Grp) (tl : List (Addr × Obj)) : Prop where
  tab : Tab w NL o (gs.map (·.kd)) (gs.map fun x => .ref x.g)
  dat : ∀ x ∈ gs, DatAll (tl ++ NL) x.xs x.es ∧ x.xs.length ≤ rs.length
  grps : (gs.map fun x => (x.kd, x.es)) = grp rs
  nod : (gs.map (·.g)).Nodup
  gabove : ∀ x ∈ gs, @LT.lt Nat _ d x.g ∧ @LT.lt Nat _ I x.g ∧ ∀ q ∈ NL, @LT.lt Nat _ q.1 x.g
  tabove : ∀ p ∈ tl, @LT.lt Nat _ d p.1 ∧ @LT.lt Nat _ I p.1 ∧ ∀ q ∈ NL, @LT.lt Nat _ q.1 p.1
  off : ∀ x ∈ gs, ∀ p ∈ tl, p.1 ≠ x.g
  len : gs.length ≤ rs.length
noncomputable abbrev grLed (d : Addr) (o : Obj) (gs : List Grp) (tl NL : List (Addr × Obj)) : List (Addr × Obj) := (d, o) :: (grpLed gs ++ (tl ++ NL))
section
variable {w : World} {d I : Addr} {NL : List (Addr × Obj)} {rs : List (Dat × Dat)} {o : Obj} {gs : List Grp} {tl : List (Addr × Obj)} {r : Dat × Dat} {at' way old new : Value} {ad wd od nd : Dat} {D1 D2 : Nat}
theorem row_dat (h1 : DatIn NL at' ad) (h2 : DatIn NL way wd) (h3 : DatIn NL old od) (h4 : DatIn NL new nd) : DatIn ((D2, tupOf [.ref D1, way, old, new].toArray 0) :: (D1, tupOf [at'].toArray 0) :: (tl ++ NL)) (.ref D2) (.tuple [.tuple [ad], wd, od, nd]) := by
  have hs : ∀ p ∈ NL, p ∈ (D2, tupOf [.ref D1, way, old, new].toArray 0) :: (D1, tupOf [at'].toArray 0) :: (tl ++ NL) := fun p hp => .tail _ (.tail _ (List.mem_append.mpr (.inr hp)))
  exact .tuple (.head _) (.cons (.tuple (.tail _ (.head _)) (.cons (h1.mono hs) .nil)) (.cons (h2.mono hs) (.cons (h3.mono hs) (.cons (h4.mono hs) .nil))))
open Classical in
noncomputable def putG (gs : List Grp) (kd : Dat) (v : Value) (n' : Nat) (rd : Dat) : List Grp := gs.map fun y => if y.kd = kd then { y with xs := y.xs ++ [v], n := n', es := y.es ++ [rd] } else y
theorem putG_g (kd : Dat) (v : Value) (n' : Nat) (rd : Dat) : (putG gs kd v n' rd).map (·.g) = gs.map (·.g) := by
  unfold putG; rw [List.map_map]; refine List.map_congr_left fun y _ => ?_; dsimp only [Function.comp]; split <;> rfl
theorem putG_r (kd : Dat) (v : Value) (n' : Nat) (rd : Dat) : ((putG gs kd v n' rd).map fun x => Value.ref x.g) = gs.map fun x => Value.ref x.g := by
  unfold putG; rw [List.map_map]; refine List.map_congr_left fun y _ => ?_; dsimp only [Function.comp]; split <;> rfl
theorem putG_k (kd : Dat) (v : Value) (n' : Nat) (rd : Dat) : (putG gs kd v n' rd).map (·.kd) = gs.map (·.kd) := by
  unfold putG; rw [List.map_map]; refine List.map_congr_left fun y _ => ?_; dsimp only [Function.comp]; split <;> rfl
theorem grst_old (S : GrSt w d I NL rs o gs tl) {x : Grp} (hx : x ∈ gs) (hk : x.kd = r.1) (n' : Nat) (h1 : DatIn NL at' ad) (h2 : DatIn NL way wd) (h3 : DatIn NL old od) (h4 : DatIn NL new nd) (hr : r.2 = .tuple [.tuple [ad], wd, od, nd])
    (hD : @LT.lt Nat _ d D1 ∧ @LT.lt Nat _ I D1 ∧ (∀ q ∈ NL, @LT.lt Nat _ q.1 D1) ∧ ∀ x ∈ gs, @LT.lt Nat _ x.g D1) (hD' : @LT.lt Nat _ d D2 ∧ @LT.lt Nat _ I D2 ∧ (∀ q ∈ NL, @LT.lt Nat _ q.1 D2) ∧ ∀ x ∈ gs, @LT.lt Nat _ x.g D2) :
    GrSt w d I NL (rs ++ [r]) o (putG gs r.1 (.ref D2) n' r.2) ((D2, tupOf [.ref D1, way, old, new].toArray 0) :: (D1, tupOf [at'].toArray 0) :: tl) := by
  have hrow := row_dat (D1 := D1) (D2 := D2) (tl := tl) h1 h2 h3 h4
  rw [← hr] at hrow
  have hmem : ∀ y ∈ putG gs r.1 (.ref D2) n' r.2, ∃ z ∈ gs, y.g = z.g ∧ ((z.kd = r.1 ∧ y.xs = z.xs ++ [.ref D2] ∧ y.es = z.es ++ [r.2]) ∨ y = z) := fun y hy => by
    obtain ⟨z, hz, e⟩ := List.mem_map.mp hy
    refine ⟨z, hz, ?_⟩
    split at e
    · subst e; exact ⟨rfl, .inl ⟨by assumption, rfl, rfl⟩⟩
    · subst e; exact ⟨rfl, .inr rfl⟩
  refine ⟨?_, fun y hy => ?_, ?_, by rw [putG_g]; exact S.nod, fun y hy => ?_, fun p hp => ?_, fun y hy p hp => ?_, by unfold putG; rw [List.length_map, List.length_append]; have := S.len; omega⟩
  · rw [putG_k, putG_r]; exact S.tab
  · obtain ⟨z, hz, e1, e2⟩ := hmem y hy
    have hz' := S.dat z hz
    rcases e2 with ⟨_, e3, e4⟩ | rfl
    · rw [e3, e4]
      refine ⟨(hz'.1.mono fun p hp => .tail _ (.tail _ hp)).append (.one hrow), ?_⟩
      rw [List.length_append, List.length_append, List.length_singleton, List.length_singleton]; have := hz'.2; omega
    · refine ⟨hz'.1.mono fun p hp => .tail _ (.tail _ hp), ?_⟩
      rw [List.length_append]; have := hz'.2; omega
  · rw [grp_snoc, ← S.grps]
    unfold addG putG
    rw [if_pos (by rw [List.map_map]; exact List.mem_map.mpr ⟨x, hx, hk⟩), List.map_map, List.map_map]
    refine List.map_congr_left fun y _ => ?_
    dsimp only [Function.comp]
    split <;> rfl
  · obtain ⟨z, hz, e1, _⟩ := hmem y hy
    rw [e1]; exact S.gabove z hz
  · rcases List.mem_cons.mp hp with rfl | hp
    · exact ⟨hD'.1, hD'.2.1, hD'.2.2.1⟩
    · rcases List.mem_cons.mp hp with rfl | hp
      · exact ⟨hD.1, hD.2.1, hD.2.2.1⟩
      · exact S.tabove p hp
  · obtain ⟨z, hz, e1, _⟩ := hmem y hy
    rw [e1]
    rcases List.mem_cons.mp hp with rfl | hp
    · exact Ne.symm (Nat.ne_of_lt (hD'.2.2.2 z hz))
    · rcases List.mem_cons.mp hp with rfl | hp
      · exact Ne.symm (Nat.ne_of_lt (hD.2.2.2 z hz))
      · exact S.off z hz p hp
theorem grst_new (S : GrSt w d I NL rs o gs tl) {o' : Obj} {l n' : Nat} (hn : r.1 ∉ gs.map (·.kd)) (ht : Tab w NL o' (gs.map (·.kd) ++ [r.1]) ((gs.map fun x => .ref x.g) ++ [.ref l])) (h1 : DatIn NL at' ad) (h2 : DatIn NL way wd) (h3 : DatIn NL old od) (h4 : DatIn NL new nd) (hr : r.2 = .tuple [.tuple [ad], wd, od, nd])
    (hl : @LT.lt Nat _ d l ∧ @LT.lt Nat _ I l ∧ (∀ q ∈ NL, @LT.lt Nat _ q.1 l) ∧ (∀ x ∈ gs, @LT.lt Nat _ x.g l) ∧ ∀ p ∈ tl, @LT.lt Nat _ p.1 l)
    (hD : @LT.lt Nat _ d D1 ∧ @LT.lt Nat _ I D1 ∧ (∀ q ∈ NL, @LT.lt Nat _ q.1 D1) ∧ (∀ x ∈ gs, @LT.lt Nat _ x.g D1) ∧ @LT.lt Nat _ l D1) (hD' : @LT.lt Nat _ d D2 ∧ @LT.lt Nat _ I D2 ∧ (∀ q ∈ NL, @LT.lt Nat _ q.1 D2) ∧ (∀ x ∈ gs, @LT.lt Nat _ x.g D2) ∧ @LT.lt Nat _ l D2) :
    GrSt w d I NL (rs ++ [r]) o' (gs ++ [⟨r.1, l, [.ref D2], n', [r.2]⟩]) ((D2, tupOf [.ref D1, way, old, new].toArray 0) :: (D1, tupOf [at'].toArray 0) :: tl) := by
  have hrow := row_dat (D1 := D1) (D2 := D2) (tl := tl) h1 h2 h3 h4
  rw [← hr] at hrow
  have lens := S.len
  refine ⟨by simpa using ht, fun y hy => ?_, ?_, ?_, fun y hy => ?_, fun p hp => ?_, fun y hy p hp => ?_, by rw [List.length_append, List.length_append]; simpa using lens⟩
  · rcases List.mem_append.mp hy with hy | hy
    · have hz' := S.dat y hy
      exact ⟨hz'.1.mono fun p hp => .tail _ (.tail _ hp), by rw [List.length_append]; have := hz'.2; omega⟩
    · rw [List.mem_singleton.mp hy]
      exact ⟨.one hrow, by rw [List.length_append]; simp⟩
  · rw [grp_snoc, ← S.grps]
    unfold addG
    rw [if_neg (by rw [List.map_map]; exact hn), List.map_append]; rfl
  · rw [List.map_append, List.nodup_append]
    refine ⟨S.nod, by simp, fun a ha b hb => ?_⟩
    obtain ⟨x, hx, rfl⟩ := List.mem_map.mp ha
    rw [List.mem_singleton.mp hb]
    exact Nat.ne_of_lt (hl.2.2.2.1 x hx)
  · rcases List.mem_append.mp hy with hy | hy
    · exact S.gabove y hy
    · rw [List.mem_singleton.mp hy]; exact ⟨hl.1, hl.2.1, hl.2.2.1⟩
  · rcases List.mem_cons.mp hp with rfl | hp
    · exact ⟨hD'.1, hD'.2.1, hD'.2.2.1⟩
    · rcases List.mem_cons.mp hp with rfl | hp
      · exact ⟨hD.1, hD.2.1, hD.2.2.1⟩
      · exact S.tabove p hp
  · rcases List.mem_append.mp hy with hy | hy
    · rcases List.mem_cons.mp hp with rfl | hp
      · exact Ne.symm (Nat.ne_of_lt (hD'.2.2.2.1 y hy))
      · rcases List.mem_cons.mp hp with rfl | hp
        · exact Ne.symm (Nat.ne_of_lt (hD.2.2.2.1 y hy))
        · exact S.off y hy p hp
    · rw [List.mem_singleton.mp hy]
      rcases List.mem_cons.mp hp with rfl | hp
      · exact Ne.symm (Nat.ne_of_lt hD'.2.2.2.2)
      · rcases List.mem_cons.mp hp with rfl | hp
        · exact Ne.symm (Nat.ne_of_lt hD.2.2.2.2)
        · exact Nat.ne_of_lt (hl.2.2.2.2 p hp)
end
end
section
theorem list_inj {xs ys : List Value} {n k : Nat} (e : listOf xs.toArray n = listOf ys.toArray k) : xs = ys := by
  injection e with _ _ e _
  injection e with e _
  injection e
set_option maxRecDepth 100000 in
set_option maxHeartbeats 2000000 in
theorem group_loop {w : World} {p : Program} {loose : List Str} {mean : ExcName → Option Value} {mg mb : Str → Option Value} {dp u : Nat} {gd : Option (List Code)} {A₀ : Around} {base h₀ : Heap} {outer : List Env} {L d lr : Addr} {m : Str → Option Value} {s : Shared} {Q : Flow → Shared → Prop} {E : Value → Shared → Prop} {NL : List (Addr × Obj)}
    {o : Obj} {k : Nat} {vs : List Value} {rs : List (Option (Dat × Dat))} {p1 p2 p3 p4 p5 p6 p7 p8 p9 q1 q2 q3 q4 q5 q6 q7 q8 q9 q10 q11 q12 q13 q14 q15 q16 q17 r1 r2 r3 r4 r5 r6 : Pos}
    (B : Below A₀ base outer h₀) (F : Fr h₀ L s.heap m) (X : (hd.heap_39 w.params).In h₀) (Tp : Top p loose mean mg mb h₀) (hd : dp + 10 < recursionLimit) (hu : u + 100 < cLine)
    (N : News h₀ L s.heap ((d, o) :: NL)) (hm : (lr, listOf vs.toArray k) ∈ NL) (h0 : Tab w NL o [] []) (lo : (d == sysModules) = false) (l1 : ∀ p ∈ NL, @LT.lt Nat _ p.1 d) (hr : All₂ (RowO NL) vs rs) (hl : vs.length ≤ 50) (hfm : m (S "found") = some (.ref d))
    (hl1 : (q7.endLine == q12.line) = true) (hl2 : (q13.endLine == r5.line) = true)
    (done : ∀ rs' o' gs tl I h' tk' m', rs = List.map some rs' → Agr [S "path", S "way", S "old", S "new"] m' m → Fr h₀ L h' m' → News h₀ L h' (grLed d o' gs tl NL) → GrSt w d I NL rs' o' gs tl → Q .next { s with heap := h', toks := tk' })
    (bad : none ∈ rs → ∀ e h' tk' m' nw, (∀ p ∈ NL, p ∈ nw) → RaisedX base h₀ (grEnv L) outer L m' nw e h' → E (.ref e) { s with heap := h', toks := tk' }) :
    wpAny (model PySem.Challenge.rw_og0176_01.row.prog w) (arnd dp u gd (grEnv L) outer) (pyIter (.ref lr))
      (fun it s₂ => TurnsAt PySem.Challenge.rw_og0176_01.row.prog w (arnd dp u gd (grEnv L) outer) h₀ (grEnv L) (.Tuple [.Name (S "path") p1, .Name (S "way") p2, .Name (S "old") p3, .Name (S "new") p4] 0 p5)
        [.Expr (.Call (.Name (S "need") p6) [.Compare (.Call (.Name (Str.ofString "len") p7) [.Name (S "path") p8] [] p9) [.Gt] [.Constant (.int 0) 0 q1] q2, .Constant (.str (S "a difference of the whole beside others")) 0 q3] [] q4) q5,
         .Expr (.Call (.Attribute (.Call (.Attribute (.Name (S "found") q6) (S "setdefault") q7) [.Subscript (.Name (S "path") q8) (.Constant (.int 0) 0 q9) q10, .List [] q11] [] q12) (S "append") q13)
           [.Tuple [.Subscript (.Name (S "path") q14) (.Slice (some (.Constant (.int 1) 0 q15)) none none q16) q17, .Name (S "way") r1, .Name (S "old") r2, .Name (S "new") r3] 0 r4] [] r5) r6] Q E it s₂) E s := by
  have hlen := hr.length
  refine iter_listTurns (env := grEnv L) rfl F N (.tail _ hm) rfl rfl fun I hI => items_inv0 (env := grEnv L)
    (fun i m' news => ∃ o' gs tl rs', Agr [S "path", S "way", S "old", S "new"] m' m ∧ news = grLed d o' gs tl NL ∧ rs.take i = List.map some rs' ∧ GrSt w d I NL rs' o' gs tl)
    ⟨o, [], [], [], Agr.rfl, rfl, rfl, ⟨h0, (fun _ h => nomatch h), rfl, .nil, (fun _ h => nomatch h), (fun _ h => nomatch h), (fun _ h => nomatch h), Nat.zero_le _⟩⟩ ⟨.tail _ hm, trivial⟩ ?_ ?_
  · (intro i v m' news oI h tk hv hZZ1 hS hoI F' N'; refine via fun GG hGG => ?_; obtain ⟨o', gs, tl, rs', hag, rfl, hrs, SG⟩ := hZZ1; refine hGG ?_; clear hGG GG)
    obtain ⟨r, hri, hrow⟩ := hr.get hv
    have hdI : @LT.lt Nat _ d I := hI _ (.head _)
    have hNI : ∀ q ∈ NL, @LT.lt Nat _ q.1 I := fun q hq => hI _ (.tail _ hq)
    have hNL : ∀ q ∈ NL, q ∈ (I, oI) :: grLed d o' gs tl NL := fun q hq => .tail _ (.tail _ (List.mem_append.mpr (.inr (List.mem_append.mpr (.inr hq)))))
    have hgm : ∀ x ∈ gs, (x.g, listOf x.xs.toArray x.n) ∈ (I, oI) :: grLed d o' gs tl NL := fun x hx => .tail _ (.tail _ (List.mem_append.mpr (.inl (List.mem_map.mpr ⟨x, hx, rfl⟩))))
    have htm : ∀ q ∈ tl, q ∈ (I, oI) :: grLed d o' gs tl NL := fun q hq => .tail _ (.tail _ (List.mem_append.mpr (.inr (List.mem_append.mpr (.inl hq)))))
    have hrl : rs'.length ≤ 50 := by
      have := congrArg List.length hrs
      rw [List.length_take, List.length_map] at this
      omega
    have hfm' := (hag (S "found") (by decide)).trans hfm
    cases r with
    | none =>
      obtain ⟨a, pp, way, old, new, n1, n2, rfl, m1, m2⟩ := hrow
      exact group_bad B F' X Tp hd hu N' (hNL _ m1) (hNL _ m2) fun e h' tk' m'' R => bad (List.mem_of_getElem? hri) e h' tk' m'' _ hNL R
    | some r =>
      obtain ⟨a, pp, kv, at', way, old, new, ad, wd, od, nd, n1, n2, rfl, m1, m2, hk, e1, e2, e3, e4, e5, hrd⟩ := hrow
      have htake : rs.take (i + 1) = List.map some (rs' ++ [r]) := by rw [List.take_add_one, hri, hrs, List.map_append]; rfl
      refine group_turn (ad := ad) (wd := wd) (od := od) (nd := nd) (k1 := 0) (k2 := 0) (k3 := 0) (k4 := 0) (k5 := 0) (k6 := 0) (e1 := .Name (S "found") p1) B F' X Tp hd hu N' (hNL _ m1) (hNL _ m2) (.tail _ (.head _)) hfm' lo hNL (fun p hp => Nat.ne_of_lt (l1 p hp)) SG.tab hk e1 ?_ (by rw [List.length_map]; have := SG.len; omega) hl1 hl2 ?_ ?_
      · intro j v hj
        rw [List.getElem?_map] at hj
        obtain ⟨x, hx, rfl⟩ := Option.map_eq_some_iff.mp hj
        have hx := List.mem_of_getElem? hx
        exact ⟨x.g, x.xs, x.n, rfl, hgm x hx, by have := (SG.dat x hx).2; omega⟩
      · intro j g D1 D2 xs n n' h' tk' m'' o1 o2 hj hv' hg hag' F'' hlt ho1 ho2 N''
        subst ho1 ho2
        rw [List.getElem?_map] at hj hv'
        obtain ⟨x, hx, hxk⟩ := Option.map_eq_some_iff.mp hj
        rw [hx] at hv'
        obtain rfl : x.g = g := by injection hv' with hv'; injection hv'
        have hx := List.mem_of_getElem? hx
        obtain rfl : xs = x.xs := by
          have q1 := (N' _ hg).1
          have q2 := (N' _ (hgm x hx)).1
          dsimp only at q1 q2
          rw [q1] at q2
          exact list_inj (Option.some.inj q2)
        have S' := grst_old (D1 := D1) (D2 := D2) SG hx hxk n' e2 e3 e4 e5 hrd
          ⟨(hlt _ (.tail _ (.head _))).1, (hlt _ (.head _)).1, fun q hq => (hlt _ (hNL q hq)).1, fun y hy => (hlt _ (hgm y hy)).1⟩
          ⟨(hlt _ (.tail _ (.head _))).2, (hlt _ (.head _)).2, fun q hq => (hlt _ (hNL q hq)).2, fun y hy => (hlt _ (hgm y hy)).2⟩
        refine ⟨h', tk', m'', _, rfl, F'', N'' _ ?_, ?_, ⟨?_, trivial⟩, ⟨o', _, _, _, fun y hy => (hag' y hy).trans (hag y hy), rfl, htake, S'⟩⟩
        · have nk : (gs.map (·.kd)).Nodup := by obtain ⟨_, _, _, _, _, _, h⟩ := SG.tab; exact h
          intro q hq
          rcases List.mem_cons.mp hq with rfl | hq
          · exact .inr (.inr (.inr ⟨.head _, Nat.ne_of_lt (SG.gabove x hx).2.1⟩))
          · rcases List.mem_cons.mp hq with rfl | hq
            · exact .inr (.inr (.inr ⟨.tail _ (.head _), Nat.ne_of_lt (SG.gabove x hx).1⟩))
            · rcases List.mem_append.mp hq with hq | hq
              · obtain ⟨y, hy, rfl⟩ := List.mem_map.mp hq
                obtain ⟨z, hz, e⟩ := List.mem_map.mp hy
                by_cases hzk : z.kd = r.1
                · rw [if_pos hzk] at e
                  have hzx : z = x := nodup_inj nk hz hx (hzk.trans hxk.symm)
                  subst e hzx
                  exact .inl rfl
                · rw [if_neg hzk] at e
                  subst e
                  exact .inr (.inr (.inr ⟨hgm _ hz, fun e => hzk (by rw [nodup_inj SG.nod hz hx e]; exact hxk)⟩))
              · rcases List.mem_append.mp hq with hq | hq
                · rcases List.mem_cons.mp hq with rfl | hq
                  · exact .inr (.inr (.inl rfl))
                  · rcases List.mem_cons.mp hq with rfl | hq
                    · exact .inr (.inl rfl)
                    · exact .inr (.inr (.inr ⟨htm q hq, SG.off x hx q hq⟩))
                · exact .inr (.inr (.inr ⟨hNL q hq, Nat.ne_of_lt ((SG.gabove x hx).2.2 q hq)⟩))
        · intro q hq r' hr'
          rw [List.mem_singleton.mp hr']
          rcases List.mem_cons.mp hq with rfl | hq
          · exact Nat.ne_of_lt hdI
          · rcases List.mem_append.mp hq with hq | hq
            · obtain ⟨y, hy, rfl⟩ := List.mem_map.mp hq
              exact Ne.symm (Nat.ne_of_lt (S'.gabove y hy).2.1)
            · rcases List.mem_append.mp hq with hq | hq
              · exact Ne.symm (Nat.ne_of_lt (S'.tabove q hq).2.1)
              · exact Nat.ne_of_lt (hNI q hq)
        · exact .tail _ (List.mem_append.mpr (.inr (List.mem_append.mpr (.inr hm))))
      · intro l D1 D2 n' h' tk' m'' o9 o1 o2 hn ht hag' F'' hlt hlD hlD' ho1 ho2 N''
        subst ho1 ho2
        have S' := grst_new (D1 := D1) (D2 := D2) (n' := n') SG hn ht e2 e3 e4 e5 hrd
          ⟨(hlt _ (.tail _ (.head _))).1, (hlt _ (.head _)).1, fun q hq => (hlt _ (hNL q hq)).1, fun y hy => (hlt _ (hgm y hy)).1, fun p hp => (hlt _ (htm p hp)).1⟩
          ⟨(hlt _ (.tail _ (.head _))).2.1, (hlt _ (.head _)).2.1, fun q hq => (hlt _ (hNL q hq)).2.1, fun y hy => (hlt _ (hgm y hy)).2.1, hlD⟩
          ⟨(hlt _ (.tail _ (.head _))).2.2, (hlt _ (.head _)).2.2, fun q hq => (hlt _ (hNL q hq)).2.2, fun y hy => (hlt _ (hgm y hy)).2.2, hlD'⟩
        refine ⟨h', tk', m'', _, rfl, F'', N'' _ ?_, ?_, ⟨?_, trivial⟩, ⟨o9, _, _, _, fun y hy => (hag' y hy).trans (hag y hy), rfl, htake, S'⟩⟩
        · intro q hq
          rcases List.mem_cons.mp hq with rfl | hq
          · exact .inr (.inr (.inr (.inr ⟨.head _, Ne.symm (Nat.ne_of_lt hdI)⟩)))
          · rcases List.mem_cons.mp hq with rfl | hq
            · exact .inl rfl
            · rcases List.mem_append.mp hq with hq | hq
              · obtain ⟨y, hy, rfl⟩ := List.mem_map.mp hq
                rcases List.mem_append.mp hy with hy | hy
                · exact .inr (.inr (.inr (.inr ⟨hgm y hy, Ne.symm (Nat.ne_of_lt (SG.gabove y hy).1)⟩)))
                · rw [List.mem_singleton.mp hy]; exact .inr (.inl rfl)
              · rcases List.mem_append.mp hq with hq | hq
                · rcases List.mem_cons.mp hq with rfl | hq
                  · exact .inr (.inr (.inr (.inl rfl)))
                  · rcases List.mem_cons.mp hq with rfl | hq
                    · exact .inr (.inr (.inl rfl))
                    · exact .inr (.inr (.inr (.inr ⟨htm q hq, Ne.symm (Nat.ne_of_lt (SG.tabove q hq).1)⟩)))
                · exact .inr (.inr (.inr (.inr ⟨hNL q hq, Nat.ne_of_lt (l1 q hq)⟩)))
        · intro q hq r' hr'
          rw [List.mem_singleton.mp hr']
          rcases List.mem_cons.mp hq with rfl | hq
          · exact Nat.ne_of_lt hdI
          · rcases List.mem_append.mp hq with hq | hq
            · obtain ⟨y, hy, rfl⟩ := List.mem_map.mp hq
              exact Ne.symm (Nat.ne_of_lt (S'.gabove y hy).2.1)
            · rcases List.mem_append.mp hq with hq | hq
              · exact Ne.symm (Nat.ne_of_lt (S'.tabove q hq).2.1)
              · exact Nat.ne_of_lt (hNI q hq)
        · exact .tail _ (List.mem_append.mpr (.inr (List.mem_append.mpr (.inr hm))))
  · (intro m' news h tk hZZ1 F' N'; refine via fun GG hGG => ?_; obtain ⟨o', gs, tl, rs', hag, rfl, hrs, SG⟩ := hZZ1; refine hGG ?_; clear hGG GG)
    rw [hlen, List.take_length] at hrs
    exact done rs' o' gs tl I h tk m' hrs hag F' N' SG
end
section
theorem Tab.ofEmpty {w : World} {T : List (Addr × Obj)} {o : Obj} (h : o.IsDictOf (PySem.strKind PROG w) []) : Tab w T o [] [] := by
  obtain ⟨es, ep, hc, hdat, _, hp, _⟩ := h
  have e : es.toList = [] := List.length_eq_zero_iff.mp hp.length
  exact ⟨es, ep, hc, hdat, by rw [e]; exact .nil, by rw [e]; rfl, .nil⟩
set_option maxRecDepth 100000 in
set_option maxHeartbeats 2000000 in
theorem grouped_or {w : World} {p : Program} {loose : List Str} {mean : ExcName → Option Value} {mg mb : Str → Option Value} {NL : List (Addr × Obj)} {lr : Addr} {vs : List Value} {k : Nat} {rs : List (Option (Dat × Dat))} (hm : (lr, listOf vs.toArray k) ∈ NL) (hr : All₂ (RowO NL) vs rs) (hl : vs.length ≤ 50) :
    SpecOr w p loose mean mg mb 317 [.ref lr] 12 220 NL (none ∉ rs) (fun NL' r => ∃ d o gs tl rs' I, rs = List.map some rs' ∧ NL' = grLed d o gs tl NL ∧ r = .ref d ∧ GrSt w d I NL rs' o gs tl ∧ (∀ p ∈ NL, @LT.lt Nat _ p.1 d) ∧ (d == sysModules) = false) := by
  unfold SpecOr
  intro dp u gd A₀ base h₀ env outer L m s Q E B F X Tp hf hk hd hu N hret hno
  refine wpAny_call ?_
  refine' code_defG B F X N Tp rfl hf hk ?k6 ?k7 (asm2 hd) ?k9 ?kB ?_ ?c2 ?c3 ?c4 ?c5
  case k6 => k_is
  case k7 => k_is
  case k9 => exact BindsTo.of_eq rfl
  case c5 => decide
  case kB => exact locs rfl
  case c2 => exact rfl
  case c3 => exact rfl
  case c4 => exact rfl
  intro g' L' h' FG' F' N' B' X' T' kG'
  (try dsimp only)
  (try k_fold)
  iterate 7 (all_goals (try (first | (k_unfold; (try dsimp only)) | (k_end; wrow_close) | ((fail_if_success (fail_if_success (with_reducible show wpAny _ _ (eval (PySem.Expr.Name _ _) _) _ _ _))); (k_here; k_dflt (refine' nameX_L ?F9z ?v9z ?_ ?a9z ?b9z ?c9z; (case F9z => k_asm); (case v9z => with_unfolding_all assumption); (case a9z => exact rfl); (case b9z => exact rfl); (case c9z => decide))); try dsimp only) | (walk1; try dsimp only) | (dsimp only; walk1; try dsimp only))))
  refine' For_turns (by k_asm) ?_
  iterate 2 (all_goals (try (first | (k_unfold; (try dsimp only)) | (k_end; wrow_close) | ((fail_if_success (fail_if_success (with_reducible show wpAny _ _ (eval (PySem.Expr.Name _ _) _) _ _ _))); (k_here; k_dflt (refine' nameX_L ?F9z ?v9z ?_ ?a9z ?b9z ?c9z; (case F9z => k_asm); (case v9z => with_unfolding_all assumption); (case a9z => exact rfl); (case b9z => exact rfl); (case c9z => decide))); try dsimp only) | (walk1; try dsimp only) | (dsimp only; walk1; try dsimp only))))
  refine' group_loop ?B ?F ?X ?T ?hd ?hu ?N hm ?h0 ?lo ?l1 hr hl ?hfm rfl rfl ?_ ?_
  case B => k_asm
  case F => k_asm
  case X => k_asm
  case T => k_asm
  case N => k_asm
  case hd => k_room
  case hu => k_units
  case h0 => exact Tab.ofEmpty (by assumption)
  case lo => k_asm
  case l1 => assumption
  case hfm => exact rfl
  · intro rs' o' gs tl I h9 tk9 m9 e9 ag9 F9 N9 S9
    have hfm := (ag9 (S "found") (by decide)).trans (rfl : _ = some (Value.ref _))
    dsimp only
    repeat' (first | (k_unfold; (try dsimp only)) | (k_end; wrow_close) | ((fail_if_success (fail_if_success (with_reducible show wpAny _ _ (eval (PySem.Expr.Name _ _) _) _ _ _))); (k_here; k_dflt (refine' nameX_L ?F9z ?v9z ?_ ?a9z ?b9z ?c9z; (case F9z => k_asm); (case v9z => with_unfolding_all assumption); (case a9z => exact rfl); (case b9z => exact rfl); (case c9z => decide))); try dsimp only) | (walk1; try dsimp only) | (dsimp only; walk1; try dsimp only))
    rename News h₀ L _ _ => kN9
    refine hret ?_ _ _ _ _ (by assumption) kN9 (ext_of kG' (by assumption)) ⟨_, o', gs, tl, rs', I, e9, rfl, rfl, S9, by assumption, by assumption⟩
    rw [e9]; simp
  · intro hb e9 h9 tk9 m9 nw9 s9 R9
    exact leave_onX (NL := NL) B' FG' hf rfl R9 (fun p hp => s9 p hp) fun h'' R'' => hno (fun q => q hb) _ _ _ R''
end
section
theorem snoc_ind {α : Type} {P : List α → Prop} (h0 : P []) (hs : ∀ l a, P l → P (l ++ [a])) : ∀ l, P l := fun l => by
  have : ∀ l : List α, P l.reverse := fun l => by
    induction l with
    | nil => exact h0
    | cons a l ih => rw [List.reverse_cons]; exact hs _ _ ih
  simpa using this l.reverse
open Classical in
noncomputable def firsts (l : List Dat) : List Dat := l.foldl (fun acc x => if x ∈ acc then acc else acc ++ [x]) []
open Classical in
noncomputable def partOf (rs : List (Dat × Dat)) (k : Dat) : List Dat := (rs.filter (fun r => decide (r.1 = k))).map (·.2)
open Classical in
theorem firsts_snoc (l : List Dat) (a : Dat) : firsts (l ++ [a]) = if a ∈ firsts l then firsts l else firsts l ++ [a] := by unfold firsts; rw [List.foldl_append]; rfl
theorem firsts_mem : ∀ (l : List Dat) (a : Dat), a ∈ firsts l ↔ a ∈ l := by
  refine snoc_ind (fun a => by simp [firsts]) fun l b ih a => ?_
  rw [firsts_snoc, List.mem_append, List.mem_singleton]
  split
  · rw [ih]
    constructor
    · exact .inl
    · rintro (h | rfl)
      · exact h
      · exact (ih _).mp (by assumption)
  · rw [List.mem_append, List.mem_singleton, ih]
open Classical in
theorem part_snoc (rs : List (Dat × Dat)) (r : Dat × Dat) (k : Dat) : partOf (rs ++ [r]) k = partOf rs k ++ if r.1 = k then [r.2] else [] := by
  unfold partOf
  rw [List.filter_append, List.map_append]
  congr 1
  by_cases h : r.1 = k <;> simp [h]
open Classical in
theorem part_nil {rs : List (Dat × Dat)} {k : Dat} (h : k ∉ rs.map (·.1)) : partOf rs k = [] := by
  unfold partOf
  rw [List.map_eq_nil_iff, List.filter_eq_nil_iff]
  intro r hr e
  exact h (List.mem_map.mpr ⟨r, hr, by simpa using e⟩)
open Classical in
theorem grp_eq : ∀ (rs : List (Dat × Dat)), grp rs = (firsts (rs.map (·.1))).map fun k => (k, partOf rs k) := by
  refine snoc_ind (by simp [grp, firsts]) fun rs r ih => ?_
  rw [grp_snoc, ih, List.map_append, List.map_singleton, firsts_snoc]
  unfold addG
  rw [List.map_map]
  have e : ((fun (x : Dat × List Dat) => x.1) ∘ fun k => (k, partOf rs k)) = id := rfl
  rw [e, List.map_id]
  by_cases hm : r.1 ∈ firsts (rs.map (·.1))
  · rw [if_pos hm, if_pos hm, List.map_map]
    refine List.map_congr_left fun k _ => ?_
    dsimp only [Function.comp]
    rw [part_snoc]
    by_cases hk : k = r.1
    · rw [if_pos hk, if_pos hk.symm]
    · rw [if_neg hk, if_neg (fun q => hk q.symm), List.append_nil]
  · rw [if_neg hm, if_neg hm, List.map_append]
    have hk : r.1 ∉ rs.map (·.1) := fun q => hm ((firsts_mem _ _).mpr q)
    refine congr (congrArg _ (List.map_congr_left fun k hk' => ?_)) ?_
    · rw [part_snoc, if_neg (fun q : r.1 = k => hm (by rw [q]; exact hk')), List.append_nil]
    · simp only [List.map_cons, List.map_nil, part_snoc, if_true, part_nil hk, List.nil_append]
noncomputable def rowD (nd : Dat) (i : Nat) : Dat := .tuple [.tuple [.int i], .str (S "gone"), nd, .none]
noncomputable def rowsD (nd : Dat) (st : List Dat) : List (Dat × Dat) := st.zipIdx.map fun p => (p.1, rowD nd p.2)
theorem rows_fst (nd : Dat) (st : List Dat) : (rowsD nd st).map (·.1) = st := by
  unfold rowsD
  rw [List.map_map]
  exact List.zipIdx_map_fst 0 st
theorem rows_get {nd : Dat} {st : List Dat} {i : Nat} {d : Dat} (h : st[i]? = some d) : (rowsD nd st)[i]? = some (d, rowD nd i) := by
  unfold rowsD
  rw [List.getElem?_map, List.getElem?_zipIdx, h]
  simp
theorem rows_len (nd : Dat) (st : List Dat) : (rowsD nd st).length = st.length := by unfold rowsD; simp
noncomputable def dueD (nd : Dat) (st l : List Dat) : List Dat := (firsts l).map fun k => .tuple [k, .list (partOf (rowsD nd st) k)]
theorem due_grp (nd : Dat) (st : List Dat) : (grp (rowsD nd st)).map (fun x => Dat.tuple [x.1, .list x.2]) = dueD nd st st := by
  rw [grp_eq, rows_fst, List.map_map]; rfl
end
section
section
variable {prog : Program} {w : World} {A : Around} {E : Value → Shared → Prop} {s : Shared} {env : Env} {h₀ : Heap} {L : Addr} {m : Str → Option Value}
  {target elt iter : Expr} {ifs : List Expr} {scope : Scope} {cl : List (Str × Addr)} {pos : Pos} {Q : Value → Shared → Prop}
  {I : Addr} {fp wr : List Addr} {n : Nat} {P Md : Nat → Value → Heap → Prop} {St : Nat → Heap → Prop} {nw₀ : List (Addr × Obj)}
noncomputable def BlockRun (prog : Program) (w : World) (A : Around) (E : Value → Shared → Prop) (env : Env) (e : Expr) (scope : Scope) (cl : List (Str × Addr)) (RR : Value → Addr → Result → Shared → Prop) (it : Value) (s : Shared) : Prop :=
  wpAny (model prog w) A (newList []) (fun acc s₃ => wpAny (model prog w) A (newFunctionEnv scope env.globals cl [] env.qual none .none (some env)) (fun cenv s₄ =>
    codeAny (model prog w) A (.compStart e 0 it acc { cenv with scope := relabel scope env }) (RR acc cenv.locals) s₄) E s₃) E s
theorem post_V {D C : Addr} {ys : List Value} {kD : Nat} {nw : List (Addr × Obj)} {h : Heap} {tk : Nat} {mC : Str → Option Value} (hDC : @LT.lt Nat _ D C) (off : Off nw [C, D]) (F : Fr h₀ L h m) (hn : h.Ns C mC) (hC0 : h₀.get? C = none) (hLC : L ≠ C)
    (N : News h₀ L h ((D, listOf ys.toArray kD) :: nw)) (k : ∀ h', Fr h₀ L h' m → News h₀ L h' ((D, listOf ys.toArray kD) :: nw) → Q (.ref D) { s with heap := h', toks := tk }) :
    compPost (model prog w) A E none Q (.ref D) C (.ok .next) { s with heap := h, toks := tk } := by
  refine ⟨mC, hn, fun h₃ hs₃ => k h₃ (F.change hs₃ (Ne.symm hLC) hC0) fun p hp => ⟨hs₃.extBut _ _ ?_ (N p hp).1, (N p hp).2⟩⟩
  rcases List.mem_cons.mp hp with rfl | hp
  · exact Nat.ne_of_lt hDC
  · exact fun e => off p hp (by rw [e]; exact .head _)
theorem post_A {y : Str} {py : Pos} {QF : Flow → Shared → Prop} {D C : Addr} {ys : List Value} {kD : Nat} {nw : List (Addr × Obj)} {h : Heap} {tk : Nat} {mC : Str → Option Value} (hDC : @LT.lt Nat _ D C) (off : Off nw [C, D]) (F : Fr h₀ L h m) (hn : h.Ns C mC) (hC0 : h₀.get? C = none) (hLC : L ≠ C)
    (N : News h₀ L h ((D, listOf ys.toArray kD) :: nw)) (hL : env.locals = L) (hy : env.kindOf y = some .local) (hp : (env.scope.kind == .class || (env.scope.kind == .module && env.locals != env.globals)) = false)
    (k : ∀ h' tk', Fr h₀ L h' (fun z => if z = y then some (.ref D) else m z) → News h₀ L h' ((D, listOf ys.toArray kD) :: nw) → QF .next { s with heap := h', toks := tk' }) :
    compPost (model prog w) A E (some (assign (.Name y py) env)) (fun _ s' => QF .next s') (.ref D) C (.ok .next) { s with heap := h, toks := tk } := by
  subst hL
  show wpAny _ A (assign (.Name y py) env (.ref D)) _ _ _
  refine wpAny_assign_Name (wpAny_storeName_local hy F.ns (fun h₂ hn₂ hs₂ => ?_) hp)
  refine ⟨mC, hn.sameBut hs₂ (Ne.symm hLC), fun h₃ hs₃ => k h₃ _ ((F.set hn₂ hs₂).change hs₃ (Ne.symm hLC) hC0) fun p hp => ?_⟩
  refine ⟨hs₃.extBut _ _ ?_ (hs₂.extBut _ _ (N p hp).2.1 (N p hp).1), (N p hp).2⟩
  rcases List.mem_cons.mp hp with rfl | hp
  · exact Nat.ne_of_lt hDC
  · exact fun e => off p hp (by rw [e]; exact .head _)
theorem exec_block {y : Str} {py spos : Pos} {QF : Flow → Shared → Prop}
    (hsw : swapsWith (.ListComp elt [⟨target, iter, ifs, 0⟩] scope pos) (some (.Name y py)) spos.line env = pure true)
    (hclos : closureFor scope env = pure cl) (hnames : ∀ y ∈ scope.names, y.2 = .local → scope.names.lookup y.1 = some .local) (hkind : scope.kind = .function)
    (h : wpAny (model prog w) A (eval iter env) (fun xv s₁ => wpAny (model prog w) A (pyIter xv) (fun it s₂ => BlockRun prog w A E env (.ListComp elt [⟨target, iter, ifs, 0⟩] scope pos) scope cl (fun acc C => compPost (model prog w) A E (some (assign (.Name y py) env)) (fun _ s' => QF .next s') acc C) it s₂) E s₁) E s)
    (hs : ∀ x, foldedSetIterable iter env x = pure x := by intro _; rfl) :
    wpAny (model prog w) A (exec (.Assign [.Name y py] (.ListComp elt [⟨target, iter, ifs, 0⟩] scope pos) spos) env) QF E s := by
  rw [exec_Assign_Name_used _ _ _ _ hsw]
  refine wpAny_bind (wpAny_standAt (wpAny_bind ?_))
  show wpAny _ A (do let _ ← comprehension (.ListComp elt [⟨target, iter, ifs, 0⟩] scope pos) scope env _ (newList []) false (eval iter env) (some (assign (.Name y py) env))) _ _ s
  exact wpAny_bind (wpAny_mono (wpAny_comprehension_free (use := some (assign (.Name y py) env)) (Q := fun _ s' => QF .next s') rfl hs hclos hkind hnames h) (fun _ s' hq => wpAny_pure (wpAny_pure hq)) fun _ _ e => e)
theorem comp_rangeR {x : Str} {px : Pos} {ar : Addr} {k : Int} {t1 t2 t3 : Tok} (RR : Value → Addr → Result → Shared → Prop) (J : Nat → List Value → List (Addr × Obj) → Prop) (hh : A.handled = none) (hr : IsRange s.heap ar 0 k 1 t1 t2 t3) (hk0 : 0 ≤ k) (hk1 : k < 100) (F : Fr h₀ L s.heap m) (N : News h₀ L s.heap nw₀) (h0 : J 0 [] nw₀)
    (hcell : ∀ y ∈ scope.names, y.2 ≠ .cell) (hkind : scope.kind = .function) (hx : scope.names.lookup x = some .local)
    (step : ∀ (C D I : Addr) oC own i v ys kD nw h tk mC (E' : Value → Shared → Prop), i < k.toNat → mC x = some v → J i ys nw → Off nw [C, D, I] → @LE.le Nat _ s.heap.objs.size I → @LT.lt Nat _ I D → @LT.lt Nat _ D C → (∀ p ∈ own, p.1 = I) → Fr h₀ L h m → h.Ns C mC →
      News h₀ L h ((C, oC) :: (D, listOf ys.toArray kD) :: (own ++ nw)) →
      wpAny (model prog w) A (forIn ifs true fun c r => if r = true then do let ok ← isTrue c (compEnvC scope cl C env) (eval c (compEnvC scope cl C env)); pure (ForInStep.yield ok) else pure (ForInStep.yield r))
        (fun ok s₃ => if ok = true then wpAny (model prog w) A (eval elt (compEnvC scope cl C env)) (fun y s₄ => CEnd h₀ L m [C, D, I] ((C, oC) :: (D, listOf ys.toArray kD) :: own) (J (i + 1) (ys ++ [y])) { s with heap := h, toks := tk } s₄) E' s₃
          else CEnd h₀ L m [C, D, I] ((C, oC) :: (D, listOf ys.toArray kD) :: own) (J (i + 1) ys) { s with heap := h, toks := tk } s₃) E' { s with heap := h, toks := tk })
    (done : ∀ (D C : Addr) ys kD nw h tk mC, (∀ p ∈ nw₀, @LT.lt Nat _ p.1 D) → @LT.lt Nat _ D C → Off nw [C, D] → J k.toNat ys nw → Fr h₀ L h m → h.Ns C mC → h₀.get? C = none → L ≠ C → News h₀ L h ((D, listOf ys.toArray kD) :: nw) → RR (.ref D) C (.ok .next) { s with heap := h, toks := tk }) :
    wpAny (model prog w) A (pyIter (.ref ar)) (fun it s₂ => BlockRun prog w A E env (.ListComp elt [⟨.Name x px, iter, ifs, 0⟩] scope pos) scope cl RR it s₂) E s := by
  have hsz : Builtin.Range.rangeSize 0 k 1 = k.toNat := by
    unfold Builtin.Range.rangeSize
    simp only [show (1 : Int) > 0 from by decide, if_true]
    by_cases h : 0 < k
    · rw [if_pos h]; omega
    · rw [if_neg h]; omega
  refine wpAny_pyIter_range hr ?_ ?_
  · have hall : ∀ n : Fin 100, Builtin.Range.small 0 ((n : Nat) : Int) 1 = true := by decide +kernel
    have := hall ⟨k.toNat, by omega⟩
    rwa [show (((⟨k.toNat, by omega⟩ : Fin 100) : Nat) : Int) = k from by simp; omega] at this
  have hsize : (s.heap.push { cls := .type "range_iterator", data := .fields #[rawInt 0, rawInt (Builtin.Range.rangeSize 0 k 1), rawInt 1] }).objs.size = s.heap.objs.size + 1 := Heap.size_push _ _
  have W := Walks.range (prog := prog) (w := w) (A := A) hh s.heap.objs.size 0 1 k.toNat
  refine comp_turnsR (s := { s with heap := s.heap.push { cls := .type "range_iterator", data := .fields #[rawInt 0, rawInt (Builtin.Range.rangeSize 0 k 1), rawInt 1] } }) (nw₀ := nw₀) RR J (fun i v mC => mC x = some v)
    (KTurns.ofWalks (target := .Name x px) W fun i v s Q E st h => wpAny_pure h) (fun s Q E st hq => wpAny_pyIter_rangeiter st hq) ?_ ?_ ?_ ?_
    ?_ (F.push _) (fun p hp => ⟨Heap.get?_push_of_some _ (N p hp).1, (N p hp).2⟩) h0 (by rw [sizeLine_eq]; omega) hcell hkind ?_ ?_ ?_
  · intro hm'
    exact absurd F.ns.lt ((List.mem_singleton.mp hm') ▸ Nat.lt_irrefl _)
  · intro b hb
    rw [List.mem_singleton.mp hb]
    exact next_is_new F
  · intro b hb
    show b < (s.heap.push _).objs.size
    rw [hsize, List.mem_singleton.mp hb]
    exact Nat.lt_succ_self _
  · intro p hp hI
    exact absurd (Heap.lt_size (N p hp).1) ((List.mem_singleton.mp hI) ▸ Nat.lt_irrefl _)
  · show IsRangeIter _ _ _ _ _
    unfold IsRangeIter
    rw [Heap.get?_push_size _ rfl, hsz]
    simp
  · intro C i v s₁ mC Q' E' hP hn hC hq
    refine wpAny_assign_Name (wpAny_storeName_local (lookup_relabel_local hx) hn (fun h₂ hn₂ hs₂ => hq h₂ _ _ hs₂.extBut hn₂ (by simp)) (by simp [compEnvC, relabel, hkind]))
  · intro C D oC own i v ys kD nw h tk mC E' hi hG hJ hoff hwD hD hC hown F' hn' N'
    rw [show (Shared.heap _).objs.size = s.heap.objs.size + 1 from hsize] at hD
    exact step C D _ oC own i v ys kD nw h tk mC E' hi hG hJ hoff (Nat.le_refl _) (hwD _ (.head _)) hC (fun p hp => List.mem_singleton.mp (hown p hp)) F' hn' N'
  · intro D C ys kD nw h tk mC hD hDC hoff hJ F' hn hC0 hLC N'
    rw [show (Shared.heap _).objs.size = s.heap.objs.size + 1 from hsize] at hD
    exact done D C ys kD nw h tk mC (fun p hp => Nat.lt_of_lt_of_le (Heap.lt_size (N p hp).1) (Nat.le_trans (Nat.le_succ _) hD)) hDC hoff hJ F' hn hC0 hLC N'
theorem comp_enumR {x y : Str} {px py pt : Pos} {kt : Nat} {ax : Addr} {vs : List Value} {k : Nat} (RR : Value → Addr → Result → Shared → Prop) (J : Nat → List Value → List (Addr × Obj) → Prop) (hh : A.handled = none) (F : Fr h₀ L s.heap m) (N : News h₀ L s.heap nw₀) (hm : (ax, listOf vs.toArray k) ∈ nw₀) (h0 : J 0 [] nw₀) (hsz : vs.length ≤ sizeLine)
    (hcell : ∀ y ∈ scope.names, y.2 ≠ .cell) (hkind : scope.kind = .function) (hx : scope.names.lookup x = some .local) (hy : scope.names.lookup y = some .local) (hxy : ¬ x = y)
    (step : ∀ (C D I : Addr) oC own i v ys kD nw h tk mC (E' : Value → Shared → Prop), (∃ t, mC x = some (.int (i : Int) t)) → vs[i]? = some v → mC y = some v → J i ys nw → Off nw [C, D, I + 1, I] → @LE.le Nat _ s.heap.objs.size I → @LT.lt Nat _ (I + 1) D → @LT.lt Nat _ D C → (∀ p ∈ own, p.1 = I ∨ p.1 = I + 1 ∨ p.1 = ax) → Fr h₀ L h m → h.Ns C mC →
      News h₀ L h ((C, oC) :: (D, listOf ys.toArray kD) :: (own ++ nw)) →
      wpAny (model prog w) A (forIn ifs true fun c r => if r = true then do let ok ← isTrue c (compEnvC scope cl C env) (eval c (compEnvC scope cl C env)); pure (ForInStep.yield ok) else pure (ForInStep.yield r))
        (fun ok s₃ => if ok = true then wpAny (model prog w) A (eval elt (compEnvC scope cl C env)) (fun y s₄ => CEnd h₀ L m [C, D, I + 1, I] ((C, oC) :: (D, listOf ys.toArray kD) :: own) (J (i + 1) (ys ++ [y])) { s with heap := h, toks := tk } s₄) E' s₃
          else CEnd h₀ L m [C, D, I + 1, I] ((C, oC) :: (D, listOf ys.toArray kD) :: own) (J (i + 1) ys) { s with heap := h, toks := tk } s₃) E' { s with heap := h, toks := tk })
    (done : ∀ (D C : Addr) ys kD nw h tk mC, (∀ p ∈ nw₀, @LT.lt Nat _ p.1 D) → @LT.lt Nat _ D C → Off nw [C, D] → J vs.length ys nw → Fr h₀ L h m → h.Ns C mC → h₀.get? C = none → L ≠ C → News h₀ L h ((D, listOf ys.toArray kD) :: nw) → RR (.ref D) C (.ok .next) { s with heap := h, toks := tk }) :
    wpAny (model prog w) A (call (.type "enumerate") [.ref ax]) (fun xv s₁ => wpAny (model prog w) A (pyIter xv) (fun it s₂ => BlockRun prog w A E env (.ListComp elt [⟨.Tuple [.Name x px, .Name y py] kt pt, iter, ifs, 0⟩] scope pos) scope cl RR it s₂) E s₁) E s := by
  have hax := N _ hm
  have hl : s.heap.IsList ax vs.toArray := ⟨_, hax.1, rfl, k, rfl⟩
  have hlt : ax < s.heap.objs.size := Heap.lt_size hax.1
  have hLs : L < s.heap.objs.size := F.ns.lt
  refine call_enumerate_list hl fun h' hE hI hsz' hk => ?_
  refine wpAny_pyIter_enum hE ?_
  refine comp_turnsR (s := { s with heap := h' }) (nw₀ := nw₀) RR J (fun i v mC => ∃ x', (∃ t, mC x = some (.int (i : Int) t)) ∧ vs[i]? = some x' ∧ mC y = some x')
    (KTurns.ofWalksU (elts := [.Name x px, .Name y py]) (k := kt) (pos := pt) (WalksT.enumerate hh (s.heap.objs.size + 1) s.heap.objs.size ax (Nat.succ_ne_self _) (ktu_ne 1 hlt) (Nat.ne_of_lt hlt) vs.toArray).toU)
    (fun s Q E st hq => wpAny_pyIter_enum st.1.choose_spec hq) ?_ ?_ ?_ ?_ ⟨⟨.none, hE⟩, hI, hl.at fun o e => hk ax o e⟩ (F.keeps hk) (N.grown hk) h0 (by simpa using hsz) hcell hkind ?_ ?_ ?_
  · intro hI'
    have hb' : L = s.heap.objs.size + 1 ∨ L = s.heap.objs.size ∨ L = ax := by simpa using hI'
    rcases hb' with e | e | e
    · exact ktu_ne 1 hLs e
    · exact Nat.ne_of_lt hLs e
    · exact hax.2.1 e.symm
  · intro b hb
    have hb' : b = s.heap.objs.size + 1 ∨ b = s.heap.objs.size := by simpa using hb
    rcases hb' with rfl | rfl
    · exact ktu_new F (Nat.le_add_right _ _)
    · exact ktu_new F (Nat.le_refl _)
  · intro b hb
    have hb' : b = s.heap.objs.size + 1 ∨ b = s.heap.objs.size ∨ b = ax := by simpa using hb
    show b < h'.objs.size
    rw [hsz']
    rcases hb' with rfl | rfl | rfl
    · exact Nat.lt_succ_self _
    · exact Nat.lt_add_of_pos_right (by decide)
    · exact Nat.lt_of_lt_of_le hlt (Nat.le_add_right _ 2)
  · intro p hp hI'
    have hb' : p.1 = s.heap.objs.size + 1 ∨ p.1 = s.heap.objs.size := by simpa using hI'
    have hlp := Heap.lt_size (N p hp).1
    rcases hb' with e | e
    · exact ktu_ne 1 hlp e
    · exact Nat.ne_of_lt hlp e
  · (intro C i v s₁ mC Q' E' hZZ1 hn hC hq; refine via fun GG hGG => ?_; obtain ⟨T, vals, rfl, ⟨t, x', hx', rfl⟩, hT⟩ := hZZ1; refine hGG ?_; clear hGG GG)
    refine kcp_assign hh hT (lookup_relabel_local hx) (lookup_relabel_local hy) (by simp [compEnvC, relabel, hkind]) hn fun h₂ tk₂ hn₂ hk₂ => ?_
    exact hq h₂ tk₂ _ (fun b o hb e => hk₂ b o hb e) hn₂ ⟨x', ⟨t, by simp [hxy]⟩, by simpa using hx', by simp⟩
  · (intro C D oC own i v ys kD nw h tk mC E' hi hZZ1 hJ hoff hwD hD hC hown F' hn' N'; refine via fun GG hGG => ?_; obtain ⟨x', hx1, hx2, hx3⟩ := hZZ1; refine hGG ?_; clear hGG GG)
    refine step C D s.heap.objs.size oC own i x' ys kD nw h tk mC E' hx1 hx2 hx3 hJ hoff (Nat.le_refl _) (hwD _ (.head _)) hC (fun p hp => ?_) F' hn' N'
    have := hown p hp
    simp only [List.mem_cons, List.not_mem_nil, or_false] at this
    rcases this with e | e | e
    · exact .inr (.inl e)
    · exact .inl e
    · exact .inr (.inr e)
  · intro D C ys kD nw h tk mC hD hDC hoff hJ F' hn hC0 hLC N'
    rw [show (Shared.heap _).objs.size = s.heap.objs.size + 2 from hsz'] at hD
    rw [show vs.toArray.size = vs.length from by simp] at hJ
    exact done D C ys kD nw h tk mC (fun p hp => Nat.lt_of_lt_of_le (Heap.lt_size (N p hp).1) (Nat.le_trans (Nat.le_add_right _ 2) hD)) hDC hoff hJ F' hn hC0 hLC N'
end
end
section
open Sem (wp)
section
variable {prog : Program} {w : World} {A : Around} {E : Value → Shared → Prop} {s : Shared} {it d : Addr} {i ep : Nat} {od : Obj} {es : Array DictEntry}
theorem tab_iter {Q : Value → Shared → Prop} (hd : (d == sysModules) = false) (hod : s.heap.get? d = some od) (hc : od.cls = .type "dict") (hdd : od.data = .dict es ep)
    (hQ : Q (.ref s.heap.objs.size) { s with heap := s.heap.push { cls := .type "dict_keyiterator", data := .fields #[.ref d, .int 0 0, .int es.size 0, .int ep 0] } }) : wpAny (model prog w) A (pyIter (.ref d)) Q E s := by
  have hT : s.TypeIs (.ref d) "dict" := ⟨od, hod, hc⟩
  refine wpAny_pyIter_slot hT PySem.F.slot_dict_iter (wpAny_call_entry PySem.F.slot_dict_iter hT PySem.F.entry_dict_iter ?_ (PySem.F.args_dict_iter_1 _))
  unfold Builtin.«dict.__iter__» Builtin.Dict.dictSlotNone
  refine wpAny_bind (wpAny_bind (wpAny_notOrdered_dict hT (wpAny_pure (a := Value.ref d) ?_)))
  show wpAny _ _ (Builtin.Dict.showsAll d >>= _) _ _ s
  unfold Builtin.Dict.showsAll
  rw [hd]
  refine wpAny_bind (wpAny_pure (wpAny_bind (wpAny_dictEntries hod hdd (wpAny_bind (wpAny_dictEpoch hod hdd (wpAny_bind (wpAny_newObj_type (wpAny_pure ⟨_, rfl, ?_⟩))))))))
  exact ⟨"dict_keyiterator", _, ⟨_, Heap.get?_push_size _ rfl, rfl⟩, PySem.F.slot_dict_keyiterator_next.lookup, hQ⟩
theorem tab_next {e : DictEntry} {Q : Option Value → Shared → Prop} (hit : s.heap.IsKeyIter it d i es.size ep) (hod : s.heap.get? d = some od) (hdd : od.data = .dict es ep) (hx : es[i]? = some e)
    (hQ : ∀ h', h'.IsKeyIter it d (i + 1) es.size ep → Heap.SameBut it s.heap h' → Q (some e.key) { s with heap := h' }) : wpAny (model prog w) A (pyNext (.ref it)) Q E s := by
  obtain ⟨o, ho, hc, hf⟩ := id hit
  unfold pyNext
  refine wpAny_bind (wpAny_attempt (wpAny_callSpecial?_slot (name := Str.ofString "__next__") hit.typeIs PySem.F.slot_dict_keyiterator_next
    (wpAny_call_entry PySem.F.slot_dict_keyiterator_next hit.typeIs PySem.F.entry_dict_keyiterator_next ?_ (PySem.F.args_dict_keyiterator_next_1 _))))
  refine wpAny_bind (wpAny_pure (wpAny_bind (wpAny_bind ?_)))
  refine wpAny_bind (wpAny_typeNameOfWhole_keyiter hit.typeIs (wpAny_pure (wpAny_bind (wpAny_fieldsOf ho hf ?_))))
  rw [show Builtin.Dict_items.ownsTuple "dict_keyiterator" = false from by decide]
  simp only [Bool.false_eq_true, if_false]
  show wpAny _ _ (if (Value.ref d == Value.none) = true then _ else _) _ _ s
  rw [if_neg (show ¬ ((Value.ref d == Value.none) = true) from Bool.false_ne_true)]
  refine wpAny_bind (wpAny_pure (wpAny_bind (wpAny_dictEntries hod hdd ?_)))
  rw [if_neg (by simp)]
  refine wpAny_bind (wpAny_pure (wpAny_bind (wpAny_dictEpoch hod hdd ?_)))
  rw [if_neg (by simp)]
  refine wpAny_pure ?_
  simp only [show ¬ ((i : Int) < 0) from by omega, if_false, Int.toNat_natCast, hx]
  refine wpAny_bind (wpAny_bind (wpAny_typeNameOfWhole_keyiter hit.typeIs (wpAny_pure (wpAny_bind (wpAny_isOneOf_keyiter hit.typeIs ?_)))))
  show wpAny _ _ (setField (.ref it) 1 (rawInt ((i : Int) + 1)) >>= _) _ _ s
  refine wpAny_bind (wpAny_setField ho hf (by simp) ?_)
  have hit' : (s.heap.update it (Obj.mapFields (·.setIfInBounds 1 (rawInt ((i : Int) + 1))))).IsKeyIter it d (i + 1) es.size ep :=
    ⟨_, Heap.get?_update_self _ ho (Obj.isFreed_of_fields (Obj.data_mapFields hf _)), (Obj.cls_mapFields ..).trans hc, by rw [Obj.data_mapFields hf]; simp [rawInt]⟩
  refine wpAny_bind (wpAny_holding (wpAny_bind (wpAny_isOneOf_keyiter (s := { s with heap := s.heap.update it (Obj.mapFields (·.setIfInBounds 1 (rawInt ((i : Int) + 1)))) }) hit'.typeIs ?_)))
  show wpAny _ _ (pure e.key) _ _ _
  exact wpAny_pure (wpAny_pure ⟨_, rfl, wpAny_pure (hQ _ hit' (Heap.SameBut.update ..))⟩)
theorem tab_end {Q : Option Value → Shared → Prop} (hh : A.handled = none) (hit : s.heap.IsKeyIter it d i es.size ep) (hod : s.heap.get? d = some od) (hdd : od.data = .dict es ep) (hx : es.size ≤ i)
    (hQ : ∀ h', Heap.ExtBut it s.heap h' → Q none { s with heap := h' }) : wpAny (model prog w) A (pyNext (.ref it)) Q E s := by
  obtain ⟨o, ho, hc, hf⟩ := id hit
  unfold pyNext
  refine wpAny_bind (wpAny_attempt (wpAny_callSpecial?_slot (name := Str.ofString "__next__") hit.typeIs PySem.F.slot_dict_keyiterator_next
    (wpAny_call_entry PySem.F.slot_dict_keyiterator_next hit.typeIs PySem.F.entry_dict_keyiterator_next ?_ (PySem.F.args_dict_keyiterator_next_1 _))))
  refine wpAny_bind (wpAny_pure (wpAny_bind (wpAny_bind ?_)))
  refine wpAny_bind (wpAny_typeNameOfWhole_keyiter hit.typeIs (wpAny_pure (wpAny_bind (wpAny_fieldsOf ho hf ?_))))
  rw [show Builtin.Dict_items.ownsTuple "dict_keyiterator" = false from by decide]
  simp only [Bool.false_eq_true, if_false]
  show wpAny _ _ (if (Value.ref d == Value.none) = true then _ else _) _ _ s
  rw [if_neg (show ¬ ((Value.ref d == Value.none) = true) from Bool.false_ne_true)]
  refine wpAny_bind (wpAny_pure (wpAny_bind (wpAny_dictEntries hod hdd ?_)))
  rw [if_neg (by simp)]
  refine wpAny_bind (wpAny_pure (wpAny_bind (wpAny_dictEpoch hod hdd ?_)))
  rw [if_neg (by simp)]
  refine wpAny_pure ?_
  simp only [show ¬ ((i : Int) < 0) from by omega, if_false, Int.toNat_natCast, Array.getElem?_eq_none hx]
  refine wpAny_bind (wpAny_bind (wpAny_typeNameOfWhole_keyiter hit.typeIs (wpAny_pure ?_)))
  show wpAny _ _ (setField (.ref it) 0 .none >>= _) _ _ s
  refine wpAny_bind (wpAny_setField ho hf (by simp) ?_)
  show wpAny _ _ (newExc (.type "StopIteration") [] >>= _) _ _ _
  refine wpAny_bind ?_
  simp only [newExc, newTuple]
  refine wpAny_bind (wpAny_newObj_type ?_ (by size_fits))
  refine wpAny_bind (m := firstArgMember _ _) (wpAny_of_eq (a := Value.none) (by first | rfl | (simp only [firstArgMember]; rfl)) ?_)
  refine wpAny_newObj_type ?_ (by size_fits)
  simp only [raiseNew]
  refine wpAny_bind (wpAny_handled ?_)
  rw [show A.in1.handled = none from hh]
  refine wpAny_bind (wpAny_pure (wpAny_throw ?_))
  refine wpAny_bind (wpAny_isInstance (T := "StopIteration") (b := true) ⟨_, Heap.get?_push_size _ rfl, rfl⟩ isSubtype_stop ?_)
  exact wpAny_pure (hQ _ (((Heap.SameBut.update ..).extBut.push _).push _))
theorem Walks.tab (hh : A.handled = none) (I d : Addr) (hne : d ≠ I) (od : Obj) (es : Array DictEntry) (ep : Nat) (hdd : od.data = .dict es ep) :
    Walks prog w A I [I, d] [I] es.size (fun i v => ∃ e, es[i]? = some e ∧ v = e.key) (fun i h => h.IsKeyIter I d i es.size ep ∧ h.get? d = some od) where
  sub := fun b hb => by simp at hb; simp [hb]
  frame := fun _ _ _ st hk => ⟨st.1.at fun o e => hk I (by simp) o e, hk d (by simp) _ st.2⟩
  item := fun i s Q E hi st hQ => by
    refine tab_next st.1 st.2 hdd (Array.getElem?_eq_getElem hi) fun h' hit' hs' => ?_
    exact hQ _ h' s.toks ⟨_, Array.getElem?_eq_getElem hi, rfl⟩ ⟨hit', hs'.extBut d _ hne st.2⟩ fun b o hb e => hs'.extBut b o (fun h => hb (by simp [h])) e
  done := fun s Q E st hQ => tab_end hh st.1 st.2 hdd (Nat.le_refl _) fun h' he' => hQ h' s.toks fun b o hb e => he' b o (fun h => hb (by simp [h])) e
  self := fun _ _ _ _ st hQ => wpAny_pyIter_keyiter st.1 hQ
end
end
section
theorem code_defCR {prog : Program} {w : World} {A₀ A : Around} {s : Shared} {K : Frag} {base h₀ : Heap} {outer : List Env} {L : Addr} {m mg mb : Str → Option Value} {p : Program} {loose : List Str} {mean : ExcName → Option Value} {env : Env} {news : List (Addr × Obj)}
    {R : Result → Shared → Prop} {name qual : Str} {params : Arguments} {body : List Stmt} {scope : Scope} {dV kV doc pm cdv ct oc : Value} {an od : Option Addr} {osl : Array (Option Value)} {f : Addr} {args : Args} {binds : List (Str × Value)}
    (B : Below A₀ base outer h₀) (F : Fr h₀ L s.heap m) (X₀ : K.In h₀) (N : News h₀ L s.heap news) (T : Top p loose mean mg mb h₀) (hA : A.frames = some (env :: outer)) (hf : env.frame = some L) (hke : env.scope.kind = .function)
    (ho : K.lookup f = some ⟨oc, od, .func (fnOf name qual params body scope dV kV doc pm an cdv ct), osl⟩) (hcd : codeIn K cdv qual = true) (hroom : A.depth < recursionLimit)
    (hbind : BindsTo s (fnOf name qual params body scope dV kV doc pm an cdv ct) args binds) (hkind : (binds.all fun y => scope.names.lookup y.1 == some .local || scope.names.lookup y.1 == some .cell) = true)
    (hnd : ((cellsFrom 0 scope.names []).map (·.1)).Nodup)
    (h : ∀ g L' h₁ tk cells, Fr h₀ L g m → Fr g L' h₁ (bindL (envOfC qual scope L' f cdv).kindOf binds fun _ => none) → News g L' h₁ (cells ++ news) →
      CellsAre (bindC (envOfC qual scope L' f cdv).kindOf binds fun _ => none) (cellsFrom (L' + 1) scope.names []) cells → Below A base (env :: outer) g → K.In g → Top p loose mean mg mb g → (∀ p ∈ news, p.1 < L') → GSub s.heap g (news.map (·.1)) →
      wpAny (model prog w) (A.deeper (envOfC qual scope L' f cdv)) (execs body (envOfC qual scope L' f cdv))
        (fun fl s' => R (.ok (.ret (match fl with | .ret v => v | _ => .none))) s')
        (fun e s' => wpAny (model prog w) (A.deeper (envOfC qual scope L' f cdv)) (leaving (envOfC qual scope L' f cdv) e) (fun _ s'' => R (.error e) s'') (fun e' s'' => R (.error e') s'') s')
        { s with heap := h₁, toks := tk })
    (hco : scope.isCoroutine = false) (hgen : scope.isGenerator = false) (hk : scope.kind = .function) : codeAny (model prog w) A (.call (.ref f) args) R s := by
  obtain ⟨FG, BG, st, lv⟩ := groundX (R := R) B F N hA hf hke
  refine codeAny_call_function hroom ((X₀.keeps F.keep) _ _ ho) rfl hco hgen rfl (codeRec_of (X₀.keeps F.keep) hcd) (hbind _ _ _ _ ?_)
  refine wpAny_newFunctionEnv_cells hk (kindsX hkind _) fun env' he s' x => ?_
  subst he
  refine ⟨(T.nolimit.keeps F.keep).keeps x.toInCall.keep, codeAny_func ?_⟩
  obtain ⟨h₁, tk, rfl, _⟩ := x.done
  have hk₁ := x.toInCall.keep
  obtain ⟨cells, NC, Y⟩ := Cl.news (h₀ := s.heap) (Nat.le_refl _) fun n c hm => ⟨x.cell n c (lookup_of_mem_nodup (cellsFrom_names scope.names 0 (s.heap.objs.size + 1) [] [] rfl ▸ hnd) hm), x.above n c hm⟩
  refine wpAny_mono (h _ s.heap.objs.size h₁ tk cells FG ⟨x.toInCall.ns, fun b o e => hk₁ b o (of_hideAll _ e), Nat.le_of_eq (hideAll_size _ _)⟩ (fun p hp => ?_) Y BG (X₀.keeps st) (T.keeps st) (fun p hp => Heap.lt_size (N p hp).1) (fun b o e n => hideAll_get _ e n)) (fun fl s' hl => ?_) fun _ _ y => y
  · rcases List.mem_append.mp hp with hp | hp
    · refine ⟨(NC p hp).1, (NC p hp).2.1, ?_⟩
      cases q : (hideAll s.heap (news.map (·.1))).get? p.1 with
      | none => rfl
      | some o => have := of_hideAll _ q; rw [(NC p hp).2.2] at this; cases this
    · exact ⟨hk₁ _ _ (N p hp).1, Nat.ne_of_lt (Heap.lt_size (N p hp).1), hideAll_none _ (List.mem_map_of_mem hp)⟩
  · rcases fl with _ | _ | _ | _ <;> exact hl
section
variable {w : World} {p : Program} {loose : List Str} {mean : ExcName → Option Value} {mg mb : Str → Option Value} {f : Addr} {vs : List Value} {dn un : Nat} {NL : List (Addr × Obj)} {Post : List (Addr × Obj) → Value → Prop}
theorem specT_use (Sp : SpecT w p loose mean mg mb f vs dn un NL Post) {dp u : Nat} {gd : Option (List Code)} {A₀ : Around} {base h₀ : Heap} {env : Env} {outer : List Env} {L : Addr} {m : Str → Option Value} {s : Shared} {Q E : Value → Shared → Prop}
    (B : Below A₀ base outer h₀) (F : Fr h₀ L s.heap m) (XB : (hd.heap_39 w.params).In base) (TB : Top p loose mean mg mb base) (hf : env.frame = some L) (hk : env.scope.kind = .function) (hd' : dp + dn < recursionLimit) (hu : u + un < cLine)
    (N : News h₀ L s.heap NL) (ret : ∀ r h' tk' h₁ NL', KtsTurn (frs outer) h₀ h₁ → Fr h₁ L h' m → News h₁ L h' NL' → Below A₀ base outer h₁ → (hd.heap_39 w.params).In h₁ → Top p loose mean mg mb h₁ → Post NL' r → Q r { s with heap := h', toks := tk' }) :
    wpAny (model PySem.Challenge.rw_og0176_01.row.prog w) (arnd dp u gd env outer) (call (.ref f) vs) Q E s :=
  Sp _ _ _ _ _ _ _ _ _ _ _ _ _ B F XB TB hf hk hd' hu N fun r h' tk' h₁ NL' a b c d e => ret r h' tk' h₁ NL' a b c d (XB.keeps d.stays) (TB.keeps d.stays) e
theorem specE_le (Sp : SpecE w p loose mean mg mb f vs dn un NL) {dn' un' : Nat} (h1 : dn ≤ dn') (h2 : un ≤ un') : SpecE w p loose mean mg mb f vs dn' un' NL :=
  fun dp u gd A₀ base h₀ env outer L m s Q E B F X T hf hk hd hu N ret => Sp dp u gd A₀ base h₀ env outer L m s Q E B F X T hf hk (by omega) (by omega) N ret
end
section
variable {prog : Program} {w : World} {A : Around} {E : Value → Shared → Prop} {s : Shared} {h₀ : Heap} {L : Addr} {m : Str → Option Value} {nw : List (Addr × Obj)} {Q : Value → Shared → Prop}
theorem add_lst_N {l b : Addr} {xs ys : List Value} {k j : Nat} (F : Fr h₀ L s.heap m) (N : News h₀ L s.heap nw) (hl : (l, listOf xs.toArray k) ∈ nw) (hb : (b, listOf ys.toArray j) ∈ nw) (hsz : xs.length + ys.length ≤ 100)
    (h : ∀ h' D, Fr h₀ L h' m → News h₀ L h' ((D, listOf (xs ++ ys).toArray 0) :: nw) → (∀ p ∈ nw, @LT.lt Nat _ p.1 D) → Q (.ref D) { s with heap := h' }) :
    wpAny (model prog w) A (binaryOp .Add (.ref l) (.ref b)) Q E s :=
  add_lists (hsz := by rw [sizeLine_eq]; omega) F N ⟨_, (N _ hl).1, rfl, k, rfl⟩ ⟨_, (N _ hb).1, rfl, j, rfl⟩ fun h' F' N' => h h' _ F' N' fun p hp => Heap.lt_size (N p hp).1
open Classical in
theorem notin_dat {ax : Addr} {xs : List Value} {ds : List Dat} {k : Nat} {v : Value} {d : Dat} (N : News h₀ L s.heap nw) (hm : (ax, listOf xs.toArray k) ∈ nw) (hs : All₂ (fun v d => KeyD d ∧ DatIn nw v d) xs ds) (hk : KeyD d) (hv : DatIn nw v d) (hu : A.units + 2 < cLine)
    (h : Q (.bool (!decide (d ∈ ds))) s) : wpAny (model prog w) A (compareOp .NotIn v (.ref ax)) Q E s := by
  have H := has_news N
  have ka : KeyAt s.heap v d := ⟨hk, nw, H, hv⟩
  have hall : ∀ y ∈ xs, ∃ e, KeyAt s.heap y e := fun y hy => by
    obtain ⟨i, hi⟩ := List.getElem?_of_mem hy
    obtain ⟨e, _, h1, h2⟩ := hs.get hi
    exact ⟨e, h1, nw, H, h2⟩
  refine notIn_listAt (fun y => decide (KeyAt s.heap y d)) ⟨_, (N _ hm).1, rfl, k, rfl⟩ (fun y hy => ?_) ?_
  · obtain ⟨e, he⟩ := hall y (by simpa using hy)
    have q := KeyAt.eq (A := A.in1) he ka (by show A.units + 1 + 1 < cLine; omega)
    have e2 : decide (e = d) = decide (KeyAt s.heap y d) := by
      by_cases z : e = d
      · subst z; simp [he]
      · have : ¬ KeyAt s.heap y d := fun q => z (he.det q)
        simp [z, this]
    rw [e2] at q; exact q
  · have e : (xs.toArray.any fun y => decide (KeyAt s.heap y d)) = decide (d ∈ ds) := by
      rw [Bool.eq_iff_iff]
      simp only [List.any_toArray, List.any_eq_true, decide_eq_true_eq]
      constructor
      · rintro ⟨y, hy, hyd⟩
        obtain ⟨i, hi⟩ := List.getElem?_of_mem hy
        obtain ⟨e, he, h1, h2⟩ := hs.get hi
        have : e = d := KeyAt.det ⟨h1, nw, H, h2⟩ hyd
        exact this ▸ List.mem_of_getElem? he
      · intro hd
        obtain ⟨i, hi⟩ := List.getElem?_of_mem hd
        have hlt : i < xs.length := by rw [hs.length]; exact (List.getElem?_eq_some_iff.mp hi).1
        obtain ⟨e, he, h1, h2⟩ := hs.get (List.getElem?_eq_getElem hlt)
        rw [hi] at he
        cases he
        exact ⟨xs[i], List.getElem_mem hlt, h1, nw, H, h2⟩
    rw [e]; exact h
end
theorem heres_app {wy : Str} {vs us : List Value} {rs qs : List (Bool × Str)} (h : vs.length = rs.length) : heres wy (vs ++ us) (rs ++ qs) = heres wy vs rs ++ heres wy us qs := by
  unfold heres; rw [List.zip_append h, List.filterMap_append]
theorem heres_no {wy : Str} : ∀ {vs : List Value} {rs : List (Bool × Str)}, (∀ r ∈ rs, r.1 = false) → heres wy vs rs = []
  | [], _, _ => rfl
  | _ :: _, [], _ => rfl
  | v :: vs, r :: rs, h => by
    have e : hereB wy r = false := by unfold hereB; rw [h r (.head _)]; rfl
    have ih := heres_no (wy := wy) (vs := vs) (rs := rs) fun x hx => h x (.tail _ hx)
    unfold heres at ih ⊢
    rw [List.zip_cons_cons, List.filterMap_cons]
    simp only [e]
    exact ih
end
section
open Sem (wp)
inductive RowS (NL : List (Addr × Obj)) (newv : Value) (v : Value) (r : Dat × Nat) : Prop
  | mk (a pp : Addr) (kv : Value) (t1 t2 : Tok) (n1 n2 : Nat) : v = .ref a → (a, tupOf [.ref pp, .str (S "gone") t1, newv, .none].toArray n1) ∈ NL → (pp, tupOf [kv, .int (r.2 : Int) t2].toArray n2) ∈ NL → KeyD r.1 → DatIn NL kv r.1 → RowS NL newv v r
theorem RowS.mono {T T' : List (Addr × Obj)} (hs : ∀ p ∈ T, p ∈ T') {newv v : Value} {r : Dat × Nat} : RowS T newv v r → RowS T' newv v r := by
  rintro ⟨a, pp, kv, t1, t2, n1, n2, e, h1, h2, h3, h4⟩
  exact ⟨a, pp, kv, t1, t2, n1, n2, e, hs _ h1, hs _ h2, h3, h4.mono hs⟩
theorem RowS.g {NL : List (Addr × Obj)} {newv v : Value} {nd : Dat} {r : Dat × Nat} (hn : DatIn NL newv nd) : RowS NL newv v r → RowG NL v (r.1, rowD nd r.2) := by
  rintro ⟨a, pp, kv, t1, t2, n1, n2, e, h1, h2, h3, h4⟩
  exact ⟨a, pp, kv, .int (r.2 : Int) t2, .str (S "gone") t1, newv, .none, .int r.2, .str (S "gone"), nd, .none, n1, n2, e, h1, h2, h3, h4, .int _ _, .str _ _, hn, .none, rfl⟩
theorem RowS.i {NL : List (Addr × Obj)} {newv v : Value} {r : Dat × Nat} : RowS NL newv v r → RowIn NL v (false, S "gone") := by
  rintro ⟨a, pp, kv, t1, t2, n1, n2, e, h1, h2, h3, h4⟩
  exact ⟨a, pp, [kv, .int (r.2 : Int) t2], newv, .none, n1, n2, t1, e, h1, h2, rfl, by simp⟩
noncomputable abbrev StepIn (T : List (Addr × Obj)) (v : Value) (d : Dat) : Prop := KeyD d ∧ DatIn T v d
section
variable {prog : Program} {w : World} {A : Around} {E : Value → Shared → Prop} {s : Shared} {env : Env} {h₀ : Heap} {L : Addr} {m : Str → Option Value} {Q : Value → Shared → Prop}
noncomputable abbrev rowsScope : Scope := { kind := .function, names := [(S ".0", .local), (S "at", .local), (S "step", .local), (S "new", .free)], isGenerator := false, isCoroutine := false, more := [] }
theorem free_new {scope : Scope} {cl : List (Str × Addr)} {C : Addr} (hk : env.scope.kind = .function) (hk1 : env.kindOf (S "new") = some .cell) : (compEnvC rowsScope cl C env).kindOf (S "new") = some .cell := by
  unfold compEnvC relabel Env.kindOf
  simp only [List.map]
  rw [hk, show List.lookup (S "new") env.scope.names = some .cell from hk1]
  rfl
theorem cendX {h₀ h' : Heap} {L C D : Addr} {m : Str → Option Value} {oC oD : Obj} {own nw tl : List (Addr × Obj)} {adr : List Addr} {Jn : List (Addr × Obj) → Prop} {s₁ : Shared} {tk : Nat} (F : Fr h₀ L h' m) (N : News h₀ L h' (tl ++ (C, oC) :: (D, oD) :: (own ++ nw)))
    (ab : Above ((C, oC) :: (D, oD) :: (own ++ nw)) tl) (had : ∀ a ∈ adr, @LE.le Nat _ a C) (off : Off nw adr) (J : Jn (tl ++ nw)) : CEnd h₀ L m adr ((C, oC) :: (D, oD) :: own) Jn s₁ { s₁ with heap := h', toks := tk } := by
  refine ⟨h', tk, tl ++ nw, rfl, F, fun p hp => N p ?_, fun p hp ha => ?_, J⟩
  · rcases List.mem_append.mp hp with hp | hp
    · refine List.mem_append.mpr (.inr ?_)
      rcases List.mem_cons.mp hp with rfl | hp
      · exact .head _
      · rcases List.mem_cons.mp hp with rfl | hp
        · exact .tail _ (.head _)
        · exact .tail _ (.tail _ (List.mem_append.mpr (.inl hp)))
    · rcases List.mem_append.mp hp with hp | hp
      · exact List.mem_append.mpr (.inl hp)
      · exact List.mem_append.mpr (.inr (sub_big p hp))
  · rcases List.mem_append.mp hp with hp | hp
    · exact absurd (ab (C, oC) (.head _) p hp) (Nat.not_lt.mpr (had _ ha))
    · exact off p hp ha
set_option maxRecDepth 100000 in
set_option maxHeartbeats 2000000 in
theorem rows_block {cl : List (Str × Addr)} {Y Z : List (Addr × Obj)} {c1 ax : Addr} {o1 : Obj} {newv : Value} {sv : List Value} {st : List Dat} {k : Nat} {y : Str} {py p1 p2 p3 p4 p5 p6 p7 p8 p9 q1 cpos : Pos} {QN : Shared → Prop} {iter : Expr}
    (hh : A.handled = none) (F : Fr h₀ L s.heap m) (N : News h₀ L s.heap Y) (hk : env.scope.kind = .function) (hk1 : env.kindOf (S "new") = some .cell) (hc1 : cl.lookup (S "new") = some c1) (m1 : (c1, o1) ∈ Y) (e1 : o1.data = .cell (some newv))
    (hm : (ax, listOf sv.toArray k) ∈ Y) (hZ : ∀ p ∈ Z, p ∈ Y) (hs : All₂ (StepIn Z) sv st) (hl : sv.length ≤ 50)
    (hL : env.locals = L) (hy : env.kindOf y = some .local) (hp : (env.scope.kind == .class || (env.scope.kind == .module && env.locals != env.globals)) = false)
    (done : ∀ (D : Addr) ys kD tl h tk, (∀ p ∈ Y, @LT.lt Nat _ p.1 D) → Fr h₀ L h (fun z => if z = y then some (.ref D) else m z) → News h₀ L h ((D, listOf ys.toArray kD) :: (tl ++ Y)) → Above Y tl → All₂ (RowS (tl ++ Z) newv) ys st.zipIdx → QN { s with heap := h, toks := tk }) :
    wpAny (model prog w) A (call (.type "enumerate") [.ref ax]) (fun xv s₁ => wpAny (model prog w) A (pyIter xv) (fun it s₂ => BlockRun prog w A E env
      (.ListComp (.Tuple [.Tuple [.Name (S "step") p1, .Name (S "at") p2] 0 p3, .Constant (.str (S "gone")) 0 p4, .Name (S "new") p5, .Constant .none 0 p6] 0 p7) [⟨.Tuple [.Name (S "at") p8, .Name (S "step") p9] 0 q1, iter, [], 0⟩] rowsScope cpos) rowsScope cl
      (fun acc C => compPost (model prog w) A E (some (assign (.Name y py) env)) (fun _ s' => QN s') acc C) it s₂) E s₁) E s := by
  have hsl := hs.length
  refine comp_enumR (h₀ := h₀) (L := L) (m := m) (nw₀ := Y) _ (fun i ys nw => ∃ tl, nw = tl ++ Y ∧ Above Y tl ∧ All₂ (RowS (tl ++ Z) newv) ys (st.zipIdx.take i)) hh F N hm ⟨[], rfl, above_nil, by simpa using All₂.nil⟩ (by rw [sizeLine_eq]; omega) (by decide) rfl rfl rfl (by decide) ?_ ?_
  · (intro C D I oC own i v ys kD nw h tk mC E' hZZ1 hx2 hx3 hZZ2 hoff hsI hID hDC hown F' hn' N'; refine via fun GG hGG => ?_; obtain ⟨t, hx1⟩ := hZZ1; obtain ⟨tl, rfl, ab, hys⟩ := hZZ2; refine hGG ?_; clear hGG GG)
    obtain ⟨d, hd, hkd, hvd⟩ := hs.get hx2
    refine wpAny_tests_nil ?_
    rw [if_pos rfl]
    have hkk := free_new (scope := rowsScope) (cl := cl) (C := C) hk hk1
    have hNs := nsO hn' (N' _ (.head _)).1
    have mm1 : (c1, o1) ∈ (C, oC) :: (D, listOf ys.toArray kD) :: (own ++ (tl ++ Y)) := sub_big _ (List.mem_append.mpr (.inr m1))
    repeat' (first | (k_unfold; (try dsimp only)) | (k_end; wrow_close) | ((fail_if_success (fail_if_success (with_reducible show wpAny _ _ (eval (PySem.Expr.Name _ _) _) _ _ _))); (first | (k_dflt (refine' name_cellC ?N9z ?hc9z ?hm9z ?hd9z ?_ ?hk9z ?hl9z ?hb9z; (case N9z => k_asm); (case hc9z => assumption); (case hd9z => assumption); (case hm9z => k_mem); (case hk9z => rfl); (case hl9z => assumption); (case hb9z => decide))) | (k_dflt (refine' name_CO ?H9z ?N9z ?hm9z ?hv9z ?_ ?a9z ?b9z ?c9z; (case H9z => assumption); (case N9z => k_asm); (case hm9z => k_mem); (case hv9z => with_reducible assumption); (case a9z => rfl); (case b9z => rfl); (case c9z => decide)))); try dsimp only) | (walk1; try dsimp only) | (dsimp only; walk1; try dsimp only))
    rename (News h₀ L _ (_ :: _ :: (C, oC) :: _)) => N2
    rename (News h₀ L _ (_ :: (C, oC) :: _)) => N1
    have hlt1 := fun q hq => Heap.lt_size (N' q hq).1
    have hlt2 := fun q hq => Heap.lt_size (N1 q hq).1
    refine cendX (tl := [_, _]) (by assumption) N2 ?_ ?_ hoff ⟨_ :: _ :: tl, rfl, ?_, ?_⟩
    · intro q hq p hp
      rcases List.mem_cons.mp hp with rfl | hp
      · exact hlt2 q (.tail _ hq)
      · rw [List.mem_singleton.mp hp]; exact hlt1 q hq
    · intro a ha
      rcases List.mem_cons.mp ha with rfl | ha
      · exact Nat.le_refl _
      · rcases List.mem_cons.mp ha with rfl | ha
        · exact Nat.le_of_lt hDC
        · rcases List.mem_cons.mp ha with rfl | ha
          · exact Nat.le_of_lt (Nat.lt_trans hID hDC)
          · rw [List.mem_singleton.mp ha]; exact Nat.le_of_lt (Nat.lt_trans (Nat.lt_succ_self _) (Nat.lt_trans hID hDC))
    · intro q hq p hp
      have hq' := sub_big (a := (C, oC)) (b := (D, listOf ys.toArray kD)) (own := own) q (List.mem_append.mpr (.inr hq) : q ∈ tl ++ Y)
      rcases List.mem_cons.mp hp with rfl | hp
      · exact hlt2 q (.tail _ hq')
      · rcases List.mem_cons.mp hp with rfl | hp
        · exact hlt1 q hq'
        · exact ab q hq p hp
    · rw [List.take_add_one, show st.zipIdx[i]? = some (d, i) from by rw [List.getElem?_zipIdx, hd]; simp]
      exact (hys.mono fun _ _ x => x.mono fun q hq => .tail _ (.tail _ hq)).snoc ⟨_, _, v, _, t, 0, 0, rfl, .head _, .tail _ (.head _), hkd, hvd.mono fun q hq => .tail _ (.tail _ (List.mem_append.mpr (.inr hq)))⟩
  · (intro D C ys kD nw h tk mC hD hDC hoff hZZ1 F' hn hC0 hLC N'; refine via fun GG hGG => ?_; obtain ⟨tl, rfl, ab, hys⟩ := hZZ1; refine hGG ?_; clear hGG GG)
    rw [hsl, ← List.length_zipIdx, List.take_length] at hys
    exact post_A (QF := fun _ s => QN s) hDC hoff F' hn hC0 hLC N' hL hy hp fun h' tk' F2 N2 => done D ys kD tl h' tk' hD F2 N2 ab hys
end
end
section
open Sem (wp)
open Classical in
theorem KeyAt.rc {s : Shared} {A : Around} {a b : Value} {d d' : Dat} (x : KeyAt s.heap a d) (y : KeyAt s.heap b d') (hu : A.units + 1 < cLine) : RcAt A s a b (decide (d = d')) := by
  have hu' : A.units < cLine := by omega
  rcases x.shape with ⟨u, t, rfl, rfl⟩ | ⟨i, t, rfl, rfl⟩ | ⟨l, u, t, n, rfl, rfl, hl⟩ <;> rcases y.shape with ⟨u', t', rfl, rfl⟩ | ⟨i', t', rfl, rfl⟩ | ⟨l', u', t', n', rfl, rfl, hl'⟩
  · have := RcAt.str_str (A := A) (s := s) u t u' t'
    rwa [show (u == u') = decide (Dat.str u = Dat.str u') from by by_cases q : u = u' <;> simp [q]] at this
  · simpa using RcAt.str_int (A := A) (s := s) u t i' t'
  · simpa using RcAt.str_tuple (A := A) u t ⟨_, hl', rfl, _, rfl⟩ hu'
  · simpa using RcAt.int_str (A := A) (s := s) i t u' t'
  · have := RcAt.int_int (A := A) (s := s) i t i' t'
    rwa [show (i == i') = decide (Dat.int i = Dat.int i') from by by_cases q : i = i' <;> simp [q]] at this
  · simpa using RcAt.int_tuple (A := A) i t ⟨_, hl', rfl, _, rfl⟩ hu'
  · simpa using RcAt.tuple_str (A := A) u' t' ⟨_, hl, rfl, _, rfl⟩ hu'
  · simpa using RcAt.tuple_int (A := A) i' t' ⟨_, hl, rfl, _, rfl⟩ hu'
  · have := RcAt.tuples (A := A) (e := fun _ => u == u') ⟨_, hl, rfl, _, rfl⟩ ⟨_, hl', rfl, _, rfl⟩ hu' fun j h1 h2 => by
      obtain rfl : j = 0 := by simpa using h1
      exact EqAt.str_str u t u' t'
    rwa [show (List.all (List.range (min ([Value.str u t].toArray.size) ([Value.str u' t'].toArray.size))) (fun _ => u == u') && [Value.str u t].toArray.size == [Value.str u' t'].toArray.size) = decide (Dat.tuple [.str u] = Dat.tuple [.str u']) from by by_cases q : u = u' <;> simp [q, List.range, List.range.loop]] at this
section
variable {prog : Program} {w : World} {A : Around} {E : Value → Shared → Prop} {s : Shared} {env : Env} {h₀ : Heap} {L : Addr} {m : Str → Option Value} {Q : Value → Shared → Prop}
noncomputable abbrev dueScope : Scope := { kind := .function, names := [(S ".0", .local), (S "at", .local), (S "other", .local), (S "new", .free), (S "step", .free)], isGenerator := false, isCoroutine := false, more := [] }
theorem free_new2 {cl : List (Str × Addr)} {C : Addr} (hk : env.scope.kind = .function) (hk1 : env.kindOf (S "new") = some .cell) (hk2 : env.kindOf (S "step") = some .cell) : (compEnvC dueScope cl C env).kindOf (S "new") = some .cell ∧ (compEnvC dueScope cl C env).kindOf (S "step") = some .cell := by
  unfold compEnvC relabel Env.kindOf
  simp only [List.map]
  rw [hk, show List.lookup (S "new") env.scope.names = some .cell from hk1, show List.lookup (S "step") env.scope.names = some .cell from hk2]
  exact ⟨rfl, rfl⟩
open Classical in
set_option maxRecDepth 100000 in
set_option maxHeartbeats 2000000 in
theorem due_block {cl : List (Str × Addr)} {Y Z : List (Addr × Obj)} {c1 c2 ax : Addr} {o1 o2 : Obj} {newv kv : Value} {sv : List Value} {st : List Dat} {nd kd : Dat} {k : Nat} {p1 p2 p3 p4 p5 p6 p7 p8 p9 q1 q2 q3 cpos : Pos} {iter : Expr}
    (hh : A.handled = none) (F : Fr h₀ L s.heap m) (N : News h₀ L s.heap Y) (hk : env.scope.kind = .function) (hk1 : env.kindOf (S "new") = some .cell) (hc1 : cl.lookup (S "new") = some c1) (m1 : (c1, o1) ∈ Y) (e1 : o1.data = .cell (some newv))
    (hk2 : env.kindOf (S "step") = some .cell) (hc2 : cl.lookup (S "step") = some c2) (m2 : (c2, o2) ∈ Y) (e2 : o2.data = .cell (some kv)) (hkv : StepIn Y kv kd) (hZ : ∀ p ∈ Z, p ∈ Y) (hnd : DatIn Z newv nd) (hu : A.units + 10 < cLine)
    (hm : (ax, listOf sv.toArray k) ∈ Y) (hs : All₂ (StepIn Y) sv st) (hl : sv.length ≤ 50)
    (done : ∀ (D : Addr) ys kD tl h tk, (∀ p ∈ Y, @LT.lt Nat _ p.1 D) → Fr h₀ L h m → News h₀ L h ((D, listOf ys.toArray kD) :: (tl ++ Y)) → Above Y tl → DatAll (tl ++ Z) ys (partOf (rowsD nd st) kd) → Q (.ref D) { s with heap := h, toks := tk }) :
    wpAny (model prog w) A (call (.type "enumerate") [.ref ax]) (fun xv s₁ => wpAny (model prog w) A (pyIter xv) (fun it s₂ => CompRun prog w A E env
      (.ListComp (.Tuple [.Tuple [.Name (S "at") p1] 0 p2, .Constant (.str (S "gone")) 0 p3, .Name (S "new") p4, .Constant .none 0 p5] 0 p6) [⟨.Tuple [.Name (S "at") p7, .Name (S "other") p8] 0 p9, iter, [.Compare (.Name (S "other") q1) [.Eq] [.Name (S "step") q2] q3], 0⟩] dueScope cpos) dueScope cl Q it s₂) E s₁) E s := by
  have hsl := hs.length
  refine comp_enumR (h₀ := h₀) (L := L) (m := m) (nw₀ := Y) _ (fun i ys nw => ∃ tl, nw = tl ++ Y ∧ Above Y tl ∧ DatAll (tl ++ Z) ys (partOf ((rowsD nd st).take i) kd)) hh F N hm ⟨[], rfl, above_nil, by simpa [partOf] using DatAll.nil⟩ (by rw [sizeLine_eq]; omega) (by decide) rfl rfl rfl (by decide) ?_ ?_
  · (intro C D I oC own i v ys kD nw h tk mC E' hZZ1 hx2 hx3 hZZ2 hoff hsI hID hDC hown F' hn' N'; refine via fun GG hGG => ?_; obtain ⟨t, hx1⟩ := hZZ1; obtain ⟨tl, rfl, ab, hys⟩ := hZZ2; refine hGG ?_; clear hGG GG)
    obtain ⟨d, hd, hkd, hvd⟩ := hs.get hx2
    have htk : partOf ((rowsD nd st).take (i + 1)) kd = partOf ((rowsD nd st).take i) kd ++ if d = kd then [rowD nd i] else [] := by
      rw [List.take_add_one, rows_get hd]
      exact part_snoc _ _ _
    refine wpAny_tests_one ?_
    obtain ⟨hkk1, hkk2⟩ := free_new2 (cl := cl) (C := C) hk hk1 hk2
    have hNs := nsO hn' (N' _ (.head _)).1
    have hY : ∀ q ∈ Y, q ∈ (C, oC) :: (D, listOf ys.toArray kD) :: (own ++ (tl ++ Y)) := fun q hq => sub_big q (List.mem_append.mpr (.inr hq))
    have mm1 := hY _ m1
    have mm2 := hY _ m2
    repeat' (first | (k_unfold; (try dsimp only)) | (k_end; wrow_close) | ((fail_if_success (fail_if_success (with_reducible show wpAny _ _ (eval (PySem.Expr.Name _ _) _) _ _ _))); (first | (k_dflt (refine' name_cellC ?N9z ?hc9z ?hm9z ?hd9z ?_ ?hk9z ?hl9z ?hb9z; (case N9z => k_asm); (case hc9z => assumption); (case hm9z => k_mem); (case hd9z => assumption); (case hk9z => rfl); (case hl9z => assumption); (case hb9z => decide))) | (k_dflt (refine' name_CO ?H9z ?N9z ?hm9z ?hv9z ?_ ?a9z ?b9z ?c9z; (case H9z => assumption); (case N9z => k_asm); (case hm9z => k_mem); (case hv9z => with_reducible assumption); (case a9z => rfl); (case b9z => rfl); (case c9z => decide)))); try dsimp only) | (walk1; try dsimp only) | (dsimp only; walk1; try dsimp only))
    refine EqBoolInt.of_rc (KeyAt.rc ⟨hkd, Y, fun q hq => (N' q (hY q hq)).1, hvd⟩ ⟨hkv.1, Y, fun q hq => (N' q (hY q hq)).1, hkv.2⟩ (by omega)) ?_
    by_cases hdk : d = kd
    · rw [decide_eq_true hdk]
      rw [if_pos hdk] at htk
      refine wpAny_truthy_bool ?_
      rw [if_pos rfl]
      repeat' (first | (k_unfold; (try dsimp only)) | (k_end; wrow_close) | ((fail_if_success (fail_if_success (with_reducible show wpAny _ _ (eval (PySem.Expr.Name _ _) _) _ _ _))); (first | (k_dflt (refine' name_cellC ?N9z ?hc9z ?hm9z ?hd9z ?_ ?hk9z ?hl9z ?hb9z; (case N9z => k_asm); (case hc9z => assumption); (case hm9z => k_mem); (case hd9z => assumption); (case hk9z => rfl); (case hl9z => assumption); (case hb9z => decide))) | (k_dflt (refine' name_CO ?H9z ?N9z ?hm9z ?hv9z ?_ ?a9z ?b9z ?c9z; (case H9z => assumption); (case N9z => k_asm); (case hm9z => k_mem); (case hv9z => with_reducible assumption); (case a9z => rfl); (case b9z => rfl); (case c9z => decide)))); try dsimp only) | (walk1; try dsimp only) | (dsimp only; walk1; try dsimp only))
      rename (News h₀ L _ (_ :: _ :: (C, oC) :: _)) => N2
      rename (News h₀ L _ (_ :: (C, oC) :: _)) => N1
      have hlt1 := fun q hq => Heap.lt_size (N' q hq).1
      have hlt2 := fun q hq => Heap.lt_size (N1 q hq).1
      refine cendX (tl := [_, _]) (by assumption) N2 ?_ ?_ hoff ⟨_ :: _ :: tl, rfl, ?_, ?_⟩
      · intro q hq p hp
        rcases List.mem_cons.mp hp with rfl | hp
        · exact hlt2 q (.tail _ hq)
        · rw [List.mem_singleton.mp hp]; exact hlt1 q hq
      · intro a ha
        rcases List.mem_cons.mp ha with rfl | ha
        · exact Nat.le_refl _
        · rcases List.mem_cons.mp ha with rfl | ha
          · exact Nat.le_of_lt hDC
          · rcases List.mem_cons.mp ha with rfl | ha
            · exact Nat.le_of_lt (Nat.lt_trans hID hDC)
            · rw [List.mem_singleton.mp ha]; exact Nat.le_of_lt (Nat.lt_trans (Nat.lt_succ_self _) (Nat.lt_trans hID hDC))
      · intro q hq p hp
        have hq' := sub_big (a := (C, oC)) (b := (D, listOf ys.toArray kD)) (own := own) q (List.mem_append.mpr (.inr hq) : q ∈ tl ++ Y)
        rcases List.mem_cons.mp hp with rfl | hp
        · exact hlt2 q (.tail _ hq')
        · rcases List.mem_cons.mp hp with rfl | hp
          · exact hlt1 q hq'
          · exact ab q hq p hp
      · rw [htk]
        exact (hys.mono fun q hq => .tail _ (.tail _ hq)).append (DatAll.one (.tuple (.head _) (.cons (.tuple (.tail _ (.head _)) (.cons (.int _ _) .nil)) (.cons (.str _ _) (.cons (hnd.mono fun q hq => .tail _ (.tail _ (List.mem_append.mpr (.inr hq)))) (.cons .none .nil))))))
    · rw [decide_eq_false hdk]
      rw [if_neg hdk, List.append_nil] at htk
      refine wpAny_truthy_bool ?_
      rw [if_neg Bool.false_ne_true]
      exact ⟨_, _, _, rfl, F', fun p hp => N' p (by simpa using hp), hoff, tl, rfl, ab, by rw [htk]; exact hys⟩
  · (intro D C ys kD nw h tk mC hD hDC hoff hZZ1 F' hn hC0 hLC N'; refine via fun GG hGG => ?_; obtain ⟨tl, rfl, ab, hys⟩ := hZZ1; refine hGG ?_; clear hGG GG)
    rw [hsl, ← rows_len nd st, List.take_length] at hys
    exact post_V hDC hoff F' hn hC0 hLC N' fun h' F2 N2 => done D ys kD tl h' tk hD F2 N2 ab hys
end
end
section
open Sem (wp)
section
variable {prog : Program} {w : World} {A : Around} {E : Value → Shared → Prop} {s : Shared} {env : Env} {h₀ : Heap} {L : Addr} {m : Str → Option Value} {Q : Value → Shared → Prop}
theorem KTurns.ofWalksT {I : Addr} {fp wr : List Addr} {n : Nat} {P : Nat → Value → Prop} {St : Nat → Heap → Prop} {elts : List Expr} {k : Nat} {pos : Pos} (W : Walks prog w A I fp wr n P St) (T : List (Addr × Obj)) (hT : ∀ p ∈ T, p.1 ∉ wr)
    (hgo : ∀ i v (s : Shared) (Q : Unit → Shared → Prop) (E : Value → Shared → Prop), St i s.heap → Q () s → wpAny (model prog w) A (letOwnedTupleGo (.Tuple elts k pos) (.ref I) v) Q E s) :
    KTurns prog w A (.Tuple elts k pos) I (fp ++ T.map (·.1)) wr n (fun i v h => P i v ∧ Has h T) (fun i v h => P i v ∧ St (i + 1) h ∧ Has h T) (fun i h => St i h ∧ Has h T) where
  sub := fun b hb => List.mem_append.mpr (.inl (W.sub b hb))
  frame := fun i h h' st hk => ⟨W.frame i h h' st.1 fun b hb => hk b (List.mem_append.mpr (.inl hb)), fun p hp => hk p.1 (List.mem_append.mpr (.inr (List.mem_map_of_mem hp))) p.2 (st.2 p hp)⟩
  item := fun i s Q E hi st hQ => W.item i s Q E hi st.1 fun v h' tk hP st' hk => hQ v h' tk ⟨hP, st', fun p hp => hk p.1 p.2 (hT p hp) (st.2 p hp)⟩ hk
  go := fun i v s Q E hm hQ => hgo (i + 1) v s Q E hm.2.1 (hQ s.heap ⟨hm.1, hm.2.2⟩ hm.2 fun _ _ _ e => e)
  done := fun s Q E st hQ => W.done s Q E st.1 hQ
theorem ones_block {cl : List (Str × Addr)} {scope : Scope} {Y : List (Addr × Obj)} {ax : Addr} {vs xs : List Value} {k : Nat} {x y : Str} {p1 p2 p3 p4 cpos : Pos} {kt : Nat} {iter : Expr}
    (hh : A.handled = none) (F : Fr h₀ L s.heap m) (N : News h₀ L s.heap Y) (hm : (ax, listOf vs.toArray k) ∈ Y) (hl : vs.length ≤ 50)
    (hs : All₂ (fun v u => ∃ a z n, v = .ref a ∧ (a, tupOf [u, z].toArray n) ∈ Y) vs xs)
    (hcell : ∀ y ∈ scope.names, y.2 ≠ .cell) (hkind : scope.kind = .function) (hx : scope.names.lookup x = some .local) (hy : scope.names.lookup y = some .local) (hxy : ¬ x = y) (hxd : (x == ("__debug__" : Str)) = false)
    (done : ∀ (D : Addr) kD h tk, (∀ p ∈ Y, @LT.lt Nat _ p.1 D) → Fr h₀ L h m → News h₀ L h ((D, listOf xs.toArray kD) :: Y) → Q (.ref D) { s with heap := h, toks := tk }) :
    wpAny (model prog w) A (pyIter (.ref ax)) (fun it s₂ => CompRun prog w A E env (.ListComp (.Name x p1) [⟨.Tuple [.Name x p2, .Name y p3] kt p4, iter, [], 0⟩] scope cpos) scope cl Q it s₂) E s := by
  have hlen := hs.length
  have hls : s.heap.IsList ax vs.toArray := ⟨_, (N _ hm).1, rfl, k, rfl⟩
  have hlt : ax < s.heap.objs.size := Heap.lt_size (N _ hm).1
  refine wpAny_pyIter_list hls ?_
  have W := Walks.list (prog := prog) (w := w) hh s.heap.objs.size ax (Nat.ne_of_lt hlt) vs.toArray
  rw [show vs.toArray.size = vs.length from by simp] at W
  have hsize : (s.heap.push { cls := .type "list_iterator", data := .fields #[.ref ax, .int 0 0] }).objs.size = s.heap.objs.size + 1 := Heap.size_push _ _
  have N1 : News h₀ L (s.heap.push { cls := .type "list_iterator", data := .fields #[.ref ax, .int 0 0] }) Y := fun p hp => ⟨Heap.get?_push_of_some _ (N p hp).1, (N p hp).2⟩
  refine comp_turnsR (s := { s with heap := s.heap.push { cls := .type "list_iterator", data := .fields #[.ref ax, .int 0 0] } }) (nw₀ := Y) _ (fun i ys nw => nw = Y ∧ ys = xs.take i) (fun i v mC => ∃ u, xs[i]? = some u ∧ mC x = some u)
    (KTurns.ofWalksT (elts := [.Name x p2, .Name y p3]) (k := kt) (pos := p4) W Y (fun p hp e => ?_) fun i v s Q E st q => letGo_listiter st.1 q) (fun s Q E st hq => wpAny_pyIter_listiter st.1.1 hq) ?_ ?_ ?_ ?_
    ⟨⟨⟨_, Heap.get?_push_size _ rfl, rfl, rfl⟩, hls.at fun o e => Heap.get?_push_of_some _ e⟩, fun p hp => (N1 p hp).1⟩ (F.push _) N1 ⟨rfl, rfl⟩ (by rw [sizeLine_eq]; omega) hcell hkind ?_ ?_ ?_
  · exact absurd (Heap.lt_size (N p hp).1) ((List.mem_singleton.mp e) ▸ Nat.lt_irrefl _)
  · intro hI
    rcases List.mem_append.mp hI with hI | hI
    · rcases List.mem_cons.mp hI with e | hI
      · exact absurd F.ns.lt (e ▸ Nat.lt_irrefl _)
      · exact (N _ hm).2.1 (List.mem_singleton.mp hI).symm
    · obtain ⟨p, hp, e⟩ := List.mem_map.mp hI
      exact (N p hp).2.1 e
  · intro b hb
    rw [List.mem_singleton.mp hb]
    exact next_is_new F
  · intro b hb
    show b < (s.heap.push _).objs.size
    rw [hsize]
    rcases List.mem_append.mp hb with hb | hb
    · rcases List.mem_cons.mp hb with e | hb
      · rw [e]; exact Nat.lt_succ_self _
      · rw [List.mem_singleton.mp hb]; exact Nat.lt_succ_of_lt hlt
    · obtain ⟨p, hp, e⟩ := List.mem_map.mp hb
      exact e ▸ Nat.lt_succ_of_lt (Heap.lt_size (N p hp).1)
  · intro p hp hI
    exact absurd (Heap.lt_size (N p hp).1) ((List.mem_singleton.mp hI) ▸ Nat.lt_irrefl _)
  · rintro C i v s₁ mC Q' E' ⟨hv, hT⟩ hn hC hq
    have hv' : vs[i]? = some v := by simpa using hv
    obtain ⟨u, hu, a, z, n, rfl, ha⟩ := hs.get hv'
    refine kcp_assign hh ⟨_, hT _ ha, rfl, _, rfl⟩ (lookup_relabel_local hx) (lookup_relabel_local hy) (by simp [compEnvC, relabel, hkind]) hn fun h₂ tk₂ hn₂ hk₂ => ?_
    exact hq h₂ tk₂ _ (fun b o hb e => hk₂ b o hb e) hn₂ ⟨u, hu, by simp [hxy]⟩
  · (intro C D oC own i v ys kD nw h tk mC E' hi hZZ1 hZZ2 hoff hwD hD hC hown F' hn' N'; refine via fun GG hGG => ?_; obtain ⟨u, hu, hmu⟩ := hZZ1; obtain ⟨rfl, rfl⟩ := hZZ2; refine hGG ?_; clear hGG GG)
    refine wpAny_tests_nil ?_
    rw [if_pos rfl]
    refine name_C hn' hmu ?_ (by simp [compEnvC, relabel, hkind]) (lookup_relabel_local hx) hxd
    exact ⟨_, _, _, rfl, F', fun p hp => N' p (by simpa using hp), hoff, rfl, by rw [List.take_add_one, hu]; rfl⟩
  · rintro D C ys kD nw h tk mC hD hDC hoff ⟨rfl, rfl⟩ F' hn hC0 hLC N'
    rw [show (Shared.heap _).objs.size = s.heap.objs.size + 1 from hsize] at hD
    rw [hlen, List.take_length] at N'
    exact post_V hDC hoff F' hn hC0 hLC N' fun h' F2 N2 => done D kD h' tk (fun p hp => Nat.lt_of_lt_of_le (Heap.lt_size (N p hp).1) (Nat.le_trans (Nat.le_succ _) hD)) F2 N2
end
end
section
open Sem (wp)
section
variable {prog : Program} {w : World} {A : Around} {E : Value → Shared → Prop} {s : Shared} {env : Env} {h₀ : Heap} {L : Addr} {m : Str → Option Value} {Q : Value → Shared → Prop}
theorem sub_get {value slice : Expr} {d : Addr} {k : Value} (hT : s.TypeIs (.ref d) "dict") (h : wpAny (model prog w) A (getItem (.ref d) k) Q E s) (hs : subscripted slice false (.ref d) k = operate [.ref d, k] (getItem (.ref d) k) := by with_unfolding_all rfl) (hg : ∀ r, letTemporaryGo value (.ref d) r = pure () := by intro _; with_unfolding_all rfl) :
    wpAny (model prog w) A (subscriptTail value slice (.ref d) k) Q E s := subscriptTail_builtin hT slot_dict_getitem.lookup h hs hg
noncomputable abbrev foundScope : Scope := { kind := .function, names := [(S ".0", .local), (S "step", .local), (S "found", .free)], isGenerator := false, isCoroutine := false, more := [] }
theorem free_found {cl : List (Str × Addr)} {C : Addr} (hk : env.scope.kind = .function) (hk1 : env.kindOf (S "found") = some .cell) : (compEnvC foundScope cl C env).kindOf (S "found") = some .cell := by
  unfold compEnvC relabel Env.kindOf
  simp only [List.map]
  rw [hk, show List.lookup (S "found") env.scope.names = some .cell from hk1]
  rfl
theorem found_block {cl : List (Str × Addr)} {Y T : List (Addr × Obj)} {d c1 : Addr} {o o1 : Obj} {gs : List Grp} {p1 p2 p3 p4 p5 p6 cpos : Pos} {iter : Expr}
    (hh : A.handled = none) (F : Fr h₀ L s.heap m) (N : News h₀ L s.heap Y) (hk : env.scope.kind = .function) (hk1 : env.kindOf (S "found") = some .cell) (hc1 : cl.lookup (S "found") = some c1) (m1 : (c1, o1) ∈ Y) (e1 : o1.data = .cell (some (.ref d))) (hu : A.units + 10 < cLine)
    (hm : (d, o) ∈ Y) (lo : (d == sysModules) = false) (tb : Tab w T o (gs.map (·.kd)) (gs.map fun x => .ref x.g)) (hT : ∀ p ∈ T, p ∈ Y) (hg : ∀ x ∈ gs, (x.g, listOf x.xs.toArray x.n) ∈ Y ∧ DatAll Y x.xs x.es) (hl : gs.length ≤ 50)
    (done : ∀ (D : Addr) ys kD tl h tk, (∀ p ∈ Y, @LT.lt Nat _ p.1 D) → Fr h₀ L h m → News h₀ L h ((D, listOf ys.toArray kD) :: (tl ++ Y)) → Above Y tl → DatAll (tl ++ Y) ys (gs.map fun x => .tuple [x.kd, .list x.es]) → Q (.ref D) { s with heap := h, toks := tk }) :
    wpAny (model prog w) A (pyIter (.ref d)) (fun it s₂ => CompRun prog w A E env
      (.ListComp (.Tuple [.Name (S "step") p1, .Subscript (.Name (S "found") p2) (.Name (S "step") p3) p4] 0 p5) [⟨.Name (S "step") p6, iter, [], 0⟩] foundScope cpos) foundScope cl Q it s₂) E s := by
  obtain ⟨es, ep, hx, hdd, he, hvs, hn⟩ := id tb
  have hod := (N _ hm).1
  dsimp only at hod
  have hes : es.size = gs.length := by rw [← Array.length_toList, he.length, List.length_map]
  refine tab_iter lo hod hx.1 hdd ?_
  have hlt : d < s.heap.objs.size := Heap.lt_size hod
  have W := Walks.tab (prog := prog) (w := w) hh s.heap.objs.size d (Nat.ne_of_lt hlt) o es ep hdd
  have hsize : (s.heap.push { cls := .type "dict_keyiterator", data := .fields #[.ref d, .int 0 0, .int es.size 0, .int ep 0] }).objs.size = s.heap.objs.size + 1 := Heap.size_push _ _
  have N1 : News h₀ L (s.heap.push { cls := .type "dict_keyiterator", data := .fields #[.ref d, .int 0 0, .int es.size 0, .int ep 0] }) Y := fun p hp => ⟨Heap.get?_push_of_some _ (N p hp).1, (N p hp).2⟩
  refine comp_turnsR (s := { s with heap := s.heap.push { cls := .type "dict_keyiterator", data := .fields #[.ref d, .int 0 0, .int es.size 0, .int ep 0] } }) (nw₀ := Y) _ (fun i ys nw => ∃ tl, nw = tl ++ Y ∧ Above Y tl ∧ DatAll (tl ++ Y) ys ((gs.take i).map fun x => .tuple [x.kd, .list x.es])) (fun i v mC => (∃ e, es[i]? = some e ∧ v = e.key) ∧ mC (S "step") = some v)
    (KTurns.ofWalks (target := .Name (S "step") p6) W fun i v s Q E st h => wpAny_pure h) (fun s Q E st hq => wpAny_pyIter_keyiter st.1 hq) ?_ ?_ ?_ ?_
    ⟨⟨_, Heap.get?_push_size _ rfl, rfl, rfl⟩, (N1 _ hm).1⟩ (F.push _) N1 ⟨[], rfl, above_nil, .nil⟩ (by rw [sizeLine_eq]; omega) (by decide) rfl ?_ ?_ ?_
  · intro hI
    rcases List.mem_cons.mp hI with e | hI
    · exact absurd F.ns.lt (e ▸ Nat.lt_irrefl _)
    · exact (N _ hm).2.1 (List.mem_singleton.mp hI).symm
  · intro b hb
    rw [List.mem_singleton.mp hb]
    exact next_is_new F
  · intro b hb
    show b < (s.heap.push _).objs.size
    rw [hsize]
    rcases List.mem_cons.mp hb with e | hb
    · rw [e]; exact Nat.lt_succ_self _
    · rw [List.mem_singleton.mp hb]; exact Nat.lt_succ_of_lt hlt
  · intro p hp hI
    exact absurd (Heap.lt_size (N p hp).1) ((List.mem_singleton.mp hI) ▸ Nat.lt_irrefl _)
  · intro C i v s₁ mC Q' E' hP hn hC hq
    refine wpAny_assign_Name (wpAny_storeName_local (lookup_relabel_local (by decide)) hn (fun h₂ hn₂ hs₂ => hq h₂ _ _ hs₂.extBut hn₂ ⟨hP, by simp⟩) (by simp [compEnvC, relabel]))
  · (intro C D oC own i v ys kD nw h tk mC E' hi hZZ1 hZZ2 hoff hwD hD hC hown F' hn' N'; refine via fun GG hGG => ?_; obtain ⟨⟨e, hei, rfl⟩, hmv⟩ := hZZ1; obtain ⟨tl, rfl, ab, hys⟩ := hZZ2; refine hGG ?_; clear hGG GG)
    have hY : ∀ q ∈ Y, q ∈ (C, oC) :: (D, listOf ys.toArray kD) :: (own ++ (tl ++ Y)) := fun q hq => sub_big q (List.mem_append.mpr (.inr hq))
    rw [hes] at hi
    have hgi : gs[i]? = some gs[i] := List.getElem?_eq_getElem hi
    generalize hx' : gs[i] = x at hgi
    have hxm := List.mem_of_getElem? hgi
    obtain ⟨kd, hkd, ⟨hk1', hk2'⟩, _⟩ := he.get (by rw [Array.getElem?_toList]; exact hei)
    rw [List.getElem?_map, hgi] at hkd
    cases hkd
    obtain ⟨mg1, mg2⟩ := hg x hxm
    refine wpAny_tests_nil ?_
    rw [if_pos rfl]
    have hkk := free_found (cl := cl) (C := C) hk hk1
    refine Tuple_ ?_
    show wpAny _ _ (spliced [(false, eval (.Name (S "step") p1) _), (false, eval (.Subscript (.Name (S "found") p2) (.Name (S "step") p3) p4) _)]) _ _ _
    refine spliced_cons (name_C hn' hmv ?_ rfl rfl)
    refine spliced_cons (Subscript_ (name_cellC N' hc1 (hY _ m1) e1 ?_ rfl hkk))
    refine name_C hn' hmv ?_ rfl rfl
    refine sub_get ⟨o, (N' _ (hY _ hm)).1, hx.1⟩ ?_
    refine getitem_N (j := i) (v := .ref x.g) (by omega) N' (hY _ hm) (fun p hp => hY _ (hT p hp)) tb hk1' (hk2'.mono fun q hq => hY _ (hT q hq)) (by rw [List.getElem?_map, hgi]; rfl) (by rw [List.getElem?_map, hgi]; rfl) fun tk2 => ?_
    refine spliced_nil ?_
    refine newTuple_N F' N' (fun h3 F3 N3 => ?_) (by rw [sizeLine_eq]; simp)
    have hlt1 := fun q hq => Heap.lt_size (N' q hq).1
    refine cendX (tl := [_]) F3 N3 ?_ ?_ hoff ⟨_ :: tl, rfl, ?_, ?_⟩
    · intro q hq p hp
      rw [List.mem_singleton.mp hp]; exact hlt1 q hq
    · intro a ha
      rcases List.mem_cons.mp ha with rfl | ha
      · exact Nat.le_refl _
      · rcases List.mem_cons.mp ha with rfl | ha
        · exact Nat.le_of_lt hC
        · exact Nat.le_of_lt (Nat.lt_trans (hwD _ ha) hC)
    · intro q hq p hp
      rcases List.mem_cons.mp hp with rfl | hp
      · exact hlt1 q (hY q hq)
      · exact ab q hq p hp
    · rw [List.take_add_one, hgi, List.map_append]
      have hs1 : ∀ q ∈ Y, q ∈ (h.objs.size, ({ cls := .type "tuple", data := .seq [e.key, .ref x.g].toArray } : Obj)) :: (tl ++ Y) := fun q hq => .tail _ (List.mem_append.mpr (.inr hq))
      exact (hys.mono fun q hq => .tail _ hq).append (DatAll.one (.tuple (.head _) (.cons (hk2'.mono fun q hq => hs1 _ (hT q hq)) (.cons (.list (hs1 _ mg1) (mg2.mono hs1)) .nil))))
  · (intro D C ys kD nw h tk mC hD hDC hoff hZZ1 F' hn hC0 hLC N'; refine via fun GG hGG => ?_; obtain ⟨tl, rfl, ab, hys⟩ := hZZ1; refine hGG ?_; clear hGG GG)
    rw [show (Shared.heap _).objs.size = s.heap.objs.size + 1 from hsize] at hD
    rw [hes, List.take_length] at hys
    exact post_V hDC hoff F' hn hC0 hLC N' fun h' F2 N2 => done D ys kD tl h' tk (fun p hp => Nat.lt_of_lt_of_le (Heap.lt_size (N p hp).1) (Nat.le_trans (Nat.le_succ _) hD)) F2 N2 ab hys
end
end
section
open Sem (wp)
noncomputable abbrev stepsScope : Scope := { kind := .function, names := [(S ".0", .local), (S "spot", .local), (S "_law_draw", .globalImplicit), (S "pen", .free)], isGenerator := false, isCoroutine := false, more := [] }
theorem free_pen {env : Env} {cl : List (Str × Addr)} {C : Addr} (hk : env.scope.kind = .function) (hk1 : env.kindOf (S "pen") = some .cell) : (compEnvC stepsScope cl C env).kindOf (S "pen") = some .cell := by
  unfold compEnvC relabel Env.kindOf
  simp only [List.map]
  rw [hk, show List.lookup (S "pen") env.scope.names = some .cell from hk1]
  rfl
theorem pen_front {h₀ h : Heap} {L : Addr} {a b c d : Addr × Obj} {own P R : List (Addr × Obj)} (N : News h₀ L h (a :: b :: c :: d :: (own ++ (P ++ R)))) : News h₀ L h (P ++ (a :: b :: c :: d :: (own ++ R))) := fun q hq => N q (by
  ((repeat' (first | (rcases List.mem_append.mp hq with hq | hq) | (rcases List.mem_cons.mp hq with rfl | hq))) <;> (first | k_mem | cases hq)))
section
set_option maxRecDepth 100000 in
set_option maxHeartbeats 2000000 in
theorem steps_block {w : World} {p : Program} {loose : List Str} {mean : ExcName → Option Value} {mg mb : Str → Option Value} {dp u : Nat} {gd : Option (List Code)} {A₀ : Around} {base h₀ : Heap} {env : Env} {outer : List Env} {L : Addr} {m : Str → Option Value} {s : Shared} {E : Value → Shared → Prop} {QN : Shared → Prop}
    {pa la : Nat} {P Y : List (Addr × Obj)} {b d : Int} {c1 ar : Addr} {o1 : Obj} {t1 t2 t3 : Tok} {cl : List (Str × Addr)} {y : Str} {py p1 p2 p3 p4 p5 p6 p7 p8 p9 q1 q2 q3 cpos : Pos} {iter : Expr}
    (B : Below A₀ base outer h₀) (F : Fr h₀ L s.heap m) (X : (hd.heap_39 w.params).In h₀) (T : Top p loose mean mg mb h₀) (hf : env.frame = some L) (hg : env.globals = mainGlobals) (hk : env.scope.kind = .function)
    (hk1 : env.kindOf (S "pen") = some .cell) (hdp : dp + 10 < recursionLimit) (hu : u + 100 < cLine)
    (hP : PenSt pa la b P) (hY : Hi pa la Y) (hb : b ≤ 80000) (N : News h₀ L s.heap (P ++ Y)) (hc1 : cl.lookup (S "pen") = some c1) (m1 : (c1, o1) ∈ Y) (e1 : o1.data = .cell (some (.ref pa)))
    (hr : IsRange s.heap ar 0 d 1 t1 t2 t3) (h0 : 0 ≤ d) (h4 : d < 6)
    (hL : env.locals = L) (hy : env.kindOf y = some .local) (hp : (env.scope.kind == .class || (env.scope.kind == .module && env.locals != env.globals)) = false)
    (done : ∀ (D : Addr) ys kD P' tl st h tk, (∀ p ∈ P ++ Y, @LT.lt Nat _ p.1 D) → Fr h₀ L h (fun z => if z = y then some (.ref D) else m z) → News h₀ L h ((D, listOf ys.toArray kD) :: (P' ++ (tl ++ Y))) → PenSt pa la (b + 5) P' → Above (P' ++ Y) tl → All₂ (StepIn tl) ys st → ys.length ≤ 5 → QN { s with heap := h, toks := tk }) :
    wpAny (model PySem.Challenge.rw_og0176_01.row.prog w) (arnd dp u gd env outer) (pyIter (.ref ar)) (fun it s₂ => BlockRun PySem.Challenge.rw_og0176_01.row.prog w (arnd dp u gd env outer) E env
      (.ListComp (.Subscript (.List [.Constant (.str (S "A")) 0 p1, .Constant (.int 3) 0 p2, .Tuple [.Constant (.str (S "head")) 0 p3] 0 p4, .Constant (.str (S "B")) 0 p5] p6) (.Call (.Name (S "_law_draw") p7) [.Name (S "pen") p8, .Constant (.int 4) 0 p9] [] q1) q2) [⟨.Name (S "spot") q3, iter, [], 0⟩] stepsScope cpos) stepsScope cl
      (fun acc C => compPost (model PySem.Challenge.rw_og0176_01.row.prog w) (arnd dp u gd env outer) E (some (assign (.Name y py) env)) (fun _ s' => QN s') acc C) it s₂) E s := by
  have hpn := pen_has hP
  refine comp_rangeR (h₀ := h₀) (L := L) (m := m) (nw₀ := P ++ Y) _ (fun i ys nw => ∃ P' tl st, nw = P' ++ (tl ++ Y) ∧ PenSt pa la (b + i) P' ∧ Above (P' ++ Y) tl ∧ All₂ (StepIn tl) ys st ∧ ys.length = i) rfl hr h0 (by omega) F N ⟨P, [], [], rfl, by simpa using hP, above_nil, .nil, rfl⟩ (by decide) rfl rfl ?_ ?_
  · (intro C D I oC own i v ys kD nw h tk mC E' hi hx hZZ1 hoff hsI hID hDC hown F' hn' N'; refine via fun GG hGG => ?_; obtain ⟨P', tl, st, rfl, hP', ab, hys, hyl⟩ := hZZ1; refine hGG ?_; clear hGG GG)
    refine wpAny_tests_nil ?_
    rw [if_pos rfl]
    obtain ⟨⟨o3, mp1⟩, o4, mp2⟩ := hpn
    have hpa : @LT.lt Nat _ pa I := Nat.lt_of_lt_of_le (Heap.lt_size (N _ (List.mem_append.mpr (.inl mp1))).1) hsI
    have hla : @LT.lt Nat _ la I := Nat.lt_of_lt_of_le (Heap.lt_size (N _ (List.mem_append.mpr (.inl mp2))).1) hsI
    have hkk1 := free_pen (cl := cl) (C := C) hk hk1
    have hYm : ∀ q ∈ Y, q ∈ (C, oC) :: (D, listOf ys.toArray kD) :: (own ++ (P' ++ (tl ++ Y))) := fun q hq => sub_big q (List.mem_append.mpr (.inr (List.mem_append.mpr (.inr hq))))
    have mm1 := hYm _ m1
    refine Subscript_ (List_ ?_)
    show wpAny _ _ (spliced [(false, eval (.Constant (.str (S "A")) 0 p1) _), (false, eval (.Constant (.int 3) 0 p2) _), (false, eval (.Tuple [.Constant (.str (S "head")) 0 p3] 0 p4) _), (false, eval (.Constant (.str (S "B")) 0 p5) _)]) _ _ _
    refine spliced_cons (Constant_str (spliced_cons (wpAny_Constant_int (spliced_cons (Tuple_ ?_)))))
    show wpAny _ _ (spliced [(false, eval (.Constant (.str (S "head")) 0 p3) _)]) _ _ _
    refine spliced_cons (Constant_str (spliced_nil (newTuple_N F' N' (fun h1 F1 N1 => ?_) (by rw [sizeLine_eq]; simp))))
    refine spliced_cons (Constant_str (spliced_nil (newList_N F1 N1 (fun h2 F2 N2 => ?_) (by rw [sizeLine_eq]; simp))))
    refine Call_Name2 ?_ rfl
    refine nameG_K F2 X (topRead_of T) (by k_is : _ = some (some (.ref 369))) ?_ hg rfl rfl (by decide)
    refine callWith_of (P := (hd.heap_39 w.params).In) rfl (keeps_K (by k_is)) (evalArgs_plain ?_)
    refine spliced_cons (name_cellC N2 hc1 (.tail _ (.tail _ mm1)) e1 ?_ rfl hkk1)
    refine spliced_cons (wpAny_Constant_int (spliced_nil ⟨X.keeps F2.keep, ?_⟩))
    have hlt0 := fun q hq => Heap.lt_size (N' q hq).1
    have hlt1 := fun q hq => Heap.lt_size (N1 q hq).1
    have hCh : @LT.lt Nat _ C h.objs.size := hlt0 (C, oC) (.head _)
    have hCh1 : @LT.lt Nat _ C h1.objs.size := hlt1 (C, oC) (.tail _ (.head _))
    have hpC := Nat.lt_trans hpa (Nat.lt_trans hID hDC)
    have hlC := Nat.lt_trans hla (Nat.lt_trans hID hDC)
    refine spec_use (draw_ok hP' (by omega) (.cons ⟨Nat.lt_trans hpC hCh1, Nat.lt_trans hlC hCh1⟩ (.cons ⟨Nat.lt_trans hpC hCh, Nat.lt_trans hlC hCh⟩ (.cons ⟨hpC, hlC⟩ (.cons ⟨Nat.lt_trans hpa hID, Nat.lt_trans hla hID⟩ (.app (fun q hq => by rw [hown q hq]; exact ⟨hpa, hla⟩) (.app (hi_above hP' ab) hY)))))) (by decide) (by decide)) B F2 X T hf hk (by omega) (by omega) (pen_front N2) ?_
    · rintro r h3 tk3 NL' F3 N3 x3 ⟨P2, dd, tt, rfl, hP2, rfl, hd0, hd4⟩
      refine list_pick N3 (List.mem_append.mpr (.inr (.head _))) hd0 (by simp; omega) (by simp) fun x hx => ?_
      obtain ⟨sd, hsd⟩ : ∃ sd, StepIn ((h.objs.size, ({ cls := .type "tuple", data := .seq [Value.str (S "head") (tk + 1 + 1)].toArray } : Obj)) :: tl) x sd := by
        simp only [List.mem_cons, List.not_mem_nil, or_false] at hx
        rcases hx with rfl | rfl | rfl | rfl
        · exact ⟨_, .str _, .str _ _⟩
        · exact ⟨_, .int _, .int _ _⟩
        · exact ⟨_, .tup _, .tuple (.head _) (.cons (.str _ _) .nil)⟩
        · exact ⟨_, .str _, .str _ _⟩
      have hY3 : ∀ q ∈ tl, q ∈ (h.objs.size, ({ cls := .type "tuple", data := .seq [Value.str (S "head") (tk + 1 + 1)].toArray } : Obj)) :: tl := fun q hq => .tail _ hq
      refine ⟨h3, tk3, P2 ++ (((h.objs.size, ({ cls := .type "tuple", data := .seq [Value.str (S "head") (tk + 1 + 1)].toArray } : Obj)) :: tl) ++ Y), rfl, F3, fun q hq => N3 q ?_, fun q hq ha => ?_, P2, _ :: tl, st ++ [sd], rfl, hP2.le (by omega), fun q hq p hp => ?_, (hys.mono fun _ _ z => ⟨z.1, z.2.mono hY3⟩).snoc hsd, by simp [hyl]⟩
      · ((repeat' (first | (rcases List.mem_append.mp hq with hq | hq) | (rcases List.mem_cons.mp hq with rfl | hq))) <;> (first | k_mem | cases hq))
      · rcases List.mem_append.mp hq with hq | hq
        · rcases pen_mem hP2 q hq with e | e
          · obtain ⟨⟨_, z⟩, _⟩ := pen_has hP'
            exact hoff _ (List.mem_append.mpr (.inl z)) (e ▸ ha)
          · obtain ⟨_, _, z⟩ := pen_has hP'
            exact hoff _ (List.mem_append.mpr (.inl z)) (e ▸ ha)
        · rcases List.mem_cons.mp hq with rfl | hq
          · rcases List.mem_cons.mp ha with e | ha
            · exact absurd e (Ne.symm (Nat.ne_of_lt hCh))
            · rcases List.mem_cons.mp ha with e | ha
              · exact absurd e (Ne.symm (Nat.ne_of_lt (Nat.lt_trans hDC hCh)))
              · exact absurd (List.mem_singleton.mp ha) (Ne.symm (Nat.ne_of_lt (Nat.lt_trans hID (Nat.lt_trans hDC hCh))))
          · exact hoff _ (List.mem_append.mpr (.inr hq)) ha
      · rcases List.mem_cons.mp hp with rfl | hp
        · rcases List.mem_append.mp hq with hq | hq
          · rcases pen_mem hP2 q hq with e | e
            · rw [e]; exact Nat.lt_trans hpC hCh
            · rw [e]; exact Nat.lt_trans hlC hCh
          · exact hlt0 q (hYm q hq)
        · exact above_pen hP' hP2 ab q hq p hp
  · (intro D C ys kD nw h tk mC hD hDC hoff hZZ1 F' hn hC0 hLC N'; refine via fun GG hGG => ?_; obtain ⟨P', tl, st, rfl, hP', ab, hys, hyl⟩ := hZZ1; refine hGG ?_; clear hGG GG)
    exact post_A (QF := fun _ s => QN s) hDC hoff F' hn hC0 hLC N' hL hy hp fun h' tk' F2 N2 => done D ys kD P' tl st h' tk' hD F2 N2 (hP'.le (by omega)) ab hys (by omega)
end
end
section
open Sem (wp)
noncomputable abbrev lrScope : Scope := { kind := .function, names := [(S "pen", .cell), (S "shape", .local), (S "new", .cell), (S "row", .local), (S "bent", .local), (S "steps", .local), (S "step", .cell), (S "rows", .local), (S "due", .local), (S "found", .cell), (S "here", .local), (S "told", .globalImplicit), (S "_law_leaf", .globalImplicit), (S "shape_applied", .globalImplicit), (S "_law_refused", .globalImplicit), (S "range", .globalImplicit), (S "_law_draw", .globalImplicit), (S "enumerate", .globalImplicit), (S "grouped", .globalImplicit), (S "single", .globalImplicit)], isGenerator := false, isCoroutine := false, more := [(S "fast", .str (S "pen")), (S "fast", .str (S "shape")), (S "fast", .str (S "new")), (S "fast", .str (S "row")), (S "fast", .str (S "bent")), (S "fast", .str (S "spot")), (S "fast", .str (S "steps")), (S "fast", .str (S "at")), (S "fast", .str (S "step")), (S "fast", .str (S "rows")), (S "fast", .str (S "due")), (S "fast", .str (S "one")), (S "fast", .str (S "some")), (S "fast", .str (S "other")), (S "fast", .str (S "found")), (S "fast", .str (S "here"))] }
noncomputable abbrev lrEnv (L : Addr) : Env := envOfC (S "_law_rows_right") lrScope L 400 (.ref 399)
noncomputable abbrev onesScope : Scope := { kind := .function, names := [(S ".0", .local), (S "one", .local), (S "some", .local)], isGenerator := false, isCoroutine := false, more := [] }
section
variable {prog : Program} {w : World} {A : Around} {E : Value → Shared → Prop} {s : Shared} {h₀ : Heap} {L : Addr} {m : Str → Option Value}
theorem store_cell_S {env : Env} {x : Str} {c : Addr} {o : Obj} {v₀ : Option Value} {v : Value} {nw : List (Addr × Obj)} {Q : Unit → Shared → Prop} (F : Fr h₀ L s.heap m) (N : News h₀ L s.heap nw) (hc : env.cells.lookup x = some c) (hm : (c, o) ∈ nw) (hd : o.data = .cell v₀)
    (h : ∀ h' o', Fr h₀ L h' m → o'.data = .cell (some v) → (∀ n2 : List (Addr × Obj), (∀ p ∈ n2, p = (c, o') ∨ (p ∈ nw ∧ p.1 ≠ c)) → News h₀ L h' n2) → Q () { s with heap := h' })
    (hk : env.scope.kind = .function) (hl : env.kindOf x = some .cell) : wpAny (model prog w) A (storeName env x v) Q E s := by
  refine wpAny_storeName_cell hk hl hc ⟨o, (N _ hm).1, hd⟩ fun h' hv hs => ?_
  obtain ⟨o', ho', hd'⟩ := hv
  exact h h' o' (F.change hs (N _ hm).2.1 (N _ hm).2.2) hd' fun n2 hsub => news_upd N hs hm ho' hsub
theorem store_cell_N {env : Env} {x : Str} {px : Pos} {c : Addr} {o : Obj} {v₀ : Option Value} {v : Value} {nw : List (Addr × Obj)} {Q : Unit → Shared → Prop} (F : Fr h₀ L s.heap m) (N : News h₀ L s.heap nw) (hc : env.cells.lookup x = some c) (hm : (c, o) ∈ nw) (hd : o.data = .cell v₀)
    (h : ∀ h' o' tk, Fr h₀ L h' m → o'.data = .cell (some v) → (∀ n2 : List (Addr × Obj), (∀ p ∈ n2, p = (c, o') ∨ (p ∈ nw ∧ p.1 ≠ c)) → News h₀ L h' n2) → Q () { s with heap := h', toks := tk })
    (hk : env.scope.kind = .function) (hl : env.kindOf x = some .cell) : wpAny (model prog w) A (assign (.Name x px) env v) Q E s :=
  wpAny_assign_Name (store_cell_S F N hc hm hd (fun h' o' a b c => h h' o' _ a b c) hk hl)
noncomputable abbrev duLed (c3 dd : Addr) (o3 : Obj) (dv : List Value) (n : Nat) (tl Y : List (Addr × Obj)) : List (Addr × Obj) := (c3, o3) :: (dd, listOf dv.toArray n) :: (tl ++ Y)
theorem due_part {T : List (Addr × Obj)} {nd : Dat} {st : List Dat} : ∀ {l : List Dat} {dv : List Value}, DatAll T dv (l.map fun k => .tuple [k, .list (partOf (rowsD nd st) k)]) → ∃ xs, All₂ (fun v u => ∃ a z n, v = .ref a ∧ (a, tupOf [u, z].toArray n) ∈ T) dv xs ∧ All₂ (DatIn T) xs l
  | [], dv, h => by cases h; exact ⟨[], .nil, .nil⟩
  | k :: l, dv, h => by
    cases h with
    | cons h1 h2 =>
      obtain ⟨xs, a, b⟩ := due_part h2
      cases h1 with
      | tuple hm ha =>
        cases ha with
        | cons hk ha =>
          cases ha with
          | cons hz ha => cases ha; exact ⟨_ :: xs, .cons ⟨_, _, _, rfl, hm⟩ a, .cons hk b⟩
end
theorem All₂.and {α β : Type} {R : α → β → Prop} {P : β → Prop} {l : List α} {m : List β} (h : ∀ x ∈ m, P x) (r : All₂ R l m) : All₂ (fun a b => P b ∧ R a b) l m := by
  induction r with
  | nil => exact .nil
  | cons a _ ih => exact .cons ⟨h _ (.head _), a⟩ (ih fun x hx => h x (.tail _ hx))
open Classical in
set_option maxRecDepth 100000 in
set_option maxHeartbeats 2000000 in
theorem due_loop {w : World} {p : Program} {loose : List Str} {mean : ExcName → Option Value} {mg mb : Str → Option Value} {dp u : Nat} {gd : Option (List Code)} {A₀ : Around} {base h₀ : Heap} {outer : List Env} {L : Addr} {m : Str → Option Value} {s : Shared} {Q : Flow → Shared → Prop} {E : Value → Shared → Prop}
    {Y Z : List (Addr × Obj)} {dd ax : Addr} {o2 o3 : Obj} {cv : Option Value} {newv : Value} {nd : Dat} {sv : List Value} {st : List Dat} {k n0 : Nat} {p1 p2 p3 p4 p5 p6 p7 p8 p9 q1 q2 q3 q4 q5 q6 q7 q8 q9 r1 r2 r3 r4 r5 r6 r7 r8 r9 u1 u2 u3 u4 u5 : Pos}
    (B : Below A₀ base outer h₀) (F : Fr h₀ L s.heap m) (X : (hd.heap_39 w.params).In h₀) (T : Top p loose mean mg mb h₀) (hdp : dp + 10 < recursionLimit) (hu : u + 100 < cLine)
    (N : News h₀ L s.heap (duLed (L + 3) dd o3 [] n0 [] Y)) (ho3 : o3.data = .cell cv) (l3 : ∀ p ∈ Y, p.1 ≠ L + 3) (ld : ∀ p ∈ Y, p.1 ≠ dd) (h3d : @LT.lt Nat _ (L + 3) dd) (m2 : (L + 2, o2) ∈ Y) (e2 : o2.data = .cell (some newv)) (hZ : ∀ p ∈ Z, p ∈ Y) (hnd : DatIn Z newv nd)
    (hm : (ax, listOf sv.toArray k) ∈ Y) (hs : All₂ (StepIn Z) sv st) (hl : sv.length ≤ 20) (hdue : m (S "due") = some (.ref dd)) (hsteps : m (S "steps") = some (.ref ax)) (hl1 : (q2.endLine == u3.line) = true)
    (done : ∀ o3' cv' dv n tl h' tk', Fr h₀ L h' m → News h₀ L h' (duLed (L + 3) dd o3' dv n tl Y) → o3'.data = .cell cv' → (∀ p ∈ tl, @LT.lt Nat _ dd p.1) → Above Y tl → DatAll (tl ++ Z) dv (dueD nd st st) → Q .next { s with heap := h', toks := tk' }) :
    wpAny (model PySem.Challenge.rw_og0176_01.row.prog w) (arnd dp u gd (lrEnv L) outer) (pyIter (.ref ax))
      (fun it s₂ => TurnsAt PySem.Challenge.rw_og0176_01.row.prog w (arnd dp u gd (lrEnv L) outer) h₀ (lrEnv L) (.Name (S "step") p1)
        [.If (.Compare (.Name (S "step") p2) [.NotIn] [.ListComp (.Name (S "one") p3) [⟨.Tuple [.Name (S "one") p4, .Name (S "some") p5] 0 p6, .Name (S "due") p7, [], 0⟩] onesScope p8] p9)
          [.Expr (.Call (.Attribute (.Name (S "due") q1) (S "append") q2) [.Tuple [.Name (S "step") q3, .ListComp (.Tuple [.Tuple [.Name (S "at") q4] 0 q5, .Constant (.str (S "gone")) 0 q6, .Name (S "new") q7, .Constant .none 0 q8] 0 q9)
            [⟨.Tuple [.Name (S "at") r1, .Name (S "other") r2] 0 r3, .Call (.Name (Str.ofString "enumerate") r4) [.Name (S "steps") r5] [] r6, [.Compare (.Name (S "other") r7) [.Eq] [.Name (S "step") r8] r9], 0⟩] dueScope u1] 0 u2] [] u3) u4] [] u5] Q E it s₂) E s := by
  refine iter_listTurns (env := lrEnv L) rfl F N (.tail _ (.tail _ hm)) rfl rfl fun I hI => items_inv0 (env := lrEnv L)
    (fun i m' news => ∃ o3 cv dv n tl, m = m' ∧ news = duLed (L + 3) dd o3 dv n tl Y ∧ o3.data = .cell cv ∧ (∀ p ∈ tl, @LT.lt Nat _ I p.1) ∧ Above Y tl ∧ dv.length ≤ i ∧ DatAll (tl ++ Z) dv (dueD nd st (st.take i)))
    ⟨o3, cv, [], n0, [], rfl, rfl, ho3, (fun _ h => nomatch h), above_nil, Nat.le_refl _, .nil⟩ ⟨.tail _ (.tail _ hm), trivial⟩ ?_ ?_
  · (intro i v m' news oI h tk hv hZZ1 hS hoI F' N'; refine via fun GG hGG => ?_; obtain ⟨o3, cv, dv, n, tl, rfl, rfl, ho3, htd, ab, hdl, hdv⟩ := hZZ1; refine hGG ?_; clear hGG GG)
    obtain ⟨d, hd, hkd, hvd⟩ := hs.get hv
    have hi20 : i < 20 := Nat.lt_of_lt_of_le (List.getElem?_eq_some_iff.mp hv).1 hl
    have h3I : @LT.lt Nat _ (L + 3) I := hI _ (.head _)
    have hdI : @LT.lt Nat _ dd I := hI _ (.tail _ (.head _))
    refine store_cell_N F' N' (c := L + 3) rfl (.tail _ (.head _)) ho3 (fun h1 o3' tk1 F1 hd3 N1 => ?_) rfl rfl
    have N1 := N1 ((I, oI) :: duLed (L + 3) dd o3' dv n tl Y) (fun q hq => by
      rcases List.mem_cons.mp hq with rfl | hq
      · exact .inr ⟨.head _, Ne.symm (Nat.ne_of_lt h3I)⟩
      · rcases List.mem_cons.mp hq with rfl | hq
        · exact .inl rfl
        · refine .inr ⟨.tail _ (.tail _ hq), ?_⟩
          rcases List.mem_cons.mp hq with rfl | hq
          · exact Ne.symm (Nat.ne_of_lt h3d)
          · rcases List.mem_append.mp hq with hq | hq
            · exact Ne.symm (Nat.ne_of_lt (Nat.lt_trans h3I (htd q hq)))
            · exact l3 q hq)
    have hkall : ∀ x ∈ st, KeyD x := All₂.right (fun _ _ z => z.1) hs
    have hI' : ∀ q ∈ tl ++ Y, q.1 ≠ I := fun q hq => (List.mem_append.mp hq).elim (fun hq => Ne.symm (Nat.ne_of_lt (htd q hq))) fun hq => Nat.ne_of_lt (hI q (.tail _ (.tail _ hq)))
    dsimp only
    iterate 6 (all_goals (try (first | (k_unfold; (try dsimp only)) | (k_end; wrow_close) | ((fail_if_success (fail_if_success (with_reducible show wpAny _ _ (eval (PySem.Expr.Name _ _) _) _ _ _))); (k_here; k_dflt (refine' nameX_L ?F9z ?v9z ?_ ?a9z ?b9z ?c9z; (case F9z => k_asm); (case v9z => with_unfolding_all assumption); (case a9z => exact rfl); (case b9z => exact rfl); (case c9z => decide))); try dsimp only) | (walk1; try dsimp only) | (dsimp only; walk1; try dsimp only))))
    obtain ⟨xs, hx1, hx2⟩ := due_part hdv
    have hxd := All₂.and (fun x hx => hkall x (List.mem_of_mem_take ((firsts_mem _ _).mp hx))) hx2
    have hsub : ∀ q ∈ tl ++ Y, q ∈ (I, oI) :: duLed (L + 3) dd o3' dv n tl Y := fun q hq => .tail _ (.tail _ (.tail _ hq))
    have hsubZ : ∀ q ∈ tl ++ Z, q ∈ (I, oI) :: duLed (L + 3) dd o3' dv n tl Y := fun q hq => (List.mem_append.mp hq).elim (fun h => hsub q (List.mem_append.mpr (.inl h))) fun h => hsub q (List.mem_append.mpr (.inr (hZ q h)))
    have hb2 : ∀ q ∈ tl ++ Y, ∀ a, q ∈ a :: (I, oI) :: duLed (L + 3) dd o3' dv n tl Y := fun q hq a => .tail _ (hsub q hq)
    refine ones_block rfl F1 N1 (.tail _ (.tail _ (.head _))) (by omega) (hx1.mono fun _ _ ⟨a, z, n, e, hm⟩ => ⟨a, z, n, e, hsubZ _ hm⟩) (by decide) rfl rfl rfl (by decide) (by decide) fun D kD h2 tk2 hD F2 N2 => ?_
    dsimp only
    refine notin_dat N2 (.head _) (hxd.mono fun _ _ z => ⟨z.1, z.2.mono fun q hq => .tail _ (hsubZ q hq)⟩) hkd (hvd.mono fun q hq => .tail _ (hsubZ q (List.mem_append.mpr (.inr hq)))) (by show u + 2 < cLine; omega) ?_
    have ht : dueD nd st (st.take (i + 1)) = dueD nd st (st.take i) ++ if d ∈ firsts (st.take i) then [] else [Dat.tuple [d, .list (partOf (rowsD nd st) d)]] := by
      unfold dueD
      rw [List.take_add_one, hd]
      show (firsts (st.take i ++ [d])).map _ = _
      rw [firsts_snoc]
      split
      · rw [List.append_nil]
      · rw [List.map_append]; rfl
    by_cases hin : d ∈ firsts (st.take i)
    · rw [decide_eq_true hin, Bool.not_true]
      rw [if_pos hin, List.append_nil] at ht
      repeat' (first | (k_unfold; (try dsimp only)) | (k_end; wrow_close) | ((fail_if_success (fail_if_success (with_reducible show wpAny _ _ (eval (PySem.Expr.Name _ _) _) _ _ _))); (k_here; k_dflt (refine' nameX_L ?F9z ?v9z ?_ ?a9z ?b9z ?c9z; (case F9z => k_asm); (case v9z => with_unfolding_all assumption); (case a9z => exact rfl); (case b9z => exact rfl); (case c9z => decide))); try dsimp only) | (walk1; try dsimp only) | (dsimp only; walk1; try dsimp only))
      exact ⟨_, _, _, duLed (L + 3) dd o3' dv n tl Y, rfl, by assumption, fun q hq => N2 q (.tail _ hq), fun q hq r hr => by
        rw [List.mem_singleton.mp hr]
        rcases List.mem_cons.mp hq with rfl | hq
        · exact Nat.ne_of_lt h3I
        · rcases List.mem_cons.mp hq with rfl | hq
          · exact Nat.ne_of_lt hdI
          · exact hI' q hq, ⟨.tail _ (.tail _ (List.mem_append.mpr (.inr hm))), trivial⟩, o3', _, dv, n, tl, rfl, rfl, hd3, htd, ab, Nat.le_succ_of_le hdl, by rw [ht]; exact hdv⟩
    · rw [decide_eq_false hin, Bool.not_false]
      rw [if_neg hin] at ht
      iterate 8 (all_goals (try (first | (k_unfold; (try dsimp only)) | (k_end; wrow_close) | ((fail_if_success (fail_if_success (with_reducible show wpAny _ _ (eval (PySem.Expr.Name _ _) _) _ _ _))); (k_here; k_dflt (refine' nameX_L ?F9z ?v9z ?_ ?a9z ?b9z ?c9z; (case F9z => k_asm); (case v9z => with_unfolding_all assumption); (case a9z => exact rfl); (case b9z => exact rfl); (case c9z => decide))); try dsimp only) | (walk1; try dsimp only) | (dsimp only; walk1; try dsimp only))))
      refine wpAny_Call_method1_late rfl hl1 rfl ?_
      iterate 1 (all_goals (try (first | (k_unfold; (try dsimp only)) | (k_end; wrow_close) | ((fail_if_success (fail_if_success (with_reducible show wpAny _ _ (eval (PySem.Expr.Name _ _) _) _ _ _))); (k_here; k_dflt (refine' nameX_L ?F9z ?v9z ?_ ?a9z ?b9z ?c9z; (case F9z => k_asm); (case v9z => with_unfolding_all assumption); (case a9z => exact rfl); (case b9z => exact rfl); (case c9z => decide))); try dsimp only) | (walk1; try dsimp only) | (dsimp only; walk1; try dsimp only))))
      refine ⟨"list", "list.append", PySem.F.plainAttrs_list, PySem.F.slot_list_append, PySem.F.type_list_append, ⟨_, (N2 _ (.tail _ (.tail _ (.tail _ (.head _))))).1, rfl⟩, ?_, ?_⟩
      · rintro b e
        cases e
        exact ⟨_, (N2 _ (.tail _ (.tail _ (.tail _ (.head _))))).1, rfl⟩
      refine Calls.callWith_builtin rfl (Calls.evalArgs_plain (Calls.spliced_cons ?_))
      iterate 11 (all_goals (try (first | (k_unfold; (try dsimp only)) | (k_end; wrow_close) | ((fail_if_success (fail_if_success (with_reducible show wpAny _ _ (eval (PySem.Expr.Name _ _) _) _ _ _))); (k_here; k_dflt (refine' nameX_L ?F9z ?v9z ?_ ?a9z ?b9z ?c9z; (case F9z => k_asm); (case v9z => with_unfolding_all assumption); (case a9z => exact rfl); (case b9z => exact rfl); (case c9z => decide))); try dsimp only) | (walk1; try dsimp only) | (dsimp only; walk1; try dsimp only))))
      refine due_block rfl F2 N2 rfl rfl rfl (hb2 _ (List.mem_append.mpr (.inr m2)) _) e2 rfl rfl (.tail _ (.tail _ (.head _))) hd3 ⟨hkd, hvd.mono fun q hq => hb2 q (List.mem_append.mpr (.inr (hZ q hq))) _⟩ (fun q hq => hb2 q (List.mem_append.mpr (.inr (hZ q hq))) _) hnd (by show u + 10 < cLine; omega) (hb2 _ (List.mem_append.mpr (.inr hm)) _) (hs.mono fun _ _ z => ⟨z.1, z.2.mono fun q hq => hb2 q (List.mem_append.mpr (.inr (hZ q hq))) _⟩) (by omega) fun D2 ys2 kD2 tl2 h3 tk3 hD2 F3 N3 ab3 hy2 => ?_
      dsimp only
      iterate 3 (all_goals (try (first | (k_unfold; (try dsimp only)) | (k_end; wrow_close) | ((fail_if_success (fail_if_success (with_reducible show wpAny _ _ (eval (PySem.Expr.Name _ _) _) _ _ _))); (k_here; k_dflt (refine' nameX_L ?F9z ?v9z ?_ ?a9z ?b9z ?c9z; (case F9z => k_asm); (case v9z => with_unfolding_all assumption); (case a9z => exact rfl); (case b9z => exact rfl); (case c9z => decide))); try dsimp only) | (walk1; try dsimp only) | (dsimp only; walk1; try dsimp only))))
      rename Addr => DT
      refine Calls.spliced_nil ?_
      rename News _ _ _ ((_, _) :: (D2, _) :: _) => N4
      rename _ ∧ AllLt _ _ => l4
      have hbig : ∀ q ∈ (D, listOf xs.toArray kD) :: (I, oI) :: duLed (L + 3) dd o3' dv n tl Y, ∀ a b, q ∈ a :: b :: (tl2 ++ (D, listOf xs.toArray kD) :: (I, oI) :: duLed (L + 3) dd o3' dv n tl Y) := fun q hq a b => .tail _ (.tail _ (List.mem_append.mpr (.inr hq)))
      refine append_N (by assumption) N4 (hbig _ (.tail _ (.tail _ (.tail _ (.head _)))) _ _) (by omega) fun h5 n5 F5 N5 => ?_
      dsimp only
      iterate 3 (all_goals (try (first | (k_unfold; (try dsimp only)) | (k_end; wrow_close) | ((fail_if_success (fail_if_success (with_reducible show wpAny _ _ (eval (PySem.Expr.Name _ _) _) _ _ _))); (k_here; k_dflt (refine' nameX_L ?F9z ?v9z ?_ ?a9z ?b9z ?c9z; (case F9z => k_asm); (case v9z => with_unfolding_all assumption); (case a9z => exact rfl); (case b9z => exact rfl); (case c9z => decide))); try dsimp only) | (walk1; try dsimp only) | (dsimp only; walk1; try dsimp only))))
      obtain ⟨l4a, l4b⟩ := l4
      have l4b := ktn_ltOf l4b
      generalize hT : ({ cls := .type "tuple", data := .seq _ } : Obj) = oT at N4 N5
      have hI2 : @LT.lt Nat _ I D2 := hD2 (I, oI) (.tail _ (.head _))
      have hIT : @LT.lt Nat _ I DT := Nat.lt_trans hI2 l4a
      have hId : ∀ q ∈ (DT, oT) :: (D2, listOf ys2.toArray kD2) :: (tl2 ++ tl), @LT.lt Nat _ I q.1 := fun q hq => by
        rcases List.mem_cons.mp hq with rfl | hq
        · exact hIT
        · rcases List.mem_cons.mp hq with rfl | hq
          · exact hI2
          · rcases List.mem_append.mp hq with hq | hq
            · exact ab3 (I, oI) (.tail _ (.head _)) q hq
            · exact htd q hq
      have hall : ∀ q ∈ (DT, oT) :: (D2, listOf ys2.toArray kD2) :: (tl2 ++ tl) ++ Y, q ∈ (DT, oT) :: (D2, listOf ys2.toArray kD2) :: (tl2 ++ (D, listOf xs.toArray kD) :: (I, oI) :: duLed (L + 3) dd o3' dv n tl Y) := fun q hq => by
        ((repeat' (first | (rcases List.mem_append.mp hq with hq | hq) | (rcases List.mem_cons.mp hq with rfl | hq))) <;> (first | k_mem | cases hq))
      refine ⟨_, _, _, duLed (L + 3) dd o3' (dv ++ [.ref DT]) n5 ((DT, oT) :: (D2, listOf ys2.toArray kD2) :: (tl2 ++ tl)) Y, rfl, by assumption, N5 _ fun q hq => ?_, fun q hq r hr => ?_, ⟨.tail _ (.tail _ (List.mem_append.mpr (.inr hm))), trivial⟩, o3', _, _, n5, (DT, oT) :: (D2, listOf ys2.toArray kD2) :: (tl2 ++ tl), rfl, rfl, hd3, hId, fun q hq r hr => ?_, by simp; omega, ?_⟩
      · rcases List.mem_cons.mp hq with rfl | hq
        · exact .inr ⟨hbig _ (.tail _ (.head _)) _ _, Ne.symm (Nat.ne_of_lt hdI)⟩
        · rcases List.mem_cons.mp hq with rfl | hq
          · exact .inr ⟨hbig _ (.tail _ (.tail _ (.head _))) _ _, Nat.ne_of_lt h3d⟩
          · rcases List.mem_cons.mp hq with rfl | hq
            · exact .inl rfl
            · refine .inr ⟨hall q hq, ?_⟩
              rcases List.mem_append.mp hq with hq | hq
              · exact Ne.symm (Nat.ne_of_lt (Nat.lt_trans hdI (hId q hq)))
              · exact ld q hq
      · rw [List.mem_singleton.mp hr]
        rcases List.mem_cons.mp hq with rfl | hq
        · exact Nat.ne_of_lt h3I
        · rcases List.mem_cons.mp hq with rfl | hq
          · exact Nat.ne_of_lt hdI
          · rcases List.mem_append.mp hq with hq | hq
            · exact Ne.symm (Nat.ne_of_lt (hId q hq))
            · exact Nat.ne_of_lt (hI q (.tail _ (.tail _ hq)))
      · have hqY := hsub q (List.mem_append.mpr (.inr hq))
        rcases List.mem_cons.mp hr with rfl | hr
        · exact l4b _ (List.mem_append.mpr (.inr (.tail _ hqY)))
        · rcases List.mem_cons.mp hr with rfl | hr
          · exact hD2 q (.tail _ hqY)
          · rcases List.mem_append.mp hr with hr | hr
            · exact ab3 q (.tail _ hqY) r hr
            · exact ab q hq r hr
      · rw [ht]
        refine (hdv.mono fun q hq => ?_).append (DatAll.one ?_)
        · ((repeat' (first | (rcases List.mem_append.mp hq with hq | hq) | (rcases List.mem_cons.mp hq with rfl | hq))) <;> (first | k_mem | cases hq))
        · subst hT
          refine .tuple (.head _) (.cons (hvd.mono fun q hq => List.mem_append.mpr (.inr hq)) (.cons (.list (.tail _ (.head _)) (hy2.mono fun q hq => ?_)) .nil))
          ((repeat' (first | (rcases List.mem_append.mp hq with hq | hq) | (rcases List.mem_cons.mp hq with rfl | hq))) <;> (first | k_mem | cases hq))
  · (intro m' news h tk hZZ1 F' N'; refine via fun GG hGG => ?_; obtain ⟨o3, cv, dv, n, tl, rfl, rfl, ho3, htd, ab, hdl, hdv⟩ := hZZ1; refine hGG ?_; clear hGG GG)
    rw [hs.length, List.take_length] at hdv
    exact done o3 cv dv n tl h tk F' N' ho3 (fun p hp => Nat.lt_trans (hI _ (.tail _ (.head _))) (htd p hp)) ab hdv
end
section
open Sem (wp)
theorem LfOk.tup {d : Dat} (h : LfOk d) : ∃ ds, d = .tuple ds ∧ nbL ds = true ∧ depL ds ≤ 1 := by
  cases h <;> exact ⟨_, rfl, by simp [nbL, nb], by simp [depL, dep]⟩
section
variable {prog : Program} {w : World} {A : Around} {E : Value → Shared → Prop} {s : Shared} {h₀ : Heap} {L : Addr} {nw T : List (Addr × Obj)} {Q : Value → Shared → Prop} {a : Addr} {ds : List Dat}
theorem ne_same (N : News h₀ L s.heap nw) (hs : DatIn T (.ref a) (.tuple ds)) (hT : ∀ p ∈ T, p ∈ nw) (hk : depL ds ≤ 60) (n1 : nbL ds = true) (hu : A.units + 70 < cLine) (h : Q (.bool false) s) :
    wpAny (model prog w) A (compareOp .NotEq (.ref a) (.ref a)) Q E s := by
  have H : Has s.heap T := fun p hp => (N _ (hT p hp)).1
  exact EqBoolInt.of_rcne (cmp_tup H H hs hs (k := 60) hk n1 n1 (by omega) (r := true) (by simp)).2 h
end
theorem dat_self {sd : List Dat} : [Dat.str (S "array"), .tuple sd] ≠ sd := fun e => by
  have := congrArg depL e
  simp only [depL, dep] at this
  omega
set_option maxRecDepth 100000 in
set_option maxHeartbeats 2000000 in
theorem lr_bent {w : World} {p : Program} {loose : List Str} {mean : ExcName → Option Value} {mg mb : Str → Option Value} {dp u : Nat} {gd : Option (List Code)} {A₀ : Around} {base g : Heap} {outer : List Env} {L : Addr} {m : Str → Option Value} {s : Shared} {Q : Flow → Shared → Prop} {E : Value → Shared → Prop}
    {T : List (Addr × Obj)} {sh na ro pp : Addr} {oN : Obj} {sd : List Dat} {t : Tok} {n1 n2 : Nat} {rest : List Stmt} {p1 p2 p3 p4 p5 p6 p7 p8 p9 q1 q2 q3 q4 q5 q6 q7 q8 q9 r1 r2 r3 r4 r5 r6 r7 r8 r9 u1 : Pos}
    (B : Below A₀ base outer g) (F : Fr g L s.heap m) (XB : (hd.heap_39 w.params).In base) (TB : Top p loose mean mg mb base) (hdp : dp + 30 < recursionLimit) (hu : u + 400 < cLine) (N : News g L s.heap T)
    (hms : m (S "shape") = some (.ref sh)) (hmr : m (S "row") = some (.ref ro)) (mN : (L + 2, oN) ∈ T) (eN : oN.data = .cell (some (.ref na))) (mr : (ro, tupOf [.ref pp, .str (S "turned") t, .ref sh, .ref na].toArray n1) ∈ T) (mp : (pp, tupOf ([] : List Value).toArray n2) ∈ T)
    (hsh : DatIn T (.ref sh) (.tuple sd)) (hnb : nbL sd = true) (hsd : depL sd ≤ 50)
    (k : ∀ h' tk' g' m', KtsTurn (frs outer) g g' → Fr g' L h' m' → News g' L h' T → Below A₀ base outer g' → Agr [S "bent"] m' m → wpAny (model PySem.Challenge.rw_og0176_01.row.prog w) (arnd dp u gd (lrEnv L) outer) (execs rest (lrEnv L)) Q E { s with heap := h', toks := tk' }) :
    wpAny (model PySem.Challenge.rw_og0176_01.row.prog w) (arnd dp u gd (lrEnv L) outer) (execs
      (.Assign [.Name (S "bent") p1] (.Tuple [.Tuple [] 0 p2, .Constant (.str (S "turned")) 0 p3, .Tuple [.Constant (.str (S "array")) 0 p4, .Name (S "shape") p5] 0 p6, .Name (S "new") p7] 0 p8) p9 ::
       .If (.BoolOp .Or [.UnaryOp .Not (.Call (.Name (S "_law_refused") q1) [.Name (S "shape") q2, .List [.Name (S "bent") q3] q4, .Constant (.int 1) 0 q5] [] q6) q7, .UnaryOp .Not (.Call (.Name (S "_law_refused") q8) [.Name (S "shape") q9, .List [.Name (S "row") r1, .Name (S "row") r2] r3, .Constant (.int 1) 0 r4] [] r5) r6] r7)
         [.Return (some (.Constant (.bool false) 0 r8)) r9] [] u1 :: rest) (lrEnv L)) Q E s := by
  have X := XB.keeps B.stays
  have Tp := TB.keeps B.stays
  iterate 43 (all_goals (try (first | (k_unfold; (try dsimp only)) | (k_end; wrow_close) | ((fail_if_success (fail_if_success (with_reducible show wpAny _ _ (eval (PySem.Expr.Name _ _) _) _ _ _))); (k_here; k_dflt (refine' nameX_L ?F9z ?v9z ?_ ?a9z ?b9z ?c9z; (case F9z => k_asm); (case v9z => with_unfolding_all assumption); (case a9z => exact rfl); (case b9z => exact rfl); (case c9z => decide))); try dsimp only) | (walk1; try dsimp only) | (dsimp only; walk1; try dsimp only))))
  rename Fr g L _ _ => F1
  rename News g L _ _ => N1
  have hT1 : ∀ q ∈ T, ∀ a b c d, q ∈ a :: b :: c :: d :: T := fun q hq a b c d => .tail _ (.tail _ (.tail _ (.tail _ hq)))
  refine specT_use (refused_1 (SpecOr.no (sa_row (es := [.str (S "array"), .tuple sd]) (.head _) (.tail _ (.head _)) (.tail _ (.tail _ (.tail _ (.head _)))) (hsh.mono fun q hq => hT1 q hq _ _ _ _) (.tuple (.tail _ (.tail _ (.head _))) (.cons (.str _ _) (.cons (hsh.mono fun q hq => hT1 q hq _ _ _ _) .nil))) (by simp only [depL, dep]; omega) hnb (by simp [nbL, nb, hnb])) dat_self)) B F1 XB TB rfl rfl (by k_room) (by k_units) N1 ?_
  rintro r4 h4 tk4 g4 NL4 T4 F4 N4 B4 X4 Tp4 ⟨e4, rfl⟩
  rw [e4] at N4
  clear e4 F1 N1
  dsimp only
  iterate 22 (all_goals (try (first | (k_unfold; (try dsimp only)) | (k_end; wrow_close) | ((fail_if_success (fail_if_success (with_reducible show wpAny _ _ (eval (PySem.Expr.Name _ _) _) _ _ _))); (k_here; k_dflt (refine' nameX_L ?F9z ?v9z ?_ ?a9z ?b9z ?c9z; (case F9z => k_asm); (case v9z => with_unfolding_all assumption); (case a9z => exact rfl); (case b9z => exact rfl); (case c9z => decide))); try dsimp only) | (walk1; try dsimp only) | (dsimp only; walk1; try dsimp only))))
  rename Fr g4 L _ _ => F5
  rename News g4 L _ _ => N5
  have hT2 : ∀ q ∈ T, ∀ a b c d e, q ∈ a :: b :: c :: d :: e :: T := fun q hq a b c d e => .tail _ (hT1 q hq _ _ _ _)
  have hR : ∀ a b c d e, RowIn (a :: b :: c :: d :: e :: T) (.ref ro) (true, S "turned") := fun a b c d e => ⟨ro, pp, [], .ref sh, .ref na, n1, n2, t, rfl, hT2 _ mr _ _ _ _ _, hT2 _ mp _ _ _ _ _, rfl, Nat.zero_le _⟩
  refine specT_use (refused_1 (sa_two (.head _) (by simp) (.cons (hR _ _ _ _ _) (.cons (hR _ _ _ _ _) .nil)) (Nat.le_refl 2))) B4 F5 XB TB rfl rfl (by k_room) (by k_units) N5 ?_
  rintro r6 h6 tk6 g6 NL6 T6 F6 N6 B6 X6 Tp6 ⟨e6, rfl⟩
  rw [e6] at N6
  clear e6 F5 N5
  dsimp only
  iterate 6 (all_goals (try (first | (k_unfold; (try dsimp only)) | (k_end; wrow_close) | ((fail_if_success (fail_if_success (with_reducible show wpAny _ _ (eval (PySem.Expr.Name _ _) _) _ _ _))); (k_here; k_dflt (refine' nameX_L ?F9z ?v9z ?_ ?a9z ?b9z ?c9z; (case F9z => k_asm); (case v9z => with_unfolding_all assumption); (case a9z => exact rfl); (case b9z => exact rfl); (case c9z => decide))); try dsimp only) | (walk1; try dsimp only) | (dsimp only; walk1; try dsimp only))))
  exact k _ _ _ _ (T4.trans T6) F6 (news_sub N6 fun q hq => hT2 q hq _ _ _ _ _) B6 (Agr.rfl.set (by decide))
end
section
open Sem (wp)
set_option maxRecDepth 100000 in
set_option maxHeartbeats 2000000 in
theorem lr_row {w : World} {p : Program} {loose : List Str} {mean : ExcName → Option Value} {mg mb : Str → Option Value} {dp u : Nat} {gd : Option (List Code)} {A₀ : Around} {base g : Heap} {outer : List Env} {L : Addr} {m : Str → Option Value} {s : Shared} {Q : Flow → Shared → Prop} {E : Value → Shared → Prop}
    {T : List (Addr × Obj)} {sh na : Addr} {oN : Obj} {sd nds : List Dat} {rest : List Stmt} {p1 p2 p3 p4 p5 p6 p7 q1 q2 q3 q4 q5 q6 q7 q8 q9 r1 r2 r3 r4 r5 r6 r7 r8 : Pos}
    (B : Below A₀ base outer g) (F : Fr g L s.heap m) (X : (hd.heap_39 w.params).In g) (Tp : Top p loose mean mg mb g) (hdp : dp + 30 < recursionLimit) (hu : u + 400 < cLine) (N : News g L s.heap T)
    (hms : m (S "shape") = some (.ref sh)) (mN : (L + 2, oN) ∈ T) (eN : oN.data = .cell (some (.ref na))) (hsh : DatIn T (.ref sh) (.tuple sd)) (hnb : nbL sd = true) (hsd : depL sd ≤ 50) (hnd : DatIn T (.ref na) (.tuple nds)) (hn1 : nbL nds = true) (hn2 : depL nds ≤ 1)
    (k : ∀ h' tk' m' pp ro t, Fr g L h' m' → News g L h' ((ro, tupOf [.ref pp, .str (S "turned") t, .ref sh, .ref na].toArray 0) :: (pp, tupOf ([] : List Value).toArray 0) :: T) → (∀ q ∈ T, @LT.lt Nat _ q.1 pp) → @LT.lt Nat _ pp ro → m' (S "row") = some (.ref ro) → Agr [S "row"] m' m →
      wpAny (model PySem.Challenge.rw_og0176_01.row.prog w) (arnd dp u gd (lrEnv L) outer) (execs rest (lrEnv L)) Q E { s with heap := h', toks := tk' }) :
    wpAny (model PySem.Challenge.rw_og0176_01.row.prog w) (arnd dp u gd (lrEnv L) outer) (execs
      (.Assign [.Name (S "row") p1] (.Tuple [.Tuple [] 0 p2, .Constant (.str (S "turned")) 0 p3, .Name (S "shape") p4, .Name (S "new") p5] 0 p6) p7 ::
       .If (.BoolOp .Or [.Compare (.Call (.Name (S "shape_applied") q1) [.Name (S "shape") q2, .List [] q3] [] q4) [.NotEq] [.Name (S "shape") q5] q6, .Compare (.Call (.Name (S "shape_applied") q7) [.Name (S "shape") q8, .List [.Name (S "row") q9] r1] [] r2) [.NotEq] [.Name (S "new") r3] r4] r5)
         [.Return (some (.Constant (.bool false) 0 r6)) r7] [] r8 :: rest) (lrEnv L)) Q E s := by
  iterate 32 (all_goals (try (first | (k_unfold; (try dsimp only)) | (k_end; wrow_close) | ((fail_if_success (fail_if_success (with_reducible show wpAny _ _ (eval (PySem.Expr.Name _ _) _) _ _ _))); (k_here; k_dflt (refine' nameX_L ?F9z ?v9z ?_ ?a9z ?b9z ?c9z; (case F9z => k_asm); (case v9z => with_unfolding_all assumption); (case a9z => exact rfl); (case b9z => exact rfl); (case c9z => decide))); try dsimp only) | (walk1; try dsimp only) | (dsimp only; walk1; try dsimp only))))
  rename News g L _ _ => N4
  refine spec_useG (sa_nil (.head _)) B (by assumption) X Tp rfl rfl (by k_room) (by k_units) N4 ?_
  (rintro GG hGG r4 h4 tk4 NL4 F4 N5 x4 ⟨e4, rfl⟩; refine hGG _ _ _ _ ?_; clear hGG GG)
  rw [e4] at N5
  clear x4 e4 N4
  dsimp only
  iterate 1 (all_goals (try (first | (k_unfold; (try dsimp only)) | (k_end; wrow_close) | ((fail_if_success (fail_if_success (with_reducible show wpAny _ _ (eval (PySem.Expr.Name _ _) _) _ _ _))); (k_here; k_dflt (refine' nameX_L ?F9z ?v9z ?_ ?a9z ?b9z ?c9z; (case F9z => k_asm); (case v9z => with_unfolding_all assumption); (case a9z => exact rfl); (case b9z => exact rfl); (case c9z => decide))); try dsimp only) | (walk1; try dsimp only) | (dsimp only; walk1; try dsimp only))))
  refine ne_same N5 hsh (fun q hq => .tail _ (.tail _ (.tail _ hq))) (by omega) hnb (by k_units) ?_
  iterate 17 (all_goals (try (first | (k_unfold; (try dsimp only)) | (k_end; wrow_close) | ((fail_if_success (fail_if_success (with_reducible show wpAny _ _ (eval (PySem.Expr.Name _ _) _) _ _ _))); (k_here; k_dflt (refine' nameX_L ?F9z ?v9z ?_ ?a9z ?b9z ?c9z; (case F9z => k_asm); (case v9z => with_unfolding_all assumption); (case a9z => exact rfl); (case b9z => exact rfl); (case c9z => decide))); try dsimp only) | (walk1; try dsimp only) | (dsimp only; walk1; try dsimp only))))
  rename News g L _ _ => N6
  have hT : ∀ q ∈ T, ∀ a b c d, q ∈ a :: b :: c :: d :: T := fun q hq a b c d => .tail _ (.tail _ (.tail _ (.tail _ hq)))
  refine spec_useG (SpecOr.ok (sa_row (.head _) (.tail _ (.tail _ (.head _))) (.tail _ (.tail _ (.tail _ (.head _)))) (hsh.mono fun q hq => hT q hq _ _ _ _) (hsh.mono fun q hq => hT q hq _ _ _ _) (by omega) hnb hnb) rfl) B (by assumption) X Tp rfl rfl (by k_room) (by k_units) N6 ?_
  (rintro GG hGG r6 h6 tk6 NL6 F6 N7 x6 ⟨e6, rfl⟩; refine hGG _ _ _ _ ?_; clear hGG GG)
  rw [e6] at N7
  clear x6 e6 N6
  dsimp only
  iterate 1 (all_goals (try (first | (k_unfold; (try dsimp only)) | (k_end; wrow_close) | ((fail_if_success (fail_if_success (with_reducible show wpAny _ _ (eval (PySem.Expr.Name _ _) _) _ _ _))); (k_here; k_dflt (refine' nameX_L ?F9z ?v9z ?_ ?a9z ?b9z ?c9z; (case F9z => k_asm); (case v9z => with_unfolding_all assumption); (case a9z => exact rfl); (case b9z => exact rfl); (case c9z => decide))); try dsimp only) | (walk1; try dsimp only) | (dsimp only; walk1; try dsimp only))))
  refine ne_same N7 hnd (fun q hq => hT q hq _ _ _ _) (by omega) hn1 (by k_units) ?_
  iterate 6 (all_goals (try (first | (k_unfold; (try dsimp only)) | (k_end; wrow_close) | ((fail_if_success (fail_if_success (with_reducible show wpAny _ _ (eval (PySem.Expr.Name _ _) _) _ _ _))); (k_here; k_dflt (refine' nameX_L ?F9z ?v9z ?_ ?a9z ?b9z ?c9z; (case F9z => k_asm); (case v9z => with_unfolding_all assumption); (case a9z => exact rfl); (case b9z => exact rfl); (case c9z => decide))); try dsimp only) | (walk1; try dsimp only) | (dsimp only; walk1; try dsimp only))))
  rename _ ∧ AllLt _ T => lt2
  exact k _ _ _ _ _ _ F6 (news_sub N7 fun q hq => .tail _ (.tail _ hq)) (by assumption) lt2.1 (by simp) (Agr.rfl.set (by decide))
end
section
open Sem (wp)
theorem swaps_ok {elt : Expr} {gens : List Comprehension} {scope : Scope} {pos py : Pos} {y : Str} {line : Nat} {env : Env} (h1 : env.blockKind = .function) (h2 : env.kindOf y = some .local) (h3 : (py.line == pos.line) = true)
    (h4 : (scope.names.any fun (n, k) => n == y && (k == .local || k == .cell)) = false) : swapsWith (.ListComp elt gens scope pos) (some (.Name y py)) line env = pure true := by
  show (pure (env.blockKind == .function && env.kindOf y == some .local && py.line == pos.line && !(scope.names.any fun (n, k) => n == y && (k == .local || k == .cell))) : Sem Bool) = pure true
  rw [h1, h2, h3, h4]; rfl
section
set_option maxRecDepth 100000 in
set_option maxHeartbeats 2000000 in
theorem lr_steps {w : World} {p : Program} {loose : List Str} {mean : ExcName → Option Value} {mg mb : Str → Option Value} {dp u : Nat} {gd : Option (List Code)} {A₀ : Around} {base g : Heap} {outer : List Env} {L : Addr} {m : Str → Option Value} {s : Shared} {Q : Flow → Shared → Prop} {E : Value → Shared → Prop}
    {pa la : Nat} {b : Int} {P Y : List (Addr × Obj)} {newv : Value} {nd : Dat} {oF oS oN oP : Obj} {cv : Option Value} {rest : List Stmt} {p1 p2 p3 p4 p5 p6 p7 p8 p9 q1 q2 q3 q4 q5 q6 q7 q8 q9 r1 r2 r3 r4 r5 r6 r7 r8 r9 u1 u2 u3 u4 u5 u6 u7 u8 u9 v1 v2 v3 v4 v5 v6 v7 v8 v9 w1 w2 w3 w4 w5 w6 w7 w8 w9 x1 x2 x3 x4 x5 x6 x7 x8 x9 t1 t2 t3 t4 t5 t6 t7 t8 t9 y1 y2 : Pos}
    (B : Below A₀ base outer g) (F : Fr g L s.heap m) (X : (hd.heap_39 w.params).In g) (Tp : Top p loose mean mg mb g) (hdp : dp + 30 < recursionLimit) (hu : u + 400 < cLine)
    (hP : PenSt pa la b P) (hb : b ≤ 79000) (hH : Hi pa la ((L + 4, oF) :: (L + 3, oS) :: Y)) (N : News g L s.heap (P ++ ((L + 4, oF) :: (L + 3, oS) :: Y)))
    (hYn : ∀ q ∈ Y, q.1 ≠ L + 3 ∧ q.1 ≠ L + 4) (hPn : ∀ q ∈ P, @LT.lt Nat _ q.1 L) (eS : oS.data = .cell cv) (mN : (L + 2, oN) ∈ Y) (eN : oN.data = .cell (some newv)) (mP : (L + 1, oP) ∈ Y) (eP : oP.data = .cell (some (.ref pa))) (hnd : DatIn Y newv nd)
    (hE : PassesOwn (model PySem.Challenge.rw_og0176_01.row.prog w) (arnd dp u gd (lrEnv L) outer) (lrEnv L) E) (hs1 : (p1.line == p2.line) = true) (hs2 : (q9.line == r1.line) = true) (hl1 : (w2.endLine == x9.line) = true)
    (k : ∀ h' tk' m' P' T rr rv n dd dv n' st, Fr g L h' m' → News g L h' ((L + 4, oF) :: T) → (∀ q ∈ T, q.1 ≠ L + 4) → PenSt pa la (b + 6) P' → (∀ q ∈ P' ++ Y, q ∈ T) → (rr, listOf rv.toArray n) ∈ T → @LT.lt Nat _ (L + 4) rr → All₂ (RowS T newv) rv st.zipIdx → rv.length ≤ 5 →
      (dd, listOf dv.toArray n') ∈ T → DatAll T dv (dueD nd st st) → (∀ x ∈ st, KeyD x) → m' (S "rows") = some (.ref rr) → m' (S "due") = some (.ref dd) → Agr [S "steps", S "rows", S "due"] m' m →
      wpAny (model PySem.Challenge.rw_og0176_01.row.prog w) (arnd dp u gd (lrEnv L) outer) (execs rest (lrEnv L)) Q E { s with heap := h', toks := tk' }) :
    wpAny (model PySem.Challenge.rw_og0176_01.row.prog w) (arnd dp u gd (lrEnv L) outer) (execs
      (.Assign [.Name (S "steps") p1] (.ListComp (.Subscript (.List [.Constant (.str (S "A")) 0 p3, .Constant (.int 3) 0 p4, .Tuple [.Constant (.str (S "head")) 0 p5] 0 p6, .Constant (.str (S "B")) 0 p7] p8) (.Call (.Name (S "_law_draw") p9) [.Name (S "pen") q1, .Constant (.int 4) 0 q2] [] q3) q4)
          [⟨.Name (S "spot") q5, .Call (.Name (Str.ofString "range") q6) [.Call (.Name (S "_law_draw") q7) [.Name (S "pen") q8, .Constant (.int 6) 0 x1] [] x2] [] x3, [], 0⟩] stepsScope p2) x4 ::
       .Assign [.Name (S "rows") q9] (.ListComp (.Tuple [.Tuple [.Name (S "step") r2, .Name (S "at") r3] 0 r4, .Constant (.str (S "gone")) 0 r5, .Name (S "new") r6, .Constant .none 0 r7] 0 r8)
          [⟨.Tuple [.Name (S "at") r9, .Name (S "step") u1] 0 u2, .Call (.Name (Str.ofString "enumerate") u3) [.Name (S "steps") u4] [] u5, [], 0⟩] rowsScope r1) u6 ::
       .Assign [.Name (S "due") u7] (.List [] u8) u9 ::
       .For (.Name (S "step") v1) (.Name (S "steps") v2)
        [.If (.Compare (.Name (S "step") v3) [.NotIn] [.ListComp (.Name (S "one") v4) [⟨.Tuple [.Name (S "one") v5, .Name (S "some") v6] 0 v7, .Name (S "due") v8, [], 0⟩] onesScope v9] w1)
          [.Expr (.Call (.Attribute (.Name (S "due") x5) (S "append") w2) [.Tuple [.Name (S "step") w3, .ListComp (.Tuple [.Tuple [.Name (S "at") w4] 0 w5, .Constant (.str (S "gone")) 0 w6, .Name (S "new") w7, .Constant .none 0 w8] 0 w9)
            [⟨.Tuple [.Name (S "at") t1, .Name (S "other") t2] 0 t3, .Call (.Name (Str.ofString "enumerate") t4) [.Name (S "steps") t5] [] t6, [.Compare (.Name (S "other") t7) [.Eq] [.Name (S "step") t8] t9], 0⟩] dueScope x6] 0 x7] [] x9) x8] [] y1] [] y2 :: rest) (lrEnv L)) Q E s := by
  iterate 1 (all_goals (try (first | (k_unfold; (try dsimp only)) | (k_end; wrow_close) | ((fail_if_success (fail_if_success (with_reducible show wpAny _ _ (call (Value.ref _) _) _ _ _))); (k_here; k_dflt ((rename PenSt _ _ _ _ => hPo); (rename Hi _ _ _ => hHc); (first | (refine' spec_useG (draw_ok hPo ?hb9z hHc ?g39z ?g49z) ?B9z ?F9z ?X9z ?T9z rfl rfl ?hd9z ?hu9z ?N9z ?_; (case B9z => k_asm); (case F9z => k_asm); (case X9z => k_asm); (case T9z => k_asm); (case hd9z => k_room); (case hu9z => k_units); (case N9z => k_asm); (case hb9z => omega); (case g39z => decide); (case g49z => decide)) | ((refine' pen_norm hPo hHc ?N09z ?l09z ?_; (case N09z => k_asm); (case l09z => assumption); clear hHc; intro hHc Nc); refine' spec_useG (draw_ok hPo ?hb9z hHc ?g39z ?g49z) ?B9z ?F9z ?X9z ?T9z rfl rfl ?hd9z ?hu9z ?N9z ?_; (case B9z => k_asm); (case F9z => k_asm); (case X9z => k_asm); (case T9z => k_asm); (case hd9z => k_room); (case hu9z => k_units); (case N9z => k_asm); (case hb9z => omega); (case g39z => decide); (case g49z => decide))); (intro GG hGG r1 h1 tk1 NL1 F1 N1 x1 P1; obtain ⟨P', d1, t1, e1, hP, e2, hd1, hd2⟩ := P1; subst e1 e2; refine hGG _ _ _ _ ?_; clear hGG GG; clear x1; have hodd := odd_fmod d1; (try k_sweep)))); try dsimp only) | ((fail_if_success (fail_if_success (with_reducible show wpAny _ _ (eval (PySem.Expr.Name _ _) _) _ _ _))); (k_here; k_dflt (refine' nameX_L ?F9z ?v9z ?_ ?a9z ?b9z ?c9z; (case F9z => k_asm); (case v9z => with_unfolding_all assumption); (case a9z => exact rfl); (case b9z => exact rfl); (case c9z => decide))); try dsimp only) | (walk1; try dsimp only) | (dsimp only; walk1; try dsimp only))))
  refine exec_block (cl := [(S "pen", L + 1)]) (swaps_ok rfl rfl hs1 (by decide)) (by with_unfolding_all rfl) (by decide) rfl ?_ (by intro _; with_unfolding_all rfl)
  iterate 13 (all_goals (try (first | (k_unfold; (try dsimp only)) | (k_end; wrow_close) | ((fail_if_success (fail_if_success (with_reducible show wpAny _ _ (call (Value.ref _) _) _ _ _))); (k_here; k_dflt ((rename PenSt _ _ _ _ => hPo); (rename Hi _ _ _ => hHc); (first | (refine' spec_useG (draw_ok hPo ?hb9z hHc ?g39z ?g49z) ?B9z ?F9z ?X9z ?T9z rfl rfl ?hd9z ?hu9z ?N9z ?_; (case B9z => k_asm); (case F9z => k_asm); (case X9z => k_asm); (case T9z => k_asm); (case hd9z => k_room); (case hu9z => k_units); (case N9z => k_asm); (case hb9z => omega); (case g39z => decide); (case g49z => decide)) | ((refine' pen_norm hPo hHc ?N09z ?l09z ?_; (case N09z => k_asm); (case l09z => assumption); clear hHc; intro hHc Nc); refine' spec_useG (draw_ok hPo ?hb9z hHc ?g39z ?g49z) ?B9z ?F9z ?X9z ?T9z rfl rfl ?hd9z ?hu9z ?N9z ?_; (case B9z => k_asm); (case F9z => k_asm); (case X9z => k_asm); (case T9z => k_asm); (case hd9z => k_room); (case hu9z => k_units); (case N9z => k_asm); (case hb9z => omega); (case g39z => decide); (case g49z => decide))); (intro GG hGG r1 h1 tk1 NL1 F1 N1 x1 P1; obtain ⟨P', d1, t1, e1, hP, e2, hd1, hd2⟩ := P1; subst e1 e2; refine hGG _ _ _ _ ?_; clear hGG GG; clear x1; have hodd := odd_fmod d1; (try k_sweep)))); try dsimp only) | ((fail_if_success (fail_if_success (with_reducible show wpAny _ _ (eval (PySem.Expr.Name _ _) _) _ _ _))); (k_here; k_dflt (refine' nameX_L ?F9z ?v9z ?_ ?a9z ?b9z ?c9z; (case F9z => k_asm); (case v9z => with_unfolding_all assumption); (case a9z => exact rfl); (case b9z => exact rfl); (case c9z => decide))); try dsimp only) | (walk1; try dsimp only) | (dsimp only; walk1; try dsimp only))))
  refine spec_useG (draw_ok hP (by omega) hH (by decide) (by decide)) B F X Tp rfl rfl (by k_room) (by k_units) N ?_
  (rintro GG hGG z1 h1 tk1 NL1 F1 N1 X1 ⟨P1, d, td, rfl, hP1, rfl, hd0, hd6⟩; refine hGG _ _ _ _ ?_; clear hGG GG)
  clear X1
  dsimp only
  iterate 2 (all_goals (try (first | (k_unfold; (try dsimp only)) | (k_end; wrow_close) | ((fail_if_success (fail_if_success (with_reducible show wpAny _ _ (call (Value.ref _) _) _ _ _))); (k_here; k_dflt ((rename PenSt _ _ _ _ => hPo); (rename Hi _ _ _ => hHc); (first | (refine' spec_useG (draw_ok hPo ?hb9z hHc ?g39z ?g49z) ?B9z ?F9z ?X9z ?T9z rfl rfl ?hd9z ?hu9z ?N9z ?_; (case B9z => k_asm); (case F9z => k_asm); (case X9z => k_asm); (case T9z => k_asm); (case hd9z => k_room); (case hu9z => k_units); (case N9z => k_asm); (case hb9z => omega); (case g39z => decide); (case g49z => decide)) | ((refine' pen_norm hPo hHc ?N09z ?l09z ?_; (case N09z => k_asm); (case l09z => assumption); clear hHc; intro hHc Nc); refine' spec_useG (draw_ok hPo ?hb9z hHc ?g39z ?g49z) ?B9z ?F9z ?X9z ?T9z rfl rfl ?hd9z ?hu9z ?N9z ?_; (case B9z => k_asm); (case F9z => k_asm); (case X9z => k_asm); (case T9z => k_asm); (case hd9z => k_room); (case hu9z => k_units); (case N9z => k_asm); (case hb9z => omega); (case g39z => decide); (case g49z => decide))); (intro GG hGG r1 h1 tk1 NL1 F1 N1 x1 P1; obtain ⟨P', d1, t1, e1, hP, e2, hd1, hd2⟩ := P1; subst e1 e2; refine hGG _ _ _ _ ?_; clear hGG GG; clear x1; have hodd := odd_fmod d1; (try k_sweep)))); try dsimp only) | ((fail_if_success (fail_if_success (with_reducible show wpAny _ _ (eval (PySem.Expr.Name _ _) _) _ _ _))); (k_here; k_dflt (refine' nameX_L ?F9z ?v9z ?_ ?a9z ?b9z ?c9z; (case F9z => k_asm); (case v9z => with_unfolding_all assumption); (case a9z => exact rfl); (case b9z => exact rfl); (case c9z => decide))); try dsimp only) | (walk1; try dsimp only) | (dsimp only; walk1; try dsimp only))))
  rename Fr g L _ m => F2
  rename News g L _ _ => N2
  rename IsRange _ _ _ _ _ _ _ _ => hR2
  refine steps_block B F2 X Tp rfl rfl rfl rfl (by k_room) (by k_units) hP1 hH (by omega) N2 rfl (.tail _ (.tail _ mP)) eP hR2 hd0 hd6 rfl rfl rfl fun D ys kD P2 tl st h3 tk3 hD F3 N3 hP2 ab3 hs3 hl3 => ?_
  clear F2 N2
  dsimp only
  iterate 1 (all_goals (try (first | (k_unfold; (try dsimp only)) | (k_end; wrow_close) | ((fail_if_success (fail_if_success (with_reducible show wpAny _ _ (call (Value.ref _) _) _ _ _))); (k_here; k_dflt ((rename PenSt _ _ _ _ => hPo); (rename Hi _ _ _ => hHc); (first | (refine' spec_useG (draw_ok hPo ?hb9z hHc ?g39z ?g49z) ?B9z ?F9z ?X9z ?T9z rfl rfl ?hd9z ?hu9z ?N9z ?_; (case B9z => k_asm); (case F9z => k_asm); (case X9z => k_asm); (case T9z => k_asm); (case hd9z => k_room); (case hu9z => k_units); (case N9z => k_asm); (case hb9z => omega); (case g39z => decide); (case g49z => decide)) | ((refine' pen_norm hPo hHc ?N09z ?l09z ?_; (case N09z => k_asm); (case l09z => assumption); clear hHc; intro hHc Nc); refine' spec_useG (draw_ok hPo ?hb9z hHc ?g39z ?g49z) ?B9z ?F9z ?X9z ?T9z rfl rfl ?hd9z ?hu9z ?N9z ?_; (case B9z => k_asm); (case F9z => k_asm); (case X9z => k_asm); (case T9z => k_asm); (case hd9z => k_room); (case hu9z => k_units); (case N9z => k_asm); (case hb9z => omega); (case g39z => decide); (case g49z => decide))); (intro GG hGG r1 h1 tk1 NL1 F1 N1 x1 P1; obtain ⟨P', d1, t1, e1, hP, e2, hd1, hd2⟩ := P1; subst e1 e2; refine hGG _ _ _ _ ?_; clear hGG GG; clear x1; have hodd := odd_fmod d1; (try k_sweep)))); try dsimp only) | ((fail_if_success (fail_if_success (with_reducible show wpAny _ _ (eval (PySem.Expr.Name _ _) _) _ _ _))); (k_here; k_dflt (refine' nameX_L ?F9z ?v9z ?_ ?a9z ?b9z ?c9z; (case F9z => k_asm); (case v9z => with_unfolding_all assumption); (case a9z => exact rfl); (case b9z => exact rfl); (case c9z => decide))); try dsimp only) | (walk1; try dsimp only) | (dsimp only; walk1; try dsimp only))))
  refine exec_block (cl := [(S "new", L + 2)]) (swaps_ok rfl rfl hs2 (by decide)) (by with_unfolding_all rfl) (by decide) rfl ?_ (by intro _; with_unfolding_all rfl)
  iterate 6 (all_goals (try (first | (k_unfold; (try dsimp only)) | (k_end; wrow_close) | ((fail_if_success (fail_if_success (with_reducible show wpAny _ _ (call (Value.ref _) _) _ _ _))); (k_here; k_dflt ((rename PenSt _ _ _ _ => hPo); (rename Hi _ _ _ => hHc); (first | (refine' spec_useG (draw_ok hPo ?hb9z hHc ?g39z ?g49z) ?B9z ?F9z ?X9z ?T9z rfl rfl ?hd9z ?hu9z ?N9z ?_; (case B9z => k_asm); (case F9z => k_asm); (case X9z => k_asm); (case T9z => k_asm); (case hd9z => k_room); (case hu9z => k_units); (case N9z => k_asm); (case hb9z => omega); (case g39z => decide); (case g49z => decide)) | ((refine' pen_norm hPo hHc ?N09z ?l09z ?_; (case N09z => k_asm); (case l09z => assumption); clear hHc; intro hHc Nc); refine' spec_useG (draw_ok hPo ?hb9z hHc ?g39z ?g49z) ?B9z ?F9z ?X9z ?T9z rfl rfl ?hd9z ?hu9z ?N9z ?_; (case B9z => k_asm); (case F9z => k_asm); (case X9z => k_asm); (case T9z => k_asm); (case hd9z => k_room); (case hu9z => k_units); (case N9z => k_asm); (case hb9z => omega); (case g39z => decide); (case g49z => decide))); (intro GG hGG r1 h1 tk1 NL1 F1 N1 x1 P1; obtain ⟨P', d1, t1, e1, hP, e2, hd1, hd2⟩ := P1; subst e1 e2; refine hGG _ _ _ _ ?_; clear hGG GG; clear x1; have hodd := odd_fmod d1; (try k_sweep)))); try dsimp only) | ((fail_if_success (fail_if_success (with_reducible show wpAny _ _ (eval (PySem.Expr.Name _ _) _) _ _ _))); (k_here; k_dflt (refine' nameX_L ?F9z ?v9z ?_ ?a9z ?b9z ?c9z; (case F9z => k_asm); (case v9z => with_unfolding_all assumption); (case a9z => exact rfl); (case b9z => exact rfl); (case c9z => decide))); try dsimp only) | (walk1; try dsimp only) | (dsimp only; walk1; try dsimp only))))
  refine rows_block (Z := tl) rfl F3 N3 rfl rfl rfl (.tail _ (List.mem_append.mpr (.inr (List.mem_append.mpr (.inr (.tail _ (.tail _ mN))))))) eN (.head _) (fun q hq => .tail _ (List.mem_append.mpr (.inr (List.mem_append.mpr (.inl hq))))) hs3 (by omega) rfl rfl rfl fun D2 ys2 kD2 tl2 h4 tk4 hD2 F4 N4 ab4 hr4 => ?_
  dsimp only
  iterate 5 (all_goals (try (first | (k_unfold; (try dsimp only)) | (k_end; wrow_close) | ((fail_if_success (fail_if_success (with_reducible show wpAny _ _ (call (Value.ref _) _) _ _ _))); (k_here; k_dflt ((rename PenSt _ _ _ _ => hPo); (rename Hi _ _ _ => hHc); (first | (refine' spec_useG (draw_ok hPo ?hb9z hHc ?g39z ?g49z) ?B9z ?F9z ?X9z ?T9z rfl rfl ?hd9z ?hu9z ?N9z ?_; (case B9z => k_asm); (case F9z => k_asm); (case X9z => k_asm); (case T9z => k_asm); (case hd9z => k_room); (case hu9z => k_units); (case N9z => k_asm); (case hb9z => omega); (case g39z => decide); (case g49z => decide)) | ((refine' pen_norm hPo hHc ?N09z ?l09z ?_; (case N09z => k_asm); (case l09z => assumption); clear hHc; intro hHc Nc); refine' spec_useG (draw_ok hPo ?hb9z hHc ?g39z ?g49z) ?B9z ?F9z ?X9z ?T9z rfl rfl ?hd9z ?hu9z ?N9z ?_; (case B9z => k_asm); (case F9z => k_asm); (case X9z => k_asm); (case T9z => k_asm); (case hd9z => k_room); (case hu9z => k_units); (case N9z => k_asm); (case hb9z => omega); (case g39z => decide); (case g49z => decide))); (intro GG hGG r1 h1 tk1 NL1 F1 N1 x1 P1; obtain ⟨P', d1, t1, e1, hP, e2, hd1, hd2⟩ := P1; subst e1 e2; refine hGG _ _ _ _ ?_; clear hGG GG; clear x1; have hodd := odd_fmod d1; (try k_sweep)))); try dsimp only) | ((fail_if_success (fail_if_success (with_reducible show wpAny _ _ (eval (PySem.Expr.Name _ _) _) _ _ _))); (k_here; k_dflt (refine' nameX_L ?F9z ?v9z ?_ ?a9z ?b9z ?c9z; (case F9z => k_asm); (case v9z => with_unfolding_all assumption); (case a9z => exact rfl); (case b9z => exact rfl); (case c9z => decide))); try dsimp only) | (walk1; try dsimp only) | (dsimp only; walk1; try dsimp only))))
  rename Addr => dd
  iterate 3 (all_goals (try (first | (k_unfold; (try dsimp only)) | (k_end; wrow_close) | ((fail_if_success (fail_if_success (with_reducible show wpAny _ _ (call (Value.ref _) _) _ _ _))); (k_here; k_dflt ((rename PenSt _ _ _ _ => hPo); (rename Hi _ _ _ => hHc); (first | (refine' spec_useG (draw_ok hPo ?hb9z hHc ?g39z ?g49z) ?B9z ?F9z ?X9z ?T9z rfl rfl ?hd9z ?hu9z ?N9z ?_; (case B9z => k_asm); (case F9z => k_asm); (case X9z => k_asm); (case T9z => k_asm); (case hd9z => k_room); (case hu9z => k_units); (case N9z => k_asm); (case hb9z => omega); (case g39z => decide); (case g49z => decide)) | ((refine' pen_norm hPo hHc ?N09z ?l09z ?_; (case N09z => k_asm); (case l09z => assumption); clear hHc; intro hHc Nc); refine' spec_useG (draw_ok hPo ?hb9z hHc ?g39z ?g49z) ?B9z ?F9z ?X9z ?T9z rfl rfl ?hd9z ?hu9z ?N9z ?_; (case B9z => k_asm); (case F9z => k_asm); (case X9z => k_asm); (case T9z => k_asm); (case hd9z => k_room); (case hu9z => k_units); (case N9z => k_asm); (case hb9z => omega); (case g39z => decide); (case g49z => decide))); (intro GG hGG r1 h1 tk1 NL1 F1 N1 x1 P1; obtain ⟨P', d1, t1, e1, hP, e2, hd1, hd2⟩ := P1; subst e1 e2; refine hGG _ _ _ _ ?_; clear hGG GG; clear x1; have hodd := odd_fmod d1; (try k_sweep)))); try dsimp only) | ((fail_if_success (fail_if_success (with_reducible show wpAny _ _ (eval (PySem.Expr.Name _ _) _) _ _ _))); (k_here; k_dflt (refine' nameX_L ?F9z ?v9z ?_ ?a9z ?b9z ?c9z; (case F9z => k_asm); (case v9z => with_unfolding_all assumption); (case a9z => exact rfl); (case b9z => exact rfl); (case c9z => decide))); try dsimp only) | (walk1; try dsimp only) | (dsimp only; walk1; try dsimp only))))
  refine' For_turns (hE := hE) (by k_asm) ?_
  iterate 1 (all_goals (try (first | (k_unfold; (try dsimp only)) | (k_end; wrow_close) | ((fail_if_success (fail_if_success (with_reducible show wpAny _ _ (call (Value.ref _) _) _ _ _))); (k_here; k_dflt ((rename PenSt _ _ _ _ => hPo); (rename Hi _ _ _ => hHc); (first | (refine' spec_useG (draw_ok hPo ?hb9z hHc ?g39z ?g49z) ?B9z ?F9z ?X9z ?T9z rfl rfl ?hd9z ?hu9z ?N9z ?_; (case B9z => k_asm); (case F9z => k_asm); (case X9z => k_asm); (case T9z => k_asm); (case hd9z => k_room); (case hu9z => k_units); (case N9z => k_asm); (case hb9z => omega); (case g39z => decide); (case g49z => decide)) | ((refine' pen_norm hPo hHc ?N09z ?l09z ?_; (case N09z => k_asm); (case l09z => assumption); clear hHc; intro hHc Nc); refine' spec_useG (draw_ok hPo ?hb9z hHc ?g39z ?g49z) ?B9z ?F9z ?X9z ?T9z rfl rfl ?hd9z ?hu9z ?N9z ?_; (case B9z => k_asm); (case F9z => k_asm); (case X9z => k_asm); (case T9z => k_asm); (case hd9z => k_room); (case hu9z => k_units); (case N9z => k_asm); (case hb9z => omega); (case g39z => decide); (case g49z => decide))); (intro GG hGG r1 h1 tk1 NL1 F1 N1 x1 P1; obtain ⟨P', d1, t1, e1, hP, e2, hd1, hd2⟩ := P1; subst e1 e2; refine hGG _ _ _ _ ?_; clear hGG GG; clear x1; have hodd := odd_fmod d1; (try k_sweep)))); try dsimp only) | ((fail_if_success (fail_if_success (with_reducible show wpAny _ _ (eval (PySem.Expr.Name _ _) _) _ _ _))); (k_here; k_dflt (refine' nameX_L ?F9z ?v9z ?_ ?a9z ?b9z ?c9z; (case F9z => k_asm); (case v9z => with_unfolding_all assumption); (case a9z => exact rfl); (case b9z => exact rfl); (case c9z => decide))); try dsimp only) | (walk1; try dsimp only) | (dsimp only; walk1; try dsimp only))))
  rename Fr g L _ _ => F5
  rename News g L _ _ => N5
  rename _ ∧ AllLt _ _ => lt5
  obtain ⟨lt5a, lt5b⟩ := lt5
  have lt5b := ktn_ltOf lt5b
  have hdd : ∀ q ∈ (D2, listOf ys2.toArray kD2) :: (tl2 ++ (D, listOf ys.toArray kD) :: (P2 ++ (tl ++ (L + 4, oF) :: (L + 3, oS) :: Y))), @LT.lt Nat _ q.1 dd := fun q hq => (List.mem_cons.mp hq).elim (fun e => e ▸ lt5a) (lt5b q)
  obtain ⟨Y2, hY2⟩ : ∃ Y2, Y2 = (D2, listOf ys2.toArray kD2) :: (tl2 ++ (D, listOf ys.toArray kD) :: (P2 ++ (tl ++ (L + 4, oF) :: Y))) := ⟨_, rfl⟩
  have hsY : ∀ q ∈ Y2, q ∈ (D2, listOf ys2.toArray kD2) :: (tl2 ++ (D, listOf ys.toArray kD) :: (P2 ++ (tl ++ (L + 4, oF) :: (L + 3, oS) :: Y))) := fun q hq => by
    rw [hY2] at hq
    ((repeat' (first | (rcases List.mem_append.mp hq with hq | hq) | (rcases List.mem_cons.mp hq with rfl | hq))) <;> (first | k_mem | cases hq))
  have h4D : @LT.lt Nat _ (L + 4) D := hD (L + 4, oF) (List.mem_append.mpr (.inr (.head _)))
  have h4D2 : @LT.lt Nat _ (L + 4) D2 := Nat.lt_trans h4D (hD2 _ (.head _))
  have h4t : ∀ q ∈ tl, @LT.lt Nat _ (L + 4) q.1 := fun q hq => ab3 (L + 4, oF) (List.mem_append.mpr (.inr (.head _))) q hq
  have h4t2 : ∀ q ∈ tl2, @LT.lt Nat _ (L + 4) q.1 := fun q hq => Nat.lt_trans h4D (ab4 _ (.head _) q hq)
  have h4d : @LT.lt Nat _ (L + 4) dd := hdd (L + 4, oF) (by simp)
  have hPL : ∀ q ∈ P2, @LT.lt Nat _ q.1 L := fun q hq => by
    obtain ⟨⟨_, z1⟩, _, z2⟩ := pen_has hP
    rcases pen_mem hP2 q hq with e | e
    · rw [e]; exact hPn _ z1
    · rw [e]; exact hPn _ z2
  have h43 : ∀ {x : Nat}, @LT.lt Nat _ (L + 4) x → x ≠ L + 3 ∧ x ≠ L + 4 := fun h => ⟨by omega, by omega⟩
  have hL3 : ∀ {x : Nat}, @LT.lt Nat _ x L → x ≠ L + 3 ∧ x ≠ L + 4 := fun h => ⟨by omega, by omega⟩
  have hn34 : ∀ q ∈ (D2, listOf ys2.toArray kD2) :: (tl2 ++ (D, listOf ys.toArray kD) :: (P2 ++ (tl ++ Y))), q.1 ≠ L + 3 ∧ q.1 ≠ L + 4 := fun q hq => by
    rcases List.mem_cons.mp hq with rfl | hq
    · exact h43 h4D2
    · rcases List.mem_append.mp hq with hq | hq
      · exact h43 (h4t2 q hq)
      · rcases List.mem_cons.mp hq with rfl | hq
        · exact h43 h4D
        · rcases List.mem_append.mp hq with hq | hq
          · exact hL3 (hPL q hq)
          · rcases List.mem_append.mp hq with hq | hq
            · exact h43 (h4t q hq)
            · exact hYn q hq
  have hn3 : ∀ q ∈ Y2, q.1 ≠ L + 3 := fun q hq => by
    have hq' : q = (L + 4, oF) ∨ q ∈ (D2, listOf ys2.toArray kD2) :: (tl2 ++ (D, listOf ys.toArray kD) :: (P2 ++ (tl ++ Y))) := by
      rw [hY2] at hq
      simp only [List.mem_append, List.mem_cons] at hq ⊢
      rcases hq with h | h | h | h | h | h | h <;> simp [h]
    rcases hq' with rfl | hq'
    · exact Ne.symm (Nat.ne_of_lt (Nat.lt_succ_self _))
    · exact (hn34 q hq').1
  have hzY : ∀ q ∈ tl ++ Y, q ∈ Y2 := fun q hq => by
    rw [hY2]
    rcases List.mem_append.mp hq with h | h <;> k_mem
  have N6 : News g L _ (duLed (L + 3) dd oS [] 0 [] Y2) := news_sub N5 (fun q hq => by
    rcases List.mem_cons.mp hq with rfl | hq
    · simp
    · rcases List.mem_cons.mp hq with rfl | hq
      · exact .head _
      · exact .tail _ (hsY q hq))
  refine due_loop (Y := Y2) (Z := tl ++ Y) B F5 X Tp (by k_room) (by k_units) N6 eS hn3 (fun q hq => Nat.ne_of_lt (hdd q (hsY q hq))) (Nat.lt_trans (Nat.lt_succ_self _) h4d) (hzY _ (List.mem_append.mpr (.inr mN))) eN hzY (hnd.mono fun q hq => List.mem_append.mpr (.inr hq)) (by rw [hY2]; exact .tail _ (List.mem_append.mpr (.inr (.head _)))) (hs3.mono fun _ _ z => ⟨z.1, z.2.mono fun q hq => List.mem_append.mpr (.inl hq)⟩) (by omega) rfl rfl hl1 fun o3' cv' dv n tl3 h6 tk6 F6 N7 ho3' ht6 ab6 hdv => ?_
  dsimp only
  have hrl := hr4.length
  have hsl := hs3.length
  rw [List.length_zipIdx] at hrl
  refine k _ _ _ P2 ((L + 3, o3') :: (dd, listOf dv.toArray n) :: (tl3 ++ (D2, listOf ys2.toArray kD2) :: (tl2 ++ (D, listOf ys.toArray kD) :: (P2 ++ (tl ++ Y))))) D2 ys2 kD2 dd dv n st F6 (news_sub N7 fun q hq => ?_) (fun q hq => ?_) (hP2.le (by omega)) (fun q hq => ?_) (by simp) h4D2 (hr4.mono fun _ _ z => z.mono fun q hq => ?_) (by omega) (by simp) (hdv.mono fun q hq => ?_) (All₂.right (fun _ _ z => z.1) hs3) rfl rfl (((Agr.rfl.set (by decide)).set (by decide)).set (by decide))
  · rw [hY2]
    simp only [duLed, List.mem_append, List.mem_cons] at hq ⊢
    rcases hq with h | h | h | h | h | h | h | h | h | h <;> simp [h]
  · rcases List.mem_cons.mp hq with rfl | hq
    · exact Nat.ne_of_lt (Nat.lt_succ_self _)
    · rcases List.mem_cons.mp hq with rfl | hq
      · exact Ne.symm (Nat.ne_of_lt h4d)
      · rcases List.mem_append.mp hq with hq | hq
        · exact Ne.symm (Nat.ne_of_lt (Nat.lt_trans h4d (ht6 q hq)))
        · exact (hn34 q hq).2
  · rcases List.mem_append.mp hq with h | h <;> k_mem
  · rcases List.mem_append.mp hq with h | h <;> k_mem
  · rcases List.mem_append.mp hq with h | h <;> k_mem
end
end
section
open Sem (wp)
theorem All₂.map {α β γ : Type} {R : α → β → Prop} {R' : α → γ → Prop} {f : β → γ} (h : ∀ a b, R a b → R' a (f b)) {l : List α} {m : List β} (x : All₂ R l m) : All₂ R' l (m.map f) := by
  induction x with
  | nil => exact .nil
  | cons a _ ih => exact .cons (h _ _ a) ih
theorem All₂.const {α β γ : Type} {R : α → β → Prop} {P : α → Prop} (h : ∀ a b, R a b → P a) {c : γ} {R' : α → γ → Prop} (h' : ∀ a, P a → R' a c) {l : List α} {m : List β} (x : All₂ R l m) : All₂ R' l (l.map fun _ => c) := by
  induction x with
  | nil => exact .nil
  | cons a _ ih => exact .cons (h' _ (h _ _ a)) ih
theorem nbL_all : ∀ {l : List Dat}, (∀ x ∈ l, nb x = true) → nbL l = true
  | [], _ => rfl
  | x :: l, h => by rw [nbL, h x (.head _), nbL_all fun y hy => h y (.tail _ hy)]; rfl
theorem depL_all {k : Nat} : ∀ {l : List Dat}, (∀ x ∈ l, dep x ≤ k) → depL l ≤ k
  | [], _ => Nat.zero_le _
  | x :: l, h => by rw [depL]; exact Nat.max_le.mpr ⟨h x (.head _), depL_all fun y hy => h y (.tail _ hy)⟩
theorem part_row {nd k x : Dat} {st : List Dat} (h : x ∈ partOf (rowsD nd st) k) : ∃ i, x = rowD nd i := by
  unfold partOf rowsD at h
  obtain ⟨r, hr, rfl⟩ := List.mem_map.mp h
  obtain ⟨q, _, rfl⟩ := List.mem_map.mp (List.mem_filter.mp hr).1
  exact ⟨_, rfl⟩
theorem due_ok {nd : Dat} {st : List Dat} (hn : nb nd = true) (hd : dep nd ≤ 5) (hk : ∀ x ∈ st, KeyD x) : nbL (dueD nd st st) = true ∧ depL (dueD nd st st) ≤ 30 := by
  have key : ∀ x ∈ dueD nd st st, ∃ k ∈ st, x = .tuple [k, .list (partOf (rowsD nd st) k)] := fun x hx => by
    obtain ⟨k, hk, rfl⟩ := List.mem_map.mp hx
    exact ⟨k, (firsts_mem _ _).mp hk, rfl⟩
  refine ⟨nbL_all fun x hx => ?_, depL_all fun x hx => ?_⟩
  · obtain ⟨k, hm, rfl⟩ := key x hx
    have h1 := (hk k hm).nb
    have h2 : nbL (partOf (rowsD nd st) k) = true := nbL_all fun y hy => by
      obtain ⟨i, rfl⟩ := part_row hy
      simp [rowD, nb, nbL, hn]
    simp [nb, nbL, h1, h2]
  · obtain ⟨k, hm, rfl⟩ := key x hx
    have h1 := (hk k hm).dep
    have h2 : depL (partOf (rowsD nd st) k) ≤ 10 := depL_all fun y hy => by
      obtain ⟨i, rfl⟩ := part_row hy
      simp only [rowD, dep, depL]
      omega
    simp only [dep, depL]
    omega
theorem map_some_inj {α : Type} : ∀ {l m : List α}, l.map some = m.map some → l = m
  | [], [], _ => rfl
  | [], _ :: _, h => nomatch h
  | _ :: _, [], h => nomatch h
  | a :: l, b :: m, h => by
    rw [List.map_cons, List.map_cons] at h
    injection h with h1 h2
    rw [Option.some.inj h1, map_some_inj h2]
section
set_option maxRecDepth 100000 in
set_option maxHeartbeats 2000000 in
theorem lr_found {w : World} {p : Program} {loose : List Str} {mean : ExcName → Option Value} {mg mb : Str → Option Value} {dp u : Nat} {gd : Option (List Code)} {A₀ : Around} {base g : Heap} {outer : List Env} {L : Addr} {m : Str → Option Value} {s : Shared} {Q : Flow → Shared → Prop} {E : Value → Shared → Prop}
    {T : List (Addr × Obj)} {newv : Value} {nd : Dat} {oF : Obj} {cv : Option Value} {sh : Value} {ro pp rr dd : Addr} {old2 new2 : Value} {rv dv : List Value} {n n' n1 n2 : Nat} {t : Tok} {st : List Dat} {rest : List Stmt} {p1 p2 p3 p4 p5 p6 p7 p8 p9 q1 q2 q3 q4 q5 q6 q7 q8 q9 r1 r2 r3 r4 r5 r6 r7 r8 r9 u1 : Pos}
    (B : Below A₀ base outer g) (F : Fr g L s.heap m) (XB : (hd.heap_39 w.params).In base) (TB : Top p loose mean mg mb base) (hdp : dp + 30 < recursionLimit) (hu : u + 400 < cLine) (N : News g L s.heap ((L + 4, oF) :: T)) (hTn : ∀ q ∈ T, q.1 ≠ L + 4) (eF : oF.data = .cell cv)
    (hms : m (S "shape") = some sh) (hmr : m (S "row") = some (.ref ro)) (hmw : m (S "rows") = some (.ref rr)) (hmd : m (S "due") = some (.ref dd))
    (mw : (rr, listOf rv.toArray n) ∈ T) (h4 : @LT.lt Nat _ (L + 4) rr) (hr : All₂ (RowS T newv) rv st.zipIdx) (hl : rv.length ≤ 5) (md : (dd, listOf dv.toArray n') ∈ T) (hdv : DatAll T dv (dueD nd st st)) (hst : ∀ x ∈ st, KeyD x) (hnd : DatIn T newv nd) (hn1 : nb nd = true) (hn2 : dep nd ≤ 5)
    (mr : (ro, tupOf [.ref pp, .str (S "turned") t, old2, new2].toArray n1) ∈ T) (mp : (pp, tupOf ([] : List Value).toArray n2) ∈ T)
    (k : ∀ h' tk' g', KtsTurn (frs outer) g g' → Fr g' L h' m → News g' L h' T → Below A₀ base outer g' → wpAny (model PySem.Challenge.rw_og0176_01.row.prog w) (arnd dp u gd (lrEnv L) outer) (execs rest (lrEnv L)) Q E { s with heap := h', toks := tk' }) :
    wpAny (model PySem.Challenge.rw_og0176_01.row.prog w) (arnd dp u gd (lrEnv L) outer) (execs
      (.Assign [.Name (S "found") p1] (.Call (.Name (S "grouped") p2) [.Name (S "rows") p3] [] p4) p5 ::
       .If (.BoolOp .Or [.Compare (.ListComp (.Tuple [.Name (S "step") p6, .Subscript (.Name (S "found") p7) (.Name (S "step") p8) p9] 0 q1) [⟨.Name (S "step") q2, .Name (S "found") q3, [], 0⟩] foundScope q4) [.NotEq] [.Name (S "due") q5] q6,
         .UnaryOp .Not (.Call (.Name (S "_law_refused") q7) [.Name (S "shape") q8, .BinOp (.Name (S "rows") q9) .Add (.List [.Name (S "row") r1] r2) r3, .Constant (.int 3) 0 r4] [] r5) r6] r7)
         [.Return (some (.Constant (.bool false) 0 r8)) r9] [] u1 :: rest) (lrEnv L)) Q E s := by
  have X := XB.keeps B.stays
  have Tp := TB.keeps B.stays
  have hRG : ∀ (T' : List (Addr × Obj)), (∀ q ∈ T, q ∈ T') → All₂ (RowO T') rv ((rowsD nd st).map some) := fun T' hs => by
    unfold rowsD
    rw [List.map_map]
    refine hr.map (R' := RowO T') (f := some ∘ fun p => (p.1, rowD nd p.2)) fun v (r : Dat × Nat) z => ?_
    exact RowS.g (hnd.mono hs) (z.mono hs)
  iterate 9 (all_goals (try (first | (k_unfold; (try dsimp only)) | (k_end; wrow_close) | ((fail_if_success (fail_if_success (with_reducible show wpAny _ _ (eval (PySem.Expr.Name _ _) _) _ _ _))); (k_here; k_dflt (refine' nameX_L ?F9z ?v9z ?_ ?a9z ?b9z ?c9z; (case F9z => k_asm); (case v9z => with_unfolding_all assumption); (case a9z => exact rfl); (case b9z => exact rfl); (case c9z => decide))); try dsimp only) | (walk1; try dsimp only) | (dsimp only; walk1; try dsimp only))))
  refine spec_use (spec_frame (NL := [(L + 4, oF)]) (SpecOr.ok (grouped_or mw (hRG T fun q hq => hq) (by omega)) (by simp)) fun q hq e => ?_) B F X Tp rfl rfl (by k_room) (by k_units) (news_sub N fun q hq => ?_) ?_
  · rw [List.mem_singleton.mp hq] at e
    obtain ⟨z, hz, e⟩ := List.mem_map.mp e
    exact hTn z hz e
  · simp only [List.mem_append, List.mem_singleton] at hq
    rcases hq with h | h <;> simp [h]
  rintro z1 h1 tk1 NL1 F1 N1 x1 ⟨T1, rfl, d, o, gs, tl, rs', I, e1, rfl, rfl, S1, hTd, hds⟩
  obtain rfl := map_some_inj e1
  clear x1 e1 N
  (try dsimp only)
  have hrd : @LT.lt Nat _ (L + 4) d := Nat.lt_trans h4 (hTd _ mw)
  refine store_cell_S F1 N1 (c := L + 4) rfl (by simp) eF (fun h2 oF2 F2 eF2 N2 => ?_) rfl rfl
  have N2 := N2 ((L + 4, oF2) :: grLed d o gs tl T) fun q hq => by
    rcases List.mem_cons.mp hq with rfl | hq
    · exact .inl rfl
    · refine .inr ⟨List.mem_append.mpr (.inl hq), ?_⟩
      rcases List.mem_cons.mp hq with rfl | hq
      · exact Ne.symm (Nat.ne_of_lt hrd)
      · rcases List.mem_append.mp hq with hq | hq
        · obtain ⟨x, hx, rfl⟩ := List.mem_map.mp hq
          exact Ne.symm (Nat.ne_of_lt (Nat.lt_trans hrd (S1.gabove x hx).1))
        · rcases List.mem_append.mp hq with hq | hq
          · exact Ne.symm (Nat.ne_of_lt (Nat.lt_trans hrd (S1.tabove q hq).1))
          · exact hTn q hq
  have hTT : ∀ q ∈ T, q ∈ (L + 4, oF2) :: grLed d o gs tl T := fun q hq => .tail _ (.tail _ (List.mem_append.mpr (.inr (List.mem_append.mpr (.inr hq)))))
  clear N1 F1 hTn eF
  dsimp only
  iterate 6 (all_goals (try (first | (k_unfold; (try dsimp only)) | (k_end; wrow_close) | ((fail_if_success (fail_if_success (with_reducible show wpAny _ _ (eval (PySem.Expr.Name _ _) _) _ _ _))); (k_here; k_dflt (refine' nameX_L ?F9z ?v9z ?_ ?a9z ?b9z ?c9z; (case F9z => k_asm); (case v9z => with_unfolding_all assumption); (case a9z => exact rfl); (case b9z => exact rfl); (case c9z => decide))); try dsimp only) | (walk1; try dsimp only) | (dsimp only; walk1; try dsimp only))))
  have hst5 : st.length ≤ 5 := by
    have := hr.length
    rw [List.length_zipIdx] at this
    omega
  have hg5 : gs.length ≤ 5 := by
    have := S1.len
    rw [rows_len] at this
    omega
  have hgT : ∀ q ∈ tl ++ T, q ∈ (L + 4, oF2) :: grLed d o gs tl T := fun q hq => .tail _ (.tail _ (List.mem_append.mpr (.inr hq)))
  refine found_block (Y := (L + 4, oF2) :: grLed d o gs tl T) (T := T) rfl F2 N2 rfl rfl rfl (.head _) eF2 (by k_units) (.tail _ (.head _)) hds S1.tab hTT (fun x hx => ⟨.tail _ (.tail _ (List.mem_append.mpr (.inl (List.mem_map.mpr ⟨x, hx, rfl⟩)))), (S1.dat x hx).1.mono hgT⟩) (by omega) fun D ys kD tl3 h3 tk3 hD F3 N3 ab3 hy3 => ?_
  dsimp only
  iterate 1 (all_goals (try (first | (k_unfold; (try dsimp only)) | (k_end; wrow_close) | ((fail_if_success (fail_if_success (with_reducible show wpAny _ _ (eval (PySem.Expr.Name _ _) _) _ _ _))); (k_here; k_dflt (refine' nameX_L ?F9z ?v9z ?_ ?a9z ?b9z ?c9z; (case F9z => k_asm); (case v9z => with_unfolding_all assumption); (case a9z => exact rfl); (case b9z => exact rfl); (case c9z => decide))); try dsimp only) | (walk1; try dsimp only) | (dsimp only; walk1; try dsimp only))))
  obtain ⟨dn1, dn2⟩ := due_ok hn1 hn2 hst
  have hsame : (gs.map fun x => Dat.tuple [x.kd, .list x.es]) = dueD nd st st := by
    rw [← due_grp, ← S1.grps, List.map_map]; rfl
  rw [hsame] at hy3
  have H3 := has_news N3
  refine EqBoolInt.of_rcne (cmp_lst (k := 30) (r := true) H3 H3 (DatIn.list (.head _) (hy3.mono fun q hq => .tail _ hq)) (DatIn.list (.tail _ (List.mem_append.mpr (.inr (hTT _ md)))) (hdv.mono fun q hq => .tail _ (List.mem_append.mpr (.inr (hTT _ hq))))) dn2 dn1 dn1 (by show u + 1 + 30 < cLine; omega) (by simp)).2 ?_
  have N4 : News g L h3 T := news_sub N3 fun q hq => .tail _ (List.mem_append.mpr (.inr (hTT _ hq)))
  clear N3 H3 hy3 hsame N2 hTT hgT S1 ab3 hD
  iterate 18 (all_goals (try (first | (k_unfold; (try dsimp only)) | (k_end; wrow_close) | ((fail_if_success (fail_if_success (with_reducible show wpAny _ _ (eval (PySem.Expr.Name _ _) _) _ _ _))); (k_here; k_dflt (refine' nameX_L ?F9z ?v9z ?_ ?a9z ?b9z ?c9z; (case F9z => k_asm); (case v9z => with_unfolding_all assumption); (case a9z => exact rfl); (case b9z => exact rfl); (case c9z => decide))); try dsimp only) | (walk1; try dsimp only) | (dsimp only; walk1; try dsimp only))))
  rename Fr g L _ _ => F5
  rename News g L _ _ => N5
  refine add_lst_N F5 N5 (.tail _ mw) (.head _) (by simp; omega) fun h6 D6 F6 N6 l6 => ?_
  dsimp only
  iterate 4 (all_goals (try (first | (k_unfold; (try dsimp only)) | (k_end; wrow_close) | ((fail_if_success (fail_if_success (with_reducible show wpAny _ _ (eval (PySem.Expr.Name _ _) _) _ _ _))); (k_here; k_dflt (refine' nameX_L ?F9z ?v9z ?_ ?a9z ?b9z ?c9z; (case F9z => k_asm); (case v9z => with_unfolding_all assumption); (case a9z => exact rfl); (case b9z => exact rfl); (case c9z => decide))); try dsimp only) | (walk1; try dsimp only) | (dsimp only; walk1; try dsimp only))))
  have hs6 : ∀ q ∈ T, ∀ a b, q ∈ a :: b :: T := fun q hq a b => .tail _ (.tail _ hq)
  refine specT_use (refused_3 (SpecOr.no (grouped_or (rs := (rowsD nd st).map some ++ [none]) (.head _) ((hRG _ fun q hq => hs6 q hq _ _).snoc ⟨ro, pp, _, old2, new2, n1, n2, rfl, hs6 _ mr _ _, hs6 _ mp _ _⟩) (by simp; omega)) (by simp))) B F6 XB TB rfl rfl (by k_room) (by k_units) N6 ?_
  rintro r6 h7 tk7 g7 NL7 T7 F7 N7 B7 X7 Tp7 ⟨e7, rfl⟩
  rw [e7] at N7
  clear e7 F5 N5 F6 N6
  dsimp only
  iterate 6 (all_goals (try (first | (k_unfold; (try dsimp only)) | (k_end; wrow_close) | ((fail_if_success (fail_if_success (with_reducible show wpAny _ _ (eval (PySem.Expr.Name _ _) _) _ _ _))); (k_here; k_dflt (refine' nameX_L ?F9z ?v9z ?_ ?a9z ?b9z ?c9z; (case F9z => k_asm); (case v9z => with_unfolding_all assumption); (case a9z => exact rfl); (case b9z => exact rfl); (case c9z => decide))); try dsimp only) | (walk1; try dsimp only) | (dsimp only; walk1; try dsimp only))))
  exact k _ _ _ T7 F7 (news_sub N7 fun q hq => hs6 q hq _ _) B7
end
end
section
open Sem (wp)
theorem drop2 {h₀ h : Heap} {L : Addr} {a b : Addr × Obj} {l : List (Addr × Obj)} (N : News h₀ L h (a :: b :: l)) : News h₀ L h l := fun q hq => N q (.tail _ (.tail _ hq))
theorem All₂.app {α β : Type} {R : α → β → Prop} {l l' : List α} {m m' : List β} (x : All₂ R l m) (h : All₂ R l' m') : All₂ R (l ++ l') (m ++ m') := by
  induction x with
  | nil => exact h
  | cons a _ ih => exact .cons a ih
section
set_option maxRecDepth 100000 in
set_option maxHeartbeats 2000000 in
theorem lr_end {w : World} {p : Program} {loose : List Str} {mean : ExcName → Option Value} {mg mb : Str → Option Value} {dp u : Nat} {gd : Option (List Code)} {A₀ : Around} {base g : Heap} {outer : List Env} {L : Addr} {m : Str → Option Value} {s : Shared} {Q : Flow → Shared → Prop} {E : Value → Shared → Prop}
    {T : List (Addr × Obj)} {newv : Value} {nd : Dat} {oN : Obj} {sh : Value} {ro pp rr : Addr} {old2 new2 : Value} {rv : List Value} {n n1 n2 : Nat} {t : Tok} {st : List Dat} {p1 p2 p3 p4 p5 p6 p7 p8 p9 q1 q2 q3 q4 q5 q6 q7 q8 q9 r1 r2 r3 r4 r5 r6 r7 r8 r9 u1 u2 u3 u4 u5 u6 u7 u8 u9 v1 v2 v3 v4 v5 v6 v7 v8 v9 w1 : Pos}
    (B : Below A₀ base outer g) (F : Fr g L s.heap m) (XB : (hd.heap_39 w.params).In base) (TB : Top p loose mean mg mb base) (hdp : dp + 30 < recursionLimit) (hu : u + 400 < cLine) (N : News g L s.heap T)
    (hms : m (S "shape") = some sh) (hmr : m (S "row") = some (.ref ro)) (hmw : m (S "rows") = some (.ref rr)) (mN : (L + 2, oN) ∈ T) (eN : oN.data = .cell (some newv)) (hnd : DatIn T newv nd) (hn1 : nb nd = true) (hn2 : dep nd ≤ 5)
    (mw : (rr, listOf rv.toArray n) ∈ T) (hr : All₂ (RowS T newv) rv st.zipIdx) (hl : rv.length ≤ 5) (mr : (ro, tupOf [.ref pp, .str (S "turned") t, old2, new2].toArray n1) ∈ T) (mp : (pp, tupOf ([] : List Value).toArray n2) ∈ T)
    (k : ∀ h' tk' g' m', KtsTurn (frs outer) g g' → Fr g' L h' m' → News g' L h' T → Below A₀ base outer g' → Q (.ret (.bool true)) { s with heap := h', toks := tk' }) :
    wpAny (model PySem.Challenge.rw_og0176_01.row.prog w) (arnd dp u gd (lrEnv L) outer) (execs
      [.Assign [.Name (S "here") p1] (.Tuple [.Tuple [] 0 p2, .Constant (.str (S "gone")) 0 p3, .Name (S "new") p4, .Constant .none 0 p5] 0 p6) p7,
       .If (.BoolOp .Or [.Compare (.Call (.Name (S "single") p8) [.BinOp (.Name (S "rows") p9) .Add (.List [.Name (S "here") q1, .Name (S "row") q2] q3) q4, .Constant (.str (S "gone")) 0 q5] [] q6) [.NotEq] [.Name (S "here") q7] q8,
         .Compare (.Call (.Name (S "single") q9) [.Name (S "rows") r1, .Constant (.str (S "gone")) 0 r2] [] r3) [.IsNot] [.Constant .none 0 r4] r5,
         .Compare (.Call (.Name (S "single") r6) [.List [.Name (S "here") r7] r8, .Constant (.str (S "added")) 0 r9] [] u1) [.IsNot] [.Constant .none 0 u2] u3] u4)
         [.Return (some (.Constant (.bool false) 0 u5)) u6] [] u7,
       .Return (some (.Call (.Name (S "_law_refused") u8) [.Name (S "shape") u9, .BinOp (.BinOp (.List [.Name (S "here") v1] v2) .Add (.Name (S "rows") v3) v4) .Add (.List [.Name (S "here") v5] v6) v7, .Constant (.int 2) 0 v8] [] v9)) w1] (lrEnv L)) Q E s := by
  have X := XB.keeps B.stays
  have Tp := TB.keeps B.stays
  have hRI : All₂ (RowIn T) rv (rv.map fun _ => (false, S "gone")) := All₂.const (P := fun v => RowIn T v (false, S "gone")) (fun _ _ => RowS.i) (fun _ h => h) hr
  have hR0 : ∀ r ∈ rv.map (fun _ => (false, S "gone")), r.1 = false := fun r hr => by
    obtain ⟨_, _, rfl⟩ := List.mem_map.mp hr; rfl
  have hRl : rv.length = (rv.map fun _ => (false, S "gone")).length := by simp
  iterate 7 (all_goals (try (first | (k_unfold; (try dsimp only)) | (k_end; wrow_close) | ((fail_if_success (fail_if_success (with_reducible show wpAny _ _ (eval (PySem.Expr.Name _ _) _) _ _ _))); (k_here; k_dflt (refine' nameX_L ?F9z ?v9z ?_ ?a9z ?b9z ?c9z; (case F9z => k_asm); (case v9z => with_unfolding_all assumption); (case a9z => exact rfl); (case b9z => exact rfl); (case c9z => decide))); try dsimp only) | (walk1; try dsimp only) | (dsimp only; walk1; try dsimp only))))
  rename Addr => hp
  iterate 8 (all_goals (try (first | (k_unfold; (try dsimp only)) | (k_end; wrow_close) | ((fail_if_success (fail_if_success (with_reducible show wpAny _ _ (eval (PySem.Expr.Name _ _) _) _ _ _))); (k_here; k_dflt (refine' nameX_L ?F9z ?v9z ?_ ?a9z ?b9z ?c9z; (case F9z => k_asm); (case v9z => with_unfolding_all assumption); (case a9z => exact rfl); (case b9z => exact rfl); (case c9z => decide))); try dsimp only) | (walk1; try dsimp only) | (dsimp only; walk1; try dsimp only))))
  rename Addr => ho
  iterate 19 (all_goals (try (first | (k_unfold; (try dsimp only)) | (k_end; wrow_close) | ((fail_if_success (fail_if_success (with_reducible show wpAny _ _ (eval (PySem.Expr.Name _ _) _) _ _ _))); (k_here; k_dflt (refine' nameX_L ?F9z ?v9z ?_ ?a9z ?b9z ?c9z; (case F9z => k_asm); (case v9z => with_unfolding_all assumption); (case a9z => exact rfl); (case b9z => exact rfl); (case c9z => decide))); try dsimp only) | (walk1; try dsimp only) | (dsimp only; walk1; try dsimp only))))
  rename Fr g L _ _ => F1
  rename News g L _ _ => N1
  refine add_lst_N F1 N1 (.tail _ (.tail _ (.tail _ mw))) (.head _) (by simp; omega) fun h2 D2 F2 N2 l2 => ?_
  dsimp only
  clear F1 N1
  iterate 4 (all_goals (try (first | (k_unfold; (try dsimp only)) | (k_end; wrow_close) | ((fail_if_success (fail_if_success (with_reducible show wpAny _ _ (eval (PySem.Expr.Name _ _) _) _ _ _))); (k_here; k_dflt (refine' nameX_L ?F9z ?v9z ?_ ?a9z ?b9z ?c9z; (case F9z => k_asm); (case v9z => with_unfolding_all assumption); (case a9z => exact rfl); (case b9z => exact rfl); (case c9z => decide))); try dsimp only) | (walk1; try dsimp only) | (dsimp only; walk1; try dsimp only))))
  have hs2 : ∀ q ∈ T, ∀ a b c d, q ∈ a :: b :: c :: d :: T := fun q hq a b c d => .tail _ (.tail _ (.tail _ (.tail _ hq)))
  refine spec_useG (single_is (v := .ref ho) (rs := (rv.map fun _ => (false, S "gone")) ++ [(true, S "gone"), (true, S "turned")]) (.head _) (by simp; omega) ((hRI.mono fun _ _ => RowIn.mono fun q hq => hs2 q hq _ _ _ _).app (.cons ⟨ho, hp, [], newv, .none, _, _, _, rfl, .tail _ (.tail _ (.head _)), .tail _ (.tail _ (.tail _ (.head _))), rfl, Nat.zero_le _⟩ (.cons ⟨ro, pp, [], old2, new2, n1, n2, t, rfl, hs2 _ mr _ _ _ _, hs2 _ mp _ _ _ _, rfl, Nat.zero_le _⟩ .nil))) (fun q hq => hq) (by rw [heres_app hRl, heres_no hR0]; rfl)) B F2 X Tp rfl rfl (by k_room) (by k_units) N2 ?_
  (rintro GG hGG z3 h3 tk3 NL3 F3 N3 x3 ⟨e3, rfl⟩; refine hGG _ _ _ _ ?_; clear hGG GG)
  rw [e3] at N3
  clear e3 x3 F2 N2
  dsimp only
  iterate 1 (all_goals (try (first | (k_unfold; (try dsimp only)) | (k_end; wrow_close) | ((fail_if_success (fail_if_success (with_reducible show wpAny _ _ (eval (PySem.Expr.Name _ _) _) _ _ _))); (k_here; k_dflt (refine' nameX_L ?F9z ?v9z ?_ ?a9z ?b9z ?c9z; (case F9z => k_asm); (case v9z => with_unfolding_all assumption); (case a9z => exact rfl); (case b9z => exact rfl); (case c9z => decide))); try dsimp only) | (walk1; try dsimp only) | (dsimp only; walk1; try dsimp only))))
  have hdh : DatIn T newv nd := hnd
  refine ne_same N3 (T := _ :: _ :: _ :: _ :: T) (ds := [.tuple [], .str (S "gone"), nd, .none]) (.tuple (.tail _ (.tail _ (.head _))) (.cons (.tuple (.tail _ (.tail _ (.tail _ (.head _)))) .nil) (.cons (.str _ _) (.cons (hnd.mono fun q hq => hs2 q hq _ _ _ _) (.cons .none .nil))))) (fun q hq => hq) (by simp only [depL, dep]; omega) (by simp [nbL, nb, hn1]) (by k_units) ?_
  iterate 13 (all_goals (try (first | (k_unfold; (try dsimp only)) | (k_end; wrow_close) | ((fail_if_success (fail_if_success (with_reducible show wpAny _ _ (eval (PySem.Expr.Name _ _) _) _ _ _))); (k_here; k_dflt (refine' nameX_L ?F9z ?v9z ?_ ?a9z ?b9z ?c9z; (case F9z => k_asm); (case v9z => with_unfolding_all assumption); (case a9z => exact rfl); (case b9z => exact rfl); (case c9z => decide))); try dsimp only) | (walk1; try dsimp only) | (dsimp only; walk1; try dsimp only))))
  have N4 := drop2 N3
  have hs4 : ∀ q ∈ T, ∀ a b, q ∈ a :: b :: T := fun q hq a b => .tail _ (.tail _ hq)
  clear N3
  refine spec_useG (single_nil (NL := T) (rs := rv.map fun _ => (false, S "gone")) (hs4 _ mw _ _) (by omega) hRI (fun q hq => hs4 q hq _ _) (heres_no hR0)) B F3 X Tp rfl rfl (by k_room) (by k_units) N4 ?_
  (rintro GG hGG z5 h5 tk5 NL5 F5 N5 x5 ⟨e5, rfl⟩; refine hGG _ _ _ _ ?_; clear hGG GG)
  rw [e5] at N5
  clear e5 x5 F3 N4
  dsimp only
  iterate 19 (all_goals (try (first | (k_unfold; (try dsimp only)) | (k_end; wrow_close) | ((fail_if_success (fail_if_success (with_reducible show wpAny _ _ (eval (PySem.Expr.Name _ _) _) _ _ _))); (k_here; k_dflt (refine' nameX_L ?F9z ?v9z ?_ ?a9z ?b9z ?c9z; (case F9z => k_asm); (case v9z => with_unfolding_all assumption); (case a9z => exact rfl); (case b9z => exact rfl); (case c9z => decide))); try dsimp only) | (walk1; try dsimp only) | (dsimp only; walk1; try dsimp only))))
  rename Fr g L _ _ => F6
  rename News g L _ _ => N6
  have hRh : ∀ {T' : List (Addr × Obj)} {oh op : Obj} {tg : Tok}, oh = tupOf [.ref hp, .str (S "gone") tg, newv, .none].toArray 0 → op = tupOf ([] : List Value).toArray 0 → (ho, oh) ∈ T' → (hp, op) ∈ T' → RowIn T' (.ref ho) (true, S "gone") := fun e1 e2 m1 m2 => ⟨ho, hp, [], newv, .none, 0, 0, _, rfl, e1 ▸ m1, e2 ▸ m2, rfl, Nat.zero_le _⟩
  refine spec_useG (single_nil (rs := [(true, S "gone")]) (.head _) (by simp) (.cons (hRh rfl rfl (.tail _ (.head _)) (.tail _ (.tail _ (.head _)))) .nil) (fun q hq => hq) (by rfl)) B F6 X Tp rfl rfl (by k_room) (by k_units) N6 ?_
  (rintro GG hGG z7 h7 tk7 NL7 F7 N7 x7 ⟨e7, rfl⟩; refine hGG _ _ _ _ ?_; clear hGG GG)
  rw [e7] at N7
  have N8 := fun q hq => N7 q (.tail _ hq)
  clear e7 x7 F6 N6 N7
  dsimp only
  iterate 23 (all_goals (try (first | (k_unfold; (try dsimp only)) | (k_end; wrow_close) | ((fail_if_success (fail_if_success (with_reducible show wpAny _ _ (eval (PySem.Expr.Name _ _) _) _ _ _))); (k_here; k_dflt (refine' nameX_L ?F9z ?v9z ?_ ?a9z ?b9z ?c9z; (case F9z => k_asm); (case v9z => with_unfolding_all assumption); (case a9z => exact rfl); (case b9z => exact rfl); (case c9z => decide))); try dsimp only) | (walk1; try dsimp only) | (dsimp only; walk1; try dsimp only))))
  rename Fr g L _ _ => F9
  rename News g L _ _ => N9
  refine add_lst_N F9 N9 (.head _) (.tail _ (hs4 _ mw _ _)) (by simp; omega) fun ha Da Fa Na la => ?_
  clear F9 N9
  dsimp only
  iterate 5 (all_goals (try (first | (k_unfold; (try dsimp only)) | (k_end; wrow_close) | ((fail_if_success (fail_if_success (with_reducible show wpAny _ _ (eval (PySem.Expr.Name _ _) _) _ _ _))); (k_here; k_dflt (refine' nameX_L ?F9z ?v9z ?_ ?a9z ?b9z ?c9z; (case F9z => k_asm); (case v9z => with_unfolding_all assumption); (case a9z => exact rfl); (case b9z => exact rfl); (case c9z => decide))); try dsimp only) | (walk1; try dsimp only) | (dsimp only; walk1; try dsimp only))))
  rename Fr g L _ _ => Fb
  rename News g L _ _ => Nb
  refine add_lst_N Fb Nb (.tail _ (.head _)) (.head _) (by simp; omega) fun hc Dc Fc Nc lc => ?_
  clear Fb Nb
  dsimp only
  iterate 4 (all_goals (try (first | (k_unfold; (try dsimp only)) | (k_end; wrow_close) | ((fail_if_success (fail_if_success (with_reducible show wpAny _ _ (eval (PySem.Expr.Name _ _) _) _ _ _))); (k_here; k_dflt (refine' nameX_L ?F9z ?v9z ?_ ?a9z ?b9z ?c9z; (case F9z => k_asm); (case v9z => with_unfolding_all assumption); (case a9z => exact rfl); (case b9z => exact rfl); (case c9z => decide))); try dsimp only) | (walk1; try dsimp only) | (dsimp only; walk1; try dsimp only))))
  have hs5 : ∀ q ∈ T, ∀ a b c d e f, q ∈ a :: b :: c :: d :: e :: f :: T := fun q hq a b c d e f => .tail _ (.tail _ (.tail _ (.tail _ (.tail _ (.tail _ hq)))))
  refine specT_use (refused_2 fun tt => specE_le (single_no (rs := ([(true, S "gone")] ++ rv.map fun _ => (false, S "gone")) ++ [(true, S "gone")]) (.head _) (by simp; omega) ((All₂.app (.cons (hRh rfl rfl (.tail _ (.tail _ (.tail _ (.tail _ (.head _))))) (.tail _ (.tail _ (.tail _ (.tail _ (.tail _ (.head _))))))) .nil) (hRI.mono fun _ _ => RowIn.mono fun q hq => hs5 q hq _ _ _ _ _ _)).app (.cons (hRh rfl rfl (.tail _ (.tail _ (.tail _ (.tail _ (.head _))))) (.tail _ (.tail _ (.tail _ (.tail _ (.tail _ (.head _))))))) .nil)) (fun q hq => hq) (by rw [heres_app (by simp), heres_app (by simp), heres_no hR0]; exact Nat.le_refl 2)) (by decide) (by decide)) B Fc XB TB rfl rfl (by k_room) (by k_units) Nc ?_
  rintro zd hd' tkd gd' NLd Td Fd Nd Bd Xd Tpd ⟨ed, rfl⟩
  rw [ed] at Nd
  (try dsimp only)
  exact k _ _ _ _ Td Fd (fun q hq => Nd q (hs5 q hq _ _ _ _ _ _)) Bd
end
end
section
open Sem (wp)
noncomputable def SpecTx (w : World) (p : Program) (loose : List Str) (mean : ExcName → Option Value) (mg mb : Str → Option Value) (f : Addr) (vs : List Value) (dn un : Nat) (NL : List (Addr × Obj)) (Post : List (Addr × Obj) → Value → Prop) : Prop :=
  ∀ (dp u : Nat) (gd : Option (List Code)) (A₀ : Around) (base h₀ : Heap) (env : Env) (outer : List Env) (L : Addr) (m : Str → Option Value) (s : Shared) (Q E : Value → Shared → Prop),
    Below A₀ base outer h₀ → Fr h₀ L s.heap m → (hd.heap_39 w.params).In base → Top p loose mean mg mb base → env.frame = some L → env.scope.kind = .function → dp + dn < recursionLimit → u + un < cLine →
    News h₀ L s.heap NL → (∀ r h' tk' h₁ NL', KtsTurn (frs outer) h₀ h₁ → Fr h₁ L h' m → News h₁ L h' NL' → Below A₀ base outer h₁ → (∀ b o, s.heap.get? b = some o → b ∉ NL.map (·.1) → b ∉ frs (env :: outer) → h'.get? b = some o) → Post NL' r → Q r { s with heap := h', toks := tk' }) →
    wpAny (model PySem.Challenge.rw_og0176_01.row.prog w) (arnd dp u gd env outer) (call (.ref f) vs) Q E s
theorem specTx_use {w : World} {p : Program} {loose : List Str} {mean : ExcName → Option Value} {mg mb : Str → Option Value} {f : Addr} {vs : List Value} {dn un : Nat} {NL R : List (Addr × Obj)} {Post : List (Addr × Obj) → Value → Prop} (Sp : SpecTx w p loose mean mg mb f vs dn un NL Post) {dp u : Nat} {gd : Option (List Code)} {A₀ : Around} {base h₀ : Heap} {env : Env} {outer : List Env} {L : Addr} {m : Str → Option Value} {s : Shared} {Q E : Value → Shared → Prop}
    (B : Below A₀ base outer h₀) (F : Fr h₀ L s.heap m) (XB : (hd.heap_39 w.params).In base) (TB : Top p loose mean mg mb base) (hf : env.frame = some L) (hk : env.scope.kind = .function) (hd' : dp + dn < recursionLimit) (hu : u + un < cLine)
    (N : News h₀ L s.heap (NL ++ R)) (hR : ∀ q ∈ R, q.1 ∉ NL.map (·.1)) (ret : ∀ r h' tk' h₁ NL', KtsTurn (frs outer) h₀ h₁ → Fr h₁ L h' m → News h₁ L h' (NL' ++ R) → Below A₀ base outer h₁ → Post NL' r → Q r { s with heap := h', toks := tk' }) :
    wpAny (model PySem.Challenge.rw_og0176_01.row.prog w) (arnd dp u gd env outer) (call (.ref f) vs) Q E s :=
  Sp _ _ _ _ _ _ _ _ _ _ _ _ _ B F XB TB hf hk hd' hu (news_sub N fun q hq => List.mem_append.mpr (.inl hq)) fun r h' tk' h₁ NL' a b c d e x => ret r h' tk' h₁ NL' a b (fun q hq => (List.mem_append.mp hq).elim (c q) fun hq => by
    have n := N q (List.mem_append.mpr (.inr hq))
    refine ⟨e _ _ n.1 (hR q hq) fun z => ?_, n.2.1, a.none_ _ n.2.2⟩
    obtain ⟨env', h1, h2⟩ := List.mem_filterMap.mp z
    rcases List.mem_cons.mp h1 with rfl | h1
    · rw [hf] at h2; exact n.2.1 (Option.some.inj h2).symm
    · exact not_frame (o := q.2) B N (List.mem_append.mpr (.inr hq)) (List.mem_filterMap.mpr ⟨env', h1, h2⟩)) d x
set_option maxRecDepth 100000 in
set_option maxHeartbeats 2000000 in
theorem rows_right {w : World} {p : Program} {loose : List Str} {mean : ExcName → Option Value} {mg mb : Str → Option Value} {pa la : Nat} {P NL : List (Addr × Obj)} {b : Int} {sh : Addr} {sd : List Dat} (hP : PenSt pa la b P) (hb : b < 70000) (hHi : Hi pa la NL) (hsh : DatIn NL (.ref sh) (.tuple sd)) (hnb : nbL sd = true) (hdp : depL sd ≤ 50) :
    SpecTx w p loose mean mg mb 400 [.ref pa, .ref sh] 40 600 (P ++ NL) (fun N2 r => ∃ P', N2 = P' ++ NL ∧ PenSt pa la (b + 8) P' ∧ r = .bool true) := by
  unfold SpecTx
  intro dp u gd A₀ base h₀ env outer L m s Q E B F XB TB hf hk hd hu N hret
  have X := XB.keeps B.stays
  have Tp := TB.keeps B.stays
  refine wpAny_call ?_
  refine' code_defCR B F X N Tp rfl hf hk ?k6 ?k7 (asm2 hd) ?k9 ?kB ?kD ?_ ?c2 ?c3 ?c4
  case k6 => k_is
  case k7 => k_is
  case k9 => exact BindsTo.of_eq rfl
  case kB => exact rfl
  case kD => decide +kernel
  case c2 => exact rfl
  case c3 => exact rfl
  case c4 => exact rfl
  intro g' L' h' tk' cells' FG' F' N' Y' B' X' T' l1 kG'
  k_cells Y'
  (try simp only [List.cons_append, List.nil_append] at N')
  (try dsimp only)
  (try k_fold)
  rename_i oF oS oN oP eF eS eN eP
  have eP : oP.data = .cell (some (.ref pa)) := eP
  have eN : oN.data = .cell none := eN
  have eS : oS.data = .cell none := eS
  have eF : oF.data = .cell none := eF
  have hpl : @LT.lt Nat _ pa L' ∧ @LT.lt Nat _ la L' := pen_lt hP l1
  have hup : ∀ k : Nat, @LT.lt Nat _ pa (L' + k) ∧ @LT.lt Nat _ la (L' + k) := fun k => ⟨Nat.lt_of_lt_of_le hpl.1 (Nat.le_add_right _ _), Nat.lt_of_lt_of_le hpl.2 (Nat.le_add_right _ _)⟩
  have hHc : Hi pa la ((L' + 4, oF) :: (L' + 3, oS) :: (L' + 2, oN) :: (L' + 1, oP) :: NL) := .cons (hup 4) (.cons (hup 3) (.cons (hup 2) (.cons (hup 1) hHi)))
  have Nc : News g' L' h' (P ++ ((L' + 4, oF) :: (L' + 3, oS) :: (L' + 2, oN) :: (L' + 1, oP) :: NL)) := news_sub N' fun q hq => by
    ((repeat' (first | (rcases List.mem_append.mp hq with hq | hq) | (rcases List.mem_cons.mp hq with rfl | hq))) <;> (first | k_mem | cases hq))
  iterate 13 (all_goals (try (first | (k_unfold; (try dsimp only)) | (k_end; wrow_close) | ((fail_if_success (fail_if_success (with_reducible show wpAny _ _ (call (Value.ref _) _) _ _ _))); (first | (k_here; k_dflt ((rename PenSt _ _ _ _ => hPo); (rename Hi _ _ _ => hHc); (first | (refine' spec_useG (law_leaf hPo ?hb9z hHc) ?B9z ?F9z ?X9z ?T9z rfl rfl ?hd9z ?hu9z ?N9z ?_; (case B9z => k_asm); (case F9z => k_asm); (case X9z => k_asm); (case T9z => k_asm); (case hd9z => k_room); (case hu9z => k_units); (case N9z => k_asm); (case hb9z => omega)) | ((refine' pen_norm hPo hHc ?N09z ?l09z ?_; (case N09z => k_asm); (case l09z => assumption); clear hHc; intro hHc Nc); refine' spec_useG (law_leaf hPo ?hb9z hHc) ?B9z ?F9z ?X9z ?T9z rfl rfl ?hd9z ?hu9z ?N9z ?_; (case B9z => k_asm); (case F9z => k_asm); (case X9z => k_asm); (case T9z => k_asm); (case hd9z => k_room); (case hu9z => k_units); (case N9z => k_asm); (case hb9z => omega))); (intro GG hGG r1 h1 tk1 NL1 F1 N1 x1 P1; obtain ⟨P', tl1, d1, e1, hP, ab1, lf1⟩ := P1; subst e1; refine hGG _ _ _ _ ?_; clear hGG GG; clear x1; (try k_sweep)))) | (k_here; k_dflt ((rename PenSt _ _ _ _ => hPo); (rename Hi _ _ _ => hHc); (first | (refine' spec_useG (draw_ok hPo ?hb9z hHc ?g39z ?g49z) ?B9z ?F9z ?X9z ?T9z rfl rfl ?hd9z ?hu9z ?N9z ?_; (case B9z => k_asm); (case F9z => k_asm); (case X9z => k_asm); (case T9z => k_asm); (case hd9z => k_room); (case hu9z => k_units); (case N9z => k_asm); (case hb9z => omega); (case g39z => decide); (case g49z => decide)) | ((refine' pen_norm hPo hHc ?N09z ?l09z ?_; (case N09z => k_asm); (case l09z => assumption); clear hHc; intro hHc Nc); refine' spec_useG (draw_ok hPo ?hb9z hHc ?g39z ?g49z) ?B9z ?F9z ?X9z ?T9z rfl rfl ?hd9z ?hu9z ?N9z ?_; (case B9z => k_asm); (case F9z => k_asm); (case X9z => k_asm); (case T9z => k_asm); (case hd9z => k_room); (case hu9z => k_units); (case N9z => k_asm); (case hb9z => omega); (case g39z => decide); (case g49z => decide))); (intro GG hGG r1 h1 tk1 NL1 F1 N1 x1 P1; obtain ⟨P', d1, t1, e1, hP, e2, hd1, hd2⟩ := P1; subst e1 e2; refine hGG _ _ _ _ ?_; clear hGG GG; clear x1; have hodd := odd_fmod d1; (try k_sweep))))); try dsimp only) | (walk1; try dsimp only) | (dsimp only; walk1; try dsimp only))))
  refine spec_useG (law_leaf hP (by omega) hHc) B' F' X' T' rfl rfl (by k_room) (by k_units) Nc ?_
  (rintro GG hGG r1 h1 tk1 NL1 F1 N1 x1 ⟨P1, tl1, d1, rfl, hP1, ab1, lf1⟩; refine hGG _ _ _ _ ?_; clear hGG GG)
  clear x1 N' Nc
  dsimp only
  iterate 2 (all_goals (try (first | (k_unfold; (try dsimp only)) | (k_end; wrow_close) | ((fail_if_success (fail_if_success (with_reducible show wpAny _ _ (call (Value.ref _) _) _ _ _))); (first | (k_here; k_dflt ((rename PenSt _ _ _ _ => hPo); (rename Hi _ _ _ => hHc); (first | (refine' spec_useG (law_leaf hPo ?hb9z hHc) ?B9z ?F9z ?X9z ?T9z rfl rfl ?hd9z ?hu9z ?N9z ?_; (case B9z => k_asm); (case F9z => k_asm); (case X9z => k_asm); (case T9z => k_asm); (case hd9z => k_room); (case hu9z => k_units); (case N9z => k_asm); (case hb9z => omega)) | ((refine' pen_norm hPo hHc ?N09z ?l09z ?_; (case N09z => k_asm); (case l09z => assumption); clear hHc; intro hHc Nc); refine' spec_useG (law_leaf hPo ?hb9z hHc) ?B9z ?F9z ?X9z ?T9z rfl rfl ?hd9z ?hu9z ?N9z ?_; (case B9z => k_asm); (case F9z => k_asm); (case X9z => k_asm); (case T9z => k_asm); (case hd9z => k_room); (case hu9z => k_units); (case N9z => k_asm); (case hb9z => omega))); (intro GG hGG r1 h1 tk1 NL1 F1 N1 x1 P1; obtain ⟨P', tl1, d1, e1, hP, ab1, lf1⟩ := P1; subst e1; refine hGG _ _ _ _ ?_; clear hGG GG; clear x1; (try k_sweep)))) | (k_here; k_dflt ((rename PenSt _ _ _ _ => hPo); (rename Hi _ _ _ => hHc); (first | (refine' spec_useG (draw_ok hPo ?hb9z hHc ?g39z ?g49z) ?B9z ?F9z ?X9z ?T9z rfl rfl ?hd9z ?hu9z ?N9z ?_; (case B9z => k_asm); (case F9z => k_asm); (case X9z => k_asm); (case T9z => k_asm); (case hd9z => k_room); (case hu9z => k_units); (case N9z => k_asm); (case hb9z => omega); (case g39z => decide); (case g49z => decide)) | ((refine' pen_norm hPo hHc ?N09z ?l09z ?_; (case N09z => k_asm); (case l09z => assumption); clear hHc; intro hHc Nc); refine' spec_useG (draw_ok hPo ?hb9z hHc ?g39z ?g49z) ?B9z ?F9z ?X9z ?T9z rfl rfl ?hd9z ?hu9z ?N9z ?_; (case B9z => k_asm); (case F9z => k_asm); (case X9z => k_asm); (case T9z => k_asm); (case hd9z => k_room); (case hu9z => k_units); (case N9z => k_asm); (case hb9z => omega); (case g39z => decide); (case g49z => decide))); (intro GG hGG r1 h1 tk1 NL1 F1 N1 x1 P1; obtain ⟨P', d1, t1, e1, hP, e2, hd1, hd2⟩ := P1; subst e1 e2; refine hGG _ _ _ _ ?_; clear hGG GG; clear x1; have hodd := odd_fmod d1; (try k_sweep))))); try dsimp only) | (walk1; try dsimp only) | (dsimp only; walk1; try dsimp only))))
  refine spec_useG (told_all 0 r1 d1 _ (lf1.mono fun q hq => List.mem_append.mpr (.inl hq))) B' F1 X' T' rfl rfl (by k_room) (by k_units) N1 ?_
  (rintro GG hGG r2 h2 tk2 NL2 F2 N2 x2 ⟨tl2, rfl, ab2, hnd⟩; refine hGG _ _ _ _ ?_; clear hGG GG)
  clear x2
  dsimp only
  iterate 1 (all_goals (try (first | (k_unfold; (try dsimp only)) | (k_end; wrow_close) | ((fail_if_success (fail_if_success (with_reducible show wpAny _ _ (call (Value.ref _) _) _ _ _))); (first | (k_here; k_dflt ((rename PenSt _ _ _ _ => hPo); (rename Hi _ _ _ => hHc); (first | (refine' spec_useG (law_leaf hPo ?hb9z hHc) ?B9z ?F9z ?X9z ?T9z rfl rfl ?hd9z ?hu9z ?N9z ?_; (case B9z => k_asm); (case F9z => k_asm); (case X9z => k_asm); (case T9z => k_asm); (case hd9z => k_room); (case hu9z => k_units); (case N9z => k_asm); (case hb9z => omega)) | ((refine' pen_norm hPo hHc ?N09z ?l09z ?_; (case N09z => k_asm); (case l09z => assumption); clear hHc; intro hHc Nc); refine' spec_useG (law_leaf hPo ?hb9z hHc) ?B9z ?F9z ?X9z ?T9z rfl rfl ?hd9z ?hu9z ?N9z ?_; (case B9z => k_asm); (case F9z => k_asm); (case X9z => k_asm); (case T9z => k_asm); (case hd9z => k_room); (case hu9z => k_units); (case N9z => k_asm); (case hb9z => omega))); (intro GG hGG r1 h1 tk1 NL1 F1 N1 x1 P1; obtain ⟨P', tl1, d1, e1, hP, ab1, lf1⟩ := P1; subst e1; refine hGG _ _ _ _ ?_; clear hGG GG; clear x1; (try k_sweep)))) | (k_here; k_dflt ((rename PenSt _ _ _ _ => hPo); (rename Hi _ _ _ => hHc); (first | (refine' spec_useG (draw_ok hPo ?hb9z hHc ?g39z ?g49z) ?B9z ?F9z ?X9z ?T9z rfl rfl ?hd9z ?hu9z ?N9z ?_; (case B9z => k_asm); (case F9z => k_asm); (case X9z => k_asm); (case T9z => k_asm); (case hd9z => k_room); (case hu9z => k_units); (case N9z => k_asm); (case hb9z => omega); (case g39z => decide); (case g49z => decide)) | ((refine' pen_norm hPo hHc ?N09z ?l09z ?_; (case N09z => k_asm); (case l09z => assumption); clear hHc; intro hHc Nc); refine' spec_useG (draw_ok hPo ?hb9z hHc ?g39z ?g49z) ?B9z ?F9z ?X9z ?T9z rfl rfl ?hd9z ?hu9z ?N9z ?_; (case B9z => k_asm); (case F9z => k_asm); (case X9z => k_asm); (case T9z => k_asm); (case hd9z => k_room); (case hu9z => k_units); (case N9z => k_asm); (case hb9z => omega); (case g39z => decide); (case g49z => decide))); (intro GG hGG r1 h1 tk1 NL1 F1 N1 x1 P1; obtain ⟨P', d1, t1, e1, hP, e2, hd1, hd2⟩ := P1; subst e1 e2; refine hGG _ _ _ _ ?_; clear hGG GG; clear x1; have hodd := odd_fmod d1; (try k_sweep))))); try dsimp only) | (walk1; try dsimp only) | (dsimp only; walk1; try dsimp only))))
  refine store_cell_S F2 N2 (c := L' + 2) rfl ?_ eN (fun h3 oN' F3 eN' N3 => ?_) rfl rfl
  · simp
  have hp1 := pen_has hP1
  have ht1 : ∀ q ∈ (L' + 4, oF) :: (L' + 3, oS) :: (L' + 2, oN) :: (L' + 1, oP) :: NL, ∀ p ∈ tl2 ++ tl1, @LT.lt Nat _ q.1 p.1 := fun q hq p hp => (List.mem_append.mp hp).elim (ab2 q (List.mem_append.mpr (.inr (List.mem_append.mpr (.inr hq)))) p) (ab1 q (List.mem_append.mpr (.inr hq)) p)
  have hHt : Hi pa la (tl2 ++ tl1) := .app (fun p hp => ⟨ab2 _ (List.mem_append.mpr (.inr (List.mem_append.mpr (.inl hp1.1.choose_spec)))) p hp, ab2 _ (List.mem_append.mpr (.inr (List.mem_append.mpr (.inl hp1.2.choose_spec)))) p hp⟩) (hi_above hP1 ab1)
  obtain ⟨Y, hY⟩ : ∃ Y, Y = (L' + 2, oN') :: (L' + 1, oP) :: (tl2 ++ tl1 ++ NL) := ⟨_, rfl⟩
  have hH1 : Hi pa la ((L' + 4, oF) :: (L' + 3, oS) :: Y) := by
    rw [hY]
    exact .cons (hup 4) (.cons (hup 3) (.cons (hup 2) (.cons (hup 1) (.app hHt hHi))))
  have hYn : ∀ p ∈ Y, p.1 ≠ L' + 3 ∧ p.1 ≠ L' + 4 := by
    rw [hY]
    intro p hp
    rcases List.mem_cons.mp hp with rfl | hp
    · exact ⟨Nat.ne_of_lt (Nat.lt_succ_self _), Nat.ne_of_lt (Nat.lt_add_of_pos_right (k := 2) (by decide))⟩
    · rcases List.mem_cons.mp hp with rfl | hp
      · exact ⟨Nat.ne_of_lt (Nat.lt_add_of_pos_right (k := 2) (by decide)), Nat.ne_of_lt (Nat.lt_add_of_pos_right (k := 3) (by decide))⟩
      · rcases List.mem_append.mp hp with hp | hp
        · exact ⟨Ne.symm (Nat.ne_of_lt (ht1 (L' + 3, oS) (.tail _ (.head _)) p hp)), Ne.symm (Nat.ne_of_lt (ht1 (L' + 4, oF) (.head _) p hp))⟩
        · have := l1 p (List.mem_append.mpr (.inr hp))
          exact ⟨Nat.ne_of_lt (Nat.lt_of_lt_of_le this (Nat.le_add_right _ _)), Nat.ne_of_lt (Nat.lt_of_lt_of_le this (Nat.le_add_right _ _))⟩
  have N3 := N3 (P1 ++ ((L' + 4, oF) :: (L' + 3, oS) :: Y)) fun q hq => by
    have hPn : ∀ p ∈ P1, p.1 ≠ L' + 2 := fun p hp => by
      rcases pen_mem hP1 p hp with e | e
      · rw [e]; exact Nat.ne_of_lt (hup 2).1
      · rw [e]; exact Nat.ne_of_lt (hup 2).2
    rw [hY] at hq
    rcases List.mem_append.mp hq with hq | hq
    · exact .inr ⟨by simp [hq], hPn q hq⟩
    · rcases List.mem_cons.mp hq with rfl | hq
      · exact .inr ⟨by simp, Ne.symm (Nat.ne_of_lt (Nat.lt_add_of_pos_right (n := L' + 2) (k := 2) (by decide)))⟩
      · rcases List.mem_cons.mp hq with rfl | hq
        · exact .inr ⟨by simp, Ne.symm (Nat.ne_of_lt (Nat.lt_succ_self _))⟩
        · rcases List.mem_cons.mp hq with rfl | hq
          · exact .inl rfl
          · rcases List.mem_cons.mp hq with rfl | hq
            · exact .inr ⟨by simp, Nat.ne_of_lt (Nat.lt_succ_self _)⟩
            · rcases List.mem_append.mp hq with hq | hq
              · refine .inr ⟨?_, Ne.symm (Nat.ne_of_lt (ht1 (L' + 2, oN) (.tail _ (.tail _ (.head _))) q hq))⟩
                rcases List.mem_append.mp hq with hq | hq <;> simp [hq]
              · exact .inr ⟨by simp [hq], Nat.ne_of_lt (Nat.lt_of_lt_of_le (l1 q (List.mem_append.mpr (.inr hq))) (Nat.le_add_right _ _))⟩
  have mN : (L' + 2, oN') ∈ Y := by rw [hY]; exact .head _
  have mP : (L' + 1, oP) ∈ Y := by rw [hY]; exact .tail _ (.head _)
  have hYN : ∀ q ∈ NL, q ∈ Y := fun q hq => by rw [hY]; exact .tail _ (.tail _ (List.mem_append.mpr (.inr hq)))
  have hnd : DatIn Y r2 d1 := hnd.mono fun q hq => by rw [hY]; exact .tail _ (.tail _ (List.mem_append.mpr (.inl (List.mem_append.mpr (.inl hq)))))
  have hsh : DatIn Y (.ref sh) (.tuple sd) := hsh.mono hYN
  have hlf := lf1.ok
  clear hY ht1 hHt hp1 ab1 ab2 lf1 N1 N2 F1 F2 hHc eN
  obtain ⟨nds, rfl, hn1, hn2⟩ := hlf.tup
  obtain ⟨na, rfl⟩ : ∃ na, r2 = .ref na := by cases hnd; exact ⟨_, rfl⟩
  have hYT : ∀ q ∈ Y, q ∈ P1 ++ ((L' + 4, oF) :: (L' + 3, oS) :: Y) := fun q hq => by simp [hq]
  dsimp only
  obtain ⟨m0, hm0, hms⟩ : ∃ m0, Fr g' L' h3 m0 ∧ m0 (S "shape") = some (.ref sh) := ⟨_, F3, rfl⟩
  clear F3
  have F3 := hm0
  refine lr_row B' F3 X' T' (by k_room) (by k_units) N3 hms (hYT _ mN) eN' (hsh.mono hYT) hnb hdp (hnd.mono hYT) hn1 hn2 fun h4 tk4 m4 pp ro t F4 N4 hpp hro hmr ag4 => ?_
  have hY2 : ∀ q ∈ Y, ∀ a b, q ∈ a :: b :: (P1 ++ ((L' + 4, oF) :: (L' + 3, oS) :: Y)) := fun q hq a b => .tail _ (.tail _ (hYT q hq))
  have hms4 : m4 (S "shape") = some (.ref sh) := (ag4 (S "shape") (by decide)).trans hms
  clear F3 N3
  have e4 : (ro, tupOf [.ref pp, .str (S "turned") t, .ref sh, .ref na].toArray 0) ∈ (ro, tupOf [.ref pp, .str (S "turned") t, .ref sh, .ref na].toArray 0) :: (pp, tupOf ([] : List Value).toArray 0) :: (P1 ++ ((L' + 4, oF) :: (L' + 3, oS) :: Y)) := .head _
  have e4' : (pp, tupOf ([] : List Value).toArray 0) ∈ (ro, tupOf [.ref pp, .str (S "turned") t, .ref sh, .ref na].toArray 0) :: (pp, tupOf ([] : List Value).toArray 0) :: (P1 ++ ((L' + 4, oF) :: (L' + 3, oS) :: Y)) := .tail _ (.head _)
  have mN4 := hY2 _ mN (ro, tupOf [.ref pp, .str (S "turned") t, .ref sh, .ref na].toArray 0) (pp, tupOf ([] : List Value).toArray 0)
  have hsh4 : DatIn ((ro, tupOf [.ref pp, .str (S "turned") t, .ref sh, .ref na].toArray 0) :: (pp, tupOf ([] : List Value).toArray 0) :: (P1 ++ ((L' + 4, oF) :: (L' + 3, oS) :: Y))) (.ref sh) (.tuple sd) := hsh.mono fun q hq => hY2 q hq _ _
  with_reducible refine lr_bent B' F4 XB TB (by k_room) (by k_units) N4 hms4 hmr mN4 eN' e4 e4' hsh4 hnb hdp fun h5 tk5 g5 m5 T5 F5 N5 B5 ag5 => ?_
  have X5 := XB.keeps B5.stays
  have Tp5 := TB.keeps B5.stays
  obtain ⟨Y5, hY5⟩ : ∃ Y5, Y5 = (ro, tupOf [.ref pp, .str (S "turned") t, .ref sh, .ref na].toArray 0) :: (pp, tupOf ([] : List Value).toArray 0) :: Y := ⟨_, rfl⟩
  have hp1 := pen_has hP1
  have hpp' : @LT.lt Nat _ pa pp ∧ @LT.lt Nat _ la pp := pen_lt hP1 hpp
  have hlo : @LT.lt Nat _ (L' + 4) pp := hpp (L' + 4, oF) (by simp)
  have hH5 : Hi pa la ((L' + 4, oF) :: (L' + 3, oS) :: Y5) := by
    rw [hY5]
    exact .cons (hup 4) (.cons (hup 3) (.cons ⟨Nat.lt_trans hpp'.1 hro, Nat.lt_trans hpp'.2 hro⟩ (.cons hpp' fun q hq => hH1 q (.tail _ (.tail _ hq)))))
  have N5 : News g5 L' h5 (P1 ++ ((L' + 4, oF) :: (L' + 3, oS) :: Y5)) := news_sub N5 fun q hq => by
    rw [hY5] at hq
    ((repeat' (first | (rcases List.mem_append.mp hq with hq | hq) | (rcases List.mem_cons.mp hq with rfl | hq))) <;> (first | k_mem | cases hq))
  have hYn5 : ∀ q ∈ Y5, q.1 ≠ L' + 3 ∧ q.1 ≠ L' + 4 := by
    rw [hY5]
    intro q hq
    rcases List.mem_cons.mp hq with rfl | hq
    · have := Nat.lt_trans hlo hro
      exact ⟨Ne.symm (Nat.ne_of_lt (Nat.lt_trans (Nat.lt_succ_self _) this)), Ne.symm (Nat.ne_of_lt this)⟩
    · rcases List.mem_cons.mp hq with rfl | hq
      · exact ⟨Ne.symm (Nat.ne_of_lt (Nat.lt_trans (Nat.lt_succ_self _) hlo)), Ne.symm (Nat.ne_of_lt hlo)⟩
      · exact hYn q hq
  have hPL : ∀ q ∈ P1, @LT.lt Nat _ q.1 L' := fun q hq => by
    rcases pen_mem hP1 q hq with e | e
    · rw [e]; exact hpl.1
    · rw [e]; exact hpl.2
  have hY55 : ∀ q ∈ Y, q ∈ Y5 := fun q hq => by rw [hY5]; exact .tail _ (.tail _ hq)
  have mN5 := hY55 _ mN
  have mP5 := hY55 _ mP
  have hnd5 := hnd.mono hY55
  have mr5 : (ro, tupOf [.ref pp, .str (S "turned") t, .ref sh, .ref na].toArray 0) ∈ Y5 := by rw [hY5]; exact .head _
  have mp5 : (pp, tupOf ([] : List Value).toArray 0) ∈ Y5 := by rw [hY5]; exact .tail _ (.head _)
  have hb5 : b + 2 ≤ 79000 := by omega
  clear hY5 N4 F4 hY2 e4 e4' mN4 hsh4 hH1 hpp
  with_reducible refine lr_steps B5 F5 X5 Tp5 (by k_room) (by k_units) hP1 hb5 hH5 N5 hYn5 hPL eS mN5 eN' mP5 eP hnd5 ?hE ?s1 ?s2 ?l1 fun h6 tk6 m6 P6 T6 rr rv n dd dv n' st F6 N6 hT6 hP6 hsub6 mw6 h46 hr6 hl6 md6 hdv6 hst6 hmw hmd ag6 => ?_
  case hE => exact PassesOwn.leaving
  case s1 => rfl
  case s2 => rfl
  case l1 => rfl
  have hY6 : ∀ q ∈ Y5, q ∈ T6 := fun q hq => hsub6 q (List.mem_append.mpr (.inr hq))
  have mN6 := hY6 _ mN5
  have mr6 := hY6 _ mr5
  have mp6 := hY6 _ mp5
  have hnd6 := hnd5.mono hY6
  have hms5 : m5 (S "shape") = some (.ref sh) := (ag5 (S "shape") (by decide)).trans hms4
  have hms6 : m6 (S "shape") = some (.ref sh) := (ag6 (S "shape") (by decide)).trans hms5
  have hmr6 : m6 (S "row") = some (.ref ro) := (ag6 (S "row") (by decide)).trans ((ag5 (S "row") (by decide)).trans hmr)
  have nn1 : nb (.tuple nds) = true := hn1
  have nn2 : dep (.tuple nds) ≤ 5 := by rw [dep]; omega
  with_reducible refine lr_found B5 F6 XB TB (by k_room) (by k_units) N6 hT6 eF hms6 hmr6 hmw hmd mw6 h46 hr6 hl6 md6 hdv6 hst6 hnd6 nn1 nn2 mr6 mp6 fun h7 tk7 g7 T7 F7 N7 B7 => ?_
  with_reducible refine lr_end B7 F7 XB TB (by k_room) (by k_units) N7 hms6 hmr6 hmw mN6 eN' hnd6 nn1 nn2 mw6 hr6 hl6 mr6 mp6 fun h8 tk8 g8 m8 T8 F8 N8 B8 => ?_
  have hNP : ∀ q ∈ P6 ++ NL, q.1 ≠ L ∧ h₀.get? q.1 = none := fun q hq => by
    rcases List.mem_append.mp hq with hq | hq
    · obtain ⟨⟨o3, z1⟩, o4, z2⟩ := pen_has hP
      rcases pen_mem hP6 q hq with e | e
      · rw [e]; exact (N _ (List.mem_append.mpr (.inl z1))).2
      · rw [e]; exact (N _ (List.mem_append.mpr (.inl z2))).2
    · exact (N q (List.mem_append.mpr (.inr hq))).2
  obtain ⟨h₁, Th, Fh, Nh, Bh⟩ := back_turn B FG' hf hNP ((T5.trans T7).trans T8) F8 (news_sub N8 fun q hq => hsub6 q ((List.mem_append.mp hq).elim (fun h => List.mem_append.mpr (.inl h)) fun h => List.mem_append.mpr (.inr (hY55 q (hYN q h)))))
  exact hret _ _ _ h₁ (P6 ++ NL) Th Fh Nh Bh (fun b o e n nf => F8.keep _ _ (((T5.trans T7).trans T8).other b o (kG' b o e n) nf)) ⟨P6, rfl, hP6.le (by omega), rfl⟩
end
section
open Sem (wp)
noncomputable abbrev lawScope : Scope := { kind := .function, names := [(S "script", .local), (S "pen", .local), (S "lap", .local), (S "thing", .local), (S "shape", .local), (S "made", .local), (S "pairs", .cell), (S "key", .local), (S "whole", .local), (S "_law_pen", .globalImplicit), (S "range", .globalImplicit), (S "_law_thing", .globalImplicit), (S "told", .globalImplicit), (S "value_of", .globalImplicit), (S "_law_spoilt", .globalImplicit), (S "_law_draw", .globalImplicit), (S "_law_leaf", .globalImplicit), (S "dict_shape", .globalImplicit), (S "tuple", .globalImplicit), (S "sorted", .globalImplicit), (S "pairs_of", .globalImplicit), (S "_law_rows_right", .globalImplicit), (S "_law_refused", .globalImplicit)], isGenerator := false, isCoroutine := false, more := [(S "fast", .str (S "script")), (S "fast", .str (S "pen")), (S "fast", .str (S "lap")), (S "fast", .str (S "thing")), (S "fast", .str (S "shape")), (S "fast", .str (S "made")), (S "fast", .str (S "pairs")), (S "fast", .str (S "key")), (S "fast", .str (S "whole"))] }
noncomputable abbrev lawEnv (L fa : Addr) (cd : Value) : Env := envOfC (S "law") lawScope L fa cd
theorem sh_nb : ∀ {n : Nat} {d : Dat}, ShOk n d → ∃ ds, d = .tuple ds ∧ nbL ds = true ∧ depL ds ≤ 4 * n + 1
  | 0, _, h => by obtain ⟨ds, e, a, b⟩ := LfOk.tup h; exact ⟨ds, e, a, by omega⟩
  | n + 1, _, h => by
    rcases h with h | ⟨ds, rfl, hl, hs⟩ | ⟨ps, rfl, hs⟩ | ⟨dh, x, rfl, hx, di, hs⟩
    · obtain ⟨ds, e, a, b⟩ := LfOk.tup h; exact ⟨ds, e, a, by omega⟩
    · refine ⟨_, rfl, ?_, ?_⟩
      · simp only [nbL, nb, Bool.true_and]
        exact nbL_all fun y hy => by obtain ⟨es, rfl, a, _⟩ := sh_nb (hs y hy); exact a
      · have : depL ds ≤ 4 * n + 2 := depL_all fun y hy => by obtain ⟨es, rfl, _, b⟩ := sh_nb (hs y hy); rw [dep]; omega
        simp only [depL, dep]; omega
    · refine ⟨_, rfl, ?_, ?_⟩
      · simp only [nbL, nb, Bool.true_and]
        refine nbL_all fun y hy => ?_
        obtain ⟨q, hq, rfl⟩ := List.mem_map.mp hy
        obtain ⟨es, e, a, _⟩ := sh_nb (hs.2.2 q hq).1
        simp only [pairD, nb, nbL, e, a]; rfl
      · have : depL (ps.map pairD) ≤ 4 * n + 3 := depL_all fun y hy => by
          obtain ⟨q, hq, rfl⟩ := List.mem_map.mp hy
          obtain ⟨es, e, _, b⟩ := sh_nb (hs.2.2 q hq).1
          simp only [pairD, dep, depL, e]; omega
        simp only [depL, dep]; omega
    · obtain ⟨es, rfl, a, b⟩ := sh_nb hs
      refine ⟨_, rfl, ?_, ?_⟩
      · simp only [nbL, nb, a]; rfl
      · simp only [depL, dep]; omega
theorem ne_two {prog : Program} {w : World} {A : Around} {E : Value → Shared → Prop} {s : Shared} {h₀ : Heap} {L : Addr} {nw T T' : List (Addr × Obj)} {Q : Value → Shared → Prop} {a b : Addr} {ds : List Dat} (N : News h₀ L s.heap nw) (ha : DatIn T (.ref a) (.tuple ds)) (hb : DatIn T' (.ref b) (.tuple ds)) (hT : ∀ p ∈ T, p ∈ nw) (hT' : ∀ p ∈ T', p ∈ nw) (hk : depL ds ≤ 60) (n1 : nbL ds = true) (hu : A.units + 70 < cLine) (h : Q (.bool false) s) :
    wpAny (model prog w) A (compareOp .NotEq (.ref a) (.ref b)) Q E s := by
  have H : Has s.heap T := fun p hp => (N _ (hT p hp)).1
  have H' : Has s.heap T' := fun p hp => (N _ (hT' p hp)).1
  exact EqBoolInt.of_rcne (cmp_tup H H' ha hb (k := 60) hk n1 n1 (by omega) (r := true) (by simp)).2 h
theorem low_frame {pa la : Nat} {b : Int} {P NL : List (Addr × Obj)} {c : Addr × Obj} (hP : PenSt pa la b P) (hH : Hi pa la NL) (hc : @LT.lt Nat _ c.1 pa ∧ @LT.lt Nat _ c.1 la) : ∀ q ∈ [c], q.1 ∉ (P ++ NL).map (·.1) := fun q hq e => by
  rw [List.mem_singleton.mp hq] at e
  obtain ⟨r, hr, e⟩ := List.mem_map.mp e
  rcases List.mem_append.mp hr with hr | hr
  · rcases pen_mem hP r hr with x | x
    · exact Nat.ne_of_lt hc.1 (e.symm.trans x)
    · exact Nat.ne_of_lt hc.2 (e.symm.trans x)
  · exact Nat.ne_of_lt (Nat.lt_trans hc.1 (hH r hr).1) e.symm
theorem dat_ref {T : List (Addr × Obj)} {v : Value} {ds : List Dat} (h : DatIn T v (.tuple ds)) : ∃ a, v = .ref a := by cases h; exact ⟨_, rfl⟩
section
set_option maxRecDepth 100000 in
set_option maxHeartbeats 2000000 in
theorem lw_thing {w : World} {p : Program} {loose : List Str} {mean : ExcName → Option Value} {mg mb : Str → Option Value} {dp u : Nat} {gd : Option (List Code)} {A₀ : Around} {base g : Heap} {outer : List Env} {L fa : Addr} {cd : Value} {m : Str → Option Value} {s : Shared} {Q : Flow → Shared → Prop} {E : Value → Shared → Prop}
    {pa la : Nat} {b : Int} {P Y : List (Addr × Obj)} {c : Addr × Obj} {rest : List Stmt} {p1 p2 p3 p4 p5 p6 p7 p8 p9 q1 q2 q3 q4 q5 q6 q7 q8 q9 r1 r2 r3 r4 r5 r6 r7 r8 r9 u1 u2 u3 u4 u5 u6 u7 u8 u9 v1 v2 v3 v4 v5 v6 v7 v8 : Pos}
    (B : Below A₀ base outer g) (F : Fr g L s.heap m) (X : (hd.heap_39 w.params).In g) (Tp : Top p loose mean mg mb g) (hdp : dp + 30 < recursionLimit) (hu : u + 400 < cLine)
    (hP : PenSt pa la b P) (hb : b + KK 3 ≤ 50000) (hH : Hi pa la Y) (hc : @LT.lt Nat _ c.1 pa ∧ @LT.lt Nat _ c.1 la) (N : News g L s.heap (P ++ (Y ++ [c]))) (hmp : m (S "pen") = some (.ref pa))
    (k : ∀ h' tk' m' P' tl sh sd, Fr g L h' m' → News g L h' (P' ++ (tl ++ (Y ++ [c]))) → PenSt pa la (b + KK 3) P' → Above (P' ++ Y) tl → DatIn tl (.ref sh) (.tuple sd) → nbL sd = true → depL sd ≤ 21 → m' (S "shape") = some (.ref sh) → Agr [S "thing", S "shape", S "made"] m' m →
      wpAny (model PySem.Challenge.rw_og0176_01.row.prog w) (arnd dp u gd (lawEnv L fa cd) outer) (execs rest (lawEnv L fa cd)) Q E { s with heap := h', toks := tk' }) :
    wpAny (model PySem.Challenge.rw_og0176_01.row.prog w) (arnd dp u gd (lawEnv L fa cd) outer) (execs
      (.Assign [.Name (S "thing") p1] (.Call (.Name (S "_law_thing") p2) [.Name (S "pen") p3, .Constant (.int 3) 0 p4] [] p5) p6 ::
       .Assign [.Name (S "shape") p7] (.Call (.Name (S "told") p8) [.Name (S "thing") p9] [] q1) q2 ::
       .Assign [.Name (S "made") q3] (.Call (.Name (S "value_of") q4) [.Name (S "shape") q5] [] q6) q7 ::
       .If (.Compare (.Call (.Name (S "told") q8) [.Name (S "made") q9] [] r1) [.NotEq] [.Name (S "shape") r2] r3) [.Return (some (.Constant (.bool false) 0 r4)) r5] [] r6 ::
       .Expr (.Call (.Name (S "_law_spoilt") r7) [.Name (S "made") r8] [] r9) u1 ::
       .If (.BoolOp .Or [.Compare (.Call (.Name (S "told") u2) [.Name (S "thing") u3] [] u4) [.NotEq] [.Name (S "shape") u5] u6,
         .Compare (.Call (.Name (S "told") u7) [.Call (.Name (S "value_of") u8) [.Name (S "shape") u9] [] v1] [] v2) [.NotEq] [.Name (S "shape") v3] v4] v5) [.Return (some (.Constant (.bool false) 0 v6)) v7] [] v8 :: rest) (lawEnv L fa cd)) Q E s := by
  iterate 11 (all_goals (try (first | (k_unfold; (try dsimp only)) | (k_end; wrow_close) | ((fail_if_success (fail_if_success (with_reducible show wpAny _ _ (eval (PySem.Expr.Name _ _) _) _ _ _))); (k_here; k_dflt (refine' nameX_L ?F9z ?v9z ?_ ?a9z ?b9z ?c9z; (case F9z => k_asm); (case v9z => with_unfolding_all assumption); (case a9z => exact rfl); (case b9z => exact rfl); (case c9z => decide))); try dsimp only) | (walk1; try dsimp only) | (dsimp only; walk1; try dsimp only))))
  refine spec_useG (spec_frame (NL := [c]) (thing_all 3 pa la P Y b _ hP hH hb) (low_frame hP hH hc)) B F X Tp rfl rfl (by k_room) (by k_units) (by rw [List.append_assoc]; exact N) ?_
  (rintro GG hGG z1 h1 tk1 NL1 F1 N1 x1 ⟨T1, rfl, P1, tl1, d, rfl, hP1, ab1, th1⟩; refine hGG _ _ _ _ ?_; clear hGG GG)
  rw [List.append_assoc, List.append_assoc] at N1
  clear x1 N
  (try dsimp only)
  iterate 11 (all_goals (try (first | (k_unfold; (try dsimp only)) | (k_end; wrow_close) | ((fail_if_success (fail_if_success (with_reducible show wpAny _ _ (eval (PySem.Expr.Name _ _) _) _ _ _))); (k_here; k_dflt (refine' nameX_L ?F9z ?v9z ?_ ?a9z ?b9z ?c9z; (case F9z => k_asm); (case v9z => with_unfolding_all assumption); (case a9z => exact rfl); (case b9z => exact rfl); (case c9z => decide))); try dsimp only) | (walk1; try dsimp only) | (dsimp only; walk1; try dsimp only))))
  have hsk := th_sh th1
  obtain ⟨sd, rfl, hn1, hn2⟩ := sh_nb hsk
  rename News g L _ _ => N2
  refine spec_useG (told_all 5 z1 _ _ (th1.mono fun q hq => List.mem_append.mpr (.inl hq))) B (by assumption) X Tp rfl rfl (by k_room) (by k_units) N2 ?_
  (rintro GG hGG z2 h2 tk2 NL2 F2 N3 x2 ⟨tl2, rfl, ab2, hd2⟩; refine hGG _ _ _ _ ?_; clear hGG GG)
  obtain ⟨sh, rfl⟩ := dat_ref hd2
  clear x2 N2
  (try dsimp only)
  iterate 11 (all_goals (try (first | (k_unfold; (try dsimp only)) | (k_end; wrow_close) | ((fail_if_success (fail_if_success (with_reducible show wpAny _ _ (eval (PySem.Expr.Name _ _) _) _ _ _))); (k_here; k_dflt (refine' nameX_L ?F9z ?v9z ?_ ?a9z ?b9z ?c9z; (case F9z => k_asm); (case v9z => with_unfolding_all assumption); (case a9z => exact rfl); (case b9z => exact rfl); (case c9z => decide))); try dsimp only) | (walk1; try dsimp only) | (dsimp only; walk1; try dsimp only))))
  rename News g L _ _ => N4
  refine spec_useG (val_all 5 (.ref sh) _ _ hsk (hd2.mono fun q hq => List.mem_append.mpr (.inl hq))) B (by assumption) X Tp rfl rfl (by k_room) (by k_units) N4 ?_
  (rintro GG hGG z3 h3 tk3 NL3 F3 N5 x3 ⟨tl3, rfl, ab3, th3, sp3⟩; refine hGG _ _ _ _ ?_; clear hGG GG)
  clear x3 N4
  (try dsimp only)
  iterate 12 (all_goals (try (first | (k_unfold; (try dsimp only)) | (k_end; wrow_close) | ((fail_if_success (fail_if_success (with_reducible show wpAny _ _ (eval (PySem.Expr.Name _ _) _) _ _ _))); (k_here; k_dflt (refine' nameX_L ?F9z ?v9z ?_ ?a9z ?b9z ?c9z; (case F9z => k_asm); (case v9z => with_unfolding_all assumption); (case a9z => exact rfl); (case b9z => exact rfl); (case c9z => decide))); try dsimp only) | (walk1; try dsimp only) | (dsimp only; walk1; try dsimp only))))
  rename News g L _ _ => N6
  refine spec_useG (told_all 5 z3 _ _ (th3.mono fun q hq => List.mem_append.mpr (.inl hq))) B (by assumption) X Tp rfl rfl (by k_room) (by k_units) N6 ?_
  (rintro GG hGG z4 h4 tk4 NL4 F4 N7 x4 ⟨tl4, rfl, ab4, hd4⟩; refine hGG _ _ _ _ ?_; clear hGG GG)
  obtain ⟨a4, rfl⟩ := dat_ref hd4
  clear x4 N6
  (try dsimp only)
  iterate 1 (all_goals (try (first | (k_unfold; (try dsimp only)) | (k_end; wrow_close) | ((fail_if_success (fail_if_success (with_reducible show wpAny _ _ (eval (PySem.Expr.Name _ _) _) _ _ _))); (k_here; k_dflt (refine' nameX_L ?F9z ?v9z ?_ ?a9z ?b9z ?c9z; (case F9z => k_asm); (case v9z => with_unfolding_all assumption); (case a9z => exact rfl); (case b9z => exact rfl); (case c9z => decide))); try dsimp only) | (walk1; try dsimp only) | (dsimp only; walk1; try dsimp only))))
  refine ne_two N7 hd4 hd2 (fun q hq => by simp [hq]) (fun q hq => by simp [hq]) (by omega) hn1 (by k_units) ?_
  iterate 12 (all_goals (try (first | (k_unfold; (try dsimp only)) | (k_end; wrow_close) | ((fail_if_success (fail_if_success (with_reducible show wpAny _ _ (eval (PySem.Expr.Name _ _) _) _ _ _))); (k_here; k_dflt (refine' nameX_L ?F9z ?v9z ?_ ?a9z ?b9z ?c9z; (case F9z => k_asm); (case v9z => with_unfolding_all assumption); (case a9z => exact rfl); (case b9z => exact rfl); (case c9z => decide))); try dsimp only) | (walk1; try dsimp only) | (dsimp only; walk1; try dsimp only))))
  refine spec_use (spec_frame (NL := tl2 ++ (tl1 ++ (P1 ++ (Y ++ [c])))) (spoil_all 5 z3 tl3 sp3) fun q hq e => ?_) B F4 X Tp rfl rfl (by k_room) (by k_units) (news_sub N7 fun q hq => List.mem_append.mpr (.inr hq)) ?_
  · obtain ⟨r, hr, e⟩ := List.mem_map.mp e
    have := ab3 q hq r hr
    rw [e] at this
    exact Nat.lt_irrefl _ this
  rintro z5 h5 tk5 NL5 F5 N8 x5 ⟨U5, rfl, -⟩
  have N9 : News g L h5 (tl2 ++ (tl1 ++ (P1 ++ (Y ++ [c])))) := news_sub N8 fun q hq => List.mem_append.mpr (.inr hq)
  clear x5 N8 N7 th3 sp3 ab3 ab4 hd4 F4
  (try dsimp only)
  iterate 11 (all_goals (try (first | (k_unfold; (try dsimp only)) | (k_end; wrow_close) | ((fail_if_success (fail_if_success (with_reducible show wpAny _ _ (eval (PySem.Expr.Name _ _) _) _ _ _))); (k_here; k_dflt (refine' nameX_L ?F9z ?v9z ?_ ?a9z ?b9z ?c9z; (case F9z => k_asm); (case v9z => with_unfolding_all assumption); (case a9z => exact rfl); (case b9z => exact rfl); (case c9z => decide))); try dsimp only) | (walk1; try dsimp only) | (dsimp only; walk1; try dsimp only))))
  refine spec_useG (told_all 5 z1 _ _ (th1.mono fun q hq => List.mem_append.mpr (.inr (List.mem_append.mpr (.inl hq))))) B F5 X Tp rfl rfl (by k_room) (by k_units) N9 ?_
  (rintro GG hGG z6 h6 tk6 NL6 F6 Na x6 ⟨tl6, rfl, ab6, hd6⟩; refine hGG _ _ _ _ ?_; clear hGG GG)
  obtain ⟨a6, rfl⟩ := dat_ref hd6
  (try dsimp only)
  iterate 1 (all_goals (try (first | (k_unfold; (try dsimp only)) | (k_end; wrow_close) | ((fail_if_success (fail_if_success (with_reducible show wpAny _ _ (eval (PySem.Expr.Name _ _) _) _ _ _))); (k_here; k_dflt (refine' nameX_L ?F9z ?v9z ?_ ?a9z ?b9z ?c9z; (case F9z => k_asm); (case v9z => with_unfolding_all assumption); (case a9z => exact rfl); (case b9z => exact rfl); (case c9z => decide))); try dsimp only) | (walk1; try dsimp only) | (dsimp only; walk1; try dsimp only))))
  refine ne_two Na hd6 hd2 (fun q hq => by simp [hq]) (fun q hq => by simp [hq]) (by omega) hn1 (by k_units) ?_
  have Nb : News g L h6 (tl2 ++ (tl1 ++ (P1 ++ (Y ++ [c])))) := news_sub Na fun q hq => List.mem_append.mpr (.inr hq)
  clear Na x6 ab6 hd6 N9 F5
  iterate 15 (all_goals (try (first | (k_unfold; (try dsimp only)) | (k_end; wrow_close) | ((fail_if_success (fail_if_success (with_reducible show wpAny _ _ (eval (PySem.Expr.Name _ _) _) _ _ _))); (k_here; k_dflt (refine' nameX_L ?F9z ?v9z ?_ ?a9z ?b9z ?c9z; (case F9z => k_asm); (case v9z => with_unfolding_all assumption); (case a9z => exact rfl); (case b9z => exact rfl); (case c9z => decide))); try dsimp only) | (walk1; try dsimp only) | (dsimp only; walk1; try dsimp only))))
  refine spec_useG (val_all 5 (.ref sh) _ _ hsk (hd2.mono fun q hq => List.mem_append.mpr (.inl hq))) B F6 X Tp rfl rfl (by k_room) (by k_units) Nb ?_
  (rintro GG hGG z7 h7 tk7 NL7 F7 Nc x7 ⟨tl7, rfl, ab7, th7, -⟩; refine hGG _ _ _ _ ?_; clear hGG GG)
  (try dsimp only)
  iterate 2 (all_goals (try (first | (k_unfold; (try dsimp only)) | (k_end; wrow_close) | ((fail_if_success (fail_if_success (with_reducible show wpAny _ _ (eval (PySem.Expr.Name _ _) _) _ _ _))); (k_here; k_dflt (refine' nameX_L ?F9z ?v9z ?_ ?a9z ?b9z ?c9z; (case F9z => k_asm); (case v9z => with_unfolding_all assumption); (case a9z => exact rfl); (case b9z => exact rfl); (case c9z => decide))); try dsimp only) | (walk1; try dsimp only) | (dsimp only; walk1; try dsimp only))))
  refine spec_useG (told_all 5 z7 _ _ (th7.mono fun q hq => List.mem_append.mpr (.inl hq))) B F7 X Tp rfl rfl (by k_room) (by k_units) Nc ?_
  (rintro GG hGG z8 h8 tk8 NL8 F8 Nd x8 ⟨tl8, rfl, ab8, hd8⟩; refine hGG _ _ _ _ ?_; clear hGG GG)
  obtain ⟨a8, rfl⟩ := dat_ref hd8
  (try dsimp only)
  iterate 1 (all_goals (try (first | (k_unfold; (try dsimp only)) | (k_end; wrow_close) | ((fail_if_success (fail_if_success (with_reducible show wpAny _ _ (eval (PySem.Expr.Name _ _) _) _ _ _))); (k_here; k_dflt (refine' nameX_L ?F9z ?v9z ?_ ?a9z ?b9z ?c9z; (case F9z => k_asm); (case v9z => with_unfolding_all assumption); (case a9z => exact rfl); (case b9z => exact rfl); (case c9z => decide))); try dsimp only) | (walk1; try dsimp only) | (dsimp only; walk1; try dsimp only))))
  refine ne_two Nd hd8 hd2 (fun q hq => by simp [hq]) (fun q hq => by simp [hq]) (by omega) hn1 (by k_units) ?_
  iterate 5 (all_goals (try (first | (k_unfold; (try dsimp only)) | (k_end; wrow_close) | ((fail_if_success (fail_if_success (with_reducible show wpAny _ _ (eval (PySem.Expr.Name _ _) _) _ _ _))); (k_here; k_dflt (refine' nameX_L ?F9z ?v9z ?_ ?a9z ?b9z ?c9z; (case F9z => k_asm); (case v9z => with_unfolding_all assumption); (case a9z => exact rfl); (case b9z => exact rfl); (case c9z => decide))); try dsimp only) | (walk1; try dsimp only) | (dsimp only; walk1; try dsimp only))))
  have abT : Above (P1 ++ Y) (tl2 ++ tl1) := fun q hq r hr => (List.mem_append.mp hr).elim (ab2 q (List.mem_append.mpr (.inr ((List.mem_append.mp hq).elim (fun h => List.mem_append.mpr (.inl h)) fun h => List.mem_append.mpr (.inr (List.mem_append.mpr (.inl h)))))) r) (ab1 q hq r)
  exact k _ _ _ P1 (tl2 ++ tl1) sh sd F8 (news_sub Nd fun q hq => by
    ((repeat' (first | (rcases List.mem_append.mp hq with hq | hq) | (rcases List.mem_cons.mp hq with rfl | hq))) <;> (first | k_mem | cases hq))) hP1 abT (hd2.mono fun q hq => List.mem_append.mpr (.inl hq)) hn1 (by omega) rfl (((Agr.rfl.set (by decide)).set (by decide)).set (by decide))
end
end
section
open Sem (wp)
section
set_option maxRecDepth 100000 in
set_option maxHeartbeats 2000000 in
theorem fill_loop {w : World} {p : Program} {loose : List Str} {mean : ExcName → Option Value} {mg mb : Str → Option Value} {dp u : Nat} {gd : Option (List Code)} {A₀ : Around} {base g : Heap} {outer : List Env} {L fa : Addr} {cd : Value} {m : Str → Option Value} {s : Shared} {Q : Flow → Shared → Prop} {E : Value → Shared → Prop}
    {pa la : Nat} {b : Int} {P Y : List (Addr × Obj)} {d kl : Addr} {o oc : Obj} {vs : List Value} {xs : List Str} {k0 : Nat} {p1 p2 p3 p4 p5 p6 p7 p8 p9 q1 : Pos}
    (B : Below A₀ base outer g) (F : Fr g L s.heap m) (X : (hd.heap_39 w.params).In g) (Tp : Top p loose mean mg mb g) (hdp : dp + 30 < recursionLimit) (hu : u + 400 < cLine)
    (hP : PenSt pa la b P) (hb : b < 60000) (hH : Hi pa la ((d, o) :: Y)) (hc : @LT.lt Nat _ (L + 1) pa ∧ @LT.lt Nat _ (L + 1) la) (N : News g L s.heap (P ++ ((d, o) :: (Y ++ [(L + 1, oc)])))) (hmp : m (S "pen") = some (.ref pa)) (hYd : ∀ q ∈ Y, q.1 ≠ d)
    (h0 : o.IsDictOf (PySem.strKind PROG w) []) (ec : oc.data = .cell (some (.ref d))) (hm : (kl, listOf vs.toArray k0) ∈ Y) (hv : All₂ (fun v x => ∃ t, v = .str x t) vs xs) (hn : xs.Nodup) (hl : xs.length ≤ 4)
    (done : ∀ h' tk' m' P' o' tl kvs ps, Fr g L h' m' → News g L h' (P' ++ ((d, o') :: (tl ++ (Y ++ [(L + 1, oc)])))) → PenSt pa la (b + 8) P' → Hi pa la tl → o'.IsDictOf (PySem.strKind PROG w) kvs → kvs.map (·.1) = xs → All₂ (fun (r : Str × Value) (p : Str × Dat) => r.1 = p.1 ∧ DatIn tl r.2 p.2 ∧ LfOk p.2) kvs ps → Agr [S "key"] m' m → Q .next { s with heap := h', toks := tk' }) :
    wpAny (model PySem.Challenge.rw_og0176_01.row.prog w) (arnd dp u gd (lawEnv L fa cd) outer) (pyIter (.ref kl))
      (fun it s₂ => TurnsAt PySem.Challenge.rw_og0176_01.row.prog w (arnd dp u gd (lawEnv L fa cd) outer) g (lawEnv L fa cd) (.Name (S "key") p1)
        [.Assign [.Subscript (.Name (S "pairs") p2) (.Name (S "key") p3) p4] (.Call (.Name (S "told") p5) [.Call (.Name (S "_law_leaf") p6) [.Name (S "pen") p7] [] p8] [] p9) q1] Q E it s₂) E s := by
  have hvl := hv.length
  refine iter_listTurns (env := lawEnv L fa cd) rfl F N (List.mem_append.mpr (.inr (.tail _ (List.mem_append.mpr (.inl hm))))) rfl rfl fun I hI => items_inv0 (env := lawEnv L fa cd)
    (fun i m' news => ∃ P' o' tl kvs ps, Agr [S "key"] m' m ∧ news = P' ++ ((d, o') :: (tl ++ (Y ++ [(L + 1, oc)]))) ∧ PenSt pa la (b + 2 * i) P' ∧ (∀ q ∈ tl, @LT.lt Nat _ I q.1) ∧ o'.IsDictOf (PySem.strKind PROG w) kvs ∧ kvs.map (·.1) = xs.take i ∧ All₂ (fun (r : Str × Value) (p : Str × Dat) => r.1 = p.1 ∧ DatIn tl r.2 p.2 ∧ LfOk p.2) kvs ps)
    ⟨P, o, [], [], [], Agr.rfl, rfl, by simpa using hP, (fun _ h => nomatch h), h0, rfl, .nil⟩ ⟨List.mem_append.mpr (.inr (.tail _ (List.mem_append.mpr (.inl hm)))), trivial⟩ ?_ ?_
  · (intro i v m' news oI h tk hvi hZZ1 hS hoI F' N'; refine via fun GG hGG => ?_; obtain ⟨P1, o1, tl, kvs, ps, hag, rfl, hP1, htI, hod, hkk, hps⟩ := hZZ1; refine hGG ?_; clear hGG GG)
    obtain ⟨x, hx, t, rfl⟩ := hv.get hvi
    have hi4 : i < 4 := by
      have := (List.getElem?_eq_some_iff.mp hx).1
      omega
    have hmp' := (hag (S "pen") (by decide)).trans hmp
    have hpn := pen_has hP
    have hpI : @LT.lt Nat _ pa I ∧ @LT.lt Nat _ la I := ⟨hI _ (List.mem_append.mpr (.inl hpn.1.choose_spec)), hI _ (List.mem_append.mpr (.inl hpn.2.choose_spec))⟩
    have hdI : @LT.lt Nat _ d I := hI (d, o) (List.mem_append.mpr (.inr (.head _)))
    have hYI : ∀ q ∈ Y, @LT.lt Nat _ q.1 I := fun q hq => hI q (List.mem_append.mpr (.inr (.tail _ (List.mem_append.mpr (.inl hq)))))
    have hcI : @LT.lt Nat _ (L + 1) I := hI (L + 1, oc) (by simp)
    have hcd : @LT.lt Nat _ (L + 1) d := Nat.lt_trans hc.1 (hH (d, o) (.head _)).1
    have hHX : Hi pa la ((I, oI) :: (d, o1) :: (tl ++ Y)) := .cons hpI (.cons (hH (d, o) (.head _)) (.app (fun q hq => ⟨Nat.lt_trans hpI.1 (htI q hq), Nat.lt_trans hpI.2 (htI q hq)⟩) fun q hq => hH q (.tail _ hq)))
    have Nx : News g L h ((P1 ++ ((I, oI) :: (d, o1) :: (tl ++ Y))) ++ [(L + 1, oc)]) := news_sub N' fun q hq => by
      ((repeat' (first | (rcases List.mem_append.mp hq with hq | hq) | (rcases List.mem_cons.mp hq with rfl | hq))) <;> (first | k_mem | cases hq))
    clear N'
    iterate 16 (all_goals (try (first | (k_unfold; (try dsimp only)) | (k_end; wrow_close) | ((fail_if_success (fail_if_success (with_reducible show wpAny _ _ (eval (PySem.Expr.Name _ _) _) _ _ _))); (k_here; k_dflt (refine' nameX_L ?F9z ?v9z ?_ ?a9z ?b9z ?c9z; (case F9z => k_asm); (case v9z => with_unfolding_all assumption); (case a9z => exact rfl); (case b9z => exact rfl); (case c9z => decide))); try dsimp only) | (walk1; try dsimp only) | (dsimp only; walk1; try dsimp only))))
    rename News g L _ _ => N2
    refine spec_useG (spec_frame (NL := [(L + 1, oc)]) (law_leaf hP1 (by omega) hHX) (low_frame hP1 hHX hc)) B (by assumption) X Tp rfl rfl (by k_room) (by k_units) N2 ?_
    (rintro GG hGG z3 h3 tk3 NL3 F3 N3 x3 ⟨T3, rfl, P2, tl1, d1, rfl, hP2, ab1, lf1⟩; refine hGG _ _ _ _ ?_; clear hGG GG)
    rw [List.append_assoc, List.append_assoc] at N3
    clear x3 N2
    (try dsimp only)
    iterate 2 (all_goals (try (first | (k_unfold; (try dsimp only)) | (k_end; wrow_close) | ((fail_if_success (fail_if_success (with_reducible show wpAny _ _ (eval (PySem.Expr.Name _ _) _) _ _ _))); (k_here; k_dflt (refine' nameX_L ?F9z ?v9z ?_ ?a9z ?b9z ?c9z; (case F9z => k_asm); (case v9z => with_unfolding_all assumption); (case a9z => exact rfl); (case b9z => exact rfl); (case c9z => decide))); try dsimp only) | (walk1; try dsimp only) | (dsimp only; walk1; try dsimp only))))
    refine spec_useG (told_all 0 z3 d1 _ (lf1.mono fun q hq => List.mem_append.mpr (.inl hq))) B F3 X Tp rfl rfl (by k_room) (by k_units) N3 ?_
    (rintro GG hGG z4 h4 tk4 NL4 F4 N4 x4 ⟨tl2, rfl, ab2, hd2⟩; refine hGG _ _ _ _ ?_; clear hGG GG)
    clear x4 N3
    (try dsimp only)
    iterate 2 (all_goals (try (first | (k_unfold; (try dsimp only)) | (k_end; wrow_close) | ((fail_if_success (fail_if_success (with_reducible show wpAny _ _ (eval (PySem.Expr.Name _ _) _) _ _ _))); (k_here; k_dflt (refine' nameX_L ?F9z ?v9z ?_ ?a9z ?b9z ?c9z; (case F9z => k_asm); (case v9z => with_unfolding_all assumption); (case a9z => exact rfl); (case b9z => exact rfl); (case c9z => decide))); try dsimp only) | (walk1; try dsimp only) | (dsimp only; walk1; try dsimp only))))
    have hkl : kvs.length = i := by
      have := congrArg List.length hkk
      rw [List.length_map, List.length_take] at this
      have := (List.getElem?_eq_some_iff.mp hx).1
      omega
    have hfresh : x ∉ kvs.map (·.1) := by
      rw [hkk]
      intro hx'
      have e : xs.take i ++ [x] = xs.take (i + 1) := by rw [List.take_add_one, hx]; rfl
      have nd := (List.take_sublist (i + 1) xs).nodup hn
      rw [← e, List.nodup_append] at nd
      exact nd.2.2 x hx' x (.head _) rfl
    have hmd : (d, o1) ∈ P2 ++ ((I, oI) :: (d, o1) :: (tl ++ Y) ++ [(L + 1, oc)]) := by simp
    refine set_str_N F4 N4 (List.mem_append.mpr (.inr (List.mem_append.mpr (.inr hmd)))) hod (by omega) fun h5 o5 F5 s5 g5 hd5 N5 => ?_
    rw [stored_new hfresh] at hd5
    dsimp only
    iterate 2 (all_goals (try (first | (k_unfold; (try dsimp only)) | (k_end; wrow_close) | ((fail_if_success (fail_if_success (with_reducible show wpAny _ _ (eval (PySem.Expr.Name _ _) _) _ _ _))); (k_here; k_dflt (refine' nameX_L ?F9z ?v9z ?_ ?a9z ?b9z ?c9z; (case F9z => k_asm); (case v9z => with_unfolding_all assumption); (case a9z => exact rfl); (case b9z => exact rfl); (case c9z => decide))); try dsimp only) | (walk1; try dsimp only) | (dsimp only; walk1; try dsimp only))))
    have hIt2 : ∀ q ∈ tl2, @LT.lt Nat _ I q.1 := fun q hq => ab2 (I, oI) (by simp) q hq
    have hIt : ∀ q ∈ tl2 ++ tl, @LT.lt Nat _ I q.1 := fun q hq => (List.mem_append.mp hq).elim (hIt2 q) (htI q)
    have hdd : @LT.lt Nat _ pa d ∧ @LT.lt Nat _ la d := hH (d, o) (.head _)
    refine ⟨_, _, _, P2 ++ ((d, o5) :: ((tl2 ++ tl) ++ (Y ++ [(L + 1, oc)]))), rfl, by assumption, N5 _ fun q hq => ?_, fun q hq r hr => ?_, ⟨by simp [hm], trivial⟩, P2, o5, tl2 ++ tl, kvs ++ [(x, z4)], ps ++ [(x, d1)], hag.set (by decide), rfl, hP2.le (by omega), hIt, hd5, ?_, (hps.mono fun _ _ z => ⟨z.1, z.2.1.mono fun q hq => List.mem_append.mpr (.inr hq), z.2.2⟩).snoc ⟨rfl, hd2.mono fun q hq => List.mem_append.mpr (.inl hq), lf1.ok⟩⟩
    · have hq2 : q = (I, oI) ∨ q ∈ P2 ∨ q = (d, o5) ∨ q ∈ tl2 ++ tl ∨ q ∈ Y ∨ q = (L + 1, oc) := by
        simp only [List.mem_append, List.mem_cons, List.not_mem_nil, or_false] at hq ⊢
        rcases hq with h | h | h | h | h | h <;> simp [h]
      rcases hq2 with rfl | hq | rfl | hq | hq | rfl
      · exact .inr ⟨by simp, Ne.symm (Nat.ne_of_lt hdI)⟩
      · refine .inr ⟨by simp [hq], ?_⟩
        rcases pen_mem hP2 q hq with e | e
        · rw [e]; exact Nat.ne_of_lt hdd.1
        · rw [e]; exact Nat.ne_of_lt hdd.2
      · exact .inl rfl
      · refine .inr ⟨?_, Ne.symm (Nat.ne_of_lt (Nat.lt_trans hdI (hIt q hq)))⟩
        rcases List.mem_append.mp hq with h | h <;> simp [h]
      · exact .inr ⟨by simp [hq], hYd q hq⟩
      · exact .inr ⟨by simp, Nat.ne_of_lt hcd⟩
    · rw [List.mem_singleton.mp hr]
      rcases List.mem_append.mp hq with hq | hq
      · rcases pen_mem hP2 q hq with e | e
        · rw [e]; exact Nat.ne_of_lt hpI.1
        · rw [e]; exact Nat.ne_of_lt hpI.2
      · rcases List.mem_cons.mp hq with rfl | hq
        · exact Nat.ne_of_lt hdI
        · rcases List.mem_append.mp hq with hq | hq
          · exact Ne.symm (Nat.ne_of_lt (hIt q hq))
          · rcases List.mem_append.mp hq with hq | hq
            · exact Nat.ne_of_lt (hYI q hq)
            · rw [List.mem_singleton.mp hq]; exact Nat.ne_of_lt hcI
    · rw [List.map_append, hkk, List.take_add_one, hx]; rfl
  · (intro m' news h tk hZZ1 F' N'; refine via fun GG hGG => ?_; obtain ⟨P1, o1, tl, kvs, ps, hag, rfl, hP1, htI, hod, hkk, hps⟩ := hZZ1; refine hGG ?_; clear hGG GG)
    rw [hvl, List.take_length] at hkk
    have hpn := pen_has hP
    have hpI : @LT.lt Nat _ pa I ∧ @LT.lt Nat _ la I := ⟨hI _ (List.mem_append.mpr (.inl hpn.1.choose_spec)), hI _ (List.mem_append.mpr (.inl hpn.2.choose_spec))⟩
    exact done h tk m' P1 o1 tl kvs ps F' N' (hP1.le (by omega)) (fun q hq => ⟨Nat.lt_trans hpI.1 (htI q hq), Nat.lt_trans hpI.2 (htI q hq)⟩) hod hkk hps hag
end
end
section
open Sem (wp)
theorem pen1 {h₀ h : Heap} {L : Addr} {a b c : Addr × Obj} {P R : List (Addr × Obj)} (N : News h₀ L h (a :: (P ++ (b :: (R ++ [c]))))) : News h₀ L h ((P ++ (a :: b :: R)) ++ [c]) := fun q hq => N q (by
  simp only [List.mem_append, List.mem_cons, List.not_mem_nil, or_false] at hq ⊢
  rcases hq with (h | h | h | h) | h <;> simp [h])
theorem pen_cut {h₀ h : Heap} {L : Addr} {a x d : Addr × Obj} {P R : List (Addr × Obj)} (N : News h₀ L h (a :: (P ++ (x :: d :: R)))) : News h₀ L h (P ++ (d :: a :: R)) := fun q hq => N q (by
  simp only [List.mem_append, List.mem_cons] at hq ⊢
  rcases hq with h | h | h | h <;> simp [h])
theorem cadb (t1 t2 t3 t4 : Tok) : All₂ (fun v (x : Str) => ∃ t, v = .str x t) [Value.str (S "C") t1, Value.str (S "A") t2, Value.str (S "D") t3, Value.str (S "B") t4] [S "C", S "A", S "D", S "B"] := .cons ⟨_, rfl⟩ (.cons ⟨_, rfl⟩ (.cons ⟨_, rfl⟩ (.cons ⟨_, rfl⟩ .nil)))
section
set_option maxRecDepth 100000 in
set_option maxHeartbeats 2000000 in
theorem lw_fill {w : World} {p : Program} {loose : List Str} {mean : ExcName → Option Value} {mg mb : Str → Option Value} {dp u : Nat} {gd : Option (List Code)} {A₀ : Around} {base g : Heap} {outer : List Env} {L fa : Addr} {cd : Value} {m : Str → Option Value} {s : Shared} {Q : Flow → Shared → Prop} {E : Value → Shared → Prop}
    {pa la : Nat} {b : Int} {P Y : List (Addr × Obj)} {oc : Obj} {cv : Option Value} {rest : List Stmt} {p1 p2 p3 p4 p5 p6 p7 p8 p9 q1 q2 q3 q4 q5 q6 q7 q8 q9 r1 r2 r3 r4 r5 r6 r7 : Pos}
    (B : Below A₀ base outer g) (F : Fr g L s.heap m) (X : (hd.heap_39 w.params).In g) (Tp : Top p loose mean mg mb g) (hdp : dp + 30 < recursionLimit) (hu : u + 400 < cLine) (hE : PassesOwn (model PySem.Challenge.rw_og0176_01.row.prog w) (arnd dp u gd (lawEnv L fa cd) outer) (lawEnv L fa cd) E)
    (hP : PenSt pa la b P) (hb : b < 50000) (hH : Hi pa la Y) (hc : @LT.lt Nat _ (L + 1) pa ∧ @LT.lt Nat _ (L + 1) la) (N : News g L s.heap (P ++ (Y ++ [(L + 1, oc)]))) (hmp : m (S "pen") = some (.ref pa)) (ec : oc.data = .cell cv)
    (k : ∀ h' tk' m' P' T d o' oc' kvs ps, Fr g L h' m' → News g L h' T → (∀ q ∈ P' ++ (Y ++ [(L + 1, oc')]), q ∈ T) → PenSt pa la (b + 9) P' → (d, o') ∈ T → oc'.data = .cell (some (.ref d)) → o'.IsDictOf (PySem.strKind PROG w) kvs → (d == sysModules) = false → (kvs.map (·.1)).Nodup → kvs.length ≤ 4 →
      All₂ (fun (r : Str × Value) (p : Str × Dat) => r.1 = p.1 ∧ DatIn T r.2 p.2 ∧ LfOk p.2) kvs ps → Agr [S "key"] m' m →
      wpAny (model PySem.Challenge.rw_og0176_01.row.prog w) (arnd dp u gd (lawEnv L fa cd) outer) (execs rest (lawEnv L fa cd)) Q E { s with heap := h', toks := tk' }) :
    wpAny (model PySem.Challenge.rw_og0176_01.row.prog w) (arnd dp u gd (lawEnv L fa cd) outer) (execs
      (.Assign [.Name (S "pairs") p1] (.Dict [] [] p2) p3 ::
       .For (.Name (S "key") p4) (.Subscript (.List [.Constant (.str (S "C")) 0 p5, .Constant (.str (S "A")) 0 p6, .Constant (.str (S "D")) 0 p7, .Constant (.str (S "B")) 0 p8] p9) (.Slice none (some (.Call (.Name (S "_law_draw") q1) [.Name (S "pen") q2, .Constant (.int 5) 0 q3] [] q4)) none q5) q6)
        [.Assign [.Subscript (.Name (S "pairs") q7) (.Name (S "key") q8) q9] (.Call (.Name (S "told") r1) [.Call (.Name (S "_law_leaf") r2) [.Name (S "pen") r3] [] r4] [] r5) r6] [] r7 :: rest) (lawEnv L fa cd)) Q E s := by
  iterate 3 (all_goals (try (first | (k_unfold; (try dsimp only)) | (k_end; wrow_close) | ((fail_if_success (fail_if_success (with_reducible show wpAny _ _ (eval (PySem.Expr.Name _ _) _) _ _ _))); (k_here; k_dflt (refine' nameX_L ?F9z ?v9z ?_ ?a9z ?b9z ?c9z; (case F9z => k_asm); (case v9z => with_unfolding_all assumption); (case a9z => exact rfl); (case b9z => exact rfl); (case c9z => decide))); try dsimp only) | (walk1; try dsimp only) | (dsimp only; walk1; try dsimp only))))
  rename Addr => d
  rename Obj => o
  rename Fr g L _ m => F1
  rename News g L _ _ => N1
  rename ∀ p ∈ P ++ (Y ++ [(L + 1, oc)]), p.fst < _ => ld
  rename (d == sysModules) = false => hds
  rename o.IsDictOf (PySem.strKind _ _) [] => h0
  refine store_cell_S F1 N1 (c := L + 1) rfl (by simp) ec (fun h2 oc2 F2 ec2 N2 => ?_) rfl rfl
  have hpd := pen_lt hP ld
  have hcd : @LT.lt Nat _ (L + 1) d := ld (L + 1, oc) (by simp)
  have hYc : ∀ q ∈ Y, q.1 ≠ L + 1 := fun q hq => Ne.symm (Nat.ne_of_lt (Nat.lt_trans hc.1 (hH q hq).1))
  have N2 := N2 (P ++ ((d, o) :: (Y ++ [(L + 1, oc2)]))) fun q hq => by
    have hq' : q ∈ P ∨ q = (d, o) ∨ q ∈ Y ∨ q = (L + 1, oc2) := by simpa using hq
    rcases hq' with hq | rfl | hq | rfl
    · refine .inr ⟨by simp [hq], ?_⟩
      rcases pen_mem hP q hq with e | e
      · rw [e]; exact Ne.symm (Nat.ne_of_lt hc.1)
      · rw [e]; exact Ne.symm (Nat.ne_of_lt hc.2)
    · exact .inr ⟨by simp, Ne.symm (Nat.ne_of_lt hcd)⟩
    · exact .inr ⟨by simp [hq], hYc q hq⟩
    · exact .inl rfl
  clear N1 F1
  dsimp only
  iterate 1 (all_goals (try (first | (k_unfold; (try dsimp only)) | (k_end; wrow_close) | ((fail_if_success (fail_if_success (with_reducible show wpAny _ _ (eval (PySem.Expr.Name _ _) _) _ _ _))); (k_here; k_dflt (refine' nameX_L ?F9z ?v9z ?_ ?a9z ?b9z ?c9z; (case F9z => k_asm); (case v9z => with_unfolding_all assumption); (case a9z => exact rfl); (case b9z => exact rfl); (case c9z => decide))); try dsimp only) | (walk1; try dsimp only) | (dsimp only; walk1; try dsimp only))))
  refine' For_turns (hE := hE) (by k_asm) ?_
  iterate 24 (all_goals (try (first | (k_unfold; (try dsimp only)) | (k_end; wrow_close) | ((fail_if_success (fail_if_success (with_reducible show wpAny _ _ (eval (PySem.Expr.Name _ _) _) _ _ _))); (k_here; k_dflt (refine' nameX_L ?F9z ?v9z ?_ ?a9z ?b9z ?c9z; (case F9z => k_asm); (case v9z => with_unfolding_all assumption); (case a9z => exact rfl); (case b9z => exact rfl); (case c9z => decide))); try dsimp only) | (walk1; try dsimp only) | (dsimp only; walk1; try dsimp only))))
  rename Addr => kl
  rename Fr g L _ m => F3
  rename News g L _ _ => N3
  rename ∀ p ∈ P ++ ((d, o) :: (Y ++ [(L + 1, oc2)])), p.fst < _ => lk
  have hH2 : Hi pa la ((d, o) :: Y) := .cons hpd hH
  have hkl := pen_lt hP lk
  refine spec_useG (spec_frame (NL := [(L + 1, oc2)]) (draw_ok hP (by omega) (.cons hkl hH2) (by decide) (by decide)) (low_frame hP (.cons hkl hH2) hc)) B F3 X Tp rfl rfl (by k_room) (by k_units) (pen1 N3) ?_
  (rintro GG hGG z4 h4 tk4 NL4 F4 N4 x4 ⟨T4, rfl, P1, n, tn, rfl, hP1, rfl, hn0, hn5⟩; refine hGG _ _ _ _ ?_; clear hGG GG)
  rw [List.append_assoc] at N4
  clear x4 N3 F3
  (try dsimp only)
  iterate 2 (all_goals (try (first | (k_unfold; (try dsimp only)) | (k_end; wrow_close) | ((fail_if_success (fail_if_success (with_reducible show wpAny _ _ (eval (PySem.Expr.Name _ _) _) _ _ _))); (k_here; k_dflt (refine' nameX_L ?F9z ?v9z ?_ ?a9z ?b9z ?c9z; (case F9z => k_asm); (case v9z => with_unfolding_all assumption); (case a9z => exact rfl); (case b9z => exact rfl); (case c9z => decide))); try dsimp only) | (walk1; try dsimp only) | (dsimp only; walk1; try dsimp only))))
  refine list_upto_N F4 N4 (List.mem_append.mpr (.inr (.head _))) hn0 (by simp) fun D7 h7 F7 N7 lt7 => ?_
  have hd7 : @LT.lt Nat _ d D7 := lt7 (d, o) (by simp)
  have hkd : @LT.lt Nat _ d kl := lk (d, o) (by simp)
  have hp7 := pen_lt hP1 lt7
  obtain ⟨vs7, hv7, Na⟩ : ∃ vs7 : List Value, All₂ (fun v (x : Str) => ∃ t, v = .str x t) vs7 ([S "C", S "A", S "D", S "B"].take n.toNat) ∧ News g L h7 (P1 ++ ((d, o) :: (((D7, listOf vs7.toArray 0) :: Y) ++ [(L + 1, oc2)]))) := ⟨_, (cadb _ _ _ _).take _, pen_cut N7⟩
  clear N7 N4 F4
  have hYd : ∀ q ∈ (D7, listOf vs7.toArray 0) :: Y, q.1 ≠ d := fun q hq => by
    rcases List.mem_cons.mp hq with rfl | hq
    · exact Ne.symm (Nat.ne_of_lt hd7)
    · exact Nat.ne_of_lt (ld q (by simp [hq]))
  refine fill_loop B F7 X Tp (by k_room) (by k_units) hP1 (by omega) (.cons hpd (.cons hp7 hH)) hc Na hmp hYd h0 ec2 (.head _) hv7 ((List.take_sublist _ _).nodup (by decide)) (by simp; omega) fun h8 tk8 m8 P8 o8 tl8 kvs ps F8 N8 hP8 hH8 hd8 hk8 hps8 ag8 => ?_
  dsimp only
  refine k _ _ _ P8 _ d o8 oc2 kvs ps F8 N8 (fun q hq => ?_) (hP8.le (by omega)) (by simp) ec2 hd8 hds ?_ ?_ (hps8.mono fun _ _ z => ⟨z.1, z.2.1.mono fun q hq => by simp [hq], z.2.2⟩) ag8
  · simp only [List.mem_append, List.mem_cons, List.not_mem_nil, or_false] at hq ⊢
    rcases hq with h | h | h <;> simp [h]
  · rw [hk8]; exact (List.take_sublist _ _).nodup (by decide)
  · have := congrArg List.length hk8
    rw [List.length_map, List.length_take] at this
    simp only [List.length_cons, List.length_nil] at this
    omega
end
end
section
open Sem (wp)
theorem keq_hits {A : Around} {s : Shared} {kb : List (Str × Value)} {ka srt : List (Str × Value)} (x : All₂ (fun (r q : Str × Value) => r.1 = q.1 ∧ EqAt A s r.2 q.2 true) ka srt) (hv : ∀ q ∈ srt, valueAt kb q.1 = some q.2) : KeqHits A s kb ka true := by
  induction x with
  | nil => exact .nil
  | @cons a q _ _ h r ih =>
    obtain ⟨k, v⟩ := a
    exact KeqHits.hit (e := true) (b := true) ((congrArg (valueAt kb) h.1).trans (hv q (.head _))) h.2 (ih fun x hx => hv x (.tail _ hx))
theorem All₂.join {α β γ : Type} {R : α → β → Prop} {R' : γ → β → Prop} {R'' : α → γ → Prop} (h : ∀ a b c, R a b → R' c b → R'' a c) {l : List α} {m : List β} {n : List γ} (x : All₂ R l m) (y : All₂ R' n m) : All₂ R'' l n := by
  induction x generalizing n with
  | nil => cases y; exact .nil
  | cons a _ ih => cases y with | cons b q => exact .cons (h _ _ _ a b) (ih q)
theorem dat_tag {T : List (Addr × Obj)} {a : Addr} {k : String} {ds : List Dat} (h : DatIn T (.ref a) (tag k ds)) : ∃ t vs n, (a, tupOf (.str (S k) t :: vs).toArray n) ∈ T ∧ DatAll T vs ds := by
  cases h with
  | tuple hm ha =>
    cases ha with
    | cons h1 ha => cases h1; exact ⟨_, _, _, hm, ha⟩
theorem pairs_nb {sps : List (Str × Dat)} (h : ∀ p ∈ sps, LfOk p.2) : nbL (.str (S "dict") :: sps.map pairD) = true ∧ depL (.str (S "dict") :: sps.map pairD) ≤ 10 := by
  have h1 : nbL (sps.map pairD) = true := nbL_all fun y hy => by
    obtain ⟨q, hq, rfl⟩ := List.mem_map.mp hy
    obtain ⟨es, e, a, _⟩ := (h q hq).tup
    simp only [pairD, nb, nbL, e, a]; rfl
  have h2 : depL (sps.map pairD) ≤ 10 := depL_all fun y hy => by
    obtain ⟨q, hq, rfl⟩ := List.mem_map.mp hy
    obtain ⟨es, e, _, b⟩ := (h q hq).tup
    simp only [pairD, dep, depL, e]; omega
  exact ⟨by simp only [nbL, nb, Bool.true_and]; exact h1, by simp only [depL, dep]; omega⟩
section
set_option maxRecDepth 100000 in
set_option maxHeartbeats 2000000 in
theorem lw_whole {w : World} {p : Program} {loose : List Str} {mean : ExcName → Option Value} {mg mb : Str → Option Value} {dp u : Nat} {gd : Option (List Code)} {A₀ : Around} {base g : Heap} {outer : List Env} {L fa : Addr} {cd : Value} {m : Str → Option Value} {s : Shared} {Q : Flow → Shared → Prop} {E : Value → Shared → Prop}
    {T : List (Addr × Obj)} {d : Addr} {o oc : Obj} {kvs : List (Str × Value)} {ps : List (Str × Dat)} {rest : List Stmt} {p1 p2 p3 p4 p5 p6 p7 p8 p9 q1 q2 q3 q4 q5 q6 q7 q8 q9 r1 r2 r3 r4 r5 r6 r7 r8 r9 u1 u2 u3 u4 : Pos}
    (B : Below A₀ base outer g) (F : Fr g L s.heap m) (X : (hd.heap_39 w.params).In g) (Tp : Top p loose mean mg mb g) (hdp : dp + 30 < recursionLimit) (hu : u + 400 < cLine)
    (N : News g L s.heap T) (mc : (L + 1, oc) ∈ T) (ec : oc.data = .cell (some (.ref d))) (md : (d, o) ∈ T) (hod : o.IsDictOf (PySem.strKind PROG w) kvs) (hds : (d == sysModules) = false) (hn : (kvs.map (·.1)).Nodup) (hl : kvs.length ≤ 4)
    (hps : All₂ (fun (r : Str × Value) (p : Str × Dat) => r.1 = p.1 ∧ DatIn T r.2 p.2 ∧ LfOk p.2) kvs ps)
    (k : ∀ h' tk' m', Fr g L h' m' → News g L h' T → Agr [S "whole"] m' m → wpAny (model PySem.Challenge.rw_og0176_01.row.prog w) (arnd dp u gd (lawEnv L fa cd) outer) (execs rest (lawEnv L fa cd)) Q E { s with heap := h', toks := tk' }) :
    wpAny (model PySem.Challenge.rw_og0176_01.row.prog w) (arnd dp u gd (lawEnv L fa cd) outer) (execs
      (.Assign [.Name (S "whole") p1] (.Call (.Name (S "dict_shape") p2) [.Name (S "pairs") p3] [] p4) p5 ::
       .If (.BoolOp .Or [.Compare (.Name (S "whole") p6) [.NotEq] [.BinOp (.Tuple [.Constant (.str (S "dict")) 0 p7] 0 p8) .Add (.Call (.Name (Str.ofString "tuple") p9) [.ListComp (.Tuple [.Name (S "key") q1, .Subscript (.Name (S "pairs") q2) (.Name (S "key") q3) q4] 0 q5) [⟨.Name (S "key") q6, .Call (.Name (Str.ofString "sorted") q7) [.Name (S "pairs") q8] [] q9, [], 0⟩] { kind := .function, names := [(S ".0", .local), (S "key", .local), (S "pairs", .free)], isGenerator := false, isCoroutine := false, more := [] } r1] [] r2) r3] r4,
         .Compare (.Call (.Name (S "pairs_of") r5) [.Name (S "whole") r6] [] r7) [.NotEq] [.Name (S "pairs") r8] r9] u1)
         [.Return (some (.Constant (.bool false) 0 u2)) u3] [] u4 :: rest) (lawEnv L fa cd)) Q E s := by
  obtain ⟨srt, so⟩ := sorted_ex kvs hn
  obtain ⟨sps, hsp⟩ := pick_ds (R := fun v d => DatIn T v d ∧ LfOk d) srt fun r hr => by
    obtain ⟨i, hi⟩ := List.getElem?_of_mem (so.perm.mem_iff.mp hr)
    obtain ⟨q, _, _, h1, h2⟩ := hps.get hi
    exact ⟨q.2, h1, h2⟩
  have hsd := hsp.mono fun (r : Str × Value) (p : Str × Dat) z => (⟨z.1, z.2.1⟩ : r.1 = p.1 ∧ DatIn T r.2 p.2)
  obtain ⟨es, ek, rfl⟩ := obj_dict hod
  iterate 9 (all_goals (try (first | (k_unfold; (try dsimp only)) | (k_end; wrow_close) | ((fail_if_success (fail_if_success (with_reducible show wpAny _ _ (eval (PySem.Expr.Name _ _) _) _ _ _))); (k_here; k_dflt (refine' nameX_L ?F9z ?v9z ?_ ?a9z ?b9z ?c9z; (case F9z => k_asm); (case v9z => with_unfolding_all assumption); (case a9z => exact rfl); (case b9z => exact rfl); (case c9z => decide))); try dsimp only) | (walk1; try dsimp only) | (dsimp only; walk1; try dsimp only))))
  refine spec_useG (dshape_ok md hod hds so hl hsd) B F X Tp rfl rfl (by k_room) (by k_units) N ?_
  (rintro GG hGG z1 h1 tk1 NL1 F1 N1 x1 ⟨tl1, rfl, ab1, hw1⟩; refine hGG _ _ _ _ ?_; clear hGG GG)
  obtain ⟨wh, rfl⟩ := dat_ref hw1
  clear x1 N
  (try dsimp only)
  iterate 18 (all_goals (try (first | (k_unfold; (try dsimp only)) | (k_end; wrow_close) | ((fail_if_success (fail_if_success (with_reducible show wpAny _ _ (eval (PySem.Expr.Name _ _) _) _ _ _))); (k_here; k_dflt (refine' nameX_L ?F9z ?v9z ?_ ?a9z ?b9z ?c9z; (case F9z => k_asm); (case v9z => with_unfolding_all assumption); (case a9z => exact rfl); (case b9z => exact rfl); (case c9z => decide))); try dsimp only) | (walk1; try dsimp only) | (dsimp only; walk1; try dsimp only))))
  rename Addr => t1
  iterate 6 (all_goals (try (first | (k_unfold; (try dsimp only)) | (k_end; wrow_close) | ((fail_if_success (fail_if_success (with_reducible show wpAny _ _ (eval (PySem.Expr.Name _ _) _) _ _ _))); (k_here; k_dflt (refine' nameX_L ?F9z ?v9z ?_ ?a9z ?b9z ?c9z; (case F9z => k_asm); (case v9z => with_unfolding_all assumption); (case a9z => exact rfl); (case b9z => exact rfl); (case c9z => decide))); try dsimp only) | (walk1; try dsimp only) | (dsimp only; walk1; try dsimp only))))
  rename Fr g L _ _ => F2
  rename News g L _ _ => N2
  have hT2 : ∀ q ∈ T, ∀ a, q ∈ a :: (tl1 ++ T) := fun q hq a => .tail _ (List.mem_append.mpr (.inr hq))
  refine sorted_dict_N rfl F2 N2 (hT2 _ md _) hod hds so hl fun D0 vs0 e0 h3 tk3 F3 N3 l3 hv3 => ?_
  (try dsimp only)
  rename ∀ p ∈ tl1 ++ T, p.fst < _ => lt1
  have hT3 : ∀ q ∈ T, ∀ a b, q ∈ a :: b :: (tl1 ++ T) := fun q hq a b => .tail _ (hT2 q hq _)
  refine dshape_comp rfl F3 rfl rfl rfl N3 (hT3 _ md _ _) hod (hT3 _ mc _ _) ec so hl (.head _) hv3 hsd fun D ys kD tl9 h9 tk9 hD F9 N9 ab9 hy9 => ?_
  (try dsimp only)
  iterate 2 (all_goals (try (first | (k_unfold; (try dsimp only)) | (k_end; wrow_close) | ((fail_if_success (fail_if_success (with_reducible show wpAny _ _ (eval (PySem.Expr.Name _ _) _) _ _ _))); (k_here; k_dflt (refine' nameX_L ?F9z ?v9z ?_ ?a9z ?b9z ?c9z; (case F9z => k_asm); (case v9z => with_unfolding_all assumption); (case a9z => exact rfl); (case b9z => exact rfl); (case c9z => decide))); try dsimp only) | (walk1; try dsimp only) | (dsimp only; walk1; try dsimp only))))
  have hyl := DatAll.length hy9
  have hsl := so.length
  have hsl2 := hsp.length
  rw [List.length_map] at hyl
  refine tuple_list_N F9 N9 (.head _) (by rw [sizeLine_eq]; omega) fun a1 h10 F10 N10 l10 => ?_
  (try dsimp only)
  have hbig : ∀ ot : Obj, ∀ q ∈ (D0, listOf vs0.toArray e0) :: (t1, ot) :: (tl1 ++ T), ∀ a b, q ∈ a :: b :: (tl9 ++ (D0, listOf vs0.toArray e0) :: (t1, ot) :: (tl1 ++ T)) := fun ot q hq a b => .tail _ (.tail _ (List.mem_append.mpr (.inr hq)))
  refine add_tup_N (NL := tl1 ++ T) F10 N10 (hbig _ _ (.tail _ (.head _)) _ _) (.head _) (List.cons_ne_nil _ _) (by rw [sizeLine_eq]; simp only [List.length_cons, List.length_nil]; omega) lt1 (fun q hq => hbig _ q (.tail _ (.tail _ hq)) _ _) fun a2 n2 o2 h11 nw11 e11 F11 N11 s11 m11 l11 => ?_
  (try dsimp only)
  have hLf : ∀ p ∈ sps, LfOk p.2 := All₂.right (fun _ _ z => z.2.2) hsp
  obtain ⟨pn1, pn2⟩ := pairs_nb hLf
  have h11T : ∀ q ∈ tl1 ++ T, q ∈ nw11 := fun q hq => s11 _ (hbig _ q (.tail _ (.tail _ hq)) _ _)
  have h11t : ∀ q ∈ tl9 ++ T, q ∈ nw11 := fun q hq => (List.mem_append.mp hq).elim (fun h => s11 _ (.tail _ (.tail _ (List.mem_append.mpr (.inl h))))) fun h => h11T q (List.mem_append.mpr (.inr h))
  subst e11
  refine ne_two N11 hw1 (DatIn.tuple m11 (.cons (.str _ _) (hy9.mono h11t))) h11T (fun q hq => hq) (by omega) pn1 (by k_units) ?_
  have N12 : News g L h11 (tl1 ++ T) := news_sub N11 h11T
  clear N11 N10 N9 N3 N2 s11 hbig h11T h11t m11 hy9 F10 F9 F3 F2
  iterate 11 (all_goals (try (first | (k_unfold; (try dsimp only)) | (k_end; wrow_close) | ((fail_if_success (fail_if_success (with_reducible show wpAny _ _ (eval (PySem.Expr.Name _ _) _) _ _ _))); (k_here; k_dflt (refine' nameX_L ?F9z ?v9z ?_ ?a9z ?b9z ?c9z; (case F9z => k_asm); (case v9z => with_unfolding_all assumption); (case a9z => exact rfl); (case b9z => exact rfl); (case c9z => decide))); try dsimp only) | (walk1; try dsimp only) | (dsimp only; walk1; try dsimp only))))
  obtain ⟨tt, vw, nw', mw, hvw⟩ := dat_tag hw1
  have hri : Rising sps := by
    have h1 : (srt.map (·.1)).Pairwise (fun a b : Str => a.cps.toList < b.cps.toList) := List.pairwise_map.mpr so.up
    rw [← All₂.keys hsd] at h1
    exact (List.pairwise_map (f := fun x : Str × Dat => x.1)).mp h1
  refine spec_useG (pairs_ok mw hvw hri (by omega)) B F11 X Tp rfl rfl (by k_room) (by k_units) N12 ?_
  (rintro GG hGG z3 h13 tk13 NL13 F13 N13 x13 ⟨d2, o2, kvs2, rfl, rfl, ld2, hds2, hod2, hk2, hv2⟩; refine hGG _ _ _ _ ?_; clear hGG GG)
  clear x13 N12 F11
  (try dsimp only)
  iterate 1 (all_goals (try (first | (k_unfold; (try dsimp only)) | (k_end; wrow_close) | ((fail_if_success (fail_if_success (with_reducible show wpAny _ _ (eval (PySem.Expr.Name _ _) _) _ _ _))); (k_here; k_dflt (refine' nameX_L ?F9z ?v9z ?_ ?a9z ?b9z ?c9z; (case F9z => k_asm); (case v9z => with_unfolding_all assumption); (case a9z => exact rfl); (case b9z => exact rfl); (case c9z => decide))); try dsimp only) | (walk1; try dsimp only) | (dsimp only; walk1; try dsimp only))))
  have H13 : Has h13 (tl1 ++ T) := fun q hq => (N13 q (.tail _ hq)).1
  have hl2 : kvs2.length = kvs.length := by
    have := congrArg List.length hk2
    rw [List.length_map, List.length_map] at this
    omega
  refine keq_ne (ka := kvs2) (kb := kvs) (r := true) hds2 hds (Heap.dictOf_iff.mpr ⟨o2, (N13 _ (.head _)).1, hod2⟩) (Heap.dictOf_iff.mpr ⟨_, (N13 _ (.tail _ (List.mem_append.mpr (.inr md)))).1, hod⟩) (by k_units) (fun _ => keq_hits (All₂.join (fun (r : Str × Value) (p : Str × Dat) (q : Str × Value) a c => ?_) (All₂.zip hk2 hv2) hsp) fun q hq => so.value hq) ?_
  · obtain ⟨es1, e1, n1, n2⟩ := c.2.2.tup
    have hq : nb p.2 = true := by rw [e1, nb]; exact n1
    have hq2 : dep p.2 ≤ 5 := by rw [e1, dep]; omega
    have := eq_dat (s := { s with heap := h13, toks := tk13 }) (T₁ := tl1 ++ T) (T₂ := tl1 ++ T) H13 H13 5 (arnd dp u gd (lawEnv L fa cd) outer).in1 p.2 p.2 r.2 q.2 hq2 hq hq a.2 (c.2.1.mono fun x hx => List.mem_append.mpr (.inr hx)) (by show u + 1 + 5 < cLine; omega)
    refine ⟨a.1.trans c.1.symm, ?_⟩
    simpa using this
  · rw [hl2]
    simp only [beq_self_eq_true, Bool.and_true, Bool.not_true]
    iterate 6 (all_goals (try (first | (k_unfold; (try dsimp only)) | (k_end; wrow_close) | ((fail_if_success (fail_if_success (with_reducible show wpAny _ _ (eval (PySem.Expr.Name _ _) _) _ _ _))); (k_here; k_dflt (refine' nameX_L ?F9z ?v9z ?_ ?a9z ?b9z ?c9z; (case F9z => k_asm); (case v9z => with_unfolding_all assumption); (case a9z => exact rfl); (case b9z => exact rfl); (case c9z => decide))); try dsimp only) | (walk1; try dsimp only) | (dsimp only; walk1; try dsimp only))))
    exact k _ _ _ F13 (news_sub N13 fun q hq => .tail _ (List.mem_append.mpr (.inr hq))) (Agr.rfl.set (by decide))
end
end
section
open Sem (wp)
theorem not_sub {xs ys : List Str} (h : ∀ x ∈ xs, x ∈ ys) {y : Str} (hy : y ∉ ys) : y ∉ xs := fun q => hy (h y q)
section
set_option maxRecDepth 100000 in
set_option maxHeartbeats 2000000 in
theorem lw_lap {w : World} {p : Program} {loose : List Str} {mean : ExcName → Option Value} {mg mb : Str → Option Value} {dp u : Nat} {gd : Option (List Code)} {A₀ : Around} {base g : Heap} {outer : List Env} {L fa : Addr} {cd : Value} {m : Str → Option Value} {s : Shared} {Q : Flow → Shared → Prop} {E : Value → Shared → Prop}
    {pa la : Nat} {b : Int} {P Y : List (Addr × Obj)} {oc : Obj} {cv : Option Value} {p1a p2a p3a p4a p5a p6a p7a p8a p9a q1a q2a q3a q4a q5a q6a q7a q8a q9a r1a r2a r3a r4a r5a r6a r7a r8a r9a u1a u2a u3a u4a u5a u6a u7a u8a u9a v1a v2a v3a v4a v5a v6a v7a v8a p1b p2b p3b p4b p5b p6b p7b p8b p9b q1b q2b q3b q4b q5b q6b q7b q8b q9b r1b r2b r3b r4b r5b r6b r7b p1c p2c p3c p4c p5c p6c p7c p8c p9c q1c q2c q3c q4c q5c q6c q7c q8c q9c r1c r2c r3c r4c r5c r6c r7c r8c r9c u1c u2c u3c u4c d1 d2 d3 d4 d5 d6 d7 d8 : Pos}
    (B : Below A₀ base outer g) (F : Fr g L s.heap m) (XB : (hd.heap_39 w.params).In base) (TB : Top p loose mean mg mb base) (hdp : dp + 45 < recursionLimit) (hu : u + 700 < cLine) (hE : PassesOwn (model PySem.Challenge.rw_og0176_01.row.prog w) (arnd dp u gd (lawEnv L fa cd) outer) (lawEnv L fa cd) E)
    (hP : PenSt pa la b P) (hb : b < 40000) (hH : Hi pa la Y) (hc : @LT.lt Nat _ (L + 1) pa ∧ @LT.lt Nat _ (L + 1) la) (N : News g L s.heap (P ++ (Y ++ [(L + 1, oc)]))) (hmp : m (S "pen") = some (.ref pa)) (ec : oc.data = .cell cv)
    (k : ∀ h' tk' g' m' P' oc' cv', KtsTurn (frs outer) g g' → Fr g' L h' m' → News g' L h' (P' ++ (Y ++ [(L + 1, oc')])) → PenSt pa la (b + 140) P' → oc'.data = .cell cv' → Below A₀ base outer g' → Agr [S "thing", S "shape", S "made", S "key", S "whole"] m' m → Q .next { s with heap := h', toks := tk' }) :
    wpAny (model PySem.Challenge.rw_og0176_01.row.prog w) (arnd dp u gd (lawEnv L fa cd) outer) (execs
      (.Assign [.Name (S "thing") p1a] (.Call (.Name (S "_law_thing") p2a) [.Name (S "pen") p3a, .Constant (.int 3) 0 p4a] [] p5a) p6a ::
       .Assign [.Name (S "shape") p7a] (.Call (.Name (S "told") p8a) [.Name (S "thing") p9a] [] q1a) q2a ::
       .Assign [.Name (S "made") q3a] (.Call (.Name (S "value_of") q4a) [.Name (S "shape") q5a] [] q6a) q7a ::
       .If (.Compare (.Call (.Name (S "told") q8a) [.Name (S "made") q9a] [] r1a) [.NotEq] [.Name (S "shape") r2a] r3a) [.Return (some (.Constant (.bool false) 0 r4a)) r5a] [] r6a ::
       .Expr (.Call (.Name (S "_law_spoilt") r7a) [.Name (S "made") r8a] [] r9a) u1a ::
       .If (.BoolOp .Or [.Compare (.Call (.Name (S "told") u2a) [.Name (S "thing") u3a] [] u4a) [.NotEq] [.Name (S "shape") u5a] u6a,
         .Compare (.Call (.Name (S "told") u7a) [.Call (.Name (S "value_of") u8a) [.Name (S "shape") u9a] [] v1a] [] v2a) [.NotEq] [.Name (S "shape") v3a] v4a] v5a) [.Return (some (.Constant (.bool false) 0 v6a)) v7a] [] v8a ::
       .Assign [.Name (S "pairs") p1b] (.Dict [] [] p2b) p3b ::
       .For (.Name (S "key") p4b) (.Subscript (.List [.Constant (.str (S "C")) 0 p5b, .Constant (.str (S "A")) 0 p6b, .Constant (.str (S "D")) 0 p7b, .Constant (.str (S "B")) 0 p8b] p9b) (.Slice none (some (.Call (.Name (S "_law_draw") q1b) [.Name (S "pen") q2b, .Constant (.int 5) 0 q3b] [] q4b)) none q5b) q6b)
        [.Assign [.Subscript (.Name (S "pairs") q7b) (.Name (S "key") q8b) q9b] (.Call (.Name (S "told") r1b) [.Call (.Name (S "_law_leaf") r2b) [.Name (S "pen") r3b] [] r4b] [] r5b) r6b] [] r7b ::
       .Assign [.Name (S "whole") p1c] (.Call (.Name (S "dict_shape") p2c) [.Name (S "pairs") p3c] [] p4c) p5c ::
       .If (.BoolOp .Or [.Compare (.Name (S "whole") p6c) [.NotEq] [.BinOp (.Tuple [.Constant (.str (S "dict")) 0 p7c] 0 p8c) .Add (.Call (.Name (Str.ofString "tuple") p9c) [.ListComp (.Tuple [.Name (S "key") q1c, .Subscript (.Name (S "pairs") q2c) (.Name (S "key") q3c) q4c] 0 q5c) [⟨.Name (S "key") q6c, .Call (.Name (Str.ofString "sorted") q7c) [.Name (S "pairs") q8c] [] q9c, [], 0⟩] { kind := .function, names := [(S ".0", .local), (S "key", .local), (S "pairs", .free)], isGenerator := false, isCoroutine := false, more := [] } r1c] [] r2c) r3c] r4c,
         .Compare (.Call (.Name (S "pairs_of") r5c) [.Name (S "whole") r6c] [] r7c) [.NotEq] [.Name (S "pairs") r8c] r9c] u1c)
         [.Return (some (.Constant (.bool false) 0 u2c)) u3c] [] u4c ::
       .If (.UnaryOp .Not (.Call (.Name (S "_law_rows_right") d1) [.Name (S "pen") d2, .Name (S "shape") d3] [] d4) d5) [.Return (some (.Constant (.bool false) 0 d6)) d7] [] d8 :: []) (lawEnv L fa cd)) Q E s := by
  have X := XB.keeps B.stays
  have Tp := TB.keeps B.stays
  have hK : KK 3 = 119 := rfl
  have hb1 : b + KK 3 ≤ 50000 := by omega
  with_reducible refine lw_thing B F X Tp (by k_room) (by k_units) hP hb1 hH hc N hmp fun h1 tk1 m1 P1 tl sh sd F1 N1 hP1 ab1 hsh hn1 hn2 hms1 ag1 => ?_
  have hH1 : Hi pa la (tl ++ Y) := .app (fun q hq => hi_above hP1 ab1 q hq) hH
  have N1' : News g L h1 (P1 ++ ((tl ++ Y) ++ [(L + 1, oc)])) := by rw [List.append_assoc]; exact N1
  have hmp1 := (ag1 (S "pen") (by decide)).trans hmp
  have hb2 : b + KK 3 < 50000 := by omega
  clear N1
  with_reducible refine lw_fill B F1 X Tp (by k_room) (by k_units) hE hP1 hb2 hH1 hc N1' hmp1 ec fun h2 tk2 m2 P2 T d o' oc' kvs ps F2 N2 hT2 hP2 md2 ec2 hod2 hds2 hnd2 hl2 hps2 ag2 => ?_
  have mc2 : (L + 1, oc') ∈ T := hT2 _ (by simp)
  with_reducible refine lw_whole B F2 X Tp (by k_room) (by k_units) N2 mc2 ec2 md2 hod2 hds2 hnd2 hl2 hps2 fun h3 tk3 m3 F3 N3 ag3 => ?_
  have N4 : News g L h3 ((P2 ++ (tl ++ Y)) ++ [(L + 1, oc')]) := by rw [List.append_assoc]; exact news_sub N3 hT2
  have hmp2 := (ag2 (S "pen") (by decide)).trans hmp1
  have hms2 := (ag2 (S "shape") (by decide)).trans hms1
  have hmp3 := (ag3 (S "pen") (by decide)).trans hmp2
  have hms3 := (ag3 (S "shape") (by decide)).trans hms2
  clear N2 N3 F1 F2 N1' N F hps2 md2 mc2
  iterate 13 (all_goals (try (first | (k_unfold; (try dsimp only)) | (k_end; wrow_close) | ((fail_if_success (fail_if_success (with_reducible show wpAny _ _ (eval (PySem.Expr.Name _ _) _) _ _ _))); (k_here; k_dflt (refine' nameX_L ?F9z ?v9z ?_ ?a9z ?b9z ?c9z; (case F9z => k_asm); (case v9z => with_unfolding_all assumption); (case a9z => exact rfl); (case b9z => exact rfl); (case c9z => decide))); try dsimp only) | (walk1; try dsimp only) | (dsimp only; walk1; try dsimp only))))
  have hsh3 : DatIn (tl ++ Y) (.ref sh) (.tuple sd) := hsh.mono fun q hq => List.mem_append.mpr (.inl hq)
  refine specTx_use (rows_right hP2 (by omega) hH1 hsh3 hn1 (by omega)) B F3 XB TB rfl rfl (by k_room) (by k_units) N4 (low_frame hP2 hH1 hc) ?_
  rintro z4 h4 tk4 g4 NL4 T4 F4 N5 B4 ⟨P4, rfl, hP4, rfl⟩
  have X4 := XB.keeps B4.stays
  have Tp4 := TB.keeps B4.stays
  rw [List.append_assoc] at N5
  clear N4 F3
  (try dsimp only)
  iterate 5 (all_goals (try (first | (k_unfold; (try dsimp only)) | (k_end; wrow_close) | ((fail_if_success (fail_if_success (with_reducible show wpAny _ _ (eval (PySem.Expr.Name _ _) _) _ _ _))); (k_here; k_dflt (refine' nameX_L ?F9z ?v9z ?_ ?a9z ?b9z ?c9z; (case F9z => k_asm); (case v9z => with_unfolding_all assumption); (case a9z => exact rfl); (case b9z => exact rfl); (case c9z => decide))); try dsimp only) | (walk1; try dsimp only) | (dsimp only; walk1; try dsimp only))))
  have ag : Agr [S "thing", S "shape", S "made", S "key", S "whole"] m3 m := fun y hy => (ag3 y (not_sub (by decide) hy)).trans ((ag2 y (not_sub (by decide) hy)).trans (ag1 y (not_sub (by decide) hy)))
  exact k _ _ g4 m3 P4 oc' _ T4 F4 (news_sub N5 fun q hq => by
    simp only [List.mem_append] at hq ⊢
    rcases hq with h | h | h <;> simp [h]) (hP4.le (by omega)) ec2 B4 ag
end
end
section
open Sem (wp)
noncomputable abbrev lapNames : List Str := [S "thing", S "shape", S "made", S "key", S "whole"]
noncomputable def LapOk (w : World) (dp u : Nat) (gd : Option (List Code)) (A₀ : Around) (base : Heap) (outer : List Env) (L fa : Addr) (cd : Value) (pa la : Nat) (body : List Stmt) : Prop :=
  ∀ (g : Heap) (m : Str → Option Value) (s : Shared) (Q : Flow → Shared → Prop) (E : Value → Shared → Prop) (b : Int) (P Y : List (Addr × Obj)) (oc : Obj) (cv : Option Value),
    Below A₀ base outer g → Fr g L s.heap m → PassesOwn (model PROG w) (arnd dp u gd (lawEnv L fa cd) outer) (lawEnv L fa cd) E → PenSt pa la b P → b < 40000 → Hi pa la Y → (@LT.lt Nat _ (L + 1) pa ∧ @LT.lt Nat _ (L + 1) la) → News g L s.heap (P ++ (Y ++ [(L + 1, oc)])) → m (S "pen") = some (.ref pa) → oc.data = .cell cv →
    (∀ h' tk' g' m' P' oc' cv', KtsTurn (frs outer) g g' → Fr g' L h' m' → News g' L h' (P' ++ (Y ++ [(L + 1, oc')])) → PenSt pa la (b + 140) P' → oc'.data = .cell cv' → Below A₀ base outer g' → Agr lapNames m' m → Q .next { s with heap := h', toks := tk' }) →
    wpAny (model PROG w) (arnd dp u gd (lawEnv L fa cd) outer) (execs body (lawEnv L fa cd)) Q E s
theorem law_loop {w : World} {dp u : Nat} {gd : Option (List Code)} {A₀ : Around} {base g : Heap} {outer : List Env} {L fa : Addr} {cd : Value} {m : Str → Option Value} {s : Shared} {Q : Flow → Shared → Prop} {E : Value → Shared → Prop}
    {pa la : Nat} {b : Int} {P Y : List (Addr × Obj)} {oc : Obj} {cv : Option Value} {body : List Stmt} {iter : Expr} {p1 p2 : Pos}
    (lap : LapOk w dp u gd A₀ base outer L fa cd pa la body)
    (B : Below A₀ base outer g) (F : Fr g L s.heap m) (hE : PassesOwn (model PROG w) (arnd dp u gd (lawEnv L fa cd) outer) (lawEnv L fa cd) E)
    (hP : PenSt pa la b P) (hb : b < 1000) (hH : Hi pa la Y) (hc : @LT.lt Nat _ (L + 1) pa ∧ @LT.lt Nat _ (L + 1) la) (N : News g L s.heap (P ++ (Y ++ [(L + 1, oc)]))) (hmp : m (S "pen") = some (.ref pa)) (ec : oc.data = .cell cv)
    (hit : wpAny (model PROG w) (arnd dp u gd (lawEnv L fa cd) outer) (eval iter (lawEnv L fa cd)) (fun xv s₁ => ∃ ar t1 t2 t3 h tk, xv = .ref ar ∧ s₁ = { s with heap := h, toks := tk } ∧ IsRange h ar 0 2 1 t1 t2 t3 ∧ Fr g L h m ∧ News g L h (P ++ (Y ++ [(L + 1, oc)]))) E s)
    (hs : ∀ x, foldedSetIterable iter (lawEnv L fa cd) x = pure x)
    (k : ∀ h' tk' g' m' P' oc' cv', KtsTurn (frs outer) g g' → Fr g' L h' m' → News g' L h' (P' ++ (Y ++ [(L + 1, oc')])) → PenSt pa la (b + 280) P' → oc'.data = .cell cv' → Below A₀ base outer g' → Agr (S "lap" :: lapNames) m' m → Q .next { s with heap := h', toks := tk' }) :
    wpAny (model PROG w) (arnd dp u gd (lawEnv L fa cd) outer) (exec (.For (.Name (S "lap") p1) iter body [] p2) (lawEnv L fa cd)) Q E s := by
  refine wpAny_For (wpAny_mono hit (fun xv s₁ hx => ?_) fun _ _ e => e) hs
  obtain ⟨ar, t1, t2, t3, h, tk, rfl, rfl, hr, F1, N1⟩ := hx
  refine wpAny_pyIter_range hr (by decide) ?_
  rw [show Builtin.Range.rangeSize 0 2 1 = 2 from by decide]
  dsimp only
  have hJ : ∀ q ∈ P ++ (Y ++ [(L + 1, oc)]), @LT.lt Nat _ q.1 h.objs.size := fun q hq => Heap.lt_size (N1 q hq).1
  have hJL : @LT.lt Nat _ L h.objs.size := F1.ns.lt
  have hJp := pen_lt hP hJ
  have hJ0 : g.get? h.objs.size = none := next_is_new F1
  obtain ⟨J, eJ⟩ : ∃ J : Addr, J = h.objs.size := ⟨_, rfl⟩
  rw [← eJ]
  have W := Walks.range (prog := PROG) (w := w) (A := arnd dp u gd (lawEnv L fa cd) outer) rfl J 0 1 2
  refine codeAny_forLoop_any (fun n s' => ∃ (i : Nat) (h' : Heap) (tk' : Nat) (g' : Heap) (m' : Str → Option Value) (P' : List (Addr × Obj)) (oc' : Obj) (cv' : Option Value) (oJ : Obj), s' = { s with heap := h', toks := tk' } ∧ i ≤ 2 ∧ n = 3 - i ∧ IsRangeIter h' J (0 + (i : Nat) * 1) ((2 : Nat) - (i : Nat) : Int) 1 ∧ KtsTurn (frs outer) g g' ∧ Below A₀ base outer g' ∧ Fr g' L h' m' ∧
      News g' L h' (P' ++ (((J, oJ) :: Y) ++ [(L + 1, oc')])) ∧ PenSt pa la (b + 140 * i) P' ∧ oc'.data = .cell cv' ∧ Agr (S "lap" :: lapNames) m' m) ?_ 3 ?_
  · (intro n s' hZZ1; refine via fun GG hGG => ?_; obtain ⟨i, h', tk', g', m', P', oc', cv', oJ, rfl, hi, rfl, st, T', B', F', N', hP', ec', ag'⟩ := hZZ1; refine hGG ?_; clear hGG GG)
    have hLJ : L ≠ J := by rw [eJ]; exact Nat.ne_of_lt hJL
    have hJg : g'.get? J = none := T'.none_ _ (by rw [eJ]; exact hJ0)
    have hJne : ∀ q ∈ P' ++ (Y ++ [(L + 1, oc')]), q.1 ≠ J := fun q hq => by
      rw [eJ]
      rcases List.mem_append.mp hq with hq | hq
      · rcases pen_mem hP' q hq with e | e
        · rw [e]; exact Nat.ne_of_lt hJp.1
        · rw [e]; exact Nat.ne_of_lt hJp.2
      · rcases List.mem_append.mp hq with hq | hq
        · exact Nat.ne_of_lt (hJ q (by simp [hq]))
        · rw [List.mem_singleton.mp hq]; exact Nat.ne_of_lt (hJ (L + 1, oc) (by simp))
    by_cases hlt : i < 2
    · refine W.item i { s with heap := h', toks := tk' } _ _ hlt st fun v h1 tk1 hv st1 hk1 => ?_
      dsimp only
      refine wpAny_pure ?_
      have F1' : Fr g' L h1 m' := ⟨F'.ns.at' fun o e => hk1 _ o (by simp [hLJ]) e, fun b o e => hk1 b o (fun q => by rw [List.mem_singleton.mp q, hJg] at e; cases e) (F'.keep b o e), F'.above⟩
      have N1' : ∀ o1, h1.get? J = some o1 → News g' L h1 (P' ++ (((J, o1) :: Y) ++ [(L + 1, oc')])) := fun o1 ho1 q hq => by
        have hq' : q = (J, o1) ∨ q ∈ P' ++ (Y ++ [(L + 1, oc')]) := by
          simp only [List.mem_append, List.mem_cons, List.not_mem_nil, or_false] at hq ⊢
          rcases hq with h | (h | h) | h <;> simp [h]
        rcases hq' with rfl | hq'
        · exact ⟨ho1, Ne.symm hLJ, hJg⟩
        · have := N' q (by
            simp only [List.mem_append, List.mem_cons, List.not_mem_nil, or_false] at hq' ⊢
            rcases hq' with h | h | h <;> simp [h])
          exact ⟨hk1 _ _ (by simp [hJne q hq']) this.1, this.2⟩
      refine wpAny_assign_Name (wpAny_storeName_local rfl F1'.ns (fun h2 hn2 hs2 => ?_) rfl)
      have F2 := F1'.set hn2 hs2
      have N2 : News g' L h2 _ := fun q hq => ⟨hs2.extBut _ _ (N1' _ st1 q hq).2.1 (N1' _ st1 q hq).1, (N1' _ st1 q hq).2⟩
      refine wpAny_passesOwn hE (lap g' _ _ _ E (b + 140 * i) P' ((J, _) :: Y) oc' cv' B' F2 hE hP' (by omega) (.cons (by rw [eJ]; exact hJp) hH) hc N2 ((ag' (S "pen") (by decide)).trans hmp) ec' fun h3 tk3 g3 m3 P3 oc3 cv3 T3 F3 N3 hP3 ec3 B3 ag3 => ?_)
      · refine ⟨3 - (i + 1), by omega, i + 1, h3, tk3, g3, m3, P3, oc3, cv3, _, rfl, hlt, rfl, (N3 (J, _) (by simp)).1, T'.trans T3, B3, F3, N3, hP3.le (by omega), ec3, fun y hy => ?_⟩
        have h1 : y ∉ lapNames := fun q => hy (.tail _ q)
        have h2 : y ≠ S "lap" := fun q => hy (q ▸ .head _)
        exact ((ag3 y h1).trans (if_neg h2)).trans (ag' y hy)
    · have hi2 : i = 2 := by omega
      subst hi2
      refine W.done { s with heap := h', toks := tk' } _ _ st fun h1 tk1 hk1 => wpAny_execs_nil ?_
      have F1' : Fr g' L h1 m' := ⟨F'.ns.at' fun o e => hk1 _ o (by simp [hLJ]) e, fun b o e => hk1 b o (fun q => by rw [List.mem_singleton.mp q, hJg] at e; cases e) (F'.keep b o e), F'.above⟩
      exact k h1 tk1 g' m' P' oc' cv' T' F1' (fun q hq => by
        have := N' q (by
          simp only [List.mem_append, List.mem_cons, List.not_mem_nil, or_false] at hq ⊢
          rcases hq with h | h | h <;> simp [h])
        exact ⟨hk1 _ _ (by simp [hJne q hq]) this.1, this.2⟩) (hP'.le (by omega)) ec' B' ag'
  · refine ⟨0, _, _, g, m, P, oc, cv, ({ cls := .type "range_iterator", data := .fields #[rawInt 0, rawInt 2, rawInt 1] } : Obj), rfl, by omega, rfl, ?_, KtsTurn.refl, B, F1.push _, ?_, by simpa using hP, ec, Agr.rfl⟩
    · unfold IsRangeIter
      rw [eJ, Heap.get?_push_size _ rfl]
      simp
    · intro q hq
      have hq' : q ∈ (h.objs.size, ({ cls := .type "range_iterator", data := .fields #[rawInt 0, rawInt 2, rawInt 1] } : Obj)) :: (P ++ (Y ++ [(L + 1, oc)])) := by
        rw [eJ] at hq
        simp only [List.mem_append, List.mem_cons, List.not_mem_nil, or_false] at hq ⊢
        rcases hq with h | (h | h) | h <;> simp [h]
      exact (News.push F1 N1 _ (by rfl)) q hq'
end
section
open Sem (wp)
section
variable {prog : Program} {w : World} {A : Around} {E : Value → Shared → Prop} {s : Shared} {h₀ : Heap} {L : Addr} {m : Str → Option Value} {nw : List (Addr × Obj)} {Q : Value → Shared → Prop}
theorem list_upto_H {value slice : Expr} {l : Addr} {xs : List Value} {d : Int} {u : Tok} {h : Heap} {tk : Nat} (F : Fr h₀ L h m) (N : News h₀ L h nw) (hl : h.IsList l xs.toArray) (h0 : 0 ≤ d) (hz : xs.length < 1000)
    (hq : ∀ (D : Addr) h', Fr h₀ L h' m → News h₀ L h' ((D, listOf (xs.take d.toNat).toArray 0) :: nw) → (∀ p ∈ nw, @LT.lt Nat _ p.1 D) → (∀ b : Nat, b < h.objs.size → b < D) → Q (.ref D) { s with heap := h', toks := tk })
    (hs : subscripted slice false (.ref l) (.ref h.objs.size) = operate [.ref h.objs.size, .ref l] (getItem (.ref l) (.ref h.objs.size)) := by with_unfolding_all rfl) :
    wpAny (model prog w) A (subscriptTail value slice (.ref l) (.ref h.objs.size)) Q E { s with heap := h.push { cls := .type "slice", data := .fields #[.none, .int d u, .none] }, toks := tk } := by
  have hl' : (h.push { cls := .type "slice", data := .fields #[.none, .int d u, .none] }).IsList l xs.toArray := hl.push _
  refine tail_any (Heap.IsList.typeIs (s := { s with heap := h.push { cls := .type "slice", data := .fields #[.none, .int d u, .none] }, toks := tk }) hl') list_getitem_lookup
    (wpAny_getItem_list_slice hl' (Heap.IsSliceOf.new ..) .none (.int d u) .none (by simp) ?_ (by rw [sizeLine_eq, List.size_toArray]; omega)) hs
  have e : slicePick xs.toArray none (some d) none = (xs.take d.toNat).toArray := by
    obtain ⟨n, rfl⟩ := Int.eq_ofNat_of_zero_le h0
    rw [slicePick_upto']
    rfl
  rw [e]
  have F1 := F.push { cls := .type "slice", data := .fields #[.none, .int d u, .none] }
  have N1 := News.push F1 (N.grown fun _ _ x => Heap.get?_push_of_some _ x) { cls := .type "list", data := .seq (xs.take d.toNat).toArray }
  have up : ∀ b : Nat, b < h.objs.size → b < (h.push { cls := .type "slice", data := .fields #[.none, .int d u, .none] }).objs.size := fun b hb => by
    rw [Heap.size_push]
    exact Nat.lt_succ_of_lt hb
  exact hq _ _ (F1.push _) N1 (fun p hp => up _ (Heap.lt_size (N p hp).1)) up
end
theorem pen_intro {h₀ h : Heap} {L pa la : Addr} {t1 t2 : Tok} {ep ep2 : Nat} {vs : List Value} {ns : List Int} {x : Addr × Obj} {NL : List (Addr × Obj)} (N : News h₀ L h ((pa, listOf [.ref la, .int 0 t1, .int 0 t2].toArray ep) :: (la, listOf vs.toArray ep2) :: x :: NL)) (hne : pa ≠ la) (hi : IntsAre vs ns) (hl : ns.length ≤ 24) :
    ∃ P, News h₀ L h (P ++ NL) ∧ PenSt pa la 0 P := by
  refine ⟨[(pa, listOf [.ref la, .int 0 t1, .int 0 t2].toArray ep), (la, listOf vs.toArray ep2)], fun q hq => N q ?_, 0, 0, t1, t2, ep, ep2, vs, ns, rfl, hne, hi, hl, Int.le_refl _, Int.le_refl _, Int.le_refl _⟩
  simp only [List.mem_append, List.mem_cons, List.not_mem_nil, or_false] at hq ⊢
  rcases hq with (h | h) | h <;> simp [h]
theorem ints_take : ∀ {vs : List Value} {ns : List Int} (n : Nat), IntsAre vs ns → IntsAre (vs.take n) (ns.take n)
  | _, _, 0, _ => .nil
  | _, _, _ + 1, .nil => .nil
  | _, _, n + 1, .cons i t r => .cons i t (ints_take n r)
set_option maxRecDepth 100000 in
set_option maxHeartbeats 2000000 in
theorem pen_made {w : World} {p : Program} {loose : List Str} {mean : ExcName → Option Value} {mg mb : Str → Option Value} {NL : List (Addr × Obj)} {sl : Addr} {vs : List Value} {ns : List Int} {dp u : Nat} {gd : Option (List Code)} {A₀ : Around} {base h₀ : Heap} {env : Env} {outer : List Env} {L : Addr} {m : Str → Option Value} {s : Shared} {Q E : Value → Shared → Prop}
    (B : Below A₀ base outer h₀) (F : Fr h₀ L s.heap m) (X : (hd.heap_39 w.params).In h₀) (Tp : Top p loose mean mg mb h₀) (hf : env.frame = some L) (hk : env.scope.kind = .function) (hd' : dp + 5 < recursionLimit) (hu : u + 100 < cLine)
    (N : News h₀ L s.heap NL) (hls : h₀.IsList sl vs.toArray) (hi : IntsAre vs ns) (hl : vs.length < 1000)
    (hret : ∀ pa la P h' tk', Fr h₀ L h' m → News h₀ L h' (P ++ NL) → PenSt pa la 0 P → (∀ q ∈ NL, @LT.lt Nat _ q.1 pa ∧ @LT.lt Nat _ q.1 la) → (@LT.lt Nat _ L pa ∧ @LT.lt Nat _ L la) → Q (.ref pa) { s with heap := h', toks := tk' }) :
    wpAny (model PySem.Challenge.rw_og0176_01.row.prog w) (arnd dp u gd env outer) (call (.ref 362) [.ref sl]) Q E s := by
  refine wpAny_call ?_
  refine' code_defG B F X N Tp rfl hf hk ?k6 ?k7 (asm2 hd') ?k9 ?kB ?_ ?c2 ?c3 ?c4 ?c5
  case k6 => k_is
  case k7 => k_is
  case k9 => exact BindsTo.of_eq rfl
  case c5 => decide
  case kB => exact locs rfl
  case c2 => exact rfl
  case c3 => exact rfl
  case c4 => exact rfl
  intro g' L' h' FG' F' N' B' X' T' kG'
  (try dsimp only)
  (try k_fold)
  iterate 16 (all_goals (try (first | (k_unfold; (try dsimp only)) | (k_end; wrow_close) | (walk1; try dsimp only) | (dsimp only; walk1; try dsimp only))))
  obtain ⟨osl, hosl, hosc⟩ := id hls
  have hn : sl ∉ NL.map (·.1) := fun e => by
    obtain ⟨q, hq, e⟩ := List.mem_map.mp e
    have := (N q hq).2.2
    rw [e, hosl] at this; cases this
  refine list_upto_H F' N' (hls.at fun o e => F'.keep _ _ (kG' _ _ (F.keep _ _ e) hn)) (by decide) hl fun D h2 F2 N2 l2 u2 => ?_
  have hLD : @LT.lt Nat _ L D := u2 L (Nat.lt_of_lt_of_le FG'.ns.lt (Nat.le_trans F'.above (Nat.le_of_lt F'.ns.lt)))
  (try dsimp only)
  have hl2 : (List.take (24 : Int).toNat vs).length ≤ 24 := by rw [List.length_take]; exact Nat.min_le_left _ _
  have hi2 := ints_take (24 : Int).toNat hi
  iterate 2 (all_goals (try (first | (k_unfold; (try dsimp only)) | (k_end; wrow_close) | (walk1; try dsimp only) | (dsimp only; walk1; try dsimp only))))
  rename_i la ce hx Fx Nx lx
  obtain ⟨lx1, lx3⟩ := lx
  have lx2 := ktn_ltOf lx3
  iterate 6 (all_goals (try (first | (k_unfold; (try dsimp only)) | (k_end; wrow_close) | (walk1; try dsimp only) | (dsimp only; walk1; try dsimp only))))
  rename_i pa hz Fz Nz lz
  obtain ⟨lz1, lz2, lz3⟩ := lz
  have lz4 := ktn_ltOf lz3
  repeat' (first | (k_unfold; (try dsimp only)) | (k_end; wrow_close) | (walk1; try dsimp only) | (dsimp only; walk1; try dsimp only))
  rename_i kF kN kT kX
  obtain ⟨P, hN, hP⟩ := pen_intro kN (Ne.symm (Nat.ne_of_lt lz1)) hi2 (by rw [List.length_take]; exact Nat.min_le_left _ _)
  exact hret pa la P _ _ kF hN hP (fun q hq => ⟨lz4 q hq, lx2 q hq⟩) ⟨Nat.lt_trans hLD lz2, Nat.lt_trans hLD lx1⟩
end
section
open Sem (wp)
section
set_option maxRecDepth 100000 in
set_option maxHeartbeats 2000000 in
theorem law_walk {w : World} {p : Program} {loose : List Str} {mean : ExcName → Option Value} {mg mb : Str → Option Value} {dp u : Nat} {gd : Option (List Code)} {A₀ : Around} {base g : Heap} {outer : List Env} {L fa sl : Addr} {cd : Value} {m : Str → Option Value} {s : Shared} {Q : Flow → Shared → Prop} {E : Value → Shared → Prop}
    {oc : Obj} {cv : Option Value} {vs : List Value} {ns : List Int} {p1a p2a p3a p4a p5a p6a p7a p8a p9a q1a q2a q3a q4a q5a q6a q7a q8a q9a r1a r2a r3a r4a r5a r6a r7a r8a r9a u1a u2a u3a u4a u5a u6a u7a u8a u9a v1a v2a v3a v4a v5a v6a v7a v8a p1b p2b p3b p4b p5b p6b p7b p8b p9b q1b q2b q3b q4b q5b q6b q7b q8b q9b r1b r2b r3b r4b r5b r6b r7b p1c p2c p3c p4c p5c p6c p7c p8c p9c q1c q2c q3c q4c q5c q6c q7c q8c q9c r1c r2c r3c r4c r5c r6c r7c r8c r9c u1c u2c u3c u4c d1 d2 d3 d4 d5 d6 d7 d8 f1 f2 f3 f4 f5 f6 f7 f8 f9 g1 g2 g3 g4 g5 g6 g7 g8 g9 h1 h2 h3 h4 h5 h6 h7 : Pos}
    (B : Below A₀ base outer g) (F : Fr g L s.heap m) (XB : (hd.heap_39 w.params).In base) (TB : Top p loose mean mg mb base) (hdp : dp + 50 < recursionLimit) (hu : u + 800 < cLine) (hE : PassesOwn (model PROG w) (arnd dp u gd (lawEnv L fa cd) outer) (lawEnv L fa cd) E)
    (N : News g L s.heap [(L + 1, oc)]) (ec : oc.data = .cell cv) (hms : m (S "script") = some (.ref sl)) (hls : g.IsList sl vs.toArray) (hi : IntsAre vs ns) (hl : vs.length < 1000)
    (k : ∀ h' tk', (∀ b o, g.get? b = some o → b ∉ frs outer → h'.get? b = some o) → Q (.ret (.bool true)) { s with heap := h', toks := tk' }) :
    wpAny (model PROG w) (arnd dp u gd (lawEnv L fa cd) outer) (execs
      [.Assign [.Name (S "pen") f1] (.Call (.Name (S "_law_pen") f2) [.Name (S "script") f3] [] f4) f5,
       .For (.Name (S "lap") f6) (.Call (.Name (Str.ofString "range") f7) [.Constant (.int 2) 0 f8] [] f9) (.Assign [.Name (S "thing") p1a] (.Call (.Name (S "_law_thing") p2a) [.Name (S "pen") p3a, .Constant (.int 3) 0 p4a] [] p5a) p6a ::
       .Assign [.Name (S "shape") p7a] (.Call (.Name (S "told") p8a) [.Name (S "thing") p9a] [] q1a) q2a ::
       .Assign [.Name (S "made") q3a] (.Call (.Name (S "value_of") q4a) [.Name (S "shape") q5a] [] q6a) q7a ::
       .If (.Compare (.Call (.Name (S "told") q8a) [.Name (S "made") q9a] [] r1a) [.NotEq] [.Name (S "shape") r2a] r3a) [.Return (some (.Constant (.bool false) 0 r4a)) r5a] [] r6a ::
       .Expr (.Call (.Name (S "_law_spoilt") r7a) [.Name (S "made") r8a] [] r9a) u1a ::
       .If (.BoolOp .Or [.Compare (.Call (.Name (S "told") u2a) [.Name (S "thing") u3a] [] u4a) [.NotEq] [.Name (S "shape") u5a] u6a,
         .Compare (.Call (.Name (S "told") u7a) [.Call (.Name (S "value_of") u8a) [.Name (S "shape") u9a] [] v1a] [] v2a) [.NotEq] [.Name (S "shape") v3a] v4a] v5a) [.Return (some (.Constant (.bool false) 0 v6a)) v7a] [] v8a ::
       .Assign [.Name (S "pairs") p1b] (.Dict [] [] p2b) p3b ::
       .For (.Name (S "key") p4b) (.Subscript (.List [.Constant (.str (S "C")) 0 p5b, .Constant (.str (S "A")) 0 p6b, .Constant (.str (S "D")) 0 p7b, .Constant (.str (S "B")) 0 p8b] p9b) (.Slice none (some (.Call (.Name (S "_law_draw") q1b) [.Name (S "pen") q2b, .Constant (.int 5) 0 q3b] [] q4b)) none q5b) q6b)
        [.Assign [.Subscript (.Name (S "pairs") q7b) (.Name (S "key") q8b) q9b] (.Call (.Name (S "told") r1b) [.Call (.Name (S "_law_leaf") r2b) [.Name (S "pen") r3b] [] r4b] [] r5b) r6b] [] r7b ::
       .Assign [.Name (S "whole") p1c] (.Call (.Name (S "dict_shape") p2c) [.Name (S "pairs") p3c] [] p4c) p5c ::
       .If (.BoolOp .Or [.Compare (.Name (S "whole") p6c) [.NotEq] [.BinOp (.Tuple [.Constant (.str (S "dict")) 0 p7c] 0 p8c) .Add (.Call (.Name (Str.ofString "tuple") p9c) [.ListComp (.Tuple [.Name (S "key") q1c, .Subscript (.Name (S "pairs") q2c) (.Name (S "key") q3c) q4c] 0 q5c) [⟨.Name (S "key") q6c, .Call (.Name (Str.ofString "sorted") q7c) [.Name (S "pairs") q8c] [] q9c, [], 0⟩] { kind := .function, names := [(S ".0", .local), (S "key", .local), (S "pairs", .free)], isGenerator := false, isCoroutine := false, more := [] } r1c] [] r2c) r3c] r4c,
         .Compare (.Call (.Name (S "pairs_of") r5c) [.Name (S "whole") r6c] [] r7c) [.NotEq] [.Name (S "pairs") r8c] r9c] u1c)
         [.Return (some (.Constant (.bool false) 0 u2c)) u3c] [] u4c ::
       .If (.UnaryOp .Not (.Call (.Name (S "_law_rows_right") d1) [.Name (S "pen") d2, .Name (S "shape") d3] [] d4) d5) [.Return (some (.Constant (.bool false) 0 d6)) d7] [] d8 :: []) [] g1,
       .Return (some (.BoolOp .And [.Call (.Name (S "_law_refused") g2) [.Tuple [.Constant (.str (S "none")) 0 g3, .Constant (.int 1) 0 g4] 0 g5, .List [] g6, .Constant (.int 0) 0 g7] [] g8,
         .Call (.Name (S "_law_refused") g9) [.Tuple [.Constant (.str (S "lone")) 0 h1] 0 h2, .List [] h3, .Constant (.int 0) 0 h4] [] h5] h6)) h7] (lawEnv L fa cd)) Q E s := by
  have X := XB.keeps B.stays
  have Tp := TB.keeps B.stays
  iterate 9 (all_goals (try (first | (k_unfold; (try dsimp only)) | (k_end; wrow_close) | ((fail_if_success (fail_if_success (with_reducible show wpAny _ _ (eval (PySem.Expr.Name _ _) _) _ _ _))); (k_here; k_dflt (refine' nameX_L ?F9z ?v9z ?_ ?a9z ?b9z ?c9z; (case F9z => k_asm); (case v9z => with_unfolding_all assumption); (case a9z => exact rfl); (case b9z => exact rfl); (case c9z => decide))); try dsimp only) | (walk1; try dsimp only) | (dsimp only; walk1; try dsimp only))))
  refine pen_made B F X Tp rfl rfl (by k_room) (by k_units) N hls hi hl fun pa la P x1 tk1 F1 N1 hP hNL hLp => ?_
  have hc : @LT.lt Nat _ (L + 1) pa ∧ @LT.lt Nat _ (L + 1) la := hNL (L + 1, oc) (.head _)
  (try dsimp only)
  iterate 3 (all_goals (try (first | (k_unfold; (try dsimp only)) | (k_end; wrow_close) | ((fail_if_success (fail_if_success (with_reducible show wpAny _ _ (eval (PySem.Expr.Name _ _) _) _ _ _))); (k_here; k_dflt (refine' nameX_L ?F9z ?v9z ?_ ?a9z ?b9z ?c9z; (case F9z => k_asm); (case v9z => with_unfolding_all assumption); (case a9z => exact rfl); (case b9z => exact rfl); (case c9z => decide))); try dsimp only) | (walk1; try dsimp only) | (dsimp only; walk1; try dsimp only))))
  rename Fr g L _ _ => F2
  rename News g L _ _ => N2
  refine law_loop (Y := []) (fun g m s Q E b P Y oc cv B F hE hP hb hH hc N hmp ec k => lw_lap B F XB TB (by k_room) (by k_units) hE hP hb hH hc N hmp ec k) B F2 hE hP (by decide) (fun _ h => nomatch h) hc N2 rfl ec ?_ (by intro _; with_unfolding_all rfl) fun x3 tk3 g3 m3 P3 oc3 cv3 T3 F3 N3 hP3 ec3 B3 ag3 => ?_
  · iterate 7 (all_goals (try (first | (k_unfold; (try dsimp only)) | (k_end; wrow_close) | ((fail_if_success (fail_if_success (with_reducible show wpAny _ _ (eval (PySem.Expr.Name _ _) _) _ _ _))); (k_here; k_dflt (refine' nameX_L ?F9z ?v9z ?_ ?a9z ?b9z ?c9z; (case F9z => k_asm); (case v9z => with_unfolding_all assumption); (case a9z => exact rfl); (case b9z => exact rfl); (case c9z => decide))); try dsimp only) | (walk1; try dsimp only) | (dsimp only; walk1; try dsimp only))))
    rename IsRange _ _ _ _ _ _ _ _ => hR
    exact ⟨_, _, _, _, _, _, rfl, rfl, hR, by assumption, by assumption⟩
  · clear F2 N2
    have X3 := XB.keeps B3.stays
    have Tp3 := TB.keeps B3.stays
    (try dsimp only)
    iterate 22 (all_goals (try (first | (k_unfold; (try dsimp only)) | (k_end; wrow_close) | ((fail_if_success (fail_if_success (with_reducible show wpAny _ _ (eval (PySem.Expr.Name _ _) _) _ _ _))); (k_here; k_dflt (refine' nameX_L ?F9z ?v9z ?_ ?a9z ?b9z ?c9z; (case F9z => k_asm); (case v9z => with_unfolding_all assumption); (case a9z => exact rfl); (case b9z => exact rfl); (case c9z => decide))); try dsimp only) | (walk1; try dsimp only) | (dsimp only; walk1; try dsimp only))))
    rename Fr g3 L _ _ => F4
    rename News g3 L _ _ => N4
    refine specT_use (refused_0 (specE_le (leaf_no (.tail _ (.head _)) (by decide) (by decide) (by decide) (by decide)) (by decide) (by decide))) B3 F4 XB TB rfl rfl (by k_room) (by k_units) N4 ?_
    rintro z5 x5 tk5 g5 NL5 T5 F5 N5 B5 X5 Tp5 ⟨e5, rfl⟩
    rw [e5] at N5
    clear e5 F4 N4
    (try dsimp only)
    iterate 20 (all_goals (try (first | (k_unfold; (try dsimp only)) | (k_end; wrow_close) | ((fail_if_success (fail_if_success (with_reducible show wpAny _ _ (eval (PySem.Expr.Name _ _) _) _ _ _))); (k_here; k_dflt (refine' nameX_L ?F9z ?v9z ?_ ?a9z ?b9z ?c9z; (case F9z => k_asm); (case v9z => with_unfolding_all assumption); (case a9z => exact rfl); (case b9z => exact rfl); (case c9z => decide))); try dsimp only) | (walk1; try dsimp only) | (dsimp only; walk1; try dsimp only))))
    rename Fr g5 L _ _ => F6
    rename News g5 L _ _ => N6
    refine specT_use (refused_0 (specE_le (leaf_no (.tail _ (.head _)) (by decide) (by decide) (by decide) (by decide)) (by decide) (by decide))) B5 F6 XB TB rfl rfl (by k_room) (by k_units) N6 ?_
    rintro z7 x7 tk7 g7 NL7 T7 F7 N7 B7 X7 Tp7 ⟨e7, rfl⟩
    (try dsimp only)
    iterate 1 (all_goals (try (first | (k_unfold; (try dsimp only)) | (k_end; wrow_close) | ((fail_if_success (fail_if_success (with_reducible show wpAny _ _ (eval (PySem.Expr.Name _ _) _) _ _ _))); (k_here; k_dflt (refine' nameX_L ?F9z ?v9z ?_ ?a9z ?b9z ?c9z; (case F9z => k_asm); (case v9z => with_unfolding_all assumption); (case a9z => exact rfl); (case b9z => exact rfl); (case c9z => decide))); try dsimp only) | (walk1; try dsimp only) | (dsimp only; walk1; try dsimp only))))
    rename Fr g7 L _ _ => F8
    exact k _ _ fun b o e hb => F8.keep b o (T7.other b o (T5.other b o (T3.other b o e hb) hb) hb)
end
end
end
set_option maxRecDepth 100000 in
set_option maxHeartbeats 4000000 in
theorem hd.final : PySem.Challenge.rw_og0176_01.Holds := by
  w_on
  refine holds_law hd.said fun said => ?_
  refine holds_open (q := hd.view) (loose := hd.loose) (Xt := hd.Xt) (XP := XL hd.view []) (Yf := Hook.obs hd.hook) (Ya := Hook.val hd.hook) (YP := Hook.says hd.hook) (N := 5678) hd.left (Hook.of hd.hook) (Hook.keeps hd.hook) (fun s e => xl_of s (Bool.and_eq_true_iff.mp e).1) XL.keeps (by rfl) (by rfl) (by rfl) (fun s e => recFacts_of (Bool.and_eq_true_iff.mp e).2) (by rfl) (by assumption) (by decide +kernel) ⟨rfl, rfl, rfl, rfl, rfl, by decide +kernel⟩ ?hw ?hc
  case hw => exact ⟨[WData.list []], by kernel_rfl, by kernel_rfl⟩
  k_fill
  intro w s₀ s₁ mg mb G Y fa o pm cd doc dV kV ho hd hcd hD hmg hg args vals as hpre hlay hrd hwl hlo
  have KX := kIn_of Y
  refine Ground.open G ?_
  intro T B D TE TW
  try (refine guard_noD D (by decide +kernel) ?_; clear D)
  obtain ⟨_, _, he, B0⟩ := based_of_top T rfl hmg ho hd
  have he' : cd = _ := he
  subst he'
  clear he hmg
  wrow_args hpre hlay hrd hwl hlo
  refine enter_call ?_
  w_top on
  try refine codeAny_mono ?_ (fun _ _ g => GoodW.toG g)
  have K0 := below_caller (Top.heap T)
  w_call any ho hd hcd hD T F
  clear hd
  k_drop
  rename (hd.heap_39 _).In _ => KX
  rename Top _ _ _ _ _ _ => T
  rename Below _ _ _ _ => K0
  rename Fr _ _ _ _ => F
  rename News _ _ _ _ => N0
  rename IntsAre _ _ => hI
  rename Heap.IsList _ _ _ => hL
  rename ¬ _ => hcond
  rename _ = Data.cell _ => hcell
  have hlen := hI.length
  refine law_walk K0 F KX T (by k_room) (by k_units) PassesOwn.leaving N0 hcell rfl hL hI (by omega) ?_
  intro h' tk' hk
  dsimp only
  refine ⟨.inl ⟨_, _, _, rfl, raisesW_false ?_, .bool true, ?_, unshared_nil⟩, fun b o e => hk b o e (fun hb => nomatch hb), rfl, by assumption⟩
  · wrow_none_raised
  · first | wrow_post | kc_post
end Mine
theorem PySem.Challenge.cw_og0176_01_holds : PySem.Challenge.rw_og0176_01.Holds :=
  Mine.hd.final
