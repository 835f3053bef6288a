import PyProof.Rows.All
import Wide.All
import OpenK.AllK
import Wide.FinOn
import PySem.Challenge.RW_tk0103_01
open PySem PySem.W PyProof.Rows PySem.Calls
set_option Elab.async false
set_option maxRecDepth 100000
set_option linter.unusedVariables false
namespace Mine
/-! ## HLem -/
/-- the top's run over a tree of objects -/
noncomputable def topT (tb : String → Option Builtin) (p : Program) (w : World) (n₀ : Nat) (ann : Option Value) : Nat → SharedT → Thread → Option SharedT
  | 0, _, _ => none
  | n + 1, s, t => match through t with
    | true => some s
    | false => match stepOk n₀ ann t with
      | false => none
      | true => match stepT (denote tb) p w s t with
        | some (s', t') => topT tb p w n₀ ann n s' t'
        | none => none
theorem topT_of {tb : String → Option Builtin} {p : Program} {w : World} {n₀ : Nat} {ann : Option Value} : ∀ {n : Nat} {s s' : SharedT} {t : Thread}, topT tb p w n₀ ann n s t = some s' → topRun tb p w n₀ ann n s.abs t = some s'.abs
  | 0, _, _, _, h => by cases h
  | n + 1, s, s', t, h => by
    unfold topT at h
    unfold topRun
    cases he : through t with
    | true => rw [he] at h; cases h; rfl
    | false =>
      rw [he] at h
      cases hk : stepOk n₀ ann t with
      | false => rw [hk] at h; cases h
      | true =>
        rw [hk] at h
        cases hs : stepT (denote tb) p w s t with
        | none => rw [hs] at h; cases h
        | some r => obtain ⟨s₂, t₂⟩ := r; rw [hs] at h; rw [stepT_spec hs]; exact topT_of h
/-- what is looked at behind the top -/
noncomputable def lookA (p : Program) (h₀ : Heap) (s : Shared) : Bool := staticsOk (importedModules p.main.body) h₀ s.heap && namesBound p s.heap && gensDone s && laidKept h₀ s.heap
theorem left_of_tree {p q : Program} {loose : List Str} {Xt : Shared → Bool} {α : Type} {Yf : Shared → α} {Ya : World → α} {N : Nat} {g0 : Bool} {T₀ : Params → BT} {nb M m₀ : Nat} {ann : Option Value} {life : Life}
    (open_ : ∀ w : World, (fencedOpening treeTable p w N).map (fun s => (s.heap, s.gens, s.drawn, s.toks)) = some (boot_heap w.params, Array.mk [], boot_drawn, boot_toks))
    (tree : ∀ w : World, absHeap (T₀ w.params) nb life = boot_heap w.params)
    (size : ∀ w : World, ((boot_heap w.params).isNs mainGlobals && Nat.beq (Array.mk ([] : List GenState)).size 0, (boot_heap w.params).objs.size, (boot_heap w.params).nsMap mainGlobals "__annotations__") = (true, m₀, ann))
    (le : Nat.ble M N = true)
    (run : ∀ (w : World) (os : OsState), (topT treeTable p w m₀ ann M ⟨T₀ w.params, nb, life, Array.mk [], boot_drawn, boot_toks, os⟩ (topStub p)).map (fun s => (lookA p (boot_heap w.params) s.abs, openSeen q loose (importedModules p.main.body) Xt g0 s.abs, Yf s.abs)) = some (true, openGood q loose, Ya w)) :
    LeftO p q loose Xt Yf Ya N g0 := fun w => by
  obtain ⟨⟨h, gs, d, k, os⟩, e, e'⟩ := Option.map_eq_some_iff.mp (open_ w)
  obtain ⟨rfl, rfl, rfl, rfl⟩ : h = boot_heap w.params ∧ gs = Array.mk [] ∧ d = boot_drawn ∧ k = boot_toks := by simpa using e'
  obtain ⟨z1, z2, z3⟩ : _ ∧ _ ∧ _ := by simpa only [Prod.mk.injEq] using size w
  obtain ⟨s, hs, hv⟩ := Option.map_eq_some_iff.mp (run w os)
  obtain ⟨l1, l2⟩ := Prod.mk.inj hv
  have r0 := topT_of hs
  have r1 : topRun treeTable p w m₀ ann M ⟨boot_heap w.params, Array.mk [], boot_drawn, boot_toks, os⟩ (topStub p) = some s.abs := by
    rw [← r0]; unfold SharedT.abs; dsimp only; rw [tree w]
  have r := topRun_mono (N - M) _ _ _ _ r1
  rw [show M + (N - M) = N by have := Nat.le_of_ble_eq_true le; omega] at r
  have t : topFrom treeTable p w N ⟨boot_heap w.params, Array.mk [], boot_drawn, boot_toks, os⟩ = some s.abs := by
    unfold topFrom
    dsimp only
    rw [show ((boot_heap w.params).isNs mainGlobals && (Array.mk ([] : List GenState)).size == 0) = true from z1, z2, z3, r]
    show (match lookA p (boot_heap w.params) s.abs with | true => _ | false => _) = _
    rw [l1]
  unfold openEnds
  rw [e]
  show (topFrom treeTable p w N _).map _ = _
  rw [t]
  exact congrArg some l2

/-! ## HeadK -/
@[reducible] noncomputable def cell (i : Nat) : Option Stmt := PySem.Challenge.pw_tk0103_01.main.body[i]?
@[reducible] noncomputable def inCls (s : Option Stmt) (j : Nat) : Option Stmt := match s with
  | some (.ClassDef _ _ _ b _ _ _ _ _ _ _) => b[j]?
  | _ => none
/-- a def's object: its parts are what the program's own text holds there -/
@[reducible] noncomputable def fnO {nm : Str} {ps : Arguments} {b : List Stmt} {ds : List PySem.Expr} {rt : Option PySem.Expr} {tp : List TypeParam} {sc : Scope} {ts : Option Scope} {bn : Str} {po : Pos} (qn : Str) (st : Option Stmt)
    (_h : st = some (Stmt.FunctionDef nm ps b ds rt tp sc ts bn po)) (m : Str) (mt : Tok) (code : Addr) : Obj :=
  { cls := Value.type "function", data := Data.func { name := nm, qualname := qn, params := ps, body := FuncBody.stmts b, scope := sc, globals := 3, closure := [], defaults := Value.none, kwdefaults := Value.none, pyModule := Value.str m mt, code := Value.ref code } }
noncomputable def hd.heap_39 : Params → Frag := fun P =>
  (nat_lit 2, { cls := Value.none, data := Data.dict #[{ hash := PyData.keyHash P (Str.ofString "type.__subclasses__.Exception.0"), key := Value.str (Str.ofString "type.__subclasses__.Exception.0") 223, val := Value.int 38 0 }, { hash := PyData.keyHash P (Str.ofString "type.__subclasses__.Exception.n"), key := Value.str (Str.ofString "type.__subclasses__.Exception.n") 224, val := Value.int 2 0 }, { hash := PyData.keyHash P (Str.ofString "type.__subclasses__.Exception.1"), key := Value.str (Str.ofString "type.__subclasses__.Exception.1") 252, val := Value.int 58 0 }] 3 }) ::
  (nat_lit 3, { cls := Value.type "dict", data := Data.dict #[{ hash := PyData.keyHash P (Str.ofString "__name__"), key := Value.str (Str.ofString "__name__") 165, val := Value.str (Str.ofString "law_tk0103_01") 849 }, { hash := PyData.keyHash P (Str.ofString "__doc__"), key := Value.str (Str.ofString "__doc__") 166, val := Value.none }, { hash := PyData.keyHash P (Str.ofString "__package__"), key := Value.str (Str.ofString "__package__") 167, val := Value.none }, { hash := PyData.keyHash P (Str.ofString "__loader__"), key := Value.str (Str.ofString "__loader__") 168, val := Value.builtin "__main__.__loader__#opaque" }, { hash := PyData.keyHash P (Str.ofString "__spec__"), key := Value.str (Str.ofString "__spec__") 169, val := Value.none }, { hash := PyData.keyHash P (Str.ofString "__annotations__"), key := Value.str (Str.ofString "__annotations__") 170, val := Value.ref 6 }, { hash := PyData.keyHash P (Str.ofString "__builtins__"), key := Value.str (Str.ofString "__builtins__") 171, val := Value.ref 4 }, { hash := PyData.keyHash P (Str.ofString "__file__"), key := Value.str (Str.ofString "__file__") 173, val := Value.str (Str.ofString "/claim/cut.py") 172 }, { hash := PyData.keyHash P (Str.ofString "__cached__"), key := Value.str (Str.ofString "__cached__") 174, val := Value.none }, { hash := PyData.keyHash P (Str.ofString "_wall"), key := Value.str (Str.ofString "_wall") 193, val := Value.ref 21 }, { hash := PyData.keyHash P (Str.ofString "QpackError"), key := Value.str (Str.ofString "QpackError") 226, val := Value.ref 38 }, { hash := PyData.keyHash P (Str.ofString "Short"), key := Value.str (Str.ofString "Short") 255, val := Value.ref 58 }, { hash := PyData.keyHash P (Str.ofString "GREATEST"), key := Value.str (Str.ofString "GREATEST") 263, val := Value.int 4611686018427387903 262 }, { hash := PyData.keyHash P (Str.ofString "DECOMPRESSION_FAILED"), key := Value.str (Str.ofString "DECOMPRESSION_FAILED") 265, val := Value.int 512 264 }, { hash := PyData.keyHash P (Str.ofString "get_prefix"), key := Value.str (Str.ofString "get_prefix") 277, val := Value.ref 68 }, { hash := PyData.keyHash P (Str.ofString "get_text"), key := Value.str (Str.ofString "get_text") 287, val := Value.ref 75 }, { hash := PyData.keyHash P (Str.ofString "ROW_LEAST"), key := Value.str (Str.ofString "ROW_LEAST") 291, val := Value.int 32 290 }, { hash := PyData.keyHash P (Str.ofString "most_rows"), key := Value.str (Str.ofString "most_rows") 298, val := Value.ref 82 }, { hash := PyData.keyHash P (Str.ofString "restore_count"), key := Value.str (Str.ofString "restore_count") 310, val := Value.ref 89 }, { hash := PyData.keyHash P (Str.ofString "get_head"), key := Value.str (Str.ofString "get_head") 325, val := Value.ref 96 }, { hash := PyData.keyHash P (Str.ofString "NEVER_NAMED"), key := Value.str (Str.ofString "NEVER_NAMED") 329, val := Value.int 32 328 }, { hash := PyData.keyHash P (Str.ofString "NEVER_POST"), key := Value.str (Str.ofString "NEVER_POST") 331, val := Value.int 8 330 }, { hash := PyData.keyHash P (Str.ofString "NEVER_LITERAL"), key := Value.str (Str.ofString "NEVER_LITERAL") 333, val := Value.int 16 332 }, { hash := PyData.keyHash P (Str.ofString "get_line"), key := Value.str (Str.ofString "get_line") 345, val := Value.ref 103 }, { hash := PyData.keyHash P (Str.ofString "get_change"), key := Value.str (Str.ofString "get_change") 357, val := Value.ref 110 }, { hash := PyData.keyHash P (Str.ofString "STATIC_ROWS"), key := Value.str (Str.ofString "STATIC_ROWS") 558, val := Value.ref 210 }, { hash := PyData.keyHash P (Str.ofString "static_row"), key := Value.str (Str.ofString "static_row") 565, val := Value.ref 217 }, { hash := PyData.keyHash P (Str.ofString "OVERHEAD"), key := Value.str (Str.ofString "OVERHEAD") 569, val := Value.int 32 568 }, { hash := PyData.keyHash P (Str.ofString "row_size"), key := Value.str (Str.ofString "row_size") 577, val := Value.ref 224 }, { hash := PyData.keyHash P (Str.ofString "DynamicTable"), key := Value.str (Str.ofString "DynamicTable") 674, val := Value.ref 290 }, { hash := PyData.keyHash P (Str.ofString "ENCODER_STREAM_ERROR"), key := Value.str (Str.ofString "ENCODER_STREAM_ERROR") 678, val := Value.int 513 677 }, { hash := PyData.keyHash P (Str.ofString "told_row"), key := Value.str (Str.ofString "told_row") 686, val := Value.ref 301 }, { hash := PyData.keyHash P (Str.ofString "section_fields"), key := Value.str (Str.ofString "section_fields") 699, val := Value.ref 308 }, { hash := PyData.keyHash P (Str.ofString "field_of"), key := Value.str (Str.ofString "field_of") 714, val := Value.ref 315 }, { hash := PyData.keyHash P (Str.ofString "Decoder"), key := Value.str (Str.ofString "Decoder") 848, val := Value.ref 402 }, { hash := PyData.keyHash P (Str.ofString "_law_drawn"), key := Value.str (Str.ofString "_law_drawn") 858, val := Value.ref 413 }, { hash := PyData.keyHash P (Str.ofString "_law_text"), key := Value.str (Str.ofString "_law_text") 865, val := Value.ref 420 }, { hash := PyData.keyHash P (Str.ofString "_law_put"), key := Value.str (Str.ofString "_law_put") 871, val := Value.ref 425 }, { hash := PyData.keyHash P (Str.ofString "_law_word"), key := Value.str (Str.ofString "_law_word") 877, val := Value.ref 430 }, { hash := PyData.keyHash P (Str.ofString "_law_wrong"), key := Value.str (Str.ofString "_law_wrong") 890, val := Value.ref 437 }, { hash := PyData.keyHash P (Str.ofString "_law_is_heard"), key := Value.str (Str.ofString "_law_is_heard") 896, val := Value.ref 442 }, { hash := PyData.keyHash P (Str.ofString "law"), key := Value.str (Str.ofString "law") 902, val := Value.ref 447 }] 42 }) ::
  (nat_lit 15, { cls := Value.type "tuple", data := Data.seq #[] }) ::
  (nat_lit 17, { cls := Value.type "tuple", data := Data.seq #[Value.str (Str.ofString "k") 190] }) ::
  (nat_lit 18, { cls := Value.type "tuple", data := Data.seq #[] }) ::
  (nat_lit 20, { cls := Value.type "code", data := Data.fields #[Value.str (Str.ofString "_wall") 187, Value.str (Str.ofString "_wall") 188, Value.str (Str.ofString "/claim/cut.py") 189, Value.int 1 0, Value.int 1 0, Value.int 0 0, Value.int 0 0, Value.int 3 0, Value.ref 15, Value.bool true, Value.int 181 0, Value.ref 16, Value.none, Value.ref 17, Value.ref 18, Value.ref 19, Value.int 191 0, Value.int 1 0, Value.str (Str.ofString "/claim/cut.py") 192] }) ::
  (nat_lit 22, { cls := Value.type "tuple", data := Data.seq #[Value.type "Exception"] }) ::
  (nat_lit 29, { cls := Value.type "tuple", data := Data.seq #[] }) ::
  (nat_lit 31, { cls := Value.type "tuple", data := Data.seq #[Value.str (Str.ofString "self") 211, Value.str (Str.ofString "code") 212, Value.str (Str.ofString "text") 213] }) ::
  (nat_lit 32, { cls := Value.type "tuple", data := Data.seq #[] }) ::
  (nat_lit 34, { cls := Value.type "code", data := Data.fields #[Value.str (Str.ofString "__init__") 208, Value.str (Str.ofString "QpackError.__init__") 209, Value.str (Str.ofString "/claim/cut.py") 210, Value.int 7 0, Value.int 3 0, Value.int 0 0, Value.int 0 0, Value.int 3 0, Value.ref 29, Value.bool true, Value.int 181 0, Value.ref 30, Value.none, Value.ref 31, Value.ref 32, Value.ref 33, Value.int 214 0, Value.int 7 0, Value.str (Str.ofString "/claim/cut.py") 215] }) ::
  (nat_lit 35, fnO (nm := Str.ofString "__init__") (Str.ofString "QpackError.__init__") (inCls (cell 2) 0) rfl (Str.ofString "quic.errors") 194 (nat_lit 34)) ::
  (nat_lit 36, { cls := Value.type "tuple", data := Data.seq #[Value.str (Str.ofString "code") 217, Value.str (Str.ofString "text") 218] }) ::
  (nat_lit 37, { cls := Value.type "dict", data := Data.dict #[{ hash := PyData.keyHash P (Str.ofString "__module__"), key := Value.str (Str.ofString "__module__") 203, val := Value.str (Str.ofString "quic.errors") 194 }, { hash := PyData.keyHash P (Str.ofString "__firstlineno__"), key := Value.str (Str.ofString "__firstlineno__") 207, val := Value.int 5 206 }, { hash := PyData.keyHash P (Str.ofString "__init__"), key := Value.str (Str.ofString "__init__") 216, val := Value.ref 35 }, { hash := PyData.keyHash P (Str.ofString "__static_attributes__"), key := Value.str (Str.ofString "__static_attributes__") 219, val := Value.ref 36 }, { hash := PyData.keyHash P (Str.ofString "__weakref__"), key := Value.str (Str.ofString "__weakref__") 221, val := Value.ref 39 }, { hash := PyData.keyHash P (Str.ofString "__doc__"), key := Value.str (Str.ofString "__doc__") 222, val := Value.none }] 3 }) ::
  (nat_lit 38, { cls := Value.type "type", data := Data.cls { name := Str.ofString "QpackError", bases := [Value.type "Exception"], mro := [Value.ref 38, Value.type "Exception", Value.type "BaseException", Value.type "object"], ns := 37, qualname := Str.ofString "QpackError" }, slots := #[some (Value.ref 22), none, some (Value.str (Str.ofString "QpackError") 196), some (Value.str (Str.ofString "QpackError") 204), some (Value.builtin "Exception.__new__"), some (Value.bool true)] }) ::
  (nat_lit 39, { cls := Value.type "getset_descriptor", data := Data.fields #[Value.str (Str.ofString "__weakref__") 220, Value.ref 38, Value.builtin "ExceptionGroup.__weakref__", Value.none] }) ::
  (nat_lit 42, { cls := Value.type "tuple", data := Data.seq #[Value.type "Exception"] }) ::
  (nat_lit 49, { cls := Value.type "tuple", data := Data.seq #[] }) ::
  (nat_lit 51, { cls := Value.type "tuple", data := Data.seq #[Value.str (Str.ofString "self") 242, Value.str (Str.ofString "text") 243] }) ::
  (nat_lit 52, { cls := Value.type "tuple", data := Data.seq #[] }) ::
  (nat_lit 54, { cls := Value.type "code", data := Data.fields #[Value.str (Str.ofString "__init__") 239, Value.str (Str.ofString "Short.__init__") 240, Value.str (Str.ofString "/claim/cut.py") 241, Value.int 13 0, Value.int 2 0, Value.int 0 0, Value.int 0 0, Value.int 3 0, Value.ref 49, Value.bool true, Value.int 181 0, Value.ref 50, Value.none, Value.ref 51, Value.ref 52, Value.ref 53, Value.int 244 0, Value.int 13 0, Value.str (Str.ofString "/claim/cut.py") 245] }) ::
  (nat_lit 55, fnO (nm := Str.ofString "__init__") (Str.ofString "Short.__init__") (inCls (cell 3) 0) rfl (Str.ofString "quic.errors") 194 (nat_lit 54)) ::
  (nat_lit 56, { cls := Value.type "tuple", data := Data.seq #[Value.str (Str.ofString "text") 247] }) ::
  (nat_lit 57, { cls := Value.type "dict", data := Data.dict #[{ hash := PyData.keyHash P (Str.ofString "__module__"), key := Value.str (Str.ofString "__module__") 234, val := Value.str (Str.ofString "quic.errors") 194 }, { hash := PyData.keyHash P (Str.ofString "__firstlineno__"), key := Value.str (Str.ofString "__firstlineno__") 238, val := Value.int 11 237 }, { hash := PyData.keyHash P (Str.ofString "__init__"), key := Value.str (Str.ofString "__init__") 246, val := Value.ref 55 }, { hash := PyData.keyHash P (Str.ofString "__static_attributes__"), key := Value.str (Str.ofString "__static_attributes__") 248, val := Value.ref 56 }, { hash := PyData.keyHash P (Str.ofString "__weakref__"), key := Value.str (Str.ofString "__weakref__") 250, val := Value.ref 59 }, { hash := PyData.keyHash P (Str.ofString "__doc__"), key := Value.str (Str.ofString "__doc__") 251, val := Value.none }] 3 }) ::
  (nat_lit 58, { cls := Value.type "type", data := Data.cls { name := Str.ofString "Short", bases := [Value.type "Exception"], mro := [Value.ref 58, Value.type "Exception", Value.type "BaseException", Value.type "object"], ns := 57, qualname := Str.ofString "Short" }, slots := #[some (Value.ref 42), none, some (Value.str (Str.ofString "Short") 227), some (Value.str (Str.ofString "Short") 235), some (Value.builtin "Exception.__new__"), some (Value.bool true)] }) ::
  (nat_lit 59, { cls := Value.type "getset_descriptor", data := Data.fields #[Value.str (Str.ofString "__weakref__") 249, Value.ref 58, Value.builtin "ExceptionGroup.__weakref__", Value.none] }) ::
  (nat_lit 62, { cls := Value.type "tuple", data := Data.seq #[] }) ::
  (nat_lit 64, { cls := Value.type "tuple", data := Data.seq #[Value.str (Str.ofString "data") 269, Value.str (Str.ofString "at") 270, Value.str (Str.ofString "bits") 271, Value.str (Str.ofString "most") 272, Value.str (Str.ofString "found") 273, Value.str (Str.ofString "shift") 274] }) ::
  (nat_lit 65, { cls := Value.type "tuple", data := Data.seq #[] }) ::
  (nat_lit 67, { cls := Value.type "code", data := Data.fields #[Value.str (Str.ofString "get_prefix") 266, Value.str (Str.ofString "get_prefix") 267, Value.str (Str.ofString "/claim/cut.py") 268, Value.int 19 0, Value.int 3 0, Value.int 0 0, Value.int 0 0, Value.int 3 0, Value.ref 62, Value.bool true, Value.int 181 0, Value.ref 63, Value.none, Value.ref 64, Value.ref 65, Value.ref 66, Value.int 275 0, Value.int 19 0, Value.str (Str.ofString "/claim/cut.py") 276] }) ::
  (nat_lit 68, fnO (nm := Str.ofString "get_prefix") (Str.ofString "get_prefix") (cell 7) rfl (Str.ofString "quic.qpackints") 256 (nat_lit 67)) ::
  (nat_lit 69, { cls := Value.type "tuple", data := Data.seq #[] }) ::
  (nat_lit 71, { cls := Value.type "tuple", data := Data.seq #[Value.str (Str.ofString "data") 281, Value.str (Str.ofString "at") 282, Value.str (Str.ofString "bits") 283, Value.str (Str.ofString "size") 284] }) ::
  (nat_lit 72, { cls := Value.type "tuple", data := Data.seq #[] }) ::
  (nat_lit 74, { cls := Value.type "code", data := Data.fields #[Value.str (Str.ofString "get_text") 278, Value.str (Str.ofString "get_text") 279, Value.str (Str.ofString "/claim/cut.py") 280, Value.int 36 0, Value.int 3 0, Value.int 0 0, Value.int 0 0, Value.int 3 0, Value.ref 69, Value.bool true, Value.int 181 0, Value.ref 70, Value.none, Value.ref 71, Value.ref 72, Value.ref 73, Value.int 285 0, Value.int 36 0, Value.str (Str.ofString "/claim/cut.py") 286] }) ::
  (nat_lit 75, fnO (nm := Str.ofString "get_text") (Str.ofString "get_text") (cell 8) rfl (Str.ofString "quic.qpackints") 256 (nat_lit 74)) ::
  (nat_lit 76, { cls := Value.type "tuple", data := Data.seq #[] }) ::
  (nat_lit 78, { cls := Value.type "tuple", data := Data.seq #[Value.str (Str.ofString "greatest_capacity") 295] }) ::
  (nat_lit 79, { cls := Value.type "tuple", data := Data.seq #[] }) ::
  (nat_lit 81, { cls := Value.type "code", data := Data.fields #[Value.str (Str.ofString "most_rows") 292, Value.str (Str.ofString "most_rows") 293, Value.str (Str.ofString "/claim/cut.py") 294, Value.int 45 0, Value.int 1 0, Value.int 0 0, Value.int 0 0, Value.int 3 0, Value.ref 76, Value.bool true, Value.int 181 0, Value.ref 77, Value.none, Value.ref 78, Value.ref 79, Value.ref 80, Value.int 296 0, Value.int 45 0, Value.str (Str.ofString "/claim/cut.py") 297] }) ::
  (nat_lit 83, { cls := Value.type "tuple", data := Data.seq #[] }) ::
  (nat_lit 85, { cls := Value.type "tuple", data := Data.seq #[Value.str (Str.ofString "sent") 302, Value.str (Str.ofString "greatest_capacity") 303, Value.str (Str.ofString "inserted") 304, Value.str (Str.ofString "full") 305, Value.str (Str.ofString "most") 306, Value.str (Str.ofString "found") 307] }) ::
  (nat_lit 86, { cls := Value.type "tuple", data := Data.seq #[] }) ::
  (nat_lit 88, { cls := Value.type "code", data := Data.fields #[Value.str (Str.ofString "restore_count") 299, Value.str (Str.ofString "restore_count") 300, Value.str (Str.ofString "/claim/cut.py") 301, Value.int 47 0, Value.int 3 0, Value.int 0 0, Value.int 0 0, Value.int 3 0, Value.ref 83, Value.bool true, Value.int 181 0, Value.ref 84, Value.none, Value.ref 85, Value.ref 86, Value.ref 87, Value.int 308 0, Value.int 47 0, Value.str (Str.ofString "/claim/cut.py") 309] }) ::
  (nat_lit 90, { cls := Value.type "tuple", data := Data.seq #[] }) ::
  (nat_lit 92, { cls := Value.type "tuple", data := Data.seq #[Value.str (Str.ofString "data") 314, Value.str (Str.ofString "greatest_capacity") 315, Value.str (Str.ofString "inserted") 316, Value.str (Str.ofString "sent") 317, Value.str (Str.ofString "at") 318, Value.str (Str.ofString "count") 319, Value.str (Str.ofString "is_below") 320, Value.str (Str.ofString "apart") 321, Value.str (Str.ofString "base") 322] }) ::
  (nat_lit 93, { cls := Value.type "tuple", data := Data.seq #[] }) ::
  (nat_lit 95, { cls := Value.type "code", data := Data.fields #[Value.str (Str.ofString "get_head") 311, Value.str (Str.ofString "get_head") 312, Value.str (Str.ofString "/claim/cut.py") 313, Value.int 62 0, Value.int 3 0, Value.int 0 0, Value.int 0 0, Value.int 3 0, Value.ref 90, Value.bool true, Value.int 181 0, Value.ref 91, Value.none, Value.ref 92, Value.ref 93, Value.ref 94, Value.int 323 0, Value.int 62 0, Value.str (Str.ofString "/claim/cut.py") 324] }) ::
  (nat_lit 97, { cls := Value.type "tuple", data := Data.seq #[] }) ::
  (nat_lit 99, { cls := Value.type "tuple", data := Data.seq #[Value.str (Str.ofString "data") 337, Value.str (Str.ofString "at") 338, Value.str (Str.ofString "first") 339, Value.str (Str.ofString "number") 340, Value.str (Str.ofString "value") 341, Value.str (Str.ofString "name") 342] }) ::
  (nat_lit 100, { cls := Value.type "tuple", data := Data.seq #[] }) ::
  (nat_lit 102, { cls := Value.type "code", data := Data.fields #[Value.str (Str.ofString "get_line") 334, Value.str (Str.ofString "get_line") 335, Value.str (Str.ofString "/claim/cut.py") 336, Value.int 75 0, Value.int 2 0, Value.int 0 0, Value.int 0 0, Value.int 3 0, Value.ref 97, Value.bool true, Value.int 181 0, Value.ref 98, Value.none, Value.ref 99, Value.ref 100, Value.ref 101, Value.int 343 0, Value.int 75 0, Value.str (Str.ofString "/claim/cut.py") 344] }) ::
  (nat_lit 104, { cls := Value.type "tuple", data := Data.seq #[] }) ::
  (nat_lit 106, { cls := Value.type "tuple", data := Data.seq #[Value.str (Str.ofString "data") 349, Value.str (Str.ofString "at") 350, Value.str (Str.ofString "first") 351, Value.str (Str.ofString "number") 352, Value.str (Str.ofString "value") 353, Value.str (Str.ofString "name") 354] }) ::
  (nat_lit 107, { cls := Value.type "tuple", data := Data.seq #[] }) ::
  (nat_lit 109, { cls := Value.type "code", data := Data.fields #[Value.str (Str.ofString "get_change") 346, Value.str (Str.ofString "get_change") 347, Value.str (Str.ofString "/claim/cut.py") 348, Value.int 94 0, Value.int 2 0, Value.int 0 0, Value.int 0 0, Value.int 3 0, Value.ref 104, Value.bool true, Value.int 181 0, Value.ref 105, Value.none, Value.ref 106, Value.ref 107, Value.ref 108, Value.int 355 0, Value.int 94 0, Value.str (Str.ofString "/claim/cut.py") 356] }) ::
  (nat_lit 110, fnO (nm := Str.ofString "get_change") (Str.ofString "get_change") (cell 19) rfl (Str.ofString "quic.qlines") 326 (nat_lit 109)) ::
  (nat_lit 112, { cls := Value.type "tuple", data := Data.seq #[Value.bytes #[58, 112, 97, 116, 104] 362, Value.bytes #[47] 363] }) ::
  (nat_lit 113, { cls := Value.type "tuple", data := Data.seq #[Value.bytes #[97, 103, 101] 364, Value.bytes #[48] 365] }) ::
  (nat_lit 116, { cls := Value.type "tuple", data := Data.seq #[Value.bytes #[99, 111, 111, 107, 105, 101] 370, Value.bytes #[] 371] }) ::
  (nat_lit 210, { cls := Value.type "list", data := Data.seq #[Value.ref 111, Value.ref 112, Value.ref 113, Value.ref 114, Value.ref 115, Value.ref 116, Value.ref 117, Value.ref 118, Value.ref 119, Value.ref 120, Value.ref 121, Value.ref 122, Value.ref 123, Value.ref 124, Value.ref 125, Value.ref 126, Value.ref 127, Value.ref 128, Value.ref 129, Value.ref 130, Value.ref 131, Value.ref 132, Value.ref 133, Value.ref 134, Value.ref 135, Value.ref 136, Value.ref 137, Value.ref 138, Value.ref 139, Value.ref 140, Value.ref 141, Value.ref 142, Value.ref 143, Value.ref 144, Value.ref 145, Value.ref 146, Value.ref 147, Value.ref 148, Value.ref 149, Value.ref 150, Value.ref 151, Value.ref 152, Value.ref 153, Value.ref 154, Value.ref 155, Value.ref 156, Value.ref 157, Value.ref 158, Value.ref 159, Value.ref 160, Value.ref 161, Value.ref 162, Value.ref 163, Value.ref 164, Value.ref 165, Value.ref 166, Value.ref 167, Value.ref 168, Value.ref 169, Value.ref 170, Value.ref 171, Value.ref 172, Value.ref 173, Value.ref 174, Value.ref 175, Value.ref 176, Value.ref 177, Value.ref 178, Value.ref 179, Value.ref 180, Value.ref 181, Value.ref 182, Value.ref 183, Value.ref 184, Value.ref 185, Value.ref 186, Value.ref 187, Value.ref 188, Value.ref 189, Value.ref 190, Value.ref 191, Value.ref 192, Value.ref 193, Value.ref 194, Value.ref 195, Value.ref 196, Value.ref 197, Value.ref 198, Value.ref 199, Value.ref 200, Value.ref 201, Value.ref 202, Value.ref 203, Value.ref 204, Value.ref 205, Value.ref 206, Value.ref 207, Value.ref 208, Value.ref 209] }) ::
  (nat_lit 211, { cls := Value.type "tuple", data := Data.seq #[] }) ::
  (nat_lit 213, { cls := Value.type "tuple", data := Data.seq #[Value.str (Str.ofString "index") 562] }) ::
  (nat_lit 214, { cls := Value.type "tuple", data := Data.seq #[] }) ::
  (nat_lit 216, { cls := Value.type "code", data := Data.fields #[Value.str (Str.ofString "static_row") 559, Value.str (Str.ofString "static_row") 560, Value.str (Str.ofString "/claim/cut.py") 561, Value.int 108 0, Value.int 1 0, Value.int 0 0, Value.int 0 0, Value.int 3 0, Value.ref 211, Value.bool true, Value.int 181 0, Value.ref 212, Value.none, Value.ref 213, Value.ref 214, Value.ref 215, Value.int 563 0, Value.int 108 0, Value.str (Str.ofString "/claim/cut.py") 564] }) ::
  (nat_lit 217, fnO (nm := Str.ofString "static_row") (Str.ofString "static_row") (cell 22) rfl (Str.ofString "quic.qstatic") 358 (nat_lit 216)) ::
  (nat_lit 218, { cls := Value.type "tuple", data := Data.seq #[] }) ::
  (nat_lit 220, { cls := Value.type "tuple", data := Data.seq #[Value.str (Str.ofString "name") 573, Value.str (Str.ofString "value") 574] }) ::
  (nat_lit 221, { cls := Value.type "tuple", data := Data.seq #[] }) ::
  (nat_lit 223, { cls := Value.type "code", data := Data.fields #[Value.str (Str.ofString "row_size") 570, Value.str (Str.ofString "row_size") 571, Value.str (Str.ofString "/claim/cut.py") 572, Value.int 112 0, Value.int 2 0, Value.int 0 0, Value.int 0 0, Value.int 3 0, Value.ref 218, Value.bool true, Value.int 181 0, Value.ref 219, Value.none, Value.ref 220, Value.ref 221, Value.ref 222, Value.int 575 0, Value.int 112 0, Value.str (Str.ofString "/claim/cut.py") 576] }) ::
  (nat_lit 224, fnO (nm := Str.ofString "row_size") (Str.ofString "row_size") (cell 25) rfl (Str.ofString "quic.qtable") 566 (nat_lit 223)) ::
  (nat_lit 232, { cls := Value.type "tuple", data := Data.seq #[] }) ::
  (nat_lit 234, { cls := Value.type "tuple", data := Data.seq #[Value.str (Str.ofString "self") 593, Value.str (Str.ofString "greatest_capacity") 594] }) ::
  (nat_lit 235, { cls := Value.type "tuple", data := Data.seq #[] }) ::
  (nat_lit 237, { cls := Value.type "code", data := Data.fields #[Value.str (Str.ofString "__init__") 590, Value.str (Str.ofString "DynamicTable.__init__") 591, Value.str (Str.ofString "/claim/cut.py") 592, Value.int 116 0, Value.int 2 0, Value.int 0 0, Value.int 0 0, Value.int 3 0, Value.ref 232, Value.bool true, Value.int 181 0, Value.ref 233, Value.none, Value.ref 234, Value.ref 235, Value.ref 236, Value.int 595 0, Value.int 116 0, Value.str (Str.ofString "/claim/cut.py") 596] }) ::
  (nat_lit 238, fnO (nm := Str.ofString "__init__") (Str.ofString "DynamicTable.__init__") (inCls (cell 26) 0) rfl (Str.ofString "quic.qtable") 566 (nat_lit 237)) ::
  (nat_lit 239, { cls := Value.type "tuple", data := Data.seq #[] }) ::
  (nat_lit 241, { cls := Value.type "tuple", data := Data.seq #[Value.str (Str.ofString "self") 601] }) ::
  (nat_lit 242, { cls := Value.type "tuple", data := Data.seq #[] }) ::
  (nat_lit 244, { cls := Value.type "code", data := Data.fields #[Value.str (Str.ofString "oldest") 598, Value.str (Str.ofString "DynamicTable.oldest") 599, Value.str (Str.ofString "/claim/cut.py") 600, Value.int 123 0, Value.int 1 0, Value.int 0 0, Value.int 0 0, Value.int 3 0, Value.ref 239, Value.bool true, Value.int 181 0, Value.ref 240, Value.none, Value.ref 241, Value.ref 242, Value.ref 243, Value.int 602 0, Value.int 123 0, Value.str (Str.ofString "/claim/cut.py") 603] }) ::
  (nat_lit 245, fnO (nm := Str.ofString "oldest") (Str.ofString "DynamicTable.oldest") (inCls (cell 26) 1) rfl (Str.ofString "quic.qtable") 566 (nat_lit 244)) ::
  (nat_lit 246, { cls := Value.type "tuple", data := Data.seq #[] }) ::
  (nat_lit 248, { cls := Value.type "tuple", data := Data.seq #[Value.str (Str.ofString "self") 608, Value.str (Str.ofString "number") 609] }) ::
  (nat_lit 249, { cls := Value.type "tuple", data := Data.seq #[] }) ::
  (nat_lit 251, { cls := Value.type "code", data := Data.fields #[Value.str (Str.ofString "row_at") 605, Value.str (Str.ofString "DynamicTable.row_at") 606, Value.str (Str.ofString "/claim/cut.py") 607, Value.int 126 0, Value.int 2 0, Value.int 0 0, Value.int 0 0, Value.int 3 0, Value.ref 246, Value.bool true, Value.int 181 0, Value.ref 247, Value.none, Value.ref 248, Value.ref 249, Value.ref 250, Value.int 610 0, Value.int 126 0, Value.str (Str.ofString "/claim/cut.py") 611] }) ::
  (nat_lit 252, fnO (nm := Str.ofString "row_at") (Str.ofString "DynamicTable.row_at") (inCls (cell 26) 2) rfl (Str.ofString "quic.qtable") 566 (nat_lit 251)) ::
  (nat_lit 253, { cls := Value.type "tuple", data := Data.seq #[] }) ::
  (nat_lit 255, { cls := Value.type "tuple", data := Data.seq #[Value.str (Str.ofString "self") 616, Value.str (Str.ofString "wanted") 617, Value.str (Str.ofString "number") 618, Value.str (Str.ofString "size") 619, Value.str (Str.ofString "name") 620, Value.str (Str.ofString "value") 621] }) ::
  (nat_lit 256, { cls := Value.type "tuple", data := Data.seq #[] }) ::
  (nat_lit 258, { cls := Value.type "code", data := Data.fields #[Value.str (Str.ofString "last_to_go") 613, Value.str (Str.ofString "DynamicTable.last_to_go") 614, Value.str (Str.ofString "/claim/cut.py") 615, Value.int 131 0, Value.int 2 0, Value.int 0 0, Value.int 0 0, Value.int 3 0, Value.ref 253, Value.bool true, Value.int 181 0, Value.ref 254, Value.none, Value.ref 255, Value.ref 256, Value.ref 257, Value.int 622 0, Value.int 131 0, Value.str (Str.ofString "/claim/cut.py") 623] }) ::
  (nat_lit 259, fnO (nm := Str.ofString "last_to_go") (Str.ofString "DynamicTable.last_to_go") (inCls (cell 26) 3) rfl (Str.ofString "quic.qtable") 566 (nat_lit 258)) ::
  (nat_lit 260, { cls := Value.type "tuple", data := Data.seq #[] }) ::
  (nat_lit 262, { cls := Value.type "tuple", data := Data.seq #[Value.str (Str.ofString "self") 628, Value.str (Str.ofString "number") 629, Value.str (Str.ofString "name") 630, Value.str (Str.ofString "value") 631] }) ::
  (nat_lit 263, { cls := Value.type "tuple", data := Data.seq #[] }) ::
  (nat_lit 265, { cls := Value.type "code", data := Data.fields #[Value.str (Str.ofString "drop_below") 625, Value.str (Str.ofString "DynamicTable.drop_below") 626, Value.str (Str.ofString "/claim/cut.py") 627, Value.int 139 0, Value.int 2 0, Value.int 0 0, Value.int 0 0, Value.int 3 0, Value.ref 260, Value.bool true, Value.int 181 0, Value.ref 261, Value.none, Value.ref 262, Value.ref 263, Value.ref 264, Value.int 632 0, Value.int 139 0, Value.str (Str.ofString "/claim/cut.py") 633] }) ::
  (nat_lit 266, fnO (nm := Str.ofString "drop_below") (Str.ofString "DynamicTable.drop_below") (inCls (cell 26) 4) rfl (Str.ofString "quic.qtable") 566 (nat_lit 265)) ::
  (nat_lit 267, { cls := Value.type "tuple", data := Data.seq #[] }) ::
  (nat_lit 269, { cls := Value.type "tuple", data := Data.seq #[Value.str (Str.ofString "self") 638, Value.str (Str.ofString "capacity") 639] }) ::
  (nat_lit 270, { cls := Value.type "tuple", data := Data.seq #[] }) ::
  (nat_lit 272, { cls := Value.type "code", data := Data.fields #[Value.str (Str.ofString "set_capacity") 635, Value.str (Str.ofString "DynamicTable.set_capacity") 636, Value.str (Str.ofString "/claim/cut.py") 637, Value.int 144 0, Value.int 2 0, Value.int 0 0, Value.int 0 0, Value.int 3 0, Value.ref 267, Value.bool true, Value.int 181 0, Value.ref 268, Value.none, Value.ref 269, Value.ref 270, Value.ref 271, Value.int 640 0, Value.int 144 0, Value.str (Str.ofString "/claim/cut.py") 641] }) ::
  (nat_lit 273, fnO (nm := Str.ofString "set_capacity") (Str.ofString "DynamicTable.set_capacity") (inCls (cell 26) 5) rfl (Str.ofString "quic.qtable") 566 (nat_lit 272)) ::
  (nat_lit 274, { cls := Value.type "tuple", data := Data.seq #[] }) ::
  (nat_lit 276, { cls := Value.type "tuple", data := Data.seq #[Value.str (Str.ofString "self") 646, Value.str (Str.ofString "name") 647, Value.str (Str.ofString "value") 648, Value.str (Str.ofString "wanted") 649] }) ::
  (nat_lit 277, { cls := Value.type "tuple", data := Data.seq #[] }) ::
  (nat_lit 279, { cls := Value.type "code", data := Data.fields #[Value.str (Str.ofString "insert") 643, Value.str (Str.ofString "DynamicTable.insert") 644, Value.str (Str.ofString "/claim/cut.py") 645, Value.int 151 0, Value.int 3 0, Value.int 0 0, Value.int 0 0, Value.int 3 0, Value.ref 274, Value.bool true, Value.int 181 0, Value.ref 275, Value.none, Value.ref 276, Value.ref 277, Value.ref 278, Value.int 650 0, Value.int 151 0, Value.str (Str.ofString "/claim/cut.py") 651] }) ::
  (nat_lit 280, fnO (nm := Str.ofString "insert") (Str.ofString "DynamicTable.insert") (inCls (cell 26) 6) rfl (Str.ofString "quic.qtable") 566 (nat_lit 279)) ::
  (nat_lit 281, { cls := Value.type "tuple", data := Data.seq #[] }) ::
  (nat_lit 283, { cls := Value.type "tuple", data := Data.seq #[Value.str (Str.ofString "self") 656, Value.str (Str.ofString "name") 657, Value.str (Str.ofString "value") 658] }) ::
  (nat_lit 284, { cls := Value.type "tuple", data := Data.seq #[] }) ::
  (nat_lit 286, { cls := Value.type "code", data := Data.fields #[Value.str (Str.ofString "find") 653, Value.str (Str.ofString "DynamicTable.find") 654, Value.str (Str.ofString "/claim/cut.py") 655, Value.int 161 0, Value.int 3 0, Value.int 0 0, Value.int 0 0, Value.int 3 0, Value.ref 281, Value.bool true, Value.int 181 0, Value.ref 282, Value.none, Value.ref 283, Value.ref 284, Value.ref 285, Value.int 659 0, Value.int 161 0, Value.str (Str.ofString "/claim/cut.py") 660] }) ::
  (nat_lit 288, { cls := Value.type "tuple", data := Data.seq #[Value.str (Str.ofString "capacity") 662, Value.str (Str.ofString "greatest_capacity") 663, Value.str (Str.ofString "inserted") 664, Value.str (Str.ofString "rows") 665, Value.str (Str.ofString "size") 666] }) ::
  (nat_lit 289, { cls := Value.type "dict", data := Data.dict #[{ hash := PyData.keyHash P (Str.ofString "__module__"), key := Value.str (Str.ofString "__module__") 585, val := Value.str (Str.ofString "quic.qtable") 566 }, { hash := PyData.keyHash P (Str.ofString "__firstlineno__"), key := Value.str (Str.ofString "__firstlineno__") 589, val := Value.int 114 588 }, { hash := PyData.keyHash P (Str.ofString "__init__"), key := Value.str (Str.ofString "__init__") 597, val := Value.ref 238 }, { hash := PyData.keyHash P (Str.ofString "oldest"), key := Value.str (Str.ofString "oldest") 604, val := Value.ref 245 }, { hash := PyData.keyHash P (Str.ofString "row_at"), key := Value.str (Str.ofString "row_at") 612, val := Value.ref 252 }, { hash := PyData.keyHash P (Str.ofString "last_to_go"), key := Value.str (Str.ofString "last_to_go") 624, val := Value.ref 259 }, { hash := PyData.keyHash P (Str.ofString "drop_below"), key := Value.str (Str.ofString "drop_below") 634, val := Value.ref 266 }, { hash := PyData.keyHash P (Str.ofString "set_capacity"), key := Value.str (Str.ofString "set_capacity") 642, val := Value.ref 273 }, { hash := PyData.keyHash P (Str.ofString "insert"), key := Value.str (Str.ofString "insert") 652, val := Value.ref 280 }, { hash := PyData.keyHash P (Str.ofString "find"), key := Value.str (Str.ofString "find") 661, val := Value.ref 287 }, { hash := PyData.keyHash P (Str.ofString "__static_attributes__"), key := Value.str (Str.ofString "__static_attributes__") 667, val := Value.ref 288 }, { hash := PyData.keyHash P (Str.ofString "__dict__"), key := Value.str (Str.ofString "__dict__") 669, val := Value.ref 291 }, { hash := PyData.keyHash P (Str.ofString "__weakref__"), key := Value.str (Str.ofString "__weakref__") 671, val := Value.ref 292 }, { hash := PyData.keyHash P (Str.ofString "__doc__"), key := Value.str (Str.ofString "__doc__") 672, val := Value.none }] 4 }) ::
  (nat_lit 290, { cls := Value.type "type", data := Data.cls { name := Str.ofString "DynamicTable", bases := [Value.type "object"], mro := [Value.ref 290, Value.type "object"], ns := 289, qualname := Str.ofString "DynamicTable" }, slots := #[none, none, some (Value.str (Str.ofString "DynamicTable") 578), some (Value.str (Str.ofString "DynamicTable") 586), some (Value.builtin "object.__new__"), some (Value.bool true)] }) ::
  (nat_lit 291, { cls := Value.type "getset_descriptor", data := Data.fields #[Value.str (Str.ofString "__dict__") 668, Value.ref 290, Value.builtin "function.__dict__", Value.builtin "function.__dict__#set"] }) ::
  (nat_lit 292, { cls := Value.type "getset_descriptor", data := Data.fields #[Value.str (Str.ofString "__weakref__") 670, Value.ref 290, Value.builtin "ExceptionGroup.__weakref__", Value.none] }) ::
  (nat_lit 295, { cls := Value.type "tuple", data := Data.seq #[] }) ::
  (nat_lit 297, { cls := Value.type "tuple", data := Data.seq #[Value.str (Str.ofString "row") 682, Value.str (Str.ofString "code") 683] }) ::
  (nat_lit 298, { cls := Value.type "tuple", data := Data.seq #[] }) ::
  (nat_lit 300, { cls := Value.type "code", data := Data.fields #[Value.str (Str.ofString "told_row") 679, Value.str (Str.ofString "told_row") 680, Value.str (Str.ofString "/claim/cut.py") 681, Value.int 165 0, Value.int 2 0, Value.int 0 0, Value.int 0 0, Value.int 3 0, Value.ref 295, Value.bool true, Value.int 181 0, Value.ref 296, Value.none, Value.ref 297, Value.ref 298, Value.ref 299, Value.int 684 0, Value.int 165 0, Value.str (Str.ofString "/claim/cut.py") 685] }) ::
  (nat_lit 301, fnO (nm := Str.ofString "told_row") (Str.ofString "told_row") (cell 29) rfl (Str.ofString "quic.qdecoder") 675 (nat_lit 300)) ::
  (nat_lit 302, { cls := Value.type "tuple", data := Data.seq #[] }) ::
  (nat_lit 304, { cls := Value.type "tuple", data := Data.seq #[Value.str (Str.ofString "data") 690, Value.str (Str.ofString "at") 691, Value.str (Str.ofString "count") 692, Value.str (Str.ofString "base") 693, Value.str (Str.ofString "table") 694, Value.str (Str.ofString "found") 695, Value.str (Str.ofString "line") 696] }) ::
  (nat_lit 305, { cls := Value.type "tuple", data := Data.seq #[] }) ::
  (nat_lit 307, { cls := Value.type "code", data := Data.fields #[Value.str (Str.ofString "section_fields") 687, Value.str (Str.ofString "section_fields") 688, Value.str (Str.ofString "/claim/cut.py") 689, Value.int 169 0, Value.int 5 0, Value.int 0 0, Value.int 0 0, Value.int 3 0, Value.ref 302, Value.bool true, Value.int 181 0, Value.ref 303, Value.none, Value.ref 304, Value.ref 305, Value.ref 306, Value.int 697 0, Value.int 169 0, Value.str (Str.ofString "/claim/cut.py") 698] }) ::
  (nat_lit 309, { cls := Value.type "tuple", data := Data.seq #[] }) ::
  (nat_lit 311, { cls := Value.type "tuple", data := Data.seq #[Value.str (Str.ofString "line") 703, Value.str (Str.ofString "count") 704, Value.str (Str.ofString "base") 705, Value.str (Str.ofString "table") 706, Value.str (Str.ofString "kind") 707, Value.str (Str.ofString "name") 708, Value.str (Str.ofString "value") 709, Value.str (Str.ofString "number") 710, Value.str (Str.ofString "row") 711] }) ::
  (nat_lit 312, { cls := Value.type "tuple", data := Data.seq #[] }) ::
  (nat_lit 314, { cls := Value.type "code", data := Data.fields #[Value.str (Str.ofString "field_of") 700, Value.str (Str.ofString "field_of") 701, Value.str (Str.ofString "/claim/cut.py") 702, Value.int 178 0, Value.int 4 0, Value.int 0 0, Value.int 0 0, Value.int 3 0, Value.ref 309, Value.bool true, Value.int 181 0, Value.ref 310, Value.none, Value.ref 311, Value.ref 312, Value.ref 313, Value.int 712 0, Value.int 178 0, Value.str (Str.ofString "/claim/cut.py") 713] }) ::
  (nat_lit 323, { cls := Value.type "tuple", data := Data.seq #[] }) ::
  (nat_lit 325, { cls := Value.type "tuple", data := Data.seq #[Value.str (Str.ofString "self") 730, Value.str (Str.ofString "greatest_capacity") 731, Value.str (Str.ofString "most_blocked") 732] }) ::
  (nat_lit 326, { cls := Value.type "tuple", data := Data.seq #[] }) ::
  (nat_lit 328, { cls := Value.type "code", data := Data.fields #[Value.str (Str.ofString "__init__") 727, Value.str (Str.ofString "Decoder.__init__") 728, Value.str (Str.ofString "/claim/cut.py") 729, Value.int 193 0, Value.int 3 0, Value.int 0 0, Value.int 0 0, Value.int 3 0, Value.ref 323, Value.bool true, Value.int 181 0, Value.ref 324, Value.none, Value.ref 325, Value.ref 326, Value.ref 327, Value.int 733 0, Value.int 193 0, Value.str (Str.ofString "/claim/cut.py") 734] }) ::
  (nat_lit 329, fnO (nm := Str.ofString "__init__") (Str.ofString "Decoder.__init__") (inCls (cell 32) 0) rfl (Str.ofString "quic.qdecoder") 675 (nat_lit 328)) ::
  (nat_lit 330, { cls := Value.type "tuple", data := Data.seq #[] }) ::
  (nat_lit 332, { cls := Value.type "tuple", data := Data.seq #[Value.str (Str.ofString "self") 739, Value.str (Str.ofString "data") 740, Value.str (Str.ofString "at") 741, Value.str (Str.ofString "change") 742, Value.str (Str.ofString "behind") 743, Value.str (Str.ofString "wrong") 744] }) ::
  (nat_lit 333, { cls := Value.type "tuple", data := Data.seq #[] }) ::
  (nat_lit 335, { cls := Value.type "code", data := Data.fields #[Value.str (Str.ofString "hear") 736, Value.str (Str.ofString "Decoder.hear") 737, Value.str (Str.ofString "/claim/cut.py") 738, Value.int 200 0, Value.int 2 0, Value.int 0 0, Value.int 0 0, Value.int 3 0, Value.ref 330, Value.bool true, Value.int 181 0, Value.ref 331, Value.none, Value.ref 332, Value.ref 333, Value.ref 334, Value.int 745 0, Value.int 200 0, Value.str (Str.ofString "/claim/cut.py") 746] }) ::
  (nat_lit 336, fnO (nm := Str.ofString "hear") (Str.ofString "Decoder.hear") (inCls (cell 32) 1) rfl (Str.ofString "quic.qdecoder") 675 (nat_lit 335)) ::
  (nat_lit 337, { cls := Value.type "tuple", data := Data.seq #[] }) ::
  (nat_lit 339, { cls := Value.type "tuple", data := Data.seq #[Value.str (Str.ofString "self") 751, Value.str (Str.ofString "change") 752, Value.str (Str.ofString "kind") 753, Value.str (Str.ofString "name") 754, Value.str (Str.ofString "value") 755, Value.str (Str.ofString "row") 756] }) ::
  (nat_lit 340, { cls := Value.type "tuple", data := Data.seq #[] }) ::
  (nat_lit 342, { cls := Value.type "code", data := Data.fields #[Value.str (Str.ofString "obey") 748, Value.str (Str.ofString "Decoder.obey") 749, Value.str (Str.ofString "/claim/cut.py") 750, Value.int 215 0, Value.int 2 0, Value.int 0 0, Value.int 0 0, Value.int 3 0, Value.ref 337, Value.bool true, Value.int 181 0, Value.ref 338, Value.none, Value.ref 339, Value.ref 340, Value.ref 341, Value.int 757 0, Value.int 215 0, Value.str (Str.ofString "/claim/cut.py") 758] }) ::
  (nat_lit 343, fnO (nm := Str.ofString "obey") (Str.ofString "Decoder.obey") (inCls (cell 32) 2) rfl (Str.ofString "quic.qdecoder") 675 (nat_lit 342)) ::
  (nat_lit 344, { cls := Value.type "tuple", data := Data.seq #[] }) ::
  (nat_lit 346, { cls := Value.type "tuple", data := Data.seq #[Value.str (Str.ofString "self") 763, Value.str (Str.ofString "found") 764, Value.str (Str.ofString "still") 765, Value.str (Str.ofString "held") 766, Value.str (Str.ofString "stream") 767, Value.str (Str.ofString "data") 768, Value.str (Str.ofString "count") 769, Value.str (Str.ofString "base") 770, Value.str (Str.ofString "at") 771] }) ::
  (nat_lit 347, { cls := Value.type "tuple", data := Data.seq #[] }) ::
  (nat_lit 349, { cls := Value.type "code", data := Data.fields #[Value.str (Str.ofString "ready_sections") 760, Value.str (Str.ofString "Decoder.ready_sections") 761, Value.str (Str.ofString "/claim/cut.py") 762, Value.int 231 0, Value.int 1 0, Value.int 0 0, Value.int 0 0, Value.int 3 0, Value.ref 344, Value.bool true, Value.int 181 0, Value.ref 345, Value.none, Value.ref 346, Value.ref 347, Value.ref 348, Value.int 772 0, Value.int 231 0, Value.str (Str.ofString "/claim/cut.py") 773] }) ::
  (nat_lit 350, fnO (nm := Str.ofString "ready_sections") (Str.ofString "Decoder.ready_sections") (inCls (cell 32) 3) rfl (Str.ofString "quic.qdecoder") 675 (nat_lit 349)) ::
  (nat_lit 351, { cls := Value.type "tuple", data := Data.seq #[] }) ::
  (nat_lit 353, { cls := Value.type "tuple", data := Data.seq #[Value.str (Str.ofString "self") 778, Value.str (Str.ofString "stream") 779, Value.str (Str.ofString "data") 780, Value.str (Str.ofString "count") 781, Value.str (Str.ofString "base") 782, Value.str (Str.ofString "at") 783] }) ::
  (nat_lit 354, { cls := Value.type "tuple", data := Data.seq #[] }) ::
  (nat_lit 356, { cls := Value.type "code", data := Data.fields #[Value.str (Str.ofString "section") 775, Value.str (Str.ofString "Decoder.section") 776, Value.str (Str.ofString "/claim/cut.py") 777, Value.int 242 0, Value.int 3 0, Value.int 0 0, Value.int 0 0, Value.int 3 0, Value.ref 351, Value.bool true, Value.int 181 0, Value.ref 352, Value.none, Value.ref 353, Value.ref 354, Value.ref 355, Value.int 784 0, Value.int 242 0, Value.str (Str.ofString "/claim/cut.py") 785] }) ::
  (nat_lit 358, { cls := Value.type "tuple", data := Data.seq #[] }) ::
  (nat_lit 360, { cls := Value.type "tuple", data := Data.seq #[Value.str (Str.ofString "self") 790, Value.str (Str.ofString "stream") 791] }) ::
  (nat_lit 361, { cls := Value.type "tuple", data := Data.seq #[] }) ::
  (nat_lit 363, { cls := Value.type "code", data := Data.fields #[Value.str (Str.ofString "is_waiting") 787, Value.str (Str.ofString "Decoder.is_waiting") 788, Value.str (Str.ofString "/claim/cut.py") 789, Value.int 254 0, Value.int 2 0, Value.int 0 0, Value.int 0 0, Value.int 3 0, Value.ref 358, Value.bool true, Value.int 181 0, Value.ref 359, Value.none, Value.ref 360, Value.ref 361, Value.ref 362, Value.int 792 0, Value.int 254 0, Value.str (Str.ofString "/claim/cut.py") 793] }) ::
  (nat_lit 365, { cls := Value.type "tuple", data := Data.seq #[] }) ::
  (nat_lit 367, { cls := Value.type "tuple", data := Data.seq #[Value.str (Str.ofString "self") 798, Value.str (Str.ofString "found") 799, Value.str (Str.ofString "one") 800] }) ::
  (nat_lit 368, { cls := Value.type "tuple", data := Data.seq #[] }) ::
  (nat_lit 370, { cls := Value.type "code", data := Data.fields #[Value.str (Str.ofString "waiting_streams") 795, Value.str (Str.ofString "Decoder.waiting_streams") 796, Value.str (Str.ofString "/claim/cut.py") 797, Value.int 257 0, Value.int 1 0, Value.int 0 0, Value.int 0 0, Value.int 3 0, Value.ref 365, Value.bool true, Value.int 181 0, Value.ref 366, Value.none, Value.ref 367, Value.ref 368, Value.ref 369, Value.int 801 0, Value.int 257 0, Value.str (Str.ofString "/claim/cut.py") 802] }) ::
  (nat_lit 372, { cls := Value.type "tuple", data := Data.seq #[] }) ::
  (nat_lit 374, { cls := Value.type "tuple", data := Data.seq #[Value.str (Str.ofString "self") 807, Value.str (Str.ofString "stream") 808, Value.str (Str.ofString "count") 809] }) ::
  (nat_lit 375, { cls := Value.type "tuple", data := Data.seq #[] }) ::
  (nat_lit 377, { cls := Value.type "code", data := Data.fields #[Value.str (Str.ofString "ack") 804, Value.str (Str.ofString "Decoder.ack") 805, Value.str (Str.ofString "/claim/cut.py") 806, Value.int 264 0, Value.int 3 0, Value.int 0 0, Value.int 0 0, Value.int 3 0, Value.ref 372, Value.bool true, Value.int 181 0, Value.ref 373, Value.none, Value.ref 374, Value.ref 375, Value.ref 376, Value.int 810 0, Value.int 264 0, Value.str (Str.ofString "/claim/cut.py") 811] }) ::
  (nat_lit 379, { cls := Value.type "tuple", data := Data.seq #[] }) ::
  (nat_lit 381, { cls := Value.type "tuple", data := Data.seq #[Value.str (Str.ofString "self") 816, Value.str (Str.ofString "stream") 817] }) ::
  (nat_lit 382, { cls := Value.type "tuple", data := Data.seq #[] }) ::
  (nat_lit 384, { cls := Value.type "code", data := Data.fields #[Value.str (Str.ofString "cancel") 813, Value.str (Str.ofString "Decoder.cancel") 814, Value.str (Str.ofString "/claim/cut.py") 815, Value.int 267 0, Value.int 2 0, Value.int 0 0, Value.int 0 0, Value.int 3 0, Value.ref 379, Value.bool true, Value.int 181 0, Value.ref 380, Value.none, Value.ref 381, Value.ref 382, Value.ref 383, Value.int 818 0, Value.int 267 0, Value.str (Str.ofString "/claim/cut.py") 819] }) ::
  (nat_lit 386, { cls := Value.type "tuple", data := Data.seq #[] }) ::
  (nat_lit 388, { cls := Value.type "tuple", data := Data.seq #[Value.str (Str.ofString "self") 824] }) ::
  (nat_lit 389, { cls := Value.type "tuple", data := Data.seq #[] }) ::
  (nat_lit 391, { cls := Value.type "code", data := Data.fields #[Value.str (Str.ofString "increment") 821, Value.str (Str.ofString "Decoder.increment") 822, Value.str (Str.ofString "/claim/cut.py") 823, Value.int 270 0, Value.int 1 0, Value.int 0 0, Value.int 0 0, Value.int 3 0, Value.ref 386, Value.bool true, Value.int 181 0, Value.ref 387, Value.none, Value.ref 388, Value.ref 389, Value.ref 390, Value.int 825 0, Value.int 270 0, Value.str (Str.ofString "/claim/cut.py") 826] }) ::
  (nat_lit 393, { cls := Value.type "tuple", data := Data.seq #[] }) ::
  (nat_lit 395, { cls := Value.type "tuple", data := Data.seq #[Value.str (Str.ofString "self") 831, Value.str (Str.ofString "data") 832] }) ::
  (nat_lit 396, { cls := Value.type "tuple", data := Data.seq #[] }) ::
  (nat_lit 398, { cls := Value.type "code", data := Data.fields #[Value.str (Str.ofString "count_of") 828, Value.str (Str.ofString "Decoder.count_of") 829, Value.str (Str.ofString "/claim/cut.py") 830, Value.int 273 0, Value.int 2 0, Value.int 0 0, Value.int 0 0, Value.int 3 0, Value.ref 393, Value.bool true, Value.int 181 0, Value.ref 394, Value.none, Value.ref 395, Value.ref 396, Value.ref 397, Value.int 833 0, Value.int 273 0, Value.str (Str.ofString "/claim/cut.py") 834] }) ::
  (nat_lit 400, { cls := Value.type "tuple", data := Data.seq #[Value.str (Str.ofString "left") 836, Value.str (Str.ofString "most_blocked") 837, Value.str (Str.ofString "table") 838, Value.str (Str.ofString "told") 839, Value.str (Str.ofString "waiting") 840] }) ::
  (nat_lit 401, { cls := Value.type "dict", data := Data.dict #[{ hash := PyData.keyHash P (Str.ofString "__module__"), key := Value.str (Str.ofString "__module__") 722, val := Value.str (Str.ofString "quic.qdecoder") 675 }, { hash := PyData.keyHash P (Str.ofString "__firstlineno__"), key := Value.str (Str.ofString "__firstlineno__") 726, val := Value.int 191 725 }, { hash := PyData.keyHash P (Str.ofString "__init__"), key := Value.str (Str.ofString "__init__") 735, val := Value.ref 329 }, { hash := PyData.keyHash P (Str.ofString "hear"), key := Value.str (Str.ofString "hear") 747, val := Value.ref 336 }, { hash := PyData.keyHash P (Str.ofString "obey"), key := Value.str (Str.ofString "obey") 759, val := Value.ref 343 }, { hash := PyData.keyHash P (Str.ofString "ready_sections"), key := Value.str (Str.ofString "ready_sections") 774, val := Value.ref 350 }, { hash := PyData.keyHash P (Str.ofString "section"), key := Value.str (Str.ofString "section") 786, val := Value.ref 357 }, { hash := PyData.keyHash P (Str.ofString "is_waiting"), key := Value.str (Str.ofString "is_waiting") 794, val := Value.ref 364 }, { hash := PyData.keyHash P (Str.ofString "waiting_streams"), key := Value.str (Str.ofString "waiting_streams") 803, val := Value.ref 371 }, { hash := PyData.keyHash P (Str.ofString "ack"), key := Value.str (Str.ofString "ack") 812, val := Value.ref 378 }, { hash := PyData.keyHash P (Str.ofString "cancel"), key := Value.str (Str.ofString "cancel") 820, val := Value.ref 385 }, { hash := PyData.keyHash P (Str.ofString "increment"), key := Value.str (Str.ofString "increment") 827, val := Value.ref 392 }, { hash := PyData.keyHash P (Str.ofString "count_of"), key := Value.str (Str.ofString "count_of") 835, val := Value.ref 399 }, { hash := PyData.keyHash P (Str.ofString "__static_attributes__"), key := Value.str (Str.ofString "__static_attributes__") 841, val := Value.ref 400 }, { hash := PyData.keyHash P (Str.ofString "__dict__"), key := Value.str (Str.ofString "__dict__") 843, val := Value.ref 403 }, { hash := PyData.keyHash P (Str.ofString "__weakref__"), key := Value.str (Str.ofString "__weakref__") 845, val := Value.ref 404 }, { hash := PyData.keyHash P (Str.ofString "__doc__"), key := Value.str (Str.ofString "__doc__") 846, val := Value.none }] 4 }) ::
  (nat_lit 402, { cls := Value.type "type", data := Data.cls { name := Str.ofString "Decoder", bases := [Value.type "object"], mro := [Value.ref 402, Value.type "object"], ns := 401, qualname := Str.ofString "Decoder" }, slots := #[none, none, some (Value.str (Str.ofString "Decoder") 715), some (Value.str (Str.ofString "Decoder") 723), some (Value.builtin "object.__new__"), some (Value.bool true)] }) ::
  (nat_lit 403, { cls := Value.type "getset_descriptor", data := Data.fields #[Value.str (Str.ofString "__dict__") 842, Value.ref 402, Value.builtin "function.__dict__", Value.builtin "function.__dict__#set"] }) ::
  (nat_lit 404, { cls := Value.type "getset_descriptor", data := Data.fields #[Value.str (Str.ofString "__weakref__") 844, Value.ref 402, Value.builtin "ExceptionGroup.__weakref__", Value.none] }) ::
  (nat_lit 407, { cls := Value.type "tuple", data := Data.seq #[] }) ::
  (nat_lit 409, { cls := Value.type "tuple", data := Data.seq #[Value.str (Str.ofString "box") 854, Value.str (Str.ofString "many") 855] }) ::
  (nat_lit 410, { cls := Value.type "tuple", data := Data.seq #[] }) ::
  (nat_lit 412, { cls := Value.type "code", data := Data.fields #[Value.str (Str.ofString "_law_drawn") 851, Value.str (Str.ofString "_law_drawn") 852, Value.str (Str.ofString "/claim/cut.py") 853, Value.int 276 0, Value.int 2 0, Value.int 0 0, Value.int 0 0, Value.int 3 0, Value.ref 407, Value.bool true, Value.int 181 0, Value.ref 408, Value.none, Value.ref 409, Value.ref 410, Value.ref 411, Value.int 856 0, Value.int 276 0, Value.str (Str.ofString "/claim/cut.py") 857] }) ::
  (nat_lit 413, fnO (nm := Str.ofString "_law_drawn") (Str.ofString "_law_drawn") (cell 34) rfl (Str.ofString "law_tk0103_01") 849 (nat_lit 412)) ::
  (nat_lit 414, { cls := Value.type "tuple", data := Data.seq #[] }) ::
  (nat_lit 416, { cls := Value.type "tuple", data := Data.seq #[Value.str (Str.ofString "text") 862] }) ::
  (nat_lit 417, { cls := Value.type "tuple", data := Data.seq #[] }) ::
  (nat_lit 419, { cls := Value.type "code", data := Data.fields #[Value.str (Str.ofString "_law_text") 859, Value.str (Str.ofString "_law_text") 860, Value.str (Str.ofString "/claim/cut.py") 861, Value.int 281 0, Value.int 1 0, Value.int 0 0, Value.int 0 0, Value.int 3 0, Value.ref 414, Value.bool true, Value.int 181 0, Value.ref 415, Value.none, Value.ref 416, Value.ref 417, Value.ref 418, Value.int 863 0, Value.int 281 0, Value.str (Str.ofString "/claim/cut.py") 864] }) ::
  (nat_lit 420, fnO (nm := Str.ofString "_law_text") (Str.ofString "_law_text") (cell 35) rfl (Str.ofString "law_tk0103_01") 849 (nat_lit 419)) ::
  (nat_lit 421, { cls := Value.type "tuple", data := Data.seq #[] }) ::
  (nat_lit 424, { cls := Value.type "code", data := Data.fields #[Value.str (Str.ofString "_law_put") 866, Value.str (Str.ofString "_law_put") 867, Value.str (Str.ofString "/claim/cut.py") 868, Value.int 283 0, Value.int 3 0, Value.int 0 0, Value.int 0 0, Value.int 3 0, Value.ref 421, Value.bool true, Value.int 181 0, Value.ref 422, Value.none, Value.none, Value.none, Value.ref 423, Value.int 869 0, Value.int 283 0, Value.str (Str.ofString "/claim/cut.py") 870] }) ::
  (nat_lit 425, fnO (nm := Str.ofString "_law_put") (Str.ofString "_law_put") (cell 36) rfl (Str.ofString "law_tk0103_01") 849 (nat_lit 424)) ::
  (nat_lit 426, { cls := Value.type "tuple", data := Data.seq #[] }) ::
  (nat_lit 429, { cls := Value.type "code", data := Data.fields #[Value.str (Str.ofString "_law_word") 872, Value.str (Str.ofString "_law_word") 873, Value.str (Str.ofString "/claim/cut.py") 874, Value.int 289 0, Value.int 2 0, Value.int 0 0, Value.int 0 0, Value.int 3 0, Value.ref 426, Value.bool true, Value.int 181 0, Value.ref 427, Value.none, Value.none, Value.none, Value.ref 428, Value.int 875 0, Value.int 289 0, Value.str (Str.ofString "/claim/cut.py") 876] }) ::
  (nat_lit 430, fnO (nm := Str.ofString "_law_word") (Str.ofString "_law_word") (cell 37) rfl (Str.ofString "law_tk0103_01") 849 (nat_lit 429)) ::
  (nat_lit 431, { cls := Value.type "tuple", data := Data.seq #[] }) ::
  (nat_lit 433, { cls := Value.type "tuple", data := Data.seq #[Value.str (Str.ofString "which") 881, Value.str (Str.ofString "world") 882, Value.str (Str.ofString "room") 883, Value.str (Str.ofString "rows") 884, Value.str (Str.ofString "many") 885, Value.str (Str.ofString "octets") 886, Value.str (Str.ofString "words") 887] }) ::
  (nat_lit 434, { cls := Value.type "tuple", data := Data.seq #[] }) ::
  (nat_lit 436, { cls := Value.type "code", data := Data.fields #[Value.str (Str.ofString "_law_wrong") 878, Value.str (Str.ofString "_law_wrong") 879, Value.str (Str.ofString "/claim/cut.py") 880, Value.int 311 0, Value.int 2 0, Value.int 0 0, Value.int 0 0, Value.int 3 0, Value.ref 431, Value.bool true, Value.int 181 0, Value.ref 432, Value.none, Value.ref 433, Value.ref 434, Value.ref 435, Value.int 888 0, Value.int 311 0, Value.str (Str.ofString "/claim/cut.py") 889] }) ::
  (nat_lit 437, fnO (nm := Str.ofString "_law_wrong") (Str.ofString "_law_wrong") (cell 38) rfl (Str.ofString "law_tk0103_01") 849 (nat_lit 436)) ::
  (nat_lit 438, { cls := Value.type "tuple", data := Data.seq #[] }) ::
  (nat_lit 441, { cls := Value.type "code", data := Data.fields #[Value.str (Str.ofString "_law_is_heard") 891, Value.str (Str.ofString "_law_is_heard") 892, Value.str (Str.ofString "/claim/cut.py") 893, Value.int 320 0, Value.int 3 0, Value.int 0 0, Value.int 0 0, Value.int 3 0, Value.ref 438, Value.bool true, Value.int 181 0, Value.ref 439, Value.none, Value.none, Value.none, Value.ref 440, Value.int 894 0, Value.int 320 0, Value.str (Str.ofString "/claim/cut.py") 895] }) ::
  (nat_lit 442, fnO (nm := Str.ofString "_law_is_heard") (Str.ofString "_law_is_heard") (cell 39) rfl (Str.ofString "law_tk0103_01") 849 (nat_lit 441)) ::
  (nat_lit 443, { cls := Value.type "tuple", data := Data.seq #[] }) ::
  (nat_lit 446, { cls := Value.type "code", data := Data.fields #[Value.str (Str.ofString "law") 897, Value.str (Str.ofString "law") 898, Value.str (Str.ofString "/claim/cut.py") 899, Value.int 339 0, Value.int 1 0, Value.int 0 0, Value.int 0 0, Value.int 3 0, Value.ref 443, Value.bool true, Value.int 181 0, Value.ref 444, Value.none, Value.none, Value.none, Value.ref 445, Value.int 900 0, Value.int 339 0, Value.str (Str.ofString "/claim/cut.py") 901] }) ::
  (nat_lit 447, fnO (nm := Str.ofString "law") (Str.ofString "law") (cell 40) rfl (Str.ofString "law_tk0103_01") 849 (nat_lit 446)) :: []
noncomputable def addrs : List Addr := [nat_lit 2, nat_lit 3, nat_lit 15, nat_lit 17, nat_lit 18, nat_lit 20, nat_lit 22, nat_lit 29, nat_lit 31, nat_lit 32, nat_lit 34, nat_lit 35, nat_lit 36, nat_lit 37, nat_lit 38, nat_lit 39, nat_lit 42, nat_lit 49, nat_lit 51, nat_lit 52, nat_lit 54, nat_lit 55, nat_lit 56, nat_lit 57, nat_lit 58, nat_lit 59, nat_lit 62, nat_lit 64, nat_lit 65, nat_lit 67, nat_lit 68, nat_lit 69, nat_lit 71, nat_lit 72, nat_lit 74, nat_lit 75, nat_lit 76, nat_lit 78, nat_lit 79, nat_lit 81, nat_lit 83, nat_lit 85, nat_lit 86, nat_lit 88, nat_lit 90, nat_lit 92, nat_lit 93, nat_lit 95, nat_lit 97, nat_lit 99, nat_lit 100, nat_lit 102, nat_lit 104, nat_lit 106, nat_lit 107, nat_lit 109, nat_lit 110, nat_lit 112, nat_lit 113, nat_lit 116, nat_lit 210, nat_lit 211, nat_lit 213, nat_lit 214, nat_lit 216, nat_lit 217, nat_lit 218, nat_lit 220, nat_lit 221, nat_lit 223, nat_lit 224, nat_lit 232, nat_lit 234, nat_lit 235, nat_lit 237, nat_lit 238, nat_lit 239, nat_lit 241, nat_lit 242, nat_lit 244, nat_lit 245, nat_lit 246, nat_lit 248, nat_lit 249, nat_lit 251, nat_lit 252, nat_lit 253, nat_lit 255, nat_lit 256, nat_lit 258, nat_lit 259, nat_lit 260, nat_lit 262, nat_lit 263, nat_lit 265, nat_lit 266, nat_lit 267, nat_lit 269, nat_lit 270, nat_lit 272, nat_lit 273, nat_lit 274, nat_lit 276, nat_lit 277, nat_lit 279, nat_lit 280, nat_lit 281, nat_lit 283, nat_lit 284, nat_lit 286, nat_lit 288, nat_lit 289, nat_lit 290, nat_lit 291, nat_lit 292, nat_lit 295, nat_lit 297, nat_lit 298, nat_lit 300, nat_lit 301, nat_lit 302, nat_lit 304, nat_lit 305, nat_lit 307, nat_lit 309, nat_lit 311, nat_lit 312, nat_lit 314, nat_lit 323, nat_lit 325, nat_lit 326, nat_lit 328, nat_lit 329, nat_lit 330, nat_lit 332, nat_lit 333, nat_lit 335, nat_lit 336, nat_lit 337, nat_lit 339, nat_lit 340, nat_lit 342, nat_lit 343, nat_lit 344, nat_lit 346, nat_lit 347, nat_lit 349, nat_lit 350, nat_lit 351, nat_lit 353, nat_lit 354, nat_lit 356, nat_lit 358, nat_lit 360, nat_lit 361, nat_lit 363, nat_lit 365, nat_lit 367, nat_lit 368, nat_lit 370, nat_lit 372, nat_lit 374, nat_lit 375, nat_lit 377, nat_lit 379, nat_lit 381, nat_lit 382, nat_lit 384, nat_lit 386, nat_lit 388, nat_lit 389, nat_lit 391, nat_lit 393, nat_lit 395, nat_lit 396, nat_lit 398, nat_lit 400, nat_lit 401, nat_lit 402, nat_lit 403, nat_lit 404, nat_lit 407, nat_lit 409, nat_lit 410, nat_lit 412, nat_lit 413, nat_lit 414, nat_lit 416, nat_lit 417, nat_lit 419, nat_lit 420, nat_lit 421, nat_lit 424, nat_lit 425, nat_lit 426, nat_lit 429, nat_lit 430, nat_lit 431, nat_lit 433, nat_lit 434, nat_lit 436, nat_lit 437, nat_lit 438, nat_lit 441, nat_lit 442, nat_lit 443, nat_lit 446, nat_lit 447]

/-! ## HHead -/
noncomputable def hd.view_39 : Program := view PySem.Challenge.pw_tk0103_01 [0, 2, 3, 5, 6, 7, 8, 10, 11, 12, 13, 15, 16, 17, 18, 19, 21, 22, 24, 25, 26, 28, 29, 30, 31, 32, 34, 35, 36, 37, 38, 39, 40]
noncomputable abbrev pR : Program := PySem.Challenge.rw_tk0103_01.row.prog
theorem addrs_eq (P : Params) : addrs = (hd.heap_39 P).map (·.1) := by kernel_rfl!
noncomputable abbrev hookH : Hook := kHook hd.heap_39 addrs addrs_eq
noncomputable abbrev lvs : List (Str × WData) := [(Str.ofString "GREATEST", WData.int 4611686018427387903)]
noncomputable abbrev loos : List Str := [Str.ofString "GREATEST", Str.ofString "STATIC_ROWS"]
noncomputable abbrev XtH : Shared → Bool := fun s => xlAt hd.view_39 lvs s && recOk (RowW.records PySem.Challenge.rw_tk0103_01.row.toRowW) s
noncomputable def bootT (P : Params) : BT := ((((((((((BT.nil.ins 0 (boot_o_0 P)).ins 1 (boot_o_1 P)).ins 2 (boot_o_2 P)).ins 3 (boot_o_3 P)).ins 4 (boot_o_4 P)).ins 5 (boot_o_5 P)).ins 6 (boot_o_6 P)).ins 7 (boot_o_7 P)).ins 8 (boot_o_8 P)).ins 9 (boot_o_9 P)).ins 10 (boot_o_10 P)
theorem boot_tree (w : World) : absHeap (bootT w.params) 11 {} = boot_heap w.params := by kernel_rfl!
theorem boot_size (w : World) : ((boot_heap w.params).isNs mainGlobals && Nat.beq (Array.mk ([] : List GenState)).size 0, (boot_heap w.params).objs.size, (boot_heap w.params).nsMap mainGlobals "__annotations__") = (true, 11, some (.ref 6)) := by kernel_rfl!
/-- the same run, by the library's quick forms of the machine's step -/
noncomputable def topF (tb : String → Option Builtin) (p : Program) (w : World) (n₀ : Nat) (ann : Option Value) : Nat → SharedT → Thread → Option SharedT
  | 0, _, _ => none
  | n + 1, s, t => match through t with
    | true => some s
    | false => match PySem.W.Fast.tw6613529449190102663 n₀ ann t with
      | false => none
      | true => match PySem.W.Fast.tw10156331382660048174 (PySem.W.Fast.tw11892475500146522536 tb) p w s t with
        | some (s', t') => topF tb p w n₀ ann n s' t'
        | none => none
theorem topF_eq {tb : String → Option Builtin} {p : Program} {w : World} {n₀ : Nat} {ann : Option Value} : ∀ (n : Nat) (s : SharedT) (t : Thread), topT tb p w n₀ ann n s t = topF tb p w n₀ ann n s t
  | 0, _, _ => rfl
  | n + 1, s, t => by
    unfold topT topF
    rw [← PySem.W.Fast.te6613529449190102663, ← PySem.W.Fast.te10156331382660048174, ← PySem.W.Fast.te11892475500146522536]
    simp only [topF_eq] <;> rfl
theorem runF (w : World) (os : OsState) : (topF PySem.W.Fast.tw14364793385576792824 pR w 11 (some (.ref 6)) 2800 ⟨bootT w.params, 11, {}, Array.mk [], boot_drawn, boot_toks, os⟩ (topStub pR)).map (fun s => (lookA pR (boot_heap w.params) s.abs, PySem.W.Fast.tw4187177175401517315 hd.view_39 loos (importedModules pR.main.body) XtH true s.abs, hookH.obs s.abs)) = some (true, openGood hd.view_39 loos, hookH.val w) := by kernel_rfl!
theorem runH (w : World) (os : OsState) : (topT treeTable pR w 11 (some (.ref 6)) 2800 ⟨bootT w.params, 11, {}, Array.mk [], boot_drawn, boot_toks, os⟩ (topStub pR)).map (fun s => (lookA pR (boot_heap w.params) s.abs, openSeen hd.view_39 loos (importedModules pR.main.body) XtH true s.abs, hookH.obs s.abs)) = some (true, openGood hd.view_39 loos, hookH.val w) := by
  rw [topF_eq, PySem.W.Fast.te14364793385576792824, PySem.W.Fast.te4187177175401517315]
  exact runF w os

/-! ## HTop -/
theorem openE : opening pR = plainProg pR.main.scope.names := by kernel_rfl!
theorem fenceE (s : Shared) : fenceModules? pR s = some s := by kernel_rfl!
theorem leftH : LeftO pR hd.view_39 loos XtH hookH.obs hookH.val 5460 :=
  left_of_tree (boot_open openE (by decide) fenceE) boot_tree boot_size (by decide) runH
theorem saidH : PySem.Challenge.rw_tk0103_01.wellSaid = true := by decide +kernel
set_option maxHeartbeats 8000000 in
theorem hd {d : DefRec} {kwd : List (Str × PySem.Expr)} (e1 : defOf hd.view_39 PySem.Challenge.rw_tk0103_01.row.name = some (d, kwd)) (e2 : PySem.Challenge.rw_tk0103_01.row.prog.theDef PySem.Challenge.rw_tk0103_01.row.name = some (d.params, d.body, d.scope))
    (e3 : kwWritten? d.params.kwonlyargs d.params.kw_defaults = some kwd) (walk : WalkO hd.view_39 [Str.ofString "GREATEST", Str.ofString "STATIC_ROWS"] (XL hd.view_39 [(Str.ofString "GREATEST", WData.int 4611686018427387903)]) (kHook hd.heap_39 addrs addrs_eq).says PySem.Challenge.rw_tk0103_01.row.toRowW d kwd (fun f vs => call f vs)) : PySem.Challenge.rw_tk0103_01.Holds := by
  refine holds_law saidH fun said => ?_
  refine holds_open (q := hd.view_39) (loose := loos) (Xt := XtH) (XP := XL hd.view_39 lvs) (Yf := hookH.obs) (Ya := hookH.val) (YP := hookH.says) (N := 5460) leftH hookH.of hookH.keeps (fun s e => xl_of s (Bool.and_eq_true_iff.mp e).1) XL.keeps e1 e2 e3 (fun s e => recFacts_of (Bool.and_eq_true_iff.mp e).2) (by rfl) (by assumption) (by decide +kernel) ⟨rfl, rfl, rfl, rfl, rfl, by decide +kernel⟩ ?hw ?hc
  case hw => w_witness2
  case hc => exact walk

/-! ## MFly -/
-- OMEGA: the easy cases by hand, for omega's own terms are large
theorem ne_cj {a b c : Nat} {P : Prop} (h : c < b ∧ P) (k : c < b ∧ P → a < b) : a ≠ b := Nat.ne_of_lt (k h)
theorem ne_cj2 {a b c : Nat} {P : Prop} (h : c < b ∧ P) (k : c < b ∧ P → a < b) : b ≠ a := Nat.ne_of_gt (k h)
theorem cj_lt {a b c : Nat} {P : Prop} (h : c < b ∧ P) (k : c < b ∧ P → a < b) : a < b := k h
theorem cj_l {P Q : Prop} : P ∧ Q → P := And.left
theorem cj_r {P Q R : Prop} (h : Q → R) : P ∧ Q → R := fun x => h x.2
theorem cj_e {P : Prop} : P → P := id
theorem ne_tr {a b c : Nat} (h : a < b) (k : b < c) : a ≠ c := Nat.ne_of_lt (Nat.lt_trans h k)
theorem ne_tr2 {a b c : Nat} (h : a < b) (k : b < c) : c ≠ a := Nat.ne_of_gt (Nat.lt_trans h k)
theorem room0 {d n R : Nat} (h : d + n < R) : d < R := Nat.lt_of_le_of_lt (Nat.le_add_right d n) h
theorem room1 {d n k R : Nat} (h : d + n < R) (q : Nat.ble (1 + k) n = true) : d + 1 + k < R := Nat.lt_of_le_of_lt (by rw [Nat.add_assoc]; exact Nat.add_le_add_left (Nat.le_of_ble_eq_true q) d) h
theorem room10 {d n R : Nat} (h : d + n < R) (q : Nat.ble 1 n = true) : d + 1 < R := Nat.lt_of_le_of_lt (Nat.add_le_add_left (Nat.le_of_ble_eq_true q) d) h
theorem room2 {d n k R : Nat} (h : d + n < R) (q : Nat.ble (1 + 1 + k) n = true) : d + 1 + 1 + k < R := Nat.lt_of_le_of_lt (by rw [Nat.add_assoc, Nat.add_assoc, ← Nat.add_assoc 1]; exact Nat.add_le_add_left (Nat.le_of_ble_eq_true q) d) h
theorem unit1 {d n k R : Nat} (h : d + n < R) (q : Nat.ble (3 + k) n = true) : d + 3 + k < R := Nat.lt_of_le_of_lt (by rw [Nat.add_assoc]; exact Nat.add_le_add_left (Nat.le_of_ble_eq_true q) d) h
theorem unit2 {d n k R : Nat} (h : d + n < R) (q : Nat.ble (3 + 3 + k) n = true) : d + 3 + 3 + k < R := Nat.lt_of_le_of_lt (by rw [Nat.add_assoc, Nat.add_assoc, ← Nat.add_assoc 3]; exact Nat.add_le_add_left (Nat.le_of_ble_eq_true q) d) h
theorem le_eq_le {a b c d : Nat} (e : a = b) (h : b ≤ c) (k : c ≤ d) : a ≤ d := e ▸ Nat.le_trans h k
theorem cast_eq_le {a b : Nat} {z : Int} (e : a = b) (h : (b : Int) ≤ z) : (a : Int) ≤ z := e ▸ h
theorem add_le_num {a b c d : Int} (h : c ≤ a) (k : a + b ≤ d) : c + b ≤ d := Int.le_trans (Int.add_le_add_right h b) k
local macro_rules | `(tactic| walk_at $s:str) => `(tactic| k_extra $(Lean.Syntax.mkStrLit ("my " ++ s.getString)))
theorem kw_line1 : True := by
  (k_with "my OMC" => (first | exact cj_l | exact cj_e | (refine cj_r ?_; walk_at "OMC") | fail "OMC"))
  trivial
theorem kw_line2 : True := by
  (k_with "my OMG" => (first | decide | (with_reducible first | assumption | (refine ne_cj (by assumption) ?_; walk_at "OMC") | (refine ne_cj2 (by assumption) ?_; walk_at "OMC") | (refine cj_lt (by assumption) ?_; walk_at "OMC") | exact Nat.ne_of_lt (by assumption) | exact Nat.ne_of_gt (by assumption) | exact ne_tr (by assumption) (by assumption) | exact ne_tr2 (by assumption) (by assumption) | exact Nat.le_trans (by assumption) (by decide) | exact Nat.lt_of_le_of_lt (by assumption) (by decide) | exact Nat.lt_of_lt_of_le (by assumption) (by decide) | exact Int.le_trans (by assumption) (by decide) | exact Int.lt_of_le_of_lt (by assumption) (by decide) | exact Int.lt_of_lt_of_le (by assumption) (by decide) | exact Int.natCast_nonneg _ | exact Int.add_nonneg (by assumption) (by decide) | exact room1 (by assumption) (by decide) | exact unit1 (by assumption) (by decide) | exact room0 (by assumption) | exact room10 (by assumption) (by decide) | exact room2 (by assumption) (by decide) | exact unit2 (by assumption) (by decide) | exact le_eq_le (by assumption) (by assumption) (by decide) | exact cast_eq_le (by assumption) (by assumption) | exact add_le_num (by assumption) (by decide) | fail "OMG")))
  trivial
local macro_rules | `(tactic| omega) => `(tactic| walk_at "OMG")

noncomputable abbrev excO (C : Value) (dx : Option Addr) (t0 tb cx : Value) : Obj := { cls := C, dict := dx, data := .fields #[t0, tb, cx, .none, .bool false, .none] }

noncomputable def FlyAt (base : Heap) (l : List Env) (e : Addr) (C : Value) (dx : Option Addr) (cx fl : Value) (h : Heap) : Prop :=
  base.StaysIn h ∧ base.get? e = none ∧ h.FunFrames base l ∧ ∃ t0 T oT ts, h.get? e = some (excO C dx t0 (.ref T) cx) ∧ base.get? T = none ∧ T ≠ e ∧ h.get? T = some oT ∧ oT.data = .fields ts ∧ ts[3]? = some fl

theorem FlyAt.weaken {base : Heap} {env : Env} {l : List Env} {e : Addr} {C : Value} {dx : Option Addr} {cx fl : Value} {h : Heap} (x : FlyAt base (env :: l) e C dx cx fl h) : FlyAt base l e C dx cx fl h :=
  ⟨x.1, x.2.1, x.2.2.1.2.2, x.2.2.2⟩

section
variable {M : Model} {A : Around} {E : Value → Shared → Prop} {s : Shared} {base : Heap} {env : Env} {outer : List Env} {L e : Addr} {C : Value} {dx : Option Addr} {cx fl : Value} {Q : Unit → Shared → Prop}

/-- the entry of a traceback is made and hung onto the exception -/
theorem fly_entry {t0 tb head : Value} {hadNext : Bool} (hfr : A.frames = some (env :: outer)) (hl : s.heap.FunFrames base (env :: outer)) (hf : env.frame = some L)
    (he : s.heap.get? e = some (excO C dx t0 tb cx)) (hkb : base.StaysIn s.heap) (hen : base.get? e = none)
    (h : ∀ h', FlyAt base (env :: outer) e C dx cx (rawInt L) h' → s.heap.UpToSlots h' → Q () { s with heap := h' }) :
    wpAny M A (do let a ← frameOf env; let pl ← entryPlaceOf L hadNext; let b ← EntryCells.newEntry head a .none (rawInt L) .none pl; setField (.ref e) 1 b) Q E s := by
  have hene : e ∉ (env :: outer).filterMap (·.frame) := by
    intro hm
    obtain ⟨_, o, ho, hnf⟩ := hl.mem hm
    rw [he] at ho
    cases ho
    exact hnf _ rfl
  refine wpAny_bind (wpAny_frameOf_fun hfr hl hf fun h₁ hs₁ => wpAny_bind (wpAny_entryPlaceOf fun pl hpl => ?_))
  unfold EntryCells.newEntry newFields
  refine wpAny_bind (wpAny_newObj_type ?_ (hpl.sizeOk5 _ _ _ _ _))
  have he₁ : h₁.get? e = some (excO C dx t0 tb cx) := (hs₁.2.1 e hene).trans he
  have kb₁ : base.StaysIn h₁ := by
    intro b o hbo
    refine (hs₁.2.1 b fun hm => ?_).trans (hkb b o hbo)
    rw [(hl.mem hm).1] at hbo
    cases hbo
  generalize hts : ([head, .ref L, .none, rawInt L, .none] ++ (if pl.isEmpty then List.replicate 6 Value.none else pl)).toArray = ts
  have h3 : ts[3]? = some (rawInt L) := by
    subst hts
    rcases hpl with rfl | ⟨_, _, _, _, _, _, _, rfl⟩ <;> simp
  have hTe : h₁.objs.size ≠ e := Nat.ne_of_gt (Heap.lt_size he₁)
  have he₂ : (h₁.push { cls := .type "traceback", dict := none, data := .fields ts }).get? e = some (excO C dx t0 tb cx) := Heap.get?_push_of_some _ he₁
  refine wpAny_setField he₂ rfl (show 1 < 6 by decide) (h _ ?_ ?_)
  · have other : ∀ b, b ≠ e → ((h₁.push { cls := .type "traceback", dict := none, data := .fields ts }).update e (Obj.mapFields (·.setIfInBounds 1 (Value.ref h₁.objs.size)))).get? b = (h₁.push { cls := .type "traceback", dict := none, data := .fields ts }).get? b := fun b hb => Heap.get?_update_other _ _ (Ne.symm hb)
    refine ⟨fun b o hbo => ?_, hen, ?_, t0, h₁.objs.size, _, ts, ?_, kb₁.fresh, hTe, (other _ hTe).trans (Heap.get?_push_size _ rfl), rfl, h3⟩
    · rw [other b (by intro q; rw [q, hen] at hbo; cases hbo)]
      exact Heap.get?_push_of_some _ (kb₁ b o hbo)
    · refine hl.of_keeps fun b o hb hnf => ?_
      obtain ⟨sl, hs⟩ := hs₁.2.2 b o hb
      have hbe : b ≠ e := by intro q; rw [q, he] at hb; cases hb; exact hnf _ rfl
      exact ⟨_, (other b hbe).trans (Heap.get?_push_of_some _ hs), rfl⟩
    · exact (Heap.get?_update_self (Obj.mapFields (·.setIfInBounds 1 (Value.ref h₁.objs.size))) he₂ rfl).trans rfl
  · intro b o hb hnf
    obtain ⟨sl, hs⟩ := hs₁.2.2 b o hb
    have hbe : b ≠ e := by intro q; rw [q, he] at hb; cases hb; exact hnf _ rfl
    exact ⟨sl, (Heap.get?_update_other _ _ (Ne.symm hbe)).trans (Heap.get?_push_of_some _ hs)⟩

/-- it was made here: the first entry -/
theorem fly_note1 {t0 : Value} (hfr : A.frames = some (env :: outer)) (hl : s.heap.FunFrames base (env :: outer)) (hf : env.frame = some L)
    (he : s.heap.get? e = some (excO C dx t0 .none cx)) (hkb : base.StaysIn s.heap) (hen : base.get? e = none)
    (h : ∀ h', FlyAt base (env :: outer) e C dx cx (rawInt L) h' → s.heap.UpToSlots h' → Q () { s with heap := h' }) : wpAny M A (noteFrame (.ref e) env) Q E s := by
  unfold noteFrame
  simp only [hf]
  refine wpAny_bind (wpAny_field he rfl (x := .none) rfl ?_)
  rw [if_neg (by decide)]
  exact fly_entry hfr hl hf he hkb hen h

/-- it came from a callee: one more entry -/
theorem fly_note (hfr : A.frames = some (env :: outer)) (hf : env.frame = some L) (hx : FlyAt base (env :: outer) e C dx cx .none s.heap)
    (h : ∀ h', FlyAt base (env :: outer) e C dx cx (rawInt L) h' → s.heap.UpToSlots h' → Q () { s with heap := h' }) : wpAny M A (noteFrame (.ref e) env) Q E s := by
  obtain ⟨hkb, hen, hl, t0, T, oT, ts, he, hnT, hTe, hT, hdT, h3⟩ := hx
  have h3s : 3 < ts.size := (Array.getElem?_eq_some_iff.mp h3).1
  unfold noteFrame
  simp only [hf]
  refine wpAny_bind (wpAny_field he rfl (x := .ref T) rfl ?_)
  rw [if_pos (show (Value.ref T != Value.none) = true from by simp)]
  refine wpAny_bind (wpAny_field hT hdT h3 ?_)
  rw [if_neg (show ¬ ((Value.none == rawInt L) = true) from by simp [rawInt])]
  refine wpAny_bind (wpAny_setField hT hdT h3s ?_)
  have other : ∀ b, b ≠ T → (s.heap.update T (Obj.mapFields (·.setIfInBounds 3 Value.none))).get? b = s.heap.get? b := fun b hb => Heap.get?_update_other _ _ (Ne.symm hb)
  have plain : ∀ b o, s.heap.get? b = some o → (∀ vs, o.data ≠ .fields vs) → b ≠ T := by
    intro b o hb hnf q
    rw [q, hT] at hb
    cases hb
    exact hnf _ hdT
  refine fly_entry hfr (hl.of_keeps fun b o hb hnf => ⟨o, (other b (plain b o hb hnf)).trans hb, rfl⟩) hf ((other e (Ne.symm hTe)).trans he)
    (fun b o hbo => (other b fun q => by rw [q, hnT] at hbo; cases hbo).trans (hkb b o hbo)) hen fun h' x u => h h' x ?_
  intro b o hb hnf
  exact u b o ((other b (plain b o hb hnf)).trans hb) hnf

theorem fly_flight {l : List Env} (hx : FlyAt base l e C dx cx fl s.heap) (h : ∀ h', FlyAt base l e C dx cx .none h' → s.heap.UpToSlots h' → Q () { s with heap := h' }) :
    wpAny M A (setFlight (.ref e) none) Q E s := by
  obtain ⟨hkb, hen, hl, t0, T, oT, ts, he, hnT, hTe, hT, hdT, h3⟩ := hx
  have h3s : 3 < ts.size := (Array.getElem?_eq_some_iff.mp h3).1
  unfold setFlight
  refine wpAny_bind (wpAny_field he rfl (x := .ref T) rfl ?_)
  rw [if_pos (show (Value.ref T != Value.none) = true from by simp)]
  have other : ∀ b, b ≠ T → (s.heap.update T (Obj.mapFields (·.setIfInBounds 3 ((none : Option Addr).elim Value.none fun f => rawInt f)))).get? b = s.heap.get? b := fun b hb => Heap.get?_update_other _ _ (Ne.symm hb)
  have plain : ∀ b o, s.heap.get? b = some o → (∀ vs, o.data ≠ .fields vs) → b ≠ T := by
    intro b o hb hnf q
    rw [q, hT] at hb
    cases hb
    exact hnf _ hdT
  refine wpAny_setField hT hdT h3s (h _ ⟨fun b o hbo => (other b fun q => by rw [q, hnT] at hbo; cases hbo).trans (hkb b o hbo), hen,
    hl.of_keeps fun b o hb hnf => ⟨o, (other b (plain b o hb hnf)).trans hb, rfl⟩, t0, T, _, _, (other e (Ne.symm hTe)).trans he, hnT, hTe,
    Heap.get?_update_self _ hT (Obj.isFreed_of_fields (Obj.data_mapFields hdT _)), Obj.data_mapFields hdT _, by simp [h3s]⟩ fun b o hb hnf => ⟨o.slots, (other b (plain b o hb hnf)).trans hb⟩)

theorem fly_again (hf : env.frame = some L) {l : List Env} (hx : FlyAt base l e C dx cx (rawInt L) s.heap) (h : Q () s) : wpAny M A (noteFrame (.ref e) env) Q E s := by
  obtain ⟨hkb, hen, hl, t0, T, oT, ts, he, hnT, hTe, hT, hdT, h3⟩ := hx
  unfold noteFrame
  simp only [hf]
  refine wpAny_bind (wpAny_field he rfl (x := .ref T) rfl ?_)
  rw [if_pos (show (Value.ref T != Value.none) = true from by simp)]
  refine wpAny_bind (wpAny_field hT hdT h3 ?_)
  rw [if_pos (show (rawInt L == rawInt L) = true from by simp)]
  exact wpAny_pure h

theorem fly_leave1 {t0 : Value} (hfr : A.frames = some (env :: outer)) (hl : s.heap.FunFrames base (env :: outer)) (hf : env.frame = some L)
    (he : s.heap.get? e = some (excO C dx t0 .none cx)) (hkb : base.StaysIn s.heap) (hen : base.get? e = none)
    (h : ∀ h', FlyAt base outer e C dx cx .none h' → s.heap.UpToSlots h' → Q () { s with heap := h' }) : wpAny M A (leaving env (.ref e)) Q E s := by
  unfold leaving
  refine wpAny_bind (fly_note1 hfr hl hf he hkb hen fun h₁ x₁ u₁ => fly_flight x₁ fun h₂ x₂ u₂ => ?_)
  exact h h₂ x₂.weaken (u₁.trans u₂)

theorem fly_leave (hfr : A.frames = some (env :: outer)) (hf : env.frame = some L) (hx : FlyAt base (env :: outer) e C dx cx .none s.heap)
    (h : ∀ h', FlyAt base outer e C dx cx .none h' → s.heap.UpToSlots h' → Q () { s with heap := h' }) : wpAny M A (leaving env (.ref e)) Q E s := by
  unfold leaving
  refine wpAny_bind (fly_note hfr hf hx fun h₁ x₁ u₁ => fly_flight x₁ fun h₂ x₂ u₂ => ?_)
  exact h h₂ x₂.weaken (u₁.trans u₂)
end

/-! ## MExc -/
section
open PySem.Builtin PySem.Builtin.ObjectAttr

theorem fr_none {h₀ h : Heap} {L : Addr} {m : Str → Option Value} (F : Fr h₀ L h m) {b : Addr} (e : h.get? b = none) : h₀.get? b = none := by
  cases q : h₀.get? b with
  | none => rfl
  | some o => have := F.keep b o q; rw [e] at this; cases this

theorem ns_at {h : Heap} {a : Addr} {c : Value} {dd : Option Addr} {es : Array DictEntry} {n : Nat} {sl : Array (Option Value)} (ho : h.get? a = some ⟨c, dd, .dict es n, sl⟩) (hk : StrKeys es) : h.Ns a (nsFind es) :=
  ⟨_, es, n, ho, rfl, hk, fun _ => rfl⟩

noncomputable abbrev excMro (C : Addr) : List Value := [.ref C, .type "Exception", .type "BaseException", .type "object"]

theorem refuse_exc (self : Value) (C : Addr) : refuseLoop self "__setattr__" (excMro C) = pure () := by
  rw [excMro, refuseLoop_ref]
  kernel_rfl

section
variable {prog : Program} {w : World} {A : Around} {K : Frag} {C x : Addr} {s : Shared} {h₀ : Heap} {L : Addr} {m : Str → Option Value} {news : List (Addr × Obj)} {R : Result → Shared → Prop} {E : Value → Shared → Prop}

theorem osa_exc {ox : Obj} {od : Option Obj} {name : Str} {tk : Tok} {v : Value} {cd : ClassData} (X : K.In s.heap) (I : InstAt s.heap x ox C od) (hcd : clsIn K C = some cd) (hm : cd.mro = excMro C) (ht : takerIn K C name = some none)
    (h : ∀ b, wpAny (model prog w) A.in1 (storeInOwnDict (.ref x) (.ref C) (.str name tk) name v b)
      (fun fin s' => match fin with | .done f => R (.ok f) s' | .again c' => c'.quiet = true ∧ codeAny (model prog w) A c' R s') (fun e s' => R (.error e) s') s) :
    codeAny (model prog w) A (.call (.builtin "object.__setattr__") ⟨[.ref x, .str name tk, v], []⟩) R s := by
  have SF := PySem.F.store_object
  have sub : Looks (model prog w) s.heap (isInstance (.ref x) (.type "object")) true := I.type.andThen (looks_mroIn X (by unfold mroIn; rw [hcd, Option.bind_some, hm]; rfl))
  refine codeAny_call_builtin SF.slot.plain SF.entry (@check_slot (model prog w) _ _ s "object.__setattr__" "object" "__setattr__" (.ref x) [.str name tk, v] [] _ SF.kind SF.split sub (SF.args (.ref x) (.str name tk) v) ?_)
  obtain ⟨attr, ha, hr⟩ := Option.bind_eq_some_iff.mp ht
  have hmL : Looks (model prog w) s.heap (mroOf (.ref C)) cd.mro := (looks_clsIn X hcd).andThen .now
  have L3 : Looks (model prog w) s.heap (storeTaker? attr) none := by
    cases attr with
    | none => exact .now
    | some a =>
      obtain ⟨b, hb, hb'⟩ := Option.map_eq_some_iff.mp hr
      refine (looks_takesIn X hb).andThen ?_
      cases b with
      | false => exact .now
      | true => cases hb'
  rw [osa_eq, refuse_eq]
  refine wpAny_bind (wpAny_bind (I.type.here (wpAny_bind (hmL.here ?_))))
  rw [hm, refuse_exc]
  exact wpAny_pure (wpAny_bind (I.type.here (wpAny_bind ((looks_findIn X ha).here (wpAny_bind (L3.here (h _)))))))

/-- the name goes into the dict that the exception has -/
theorem store_exc {dx : Addr} {name : Str} {tk : Tok} {v : Value} {pre post : List (Addr × Obj)} {es es' : List DictEntry} {n n' : Nat} {P : Fin → Shared → Prop}
    (F : Fr h₀ L s.heap m) (N : News h₀ L s.heap (pre ++ (dx, dictOf es n) :: post)) (hl : (getL name es).isSome = true) (h1 : ∀ p ∈ pre, p.1 ≠ dx) (h2 : ∀ p ∈ post, p.1 ≠ dx)
    (e : putL name (PyData.keyHash w.params name) (.str name s.toks) v es = es') (e' : putN name es n = n') (hz : es'.length ≤ 1000)
    (h : ∀ h', Fr h₀ L h' m → News h₀ L h' (pre ++ (dx, dictOf es' n') :: post) → P (.done (.ret .none)) { s with heap := h', toks := s.toks + 1 }) :
    wpAny (model prog w) A (storeInDict dx (.str name tk) name v) P E s := by
  have ep : Obj.putName name (PyData.keyHash w.params name) (.str name s.toks) v (dictOf es n) = dictOf es' n' := by rw [putName_dict, e, e']
  obtain ⟨U1, U2⟩ := news_upd (f := Obj.putName name (PyData.keyHash w.params name) (.str name s.toks) v) F N h1 h2 ep rfl
  have D := (N (dx, dictOf es n) (by simp)).1
  have D' := (U2 (dx, dictOf es' n') (by simp)).1
  unfold storeInDict
  refine wpAny_bind (wpAny_pure (wpAny_bind ?_))
  unfold nsSet
  refine wpAny_bind (wpAny_bind (wpAny_askSetting (wpAny_pure (wpAny_bind (wpAny_mkText (wpAny_bind (wpAny_loadPart D ?_)))))))
  dsimp only
  have c : (!es.toArray.any (·.key.isStr name) && es.toArray.any (·.refKey)) = false := by
    rw [← Array.any_toList, ← Array.any_toList]
    unfold getL at hl
    split at hl
    · rename_i en he
      rw [List.any_eq_true.mpr ⟨en, List.mem_of_find?_eq_some he, List.find?_some he⟩]; rfl
    · split at hl
      · cases hl
      · rename_i z; rw [Bool.not_eq_true] at z; rw [show es.toArray.toList = es from rfl, z, Bool.and_false]
  rw [aRefKeyMayBeTheName_at, c]
  refine wpAny_updatePart D ?_
  refine wpAny_bind (wpAny_lookBehind D' (pastItsLine_dict (by rw [List.size_toArray, sizeLine_eq]; omega)) ?_)
  exact wpAny_pure (h _ U1 U2)

theorem notCls_exc {Cv : Value} {dd : Option Addr} {t0 tb cx : Value} : notCls (excO Cv dd t0 tb cx) = true := rfl

/-- the exception's first attribute: its dict is made -/
theorem set_exc1 {t0 tb cx v : Value} {name : Str} {cd : ClassData} {u : Addr → List (Addr × Obj)} {Q : Unit → Shared → Prop} (F : Fr h₀ L s.heap m) (X₀ : K.In h₀) (N : News h₀ L s.heap news) (hin : (x, excO (.ref C) none t0 tb cx) ∈ news)
    (hs : findIn K (.ref C) "__setattr__" = some (some (.builtin "object.__setattr__"))) (hcd : clsIn K C = some cd) (hm : cd.mro = excMro C) (hd : cd.hasDict = true) (ht : takerIn K C name = some none)
    (U : ∀ d, Upd x (excO (.ref C) none t0 tb cx) (excO (.ref C) (some d) t0 tb cx) news (u d))
    (h : ∀ d h', Fr h₀ L h' m → News h₀ L h' ((d, dictOf [⟨PyData.keyHash w.params name, .str name (s.toks + 1), v⟩] 1) :: u d) → (∀ p ∈ news, p.1 < d) → Q () { s with heap := h', toks := s.toks + 2 }) :
    wpAny (model prog w) A (setAttr (.ref x) name v) Q E s := by
  have X := X₀.keeps F.keep
  have hx := N.get hin
  have I : InstAt s.heap x (excO (.ref C) none t0 tb cx) C none := ⟨hx, rfl, rfl, trivial⟩
  refine set_plain X I hs (osa_exc (s := { s with toks := s.toks + 1 }) X I hcd hm ht fun b => ?_)
  refine wpAny_bind (wpAny_pure ?_)
  unfold ownDictForStores
  refine wpAny_bind ?_
  show wpAny _ _ (instanceDict x true) _ _ _
  unfold instanceDict
  refine wpAny_bind (wpAny_loadPart hx ?_)
  dsimp only
  refine wpAny_bind (looks_clsIn X hcd _ _ _ _ (fun _ _ e => e) ?_)
  rw [hd]
  simp only [Bool.not_true, Bool.false_eq_true, if_false, Bool.false_or, typeHasDict]
  have lt : ∀ p ∈ news, p.1 < s.heap.objs.size := fun p hp => Heap.lt_size (N p hp).1
  have F₁ := F.push emptyDict
  have N₁ := N.push F emptyDict
  obtain ⟨pre, post, e1, e2, p1, p2⟩ := (U s.heap.objs.size).split
  rw [e1] at N₁
  obtain ⟨F₂, N₂⟩ := news_upd (pre := (s.heap.objs.size, emptyDict) :: pre) (f := fun o => { o with dict := some s.heap.objs.size }) F₁ N₁ (fun p hp => by
    rcases List.mem_cons.mp hp with rfl | hp
    · exact Nat.ne_of_gt (Heap.lt_size hx)
    · exact p1 p hp) p2 rfl rfl
  refine wpAny_bind (wpAny_alloc (wpAny_bind (wpAny_update (Heap.get?_push_of_some _ hx) (wpAny_pure ?_))))
  dsimp only
  refine store_exc (pre := []) (s := ⟨_, s.gens, s.drawn, s.toks + 1, s.os⟩) F₂ N₂ rfl (fun _ hp => (nomatch hp)) (fun p hp => ?_) rfl rfl (by simp [putL]) fun h' F' N' => ?_
  · rcases List.mem_append.mp hp with hp | hp
    · exact Nat.ne_of_lt (lt p (by rw [e1]; exact List.mem_append_left _ hp))
    · rcases List.mem_cons.mp hp with rfl | hp
      · exact Nat.ne_of_lt (Heap.lt_size hx)
      · exact Nat.ne_of_lt (lt p (by rw [e1]; exact List.mem_append_right _ (.tail _ hp)))
  · exact h _ h' F' (by rw [e2]; exact N') lt

/-- one more attribute of the exception's -/
theorem set_exc {t0 tb cx v : Value} {name : Str} {cd : ClassData} {dx : Addr} {es es' : List DictEntry} {n n' : Nat} {news' : List (Addr × Obj)} {Q : Unit → Shared → Prop} (F : Fr h₀ L s.heap m) (X₀ : K.In h₀) (N : News h₀ L s.heap news) (hin : (x, excO (.ref C) (some dx) t0 tb cx) ∈ news) (_hdn : (dx, dictOf es n) ∈ news)
    (hs : findIn K (.ref C) "__setattr__" = some (some (.builtin "object.__setattr__"))) (hcd : clsIn K C = some cd) (hm : cd.mro = excMro C) (hd : cd.hasDict = true) (ht : takerIn K C name = some none) (hl : (getL name es).isSome = true)
    (e : (putL name (PyData.keyHash w.params name) (.str name (s.toks + 1)) v es, putN name es n) = (es', n')) (U : Upd dx (dictOf es n) (dictOf es' n') news news') (hz : es'.length ≤ 1000)
    (h : ∀ h', Fr h₀ L h' m → News h₀ L h' news' → Q () { s with heap := h', toks := s.toks + 2 }) :
    wpAny (model prog w) A (setAttr (.ref x) name v) Q E s := by
  have X := X₀.keeps F.keep
  have hx := N.get hin
  obtain ⟨pre, post, rfl, rfl, p1, p2⟩ := U.split
  obtain ⟨q1, q2⟩ := Prod.mk.inj e
  have I : InstAt s.heap x (excO (.ref C) (some dx) t0 tb cx) C (some (dictOf es n)) := ⟨hx, rfl, rfl, (N (dx, dictOf es n) (by simp)).1⟩
  refine set_plain X I hs (osa_exc (s := { s with toks := s.toks + 1 }) X I hcd hm ht fun b => ?_)
  refine wpAny_bind (wpAny_pure ?_)
  unfold ownDictForStores
  refine wpAny_bind ?_
  show wpAny _ _ (instanceDict x true) _ _ _
  unfold instanceDict
  refine wpAny_bind (wpAny_loadPart hx ?_)
  dsimp only
  refine wpAny_bind (looks_clsIn X hcd _ _ _ _ (fun _ _ e => e) ?_)
  rw [hd]
  simp only [Bool.not_true, Bool.false_eq_true, if_false]
  refine wpAny_pure ?_
  dsimp only
  exact store_exc (s := ⟨_, s.gens, s.drawn, s.toks + 1, s.os⟩) F N hl p1 p2 q1 q2 hz fun h' F' N' => h h' F' N'

/-- Exception.__init__(self, v) -/
theorem init_exc {t : Addr} {tb cx v : Value} {dd : Option Addr} {nm q : Str} {Nn : Addr} {bs : List Value} {hdct : Bool} {sn : List Str} {sub : List Value} {ab : Bool} {col : Option Bool} {cdd : Option Addr} {k0 k1 k2 k3 k5 : Option Value} {u : Addr → List (Addr × Obj)} {Q : Value → Shared → Prop}
    (F : Fr h₀ L s.heap m) (X₀ : K.In h₀) (N : News h₀ L s.heap news) (hin : (x, excO (.ref C) dd (.ref t) tb cx) ∈ news)
    (hC : K.lookup C = some (excClassObj nm q C Nn bs [.type "Exception", .type "BaseException", .type "object"] hdct sn sub ab col cdd k0 k1 k2 k3 k5 "Exception.__new__"))
    (U : ∀ d, Upd x (excO (.ref C) dd (.ref t) tb cx) (excO (.ref C) dd (.ref d) tb cx) news (u d))
    (h : ∀ d h', Fr h₀ L h' m → News h₀ L h' ((d, { cls := .type "tuple", data := .seq #[v] }) :: u d) → (∀ p ∈ news, p.1 < d) → Q .none { s with heap := h' }) :
    wpAny (model prog w) A (call (.builtin "Exception.__init__") [.ref x, v]) Q E s := by
  have FB := PySem.F.excBase_Exception
  have hx := N.get hin
  have hCs := (X₀.keeps F.keep) _ _ hC
  have lt : ∀ p ∈ news, p.1 < s.heap.objs.size := fun p hp => Heap.lt_size (N p hp).1
  have F₁ := F.push { cls := .type "tuple", data := .seq #[v] }
  have N₁ := N.push F { cls := .type "tuple", data := .seq #[v] }
  obtain ⟨pre, post, e1, e2, p1, p2⟩ := (U s.heap.objs.size).split
  rw [e1] at N₁
  have hget := Heap.get?_push_of_some { cls := .type "tuple", data := .seq #[v] } hx
  obtain ⟨F₂, N₂⟩ := news_upd (pre := (s.heap.objs.size, { cls := .type "tuple", data := .seq #[v] }) :: pre) (f := Obj.mapFields (·.setIfInBounds 0 (.ref s.heap.objs.size))) F₁ N₁ (fun p hp => by
    rcases List.mem_cons.mp hp with rfl | hp
    · exact Nat.ne_of_gt (Heap.lt_size hx)
    · exact p1 p hp) p2 (o' := excO (.ref C) dd (.ref s.heap.objs.size) tb cx) rfl rfl
  have hq := h _ _ F₂ (by rw [e2]; exact N₂) lt
  obtain ⟨hp, g, d, tk, os⟩ := s
  dsimp only at hCs hx hget hq
  refine wpAny_call (codeAny_call_builtin FB.init.plain FB.initEntry (wpAny_check_init_sub FB hCs hx rfl ?_))
  wp_walk
  exact hq

noncomputable def RaisX (M : Model) (A : Around) (K : Frag) (E : Value → Shared → Prop) (v : Value) (s₁ : Shared) : Prop :=
  ∃ x C cd dd t0 cx, v = .ref x ∧ s₁.heap.get? x = some (excO (.ref C) dd t0 .none cx) ∧ K.In s₁.heap ∧ clsIn K C = some cd ∧ cd.mro = excMro C ∧ typeIn K (.ref C) = some (.type "type") ∧ wpAny M A (raiseNew (.ref x) : Sem Flow) (fun _ _ => False) E s₁

theorem Raise_own {env : Env} {e : PySem.Expr} {pos : Pos} {Q : Flow → Shared → Prop} (h : wpAny (model prog w) A (eval e env) (RaisX (model prog w) A K E) E s) : wpAny (model prog w) A (exec (.Raise (some e) none pos) env) Q E s := by
  show wpAny (model prog w) A (do standAt pos; raiseStmt env (some (do let v ← eval e env; standAt pos; pure v)) none) Q E s
  refine wpAny_bind (wpAny_standAt ?_)
  unfold raiseStmt
  dsimp only
  refine wpAny_bind (wpAny_bind (wpAny_mono h (fun v s₁ h₁ => wpAny_bind (wpAny_standAt (wpAny_pure ?_))) fun _ _ x => x))
  obtain ⟨x, C, cd, dd, t0, cx, rfl, hx, X, hcd, hm, hT, hR⟩ := h₁
  have tx : Looks (model prog w) s₁.heap (typeOf (.ref x)) (.ref C) := (Looks.ld hx).andThen .now
  have isB : Looks (model prog w) s₁.heap (isInstance (.ref x) (.type "BaseException")) true := tx.andThen (looks_mroIn X (by unfold mroIn; rw [hcd, Option.bind_some, hm]; rfl))
  have notT : Looks (model prog w) s₁.heap (isType (.ref x)) false := (Looks.ld hx).andThen .now
  refine wpAny_bind (wpAny_pure ?_)
  dsimp only
  refine wpAny_bind (wpAny_holding ?_)
  unfold excFromValue isExcClass
  refine wpAny_bind (wpAny_bind (notT.here ?_))
  simp only [Bool.false_eq_true, if_false]
  refine wpAny_pure ?_
  simp only [Bool.false_eq_true, if_false]
  refine wpAny_bind (isB.here ?_)
  simp only [if_true]
  refine wpAny_pure ?_
  refine wpAny_bind (notT.here ?_)
  simp only [Bool.false_eq_true, if_false]
  unfold raisedInstance
  refine wpAny_bind (wpAny_bind (tx.here (wpAny_bind ((looks_typeIn X hT).here ?_))))
  rw [if_pos (by decide)]
  refine wpAny_pure ?_
  unfold setFlight
  refine wpAny_bind (wpAny_bind (wpAny_field hx rfl (x := .none) rfl ?_))
  rw [if_neg (by decide)]
  exact wpAny_pure (wpAny_mono hR (fun _ _ f => f.elim) fun _ _ z => z)

theorem raiseNew_none {x : Addr} {Q : Flow → Shared → Prop} (hh : A.handled = none) (h : E (.ref x) s) : wpAny (model prog w) A (raiseNew (.ref x) : Sem Flow) Q E s := wpAny_raiseNew_none hh h

theorem raiseNew_under {x y : Addr} {t0 ta tb : Value} {C₁ C₂ : Value} {d₁ d₂ : Option Addr} {news news' : List (Addr × Obj)} {Q : Flow → Shared → Prop} (hh : A.handled = some (.ref y)) (F : Fr h₀ L s.heap m) (N : News h₀ L s.heap news) (hne : y ≠ x)
    (hy : s.heap.get? y = some (excO C₁ d₁ t0 tb .none)) (U : Upd x (excO C₂ d₂ ta .none .none) (excO C₂ d₂ ta .none (.ref y)) news news')
    (h : ∀ h', Fr h₀ L h' m → News h₀ L h' news' → E (.ref x) { s with heap := h' }) : wpAny (model prog w) A (raiseNew (.ref x) : Sem Flow) Q E s := by
  obtain ⟨pre, post, rfl, rfl, p1, p2⟩ := U.split
  have hx := (N (x, excO C₂ d₂ ta .none .none) (by simp)).1
  obtain ⟨F', N'⟩ := news_upd (f := Obj.mapFields (·.setIfInBounds 2 (.ref y))) F N p1 p2 (o' := excO C₂ d₂ ta .none (.ref y)) rfl rfl
  unfold raiseNew
  refine wpAny_bind (wpAny_handled ?_)
  rw [hh]
  dsimp only
  rw [if_pos (by simp [hne])]
  refine wpAny_bind (wpAny_holding (wpAny_runValue (codeAny_builtin (b := Builtin.«proto.unchain») (by first | exact entryFor_of_tree (by kernel_rfl) | exact entryFor_of_fast (by kernel_rfl)) ?_)))
  unfold Builtin.«proto.unchain»
  dsimp only
  refine wpAny_bind (wpAny_field hy rfl (x := .none) rfl ?_)
  rw [if_pos (by decide)]
  refine wpAny_bind (wpAny_pure (wpAny_pure ?_))
  unfold updateField
  refine wpAny_bind (wpAny_bind (wpAny_load hx ?_))
  dsimp only
  rw [if_pos (by simp)]
  exact wpAny_update hx (wpAny_throw (h _ F' N'))
end

end
/-! ## MCatch -/

/-- an exception of an own class flies; the ledger stands -/
noncomputable def FlyK (base : Heap) (l : List Env) (e : Addr) (C : Value) (dx : Addr) (cx : Value) (news : List (Addr × Obj)) (h : Heap) : Prop :=
  ∃ B, base.StaysIn B ∧ (∀ q ∈ news, B.get? q.1 = some q.2 ∧ base.get? q.1 = none) ∧ FlyAt B l e C (some dx) cx .none h

theorem flyAt_base {base B h : Heap} {l : List Env} {e : Addr} {C : Value} {dx : Option Addr} {cx fl : Value} (k : base.StaysIn B) (x : FlyAt B l e C dx cx fl h) : FlyAt base l e C dx cx fl h := by
  obtain ⟨f1, f2, f3, t0, T, oT, ts, a1, a2, a3⟩ := x
  exact ⟨fun b o q => f1 b o (k b o q), fresh_of_stays k f2, funFrames_base k f3, t0, T, oT, ts, a1, fresh_of_stays k a2, a3⟩

theorem FlyK.sub {base : Heap} {l : List Env} {e dx : Addr} {C cx : Value} {news news' : List (Addr × Obj)} {h : Heap} (x : FlyK base l e C dx cx news h) (hs : ∀ p ∈ news', p ∈ news) : FlyK base l e C dx cx news' h :=
  let ⟨B, b1, b2, b3⟩ := x; ⟨B, b1, fun q hq => b2 q (hs q hq), b3⟩

section
variable {M : Model} {A : Around} {E : Value → Shared → Prop} {s' : Shared} {base g g₂ h : Heap} {outer : List Env} {L a e dx : Addr} {m : Str → Option Value} {name : Str} {scope : Scope} {cd : Value} {Q : Unit → Shared → Prop} {news news₀ : List (Addr × Obj)} {C cx t0 : Value}

theorem leave_raiseM (K : Below A base outer g) (F : Fr g L s'.heap m) (N : News g L s'.heap news₀) (hin : (e, excO C (some dx) t0 .none cx) ∈ news₀) (hs : ∀ p ∈ news, p ∈ news₀) (hne : ∀ p ∈ news, p.1 ≠ e)
    (hQ : ∀ h', FlyK base outer e C dx cx news h' → g.UpToSlots h' → Q () { s' with heap := h' }) (hk : scope.kind = .function := by rfl) :
    wpAny M (A.deeper (envOf name scope L a cd)) (leaving (envOf name scope L a cd) (.ref e)) Q E s' := by
  have K' := K.push (name := name) (a := a) (cd := cd) F hk
  have he := (N _ hin).1
  have hg := (N _ hin).2.2
  have hb : base.get? e = none := fresh_of_stays K.stays hg
  have hin' : ∀ env ∈ (envOf name scope L a cd :: outer), ∀ b, env.frame = some b → b ∈ e :: (envOf name scope L a cd :: outer).filterMap (·.frame) := fun env he b hb => .tail _ (List.mem_filterMap.mpr ⟨env, he, hb⟩)
  have fr : ∀ b ∈ (envOf name scope L a cd :: outer).filterMap (·.frame), base.get? b = none := fun b hm => (K'.frames.mem hm).1
  have st : base.StaysIn (hideAll s'.heap (e :: (envOf name scope L a cd :: outer).filterMap (·.frame))) := fun b o q => hideAll_get _ (K'.stays b o q) fun hm => by
    rcases List.mem_cons.mp hm with rfl | hm
    · rw [hb] at q; cases q
    · rw [fr b hm] at q; cases q
  have hl : ∀ q ∈ news, (hideAll s'.heap (e :: (envOf name scope L a cd :: outer).filterMap (·.frame))).get? q.1 = some q.2 ∧ base.get? q.1 = none := fun q hq => by
    have P := N q (hs q hq)
    refine ⟨hideAll_get _ P.1 fun hm => ?_, fresh_of_stays K.stays P.2.2⟩
    rcases List.mem_cons.mp hm with q' | hm
    · exact hne q hq q'
    · obtain ⟨env, he, hf⟩ := List.mem_filterMap.mp hm
      rcases List.mem_cons.mp he with rfl | he
      · exact P.2.1 (Option.some.inj hf).symm
      · obtain ⟨o, ho, _⟩ := (K.frames.mem (List.mem_filterMap.mpr ⟨env, he, hf⟩)).2
        rw [P.2.2] at ho; cases ho
  refine fly_leave1 (K'.stack) (funFrames_hide K'.frames hin') rfl he (fun b o q => of_hideAll _ q) (hideAll_none _ (.head _)) fun h' x u => ?_
  exact hQ h' ⟨_, st, hl, x⟩ ((Heap.UpToSlots.of_keeps F.keep).trans u)

theorem leave_onM (K : Below A base outer g) (F : Fr g L g₂ m) (R : FlyK base (envOf name scope L a cd :: outer) e C dx cx news s'.heap) (hsm : g₂.UpToSlots s'.heap)
    (hQ : ∀ h', FlyK base outer e C dx cx news h' → g.UpToSlots h' → Q () { s' with heap := h' }) :
    wpAny M (A.deeper (envOf name scope L a cd)) (leaving (envOf name scope L a cd) (.ref e)) Q E s' := by
  obtain ⟨B, hB, hl, hx⟩ := R
  exact fly_leave (Around.frames_deeper K.stack) rfl hx fun h' x u => hQ h' ⟨B, hB, hl, x⟩ ((Heap.UpToSlots.of_keeps F.keep).trans (hsm.trans u))
end

section
variable {prog : Program} {w : World} {A : Around} {K : Frag} {E : Value → Shared → Prop} {s : Shared}
theorem exc_matches {e C C' : Addr} {dd : Option Addr} {t0 tb cx : Value} {cd cd' : ClassData} {b : Bool} {Q : Bool → Shared → Prop} (hx : s.heap.get? e = some (excO (.ref C) dd t0 tb cx)) (X : K.In s.heap) (hcd : clsIn K C = some cd) (hm : cd.mro = excMro C)
    (hcd' : clsIn K C' = some cd') (hm' : cd'.mro = excMro C') (hT : typeIn K (.ref C') = some (.type "type")) (hb : (excMro C).contains (.ref C') = b) (h : Q b s) : wpAny (model prog w) A (excMatches (.ref e) (.ref C')) Q E s := by
  have tx : Looks (model prog w) s.heap (typeOf (.ref e)) (.ref C) := (Looks.ld hx).andThen .now
  have tC := looks_typeIn (M := model prog w) X hT
  have l1 : Looks (model prog w) s.heap (isInstance (.ref C') (.type "tuple")) false := tC.andThen (Looks.of_pure tc_notTuple)
  have l2 : Looks (model prog w) s.heap (isSubtype (.ref C') (.type "BaseException")) true := looks_mroIn X (by unfold mroIn; rw [hcd', Option.bind_some, hm']; rfl)
  have l3 : Looks (model prog w) s.heap (isSubtype (.ref C) (.ref C')) b := looks_mroIn X (by unfold mroIn; rw [hcd, Option.bind_some, hm, ← hb]; rfl)
  have l4 : Looks (model prog w) s.heap (isType (.ref C')) true := by
    unfold clsIn at hcd'
    split at hcd'
    · rename_i q; cases hcd'; exact (Looks.ld (X _ _ q)).andThen .now
    · cases hcd'
  unfold excMatches isExcClass
  refine wpAny_bind (l1.here ?_)
  simp only [Bool.false_eq_true, if_false]
  refine wpAny_bind (wpAny_pure ?_)
  simp only [List.forIn_cons, List.forIn_nil]
  refine wpAny_bind (wpAny_bind (wpAny_bind (wpAny_bind (l4.here ?_))))
  simp only [if_true]
  refine l2.here ?_
  simp only [Bool.not_true, Bool.false_eq_true, if_false]
  refine wpAny_pure (wpAny_pure (wpAny_bind (tx.here (wpAny_bind (wpAny_bind (wpAny_bind (l3.here ?_)))))))
  cases b with
  | true =>
    simp only [if_true]
    exact wpAny_pure (wpAny_pure (wpAny_pure h))
  | false =>
    simp only [Bool.false_eq_true, if_false]
    exact wpAny_pure (wpAny_pure (wpAny_pure h))
end

/-- of a heap: what lies below n and where P says yes -/
noncomputable def freedO : Obj := { cls := .none, data := .freed }
noncomputable def heapOn (h : Heap) (n : Nat) (P : Addr → Bool) : Heap := { h with objs := (h.objs.extract 0 n).mapIdx fun i o => if P i then o else freedO }
theorem heapOn_size (h : Heap) (n : Nat) (P : Addr → Bool) : (heapOn h n P).objs.size ≤ n := by
  simp only [heapOn, Array.size_mapIdx, Array.size_extract]; omega
theorem heapOn_get (h : Heap) (n : Nat) (P : Addr → Bool) {b : Nat} {o : Obj} (e : (heapOn h n P).get? b = some o) : h.get? b = some o ∧ P b = true := by
  unfold Heap.get? heapOn at e
  simp only [Array.getElem?_mapIdx, Array.getElem?_extract] at e
  by_cases hb : b < n
  · have hb' : b < min n h.objs.size - 0 ∨ ¬ b < min n h.objs.size - 0 := Decidable.em _
    rcases hb' with q | q
    · rw [if_pos q, Nat.zero_add] at e
      cases ho : h.objs[b]? with
      | none => rw [ho] at e; cases e
      | some o' =>
        rw [ho] at e
        simp only [Option.map_some] at e
        cases hp : P b with
        | true =>
          rw [hp] at e
          refine ⟨?_, rfl⟩
          unfold Heap.get?
          rw [ho]
          exact e
        | false => rw [hp] at e; simp [freedO] at e
    · rw [if_neg q] at e; cases e
  · have q : ¬ b < min n h.objs.size - 0 := by omega
    rw [if_neg q] at e; cases e
theorem heapOn_has (h : Heap) (n : Nat) (P : Addr → Bool) {b : Nat} {o : Obj} (hb : b < n) (e : h.get? b = some o) (hp : P b = true) : (heapOn h n P).get? b = some o := by
  have hlt : b < h.objs.size := Heap.lt_size e
  unfold Heap.get? heapOn at *
  simp only [Array.getElem?_mapIdx, Array.getElem?_extract]
  rw [if_pos (show b < min n h.objs.size - 0 by omega), Nat.zero_add]
  cases ho : h.objs[b]? with
  | none => rw [ho] at e; cases e
  | some o' => rw [ho] at e; simp only [Option.map_some, hp, if_true]; exact e

theorem funFrames_on {base h : Heap} {n : Nat} {P : Addr → Bool} : ∀ {l : List Env}, h.FunFrames base l → (∀ env ∈ l, ∀ a : Nat, env.frame = some a → a < n ∧ P a = true) → (heapOn h n P).FunFrames base l
  | [], _, _ => trivial
  | env :: _, ⟨hk, ⟨L, o, hf, hn, ho, hd⟩, hr⟩, hp => ⟨hk, ⟨L, o, hf, hn, heapOn_has h n P (hp env (.head _) L hf).1 ho (hp env (.head _) L hf).2, hd⟩, funFrames_on hr fun e he => hp e (.tail _ he)⟩

open Classical in
/-- behind a caught exception: a base that has the frames as they now are -/
theorem rebase {A₀ : Around} {base h₀ h h' : Heap} {outer : List Env} {env : Env} {L e dx : Addr} {m : Str → Option Value} {C cx : Value} {news : List (Addr × Obj)}
    (K : Below A₀ base outer h₀) (F : Fr h₀ L h m) (u : h.UpToSlots h') (R : FlyK base (env :: outer) e C dx cx news h') (hf : env.frame = some L) :
    ∃ h₁ t0 T, Below A₀ base outer h₁ ∧ Fr h₁ L h' m ∧ News h₁ L h' ((e, excO C (some dx) t0 (.ref T) cx) :: news) := by
  obtain ⟨B, hB, hl, hx⟩ := R
  obtain ⟨b1, b2, b3, t0, T, oT, ts, b4, b5, b6, b7, b8, b9⟩ := hx
  have st : base.StaysIn h' := fun b o q => b1 b o (hB b o q)
  have fr' := funFrames_base hB b3
  have hup : ∀ (b : Nat) o, h₀.get? b = some o → b < L := fun b o q => Nat.lt_of_lt_of_le (Heap.lt_size q) F.above
  have hNs : h'.Ns L m := u.ns F.ns
  have hm : ∀ env' ∈ outer, ∀ a : Nat, env'.frame = some a → a < L ∧ (decide (base.get? a ≠ none ∨ a ∈ outer.filterMap (·.frame))) = true := fun env' he a ha => by
    have hmem : a ∈ outer.filterMap (·.frame) := List.mem_filterMap.mpr ⟨env', he, ha⟩
    obtain ⟨_, o, ho, _⟩ := K.frames.mem hmem
    exact ⟨hup a o ho, decide_eq_true (.inr hmem)⟩
  refine ⟨heapOn h' L fun b => decide (base.get? b ≠ none ∨ b ∈ outer.filterMap (·.frame)), t0, T, ⟨K.stack, fun b o q => ?_, funFrames_on fr'.2.2 hm⟩, ⟨hNs, fun b o q => (heapOn_get _ _ _ q).1, heapOn_size _ _ _⟩, fun q hq => ?_⟩
  · exact heapOn_has _ _ _ (hup b o (K.stays b o q)) (st b o q) (decide_eq_true (.inl (by rw [q]; simp)))
  · have gone : ∀ b : Nat, base.get? b = none → b ∉ outer.filterMap (·.frame) → (heapOn h' L fun b => decide (base.get? b ≠ none ∨ b ∈ outer.filterMap (·.frame))).get? b = none := fun b h1 h2 => by
      cases z : (heapOn h' L fun b => decide (base.get? b ≠ none ∨ b ∈ outer.filterMap (·.frame))).get? b with
      | none => rfl
      | some o =>
        have := of_decide_eq_true (heapOn_get _ _ _ z).2
        rcases this with h3 | h3
        · exact absurd h1 h3
        · exact absurd h3 h2
    rcases List.mem_cons.mp hq with rfl | hq
    · refine ⟨b4, fun z => ?_, gone e (fresh_of_stays hB b2) fun z => ?_⟩
      · obtain ⟨oL, es, ep, hL, hd, _⟩ := hNs
        have z' : e = L := z
        rw [z', hL] at b4
        cases b4
        cases hd
      · obtain ⟨_, o, ho, hnf⟩ := fr'.2.2.mem z
        rw [b4] at ho
        cases ho
        exact hnf _ rfl
    · obtain ⟨q1, q2⟩ := hl q hq
      refine ⟨b1 _ _ q1, fun z => ?_, gone q.1 q2 fun z => ?_⟩
      · obtain ⟨_, ⟨L', _, hf', hn', _⟩, _⟩ := b3
        have z' : q.1 = L := z
        rw [hf] at hf'
        obtain rfl : L = L' := Option.some.inj hf'
        rw [z', hn'] at q1
        cases q1
      · have := (b3.2.2.mem z).1
        rw [q1] at this
        cases this

section
variable {prog : Program} {w : World} {A₀ : Around} {KF : Frag} {E : Value → Shared → Prop} {s' : Shared} {base h₀ h : Heap} {outer : List Env} {L a e dx C C' : Addr} {m : Str → Option Value} {name : Str} {scope : Scope} {cd : Value} {Q : Flow → Shared → Prop} {news : List (Addr × Obj)} {cx : Value}
  {p : Program} {loose : List Str} {mean : ExcName → Option Value} {mg mb : Str → Option Value} {x : Str} {np pos : Pos} {b₀ : Stmt} {suite : List Stmt} {rest : List ExceptHandler} {kd kd' : ClassData}

theorem catch_start {hs : List ExceptHandler} (K : Below A₀ base outer h₀) (R : FlyK base (envOf name scope L a cd :: outer) e (.ref C) dx cx news s'.heap)
    (k : ∀ h', FlyK base (envOf name scope L a cd :: outer) e (.ref C) dx cx news h' → s'.heap.UpToSlots h' → wpAny (model prog w) (A₀.deeper (envOf name scope L a cd)) (handleBy (.ref e) (envOf name scope L a cd) hs) Q E { s' with heap := h' }) :
    wpAny (model prog w) (A₀.deeper (envOf name scope L a cd)) (noteFrame (.ref e) (envOf name scope L a cd)) (fun _ s₂ => wpAny (model prog w) (A₀.deeper (envOf name scope L a cd)) (setFlight (.ref e) none) (fun _ s₃ => wpAny (model prog w) (A₀.deeper (envOf name scope L a cd)) (handleBy (.ref e) (envOf name scope L a cd) hs) Q E s₃) E s₂) E s' := by
  obtain ⟨B, hB, hl, hx⟩ := R
  refine fly_note (Around.frames_deeper K.stack) rfl hx fun h₁ x₁ u₁ => fly_flight x₁ fun h₂ x₂ u₂ => ?_
  exact k h₂ ⟨B, hB, hl, x₂⟩ (u₁.trans u₂)

theorem clause_test {nm : Option Str} {bd : List Stmt} {b : Bool} (K : Below A₀ base outer h₀) (F : Fr h₀ L h m) (u : h.UpToSlots s'.heap) (R : FlyK base (envOf name scope L a cd :: outer) e (.ref C) dx cx news s'.heap) (X : KF.In base) (T : TopRead p loose mg mb base)
    (hn : nsIn KF mainGlobals x = some (some (.ref C'))) (hcd : clsIn KF C = some kd) (hm : kd.mro = excMro C) (hcd' : clsIn KF C' = some kd') (hm' : kd'.mro = excMro C') (hT : typeIn KF (.ref C') = some (.type "type")) (hb : (excMro C).contains (.ref C') = b)
    {R' : Result → Shared → Prop} (k : R' (.ok (if b then .brk else .next)) s') (hk : scope.kind = .function := by rfl) (hxk : (envOf name scope L a cd).kindOf x = some .globalImplicit := by rfl) (hd : (x == ("__debug__" : Str)) = false := by decide) :
    codeAny (model prog w) ((A₀.deeper (envOf name scope L a cd)).mark (some (.ref e))) (.handlers (.ref e) [.ExceptHandler (some (.Name x np)) none [] pos] (envOf name scope L a cd)) R' s' := by
  obtain ⟨h₁, t0, TB, K₁, F₁, N₁⟩ := rebase K F u R rfl
  have X₁ := X.keeps K₁.stays
  refine codeAny_handlers_test (name_K F₁ X₁ (T.keeps K₁.stays) hn ?_ hk hxk hd)
  exact exc_matches (N₁ _ (.head _)).1 (X₁.keeps F₁.keep) hcd hm hcd' hm' hT hb k

theorem clause_miss {nm : Option Str} (K : Below A₀ base outer h₀) (F : Fr h₀ L h m) (u : h.UpToSlots s'.heap) (R : FlyK base (envOf name scope L a cd :: outer) e (.ref C) dx cx news s'.heap) (X : KF.In base) (T : TopRead p loose mg mb base)
    (hn : nsIn KF mainGlobals x = some (some (.ref C'))) (hcd : clsIn KF C = some kd) (hm : kd.mro = excMro C) (hcd' : clsIn KF C' = some kd') (hm' : kd'.mro = excMro C') (hT : typeIn KF (.ref C') = some (.type "type")) (hb : (excMro C).contains (.ref C') = false)
    (k : wpAny (model prog w) (A₀.deeper (envOf name scope L a cd)) (handleBy (.ref e) (envOf name scope L a cd) rest) Q E s') (hk : scope.kind = .function := by rfl) (hxk : (envOf name scope L a cd).kindOf x = some .globalImplicit := by rfl) (hd : (x == ("__debug__" : Str)) = false := by decide) :
    wpAny (model prog w) (A₀.deeper (envOf name scope L a cd)) (handleBy (.ref e) (envOf name scope L a cd) (.ExceptHandler (some (.Name x np)) nm (b₀ :: suite) pos :: rest)) Q E s' :=
  wpAny_handleBy_cons (clause_test (nm := nm) (bd := b₀ :: suite) K F u R X T hn hcd hm hcd' hm' hT hb k hk hxk hd) (by intro q; cases q)

theorem clause_hit (K : Below A₀ base outer h₀) (F : Fr h₀ L h m) (u : h.UpToSlots s'.heap) (R : FlyK base (envOf name scope L a cd :: outer) e (.ref C) dx cx news s'.heap) (X : KF.In base) (T : TopRead p loose mg mb base)
    (hn : nsIn KF mainGlobals x = some (some (.ref C'))) (hcd : clsIn KF C = some kd) (hm : kd.mro = excMro C) (hcd' : clsIn KF C' = some kd') (hm' : kd'.mro = excMro C') (hT : typeIn KF (.ref C') = some (.type "type")) (hb : (excMro C).contains (.ref C') = true)
    (k : ∀ h₁ h' t0 TB, Below A₀ base outer h₁ → Fr h₁ L h' m → News h₁ L h' ((e, excO (.ref C) (some dx) t0 (.ref TB) cx) :: news) → wpAny (model prog w) ((A₀.deeper (envOf name scope L a cd)).mark (some (.ref e))) (execs (b₀ :: suite) (envOf name scope L a cd)) Q E { s' with heap := h' })
    (hk : scope.kind = .function := by rfl) (hxk : (envOf name scope L a cd).kindOf x = some .globalImplicit := by rfl) (hd : (x == ("__debug__" : Str)) = false := by decide)
    (hE : PassesOwnAt (model prog w) ((A₀.deeper (envOf name scope L a cd)).mark (some (.ref e))) (A₀.deeper (envOf name scope L a cd)) (envOf name scope L a cd) E := by passes_own) :
    wpAny (model prog w) (A₀.deeper (envOf name scope L a cd)) (handleBy (.ref e) (envOf name scope L a cd) (.ExceptHandler (some (.Name x np)) none (b₀ :: suite) pos :: rest)) Q E s' := by
  refine wpAny_handleBy_cons (clause_test (nm := none) (bd := b₀ :: suite) K F u R X T hn hcd hm hcd' hm' hT hb ?_ hk hxk hd) (by intro q; cases q)
  obtain ⟨B, hB, hl, hx⟩ := R
  refine codeAny_handlers_suite (fly_flight hx fun h₂ x₂ u₂ => ?_)
  obtain ⟨h₁, t0, TB, K₁, F₁, N₁⟩ := rebase K F (u.trans u₂) ⟨B, hB, hl, x₂⟩ rfl
  exact wpAny_passesOwnAt hE (k h₁ h₂ t0 TB K₁ F₁ N₁)

theorem clause_hit_as {n : Str} (K : Below A₀ base outer h₀) (F : Fr h₀ L h m) (u : h.UpToSlots s'.heap) (R : FlyK base (envOf name scope L a cd :: outer) e (.ref C) dx cx news s'.heap) (X : KF.In base) (T : TopRead p loose mg mb base)
    (hn : nsIn KF mainGlobals x = some (some (.ref C'))) (hcd : clsIn KF C = some kd) (hm : kd.mro = excMro C) (hcd' : clsIn KF C' = some kd') (hm' : kd'.mro = excMro C') (hT : typeIn KF (.ref C') = some (.type "type")) (hb : (excMro C).contains (.ref C') = true)
    (k : ∀ h₁ h' t0 TB tk, Below A₀ base outer h₁ → Fr h₁ L h' (fun y => if y = n then some (.ref e) else m y) → News h₁ L h' ((e, excO (.ref C) (some dx) t0 (.ref TB) cx) :: news) →
      wpAny (model prog w) ((A₀.deeper (envOf name scope L a cd)).mark (some (.ref e))) (execs (b₀ :: suite) (envOf name scope L a cd))
        (fun f s₄ => wpAny (model prog w) (A₀.deeper (envOf name scope L a cd)) (do bindName (envOf name scope L a cd) n .none; unbindBehindTheSuite (envOf name scope L a cd) n pos) (fun _ s₅ => Q f s₅) E s₄)
        (AsSuiteRaised (model prog w) ((A₀.deeper (envOf name scope L a cd)).mark (some (.ref e))) (envOf name scope L a cd) n pos (notedBy (model prog w) ((A₀.deeper (envOf name scope L a cd)).mark (some (.ref e))) (envOf name scope L a cd) (cameBackBy (model prog w) (A₀.deeper (envOf name scope L a cd)) (envOf name scope L a cd) E)))
        { s' with heap := h', toks := tk })
    (hk : scope.kind = .function := by rfl) (hxk : (envOf name scope L a cd).kindOf x = some .globalImplicit := by rfl) (hd : (x == ("__debug__" : Str)) = false := by decide) (hlo : (envOf name scope L a cd).kindOf n = some .local := by rfl) :
    wpAny (model prog w) (A₀.deeper (envOf name scope L a cd)) (handleBy (.ref e) (envOf name scope L a cd) (.ExceptHandler (some (.Name x np)) (some n) (b₀ :: suite) pos :: rest)) Q E s' := by
  refine wpAny_handleBy_cons (clause_test (nm := some n) (bd := b₀ :: suite) K F u R X T hn hcd hm hcd' hm' hT hb ?_ hk hxk hd) (by intro q; cases q)
  obtain ⟨B, hB, hl, hx⟩ := R
  refine codeAny_handlers_suite_as (fly_flight hx fun h₂ x₂ u₂ => ?_)
  obtain ⟨h₁, t0, TB, K₁, F₁, N₁⟩ := rebase K F (u.trans u₂) ⟨B, hB, hl, x₂⟩ rfl
  exact stN (s := { s' with heap := h₂ }) F₁ N₁ (fun h₃ F₃ N₃ => k h₁ h₃ t0 TB _ K₁ F₃ N₃) hk hlo
end

/-! ## MCode -/
section
variable {prog : Program} {w : World} {A A₀ : Around} {E : Value → Shared → Prop} {s : Shared} {K : Frag} {L : Addr} {h₀ base : Heap} {m mg mb : Str → Option Value} {news : List (Addr × Obj)} {p : Program} {loose : List Str} {mean : ExcName → Option Value}
/-- a def is entered; what stands behind it is not said -/
theorem code_defR {env : Env} {outer : List Env} {R : Result → Shared → Prop} {name qual : Str} {params : Arguments} {body : List Stmt} {scope : Scope} {dV kV doc pm cdv ct oc : Value} {an od : Option Addr} {osl : Array (Option Value)} {f : Addr} {args : Args} {binds : List (Str × Value)}
    (B : Below A₀ base outer h₀) (F : Fr h₀ L s.heap m) (X₀ : K.In h₀) (N : News h₀ L s.heap news) (T : Top p loose mean mg mb h₀) (hA : A.frames = some (env :: outer)) (hf : env.frame = some L) (hke : env.scope.kind = .function)
    (ho : K.lookup f = some ⟨oc, od, .func (fnOf name qual params body scope dV kV doc pm an cdv ct), osl⟩) (hcd : codeIn K cdv qual = true) (hroom : A.depth < recursionLimit)
    (hbind : BindsTo s (fnOf name qual params body scope dV kV doc pm an cdv ct) args binds) (hloc : ∀ y ∈ binds, scope.names.lookup y.1 = some .local)
    (h : ∀ g L' h₁, Fr h₀ L g m → Fr g L' h₁ (fun y => binds.reverse.lookup y) → News g L' h₁ news → Below A base (env :: outer) g → K.In g → Top p loose mean mg mb g →
      wpAny (model prog w) (A.deeper (envOf qual scope L' f cdv)) (execs body (envOf qual scope L' f cdv))
        (fun fl s' => R (.ok (.ret (match fl with | .ret v => v | _ => .none))) s')
        (fun e s' => wpAny (model prog w) (A.deeper (envOf qual scope L' f cdv)) (leaving (envOf qual scope L' f cdv) e) (fun _ s'' => R (.error e) s'') (fun e' s'' => R (.error e') s'') s')
        { s with heap := h₁, toks := s.toks + binds.length })
    (hco : scope.isCoroutine = false) (hgen : scope.isGenerator = false) (hk : scope.kind = .function)
    (hcell : ∀ x ∈ scope.names, x.2 ≠ .cell) : codeAny (model prog w) A (.call (.ref f) args) R s := by
  obtain ⟨FG, BG, st, lv⟩ := groundX (R := R) B F N hA hf hke
  have hfo := (X₀.keeps F.keep) _ _ ho
  refine codeAny_call_def (fd := fnX name qual params body scope [] dV kV doc pm an cdv ct) (body := body) (binds := binds) hroom hfo rfl (T.nolimit.keeps F.keep) (codeRec_of (X₀.keeps F.keep) hcd) rfl hbind hcell hloc (fun h₁ hns hk₁ => ?_) hco hgen hk
  exact h _ s.heap.objs.size h₁ FG ⟨hns, fun b o e => hk₁ b o (of_hideAll _ e), Nat.le_of_eq (hideAll_size _ _)⟩
    (fun p hp => ⟨hk₁ _ _ (N p hp).1, Nat.ne_of_lt (Heap.lt_size (N p hp).1), hideAll_none _ (List.mem_map_of_mem hp)⟩) BG (X₀.keeps st) (T.keeps st)
end

/-! ## MGetX -/
section
variable {prog : Program} {w : World} {A : Around} {E : Value → Shared → Prop} {s : Shared} {K : Frag} {x C L : Addr} {h₀ : Heap} {m : Str → Option Value} {ox : Obj} {od : Option Obj} {name : Str} {expr : Bool} {Q : Value → Shared → Prop}
theorem bga_plain : plainId "BaseException.__getattribute__" = true := by decide +kernel
theorem bga_kind : builtinKind "BaseException.__getattribute__" = some .slot := by decide +kernel
theorem bga_split : splitId "BaseException.__getattribute__" = some ("BaseException", "__getattribute__") := by decide +kernel
theorem call_bga {tk : Tok} {v : Value} {cd : ClassData} {R : Result → Shared → Prop} (X : K.In s.heap) (I : InstAt s.heap x ox C od) (hcd : clsIn K C = some cd) (hm : cd.mro = excMro C) (hf : findObj K C od name = some (.value v)) (h : R (.ok (.ret v)) s) :
    codeAny (model prog w) A (.call (.builtin "BaseException.__getattribute__") ⟨[.ref x, .str name tk], []⟩) R s := by
  have sub : Looks (model prog w) s.heap (isInstance (.ref x) (.type "BaseException")) true := I.type.andThen (looks_mroIn X (by unfold mroIn; rw [hcd, Option.bind_some, hm]; rfl))
  refine codeAny_call_builtin bga_plain F.entry_bexc_ga (@check_slot (model prog w) _ _ s "BaseException.__getattribute__" "BaseException" "__getattribute__" (.ref x) [.str name tk] [] _ bga_kind bga_split sub (F.args_bexc_ga _ _) ?_)
  have L0 := I.type (M := model prog w)
  have L1 := looks_find (M := model prog w) X I hf
  unfold Builtin.«object.__getattribute__»
  refine wpAny_bind (wpAny_pure ?_)
  refine wpAny_bind (wpAny_pure (wpAny_bind (L0.here (wpAny_bind (L1.here ?_)))))
  exact wpAny_pure h
theorem get_exc {v : Value} {cd : ClassData} (X : K.In s.heap) (I : InstAt s.heap x ox C od) (hga : findIn K (.ref C) "__getattribute__" = some (some (.builtin "BaseException.__getattribute__"))) (hgt : findIn K (.ref C) "__getattr__" = some none)
    (hcd : clsIn K C = some cd) (hm : cd.mro = excMro C) (hf : findObj K C od name = some (.value v)) (hh : handedIn v = true) (h : Q v { s with toks := s.toks + 1 }) : wpAny (model prog w) A (getAttr (.ref x) name expr) Q E s := by
  have L0 := I.type (M := model prog w)
  have L1 := looks_findIn (M := model prog w) X hga
  have L2 := looks_findIn (M := model prog w) X hgt
  unfold getAttr getAttrBy
  refine wpAny_bind (wpAny_mkText (wpAny_holding (wpAny_bind (L0.here (s := { s with toks := s.toks + 1 }) (wpAny_bind (L1.here (s := { s with toks := s.toks + 1 }) ?_))))))
  show wpAny _ _ (getAttrByItsOwn _ _ _ _ _ _) _ _ _
  unfold getAttrByItsOwn
  refine wpAny_bind ?_
  show wpAny _ _ (typeLookup (.ref C) "__getattr__") _ _ _
  refine L2.here (s := { s with toks := s.toks + 1 }) ?_
  refine wpAny_bind (wpAny_attempt (wpAny_holding ?_))
  have hx0 : callGetattribute (.ref x) (.str name s.toks) (.builtin "BaseException.__getattribute__") expr = call (.builtin "BaseException.__getattribute__") [.ref x, .str name s.toks] := by
    cases expr <;> rfl
  rw [hx0]
  refine wpAny_call (call_bga (s := { s with toks := s.toks + 1 }) X I hcd hm hf ?_)
  dsimp only
  rw [handedOut_of hh]
  exact wpAny_pure h
end

/-! ## MHearB -/

theorem funFrames_same {base h h' : Heap} {L : Addr} {m : Str → Option Value} (sb : Heap.SameBut L h h') (hn : h'.Ns L m) : ∀ {l : List Env}, h.FunFrames base l → h'.FunFrames base l
  | [], _ => trivial
  | env :: _, ⟨hk, ⟨L', o, hf, hb, ho, hd⟩, hr⟩ => by
    refine ⟨hk, ?_, funFrames_same sb hn hr⟩
    by_cases q : L' = L
    · subst q
      obtain ⟨oL, es, ep, hL, hdt, _⟩ := hn
      exact ⟨L', oL, hf, hb, hL, fun vs z => by rw [hdt] at z; cases z⟩
    · exact ⟨L', o, hf, hb, (sb.2 L' q).trans ho, hd⟩
theorem flyAt_same {B h h' : Heap} {l : List Env} {e L : Addr} {C : Value} {dx : Option Addr} {cx fl : Value} {m m' : Str → Option Value} (x : FlyAt B l e C dx cx fl h) (sb : Heap.SameBut L h h') (hn : h.Ns L m) (hn' : h'.Ns L m') (hB : B.get? L = none) : FlyAt B l e C dx cx fl h' := by
  obtain ⟨f1, f2, f3, t0, T, oT, ts, a1, a2, a3, a4, a5, a6⟩ := x
  obtain ⟨oL, es, ep, hL, hdt, _⟩ := hn
  have q1 : e ≠ L := by intro q; rw [q, hL] at a1; cases a1; cases hdt
  have q2 : T ≠ L := by intro q; rw [q, hL] at a4; cases a4; rw [hdt] at a5; cases a5
  refine ⟨fun b o q => (sb.2 b fun z => ?_).trans (f1 b o q), f2, funFrames_same sb hn' f3, t0, T, oT, ts, (sb.2 e q1).trans a1, a2, a3, (sb.2 T q2).trans a4, a5, a6⟩
  rw [z, hB] at q; cases q

/-- as FlyK, and the entry of this frame is hung on -/
noncomputable def FlyL (base : Heap) (l : List Env) (e : Addr) (C : Value) (dx : Addr) (cx : Value) (L : Addr) (news : List (Addr × Obj)) (h : Heap) : Prop :=
  ∃ B, base.StaysIn B ∧ (∀ q ∈ news, B.get? q.1 = some q.2 ∧ base.get? q.1 = none) ∧ FlyAt B l e C (some dx) cx (rawInt L) h

theorem fly_set {M : Model} {A : Around} {E : Value → Shared → Prop} {s : Shared} {base : Heap} {l : List Env} {e : Addr} {C : Value} {dx : Option Addr} {cx fl : Value} {o : Option Addr} {Q : Unit → Shared → Prop} (hx : FlyAt base l e C dx cx fl s.heap)
    (h : ∀ h', FlyAt base l e C dx cx (o.elim Value.none fun f => rawInt f) h' → s.heap.UpToSlots h' → Q () { s with heap := h' }) : wpAny M A (setFlight (.ref e) o) Q E s := by
  obtain ⟨hkb, hen, hl, t0, T, oT, ts, he, hnT, hTe, hT, hdT, h3⟩ := hx
  have h3s : 3 < ts.size := (Array.getElem?_eq_some_iff.mp h3).1
  unfold setFlight
  refine wpAny_bind (wpAny_field he rfl (x := .ref T) rfl ?_)
  rw [if_pos (show (Value.ref T != Value.none) = true from by simp)]
  have other : ∀ b, b ≠ T → (s.heap.update T (Obj.mapFields (·.setIfInBounds 3 (o.elim Value.none fun f => rawInt f)))).get? b = s.heap.get? b := fun b hb => Heap.get?_update_other _ _ (Ne.symm hb)
  have plain : ∀ b o', s.heap.get? b = some o' → (∀ vs, o'.data ≠ .fields vs) → b ≠ T := by
    intro b o' hb hnf q
    rw [q, hT] at hb
    cases hb
    exact hnf _ hdT
  refine wpAny_setField hT hdT h3s (h _ ⟨fun b o' hbo => (other b fun q => by rw [q, hnT] at hbo; cases hbo).trans (hkb b o' hbo), hen,
    hl.of_keeps fun b o' hb hnf => ⟨o', (other b (plain b o' hb hnf)).trans hb, rfl⟩, t0, T, _, _, (other e (Ne.symm hTe)).trans he, hnT, hTe,
    Heap.get?_update_self _ hT (Obj.isFreed_of_fields (Obj.data_mapFields hdT _)), Obj.data_mapFields hdT _, by simp [h3s]⟩ fun b o' hb hnf => ⟨o'.slots, (other b (plain b o' hb hnf)).trans hb⟩)
theorem fly_ne {M : Model} {A : Around} {E : Value → Shared → Prop} {s : Shared} {base : Heap} {l : List Env} {e : Addr} {C : Value} {dx : Option Addr} {cx fl : Value} {Q : Value → Shared → Prop} (hx : FlyAt base l e C dx cx fl s.heap)
    (h : ∀ T, Q (.ref T) s) : wpAny M A (field (.ref e) 1) Q E s := by
  obtain ⟨hkb, hen, hl, t0, T, oT, ts, he, hnT, hTe, hT, hdT, h3⟩ := hx
  exact wpAny_field he rfl (x := .ref T) rfl (h T)

section
variable {M : Model} {A A₀ : Around} {E : Value → Shared → Prop} {s' : Shared} {base g h : Heap} {outer : List Env} {L a e dx : Addr} {m : Str → Option Value} {name n : Str} {scope : Scope} {cd y : Value} {pos : Pos} {news news₀ : List (Addr × Obj)} {C cx t0 : Value}
theorem leave_againM {Q : Unit → Shared → Prop} (R : FlyL base (envOf name scope L a cd :: outer) e C dx cx L news s'.heap)
    (hQ : ∀ h', FlyK base outer e C dx cx news h' → s'.heap.UpToSlots h' → Q () { s' with heap := h' }) : wpAny M A (leaving (envOf name scope L a cd) (.ref e)) Q E s' := by
  obtain ⟨B, hB, hl, hx⟩ := R
  unfold leaving
  refine wpAny_bind (fly_again (L := L) rfl hx (fly_flight hx fun h' x u => ?_))
  exact hQ h' ⟨B, hB, hl, x.weaken⟩ u

theorem as_raise (K : Below A₀ base outer g) (F : Fr g L s'.heap m) (N : News g L s'.heap news₀) (hin : (e, excO C (some dx) t0 .none cx) ∈ news₀) (hs : ∀ p ∈ news, p ∈ news₀) (hne : ∀ p ∈ news, p.1 ≠ e)
    (hQ : ∀ h' tk', FlyL base (envOf name scope L a cd :: outer) e C dx cx L news h' → (hideAll s'.heap [L]).UpToSlots h' → E (.ref e) { s' with heap := h', toks := tk' }) (hk : scope.kind = .function := by rfl) (hlo : (envOf name scope L a cd).kindOf n = some .local := by rfl) :
    AsSuiteRaised M ((A₀.deeper (envOf name scope L a cd)).mark (some y)) (envOf name scope L a cd) n pos (notedBy M ((A₀.deeper (envOf name scope L a cd)).mark (some y)) (envOf name scope L a cd) (cameBackBy M (A₀.deeper (envOf name scope L a cd)) (envOf name scope L a cd) E)) (.ref e) s' := by
  have K' := K.push (name := name) (a := a) (cd := cd) F hk
  have he := (N _ hin).1
  have hg := (N _ hin).2.2
  have hb : base.get? e = none := fresh_of_stays K.stays hg
  have hin' : ∀ env ∈ (envOf name scope L a cd :: outer), ∀ b, env.frame = some b → b ∈ e :: (envOf name scope L a cd :: outer).filterMap (·.frame) := fun env he b hb => .tail _ (List.mem_filterMap.mpr ⟨env, he, hb⟩)
  have fr : ∀ b ∈ (envOf name scope L a cd :: outer).filterMap (·.frame), base.get? b = none := fun b hm => (K'.frames.mem hm).1
  have st : base.StaysIn (hideAll s'.heap (e :: (envOf name scope L a cd :: outer).filterMap (·.frame))) := fun b o q => hideAll_get _ (K'.stays b o q) fun hm => by
    rcases List.mem_cons.mp hm with rfl | hm
    · rw [hb] at q; cases q
    · rw [fr b hm] at q; cases q
  have hl : ∀ q ∈ news, (hideAll s'.heap (e :: (envOf name scope L a cd :: outer).filterMap (·.frame))).get? q.1 = some q.2 ∧ base.get? q.1 = none := fun q hq => by
    have P := N q (hs q hq)
    refine ⟨hideAll_get _ P.1 fun hm => ?_, fresh_of_stays K.stays P.2.2⟩
    rcases List.mem_cons.mp hm with q' | hm
    · exact hne q hq q'
    · obtain ⟨env, he, hf⟩ := List.mem_filterMap.mp hm
      rcases List.mem_cons.mp he with rfl | he
      · exact P.2.1 (Option.some.inj hf).symm
      · obtain ⟨o, ho, _⟩ := (K.frames.mem (List.mem_filterMap.mpr ⟨env, he, hf⟩)).2
        rw [P.2.2] at ho; cases ho
  have hBL : (hideAll s'.heap (e :: (envOf name scope L a cd :: outer).filterMap (·.frame))).get? L = none := hideAll_none _ (.tail _ (.head _))
  refine fly_note1 (K'.stack) (funFrames_hide K'.frames hin') rfl he (fun b o q => of_hideAll _ q) (hideAll_none _ (.head _)) fun h₁ x₁ u₁ => ?_
  have hn₁ := u₁.ns F.ns
  refine wpAny_nameGoes (s := { s' with heap := h₁ }) hlo hn₁ (by show (scope.kind == .class || (scope.kind == .module && _)) = false; rw [hk]; rfl) fun h₂ m₂ hn₂ sb => ?_
  have x₂ := flyAt_same x₁ sb hn₁ hn₂ hBL
  have u₂ : (hideAll s'.heap [L]).UpToSlots h₂ := by
    intro b o ho hnf
    have q : b ≠ L := by intro q; rw [q, hideAll_none _ (.head _)] at ho; cases ho
    obtain ⟨sl, z⟩ := u₁ b o (of_hideAll _ ho) hnf
    exact ⟨sl, (sb.2 b q).trans z⟩
  clear x₁ sb hn₁ u₁
  unfold PySem.passOn
  refine wpAny_bind (fly_ne x₂ fun T => ?_)
  rw [if_neg (show ¬ ((Value.ref T == Value.none) = true) by simp)]
  refine wpAny_bind (fly_set (o := some L) x₂ fun h₃ x₃ u₃ => wpAny_throw ?_)
  refine fly_again (L := L) rfl x₃ ?_
  refine wpAny_bind (fly_ne x₃ fun T => ?_)
  rw [if_neg (show ¬ ((Value.ref T == Value.none) = true) by simp)]
  refine fly_set (o := some L) x₃ fun h₄ x₄ u₄ => ?_
  exact hQ h₄ _ ⟨_, st, hl, x₄⟩ (u₂.trans (u₃.trans u₄))

theorem as_raise2 {rest : List (Addr × Obj)} {od : Obj} (K : Below A₀ base outer g) (F : Fr g L s'.heap m) (N : News g L s'.heap ((dx, od) :: (e, excO C (some dx) t0 .none cx) :: rest)) (hne : ∀ p ∈ rest, p.1 ≠ e) (hd : @LT.lt Nat _ e dx)
    (hQ : ∀ h' tk', FlyL base (envOf name scope L a cd :: outer) e C dx cx L ((dx, od) :: rest) h' → (hideAll s'.heap [L]).UpToSlots h' → E (.ref e) { s' with heap := h', toks := tk' }) (hk : scope.kind = .function := by rfl) (hlo : (envOf name scope L a cd).kindOf n = some .local := by rfl) :
    AsSuiteRaised M ((A₀.deeper (envOf name scope L a cd)).mark (some y)) (envOf name scope L a cd) n pos (notedBy M ((A₀.deeper (envOf name scope L a cd)).mark (some y)) (envOf name scope L a cd) (cameBackBy M (A₀.deeper (envOf name scope L a cd)) (envOf name scope L a cd) E)) (.ref e) s' :=
  as_raise K F N (.tail _ (.head _)) (fun p hp => by
    rcases List.mem_cons.mp hp with rfl | hp
    · exact .head _
    · exact .tail _ (.tail _ hp)) (fun p hp => by
    rcases List.mem_cons.mp hp with rfl | hp
    · exact Nat.ne_of_gt hd
    · exact hne p hp) hQ hk hlo
end
noncomputable def EmptyP (Q : Flow → Shared → Prop) (x : Value) (s₁ : Shared) : Prop :=
  ∃ h₀ L l c m news, x = .ref l ∧ Fr h₀ L s₁.heap m ∧ News h₀ L s₁.heap news ∧ (l, listOf #[] c) ∈ news ∧ ∀ h', Fr h₀ L h' m → News h₀ L h' news → Q .next { s₁ with heap := h' }
theorem For_empty {prog : Program} {w : World} {A : Around} {E : Value → Shared → Prop} {s : Shared} {env : Env} {target iter : Expr} {body : List Stmt} {pos : Pos} {Q : Flow → Shared → Prop} (hh : A.handled = none)
    (h : wpAny (model prog w) A (eval iter env) (EmptyP Q) E s) (hs : ∀ x, foldedSetIterable iter env x = pure x := by intro _; rfl) : wpAny (model prog w) A (exec (.For target iter body [] pos) env) Q E s := by
  refine wpAny_For (wpAny_mono h (fun x s₁ q => ?_) fun _ _ z => z) hs
  obtain ⟨h₀, L, l, c, m, news, rfl, F, N, hm, k⟩ := q
  have hl : s₁.heap.IsList l (#[] : Array Value) := N.isList hm
  have up : ∀ b o, s₁.heap.get? b = some o → (s₁.heap.push { cls := .type "list_iterator", data := .fields #[.ref l, .int 0 0] }).get? b = some o := fun b o e => Heap.get?_push_of_some _ e
  refine wpAny_pyIter_list hl ?_
  refine codeAny_forLoop_any (fun n s' => s' = { s₁ with heap := s₁.heap.push { cls := .type "list_iterator", data := .fields #[.ref l, .int 0 0] } }) (fun n s' e => ?_) 0 rfl
  subst e
  refine wpAny_pyNext_list_end hh (i := 0) ⟨_, Heap.get?_push_size _ rfl, rfl, rfl⟩ (hl.at fun o e => up _ o e) rfl fun h' x => ?_
  refine wpAny_execs_nil (k h' ⟨?_, fun b o e => x b o (Nat.ne_of_lt (Heap.lt_size (F.keep b o e))) (up b o (F.keep b o e)), F.above⟩ fun p hp => ⟨x _ _ (Nat.ne_of_lt (Heap.lt_size (N p hp).1)) (up _ _ (N p hp).1), (N p hp).2⟩)
  obtain ⟨oL, es, ep, hL, r⟩ := F.ns
  exact ⟨oL, es, ep, x _ _ (Nat.ne_of_lt (Heap.lt_size hL)) (up _ _ hL), r⟩
theorem hide_fr {h₂ h' : Heap} {L L1 : Addr} {m : Str → Option Value} (F : Fr h₂ L h' m) (hl : @LT.lt Nat _ L L1) : Fr h₂ L (hideAll h' [L1]) m := by
  obtain ⟨hn, hk, ha⟩ := F
  have q : ∀ b : Nat, b < L1 → ∀ o, h'.get? b = some o → (hideAll h' [L1]).get? b = some o := fun b hb o ho => hideAll_get _ ho fun z => by
    rw [List.mem_singleton.mp z] at hb; exact Nat.lt_irrefl _ hb
  refine ⟨?_, fun b o ho => q b (Nat.lt_trans (Nat.lt_of_lt_of_le (Heap.lt_size ho) ha) hl) o (hk b o ho), ha⟩
  obtain ⟨oL, es, ep, hL, r⟩ := hn
  exact ⟨oL, es, ep, q L hl oL hL, r⟩

/-! ## MBase -/

theorem kw_line3 : True := by
  (k_with "my SUB" => (first | exact List.forall_mem_nil _ | (refine List.forall_mem_cons.mpr ⟨?sa_q, ?sb_q⟩; (case sa_q => k_mem); (case sb_q => walk_at "SUB")) | (intro _ hp9; repeat (first | exact hp9 | refine List.Mem.tail _ ?_))))
  trivial
local macro_rules | `(tactic| k_all) => `(tactic| with_reducible assumption)
theorem kw_line4 : True := by
  (k_with "my getMethod type:Exception" => ((k_here; k_dflt (refine' method_type ?F_q ?X_q ?t_q ?s_q ?e_q ?h_q ?_; (case F_q => k_asm); (case X_q => k_asm); (case t_q => first | rfl | kernel_rfl); (case s_q => decide +kernel); (case e_q => k_is); (case h_q => k_handed); k_whole))))
  trivial
theorem kw_line5 : True := by
  (k_with "my call builtin:Exception.__init__" => ((k_here; k_dflt (refine' init_exc ?F_q ?X_q ?N_q ?i_q ?c_q ?U_q ?_; (case F_q => k_asm); (case X_q => k_asm); (case N_q => k_asm); (case i_q => k_mem); (case c_q => k_is); (case U_q => (intro _; k_upd)); k_whole); intro _ _ _ _ l1; (try k_lt l1))))
  trivial
theorem kw_line6 : True := by
  (k_with "my setAttr ref" => ((k_here; (first | (with_reducible show wpAny _ _ (setAttr (Value.ref _) (PySem.Str.ofString "text") _) _ _ _) | (with_reducible show wpAny _ _ (setAttr (Value.ref _) (PySem.Str.ofString "code") _) _ _ _)); k_dflt (first
  | (refine' set_exc1 ?F_q ?X_q ?N_q ?i_q ?s_q ?c_q ?m_q ?d_q ?t_q ?U_q ?_; (case F_q => k_asm); (case X_q => k_asm); (case N_q => k_asm); (case i_q => k_mem); (case s_q => k_is); (case c_q => k_is); (case m_q => rfl); (case d_q => rfl); (case t_q => k_is); (case U_q => (intro _; k_upd)); k_whole; intro _ _ _ _ l1; (try k_lt l1))
  | (refine' set_exc ?F_q ?X_q ?N_q ?i_q ?j_q ?s_q ?c_q ?m_q ?d_q ?t_q ?l_q ?e_q ?U_q ?z_q ?_; (case F_q => k_asm); (case X_q => k_asm); (case N_q => k_asm); (case i_q => k_mem); (case j_q => k_mem); (case s_q => k_is); (case c_q => k_is); (case m_q => rfl); (case d_q => rfl); (case t_q => k_is); (case l_q => k_get); (case e_q => k_put); (case U_q => k_upd); (case z_q => exact Nat.le_of_ble_eq_true rfl); k_whole; intro _ _ _)))))
  trivial

noncomputable abbrev qAttrs (w : World) (c : Int) (tc : Tok) (x : Str) (tx : Tok) (t1 t2 : Tok) : List DictEntry :=
  [⟨PyData.keyHash w.params (Str.ofString "code"), .str (Str.ofString "code") t1, .int c tc⟩, ⟨PyData.keyHash w.params (Str.ofString "text"), .str (Str.ofString "text") t2, .str x tx⟩]
noncomputable abbrev sAttrs (w : World) (x : Str) (tx : Tok) (t2 : Tok) : List DictEntry :=
  [⟨PyData.keyHash w.params (Str.ofString "text"), .str (Str.ofString "text") t2, .str x tx⟩]

theorem sub_ne {news : List (Addr × Obj)} {h : Heap} {h₀ : Heap} {L e : Addr} (N : News h₀ L h news) (hn : h.get? e = none) : ∀ p ∈ news, p.1 ≠ e := by
  intro p hp q
  have := (N p hp).1
  rw [q, hn] at this
  cases this

set_option maxHeartbeats 8000000 in
theorem qerr_call {w : World} {mean : ExcName → Option Value} {mg mb : Str → Option Value} : ∀ (dp un : Nat) (gd : Option (List Code)) (hdl : Option Value) (cn : Str) (cs : Scope) (a : Addr) (ccd : Value) (cl : List (Str × Addr)) (outer : List Env) (A₀ : Around) (base h₀ : Heap) (L : Addr) (m : Str → Option Value) (s : Shared) (Q E : Value → Shared → Prop)
   (c : Int) (x : Str) (tc tx : Tok) (news : List (Addr × Obj))
   (B : Below A₀ base outer h₀) (F : Fr h₀ L s.heap m) (X : (hd.heap_39 w.params).In h₀) (N : News h₀ L s.heap news)
   (T : Top hd.view_39 (looseW hd.view_39 [Str.ofString "GREATEST", Str.ofString "STATIC_ROWS"]) mean mg mb h₀) (hk : cs.kind = .function)
   (hc0 : 0 ≤ c) (hc1 : c ≤ 999) (hx : x.length ≤ 100)
   (hdp : dp + 8 < recursionLimit) (hun : un + 64 < cLine)
   (hret : ∀ e dx t t1 t2 h' tk', Fr h₀ L h' m → News h₀ L h' ((dx, dictOf (qAttrs w c tc x tx t1 t2) 2) :: (e, excO (.ref 38) (some dx) (.ref t) .none .none) :: news) → (∀ p ∈ news, p.1 ≠ e) → AllLt dx news → @LT.lt Nat _ e dx → Q (.ref e) { s with heap := h', toks := tk' }),
   wpAny (model PySem.Challenge.rw_tk0103_01.row.prog w) { ktrTop dp un gd cn cs L a ccd cl outer with handled := hdl } (call (.ref 38) [.int c tc, .str x tx]) Q E s := by
  k_fill
  intro dp un gd hdl cn cs a ccd cl outer A₀ base h₀ L m s Q E c x tc tx news B F X N T hk hc0 hc1 hx hdp hun hret
  have XS := X.keeps F.keep
  have ns := ns_at (XS 37 _ (by k_is)) (by intro e he; simp at he; rcases he with rfl | rfl | rfl | rfl | rfl | rfl <;> exact ⟨_, _, rfl⟩)
  refine wpAny_call_exc_init PySem.F.excBase_Exception (C := 38) (N := 37) (fI := 35) (XS _ _ (by k_is)) ns (by rfl) (XS 35 _ (by k_is)) rfl ?_
  clear ns XS
  intro h' e hm
  obtain ⟨t, he, htn, ht⟩ := hm.there
  have hne := sub_ne N hm.new
  have F' := F.keeps hm.keeps
  have N' := News.more F' (N.grown hm.keeps) he (fun es n q => by cases q) (fr_none F hm.new)
  clear N F ht htn he hm
  refine wpAny_call ?_
  k_dflt ktr_enter
  k_steps
  exact hret _ _ _ _ _ _ _ (by k_asm) (cb_drop (by k_asm) (by walk_at "SUB")) hne (by tbn_find) (by omega)

set_option maxHeartbeats 8000000 in
theorem short_call {w : World} {mean : ExcName → Option Value} {mg mb : Str → Option Value} : ∀ (dp un : Nat) (gd : Option (List Code)) (hdl : Option Value) (cn : Str) (cs : Scope) (a : Addr) (ccd : Value) (cl : List (Str × Addr)) (outer : List Env) (A₀ : Around) (base h₀ : Heap) (L : Addr) (m : Str → Option Value) (s : Shared) (Q E : Value → Shared → Prop)
   (x : Str) (tx : Tok) (news : List (Addr × Obj))
   (B : Below A₀ base outer h₀) (F : Fr h₀ L s.heap m) (X : (hd.heap_39 w.params).In h₀) (N : News h₀ L s.heap news)
   (T : Top hd.view_39 (looseW hd.view_39 [Str.ofString "GREATEST", Str.ofString "STATIC_ROWS"]) mean mg mb h₀) (hk : cs.kind = .function)
   (hx : x.length ≤ 100)
   (hdp : dp + 8 < recursionLimit) (hun : un + 64 < cLine)
   (hret : ∀ e dx t t2 h' tk', Fr h₀ L h' m → News h₀ L h' ((dx, dictOf (sAttrs w x tx t2) 1) :: (e, excO (.ref 58) (some dx) (.ref t) .none .none) :: news) → (∀ p ∈ news, p.1 ≠ e) → AllLt dx news → @LT.lt Nat _ e dx → Q (.ref e) { s with heap := h', toks := tk' }),
   wpAny (model PySem.Challenge.rw_tk0103_01.row.prog w) { ktrTop dp un gd cn cs L a ccd cl outer with handled := hdl } (call (.ref 58) [.str x tx]) Q E s := by
  k_fill
  intro dp un gd hdl cn cs a ccd cl outer A₀ base h₀ L m s Q E x tx news B F X N T hk hx hdp hun hret
  have XS := X.keeps F.keep
  have ns := ns_at (XS 57 _ (by k_is)) (by intro e he; simp at he; rcases he with rfl | rfl | rfl | rfl | rfl | rfl <;> exact ⟨_, _, rfl⟩)
  refine wpAny_call_exc_init PySem.F.excBase_Exception (C := 58) (N := 57) (fI := 55) (XS _ _ (by k_is)) ns (by rfl) (XS 55 _ (by k_is)) rfl ?_
  clear ns XS
  intro h' e hm
  obtain ⟨t, he, htn, ht⟩ := hm.there
  have hne := sub_ne N hm.new
  have F' := F.keeps hm.keeps
  have N' := News.more F' (N.grown hm.keeps) he (fun es n q => by cases q) (fr_none F hm.new)
  clear N F ht htn he hm
  refine wpAny_call ?_
  k_dflt ktr_enter
  k_steps
  exact hret _ _ _ _ _ _ (by k_asm) (cb_drop (by k_asm) (by walk_at "SUB")) hne (by tbn_find) (by omega)

/-! ## MSpec -/

theorem kw_line7 : True := by
  (k_with "my TAILS" => (first | ktr_member | (refine List.mem_cons_of_mem _ ?_; walk_at "TAILS")))
  trivial
local macro_rules | `(tactic| k_mem) => `(tactic| (refine List.mem_cons_of_mem _ ?_; walk_at "TAILS"))
-- FAST: lines that stand further down in the library, brought up front
theorem kw_line8 : True := by
  (k_with "my getMethod ref" => ((k_here; k_dflt (refine' method_inst ?k1_q ?k2_q ?k3_q ?k4_q ?k5_q ?k6_q ?k7_q ?_; (case k1_q => k_asm); (case k2_q => k_asm); (case k3_q => k_inst); (case k4_q => k_is); (case k5_q => k_is); (case k6_q => k_is); (case k7_q => k_get); k_whole))))
  trivial
theorem kw_line9 : True := by
  (k_with "my eval Name" => ((k_here; k_dflt (first
  | (refine' nameX_L ?F_q ?v_q ?_ ?a_q ?b_q; (case F_q => k_asm); (case a_q => rfl); (case b_q => rfl); (case v_q => rfl); k_whole)
  | (refine' nameX_K ?F_q ?X_q ?T_q ?e_q ?_ ?a_q ?b_q; (case F_q => k_asm); (case X_q => k_asm); (case T_q => k_asm); (case a_q => rfl); (case b_q => rfl); (case e_q => k_is); k_whole)
  | (refine' nameX_B ?F_q ?X_q ?T_q ?e_q ?v_q ?n_q ?_ ?a_q ?b_q; (case F_q => k_asm); (case X_q => k_asm); (case T_q => k_asm); (case a_q => rfl); (case b_q => rfl); (case e_q => k_is); (case v_q => boot_fast); (case n_q => decide); k_whole)))))
  trivial
theorem kw_line10 : True := by
  (k_with "my subscriptTail Name Constant ref int" => ((k_here; k_dflt (refine' kim_tup ?N_q ?m_q ?hc_q ?hd_q ?lo_q ?hi_q ?j_q ?x_q ?_; (case N_q => k_asm); (case m_q => k_mem); (case hc_q => exact rfl); (case hd_q => exact rfl); (case lo_q => decide); (case hi_q => decide); (case j_q => exact rfl); (case x_q => exact rfl); k_whole))))
  trivial
theorem kw_line11 : True := by
  (k_with "my exec Assign" => ((k_here; (with_reducible show wpAny _ _ (exec (Stmt.Assign [PySem.Expr.Tuple _ _ _] _ _) _) _ _ _); k_dflt (first | refine Assign_Tuple_swapped ?_ | refine Assign_Tuple ?_))))
  trivial
theorem kw_line12 : True := by
  (k_with "my getAttr ref" => ((k_here; k_dflt (refine' get_own ?k1_q ?k2_q ?k3_q ?k4_q ?k5_q ?k6_q ?k7_q ?k8_q ?k9_q ?_; (case k1_q => k_asm); (case k2_q => k_asm); (case k3_q => k_inst); (case k4_q => k_is); (case k5_q => k_is); (case k6_q => k_is); (case k7_q => k_is); (case k8_q => k_get); (case k9_q => k_handed); k_whole))))
  trivial
-- the machine's state written out, so that no projection of a written state is left in the next one
section
variable {prog : Program} {w : World} {M : Model} {A : Around} {E : Value → Shared → Prop} {env : Env} {hp : Heap} {ge : Array GenState} {dr : Drawn} {tk : Nat} {os : OsState} {h₀ : Heap} {L : Addr} {m : Str → Option Value} {news : List (Addr × Obj)} {vs : List Value}
theorem cint_mk {i : Int} {k : Nat} {pos : Pos} {Q : Value → Shared → Prop} (h : Q (.int i tk) ⟨hp, ge, dr, tk + 1, os⟩) : wpAny M A (eval (.Constant (.int i) k pos) env) Q E ⟨hp, ge, dr, tk, os⟩ := wpAny_Constant_int h
theorem cstr_mk {x : Str} {k : Nat} {pos : Pos} {Q : Value → Shared → Prop} (h : Q (.str x tk) ⟨hp, ge, dr, tk + 1, os⟩) : wpAny M A (eval (.Constant (.str x) k pos) env) Q E ⟨hp, ge, dr, tk, os⟩ := Calls.Constant_str h
theorem add_mk {a b : Int} {t u : Tok} {Q : Value → Shared → Prop} (h : Q (.int (a + b) tk) ⟨hp, ge, dr, tk + 1, os⟩) : wpAny (model prog w) A (binaryOp .Add (.int a t) (.int b u)) Q E ⟨hp, ge, dr, tk, os⟩ := add_int h
theorem sub_mk {a b : Int} {t u : Tok} {Q : Value → Shared → Prop} (h : Q (.int (a - b) tk) ⟨hp, ge, dr, tk + 1, os⟩) : wpAny (model prog w) A (binaryOp .Sub (.int a t) (.int b u)) Q E ⟨hp, ge, dr, tk, os⟩ := sub_int h
theorem tup_mk {Q : Value → Shared → Prop} (F : Fr h₀ L hp m) (N : News h₀ L hp news)
    (h : ∀ D h', Fr h₀ L h' m → News h₀ L h' ((D, ({ cls := .type "tuple", data := .seq vs.toArray } : Obj)) :: news) → (∀ p ∈ news, p.1 < D) → Q (.ref D) ⟨h', ge, dr, tk, os⟩) (hz : vs.length ≤ sizeLine) : wpAny M A (newTuple vs) Q E ⟨hp, ge, dr, tk, os⟩ := kup_newTuple F N h hz
theorem list_mk {Q : Value → Shared → Prop} (F : Fr h₀ L hp m) (N : News h₀ L hp news)
    (h : ∀ l h', Fr h₀ L h' m → News h₀ L h' ((l, listOf vs.toArray 0) :: news) → (∀ p ∈ news, p.1 < l) → Q (.ref l) ⟨h', ge, dr, tk, os⟩) (hsz : vs.length ≤ sizeLine := by size_fits) : wpAny M A (newList vs) Q E ⟨hp, ge, dr, tk, os⟩ := newList_K F N h hsz
theorem storeL_mk {a : Addr} {cn : Str} {cs : Scope} {ccd v : Value} {cl : List (Str × Addr)} {x : Str} {Q : Unit → Shared → Prop} (F : Fr h₀ L hp m) (N : News h₀ L hp news)
    (h : ∀ h', Fr h₀ L h' (fun y => if y = x then some v else m y) → News h₀ L h' news → Q () ⟨h', ge, dr, tk + 1, os⟩)
    (hk : cs.kind = .function) (hx : (envX cn cs L a ccd cl).kindOf x = some .local) : wpAny M A (storeName (envX cn cs L a ccd cl) x v) Q E ⟨hp, ge, dr, tk, os⟩ := storeX_L F N h hk hx
end
theorem kw_line13 : True := by
  (k_with "my eval Constant int" => (with_reducible refine cint_mk ?_))
  trivial
theorem kw_line14 : True := by
  (k_with "my eval Constant str" => (with_reducible refine cstr_mk ?_))
  trivial
theorem kw_line15 : True := by
  (k_with "my binaryOp Add int int" => (with_reducible refine add_mk ?_))
  trivial
theorem kw_line16 : True := by
  (k_with "my binaryOp Sub int int" => (with_reducible refine sub_mk ?_))
  trivial
theorem kw_line17 : True := by
  (k_with "my newTuple" => ((k_here; kup_bare; k_dflt (refine' tup_mk ?F_q ?N_q ?_ ?z_q; (case F_q => k_asm); (case N_q => k_asm); (case z_q => kmk_size)); intro _ _ _ _ lz9; (try k_lt lz9); (try k_sweep))))
  trivial
theorem kw_line18 : True := by
  (k_with "my newList" => ((k_here; k_dflt (refine' list_mk ?k1_q ?k2_q ?_; (case k1_q => k_asm); (case k2_q => k_asm); k_whole); intro _ _ _ _ lz9; (try k_lt lz9); (try k_sweep))))
  trivial
theorem kw_line19 : True := by
  (k_with "my storeName" => ((k_here; k_dflt (refine' storeL_mk ?F_q ?N_q ?_ ?a_q ?b_q; (case F_q => k_asm); (case N_q => k_asm); (case a_q => rfl); (case b_q => rfl); k_whole; intro _ _ _; (try k_sweep)))))
  trivial
-- two steps in one
section
variable {M : Model} {A : Around} {E : Value → Shared → Prop} {s : Shared} {K : Frag} {h₀ : Heap} {L a : Addr} {m mg mb : Str → Option Value} {cn : Str} {cs : Scope} {ccd : Value} {cl : List (Str × Addr)} {p : Program} {loose : List Str} {x : Str} {xp pos : Pos} {v : Value} {rest args : List PySem.Expr} {hp : Heap} {ge : Array GenState} {dr : Drawn} {tk : Nat} {os : OsState}
theorem args_nameL {Q : List Value → Shared → Prop} (F : Fr h₀ L s.heap m) (hv : m x = some v) (h : wpAny M A (spliced (backTo pos (starEach rest (envX cn cs L a ccd cl)))) (fun vs s₂ => Q (v :: vs) s₂) E s) (hk : cs.kind = .function) (hx : (envX cn cs L a ccd cl).kindOf x = some .local) (hd : (x == ("__debug__" : Str)) = false) :
    wpAny M A (spliced (backTo pos (starEach (.Name x xp :: rest) (envX cn cs L a ccd cl)))) Q E s := args_cons (nameX_L F hv h hk hx hd) rfl
theorem args_int {env : Env} {i : Int} {k : Nat} {Q : List Value → Shared → Prop} (h : wpAny M A (spliced (backTo pos (starEach rest env))) (fun vs s₂ => Q (.int i tk :: vs) s₂) E ⟨hp, ge, dr, tk + 1, os⟩) :
    wpAny M A (spliced (backTo pos (starEach (.Constant (.int i) k xp :: rest) env))) Q E ⟨hp, ge, dr, tk, os⟩ := args_cons (cint_mk h) rfl
theorem call_nameK {Q : Value → Shared → Prop} (F : Fr h₀ L s.heap m) (X : K.In h₀) (T : TopRead p loose mg mb h₀) (e : nsIn K mainGlobals x = some (some v)) (h : wpAny M A (callWith pos v [] (backTo pos (starEach args (envX cn cs L a ccd cl))) []) Q E s) (hk : cs.kind = .function) (hx : (envX cn cs L a ccd cl).kindOf x = some .globalImplicit) (hd : (x == ("__debug__" : Str)) = false) :
    wpAny M A (eval (.Call (.Name x xp) args [] pos) (envX cn cs L a ccd cl)) Q E s := Call_ (nameX_K F X T e h hk hx hd) rfl
theorem call_nameB {Q : Value → Shared → Prop} (F : Fr h₀ L s.heap m) (X : K.In h₀) (T : TopRead p loose mg mb h₀) (e : nsIn K mainGlobals x = some none) (hv : bootBuiltins x = some v) (hn : x ≠ "__name__") (h : wpAny M A (callWith pos v [] (backTo pos (starEach args (envX cn cs L a ccd cl))) []) Q E s) (hk : cs.kind = .function) (hx : (envX cn cs L a ccd cl).kindOf x = some .globalImplicit) (hd : (x == ("__debug__" : Str)) = false) :
    wpAny M A (eval (.Call (.Name x xp) args [] pos) (envX cn cs L a ccd cl)) Q E s := Call_ (nameX_B F X T e hv hn h hk hx hd) rfl
theorem cmp_nameL {op : CmpOp} {r : PySem.Expr} {whole : Sem Value} {Q : Bool → Shared → Prop} (F : Fr h₀ L s.heap m) (hv : m x = some v) (h : wpAny M A (eval r (envX cn cs L a ccd cl)) (fun b s₂ => wpAny M A (compareOp op v b) (fun c s₃ => wpAny M A (truthy c) Q E s₃) E s₂) E s)
    (hm : behindInMarks op r = false) (hk : cs.kind = .function) (hx : (envX cn cs L a ccd cl).kindOf x = some .local) (hd : (x == ("__debug__" : Str)) = false) :
    wpAny M A (isTrue (.Compare (.Name x xp) [op] [r] pos) (envX cn cs L a ccd cl) whole) Q E s := wpAny_isTrue_Compare1 (nameX_L F hv h hk hx hd) hm
theorem sub_nameL {slice : PySem.Expr} {Q : Value → Shared → Prop} (F : Fr h₀ L s.heap m) (hv : m x = some v) (h : wpAny M A (eval slice (envX cn cs L a ccd cl)) (fun i s₂ => wpAny M A (subscriptTail (.Name x xp) slice v i) Q E s₂) E s) (hk : cs.kind = .function) (hx : (envX cn cs L a ccd cl).kindOf x = some .local) (hd : (x == ("__debug__" : Str)) = false) :
    wpAny M A (eval (.Subscript (.Name x xp) slice pos) (envX cn cs L a ccd cl)) Q E s := Subscript_ (nameX_L F hv h hk hx hd)
theorem attr_nameL {attr : Str} {Q : Value → Shared → Prop} (F : Fr h₀ L s.heap m) (hv : m x = some v) (h : wpAny M A (getAttr v attr true) Q E s) (hk : cs.kind = .function) (hx : (envX cn cs L a ccd cl).kindOf x = some .local) (hd : (x == ("__debug__" : Str)) = false) :
    wpAny M A (eval (.Attribute (.Name x xp) attr pos) (envX cn cs L a ccd cl)) Q E s := Attribute_Name_ (nameX_L F hv h hk hx hd)
end
theorem kw_line20 : True := by
  (k_with "my spliced" => ((k_here; (first | (with_reducible show wpAny _ _ (spliced (backTo _ (starEach (Expr.Name _ _ :: _) (envOf _ _ _ _ _)))) _ _ _) | (with_reducible show wpAny _ _ (spliced (backTo _ (starEach (Expr.Name _ _ :: _) (envOfC _ _ _ _ _)))) _ _ _)); k_dflt (refine' args_nameL ?F_q ?v_q ?_ ?a_q ?b_q ?z_q; (case F_q => k_asm); (case v_q => first | rfl | with_reducible assumption); (case a_q => rfl); (case b_q => rfl); (case z_q => decide); k_whole))))
  trivial
theorem kw_line21 : True := by
  (k_with "my spliced" => (with_reducible refine args_int ?_))
  trivial
theorem kw_line22 : True := by
  (k_with "my eval Call" => ((k_here; (first | (with_reducible show wpAny _ _ (eval (Expr.Call (Expr.Name _ _) _ _ _) (envOf _ _ _ _ _)) _ _ _) | (with_reducible show wpAny _ _ (eval (Expr.Call (Expr.Name _ _) _ _ _) (envOfC _ _ _ _ _)) _ _ _)); k_dflt (first
  | (refine' call_nameK ?F_q ?X_q ?T_q ?e_q ?_ ?a_q ?b_q ?z_q; (case F_q => k_asm); (case X_q => k_asm); (case T_q => k_asm); (case a_q => rfl); (case b_q => rfl); (case z_q => decide); (case e_q => k_is); k_whole)
  | (refine' call_nameB ?F_q ?X_q ?T_q ?e_q ?v_q ?n_q ?_ ?a_q ?b_q ?z_q; (case F_q => k_asm); (case X_q => k_asm); (case T_q => k_asm); (case a_q => rfl); (case b_q => rfl); (case z_q => decide); (case e_q => k_is); (case v_q => boot_fast); (case n_q => decide); k_whole)))))
  trivial
theorem kw_line23 : True := by
  (k_with "my isTrue Compare" => ((k_here; (first | (with_reducible show wpAny _ _ (isTrue (Expr.Compare (Expr.Name _ _) _ _ _) (envOf _ _ _ _ _) _) _ _ _) | (with_reducible show wpAny _ _ (isTrue (Expr.Compare (Expr.Name _ _) _ _ _) (envOfC _ _ _ _ _) _) _ _ _)); k_dflt (refine' cmp_nameL ?F_q ?v_q ?_ ?c_q ?a_q ?b_q ?z_q; (case F_q => k_asm); (case v_q => first | rfl | with_reducible assumption); (case a_q => rfl); (case b_q => rfl); (case z_q => decide); (case c_q => with_unfolding_all rfl); k_whole))))
  trivial
theorem kw_line24 : True := by
  (k_with "my eval Subscript" => ((k_here; (first | (with_reducible show wpAny _ _ (eval (Expr.Subscript (Expr.Name _ _) _ _) (envOf _ _ _ _ _)) _ _ _) | (with_reducible show wpAny _ _ (eval (Expr.Subscript (Expr.Name _ _) _ _) (envOfC _ _ _ _ _)) _ _ _)); k_dflt (refine' sub_nameL ?F_q ?v_q ?_ ?a_q ?b_q ?z_q; (case F_q => k_asm); (case v_q => first | rfl | with_reducible assumption); (case a_q => rfl); (case b_q => rfl); (case z_q => decide); k_whole))))
  trivial
theorem kw_line25 : True := by
  (k_with "my eval Attribute Name" => ((k_here; (first | (with_reducible show wpAny _ _ (eval (Expr.Attribute (Expr.Name _ _) _ _) (envOf _ _ _ _ _)) _ _ _) | (with_reducible show wpAny _ _ (eval (Expr.Attribute (Expr.Name _ _) _ _) (envOfC _ _ _ _ _)) _ _ _)); k_dflt (refine' attr_nameL ?F_q ?v_q ?_ ?a_q ?b_q ?z_q; (case F_q => k_asm); (case v_q => first | rfl | with_reducible assumption); (case a_q => rfl); (case b_q => rfl); (case z_q => decide); k_whole))))
  trivial
local macro_rules | `(tactic| k_room) => `(tactic| ktr_room)
theorem kw_line26 : True := by
  (k_with "my STOP" => (((fail_if_success (with_reducible show wpAny _ _ (exec (Stmt.While _ _ _ _) _) _ _ _)); (fail_if_success (with_reducible show wpAny _ _ (exec (Stmt.For _ _ _ _ _) _) _ _ _)))))
  trivial
theorem kw_line27 : True := by
  (k_with "my GO" => (repeat' (first | (k_unmd; k_unfold; (try dsimp only)) | (walk_at "STOP"; walk1) | (dsimp only; walk_at "STOP"; walk1))))
  trivial

noncomputable abbrev tupO (vs : List Value) (n : Nat) : Obj := { cls := .type "tuple", data := .seq vs.toArray n }

noncomputable def Spec (w : World) (mean : ExcName → Option Value) (mg mb : Str → Option Value) (f : Addr) (nd : Nat) (args : List Value) (news : List (Addr × Obj)) (Ok : Value → List (Addr × Obj) → Prop) (Bad : Addr → Addr → List (Addr × Obj) → Prop) : Prop :=
  ∀ (dp un : Nat) (gd : Option (List Code)) (cn : Str) (cs : Scope) (a : Addr) (ccd : Value) (cl : List (Str × Addr)) (outer : List Env) (A₀ : Around) (base h₀ : Heap) (L : Addr) (m : Str → Option Value) (s : Shared) (Q E : Value → Shared → Prop),
    Below A₀ base outer h₀ → Fr h₀ L s.heap m → (hd.heap_39 w.params).In h₀ → News h₀ L s.heap news → Top hd.view_39 (looseW hd.view_39 [Str.ofString "GREATEST", Str.ofString "STATIC_ROWS"]) mean mg mb h₀ → cs.kind = .function →
    dp + nd < recursionLimit → un + 16 * nd < cLine →
    (∀ r news' h' tk', Fr h₀ L h' m → News h₀ L h' news' → Ok r news' → Q r { s with heap := h', toks := tk' }) →
    (∀ g e C dx cx news' h' tk', cx = .none → Fr h₀ L g m → g.UpToSlots h' → FlyK base (envX cn cs L a ccd cl :: outer) e (.ref C) dx cx news' h' → Bad C dx news' → E (.ref e) { s with heap := h', toks := tk' }) →
    wpAny (model PySem.Challenge.rw_tk0103_01.row.prog w) (ktrTop dp un gd cn cs L a ccd cl outer) (call (.ref f) args) Q E s

theorem Spec.use {w : World} {mean : ExcName → Option Value} {mg mb : Str → Option Value} {f : Addr} {nd : Nat} {args : List Value} {news : List (Addr × Obj)} {Ok : Value → List (Addr × Obj) → Prop} {Bad : Addr → Addr → List (Addr × Obj) → Prop}
    (S : Spec w mean mg mb f nd args news Ok Bad) {dp un : Nat} {gd : Option (List Code)} {cn : Str} {cs : Scope} {a : Addr} {ccd : Value} {cl : List (Str × Addr)} {outer : List Env} {A₀ : Around} {base h₀ : Heap} {L : Addr} {m : Str → Option Value} {hp : Heap} {ge : Array GenState} {dr : Drawn} {tk : Nat} {os : OsState} {Q E : Value → Shared → Prop} {ledger : List (Addr × Obj)}
    (B : Below A₀ base outer h₀) (F : Fr h₀ L hp m) (X : (hd.heap_39 w.params).In h₀) (N : News h₀ L hp ledger) (sub : ∀ p ∈ news, p ∈ ledger) (T : Top hd.view_39 (looseW hd.view_39 [Str.ofString "GREATEST", Str.ofString "STATIC_ROWS"]) mean mg mb h₀) (hk : cs.kind = .function)
    (hdp : dp + nd < recursionLimit) (hun : un + 16 * nd < cLine)
    (ok : ∀ r news' h' tk', Fr h₀ L h' m → News h₀ L h' news' → Ok r news' → Q r ⟨h', ge, dr, tk', os⟩)
    (bad : ∀ g e C dx cx news' h' tk', cx = .none → Fr h₀ L g m → g.UpToSlots h' → FlyK base (envX cn cs L a ccd cl :: outer) e (.ref C) dx cx news' h' → Bad C dx news' → E (.ref e) ⟨h', ge, dr, tk', os⟩) :
    wpAny (model PySem.Challenge.rw_tk0103_01.row.prog w) (ktrTop dp un gd cn cs L a ccd cl outer) (call (.ref f) args) Q E ⟨hp, ge, dr, tk, os⟩ :=
  S _ _ _ _ _ _ _ _ _ _ _ _ _ _ _ _ _ B F X (fun p hp => N p (sub p hp)) T hk hdp hun ok bad

theorem leave_raise2 {M : Model} {A : Around} {E : Value → Shared → Prop} {s' : Shared} {base g : Heap} {outer : List Env} {L a e dx : Addr} {m : Str → Option Value} {name : Str} {scope : Scope} {cd : Value} {Q : Unit → Shared → Prop} {rest : List (Addr × Obj)} {C cx t0 : Value} {od : Obj}
    (K : Below A base outer g) (F : Fr g L s'.heap m) (N : News g L s'.heap ((dx, od) :: (e, excO C (some dx) t0 .none cx) :: rest)) (hne : ∀ p ∈ rest, p.1 ≠ e) (hd : @LT.lt Nat _ e dx)
    (hQ : ∀ h', FlyK base outer e C dx cx ((dx, od) :: rest) h' → g.UpToSlots h' → Q () { s' with heap := h' }) (hk : scope.kind = .function := by rfl) :
    wpAny M (A.deeper (envOf name scope L a cd)) (leaving (envOf name scope L a cd) (.ref e)) Q E s' :=
  leave_raiseM K F N (.tail _ (.head _)) (fun p hp => by
    rcases List.mem_cons.mp hp with rfl | hp
    · exact .head _
    · exact .tail _ (.tail _ hp)) (fun p hp => by
    rcases List.mem_cons.mp hp with rfl | hp
    · exact Nat.ne_of_gt hd
    · exact hne p hp) hQ hk

theorem raisX_of {w : World} {A : Around} {K : Frag} {prog : Program} {E : Value → Shared → Prop} {s : Shared} {e C : Addr} {cd : ClassData} {dd : Option Addr} {t0 cx : Value} {h₀ : Heap} {L : Addr} {m : Str → Option Value} {news : List (Addr × Obj)} (F : Fr h₀ L s.heap m) (X : K.In h₀) (N : News h₀ L s.heap news) (hin : (e, excO (.ref C) dd t0 .none cx) ∈ news)
    (hcd : clsIn K C = some cd) (hm : cd.mro = excMro C) (hT : typeIn K (.ref C) = some (.type "type")) (h : wpAny (model prog w) A (raiseNew (.ref e) : Sem Flow) (fun _ _ => False) E s) : RaisX (model prog w) A K E (.ref e) s :=
  ⟨e, C, cd, dd, t0, cx, rfl, (N _ hin).1, X.keeps F.keep, hcd, hm, hT, h⟩

theorem Raise_ownK {prog : Program} {w : World} {A : Around} {K : Frag} {h₀ : Heap} {E : Value → Shared → Prop} {s : Shared} {env : Env} {e : PySem.Expr} {pos : Pos} {Q : Flow → Shared → Prop} (_X : K.In h₀) (h : wpAny (model prog w) A (eval e env) (RaisX (model prog w) A K E) E s) : wpAny (model prog w) A (exec (.Raise (some e) none pos) env) Q E s := Raise_own h
theorem kw_line28 : True := by
  (k_with "my exec Raise some none" => ((k_here; k_dflt (refine' Raise_ownK ?X_q ?_; (case X_q => k_asm); k_whole))))
  trivial
theorem kw_line29 : True := by
  (k_with "my RaisX" => ((k_here; k_dflt (refine' raisX_of ?F_q ?X_q ?N_q ?i_q ?c_q ?m_q ?t_q ?_; (case F_q => k_asm); (case X_q => k_asm); (case N_q => k_asm); (case i_q => k_mem); (case c_q => k_is); (case m_q => rfl); (case t_q => k_is)))))
  trivial
theorem kw_line30 : True := by
  (k_with "my raiseNew ref" => ((k_here; k_dflt (refine raiseNew_none rfl ?_))))
  trivial
theorem kw_line31 : True := by
  (k_with "my leaving ref" => ((k_here; k_dflt (refine' leave_raise2 ?K_q ?F_q ?N_q ?n_q ?d_q ?_; (case K_q => k_asm); (case F_q => k_asm); (case N_q => k_asm); (case n_q => assumption); (case d_q => assumption); k_whole); intro _ _ _; (try dsimp only))))
  trivial
theorem kw_line32 : True := by
  (k_with "my call ref" => ((k_here; (with_reducible show wpAny _ _ (call (Value.ref 38) _) _ _ _); k_dflt (refine' qerr_call _ _ _ _ _ _ _ _ _ _ _ _ _ _ _ _ _ _ _ _ _ _ _ ?B_q ?F_q ?X_q ?N_q ?T_q ?k_q ?c0_q ?c1_q ?x_q ?d_q ?u_q ?_; (case B_q => k_asm); (case F_q => k_asm); (case X_q => k_asm); (case N_q => k_asm); (case T_q => k_asm); (case k_q => rfl); (case c0_q => decide); (case c1_q => decide); (case x_q => first | decide | omega); (case d_q => ktr_room); (case u_q => ktr_units)); intro _ _ _ _ _ _ _ _ _ _ _ _)))
  trivial
theorem kw_line33 : True := by
  (k_with "my call ref" => ((k_here; (with_reducible show wpAny _ _ (call (Value.ref 58) _) _ _ _); k_dflt (refine' short_call _ _ _ _ _ _ _ _ _ _ _ _ _ _ _ _ _ _ _ _ _ ?B_q ?F_q ?X_q ?N_q ?T_q ?k_q ?x_q ?d_q ?u_q ?_; (case B_q => k_asm); (case F_q => k_asm); (case X_q => k_asm); (case N_q => k_asm); (case T_q => k_asm); (case k_q => rfl); (case x_q => first | decide | omega); (case d_q => ktr_room); (case u_q => ktr_units)); intro _ _ _ _ _ _ _ _ _ _ _)))
  trivial

noncomputable def bindZ : List (Str × Value) → (Str → Option Value) → Str → Option Value
  | [], m => m
  | (x, v) :: r, m => fun y => if y = x then some v else bindZ r m y
theorem bindZ_eq {m m₀ : Str → Option Value} : ∀ {ps : List (Str × Value)}, (∀ p ∈ ps, m p.1 = some p.2) → (∀ y, (∀ p ∈ ps, y ≠ p.1) → m y = m₀ y) → bindZ ps m₀ = m
  | [], _, hr => funext fun y => (hr y fun _ hp => (nomatch hp)).symm
  | (x, v) :: r, hk, hr => by
    funext y
    by_cases h : y = x
    · subst h
      simp only [bindZ, if_true]
      exact (hk _ (.head _)).symm
    · simp only [bindZ, if_neg h]
      have : bindZ r (fun z => if z = x then m x else m₀ z) = m := bindZ_eq (fun p hp => hk p (.tail _ hp)) fun z hz => by
        by_cases hzx : z = x
        · simp [hzx]
        · simp only [if_neg hzx]
          exact hr z fun p hp => by
            rcases List.mem_cons.mp hp with rfl | hp
            · exact hzx
            · exact hz p hp
      have e : ∀ (r : List (Str × Value)) (m₁ m₂ : Str → Option Value), m₁ y = m₂ y → bindZ r m₁ y = bindZ r m₂ y := by
        intro r
        induction r with
        | nil => exact fun _ _ q => q
        | cons p r ih =>
          intro m₁ m₂ q
          simp only [bindZ]
          rw [ih m₁ m₂ q]
      rw [e r m₀ (fun z => if z = x then m x else m₀ z) (by simp [h]), this]

/-- the turn's end of a while: the stored names' values, the ledger, and the word J of both, at a smaller number -/
inductive WhEnd (h₀ : Heap) (L : Addr) (s : Shared) (m₀ : Str → Option Value) (J : Nat → List (Str × Value) → List (Addr × Obj) → Prop) (n : Nat) (s₃ : Shared) : Prop
  | mk : ∀ h' tk m' news' n' ps', (s₃ = { s with heap := h', toks := tk }) → (Fr h₀ L h' m') → (News h₀ L h' news') → ((∀ p ∈ ps', m' p.1 = some p.2)) → ((∀ y, (∀ p ∈ ps', y ≠ p.1) → m' y = m₀ y)) → (n' < n) → (J n' ps' news') → WhEnd h₀ L s m₀ J n s₃
noncomputable def WhPost (h₀ : Heap) (L : Addr) (s : Shared) (m₀ : Str → Option Value) (J : Nat → List (Str × Value) → List (Addr × Obj) → Prop) (Q : Flow → Shared → Prop) (n : Nat) (f : Flow) (s₃ : Shared) : Prop :=
  match f with
  | .ret v => Q (.ret v) s₃
  | .brk => Q .next s₃
  | _ => WhEnd h₀ L s m₀ J n s₃
section
variable {prog : Program} {w : World} {A : Around} {E : Value → Shared → Prop} {Q : Flow → Shared → Prop} {s : Shared} {env : Env} {h₀ : Heap} {L : Addr}
theorem While_st {test : PySem.Expr} {body : List Stmt} {pos : Pos} {m₀ : Str → Option Value} {news ledger : List (Addr × Obj)} (J : Nat → List (Str × Value) → List (Addr × Obj) → Prop) (n₀ : Nat) (ps₀ : List (Str × Value))
    (F : Fr h₀ L s.heap m₀) (N : News h₀ L s.heap ledger) (sub : ∀ p ∈ news, p ∈ ledger) (hk : ∀ p ∈ ps₀, m₀ p.1 = some p.2) (hJ : J n₀ ps₀ news)
    (turn : ∀ n ps nw h tk, Fr h₀ L h (bindZ ps m₀) → News h₀ L h nw → J n ps nw →
      let P9 : Flow → Shared → Prop := WhPost h₀ L s m₀ J Q n
      wpAny (model prog w) A (isTrue test env (eval test env)) (fun b s₂ =>
        if b = true then wpAny (model prog w) A (execs body env) P9 E s₂ else Q .next s₂) E { s with heap := h, toks := tk })
    (hE : PassesOwn (model prog w) A env E := by passes_own) : wpAny (model prog w) A (exec (.While test body [] pos) env) Q E s := by
  refine While_inv2 (fun n m nx => ∃ ps, J n ps nx ∧ (∀ p ∈ ps, m p.1 = some p.2) ∧ ∀ y, (∀ p ∈ ps, y ≠ p.1) → m y = m₀ y) F (fun p hp => N p (sub p hp)) ⟨ps₀, hJ, hk, fun _ _ => rfl⟩ ?_ hE
  rintro n m₁ nx h tk F₁ N₁ ⟨ps, hJ', hk', hr'⟩
  refine wpAny_mono (turn n ps nx h tk (by rw [bindZ_eq hk' hr']; exact F₁) N₁ hJ') (fun b s₂ p => ?_) fun _ _ x => x
  cases b with
  | false => simpa using p
  | true =>
    simp only [if_true] at p ⊢
    refine wpAny_mono p (fun f s₃ q => ?_) fun _ _ x => x
    cases f with
    | ret v => exact q
    | brk => exact q
    | next =>
      obtain ⟨h', tk', m', news', n', ps', rfl, F', N', a1, a2, a3, a4⟩ := q
      exact ⟨h', tk', m', news', n', rfl, F', N', a3, ps', a4, a1, a2⟩
    | cont =>
      obtain ⟨h', tk', m', news', n', ps', rfl, F', N', a1, a2, a3, a4⟩ := q
      exact ⟨h', tk', m', news', n', rfl, F', N', a3, ps', a4, a1, a2⟩
end

theorem kw_line34 : True := by
  (k_with "my WhPost" => ((dsimp only [WhPost])))
  trivial
theorem kw_line35 : True := by
  (k_with "my KEYS" => (first | exact List.forall_mem_nil _ | (refine List.forall_mem_cons.mpr ⟨rfl, ?_⟩; walk_at "KEYS")))
  trivial
theorem and127_small (x : Int) : (Builtin.bitAnd x 127).natAbs < 2 ^ 64 := by
  have := bitAnd_range x (y := 127) (by decide)
  omega
theorem kw_line36 : True := by
  (k_with "my binaryOp LShift int int" => ((k_here; (with_reducible show wpAny _ _ (binaryOp _ (Value.int (Builtin.bitAnd _ 127) _) _) _ _ _); refine lshift_int_small (by omega) (by omega) (and127_small _) ?_)))
  trivial

theorem kw_line37 : True := by
  (k_with "my leaving ref" => ((k_here; k_dflt (refine' leave_onM ?K_q ?F_q ?R_q ?u_q ?_; (case K_q => k_asm); (case R_q => assumption); (case u_q => assumption); (case F_q => assumption); k_whole); intro _ _ _; (try dsimp only))))
  trivial
/-- the usual premises of a contract at a call -/
theorem kw_line38 : True := by
  (k_with "my USE" => (((case B_q => k_asm); (case F_q => k_asm); (case X_q => k_asm); (case N_q => k_asm); (case sub_q => exact fun _ h9 => h9); (case T_q => k_asm); (case k_q => rfl); (case d_q => ktr_room); (case u_q => ktr_units))))
  trivial

/-- two ways through a statement that meet behind it -/
theorem join_next {M : Model} {A : Around} {E : Value → Shared → Prop} {Q : Flow → Shared → Prop} {s : Shared} {env : Env} {st : Stmt} {rest : List Stmt} (J : Shared → Prop)
    (h : let J9 : Shared → Prop := J
      wpAny M A (exec st env) (fun f s' => match f with | .next => J9 s' | f => Q f s') E s) (k : ∀ s', J s' → wpAny M A (execs rest env) Q E s') : wpAny M A (execs (st :: rest) env) Q E s := by
  refine wpAny_execs_cons (wpAny_mono h (fun f s' q => ?_) fun _ _ x => x)
  cases f with
  | next => exact k s' q
  | _ => exact q

inductive JN (g : Heap) (L : Addr) (s : Shared) (m : Str → Option Value) (news : List (Addr × Obj)) (P : Prop) (s' : Shared) : Prop
  | mk : (P) → ∀ h' tk, (s' = { s with heap := h', toks := tk }) → (Fr g L h' m) → (News g L h' news) → JN g L s m news P s'
theorem JN.intro {g h' : Heap} {L : Addr} {s : Shared} {m : Str → Option Value} {news : List (Addr × Obj)} {P : Prop} {tk : Nat} (F : Fr g L h' m) (N : News g L h' news) (hP : P) : JN g L s m news P { s with heap := h', toks := tk } := ⟨hP, h', tk, rfl, F, N⟩

/-- a number, as it stands behind get_prefix: none yet, one that cannot be, one and the place behind it -/
inductive PR where
  | short
  | wrong
  | ok (n a : Int)
noncomputable def pfxLoop (ks : List Int) : Nat → Int → Int → Int → PR
  | 0, _, _, _ => .short
  | f + 1, a, found, shift =>
    if (ks.length : Int) ≤ a then .short else
    if found + ks.getD a.toNat 0 % 128 * 2 ^ shift.toNat > 4611686018427387903 ∨ shift > 62 then .wrong else
    if ks.getD a.toNat 0 < 128 then .ok (found + ks.getD a.toNat 0 % 128 * 2 ^ shift.toNat) (a + 1) else
    pfxLoop ks f (a + 1) (found + ks.getD a.toNat 0 % 128 * 2 ^ shift.toNat) (shift + 7)
noncomputable def pfx (ks : List Int) (a bits : Int) : PR :=
  if (ks.length : Int) ≤ a then .short else
  if ks.getD a.toNat 0 % 2 ^ bits.toNat < 2 ^ bits.toNat - 1 then .ok (ks.getD a.toNat 0 % 2 ^ bits.toNat) (a + 1) else
  pfxLoop ks 12 (a + 1) (ks.getD a.toNat 0 % 2 ^ bits.toNat) 0
/-- a text -/
inductive TR where
  | short
  | wrong
  | ok (v : List Int) (a : Int)
noncomputable def txt (ks : List Int) (a bits : Int) : TR :=
  if a < (ks.length : Int) ∧ ks.getD a.toNat 0 / 2 ^ bits.toNat % 2 = 1 then .wrong else
  match pfx ks a bits with
  | .short => .short
  | .wrong => .wrong
  | .ok n a' => if a' + n > (ks.length : Int) then .short else .ok ((ks.drop a'.toNat).take n.toNat) (a' + n)

/-! ## MBytes -/
section
open PySem.Builtin
section
variable {prog : Program} {w : World} {A : Around} {E : Value → Shared → Prop} {s : Shared}
theorem look_dbytes : typeLookup (.type "bytes") "__bytes__" = pure (some (.builtin "bytes.__bytes__")) := by rw [typeLookup_type, builtinLookup_eq_fast]; kernel_rfl
theorem new_same {b : Array UInt8} {t : Tok} {Q : Value → Shared → Prop} (hQ : Q (.bytes b t) s) :
    codeAny (model prog w) A (.call (.builtin "bytes.__new__") ⟨[.type "bytes", .bytes b t], []⟩) (wants Q E) s := by
  refine codeAny_of_tree ?_
  show wpAny _ A.in1 (do checkBuiltinCall "bytes.__new__" ⟨[.type "bytes", .bytes b t], []⟩; again (.builtin "bytes.__new__" ⟨[.type "bytes", .bytes b t], []⟩)) _ _ s
  refine wpAny_bind (wpAny_of_eq (F.bm_newCall _) (wpAny_pure ⟨plainId_quiet F.bm_plain _, codeAny_builtin F.bm_entry ?_⟩))
  rw [Around.under_plainId F.bm_plain _]
  have hT : s.TypeIs (.bytes b t) "bytes" := PySem.W.typeIs_bytes _ _ _
  unfold Builtin.«bytes.__new__»
  refine wpAny_bind (wpAny_of_eq (a := true) rfl ?_)
  refine bm_if_false rfl ?_
  refine wpAny_bind (wpAny_of_eq F.bm_sub ?_)
  refine bm_if_false rfl ?_
  refine wpAny_bind (wpAny_of_eq (F.bm_bind _) ?_)
  refine wpAny_bind (wpAny_of_eq (a := ()) rfl ?_)
  refine wpAny_bind (wpAny_of_eq (a := ()) rfl ?_)
  refine bm_if_false rfl ?_
  refine wpAny_bind (wpAny_specialOf hT look_dbytes ?_)
  dsimp only
  refine wpAny_bind (wpAny_rule (wpAny_bind (wpAny_typeOf hT ?_)))
  refine bm_if_true rfl ?_
  exact wpAny_of_eq (a := .done (.ret (.bytes b t))) rfl hQ
theorem call_bytes_same {b : Array UInt8} {t : Tok} {Q : Value → Shared → Prop} (hQ : Q (.bytes b t) s) : wpAny (model prog w) A (call (.type "bytes") [.bytes b t]) Q E s := by
  refine callType_codes (Q₁ := fun obj s₁ => s₁.TypeIs obj "bytes" ∧ Q obj s₁) F.bm_called (F.bm_typeCall _) F.entry_object_init
    (new_same ⟨PySem.W.typeIs_bytes _ _ _, hQ⟩) fun obj s₁ h₁ => ?_
  exact ⟨h₁.1, F.args_object_init_2 obj _, object_init_meets F.bm_called.init.lookup F.bm_called.made (by decide) prog w A.in1 _ s₁ ⟨h₁.1, rfl, h₁.2⟩⟩
theorem look_ibytes : typeLookup (.type "int") "__bytes__" = pure none := by rw [typeLookup_type, builtinLookup_eq_fast]; kernel_rfl
theorem look_iindex : typeLookup (.type "int") "__index__" = pure (some (.builtin "int.__index__")) := by rw [typeLookup_type, builtinLookup_eq_fast]; kernel_rfl
theorem fits_small {n : Int} (h0 : 0 ≤ n) (h1 : n ≤ 4096) : Bytes.fitsIndex n = true := by
  unfold Bytes.fitsIndex
  simp only [Bool.and_eq_true, decide_eq_true_eq]
  omega
theorem new_count {n : Int} {t : Tok} {Q : Value → Shared → Prop} (h0 : 0 ≤ n) (h1 : n ≤ 4096) (hQ : ∀ t', Q (.bytes (Array.replicate n.toNat 0) t') { s with toks := s.toks + 1 }) :
    codeAny (model prog w) A (.call (.builtin "bytes.__new__") ⟨[.type "bytes", .int n t], []⟩) (wants Q E) s := by
  refine codeAny_of_tree ?_
  show wpAny _ A.in1 (do checkBuiltinCall "bytes.__new__" ⟨[.type "bytes", .int n t], []⟩; again (.builtin "bytes.__new__" ⟨[.type "bytes", .int n t], []⟩)) _ _ s
  refine wpAny_bind (wpAny_of_eq (F.bm_newCall _) (wpAny_pure ⟨plainId_quiet F.bm_plain _, codeAny_builtin F.bm_entry ?_⟩))
  rw [Around.under_plainId F.bm_plain _]
  have hT : s.TypeIs (.int n t) "int" := typeIs_int _ _ _
  unfold Builtin.«bytes.__new__»
  refine wpAny_bind (wpAny_of_eq (a := true) rfl ?_)
  refine bm_if_false rfl ?_
  refine wpAny_bind (wpAny_of_eq F.bm_sub ?_)
  refine bm_if_false rfl ?_
  refine wpAny_bind (wpAny_of_eq (F.bm_bind _) ?_)
  refine wpAny_bind (wpAny_of_eq (a := ()) rfl ?_)
  refine wpAny_bind (wpAny_of_eq (a := ()) rfl ?_)
  refine bm_if_false rfl ?_
  refine wpAny_bind (wpAny_specialOf hT look_ibytes ?_)
  refine wpAny_bind (wpAny_of_eq (a := false) rfl ?_)
  refine bm_if_false rfl ?_
  refine wpAny_bind (wpAny_specialOf hT look_iindex ?_)
  refine bm_if_false rfl ?_
  refine wpAny_bind (wpAny_attempt (wpAny_of_eq (rfl : asIndex (.int n t) = pure n) ?_))
  dsimp only
  have hN : n.toNat ≤ 4096 := by omega
  have hZ : (4096 : Nat) ≤ sizeLine := by rw [sizeLine_eq]; decide
  rw [if_neg (by rw [show _ = true from fits_small h0 h1]; decide), if_neg (by omega), if_neg (by omega), if_neg (by simp [Bytes.tooLong]; omega)]
  refine wpAny_bind (wpAny_rule (wpAny_bind (wpAny_mkBytes ?_ (by rw [Array.size_replicate]; omega))))
  exact wpAny_of_eq (a := .done (.ret (.bytes (Array.replicate n.toNat 0) _))) rfl (hQ _)
theorem call_bytes_count {n : Int} {t : Tok} {Q : Value → Shared → Prop} (h0 : 0 ≤ n) (h1 : n ≤ 4096) (hQ : ∀ t', Q (.bytes (Array.replicate n.toNat 0) t') { s with toks := s.toks + 1 }) : wpAny (model prog w) A (call (.type "bytes") [.int n t]) Q E s := by
  refine callType_codes (Q₁ := fun obj s₁ => s₁.TypeIs obj "bytes" ∧ Q obj s₁) F.bm_called (F.bm_typeCall _) F.entry_object_init
    (new_count h0 h1 fun t' => ⟨PySem.W.typeIs_bytes _ _ _, hQ t'⟩) fun obj s₁ h₁ => ?_
  exact ⟨h₁.1, F.args_object_init_2 obj _, object_init_meets F.bm_called.init.lookup F.bm_called.made (by decide) prog w A.in1 _ s₁ ⟨h₁.1, rfl, h₁.2⟩⟩
theorem bInts_rep (n : Nat) : KBw.bInts (Array.replicate n 0) = List.replicate n 0 := by simp [KBw.bInts]
end

end
theorem kw_line39 : True := by
  (k_with "my call type:bytes" => ((k_here; (with_reducible show wpAny _ _ (call (Value.type "bytes") [Value.bytes _ _]) _ _ _); k_dflt (refine' call_bytes_same ?_; k_whole))))
  trivial
theorem kw_line40 : True := by
  (k_with "my call type:bytes" => ((k_here; (with_reducible show wpAny _ _ (call (Value.type "bytes") [Value.int _ _]) _ _ _); k_dflt (refine' call_bytes_count ?a_q ?b_q ?_; (case a_q => omega); (case b_q => omega); k_whole); intro _)))
  trivial
/-! ## MPre -/

theorem pfx_short {ks : List Int} {a bits : Int} (h : a ≥ (ks.length : Int)) : pfx ks a bits = .short := by
  unfold pfx; rw [if_pos h]
theorem pfx_one {ks : List Int} {a bits : Int} (h : ¬ a ≥ (ks.length : Int)) (h2 : Builtin.bitAnd (ks.getD a.toNat 0) (1 * 2 ^ bits.toNat - 1) < 1 * 2 ^ bits.toNat - 1) : pfx ks a bits = .ok (Builtin.bitAnd (ks.getD a.toNat 0) (1 * 2 ^ bits.toNat - 1)) (a + 1) := by
  rw [Int.one_mul, kbt_mask] at *
  unfold pfx; rw [if_neg (by omega), if_pos h2]
theorem pfx_more {ks : List Int} {a bits : Int} (h : ¬ a ≥ (ks.length : Int)) (h2 : ¬ Builtin.bitAnd (ks.getD a.toNat 0) (1 * 2 ^ bits.toNat - 1) < 1 * 2 ^ bits.toNat - 1) : pfx ks a bits = pfxLoop ks 12 (a + 1) (Builtin.bitAnd (ks.getD a.toNat 0) (1 * 2 ^ bits.toNat - 1)) 0 := by
  rw [Int.one_mul, kbt_mask] at *
  unfold pfx; rw [if_neg (by omega), if_neg h2]

section
variable {ks : List Int} {n : Nat} {i f sh : Int}
theorem loop_short (h : i ≥ (ks.length : Int)) : pfxLoop ks (n + 1) i f sh = .short := by
  unfold pfxLoop; rw [if_pos h]
theorem loop_wrong (h : ¬ i ≥ (ks.length : Int)) (h2 : 4611686018427387903 < f + Builtin.bitAnd (ks.getD i.toNat 0) 127 * 2 ^ sh.toNat ∨ 62 < sh) : pfxLoop ks (n + 1) i f sh = .wrong := by
  rw [bitAnd_m7] at h2
  unfold pfxLoop; rw [if_neg (by omega), if_pos h2]
theorem loop_ok (h : ¬ i ≥ (ks.length : Int)) (h2 : ¬ 4611686018427387903 < f + Builtin.bitAnd (ks.getD i.toNat 0) 127 * 2 ^ sh.toNat) (h3 : ¬ 62 < sh) (h4 : ks.getD (i + 1 - 1).toNat 0 < 128) :
    pfxLoop ks (n + 1) i f sh = .ok (f + Builtin.bitAnd (ks.getD i.toNat 0) 127 * 2 ^ sh.toNat) (i + 1) := by
  rw [bitAnd_m7] at h2
  rw [Int.add_sub_cancel] at h4
  unfold pfxLoop; rw [if_neg (by omega), if_neg (by omega), if_pos h4, bitAnd_m7]
theorem loop_more (h : ¬ i ≥ (ks.length : Int)) (h2 : ¬ 4611686018427387903 < f + Builtin.bitAnd (ks.getD i.toNat 0) 127 * 2 ^ sh.toNat) (h3 : ¬ 62 < sh) (h4 : ¬ ks.getD (i + 1 - 1).toNat 0 < 128) :
    pfxLoop ks (n + 1) i f sh = pfxLoop ks n (i + 1) (f + Builtin.bitAnd (ks.getD i.toNat 0) 127 * 2 ^ sh.toNat) (sh + 7) := by
  rw [bitAnd_m7] at h2
  rw [Int.add_sub_cancel] at h4
  rw [bitAnd_m7]
  conv => lhs; unfold pfxLoop
  rw [if_neg (by omega), if_neg (by omega), if_neg h4]
theorem loop_le : 0 ≤ f → 0 ≤ f + Builtin.bitAnd (ks.getD i.toNat 0) 127 * 2 ^ sh.toNat := fun h => by
  have := Int.mul_nonneg (bitAnd_range (ks.getD i.toNat 0) (y := 127) (by decide)).1 (Int.le_of_lt (Int.pow_pos (n := 2) (m := sh.toNat) (by decide)))
  omega
end
theorem mask_range {ks : List Int} {a bits : Int} (hbits : bits = 5 ∨ bits = 6 ∨ bits = 7) : 0 ≤ Builtin.bitAnd (ks.getD a.toNat 0) (1 * 2 ^ bits.toNat - 1) ∧ Builtin.bitAnd (ks.getD a.toNat 0) (1 * 2 ^ bits.toNat - 1) ≤ 4611686018427387903 := by
  rcases hbits with rfl | rfl | rfl
  · have := bitAnd_range (ks.getD a.toNat 0) (y := 31) (by decide); exact ⟨this.1, by have := this.2; show Builtin.bitAnd _ 31 ≤ _; omega⟩
  · have := bitAnd_range (ks.getD a.toNat 0) (y := 63) (by decide); exact ⟨this.1, by have := this.2; show Builtin.bitAnd _ 63 ≤ _; omega⟩
  · have := bitAnd_range (ks.getD a.toNat 0) (y := 127) (by decide); exact ⟨this.1, by have := this.2; show Builtin.bitAnd _ 127 ≤ _; omega⟩

theorem pow2_nn (n : Nat) : (0 : Int) ≤ 2 ^ n := Int.le_of_lt (Int.pow_pos (by decide))
theorem loop_bounds {ks : List Int} : ∀ {m : Nat} {i f sh n a' : Int}, 0 ≤ f → pfxLoop ks m i f sh = .ok n a' → i + 1 ≤ a' ∧ a' ≤ ks.length ∧ 0 ≤ n ∧ n ≤ 4611686018427387903
  | 0, _, _, _, _, _, _, h => by cases h
  | m + 1, i, f, sh, n, a', hf, h => by
    unfold pfxLoop at h
    split at h
    · cases h
    · split at h
      · cases h
      · have hm : 0 ≤ f + ks.getD i.toNat 0 % 128 * 2 ^ sh.toNat := by
          have := Int.mul_nonneg (Int.emod_nonneg (ks.getD i.toNat 0) (show (128 : Int) ≠ 0 by decide)) (pow2_nn sh.toNat)
          omega
        split at h
        · cases h
          exact ⟨Int.le_refl _, by omega, hm, by omega⟩
        · have := loop_bounds hm h
          omega
theorem pfx_bounds {ks : List Int} {a bits n a' : Int} (hbits : bits = 5 ∨ bits = 6 ∨ bits = 7) (h : pfx ks a bits = .ok n a') : a + 1 ≤ a' ∧ a' ≤ ks.length ∧ 0 ≤ n ∧ n ≤ 4611686018427387903 := by
  have hm : 0 ≤ ks.getD a.toNat 0 % 2 ^ bits.toNat := Int.emod_nonneg _ (by have : (0 : Int) < 2 ^ bits.toNat := Int.pow_pos (by decide); omega)
  have hp : (2 : Int) ^ bits.toNat ≤ 128 := by rcases hbits with rfl | rfl | rfl <;> decide
  unfold pfx at h
  split at h
  · cases h
  · split at h
    · cases h
      exact ⟨Int.le_refl _, by omega, hm, by omega⟩
    · have := loop_bounds hm h
      omega

inductive BadA (w : World) (S W : Prop) (news : List (Addr × Obj)) (C dx : Addr) (news' : List (Addr × Obj)) : Prop
  | inl : (S) → (C = 58) → ∀ od, (news' = (dx, od) :: news) → BadA w S W news C dx news'
  | inr : (W) → (C = 38) → ∀ (tc : Tok) (x : Str) (tx t1 t2 : Tok), (x.length ≤ 50) → (news' = (dx, dictOf (qAttrs w 512 tc x tx t1 t2) 2) :: news) → BadA w S W news C dx news'
inductive PreOk (ks : List Int) (a bits : Int) (news : List (Addr × Obj)) (r : Value) (news' : List (Addr × Obj)) : Prop
  | mk : ∀ (n a' : Int) (tr : Addr) (t1 t2 : Tok) (c : Nat), (pfx ks a bits = .ok n a') → (r = .ref tr) → (news' = (tr, tupO [.int n t1, .int a' t2] c) :: news) → (AllLt tr news) → PreOk ks a bits news r news'
inductive PreJ (ks : List Int) (a bits : Int) (news : List (Addr × Obj)) (n : Nat) (ps : List (Str × Value)) (nw : List (Addr × Obj)) : Prop
  | mk : ∀ (i f sh : Int) (ta' tf ts : Tok), (ps = [(Str.ofString "at", .int i ta'), (Str.ofString "found", .int f tf), (Str.ofString "shift", .int sh ts)]) → (nw = news) → (pfx ks a bits = pfxLoop ks n i f sh) → (0 ≤ i) → (i ≤ 6000) → (0 ≤ f) → (f ≤ 4611686018427387903) → (0 ≤ sh) → (sh ≤ 63) → (sh + 7 * n = 84) → PreJ ks a bits news n ps nw
set_option maxHeartbeats 8000000 in
theorem pre_ok {w : World} {mean : ExcName → Option Value} {mg mb : Str → Option Value} {d : Array UInt8} {ks : List Int} {td ta tb : Tok} {a bits : Int} {news : List (Addr × Obj)} (hb : KBw.bInts d = ks) (hlen : ks.length ≤ 4096) (ha0 : 0 ≤ a) (ha1 : a ≤ 5000) (hbits : bits = 5 ∨ bits = 6 ∨ bits = 7) :
    Spec w mean mg mb 68 10 [.bytes d td, .int a ta, .int bits tb] news
      (PreOk ks a bits news)
      (BadA w (pfx ks a bits = .short) (pfx ks a bits = .wrong) news) := by
  unfold Spec
  k_fill
  intro dp un gd cn cs av ccd cl outer A₀ base h₀ L m s Q E B F X N T hk hdp hun hret hexc
  refine wpAny_call ?_
  k_dflt ktr_enter
  rename_i g1 L1 h1 FG F1 N1 B1 X1 T1
  replace F1 : Fr g1 L1 h1 (fun y => List.lookup y [(Str.ofString "bits", .int bits tb), (Str.ofString "at", .int a ta), (Str.ofString "data", .bytes d td)]) := F1
  walk_at "GO"
  · exact hexc _ _ _ _ _ _ _ _ rfl FG (by assumption) (by assumption) (.inl (pfx_short (by assumption)) rfl _ rfl)
  · exact hret _ _ _ _ (by k_asm) (cb_drop (by k_asm) (by walk_at "SUB")) ⟨_, _, _, _, _, _, pfx_one (by assumption) (by assumption), rfl, rfl, by tbn_find⟩
  · have e := pfx_more (bits := bits) (ks := ks) (a := a) (by assumption) (by assumption)
    rename Fr _ _ _ _ => F2
    rename News _ _ _ _ => N2
    obtain ⟨hf0, hf1⟩ := mask_range (ks := ks) (a := a) hbits
    refine While_st (PreJ ks a bits news) 12 [(Str.ofString "at", _), (Str.ofString "found", _), (Str.ofString "shift", _)] F2 N2 (news := news) (by walk_at "SUB") (List.forall_mem_cons.mpr ⟨rfl, List.forall_mem_cons.mpr ⟨rfl, List.forall_mem_cons.mpr ⟨rfl, List.forall_mem_nil _⟩⟩⟩) ⟨_, _, _, _, _, _, rfl, rfl, e, by omega, by omega, hf0, hf1, by omega, by omega, by omega⟩ ?_
    rintro n ps nw h₂ tk₂ F3 N3 ⟨i, f, sh, ta', tf, ts, rfl, rfl, e2, hi0, hi1, hf0, hf1, hs0, hs1, hs2⟩ P9
    clear F2 N2 e
    obtain ⟨n, rfl⟩ : ∃ k, n = k + 1 := ⟨n - 1, by omega⟩
    dsimp only [bindZ] at F3
    walk_at "GO"
    · exact hexc _ _ _ _ _ _ _ _ rfl FG (by assumption) (by assumption) (.inl (e2.trans (loop_short (by assumption))) rfl _ rfl)
    · exact hexc _ _ _ _ _ _ _ _ rfl FG (by assumption) (by assumption) (.inr (e2.trans (loop_wrong (by assumption) (.inl (by assumption)))) rfl _ _ _ _ _ (by decide) rfl)
    · exact hexc _ _ _ _ _ _ _ _ rfl FG (by assumption) (by assumption) (.inr (e2.trans (loop_wrong (by assumption) (.inr (by assumption)))) rfl _ _ _ _ _ (by decide) rfl)
    · exact hret _ _ _ _ (by k_asm) (cb_drop (by k_asm) (by walk_at "SUB")) ⟨_, _, _, _, _, _, e2.trans (loop_ok (by assumption) (by assumption) (by assumption) (by assumption)), rfl, rfl, by tbn_find⟩
    · refine ⟨_, _, _, nw, n, [(Str.ofString "at", _), (Str.ofString "found", _), (Str.ofString "shift", _)], rfl, by k_asm, cb_drop (by k_asm) (by walk_at "SUB"), by walk_at "KEYS", ?_, Nat.lt_succ_self _, _, _, _, _, _, _, rfl, rfl, e2.trans (loop_more (by assumption) (by assumption) (by assumption) (by assumption)), by omega, by omega, loop_le hf0, by omega, by omega, by omega, by omega⟩
      intro y hy
      have y1 := hy _ (.head _)
      have y2 := hy _ (.tail _ (.head _))
      have y3 := hy _ (.tail _ (.tail _ (.head _)))
      simp only [if_neg y1, if_neg y2, if_neg y3]

theorem kw_line41 : True := by
  (k_with "my call ref" => ((k_here; (with_reducible show wpAny _ _ (call (Value.ref 68) _) _ _ _); k_dflt (refine' Spec.use (pre_ok ?hb_q ?hl_q ?h0_q ?h1_q ?hi_q) ?B_q ?F_q ?X_q ?N_q ?sub_q ?T_q ?k_q ?d_q ?u_q ?_ ?_; (case hb_q => assumption); (case hl_q => omega); (case h0_q => omega); (case h1_q => omega); (case hi_q => omega); walk_at "USE"); (focus (intro _ _ _ _ _ _ ok'; obtain ⟨_, _, _, _, _, _, he', hr', hn', _⟩ := ok'; have hbd' := pfx_bounds (by omega) he'; subst hr' hn'; try dsimp only)); rotate_left; (focus (intro _ _ _ _ _ _ _ _ q9 _ _ _ b'; subst q9; rcases b' with ⟨he', hC', _, hn'⟩ | ⟨he', hC', _, _, _, _, _, _, hn'⟩ <;> subst hC' hn' <;> try dsimp only)))))
  trivial

/-! ## MText -/

theorem txt_wrong1 {ks : List Int} {a bits : Int} (h : a < (ks.length : Int)) (h2 : Builtin.bitAnd ((ks.getD a.toNat 0).fdiv (2 ^ bits.toNat)) 1 = 1) : txt ks a bits = .wrong := by
  rw [bitAnd_m1, Int.fdiv_eq_ediv_of_nonneg _ (Int.le_of_lt (Int.pow_pos (by decide)))] at h2
  unfold txt; rw [if_pos ⟨h, h2⟩]
theorem txt_on {ks : List Int} {a bits : Int} (h2 : Builtin.bitAnd ((ks.getD a.toNat 0).fdiv (2 ^ bits.toNat)) 1 ≠ 1) : ¬ (a < (ks.length : Int) ∧ ks.getD a.toNat 0 / 2 ^ bits.toNat % 2 = 1) := by
  rw [bitAnd_m1, Int.fdiv_eq_ediv_of_nonneg _ (Int.le_of_lt (Int.pow_pos (by decide)))] at h2
  exact fun q => h2 q.2

theorem txt_pre_short {ks : List Int} {a bits : Int} (h : ¬ (a < (ks.length : Int) ∧ ks.getD a.toNat 0 / 2 ^ bits.toNat % 2 = 1)) (h2 : pfx ks a bits = .short) : txt ks a bits = .short := by
  unfold txt; rw [if_neg h, h2]
theorem txt_pre_wrong {ks : List Int} {a bits : Int} (h : ¬ (a < (ks.length : Int) ∧ ks.getD a.toNat 0 / 2 ^ bits.toNat % 2 = 1)) (h2 : pfx ks a bits = .wrong) : txt ks a bits = .wrong := by
  unfold txt; rw [if_neg h, h2]
theorem txt_short {ks : List Int} {a bits n a' : Int} (h : ¬ (a < (ks.length : Int) ∧ ks.getD a.toNat 0 / 2 ^ bits.toNat % 2 = 1)) (h2 : pfx ks a bits = .ok n a') (h3 : (ks.length : Int) < a' + n) : txt ks a bits = .short := by
  unfold txt; rw [if_neg h, h2]; dsimp only; rw [if_pos h3]
theorem txt_ok {ks : List Int} {a bits n a' : Int} (h : ¬ (a < (ks.length : Int) ∧ ks.getD a.toNat 0 / 2 ^ bits.toNat % 2 = 1)) (h2 : pfx ks a bits = .ok n a') (h3 : ¬ (ks.length : Int) < a' + n) : txt ks a bits = .ok ((ks.drop a'.toNat).take n.toNat) (a' + n) := by
  unfold txt; rw [if_neg h, h2]; dsimp only; rw [if_neg h3]
theorem clip_nat {n : Nat} {i : Int} (h0 : 0 ≤ i) (h1 : i ≤ n) : clipAt n i = i.toNat := by
  unfold clipAt
  rw [if_neg (Int.not_lt.mpr h0), Int.min_eq_left h1, Int.max_eq_right h0]
theorem clip_cut {ks : List Int} {n a' : Int} (h1 : 0 ≤ a') (h2 : 0 ≤ n) (h3 : a' + n ≤ ks.length) : (ks.drop (clipAt ks.length a')).take (clipAt ks.length (a' + n) - clipAt ks.length a') = (ks.drop a'.toNat).take n.toNat := by
  rw [clip_nat h1 (Int.le_trans (Int.le_add_of_nonneg_right h2) h3), clip_nat (Int.add_nonneg h1 h2) h3, Int.toNat_add h1 h2, Nat.add_sub_cancel_left]
theorem txt_bounds {ks v : List Int} {a bits a' : Int} (hbits : bits = 5 ∨ bits = 6 ∨ bits = 7) (h0 : 0 ≤ a) (h : txt ks a bits = .ok v a') : a + 1 ≤ a' ∧ a' ≤ ks.length ∧ v.length ≤ ks.length := by
  unfold txt at h
  split at h
  · cases h
  · split at h
    · cases h
    · cases h
    · rename_i he
      have := pfx_bounds hbits he
      split at h
      · cases h
      · cases h
        refine ⟨by omega, by omega, ?_⟩
        rw [List.length_take, List.length_drop]
        omega

inductive TextOk (ks : List Int) (a bits : Int) (news : List (Addr × Obj)) (r : Value) (news' : List (Addr × Obj)) : Prop
  | mk : ∀ (v : List Int) (a' : Int) (tr : Addr) (b : Array UInt8) (t1 t2 : Tok) (c : Nat), (txt ks a bits = .ok v a') → (KBw.bInts b = v) → (r = .ref tr) → (news' = (tr, tupO [.bytes b t1, .int a' t2] c) :: news) → (AllLt tr news) → TextOk ks a bits news r news'
set_option maxHeartbeats 8000000 in
theorem text_ok {w : World} {mean : ExcName → Option Value} {mg mb : Str → Option Value} {d : Array UInt8} {ks : List Int} {td ta tb : Tok} {a bits : Int} {news : List (Addr × Obj)} (hb : KBw.bInts d = ks) (hlen : ks.length ≤ 4096) (ha0 : 0 ≤ a) (ha1 : a ≤ 5000) (hbits : bits = 5 ∨ bits = 6 ∨ bits = 7) :
    Spec w mean mg mb 75 12 [.bytes d td, .int a ta, .int bits tb] news
      (TextOk ks a bits news)
      (BadA w (txt ks a bits = .short) (txt ks a bits = .wrong) news) := by
  unfold Spec
  k_fill
  intro dp un gd cn cs av ccd cl outer A₀ base h₀ L m s Q E B F X N T hk hdp hun hret hexc
  refine wpAny_call ?_
  k_dflt ktr_enter
  rename_i g1 L1 h1 FG F1 N1 B1 X1 T1
  replace F1 : Fr g1 L1 h1 (fun y => List.lookup y [(Str.ofString "bits", .int bits tb), (Str.ofString "at", .int a ta), (Str.ofString "data", .bytes d td)]) := F1
  refine join_next (JN g1 L1 s (fun y => List.lookup y [(Str.ofString "bits", .int bits tb), (Str.ofString "at", .int a ta), (Str.ofString "data", .bytes d td)]) news (¬ (a < (ks.length : Int) ∧ ks.getD a.toNat 0 / 2 ^ bits.toNat % 2 = 1))) ?_ ?_
  · intro J9
    walk_at "GO"
    · exact hexc _ _ _ _ _ _ _ _ rfl FG (by assumption) (by assumption) (.inr (txt_wrong1 (by assumption) (by assumption)) rfl _ _ _ _ _ (by decide) rfl)
    · exact JN.intro (by k_asm) (by k_asm) (txt_on (by assumption))
    · exact JN.intro (by k_asm) (by k_asm) (fun q => absurd q.1 (by assumption))
  · rintro s' ⟨e, h', tk, rfl, F2, N2⟩
    clear F1 N1
    walk_at "GO"
    · exact hexc _ _ _ _ _ _ _ _ rfl FG (by assumption) (by assumption) (.inl (txt_pre_short e (by assumption)) rfl _ rfl)
    · exact hexc _ _ _ _ _ _ _ _ rfl FG (by assumption) (by assumption) (.inr (txt_pre_wrong e (by assumption)) rfl _ _ _ _ _ (by assumption) rfl)
    · refine hexc _ _ _ _ _ _ _ _ rfl FG (by assumption) (FlyK.sub (by assumption) (by walk_at "SUB")) (.inl (txt_short e (by assumption) (by assumption)) rfl _ rfl)
    · rename KBw.bInts (KBy.picked _ _ _) = _ => hp
      rename pfx _ _ _ = _ => he
      have hbd := pfx_bounds hbits he
      exact hret _ _ _ _ (by k_asm) (cb_drop (by k_asm) (by walk_at "SUB")) ⟨_, _, _, _, _, _, _, txt_ok e he (by assumption), hp.trans (clip_cut (by omega) (by omega) (by omega)), rfl, rfl, by tbn_find⟩

theorem kw_line42 : True := by
  (k_with "my call ref" => ((k_here; (with_reducible show wpAny _ _ (call (Value.ref 75) _) _ _ _); k_dflt (refine' Spec.use (text_ok ?hb_q ?hl_q ?h0_q ?h1_q ?hi_q) ?B_q ?F_q ?X_q ?N_q ?sub_q ?T_q ?k_q ?d_q ?u_q ?_ ?_; (case hb_q => assumption); (case hl_q => omega); (case h0_q => omega); (case h1_q => omega); (case hi_q => omega); walk_at "USE"); (focus (intro _ _ _ _ _ _ ok'; obtain ⟨_, _, _, b', _, _, _, he', _, hr', hn', _⟩ := ok'; have hbd' := txt_bounds (by omega) (by omega) he'; subst hr' hn'; try dsimp only)); rotate_left; (focus (intro _ _ _ _ _ _ _ _ q9 _ _ _ b'; subst q9; rcases b' with ⟨he', hC', _, hn'⟩ | ⟨he', hC', _, _, _, _, _, _, hn'⟩ <;> subst hC' hn' <;> try dsimp only)))))
  trivial

/-! ## MChange -/

/-- a word of the encoder -/
inductive Ch where
  | cap (n : Int)
  | dup (n : Int)
  | stat (n : Int) (v : List Int)
  | dyn (n : Int) (v : List Int)
  | lit (k v : List Int)
inductive CR where
  | short
  | wrong
  | ok (c : Ch) (a : Int)
noncomputable def chgIns (ks : List Int) (a : Int) (n : Int) : CR :=
  match txt ks a 7 with
  | .short => .short
  | .wrong => .wrong
  | .ok v a' => .ok (.stat n v) a'
noncomputable def chg (ks : List Int) (a : Int) : CR :=
  if 128 ≤ ks.getD a.toNat 0 then
    match pfx ks a 6 with
    | .short => .short
    | .wrong => .wrong
    | .ok n a1 =>
      match txt ks a1 7 with
      | .short => .short
      | .wrong => .wrong
      | .ok v a2 => .ok (if Builtin.bitAnd (ks.getD a.toNat 0) 64 ≠ 0 then .stat n v else .dyn n v) a2
  else if 64 ≤ ks.getD a.toNat 0 then
    match txt ks a 5 with
    | .short => .short
    | .wrong => .wrong
    | .ok k a1 =>
      match txt ks a1 7 with
      | .short => .short
      | .wrong => .wrong
      | .ok v a2 => .ok (.lit k v) a2
  else
    match pfx ks a 5 with
    | .short => .short
    | .wrong => .wrong
    | .ok n a1 => .ok (if 32 ≤ ks.getD a.toNat 0 then .cap n else .dup n) a1
noncomputable abbrev ChVals : Ch → List Value → Prop
  | .cap n, vs => ∃ t1 t2, vs = [.str (Str.ofString "capacity") t1, .int n t2]
  | .dup n, vs => ∃ t1 t2, vs = [.str (Str.ofString "duplicate") t1, .int n t2]
  | .stat n v, vs => ∃ t1 t2 b t3, vs = [.str (Str.ofString "insert_static") t1, .int n t2, .bytes b t3] ∧ KBw.bInts b = v
  | .dyn n v, vs => ∃ t1 t2 b t3, vs = [.str (Str.ofString "insert_dynamic") t1, .int n t2, .bytes b t3] ∧ KBw.bInts b = v
  | .lit k v, vs => ∃ t1 bk t2 b t3, vs = [.str (Str.ofString "insert_literal") t1, .bytes bk t2, .bytes b t3] ∧ KBw.bInts bk = k ∧ KBw.bInts b = v

theorem chg_hi {ks : List Int} {a : Int} (h : 128 ≤ ks.getD a.toNat 0) : chg ks a = (match pfx ks a 6 with
    | .short => .short
    | .wrong => .wrong
    | .ok n a1 =>
      match txt ks a1 7 with
      | .short => .short
      | .wrong => .wrong
      | .ok v a2 => .ok (if Builtin.bitAnd (ks.getD a.toNat 0) 64 ≠ 0 then .stat n v else .dyn n v) a2) := if_pos h
theorem chg_mid {ks : List Int} {a : Int} (h : ¬ 128 ≤ ks.getD a.toNat 0) (h2 : 64 ≤ ks.getD a.toNat 0) : chg ks a = (match txt ks a 5 with
    | .short => .short
    | .wrong => .wrong
    | .ok k a1 =>
      match txt ks a1 7 with
      | .short => .short
      | .wrong => .wrong
      | .ok v a2 => .ok (.lit k v) a2) := (if_neg h).trans (if_pos h2)
theorem chg_lo {ks : List Int} {a : Int} (h : ¬ 128 ≤ ks.getD a.toNat 0) (h2 : ¬ 64 ≤ ks.getD a.toNat 0) : chg ks a = (match pfx ks a 5 with
    | .short => .short
    | .wrong => .wrong
    | .ok n a1 => .ok (if 32 ≤ ks.getD a.toNat 0 then .cap n else .dup n) a1) := (if_neg h).trans (if_neg h2)
theorem kw_line43 : True := by
  (k_with "my LT" => (first | tbn_find | exact True.intro | (refine And.intro ?l1_q ?l2_q; (case l1_q => first | tbn_find | omega); (case l2_q => walk_at "LT"))))
  trivial
theorem kw_line44 : True := by
  (k_with "my CHG" => (((first | rw [chg_hi (by assumption)] | rw [chg_mid (by assumption) (by assumption)] | rw [chg_lo (by assumption) (by assumption)]); (repeat (first | (rename pfx _ _ _ = _ => hq; rw [hq]; try dsimp only) | (rename txt _ _ 5 = _ => hq; rw [hq]; try dsimp only) | (rename txt _ _ 7 = _ => hq; rw [hq]; try dsimp only))); (try dsimp only); (try first | rw [if_pos (by assumption)] | rw [if_neg (by assumption)] | rw [if_neg (by omega)]))))
  trivial
inductive ChgOk (ks : List Int) (a : Int) (news : List (Addr × Obj)) (r : Value) (news' : List (Addr × Obj)) : Prop
  | mk : ∀ (c : Ch) (a' : Int) (tr tc : Addr) (vs : List Value) (t : Tok) (n1 n2 : Nat), (chg ks a = .ok c a') → (ChVals c vs) → (r = .ref tr) → (news' = (tr, tupO [.ref tc, .int a' t] n1) :: (tc, tupO vs n2) :: news) → (AllLt tr ((tc, tupO vs n2) :: news)) → (AllLt tc news) → ChgOk ks a news r news'
set_option maxHeartbeats 8000000 in
theorem change_ok {w : World} {mean : ExcName → Option Value} {mg mb : Str → Option Value} {d : Array UInt8} {ks : List Int} {td ta : Tok} {a : Int} {news : List (Addr × Obj)} (hb : KBw.bInts d = ks) (hlen : ks.length ≤ 4096) (ha0 : 0 ≤ a) (ha1 : a < ks.length) :
    Spec w mean mg mb 110 14 [.bytes d td, .int a ta] news
      (ChgOk ks a news)
      (BadA w (chg ks a = .short) (chg ks a = .wrong) news) := by
  unfold Spec
  k_fill
  intro dp un gd cn cs av ccd cl outer A₀ base h₀ L m s Q E B F X N T hk hdp hun hret hexc
  refine wpAny_call ?_
  k_dflt ktr_enter
  rename_i g1 L1 h1 FG F1 N1 B1 X1 T1
  replace F1 : Fr g1 L1 h1 (fun y => List.lookup y [(Str.ofString "at", .int a ta), (Str.ofString "data", .bytes d td)]) := F1
  walk_at "GO"
  all_goals first
    | exact hexc _ _ _ _ _ _ _ _ rfl FG (by assumption) (FlyK.sub (by assumption) (by walk_at "SUB")) (.inl (by walk_at "CHG") rfl _ rfl)
    | exact hexc _ _ _ _ _ _ _ _ rfl FG (by assumption) (FlyK.sub (by assumption) (by walk_at "SUB")) (.inr (by walk_at "CHG") rfl _ _ _ _ _ (by assumption) rfl)
    | exact hret _ _ _ _ (by k_asm) (cb_drop (by k_asm) (by walk_at "SUB")) ⟨.cap _, _, _, _, _, _, _, _, by walk_at "CHG", ⟨_, _, rfl⟩, rfl, rfl, by walk_at "LT", by walk_at "LT"⟩
    | exact hret _ _ _ _ (by k_asm) (cb_drop (by k_asm) (by walk_at "SUB")) ⟨.dup _, _, _, _, _, _, _, _, by walk_at "CHG", ⟨_, _, rfl⟩, rfl, rfl, by walk_at "LT", by walk_at "LT"⟩
    | exact hret _ _ _ _ (by k_asm) (cb_drop (by k_asm) (by walk_at "SUB")) ⟨.stat _ _, _, _, _, _, _, _, _, by walk_at "CHG", ⟨_, _, _, _, rfl, by assumption⟩, rfl, rfl, by walk_at "LT", by walk_at "LT"⟩
    | exact hret _ _ _ _ (by k_asm) (cb_drop (by k_asm) (by walk_at "SUB")) ⟨.dyn _ _, _, _, _, _, _, _, _, by walk_at "CHG", ⟨_, _, _, _, rfl, by assumption⟩, rfl, rfl, by walk_at "LT", by walk_at "LT"⟩
    | exact hret _ _ _ _ (by k_asm) (cb_drop (by k_asm) (by walk_at "SUB")) ⟨.lit _ _, _, _, _, _, _, _, _, by walk_at "CHG", ⟨_, _, _, _, _, rfl, by assumption, by assumption⟩, rfl, rfl, by walk_at "LT", by walk_at "LT"⟩

theorem chg_bounds {ks : List Int} {a a' : Int} {c : Ch} (h0 : 0 ≤ a) (h : chg ks a = .ok c a') : a + 1 ≤ a' ∧ a' ≤ ks.length := by
  unfold chg at h
  split at h
  · split at h
    · cases h
    · cases h
    · rename_i he
      have := pfx_bounds (by omega) he
      split at h
      · cases h
      · cases h
      · rename_i ht
        have := txt_bounds (by omega) (by omega) ht
        cases h
        omega
  · split at h
    · split at h
      · cases h
      · cases h
      · rename_i he
        have := txt_bounds (by omega) (by omega) he
        split at h
        · cases h
        · cases h
        · rename_i ht
          have := txt_bounds (by omega) (by omega) ht
          cases h
          omega
    · split at h
      · cases h
      · cases h
      · rename_i he
        have := pfx_bounds (by omega) he
        cases h
        omega

/-! ## MTab -/
noncomputable def bindO : List (Str × Option Value) → (Str → Option Value) → Str → Option Value
  | [], m => m
  | (x, v) :: r, m => fun y => if y = x then v else bindO r m y
theorem bindO_eq {m m₀ : Str → Option Value} : ∀ {ps : List (Str × Option Value)}, (∀ p ∈ ps, m p.1 = p.2) → (∀ y, (∀ p ∈ ps, y ≠ p.1) → m y = m₀ y) → bindO ps m₀ = m
  | [], _, hr => funext fun y => (hr y fun _ hp => (nomatch hp)).symm
  | (x, v) :: r, hk, hr => by
    funext y
    by_cases h : y = x
    · subst h
      simp only [bindO, if_true]
      exact (hk _ (.head _)).symm
    · simp only [bindO, if_neg h]
      have : bindO r (fun z => if z = x then m x else m₀ z) = m := bindO_eq (fun p hp => hk p (.tail _ hp)) fun z hz => by
        by_cases hzx : z = x
        · simp [hzx]
        · simp only [if_neg hzx]
          exact hr z fun p hp => by
            rcases List.mem_cons.mp hp with rfl | hp
            · exact hzx
            · exact hz p hp
      have e : ∀ (r : List (Str × Option Value)) (m₁ m₂ : Str → Option Value), m₁ y = m₂ y → bindO r m₁ y = bindO r m₂ y := by
        intro r
        induction r with
        | nil => exact fun _ _ q => q
        | cons p r ih =>
          intro m₁ m₂ q
          simp only [bindO]
          rw [ih m₁ m₂ q]
      rw [e r m₀ (fun z => if z = x then m x else m₀ z) (by simp [h]), this]

/-- the turn's end of a while: the stored names' values, the ledger, and the word J of both, at a smaller number -/
inductive WoEnd (h₀ : Heap) (L : Addr) (s : Shared) (m₀ : Str → Option Value) (J : Nat → List (Str × Option Value) → List (Addr × Obj) → Prop) (n : Nat) (s₃ : Shared) : Prop
  | mk : ∀ h' tk m' news' n' ps', (s₃ = { s with heap := h', toks := tk }) → (Fr h₀ L h' m') → (News h₀ L h' news') → ((∀ p ∈ ps', m' p.1 = p.2)) → ((∀ y, (∀ p ∈ ps', y ≠ p.1) → m' y = m₀ y)) → (n' < n) → (J n' ps' news') → WoEnd h₀ L s m₀ J n s₃
noncomputable def WoPost (h₀ : Heap) (L : Addr) (s : Shared) (m₀ : Str → Option Value) (J : Nat → List (Str × Option Value) → List (Addr × Obj) → Prop) (Q : Flow → Shared → Prop) (n : Nat) (f : Flow) (s₃ : Shared) : Prop :=
  match f with
  | .ret v => Q (.ret v) s₃
  | .brk => Q .next s₃
  | _ => WoEnd h₀ L s m₀ J n s₃
section
variable {prog : Program} {w : World} {A : Around} {E : Value → Shared → Prop} {Q : Flow → Shared → Prop} {s : Shared} {env : Env} {h₀ : Heap} {L : Addr}
theorem While_so {test : PySem.Expr} {body : List Stmt} {pos : Pos} {m₀ : Str → Option Value} {news ledger : List (Addr × Obj)} (J : Nat → List (Str × Option Value) → List (Addr × Obj) → Prop) (n₀ : Nat) (ps₀ : List (Str × Option Value))
    (F : Fr h₀ L s.heap m₀) (N : News h₀ L s.heap ledger) (sub : ∀ p ∈ news, p ∈ ledger) (hk : ∀ p ∈ ps₀, m₀ p.1 = p.2) (hJ : J n₀ ps₀ news)
    (turn : ∀ n ps nw h tk, Fr h₀ L h (bindO ps m₀) → News h₀ L h nw → J n ps nw →
      let P9 : Flow → Shared → Prop := WoPost h₀ L s m₀ J Q n
      wpAny (model prog w) A (isTrue test env (eval test env)) (fun b s₂ =>
        if b = true then wpAny (model prog w) A (execs body env) P9 E s₂ else Q .next s₂) E { s with heap := h, toks := tk })
    (hE : PassesOwn (model prog w) A env E := by passes_own) : wpAny (model prog w) A (exec (.While test body [] pos) env) Q E s := by
  refine While_inv2 (fun n m nx => ∃ ps, J n ps nx ∧ (∀ p ∈ ps, m p.1 = p.2) ∧ ∀ y, (∀ p ∈ ps, y ≠ p.1) → m y = m₀ y) F (fun p hp => N p (sub p hp)) ⟨ps₀, hJ, hk, fun _ _ => rfl⟩ ?_ hE
  rintro n m₁ nx h tk F₁ N₁ ⟨ps, hJ', hk', hr'⟩
  refine wpAny_mono (turn n ps nx h tk (by rw [bindO_eq hk' hr']; exact F₁) N₁ hJ') (fun b s₂ p => ?_) fun _ _ x => x
  cases b with
  | false => simpa using p
  | true =>
    simp only [if_true] at p ⊢
    refine wpAny_mono p (fun f s₃ q => ?_) fun _ _ x => x
    cases f with
    | ret v => exact q
    | brk => exact q
    | next =>
      obtain ⟨h', tk', m', news', n', ps', rfl, F', N', a1, a2, a3, a4⟩ := q
      exact ⟨h', tk', m', news', n', rfl, F', N', a3, ps', a4, a1, a2⟩
    | cont =>
      obtain ⟨h', tk', m', news', n', ps', rfl, F', N', a1, a2, a3, a4⟩ := q
      exact ⟨h', tk', m', news', n', rfl, F', N', a3, ps', a4, a1, a2⟩
end

theorem kw_line45 : True := by
  (k_with "my WoPost" => ((dsimp only [WoPost])))
  trivial
theorem kw_line46 : True := by
  (k_with "my call builtin:len" => ((k_here; (with_reducible show wpAny _ _ (call (Value.builtin "len") [Value.ref _]) _ _ _); k_dflt (refine' kun_lenL (items := List.toArray _) ?k1_q (Int.natCast_inj.mpr List.size_toArray) ?k3_q ?_; (case k1_q => exact News.isList (by k_asm) (by k_mem)); (case k3_q => ((try simp only [List.length_append, List.length_cons, List.length_nil]); omega)); k_whole); (try simp only [List.length_append, List.length_cons, List.length_nil, Int.natCast_add, Int.natCast_one]))))
  trivial
theorem sub_list {prog : Program} {w : World} {A : Around} {E : Value → Shared → Prop} {s : Shared} {h₀ : Heap} {L : Addr} {news : List (Addr × Obj)} {value slice : Expr} {a : Addr} {vs : List Value} {n : Nat} {k : Int} {u : Tok} {Q : Value → Shared → Prop}
    (N : News h₀ L s.heap news) (hm : (a, listOf vs.toArray n) ∈ news) (h0 : 0 ≤ k) (h1 : k < vs.length) (h2 : vs.length ≤ 4096) (h : Q (vs.getD k.toNat .none) s)
    (hs : subscripted slice false (.ref a) (.int k u) = operate [.ref a, .int k u] (getItem (.ref a) (.int k u)) := by with_unfolding_all rfl) (hg : ∀ r, letTemporaryGo value (.ref a) r = pure () := by intro _; with_unfolding_all rfl) :
    wpAny (model prog w) A (subscriptTail value slice (.ref a) (.int k u)) Q E s :=
  kim_list N hm rfl rfl h0 (by omega) (by rw [List.getD_eq_getElem?_getD, List.getElem?_eq_getElem (by omega)]; rfl) h hs hg
theorem kw_line47 : True := by
  (k_with "my subscriptTail" => ((k_here; (with_reducible show wpAny _ _ (subscriptTail _ _ (Value.ref _) (Value.int _ _)) _ _ _); k_dflt (refine' sub_list ?N_q ?m_q ?h0_q ?h1_q ?h2_q ?_; (case N_q => k_asm); (case m_q => k_mem); (case h0_q => omega); (case h1_q => omega); (case h2_q => omega); k_whole))))
  trivial
theorem kw_line48 : True := by
  (k_with "my subscriptTail Attribute" => ((k_here; (with_reducible show wpAny _ _ (subscriptTail _ _ (Value.ref _) (Value.int _ _)) _ _ _); k_dflt (refine' sub_list ?N_q ?m_q ?h0_q ?h1_q ?h2_q ?_; (case N_q => k_asm); (case m_q => k_mem); (case h0_q => omega); (case h1_q => omega); (case h2_q => omega); k_whole))))
  trivial
noncomputable abbrev Row := List Int × List Int
noncomputable def Smalls (rs : List Row) : Prop := ∀ r ∈ rs, r.1.length ≤ 4096 ∧ r.2.length ≤ 4096
noncomputable def rsz (r : Row) : Int := r.1.length + r.2.length + 32
noncomputable def tot : List Row → Int
  | [] => 0
  | r :: rs => rsz r + tot rs
structure Tab where
  cap : Int
  rows : List Row
  ins : Int
noncomputable def fitN (lim : Int) : List Row → Nat
  | [] => 0
  | r :: rs => if lim < tot (r :: rs) then fitN lim rs + 1 else 0
noncomputable abbrev RowIs (news : List (Addr × Obj)) (v : Value) (r : Row) : Prop := ∃ (a : Addr) (b1 b2 : Array UInt8) (t1 t2 : Tok) (c : Nat), v = .ref a ∧ (a, tupO [.bytes b1 t1, .bytes b2 t2] c) ∈ news ∧ KBw.bInts b1 = r.1 ∧ KBw.bInts b2 = r.2
noncomputable def RowsAre (news : List (Addr × Obj)) : List Value → List Row → Prop
  | [], [] => True
  | v :: vs, r :: rs => RowIs news v r ∧ RowsAre news vs rs
  | _, _ => False
theorem RowsAre.len {news : List (Addr × Obj)} : ∀ {vs : List Value} {rs : List Row}, RowsAre news vs rs → vs.length = rs.length
  | [], [], _ => rfl
  | _ :: _, _ :: _, h => congrArg (· + 1) h.2.len
  | [], _ :: _, h => h.elim
  | _ :: _, [], h => h.elim
theorem RowsAre.at {news : List (Addr × Obj)} : ∀ {vs : List Value} {rs : List Row} {i : Nat}, RowsAre news vs rs → i < vs.length → ∃ v r, vs[i]? = some v ∧ rs[i]? = some r ∧ RowIs news v r
  | v :: vs, r :: rs, 0, h, _ => ⟨v, r, rfl, rfl, h.1⟩
  | v :: vs, r :: rs, i + 1, h, hi => RowsAre.at (i := i) h.2 (Nat.lt_of_succ_lt_succ hi)
  | [], _, _, _, hi => absurd hi (Nat.not_lt_zero _)
  | _ :: _, [], _, h, _ => h.elim
theorem RowsAre.drop {news : List (Addr × Obj)} : ∀ {vs : List Value} {rs : List Row} (k : Nat), RowsAre news vs rs → RowsAre news (vs.drop k) (rs.drop k)
  | _, _, 0, h => h
  | [], [], _ + 1, _ => trivial
  | _ :: _, _ :: _, k + 1, h => RowsAre.drop k h.2
  | [], _ :: _, _ + 1, h => h.elim
  | _ :: _, [], _ + 1, h => h.elim
theorem RowsAre.sub {news news' : List (Addr × Obj)} (hs : ∀ p ∈ news, p ∈ news') : ∀ {vs : List Value} {rs : List Row}, RowsAre news vs rs → RowsAre news' vs rs
  | [], [], _ => trivial
  | _ :: _, _ :: _, h => ⟨let ⟨a, b1, b2, t1, t2, c, h1, h2, h3⟩ := h.1; ⟨a, b1, b2, t1, t2, c, h1, hs _ h2, h3⟩, RowsAre.sub hs h.2⟩
  | [], _ :: _, h => h.elim
  | _ :: _, [], h => h.elim
noncomputable abbrev tabAttrs (w : World) (lR : Addr) (cap ins size : Int) (t0 t1 t2 t3 n1 n2 n3 n4 n5 : Tok) : List DictEntry :=
  [⟨PyData.keyHash w.params (Str.ofString "greatest_capacity"), .str (Str.ofString "greatest_capacity") n1, .int 200 t0⟩,
   ⟨PyData.keyHash w.params (Str.ofString "capacity"), .str (Str.ofString "capacity") n2, .int cap t1⟩,
   ⟨PyData.keyHash w.params (Str.ofString "rows"), .str (Str.ofString "rows") n3, .ref lR⟩,
   ⟨PyData.keyHash w.params (Str.ofString "inserted"), .str (Str.ofString "inserted") n4, .int ins t2⟩,
   ⟨PyData.keyHash w.params (Str.ofString "size"), .str (Str.ofString "size") n5, .int size t3⟩]

set_option maxHeartbeats 8000000 in
theorem row_at_ok {w : World} {mean : ExcName → Option Value} {mg mb : Str → Option Value} {tT dT lR : Addr} {cap ins size n : Int} {t0 t1 t2 t3 n1 n2 n3 n4 n5 tn : Tok} {vs : List Value} {cl0 cd : Nat} {news : List (Addr × Obj)}
    (hT : (tT, instObj 290 dT) ∈ news) (hD : (dT, dictOf (tabAttrs w lR cap ins size t0 t1 t2 t3 n1 n2 n3 n4 n5) cd) ∈ news) (hL : (lR, listOf vs.toArray cl0) ∈ news) (hl : vs.length ≤ 100) (hn0 : 0 ≤ ins) (hn1 : ins ≤ 100000) (hc : (vs.length : Int) ≤ ins) :
    Spec w mean mg mb 252 10 [.ref tT, .int n tn] news
      (fun r news' => news' = news ∧ ((¬ (ins - vs.length ≤ n ∧ n < ins) ∧ r = .none) ∨ (ins - vs.length ≤ n ∧ n < ins ∧ r = vs.getD (n - (ins - vs.length)).toNat .none)))
      (fun _ _ _ => False) := by
  unfold Spec
  k_fill
  intro dp un gd cn cs av ccd cl outer A₀ base h₀ L m s Q E B F X N T hk hdp hun hret hexc
  refine wpAny_call ?_
  k_dflt ktr_enter
  rename_i g1 L1 h1 FG F1 N1 B1 X1 T1
  dsimp only [tabAttrs] at hD
  walk_at "GO"
  · exact hret _ _ _ _ (by k_asm) (cb_drop (by k_asm) (by walk_at "SUB")) ⟨rfl, .inr ⟨by assumption, by assumption, rfl⟩⟩
  · exact hret _ _ _ _ (by k_asm) (cb_drop (by k_asm) (by walk_at "SUB")) ⟨rfl, .inl ⟨by omega, rfl⟩⟩
  · exact hret _ _ _ _ (by k_asm) (cb_drop (by k_asm) (by walk_at "SUB")) ⟨rfl, .inl ⟨by omega, rfl⟩⟩

theorem kw_line49 : True := by
  (k_with "my ROWS" => (first | assumption | (refine' RowsAre.sub ?s9_q ?r9_q; (case r9_q => assumption); (case s9_q => walk_at "SUB"))))
  trivial
inductive RowTold (ins n : Int) (vs : List Value) (rs : List Row) (news : List (Addr × Obj)) (r : Value) (news' : List (Addr × Obj)) : Prop
  | inl : (news' = news) → (¬ (ins - vs.length ≤ n ∧ n < ins)) → (r = .none) → RowTold ins n vs rs news r news'
  | inr : (news' = news) → (ins - vs.length ≤ n) → (n < ins) → ∀ (a : Addr) (b1 b2 : Array UInt8) (u1 u2 : Tok) (c : Nat) (k v : List Int), (r = .ref a) → ((a, tupO [.bytes b1 u1, .bytes b2 u2] c) ∈ news) → (rs[(n - (ins - vs.length)).toNat]? = some (k, v)) → (KBw.bInts b1 = k) → (KBw.bInts b2 = v) → (k.length ≤ 4096) → (v.length ≤ 4096) → RowTold ins n vs rs news r news'
/-- row_at, of rows that are told -/
theorem row_at_told {w : World} {mean : ExcName → Option Value} {mg mb : Str → Option Value} {tT dT lR : Addr} {cap ins size n : Int} {t0 t1 t2 t3 n1 n2 n3 n4 n5 tn : Tok} {vs : List Value} {rs : List Row} {cl0 cd : Nat} {news : List (Addr × Obj)}
    (hT : (tT, instObj 290 dT) ∈ news) (hD : (dT, dictOf (tabAttrs w lR cap ins size t0 t1 t2 t3 n1 n2 n3 n4 n5) cd) ∈ news) (hL : (lR, listOf vs.toArray cl0) ∈ news) (hR : RowsAre news vs rs) (hs : Smalls rs) (hl : vs.length ≤ 100) (hn0 : 0 ≤ ins) (hn1 : ins ≤ 100000) (hc : (vs.length : Int) ≤ ins) :
    Spec w mean mg mb 252 10 [.ref tT, .int n tn] news
      (RowTold ins n vs rs news)
      (fun _ _ _ => False) := by
  intro dp un gd cn cs av ccd cl outer A₀ base h₀ L m s Q E B F X N T hk hdp hun hret hexc
  refine row_at_ok hT hD hL hl hn0 hn1 hc dp un gd cn cs av ccd cl outer A₀ base h₀ L m s Q E B F X N T hk hdp hun ?_ hexc
  rintro r news' h' tk' F' N' ⟨rfl, h⟩
  refine hret r news' h' tk' F' N' ?_
  rcases h with h | ⟨h1, h2, h3⟩
  · exact .inl rfl h.1 h.2
  · obtain ⟨v, row, q1, q2, a, b1, b2, u1, u2, c, q3, q4, q5, q6⟩ := hR.at (i := (n - (ins - vs.length)).toNat) (by omega)
    have hm := hs row (List.mem_of_getElem? q2)
    exact .inr rfl h1 h2 a b1 b2 u1 u2 c row.1 row.2 (by rw [h3, List.getD_eq_getElem?_getD, q1]; exact q3) q4 q2 q5 q6 hm.1 hm.2
theorem kw_line50 : True := by
  (k_with "my call ref" => ((k_here; (with_reducible show wpAny _ _ (call (Value.ref 252) _) _ _ _); k_dflt (refine' Spec.use (row_at_told ?hT_q ?hD_q ?hL_q ?hR_q ?hs_q ?hl_q ?h0_q ?h1_q ?hc_q) ?B_q ?F_q ?X_q ?N_q ?sub_q ?T_q ?k_q ?d_q ?u_q ?_ ?_; walk_at "USE"; (case hT_q => k_mem); (case hD_q => k_mem); (case hL_q => k_mem); (case hR_q => walk_at "ROWS"); (case hs_q => assumption); (case hl_q => omega); (case h0_q => omega); (case h1_q => omega); (case hc_q => omega)); rotate_left; (exact fun _ _ _ _ _ _ _ _ _ _ _ _ q9 => False.elim q9); (intro _ _ _ _ _ _ ok'; rcases ok' with ⟨hn', _, hr'⟩ | ⟨hn', _, _, _, _, _, _, _, _, _, _, hr', _, _, _, _, _, _⟩ <;> subst hn' hr' <;> try dsimp only))))
  trivial

theorem tot_drop {rs : List Row} {i : Nat} {r : Row} (h : rs[i]? = some r) : tot (rs.drop i) = rsz r + tot (rs.drop (i + 1)) := by
  obtain ⟨hi, he⟩ := List.getElem?_eq_some_iff.mp h
  rw [List.drop_eq_getElem_cons hi, he]; rfl
theorem fit_drop {rs : List Row} {i : Nat} {r : Row} {lim : Int} (h : rs[i]? = some r) (h2 : lim < tot (rs.drop i)) : fitN lim (rs.drop i) = fitN lim (rs.drop (i + 1)) + 1 := by
  obtain ⟨hi, he⟩ := List.getElem?_eq_some_iff.mp h
  rw [List.drop_eq_getElem_cons hi] at h2 ⊢
  exact if_pos h2
theorem fit_stop {rs : List Row} {lim : Int} (h2 : ¬ lim < tot rs) : fitN lim rs = 0 := by
  cases rs with
  | nil => rfl
  | cons r rs => exact if_neg h2
theorem tot_nn : ∀ (rs : List Row), 0 ≤ tot rs
  | [] => Int.le_refl 0
  | r :: rs => by have := tot_nn rs; simp only [tot, rsz]; omega

inductive LastOk (cap ins wanted : Int) (vs : List Value) (rs : List Row) (news : List (Addr × Obj)) (r : Value) (news' : List (Addr × Obj)) : Prop
  | mk : (news' = news) → ∀ t : Tok, (r = .int (ins - vs.length + fitN (cap - wanted) rs) t) → LastOk cap ins wanted vs rs news r news'
inductive LastJ (cap ins wanted : Int) (vs : List Value) (rs : List Row) (news : List (Addr × Obj)) (n : Nat) (ps : List (Str × Option Value)) (nw : List (Addr × Obj)) : Prop
  | mk : ∀ (i : Nat) (x z : Int) (ta tb : Tok) (o1 o2 : Option Value), (ps = [(Str.ofString "number", some (.int x ta)), (Str.ofString "size", some (.int z tb)), (Str.ofString "name", o1), (Str.ofString "value", o2)]) → (nw = news) → (i ≤ rs.length) → (x = ins - vs.length + (i : Nat)) → (z = tot (rs.drop i)) → (fitN (cap - wanted) rs = i + fitN (cap - wanted) (rs.drop i)) → (n = rs.length - i) → LastJ cap ins wanted vs rs news n ps nw
set_option maxHeartbeats 8000000 in
theorem last_ok {w : World} {mean : ExcName → Option Value} {mg mb : Str → Option Value} {tT dT lR : Addr} {cap ins wanted : Int} {t0 t1 t2 t3 n1 n2 n3 n4 n5 tn : Tok} {vs : List Value} {rs : List Row} {cl0 cd : Nat} {news : List (Addr × Obj)}
    (hT : (tT, instObj 290 dT) ∈ news) (hD : (dT, dictOf (tabAttrs w lR cap ins (tot rs) t0 t1 t2 t3 n1 n2 n3 n4 n5) cd) ∈ news) (hL : (lR, listOf vs.toArray cl0) ∈ news) (hR : RowsAre news vs rs) (hs : Smalls rs) (hl : vs.length ≤ 100) (hn0 : 0 ≤ ins) (hn1 : ins ≤ 100000) (hc : (vs.length : Int) ≤ ins) :
    Spec w mean mg mb 259 12 [.ref tT, .int wanted tn] news
      (LastOk cap ins wanted vs rs news)
      (fun _ _ _ => False) := by
  unfold Spec
  k_fill
  intro dp un gd cn cs av ccd cl outer A₀ base h₀ L m s Q E B F X N T hk hdp hun hret hexc
  refine wpAny_call ?_
  k_dflt ktr_enter
  rename_i g1 L1 h1 FG F1 N1 B1 X1 T1
  have hD' := hD
  dsimp only [tabAttrs] at hD
  have hlen := hR.len
  replace F1 : Fr g1 L1 h1 (fun y => List.lookup y [(Str.ofString "wanted", .int wanted tn), (Str.ofString "self", .ref tT)]) := F1
  walk_at "GO"
  rename Fr _ _ _ _ => F2
  rename News _ _ _ _ => N2
  refine While_so (LastJ cap ins wanted vs rs news) rs.length [(Str.ofString "number", _), (Str.ofString "size", _), (Str.ofString "name", none), (Str.ofString "value", none)] F2 N2 (news := news) (by walk_at "SUB") (List.forall_mem_cons.mpr ⟨rfl, List.forall_mem_cons.mpr ⟨rfl, List.forall_mem_cons.mpr ⟨rfl, List.forall_mem_cons.mpr ⟨rfl, List.forall_mem_nil _⟩⟩⟩⟩) ⟨0, _, _, _, _, _, _, rfl, rfl, Nat.zero_le _, by omega, rfl, by rw [List.drop_zero, Nat.zero_add], rfl⟩ ?_
  rintro n ps nw h₂ tk₂ F3 N3 ⟨i, x, z, ta, tb, o1, o2, rfl, rfl, hi, hx, hz, hfit, rfl⟩ P9
  clear F2 N2
  dsimp only [bindO] at F3
  walk_at "GO"
  · exact absurd (show ins - vs.length ≤ x ∧ x < ins from ⟨by omega, by omega⟩) (by assumption)
  · rename rs[_]? = _ => hat
    rw [show (x - (ins - ↑vs.length)).toNat = i by omega] at hat
    have e1 := tot_drop hat
    have e2 := fit_drop (lim := cap - wanted) hat (by omega)
    simp only [rsz] at e1
    have hi' := (List.getElem?_eq_some_iff.mp hat).1
    refine ⟨_, _, _, _, rs.length - (i + 1), [(Str.ofString "number", _), (Str.ofString "size", _), (Str.ofString "name", _), (Str.ofString "value", _)], rfl, by k_asm, cb_drop (by k_asm) (fun p h9 => ?_), by walk_at "KEYS", ?_, by omega, i + 1, _, _, _, _, _, _, rfl, rfl, by omega, by omega, by omega, by omega, rfl⟩
    · exact h9
    · intro y hy
      have y1 := hy _ (.head _)
      have y2 := hy _ (.tail _ (.head _))
      have y3 := hy _ (.tail _ (.tail _ (.head _)))
      have y4 := hy _ (.tail _ (.tail _ (.tail _ (.head _))))
      simp only [if_neg y1, if_neg y2, if_neg y3, if_neg y4]
  · have hz : rs.drop i = [] := List.drop_eq_nil_of_le (by omega)
    rw [hz] at hfit
    have e0 : fitN (cap - wanted) [] = 0 := rfl
    exact hret _ _ _ _ (by k_asm) (cb_drop (by k_asm) (by walk_at "SUB")) ⟨rfl, ta, by rw [show ins - ↑vs.length + ↑(fitN (cap - wanted) rs) = x by omega]⟩
  · have e0 := fit_stop (rs := rs.drop i) (lim := cap - wanted) (by omega)
    exact hret _ _ _ _ (by k_asm) (cb_drop (by k_asm) (by walk_at "SUB")) ⟨rfl, ta, by rw [show ins - ↑vs.length + ↑(fitN (cap - wanted) rs) = x by omega]⟩

theorem fitN_le (lim : Int) : ∀ (rs : List Row), fitN lim rs ≤ rs.length
  | [] => Nat.le_refl 0
  | r :: rs => by
    unfold fitN
    split
    · exact Nat.succ_le_succ (fitN_le lim rs)
    · exact Nat.zero_le _
theorem kw_line51 : True := by
  (k_with "my call ref" => ((k_here; (with_reducible show wpAny _ _ (call (Value.ref 259) _) _ _ _); k_dflt (refine' Spec.use (last_ok ?hT_q ?hD_q ?hL_q ?hR_q ?hs_q ?hl_q ?h0_q ?h1_q ?hc_q) ?B_q ?F_q ?X_q ?N_q ?sub_q ?T_q ?k_q ?d_q ?u_q ?_ ?_; walk_at "USE"; (case hT_q => k_mem); (case hD_q => k_mem); (case hL_q => k_mem); (case hR_q => walk_at "ROWS"); (case hs_q => assumption); (case hl_q => omega); (case h0_q => omega); (case h1_q => omega); (case hc_q => omega)); rotate_left; (exact fun _ _ _ _ _ _ _ _ _ _ _ _ q9 => False.elim q9); (intro _ _ _ _ _ _ ok'; obtain ⟨hn', _, hr'⟩ := ok'; subst hn' hr'; try dsimp only))))
  trivial

/-! ## MDrop -/

theorem pop0 {prog : Program} {w : World} {A : Around} {E : Value → Shared → Prop} {s : Shared} {h₀ : Heap} {L D : Addr} {m : Str → Option Value} {news news' : List (Addr × Obj)} {n : Nat} {u : Tok} {q : List Value} {y : Value} {Q : Value → Shared → Prop}
    (F : Fr h₀ L s.heap m) (N : News h₀ L s.heap news) (U : Upd D (listOf (y :: q).toArray n) (listOf q.toArray (n + 1)) news news') (hz : q.length ≤ 4096) (h : ∀ h', Fr h₀ L h' m → News h₀ L h' news' → Q y { s with heap := h' }) : wpAny (model prog w) A (call (.builtin "list.pop") [.ref D, .int 0 u]) Q E s :=
  kl_popAt (its := (y :: q).toArray) (k := 0) (p := []) (q := q) F N rfl (by unfold seqIndex?; simp) rfl U (by rw [sizeLine_eq]; simp only [List.length_cons]; omega) h
theorem kw_line52 : True := by
  (k_with "my call builtin:list.pop" => ((k_here; (with_reducible show wpAny _ _ (call (Value.builtin _) [Value.ref _, Value.int 0 _]) _ _ _); k_dflt (refine' pop0 ?F_q ?N_q ?U_q ?z_q ?_; (case F_q => k_asm); (case N_q => k_asm); (case U_q => k_upd); (case z_q => omega)); kl_rest)))
  trivial
inductive DropOk (w : World) (tT dT lR : Addr) (cap ins : Int) (t0 t1 t2 n1 n2 n3 n4 n5 : Tok) (vs : List Value) (rs : List Row) (k : Nat) (rest : List (Addr × Obj)) (r : Value) (news' : List (Addr × Obj)) : Prop
  | mk : (r = .none) → ∀ (t3' : Tok) (c : Nat), (news' = (tT, instObj 290 dT) :: (dT, dictOf (tabAttrs w lR cap ins (tot (rs.drop k)) t0 t1 t2 t3' n1 n2 n3 n4 n5) 5) :: (lR, listOf (vs.drop k).toArray c) :: rest) → DropOk w tT dT lR cap ins t0 t1 t2 n1 n2 n3 n4 n5 vs rs k rest r news'
inductive DropJ (w : World) (tT dT lR : Addr) (cap ins : Int) (t0 t1 t2 n1 n2 n3 n4 n5 : Tok) (vs : List Value) (rs : List Row) (k : Nat) (rest : List (Addr × Obj)) (n : Nat) (ps : List (Str × Option Value)) (nw : List (Addr × Obj)) : Prop
  | mk : ∀ (j : Nat) (vs' : List Value) (rs' : List Row) (c : Nat) (t3' : Tok) (o1 o2 : Option Value), (ps = [(Str.ofString "name", o1), (Str.ofString "value", o2)]) → (nw = (tT, instObj 290 dT) :: (dT, dictOf (tabAttrs w lR cap ins (tot rs') t0 t1 t2 t3' n1 n2 n3 n4 n5) 5) :: (lR, listOf vs'.toArray c) :: rest) → (RowsAre rest vs' rs') → (vs' = vs.drop j) → (rs' = rs.drop j) → (j ≤ k) → (n = k - j) → DropJ w tT dT lR cap ins t0 t1 t2 n1 n2 n3 n4 n5 vs rs k rest n ps nw
set_option maxHeartbeats 8000000 in
theorem drop_ok {w : World} {mean : ExcName → Option Value} {mg mb : Str → Option Value} {tT dT lR : Addr} {cap ins number : Int} {t0 t1 t2 t3 n1 n2 n3 n4 n5 tn : Tok} {vs : List Value} {rs : List Row} {cl0 k : Nat} {rest : List (Addr × Obj)}
    (hR : RowsAre rest vs rs) (hs : Smalls rs) (hl : vs.length ≤ 100) (hn0 : 0 ≤ ins) (hn1 : ins ≤ 100000) (hc : (vs.length : Int) ≤ ins) (hk0 : k ≤ vs.length) (hkn : number = ins - vs.length + k)
    (hTd : @LT.lt Nat _ dT tT) (hdl : @LT.lt Nat _ tT lR) (hrd : ∀ p ∈ rest, p.1 ≠ dT) (hrl : ∀ p ∈ rest, p.1 ≠ lR) :
    Spec w mean mg mb 266 12 [.ref tT, .int number tn] ((tT, instObj 290 dT) :: (dT, dictOf (tabAttrs w lR cap ins (tot rs) t0 t1 t2 t3 n1 n2 n3 n4 n5) 5) :: (lR, listOf vs.toArray cl0) :: rest)
      (DropOk w tT dT lR cap ins t0 t1 t2 n1 n2 n3 n4 n5 vs rs k rest)
      (fun _ _ _ => False) := by
  unfold Spec
  k_fill
  intro dp un gd cn cs av ccd cl outer A₀ base h₀ L m s Q E B F X N T hk hdp hun hret hexc
  refine wpAny_call ?_
  k_dflt ktr_enter
  rename_i g1 L1 h1 FG F1 N1 B1 X1 T1
  replace F1 : Fr g1 L1 h1 (fun y => List.lookup y [(Str.ofString "number", .int number tn), (Str.ofString "self", .ref tT)]) := F1
  have hlen := hR.len
  walk_at "GO"
  refine While_so (DropJ w tT dT lR cap ins t0 t1 t2 n1 n2 n3 n4 n5 vs rs k rest) k [(Str.ofString "name", none), (Str.ofString "value", none)] F1 N1 (news := (tT, instObj 290 dT) :: (dT, dictOf (tabAttrs w lR cap ins (tot rs) t0 t1 t2 t3 n1 n2 n3 n4 n5) 5) :: (lR, listOf vs.toArray cl0) :: rest) (fun _ h9 => h9) (List.forall_mem_cons.mpr ⟨rfl, List.forall_mem_cons.mpr ⟨rfl, List.forall_mem_nil _⟩⟩) ⟨0, _, _, _, _, _, _, rfl, rfl, hR, rfl, rfl, Nat.zero_le _, rfl⟩ ?_
  rintro n ps nw h₂ tk₂ F3 N3 ⟨j, vs', rs', c, t3', o1, o2, rfl, rfl, hR', hv', hr', hj, rfl⟩ P9
  clear F1 N1
  dsimp only [bindO, tabAttrs] at F3 N3
  have hvl : vs'.length = vs.length - j := by rw [hv', List.length_drop]
  rcases vs' with _ | ⟨x, vs'⟩
  · walk_at "GO"
    have hj' : j = k := by simp only [List.length_nil] at hvl; omega
    subst hj'
    refine' hret _ _ _ _ ?a ?b ⟨rfl, t3', c, ?e⟩
    case e => rw [← hv', ← hr']
    case a => k_asm
    case b => exact cb_drop (by k_asm) (by walk_at "SUB")
  · rcases rs' with _ | ⟨⟨k1, v1⟩, rs'⟩
    · exact hR'.elim
    · obtain ⟨⟨a, b1, b2, u1, u2, c', rfl, hin, hb1, hb2⟩, hR'⟩ := hR'
      dsimp only at hb1 hb2
      have hsm := hs (k1, v1) (List.mem_of_mem_drop (i := j) (by rw [← hr']; exact .head _))
      dsimp only at hsm
      obtain ⟨hs1, hs2⟩ := hsm
      simp only [List.length_cons] at hvl
      walk_at "GO"
      · refine' ⟨_, _, _, (tT, instObj 290 dT) :: (dT, dictOf (tabAttrs w lR cap ins (tot rs') t0 t1 t2 _ n1 n2 n3 n4 n5) 5) :: (lR, listOf vs'.toArray _) :: rest, k - (j + 1), [(Str.ofString "name", _), (Str.ofString "value", _)], rfl, by k_asm, cb_drop (by k_asm) (fun p h9 => ?sub), by walk_at "KEYS", ?keep, by omega, j + 1, vs', rs', _, _, _, _, rfl, rfl, hR', ?e1, ?e2, by omega, rfl⟩
        case e1 => rw [← List.drop_drop, ← hv']; rfl
        case e2 => rw [← List.drop_drop, ← hr']; rfl
        case keep =>
          intro y hy
          have y1 := hy _ (.head _)
          have y2 := hy _ (.tail _ (.head _))
          simp only [if_neg y1, if_neg y2]
        case sub =>
          rw [show tot rs' = tot ((k1, v1) :: rs') - (k1.length + v1.length + 32) by simp only [tot, rsz]; omega] at h9
          exact h9
      · have hj' : j = k := by omega
        subst hj'
        refine' hret _ _ _ _ ?a ?b ⟨rfl, t3', c, ?e⟩
        case e => rw [← hv', ← hr']
        case a => k_asm
        case b => exact cb_drop (by k_asm) (by walk_at "SUB")

/-- the same ledger, or one with one or two more entries ahead -/
theorem kw_line53 : True := by
  (k_with "my CAN" => (first | exact fun _ h9 => h9 | exact fun _ h9 => List.Mem.tail _ h9 | exact fun _ h9 => List.Mem.tail _ (List.Mem.tail _ h9)))
  trivial
theorem kw_line54 : True := by
  (k_with "my USEC" => (((case B_q => k_asm); (case F_q => k_asm); (case X_q => k_asm); (case N_q => k_asm); (case sub_q => walk_at "CAN"); (case T_q => k_asm); (case k_q => rfl); (case d_q => ktr_room); (case u_q => ktr_units))))
  trivial
theorem kw_line55 : True := by
  (k_with "my call ref" => ((k_here; (with_reducible show wpAny _ _ (call (Value.ref 266) _) _ _ _); k_dflt (refine' Spec.use (drop_ok ?hR_q ?hs_q ?hl_q ?h0_q ?h1_q ?hc_q ?hk_q ?hkn_q ?ha_q ?hb_q ?hrd_q ?hrl_q) ?B_q ?F_q ?X_q ?N_q ?sub_q ?T_q ?k_q ?d_q ?u_q ?_ ?_; walk_at "USEC"; (case hR_q => assumption); (case hs_q => assumption); (case hl_q => omega); (case h0_q => omega); (case h1_q => omega); (case hc_q => omega); (case hkn_q => rfl); (case hk_q => exact Nat.le_trans (fitN_le _ _) (Nat.le_of_eq (RowsAre.len (by assumption)).symm)); (case ha_q => assumption); (case hb_q => assumption); (case hrd_q => assumption); (case hrl_q => assumption)); rotate_left; (exact fun _ _ _ _ _ _ _ _ _ _ _ _ q9 => False.elim q9); (intro _ _ _ _ _ _ ok'; obtain ⟨hr', _, _, hn'⟩ := ok'; subst hn' hr'; try dsimp only))))
  trivial

inductive SetcapOk (w : World) (tT dT lR : Addr) (cap ins c : Int) (t0 t1 t2 t3 n1 n2 n3 n4 n5 : Tok) (vs : List Value) (rs : List Row) (cl0 : Nat) (rest : List (Addr × Obj)) (r : Value) (news' : List (Addr × Obj)) : Prop
  | inl : (200 < c) → (r = .bool false) → (news' = (tT, instObj 290 dT) :: (dT, dictOf (tabAttrs w lR cap ins (tot rs) t0 t1 t2 t3 n1 n2 n3 n4 n5) 5) :: (lR, listOf vs.toArray cl0) :: rest) → SetcapOk w tT dT lR cap ins c t0 t1 t2 t3 n1 n2 n3 n4 n5 vs rs cl0 rest r news'
  | inr : (c ≤ 200) → (r = .bool true) → ∀ (t3' t1' : Tok) (cc : Nat), (news' = (tT, instObj 290 dT) :: (dT, dictOf (tabAttrs w lR c ins (tot (rs.drop (fitN c rs))) t0 t1' t2 t3' n1 n2 n3 n4 n5) 5) :: (lR, listOf (vs.drop (fitN c rs)).toArray cc) :: rest) → SetcapOk w tT dT lR cap ins c t0 t1 t2 t3 n1 n2 n3 n4 n5 vs rs cl0 rest r news'
set_option maxHeartbeats 8000000 in
theorem setcap_ok {w : World} {mean : ExcName → Option Value} {mg mb : Str → Option Value} {tT dT lR : Addr} {cap ins c : Int} {t0 t1 t2 t3 n1 n2 n3 n4 n5 tn : Tok} {vs : List Value} {rs : List Row} {cl0 : Nat} {rest : List (Addr × Obj)}
    (hR : RowsAre rest vs rs) (hs : Smalls rs) (hl : vs.length ≤ 100) (hn0 : 0 ≤ ins) (hn1 : ins ≤ 100000) (hc : (vs.length : Int) ≤ ins)
    (hTd : @LT.lt Nat _ dT tT) (hdl : @LT.lt Nat _ tT lR) (hrd : ∀ p ∈ rest, p.1 ≠ dT) (hrl : ∀ p ∈ rest, p.1 ≠ lR) :
    Spec w mean mg mb 273 14 [.ref tT, .int c tn] ((tT, instObj 290 dT) :: (dT, dictOf (tabAttrs w lR cap ins (tot rs) t0 t1 t2 t3 n1 n2 n3 n4 n5) 5) :: (lR, listOf vs.toArray cl0) :: rest)
      (SetcapOk w tT dT lR cap ins c t0 t1 t2 t3 n1 n2 n3 n4 n5 vs rs cl0 rest)
      (fun _ _ _ => False) := by
  unfold Spec
  k_fill
  intro dp un gd cn cs av ccd cl outer A₀ base h₀ L m s Q E B F X N T hk hdp hun hret hexc
  refine wpAny_call ?_
  k_dflt ktr_enter
  rename_i g1 L1 h1 FG F1 N1 B1 X1 T1
  have hlen := hR.len
  dsimp only [tabAttrs] at N1
  walk_at "GO"
  · refine' hret _ _ _ _ ?a ?b (.inl (by assumption) rfl rfl)
    case a => k_asm
    case b => exact cb_drop (by k_asm) (fun _ h9 => h9)
  · rename News _ _ _ _ => N9
    rw [Int.sub_zero] at N9
    exact hret _ _ _ _ (by k_asm) N9 (.inr (by omega) rfl _ _ _ rfl)

/-! ## MIns -/

inductive InsOk (w : World) (tT dT lR : Addr) (cap ins : Int) (bn bv : Array UInt8) (kn kv : List Int) (t0 t1 t2 t3 n1 n2 n3 n4 n5 tn tv : Tok) (vs : List Value) (rs : List Row) (cl0 : Nat) (rest : List (Addr × Obj)) (r : Value) (news' : List (Addr × Obj)) : Prop
  | inl : (cap < kn.length + kv.length + 32) → (r = .none) → (news' = (tT, instObj 290 dT) :: (dT, dictOf (tabAttrs w lR cap ins (tot rs) t0 t1 t2 t3 n1 n2 n3 n4 n5) 5) :: (lR, listOf vs.toArray cl0) :: rest) → InsOk w tT dT lR cap ins bn bv kn kv t0 t1 t2 t3 n1 n2 n3 n4 n5 tn tv vs rs cl0 rest r news'
  | inr : (¬ cap < kn.length + kv.length + 32) → ∀ (x : Int) (tx : Tok), (r = .int x tx) → ∀ (kk : Nat) (t3' t2' : Tok) (cc : Nat) (tr : Addr) (c2 : Nat), (kk = fitN (cap - (kn.length + kv.length + 32)) rs) → (news' = (tr, tupO [.bytes bn tn, .bytes bv tv] c2) :: (tT, instObj 290 dT) :: (dT, dictOf (tabAttrs w lR cap (ins + 1) (tot (rs.drop kk) + (kn.length + kv.length + 32)) t0 t1 t2' t3' n1 n2 n3 n4 n5) 5) :: (lR, listOf (vs.drop kk ++ [Value.ref tr]).toArray cc) :: rest) → (AllLt tr rest) → (@LT.lt Nat _ lR tr) → InsOk w tT dT lR cap ins bn bv kn kv t0 t1 t2 t3 n1 n2 n3 n4 n5 tn tv vs rs cl0 rest r news'
set_option maxHeartbeats 8000000 in
theorem insert_ok {w : World} {mean : ExcName → Option Value} {mg mb : Str → Option Value} {tT dT lR : Addr} {cap ins : Int} {bn bv : Array UInt8} {kn kv : List Int} {t0 t1 t2 t3 n1 n2 n3 n4 n5 tn tv : Tok} {vs : List Value} {rs : List Row} {cl0 : Nat} {rest : List (Addr × Obj)}
    (hbn : KBw.bInts bn = kn) (hbv : KBw.bInts bv = kv) (hln : kn.length ≤ 4096) (hlv : kv.length ≤ 4096)
    (hR : RowsAre rest vs rs) (hs : Smalls rs) (hl : vs.length ≤ 99) (hn0 : 0 ≤ ins) (hn1 : ins ≤ 100000) (hc : (vs.length : Int) ≤ ins)
    (hTd : @LT.lt Nat _ dT tT) (hdl : @LT.lt Nat _ tT lR) (hrd : ∀ p ∈ rest, p.1 ≠ dT) (hrl : ∀ p ∈ rest, p.1 ≠ lR) :
    Spec w mean mg mb 280 14 [.ref tT, .bytes bn tn, .bytes bv tv] ((tT, instObj 290 dT) :: (dT, dictOf (tabAttrs w lR cap ins (tot rs) t0 t1 t2 t3 n1 n2 n3 n4 n5) 5) :: (lR, listOf vs.toArray cl0) :: rest)
      (InsOk w tT dT lR cap ins bn bv kn kv t0 t1 t2 t3 n1 n2 n3 n4 n5 tn tv vs rs cl0 rest)
      (fun _ _ _ => False) := by
  unfold Spec
  k_fill
  intro dp un gd cn cs av ccd cl outer A₀ base h₀ L m s Q E B F X N T hk hdp hun hret hexc
  refine wpAny_call ?_
  k_dflt ktr_enter
  rename_i g1 L1 h1 FG F1 N1 B1 X1 T1
  have hlen := hR.len
  dsimp only [tabAttrs] at N1
  walk_at "GO"
  · refine' hret _ _ _ _ ?a ?b (.inl (by assumption) rfl rfl)
    case a => k_asm
    case b => exact cb_drop (by k_asm) (by walk_at "SUB")
  · rename News _ _ _ _ => N9
    rw [List.push_toArray] at N9
    exact hret _ _ _ _ (by k_asm) (cb_drop N9 (by walk_at "SUB")) (.inr (by assumption) _ _ rfl _ _ _ _ _ _ rfl rfl (by tbn_find) (by omega))

/-! ## MObey -/

noncomputable def Tab.Ok (t : Tab) : Prop := 0 ≤ t.cap ∧ t.cap ≤ 200 ∧ tot t.rows ≤ t.cap ∧ (t.rows.length : Int) ≤ t.ins ∧ 0 ≤ t.ins
theorem tot_mem : ∀ {rs : List Row} {r : Row}, r ∈ rs → rsz r ≤ tot rs
  | r :: rs, _, .head _ => by have := tot_nn rs; simp only [tot]; omega
  | r :: rs, x, .tail _ h => by have := tot_mem h; simp only [tot, rsz] at *; omega
theorem tot_len : ∀ (rs : List Row), 32 * (rs.length : Int) ≤ tot rs
  | [] => Int.le_refl 0
  | r :: rs => by have := tot_len rs; simp only [tot, rsz, List.length_cons]; omega
theorem Tab.Ok.smalls {t : Tab} (h : t.Ok) : Smalls t.rows := fun r hr => by
  have := tot_mem hr
  obtain ⟨h1, h2, h3, h4⟩ := h
  simp only [rsz] at this
  omega
theorem Tab.Ok.len {t : Tab} (h : t.Ok) : t.rows.length ≤ 6 := by
  have := tot_len t.rows
  obtain ⟨h1, h2, h3, h4⟩ := h
  omega
theorem tot_fit {lim : Int} (h : 0 ≤ lim) : ∀ (rs : List Row), tot (rs.drop (fitN lim rs)) ≤ lim
  | [] => h
  | r :: rs => by
    unfold fitN
    split
    · rw [List.drop_succ_cons]; exact tot_fit h rs
    · rw [List.drop_zero]; omega
theorem tot_app : ∀ (rs : List Row) (r : Row), tot (rs ++ [r]) = tot rs + rsz r
  | [], r => by simp [tot]
  | x :: rs, r => by rw [List.cons_append, tot, tot, tot_app rs r]; omega

inductive OR where
  | ok (t : Tab)
  | bad
  | stuck
noncomputable def putA (t : Tab) (r : Row) : OR := if t.cap < rsz r then .bad else .ok ⟨t.cap, t.rows.drop (fitN (t.cap - rsz r) t.rows) ++ [r], t.ins + 1⟩
noncomputable def rowA (t : Tab) (n : Int) : Option Row := if (t.rows.length : Int) ≤ n then none else t.rows[(t.rows.length - 1 - n : Int).toNat]?
noncomputable def obeyA (t : Tab) : Ch → OR
  | .cap n => if 200 < n then .bad else .ok ⟨n, t.rows.drop (fitN n t.rows), t.ins⟩
  | .lit k v => putA t (k, v)
  | .stat n v => if n = 1 then putA t ([58, 112, 97, 116, 104], v) else if n = 2 then putA t ([97, 103, 101], v) else if n = 5 then putA t ([99, 111, 111, 107, 105, 101], v) else if n = 99 then .bad else .stuck
  | .dyn n v => match rowA t n with
    | none => .bad
    | some r => putA t (r.1, v)
  | .dup n => match rowA t n with
    | none => .bad
    | some r => putA t r
theorem putA_ok {t t' : Tab} {r : Row} (h : t.Ok) (e : putA t r = .ok t') : t'.Ok ∧ t'.ins ≤ t.ins + 1 := by
  unfold putA at e
  obtain ⟨h1, h2, h3, h4, h5⟩ := h
  split at e
  · cases e
  · cases e
    have := tot_fit (lim := t.cap - rsz r) (by omega) t.rows
    refine ⟨⟨h1, h2, ?_, ?_, ?_⟩, Int.le_refl _⟩
    · dsimp only; rw [tot_app]; omega
    · dsimp only; rw [List.length_append, List.length_drop, List.length_cons, List.length_nil]; omega
    · dsimp only; omega
noncomputable def ChOk : Ch → Prop
  | .cap n => 0 ≤ n
  | _ => True
theorem obeyA_ok {t t' : Tab} {c : Ch} (h : t.Ok) (hc : ChOk c) (e : obeyA t c = .ok t') : t'.Ok ∧ t'.ins ≤ t.ins + 1 := by
  cases c with
  | cap n =>
    simp only [obeyA] at e
    split at e
    · cases e
    · cases e
      obtain ⟨h1, h2, h3, h4, h5⟩ := h
      have := tot_fit hc t.rows
      refine ⟨⟨hc, by dsimp only; omega, this, ?_, h5⟩, by dsimp only; omega⟩
      dsimp only; rw [List.length_drop]; omega
  | lit k v => exact putA_ok h e
  | stat n v =>
    simp only [obeyA] at e
    split at e
    · exact putA_ok h e
    · split at e
      · exact putA_ok h e
      · split at e
        · exact putA_ok h e
        · split at e <;> cases e
  | dyn n v =>
    simp only [obeyA] at e
    split at e
    · cases e
    · exact putA_ok h e
  | dup n =>
    simp only [obeyA] at e
    split at e
    · cases e
    · exact putA_ok h e

theorem kw_line56 : True := by
  (k_with "my call ref" => ((k_here; (with_reducible show wpAny _ _ (call (Value.ref 273) _) _ _ _); k_dflt (refine' Spec.use (setcap_ok ?hR_q ?hs_q ?hl_q ?h0_q ?h1_q ?hc_q ?ha_q ?hb_q ?hrd_q ?hrl_q) ?B_q ?F_q ?X_q ?N_q ?sub_q ?T_q ?k_q ?d_q ?u_q ?_ ?_; walk_at "USEC"; (case hR_q => assumption); (case hs_q => assumption); (case hl_q => omega); (case h0_q => omega); (case h1_q => omega); (case hc_q => omega); (case ha_q => assumption); (case hb_q => assumption); (case hrd_q => assumption); (case hrl_q => assumption)); rotate_left; (exact fun _ _ _ _ _ _ _ _ _ _ _ _ q9 => False.elim q9); (intro _ _ _ _ _ _ ok'; rcases ok' with ⟨_, hr', hn'⟩ | ⟨_, hr', _, _, _, hn'⟩ <;> subst hn' hr' <;> try dsimp only))))
  trivial
theorem kw_line57 : True := by
  (k_with "my BI" => (first | assumption | rfl))
  trivial
theorem kw_line58 : True := by
  (k_with "my call ref" => ((k_here; (with_reducible show wpAny _ _ (call (Value.ref 280) _) _ _ _); k_dflt (refine' Spec.use (insert_ok ?hbn_q ?hbv_q ?hln_q ?hlv_q ?hR_q ?hs_q ?hl_q ?h0_q ?h1_q ?hc_q ?ha_q ?hb_q ?hrd_q ?hrl_q) ?B_q ?F_q ?X_q ?N_q ?sub_q ?T_q ?k_q ?d_q ?u_q ?_ ?_; walk_at "USEC"; (case hbn_q => walk_at "BI"); (case hbv_q => walk_at "BI"); (case hln_q => first | omega | decide); (case hlv_q => first | omega | decide); (case hR_q => assumption); (case hs_q => assumption); (case hl_q => omega); (case h0_q => omega); (case h1_q => omega); (case hc_q => omega); (case ha_q => assumption); (case hb_q => assumption); (case hrd_q => assumption); (case hrl_q => assumption)); rotate_left; (exact fun _ _ _ _ _ _ _ _ _ _ _ _ q9 => False.elim q9); (intro _ _ _ _ _ _ ok'; rcases ok' with ⟨_, hr', hn'⟩ | ⟨_, _, _, hr', _, _, _, _, _, _, hkk', hn', _, _⟩ <;> subst hn' hr' <;> (try subst hkk') <;> try dsimp only))))
  trivial

noncomputable abbrev decAttrs (w : World) (tT lW : Addr) (b : Array UInt8) (tb u1 u2 m1 m2 m3 m4 m5 : Tok) : List DictEntry :=
  [⟨PyData.keyHash w.params (Str.ofString "table"), .str (Str.ofString "table") m1, .ref tT⟩,
   ⟨PyData.keyHash w.params (Str.ofString "most_blocked"), .str (Str.ofString "most_blocked") m2, .int 1 u1⟩,
   ⟨PyData.keyHash w.params (Str.ofString "waiting"), .str (Str.ofString "waiting") m3, .ref lW⟩,
   ⟨PyData.keyHash w.params (Str.ofString "left"), .str (Str.ofString "left") m4, .bytes b tb⟩,
   ⟨PyData.keyHash w.params (Str.ofString "told"), .str (Str.ofString "told") m5, .int 0 u2⟩]

inductive TabIn (w : World) (tT dT lR : Addr) (t : Tab) (rest news' : List (Addr × Obj)) (t0 n1 n2 n3 n4 n5 : Tok) : Prop
  | mk : ∀ vs' rest' t1 t2 t3 c, (news' = (tT, instObj 290 dT) :: (dT, dictOf (tabAttrs w lR t.cap t.ins (tot t.rows) t0 t1 t2 t3 n1 n2 n3 n4 n5) 5) :: (lR, listOf vs'.toArray c) :: rest') → ((∀ p ∈ rest, p ∈ rest')) → ((∀ p ∈ rest', p ∈ rest ∨ (@LT.lt Nat _ lR p.1 ∧ AllLt p.1 rest))) → (RowsAre rest' vs' t.rows) → TabIn w tT dT lR t rest news' t0 n1 n2 n3 n4 n5

inductive ObeyOk (w : World) (tT dT lR : Addr) (t : Tab) (c : Ch) (rest : List (Addr × Obj)) (t0 n1 n2 n3 n4 n5 : Tok) (r : Value) (news' : List (Addr × Obj)) : Prop
  | mk : (r = .none) → ∀ t', (obeyA t c = .ok t') → (TabIn w tT dT lR t' rest news' t0 n1 n2 n3 n4 n5) → ObeyOk w tT dT lR t c rest t0 n1 n2 n3 n4 n5 r news'
inductive ObeyBad (w : World) (tT dT lR : Addr) (t : Tab) (c : Ch) (t0 t1 t2 t3 n1 n2 n3 n4 n5 : Tok) (vs : List Value) (cl0 : Nat) (rest : List (Addr × Obj)) (C dx : Addr) (news' : List (Addr × Obj)) : Prop
  | mk : (obeyA t c = .bad) → (C = 38) → ∀ (tc' : Tok) (x : Str) (tx s1 s2 : Tok), (news' = (dx, dictOf (qAttrs w 513 tc' x tx s1 s2) 2) :: (tT, instObj 290 dT) :: (dT, dictOf (tabAttrs w lR t.cap t.ins (tot t.rows) t0 t1 t2 t3 n1 n2 n3 n4 n5) 5) :: (lR, listOf vs.toArray cl0) :: rest) → ObeyBad w tT dT lR t c t0 t1 t2 t3 n1 n2 n3 n4 n5 vs cl0 rest C dx news'
/-- what obey does at a change -/
noncomputable def ObeySpec (w : World) (mean : ExcName → Option Value) (mg mb : Str → Option Value) (c : Ch) : Prop :=
  ∀ {tT dT lR aR dR lW tc : Addr} {t : Tab} {bl : Array UInt8} {t0 t1 t2 t3 n1 n2 n3 n4 n5 tb u1 u2 m1 m2 m3 m4 m5 : Tok} {vs vc : List Value} {cl0 cd cc : Nat} {rest : List (Addr × Obj)},
    (aR, instObj 402 dR) ∈ rest → (dR, dictOf (decAttrs w tT lW bl tb u1 u2 m1 m2 m3 m4 m5) cd) ∈ rest → (tc, tupO vc cc) ∈ rest → ChVals c vc → obeyA t c ≠ .stuck →
    RowsAre rest vs t.rows → t.Ok → t.ins ≤ 100000 → @LT.lt Nat _ dT tT → @LT.lt Nat _ tT lR → (∀ p ∈ rest, p.1 ≠ dT) → (∀ p ∈ rest, p.1 ≠ lR) →
    Spec w mean mg mb 343 20 [.ref aR, .ref tc] ((tT, instObj 290 dT) :: (dT, dictOf (tabAttrs w lR t.cap t.ins (tot t.rows) t0 t1 t2 t3 n1 n2 n3 n4 n5) 5) :: (lR, listOf vs.toArray cl0) :: rest)
      (ObeyOk w tT dT lR t c rest t0 n1 n2 n3 n4 n5)
      (ObeyBad w tT dT lR t c t0 t1 t2 t3 n1 n2 n3 n4 n5 vs cl0 rest)

set_option maxHeartbeats 8000000 in
theorem obey_cap {w : World} {mean : ExcName → Option Value} {mg mb : Str → Option Value} (n : Int) : ObeySpec w mean mg mb (.cap n) := by
  intro tT dT lR aR dR lW tc t bl t0 t1 t2 t3 n1 n2 n3 n4 n5 tb u1 u2 m1 m2 m3 m4 m5 vs vc cl0 cd cc rest hA hD hC hv hst hR hok hi hTd hdl hrd hrl
  unfold Spec
  k_fill
  intro dp un gd cn cs av ccd cl outer A₀ base h₀ L m s Q E B F X N T hk hdp hun hret hexc
  refine wpAny_call ?_
  k_dflt ktr_enter
  rename_i g1 L1 h1 FG F1 N1 B1 X1 T1
  obtain ⟨s1, s2, rfl⟩ := hv
  have hs := hok.smalls
  have hl := hok.len
  have hlen := hR.len
  obtain ⟨k1, k2, k3, k4, k5⟩ := id hok
  dsimp only [tabAttrs, decAttrs] at N1 hD
  walk_at "GO"
  · exact hexc _ _ _ _ _ _ _ _ rfl FG (by assumption) (by assumption) ⟨if_pos (by assumption), rfl, _, _, _, _, _, rfl⟩
  · rename News _ _ _ _ => N9
    exact hret _ _ _ _ (by k_asm) N9 ⟨rfl, _, if_neg (by omega), _, _, _, _, _, _, rfl, fun _ h => h, fun _ h => .inl h, hR.drop _⟩

/-! ## MObey2 -/
-- FAST
theorem kw_line59 : True := by
  (k_with "my subscriptTail Name Name ref int" => ((k_here; (with_reducible show wpAny _ _ (subscriptTail _ _ (Value.ref _) (Value.int _ _)) _ _ _); k_dflt (refine' topList_K ?F_q ?X_q ?l_q ?a_q ?b_q ?d_q ?_; (case F_q => k_asm); (case X_q => k_asm); (case l_q => k_is); (case a_q => decide); (case b_q => decide); (case d_q => rfl); k_whole))))
  trivial
theorem kw_line60 : True := by
  (k_with "my subscriptTail Call" => ((k_here; (with_reducible show wpAny _ _ (subscriptTail _ _ (Value.ref _) (Value.int _ _)) _ _ _); k_dflt (refine' topTup_K ?F_q ?X_q ?l_q ?a_q ?b_q ?c_q ?d_q ?_; (case F_q => k_asm); (case X_q => k_asm); (case l_q => k_is); (case a_q => decide); (case b_q => decide); (case c_q => rfl); (case d_q => rfl)))))
  trivial

theorem stat_in {t : Tab} {n : Int} {v : List Int} (h : obeyA t (.stat n v) ≠ .stuck) : n = 1 ∨ n = 2 ∨ n = 5 ∨ n = 99 := by
  simp only [obeyA] at h
  split at h
  · exact .inl (by assumption)
  · split at h
    · exact .inr (.inl (by assumption))
    · split at h
      · exact .inr (.inr (.inl (by assumption)))
      · split at h
        · exact .inr (.inr (.inr (by assumption)))
        · exact absurd rfl h

/-- what static_row gives: nothing, or a row of the top's -/
inductive StatOk (w : World) (n : Int) (news : List (Addr × Obj)) (r : Value) (news' : List (Addr × Obj)) : Prop
  | none : n = 99 → r = .none → news' = news → StatOk w n news r news'
  | row : ∀ (a : Addr) (b : Array UInt8) (tb : Tok) (v2 : Value) (c : Nat) (dd : Option Addr) (sl : Array (Option Value)) (kn : List Int), r = .ref a → (hd.heap_39 w.params).lookup a = some ⟨.type "tuple", dd, .seq [.bytes b tb, v2].toArray c, sl⟩ → KBw.bInts b = kn → kn.length ≤ 4096 → (∀ t v, obeyA t (.stat n v) = putA t (kn, v)) → news' = news → StatOk w n news r news'
set_option maxHeartbeats 8000000 in
theorem static_ok {w : World} {mean : ExcName → Option Value} {mg mb : Str → Option Value} {n : Int} {tn : Tok} {news : List (Addr × Obj)} (hn : n = 1 ∨ n = 2 ∨ n = 5 ∨ n = 99) :
    Spec w mean mg mb 217 8 [.int n tn] news (StatOk w n news) (fun _ _ _ => False) := by
  unfold Spec
  k_fill
  intro dp un gd cn cs av ccd cl outer A₀ base h₀ L m s Q E B F X N T hk hdp hun hret hexc
  refine wpAny_call ?_
  k_dflt ktr_enter
  rename_i g1 L1 h1 FG F1 N1 B1 X1 T1
  rcases hn with rfl | rfl | rfl | rfl
  · walk_at "GO"
    exact hret _ _ _ _ (by k_asm) (cb_drop (by k_asm) (by walk_at "SUB")) (.row _ _ _ _ _ _ _ [58, 112, 97, 116, 104] rfl (by k_is) (by rfl) (by decide) (fun _ _ => rfl) rfl)
  · walk_at "GO"
    exact hret _ _ _ _ (by k_asm) (cb_drop (by k_asm) (by walk_at "SUB")) (.row _ _ _ _ _ _ _ [97, 103, 101] rfl (by k_is) (by rfl) (by decide) (fun _ _ => rfl) rfl)
  · walk_at "GO"
    exact hret _ _ _ _ (by k_asm) (cb_drop (by k_asm) (by walk_at "SUB")) (.row _ _ _ _ _ _ _ [99, 111, 111, 107, 105, 101] rfl (by k_is) (by rfl) (by decide) (fun _ _ => rfl) rfl)
  · walk_at "GO"
    exact hret _ _ _ _ (by k_asm) (cb_drop (by k_asm) (by walk_at "SUB")) (.none rfl rfl rfl)
theorem kw_line61 : True := by
  (k_with "my call ref" => ((k_here; (with_reducible show wpAny _ _ (call (Value.ref 217) _) _ _ _); k_dflt (refine' Spec.use (static_ok ?hn_q) ?B_q ?F_q ?X_q ?N_q ?sub_q ?T_q ?k_q ?d_q ?u_q ?_ ?_; walk_at "USE"; (case hn_q => assumption)); rotate_left; (exact fun _ _ _ _ _ _ _ _ _ _ _ _ q9 => False.elim q9); (intro _ _ _ _ _ _ ok'; rcases ok' with ⟨_, hr', hn'⟩ | ⟨_, _, _, _, _, _, _, _, hr', _, _, _, _, hn'⟩ <;> subst hn' hr' <;> try dsimp only))))
  trivial
theorem kw_line62 : True := by
  (k_with "my subscriptTail Call" => ((k_here; (with_reducible show wpAny _ _ (subscriptTail _ _ (Value.ref _) (Value.int _ _)) _ _ _); k_dflt (refine' topTup_K ?F_q ?X_q ?l_q ?a_q ?b_q ?c_q ?d_q ?_; (case F_q => k_asm); (case X_q => k_asm); (case l_q => with_reducible assumption); (case a_q => decide); (case b_q => decide); (case c_q => rfl); (case d_q => rfl)))))
  trivial

theorem putA_bad {t : Tab} {k v : List Int} (h : t.cap < k.length + v.length + 32) : putA t (k, v) = .bad := if_pos h
theorem putA_go {t : Tab} {k v : List Int} (h : ¬ t.cap < k.length + v.length + 32) : putA t (k, v) = .ok ⟨t.cap, t.rows.drop (fitN (t.cap - (k.length + v.length + 32)) t.rows) ++ [(k, v)], t.ins + 1⟩ := if_neg h
theorem RowsAre.app {news : List (Addr × Obj)} {v : Value} {r : Row} (h : RowIs news v r) : ∀ {vs : List Value} {rs : List Row}, RowsAre news vs rs → RowsAre news (vs ++ [v]) (rs ++ [r])
  | [], [], _ => ⟨h, trivial⟩
  | _ :: _, _ :: _, q => ⟨q.1, RowsAre.app h q.2⟩
  | [], _ :: _, q => q.elim
  | _ :: _, [], q => q.elim
theorem put_in {w : World} {tT dT lR tr : Addr} {t : Tab} {k v : List Int} {bn bv : Array UInt8} {rest : List (Addr × Obj)} {vs : List Value} {t0 t1 t2 t3 n1 n2 n3 n4 n5 ta tb : Tok} {c c2 : Nat}
    (hR : RowsAre rest vs t.rows) (hbn : KBw.bInts bn = k) (hbv : KBw.bInts bv = v) (l1 : AllLt tr rest) (l2 : @LT.lt Nat _ lR tr) :
    TabIn w tT dT lR ⟨t.cap, t.rows.drop (fitN (t.cap - (k.length + v.length + 32)) t.rows) ++ [(k, v)], t.ins + 1⟩ rest
      ((tT, instObj 290 dT) :: (dT, dictOf (tabAttrs w lR t.cap (t.ins + 1) (tot (t.rows.drop (fitN (t.cap - (k.length + v.length + 32)) t.rows)) + (k.length + v.length + 32)) t0 t1 t2 t3 n1 n2 n3 n4 n5) 5) :: (lR, listOf (vs.drop (fitN (t.cap - (k.length + v.length + 32)) t.rows) ++ [Value.ref tr]).toArray c) :: (tr, tupO [.bytes bn ta, .bytes bv tb] c2) :: rest) t0 n1 n2 n3 n4 n5 := by
  refine ⟨vs.drop (fitN (t.cap - (k.length + v.length + 32)) t.rows) ++ [Value.ref tr], (tr, tupO [.bytes bn ta, .bytes bv tb] c2) :: rest, t1, t2, t3, c, ?_, fun _ h => .tail _ h, ?_, ?_⟩
  · dsimp only; rw [tot_app]; rfl
  · intro p hp
    rcases List.mem_cons.mp hp with rfl | hp
    · exact .inr ⟨l2, l1⟩
    · exact .inl hp
  · exact RowsAre.app ⟨tr, bn, bv, ta, tb, c2, rfl, .head _, hbn, hbv⟩ (RowsAre.sub (fun _ h => .tail _ h) (hR.drop _))
theorem row_none {t : Tab} {n : Int} (h : ¬ (t.ins - t.rows.length ≤ t.ins - 1 - n ∧ t.ins - 1 - n < t.ins)) (hn : 0 ≤ n) : rowA t n = none := by
  unfold rowA; rw [if_pos (by omega)]
theorem row_some {t : Tab} {n : Int} {len : Nat} {r : Row} (hl : len = t.rows.length) (h : t.ins - len ≤ t.ins - 1 - n) (hr : t.rows[(t.ins - 1 - n - (t.ins - len)).toNat]? = some r) : rowA t n = some r := by
  unfold rowA; rw [if_neg (by omega), ← hr, hl]; congr 1; omega
theorem lenOf {d : Array UInt8} {ks : List Int} (h : KBw.bInts d = ks) : ks.length = d.size := by rw [← h]; simp [KBw.bInts]

noncomputable def ChB : Ch → Prop
  | .cap n => 0 ≤ n
  | .dup n => 0 ≤ n
  | .stat n v => v.length ≤ 4096
  | .dyn n v => 0 ≤ n ∧ v.length ≤ 4096
  | .lit k v => k.length ≤ 4096 ∧ v.length ≤ 4096

/-- three statements ahead of a meeting point -/
theorem join3 {M : Model} {A : Around} {E : Value → Shared → Prop} {Q : Flow → Shared → Prop} {s : Shared} {env : Env} {a b c : Stmt} {rest : List Stmt} (J : Shared → Prop)
    (h : let J9 : Shared → Prop := J
      wpAny M A (exec a env) (fun f s1 => match f with
      | .next => wpAny M A (exec b env) (fun f s2 => match f with
        | .next => wpAny M A (exec c env) (fun f s3 => match f with | .next => J9 s3 | f => Q f s3) E s2
        | f => Q f s2) E s1
      | f => Q f s1) E s) (k : ∀ s', J s' → wpAny M A (execs rest env) Q E s') : wpAny M A (execs (a :: b :: c :: rest) env) Q E s := by
  refine wpAny_execs_cons (wpAny_mono h (fun f s1 q => ?_) fun _ _ x => x)
  cases f with
  | next =>
    refine wpAny_execs_cons (wpAny_mono q (fun f s2 q => ?_) fun _ _ x => x)
    cases f with
    | next => exact join_next J q k
    | _ => exact q
  | _ => exact q

inductive PutJ (g : Heap) (L : Addr) (s : Shared) (ledger : List (Addr × Obj)) (aR : Addr) (t : Tab) (c : Ch) (s' : Shared) : Prop
  | mk : ∀ h' tk m bn bv kn kv tn tv, (s' = { s with heap := h', toks := tk }) → (Fr g L h' m) → (m (Str.ofString "self") = some (.ref aR)) → (m (Str.ofString "name") = some (.bytes bn tn)) → (m (Str.ofString "value") = some (.bytes bv tv)) → (News g L h' ledger) → (KBw.bInts bn = kn) → (KBw.bInts bv = kv) → (kn.length ≤ 4096) → (kv.length ≤ 4096) → (obeyA t c = putA t (kn, kv)) → PutJ g L s ledger aR t c s'
theorem PutJ.intro {g h' : Heap} {L : Addr} {s : Shared} {ledger : List (Addr × Obj)} {aR : Addr} {t : Tab} {c : Ch} {m : Str → Option Value} {bn bv : Array UInt8} {kn kv : List Int} {tn tv : Tok} {tk : Nat}
    (F : Fr g L h' m) (N : News g L h' ledger) (e : obeyA t c = putA t (kn, kv)) (hn : KBw.bInts bn = kn) (hv : KBw.bInts bv = kv) (l1 : kn.length ≤ 4096) (l2 : kv.length ≤ 4096)
    (m1 : m (Str.ofString "self") = some (.ref aR)) (m2 : m (Str.ofString "name") = some (.bytes bn tn)) (m3 : m (Str.ofString "value") = some (.bytes bv tv)) : PutJ g L s ledger aR t c { s with heap := h', toks := tk } :=
  ⟨h', tk, m, bn, bv, kn, kv, tn, tv, rfl, F, m1, m2, m3, N, hn, hv, l1, l2, e⟩
theorem kw_line63 : True := by
  (k_with "my eval Name" => ((k_here; k_dflt (refine' nameX_L ?F_q ?v_q ?_ ?a_q ?b_q; (case F_q => k_asm); (case v_q => with_reducible assumption); (case a_q => rfl); (case b_q => rfl); k_whole))))
  trivial

set_option maxHeartbeats 8000000 in
theorem obey_put {w : World} {mean : ExcName → Option Value} {mg mb : Str → Option Value} {c : Ch} (hb : ChB c) (hcap : ∀ n, c ≠ .cap n) : ObeySpec w mean mg mb c := by
  intro tT dT lR aR dR lW tc t bl t0 t1 t2 t3 n1 n2 n3 n4 n5 tb u1 u2 m1 m2 m3 m4 m5 vs vc cl0 cd cc rest hA hD hC hv hst hR hok hi hTd hdl hrd hrl
  unfold Spec
  k_fill
  intro dp un gd cn cs av ccd cl outer A₀ base h₀ L m s Q E B F X N T hk hdp hun hret hexc
  refine wpAny_call ?_
  k_dflt ktr_enter
  rename_i g1 L1 h1 FG F1 N1 B1 X1 T1
  have hs := hok.smalls
  have hl := hok.len
  have hlen := hR.len
  obtain ⟨k1, k2, k3, k4, k5⟩ := id hok
  dsimp only [tabAttrs, decAttrs] at N1 hD
  refine join3 (PutJ g1 L1 s ((tT, instObj 290 dT) :: (dT, dictOf (tabAttrs w lR t.cap t.ins (tot t.rows) t0 t1 t2 t3 n1 n2 n3 n4 n5) 5) :: (lR, listOf vs.toArray cl0) :: rest) aR t c) ?_ ?_
  · intro J9
    cases c with
    | cap n => exact absurd rfl (hcap n)
    | lit k v =>
      obtain ⟨s1, bk, s2, bv, s3, rfl, hbk, hbv⟩ := hv
      walk_at "GO"
      exact PutJ.intro (by k_asm) (cb_drop (by k_asm) (by walk_at "SUB")) rfl hbk hbv hb.1 hb.2 rfl rfl rfl
    | stat n v =>
      obtain ⟨s1, s2, bv, s3, rfl, hbv⟩ := hv
      have hn := stat_in hst
      walk_at "GO"
      · (rename n = 99 => hq; subst hq)
        exact hexc _ _ _ _ _ _ _ _ rfl FG (by assumption) (FlyK.sub (by assumption) (by walk_at "SUB")) ⟨rfl, rfl, _, _, _, _, _, rfl⟩
      · exact PutJ.intro (by k_asm) (cb_drop (by k_asm) (by walk_at "SUB")) (by rename (∀ t v, obeyA t (.stat n v) = putA t (_, v)) => hq; exact hq _ _) (by assumption) hbv (by assumption) hb rfl rfl rfl
    | dyn n v =>
      obtain ⟨s1, s2, bv, s3, rfl, hbv⟩ := hv
      obtain ⟨hn, hvl⟩ := hb
      walk_at "GO"
      · exact hexc _ _ _ _ _ _ _ _ rfl FG (by assumption) (FlyK.sub (by assumption) (by walk_at "SUB")) ⟨by simp only [obeyA]; rw [row_none (by omega) hn], rfl, _, _, _, _, _, rfl⟩
      · exact PutJ.intro (by k_asm) (cb_drop (by k_asm) (by walk_at "SUB")) (by simp only [obeyA]; rw [row_some hlen (by assumption) (by assumption)]) (by assumption) hbv (by assumption) hvl rfl rfl rfl
    | dup n =>
      obtain ⟨s1, s2, rfl⟩ := hv
      have hn : 0 ≤ n := hb
      walk_at "GO"
      · exact hexc _ _ _ _ _ _ _ _ rfl FG (by assumption) (FlyK.sub (by assumption) (by walk_at "SUB")) ⟨by simp only [obeyA]; rw [row_none (by omega) hn], rfl, _, _, _, _, _, rfl⟩
      · exact PutJ.intro (by k_asm) (cb_drop (by k_asm) (by walk_at "SUB")) (by simp only [obeyA]; rw [row_some hlen (by assumption) (by assumption)]) (by assumption) (by assumption) (by assumption) (by assumption) rfl rfl rfl
  · rintro s' ⟨h', tk, m₁, bn, bv, kn, kv, tn, tv, rfl, F2, e1, e2, e3, N2, hbn, hbv, hln, hlv, hob⟩
    clear F1 N1
    dsimp only [tabAttrs] at N2
    walk_at "GO"
    · exact hexc _ _ _ _ _ _ _ _ rfl FG (by assumption) (FlyK.sub (by assumption) (by walk_at "SUB")) ⟨hob.trans (putA_bad (by assumption)), rfl, _, _, _, _, _, rfl⟩
    · rename News _ _ _ _ => N9
      exact hret _ _ _ _ (by k_asm) (cb_drop N9 (by walk_at "SUB")) ⟨rfl, _, hob.trans (putA_go (by assumption)), put_in hR hbn hbv (by tbn_find) (by assumption)⟩
theorem obey_all {w : World} {mean : ExcName → Option Value} {mg mb : Str → Option Value} {c : Ch} (h : ChB c) : ObeySpec w mean mg mb c := by
  cases c with
  | cap n => exact obey_cap n
  | dup n => exact obey_put h (fun _ q => by cases q)
  | stat n v => exact obey_put h (fun _ q => by cases q)
  | dyn n v => exact obey_put h (fun _ q => by cases q)
  | lit k v => exact obey_put h (fun _ q => by cases q)

/-! ## MPop -/

/-- the names of the frames stand -/
noncomputable def Keeps (outer : List Env) (h₀ h₁ : Heap) : Prop := ∀ env ∈ outer, ∀ (a : Addr) (m : Str → Option Value), env.frame = some a → h₀.Ns a m → h₁.Ns a m
theorem Keeps.refl {outer : List Env} {h : Heap} : Keeps outer h h := fun _ _ _ _ _ x => x
theorem Keeps.trans {outer : List Env} {h₀ h₁ h₂ : Heap} (a : Keeps outer h₀ h₁) (b : Keeps outer h₁ h₂) : Keeps outer h₀ h₂ := fun e he a' m hf x => b e he a' m hf (a e he a' m hf x)
theorem nsKeep_obj {h h' : Heap} {L : Addr} {m : Str → Option Value} (x : h.Ns L m) (k : ∀ o, h.get? L = some o → h'.get? L = some o) : h'.Ns L m := by
  obtain ⟨oL, es, ep, hL, hd, r⟩ := x
  exact ⟨oL, es, ep, k _ hL, hd, r⟩

open Classical in
theorem rebaseK {A₀ : Around} {base h₀ h h' : Heap} {outer : List Env} {env : Env} {L e dx : Addr} {m : Str → Option Value} {C cx : Value} {news : List (Addr × Obj)}
    (K : Below A₀ base outer h₀) (F : Fr h₀ L h m) (u : h.UpToSlots h') (R : FlyK base (env :: outer) e C dx cx news h') (hf : env.frame = some L) :
    ∃ h₁ t0 T, Below A₀ base outer h₁ ∧ Fr h₁ L h' m ∧ News h₁ L h' ((e, excO C (some dx) t0 (.ref T) cx) :: news) ∧ Keeps outer h₀ h₁ := by
  obtain ⟨B, hB, hl, hx⟩ := R
  obtain ⟨b1, b2, b3, t0, T, oT, ts, b4, b5, b6, b7, b8, b9⟩ := hx
  have st : base.StaysIn h' := fun b o q => b1 b o (hB b o q)
  have fr' := funFrames_base hB b3
  have hup : ∀ (b : Nat) o, h₀.get? b = some o → b < L := fun b o q => Nat.lt_of_lt_of_le (Heap.lt_size q) F.above
  have hNs : h'.Ns L m := u.ns F.ns
  have hm : ∀ env' ∈ outer, ∀ a : Nat, env'.frame = some a → a < L ∧ (decide (base.get? a ≠ none ∨ a ∈ outer.filterMap (·.frame))) = true := fun env' he a ha => by
    have hmem : a ∈ outer.filterMap (·.frame) := List.mem_filterMap.mpr ⟨env', he, ha⟩
    obtain ⟨_, o, ho, _⟩ := K.frames.mem hmem
    exact ⟨hup a o ho, decide_eq_true (.inr hmem)⟩
  refine ⟨heapOn h' L fun b => decide (base.get? b ≠ none ∨ b ∈ outer.filterMap (·.frame)), t0, T, ⟨K.stack, fun b o q => ?_, funFrames_on fr'.2.2 hm⟩, ⟨hNs, fun b o q => (heapOn_get _ _ _ q).1, heapOn_size _ _ _⟩, fun q hq => ?_, fun env' he a m' ha x => ?_⟩
  · exact heapOn_has _ _ _ (hup b o (K.stays b o q)) (st b o q) (decide_eq_true (.inl (by rw [q]; simp)))
  · have gone : ∀ b : Nat, base.get? b = none → b ∉ outer.filterMap (·.frame) → (heapOn h' L fun b => decide (base.get? b ≠ none ∨ b ∈ outer.filterMap (·.frame))).get? b = none := fun b h1 h2 => by
      cases z : (heapOn h' L fun b => decide (base.get? b ≠ none ∨ b ∈ outer.filterMap (·.frame))).get? b with
      | none => rfl
      | some o =>
        have := of_decide_eq_true (heapOn_get _ _ _ z).2
        rcases this with h3 | h3
        · exact absurd h1 h3
        · exact absurd h3 h2
    rcases List.mem_cons.mp hq with rfl | hq
    · refine ⟨b4, fun z => ?_, gone e (fresh_of_stays hB b2) fun z => ?_⟩
      · obtain ⟨oL, es, ep, hL, hd, _⟩ := hNs
        have z' : e = L := z
        rw [z', hL] at b4
        cases b4
        cases hd
      · obtain ⟨_, o, ho, hnf⟩ := fr'.2.2.mem z
        rw [b4] at ho
        cases ho
        exact hnf _ rfl
    · obtain ⟨q1, q2⟩ := hl q hq
      refine ⟨b1 _ _ q1, fun z => ?_, gone q.1 q2 fun z => ?_⟩
      · obtain ⟨_, ⟨L', _, hf', hn', _⟩, _⟩ := b3
        have z' : q.1 = L := z
        rw [hf] at hf'
        obtain rfl : L = L' := Option.some.inj hf'
        rw [z', hn'] at q1
        cases q1
      · have := (b3.2.2.mem z).1
        rw [q1] at this
        cases this
  · obtain ⟨z1, z2⟩ := hm env' he a ha
    refine nsKeep_obj (h := h') (u.ns (nsKeep_obj x fun o q => F.keep a o q)) fun o q => heapOn_has _ _ _ z1 q z2

open Classical in
/-- a frame is left: the caller's, as it now is -/
theorem pop_frame {A₀ A' : Around} {base h₀ h h₁ h' : Heap} {outer : List Env} {env : Env} {L L1 : Addr} {m m1 : Str → Option Value} {news : List (Addr × Obj)}
    (K : Below A₀ base outer h₀) (F0 : h₀.objs.size ≤ L) (K1 : Below A' base (env :: outer) h₁) (F : Fr h₁ L1 h' m1) (N : News h₁ L1 h' news) (hns : h₁.Ns L m) :
    ∃ h₂, Below A₀ base outer h₂ ∧ Fr h₂ L h' m ∧ News h₂ L h' news ∧ Keeps outer h₁ h₂ := by
  have hup : ∀ (b : Nat) o, h₀.get? b = some o → b < L := fun b o q => Nat.lt_of_lt_of_le (Heap.lt_size q) F0
  have hm : ∀ env' ∈ outer, ∀ a : Nat, env'.frame = some a → a < L ∧ (decide (base.get? a ≠ none ∨ a ∈ outer.filterMap (·.frame))) = true := fun env' he a ha => by
    have hmem : a ∈ outer.filterMap (·.frame) := List.mem_filterMap.mpr ⟨env', he, ha⟩
    obtain ⟨_, o, ho, _⟩ := K.frames.mem hmem
    exact ⟨hup a o ho, decide_eq_true (.inr hmem)⟩
  refine ⟨heapOn h₁ L fun b => decide (base.get? b ≠ none ∨ b ∈ outer.filterMap (·.frame)), ⟨K.stack, fun b o q => ?_, funFrames_on K1.frames.2.2 hm⟩, ⟨nsKeep_obj hns fun o q => F.keep L o q, fun b o q => F.keep b o (heapOn_get _ _ _ q).1, heapOn_size _ _ _⟩, fun q hq => ?_, fun env' he a m' ha x => ?_⟩
  · exact heapOn_has _ _ _ (hup b o (K.stays b o q)) (K1.stays b o q) (decide_eq_true (.inl (by rw [q]; simp)))
  · obtain ⟨q1, q2, q3⟩ := N q hq
    refine ⟨q1, fun z => ?_, ?_⟩
    · obtain ⟨oL, es, ep, hL, hd, _⟩ := hns
      have z' : q.1 = L := z
      rw [z', hL] at q3
      cases q3
    · cases z : (heapOn h₁ L fun b => decide (base.get? b ≠ none ∨ b ∈ outer.filterMap (·.frame))).get? q.1 with
      | none => rfl
      | some o => rw [(heapOn_get _ _ _ z).1] at q3; cases q3
  · obtain ⟨z1, z2⟩ := hm env' he a ha
    exact nsKeep_obj x fun o q => heapOn_has _ _ _ z1 q z2

/-! ## MHearA -/
section
variable {prog : Program} {w : World} {A₀ : Around} {KF : Frag} {E : Value → Shared → Prop} {s' : Shared} {base h₀ h : Heap} {outer : List Env} {L a e dx C C' : Addr} {m : Str → Option Value} {name : Str} {scope : Scope} {cd : Value} {Q : Flow → Shared → Prop} {news : List (Addr × Obj)} {cx : Value}
  {p : Program} {loose : List Str} {mean : ExcName → Option Value} {mg mb : Str → Option Value} {x : Str} {np pos : Pos} {b₀ : Stmt} {suite : List Stmt} {rest : List ExceptHandler} {kd kd' : ClassData}
theorem clause_hitK (K : Below A₀ base outer h₀) (F : Fr h₀ L h m) (u : h.UpToSlots s'.heap) (R : FlyK base (envOf name scope L a cd :: outer) e (.ref C) dx cx news s'.heap) (X : KF.In base) (T : TopRead p loose mg mb base)
    (hn : nsIn KF mainGlobals x = some (some (.ref C'))) (hcd : clsIn KF C = some kd) (hm : kd.mro = excMro C) (hcd' : clsIn KF C' = some kd') (hm' : kd'.mro = excMro C') (hT : typeIn KF (.ref C') = some (.type "type")) (hb : (excMro C).contains (.ref C') = true)
    (k : ∀ h₁ h' t0 TB, Below A₀ base outer h₁ → Fr h₁ L h' m → News h₁ L h' ((e, excO (.ref C) (some dx) t0 (.ref TB) cx) :: news) → Keeps outer h₀ h₁ → wpAny (model prog w) ((A₀.deeper (envOf name scope L a cd)).mark (some (.ref e))) (execs (b₀ :: suite) (envOf name scope L a cd)) Q E { s' with heap := h' })
    (hk : scope.kind = .function := by rfl) (hxk : (envOf name scope L a cd).kindOf x = some .globalImplicit := by rfl) (hd : (x == ("__debug__" : Str)) = false := by decide)
    (hE : PassesOwnAt (model prog w) ((A₀.deeper (envOf name scope L a cd)).mark (some (.ref e))) (A₀.deeper (envOf name scope L a cd)) (envOf name scope L a cd) E := by passes_own) :
    wpAny (model prog w) (A₀.deeper (envOf name scope L a cd)) (handleBy (.ref e) (envOf name scope L a cd) (.ExceptHandler (some (.Name x np)) none (b₀ :: suite) pos :: rest)) Q E s' := by
  refine wpAny_handleBy_cons (clause_test (nm := none) (bd := b₀ :: suite) K F u R X T hn hcd hm hcd' hm' hT hb ?_ hk hxk hd) (by intro q; cases q)
  obtain ⟨B, hB, hl, hx⟩ := R
  refine codeAny_handlers_suite (fly_flight hx fun h₂ x₂ u₂ => ?_)
  obtain ⟨h₁, t0, TB, K₁, F₁, N₁, Kp⟩ := rebaseK K F (u.trans u₂) ⟨B, hB, hl, x₂⟩ rfl
  exact wpAny_passesOwnAt hE (k h₁ h₂ t0 TB K₁ F₁ N₁ Kp)

theorem clause_hit_asK {n : Str} (K : Below A₀ base outer h₀) (F : Fr h₀ L h m) (u : h.UpToSlots s'.heap) (R : FlyK base (envOf name scope L a cd :: outer) e (.ref C) dx cx news s'.heap) (X : KF.In base) (T : TopRead p loose mg mb base)
    (hn : nsIn KF mainGlobals x = some (some (.ref C'))) (hcd : clsIn KF C = some kd) (hm : kd.mro = excMro C) (hcd' : clsIn KF C' = some kd') (hm' : kd'.mro = excMro C') (hT : typeIn KF (.ref C') = some (.type "type")) (hb : (excMro C).contains (.ref C') = true)
    (k : ∀ h₁ h' t0 TB tk, Below A₀ base outer h₁ → Fr h₁ L h' (fun y => if y = n then some (.ref e) else m y) → News h₁ L h' ((e, excO (.ref C) (some dx) t0 (.ref TB) cx) :: news) → Keeps outer h₀ h₁ →
      wpAny (model prog w) ((A₀.deeper (envOf name scope L a cd)).mark (some (.ref e))) (execs (b₀ :: suite) (envOf name scope L a cd))
        (fun f s₄ => wpAny (model prog w) (A₀.deeper (envOf name scope L a cd)) (do bindName (envOf name scope L a cd) n .none; unbindBehindTheSuite (envOf name scope L a cd) n pos) (fun _ s₅ => Q f s₅) E s₄)
        (AsSuiteRaised (model prog w) ((A₀.deeper (envOf name scope L a cd)).mark (some (.ref e))) (envOf name scope L a cd) n pos (notedBy (model prog w) ((A₀.deeper (envOf name scope L a cd)).mark (some (.ref e))) (envOf name scope L a cd) (cameBackBy (model prog w) (A₀.deeper (envOf name scope L a cd)) (envOf name scope L a cd) E)))
        { s' with heap := h', toks := tk })
    (hk : scope.kind = .function := by rfl) (hxk : (envOf name scope L a cd).kindOf x = some .globalImplicit := by rfl) (hd : (x == ("__debug__" : Str)) = false := by decide) (hlo : (envOf name scope L a cd).kindOf n = some .local := by rfl) :
    wpAny (model prog w) (A₀.deeper (envOf name scope L a cd)) (handleBy (.ref e) (envOf name scope L a cd) (.ExceptHandler (some (.Name x np)) (some n) (b₀ :: suite) pos :: rest)) Q E s' := by
  refine wpAny_handleBy_cons (clause_test (nm := some n) (bd := b₀ :: suite) K F u R X T hn hcd hm hcd' hm' hT hb ?_ hk hxk hd) (by intro q; cases q)
  obtain ⟨B, hB, hl, hx⟩ := R
  refine codeAny_handlers_suite_as (fly_flight hx fun h₂ x₂ u₂ => ?_)
  obtain ⟨h₁, t0, TB, K₁, F₁, N₁, Kp⟩ := rebaseK K F (u.trans u₂) ⟨B, hB, hl, x₂⟩ rfl
  exact stN (s := { s' with heap := h₂ }) F₁ N₁ (fun h₃ F₃ N₃ => k h₁ h₃ t0 TB _ K₁ F₃ N₃ Kp) hk hlo
end

inductive HR where
  | done (t : Tab) (a : Int)
  | bad (t : Tab)
  | stuck
/-- hear's loop -/
noncomputable def hearA (ks : List Int) : Nat → Tab → Int → HR
  | 0, _, _ => .stuck
  | n + 1, t, a =>
    if (ks.length : Int) ≤ a then .done t a else
    match chg ks a with
    | .short => .done t a
    | .wrong => .bad t
    | .ok c a' => match obeyA t c with
      | .ok t' => hearA ks n t' a'
      | .bad => .bad t
      | .stuck => .stuck

/-- a contract whose def catches what it may: the frames below have changed -/
noncomputable def SpecH (w : World) (mean : ExcName → Option Value) (mg mb : Str → Option Value) (f : Addr) (nd : Nat) (args : List Value) (news : List (Addr × Obj)) (Ok : Value → List (Addr × Obj) → Prop) (Bad : Addr → Addr → List (Addr × Obj) → Prop) : Prop :=
  ∀ (dp un : Nat) (gd : Option (List Code)) (cn : Str) (cs : Scope) (a : Addr) (ccd : Value) (cl : List (Str × Addr)) (outer : List Env) (A₀ : Around) (base h₀ : Heap) (L : Addr) (m : Str → Option Value) (s : Shared) (Q E : Value → Shared → Prop),
    Below A₀ base outer h₀ → Fr h₀ L s.heap m → (hd.heap_39 w.params).In h₀ → News h₀ L s.heap news → Top hd.view_39 (looseW hd.view_39 [Str.ofString "GREATEST", Str.ofString "STATIC_ROWS"]) mean mg mb h₀ →
    (hd.heap_39 w.params).In base → Top hd.view_39 (looseW hd.view_39 [Str.ofString "GREATEST", Str.ofString "STATIC_ROWS"]) mean mg mb base → cs.kind = .function →
    dp + nd < recursionLimit → un + 16 * nd < cLine →
    (∀ r news' h₁ h' tk', Below A₀ base outer h₁ → Fr h₁ L h' m → News h₁ L h' news' → Keeps outer h₀ h₁ → Ok r news' → Q r { s with heap := h', toks := tk' }) →
    (∀ h₁ g e C dx cx news' h' tk', Below A₀ base outer h₁ → Fr h₁ L g m → Keeps outer h₀ h₁ → g.UpToSlots h' → FlyK base (envX cn cs L a ccd cl :: outer) e (.ref C) dx cx news' h' → Bad C dx news' → E (.ref e) { s with heap := h', toks := tk' }) →
    wpAny (model PySem.Challenge.rw_tk0103_01.row.prog w) (ktrTop dp un gd cn cs L a ccd cl outer) (call (.ref f) args) Q E s

/-! ## PLaw -/

theorem getD_app {ks x : List Int} {i : Nat} (h : i < ks.length) : (ks ++ x).getD i 0 = ks.getD i 0 := by
  rw [List.getD_eq_getElem?_getD, List.getD_eq_getElem?_getD, List.getElem?_append_left h]
theorem getD_pre {pre ks : List Int} {a : Int} (h : 0 ≤ a) : (pre ++ ks).getD ((pre.length : Int) + a).toNat 0 = ks.getD a.toNat 0 := by
  rw [Int.toNat_add (Int.natCast_nonneg _) h, Int.toNat_natCast, List.getD_eq_getElem?_getD, List.getD_eq_getElem?_getD, List.getElem?_append_right (Nat.le_add_right _ _), Nat.add_sub_cancel_left]
-- what is known stays known when more octets come
theorem loop_mono {ks x : List Int} : ∀ {n : Nat} {a f sh : Int}, 0 ≤ a → pfxLoop ks n a f sh ≠ .short → pfxLoop (ks ++ x) n a f sh = pfxLoop ks n a f sh
  | 0, _, _, _, _, h => absurd rfl h
  | n + 1, a, f, sh, h0, h => by
    unfold pfxLoop at h ⊢
    by_cases c : (ks.length : Int) ≤ a
    · rw [if_pos c] at h; exact absurd rfl h
    · rw [if_neg c] at h ⊢
      rw [if_neg (by rw [List.length_append]; omega), getD_app (by omega)]
      split
      · rfl
      · rename_i c2
        rw [if_neg c2] at h
        split
        · rfl
        · rename_i c3
          rw [if_neg c3] at h
          exact loop_mono (by omega) h
theorem pfx_mono {ks x : List Int} {a b : Int} (h0 : 0 ≤ a) (h : pfx ks a b ≠ .short) : pfx (ks ++ x) a b = pfx ks a b := by
  unfold pfx at h ⊢
  by_cases c : (ks.length : Int) ≤ a
  · rw [if_pos c] at h; exact absurd rfl h
  · rw [if_neg c] at h ⊢
    rw [if_neg (by rw [List.length_append]; omega), getD_app (by omega)]
    split
    · rfl
    · rename_i c2
      rw [if_neg c2] at h
      exact loop_mono (by omega) h
theorem txt_mono {ks x : List Int} {a b : Int} (hb : b = 5 ∨ b = 6 ∨ b = 7) (h0 : 0 ≤ a) (h : txt ks a b ≠ .short) : txt (ks ++ x) a b = txt ks a b := by
  unfold txt at h ⊢
  by_cases c : (ks.length : Int) ≤ a
  · have e : pfx ks a b = .short := by unfold pfx; rw [if_pos c]
    rw [if_neg (by omega), e] at h; exact absurd rfl h
  · have hl : a < ((ks ++ x).length : Int) := by rw [List.length_append]; omega
    rw [getD_app (by omega)]
    by_cases q : ks.getD a.toNat 0 / 2 ^ b.toNat % 2 = 1
    · rw [if_pos ⟨hl, q⟩, if_pos ⟨by omega, q⟩]
    · rw [if_neg (fun z => q z.2)] at h
      rw [if_neg (fun z => q z.2), if_neg (fun z => q z.2)]
      cases e : pfx ks a b with
      | short => rw [e] at h; exact absurd rfl h
      | wrong => rw [pfx_mono h0 (by rw [e]; intro z; cases z), e]
      | ok n a' =>
        have hbd := pfx_bounds hb e
        rw [pfx_mono h0 (by rw [e]; intro z; cases z), e]
        rw [e] at h
        dsimp only at h ⊢
        by_cases q2 : a' + n > (ks.length : Int)
        · rw [if_pos q2] at h; exact absurd rfl h
        · rw [if_neg q2, if_neg (by rw [List.length_append]; omega)]
          congr 1
          rw [List.drop_append_of_le_length (by omega), List.take_append_of_le_length (by rw [List.length_drop]; omega)]
theorem chg_mono {ks x : List Int} {a : Int} (h0 : 0 ≤ a) (h1 : a < ks.length) (h : chg ks a ≠ .short) : chg (ks ++ x) a = chg ks a := by
  unfold chg at h ⊢
  rw [getD_app (by omega)]
  split
  · rename_i c
    rw [if_pos c] at h
    cases e : pfx ks a 6 with
    | short => rw [e] at h; exact absurd rfl h
    | wrong => rw [pfx_mono h0 (by rw [e]; intro z; cases z), e]
    | ok n a1 =>
      have hbd := pfx_bounds (by omega) e
      rw [pfx_mono h0 (by rw [e]; intro z; cases z), e]
      rw [e] at h
      dsimp only at h ⊢
      rw [txt_mono (by omega) (by omega) (by intro z; rw [z] at h; exact absurd rfl h)]
  · rename_i c
    rw [if_neg c] at h
    split
    · rename_i c2
      rw [if_pos c2] at h
      cases e : txt ks a 5 with
      | short => rw [e] at h; exact absurd rfl h
      | wrong => rw [txt_mono (by omega) h0 (by rw [e]; intro z; cases z), e]
      | ok n a1 =>
        have hbd := txt_bounds (by omega) h0 e
        rw [txt_mono (by omega) h0 (by rw [e]; intro z; cases z), e]
        rw [e] at h
        dsimp only at h ⊢
        rw [txt_mono (by omega) (by omega) (by intro z; rw [z] at h; exact absurd rfl h)]
    · rename_i c2
      rw [if_neg c2] at h
      rw [pfx_mono h0 (by intro z; rw [z] at h; exact absurd rfl h)]
-- octets ahead
noncomputable def PR.sh (k : Int) : PR → PR
  | .short => .short
  | .wrong => .wrong
  | .ok n a => .ok n (k + a)
noncomputable def TR.sh (k : Int) : TR → TR
  | .short => .short
  | .wrong => .wrong
  | .ok n a => .ok n (k + a)
noncomputable def CR.sh (k : Int) : CR → CR
  | .short => .short
  | .wrong => .wrong
  | .ok n a => .ok n (k + a)
noncomputable def HR.sh (k : Int) : HR → HR
  | .done t a => .done t (k + a)
  | .bad t => .bad t
  | .stuck => .stuck
theorem len_pre (pre ks : List Int) (a : Int) : (((pre ++ ks).length : Int) ≤ pre.length + a) ↔ ((ks.length : Int) ≤ a) := by
  rw [List.length_append]; omega
theorem loop_sh {pre ks : List Int} : ∀ {n : Nat} {a f sh : Int}, 0 ≤ a → pfxLoop (pre ++ ks) n (pre.length + a) f sh = (pfxLoop ks n a f sh).sh pre.length
  | 0, _, _, _, _ => rfl
  | n + 1, a, f, sh, h0 => by
    unfold pfxLoop
    rw [getD_pre h0]
    simp only [len_pre]
    split
    · rfl
    · split
      · rfl
      · split
        · simp only [PR.sh]; congr 1; omega
        · rw [Int.add_assoc]; exact loop_sh (by omega)
theorem pfx_sh {pre ks : List Int} {a b : Int} (h0 : 0 ≤ a) : pfx (pre ++ ks) (pre.length + a) b = (pfx ks a b).sh pre.length := by
  unfold pfx
  rw [getD_pre h0]
  simp only [len_pre]
  split
  · rfl
  · split
    · simp only [PR.sh]; congr 1; omega
    · rw [Int.add_assoc]; exact loop_sh (by omega)
theorem txt_sh {pre ks : List Int} {a b : Int} (hb : b = 5 ∨ b = 6 ∨ b = 7) (h0 : 0 ≤ a) : txt (pre ++ ks) (pre.length + a) b = (txt ks a b).sh pre.length := by
  unfold txt
  have e1 : ((pre.length : Int) + a < ((pre ++ ks).length : Int)) ↔ (a < (ks.length : Int)) := by rw [List.length_append]; omega
  rw [getD_pre h0, pfx_sh h0]
  simp only [e1]
  split
  · rfl
  · cases e : pfx ks a b with
    | short => rfl
    | wrong => rfl
    | ok n a' =>
      have hbd := pfx_bounds hb e
      simp only [PR.sh]
      have e2 : ((pre.length : Int) + a' + n > ((pre ++ ks).length : Int)) ↔ (a' + n > (ks.length : Int)) := by rw [List.length_append]; omega
      simp only [e2]
      split
      · rfl
      · simp only [TR.sh]
        have e3 : ((pre.length : Int) + a').toNat = pre.length + a'.toNat := by omega
        rw [e3, List.drop_append, List.drop_eq_nil_of_le (by omega), List.nil_append, show pre.length + a'.toNat - pre.length = a'.toNat by omega, Int.add_assoc]
theorem chg_sh {pre ks : List Int} {a : Int} (h0 : 0 ≤ a) : chg (pre ++ ks) (pre.length + a) = (chg ks a).sh pre.length := by
  unfold chg
  rw [getD_pre h0, pfx_sh h0, pfx_sh h0, txt_sh (by omega) h0]
  split
  · cases e : pfx ks a 6 with
    | short => rfl
    | wrong => rfl
    | ok n a1 =>
      have hbd := pfx_bounds (by omega) e
      simp only [PR.sh]
      rw [txt_sh (by omega) (by omega)]
      cases txt ks a1 7 <;> rfl
  · split
    · cases e : txt ks a 5 with
      | short => rfl
      | wrong => rfl
      | ok n a1 =>
        have hbd := txt_bounds (by omega) h0 e
        simp only [TR.sh]
        rw [txt_sh (by omega) (by omega)]
        cases txt ks a1 7 <;> rfl
    · cases pfx ks a 5 <;> rfl
theorem hear_sh {pre ks : List Int} : ∀ {n : Nat} {t : Tab} {a : Int}, 0 ≤ a → hearA (pre ++ ks) n t (pre.length + a) = (hearA ks n t a).sh pre.length
  | 0, _, _, _ => rfl
  | n + 1, t, a, h0 => by
    unfold hearA
    rw [chg_sh h0]
    simp only [len_pre]
    split
    · rfl
    · cases e : chg ks a with
      | short => rfl
      | wrong => rfl
      | ok c a' =>
        have hbd := chg_bounds h0 e
        simp only [CR.sh]
        cases obeyA t c with
        | ok t' => exact hear_sh (by omega)
        | bad => rfl
        | stuck => rfl

/-- the table behind the last step that ends by k -/
noncomputable def atT (t : Tab) : List (Int × Tab) → Int → Tab
  | [], _ => t
  | (e, t') :: r, k => if e ≤ k then atT t' r k else t
/-- what bars a word: m octets tell it -/
noncomputable def Bars (t : Tab) (w : List Int) (m : Nat) : Prop :=
  1 ≤ m ∧ m ≤ w.length ∧ (chg (w.take m) 0 = .wrong ∨ ∃ c a, chg (w.take m) 0 = .ok c a ∧ obeyA t c = .bad) ∧ chg (w.take (m - 1)) 0 = .short
noncomputable def Word (t : Tab) (w : List Int) (t' : Tab) : Prop :=
  w ≠ [] ∧ chg w.dropLast 0 = .short ∧ ∃ c, chg w 0 = .ok c w.length ∧ obeyA t c = .ok t' ∧ ChOk c
inductive Strm : Int → Tab → List Int → List (Int × Tab) → Option Int → Prop
  | nil {o t} : Strm o t [] [] none
  | word {o t w t' S steps stop} : Word t w t' → Strm (o + w.length) t' S steps stop → Strm o t (w ++ S) ((o + w.length, t') :: steps) stop
  | bars {o t w m} : Bars t w m → Strm o t w [] (some (o + m))

theorem chg_nil : chg [] 0 = .short := rfl
theorem chg_take {ks : List Int} {i j : Nat} (h : i ≤ j) (e : chg (ks.take j) 0 = .short) : chg (ks.take i) 0 = .short := by
  by_cases c : chg (ks.take i) 0 = .short
  · exact c
  · by_cases z : (ks.take i).length = 0
    · rw [List.length_eq_zero_iff.mp z]; rfl
    · have := chg_mono (ks := ks.take i) (x := (ks.drop i).take (j - i)) (a := 0) (Int.le_refl _) (by omega) c
      have e2 : ks.take i ++ (ks.drop i).take (j - i) = ks.take j := by
        rw [← List.take_add]; congr 1; omega
      rw [e2, e] at this
      exact this.symm
theorem Word.short {t t' : Tab} {w : List Int} (h : Word t w t') {k : Nat} (hk : k < w.length) : chg (w.take k) 0 = .short := by
  have := h.2.1
  rw [List.dropLast_eq_take] at this
  exact chg_take (by omega) this
theorem Word.whole {t t' : Tab} {w x : List Int} (h : Word t w t') : ∃ c, chg (w ++ x) 0 = .ok c w.length ∧ obeyA t c = .ok t' ∧ ChOk c := by
  obtain ⟨h1, h2, c, h3, h4, h5⟩ := h
  have := List.length_pos_iff.mpr h1
  exact ⟨c, (chg_mono (Int.le_refl _) (by omega) (by rw [h3]; intro z; cases z)).trans h3, h4, h5⟩
theorem Strm.lt {o : Int} {t : Tab} {S : List Int} {steps : List (Int × Tab)} {stop : Option Int} (h : Strm o t S steps stop) : ∀ sp, stop = some sp → o < sp := by
  induction h with
  | nil => intro sp q; cases q
  | word hw hs ih => intro sp q; have := ih sp q; omega
  | bars hb => intro sp q; cases q; have := hb.1; omega
theorem Strm.ends {o : Int} {t : Tab} {S : List Int} {steps : List (Int × Tab)} {stop : Option Int} (h : Strm o t S steps stop) : ∀ p ∈ steps, o < p.1 := by
  induction h with
  | nil => intro p q; cases q
  | word hw hs ih =>
    have := List.length_pos_iff.mpr hw.1
    intro p q
    rcases List.mem_cons.mp q with rfl | q
    · dsimp only; omega
    · have := ih p q; omega
  | bars hb => intro p q; cases q
theorem Strm.len {o : Int} {t : Tab} {S : List Int} {steps : List (Int × Tab)} {stop : Option Int} (h : Strm o t S steps stop) : steps.length ≤ S.length := by
  induction h with
  | nil => exact Nat.le_refl _
  | word hw hs ih =>
    have := List.length_pos_iff.mpr hw.1
    rw [List.length_append, List.length_cons]; omega
  | bars hb => exact Nat.zero_le _

/-- hear, of the first k octets of a stream -/
theorem Strm.hear {o : Int} {t : Tab} {S : List Int} {steps : List (Int × Tab)} {stop : Option Int} (h : Strm o t S steps stop) : ∀ (n k : Nat), steps.length < n → k ≤ S.length →
    ((∀ sp, stop = some sp → o + k < sp) → ∃ a : Nat, ∃ steps', hearA (S.take k) n t 0 = .done (atT t steps (o + k)) a ∧ a ≤ k ∧ Strm (o + a) (atT t steps (o + k)) (S.drop a) steps' stop ∧ ∀ k' : Int, o + k ≤ k' → atT t steps k' = atT (atT t steps (o + k)) steps' k') ∧
    ((∃ sp, stop = some sp ∧ sp ≤ o + k) → hearA (S.take k) n t 0 = .bad (atT t steps (o + k))) := by
  induction h with
  | nil =>
    intro n k hn hk
    obtain ⟨n, rfl⟩ : ∃ m, n = m + 1 := ⟨n - 1, by omega⟩
    refine ⟨fun _ => ⟨0, [], ?_, Nat.zero_le _, ?_, fun _ _ => rfl⟩, fun ⟨sp, q, _⟩ => (by cases q)⟩
    · rw [List.take_nil]; rfl
    · exact Strm.nil
  | @word o t w t' S steps stop hw hs ih =>
    intro n k hn hk
    obtain ⟨n, rfl⟩ : ∃ m, n = m + 1 := ⟨n - 1, by omega⟩
    have hwl := List.length_pos_iff.mpr hw.1
    rw [List.length_append] at hk
    by_cases c : k < w.length
    · have e1 : (w ++ S).take k = w.take k := List.take_append_of_le_length (by omega)
      have e2 : atT t ((o + w.length, t') :: steps) (o + k) = t := by simp only [atT]; rw [if_neg (by omega)]
      rw [e1, e2]
      refine ⟨fun _ => ⟨0, (o + w.length, t') :: steps, ?_, Nat.zero_le _, ?_, fun _ _ => rfl⟩, fun ⟨sp, q, q2⟩ => ?_⟩
      · unfold hearA
        split
        · rfl
        · rw [hw.short c]; rfl
      · rw [List.drop_zero, show o + ((0 : Nat) : Int) = o by omega]; exact Strm.word hw hs
      · have := hs.lt sp q; omega
    · have e1 : (w ++ S).take k = w ++ S.take (k - w.length) := by rw [List.take_append, List.take_of_length_le (by omega)]
      have e2 : atT t ((o + w.length, t') :: steps) (o + k) = atT t' steps (o + w.length + ((k - w.length : Nat) : Int)) := by
        simp only [atT]; rw [if_pos (by omega)]; congr 1; omega
      obtain ⟨cc, q1, q2, q3⟩ := hw.whole (x := S.take (k - w.length))
      have e3 : hearA (w ++ S.take (k - w.length)) (n + 1) t 0 = (hearA (S.take (k - w.length)) n t' 0).sh w.length := by
        conv => lhs; unfold hearA
        rw [if_neg (by rw [List.length_append]; omega), q1]
        dsimp only
        rw [q2]
        have := hear_sh (pre := w) (ks := S.take (k - w.length)) (n := n) (t := t') (a := 0) (Int.le_refl _)
        rw [Int.add_zero] at this
        exact this
      obtain ⟨i1, i2⟩ := ih n (k - w.length) (by simp only [List.length_cons] at hn; omega) (by omega)
      rw [e1, e2, e3]
      refine ⟨fun hq => ?_, fun ⟨sp, q, q'⟩ => ?_⟩
      · obtain ⟨a, steps', j1, j2, j3, j4⟩ := i1 fun sp q => by have := hq sp q; omega
        refine ⟨w.length + a, steps', ?_, by omega, ?_, fun k' hk' => ?_⟩
        · rw [j1]; simp only [HR.sh]; congr 1
        · rw [List.drop_append, List.drop_eq_nil_of_le (by omega), List.nil_append, show w.length + a - w.length = a by omega]
          rw [show o + ((w.length + a : Nat) : Int) = o + w.length + a by omega]; exact j3
        · rw [← j4 k' (by omega)]; simp only [atT]; rw [if_pos (by omega)]
      · rw [i2 ⟨sp, q, by omega⟩]; rfl
  | @bars o t w m hb =>
    intro n k hn hk
    obtain ⟨n, rfl⟩ : ∃ m, n = m + 1 := ⟨n - 1, by omega⟩
    obtain ⟨b1, b2, b3, b4⟩ := hb
    refine ⟨fun hq => ?_, fun ⟨sp, q, q'⟩ => ?_⟩
    · have := hq _ rfl
      refine ⟨0, [], ?_, Nat.zero_le _, ?_, fun _ _ => rfl⟩
      · unfold hearA
        split
        · rfl
        · rw [chg_take (by omega) b4]; rfl
      · rw [List.drop_zero, show o + ((0 : Nat) : Int) = o by omega]; exact Strm.bars ⟨b1, b2, b3, b4⟩
    · cases q
      have e1 : w.take k = w.take m ++ (w.drop m).take (k - m) := by rw [← List.take_add]; congr 1; omega
      have hl : (w.take m).length = m := by rw [List.length_take]; omega
      have hl2 : ¬ ((w.take m ++ (w.drop m).take (k - m)).length : Int) ≤ 0 := by rw [List.length_append]; omega
      rw [e1]
      unfold hearA
      rw [if_neg hl2]
      rcases b3 with b3 | ⟨c, a, b3, b3'⟩
      · rw [chg_mono (Int.le_refl _) (by omega) (by rw [b3]; intro z; cases z), b3]; rfl
      · rw [chg_mono (Int.le_refl _) (by omega) (by rw [b3]; intro z; cases z), b3]
        dsimp only
        rw [b3']; rfl

theorem Strm.ok {o : Int} {t : Tab} {S : List Int} {steps : List (Int × Tab)} {stop : Option Int} (h : Strm o t S steps stop) : t.Ok → ∀ k, (atT t steps k).Ok ∧ (atT t steps k).ins ≤ t.ins + steps.length := by
  induction h with
  | nil => intro hk k; exact ⟨hk, by simp [atT]⟩
  | @word o t w t' S steps stop hw hs ih =>
    intro hk k
    obtain ⟨h1, h2, c, h3, h4, h5⟩ := hw
    obtain ⟨o1, o2⟩ := obeyA_ok hk h5 h4
    obtain ⟨i1, i2⟩ := ih o1 k
    simp only [atT, List.length_cons]
    split
    · exact ⟨i1, by omega⟩
    · exact ⟨hk, by omega⟩
  | bars hb => intro hk k; exact ⟨hk, by simp [atT]⟩
/-- the law's own look: the last of those that end by k -/
theorem Strm.look {o : Int} {t : Tab} {S : List Int} {steps : List (Int × Tab)} {stop : Option Int} (h : Strm o t S steps stop) : ∀ k, o ≤ k → (((o, t) :: steps).filter fun p => decide (p.1 ≤ k)).getLast? = some ((((o, t) :: steps).filter fun p => decide (p.1 ≤ k)).getLastD (o, t)) ∧ ((((o, t) :: steps).filter fun p => decide (p.1 ≤ k)).getLastD (o, t)).2 = atT t steps k := by
  induction h with
  | nil =>
    intro k hk
    rw [List.filter_cons_of_pos (by simpa using hk)]
    exact ⟨rfl, rfl⟩
  | @word o t w t' S steps stop hw hs ih =>
    intro k hk
    rw [List.filter_cons_of_pos (by simpa using hk)]
    by_cases c : o + w.length ≤ k
    · obtain ⟨i1, i2⟩ := ih k c
      rw [List.filter_cons_of_pos (by simpa using c)] at i1 i2 ⊢
      simp only [atT]
      rw [if_pos c]
      exact ⟨rfl, i2⟩
    · have e : ((o + ↑w.length, t') :: steps).filter (fun p => decide (p.1 ≤ k)) = [] := by
        rw [List.filter_eq_nil_iff]
        intro p hp
        have hlt : o + w.length ≤ p.1 := by
          rcases List.mem_cons.mp hp with rfl | hp
          · exact Int.le_refl _
          · have := hs.ends p hp; omega
        simp; omega
      rw [e]
      simp only [atT]
      rw [if_neg c]
      exact ⟨rfl, rfl⟩
  | bars hb =>
    intro k hk
    rw [List.filter_cons_of_pos (by simpa using hk)]
    exact ⟨rfl, rfl⟩

/-! ## PLaw2 -/

noncomputable def IsVal (v : List Int) : Prop := v = [] ∨ v = [118] ∨ v = [118, 119]
noncomputable def IsKey (k : List Int) : Prop := k = [] ∨ k = [107] ∨ k = [107, 108]
noncomputable def StatIs (i : Int) (k : List Int) : Prop := (i = 1 ∧ k = [58, 112, 97, 116, 104]) ∨ (i = 2 ∧ k = [97, 103, 101]) ∨ (i = 5 ∧ k = [99, 111, 111, 107, 105, 101])
noncomputable def IsRoom (n : Int) : Prop := n = 40 ∨ n = 75 ∨ n = 110
noncomputable def RowOk (r : Row) : Prop := r.1.length ≤ 6 ∧ IsVal r.2
structure Wok (t : Tab) : Prop where
  ok : t.Ok
  room : IsRoom t.cap
  rows : ∀ r ∈ t.rows, RowOk r
noncomputable def addT (t : Tab) (r : Row) : Tab := ⟨t.cap, (t.rows ++ [r]).drop (fitN t.cap (t.rows ++ [r])), t.ins + 1⟩
noncomputable def capT (t : Tab) (n : Int) : Tab := ⟨n, t.rows.drop (fitN n t.rows), t.ins⟩

theorem IsVal.len {v : List Int} (h : IsVal v) : v.length ≤ 2 := by rcases h with rfl | rfl | rfl <;> decide
theorem IsKey.len {v : List Int} (h : IsKey v) : v.length ≤ 2 := by rcases h with rfl | rfl | rfl <;> decide
theorem StatIs.len {i : Int} {v : List Int} (h : StatIs i v) : v.length ≤ 6 := by rcases h with ⟨_, rfl⟩ | ⟨_, rfl⟩ | ⟨_, rfl⟩ <;> decide
theorem RowOk.sz {r : Row} (h : RowOk r) : rsz r ≤ 40 := by
  have := h.1; have := h.2.len; simp only [rsz]; omega
theorem Wok.len {t : Tab} (h : Wok t) : t.rows.length ≤ 3 := by
  have := tot_len t.rows
  obtain ⟨h1, h2, h3, h4⟩ := h.ok
  have := h.room
  unfold IsRoom at this
  omega
theorem fit_app {r : Row} {cap : Int} (h : rsz r ≤ cap) : ∀ (rs : List Row), fitN cap (rs ++ [r]) = fitN (cap - rsz r) rs
  | [] => by
    have e : tot [r] = rsz r := by simp only [tot]; omega
    exact if_neg (by rw [e]; omega)
  | x :: rs => by
    rw [List.cons_append]
    simp only [fitN]
    rw [← List.cons_append, tot_app, fit_app h rs]
    by_cases c : cap < tot (x :: rs) + rsz r
    · rw [if_pos c, if_pos (by omega)]
    · rw [if_neg c, if_neg (by omega)]
theorem put_eq {t : Tab} {r : Row} (h : Wok t) (hr : RowOk r) : putA t r = .ok (addT t r) := by
  have h1 := hr.sz
  have h2 := h.room
  unfold IsRoom at h2
  have h3 : rsz r ≤ t.cap := by omega
  unfold putA addT
  rw [if_neg (by omega), fit_app h3, List.drop_append_of_le_length (fitN_le _ _)]
theorem addT_ok {t : Tab} {r : Row} (h : Wok t) (hr : RowOk r) : Wok (addT t r) := by
  obtain ⟨o1, o2⟩ := putA_ok h.ok (put_eq h hr)
  refine ⟨o1, h.room, fun x hx => ?_⟩
  have := List.mem_of_mem_drop hx
  rcases List.mem_append.mp this with q | q
  · exact h.rows x q
  · rw [List.mem_singleton.mp q]; exact hr
theorem capT_ok {t : Tab} {n : Int} (h : t.Ok) (hw : ∀ r ∈ t.rows, RowOk r) (hn : IsRoom n) : Wok (capT t n) := by
  have hn' := hn
  unfold IsRoom at hn'
  obtain ⟨o1, o2⟩ := obeyA_ok (t := t) (t' := capT t n) (c := .cap n) h (show 0 ≤ n by omega) (if_neg (by omega))
  exact ⟨o1, hn, fun x hx => hw x (List.mem_of_mem_drop hx)⟩

theorem obey_capT {t : Tab} {n : Int} (h : n ≤ 200) : obeyA t (.cap n) = .ok (capT t n) := by
  simp only [obeyA]; rw [if_neg (by omega)]; rfl
theorem obey_capB {t : Tab} {n : Int} (h : 200 < n) : obeyA t (.cap n) = .bad := by
  simp only [obeyA]; rw [if_pos h]
theorem word_cap {t : Tab} {n : Int} (hn : IsRoom n) : Word t [63, n - 31] (capT t n) := by
  rcases hn with rfl | rfl | rfl
  · exact ⟨by simp, rfl, .cap 40, rfl, obey_capT (by decide), (show (0 : Int) ≤ 40 by decide)⟩
  · exact ⟨by simp, rfl, .cap 75, rfl, obey_capT (by decide), (show (0 : Int) ≤ 75 by decide)⟩
  · exact ⟨by simp, rfl, .cap 110, rfl, obey_capT (by decide), (show (0 : Int) ≤ 110 by decide)⟩
theorem word_stat {t : Tab} {i : Int} {k v : List Int} (h : Wok t) (hs : StatIs i k) (hv : IsVal v) : Word t ([192 + i] ++ ([(v.length : Int)] ++ v)) (addT t (k, v)) := by
  have hp := put_eq h (r := (k, v)) ⟨hs.len, hv⟩
  refine ⟨by simp, ?_, .stat i v, ?_, ?_, trivial⟩
  · rcases hs with ⟨rfl, rfl⟩ | ⟨rfl, rfl⟩ | ⟨rfl, rfl⟩ <;> rcases hv with rfl | rfl | rfl <;> rfl
  · rcases hs with ⟨rfl, rfl⟩ | ⟨rfl, rfl⟩ | ⟨rfl, rfl⟩ <;> rcases hv with rfl | rfl | rfl <;> rfl
  · rcases hs with ⟨rfl, rfl⟩ | ⟨rfl, rfl⟩ | ⟨rfl, rfl⟩ <;> exact hp
theorem word_lit {t : Tab} {k v : List Int} (h : Wok t) (hk : IsKey k) (hv : IsVal v) : Word t ([64 + (k.length : Int)] ++ k ++ ([(v.length : Int)] ++ v)) (addT t (k, v)) := by
  have hp := put_eq h (r := (k, v)) ⟨Nat.le_trans hk.len (by decide), hv⟩
  refine ⟨by simp, ?_, .lit k v, ?_, hp, trivial⟩
  · rcases hk with rfl | rfl | rfl <;> rcases hv with rfl | rfl | rfl <;> rfl
  · rcases hk with rfl | rfl | rfl <;> rcases hv with rfl | rfl | rfl <;> rfl
theorem rowA_of {t : Tab} {b : Int} {r : Row} (h0 : 0 ≤ b) (h1 : b < t.rows.length) (hr : t.rows[((t.rows.length : Int) - 1 - b).toNat]? = some r) : rowA t b = some r := by
  unfold rowA; rw [if_neg (by omega)]; exact hr
theorem small3 {b : Int} (h0 : 0 ≤ b) (h1 : b < 3) : b = 0 ∨ b = 1 ∨ b = 2 := by omega
theorem word_dyn {t : Tab} {b : Int} {k e v : List Int} (h : Wok t) (h0 : 0 ≤ b) (h1 : b < t.rows.length) (hr : t.rows[((t.rows.length : Int) - 1 - b).toNat]? = some (k, e)) (hv : IsVal v) : Word t ([128 + b] ++ ([(v.length : Int)] ++ v)) (addT t (k, v)) := by
  have hm := h.rows _ (List.mem_of_getElem? hr)
  have hp := put_eq h (r := (k, v)) ⟨hm.1, hv⟩
  have hl := h.len
  refine ⟨by simp, ?_, .dyn b v, ?_, ?_, trivial⟩
  · rcases small3 h0 (by omega) with rfl | rfl | rfl <;> rcases hv with rfl | rfl | rfl <;> rfl
  · rcases small3 h0 (by omega) with rfl | rfl | rfl <;> rcases hv with rfl | rfl | rfl <;> rfl
  · simp only [obeyA]; rw [rowA_of h0 h1 hr]; exact hp
theorem word_dup {t : Tab} {b : Int} {k e : List Int} (h : Wok t) (h0 : 0 ≤ b) (h1 : b < t.rows.length) (hr : t.rows[((t.rows.length : Int) - 1 - b).toNat]? = some (k, e)) : Word t [b] (addT t (k, e)) := by
  have hm := h.rows _ (List.mem_of_getElem? hr)
  have hp := put_eq h (r := (k, e)) hm
  have hl := h.len
  refine ⟨by simp, rfl, .dup b, ?_, ?_, trivial⟩
  · rcases small3 h0 (by omega) with rfl | rfl | rfl <;> rfl
  · simp only [obeyA]; rw [rowA_of h0 h1 hr]; exact hp

theorem Bars.app {t : Tab} {w x : List Int} {m : Nat} (h : Bars t w m) : Bars t (w ++ x) m := by
  obtain ⟨h1, h2, h3, h4⟩ := h
  refine ⟨h1, by rw [List.length_append]; omega, ?_, ?_⟩
  · rw [List.take_append_of_le_length h2]; exact h3
  · rw [List.take_append_of_le_length (by omega)]; exact h4
theorem rowA_no {t : Tab} {b : Int} (h1 : (t.rows.length : Int) ≤ b) : rowA t b = none := if_pos h1
theorem bars0 {t : Tab} : Bars t [98, 107, 107, 0] 1 := ⟨by decide, by decide, .inl rfl, rfl⟩
theorem bars1 {t : Tab} : Bars t [193, 129, 118] 2 := ⟨by decide, by decide, .inl rfl, rfl⟩
theorem bars2 {t : Tab} : Bars t ([63] ++ List.replicate 9 255) 10 := ⟨by decide, by decide, .inl rfl, rfl⟩
theorem bars3 {t : Tab} : Bars t ([63] ++ List.replicate 11 128) 11 := ⟨by decide, by decide, .inl rfl, rfl⟩
theorem bars4 {t : Tab} : Bars t [63, 170, 1] 3 := ⟨by decide, by decide, .inr ⟨.cap 201, 3, rfl, obey_capB (by decide)⟩, rfl⟩
theorem bars7 {t : Tab} : Bars t [255, 36, 1, 118] 4 := ⟨by decide, by decide, .inr ⟨.stat 99 [118], 4, rfl, rfl⟩, rfl⟩
theorem len4 {n : Nat} (h : n ≤ 3) : n = 0 ∨ n = 1 ∨ n = 2 ∨ n = 3 := by omega
theorem bars5 {t : Tab} (h : Wok t) : Bars t [(t.rows.length : Int)] 1 := by
  refine ⟨by decide, Nat.le_refl _, .inr ⟨.dup t.rows.length, 1, ?_, ?_⟩, rfl⟩
  · rcases len4 h.len with e | e | e | e <;> rw [e] <;> rfl
  · simp only [obeyA]; rw [rowA_no (Int.le_refl _)]
theorem bars6 {t : Tab} (h : Wok t) : Bars t [128 + (t.rows.length : Int), 1, 118] 3 := by
  refine ⟨by decide, Nat.le_refl _, .inr ⟨.dyn t.rows.length [118], 3, ?_, ?_⟩, ?_⟩
  · rcases len4 h.len with e | e | e | e <;> rw [e] <;> rfl
  · simp only [obeyA]; rw [rowA_no (Int.le_refl _)]
  · rcases len4 h.len with e | e | e | e <;> rw [e] <;> rfl
theorem bars8a {n : Int} {z : List Int} (h : IsRoom n) (hz : z = List.replicate (n - 32).toNat 0) : chg ([65, 107] ++ ([(z.length : Int)] ++ z)) 0 = .ok (.lit [107] z) (n - 29) ∧ chg (([65, 107] ++ ([(z.length : Int)] ++ z)).take ((n - 29).toNat - 1)) 0 = .short := by
  subst hz
  rcases h with rfl | rfl | rfl <;> exact ⟨rfl, rfl⟩
theorem bars8 {t : Tab} {z : List Int} (h : Wok t) (hz : z = List.replicate (t.cap - 32).toNat 0) : Bars t ([65, 107] ++ ([(z.length : Int)] ++ z)) ([65, 107] ++ ([(z.length : Int)] ++ z)).length := by
  have hb := bars8a h.room hz
  have hr := h.room
  unfold IsRoom at hr
  have hl : z.length = (t.cap - 32).toNat := by rw [hz, List.length_replicate]
  have hL : ([65, 107] ++ ([(z.length : Int)] ++ z)).length = (t.cap - 29).toNat := by
    simp only [List.length_append, List.length_cons, List.length_nil]
    rcases hr with e | e | e <;> (rw [hl, e]; rfl)
  refine ⟨by rw [hL]; rcases hr with e | e | e <;> (rw [e]; decide), Nat.le_refl _, .inr ⟨.lit [107] z, t.cap - 29, ?_, ?_⟩, ?_⟩
  · rw [List.take_length]; exact hb.1
  · exact if_pos (by simp only [rsz, List.length_cons, List.length_nil]; rw [hl]; rcases hr with e | e | e <;> (rw [e]; decide))
  · rw [hL]; exact hb.2

/-! ## PLaw3 -/
noncomputable abbrev t00 : Tab := ⟨0, [], 0⟩
/-- what a decoder that has heard the first k octets holds -/
structure HD (S : List Int) (steps : List (Int × Tab)) (stop : Option Int) (a k : Nat) (t : Tab) (st : List (Int × Tab)) (left : List Int) : Prop where
  strm : Strm (a : Int) t (S.drop a) st stop
  left : left = (S.drop a).take (k - a)
  ak : a ≤ k
  kS : k ≤ S.length
  chain : ∀ k' : Int, (k : Int) ≤ k' → atT t00 steps k' = atT t st k'
  ok : t.Ok
  ins : t.ins ≤ 90
theorem HD.start {S : List Int} {steps : List (Int × Tab)} {stop : Option Int} (h : Strm 0 t00 S steps stop) : HD S steps stop 0 0 t00 steps [] :=
  ⟨h, rfl, Nat.le_refl _, Nat.zero_le _, fun _ _ => rfl, ⟨Int.le_refl 0, by decide, Int.le_refl 0, Int.le_refl 0, Int.le_refl 0⟩, by decide⟩
theorem HD.step {S : List Int} {steps : List (Int × Tab)} {stop : Option Int} {a k : Nat} {t : Tab} {st : List (Int × Tab)} {left p : List Int} (h : HD S steps stop a k t st left) (hS : S.length ≤ 1900) (hk : k + p.length ≤ S.length) (hp : p = (S.drop k).take p.length) (hi : ∀ k', (atT t00 steps k').ins ≤ 90) :
    ((∀ sp, stop = some sp → ((k + p.length : Nat) : Int) < sp) → ∃ (d : Nat) (st' : List (Int × Tab)), hearA (left ++ p) 5000 t 0 = .done (atT t00 steps ((k + p.length : Nat) : Int)) (d : Int) ∧ HD S steps stop (a + d) (k + p.length) (atT t00 steps ((k + p.length : Nat) : Int)) st' ((left ++ p).drop d)) ∧
    ((∃ sp, stop = some sp ∧ sp ≤ ((k + p.length : Nat) : Int)) → hearA (left ++ p) 5000 t 0 = .bad (atT t00 steps ((k + p.length : Nat) : Int))) := by
  obtain ⟨h1, h2, h3, h4, h5, h6, h7⟩ := h
  have hlen : st.length ≤ S.length := by have := h1.len; rw [List.length_drop] at this; omega
  have e : left ++ p = (S.drop a).take (k + p.length - a) := by
    rw [h2, show k + p.length - a = (k - a) + p.length by omega, List.take_add, List.drop_drop, show a + (k - a) = k by omega, ← hp]
  obtain ⟨q1, q2⟩ := h1.hear 5000 (k + p.length - a) (by omega) (by rw [List.length_drop]; omega)
  have ek : (a : Int) + ((k + p.length - a : Nat) : Int) = ((k + p.length : Nat) : Int) := by omega
  have et : atT t st ((a : Int) + ((k + p.length - a : Nat) : Int)) = atT t00 steps ((k + p.length : Nat) : Int) := by rw [ek, h5 _ (by omega)]
  rw [← e] at q1 q2
  rw [et] at q1 q2
  refine ⟨fun hs => ?_, fun hs => q2 (by obtain ⟨sp, hs1, hs2⟩ := hs; exact ⟨sp, hs1, by omega⟩)⟩
  obtain ⟨d, st', r1, r2, r3, r4⟩ := q1 fun sp hsp => by have := hs sp hsp; omega
  refine ⟨d, st', r1, ?_, ?_, by omega, hk, ?_, ?_, ?_⟩
  · rw [← List.drop_drop, show ((a + d : Nat) : Int) = (a : Int) + (d : Int) by omega]; exact r3
  · rw [e, List.drop_take, List.drop_drop, show k + p.length - a - d = k + p.length - (a + d) by omega]
  · intro k' hk'
    rw [h5 k' (by omega)]
    exact r4 k' (by omega)
  · have := (h1.ok h6 ((k + p.length : Nat) : Int)).1
    rw [← h5 _ (by omega)] at this; exact this
  · exact hi _

/-! ## MHear -/

theorem ChB.ok {c : Ch} (h : ChB c) : ChOk c := by cases c <;> first | exact h | exact trivial
theorem chg_ch {ks : List Int} {a a' : Int} {c : Ch} (hl : ks.length ≤ 4096) (h0 : 0 ≤ a) (h : chg ks a = .ok c a') : ChB c := by
  unfold chg at h
  split at h
  · split at h
    · cases h
    · cases h
    · rename_i he
      have := pfx_bounds (by omega) he
      split at h
      · cases h
      · cases h
      · rename_i ht
        have := txt_bounds (by omega) (by omega) ht
        cases h
        split
        · show List.length _ ≤ 4096; omega
        · exact ⟨by omega, by omega⟩
  · split at h
    · split at h
      · cases h
      · cases h
      · rename_i he
        have := txt_bounds (by omega) (by omega) he
        split at h
        · cases h
        · cases h
        · rename_i ht
          have := txt_bounds (by omega) (by omega) ht
          cases h
          exact ⟨by omega, by omega⟩
    · split at h
      · cases h
      · cases h
      · rename_i he
        have := pfx_bounds (by omega) he
        cases h
        split
        · show (0 : Int) ≤ _; omega
        · show (0 : Int) ≤ _; omega
theorem kw_line64 : True := by
  (k_with "my STOPT" => ((walk_at "STOP"; (fail_if_success (with_reducible show wpAny _ _ (exec (Stmt.Try _ _ _ _ _) _) _ _ _)); (fail_if_success (with_reducible show wpAny _ _ (call (Value.ref 110) _) _ _ _)); (fail_if_success (with_reducible show wpAny _ _ (call (Value.ref 343) _) _ _ _)))))
  trivial
theorem kw_line65 : True := by
  (k_with "my GOT" => (repeat' (first | (k_unmd; k_unfold; (try dsimp only)) | (walk_at "STOPT"; walk1) | (dsimp only; walk_at "STOPT"; walk1))))
  trivial
theorem kw_line66 : True := by
  (k_with "my ENTERR" => ((refine' code_defR ?k1_q ?k2_q ?k3_q ?k4_q ?k5_q ?kA_q ?kF_q ?kK_q ?k6_q ?k7_q ?k8_q ?k9_q ?kB_q ?_ ?c2_q ?c3_q ?c4_q ?c5_q; (case kA_q => exact rfl); (case kF_q => exact rfl); (case kK_q => assumption); (case k1_q => k_asm); (case k2_q => k_asm); (case k3_q => k_asm); (case k4_q => k_asm); (case k5_q => k_asm); (case k6_q => k_is); (case k7_q => k_is); (case k8_q => ktr_room); (case k9_q => exact BindsTo.of_eq rfl); (case c5_q => decide); (case kB_q => exact locs rfl); (case c2_q => exact rfl); (case c3_q => exact rfl); (case c4_q => exact rfl); k_whole; intro _ _ _ _ _ _ _ _ _; (try dsimp only); (try k_fold))))
  trivial

theorem exc_inst {h₀ h : Heap} {L x C dx : Addr} {t0 tb cx : Value} {news : List (Addr × Obj)} {od : Obj} (N : News h₀ L h news) (h1 : (x, excO (.ref C) (some dx) t0 tb cx) ∈ news) (h2 : (dx, od) ∈ news) :
    InstAt h x (excO (.ref C) (some dx) t0 tb cx) C (some od) := ⟨(N _ h1).1, rfl, rfl, (N _ h2).1⟩
theorem get_excK {prog : Program} {w : World} {A : Around} {E : Value → Shared → Prop} {s : Shared} {K : Frag} {x C L dx : Addr} {h₀ : Heap} {m : Str → Option Value} {news : List (Addr × Obj)} {es : List DictEntry} {n : Nat} {t0 tb cx v : Value} {attr : Option Value} {cd : ClassData} {name : Str} {expr : Bool} {Q : Value → Shared → Prop}
    (F : Fr h₀ L s.heap m) (X₀ : K.In h₀) (N : News h₀ L s.heap news) (hin : (x, excO (.ref C) (some dx) t0 tb cx) ∈ news) (hdn : (dx, dictOf es n) ∈ news)
    (hga : findIn K (.ref C) "__getattribute__" = some (some (.builtin "BaseException.__getattribute__"))) (hgt : findIn K (.ref C) "__getattr__" = some none) (hcd : clsIn K C = some cd) (hm : cd.mro = excMro C) (hh : hasDictIn K C = true)
    (ha : findIn K (.ref C) name = some attr) (hn : noGet K attr = true) (hl : getL name es = some (some v)) (hv : handedIn v = true) (h : Q v { s with toks := s.toks + 1 }) : wpAny (model prog w) A (getAttr (.ref x) name expr) Q E s :=
  get_exc (X₀.keeps F.keep) (exc_inst N hin hdn) hga hgt hcd hm (findObj_own hh ha hn hl) hv h
theorem kw_line67 : True := by
  (k_with "my getAttr ref" => ((k_here; (first | (with_reducible show wpAny _ _ (getAttr (Value.ref _) (PySem.Str.ofString "text") _) _ _ _) | (with_reducible show wpAny _ _ (getAttr (Value.ref _) (PySem.Str.ofString "code") _) _ _ _)); k_dflt (refine' get_excK ?F_q ?X_q ?N_q ?i_q ?j_q ?a1_q ?a2_q ?a3_q ?a4_q ?a5_q ?a6_q ?a7_q ?a8_q ?a9_q ?_; (case F_q => k_asm); (case X_q => k_asm); (case N_q => k_asm); (case i_q => k_mem); (case j_q => k_mem); (case a1_q => k_is); (case a2_q => k_is); (case a3_q => k_is); (case a4_q => rfl); (case a5_q => k_is); (case a6_q => k_is); (case a7_q => k_is); (case a8_q => k_get); (case a9_q => k_handed); k_whole))))
  trivial
noncomputable def NextJ (J : Shared → Prop) (f : Flow) (s' : Shared) : Prop := f = .next ∧ J s'
theorem split_next {M : Model} {A : Around} {E : Value → Shared → Prop} {Q : Flow → Shared → Prop} {s : Shared} {x : Sem Flow} (J : Shared → Prop) (h : let J9 : Shared → Prop := J
    wpAny M A x (NextJ J9) E s) (k : ∀ s', J s' → Q .next s') : wpAny M A x Q E s :=
  wpAny_mono h (fun f s' q => by obtain ⟨rfl, j⟩ := q; exact k s' j) fun _ _ y => y

noncomputable abbrev canL (w : World) (tT dT lR aR dR lW : Addr) (t : Tab) (bl : Array UInt8) (vs : List Value) (cl0 cw : Nat) (t0 t1 t2 t3 n1 n2 n3 n4 n5 tb u1 u2 m1 m2 m3 m4 m5 : Tok) (rest : List (Addr × Obj)) : List (Addr × Obj) :=
  (tT, instObj 290 dT) :: (dT, dictOf (tabAttrs w lR t.cap t.ins (tot t.rows) t0 t1 t2 t3 n1 n2 n3 n4 n5) 5) :: (lR, listOf vs.toArray cl0) :: (aR, instObj 402 dR) :: (dR, dictOf (decAttrs w tT lW bl tb u1 u2 m1 m2 m3 m4 m5) 5) :: (lW, listOf #[] cw) :: rest
noncomputable def Apart (dT lR dR : Addr) (rest : List (Addr × Obj)) : Prop := (∀ p ∈ rest, p.1 ≠ dT) ∧ (∀ p ∈ rest, p.1 ≠ lR) ∧ (∀ p ∈ rest, p.1 ≠ dR)
inductive DecIn (w : World) (tT dT lR aR dR : Addr) (t : Tab) (left : List Int) (rest₀ news : List (Addr × Obj)) : Prop
  | mk : ∀ bl lW vs rest cl0 cw t0 t1 t2 t3 n1 n2 n3 n4 n5 tb u1 u2 m1 m2 m3 m4 m5, (news = canL w tT dT lR aR dR lW t bl vs cl0 cw t0 t1 t2 t3 n1 n2 n3 n4 n5 tb u1 u2 m1 m2 m3 m4 m5 rest) → (KBw.bInts bl = left) → (RowsAre rest vs t.rows) → ((∀ p ∈ rest₀, p ∈ rest)) → (Apart dT lR dR rest) → (@LT.lt Nat _ lR lW) → DecIn w tT dT lR aR dR t left rest₀ news

theorem rows_pick {news : List (Addr × Obj)} : ∀ {vs : List Value} {rs : List Row}, RowsAre news vs rs → ∃ rl, RowsAre rl vs rs ∧ ∀ p ∈ rl, p ∈ news ∧ ∃ its c, p.2 = tupO its c
  | [], [], _ => ⟨[], trivial, fun _ h => (nomatch h)⟩
  | _ :: _, _ :: _, h => by
    obtain ⟨a, b1, b2, t1, t2, c, h1, h2, h3⟩ := h.1
    obtain ⟨rl, r1, r2⟩ := rows_pick h.2
    refine ⟨(a, tupO [.bytes b1 t1, .bytes b2 t2] c) :: rl, ⟨⟨a, b1, b2, t1, t2, c, h1, .head _, h3⟩, RowsAre.sub (fun _ h => .tail _ h) r1⟩, fun p hp => ?_⟩
    rcases List.mem_cons.mp hp with rfl | hp
    · exact ⟨h2, _, _, rfl⟩
    · exact r2 p hp
  | [], _ :: _, h => h.elim
  | _ :: _, [], h => h.elim
theorem tup_apart {h₀ h : Heap} {L : Addr} {news rl : List (Addr × Obj)} {x : Addr} {o : Obj} (N : News h₀ L h news) (hr : ∀ p ∈ rl, p ∈ news ∧ ∃ its c, p.2 = tupO its c) (hx : (x, o) ∈ news) (ho : ∀ its c, o ≠ tupO its c) : ∀ p ∈ rl, p.1 ≠ x := by
  intro p hp q
  obtain ⟨h1, its, c, h2⟩ := hr p hp
  have e1 := (N p h1).1
  have e2 := (N _ hx).1
  rw [q] at e1
  dsimp only at e2
  rw [e2] at e1
  cases e1
  exact ho _ _ h2
theorem keeps_of {outer : List Env} {h₀ g : Heap} {L : Addr} {m : Str → Option Value} (F : Fr h₀ L g m) : Keeps outer h₀ g := fun env _ a _ _ x => nsKeep_obj x fun o q => F.keep a o q
theorem fly_pick {w : World} {base : Heap} {l : List Env} {e dx d9 : Addr} {C cx : Value} {tc : Tok} {x : Str} {tx s1 s2 : Tok} {ledger nw : List (Addr × Obj)} {h : Heap} (R : FlyK base l e C dx cx ((d9, dictOf (qAttrs w 513 tc x tx s1 s2) 2) :: ledger) h) (hs : ∀ p ∈ nw, p ∈ ledger) :
    ∃ tc x tx s1 s2, FlyK base l e C dx cx ((d9, dictOf (qAttrs w 513 tc x tx s1 s2) 2) :: nw) h :=
  ⟨tc, x, tx, s1, s2, R.sub fun p hp => by
    rcases List.mem_cons.mp hp with rfl | hp
    · exact .head _
    · exact .tail _ (hs p hp)⟩
theorem cut_end {ks : List Int} {a : Int} (h0 : 0 ≤ a) (h1 : a ≤ ks.length) : (ks.drop (clipAt ks.length a)).take (ks.length - clipAt ks.length a) = ks.drop a.toNat := by
  have e1 : clipAt ks.length a = a.toNat := clip_nat h0 h1
  rw [e1, List.take_of_length_le (by rw [List.length_drop]; omega)]
inductive HearOk (w : World) (tT dT lR aR dR : Addr) (t : Tab) (ks : List Int) (rest : List (Addr × Obj)) (r : Value) (news' : List (Addr × Obj)) : Prop
  | mk : ∀ (t' : Tab) (a : Int) (lr : Addr) (cn : Nat) (nw : List (Addr × Obj)), (hearA ks 5000 t 0 = .done t' a) → (r = .ref lr) → (news' = (lr, listOf #[] cn) :: nw) → (DecIn w tT dT lR aR dR t' (ks.drop a.toNat) rest nw) → HearOk w tT dT lR aR dR t ks rest r news'
inductive HearBad (w : World) (tT dT lR aR dR : Addr) (t : Tab) (ks : List Int) (rest : List (Addr × Obj)) (C dx : Addr) (news' : List (Addr × Obj)) : Prop
  | mk : (C = 38) → ∀ (t' : Tab) (left : List Int) (tc : Tok) (x : Str) (tx s1 s2 : Tok) (nw : List (Addr × Obj)), (hearA ks 5000 t 0 = .bad t') → (news' = (dx, dictOf (qAttrs w 513 tc x tx s1 s2) 2) :: nw) → (DecIn w tT dT lR aR dR t' left rest nw) → HearBad w tT dT lR aR dR t ks rest C dx news'
inductive HearJ (w : World) (tT dT lR aR dR lW : Addr) (t : Tab) (bb : Array UInt8) (ks : List Int) (t0 n1 n2 n3 n4 n5 u1 u2 m1 m2 m3 m4 m5 : Tok) (rest : List (Addr × Obj)) (n : Nat) (ps : List (Str × Option Value)) (nw : List (Addr × Obj)) : Prop
  | mk : ∀ (a : Int) (ta : Tok) (o1 o2 : Option Value) (t' : Tab) (vs' : List Value) (rest' : List (Addr × Obj)) (cl1 cw1 : Nat) (t1' t2' t3' tb' : Tok), (ps = [(Str.ofString "at", some (.int a ta)), (Str.ofString "change", o1), (Str.ofString "behind", o2)]) → (nw = canL w tT dT lR aR dR lW t' bb vs' cl1 cw1 t0 t1' t2' t3' n1 n2 n3 n4 n5 tb' u1 u2 m1 m2 m3 m4 m5 rest') → (RowsAre rest' vs' t'.rows) → ((∀ p ∈ rest, p ∈ rest')) → (Apart dT lR dR rest') → (hearA ks 5000 t 0 = hearA ks n t' a) → (0 ≤ a) → (a ≤ ks.length) → (t'.Ok) → (t'.ins + n ≤ 95000) → HearJ w tT dT lR aR dR lW t bb ks t0 n1 n2 n3 n4 n5 u1 u2 m1 m2 m3 m4 m5 rest n ps nw
inductive HearS (w : World) (A1 : Around) (base : Heap) (lenv : List Env) (g1 : Heap) (L1 : Addr) (d : Array UInt8) (td : Tok) (tT dT lR aR dR lW : Addr) (t : Tab) (bb : Array UInt8) (ks : List Int) (t0 n1 n2 n3 n4 n5 u1 u2 m1 m2 m3 m4 m5 : Tok) (rest : List (Addr × Obj)) (s : Shared) (s' : Shared) : Prop
  | mk : ∀ (h₂ h' : Heap) (tk : Nat) (a : Int) (ta : Tok) (o1 o2 : Option Value) (t' : Tab) (vs' : List Value) (rest' : List (Addr × Obj)) (cl1 cw1 : Nat) (t1' t2' t3' tb' tz : Tok), (s' = { s with heap := h', toks := tk }) → (Below A1 base lenv h₂) → (Keeps lenv g1 h₂) → (Fr h₂ L1 h' (bindO [(Str.ofString "at", some (.int a ta)), (Str.ofString "change", o1), (Str.ofString "behind", o2)] (fun y => if y = Str.ofString "at" then some (.int 0 tz) else List.lookup y [(Str.ofString "data", .bytes d td), (Str.ofString "self", .ref aR)]))) → (News h₂ L1 h' (canL w tT dT lR aR dR lW t' bb vs' cl1 cw1 t0 t1' t2' t3' n1 n2 n3 n4 n5 tb' u1 u2 m1 m2 m3 m4 m5 rest')) → (RowsAre rest' vs' t'.rows) → ((∀ p ∈ rest, p ∈ rest')) → (Apart dT lR dR rest') → (hearA ks 5000 t 0 = .done t' a) → (0 ≤ a) → (a ≤ ks.length) → HearS w A1 base lenv g1 L1 d td tT dT lR aR dR lW t bb ks t0 n1 n2 n3 n4 n5 u1 u2 m1 m2 m3 m4 m5 rest s s'
set_option maxHeartbeats 8000000 in
theorem hear_ok {w : World} {mean : ExcName → Option Value} {mg mb : Str → Option Value} {tT dT lR aR dR lW : Addr} {t : Tab} {bl d : Array UInt8} {kl kd : List Int} {td t0 t1 t2 t3 n1 n2 n3 n4 n5 tb u1 u2 m1 m2 m3 m4 m5 : Tok} {vs : List Value} {cl0 cw : Nat} {rest : List (Addr × Obj)}
    (hbl : KBw.bInts bl = kl) (hbd : KBw.bInts d = kd) (hlen : kl.length + kd.length ≤ 4000)
    (hR : RowsAre rest vs t.rows) (hok : t.Ok) (hi : t.ins ≤ 90000) (hdT : @LT.lt Nat _ dT tT) (hdl : @LT.lt Nat _ tT lR) (hlR : @LT.lt Nat _ dR aR) (hlW : @LT.lt Nat _ aR dT) (hl2 : @LT.lt Nat _ lR lW)
    (hap : Apart dT lR dR rest) (hns : hearA (kl ++ kd) 5000 t 0 ≠ .stuck) :
    SpecH w mean mg mb 336 30 [.ref aR, .bytes d td] (canL w tT dT lR aR dR lW t bl vs cl0 cw t0 t1 t2 t3 n1 n2 n3 n4 n5 tb u1 u2 m1 m2 m3 m4 m5 rest)
      (HearOk w tT dT lR aR dR t (kl ++ kd) rest)
      (HearBad w tT dT lR aR dR t (kl ++ kd) rest) := by
  unfold SpecH
  k_fill
  intro dp un gd cn cs av ccd cl outer A₀ base h₀ L m s Q E B F X N T XB TB hk hdp hun hret hexc
  refine wpAny_call ?_
  k_dflt walk_at "ENTERR"
  rename_i g1 L1 h1 FG F1 N1 B1 X1 T1
  dsimp only [tabAttrs, decAttrs, canL] at N1
  replace F1 : Fr g1 L1 h1 (fun y => List.lookup y [(Str.ofString "data", .bytes d td), (Str.ofString "self", .ref aR)]) := F1
  obtain ⟨hrd, hrl, hrR⟩ := id hap
  have hLL : @LT.lt Nat _ L L1 := Nat.lt_of_lt_of_le FG.ns.lt F1.above
  walk_at "GOT"
  rename Fr _ _ _ _ => F2
  rename News _ _ _ _ => N2
  rename KBw.bInts (_ ++ _) = _ => hbb
  generalize hks : kl ++ kd = ks at *
  generalize bl ++ d = bb at *
  have hkl : ks.length ≤ 4000 := by rw [← hks, List.length_append]; exact hlen
  refine split_next (HearS w (ktrTop dp un gd cn cs L av ccd cl outer) base (envX cn cs L av ccd cl :: outer) g1 L1 d td tT dT lR aR dR lW t bb ks t0 n1 n2 n3 n4 n5 u1 u2 m1 m2 m3 m4 m5 rest s) ?_ ?_
  · intro J9
    refine While_so (HearJ w tT dT lR aR dR lW t bb ks t0 n1 n2 n3 n4 n5 u1 u2 m1 m2 m3 m4 m5 rest) 5000 [(Str.ofString "at", some (.int 0 _)), (Str.ofString "change", none), (Str.ofString "behind", none)] F2 N2 (news := canL w tT dT lR aR dR lW t bb vs cl0 cw t0 t1 t2 t3 n1 n2 n3 n4 n5 _ u1 u2 m1 m2 m3 m4 m5 rest) (fun _ h9 => h9) (List.forall_mem_cons.mpr ⟨rfl, List.forall_mem_cons.mpr ⟨rfl, List.forall_mem_cons.mpr ⟨rfl, List.forall_mem_nil _⟩⟩⟩) ⟨0, _, _, _, t, vs, rest, _, _, _, _, _, _, rfl, rfl, hR, fun _ h9 => h9, hap, rfl, Int.le_refl _, by omega, hok, by omega⟩ ?_
    rintro n ps nw h₂ tk₂ F3 N3 ⟨a, ta, o1, o2, t', vs', rest', cl1, cw1, t1', t2', t3', tb', rfl, rfl, hR', hsub, hap', hE, ha0, ha1, hok', hb'⟩ P9
    clear F2 N2 hrd hrl hrR
    obtain ⟨n, rfl⟩ : ∃ k, n = k + 1 := by
      cases n with
      | zero => exact absurd (hE.trans rfl) hns
      | succ k => exact ⟨k, rfl⟩
    obtain ⟨hrd, hrl, hrR⟩ := id hap'
    dsimp only [bindO, canL, tabAttrs, decAttrs] at F3 N3
    walk_at "GOT"
    · refine wpAny_Try_except ?_
      walk_at "GOT"
      refine' Spec.use (change_ok hbb (by omega) ha0 (by omega)) ?B_q ?F_q ?X_q ?N_q ?sub_q ?T_q ?k_q ?d_q ?u_q ?_ ?_
      walk_at "USE"
      · rintro r9 n9 h9 tk9 F9 N9 ⟨c9, a9, tr9, tc9, vs9, t9, q1, q2, hc9, hv9, rfl, rfl, l19, l29⟩
        clear F3 N3
        have hcb := chg_ch (by omega) ha0 hc9
        have hab := chg_bounds ha0 hc9
        have hst : obeyA t' c9 ≠ .stuck := fun q => hns (hE.trans (by rw [hearA, if_neg (by omega), hc9]; dsimp only; rw [q]))
        walk_at "GOT"
        rename Fr g1 L1 _ _ => F4
        rename News g1 L1 _ _ => N4
        refine' Spec.use (obey_all hcb (rest := (tc9, tupO vs9 q2) :: (aR, instObj 402 dR) :: (dR, dictOf (decAttrs w tT lW bb tb' u1 u2 m1 m2 m3 m4 m5) 5) :: (lW, listOf #[] cw1) :: rest') (.tail _ (.head _)) (.tail _ (.tail _ (.head _))) (.head _) hv9 hst (RowsAre.sub (fun _ h => .tail _ (.tail _ (.tail _ (.tail _ h)))) hR') hok' (by omega) hdT hdl ?z1 ?z2) ?B ?F ?X ?N ?sub ?T ?k ?d ?u ?_ ?_
        case B => k_asm
        case F => k_asm
        case X => k_asm
        case N => exact N4
        case sub => walk_at "SUB"
        case T => k_asm
        case k => rfl
        case d => ktr_room
        case u => ktr_units
        case z1 =>
          intro p hp
          simp only [List.mem_cons] at hp
          have q9 := l29.2.1
          dsimp only at q9
          rcases hp with rfl | rfl | rfl | rfl | hp
          · show @Ne Nat _ _; dsimp only; omega
          · show @Ne Nat _ _; dsimp only; omega
          · show @Ne Nat _ _; dsimp only; omega
          · show @Ne Nat _ _; dsimp only; omega
          · exact hrd p hp
        case z2 =>
          intro p hp
          simp only [List.mem_cons] at hp
          have q9 := l29.2.2.1
          dsimp only at q9
          rcases hp with rfl | rfl | rfl | rfl | hp
          · show @Ne Nat _ _; dsimp only; omega
          · show @Ne Nat _ _; dsimp only; omega
          · show @Ne Nat _ _; dsimp only; omega
          · show @Ne Nat _ _; dsimp only; omega
          · exact hrl p hp
        · rintro r9 n9 h9 tk9 F9 N9 ⟨rfl, t'', ho, vs'', rest'', s1, s2, s3, c9', rfl, hsub9, hnew9, hR9⟩
          walk_at "GOT"
          rename Fr g1 L1 _ _ => F8
          rename News g1 L1 _ _ => N8
          obtain ⟨rl, hl1, hl3⟩ := rows_pick hR9
          have hl4 : ∀ p ∈ rl, p ∈ (tT, instObj 290 dT) :: (dT, dictOf (tabAttrs w lR t''.cap t''.ins (tot t''.rows) t0 s1 s2 s3 n1 n2 n3 n4 n5) 5) :: (lR, listOf vs''.toArray c9') :: rest'' ∧ ∃ its c, p.2 = tupO its c :=
            fun p hp => ⟨.tail _ (.tail _ (.tail _ (hl3 p hp).1)), (hl3 p hp).2⟩
          have ap1 := tup_apart N8 hl4 (.tail _ (.head _)) (fun its c q => absurd (congrArg Obj.data q) (by intro z; cases z))
          have ap2 := tup_apart N8 hl4 (.tail _ (.tail _ (.head _))) (fun its c q => absurd (congrArg Obj.cls q) (by intro z; injection z with z; exact absurd z (by decide)))
          have ap3 := tup_apart N8 hl4 (.tail _ (.tail _ (.tail _ (hsub9 _ (.tail _ (.tail _ (.head _))))))) (fun its c q => absurd (congrArg Obj.data q) (by intro z; cases z))
          obtain ⟨ok1, ok2⟩ := obeyA_ok hok' hcb.ok ho
          refine ⟨_, _, _, canL w tT dT lR aR dR lW t'' bb vs'' c9' cw1 t0 s1 s2 s3 n1 n2 n3 n4 n5 tb' u1 u2 m1 m2 m3 m4 m5 (rl ++ rest'), n, [(Str.ofString "at", some (.int a9 _)), (Str.ofString "change", some (.ref tc9)), (Str.ofString "behind", some (.int a9 _))], rfl, F8, fun p hp => N8 p ?_, by walk_at "KEYS", ?_, Nat.lt_succ_self _, a9, _, _, _, t'', vs'', rl ++ rest', c9', cw1, s1, s2, s3, tb', rfl, rfl, RowsAre.sub (fun _ h => List.mem_append_left _ h) hl1, fun p hp => List.mem_append_right _ (hsub p hp), ⟨?_, ?_, ?_⟩, ?_, by omega, by omega, ok1, by omega⟩
          · simp only [canL, List.mem_cons, List.mem_append] at hp
            rcases hp with rfl | rfl | rfl | rfl | rfl | rfl | hp | hp
            · exact .head _
            · exact .tail _ (.head _)
            · exact .tail _ (.tail _ (.head _))
            · exact .tail _ (.tail _ (.tail _ (hsub9 _ (.tail _ (.head _)))))
            · exact .tail _ (.tail _ (.tail _ (hsub9 _ (.tail _ (.tail _ (.head _))))))
            · exact .tail _ (.tail _ (.tail _ (hsub9 _ (.tail _ (.tail _ (.tail _ (.head _)))))))
            · exact (hl4 p hp).1
            · exact .tail _ (.tail _ (.tail _ (hsub9 _ (.tail _ (.tail _ (.tail _ (.tail _ hp)))))))
          · intro y hy
            have y1 := hy _ (.head _)
            have y2 := hy _ (.tail _ (.head _))
            have y3 := hy _ (.tail _ (.tail _ (.head _)))
            simp only [if_neg y1, if_neg y2, if_neg y3]
          · intro p hp
            rcases List.mem_append.mp hp with hp | hp
            · exact ap1 p hp
            · exact hrd p hp
          · intro p hp
            rcases List.mem_append.mp hp with hp | hp
            · exact ap2 p hp
            · exact hrl p hp
          · intro p hp
            rcases List.mem_append.mp hp with hp | hp
            · exact ap3 p hp
            · exact hrR p hp
          · rw [hE, hearA, if_neg (by omega), hc9]; dsimp only; rw [ho]
        · rintro g9 e9 C9 dx9 cx9 n9 h9 tk9 rfl Fg9 u9 R9 ⟨ho, rfl, tc8, x8, tx8, s1, s2, rfl⟩
          walk_at "GOT"
          rename FlyK _ (envX cn cs L av ccd cl :: outer) _ _ _ _ _ _ => R8
          rename Heap.UpToSlots g1 _ => U8
          refine hexc h₀ g1 _ _ _ _ _ _ _ B FG Keeps.refl U8 (FlyK.sub R8 ?_) ⟨rfl, t', ks, tc8, x8, tx8, s1, s2, canL w tT dT lR aR dR lW t' bb vs' cl1 cw1 t0 t1' t2' t3' n1 n2 n3 n4 n5 tb' u1 u2 m1 m2 m3 m4 m5 rest', ?_, rfl, bb, lW, vs', rest', cl1, cw1, t0, t1', t2', t3', n1, n2, n3, n4, n5, tb', u1, u2, m1, m2, m3, m4, m5, rfl, hbb, hR', hsub, hap', hl2⟩
          · dsimp only [canL]
            intro p hp
            simp only [List.mem_cons] at hp ⊢
            rcases hp with hp | hp | hp | hp | hp | hp | hp | hp <;> simp only [hp, true_or, or_true]
          · rw [hE, hearA, if_neg (by omega), hc9]; dsimp only; rw [ho]
      · rintro g9 e9 C9 dx9 cx9 n9 h9 tk9 rfl F4 U2 R2 (⟨hch, rfl, od9, rfl⟩ | ⟨hch, rfl, tc8, x8, tx8, s1, s2, hx8, rfl⟩)
        · walk_at "GOT"
          refine catch_start B1 R2 fun h2 R3 U3 => ?_
          refine' clause_hitK B1 F4 (U2.trans U3) R3 XB (topRead_of TB) (C' := 58) ?q0n ?q0c ?q0m ?q0cx ?q0mx ?q0t ?q0b ?_
          case q0n => k_is
          case q0c => k_is
          case q0m => rfl
          case q0cx => k_is
          case q0mx => rfl
          case q0t => k_is
          case q0b => decide
          clear F4 U2 R2 U3 R3 F3 N3
          intro h3 h4 t9 TB9 B5 F5 N5 Kp5
          have X5 := XB.keeps B5.stays
          have T5 := TB.keeps B5.stays
          walk_at "GOT"
          exact ⟨rfl, h3, _, _, a, ta, o1, o2, t', vs', rest', cl1, cw1, t1', t2', t3', tb', _, rfl, B5, Kp5, F5, cb_drop N5 (by walk_at "SUB"), hR', hsub, hap', by rw [hE, hearA, if_neg (by omega), hch], ha0, ha1⟩
        · walk_at "GOT"
          refine catch_start B1 R2 fun h2 R3 U3 => ?_
          refine' clause_miss B1 F4 (U2.trans U3) R3 XB (topRead_of TB) (C' := 58) ?q1n ?q1c ?q1m ?q1cx ?q1mx ?q1t ?q1b ?_
          case q1n => k_is
          case q1c => k_is
          case q1m => rfl
          case q1cx => k_is
          case q1mx => rfl
          case q1t => k_is
          case q1b => decide
          refine' clause_hit_asK B1 F4 (U2.trans U3) R3 XB (topRead_of TB) (C' := 38) ?q2n ?q2c ?q2m ?q2cx ?q2mx ?q2t ?q2b ?_
          case q2n => k_is
          case q2c => k_is
          case q2m => rfl
          case q2cx => k_is
          case q2mx => rfl
          case q2t => k_is
          case q2b => decide
          clear F4 U2 R2 U3 R3 F3 N3
          intro h3 h4 t9 TB9 tk9 B5 F5 N5 Kp5
          have X5 := XB.keeps B5.stays
          have T5 := TB.keeps B5.stays
          walk_at "GOT"
          rename_i F6 N6 n6 a6 l6
          refine' raiseNew_under rfl F6 N6 (n6 _ (.head _)) (N6 _ (.tail _ (.tail _ (.head _)))).1 ?U fun h7 F7 N7 => ?_
          case U => k_upd
          clear F6 N6
          refine as_raise2 B5 F7 N7 n6 l6 fun h8 tk8 R8 U8 => ?_
          refine leave_againM R8 fun h9 R9 U9 => ?_
          obtain ⟨hp, Bp, Fp, Np, Kpp⟩ := pop_frame (h := h7) B F.above B5 F7 N7 (Kp5 _ (.head _) L m rfl FG.ns)
          obtain ⟨tc7, x7, tx7, s7, s8, R10⟩ := fly_pick (nw := canL w tT dT lR aR dR lW t' bb vs' cl1 cw1 t0 t1' t2' t3' n1 n2 n3 n4 n5 tb' u1 u2 m1 m2 m3 m4 m5 rest') R9 (by
            dsimp only [canL]
            intro p hp
            simp only [List.mem_cons] at hp ⊢
            rcases hp with hp | hp | hp | hp | hp | hp | hp <;> simp only [hp, true_or, or_true])
          exact hexc hp _ _ _ _ _ _ _ _ Bp (hide_fr Fp hLL) (((keeps_of FG).trans (fun env he => Kp5 env (.tail _ he))).trans Kpp) (U8.trans U9) R10
            ⟨rfl, t', ks, tc7, x7, tx7, s7, s8, _, by rw [hE, hearA, if_neg (by omega), hch], rfl, bb, lW, vs', rest', cl1, cw1, t0, t1', t2', t3', n1, n2, n3, n4, n5, tb', u1, u2, m1, m2, m3, m4, m5, rfl, hbb, hR', hsub, hap', hl2⟩
    · exact ⟨rfl, _, _, _, a, ta, o1, o2, t', vs', rest', cl1, cw1, t1', t2', t3', tb', _, rfl, B1, Keeps.refl, F3, N3, hR', hsub, hap', by rw [hE, hearA, if_pos (by omega)], ha0, ha1⟩
  · rintro s' ⟨h₂, h', tk, a, ta, o1, o2, t', vs', rest', cl1, cw1, t1', t2', t3', tb', tz, rfl, B2, Kp, F3, N3, hR', hsub, hap', hdone, ha0, ha1⟩
    have X2 := XB.keeps B2.stays
    have T2 := TB.keeps B2.stays
    obtain ⟨hrd, hrl, hrR⟩ := id hap'
    dsimp only [bindO, canL, tabAttrs, decAttrs] at F3 N3
    clear F2 N2
    walk_at "GO"
    refine For_empty rfl ?_
    walk_at "GO"
    refine ⟨_, _, _, _, _, _, rfl, by k_asm, by k_asm, by k_mem, fun h9 F9 N9 => ?_⟩
    walk_at "GO"
    rename Fr h₂ L1 _ _ => F9
    rename News h₂ L1 _ _ => N9
    rename KBw.bInts (KBy.picked _ _ _) = _ => hpk
    obtain ⟨hp, Bp, Fp, Np, Kpp⟩ := pop_frame (h := h₂) B F.above B2 F9 N9 (Kp _ (.head _) L m rfl FG.ns)
    exact hret _ _ hp _ _ Bp Fp (cb_drop Np (by walk_at "SUB")) (((keeps_of FG).trans (fun env he => Kp env (.tail _ he))).trans Kpp) ⟨t', a, _, _, _, hdone, rfl, rfl, _, _, vs', rest', _, _, t0, t1', t2', t3', n1, n2, n3, n4, n5, _, _, _, _, _, _, _, _, rfl, hpk.trans (cut_end ha0 ha1), hR', hsub, hap', by omega⟩

/-! ## MComp -/
section
open PyProof.Rows.LCg
section
variable {prog : Program} {w : World} {A : Around} {E : Value → Shared → Prop} {s : Shared} {h₀ : Heap} {L : Addr} {m : Str → Option Value} {env : Env}
/-- a list of pairs, of which those stay that pass the test; of each its second part -/
noncomputable def PickSrc (prog : Program) (w : World) (A : Around) (h₀ : Heap) (L : Addr) (m : Str → Option Value) (env : Env) (c : PySem.Expr) (x x₂ : Str) (scope : Scope) (cl : List (Str × Addr)) (keep : Value × Value → Bool) (Q : Value → Shared → Prop) (xv : Value) (s₁ : Shared) : Prop :=
  ∃ (ax : Addr) (vs : List Value) (n : Nat) (qs : List (Value × Value)) (news : List (Addr × Obj)), xv = .ref ax ∧ A.handled = none ∧ Fr h₀ L s₁.heap m ∧ News h₀ L s₁.heap news ∧ (ax, listOf vs.toArray n) ∈ news ∧ vs.length ≤ 4096 ∧ qs.length = vs.length ∧
   (∀ i, i < vs.length → ∃ a c q, vs[i]? = some (.ref a) ∧ qs[i]? = some q ∧ (a, tupO [q.1, q.2] c) ∈ news) ∧
   (∀ q ∈ qs, ∀ I oI C oC D m₂ ys h tk (E' : Value → Shared → Prop), NsObj oC m₂ → m₂ x = some q.1 → m₂ x₂ = some q.2 → Fr h₀ L h m → News h₀ L h ((I, oI) :: (C, oC) :: (D, lst ys) :: news) →
      wpAny (model prog w) A (isTrue c (compEnvC scope cl C env) (eval c (compEnvC scope cl C env))) (fun ok s₃ => ok = keep q ∧ ∃ tk', s₃ = { s₁ with heap := h, toks := tk' }) E' { s₁ with heap := h, toks := tk }) ∧
   (∀ D h tk, Fr h₀ L h m → News h₀ L h ((D, lst ((qs.filter keep).map (·.2))) :: news) → (∀ p ∈ news, p.1 < D) → Q (.ref D) { s₁ with heap := h, toks := tk })

theorem pick_comp {iter c : PySem.Expr} {x x₂ : Str} {px px₂ pe tp : Pos} {tk} {scope : Scope} {cl : List (Str × Addr)} {pos : Pos} {keep : Value × Value → Bool} {Q : Value → Shared → Prop} (_F₀ : Fr h₀ L s.heap m)
    (hclos : closureFor scope env = pure cl) (hcell : ∀ y ∈ scope.names, y.2 ≠ .cell) (hkind : scope.kind = .function)
    (hnames : ∀ y ∈ scope.names, y.2 = .local → scope.names.lookup y.1 = some .local) (hx : scope.names.lookup x = some .local) (hx₂ : scope.names.lookup x₂ = some .local) (hxx : x ≠ x₂) (hxd : (x₂ == ("__debug__" : Str)) = false)
    (hko : ∀ C, (compEnvC scope cl C env).scope.kind = .function) (hko2 : ∀ C, (compEnvC scope cl C env).kindOf x₂ = some .local)
    (h : wpAny (model prog w) A (eval iter env) (PickSrc prog w A h₀ L m env c x x₂ scope cl keep Q) E s)
    (hs : ∀ x, foldedSetIterable iter env x = pure x := by intro _; rfl) :
    wpAny (model prog w) A (eval (.ListComp (.Name x₂ pe) [⟨.Tuple [.Name x px, .Name x₂ px₂] tk tp, iter, [c], 0⟩] scope pos) env) Q E s := by
  rw [eval_ListComp]
  refine wpAny_comprehension_free (use := none) rfl hs hclos hkind hnames (wpAny_mono h (fun xv s₁ h₁ => ?_) fun _ _ e => e)
  obtain ⟨ax, vs, n, qs, news, rfl, hh, F, N, hm, hz, hql, hq, turn, fin⟩ := h₁
  have hl : s₁.heap.IsList ax vs.toArray := N.isList hm
  have hlt : ax < s₁.heap.objs.size := by obtain ⟨_, e, _⟩ := hl; exact Heap.lt_size e
  refine wpAny_pyIter_list hl ?_
  generalize hI : s₁.heap.objs.size = I at *
  have up : ∀ b o, s₁.heap.get? b = some o → (s₁.heap.push { cls := .type "list_iterator", data := .fields #[.ref ax, .int 0 0] }).get? b = some o := fun b o e => Heap.get?_push_of_some _ e
  have hit : (s₁.heap.push { cls := .type "list_iterator", data := .fields #[.ref ax, .int 0 0] }).IsListIter I ax 0 := ⟨_, hI ▸ Heap.get?_push_size _ rfl, rfl, rfl⟩
  have hsz1 : (s₁.heap.push { cls := .type "list_iterator", data := .fields #[.ref ax, .int 0 0] }).objs.size = I + 1 := by rw [Heap.size_push, hI]
  have F1 := F.keeps up
  have N1 := N.grown up
  have ltI : ∀ p ∈ news, @LT.lt Nat _ p.1 I := fun p hp => hI ▸ Heap.lt_size (N p hp).1
  have hLI : @LT.lt Nat _ L I := hI ▸ F.ns.lt
  have hI₀ : h₀.get? I = none := hI ▸ next_is_new F
  generalize s₁.heap.push { cls := .type "list_iterator", data := .fields #[.ref ax, .int 0 0] } = H1 at *
  have hl1 : H1.IsList ax vs.toArray := N1.isList hm
  refine wpAny_newObj_type (wpAny_newFunctionEnv hcell (by intro y hy; simp at hy) (fun h₁ hns₁ hsb₁ => ?_) hkind)
  dsimp only at hns₁ hsb₁ ⊢
  generalize hH2 : H1.push { cls := .type "list", dict := none, data := .seq ([] : List Value).toArray } = H2 at hns₁ hsb₁ ⊢
  have hC : H2.objs.size = I + 2 := by rw [← hH2, Heap.size_push, hsz1]
  generalize H2.objs.size = C at *
  rw [hsz1]
  have old : ∀ b o, H1.get? b = some o → h₁.get? b = some o := fun b o e => hsb₁.extBut b o (by have q2 := Heap.lt_size e; rw [hsz1] at q2; have q3 : @LT.lt Nat _ b (I + 1) := q2; intro q; have q' : @Eq Nat b C := q; omega) (Heap.get?_push_of_some _ (by rw [← hH2]; exact Heap.get?_push_of_some _ e))
  have hacc : h₁.get? (I + 1) = some (lst []) := hsb₁.extBut _ _ (by intro q; have q' : (I : Nat) + 1 = C := q; omega) (Heap.get?_push_of_some _ (by rw [← hH2, ← hsz1]; exact Heap.get?_push_size _ rfl))
  have fresh₀ : ∀ a : Nat, I ≤ a → h₀.get? a = none := fun a ha => by
    cases e : h₀.get? a with
    | none => rfl
    | some o' => have := Heap.lt_size (F.keep a o' e); rw [hI] at this; have q' : (a : Nat) < I := this; omega
  have hD₀ := fresh₀ (I + 1) (Nat.le_succ _)
  have hC₀ : h₀.get? C = none := fresh₀ C (by omega)
  have nI : ∀ p ∈ news, p.1 ≠ I := fun p hp q => by have := ltI p hp; rw [q] at this; exact Nat.lt_irrefl _ this
  have nD : ∀ p ∈ news, p.1 ≠ I + 1 := fun p hp q => by have := ltI p hp; rw [q] at this; exact absurd this (by show ¬ (I + 1 : Nat) < I; omega)
  have nC : ∀ p ∈ news, p.1 ≠ C := fun p hp q => by have := ltI p hp; rw [q] at this; exact absurd this (by show ¬ @LT.lt Nat _ C I; omega)
  have hCI : I ≠ C := by intro q; have q' : (I : Nat) = C := q; omega
  have hDC : I + 1 ≠ C := by intro q; have q' : (I : Nat) + 1 = C := q; omega
  have hDI : I + 1 ≠ I := by intro q; have q' : (I : Nat) + 1 = I := q; omega
  have hIL : L ≠ I := by intro q; have q' : @Eq Nat L I := q; have q2 : @LT.lt Nat _ L I := hLI; omega
  have hCL : C ≠ L := by intro q; have q' : @Eq Nat C L := q; have q2 : @LT.lt Nat _ L I := hLI; omega
  have hDL : I + 1 ≠ L := by intro q; have q' : @Eq Nat (I + 1) L := q; have q2 : @LT.lt Nat _ L I := hLI; omega
  have loop : ∀ s₃ : Shared, s₃ = { s₁ with heap := h₁, toks := s₁.toks + ([] : List (Str × Value)).length } →
      codeAny (model prog w) A (.compLoop (.ListComp (.Name x₂ pe) [⟨.Tuple [.Name x px, .Name x₂ px₂] tk tp, iter, [c], 0⟩] scope pos) 0 (.ref I) (.ref (I + 1)) (compEnvC scope cl C env))
        (compPost (model prog w) A E none Q (.ref (I + 1)) C) s₃ := by
    rintro s₃ rfl
    refine kct_loop (fun k s' => ∃ h' tk i m', s' = { s₁ with heap := h', toks := tk } ∧ i ≤ vs.length ∧ k = vs.length + 1 - i ∧ h'.IsListIter I ax i ∧ Fr h₀ L h' m ∧ h'.Ns C m' ∧ News h₀ L h' ((I + 1, lst (((qs.take i).filter keep).map (·.2))) :: news)) ?_ (vs.length + 1)
      ⟨h₁, _, 0, _, rfl, Nat.zero_le _, rfl, ?_, F1.keeps old, hns₁, ?_⟩
    · rintro k s' ⟨h', tk', i, m', rfl, hi, rfl, hit', F', hn', N'⟩
      have hl' : h'.IsList ax vs.toArray := N'.isList (.tail _ hm)
      by_cases hlt' : i < vs.length
      · obtain ⟨a, ca, q, hv, hqi, hma⟩ := hq i hlt'
        refine wpAny_pyNext_list_item hit' hl' (x := .ref a) (by rw [List.getElem?_toArray]; exact hv) fun h₂ hit₂ hs₂ => ?_
        refine wpAny_letOwnedTupleGo_listiter hit₂ ?_
        have up₂ : ∀ b o, b ≠ I → h'.get? b = some o → h₂.get? b = some o := fun b o hb e => hs₂.extBut b o hb e
        have ht : h₂.IsTuple a #[q.1, q.2] := ⟨_, up₂ _ _ (nI _ hma) (N' _ (.tail _ hma)).1, rfl, ca, rfl⟩
        refine kcp_assign (env := compEnvC scope cl C env) hh ht (lookup_relabel_local hx) (lookup_relabel_local hx₂) (by simp [compEnvC, relabel, hkind]) (hn'.at' fun o e => up₂ _ o (Ne.symm hCI) e) fun h₄ tk₄ hn₄ hs₄ => ?_
        have up4 : ∀ b o, b ≠ I → b ≠ C → h'.get? b = some o → h₄.get? b = some o := fun b o h1 h2 e => hs₄ b o h2 (up₂ b o h1 e)
        have hit₄ : h₄.IsListIter I ax (i + 1) := by obtain ⟨o, e, r⟩ := hit₂; exact ⟨o, hs₄ _ _ hCI e, r⟩
        obtain ⟨oI, heI, hoI⟩ := hit₄
        obtain ⟨oC, heC, hoC⟩ := ns_obj hn₄
        have F₄ : Fr h₀ L h₄ m := ⟨F'.ns.at' fun o e => up4 _ o hIL (Ne.symm hCL) e, fun b o e => up4 b o (fun q => by rw [q, hI₀] at e; cases e) (fun q => by rw [q, hC₀] at e; cases e) (F'.keep b o e), F'.above⟩
        have N₄ : News h₀ L h₄ ((I, oI) :: (C, oC) :: (I + 1, lst (((qs.take i).filter keep).map (·.2))) :: news) := fun p hp => by
          rcases List.mem_cons.mp hp with rfl | hp
          · exact ⟨heI, Ne.symm hIL, hI₀⟩
          rcases List.mem_cons.mp hp with rfl | hp
          · exact ⟨heC, hCL, hC₀⟩
          · refine ⟨up4 _ _ ?_ ?_ (N' p hp).1, (N' p hp).2⟩
            · rcases List.mem_cons.mp hp with rfl | hp
              · exact hDI
              · exact nI p hp
            · rcases List.mem_cons.mp hp with rfl | hp
              · exact hDC
              · exact nC p hp
        have htk : qs.take (i + 1) = qs.take i ++ [q] := by rw [List.take_add_one, hqi]; rfl
        refine wpAny_mono (turn q (List.mem_of_getElem? hqi) I oI C oC (I + 1) _ _ h₄ _ _ hoC (by simp [hxx]) (by simp) F₄ N₄) (fun ok s₅ h₅ => ?_) fun _ _ e => e
        obtain ⟨rfl, tk₅, rfl⟩ := h₅
        have fin' : ∀ h₆ tk₆, Fr h₀ L h₆ m → h₆.get? I = some oI → h₆.get? C = some oC → News h₀ L h₆ ((I + 1, lst (((qs.take (i + 1)).filter keep).map (·.2))) :: news) →
            ∃ k', k' < vs.length + 1 - i ∧ ∃ h' tk i m', ({ s₁ with heap := h₆, toks := tk₆ } : Shared) = { s₁ with heap := h', toks := tk } ∧ i ≤ vs.length ∧ k' = vs.length + 1 - i ∧ h'.IsListIter I ax i ∧ Fr h₀ L h' m ∧ h'.Ns C m' ∧ News h₀ L h' ((I + 1, lst (((qs.take i).filter keep).map (·.2))) :: news) :=
          fun h₆ tk₆ F₆ e1 e2 N₆ => ⟨vs.length + 1 - (i + 1), by omega, h₆, tk₆, i + 1, _, rfl, hlt', rfl, ⟨oI, e1, hoI⟩, F₆, hoC.ns e2, N₆⟩
        cases hkq : keep q with
        | false =>
          simp only [Bool.false_eq_true, if_false]
          refine fin' h₄ _ F₄ heI heC fun p hp => N₄ p (.tail _ (.tail _ ?_))
          rw [htk, List.filter_append, List.filter_cons_of_neg (by rw [hkq]; decide), List.filter_nil, List.append_nil] at hp
          exact hp
        | true =>
          simp only [if_true]
          refine LCgL.ld_own (s := { s₁ with heap := h₄, toks := tk₅ }) N₄ (.tail _ (.head _)) hoC (v := q.2) (by simp) ?_ (hko C) (hko2 C) hxd
          have hsz : ((((qs.take i).filter keep).map (·.2)).toArray).size ≤ sizeLine := by
            rw [List.size_toArray, List.length_map]
            refine Nat.le_trans (List.length_filter_le _ _) ?_
            rw [List.length_take, sizeLine_eq]; omega
          refine append_at (s := { s₁ with heap := h₄, toks := tk₅ }) (hsz := hsz) (N₄ _ (.tail _ (.tail _ (.head _)))).1 fun h₆ hs₆ hD₆ => ?_
          · refine fin' h₆ _ (F₄.change hs₆ hDL hD₀) (hs₆.extBut _ _ (Ne.symm hDI) heI) (hs₆.extBut _ _ (Ne.symm hDC) heC) fun p hp => ?_
            rcases List.mem_cons.mp hp with rfl | hp
            · refine ⟨hD₆.trans (congrArg some ?_), hDL, hD₀⟩
              rw [lst_snoc, htk, List.filter_append, List.filter_cons_of_pos hkq, List.filter_nil, List.map_append, List.map_cons, List.map_nil]
            · exact ⟨hs₆.extBut _ _ (nD p hp) (N₄ p (.tail _ (.tail _ (.tail _ hp)))).1, (N₄ p (.tail _ (.tail _ (.tail _ hp)))).2⟩
      · obtain rfl : i = vs.length := Nat.le_antisymm hi (Nat.not_lt.mp hlt')
        refine wpAny_pyNext_list_end hh hit' hl' (by rw [List.getElem?_toArray]; exact List.getElem?_eq_none (Nat.le_refl _)) fun h₂ hs₂ => ?_
        rw [List.take_of_length_le (by omega)] at N'
        have F₂ : Fr h₀ L h₂ m := ⟨F'.ns.at' fun o e => hs₂ _ o hIL e, fun b o e => hs₂ b o (fun q => by rw [q, hI₀] at e; cases e) (F'.keep b o e), F'.above⟩
        refine ⟨_, hn'.at' fun o e => hs₂ _ o (Ne.symm hCI) e, fun h₃ hs₃ => fin (I + 1) h₃ _ (F₂.change hs₃ hCL hC₀) (fun p hp => ?_) fun p hp => Nat.lt_succ_of_lt (ltI p hp)⟩
        refine ⟨hs₃.extBut _ _ ?_ (hs₂ _ _ ?_ (N' p hp).1), (N' p hp).2⟩
        · rcases List.mem_cons.mp hp with rfl | hp
          · exact hDC
          · exact nC p hp
        · rcases List.mem_cons.mp hp with rfl | hp
          · exact hDI
          · exact nI p hp
    · obtain ⟨o, e, r⟩ := hit
      exact ⟨o, old _ _ e, r⟩
    · intro p hp
      rcases List.mem_cons.mp hp with rfl | hp
      · exact ⟨hacc, hDL, hD₀⟩
      · exact ⟨old _ _ (N1 p hp).1, (N1 p hp).2⟩
  exact codeAny_compStart_list (loop _ rfl) ((Walks.list hh I ax (fun q => by have q' : @Eq Nat I ax := q.symm; have q2 : @LT.lt Nat _ ax I := hlt; omega) vs.toArray).self 0 _ _ _ ⟨by obtain ⟨o, e, r⟩ := hit; exact ⟨o, old _ _ e, r⟩, by obtain ⟨o, e, r⟩ := hl1; exact ⟨o, old _ _ e, r⟩⟩ (loop _ rfl))
end

end
/-! ## MEq -/
section
open PySem.SeqAt
section
variable {A : Around} {s : Shared}
theorem rc_bytes (b c : Array UInt8) (t u : Tok) : RcAt A s (.bytes b t) (.bytes c u) (b.toList == c.toList) := fun prog w E Q h =>
  richCompare_gives (PySem.W.typeIs_bytes s b t) (PySem.W.typeIs_bytes s c u) FB.slot_bytes_eq FB.entry_bytes_eq (FB.args_bytes_eq_2 _ _) (gives_bytes_eq b c t u) (by simp [Made.takes]) h
theorem eq_bytes (b : Array UInt8) (t u : Tok) : EqAt A s (.bytes b t) (.bytes b u) true := fun prog w E Q h => by
  unfold eqBool
  refine wpAny_holding ?_
  refine wpAny_ite_split (fun _ => wpAny_bind (wpAny_rule (wpAny_pure h))) (fun _ => ?_)
  exact wpAny_bind (rc_bytes b b t u prog w E _ (wpAny_truthy_bool (by rw [beq_self_eq_true]; exact h)))
theorem bInts_inj {b c : Array UInt8} (h : KBw.bInts b = KBw.bInts c) : b = c := by
  unfold KBw.bInts at h
  have e : b.toList = c.toList := List.map_inj_right (fun x y q => UInt8.toNat_inj.mp (Int.ofNat.inj q)) |>.mp h
  exact Array.toList_inj.mp e
theorem all_true (n : Nat) : ((List.range n).all fun _ => true) = true := by simp
theorem eq_row {n1 n2 : List (Addr × Obj)} {v v' : Value} {r : Row} {h₀ : Heap} {L : Addr} (N1 : News h₀ L s.heap n1) (N2 : News h₀ L s.heap n2) (h1 : RowIs n1 v r) (h2 : RowIs n2 v' r) (hu : A.units < cLine) : EqAt A s v v' true := by
  obtain ⟨a, b1, b2, t1, t2, c, rfl, e1, e2, e3⟩ := h1
  obtain ⟨a', b1', b2', t1', t2', c', rfl, e1', e2', e3'⟩ := h2
  obtain rfl := bInts_inj (e2.trans e2'.symm)
  obtain rfl := bInts_inj (e3.trans e3'.symm)
  by_cases q : a = a'
  · subst q; exact EqAt.same _
  · refine EqAt.of_refs q ?_
    have := RcAt.tuples (A := A) (e := fun _ => true) (⟨_, (N1 _ e1).1, rfl, c, rfl⟩ : s.heap.IsTuple a _) (⟨_, (N2 _ e1').1, rfl, c', rfl⟩ : s.heap.IsTuple a' _) hu fun j h1 h2 => ?_
    · rw [all_true] at this; exact this
    · match j, h1, h2 with
      | 0, _, _ => exact eq_bytes b1 t1 t1'
      | 1, _, _ => exact eq_bytes b2 t2 t2'
theorem eq_rows {n1 n2 : List (Addr × Obj)} {vs ws : List Value} {rs : List Row} {a b : Addr} {ca cb : Nat} {h₀ : Heap} {L : Addr} (N1 : News h₀ L s.heap n1) (N2 : News h₀ L s.heap n2) (h1 : RowsAre n1 vs rs) (h2 : RowsAre n2 ws rs) (ha : (a, listOf vs.toArray ca) ∈ n1) (hb : (b, listOf ws.toArray cb) ∈ n2) (hu : A.units + 1 < cLine) : EqAt A s (.ref a) (.ref b) true := by
  by_cases q : a = b
  · subst q; exact EqAt.same _
  · refine EqAt.of_refs q ?_
    have l1 := h1.len
    have l2 := h2.len
    have := RcAt.lists (A := A) (e := fun _ => true) (N1.isList ha) (N2.isList hb) (by rw [List.size_toArray, List.size_toArray]; omega) (by omega) fun j j1 j2 => ?_
    · rw [all_true] at this; exact this
    · rw [List.size_toArray] at j1 j2
      obtain ⟨v, r, q1, q2, q3⟩ := h1.at j1
      obtain ⟨v', r', q1', q2', q3'⟩ := h2.at j2
      rw [q2] at q2'
      cases q2'
      rw [List.getElem_toArray, List.getElem_toArray]
      rw [List.getElem?_eq_getElem j1] at q1
      rw [List.getElem?_eq_getElem j2] at q1'
      cases q1
      cases q1'
      exact eq_row N1 N2 q3 q3' hu
/-- what the table holds and what the law reckons are the same -/
theorem ne_worlds {prog : Program} {w : World} {E : Value → Shared → Prop} {Q : Value → Shared → Prop} {n1 n2 : List (Addr × Obj)} {vs ws : List Value} {rs : List Row} {a b p q : Addr} {ca cb cp cq : Nat} {h₀ : Heap} {L : Addr} {cap ins : Int} {t1 t2 t3 t4 : Tok}
    (N : News h₀ L s.heap n1) (s2 : ∀ p ∈ n2, p ∈ n1) (h1 : RowsAre n1 vs rs) (h2 : RowsAre n2 ws rs) (ha : (a, listOf vs.toArray ca) ∈ n1) (hb : (b, listOf ws.toArray cb) ∈ n1)
    (hp : (p, tupO [.int cap t1, .ref a, .int ins t2] cp) ∈ n1) (hq : (q, tupO [.int cap t3, .ref b, .int ins t4] cq) ∈ n1) (hu : A.units + 64 < cLine) (h : Q (.bool false) s) : wpAny (model prog w) A (compareOp .NotEq (.ref p) (.ref q)) Q E s := by
  have := RcNeAt.tuples (A := A) (e := fun _ => true) (⟨_, (N _ hp).1, rfl, cp, rfl⟩ : s.heap.IsTuple p _) (⟨_, (N _ hq).1, rfl, cq, rfl⟩ : s.heap.IsTuple q _) (by omega) fun j j1 j2 => ?_
  · rw [all_true] at this
    exact this prog w E Q h
  · match j, j1, j2 with
    | 0, _, _ => exact (by have := EqAt.int_int (A := A.in1) (s := s) cap t1 cap t3; rw [beq_self_eq_true] at this; exact this)
    | 1, _, _ => exact eq_rows N N h1 (RowsAre.sub s2 h2) ha hb (by show A.units + 1 + 1 < cLine; omega)
    | 2, _, _ => exact (by have := EqAt.int_int (A := A.in1) (s := s) ins t2 ins t4; rw [beq_self_eq_true] at this; exact this)
theorem ne_nil {prog : Program} {w : World} {E : Value → Shared → Prop} {Q : Value → Shared → Prop} {news : List (Addr × Obj)} {v : Value} {vs : List Value} {a b : Addr} {ca cb : Nat} {h₀ : Heap} {L : Addr}
    (N : News h₀ L s.heap news) (ha : (a, listOf (v :: vs).toArray ca) ∈ news) (hb : (b, listOf (#[] : Array Value) cb) ∈ news) (hu : A.units + 64 < cLine) (h : Q (.bool true) s) : wpAny (model prog w) A (compareOp .NotEq (.ref a) (.ref b)) Q E s :=
  RcNeAt.lists_lengths (A := A) (N.isList ha) (N.isList hb) (by rw [List.size_toArray]; rfl) (by omega) prog w E Q h
end
/-- the last item -/
theorem sub_last {prog : Program} {w : World} {A : Around} {E : Value → Shared → Prop} {s : Shared} {h₀ : Heap} {L : Addr} {news : List (Addr × Obj)} {value slice : Expr} {a : Addr} {vs : List Value} {v : Value} {n : Nat} {u : Tok} {Q : Value → Shared → Prop}
    (N : News h₀ L s.heap news) (hm : (a, listOf vs.toArray n) ∈ news) (hv : vs.getLast? = some v) (hz : vs.length ≤ 4096) (h : Q v s)
    (hs : subscripted slice false (.ref a) (.int (-1) u) = operate [.ref a, .int (-1) u] (getItem (.ref a) (.int (-1) u)) := by with_unfolding_all rfl) :
    wpAny (model prog w) A (subscriptTail value slice (.ref a) (.int (-1) u)) Q E s := by
  have hl : s.heap.IsList a vs.toArray := N.isList hm
  have hne : vs ≠ [] := by intro q; rw [q] at hv; cases hv
  have hpos := List.length_pos_iff.mpr hne
  refine tail_any hl.typeIs slot_list_getitem.lookup (wpAny_getItem_list_neg hl (by decide) (by rw [List.size_toArray]; omega) (by decide) ?_ h) hs
  rw [List.size_toArray, List.getElem?_toArray, ← hv, List.getLast?_eq_getElem?]
  congr 1
  omega
/-- a menu of three -/
theorem menu3 {prog : Program} {w : World} {A : Around} {E : Value → Shared → Prop} {s : Shared} {h₀ : Heap} {L : Addr} {news : List (Addr × Obj)} {value slice : Expr} {a : Addr} {x y z : Value} {n : Nat} {k : Int} {u : Tok} {Q : Value → Shared → Prop} (P : Value → Prop)
    (N : News h₀ L s.heap news) (hm : (a, listOf [x, y, z].toArray n) ∈ news) (h0 : 0 ≤ k) (h1 : k < 3) (px : P x) (py : P y) (pz : P z) (h : ∀ v, P v → Q v s)
    (hs : subscripted slice false (.ref a) (.int k u) = operate [.ref a, .int k u] (getItem (.ref a) (.int k u)) := by with_unfolding_all rfl) :
    wpAny (model prog w) A (subscriptTail value slice (.ref a) (.int k u)) Q E s := by
  have hl : s.heap.IsList a [x, y, z].toArray := N.isList hm
  have hk : k = 0 ∨ k = 1 ∨ k = 2 := by omega
  rcases hk with rfl | rfl | rfl
  · exact tail_any hl.typeIs slot_list_getitem.lookup (wpAny_getItem_list hl (by decide) (by decide) rfl (h _ px)) hs
  · exact tail_any hl.typeIs slot_list_getitem.lookup (wpAny_getItem_list hl (by decide) (by decide) rfl (h _ py)) hs
  · exact tail_any hl.typeIs slot_list_getitem.lookup (wpAny_getItem_list hl (by decide) (by decide) rfl (h _ pz)) hs

end
/-! ## MSteps -/
noncomputable def BytesAre : List Value → List (List Int) → Prop
  | [], [] => True
  | v :: vs, p :: ps => (∃ b t, v = .bytes b t ∧ KBw.bInts b = p) ∧ BytesAre vs ps
  | _, _ => False
inductive WorldIn (news : List (Addr × Obj)) (v : Value) (t : Tab) : Prop
  | mk : ∀ a lr vs t1 t2 c c2, (v = .ref a) → ((a, tupO [.int t.cap t1, .ref lr, .int t.ins t2] c) ∈ news) → ((lr, listOf vs.toArray c2) ∈ news) → (RowsAre news vs t.rows) → WorldIn news v t
noncomputable def StepIs (news : List (Addr × Obj)) (v : Value) (s : Int × Tab) : Prop := ∃ a t1 wv c, v = .ref a ∧ (a, tupO [.int s.1 t1, wv] c) ∈ news ∧ WorldIn news wv s.2
noncomputable def StepsAre (news : List (Addr × Obj)) : List Value → List (Int × Tab) → Prop
  | [], [] => True
  | v :: vs, s :: ss => StepIs news v s ∧ StepsAre news vs ss
  | _, _ => False
theorem StepsAre.len {news : List (Addr × Obj)} : ∀ {vs : List Value} {ss : List (Int × Tab)}, StepsAre news vs ss → vs.length = ss.length
  | [], [], _ => rfl
  | _ :: _, _ :: _, h => congrArg (· + 1) h.2.len
  | [], _ :: _, h => h.elim
  | _ :: _, [], h => h.elim
noncomputable def StopIs (v : Value) : Option Int → Prop
  | none => v = .none
  | some k => ∃ t, v = .int k t
noncomputable def QAre (news : List (Addr × Obj)) : List (Value × Value) → List (Int × Tab) → Prop
  | [], [] => True
  | q :: qs, s :: ss => ((∃ t, q.1 = .int s.1 t) ∧ WorldIn news q.2 s.2) ∧ QAre news qs ss
  | _, _ => False
noncomputable def keepE (k : Int) : Value × Value → Bool := fun q => match q.1 with | .int e _ => decide (e ≤ k) | _ => false
theorem steps_pairs {news : List (Addr × Obj)} : ∀ {vs : List Value} {ss : List (Int × Tab)}, StepsAre news vs ss →
    ∃ qs, qs.length = vs.length ∧ (∀ i, i < vs.length → ∃ a c q, vs[i]? = some (.ref a) ∧ qs[i]? = some q ∧ (a, tupO [q.1, q.2] c) ∈ news) ∧ QAre news qs ss
  | [], [], _ => ⟨[], rfl, fun i h => absurd h (Nat.not_lt_zero _), trivial⟩
  | v :: vs, s :: ss, h => by
    obtain ⟨qs, h1, h2, h3⟩ := steps_pairs h.2
    obtain ⟨a, t1, wv, c, e1, e2, e3⟩ := h.1
    refine ⟨(.int s.1 t1, wv) :: qs, by simp [h1], fun i hi => ?_, ⟨⟨t1, rfl⟩, e3⟩, h3⟩
    cases i with
    | zero => exact ⟨a, c, _, by rw [e1]; rfl, rfl, e2⟩
    | succ i => exact h2 i (Nat.lt_of_succ_lt_succ hi)
  | [], _ :: _, h => h.elim
  | _ :: _, [], h => h.elim
theorem QAre.int {news : List (Addr × Obj)} : ∀ {qs : List (Value × Value)} {ss : List (Int × Tab)}, QAre news qs ss → ∀ q ∈ qs, ∃ e t, q.1 = .int e t
  | q :: qs, s :: ss, h, x, hx => by
    rcases List.mem_cons.mp hx with e | hx
    · rw [e]; exact ⟨_, h.1.1⟩
    · exact QAre.int h.2 x hx
  | [], _, _, _, hx => nomatch hx
  | _ :: _, [], h, _, _ => h.elim
theorem QAre.filt {news : List (Addr × Obj)} {k : Int} : ∀ {qs : List (Value × Value)} {ss : List (Int × Tab)}, QAre news qs ss → QAre news (qs.filter (keepE k)) (ss.filter fun p => decide (p.1 ≤ k))
  | [], [], _ => trivial
  | q :: qs, s :: ss, h => by
    obtain ⟨t, ht⟩ := h.1.1
    by_cases c : s.1 ≤ k
    · rw [List.filter_cons_of_pos (by unfold keepE; rw [ht]; simpa using c), List.filter_cons_of_pos (by simpa using c)]
      exact ⟨h.1, QAre.filt h.2⟩
    · rw [List.filter_cons_of_neg (by unfold keepE; rw [ht]; simpa using c), List.filter_cons_of_neg (by simpa using c)]
      exact QAre.filt h.2
  | [], _ :: _, h => h.elim
  | _ :: _, [], h => h.elim
theorem QAre.last {news : List (Addr × Obj)} : ∀ {qs : List (Value × Value)} {ss : List (Int × Tab)} {s : Int × Tab}, QAre news qs ss → ss.getLast? = some s → ∃ q, qs.getLast? = some q ∧ WorldIn news q.2 s.2
  | [], [], _, _, e => by cases e
  | [q], [s], _, h, e => by cases e; exact ⟨q, rfl, h.1.2⟩
  | q :: q' :: qs, s :: s' :: ss, x, h, e => by
    rw [List.getLast?_cons_cons] at e
    obtain ⟨z, h1, h2⟩ := QAre.last (qs := q' :: qs) (ss := s' :: ss) h.2 e
    exact ⟨z, by rw [List.getLast?_cons_cons]; exact h1, h2⟩
  | [], _ :: _, _, h, _ => h.elim
  | _ :: _, [], _, h, _ => h.elim
  | [_], _ :: _ :: _, _, h, _ => h.2.elim
  | _ :: _ :: _, [_], _, h, _ => h.2.elim
theorem last_world {news : List (Addr × Obj)} {qs : List (Value × Value)} {S : List Int} {steps : List (Int × Tab)} {stop : Option Int} {k : Int} {t0 : Tab} (hs : Strm 0 t0 S steps stop) (hq : QAre news qs ((0, t0) :: steps)) (h0 : 0 ≤ k) :
    ∃ wv, ((qs.filter (keepE k)).map (·.2)).getLast? = some wv ∧ WorldIn news wv (atT t0 steps k) := by
  obtain ⟨l1, l2⟩ := hs.look k h0
  obtain ⟨q, h1, h2⟩ := QAre.last (hq.filt (k := k)) l1
  rw [l2] at h2
  exact ⟨q.2, by rw [List.getLast?_map, h1]; rfl, h2⟩

/-! ## MJoin -/

inductive SJ (g : Heap) (L : Addr) (s : Shared) (m : Str → Option Value) (x : Str) (ledger : List (Addr × Obj)) (P : Value → Prop) (s' : Shared) : Prop
  | mk : ∀ v h' tk, (s' = { s with heap := h', toks := tk }) → (P v) → (Fr g L h' (fun y => if y = x then some v else m y)) → (News g L h' ledger) → SJ g L s m x ledger P s'
theorem SJ.intro {g h' : Heap} {L : Addr} {s : Shared} {m : Str → Option Value} {x : Str} {ledger : List (Addr × Obj)} {P : Value → Prop} {v : Value} {tk : Nat} (F : Fr g L h' (fun y => if y = x then some v else m y)) (N : News g L h' ledger) (hP : P v) : SJ g L s m x ledger P { s with heap := h', toks := tk } := ⟨v, h', tk, rfl, hP, F, N⟩
/-- the ways through a statement that stores one name meet behind it -/
theorem store_join {M : Model} {A : Around} {E : Value → Shared → Prop} {Q : Flow → Shared → Prop} {s : Shared} {env : Env} {st : Stmt} {rest : List Stmt} {g : Heap} {L : Addr} {m : Str → Option Value} (x : Str) (ledger : List (Addr × Obj)) (P : Value → Prop) {full : List (Addr × Obj)} (hF : Fr g L s.heap m) (hN : News g L s.heap full) (_sub : ∀ p ∈ ledger, p ∈ full)
    (h : let J9 : Shared → Prop := SJ g L s m x ledger P
      wpAny M A (exec st env) (fun f s' => match f with | .next => J9 s' | f => Q f s') E s)
    (k : ∀ v h' tk, P v → Fr g L h' (fun y => if y = x then some v else m y) → News g L h' ledger → wpAny M A (execs rest env) Q E { s with heap := h', toks := tk }) : wpAny M A (execs (st :: rest) env) Q E s :=
  join_next (SJ g L s m x ledger P) h fun s' ⟨v, h', tk, e, hP, F, N⟩ => by subst e; exact k v h' tk hP F N
/-- the ways through a statement that stores nothing meet behind it -/
theorem skip_join {M : Model} {A : Around} {E : Value → Shared → Prop} {Q : Flow → Shared → Prop} {s : Shared} {env : Env} {st : Stmt} {rest : List Stmt} {g : Heap} {L : Addr} {m : Str → Option Value} (ledger : List (Addr × Obj)) (P : Prop) {full : List (Addr × Obj)} (hF : Fr g L s.heap m) (hN : News g L s.heap full) (_sub : ∀ p ∈ ledger, p ∈ full)
    (h : let J9 : Shared → Prop := JN g L s m ledger P
      wpAny M A (exec st env) (fun f s' => match f with | .next => J9 s' | f => Q f s') E s)
    (k : ∀ h' tk, P → Fr g L h' m → News g L h' ledger → wpAny M A (execs rest env) Q E { s with heap := h', toks := tk }) : wpAny M A (execs (st :: rest) env) Q E s :=
  join_next (JN g L s m ledger P) h fun s' ⟨hP, h', tk, e, F, N⟩ => by subst e; exact k h' tk hP F N
theorem allLt_mem {d : Nat} : ∀ {l : List (Addr × Obj)}, AllLt d l → ∀ p ∈ l, @LT.lt Nat _ p.1 d
  | [], _, _, hp => (nomatch hp)
  | q :: l, h, p, hp => by
    rcases List.mem_cons.mp hp with e | hp
    · rw [e]; exact h.1
    · exact allLt_mem h.2 p hp

/-! ## MHeardA -/
section
variable {prog : Program} {w : World} {A A₀ : Around} {E : Value → Shared → Prop} {s : Shared} {K : Frag} {L : Addr} {h₀ base : Heap} {m mg mb : Str → Option Value} {news : List (Addr × Obj)} {p : Program} {loose : List Str} {mean : ExcName → Option Value}
/-- a def with cells is entered; what stands behind it is not said -/
theorem code_cellsR {env : Env} {outer : List Env} {R : Result → Shared → Prop} {name qual : Str} {params : Arguments} {body : List Stmt} {scope : Scope} {dV kV doc pm cdv ct oc : Value} {an od : Option Addr} {osl : Array (Option Value)} {f : Addr} {args : Args} {binds : List (Str × Value)}
    (B : Below A₀ base outer h₀) (F : Fr h₀ L s.heap m) (X₀ : K.In h₀) (N : News h₀ L s.heap news) (T : Top p loose mean mg mb h₀) (hA : A.frames = some (env :: outer)) (hf : env.frame = some L) (hke : env.scope.kind = .function)
    (ho : K.lookup f = some ⟨oc, od, .func (fnOf name qual params body scope dV kV doc pm an cdv ct), osl⟩) (hcd : codeIn K cdv qual = true) (hroom : A.depth < recursionLimit)
    (hbind : BindsTo s (fnOf name qual params body scope dV kV doc pm an cdv ct) args binds) (hkind : (binds.all fun y => scope.names.lookup y.1 == some .local || scope.names.lookup y.1 == some .cell) = true)
    (hnd : ((cellsFrom 0 scope.names []).map (·.1)).Nodup)
    (h : ∀ g L' h₁ tk cells, Fr h₀ L g m → Fr g L' h₁ (bindL (envOfC qual scope L' f cdv).kindOf binds fun _ => none) → News g L' h₁ (cells ++ news) →
      CellsAre (bindC (envOfC qual scope L' f cdv).kindOf binds fun _ => none) (cellsFrom (L' + 1) scope.names []) cells → Below A base (env :: outer) g → K.In g → Top p loose mean mg mb g → (∀ p ∈ news, p.1 < L') →
      wpAny (model prog w) (A.deeper (envOfC qual scope L' f cdv)) (execs body (envOfC qual scope L' f cdv))
        (fun fl s' => R (.ok (.ret (match fl with | .ret v => v | _ => .none))) s')
        (fun e s' => wpAny (model prog w) (A.deeper (envOfC qual scope L' f cdv)) (leaving (envOfC qual scope L' f cdv) e) (fun _ s'' => R (.error e) s'') (fun e' s'' => R (.error e') s'') s')
        { s with heap := h₁, toks := tk })
    (hco : scope.isCoroutine = false) (hgen : scope.isGenerator = false) (hk : scope.kind = .function) : codeAny (model prog w) A (.call (.ref f) args) R s := by
  obtain ⟨FG, BG, st, lv⟩ := groundX (R := R) B F N hA hf hke
  refine codeAny_call_function hroom ((X₀.keeps F.keep) _ _ ho) rfl hco hgen rfl (codeRec_of (X₀.keeps F.keep) hcd) (hbind _ _ _ _ ?_)
  refine wpAny_newFunctionEnv_cells hk (kindsX hkind _) fun env' he s' x => ?_
  subst he
  refine ⟨(T.nolimit.keeps F.keep).keeps x.toInCall.keep, codeAny_func ?_⟩
  obtain ⟨h₁, tk, rfl, _⟩ := x.done
  have hk₁ := x.toInCall.keep
  obtain ⟨cells, NC, Y⟩ := Cl.news (h₀ := s.heap) (Nat.le_refl _) fun n c hm => ⟨x.cell n c (lookup_of_mem_nodup (cellsFrom_names scope.names 0 (s.heap.objs.size + 1) [] [] rfl ▸ hnd) hm), x.above n c hm⟩
  refine h _ s.heap.objs.size h₁ tk cells FG ⟨x.toInCall.ns, fun b o e => hk₁ b o (of_hideAll _ e), Nat.le_of_eq (hideAll_size _ _)⟩ (fun p hp => ?_) Y BG (X₀.keeps st) (T.keeps st) (fun p hp => Heap.lt_size (N p hp).1)
  rcases List.mem_append.mp hp with hp | hp
  · refine ⟨(NC p hp).1, (NC p hp).2.1, ?_⟩
    cases q : (hideAll s.heap (news.map (·.1))).get? p.1 with
    | none => rfl
    | some o => have := of_hideAll _ q; rw [(NC p hp).2.2] at this; cases this
  · exact ⟨hk₁ _ _ (N p hp).1, Nat.ne_of_lt (Heap.lt_size (N p hp).1), hideAll_none _ (List.mem_map_of_mem hp)⟩

/-- a for over a list, whose turn may change what lies below -/
theorem For_own {env : Env} {x : Str} {px : Pos} {body : List Stmt} {Q : Flow → Shared → Prop} {I l : Addr} {items : Array Value} (hh : A.handled = none) (J : Nat → Shared → Prop)
    (hJ : ∀ i s, J i s → s.heap.IsListIter I l i ∧ s.heap.IsList l items ∧ i ≤ items.size)
    (turn : ∀ i v (s : Shared) h', J i s → items[i]? = some v → h'.IsListIter I l (i + 1) → Heap.SameBut I s.heap h' →
      let P9 : Flow → Shared → Prop := fun f s₃ => match f with
        | .next | .cont => J (i + 1) s₃
        | .brk => Q .next s₃
        | .ret v => Q (.ret v) s₃
      let E9 : Value → Shared → Prop := notedBy (model prog w) A env fun e s' => cameBackBy (model prog w) A env E e s'
      wpAny (model prog w) A (assign (.Name x px) env v) (fun _ s₂ => wpAny (model prog w) A (execs body env) P9 E9 s₂) E9 { s with heap := h' })
    (done : ∀ (s : Shared) h', J items.size s → Heap.ExtBut I s.heap h' → Q .next { s with heap := h' }) (s₀ : Shared) (h0 : J 0 s₀) :
    codeAny (model prog w) A (.forLoop (.Name x px) (.ref I) body [] env) (fun r s' => match r with | .ok f => Q f s' | .error e => cameBackBy (model prog w) A env E e s') s₀ := by
  refine codeAny_forLoop_any (fun n s' => ∃ i, n = items.size - i ∧ i ≤ items.size ∧ J i s') (fun n s' q => ?_) _ ⟨0, rfl, Nat.zero_le _, h0⟩
  obtain ⟨i, rfl, hi, hj⟩ := q
  obtain ⟨hit, hl, _⟩ := hJ i s' hj
  by_cases hlt : i < items.size
  · have hx : items[i]? = some items[i] := Array.getElem?_eq_getElem hlt
    refine wpAny_pyNext_list_item hit hl hx fun h' hit' hsb => ?_
    dsimp only
    refine wpAny_of_eq (a := ()) rfl ?_
    refine wpAny_mono (turn i _ s' h' hj hx hit' hsb) (fun _ s₂ q => ?_) fun _ _ z => z
    refine wpAny_mono q (fun f s₃ q3 => ?_) fun _ _ z => z
    cases f with
    | next => exact ⟨_, by omega, i + 1, rfl, hlt, q3⟩
    | cont => exact ⟨_, by omega, i + 1, rfl, hlt, q3⟩
    | brk => exact q3
    | ret v => exact q3
  · obtain rfl : i = items.size := Nat.le_antisymm hi (Nat.not_lt.mp hlt)
    refine wpAny_pyNext_list_end hh hit hl (Array.getElem?_eq_none (Nat.le_refl _)) fun h' hs => ?_
    exact wpAny_execs_nil (done s' h' hj hs)
end

noncomputable def IterIs (io : Obj) (l : Addr) (i : Nat) : Prop := io.cls = .type "list_iterator" ∧ io.data = .fields #[.ref l, .int (i : Int) 0]
/-- the iterator has gone on by one -/
theorem iter_step {h₀ h h' : Heap} {L I l : Addr} {m : Str → Option Value} {ledger : List (Addr × Obj)} {io : Obj} {i : Nat} (F : Fr h₀ L h m) (N : News h₀ L h ((I, io) :: ledger)) (hne : ∀ p ∈ ledger, p.1 ≠ I) (hit : h'.IsListIter I l i) (sb : Heap.SameBut I h h') :
    ∃ io', IterIs io' l i ∧ Fr h₀ L h' m ∧ News h₀ L h' ((I, io') :: ledger) := by
  obtain ⟨o, e, r⟩ := hit
  have hI := N (I, io) (.head _)
  refine ⟨o, r, ⟨F.ns.at' fun o e => sb.extBut L o (Ne.symm hI.2.1) e, fun b o e => sb.extBut b o (fun q => by rw [q, hI.2.2] at e; cases e) (F.keep b o e), F.above⟩, fun p hp => ?_⟩
  rcases List.mem_cons.mp hp with q | hp
  · rw [q]; exact ⟨e, hI.2⟩
  · exact ⟨sb.extBut _ _ (hne p hp) (N p (.tail _ hp)).1, (N p (.tail _ hp)).2⟩
theorem iter_done {h₀ h h' : Heap} {L I : Addr} {m : Str → Option Value} {ledger : List (Addr × Obj)} {io : Obj} (F : Fr h₀ L h m) (N : News h₀ L h ((I, io) :: ledger)) (hne : ∀ p ∈ ledger, p.1 ≠ I) (sb : Heap.ExtBut I h h') :
    Fr h₀ L h' m ∧ News h₀ L h' ledger := by
  have hI := N (I, io) (.head _)
  refine ⟨⟨F.ns.at' fun o e => sb L o (Ne.symm hI.2.1) e, fun b o e => sb b o (fun q => by rw [q, hI.2.2] at e; cases e) (F.keep b o e), F.above⟩, fun p hp => ?_⟩
  exact ⟨sb _ _ (hne p hp) (N p (.tail _ hp)).1, (N p (.tail _ hp)).2⟩

section
variable {prog : Program} {w : World} {A₀ : Around} {KF : Frag} {E : Value → Shared → Prop} {s' : Shared} {base h₀ h : Heap} {outer : List Env} {L a e dx C C' : Addr} {m : Str → Option Value} {name : Str} {scope : Scope} {cd : Value} {cl : List (Str × Addr)} {Q : Flow → Shared → Prop} {news : List (Addr × Obj)} {cx : Value}
  {p : Program} {loose : List Str} {mean : ExcName → Option Value} {mg mb : Str → Option Value} {x : Str} {np pos : Pos} {b₀ : Stmt} {suite : List Stmt} {rest : List ExceptHandler} {kd kd' : ClassData}
theorem catch_startX {hs : List ExceptHandler} (K : Below A₀ base outer h₀) (R : FlyK base (envX name scope L a cd cl :: outer) e (.ref C) dx cx news s'.heap)
    (k : ∀ h', FlyK base (envX name scope L a cd cl :: outer) e (.ref C) dx cx news h' → s'.heap.UpToSlots h' → wpAny (model prog w) (A₀.deeper (envX name scope L a cd cl)) (handleBy (.ref e) (envX name scope L a cd cl) hs) Q E { s' with heap := h' }) :
    wpAny (model prog w) (A₀.deeper (envX name scope L a cd cl)) (noteFrame (.ref e) (envX name scope L a cd cl)) (fun _ s₂ => wpAny (model prog w) (A₀.deeper (envX name scope L a cd cl)) (setFlight (.ref e) none) (fun _ s₃ => wpAny (model prog w) (A₀.deeper (envX name scope L a cd cl)) (handleBy (.ref e) (envX name scope L a cd cl) hs) Q E s₃) E s₂) E s' := by
  obtain ⟨B, hB, hl, hx⟩ := R
  refine fly_note (Around.frames_deeper K.stack) rfl hx fun h₁ x₁ u₁ => fly_flight x₁ fun h₂ x₂ u₂ => ?_
  exact k h₂ ⟨B, hB, hl, x₂⟩ (u₁.trans u₂)
theorem clause_testX {nm : Option Str} {bd : List Stmt} {b : Bool} (K : Below A₀ base outer h₀) (F : Fr h₀ L h m) (u : h.UpToSlots s'.heap) (R : FlyK base (envX name scope L a cd cl :: outer) e (.ref C) dx cx news s'.heap) (X : KF.In base) (T : TopRead p loose mg mb base)
    (hn : nsIn KF mainGlobals x = some (some (.ref C'))) (hcd : clsIn KF C = some kd) (hm : kd.mro = excMro C) (hcd' : clsIn KF C' = some kd') (hm' : kd'.mro = excMro C') (hT : typeIn KF (.ref C') = some (.type "type")) (hb : (excMro C).contains (.ref C') = b)
    {R' : Result → Shared → Prop} (k : R' (.ok (if b then .brk else .next)) s') (hk : scope.kind = .function := by rfl) (hxk : (envX name scope L a cd cl).kindOf x = some .globalImplicit := by rfl) (hd : (x == ("__debug__" : Str)) = false := by decide) :
    codeAny (model prog w) ((A₀.deeper (envX name scope L a cd cl)).mark (some (.ref e))) (.handlers (.ref e) [.ExceptHandler (some (.Name x np)) none [] pos] (envX name scope L a cd cl)) R' s' := by
  obtain ⟨h₁, t0, TB, K₁, F₁, N₁⟩ := rebase K F u R rfl
  have X₁ := X.keeps K₁.stays
  refine codeAny_handlers_test (nameX_K F₁ X₁ (T.keeps K₁.stays) hn ?_ hk hxk hd)
  exact exc_matches (N₁ _ (.head _)).1 (X₁.keeps F₁.keep) hcd hm hcd' hm' hT hb k
theorem clause_hit_asX {n : Str} (K : Below A₀ base outer h₀) (F : Fr h₀ L h m) (u : h.UpToSlots s'.heap) (R : FlyK base (envX name scope L a cd cl :: outer) e (.ref C) dx cx news s'.heap) (X : KF.In base) (T : TopRead p loose mg mb base)
    (hn : nsIn KF mainGlobals x = some (some (.ref C'))) (hcd : clsIn KF C = some kd) (hm : kd.mro = excMro C) (hcd' : clsIn KF C' = some kd') (hm' : kd'.mro = excMro C') (hT : typeIn KF (.ref C') = some (.type "type")) (hb : (excMro C).contains (.ref C') = true)
    (k : ∀ h₁ h' t0 TB tk, Below A₀ base outer h₁ → Fr h₁ L h' (fun y => if y = n then some (.ref e) else m y) → News h₁ L h' ((e, excO (.ref C) (some dx) t0 (.ref TB) cx) :: news) → Keeps outer h₀ h₁ →
      wpAny (model prog w) ((A₀.deeper (envX name scope L a cd cl)).mark (some (.ref e))) (execs (b₀ :: suite) (envX name scope L a cd cl))
        (fun f s₄ => wpAny (model prog w) (A₀.deeper (envX name scope L a cd cl)) (do bindName (envX name scope L a cd cl) n .none; unbindBehindTheSuite (envX name scope L a cd cl) n pos) (fun _ s₅ => Q f s₅) E s₄)
        (AsSuiteRaised (model prog w) ((A₀.deeper (envX name scope L a cd cl)).mark (some (.ref e))) (envX name scope L a cd cl) n pos (notedBy (model prog w) ((A₀.deeper (envX name scope L a cd cl)).mark (some (.ref e))) (envX name scope L a cd cl) (cameBackBy (model prog w) (A₀.deeper (envX name scope L a cd cl)) (envX name scope L a cd cl) E)))
        { s' with heap := h', toks := tk })
    (hk : scope.kind = .function := by rfl) (hxk : (envX name scope L a cd cl).kindOf x = some .globalImplicit := by rfl) (hd : (x == ("__debug__" : Str)) = false := by decide) (hlo : (envX name scope L a cd cl).kindOf n = some .local := by rfl) :
    wpAny (model prog w) (A₀.deeper (envX name scope L a cd cl)) (handleBy (.ref e) (envX name scope L a cd cl) (.ExceptHandler (some (.Name x np)) (some n) (b₀ :: suite) pos :: rest)) Q E s' := by
  refine wpAny_handleBy_cons (clause_testX (nm := some n) (bd := b₀ :: suite) K F u R X T hn hcd hm hcd' hm' hT hb ?_ hk hxk hd) (by intro q; cases q)
  obtain ⟨B, hB, hl, hx⟩ := R
  refine codeAny_handlers_suite_as (fly_flight hx fun h₂ x₂ u₂ => ?_)
  obtain ⟨h₁, t0, TB, K₁, F₁, N₁, Kp⟩ := rebaseK K F (u.trans u₂) ⟨B, hB, hl, x₂⟩ rfl
  exact storeX_L (s := { s' with heap := h₂ }) F₁ N₁ (fun h₃ F₃ N₃ => k h₁ h₃ t0 TB _ K₁ F₃ N₃ Kp) hk hlo
/-- behind the suite the name goes -/
theorem name_gone {M : Model} {A : Around} {E : Value → Shared → Prop} {s : Shared} {h₀ : Heap} {n : Str} {pos : Pos} {Q : Unit → Shared → Prop} (F : Fr h₀ L s.heap m) (N : News h₀ L s.heap news)
    (h : ∀ h' v, Fr h₀ L h' (fun y => if y = n then v else m y) → News h₀ L h' news → Q () { s with heap := h', toks := s.toks + 1 }) (hk : scope.kind = .function := by rfl) (hlo : (envX name scope L a cd cl).kindOf n = some .local := by rfl) :
    wpAny M A (do bindName (envX name scope L a cd cl) n .none; unbindBehindTheSuite (envX name scope L a cd cl) n pos) Q E s :=
  wpAny_nameGoes_keeps hlo F.ns (by show (scope.kind == .class || (scope.kind == .module && L != mainGlobals)) = false; rw [hk]; rfl) fun h' v hn sb =>
    h h' v (F.set hn sb) (N.set sb)
end

/-! ## MHeard -/
theorem kw_line68 : True := by
  (k_with "my ENTERC" => ((refine' code_cellsR ?k1_q ?k2_q ?k3_q ?k4_q ?k5_q ?kA_q ?kF_q ?kK_q ?k6_q ?k7_q ?k8_q ?k9_q ?kB_q ?kD_q ?_ ?c2_q ?c3_q ?c4_q; (case kA_q => exact rfl); (case kF_q => exact rfl); (case kK_q => assumption); (case k1_q => k_asm); (case k2_q => k_asm); (case k3_q => k_asm); (case k4_q => k_asm); (case k5_q => k_asm); (case k6_q => k_is); (case k7_q => k_is); (case k8_q => ktr_room); (case k9_q => exact BindsTo.of_eq rfl); (case kB_q => exact rfl); (case kD_q => decide +kernel); (case c2_q => exact rfl); (case c3_q => exact rfl); (case c4_q => exact rfl); k_whole; intro _ _ _ _ _ _ _ N' Y' _ _ _ _; k_cells Y'; (try simp only [List.cons_append, List.nil_append] at N'); (try dsimp only); (try k_fold))))
  trivial
noncomputable abbrev heardM (pl sl : Addr) (stopV : Value) : Str → Option Value := fun y => if y = Str.ofString "stop" then some stopV else if y = Str.ofString "steps" then some (.ref sl) else if y = Str.ofString "pieces" then some (.ref pl) else none
inductive DecPick (w : World) (g h : Heap) (L cc pl sl : Addr) (stopV : Value) (co : Obj) (news : List (Addr × Obj)) : Prop
  | mk : ∀ (tT dT lR aR dR lW : Addr) (q0 q1 q2 q3 n1 n2 n3 n4 n5 tb u1 u2 m1 m2 m3 m4 m5 : Tok) (c1 c2 : Nat), (Fr g L h (fun y => if y = Str.ofString "is_refused" then some (.bool false) else if y = Str.ofString "reader" then some (.ref aR) else heardM pl sl stopV y)) → (News g L h (canL w tT dT lR aR dR lW t00 #[] [] c2 c1 q0 q1 q2 q3 n1 n2 n3 n4 n5 tb u1 u2 m1 m2 m3 m4 m5 ((cc, co) :: news))) → (Apart dT lR dR ((cc, co) :: news)) → (@LT.lt Nat _ cc dR) → (@LT.lt Nat _ dR aR) → (@LT.lt Nat _ aR dT) → (@LT.lt Nat _ dT tT) → (@LT.lt Nat _ tT lR) → (@LT.lt Nat _ lR lW) → DecPick w g h L cc pl sl stopV co news
theorem dec_pick {w : World} {g h : Heap} {L D0 lW lR tT dT aR dR cc pl sl : Addr} {stopV : Value} {o0 co : Obj} {c1 c2 : Nat} {q0 q1 q2 q3 n1 n2 n3 n4 n5 tb u1 u2 m1 m2 m3 m4 m5 : Tok} {news : List (Addr × Obj)}
    (F : Fr g L h (fun y => if y = Str.ofString "is_refused" then some (.bool false) else if y = Str.ofString "reader" then some (.ref aR) else heardM pl sl stopV y))
    (N : News g L h ((D0, o0) :: (lW, listOf #[] c1) :: (lR, listOf #[] c2) :: (tT, instObj 290 dT) :: (dT, dictOf (tabAttrs w lR 0 0 0 q0 q1 q2 q3 n1 n2 n3 n4 n5) 5) :: (aR, instObj 402 dR) :: (dR, dictOf (decAttrs w tT lW #[] tb u1 u2 m1 m2 m3 m4 m5) 5) :: (cc, co) :: news))
    (o1 : @LT.lt Nat _ cc dR) (o2 : @LT.lt Nat _ dR aR) (o3 : @LT.lt Nat _ aR dT) (o4 : @LT.lt Nat _ dT tT) (o5 : @LT.lt Nat _ tT lR) (o6 : @LT.lt Nat _ lR lW) (hlt : ∀ p ∈ news, @LT.lt Nat _ p.1 cc) :
    DecPick w g h L cc pl sl stopV co news := by
  refine ⟨tT, dT, lR, aR, dR, lW, q0, q1, q2, q3, n1, n2, n3, n4, n5, tb, u1, u2, m1, m2, m3, m4, m5, c1, c2, F, fun p hp => N p ?_, ⟨?_, ?_, ?_⟩, o1, o2, o3, o4, o5, o6⟩
  · simp only [canL, List.mem_cons] at hp ⊢
    rcases hp with hp | hp | hp | hp | hp | hp | hp | hp <;> first | (simp only [hp, true_or, or_true]; done) | (right; right; right; right; left; exact hp) | (right; right; left; exact hp)
  all_goals
    intro p hp
    rcases List.mem_cons.mp hp with e | hp
    · rw [e]; show @Ne Nat _ _; omega
    · have := hlt p hp
      show @Ne Nat _ _
      omega
inductive IterNew (h₀ h : Heap) (L pl : Addr) (m : Str → Option Value) (ledger : List (Addr × Obj)) : Prop
  | mk : ∀ (I : Addr), (h.objs.size = I) → (Fr h₀ L (h.push { cls := .type "list_iterator", data := .fields #[.ref pl, .int 0 0] }) m) → (News h₀ L (h.push { cls := .type "list_iterator", data := .fields #[.ref pl, .int 0 0] }) ((I, { cls := .type "list_iterator", data := .fields #[.ref pl, .int 0 0] }) :: ledger)) → ((∀ p ∈ ledger, @LT.lt Nat _ p.1 I)) → IterNew h₀ h L pl m ledger
theorem iter_new {h₀ h : Heap} {L pl : Addr} {m : Str → Option Value} {ledger : List (Addr × Obj)} (F : Fr h₀ L h m) (N : News h₀ L h ledger) :
    IterNew h₀ h L pl m ledger :=
  ⟨_, rfl, F.push _, N.push F _, fun p hp => Heap.lt_size (N p hp).1⟩
theorem BytesAre.at : ∀ {vs : List Value} {ps : List (List Int)} {i : Nat} {v : Value}, BytesAre vs ps → vs[i]? = some v → ∃ b t p, v = .bytes b t ∧ KBw.bInts b = p ∧ ps[i]? = some p
  | _ :: _, p :: _, 0, _, h, e => by
    cases e
    obtain ⟨b, t, h1, h2⟩ := h.1
    exact ⟨b, t, p, h1, h2, rfl⟩
  | _ :: vs, _ :: ps, i + 1, _, h, e => BytesAre.at (i := i) h.2 e
  | [], _, _, _, _, e => by cases e
  | _ :: _, [], _, _, h, _ => h.elim
theorem BytesAre.len : ∀ {vs : List Value} {ps : List (List Int)}, BytesAre vs ps → vs.length = ps.length
  | [], [], _ => rfl
  | _ :: _, _ :: _, h => congrArg (· + 1) h.2.len
  | [], _ :: _, h => h.elim
  | _ :: _, [], h => h.elim
/-- the ledger of is_heard between its turns: the iterator, the decoder, the cell, the rest -/
inductive HL (w : World) (L1 pl : Addr) (tT dT lR aR dR I cc : Addr) (news : List (Addr × Obj)) (h₂ h' : Heap) (i k : Nat) (t : Tab) (left : List Int) : Prop
  | mk : ∀ io co bl vs c1 c2 lW q0 q1 q2 q3 n1 n2 n3 n4 n5 tb u1 u2 m1 m2 m3 m4 m5 rst ct, (News h₂ L1 h' ((I, io) :: canL w tT dT lR aR dR lW t bl vs c2 c1 q0 q1 q2 q3 n1 n2 n3 n4 n5 tb u1 u2 m1 m2 m3 m4 m5 ((cc, co) :: rst))) → (IterIs io pl i) → (co.data = .cell (some (.int ((k : Nat) : Int) ct))) → (RowsAre rst vs t.rows) → ((∀ p ∈ news, p ∈ rst)) → (Apart dT lR dR ((cc, co) :: rst)) → ((∀ p ∈ canL w tT dT lR aR dR lW t bl vs c2 c1 q0 q1 q2 q3 n1 n2 n3 n4 n5 tb u1 u2 m1 m2 m3 m4 m5 ((cc, co) :: rst), p.1 ≠ I)) → ((∀ p ∈ rst, p.1 ≠ cc)) → (@LT.lt Nat _ lR lW) → (KBw.bInts bl = left) → HL w L1 pl tT dT lR aR dR I cc news h₂ h' i k t left
noncomputable abbrev heardP (aR : Addr) (rf : Bool) (o1 o2 o3 o4 o5 : Option Value) : List (Str × Option Value) :=
  [(Str.ofString "reader", some (.ref aR)), (Str.ofString "is_refused", some (.bool rf)), (Str.ofString "piece", o1), (Str.ofString "wrong", o2), (Str.ofString "room", o3), (Str.ofString "rows", o4), (Str.ofString "many", o5)]
inductive JH (w : World) (A1 : Around) (base : Heap) (lenv : List Env) (g1 : Heap) (L1 pl sl : Addr) (stopV : Value) (tT dT lR aR dR : Addr) (I cc : Addr) (news : List (Addr × Obj)) (S : List Int) (steps : List (Int × Tab)) (stop : Option Int) (pss : List (List Int)) (s0 : Shared) (i : Nat) (s' : Shared) : Prop
  | mk : ∀ h₂ h' tk a k t st left o1 o2 o3 o4 o5, (s' = { s0 with heap := h', toks := tk }) → (i ≤ pss.length) → (Below A1 base lenv h₂) → (Keeps lenv g1 h₂) → (Fr h₂ L1 h' (bindO (heardP aR false o1 o2 o3 o4 o5) (heardM pl sl stopV))) → (HL w L1 pl tT dT lR aR dR I cc news h₂ h' i k t left) → (HD S steps stop a k t st left) → ((pss.drop i).flatten = S.drop k) → ((∀ sp, stop = some sp → ((k : Nat) : Int) < sp)) → JH w A1 base lenv g1 L1 pl sl stopV tT dT lR aR dR I cc news S steps stop pss s0 i s'
/-- behind the try -/
inductive JT (w : World) (A1 : Around) (base : Heap) (lenv : List Env) (g1 : Heap) (L1 pl sl : Addr) (stopV : Value) (tT dT lR aR dR : Addr) (I cc : Addr) (news : List (Addr × Obj)) (S : List Int) (steps : List (Int × Tab)) (stop : Option Int) (i k : Nat) (s0 : Shared) (s' : Shared) : Prop
  | mk : ∀ rf h₂ h' tk left o1 o2 o3 o4 o5, (s' = { s0 with heap := h', toks := tk }) → (Below A1 base lenv h₂) → (Keeps lenv g1 h₂) → (Fr h₂ L1 h' (bindO (heardP aR rf o1 o2 o3 o4 o5) (heardM pl sl stopV))) → (HL w L1 pl tT dT lR aR dR I cc news h₂ h' i k (atT t00 steps ((k : Nat) : Int)) left) → ((rf = true → ∃ sp, stop = some sp ∧ sp ≤ ((k : Nat) : Int))) → ((rf = false → (∀ sp, stop = some sp → ((k : Nat) : Int) < sp) ∧ ∃ a st, HD S steps stop a k (atT t00 steps ((k : Nat) : Int)) st left)) → JT w A1 base lenv g1 L1 pl sl stopV tT dT lR aR dR I cc news S steps stop i k s0 s'
theorem obj_apart {h₀ h : Heap} {L x y : Addr} {o o' : Obj} {news : List (Addr × Obj)} (N : News h₀ L h news) (hx : (x, o) ∈ news) (hy : (y, o') ∈ news) (hne : o ≠ o') : x ≠ y := by
  intro q
  subst q
  have e1 := (N _ hx).1
  have e2 := (N _ hy).1
  dsimp only at e1 e2
  rw [e1] at e2
  exact hne (Option.some.inj e2)
/-- the ledger that hear leaves, in the canonical form -/
theorem HL.of_dec {w : World} {L1 pl tT dT lR aR dR I cc : Addr} {io co : Obj} {news rst nw full : List (Addr × Obj)} {h₂ h' : Heap} {i k : Nat} {t : Tab} {left : List Int} {ct : Tok}
    (N : News h₂ L1 h' full) (hf : ∀ p ∈ nw, p ∈ full) (D : DecIn w tT dT lR aR dR t left ((I, io) :: (cc, co) :: rst) nw) (hio : IterIs io pl i) (hco : co.data = .cell (some (.int ((k : Nat) : Int) ct))) (hsub : ∀ p ∈ news, p ∈ rst) (hI : ∀ p ∈ (cc, co) :: rst, p.1 ≠ I) (hcc : ∀ p ∈ rst, p.1 ≠ cc) :
    HL w L1 pl tT dT lR aR dR I cc news h₂ h' i k t left := by
  obtain ⟨bl, lW, vs, rest, cl0, cw, t0, t1, t2, t3, n1, n2, n3, n4, n5, tb, u1, u2, m1, m2, m3, m4, m5, e, hbl, hR, hs, hap, hlW⟩ := D
  obtain ⟨rl, hl1, hl3⟩ := rows_pick hR
  have Nn : News h₂ L1 h' nw := fun p hp => N p (hf p hp)
  have cI : ∀ x o, (x, o) ∈ nw → o.cls ≠ .type "list_iterator" → x ≠ I := fun x o hx ho => obj_apart Nn hx (by rw [e]; exact .tail _ (.tail _ (.tail _ (.tail _ (.tail _ (.tail _ (hs _ (.head _)))))))) fun q => ho (by rw [q]; exact hio.1)
  have hr : ∀ p ∈ rest, p ∈ nw := fun p hp => by rw [e]; exact .tail _ (.tail _ (.tail _ (.tail _ (.tail _ (.tail _ hp)))))
  have hIn : (I, io) ∈ nw := hr _ (hs _ (.head _))
  have hcn : (cc, co) ∈ rest := hs _ (.tail _ (.head _))
  have hnn : ∀ p ∈ news, p ∈ rest := fun p hp => hs _ (.tail _ (.tail _ (hsub p hp)))
  have sub2 : ∀ p ∈ (cc, co) :: (rl ++ news), p ∈ rest := fun p hp => by
    rcases List.mem_cons.mp hp with q | hp
    · rw [q]; exact hcn
    · rcases List.mem_append.mp hp with hp | hp
      · exact (hl3 p hp).1
      · exact hnn p hp
  refine ⟨io, co, bl, vs, cw, cl0, lW, t0, t1, t2, t3, n1, n2, n3, n4, n5, tb, u1, u2, m1, m2, m3, m4, m5, rl ++ news, ct, fun p hp => ?_, hio, hco, RowsAre.sub (fun _ h => List.mem_append_left _ h) hl1, fun p hp => List.mem_append_right _ hp, ⟨fun p hp => hap.1 p (sub2 p hp), fun p hp => hap.2.1 p (sub2 p hp), fun p hp => hap.2.2 p (sub2 p hp)⟩, fun p hp => ?_, fun p hp => ?_, hlW, hbl⟩
  · rcases List.mem_cons.mp hp with q | hp
    · rw [q]; exact Nn _ hIn
    · simp only [canL, List.mem_cons] at hp
      rcases hp with q | q | q | q | q | q | hp
      · exact Nn p (by rw [e, q]; exact .head _)
      · exact Nn p (by rw [e, q]; exact .tail _ (.head _))
      · exact Nn p (by rw [e, q]; exact .tail _ (.tail _ (.head _)))
      · exact Nn p (by rw [e, q]; exact .tail _ (.tail _ (.tail _ (.head _))))
      · exact Nn p (by rw [e, q]; exact .tail _ (.tail _ (.tail _ (.tail _ (.head _)))))
      · exact Nn p (by rw [e, q]; exact .tail _ (.tail _ (.tail _ (.tail _ (.tail _ (.head _))))))
      · exact Nn p (hr _ (sub2 p (List.mem_cons.mpr hp)))
  · simp only [canL, List.mem_cons] at hp
    rcases hp with q | q | q | q | q | q | q | hp
    · rw [q]; exact cI _ (instObj 290 dT) (by rw [e]; exact .head _) (by intro z; cases z)
    · rw [q]; exact cI _ _ (by rw [e]; exact .tail _ (.head _)) (by intro z; injection z with z; exact absurd z (by decide))
    · rw [q]; exact cI _ _ (by rw [e]; exact .tail _ (.tail _ (.head _))) (by intro z; injection z with z; exact absurd z (by decide))
    · rw [q]; exact cI _ (instObj 402 dR) (by rw [e]; exact .tail _ (.tail _ (.tail _ (.head _)))) (by intro z; cases z)
    · rw [q]; exact cI _ _ (by rw [e]; exact .tail _ (.tail _ (.tail _ (.tail _ (.head _))))) (by intro z; injection z with z; exact absurd z (by decide))
    · rw [q]; exact cI _ _ (by rw [e]; exact .tail _ (.tail _ (.tail _ (.tail _ (.tail _ (.head _)))))) (by intro z; injection z with z; exact absurd z (by decide))
    · rw [q]; exact hI _ (.head _)
    · rcases List.mem_append.mp hp with hp | hp
      · obtain ⟨z1, its, c, z2⟩ := hl3 p hp
        exact cI p.1 p.2 (hr _ z1) (by rw [z2]; intro z; injection z with z; exact absurd z (by decide))
      · exact hI p (.tail _ (hsub p hp))
  · rcases List.mem_append.mp hp with hp | hp
    · obtain ⟨z1, its, c, z2⟩ := hl3 p hp
      exact obj_apart Nn (hr _ z1) (hr _ hcn) (by rw [z2]; intro z; rw [← z] at hco; cases hco)
    · exact hcc p (hsub p hp)
theorem cell_perm {w : World} {g h : Heap} {L tT dT lR aR dR lW I cc : Addr} {t : Tab} {bl : Array UInt8} {vs : List Value} {cl0 cw k n : Nat} {t0 t1 t2 t3 n1 n2 n3 n4 n5 tb u1 u2 m1 m2 m3 m4 m5 ct : Tok} {rst : List (Addr × Obj)} {io co : Obj}
    (N : News g L h ((I, io) :: canL w tT dT lR aR dR lW t bl vs cl0 cw t0 t1 t2 t3 n1 n2 n3 n4 n5 tb u1 u2 m1 m2 m3 m4 m5 ((cc, co) :: rst))) (hco : co.data = .cell (some (.int ((k : Int) + (n : Int)) ct))) :
    ∃ co ct, News g L h (canL w tT dT lR aR dR lW t bl vs cl0 cw t0 t1 t2 t3 n1 n2 n3 n4 n5 tb u1 u2 m1 m2 m3 m4 m5 ((I, io) :: (cc, co) :: rst)) ∧ co.data = .cell (some (.int ((k + n : Nat) : Int) ct)) := by
  refine ⟨co, ct, fun p hp => N p ?_, by rw [hco]; rfl⟩
  simp only [canL, List.mem_cons] at hp ⊢
  rcases hp with hp | hp | hp | hp | hp | hp | hp | hp | hp <;> simp only [hp, true_or, or_true]
inductive HeardFr (h₂ h' : Heap) (L1 aR pl sl : Addr) (stopV : Value) (rf : Bool) : Prop
  | mk : ∀ o1 o2 o3 o4 o5, (Fr h₂ L1 h' (bindO (heardP aR rf o1 o2 o3 o4 o5) (heardM pl sl stopV))) → HeardFr h₂ h' L1 aR pl sl stopV rf
theorem heard_fr {h₂ h' : Heap} {L1 aR pl sl : Addr} {stopV : Value} {rf : Bool} {m : Str → Option Value} (F : Fr h₂ L1 h' m) (h1 : m (Str.ofString "reader") = some (.ref aR)) (h2 : m (Str.ofString "is_refused") = some (.bool rf))
    (h3 : ∀ y, y ≠ Str.ofString "reader" → y ≠ Str.ofString "is_refused" → y ≠ Str.ofString "piece" → y ≠ Str.ofString "wrong" → y ≠ Str.ofString "room" → y ≠ Str.ofString "rows" → y ≠ Str.ofString "many" → m y = heardM pl sl stopV y) :
    HeardFr h₂ h' L1 aR pl sl stopV rf := by
  refine ⟨m (Str.ofString "piece"), m (Str.ofString "wrong"), m (Str.ofString "room"), m (Str.ofString "rows"), m (Str.ofString "many"), ?_⟩
  rw [bindO_eq (m := m) (m₀ := heardM pl sl stopV)]
  · exact F
  · refine List.forall_mem_cons.mpr ⟨h1, List.forall_mem_cons.mpr ⟨h2, List.forall_mem_cons.mpr ⟨rfl, List.forall_mem_cons.mpr ⟨rfl, List.forall_mem_cons.mpr ⟨rfl, List.forall_mem_cons.mpr ⟨rfl, List.forall_mem_cons.mpr ⟨rfl, List.forall_mem_nil _⟩⟩⟩⟩⟩⟩⟩
  · intro y hy
    exact h3 y (hy _ (.head _)) (hy _ (.tail _ (.head _))) (hy _ (.tail _ (.tail _ (.head _)))) (hy _ (.tail _ (.tail _ (.tail _ (.head _))))) (hy _ (.tail _ (.tail _ (.tail _ (.tail _ (.head _)))))) (hy _ (.tail _ (.tail _ (.tail _ (.tail _ (.tail _ (.head _))))))) (hy _ (.tail _ (.tail _ (.tail _ (.tail _ (.tail _ (.tail _ (.head _))))))))
theorem kw_line69 : True := by
  (k_with "my HFR" => ((intro _ y1 y2 y3 y4 y5 y6 y7; simp only [heardM, bindO, if_neg y1, if_neg y2, if_neg y3, if_neg y4, if_neg y5, if_neg y6, if_neg y7])))
  trivial
theorem kw_line70 : True := by
  (k_with "my STOPC" => ((walk_at "STOP"; (fail_if_success (with_reducible show wpAny _ _ (eval (Expr.ListComp _ _ _ _) _) _ _ _)); (fail_if_success (with_reducible show wpAny _ _ (subscriptTail (Expr.ListComp _ _ _ _) _ _ _) _ _ _)); (fail_if_success (with_reducible show wpAny _ _ (compareOp CmpOp.NotEq (Value.ref _) (Value.ref _)) _ _ _)))))
  trivial
theorem kw_line71 : True := by
  (k_with "my GOC" => (repeat' (first | (k_unmd; k_unfold; (try dsimp only)) | (walk_at "STOPC"; walk1) | (dsimp only; walk_at "STOPC"; walk1))))
  trivial
theorem kw_line72 : True := by
  (k_with "my STOPY" => ((walk_at "STOP"; (fail_if_success (with_reducible show wpAny _ _ (execs (Stmt.Try _ _ _ _ _ :: _) _) _ _ _)); (fail_if_success (with_reducible show wpAny _ _ (call (Value.ref 336) _) _ _ _)))))
  trivial
theorem kw_line73 : True := by
  (k_with "my GOY" => (repeat' (first | (k_unmd; k_unfold; (try dsimp only)) | (walk_at "STOPY"; walk1) | (dsimp only; walk_at "STOPY"; walk1))))
  trivial
set_option maxHeartbeats 8000000 in
theorem heard_ok {w : World} {mean : ExcName → Option Value} {mg mb : Str → Option Value} {pl sl : Addr} {pvs svs : List Value} {pss : List (List Int)} {S : List Int} {steps : List (Int × Tab)} {stopV : Value} {stop : Option Int} {np ns : Nat} {news : List (Addr × Obj)}
    (hP : (pl, listOf pvs.toArray np) ∈ news) (hS : (sl, listOf svs.toArray ns) ∈ news) (hB : BytesAre pvs pss) (hT : StepsAre news svs ((0, ⟨0, [], 0⟩) :: steps)) (hst : StopIs stopV stop) (hstr : Strm 0 ⟨0, [], 0⟩ S steps stop) (hfl : pss.flatten = S)
    (hl1 : S.length ≤ 1900) (hl2 : pvs.length ≤ 1900) (hl3 : steps.length ≤ 90) :
    SpecH w mean mg mb 442 40 [.ref pl, .ref sl, stopV] news
      (fun r news' => r = .bool true ∧ ∀ p ∈ news, p ∈ news') (fun _ _ _ => False) := by
  unfold SpecH
  k_fill
  intro dp un gd cn cs av ccd cl outer A₀ base h₀ L m s Q E B F X N T XB TB hk hdp hun hret hexc
  refine wpAny_call ?_
  k_dflt walk_at "ENTERC"
  rename_i g1 L1 h1 _ FG F1 B1 X1 T1 l1 co1 hco1
  rename News g1 L1 _ _ => N1
  replace F1 : Fr g1 L1 h1 (fun y => if y = Str.ofString "stop" then some stopV else if y = Str.ofString "steps" then some (.ref sl) else if y = Str.ofString "pieces" then some (.ref pl) else none) := F1
  have hnC : ∀ p ∈ news, p.1 ≠ L1 + 1 := fun p hp q => by have h9 : @LT.lt Nat _ p.1 L1 := l1 p hp; have h8 : @Eq Nat p.1 (L1 + 1) := q; omega
  walk_at "GO"
  rename Fr g1 L1 _ _ => F2
  rename News g1 L1 _ _ => N2
  rename _ = Data.cell (some (.int 0 _)) => hco
  obtain ⟨tT, dT, lR, aR, dR, lW, q0, q1, q2, q3, n1, n2, n3, n4, n5, tb, u1, u2, m1, m2, m3, m4, m5, c1, c2, F3, N3, hap, o1, o2, o3, o4, o5, o6⟩ := dec_pick F2 N2 (by omega) (by omega) (by omega) (by omega) (by omega) (by omega) (fun p hp => by have h9 : @LT.lt Nat _ p.1 L1 := l1 p hp; omega)
  clear F2 N2
  have hi90 : ∀ k', (atT t00 steps k').ins ≤ 90 := fun k' => by
    have h9 : (atT t00 steps k').ins ≤ 0 + (steps.length : Int) := (hstr.ok ⟨Int.le_refl 0, by decide, Int.le_refl 0, Int.le_refl 0, Int.le_refl 0⟩ k').2
    omega
  have hstart := HD.start hstr
  refine wpAny_For ?_ (by intro _; rfl)
  walk1
  have hlP := N3.isList (items := pvs.toArray) (a := pl) (.tail _ (.tail _ (.tail _ (.tail _ (.tail _ (.tail _ (.tail _ hP)))))))
  refine wpAny_pyIter_list hlP ?_
  dsimp only
  obtain ⟨I, hI, F4, N4, hIlt⟩ := iter_new (pl := pl) F3 N3
  rw [hI]
  have hcI := hIlt _ (.tail _ (.tail _ (.tail _ (.tail _ (.tail _ (.tail _ (.head _)))))))
  have hplen := hB.len
  refine For_own (items := pvs.toArray) (l := pl) rfl (JH w (ktrTop dp un gd cn cs L av ccd cl outer) base (envX cn cs L av ccd cl :: outer) g1 L1 pl sl stopV tT dT lR aR dR I (L1 + 1) news S steps stop pss s) ?_ ?_ ?_ _ ?_
  · rintro i s' ⟨h₂, h', tk, a, k, t, st, left, o1', o2', o3', o4', o5', rfl, hi, B5, Kp5, F5, ⟨io, co', bl, vs', c1', c2', lW', q0', q1', q2', q3', n1', n2', n3', n4', n5', tb', u1', u2', m1', m2', m3', m4', m5', rst, ct, N5, hio, hco5, hR5, hsub5, hap5, hI5, hcc5, hlW5, hbl5⟩, hHD, hfl5, hns5⟩
    exact ⟨⟨io, (N5 _ (.head _)).1, hio⟩, N5.isList (.tail _ (.tail _ (.tail _ (.tail _ (.tail _ (.tail _ (.tail _ (.tail _ (hsub5 _ hP))))))))), by rw [List.size_toArray]; omega⟩
  · rintro i v s' h'' ⟨h₂, h', tk, a, k, t, st, left, o1', o2', o3', o4', o5', rfl, hi, B5, Kp5, F5, ⟨io, co', bl, vs', c1', c2', lW', q0', q1', q2', q3', n1', n2', n3', n4', n5', tb', u1', u2', m1', m2', m3', m4', m5', rst, ct, N5, hio, hco5, hR5, hsub5, hap5, hI5, hcc5, hlW5, hbl5⟩, hHD, hfl5, hns5⟩ hv hit' hsb P9 E9
    obtain ⟨io', hio', F6, N6⟩ := iter_step F5 N5 hI5 hit' hsb
    rw [List.getElem?_toArray] at hv
    obtain ⟨b, tb9, p, rfl, hbp, hpi⟩ := hB.at hv
    have X5 := XB.keeps B5.stays
    have T5 := TB.keeps B5.stays
    have hpl : pss.drop i = p :: pss.drop (i + 1) := by
      obtain ⟨hi2, he⟩ := List.getElem?_eq_some_iff.mp hpi
      rw [List.drop_eq_getElem_cons hi2, he]
    have hSp : S.drop k = p ++ (pss.drop (i + 1)).flatten := by rw [← hfl5, hpl]; rfl
    have hkS := hHD.kS
    have hkp : k + p.length ≤ S.length := by
      have := congrArg List.length hSp
      rw [List.length_drop, List.length_append] at this
      omega
    have hpt : p = (S.drop k).take p.length := by rw [hSp, List.take_left]
    have hfl6 : (pss.drop (i + 1)).flatten = S.drop (k + p.length) := by
      have e9 : S.drop (k + p.length) = (S.drop k).drop p.length := by rw [List.drop_drop]
      rw [e9, hSp, List.drop_left]
    obtain ⟨hstep1, hstep2⟩ := hHD.step hl1 hkp hpt hi90
    clear F5 N5 F4 N4 hIlt F3 N3 hit' hsb
    dsimp only [bindO, heardM, heardP, canL, tabAttrs, decAttrs] at F6 N6
    walk_at "GOY"
    rename News _ _ _ _ => N7
    rename Fr _ _ _ _ => F7
    rename _ = Data.cell _ => hco7
    obtain ⟨co7, ct7, N8, hco8⟩ := cell_perm N7 hco7
    clear N7 hco7
    refine join_next (JT w (ktrTop dp un gd cn cs L av ccd cl outer) base (envX cn cs L av ccd cl :: outer) g1 L1 pl sl stopV tT dT lR aR dR I (L1 + 1) news S steps stop (i + 1) (k + p.length) s) ?_ ?_
    · intro J9
      refine wpAny_Try_except ?_
      dsimp only [canL, tabAttrs, decAttrs] at N8
      have hnst : hearA (left ++ p) 5000 t 0 ≠ .stuck := by
        by_cases c : ∃ sp, stop = some sp ∧ sp ≤ ((k + p.length : Nat) : Int)
        · rw [hstep2 c]; intro z; cases z
        · obtain ⟨d, st', e, _⟩ := hstep1 (fun sp hsp => by
            by_cases c2 : sp ≤ ((k + p.length : Nat) : Int)
            · exact absurd ⟨sp, hsp, c2⟩ c
            · omega)
          rw [e]; intro z; cases z
      walk_at "GOY"
      have hap9 : Apart dT lR dR ((I, io') :: (L1 + 1, co7) :: rst) := by
        refine ⟨fun q hq => ?_, fun q hq => ?_, fun q hq => ?_⟩
        · rcases List.mem_cons.mp hq with z | hq
          · rw [z]; exact Ne.symm (hI5 _ (.tail _ (.head _)))
          · rcases List.mem_cons.mp hq with z | hq
            · rw [z]; exact hap5.1 (L1 + 1, co') (.head _)
            · exact hap5.1 _ (.tail _ hq)
        · rcases List.mem_cons.mp hq with z | hq
          · rw [z]; exact Ne.symm (hI5 _ (.tail _ (.tail _ (.head _))))
          · rcases List.mem_cons.mp hq with z | hq
            · rw [z]; exact hap5.2.1 (L1 + 1, co') (.head _)
            · exact hap5.2.1 _ (.tail _ hq)
        · rcases List.mem_cons.mp hq with z | hq
          · rw [z]; exact Ne.symm (hI5 _ (.tail _ (.tail _ (.tail _ (.tail _ (.head _))))))
          · rcases List.mem_cons.mp hq with z | hq
            · rw [z]; exact hap5.2.2 (L1 + 1, co') (.head _)
            · exact hap5.2.2 _ (.tail _ hq)
      have hI9 : ∀ q ∈ (L1 + 1, co7) :: rst, q.1 ≠ I := fun q hq => by
        rcases List.mem_cons.mp hq with z | hq
        · rw [z]; exact hI5 (L1 + 1, co') (.tail _ (.tail _ (.tail _ (.tail _ (.tail _ (.tail _ (.head _)))))))
        · exact hI5 q (.tail _ (.tail _ (.tail _ (.tail _ (.tail _ (.tail _ (.tail _ hq)))))))
      have hll : left.length ≤ 1900 := by
        rw [hHD.left, List.length_take, List.length_drop]; omega
      refine hear_ok (rest := (I, io') :: (L1 + 1, co7) :: rst) hbl5 hbp (by omega) (RowsAre.sub (fun _ h => .tail _ (.tail _ h)) hR5) hHD.ok (by have := hHD.ins; omega) o4 o5 o2 o3 hlW5 hap9 hnst _ _ _ _ _ _ _ _ _ _ _ _ _ _ _ _ _ B5 F7 X5 N8 T5 XB TB rfl ?d ?u ?_ ?_
      case d => ktr_room
      case u => ktr_units
      · rintro r9 n9 hb9 h9 tk9 B9 F9 N9 Kp9 ⟨t9, a9, lr9, cn9, nw9, hdone9, rfl, rfl, hdec9⟩
        have X9 := XB.keeps B9.stays
        have T9 := TB.keeps B9.stays
        clear F7 N8
        walk_at "GOY"
        try dsimp only
        rename News hb9 L1 _ _ => N10
        rename Fr hb9 L1 _ _ => F10
        have hns6 : ∀ sp, stop = some sp → ((k + p.length : Nat) : Int) < sp := fun sp hsp => by
          by_cases c2 : sp ≤ ((k + p.length : Nat) : Int)
          · have := hstep2 ⟨sp, hsp, c2⟩
            rw [hdone9] at this
            cases this
          · omega
        obtain ⟨d, st', e1, e2⟩ := hstep1 hns6
        rw [hdone9] at e1
        injection e1 with e3 e4
        subst e3 e4
        rw [Int.toNat_natCast] at hdec9
        obtain ⟨p1, p2, p3, p4, p5, F11⟩ := heard_fr (aR := aR) (rf := false) (pl := pl) (sl := sl) (stopV := stopV) F10 rfl rfl (by walk_at "HFR")
        exact ⟨false, _, _, _, _, p1, p2, p3, p4, p5, rfl, B9, Kp5.trans Kp9, F11, HL.of_dec N10 (by walk_at "SUB") hdec9 hio' hco8 hsub5 hI9 hcc5, fun q => (by cases q), fun _ => ⟨hns6, a + d, st', e2⟩⟩
      · rintro hb9 g9 e9 C9 dx9 cx9 n9 h9 tk9 B9 F9 Kp9 U9 R9 ⟨rfl, t9, left9, tc9, x9, tx9, s1, s2, nw9, hbad9, rfl, hdec9⟩
        walk_at "GOY"
        refine catch_startX B9 R9 fun h2 R3 U3 => ?_
        refine' clause_hit_asX B9 F9 (U9.trans U3) R3 XB (topRead_of TB) (C' := 38) ?q2n ?q2c ?q2m ?q2cx ?q2mx ?q2t ?q2b ?_
        case q2n => k_is
        case q2c => k_is
        case q2m => rfl
        case q2cx => k_is
        case q2mx => rfl
        case q2t => k_is
        case q2b => decide
        clear F7 N8 F9 U9 R9 U3 R3
        intro h3 h4 t8 TB8 tk8 B10 F10 N10 Kp10
        have X10 := XB.keeps B10.stays
        have T10 := TB.keeps B10.stays
        walk_at "GOY"
        rename News h3 L1 _ _ => N11
        rename Fr h3 L1 _ _ => F11
        refine name_gone F11 N11 fun h6 vw F12 N12 => ?_
        try dsimp only
        have hst6 : ∃ sp, stop = some sp ∧ sp ≤ ((k + p.length : Nat) : Int) := by
          by_cases c : ∃ sp, stop = some sp ∧ sp ≤ ((k + p.length : Nat) : Int)
          · exact c
          · obtain ⟨d, st', e, _⟩ := hstep1 (fun sp hsp => by
              by_cases c2 : sp ≤ ((k + p.length : Nat) : Int)
              · exact absurd ⟨sp, hsp, c2⟩ c
              · omega)
            rw [hbad9] at e
            cases e
        have e1 := hstep2 hst6
        rw [hbad9] at e1
        injection e1 with e3
        subst e3
        obtain ⟨p1, p2, p3, p4, p5, F13⟩ := heard_fr (aR := aR) (rf := true) (pl := pl) (sl := sl) (stopV := stopV) F12 rfl rfl (by walk_at "HFR")
        exact ⟨true, _, _, _, _, p1, p2, p3, p4, p5, rfl, B10, (Kp5.trans Kp9).trans Kp10, F13, HL.of_dec N12 (by walk_at "SUB") hdec9 hio' hco8 hsub5 hI9 hcc5, fun _ => hst6, fun q => (by cases q)⟩
    · rintro s' ⟨rf, h₂, h', tk, left, o1', o2', o3', o4', o5', rfl, B6, Kp6, F6, ⟨io, co', bl, vs', c1', c2', lW', q0', q1', q2', q3', n1', n2', n3', n4', n5', tb', u1', u2', m1', m2', m3', m4', m5', rst, ct, N6, hio, hco5, hR5, hsub5, hap5, hI5, hcc5, hlW5, hbl5⟩, hrt, hrf⟩
      have X6 := XB.keeps B6.stays
      have T6 := TB.keeps B6.stays
      dsimp only [bindO, heardM, heardP, canL, tabAttrs, decAttrs] at F6 N6
      refine skip_join _ True F6 N6 (fun _ h => h) ?_ ?_
      · intro J9
        cases rf with
        | false =>
          have hlt := (hrf rfl).1
          cases stop with
          | none =>
            obtain rfl := hst
            walk_at "GO"
            try dsimp only
            exact JN.intro (by k_asm) (by k_asm) trivial
          | some sp =>
            obtain ⟨tsp, rfl⟩ := hst
            have hlt := hlt sp rfl
            walk_at "GO"
            · rename (_ != decide _) = true => hq9
              rw [decide_eq_false (by omega)] at hq9
              exact absurd hq9 (by decide)
            · try dsimp only
              exact JN.intro (by k_asm) (by k_asm) trivial
        | true =>
          obtain ⟨sp, rfl, hle⟩ := hrt rfl
          obtain ⟨tsp, rfl⟩ := hst
          walk_at "GO"
          · rename (_ != decide _) = true => hq9
            rw [decide_eq_true hle] at hq9
            exact absurd hq9 (by decide)
          · try dsimp only
            exact JN.intro (by k_asm) (by k_asm) trivial
      · intro h7 tk7 _ F7 N7
        clear F6 N6
        walk_at "GOC"
        obtain ⟨qs, hq1, hq2, hq3⟩ := steps_pairs hT
        obtain ⟨wv, hw1, hw2⟩ := last_world (k := ((k + p.length : Nat) : Int)) hstr hq3 (by omega)
        refine pick_comp F7 (x := Str.ofString "end") (x₂ := Str.ofString "world") (keep := keepE ((k + p.length : Nat) : Int)) (by with_unfolding_all rfl) (by decide) (by rfl) (by decide) (by rfl) (by rfl) (by decide) (by decide) (fun _ => by rfl) (fun _ => by rfl) ?_
        walk1
        have hslen := hT.len
        refine ⟨sl, svs, ns, qs, _, rfl, rfl, F7, N7, .tail _ (.tail _ (.tail _ (.tail _ (.tail _ (.tail _ (.tail _ (.tail _ (hsub5 _ hS)))))))), by simp only [List.length_cons] at hslen; omega, hq1, fun j hj => ?_, ?_, ?_⟩
        · obtain ⟨a, c, q, z1, z2, z3⟩ := hq2 j hj
          exact ⟨a, c, q, z1, z2, .tail _ (.tail _ (.tail _ (.tail _ (.tail _ (.tail _ (.tail _ (.tail _ (hsub5 _ z3)))))))) ⟩
        · intro q hq I9 oI C9 oC D9 m9 ys h9 tk9 E9 hoC hx1 hx2 F9 N9
          obtain ⟨e, te, he⟩ := hq3.int q hq
          rw [he] at hx1
          clear F7 N7
          walk_at "GO"
          unfold keepE
          rw [he]
        · intro D9 h9 tk9 F9 N9 hlt9
          obtain ⟨aw, lrw, vsw, tw1, tw2, cw1, cw2, rfl, hwm, hwl, hwR⟩ := hw2
          have hwm' := hsub5 _ hwm
          have hwl' := hsub5 _ hwl
          clear F7 N7
          walk_at "GOC"
          refine sub_last N9 (.head _) hw1 (by rw [List.length_map]; exact Nat.le_trans (List.length_filter_le _ _) (by simp only [List.length_cons] at hslen; omega)) ?_
          walk_at "GOC"
          rename News h₂ L1 _ _ => N10
          refine ne_worlds N10 (n2 := news) (fun q hq => ?_) (RowsAre.sub (fun q hq => ?_) hR5) hwR (by k_mem) (by k_mem) (by k_mem) (by k_mem) (by ktr_units) ?_
          · have := hsub5 q hq
            repeat (first | exact this | refine List.Mem.tail _ ?_)
          · repeat (first | exact hq | refine List.Mem.tail _ ?_)
          cases rf with
          | false =>
            walk_at "GO"
            try dsimp only
            rename Fr h₂ L1 _ _ => F11
            rename News h₂ L1 _ _ => N11
            obtain ⟨p1, p2, p3, p4, p5, F12⟩ := heard_fr (aR := aR) (rf := false) (pl := pl) (sl := sl) (stopV := stopV) F11 rfl rfl (by walk_at "HFR")
            obtain ⟨hns9, a9, st9, hHD9⟩ := hrf rfl
            have hi9 := (List.getElem?_eq_some_iff.mp hpi).1
            exact ⟨h₂, _, _, a9, k + p.length, _, st9, left, p1, p2, p3, p4, p5, rfl, hi9, B6, Kp6, F12, ⟨io, co', bl, vs', c1', c2', lW', q0', q1', q2', q3', n1', n2', n3', n4', n5', tb', u1', u2', m1', m2', m3', m4', m5', rst, ct, cb_drop N11 (fun q hq => by repeat (first | exact hq | refine List.Mem.tail _ ?_)), hio, hco5, hR5, hsub5, hap5, hI5, hcc5, hlW5, hbl5⟩, hHD9, hfl6, hns9⟩
          | true =>
            walk_at "GO"
            try dsimp only
            rename Fr h₂ L1 _ _ => F11
            rename News h₂ L1 _ _ => N11
            obtain ⟨hp, Bp, Fp, Np, Kpp⟩ := pop_frame (h := h₂) B F.above B6 F11 N11 (Kp6 _ (.head _) L m rfl FG.ns)
            exact hret _ _ hp _ _ Bp Fp Np (((keeps_of FG).trans (fun env he => Kp6 env (.tail _ he))).trans Kpp) ⟨rfl, fun q hq => by
              have := hsub5 q hq
              repeat (first | exact this | refine List.Mem.tail _ ?_)⟩
  · rintro s' h'' ⟨h₂, h', tk, a, k, t, st, left, o1', o2', o3', o4', o5', rfl, hi, B5, Kp5, F5, ⟨io, co', bl, vs', c1', c2', lW', q0', q1', q2', q3', n1', n2', n3', n4', n5', tb', u1', u2', m1', m2', m3', m4', m5', rst, ct, N5, hio, hco5, hR5, hsub5, hap5, hI5, hcc5, hlW5, hbl5⟩, hHD, hfl5, hns5⟩ hsb
    obtain ⟨F6, N6⟩ := iter_done F5 N5 hI5 hsb
    have X5 := XB.keeps B5.stays
    have T5 := TB.keeps B5.stays
    clear F5 N5 F4 N4 hIlt F3 N3
    dsimp only [bindO, heardM, heardP, canL, tabAttrs, decAttrs] at F6 N6
    walk_at "GO"
    dsimp only
    rename Fr h₂ L1 _ _ => F11
    rename News h₂ L1 _ _ => N11
    obtain ⟨hp, Bp, Fp, Np, Kpp⟩ := pop_frame (h := h₂) B F.above B5 F11 N11 (Kp5 _ (.head _) L m rfl FG.ns)
    exact hret _ _ hp _ _ Bp Fp Np (((keeps_of FG).trans (fun env he => Kp5 env (.tail _ he))).trans Kpp) ⟨rfl, fun q hq => by
      have := hsub5 q hq
      repeat (first | exact this | refine List.Mem.tail _ ?_)⟩
  · obtain ⟨p1, p2, p3, p4, p5, F5⟩ := heard_fr (aR := aR) (rf := false) (pl := pl) (sl := sl) (stopV := stopV) F4 rfl rfl (by walk_at "HFR")
    exact ⟨g1, _, _, 0, 0, t00, steps, [], p1, p2, p3, p4, p5, rfl, Nat.zero_le _, B1, Keeps.refl, F5, ⟨{ cls := .type "list_iterator", data := .fields #[.ref pl, .int 0 0] }, _, #[], [], c1, c2, lW, q0, q1, q2, q3, n1, n2, n3, n4, n5, tb, u1, u2, m1, m2, m3, m4, m5, news, _, N4, ⟨rfl, rfl⟩, hco, trivial, fun _ h => h, hap, fun q hq => Nat.ne_of_lt (hIlt q hq), hnC, o6, rfl⟩, hstart, by rw [List.drop_zero]; exact hfl, fun sp hsp => hstr.lt sp hsp⟩

/-! ## MDraw -/
-- FAST
theorem kw_line74 : True := by
  (k_with "my subscriptTail Name Constant ref int" => ((k_here; (with_reducible show wpAny _ _ (subscriptTail _ _ (Value.ref _) (Value.int _ _)) _ _ _); k_dflt (with_unfolding_all refine' item_litK ?k1_q ?k2_q ?k3_q ?k4_q ?_ ?k6_q; (case k1_q => is_list); (case k2_q => decide); (case k3_q => decide); (case k4_q => rfl); (case k6_q => with_unfolding_all rfl); k_whole))))
  trivial
theorem fmod_range {x m : Int} (h : 1 ≤ m) : 0 ≤ x.fmod m ∧ x.fmod m < m := ⟨Int.fmod_nonneg_of_pos _ (by omega), Int.fmod_lt_of_pos _ (by omega)⟩
inductive DrawnOk (bx lx : Addr) (c many : Int) (rest : List (Addr × Obj)) (r : Value) (news' : List (Addr × Obj)) : Prop
  | mk : ∀ (v : Int) (tv tc' : Tok) (cb' : Nat), (r = .int v tv) → (0 ≤ v) → (v < many) → (news' = (bx, listOf [.ref lx, .int (c + 1) tc'].toArray cb') :: rest) → DrawnOk bx lx c many rest r news'
set_option maxHeartbeats 8000000 in
theorem drawn_ok {w : World} {mean : ExcName → Option Value} {mg mb : Str → Option Value} {bx lx : Addr} {c many : Int} {tc tm : Tok} {vs : List Value} {ks : List Int} {cb cx : Nat} {rest : List (Addr × Obj)}
    (hL : (lx, listOf vs.toArray cx) ∈ rest) (hI : IntsAre vs ks) (hl : vs.length ≤ 100) (hc0 : 0 ≤ c) (hc1 : c ≤ 1000) (hm0 : 1 ≤ many) (hm1 : many ≤ 1000) (hrb : ∀ p ∈ rest, p.1 ≠ bx) :
    Spec w mean mg mb 413 8 [.ref bx, .int many tm] ((bx, listOf [.ref lx, .int c tc].toArray cb) :: rest)
      (DrawnOk bx lx c many rest)
      (fun _ _ _ => False) := by
  unfold Spec
  k_fill
  intro dp un gd cn cs av ccd cl outer A₀ base h₀ L m s Q E B F X N T hk hdp hun hret hexc
  refine wpAny_call ?_
  k_dflt ktr_enter
  rename_i g1 L1 h1 FG F1 N1 B1 X1 T1
  walk_at "GO"
  · exact hret _ _ _ _ (by k_asm) (cb_drop (by k_asm) (by walk_at "SUB")) ⟨_, _, _, _, rfl, (fmod_range hm0).1, (fmod_range hm0).2, rfl⟩
  · exact hret _ _ _ _ (by k_asm) (cb_drop (by k_asm) (by walk_at "SUB")) ⟨_, _, _, _, rfl, (fmod_range hm0).1, (fmod_range hm0).2, rfl⟩
inductive LtextOk (v : List Int) (news : List (Addr × Obj)) (r : Value) (news' : List (Addr × Obj)) : Prop
  | mk : ∀ (b' : Array UInt8) (t' : Tok), (r = .bytes b' t') → (KBw.bInts b' = [(v.length : Int)] ++ v) → (news' = news) → LtextOk v news r news'
set_option maxHeartbeats 8000000 in
theorem ltext_ok {w : World} {mean : ExcName → Option Value} {mg mb : Str → Option Value} {b : Array UInt8} {v : List Int} {tb : Tok} {news : List (Addr × Obj)}
    (hb : KBw.bInts b = v) (hl : v.length ≤ 90) :
    Spec w mean mg mb 420 8 [.bytes b tb] news
      (LtextOk v news)
      (fun _ _ _ => False) := by
  unfold Spec
  k_fill
  intro dp un gd cn cs av ccd cl outer A₀ base h₀ L m s Q E B F X N T hk hdp hun hret hexc
  refine wpAny_call ?_
  k_dflt ktr_enter
  rename_i g1 L1 h1 FG F1 N1 B1 X1 T1
  walk_at "GO"
  rename KBw.bInts (_ ++ _) = _ => e9
  exact hret _ _ _ _ (by k_asm) (cb_drop (by k_asm) (by walk_at "SUB")) ⟨_, _, rfl, e9.trans (congrArg (fun z : Int => [z] ++ v) (by assumption)), rfl⟩
theorem kw_line75 : True := by
  (k_with "my call ref" => ((k_here; (with_reducible show wpAny _ _ (call (Value.ref 413) _) _ _ _); k_dflt (refine' Spec.use (drawn_ok ?hL_q ?hI_q ?hl_q ?h0_q ?h1_q ?ha_q ?hb_q ?hrb_q) ?B_q ?F_q ?X_q ?N_q ?sub_q ?T_q ?k_q ?d_q ?u_q ?_ ?_; walk_at "USEC"; (case hL_q => k_mem); (case hI_q => assumption); (case hl_q => omega); (case h0_q => omega); (case h1_q => omega); (case ha_q => omega); (case hb_q => omega); (case hrb_q => assumption)); rotate_left; (exact fun _ _ _ _ _ _ _ _ _ _ _ _ q9 => False.elim q9); (intro _ _ _ _ _ _ ok'; obtain ⟨_, _, _, _, hr', _, _, hn'⟩ := ok'; subst hr' hn'; try dsimp only))))
  trivial
theorem kw_line76 : True := by
  (k_with "my call ref" => ((k_here; (with_reducible show wpAny _ _ (call (Value.ref 420) _) _ _ _); k_dflt (refine' Spec.use (ltext_ok ?hb_q ?hl_q) ?B_q ?F_q ?X_q ?N_q ?sub_q ?T_q ?k_q ?d_q ?u_q ?_ ?_; (case hb_q => assumption); (case hl_q => omega); walk_at "USE"); rotate_left; (exact fun _ _ _ _ _ _ _ _ _ _ _ _ q9 => False.elim q9); (intro _ _ _ _ _ _ ok'; obtain ⟨_, _, hr', _, hn'⟩ := ok'; subst hr' hn'; try dsimp only))))
  trivial

/-! ## MPut -/
/-- bytes of a list just made: the list goes out of the ledger -/
theorem bytes_KT {prog : Program} {w : World} {A : Around} {E : Value → Shared → Prop} {s : Shared} {h₀ : Heap} {L : Addr} {m : Str → Option Value} {news : List (Addr × Obj)} {l : Addr} {o : Obj} {vs : List Value} {ns : List Int} {Q : Value → Shared → Prop} (F : Fr h₀ L s.heap m) (N : News h₀ L s.heap ((l, o) :: news)) (hl : s.heap.IsList l vs.toArray) (hi : IntsAre vs ns) (hr : ∀ n ∈ ns, 0 ≤ n ∧ n < 256) (hz : vs.length ≤ sizeLine) (hh : A.handled = none)
    (h : ∀ h' t k, Fr h₀ L h' m → News h₀ L h' news → AllB ns → Q (.bytes (ns.map fun n => n.toNat.toUInt8).toArray t) { s with heap := h', toks := k }) : wpAny (model prog w) A (call (.type "bytes") [.ref l]) Q E s :=
  bytes_K F N hl hi hr hz hh fun h' t k F' N' B => h h' t k F' (fun p hp => N' p (.tail _ hp)) B
theorem kw_line77 : True := by
  (k_with "my call type:bytes" => ((k_here; (with_reducible show wpAny _ _ (call (Value.type _) [Value.ref _]) _ _ _); k_dflt (refine' bytes_KT ?F_q ?N_q ?l_q ?i_q ?r_q ?z_q ?h_q ?_; (case F_q => k_asm); (case N_q => with_reducible assumption); (case l_q => is_list); (case i_q => first | l_ints | l_intsW); (case r_q => by_in); (case z_q => first | size_fits | (simp only [sizeLine_eq, List.length_cons, List.length_nil]; decide)); (case h_q => with_unfolding_all rfl); k_whole); intro _ _ _ _ _ hB'; (repeat ((have hb9 := AllB.head hB'); (replace hB' := AllB.tail hB'))); (try dsimp only [List.map]); (try k_sweep))))
  trivial
noncomputable abbrev WorldIs (news : List (Addr × Obj)) (v : Value) (t : Tab) : Prop := WorldIn news v t
noncomputable def SumEl (news : List (Addr × Obj)) (r : Int) (y : Value) (news' : List (Addr × Obj)) : Prop := news' = news ∧ ∃ t : Tok, y = .int r t
section
variable {prog : Program} {w : World} {A : Around} {h₀ : Heap} {L : Addr} {m : Str → Option Value} {env : Env} {elt : PySem.Expr} {x x₂ : Str} {scope : Scope} {cl : List (Str × Addr)} {s : Shared} {S : List (Addr × Obj) → Prop} {Fin : List Value → List (Addr × Obj) → Prop} {news : List (Addr × Obj)}
/-- the sizes of the rows, by a comprehension -/
theorem rows_rest {vs : List Value} {rs : List Row} (hR : RowsAre news vs rs) (hs : ∀ r ∈ rs, r.1.length ≤ 4096 ∧ r.2.length ≤ 4096)
    (turn : ∀ (b1 b2 : Array UInt8) (k v : List Int) t1 t2 I oI C oC D m₂ ys h tk (E' : Value → Shared → Prop), KBw.bInts b1 = k → KBw.bInts b2 = v → k.length ≤ 4096 → v.length ≤ 4096 → LCg.NsObj oC m₂ → m₂ x = some (.bytes b1 t1) → m₂ x₂ = some (.bytes b2 t2) → Fr h₀ L h m → News h₀ L h ((I, oI) :: (C, oC) :: (D, LCg.lst ys) :: news) → LCg.Off3 I C D news → ((@Ne Nat I C) ∧ (@Ne Nat I D) ∧ (@Ne Nat C D)) →
      wpAny (model prog w) A (eval elt (compEnvC scope cl C env)) (LCg.CompEnd h₀ L m { s with heap := h, toks := tk } I oI C oC D (LCg.lst ys) S (fun y news' => SumEl news (k.length + v.length + 32) y news')) E' { s with heap := h, toks := tk })
    (fin : ∀ ys, IntsAre ys (rs.map rsz) → Fin ys news) : LCp.CompRestP prog w A h₀ L m env elt x x₂ scope cl s S (fun i v => vs.toArray[i]? = some v) Fin vs.toArray.size 0 [] news := by
  have hlen := hR.len
  have key : ∀ (j i : Nat) (ys : List Value), i + j = vs.length → IntsAre ys ((rs.take i).map rsz) → LCp.CompRestP prog w A h₀ L m env elt x x₂ scope cl s S (fun i v => vs.toArray[i]? = some v) Fin j i ys news := by
    intro j
    induction j with
    | zero =>
      intro i ys hi hy
      refine LCp.CompRestP.zero (fin ys ?_)
      rw [List.take_of_length_le (by omega)] at hy
      exact hy
    | succ j ih =>
      intro i ys hi hy
      refine LCp.CompRestP.succ ?_
      intro v hv
      obtain ⟨v', r, q1, q2, a, b1, b2, t1, t2, c, q3, q4, q5, q6⟩ := hR.at (i := i) (by omega)
      have e : v = v' := by
        have hv' : vs.toArray[i]? = some v := hv
        rw [List.getElem?_toArray, q1] at hv'
        exact (Option.some.inj hv').symm
      subst e
      have hm := hs r (List.mem_of_getElem? q2)
      refine ⟨a, _, _, _, c, q3, q4, rfl, rfl, fun I oI C oC D m₂ h tk E' hC hx hx2 F N off ne => ?_⟩
      refine wpAny_mono (turn b1 b2 r.1 r.2 t1 t2 I oI C oC D m₂ ys h tk E' q5 q6 hm.1 hm.2 hC hx hx2 F N off ne) (fun y s₂ hq => ?_) fun _ _ e => e
      obtain ⟨h', tk', nw, e, F', N', off', hS, hn, t', hy'⟩ := hq
      rw [hn] at N' off' hS
      refine ⟨h', tk', news, e, F', N', off', hS, ?_⟩
      rw [hy']
      refine ih (i + 1) _ (by omega) ?_
      simp only [List.take_add_one, q2, Option.toList_some, List.map_append, List.map_cons, List.map_nil]
      exact IntsAre.append hy (.cons (rsz r) t' .nil)
  exact key _ 0 [] (by simp) (by simp only [List.take_zero, List.map_nil]; exact .nil)
end
theorem sum_rows : ∀ (rs : List Row), (rs.map rsz).sum = tot rs
  | [] => rfl
  | r :: rs => by rw [List.map_cons, List.sum_cons, sum_rows rs]; rfl
theorem pick1 (l : List Value) : kms_pick l (some 1) none = l.drop 1 := by
  unfold kms_pick kms_lo kms_hi
  cases l with
  | nil => rfl
  | cons x l => simp
theorem add_vs {prog : Program} {w : World} {A : Around} {E : Value → Shared → Prop} {s : Shared} {h₀ : Heap} {L a b : Addr} {m : Str → Option Value} {news : List (Addr × Obj)} {vs ws : List Value} {n n2 : Nat} {Q : Value → Shared → Prop}
    (F : Fr h₀ L s.heap m) (N : News h₀ L s.heap news) (ha : (a, listOf vs.toArray n) ∈ news) (hb : (b, listOf ws.toArray n2) ∈ news) (hz : vs.length + ws.length ≤ 4096)
    (h : ∀ D h', Fr h₀ L h' m → News h₀ L h' ((D, listOf (vs ++ ws).toArray 0) :: news) → (∀ p ∈ news, p.1 < D) → Q (.ref D) { s with heap := h' }) : wpAny (model prog w) A (binaryOp .Add (.ref a) (.ref b)) Q E s :=
  kmk_add_lit F N (N.isList ha) (N.isList hb) rfl h (by rw [sizeLine_eq]; simp only [List.toList_toArray]; omega)
theorem kw_line78 : True := by
  (k_with "my binaryOp Add ref ref" => ((k_here; (with_reducible show wpAny _ _ (binaryOp _ (Value.ref _) (Value.ref _)) _ _ _); k_dflt (refine' add_vs ?F_q ?N_q ?a_q ?b_q ?z_q ?_; (case F_q => k_asm); (case N_q => k_asm); (case a_q => k_mem); (case b_q => k_mem); (case z_q => ((try simp only [List.length_append, List.length_cons, List.length_nil]); omega)); k_whole); intro _ _ _ _ l1; (try k_lt l1))))
  trivial

theorem kw_line79 : True := by
  (k_with "my SrcLP" => ((k_here; k_dflt (refine' LCp.SrcLP.ledger (by rfl) ?F_q ?N_q ?m_q ?z_q ?_; (case F_q => k_asm); (case N_q => k_asm); (case m_q => k_mem); (case z_q => (rw [sizeLine_eq, List.size_toArray]; omega))); intro _; (refine' rows_rest ?hR_q ?hs_q ?_ ?_; (case hR_q => walk_at "ROWS"); (case hs_q => assumption)); rotate_left; (intro _ _); rotate_left; (intro _ _ _ _ _ _ _ _ _ _ _ _ _ _ _ _ _ _ _ _ _ _ _ _ _ _ _))))
  trivial
theorem pick1' (vs : List Value) : kms_pick vs.toArray.toList (some 1) none = vs.drop 1 := pick1 _
theorem kw_line80 : True := by
  (k_with "my subscriptTail Name Slice ref ref" => ((k_here; (with_reducible show wpAny _ _ (subscriptTail _ (PySem.Expr.Slice _ _ none _) (Value.ref _) (Value.ref _)) _ _ _); k_dflt (refine' kms_slice_lit (its := List.toArray _) ?F_q ?N_q ?l_q ?p_q ?q_q ?e_q ?_ ?s_q ?t_q ?z_q; (case F_q => k_asm); (case N_q => k_asm); (case l_q => kmk_list); (case p_q => kmk_part); (case q_q => kmk_part); (case e_q => exact pick1' _); (case s_q => with_unfolding_all rfl); (case t_q => kmk_pure); (case z_q => (rw [sizeLine_eq, List.size_toArray]; omega))); intro _ _ _ _ l1; (try k_lt l1))))
  trivial
theorem kw_line81 : True := by
  (k_with "my CompEnd" => (((with_reducible show LCg.CompEnd _ _ _ _ _ _ _ _ _ _ _ (fun _ _ => SumEl _ _ _ _) _ _); exact LCg.CompEnd.intro (by k_asm) (by k_asm) _ (fun _ h9 => h9) (by assumption) (.inr ⟨_, by k_mem, rfl, _, rfl⟩) ⟨rfl, _, rfl⟩)))
  trivial
theorem fit_cons {rs : List Row} {lim : Int} (h : lim < tot rs) (h0 : 0 ≤ lim) : rs ≠ [] ∧ fitN lim rs = fitN lim (rs.drop 1) + 1 := by
  cases rs with
  | nil => simp only [tot] at h; omega
  | cons r rs => exact ⟨by simp, if_pos h⟩
theorem kw_line82 : True := by
  (k_with "my SumEl" => (exact ⟨by with_unfolding_all rfl, _, rfl⟩))
  trivial
inductive PutOk (t : Tab) (kn kv : List Int) (sub news : List (Addr × Obj)) (r : Value) (news' : List (Addr × Obj)) : Prop
  | mk : ∀ add, (news' = add ++ news) → (WorldIs (add ++ sub) r (addT t (kn, kv))) → ((∀ p ∈ add, AllLt p.1 news)) → PutOk t kn kv sub news r news'
inductive PutRJ (t : Tab) (D0 : Addr) (bn bv : Array UInt8) (tn tv : Tok) (kn kv : List Int) (sub news : List (Addr × Obj)) (n : Nat) (ps : List (Str × Option Value)) (nw : List (Addr × Obj)) : Prop
  | mk : ∀ (j : Nat) (lj : Addr) (vj : List Value) (rj : List Row) (cj : Nat), (ps = [(Str.ofString "rows", some (.ref lj))]) → (nw = (lj, listOf vj.toArray cj) :: (D0, tupO [.bytes bn tn, .bytes bv tv] 0) :: news) → (RowsAre ((D0, tupO [.bytes bn tn, .bytes bv tv] 0) :: sub) vj rj) → (rj = (t.rows ++ [(kn, kv)]).drop j) → (fitN t.cap (t.rows ++ [(kn, kv)]) = j + fitN t.cap rj) → (n = rj.length) → (AllLt lj news) → PutRJ t D0 bn bv tn tv kn kv sub news n ps nw
set_option maxHeartbeats 8000000 in
theorem put_ok {w : World} {mean : ExcName → Option Value} {mg mb : Str → Option Value} {t : Tab} {a lr : Addr} {vs : List Value} {bn bv : Array UInt8} {kn kv : List Int} {t1 t2 tn tv : Tok} {c c2 : Nat} {sub news : List (Addr × Obj)}
    (hsub : ∀ p ∈ sub, p ∈ news) (hbn : KBw.bInts bn = kn) (hbv : KBw.bInts bv = kv) (ha0 : (a, tupO [.int t.cap t1, .ref lr, .int t.ins t2] c) ∈ sub) (hl0 : (lr, listOf vs.toArray c2) ∈ sub) (hR0 : RowsAre sub vs t.rows) (hw : Wok t) (hro : RowOk (kn, kv)) (hi : t.ins ≤ 1000) :
    Spec w mean mg mb 425 10 [.ref a, .bytes bn tn, .bytes bv tv] news
      (PutOk t kn kv sub news)
      (fun _ _ _ => False) := by
  unfold Spec
  k_fill
  intro dp un gd cn cs av ccd cl outer A₀ base h₀ L m s Q E B F X N T hk hdp hun hret hexc
  have ha := hsub _ ha0
  have hl := hsub _ hl0
  have hR := RowsAre.sub hsub hR0
  refine wpAny_call ?_
  k_dflt ktr_enter
  rename_i g1 L1 h1 FG F1 N1 B1 X1 T1
  replace F1 : Fr g1 L1 h1 (fun y => List.lookup y [(Str.ofString "value", .bytes bv tv), (Str.ofString "name", .bytes bn tn), (Str.ofString "world", .ref a)]) := F1
  have hlen := hR.len
  have hl3 := hw.len
  obtain ⟨k1, k2, k3, k4, k5⟩ := hw.ok
  walk_at "GO"
  rename_i D0 _ l01 le _ lj0 _ _ F2 N2
  have hro' := hro.2.len
  have hro1 := hro.1
  dsimp only at hro' hro1
  have hsm : ∀ r ∈ t.rows ++ [(kn, kv)], r.1.length ≤ 4096 ∧ r.2.length ≤ 4096 := by
    intro r hr
    rcases List.mem_append.mp hr with hr | hr
    · exact hw.ok.smalls r hr
    · rw [List.mem_singleton.mp hr]; exact ⟨by dsimp only; omega, by dsimp only; omega⟩
  have up : ∀ p ∈ (D0, tupO [.bytes bn tn, .bytes bv tv] 0) :: sub, p ∈ (D0, tupO [.bytes bn tn, .bytes bv tv] 0) :: news := by
    intro p hp
    rcases List.mem_cons.mp hp with rfl | hp
    · exact .head _
    · exact .tail _ (hsub p hp)
  refine While_so (PutRJ t D0 bn bv tn tv kn kv sub news) (t.rows ++ [(kn, kv)]).length [(Str.ofString "rows", some (.ref lj0))] F2 N2 (news := (lj0, listOf (vs ++ [Value.ref D0]).toArray 0) :: (D0, tupO [.bytes bn tn, .bytes bv tv] 0) :: news) (by walk_at "SUB") (List.forall_mem_cons.mpr ⟨rfl, List.forall_mem_nil _⟩) ⟨0, lj0, vs ++ [Value.ref D0], t.rows ++ [(kn, kv)], 0, rfl, rfl, RowsAre.app ⟨D0, bn, bv, _, _, _, rfl, .head _, hbn, hbv⟩ (RowsAre.sub (fun _ h => .tail _ h) hR0), rfl, (Nat.zero_add _).symm, rfl, l1.2.2⟩ ?_
  rintro n ps nw h₂ tk₂ F3 N3 ⟨j, lj, vj, rj, cj, rfl, rfl, hRj0, hrj, hfit, rfl, hlj⟩ P9
  clear F2 N2
  have hRj := RowsAre.sub up hRj0
  have hsj : ∀ r ∈ rj, r.1.length ≤ 4096 ∧ r.2.length ≤ 4096 := fun r hr => hsm r (by rw [hrj] at hr; exact List.mem_of_mem_drop hr)
  have hlenj := hRj.len
  have hlj5 : rj.length ≤ 4 := by rw [hrj, List.length_drop, List.length_append]; simp only [List.length_cons, List.length_nil]; omega
  dsimp only [bindO] at F3
  walk_at "GO"
  · rename t.cap < _ => hlt
    rw [sum_rows] at hlt
    obtain ⟨hne, hfc⟩ := fit_cons hlt k1
    have hpos := List.length_pos_iff.mpr hne
    refine ⟨_, _, _, (_, listOf (vj.drop 1).toArray 0) :: (D0, tupO [.bytes bn tn, .bytes bv tv] 0) :: news, (rj.drop 1).length, [(Str.ofString "rows", some (.ref _))], rfl, by k_asm, cb_drop (by k_asm) (by walk_at "SUB"), by walk_at "KEYS", ?_, by rw [List.length_drop]; omega, j + 1, _, vj.drop 1, rj.drop 1, 0, rfl, rfl, hRj0.drop 1, by rw [hrj, List.drop_drop], by omega, rfl, by walk_at "LT"⟩
    · intro y hy
      have y1 := hy _ (.head _)
      simp only [if_neg y1]
  · rename ¬ t.cap < _ => hlt
    rw [sum_rows] at hlt
    have hfs := fit_stop hlt
    have hj : j = fitN t.cap (t.rows ++ [(kn, kv)]) := by omega
    rename_i D9 h9 F9 N9 kF kN Tc9 kX
    have N8 : News h₀ L h9 ([(D9, tupO [.int t.cap t1, .ref lj, .int (t.ins + 1) _] 0), (lj, listOf vj.toArray cj), (D0, tupO [.bytes bn tn, .bytes bv tv] 0)] ++ news) := cb_drop kN (by show ∀ p ∈ (D9, _) :: (lj, _) :: (D0, _) :: news, _; walk_at "SUB")
    refine hret _ _ _ _ kF N8 ⟨_, rfl, ⟨_, lj, vj, _, _, _, cj, rfl, .head _, .tail _ (.head _), RowsAre.sub (fun _ h => .tail _ (.tail _ h)) (show RowsAre _ vj (addT t (kn, kv)).rows from ?_)⟩, fun p hp => ?_⟩
    · have e : (addT t (kn, kv)).rows = rj := by rw [hrj, hj]; rfl
      rw [e]; exact hRj0
    · simp only [List.mem_cons, List.not_mem_nil, or_false] at hp
      rcases hp with rfl | rfl | rfl
      · exact lz9.2.2.2
      · exact hlj
      · exact allLt_of l01

/-! ## MWord -/

theorem Spec.conv {w : World} {mean : ExcName → Option Value} {mg mb : Str → Option Value} {f : Addr} {nd : Nat} {args : List Value} {news news2 : List (Addr × Obj)} {Ok Ok' : Value → List (Addr × Obj) → Prop} {Bad : Addr → Addr → List (Addr × Obj) → Prop}
    (S : Spec w mean mg mb f nd args news Ok Bad) (hs : ∀ p ∈ news, p ∈ news2) (ho : ∀ r n, Ok r n → ∃ n', (∀ p ∈ n', p ∈ n) ∧ Ok' r n') : Spec w mean mg mb f nd args news2 Ok' Bad :=
  fun dp un gd cn cs av ccd cl outer A₀ base h₀ L m s Q E B F X N T hk hdp hun hret hexc =>
    S dp un gd cn cs av ccd cl outer A₀ base h₀ L m s Q E B F X (fun p hp => N p (hs p hp)) T hk hdp hun (fun r n h' tk' F' N' ok => by
      obtain ⟨n', s', ok'⟩ := ho r n ok
      exact hret r n' h' tk' F' (fun p hp => N' p (s' p hp)) ok') hexc
inductive Drawn1Ok (bx lx : Addr) (c many : Int) (x : Addr × Obj) (rest : List (Addr × Obj)) (r : Value) (news' : List (Addr × Obj)) : Prop
  | mk : ∀ (v : Int) (tv tc' : Tok) (cb' : Nat), (r = .int v tv) → (0 ≤ v) → (v < many) → (news' = x :: (bx, listOf [.ref lx, .int (c + 1) tc'].toArray cb') :: rest) → Drawn1Ok bx lx c many x rest r news'
/-- a draw, one entry ahead of the box -/
theorem drawn1_ok {w : World} {mean : ExcName → Option Value} {mg mb : Str → Option Value} {bx lx : Addr} {c many : Int} {tc tm : Tok} {vs : List Value} {ks : List Int} {cb cx : Nat} {x : Addr × Obj} {rest : List (Addr × Obj)}
    (hL : (lx, listOf vs.toArray cx) ∈ rest) (hI : IntsAre vs ks) (hl : vs.length ≤ 100) (hc0 : 0 ≤ c) (hc1 : c ≤ 1000) (hm0 : 1 ≤ many) (hm1 : many ≤ 1000) (hrb : ∀ p ∈ rest, p.1 ≠ bx) (hx : @LT.lt Nat _ bx x.1) :
    Spec w mean mg mb 413 8 [.ref bx, .int many tm] (x :: (bx, listOf [.ref lx, .int c tc].toArray cb) :: rest)
      (Drawn1Ok bx lx c many x rest)
      (fun _ _ _ => False) := by
  refine Spec.conv (news := (bx, listOf [.ref lx, .int c tc].toArray cb) :: x :: rest) (drawn_ok (rest := x :: rest) (.tail _ hL) hI hl hc0 hc1 hm0 hm1 fun p hp => ?_) (fun p hp => ?_) fun r n ⟨v, tv, tc', cb', h1, h2, h3, h4⟩ => ⟨_, fun p hp => ?_, v, tv, tc', cb', h1, h2, h3, rfl⟩
  · rcases List.mem_cons.mp hp with rfl | hp
    · exact (Nat.ne_of_gt hx)
    · exact hrb p hp
  · simp only [List.mem_cons] at hp ⊢
    rcases hp with hp | hp | hp <;> simp only [hp, true_or, or_true]
  · subst h4
    simp only [List.mem_cons] at hp ⊢
    rcases hp with hp | hp | hp <;> simp only [hp, true_or, or_true]
theorem kw_line83 : True := by
  (k_with "my call ref" => ((k_here; (with_reducible show wpAny _ _ (call (Value.ref 413) _) _ _ _); k_dflt (refine' Spec.use (drawn1_ok ?hL_q ?hI_q ?hl_q ?h0_q ?h1_q ?ha_q ?hb_q ?hrb_q ?hx_q) ?B_q ?F_q ?X_q ?N_q ?sub_q ?T_q ?k_q ?d_q ?u_q ?_ ?_; (case B_q => k_asm); (case F_q => k_asm); (case X_q => k_asm); (case N_q => k_asm); (case sub_q => exact fun _ h9 => h9); (case T_q => k_asm); (case k_q => rfl); (case d_q => ktr_room); (case u_q => ktr_units); (case hL_q => k_mem); (case hI_q => assumption); (case hl_q => omega); (case h0_q => omega); (case h1_q => omega); (case ha_q => omega); (case hb_q => omega); (case hrb_q => assumption); (case hx_q => (dsimp only; omega))); rotate_left; (exact fun _ _ _ _ _ _ _ _ _ _ _ _ q9 => False.elim q9); (intro _ _ _ _ _ _ ok'; obtain ⟨_, _, _, _, hr', _, _, hn'⟩ := ok'; subst hr' hn'; try dsimp only))))
  trivial
theorem kw_line84 : True := by
  (k_with "my call ref" => ((k_here; (with_reducible show wpAny _ _ (call (Value.ref 413) _) _ _ _); k_dflt (refine' Spec.use (drawn_ok ?hL_q ?hI_q ?hl_q ?h0_q ?h1_q ?ha_q ?hb_q ?hrb_q) ?B_q ?F_q ?X_q ?N_q ?sub_q ?T_q ?k_q ?d_q ?u_q ?_ ?_; (case B_q => k_asm); (case F_q => k_asm); (case X_q => k_asm); (case N_q => k_asm); (case sub_q => exact fun _ h9 => h9); (case T_q => k_asm); (case k_q => rfl); (case d_q => ktr_room); (case u_q => ktr_units); (case hL_q => k_mem); (case hI_q => assumption); (case hl_q => omega); (case h0_q => omega); (case h1_q => omega); (case ha_q => omega); (case hb_q => omega); (case hrb_q => assumption)); rotate_left; (exact fun _ _ _ _ _ _ _ _ _ _ _ _ q9 => False.elim q9); (intro _ _ _ _ _ _ ok'; obtain ⟨_, _, _, _, hr', _, _, hn'⟩ := ok'; subst hr' hn'; try dsimp only))))
  trivial

inductive BytesP (P : List Int → Prop) (v : Value) : Prop
  | mk : ∀ b t k, (v = .bytes b t) → (KBw.bInts b = k) → (P k) → (k.length ≤ 2) → BytesP P v
inductive RoomP (v : Value) : Prop
  | mk : ∀ n t, (v = .int n t) → (IsRoom n) → (40 ≤ n) → (n ≤ 110) → RoomP v
inductive StatP (news : List (Addr × Obj)) (v : Value) : Prop
  | mk : ∀ a i ti b tb c k, (v = .ref a) → ((a, tupO [.int i ti, .bytes b tb] c) ∈ news) → (KBw.bInts b = k) → (StatIs i k) → (1 ≤ i) → (i ≤ 5) → (k.length ≤ 6) → StatP news v
theorem menuS {prog : Program} {w : World} {A : Around} {E : Value → Shared → Prop} {s : Shared} {h₀ : Heap} {L : Addr} {news : List (Addr × Obj)} {value slice : Expr} {a : Addr} {x y z : Value} {n : Nat} {k : Int} {u : Tok} {Q : Value → Shared → Prop}
    (N : News h₀ L s.heap news) (hm : (a, listOf [x, y, z].toArray n) ∈ news) (h0 : 0 ≤ k) (h1 : k < 3) (px : StatP news x) (py : StatP news y) (pz : StatP news z) (h : ∀ v, StatP news v → Q v s)
    (hs : subscripted slice false (.ref a) (.int k u) = operate [.ref a, .int k u] (getItem (.ref a) (.int k u)) := by with_unfolding_all rfl) :
    wpAny (model prog w) A (subscriptTail value slice (.ref a) (.int k u)) Q E s := menu3 (StatP news) N hm h0 h1 px py pz h hs
theorem kw_line85 : True := by
  (k_with "my MENU" => (first
  | (refine' menu3 (BytesP IsVal) ?N_q ?m_q ?h0_q ?h1_q ?px_q ?py_q ?pz_q ?_; (case N_q => k_asm); (case m_q => k_mem); (case h0_q => assumption); (case h1_q => assumption); (case px_q => exact ⟨_, _, _, rfl, rfl, .inl rfl, by decide⟩); (case py_q => exact ⟨_, _, _, rfl, rfl, .inr (.inl rfl), by decide⟩); (case pz_q => exact ⟨_, _, _, rfl, rfl, .inr (.inr rfl), by decide⟩); (intro _ hv'; obtain ⟨_, _, _, hb', _, _, _⟩ := hv'; subst hb'))
  | (refine' menu3 (BytesP IsKey) ?N_q ?m_q ?h0_q ?h1_q ?px_q ?py_q ?pz_q ?_; (case N_q => k_asm); (case m_q => k_mem); (case h0_q => assumption); (case h1_q => assumption); (case px_q => exact ⟨_, _, _, rfl, rfl, .inl rfl, by decide⟩); (case py_q => exact ⟨_, _, _, rfl, rfl, .inr (.inl rfl), by decide⟩); (case pz_q => exact ⟨_, _, _, rfl, rfl, .inr (.inr rfl), by decide⟩); (intro _ hv'; obtain ⟨_, _, _, hb', _, _, _⟩ := hv'; subst hb'))
  | (refine' menu3 RoomP ?N_q ?m_q ?h0_q ?h1_q ?px_q ?py_q ?pz_q ?_; (case N_q => k_asm); (case m_q => k_mem); (case h0_q => assumption); (case h1_q => assumption); (case px_q => exact ⟨_, _, rfl, .inl rfl, by decide, by decide⟩); (case py_q => exact ⟨_, _, rfl, .inr (.inl rfl), by decide, by decide⟩); (case pz_q => exact ⟨_, _, rfl, .inr (.inr rfl), by decide, by decide⟩); (intro _ hv'; obtain ⟨_, _, hb', _, _, _⟩ := hv'; subst hb'))
  | (refine' menuS ?N_q ?m_q ?h0_q ?h1_q ?px_q ?py_q ?pz_q ?_; (case N_q => k_asm); (case m_q => k_mem); (case h0_q => assumption); (case h1_q => assumption); (case px_q => exact ⟨_, _, _, _, _, _, _, rfl, by k_mem, rfl, .inl ⟨rfl, rfl⟩, by decide, by decide, by decide⟩); (case py_q => exact ⟨_, _, _, _, _, _, _, rfl, by k_mem, rfl, .inr (.inl ⟨rfl, rfl⟩), by decide, by decide, by decide⟩); (case pz_q => exact ⟨_, _, _, _, _, _, _, rfl, by k_mem, rfl, .inr (.inr ⟨rfl, rfl⟩), by decide, by decide, by decide⟩); (intro _ hv'; obtain ⟨_, _, _, _, _, _, _, hb', _, _, _, _, _, _⟩ := hv'; subst hb'))))
  trivial
theorem kw_line86 : True := by
  (k_with "my subscriptTail Name Call ref int" => ((k_here; (with_reducible show wpAny _ _ (subscriptTail _ _ (Value.ref _) (Value.int _ _)) _ _ _); k_dflt (walk_at "MENU"))))
  trivial
theorem kw_line87 : True := by
  (k_with "my subscriptTail Name Name ref int" => ((k_here; (with_reducible show wpAny _ _ (subscriptTail _ _ (Value.ref _) (Value.int _ _)) _ _ _); k_dflt (walk_at "MENU"))))
  trivial
theorem kw_line88 : True := by
  (k_with "my subscriptTail List Name ref int" => ((k_here; (with_reducible show wpAny _ _ (subscriptTail _ _ (Value.ref _) (Value.int _ _)) _ _ _); k_dflt (walk_at "MENU"))))
  trivial
theorem kw_line89 : True := by
  (k_with "my subscriptTail List Call ref int" => ((k_here; (with_reducible show wpAny _ _ (subscriptTail _ _ (Value.ref _) (Value.int _ _)) _ _ _); k_dflt (walk_at "MENU"))))
  trivial
section
variable {prog : Program} {w : World} {A : Around} {E : Value → Shared → Prop} {s : Shared} {h₀ : Heap} {L : Addr} {news : List (Addr × Obj)}
theorem ne_nil2 {Q : Value → Shared → Prop} {vs : List Value} {rs : List Row} {a b : Addr} {ca cb : Nat}
    (N : News h₀ L s.heap news) (ha : (a, listOf vs.toArray ca) ∈ news) (hb : (b, listOf (#[] : Array Value) cb) ∈ news) (hR : RowsAre news vs rs) (hu : A.units + 64 < cLine) (h1 : rs = [] → (vs.length : Int) = 0 → Q (.bool false) s) (h2 : rs ≠ [] → 1 ≤ (vs.length : Int) → Q (.bool true) s) : wpAny (model prog w) A (compareOp .NotEq (.ref a) (.ref b)) Q E s := by
  cases vs with
  | nil =>
    cases rs with
    | nil =>
      have := ke_ne_ints (prog := prog) (w := w) (A := A) (E := E) (s := s) (xs := []) (ys := []) (ns := []) (ms := []) (Q := Q) (N.isList ha) (N.isList hb) .nil .nil hu
      exact this (h1 rfl rfl)
    | cons r rs => exact hR.elim
  | cons v vs =>
    cases rs with
    | nil => exact hR.elim
    | cons r rs => exact ne_nil N ha hb hu (h2 (by simp) (by simp only [List.length_cons]; omega))
theorem mod_pos {a b : Int} {t u : Tok} {Q : Value → Shared → Prop} (hb : 1 ≤ b) (h : ∀ r u', 0 ≤ r → r < b → Q (.int r u') { s with toks := s.toks + 1 }) : wpAny (model prog w) A (binaryOp .Mod (.int a t) (.int b u)) Q E s :=
  mod_int' (by omega) (h _ _ (fmod_range hb).1 (fmod_range hb).2)
theorem sub_row {value slice : Expr} {a : Addr} {vs : List Value} {rs : List Row} {n : Nat} {k : Int} {u : Tok} {Q : Value → Shared → Prop}
    (N : News h₀ L s.heap news) (hm : (a, listOf vs.toArray n) ∈ news) (hR : RowsAre news vs rs) (hr : ∀ r ∈ rs, RowOk r) (h0 : 0 ≤ k) (h1 : k < vs.length) (h2 : vs.length ≤ 4096)
    (h : ∀ a' b1 b2 t1 t2 c x y, (a', tupO [.bytes b1 t1, .bytes b2 t2] c) ∈ news → rs[k.toNat]? = some (x, y) → KBw.bInts b1 = x → KBw.bInts b2 = y → x.length ≤ 6 → IsVal y → y.length ≤ 2 → Q (.ref a') s)
    (hs : subscripted slice false (.ref a) (.int k u) = operate [.ref a, .int k u] (getItem (.ref a) (.int k u)) := by with_unfolding_all rfl) (hg : ∀ r, letTemporaryGo value (.ref a) r = pure () := by intro _; with_unfolding_all rfl) :
    wpAny (model prog w) A (subscriptTail value slice (.ref a) (.int k u)) Q E s := by
  refine sub_list N hm h0 h1 h2 ?_ hs hg
  obtain ⟨v, r, q1, q2, a', b1, b2, t1, t2, c, q3, q4, q5, q6⟩ := hR.at (i := k.toNat) (by omega)
  rw [List.getD_eq_getElem?_getD, q1, Option.getD_some, q3]
  have hro := hr r (List.mem_of_getElem? q2)
  exact h a' b1 b2 t1 t2 c r.1 r.2 q4 q2 q5 q6 hro.1 hro.2 hro.2.len
end
theorem ne_nil_no {prog : Program} {w : World} {A : Around} {E : Value → Shared → Prop} {s : Shared} {h₀ : Heap} {L : Addr} {news : List (Addr × Obj)} {Q : Value → Shared → Prop} {vs : List Value} {rs : List Row} {a b : Addr} {ca cb : Nat}
    (N : News h₀ L s.heap news) (ha : (a, listOf vs.toArray ca) ∈ news) (hb : (b, listOf (#[] : Array Value) cb) ∈ news) (hR : RowsAre news vs rs) (hu : A.units + 64 < cLine) (hn : rs ≠ []) (h2 : Q (.bool true) s) : wpAny (model prog w) A (compareOp .NotEq (.ref a) (.ref b)) Q E s :=
  ne_nil2 N ha hb hR hu (fun q _ => absurd q hn) fun _ _ => h2
theorem kw_line90 : True := by
  (k_with "my compareOp NotEq ref ref" => ((k_here; (with_reducible show wpAny _ _ (compareOp CmpOp.NotEq (Value.ref _) (Value.ref _)) _ _ _); k_dflt (refine' ne_nil2 ?N_q ?a_q ?b_q ?R_q ?u_q ?_ ?_; (case N_q => k_asm); (case a_q => k_mem); (case b_q => k_mem); (case R_q => walk_at "ROWS"); (case u_q => ktr_units); (intro _ _); rotate_left; (intro _ _); rotate_left))))
  trivial
theorem kw_line91 : True := by
  (k_with "my binaryOp Mod int int" => ((k_here; refine mod_pos ?hb_q ?_; (case hb_q => omega); intro _ _ _ _)))
  trivial
theorem kw_line92 : True := by
  (k_with "my subscriptTail Name BinOp ref int" => ((k_here; (with_reducible show wpAny _ _ (subscriptTail _ _ (Value.ref _) (Value.int _ _)) _ _ _); k_dflt (refine' sub_row ?N_q ?m_q ?R_q ?hr_q ?h0_q ?h1_q ?h2_q ?_; (case N_q => k_asm); (case m_q => k_mem); (case R_q => walk_at "ROWS"); (case hr_q => assumption); (case h0_q => omega); (case h1_q => omega); (case h2_q => omega)); intro _ _ _ _ _ _ _ _ _ _ _ _ _ _ _)))
  trivial
theorem put_ok2 {w : World} {mean : ExcName → Option Value} {mg mb : Str → Option Value} {t : Tab} {a lr : Addr} {vs : List Value} {bn bv : Array UInt8} {kn kv : List Int} {t1 t2 tn tv : Tok} {c c2 : Nat} {sub news : List (Addr × Obj)}
    (hsub : ∀ p ∈ sub, p ∈ news) (hpk : (a, tupO [.int t.cap t1, .ref lr, .int t.ins t2] c) ∈ sub ∧ (lr, listOf vs.toArray c2) ∈ sub ∧ RowsAre sub vs t.rows) (hbn : KBw.bInts bn = kn) (hbv : KBw.bInts bv = kv) (hw : Wok t) (hro : RowOk (kn, kv)) (hi : t.ins ≤ 1000) :
    Spec w mean mg mb 425 10 [.ref a, .bytes bn tn, .bytes bv tv] news
      (PutOk t kn kv sub news)
      (fun _ _ _ => False) := put_ok hsub hbn hbv hpk.1 hpk.2.1 hpk.2.2 hw hro hi
theorem kw_line93 : True := by
  (k_with "my call ref" => ((k_here; (with_reducible show wpAny _ _ (call (Value.ref 425) _) _ _ _); k_dflt (refine' Spec.use (put_ok2 ?hs_q ?hpk_q ?hbn_q ?hbv_q ?hw_q ?hro_q ?hi_q) ?B_q ?F_q ?X_q ?N_q ?sub_q ?T_q ?k_q ?d_q ?u_q ?_ ?_; (case hpk_q => assumption); (case B_q => k_asm); (case F_q => k_asm); (case X_q => k_asm); (case N_q => k_asm); (case sub_q => exact fun _ h9 => h9); (case T_q => k_asm); (case k_q => rfl); (case d_q => ktr_room); (case u_q => ktr_units); (case hs_q => (intro p9 hp9; (rename (∀ p : Addr × Obj, p ∈ (_ : List (Addr × Obj)) → p ∈ (_ : List (Addr × Obj))) => hs9); (have hp8 := hs9 p9 hp9); repeat (first | exact hp8 | refine List.Mem.tail _ ?_))); (case hbn_q => assumption); (case hbv_q => assumption); (case hw_q => assumption); (case hro_q => exact ⟨by dsimp only; omega, by assumption⟩); (case hi_q => omega)); rotate_left; (exact fun _ _ _ _ _ _ _ _ _ _ _ _ q9 => False.elim q9); (intro _ _ _ _ _ _ ok'; obtain ⟨_, hn', _, _⟩ := ok'; subst hn'; try dsimp only))))
  trivial

theorem had_of {add full rest : List (Addr × Obj)} {bx : Addr} {ob : Obj} (had : ∀ p ∈ add, AllLt p.1 full) (s1 : (bx, ob) ∈ full) (s2 : ∀ q ∈ rest, q ∈ full) : ∀ p ∈ add, AllLt p.1 rest ∧ @LT.lt Nat _ bx p.1 :=
  fun p hp => ⟨allLt_of fun q hq => allLt_mem (had p hp) q (s2 q hq), allLt_mem (had p hp) _ s1⟩
theorem word_news {h₀ h : Heap} {L D bx : Addr} {o ob : Obj} {add full rest : List (Addr × Obj)} (N : News h₀ L h ((D, o) :: (add ++ full))) (s1 : (bx, ob) ∈ full) (s2 : ∀ q ∈ rest, q ∈ full) : News h₀ L h ((D, o) :: (bx, ob) :: (add ++ rest)) := fun p hp => by
  rcases List.mem_cons.mp hp with rfl | hp
  · exact N _ (.head _)
  · rcases List.mem_cons.mp hp with rfl | hp
    · exact N _ (.tail _ (List.mem_append_right _ s1))
    · rcases List.mem_append.mp hp with hp | hp
      · exact N _ (.tail _ (List.mem_append_left _ hp))
      · exact N _ (.tail _ (List.mem_append_right _ (s2 _ hp)))
theorem kw_line94 : True := by
  (k_with "my STOPW" => ((walk_at "STOP"; (fail_if_success (with_reducible show wpAny _ _ (execs (Stmt.Assign _ (Expr.IfExp _ _ _ _) _ :: _) _) _ _ _)); (fail_if_success (with_reducible show wpAny _ _ (execs (Stmt.If (Expr.BoolOp _ _ _) _ _ _ :: _) _) _ _ _)))))
  trivial
theorem kw_line95 : True := by
  (k_with "my GOW" => (repeat' (first | (k_unmd; k_unfold; (try dsimp only)) | (walk_at "STOPW"; walk1) | (dsimp only; walk_at "STOPW"; walk1))))
  trivial
theorem rows_tail {prog : Program} {w : World} {A : Around} {E : Value → Shared → Prop} {s : Shared} {h₀ : Heap} {L l : Addr} {m : Str → Option Value} {news : List (Addr × Obj)} {value slice : Expr} {vl vu : Value} {vs : List Value} {n : Nat} {Q : Value → Shared → Prop}
    (F : Fr h₀ L s.heap m) (N : News h₀ L s.heap news) (hm : (l, listOf vs.toArray n) ∈ news) (pl : IsPart vl (some 1)) (pu : IsPart vu none)
    (h : ∀ D h', Fr h₀ L h' m → News h₀ L h' ((D, listOf (vs.drop 1).toArray 0) :: news) → (∀ p ∈ news, p.1 < D) → Q (.ref D) { s with heap := h' })
    (hs : subscripted slice false (.ref l) (.ref s.heap.objs.size) = operate [.ref s.heap.objs.size, .ref l] (getItem (.ref l) (.ref s.heap.objs.size))) (ht : ∀ r, letTemporaryGo value (.ref l) r = pure ()) (hz : vs.length ≤ 4096) :
    wpAny (model prog w) A (subscriptTail value slice (.ref l) (.ref s.heap.objs.size)) Q E { s with heap := s.heap.push { cls := .type "slice", data := .fields #[vl, vu, .none] } } :=
  kms_slice_lit F N (N.isList hm) pl pu (pick1' vs) h hs ht (by rw [sizeLine_eq, List.size_toArray]; omega)
theorem kw_line96 : True := by
  (k_with "my subscriptTail Name Slice ref ref" => ((k_here; (with_reducible show wpAny _ _ (subscriptTail _ (PySem.Expr.Slice _ _ none _) (Value.ref _) (Value.ref _)) _ _ _); k_dflt (refine' rows_tail ?F_q ?N_q ?l_q ?p_q ?q_q ?_ ?s_q ?t_q ?z_q; (case F_q => k_asm); (case N_q => k_asm); (case l_q => k_mem); (case p_q => kmk_part); (case q_q => kmk_part); (case s_q => with_unfolding_all rfl); (case t_q => kmk_pure); (case z_q => omega)); intro _ _ _ _ l1; (try k_lt l1))))
  trivial
theorem form0_news {h₀ h : Heap} {L D2 D1 D' bx : Addr} {o2 o1 od ob : Obj} {ex rest nw : List (Addr × Obj)} (N : News h₀ L h ((D2, o2) :: (D1, o1) :: (D', od) :: nw)) (e : nw = ex ++ (bx, ob) :: rest) : News h₀ L h ((D2, o2) :: (bx, ob) :: (((D1, o1) :: ex) ++ rest)) := by
  subst e
  intro p hp
  simp only [List.cons_append, List.mem_cons, List.mem_append] at hp
  refine N p ?_
  simp only [List.mem_cons, List.mem_append]
  rcases hp with hp | hp | hp | hp | hp <;> simp only [hp, true_or, or_true]
theorem room_ex {v : Int} (h0 : 0 ≤ v) (h1 : v < 3) : ∃ n, [40, 75, 110].getD v.toNat 0 = n ∧ IsRoom n ∧ 40 ≤ n ∧ n ≤ 110 := by
  have hv : v = 0 ∨ v = 1 ∨ v = 2 := by omega
  rcases hv with rfl | rfl | rfl
  · exact ⟨_, rfl, .inl rfl, by decide, by decide⟩
  · exact ⟨_, rfl, .inr (.inl rfl), by decide, by decide⟩
  · exact ⟨_, rfl, .inr (.inr rfl), by decide, by decide⟩
inductive WordOk (t : Tab) (bx lx : Addr) (c : Int) (sub rest : List (Addr × Obj)) (r : Value) (news' : List (Addr × Obj)) : Prop
  | mk : ∀ (tr : Addr) (b : Array UInt8) (tb : Tok) (wv' : Value) (ks' : List Int) (t' : Tab) (c' : Int) (tc' : Tok) (cb' ct : Nat) (add : List (Addr × Obj)), (r = .ref tr) → (news' = (tr, tupO [.bytes b tb, wv'] ct) :: (bx, listOf [.ref lx, .int c' tc'].toArray cb') :: (add ++ rest)) → (KBw.bInts b = ks') → (ks'.length ≤ 12) → (Word t ks' t') → (Wok t') → (t'.ins ≤ t.ins + 1) → (WorldIs (add ++ sub) wv' t') → ((∀ p ∈ add, AllLt p.1 rest ∧ @LT.lt Nat _ bx p.1)) → (c ≤ c') → (c' ≤ c + 3) → WordOk t bx lx c sub rest r news'
inductive CapRJ (t : Tab) (bx : Addr) (bo : Obj) (nr : Int) (sub rest : List (Addr × Obj)) (n : Nat) (ps : List (Str × Option Value)) (nw : List (Addr × Obj)) : Prop
  | mk : ∀ (j : Nat) (lj : Addr) (vj : List Value) (rj : List Row) (cj : Nat) (ex : List (Addr × Obj)), (ps = [(Str.ofString "rows", some (.ref lj))]) → (nw = ex ++ (bx, bo) :: rest) → ((lj, listOf vj.toArray cj) ∈ ex ++ sub) → (RowsAre sub vj rj) → (rj = t.rows.drop j) → (fitN nr t.rows = j + fitN nr rj) → (n = rj.length) → ((∀ p ∈ ex, AllLt p.1 rest ∧ @LT.lt Nat _ bx p.1)) → CapRJ t bx bo nr sub rest n ps nw
set_option maxHeartbeats 8000000 in
theorem word_ok {w : World} {mean : ExcName → Option Value} {mg mb : Str → Option Value} {t : Tab} {bx lx a lr : Addr} {c : Int} {vs wv : List Value} {ks : List Int} {t1 t2 tc : Tok} {cb cx cw c2 : Nat} {sub rest : List (Addr × Obj)}
    (hsub : ∀ p ∈ sub, p ∈ rest) (hL : (lx, listOf vs.toArray cx) ∈ rest) (hI : IntsAre vs ks) (hlv : vs.length ≤ 100) (hc0 : 0 ≤ c) (hc1 : c ≤ 900) (hrb : ∀ p ∈ rest, p.1 ≠ bx)
    (ha0 : (a, tupO [.int t.cap t1, .ref lr, .int t.ins t2] cw) ∈ sub) (hl0 : (lr, listOf wv.toArray c2) ∈ sub) (hR0 : RowsAre sub wv t.rows) (hw : Wok t) (hi : t.ins ≤ 900) :
    Spec w mean mg mb 430 16 [.ref bx, .ref a] ((bx, listOf [.ref lx, .int c tc].toArray cb) :: rest)
      (WordOk t bx lx c sub rest)
      (fun _ _ _ => False) := by
  unfold Spec
  k_fill
  intro dp un gd cn cs av ccd cl outer A₀ base h₀ L m s Q E B F X N T hk hdp hun hret hexc
  have ha := hsub _ ha0
  have hl := hsub _ hl0
  have hR := RowsAre.sub hsub hR0
  have hpk : (a, tupO [.int t.cap t1, .ref lr, .int t.ins t2] cw) ∈ sub ∧ (lr, listOf wv.toArray c2) ∈ sub ∧ RowsAre sub wv t.rows := ⟨ha0, hl0, hR0⟩
  clear ha0 hl0 hR0
  refine wpAny_call ?_
  k_dflt ktr_enter
  rename_i g1 L1 h1 FG F1 N1 B1 X1 T1
  replace F1 : Fr g1 L1 h1 (fun y => List.lookup y [(Str.ofString "world", .ref a), (Str.ofString "box", .ref bx)]) := F1
  have hlen := hR.len
  have hl3 := hw.len
  have hrok := hw.rows
  obtain ⟨k1, k2, k3, k4, k5⟩ := hw.ok
  walk_at "GOW"
  rename Fr g1 L1 _ _ => F2
  rename News g1 L1 _ _ => N2
  rename (_ : Int) < 3 => h_val
  revert h_val
  rename (_ : Int) < 3 => h_pick
  intro h_val
  refine store_join (Str.ofString "back") ((bx, listOf [.ref lx, .int (c + 1 + 1 + 1) _].toArray _) :: rest) (fun v => ∃ b tb, v = .int b tb ∧ 0 ≤ b ∧ b ≤ 3 ∧ (b < wv.length ∨ (wv.length : Int) = 0)) F2 N2 (by walk_at "SUB") ?_ ?_
  · intro J9
    walk_at "GO"
    · exact SJ.intro (by k_asm) (cb_drop (by k_asm) (by walk_at "SUB")) ⟨_, _, rfl, by omega, by omega, by omega⟩
    · exact SJ.intro (by k_asm) (cb_drop (by k_asm) (by walk_at "SUB")) ⟨_, _, rfl, by omega, by omega, by omega⟩
  · rintro v2 h2 tk2 ⟨b2, tb2, rfl, hb0, hb3, hbl⟩ F3 N3
    clear F2 N2
    walk_at "GOW"
    rotate_left
    · rename StatIs _ _ => hst
      rename IsVal _ => hvl
      rename WorldIs _ _ _ => hwd
      rename KBw.bInts (_ ++ _) = _ => hap
      rename ((_ : Nat) : Int) = 192 + _ => hb9
      rename (∀ p : Addr × Obj, p ∈ (_ : List (Addr × Obj)) → AllLt p.1 _) => had
      rename News h₀ L _ _ => N9
      exact hret _ _ _ _ (by k_asm) (word_news N9 (by k_mem) (by walk_at "SUB")) ⟨_, _, _, _, _, _, _, _, _, _, _, rfl, rfl, hap.trans (congrArg (fun z : Int => [z] ++ ([_] ++ _)) hb9), by simp only [List.length_append, List.length_cons, List.length_nil]; omega, word_stat hw hst hvl, addT_ok hw ⟨hst.len, hvl⟩, Int.le_refl _, hwd, had_of had (by k_mem) (by walk_at "SUB"), by omega, by omega⟩
    · dsimp only
      rename Fr g1 L1 _ _ => F4
      rename News g1 L1 _ _ => N4
      refine skip_join ((bx, listOf [.ref lx, .int (c + 1 + 1 + 1) _].toArray _) :: rest) True F4 N4 (by walk_at "SUB") ?_ ?_
      · intro J9
        walk_at "GO"
        all_goals try (dsimp only; exact JN.intro (by k_asm) (cb_drop (by k_asm) (by walk_at "SUB")) trivial)
        rename WorldIs _ _ _ => hwd
        rename (∀ p : Addr × Obj, p ∈ (_ : List (Addr × Obj)) → AllLt p.1 _) => had
        rename ((UInt8.toNat _ : Nat) : Int) = _ => hb9
        rename News h₀ L _ _ => N9
        rename KBw.bInts (_ ++ _) = _ => hap
        rename t.rows[_]? = _ => hat
        rw [hlen] at hat
        have hk9 := by assumption
        exact hret _ _ _ _ (by k_asm) (word_news N9 (by k_mem) (by walk_at "SUB")) ⟨_, _, _, _, _, _, _, _, _, _, _, rfl, rfl, hap.trans (congrArg (fun z : Int => [z] ++ ([_] ++ _)) hb9), by simp only [List.length_append, List.length_cons, List.length_nil]; omega, word_dyn hw hb0 (by omega) hat (by assumption), addT_ok hw ⟨by dsimp only; omega, by assumption⟩, Int.le_refl _, hwd, had_of had (by k_mem) (by walk_at "SUB"), by omega, by omega⟩
      · intro h3 tk3 _ F5 N5
        clear F4 N4
        refine skip_join ((bx, listOf [.ref lx, .int (c + 1 + 1 + 1) _].toArray _) :: rest) True F5 N5 (by walk_at "SUB") ?_ ?_
        · intro J9
          walk_at "GO"
          all_goals try (dsimp only; exact JN.intro (by k_asm) (cb_drop (by k_asm) (by walk_at "SUB")) trivial)
          rename WorldIs _ _ _ => hwd
          rename (∀ p : Addr × Obj, p ∈ (_ : List (Addr × Obj)) → AllLt p.1 _) => had
          rename ((UInt8.toNat _ : Nat) : Int) = _ => hb9
          rename News h₀ L _ _ => N9
          rename t.rows[_]? = _ => hat
          rw [hlen] at hat
          exact hret _ _ _ _ (by k_asm) (word_news N9 (by k_mem) (by walk_at "SUB")) ⟨_, _, _, _, _, _, _, _, _, _, _, rfl, rfl, (congrArg (fun z : Int => [z]) hb9 : _), by simp, word_dup hw hb0 (by omega) hat, addT_ok hw (hw.rows _ (List.mem_of_getElem? hat)), Int.le_refl _, hwd, had_of had (by k_mem) (by walk_at "SUB"), by omega, by omega⟩
        · intro h4 tk4 _ F6 N6
          clear F5 N5
          walk_at "GO"
          rename WorldIs _ _ _ => hwd
          rename (∀ p : Addr × Obj, p ∈ (_ : List (Addr × Obj)) → AllLt p.1 _) => had
          rename ((UInt8.toNat _ : Nat) : Int) = _ => hb9
          rename News h₀ L _ _ => N9
          rename KBw.bInts (_ ++ _) = _ => hap
          exact hret _ _ _ _ (by k_asm) (word_news N9 (by k_mem) (by walk_at "SUB")) ⟨_, _, _, _, _, _, _, _, _, _, _, rfl, rfl, hap.trans (congrArg (fun z : Int => [z] ++ _ ++ ([_] ++ _)) hb9), by simp only [List.length_append, List.length_cons, List.length_nil]; omega, word_lit hw (by assumption) (by assumption), addT_ok hw ⟨by dsimp only; omega, by assumption⟩, Int.le_refl _, hwd, had_of had (by k_mem) (by walk_at "SUB"), by omega, by omega⟩
    · rename Fr g1 L1 _ _ => F4
      rename News g1 L1 _ _ => N4
      obtain ⟨ha1, hl1, hR1⟩ := hpk
      obtain ⟨nr, hnr, hroom, hr1, hr2⟩ := room_ex (by assumption) h_pick
      rw [hnr] at F4
      refine While_so (CapRJ t bx (listOf [.ref lx, .int (c + 1 + 1 + 1) _].toArray _) nr sub rest) t.rows.length [(Str.ofString "rows", some (.ref lr))] F4 N4 (news := (bx, listOf [.ref lx, .int (c + 1 + 1 + 1) _].toArray _) :: rest) (by walk_at "SUB") (List.forall_mem_cons.mpr ⟨rfl, List.forall_mem_nil _⟩) ⟨0, lr, wv, t.rows, c2, [], rfl, rfl, hl1, hR1, rfl, (Nat.zero_add _).symm, rfl, fun _ hp => nomatch hp⟩ ?_
      rintro n ps nw h₂ tk₂ F5 N5 ⟨j, lj, vj, rj, cj, ex, rfl, hnw, hlj, hRj, hrj, hfit, rfl, hex⟩ P9
      clear F4 N4
      have hnb : ∀ bo, nw = ex ++ (bx, bo) :: rest → (bx, bo) ∈ nw := fun bo e => by rw [e]; exact List.mem_append_right _ (.head _)
      have hnb := hnb _ hnw
      have hnr : ∀ p ∈ rest, p ∈ nw := fun p hp => by rw [hnw]; exact List.mem_append_right _ (.tail _ hp)
      have hlj2 : (lj, listOf vj.toArray cj) ∈ nw := by
        rw [hnw]
        rcases List.mem_append.mp hlj with q | q
        · exact List.mem_append_left _ q
        · exact List.mem_append_right _ (.tail _ (hsub _ q))
      have hRn := RowsAre.sub (fun p hp => hnr p (hsub p hp)) hRj
      have hsj : ∀ r ∈ rj, r.1.length ≤ 4096 ∧ r.2.length ≤ 4096 := fun r hr => hw.ok.smalls r (by rw [hrj] at hr; exact List.mem_of_mem_drop hr)
      have hlenj := hRj.len
      have hlj5 : rj.length ≤ 3 := by rw [hrj, List.length_drop]; omega
      dsimp only [bindO] at F5
      walk_at "GO"
      · rename nr < _ => hlt
        rw [sum_rows] at hlt
        obtain ⟨hne, hfc⟩ := fit_cons hlt (by omega)
        have hpos := List.length_pos_iff.mpr hne
        rename _ ∧ AllLt _ nw => hl9
        rename News g1 L1 _ _ => N9
        refine ⟨_, _, _, [(_, listOf (vj.drop 1).toArray 0)] ++ (bx, _) :: rest, (rj.drop 1).length, [(Str.ofString "rows", some (.ref _))], rfl, by k_asm, cb_drop N9 (fun p hp => ?_), by walk_at "KEYS", ?_, by rw [List.length_drop]; omega, j + 1, _, vj.drop 1, rj.drop 1, 0, [(_, _)], rfl, rfl, .head _, hRj.drop 1, by rw [hrj, List.drop_drop], by omega, rfl, fun p hp => ?_⟩
        · rcases List.mem_cons.mp hp with e | hp
          · rw [e]; exact .head _
          · rcases List.mem_cons.mp hp with e | hp
            · rw [e]; exact .tail _ (.tail _ hnb)
            · exact .tail _ (.tail _ (hnr p hp))
        · intro y hy
          have y1 := hy _ (.head _)
          simp only [if_neg y1]
        · rw [List.mem_singleton.mp hp]
          exact ⟨allLt_of fun q hq => allLt_mem hl9.2 q (hnr q hq), allLt_mem hl9.2 _ hnb⟩
      · rename ¬ nr < _ => hlt
        rw [sum_rows] at hlt
        have hfs := fit_stop hlt
        have hj : j = fitN nr t.rows := by omega
        rename_i hD1 _ _ _ _ _ _ _ _
        have hD1 := hD1
        rename ((UInt8.toNat _ : Nat) : Int) = nr - 31 => hb9
        rename News h₀ L _ _ => N9
        refine hret _ _ _ _ (by k_asm) (form0_news N9 hnw) ⟨_, _, _, _, [63, nr - 31], capT t nr, _, _, _, _, _, rfl, rfl, ?_, by simp, word_cap hroom, capT_ok hw.ok hw.rows hroom, ?_, ⟨_, lj, vj, _, _, _, cj, rfl, .head _, .tail _ hlj, RowsAre.sub (fun p hp => .tail _ (List.mem_append_right _ hp)) ?_⟩, fun p hp => ?_, by omega, by omega⟩
        · show [((Int.toNat 63).toUInt8.toNat : Int), ((nr - 31).toNat.toUInt8.toNat : Int)] = [63, nr - 31]
          rw [hb9]; rfl
        · show t.ins ≤ t.ins + 1
          omega
        · have e : (capT t nr).rows = rj := by rw [hrj, hj]; rfl
          rw [e]; exact hRj
        · rcases List.mem_cons.mp hp with e | hp
          · rw [e]; exact ⟨allLt_of fun q hq => allLt_mem hD1.2 q (hnr q hq), allLt_mem hD1.2 _ hnb⟩
          · exact hex p hp

/-! ## MWrong -/
theorem kw_line97 : True := by
  (k_with "my STOPS" => ((walk_at "STOP"; (fail_if_success (with_reducible show wpAny _ _ (subscriptTail _ _ _ _) _ _ _)))))
  trivial
theorem kw_line98 : True := by
  (k_with "my GOS" => (repeat' (first | (k_unmd; k_unfold; (try dsimp only)) | (walk_at "STOPS"; walk1) | (dsimp only; walk_at "STOPS"; walk1))))
  trivial
theorem call_bytes_zero {prog : Program} {w : World} {A : Around} {E : Value → Shared → Prop} {s : Shared} {n : Int} {t : Tok} {Q : Value → Shared → Prop} (h0 : 0 ≤ n) (h1 : n ≤ 4096)
    (hQ : ∀ b t' ks, KBw.bInts b = ks → ks = List.replicate n.toNat 0 → ks.length = n.toNat → Q (.bytes b t') { s with toks := s.toks + 1 }) : wpAny (model prog w) A (call (.type "bytes") [.int n t]) Q E s :=
  call_bytes_count h0 h1 fun t' => hQ _ t' _ (bInts_rep _) rfl (List.length_replicate ..)
theorem kw_line99 : True := by
  (k_with "my call type:bytes" => ((k_here; (with_reducible show wpAny _ _ (call (Value.type "bytes") [Value.int _ _]) _ _ _); k_dflt (refine' call_bytes_zero ?a_q ?b_q ?_; (case a_q => omega); (case b_q => omega); k_whole); intro _ _ _ _ _ _)))
  trivial
theorem kw_line100 : True := by
  (k_with "my MEMH" => (repeat (first | exact List.Mem.head _ | refine List.Mem.tail _ ?_)))
  trivial
inductive WrongP (t : Tab) (news : List (Addr × Obj)) (v : Value) : Prop
  | mk : ∀ tr b tb M tm ct ks m, (v = .ref tr) → ((tr, tupO [.bytes b tb, .int M tm] ct) ∈ news) → (KBw.bInts b = ks) → (M = ((m : Nat) : Int)) → (Bars t ks m) → (ks.length ≤ 90) → WrongP t news v
theorem menu_all {prog : Program} {w : World} {A : Around} {E : Value → Shared → Prop} {s : Shared} {h₀ : Heap} {L : Addr} {news : List (Addr × Obj)} {value slice : Expr} {a : Addr} {vs : List Value} {n : Nat} {k : Int} {u : Tok} {t : Tab} {Q : Value → Shared → Prop}
    (N : News h₀ L s.heap news) (hm : (a, listOf vs.toArray n) ∈ news) (h0 : 0 ≤ k) (h1 : k < vs.length) (h2 : vs.length ≤ 4096) (hP : ∀ v ∈ vs, WrongP t news v) (h : ∀ v, WrongP t news v → Q v s)
    (hs : subscripted slice false (.ref a) (.int k u) = operate [.ref a, .int k u] (getItem (.ref a) (.int k u)) := by with_unfolding_all rfl) (hg : ∀ r, letTemporaryGo value (.ref a) r = pure () := by intro _; with_unfolding_all rfl) :
    wpAny (model prog w) A (subscriptTail value slice (.ref a) (.int k u)) Q E s := by
  refine sub_list N hm h0 h1 h2 (h _ (hP _ ?_)) hs hg
  rw [List.getD_eq_getElem?_getD, List.getElem?_eq_getElem (by omega), Option.getD_some]
  exact List.getElem_mem _
theorem bI_len {n : Nat} (h : ((Int.toNat (n : Int)).toUInt8.toNat : Int) = n) : KBw.bInts #[(Int.toNat (n : Int)).toUInt8] = [(n : Int)] := congrArg (fun z : Int => [z]) h
theorem bI_hi {n : Nat} (h : ((Int.toNat (128 + (n : Int))).toUInt8.toNat : Int) = 128 + n) : KBw.bInts #[(Int.toNat (128 + (n : Int))).toUInt8, (Int.toNat 1).toUInt8, (Int.toNat 118).toUInt8] = [128 + (n : Int), 1, 118] := congrArg (fun z : Int => [z, 1, 118]) h
inductive WrongOk (t : Tab) (news : List (Addr × Obj)) (r : Value) (news' : List (Addr × Obj)) : Prop
  | mk : ∀ (tr : Addr) (b : Array UInt8) (tb : Tok) (M : Int) (tm : Tok) (ct : Nat) (ks : List Int) (m : Nat), (r = .ref tr) → (news' = (tr, tupO [.bytes b tb, .int M tm] ct) :: news) → (KBw.bInts b = ks) → (M = ((m : Nat) : Int)) → (Bars t ks m) → (ks.length ≤ 90) → WrongOk t news r news'
set_option maxHeartbeats 8000000 in
theorem wrong_ok {w : World} {mean : ExcName → Option Value} {mg mb : Str → Option Value} {t : Tab} {a lr : Addr} {wh : Int} {wv : List Value} {t1 t2 tw : Tok} {cw c2 : Nat} {news : List (Addr × Obj)}
    (hh0 : 0 ≤ wh) (hh1 : wh < 9) (ha : (a, tupO [.int t.cap t1, .ref lr, .int t.ins t2] cw) ∈ news) (hl : (lr, listOf wv.toArray c2) ∈ news) (hR : RowsAre news wv t.rows) (hw : Wok t) :
    Spec w mean mg mb 437 12 [.int wh tw, .ref a] news
      (WrongOk t news)
      (fun _ _ _ => False) := by
  unfold Spec
  k_fill
  intro dp un gd cn cs av ccd cl outer A₀ base h₀ L m s Q E B F X N T hk hdp hun hret hexc
  refine wpAny_call ?_
  k_dflt ktr_enter
  rename_i g1 L1 h1 FG F1 N1 B1 X1 T1
  have hlen := hR.len
  have hl3 := hw.len
  have hroom := hw.room
  have hr1 : 40 ≤ t.cap ∧ t.cap ≤ 110 := by unfold IsRoom at hroom; omega
  obtain ⟨hr1, hr2⟩ := hr1
  walk_at "GOS"
  rotate_left
  · rename News g1 L1 _ _ => N9
    rename ((UInt8.toNat _ : Nat) : Int) = 128 + _ => hb1
    rename ((UInt8.toNat _ : Nat) : Int) = ((List.length _ : Nat) : Int) => hb2
    have hhn : wh ≠ 8 := by assumption
    have b5 := bars5 hw
    have b6 := bars6 hw
    rw [← hlen] at b5 b6
    refine menu_all (t := t) N9 (.head _) hh0 (by show wh < 8; omega) (by show (8 : Nat) ≤ 4096; decide) ?_ ?_
    · refine List.forall_mem_cons.mpr ⟨?_, List.forall_mem_cons.mpr ⟨?_, List.forall_mem_cons.mpr ⟨?_, List.forall_mem_cons.mpr ⟨?_, List.forall_mem_cons.mpr ⟨?_, List.forall_mem_cons.mpr ⟨?_, List.forall_mem_cons.mpr ⟨?_, List.forall_mem_cons.mpr ⟨?_, List.forall_mem_nil _⟩⟩⟩⟩⟩⟩⟩⟩
      · exact ⟨_, _, _, _, _, _, [98, 107, 107, 0], 1, rfl, by walk_at "MEMH", rfl, rfl, bars0, by decide⟩
      · exact ⟨_, _, _, _, _, _, [193, 129, 118], 2, rfl, by walk_at "MEMH", rfl, rfl, bars1, by decide⟩
      · exact ⟨_, _, _, _, _, _, [63] ++ List.replicate 9 255, 10, rfl, by walk_at "MEMH", rfl, rfl, bars2, by decide⟩
      · exact ⟨_, _, _, _, _, _, [63] ++ List.replicate 11 128, 11, rfl, by walk_at "MEMH", rfl, rfl, bars3, by decide⟩
      · exact ⟨_, _, _, _, _, _, [63, 170, 1], 3, rfl, by walk_at "MEMH", rfl, rfl, bars4, by decide⟩
      · exact ⟨_, _, _, _, _, _, [(wv.length : Int)], 1, rfl, by walk_at "MEMH", bI_len hb2, rfl, b5, by simp⟩
      · exact ⟨_, _, _, _, _, _, [128 + (wv.length : Int), 1, 118], 3, rfl, by walk_at "MEMH", bI_hi hb1, rfl, b6, by simp⟩
      · exact ⟨_, _, _, _, _, _, [255, 36, 1, 118], 4, rfl, by walk_at "MEMH", rfl, rfl, bars7, by decide⟩
    · rintro v ⟨tr, b, tb, M, tm, ct, ks, m, rfl, hm9, hb9, hM, hB, hl9⟩
      walk_at "GO"
      rename_i kF kN Tc9 kX9
      exact hret (.ref tr) ((tr, tupO [.bytes b tb, .int M tm] ct) :: news) _ _ kF (fun p hp => kN p (by
        rcases List.mem_cons.mp hp with e | hp
        · rw [e]; exact hm9
        · repeat (first | exact hp | refine List.Mem.tail _ ?_))) ⟨tr, b, tb, M, tm, ct, ks, m, rfl, rfl, hb9, hM, hB, hl9⟩
  · rename KBw.bInts (_ ++ _) = _ => hap
    rename _ = List.replicate _ _ => hz
    rename List.length _ = (t.cap - 32).toNat => hz3
    rename_i kF kN Tc9 kX9
    have hb8 := bars8 hw hz
    exact hret _ _ _ _ kF (cb_drop kN (by walk_at "SUB")) ⟨_, _, _, _, _, _, _, _, rfl, rfl, hap, by simp only [List.length_append, List.length_cons, List.length_nil], hb8, by simp only [List.length_append, List.length_map, List.length_cons, List.length_nil]; omega⟩

/-! ## MLawA -/
section
variable {prog : Program} {w : World} {A : Around} {E : Value → Shared → Prop}
/-- a for over a range -/
theorem For_rng {env : Env} {x : Str} {px : Pos} {body : List Stmt} {Q : Flow → Shared → Prop} {I : Addr} {n : Nat} (hh : A.handled = none) (a : Int) (J : Nat → Shared → Prop)
    (hJ : ∀ i s, J i s → IsRangeIter s.heap I (a + (i : Nat) * 1) ((n : Int) - (i : Nat)) 1)
    (turn : ∀ i t (s : Shared) h' tk', i < n → J i s → IsRangeIter h' I (a + ((i + 1 : Nat) : Int) * 1) ((n : Int) - ((i + 1 : Nat) : Int)) 1 → (∀ b o, b ∉ [I] → s.heap.get? b = some o → h'.get? b = some o) →
      wpAny (model prog w) A (assign (.Name x px) env (.int (a + (i : Int)) t)) (fun _ s₂ => wpAny (model prog w) A (execs body env) (fun f s₃ => match f with
        | .next | .cont => J (i + 1) s₃
        | .brk => Q .next s₃
        | .ret v => Q (.ret v) s₃) (notedBy (model prog w) A env fun e s' => cameBackBy (model prog w) A env E e s') s₂) (notedBy (model prog w) A env fun e s' => cameBackBy (model prog w) A env E e s') { s with heap := h', toks := tk' })
    (done : ∀ (s : Shared) h' tk', J n s → (∀ b o, b ∉ [I] → s.heap.get? b = some o → h'.get? b = some o) → Q .next { s with heap := h', toks := tk' }) (s₀ : Shared) (h0 : J 0 s₀) :
    codeAny (model prog w) A (.forLoop (.Name x px) (.ref I) body [] env) (fun r s' => match r with | .ok f => Q f s' | .error e => cameBackBy (model prog w) A env E e s') s₀ := by
  have W := LCg.range_walks (prog := prog) (w := w) (I := I) hh a n
  refine codeAny_forLoop_any (fun k s' => ∃ i, k = n - i ∧ i ≤ n ∧ J i s') (fun k s' q => ?_) _ ⟨0, rfl, Nat.zero_le _, h0⟩
  obtain ⟨i, rfl, hi, hj⟩ := q
  have st := hJ i s' hj
  by_cases hlt : i < n
  · refine W.item i _ _ _ hlt st fun v h' tk' hv st' hk => ?_
    obtain ⟨t, rfl⟩ := hv
    dsimp only
    refine wpAny_of_eq (a := ()) rfl ?_
    refine wpAny_mono (turn i t s' h' tk' hlt hj st' hk) (fun _ s₂ q => ?_) fun _ _ z => z
    refine wpAny_mono q (fun f s₃ q3 => ?_) fun _ _ z => z
    cases f with
    | next => exact ⟨_, by omega, i + 1, rfl, hlt, q3⟩
    | cont => exact ⟨_, by omega, i + 1, rfl, hlt, q3⟩
    | brk => exact q3
    | ret v => exact q3
  · obtain rfl : i = n := Nat.le_antisymm hi (Nat.not_lt.mp hlt)
    refine W.done _ _ _ st fun h' tk' hk => ?_
    exact wpAny_execs_nil (done s' h' tk' hj hk)
end
/-- what has been built: whatever stream goes on behind it -/
noncomputable def Pfx (S : List Int) (steps : List (Int × Tab)) (t : Tab) : Prop := ∀ S' st' stop, Strm (S.length : Int) t S' st' stop → Strm 0 t00 (S ++ S') (steps ++ st') stop
theorem Pfx.start : Pfx [] [] t00 := fun _ _ _ h => h
theorem Pfx.word {S w : List Int} {steps : List (Int × Tab)} {t t' : Tab} (h : Pfx S steps t) (hw : Word t w t') : Pfx (S ++ w) (steps ++ [(((S ++ w).length : Int), t')]) t' := fun S' st' stop hs => by
  have e : ((S ++ w).length : Int) = (S.length : Int) + w.length := by rw [List.length_append]; omega
  rw [e] at hs ⊢
  have := h (w ++ S') _ stop (Strm.word hw hs)
  rw [List.append_assoc, List.append_assoc]
  exact this
theorem Pfx.all {S : List Int} {steps : List (Int × Tab)} {t : Tab} (h : Pfx S steps t) : Strm 0 t00 S steps none := by
  have := h [] [] none .nil
  rw [List.append_nil, List.append_nil] at this
  exact this
theorem Pfx.bars {S w x : List Int} {steps : List (Int × Tab)} {t : Tab} {m : Nat} (h : Pfx S steps t) (hb : Bars t w m) : Strm 0 t00 (S ++ w ++ x) steps (some ((S.length : Int) + m)) := by
  have := h (w ++ x) [] _ (Strm.bars (hb.app (x := x)))
  rw [List.append_nil, ← List.append_assoc] at this
  exact this
theorem WorldIn.sub {news news' : List (Addr × Obj)} (hs : ∀ p ∈ news, p ∈ news') {v : Value} {t : Tab} (h : WorldIn news v t) : WorldIn news' v t := by
  obtain ⟨a, lr, vs, t1, t2, c, c2, e, h1, h2, h3⟩ := h
  exact ⟨a, lr, vs, t1, t2, c, c2, e, hs _ h1, hs _ h2, RowsAre.sub hs h3⟩
theorem StepsAre.sub {news news' : List (Addr × Obj)} (hs : ∀ p ∈ news, p ∈ news') : ∀ {vs : List Value} {ss : List (Int × Tab)}, StepsAre news vs ss → StepsAre news' vs ss
  | [], [], _ => trivial
  | _ :: _, _ :: _, h => ⟨by obtain ⟨a, t1, wv, c, e, h1, h2⟩ := h.1; exact ⟨a, t1, wv, c, e, hs _ h1, h2.sub hs⟩, StepsAre.sub hs h.2⟩
  | [], _ :: _, h => h.elim
  | _ :: _, [], h => h.elim
theorem StepsAre.app {news : List (Addr × Obj)} {v : Value} {s : Int × Tab} (h : StepIs news v s) : ∀ {vs : List Value} {ss : List (Int × Tab)}, StepsAre news vs ss → StepsAre news (vs ++ [v]) (ss ++ [s])
  | [], [], _ => ⟨h, trivial⟩
  | _ :: _, _ :: _, q => ⟨q.1, StepsAre.app h q.2⟩
  | [], _ :: _, q => q.elim
  | _ :: _, [], q => q.elim
theorem wok_room {n : Int} (h : IsRoom n) : Wok ⟨n, [], 0⟩ :=
  capT_ok (t := t00) ⟨Int.le_refl 0, by decide, Int.le_refl 0, Int.le_refl 0, Int.le_refl 0⟩ (fun _ hr => nomatch hr) h
theorem pfx_room {n : Int} (h : IsRoom n) : Pfx [63, n - 31] [(2, ⟨n, [], 0⟩)] ⟨n, [], 0⟩ := Pfx.word Pfx.start (word_cap (t := t00) h)
theorem law_perm {g h : Heap} {L m t w0 e bx lx sl cc : Addr} {om ot ow oe ob ol os co : Obj} (N : News g L h [(m, om), (t, ot), (w0, ow), (e, oe), (bx, ob), (lx, ol), (sl, os), (cc, co)]) (h1 : @LT.lt Nat _ lx bx) (h2 : @LT.lt Nat _ cc bx) :
    News g L h ((m, om) :: (bx, ob) :: [(lx, ol), (cc, co)]) ∧ ∀ p ∈ [(lx, ol), (cc, co)], p.1 ≠ bx := by
  refine ⟨fun p hp => N p ?_, fun p hp => ?_⟩
  · simp only [List.mem_cons, List.not_mem_nil, or_false] at hp ⊢
    rcases hp with hp | hp | hp | hp <;> simp only [hp, true_or, or_true]
  · simp only [List.mem_cons, List.not_mem_nil, or_false] at hp
    rcases hp with hp | hp
    · rw [hp]; exact Nat.ne_of_lt h1
    · rw [hp]; exact Nat.ne_of_lt h2
inductive LS (g h' : Heap) (L bx sl cc : Addr) (x : Addr × Obj) (wv : Value) (c : Int) (S : List Int) (stps : List (Int × Tab)) (t : Tab) : Prop
  | mk : ∀ lx vs ks tc cb cx svs cs co bw tw rst, (News g L h' ((bx, listOf [.ref lx, .int c tc].toArray cb) :: x :: (sl, listOf svs.toArray cs) :: (cc, co) :: rst)) → (co.data = .cell (some (.bytes bw tw))) → (KBw.bInts bw = S) → ((lx, listOf vs.toArray cx) ∈ rst) → (IntsAre vs ks) → (vs.length ≤ 100) → ((∀ p ∈ rst, p.1 ≠ bx)) → ((∀ p ∈ rst, p.1 ≠ x.1)) → ((∀ p ∈ rst, p.1 ≠ sl)) → ((∀ p ∈ rst, p.1 ≠ cc)) → (x.1 ≠ bx) → (x.1 ≠ sl) → (x.1 ≠ cc) → (WorldIs rst wv t) → (StepsAre rst svs stps) → LS g h' L bx sl cc x wv c S stps t
inductive WordAfter (g h' : Heap) (L bx sl cc tr : Addr) (x : Addr × Obj) (rst : List (Addr × Obj)) (wv' : Value) (t' : Tab) (ob co : Obj) (svs : List Value) (cs ct : Nat) (b : Array UInt8) (tb : Tok) : Prop
  | mk : ∀ rst2, (News g L h' ((tr, tupO [.bytes b tb, wv'] ct) :: (bx, ob) :: x :: (sl, listOf svs.toArray cs) :: (cc, co) :: rst2)) → ((∀ p ∈ rst, p ∈ rst2)) → ((∀ p ∈ rst2, p.1 ≠ bx)) → ((∀ p ∈ rst2, p.1 ≠ x.1)) → ((∀ p ∈ rst2, p.1 ≠ sl)) → ((∀ p ∈ rst2, p.1 ≠ cc)) → (WorldIs rst2 wv' t') → (@Ne Nat tr cc) → (@Ne Nat tr sl) → WordAfter g h' L bx sl cc tr x rst wv' t' ob co svs cs ct b tb
/-- behind a call of _law_word -/
theorem word_after {g h' : Heap} {L bx sl cc tr : Addr} {x : Addr × Obj} {rst add : List (Addr × Obj)} {wv' : Value} {t' : Tab} {ob co : Obj} {svs : List Value} {cs ct : Nat} {bw b : Array UInt8} {tw tb : Tok}
    (N : News g L h' ((tr, tupO [.bytes b tb, wv'] ct) :: (bx, ob) :: (add ++ (x :: (sl, listOf svs.toArray cs) :: (cc, co) :: rst)))) (hco : co.data = .cell (some (.bytes bw tw)))
    (a1 : ∀ p ∈ rst, p.1 ≠ bx) (a2 : ∀ p ∈ rst, p.1 ≠ x.1) (a3 : ∀ p ∈ rst, p.1 ≠ sl) (a4 : ∀ p ∈ rst, p.1 ≠ cc) (hwd : WorldIs (add ++ rst) wv' t') (had : ∀ p ∈ add, AllLt p.1 (x :: (sl, listOf svs.toArray cs) :: (cc, co) :: rst) ∧ @LT.lt Nat _ bx p.1) :
    WordAfter g h' L bx sl cc tr x rst wv' t' ob co svs cs ct b tb := by
  have Nn : News g L h' ((tr, tupO [.bytes b tb, wv'] ct) :: (bx, ob) :: x :: (sl, listOf svs.toArray cs) :: (cc, co) :: (add ++ rst)) := fun p hp => N p (by
    simp only [List.mem_cons, List.mem_append] at hp ⊢
    rcases hp with hp | hp | hp | hp | hp | hp | hp <;> simp only [hp, true_or, or_true])
  refine ⟨add ++ rst, Nn, fun p hp => List.mem_append_right _ hp, fun p hp => ?_, fun p hp => ?_, fun p hp => ?_, fun p hp => ?_, hwd, ?_, ?_⟩
  · rcases List.mem_append.mp hp with hp | hp
    · exact Nat.ne_of_gt (had p hp).2
    · exact a1 p hp
  · rcases List.mem_append.mp hp with hp | hp
    · exact Nat.ne_of_gt (had p hp).1.1
    · exact a2 p hp
  · rcases List.mem_append.mp hp with hp | hp
    · exact Nat.ne_of_gt (had p hp).1.2.1
    · exact a3 p hp
  · rcases List.mem_append.mp hp with hp | hp
    · exact Nat.ne_of_gt (had p hp).1.2.2.1
    · exact a4 p hp
  · exact obj_apart Nn (.head _) (.tail _ (.tail _ (.tail _ (.tail _ (.head _))))) (by intro z; rw [← z] at hco; cases hco)
  · exact obj_apart Nn (.head _) (.tail _ (.tail _ (.tail _ (.head _)))) (by intro z; exact absurd (congrArg Obj.cls z) (by intro y; injection y with y; exact absurd y (by decide)))
noncomputable abbrev rngO (a left : Int) : Obj := { cls := .type "range_iterator", data := .fields #[rawInt a, rawInt left, rawInt 1] }
theorem rng_step {h₀ h h' : Heap} {L I : Addr} {m : Str → Option Value} {a l : Int} {bo x so co : Addr × Obj} {rst : List (Addr × Obj)} (F : Fr h₀ L h m) (N : News h₀ L h (bo :: x :: so :: co :: rst)) (e : x.1 = I) (n1 : bo.1 ≠ I) (n2 : so.1 ≠ I) (n3 : co.1 ≠ I) (n4 : ∀ p ∈ rst, p.1 ≠ I) (hit : IsRangeIter h' I a l 1) (hk : ∀ b o, b ∉ [I] → h.get? b = some o → h'.get? b = some o) :
    Fr h₀ L h' m ∧ News h₀ L h' (bo :: (I, rngO a l) :: so :: co :: rst) := by
  subst e
  have hI := N x (.tail _ (.head _))
  refine ⟨⟨F.ns.at' fun o e => hk L o (by simpa using Ne.symm hI.2.1) e, fun b o e => hk b o (fun q => by rw [List.mem_singleton.mp q, hI.2.2] at e; cases e) (F.keep b o e), F.above⟩, fun p hp => ?_⟩
  have old : ∀ p ∈ bo :: x :: so :: co :: rst, p.1 ≠ x.1 → h'.get? p.1 = some p.2 ∧ p.1 ≠ L ∧ h₀.get? p.1 = none := fun p hp hne => ⟨hk _ _ (by simpa using hne) (N p hp).1, (N p hp).2⟩
  simp only [List.mem_cons] at hp
  rcases hp with q | q | q | q | hp
  · rw [q]; exact old bo (.head _) n1
  · rw [q]; exact ⟨hit, hI.2⟩
  · rw [q]; exact old so (.tail _ (.tail _ (.head _))) n2
  · rw [q]; exact old co (.tail _ (.tail _ (.tail _ (.head _)))) n3
  · exact old p (.tail _ (.tail _ (.tail _ (.tail _ hp)))) (n4 p hp)
noncomputable abbrev lawM (sl bx : Addr) (M : Str → Option Value) : Str → Option Value := fun y => if y = Str.ofString "steps" then some (.ref sl) else if y = Str.ofString "stop" then some .none else if y = Str.ofString "box" then some (.ref bx) else M y
theorem law_map {g h : Heap} {L sl bx : Addr} {wa e : Value} {M : Str → Option Value}
    (F : Fr g L h (fun y => if y = Str.ofString "steps" then some (.ref sl) else if y = Str.ofString "stop" then some .none else if y = Str.ofString "world" then some wa else if y = Str.ofString "box" then some (.ref bx) else if y = Str.ofString "world" then some e else M y))
    (t1 : M (Str.ofString "turn") = none) (t2 : M (Str.ofString "octets") = none) : ∃ M, Fr g L h (bindO [(Str.ofString "world", some wa), (Str.ofString "turn", none), (Str.ofString "octets", none)] (lawM sl bx M)) := by
  refine ⟨M, ?_⟩
  rw [bindO_eq (m₀ := lawM sl bx M) (ps := [(Str.ofString "world", some wa), (Str.ofString "turn", none), (Str.ofString "octets", none)])]
  · exact F
  · refine List.forall_mem_cons.mpr ⟨rfl, List.forall_mem_cons.mpr ⟨?_, List.forall_mem_cons.mpr ⟨?_, List.forall_mem_nil _⟩⟩⟩
    · exact t1
    · exact t2
  · intro y hy
    have y1 := hy _ (.head _)
    simp only [lawM, if_neg y1]
theorem law_start {g h : Heap} {L dt sl s1 s0 w0 e0 w1 e1 mn bx lx cc : Addr} {od om co : Obj} {nr : Int} {k1 k2 k3 k4 k5 k6 tc tw : Tok} {c1 c2 c3 c4 c5 c6 cb cx cs : Nat} {vs : List Value} {ks : List Int} {c : Int} {bw : Array UInt8}
    (N : News g L h [(dt, od), (sl, listOf [Value.ref s0, Value.ref s1].toArray cs), (s1, tupO [.int 2 k1, .ref w1] c1), (s0, tupO [.int 0 k2, .ref w0] c2), (w0, tupO [.int 0 k3, .ref e0, .int 0 k4] c3), (e0, listOf ([] : List Value).toArray c4), (w1, tupO [.int nr k5, .ref e1, .int 0 k6] c5), (e1, listOf ([] : List Value).toArray c6), (mn, om), (bx, listOf [.ref lx, .int c tc].toArray cb), (lx, listOf vs.toArray cx), (cc, co)])
    (hco : co.data = .cell (some (.bytes bw tw))) (hbw : KBw.bInts bw = [63, nr - 31]) (hI : IntsAre vs ks) (hl : vs.length ≤ 100)
    (n1 : ∀ p ∈ [dt, s1, s0, w0, e0, w1, e1, lx], @Ne Nat p bx ∧ @Ne Nat p sl ∧ @Ne Nat p cc) (n2 : ∀ p ∈ [s1, s0, w0, e0, w1, e1, lx], @Ne Nat p dt) :
    LS g h L bx sl cc (dt, od) (.ref w1) c [63, nr - 31] [(0, t00), (2, ⟨nr, [], 0⟩)] ⟨nr, [], 0⟩ := by
  have q1 : ∀ p ∈ [(s1, tupO [.int 2 k1, .ref w1] c1), (s0, tupO [.int 0 k2, .ref w0] c2), (w0, tupO [.int 0 k3, .ref e0, .int 0 k4] c3), (e0, listOf ([] : List Value).toArray c4), (w1, tupO [.int nr k5, .ref e1, .int 0 k6] c5), (e1, listOf ([] : List Value).toArray c6), (lx, listOf vs.toArray cx)], p.1 ∈ [s1, s0, w0, e0, w1, e1, lx] := fun p hp => by
    simp only [List.mem_cons, List.not_mem_nil, or_false] at hp ⊢
    rcases hp with hp | hp | hp | hp | hp | hp | hp <;> simp only [hp, true_or, or_true]
  refine ⟨lx, vs, ks, tc, cb, cx, [Value.ref s0, Value.ref s1], cs, co, bw, tw, [(s1, tupO [.int 2 k1, .ref w1] c1), (s0, tupO [.int 0 k2, .ref w0] c2), (w0, tupO [.int 0 k3, .ref e0, .int 0 k4] c3), (e0, listOf ([] : List Value).toArray c4), (w1, tupO [.int nr k5, .ref e1, .int 0 k6] c5), (e1, listOf ([] : List Value).toArray c6), (lx, listOf vs.toArray cx)], fun p hp => N p ?_, hco, hbw, by simp, hI, hl,
    fun p hp => (n1 _ (.tail _ (q1 p hp))).1, fun p hp => n2 _ (q1 p hp), fun p hp => (n1 _ (.tail _ (q1 p hp))).2.1, fun p hp => (n1 _ (.tail _ (q1 p hp))).2.2, (n1 dt (.head _)).1, (n1 dt (.head _)).2.1, (n1 dt (.head _)).2.2, ?_, ?_⟩
  · simp only [List.mem_cons, List.not_mem_nil, or_false] at hp ⊢
    rcases hp with hp | hp | hp | hp | hp | hp | hp | hp | hp | hp | hp <;> simp only [hp, true_or, or_true]
  · exact ⟨w1, e1, [], k5, k6, c5, c6, rfl, by simp, by simp, trivial⟩
  · exact ⟨⟨s0, k2, .ref w0, c2, rfl, by simp, w0, e0, [], k3, k4, c3, c4, rfl, by simp, by simp, trivial⟩, ⟨s1, k1, .ref w1, c1, rfl, by simp, w1, e1, [], k5, k6, c5, c6, rfl, by simp, by simp, trivial⟩, trivial⟩
theorem rng_facts {v : Int} (h0 : 0 ≤ v) (h1 : v < 4) : ∃ n : Nat, Builtin.Range.small 0 (1 + v) 1 = true ∧ Builtin.Range.rangeSize 0 (1 + v) 1 = ((n : Nat) : Int) ∧ n ≤ 4 := by
  have hv : v = 0 ∨ v = 1 ∨ v = 2 ∨ v = 3 := by omega
  rcases hv with rfl | rfl | rfl | rfl
  · exact ⟨1, rfl, rfl, by decide⟩
  · exact ⟨2, rfl, rfl, by decide⟩
  · exact ⟨3, rfl, rfl, by decide⟩
  · exact ⟨4, rfl, rfl, by decide⟩
inductive LawPack (g h : Heap) (L cc : Addr) (c : Int) (S : List Int) (stps : List (Int × Tab)) (t : Tab) : Prop
  | mk : ∀ (bx sl : Addr) (x : Addr × Obj) (wa : Value) (M : Str → Option Value), (Fr g L h (bindO [(Str.ofString "world", some wa), (Str.ofString "turn", none), (Str.ofString "octets", none)] (lawM sl bx M))) → (LS g h L bx sl cc x wa c S stps t) → (@LT.lt Nat _ cc bx) → (@LT.lt Nat _ bx sl) → LawPack g h L cc c S stps t
theorem law_pack {g h : Heap} {L bx sl cc : Addr} {x : Addr × Obj} {wa : Value} {M : Str → Option Value} {c : Int} {S : List Int} {stps : List (Int × Tab)} {t : Tab}
    (F : Fr g L h (bindO [(Str.ofString "world", some wa), (Str.ofString "turn", none), (Str.ofString "octets", none)] (lawM sl bx M))) (hL : LS g h L bx sl cc x wa c S stps t) (o1 : @LT.lt Nat _ cc bx) (o2 : @LT.lt Nat _ bx sl) :
    LawPack g h L cc c S stps t := ⟨bx, sl, x, wa, M, F, hL, o1, o2⟩
inductive RngNew (h₀ h : Heap) (L : Addr) (m : Str → Option Value) (ledger : List (Addr × Obj)) (a l : Int) : Prop
  | mk : ∀ (I : Addr), (h.objs.size = I) → (Fr h₀ L (h.push (rngO a l)) m) → (News h₀ L (h.push (rngO a l)) ((I, rngO a l) :: ledger)) → ((∀ p ∈ ledger, @LT.lt Nat _ p.1 I)) → RngNew h₀ h L m ledger a l
theorem rng_new {h₀ h : Heap} {L : Addr} {m : Str → Option Value} {ledger : List (Addr × Obj)} {a l : Int} (F : Fr h₀ L h m) (N : News h₀ L h ledger) :
    RngNew h₀ h L m ledger a l :=
  ⟨_, rfl, F.push _, N.push F _, fun p hp => Heap.lt_size (N p hp).1⟩
theorem swap_x {g h : Heap} {L : Addr} {b x s c y : Addr × Obj} {rst : List (Addr × Obj)} (N : News g L h (y :: b :: x :: s :: c :: rst)) : News g L h (b :: y :: s :: c :: rst) := fun p hp => N p (by
  simp only [List.mem_cons] at hp ⊢
  rcases hp with hp | hp | hp | hp | hp <;> simp only [hp, true_or, or_true])
inductive JL (g : Heap) (L bx sl cc I : Addr) (M : Str → Option Value) (n : Nat) (s0 : Shared) (i : Nat) (s' : Shared) : Prop
  | mk : ∀ h' tk t S stps wa c o1 o2, (s' = { s0 with heap := h', toks := tk }) → (Fr g L h' (bindO [(Str.ofString "world", some wa), (Str.ofString "turn", o1), (Str.ofString "octets", o2)] (lawM sl bx M))) → (LS g h' L bx sl cc (I, rngO (0 + (i : Nat) * 1) ((n : Int) - (i : Nat))) wa c S ((0, t00) :: stps) t) → (Pfx S stps t) → (Wok t) → (t.ins ≤ i) → (S.length ≤ 2 + 12 * i) → (stps.length = 1 + i) → (0 ≤ c) → (c ≤ 2 + 3 * (i : Int)) → (i ≤ n) → JL g L bx sl cc I M n s0 i s'
theorem law_for {prog : Program} {w : World} {A : Around} {E : Value → Shared → Prop} {env : Env} {px : Pos} {body : List Stmt} {Q : Flow → Shared → Prop} {g h8 : Heap} {tk8 n : Nat} {s0 : Shared} {L bx sl cc I lx : Addr} {M : Str → Option Value} {x : Addr × Obj} {wa : Value} {nr c : Int} {vs svs : List Value} {ks : List Int} {tc tw : Tok} {cb cx cs : Nat} {co : Obj} {bw : Array UInt8} {rst : List (Addr × Obj)}
    (hh : A.handled = none) (F : Fr g L h8 (bindO [(Str.ofString "world", some wa), (Str.ofString "turn", none), (Str.ofString "octets", none)] (lawM sl bx M)))
    (N : News g L h8 ((I, rngO 0 (n : Int)) :: (bx, listOf [.ref lx, .int c tc].toArray cb) :: x :: (sl, listOf svs.toArray cs) :: (cc, co) :: rst)) (hlt : ∀ p ∈ (bx, listOf [.ref lx, .int c tc].toArray cb) :: x :: (sl, listOf svs.toArray cs) :: (cc, co) :: rst, @LT.lt Nat _ p.1 I)
    (hco : co.data = .cell (some (.bytes bw tw))) (hbw : KBw.bInts bw = [63, nr - 31]) (hlx : (lx, listOf vs.toArray cx) ∈ rst) (hI : IntsAre vs ks) (hl : vs.length ≤ 100) (a1 : ∀ p ∈ rst, p.1 ≠ bx) (a3 : ∀ p ∈ rst, p.1 ≠ sl) (a4 : ∀ p ∈ rst, p.1 ≠ cc)
    (hwd : WorldIs rst wa ⟨nr, [], 0⟩) (hst : StepsAre rst svs [(0, t00), (2, ⟨nr, [], 0⟩)]) (hroom : IsRoom nr) (hc0 : 0 ≤ c) (hc1 : c ≤ 2)
    (turn : ∀ i t (s : Shared) h' tk', i < n → JL g L bx sl cc I M n s0 i s → IsRangeIter h' I (0 + ((i + 1 : Nat) : Int) * 1) ((n : Int) - ((i + 1 : Nat) : Int)) 1 → (∀ b o, b ∉ [I] → s.heap.get? b = some o → h'.get? b = some o) →
      let P9 : Flow → Shared → Prop := fun f s₃ => match f with
        | .next | .cont => JL g L bx sl cc I M n s0 (i + 1) s₃
        | .brk => Q .next s₃
        | .ret v => Q (.ret v) s₃
      let E9 : Value → Shared → Prop := notedBy (model prog w) A env fun e s' => cameBackBy (model prog w) A env E e s'
      wpAny (model prog w) A (assign (.Name (Str.ofString "turn") px) env (.int (0 + (i : Int)) t)) (fun _ s₂ => wpAny (model prog w) A (execs body env) P9 E9 s₂) E9 { s with heap := h', toks := tk' })
    (done : ∀ (s : Shared) h' tk', JL g L bx sl cc I M n s0 n s → (∀ b o, b ∉ [I] → s.heap.get? b = some o → h'.get? b = some o) → Q .next { s with heap := h', toks := tk' }) :
    codeAny (model prog w) A (.forLoop (.Name (Str.ofString "turn") px) (.ref I) body [] env) (fun r s' => match r with | .ok f => Q f s' | .error e => cameBackBy (model prog w) A env E e s') { s0 with heap := h8, toks := tk8 } := by
  refine For_rng hh 0 (JL g L bx sl cc I M n s0) (fun i s q => ?_) turn done _ ?_
  · obtain ⟨h', tk, t, S, stps, wa, c, o1, o2, rfl, F6, ⟨lx, vs, ks, tc, cb, cx, svs, cs, co, bw, tw, rst, N6, _⟩, _⟩ := q
    exact (N6 _ (.tail _ (.head _))).1
  · refine ⟨h8, tk8, ⟨nr, [], 0⟩, [63, nr - 31], [(2, ⟨nr, [], 0⟩)], wa, c, none, none, rfl, F, ⟨lx, vs, ks, tc, cb, cx, svs, cs, co, bw, tw, rst, fun p hp => N p ?_, hco, hbw, hlx, hI, hl, a1, fun p hp => Nat.ne_of_lt (hlt p (.tail _ (.tail _ (.tail _ (.tail _ hp))))), a3, a4, Nat.ne_of_gt (hlt _ (.head _)), Nat.ne_of_gt (hlt _ (.tail _ (.tail _ (.head _)))), Nat.ne_of_gt (hlt _ (.tail _ (.tail _ (.tail _ (.head _))))), hwd, hst⟩, pfx_room hroom, wok_room hroom, by show (0 : Int) ≤ _; omega, by simp, rfl, hc0, by omega, Nat.zero_le _⟩
    have e : ((0 : Int) + ((0 : Nat) : Int) * 1) = 0 := rfl
    have e2 : ((n : Int) - ((0 : Nat) : Int)) = n := by omega
    rw [e, e2] at hp
    simp only [List.mem_cons] at hp ⊢
    rcases hp with hp | hp | hp | hp | hp <;> simp only [hp, true_or, or_true]
theorem law_turn {g h' : Heap} {L D tr bx sl cc lx : Addr} {x : Addr × Obj} {rst rst2 : List (Addr × Obj)} {S w : List Int} {ss : List (Int × Tab)} {t' : Tab} {c' : Int} {k1 tc' tw : Tok} {o1 co : Obj} {c1 cb' cx cs : Nat} {vs svs : List Value} {ks : List Int} {wv' : Value} {bw : Array UInt8}
    (N : News g L h' ((D, tupO [.int ((S.length + w.length : Nat) : Int) k1, wv'] c1) :: (tr, o1) :: (bx, listOf [.ref lx, .int c' tc'].toArray cb') :: x :: (sl, listOf (svs ++ [Value.ref D]).toArray cs) :: (cc, co) :: rst2)) (hco : co.data = .cell (some (.bytes bw tw))) (hbw : KBw.bInts bw = S ++ w)
    (hlx : (lx, listOf vs.toArray cx) ∈ rst) (hr2 : ∀ p ∈ rst, p ∈ rst2) (hI : IntsAre vs ks) (hl : vs.length ≤ 100) (b1 : ∀ p ∈ rst2, p.1 ≠ bx) (b2 : ∀ p ∈ rst2, p.1 ≠ x.1) (b3 : ∀ p ∈ rst2, p.1 ≠ sl) (b4 : ∀ p ∈ rst2, p.1 ≠ cc) (x1 : x.1 ≠ bx) (x2 : x.1 ≠ sl) (x3 : x.1 ≠ cc)
    (hwd : WorldIs rst2 wv' t') (hst : StepsAre rst svs ss) (d1 : D ≠ bx) (d2 : D ≠ x.1) (d3 : D ≠ sl) (d4 : D ≠ cc) : LS g h' L bx sl cc x wv' c' (S ++ w) (ss ++ [(((S.length + w.length : Nat) : Int), t')]) t' := by
  have up : ∀ p ∈ rst2, p ∈ (D, tupO [.int ((S.length + w.length : Nat) : Int) k1, wv'] c1) :: rst2 := fun p hp => .tail _ hp
  have ap : ∀ {z : Addr}, D ≠ z → (∀ p ∈ rst2, p.1 ≠ z) → ∀ p ∈ (D, tupO [.int ((S.length + w.length : Nat) : Int) k1, wv'] c1) :: rst2, p.1 ≠ z := fun h1 h2 p hp => by
    rcases List.mem_cons.mp hp with e | hp
    · rw [e]; exact h1
    · exact h2 p hp
  refine ⟨lx, vs, ks, tc', cb', cx, svs ++ [Value.ref D], cs, co, bw, tw, (D, tupO [.int ((S.length + w.length : Nat) : Int) k1, wv'] c1) :: rst2, fun p hp => N p ?_, hco, hbw, .tail _ (hr2 _ hlx), hI, hl, ap d1 b1, ap d2 b2, ap d3 b3, ap d4 b4, x1, x2, x3, WorldIn.sub up hwd, StepsAre.app (s := (((S.length + w.length : Nat) : Int), t')) ⟨D, k1, wv', c1, rfl, .head _, WorldIn.sub up hwd⟩ (StepsAre.sub (fun p hp => up p (hr2 p hp)) hst)⟩
  simp only [List.mem_cons] at hp ⊢
  rcases hp with hp | hp | hp | hp | hp | hp <;> simp only [hp, true_or, or_true]
theorem law_fr {g h' : Heap} {L sl bx : Addr} {M m : Str → Option Value} {wa : Value} (F : Fr g L h' m) (h1 : m (Str.ofString "world") = some wa)
    (h3 : ∀ y, y ≠ Str.ofString "world" → y ≠ Str.ofString "turn" → y ≠ Str.ofString "octets" → m y = lawM sl bx M y) : ∃ o1 o2, Fr g L h' (bindO [(Str.ofString "world", some wa), (Str.ofString "turn", o1), (Str.ofString "octets", o2)] (lawM sl bx M)) := by
  refine ⟨m (Str.ofString "turn"), m (Str.ofString "octets"), ?_⟩
  rw [bindO_eq (m := m) (m₀ := lawM sl bx M)]
  · exact F
  · exact List.forall_mem_cons.mpr ⟨h1, List.forall_mem_cons.mpr ⟨rfl, List.forall_mem_cons.mpr ⟨rfl, List.forall_mem_nil _⟩⟩⟩
  · intro y hy
    exact h3 y (hy _ (.head _)) (hy _ (.tail _ (.head _))) (hy _ (.tail _ (.tail _ (.head _))))
theorem kw_line101 : True := by
  (k_with "my LFR" => ((intro _ y1 y2 y3; simp only [lawM, bindO, if_neg y1, if_neg y2, if_neg y3])))
  trivial
theorem kw_line102 : True := by
  (k_with "my STOPD" => ((walk_at "STOP"; (fail_if_success (with_reducible show wpAny _ _ (call (Value.ref 413) _) _ _ _)); (fail_if_success (with_reducible show wpAny _ _ (call (Value.ref 430) _) _ _ _)); (fail_if_success (with_reducible show wpAny _ _ (call (Value.ref 437) _) _ _ _)); (fail_if_success (with_reducible show wpAny _ _ (call (Value.ref 442) _) _ _ _)); (fail_if_success (with_reducible show wpAny _ _ (subscriptTail (Expr.List _ _) _ _ _) _ _ _)); (fail_if_success (with_reducible show wpAny _ _ (eval (Expr.ListComp _ _ _ _) _) _ _ _)); (fail_if_success (with_reducible show wpAny _ _ (pyIter _) _ _ _)))))
  trivial
theorem kw_line103 : True := by
  (k_with "my GOD" => (repeat' (first | (k_unmd; k_unfold; (try dsimp only)) | (walk_at "STOPD"; walk1) | (dsimp only; walk_at "STOPD"; walk1))))
  trivial

/-! ## MLawB -/
/-- four statements ahead of a meeting point -/
theorem join4 {M : Model} {A : Around} {E : Value → Shared → Prop} {Q : Flow → Shared → Prop} {s : Shared} {env : Env} {a b c d : Stmt} {rest : List Stmt} (J : Shared → Prop)
    (h : wpAny M A (exec a env) (fun f s1 => match f with
      | .next => wpAny M A (exec b env) (fun f s2 => match f with
        | .next => wpAny M A (exec c env) (fun f s3 => match f with
          | .next => wpAny M A (exec d env) (fun f s4 => match f with | .next => J s4 | f => Q f s4) E s3
          | f => Q f s3) E s2
        | f => Q f s2) E s1
      | f => Q f s1) E s) (k : ∀ s', J s' → wpAny M A (execs rest env) Q E s') : wpAny M A (execs (a :: b :: c :: d :: rest) env) Q E s := by
  refine wpAny_execs_cons (wpAny_mono h (fun f s1 q => ?_) fun _ _ x => x)
  cases f with
  | next => exact join3 J q k
  | _ => exact q
theorem kw_line104 : True := by
  (k_with "my STOPE" => ((walk_at "STOPD"; (fail_if_success (with_reducible show wpAny _ _ (execs (Stmt.If (Expr.Compare (Expr.Name _ _) [CmpOp.Lt] _ _) _ _ _ :: _) _) _ _ _)))))
  trivial
theorem kw_line105 : True := by
  (k_with "my GOE" => (repeat' (first | (k_unmd; k_unfold; (try dsimp only)) | (walk_at "STOPE"; walk1) | (dsimp only; walk_at "STOPE"; walk1))))
  trivial
theorem rng_done {h₀ h h' : Heap} {L I : Addr} {m : Str → Option Value} {bo x so co : Addr × Obj} {rst : List (Addr × Obj)} (F : Fr h₀ L h m) (N : News h₀ L h (bo :: x :: so :: co :: rst)) (e : x.1 = I) (n1 : bo.1 ≠ I) (n2 : so.1 ≠ I) (n3 : co.1 ≠ I) (n4 : ∀ p ∈ rst, p.1 ≠ I) (hk : ∀ b o, b ∉ [I] → h.get? b = some o → h'.get? b = some o) :
    Fr h₀ L h' m ∧ News h₀ L h' (bo :: so :: co :: rst) := by
  subst e
  have hI := N x (.tail _ (.head _))
  refine ⟨⟨F.ns.at' fun o e => hk L o (by simpa using Ne.symm hI.2.1) e, fun b o e => hk b o (fun q => by rw [List.mem_singleton.mp q, hI.2.2] at e; cases e) (F.keep b o e), F.above⟩, fun p hp => ?_⟩
  have old : ∀ p ∈ bo :: x :: so :: co :: rst, p.1 ≠ x.1 → h'.get? p.1 = some p.2 ∧ p.1 ≠ L ∧ h₀.get? p.1 = none := fun p hp hne => ⟨hk _ _ (by simpa using hne) (N p hp).1, (N p hp).2⟩
  simp only [List.mem_cons] at hp
  rcases hp with q | q | q | hp
  · rw [q]; exact old bo (.head _) n1
  · rw [q]; exact old so (.tail _ (.tail _ (.head _))) n2
  · rw [q]; exact old co (.tail _ (.tail _ (.tail _ (.head _)))) n3
  · exact old p (.tail _ (.tail _ (.tail _ (.tail _ hp)))) (n4 p hp)
inductive WordAfter0 (g h' : Heap) (L bx sl cc tr : Addr) (rst : List (Addr × Obj)) (wv' : Value) (t' : Tab) (ob co : Obj) (svs : List Value) (cs ct : Nat) (b : Array UInt8) (tb : Tok) : Prop
  | mk : ∀ rst2, (News g L h' ((tr, tupO [.bytes b tb, wv'] ct) :: (bx, ob) :: (sl, listOf svs.toArray cs) :: (cc, co) :: rst2)) → ((∀ p ∈ rst, p ∈ rst2)) → ((∀ p ∈ rst2, p.1 ≠ bx)) → ((∀ p ∈ rst2, p.1 ≠ sl)) → ((∀ p ∈ rst2, p.1 ≠ cc)) → (WorldIs rst2 wv' t') → (@Ne Nat tr cc) → (@Ne Nat tr sl) → WordAfter0 g h' L bx sl cc tr rst wv' t' ob co svs cs ct b tb
/-- behind a call of _law_word, behind the loop -/
theorem word_after0 {g h' : Heap} {L bx sl cc tr : Addr} {rst add : List (Addr × Obj)} {wv' : Value} {t' : Tab} {ob co : Obj} {svs : List Value} {cs ct : Nat} {bw b : Array UInt8} {tw tb : Tok}
    (N : News g L h' ((tr, tupO [.bytes b tb, wv'] ct) :: (bx, ob) :: (add ++ ((sl, listOf svs.toArray cs) :: (cc, co) :: rst)))) (hco : co.data = .cell (some (.bytes bw tw)))
    (a1 : ∀ p ∈ rst, p.1 ≠ bx) (a3 : ∀ p ∈ rst, p.1 ≠ sl) (a4 : ∀ p ∈ rst, p.1 ≠ cc) (hwd : WorldIs (add ++ rst) wv' t') (had : ∀ p ∈ add, AllLt p.1 ((sl, listOf svs.toArray cs) :: (cc, co) :: rst) ∧ @LT.lt Nat _ bx p.1) :
    WordAfter0 g h' L bx sl cc tr rst wv' t' ob co svs cs ct b tb := by
  have Nn : News g L h' ((tr, tupO [.bytes b tb, wv'] ct) :: (bx, ob) :: (sl, listOf svs.toArray cs) :: (cc, co) :: (add ++ rst)) := fun p hp => N p (by
    simp only [List.mem_cons, List.mem_append] at hp ⊢
    rcases hp with hp | hp | hp | hp | hp | hp <;> simp only [hp, true_or, or_true])
  refine ⟨add ++ rst, Nn, fun p hp => List.mem_append_right _ hp, fun p hp => ?_, fun p hp => ?_, fun p hp => ?_, hwd, ?_, ?_⟩
  · rcases List.mem_append.mp hp with hp | hp
    · exact Nat.ne_of_gt (had p hp).2
    · exact a1 p hp
  · rcases List.mem_append.mp hp with hp | hp
    · exact Nat.ne_of_gt (had p hp).1.1
    · exact a3 p hp
  · rcases List.mem_append.mp hp with hp | hp
    · exact Nat.ne_of_gt (had p hp).1.2.1
    · exact a4 p hp
  · exact obj_apart Nn (.head _) (.tail _ (.tail _ (.tail _ (.head _)))) (by intro z; rw [← z] at hco; cases hco)
  · exact obj_apart Nn (.head _) (.tail _ (.tail _ (.head _))) (by intro z; exact absurd (congrArg Obj.cls z) (by intro y; injection y with y; exact absurd y (by decide)))
/-- what stands ahead of the draws of low and high -/
inductive JX (g : Heap) (L bx sl cc : Addr) (s0 : Shared) (s' : Shared) : Prop
  | mk : ∀ h' tk m S stps stop stopV c lx vs ks tc cb cx svs cs co bw tw rst, (s' = { s0 with heap := h', toks := tk }) → (Fr g L h' m) → (m (Str.ofString "steps") = some (.ref sl)) → (m (Str.ofString "stop") = some stopV) → (m (Str.ofString "box") = some (.ref bx)) → (News g L h' ((bx, listOf [.ref lx, .int c tc].toArray cb) :: (sl, listOf svs.toArray cs) :: (cc, co) :: rst)) → (co.data = .cell (some (.bytes bw tw))) → (KBw.bInts bw = S) → ((lx, listOf vs.toArray cx) ∈ rst) → (IntsAre vs ks) → (vs.length ≤ 100) → ((∀ p ∈ rst, p.1 ≠ bx)) → ((∀ p ∈ rst, p.1 ≠ sl)) → ((∀ p ∈ rst, p.1 ≠ cc)) → (StepsAre rst svs ((0, t00) :: stps)) → (Strm 0 t00 S stps stop) → (StopIs stopV stop) → (S.length ≤ 200) → (stps.length ≤ 10) → (0 ≤ c) → (c ≤ 100) → JX g L bx sl cc s0 s'
theorem jx_none {g h' : Heap} {L D tr bx sl cc lx : Addr} {m : Str → Option Value} {s0 : Shared} {tk : Nat} {rst rst2 : List (Addr × Obj)} {S w : List Int} {stps : List (Int × Tab)} {t t' : Tab} {c' : Int} {k1 tc' tw : Tok} {o1 co : Obj} {c1 cb' cx cs : Nat} {vs svs : List Value} {ks : List Int} {wv' : Value} {bw : Array UInt8}
    (F : Fr g L h' m) (f1 : m (Str.ofString "steps") = some (.ref sl)) (f2 : m (Str.ofString "stop") = some .none) (f3 : m (Str.ofString "box") = some (.ref bx))
    (N : News g L h' ((D, tupO [.int ((S.length + w.length : Nat) : Int) k1, wv'] c1) :: (tr, o1) :: (bx, listOf [.ref lx, .int c' tc'].toArray cb') :: (sl, listOf (svs ++ [Value.ref D]).toArray cs) :: (cc, co) :: rst2)) (hco : co.data = .cell (some (.bytes bw tw))) (hbw : KBw.bInts bw = S ++ w)
    (hlx : (lx, listOf vs.toArray cx) ∈ rst) (hr2 : ∀ p ∈ rst, p ∈ rst2) (hI : IntsAre vs ks) (hl : vs.length ≤ 100) (b1 : ∀ p ∈ rst2, p.1 ≠ bx) (b3 : ∀ p ∈ rst2, p.1 ≠ sl) (b4 : ∀ p ∈ rst2, p.1 ≠ cc)
    (hwd : WorldIs rst2 wv' t') (hst : StepsAre rst svs ((0, t00) :: stps)) (d1 : D ≠ bx) (d3 : D ≠ sl) (d4 : D ≠ cc) (hp : Pfx S stps t) (hw : Word t w t') (z1 : S.length + w.length ≤ 200) (z2 : stps.length ≤ 9) (z3 : 0 ≤ c') (z4 : c' ≤ 100) :
    JX g L bx sl cc s0 { s0 with heap := h', toks := tk } := by
  have up : ∀ p ∈ rst2, p ∈ (D, tupO [.int ((S.length + w.length : Nat) : Int) k1, wv'] c1) :: rst2 := fun p hp => .tail _ hp
  have ap : ∀ {z : Addr}, D ≠ z → (∀ p ∈ rst2, p.1 ≠ z) → ∀ p ∈ (D, tupO [.int ((S.length + w.length : Nat) : Int) k1, wv'] c1) :: rst2, p.1 ≠ z := fun h1 h2 p hp => by
    rcases List.mem_cons.mp hp with e | hp
    · rw [e]; exact h1
    · exact h2 p hp
  have hp2 := (hp.word hw).all
  rw [List.length_append] at hp2
  refine ⟨h', tk, m, S ++ w, stps ++ [(((S.length + w.length : Nat) : Int), t')], none, .none, c', lx, vs, ks, tc', cb', cx, svs ++ [Value.ref D], cs, co, bw, tw, (D, tupO [.int ((S.length + w.length : Nat) : Int) k1, wv'] c1) :: rst2, rfl, F, f1, f2, f3, fun p hp => N p ?_, hco, hbw, .tail _ (hr2 _ hlx), hI, hl, ap d1 b1, ap d3 b3, ap d4 b4, StepsAre.app (s := (((S.length + w.length : Nat) : Int), t')) (ss := (0, t00) :: stps) ⟨D, k1, wv', c1, rfl, .head _, WorldIn.sub up hwd⟩ (StepsAre.sub (fun p hp => up p (hr2 p hp)) hst), hp2, rfl, by rw [List.length_append]; exact z1, by simp only [List.length_append, List.length_cons, List.length_nil]; omega, z3, z4⟩
  simp only [List.mem_cons] at hp ⊢
  rcases hp with hp | hp | hp | hp | hp <;> simp only [hp, true_or, or_true]
theorem jx_some {g h' : Heap} {L tr bx sl cc lx : Addr} {m : Str → Option Value} {s0 : Shared} {tk mm : Nat} {rst rst2 : List (Addr × Obj)} {S w x : List Int} {stps : List (Int × Tab)} {t : Tab} {c' : Int} {tc' tw ts : Tok} {o1 co : Obj} {cb' cx cs : Nat} {vs svs : List Value} {ks : List Int} {bw : Array UInt8}
    (F : Fr g L h' m) (f1 : m (Str.ofString "steps") = some (.ref sl)) (f2 : m (Str.ofString "stop") = some (.int ((S.length : Int) + (mm : Int)) ts)) (f3 : m (Str.ofString "box") = some (.ref bx))
    (N : News g L h' ((tr, o1) :: (bx, listOf [.ref lx, .int c' tc'].toArray cb') :: (sl, listOf svs.toArray cs) :: (cc, co) :: rst2)) (hco : co.data = .cell (some (.bytes bw tw))) (hbw : KBw.bInts bw = S ++ w ++ x)
    (hlx : (lx, listOf vs.toArray cx) ∈ rst) (hr2 : ∀ p ∈ rst, p ∈ rst2) (hI : IntsAre vs ks) (hl : vs.length ≤ 100) (b1 : ∀ p ∈ rst2, p.1 ≠ bx) (b3 : ∀ p ∈ rst2, p.1 ≠ sl) (b4 : ∀ p ∈ rst2, p.1 ≠ cc)
    (hst : StepsAre rst svs ((0, t00) :: stps)) (hp : Pfx S stps t) (hb : Bars t w mm) (z1 : S.length + w.length + x.length ≤ 200) (z2 : stps.length ≤ 10) (z3 : 0 ≤ c') (z4 : c' ≤ 100) :
    JX g L bx sl cc s0 { s0 with heap := h', toks := tk } :=
  ⟨h', tk, m, S ++ w ++ x, stps, some ((S.length : Int) + mm), _, c', lx, vs, ks, tc', cb', cx, svs, cs, co, bw, tw, rst2, rfl, F, f1, f2, f3, fun p hp => N p (.tail _ hp), hco, hbw, hr2 _ hlx, hI, hl, b1, b3, b4, StepsAre.sub hr2 hst, hp.bars hb, ⟨ts, rfl⟩, by simp only [List.length_append]; exact z1, z2, z3, z4⟩
theorem law_join4 {M : Model} {A : Around} {E : Value → Shared → Prop} {Q : Flow → Shared → Prop} {s0 : Shared} {env : Env} {a b c d : Stmt} {rest : List Stmt} {g h0 : Heap} {L bx sl cc : Addr} {m : Str → Option Value} {tk : Nat} {ob os co : Obj} {rst : List (Addr × Obj)}
    (hF : Fr g L h0 m) (hN : News g L h0 ((bx, ob) :: (sl, os) :: (cc, co) :: rst))
    (h : let J9 : Shared → Prop := JX g L bx sl cc s0
      wpAny M A (exec a env) (fun f s1 => match f with
      | .next => wpAny M A (exec b env) (fun f s2 => match f with
        | .next => wpAny M A (exec c env) (fun f s3 => match f with
          | .next => wpAny M A (exec d env) (fun f s4 => match f with | .next => J9 s4 | f => Q f s4) E s3
          | f => Q f s3) E s2
        | f => Q f s2) E s1
      | f => Q f s1) E { s0 with heap := h0, toks := tk }) (k : ∀ s', JX g L bx sl cc s0 s' → wpAny M A (execs rest env) Q E s') : wpAny M A (execs (a :: b :: c :: d :: rest) env) Q E { s0 with heap := h0, toks := tk } := join4 _ h k

/-! ## MCut -/
noncomputable def cuts (S : List Int) : List (List Int) := (List.range S.length).map fun i => (S.drop i).take 1
theorem cuts_flat : ∀ (S : List Int), (cuts S).flatten = S
  | [] => rfl
  | x :: S => by
    have e : cuts (x :: S) = [x] :: cuts S := by
      unfold cuts
      rw [List.length_cons, List.range_succ_eq_map, List.map_cons, List.map_map]
      rfl
    rw [e, List.flatten_cons, cuts_flat S]; rfl
theorem cuts_len (S : List Int) : (cuts S).length = S.length := by unfold cuts; rw [List.length_map, List.length_range]
theorem cuts_at {S : List Int} {i : Nat} (h : i < S.length) : (cuts S)[i]? = some ((S.drop i).take 1) := by
  unfold cuts
  rw [List.getElem?_map, List.getElem?_range h]; rfl
theorem BytesAre.app : ∀ {vs : List Value} {ps : List (List Int)} {v : Value} {p : List Int}, BytesAre vs ps → (∃ b t, v = .bytes b t ∧ KBw.bInts b = p) → BytesAre (vs ++ [v]) (ps ++ [p])
  | [], [], _, _, _, k => ⟨k, trivial⟩
  | _ :: vs, _ :: ps, _, _, h, k => ⟨h.1, BytesAre.app h.2 k⟩
  | [], _ :: _, _, _, h, _ => h.elim
  | _ :: _, [], _, _, h, _ => h.elim
noncomputable def CutEl (S : List Int) (i : Nat) (news : List (Addr × Obj)) (y : Value) (news' : List (Addr × Obj)) : Prop := news' = news ∧ ∃ b t, y = .bytes b t ∧ KBw.bInts b = (S.drop i).take 1
section
variable {prog : Program} {w : World} {A : Around} {h₀ : Heap} {L : Addr} {m : Str → Option Value} {env : Env} {elt : PySem.Expr} {x : Str} {scope : Scope} {cl : List (Str × Addr)} {s : Shared} {Fin : List Value → List (Addr × Obj) → Prop} {news : List (Addr × Obj)}
theorem cut_rest {S : List Int}
    (turn : ∀ (i : Nat) ti I oI C oC D m₂ ys h tk (E' : Value → Shared → Prop), i < S.length → LCg.NsObj oC m₂ → m₂ x = some (.int (i : Int) ti) → Fr h₀ L h m → News h₀ L h ((I, oI) :: (C, oC) :: (D, LCg.lst ys) :: news) → LCg.Off3 I C D news → ((@Ne Nat I C) ∧ (@Ne Nat I D) ∧ (@Ne Nat C D)) →
      wpAny (model prog w) A (eval elt (compEnvC scope cl C env)) (LCg.CompEnd h₀ L m { s with heap := h, toks := tk } I oI C oC D (LCg.lst ys) (fun _ => True) (fun y news' => CutEl S i news y news')) E' { s with heap := h, toks := tk })
    (fin : ∀ ys, BytesAre ys (cuts S) → Fin ys news) : LCg.CompRest prog w A h₀ L m env elt x scope cl s (fun _ => True) (fun i v => ∃ t, v = .int (0 + (i : Int)) t) Fin S.length 0 [] news := by
  have key : ∀ (j i : Nat) (ys : List Value), i + j = S.length → BytesAre ys ((cuts S).take i) → LCg.CompRest prog w A h₀ L m env elt x scope cl s (fun _ => True) (fun i v => ∃ t, v = .int (0 + (i : Int)) t) Fin j i ys news := by
    intro j
    induction j with
    | zero =>
      intro i ys hi hy
      refine LCg.CompRest.zero (fin ys ?_)
      rw [List.take_of_length_le (by rw [cuts_len]; omega)] at hy
      exact hy
    | succ j ih =>
      intro i ys hi hy
      refine LCg.CompRest.succ ?_
      rintro v I oI C oC D m₂ h tk E' ⟨t, rfl⟩ hC hx F N off ne
      rw [Int.zero_add] at hx
      refine wpAny_mono (turn i t I oI C oC D m₂ ys h tk E' (by omega) hC hx F N off ne) (fun y s₂ hq => ?_) fun _ _ e => e
      obtain ⟨h', tk', nw, e, F', N', off', hS, hn, b, tb, hy', hb⟩ := hq
      rw [hn] at N' off'
      refine ⟨h', tk', news, e, F', N', off', trivial, ih (i + 1) _ (by omega) ?_⟩
      rw [List.take_add_one, cuts_at (by omega)]
      exact BytesAre.app hy ⟨b, tb, hy', hb⟩
  exact key _ 0 [] (by omega) (by rw [List.take_zero]; trivial)
end
theorem clip_le {n i : Nat} (h : i < n) : clipAt n ((i : Int) + 1) = i + 1 := by
  have e := clipAt_nat n (i + 1)
  rw [Int.natCast_add] at e
  exact e.trans (by omega)
theorem cut_one {S : List Int} {i : Nat} (h : i < S.length) : (S.drop (min i S.length)).take (clipAt S.length ((i : Int) + 1) - min i S.length) = (S.drop i).take 1 := by
  rw [clip_le h, Nat.min_eq_left (by omega), show i + 1 - i = 1 by omega]
theorem cut_three {S : List Int} {lo hi : Nat} (h1 : lo ≤ hi) (h2 : hi ≤ S.length) : [S.take lo, (S.drop lo).take (hi - lo), S.drop hi].flatten = S := by
  simp only [List.flatten_cons, List.flatten_nil, List.append_nil]
  have e : (S.drop lo).drop (hi - lo) = S.drop hi := by rw [List.drop_drop, show lo + (hi - lo) = hi by omega]
  rw [← e, List.take_append_drop, List.take_append_drop]
theorem three_flat {S : List Int} {a b : Int} (h0 : 0 ≤ a) (h1 : 0 ≤ b) (h2 : a + b ≤ S.length) :
    [S.take (clipAt S.length a), (S.drop (clipAt S.length a)).take (clipAt S.length (a + b) - clipAt S.length a), (S.drop (clipAt S.length (a + b))).take (S.length - clipAt S.length (a + b))].flatten = S := by
  obtain ⟨lo, rfl⟩ := Int.eq_ofNat_of_zero_le h0
  obtain ⟨k, rfl⟩ := Int.eq_ofNat_of_zero_le h1
  have h3 : lo + k ≤ S.length := by omega
  have e : clipAt S.length ((lo : Int) + (k : Int)) = lo + k := by
    have e := clipAt_nat S.length (lo + k)
    rw [Int.natCast_add] at e
    exact e.trans (Nat.min_eq_left h3)
  have e2 : clipAt S.length (lo : Int) = lo := (clipAt_nat S.length lo).trans (Nat.min_eq_left (by omega))
  rw [e, e2, List.take_of_length_le (l := S.drop (lo + k)) (by rw [List.length_drop]; omega)]
  exact cut_three (Nat.le_add_right _ _) h3

/-! ## MLaw -/
theorem rng_len (S : List Int) : Builtin.Range.rangeSize 0 (S.length : Int) 1 = ((S.length : Nat) : Int) := by rw [rangeSize_nat]; omega
theorem kw_line106 : True := by
  (k_with "my CompSrc" => ((k_here; k_dflt (refine LCg.CompSrc.range (by rfl) (by k_asm) (by k_asm) (by assumption) (by exact small_one (by omega) (by omega) (by omega) (by omega)) (by exact rng_len _) (by rw [sizeLine_eq]; omega) ?_); intro _; refine' cut_rest ?_ ?_; rotate_left; (intro _ _); rotate_left; (intro _ _ _ _ _ _ _ _ _ _ _ _ _ _ _ _ _ _ _))))
  trivial
theorem kw_line107 : True := by
  (k_with "my CompEnd" => (((with_reducible show LCg.CompEnd _ _ _ _ _ _ _ _ _ _ _ (fun _ _ => CutEl _ _ _ _ _) _ _); exact LCg.CompEnd.intro (by k_asm) (by k_asm) _ (fun _ h9 => h9) (by assumption) trivial ⟨rfl, _, _, rfl, (by assumption : KBw.bInts (KBy.picked _ _ _) = _).trans (cut_one (by assumption))⟩)))
  trivial
theorem map_jx {g h : Heap} {L sl bx : Addr} {stopV : Value} {m : Str → Option Value} (F : Fr g L h m) (f1 : m (Str.ofString "steps") = some (.ref sl)) (f2 : m (Str.ofString "stop") = some stopV) (f3 : m (Str.ofString "box") = some (.ref bx)) :
    Fr g L h (fun y => if y = Str.ofString "steps" then some (.ref sl) else if y = Str.ofString "stop" then some stopV else if y = Str.ofString "box" then some (.ref bx) else m y) := by
  have e : (fun y => if y = Str.ofString "steps" then some (.ref sl) else if y = Str.ofString "stop" then some stopV else if y = Str.ofString "box" then some (.ref bx) else m y) = m := by
    funext y
    by_cases h1 : y = Str.ofString "steps"
    · rw [if_pos h1, h1, f1]
    by_cases h2 : y = Str.ofString "stop"
    · rw [if_neg h1, if_pos h2, h2, f2]
    by_cases h3 : y = Str.ofString "box"
    · rw [if_neg h1, if_neg h2, if_pos h3, h3, f3]
    rw [if_neg h1, if_neg h2, if_neg h3]
  rw [e]; exact F
-- the quick twin would lay the whole program down in this file
local macro_rules | `(tactic| k_qdec) => `(tactic| decide +kernel)
set_option maxHeartbeats 8000000 in
theorem lawT : PySem.Challenge.rw_tk0103_01.Holds := hd (by rfl) (by rfl) (by rfl) (by
  k_go0
  all_goals (try k_fold)
  rename Below _ _ _ _ => K9
  rename Top _ _ _ _ _ _ => T9
  rename Frag.In _ _ => X9
  walk_at "GOD"
  rename News _ _ _ _ => N2
  rename Fr _ _ _ _ => F2
  rename IntsAre _ (List.take 24 _) => hIs
  have hIl := hIs.length
  rename List.length (List.take 24 _) = _ => hmin
  obtain ⟨N3, hrb⟩ := law_perm N2 (by omega) (by omega)
  clear N2
  walk1
  walk_at "GOD"
  refine menu3 RoomP (by k_asm) (.head _) (by assumption) (by assumption) ⟨_, _, rfl, .inl rfl, by decide, by decide⟩ ⟨_, _, rfl, .inr (.inl rfl), by decide, by decide⟩ ⟨_, _, rfl, .inr (.inr rfl), by decide, by decide⟩ ?_
  rintro _ ⟨nr, tnr, rfl, hroom, hr1, hr2⟩
  walk_at "GOD"
  rename News _ _ _ _ => N4
  rename Fr _ _ _ _ => F4
  rename _ = Data.cell (some (.bytes _ _)) => hco
  rename ((UInt8.toNat _ : Nat) : Int) = nr - 31 => hb9
  obtain ⟨M, F5⟩ := law_map F4 rfl rfl
  have hbw : KBw.bInts #[(Int.toNat 63).toUInt8, (nr - 31).toNat.toUInt8] = [63, nr - 31] := by
    show [((Int.toNat 63).toUInt8.toNat : Int), ((nr - 31).toNat.toUInt8.toNat : Int)] = [63, nr - 31]
    rw [hb9]; rfl
  have hLS := law_start N4 hco hbw hIs (by omega) (by repeat' (first | exact List.forall_mem_nil _ | refine List.forall_mem_cons.mpr ⟨?_, ?_⟩ | refine And.intro ?_ ?_ | omega)) (by repeat' (first | exact List.forall_mem_nil _ | refine List.forall_mem_cons.mpr ⟨?_, ?_⟩ | omega))
  obtain ⟨bx, sl, x, wa, M, F6, ⟨lx, vs, ks, tc, cb, cx, svs, cs, co, bw, tw, rst, N6, hco6, hbw6, hlx, hIv, hvl, a1, a2, a3, a4, x1, x2, x3, hwd, hst⟩, o1, o2⟩ := law_pack F5 hLS (by omega) (by omega)
  clear N4 F4 F5 hLS hco hIs N3 F2
  refine wpAny_For ?_ (by intro _; rfl)
  have hrb6 : ∀ p ∈ x :: (sl, listOf svs.toArray cs) :: (_, co) :: rst, p.1 ≠ bx := List.forall_mem_cons.mpr ⟨x1, List.forall_mem_cons.mpr ⟨Nat.ne_of_gt o2, List.forall_mem_cons.mpr ⟨Nat.ne_of_lt o1, a1⟩⟩⟩
  dsimp only [bindO, lawM] at F6
  walk_at "GOD"
  walk1
  walk_at "GOD"
  rename IsRange _ _ _ _ _ _ _ _ => hr
  rename Fr _ _ _ _ => F7
  rename News _ _ _ _ => N7
  rename (_ : Int) < 4 => hv4
  obtain ⟨n, r1, r2, r3⟩ := rng_facts (by assumption) hv4
  refine wpAny_pyIter_range hr r1 ?_
  rw [r2]
  obtain ⟨I, hI, F8, N8, hlt8⟩ := rng_new (a := 0) (l := _) F7 N7
  try dsimp only
  rw [hI]
  refine law_for (M := M) (sl := sl) (bx := bx) (wa := wa) rfl F8 N8 hlt8 hco6 hbw6 hlx hIv hvl a1 a3 a4 hwd hst hroom (by decide) (by decide) ?_ ?_
  · clear hr hrb6 F6 F7 N7 N6 F8 N8 hlt8 hco6 hbw6 hlx hIv a1 a2 a3 a4 x1 x2 x3 hwd hst
    rintro i tt s' h'' tk'' hlt ⟨h', tk, t, S, stps, wa, c, o1', o2', rfl, F6, ⟨lx, vs, ks, tc, cb, cx, svs, cs, co, bw, tw, rst, N6, hco, hbw, hlx, hIv, hvl, a1, a2, a3, a4, x1, x2, x3, hwd, hst⟩, hpf, hwk, hti, hSl, hsl, hc0, hc1, hin⟩ hit' hk P9 E9
    obtain ⟨F7, N7⟩ := rng_step (I := I) F6 N6 rfl (Ne.symm x1) (Ne.symm x2) (Ne.symm x3) a2 hit' hk
    obtain ⟨aw, lrw, wvs, k1, k2, c1, c2, rfl, hw1, hw2, hwR⟩ := hwd
    have hrb : ∀ p ∈ (I, rngO (0 + ((i + 1 : Nat) : Int) * 1) ((n : Int) - ((i + 1 : Nat) : Int))) :: (sl, listOf svs.toArray cs) :: (_, co) :: rst, p.1 ≠ bx := List.forall_mem_cons.mpr ⟨x1, List.forall_mem_cons.mpr ⟨Nat.ne_of_gt o2, List.forall_mem_cons.mpr ⟨Nat.ne_of_lt o1, a1⟩⟩⟩
    clear F6 N6 hit' hk
    dsimp only [bindO, lawM] at F7
    walk_at "GOD"
    rename Fr _ _ _ _ => F8
    rename News _ _ _ _ => N8
    refine Spec.use (word_ok (sub := rst) (rest := (I, rngO (0 + ((i + 1 : Nat) : Int) * 1) ((n : Int) - ((i + 1 : Nat) : Int))) :: (sl, listOf svs.toArray cs) :: (_, co) :: rst) (fun p hp => .tail _ (.tail _ (.tail _ hp))) (.tail _ (.tail _ (.tail _ hlx))) hIv hvl hc0 (by omega) hrb hw1 hw2 hwR hwk (by omega)) K9 F8 X9 N8 (fun _ h9 => h9) T9 rfl ?d ?u ?_ ?_
    case d => ktr_room
    case u => ktr_units
    · rintro r9 n9 h9 tk9 F9 N9 ⟨tr, b, tb, wv', ks', t', c', tc', cb', ct, add, rfl, rfl, hbk, hkl, hWd, hwk', hti', hwd', had, hcc1, hcc2⟩
      obtain ⟨rst2, N10, hr2, b1, b2, b3, b4, hwd2, hn1, hn2⟩ := word_after N9 hco a1 a2 a3 a4 hwd' had
      have x1' : @Ne Nat I bx := x1
      have x2' : @Ne Nat I sl := x2
      have x3' : @Ne Nat I _ := x3
      clear N9 N8 F8 hrb had
      have hsv : svs.length ≤ 90 := by
        have h9 := hst.len
        simp only [List.length_cons] at h9
        omega
      walk_at "GOD"
      rename Fr _ _ _ _ => F11
      rename News _ _ _ _ => N11
      rename _ = Data.cell (some (.bytes _ _)) => hco11
      rename KBw.bInts (bw ++ b) = _ => hbw11
      rw [List.push_toArray] at N11
      have hLS := law_turn N11 hco11 hbw11 hlx hr2 hIv hvl b1 b2 b3 b4 x1 x2 x3 hwd2 hst (by show @Ne Nat _ _; omega) (by show @Ne Nat _ _; omega) (by show @Ne Nat _ _; omega) (by show @Ne Nat _ _; omega)
      obtain ⟨p1, p2, F12⟩ := law_fr (sl := sl) (bx := bx) (M := M) F11 rfl (by walk_at "LFR")
      have hp2 := hpf.word hWd
      rw [List.length_append] at hp2
      try dsimp only
      exact ⟨_, _, t', S ++ ks', stps ++ [(((S.length + ks'.length : Nat) : Int), t')], wv', c', p1, p2, rfl, F12, hLS, hp2, hwk', by omega, by rw [List.length_append]; omega, by rw [List.length_append, hsl]; simp only [List.length_cons, List.length_nil]; omega, by omega, by omega, by omega⟩
    · exact fun _ _ _ _ _ _ _ _ _ _ _ _ q9 => False.elim q9
  · rintro s' h'' tk'' ⟨h', tk, t, S, stps, wa, c, o1', o2', rfl, F6, ⟨lx, vs, ks, tc, cb, cx, svs, cs, co, bw, tw, rst, N6, hco, hbw, hlx, hIv, hvl, a1, a2, a3, a4, x1, x2, x3, hwd, hst⟩, hpf, hwk, hti, hSl, hsl, hc0, hc1, hin⟩ hk
    obtain ⟨F7, N7⟩ := rng_done (I := I) F6 N6 rfl (Ne.symm x1) (Ne.symm x2) (Ne.symm x3) a2 hk
    have hrb : ∀ p ∈ (sl, listOf svs.toArray cs) :: (_, co) :: rst, p.1 ≠ bx := List.forall_mem_cons.mpr ⟨Nat.ne_of_gt o2, List.forall_mem_cons.mpr ⟨Nat.ne_of_lt o1, a1⟩⟩
    have hsv : svs.length ≤ 90 := by
      have h9 := hst.len
      simp only [List.length_cons] at h9
      omega
    clear F6 N6 hk
    dsimp only [bindO, lawM] at F7 ⊢
    walk_at "GOE"
    walk1
    walk_at "GOE"
    rename Fr _ _ _ _ => F8
    rename News _ _ _ _ => N8
    refine law_join4 F8 N8 ?_ ?_
    · intro J9
      obtain ⟨aw, lrw, wvs, k1, k2, c1, c2, rfl, hw1, hw2, hwR⟩ := hwd
      walk_at "GOE"
      · rename Fr _ _ _ _ => F9
        rename News _ _ _ _ => N9
        refine Spec.use (wrong_ok (by assumption) (by assumption) (.tail _ (.tail _ (.tail _ hw1))) (.tail _ (.tail _ (.tail _ hw2))) (RowsAre.sub (fun p hp => .tail _ (.tail _ (.tail _ hp))) hwR) hwk) K9 F9 X9 N9 (fun _ h9 => h9) T9 rfl ?d ?u ?_ ?_
        case d => ktr_room
        case u => ktr_units
        · rintro r9 n9 h9 tk9 F10 N10 ⟨tr, b, tb, Mv, tm, ct, ks', mm, rfl, rfl, hbk, rfl, hBars, hkl⟩
          have hn1 : @Ne Nat tr _ := obj_apart N10 (.head _) (.tail _ (.tail _ (.tail _ (.head _)))) (by intro z; rw [← z] at hco; cases hco)
          (try clear F9); (try clear N9); (try clear F8); (try clear N8); (try clear F7); (try clear N7)
          walk_at "GOE"
          rename Fr _ _ _ _ => F11
          rename News _ _ _ _ => N11
          rename _ = Data.cell (some (.bytes _ _)) => hco11
          rename KBw.bInts (bw ++ b) = _ => hbw11
          refine Spec.use (word_ok (sub := rst) (rest := (sl, listOf svs.toArray cs) :: (_, _) :: rst) (fun p hp => .tail _ (.tail _ hp)) (.tail _ (.tail _ hlx)) hIv hvl (by omega) (by omega) (List.forall_mem_cons.mpr ⟨Nat.ne_of_gt o2, List.forall_mem_cons.mpr ⟨Nat.ne_of_lt o1, a1⟩⟩) hw1 hw2 hwR hwk (by omega)) K9 F11 X9 N11 (fun _ h9 => .tail _ h9) T9 rfl ?d ?u ?_ ?_
          case d => ktr_room
          case u => ktr_units
          · rintro r8 n8 h8 tk8 F12 N12 ⟨tr2, b2, tb2, wv', ks2, t2', c', tc2', cb2', ct2, add, rfl, rfl, hbk2, hkl2, hWd, hwk', hti', hwd', had, hcc1, hcc2⟩
            obtain ⟨rst2, N13, hr2, b1, b3, b4, hwd2, hn3, hn4⟩ := word_after0 N12 hco11 a1 a3 a4 hwd' had
            (try clear F11); (try clear N11); (try clear N12); (try clear had); (try clear hco); (try clear N10); (try clear F10); (try clear hrb)
            walk_at "GOE"
            rename Fr _ _ _ _ => F14
            rename News _ _ _ _ => N14
            rename _ = Data.cell (some (.bytes _ _)) => hco14
            rename KBw.bInts (bw ++ b ++ b2) = _ => hbw14
            try dsimp only
            exact jx_some F14 rfl rfl rfl N14 hco14 hbw14 hlx hr2 hIv hvl b1 b3 b4 hst hpf hBars (by omega) (by omega) (by omega) (by omega)
          · exact fun _ _ _ _ _ _ _ _ _ _ _ _ q9 => False.elim q9
        · exact fun _ _ _ _ _ _ _ _ _ _ _ _ q9 => False.elim q9
      · rename Fr _ _ _ _ => F9
        rename News _ _ _ _ => N9
        refine Spec.use (word_ok (sub := rst) (rest := (sl, listOf svs.toArray cs) :: (_, co) :: rst) (fun p hp => .tail _ (.tail _ hp)) (.tail _ (.tail _ hlx)) hIv hvl (by omega) (by omega) hrb hw1 hw2 hwR hwk (by omega)) K9 F9 X9 N9 (fun _ h9 => h9) T9 rfl ?d ?u ?_ ?_
        case d => ktr_room
        case u => ktr_units
        · rintro r9 n9 h9 tk9 F10 N10 ⟨tr, b, tb, wv', ks', t', c', tc', cb', ct, add, rfl, rfl, hbk, hkl, hWd, hwk', hti', hwd', had, hcc1, hcc2⟩
          obtain ⟨rst2, N11, hr2, b1, b3, b4, hwd2, hn1, hn2⟩ := word_after0 N10 hco a1 a3 a4 hwd' had
          (try clear F9); (try clear N9); (try clear F8); (try clear N8); (try clear F7); (try clear N7); clear N10 hrb had
          walk_at "GOE"
          rename Fr _ _ _ _ => F12
          rename News _ _ _ _ => N12
          rename _ = Data.cell (some (.bytes _ _)) => hco12
          rename KBw.bInts (bw ++ b) = _ => hbw12
          rw [List.push_toArray] at N12
          try dsimp only
          exact jx_none F12 rfl rfl rfl N12 hco12 hbw12 hlx hr2 hIv hvl b1 b3 b4 hwd2 hst (by show @Ne Nat _ _; omega) (by show @Ne Nat _ _; omega) (by show @Ne Nat _ _; omega) hpf hWd (by omega) (by omega) (by omega) (by omega)
        · exact fun _ _ _ _ _ _ _ _ _ _ _ _ q9 => False.elim q9
    · (try clear hr); (try clear hrb6); (try clear F6); (try clear F7); (try clear N7); (try clear N6); (try clear F8); (try clear N8); (try clear hlt8); (try clear hco6); (try clear hbw6); (try clear hlx); (try clear hIv); (try clear a1); (try clear a2); (try clear a3); (try clear a4); (try clear x1); (try clear x2); (try clear x3); (try clear hwd); (try clear hst); (try clear hrb); (try clear hsv); (try clear hco); (try clear hbw); (try clear hvl); (try clear hpf); (try clear hwk); (try clear hti); (try clear hSl); (try clear hsl); (try clear hc0); (try clear hc1); (try clear hin); (try clear F8); (try clear N8); (try clear F7); (try clear N7)
      rintro s' ⟨h', tk, m, S, stps, stop, stopV, c, lx, vs, ks, tc, cb, cx, svs, cs, co, bw, tw, rst, rfl, F, f1, f2, f3, N, hco, hbw, hlx, hIv, hvl, a1, a3, a4, hst, hstrm, hstop, hSl, hsl, hc0, hc1⟩
      replace F := map_jx F f1 f2 f3
      have hrb : ∀ p ∈ (sl, listOf svs.toArray cs) :: (_, co) :: rst, p.1 ≠ bx := List.forall_mem_cons.mpr ⟨Nat.ne_of_gt o2, List.forall_mem_cons.mpr ⟨Nat.ne_of_lt o1, a1⟩⟩
      have hbl : bw.size = S.length := by rw [← hbw, KBw.ints_length]
      clear f1 f2 f3
      walk_at "GOD"
      walk1
      walk_at "GOD"
      walk1
      walk_at "GOD"
      rename Fr _ _ _ _ => F2
      rename News _ _ _ _ => N2
      have hXT := And.intro X9 T9
      refine heard_ok (pvs := [.bytes bw tw]) (pss := [S]) (S := S) (steps := stps) (stop := stop) (.head _) (.tail _ (.tail _ (.head _))) ⟨⟨_, _, rfl, hbw⟩, trivial⟩ (StepsAre.sub (fun p hp => .tail _ (.tail _ (.tail _ (.tail _ hp)))) hst) hstop hstrm (by simp) (by omega) (by show (1 : Nat) ≤ 1900; omega) (by omega) _ _ _ _ _ _ _ _ _ _ _ _ _ _ _ _ _ K9 F2 X9 N2 T9 X9 T9 rfl ?d ?u ?_ ?_
      case d => ktr_room
      case u => ktr_units
      · rintro r9 n9 g1 h9 tk9 K1 F3 N3 kp1 ⟨rfl, up1⟩
        have X1 := hXT.1.keeps K1.stays
        have T1 := hXT.2.keeps K1.stays
        have N4 := cb_drop N3 (fun p hp => up1 p (.tail _ hp))
        clear K9 X9 F2 N2 N3 up1
        walk_at "GOD"
        walk1
        walk_at "GOD"
        rename Fr _ _ _ _ => F5
        rename News _ _ _ _ => N5
        rename BytesAre _ _ => hys
        have hyl := hys.len
        rw [cuts_len] at hyl
        refine heard_ok (pss := cuts S) (S := S) (steps := stps) (stop := stop) (.head _) (.tail _ (.tail _ (.head _))) hys (StepsAre.sub (fun p hp => .tail _ (.tail _ (.tail _ (.tail _ hp)))) hst) hstop hstrm (cuts_flat S) (by omega) (by omega) (by omega) _ _ _ _ _ _ _ _ _ _ _ _ _ _ _ _ _ K1 F5 X1 N5 T1 hXT.1 hXT.2 rfl ?d2 ?u2 ?_ ?_
        case d2 => ktr_room
        case u2 => ktr_units
        · rintro r8 n8 g2 h8 tk8 K2 F6 N6 kp2 ⟨rfl, up2⟩
          have X2 := hXT.1.keeps K2.stays
          have T2 := hXT.2.keeps K2.stays
          have N7 := cb_drop N6 (fun p hp => up2 p (.tail _ hp))
          clear X1 F5 N5 N6 up2
          walk_at "GOD"
          rename Fr _ _ _ _ => F8
          rename News _ _ _ _ => N8
          refine heard_ok (pvs := [.bytes _ _, .bytes _ _, .bytes _ _]) (pss := [_, _, _]) (S := S) (steps := stps) (stop := stop) (.head _) (.tail _ (.tail _ (.head _))) ⟨⟨_, _, rfl, by assumption⟩, ⟨_, _, rfl, by assumption⟩, ⟨_, _, rfl, by assumption⟩, trivial⟩ (StepsAre.sub (fun p hp => .tail _ (.tail _ (.tail _ (.tail _ hp)))) hst) hstop hstrm (three_flat (by assumption) (by assumption) (by omega)) (by omega) (by show (3 : Nat) ≤ 1900; omega) (by omega) _ _ _ _ _ _ _ _ _ _ _ _ _ _ _ _ _ K2 F8 X2 N8 T2 hXT.1 hXT.2 rfl ?d3 ?u3 ?_ ?_
          case d3 => ktr_room
          case u3 => ktr_units
          · rintro r7 n7 g3 h7 tk7 K3 F9 N9 kp3 ⟨rfl, up3⟩
            walk_at "GOD"
            have F10 := Fr.mk (h₀ := Top.heap T9) F9.ns (fun b o e => F9.keep b o (K3.stays b o e)) (Nat.le_refl _)
            clear F9
            first
            | (refine goodW_bool F10 (by assumption) (raisesW_false ?_) ?_; (· wrow_none_raised); (· kc_post))
            | (refine goodW_bool F10 (by assumption) (raisesW_false ?_) ?_; (· wrow_none_raised); (· wrow_post))
          · exact fun _ _ _ _ _ _ _ _ _ _ _ _ _ _ q9 => False.elim q9
        · exact fun _ _ _ _ _ _ _ _ _ _ _ _ _ _ q9 => False.elim q9
      · exact fun _ _ _ _ _ _ _ _ _ _ _ _ _ _ q9 => False.elim q9)

end Mine
theorem PySem.Challenge.cw_tk0103_01_holds : PySem.Challenge.rw_tk0103_01.Holds :=
  Mine.lawT
