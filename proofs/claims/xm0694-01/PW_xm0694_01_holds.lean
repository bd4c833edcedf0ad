import PyProof.Rows.All
import Wide.All
import OpenK.AllK
import Wide.FinOn
import PySem.Challenge.RW_xm0694_01
set_option Elab.async false
set_option compiler.extract_closed false
set_option linter.all false
set_option maxRecDepth 100000
set_option maxHeartbeats 8000000
namespace Mine
section
open PySem PySem.W PyProof.Rows
theorem left_whole {p q : Program} {loose : List Str} {Xt : Shared → Bool} {α : Type} {Yf : Shared → α} {Ya : World → α} {N : Nat} {g0 : Bool} {m₀ : Nat} {ann : Option Value}
    (open_ : ∀ w : World, (fencedOpening treeTable p w N).map (fun s => (s.heap, s.gens, s.drawn, s.toks)) = some (boot_heap w.params, Array.mk [], boot_drawn, boot_toks))
    (size : ∀ w : World, ((boot_heap w.params).isNs mainGlobals, (boot_heap w.params).objs.size, (boot_heap w.params).nsMap mainGlobals "__annotations__") = (true, m₀, ann))
    (h : ∀ (w : World) (os : OsState), (topRun treeTable p w m₀ ann N ⟨boot_heap w.params, Array.mk [], boot_drawn, boot_toks, os⟩ (topStub p)).map (fun s =>
        ((staticsOk (importedModules p.main.body) (boot_heap w.params) s.heap && namesBound p s.heap && gensDone s && laidKept (boot_heap w.params) s.heap),
          openSeen q loose (importedModules p.main.body) Xt g0 s, Yf s)) = some (true, openGood q loose, Ya w)) : LeftO p q loose Xt Yf Ya N g0 := fun w => by
  obtain ⟨⟨h₀, gs, d, k, os⟩, e, e'⟩ := Option.map_eq_some_iff.mp (open_ w)
  obtain ⟨rfl, rfl, rfl, rfl⟩ : h₀ = boot_heap w.params ∧ gs = Array.mk [] ∧ d = boot_drawn ∧ k = boot_toks := by simpa using e'
  obtain ⟨z1, z2, z3⟩ : _ ∧ _ ∧ _ := by simpa only [Prod.mk.injEq] using size w
  obtain ⟨s, r, l⟩ := Option.map_eq_some_iff.mp (h w os)
  obtain ⟨l1, l2, l3⟩ : _ ∧ _ ∧ _ := by simpa only [Prod.mk.injEq] using l
  have t : topFrom treeTable p w N ⟨boot_heap w.params, Array.mk [], boot_drawn, boot_toks, os⟩ = some s := by
    unfold topFrom
    dsimp only
    rw [z1, z2, z3, r]
    show (match staticsOk (importedModules p.main.body) (boot_heap w.params) s.heap && namesBound p s.heap && gensDone s && laidKept (boot_heap w.params) s.heap with | true => some s | false => none) = _
    rw [l1]
  unfold openEnds
  rw [e]
  show (topFrom treeTable p w N _).map _ = _
  rw [t]
  exact congrArg some (Prod.ext l2 l3)
section
variable {tb : String → Option Builtin} {p : Program} {w : World} {n₀ : Nat} {ann : Option Value}
/-- the top's run over a tree of objects -/
noncomputable def runT (st : SharedT → Thread → Option (SharedT × Thread)) (n₀ : Nat) (ann : Option Value) : Nat → SharedT → Thread → Option SharedT
  | 0, _, _ => none
  | n + 1, s, t => match through t with
    | true => some s
    | false => match stepOk n₀ ann t with
      | false => none
      | true => match st s t with
        | some (s', t') => runT st n₀ ann n s' t'
        | none => none
theorem runT_spec : ∀ {n : Nat} {s r : SharedT} {t : Thread}, runT (stepT (denote tb) p w) n₀ ann n s t = some r → topRun tb p w n₀ ann n s.abs t = some r.abs
  | 0, _, _, _, h => by cases h
  | n + 1, s, r, t, h => by
    unfold runT at h
    unfold topRun
    cases hh : through t with
    | true => rw [hh] at h; cases h; rfl
    | false =>
      rw [hh] at h
      cases hk : stepOk n₀ ann t with
      | false => rw [hk] at h; cases h
      | true =>
        rw [hk] at h
        cases hs : stepT (denote tb) p w s t with
        | none => rw [hs] at h; cases h
        | some x => obtain ⟨s₂, t₂⟩ := x; rw [hs] at h; rw [stepT_spec hs]; exact runT_spec h
end
noncomputable def bootTree (P : Params) : BT := (boot_heap P).objs.toList.zipIdx.foldl (fun t x => t.ins x.2 x.1) .nil
noncomputable def bootT (P : Params) (os : OsState) : SharedT := ⟨bootTree P, 11, (boot_heap P).life, Array.mk [], boot_drawn, boot_toks, os⟩
theorem bootT_abs (P : Params) (os : OsState) : (bootT P os).abs = ⟨boot_heap P, Array.mk [], boot_drawn, boot_toks, os⟩ := by kernel_rfl
noncomputable def looks (p q : Program) (loose : List Str) (Xt : Shared → Bool) (g0 : Bool) (P : Params) (s : Shared) :=
  ((staticsOk (importedModules p.main.body) (boot_heap P) s.heap && namesBound p s.heap && gensDone s && laidKept (boot_heap P) s.heap), openSeen q loose (importedModules p.main.body) Xt g0 s)
/-- an object read from the tree -/
noncomputable def getT (r : SharedT) (a : Nat) : Option Obj := match Nat.blt a r.n with
  | true => match r.tree.get a with
    | some o => alive o
    | none => alive default
  | false => none
theorem getT_abs (r : SharedT) (a : Nat) : r.abs.heap.get? a = getT r a := by
  obtain ⟨T, n, life, gs, d, k, os⟩ := r
  show (absHeap T n life).get? a = getT _ a
  unfold getT
  cases e : Nat.blt a n with
  | false => exact abs_get_none fun q => Bool.noConfusion (e.symm.trans (Nat.ble_eq_true_of_le q))
  | true =>
    have lt : a < n := Nat.le_of_ble_eq_true e
    dsimp only
    cases g : T.get a with
    | some o => exact abs_get lt g
    | none => simp only [Heap.get?, absHeap_at, lt, g, if_true, Option.getD_none]; rfl
theorem left_tree {p q : Program} {loose : List Str} {Xt : Shared → Bool} {N : Nat} {g0 : Bool} {m₀ : Nat} {ann : Option Value} {K : Params → Frag} {as ts : List Addr} {e : ∀ P, as = (K P).map (·.1)}
    (open_ : ∀ w : World, (fencedOpening treeTable p w N).map (fun s => (s.heap, s.gens, s.drawn, s.toks)) = some (boot_heap w.params, Array.mk [], boot_drawn, boot_toks))
    (size : ∀ w : World, ((boot_heap w.params).isNs mainGlobals, (boot_heap w.params).objs.size, (boot_heap w.params).nsMap mainGlobals "__annotations__") = (true, m₀, ann))
    (h : ∀ (w : World) (os : OsState), (runT (stepT (denote treeTable) p w) m₀ ann N (bootT w.params os) (topStub p)).map (fun r =>
        (looks p q loose Xt g0 w.params r.abs, as.map (getT r), ts.map (getT r))) = some ((true, openGood q loose), (K w.params).map (fun p => some p.2), ts.map fun _ => some (tabObj #[]))) :
    LeftO p q loose Xt (kmHook K as e ts).obs (kmHook K as e ts).val N g0 :=
  left_whole open_ size fun w os => by
    obtain ⟨r, hr, hl⟩ := Option.map_eq_some_iff.mp (h w os)
    have := runT_spec hr
    rw [bootT_abs] at this
    rw [this]
    unfold looks at hl
    obtain ⟨l12, l3⟩ := Prod.mk.inj hl
    obtain ⟨l1, l2⟩ := Prod.mk.inj l12
    rw [← funext (getT_abs r)] at l3
    dsimp only [Option.map_some]
    rw [l1, l2]
    exact congrArg (fun x => some (true, openGood q loose, x)) l3
set_option maxHeartbeats 0
theorem said : PySem.Challenge.rw_xm0694_01.wellSaid = true := by
  unfold OpenLaw.wellSaid OpenRow.wellSaid OpenRow.partSaid looksOpen
  repeat' (with_reducible refine look_both ?_ ?_)
  all_goals ((try rw [Fast.te8326940854005059898]); (try rw [Fast.te17119622794617984870]); (try rw [Fast.te8377067652309620493]); (try rw [Fast.te12862048085361865435]); (try rw [Fast.te11788848310118352699]); (try rw [Fast.te9558739934217749035]); (try rw [Fast.te8179353310426384613]); (try rw [Fast.te16286561074155671207]); decide +kernel)
/-- the view: the law's def alone -/
noncomputable def vw : Program := { PySem.Challenge.pw_xm0694_01 with main := { PySem.Challenge.pw_xm0694_01.main with body := PySem.Challenge.pw_xm0694_01.main.body.drop 74 } }
noncomputable def lo : List Str := (PySem.Challenge.pw_xm0694_01.main.scope.names.map (·.1)).filter fun n => n != "law" && n != "__name__"
theorem rows_h : True := by
  (k_with "hl" => case hl => exact left_tree (m₀ := 11) (ann := some (.ref 6)) (boot_open (by kernel_rfl) (by decide +kernel) (fun s => by kernel_rfl)) (fun w => by kernel_rfl) (fun w os => by
      rw [PySem.W.Fast.te10156331382660048174, PySem.W.Fast.te11892475500146522536, PySem.W.Fast.te14364793385576792824]
      unfold looks
      rw [PySem.W.Fast.te4187177175401517315]
      kernel_rfl))
  (k_with "ol" => refine holds_law said fun said => ?_)
  (k_with "oh" => refine holds_open (q := vw) (loose := lo) (Xt := fun s => xlAt vw [] s && recOk (RowW.records PySem.Challenge.rw_xm0694_01.row.toRowW) s) (XP := XL vw []) (Yf := Hook.obs ?hH) (Ya := Hook.val ?hH) (YP := Hook.says ?hH) (N := 8000) ?hl (Hook.of ?hH) (Hook.keeps ?hH) (fun s e => xl_of s (Bool.and_eq_true_iff.mp e).1) XL.keeps (by rfl) (by rfl) (by rfl) (fun s e => recFacts_of (Bool.and_eq_true_iff.mp e).2) (by rfl) (by assumption) (by decide +kernel) ⟨rfl, rfl, rfl, rfl, rfl, by decide +kernel⟩ ?hw ?hc)
  trivial
local macro_rules | `(tactic| o_law) => `(tactic| k_extra "ol")
local macro_rules | `(tactic| o_head $H) => `(tactic| (k_extra "oh"; (case hH => exact $H); k_extra "hl"))
set_option maxHeartbeats 8000000
open_top hd for PySem.Challenge.rw_xm0694_01
def Cl (w : World) (d u : Nat) (f : Addr) (vs : List Value) (news : List (Addr × Obj)) (R : Value → List (Addr × Obj) → Prop) : Prop :=
  ∀ (loose : List Str) (mean : ExcName → Option Value) (mg mb : Str → Option Value) (dp un : Nat) (gd : Option (List Code)) (cn : Str) (cs : Scope) (a : Addr) (ccd : Value) (cl : List (Str × Addr)) (outer : List Env) (A₀ : Around) (base h₀ : Heap) (L : Addr) (m : Str → Option Value) (s : Shared) (Q E : Value → Shared → Prop),
    Below A₀ base outer h₀ → Fr h₀ L s.heap m → (Mine.hd.heap_1 w.params).In h₀ → News h₀ L s.heap news → Top topProg loose mean mg mb h₀ → cs.kind = .function → dp + d < recursionLimit → un + u < cLine →
    (∀ v nw h' tk', R v nw → Fr h₀ L h' m → News h₀ L h' nw → Q v { s with heap := h', toks := tk' }) →
    wpAny (model PySem.Challenge.rw_xm0694_01.row.prog w) (ktrTop dp un gd cn cs L a ccd cl outer) (call (.ref f) vs) Q E s
theorem cl_use {w : World} {d u : Nat} {f : Addr} {vs : List Value} {news : List (Addr × Obj)} {R : Value → List (Addr × Obj) → Prop} (C : Cl w d u f vs news R)
    {loose : List Str} {mean : ExcName → Option Value} {mg mb : Str → Option Value} {dp un : Nat} {gd : Option (List Code)} {cn : Str} {cs : Scope} {a : Addr} {ccd : Value} {cl : List (Str × Addr)} {outer : List Env} {A₀ : Around} {base h₀ : Heap} {L : Addr} {m : Str → Option Value} {s : Shared} {Q E : Value → Shared → Prop}
    (B : Below A₀ base outer h₀) (F : Fr h₀ L s.heap m) (X : (Mine.hd.heap_1 w.params).In h₀) (N : News h₀ L s.heap news) (T : Top topProg loose mean mg mb h₀) (hk : cs.kind = .function) (hd : dp + d < recursionLimit) (hu : un + u < cLine)
    (ret : ∀ v nw h' tk', R v nw → Fr h₀ L h' m → News h₀ L h' nw → Q v { s with heap := h', toks := tk' }) :
    wpAny (model PySem.Challenge.rw_xm0694_01.row.prog w) (ktrTop dp un gd cn cs L a ccd cl outer) (call (.ref f) vs) Q E s :=
  C _ _ _ _ _ _ _ _ _ _ _ _ _ _ _ _ _ _ _ _ _ B F X N T hk hd hu ret
noncomputable abbrev tup (vs : List Value) (c : Nat) : Obj := { cls := .type "tuple", data := .seq vs.toArray c }
theorem log2_62 {b : Int} (h0 : 0 < b) (h : b < 4611686018427387904) : b.natAbs.log2 < 9000 := by
  have : b.natAbs.log2 < 62 := (Nat.log2_lt (by omega)).mpr (by have : (2:Nat)^62 = 4611686018427387904 := by decide
                                                                omega)
  omega
theorem fdiv62 {prog : Program} {w : World} {A : Around} {E : Value → Shared → Prop} {s : Shared} {a b : Int} {t u : Tok} {Q : Value → Shared → Prop} (h0 : 0 < b) (h1 : b < 4611686018427387904)
    (h : Q (.int (a.fdiv b) s.toks) { s with toks := s.toks + 1 }) : wpAny (model prog w) A (binaryOp .FloorDiv (.int a t) (.int b u)) Q E s :=
  floordiv_int (by omega) h (Or.inl (PyProof.noPylong_of_log2 (log2_62 h0 h1)))
noncomputable abbrev excObj (C t : Addr) : Obj := { cls := .ref C, data := .fields #[.ref t, .none, .none, .none, .bool false, .none] }
noncomputable abbrev sheetCls (newId : String) : Obj := excClassObj "SheetFault" "SheetFault" 70 69 [.ref 45] [.ref 45, .type "Exception", .type "BaseException", .type "object"] true [] [] false none none (some (.ref 61)) none (some (.str "SheetFault" 251)) (some (.str "SheetFault" 259)) (some (.bool true)) newId
section
variable {prog : Program} {w : World} {A : Around} {R : Result → Shared → Prop} {s : Shared} {rest : List Value} {M : Model} {E : Value → Shared → Prop} {newId initId : String} {bB : List Value}
theorem sheet_under (hC : s.heap.get? 70 = some (sheetCls newId)) {base : Value} {b : Bool} {Q : Bool → Shared → Prop} (hb : (Value.ref 70 :: [.ref 45, .type "Exception", .type "BaseException", .type "object"]).contains base = b) (hq : Q b s) : wpAny M A (isSubtype (.ref 70) base) Q E s :=
  wpAny_isSubtype_exc hC (by rw [hb]; exact hq)
theorem under_yes : (Value.ref 70 :: [.ref 45, .type "Exception", .type "BaseException", .type "object"]).contains (.type "Exception") = true := by decide +kernel
theorem under_self : (Value.ref 70 :: [.ref 45, .type "Exception", .type "BaseException", .type "object"]).contains (.ref 70) = true := by decide +kernel
theorem under_attr : (Value.ref 70 :: [.ref 45, .type "Exception", .type "BaseException", .type "object"]).contains (.type "AttributeError") = false := by decide +kernel
theorem under_name : (Value.ref 70 :: [.ref 45, .type "Exception", .type "BaseException", .type "object"]).contains (.type "NameError") = false := by decide +kernel
theorem sheet_check (F : ExcBaseFacts "Exception" newId initId bB) (hC : s.heap.get? 70 = some (sheetCls newId)) {Q : Unit → Shared → Prop} (hq : Q () s) : wpAny M A (checkBuiltinCall newId ⟨.ref 70 :: rest, []⟩) Q E s := by
  have f1 := F.newKind
  have f2 := F.newSplit
  have f3 := F.newRow
  rw [checkBuiltinCall, f1, f2, f3]
  wp_walk using wpAny_loadPart' hC, wpAny_madeBy_exc hC, wpAny_staticBase_exc hC, sheet_under hC under_yes
  exact hq
theorem sheet_made (F : ExcBaseFacts "Exception" newId initId bB) (hC : s.heap.get? 70 = some (sheetCls newId)) (hrest : rest.length ≤ sizeLine)
    (hq : R (.ok (.ret (.ref (s.heap.objs.size + 1)))) { s with heap := (s.heap.push { cls := .type "tuple", data := .seq rest.toArray }).push (excObj 70 s.heap.objs.size) }) :
    codeAny (model prog w) A (.builtin newId ⟨.ref 70 :: rest, []⟩) R s := by
  have f1 := F.ends
  have f2 := F.owner
  have f3 := F.canon
  refine codeAny_builtinAt F.entry (PySem.wpAt_bind (show PySem.wpAt _ _ _ (stack >>= _) _ _ _ from PySem.wpAt_bind (PySem.wpAt_stack fun _ _ => PySem.wpAt_of_wpAny ?_)))
  wp_walk
  refine PySem.wpAt_of_wpAny ?_
  rw [F.owner]
  wp_walk using wpAny_loadPart' hC, wpAny_madeHere_exc F.canon hC, sheet_under hC under_yes, sheet_under hC under_attr, sheet_under hC under_name
  show R _ _
  rw [Heap.size_push]
  exact hq
theorem sheet_asked (hC : s.heap.get? 70 = some (sheetCls newId)) (h : wpAny (model prog w) (A.under (.builtin "type.__call__" ⟨.ref 70 :: rest, []⟩)) (Builtin.«type.__call__» ⟨.ref 70 :: rest, []⟩) (fun fin s' => match fin with | .done f => R (.ok f) s' | .again c' => c'.quiet = true ∧ codeAny (model prog w) A c' R s') (fun e s' => R (.error e) s') s) :
    codeAny (model prog w) A (.call (.ref 70) ⟨rest, []⟩) R s := by
  have go := codeAny_call_builtin_at (Code.quiet_builtin ⟨.ref 70 :: rest, []⟩ (by decide +kernel)) entry_typeCall (wpAny_check_type_call_sub hC h)
  clear h
  have f1 := tc_lookup
  have f2 := tc_bind (.ref 70)
  have hT : s.TypeIs (.ref 70) "type" := ⟨_, hC, rfl⟩
  refine codeAny_of_tree (show wpAny _ _ (callAny (.ref 70) _) _ _ _ from ?_)
  wp_walk using wpAny_loadPart' hC
  exact ⟨rfl, go⟩
theorem sheet_born (F : ExcBaseFacts "Exception" newId initId bB) (hC : s.heap.get? 70 = some (sheetCls newId)) {fI : Addr}
    (hi : Looks (model prog w) s.heap (typeLookup (.ref 70) "__init__") (some (.ref fI))) (hb : ∀ self, Looks (model prog w) s.heap (bindSpecial (.ref fI) self) (.ref fI, [self])) (hrest : rest.length ≤ sizeLine)
    (hq : codeAny (model prog w) (A.under (.builtin "type.__call__" ⟨.ref 70 :: rest, []⟩)) (.call (.ref fI) ⟨.ref (s.heap.objs.size + 1) :: rest, []⟩) (InitBack (s.heap.objs.size + 1) R)
      { s with heap := (s.heap.push { cls := .type "tuple", data := .seq rest.toArray }).push (excObj 70 s.heap.objs.size) }) :
    codeAny (model prog w) A (.call (.ref 70) ⟨rest, []⟩) R s := by
  have k : ∀ b o, s.heap.get? b = some o → ((s.heap.push { cls := .type "tuple", data := .seq rest.toArray }).push (excObj 70 s.heap.objs.size)).get? b = some o := fun b o e => Heap.get?_push_of_some _ (Heap.get?_push_of_some _ e)
  have hC' : Heap.get? (Shared.heap { s with heap := (s.heap.push { cls := .type "tuple", data := .seq rest.toArray }).push (excObj 70 s.heap.objs.size) }) 70 = _ := k _ _ hC
  have hx : ((s.heap.push { cls := .type "tuple", data := .seq rest.toArray }).push (excObj 70 s.heap.objs.size)).get? (s.heap.objs.size + 1) = some (excObj 70 s.heap.objs.size) := by heap_get
  have hid : (Looks _ _ _ _ ∧ Looks _ _ _ _) ∧ codeAny _ _ _ _ _ := ⟨⟨hi.keeps k, (hb (.ref (s.heap.objs.size + 1))).keeps k⟩, hq⟩
  clear hi hb hq k
  refine sheet_asked hC ?_
  wp_walk using wpAny_loadPart' hC, wpAny_madeBy_exc hC
  refine codeAny_call_builtin_code (Code.quiet_builtin _ F.quiet) (sheet_check F hC (sheet_made F hC hrest ?_))
  clear hC F
  show wpAny _ _ (isInstance _ _ >>= _) _ _ { s with heap := (s.heap.push { cls := .type "tuple", data := .seq rest.toArray }).push (excObj 70 s.heap.objs.size) }
  unfold isInstance
  wp_walk using wpAny_loadPart' hx, sheet_under hC' under_self
  show wpAny _ _ (typeLookup (.ref 70) _) _ _ _
  refine hid.1.1.here ?_
  refine wpAny_holding (wpAny_bind (hid.1.2.here (wpAny_bind (wpAny_call (codeAny_mono hid.2 fun r s' z => ?_)))))
  rcases r with e | (v | _ | _ | _) <;> first | exact z | exact z.elim | skip
  obtain ⟨rfl, z⟩ := z
  wp_walk
  exact z
end
theorem sheet_call {prog : Program} {w : World} {A : Around} {R : Result → Shared → Prop} {s : Shared} {h₀ : Heap} {L : Addr} {m : Str → Option Value} {news : List (Addr × Obj)} {rest : List Value}
    (F : Fr h₀ L s.heap m) (X₀ : (Mine.hd.heap_1 w.params).In h₀) (N : News h₀ L s.heap news) (hrest : rest.length ≤ sizeLine)
    (h : ∀ x t h', Fr h₀ L h' m → News h₀ L h' ((x, excObj 70 t) :: (t, tup rest 0) :: news) → (∀ p ∈ news, p.1 < t) → t < x →
      codeAny (model prog w) (A.under (.builtin "type.__call__" ⟨.ref 70 :: rest, []⟩)) (.call (.ref 42) ⟨.ref x :: rest, []⟩) (InitBack x R) { s with heap := h' }) :
    codeAny (model prog w) A (.call (.ref 70) ⟨rest, []⟩) R s := by
  have X := X₀.keeps F.keep
  refine sheet_born PySem.F.excBase_Exception (X 70 _ (by kernel_rfl)) (fI := 42) (looks_findIn X (by kernel_rfl)) (fun self => bind_fn X self (by kernel_rfl)) hrest ?_
  have N2 := (N.push F (tup rest 0)).push (F.push _) (excObj 70 s.heap.objs.size)
  rw [Heap.size_push] at N2
  exact h _ _ _ ((F.push _).push _) N2 (fun p hp => Heap.lt_size (N p hp).1) (Nat.lt_succ_self _)
end
section
open PySem PySem.W PyProof.Rows PySem.Builtin PySem.Builtin.ObjectAttr
noncomputable abbrev excObjD (C t d : Addr) : Obj := { cls := .ref C, dict := some d, data := .fields #[.ref t, .none, .none, .none, .bool false, .none] }
theorem exc_osa {prog : Program} {w : World} {A : Around} {R : Result → Shared → Prop} {s : Shared} {h₀ : Heap} {L x t : Addr} {m : Str → Option Value} {news : List (Addr × Obj)} {tk : Tok} {v : Value}
    (F : Fr h₀ L s.heap m) (X₀ : (Mine.hd.heap_1 w.params).In h₀) (N : News h₀ L s.heap ((x, excObj 70 t) :: news)) (hx : ∀ p ∈ news, p.1 ≠ x)
    (h : ∀ h' d k, Fr h₀ L h' m → News h₀ L h' ((x, excObjD 70 t d) :: news) → R (.ok (.ret .none)) { s with heap := h', toks := k }) :
    codeAny (model prog w) A (.call (.builtin "object.__setattr__") ⟨[.ref x, .str "message" tk, v], []⟩) R s := by
  have SF := PySem.F.store_object
  have X := X₀.keeps F.keep
  have hxg : s.heap.get? x = some (excObj 70 t) := N.get (.head _)
  have LT : Looks (model prog w) s.heap (typeOf (.ref x)) (.ref 70) := (Looks.ld hxg).andThen .now
  have hcont : mroIn (Mine.hd.heap_1 w.params) 70 (.type "object") = some true := by kernel_rfl
  obtain ⟨cd, hc, hcd⟩ := any_some (show (clsIn (Mine.hd.heap_1 w.params) 70).any (fun cd => cd.mro == [.ref 70, .ref 45, .type "Exception", .type "BaseException", .type "object"] && cd.hasDict) = true by kernel_rfl)
  rw [Bool.and_eq_true, beq_iff_eq] at hcd
  obtain ⟨hm, hd⟩ := hcd
  have sub : Looks (model prog w) s.heap (isInstance (.ref x) (.type "object")) true := LT.andThen (looks_mroIn X hcont)
  refine codeAny_call_builtin SF.slot.plain SF.entry (@check_slot (model prog w) _ _ s "object.__setattr__" "object" "__setattr__" (.ref x) [.str "message" tk, v] [] _ SF.kind SF.split sub (SF.args (.ref x) (.str "message" tk) v) ?_)
  have hmr : Looks (model prog w) s.heap (mroOf (.ref 70)) cd.mro := (looks_clsIn X hc).andThen .now
  have L3 : Looks (model prog w) s.heap (storeTaker? none) none := .now
  rw [osa_eq, refuse_eq]
  refine wpAny_bind (wpAny_bind (LT.here (wpAny_bind (hmr.here ?_))))
  rw [hm, refuseLoop_ref, refuseLoop_ref, PySem.F.store_Exception.passes]
  refine wpAny_pure (wpAny_bind (LT.here (wpAny_bind ((looks_findIn X (show findIn (Mine.hd.heap_1 w.params) (.ref 70) "message" = some none by kernel_rfl)).here (wpAny_bind (L3.here ?_))))))
  obtain ⟨hh, g, dr, tk0, os⟩ := s
  dsimp only at hxg F N X ⊢
  have F1 := F.push emptyDict
  have N1 := N.push F emptyDict
  have hxd : x ≠ hh.objs.size := Nat.ne_of_lt (Heap.lt_size hxg)
  obtain ⟨F2, N2⟩ := news_upd (pre := [(hh.objs.size, emptyDict)]) (post := news) (d := x) (o := excObj 70 t) (f := fun o => { o with dict := some hh.objs.size }) F1 N1
    (by intro p hp; simp only [List.mem_singleton] at hp; subst hp; exact hxd.symm) hx rfl rfl
  refine wpAny_bind (wpAny_pure (wpAny_bind (wpAny_bind (wpAny_loadPart hxg (wpAny_bind ((looks_clsIn X hc).here ?_))))))
  rw [hd]
  refine wpAny_bind (wpAny_alloc' (wpAny_bind (wpAny_update' (Heap.get?_push_of_some _ hxg) (wpAny_pure ?_))))
  show wpAny _ _ (storeInDict hh.objs.size (.str "message" tk) "message" v) _ _ _
  have D2 := (N2 (hh.objs.size, emptyDict) (.head _))
  have hnd : Heap.Ns1 ((hh.push emptyDict).update x fun o => { o with dict := some hh.objs.size }) hh.objs.size (fun _ => none) :=
    Heap.Ns1.of_empty ⟨_, #[], _, D2.1, rfl, fun e he => absurd he (by simp), fun _ => rfl⟩
  unfold storeInDict newKeyGuard
  refine wpAny_bind (wpAny_pure (wpAny_bind (wpAny_nsSet1 hnd fun h' hn' hs => ?_)))
  obtain ⟨oD, esD, epD, hoD, hdD, hcD⟩ := hn'.count (Within.cons "message" v Within.nil)
  refine wpAny_bind (wpAny_lookBehind hoD (by rw [hdD]; exact pastItsLine_dict (Nat.le_trans hcD (by rw [List.length_cons, List.length_nil, sizeLine_eq]; omega))) ?_)
  refine wpAny_pure (h h' hh.objs.size _ ?_ ?_)
  · exact ⟨F2.ns.sameBut hs D2.2.1.symm, fun b ob e => (hs.2 b (fun q => by have := D2.2.2; rw [← q, e] at this; cases this)).trans (F2.keep b ob e), F2.above⟩
  · intro p hp
    have hp2 := N2 p (.tail _ hp)
    refine ⟨(hs.2 p.1 (fun q => ?_)).trans hp2.1, hp2.2⟩
    rcases List.mem_cons.mp hp with rfl | hp
    · exact hxd q
    · have := (N p (.tail _ hp)).1
      rw [q, Heap.get?_none_of_le (Nat.le_refl _)] at this
      cases this
end
section
local macro_rules | `(tactic| walk_at $s:str) => `(tactic| k_extra $s)
local macro_rules | `(tactic| k_room) => `(tactic| walk_at "rm9")
local macro_rules | `(tactic| ke_room) => `(tactic| walk_at "rm9")
local macro_rules | `(tactic| k_units) => `(tactic| walk_at "rm9")
local macro_rules | `(tactic| k_mem) => `(tactic| walk_at "k_mem")
local macro_rules | `(tactic| k_all) => `(tactic| walk_at "k_all")
theorem rows_a : True := by
  k_with_none
  (k_with "rm9" => ((try simp only [depth_under_make, depth_under_kw, depth_in1, depth_deeper, depth_caller, units_in1, units_deeper, Around.mark_units, units_caller]); (try dsimp only [ktrTop, Around.deeper, Around.in1, Around.mark]); omega))
  (k_with "al9" => first | assumption | exact allLt_of (by assumption) | kcu_lt | (simp only [AllLt] at *; omega))
  (k_with "kd9" => first | (dsimp only [ktrTop, Around.deeper, Around.in1]; omega) | ktr_room)
  (k_with "kK9" => first | exact rfl | assumption)
  (k_with "T9" => ((try dsimp only); (try k_fold); (try k_sweep)))
  (k_with "y" => intro _; with_unfolding_all eq_refl)
  (k_with "yy" => intro _ _; with_unfolding_all eq_refl)
  (k_with "aD" => with_unfolding_all decide)
  (k_with "aI" => first | (intro _ _ _; with_unfolding_all eq_refl) | (intro _ _ _ _ _; with_unfolding_all eq_refl))
  (k_with "aN" => with_unfolding_all exact Nat.le_of_ble_eq_true rfl)
  (k_with "aR" => rfl)
  (k_with "aX" => intro _ x hx; simp only [List.mem_cons, List.not_mem_nil, or_false] at hx; first | (rcases hx with rfl | rfl <;> with_unfolding_all eq_refl) | (rcases hx with rfl | rfl | rfl <;> with_unfolding_all eq_refl) | (rcases hx with rfl | rfl | rfl | rfl <;> with_unfolding_all eq_refl))
  (k_with "w" => with_unfolding_all eq_refl)
  (k_with "cd" => k_dflt (refine' code_def ?k1 ?k2 ?k3 ?k4 ?k5 ?kA ?kF ?kK ?k6 ?k7 ?k8 ?k9 ?kB ?_ ?c2 ?c3 ?c4 ?c5; (case kA => exact rfl); (case kF => exact rfl); (case kK => assumption); (case k1 => k_asm); (case k2 => k_asm); (case k3 => k_asm); (case k4 => k_asm); (case k5 => k_asm); (case k6 => k_is); (case k7 => k_is); (case k8 => ktr_room); (case k9 => exact BindsTo.of_eq rfl); (case c5 => decide); (case kB => exact locs rfl); (case c2 => exact rfl); (case c3 => exact rfl); (case c4 => exact rfl); k_whole; intro g' L' h' FG' F' N' B' X' T'; (try dsimp only); (try k_lift B'); (try k_fold)))
  (k_with "cg" => k_dflt (refine' code_def ?k1 ?k2 ?k3 ?k4 ?k5 ?kA ?kF ?kK ?k6 ?k7 ?k8 ?k9 ?kB ?_ ?c2 ?c3 ?c4 ?c5; (case kA => exact rfl); (case kF => exact rfl); (case kK => assumption); (case k1 => k_asm); (case k2 => exact F5); (case k3 => k_asm); (case k4 => exact N5); (case k5 => k_asm); (case k6 => k_is); (case k7 => k_is); (case k8 => ktr_room); (case k9 => exact BindsTo.of_eq rfl); (case c5 => decide); (case kB => exact locs rfl); (case c2 => exact rfl); (case c3 => exact rfl); (case c4 => exact rfl); k_whole; intro g' L' h' FG' F' N' B' X' T'; (try dsimp only); (try k_lift B'); (try k_fold)))
  (k_with "il" => intro loose mean mg mb dp un gd cn cs a ccd cl outer A₀ base h₀ L m s Q E B F X N T hk hd hu hret)
  (k_with "rm" => rcases List.mem_cons.mp hp with rfl | hp)
  trivial
def aY : Lean.Syntax := (Lean.Unhygienic.run `(tacticSeq| k_extra "y")).raw
def aW : Lean.Syntax := (Lean.Unhygienic.run `(tacticSeq| k_extra "w")).raw
def aZ : Lean.Syntax := (Lean.Unhygienic.run `(tacticSeq| k_extra "yy")).raw
def aD : Lean.Syntax := (Lean.Unhygienic.run `(tacticSeq| k_extra "aD")).raw
def aI : Lean.Syntax := (Lean.Unhygienic.run `(tacticSeq| k_extra "aI")).raw
def aN : Lean.Syntax := (Lean.Unhygienic.run `(tacticSeq| k_extra "aN")).raw
def aR : Lean.Syntax := (Lean.Unhygienic.run `(tacticSeq| k_extra "aR")).raw
def aX : Lean.Syntax := (Lean.Unhygienic.run `(tacticSeq| k_extra "aX")).raw

section
open PySem PySem.W PyProof.Rows
theorem exc_set {prog : Program} {w : World} {A : Around} {E : Value → Shared → Prop} {s : Shared} {h₀ : Heap} {L x t : Addr} {m : Str → Option Value} {news : List (Addr × Obj)} {v : Value} {Q : Unit → Shared → Prop}
    (F : Fr h₀ L s.heap m) (X₀ : (Mine.hd.heap_1 w.params).In h₀) (N : News h₀ L s.heap ((x, excObj 70 t) :: news)) (hx : ∀ p ∈ news, p.1 ≠ x)
    (h : ∀ h' d k, Fr h₀ L h' m → News h₀ L h' ((x, excObjD 70 t d) :: news) → Q () { s with heap := h', toks := k }) :
    wpAny (model prog w) A (setAttr (.ref x) "message" v) Q E s := by
  have X := X₀.keeps F.keep
  refine set_plain (C := 70) (ox := excObj 70 t) (od := none) X ⟨N.get (.head _), rfl, rfl, trivial⟩ (by kernel_rfl) ?_
  exact exc_osa (s := { s with toks := s.toks + 1 }) F X₀ N hx fun h' d k F' N' => h h' d k F' N'
section
theorem sheet_new {w : World} {news : List (Addr × Obj)} {msg : Str} {tk : Tok} : Cl w 30 160 70 [.str msg tk] news (fun v nw => ∃ x t d, v = .ref x ∧ nw = (x, excObjD 70 t d) :: (t, tup [.str msg tk] 0) :: news ∧ AllLt t news ∧ t < x) := by
  (k_with "setAttr ref" => (k_here; (with_reducible show wpAny _ _ (setAttr _ (Str.ofString "message") _) _ _ _); k_dflt (refine' exc_set ?F ?X ?N ?n ?_; (case F => k_asm); (case X => k_asm); (case N => k_asm); (case n => assumption)); intro h7 d7 k7 F7 N7))
  unfold Cl
  k_fill
  k_extra "il"
  refine wpAny_call (sheet_call F X N (by rw [sizeLine_eq]; exact Nat.le_of_ble_eq_true rfl) ?_)
  intro x t h5 F5 N5 l5 l6
  have l7 : ∀ p ∈ (t, tup [.str msg tk] 0) :: news, p.1 ≠ x := by
    intro p hp
    k_extra "rm"
    · exact Nat.ne_of_lt l6
    · exact Nat.ne_of_lt (Nat.lt_trans (l5 p hp) l6)
  k_extra "cg"
  k_steps
  rename Fr _ _ _ _ => F99
  rename News _ _ _ _ => N99
  exact hret _ _ _ _ ⟨x, t, _, rfl, rfl, allLt_of l5, l6⟩ F99 N99
end
end
section
open PySem PySem.W PyProof.Rows PySem.Spec PySem.Calls
theorem sheet_in {w : World} {h : Heap} (X : (Mine.hd.heap_1 w.params).In h) : h.get? 70 = some (excClassObj "SheetFault" "SheetFault" 70 69 [.ref 45] [.ref 45, .type "Exception", .type "BaseException", .type "object"] true [] [] false none none (some (.ref 61)) none (some (.str "SheetFault" 251)) (some (.str "SheetFault" 259)) (some (.bool true)) "Exception.__new__") :=
  X 70 _ (by kernel_rfl)
inductive RaisableS (w : World) (E : Value → Shared → Prop) (v : Value) (s₁ : Shared) : Prop
  | mk (x : _) (t : _) (d : _) (f0 : v = .ref x) (f1 : s₁.heap.get? x = some (excObjD 70 t d)) (f2 : (Mine.hd.heap_1 w.params).In s₁.heap) (f3 : E (.ref x) s₁) : RaisableS w E v s₁
theorem raise_sheet {M : Model} {A : Around} {E : Value → Shared → Prop} {env : Env} {w : World} {s : Shared} {e : Expr} {pos : Pos} {Q : Flow → Shared → Prop} (hh : A.handled = none)
    (h : wpAny M A (eval e env) (RaisableS w E) E s) : wpAny M A (exec (.Raise (some e) none pos) env) Q E s := by
  show wpAny M A (do standAt pos; raiseStmt env (some (do let v ← eval e env; standAt pos; pure v)) none) Q E s
  refine wpAny_bind (wpAny_standAt ?_)
  unfold raiseStmt
  dsimp only
  refine wpAny_bind (wpAny_bind (wpAny_mono h (fun v s₁ h₁ => wpAny_bind (wpAny_standAt (wpAny_pure ?_))) fun _ _ x => x))
  obtain ⟨x, t, dd, rfl, hx, X, hE⟩ := h₁
  obtain ⟨hp, g, d, tk, os⟩ := s₁
  have hC := sheet_in X
  have hcB : (Value.ref 70 :: [.ref 45, .type "Exception", .type "BaseException", .type "object"]).contains (.type "BaseException") = true := by decide +kernel
  repeat (first | with_reducible refine wpAny_loadPart_at hx ?_ | with_reducible refine wpAny_loadPart_at hC ?_ | (with_reducible refine wpAny_isSubtype_exc hC ?_; rw [hcB]) | wp_step)
  exact wpAny_raiseNew_none hh hE
theorem raisableS {w : World} {E : Value → Shared → Prop} {s : Shared} {h₀ : Heap} {L x t d : Addr} {m : Str → Option Value} {news : List (Addr × Obj)} (F : Fr h₀ L s.heap m) (X : (Mine.hd.heap_1 w.params).In h₀) (N : News h₀ L s.heap news) (hm : (x, excObjD 70 t d) ∈ news) (hE : E (.ref x) s) :
    RaisableS w E (.ref x) s := ⟨x, t, d, rfl, N.get hm, X.keeps F.keep, hE⟩
section
variable {M : Model} {A : Around} {E : Value → Shared → Prop} {s' : Shared} {base g : Heap} {outer : List Env} {L a x t d : Addr} {m : Str → Option Value} {name : Str} {scope : Scope} {cd : Value} {Q : Unit → Shared → Prop} {news news' : List (Addr × Obj)}
theorem leave_sheet {cl : List (Str × Addr)} (K : Below A base outer g) (F : Fr g L s'.heap m) (N : News g L s'.heap news') (hm : (x, excObjD 70 t d) ∈ news') (hn : ∀ p ∈ news, p ∈ news' ∧ p.1 ≠ x)
    (hQ : ∀ h', RaisedN base outer x (.ref 70) news h' → g.UpToSlots h' → Q () { s' with heap := h' }) (hk : autoParam (scope.kind = .function) aR) :
    wpAny M (A.deeper (envX name scope L a cd cl)) (leaving (envX name scope L a cd cl) (.ref x)) Q E s' := by
  have K' := pushX (env := envX name scope L a cd cl) K F rfl hk
  have hx := N.get hm
  have hxn := (N _ hm).2.2
  have hL : ∀ env ∈ (envX name scope L a cd cl :: outer), ∀ b, env.frame = some b → b ≠ x := by
    intro env he b hb hbx
    subst hbx
    rcases List.mem_cons.mp he with rfl | he
    · exact (N _ hm).2.1 (Option.some.inj hb).symm
    · obtain ⟨o, ho, _⟩ := (K.frames.mem (List.mem_filterMap.mpr ⟨env, he, hb⟩)).2
      rw [hxn] at ho; cases ho
  have hin : ∀ env ∈ (envX name scope L a cd cl :: outer), ∀ b, env.frame = some b → b ∈ x :: (envX name scope L a cd cl :: outer).filterMap (·.frame) := fun env he b hb => .tail _ (List.mem_filterMap.mpr ⟨env, he, hb⟩)
  have hbx : base.get? x = none := fresh_of_stays K.stays hxn
  have st : base.StaysIn (hideAll s'.heap (x :: (envX name scope L a cd cl :: outer).filterMap (·.frame))) := fun b o q => hideAll_get _ (K'.stays b o q) fun hm => by
    rcases List.mem_cons.mp hm with rfl | hm
    · rw [hbx] at q; cases q
    · rw [(K'.frames.mem hm).1] at q; cases q
  have hl : ∀ q ∈ news, (hideAll s'.heap (x :: (envX name scope L a cd cl :: outer).filterMap (·.frame))).get? q.1 = some q.2 ∧ base.get? q.1 = none := fun q hq => by
    obtain ⟨hq, hqx⟩ := hn q hq
    refine ⟨hideAll_get _ (N q hq).1 fun hm => ?_, fresh_of_stays K.stays (N q hq).2.2⟩
    rcases List.mem_cons.mp hm with h | hm
    · exact hqx h
    obtain ⟨env, he, hf⟩ := List.mem_filterMap.mp hm
    rcases List.mem_cons.mp he with rfl | he
    · exact (N q hq).2.1 (Option.some.inj hf).symm
    · obtain ⟨o, ho, _⟩ := (K.frames.mem (List.mem_filterMap.mpr ⟨env, he, hf⟩)).2
      rw [(N q hq).2.2] at ho; cases ho
  have hen : (hideAll s'.heap (x :: (envX name scope L a cd cl :: outer).filterMap (·.frame))).get? x = none := hideAll_none _ (.head _)
  refine wpAny_leaving_firstW (a0 := .ref t) K'.stack (funFrames_hide K'.frames hin) rfl hx (fun b o hb => of_hideAll _ hb) hen rfl rfl rfl fun h' hL => ?_
  obtain ⟨k1, ⟨_, _, k2⟩, k3, k4⟩ := hL
  exact hQ h' ⟨_, .ref t, st, hl, k1, hen, k2, k3⟩ ((Heap.UpToSlots.of_keeps F.keep).trans k4)
end
def Cx (w : World) (d u : Nat) (f : Addr) (vs : List Value) (news : List (Addr × Obj)) : Prop :=
  ∀ (loose : List Str) (mean : ExcName → Option Value) (mg mb : Str → Option Value) (dp un : Nat) (gd : Option (List Code)) (cn : Str) (cs : Scope) (a : Addr) (ccd : Value) (cl : List (Str × Addr)) (outer : List Env) (A₀ : Around) (base h₀ : Heap) (L : Addr) (m : Str → Option Value) (s : Shared) (Q E : Value → Shared → Prop),
    Below A₀ base outer h₀ → Fr h₀ L s.heap m → (Mine.hd.heap_1 w.params).In h₀ → News h₀ L s.heap news → Top topProg loose mean mg mb h₀ → cs.kind = .function → dp + d < recursionLimit → un + u < cLine →
    (∀ x g h' tk', RaisedN base (envX cn cs L a ccd cl :: outer) x (.ref 70) news h' → Fr h₀ L g m → g.UpToSlots h' → E (.ref x) { s with heap := h', toks := tk' }) →
    wpAny (model PySem.Challenge.rw_xm0694_01.row.prog w) (ktrTop dp un gd cn cs L a ccd cl outer) (call (.ref f) vs) Q E s
theorem cx_use {w : World} {d u : Nat} {f : Addr} {vs : List Value} {news : List (Addr × Obj)} (C : Cx w d u f vs news)
    {loose : List Str} {mean : ExcName → Option Value} {mg mb : Str → Option Value} {dp un : Nat} {gd : Option (List Code)} {cn : Str} {cs : Scope} {a : Addr} {ccd : Value} {cl : List (Str × Addr)} {outer : List Env} {A₀ : Around} {base h₀ : Heap} {L : Addr} {m : Str → Option Value} {s : Shared} {Q E : Value → Shared → Prop}
    (B : Below A₀ base outer h₀) (F : Fr h₀ L s.heap m) (X : (Mine.hd.heap_1 w.params).In h₀) (N : News h₀ L s.heap news) (T : Top topProg loose mean mg mb h₀) (hk : cs.kind = .function) (hd : dp + d < recursionLimit) (hu : un + u < cLine)
    (ret : ∀ x g h' tk', RaisedN base (envX cn cs L a ccd cl :: outer) x (.ref 70) news h' → Fr h₀ L g m → g.UpToSlots h' → E (.ref x) { s with heap := h', toks := tk' }) :
    wpAny (model PySem.Challenge.rw_xm0694_01.row.prog w) (ktrTop dp un gd cn cs L a ccd cl outer) (call (.ref f) vs) Q E s :=
  C _ _ _ _ _ _ _ _ _ _ _ _ _ _ _ _ _ _ _ _ _ B F X N T hk hd hu ret
section
variable {prog : Program} {w : World} {A₀ : Around} {E : Value → Shared → Prop} {s' : Shared} {h₀ h : Heap} {outer : List Env} {L a e : Addr} {m : Str → Option Value} {name : Str} {scope : Scope} {cd : Value}
  {b₀ : Stmt} {suite : List Stmt} {pos np : Pos} {rest : List ExceptHandler} {Q : Flow → Shared → Prop} {news : List (Addr × Obj)}
  {p : Program} {loose : List Str} {mean : ExcName → Option Value} {mg mb : Str → Option Value}
end
end
section
noncomputable def rv (x y : Int) : Rat := (x : Rat) / (y : Rat)
theorem rat_ne {a : Int} (h : 0 < a) : (a : Rat) ≠ 0 := by exact_mod_cast (by omega : a ≠ 0)
theorem rv_mul {x y a0 a1 b0 b1 g : Int} (hg : 0 < g) (hx : x * g = a0 * b0) (hy : y * g = a1 * b1) (h1 : 0 < a1) (h2 : 0 < b1) (h3 : 0 < y) : rv x y = rv a0 a1 * rv b0 b1 := by
  unfold rv
  have e1 : (x : Rat) * g = a0 * b0 := by exact_mod_cast hx
  have e2 : (y : Rat) * g = a1 * b1 := by exact_mod_cast hy
  have n1 := rat_ne h1
  have n2 := rat_ne h2
  have n3 := rat_ne hg
  have n4 := rat_ne h3
  grind
theorem rv_sub {x y a0 a1 b0 b1 g : Int} (hg : 0 < g) (hx : x * g = a0 * b1 - b0 * a1) (hy : y * g = a1 * b1) (h1 : 0 < a1) (h2 : 0 < b1) (h3 : 0 < y) : rv x y = rv a0 a1 - rv b0 b1 := by
  unfold rv
  have e1 : (x : Rat) * g = a0 * b1 - b0 * a1 := by exact_mod_cast hx
  have e2 : (y : Rat) * g = a1 * b1 := by exact_mod_cast hy
  have n1 := rat_ne h1
  have n2 := rat_ne h2
  have n3 := rat_ne hg
  have n4 := rat_ne h3
  grind
theorem rv_add {x y a0 a1 b0 b1 g : Int} (hg : 0 < g) (hx : x * g = a0 * b1 + b0 * a1) (hy : y * g = a1 * b1) (h1 : 0 < a1) (h2 : 0 < b1) (h3 : 0 < y) : rv x y = rv a0 a1 + rv b0 b1 := by
  unfold rv
  have e1 : (x : Rat) * g = a0 * b1 + b0 * a1 := by exact_mod_cast hx
  have e2 : (y : Rat) * g = a1 * b1 := by exact_mod_cast hy
  have n1 := rat_ne h1
  have n2 := rat_ne h2
  have n3 := rat_ne hg
  have n4 := rat_ne h3
  grind
theorem rv_div {x y a0 a1 b0 b1 g : Int} (hg : 0 < g) (hx : x * g = a0 * b1) (hy : y * g = a1 * b0) (h1 : 0 < a1) (h2 : 0 < b1) (h0 : 0 < b0) (h3 : 0 < y) : rv x y = rv a0 a1 / rv b0 b1 := by
  unfold rv
  have e1 : (x : Rat) * g = a0 * b1 := by exact_mod_cast hx
  have e2 : (y : Rat) * g = a1 * b0 := by exact_mod_cast hy
  have n1 := rat_ne h1
  have n2 := rat_ne h2
  have n3 := rat_ne hg
  have n4 := rat_ne h3
  have n5 := rat_ne h0
  grind
theorem rv_same {x y a0 a1 g : Int} (hg : 0 < g) (hx : x * g = a0) (hy : y * g = a1) (h1 : 0 < a1) (h3 : 0 < y) : rv x y = rv a0 a1 := by
  unfold rv
  have e1 : (x : Rat) * g = a0 := by exact_mod_cast hx
  have e2 : (y : Rat) * g = a1 := by exact_mod_cast hy
  have n1 := rat_ne h1
  have n3 := rat_ne hg
  have n4 := rat_ne h3
  grind
theorem rv_lt {a0 a1 b0 b1 : Int} (h1 : 0 < a1) (h2 : 0 < b1) : rv a0 a1 < rv b0 b1 ↔ a0 * b1 < b0 * a1 := by
  unfold rv
  have n2 := rat_ne h2
  have e : (b0 : Rat) / b1 * a1 = (b0 * a1) / b1 := by grind
  rw [Rat.div_lt_iff (by exact_mod_cast h1), e, Rat.lt_div_iff (by exact_mod_cast h2)]
  exact_mod_cast Iff.rfl
theorem rv_eq {a0 a1 b0 b1 : Int} (h1 : 0 < a1) (h2 : 0 < b1) : rv a0 a1 = rv b0 b1 ↔ a0 * b1 = b0 * a1 := by
  unfold rv
  have n1 := rat_ne h1
  have n2 := rat_ne h2
  constructor
  · intro h
    have : (a0 : Rat) * b1 = b0 * a1 := by grind
    exact_mod_cast this
  · intro h
    have : (a0 : Rat) * b1 = b0 * a1 := by exact_mod_cast h
    grind
def Bd (k : Nat) (x y : Int) : Prop := x.natAbs ≤ k ∧ 0 < y ∧ y ≤ k
theorem Bd.mono {k k' : Nat} {x y : Int} (h : Bd k x y) (hk : k ≤ k') : Bd k' x y := ⟨Nat.le_trans h.1 hk, h.2.1, by have := h.2.2; omega⟩
theorem natAbs_mul_le {a b : Int} {k l : Nat} (ha : a.natAbs ≤ k) (hb : b.natAbs ≤ l) : (a * b).natAbs ≤ k * l := by
  rw [Int.natAbs_mul]; exact Nat.mul_le_mul ha hb
theorem Bd.abs1 {k : Nat} {x y : Int} (h : Bd k x y) : y.natAbs ≤ k := by have := h.2; omega
structure Red (x y X Y g : Int) : Prop where
  g0 : 0 < g
  hx : x * g = X
  hy : y * g = Y
  y0 : 0 < y
  bx : x.natAbs ≤ X.natAbs
  by_ : y ≤ Y
  gY : g ≤ Y
theorem Bd.mul {ka kb : Nat} {a0 a1 b0 b1 x y g : Int} (ha : Bd ka a0 a1) (hb : Bd kb b0 b1) (r : Red x y (a0 * b0) (a1 * b1) g) : Bd (ka * kb) x y ∧ rv x y = rv a0 a1 * rv b0 b1 := by
  have h1 := natAbs_mul_le ha.1 hb.1
  have h2 := natAbs_mul_le ha.abs1 hb.abs1
  have h3 := r.bx
  have h4 := r.by_
  exact ⟨⟨by omega, r.y0, by omega⟩, rv_mul r.g0 r.hx r.hy ha.2.1 hb.2.1 r.y0⟩
theorem Bd.sub {ka kb : Nat} {a0 a1 b0 b1 x y g : Int} (ha : Bd ka a0 a1) (hb : Bd kb b0 b1) (r : Red x y (a0 * b1 - b0 * a1) (a1 * b1) g) : Bd (2 * (ka * kb)) x y ∧ rv x y = rv a0 a1 - rv b0 b1 := by
  have h1 := natAbs_mul_le ha.1 hb.abs1
  have h2 := natAbs_mul_le ha.abs1 hb.abs1
  have h5 := natAbs_mul_le hb.1 ha.abs1
  have h3 := r.bx
  have h4 := r.by_
  rw [Nat.mul_comm kb ka] at h5
  exact ⟨⟨by omega, r.y0, by omega⟩, rv_sub r.g0 r.hx r.hy ha.2.1 hb.2.1 r.y0⟩
theorem Bd.add {ka kb : Nat} {a0 a1 b0 b1 x y g : Int} (ha : Bd ka a0 a1) (hb : Bd kb b0 b1) (r : Red x y (a0 * b1 + b0 * a1) (a1 * b1) g) : Bd (2 * (ka * kb)) x y ∧ rv x y = rv a0 a1 + rv b0 b1 := by
  have h1 := natAbs_mul_le ha.1 hb.abs1
  have h2 := natAbs_mul_le ha.abs1 hb.abs1
  have h5 := natAbs_mul_le hb.1 ha.abs1
  have h3 := r.bx
  have h4 := r.by_
  rw [Nat.mul_comm kb ka] at h5
  exact ⟨⟨by omega, r.y0, by omega⟩, rv_add r.g0 r.hx r.hy ha.2.1 hb.2.1 r.y0⟩
theorem Bd.div {ka kb : Nat} {a0 a1 b0 b1 x y g : Int} (ha : Bd ka a0 a1) (hb : Bd kb b0 b1) (h0 : 0 < b0) (r : Red x y (a0 * b1) (a1 * b0) g) : Bd (ka * kb) x y ∧ rv x y = rv a0 a1 / rv b0 b1 := by
  have h1 := natAbs_mul_le ha.1 hb.abs1
  have h2 := natAbs_mul_le ha.abs1 hb.1
  have h3 := r.bx
  have h4 := r.by_
  exact ⟨⟨by omega, r.y0, by omega⟩, rv_div r.g0 r.hx r.hy ha.2.1 hb.2.1 h0 r.y0⟩
theorem Bd.lo {k : Nat} {x y : Int} (h : Bd k x y) (hk : k < 4611686018427387904) : (-4611686018427387904 < x ∧ x < 4611686018427387904) ∧ 0 < y ∧ y < 4611686018427387904 := by
  have := h.1; have := h.2; omega
end
section
open PySem PySem.W PyProof.Rows
noncomputable def gcdI (a b : Int) : Int := (Int.gcd a b : Int)
theorem cd_start {x y : Int} (h : 0 < y) : 0 ≤ (if x < 0 then -x else x) ∧ 0 ≤ y ∧ gcdI (if x < 0 then -x else x) y = gcdI x y := by
  refine ⟨by split <;> omega, by omega, ?_⟩
  split
  · unfold gcdI; rw [Int.neg_gcd]
  · rfl
theorem cd_turn {p q x y : Int} (hp : 0 ≤ p) (h0 : 0 ≤ q) (hq : 0 < q) (h : gcdI p q = gcdI x y) : 0 ≤ q ∧ 0 ≤ Int.fmod p q ∧ gcdI q (Int.fmod p q) = gcdI x y := by
  refine ⟨h0, Int.fmod_nonneg hp h0, ?_⟩
  rw [← h]; unfold gcdI
  rw [Int.gcd_comm q, Int.fmod_def, Int.gcd_sub_mul_left_left]
theorem cd_less {p q : Int} (hp : 0 ≤ p) (hq : 0 < q) : (Int.fmod p q).toNat < q.toNat := by
  have := Int.fmod_lt_of_pos p hq
  omega
theorem cd_end {p q x y : Int} (hp : 0 ≤ p) (h0 : 0 ≤ q) (hq : q ≤ 0) (h : gcdI p q = gcdI x y) : p = gcdI x y := by
  have : q = 0 := by omega
  subst this
  rw [← h]; unfold gcdI; rw [Int.gcd_zero_right]; omega
theorem fdiv_gcd {x y : Int} (hy : 0 < y) : Red (Int.fdiv x (gcdI x y)) (Int.fdiv y (gcdI x y)) x y (gcdI x y) := by
  have h0 : 0 < gcdI x y := by
    have : Int.gcd x y ≠ 0 := fun h => by have := (Int.gcd_eq_zero_iff.mp h).2; omega
    unfold gcdI; omega
  have d1 : gcdI x y ∣ x := by unfold gcdI; exact Int.gcd_dvd_left ..
  have d2 : gcdI x y ∣ y := by unfold gcdI; exact Int.gcd_dvd_right ..
  generalize gcdI x y = g at *
  obtain ⟨p, rfl⟩ := d1
  obtain ⟨q, rfl⟩ := d2
  have hg : g ≠ 0 := by omega
  rw [Int.mul_fdiv_cancel_left _ hg, Int.mul_fdiv_cancel_left _ hg]
  have hq : 0 < q := Int.pos_of_mul_pos_right hy (by omega)
  refine ⟨h0, Int.mul_comm .., Int.mul_comm .., hq, ?_, ?_, ?_⟩
  · rw [Int.natAbs_mul]; exact Nat.le_mul_of_pos_left _ (by omega)
  · have := Int.mul_le_mul_of_nonneg_right (show 1 ≤ g by omega) (Int.le_of_lt hq); omega
  · have := Int.mul_le_mul_of_nonneg_left (show 1 ≤ q by omega) (Int.le_of_lt h0); omega
def T2 (w : World) (news : List (Addr × Obj)) (A : Addr) (x y : Int) : Prop :=
  ∃ (t u : Tok) (c : Nat), (A, tup [.int x t, .int y u] c) ∈ news ∨ ((Mine.hd.heap_1 w.params).lookup A = some (tup [.int x t, .int y u] c))
theorem T2.new {w : World} {news : List (Addr × Obj)} {A : Addr} {x y : Int} {t u : Tok} {c : Nat} (h : (A, tup [.int x t, .int y u] c) ∈ news) : T2 w news A x y := ⟨t, u, c, .inl h⟩
theorem T2.mono {w : World} {news news' : List (Addr × Obj)} {A : Addr} {x y : Int} (h : T2 w news A x y) (hs : ∀ p ∈ news, p ∈ news') : T2 w news' A x y := by
  obtain ⟨t, u, c, h⟩ := h
  exact ⟨t, u, c, h.imp (hs _) id⟩
theorem T2_zero {w : World} {news : List (Addr × Obj)} : T2 w news 73 0 1 := ⟨269, 270, 0, .inr (by kernel_rfl)⟩
theorem T2_one {w : World} {news : List (Addr × Obj)} : T2 w news 74 1 1 := ⟨272, 273, 0, .inr (by kernel_rfl)⟩
theorem T2_half {w : World} {news : List (Addr × Obj)} : T2 w news 343 1 2 := ⟨644, 645, 0, .inr (by kernel_rfl)⟩
theorem T2.isTup {w : World} {news news' : List (Addr × Obj)} {A L : Addr} {x y : Int} {h₀ h : Heap} {m : Str → Option Value} (hT : T2 w news A x y) (F : Fr h₀ L h m) (X : (Mine.hd.heap_1 w.params).In h₀) (N : News h₀ L h news') (hs : ∀ p ∈ news, p ∈ news') : ∃ t u, IsTup h A #[.int x t, .int y u] := by
  obtain ⟨t, u, c, hm | hk⟩ := hT
  · exact ⟨t, u, News.isTup N (hs _ hm)⟩
  · exact ⟨t, u, _, F.keep _ _ (X _ _ hk), rfl, _, rfl⟩
theorem item0 {w : World} {news news' : List (Addr × Obj)} {D L : Addr} {x y : Int} {h₀ : Heap} {m : Str → Option Value} {prog : Program} {A : Around} {E : Value → Shared → Prop} {s : Shared} {value slice : Expr} {u : Tok} {Q : Value → Shared → Prop}
    (hT : T2 w news D x y) (F : Fr h₀ L s.heap m) (X : (Mine.hd.heap_1 w.params).In h₀) (N : News h₀ L s.heap news') (hs : ∀ p ∈ news, p ∈ news') (h : ∀ t, Q (.int x t) s)
    (hs' : autoParam (subscripted slice false (.ref D) (.int 0 u) = operate [.ref D, .int 0 u] (getItem (.ref D) (.int 0 u))) aW) :
    wpAny (model prog w) A (subscriptTail value slice (.ref D) (.int 0 u)) Q E s := by
  obtain ⟨t, v, hh⟩ := hT.isTup F X N hs
  exact item_tupleT (l := [.int x t, .int y v]) hh (by decide) (by decide) (j := 0) rfl rfl (h t) hs'
theorem item1 {w : World} {news news' : List (Addr × Obj)} {D L : Addr} {x y : Int} {h₀ : Heap} {m : Str → Option Value} {prog : Program} {A : Around} {E : Value → Shared → Prop} {s : Shared} {value slice : Expr} {u : Tok} {Q : Value → Shared → Prop}
    (hT : T2 w news D x y) (F : Fr h₀ L s.heap m) (X : (Mine.hd.heap_1 w.params).In h₀) (N : News h₀ L s.heap news') (hs : ∀ p ∈ news, p ∈ news') (h : ∀ t, Q (.int y t) s)
    (hs' : autoParam (subscripted slice false (.ref D) (.int 1 u) = operate [.ref D, .int 1 u] (getItem (.ref D) (.int 1 u))) aW) :
    wpAny (model prog w) A (subscriptTail value slice (.ref D) (.int 1 u)) Q E s := by
  obtain ⟨t, v, hh⟩ := hT.isTup F X N hs
  exact item_tupleT (l := [.int x t, .int y v]) hh (by decide) (by decide) (j := 1) rfl rfl (h v) hs'
section
end
section
end
inductive OptV : Option Str → Value → Prop
  | none : OptV .none .none
  | some (s : Str) (t : Tok) : OptV (.some s) (.str s t)
noncomputable abbrev idU (x : Str) : Str := Txt.stripChars (Txt.slice (Txt.strip x) (some 4) (some (-1))) (Str.ofString " \t\n\x0d\x0c'\"")
noncomputable def idP (x : Str) : Option Str :=
  if (Txt.slice (Txt.strip x) none (some 4) != Str.ofString "url(") = true then none
  else if (Txt.slice (Txt.strip x) (some (-1)) none != Str.ofString ")") = true then none
  else if (Txt.slice (idU x) none (some 1) == Str.ofString "#") = true then some (Txt.slice (idU x) (some 1) none) else none
theorem idP_1 {x : Str} {v : Value} (h : (Txt.slice (Txt.strip x) none (some 4) != Str.ofString "url(") = true) (hv : v = .none) : OptV (idP x) v := by
  subst hv; unfold idP; rw [if_pos h]; exact .none
theorem idP_2 {x : Str} {v : Value} (h : (Txt.slice (Txt.strip x) none (some 4) != Str.ofString "url(") = false) (h2 : (Txt.slice (Txt.strip x) (some (-1)) none != Str.ofString ")") = true) (hv : v = .none) : OptV (idP x) v := by
  subst hv; unfold idP; rw [if_neg (by rw [h]; decide), if_pos h2]; exact .none
theorem idP_3 {x : Str} {t : Tok} (h : (Txt.slice (Txt.strip x) none (some 4) != Str.ofString "url(") = false) (h2 : (Txt.slice (Txt.strip x) (some (-1)) none != Str.ofString ")") = false) (h3 : (Txt.slice (idU x) none (some 1) == Str.ofString "#") = true) : OptV (idP x) (.str (Txt.slice (idU x) (some 1) none) t) := by
  unfold idP; rw [if_neg (by rw [h]; decide), if_neg (by rw [h2]; decide), if_pos h3]; exact .some _ _
theorem idP_4 {x : Str} {v : Value} (h : (Txt.slice (Txt.strip x) none (some 4) != Str.ofString "url(") = false) (h2 : (Txt.slice (Txt.strip x) (some (-1)) none != Str.ofString ")") = false) (h3 : (Txt.slice (idU x) none (some 1) == Str.ofString "#") = false) (hv : v = .none) : OptV (idP x) v := by
  subst hv; unfold idP; rw [if_neg (by rw [h]; decide), if_neg (by rw [h2]; decide), if_neg (by rw [h3]; decide)]; exact .none
theorem id_spec {w : World} {news : List (Addr × Obj)} {x : Str} {t : Tok} (hx : x.length < 1000) : Cl w 10 80 28 [.str x t] news (fun v nw => OptV (idP x) v ∧ nw = news) := by
  unfold Cl
  k_fill
  k_extra "il"
  refine wpAny_call ?_
  k_dflt cell_enter
  k_steps
  all_goals rename Fr _ _ _ _ => F99
  all_goals rename News _ _ _ _ => N99
  · exact hret _ _ _ _ ⟨idP_1 (by with_reducible assumption) rfl, rfl⟩ F99 (cb_drop N99 (by kcj_all))
  · exact hret _ _ _ _ ⟨idP_2 (by with_reducible assumption) (by with_reducible assumption) rfl, rfl⟩ F99 (cb_drop N99 (by kcj_all))
  · exact hret _ _ _ _ ⟨idP_3 (by with_reducible assumption) (by with_reducible assumption) (by with_reducible assumption), rfl⟩ F99 (cb_drop N99 (by kcj_all))
  · exact hret _ _ _ _ ⟨idP_4 (by with_reducible assumption) (by with_reducible assumption) (by with_reducible assumption) rfl, rfl⟩ F99 (cb_drop N99 (by kcj_all))
noncomputable abbrev cutE (x : Str) : Int := Txt.find (Txt.strip x) (Str.ofString ")") + 1
noncomputable def cutP (x : Str) : Option Str × Str :=
  if (Txt.slice (Txt.strip x) none (some 4) != Str.ofString "url(") = true then (none, Txt.strip x)
  else (idP (Txt.slice (Txt.strip x) none (some (cutE x))), Txt.strip (Txt.slice (Txt.strip x) (some (cutE x)) none))
def CutR (news : List (Addr × Obj)) (r : Option Str × Str) (v : Value) (nw : List (Addr × Obj)) : Prop :=
  ∃ D v1 t c, v = .ref D ∧ nw = (D, tup [v1, .str r.2 t] c) :: news ∧ AllLt D news ∧ OptV r.1 v1
theorem cutR_1 {news : List (Addr × Obj)} {x : Str} {D : Addr} {t : Tok} {c : Nat} (h : (Txt.slice (Txt.strip x) none (some 4) != Str.ofString "url(") = true) (hl : AllLt D news) : CutR news (cutP x) (.ref D) ((D, tup [.none, .str (Txt.strip x) t] c) :: news) := by
  unfold cutP; rw [if_pos h]; unfold CutR; dsimp only; exact ⟨D, .none, t, c, rfl, rfl, hl, .none⟩
theorem cutR_2 {news : List (Addr × Obj)} {x : Str} {D : Addr} {v1 : Value} {t : Tok} {c : Nat} (h : (Txt.slice (Txt.strip x) none (some 4) != Str.ofString "url(") = false) (hl : AllLt D news) (hv : OptV (idP (Txt.slice (Txt.strip x) none (some (cutE x)))) v1) :
    CutR news (cutP x) (.ref D) ((D, tup [v1, .str (Txt.strip (Txt.slice (Txt.strip x) (some (cutE x)) none)) t] c) :: news) := by
  unfold cutP; rw [if_neg (by rw [h]; decide)]; unfold CutR; dsimp only; exact ⟨D, v1, t, c, rfl, rfl, hl, hv⟩
section
theorem cut_spec {w : World} {news : List (Addr × Obj)} {x : Str} {t : Tok} (hx : x.length < 1000) (hok : (Txt.slice (Txt.strip x) none (some 4) != Str.ofString "url(") = true ∨ Txt.find (Txt.strip x) (Str.ofString ")") + 1 ≠ 0) :
    Cl w 20 160 393 [.str x t] news (CutR news (cutP x)) := by
  (k_with "call ref" => (k_here; (with_reducible show wpAny _ _ (call (Value.ref 28) _) _ _ _); k_dflt (refine' cl_use (id_spec ?p0) ?k1 ?k2 ?k3 ?k4 ?k5 ?kK ?kd ?ku ?_; (case k1 => k_asm); (case k2 => k_asm); (case k3 => k_asm); (case k4 => k_asm); (case k5 => k_asm); (case p0 => omega); (case kK => first | exact rfl | assumption); (case kd => first | (dsimp only [ktrTop, Around.deeper, Around.in1]; omega) | ktr_room); (case ku => first | (dsimp only [ktrTop, Around.deeper, Around.in1]; omega) | ktr_units)); (intro v9 nw9 h9 tk9 R9 F9 N9); (obtain ⟨r9, n9⟩ := R9); (subst nw9); (try dsimp only); (try k_fold); (try k_sweep)))
  unfold Cl
  k_fill
  k_extra "il"
  refine wpAny_call ?_
  k_dflt cell_enter
  k_steps
  · rename Fr _ _ _ _ => F99
    rename News _ _ _ _ => N99
    exact hret _ _ _ _ (cutR_1 (by with_reducible assumption) (by first | assumption | exact allLt_of (by assumption) | kcu_lt | (simp only [AllLt] at *; omega))) F99 (cb_drop N99 (by kcj_all))
  · exfalso
    rcases hok with h | h
    · have q1 : (Txt.slice (Txt.strip x) none (some 4) != Str.ofString "url(") = false := by with_reducible assumption
      rw [q1] at h; cases h
    · exact h (by with_reducible assumption)
  · rename Fr _ _ _ _ => F99
    rename News _ _ _ _ => N99
    exact hret _ _ _ _ (cutR_2 (by with_reducible assumption) (by first | assumption | exact allLt_of (by assumption) | kcu_lt | (simp only [AllLt] at *; omega)) (by with_reducible assumption)) F99 (cb_drop N99 (by kcj_all))
end
inductive SrcOk (o : Obj) : Prop
  | mk (a : _) (b : _) (ta : _) (tb : _) (c : _) (f0 : o = listOf #[.int a ta, .int b tb] c) (f1 : 0 ≤ a) (f2 : 0 ≤ b) (f3 : b < 2147483647) : SrcOk o
theorem cl_mono {w : World} {d u : Nat} {f : Addr} {vs : List Value} {news : List (Addr × Obj)} {R R' : Value → List (Addr × Obj) → Prop} (C : Cl w d u f vs news R) (h : ∀ v nw, R v nw → R' v nw) : Cl w d u f vs news R' := by
  k_extra "il"
  exact C _ _ _ _ _ _ _ _ _ _ _ _ _ _ _ _ _ _ _ _ _ B F X N T hk hd hu fun v nw h' tk' q => hret v nw h' tk' (h _ _ q)
theorem len_at {prog : Program} {w : World} {A : Around} {E : Value → Shared → Prop} {s : Shared} {l : Addr} {vs : List Value} {Q : Value → Shared → Prop}
    (hl : s.heap.IsList l vs.toArray) (hlen : vs.length < 1000) (h : Q (.int vs.length (s.toks + 1)) { s with toks := s.toks + 1 + 1 }) : wpAny (model prog w) A (call (.builtin "len") [.ref l]) Q E s :=
  Calls.call_len_list hl (by rw [List.size_toArray]; omega) (by rw [List.size_toArray]; exact h)
theorem item_at {prog : Program} {w : World} {A : Around} {E : Value → Shared → Prop} {s : Shared} {value slice : PySem.Expr} {l : Addr} {vs : List Value} {k : Int} {u : Tok} {Q : Value → Shared → Prop}
    (hl : s.heap.IsList l vs.toArray) (h0 : 0 ≤ k) (hhi : k < vs.length) (hlen : vs.length < 1000) (h : ∀ v, vs[k.toNat]? = some v → Q v s)
    (hs : autoParam (subscripted slice false (.ref l) (.int k u) = operate [.ref l, .int k u] (getItem (.ref l) (.int k u))) aW) :
    wpAny (model prog w) A (subscriptTail value slice (.ref l) (.int k u)) Q E s := by
  have hx : vs[k.toNat]? = some (vs[k.toNat]'(by omega)) := List.getElem?_eq_getElem (by omega)
  exact tail_any hl.typeIs slot_list_getitem.lookup (wpAny_getItem_list hl h0 (by omega) (by simpa using hx) (h _ hx)) hs
section
end
end
section
open PySem PySem.W PyProof.Rows PySem.Spec PySem.Calls
noncomputable def cutAt (h : Heap) (n : Nat) : Heap := ⟨h.objs.extract 0 n, h.life⟩
theorem cutAt_get {h : Heap} {n b : Nat} : (cutAt h n).get? b = if b < n then h.get? b else none := by
  unfold cutAt Heap.get?
  rw [Array.getElem?_extract]
  by_cases hb : b < n
  · by_cases hs : b < h.objs.size
    · rw [if_pos (show b < min n h.objs.size - 0 by omega), if_pos hb, Nat.zero_add]
    · rw [if_neg (show ¬ b < min n h.objs.size - 0 by omega), if_pos hb, Array.getElem?_eq_none (Nat.le_of_not_lt hs)]
  · rw [if_neg (show ¬ b < min n h.objs.size - 0 by omega), if_neg hb]
noncomputable def newBase (h : Heap) (n : Nat) (base : Heap) (fr : List Addr) : Heap := hideAll (cutAt h n) ((List.range n).filter fun b => (base.get? b).isNone && !fr.contains b)
theorem newBase_of {h base : Heap} {n : Nat} {fr : List Addr} {b : Addr} {o : Obj} (e : (newBase h n base fr).get? b = some o) : h.get? b = some o ∧ b < n := by
  have := of_hideAll _ e
  rw [cutAt_get] at this
  split at this
  · exact ⟨this, by assumption⟩
  · cases this
theorem newBase_get {h base : Heap} {n : Nat} {fr : List Addr} {b : Addr} {o : Obj} (e : h.get? b = some o) (hn : b < n) (hk : (∃ o', base.get? b = some o') ∨ b ∈ fr) : (newBase h n base fr).get? b = some o := by
  refine hideAll_get _ (by rw [cutAt_get, if_pos hn]; exact e) fun hm => ?_
  have := (List.mem_filter.mp hm).2
  rcases hk with ⟨o', h'⟩ | hk
  · rw [h'] at this; simp at this
  · rw [Bool.and_eq_true, Bool.not_eq_true'] at this
    have := this.2
    rw [List.contains_eq_mem, decide_eq_false_iff_not] at this
    exact this hk
theorem newBase_none {h base : Heap} {n : Nat} {fr : List Addr} {b : Addr} (e : base.get? b = none) (hk : b ∉ fr) : (newBase h n base fr).get? b = none := by
  cases q : (newBase h n base fr).get? b with
  | none => rfl
  | some o =>
    have hlt := (newBase_of q).2
    have : b ∈ (List.range n).filter fun b => (base.get? b).isNone && !fr.contains b := by
      refine List.mem_filter.mpr ⟨List.mem_range.mpr hlt, ?_⟩
      rw [e, Bool.and_eq_true, Bool.not_eq_true', List.contains_eq_mem, decide_eq_false_iff_not]
      exact ⟨rfl, hk⟩
    have := hideAll_none (h := cutAt h n) _ this
    unfold newBase at q
    rw [this] at q; cases q
theorem newBase_size {h base : Heap} {n : Nat} {fr : List Addr} : (newBase h n base fr).objs.size ≤ n := by
  unfold newBase
  rw [hideAll_size]
  show (h.objs.extract 0 n).size ≤ n
  rw [Array.size_extract]; omega
theorem rebase {A₀ : Around} {base h₀ h h' : Heap} {outer : List Env} {L : Addr} {m : Str → Option Value} {news : List (Addr × Obj)}
    (B : Below A₀ base outer h₀) (F : Fr h₀ L h m) (U : h.UpToSlots h') (st : base.StaysIn h') (hn : ∀ p ∈ news, h'.get? p.1 = some p.2 ∧ p.1 ≠ L ∧ h₀.get? p.1 = none) :
    ∃ h₁, Below A₀ base outer h₁ ∧ Fr h₁ L h' m ∧ News h₁ L h' news ∧ base.StaysIn h₁ ∧ (∀ a m', h₀.Ns a m' → a ∈ outer.filterMap (·.frame) → h₁.Ns a m') ∧ ∀ b, h₀.get? b = none → h₁.get? b = none := by
  have lt : ∀ b o, h₀.get? b = some o → b < L := fun b o e => Nat.lt_of_lt_of_le (Heap.lt_size e) F.above
  have fr : ∀ b o, b ∈ outer.filterMap (·.frame) → h₀.get? b = some o → (∀ vs, o.data ≠ .fields vs) → ∃ sl, (newBase h' L base (outer.filterMap (·.frame))).get? b = some { o with slots := sl } := fun b o hb e hd => by
    obtain ⟨sl, e'⟩ := U b o (F.keep b o e) hd
    exact ⟨sl, newBase_get e' (lt b o e) (.inr hb)⟩
  have st1 : base.StaysIn (newBase h' L base (outer.filterMap (·.frame))) := fun b o e => newBase_get (st b o e) (lt b o (B.stays b o e)) (.inl ⟨o, e⟩)
  have no : ∀ b, h₀.get? b = none → (newBase h' L base (outer.filterMap (·.frame))).get? b = none := fun b e => newBase_none (fresh_of_stays B.stays e) fun hm => by
    obtain ⟨o, ho, _⟩ := (B.frames.mem hm).2
    rw [e] at ho; cases ho
  generalize hg : newBase h' L base (outer.filterMap (·.frame)) = g₁ at fr st1 no
  have up : ∀ b o, g₁.get? b = some o → h'.get? b = some o := fun b o e => (newBase_of (hg ▸ e)).1
  have sz : g₁.objs.size ≤ L := hg ▸ newBase_size
  clear hg
  refine ⟨g₁, ⟨B.stack, st1, ?_⟩, ⟨U.ns F.ns, up, sz⟩, fun p hp => ⟨(hn p hp).1, (hn p hp).2.1, no _ (hn p hp).2.2⟩, st1, fun a m' hN ha => ?_, no⟩
  · suffices H : ∀ l : List Env, h₀.FunFrames base l → (∀ b ∈ l.filterMap (·.frame), b ∈ outer.filterMap (·.frame)) → g₁.FunFrames base l from H outer B.frames fun _ h => h
    intro l hl hs
    induction l with
    | nil => trivial
    | cons env r ih =>
      obtain ⟨hk, ⟨L₁, o, hf, hn', ho, hd⟩, hr⟩ := hl
      have hin : L₁ ∈ outer.filterMap (·.frame) := hs L₁ (by rw [List.filterMap_cons, hf]; exact .head _)
      obtain ⟨sl, e'⟩ := fr L₁ o hin ho hd
      exact ⟨hk, ⟨L₁, _, hf, hn', e', hd⟩, ih hr fun b hb => hs b (by rw [List.filterMap_cons, hf]; exact .tail _ hb)⟩
  · obtain ⟨o, es, ep, ho, hd, r⟩ := hN
    obtain ⟨sl, e'⟩ := fr a o ha ho fun vs q => by rw [hd] at q; cases q
    exact ⟨_, es, ep, e', hd, r⟩
section
variable {prog : Program} {w : World} {A₀ A : Around} {s : Shared} {base h₀ : Heap} {outer : List Env} {L : Addr} {m mg mb : Str → Option Value} {env : Env} {news : List (Addr × Obj)} {K : Frag}
  {R : Result → Shared → Prop} {name qual : Str} {params : Arguments} {body : List Stmt} {scope : Scope} {dV kV doc pm cdv ct oc : Value} {an od : Option Addr} {osl : Array (Option Value)} {f : Addr} {args : Args} {binds : List (Str × Value)} {p : Program} {loose : List Str} {mean : ExcName → Option Value}
inductive Ground (A : Around) (base h₀ : Heap) (all : List Env) (L : Addr) (m : Str → Option Value) (news : List (Addr × Obj)) (h g : Heap) : Prop
  | mk (frame : Fr h₀ L g m) (below : Below A base all g) (stays : h₀.StaysIn g) (bare : ∀ b, h.get? b = none → g.get? b = none) (into : ∀ h₁ m', h₁.Ns h.objs.size m' → h.StaysIn h₁ → Fr g h.objs.size h₁ m' ∧ News g h.objs.size h₁ news) : Ground A base h₀ all L m news h g
theorem ground (B : Below A₀ base outer h₀) (F : Fr h₀ L s.heap m) (N : News h₀ L s.heap news) (hA : A.frames = some (env :: outer)) (hf : env.frame = some L) (hke : env.scope.kind = .function) : ∃ g, Ground A base h₀ (env :: outer) L m news s.heap g := by
  obtain ⟨a, b, c, _⟩ := groundX (R := fun _ _ => True) B F N hA hf hke
  refine ⟨_, a, b, c, fun x e => ?_, fun h₁ m' hn hk => ⟨⟨hn, fun x o e => hk x o (of_hideAll _ e), Nat.le_of_eq (hideAll_size _ _)⟩, fun p hp => ?_⟩⟩
  · cases q : Heap.get? (hideAll s.heap (news.map (·.1))) x with
    | none => rfl
    | some o => rw [of_hideAll _ q] at e; cases e
  · have lt := Heap.lt_size (N p hp).1
    exact ⟨hk _ _ (N p hp).1, Nat.ne_of_lt lt, hideAll_none _ (List.mem_map.mpr ⟨p, hp, rfl⟩)⟩
theorem code_defT (B : Below A₀ base outer h₀) (F : Fr h₀ L s.heap m) (X₀ : K.In h₀) (N : News h₀ L s.heap news) (T : Top p loose mean mg mb h₀) (hA : A.frames = some (env :: outer)) (hf : env.frame = some L) (hke : env.scope.kind = .function)
    (ho : K.lookup f = some ⟨oc, od, .func (fnOf name qual params body scope dV kV doc pm an cdv ct), osl⟩) (hcd : codeIn K cdv qual = true) (hroom : A.depth < recursionLimit)
    (hbind : BindsTo s (fnOf name qual params body scope dV kV doc pm an cdv ct) args binds) (hloc : ∀ y ∈ binds, scope.names.lookup y.1 = some .local)
    (h : ∀ g L' h₁, Fr h₀ L g m → Fr g L' h₁ (fun y => binds.reverse.lookup y) → News g L' h₁ news → Below A base (env :: outer) g → K.In g → Top p loose mean mg mb g → s.heap.StaysIn h₁ →
      wpAny (model prog w) (A.deeper (envOf qual scope L' f cdv)) (execs body (envOf qual scope L' f cdv))
        (fun fl s' => R (.ok (.ret (match fl with | .ret v => v | _ => .none))) s')
        (fun e s' => wpAny (model prog w) (A.deeper (envOf qual scope L' f cdv)) (leaving (envOf qual scope L' f cdv) e) (fun _ s'' => R (.error e) s'') (fun e' s'' => R (.error e') s'') s')
        { s with heap := h₁, toks := s.toks + binds.length })
    (hco : scope.isCoroutine = false) (hgen : scope.isGenerator = false) (hk : scope.kind = .function)
    (hcell : ∀ x ∈ scope.names, x.2 ≠ .cell) : codeAny (model prog w) A (.call (.ref f) args) R s := by
  obtain ⟨g, ⟨gF, gB, gS, _, gI⟩⟩ := ground (A := A) B F N hA hf hke
  have X := X₀.keeps F.keep
  refine codeAny_call_def (fd := fnOf name qual params body scope dV kV doc pm an cdv ct) (body := body) (binds := binds) hroom (X _ _ ho) rfl (T.nolimit.keeps F.keep) (codeRec_of X hcd) rfl hbind hcell hloc (fun h₁ hns hk₁ => ?_) hco hgen hk
  exact wpAny_mono (h g _ h₁ gF (gI h₁ _ hns hk₁).1 (gI h₁ _ hns hk₁).2 gB (X₀.keeps gS) (T.keeps gS) hk₁) (fun _ _ x => x) fun _ _ y => y
end
section
variable {prog : Program} {w : World} {A₀ : Around} {E : Value → Shared → Prop} {s' : Shared} {base h₀ h : Heap} {outer : List Env} {L a e : Addr} {m : Str → Option Value} {name : Str} {scope : Scope} {cd : Value}
  {b₀ : Stmt} {suite : List Stmt} {pos np : Pos} {rest : List ExceptHandler} {Q : Flow → Shared → Prop} {news : List (Addr × Obj)}
  {p : Program} {loose : List Str} {mean : ExcName → Option Value} {mg mb : Str → Option Value}
theorem caught_sheet2 (K : Below A₀ base outer h₀) (F : Fr h₀ L h m) (hsm : h.UpToSlots s'.heap) (R : RaisedN base (envOf name scope L a cd :: outer) e (.ref 70) news s'.heap) (hno : ∀ p ∈ news, p.1 ≠ L ∧ h₀.get? p.1 = none)
    (X : (Mine.hd.heap_1 w.params).In base) (T : Top p loose mean mg mb base)
    (k : ∀ h' g', Below A₀ base outer g' → Fr g' L h' m → News g' L h' news → (Mine.hd.heap_1 w.params).In g' → Top p loose mean mg mb g' → h.UpToSlots h' → base.StaysIn h' →
      wpAny (model prog w) ((A₀.deeper (envOf name scope L a cd)).mark (some (.ref e))) (execs (b₀ :: suite) (envOf name scope L a cd)) Q E { s' with heap := h' })
    (hk : autoParam (scope.kind = .function) aR) (hx : autoParam ((envOf name scope L a cd).kindOf (Str.ofString "SheetFault") = some .globalImplicit) aR)
    (hE : PassesOwnAt (model prog w) ((A₀.deeper (envOf name scope L a cd)).mark (some (.ref e))) (A₀.deeper (envOf name scope L a cd)) (envOf name scope L a cd) E := by passes_own) :
    wpAny (model prog w) (A₀.deeper (envOf name scope L a cd)) (noteFrame (.ref e) (envOf name scope L a cd))
      (fun _ s₂ => wpAny (model prog w) (A₀.deeper (envOf name scope L a cd)) (setFlight (.ref e) none) (fun _ s₃ =>
        wpAny (model prog w) (A₀.deeper (envOf name scope L a cd)) (handleBy (.ref e) (envOf name scope L a cd) (.ExceptHandler (some (.Name (Str.ofString "SheetFault") np)) none (b₀ :: suite) pos :: rest)) Q E s₃) E s₂) E s' := by
  obtain ⟨B, a0, hB, hl, hfl⟩ := R
  refine wpAny_looks_onW (Around.frames_deeper K.stack) rfl hfl fun h₄ hheld₄ hsm₄ => ?_
  refine wpAny_landsW hheld₄ fun h₅ hheld hsm₅' => ?_
  have hsm₅ := hsm.trans (hsm₄.trans hsm₅')
  have hheld' := flyingW_base hB hheld
  obtain ⟨g₅, _, F₅, _, st₅, _, _⟩ := rebase K F hsm₅ hheld'.1 (fun p hp => ⟨hheld.1 _ _ (hl p hp).1, hno p hp⟩)
  obtain ⟨ob, hob, hobc⟩ := hheld'.there
  refine wpAny_handleBy_cons (codeAny_handlers_test (name_K (v := .ref 70) F₅ (X.keeps st₅) (topRead_of (T.keeps st₅)) (by kernel_rfl) ?_ hk hx (by decide))) (by intro q; cases q)
  refine wpAny_excMatches_sub_self (sheet_in ((X.keeps st₅).keeps F₅.keep)) hob hobc (by decide +kernel) (codeAny_handlers_suite ?_)
  refine lands_againW hheld fun h₆ hfl₆ hsm₆ => ?_
  obtain ⟨g₆, B₆, F₆, N₆, st₆, _, _⟩ := rebase K F (hsm₅.trans hsm₆) (flyingW_base hB hfl₆).1 (fun p hp => ⟨hfl₆.1 _ _ (hl p hp).1, hno p hp⟩)
  exact wpAny_passesOwnAt hE (k h₆ g₆ B₆ F₆ N₆ (X.keeps st₆) (T.keeps st₆) (hsm₅.trans hsm₆) (flyingW_base hB hfl₆).1)
end
end
section
open PySem PySem.W PyProof.Rows
noncomputable abbrev names3 : List Str := [Str.ofString "a", Str.ofString "b c", Str.ofString "x.y"]
noncomputable abbrev besides : List Str := [Str.ofString "", Str.ofString "red", Str.ofString "#12"]
noncomputable abbrev gaps : List Str := [Str.ofString "", Str.ofString " "]
noncomputable abbrev quotes : List Str := [Str.ofString "", Str.ofString "'", Str.ofString "\""]
noncomputable abbrev blanks : List Str := [Str.ofString "", Str.ofString " ", Str.ofString "\n"]
noncomputable def aftP (b : Str) : Str := if (b != Str.ofString "") = true then Str.ofString " " ++ b else Str.ofString ""
noncomputable def cutFine (x : Str) (o : Option Str) (r : Str) : Bool :=
  cutP x == (o, r) && ((Txt.slice (Txt.strip x) none (some 4) != Str.ofString "url(") || (Txt.find (Txt.strip x) (Str.ofString ")") + 1 != 0)) && decide (x.length < 1000) && (PyData.strOk r && o.all PyData.strOk)
theorem cut_a : (blanks.all fun bl => besides.all fun b => cutFine (bl ++ b ++ bl) none b) = true := by decide +kernel
noncomputable def fineS (s : Str) (o : Option Str) (r : Str) : Bool :=
  (if (Txt.slice s none (some 4) != Str.ofString "url(") = true then (none, s) else (idP (Txt.slice s none (some (Txt.find s (Str.ofString ")") + 1))), Txt.strip (Txt.slice s (some (Txt.find s (Str.ofString ")") + 1)) none))) == (o, r) &&
    ((Txt.slice s none (some 4) != Str.ofString "url(") || (Txt.find s (Str.ofString ")") + 1 != 0)) && (PyData.strOk r && o.all PyData.strOk)
theorem fine_of {x X : Str} {o : Option Str} {r : Str} (hs : Txt.strip x = X) (hl : x.length < 1000) (h : fineS X o r = true) : cutFine x o r = true := by
  unfold fineS at h
  unfold cutFine cutP cutE
  rw [hs]
  simp only [Bool.and_eq_true, decide_eq_true_eq] at h ⊢
  exact ⟨⟨h.1, hl⟩, h.2⟩
theorem cut_b : (besides.all fun b => names3.all fun n => gaps.all fun g => quotes.all fun q =>
   fineS (Str.ofString "url(" ++ g ++ q ++ Str.ofString "#" ++ n ++ q ++ g ++ Str.ofString ")" ++ aftP b) (some n) b) = true := by decide +kernel
theorem cut_b' : (blanks.all fun bl => besides.all fun b => names3.all fun n => gaps.all fun g => quotes.all fun q =>
   Txt.strip (bl ++ (Str.ofString "url(" ++ g ++ q ++ Str.ofString "#" ++ n ++ q ++ g ++ Str.ofString ")" ++ aftP b) ++ bl) == (Str.ofString "url(" ++ g ++ q ++ Str.ofString "#" ++ n ++ q ++ g ++ Str.ofString ")" ++ aftP b) &&
   decide ((bl ++ (Str.ofString "url(" ++ g ++ q ++ Str.ofString "#" ++ n ++ q ++ g ++ Str.ofString ")" ++ aftP b) ++ bl).length < 1000)) = true := by decide +kernel
theorem cut_c : (blanks.all fun bl => besides.all fun b => names3.all fun n =>
   cutFine (bl ++ (Str.ofString "url(" ++ n ++ Str.ofString ")" ++ aftP b) ++ bl) none b) = true := by decide +kernel
theorem cut_d : (blanks.all fun bl => besides.all fun b => names3.all fun n =>
   cutFine (bl ++ (Str.ofString "URL(#" ++ n ++ Str.ofString ")" ++ aftP b) ++ bl) none (Str.ofString "URL(#" ++ n ++ Str.ofString ")" ++ aftP b)) = true := by decide +kernel
theorem cut_e : (besides.all fun b => names3.all fun n => (Txt.slice (Txt.strip (Str.ofString "url(#" ++ n ++ aftP b)) none (some 4) == Str.ofString "url(") && (Txt.find (Txt.strip (Str.ofString "url(#" ++ n ++ aftP b)) (Str.ofString ")") == -1)) = true := by decide +kernel
def TextFine (X : Str) (o : Option Str) (r : Str) : Prop := X.length < 900 ∧ ∀ bl ∈ blanks, cutFine (bl ++ X ++ bl) o r = true
theorem text_ok {X : Str} {o : Option Str} {r : Str} (h : TextFine X o r) : PyData.strOk r = true ∧ o.all PyData.strOk = true := by
  have := h.2 (Str.ofString "") (by simp)
  unfold cutFine at this; simp only [Bool.and_eq_true] at this; exact this.2
theorem len_of {s : Str} {ss : List Str} (h : s ∈ ss) (hl : (ss.all fun x => decide (x.length ≤ 20)) = true) : s.length ≤ 20 := of_decide_eq_true (List.all_eq_true.mp hl s h)
theorem aft_len {b : Str} (h : b ∈ besides) : (aftP b).length ≤ 20 := by
  simp only [besides, List.mem_cons, List.not_mem_nil, or_false] at h
  rcases h with rfl | rfl | rfl <;> decide +kernel
theorem fine_len {x : Str} {o : Option Str} {r : Str} (h : cutFine x o r = true) : x.length < 1000 := by
  unfold cutFine at h; simp only [Bool.and_eq_true, decide_eq_true_eq] at h; exact h.1.2
theorem fine_ok {x : Str} {o : Option Str} {r : Str} (h : cutFine x o r = true) : (Txt.slice (Txt.strip x) none (some 4) != Str.ofString "url(") = true ∨ Txt.find (Txt.strip x) (Str.ofString ")") + 1 ≠ 0 := by
  unfold cutFine at h; simp only [Bool.and_eq_true, Bool.or_eq_true] at h
  exact h.1.1.2.imp id fun q => by simpa using q
theorem fine_eq {x : Str} {o : Option Str} {r : Str} (h : cutFine x o r = true) : cutP x = (o, r) := by
  unfold cutFine at h; simp only [Bool.and_eq_true] at h; exact eq_of_beq h.1.1.1
theorem cut_A {b : Str} (h : b ∈ besides) : ∀ bl ∈ blanks, cutFine (bl ++ b ++ bl) none b = true := fun bl hb =>
  List.all_eq_true.mp (List.all_eq_true.mp cut_a bl hb) b h
theorem cut_B {b n g q : Str} (h : b ∈ besides) (hn : n ∈ names3) (hg : g ∈ gaps) (hq : q ∈ quotes) : ∀ bl ∈ blanks, cutFine (bl ++ (Str.ofString "url(" ++ g ++ q ++ Str.ofString "#" ++ n ++ q ++ g ++ Str.ofString ")" ++ aftP b) ++ bl) (some n) b = true := fun bl hb =>
  have h1 := List.all_eq_true.mp (List.all_eq_true.mp (List.all_eq_true.mp (List.all_eq_true.mp (List.all_eq_true.mp cut_b' bl hb) b h) n hn) g hg) q hq
  have h2 := List.all_eq_true.mp (List.all_eq_true.mp (List.all_eq_true.mp (List.all_eq_true.mp cut_b b h) n hn) g hg) q hq
  fine_of (eq_of_beq (Bool.and_eq_true_iff.mp h1).1) (of_decide_eq_true (Bool.and_eq_true_iff.mp h1).2) h2
theorem cut_C {b n : Str} (h : b ∈ besides) (hn : n ∈ names3) : ∀ bl ∈ blanks, cutFine (bl ++ (Str.ofString "url(" ++ n ++ Str.ofString ")" ++ aftP b) ++ bl) none b = true := fun bl hb =>
  List.all_eq_true.mp (List.all_eq_true.mp (List.all_eq_true.mp cut_c bl hb) b h) n hn
theorem cut_D {b n : Str} (h : b ∈ besides) (hn : n ∈ names3) : ∀ bl ∈ blanks, cutFine (bl ++ (Str.ofString "URL(#" ++ n ++ Str.ofString ")" ++ aftP b) ++ bl) none (Str.ofString "URL(#" ++ n ++ Str.ofString ")" ++ aftP b) = true := fun bl hb =>
  List.all_eq_true.mp (List.all_eq_true.mp (List.all_eq_true.mp cut_d bl hb) b h) n hn
theorem cut_E {b n : Str} (h : b ∈ besides) (hn : n ∈ names3) : (Txt.slice (Txt.strip (Str.ofString "url(#" ++ n ++ aftP b)) none (some 4) != Str.ofString "url(") = false ∧ Txt.find (Txt.strip (Str.ofString "url(#" ++ n ++ aftP b)) (Str.ofString ")") = -1 := by
  have := List.all_eq_true.mp (List.all_eq_true.mp cut_e b h) n hn
  simp only [Bool.and_eq_true, beq_iff_eq] at this
  exact ⟨by rw [this.1]; decide, this.2⟩
theorem ite_posB {b : Bool} {A B : Prop} (h : b = true) (k : A) : if b = true then A else B := by rw [if_pos h]; exact k
theorem ite_negB {b : Bool} {A B : Prop} (h : b = false) (k : B) : if b = true then A else B := by rw [if_neg (by rw [h]; decide)]; exact k
end
section
open PySem PySem.W PyProof.Rows PyProof.V PySem.Spec
theorem cl_at {w : World} {d u : Nat} {f : Addr} {vs : List Value} {news : List (Addr × Obj)} {R : Value → List (Addr × Obj) → Prop}
    {loose : List Str} {mean : ExcName → Option Value} {mg mb : Str → Option Value} {dp un : Nat} {gd : Option (List Code)} {cn : Str} {cs : Scope} {a : Addr} {ccd : Value} {cl : List (Str × Addr)} {outer : List Env} {A₀ : Around} {base h₀ : Heap} {L : Addr} {m : Str → Option Value} {s : Shared} {Q E : Value → Shared → Prop}
    (B : Below A₀ base outer h₀) (F : Fr h₀ L s.heap m) (X : (Mine.hd.heap_1 w.params).In h₀) (N : News h₀ L s.heap news) (T : Top topProg loose mean mg mb h₀) (hk : cs.kind = .function) (C : Cl w d u f vs news R) (hd : dp + d < recursionLimit) (hu : un + u < cLine)
    (ret : ∀ v nw h' tk', R v nw → Fr h₀ L h' m → News h₀ L h' nw → Q v { s with heap := h', toks := tk' }) :
    wpAny (model PySem.Challenge.rw_xm0694_01.row.prog w) (ktrTop dp un gd cn cs L a ccd cl outer) (call (.ref f) vs) Q E s :=
  C _ _ _ _ _ _ _ _ _ _ _ _ _ _ _ _ _ _ _ _ _ B F X N T hk hd hu ret
theorem cx_at {w : World} {d u : Nat} {f : Addr} {vs : List Value} {news : List (Addr × Obj)}
    {loose : List Str} {mean : ExcName → Option Value} {mg mb : Str → Option Value} {dp un : Nat} {gd : Option (List Code)} {cn : Str} {cs : Scope} {a : Addr} {ccd : Value} {cl : List (Str × Addr)} {outer : List Env} {A₀ : Around} {base h₀ : Heap} {L : Addr} {m : Str → Option Value} {s : Shared} {Q E : Value → Shared → Prop}
    (B : Below A₀ base outer h₀) (F : Fr h₀ L s.heap m) (X : (Mine.hd.heap_1 w.params).In h₀) (N : News h₀ L s.heap news) (T : Top topProg loose mean mg mb h₀) (hk : cs.kind = .function) (C : Cx w d u f vs news) (hd : dp + d < recursionLimit) (hu : un + u < cLine)
    (ret : ∀ x g h' tk', RaisedN base (envX cn cs L a ccd cl :: outer) x (.ref 70) news h' → Fr h₀ L g m → g.UpToSlots h' → E (.ref x) { s with heap := h', toks := tk' }) :
    wpAny (model PySem.Challenge.rw_xm0694_01.row.prog w) (ktrTop dp un gd cn cs L a ccd cl outer) (call (.ref f) vs) Q E s :=
  C _ _ _ _ _ _ _ _ _ _ _ _ _ _ _ _ _ _ _ _ _ B F X N T hk hd hu ret
theorem allLt_trans {t x : Addr} (h : @LT.lt Nat _ t x) {news : List (Addr × Obj)} (H : AllLt t news) : AllLt x news := by
  induction news with
  | nil => trivial
  | cons p r ih =>
    have h1 : @LT.lt Nat _ p.1 t := H.1
    exact And.intro (Nat.lt_trans h1 h) (ih H.2)
theorem allLt_ne {x : Addr} {news : List (Addr × Obj)} (H : AllLt x news) : ∀ p ∈ news, p.1 ≠ x := by
  induction news with
  | nil => intro p hp; cases hp
  | cons q r ih =>
    intro p hp
    have h1 : @LT.lt Nat _ q.1 x := H.1
    k_extra "rm"
    · exact Nat.ne_of_lt h1
    · exact ih H.2 p hp
theorem sheet_at {w : World} {news : List (Addr × Obj)} {msg : Str} {tk : Tok} : Cl w 30 160 70 [.str msg tk] news (fun v nw => ∃ x t d, v = .ref x ∧ nw = (x, excObjD 70 t d) :: (t, tup [.str msg tk] 0) :: news ∧ AllLt t news ∧ AllLt x news ∧ t < x) :=
  cl_mono sheet_new fun v nw r => by obtain ⟨x, t, d, h1, h2, h3, h4⟩ := r; exact ⟨x, t, d, h1, h2, h3, allLt_trans h4 h3, h4⟩
theorem leave_sheet1 {M : Model} {A : Around} {E : Value → Shared → Prop} {s' : Shared} {base g : Heap} {outer : List Env} {L a x t d : Addr} {m : Str → Option Value} {name : Str} {scope : Scope} {cd : Value} {Q : Unit → Shared → Prop} {news : List (Addr × Obj)} {tp : Obj}
    (K : Below A base outer g) (F : Fr g L s'.heap m) (N : News g L s'.heap ((x, excObjD 70 t d) :: (t, tp) :: news)) (hx : AllLt x news)
    (hQ : ∀ h', RaisedN base outer x (.ref 70) news h' → g.UpToSlots h' → Q () { s' with heap := h' }) (hk : autoParam (scope.kind = .function) aR) :
    wpAny M (A.deeper (envOf name scope L a cd)) (leaving (envOf name scope L a cd) (.ref x)) Q E s' :=
  leave_sheet K F N (.head _) (fun p hp => ⟨.tail _ (.tail _ hp), allLt_ne hx p hp⟩) hQ hk
theorem raisedN_drop {base : Heap} {l : List Env} {e : Addr} {cls : Value} {news news' : List (Addr × Obj)} {h : Heap} (R : RaisedN base l e cls news' h) (hs : ∀ p ∈ news, p ∈ news') : RaisedN base l e cls news h := by
  obtain ⟨B, a0, h1, h2, h3⟩ := R
  exact ⟨B, a0, h1, fun q hq => h2 q (hs q hq), h3⟩
section
theorem cut_raise {w : World} {news : List (Addr × Obj)} {x : Str} {t : Tok} (hx : x.length < 1000) (h1 : (Txt.slice (Txt.strip x) none (some 4) != Str.ofString "url(") = false) (h2 : (Txt.find (Txt.strip x) (Str.ofString ")") + 1 == 0) = true) (h3 : Txt.find (Txt.strip x) (Str.ofString ")") + 1 = 0) :
    Cx w 60 320 393 [.str x t] news := by
  (k_with "call ref" => (k_here; k_dflt (refine' cl_at (by k_asm) (by k_asm) (by k_asm) (by k_asm) (by k_asm) (by walk_at "kK9") (by walk_at "S9") (by walk_at "kd9") (by walk_at "kd9") ?_); (intro v9 nw9 h9 tk9 R9 F9 N9); (try dsimp only at R9); (repeat ((with_reducible refine Exists.elim R9 ?_); clear R9; intro x9 R9)); (obtain ⟨e9, n9, R9⟩ := R9); (subst e9); (subst n9); (repeat (with_reducible (have q9 := And.left R9; replace R9 := And.right R9); (try simp only [AllLt, and_true] at q9))); (try dsimp only at N9); walk_at "T9"))
  (k_with "exec Raise some none" => (k_here; (with_reducible show wpAny _ _ (exec (Stmt.Raise (some (Expr.Call _ (_ :: _) [] _)) none _) _) _ _ _); k_dflt (refine' raise_sheet (w := by assumption) ?h9 ?_; (case h9 => rfl))))
  (k_with "RaisableS" => (refine' raisableS ?F9 ?X9 ?N9 ?m9 ?_; (case F9 => k_asm); (case X9 => k_asm); (case N9 => k_asm); (case m9 => k_mem)))
  (k_with "leaving ref" => (k_here; k_dflt (refine' leave_sheet1 ?K9 ?F9 ?N9 ?n9 ?_; (case K9 => assumption); (case F9 => k_asm); (case N9 => k_asm); (case n9 => walk_at "al9"); k_whole); intro h9 R9 U9; (try dsimp only at R9 U9 ⊢)))
  (k_with "S9" => ((with_reducible show Cl _ _ _ 70 _ _ _); exact sheet_at))
  (k_with "ite" => (with_reducible first | refine ite_negB (by assumption) ?_ | refine ite_posB (by assumption) ?_ | refine ite_pos (by assumption) ?_))
  unfold Cx
  k_fill
  k_extra "il"
  refine wpAny_call ?_
  k_dflt cell_enter
  k_steps
  rename RaisedN _ _ _ _ _ _ => R99
  exact hret _ _ _ _ (raisedN_drop R99 (by kcj_all)) (by with_reducible assumption) (by with_reducible assumption)
end
theorem news_at {h₀ h : Heap} {L : Addr} {news : List (Addr × Obj)} (N : News h₀ L h news) : ∀ p ∈ news, p.1 ≠ L ∧ h₀.get? p.1 = none := fun p hp => (N p hp).2
section
theorem heard_raise {w : World} {d u : Nat} {f : Addr} {news : List (Addr × Obj)} {oc : Value} {od : Option Addr} {fd : FuncData} {sl : Array (Option Value)} (hf : (f, (⟨oc, od, .func fd, sl⟩ : Obj)) ∈ news) (C : Cx w d u f [] news) (hd0 : d < 500) (hu0 : u < 4000) :
    ∀ (loose : List Str) (mean : ExcName → Option Value) (mg mb : Str → Option Value) (dp un : Nat) (gd : Option (List Code)) (cn : Str) (cs : Scope) (a : Addr) (ccd : Value) (cl : List (Str × Addr)) (outer : List Env) (A₀ : Around) (base h₀ : Heap) (L : Addr) (m : Str → Option Value) (s : Shared) (Q E : Value → Shared → Prop)
    (XB : (Mine.hd.heap_1 w.params).In base) (TB : Top topProg loose mean mg mb base) (B : Below A₀ base outer h₀) (F : Fr h₀ L s.heap m) (X : (Mine.hd.heap_1 w.params).In h₀) (N : News h₀ L s.heap news) (T : Top topProg loose mean mg mb h₀) (hk : cs.kind = .function) (hd : dp + (d + 20) < recursionLimit) (hu : un + (u + 160) < cLine)
    (hret : ∀ g' t h' tk', Below A₀ base outer g' → Fr g' L h' m → News g' L h' news → (Mine.hd.heap_1 w.params).In g' → Top topProg loose mean mg mb g' → base.StaysIn g' → (∀ a m', h₀.Ns a m' → a ∈ outer.filterMap (·.frame) → g'.Ns a m') →
      Q (.str (Str.ofString "refused") t) { s with heap := h', toks := tk' }),
    wpAny (model PySem.Challenge.rw_xm0694_01.row.prog w) (ktrTop dp un gd cn cs L a ccd cl outer) (call (.ref 511) [.ref f]) Q E s := by
  (k_with "call ref" => (k_here; k_dflt (refine' cl_at (by k_asm) (by k_asm) (by k_asm) (by k_asm) (by k_asm) (by walk_at "kK9") (by walk_at "S9") (by walk_at "kd9") (by walk_at "kd9") ?_); (intro v9 nw9 h9 tk9 R9 F9 N9); (try dsimp only at R9); (repeat ((with_reducible refine Exists.elim R9 ?_); clear R9; intro x9 R9)); (obtain ⟨e9, n9, R9⟩ := R9); (subst e9); (subst n9); (repeat (with_reducible (have q9 := And.left R9; replace R9 := And.right R9); (try simp only [AllLt, and_true] at q9))); (try dsimp only at N9); walk_at "T9"))
  (k_with "call ref" => (k_here; k_dflt (refine' cx_at (by k_asm) (by k_asm) (by k_asm) (by k_asm) (by k_asm) (by walk_at "kK9") (by walk_at "X9") (by walk_at "kd9") (by walk_at "kd9") ?_); (intro x9 g9 h9 tk9 R9 G9 U9); (try dsimp only at R9 U9); (try dsimp only); (try k_fold)))
  (k_with "callWith ref" => (k_here; k_dflt (refine' callWith_F0 (FnAt.of (by k_asm) (by with_reducible assumption)) ?_); (try dsimp only [List.nil_append, List.cons_append])))
  (k_with "X9" => with_reducible assumption)
  (k_with "noteFrame ref" => (k_here; k_dflt (refine' caught_sheet2 ?K9 ?F9 ?U9 ?R9 ?n9 ?X9 ?T9 ?_; (case K9 => assumption); (case F9 => with_reducible assumption); (case U9 => assumption); (case R9 => k_dflt assumption); (case n9 => exact news_at (by with_reducible assumption)); (case X9 => with_reducible assumption); (case T9 => with_reducible assumption)); intro h9 g9 B9 F9 N9 X9 T9 U9 S9))
  k_fill
  intro loose mean mg mb dp un gd cn cs a ccd cl outer A₀ base h₀ L m s Q E XB TB B F X N T hk hd hu hret
  refine wpAny_call ?_
  k_dflt (refine' code_defT ?k1 ?k2 ?k3 ?k4 ?k5 ?kA ?kF ?kK ?k6 ?k7 ?k8 ?k9 ?kB ?_ ?c2 ?c3 ?c4 ?c5; (case kA => exact rfl); (case kF => exact rfl); (case kK => assumption); (case k1 => k_asm); (case k2 => k_asm); (case k3 => k_asm); (case k4 => k_asm); (case k5 => k_asm); (case k6 => k_is); (case k7 => k_is); (case k8 => ktr_room); (case k9 => exact BindsTo.of_eq rfl); (case c5 => decide); (case kB => exact locs rfl); (case c2 => exact rfl); (case c3 => exact rfl); (case c4 => exact rfl); k_whole; intro g' L' h' FG' F' N' B' X' T' S'; (try dsimp only); (try k_lift B'); (try k_fold))
  k_steps
  rename Heap.UpToSlots _ _ => U98
  rename base.StaysIn _ => S98
  rename News _ _ _ _ => N98
  have U97 : Heap.UpToSlots g' _ := (Heap.UpToSlots.of_keeps (Fr.keep (by assumption))).trans U98
  obtain ⟨g1, B1, F1, N1, S1, Z1, _⟩ := rebase B FG' U97 S98 (fun p hp => ⟨(N98 p hp).1, (N p hp).2⟩)
  exact hret g1 _ _ _ B1 F1 N1 (XB.keeps S1) (TB.keeps S1) S1 Z1
end
end
section
open PySem PySem.W PyProof.Rows PySem.Spec PySem.Calls
inductive LeaveS (h₀ : Heap) (L : Addr) (m : Str → Option Value) (R : Result → Shared → Prop) (v : Value) (s' : Shared) : Prop
  | mk (g' : _) (L' : _) (m' : _) (news' : _) (f0 : h₀.StaysIn g') (f1 : g'.Ns L m) (f2 : Fr g' L' s'.heap m') (f3 : News g' L' s'.heap news') (f4 : (Fr h₀ L s'.heap m → News h₀ L s'.heap news' → R (.ok (.ret v)) s')) : LeaveS h₀ L m R v s'
section
variable {prog : Program} {w : World} {A₀ A : Around} {s : Shared} {h₀ : Heap} {L : Addr} {m mg mb : Str → Option Value} {env : Env} {news : List (Addr × Obj)} {K : Frag}
  {R : Result → Shared → Prop} {name qual : Str} {params : Arguments} {body : List Stmt} {scope : Scope} {dV kV doc pm cdv ct oc : Value} {an od : Option Addr} {osl : Array (Option Value)} {f : Addr} {args : Args} {binds : List (Str × Value)} {p : Program} {loose : List Str} {mean : ExcName → Option Value}
theorem leaveS_ret (F : Fr h₀ L s.heap m) {v : Value} {s' : Shared} (hl : LeaveS h₀ L m R v s') : R (.ok (.ret v)) s' := by
  obtain ⟨g', L', m', news', st, hN, F', N', k⟩ := hl
  refine k ⟨hN.keeps F'.keep, fun b o e => F'.keep b o (st b o e), F.above⟩ fun p hp => ⟨(N' p hp).1, fun q => ?_, ?_⟩
  · obtain ⟨o, es, ep, e, _⟩ := hN
    have := (N' p hp).2.2
    rw [q, e] at this; cases this
  · exact fresh_of_stays st (N' p hp).2.2
theorem code_defS (B : Below A₀ h₀ [] h₀) (F : Fr h₀ L s.heap m) (X₀ : K.In h₀) (N : News h₀ L s.heap news) (T : Top p loose mean mg mb h₀) (hA : A.frames = some [env]) (hf : env.frame = some L) (hke : env.scope.kind = .function)
    (ho : K.lookup f = some ⟨oc, od, .func (fnOf name qual params body scope dV kV doc pm an cdv ct), osl⟩) (hcd : codeIn K cdv qual = true) (hroom : A.depth < recursionLimit)
    (hbind : BindsTo s (fnOf name qual params body scope dV kV doc pm an cdv ct) args binds) (hkind : (binds.all fun y => scope.names.lookup y.1 == some .local || scope.names.lookup y.1 == some .cell) = true)
    (hnd : ((cellsFrom 0 scope.names []).map (·.1)).Nodup)
    (h : ∀ g L' h₁ tk cells, Fr h₀ L g m → Fr g L' h₁ (bindL (envOfC qual scope L' f cdv).kindOf binds fun _ => none) → News g L' h₁ (cells ++ news) →
      CellsAre (bindC (envOfC qual scope L' f cdv).kindOf binds fun _ => none) (cellsFrom (L' + 1) scope.names []) cells → Below A h₀ [env] g → K.In g → Top p loose mean mg mb g → (∀ p ∈ news, p.1 < L') → h₀.StaysIn g →
      wpAny (model prog w) (A.deeper (envOfC qual scope L' f cdv)) (execs body (envOfC qual scope L' f cdv))
        (fun fl s' => LeaveS h₀ L m R (match fl with | .ret v => v | _ => .none) s')
        (fun e s' => wpAny (model prog w) (A.deeper (envOfC qual scope L' f cdv)) (leaving (envOfC qual scope L' f cdv) e) (fun _ s'' => R (.error e) s'') (fun e' s'' => R (.error e') s'') s')
        { s with heap := h₁, toks := tk })
    (hco : scope.isCoroutine = false) (hgen : scope.isGenerator = false) (hk : scope.kind = .function) : codeAny (model prog w) A (.call (.ref f) args) R s := by
  obtain ⟨g, ⟨gF, gB, gS, g0, gI⟩⟩ := ground (A := A) B F N hA hf hke
  have X := X₀.keeps F.keep
  refine codeAny_call_function hroom (X _ _ ho) rfl hco hgen rfl (codeRec_of X hcd) (hbind _ _ _ _ (wpAny_newFunctionEnv_cells hk (kindsX hkind _) ?_))
  rintro _ rfl s' x
  refine ⟨(T.nolimit.keeps F.keep).keeps x.toInCall.keep, codeAny_func ?_⟩
  obtain ⟨h₁, tk, rfl, _⟩ := x.done
  have names := fun n c hm => lookup_of_mem_nodup (n := n) (c := c) (cellsFrom_names scope.names 0 (s.heap.objs.size + 1) [] [] rfl ▸ hnd) hm
  obtain ⟨cells, NC, Y⟩ := PyProof.Rows.Cl.news (h₀ := s.heap) (Nat.le_refl _) fun n c hm => ⟨x.cell n c (names n c hm), x.above n c hm⟩
  obtain ⟨F₁, N₁⟩ := gI h₁ _ x.toInCall.ns x.toInCall.keep
  have both : News g s.heap.objs.size h₁ (cells ++ news) := fun p hp => (List.mem_append.mp hp).elim (fun q => ⟨(NC p q).1, (NC p q).2.1, g0 _ (NC p q).2.2⟩) (N₁ p)
  exact wpAny_mono (h g _ h₁ tk cells gF F₁ both Y gB (X₀.keeps gS) (T.keeps gS) (fun p hp => Heap.lt_size (N p hp).1) gS) (fun fl s' hl => leaveS_ret F hl) fun _ _ y => y
end
def Cb (w : World) (d u : Nat) (f : Addr) (vs : List Value) (news : List (Addr × Obj)) (R : Value → List (Addr × Obj) → Prop) : Prop :=
  ∀ (loose : List Str) (mean : ExcName → Option Value) (mg mb : Str → Option Value) (dp un : Nat) (gd : Option (List Code)) (cn : Str) (cs : Scope) (a : Addr) (ccd : Value) (cl : List (Str × Addr)) (A₀ : Around) (h₀ : Heap) (L : Addr) (m : Str → Option Value) (s : Shared) (Q E : Value → Shared → Prop),
    Below A₀ h₀ [] h₀ → Fr h₀ L s.heap m → (Mine.hd.heap_1 w.params).In h₀ → News h₀ L s.heap news → Top topProg loose mean mg mb h₀ → cs.kind = .function → dp + d < recursionLimit → un + u < cLine →
    (∀ v nw h' tk', R v nw → Fr h₀ L h' m → News h₀ L h' nw → Q v { s with heap := h', toks := tk' }) →
    wpAny (model PySem.Challenge.rw_xm0694_01.row.prog w) (ktrTop dp un gd cn cs L a ccd cl []) (call (.ref f) vs) Q E s
theorem cb_at {w : World} {d u : Nat} {f : Addr} {vs : List Value} {news : List (Addr × Obj)} {R : Value → List (Addr × Obj) → Prop}
    {loose : List Str} {mean : ExcName → Option Value} {mg mb : Str → Option Value} {dp un : Nat} {gd : Option (List Code)} {cn : Str} {cs : Scope} {a : Addr} {ccd : Value} {cl : List (Str × Addr)} {A₀ : Around} {h₀ : Heap} {L : Addr} {m : Str → Option Value} {s : Shared} {Q E : Value → Shared → Prop}
    (B : Below A₀ h₀ [] h₀) (F : Fr h₀ L s.heap m) (X : (Mine.hd.heap_1 w.params).In h₀) (N : News h₀ L s.heap news) (T : Top topProg loose mean mg mb h₀) (hk : cs.kind = .function) (C : Cb w d u f vs news R) (hd : dp + d < recursionLimit) (hu : un + u < cLine)
    (ret : ∀ v nw h' tk', R v nw → Fr h₀ L h' m → News h₀ L h' nw → Q v { s with heap := h', toks := tk' }) :
    wpAny (model PySem.Challenge.rw_xm0694_01.row.prog w) (ktrTop dp un gd cn cs L a ccd cl []) (call (.ref f) vs) Q E s :=
  C _ _ _ _ _ _ _ _ _ _ _ _ _ _ _ _ _ _ _ B F X N T hk hd hu ret
theorem cb_ret {h₀ g' : Heap} {L L' : Addr} {m m' : Str → Option Value} {R : Result → Shared → Prop} {v : Value} {s' : Shared} {news' nw : List (Addr × Obj)} (st : h₀.StaysIn g') (hN : g'.Ns L m) (F : Fr g' L' s'.heap m') (N : News g' L' s'.heap news') (hn : ∀ p ∈ nw, p ∈ news')
    (k : Fr h₀ L s'.heap m → News h₀ L s'.heap nw → R (.ok (.ret v)) s') : LeaveS h₀ L m R v s' := ⟨g', L', m', nw, st, hN, F, cb_drop N hn, k⟩
end
section
open PySem PySem.W PyProof.Rows PyProof.V PySem.Spec
theorem cl_weak {w : World} {d u : Nat} {f : Addr} {vs : List Value} {news : List (Addr × Obj)} {R R' : Value → List (Addr × Obj) → Prop} (C : Cl w d u f vs news R) (h : ∀ v nw, R v nw → ∃ nw', R' v nw' ∧ ∀ p ∈ nw', p ∈ nw) : Cl w d u f vs news R' := by
  k_extra "il"
  exact C _ _ _ _ _ _ _ _ _ _ _ _ _ _ _ _ _ _ _ _ _ B F X N T hk hd hu fun v nw h' tk' q F' N' =>
    let ⟨nw', q', hs⟩ := h v nw q; hret v nw' h' tk' q' F' (cb_drop N' hs)
section
theorem current_spec {w : World} {news : List (Addr × Obj)} {x : Str} {t : Tok} (hx : x.length ≤ 20) : Cl w 10 80 412 [.str x t] news (fun v nw => v = .bool (Txt.lower x == Str.ofString "currentcolor") ∧ nw = news ∧ True) := by
  (k_with "call ref" => (k_here; k_dflt (refine' cl_at (by k_asm) (by k_asm) (by k_asm) (by k_asm) (by k_asm) (by walk_at "kK9") (by walk_at "S9") (by walk_at "kd9") (by walk_at "kd9") ?_); (intro v9 nw9 h9 tk9 R9 F9 N9); (try dsimp only at R9); (repeat ((with_reducible refine Exists.elim R9 ?_); clear R9; intro x9 R9)); (obtain ⟨e9, n9, R9⟩ := R9); (subst e9); (subst n9); (repeat (with_reducible (have q9 := And.left R9; replace R9 := And.right R9); (try simp only [AllLt, and_true] at q9))); (try dsimp only at N9); walk_at "T9"))
  unfold Cl
  k_fill
  k_extra "il"
  refine wpAny_call ?_
  k_dflt cell_enter
  k_steps
  rename Fr _ _ _ _ => F99
  rename News _ _ _ _ => N99
  exact hret _ _ _ _ ⟨rfl, rfl, trivial⟩ F99 (cb_drop N99 (by kcj_all))
end
theorem fdiv_le_mul {n f : Int} (hf : 0 < f) : f * Int.fdiv n f ≤ n ∧ n < f * (Int.fdiv n f + 1) := by
  have h1 := Int.mul_fdiv_add_fmod n f
  have h2 := Int.fmod_nonneg_of_pos n hf
  have h3 := Int.fmod_lt_of_pos n hf
  rw [Int.mul_add]
  constructor <;> omega
theorem fdiv2 {s : Int} : 2 * Int.fdiv s 2 ≤ s ∧ s ≤ 2 * Int.fdiv s 2 + 1 := by
  have h1 := Int.mul_fdiv_add_fmod s 2
  have h2 := Int.fmod_nonneg_of_pos s (by decide : (0:Int) < 2)
  have h3 := Int.fmod_lt_of_pos s (by decide : (0:Int) < 2)
  constructor <;> omega
def RootI (n f l : Int) : Prop := 1 ≤ f ∧ f ≤ 2 * n ∧ n < (f + 1) * (f + 1) ∧ l = Int.fdiv (f + Int.fdiv n f) 2 ∧ 1 ≤ l ∧ l ≤ 2 * n ∧ n < (l + 1) * (l + 1)
theorem root_next {n f : Int} (hn : 1 ≤ n) (hf : 1 ≤ f) (h2 : f ≤ 2 * n) (h : n < (f + 1) * (f + 1)) : RootI n f (Int.fdiv (f + Int.fdiv n f) 2) := by
  have h0 : (0 : Int) < f := by omega
  obtain ⟨a1, a2⟩ := fdiv_le_mul (n := n) h0
  obtain ⟨b1, b2⟩ := fdiv2 (s := f + Int.fdiv n f)
  have q0 : 0 ≤ Int.fdiv n f := Int.fdiv_nonneg (by omega) (by omega)
  have qn : Int.fdiv n f ≤ n := by
    have := Int.mul_le_mul_of_nonneg_right hf q0
    omega
  generalize hq : Int.fdiv n f = q at *
  generalize hl : Int.fdiv (f + q) 2 = l at *
  have l1 : 1 ≤ l := by
    by_cases hl0 : 1 ≤ l
    · exact hl0
    · exfalso
      have : f = 1 := by omega
      subst this
      have : q = 0 := by omega
      subst this
      omega
  refine ⟨hf, h2, h, by rw [hq, hl], l1, ?_, ?_⟩
  · omega
  · have hs : f + (q + 1) ≤ 2 * (l + 1) := by omega
    have am : 4 * (f * (q + 1)) ≤ (f + (q + 1)) * (f + (q + 1)) := by
      have sq : 0 ≤ (f - (q + 1)) * (f - (q + 1)) := by
        rcases Int.le_total 0 (f - (q + 1)) with h | h
        · exact Int.mul_nonneg h h
        · exact Int.mul_nonneg_of_nonpos_of_nonpos h h
      have e : (f + (q + 1)) * (f + (q + 1)) = (f - (q + 1)) * (f - (q + 1)) + 4 * (f * (q + 1)) := by
        simp only [Int.sub_mul, Int.mul_sub, Int.add_mul, Int.mul_add, Int.mul_comm q f, Int.mul_one, Int.one_mul]
        omega
      omega
    have m2 : (f + (q + 1)) * (f + (q + 1)) ≤ (2 * (l + 1)) * (2 * (l + 1)) := Int.mul_le_mul hs hs (by omega) (by omega)
    have e2 : (2 * (l + 1)) * (2 * (l + 1)) = 4 * ((l + 1) * (l + 1)) := by
      rw [Int.mul_assoc, Int.mul_left_comm (l + 1) 2 (l + 1), ← Int.mul_assoc]; rfl
    omega
theorem root_turn {n f l : Int} (hn : 1 ≤ n) (h : RootI n f l) : RootI n l (Int.fdiv (l + Int.fdiv n l) 2) :=
  root_next hn h.2.2.2.2.1 h.2.2.2.2.2.1 h.2.2.2.2.2.2
theorem root_end {n f l : Int} (h : RootI n f l) (hl : f ≤ l) : 0 ≤ f ∧ f * f ≤ n ∧ n < (f + 1) * (f + 1) := by
  obtain ⟨h1, h2, h3, h4, _⟩ := h
  obtain ⟨a1, a2⟩ := fdiv_le_mul (n := n) (f := f) (by omega)
  obtain ⟨b1, b2⟩ := fdiv2 (s := f + Int.fdiv n f)
  have : f ≤ Int.fdiv n f := by omega
  have := Int.mul_le_mul_of_nonneg_left this (show (0 : Int) ≤ f by omega)
  exact ⟨by omega, by omega, h3⟩
def Stop8 (p : Prop) : Prop := p
theorem stop8 {p : Prop} (h : Stop8 p) : p := h
theorem stop8_ {p : Prop} (h : p) : Stop8 p := h
theorem le_sq {f n : Int} (h1 : 1 ≤ f) (h : f * f ≤ n) : f ≤ n := by
  have := Int.mul_le_mul_of_nonneg_left h1 (show (0 : Int) ≤ f by omega)
  omega
theorem dbl_turn {n f : Int} (hn : 1 ≤ n) (h1 : 1 ≤ f) (h : f * f ≤ n) : 1 ≤ n ∧ 1 ≤ f * 2 ∧ f * 2 ≤ 2 * n := by
  have := le_sq h1 h
  omega
theorem dbl_less {n f : Int} (h1 : 1 ≤ f) (h : f * f ≤ n) : (2 * n - f * 2).toNat < (2 * n - f).toNat := by
  have := le_sq h1 h
  omega
theorem root_less {n f l : Int} (h : RootI n f l) (hl : l < f) : l.toNat < f.toNat := by
  have := h.2.2.2.2.1
  omega
section
end
end
section
open PySem PySem.W PyProof.Rows PySem.Spec PySem.Calls
section
variable {prog : Program} {w : World} {A : Around} {E : Value → Shared → Prop} {s : Shared}
theorem cut_46 {sl : Addr} {u : Tok} {n : Nat} {Q : Int × Int × Nat → Shared → Prop} (hn : n = 6) (hs : s.heap.IsSliceOf sl .none (.int 4 u) .none) (h : Q (0, 1, 4) s) : wpAny (model prog w) A (Builtin.Slice.sliceApplied (.ref sl) (pure (n : Int))) Q E s := by
  subst hn
  obtain ⟨os, hos, hcs, hds⟩ := id hs
  have g0 : (#[.none, .int 4 u, .none] : Array Value)[0]? = some .none := rfl
  have g1 : (#[.none, .int 4 u, .none] : Array Value)[1]? = some (.int 4 u) := rfl
  have g2 : (#[.none, .int 4 u, .none] : Array Value)[2]? = some .none := rfl
  unfold Builtin.Slice.sliceApplied Builtin.Slice.sliceFields
  wp_walk using wpAny_field hos hds g0, wpAny_field hos hds g1, wpAny_field hos hds g2, slicePart_int, slicePart_none
  exact h
theorem go_46 {t sl : Addr} {x0 x1 x2 x3 x4 x5 : Value} {u : Tok} {Q : Value → Shared → Prop} (ht : IsTup s.heap t #[x0, x1, x2, x3, x4, x5]) (hs : s.heap.IsSliceOf sl .none (.int 4 u) .none)
    (h : Q (.ref s.heap.objs.size) { s with heap := s.heap.push (tup [x0, x1, x2, x3] 0) }) : wpAny (model prog w) A.in1 (Builtin.«tuple.__getitem__» ⟨[.ref t, .ref sl], []⟩) (fun fin s' => ∃ v, fin = .done (.ret v) ∧ Q v s') E s := by
  have hT : s.TypeIs (.ref sl) "slice" := let ⟨os, hos, hcs, _⟩ := hs; ⟨os, hos, hcs⟩
  have f2 : sizeOk (.seq #[x0, x1, x2, x3] 0) := by
      show (4 : Nat) ≤ sizeLine
      rw [sizeLine_eq]; exact Nat.le_of_ble_eq_true rfl
  have e6 : (#[x0, x1, x2, x3, x4, x5] : Array Value).size = 6 := rfl
  wp_walk using wpAny_typeOf hT, tupleItemsOf_ ht, cut_46 e6 hs
  exact ⟨_, rfl, h⟩
theorem getItem_46 {t sl : Addr} {x0 x1 x2 x3 x4 x5 : Value} {u : Tok} {Q : Value → Shared → Prop} (ht : IsTup s.heap t #[x0, x1, x2, x3, x4, x5]) (hs : s.heap.IsSliceOf sl .none (.int 4 u) .none)
    (h : Q (.ref s.heap.objs.size) { s with heap := s.heap.push (tup [x0, x1, x2, x3] 0) }) : wpAny (model prog w) A (getItem (.ref t) (.ref sl)) Q E s := by
  have hT := ht.typeIs
  have c : wpAny (model prog w) A (callSpecial? (.ref t) (Str.ofString "__getitem__") [.ref sl]) (fun r s' => ∃ v, r = some v ∧ Q v s') E s := wpAny_callSpecial?_slot hT slot_tuple_getitem (wpAny_call_entry slot_tuple_getitem hT entry_tuple_getitem (wpAny_mono (go_46 (A := A) (E := E) ht hs h) (fun _ _ ⟨v, e, q⟩ => ⟨v, e, v, rfl, q⟩) fun _ _ q => q) (args_tuple_getitem _ _))
  exact wpAny_holding (wpAny_bind (wpAny_sequenceKey hT (by decide) (wpAny_bind (wpAny_mono c (fun _ _ ⟨v, e, q⟩ => by subst e; exact wpAny_pure q) fun _ _ q => q))))
theorem slice_46 {h₀ : Heap} {L : Addr} {m : Str → Option Value} {news : List (Addr × Obj)} {value slice : Expr} {t : Addr} {x0 x1 x2 x3 x4 x5 : Value} {c : Nat} {u : Tok} {Q : Value → Shared → Prop}
    (F : Fr h₀ L s.heap m) (N : News h₀ L s.heap news) (hm : (t, tup [x0, x1, x2, x3, x4, x5] c) ∈ news)
    (h : ∀ D h', Fr h₀ L h' m → News h₀ L h' ((D, ({ cls := .type "tuple", data := .seq #[x0, x1, x2, x3] } : Obj)) :: news) → (∀ p ∈ news, p.1 < D) → Q (.ref D) { s with heap := h' })
    (hs : autoParam (subscripted slice false (.ref t) (.ref s.heap.objs.size) = operate [.ref s.heap.objs.size, .ref t] (getItem (.ref t) (.ref s.heap.objs.size))) aW)
    (hg : autoParam (∀ r, letTemporaryGo value (.ref t) r = pure ()) aY) :
    wpAny (model prog w) A (subscriptTail value slice (.ref t) (.ref s.heap.objs.size)) Q E { s with heap := s.heap.push { cls := .type "slice", data := .fields #[.none, .int 4 u, .none] } } := by
  have ht : IsTup s.heap t #[x0, x1, x2, x3, x4, x5] := News.isTup N hm
  have ht' : IsTup (s.heap.push { cls := .type "slice", data := .fields #[.none, .int 4 u, .none] }) t #[x0, x1, x2, x3, x4, x5] := ht.keeps fun _ _ e => Heap.get?_push_of_some _ e
  refine subscriptTail_ops (s := { s with heap := s.heap.push { cls := .type "slice", data := .fields #[.none, .int 4 u, .none] } }) ht'.typeIs slot_tuple_getitem.lookup
    (getItem_46 ht' (Heap.IsSliceOf.new ..) ?_) hs hg
  have N1 := News.push (F.push { cls := .type "slice", data := .fields #[.none, .int 4 u, .none] }) (N.grown fun _ _ e => Heap.get?_push_of_some _ e) (tup [x0, x1, x2, x3] 0)
  rw [Heap.size_push] at N1
  show Q (.ref (s.heap.push _).objs.size) _
  rw [Heap.size_push]
  exact h _ _ ((F.push _).push _) N1 fun p hp => Nat.lt_succ_of_lt (Heap.lt_size (N p hp).1)
end
theorem Bd_zero : Bd 1 0 1 := ⟨by decide, by decide, by decide⟩
theorem subL_of {l l' : List (Addr × Obj)} (h : ∀ p ∈ l, p ∈ l') : SubL l l' := by
  induction l with
  | nil => trivial
  | cons p r ih => exact ⟨h p (.head _), ih fun q hq => h q (.tail _ hq)⟩
theorem unrPostW_mono {h₀ : Heap} {L : Addr} {s₁ s₂ : Shared} {its : List (Addr × Obj)} {rest rest' : (Str → Option Value) → List (Addr × Obj) → Prop} {Q : Flow → Shared → Prop} {f : Flow} (h : ∀ m n, rest m n → rest' m n) (x : UnrPostW h₀ L s₁ its rest Q f s₂) : UnrPostW h₀ L s₁ its rest' Q f s₂ := by
  unfold UnrPostW at x ⊢
  cases f with
  | next => obtain ⟨h', tk, m', n', a1, a2, a3, a4, a5⟩ := x; exact ⟨h', tk, m', n', a1, a2, a3, a4, h _ _ a5⟩
  | cont => obtain ⟨h', tk, m', n', a1, a2, a3, a4, a5⟩ := x; exact ⟨h', tk, m', n', a1, a2, a3, a4, h _ _ a5⟩
  | brk => exact x
  | ret v => exact x
theorem allObj_mono {k k' : List (Addr × Obj) → Prop} (h : ∀ its, k its → k' its) : ∀ {ws : List (Addr × String)}, AllObj ws k → AllObj ws k'
  | [], x => h _ x
  | _ :: _, x => fun o ho => allObj_mono (fun its q => h _ q) (x o ho)
theorem items_inv {prog : Program} {w : World} {A : Around} {E : Value → Shared → Prop} {h₀ : Heap} {env : Env} {target : Expr} {body : List Stmt} {Q : Flow → Shared → Prop} {s : Shared} {ws : List (Addr × String)} {keep : List (Addr × Obj)} {α : Type} (itm : α → Itm)
    (P : List α → (Str → Option Value) → List (Addr × Obj) → Prop) :
    ∀ (post pre : List α) (m : Str → Option Value) (news : List (Addr × Obj)), P pre m news →
    (∀ (pre' : List α) (x : α) (post' : List α), pre ++ post = pre' ++ x :: post' → ∀ m news, P pre' m news → ∀ v h tk, (itm x).Is v h → Fr h₀ env.locals h m → AllObj ws (fun its => News h₀ env.locals h (its ++ news) →
      wpAny (model prog w) A (assign target env v) (fun _ s₂ => wpAny (model prog w) A (execs body env) (UnrPostW h₀ env.locals { s with heap := h, toks := tk } its (fun m' n' => SubL keep n' ∧ P (pre' ++ [x]) m' n') Q) E s₂) E { s with heap := h, toks := tk })) →
    (∀ m news, P (pre ++ post) m news → ∀ h tk, Fr h₀ env.locals h m → News h₀ env.locals h news → Q .next { s with heap := h, toks := tk }) →
    ItemsRest prog w A E h₀ env target body Q s ws keep (post.map itm) m news
  | [], pre, m, news, hP, _, done => by
    rw [List.append_nil] at done
    exact done m news hP
  | x :: r, pre, m, news, hP, turn, done => by
    intro v h tk hv F
    refine allObj_mono (fun its q N => ?_) (turn pre x r rfl m news hP v h tk hv F)
    refine wpAny_mono (q N) (fun _ s₂ z => wpAny_mono z (fun f s₃ y => unrPostW_mono (fun m' n' o => ⟨o.1, ?_⟩) y) fun _ _ y => y) fun _ _ y => y
    have e : pre ++ x :: r = (pre ++ [x]) ++ r := by simp
    exact items_inv itm P r (pre ++ [x]) m' n' o.2 (fun pre' x' post' h' => turn pre' x' post' (e.trans h')) (by rw [← e]; exact done)
theorem items_inv2 {prog : Program} {w : World} {A : Around} {E : Value → Shared → Prop} {h₀ : Heap} {env : Env} {target : Expr} {body : List Stmt} {Q : Flow → Shared → Prop} {s : Shared} {I : Addr} {cls : String} {keep : List (Addr × Obj)} {α : Type} (itm : α → Itm)
    (P : Addr → (Str → Option Value) → List (Addr × Obj) → List α → (Str → Option Value) → List (Addr × Obj) → Prop)
    (xs : List α) (m₀ : Str → Option Value) (L₀ : List (Addr × Obj)) (start : P I m₀ L₀ [] m₀ L₀)
    (turn : ∀ (pre : List α) (x : α) (post : List α), xs = pre ++ x :: post → ∀ m news, P I m₀ L₀ pre m news → ∀ v h tk o, (itm x).Is v h → Fr h₀ env.locals h m → o.cls = .type cls → News h₀ env.locals h ((I, o) :: news) →
      wpAny (model prog w) A (assign target env v) (fun _ s₂ => wpAny (model prog w) A (execs body env) (UnrPostW h₀ env.locals { s with heap := h, toks := tk } [(I, o)] (fun m' n' => SubL keep n' ∧ P I m₀ L₀ (pre ++ [x]) m' n') Q) E s₂) E { s with heap := h, toks := tk })
    (done : ∀ m news, P I m₀ L₀ xs m news → ∀ h tk, Fr h₀ env.locals h m → News h₀ env.locals h news → Q .next { s with heap := h, toks := tk }) :
    ItemsRest prog w A E h₀ env target body Q s [(I, cls)] keep (xs.map itm) m₀ L₀ :=
  items_inv itm (P I m₀ L₀) xs [] m₀ L₀ start (fun pre x post e m news hP v h tk hv F => AllObj.cons fun o ho => AllObj.nil fun N => turn pre x post e m news hP v h tk o hv F ho N) done
end
section
open PySem PySem.W PyProof.Rows PyProof.V PySem.Spec
theorem ne_opt {prog : Program} {w : World} {A : Around} {E : Value → Shared → Prop} {s : Shared} {Q : Value → Shared → Prop} {h₀ : Heap} {L D1 D2 : Addr} {news : List (Addr × Obj)} {v1 v2 : Value} {r : Str} {t1 t2 : Tok} {c1 c2 : Nat} {o : Option Str}
    (N : News h₀ L s.heap news) (m1 : (D1, tup [v1, .str r t1] c1) ∈ news) (m2 : (D2, tup [v2, .str r t2] c2) ∈ news) (q1 : OptV o v1) (q2 : OptV o v2) (hr : PyData.strOk r = true) (ho : o.all PyData.strOk = true) (hu : A.units + 64 < cLine) (h : Q (.bool false) s) :
    wpAny (model prog w) A (compareOp .NotEq (.ref D1) (.ref D2)) Q E s := by
  cases q1 with
  | none =>
    cases q2
    refine ne_dataH (reads_tuple_at (News.get N m1) rfl rfl (.cons .none (.cons (.str r t1) .nil))) (reads_tuple_at (News.get N m2) rfl rfl (.cons .none (.cons (.str r t2) .nil))) (by simp [SeqAt.shaped, PyData.canLay0, PyData.canLayAll0, PyData.depth, PyData.depthAll, hr]) (by simp [SeqAt.shaped, PyData.canLay0, PyData.canLayAll0, PyData.depth, PyData.depthAll, hr]) hu ?_
    rw [show PyData.eqv (.tuple [.none, .str r]) (.tuple [.none, .str r]) = true by simp [PyData.eqv, PyData.eqvAll]]
    exact h
  | some x t =>
    cases q2
    simp only [Option.all_some] at ho
    refine ne_dataH (reads_tuple_at (News.get N m1) rfl rfl (.cons (.str _ _) (.cons (.str r t1) .nil))) (reads_tuple_at (News.get N m2) rfl rfl (.cons (.str _ _) (.cons (.str r t2) .nil))) (by simp [SeqAt.shaped, PyData.canLay0, PyData.canLayAll0, PyData.depth, PyData.depthAll, hr, ho]) (by simp [SeqAt.shaped, PyData.canLay0, PyData.canLayAll0, PyData.depth, PyData.depthAll, hr, ho]) hu ?_
    rw [show PyData.eqv (.tuple [.str x, .str r]) (.tuple [.str x, .str r]) = true by simp [PyData.eqv, PyData.eqvAll]]
    exact h
theorem cut_E2 {b n : Str} (h : b ∈ besides) (hn : n ∈ names3) : (Txt.find (Txt.strip (Str.ofString "url(#" ++ n ++ aftP b)) (Str.ofString ")") + 1 == 0) = true := by rw [(cut_E h hn).2]; rfl
theorem cut_E3 {b n : Str} (h : b ∈ besides) (hn : n ∈ names3) : Txt.find (Txt.strip (Str.ofString "url(#" ++ n ++ aftP b)) (Str.ofString ")") + 1 = 0 := by rw [(cut_E h hn).2]; rfl
theorem aft_T {b : Str} (h : (b != Str.ofString "") = true) : aftP b = Str.ofString " " ++ b := by unfold aftP; rw [if_pos h]
theorem aft_F {b : Str} (h : (b != Str.ofString "") = false) : aftP b = Str.ofString "" := by unfold aftP; rw [if_neg (by rw [h]; decide)]
theorem text_A {b : Str} (h : b ∈ besides) : TextFine b none b := ⟨by have := len_of h (by decide +kernel); omega, cut_A h⟩
theorem sapp_len (x y : Str) : (x ++ y).length = x.length + y.length := PySem.strLen_append x y
theorem text_B {b n g q : Str} (h : b ∈ besides) (hn : n ∈ names3) (hg : g ∈ gaps) (hq : q ∈ quotes) : TextFine (Str.ofString "url(" ++ g ++ q ++ Str.ofString "#" ++ n ++ q ++ g ++ Str.ofString ")" ++ aftP b) (some n) b := by
  have h1 := aft_len h
  have h2 := len_of hn (by decide +kernel)
  have h3 := len_of hg (by decide +kernel)
  have h4 := len_of hq (by decide +kernel)
  have e1 : (Str.ofString "url(").length = 4 := by decide +kernel
  have e2 : (Str.ofString "#").length = 1 := by decide +kernel
  have e3 : (Str.ofString ")").length = 1 := by decide +kernel
  exact ⟨by simp only [sapp_len]; omega, cut_B h hn hg hq⟩
theorem text_C {b n : Str} (h : b ∈ besides) (hn : n ∈ names3) : TextFine (Str.ofString "url(" ++ n ++ Str.ofString ")" ++ aftP b) none b := by
  have h1 := aft_len h
  have h2 := len_of hn (by decide +kernel)
  have e1 : (Str.ofString "url(").length = 4 := by decide +kernel
  have e3 : (Str.ofString ")").length = 1 := by decide +kernel
  exact ⟨by simp only [sapp_len]; omega, cut_C h hn⟩
theorem text_D {b n : Str} (h : b ∈ besides) (hn : n ∈ names3) : TextFine (Str.ofString "URL(#" ++ n ++ Str.ofString ")" ++ aftP b) none (Str.ofString "URL(#" ++ n ++ Str.ofString ")" ++ aftP b) := by
  have h1 := aft_len h
  have h2 := len_of hn (by decide +kernel)
  have e1 : (Str.ofString "URL(#").length = 5 := by decide +kernel
  have e3 : (Str.ofString ")").length = 1 := by decide +kernel
  exact ⟨by simp only [sapp_len]; omega, cut_D h hn⟩
theorem cut_fine {w : World} {news : List (Addr × Obj)} {X bl r : Str} {o : Option Str} {t : Tok} (hP : TextFine X o r) (hb : bl ∈ blanks) : Cl w 20 160 393 [.str (bl ++ X ++ bl) t] news (CutR news (o, r)) := by
  have h := hP.2 bl hb
  have := cut_spec (w := w) (news := news) (t := t) (fine_len h) (fine_ok h)
  rw [fine_eq h] at this
  exact this
theorem left_up {M : Model} {A : Around} {E : Value → Shared → Prop} {s' : Shared} {base g : Heap} {env : Env} {outer : List Env} {L e : Addr} {Q : Unit → Shared → Prop} {news : List (Addr × Obj)} {cls : Value} (hA : A.frames = some (env :: outer)) (hf : env.frame = some L) (U : g.UpToSlots s'.heap) :
    RaisedN base (env :: outer) e cls news s'.heap → (∀ h', RaisedN base outer e cls news h' → g.UpToSlots h' → Q () { s' with heap := h' }) → wpAny M A (leaving env (.ref e)) Q E s'
  | ⟨B, a0, st, led, fl⟩, up => wpAny_leaves_onW hA hf fl fun h' x y => up h' ⟨B, a0, st, led, x⟩ (U.trans y)
theorem refused9 : (Str.ofString "refused" != Str.ofString "refused") = false := by decide +kernel
def Stop9 (p : Prop) : Prop := p
theorem stop9 {p : Prop} (h : Stop9 p) : p := h
theorem stop9_ {p : Prop} (h : p) : Stop9 p := h
theorem cut_raise2 {w : World} {news : List (Addr × Obj)} {b n : Str} {t : Tok} (hb : b ∈ besides) (hn : n ∈ names3) : Cx w 60 320 393 [.str (Str.ofString "url(#" ++ n ++ aftP b) t] news := by
  refine cut_raise ?_ (cut_E hb hn).1 (cut_E2 hb hn) (cut_E3 hb hn)
  have h1 := aft_len hb
  have h2 := len_of hn (by decide +kernel)
  have e1 : (Str.ofString "url(#").length = 5 := by decide +kernel
  simp only [sapp_len]; omega
theorem cut_fine2 {w : World} {news : List (Addr × Obj)} {X bl r : Str} {o : Option Str} {t : Tok} (hP : TextFine X o r) (hb : bl ∈ blanks) : Cl w 20 160 393 [.str (bl ++ X ++ bl) t] news (fun v nw => ∃ D v1 t c, v = .ref D ∧ nw = (D, tup [v1, .str r t] c) :: news ∧ AllLt D news ∧ OptV o v1) :=
  cl_mono (cut_fine hP hb) fun _ _ r => r
section
end
end
section
open PySem PySem.W PyProof.Rows PySem.Spec PySem.Calls
theorem compEnd_mono {h₀ : Heap} {L : Addr} {m : Str → Option Value} {s₁ s₂ : Shared} {I C D : Addr} {oI oC oD : Obj} {S : List (Addr × Obj) → Prop} {rest rest' : Value → List (Addr × Obj) → Prop} {y : Value} (h : ∀ y n, rest y n → rest' y n) (x : LCg.CompEnd h₀ L m s₁ I oI C oC D oD S rest y s₂) : LCg.CompEnd h₀ L m s₁ I oI C oC D oD S rest' y s₂ := by
  obtain ⟨h', tk, n', a1, a2, a3, a4, a5, a6⟩ := x
  exact ⟨h', tk, n', a1, a2, a3, a4, a5, h _ _ a6⟩
theorem comp_inv {prog : Program} {w : World} {A : Around} {h₀ : Heap} {L : Addr} {m : Str → Option Value} {env : Env} {elt : Expr} {x : Str} {scope : Scope} {cl : List (Str × Addr)} {s : Shared} {S : List (Addr × Obj) → Prop} {P : Nat → Value → Prop} {Fin : List Value → List (Addr × Obj) → Prop}
    (Inv : Nat → List Value → List (Addr × Obj) → Prop) (n : Nat) (L₀ : List (Addr × Obj)) (start : Inv 0 [] L₀)
    (turn : ∀ i ys news, i < n → Inv i ys news → ∀ v I oI C oC D m₂ h tk (E' : Value → Shared → Prop), P i v → LCg.NsObj oC m₂ → m₂ x = some v → Fr h₀ L h m → News h₀ L h ((I, oI) :: (C, oC) :: (D, LCg.lst ys) :: news) → LCg.Off3 I C D news → ((@Ne Nat I C) ∧ (@Ne Nat I D) ∧ (@Ne Nat C D)) →
      wpAny (model prog w) A (eval elt (compEnvC scope cl C env)) (LCg.CompEnd h₀ L m { s with heap := h, toks := tk } I oI C oC D (LCg.lst ys) S (fun y news' => Inv (i + 1) (ys ++ [y]) news')) E' { s with heap := h, toks := tk })
    (fin : ∀ ys news, Inv n ys news → Fin ys news) : LCg.CompRest prog w A h₀ L m env elt x scope cl s S P Fin n 0 [] L₀ := by
  suffices H : ∀ k i ys news, i + k = n → Inv i ys news → LCg.CompRest prog w A h₀ L m env elt x scope cl s S P Fin k i ys news from H n 0 [] L₀ (Nat.zero_add n) start
  intro k
  induction k with
  | zero =>
    intro i ys news e hI
    obtain rfl : i = n := e
    exact LCg.CompRest.zero (fin ys news hI)
  | succ k ih =>
    intro i ys news e hI
    refine LCg.CompRest.succ fun v I oI C oC D m₂ h tk E' hP hC hx F N off ne => ?_
    exact wpAny_mono (turn i ys news (by omega) hI v I oI C oC D m₂ h tk E' hP hC hx F N off ne) (fun y s₂ q => compEnd_mono (fun y' n' hi => ih (i + 1) _ n' (by omega) hi) q) fun _ _ z => z
theorem comp_invP {prog : Program} {w : World} {A : Around} {h₀ : Heap} {L : Addr} {m : Str → Option Value} {env : Env} {elt : Expr} {x x₂ : Str} {scope : Scope} {cl : List (Str × Addr)} {s : Shared} {S : List (Addr × Obj) → Prop} {P : Nat → Value → Prop} {Fin : List Value → List (Addr × Obj) → Prop}
    (Inv : Nat → List Value → List (Addr × Obj) → Prop) (n : Nat) (L₀ : List (Addr × Obj)) (start : Inv 0 [] L₀)
    (turn : ∀ i ys news, i < n → Inv i ys news → ∀ v, P i v → ∃ (t : Addr) (ot : Obj) (v₁ v₂ : Value) (nt : Nat), v = .ref t ∧ (t, ot) ∈ news ∧ ot.cls = .type "tuple" ∧ ot.data = .seq #[v₁, v₂] nt ∧
      ∀ I oI C oC D m₂ h tk (E' : Value → Shared → Prop), LCg.NsObj oC m₂ → m₂ x = some v₁ → m₂ x₂ = some v₂ → Fr h₀ L h m → News h₀ L h ((I, oI) :: (C, oC) :: (D, LCg.lst ys) :: news) → LCg.Off3 I C D news → ((@Ne Nat I C) ∧ (@Ne Nat I D) ∧ (@Ne Nat C D)) →
      wpAny (model prog w) A (eval elt (compEnvC scope cl C env)) (LCg.CompEnd h₀ L m { s with heap := h, toks := tk } I oI C oC D (LCg.lst ys) S (fun y news' => Inv (i + 1) (ys ++ [y]) news')) E' { s with heap := h, toks := tk })
    (fin : ∀ ys news, Inv n ys news → Fin ys news) : LCp.CompRestP prog w A h₀ L m env elt x x₂ scope cl s S P Fin n 0 [] L₀ := by
  suffices H : ∀ k i ys news, i + k = n → Inv i ys news → LCp.CompRestP prog w A h₀ L m env elt x x₂ scope cl s S P Fin k i ys news from H n 0 [] L₀ (Nat.zero_add n) start
  intro k
  induction k with
  | zero =>
    intro i ys news e hI
    obtain rfl : i = n := e
    exact LCp.CompRestP.zero (fin ys news hI)
  | succ k ih =>
    intro i ys news e hI
    refine LCp.CompRestP.succ fun v hP => ?_
    obtain ⟨t, ot, v₁, v₂, nt, e1, e2, e3, e4, k5⟩ := turn i ys news (by omega) hI v hP
    refine ⟨t, ot, v₁, v₂, nt, e1, e2, e3, e4, fun I oI C oC D m₂ h tk E' hC hx hy F N off ne => ?_⟩
    exact wpAny_mono (k5 I oI C oC D m₂ h tk E' hC hx hy F N off ne) (fun y s₂ q => compEnd_mono (fun y' n' hi => ih (i + 1) _ n' (by omega) hi) q) fun _ _ z => z
end
section
open PySem PySem.W PyProof.Rows PyProof.V PySem.Spec
noncomputable abbrev ent (w : World) (k : Str) (t : Tok) (v : Value) : DictEntry := { hash := PyData.keyHash w.params k, key := .str k t, val := v }
noncomputable abbrev matD (w : World) (A1 A2 A3 A4 A5 A6 : Addr) (t1 t2 t3 t4 t5 t6 : Tok) : Obj := dictOf [ent w (Str.ofString "a") t1 (.ref A1), ent w (Str.ofString "b") t2 (.ref A2), ent w (Str.ofString "c") t3 (.ref A3), ent w (Str.ofString "d") t4 (.ref A4), ent w (Str.ofString "e") t5 (.ref A5), ent w (Str.ofString "f") t6 (.ref A6)] 6
section
theorem matrix_new {w : World} {news : List (Addr × Obj)} {A1 A2 A3 A4 A5 A6 : Addr} : Cl w 30 240 281 [.ref A1, .ref A2, .ref A3, .ref A4, .ref A5, .ref A6] news (fun v nw => ∃ M dM t1 t2 t3 t4 t5 t6, v = .ref M ∧ nw = (M, instObj 281 dM) :: (dM, matD w A1 A2 A3 A4 A5 A6 t1 t2 t3 t4 t5 t6) :: news ∧ AllLt dM news ∧ AllLt M news ∧ @LT.lt Nat _ dM M) := by
  (k_with "call ref" => (k_here; k_dflt (refine' cl_at (by k_asm) (by k_asm) (by k_asm) (by k_asm) (by k_asm) (by walk_at "kK9") (by walk_at "S9") (by walk_at "kd9") (by walk_at "kd9") ?_); (intro v9 nw9 h9 tk9 R9 F9 N9); (try dsimp only at R9); (repeat ((with_reducible refine Exists.elim R9 ?_); clear R9; intro x9 R9)); (obtain ⟨e9, n9, R9⟩ := R9); (subst e9); (subst n9); (repeat (with_reducible (have q9 := And.left R9; replace R9 := And.right R9); (try simp only [AllLt, and_true] at q9))); (try dsimp only at N9); walk_at "T9"))
  (k_with "k_all" => with_reducible first | assumption | exact allLt_ne (by assumption))
  unfold Cl
  k_fill
  k_extra "il"
  refine call_cls (C := 281) F X N (by k_is) (by k_is) (by k_is) ?_
  intro x5 dx5 h5 F5 N5 l5 l6
  have l7 : AllLt dx5 news := allLt_of l5
  have l8 := allLt_trans l6 l7
  k_lt2 l6
  k_extra "cg"
  k_steps
  rename Fr _ _ _ _ => F99
  rename News _ _ _ _ => N99
  exact hret _ _ _ _ ⟨_, _, _, _, _, _, _, _, rfl, rfl, l7, l8, by assumption⟩ F99 (cb_drop N99 (by kcj_all))
end
section
theorem pow50 {k : Nat} (h : k < 4) : 2 * (50 ^ k * 25) < 4611686018427387904 := by
  have : 50 ^ k ≤ 50 ^ 3 := Nat.pow_le_pow_right (by decide) (by omega)
  omega
theorem bd50 {k : Nat} {x y : Int} (h : Bd (2 * (50 ^ k * 25)) x y) : Bd (50 ^ (k + 1)) x y := h.mono (by rw [Nat.pow_succ]; omega)
theorem sq_lt {r F : Int} (h : r * r ≤ F) (hF : F < 1000) : r < 32 := by
  rcases Int.lt_or_le r 32 with h' | h'
  · exact h'
  · have := Int.mul_le_mul h' h' (by decide) (by omega)
    omega
theorem floor_lt {x y : Int} (hy : 0 < y) (h : rv x y < 1000) : Int.fdiv x y < 1000 := by
  have e : (1000 : Rat) = rv 1000 1 := by unfold rv; decide +kernel
  rw [e, rv_lt hy (by decide)] at h
  obtain ⟨a1, a2⟩ := fdiv_le_mul (n := x) hy
  have : y * Int.fdiv x y < y * 1000 := by omega
  exact Int.lt_of_mul_lt_mul_left this (by omega)
theorem floor_ge {x y : Int} (hy : 0 < y) (h : 0 ≤ rv x y) : 0 ≤ Int.fdiv x y := by
  have e : (0 : Rat) = rv 0 1 := by unfold rv; decide +kernel
  rw [e, ← Rat.not_lt, rv_lt hy (by decide)] at h
  exact Int.fdiv_nonneg (by omega) (by omega)
theorem rv_zero : rv 0 1 = 0 := by unfold rv; decide +kernel
end
section
end
noncomputable def clampI (c : Int) : Int := if (if c < 64 then c else 64) > 1 then if c < 64 then c else 64 else 1
section
end
end
section
open PySem PySem.W PyProof.Rows
noncomputable def numB (n b : Int) : Bool := decide (0 ≤ Int.fdiv (n * n * 144) (b * b)) && (decide (Int.fdiv (n * n * 144) (b * b) ≤ 3600) && decide (rv (Int.fdiv (n * n * 144) (b * b)) 144 = rv n b * rv n b))
theorem numB_all : ((List.range 11).all fun i => (List.range 4).all fun j => numB ((i : Int) - 5) ((j : Int) + 1)) = true := by decide +kernel
theorem num_facts {n b : Int} (h1 : -5 ≤ n) (h2 : n ≤ 5) (h3 : 1 ≤ b) (h4 : b ≤ 4) : 0 ≤ Int.fdiv (n * n * 144) (b * b) ∧ Int.fdiv (n * n * 144) (b * b) ≤ 3600 ∧ rv (Int.fdiv (n * n * 144) (b * b)) 144 = rv n b * rv n b := by
  have h := List.all_eq_true.mp (List.all_eq_true.mp numB_all (n + 5).toNat (List.mem_range.mpr (by omega))) (b - 1).toNat (List.mem_range.mpr (by omega))
  rw [show (((n + 5).toNat : Int) - 5) = n by omega, show (((b - 1).toNat : Int) + 1) = b by omega] at h
  have h2 := Bool.and_eq_true_iff.mp h
  have h3 := Bool.and_eq_true_iff.mp h2.2
  exact ⟨of_decide_eq_true h2.1, of_decide_eq_true h3.1, of_decide_eq_true h3.2⟩
theorem rv_add144 {x y : Int} : rv (x + y) 144 = rv x 144 + rv y 144 := by
  unfold rv
  have : ((x + y : Int) : Rat) = (x : Rat) + (y : Rat) := by exact_mod_cast rfl
  rw [this]
  grind
theorem root_t {k F : Int} (h0 : 0 ≤ k) (h : (k + 1) * (k + 1) ≤ F) (hF : F ≤ 100) : 0 ≤ k + 1 ∧ k + 1 ≤ 200 ∧ (k + 1) * (k + 1) ≤ F := by
  have := le_sq (show 1 ≤ k + 1 by omega) h
  exact ⟨by omega, by omega, h⟩
theorem root_m {k F : Int} (h0 : 0 ≤ k) (h : (k + 1) * (k + 1) ≤ F) : (F + 1 - (k + 1)).toNat < (F + 1 - k).toNat := by
  have := le_sq (show 1 ≤ k + 1 by omega) h
  omega
theorem fdiv_rv {x y a b : Int} (hy : 0 < y) (hb : 0 < b) (h : rv x y = rv a b) : Int.fdiv x y = Int.fdiv a b := by
  have e := (rv_eq hy hb).mp h
  obtain ⟨h1, h2⟩ := fdiv_le_mul (n := x) (f := y) hy
  obtain ⟨h3, h4⟩ := fdiv_le_mul (n := a) (f := b) hb
  generalize Int.fdiv x y = q at *
  generalize Int.fdiv a b = p at *
  have key : ∀ u v : Int, u * y ≤ x → a < (v + 1) * b → u < v + 1 := by
    intro u v k1 k2
    have l1 : u * y * b ≤ x * b := Int.mul_le_mul_of_nonneg_right k1 (Int.le_of_lt hb)
    have l2 : a * y < (v + 1) * b * y := Int.mul_lt_mul_of_pos_right k2 hy
    have l3 : u * (y * b) < (v + 1) * (y * b) := by
      have : u * y * b = u * (y * b) := Int.mul_assoc _ _ _
      have : (v + 1) * b * y = (v + 1) * (y * b) := by rw [Int.mul_assoc, Int.mul_comm b y]
      omega
    exact Int.lt_of_mul_lt_mul_right l3 (Int.le_of_lt (Int.mul_pos hy hb))
  have key2 : ∀ u v : Int, u * b ≤ a → x < (v + 1) * y → u < v + 1 := by
    intro u v k1 k2
    have l1 : u * b * y ≤ a * y := Int.mul_le_mul_of_nonneg_right k1 (Int.le_of_lt hy)
    have l2 : x * b < (v + 1) * y * b := Int.mul_lt_mul_of_pos_right k2 hb
    have l3 : u * (y * b) < (v + 1) * (y * b) := by
      have : u * b * y = u * (y * b) := by rw [Int.mul_assoc, Int.mul_comm b y]
      have : (v + 1) * y * b = (v + 1) * (y * b) := Int.mul_assoc _ _ _
      omega
    exact Int.lt_of_mul_lt_mul_right l3 (Int.le_of_lt (Int.mul_pos hy hb))
  have := key q p (by first | exact h1 | (rw [Int.mul_comm]; exact h1)) (by first | exact h4 | (rw [Int.mul_comm]; exact h4))
  have := key2 p q (by first | exact h3 | (rw [Int.mul_comm]; exact h3)) (by first | exact h2 | (rw [Int.mul_comm]; exact h2))
  omega
theorem isqrt_one {r k F : Int} (h0 : 0 ≤ r) (h1 : r * r ≤ F) (h2 : F < (r + 1) * (r + 1)) (g0 : 0 ≤ k) (g1 : k * k ≤ F) (g2 : F < (k + 1) * (k + 1)) : r = k := by
  rcases Int.lt_trichotomy r k with h | h | h
  · have : (r + 1) * (r + 1) ≤ k * k := Int.mul_le_mul (by omega) (by omega) (by omega) (by omega)
    omega
  · exact h
  · have : (k + 1) * (k + 1) ≤ r * r := Int.mul_le_mul (by omega) (by omega) (by omega) (by omega)
    omega
theorem rv_neg_mul {s t r : Int} : rv (0 - s * (1 + r)) t = -(rv s t * rv (1 + r) 1) := by
  unfold rv
  have : ((0 - s * (1 + r) : Int) : Rat) = -((s : Rat) * ((1 + r : Int) : Rat)) := by
    rw [Int.zero_sub]; exact_mod_cast rfl
  rw [this]
  have h1 : ((1 : Int) : Rat) = 1 := by exact_mod_cast rfl
  rw [h1]
  grind
theorem rv_neg {x y : Int} : rv (-x) y = - rv x y := by
  unfold rv
  have : ((-x : Int) : Rat) = -(x : Rat) := by exact_mod_cast rfl
  rw [this]; grind
theorem dots_same {s t top root r x y x' y' : Int} (ht : 0 < t) (hx : 0 < y) (hy' : 0 < y') (e1 : rv x y = rv top 144) (r0 : 0 ≤ r) (r1 : r * r ≤ Int.fdiv x y) (r2 : Int.fdiv x y < (r + 1) * (r + 1)) (k0 : 0 ≤ root) (k1 : root * root ≤ Int.fdiv top 144) (k2 : Int.fdiv top 144 < (root + 1) * (root + 1))
    (e2 : rv x' y' = rv s t * rv (1 + r) 1) : -(Int.fdiv (-x') y') = 0 - Int.fdiv (0 - s * (1 + root)) t := by
  have hF := fdiv_rv hx (by decide) e1
  rw [hF] at r1 r2
  have hr := isqrt_one r0 r1 r2 k0 k1 k2
  subst hr
  have : Int.fdiv (-x') y' = Int.fdiv (0 - s * (1 + r)) t := fdiv_rv hy' ht (by rw [rv_neg, rv_neg_mul, e2])
  rw [this]; omega
end
section
open PySem PySem.W PyProof.Rows PySem.Spec PySem.Calls
theorem compEnd9b {h₀ : Heap} {L I C D : Addr} {m : Str → Option Value} {s₁ : Shared} {oI oC oD : Obj} {S : List (Addr × Obj) → Prop} {rest : Value → List (Addr × Obj) → Prop} {y : Value} {h' : Heap} {tk : Nat} {T : Addr} {oT : Obj} {r : List (Addr × Obj)}
    (F : Fr h₀ L h' m) (N : News h₀ L h' ((T, oT) :: (I, oI) :: (C, oC) :: (D, oD) :: r)) (a1 : @LT.lt Nat _ I T) (a2 : @LT.lt Nat _ C T) (a3 : @LT.lt Nat _ D T) (off : LCg.Off3 I C D r) (hS : S ((T, oT) :: r)) (q : rest y ((T, oT) :: r)) :
    LCg.CompEnd h₀ L m s₁ I oI C oC D oD S rest y { s₁ with heap := h', toks := tk } := by
  refine LCg.CompEnd.intro F N ((T, oT) :: r) (fun p hp => ?_) ⟨⟨Nat.ne_of_gt a1, Nat.ne_of_gt a2, Nat.ne_of_gt a3⟩, off⟩ hS q
  simp only [List.mem_cons] at hp ⊢
  rcases hp with h | h | h | h | h <;> simp only [h, true_or, or_true]
theorem sub_tup {news : List (Addr × Obj)} {D L : Addr} {l : List Value} {c j : Nat} {x : Value} {h₀ : Heap} {w : World} {prog : Program} {A : Around} {E : Value → Shared → Prop} {s : Shared} {value slice : Expr} {u : Tok} {Q : Value → Shared → Prop} {k : Int}
    (hm : (D, { cls := .type "tuple", data := .seq l.toArray c }) ∈ news) (N : News h₀ L s.heap news) (hk : k = (j : Int)) (hb : j < 1000) (hx : l[j]? = some x) (h : Q x s)
    (hs' : autoParam (∀ k, subscripted slice false (.ref D) (.int k u) = operate [.ref D, .int k u] (getItem (.ref D) (.int k u))) aY) :
    wpAny (model prog w) A (subscriptTail value slice (.ref D) (.int k u)) Q E s := by
  subst hk
  have hl : j < l.length := by
    rcases Nat.lt_or_ge j l.length with h | h
    · exact h
    · rw [List.getElem?_eq_none h] at hx; cases hx
  refine item_tupleT (l := l) (j := j) (News.isTup N hm) (by omega) (by omega) ?_ hx h (hs' _)
  unfold seqIndex?
  have e1 : ¬ ((j : Int) < 0) := by omega
  simp [e1, hl]
theorem sub_lst {news : List (Addr × Obj)} {D L : Addr} {l : List Value} {j : Nat} {x : Value} {h₀ : Heap} {w : World} {prog : Program} {A : Around} {E : Value → Shared → Prop} {s : Shared} {value slice : Expr} {u : Tok} {Q : Value → Shared → Prop} {k : Int}
    (hm : (D, LCg.lst l) ∈ news) (N : News h₀ L s.heap news) (hk : k = (j : Int)) (hb : j < 1000) (hx : l[j]? = some x) (h : Q x s)
    (hs' : autoParam (∀ k, subscripted slice false (.ref D) (.int k u) = operate [.ref D, .int k u] (getItem (.ref D) (.int k u))) aY) (hg : autoParam (∀ r, letTemporaryGo value (.ref D) r = pure ()) aY) :
    wpAny (model prog w) A (subscriptTail value slice (.ref D) (.int k u)) Q E s := by
  subst hk
  exact PyProof.Rows.item_listL (l := l) ⟨_, (N _ hm).1, rfl, _, rfl⟩ (by omega) (by omega) (by rw [Int.toNat_natCast]; exact hx) h (hs' _) hg
end
section
open PySem PySem.W PyProof.Rows
theorem ex_use0 {e : Value} {l : List (Addr × Obj)} {P : Prop} {G : Value → List (Addr × Obj) → Prop} (k : P → G (e) (l)) (v : Value) (nw : List (Addr × Obj)) (r : v = e ∧ nw = l ∧ P) : G v nw :=
  r.1 ▸ r.2.1 ▸ k r.2.2
theorem cl_use0 {e : Value} {l : List (Addr × Obj)} {P : Prop} {w : World} {d u : Nat} {f : Addr} {vs : List Value} {news : List (Addr × Obj)}
    {loose : List Str} {mean : ExcName → Option Value} {mg mb : Str → Option Value} {dp un : Nat} {gd : Option (List Code)} {cn : Str} {cs : Scope} {a : Addr} {ccd : Value} {cl : List (Str × Addr)} {outer : List Env} {A₀ : Around} {base h₀ : Heap} {L : Addr} {m : Str → Option Value} {s : Shared} {Q E : Value → Shared → Prop}
    (B : Below A₀ base outer h₀) (F : Fr h₀ L s.heap m) (X : (Mine.hd.heap_1 w.params).In h₀) (N : News h₀ L s.heap news) (T : Top topProg loose mean mg mb h₀) (hk : cs.kind = .function)
    (C : Cl w d u f vs news (fun v nw => v = e ∧ nw = l ∧ P)) (hd : dp + d < recursionLimit) (hu : un + u < cLine)
    (ret : P → ∀ h' tk', Fr h₀ L h' m → News h₀ L h' (l) → Q (e) { s with heap := h', toks := tk' }) :
    wpAny (model PySem.Challenge.rw_xm0694_01.row.prog w) (ktrTop dp un gd cn cs L a ccd cl outer) (call (.ref f) vs) Q E s :=
  cl_use C B F X N T hk hd hu fun v nw h' tk' r => ex_use0 (G := fun v nw => ∀ h' tk', Fr h₀ L h' m → News h₀ L h' nw → Q v { s with heap := h', toks := tk' }) ret v nw r h' tk'
theorem ex_use3 {α0 α1 α2 : Type} {e : α0 → α1 → α2 → Value} {l : α0 → α1 → α2 → List (Addr × Obj)} {P : α0 → α1 → α2 → Prop} {G : Value → List (Addr × Obj) → Prop} (k : ∀ x0 x1 x2, P x0 x1 x2 → G (e x0 x1 x2) (l x0 x1 x2)) (v : Value) (nw : List (Addr × Obj)) (r : ∃ x0 x1 x2, v = e x0 x1 x2 ∧ nw = l x0 x1 x2 ∧ P x0 x1 x2) : G v nw :=
  r.elim fun x0 r => r.elim fun x1 r => r.elim fun x2 r => r.1 ▸ r.2.1 ▸ k x0 x1 x2 r.2.2
theorem cl_use3 {α0 α1 α2 : Type} {e : α0 → α1 → α2 → Value} {l : α0 → α1 → α2 → List (Addr × Obj)} {P : α0 → α1 → α2 → Prop} {w : World} {d u : Nat} {f : Addr} {vs : List Value} {news : List (Addr × Obj)}
    {loose : List Str} {mean : ExcName → Option Value} {mg mb : Str → Option Value} {dp un : Nat} {gd : Option (List Code)} {cn : Str} {cs : Scope} {a : Addr} {ccd : Value} {cl : List (Str × Addr)} {outer : List Env} {A₀ : Around} {base h₀ : Heap} {L : Addr} {m : Str → Option Value} {s : Shared} {Q E : Value → Shared → Prop}
    (B : Below A₀ base outer h₀) (F : Fr h₀ L s.heap m) (X : (Mine.hd.heap_1 w.params).In h₀) (N : News h₀ L s.heap news) (T : Top topProg loose mean mg mb h₀) (hk : cs.kind = .function)
    (C : Cl w d u f vs news (fun v nw => ∃ x0 x1 x2, v = e x0 x1 x2 ∧ nw = l x0 x1 x2 ∧ P x0 x1 x2)) (hd : dp + d < recursionLimit) (hu : un + u < cLine)
    (ret : ∀ x0 x1 x2, P x0 x1 x2 → ∀ h' tk', Fr h₀ L h' m → News h₀ L h' (l x0 x1 x2) → Q (e x0 x1 x2) { s with heap := h', toks := tk' }) :
    wpAny (model PySem.Challenge.rw_xm0694_01.row.prog w) (ktrTop dp un gd cn cs L a ccd cl outer) (call (.ref f) vs) Q E s :=
  cl_use C B F X N T hk hd hu fun v nw h' tk' r => ex_use3 (G := fun v nw => ∀ h' tk', Fr h₀ L h' m → News h₀ L h' nw → Q v { s with heap := h', toks := tk' }) ret v nw r h' tk'
theorem ex_use8 {α0 α1 α2 α3 α4 α5 α6 α7 : Type} {e : α0 → α1 → α2 → α3 → α4 → α5 → α6 → α7 → Value} {l : α0 → α1 → α2 → α3 → α4 → α5 → α6 → α7 → List (Addr × Obj)} {P : α0 → α1 → α2 → α3 → α4 → α5 → α6 → α7 → Prop} {G : Value → List (Addr × Obj) → Prop} (k : ∀ x0 x1 x2 x3 x4 x5 x6 x7, P x0 x1 x2 x3 x4 x5 x6 x7 → G (e x0 x1 x2 x3 x4 x5 x6 x7) (l x0 x1 x2 x3 x4 x5 x6 x7)) (v : Value) (nw : List (Addr × Obj)) (r : ∃ x0 x1 x2 x3 x4 x5 x6 x7, v = e x0 x1 x2 x3 x4 x5 x6 x7 ∧ nw = l x0 x1 x2 x3 x4 x5 x6 x7 ∧ P x0 x1 x2 x3 x4 x5 x6 x7) : G v nw :=
  r.elim fun x0 r => r.elim fun x1 r => r.elim fun x2 r => r.elim fun x3 r => r.elim fun x4 r => r.elim fun x5 r => r.elim fun x6 r => r.elim fun x7 r => r.1 ▸ r.2.1 ▸ k x0 x1 x2 x3 x4 x5 x6 x7 r.2.2
theorem cl_use8 {α0 α1 α2 α3 α4 α5 α6 α7 : Type} {e : α0 → α1 → α2 → α3 → α4 → α5 → α6 → α7 → Value} {l : α0 → α1 → α2 → α3 → α4 → α5 → α6 → α7 → List (Addr × Obj)} {P : α0 → α1 → α2 → α3 → α4 → α5 → α6 → α7 → Prop} {w : World} {d u : Nat} {f : Addr} {vs : List Value} {news : List (Addr × Obj)}
    {loose : List Str} {mean : ExcName → Option Value} {mg mb : Str → Option Value} {dp un : Nat} {gd : Option (List Code)} {cn : Str} {cs : Scope} {a : Addr} {ccd : Value} {cl : List (Str × Addr)} {outer : List Env} {A₀ : Around} {base h₀ : Heap} {L : Addr} {m : Str → Option Value} {s : Shared} {Q E : Value → Shared → Prop}
    (B : Below A₀ base outer h₀) (F : Fr h₀ L s.heap m) (X : (Mine.hd.heap_1 w.params).In h₀) (N : News h₀ L s.heap news) (T : Top topProg loose mean mg mb h₀) (hk : cs.kind = .function)
    (C : Cl w d u f vs news (fun v nw => ∃ x0 x1 x2 x3 x4 x5 x6 x7, v = e x0 x1 x2 x3 x4 x5 x6 x7 ∧ nw = l x0 x1 x2 x3 x4 x5 x6 x7 ∧ P x0 x1 x2 x3 x4 x5 x6 x7)) (hd : dp + d < recursionLimit) (hu : un + u < cLine)
    (ret : ∀ x0 x1 x2 x3 x4 x5 x6 x7, P x0 x1 x2 x3 x4 x5 x6 x7 → ∀ h' tk', Fr h₀ L h' m → News h₀ L h' (l x0 x1 x2 x3 x4 x5 x6 x7) → Q (e x0 x1 x2 x3 x4 x5 x6 x7) { s with heap := h', toks := tk' }) :
    wpAny (model PySem.Challenge.rw_xm0694_01.row.prog w) (ktrTop dp un gd cn cs L a ccd cl outer) (call (.ref f) vs) Q E s :=
  cl_use C B F X N T hk hd hu fun v nw h' tk' r => ex_use8 (G := fun v nw => ∀ h' tk', Fr h₀ L h' m → News h₀ L h' nw → Q v { s with heap := h', toks := tk' }) ret v nw r h' tk'
end
section
open PySem PySem.W PyProof.Rows PySem.Spec PySem.Calls
theorem sq_pos {b : Int} (h1 : 1 ≤ b) (h2 : b ≤ 4) : 0 < b * b ∧ b * b ≤ 16 := by
  have : b = 1 ∨ b = 2 ∨ b = 3 ∨ b = 4 := by omega
  rcases this with rfl | rfl | rfl | rfl <;> decide
theorem len_un {α : Type} {l : List α} {n : Nat} (h : l.length = n + 1) : ∃ a r, l = a :: r := by
  cases l with
  | nil => cases h
  | cons a r => exact ⟨a, r, rfl⟩
theorem six_of {α : Type} {l : List α} (h : l.length = 6) : ∃ a b c d e f, l = [a, b, c, d, e, f] := by
  obtain ⟨a, l, rfl⟩ := len_un h
  obtain ⟨b, l, rfl⟩ := len_un (Nat.succ.inj h)
  obtain ⟨c, l, rfl⟩ := len_un (Nat.succ.inj (Nat.succ.inj h))
  obtain ⟨d, l, rfl⟩ := len_un (Nat.succ.inj (Nat.succ.inj (Nat.succ.inj h)))
  obtain ⟨e, l, rfl⟩ := len_un (Nat.succ.inj (Nat.succ.inj (Nat.succ.inj (Nat.succ.inj h))))
  obtain ⟨f, l, rfl⟩ := len_un (Nat.succ.inj (Nat.succ.inj (Nat.succ.inj (Nat.succ.inj (Nat.succ.inj h)))))
  obtain rfl := List.eq_nil_of_length_eq_zero (Nat.succ.inj (Nat.succ.inj (Nat.succ.inj (Nat.succ.inj (Nat.succ.inj (Nat.succ.inj h))))))
  exact ⟨a, b, c, d, e, f, rfl⟩
theorem dots_beq {s t top root r x y x' y' a b : Int} {z u : Rat} (e2 : rv x' y' = rv a b * rv (1 + r) 1) (ht : 0 < t) (hx : 0 < y) (hy' : 0 < y') (e1 : rv x y = z) (e4 : z = u) (e5 : rv top 144 = u) (r0 : 0 ≤ r) (r1 : r * r ≤ Int.fdiv x y) (r2 : Int.fdiv x y < (r + 1) * (r + 1)) (k0 : 0 ≤ root) (k1 : root * root ≤ Int.fdiv top 144) (k2 : ¬ (root + 1) * (root + 1) ≤ Int.fdiv top 144)
    (e3 : rv a b = rv s t) : (clampI (-(Int.fdiv (-x') y')) == if (if 0 - Int.fdiv (0 - s * (1 + root)) t < 64 then 0 - Int.fdiv (0 - s * (1 + root)) t else 64) > 1 then (if 0 - Int.fdiv (0 - s * (1 + root)) t < 64 then 0 - Int.fdiv (0 - s * (1 + root)) t else 64) else 1) = true := by
  rw [dots_same ht hx hy' (e1.trans (e4.trans e5.symm)) r0 r1 r2 k0 k1 (by omega) (e2.trans (by rw [e3]))]
  exact beq_self_eq_true (clampI _)
theorem wp_abs {α : Type} {M : Model} {A : Around} {t : Sem α} {Q : α → Shared → Prop} {E : Value → Shared → Prop} {s : Shared} (h : ∀ (Q' : α → Shared → Prop) (E' : Value → Shared → Prop), (∀ v s, Q v s → Q' v s) → (∀ v s, E v s → E' v s) → wpAny M A t Q' E' s) : wpAny M A t Q E s := h Q E (fun _ _ x => x) fun _ _ x => x
theorem compEndF {h₀ : Heap} {L I C D : Addr} {m : Str → Option Value} {s₁ : Shared} {oI oC oD : Obj} {S : List (Addr × Obj) → Prop} {rest : Value → List (Addr × Obj) → Prop} {y : Value} {h' : Heap} {tk : Nat} (front : List (Addr × Obj)) {r all : List (Addr × Obj)}
    (F : Fr h₀ L h' m) (N : News h₀ L h' all) (e : all = front ++ (I, oI) :: (C, oC) :: (D, oD) :: r) (off' : LCg.Off3 I C D front) (off : LCg.Off3 I C D r) (hS : S (front ++ r)) (q : rest y (front ++ r)) :
    LCg.CompEnd h₀ L m s₁ I oI C oC D oD S rest y { s₁ with heap := h', toks := tk } := by
  subst e
  refine LCg.CompEnd.intro F N (front ++ r) (fun p hp => ?_) (LCg.Off3.of fun p hp => ?_) hS q
  · simp only [List.mem_cons, List.mem_append] at hp ⊢
    rcases hp with h | h | h | h | h <;> simp only [h, true_or, or_true]
  · exact (List.mem_append.mp hp).elim (off'.mem p) (off.mem p)
theorem compRestT_mono {prog : Program} {w : World} {A : Around} {h₀ : Heap} {L : Addr} {m : Str → Option Value} {s s' : Shared} {I C D : Addr} {oI oC : Obj} {ys : List Value} {S : List (Addr × Obj) → Prop} {R R' : Bool → Value → List (Addr × Obj) → Prop} {b : Bool} {E : Value → Shared → Prop} {c : Sem Value} (h : ∀ b y n, R b y n → R' b y n)
    (k : if b = true then wpAny (model prog w) A c (LCg.CompEnd h₀ L m s I oI C oC D (LCg.lst ys) S (R true)) E s' else LCg.CompEnd h₀ L m s I oI C oC D (LCg.lst ys) S (R false) Value.none s') :
    if b = true then wpAny (model prog w) A c (LCg.CompEnd h₀ L m s I oI C oC D (LCg.lst ys) S (R' true)) E s' else LCg.CompEnd h₀ L m s I oI C oC D (LCg.lst ys) S (R' false) Value.none s' := by
  cases b
  · exact compEnd_mono (h false) k
  · exact wpAny_mono k (fun _ _ q => compEnd_mono (h true) q) fun _ _ z => z
theorem comp_invT {prog : Program} {w : World} {A : Around} {h₀ : Heap} {L : Addr} {m : Str → Option Value} {env : Env} {ct elt : Expr} {x : Str} {scope : Scope} {cl : List (Str × Addr)} {s : Shared} {S : List (Addr × Obj) → Prop} {P : Nat → Value → Prop} {Fin : List Value → List (Addr × Obj) → Prop}
    (Inv : Nat → List Value → List (Addr × Obj) → Prop) (n : Nat) (L₀ : List (Addr × Obj)) (start : Inv 0 [] L₀)
    (turn : ∀ i ys news, i < n → Inv i ys news → ∀ v I oI C oC D m₂ h tk (E' : Value → Shared → Prop), P i v → LCg.NsObj oC m₂ → m₂ x = some v → Fr h₀ L h m → News h₀ L h ((I, oI) :: (C, oC) :: (D, LCg.lst ys) :: news) → LCg.Off3 I C D news → ((@Ne Nat I C) ∧ (@Ne Nat I D) ∧ (@Ne Nat C D)) →
      wpAny (model prog w) A (isTrue ct (compEnvC scope cl C env) (eval ct (compEnvC scope cl C env))) (fun b s' => if b = true then wpAny (model prog w) A (eval elt (compEnvC scope cl C env)) (LCg.CompEnd h₀ L m { s with heap := h, toks := tk } I oI C oC D (LCg.lst ys) S (fun y news' => Inv (i + 1) (ys ++ [y]) news')) E' s'
        else LCg.CompEnd h₀ L m { s with heap := h, toks := tk } I oI C oC D (LCg.lst ys) S (fun _ news' => Inv (i + 1) ys news') Value.none s') E' { s with heap := h, toks := tk })
    (fin : ∀ ys news, Inv n ys news → Fin ys news) : LCt.CompRestT prog w A h₀ L m env ct elt x scope cl s S P Fin n 0 [] L₀ := by
  suffices H : ∀ k i ys news, i + k = n → Inv i ys news → LCt.CompRestT prog w A h₀ L m env ct elt x scope cl s S P Fin k i ys news from H n 0 [] L₀ (Nat.zero_add n) start
  intro k
  induction k with
  | zero =>
    intro i ys news e hI
    obtain rfl : i = n := e
    exact LCt.CompRestT.zero (fin ys news hI)
  | succ k ih =>
    intro i ys news e hI
    refine LCt.CompRestT.succ fun v I oI C oC D m₂ h tk E' hP hC hx F N off ne => ?_
    refine wpAny_mono (turn i ys news (by omega) hI v I oI C oC D m₂ h tk E' hP hC hx F N off ne) (fun b s₂ q => ?_) fun _ _ z => z
    exact compRestT_mono (R := fun b y n' => Inv (i + 1) (if b = true then ys ++ [y] else ys) n') (R' := fun b y n' => LCt.CompRestT prog w A h₀ L m env ct elt x scope cl s S P Fin k (i + 1) (if b = true then ys ++ [y] else ys) n') (fun b y n' hi => ih (i + 1) _ n' (by omega) hi) q
theorem news_ne {h₀ h : Heap} {L a b : Addr} {o o' : Obj} {news : List (Addr × Obj)} (N : News h₀ L h news) (ha : (a, o) ∈ news) (hb : (b, o') ∈ news) (ho : o ≠ o') : a ≠ b := fun e => ho (by
  have h1 := (N _ ha).1
  have h2 := (N _ hb).1
  dsimp only at h1 h2
  rw [e, h2] at h1
  exact (Option.some.inj h1).symm)
theorem append_led {prog : Program} {w : World} {A : Around} {E : Value → Shared → Prop} {s : Shared} {h₀ : Heap} {L c : Addr} {m : Str → Option Value} {news news' : List (Addr × Obj)} {ys : List Value} {x : Value} {Q : Value → Shared → Prop} (F : Fr h₀ L s.heap m) (N : News h₀ L s.heap news) (hm : (c, LCg.lst ys) ∈ news)
    (hn : ∀ p ∈ news', p = (c, LCg.lst (ys ++ [x])) ∨ (p ∈ news ∧ p.1 ≠ c)) (hsz : ys.length < 1000) (k : ∀ h', Fr h₀ L h' m → News h₀ L h' news' → Q .none { s with heap := h' }) :
    wpAny (model prog w) A (call (.builtin "list.append") [.ref c, x]) Q E s := by
  obtain ⟨z1, z2, z3⟩ := N _ hm
  refine append_at z1 (fun h' hs' ho' => k h' (F.change hs' z2 z3) fun p hp => ?_) (by rw [List.size_toArray, sizeLine_eq]; omega)
  rcases hn p hp with rfl | ⟨hp, hne⟩
  · exact ⟨by rw [← LCg.lst_snoc]; exact ho', z2, z3⟩
  · exact ⟨(hs'.2 _ hne).trans (N p hp).1, (N p hp).2⟩
theorem ne_nil {prog : Program} {w : World} {A : Around} {E : Value → Shared → Prop} {s : Shared} {h₀ : Heap} {L a b : Addr} {c : Nat} {news : List (Addr × Obj)} {xs : List Value} {Q : Value → Shared → Prop} (N : News h₀ L s.heap news) (ha : (a, LCg.lst xs) ∈ news) (hb : (b, listOf #[] c) ∈ news) (hu : A.units < cLine) (h : Q (.bool (!xs.isEmpty)) s) :
    wpAny (model prog w) A (compareOp .NotEq (.ref a) (.ref b)) Q E s := by
  have la : s.heap.IsList a xs.toArray := ⟨_, (N _ ha).1, rfl, _, rfl⟩
  have lb : s.heap.IsList b #[] := ⟨_, (N _ hb).1, rfl, _, rfl⟩
  cases xs with
  | nil => exact SeqAt.RcNeAt.lists la lb rfl (e := fun _ => true) hu (fun j h1 _ => absurd h1 (Nat.not_lt_zero j)) prog w E Q h
  | cons x r => exact SeqAt.RcNeAt.lists_lengths la lb (by simp) hu prog w E Q h
end
section
open PySem PySem.W PyProof.Rows PyProof.V PySem.Spec
theorem allLt_all {x : Addr} {l : List (Addr × Obj)} : AllLt x l ↔ ∀ p ∈ l, @LT.lt Nat _ p.1 x := by
  induction l with
  | nil => exact ⟨fun _ p hp => (nomatch hp), fun _ => trivial⟩
  | cons q r ih =>
    constructor
    · intro h p hp
      k_extra "rm"
      · exact h.1
      · exact ih.mp h.2 p hp
    · intro h
      exact ⟨h q (.head _), ih.mpr fun p hp => h p (.tail _ hp)⟩
noncomputable abbrev elD (w : World) (nm : Str) (at_ ch : Addr) (tn t1 t2 t3 t4 te : Tok) : Obj := dictOf [ent w (Str.ofString "name") t1 (.str nm tn), ent w (Str.ofString "attributes") t2 (.ref at_), ent w (Str.ofString "children") t3 (.ref ch), ent w (Str.ofString "text") t4 (.str (Str.ofString "") te)] 4
theorem element_new {w : World} {news : List (Addr × Obj)} {nm : Str} {tn : Tok} {at_ : Addr} : Cl w 30 240 444 [.str nm tn, .ref at_] news (fun v nw => ∃ E dE ch t1 t2 t3 t4 te, v = .ref E ∧ nw = (E, instObj 444 dE) :: (dE, elD w nm at_ ch tn t1 t2 t3 t4 te) :: (ch, LCg.lst []) :: news ∧ AllLt dE news ∧ AllLt E news ∧ AllLt ch news ∧ @LT.lt Nat _ dE E ∧ @LT.lt Nat _ E ch) := by
  (k_with "k_all" => with_reducible first | assumption | exact allLt_ne (by assumption))
  unfold Cl
  k_fill
  k_extra "il"
  refine call_cls (C := 444) F X N (by k_is) (by k_is) (by k_is) ?_
  intro x5 dx5 h5 F5 N5 l5 l6
  have l7 : AllLt dx5 news := allLt_of l5
  have l8 := allLt_trans l6 l7
  k_lt2 l6
  k_extra "cg"
  k_steps
  rename Fr _ _ _ _ => F99
  rename News _ _ _ _ => N99
  rename _ ∧ _ ∧ AllLt _ news => l1
  exact hret _ _ _ _ ⟨_, _, _, _, _, _, _, _, rfl, rfl, l7, l8, l1.2.2, l6, l1.1⟩ F99 (cb_drop N99 (by kcj_all))
inductive ElAt (w : World) (n : List (Addr × Obj)) (e : Addr × Addr × Addr) : Prop
  | mk (dE : _) (nm : _) (tn : _) (t1 : _) (t2 : _) (t3 : _) (t4 : _) (te : _) (f0 : (e.1, instObj 444 dE) ∈ n) (f1 : (dE, elD w nm e.2.1 e.2.2 tn t1 t2 t3 t4 te) ∈ n) : ElAt w n e
theorem ElAt.mono {w : World} {n n' : List (Addr × Obj)} {e : Addr × Addr × Addr} (h : ElAt w n e) (hs : ∀ p ∈ n, (p.2.cls = .ref 444 ∨ p.2.cls = .type "dict") → p ∈ n') : ElAt w n' e := by
  obtain ⟨dE, nm, tn, t1, t2, t3, t4, te, h1, h2⟩ := h
  exact ⟨dE, nm, tn, t1, t2, t3, t4, te, hs _ h1 (.inl rfl), hs _ h2 (.inr rfl)⟩
def MarkAt (w : World) (n : List (Addr × Obj)) (es : List (Addr × Addr × Addr)) (mark : Nat → Bool) : Prop := ∀ j e, es[j]? = some e → ElAt w n e ∧ ∃ ys : List Value, (e.2.2, LCg.lst ys) ∈ n ∧ (!ys.isEmpty) = mark j ∧ ys.length ≤ 1
def FiltP (es : List (Addr × Addr × Addr)) (mark : Nat → Bool) (n₀ : List (Addr × Obj)) (i : Nat) (ys : List Value) (n : List (Addr × Obj)) : Prop :=
  n = n₀ ∧ ys = ((es.take i).zipIdx.filter fun p => mark p.2).map fun p => .ref p.1.1
theorem filt_cases {es : List (Addr × Addr × Addr)} {mark : Nat → Bool} : ∀ (k : Nat), (((es.zipIdx k).filter fun p => mark p.2).map (fun p => Value.ref p.1.1) = [] ∧ ∀ i, k ≤ i → i < k + es.length → mark i = false) ∨ ∃ j e r, ((es.zipIdx k).filter fun p => mark p.2).map (fun p => Value.ref p.1.1) = .ref e.1 :: r ∧ k ≤ j ∧ es[j - k]? = some e ∧ mark j = true ∧ ∀ i, k ≤ i → i < j → mark i = false := by
  induction es with
  | nil => exact fun k => .inl ⟨rfl, fun i h1 h2 => absurd h2 (by simp only [List.length_nil]; omega)⟩
  | cons e r ih =>
    intro k
    rw [List.zipIdx_cons]
    cases hk : mark k with
    | true => exact .inr ⟨k, e, _, by rw [List.filter_cons_of_pos (by exact hk)]; rfl, Nat.le_refl _, by simp, hk, fun i h1 h2 => absurd h1 (by omega)⟩
    | false =>
      rw [List.filter_cons_of_neg (by dsimp only; rw [hk]; decide)]
      rcases ih (k + 1) with ⟨h1, h2⟩ | ⟨j, e', r', h1, h2, h3, h4, h5⟩
      · refine .inl ⟨h1, fun i i1 i2 => ?_⟩
        rcases Nat.eq_or_lt_of_le i1 with h | h
        · rw [← h]; exact hk
        · exact h2 i h (by simp only [List.length_cons] at i2; omega)
      · refine .inr ⟨j, e', r', h1, by omega, ?_, h4, fun i i1 i2 => ?_⟩
        · obtain ⟨q, hq⟩ : ∃ q, j - k = q + 1 := ⟨j - k - 1, by omega⟩
          rw [hq, List.getElem?_cons_succ]
          rw [show j - (k + 1) = q by omega] at h3
          exact h3
        · rcases Nat.eq_or_lt_of_le i1 with h | h
          · rw [← h]; exact hk
          · exact h5 i h i2
theorem filt_at {es : List (Addr × Addr × Addr)} {i : Nat} {v : Value} (hv : (es.map fun e => Value.ref e.1).toArray[i]? = some v) : ∃ e, es[i]? = some e ∧ v = .ref e.1 := by
  simp only [List.getElem?_toArray, List.getElem?_map, Option.map_eq_some_iff] at hv
  obtain ⟨e, h1, h2⟩ := hv
  exact ⟨e, h1, h2.symm⟩
theorem filt_step {es : List (Addr × Addr × Addr)} {mark : Nat → Bool} {n₀ : List (Addr × Obj)} {i : Nat} {e : Addr × Addr × Addr} (he : es[i]? = some e) : (mark i = true → FiltP es mark n₀ (i + 1) (((es.take i).zipIdx.filter fun p => mark p.2).map (fun p => Value.ref p.1.1) ++ [.ref e.1]) n₀) ∧ (mark i = false → FiltP es mark n₀ (i + 1) (((es.take i).zipIdx.filter fun p => mark p.2).map fun p => .ref p.1.1) n₀) := by
  have hl : i < es.length := (List.getElem?_eq_some_iff.mp he).1
  have e1 : es.take (i + 1) = es.take i ++ [e] := by rw [List.take_add_one, he]; rfl
  have e2 : (es.take i).length = i := by rw [List.length_take]; omega
  constructor <;> intro hm <;> refine ⟨rfl, ?_⟩ <;> rw [e1, List.zipIdx_append, List.filter_append, List.map_append, e2] <;> simp [hm]
theorem filled_spec {w : World} {news : List (Addr × Obj)} {S : Addr} {es : List (Addr × Addr × Addr)} {mark : Nat → Bool} (hS : (S, LCg.lst (es.map fun e => .ref e.1)) ∈ news) (h0 : 0 < es.length) (h1 : es.length < 100) (hM : MarkAt w news es mark) :
    Cl w 20 160 398 [.ref S] news (fun v nw => ∃ E, v = .ref E ∧ nw = news ∧ ∃ j e, es[j]? = some e ∧ E = e.1 ∧ ((mark j = true ∧ ∀ i, i < j → mark i = false) ∨ (j = 0 ∧ ∀ i, i < es.length → mark i = false))) := by
  (k_with "k_all" => with_reducible assumption)
  (k_with "k_mem" => with_reducible first | assumption | exact List.mem_cons_self | (refine List.mem_cons_of_mem _ ?_; k_mem) | (refine memOf ?_; k_mem))
  (k_with "CompRest" => refine stop8 ?_)
  (k_with "CompRestT" => refine stop8 ?_)
  (k_with "ItemsRest" => refine stop8 ?_)
  (k_with "CompSrcT" => refine stop8 ?_)
  (k_with "exec Assign cons ListComp" => refine stop8 ?_)
  (k_with "compareOp NotEq ref ref" => (k_here; k_dflt (refine' ne_nil ?n9 ?a9 ?b9 ?u9 ?_; (case n9 => k_asm); (case a9 => k_mem); (case b9 => k_mem); (case u9 => ke_room)); (try dsimp only)))
  (k_with "subscriptTail Name Constant ref int" => (k_here; k_dflt (first | (refine' sub_lst ?m9 ?n9 ?a9 ?b9 ?c9 ?_; (case n9 => k_asm); (case m9 => k_mem); (case a9 => walk_at "ix9"); (case b9 => decide); (case c9 => first | exact rfl | with_reducible assumption)) | (refine' sub_tup ?m9 ?n9 ?a9 ?b9 ?c9 ?_; (case n9 => k_asm); (case m9 => k_mem); (case a9 => walk_at "ix9"); (case b9 => decide); (case c9 => first | exact rfl | with_reducible assumption))); (try dsimp only)))
  (k_with "ix9" => first | exact (rfl : (0 : Int) = ((0 : Nat) : Int)) | exact (rfl : (1 : Int) = ((1 : Nat) : Int)) | exact (rfl : (2 : Int) = ((2 : Nat) : Int)) | exact (rfl : (3 : Int) = ((3 : Nat) : Int)) | exact (rfl : (4 : Int) = ((4 : Nat) : Int)) | exact (rfl : (5 : Int) = ((5 : Nat) : Int)))
  (k_with "ite" => k_dflt (first | refine ite_posB (by rfl) ?_ | refine ite_negB (by rfl) ?_))
  unfold Cl
  k_fill
  k_extra "il"
  refine wpAny_call ?_
  k_dflt cell_enter
  k_steps
  refine stop8_ ?_
  k_dflt (refine LCt.Assign_ListComp_T (F₀ := by k_asm) (by rfl) (by k_extra "w") (by k_extra "w") (by decide) (by rfl) (by decide) (by rfl) (by rfl) (by rfl) ?_)
  k_steps
  refine stop8_ ?_
  k_dflt (refine LCt.CompSrcT.ledger (by rfl) (by k_asm) (by k_asm) (by k_mem) (by rw [List.size_toArray, List.length_map, sizeLine_eq]; omega) ?_)
  intro g9
  refine comp_invT (FiltP es mark news) _ _ ⟨rfl, rfl⟩ ?_ ?_
  · rintro i ys n hi ⟨hn, hys⟩ v I oI C oC D m₂ h5 tk5 E' hv hC hx F5 N5 off ne
    subst hn
    subst hys
    obtain ⟨e, he, rfl⟩ := filt_at hv
    obtain ⟨⟨dE, nm, tn, t1, t2, t3, t4, te, k1, k2⟩, zs, k3, k4, k5⟩ := hM i e he
    k_steps
    · rename Fr _ _ _ _ => F9
      rename News _ _ _ _ => N9
      exact LCg.CompEnd.intro F9 N9 _ (fun p hp => .tail _ hp) off (.inr ⟨_, hS, rfl, _, rfl⟩) ((filt_step he).2 (by rw [← k4]; simp_all only [Bool.not_true]))
    · rename Fr _ _ _ _ => F9
      rename News _ _ _ _ => N9
      exact LCg.CompEnd.intro F9 N9 _ (fun p hp => .tail _ hp) off (.inr ⟨_, hS, rfl, _, rfl⟩) ((filt_step he).1 (by rw [← k4]; simp_all only [Bool.not_eq_true, Bool.not_false]))
  · rintro ys n ⟨hn, hys⟩
    subst hn
    rw [List.size_toArray, List.length_map, List.take_length] at hys
    rcases filt_cases (es := es) (mark := mark) 0 with ⟨g1, g2⟩ | ⟨j, e, r, g1, g2, g3, g4, g5⟩
    · rw [g1] at hys
      subst hys
      obtain ⟨e0, he0⟩ : ∃ e0, es[0]? = some e0 := ⟨_, List.getElem?_eq_getElem h0⟩
      have hx0 : (es.map fun e => Value.ref e.1)[0]? = some (.ref e0.1) := by rw [List.getElem?_map, he0]; rfl
      k_steps
      rename Fr _ _ _ _ => F99
      rename News _ _ _ _ => N99
      exact hret _ _ _ _ ⟨_, rfl, rfl, 0, e0, he0, rfl, .inr ⟨rfl, fun i hi => g2 i (Nat.zero_le _) (by omega)⟩⟩ F99 (cb_drop N99 (fun p hp => .tail _ (.tail _ hp)))
    · rw [g1] at hys
      subst hys
      k_steps
      rename Fr _ _ _ _ => F99
      rename News _ _ _ _ => N99
      exact hret _ _ _ _ ⟨_, rfl, rfl, j, e, g3, rfl, .inl ⟨g4, fun i hi => g5 i (Nat.zero_le _) hi⟩⟩ F99 (cb_drop N99 (fun p hp => .tail _ (.tail _ hp)))
end
section
open PySem PySem.W PyProof.Rows PySem.Spec PySem.Calls
theorem unrEndA {h₀ : Heap} {L : Addr} {I : Addr} {o : Obj} {rest : (Str → Option Value) → List (Addr × Obj) → Prop} {s₁ : Shared} {h' : Heap} {tk : Nat} {m' : Str → Option Value} {all news' : List (Addr × Obj)} (F : Fr h₀ L h' m') (N : News h₀ L h' all) (hI : (I, o) ∈ all) (hn : ∀ p ∈ news', p ∈ all ∧ p.1 ≠ I) (r : rest m' news') :
    UnrEndW h₀ L s₁ [(I, o)] rest { s₁ with heap := h', toks := tk } :=
  ⟨h', tk, m', news', rfl, F, fun p hp => by
    rcases List.mem_append.mp hp with hp | hp
    · rw [List.mem_singleton.mp hp]; exact N _ hI
    · exact N p (hn p hp).1, fun p hp q hq e => by
    rw [List.mem_singleton.mp hq] at e
    exact (hn p hp).2 e, r⟩
theorem sub_seqT {news : List (Addr × Obj)} {D L : Addr} {l : List Value} {c j : Nat} {x : Value} {h₀ : Heap} {w : World} {prog : Program} {A : Around} {E : Value → Shared → Prop} {s : Shared} {value slice : Expr} {u : Tok} {Q : Value → Shared → Prop} {k : Int}
    (hm : (D, { cls := .type "list", data := .seq l.toArray c }) ∈ news) (N : News h₀ L s.heap news) (hk : k = (j : Int)) (hb : j < 1000) (hx : l[j]? = some x) (h : Q x s)
    (hs' : autoParam (∀ k, subscripted slice false (.ref D) (.int k u) = operate [.ref D, .int k u] (getItem (.ref D) (.int k u))) aY) :
    wpAny (model prog w) A (subscriptTail value slice (.ref D) (.int k u)) Q E s := by
  subst hk
  exact tail_any (show s.heap.IsList D l.toArray from ⟨_, (N _ hm).1, rfl, _, rfl⟩).typeIs slot_list_getitem.lookup (wpAny_getItem_list ⟨_, (N _ hm).1, rfl, _, rfl⟩ (by omega) (by omega) (by rw [Int.toNat_natCast, List.getElem?_toArray]; exact hx) h) (hs' _)
noncomputable abbrev dropA (c : Addr) (n : List (Addr × Obj)) : List (Addr × Obj) := n.filter fun p => decide (p.1 ≠ c)
theorem mem_dropA {c : Addr} {n : List (Addr × Obj)} {p : Addr × Obj} (h : p ∈ n) (hn : p.1 ≠ c) : p ∈ dropA c n := List.mem_filter.mpr ⟨h, decide_eq_true hn⟩
theorem of_dropA {c : Addr} {n : List (Addr × Obj)} {p : Addr × Obj} (h : p ∈ dropA c n) : p ∈ n ∧ p.1 ≠ c := ⟨(List.mem_filter.mp h).1, of_decide_eq_true (List.mem_filter.mp h).2⟩
theorem append_drop {prog : Program} {w : World} {A : Around} {E : Value → Shared → Prop} {s : Shared} {h₀ : Heap} {L c : Addr} {m : Str → Option Value} {news : List (Addr × Obj)} {ys : List Value} {x : Value} {Q : Value → Shared → Prop} (F : Fr h₀ L s.heap m) (N : News h₀ L s.heap news) (hm : (c, LCg.lst ys) ∈ news)
    (hsz : ys.length < 1000) (k : ∀ h', Fr h₀ L h' m → News h₀ L h' ((c, LCg.lst (ys ++ [x])) :: dropA c news) → Q .none { s with heap := h' }) :
    wpAny (model prog w) A (call (.builtin "list.append") [.ref c, x]) Q E s :=
  append_led F N hm (fun p hp => (List.mem_cons.mp hp).elim .inl fun h => .inr (of_dropA h)) hsz k
def Chs (es : List (Addr × Addr × Addr)) : Prop := ∀ (i j : Nat) (e e' : Addr × Addr × Addr), es[i]? = some e → es[j]? = some e' → e.2.2 = e'.2.2 → i = j
theorem mark_app {w : World} {h₀ h : Heap} {L : Addr} {n : List (Addr × Obj)} {es : List (Addr × Addr × Addr)} {mark : Nat → Bool} {k : Nat} {e : Addr × Addr × Addr} {x : Value} (N : News h₀ L h n) (hM : MarkAt w n es mark) (hd : Chs es) (he : es[k]? = some e) {ys : List Value} (hy : (e.2.2, LCg.lst ys) ∈ n) (hk : mark k = false) :
    ys = [] ∧ MarkAt w ((e.2.2, LCg.lst (ys ++ [x])) :: dropA e.2.2 n) es (fun j => mark j || j == k) := by
  have hy0 : ys = [] := by
    obtain ⟨_, zs, z1, z2, z3⟩ := hM k e he
    have h1 := (N _ hy).1
    have h2 := (N _ z1).1
    dsimp only at h1 h2
    rw [h1] at h2
    have h3 : LCg.lst ys = LCg.lst zs := Option.some.inj h2
    have h4 : ys.toArray = zs.toArray := by injection h3 with _ _ h3; injection h3
    have h5 : ys = zs := by simpa using h4
    rw [hk] at z2
    rw [h5]
    cases zs with
    | nil => rfl
    | cons a b => simp at z2
  refine ⟨hy0, fun j e' hj => ?_⟩
  obtain ⟨hE, zs, z1, z2, z3⟩ := hM j e' hj
  refine ⟨hE.mono fun p hp hc => .tail _ (mem_dropA hp fun e1 => ?_), ?_⟩
  · have h1 := (N _ hp).1
    have h2 := (N _ hy).1
    dsimp only at h2
    rw [e1, h2] at h1
    have h3 := Option.some.inj h1
    rw [← h3] at hc
    rcases hc with hc | hc
    · cases hc
    · have : ("list" : String) = "dict" := by injection hc
      exact absurd this (by decide)
  · by_cases hjk : j = k
    · subst hjk
      rw [he] at hj
      obtain rfl := Option.some.inj hj
      exact ⟨ys ++ [x], .head _, by simp, by rw [hy0]; simp⟩
    · refine ⟨zs, .tail _ (mem_dropA z1 fun e1 => hjk (hd _ _ _ _ hj he e1)), ?_, z3⟩
      have : (j == k) = false := by simp [hjk]
      show _ = (mark j || j == k)
      rw [this, Bool.or_false]
      exact z2
end
section
open PySem PySem.W PyProof.Rows PySem.Spec PySem.Calls PyProof.Rows.LCg
def Apart (ws : List (Addr × String)) (C D : Addr) (news : List (Addr × Obj)) : Prop := ∀ q ∈ news, q.1 ∉ ws.map (·.1) ∧ q.1 ≠ C ∧ q.1 ≠ D
inductive PtEnd (h₀ : Heap) (L : Addr) (m : Str → Option Value) (s₁ : Shared) (ws : List (Addr × String)) (its keep : List (Addr × Obj)) (C : Addr) (oC : Obj) (D : Addr) (ys : List Value) (rest : Value → List (Addr × Obj) → Prop) (y : Value) (s₂ : Shared) : Prop
  | mk (h' : _) (tk : _) (news' : _) (f0 : s₂ = { s₁ with heap := h', toks := tk }) (f1 : Fr h₀ L h' m) (f2 : News h₀ L h' ((C, oC) :: (D, lst ys) :: (its ++ news'))) (f3 : Apart ws C D news') (f4 : (∀ p ∈ keep, p ∈ news')) (f5 : rest y news') : PtEnd h₀ L m s₁ ws its keep C oC D ys rest y s₂
def PtTurn (prog : Program) (w : World) (A : Around) (h₀ : Heap) (L : Addr) (m : Str → Option Value) (env : Env) (c elt : Expr) (a b : Str) (scope : Scope) (cl : List (Str × Addr)) (s : Shared) (ws : List (Addr × String)) (keep : List (Addr × Obj)) (xs : List (Value × Value)) (Inv : Nat → List Value → List (Addr × Obj) → Prop) : Prop :=
  ∀ i p ys news, xs[i]? = some p → Inv i ys news → ∀ its C oC D m₂ h tk (E' : Value → Shared → Prop), Objs ws its → NsObj oC m₂ → m₂ a = some p.1 → m₂ b = some p.2 → Fr h₀ L h m → News h₀ L h ((C, oC) :: (D, lst ys) :: (its ++ news)) → Apart ws C D news → @Ne Nat C D → (∀ q ∈ its, @Ne Nat q.1 C ∧ @Ne Nat q.1 D) →
      wpAny (model prog w) A (isTrue c (compEnvC scope cl C env) (eval c (compEnvC scope cl C env))) (fun okb s₃ => if okb = true then
        wpAny (model prog w) A (eval elt (compEnvC scope cl C env)) (PtEnd h₀ L m { s with heap := h, toks := tk } ws its keep C oC D ys (fun y news' => Inv (i + 1) (ys ++ [y]) news')) E' s₃
        else PtEnd h₀ L m { s with heap := h, toks := tk } ws its keep C oC D ys (fun _ news' => Inv (i + 1) ys news') .none s₃) E' { s with heap := h, toks := tk }
inductive PtV (xs : List (Value × Value)) (i : Nat) (v : Value) (h : Heap) : Prop
  | mk (p : Value × Value) (hp : xs[i]? = some p) (T : Addr) (e : v = .ref T) (hT : h.IsTuple T #[p.1, p.2]) : PtV xs i v h
inductive PtO (ws : List (Addr × String)) (h : Heap) : Prop
  | mk (its : List (Addr × Obj)) (o : Objs ws its) (g : ∀ p ∈ its, h.get? p.1 = some p.2) : PtO ws h
inductive PtSt (h₀ : Heap) (L : Addr) (m : Str → Option Value) (s₂ : Shared) (ws : List (Addr × String)) (keep : List (Addr × Obj)) (C D : Addr) (n : Nat) (St : Nat → Heap → Prop) (Inv : Nat → List Value → List (Addr × Obj) → Prop) (k : Nat) (s' : Shared) : Prop
  | mk (h' : Heap) (tk i : Nat) (ys : List Value) (m' : Str → Option Value) (news' : List (Addr × Obj)) (e : s' = { s₂ with heap := h', toks := tk }) (hi : i ≤ n) (ek : k = n + 1 - i) (hyl : ys.length ≤ i) (hst : St i h') (F : Fr h₀ L h' m) (hn : h'.Ns C m') (N : News h₀ L h' ((D, lst ys) :: news')) (off : Apart ws C D news') (hk : ∀ p ∈ keep, p ∈ news') (R : Inv i ys news') : PtSt h₀ L m s₂ ws keep C D n St Inv k s'
section
variable {prog : Program} {w : World} {A : Around} {s : Shared} {env : Env} {elt iter c target : Expr} {scope : Scope} {pos : Pos}
theorem ct_loop {it acc : Value} {R : Result → Shared → Prop} (I : Nat → Shared → Prop)
    (turn : ∀ n s (E : Value → Shared → Prop) (K : Shared → Prop), (∀ m s, m < n → I m s → K s) → I n s → wpAny (model prog w) A (pyNext it) (fun r s₁ => match r with
      | none => R (.ok .next) s₁
      | some v => wpAny (model prog w) A (letOwnedTupleGo target it v) (fun _ s₀ => wpAny (model prog w) A (assign target env v) (fun _ s₂ =>
          wpAny (model prog w) A (isTrue c env (eval c env)) (fun ok s₃ => if ok = true then wpAny (model prog w) A (eval elt env) (fun x s₄ =>
            wpAny (model prog w) A (call (.builtin "list.append") [acc, x]) (fun _ s₅ => K s₅) E s₄) E s₃
            else K s₃) E s₂) E s₀) E s₁) E s)
    (n : Nat) (h : I n s) : codeAny (model prog w) A (.compLoop (.ListComp elt [⟨target, iter, [c], 0⟩] scope pos) 0 it acc env) R s :=
  kct_loop I (fun n s hI => turn n s _ _ (fun m _ a b => ⟨m, a, b⟩) hI) n h
theorem off1_of {D : Addr} : ∀ {l : List (Addr × Obj)}, (∀ p ∈ l, p.1 ≠ D) → Off1 D l := by
  intro l
  induction l with
  | nil => intro _; trivial
  | cons p r ih => exact fun h => ⟨h p (.head _), ih fun q hq => h q (.tail _ hq)⟩
variable {h₀ : Heap} {L : Addr} {m : Str → Option Value} {a b : Str} {pa pb tp : Pos} {kk : Nat} {cl : List (Str × Addr)} {s₂ : Shared} {I C D : Addr} {fp wr : List Addr} {n : Nat} {P Md : Nat → Value → Heap → Prop} {St : Nat → Heap → Prop} {ws : List (Addr × String)} {keep : List (Addr × Obj)} {xs : List (Value × Value)}
  {Inv : Nat → List Value → List (Addr × Obj) → Prop} {RR : Result → Shared → Prop}
theorem pt_mid {h' h₄ : Heap} {its : List (Addr × Obj)} {oC : Obj} {ys : List Value} {news' : List (Addr × Obj)}
    (hws : ∀ b ∈ ws.map (·.1), b ∈ fp ∧ h₀.get? b = none ∧ b ≠ L) (hwr : ∀ b ∈ wr, b ∈ ws.map (·.1)) (hC : h₀.get? C = none ∧ C ≠ L) (hD : h₀.get? D = none ∧ D ≠ L) (hDC : D ≠ C) (hCfp : ∀ b ∈ fp, b ≠ C ∧ b ≠ D)
    (up : ∀ c o, c ∉ wr → c ≠ C → h'.get? c = some o → h₄.get? c = some o) (hits : Objs ws its) (hval : ∀ p ∈ its, h₄.get? p.1 = some p.2) (heC : h₄.get? C = some oC) (F' : Fr h₀ L h' m) (N' : News h₀ L h' ((D, lst ys) :: news')) (off' : Apart ws C D news') :
    Fr h₀ L h₄ m ∧ News h₀ L h₄ ((C, oC) :: (D, lst ys) :: (its ++ news')) ∧ ∀ q ∈ its, @Ne Nat q.1 C ∧ @Ne Nat q.1 D := by
  have hinws : ∀ q ∈ its, q.1 ∈ ws.map (·.1) := fun q hq => by rw [← hits.map]; exact List.mem_map.mpr ⟨q, hq, rfl⟩
  have wr0 : ∀ {c}, c ∈ wr → h₀.get? c = none ∧ c ≠ L := fun hc => (hws _ (hwr _ hc)).2
  refine ⟨⟨F'.ns.at' fun o e => up _ o (fun h => (wr0 h).2 rfl) (Ne.symm hC.2) e, fun c o e => up c o (fun q => by rw [(wr0 q).1] at e; cases e) (fun q => by rw [q, hC.1] at e; cases e) (F'.keep c o e), F'.above⟩, fun q hq => ?_, fun q hq => hCfp _ (hws _ (hinws q hq)).1⟩
  rcases List.mem_cons.mp hq with rfl | hq
  · exact ⟨heC, hC.2, hC.1⟩
  rcases List.mem_cons.mp hq with rfl | hq
  · exact ⟨up _ _ (fun h => (hCfp _ (hws _ (hwr _ h)).1).2 rfl) hDC (N' _ (.head _)).1, hD.2, hD.1⟩
  rcases List.mem_append.mp hq with hq | hq
  · exact ⟨hval q hq, (hws _ (hinws q hq)).2.2, (hws _ (hinws q hq)).2.1⟩
  · exact ⟨up _ _ (fun x => (off' q hq).1 (hwr _ x)) (off' q hq).2.1 (N' q (.tail _ hq)).1, (N' q (.tail _ hq)).2⟩
theorem pt_fin {target : Expr} (W : KTurns prog w A target I fp wr n P Md St) {i : Nat} {h₄ h₅ : Heap} {tk₅ : Nat} {its news' news₅ : List (Addr × Obj)} {oC : Obj} {m₂ : Str → Option Value} {ys ys' : List Value} (hi : i < n) (hfp : ∀ b ∈ fp, b ∈ ws.map (·.1) ∨ ∃ o, (b, o) ∈ keep) (hits : Objs ws its) (hst : St (i + 1) h₄) (N₄ : News h₀ L h₄ ((C, oC) :: (D, lst ys) :: (its ++ news'))) (hk' : ∀ p ∈ keep, p ∈ news') (hoC : NsObj oC m₂)
    (hl : ys'.length ≤ i + 1) (F₅ : Fr h₀ L h₅ m) (N₅ : News h₀ L h₅ ((C, oC) :: (D, lst ys') :: (its ++ news₅))) (off₅ : Apart ws C D news₅) (hk₅ : ∀ p ∈ keep, p ∈ news₅) (R₅ : Inv (i + 1) ys' news₅) : PtSt h₀ L m s₂ ws keep C D n St Inv (n + 1 - (i + 1)) { s₂ with heap := h₅, toks := tk₅ } := by
  refine ⟨h₅, tk₅, i + 1, ys', _, news₅, rfl, hi, rfl, hl, W.frame _ _ _ hst fun b hb o e => ?_, F₅, hoC.ns (N₅ (C, oC) (.head _)).1, fun q hq => ?_, off₅, hk₅, R₅⟩
  · have key : ∃ o', (b, o') ∈ its ++ news' ∧ (b, o') ∈ its ++ news₅ := by
      rcases hfp b hb with h1 | ⟨o', h1⟩
      · rw [← hits.map] at h1
        obtain ⟨⟨qa, qo⟩, hq, rfl⟩ := List.mem_map.mp h1
        exact ⟨qo, List.mem_append_left _ hq, List.mem_append_left _ hq⟩
      · exact ⟨o', List.mem_append_right _ (hk' _ h1), List.mem_append_right _ (hk₅ _ h1)⟩
    obtain ⟨o', z4, z5⟩ := key
    have h5 := (N₄ _ (.tail _ (.tail _ z4))).1
    rw [h5] at e
    rw [← Option.some.inj e]
    exact (N₅ _ (.tail _ (.tail _ z5))).1
  · rcases List.mem_cons.mp hq with rfl | hq
    · exact N₅ _ (.tail _ (.head _))
    · exact N₅ _ (.tail _ (.tail _ (List.mem_append_right _ hq)))
theorem pt_loop (W : KTurns prog w A (.Tuple [.Name a pa, .Name b pb] kk tp) I fp wr n P Md St)
    (hsz : n ≤ 1000) (hh : A.handled = none) (hP : ∀ i v h, i < n → P i v h → PtV xs i v h) (hobj : ∀ i h, St i h → PtO ws h)
    (hws : ∀ b ∈ ws.map (·.1), b ∈ fp ∧ h₀.get? b = none ∧ b ≠ L) (hwr : ∀ b ∈ wr, b ∈ ws.map (·.1)) (hfp : ∀ b ∈ fp, b ∈ ws.map (·.1) ∨ ∃ o, (b, o) ∈ keep)
    (hkind : scope.kind = .function) (hxa : scope.names.lookup a = some .local) (hxb : scope.names.lookup b = some .local) (hab : ¬ a = b)
    (hC : h₀.get? C = none ∧ C ≠ L) (hD : h₀.get? D = none ∧ D ≠ L) (hDC : D ≠ C) (hCfp : ∀ b ∈ fp, b ≠ C ∧ b ≠ D)
    (R : PtTurn prog w A h₀ L m env c elt a b scope cl s₂ ws keep xs Inv)
    (hRR : ∀ h tk m' ys news', Fr h₀ L h m → News h₀ L h ((D, lst ys) :: news') → Off1 D news' → h.Ns C m' → (∀ p ∈ news', p.1 ≠ C) → Inv n ys news' → RR (.ok .next) { s₂ with heap := h, toks := tk }) {s : Shared} (st0 : PtSt h₀ L m s₂ ws keep C D n St Inv (n + 1) s) :
    codeAny (model prog w) A (.compLoop (.ListComp elt [⟨.Tuple [.Name a pa, .Name b pb] kk tp, iter, [c], 0⟩] scope pos) 0 (.ref I) (.ref D) (compEnvC scope cl C env)) RR s := by
  refine ct_loop (PtSt h₀ L m s₂ ws keep C D n St Inv) (fun k s' E K upK hS => ?_) (n + 1) st0
  clear st0
  obtain ⟨h', tk, i, ys, m', news', rfl, hi, rfl, hyl, hst', F', hn', N', off', hk', R'⟩ := hS
  have nL : ∀ {c}, c ∈ wr → h₀.get? c = none ∧ c ≠ L := fun hc => (hws _ (hwr _ hc)).2
  have nC : C ∉ wr := fun h => (hCfp C (hws C (hwr C h)).1).1 rfl
  by_cases hlt' : i < n
  · refine W.item i _ _ _ hlt' hst' fun v h₂ tk₂ hMd hk₂ => ?_
    refine W.go i v _ _ _ hMd fun h₃ hPi hst₃ hk₃ => ?_
    obtain ⟨p, hp, T, rfl, hT⟩ := hP i v h₃ hlt' hPi
    have up₃ : ∀ c o, c ∉ wr → h'.get? c = some o → h₃.get? c = some o := fun c o hc e => hk₃ c o hc (hk₂ c o hc e)
    refine kcp_assign (env := compEnvC scope cl C env) hh hT (lookup_relabel_local hxa) (lookup_relabel_local hxb) (by simp [compEnvC, relabel, hkind]) (hn'.at' fun o e => up₃ _ o nC e) fun h₄ tk₄ hn₄ hs₄ => ?_
    have hst₄ : St (i + 1) h₄ := W.frame _ _ _ hst₃ fun b hb o e => hs₄ b o (hCfp b hb).1 e
    obtain ⟨its, hits, hval⟩ := hobj (i + 1) h₄ hst₄
    obtain ⟨oC, heC, hoC⟩ := ns_obj hn₄
    obtain ⟨F₄, N₄, hap⟩ := pt_mid hws hwr hC hD hDC hCfp (fun c o h1 h2 e => hs₄ c o h2 (up₃ c o h1 e)) hits hval heC F' N' off'
    have hm : n + 1 - (i + 1) < n + 1 - i := by omega
    refine wpAny_mono (R i p ys news' hp R' its C oC D _ h₄ _ _ hits hoC (by simp [hab]) (by simp) F₄ N₄ off' (Ne.symm hDC) hap) (fun okb s₅ h₅ => ?_) fun _ _ e => e
    cases okb with
    | false =>
      obtain ⟨h₅, tk₅, news₅, rfl, F₅, N₅, off₅, hk₅, R₅⟩ := (show PtEnd _ _ _ _ _ _ _ _ _ _ _ _ _ _ from h₅)
      exact upK _ _ hm (pt_fin W hlt' hfp hits hst₄ N₄ hk' hoC (Nat.le_succ_of_le hyl) F₅ N₅ off₅ hk₅ R₅)
    | true =>
      refine wpAny_mono (show wpAny _ _ _ _ _ _ from h₅) (fun y s₆ h₆ => ?_) fun _ _ e => e
      obtain ⟨h₅, tk₅, news₅, rfl, F₅, N₅, off₅, hk₅, R₅⟩ := h₆
      refine append_at (hsz := by show ys.toArray.size ≤ sizeLine; rw [List.size_toArray, sizeLine_eq]; omega) (N₅ (D, lst ys) (.tail _ (.head _))).1 fun h₆ hs₆ hD₆ => ?_
      refine upK _ _ hm (pt_fin W hlt' hfp hits hst₄ N₄ hk' hoC (by rw [List.length_append, List.length_singleton]; omega) (F₅.change hs₆ hD.2 hD.1) (fun q hq => ?_) off₅ hk₅ R₅)
      rcases List.mem_cons.mp hq with rfl | hq
      · exact ⟨hs₆.extBut _ oC (Ne.symm hDC) (N₅ (C, oC) (.head _)).1, hC.2, hC.1⟩
      rcases List.mem_cons.mp hq with rfl | hq
      · exact ⟨hD₆.trans (congrArg some (lst_snoc ys y)), hD.2, hD.1⟩
      have z := N₅ q (.tail _ (.tail _ hq))
      refine ⟨hs₆.extBut _ _ ?_ z.1, z.2⟩
      rcases List.mem_append.mp hq with hq | hq
      · exact (hap _ hq).2
      · exact (off₅ q hq).2.2
  · obtain rfl : i = n := Nat.le_antisymm hi (Nat.not_lt.mp hlt')
    refine W.done _ _ _ hst' fun h₂ tk₂ hk₂ => ?_
    refine hRR h₂ tk₂ _ ys news' ⟨F'.ns.at' fun o e => hk₂ _ o (fun h => (nL h).2 rfl) e, fun c o e => hk₂ c o (fun q => by rw [(nL q).1] at e; cases e) (F'.keep c o e), F'.above⟩ (fun q hq => ⟨hk₂ _ _ ?_ (N' q hq).1, (N' q hq).2⟩) (off1_of fun p hp => (off' p hp).2.2) (hn'.at' fun o e => hk₂ _ o nC e) (fun p hp => (off' p hp).2.1) R'
    rcases List.mem_cons.mp hq with rfl | hq
    · exact fun h => (hCfp _ (hws _ (hwr _ h)).1).2 rfl
    · exact fun x => (off' q hq).1 (hwr _ x)
inductive PtIt (prog : Program) (w : World) (A : Around) (h₀ : Heap) (L : Addr) (m : Str → Option Value) (env : Env) (c elt : Expr) (a b : Str) (pa pb tp : Pos) (kk : Nat) (scope : Scope) (cl : List (Str × Addr)) (Fin : Shared → List Value → List (Addr × Obj) → Prop) (it : Value) (s₂ : Shared) : Prop
  | mk (I : Addr) (fp wr : List Addr) (n : Nat) (P Md : Nat → Value → Heap → Prop) (St : Nat → Heap → Prop) (ws : List (Addr × String)) (keep : List (Addr × Obj)) (xs : List (Value × Value)) (news : List (Addr × Obj)) (Inv : Nat → List Value → List (Addr × Obj) → Prop) (e : it = .ref I)
    (W : KTurns prog w A (.Tuple [.Name a pa, .Name b pb] kk tp) I fp wr n P Md St) (self : ∀ i (s : Shared) (Q : Value → Shared → Prop) (E : Value → Shared → Prop), St i s.heap → Q (.ref I) s → wpAny (model prog w) A (pyIter (.ref I)) Q E s)
    (hsz : n ≤ 1000) (hh : A.handled = none) (hP : ∀ i v h, i < n → P i v h → PtV xs i v h) (hobj : ∀ i h, St i h → PtO ws h)
    (hws : ∀ b ∈ ws.map (·.1), b ∈ fp ∧ h₀.get? b = none ∧ b ≠ L) (hwr : ∀ b ∈ wr, b ∈ ws.map (·.1)) (hfp : ∀ b ∈ fp, b ∈ ws.map (·.1) ∨ ∃ o, (b, o) ∈ keep) (hlt : ∀ b ∈ fp, b < s₂.heap.objs.size) (hnw : ∀ p ∈ news, p.1 ∉ ws.map (·.1)) (hst : St 0 s₂.heap) (hk : ∀ p ∈ keep, p ∈ news)
    (F : Fr h₀ L s₂.heap m) (N : News h₀ L s₂.heap news) (R0 : Inv 0 [] news) (R : PtTurn prog w A h₀ L m env c elt a b scope cl s₂ ws keep xs Inv) (fin : ∀ ys n', Inv n ys n' → Fin s₂ ys n') : PtIt prog w A h₀ L m env c elt a b pa pb tp kk scope cl Fin it s₂
theorem pt_ListCompE {E : Value → Shared → Prop} {s : Shared} {Q : Value → Shared → Prop}
    (hclos : closureFor scope env = pure cl) (hcell : ∀ y ∈ scope.names, y.2 ≠ .cell) (hkind : scope.kind = .function)
    (hnames : ∀ y ∈ scope.names, y.2 = .local → scope.names.lookup y.1 = some .local) (hxa : scope.names.lookup a = some .local) (hxb : scope.names.lookup b = some .local) (hab : ¬ a = b)
    (h : wpAny (model prog w) A (eval iter env) (fun xv s₁ => wpAny (model prog w) A (pyIter xv) (fun it s₂ => ∃ m, PtIt prog w A h₀ L m env c elt a b pa pb tp kk scope cl (fun s₂ => FinE h₀ L m s₂ Q) it s₂) E s₁) E s)
    (hs : ∀ x, foldedSetIterable iter env x = pure x := by intro _; rfl) :
    wpAny (model prog w) A (eval (.ListComp elt [⟨.Tuple [.Name a pa, .Name b pb] kk tp, iter, [c], 0⟩] scope pos) env) Q E s := by
  rw [eval_ListComp]
  refine wpAny_comprehension_free (use := none) rfl hs hclos hkind hnames (wpAny_mono h (fun xv s₁ h₁ => ?_) fun _ _ e => e)
  refine wpAny_mono h₁ (fun it s₂ h₂ => ?_) fun _ _ e => e
  obtain ⟨m, I, fp, wr, n, P, Md, St, ws, keep, xs, news, Inv, rfl, W, self, hsz, hh, hP, hobj, hws, hwr, hfp, hlt, hnw, hst, hk, F, N, R0, R, fin⟩ := h₂
  refine wpAny_newObj_type (wpAny_newFunctionEnv hcell (by intro y hy; simp at hy) (fun h₁ hns₁ hsb₁ => ?_) hkind)
  dsimp only at hns₁ hsb₁ ⊢
  have hC : (s₂.heap.push { cls := .type "list", dict := none, data := .seq ([] : List Value).toArray }).objs.size = s₂.heap.objs.size + 1 := Heap.size_push _ _
  rw [hC] at hns₁ hsb₁
  have below : ∀ b, b < s₂.heap.objs.size → b ≠ s₂.heap.objs.size + 1 ∧ b ≠ s₂.heap.objs.size := fun b hb => ⟨Nat.ne_of_lt (Nat.lt_succ_of_lt hb), Nat.ne_of_lt hb⟩
  have old : ∀ b o, s₂.heap.get? b = some o → h₁.get? b = some o := fun b o e => hsb₁.extBut b o (below b (Heap.lt_size e)).1 (Heap.get?_push_of_some _ (Heap.get?_push_of_some _ e))
  have hacc := hsb₁.extBut _ _ (Nat.ne_of_lt (Nat.lt_succ_self _)) (Heap.get?_push_of_some _ (Heap.get?_push_size s₂.heap (o := { cls := .type "list", dict := none, data := .seq ([] : List Value).toArray }) rfl))
  have fresh₀ : ∀ a, s₂.heap.objs.size ≤ a → h₀.get? a = none ∧ a ≠ L := fun a ha => ⟨by
    cases e : h₀.get? a with
    | none => rfl
    | some o' => exact absurd (Heap.lt_size (F.keep a o' e)) (Nat.not_lt.mpr ha), Nat.ne_of_gt (Nat.lt_of_lt_of_le F.ns.lt ha)⟩
  have hD := fresh₀ _ (Nat.le_refl _)
  have hC0 := fresh₀ _ (Nat.le_succ _)
  rw [hC]
  refine codeAny_compStart_list ?_ (self 0 _ _ _ (W.frame 0 _ _ hst fun b _ o e => old b o e) ?_)
  all_goals
    refine pt_loop W hsz hh hP hobj hws hwr hfp hkind hxa hxb hab hC0 hD (Nat.ne_of_lt (Nat.lt_succ_self _)) (fun b hb => below b (hlt b hb)) R ?_ ⟨h₁, _, 0, [], _, news, rfl, Nat.zero_le _, rfl, Nat.le_refl _, W.frame 0 _ _ hst (fun b _ o e => old b o e), F.keeps old, hns₁, fun p hp => ?_, fun p hp => ⟨hnw p hp, below _ (Heap.lt_size (N p hp).1)⟩, hk, R0⟩
    · intro h tk m' ys news' F' N' o1 hn offC hI
      refine ⟨m', hn, fun h'' hs'' => fin _ _ hI _ h'' tk (F'.change hs'' hC0.2 hC0.1) (fun p hp => ⟨hs''.extBut _ _ ?_ (N' p hp).1, (N' p hp).2⟩) o1⟩
      k_extra "rm"
      · exact Nat.ne_of_lt (Nat.lt_succ_self _)
      · exact offC p hp
    · k_extra "rm"
      · exact ⟨hacc, hD.2, hD.1⟩
      · exact ⟨old _ _ (N p hp).1, (N p hp).2⟩
end
section
variable {prog : Program} {w : World} {A : Around} {E : Value → Shared → Prop} {s : Shared}
theorem IsTupIter.at {h h' : Heap} {a t : Addr} {i : Nat} (x : IsTupIter h a t i) (e : ∀ o, h.get? a = some o → h'.get? a = some o) : IsTupIter h' a t i := by
  obtain ⟨o, ho, r⟩ := x
  exact ⟨o, e _ ho, r⟩
theorem tup_at {h h' : Heap} {a : Addr} {items : Array Value} (x : IsTup h a items) (e : ∀ o, h.get? a = some o → h'.get? a = some o) : IsTup h' a items := by
  obtain ⟨o, ho, r⟩ := x
  exact ⟨o, e _ ho, r⟩
theorem tup_turn {o ot : Obj} {it t : Addr} {i n : Nat} {items : Array Value} {x : Value} {Q : Value → Shared → Prop} (ho : s.heap.get? it = some o) (hd : o.data = .fields #[.ref t, .int i 0]) (ht : s.heap.get? t = some ot) (hs : ot.data = .seq items n) (hx : items[i]? = some x)
    (h : Q x { s with heap := s.heap.update it (Obj.mapFields (·.setIfInBounds 1 (rawInt (i + 1)))) }) : wpAny (model prog w) A (Builtin.«tuple_iterator.__next__» ⟨[.ref it], []⟩) (fun fin s' => ∃ v, fin = .done (.ret v) ∧ Q v s') E s := by
  have g0 : (#[.ref t, .int i 0] : Array Value)[0]? = some (.ref t) := rfl
  have g1 : (#[.ref t, .int i 0] : Array Value)[1]? = some (.int i 0) := rfl
  have hx' : items[(i : Int).toNat]? = some x := hx
  wp_walk using wpAny_field ho hd g0, wpAny_field ho hd g1, wpAny_seqItems ht hs
  simp only [hx']
  refine wpAny_bind (wpAny_setField ho hd (show 1 < 2 from Nat.lt_succ_self 1) ?_)
  wp_walk
  exact ⟨_, rfl, h⟩
theorem tup_out {o ot : Obj} {it t : Addr} {i n : Nat} {items : Array Value} {Q : Fin → Shared → Prop} (hh : A.handled = none) (ho : s.heap.get? it = some o) (hd : o.data = .fields #[.ref t, .int i 0]) (ht : s.heap.get? t = some ot) (hs : ot.data = .seq items n) (hx : items[i]? = none)
    (h : ∀ h' e, Heap.ExtBut it s.heap h' → (∃ o, h'.get? e = some o ∧ o.cls = .type "StopIteration") → E (.ref e) { s with heap := h' }) : wpAny (model prog w) A (Builtin.«tuple_iterator.__next__» ⟨[.ref it], []⟩) Q E s := by
  have g0 : (#[.ref t, .int i 0] : Array Value)[0]? = some (.ref t) := rfl
  have g1 : (#[.ref t, .int i 0] : Array Value)[1]? = some (.int i 0) := rfl
  have hx' : items[(i : Int).toNat]? = none := hx
  wp_walk using wpAny_field ho hd g0, wpAny_field ho hd g1, wpAny_seqItems ht hs
  simp only [hx']
  wp_walk using wpAny_field ho hd g0, wpAny_field ho hd g1
  simp only [hd]
  wp_walk
  unfold raiseNew
  refine wpAny_bind (wpAny_handled ?_)
  rw [hh]
  wp_walk
  exact h _ _ (((Heap.SameBut.update ..).extBut.push _).push _) ⟨_, Heap.get?_push_size _ rfl, rfl⟩
theorem next_by {it : Addr} {Q : Value → Shared → Prop} (hT : s.TypeIs (.ref it) "tuple_iterator")
    (h : wpAny (model prog w) A.in1 (Builtin.«tuple_iterator.__next__» ⟨[.ref it], []⟩) (fun fin s' => ∃ v, fin = .done (.ret v) ∧ Q v s') E s) : wpAny (model prog w) A (Builtin.SmallTypes.nextOf (.ref it)) Q E s :=
  wpAny_bind (wpAny_callSpecial?_slot (name := Str.ofString "__next__") hT slot_tupleiter_next (wpAny_call_entry slot_tupleiter_next hT entry_tupleiter_next
    (wpAny_mono h (fun _ _ ⟨v, e, q⟩ => ⟨v, e, wpAny_pure q⟩) fun _ _ q => q) (args_tupleiter_next _)))
structure But (a : Addr) (h h' : Heap) : Prop where
  size : h'.objs.size = h.objs.size
  keep : ∀ c o, c ≠ a → h.get? c = some o → h'.get? c = some o
theorem But.upd (h : Heap) (a : Addr) (f : Obj → Obj) : But a h (h.update a f) := ⟨Heap.size_update .., fun _ _ n e => (Heap.get?_update_ne _ _ _ f n).trans e⟩
theorem zip_draws {z TI TO i1 i2 : Addr} {v1 v2 x y a b : Value} {M : Model} {E : Value → Shared → Prop} {A : Around} {Q : Fin → Shared → Prop} {G1 G2 : Heap → Prop}
    (hz : IsZip s.heap z TI TO .none) (hTI : IsPair s.heap TI v1 v2) (hTO : IsPair s.heap TO a b) (n1 : TO ≠ z) (n2 : TO ≠ i1) (n3 : TO ≠ i2) (n4 : z ≠ i1) (n5 : z ≠ i2)
    (d1 : ∀ (h1 : Heap) (Q' E' : Value → Shared → Prop), But z s.heap h1 → (∀ h2, But i1 h1 h2 → G1 h2 → Q' x { s with heap := h2 }) → wpAny M A (Builtin.SmallTypes.nextOf v1) Q' E' { s with heap := h1 })
    (d2 : ∀ (h1 : Heap) (Q' E' : Value → Shared → Prop), (∃ h0, G1 h0 ∧ But TO h0 h1) → (∀ h2, But i2 h1 h2 → G2 h2 → Q' y { s with heap := h2 }) → wpAny M A (Builtin.SmallTypes.nextOf v2) Q' E' { s with heap := h1 })
    (k : ∀ h', IsZip h' z TI TO (rawInt s.heap.objs.size) → IsPair h' TO x y → IsPair h' s.heap.objs.size x y → (∃ h2, G1 h2 ∧ ∀ c o, c ≠ z → c ≠ TO → c ≠ i2 → h2.get? c = some o → h'.get? c = some o) →
      (∃ h4, G2 h4 ∧ ∀ c o, c ≠ z → c ≠ TO → h4.get? c = some o → h'.get? c = some o) → (∀ c o, c ≠ z → c ≠ TO → c ≠ i1 → c ≠ i2 → s.heap.get? c = some o → h'.get? c = some o) → Q (.done (.ret (.ref s.heap.objs.size))) { s with heap := h' }) :
    wpAny M A (Builtin.«zip.__next__» ⟨[.ref z], []⟩) Q E s := by
  obtain ⟨h, g, d, t, os⟩ := s
  have hid := And.intro d1 (And.intro d2 k)
  clear d1 d2 k
  have e0 : h.get? z = _ := hz
  have e1 : h.get? TI = _ := hTI
  have e2 : h.get? TO = _ := hTO
  clear hz hTI hTO
  repeat (first | with_reducible refine wpAny_bind ?_ | with_reducible refine wpAny_pure ?_ | with_reducible apply wpAny_loadPart' e0 | with_reducible apply wpAny_load e0 | with_reducible apply wpAny_load e1 | wp_delta | wp_step)
  simp only [List.zipIdx_cons, List.zipIdx_nil]
  refine wpAny_onRaise ?_
  show wpAny _ _ (Builtin.SmallTypes.nextOf v1 >>= _) _ _ _
  refine wpAny_bind (hid.1 _ _ _ (But.upd _ _ _) fun h2 b2 q2 => wpAny_pure ?_)
  have e3 : h2.get? TO = _ := b2.keep _ _ n2 ((But.upd h z _).keep _ _ n1 e2)
  repeat (first | with_reducible refine wpAny_bind ?_ | with_reducible refine wpAny_pure ?_ | with_reducible apply wpAny_loadPart' e3 | with_reducible apply wpAny_load e3 | wp_delta | wp_step)
  refine wpAny_onRaise ?_
  show wpAny _ _ (Builtin.SmallTypes.nextOf v2 >>= _) _ _ _
  refine wpAny_bind (hid.2.1 _ _ _ ⟨h2, q2, But.upd _ _ _⟩ fun h4 b4 q4 => wpAny_pure ?_)
  have e5 := b4.keep TO _ n3 (Heap.get?_update_self _ e3 rfl)
  have e6 := b4.keep z _ n5 ((But.upd h2 TO _).keep z _ n1.symm (b2.keep z _ n4 (Heap.get?_update_self _ e0 rfl)))
  repeat (first | with_reducible refine wpAny_bind ?_ | with_reducible refine wpAny_pure ?_ | with_reducible apply wpAny_loadPart' e5 | with_reducible apply wpAny_load e5 | wp_delta | wp_step)
  generalize hH : Heap.update (Heap.update (Heap.push (Heap.update h4 TO _) _) z _) z _ = H
  have hs : (h4.update TO (Obj.mapSeq fun x => x.setIfInBounds (v2, 0 + 1).snd y)).objs.size = h.objs.size := by rw [Heap.size_update, b4.size, Heap.size_update, b2.size, Heap.size_update]
  have up : ∀ c o, c ≠ z → (h4.update TO (Obj.mapSeq fun x => x.setIfInBounds (v2, 0 + 1).snd y)).get? c = some o → H.get? c = some o := fun c o n e => by
    rw [← hH]; exact (But.upd _ z _).keep _ _ n ((But.upd _ z _).keep _ _ n (Heap.get?_push_of_some _ e))
  have u4 : ∀ c o, c ≠ z → c ≠ TO → h4.get? c = some o → H.get? c = some o := fun c o n n' e => up c o n ((But.upd h4 TO _).keep _ _ n' e)
  have u2 : ∀ c o, c ≠ z → c ≠ TO → c ≠ i2 → h2.get? c = some o → H.get? c = some o := fun c o n n' m e => u4 c o n n' (b4.keep _ _ m ((But.upd h2 TO _).keep _ _ n' e))
  have lz : z < h.objs.size := Heap.lt_size e0
  show Q (.done (.ret (.ref (h4.update TO (Obj.mapSeq fun x => x.setIfInBounds (v2, 0 + 1).snd y)).objs.size))) ⟨H, g, d, t, os⟩
  have new : H.get? h.objs.size = some { cls := .type "tuple", data := .seq #[x, y] } := by
    rw [← hH, ← hs]
    have n : (h4.update TO (Obj.mapSeq fun x => x.setIfInBounds (v2, 0 + 1).snd y)).objs.size ≠ z := by rw [hs]; exact Nat.ne_of_gt lz
    exact (But.upd _ z _).keep _ _ n ((But.upd _ z _).keep _ _ n (Heap.get?_push_size _ rfl))
  have ez : IsZip H z TI TO (rawInt h.objs.size) := by
    rw [← hH, hs]
    exact Heap.get?_update_self _ (Heap.get?_update_self _ (Heap.get?_push_of_some _ ((But.upd h4 TO _).keep _ _ n1.symm e6)) rfl) rfl
  rw [hs]
  exact hid.2.2 H ez (up _ _ n1 (Heap.get?_update_self _ e5 rfl)) new ⟨h2, q2, u2⟩ ⟨h4, q4, u4⟩ fun c o a1 a2 a3 a4 e => u2 c o a1 a2 a4 (b2.keep _ _ a3 ((But.upd h z _).keep _ _ a1 e))
theorem zip_stops {z TI TO i1 : Addr} {v1 v2 : Value} {M : Model} {E : Value → Shared → Prop} {A : Around} {Q : Fin → Shared → Prop}
    (hz : IsZip s.heap z TI TO .none) (hTI : IsPair s.heap TI v1 v2) (n4 : z ≠ i1)
    (d1 : ∀ (h1 : Heap) (Q' E' : Value → Shared → Prop), But z s.heap h1 → (∀ h2 e, Heap.ExtBut i1 h1 h2 → (∃ o, h2.get? e = some o ∧ o.cls = .type "StopIteration") → E' (.ref e) { s with heap := h2 }) → wpAny M A (Builtin.SmallTypes.nextOf v1) Q' E' { s with heap := h1 })
    (k : ∀ h' e, (∀ c o, c ≠ z → c ≠ i1 → s.heap.get? c = some o → h'.get? c = some o) → (∃ o, h'.get? e = some o ∧ o.cls = .type "StopIteration") → E (.ref e) { s with heap := h' }) :
    wpAny M A (Builtin.«zip.__next__» ⟨[.ref z], []⟩) Q E s := by
  obtain ⟨h, g, d, t, os⟩ := s
  have hid := And.intro d1 k
  clear d1 k
  have e0 : h.get? z = _ := hz
  have e1 : h.get? TI = _ := hTI
  clear hz hTI
  repeat (first | with_reducible refine wpAny_bind ?_ | with_reducible refine wpAny_pure ?_ | with_reducible apply wpAny_loadPart' e0 | with_reducible apply wpAny_load e0 | with_reducible apply wpAny_load e1 | wp_delta | wp_step)
  simp only [List.zipIdx_cons, List.zipIdx_nil]
  refine wpAny_onRaise ?_
  show wpAny _ _ (Builtin.SmallTypes.nextOf v1 >>= _) _ _ _
  refine wpAny_bind (hid.1 _ _ _ (But.upd _ _ _) fun h2 e b2 ⟨oe, he, hc⟩ => ?_)
  have e3 : h2.get? z = _ := b2 _ _ n4 (Heap.get?_update_self _ e0 rfl)
  have ne : e ≠ z := fun x => by
    have y : some oe = some _ := he.symm.trans ((congrArg h2.get? x).trans e3)
    rw [Option.some.inj y] at hc
    exact absurd (Value.type.inj hc) (by decide)
  repeat (first | with_reducible refine wpAny_bind ?_ | with_reducible refine wpAny_pure ?_ | with_reducible apply wpAny_loadPart' e3 | with_reducible apply wpAny_load e3 | wp_delta | wp_step)
  exact hid.2 _ e (fun c o n n' x => (But.upd h2 z _).keep _ _ n (b2 _ _ n' ((But.upd h z _).keep _ _ n x))) ⟨oe, (But.upd h2 z _).keep _ _ ne he, hc⟩
theorem zt_item {z TI TO i1 i2 l1 l2 : Addr} {k : Nat} {xs ys : Array Value} {x y a b : Value} {Q : Value → Shared → Prop} (D : ZipApart z TI TO i1 i2 l1 l2)
    (hz : IsZip s.heap z TI TO .none) (hTI : IsPair s.heap TI (.ref i1) (.ref i2)) (hTO : IsPair s.heap TO a b)
    (h1 : IsTupIter s.heap i1 l1 k) (h2 : s.heap.IsListIter i2 l2 k) (hl1 : IsTup s.heap l1 xs) (hl2 : s.heap.IsList l2 ys) (hx : xs[k]? = some x) (hy : ys[k]? = some y)
    (hQ : ∀ h', IsZip h' z TI TO (rawInt s.heap.objs.size) → IsPair h' TO x y → IsTupIter h' i1 l1 (k + 1) → h'.IsListIter i2 l2 (k + 1) → IsPair h' s.heap.objs.size x y →
      (∀ c o, c ≠ z → c ≠ TO → c ≠ i1 → c ≠ i2 → s.heap.get? c = some o → h'.get? c = some o) → Q (.ref s.heap.objs.size) { s with heap := h' }) :
    wpAny (model prog w) A (Builtin.«zip.__next__» ⟨[.ref z], []⟩) (fun fin s' => ∃ v, fin = .done (.ret v) ∧ Q v s') E s := by
  refine zip_draws (i1 := i1) (i2 := i2) (x := x) (y := y) (G1 := fun h' => IsTupIter h' i1 l1 (k + 1) ∧ h'.IsListIter i2 l2 k ∧ h'.IsList l2 ys) (G2 := fun h' => h'.IsListIter i2 l2 (k + 1)) hz hTI hTO D.TOz D.TOi1 D.TOi2 D.i1z.symm D.i2z.symm ?_ ?_ ?_
  · intro h' Q' E' b q
    obtain ⟨o, ho, hc, hd⟩ := IsTupIter.at h1 fun o e => b.keep _ o D.i1z e
    obtain ⟨ol, hol, _, nl, hdl⟩ := tup_at hl1 fun o e => b.keep _ o D.l1z e
    refine next_by ⟨o, ho, hc⟩ (tup_turn ho hd hol hdl hx (q _ (But.upd _ _ _) ⟨⟨_, Heap.get?_update_self _ ho (Obj.isFreed_of_fields (Obj.data_mapFields hd _)), (Obj.cls_mapFields ..).trans hc, (Obj.data_mapFields hd _).trans rfl⟩, ?_, ?_⟩))
    · exact (h2.at fun o e => b.keep _ o D.i2z e).at fun o e => (But.upd h' i1 _).keep _ o D.i12.symm e
    · exact (hl2.at fun o e => b.keep _ o D.l2z e).at fun o e => (But.upd h' i1 _).keep _ o D.l2i1 e
  · rintro h' Q' E' ⟨h0, ⟨_, g2, g3⟩, b⟩ q
    exact wpAny_nextOf_list_item (g2.at fun o e => b.keep _ o D.TOi2.symm e) (g3.at fun o e => b.keep _ o D.l2TO e) hy fun h3 x3 s3 => q h3 ⟨s3.1, s3.extBut⟩ x3
  · rintro h' a1 a2 a3 ⟨g, ⟨g1, _, _⟩, u⟩ ⟨g', g2, u'⟩ kp
    exact ⟨_, rfl, hQ h' a1 a2 (IsTupIter.at g1 fun o e => u _ o D.i1z D.TOi1.symm D.i12 e) (g2.at fun o e => u' _ o D.i2z D.TOi2.symm e) a3 kp⟩
theorem zt_end {z TI TO i1 i2 l1 l2 : Addr} {k : Nat} {xs : Array Value} {Q : Fin → Shared → Prop} (hh : A.handled = none) (D : ZipApart z TI TO i1 i2 l1 l2)
    (hz : IsZip s.heap z TI TO .none) (hTI : IsPair s.heap TI (.ref i1) (.ref i2)) (h1 : IsTupIter s.heap i1 l1 k) (hl1 : IsTup s.heap l1 xs) (hx : xs[k]? = none)
    (hE : ∀ h' e, (∀ c o, c ≠ z → c ≠ TO → c ≠ i1 → c ≠ i2 → s.heap.get? c = some o → h'.get? c = some o) → (∃ o, h'.get? e = some o ∧ o.cls = .type "StopIteration") → E (.ref e) { s with heap := h' }) :
    wpAny (model prog w) A (Builtin.«zip.__next__» ⟨[.ref z], []⟩) Q E s := by
  refine zip_stops (i1 := i1) hz hTI D.i1z.symm (fun h' Q' E' b q => ?_) fun h' e kp he => hE h' e (fun c o n _ n' _ x => kp c o n n' x) he
  obtain ⟨o, ho, hc, hd⟩ := IsTupIter.at h1 fun o e => b.keep _ o D.i1z e
  obtain ⟨ol, hol, _, nl, hdl⟩ := tup_at hl1 fun o e => b.keep _ o D.l1z e
  exact next_by ⟨o, ho, hc⟩ (tup_out hh ho hd hol hdl hx q)
end
theorem zt_new (l1 l2 : Addr) (xs ys : Array Value) :
    Meets (Builtin.«zip.__new__» ⟨[.type "zip", .ref l1, .ref l2], []⟩) (fun _ R s => IsTup s.heap l1 xs ∧ s.heap.IsList l2 ys ∧
      R (.ok (.ret (.ref (s.heap.objs.size + 4)))) { s with heap := ((((s.heap.push { cls := .type "tuple_iterator", data := .fields #[.ref l1, .int 0 0] }).push { cls := .type "list_iterator", data := .fields #[.ref l2, .int 0 0] }).push { cls := .type "tuple", data := .seq #[.ref s.heap.objs.size, .ref (s.heap.objs.size + 1)] }).push { cls := .type "tuple", data := .seq #[.none, .none] }).push { cls := .type "zip", data := .fields #[.none, .bool false, .bool false, .ref (s.heap.objs.size + 2), .ref (s.heap.objs.size + 3)] } }) :=
  .of_wp fun prog w A R s h => by
    obtain ⟨hp, g, d, tk, os⟩ := s; obtain ⟨hl1, hl2, h⟩ := h
    have hsub := sub_zip
    have hL1 : IsTup (Shared.heap ⟨hp, g, d, tk, os⟩) l1 xs := hl1
    have hL2 : Heap.IsList (Shared.heap ⟨hp.push { cls := .type "tuple_iterator", data := .fields #[.ref l1, .int 0 0] }, g, d, tk, os⟩) l2 ys := Heap.IsList.push hl2 _
    repeat (first | with_reducible refine wpAny_bind ?_ | with_reducible refine wpAny_pure ?_ | with_reducible apply iter_tuple hL1 | with_reducible apply wpAny_pyIter_list hL2 | wp_delta | wp_step)
    simp only [Heap.size_push] at h ⊢
    exact ⟨_, rfl, h⟩
structure ZtSt (z TI TO i1 i2 l1 l2 : Addr) (xs ys : Array Value) (i : Nat) (h : Heap) : Prop where
  f0 : IsZip h z TI TO .none
  f1 : IsPair h TI (.ref i1) (.ref i2)
  f2 : (∃ a b, IsPair h TO a b)
  f3 : IsTupIter h i1 l1 i
  f4 : h.IsListIter i2 l2 i
  f5 : IsTup h l1 xs
  f6 : h.IsList l2 ys
def ZtP (xs ys : Array Value) (i : Nat) (v : Value) (h : Heap) : Prop := ∃ T x y, v = .ref T ∧ xs[i]? = some x ∧ ys[i]? = some y ∧ h.IsTuple T #[x, y]
inductive ZtMd (z TI TO i1 i2 l1 l2 : Addr) (xs ys : Array Value) (i : Nat) (v : Value) (h : Heap) : Prop
  | mk (T : _) (x : _) (y : _) (f0 : v = .ref T) (f1 : xs[i]? = some x) (f2 : ys[i]? = some y) (f3 : IsPair h T x y) (f4 : IsZip h z TI TO (rawInt T)) (f5 : IsPair h TI (.ref i1) (.ref i2)) (f6 : (∃ a b, IsPair h TO a b)) (f7 : IsTupIter h i1 l1 (i + 1)) (f8 : h.IsListIter i2 l2 (i + 1)) (f9 : IsTup h l1 xs) (f10 : h.IsList l2 ys) (f11 : T ≠ z) : ZtMd z TI TO i1 i2 l1 l2 xs ys i v h
theorem zt_turns {prog : Program} {w : World} {A : Around} (hh : A.handled = none) {elts : List Expr} {kk : Nat} {pos : Pos} {z TI TO i1 i2 l1 l2 : Addr} (D : ZipApart z TI TO i1 i2 l1 l2) {xs ys : Array Value} (hs : xs.size = ys.size) :
    KTurns prog w A (.Tuple elts kk pos) z [z, TI, TO, i1, i2, l1, l2] [z, TO, i1, i2] xs.size (ZtP xs ys) (ZtMd z TI TO i1 i2 l1 l2 xs ys) (ZtSt z TI TO i1 i2 l1 l2 xs ys) where
  sub := fun c hc => by simp at hc ⊢; rcases hc with rfl | rfl | rfl | rfl <;> simp
  frame := fun i h h' ⟨hz, hTI, ⟨a, b, hTO⟩, h1, h2, hl1, hl2⟩ hk =>
    ⟨hk z (by simp) _ hz, hk TI (by simp) _ hTI, ⟨a, b, hk TO (by simp) _ hTO⟩, IsTupIter.at h1 fun o e => hk i1 (by simp) o e, h2.at fun o e => hk i2 (by simp) o e, tup_at hl1 fun o e => hk l1 (by simp) o e, hl2.at fun o e => hk l2 (by simp) o e⟩
  item := fun i s Q E hi hst hQ => by
    obtain ⟨hz, hTI, ⟨a, b, hTO⟩, h1, h2, hl1, hl2⟩ := hst
    have hiy : i < ys.size := hs ▸ hi
    have hT : s.TypeIs (.ref z) "zip" := ⟨_, hz, rfl⟩
    unfold pyNext
    refine wpAny_bind (wpAny_attempt (wpAny_callSpecial?_slot (name := Str.ofString "__next__") hT F.slot_zip_next (wpAny_call_entry F.slot_zip_next hT F.entry_zip_next
        (zt_item D hz hTI hTO h1 h2 hl1 hl2 (Array.getElem?_eq_getElem hi) (Array.getElem?_eq_getElem hiy) fun h' a1 a2 a3 a4 a5 hk => wpAny_pure ?_) (F.args_zip_next_1 _))))
    refine hQ (.ref s.heap.objs.size) h' s.toks ⟨_, _, _, rfl, Array.getElem?_eq_getElem hi, Array.getElem?_eq_getElem hiy, a5, a1, hk _ _ D.TIz D.TITO D.TIi1 D.TIi2 hTI, ⟨_, _, a2⟩, a3, a4,
      tup_at hl1 fun o e => hk _ o D.l1z D.l1TO D.l1i1 D.l1i2 e, hl2.at fun o e => hk _ o D.l2z D.l2TO D.l2i1 D.l2i2 e, Nat.ne_of_gt (Heap.lt_size hz)⟩ fun c o hc e => hk c o (fun x => hc (by simp [x])) (fun x => hc (by simp [x])) (fun x => hc (by simp [x])) (fun x => hc (by simp [x])) e
  go := fun i v s Q E hm hQ => by
    obtain ⟨T, x, y, rfl, hx, hy, hT, hz, hTI, ⟨a, b, hTO⟩, h1, h2, hl1, hl2, hTz⟩ := hm
    refine wpAny_letOwnedTupleGo_zip hz fun h' hz' hs' => hQ h' ⟨T, x, y, rfl, hx, hy, _, hs'.extBut _ _ hTz hT, rfl, _, rfl⟩ ⟨hz', hs'.extBut _ _ D.TIz hTI, ⟨a, b, hs'.extBut _ _ D.TOz hTO⟩, h1.extBut hs'.extBut D.i1z, h2.extBut hs'.extBut D.i2z,
      hl1.extBut hs'.extBut D.l1z, hl2.extBut hs'.extBut D.l2z⟩ fun c o hc e => hs'.extBut _ _ (fun x => hc (by simp [x])) e
  done := fun s Q E hst hQ => by
    obtain ⟨hz, hTI, _, h1, _, hl1, _⟩ := hst
    have hT : s.TypeIs (.ref z) "zip" := ⟨_, hz, rfl⟩
    unfold pyNext
    refine wpAny_bind (wpAny_attempt (wpAny_callSpecial?_slot (name := Str.ofString "__next__") hT F.slot_zip_next
      (wpAny_call_entry F.slot_zip_next hT F.entry_zip_next (zt_end hh D hz hTI h1 hl1 (Array.getElem?_eq_none (Nat.le_refl _)) fun h' e hk he => ?_) (F.args_zip_next_1 _))))
    obtain ⟨o, ho, hc⟩ := he
    refine wpAny_bind (wpAny_isInstance (T := "StopIteration") (b := true) ⟨o, ho, hc⟩ isSubtype_stop ?_)
    exact wpAny_pure (hQ h' s.toks fun c o hc e => hk c o (fun x => hc (by simp [x])) (fun x => hc (by simp [x])) (fun x => hc (by simp [x])) (fun x => hc (by simp [x])) e)
theorem push_at {h : Heap} {o : Obj} {k : Addr} (hk : h.objs.size = k) (ho : o.isFreed = false) : (h.push o).get? k = some o := hk ▸ Heap.get?_push_size h ho
theorem zip_it {prog : Program} {w : World} {A : Around} {E : Value → Shared → Prop} {s : Shared} {h₀ : Heap} {L : Addr} {m : Str → Option Value} {env : Env} {elt c : Expr} {a b : Str} {pa pb tp : Pos} {kk : Nat} {scope : Scope} {cl : List (Str × Addr)} {Fin : Shared → List Value → List (Addr × Obj) → Prop}
    {l1 l2 : Addr} {xs ys : List Value} {c1 c2 : Nat} {news : List (Addr × Obj)} (hh : A.handled = none) (F : Fr h₀ L s.heap m) (N : News h₀ L s.heap news) (m1 : (l1, tup xs c1) ∈ news) (m2 : (l2, listOf ys.toArray c2) ∈ news) (hs : xs.length = ys.length) (hsz : xs.length ≤ 1000)
    {Inv : Nat → List Value → List (Addr × Obj) → Prop} (R0 : Inv 0 [] news) (R : ∀ ws h2 t2, PtTurn prog w A h₀ L m env c elt a b scope cl { s with heap := h2, toks := t2 } ws [(l1, tup xs c1), (l2, listOf ys.toArray c2)] (xs.zip ys) Inv) (fin : ∀ h2 t2 zs n', Inv xs.length zs n' → Fin { s with heap := h2, toks := t2 } zs n') :
    wpAny (model prog w) A (call (.type "zip") [.ref l1, .ref l2]) (fun xv s₁ => wpAny (model prog w) A (pyIter xv) (fun it s₂ => PtIt prog w A h₀ L m env c elt a b pa pb tp kk scope cl Fin it s₂) E s₁) E s := by
  have t1 := News.isTup N m1
  have t2 : s.heap.IsList l2 ys.toArray := ⟨_, (N _ m2).1, rfl, _, rfl⟩
  refine callType_new PySem.F.called_zip (by decide) (PySem.F.typeCall_zip_2 _ _) (PySem.F.newCall_zip_2 _ _) (fun obj => PySem.F.args_object_init_3 obj _ _) PySem.F.entry_zip_new (zt_new l1 l2 xs.toArray ys.toArray) ⟨t1, t2, ?_⟩
  generalize hH : ((((s.heap.push { cls := .type "tuple_iterator", data := .fields #[.ref l1, .int 0 0] }).push { cls := .type "list_iterator", data := .fields #[.ref l2, .int 0 0] }).push { cls := .type "tuple", data := .seq #[.ref s.heap.objs.size, .ref (s.heap.objs.size + 1)] }).push { cls := .type "tuple", data := .seq #[.none, .none] }).push { cls := .type "zip", data := .fields #[.none, .bool false, .bool false, .ref (s.heap.objs.size + 2), .ref (s.heap.objs.size + 3)] } = H
  have g5 : H.get? (s.heap.objs.size + 4) = some { cls := .type "zip", data := .fields #[.none, .bool false, .bool false, .ref (s.heap.objs.size + 2), .ref (s.heap.objs.size + 3)] } := by
    rw [← hH]; exact push_at (by simp only [Heap.size_push]) rfl
  have g4 : H.get? (s.heap.objs.size + 3) = some { cls := .type "tuple", data := .seq #[.none, .none] } := by
    rw [← hH]; exact Heap.get?_push_of_some _ (push_at (by simp only [Heap.size_push]) rfl)
  have g3 : H.get? (s.heap.objs.size + 2) = some { cls := .type "tuple", data := .seq #[.ref s.heap.objs.size, .ref (s.heap.objs.size + 1)] } := by
    rw [← hH]; exact Heap.get?_push_of_some _ (Heap.get?_push_of_some _ (push_at (by simp only [Heap.size_push]) rfl))
  have g2 : H.get? (s.heap.objs.size + 1) = some { cls := .type "list_iterator", data := .fields #[.ref l2, .int 0 0] } := by
    rw [← hH]; exact Heap.get?_push_of_some _ (Heap.get?_push_of_some _ (Heap.get?_push_of_some _ (push_at (by simp only [Heap.size_push]) rfl)))
  have g1 : H.get? s.heap.objs.size = some { cls := .type "tuple_iterator", data := .fields #[.ref l1, .int 0 0] } := by
    rw [← hH]; exact Heap.get?_push_of_some _ (Heap.get?_push_of_some _ (Heap.get?_push_of_some _ (Heap.get?_push_of_some _ (Heap.get?_push_size _ rfl))))
  have gs : H.objs.size = s.heap.objs.size + 5 := by rw [← hH]; simp only [Heap.size_push]
  have up : ∀ c o, s.heap.get? c = some o → H.get? c = some o := fun c o e => by
    rw [← hH]; exact Heap.get?_push_of_some _ (Heap.get?_push_of_some _ (Heap.get?_push_of_some _ (Heap.get?_push_of_some _ (Heap.get?_push_of_some _ e))))
  clear hH
  have lt1 : l1 < s.heap.objs.size := Heap.lt_size (N _ m1).1
  have lt2 : l2 < s.heap.objs.size := Heap.lt_size (N _ m2).1
  have hL : L < s.heap.objs.size := F.ns.lt
  have hnone : ∀ b, s.heap.objs.size ≤ b → h₀.get? b = none ∧ b ≠ L := fun b hb => ⟨by
    cases e : h₀.get? b with
    | none => rfl
    | some o => exact absurd (Heap.lt_size (F.keep b o e)) (Nat.not_lt.mpr hb), fun e => Nat.lt_irrefl _ (Nat.lt_of_lt_of_le (e ▸ hL) hb)⟩
  generalize hA : s.heap.objs.size = a₀ at *
  have D : ZipApart (a₀ + 4) (a₀ + 2) (a₀ + 3) a₀ (a₀ + 1) l1 l2 := by
    constructor <;> (show @Ne Nat _ _) <;> (have q1 : @LT.lt Nat _ l1 a₀ := lt1) <;> (have q2 : @LT.lt Nat _ l2 a₀ := lt2) <;> omega
  refine ⟨⟨_, g5, rfl⟩, wpAny_pyIter_zip g5 ?_⟩
  refine ⟨a₀ + 4, _, _, xs.toArray.size, ZtP xs.toArray ys.toArray, ZtMd (a₀ + 4) (a₀ + 2) (a₀ + 3) a₀ (a₀ + 1) l1 l2 xs.toArray ys.toArray, ZtSt (a₀ + 4) (a₀ + 2) (a₀ + 3) a₀ (a₀ + 1) l1 l2 xs.toArray ys.toArray,
    [(a₀ + 4, "zip"), (a₀ + 2, "tuple"), (a₀ + 3, "tuple"), (a₀, "tuple_iterator"), (a₀ + 1, "list_iterator")], [(l1, tup xs c1), (l2, listOf ys.toArray c2)], xs.zip ys, news, Inv, rfl, zt_turns hh D (by simpa using hs), fun i s Q E st hQ => wpAny_pyIter_zip st.1 hQ,
    by simp; omega, hh, ?_, ?_, ?_, ?_, ?_, ?_, ?_, ⟨g5, g3, ⟨_, _, g4⟩, ⟨_, g1, rfl, rfl⟩, ⟨_, g2, rfl, rfl⟩, tup_at t1 (up _), t2.at (up _)⟩, ?_, F.keeps up, N.grown up, R0, R _ _ _, fun zs n' h => fin _ _ zs n' (by rw [List.size_toArray] at h; exact h)⟩
  · rintro i v h _ ⟨T, x, y, rfl, hx, hy, hT⟩
    refine ⟨(x, y), ?_, T, rfl, hT⟩
    simp only [List.getElem?_toArray] at hx hy
    rw [List.getElem?_zip_eq_some]
    exact ⟨hx, hy⟩
  · rintro i h ⟨hz, hTI, ⟨a, b, hTO⟩, ⟨o1, ho1, hc1, _⟩, ⟨o2, ho2, hc2, _⟩, _⟩
    refine ⟨[(a₀ + 4, _), (a₀ + 2, _), (a₀ + 3, _), (a₀, o1), (a₀ + 1, o2)], ⟨⟨rfl, ?_⟩, ⟨rfl, ?_⟩, ⟨rfl, ?_⟩, ⟨rfl, hc1⟩, ⟨rfl, hc2⟩, trivial⟩, List.forall_mem_cons.mpr ⟨hz, List.forall_mem_cons.mpr ⟨hTI, List.forall_mem_cons.mpr ⟨hTO, List.forall_mem_cons.mpr ⟨ho1, List.forall_mem_cons.mpr ⟨ho2, List.forall_mem_nil _⟩⟩⟩⟩⟩⟩ <;> rfl
  · intro b hb
    simp only [List.map_cons, List.map_nil, List.mem_cons, List.not_mem_nil, or_false] at hb ⊢
    rcases hb with rfl | rfl | rfl | rfl | rfl
    · exact ⟨.inl rfl, hnone _ (by omega)⟩
    · exact ⟨.inr (.inl rfl), hnone _ (by omega)⟩
    · exact ⟨.inr (.inr (.inl rfl)), hnone _ (by omega)⟩
    · exact ⟨.inr (.inr (.inr (.inl rfl))), hnone _ (Nat.le_refl _)⟩
    · exact ⟨.inr (.inr (.inr (.inr (.inl rfl)))), hnone _ (by omega)⟩
  · intro b hb
    simp only [List.map_cons, List.map_nil, List.mem_cons, List.not_mem_nil, or_false] at hb ⊢
    rcases hb with rfl | rfl | rfl | rfl <;> simp
  · intro b hb
    simp only [List.map_cons, List.map_nil, List.mem_cons, List.not_mem_nil, or_false] at hb ⊢
    rcases hb with rfl | rfl | rfl | rfl | rfl | rfl | rfl
    · exact .inl (.inl rfl)
    · exact .inl (.inr (.inl rfl))
    · exact .inl (.inr (.inr (.inl rfl)))
    · exact .inl (.inr (.inr (.inr (.inl rfl))))
    · exact .inl (.inr (.inr (.inr (.inr rfl))))
    · exact .inr ⟨_, .inl rfl⟩
    · exact .inr ⟨_, .inr rfl⟩
  · intro b hb
    have q1 : @LT.lt Nat _ l1 a₀ := lt1
    have q2 : @LT.lt Nat _ l2 a₀ := lt2
    simp only [List.mem_cons, List.not_mem_nil, or_false] at hb
    show @LT.lt Nat _ b H.objs.size
    rw [gs]
    rcases hb with rfl | rfl | rfl | rfl | rfl | rfl | rfl <;> omega
  · intro p hp hw
    have q1 : @LT.lt Nat _ p.1 a₀ := hA ▸ Heap.lt_size (N p hp).1
    simp only [List.map_cons, List.map_nil, List.mem_cons, List.not_mem_nil, or_false] at hw
    rcases hw with h | h | h | h | h <;> (have h : @Eq Nat p.1 _ := h) <;> omega
  · intro p hp
    simp only [List.mem_cons, List.not_mem_nil, or_false] at hp
    rcases hp with rfl | rfl
    · exact m1
    · exact m2
theorem rows_it {prog : Program} {w : World} {A : Around} {E : Value → Shared → Prop} {s : Shared} {h₀ : Heap} {L : Addr} {m : Str → Option Value} {env : Env} {elt c : Expr} {a b : Str} {pa pb tp : Pos} {kk : Nat} {scope : Scope} {cl : List (Str × Addr)} {Fin : Shared → List Value → List (Addr × Obj) → Prop}
    {ax T1 T2 : Addr} {a1 b1 a2 b2 : Value} {c0 c1 c2 : Nat} {news : List (Addr × Obj)} (hh : A.handled = none) (F : Fr h₀ L s.heap m) (N : News h₀ L s.heap news) (m0 : (ax, listOf #[.ref T1, .ref T2] c0) ∈ news) (m1 : (T1, tup [a1, b1] c1) ∈ news) (m2 : (T2, tup [a2, b2] c2) ∈ news)
    {Inv : Nat → List Value → List (Addr × Obj) → Prop} (R0 : Inv 0 [] news) (R : ∀ ws h2 t2, PtTurn prog w A h₀ L m env c elt a b scope cl { s with heap := h2, toks := t2 } ws [(ax, listOf #[.ref T1, .ref T2] c0), (T1, tup [a1, b1] c1), (T2, tup [a2, b2] c2)] [(a1, b1), (a2, b2)] Inv) (fin : ∀ h2 t2 zs n', Inv 2 zs n' → Fin { s with heap := h2, toks := t2 } zs n') :
    wpAny (model prog w) A (pyIter (.ref ax)) (fun it s₂ => PtIt prog w A h₀ L m env c elt a b pa pb tp kk scope cl Fin it s₂) E s := by
  have hl : s.heap.IsList ax #[.ref T1, .ref T2] := ⟨_, (N _ m0).1, rfl, _, rfl⟩
  have lt : ∀ {p : Addr × Obj}, p ∈ news → @LT.lt Nat _ p.1 s.heap.objs.size := fun hp => Heap.lt_size (N _ hp).1
  refine wpAny_pyIter_list hl ?_
  generalize hI : s.heap.objs.size = I at *
  have up : ∀ b o, s.heap.get? b = some o → (s.heap.push { cls := .type "list_iterator", data := .fields #[.ref ax, .int 0 0] }).get? b = some o := fun b o e => Heap.get?_push_of_some _ e
  have l0 := lt m0
  have l1 := lt m1
  have l2 := lt m2
  have hIo : (s.heap.push { cls := .type "list_iterator", data := .fields #[.ref ax, .int 0 0] }).get? I = some { cls := .type "list_iterator", data := .fields #[.ref ax, .int 0 0] } := push_at hI rfl
  have W := WalksU.listOfTuples (prog := prog) (w := w) (A := A) hh I ax (Nat.ne_of_lt l0) #[.ref T1, .ref T2] (fun k => if k = 0 then T1 else T2) (fun k => if k = 0 then #[a1, b1] else #[a2, b2])
    (fun j hj => by
      rcases (show j = 0 ∨ j = 1 by have : j < 2 := hj; omega) with rfl | rfl <;> rfl)
    (fun j _ => by
      split
      · exact Nat.ne_of_lt l1
      · exact Nat.ne_of_lt l2)
  refine ⟨I, _, _, _, _, _, _, [(I, "list_iterator")], [(ax, listOf #[.ref T1, .ref T2] c0), (T1, tup [a1, b1] c1), (T2, tup [a2, b2] c2)], [(a1, b1), (a2, b2)], news, Inv, rfl, KTurns.ofWalksU W, fun i s Q E st hQ => wpAny_pyIter_listiter st.1 hQ,
    (show 2 ≤ 1000 by decide), hh, ?_, ?_, ?_, ?_, ?_, ?_, ?_, ⟨⟨_, hIo, rfl, rfl⟩, hl.at fun o e => up _ _ e, fun k _ => by
      split
      · exact ⟨_, up _ _ (N _ m1).1, rfl, _, rfl⟩
      · exact ⟨_, up _ _ (N _ m2).1, rfl, _, rfl⟩⟩, ?_, F.keeps up, N.grown up, R0, R _ _ _, fun zs n' h => fin _ _ zs n' h⟩
  · rintro i v h hi ⟨T, vals, rfl, rfl, hT⟩
    by_cases h0 : i = 0
    · subst h0; exact ⟨_, rfl, T, rfl, hT⟩
    · rw [if_neg h0] at hT
      obtain rfl : i = 1 := by have : i < 2 := hi; omega
      exact ⟨_, rfl, T, rfl, hT⟩
  · rintro i h ⟨⟨o, ho, hc, _⟩, _⟩
    exact ⟨[(I, o)], ⟨⟨rfl, hc⟩, trivial⟩, List.forall_mem_cons.mpr ⟨ho, List.forall_mem_nil _⟩⟩
  · intro b hb
    obtain rfl : b = I := by simpa using hb
    exact ⟨.head _, by
      cases e : h₀.get? b with
      | none => rfl
      | some o => exact absurd (Heap.lt_size (F.keep b o e)) (by rw [hI]; exact Nat.lt_irrefl _), fun e => Nat.lt_irrefl b (by
      have := F.ns.lt
      rw [hI] at this
      exact e ▸ this)⟩
  · intro b hb
    simpa using hb
  · intro b hb
    rcases List.mem_cons.mp hb with rfl | hb
    · exact .inl (.head _)
    rcases List.mem_cons.mp hb with rfl | hb
    · exact .inr ⟨_, .head _⟩
    obtain ⟨k, _, rfl⟩ := List.mem_map.mp hb
    split
    · exact .inr ⟨_, .tail _ (.head _)⟩
    · exact .inr ⟨_, .tail _ (.tail _ (.head _))⟩
  · intro b hb
    show @LT.lt Nat _ b (s.heap.push _).objs.size
    rw [Heap.size_push, hI]
    rcases List.mem_cons.mp hb with rfl | hb
    · exact Nat.lt_succ_self _
    rcases List.mem_cons.mp hb with rfl | hb
    · exact Nat.lt_succ_of_lt l0
    obtain ⟨k, _, rfl⟩ := List.mem_map.mp hb
    split
    · exact Nat.lt_succ_of_lt l1
    · exact Nat.lt_succ_of_lt l2
  · intro p hp hw
    have : p.1 = I := by simpa using hw
    exact Nat.ne_of_lt (lt hp) this
  · exact List.forall_mem_cons.mpr ⟨m0, List.forall_mem_cons.mpr ⟨m1, List.forall_mem_cons.mpr ⟨m2, List.forall_mem_nil _⟩⟩⟩
end
section
open PySem PySem.W PyProof.Rows PySem.Spec PySem.Calls PyProof.Rows.LCg
open PySem.F in
theorem list_no_keys {prog : Program} {w : World} {A : Around} {E : Value → Shared → Prop} {s : Shared} {a : Addr} {xs : Array Value} {k : Nat} {Q : Option Value → Shared → Prop}
    (hx : s.heap.get? a = some { cls := .type "list", data := .seq xs k }) (hA : A.handled = none)
    (h : ∀ h' tk, (∀ b o, s.heap.get? b = some o → h'.get? b = some o) → Q none { s with heap := h', toks := tk }) : wpAny (model prog w) A (getAttr? (.ref a) "keys") Q E s := by
  obtain ⟨hp, g, d, tk, os⟩ := s
  have hT : ∀ tk', (⟨hp, g, d, tk', os⟩ : Shared).TypeIs (.ref a) "list" := fun _ => ⟨_, hx, rfl⟩
  have f1 := sub_AttributeError
  have f3 := PySem.F.slot_list_getattribute.lookup
  have f4 := PySem.F.slot_list_getattribute.bind (.ref a)
  have f5 := am_list_getattr_none
  have hmiss : typeLookup (.type "list") (Str.ofString "keys") = pure none := by rw [typeLookup_type, builtinLookup_eq_fast]; kernel_rfl
  unfold getAttr? getAttrBy? getAttrBy
  repeat (any_goals (first | assumption | exact hT _ | ((with_reducible show wpAny _ _ (call (Value.builtin "list.__getattribute__") _ _) _ _ _); refine call_meets PySem.F.slot_list_getattribute (hT _) am_entry_list_getattribute (PySem.F.args_list_getattribute_2 _ _) (meets_getattribute_miss_list a xs k #[] (Str.ofString "keys") _ hmiss (by decide +kernel) (by decide +kernel)) ⟨hx, hA, fun h' tk' e hx' => ?_⟩) | wp_step))
  obtain ⟨t', u', he⟩ := hx'.there
  show wpAny _ _ (getattributeRaised _ _ _ _ _ _ _) _ _ _
  unfold getattributeRaised
  repeat (any_goals (first | assumption | wp_step))
  exact h _ _ hx'.keeps
theorem plain_upd : plainId "dict.update.loop" = true := by decide +kernel
theorem entry_upd : entryFor table "dict.update.loop" = some Builtin.«dict.update.loop» := entryFor_of_fast (by kernel_rfl)
theorem upd_loop {d it ax : Addr} (hdi : d ≠ it) (hda : d ≠ ax) (hia : ax ≠ it) {w : World} (prog : Program) (ps : List (Addr × Str × Tok × Value)) (hp : ∀ p ∈ ps, p.1 ≠ d ∧ p.1 ≠ it) (hl : ps.length ≤ 100) : ∀ (r : List (Addr × Str × Tok × Value)) (i : Nat) (kvs : List (Str × Value)), ps.drop i = r → i ≤ ps.length → kvs.length ≤ i → ∀ (A : Around) (R : Result → Shared → Prop) (s : Shared), A.handled = none →
    s.heap.IsListIter it ax i → s.heap.IsList ax (ps.map fun p => Value.ref p.1).toArray → s.heap.DictOf (PySem.strKind prog w) d kvs → (∀ p ∈ ps, IsTup s.heap p.1 #[.str p.2.1 p.2.2.1, p.2.2.2]) →
    (∀ h' tk', h'.DictOf (PySem.strKind prog w) d (r.foldl (fun acc p => stored acc p.2.1 p.2.2.2) kvs) → (∀ b o, b ≠ d → b ≠ it → s.heap.get? b = some o → h'.get? b = some o) → R (.ok (.ret .none)) { s with heap := h', toks := tk' }) →
    wpAny (model prog w) A.in1 (Builtin.«dict.update.loop» ⟨[.ref d, .ref it, rawInt i, .none], []⟩) (fun fin s' => match fin with | .done f => R (.ok f) s' | .again c' => c'.quiet = true ∧ codeAny (model prog w) A c' R s') (fun e s' => R (.error e) s') s := by
  intro r
  induction r with
  | nil =>
    intro i kvs hr hi hk A R s hh hit hls hd ht hR
    have hi' : ps.length ≤ i := List.drop_eq_nil_iff.mp hr
    show wpAny _ _ (pyNext (.ref it) >>= _) _ _ s
    refine wpAny_bind (wpAny_pyNext_list_end hh hit hls (by rw [List.getElem?_toArray, List.getElem?_map, List.getElem?_eq_none hi']; rfl) fun h' hs' => ?_)
    show wpAny _ _ (Builtin.Dict.addKeywords d [] >>= _) _ _ _
    exact wpAny_bind (wpAny_pure (wpAny_pure (hR h' _ (hd.extBut hs' hdi) fun b o _ hb e => hs' b o hb e)))
  | cons p r ih =>
    intro i kvs hr hi hk A R s hh hit hls hd ht hR
    have hlt : i < ps.length := by
      rcases Nat.lt_or_ge i ps.length with h | h
      · exact h
      · rw [List.drop_eq_nil_of_le h] at hr; cases hr
    have hpi : ps[i]? = some p := by
      rw [List.drop_eq_getElem_cons hlt] at hr
      injection hr with h1 h2
      rw [List.getElem?_eq_getElem hlt, h1]
    have hpm : p ∈ ps := List.mem_of_getElem? hpi
    show wpAny _ _ (pyNext (.ref it) >>= _) _ _ s
    refine wpAny_bind (wpAny_pyNext_list_item hit hls (x := .ref p.1) (by rw [List.getElem?_toArray, List.getElem?_map, hpi]; rfl) fun h' hit' hs' => ?_)
    have ht' : ∀ q ∈ ps, IsTup h' q.1 #[.str q.2.1 q.2.2.1, q.2.2.2] := fun q hq => (ht q hq).extBut hs'.extBut (hp q hq).2
    obtain ⟨oT, hoT, hcT, nT, hdT⟩ := ht' p hpm
    refine wpAny_bind (wpAny_holding (wpAny_bind (wpAny_tryCatch ?_)))
    show wpAny _ _ (Builtin.Dict.pairItems (.ref p.1)) _ _ _
    unfold Builtin.Dict.pairItems
    refine wpAny_bind (wpAny_typeOf ⟨oT, hoT, hcT⟩ ?_)
    rw [if_pos (by decide)]
    refine wpAny_bind (wpAny_seqItems hoT hdT (wpAny_pure ?_))
    show wpAny _ _ (holding [Value.str p.2.1 p.2.2.1, p.2.2.2] (dictSet d (.str p.2.1 p.2.2.1) p.2.2.2)) _ _ _
    refine wpAny_holding (wpAny_dictSet_pairs (knd := PySem.strKind prog w) (strKind_is _ _ _ _) (hd.extBut hs'.extBut hdi) (fun h2 hd2 hs2 => ?_) (by rw [sizeLine_eq]; omega))
    refine wpAny_pure ⟨plainId_quiet plain_upd _, codeAny_builtin entry_upd ?_⟩
    rw [Around.under_plainId plain_upd _]
    have hr2 : ps.drop (i + 1) = r := by
      rw [List.drop_eq_getElem_cons hlt] at hr
      injection hr
    refine ih (i + 1) (stored kvs p.2.1 p.2.2.2) hr2 hlt ?_ A R _ hh (hit'.extBut hs2.extBut (Ne.symm hdi)) ((hls.extBut hs'.extBut hia).extBut hs2.extBut (Ne.symm hda)) hd2 (fun q hq => (ht' q hq).extBut hs2.extBut (hp q hq).1) ?_
    · unfold stored
      split
      · rw [List.length_map]; omega
      · rw [List.length_append, List.length_singleton]; omega
    · intro h3 tk3 hd3 hk3
      exact hR h3 tk3 hd3 fun b o hb1 hb2 e => hk3 b o hb1 hb2 (hs2.extBut b o hb1 (hs'.extBut b o hb2 e))
theorem dict_up {w : World} {prog : Program} {h h' : Heap} {a : Addr} {kvs : List (Str × Value)} (x : h.DictOf (PySem.strKind prog w) a kvs) (hk : ∀ b o, h.get? b = some o → h'.get? b = some o) : h'.DictOf (PySem.strKind prog w) a kvs := by
  obtain ⟨o, es, ep, ho, r⟩ := x
  exact ⟨o, es, ep, hk _ _ ho, r⟩
theorem call_dict_pairs {w : World} {prog : Program} {A : Around} {E : Value → Shared → Prop} {s : Shared} {h₀ : Heap} {L ax : Addr} {m : Str → Option Value} {news : List (Addr × Obj)} {Q : Value → Shared → Prop} (hh : A.handled = none) (F : Fr h₀ L s.heap m) (N : News h₀ L s.heap news)
    (ps : List (Addr × Str × Tok × Value)) (hl : ps.length ≤ 100) (hax : (ax, LCg.lst (ps.map fun p => Value.ref p.1)) ∈ news) (hps : ∀ p ∈ ps, ∃ c, (p.1, tup [.str p.2.1 p.2.2.1, p.2.2.2] c) ∈ news)
    (k : ∀ D o h' tk', Fr h₀ L h' m → News h₀ L h' ((D, o) :: news) → AllLt D news → o.IsDictOf (PySem.strKind prog w) (ps.foldl (fun acc p => stored acc p.2.1 p.2.2.2) []) → Q (.ref D) { s with heap := h', toks := tk' }) :
    wpAny (model prog w) A (call (.type "dict") [.ref ax]) Q E s := by
  have ho : ∀ p ∈ news, @LT.lt Nat _ p.1 s.heap.objs.size := fun p hp => Heap.lt_size (N p hp).1
  have hlist : s.heap.IsList ax (ps.map fun p => Value.ref p.1).toArray := ⟨_, (N _ hax).1, rfl, _, rfl⟩
  refine callType_codes (Q₁ := fun obj s₁ => obj = .ref s.heap.objs.size ∧ s₁ = { s with heap := s.heap.push { cls := .type "dict", data := .dict #[] } }) PySem.F.kt_called_dict (PySem.F.kt_typeCall_dict_1 _) PySem.F.entry_dict_init (kt_code_dict_new _ ⟨rfl, rfl⟩) ?_
  rintro obj s₁ ⟨rfl, rfl⟩
  have hnew : (s.heap.push { cls := .type "dict", data := .dict #[] }).DictOf (PySem.strKind prog w) s.heap.objs.size [] := Heap.DictOf.new s.heap
  refine ⟨hnew.typeIs, PySem.F.args_dict_init_2 _ _, ?_⟩
  generalize hD : s.heap.objs.size = D at *
  have up1 : ∀ b o, s.heap.get? b = some o → (s.heap.push { cls := .type "dict", data := .dict #[] }).get? b = some o := fun b o e => Heap.get?_push_of_some _ e
  unfold Builtin.«dict.__init__»
  refine wpAny_bind ?_
  unfold Builtin.Dict.selfAndRest
  refine wpAny_bind (wpAny_notOrdered_dict hnew.typeIs ?_)
  show wpAny _ _ (pure (D, [Value.ref ax])) _ _ _
  refine wpAny_pure ?_
  show wpAny _ _ (Builtin.Dict.updateFrom "dict.__init__" D (.ref ax) [] .none) _ _ _
  unfold Builtin.Dict.updateFrom
  refine wpAny_bind (wpAny_typeOf (T := "list") ⟨_, up1 _ _ (N _ hax).1, rfl⟩ ?_)
  rw [if_pos (by decide)]
  refine wpAny_bind (list_no_keys (up1 _ _ (N _ hax).1) hh fun h2 tk2 up2 => ?_)
  rw [if_pos (by decide)]
  refine wpAny_bind (wpAny_rule ?_)
  have up : ∀ b o, s.heap.get? b = some o → h2.get? b = some o := fun b o e => up2 _ _ (up1 _ _ e)
  have hl2 : h2.IsList ax (ps.map fun p => Value.ref p.1).toArray := hlist.at fun o e => up _ _ e
  refine wpAny_bind (wpAny_pyIter_list hl2 ?_)
  generalize hI : h2.objs.size = I at *
  have hdD : h2.DictOf (PySem.strKind prog w) D [] := dict_up hnew up2
  have ltD : @LT.lt Nat _ D I := by
    obtain ⟨o, _, _, ho', _⟩ := hdD
    exact hI ▸ Heap.lt_size ho'
  have ltN : ∀ p ∈ news, @LT.lt Nat _ p.1 I := fun p hp => Nat.lt_trans (ho p hp) ltD
  have up3 : ∀ b o, h2.get? b = some o → (h2.push { cls := .type "list_iterator", data := .fields #[.ref ax, .int 0 0] }).get? b = some o := fun b o e => Heap.get?_push_of_some _ e
  have hI3 : (h2.push { cls := .type "list_iterator", data := .fields #[.ref ax, .int 0 0] }).get? I = some { cls := .type "list_iterator", data := .fields #[.ref ax, .int 0 0] } := push_at hI rfl
  refine wpAny_pure ⟨plainId_quiet plain_upd _, codeAny_builtin entry_upd ?_⟩
  rw [Around.under_plainId plain_upd _]
  refine upd_loop (d := D) (it := I) (ax := ax) (Nat.ne_of_lt ltD) (Nat.ne_of_gt (ho _ hax)) (Nat.ne_of_lt (ltN _ hax)) prog ps (fun p hp => ?_) hl ps 0 [] rfl (Nat.zero_le _) (Nat.le_refl _) A.in1 _ _ hh ⟨_, hI3, rfl, rfl⟩ (hl2.at fun o e => up3 _ _ e) (dict_up hdD up3) (fun p hp => ?_) ?_
  · obtain ⟨c, hc⟩ := hps p hp
    exact ⟨Nat.ne_of_lt (ho _ hc), Nat.ne_of_lt (ltN _ hc)⟩
  · obtain ⟨c, hc⟩ := hps p hp
    exact ⟨_, up3 _ _ (up _ _ (N _ hc).1), rfl, _, rfl⟩
  · intro h4 tk4 hd4 hk4
    obtain ⟨o', ho', hd'⟩ := Heap.dictOf_iff.mp hd4
    have hDn : h₀.get? D = none ∧ D ≠ L := ⟨by
      cases e : h₀.get? D with
      | none => rfl
      | some o => exact absurd (Heap.lt_size (F.keep D o e)) (by rw [hD]; exact Nat.lt_irrefl _), fun e => Nat.lt_irrefl D (by
      have := F.ns.lt
      rw [hD] at this
      exact e ▸ this)⟩
    have keep : ∀ b o, b ≠ D → s.heap.get? b = some o → h4.get? b = some o := fun b o hb e => hk4 b o hb (fun e2 => by
      have : @LT.lt Nat _ b D := hD ▸ Heap.lt_size e
      exact Nat.lt_irrefl b (Nat.lt_trans this (e2 ▸ ltD))) (up3 _ _ (up _ _ e))
    refine ⟨rfl, k D o' h4 tk4 ⟨F.ns.at' fun o e => keep _ o (Ne.symm hDn.2) e, fun b o e => keep b o (fun e2 => by rw [e2, hDn.1] at e; cases e) (F.keep b o e), F.above⟩ (fun p hp => ?_) (allLt_of ho) hd'⟩
    k_extra "rm"
    · exact ⟨ho', hDn.2, hDn.1⟩
    · exact ⟨keep _ _ (Nat.ne_of_lt (ho p hp)) (N p hp).1, (N p hp).2⟩
end
section
open PySem PySem.W PyProof.Rows PySem.Spec PySem.Calls PyProof.Rows.LCg
noncomputable def All2 {α β : Type} (R : α → β → Prop) : List α → List β → Prop
  | [], [] => True
  | a :: l, b :: r => R a b ∧ All2 R l r
  | _, _ => False
theorem All2.imp {α β : Type} {R R' : α → β → Prop} (h : ∀ a b, R a b → R' a b) : ∀ {l : List α} {r : List β}, All2 R l r → All2 R' l r
  | [], [], _ => trivial
  | _ :: _, _ :: _, x => ⟨h _ _ x.1, All2.imp h x.2⟩
  | [], _ :: _, x => x
  | _ :: _, [], x => x
theorem All2.get {α β : Type} {R : α → β → Prop} : ∀ {l : List α} {r : List β}, All2 R l r → ∀ {i : Nat} {a : α}, l[i]? = some a → ∃ b, r[i]? = some b ∧ R a b
  | [], [], _, i, a, h => by simp at h
  | a :: l, b :: r, x, 0, _, h => ⟨b, rfl, by rw [← Option.some.inj h]; exact x.1⟩
  | a :: l, b :: r, x, i + 1, _, h => All2.get x.2 h
  | [], _ :: _, x, _, _, _ => x.elim
  | _ :: _, [], x, _, _, _ => x.elim
theorem All2.len {α β : Type} {R : α → β → Prop} : ∀ {l : List α} {r : List β}, All2 R l r → l.length = r.length
  | [], [], _ => rfl
  | _ :: _, _ :: _, x => congrArg (· + 1) (All2.len x.2)
  | [], _ :: _, x => x.elim
  | _ :: _, [], x => x.elim
theorem All2.un {α β : Type} {R : α → β → Prop} {P : List α → Prop} {b : β} {r : List β} {vs : List α} (h : All2 R vs (b :: r)) (k : ∀ v l, R v b → All2 R l r → P (v :: l)) : P vs := by
  cases vs with
  | nil => exact h.elim
  | cons v l => exact k v l h.1 h.2
theorem All2.nl {α β : Type} {R : α → β → Prop} {P : List α → Prop} {vs : List α} (h : All2 R vs []) (k : P []) : P vs := by
  cases vs with
  | nil => exact k
  | cons v l => exact h.elim
theorem All2.six {α β : Type} {R : α → β → Prop} {P : List α → Prop} {b1 b2 b3 b4 b5 b6 : β} {vs : List α} (h : All2 R vs [b1, b2, b3, b4, b5, b6]) (k : ∀ v1 v2 v3 v4 v5 v6, R v1 b1 → R v2 b2 → R v3 b3 → R v4 b4 → R v5 b5 → R v6 b6 → P [v1, v2, v3, v4, v5, v6]) : P vs :=
  h.un fun v1 l i1 h => h.un (P := fun l => P (v1 :: l)) fun v2 l i2 h => h.un (P := fun l => P (v1 :: v2 :: l)) fun v3 l i3 h => h.un (P := fun l => P (v1 :: v2 :: v3 :: l)) fun v4 l i4 h => h.un (P := fun l => P (v1 :: v2 :: v3 :: v4 :: l)) fun v5 l i5 h => h.un (P := fun l => P (v1 :: v2 :: v3 :: v4 :: v5 :: l)) fun v6 l i6 h => h.nl (P := fun l => P (v1 :: v2 :: v3 :: v4 :: v5 :: v6 :: l)) (k v1 v2 v3 v4 v5 v6 i1 i2 i3 i4 i5 i6)
theorem All2.one1 {α β : Type} {R : α → β → Prop} {vs : List α} {a : β} (h : All2 R vs [a]) : ∃ v, vs = [v] ∧ R v a := by
  cases vs with
  | nil => exact h.elim
  | cons v r => cases r with
    | nil => exact ⟨v, rfl, h.1⟩
    | cons => exact h.2.elim
theorem All2.two {α β : Type} {R : α → β → Prop} {vs : List α} {a b : β} (h : All2 R vs [a, b]) : ∃ v1 v2, vs = [v1, v2] ∧ R v1 a ∧ R v2 b := by
  cases vs with
  | nil => exact h.elim
  | cons v r => obtain ⟨v2, rfl, h2⟩ := All2.one1 h.2; exact ⟨v, v2, rfl, h.1, h2⟩
theorem All2.three {α β : Type} {R : α → β → Prop} {vs : List α} {a b c : β} (h : All2 R vs [a, b, c]) : ∃ v1 v2 v3, vs = [v1, v2, v3] ∧ R v1 a ∧ R v2 b ∧ R v3 c := by
  cases vs with
  | nil => exact h.elim
  | cons v r => obtain ⟨v2, v3, rfl, h2⟩ := All2.two h.2; exact ⟨v, v2, v3, rfl, h.1, h2⟩
theorem All2.four {α β : Type} {R : α → β → Prop} {vs : List α} {a b c e : β} (h : All2 R vs [a, b, c, e]) : ∃ v1 v2 v3 v4, vs = [v1, v2, v3, v4] ∧ R v1 a ∧ R v2 b ∧ R v3 c ∧ R v4 e := by
  cases vs with
  | nil => exact h.elim
  | cons v r => obtain ⟨v2, v3, v4, rfl, h2⟩ := All2.three h.2; exact ⟨v, v2, v3, v4, rfl, h.1, h2⟩
def FlatIs : Value → PyData → Prop
  | .none, .none => True
  | .bool b, .bool c => b = c
  | .int k _, .int j => k = j
  | .str x _, .str y => x = y
  | _, _ => False
noncomputable def LitIs (n : List (Addr × Obj)) : Nat → Value → PyData → Prop
  | 0, v, d => FlatIs v d
  | k + 1, v, d => FlatIs v d ∨ ∃ a vs c ds, v = .ref a ∧ (a, tup vs c) ∈ n ∧ d = .tuple ds ∧ All2 (LitIs n k) vs ds
theorem LitIs.mono {n n' : List (Addr × Obj)} (hs : ∀ p ∈ n, p.2.cls = .type "tuple" → p ∈ n') : ∀ {k : Nat} {v : Value} {d : PyData}, LitIs n k v d → LitIs n' k v d
  | 0, _, _, h => h
  | k + 1, v, d, h => h.elim .inl fun r => by obtain ⟨a, vs, c, ds, h1, h2, h3, h4⟩ := r; exact .inr ⟨a, vs, c, ds, h1, hs _ h2 rfl, h3, h4.imp fun _ _ x => LitIs.mono hs x⟩
noncomputable def constLit : Const → Option PyData
  | .int i => some (.int i)
  | .str x => some (.str x)
  | .none => some .none
  | .bool b => some (.bool b)
  | _ => none
noncomputable def negC : Const → Option PyData
  | .int i => some (.int (-i))
  | _ => none
noncomputable def negE : Expr → Option PyData
  | .Constant c _ _ => negC c
  | _ => none
noncomputable def negO (e : Expr) : UnaryOp → Option PyData
  | .USub => negE e
  | _ => none
noncomputable def flatLit : Expr → Option PyData
  | .Constant c _ _ => constLit c
  | .UnaryOp op e _ => negO e op
  | _ => none
theorem nn {d : PyData} {P : Prop} (h : (none : Option PyData) = some d) : P := by cases h
inductive FlatE : Expr → PyData → Prop
  | const {c : Const} {d : PyData} {k : Nat} {p : Pos} (h : constLit c = some d) : FlatE (.Constant c k p) d
  | neg {i : Int} {k : Nat} {p q : Pos} : FlatE (.UnaryOp .USub (.Constant (.int i) k p) q) (.int (-i))
theorem flat_inv {e : Expr} {d : PyData} (h : flatLit e = some d) : FlatE e d := by
  cases e with
  | Constant c k p => exact .const h
  | UnaryOp op x q =>
    cases op with
    | USub =>
      cases x with
      | Constant c k p =>
        cases c with
        | int i => cases h; exact .neg
        | _ => exact nn h
      | _ => exact nn h
    | _ => exact nn h
  | _ => exact nn h
noncomputable def tupLit (f : Expr → Option PyData) : Expr → Option PyData
  | .Tuple es _ _ => if es.length ≤ 1000 then (es.mapM f).map .tuple else none
  | e => flatLit e
noncomputable def litOf : Nat → Expr → Option PyData
  | 0, e => flatLit e
  | k + 1, e => tupLit (litOf k) e
inductive TupE (f : Expr → Option PyData) : Expr → PyData → Prop
  | tup {es : List Expr} {k : Nat} {p : Pos} {d : PyData} (h : (if es.length ≤ 1000 then (es.mapM f).map .tuple else none) = some d) : TupE f (.Tuple es k p) d
  | flat {e : Expr} {d : PyData} (h : FlatE e d) : TupE f e d
theorem tup_inv {f : Expr → Option PyData} {e : Expr} {d : PyData} (h : tupLit f e = some d) : TupE f e d := by
  cases e with
  | Tuple es k p => exact .tup h
  | Constant c k p => exact .flat (flat_inv h)
  | UnaryOp op x q => exact .flat (flat_inv h)
  | _ => exact .flat (flat_inv h)
theorem star_flat {e : Expr} {d : PyData} {rest : List Expr} {env : Env} (h : FlatE e d) : starEach (e :: rest) env = (false, eval e env) :: starEach rest env := by
  cases h <;> rfl
theorem star_lit {k : Nat} {e : Expr} {d : PyData} {rest : List Expr} {env : Env} (h : litOf k e = some d) : starEach (e :: rest) env = (false, eval e env) :: starEach rest env := by
  cases k with
  | zero => exact star_flat (flat_inv h)
  | succ k =>
    cases tup_inv h with
    | tup => rfl
    | flat h => exact star_flat h
section
variable {prog : Program} {w : World} {A : Around} {h₀ : Heap} {L : Addr} {m : Str → Option Value} {env : Env}
def EvalLit (prog : Program) (w : World) (A : Around) (h₀ : Heap) (L : Addr) (m : Str → Option Value) (env : Env) (k : Nat) (e : Expr) (d : PyData) : Prop :=
  ∀ (news : List (Addr × Obj)) (E : Value → Shared → Prop) (s : Shared) (Q : Value → Shared → Prop), Fr h₀ L s.heap m → News h₀ L s.heap news →
    (∀ v h' tk' front, Fr h₀ L h' m → News h₀ L h' (front ++ news) → (∀ p ∈ front, AllLt p.1 news) → LitIs front k v d → Q v { s with heap := h', toks := tk' }) → wpAny (model prog w) A (eval e env) Q E s
theorem splice_lit {k : Nat} (H : ∀ e d, litOf k e = some d → EvalLit prog w A h₀ L m env k e d) {pos : Pos} : ∀ (es : List Expr) (ds : List PyData), es.mapM (litOf k) = some ds → ∀ (news : List (Addr × Obj)) (E : Value → Shared → Prop) (s : Shared) (Q : List Value → Shared → Prop), Fr h₀ L s.heap m → News h₀ L s.heap news →
    (∀ vs h' tk' front, Fr h₀ L h' m → News h₀ L h' (front ++ news) → (∀ p ∈ front, AllLt p.1 news) → All2 (LitIs front k) vs ds → Q vs { s with heap := h', toks := tk' }) → wpAny (model prog w) A (spliced (backTo pos (starEach es env))) Q E s
  | [], ds, h, news, E, s, Q, F, N, hQ => by
    obtain rfl : ([] : List PyData) = ds := by simpa using h
    exact spliced_none (hQ [] s.heap s.toks [] F N (fun p hp => (nomatch hp)) trivial)
  | e :: es, ds, h, news, E, s, Q, F, N, hQ => by
    rw [List.mapM_cons] at h
    cases he : litOf k e with
    | none => rw [he] at h; cases h
    | some d =>
      rw [he] at h
      cases hes : es.mapM (litOf k) with
      | none => rw [hes] at h; cases h
      | some r =>
        rw [hes] at h
        obtain rfl : d :: r = ds := Option.some.inj h
        refine spliced_more (H e d he news E s _ F N fun v h1 tk1 f1 F1 N1 l1 x1 => ?_) (star_lit he)
        refine splice_lit H es r hes (f1 ++ news) E _ _ F1 N1 fun vs h2 tk2 f2 F2 N2 l2 x2 => ?_
        refine hQ (v :: vs) h2 tk2 (f2 ++ f1) F2 (by rw [List.append_assoc]; exact N2) (fun p hp => ?_) ⟨x1.mono fun p hp _ => List.mem_append_right _ hp, x2.imp fun _ _ x => x.mono fun p hp _ => List.mem_append_left _ hp⟩
        rcases List.mem_append.mp hp with hp | hp
        · exact allLt_all.mpr fun q hq => allLt_all.mp (l2 p hp) q (List.mem_append_right _ hq)
        · exact l1 p hp
theorem flat_lit {n : List (Addr × Obj)} {v : Value} {d : PyData} (h : FlatIs v d) : ∀ k, LitIs n k v d
  | 0 => h
  | _ + 1 => .inl h
theorem eval_flat {k : Nat} {e : Expr} {d : PyData} (h : FlatE e d) : EvalLit prog w A h₀ L m env k e d := by
  intro news E s Q F N hQ
  have q : ∀ {v tk}, FlatIs v d → Q v { s with heap := s.heap, toks := tk } := fun h => hQ _ _ _ [] F N (fun p hp => (nomatch hp)) (flat_lit h k)
  cases h with
  | const h =>
    cases ‹Const› with
    | int i => cases h; exact wpAny_Constant_int (q rfl)
    | str x => cases h; exact Constant_str (q rfl)
    | none => cases h; exact wpAny_Constant_none (q trivial)
    | bool b => cases h; exact wpAny_Constant_bool (q rfl)
    | _ => exact nn h
  | neg => exact UnaryOp_ (wpAny_Constant_int (P.neg_int (q rfl)))
theorem mapM_len {α β : Type} {f : α → Option β} : ∀ {l : List α} {r : List β}, l.mapM f = some r → l.length = r.length
  | [], r, h => by obtain rfl : ([] : List β) = r := by simpa using h
                   rfl
  | a :: l, r, h => by
    rw [List.mapM_cons] at h
    cases ha : f a with
    | none => rw [ha] at h; cases h
    | some b =>
      rw [ha] at h
      cases hl : l.mapM f with
      | none => rw [hl] at h; cases h
      | some t =>
        rw [hl] at h
        obtain rfl : b :: t = r := Option.some.inj h
        exact congrArg (· + 1) (mapM_len hl)
theorem eval_lit : ∀ (k : Nat) (e : Expr) (d : PyData), litOf k e = some d → EvalLit prog w A h₀ L m env k e d := by
  intro k
  induction k with
  | zero => exact fun e d h => eval_flat (flat_inv h)
  | succ k ih =>
    intro e d h
    cases tup_inv h with
    | flat h => exact eval_flat h
    | @tup es kk pos _ h =>
      intro news E s Q F N hQ
      by_cases hlen : es.length ≤ 1000
      case neg => rw [if_neg hlen] at h; cases h
      rw [if_pos hlen] at h
      cases hes : es.mapM (litOf k) with
      | none => rw [hes] at h; cases h
      | some ds =>
        rw [hes] at h
        obtain rfl : PyData.tuple ds = d := Option.some.inj h
        refine Tuple_ (splice_lit ih es ds hes news E s _ F N fun vs h1 tk1 f1 F1 N1 l1 x1 => ?_)
        refine kup_newTuple F1 N1 (fun T h2 F2 N2 lt => ?_) ?_
        · refine hQ (.ref T) h2 tk1 ((T, tup vs 0) :: f1) F2 N2 (fun p hp => ?_) (.inr ⟨T, vs, 0, ds, rfl, .head _, rfl, x1.imp fun _ _ x => x.mono fun p hp _ => .tail _ hp⟩)
          k_extra "rm"
          · exact allLt_all.mpr fun q hq => lt q (List.mem_append_right _ hq)
          · exact l1 p hp
        · rw [sizeLine_eq, x1.len, ← mapM_len hes]; omega
theorem list_lit {pos : Pos} {k : Nat} {es : List Expr} {ds : List PyData} (h : es.mapM (litOf k) = some ds) (hl : ds.length ≤ 1000) {news : List (Addr × Obj)} {E : Value → Shared → Prop} {s : Shared} {Q : Value → Shared → Prop} (F : Fr h₀ L s.heap m) (N : News h₀ L s.heap news)
    (hQ : ∀ T vs front h' tk', Fr h₀ L h' m → News h₀ L h' ((T, listOf vs.toArray 0) :: (front ++ news)) → (∀ p ∈ front, AllLt p.1 news) → AllLt T (front ++ news) → All2 (LitIs front k) vs ds → Q (.ref T) { s with heap := h', toks := tk' }) :
    wpAny (model prog w) A (eval (.List es pos) env) Q E s := by
  refine List_ (splice_lit (eval_lit k) es ds h news E s _ F N fun vs h1 tk1 f1 F1 N1 l1 x1 => ?_)
  exact newList_K F1 N1 (fun T h2 F2 N2 lt => hQ T vs f1 h2 tk1 F2 N2 l1 (allLt_of lt) x1) (by rw [sizeLine_eq, x1.len]; omega)
end
theorem iter_range {prog : Program} {w : World} {A : Around} {E : Value → Shared → Prop} {h₀ : Heap} {env : Env} {x : Str} {px : Pos} {body : List Stmt} {Q : Flow → Shared → Prop} {s : Shared} {r : Addr} {b : Int} {t u v : Tok} {n : Nat} {m₀ : Str → Option Value} {news : List (Addr × Obj)}
    (P : (Str → Option Value) → List (Addr × Obj) → Nat → Prop) (hh : A.handled = none) (F : Fr h₀ env.locals s.heap m₀) (N : News h₀ env.locals s.heap news) (hr : IsRange s.heap r 0 b 1 t u v) (hsm : Builtin.Range.small 0 b 1 = true) (hn : Builtin.Range.rangeSize 0 b 1 = ((n : Nat) : Int))
    (start : P m₀ news 0)
    (turn : ∀ i I o m nw v h tk, i < n → P m nw i → (∃ t, v = .int (i : Int) t) → (∀ p ∈ nw, p.1 ≠ I) → Fr h₀ env.locals h m → News h₀ env.locals h ((I, o) :: nw) →
      wpAny (model prog w) A (assign (.Name x px) env v) (fun _ s₂ => wpAny (model prog w) A (execs body env) (UnrPostW h₀ env.locals { s with heap := h, toks := tk } [(I, o)] (fun m' n' => SubL [] n' ∧ P m' n' (i + 1) ∧ ∀ p ∈ n', p.1 ≠ I) Q) E s₂) E { s with heap := h, toks := tk })
    (done : ∀ m nw h tk, P m nw n → Fr h₀ env.locals h m → News h₀ env.locals h nw → Q .next { s with heap := h, toks := tk }) :
    wpAny (model prog w) A (pyIter (.ref r)) (fun it s₂ => TurnsAt prog w A h₀ env (.Name x px) body Q E it s₂) E s := by
  refine wpAny_pyIter_range hr hsm ?_
  generalize hI : s.heap.objs.size = I at *
  have hlt : ∀ p ∈ news, @LT.lt Nat _ p.1 I := fun p hp => hI ▸ Heap.lt_size (N p hp).1
  have hLI : @LT.lt Nat _ env.locals I := hI ▸ F.ns.lt
  have rest : ItemsRest prog w A E h₀ env (.Name x px) body Q s [(I, "range_iterator")] [] ((List.range n).map fun (i : Nat) => Itm.tok fun t => Value.int (i : Int) t) m₀ news := by
    refine items_inv2 (fun (i : Nat) => Itm.tok fun t => Value.int (i : Int) t) (fun I _ _ pre m nw => P m nw pre.length ∧ ∀ p ∈ nw, p.1 ≠ I) (List.range n) m₀ news ⟨start, fun p hp => Nat.ne_of_lt (hlt p hp)⟩ ?_ ?_
    · rintro pre x post hx m5 n5 ⟨hP, hne⟩ v5 h5 tk5 o5 hv5 F5 ho5 N5
      have hxl : (List.range n)[pre.length]? = some x := by rw [hx, List.getElem?_append_right (Nat.le_refl _), Nat.sub_self]; rfl
      have hlen : pre.length < n := by
        have := (List.getElem?_eq_some_iff.mp hxl).1
        rwa [List.length_range] at this
      rw [List.getElem?_range hlen] at hxl
      obtain rfl := Option.some.inj hxl
      simp only [List.length_append, List.length_cons, List.length_nil, Nat.zero_add]
      exact turn pre.length I o5 m5 n5 v5 h5 tk5 hlen hP hv5 hne F5 N5
    · rintro m5 n5 ⟨hP, hne⟩ h5 tk5 F5 N5
      rw [List.length_range] at hP
      exact done m5 n5 h5 tk5 hP F5 N5
  have e1 : Builtin.Range.rangeSize 0 b 1 = ((n : Nat) : Int) := hn
  refine ktu_core (tk0 := s.toks) (keep := []) (KTurns.ofWalks ((Walks.range hh I 0 1 n).bound) fun i v s Q E st q => ?_) (by simp) (fun i v h hp => ?_) (fun i h st => ?_) (fun b hb => ?_) (fun b hb => by simpa using hb) (fun b hb => .inl (by simpa using hb)) (fun h => ?_) (fun p hp h => ?_) ?_ (F.push _) (fun p hp => ⟨Heap.get?_push_of_some _ (N p hp).1, (N p hp).2⟩) trivial rest
  · exact wpAny_pure q
  · obtain ⟨hi, t, rfl⟩ := hp
    exact ⟨Itm.tok fun t => Value.int (i : Int) t, by rw [List.getElem?_map, List.getElem?_range hi]; rfl, t, by rw [Int.zero_add, Int.mul_one]⟩
  · exact ⟨[(I, _)], ⟨⟨rfl, rfl⟩, trivial⟩, List.forall_mem_cons.mpr ⟨st, List.forall_mem_nil _⟩⟩
  · obtain rfl : b = I := by simpa using hb
    exact ⟨.head _, by
      cases e : h₀.get? b with
      | none => rfl
      | some o => exact absurd (Heap.lt_size (F.keep b o e)) (by rw [hI]; exact Nat.lt_irrefl _)⟩
  · exact Nat.ne_of_lt hLI (List.mem_singleton.mp h)
  · exact Nat.ne_of_lt (hlt p hp) (List.mem_singleton.mp h)
  · show Heap.get? _ _ = some _
    rw [push_at hI rfl, hn]
    simp
end
section
open PySem PySem.W PyProof.Rows PyProof.V PySem.Spec
def FrontOk (f n : List (Addr × Obj)) : Prop := ∀ p ∈ f, AllLt p.1 n
noncomputable def BOXES : List PyData := [.tuple [.str (Str.ofString "0 0 2 4"), .tuple [.tuple [.int (0), .int (1)], .tuple [.int (0), .int (1)], .tuple [.int (2), .int (1)], .tuple [.int (4), .int (1)]]], .tuple [.str (Str.ofString "-1.5, 2 .5 3"), .tuple [.tuple [.int (-3), .int (2)], .tuple [.int (2), .int (1)], .tuple [.int (1), .int (2)], .tuple [.int (3), .int (1)]]], .tuple [.str (Str.ofString " 1,1,4,1 "), .tuple [.tuple [.int (1), .int (1)], .tuple [.int (1), .int (1)], .tuple [.int (4), .int (1)], .tuple [.int (1), .int (1)]]], .tuple [.str (Str.ofString "1 2 3"), .none], .tuple [.str (Str.ofString "0 0 0 5"), .none]]
noncomputable def FITS : List PyData := [.tuple [.str (Str.ofString "none"), .str (Str.ofString "none")], .tuple [.str (Str.ofString "xMinYMid"), .tuple [.int (0), .int (1), .bool false]], .tuple [.str (Str.ofString "xMaxYMin slice"), .tuple [.int (2), .int (0), .bool true]], .tuple [.str (Str.ofString "defer xMidYMax meet"), .tuple [.int (1), .int (2), .bool false]], .tuple [.str (Str.ofString " xMidYMid  slice"), .tuple [.int (1), .int (1), .bool true]], .tuple [.str (Str.ofString ""), .tuple [.int (1), .int (1), .bool false]], .tuple [.str (Str.ofString "xMid"), .none]]
theorem boxes_spec {w : World} {news : List (Addr × Obj)} : Cl w 20 160 556 [] news (fun v nw => ∃ T vs front, v = .ref T ∧ nw = (T, listOf (List.toArray vs) 0) :: (front ++ news) ∧ FrontOk front news ∧ AllLt T (front ++ news) ∧ All2 (LitIs front 3) vs BOXES) := by
  (k_with "eval List" => (k_here; k_dflt (refine' list_lit (k := 3) (ds := BOXES) (by kernel_rfl) (by decide) ?f9 ?n9 ?_; (case f9 => k_asm); (case n9 => k_asm)); intro T9 vs9 fr9 h9 tk9 F9 N9 q9 p9 x9; (try dsimp only)))
  unfold Cl
  k_fill
  k_extra "il"
  refine wpAny_call ?_
  k_dflt cell_enter
  k_steps
  rename Fr _ _ _ _ => F99
  rename News _ _ _ _ => N99
  exact hret _ _ _ _ ⟨_, _, _, rfl, rfl, q9, p9, x9⟩ F99 N99
theorem fits_spec {w : World} {news : List (Addr × Obj)} : Cl w 20 160 563 [] news (fun v nw => ∃ T vs front, v = .ref T ∧ nw = (T, listOf (List.toArray vs) 0) :: (front ++ news) ∧ FrontOk front news ∧ AllLt T (front ++ news) ∧ All2 (LitIs front 3) vs FITS) := by
  (k_with "eval List" => (k_here; k_dflt (refine' list_lit (k := 3) (ds := FITS) (by kernel_rfl) (by decide) ?f9 ?n9 ?_; (case f9 => k_asm); (case n9 => k_asm)); intro T9 vs9 fr9 h9 tk9 F9 N9 q9 p9 x9; (try dsimp only)))
  unfold Cl
  k_fill
  k_extra "il"
  refine wpAny_call ?_
  k_dflt cell_enter
  k_steps
  rename Fr _ _ _ _ => F99
  rename News _ _ _ _ => N99
  exact hret _ _ _ _ ⟨_, _, _, rfl, rfl, q9, p9, x9⟩ F99 N99
end
section
open PySem PySem.W PyProof.Rows PySem.Spec PySem.Calls PyProof.Rows.LCg
theorem All2.append {α β : Type} {R : α → β → Prop} : ∀ {l l' : List α} {r r' : List β}, All2 R l r → All2 R l' r' → All2 R (l ++ l') (r ++ r')
  | [], _, [], _, _, h => h
  | _ :: _, _, _ :: _, _, h, h' => ⟨h.1, All2.append h.2 h'⟩
  | [], _, _ :: _, _, h, _ => h.elim
  | _ :: _, _, [], _, h, _ => h.elim
theorem allLt_app {x : Addr} {f n : List (Addr × Obj)} : AllLt x (f ++ n) ↔ AllLt x f ∧ AllLt x n := by
  constructor
  · intro h
    exact ⟨allLt_all.mpr fun p hp => allLt_all.mp h p (List.mem_append_left _ hp), allLt_all.mpr fun p hp => allLt_all.mp h p (List.mem_append_right _ hp)⟩
  · intro h
    exact allLt_all.mpr fun p hp => (List.mem_append.mp hp).elim (allLt_all.mp h.1 p) (allLt_all.mp h.2 p)
end
section
open PySem PySem.W PyProof.Rows
theorem rm_0 {a k r : Nat} (h : a + k < r) : a < r := Nat.lt_of_le_of_lt (Nat.le_add_right _ _) h
theorem rm_a {a k j r : Nat} (h : a + k < r) (e : Nat.ble j k = true) : a + j < r := Nat.lt_of_le_of_lt (Nat.add_le_add_left (Nat.le_of_ble_eq_true e) _) h
theorem rm_b {a k i j r : Nat} (h : a + k < r) (e : Nat.ble (i + j) k = true) : a + i + j < r := by rw [Nat.add_assoc]; exact rm_a h e
def Sub (n n' : List (Addr × Obj)) : Prop := ∀ p ∈ n, p ∈ n'
theorem Sub.refl (n : List (Addr × Obj)) : Sub n n := fun _ h => h
theorem Sub.tail {n n' : List (Addr × Obj)} {p : Addr × Obj} (h : Sub n n') : Sub n (p :: n') := fun q hq => .tail _ (h q hq)
theorem Sub.via {n n' n'' : List (Addr × Obj)} (h : Sub n' n'') (h' : Sub n n') : Sub n n'' := fun q hq => h q (h' q hq)
theorem T2.sub {w : World} {n n' : List (Addr × Obj)} {A : Addr} {x y : Int} (h : T2 w n A x y) (s : Sub n n') : T2 w n' A x y := h.mono s
end
section
local macro_rules | `(tactic| omega) => `(tactic| k_extra "om0")
theorem rows_b : True := by
  (k_with "om0" => first | k_extra "om9" | decide | omega (splitDisjunctions := true))
  (k_with "om9" => with_reducible first | assumption | exact rm_b (by assumption) (by with_unfolding_all eq_refl) | exact rm_a (by assumption) (by with_unfolding_all eq_refl) | exact rm_c (by assumption) (by with_unfolding_all eq_refl) | exact rm_0 (by assumption) | (refine (?_ : @Ne Nat _ _); first | exact Nat.ne_of_gt (And.left (by assumption)) | exact Nat.ne_of_gt (And.left (And.right (by assumption))) | exact Nat.ne_of_gt (And.left (And.right (And.right (by assumption)))) | exact Nat.ne_of_gt (And.left (And.right (And.right (And.right (by assumption))))) | exact Nat.ne_of_gt (And.left (And.right (And.right (And.right (And.right (by assumption)))))) | exact Nat.ne_of_gt (And.left (And.right (And.right (And.right (And.right (And.right (by assumption))))))) | exact Nat.ne_of_gt (And.left (And.right (And.right (And.right (And.right (And.right (And.right (by assumption)))))))) | exact Nat.ne_of_gt (And.left (And.right (And.right (And.right (And.right (And.right (And.right (And.right (by assumption))))))))) | exact Nat.ne_of_gt (And.left (And.right (And.right (And.right (And.right (And.right (And.right (And.right (And.right (by assumption)))))))))) | exact Nat.ne_of_gt (And.left (And.right (And.right (And.right (And.right (And.right (And.right (And.right (And.right (And.right (by assumption))))))))))) | exact Nat.ne_of_gt (by assumption) | exact Nat.ne_of_gt (And.right (by assumption)) | exact Nat.ne_of_gt (And.right (And.right (by assumption))) | exact Nat.ne_of_gt (And.right (And.right (And.right (by assumption)))) | exact Nat.ne_of_gt (And.right (And.right (And.right (And.right (by assumption))))) | exact Nat.ne_of_gt (And.right (And.right (And.right (And.right (And.right (by assumption)))))) | exact Nat.ne_of_gt (And.right (And.right (And.right (And.right (And.right (And.right (by assumption))))))) | exact Nat.ne_of_gt (And.right (And.right (And.right (And.right (And.right (And.right (And.right (by assumption)))))))) | exact Nat.ne_of_gt (And.right (And.right (And.right (And.right (And.right (And.right (And.right (And.right (by assumption))))))))) | exact Nat.ne_of_gt (And.right (And.right (And.right (And.right (And.right (And.right (And.right (And.right (And.right (by assumption)))))))))) | exact Nat.ne_of_lt (And.left (by assumption)) | exact Nat.ne_of_lt (And.left (And.right (by assumption))) | exact Nat.ne_of_lt (And.left (And.right (And.right (by assumption)))) | exact Nat.ne_of_lt (And.left (And.right (And.right (And.right (by assumption))))) | exact Nat.ne_of_lt (And.left (And.right (And.right (And.right (And.right (by assumption)))))) | exact Nat.ne_of_lt (And.left (And.right (And.right (And.right (And.right (And.right (by assumption))))))) | exact Nat.ne_of_lt (And.left (And.right (And.right (And.right (And.right (And.right (And.right (by assumption)))))))) | exact Nat.ne_of_lt (And.left (And.right (And.right (And.right (And.right (And.right (And.right (And.right (by assumption))))))))) | exact Nat.ne_of_lt (And.left (And.right (And.right (And.right (And.right (And.right (And.right (And.right (And.right (by assumption)))))))))) | exact Nat.ne_of_lt (And.left (And.right (And.right (And.right (And.right (And.right (And.right (And.right (And.right (And.right (by assumption))))))))))) | exact Nat.ne_of_lt (by assumption) | exact Nat.ne_of_lt (And.right (by assumption)) | exact Nat.ne_of_lt (And.right (And.right (by assumption))) | exact Nat.ne_of_lt (And.right (And.right (And.right (by assumption)))) | exact Nat.ne_of_lt (And.right (And.right (And.right (And.right (by assumption))))) | exact Nat.ne_of_lt (And.right (And.right (And.right (And.right (And.right (by assumption)))))) | exact Nat.ne_of_lt (And.right (And.right (And.right (And.right (And.right (And.right (by assumption))))))) | exact Nat.ne_of_lt (And.right (And.right (And.right (And.right (And.right (And.right (And.right (by assumption)))))))) | exact Nat.ne_of_lt (And.right (And.right (And.right (And.right (And.right (And.right (And.right (And.right (by assumption))))))))) | exact Nat.ne_of_lt (And.right (And.right (And.right (And.right (And.right (And.right (And.right (And.right (And.right (by assumption)))))))))) | exact Ne.symm (by assumption) | exact (And.left (by assumption)) | exact (And.left (And.right (by assumption))) | exact (And.left (And.right (And.right (by assumption)))) | exact (And.left (And.right (And.right (And.right (by assumption))))) | exact (And.left (And.right (And.right (And.right (And.right (by assumption)))))) | exact (And.left (And.right (And.right (And.right (And.right (And.right (by assumption))))))) | exact (And.left (And.right (And.right (And.right (And.right (And.right (And.right (by assumption)))))))) | exact (And.left (And.right (And.right (And.right (And.right (And.right (And.right (And.right (by assumption))))))))) | exact (And.left (And.right (And.right (And.right (And.right (And.right (And.right (And.right (And.right (by assumption)))))))))) | exact (And.left (And.right (And.right (And.right (And.right (And.right (And.right (And.right (And.right (And.right (by assumption))))))))))) | exact (by assumption) | exact (And.right (by assumption)) | exact (And.right (And.right (by assumption))) | exact (And.right (And.right (And.right (by assumption)))) | exact (And.right (And.right (And.right (And.right (by assumption))))) | exact (And.right (And.right (And.right (And.right (And.right (by assumption)))))) | exact (And.right (And.right (And.right (And.right (And.right (And.right (by assumption))))))) | exact (And.right (And.right (And.right (And.right (And.right (And.right (And.right (by assumption)))))))) | exact (And.right (And.right (And.right (And.right (And.right (And.right (And.right (And.right (by assumption))))))))) | exact (And.right (And.right (And.right (And.right (And.right (And.right (And.right (And.right (And.right (by assumption)))))))))) | exact ne_s1 (And.left (by assumption)) | exact ne_s1 (And.left (And.right (by assumption))) | exact ne_s1 (And.left (And.right (And.right (by assumption)))) | exact ne_s1 (And.left (And.right (And.right (And.right (by assumption))))) | exact ne_s1 (And.left (And.right (And.right (And.right (And.right (by assumption)))))) | exact ne_s1 (by assumption) | exact ne_s1 (And.right (by assumption)) | exact ne_s1 (And.right (And.right (by assumption))) | exact ne_s1 (And.right (And.right (And.right (by assumption)))) | exact ne_s1 (And.right (And.right (And.right (And.right (by assumption))))) | exact ne_s2 (And.left (by assumption)) | exact ne_s2 (And.left (And.right (by assumption))) | exact ne_s2 (And.left (And.right (And.right (by assumption)))) | exact ne_s2 (And.left (And.right (And.right (And.right (by assumption))))) | exact ne_s2 (And.left (And.right (And.right (And.right (And.right (by assumption)))))) | exact ne_s2 (by assumption) | exact ne_s2 (And.right (by assumption)) | exact ne_s2 (And.right (And.right (by assumption))) | exact ne_s2 (And.right (And.right (And.right (by assumption)))) | exact ne_s2 (And.right (And.right (And.right (And.right (by assumption))))) | exact ne_t1 (And.left (by assumption)) | exact ne_t1 (And.left (And.right (by assumption))) | exact ne_t1 (And.left (And.right (And.right (by assumption)))) | exact ne_t1 (And.left (And.right (And.right (And.right (by assumption))))) | exact ne_t1 (And.left (And.right (And.right (And.right (And.right (by assumption)))))) | exact ne_t1 (by assumption) | exact ne_t1 (And.right (by assumption)) | exact ne_t1 (And.right (And.right (by assumption))) | exact ne_t1 (And.right (And.right (And.right (by assumption)))) | exact ne_t1 (And.right (And.right (And.right (And.right (by assumption))))) | exact ne_t2 (And.left (by assumption)) | exact ne_t2 (And.left (And.right (by assumption))) | exact ne_t2 (And.left (And.right (And.right (by assumption)))) | exact ne_t2 (And.left (And.right (And.right (And.right (by assumption))))) | exact ne_t2 (And.left (And.right (And.right (And.right (And.right (by assumption)))))) | exact ne_t2 (by assumption) | exact ne_t2 (And.right (by assumption)) | exact ne_t2 (And.right (And.right (by assumption))) | exact ne_t2 (And.right (And.right (And.right (by assumption)))) | exact ne_t2 (And.right (And.right (And.right (And.right (by assumption))))) | exact ne_u1 | exact ne_u2 | exact ne_u3 | exact ne_u4) | exact (And.left (by assumption)) | exact (And.left (And.right (by assumption))) | exact (And.left (And.right (And.right (by assumption)))) | exact (And.left (And.right (And.right (And.right (by assumption))))) | exact (And.left (And.right (And.right (And.right (And.right (by assumption)))))) | exact (And.left (And.right (And.right (And.right (And.right (And.right (by assumption))))))) | exact (And.left (And.right (And.right (And.right (And.right (And.right (And.right (by assumption)))))))) | exact (And.left (And.right (And.right (And.right (And.right (And.right (And.right (And.right (by assumption))))))))) | exact (And.left (And.right (And.right (And.right (And.right (And.right (And.right (And.right (And.right (by assumption)))))))))) | exact (And.left (And.right (And.right (And.right (And.right (And.right (And.right (And.right (And.right (And.right (by assumption))))))))))) | exact (by assumption) | exact (And.right (by assumption)) | exact (And.right (And.right (by assumption))) | exact (And.right (And.right (And.right (by assumption)))) | exact (And.right (And.right (And.right (And.right (by assumption))))) | exact (And.right (And.right (And.right (And.right (And.right (by assumption)))))) | exact (And.right (And.right (And.right (And.right (And.right (And.right (by assumption))))))) | exact (And.right (And.right (And.right (And.right (And.right (And.right (And.right (by assumption)))))))) | exact (And.right (And.right (And.right (And.right (And.right (And.right (And.right (And.right (by assumption))))))))) | exact (And.right (And.right (And.right (And.right (And.right (And.right (And.right (And.right (And.right (by assumption)))))))))) | (with_unfolding_all exact Nat.le_of_ble_eq_true rfl))
  (k_with "k_mem" => first | k_extra "km1" | (with_reducible refine memOf ?_; k_extra "km1"))
  (k_with "km1" => with_reducible first | assumption | exact List.mem_cons_self | (refine List.mem_cons_of_mem _ ?_; k_extra "km1") | (refine List.mem_append_right _ ?_; k_extra "km1") | (refine List.mem_append_left _ ?_; assumption) | (refine Sub.mem (by assumption) ?_; k_extra "km1"))
  (k_with "sb9" => with_reducible first | assumption | exact Sub.refl _ | (refine Sub.tail ?_; k_extra "sb9") | (refine Sub.via (by assumption) ?_; k_extra "sb9"))
  (k_with "t9" => with_reducible first | assumption | (refine T2.sub (by assumption) ?_; k_extra "sb9") | exact T2_zero | exact T2_one | exact T2_half | exact T2.new (by k_extra "km1"))
  trivial
section
open PySem PySem.W PyProof.Rows PyProof.V PySem.Spec
inductive PartIs : Str → Int → Prop
  | min : PartIs (Str.ofString "Min") 0
  | mid : PartIs (Str.ofString "Mid") 1
  | max : PartIs (Str.ofString "Max") 2
inductive R2 (w : World) (n : List (Addr × Obj)) (A : Addr) (q : Rat) : Prop
  | mk (x : _) (y : _) (f0 : T2 w n A x y) (f1 : 0 < y) (f2 : rv x y = q) (f3 : x.natAbs < 4611686018427387904) (f4 : y.natAbs < 4611686018427387904) : R2 w n A q
theorem R2.sub {w : World} {n n' : List (Addr × Obj)} {A : Addr} {q : Rat} (h : R2 w n A q) (s : Sub n n') : R2 w n' A q := by
  obtain ⟨x, y, h1, h2, h3, h4, h5⟩ := h
  exact ⟨x, y, h1.sub s, h2, h3, h4, h5⟩
theorem R2.of {w : World} {n : List (Addr × Obj)} {A : Addr} {x y : Int} {k : Nat} {q : Rat} (h : T2 w n A x y) (b : Bd k x y) (e : rv x y = q) (hk : k < 4611686018427387904 := by decide) : R2 w n A q := ⟨x, y, h, b.2.1, e, Nat.lt_of_le_of_lt b.1 hk, by have := b.2.1; have := b.2.2; omega⟩
theorem rv_one : rv 1 1 = 1 := by unfold rv; decide +kernel
theorem R2_zero {w : World} {n : List (Addr × Obj)} : R2 w n 73 0 := ⟨0, 1, T2_zero, by decide, rv_zero, by decide, by decide⟩
theorem R2_one {w : World} {n : List (Addr × Obj)} : R2 w n 74 1 := ⟨1, 1, T2_one, by decide, rv_one, by decide, by decide⟩
inductive MatIs (w : World) (n : List (Addr × Obj)) (M : Addr) (q1 q2 q3 q4 q5 q6 : Rat) : Prop
  | mk (dM : _) (A1 : _) (A2 : _) (A3 : _) (A4 : _) (A5 : _) (A6 : _) (t1 : _) (t2 : _) (t3 : _) (t4 : _) (t5 : _) (t6 : _) (f0 : (M, instObj 281 dM) ∈ n) (f1 : (dM, matD w A1 A2 A3 A4 A5 A6 t1 t2 t3 t4 t5 t6) ∈ n) (f2 : R2 w n A1 q1) (f3 : R2 w n A2 q2) (f4 : R2 w n A3 q3) (f5 : R2 w n A4 q4) (f6 : R2 w n A5 q5) (f7 : R2 w n A6 q6) : MatIs w n M q1 q2 q3 q4 q5 q6
theorem MatIs.new {w : World} {n n' : List (Addr × Obj)} {M dM A1 A2 A3 A4 A5 A6 : Addr} {t1 t2 t3 t4 t5 t6 : Tok} {q1 q2 q3 q4 q5 q6 : Rat} (h1 : R2 w n A1 q1) (h2 : R2 w n A2 q2) (h3 : R2 w n A3 q3) (h4 : R2 w n A4 q4) (h5 : R2 w n A5 q5) (h6 : R2 w n A6 q6) (hs : Sub n n')
    (m1 : (M, instObj 281 dM) ∈ n') (m2 : (dM, matD w A1 A2 A3 A4 A5 A6 t1 t2 t3 t4 t5 t6) ∈ n') : MatIs w n' M q1 q2 q3 q4 q5 q6 :=
  ⟨dM, A1, A2, A3, A4, A5, A6, t1, t2, t3, t4, t5, t6, m1, m2, h1.sub hs, h2.sub hs, h3.sub hs, h4.sub hs, h5.sub hs, h6.sub hs⟩
noncomputable abbrev fourD (w : World) (A1 A2 A3 A4 : Addr) (t1 t2 t3 t4 : Tok) : Obj := dictOf [ent w (Str.ofString "x") t1 (.ref A1), ent w (Str.ofString "y") t2 (.ref A2), ent w (Str.ofString "width") t3 (.ref A3), ent w (Str.ofString "height") t4 (.ref A4)] 4
inductive FourAt (w : World) (n : List (Addr × Obj)) (cls C A1 A2 A3 A4 : Addr) : Prop
  | mk (dC : _) (t1 : _) (t2 : _) (t3 : _) (t4 : _) (f0 : (C, instObj cls dC) ∈ n) (f1 : (dC, fourD w A1 A2 A3 A4 t1 t2 t3 t4) ∈ n) : FourAt w n cls C A1 A2 A3 A4
theorem FourAt.sub {w : World} {n n' : List (Addr × Obj)} {cls C A1 A2 A3 A4 : Addr} (h : FourAt w n cls C A1 A2 A3 A4) (s : Sub n n') : FourAt w n' cls C A1 A2 A3 A4 := by
  obtain ⟨d, t1, t2, t3, t4, h1, h2⟩ := h
  exact ⟨d, t1, t2, t3, t4, s _ h1, s _ h2⟩
theorem part_min {w : World} {news : List (Addr × Obj)} {t : Tok} :
    Cl w 20 160 378 [.str (Str.ofString "Min") t] news (fun v nw => ∃ D nw', v = .ref D ∧ nw = nw' ∧ Sub news nw' ∧ T2 w nw' D 0 1) := by
  (k_with "eval Dict" => (k_here; k_dflt (refine' kdn_str ?q ?F ?N ?b ?a ?l ?e ?n ?_; (case q => rfl); (case F => k_asm); (case N => first | k_asm | exact News.nil); (case b => exact Top.nolimit (by k_asm)); (case a => rfl); (case l => rfl); (case e => exact List.cons_ne_nil _ _); (case n => exact Nat.le_of_ble_eq_true rfl)); intro d' h' o' F' N' l1 lo' hd'; (try k_lt l1)))
  unfold Cl
  k_fill
  k_extra "il"
  refine wpAny_call ?_
  k_dflt cell_enter
  k_steps
  rename Fr _ _ _ _ => F99
  rename News _ _ _ _ => N99
  exact hret _ _ _ _ ⟨_, _, rfl, rfl, by walk_at "sb9", by walk_at "t9"⟩ F99 N99
theorem part_mid {w : World} {news : List (Addr × Obj)} {t : Tok} :
    Cl w 20 160 378 [.str (Str.ofString "Mid") t] news (fun v nw => ∃ D nw', v = .ref D ∧ nw = nw' ∧ Sub news nw' ∧ T2 w nw' D 1 2) := by
  (k_with "eval Dict" => (k_here; k_dflt (refine' kdn_str ?q ?F ?N ?b ?a ?l ?e ?n ?_; (case q => rfl); (case F => k_asm); (case N => first | k_asm | exact News.nil); (case b => exact Top.nolimit (by k_asm)); (case a => rfl); (case l => rfl); (case e => exact List.cons_ne_nil _ _); (case n => exact Nat.le_of_ble_eq_true rfl)); intro d' h' o' F' N' l1 lo' hd'; (try k_lt l1)))
  unfold Cl
  k_fill
  k_extra "il"
  refine wpAny_call ?_
  k_dflt cell_enter
  k_steps
  rename Fr _ _ _ _ => F99
  rename News _ _ _ _ => N99
  exact hret _ _ _ _ ⟨_, _, rfl, rfl, by walk_at "sb9", by walk_at "t9"⟩ F99 N99
theorem part_max {w : World} {news : List (Addr × Obj)} {t : Tok} :
    Cl w 20 160 378 [.str (Str.ofString "Max") t] news (fun v nw => ∃ D nw', v = .ref D ∧ nw = nw' ∧ Sub news nw' ∧ T2 w nw' D 1 1) := by
  (k_with "eval Dict" => (k_here; k_dflt (refine' kdn_str ?q ?F ?N ?b ?a ?l ?e ?n ?_; (case q => rfl); (case F => k_asm); (case N => first | k_asm | exact News.nil); (case b => exact Top.nolimit (by k_asm)); (case a => rfl); (case l => rfl); (case e => exact List.cons_ne_nil _ _); (case n => exact Nat.le_of_ble_eq_true rfl)); intro d' h' o' F' N' l1 lo' hd'; (try k_lt l1)))
  unfold Cl
  k_fill
  k_extra "il"
  refine wpAny_call ?_
  k_dflt cell_enter
  k_steps
  rename Fr _ _ _ _ => F99
  rename News _ _ _ _ => N99
  exact hret _ _ _ _ ⟨_, _, rfl, rfl, by walk_at "sb9", by walk_at "t9"⟩ F99 N99
theorem part_spec {w : World} {news : List (Addr × Obj)} {x : Str} {t : Tok} {a : Int} (h : PartIs x a) : Cl w 20 160 378 [.str x t] news (fun v nw => ∃ D nw' p q, v = .ref D ∧ nw = nw' ∧ Sub news nw' ∧ T2 w nw' D p q ∧ Bd 2 p q ∧ rv p q = rv a 2) := by
  cases h with
  | min => exact cl_mono part_min (by rintro v nw ⟨D, nw', h1, h2, h3, h4⟩; exact ⟨D, nw', 0, 1, h1, h2, h3, h4, ⟨by decide, by decide, by decide⟩, by unfold rv; decide +kernel⟩)
  | mid => exact cl_mono part_mid (by rintro v nw ⟨D, nw', h1, h2, h3, h4⟩; exact ⟨D, nw', 1, 2, h1, h2, h3, h4, ⟨by decide, by decide, by decide⟩, rfl⟩)
  | max => exact cl_mono part_max (by rintro v nw ⟨D, nw', h1, h2, h3, h4⟩; exact ⟨D, nw', 1, 1, h1, h2, h3, h4, ⟨by decide, by decide, by decide⟩, by unfold rv; decide +kernel⟩)
theorem cell_new {w : World} {news : List (Addr × Obj)} {A1 A2 A3 A4 : Addr} :
    Cl w 30 240 338 [.ref A1, .ref A2, .ref A3, .ref A4] news (fun v nw => ∃ C nw', v = .ref C ∧ nw = nw' ∧ Sub news nw' ∧ FourAt w nw' 338 C A1 A2 A3 A4) := by
  (k_with "k_all" => with_reducible first | assumption | exact allLt_ne (by assumption))
  unfold Cl
  k_fill
  k_extra "il"
  refine call_cls (C := 338) F X N (by k_is) (by k_is) (by k_is) ?_
  intro x5 dx5 h5 F5 N5 l5 l6
  have l7 : AllLt dx5 news := allLt_of l5
  have l8 := allLt_trans l6 l7
  k_lt2 l6
  k_extra "cg"
  k_steps
  rename Fr _ _ _ _ => F99
  rename News _ _ _ _ => N99
  exact hret _ _ _ _ ⟨_, _, rfl, rfl, by walk_at "sb9", _, _, _, _, _, by walk_at "km1", by walk_at "km1"⟩ F99 N99
theorem shape_new {w : World} {news : List (Addr × Obj)} {A1 A2 A3 A4 : Addr} :
    Cl w 30 240 479 [.ref A1, .ref A2, .ref A3, .ref A4] news (fun v nw => ∃ C nw', v = .ref C ∧ nw = nw' ∧ Sub news nw' ∧ FourAt w nw' 479 C A1 A2 A3 A4) := by
  (k_with "k_all" => with_reducible first | assumption | exact allLt_ne (by assumption))
  unfold Cl
  k_fill
  k_extra "il"
  refine call_cls (C := 479) F X N (by k_is) (by k_is) (by k_is) ?_
  intro x5 dx5 h5 F5 N5 l5 l6
  have l7 : AllLt dx5 news := allLt_of l5
  have l8 := allLt_trans l6 l7
  k_lt2 l6
  k_extra "cg"
  k_steps
  rename Fr _ _ _ _ => F99
  rename News _ _ _ _ => N99
  exact hret _ _ _ _ ⟨_, _, rfl, rfl, by walk_at "sb9", _, _, _, _, _, by walk_at "km1", by walk_at "km1"⟩ F99 N99
theorem identity_spec {w : World} {news : List (Addr × Obj)} :
    Cl w 60 480 292 [] news (fun v nw => ∃ M nw', v = .ref M ∧ nw = nw' ∧ Sub news nw' ∧ MatIs w nw' M 1 0 0 1 0 0) := by
  (k_with "call ref" => (k_here; (with_reducible show wpAny _ _ (call (Value.ref 281) _) _ _ _); k_dflt (refine' cl_use8 (by k_asm) (by k_asm) (by k_asm) (by k_asm) (by k_asm) (by walk_at "kK9") (matrix_new) (by walk_at "kd9") (by walk_at "kd9") ?_); (intro x90 x91 x92 x93 x94 x95 x96 x97 R9 h9 tk9 F9 N9); (try dsimp only at R9 N9); (repeat (with_reducible (have q9 := And.left R9; replace R9 := And.right R9))); (repeat ((rename AllLt _ (_ :: _) => q9); (have p9 := allLt_hd q9); (replace q9 := allLt_tl q9); (try dsimp only at p9))); ((try dsimp only); (try k_fold); (try k_sweep))))
  unfold Cl
  k_fill
  k_extra "il"
  refine wpAny_call ?_
  k_dflt cell_enter
  k_steps
  rename Fr _ _ _ _ => F99
  rename News _ _ _ _ => N99
  exact hret _ _ _ _ ⟨_, _, rfl, rfl, by walk_at "sb9", MatIs.new R2_one R2_zero R2_zero R2_one R2_zero R2_zero (Sub.refl _) (by walk_at "km1") (by walk_at "km1")⟩ F99 N99
theorem scaling_spec {w : World} {news : List (Addr × Obj)} {A1 A2 : Addr} {q1 q2 : Rat} (h1 : R2 w news A1 q1) (h2 : R2 w news A2 q2) :
    Cl w 60 480 299 [.ref A1, .ref A2] news (fun v nw => ∃ M nw', v = .ref M ∧ nw = nw' ∧ Sub news nw' ∧ MatIs w nw' M q1 0 0 q2 0 0) := by
  (k_with "call ref" => (k_here; (with_reducible show wpAny _ _ (call (Value.ref 281) _) _ _ _); k_dflt (refine' cl_use8 (by k_asm) (by k_asm) (by k_asm) (by k_asm) (by k_asm) (by walk_at "kK9") (matrix_new) (by walk_at "kd9") (by walk_at "kd9") ?_); (intro x90 x91 x92 x93 x94 x95 x96 x97 R9 h9 tk9 F9 N9); (try dsimp only at R9 N9); (repeat (with_reducible (have q9 := And.left R9; replace R9 := And.right R9))); (repeat ((rename AllLt _ (_ :: _) => q9); (have p9 := allLt_hd q9); (replace q9 := allLt_tl q9); (try dsimp only at p9))); ((try dsimp only); (try k_fold); (try k_sweep))))
  unfold Cl
  k_fill
  k_extra "il"
  refine wpAny_call ?_
  k_dflt cell_enter
  k_steps
  rename Fr _ _ _ _ => F99
  rename News _ _ _ _ => N99
  exact hret _ _ _ _ ⟨_, _, rfl, rfl, by walk_at "sb9", MatIs.new h1 R2_zero R2_zero h2 R2_zero R2_zero (by walk_at "sb9") (by walk_at "km1") (by walk_at "km1")⟩ F99 N99
noncomputable def fitSc (qw qh cw ch : Rat) (sl : Bool) : Rat := if (decide (cw / qw < ch / qh) != sl) = true then cw / qw else ch / qh
def Sm (x : Int) : Prop := x.natAbs < 4611686018427387904
theorem mulok_sm {a b : Int} (h : Sm a) : IntMulOk a b := .of_left (intBits_le_64 (by unfold Sm at h; omega) (by unfold Sm at h; omega))
theorem Bd.sm {k : Nat} {x y : Int} (h : Bd k x y) (hk : k < 4611686018427387904) : Sm x := Nat.lt_of_le_of_lt h.1 hk
theorem Bd.sm2 {k : Nat} {x y : Int} (h : Bd k x y) (hk : k < 4611686018427387904) : Sm y := Nat.lt_of_le_of_lt h.abs1 hk
theorem red_one {x y : Int} (h : 0 < y) : Red x y x y 1 := ⟨by decide, Int.mul_one x, Int.mul_one y, h, Nat.le_refl _, Int.le_refl _, h⟩
theorem rv_cross {c0 c1 w0 w1 : Int} (h1 : 0 < c1) (h2 : 0 < w1) (h0 : 0 < w0) : rv (c0 * w1) (c1 * w0) = rv c0 c1 / rv w0 w1 := rv_div (g := 1) (by decide) (Int.mul_one _) (Int.mul_one _) h1 h2 h0 (Int.mul_pos h1 h0)
theorem cross_ok {k l : Nat} {c0 c1 w0 w1 : Int} (bc : Bd k c0 c1) (bw : Bd l w0 w1) (h0 : 0 < w0) : Bd (k * l) (c0 * w1) (c1 * w0) := (Bd.div bc bw h0 (red_one (Int.mul_pos bc.2.1 h0))).1
theorem less_bd {x y : Int} (h : 0 < y) : decide (x < 0) = decide (rv x y < 0) := decide_eq_decide.mpr (by
  have e : rv 0 1 = 0 := rv_zero
  have := rv_lt (a0 := x) (a1 := y) (b0 := 0) (b1 := 1) h (by decide)
  rw [e] at this
  rw [this]; omega)
theorem sub_neg9 {a b : Rat} : decide (a - b < 0) = decide (a < b) := decide_eq_decide.mpr (by constructor <;> intro h <;> grind)
theorem ltimes_s {w : World} {news : List (Addr × Obj)} {A B' : Addr} {a0 a1 b0 b1 : Int} {ka kb : Nat} (hA : T2 w news A a0 a1) (hB : T2 w news B' b0 b1) (ba : Bd ka a0 a1) (bb : Bd kb b0 b1) (hkk : 2 * (ka * kb) < 4611686018427387904) :
    Cl w 20 160 542 [.ref A, .ref B'] news (fun v nw => ∃ D x y nw', v = .ref D ∧ nw = nw' ∧ Sub news nw' ∧ T2 w nw' D x y ∧ Bd (ka * kb) x y ∧ rv x y = rv a0 a1 * rv b0 b1) := by
  (k_with "binaryOp Mult int int" => (with_reducible refine mul_int (hm := mulok_sm (by assumption)) ?_))
  (k_with "subscriptTail Name Constant ref int" => (k_here; k_dflt (first | ((with_reducible show wpAny _ _ (subscriptTail _ _ (Value.ref _) (Value.int 0 _)) _ _ _); (refine' item0 ?k0 ?k1 ?k2 ?k3 ?k4 ?_; (case k3 => k_asm); (case k4 => exact fun _ h => h); (case k0 => k_extra "t9"); (case k1 => k_asm); (case k2 => k_asm); intro t9)) | ((with_reducible show wpAny _ _ (subscriptTail _ _ (Value.ref _) (Value.int 1 _)) _ _ _); (refine' item1 ?k0 ?k1 ?k2 ?k3 ?k4 ?_; (case k3 => k_asm); (case k4 => exact fun _ h => h); (case k0 => k_extra "t9"); (case k1 => k_asm); (case k2 => k_asm); intro t9))); (try dsimp only)))
  unfold Cl
  k_fill
  k_extra "il"
  have f1 : ka < 4611686018427387904 := Nat.lt_of_le_of_lt (Nat.le_mul_of_pos_right ka (by have := bb.2; omega : 0 < kb)) (by omega)
  have f2 : kb < 4611686018427387904 := Nat.lt_of_le_of_lt (Nat.le_mul_of_pos_left kb (by have := ba.2; omega : 0 < ka)) (by omega)
  have s0 := ba.sm f1
  have s1 := ba.sm2 f1
  have s2 := bb.sm f2
  refine wpAny_call ?_
  k_dflt cell_enter
  k_steps
  rename Fr _ _ _ _ => F99
  rename News _ _ _ _ => N99
  have r := Bd.mul ba bb (red_one (Int.mul_pos ba.2.1 bb.2.1))
  exact hret _ _ _ _ ⟨_, _, _, _, rfl, rfl, by walk_at "sb9", by walk_at "t9", r.1, r.2⟩ F99 N99
theorem lless_s {w : World} {news : List (Addr × Obj)} {A B' : Addr} {a0 a1 b0 b1 : Int} {ka kb : Nat} (hA : T2 w news A a0 a1) (hB : T2 w news B' b0 b1) (ba : Bd ka a0 a1) (bb : Bd kb b0 b1) (hkk : 2 * (ka * kb) < 4611686018427387904) :
    Cl w 20 160 549 [.ref A, .ref B'] news (fun v nw => ∃ D x y nw', v = .ref D ∧ nw = nw' ∧ Sub news nw' ∧ T2 w nw' D x y ∧ Bd (2 * (ka * kb)) x y ∧ rv x y = rv a0 a1 - rv b0 b1 ∧ decide (x < 0) = decide (rv a0 a1 < rv b0 b1)) := by
  (k_with "binaryOp Mult int int" => (with_reducible refine mul_int (hm := mulok_sm (by assumption)) ?_))
  (k_with "subscriptTail Name Constant ref int" => (k_here; k_dflt (first | ((with_reducible show wpAny _ _ (subscriptTail _ _ (Value.ref _) (Value.int 0 _)) _ _ _); (refine' item0 ?k0 ?k1 ?k2 ?k3 ?k4 ?_; (case k3 => k_asm); (case k4 => exact fun _ h => h); (case k0 => k_extra "t9"); (case k1 => k_asm); (case k2 => k_asm); intro t9)) | ((with_reducible show wpAny _ _ (subscriptTail _ _ (Value.ref _) (Value.int 1 _)) _ _ _); (refine' item1 ?k0 ?k1 ?k2 ?k3 ?k4 ?_; (case k3 => k_asm); (case k4 => exact fun _ h => h); (case k0 => k_extra "t9"); (case k1 => k_asm); (case k2 => k_asm); intro t9))); (try dsimp only)))
  unfold Cl
  k_fill
  k_extra "il"
  have f1 : ka < 4611686018427387904 := Nat.lt_of_le_of_lt (Nat.le_mul_of_pos_right ka (by have := bb.2; omega : 0 < kb)) (by omega)
  have f2 : kb < 4611686018427387904 := Nat.lt_of_le_of_lt (Nat.le_mul_of_pos_left kb (by have := ba.2; omega : 0 < ka)) (by omega)
  have s0 := ba.sm f1
  have s1 := ba.sm2 f1
  have s2 := bb.sm f2
  refine wpAny_call ?_
  k_dflt cell_enter
  k_steps
  rename Fr _ _ _ _ => F99
  rename News _ _ _ _ => N99
  have r := Bd.sub ba bb (red_one (Int.mul_pos ba.2.1 bb.2.1))
  exact hret _ _ _ _ ⟨_, _, _, _, rfl, rfl, by walk_at "sb9", by walk_at "t9", r.1, r.2, by rw [less_bd r.1.2.1, r.2, sub_neg9]⟩ F99 N99
theorem ne_tup_str {prog : Program} {w : World} {A : Around} {E : Value → Shared → Prop} {s : Shared} {h₀ : Heap} {L a : Addr} {c : Nat} {news : List (Addr × Obj)} {xs : List Value} {b : Str} {u : Tok} {Q : Value → Shared → Prop} (N : News h₀ L s.heap news) (ha : (a, tup xs c) ∈ news) (hu : A.units < cLine) (h : Q (.bool true) s) :
    wpAny (model prog w) A (compareOp .NotEq (.ref a) (.str b u)) Q E s :=
  SeqAt.RcNeAt.tuple_str b u ⟨_, (N _ ha).1, rfl, _, rfl⟩ hu prog w E Q h
inductive PV
  | none | bool (b : Bool) | int (k : Int) | str (x : Str) | ref (a : Addr)
def PvIs : Value → PV → Prop
  | .none, .none => True
  | .bool b, .bool c => b = c
  | .int k _, .int j => k = j
  | .str x _, .str y => x = y
  | .ref a, .ref b => a = b
  | _, _ => False
theorem all2_1 {vs : List Value} {p1 : PV} (h : All2 PvIs vs [p1]) : ∃ v1, vs = [v1] ∧ PvIs v1 p1 := by
  cases vs with
  | nil => exact h.elim
  | cons v r => cases r with
    | nil => exact ⟨v, rfl, h.1⟩
    | cons => exact h.2.elim
theorem all2_2 {vs : List Value} {p1 p2 : PV} (h : All2 PvIs vs [p1, p2]) : ∃ v1 v2, vs = [v1, v2] ∧ PvIs v1 p1 ∧ PvIs v2 p2 := by
  cases vs with
  | nil => exact h.elim
  | cons v r =>
    obtain ⟨v2, rfl, i2⟩ := all2_1 h.2
    exact ⟨v, v2, rfl, h.1, i2⟩
theorem all2_3 {vs : List Value} {p1 p2 p3 : PV} (h : All2 PvIs vs [p1, p2, p3]) : ∃ v1 v2 v3, vs = [v1, v2, v3] ∧ PvIs v1 p1 ∧ PvIs v2 p2 ∧ PvIs v3 p3 := by
  cases vs with
  | nil => exact h.elim
  | cons v r =>
    obtain ⟨v2, v3, rfl, i2, i3⟩ := all2_2 h.2
    exact ⟨v, v2, v3, rfl, h.1, i2, i3⟩
theorem all2_4 {vs : List Value} {p1 p2 p3 p4 : PV} (h : All2 PvIs vs [p1, p2, p3, p4]) : ∃ v1 v2 v3 v4, vs = [v1, v2, v3, v4] ∧ PvIs v1 p1 ∧ PvIs v2 p2 ∧ PvIs v3 p3 ∧ PvIs v4 p4 := by
  cases vs with
  | nil => exact h.elim
  | cons v r =>
    obtain ⟨v2, v3, v4, rfl, i2, i3, i4⟩ := all2_3 h.2
    exact ⟨v, v2, v3, v4, rfl, h.1, i2, i3, i4⟩
theorem all2_5 {vs : List Value} {p1 p2 p3 p4 p5 : PV} (h : All2 PvIs vs [p1, p2, p3, p4, p5]) : ∃ v1 v2 v3 v4 v5, vs = [v1, v2, v3, v4, v5] ∧ PvIs v1 p1 ∧ PvIs v2 p2 ∧ PvIs v3 p3 ∧ PvIs v4 p4 ∧ PvIs v5 p5 := by
  cases vs with
  | nil => exact h.elim
  | cons v r =>
    obtain ⟨v2, v3, v4, v5, rfl, i2, i3, i4, i5⟩ := all2_4 h.2
    exact ⟨v, v2, v3, v4, v5, rfl, h.1, i2, i3, i4, i5⟩
theorem PvIs.int {v : Value} {k : Int} (h : PvIs v (.int k)) : ∃ t, v = .int k t := by
  cases v <;> first | exact h.elim | (have e : _ = k := h; subst e; exact ⟨_, rfl⟩)
theorem PvIs.str {v : Value} {k : Str} (h : PvIs v (.str k)) : ∃ t, v = .str k t := by
  cases v <;> first | exact h.elim | (have e : _ = k := h; subst e; exact ⟨_, rfl⟩)
theorem PvIs.ref {v : Value} {a : Addr} (h : PvIs v (.ref a)) : v = .ref a := by
  cases v <;> first | exact h.elim | (have e : _ = a := h; subst e; rfl)
theorem PvIs.bool {v : Value} {b : Bool} (h : PvIs v (.bool b)) : v = .bool b := by
  cases v <;> first | exact h.elim | (have e : _ = b := h; subst e; rfl)
theorem PvIs.none {v : Value} (h : PvIs v .none) : v = .none := by
  cases v <;> first | exact h.elim | rfl
noncomputable abbrev Led := List (Addr × Obj)
noncomputable abbrev Nms := List (Str × PV)
def NmsIs (m' : Str → Option Value) (m : Nms) : Prop := ∀ x pv, m.lookup x = some pv → ∃ v, m' x = some v ∧ PvIs v pv
structure Sc where
  s : Scope
  cl : List (Str × Addr)
structure Fc (w : World) where
  dp : Nat
  un : Nat
  gd : Option (List Code)
  cn : Str
  L : Addr
  a : Addr
  ccd : Value
  outer : List Env
  A₀ : Around
  base : Heap
  g : Heap
  loose : List Str
  mean : ExcName → Option Value
  mg : Str → Option Value
  mb : Str → Option Value
section
variable {w : World}
noncomputable def Fc.env (c : Fc w) (sc : Sc) : Env := envX c.cn sc.s c.L c.a c.ccd sc.cl
noncomputable def Fc.A (c : Fc w) (sc : Sc) : Around := ktrTop c.dp c.un c.gd c.cn sc.s c.L c.a c.ccd sc.cl c.outer
structure Fc.Ok (c : Fc w) (sc : Sc) (d u : Nat) : Prop where
  B : Below c.A₀ c.base c.outer c.g
  X : (Mine.hd.heap_1 w.params).In c.g
  T : Top topProg c.loose c.mean c.mg c.mb c.g
  hk : sc.s.kind = .function
  hd : c.dp + d < recursionLimit
  hu : c.un + u < cLine
inductive At (c : Fc w) (m : Nms) (n : Led) (h : Heap) : Prop
  | mk (m' : _) (f0 : NmsIs m' m) (f1 : Fr c.g c.L h m') (f2 : News c.g c.L h n) : At c m n h
abbrev CallEq (fx : Str) (fp p : Pos) (e : Expr) (es : List Expr) : Prop := ∀ env, eval ((Expr.Name fx fp).Call (e :: es) [] p) env = (do let v ← eval (Expr.Name fx fp) env; callWith p v [] (backTo p (starEach (e :: es) env)) (backToKw p (keywordEach [] env)))
abbrev StarEq (e : Expr) (es : List Expr) : Prop := ∀ env, starEach (e :: es) env = (false, eval e env) :: starEach es env
abbrev NoStar (p : Pos) (es : List Expr) : Prop := ∀ env, ((backTo p (starEach es env)).any fun x => x.1) = false
noncomputable abbrev PG := PySem.Challenge.rw_xm0694_01.row.prog
def Tr {α β : Type} (I : α → β → Prop) (sc : Sc) (d u : Nat) {w : World} (m : Nms) (n : Led) (t : Env → Sem α) (R : β → Led → Prop) : Prop :=
  ∀ (c : Fc w), c.Ok sc d u → ∀ (s : Shared) (Q : α → Shared → Prop) (E : Value → Shared → Prop), At c m n s.heap →
    (∀ v pv n' h' tk', I v pv → R pv n' → At c m n' h' → Q v { s with heap := h', toks := tk' }) → wpAny (model PG w) (c.A sc) (t (c.env sc)) Q E s
abbrev Ev (sc : Sc) (d u : Nat) (w : World) (m : Nms) (n : Led) (e : Expr) (R : PV → Led → Prop) : Prop := Tr (w := w) PvIs sc d u m n (fun env => eval e env) R
abbrev Op (sc : Sc) (d u : Nat) (w : World) (m : Nms) (n : Led) (pvs : List PV) (t : List Value → Sem Value) (R : PV → Led → Prop) : Prop := ∀ vs, All2 PvIs vs pvs → Tr (w := w) PvIs sc d u m n (fun _ => t vs) R
end
section
variable {sc : Sc} {d u : Nat} {w : World} {m : Nms} {n : Led} {R : PV → Led → Prop}
theorem Ev.int {i : Int} {k : Nat} {p : Pos} (h : R (.int i) n) : Ev sc d u w m n (.Constant (.int i) k p) R :=
  fun _ _ s _ _ A q => wpAny_Constant_int (q _ (.int i) n s.heap _ rfl h A)
theorem Ev.str {x : Str} {k : Nat} {p : Pos} (h : R (.str x) n) : Ev sc d u w m n (.Constant (.str x) k p) R :=
  fun _ _ s _ _ A q => wpAny_Constant_str (q _ (.str x) n s.heap _ rfl h A)
theorem Ev.none {k : Nat} {p : Pos} (h : R .none n) : Ev sc d u w m n (.Constant .none k p) R :=
  fun _ _ s _ _ A q => wpAny_Constant_none (q _ .none n s.heap s.toks trivial h A)
theorem Ev.bool {b : Bool} {k : Nat} {p : Pos} (h : R (.bool b) n) : Ev sc d u w m n (.Constant (.bool b) k p) R :=
  fun _ _ s _ _ A q => wpAny_Constant_bool (q _ (.bool b) n s.heap s.toks rfl h A)
theorem Ev.name {x : Str} {p : Pos} {pv : PV} (hm : m.lookup x = some pv) (h : R pv n) (hx : autoParam (∀ c : Fc w, (c.env sc).kindOf x = some .local) aY) (hd : autoParam ((x == Str.ofString "__debug__") = false) aW) : Ev sc d u w m n (.Name x p) R := by
  intro c hc s Q E A q
  obtain ⟨m', hm', F, N⟩ := A
  obtain ⟨v, hv, hp⟩ := hm' x pv hm
  exact nameX_L F hv (q v pv n s.heap s.toks hp h ⟨m', hm', F, N⟩) hc.hk (hx c) hd
noncomputable abbrev bnT (op : Operator) (vs : List Value) : Sem Value := binaryOp op (vs[0]?.getD .none) (vs[1]?.getD .none)
abbrev KOp (sc : Sc) (d u : Nat) (w : World) (m : Nms) (t : List Value → Sem Value) (R : PV → Led → Prop) (va vb : PV) (n : Led) : Prop := Op sc d u w m n [va, vb] t R
abbrev KBin (sc : Sc) (d u : Nat) (w : World) (m : Nms) (b : Expr) (t : List Value → Sem Value) (R : PV → Led → Prop) (va : PV) (n : Led) : Prop := Ev sc d u w m n b (KOp sc d u w m t R va)
theorem Ev.bin {a b : Expr} {op : Operator} {p : Pos} (ha : Ev sc d u w m n a (KBin sc d u w m b (bnT op) R)) : Ev sc d u w m n (.BinOp a op b p) R := by
  intro c hc s Q E A q
  refine wpAny_BinOp (ha c hc s _ E A fun v1 p1 n1 h1 t1 i1 r1 A1 => ?_)
  refine r1 c hc _ _ E A1 fun v2 p2 n2 h2 t2 i2 r2 A2 => ?_
  exact r2 [v1, v2] ⟨i1, i2, trivial⟩ c hc _ Q E A2 q
theorem Op.mul {a b : Int} (hm : IntMulOk a b) (h : R (.int (a * b)) n) : Op sc d u w m n [.int a, .int b] (bnT .Mult) R := by
  intro vs hv c hc s Q E A q
  obtain ⟨v1, v2, rfl, i1, i2⟩ := all2_2 hv
  obtain ⟨t1, rfl⟩ := i1.int
  obtain ⟨t2, rfl⟩ := i2.int
  exact mul_int (q _ (.int (a * b)) n s.heap _ rfl h A) hm
theorem Op.sub {a b : Int} (h : R (.int (a - b)) n) : Op sc d u w m n [.int a, .int b] (bnT .Sub) R := by
  intro vs hv c hc s Q E A q
  obtain ⟨v1, v2, rfl, i1, i2⟩ := all2_2 hv
  obtain ⟨t1, rfl⟩ := i1.int
  obtain ⟨t2, rfl⟩ := i2.int
  exact sub_int (q _ (.int (a - b)) n s.heap _ rfl h A)
inductive TupAt (n : Led) (D : Addr) (pvs : List PV) : Prop
  | mk (vs : _) (c : _) (f0 : (D, tup vs c) ∈ n) (f1 : All2 PvIs vs pvs) : TupAt n D pvs
inductive LstAt (n : Led) (D : Addr) (pvs : List PV) : Prop
  | mk (vs : _) (c : _) (f0 : (D, listOf vs.toArray c) ∈ n) (f1 : All2 PvIs vs pvs) : LstAt n D pvs
theorem TupAt.sub {n n' : Led} {D : Addr} {pvs : List PV} (h : TupAt n D pvs) (s : Sub n n') : TupAt n' D pvs := by
  obtain ⟨vs, c, h1, h2⟩ := h
  exact ⟨vs, c, s _ h1, h2⟩
theorem LstAt.sub {n n' : Led} {D : Addr} {pvs : List PV} (h : LstAt n D pvs) (s : Sub n n') : LstAt n' D pvs := by
  obtain ⟨vs, c, h1, h2⟩ := h
  exact ⟨vs, c, s _ h1, h2⟩
theorem TupAt.t2 {n : Led} {D : Addr} {x y : Int} (h : TupAt n D [.int x, .int y]) : T2 w n D x y := by
  obtain ⟨vs, c, h1, h2⟩ := h
  obtain ⟨v1, v2, rfl, i1, i2⟩ := all2_2 h2
  obtain ⟨t1, rfl⟩ := i1.int
  obtain ⟨t2, rfl⟩ := i2.int
  exact T2.new h1
noncomputable abbrev sbT (value slice : Expr) (vs : List Value) : Sem Value := subscriptTail value slice (vs[0]?.getD .none) (vs[1]?.getD .none)
abbrev SbOk (slice : Expr) : Prop := ∀ (D : Addr) (k : Int) (u : Tok), subscripted slice false (.ref D) (.int k u) = operate [.ref D, .int k u] (getItem (.ref D) (.int k u))
theorem Ev.subs {a b : Expr} {p : Pos} (ha : Ev sc d u w m n a (KBin sc d u w m b (sbT a b) R)) : Ev sc d u w m n (.Subscript a b p) R := by
  intro c hc s Q E A q
  refine Subscript_ (ha c hc s _ E A fun v1 p1 n1 h1 t1 i1 r1 A1 => ?_)
  refine r1 c hc _ _ E A1 fun v2 p2 n2 h2 t2 i2 r2 A2 => ?_
  exact r2 [v1, v2] ⟨i1, i2, trivial⟩ c hc _ Q E A2 q
theorem Op.t2a {a b : Expr} {D : Addr} {x y : Int} (hT : T2 w n D x y) (h : R (.int x) n) (hs : autoParam (SbOk b) aI) : Op sc d u w m n [.ref D, .int 0] (sbT a b) R := by
  intro vs hv c hc s Q E A q
  obtain ⟨v1, v2, rfl, i1, i2⟩ := all2_2 hv
  obtain rfl := i1.ref
  obtain ⟨t2, rfl⟩ := i2.int
  obtain ⟨m', hm', F, N⟩ := A
  exact item0 hT F hc.X N (fun _ h => h) (fun t => q _ (.int x) n s.heap s.toks rfl h ⟨m', hm', F, N⟩) (hs D 0 t2)
theorem Op.t2b {a b : Expr} {D : Addr} {x y : Int} (hT : T2 w n D x y) (h : R (.int y) n) (hs : autoParam (SbOk b) aI) : Op sc d u w m n [.ref D, .int 1] (sbT a b) R := by
  intro vs hv c hc s Q E A q
  obtain ⟨v1, v2, rfl, i1, i2⟩ := all2_2 hv
  obtain rfl := i1.ref
  obtain ⟨t2, rfl⟩ := i2.int
  obtain ⟨m', hm', F, N⟩ := A
  exact item1 hT F hc.X N (fun _ h => h) (fun t => q _ (.int y) n s.heap s.toks rfl h ⟨m', hm', F, N⟩) (hs D 1 t2)
theorem Op.tupItem {a b : Expr} {D : Addr} {pvs : List PV} {k : Nat} {pv : PV} (hT : TupAt n D pvs) (hk : pvs[k]? = some pv) (hb : k < 1000) (h : R pv n) (hs : autoParam (SbOk b) aI) : Op sc d u w m n [.ref D, .int (k : Int)] (sbT a b) R := by
  intro vs hv c hc s Q E A q
  obtain ⟨vs', c', hm, h2⟩ := hT
  obtain ⟨m', hm', F, N⟩ := A
  obtain ⟨v1, v2, rfl, i1, i2⟩ := all2_2 hv
  obtain rfl := i1.ref
  obtain ⟨t2, rfl⟩ := i2.int
  have hl := h2.len
  have hk' : k < vs'.length := by rw [hl]; exact (List.getElem?_eq_some_iff.mp hk).1
  obtain ⟨pv', e1, e2⟩ := h2.get (List.getElem?_eq_getElem hk')
  rw [hk] at e1
  obtain rfl := Option.some.inj e1
  exact sub_tup hm N rfl hb (List.getElem?_eq_getElem hk') (q _ pv n s.heap s.toks e2 h ⟨m', hm', F, N⟩) (fun k => hs D k t2)
theorem Op.lstItem {a b : Expr} {D : Addr} {pvs : List PV} {k : Nat} {pv : PV} (hT : LstAt n D pvs) (hk : pvs[k]? = some pv) (hb : pvs.length < 1000) (h : R pv n) (hs : autoParam (SbOk b) aI) : Op sc d u w m n [.ref D, .int (k : Int)] (sbT a b) R := by
  intro vs hv c hc s Q E A q
  obtain ⟨vs', c', hm, h2⟩ := hT
  obtain ⟨m', hm', F, N⟩ := A
  obtain ⟨v1, v2, rfl, i1, i2⟩ := all2_2 hv
  obtain rfl := i1.ref
  obtain ⟨t2, rfl⟩ := i2.int
  have hl := h2.len
  have hk' : k < vs'.length := by rw [hl]; exact (List.getElem?_eq_some_iff.mp hk).1
  refine item_at (vs := vs') ⟨_, (N _ hm).1, rfl, _, rfl⟩ (Int.natCast_nonneg k) (by omega) (by omega) (fun v hv => ?_) (hs D k t2)
  obtain ⟨pv', e1, e2⟩ := h2.get hv
  rw [Int.toNat_natCast, hk] at e1
  obtain rfl := Option.some.inj e1
  exact q _ pv n s.heap s.toks e2 h ⟨m', hm', F, N⟩
abbrev Evs (sc : Sc) (d u : Nat) (w : World) (m : Nms) (n : Led) (p : Pos) (es : List Expr) (R : List PV → Led → Prop) : Prop := Tr (w := w) (All2 PvIs) sc d u m n (fun env => spliced (backTo p (starEach es env))) R
theorem Evs.nil {p : Pos} {R : List PV → Led → Prop} (h : R [] n) : Evs sc d u w m n p [] R := by
  intro c hc s Q E A q
  exact args_nil (q [] [] n s.heap s.toks trivial h A)
abbrev KPut (R : List PV → Led → Prop) (pv : PV) (pvs : List PV) (n : Led) : Prop := R (pv :: pvs) n
abbrev KCons (sc : Sc) (d u : Nat) (w : World) (m : Nms) (p : Pos) (es : List Expr) (R : List PV → Led → Prop) (pv : PV) (n : Led) : Prop := Evs sc d u w m n p es (KPut R pv)
theorem Evs.cons {p : Pos} {e : Expr} {es : List Expr} {R : List PV → Led → Prop} (h : Ev sc d u w m n e (KCons sc d u w m p es R)) (hs : autoParam (StarEq e es) aY) : Evs sc d u w m n p (e :: es) R := by
  intro c hc s Q E A q
  refine args_cons (h c hc s _ E A fun v1 p1 n1 h1 t1 i1 r1 A1 => ?_) (hs _)
  exact r1 c hc _ _ E A1 fun v2 p2 n2 h2 t2 i2 r2 A2 => q (v1 :: v2) (p1 :: p2) n2 h2 t2 ⟨i1, i2⟩ r2 A2
structure KTup (R : PV → Led → Prop) (pvs : List PV) (n : Led) : Prop where
  f0 : pvs.length ≤ sizeLine
  f1 : ∀ D n2, Sub n n2 → TupAt n2 D pvs → R (.ref D) n2
structure KLst (R : PV → Led → Prop) (pvs : List PV) (n : Led) : Prop where
  f0 : pvs.length ≤ sizeLine
  f1 : ∀ D n2, Sub n n2 → LstAt n2 D pvs → R (.ref D) n2
theorem Ev.tuple {es : List Expr} {k : Nat} {p : Pos} (h : Evs sc d u w m n p es (KTup R)) : Ev sc d u w m n (.Tuple es k p) R := by
  intro c hc s Q E A q
  refine Tuple_ (h c hc s _ E A fun vs pvs n1 h1 t1 i1 r1 A1 => ?_)
  obtain ⟨m', hm', F, N⟩ := A1
  exact kup_newTuple (s := { s with heap := h1, toks := t1 }) F N (fun D h2 F2 N2 _ => q (.ref D) (.ref D) _ h2 t1 rfl (r1.2 D _ (Sub.tail (Sub.refl _)) ⟨vs, 0, .head _, i1⟩) ⟨m', hm', F2, N2⟩) (by rw [i1.len]; exact r1.1)
theorem Ev.list {es : List Expr} {p : Pos} (h : Evs sc d u w m n p es (KLst R)) : Ev sc d u w m n (.List es p) R := by
  intro c hc s Q E A q
  refine List_ (h c hc s _ E A fun vs pvs n1 h1 t1 i1 r1 A1 => ?_)
  obtain ⟨m', hm', F, N⟩ := A1
  exact newList_K (s := { s with heap := h1, toks := t1 }) F N (fun D h2 F2 N2 _ => q (.ref D) (.ref D) _ h2 t1 rfl (r1.2 D _ (Sub.tail (Sub.refl _)) ⟨vs, 0, .head _, i1⟩) ⟨m', hm', F2, N2⟩) (by rw [i1.len]; exact r1.1)
def PCl (d u : Nat) (f : Addr) (w : World) (pvs : List PV) (n : Led) (R : PV → Led → Prop) : Prop := ∀ vs, All2 PvIs vs pvs → Cl w d u f vs n fun v n' => ∃ pv, PvIs v pv ∧ R pv n'
abbrev KCall (d' u' : Nat) (f : Addr) (w : World) (R : PV → Led → Prop) (pvs : List PV) (n : Led) : Prop := PCl d' u' f w pvs n R
theorem Ev.call {fx : Str} {fp p : Pos} {e : Expr} {es : List Expr} {f : Addr} {d' u' : Nat} (hf : ∀ w : World, nsIn (Mine.hd.heap_1 w.params) mainGlobals fx = some (some (.ref f))) (hk : ∀ w : World, keepIn (Mine.hd.heap_1 w.params) (.ref f) = true)
    (h : Evs sc d u w m n p (e :: es) (KCall d' u' f w R)) (hd : d' ≤ d) (hu : u' ≤ u) (hx : autoParam (∀ c : Fc w, (c.env sc).kindOf fx = some .globalImplicit) aY) (hg : autoParam ((fx == Str.ofString "__debug__") = false) aW)
    (h1 : autoParam (CallEq fx fp p e es) aY)
    (h2 : autoParam (StarEq e es) aY) (h3 : autoParam (NoStar p es) aY) :
    Ev sc d u w m n (.Call (.Name fx fp) (e :: es) [] p) R := by
  intro c hc s Q E A q
  obtain ⟨m', hm', F, N⟩ := A
  refine Call_ (nameX_K F hc.X (topRead_of hc.T) (hf w) ?_ hc.hk (hx c) hg) (h1 _)
  refine callWith_K hc.X (hk w) (h c hc s _ E ⟨m', hm', F, N⟩ fun vs pvs n1 h1 t1 i1 r1 A1 => ?_) (h2 _) (h3 _)
  obtain ⟨m1, hm1, F1, N1⟩ := A1
  refine ⟨hc.X.keeps F1.keep, ?_⟩
  exact cl_use (r1 vs i1) (s := { s with heap := h1, toks := t1 }) hc.B F1 hc.X N1 hc.T hc.hk (Nat.lt_of_le_of_lt (Nat.add_le_add_left hd _) hc.hd) (Nat.lt_of_le_of_lt (Nat.add_le_add_left hu _) hc.hu)
    fun v nw h' tk' ⟨pv, a1, a2⟩ F' N' => q v pv nw h' tk' a1 a2 ⟨m1, hm1, F', N'⟩
end
section
variable {sc : Sc} {d u : Nat} {w : World} {m : Nms} {n : Led} {R : PV → Led → Prop}
noncomputable abbrev cmT (op : CmpOp) (vs : List Value) : Sem Value := compareOp op (vs[0]?.getD .none) (vs[1]?.getD .none)
theorem Ev.cmp {a b : Expr} {op : CmpOp} {p : Pos} (ha : Ev sc d u w m n a (KBin sc d u w m b (cmT op) R)) (hb : autoParam (behindInMarks op b = false) aW) : Ev sc d u w m n (.Compare a [op] [b] p) R := by
  intro c hc s Q E A q
  refine wpAny_Compare1 (ha c hc s _ E A fun v1 p1 n1 h1 t1 i1 r1 A1 => ?_) hb
  refine r1 c hc _ _ E A1 fun v2 p2 n2 h2 t2 i2 r2 A2 => ?_
  exact r2 [v1, v2] ⟨i1, i2, trivial⟩ c hc _ Q E A2 q
theorem Op.ltI {a b : Int} (h : R (.bool (decide (a < b))) n) : Op sc d u w m n [.int a, .int b] (cmT .Lt) R := by
  intro vs hv c hc s Q E A q
  obtain ⟨v1, v2, rfl, i1, i2⟩ := all2_2 hv
  obtain ⟨t1, rfl⟩ := i1.int
  obtain ⟨t2, rfl⟩ := i2.int
  exact lt_int (q _ (.bool (decide (a < b))) n s.heap s.toks rfl h A)
theorem Op.neS {a b : Str} (h : R (.bool (a != b)) n) : Op sc d u w m n [.str a, .str b] (cmT .NotEq) R := by
  intro vs hv c hc s Q E A q
  obtain ⟨v1, v2, rfl, i1, i2⟩ := all2_2 hv
  obtain ⟨t1, rfl⟩ := i1.str
  obtain ⟨t2, rfl⟩ := i2.str
  exact ne_str (q _ (.bool (a != b)) n s.heap s.toks rfl h A)
theorem Op.eqS {a b : Str} (h : R (.bool (a == b)) n) : Op sc d u w m n [.str a, .str b] (cmT .Eq) R := by
  intro vs hv c hc s Q E A q
  obtain ⟨v1, v2, rfl, i1, i2⟩ := all2_2 hv
  obtain ⟨t1, rfl⟩ := i1.str
  obtain ⟨t2, rfl⟩ := i2.str
  exact eq_str (q _ (.bool (a == b)) n s.heap s.toks rfl h A)
theorem Op.neB {a b : Bool} (h : R (.bool (a != b)) n) : Op sc d u w m n [.bool a, .bool b] (cmT .NotEq) R := by
  intro vs hv c hc s Q E A q
  obtain ⟨v1, v2, rfl, i1, i2⟩ := all2_2 hv
  obtain rfl := i1.bool
  obtain rfl := i2.bool
  exact ne_bool (q _ (.bool (a != b)) n s.heap s.toks rfl h A)
theorem Fc.Ok.units {c : Fc w} (hc : c.Ok sc d u) : (c.A sc).units < cLine := Nat.lt_of_le_of_lt (Nat.le_add_right _ _) hc.hu
theorem Op.neTS {a : Addr} {b : Str} {pvs : List PV} (hT : TupAt n a pvs) (h : R (.bool true) n) : Op sc d u w m n [.ref a, .str b] (cmT .NotEq) R := by
  intro vs hv c hc s Q E A q
  obtain ⟨vs', c', hm, h2⟩ := hT
  obtain ⟨v1, v2, rfl, i1, i2⟩ := all2_2 hv
  obtain rfl := i1.ref
  obtain ⟨t2, rfl⟩ := i2.str
  obtain ⟨m', hm', F, N⟩ := A
  exact ne_tup_str N hm hc.units (q _ (.bool true) n s.heap s.toks rfl h ⟨m', hm', F, N⟩)
def Tst (sc : Sc) (d u : Nat) (w : World) (m : Nms) (n : Led) (e : Expr) (R : Bool → Led → Prop) : Prop := Tr (w := w) (fun (a : Bool) b => a = b) sc d u m n (fun env => isTrue e env (eval e env)) R
inductive KBool (R : Bool → Led → Prop) (pv : PV) (n : Led) : Prop
  | mk (b : _) (f0 : pv = .bool b) (f1 : R b n) : KBool R pv n
theorem Tst.cmp {a b : Expr} {op : CmpOp} {p : Pos} {R : Bool → Led → Prop} (ha : Ev sc d u w m n a (KBin sc d u w m b (cmT op) (KBool R))) (hb : autoParam (behindInMarks op b = false) aW) : Tst sc d u w m n (.Compare a [op] [b] p) R := by
  intro c hc s Q E A q
  refine wpAny_isTrue_Compare1 (ha c hc s _ E A fun v1 p1 n1 h1 t1 i1 r1 A1 => ?_) hb
  refine r1 c hc _ _ E A1 fun v2 p2 n2 h2 t2 i2 r2 A2 => ?_
  refine r2 [v1, v2] ⟨i1, i2, trivial⟩ c hc _ _ E A2 fun v3 p3 n3 h3 t3 i3 r3 A3 => ?_
  obtain ⟨b', rfl, r4⟩ := r3
  obtain rfl := i3.bool
  exact wpAny_truthy_bool (q b' b' n3 h3 t3 rfl r4 A3)
theorem Ev.ifexp {t a b : Expr} {p : Pos} (h : Tst sc d u w m n t fun c n1 => (c = true → Ev sc d u w m n1 a R) ∧ (c = false → Ev sc d u w m n1 b R)) : Ev sc d u w m n (.IfExp t a b p) R := by
  intro c hc s Q E A q
  refine wpAny_IfExp (h c hc s _ E A fun v pv n1 h1 t1 i1 r1 A1 => ?_)
  obtain rfl := i1
  cases v
  · exact r1.2 rfl c hc _ Q E A1 q
  · exact r1.1 rfl c hc _ Q E A1 q
inductive PF
  | next | brk | cont | ret (v : PV)
def FlIs : Flow → PF → Prop
  | .next, .next => True
  | .brk, .brk => True
  | .cont, .cont => True
  | .ret v, .ret p => PvIs v p
  | _, _ => False
def ExT (sc : Sc) (d u : Nat) (w : World) (m : Nms) (n : Led) (t : Env → Sem Flow) (R : PF → Nms → Led → Prop) : Prop :=
  ∀ (c : Fc w), c.Ok sc d u → ∀ (s : Shared) (Q : Flow → Shared → Prop) (E : Value → Shared → Prop), At c m n s.heap →
    (∀ f pf m' n' h' tk', FlIs f pf → R pf m' n' → At c m' n' h' → Q f { s with heap := h', toks := tk' }) → wpAny (model PG w) (c.A sc) (t (c.env sc)) Q E s
abbrev Ex (sc : Sc) (d u : Nat) (w : World) (m : Nms) (n : Led) (ss : List Stmt) (R : PF → Nms → Led → Prop) : Prop := ExT sc d u w m n (fun env => execs ss env) R
abbrev Ex1 (sc : Sc) (d u : Nat) (w : World) (m : Nms) (n : Led) (st : Stmt) (R : PF → Nms → Led → Prop) : Prop := ExT sc d u w m n (fun env => exec st env) R
variable {S : PF → Nms → Led → Prop}
theorem Ex.nil (h : S .next m n) : Ex sc d u w m n [] S := fun _ _ s _ _ A q => wpAny_execs_nil (q .next .next m n s.heap s.toks trivial h A)
def Nxt (sc : Sc) (d u : Nat) (w : World) (ss : List Stmt) (S : PF → Nms → Led → Prop) : PF → Nms → Led → Prop
  | .next, m, n => Ex sc d u w m n ss S
  | pf, m, n => S pf m n
theorem Nxt.next {ss : List Stmt} (h : Ex sc d u w m n ss S) : Nxt sc d u w ss S .next m n := h
theorem Nxt.ret {ss : List Stmt} {pv : PV} (h : S (.ret pv) m n) : Nxt sc d u w ss S (.ret pv) m n := h
theorem Ex.cons {st : Stmt} {ss : List Stmt} (h : Ex1 sc d u w m n st (Nxt sc d u w ss S)) : Ex sc d u w m n (st :: ss) S := by
  intro c hc s Q E A q
  refine wpAny_execs_cons (h c hc s _ E A fun f pf m1 n1 h1 t1 i1 r1 A1 => ?_)
  cases f with
  | next => cases pf <;> first | exact i1.elim | exact r1 c hc _ Q E A1 q
  | brk => cases pf <;> first | exact i1.elim | exact q _ _ m1 n1 h1 t1 i1 r1 A1
  | cont => cases pf <;> first | exact i1.elim | exact q _ _ m1 n1 h1 t1 i1 r1 A1
  | ret v => cases pf <;> first | exact i1.elim | exact q _ _ m1 n1 h1 t1 i1 r1 A1
def Two (b : Bool) (A B : Prop) : Prop := (b = true → A) ∧ (b = false → B)
theorem Two.yes {b : Bool} {A B : Prop} (h : b = true) (k : A) : Two b A B := ⟨fun _ => k, fun e => absurd (h.symm.trans e) (by decide)⟩
theorem Two.no {b : Bool} {A B : Prop} (h : b = false) (k : B) : Two b A B := ⟨fun e => absurd (h.symm.trans e) (by decide), fun _ => k⟩
theorem nmsIs_cons {m' : Str → Option Value} {x : Str} {v : Value} {pv : PV} (h : NmsIs m' m) (hp : PvIs v pv) : NmsIs (fun y => if y = x then some v else m' y) ((x, pv) :: m) := by
  intro y p hy
  rw [List.lookup_cons] at hy
  by_cases e : y = x
  · subst e
    rw [beq_self_eq_true] at hy
    obtain rfl := Option.some.inj hy
    exact ⟨v, if_pos rfl, hp⟩
  · rw [beq_eq_false_iff_ne.mpr e] at hy
    obtain ⟨v', h1, h2⟩ := h y p hy
    exact ⟨v', (if_neg e).trans h1, h2⟩
theorem store_rule {c : Fc w} {x : Str} {v : Value} {pv : PV} {s : Shared} {Q : Unit → Shared → Prop} {E : Value → Shared → Prop} {M : Model} (hc : c.Ok sc d u) (hx : (c.env sc).kindOf x = some .local) (A : At c m n s.heap) (hp : PvIs v pv)
    (k : ∀ h' tk', At c ((x, pv) :: m) n h' → Q () { s with heap := h', toks := tk' }) : wpAny M (c.A sc) (storeName (c.env sc) x v) Q E s := by
  obtain ⟨m', hm', F, N⟩ := A
  exact storeX_L F N (fun h' F' N' => k h' _ ⟨_, nmsIs_cons hm' hp, F', N'⟩) hc.hk hx
abbrev KAsg (S : PF → Nms → Led → Prop) (m : Nms) (x : Str) (pv : PV) (n : Led) : Prop := S .next ((x, pv) :: m) n
abbrev KRet (S : PF → Nms → Led → Prop) (m : Nms) (pv : PV) (n : Led) : Prop := S (.ret pv) m n
theorem Ex1.assign {x : Str} {p p' : Pos} {e : Expr} (h : Ev sc d u w m n e (KAsg S m x)) (hx : autoParam (∀ c : Fc w, (c.env sc).kindOf x = some .local) aY) (hs : autoParam (∀ env, swapsWith e (some (Expr.Name x p')) p.line env = pure false) aY) : Ex1 sc d u w m n (.Assign [.Name x p'] e p) S := by
  intro c hc s Q E A q
  refine wpAny_Assign_Name (h c hc s _ E A fun v pv n1 h1 t1 i1 r1 A1 => ?_) (hs _)
  exact store_rule (s := { s with heap := h1, toks := t1 }) hc (hx c) A1 i1 fun h' tk' A' => q .next .next _ n1 h' tk' trivial r1 A'
theorem Ex1.ret {e : Expr} {p : Pos} (h : Ev sc d u w m n e (KRet S m)) : Ex1 sc d u w m n (.Return (some e) p) S := by
  intro c hc s Q E A q
  exact wpAny_Return_some (h c hc s _ E A fun v pv n1 h1 t1 i1 r1 A1 => q (.ret v) (.ret pv) m n1 h1 t1 i1 r1 A1)
abbrev KIf (sc : Sc) (d u : Nat) (w : World) (m : Nms) (a b : List Stmt) (S : PF → Nms → Led → Prop) (c : Bool) (n : Led) : Prop := Two c (Ex sc d u w m n a S) (Ex sc d u w m n b S)
theorem Ex1.ite {t : Expr} {a b : List Stmt} {p : Pos} (h : Tst sc d u w m n t (KIf sc d u w m a b S)) : Ex1 sc d u w m n (.If t a b p) S := by
  intro c hc s Q E A q
  refine wpAny_If (h c hc s _ E A fun v pv n1 h1 t1 i1 r1 A1 => ?_)
  obtain rfl := i1
  cases v
  · exact r1.2 rfl c hc _ Q E A1 q
  · exact r1.1 rfl c hc _ Q E A1 q
noncomputable def addN : List Str → List PV → Nms → Nms
  | x :: xs, p :: ps, m => addN xs ps ((x, p) :: m)
  | _, _, m => m
def StT (env : Env) (t : Value → Sem Unit) (x : Str) : Prop := ∀ (M : Model) (A : Around) (v : Value) (Q : Unit → Shared → Prop) (E : Value → Shared → Prop) (s : Shared), wpAny M A (storeName env x v) Q E s → wpAny M A (t v) Q E s
theorem stores {c : Fc w} (hc : c.Ok sc d u) {M : Model} {E : Value → Shared → Prop} : ∀ (ts : List (Value → Sem Unit)) (xs : List Str) (vs : List Value) (pvs : List PV) (m : Nms) (s : Shared) (Q : Unit → Shared → Prop), All2 (StT (c.env sc)) ts xs → All2 PvIs vs pvs → ts.length = vs.length → (∀ x ∈ xs, (c.env sc).kindOf x = some .local) → At c m n s.heap →
    (∀ h' tk', At c (addN xs pvs m) n h' → Q () { s with heap := h', toks := tk' }) → wpAny M (c.A sc) (assignInOrder ts vs) Q E s := by
  intro ts
  induction ts with
  | nil =>
    intro xs vs pvs m s Q h1 h2 h3 h4 A k
    cases xs with
    | cons => exact h1.elim
    | nil => cases vs with
      | cons => cases h3
      | nil => cases pvs with
        | cons => exact h2.elim
        | nil => exact assignInOrder_nil (k s.heap s.toks A)
  | cons t ts ih =>
    intro xs vs pvs m s Q h1 h2 h3 h4 A k
    cases xs with
    | nil => exact h1.elim
    | cons x xs => cases vs with
      | nil => cases h3
      | cons v vs => cases pvs with
        | nil => exact h2.elim
        | cons p ps => exact assignInOrder_cons (h1.1 M _ v _ E s (store_rule hc (h4 x (.head _)) A h2.1 fun h' tk' A' => ih xs vs ps _ _ Q h1.2 h2.2 (Nat.succ.inj h3) (fun y hy => h4 y (.tail _ hy)) A' k))
theorem All2.rev {α β : Type} {R : α → β → Prop} : ∀ {l : List α} {r : List β}, All2 R l r → All2 R l.reverse r.reverse
  | [], [], _ => trivial
  | a :: l, b :: r, h => by
    rw [List.reverse_cons, List.reverse_cons]
    exact All2.append (All2.rev h.2) ⟨h.1, trivial⟩
  | [], _ :: _, h => h.elim
  | _ :: _, [], h => h.elim
theorem stT_bind {env : Env} : ∀ (xs : List Str), All2 (StT env) (xs.map fun x => bindName env x) xs
  | [] => trivial
  | _ :: xs => ⟨fun _ _ _ _ _ _ h => bindName_ h, stT_bind xs⟩
theorem Ex1.unpack {elts : List Expr} {k : Nat} {tp p : Pos} {e : Expr} {xs : List Str} (h : Ev sc d u w m n e fun pv n1 => ∃ D pvs, pv = .ref D ∧ TupAt n1 D pvs ∧ pvs.length = xs.length ∧ S .next (addN xs pvs m) n1)
    (hx : ∀ c : Fc w, ∀ x ∈ xs, (c.env sc).kindOf x = some .local) (ht : ∀ c : Fc w, All2 (StT (c.env sc)) ((assignEach elts (c.env sc)).map (·.2)) xs) (hst : autoParam (∀ c : Fc w, (assignEach elts (c.env sc)).findIdx? (·.1) = none) aY)
    (h1 : autoParam (∀ c : Fc w, swapsWithSole [Expr.Tuple elts k tp] e p.line (c.env sc) = pure false) aY) (h2 : autoParam (∀ c : Fc w, swappedStores [Expr.Tuple elts k tp] e (c.env sc) = pure none) aY) : Ex1 sc d u w m n (.Assign [.Tuple elts k tp] e p) S := by
  intro c hc s Q E A q
  refine Assign_Tuple (h c hc s _ E A fun v pv n1 h1' t1 i1 r1 A1 => ?_) (h1 c) (h2 c)
  obtain ⟨D, pvs, rfl, ⟨vs, cc, hm, hv⟩, hlen, r2⟩ := r1
  obtain rfl := i1.ref
  obtain ⟨m', hm', F, N⟩ := A1
  have hl := (ht c).len
  rw [List.length_map] at hl
  refine unpackN_ (s := { s with heap := h1', toks := t1 }) (items := vs.toArray) F N (N.isTup hm) rfl (by rw [List.size_toArray, hv.len, hlen, hl]) (hst c) fun h' F' N' => ?_
  exact stores hc _ xs vs pvs m _ _ (ht c) hv (by rw [List.length_map, hl, ← hlen, hv.len]) (hx c) ⟨m', hm', F', N'⟩ fun h2 tk2 A2 => q .next .next _ n1 h2 tk2 trivial r2 A2
theorem Ex1.swap {elts : List Expr} {k : Nat} {tp p : Pos} {e : Expr} {xs : List Str} (h : Ev sc d u w m n e fun pv n1 => ∃ D pvs, pv = .ref D ∧ TupAt n1 D pvs ∧ pvs.length = xs.length ∧ S .next (addN xs.reverse pvs.reverse m) n1)
    (hx : ∀ c : Fc w, ∀ x ∈ xs.reverse, (c.env sc).kindOf x = some .local)
    (h1 : autoParam (∀ c : Fc w, swapsWithSole [Expr.Tuple elts k tp] e p.line (c.env sc) = pure false) aY) (h2 : autoParam (∀ c : Fc w, swappedStores [Expr.Tuple elts k tp] e (c.env sc) = pure (some xs)) aY) : Ex1 sc d u w m n (.Assign [.Tuple elts k tp] e p) S := by
  intro c hc s Q E A q
  refine Assign_Tuple_swapped (h c hc s _ E A fun v pv n1 h1' t1 i1 r1 A1 => ?_) (h1 c) (h2 c)
  obtain ⟨D, pvs, rfl, ⟨vs, cc, hm, hv⟩, hlen, r2⟩ := r1
  obtain rfl := i1.ref
  obtain ⟨m', hm', F, N⟩ := A1
  refine unpackItemsN_ (s := { s with heap := h1', toks := t1 }) (items := vs.toArray) F N (N.isTup hm) rfl (by rw [List.size_toArray, hv.len, hlen]) fun h' F' N' => ?_
  exact stores hc _ xs.reverse vs.reverse pvs.reverse m _ _ (stT_bind _) hv.rev (by rw [List.length_map, List.length_reverse, List.length_reverse, ← hlen, hv.len]) (hx c) ⟨m', hm', F', N'⟩ fun h2 tk2 A2 => q .next .next _ n1 h2 tk2 trivial r2 A2
noncomputable def retOf : PF → PV
  | .ret v => v
  | _ => .none
theorem PCl.enter {name qual : Str} {params : Arguments} {body : List Stmt} {scope : Scope} {dV kV doc pm cdv ct oc : Value} {an od : Option Addr} {osl : Array (Option Value)} {f : Addr} {pvs : List PV} {m0 : Nms} {d' u' : Nat}
    (ho : (Mine.hd.heap_1 w.params).lookup f = some ⟨oc, od, .func (fnOf name qual params body scope dV kV doc pm an cdv ct), osl⟩) (hcd : codeIn (Mine.hd.heap_1 w.params) cdv qual = true)
    (hb : ∀ s vs, All2 PvIs vs pvs → ∃ binds, BindsTo s (fnOf name qual params body scope dV kV doc pm an cdv ct) ⟨vs, []⟩ binds ∧ NmsIs (fun y => binds.reverse.lookup y) m0 ∧ (∀ y ∈ binds, scope.names.lookup y.1 = some .local))
    (h : Ex ⟨scope, []⟩ d' u' w m0 n body fun pf _ n' => R (retOf pf) n') (hd : d' + 1 ≤ d) (hu : u' + 3 ≤ u)
    (hco : autoParam (scope.isCoroutine = false) aW) (hgen : autoParam (scope.isGenerator = false) aW) (hk : autoParam (scope.kind = .function) aW) (hcell : autoParam (∀ x ∈ scope.names, x.2 ≠ .cell) aD) : PCl d u f w pvs n R := by
  intro vs hv
  unfold Cl
  intro loose mean mg mb dp un gd cn cs a ccd cl outer A₀ base h₀ L m' s Q E B F X N T hkc hdp hun hret
  refine wpAny_call ?_
  obtain ⟨binds, hb1, hb2, hb3⟩ := hb s vs hv
  have hroom : dp < recursionLimit := Nat.lt_of_le_of_lt (Nat.le_add_right _ _) hdp
  refine code_def B F X N T rfl rfl hkc ho hcd hroom hb1 hb3 (fun g L' h1 FG F' N' B' X' T' => ?_) hco hgen hk hcell
  let c : Fc w := { dp := dp + 1, un := un + 3, gd := gd, cn := qual, L := L', a := f, ccd := cdv, outer := envX cn cs L a ccd cl :: outer, A₀ := ktrTop dp un gd cn cs L a ccd cl outer, base := base, g := g, loose := loose, mean := mean, mg := mg, mb := mb }
  have hc : c.Ok ⟨scope, []⟩ d' u' := ⟨B', X', T', hk, Nat.lt_of_le_of_lt (by show dp + 1 + d' ≤ dp + d; omega) hdp, Nat.lt_of_le_of_lt (by show un + 3 + u' ≤ un + u; omega) hun⟩
  refine h c hc { s with heap := h1, toks := s.toks + binds.length } _ _ ⟨_, hb2, F', N'⟩ fun fl pf m1 n1 h2 t2 i r A => ?_
  obtain ⟨m2, _, F2, N2⟩ := A
  refine leaveK_ F2 N2 fun F3 N3 => ?_
  refine hret _ n1 h2 t2 ⟨retOf pf, ?_, r⟩ F3 N3
  cases fl <;> cases pf <;> first | exact i.elim | exact trivial | exact i
inductive KUn4 (S : PF → Nms → Led → Prop) (m : Nms) (x1 x2 x3 x4 : Str) (pv : PV) (n1 : Led) : Prop
  | mk (D : _) (q1 : _) (q2 : _) (q3 : _) (q4 : _) (f0 : pv = .ref D) (f1 : TupAt n1 D [q1, q2, q3, q4]) (f2 : S .next ((x4, q4) :: (x3, q3) :: (x2, q2) :: (x1, q1) :: m) n1) : KUn4 S m x1 x2 x3 x4 pv n1
inductive KUn2 (S : PF → Nms → Led → Prop) (m : Nms) (x1 x2 : Str) (pv : PV) (n1 : Led) : Prop
  | mk (D : _) (q1 : _) (q2 : _) (f0 : pv = .ref D) (f1 : TupAt n1 D [q1, q2]) (f2 : S .next ((x2, q2) :: (x1, q1) :: m) n1) : KUn2 S m x1 x2 pv n1
inductive KSw2 (S : PF → Nms → Led → Prop) (m : Nms) (x1 x2 : Str) (pv : PV) (n1 : Led) : Prop
  | mk (D : _) (q1 : _) (q2 : _) (f0 : pv = .ref D) (f1 : TupAt n1 D [q1, q2]) (f2 : S .next ((x1, q1) :: (x2, q2) :: m) n1) : KSw2 S m x1 x2 pv n1
theorem Ex1.unpack4 {x1 x2 x3 x4 : Str} {p1 p2 p3 p4 : Pos} {k : Nat} {tp p : Pos} {e : Expr} (h : Ev sc d u w m n e (KUn4 S m x1 x2 x3 x4))
    (hx : autoParam (∀ c : Fc w, ∀ x ∈ [x1, x2, x3, x4], (c.env sc).kindOf x = some .local) aX)
    (h1 : autoParam (∀ c : Fc w, swapsWithSole [Expr.Tuple [.Name x1 p1, .Name x2 p2, .Name x3 p3, .Name x4 p4] k tp] e p.line (c.env sc) = pure false) aY) (h2 : autoParam (∀ c : Fc w, swappedStores [Expr.Tuple [.Name x1 p1, .Name x2 p2, .Name x3 p3, .Name x4 p4] k tp] e (c.env sc) = pure none) aY) :
    Ex1 sc d u w m n (.Assign [.Tuple [.Name x1 p1, .Name x2 p2, .Name x3 p3, .Name x4 p4] k tp] e p) S := by
  have nm : ∀ (c : Fc w) (x : Str) (q : Pos), StT (c.env sc) (fun v => PySem.assign (.Name x q) (c.env sc) v) x := fun _ _ _ _ _ _ _ _ _ h => PyProof.Rows.assign_Name h
  refine Ex1.unpack (xs := [x1, x2, x3, x4]) ?_ hx (fun c => ⟨nm c _ _, nm c _ _, nm c _ _, nm c _ _, trivial⟩) (fun _ => rfl) h1 h2
  exact fun c hc s Q E A q => h c hc s Q E A fun v pv n1 h' t' i r A' => q v pv n1 h' t' i (by obtain ⟨D, q1, q2, q3, q4, e1, e2, e3⟩ := r; exact ⟨D, _, e1, e2, rfl, e3⟩) A'
theorem Ex1.unpack2 {x1 x2 : Str} {p1 p2 : Pos} {k : Nat} {tp p : Pos} {e : Expr} (h : Ev sc d u w m n e (KUn2 S m x1 x2))
    (hx : autoParam (∀ c : Fc w, ∀ x ∈ [x1, x2], (c.env sc).kindOf x = some .local) aX)
    (h1 : autoParam (∀ c : Fc w, swapsWithSole [Expr.Tuple [.Name x1 p1, .Name x2 p2] k tp] e p.line (c.env sc) = pure false) aY) (h2 : autoParam (∀ c : Fc w, swappedStores [Expr.Tuple [.Name x1 p1, .Name x2 p2] k tp] e (c.env sc) = pure none) aY) :
    Ex1 sc d u w m n (.Assign [.Tuple [.Name x1 p1, .Name x2 p2] k tp] e p) S := by
  have nm : ∀ (c : Fc w) (x : Str) (q : Pos), StT (c.env sc) (fun v => PySem.assign (.Name x q) (c.env sc) v) x := fun _ _ _ _ _ _ _ _ _ h => PyProof.Rows.assign_Name h
  refine Ex1.unpack (xs := [x1, x2]) ?_ hx (fun c => ⟨nm c _ _, nm c _ _, trivial⟩) (fun _ => rfl) h1 h2
  exact fun c hc s Q E A q => h c hc s Q E A fun v pv n1 h' t' i r A' => q v pv n1 h' t' i (by obtain ⟨D, q1, q2, e1, e2, e3⟩ := r; exact ⟨D, _, e1, e2, rfl, e3⟩) A'
theorem Ex1.swap2 {x1 x2 : Str} {p1 p2 : Pos} {k : Nat} {tp p : Pos} {e : Expr} (h : Ev sc d u w m n e (KSw2 S m x1 x2))
    (hx : autoParam (∀ c : Fc w, ∀ x ∈ [x2, x1], (c.env sc).kindOf x = some .local) aX)
    (h1 : autoParam (∀ c : Fc w, swapsWithSole [Expr.Tuple [.Name x1 p1, .Name x2 p2] k tp] e p.line (c.env sc) = pure false) aY) (h2 : autoParam (∀ c : Fc w, swappedStores [Expr.Tuple [.Name x1 p1, .Name x2 p2] k tp] e (c.env sc) = pure (some [x1, x2])) aY) :
    Ex1 sc d u w m n (.Assign [.Tuple [.Name x1 p1, .Name x2 p2] k tp] e p) S := by
  refine Ex1.swap (xs := [x1, x2]) ?_ hx h1 h2
  exact fun c hc s Q E A q => h c hc s Q E A fun v pv n1 h' t' i r A' => q v pv n1 h' t' i (by obtain ⟨D, q1, q2, e1, e2, e3⟩ := r; exact ⟨D, _, e1, e2, rfl, e3⟩) A'
theorem Op.lst0 {a b : Expr} {D : Addr} {q0 : PV} {qs : List PV} (hT : LstAt n D (q0 :: qs)) (h : R q0 n) (hb : autoParam ((q0 :: qs).length < 1000) aN) (hs : autoParam (SbOk b) aI) : Op sc d u w m n [.ref D, .int 0] (sbT a b) R := Op.lstItem (k := 0) hT rfl hb h hs
theorem Op.lst1 {a b : Expr} {D : Addr} {q0 q1 : PV} {qs : List PV} (hT : LstAt n D (q0 :: q1 :: qs)) (h : R q1 n) (hb : autoParam ((q0 :: q1 :: qs).length < 1000) aN) (hs : autoParam (SbOk b) aI) : Op sc d u w m n [.ref D, .int 1] (sbT a b) R := Op.lstItem (k := 1) hT rfl hb h hs
theorem Op.lst2 {a b : Expr} {D : Addr} {q0 q1 q2 : PV} {qs : List PV} (hT : LstAt n D (q0 :: q1 :: q2 :: qs)) (h : R q2 n) (hb : autoParam ((q0 :: q1 :: q2 :: qs).length < 1000) aN) (hs : autoParam (SbOk b) aI) : Op sc d u w m n [.ref D, .int 2] (sbT a b) R := Op.lstItem (k := 2) hT rfl hb h hs
theorem Op.tup0 {a b : Expr} {D : Addr} {q0 : PV} {qs : List PV} (hT : TupAt n D (q0 :: qs)) (h : R q0 n) (hb : autoParam (0 < 1000) aN) (hs : autoParam (SbOk b) aI) : Op sc d u w m n [.ref D, .int 0] (sbT a b) R := Op.tupItem (k := 0) hT rfl hb h hs
theorem Op.tup1 {a b : Expr} {D : Addr} {q0 q1 : PV} {qs : List PV} (hT : TupAt n D (q0 :: q1 :: qs)) (h : R q1 n) (hb : autoParam (1 < 1000) aN) (hs : autoParam (SbOk b) aI) : Op sc d u w m n [.ref D, .int 1] (sbT a b) R := Op.tupItem (k := 1) hT rfl hb h hs
theorem Op.tup2 {a b : Expr} {D : Addr} {q0 q1 q2 : PV} {qs : List PV} (hT : TupAt n D (q0 :: q1 :: q2 :: qs)) (h : R q2 n) (hb : autoParam (2 < 1000) aN) (hs : autoParam (SbOk b) aI) : Op sc d u w m n [.ref D, .int 2] (sbT a b) R := Op.tupItem (k := 2) hT rfl hb h hs
theorem nmsIs_all : ∀ {l : List (Str × Value)} {l' : Nms}, All2 (fun (a : Str × Value) (b : Str × PV) => a.1 = b.1 ∧ PvIs a.2 b.2) l l' → NmsIs (fun y => l.lookup y) l'
  | [], [], _ => fun y p h => by cases h
  | (a, v) :: l, (b, q) :: l', ⟨⟨e, hp⟩, h⟩ => fun y p hy => by
    have e' : a = b := e
    subst e'
    rw [List.lookup_cons] at hy
    show ∃ v', List.lookup y ((a, v) :: l) = some v' ∧ PvIs v' p
    rw [List.lookup_cons]
    cases hya : y == a with
    | true => rw [hya] at hy; exact ⟨v, rfl, (Option.some.inj hy) ▸ hp⟩
    | false => rw [hya] at hy; exact nmsIs_all h y p hy
  | [], _ :: _, h => h.elim
  | _ :: _, [], h => h.elim
theorem hb1 {fd : FuncData} {scope : Scope} {x1 : Str} {p1 : PV} (hB : ∀ s v1, BindsTo s fd ⟨[v1], []⟩ [(x1, v1)]) (hx : ∀ y ∈ [x1], scope.names.lookup y = some .local) :
    ∀ s vs, All2 PvIs vs [p1] → ∃ binds, BindsTo s fd ⟨vs, []⟩ binds ∧ NmsIs (fun y => binds.reverse.lookup y) [(x1, p1)] ∧ ∀ y ∈ binds, scope.names.lookup y.1 = some .local := by
  intro s vs hv
  obtain ⟨v1, rfl, i1⟩ := all2_1 hv
  refine ⟨_, hB s v1, nmsIs_all ⟨⟨rfl, i1⟩, trivial⟩, fun y hy => hx y.1 ?_⟩
  have := List.mem_map_of_mem (f := Prod.fst) hy
  exact this
theorem hb2 {fd : FuncData} {scope : Scope} {x1 x2 : Str} {p1 p2 : PV} (hB : ∀ s v1 v2, BindsTo s fd ⟨[v1, v2], []⟩ [(x1, v1), (x2, v2)]) (hx : ∀ y ∈ [x1, x2], scope.names.lookup y = some .local) :
    ∀ s vs, All2 PvIs vs [p1, p2] → ∃ binds, BindsTo s fd ⟨vs, []⟩ binds ∧ NmsIs (fun y => binds.reverse.lookup y) [(x2, p2), (x1, p1)] ∧ ∀ y ∈ binds, scope.names.lookup y.1 = some .local := by
  intro s vs hv
  obtain ⟨v1, v2, rfl, i1, i2⟩ := all2_2 hv
  refine ⟨_, hB s v1 v2, nmsIs_all ⟨⟨rfl, i2⟩, ⟨rfl, i1⟩, trivial⟩, fun y hy => hx y.1 ?_⟩
  have := List.mem_map_of_mem (f := Prod.fst) hy
  exact this
theorem hb3 {fd : FuncData} {scope : Scope} {x1 x2 x3 : Str} {p1 p2 p3 : PV} (hB : ∀ s v1 v2 v3, BindsTo s fd ⟨[v1, v2, v3], []⟩ [(x1, v1), (x2, v2), (x3, v3)]) (hx : ∀ y ∈ [x1, x2, x3], scope.names.lookup y = some .local) :
    ∀ s vs, All2 PvIs vs [p1, p2, p3] → ∃ binds, BindsTo s fd ⟨vs, []⟩ binds ∧ NmsIs (fun y => binds.reverse.lookup y) [(x3, p3), (x2, p2), (x1, p1)] ∧ ∀ y ∈ binds, scope.names.lookup y.1 = some .local := by
  intro s vs hv
  obtain ⟨v1, v2, v3, rfl, i1, i2, i3⟩ := all2_3 hv
  refine ⟨_, hB s v1 v2 v3, nmsIs_all ⟨⟨rfl, i3⟩, ⟨rfl, i2⟩, ⟨rfl, i1⟩, trivial⟩, fun y hy => hx y.1 ?_⟩
  have := List.mem_map_of_mem (f := Prod.fst) hy
  exact this
end
end
section
open PySem PySem.W PyProof.Rows PySem.Spec PySem.Calls
noncomputable abbrev refsOf (es : List (Addr × Addr × Addr)) : List Value := es.map fun e => .ref e.1
noncomputable abbrev intsOf (zs : List (Nat × Tok)) : List Value := zs.map fun z => .int (z.1 : Int) z.2
def Bare (w : World) (n : List (Addr × Obj)) (es : List (Addr × Addr × Addr)) : Prop := ∀ e ∈ es, ElAt w n e ∧ (e.2.2, LCg.lst []) ∈ n
inductive SomeP (w : World) (L₀ : List (Addr × Obj)) (i : Nat) (ys : List Value) (n : List (Addr × Obj)) : Prop
  | mk (es : _) (f0 : ys = refsOf es) (f1 : es.length = i) (f2 : (∀ p ∈ L₀, p ∈ n)) (f3 : Bare w n es) (f4 : Chs es) : SomeP w L₀ i ys n
theorem some_step {w : World} {L₀ n : List (Addr × Obj)} {i : Nat} {es : List (Addr × Addr × Addr)} {E dE ch at_ : Addr} {nm : Str} {tn t1 t2 t3 t4 te : Tok} {oa : Obj} (hlen : es.length = i) (hL : ∀ p ∈ L₀, p ∈ n) (hB : Bare w n es) (hd : Chs es) (hch : ∀ p ∈ n, p.1 ≠ ch) :
    SomeP w L₀ (i + 1) (refsOf es ++ [.ref E]) ([(E, instObj 444 dE), (dE, elD w nm at_ ch tn t1 t2 t3 t4 te), (ch, LCg.lst []), (at_, oa)] ++ n) := by
  refine ⟨es ++ [(E, at_, ch)], by simp [refsOf], by simp [hlen], fun p hp => ?_, fun e he => ?_, ?_⟩
  · exact List.mem_append_right _ (hL p hp)
  · rcases List.mem_append.mp he with he | he
    · obtain ⟨h1, h2⟩ := hB e he
      exact ⟨h1.mono fun p hp _ => List.mem_append_right _ hp, List.mem_append_right _ h2⟩
    · rw [List.mem_singleton.mp he]
      exact ⟨⟨dE, nm, tn, t1, t2, t3, t4, te, .head _, .tail _ (.head _)⟩, .tail _ (.tail _ (.head _))⟩
  · have key : ∀ (a : Nat) (e : Addr × Addr × Addr), (es ++ [(E, at_, ch)])[a]? = some e → (es[a]? = some e ∧ e.2.2 ≠ ch) ∨ (a = es.length ∧ e.2.2 = ch) := by
      intro a e h
      by_cases ha : a < es.length
      · rw [List.getElem?_append_left ha] at h
        exact .inl ⟨h, hch _ (hB e (List.mem_of_getElem? h)).2⟩
      · have hb := (List.getElem?_eq_some_iff.mp h).1
        simp only [List.length_append, List.length_cons, List.length_nil] at hb
        obtain rfl : a = es.length := by omega
        rw [List.getElem?_append_right (Nat.le_refl _), Nat.sub_self] at h
        obtain rfl := Option.some.inj h
        exact .inr ⟨rfl, rfl⟩
    intro a b e e' ha hb hab
    rcases key a e ha with ⟨h1, h2⟩ | ⟨h1, h2⟩ <;> rcases key b e' hb with ⟨h3, h4⟩ | ⟨h3, h4⟩
    · exact hd a b e e' h1 h3 hab
    · exact absurd (hab.trans h4) h2
    · exact absurd (hab.symm.trans h2) h4
    · omega
theorem some_comp {prog : Program} {w : World} {A : Around} {h₀ : Heap} {L : Addr} {m : Str → Option Value} {env : Env} {elt : Expr} {x : Str} {scope : Scope} {cl : List (Str × Addr)} {s : Shared} {S : List (Addr × Obj) → Prop} {P : Nat → Value → Prop} {Fin : List Value → List (Addr × Obj) → Prop} {L₀ : List (Addr × Obj)} {k : Nat}
    (turn : ∀ i (es : List (Addr × Addr × Addr)) n, es.length = i → (∀ p ∈ L₀, p ∈ n) → Bare w n es → Chs es → ∀ v I oI C oC D m₂ h tk (E' : Value → Shared → Prop), P i v → LCg.NsObj oC m₂ → m₂ x = some v → Fr h₀ L h m → News h₀ L h ((I, oI) :: (C, oC) :: (D, LCg.lst (refsOf es)) :: n) → LCg.Off3 I C D n → ((@Ne Nat I C) ∧ (@Ne Nat I D) ∧ (@Ne Nat C D)) →
      wpAny (model prog w) A (eval elt (compEnvC scope cl C env)) (LCg.CompEnd h₀ L m { s with heap := h, toks := tk } I oI C oC D (LCg.lst (refsOf es)) S (fun y news' => SomeP w L₀ (i + 1) (refsOf es ++ [y]) news')) E' { s with heap := h, toks := tk })
    (fin : ∀ (es : List (Addr × Addr × Addr)) n, es.length = k → (∀ p ∈ L₀, p ∈ n) → Bare w n es → Chs es → Fin (refsOf es) n) :
    LCg.CompRest prog w A h₀ L m env elt x scope cl s S P Fin k 0 [] L₀ := by
  refine comp_inv (SomeP w L₀) k _ ⟨[], rfl, rfl, fun p hp => hp, fun e he => (nomatch he), fun a b e e' h => (by simp at h)⟩ ?_ ?_
  · rintro i ys n hi ⟨es, rfl, h1, h2, h3, h4⟩ v I oI C oC D m₂ h5 tk5 E' hv hC hx F5 N5 off ne
    exact turn i es n h1 h2 h3 h4 v I oI C oC D m₂ h5 tk5 E' hv hC hx F5 N5 off ne
  · rintro ys n ⟨es, rfl, h1, h2, h3, h4⟩
    exact fin es n h1 h2 h3 h4
def NumsOk (i : Nat) (zs : List (Nat × Tok)) : Prop := (∀ z ∈ zs, z.1 < i) ∧ zs.Pairwise fun a b => a.1 < b.1
inductive NumsP (src : Addr) (r : List (Addr × Obj)) (i : Nat) (ys : List Value) (n : List (Addr × Obj)) : Prop
  | mk (zs : _) (o' : _) (f0 : ys = intsOf zs) (f1 : NumsOk i zs) (f2 : SrcOk o') (f3 : n = (src, o') :: r) : NumsP src r i ys n
theorem nums_step {src : Addr} {r : List (Addr × Obj)} {i : Nat} {zs : List (Nat × Tok)} {o' : Obj} {t : Tok} (hz : NumsOk i zs) (hs : SrcOk o') :
    NumsP src r (i + 1) (intsOf zs ++ [.int (0 + (i : Int)) t]) ((src, o') :: r) ∧ NumsP src r (i + 1) (intsOf zs) ((src, o') :: r) := by
  refine ⟨⟨zs ++ [(i, t)], o', by simp [intsOf], ⟨fun z hz' => ?_, ?_⟩, hs, rfl⟩, ⟨zs, o', rfl, ⟨fun z hz' => Nat.lt_succ_of_lt (hz.1 z hz'), hz.2⟩, hs, rfl⟩⟩
  · rcases List.mem_append.mp hz' with h | h
    · exact Nat.lt_succ_of_lt (hz.1 z h)
    · rw [List.mem_singleton.mp h]; exact Nat.lt_succ_self _
  · exact List.pairwise_append.mpr ⟨hz.2, List.pairwise_singleton _ _, fun a ha b hb => by rw [List.mem_singleton.mp hb]; exact hz.1 a ha⟩
theorem num_comp {prog : Program} {w : World} {A : Around} {h₀ : Heap} {L : Addr} {m : Str → Option Value} {env : Env} {ct elt : Expr} {x : Str} {scope : Scope} {cl : List (Str × Addr)} {s : Shared} {S : List (Addr × Obj) → Prop} {P : Nat → Value → Prop} {Fin : List Value → List (Addr × Obj) → Prop} {src : Addr} {o : Obj} {r : List (Addr × Obj)} {k : Nat} (hs : SrcOk o)
    (turn : ∀ i (zs : List (Nat × Tok)) o', NumsOk i zs → SrcOk o' → ∀ v I oI C oC D m₂ h tk (E' : Value → Shared → Prop), P i v → LCg.NsObj oC m₂ → m₂ x = some v → Fr h₀ L h m → News h₀ L h ((I, oI) :: (C, oC) :: (D, LCg.lst (intsOf zs)) :: (src, o') :: r) → LCg.Off3 I C D ((src, o') :: r) → ((@Ne Nat I C) ∧ (@Ne Nat I D) ∧ (@Ne Nat C D)) →
      wpAny (model prog w) A (isTrue ct (compEnvC scope cl C env) (eval ct (compEnvC scope cl C env))) (fun b s' => if b = true then wpAny (model prog w) A (eval elt (compEnvC scope cl C env)) (LCg.CompEnd h₀ L m { s with heap := h, toks := tk } I oI C oC D (LCg.lst (intsOf zs)) S (fun y news' => NumsP src r (i + 1) (intsOf zs ++ [y]) news')) E' s'
        else LCg.CompEnd h₀ L m { s with heap := h, toks := tk } I oI C oC D (LCg.lst (intsOf zs)) S (fun _ news' => NumsP src r (i + 1) (intsOf zs) news') Value.none s') E' { s with heap := h, toks := tk })
    (fin : ∀ (zs : List (Nat × Tok)) o', NumsOk k zs → SrcOk o' → Fin (intsOf zs) ((src, o') :: r)) : LCt.CompRestT prog w A h₀ L m env ct elt x scope cl s S P Fin k 0 [] ((src, o) :: r) := by
  refine comp_invT (NumsP src r) k _ ⟨[], o, rfl, ⟨fun z hz => (nomatch hz), List.Pairwise.nil⟩, hs, rfl⟩ ?_ ?_
  · rintro i ys n hi ⟨zs, o', rfl, h1, h2, rfl⟩ v I oI C oC D m₂ h5 tk5 E' hv hC hx F5 N5 off ne
    exact turn i zs o' h1 h2 v I oI C oC D m₂ h5 tk5 E' hv hC hx F5 N5 off ne
  · rintro ys n ⟨zs, o', rfl, h1, h2, rfl⟩
    exact fin zs o' h1 h2
noncomputable def marksOf (pre : List (Nat × Tok)) : Nat → Bool := fun j => (pre.map (·.1)).contains j
def FP (w : World) (es : List (Addr × Addr × Addr)) (KEEP : List (Addr × Obj)) (I : Addr) (m₀ : Str → Option Value) (_ : List (Addr × Obj)) (pre : List (Nat × Tok)) (m : Str → Option Value) (n : List (Addr × Obj)) : Prop :=
  (∃ pv, m = fun z => if z = Str.ofString "number" then pv else m₀ z) ∧ (∀ p ∈ n, p.1 ≠ I) ∧ (∀ p ∈ KEEP, p ∈ n) ∧ MarkAt w n es (marksOf pre)
theorem set1_start {m₀ : Str → Option Value} {a : Str} : m₀ = fun z => if z = a then m₀ a else m₀ z := by
  funext z
  by_cases h1 : z = a
  · rw [if_pos h1, h1]
  · rw [if_neg h1]
theorem set1_step {m₀ : Str → Option Value} {a : Str} {v : Value} {pv : Option Value} : (fun z => if z = a then some v else if z = a then pv else m₀ z) = fun z => if z = a then some v else m₀ z := by
  funext z
  by_cases h1 : z = a
  · rw [if_pos h1, if_pos h1]
  · rw [if_neg h1, if_neg h1, if_neg h1]
theorem fp_loop {prog : Program} {w : World} {A : Around} {E : Value → Shared → Prop} {h₀ : Heap} {env : Env} {target : Expr} {body : List Stmt} {Q : Flow → Shared → Prop} {s : Shared} {I : Addr} {cls : String} {keep : List (Addr × Obj)} {m₀ : Str → Option Value} {L₀ KEEP : List (Addr × Obj)} {es : List (Addr × Addr × Addr)} {zs : List (Nat × Tok)}
    (hz : NumsOk es.length zs) (hI : ∀ p ∈ L₀, p.1 ≠ I) (hK : ∀ p ∈ KEEP, p ∈ L₀) (hB : Bare w L₀ es)
    (turn : ∀ pre k t e n pv h tk o dE nm tn t1 t2 t3 t4 te, zs ≠ [] → es[k]? = some e → marksOf pre k = false → (∀ p ∈ n, p.1 ≠ I) → (∀ p ∈ KEEP, p ∈ n) → MarkAt w n es (marksOf pre) → (e.1, instObj 444 dE) ∈ n → (dE, elD w nm e.2.1 e.2.2 tn t1 t2 t3 t4 te) ∈ n → (e.2.2, LCg.lst []) ∈ n →
      Fr h₀ env.locals h (fun z => if z = Str.ofString "number" then pv else m₀ z) → News h₀ env.locals h ((I, o) :: n) →
      wpAny (model prog w) A (assign target env (.int (k : Int) t)) (fun _ s₂ => wpAny (model prog w) A (execs body env) (UnrPostW h₀ env.locals { s with heap := h, toks := tk } [(I, o)] (fun m' n' => SubL keep n' ∧ FP w es KEEP I m₀ L₀ (pre ++ [(k, t)]) m' n') Q) E s₂) E { s with heap := h, toks := tk })
    (done : ∀ n pv h tk, (∀ p ∈ KEEP, p ∈ n) → MarkAt w n es (marksOf zs) → Fr h₀ env.locals h (fun z => if z = Str.ofString "number" then pv else m₀ z) → News h₀ env.locals h n → Q .next { s with heap := h, toks := tk }) :
    ItemsRest prog w A E h₀ env target body Q s [(I, cls)] keep ((intsOf zs).map Itm.val) m₀ L₀ := by
  rw [intsOf, List.map_map]
  refine items_inv2 (Itm.val ∘ fun z : Nat × Tok => Value.int (z.1 : Int) z.2) (FP w es KEEP) zs m₀ L₀ ⟨⟨_, set1_start⟩, hI, hK, fun j e he => ?_⟩ ?_ ?_
  · obtain ⟨h1, h2⟩ := hB e (List.mem_of_getElem? he)
    exact ⟨h1, [], h2, by simp [marksOf], by simp⟩
  · rintro pre ⟨k, t⟩ post hx m5 n5 ⟨⟨pv, hm⟩, hI5, hK5, hM5⟩ v5 h5 tk5 o5 hv5 F5 ho5 N5
    subst hm
    obtain rfl : v5 = .int (k : Int) t := hv5
    have hkl : k < es.length := hz.1 (k, t) (by rw [hx]; simp)
    have he := List.getElem?_eq_getElem hkl
    have hmk : marksOf pre k = false := by
      have hp := hz.2
      rw [hx] at hp
      have h2 := (List.pairwise_append.mp hp).2.2
      unfold marksOf
      rw [Bool.eq_false_iff]
      intro hc
      rw [List.contains_iff_mem] at hc
      obtain ⟨z, hz1, hz2⟩ := List.mem_map.mp hc
      have := h2 z hz1 (k, t) (.head _)
      simp only at this
      omega
    obtain ⟨⟨dE, nm, tn, t1, t2, t3, t4, te, k1, k2⟩, zs', z1, z2, z3⟩ := hM5 k _ he
    rw [hmk] at z2
    obtain rfl : zs' = [] := by
      cases zs' with
      | nil => rfl
      | cons a b => simp at z2
    exact turn pre k t _ n5 pv h5 tk5 o5 dE nm tn t1 t2 t3 t4 te (by rw [hx]; simp) he hmk hI5 hK5 hM5 k1 k2 z1 F5 N5
  · rintro m5 n5 ⟨⟨pv, hm⟩, hI5, hK5, hM5⟩ h5 tk5 F5 N5
    subst hm
    exact done n5 pv h5 tk5 hK5 hM5 F5 N5
theorem fp_end {w : World} {h₀ h h' : Heap} {L I : Addr} {o : Obj} {m₀ : Str → Option Value} {es : List (Addr × Addr × Addr)} {KEEP L₀ n all keep : List (Addr × Obj)} {pre : List (Nat × Tok)} {k : Nat} {t : Tok} {e : Addr × Addr × Addr} {x : Value} {s₁ : Shared} {tk : Nat} {v : Value} {pv : Option Value}
    (F : Fr h₀ L h' (fun z => if z = Str.ofString "number" then some v else if z = Str.ofString "number" then pv else m₀ z)) (N : News h₀ L h' ((e.2.2, LCg.lst ([] ++ [x])) :: dropA e.2.2 all)) (N0 : News h₀ L h ((I, o) :: n)) (hall : ∀ p ∈ (I, o) :: n, p ∈ all) (hc : (e.2.2, LCg.lst []) ∈ n) (hI : ∀ p ∈ n, p.1 ≠ I) (hKn : ∀ p ∈ KEEP, p ∈ n) (hM : MarkAt w n es (marksOf pre)) (hd : Chs es) (he : es[k]? = some e) (hk : marksOf pre k = false)
    (hK : ∀ p ∈ KEEP, p.2 ≠ LCg.lst []) (hkeep : ∀ p ∈ keep, p ∈ KEEP) :
    UnrEndW h₀ L s₁ [(I, o)] (fun m' n' => SubL keep n' ∧ FP w es KEEP I m₀ L₀ (pre ++ [(k, t)]) m' n') { s₁ with heap := h', toks := tk } := by
  have N1 : News h₀ L h n := fun p hp => N0 p (.tail _ hp)
  have hKn' : ∀ p ∈ KEEP, p ∈ (e.2.2, LCg.lst ([] ++ [x])) :: dropA e.2.2 n := fun p hp => .tail _ (mem_dropA (hKn p hp) (news_ne N1 (hKn p hp) hc (hK p hp)))
  refine unrEndA (news' := (e.2.2, LCg.lst ([] ++ [x])) :: dropA e.2.2 n) F N (.tail _ (mem_dropA (hall _ (.head _)) (Ne.symm (hI _ hc)))) (fun p hp => ?_) ⟨subL_of fun p hp => hKn' p (hkeep p hp), ⟨_, set1_step⟩, fun p hp => ?_, hKn', ?_⟩
  · k_extra "rm"
    · exact ⟨.head _, hI (e.2.2, LCg.lst []) hc⟩
    · exact ⟨.tail _ (mem_dropA (hall _ (.tail _ (of_dropA hp).1)) (of_dropA hp).2), hI _ (of_dropA hp).1⟩
  · k_extra "rm"
    · exact hI (e.2.2, LCg.lst []) hc
    · exact hI _ (of_dropA hp).1
  · have := (mark_app (x := x) N1 hM hd he hc hk).2
    have e1 : marksOf (pre ++ [(k, t)]) = fun j => marksOf pre j || j == k := by
      funext j
      unfold marksOf
      rw [List.map_append, List.contains_eq_any_beq, List.contains_eq_any_beq, List.any_append]
      simp
    rw [e1]
    exact this
noncomputable def headN (zs : List (Nat × Tok)) : Nat := match zs with | [] => 0 | z :: _ => z.1
noncomputable def headT (zs : List (Nat × Tok)) (t : Tok) : Tok := match zs with | [] => t | z :: _ => z.2
theorem head_at {zs : List (Nat × Tok)} {t : Tok} : (intsOf zs ++ [Value.int 0 t])[0]? = some (.int (headN zs : Int) (headT zs t)) := by
  cases zs <;> rfl
theorem head_lt {zs : List (Nat × Tok)} {i : Nat} (h0 : 0 < i) (hz : NumsOk i zs) : headN zs < i := by
  cases zs with
  | nil => exact h0
  | cons z r => exact hz.1 z (.head _)
theorem head_first {zs : List (Nat × Tok)} {i : Nat} (hz : NumsOk i zs) : (marksOf zs (headN zs) = true ∧ ∀ j, j < headN zs → marksOf zs j = false) ∨ (headN zs = 0 ∧ ∀ j, j < i → marksOf zs j = false) := by
  cases zs with
  | nil => exact .inr ⟨rfl, fun j _ => rfl⟩
  | cons z r =>
    refine .inl ⟨by simp [marksOf, headN], fun j hj => ?_⟩
    unfold marksOf
    rw [Bool.eq_false_iff]
    intro hc
    rw [List.contains_iff_mem, List.map_cons, List.mem_cons] at hc
    rcases hc with hc | hc
    · rw [hc] at hj; exact Nat.lt_irrefl _ hj
    · obtain ⟨y, hy1, hy2⟩ := List.mem_map.mp hc
      have := (List.pairwise_cons.mp hz.2).1 y hy1
      have hj' : j < z.1 := hj
      omega
theorem filled_at {w : World} {news : List (Addr × Obj)} {S : Addr} {es : List (Addr × Addr × Addr)} {mark : Nat → Bool} {k : Nat} {e : Addr × Addr × Addr} (hS : (S, LCg.lst (refsOf es)) ∈ news) (hM : MarkAt w news es mark) (h1 : es.length < 100) (he : es[k]? = some e)
    (hk : (mark k = true ∧ ∀ i, i < k → mark i = false) ∨ (k = 0 ∧ ∀ i, i < es.length → mark i = false)) : Cl w 20 160 398 [.ref S] news (fun v nw => v = .ref e.1 ∧ nw = news ∧ True) := by
  have hkl : k < es.length := (List.getElem?_eq_some_iff.mp he).1
  refine cl_mono (filled_spec hS (by omega) h1 hM) ?_
  rintro v nw ⟨E, rfl, rfl, j, e', hj, rfl, q⟩
  have hjl : j < es.length := (List.getElem?_eq_some_iff.mp hj).1
  have : j = k := by
    rcases hk with ⟨a1, a2⟩ | ⟨a1, a2⟩ <;> rcases q with ⟨b1, b2⟩ | ⟨b1, b2⟩
    · rcases Nat.lt_trichotomy j k with h | h | h
      · rw [a2 j h] at b1; cases b1
      · exact h
      · rw [b2 k h] at a1; cases a1
    · rw [b2 k hkl] at a1; cases a1
    · rw [a2 j hjl] at b1; cases b1
    · omega
  subst this
  rw [he] at hj
  obtain rfl := Option.some.inj hj
  exact ⟨rfl, rfl, trivial⟩
theorem bare_mark {w : World} {n : List (Addr × Obj)} {es : List (Addr × Addr × Addr)} (hB : Bare w n es) : MarkAt w n es fun _ => false := fun _ e he =>
  have h := hB e (List.mem_of_getElem? he)
  ⟨h.1, [], h.2, rfl, Nat.zero_le _⟩
theorem some_end {w : World} {h₀ h' : Heap} {L I C D : Addr} {m : Str → Option Value} {s₁ : Shared} {oI oC oa : Obj} {L₀ n : List (Addr × Obj)} {i tk : Nat} {es : List (Addr × Addr × Addr)} {E dE ch at_ : Addr} {nm : Str} {tn t1 t2 t3 t4 te : Tok}
    (F : Fr h₀ L h' m) (N : News h₀ L h' ((E, instObj 444 dE) :: (dE, elD w nm at_ ch tn t1 t2 t3 t4 te) :: (ch, LCg.lst []) :: (at_, oa) :: (I, oI) :: (C, oC) :: (D, LCg.lst (refsOf es)) :: n))
    (a1 : @LT.lt Nat _ at_ dE ∧ @LT.lt Nat _ I dE ∧ @LT.lt Nat _ C dE ∧ @LT.lt Nat _ D dE ∧ AllLt dE n) (a2 : @LT.lt Nat _ at_ E ∧ @LT.lt Nat _ I E ∧ @LT.lt Nat _ C E ∧ @LT.lt Nat _ D E ∧ AllLt E n) (a3 : @LT.lt Nat _ at_ ch ∧ @LT.lt Nat _ I ch ∧ @LT.lt Nat _ C ch ∧ @LT.lt Nat _ D ch ∧ AllLt ch n) (a4 : @LT.lt Nat _ I at_ ∧ @LT.lt Nat _ C at_ ∧ @LT.lt Nat _ D at_ ∧ AllLt at_ n)
    (off : LCg.Off3 I C D n) (hlen : es.length = i) (hL : ∀ p ∈ L₀, p ∈ n) (hB : Bare w n es) (hd : Chs es) :
    LCg.CompEnd h₀ L m s₁ I oI C oC D (LCg.lst (refsOf es)) (fun _ => True) (fun y news' => SomeP w L₀ (i + 1) (refsOf es ++ [y]) news') (.ref E) { s₁ with heap := h', toks := tk } :=
  compEndF [(E, instObj 444 dE), (dE, elD w nm at_ ch tn t1 t2 t3 t4 te), (ch, LCg.lst []), (at_, oa)] F N rfl
    ⟨⟨Nat.ne_of_gt a2.2.1, Nat.ne_of_gt a2.2.2.1, Nat.ne_of_gt a2.2.2.2.1⟩, ⟨Nat.ne_of_gt a1.2.1, Nat.ne_of_gt a1.2.2.1, Nat.ne_of_gt a1.2.2.2.1⟩, ⟨Nat.ne_of_gt a3.2.1, Nat.ne_of_gt a3.2.2.1, Nat.ne_of_gt a3.2.2.2.1⟩, ⟨Nat.ne_of_gt a4.1, Nat.ne_of_gt a4.2.1, Nat.ne_of_gt a4.2.2.1⟩, trivial⟩
    off trivial (some_step hlen hL hB hd (allLt_ne a3.2.2.2.2))
theorem pick_front {h₀ h : Heap} {L src : Addr} {o : Obj} {news : List (Addr × Obj)} (N : News h₀ L h news) (hm : (src, o) ∈ news) : News h₀ L h ((src, o) :: dropA src news) := fun p hp => by
  k_extra "rm"
  · exact N _ hm
  · exact N _ (of_dropA hp).1
theorem drop_ne {c : Addr} {n : List (Addr × Obj)} : ∀ p ∈ dropA c n, p.1 ≠ c := fun _ hp => (of_dropA hp).2
theorem bare_mono {w : World} {n n' : List (Addr × Obj)} {es : List (Addr × Addr × Addr)} (hB : Bare w n es) (hs : ∀ p ∈ n, p ∈ n') : Bare w n' es := fun e he => ⟨(hB e he).1.mono fun p hp _ => hs p hp, hs _ (hB e he).2⟩
theorem bare_drop {w : World} {h₀ h : Heap} {L src : Addr} {o : Obj} {n : List (Addr × Obj)} {es : List (Addr × Addr × Addr)} (N : News h₀ L h n) (hm : (src, o) ∈ n) (ho : SrcOk o) (hB : Bare w n es) : Bare w (dropA src n) es := by
  obtain ⟨a, b, ta, tb, c, rfl, _⟩ := ho
  refine fun e he => ⟨(hB e he).1.mono fun p hp hc => mem_dropA hp fun e1 => ?_, mem_dropA (hB e he).2 (news_ne N (hB e he).2 hm (fun e2 => ?_))⟩
  · have h1 := (N _ hp).1
    have h2 := (N _ hm).1
    dsimp only at h2
    rw [e1, h2] at h1
    have h3 := Option.some.inj h1
    rw [← h3] at hc
    rcases hc with hc | hc
    · cases hc
    · have : ("list" : String) = "dict" := by injection hc
      exact absurd this (by decide)
  · have : (LCg.lst []).data = (listOf #[Value.int a ta, Value.int b tb] c).data := congrArg Obj.data e2
    injection this with h1
    have := congrArg Array.size h1
    simp at this
theorem nums_start {w : World} {g h : Heap} {L S src c1 : Addr} {o oc ot : Obj} {n : List (Addr × Obj)} {es : List (Addr × Addr × Addr)} (N : News g L h ((S, LCg.lst (refsOf es)) :: n)) (off1 : LCg.Off1 S n) (hL : ∀ p ∈ [(c1, oc), (src, o), (577, ot)], p ∈ n) (ho : SrcOk o) (hB : Bare w n es) (h1 : @Ne Nat src 577) (h2 : @Ne Nat c1 src) :
    ∃ r, News g L h ((src, o) :: r) ∧ (∀ p ∈ r, p.1 ≠ src) ∧ (S, LCg.lst (refsOf es)) ∈ r ∧ (c1, oc) ∈ r ∧ (577, ot) ∈ r ∧ Bare w r es := by
  have hm := hL (src, o) (.tail _ (.head _))
  have hne : ∀ p ∈ n, p.1 ≠ S := fun p hp => by
    clear hL hB
    induction n with
    | nil => cases hp
    | cons q r ih =>
      k_extra "rm"
      · exact off1.1
      · by_cases hq : (src, o) ∈ r
        · exact ih (fun p hp => N p (by rcases List.mem_cons.mp hp with rfl | hp; exact .head _; exact .tail _ (.tail _ hp))) off1.2 hq hp
        · have : ∀ (l : List (Addr × Obj)), LCg.Off1 S l → ∀ p ∈ l, p.1 ≠ S := by
            intro l
            induction l with
            | nil => intro _ p hp; cases hp
            | cons a b ihb =>
              intro ho p hp
              k_extra "rm"
              · exact ho.1
              · exact ihb ho.2 p hp
          exact this r off1.2 p hp
  exact ⟨_, pick_front N (.tail _ hm), drop_ne, mem_dropA (.head _) (Ne.symm (hne _ hm)), mem_dropA (.tail _ (hL _ (.head _))) h2, mem_dropA (.tail _ (hL _ (.tail _ (.tail _ (.head _))))) (Ne.symm h1), bare_drop N (.tail _ hm) ho (bare_mono hB fun p hp => .tail _ hp)⟩
theorem add_led {prog : Program} {w : World} {A : Around} {E : Value → Shared → Prop} {s : Shared} {h₀ : Heap} {L l b : Addr} {m : Str → Option Value} {news : List (Addr × Obj)} {vs ws : List Value} {c1 c2 : Nat} {Q : Value → Shared → Prop} (F : Fr h₀ L s.heap m) (N : News h₀ L s.heap news) (hl : (l, listOf vs.toArray c1) ∈ news) (hb : (b, listOf ws.toArray c2) ∈ news) (hsz : vs.length + ws.length < 1000)
    (k : ∀ a h', AllLt a news → Fr h₀ L h' m → News h₀ L h' ((a, { cls := .type "list", data := .seq (vs ++ ws).toArray }) :: news) → Q (.ref a) { s with heap := h' }) :
    wpAny (model prog w) A (binaryOp .Add (.ref l) (.ref b)) Q E s :=
  add_lists F N ⟨_, (N _ hl).1, rfl, _, rfl⟩ ⟨_, (N _ hb).1, rfl, _, rfl⟩ (fun h' F' N' => k _ h' (allLt_of fun p hp => Heap.lt_size (N p hp).1) F' N') (by rw [sizeLine_eq]; omega)
theorem lst_ne {xs : List Value} (h : xs ≠ []) : LCg.lst xs ≠ LCg.lst [] := fun e => h (by
  have : (LCg.lst xs).data = (LCg.lst []).data := congrArg Obj.data e
  injection this with h1
  simpa using h1)
theorem nums_ne {zs : List (Nat × Tok)} (h : zs ≠ []) : LCg.lst (intsOf zs) ≠ LCg.lst [] := lst_ne (by simpa [intsOf] using h)
theorem refs_ne {es : List (Addr × Addr × Addr)} {k : Nat} {e : Addr × Addr × Addr} (h : es[k]? = some e) : LCg.lst (refsOf es) ≠ LCg.lst [] := lst_ne (by cases es with | nil => simp at h | cons a b => simp [refsOf])
theorem src_ne {o : Obj} (h : SrcOk o) : o ≠ LCg.lst [] := by
  obtain ⟨a, b, ta, tb, c, rfl, _⟩ := h
  intro e
  have : (listOf #[Value.int a ta, Value.int b tb] c).data = (LCg.lst []).data := congrArg Obj.data e
  injection this with h1
  have := congrArg Array.size h1
  simp at this
theorem nums_len {i : Nat} {zs : List (Nat × Tok)} (hz : NumsOk i zs) : zs.length ≤ i := by
  have key : ∀ (zs : List (Nat × Tok)) (lo : Nat), (∀ z ∈ zs, lo ≤ z.1 ∧ z.1 < i) → (zs.Pairwise fun a b => a.1 < b.1) → zs.length ≤ i - lo := by
    intro zs
    induction zs with
    | nil => intro lo _ _; exact Nat.zero_le _
    | cons z r ih =>
      intro lo h1 h2
      have h3 := h1 z (.head _)
      have h4 := List.pairwise_cons.mp h2
      have := ih (z.1 + 1) (fun y hy => ⟨h4.1 y hy, (h1 y (.tail _ hy)).2⟩) h4.2
      simp only [List.length_cons]
      omega
  exact key zs 0 (fun z hz' => ⟨Nat.zero_le _, hz.1 z hz'⟩) hz.2
theorem tab_ne : tabObj #[] ≠ LCg.lst [] := by
  intro h
  have h1 := congrArg Obj.cls h
  cases h1
theorem three_of {α : Type} {l : List α} (h : l.length = 3) : ∃ a b c, l = [a, b, c] := by
  obtain ⟨a, l, rfl⟩ := len_un h
  obtain ⟨b, l, rfl⟩ := len_un (Nat.succ.inj h)
  obtain ⟨c, l, rfl⟩ := len_un (Nat.succ.inj (Nat.succ.inj h))
  obtain rfl := List.eq_nil_of_length_eq_zero (Nat.succ.inj (Nat.succ.inj (Nat.succ.inj h)))
  exact ⟨a, b, c, rfl⟩
theorem mark_elim {w : World} {n : List (Addr × Obj)} {es : List (Addr × Addr × Addr)} {mark : Nat → Bool} {e : Addr × Addr × Addr} {G : Prop} (j : Nat) (hM : MarkAt w n es mark) (he : es[j]? = some e) (hk : mark j = false)
    (k : ∀ dE nm tn t1 t2 t3 t4 te, (e.1, instObj 444 dE) ∈ n → (dE, elD w nm e.2.1 e.2.2 tn t1 t2 t3 t4 te) ∈ n → (e.2.2, LCg.lst []) ∈ n → G) : G := by
  obtain ⟨⟨dE, nm, tn, t1, t2, t3, t4, te, k1, k2⟩, zs, z1, z2, z3⟩ := hM j e he
  rw [hk] at z2
  cases zs with
  | nil => exact k _ _ _ _ _ _ _ _ k1 k2 z1
  | cons a b => simp at z2
theorem keep_app {h₀ h : Heap} {L c : Addr} {n : List (Addr × Obj)} {q : Addr × Obj} {p : Addr × Obj} (N : News h₀ L h n) (hp : p ∈ n) (hc : (c, LCg.lst []) ∈ n) (ho : p.2 ≠ LCg.lst []) : p ∈ q :: dropA c n := .tail _ (mem_dropA hp (news_ne N hp hc ho))
theorem told_app {w : World} {h₀ h h' : Heap} {L : Addr} {all : List (Addr × Obj)} {es : List (Addr × Addr × Addr)} {mark : Nat → Bool} {k : Nat} {e : Addr × Addr × Addr} {x : Value} (N : News h₀ L h all) (hM : MarkAt w all es mark) (hd : Chs es) (he : es[k]? = some e) (hc : (e.2.2, LCg.lst []) ∈ all) (hk : mark k = false)
    (N9 : News h₀ L h' ((e.2.2, LCg.lst ([] ++ [x])) :: dropA e.2.2 all)) : ∃ n3, News h₀ L h' n3 ∧ MarkAt w n3 es (fun j => mark j || j == k) ∧ ∀ p ∈ all, p.2 ≠ LCg.lst [] → p ∈ n3 :=
  ⟨_, N9, (mark_app N hM hd he hc hk).2, fun _ hp ho => keep_app N hp hc ho⟩
noncomputable def m12 : Nat → Bool := fun j => (false || j == 1) || j == 2
theorem m12_first {n : Nat} : (m12 1 = true ∧ ∀ i, i < 1 → m12 i = false) ∨ ((1 : Nat) = 0 ∧ ∀ i, i < n → m12 i = false) := .inl ⟨rfl, fun i hi => by
  obtain rfl : i = 0 := by omega
  rfl⟩
end
theorem rows_c : True := by
  (k_with "t9" => with_reducible first | assumption | (refine T2.sub (by assumption) ?_; k_extra "sb9") | exact TupAt.t2 (by k_extra "ta9"))
  (k_with "ta9" => with_reducible first | assumption | (refine TupAt.sub (by assumption) ?_; k_extra "sb9") | (refine LstAt.sub (by assumption) ?_; k_extra "sb9"))
  (k_with "b9" => with_reducible first | assumption | exact Bd_zero | exact Bd_one)
  (k_with "ev0" => with_reducible first | (refine (?_ : Ev _ _ _ _ _ _ _ _); first | refine Ev.int ?_ | refine Ev.str ?_ | refine Ev.none ?_ | refine Ev.bool ?_ | refine Ev.name (by with_unfolding_all eq_refl) ?_ | refine num_at (by assumption) (by with_unfolding_all eq_refl) ?_ | refine num_text (by assumption) (by with_unfolding_all eq_refl) ?_ | refine Ev.bin ?_ | refine Ev.cutSS ?_ | refine Ev.cutSN ?_ | refine Ev.cutNS ?_ | refine Ev.subs ?_ | refine Ev.cmp ?_ | refine Ev.tuple ?_ | refine Ev.list ?_ | refine Ev.and2 ?_ | refine len_c ?_) | (refine (?_ : Evs _ _ _ _ _ _ _ _ _); first | refine Evs.cons ?_ | refine Evs.nil ?_) | (refine (?_ : Op _ _ _ _ _ _ _ _ _); first | refine Op.mul (mulok_sm (by assumption)) ?_ | refine Op.sub ?_ | refine Op.addI ?_ | refine Op.ltI ?_ | refine Op.gtI ?_ | refine Op.geI ?_ | refine Op.leI ?_ | refine Op.neI ?_ | refine Op.neS ?_ | refine Op.eqS ?_ | refine Op.neB ?_ | refine Op.inS ?_ | refine Op.neTS (by k_extra "ta9") ?_ | refine Op.lenS (by assumption) ?_ | refine Op.t2a (by k_extra "t9") ?_ | refine Op.t2b (by k_extra "t9") ?_ | refine Op.lst0 (by k_extra "ta9") ?_ | refine Op.lst1 (by k_extra "ta9") ?_ | refine Op.lst2 (by k_extra "ta9") ?_ | refine Op.tup0 (by k_extra "ta9") ?_ | refine Op.tup1 (by k_extra "ta9") ?_ | refine Op.tup2 (by k_extra "ta9") ?_ | (refine Op.addL (by k_extra "ta9") (by k_extra "ta9") (by with_unfolding_all exact Nat.le_of_ble_eq_true rfl) ?_; intro D9 n9 s9 l9)) | (refine (?_ : Nxt _ _ _ _ _ _ _ _ _); first | refine Nxt.next ?_ | refine Nxt.ret ?_) | (refine (?_ : Ex _ _ _ _ _ _ _ _); first | refine Ex.nil ?_ | refine Ex.cons ?_) | (refine (?_ : Ex1 _ _ _ _ _ _ _ _); first | refine Ex1.assign ?_ | refine Ex1.ret ?_ | refine Ex1.ite ?_ | refine Ex1.unpack4 ?_ | refine Ex1.swap2 ?_ | refine Ex1.unpack2 ?_) | (refine (?_ : Tst _ _ _ _ _ _ _ _); first | refine Tst.cmp ?_ | refine Tst.and2 ?_ | refine Tst.or2 ?_ | refine Tst.not ?_) | (refine ⟨_, _, _, _, _, rfl, (by k_extra "ta9"), ?_⟩) | (refine ⟨_, _, _, rfl, (by k_extra "ta9"), ?_⟩) | (refine ⟨_, rfl, ?_⟩) | (with_unfolding_all refine Two.no (by first | assumption | decide +kernel) ?_) | (with_unfolding_all refine Two.yes (by first | assumption | decide +kernel) ?_) | (refine ⟨(by with_unfolding_all exact Nat.le_of_ble_eq_true rfl), ?_⟩; intro D9 n9 s9 l9))
  (k_with "ev1" => with_reducible first | (refine (?_ : Ev _ _ _ _ _ _ _ _); first | refine Ev.int ?_ | refine Ev.str ?_ | refine Ev.none ?_ | refine Ev.bool ?_ | refine Ev.name (by with_unfolding_all eq_refl) ?_ | refine num_at (by assumption) (by with_unfolding_all eq_refl) ?_ | refine num_text (by assumption) (by with_unfolding_all eq_refl) ?_ | refine Ev.bin ?_ | refine Ev.cutSS ?_ | refine Ev.cutSN ?_ | refine Ev.cutNS ?_ | refine Ev.subs ?_ | refine Ev.cmp ?_ | refine Ev.tuple ?_ | refine Ev.list ?_ | refine Ev.and2 ?_ | refine len_c ?_) | (refine (?_ : Evs _ _ _ _ _ _ _ _ _); first | refine Evs.cons ?_ | refine Evs.nil ?_) | (refine (?_ : Op _ _ _ _ _ _ _ _ _); first | refine Op.mul (mulok_sm (by assumption)) ?_ | refine Op.sub ?_ | refine Op.addI ?_ | refine Op.ltI ?_ | refine Op.gtI ?_ | refine Op.geI ?_ | refine Op.leI ?_ | refine Op.neI ?_ | refine Op.neS ?_ | refine Op.eqS ?_ | refine Op.neB ?_ | refine Op.inS ?_ | refine Op.neTS (by k_extra "ta9") ?_ | refine Op.lenS (by assumption) ?_ | refine Op.t2a (by k_extra "t9") ?_ | refine Op.t2b (by k_extra "t9") ?_ | refine Op.lst0 (by k_extra "ta9") ?_ | refine Op.lst1 (by k_extra "ta9") ?_ | refine Op.lst2 (by k_extra "ta9") ?_ | refine Op.tup0 (by k_extra "ta9") ?_ | refine Op.tup1 (by k_extra "ta9") ?_ | refine Op.tup2 (by k_extra "ta9") ?_ | (refine Op.addL (by k_extra "ta9") (by k_extra "ta9") (by with_unfolding_all exact Nat.le_of_ble_eq_true rfl) ?_; intro D9 n9 s9 l9)) | (refine (?_ : Nxt _ _ _ _ _ _ _ _ _); first | refine Nxt.next ?_ | refine Nxt.ret ?_) | (refine (?_ : Ex _ _ _ _ _ _ _ _); first | refine Ex.nil ?_ | refine Ex.cons ?_) | (refine (?_ : Ex1 _ _ _ _ _ _ _ _); first | refine Ex1.assign ?_ | refine Ex1.ret ?_ | refine Ex1.unpack4 ?_ | refine Ex1.swap2 ?_ | refine Ex1.unpack2 ?_) | (refine (?_ : Tst _ _ _ _ _ _ _ _); first | refine Tst.cmp ?_ | refine Tst.and2 ?_ | refine Tst.or2 ?_ | refine Tst.not ?_) | (refine ⟨_, _, _, _, _, rfl, (by k_extra "ta9"), ?_⟩) | (refine ⟨_, _, _, rfl, (by k_extra "ta9"), ?_⟩) | (refine ⟨_, rfl, ?_⟩) | (with_unfolding_all refine Two.no (by first | assumption | decide +kernel) ?_) | (with_unfolding_all refine Two.yes (by first | assumption | decide +kernel) ?_) | (refine ⟨(by with_unfolding_all exact Nat.le_of_ble_eq_true rfl), ?_⟩; intro D9 n9 s9 l9))
  (k_with "n" => with_reducible refine Ev.name (by with_unfolding_all eq_refl) ?_)
  (k_with "i" => with_reducible refine Ev.int ?_)
  (k_with "s" => with_reducible refine Ev.str ?_)
  (k_with "no" => with_reducible refine Ev.none ?_)
  (k_with "c" => with_reducible refine Evs.cons ?_)
  (k_with "z" => with_reducible refine Evs.nil ?_)
  (k_with "b" => with_reducible refine Ev.bin ?_)
  (k_with "u" => with_reducible refine Ev.subs ?_)
  (k_with "e" => with_reducible refine Ex.cons ?_)
  (k_with "en" => with_reducible refine Ex.nil ?_)
  (k_with "x" => with_reducible refine Nxt.next ?_)
  (k_with "xr" => with_reducible refine Nxt.ret ?_)
  (k_with "a" => with_reducible refine Ex1.assign ?_)
  (k_with "r" => with_reducible refine Ex1.ret ?_)
  (k_with "f" => with_reducible refine Ex1.ite ?_)
  (k_with "t" => with_reducible refine Tst.cmp ?_)
  (k_with "tu" => with_reducible refine Ev.tuple ?_)
  (k_with "l" => with_reducible refine Ev.list ?_)
  (k_with "lf" => with_reducible refine Ev.listF ?_)
  (k_with "q" => with_reducible refine ExS.seq ?_)
  (k_with "cm" => with_reducible refine Ev.cmp ?_)
  (k_with "as" => refine Op.addS (by first | omega | (simp only [sapp_len]; omega)) ?_)
  (k_with "v" => obtain ⟨v1, v2, rfl, i1, i2⟩ := all2_2 hv)
  (k_with "oa" => obtain ⟨m', hm', F, N⟩ := A)
  trivial
section
open PySem PySem.W PyProof.Rows PyProof.V PySem.Spec
section
variable {sc : Sc} {d u : Nat} {w : World} {m : Nms} {n : Led} {R : PV → Led → Prop}
theorem Ev.ifname {t : Expr} {x y : Str} {p1 p2 p : Pos} {D1 D2 : Addr} (h1 : m.lookup x = some (.ref D1)) (h2 : m.lookup y = some (.ref D2)) (h : Tst sc d u w m n t fun b n1 => ∀ S, S = (if b = true then D1 else D2) → R (.ref S) n1)
    (hx : autoParam (∀ c : Fc w, (c.env sc).kindOf x = some .local) aY) (hy : autoParam (∀ c : Fc w, (c.env sc).kindOf y = some .local) aY) (hdx : autoParam ((x == Str.ofString "__debug__") = false) aW) (hdy : autoParam ((y == Str.ofString "__debug__") = false) aW) :
    Ev sc d u w m n (.IfExp t (.Name x p1) (.Name y p2) p) R := by
  refine Ev.ifexp ?_
  intro c hc s Q E A q
  refine h c hc s Q E A fun v pv n1 h1' t1 i1 r1 A1 => q v pv n1 h1' t1 i1 ⟨fun e => ?_, fun e => ?_⟩ A1
  · subst e; exact Ev.name h1 (r1 D1 rfl) hx hdx
  · subst e; exact Ev.name h2 (r1 D2 rfl) hy hdy
theorem Op.addL {a b : Addr} {ps qs : List PV} (ha : LstAt n a ps) (hb : LstAt n b qs) (hsz : ps.length + qs.length < 1000) (h : ∀ D n2, Sub n n2 → LstAt n2 D (ps ++ qs) → R (.ref D) n2) : Op sc d u w m n [.ref a, .ref b] (bnT .Add) R := by
  intro vs hv c hc s Q E A q
  obtain ⟨vs1, c1, hm1, l1⟩ := ha
  obtain ⟨vs2, c2, hm2, l2⟩ := hb
  k_extra "v"
  obtain rfl := i1.ref
  obtain rfl := i2.ref
  k_extra "oa"
  refine add_led F N hm1 hm2 (by rw [l1.len, l2.len]; exact hsz) fun D h' hl F' N' => q _ (.ref D) _ h' s.toks rfl (h D _ (Sub.tail (Sub.refl _)) ⟨vs1 ++ vs2, 0, .head _, l1.append l2⟩) ⟨m', hm', F', N'⟩
inductive DueQ (w : World) (n : Led) (D : Addr) (q1 q2 q3 q4 q5 q6 : Rat) : Prop
  | mk (A1 : _) (A2 : _) (A3 : _) (A4 : _) (A5 : _) (A6 : _) (f0 : LstAt n D [.ref A1, .ref A2, .ref A3, .ref A4, .ref A5, .ref A6]) (f1 : R2 w n A1 q1) (f2 : R2 w n A2 q2) (f3 : R2 w n A3 q3) (f4 : R2 w n A4 q4) (f5 : R2 w n A5 q5) (f6 : R2 w n A6 q6) : DueQ w n D q1 q2 q3 q4 q5 q6
theorem DueQ.of {w : World} {n : Led} {D A1 A2 A3 A4 A5 A6 : Addr} {q1 q2 q3 q4 q5 q6 : Rat} (h : LstAt n D ([.ref A1, .ref A2, .ref A3, .ref A4] ++ [.ref A5, .ref A6])) (h1 : R2 w n A1 q1) (h2 : R2 w n A2 q2) (h3 : R2 w n A3 q3) (h4 : R2 w n A4 q4) (h5 : R2 w n A5 q5) (h6 : R2 w n A6 q6) : DueQ w n D q1 q2 q3 q4 q5 q6 :=
  ⟨A1, A2, A3, A4, A5, A6, h, h1, h2, h3, h4, h5, h6⟩
theorem pair_refs {α : Prop} {vs : List Value} {A B : Addr} (h : All2 PvIs vs [.ref A, .ref B]) (k : vs = [.ref A, .ref B] → α) : α := by
  obtain ⟨v1, v2, rfl, i1, i2⟩ := all2_2 h
  obtain rfl := i1.ref
  obtain rfl := i2.ref
  exact k rfl
theorem ltimes_k {A B' : Addr} {a0 a1 b0 b1 : Int} {ka kb : Nat} (hA : T2 w n A a0 a1) (hB : T2 w n B' b0 b1) (ba : Bd ka a0 a1) (bb : Bd kb b0 b1) (hkk : 2 * (ka * kb) < 4611686018427387904) (k : ∀ D x y n', Sub n n' → T2 w n' D x y → Bd (ka * kb) x y → rv x y = rv a0 a1 * rv b0 b1 → R (.ref D) n') : PCl 20 160 542 w [.ref A, .ref B'] n R :=
  fun vs hv => pair_refs hv fun e => e ▸ cl_mono (ltimes_s hA hB ba bb hkk) (by rintro v nw ⟨D, x, y, nw', rfl, rfl, h1, h2, h3, h4⟩; exact ⟨.ref D, rfl, k D x y _ h1 h2 h3 h4⟩)
theorem lless_k {A B' : Addr} {a0 a1 b0 b1 : Int} {ka kb : Nat} (hA : T2 w n A a0 a1) (hB : T2 w n B' b0 b1) (ba : Bd ka a0 a1) (bb : Bd kb b0 b1) (hkk : 2 * (ka * kb) < 4611686018427387904) (k : ∀ D x y n', Sub n n' → T2 w n' D x y → Bd (2 * (ka * kb)) x y → rv x y = rv a0 a1 - rv b0 b1 → decide (x < 0) = decide (rv a0 a1 < rv b0 b1) → R (.ref D) n') : PCl 20 160 549 w [.ref A, .ref B'] n R :=
  fun vs hv => pair_refs hv fun e => e ▸ cl_mono (lless_s hA hB ba bb hkk) (by rintro v nw ⟨D, x, y, nw', rfl, rfl, h1, h2, h3, h4, h5⟩; exact ⟨.ref D, rfl, k D x y _ h1 h2 h3 h4 h5⟩)
theorem ltimes_c {fp p : Pos} {e : Expr} {es : List Expr} (hd : 20 ≤ d) (hu : 160 ≤ u) (h : Evs sc d u w m n p (e :: es) (KCall 20 160 542 w R)) (hx : autoParam (∀ c : Fc w, (c.env sc).kindOf (Str.ofString "_law_times") = some .globalImplicit) aY)
    (h1 : autoParam (CallEq (Str.ofString "_law_times") fp p e es) aY)
    (h2 : autoParam (StarEq e es) aY) (h3 : autoParam (NoStar p es) aY) : Ev sc d u w m n (.Call (.Name (Str.ofString "_law_times") fp) (e :: es) [] p) R :=
  Ev.call (f := 542) (fun w => by kernel_rfl) (fun w => by kernel_rfl) h hd hu hx (by rfl) h1 h2 h3
theorem lless_c {fp p : Pos} {e : Expr} {es : List Expr} (hd : 20 ≤ d) (hu : 160 ≤ u) (h : Evs sc d u w m n p (e :: es) (KCall 20 160 549 w R)) (hx : autoParam (∀ c : Fc w, (c.env sc).kindOf (Str.ofString "_law_less") = some .globalImplicit) aY)
    (h1 : autoParam (CallEq (Str.ofString "_law_less") fp p e es) aY)
    (h2 : autoParam (StarEq e es) aY) (h3 : autoParam (NoStar p es) aY) : Ev sc d u w m n (.Call (.Name (Str.ofString "_law_less") fp) (e :: es) [] p) R :=
  Ev.call (f := 549) (fun w => by kernel_rfl) (fun w => by kernel_rfl) h hd hu hx (by rfl) h1 h2 h3
end
theorem lfit_none {w : World} {n : Led} {R : PV → Led → Prop} {P Ce C0 C1 PX PY W H : Addr} {x0 x1 y0 y1 w0 w1 h0 h1 c0 c1 e0 e1 : Int} (hP : TupAt n P [.ref PX, .ref PY, .ref W, .ref H]) (hC : LstAt n Ce [.ref C0, .ref C1])
    (tx : T2 w n PX x0 x1) (bx : Bd 4 x0 x1) (ty : T2 w n PY y0 y1) (by_ : Bd 4 y0 y1) (tw : T2 w n W w0 w1) (bw : Bd 4 w0 w1) (th : T2 w n H h0 h1) (bh : Bd 4 h0 h1) (pw : 0 < w0) (ph : 0 < h0)
    (tc : T2 w n C0 c0 c1) (bc : Bd 6 c0 c1) (te : T2 w n C1 e0 e1) (be : Bd 6 e0 e1) (k : ∀ D n', Sub n n' → DueQ w n' D (rv c0 c1 / rv w0 w1) 0 0 (rv e0 e1 / rv h0 h1) (0 - rv x0 x1 * (rv c0 c1 / rv w0 w1)) (0 - rv y0 y1 * (rv e0 e1 / rv h0 h1)) → R (.ref D) n') : PCl 60 480 570 w [.ref P, .str (Str.ofString "none"), .ref Ce] n R := by
  (k_with "v21" => with_reducible first | (refine (?_ : Ev _ _ _ _ _ _ _ _); first | refine Ev.int ?_ | refine Ev.str ?_ | refine Ev.none ?_ | refine Ev.bool ?_ | refine Ev.name (by k_extra "w") ?_ | refine Ev.bin ?_ | refine Ev.subs ?_ | refine Ev.cmp ?_ | refine Ev.tuple ?_ | refine Ev.list ?_ | refine ltimes_c (by decide) (by decide) ?_ | refine lless_c (by decide) (by decide) ?_) | (refine (?_ : Evs _ _ _ _ _ _ _ _ _); first | refine Evs.cons ?_ | refine Evs.nil ?_) | (refine (?_ : Op _ _ _ _ _ _ _ _ _); first | refine Op.mul (mulok_sm (by assumption)) ?_ | refine Op.sub ?_ | refine Op.ltI ?_ | refine Op.neS ?_ | refine Op.neB ?_ | refine Op.neTS (by k_extra "ta9") ?_ | refine Op.t2a (by k_extra "t9") ?_ | refine Op.t2b (by k_extra "t9") ?_ | refine Op.lst0 (by k_extra "ta9") ?_ | refine Op.lst1 (by k_extra "ta9") ?_ | refine Op.lst2 (by k_extra "ta9") ?_ | refine Op.tup0 (by k_extra "ta9") ?_ | refine Op.tup1 (by k_extra "ta9") ?_ | refine Op.tup2 (by k_extra "ta9") ?_ | (refine Op.addL (by k_extra "ta9") (by k_extra "ta9") (by with_unfolding_all exact Nat.le_of_ble_eq_true rfl) ?_; intro D9 n9 s9 l9)) | (refine (?_ : Nxt _ _ _ _ _ _ _ _ _); first | refine Nxt.next ?_ | refine Nxt.ret ?_) | (refine (?_ : Ex _ _ _ _ _ _ _ _); first | refine Ex.nil ?_ | refine Ex.cons ?_) | (refine (?_ : Ex1 _ _ _ _ _ _ _ _); first | refine Ex1.assign ?_ | refine Ex1.ret ?_ | refine Ex1.ite ?_ | refine Ex1.unpack4 ?_ | refine Ex1.swap2 ?_ | refine Ex1.unpack2 ?_) | refine Tst.cmp ?_ | (refine ltimes_k (by k_extra "t9") (by k_extra "t9") (by k_extra "b9") (by k_extra "b9") (by decide) ?_; intro D9 x9 y9 n9 s9 t9 b9 e9) | (refine lless_k (by k_extra "t9") (by k_extra "t9") (by k_extra "b9") (by k_extra "b9") (by decide) ?_; intro D9 x9 y9 n9 s9 t9 b9 e9 f9) | (refine ⟨_, _, _, _, _, rfl, (by k_extra "ta9"), ?_⟩) | (refine ⟨_, _, _, rfl, (by k_extra "ta9"), ?_⟩) | (refine ⟨_, rfl, ?_⟩) | (with_unfolding_all refine Two.no (by first | assumption | decide +kernel) ?_) | (with_unfolding_all refine Two.yes (by first | assumption | decide +kernel) ?_) | (refine ⟨(by with_unfolding_all exact Nat.le_of_ble_eq_true rfl), ?_⟩; intro D9 n9 s9 l9))
  have s0 := bc.sm (by decide)
  have s1 := bc.sm2 (by decide)
  have s2 := be.sm (by decide)
  have s3 := be.sm2 (by decide)
  have b3 := cross_ok bc bw pw
  have b4 := cross_ok be bh ph
  have r3 := rv_cross (c0 := c0) bc.2.1 bw.2.1 pw
  have r4 := rv_cross (c0 := e0) be.2.1 bh.2.1 ph
  have : PySem.Challenge.rw_xm0694_01 = PySem.Challenge.rw_xm0694_01 → ∀ h, (Mine.hd.heap_1 w.params).In h → True := by k_fill; exact fun _ _ _ => trivial
  clear this
  refine PCl.enter (d' := 50) (u' := 400) (by k_is) (by k_is) (hb3 (x1 := Str.ofString "numbers") (x2 := Str.ofString "fit") (x3 := Str.ofString "cell") (fun _ _ _ _ => BindsTo.of_eq rfl) (by decide +kernel)) ?_ (by decide) (by decide)
  · repeat (k_extra "v21")
    refine k D9 n9 ?_ (DueQ.of l9 ?_ ?_ ?_ ?_ ?_ ?_)
    · k_extra "sb9"
    all_goals exact R2.of (by k_extra "t9") (by k_extra "b9") (by first | exact rv_zero | exact r3 | exact r4 | (simp only [*, rv_zero]))
theorem scale_of {w : World} {n : Led} {S D1 D2 : Addr} {b : Bool} {x1 y1 x2 y2 : Int} {k : Nat} {G : Prop} (h : S = (if b = true then D1 else D2)) (t1 : T2 w n D1 x1 y1) (b1 : Bd k x1 y1) (t2 : T2 w n D2 x2 y2) (b2 : Bd k x2 y2)
    (q : ∀ x y, T2 w n S x y → Bd k x y → rv x y = (if b = true then rv x1 y1 else rv x2 y2) → G) : G := by
  cases b
  · exact q x2 y2 (h ▸ t2) b2 rfl
  · exact q x1 y1 (h ▸ t1) b1 rfl
theorem lfit_some {w : World} {n : Led} {R : PV → Led → Prop} {P Ce C0 C1 PX PY W H : Addr} {x0 x1 y0 y1 w0 w1 h0 h1 c0 c1 e0 e1 : Int} (hP : TupAt n P [.ref PX, .ref PY, .ref W, .ref H]) (hC : LstAt n Ce [.ref C0, .ref C1])
    (tx : T2 w n PX x0 x1) (bx : Bd 4 x0 x1) (ty : T2 w n PY y0 y1) (by_ : Bd 4 y0 y1) (tw : T2 w n W w0 w1) (bw : Bd 4 w0 w1) (th : T2 w n H h0 h1) (bh : Bd 4 h0 h1) (pw : 0 < w0) (ph : 0 < h0)
    (tc : T2 w n C0 c0 c1) (bc : Bd 6 c0 c1) (te : T2 w n C1 e0 e1) (be : Bd 6 e0 e1) {Ft : Addr} {fa fb : Int} {sl : Bool} (hF : TupAt n Ft [.int fa, .int fb, .bool sl]) (ba : Bd 2 fa 2) (bb : Bd 2 fb 2)
   (k : ∀ D n', Sub n n' → DueQ w n' D (fitSc (rv w0 w1) (rv h0 h1) (rv c0 c1) (rv e0 e1) sl) 0 0 (fitSc (rv w0 w1) (rv h0 h1) (rv c0 c1) (rv e0 e1) sl) (rv fa 2 * (rv c0 c1 - rv w0 w1 * fitSc (rv w0 w1) (rv h0 h1) (rv c0 c1) (rv e0 e1) sl) - rv x0 x1 * fitSc (rv w0 w1) (rv h0 h1) (rv c0 c1) (rv e0 e1) sl) (rv fb 2 * (rv e0 e1 - rv h0 h1 * fitSc (rv w0 w1) (rv h0 h1) (rv c0 c1) (rv e0 e1) sl) - rv y0 y1 * fitSc (rv w0 w1) (rv h0 h1) (rv c0 c1) (rv e0 e1) sl) → R (.ref D) n') : PCl 60 480 570 w [.ref P, .ref Ft, .ref Ce] n R := by
  have s0 := bc.sm (by decide)
  have s1 := bc.sm2 (by decide)
  have s2 := be.sm (by decide)
  have s3 := be.sm2 (by decide)
  have b3 := cross_ok bc bw pw
  have b4 := cross_ok be bh ph
  have r3 := rv_cross (c0 := c0) bc.2.1 bw.2.1 pw
  have r4 := rv_cross (c0 := e0) be.2.1 bh.2.1 ph
  have : PySem.Challenge.rw_xm0694_01 = PySem.Challenge.rw_xm0694_01 → ∀ h, (Mine.hd.heap_1 w.params).In h → True := by k_fill; exact fun _ _ _ => trivial
  clear this
  refine PCl.enter (d' := 50) (u' := 400) (by k_is) (by k_is) (hb3 (x1 := Str.ofString "numbers") (x2 := Str.ofString "fit") (x3 := Str.ofString "cell") (fun _ _ _ _ => BindsTo.of_eq rfl) (by decide +kernel)) ?_ (by decide) (by decide)
  · repeat (k_extra "v21")
    refine Ev.ifname (by k_extra "w") (by k_extra "w") ?_
    repeat (k_extra "v21")
    intro S9 h9
    refine scale_of (w := w) (n := n9) h9 (by k_extra "t9") (by k_extra "b9") (by k_extra "t9") (by k_extra "b9") ?_
    intro x9 y9 t9 b9 g9
    have hS : rv x9 y9 = fitSc (rv w0 w1) (rv h0 h1) (rv c0 c1) (rv e0 e1) sl := by
      unfold fitSc
      rw [g9]
      simp only [*]
    clear g9
    repeat (k_extra "v21")
    refine k _ _ ?_ (DueQ.of l9 ?_ ?_ ?_ ?_ ?_ ?_)
    · k_extra "sb9"
    all_goals exact R2.of (by k_extra "t9") (by k_extra "b9") (by first | exact rv_zero | exact hS | (simp only [*]))
section
variable {sc : Sc} {d u : Nat} {w : World} {m : Nms} {n : Led} {R : PV → Led → Prop} {S : PF → Nms → Led → Prop}
theorem Ev.attr {o name : Str} {xp p : Pos} {x C dx : Addr} {es : List DictEntry} {k : Nat} {v : Value} {pv : PV} {attr : Option Value} (hm : m.lookup o = some (.ref x)) (h1 : (x, instObj C dx) ∈ n) (h2 : (dx, dictOf es k) ∈ n)
    (g1 : plainGet (Mine.hd.heap_1 w.params) C name = true) (g2 : hasDictIn (Mine.hd.heap_1 w.params) C = true) (g3 : findIn (Mine.hd.heap_1 w.params) (.ref C) name = some attr) (g4 : noGet (Mine.hd.heap_1 w.params) attr = true) (g5 : getL name es = some (some v)) (g6 : handedIn v = true) (hp : PvIs v pv) (h : R pv n)
    (hx : autoParam (∀ c : Fc w, (c.env sc).kindOf o = some .local) aY) (hd : autoParam ((o == Str.ofString "__debug__") = false) aW) : Ev sc d u w m n (.Attribute (.Name o xp) name p) R := by
  intro c hc s Q E A q
  k_extra "oa"
  obtain ⟨v', hv, hp'⟩ := hm' o _ hm
  obtain rfl := hp'.ref
  exact Attribute_Name_ (nameX_L F hv (get_own F hc.X (InstAt.of_news N h1 h2) g1 g2 g3 g4 g5 g6 (q v pv n s.heap _ hp h ⟨m', hm', F, N⟩)) hc.hk (hx c) hd)
theorem Ev.meth {pl : Fc w → Sem Bool} {o name : Str} {xp ap p : Pos} {e : Expr} {es : List Expr} {x C dx f : Addr} {ds : List DictEntry} {k d' u' : Nat} (hm : m.lookup o = some (.ref x)) (h1 : (x, instObj C dx) ∈ n) (h2 : (dx, dictOf ds k) ∈ n)
    (g1 : plainGet (Mine.hd.heap_1 w.params) C name = true) (g2 : findIn (Mine.hd.heap_1 w.params) (.ref C) name = some (some (.ref f))) (g3 : isFn (Mine.hd.heap_1 w.params) (.ref f) = true) (g4 : getL name ds = some Option.none) (g5 : keepIn (Mine.hd.heap_1 w.params) (.ref f) = true)
    (h : Evs sc d u w m n p (e :: es) fun pvs n1 => PCl d' u' f w (.ref x :: pvs) n1 R) (hd' : d' ≤ d) (hu' : u' ≤ u)
    (hx : autoParam (∀ c : Fc w, (c.env sc).kindOf o = some .local) aY) (hd : autoParam ((o == Str.ofString "__debug__") = false) aW)
    (e1 : autoParam (∀ c : Fc w, eval (.Call (.Attribute (.Name o xp) name ap) (e :: es) [] p) (c.env sc) = (do
      let ov ← eval (.Name o xp) (c.env sc)
      standAt ap.atName
      let (f, first) ← holding [ov] (getMethod ov name (pl c))
      callWith p f first (backTo p (starEach (e :: es) (c.env sc))) (backToKw p (keywordEach [] (c.env sc))))) aY)
    (e2 : autoParam (StarEq e es) aY) (e3 : autoParam (NoStar p es) aY) :
    Ev sc d u w m n (.Call (.Attribute (.Name o xp) name ap) (e :: es) [] p) R := by
  intro c hc s Q E A q
  k_extra "oa"
  obtain ⟨v', hv, hp'⟩ := hm' o _ hm
  obtain rfl := hp'.ref
  refine methodCall_KW (pl := pl c) (nameX_L F hv (method_inst F hc.X (InstAt.of_news N h1 h2) g1 g2 g3 g4 ?_) hc.hk (hx c) hd) (e1 c)
  refine callWith_K hc.X g5 (h c hc s _ E ⟨m', hm', F, N⟩ fun vs pvs n1 h1 t1 i1 r1 A1 => ?_) (e2 _) (e3 _)
  obtain ⟨m1, hm1, F1, N1⟩ := A1
  refine ⟨hc.X.keeps F1.keep, ?_⟩
  exact cl_use (r1 (.ref x :: vs) ⟨rfl, i1⟩) (s := { s with heap := h1, toks := t1 }) hc.B F1 hc.X N1 hc.T hc.hk (Nat.lt_of_le_of_lt (Nat.add_le_add_left hd' _) hc.hd) (Nat.lt_of_le_of_lt (Nat.add_le_add_left hu' _) hc.hu)
    fun v nw h' tk' ⟨pv, a1, a2⟩ F' N' => q v pv nw h' tk' a1 a2 ⟨m1, hm1, F', N'⟩
theorem Ev.meth0 {pl : Fc w → Sem Bool} {o name : Str} {xp ap p : Pos} {x C dx f : Addr} {ds : List DictEntry} {k d' u' : Nat} (hm : m.lookup o = some (.ref x)) (h1 : (x, instObj C dx) ∈ n) (h2 : (dx, dictOf ds k) ∈ n)
    (g1 : plainGet (Mine.hd.heap_1 w.params) C name = true) (g2 : findIn (Mine.hd.heap_1 w.params) (.ref C) name = some (some (.ref f))) (g3 : isFn (Mine.hd.heap_1 w.params) (.ref f) = true) (g4 : getL name ds = some Option.none) (g5 : keepIn (Mine.hd.heap_1 w.params) (.ref f) = true)
    (h : PCl d' u' f w [.ref x] n R) (hd' : d' ≤ d) (hu' : u' ≤ u)
    (hx : autoParam (∀ c : Fc w, (c.env sc).kindOf o = some .local) aY) (hd : autoParam ((o == Str.ofString "__debug__") = false) aW)
    (e1 : autoParam (∀ c : Fc w, eval (.Call (.Attribute (.Name o xp) name ap) [] [] p) (c.env sc) = (do
      let ov ← eval (.Name o xp) (c.env sc)
      standAt ap.atName
      let (f, first) ← holding [ov] (getMethod ov name (pl c))
      callWith p f first (backTo p (starEach [] (c.env sc))) (backToKw p (keywordEach [] (c.env sc))))) aY) :
    Ev sc d u w m n (.Call (.Attribute (.Name o xp) name ap) [] [] p) R := by
  intro c hc s Q E A q
  k_extra "oa"
  obtain ⟨v', hv, hp'⟩ := hm' o _ hm
  obtain rfl := hp'.ref
  refine methodCall_KW (pl := pl c) (nameX_L F hv (method_inst F hc.X (InstAt.of_news N h1 h2) g1 g2 g3 g4 ?_) hc.hk (hx c) hd) (e1 c)
  refine callWith_K0 (hc.X.keeps F.keep) g5 ?_
  exact cl_use (h [.ref x] ⟨rfl, trivial⟩) hc.B F hc.X N hc.T hc.hk (Nat.lt_of_le_of_lt (Nat.add_le_add_left hd' _) hc.hd) (Nat.lt_of_le_of_lt (Nat.add_le_add_left hu' _) hc.hu)
    fun v nw h' tk' ⟨pv, a1, a2⟩ F' N' => q v pv nw h' tk' a1 a2 ⟨m', hm', F', N'⟩
noncomputable abbrev numD (w : World) (x : Str) (tx : Tok) (i : Int) (ti t1 t2 : Tok) : Obj := dictOf [ent w (Str.ofString "text") t1 (.str x tx), ent w (Str.ofString "at") t2 (.int i ti)] 2
def RdL (w : World) (n n0 : Led) (Rd dR : Addr) (x : Str) (i : Int) : Prop := (∃ tx ti t1 t2, n = (Rd, instObj 190 dR) :: (dR, numD w x tx i ti t1 t2) :: n0) ∧ (@Ne Nat Rd dR) ∧ ∀ p ∈ n0, @Ne Nat p.1 dR
def Le (m' m : Nms) : Prop := ∀ x pv, m'.lookup x = some pv → m.lookup x = some pv
theorem At.weak {c : Fc w} {m' : Nms} {h : Heap} (A : At c m n h) (l : Le m' m) : At c m' n h := by
  obtain ⟨m1, a, b, e⟩ := A
  exact ⟨m1, fun x pv hx => a x pv (l x pv hx), b, e⟩
theorem ExT.noE {t : Env → Sem Flow} (h : ∀ (c : Fc w), c.Ok sc d u → ∀ (s : Shared) (Q : Flow → Shared → Prop), At c m n s.heap → (∀ f pf m' n' h' tk', FlIs f pf → S pf m' n' → At c m' n' h' → Q f { s with heap := h', toks := tk' }) → wpAny (model PG w) (c.A sc) (t (c.env sc)) Q (fun _ _ => False) s) : ExT sc d u w m n t S :=
  fun c hc s Q _ A q => wpAny_mono (h c hc s Q A q) (fun _ _ h => h) fun _ _ h => h.elim
def KTurn (I : Nat → Nms → Led → Prop) (S : PF → Nms → Led → Prop) (k : Nat) : PF → Nms → Led → Prop
  | .next, m, n => ∃ k', k' < k ∧ ∃ m', Le m' m ∧ I k' m' n
  | .cont, m, n => ∃ k', k' < k ∧ ∃ m', Le m' m ∧ I k' m' n
  | .brk, m, n => S .next m n
  | .ret v, m, n => S (.ret v) m n
theorem Ex1.while_ {test : Expr} {body : List Stmt} {p : Pos} (I : Nat → Nms → Led → Prop) (k : Nat) (start : I k m n)
    (turn : ∀ k m n, I k m n → Tst sc d u w m n test fun b n1 => Two b (Ex sc d u w m n1 body (KTurn I S k)) (S .next m n1)) : Ex1 sc d u w m n (.While test body [] p) S := by
  refine ExT.noE fun c hc s Q A q => ?_
  suffices H : ∀ (K k : Nat), k ≤ K → ∀ (m : Nms) (n : Led) (s1 : Shared), (∃ h t, s1 = { s with heap := h, toks := t }) → I k m n → At c m n s1.heap → WhlRest PG w (c.A sc) (fun _ _ => False) (c.env sc) test body [] Q (K + 1) s1 from
    whl_start (k + 1) (H k k (Nat.le_refl k) m n s ⟨s.heap, s.toks, rfl⟩ start A)
  intro K
  induction K with
  | zero =>
    intro k hk m n s1 hs hI A
    obtain ⟨h0, t0, rfl⟩ := hs
    refine whl_turn PassesOwn.never (turn k m n hI c hc _ _ _ A fun b b' n1 h1 t1 e r A1 => ?_)
    obtain rfl := e
    cases b with
    | false => exact WhlIf.no rfl (wpAny_execs_nil (q .next .next m n1 h1 t1 trivial (r.2 rfl) A1))
    | true =>
      refine WhlIf.yes rfl (r.1 rfl c hc _ _ _ A1 fun f pf m2 n2 h2 t2 i2 r2 A2 => ?_)
      cases f with
      | next => cases pf <;> first | exact i2.elim | exact absurd r2 (fun ⟨k', h, _⟩ => by omega)
      | cont => cases pf <;> first | exact i2.elim | exact absurd r2 (fun ⟨k', h, _⟩ => by omega)
      | brk => cases pf <;> first | exact i2.elim | exact q .next .next m2 n2 h2 t2 trivial r2 A2
      | ret v => cases pf <;> first | exact i2.elim | exact q (.ret v) _ m2 n2 h2 t2 i2 r2 A2
  | succ K ih =>
    intro k hk m n s1 hs hI A
    obtain ⟨h0, t0, rfl⟩ := hs
    refine whl_turn PassesOwn.never (turn k m n hI c hc _ _ _ A fun b b' n1 h1 t1 e r A1 => ?_)
    obtain rfl := e
    cases b with
    | false => exact WhlIf.no rfl (wpAny_execs_nil (q .next .next m n1 h1 t1 trivial (r.2 rfl) A1))
    | true =>
      refine WhlIf.yes rfl (r.1 rfl c hc _ _ _ A1 fun f pf m2 n2 h2 t2 i2 r2 A2 => ?_)
      cases f with
      | next =>
        cases pf <;> first | exact i2.elim | skip
        obtain ⟨k', h, m', l, hI'⟩ := r2
        exact ih k' (by omega) m' n2 _ ⟨h2, t2, rfl⟩ hI' (A2.weak l)
      | cont =>
        cases pf <;> first | exact i2.elim | skip
        obtain ⟨k', h, m', l, hI'⟩ := r2
        exact ih k' (by omega) m' n2 _ ⟨h2, t2, rfl⟩ hI' (A2.weak l)
      | brk => cases pf <;> first | exact i2.elim | exact q .next .next m2 n2 h2 t2 trivial r2 A2
      | ret v => cases pf <;> first | exact i2.elim | exact q (.ret v) _ m2 n2 h2 t2 i2 r2 A2
end
section
variable {sc : Sc} {d u : Nat} {w : World} {m : Nms} {n : Led} {R : PV → Led → Prop} {S : PF → Nms → Led → Prop}
abbrev KBi (sc : Sc) (d u : Nat) (w : World) (m : Nms) (id : String) (R : PV → Led → Prop) (pvs : List PV) (n : Led) : Prop := Op sc d u w m n pvs (fun vs => call (.builtin id) vs) R
theorem Ev.bi {fx : Str} {id : String} {fp p : Pos} {e : Expr} {es : List Expr} (h1 : nsIn (Mine.hd.heap_1 w.params) mainGlobals fx = some Option.none) (h2 : bootBuiltins fx = some (.builtin id)) (h3 : fx ≠ Str.ofString "__name__") (h : Evs sc d u w m n p (e :: es) (KBi sc d u w m id R))
    (hx : autoParam (∀ c : Fc w, (c.env sc).kindOf fx = some .globalImplicit) aY) (hd : autoParam ((fx == Str.ofString "__debug__") = false) aW)
    (e1 : autoParam (CallEq fx fp p e es) aY)
    (e2 : autoParam (StarEq e es) aY) (e3 : autoParam (NoStar p es) aY) :
    Ev sc d u w m n (.Call (.Name fx fp) (e :: es) [] p) R := by
  intro c hc s Q E A q
  k_extra "oa"
  refine Call_ (nameX_B F hc.X (topRead_of hc.T) h1 h2 h3 ?_ hc.hk (hx c) hd) (e1 _)
  exact PyProof.Rows.callWith_builtin1 (h c hc s _ E ⟨m', hm', F, N⟩ fun vs pvs n1 h1 t1 i1 r1 A1 => r1 vs i1 c hc _ Q E A1 q) (e2 _) (e3 _)
theorem Op.lenS {x : Str} (hx : x.length < 1000) (h : R (.int (x.length : Int)) n) : Op sc d u w m n [.str x] (fun vs => call (.builtin "len") vs) R := by
  intro vs hv c hc s Q E A q
  obtain ⟨v1, rfl, i1⟩ := all2_1 hv
  obtain ⟨t1, rfl⟩ := i1.str
  exact PyProof.Rows.len_str (by omega) (q _ (.int (x.length : Int)) n s.heap _ rfl h A)
noncomputable def inStr (y x : Str) : Bool := !(Builtin.Str.occurrences x y 0 x.length 1).isEmpty
theorem Op.inS {x y : Str} (h : R (.bool (inStr y x)) n) : Op sc d u w m n [.str y, .str x] (cmT .In) R := by
  intro vs hv c hc s Q E A q
  k_extra "v"
  obtain ⟨t1, rfl⟩ := i1.str
  obtain ⟨t2, rfl⟩ := i2.str
  exact PyProof.Rows.in_str (q _ (.bool (inStr y x)) n s.heap s.toks rfl h A)
theorem Op.addI {a b : Int} (h : R (.int (a + b)) n) : Op sc d u w m n [.int a, .int b] (bnT .Add) R := by
  intro vs hv c hc s Q E A q
  k_extra "v"
  obtain ⟨t1, rfl⟩ := i1.int
  obtain ⟨t2, rfl⟩ := i2.int
  show wpAny _ _ (binaryOp .Add (.int _ _) (.int _ _)) _ _ _
  with_reducible refine PyProof.Rows.add_int ?_
  exact q _ (.int (a + b)) n s.heap _ rfl h A
theorem Op.addS {a b : Str} (hl : a.length + b.length < 10000) (h : R (.str (a ++ b)) n) : Op sc d u w m n [.str a, .str b] (bnT .Add) R := by
  intro vs hv c hc s Q E A q
  k_extra "v"
  obtain ⟨t1, rfl⟩ := i1.str
  obtain ⟨t2, rfl⟩ := i2.str
  exact PyProof.Rows.add_str (fun t' tk => q _ (.str (a ++ b)) n s.heap _ rfl h A) (by rw [sizeLine_eq]; omega)
theorem Op.gtI {a b : Int} (h : R (.bool (decide (b < a))) n) : Op sc d u w m n [.int a, .int b] (cmT .Gt) R := by
  intro vs hv c hc s Q E A q
  k_extra "v"
  obtain ⟨t1, rfl⟩ := i1.int
  obtain ⟨t2, rfl⟩ := i2.int
  show wpAny _ _ (compareOp .Gt (.int _ _) (.int _ _)) _ _ _
  with_reducible refine PyProof.Rows.gt_int ?_
  exact q _ (.bool (decide (b < a))) n s.heap s.toks rfl h A
theorem Op.geI {a b : Int} (h : R (.bool (decide (b ≤ a))) n) : Op sc d u w m n [.int a, .int b] (cmT .GtE) R := by
  intro vs hv c hc s Q E A q
  k_extra "v"
  obtain ⟨t1, rfl⟩ := i1.int
  obtain ⟨t2, rfl⟩ := i2.int
  show wpAny _ _ (compareOp .GtE (.int _ _) (.int _ _)) _ _ _
  with_reducible refine PyProof.Rows.ge_int ?_
  exact q _ (.bool (decide (b ≤ a))) n s.heap s.toks rfl h A
theorem Op.leI {a b : Int} (h : R (.bool (decide (a ≤ b))) n) : Op sc d u w m n [.int a, .int b] (cmT .LtE) R := by
  intro vs hv c hc s Q E A q
  k_extra "v"
  obtain ⟨t1, rfl⟩ := i1.int
  obtain ⟨t2, rfl⟩ := i2.int
  show wpAny _ _ (compareOp .LtE (.int _ _) (.int _ _)) _ _ _
  with_reducible refine PyProof.Rows.le_int ?_
  exact q _ (.bool (decide (a ≤ b))) n s.heap s.toks rfl h A
theorem Op.neI {a b : Int} (h : R (.bool (a != b)) n) : Op sc d u w m n [.int a, .int b] (cmT .NotEq) R := by
  intro vs hv c hc s Q E A q
  k_extra "v"
  obtain ⟨t1, rfl⟩ := i1.int
  obtain ⟨t2, rfl⟩ := i2.int
  show wpAny _ _ (compareOp .NotEq (.int _ _) (.int _ _)) _ _ _
  with_reducible refine PyProof.Rows.ne_int ?_
  exact q _ (.bool (a != b)) n s.heap s.toks rfl h A
theorem Op.powI {a k : Int} (h0 : 0 ≤ k) (h1 : k ≤ 1000000) (ha : a.natAbs < 2 ^ 64) (h : R (.int (a ^ k.toNat)) n) : Op sc d u w m n [.int a, .int k] (bnT .Pow) R := by
  intro vs hv c hc s Q E A q
  k_extra "v"
  obtain ⟨t1, rfl⟩ := i1.int
  obtain ⟨t2, rfl⟩ := i2.int
  exact PyProof.Rows.pow_int_small h0 h1 ha (q _ (.int (a ^ k.toNat)) n s.heap _ rfl h A)
theorem Op.strItem {a b : Expr} {x : Str} {i : Int} (h0 : 0 ≤ i) (h1 : i < x.length) (hx : x.length < 1000) (h : R (.str (Txt.item x i)) n) (hs : autoParam (∀ (t u : Tok), subscripted b false (.str x t) (.int i u) = operate [.str x t, .int i u] (getItem (.str x t) (.int i u))) aZ)
    (ht : autoParam (∀ (t : Tok) (r : Value), letTemporaryGo a (.str x t) r = pure ()) aZ) : Op sc d u w m n [.str x, .int i] (sbT a b) R := by
  intro vs hv c hc s Q E A q
  k_extra "v"
  obtain ⟨t1, rfl⟩ := i1.str
  obtain ⟨t2, rfl⟩ := i2.int
  exact PyProof.Rows.item_str (fitsSsize_of (N := 1000) (by omega) (by omega) (by decide)) (by omega) h1 (fun _ => q _ (.str (Txt.item x i)) n s.heap _ rfl h A) (hs t1 t2) (ht t1)
abbrev SlOk (b : Expr) : Prop := ∀ (x : Str) (t : Tok) (D : Addr), subscripted b false (.str x t) (.ref D) = operate [.ref D, .str x t] (getItem (.str x t) (.ref D))
theorem Ev.cutSS {a l r : Expr} {p p' : Pos} (h : Ev sc d u w m n a fun va n1 => Ev sc d u w m n1 l fun vl n2 => Ev sc d u w m n2 r fun vr n3 => ∃ x i j, va = .str x ∧ vl = .int i ∧ vr = .int j ∧ x.length < 1000 ∧ R (.str (Txt.slice x (some i) (some j))) n3)
    (hs : autoParam (SlOk (.Slice (some l) (some r) Option.none p')) aI) (ht : autoParam (∀ (x : Str) (t : Tok) (v : Value), letTemporaryGo a (.str x t) v = pure ()) aI) : Ev sc d u w m n (.Subscript a (.Slice (some l) (some r) Option.none p') p) R := by
  intro c hc s Q E A q
  refine Subscript_ (h c hc s _ E A fun v1 p1 n1 h1 t1 i1 r1 A1 => ?_)
  refine wpAny_Slice (evalPart_some_step (r1 c hc _ _ E A1 fun v2 p2 n2 h2 t2 i2 r2 A2 => ?_))
  refine evalPart_some_step (r2 c hc _ _ E A2 fun v3 p3 n3 h3 t3 i3 r3 A3 => ?_)
  refine evalPart_none_step ?_
  obtain ⟨x, i, j, rfl, rfl, rfl, hx, r4⟩ := r3
  obtain ⟨k1, rfl⟩ := i1.str
  obtain ⟨k2, rfl⟩ := i2.int
  obtain ⟨k3, rfl⟩ := i3.int
  obtain ⟨m', hm', F, N⟩ := A3
  exact PyProof.Rows.slice_strN_ss (s := { s with heap := h3, toks := t3 }) F N (fun h' t' k F' N' => q _ (.str (Txt.slice x (some i) (some j))) n3 h' k rfl r4 ⟨m', hm', F', N'⟩) (hs _ _ _) (ht _ _) (by rw [sizeLine_eq]; omega)
theorem Ev.cutSN {a l : Expr} {p p' : Pos} (h : Ev sc d u w m n a fun va n1 => Ev sc d u w m n1 l fun vl n2 => ∃ x i, va = .str x ∧ vl = .int i ∧ x.length < 1000 ∧ R (.str (Txt.slice x (some i) Option.none)) n2)
    (hs : autoParam (SlOk (.Slice (some l) Option.none Option.none p')) aI) (ht : autoParam (∀ (x : Str) (t : Tok) (v : Value), letTemporaryGo a (.str x t) v = pure ()) aI) : Ev sc d u w m n (.Subscript a (.Slice (some l) Option.none Option.none p') p) R := by
  intro c hc s Q E A q
  refine Subscript_ (h c hc s _ E A fun v1 p1 n1 h1 t1 i1 r1 A1 => ?_)
  refine wpAny_Slice (evalPart_some_step (r1 c hc _ _ E A1 fun v2 p2 n2 h2 t2 i2 r2 A2 => ?_))
  refine evalPart_none_step (evalPart_none_step ?_)
  obtain ⟨x, i, rfl, rfl, hx, r4⟩ := r2
  obtain ⟨k1, rfl⟩ := i1.str
  obtain ⟨k2, rfl⟩ := i2.int
  obtain ⟨m', hm', F, N⟩ := A2
  exact PyProof.Rows.slice_strN_sn (s := { s with heap := h2, toks := t2 }) F N (fun h' t' k F' N' => q _ (.str (Txt.slice x (some i) Option.none)) n2 h' k rfl r4 ⟨m', hm', F', N'⟩) (hs _ _ _) (ht _ _) (by rw [sizeLine_eq]; omega)
theorem Ev.cutNS {a r : Expr} {p p' : Pos} (h : Ev sc d u w m n a fun va n1 => Ev sc d u w m n1 r fun vr n2 => ∃ x j, va = .str x ∧ vr = .int j ∧ x.length < 1000 ∧ R (.str (Txt.slice x Option.none (some j))) n2)
    (hs : autoParam (SlOk (.Slice Option.none (some r) Option.none p')) aI) (ht : autoParam (∀ (x : Str) (t : Tok) (v : Value), letTemporaryGo a (.str x t) v = pure ()) aI) : Ev sc d u w m n (.Subscript a (.Slice Option.none (some r) Option.none p') p) R := by
  intro c hc s Q E A q
  refine Subscript_ (h c hc s _ E A fun v1 p1 n1 h1 t1 i1 r1 A1 => ?_)
  refine wpAny_Slice (evalPart_none_step ?_)
  refine evalPart_some_step (r1 c hc _ _ E A1 fun v2 p2 n2 h2 t2 i2 r2 A2 => ?_)
  refine evalPart_none_step ?_
  obtain ⟨x, j, rfl, rfl, hx, r4⟩ := r2
  obtain ⟨k1, rfl⟩ := i1.str
  obtain ⟨k2, rfl⟩ := i2.int
  obtain ⟨m', hm', F, N⟩ := A2
  exact PyProof.Rows.slice_strN_ns (s := { s with heap := h2, toks := t2 }) F N (fun h' t' k F' N' => q _ (.str (Txt.slice x Option.none (some j))) n2 h' k rfl r4 ⟨m', hm', F', N'⟩) (hs _ _ _) (ht _ _) (by rw [sizeLine_eq]; omega)
theorem Tst.and2 {a b : Expr} {p : Pos} {B : Bool → Led → Prop} (h : Tst sc d u w m n a fun c n1 => Two c (Tst sc d u w m n1 b B) (B false n1)) : Tst sc d u w m n (.BoolOp .And [a, b] p) B := by
  intro c hc s Q E A q
  refine wpAny_isTrue_BoolOp (wpAny_allTrue_And_cons (h c hc s _ E A fun v pv n1 h1 t1 i1 r1 A1 => ?_))
  obtain rfl := i1
  cases v
  · exact q false false n1 h1 t1 rfl (r1.2 rfl) A1
  · refine wpAny_allTrue_And_cons (r1.1 rfl c hc _ _ E A1 fun v pv n2 h2 t2 i2 r2 A2 => ?_)
    obtain rfl := i2
    cases v
    · exact q false false n2 h2 t2 rfl r2 A2
    · exact wpAny_allTrue_And_nil (q true true n2 h2 t2 rfl r2 A2)
theorem Tst.or2 {a b : Expr} {p : Pos} {B : Bool → Led → Prop} (h : Tst sc d u w m n a fun c n1 => Two c (B true n1) (Tst sc d u w m n1 b B)) : Tst sc d u w m n (.BoolOp .Or [a, b] p) B := by
  intro c hc s Q E A q
  refine wpAny_isTrue_BoolOp (wpAny_allTrue_Or_cons (h c hc s _ E A fun v pv n1 h1 t1 i1 r1 A1 => ?_))
  obtain rfl := i1
  cases v
  · refine wpAny_allTrue_Or_cons (r1.2 rfl c hc _ _ E A1 fun v pv n2 h2 t2 i2 r2 A2 => ?_)
    obtain rfl := i2
    cases v
    · exact wpAny_allTrue_Or_nil (q false false n2 h2 t2 rfl r2 A2)
    · exact q true true n2 h2 t2 rfl r2 A2
  · exact q true true n1 h1 t1 rfl (r1.1 rfl) A1
theorem Tst.not {a : Expr} {p : Pos} {B : Bool → Led → Prop} (h : Tst sc d u w m n a fun c n1 => B (!c) n1) : Tst sc d u w m n (.UnaryOp .Not a p) B := by
  intro c hc s Q E A q
  refine wpAny_isTrue_Not (h c hc s _ E A fun v pv n1 h1 t1 i1 r1 A1 => ?_)
  obtain rfl := i1
  exact q _ _ n1 h1 t1 rfl r1 A1
theorem Tst.val {e : Expr} {B : Bool → Led → Prop} (h : Ev sc d u w m n e (KBool B)) (he : autoParam (∀ env whole, isTrue e env whole = (do let v ← whole; standAt e.pos; holding [v] (truthy v))) aZ) : Tst sc d u w m n e B := by
  intro c hc s Q E A q
  refine wpAny_isTrue_value (h c hc s _ E A fun v pv n1 h1 t1 i1 r1 A1 => ?_) (he _ _)
  obtain ⟨b, rfl, r2⟩ := r1
  obtain rfl := i1.bool
  exact wpAny_truthy_bool (q b b n1 h1 t1 rfl r2 A1)
theorem Ev.and2 {a b : Expr} {p : Pos} (h : Ev sc d u w m n a fun va n1 => ∃ c, va = .bool c ∧ Two c (Ev sc d u w m n1 b R) (R (.bool false) n1)) : Ev sc d u w m n (.BoolOp .And [a, b] p) R := by
  intro c hc s Q E A q
  refine BoolOp_and (h c hc s _ E A fun v pv n1 h1 t1 i1 r1 A1 => ?_)
  obtain ⟨b0, rfl, r2⟩ := r1
  obtain rfl := i1.bool
  refine wpAny_truthy_bool ?_
  cases b0
  · exact q (.bool false) (.bool false) n1 h1 t1 rfl (r2.2 rfl) A1
  · exact BoolOp_one (r2.1 rfl c hc _ Q E A1 q)
end
theorem filled_xq5 {w : World} : PySem.Challenge.rw_xm0694_01 = PySem.Challenge.rw_xm0694_01 → ∀ h, (Mine.hd.heap_1 w.params).In h → True := by
  k_fill; exact fun _ _ _ => trivial
section
variable {sc : Sc} {d u : Nat} {w : World} {m : Nms} {n n0 : Led} {R : PV → Led → Prop} {S : PF → Nms → Led → Prop} {Rd dR : Addr} {x : Str} {i : Int}
theorem num_at {o : Str} {p1 p2 : Pos} (hR : RdL w n n0 Rd dR x i) (hm : m.lookup o = some (.ref Rd)) (h : R (.int i) n) (hx : autoParam (∀ c : Fc w, (c.env sc).kindOf o = some .local) aY) (hd : autoParam ((o == Str.ofString "__debug__") = false) aW) :
    Ev sc d u w m n (.Attribute (.Name o p1) (Str.ofString "at") p2) R := by
  obtain ⟨⟨tx, ti, t1, t2, rfl⟩, _⟩ := hR
  exact Ev.attr hm (.head _) (.tail _ (.head _)) (by k_is) (by k_is) (by k_is) (by k_is) (v := .int i ti) (pv := .int i) rfl rfl rfl h hx hd
theorem num_text {o : Str} {p1 p2 : Pos} (hR : RdL w n n0 Rd dR x i) (hm : m.lookup o = some (.ref Rd)) (h : R (.str x) n) (hx : autoParam (∀ c : Fc w, (c.env sc).kindOf o = some .local) aY) (hd : autoParam ((o == Str.ofString "__debug__") = false) aW) :
    Ev sc d u w m n (.Attribute (.Name o p1) (Str.ofString "text") p2) R := by
  obtain ⟨⟨tx, ti, t1, t2, rfl⟩, _⟩ := hR
  exact Ev.attr hm (.head _) (.tail _ (.head _)) (by k_is) (by k_is) (by k_is) (by k_is) (v := .str x tx) (pv := .str x) rfl rfl rfl h hx hd
theorem num_step {o : Str} {p1 p2 p3 p : Pos} {k : Nat} (hR : RdL w n n0 Rd dR x i) (hm : m.lookup o = some (.ref Rd)) (h : ∀ n', RdL w n' n0 Rd dR x (i + 1) → S .next m n') (hx : autoParam (∀ c : Fc w, (c.env sc).kindOf o = some .local) aY) (hd : autoParam ((o == Str.ofString "__debug__") = false) aW) :
    Ex1 sc d u w m n (.AugAssign (.Attribute (.Name o p1) (Str.ofString "at") p2) .Add (.Constant (.int 1) k p3) p) S := by
  obtain ⟨⟨tx, ti, t1, t2, rfl⟩, hne, hn0⟩ := hR
  intro c hc s Q E A q
  k_extra "oa"
  obtain ⟨v', hv, hp'⟩ := hm' o _ hm
  obtain rfl := hp'.ref
  have I := InstAt.of_news (x := Rd) (C := 190) (dx := dR) N (.head _) (.tail _ (.head _))
  refine wpAny_AugAssign_AttributeAny (nameX_L F hv ?_ hc.hk (hx c) hd)
  refine get_own F hc.X I (by k_is) (by k_is) (by k_is) (by k_is) (v := .int i ti) rfl rfl ?_
  refine wpAny_Constant_int ?_
  refine PyProof.Rows.iadd_int ?_
  refine set_dict (K := Mine.hd.heap_1 w.params) F hc.X N I rfl (by k_is) (by k_is) (by k_is) (by k_is) rfl rfl (.tail hne (.head hn0)) (Nat.le_of_ble_eq_true rfl) ?_
  intro h' F' N'
  exact q .next .next m _ h' _ trivial (h _ ⟨⟨_, _, _, _, rfl⟩, hne, hn0⟩) ⟨m', hm', F', N'⟩
end
section
variable {sc : Sc} {d u : Nat} {w : World} {m : Nms} {n n0 : Led} {R : PV → Led → Prop} {S : PF → Nms → Led → Prop} {Rd dR : Addr} {x : Str} {i : Int}
theorem len_c {fp p : Pos} {e : Expr} {es : List Expr} (h : Evs sc d u w m n p (e :: es) (KBi sc d u w m "len" R))
    (hx : autoParam (∀ c : Fc w, (c.env sc).kindOf (Str.ofString "len") = some .globalImplicit) aY)
    (e1 : autoParam (CallEq (Str.ofString "len") fp p e es) aY)
    (e2 : autoParam (StarEq e es) aY) (e3 : autoParam (NoStar p es) aY) : Ev sc d u w m n (.Call (.Name (Str.ofString "len") fp) (e :: es) [] p) R :=
  Ev.bi (by k_is) (by rfl) (by decide +kernel) h hx (by k_extra "w") e1 e2 e3
theorem num_is {pl : Fc w → Sem Bool} {o : Str} {xp ap p : Pos} {e : Expr} {es : List Expr} {d' u' : Nat} (hR : RdL w n n0 Rd dR x i) (hm : m.lookup o = some (.ref Rd)) (hd' : d' ≤ d) (hu' : u' ≤ u)
    (h : Evs sc d u w m n p (e :: es) fun pvs n1 => PCl d' u' 173 w (.ref Rd :: pvs) n1 R)
    (hx : autoParam (∀ c : Fc w, (c.env sc).kindOf o = some .local) aY) (hd : autoParam ((o == Str.ofString "__debug__") = false) aW)
    (e1 : autoParam (∀ c : Fc w, eval (.Call (.Attribute (.Name o xp) (Str.ofString "is_one_of") ap) (e :: es) [] p) (c.env sc) = (do
      let ov ← eval (.Name o xp) (c.env sc)
      standAt ap.atName
      let (f, first) ← holding [ov] (getMethod ov (Str.ofString "is_one_of") (pl c))
      callWith p f first (backTo p (starEach (e :: es) (c.env sc))) (backToKw p (keywordEach [] (c.env sc))))) aY)
    (e2 : autoParam (StarEq e es) aY) (e3 : autoParam (NoStar p es) aY)
    : Ev sc d u w m n (.Call (.Attribute (.Name o xp) (Str.ofString "is_one_of") ap) (e :: es) [] p) R := by
  obtain ⟨⟨tx, ti, t1, t2, rfl⟩, _⟩ := hR
  exact Ev.meth hm (.head _) (.tail _ (.head _)) (by k_is) (by k_is) (by k_is) rfl (by k_is) h hd' hu' hx hd e1 e2 e3
theorem num_skip {pl : Fc w → Sem Bool} {o : Str} {xp ap p : Pos} {e : Expr} {es : List Expr} {d' u' : Nat} (hR : RdL w n n0 Rd dR x i) (hm : m.lookup o = some (.ref Rd)) (hd' : d' ≤ d) (hu' : u' ≤ u)
    (h : Evs sc d u w m n p (e :: es) fun pvs n1 => PCl d' u' 180 w (.ref Rd :: pvs) n1 R)
    (hx : autoParam (∀ c : Fc w, (c.env sc).kindOf o = some .local) aY) (hd : autoParam ((o == Str.ofString "__debug__") = false) aW)
    (e1 : autoParam (∀ c : Fc w, eval (.Call (.Attribute (.Name o xp) (Str.ofString "skip") ap) (e :: es) [] p) (c.env sc) = (do
      let ov ← eval (.Name o xp) (c.env sc)
      standAt ap.atName
      let (f, first) ← holding [ov] (getMethod ov (Str.ofString "skip") (pl c))
      callWith p f first (backTo p (starEach (e :: es) (c.env sc))) (backToKw p (keywordEach [] (c.env sc))))) aY)
    (e2 : autoParam (StarEq e es) aY) (e3 : autoParam (NoStar p es) aY)
    : Ev sc d u w m n (.Call (.Attribute (.Name o xp) (Str.ofString "skip") ap) (e :: es) [] p) R := by
  obtain ⟨⟨tx, ti, t1, t2, rfl⟩, _⟩ := hR
  exact Ev.meth hm (.head _) (.tail _ (.head _)) (by k_is) (by k_is) (by k_is) rfl (by k_is) h hd' hu' hx hd e1 e2 e3
theorem num_dig {pl : Fc w → Sem Bool} {o : Str} {xp ap p : Pos} {d' u' : Nat} (hR : RdL w n n0 Rd dR x i) (hm : m.lookup o = some (.ref Rd)) (hd' : d' ≤ d) (hu' : u' ≤ u)
    (h : PCl d' u' 187 w [.ref Rd] n R)
    (hx : autoParam (∀ c : Fc w, (c.env sc).kindOf o = some .local) aY) (hd : autoParam ((o == Str.ofString "__debug__") = false) aW)
    (e1 : autoParam (∀ c : Fc w, eval (.Call (.Attribute (.Name o xp) (Str.ofString "digits") ap) [] [] p) (c.env sc) = (do
      let ov ← eval (.Name o xp) (c.env sc)
      standAt ap.atName
      let (f, first) ← holding [ov] (getMethod ov (Str.ofString "digits") (pl c))
      callWith p f first (backTo p (starEach [] (c.env sc))) (backToKw p (keywordEach [] (c.env sc))))) aY)
    : Ev sc d u w m n (.Call (.Attribute (.Name o xp) (Str.ofString "digits") ap) [] [] p) R := by
  obtain ⟨⟨tx, ti, t1, t2, rfl⟩, _⟩ := hR
  exact Ev.meth0 hm (.head _) (.tail _ (.head _)) (by k_is) (by k_is) (by k_is) rfl (by k_is) h hd' hu' hx hd e1
noncomputable def isOne (x : Str) (i : Int) (sg : Str) : Bool := decide (i < x.length) && inStr (Txt.item x i) sg
theorem isOne_t {sg : Str} (h1 : decide (i < (x.length : Int)) = true) : isOne x i sg = inStr (Txt.item x i) sg := by unfold isOne; rw [h1]; rfl
theorem isOne_f {sg : Str} (h1 : decide (i < (x.length : Int)) = false) : isOne x i sg = false := by unfold isOne; rw [h1]; rfl
theorem is_spec {sg : Str} (hR : RdL w n n0 Rd dR x i) (h0 : 0 ≤ i) (hx : x.length < 1000) (k : R (.bool (isOne x i sg)) n) : PCl 10 80 173 w [.ref Rd, .str sg] n R := by
  refine PCl.enter (d' := 5) (u' := 40) (by k_is) (by k_is) (hb2 (x1 := Str.ofString "self") (x2 := Str.ofString "signs") (fun _ _ _ => BindsTo.of_eq rfl) (by decide +kernel)) ?_ (by decide) (by decide)
  repeat (k_extra "ev0")
  refine ⟨fun h9 => ?_, fun h9 => ?_⟩
  · repeat (k_extra "ev0")
    refine Op.strItem h0 (of_decide_eq_true h9) hx ?_
    repeat (k_extra "ev0")
    show R (.bool _) _
    rw [← isOne_t h9]
    exact k
  · repeat (k_extra "ev0")
    show R (.bool false) _
    rw [← isOne_f (sg := sg) h9]
    exact k
noncomputable def skipP (x : Str) (i : Int) (sg : Str) : Str × Int := if isOne x i sg = true then (Txt.item x i, i + 1) else (Str.ofString "", i)
theorem skip_spec {sg : Str} (hR : RdL w n n0 Rd dR x i) (h0 : 0 ≤ i) (hx : x.length < 1000) (k : ∀ n', RdL w n' n0 Rd dR x (skipP x i sg).2 → R (.str (skipP x i sg).1) n') : PCl 30 160 180 w [.ref Rd, .str sg] n R := by
  (k_with "v24" => with_reducible first | (refine num_is (d' := 10) (u' := 80) (by assumption) (by k_extra "w") (by decide) (by decide) ?_) | (refine num_step (by assumption) (by k_extra "w") ?_; intro n9 r9) | (refine Tst.val ?_) | k_extra "ev0")
  refine PCl.enter (d' := 20) (u' := 120) (by k_is) (by k_is) (hb2 (x1 := Str.ofString "self") (x2 := Str.ofString "signs") (fun _ _ _ => BindsTo.of_eq rfl) (by decide +kernel)) ?_ (by decide) (by decide)
  repeat (k_extra "v24")
  refine is_spec hR h0 hx ?_
  repeat (k_extra "v24")
  cases h9 : isOne x i sg with
  | false =>
    repeat (k_extra "v24")
    show R (.str (Str.ofString "")) _
    have e : skipP x i sg = (Str.ofString "", i) := by unfold skipP; rw [h9]; rfl
    rw [e] at k
    exact k n hR
  | true =>
    have e : skipP x i sg = (Txt.item x i, i + 1) := by unfold skipP; rw [h9]; rfl
    rw [e] at k
    have hlt : i < x.length := of_decide_eq_true (Bool.and_eq_true_iff.mp h9).1
    repeat (k_extra "v24")
    refine Op.strItem (by omega) (by omega) hx ?_
    repeat (k_extra "v24")
    show R (.str (Txt.item x (i + 1 - 1))) _
    rw [Int.add_sub_cancel]
    exact k n9 r9
end
section
variable {sc : Sc} {d u : Nat} {w : World} {m : Nms} {n n0 : Led} {R : PV → Led → Prop} {S : PF → Nms → Led → Prop} {Rd dR : Addr} {x : Str} {i : Int}
theorem Le.refl (m : Nms) : Le m m := fun _ _ h => h
noncomputable abbrev DIG : Str := Str.ofString "0123456789"
theorem Ev.topI {y : Str} {p : Pos} {v : Value} {pv : PV} (hv : nsIn (Mine.hd.heap_1 w.params) mainGlobals y = some (some v)) (hp : PvIs v pv) (h : R pv n) (hx : autoParam (∀ c : Fc w, (c.env sc).kindOf y = some .globalImplicit) aY) (hd : autoParam ((y == Str.ofString "__debug__") = false) aW) : Ev sc d u w m n (.Name y p) R := by
  intro c hc s Q E A q
  k_extra "oa"
  exact nameX_K F hc.X (topRead_of hc.T) hv (q v pv n s.heap s.toks hp h ⟨m', hm', F, N⟩) hc.hk (hx c) hd
theorem top_digits {p : Pos} (h : R (.str DIG) n) (hx : autoParam (∀ c : Fc w, (c.env sc).kindOf (Str.ofString "DIGITS") = some .globalImplicit) aY) : Ev sc d u w m n (.Name (Str.ofString "DIGITS") p) R :=
  Ev.topI (v := .str DIG 275) (by k_is) (pv := .str DIG) rfl h hx (by k_extra "w")
noncomputable def digP (x : Str) (i : Int) : Str × Int := if isOne x i DIG = true then (Txt.slice x (some i) (some (i + 1)), i + 1) else (Txt.slice x (some i) (some i), i)
theorem dig_spec (hR : RdL w n n0 Rd dR x i) (h0 : 0 ≤ i) (hx : x.length < 1000) (hrun : isOne x i DIG = true → isOne x (i + 1) DIG = false) (k : ∀ n', RdL w n' n0 Rd dR x (digP x i).2 → R (.str (digP x i).1) n') : PCl 30 160 187 w [.ref Rd] n R := by
  (k_with "v25" => with_reducible first | (refine top_digits ?_) | (refine num_is (d' := 10) (u' := 80) (by assumption) (by k_extra "w") (by decide) (by decide) ?_) | (refine num_step (by assumption) (by k_extra "w") ?_; intro n9 r9) | (refine Tst.val ?_) | k_extra "ev0")
  refine PCl.enter (d' := 20) (u' := 120) (by k_is) (by k_is) (hb1 (x1 := Str.ofString "self") (fun _ _ => BindsTo.of_eq rfl) (by decide +kernel)) ?_ (by decide) (by decide)
  repeat (k_extra "v25")
  refine Ex1.while_ (fun k m n => m = [(Str.ofString "begin", .int i), (Str.ofString "self", .ref Rd)] ∧ ((k = 1 ∧ RdL w n n0 Rd dR x i) ∨ (k = 0 ∧ isOne x i DIG = true ∧ RdL w n n0 Rd dR x (i + 1)))) 1 ⟨rfl, .inl ⟨rfl, hR⟩⟩ ?_
  rintro k9 m9 n9 ⟨rfl, ⟨rfl, hR9⟩ | ⟨rfl, h9, hR9⟩⟩
  · repeat (k_extra "v25")
    refine is_spec hR9 h0 hx ?_
    repeat (k_extra "v25")
    cases h9 : isOne x i DIG with
    | false =>
      have e : digP x i = (Txt.slice x (some i) (some i), i) := by unfold digP; rw [h9]; rfl
      rw [e] at k
      repeat (k_extra "v25")
      refine ⟨_, _, _, rfl, rfl, rfl, hx, ?_⟩
      exact k n9 hR9
    | true =>
      repeat (k_extra "v25")
      exact ⟨0, by decide, _, Le.refl _, rfl, .inr ⟨rfl, rfl, by assumption⟩⟩
  · have e : digP x i = (Txt.slice x (some i) (some (i + 1)), i + 1) := by unfold digP; rw [h9]; rfl
    rw [e] at k
    have h8 := hrun h9
    repeat (k_extra "v25")
    refine is_spec hR9 (by omega) hx ?_
    repeat (k_extra "v25")
    refine ⟨_, _, _, rfl, rfl, rfl, hx, ?_⟩
    exact k n9 hR9
end
section
variable {sc : Sc} {d u : Nat} {w : World} {m : Nms} {n n0 : Led} {R : PV → Led → Prop} {S : PF → Nms → Led → Prop}
noncomputable abbrev signs (y : Str) : List Str := y.cps.toList.map fun c => (⟨#[c]⟩ : Str)
theorem Ex1.forStr {x : Str} {px p : Pos} {iter : Expr} {body : List Stmt} (I : Nat → Nms → Prop)
    (h : Ev sc d u w m n iter fun pv n1 => ∃ y, pv = .str y ∧ I 0 m ∧ (∀ i c m1 n2, (signs y)[i]? = some c → I i m1 → Ex sc d u w ((x, .str c) :: m1) n2 body fun pf m2 n3 => pf = .next ∧ n3 = n2 ∧ ∃ m3, Le m3 m2 ∧ I (i + 1) m3) ∧ (∀ m1, I (signs y).length m1 → S .next m1 n1))
    (hx : autoParam (∀ c : Fc w, (c.env sc).kindOf x = some .local) aY) (hs : autoParam (∀ env v, foldedSetIterable iter env v = pure v) aZ) : Ex1 sc d u w m n (.For (.Name x px) iter body [] p) S := by
  refine ExT.noE fun c hc s Q A q => ?_
  have A0 := A
  obtain ⟨m0, hm0, F0, N0⟩ := A0
  refine For_invVF (h₀ := c.g) F0 (hx c) (by show (sc.s.kind == ScopeKind.class || sc.s.kind == ScopeKind.module && _) = false; rw [hc.hk]; rfl) (h c hc s _ _ A fun v pv n1 h1 t1 i1 r1 A1 => ?_) (hs _) PassesOwn.never
  obtain ⟨y, rfl, hI0, turn, fin⟩ := r1
  obtain ⟨t, rfl⟩ := i1.str
  obtain ⟨m1', hm1, F1, N1⟩ := A1
  refine iter_strUnr (s := { s with heap := h1, toks := t1 }) (l := signs y) rfl F1 N1 rfl fun Ia hIa => ?_
  suffices H : ∀ (r : List Str) (i : Nat) (mm : Nms) (mm' : Str → Option Value), (signs y).drop i = r → i ≤ (signs y).length → I i mm → NmsIs mm' mm → StrRest PG w (c.A sc) (fun _ _ => False) c.g (c.env sc) x body Q { s with heap := h1, toks := t1 } Ia r mm' n1 from
    H (signs y) 0 m m1' rfl (Nat.zero_le _) hI0 hm1
  intro r
  induction r with
  | nil =>
    intro i mm mm' hr hi hI hm h2 t2 F2 N2
    have : i = (signs y).length := Nat.le_antisymm hi (List.drop_eq_nil_iff.mp hr)
    subst this
    exact q .next .next mm n1 h2 t2 trivial (fin mm hI) ⟨mm', hm, F2, N2⟩
  | cons a r ih =>
    intro i mm mm' hr hi hI hm
    have hlt : i < (signs y).length := by
      rcases Nat.lt_or_ge i (signs y).length with h | h
      · exact h
      · rw [List.drop_eq_nil_of_le h] at hr; cases hr
    have hr' := hr
    rw [List.drop_eq_getElem_cons hlt] at hr'
    injection hr' with e1 e2
    have hai : (signs y)[i]? = some a := by rw [List.getElem?_eq_getElem hlt, e1]
    refine StrRest.succ fun u it h2 t2 F2 N2 => ?_
    refine turn i a mm ((Ia, it) :: n1) hai hI c hc _ _ _ ⟨_, nmsIs_cons hm (v := .str a u) (pv := .str a) rfl, F2, N2⟩ fun f pf m3 n3 h3 t3 i3 r3 A3 => ?_
    obtain ⟨rfl, rfl, m4, hl, hI'⟩ := r3
    obtain ⟨m3', hm3, F3, N3⟩ := A3
    have hf : f = .next := by cases f <;> first | rfl | exact i3.elim
    subst hf
    exact ⟨h3, t3, m3', n1, rfl, F3, N3, fun p hp => Nat.ne_of_lt (hIa p hp), ih (i + 1) m4 m3' e2 hlt hI' fun z pv hz => hm3 z pv (hl z pv hz)⟩
theorem Ev.strm {pl : Fc w → Sem Bool} {o e : Expr} {name : Str} {id : String} {ap p : Pos} {es : List Expr} (h : Ev sc d u w m n o fun pv n1 => ∃ y, pv = .str y ∧ Evs sc d u w m n1 p (e :: es) fun pvs n2 => Op sc d u w m n2 (.str y :: pvs) (fun vs => PySem.call (.builtin id) vs) R)
    (hg : ∀ (M : Model) (A : Around) (E : Value → Shared → Prop) (s : Shared) (y : Str) (t : Tok) (c : Fc w) (Q : Value × List Value → Shared → Prop), Q (.builtin id, [.str y t]) s → wpAny M A (getMethod (.str y t) name (pl c)) Q E s)
    (hc1 : ∀ (M : Model) (A : Around) (E : Value → Shared → Prop) (s : Shared) (c : Fc w) (v : Value) (Q : Value → Shared → Prop), wpAny M A (spliced (backTo p (starEach (e :: es) (c.env sc)))) (fun vs s₁ => wpAny M A (PySem.call (.builtin id) (v :: vs)) Q E s₁) E s → wpAny M A (callWith p (.builtin id) [v] (backTo p (starEach (e :: es) (c.env sc))) (backToKw p (keywordEach [] (c.env sc)))) Q E s)
    (e1 : autoParam (∀ c : Fc w, eval (.Call (.Attribute o name ap) (e :: es) [] p) (c.env sc) = (do
      let ov ← eval o (c.env sc)
      standAt ap.atName
      let (f, first) ← holding [ov] (getMethod ov name (pl c))
      callWith p f first (backTo p (starEach (e :: es) (c.env sc))) (backToKw p (keywordEach [] (c.env sc))))) aY) :
    Ev sc d u w m n (.Call (.Attribute o name ap) (e :: es) [] p) R := by
  intro c hc s Q E A q
  refine methodCall_KW (pl := pl c) (h c hc s _ E A fun v pv n1 h1 t1 i1 r1 A1 => ?_) (e1 c)
  obtain ⟨y, rfl, r2⟩ := r1
  obtain ⟨t, rfl⟩ := i1.str
  with_reducible refine hg _ _ _ _ y t c _ ?_
  refine (hc1 _ _ _ _ c _ _ (r2 c hc _ _ E A1 fun vs pvs n2 h2 t2 i2 r3 A2 => ?_))
  exact r3 (.str y t :: vs) ⟨rfl, i2⟩ c hc _ Q E A2 q
theorem Op.index {x y : Str} {i : Nat} {rest : List Nat} (ho : Builtin.Str.occurrences x y 0 x.length 1 = i :: rest) (h : R (.int (i : Int)) n) : Op sc d u w m n [.str x, .str y] (fun vs => PySem.call (.builtin "str.index") vs) R := by
  intro vs hv c hc s Q E A q
  k_extra "v"
  obtain ⟨t1, rfl⟩ := i1.str
  obtain ⟨t2, rfl⟩ := i2.str
  exact SC.index ho (q _ (.int (i : Int)) n s.heap _ rfl h A)
end
section
variable {sc : Sc} {d u : Nat} {w : World} {m : Nms} {n n0 : Led} {R : PV → Led → Prop} {S : PF → Nms → Led → Prop} {Rd dR : Addr} {x : Str} {i : Int}
theorem Le.nil : Le [] m := fun _ _ h => by cases h
theorem Le.cons {a : Str} {p : PV} {r : Nms} (hm : m.lookup a = some p) (h : Le r m) : Le ((a, p) :: r) m := by
  intro z q hz
  rw [List.lookup_cons] at hz
  cases hza : z == a with
  | true => rw [hza] at hz; rw [beq_iff_eq.mp hza, hm]; exact hz
  | false => rw [hza] at hz; exact h z q hz
theorem index_c {p0 ap p : Pos} {e : Expr} (h : Ev sc d u w m n e fun pv n1 => ∃ c k r, pv = .str c ∧ Builtin.Str.occurrences DIG c 0 DIG.length 1 = k :: r ∧ R (.int (k : Int)) n1)
    (hx : autoParam (∀ c : Fc w, (c.env sc).kindOf (Str.ofString "DIGITS") = some .globalImplicit) aY)
    {pl : Fc w → Sem Bool} (e1 : autoParam (∀ c : Fc w, eval (.Call (.Attribute (.Name (Str.ofString "DIGITS") p0) (Str.ofString "index") ap) [e] [] p) (c.env sc) = (do
      let ov ← eval (.Name (Str.ofString "DIGITS") p0) (c.env sc)
      standAt ap.atName
      let (f, first) ← holding [ov] (getMethod ov (Str.ofString "index") (pl c))
      callWith p f first (backTo p (starEach [e] (c.env sc))) (backToKw p (keywordEach [] (c.env sc))))) aY)
    (e2 : autoParam (∀ env, starEach [e] env = (false, eval e env) :: starEach [] env) aY) :
    Ev sc d u w m n (.Call (.Attribute (.Name (Str.ofString "DIGITS") p0) (Str.ofString "index") ap) [e] [] p) R := by
  refine Ev.strm (id := "str.index") (pl := pl) (top_digits ⟨DIG, rfl, Evs.cons ?_ e2⟩ hx) (fun _ _ _ _ _ _ _ _ h => by with_reducible exact GM.index h) (fun _ _ _ _ c v _ h => PyProof.Rows.callWith_method1 h (e2 _) rfl) e1
  intro c hc s Q E A q
  refine h c hc s _ E A fun v pv n1 h1 t1 i1 r1 A1 => q v pv n1 h1 t1 i1 ?_ A1
  obtain ⟨c', k, r, rfl, ho, r2⟩ := r1
  exact Evs.nil (Op.index ho r2)
noncomputable def digitOf (c : Str) : Int := match Builtin.Str.occurrences DIG c 0 DIG.length 1 with | i :: _ => (i : Int) | [] => 0
noncomputable def wholeN (l : List Str) : Int := l.foldl (fun a c => a * 10 + digitOf c) 0
def Digs (y : Str) : Prop := ∀ c ∈ signs y, (Builtin.Str.occurrences DIG c 0 DIG.length 1).isEmpty = false
theorem whole_turn {l : List Str} {i : Nat} {c : Str} (hc : l[i]? = some c) : wholeN (l.take (i + 1)) = wholeN (l.take i) * 10 + digitOf c := by
  unfold wholeN
  rw [List.take_add_one, hc, List.foldl_append]
  rfl
theorem whole_spec {y : Str} (hd : Digs y) (k : R (.int (wholeN (signs y))) n) : PCl 10 80 201 w [.str y] n R := by
  (k_with "v26" => with_reducible first | (refine index_c ?_) | (refine Op.mul (.of_right (by decide)) ?_) | k_extra "ev0")
  refine PCl.enter (d' := 5) (u' := 40) (by k_is) (by k_is) (hb1 (x1 := Str.ofString "digits") (fun _ _ => BindsTo.of_eq rfl) (by decide +kernel)) ?_ (by decide) (by decide)
  repeat (k_extra "v26")
  refine Ex1.forStr (fun i m => m = [(Str.ofString "number", .int (wholeN ((signs y).take i))), (Str.ofString "digits", .str y)]) ?_
  repeat (k_extra "v26")
  refine ⟨rfl, ?_, ?_⟩
  · rintro i c m1 n2 hc rfl
    have ho := hd c (List.mem_of_getElem? hc)
    cases he : Builtin.Str.occurrences DIG c 0 DIG.length 1 with
    | nil => rw [he] at ho; cases ho
    | cons k r =>
      have e : digitOf c = (k : Int) := by unfold digitOf; rw [he]
      repeat (k_extra "v26")
      refine ⟨rfl, rfl, _, ?_, rfl⟩
      rw [whole_turn hc, e]
      exact Le.cons (by k_extra "w") (Le.cons (by k_extra "w") Le.nil)
  · rintro m1 rfl
    rw [List.take_length]
    repeat (k_extra "v26")
    exact k
end
theorem number_new_k {w : World} {news : List (Addr × Obj)} {x : Str} {tx : Tok} :
    Cl w 30 240 190 [.str x tx] news (fun v nw => ∃ Rd dR t1 t2 ti, v = .ref Rd ∧ nw = (Rd, instObj 190 dR) :: (dR, numD w x tx 0 ti t1 t2) :: news ∧ AllLt dR news ∧ @LT.lt Nat _ dR Rd) := by
  (k_with "k_all" => with_reducible first | assumption | exact allLt_ne (by assumption))
  unfold Cl
  k_fill
  k_extra "il"
  refine call_cls (C := 190) F X N (by k_is) (by k_is) (by k_is) ?_
  intro x5 dx5 h5 F5 N5 l5 l6
  have l7 : AllLt dx5 news := allLt_of l5
  have l8 := allLt_trans l6 l7
  k_lt2 l6
  k_extra "cg"
  k_steps
  rename Fr _ _ _ _ => F99
  rename News _ _ _ _ => N99
  exact hret _ _ _ _ ⟨_, _, _, _, _, rfl, rfl, l7, l6⟩ F99 N99
section
variable {sc : Sc} {d u : Nat} {w : World} {m : Nms} {n n0 : Led} {R : PV → Led → Prop} {S : PF → Nms → Led → Prop} {Rd dR : Addr} {x : Str} {i : Int}
theorem number_new (k : ∀ Rd dR n', RdL w n' n Rd dR x 0 → R (.ref Rd) n') : PCl 30 240 190 w [.str x] n R := by
  intro vs hv
  obtain ⟨v1, rfl, i1⟩ := all2_1 hv
  obtain ⟨t, rfl⟩ := i1.str
  refine cl_mono number_new_k ?_
  rintro v nw ⟨Rd, dR, t1, t2, ti, rfl, rfl, hl, hlt⟩
  exact ⟨.ref Rd, rfl, k Rd dR _ ⟨⟨_, _, _, _, rfl⟩, Nat.ne_of_gt hlt, fun p hp => Nat.ne_of_lt (allLt_all.mp hl p hp)⟩⟩
theorem exp_spec (hR : RdL w n n0 Rd dR x i) (h0 : 0 ≤ i) (hx : x.length < 1000) (he : isOne x i (Str.ofString "eE") = false) (k : ∀ n', RdL w n' n0 Rd dR x i → R (.int 0) n') : PCl 50 320 208 w [.ref Rd] n R := by
  (k_with "v28" => with_reducible first | (refine num_skip (d' := 30) (u' := 160) (by assumption) (by k_extra "w") (by decide) (by decide) ?_) | k_extra "ev0")
  refine PCl.enter (d' := 40) (u' := 300) (by k_is) (by k_is) (hb1 (x1 := Str.ofString "reader") (fun _ _ => BindsTo.of_eq rfl) (by decide +kernel)) ?_ (by decide) (by decide)
  repeat (k_extra "v28")
  refine skip_spec hR h0 hx ?_
  have e : skipP x i (Str.ofString "eE") = (Str.ofString "", i) := by unfold skipP; rw [he]; rfl
  rw [e]
  intro n9 r9
  dsimp only at r9 ⊢
  repeat (k_extra "v28")
  exact k n9 r9
inductive KSw3 (S : PF → Nms → Led → Prop) (m : Nms) (x1 x2 x3 : Str) (pv : PV) (n1 : Led) : Prop
  | mk (D : _) (q1 : _) (q2 : _) (q3 : _) (f0 : pv = .ref D) (f1 : TupAt n1 D [q1, q2, q3]) (f2 : S .next ((x1, q1) :: (x2, q2) :: (x3, q3) :: m) n1) : KSw3 S m x1 x2 x3 pv n1
theorem Ex1.swap3 {x1 x2 x3 : Str} {p1 p2 p3 : Pos} {k : Nat} {tp p : Pos} {e : Expr} (h : Ev sc d u w m n e (KSw3 S m x1 x2 x3))
    (hx : autoParam (∀ c : Fc w, ∀ x ∈ [x3, x2, x1], (c.env sc).kindOf x = some .local) aX)
    (h1 : autoParam (∀ c : Fc w, swapsWithSole [Expr.Tuple [.Name x1 p1, .Name x2 p2, .Name x3 p3] k tp] e p.line (c.env sc) = pure false) aY) (h2 : autoParam (∀ c : Fc w, swappedStores [Expr.Tuple [.Name x1 p1, .Name x2 p2, .Name x3 p3] k tp] e (c.env sc) = pure (some [x1, x2, x3])) aY) :
    Ex1 sc d u w m n (.Assign [.Tuple [.Name x1 p1, .Name x2 p2, .Name x3 p3] k tp] e p) S := by
  refine Ex1.swap (xs := [x1, x2, x3]) ?_ hx h1 h2
  exact fun c hc s Q E A q => h c hc s Q E A fun v pv n1 h' t' i r A' => q v pv n1 h' t' i (by obtain ⟨D, q1, q2, q3, e1, e2, e3⟩ := r; exact ⟨D, _, e1, e2, rfl, e3⟩) A'
def KMeet (J : Nms → Led → Prop) (S : PF → Nms → Led → Prop) : PF → Nms → Led → Prop
  | .next, m, n => ∃ m', Le m' m ∧ J m' n
  | pf, m, n => S pf m n
theorem Ex1.meet {t : Expr} {a b : List Stmt} {p : Pos} (J : Nms → Led → Prop) (h : Tst sc d u w m n t fun c n1 => Two c (Ex sc d u w m n1 a (KMeet J S)) (Ex sc d u w m n1 b (KMeet J S))) (k : ∀ m' n', J m' n' → S .next m' n') : Ex1 sc d u w m n (.If t a b p) S := by
  have key : ∀ (f : Flow) (pf : PF) (m1 : Nms) (n1 : Led) (c : Fc w) (s : Shared) (Q : Flow → Shared → Prop) (h' : Heap) (tk : Nat), (∀ f pf m' n' h' tk', FlIs f pf → S pf m' n' → At c m' n' h' → Q f { s with heap := h', toks := tk' }) → FlIs f pf → KMeet J S pf m1 n1 → At c m1 n1 h' → Q f { s with heap := h', toks := tk } := by
    intro f pf m1 n1 c s Q h' tk q hf hk A
    cases pf with
    | next => obtain ⟨m', l, hJ⟩ := hk; exact q f .next m' n1 h' tk hf (k m' n1 hJ) (A.weak l)
    | brk => exact q f .brk m1 n1 h' tk hf hk A
    | cont => exact q f .cont m1 n1 h' tk hf hk A
    | ret v => exact q f (.ret v) m1 n1 h' tk hf hk A
  refine Ex1.ite ?_
  intro c hc s Q E A q
  refine h c hc s Q E A fun v pv n1 h1 t1 i1 r1 A1 => q v pv n1 h1 t1 i1 ⟨fun e => ?_, fun e => ?_⟩ A1
  · exact fun c' hc' s' Q' E' A' q' => r1.1 e c' hc' s' Q' E' A' fun f pf m2 n2 h2 t2 i2 r2 A2 => key f pf m2 n2 c' s' Q' h2 t2 q' i2 r2 A2
  · exact fun c' hc' s' Q' E' A' q' => r1.2 e c' hc' s' Q' E' A' fun f pf m2 n2 h2 t2 i2 r2 A2 => key f pf m2 n2 c' s' Q' h2 t2 q' i2 r2 A2
theorem Ex1.meetA {t : Expr} {a b : List Stmt} {p : Pos} (J : Nms → Led → Prop) (h : ∀ K : PF → Nms → Led → Prop, (∀ m m' n, Le m' m → J m' n → K .next m n) → Tst sc d u w m n t fun c n1 => Two c (Ex sc d u w m n1 a K) (Ex sc d u w m n1 b K)) (k : ∀ m' n', J m' n' → S .next m' n') : Ex1 sc d u w m n (.If t a b p) S :=
  Ex1.meet J (h (KMeet J S) fun _ m' _ l hJ => ⟨m', l, hJ⟩) k
theorem Ex.abs {ss : List Stmt} (h : ∀ K : PF → Nms → Led → Prop, (∀ pf m n, S pf m n → K pf m n) → Ex sc d u w m n ss K) : Ex sc d u w m n ss S := h S fun _ _ _ x => x
theorem Ev.tupII {i j : Int} {k1 k2 k : Nat} {p1 p2 p : Pos} (h : ∀ D n2, Sub n n2 → TupAt n2 D [.int i, .int j] → R (.ref D) n2) : Ev sc d u w m n (.Tuple [.Constant (.int i) k1 p1, .Constant (.int j) k2 p2] k p) R :=
  Ev.tuple (Evs.cons (Ev.int (Evs.cons (Ev.int (Evs.nil ⟨by with_unfolding_all exact Nat.le_of_ble_eq_true rfl, h⟩)))))
end
section
variable {sc : Sc} {d u : Nat} {w : World} {m : Nms} {n n0 : Led} {R : PV → Led → Prop} {S : PF → Nms → Led → Prop}
noncomputable abbrev unT (op : UnaryOp) (vs : List Value) : Sem Value := unaryOp op (vs[0]?.getD .none)
abbrev KUn (sc : Sc) (d u : Nat) (w : World) (m : Nms) (op : UnaryOp) (R : PV → Led → Prop) (pv : PV) (n : Led) : Prop := Op sc d u w m n [pv] (unT op) R
theorem Ev.un {op : UnaryOp} {a : Expr} {p : Pos} (h : Ev sc d u w m n a (KUn sc d u w m op R)) : Ev sc d u w m n (.UnaryOp op a p) R := by
  intro c hc s Q E A q
  exact UnaryOp_ (h c hc s _ E A fun v1 p1 n1 h1 t1 i1 r1 A1 => r1 [v1] ⟨i1, trivial⟩ c hc _ Q E A1 q)
theorem Op.neg {a : Int} (h : R (.int (-a)) n) : Op sc d u w m n [.int a] (unT .USub) R := by
  intro vs hv c hc s Q E A q
  obtain ⟨v1, rfl, i1⟩ := all2_1 hv
  obtain ⟨t1, rfl⟩ := i1.int
  exact PyProof.Rows.neg_int (q _ (.int (-a)) n s.heap _ rfl h A)
theorem Op.max {a b : Int} (h : R (.int (if b > a then b else a)) n) : Op sc d u w m n [.int a, .int b] (fun vs => PySem.call (.builtin "max") vs) R := by
  intro vs hv c hc s Q E A q
  k_extra "v"
  obtain ⟨t1, rfl⟩ := i1.int
  obtain ⟨t2, rfl⟩ := i2.int
  k_extra "oa"
  exact max_two_N rfl F N fun h' tk F' N' => q _ (.int (if b > a then b else a)) n h' tk rfl h ⟨m', hm', F', N'⟩
theorem Tst.chain2 {a b e : Expr} {op1 op2 : CmpOp} {p : Pos} {B : Bool → Led → Prop} (h : Ev sc d u w m n a fun va n1 => Ev sc d u w m n1 b fun vb n2 => Op sc d u w m n2 [va, vb] (cmT op1) fun pv n3 => ∃ c, pv = .bool c ∧ Two c (Ev sc d u w m n3 e fun ve n4 => Op sc d u w m n4 [vb, ve] (cmT op2) (KBool B)) (B false n3))
    (hm : autoParam (lastMarks [op1, op2] [b, e] = false) aW) : Tst sc d u w m n (.Compare a [op1, op2] [b, e] p) B := by
  intro c hc s Q E A q
  refine isTrue_chain (h c hc s _ E A fun v1 p1 n1 h1 t1 i1 r1 A1 => ?_) hm
  refine test_link (r1 c hc _ _ E A1 fun v2 p2 n2 h2 t2 i2 r2 A2 => ?_)
  refine r2 [v1, v2] ⟨i1, i2, trivial⟩ c hc _ _ E A2 fun v3 p3 n3 h3 t3 i3 r3 A3 => ?_
  obtain ⟨b', rfl, r4⟩ := r3
  obtain rfl := i3.bool
  refine wpAny_truthy_bool ?_
  cases b'
  · exact q false false n3 h3 t3 rfl (r4.2 rfl) A3
  · refine test_last (r4.1 rfl c hc _ _ E A3 fun v4 p4 n4 h4 t4 i4 r5 A4 => ?_)
    refine r5 [v2, v4] ⟨i2, i4, trivial⟩ c hc _ _ E A4 fun v5 p5 n5 h5 t5 i5 r6 A5 => ?_
    obtain ⟨b5, rfl, r7⟩ := r6
    obtain rfl := i5.bool
    exact wpAny_truthy_bool (q b5 b5 n5 h5 t5 rfl r7 A5)
theorem News.sub9 {h₀ h : Heap} {L : Addr} {n n' : Led} (N : News h₀ L h n') (s : Sub n n') : News h₀ L h n := fun p hp => N p (s p hp)
theorem At.drop {c : Fc w} {n' : Led} {h : Heap} (A : At c m n' h) (s : Sub n n') : At c m n h := by
  obtain ⟨m1, a, b, e⟩ := A
  exact ⟨m1, a, b, News.sub9 e s⟩
theorem ExT.drop {t : Env → Sem Flow} (h : ExT sc d u w m n t fun pf m' n' => ∃ n1, Sub n1 n' ∧ S pf m' n1) : ExT sc d u w m n t S :=
  fun c hc s Q E A q => h c hc s Q E A fun f pf m' n' h' tk' i r A' => let ⟨n1, s1, r1⟩ := r; q f pf m' n1 h' tk' i r1 (A'.drop s1)
theorem Tr.mono {α β : Type} {I : α → β → Prop} {t : Env → Sem α} {R R' : β → Led → Prop} (h : Tr (w := w) I sc d u m n t R) (k : ∀ b n', R b n' → R' b n') : Tr (w := w) I sc d u m n t R' :=
  fun c hc s Q E A q => h c hc s Q E A fun v pv n' h' tk' i r A' => q v pv n' h' tk' i (k pv n' r) A'
inductive KSwT3 (S : PF → Nms → Led → Prop) (m : Nms) (x1 x2 x3 : Str) (pvs : List PV) (n1 : Led) : Prop
  | mk (q1 : _) (q2 : _) (q3 : _) (f0 : pvs = [q1, q2, q3]) (f1 : S .next ((x1, q1) :: (x2, q2) :: (x3, q3) :: m) n1) : KSwT3 S m x1 x2 x3 pvs n1
theorem Ex1.swapT3 {x1 x2 x3 : Str} {p1 p2 p3 : Pos} {k k' : Nat} {tp tp' p : Pos} {a b e : Expr} (h : Evs sc d u w m n tp' [a, b, e] (KSwT3 S m x1 x2 x3))
    (hx : autoParam (∀ c : Fc w, ∀ x ∈ [x3, x2, x1], (c.env sc).kindOf x = some .local) aX)
    (h1 : autoParam (∀ c : Fc w, swapsWithSole [Expr.Tuple [.Name x1 p1, .Name x2 p2, .Name x3 p3] k tp] (.Tuple [a, b, e] k' tp') p.line (c.env sc) = pure false) aY) (h2 : autoParam (∀ c : Fc w, swappedStores [Expr.Tuple [.Name x1 p1, .Name x2 p2, .Name x3 p3] k tp] (.Tuple [a, b, e] k' tp') (c.env sc) = pure (some [x1, x2, x3])) aY) :
    Ex1 sc d u w m n (.Assign [.Tuple [.Name x1 p1, .Name x2 p2, .Name x3 p3] k tp] (.Tuple [a, b, e] k' tp') p) S := by
  refine ExT.drop (Ex1.swap3 (Ev.tuple (Tr.mono h ?_)) hx h1 h2)
  rintro pvs n1 ⟨q1, q2, q3, rfl, hS⟩
  exact ⟨Nat.le_of_ble_eq_true rfl, fun D n2 s2 t2 => ⟨D, q1, q2, q3, rfl, t2, n1, s2, hS⟩⟩
inductive KSwT2 (S : PF → Nms → Led → Prop) (m : Nms) (x1 x2 : Str) (pvs : List PV) (n1 : Led) : Prop
  | mk (q1 : _) (q2 : _) (f0 : pvs = [q1, q2]) (f1 : S .next ((x1, q1) :: (x2, q2) :: m) n1) : KSwT2 S m x1 x2 pvs n1
theorem Ex1.swapT2 {x1 x2 : Str} {p1 p2 : Pos} {k k' : Nat} {tp tp' p : Pos} {a b : Expr} (h : Evs sc d u w m n tp' [a, b] (KSwT2 S m x1 x2))
    (hx : autoParam (∀ c : Fc w, ∀ x ∈ [x2, x1], (c.env sc).kindOf x = some .local) aX)
    (h1 : autoParam (∀ c : Fc w, swapsWithSole [Expr.Tuple [.Name x1 p1, .Name x2 p2] k tp] (.Tuple [a, b] k' tp') p.line (c.env sc) = pure false) aY) (h2 : autoParam (∀ c : Fc w, swappedStores [Expr.Tuple [.Name x1 p1, .Name x2 p2] k tp] (.Tuple [a, b] k' tp') (c.env sc) = pure (some [x1, x2])) aY) :
    Ex1 sc d u w m n (.Assign [.Tuple [.Name x1 p1, .Name x2 p2] k tp] (.Tuple [a, b] k' tp') p) S := by
  refine ExT.drop (Ex1.swap2 (Ev.tuple (Tr.mono h ?_)) hx h1 h2)
  rintro pvs n1 ⟨q1, q2, rfl, hS⟩
  exact ⟨Nat.le_of_ble_eq_true rfl, fun D n2 s2 t2 => ⟨D, q1, q2, rfl, t2, n1, s2, hS⟩⟩
theorem PCl.drop {f : Addr} {pvs : List PV} (h : PCl d u f w pvs n fun pv n' => ∃ n1, Sub n1 n' ∧ R pv n1) : PCl d u f w pvs n R :=
  fun vs hv => cl_weak (h vs hv) fun _ _ x => by obtain ⟨pv, i, n1, s, r⟩ := x; exact ⟨n1, ⟨pv, i, r⟩, s⟩
end
section
variable {sc : Sc} {d u : Nat} {w : World} {m : Nms} {n n0 : Led} {R : PV → Led → Prop} {S : PF → Nms → Led → Prop}
theorem v1_i {vs : List Value} {a : Int} {P : List Value → Prop} (h : All2 PvIs vs [.int a]) (k : ∀ t, P [.int a t]) : P vs := by
  obtain ⟨v1, rfl, i1⟩ := all2_1 h
  obtain ⟨t1, rfl⟩ := i1.int
  exact k _
theorem v2_ii {vs : List Value} {a b : Int} {P : List Value → Prop} (h : All2 PvIs vs [.int a, .int b]) (k : ∀ t u, P [.int a t, .int b u]) : P vs := by
  obtain ⟨v1, v2, rfl, i1, i2⟩ := all2_2 h
  obtain ⟨t1, rfl⟩ := i1.int
  obtain ⟨t2, rfl⟩ := i2.int
  exact k _ _
theorem Op.abs {a : Int} (h : R (.int (if a < 0 then -a else a)) n) : Op sc d u w m n [.int a] (fun vs => PySem.call (.builtin "abs") vs) R := by
  intro vs hv c hc s Q E A q
  apply v1_i hv
  exact fun _ => call_abs_int fun _ _ => q _ (.int (if a < 0 then -a else a)) n s.heap _ rfl h A
theorem Op.mod {a b : Int} (hb : b ≠ 0) (h : R (.int (Int.fmod a b)) n) : Op sc d u w m n [.int a, .int b] (bnT .Mod) R := by
  intro vs hv c hc s Q E A q
  apply v2_ii hv
  exact fun _ _ => mod_int' hb (q _ (.int (Int.fmod a b)) n s.heap _ rfl h A)
theorem Op.fdiv {a b : Int} (h0 : 0 < b) (h1 : b < 4611686018427387904) (h : R (.int (Int.fdiv a b)) n) : Op sc d u w m n [.int a, .int b] (bnT .FloorDiv) R := by
  intro vs hv c hc s Q E A q
  apply v2_ii hv
  exact fun _ _ => fdiv62 h0 h1 (q _ (.int (Int.fdiv a b)) n s.heap _ rfl h A)
theorem Op.eqI {a b : Int} (h : R (.bool (a == b)) n) : Op sc d u w m n [.int a, .int b] (cmT .Eq) R := by
  intro vs hv c hc s Q E A q
  apply v2_ii hv
  exact fun _ _ => PyProof.Rows.eq_int (q _ (.bool (a == b)) n s.heap s.toks rfl h A)
structure KTupX (R : PV → Led → Prop) (pvs : List PV) (n : Led) : Prop where
  a : pvs.length ≤ sizeLine
  b : ∀ D vs, AllLt D n → All2 PvIs vs pvs → R (.ref D) ((D, tup vs 0) :: n)
theorem Ev.tupX {es : List Expr} {k : Nat} {p : Pos} (h : Evs sc d u w m n p es (KTupX R)) : Ev sc d u w m n (.Tuple es k p) R := by
  intro c hc s Q E A q
  refine Tuple_ (h c hc s _ E A fun vs pvs n1 h1 t1 i1 r1 A1 => ?_)
  obtain ⟨m', hm', F, N⟩ := A1
  exact kup_newTuple (s := { s with heap := h1, toks := t1 }) F N (fun D h2 F2 N2 hl => q (.ref D) (.ref D) _ h2 t1 rfl (r1.b D vs (allLt_of hl) i1) ⟨m', hm', F2, N2⟩) (by rw [i1.len]; exact r1.a)
theorem PCl.enterD {name qual : Str} {params : Arguments} {body : List Stmt} {scope : Scope} {dV kV doc pm cdv ct oc : Value} {an od : Option Addr} {osl : Array (Option Value)} {f : Addr} {pvs : List PV} {m0 : Nms} {d' u' : Nat}
    (ho : (Mine.hd.heap_1 w.params).lookup f = some ⟨oc, od, .func (fnOf name qual params body scope dV kV doc pm an cdv ct), osl⟩) (hcd : codeIn (Mine.hd.heap_1 w.params) cdv qual = true)
    (hb : ∀ s vs, (∀ a o, (Mine.hd.heap_1 w.params).lookup a = some o → s.heap.get? a = some o) → All2 PvIs vs pvs → ∃ binds, BindsTo s (fnOf name qual params body scope dV kV doc pm an cdv ct) ⟨vs, []⟩ binds ∧ NmsIs (fun y => binds.reverse.lookup y) m0 ∧ (∀ y ∈ binds, scope.names.lookup y.1 = some .local))
    (h : Ex ⟨scope, []⟩ d' u' w m0 n body fun pf _ n' => R (retOf pf) n') (hd : d' + 1 ≤ d) (hu : u' + 3 ≤ u)
    (hco : autoParam (scope.isCoroutine = false) aW) (hgen : autoParam (scope.isGenerator = false) aW) (hk : autoParam (scope.kind = .function) aW) (hcell : autoParam (∀ x ∈ scope.names, x.2 ≠ .cell) aD) : PCl d u f w pvs n R := by
  intro vs hv
  unfold Cl
  intro loose mean mg mb dp un gd cn cs a ccd cl outer A₀ base h₀ L m' s Q E B F X N T hkc hdp hun hret
  refine wpAny_call ?_
  obtain ⟨binds, hb1, hb2, hb3⟩ := hb s vs (fun a o e => F.keep _ _ (X _ _ e)) hv
  have hroom : dp < recursionLimit := Nat.lt_of_le_of_lt (Nat.le_add_right _ _) hdp
  refine code_def B F X N T rfl rfl hkc ho hcd hroom hb1 hb3 (fun g L' h1 FG F' N' B' X' T' => ?_) hco hgen hk hcell
  let c : Fc w := { dp := dp + 1, un := un + 3, gd := gd, cn := qual, L := L', a := f, ccd := cdv, outer := envX cn cs L a ccd cl :: outer, A₀ := ktrTop dp un gd cn cs L a ccd cl outer, base := base, g := g, loose := loose, mean := mean, mg := mg, mb := mb }
  have hc : c.Ok ⟨scope, []⟩ d' u' := ⟨B', X', T', hk, Nat.lt_of_le_of_lt (by show dp + 1 + d' ≤ dp + d; omega) hdp, Nat.lt_of_le_of_lt (by show un + 3 + u' ≤ un + u; omega) hun⟩
  refine h c hc { s with heap := h1, toks := s.toks + binds.length } _ _ ⟨_, hb2, F', N'⟩ fun fl pf m1 n1 h2 t2 i r A => ?_
  obtain ⟨m2, _, F2, N2⟩ := A
  refine leaveK_ F2 N2 fun F3 N3 => ?_
  refine hret _ n1 h2 t2 ⟨retOf pf, ?_, r⟩ F3 N3
  cases fl <;> cases pf <;> first | exact i.elim | exact trivial | exact i
theorem hb2F {fd : FuncData} {scope : Scope} {x1 x2 : Str} {p1 p2 : PV} (hB : ∀ s : Shared, (∀ a o, (Mine.hd.heap_1 w.params).lookup a = some o → s.heap.get? a = some o) → ∀ v1 v2, BindsTo s fd ⟨[v1, v2], []⟩ [(x1, v1), (x2, v2)]) (hx : ∀ y ∈ [x1, x2], scope.names.lookup y = some .local) :
    ∀ (s : Shared) vs, (∀ a o, (Mine.hd.heap_1 w.params).lookup a = some o → s.heap.get? a = some o) → All2 PvIs vs [p1, p2] → ∃ binds, BindsTo s fd ⟨vs, []⟩ binds ∧ NmsIs (fun y => binds.reverse.lookup y) [(x2, p2), (x1, p1)] ∧ ∀ y ∈ binds, scope.names.lookup y.1 = some .local := by
  intro s vs hh hv
  k_extra "v"
  exact ⟨_, hB s hh v1 v2, nmsIs_all ⟨⟨rfl, i2⟩, ⟨rfl, i1⟩, trivial⟩, fun y hy => hx y.1 (List.mem_map_of_mem (f := Prod.fst) hy)⟩
theorem hb1F {fd : FuncData} {scope : Scope} {x1 x2 : Str} {p1 p2 : PV} {v2 : Value} (i2 : PvIs v2 p2) (hB : ∀ s : Shared, (∀ a o, (Mine.hd.heap_1 w.params).lookup a = some o → s.heap.get? a = some o) → ∀ v1, BindsTo s fd ⟨[v1], []⟩ [(x1, v1), (x2, v2)]) (hx : ∀ y ∈ [x1, x2], scope.names.lookup y = some .local) :
    ∀ (s : Shared) vs, (∀ a o, (Mine.hd.heap_1 w.params).lookup a = some o → s.heap.get? a = some o) → All2 PvIs vs [p1] → ∃ binds, BindsTo s fd ⟨vs, []⟩ binds ∧ NmsIs (fun y => binds.reverse.lookup y) [(x2, p2), (x1, p1)] ∧ ∀ y ∈ binds, scope.names.lookup y.1 = some .local := by
  intro s vs hh hv
  obtain ⟨v1, rfl, i1⟩ := all2_1 hv
  exact ⟨_, hB s hh v1, nmsIs_all ⟨⟨rfl, i2⟩, ⟨rfl, i1⟩, trivial⟩, fun y hy => hx y.1 (List.mem_map_of_mem (f := Prod.fst) hy)⟩
theorem cd_k {x y : Int} (hy : 0 < y) (k : ∀ g, Red (Int.fdiv x g) (Int.fdiv y g) x y g → R (.int g) n) : PCl 10 80 81 w [.int x, .int y] n R := by
  refine PCl.enter (d' := 5) (u' := 60) (by k_is) (by k_is) (hb2 (x1 := Str.ofString "one") (x2 := Str.ofString "other") (fun _ _ _ => BindsTo.of_eq rfl) (by decide +kernel)) ?_ (by decide) (by decide)
  k_extra "e"
  refine Ex1.swapT2 ?_
  k_extra "c"
  refine Ev.bi (id := "abs") (by k_is) (by rfl) (by decide +kernel) ?_
  k_extra "c"
  k_extra "n"
  k_extra "z"
  refine Op.abs ?_
  k_extra "c"
  k_extra "n"
  k_extra "z"
  refine ⟨_, _, rfl, ?_⟩
  k_extra "x"
  k_extra "e"
  refine Ex1.while_ (fun k m1 n1 => n = n1 ∧ ∃ p q, m1 = [(Str.ofString "first", .int p), (Str.ofString "second", .int q)] ++ [(Str.ofString "other", .int y), (Str.ofString "one", .int x)] ∧ 0 ≤ p ∧ 0 ≤ q ∧ gcdI p q = gcdI x y ∧ k = q.toNat) _ ⟨rfl, _, _, rfl, (cd_start (x := x) hy).1, (cd_start (x := x) hy).2.1, (cd_start (x := x) hy).2.2, rfl⟩ ?_
  rintro k1 m1 n1 ⟨rfl, p, q, rfl, hp, hq, hg, rfl⟩
  k_extra "t"
  k_extra "n"
  k_extra "i"
  refine Op.gtI ⟨_, rfl, fun e => ?_, fun e => ?_⟩
  · have hq2 : 0 < q := of_decide_eq_true e
    k_extra "e"
    refine Ex1.swapT2 ?_
    k_extra "c"
    k_extra "n"
    k_extra "c"
    k_extra "b"
    k_extra "n"
    k_extra "n"
    refine Op.mod (Int.ne_of_gt hq2) ?_
    k_extra "z"
    refine ⟨_, _, rfl, ?_⟩
    k_extra "x"
    k_extra "en"
    exact ⟨_, cd_less hp hq2, [(Str.ofString "first", .int q), (Str.ofString "second", .int (Int.fmod p q)), (Str.ofString "other", .int y), (Str.ofString "one", .int x)], Le.cons (by k_extra "w") (Le.cons (by k_extra "w") (Le.cons (by k_extra "w") (Le.cons (by k_extra "w") Le.nil))), rfl, _, _, rfl, (cd_turn hp hq hq2 hg).1, (cd_turn hp hq hq2 hg).2.1, (cd_turn hp hq hq2 hg).2.2, rfl⟩
  · k_extra "x"
    k_extra "e"
    k_extra "r"
    k_extra "n"
    k_extra "xr"
    refine k p ?_
    rw [cd_end hp hq (by have := of_decide_eq_false e; omega) hg]
    exact fdiv_gcd hy
theorem frac_r {x y : Int} (hy : 0 < y) (hy2 : y < 4611686018427387904) (k : ∀ D x' y' t u c g, AllLt D n → Red x' y' x y g → R (.ref D) ((D, tup [.int x' t, .int y' u] c) :: n)) : PCl 20 160 89 w [.int x, .int y] n R := by
  refine PCl.enterD (d' := 15) (u' := 130) (by k_is) (by k_is) (hb2F (x1 := Str.ofString "top") (x2 := Str.ofString "bottom") (fun _ hh _ _ => BindsTo.of_defaults rfl (hh _ _ (by k_is)) rfl rfl rfl) (by decide +kernel)) ?_ (by decide) (by decide)
  k_extra "e"
  k_extra "f"
  k_extra "t"
  k_extra "n"
  k_extra "i"
  refine Op.eqI ⟨_, rfl, fun e => absurd (eq_of_beq e) (by omega), fun _ => ?_⟩
  k_extra "en"
  k_extra "x"
  k_extra "e"
  k_extra "f"
  k_extra "t"
  k_extra "n"
  k_extra "i"
  refine Op.ltI ⟨_, rfl, fun e => absurd (of_decide_eq_true e) (by omega), fun _ => ?_⟩
  k_extra "en"
  k_extra "x"
  k_extra "e"
  k_extra "a"
  refine Ev.call (f := 81) (d' := 10) (u' := 80) (fun w => by kernel_rfl) (fun w => by kernel_rfl) ?_ (by decide) (by decide)
  k_extra "c"
  k_extra "n"
  k_extra "c"
  k_extra "n"
  k_extra "z"
  refine cd_k hy fun g r => ?_
  have g0 := r.g0
  have g1 : g < 4611686018427387904 := Int.lt_of_le_of_lt r.gY hy2
  k_extra "x"
  k_extra "e"
  k_extra "r"
  refine Ev.tupX ?_
  k_extra "c"
  k_extra "b"
  k_extra "n"
  k_extra "n"
  refine Op.fdiv g0 g1 ?_
  k_extra "c"
  k_extra "b"
  k_extra "n"
  k_extra "n"
  refine Op.fdiv g0 g1 ?_
  k_extra "z"
  refine ⟨by with_unfolding_all exact Nat.le_of_ble_eq_true rfl, fun D vs l iv => ?_⟩
  k_extra "xr"
  apply v2_ii (P := fun vs => R (.ref D) ((D, tup vs 0) :: n)) iv
  exact fun t u => k D _ _ t u 0 g l r
theorem frac1_r {x : Int} (k : ∀ D x' y' t u c g, AllLt D n → Red x' y' x 1 g → R (.ref D) ((D, tup [.int x' t, .int y' u] c) :: n)) : PCl 20 160 89 w [.int x] n R := by
  have hy : (0 : Int) < 1 := by decide
  have hy2 : (1 : Int) < 4611686018427387904 := by decide
  refine PCl.enterD (d' := 15) (u' := 130) (by k_is) (by k_is) (hb1F (x1 := Str.ofString "top") (x2 := Str.ofString "bottom") (p2 := .int 1) ?i2 (fun _ hh _ => BindsTo.of_defaults rfl (hh _ _ (by k_is)) rfl rfl rfl) (by decide +kernel)) ?_ (by decide) (by decide)
  case i2 => exact rfl
  k_extra "e"
  k_extra "f"
  k_extra "t"
  k_extra "n"
  k_extra "i"
  refine Op.eqI ⟨_, rfl, fun e => absurd (eq_of_beq e) (by omega), fun _ => ?_⟩
  k_extra "en"
  k_extra "x"
  k_extra "e"
  k_extra "f"
  k_extra "t"
  k_extra "n"
  k_extra "i"
  refine Op.ltI ⟨_, rfl, fun e => absurd (of_decide_eq_true e) (by omega), fun _ => ?_⟩
  k_extra "en"
  k_extra "x"
  k_extra "e"
  k_extra "a"
  refine Ev.call (f := 81) (d' := 10) (u' := 80) (fun w => by kernel_rfl) (fun w => by kernel_rfl) ?_ (by decide) (by decide)
  k_extra "c"
  k_extra "n"
  k_extra "c"
  k_extra "n"
  k_extra "z"
  refine cd_k hy fun g r => ?_
  have g0 := r.g0
  have g1 : g < 4611686018427387904 := Int.lt_of_le_of_lt r.gY hy2
  k_extra "x"
  k_extra "e"
  k_extra "r"
  refine Ev.tupX ?_
  k_extra "c"
  k_extra "b"
  k_extra "n"
  k_extra "n"
  refine Op.fdiv g0 g1 ?_
  k_extra "c"
  k_extra "b"
  k_extra "n"
  k_extra "n"
  refine Op.fdiv g0 g1 ?_
  k_extra "z"
  refine ⟨by with_unfolding_all exact Nat.le_of_ble_eq_true rfl, fun D vs l iv => ?_⟩
  k_extra "xr"
  apply v2_ii (P := fun vs => R (.ref D) ((D, tup vs 0) :: n)) iv
  exact fun t u => k D _ _ t u 0 g l r
theorem frac_f {x y : Int} (hy : 0 < y) (hy2 : y < 4611686018427387904) (k : ∀ D x' y' t u c, AllLt D n → x'.natAbs ≤ x.natAbs → 0 < y' → y' ≤ y → rv x' y' = rv x y → R (.ref D) ((D, tup [.int x' t, .int y' u] c) :: n)) : PCl 20 160 89 w [.int x, .int y] n R :=
  frac_r hy hy2 fun D x' y' t u c _ l r => k D x' y' t u c l r.bx r.y0 r.by_ (rv_same r.g0 r.hx r.hy hy r.y0)
theorem frac_k {x y : Int} (hy : 0 < y) (hy2 : y < 4611686018427387904) (k : ∀ D x' y' n', Sub n n' → T2 w n' D x' y' → x'.natAbs ≤ x.natAbs → 0 < y' → y' ≤ y → rv x' y' = rv x y → R (.ref D) n') : PCl 20 160 89 w [.int x, .int y] n R :=
  frac_f hy hy2 fun D x' y' _ _ _ _ a b c e => k D x' y' _ (Sub.tail (Sub.refl _)) (T2.new (.head _)) a b c e
theorem frac1_k {x : Int} (h0 : 0 ≤ x) (h1 : x ≤ 60) (k : ∀ D x' y' n', Sub n n' → T2 w n' D x' y' → Bd 60 x' y' → rv x' y' = rv x 1 → R (.ref D) n') : PCl 20 160 89 w [.int x] n R :=
  frac1_r fun D x' y' _ _ _ _ _ r => k D x' y' _ (Sub.tail (Sub.refl _)) (T2.new (.head _)) ⟨by have := r.bx; omega, r.y0, by have := r.by_; omega⟩ (rv_same r.g0 r.hx r.hy (by decide) r.y0)
theorem bds_lo {ka kb : Nat} {a0 a1 b0 b1 : Int} (ba : Bd ka a0 a1) (bb : Bd kb b0 b1) (hkk : 2 * (ka * kb) < 4611686018427387904) : (Sm a0 ∧ Sm a1 ∧ Sm b0) ∧ 0 < a1 * b1 ∧ a1 * b1 < 4611686018427387904 := by
  have h1 := Nat.le_mul_of_pos_right ka (show 0 < kb by have := bb.2; omega)
  have h2 := Nat.le_mul_of_pos_left kb (show 0 < ka by have := ba.2; omega)
  have h3 := natAbs_mul_le ba.abs1 bb.abs1
  exact ⟨⟨ba.sm (by omega), ba.sm2 (by omega), bb.sm (by omega)⟩, Int.mul_pos ba.2.1 bb.2.1, by omega⟩
theorem bds_lo2 {ka kb : Nat} {a0 a1 b0 b1 : Int} (ba : Bd ka a0 a1) (bb : Bd kb b0 b1) (hkk : 2 * (ka * kb) < 4611686018427387904) (h0 : 0 < b0) : 0 < a1 * b0 ∧ a1 * b0 < 4611686018427387904 := by
  have h3 := natAbs_mul_le ba.abs1 bb.1
  exact ⟨Int.mul_pos ba.2.1 h0, by omega⟩
theorem plus_r {A B' : Addr} {a0 a1 b0 b1 : Int} {ka kb : Nat} (hA : T2 w n A a0 a1) (hB : T2 w n B' b0 b1) (ba : Bd ka a0 a1) (bb : Bd kb b0 b1) (hkk : 2 * (ka * kb) < 4611686018427387904) (k : ∀ D x y t u c g, AllLt D n → Red x y (a0 * b1 + b0 * a1) (a1 * b1) g → R (.ref D) ((D, tup [.int x t, .int y u] c) :: n)) : PCl 30 240 96 w [.ref A, .ref B'] n R := by
  obtain ⟨⟨s1, s2, s3⟩, s4, s5⟩ := bds_lo ba bb hkk
  refine PCl.enter (d' := 25) (u' := 230) (by k_is) (by k_is) (hb2 (x1 := Str.ofString "a") (x2 := Str.ofString "b") (fun _ _ _ => BindsTo.of_eq rfl) (by decide +kernel)) ?_ (by decide) (by decide)
  k_extra "e"
  k_extra "r"
  refine Ev.call (f := 89) (d' := 20) (u' := 160) (fun w => by kernel_rfl) (fun w => by kernel_rfl) ?_ (by decide) (by decide)
  k_extra "c"
  k_extra "b"
  k_extra "b"
  k_extra "u"
  k_extra "n"
  k_extra "i"
  refine Op.t2a hA ?_
  k_extra "u"
  k_extra "n"
  k_extra "i"
  refine Op.t2b hB ?_
  refine Op.mul (mulok_sm s1) ?_
  k_extra "b"
  k_extra "u"
  k_extra "n"
  k_extra "i"
  refine Op.t2a hB ?_
  k_extra "u"
  k_extra "n"
  k_extra "i"
  refine Op.t2b hA ?_
  refine Op.mul (mulok_sm s3) ?_
  refine Op.addI ?_
  k_extra "c"
  k_extra "b"
  k_extra "u"
  k_extra "n"
  k_extra "i"
  refine Op.t2b hA ?_
  k_extra "u"
  k_extra "n"
  k_extra "i"
  refine Op.t2b hB ?_
  refine Op.mul (mulok_sm s2) ?_
  k_extra "z"
  refine frac_r s4 s5 fun D x y t u c g l r => ?_
  k_extra "xr"
  exact k D x y t u c g l r
theorem minus_r {A B' : Addr} {a0 a1 b0 b1 : Int} {ka kb : Nat} (hA : T2 w n A a0 a1) (hB : T2 w n B' b0 b1) (ba : Bd ka a0 a1) (bb : Bd kb b0 b1) (hkk : 2 * (ka * kb) < 4611686018427387904) (k : ∀ D x y t u c g, AllLt D n → Red x y (a0 * b1 - b0 * a1) (a1 * b1) g → R (.ref D) ((D, tup [.int x t, .int y u] c) :: n)) : PCl 30 240 103 w [.ref A, .ref B'] n R := by
  obtain ⟨⟨s1, s2, s3⟩, s4, s5⟩ := bds_lo ba bb hkk
  refine PCl.enter (d' := 25) (u' := 230) (by k_is) (by k_is) (hb2 (x1 := Str.ofString "a") (x2 := Str.ofString "b") (fun _ _ _ => BindsTo.of_eq rfl) (by decide +kernel)) ?_ (by decide) (by decide)
  k_extra "e"
  k_extra "r"
  refine Ev.call (f := 89) (d' := 20) (u' := 160) (fun w => by kernel_rfl) (fun w => by kernel_rfl) ?_ (by decide) (by decide)
  k_extra "c"
  k_extra "b"
  k_extra "b"
  k_extra "u"
  k_extra "n"
  k_extra "i"
  refine Op.t2a hA ?_
  k_extra "u"
  k_extra "n"
  k_extra "i"
  refine Op.t2b hB ?_
  refine Op.mul (mulok_sm s1) ?_
  k_extra "b"
  k_extra "u"
  k_extra "n"
  k_extra "i"
  refine Op.t2a hB ?_
  k_extra "u"
  k_extra "n"
  k_extra "i"
  refine Op.t2b hA ?_
  refine Op.mul (mulok_sm s3) ?_
  refine Op.sub ?_
  k_extra "c"
  k_extra "b"
  k_extra "u"
  k_extra "n"
  k_extra "i"
  refine Op.t2b hA ?_
  k_extra "u"
  k_extra "n"
  k_extra "i"
  refine Op.t2b hB ?_
  refine Op.mul (mulok_sm s2) ?_
  k_extra "z"
  refine frac_r s4 s5 fun D x y t u c g l r => ?_
  k_extra "xr"
  exact k D x y t u c g l r
theorem times_r {A B' : Addr} {a0 a1 b0 b1 : Int} {ka kb : Nat} (hA : T2 w n A a0 a1) (hB : T2 w n B' b0 b1) (ba : Bd ka a0 a1) (bb : Bd kb b0 b1) (hkk : 2 * (ka * kb) < 4611686018427387904) (k : ∀ D x y t u c g, AllLt D n → Red x y (a0 * b0) (a1 * b1) g → R (.ref D) ((D, tup [.int x t, .int y u] c) :: n)) : PCl 30 240 110 w [.ref A, .ref B'] n R := by
  obtain ⟨⟨s1, s2, s3⟩, s4, s5⟩ := bds_lo ba bb hkk
  refine PCl.enter (d' := 25) (u' := 230) (by k_is) (by k_is) (hb2 (x1 := Str.ofString "a") (x2 := Str.ofString "b") (fun _ _ _ => BindsTo.of_eq rfl) (by decide +kernel)) ?_ (by decide) (by decide)
  k_extra "e"
  k_extra "r"
  refine Ev.call (f := 89) (d' := 20) (u' := 160) (fun w => by kernel_rfl) (fun w => by kernel_rfl) ?_ (by decide) (by decide)
  k_extra "c"
  k_extra "b"
  k_extra "u"
  k_extra "n"
  k_extra "i"
  refine Op.t2a hA ?_
  k_extra "u"
  k_extra "n"
  k_extra "i"
  refine Op.t2a hB ?_
  refine Op.mul (mulok_sm s1) ?_
  k_extra "c"
  k_extra "b"
  k_extra "u"
  k_extra "n"
  k_extra "i"
  refine Op.t2b hA ?_
  k_extra "u"
  k_extra "n"
  k_extra "i"
  refine Op.t2b hB ?_
  refine Op.mul (mulok_sm s2) ?_
  k_extra "z"
  refine frac_r s4 s5 fun D x y t u c g l r => ?_
  k_extra "xr"
  exact k D x y t u c g l r
theorem divided_r {A B' : Addr} {a0 a1 b0 b1 : Int} {ka kb : Nat} (hA : T2 w n A a0 a1) (hB : T2 w n B' b0 b1) (ba : Bd ka a0 a1) (bb : Bd kb b0 b1) (hkk : 2 * (ka * kb) < 4611686018427387904) (h0b : 0 < b0) (k : ∀ D x y t u c g, AllLt D n → Red x y (a0 * b1) (a1 * b0) g → R (.ref D) ((D, tup [.int x t, .int y u] c) :: n)) : PCl 30 240 117 w [.ref A, .ref B'] n R := by
  obtain ⟨⟨s1, s2, s3⟩, s4, s5⟩ := bds_lo ba bb hkk
  obtain ⟨s6, s7⟩ := bds_lo2 ba bb hkk h0b
  refine PCl.enter (d' := 25) (u' := 230) (by k_is) (by k_is) (hb2 (x1 := Str.ofString "a") (x2 := Str.ofString "b") (fun _ _ _ => BindsTo.of_eq rfl) (by decide +kernel)) ?_ (by decide) (by decide)
  k_extra "e"
  k_extra "f"
  k_extra "t"
  k_extra "u"
  k_extra "n"
  k_extra "i"
  refine Op.t2a hB ?_
  k_extra "i"
  refine Op.eqI ⟨_, rfl, fun e => absurd (eq_of_beq e) (by omega), fun _ => ?_⟩
  k_extra "en"
  k_extra "x"
  k_extra "e"
  k_extra "r"
  refine Ev.call (f := 89) (d' := 20) (u' := 160) (fun w => by kernel_rfl) (fun w => by kernel_rfl) ?_ (by decide) (by decide)
  k_extra "c"
  k_extra "b"
  k_extra "u"
  k_extra "n"
  k_extra "i"
  refine Op.t2a hA ?_
  k_extra "u"
  k_extra "n"
  k_extra "i"
  refine Op.t2b hB ?_
  refine Op.mul (mulok_sm s1) ?_
  k_extra "c"
  k_extra "b"
  k_extra "u"
  k_extra "n"
  k_extra "i"
  refine Op.t2b hA ?_
  k_extra "u"
  k_extra "n"
  k_extra "i"
  refine Op.t2a hB ?_
  refine Op.mul (mulok_sm s2) ?_
  k_extra "z"
  refine frac_r s6 s7 fun D x y t u c g l r => ?_
  k_extra "xr"
  exact k D x y t u c g l r
theorem plus_k {A B' : Addr} {a0 a1 b0 b1 : Int} {ka kb : Nat} (hA : T2 w n A a0 a1) (hB : T2 w n B' b0 b1) (ba : Bd ka a0 a1) (bb : Bd kb b0 b1) (hkk : 2 * (ka * kb) < 4611686018427387904) (k : ∀ D x y t u c, AllLt D n → Bd (2 * (ka * kb)) x y → rv x y = rv a0 a1 + rv b0 b1 → R (.ref D) ((D, tup [.int x t, .int y u] c) :: n)) : PCl 30 240 96 w [.ref A, .ref B'] n R :=
  plus_r hA hB ba bb hkk fun D x y t u c _ l r => k D x y t u c l (Bd.add ba bb r).1 (Bd.add ba bb r).2
theorem times_k {A B' : Addr} {a0 a1 b0 b1 : Int} {ka kb : Nat} (hA : T2 w n A a0 a1) (hB : T2 w n B' b0 b1) (ba : Bd ka a0 a1) (bb : Bd kb b0 b1) (hkk : 2 * (ka * kb) < 4611686018427387904) (k : ∀ D x y n', Sub n n' → T2 w n' D x y → Bd (ka * kb) x y → rv x y = rv a0 a1 * rv b0 b1 → R (.ref D) n') : PCl 30 240 110 w [.ref A, .ref B'] n R :=
  times_r hA hB ba bb hkk fun D x y _ _ _ _ _ r => k D x y _ (Sub.tail (Sub.refl _)) (T2.new (.head _)) (Bd.mul ba bb r).1 (Bd.mul ba bb r).2
theorem minus_k {A B' : Addr} {a0 a1 b0 b1 : Int} {ka kb : Nat} (hA : T2 w n A a0 a1) (hB : T2 w n B' b0 b1) (ba : Bd ka a0 a1) (bb : Bd kb b0 b1) (hkk : 2 * (ka * kb) < 4611686018427387904) (k : ∀ D x y n', Sub n n' → T2 w n' D x y → Bd (2 * (ka * kb)) x y → rv x y = rv a0 a1 - rv b0 b1 → R (.ref D) n') : PCl 30 240 103 w [.ref A, .ref B'] n R :=
  minus_r hA hB ba bb hkk fun D x y _ _ _ _ _ r => k D x y _ (Sub.tail (Sub.refl _)) (T2.new (.head _)) (Bd.sub ba bb r).1 (Bd.sub ba bb r).2
theorem divided_k {A B' : Addr} {a0 a1 b0 b1 : Int} {ka kb : Nat} (hA : T2 w n A a0 a1) (hB : T2 w n B' b0 b1) (ba : Bd ka a0 a1) (bb : Bd kb b0 b1) (hkk : 2 * (ka * kb) < 4611686018427387904) (h0b : 0 < b0) (k : ∀ D x y n', Sub n n' → T2 w n' D x y → Bd (ka * kb) x y → rv x y = rv a0 a1 / rv b0 b1 → R (.ref D) n') : PCl 30 240 117 w [.ref A, .ref B'] n R :=
  divided_r hA hB ba bb hkk h0b fun D x y _ _ _ _ _ r => k D x y _ (Sub.tail (Sub.refl _)) (T2.new (.head _)) (Bd.div ba bb h0b r).1 (Bd.div ba bb h0b r).2
theorem sign_k {A : Addr} {x y : Int} (hA : T2 w n A x y) (k : ∀ c : Int, (c < 0 ↔ x < 0) → (c ≤ 0 ↔ x ≤ 0) → R (.int c) n) : PCl 10 80 124 w [.ref A] n R := by
  refine PCl.enter (d' := 5) (u' := 60) (by k_is) (by k_is) (hb1 (x1 := Str.ofString "a") (fun _ _ => BindsTo.of_eq rfl) (by decide +kernel)) ?_ (by decide) (by decide)
  k_extra "e"
  k_extra "f"
  k_extra "t"
  k_extra "u"
  k_extra "n"
  k_extra "i"
  refine Op.t2a hA ?_
  k_extra "i"
  refine Op.gtI ⟨_, rfl, fun e => ?_, fun e => ?_⟩
  · have e1 := of_decide_eq_true e
    k_extra "e"
    k_extra "r"
    k_extra "i"
    k_extra "xr"
    exact k 1 (by omega) (by omega)
  · have e1 := of_decide_eq_false e
    k_extra "en"
    k_extra "x"
    k_extra "e"
    k_extra "f"
    k_extra "t"
    k_extra "u"
    k_extra "n"
    k_extra "i"
    refine Op.t2a hA ?_
    k_extra "i"
    refine Op.ltI ⟨_, rfl, fun e => ?_, fun e => ?_⟩
    · have e2 := of_decide_eq_true e
      k_extra "e"
      k_extra "r"
      with_reducible refine Ev.un ?_
      k_extra "i"
      refine Op.neg ?_
      k_extra "xr"
      exact k _ (by omega) (by omega)
    · have e2 := of_decide_eq_false e
      k_extra "en"
      k_extra "x"
      k_extra "e"
      k_extra "r"
      k_extra "i"
      k_extra "xr"
      exact k 0 (by omega) (by omega)
theorem compare_k {A B' : Addr} {a0 a1 b0 b1 : Int} {ka kb : Nat} (hA : T2 w n A a0 a1) (hB : T2 w n B' b0 b1) (ba : Bd ka a0 a1) (bb : Bd kb b0 b1) (hkk : 2 * (ka * kb) < 4611686018427387904)
    (k : ∀ c, decide (c < 0) = decide (rv a0 a1 < rv b0 b1) → decide (c ≤ 0) = decide (rv a0 a1 ≤ rv b0 b1) → R (.int c) n) : PCl 20 160 131 w [.ref A, .ref B'] n R := by
  obtain ⟨⟨s1, s2, s3⟩, _, _⟩ := bds_lo ba bb hkk
  refine PCl.drop ?_
  refine PCl.enter (d' := 15) (u' := 130) (by k_is) (by k_is) (hb2 (x1 := Str.ofString "a") (x2 := Str.ofString "b") (fun _ _ _ => BindsTo.of_eq rfl) (by decide +kernel)) ?_ (by decide) (by decide)
  k_extra "e"
  k_extra "r"
  refine Ev.call (f := 124) (d' := 10) (u' := 80) (fun w => by kernel_rfl) (fun w => by kernel_rfl) ?_ (by decide) (by decide)
  k_extra "c"
  refine Ev.tupX ?_
  k_extra "c"
  k_extra "b"
  k_extra "b"
  k_extra "u"
  k_extra "n"
  k_extra "i"
  refine Op.t2a hA ?_
  k_extra "u"
  k_extra "n"
  k_extra "i"
  refine Op.t2b hB ?_
  refine Op.mul (mulok_sm s1) ?_
  k_extra "b"
  k_extra "u"
  k_extra "n"
  k_extra "i"
  refine Op.t2a hB ?_
  k_extra "u"
  k_extra "n"
  k_extra "i"
  refine Op.t2b hA ?_
  refine Op.mul (mulok_sm s3) ?_
  refine Op.sub ?_
  k_extra "c"
  k_extra "i"
  k_extra "z"
  refine ⟨by with_unfolding_all exact Nat.le_of_ble_eq_true rfl, fun D vs l iv => ?_⟩
  k_extra "z"
  have t9 : T2 w ((D, tup vs 0) :: n) D (a0 * b1 - b0 * a1) 1 := TupAt.t2 ⟨vs, 0, .head _, iv⟩
  refine sign_k t9 fun c c1 c2 => ?_
  k_extra "xr"
  have e1 := rv_lt (a0 := a0) (b0 := b0) ba.2.1 bb.2.1
  have e2 := rv_lt (a0 := b0) (b0 := a0) bb.2.1 ba.2.1
  exact ⟨n, Sub.tail (Sub.refl _), k c (decide_eq_decide.mpr (by rw [e1, c1]; omega)) (decide_eq_decide.mpr (by rw [← Rat.not_lt, e2, c2]; omega))⟩
theorem floor_k {A : Addr} {x y : Int} (hA : T2 w n A x y) (hy : 0 < y) (hy2 : y < 4611686018427387904) (k : R (.int (Int.fdiv x y)) n) : PCl 10 80 138 w [.ref A] n R := by
  refine PCl.enter (d' := 5) (u' := 60) (by k_is) (by k_is) (hb1 (x1 := Str.ofString "a") (fun _ _ => BindsTo.of_eq rfl) (by decide +kernel)) ?_ (by decide) (by decide)
  k_extra "e"
  k_extra "r"
  k_extra "b"
  k_extra "u"
  k_extra "n"
  k_extra "i"
  refine Op.t2a hA ?_
  k_extra "u"
  k_extra "n"
  k_extra "i"
  refine Op.t2b hA ?_
  refine Op.fdiv hy hy2 ?_
  k_extra "xr"
  exact k
theorem ceil_k {A : Addr} {x y : Int} (hA : T2 w n A x y) (hy : 0 < y) (hy2 : y < 4611686018427387904) (k : R (.int (-(Int.fdiv (-x) y))) n) : PCl 10 80 145 w [.ref A] n R := by
  refine PCl.enter (d' := 5) (u' := 60) (by k_is) (by k_is) (hb1 (x1 := Str.ofString "a") (fun _ _ => BindsTo.of_eq rfl) (by decide +kernel)) ?_ (by decide) (by decide)
  k_extra "e"
  k_extra "r"
  with_reducible refine Ev.un ?_
  k_extra "b"
  with_reducible refine Ev.un ?_
  k_extra "u"
  k_extra "n"
  k_extra "i"
  refine Op.t2a hA ?_
  refine Op.neg ?_
  k_extra "u"
  k_extra "n"
  k_extra "i"
  refine Op.t2b hA ?_
  refine Op.fdiv hy hy2 ?_
  refine Op.neg ?_
  k_extra "xr"
  exact k
end
section
variable {sc : Sc} {d u : Nat} {w : World} {m : Nms} {n n0 : Led} {R : PV → Led → Prop} {S : PF → Nms → Led → Prop} {Rd dR : Addr} {x : Str} {i : Int}
theorem Op.mulE {a b r : Int} (he : a * b = r) (hm : IntMulOk a b) (h : R (.int r) n) : Op sc d u w m n [.int a, .int b] (bnT .Mult) R := Op.mul hm (he ▸ h)
theorem Op.subE {a b r : Int} (he : a - b = r) (h : R (.int r) n) : Op sc d u w m n [.int a, .int b] (bnT .Sub) R := Op.sub (he ▸ h)
theorem Op.maxE {a b r : Int} (he : (if b > a then b else a) = r) (h : R (.int r) n) : Op sc d u w m n [.int a, .int b] (fun vs => call (.builtin "max") vs) R := Op.max (he ▸ h)
theorem Op.negE {a r : Int} (he : -a = r) (h : R (.int r) n) : Op sc d u w m n [.int a] (unT .USub) R := Op.neg (he ▸ h)
theorem Op.powE {k r : Int} (he : (10 : Int) ^ k.toNat = r) (h0 : 0 ≤ k) (h1 : k ≤ 1000000) (h : R (.int r) n) : Op sc d u w m n [.int 10, .int k] (bnT .Pow) R := Op.powI h0 h1 (by decide) (he ▸ h)
theorem Op.lenE {x : Str} {r : Int} (he : (x.length : Int) = r) (hx : x.length < 1000) (h : R (.int r) n) : Op sc d u w m n [.str x] (fun vs => call (.builtin "len") vs) R := Op.lenS hx (he ▸ h)
theorem number_c {fp p : Pos} {e : Expr} {es : List Expr} (hd : 30 ≤ d) (hu : 240 ≤ u) (h : Evs sc d u w m n p (e :: es) (KCall 30 240 190 w R)) (hx : autoParam (∀ c : Fc w, (c.env sc).kindOf (Str.ofString "NumberText") = some .globalImplicit) aY)
    (h1 : autoParam (CallEq (Str.ofString "NumberText") fp p e es) aY)
    (h2 : autoParam (StarEq e es) aY) (h3 : autoParam (NoStar p es) aY) : Ev sc d u w m n (.Call (.Name (Str.ofString "NumberText") fp) (e :: es) [] p) R :=
  Ev.call (f := 190) (fun w => by kernel_rfl) (fun w => by kernel_rfl) h hd hu hx (by k_extra "w") h1 h2 h3
theorem exp_c {fp p : Pos} {e : Expr} {es : List Expr} (hd : 50 ≤ d) (hu : 320 ≤ u) (h : Evs sc d u w m n p (e :: es) (KCall 50 320 208 w R)) (hx : autoParam (∀ c : Fc w, (c.env sc).kindOf (Str.ofString "read_exponent") = some .globalImplicit) aY)
    (h1 : autoParam (CallEq (Str.ofString "read_exponent") fp p e es) aY)
    (h2 : autoParam (StarEq e es) aY) (h3 : autoParam (NoStar p es) aY) : Ev sc d u w m n (.Call (.Name (Str.ofString "read_exponent") fp) (e :: es) [] p) R :=
  Ev.call (f := 208) (fun w => by kernel_rfl) (fun w => by kernel_rfl) h hd hu hx (by k_extra "w") h1 h2 h3
theorem whole_c {fp p : Pos} {e : Expr} {es : List Expr} (hd : 10 ≤ d) (hu : 80 ≤ u) (h : Evs sc d u w m n p (e :: es) (KCall 10 80 201 w R)) (hx : autoParam (∀ c : Fc w, (c.env sc).kindOf (Str.ofString "whole_of") = some .globalImplicit) aY)
    (h1 : autoParam (CallEq (Str.ofString "whole_of") fp p e es) aY)
    (h2 : autoParam (StarEq e es) aY) (h3 : autoParam (NoStar p es) aY) : Ev sc d u w m n (.Call (.Name (Str.ofString "whole_of") fp) (e :: es) [] p) R :=
  Ev.call (f := 201) (fun w => by kernel_rfl) (fun w => by kernel_rfl) h hd hu hx (by k_extra "w") h1 h2 h3
theorem frac_c {fp p : Pos} {e : Expr} {es : List Expr} (hd : 20 ≤ d) (hu : 160 ≤ u) (h : Evs sc d u w m n p (e :: es) (KCall 20 160 89 w R)) (hx : autoParam (∀ c : Fc w, (c.env sc).kindOf (Str.ofString "fraction") = some .globalImplicit) aY)
    (h1 : autoParam (CallEq (Str.ofString "fraction") fp p e es) aY)
    (h2 : autoParam (StarEq e es) aY) (h3 : autoParam (NoStar p es) aY) : Ev sc d u w m n (.Call (.Name (Str.ofString "fraction") fp) (e :: es) [] p) R :=
  Ev.call (f := 89) (fun w => by kernel_rfl) (fun w => by kernel_rfl) h hd hu hx (by k_extra "w") h1 h2 h3
theorem max_c {fp p : Pos} {e : Expr} {es : List Expr} (h : Evs sc d u w m n p (e :: es) (KBi sc d u w m "max" R))
    (hx : autoParam (∀ c : Fc w, (c.env sc).kindOf (Str.ofString "max") = some .globalImplicit) aY)
    (e1 : autoParam (CallEq (Str.ofString "max") fp p e es) aY)
    (e2 : autoParam (StarEq e es) aY) (e3 : autoParam (NoStar p es) aY) : Ev sc d u w m n (.Call (.Name (Str.ofString "max") fp) (e :: es) [] p) R :=
  Ev.bi (by k_is) (by rfl) (by decide +kernel) h hx (by k_extra "w") e1 e2 e3
theorem top_mf {p : Pos} (h : R (.int 60) n) (hx : autoParam (∀ c : Fc w, (c.env sc).kindOf (Str.ofString "MOST_FIGURES") = some .globalImplicit) aY) : Ev sc d u w m n (.Name (Str.ofString "MOST_FIGURES") p) R :=
  Ev.topI (v := .int 60 279) (by k_is) (pv := .int 60) rfl h hx (by k_extra "w")
noncomputable abbrev MV : Int := 1000000000000000000000000000000000000000000000000000000000000
theorem top_mv {p : Pos} (h : R (.int MV) n) (hx : autoParam (∀ c : Fc w, (c.env sc).kindOf (Str.ofString "MOST_VALUE") = some .globalImplicit) aY) : Ev sc d u w m n (.Name (Str.ofString "MOST_VALUE") p) R :=
  Ev.topI (v := .int MV 283) (by k_is) (pv := .int MV) rfl h hx (by k_extra "w")
theorem Tst.mono {e : Expr} {B B' : Bool → Led → Prop} (h : Tst sc d u w m n e B) (k : ∀ b n', B b n' → B' b n') : Tst sc d u w m n e B' := Tr.mono h k
structure DecOk (x : Str) (neg : Bool) (N : Int) (q : Int) (sg : Str) (i1 : Int) (wd : Str) (i2 : Int) (dot : Str) (i3 : Int) (pd : Str) (i4 : Int) : Prop where
  hx : x.length < 1000
  e1 : skipP x 0 (Str.ofString "+-") = (sg, i1)
  e2 : digP x i1 = (wd, i2)
  e3 : skipP x i2 (Str.ofString ".") = (dot, i3)
  e4 : (dot != Str.ofString "") = true → digP x i3 = (pd, i4)
  e5 : (dot != Str.ofString "") = false → pd = Str.ofString "" ∧ i4 = i3
  p1 : 0 ≤ i1
  p2 : 0 ≤ i2
  p3 : 0 ≤ i3
  p4 : 0 ≤ i4
  r1 : isOne x i1 DIG = true → isOne x (i1 + 1) DIG = false
  r3 : isOne x i3 DIG = true → isOne x (i3 + 1) DIG = false
  he : isOne x i4 (Str.ofString "eE") = false
  hend : i4 = x.length
  hne : (wd ++ pd == Str.ofString "") = false
  hw : wd.length ≤ 20
  hp : pd.length ≤ 20
  hd : Digs (wd ++ pd)
  hN : wholeN (signs (wd ++ pd)) = N
  n0 : 0 ≤ N
  n1 : N ≤ 15
  hq : (pd.length : Int) = q
  hq0 : 0 ≤ q
  hq1 : q ≤ 1
  hs : (sg == Str.ofString "-") = neg
noncomputable def pow10 (q : Int) : Int := if q = 0 then 1 else 10
theorem dec_spec {neg : Bool} {N q : Int} {sg wd dot pd : Str} {i1 i2 i3 i4 : Int} (h : DecOk x neg N q sg i1 wd i2 dot i3 pd i4)
    (k : ∀ D x' y' t u c, AllLt D n → Bd 15 x' y' → rv x' y' = rv (if neg then -N else N) (pow10 q) → R (.ref D) ((D, tup [.int x' t, .int y' u] c) :: n)) : PCl 100 800 215 w [.str x] n R := by
  (k_with "v29" => with_reducible first | (refine (?_ : Op _ _ _ _ _ _ _ _ _); first | (refine Op.mulE (by assumption) (.of_left (by assumption)) ?_) | (refine Op.mulE (by assumption) (.of_right (by assumption)) ?_) | (refine Op.subE (by assumption) ?_) | (refine Op.maxE (by assumption) ?_) | (refine Op.negE (by assumption) ?_) | (refine Op.powE (by assumption) (by first | assumption | decide) (by first | assumption | decide) ?_) | (refine Op.lenE (by assumption) (by assumption) ?_) | (refine Op.addS (by assumption) ?_)) | (refine top_mf ?_) | (refine top_mv ?_) | (refine number_c (by decide) (by decide) ?_) | (refine exp_c (by decide) (by decide) ?_) | (refine whole_c (by decide) (by decide) ?_) | (refine frac_c (by decide) (by decide) ?_) | (refine max_c ?_) | (refine num_skip (d' := 30) (u' := 160) (by assumption) (by k_extra "w") (by decide) (by decide) ?_) | (refine num_dig (d' := 30) (u' := 160) (by assumption) (by k_extra "w") (by decide) (by decide) ?_) | (refine Ex1.swapT3 ?_) | (refine Ex1.swapT2 ?_) | (refine Ev.un ?_) | (refine Tst.chain2 ?_) | (refine ⟨_, _, _, rfl, ?_⟩) | (refine ⟨_, _, rfl, ?_⟩) | k_extra "ev1")
  refine PCl.drop ?_
  refine PCl.enter (d' := 90) (u' := 700) (by k_is) (by k_is) (hb1 (x1 := Str.ofString "text") (fun _ _ => BindsTo.of_eq rfl) (by decide +kernel)) ?_ (by decide) (by decide)
  obtain ⟨hx, e1, e2, e3, e4, e5, p1, p2, p3, p4, r1, r3, he, hend, hne, hw, hp, hd, hN, n0, n1, hq, hq0, hq1, hs⟩ := h
  repeat (k_extra "v29")
  refine number_new fun Rd dR n1 R1 => ?_
  repeat (k_extra "v29")
  refine skip_spec R1 (by decide) hx ?_
  rw [e1]
  intro n2 R2
  dsimp only at R2 ⊢
  repeat (k_extra "v29")
  refine dig_spec R2 p1 hx r1 ?_
  rw [e2]
  intro n3 R3
  dsimp only at R3 ⊢
  repeat (k_extra "v29")
  refine Ex1.meet (fun m n' => m = [(Str.ofString "parts", .str pd), (Str.ofString "sign", .str sg), (Str.ofString "whole", .str wd), (Str.ofString "reader", .ref Rd), (Str.ofString "text", .str x)] ∧ RdL w n' n Rd dR x i4) ?_ ?_
  · repeat (k_extra "v29")
    refine skip_spec R3 p2 hx ?_
    rw [e3]
    intro n4 R4
    dsimp only at R4 ⊢
    repeat (k_extra "v29")
    refine ⟨fun h9 => ?_, fun h9 => ?_⟩
    · repeat (k_extra "v29")
      refine dig_spec R4 p3 hx r3 ?_
      rw [e4 h9]
      intro n5 R5
      dsimp only at R5 ⊢
      repeat (k_extra "v29")
      exact ⟨_, Le.cons (by k_extra "w") (Le.cons (by k_extra "w") (Le.cons (by k_extra "w") (Le.cons (by k_extra "w") (Le.cons (by k_extra "w") Le.nil)))), rfl, R5⟩
    · repeat (k_extra "v29")
      obtain ⟨rfl, rfl⟩ := e5 h9
      exact ⟨_, Le.cons (by k_extra "w") (Le.cons (by k_extra "w") (Le.cons (by k_extra "w") (Le.cons (by k_extra "w") (Le.cons (by k_extra "w") Le.nil)))), rfl, R4⟩
  · rintro m4 n4 ⟨rfl, R4⟩
    have g1 : wd.length + pd.length < 10000 := by omega
    have g2 : (((wd ++ pd).length : Nat) : Int) = ((wd.length + pd.length : Nat) : Int) := by rw [sapp_len]
    have g3 : (wd ++ pd).length < 1000 := by rw [sapp_len]; omega
    have g4 : decide ((60 : Int) < ((wd.length + pd.length : Nat) : Int)) = false := decide_eq_false (by omega)
    have g5 : pd.length < 1000 := by omega
    have g6 : (0 : Int) - q = -q := by omega
    have g7 : (x.length : Int) = i4 := hend.symm
    have g8 : decide (i4 < i4) = false := decide_eq_false (by omega)
    have g9 : (if -q > 0 then -q else 0) = 0 := if_neg (by omega)
    have g10 : (10 : Int) ^ (0 : Int).toNat = 1 := by decide
    have g11 : N * 1 = N := Int.mul_one N
    have g12 : Builtin.Int.intBits N ≤ 64 := intBits_le_64 (by omega) (by omega)
    have g13 : - -q = q := Int.neg_neg q
    have g14 : (if q > 0 then q else 0) = q := by split <;> omega
    have g15 : (10 : Int) ^ q.toNat = pow10 q := by
      have : q = 0 ∨ q = 1 := by omega
      rcases this with rfl | rfl <;> decide
    have g16 : q ≤ 1000000 := by omega
    have g17 : pow10 q = 1 ∨ pow10 q = 10 := by unfold pow10; split <;> simp
    have g18 : Builtin.Int.intBits (pow10 q) ≤ 64 := intBits_le_64 (by omega) (by omega)
    obtain ⟨MB, g19⟩ : ∃ r, MV * pow10 q = r := ⟨_, rfl⟩
    obtain ⟨NM, g20⟩ : ∃ r, N * MV = r := ⟨_, rfl⟩
    have g21 : decide (MB ≤ N) = false := decide_eq_false (by unfold MV at g19; omega)
    repeat (k_extra "v29")
    refine Ex1.ite ?_
    repeat (k_extra "v29")
    refine Ex1.ite ?_
    repeat (k_extra "v29")
    refine exp_spec R4 p4 hx he fun n5 R5 => ?_
    repeat (k_extra "v29")
    refine Ex1.ite ?_
    repeat (k_extra "v29")
    refine whole_spec hd ?_
    rw [hN]
    repeat (k_extra "v29")
    refine Ex1.ite ?_
    refine Tst.mono (B := fun b n' => b = false ∧ n' = n5) ?_ ?_
    · repeat (k_extra "v29")
      refine ⟨fun h9 => ?_, fun h9 => ?_⟩
      · have g22 : decide (NM < pow10 q) = false := decide_eq_false (by
          have := of_decide_eq_true h9
          unfold MV at g20
          omega)
        repeat (k_extra "v29")
        exact ⟨g22, rfl⟩
      · exact ⟨rfl, rfl⟩
    · rintro _ n6 ⟨rfl, e6⟩
      rw [e6]
      repeat (k_extra "v29")
      refine Tr.mono (R := fun pv n' => pv = .int (if neg then -N else N) ∧ n' = n5) ?_ ?_
      · refine Ev.ifexp ?_
        repeat (k_extra "v29")
        rw [hs]
        refine ⟨fun h9 => ?_, fun h9 => ?_⟩
        · subst h9
          repeat (k_extra "v29")
          refine Op.neg ?_
          exact ⟨rfl, rfl⟩
        · subst h9
          repeat (k_extra "v29")
          exact ⟨rfl, rfl⟩
      · rintro _ n7 ⟨rfl, e7⟩
        rw [e7]
        repeat (k_extra "v29")
        refine frac_f (by omega) (by omega) fun D x' y' t u c l9 b1 b2 b3 b4 => ?_
        refine ⟨(D, tup [.int x' t, .int y' u] c) :: n, ?_, k D x' y' t u c ?_ ⟨?_, b2, by omega⟩ b4⟩
        · obtain ⟨⟨tx, ti, t1, t2, rfl⟩, _⟩ := R5
          exact fun p hp => by
            k_extra "rm"
            · exact .head _
            · exact .tail _ (.tail _ (.tail _ hp))
        · obtain ⟨⟨tx, ti, t1, t2, rfl⟩, _⟩ := R5
          exact l9.2.2
        · refine Nat.le_trans b1 ?_
          cases neg
          · show N.natAbs ≤ 15; omega
          · show (-N).natAbs ≤ 15; omega
end
noncomputable def chkP (x : Str) (dot : Str) (i3 : Int) : Str × Int := if (dot != Str.ofString "") = true then digP x i3 else (Str.ofString "", i3)
noncomputable def chk (x : Str) (neg : Bool) (N q : Int) : Bool :=
  decide (x.length < 1000) && (decide (0 ≤ (skipP x 0 (Str.ofString "+-")).2) && (decide (0 ≤ (digP x (skipP x 0 (Str.ofString "+-")).2).2) &&
  (decide (0 ≤ (skipP x (digP x (skipP x 0 (Str.ofString "+-")).2).2 (Str.ofString ".")).2) &&
  ((!(isOne x (skipP x 0 (Str.ofString "+-")).2 DIG) || !(isOne x ((skipP x 0 (Str.ofString "+-")).2 + 1) DIG)) &&
  ((!(isOne x (skipP x (digP x (skipP x 0 (Str.ofString "+-")).2).2 (Str.ofString ".")).2 DIG) || !(isOne x ((skipP x (digP x (skipP x 0 (Str.ofString "+-")).2).2 (Str.ofString ".")).2 + 1) DIG)) &&
  chk2 x neg N q (skipP x 0 (Str.ofString "+-")).1 (digP x (skipP x 0 (Str.ofString "+-")).2).1 (chkP x (skipP x (digP x (skipP x 0 (Str.ofString "+-")).2).2 (Str.ofString ".")).1 (skipP x (digP x (skipP x 0 (Str.ofString "+-")).2).2 (Str.ofString ".")).2))))))
where chk2 (x : Str) (neg : Bool) (N q : Int) (sg wd : Str) (p : Str × Int) : Bool :=
  decide (0 ≤ p.2) && (!(isOne x p.2 (Str.ofString "eE")) && (decide (p.2 = x.length) && (!(wd ++ p.1 == Str.ofString "") && (decide (wd.length ≤ 20) && (decide (p.1.length ≤ 20) &&
  (((signs (wd ++ p.1)).all fun c => !(Builtin.Str.occurrences DIG c 0 DIG.length 1).isEmpty) && (decide (wholeN (signs (wd ++ p.1)) = N) && (decide (0 ≤ N) && (decide (N ≤ 15) && (decide ((p.1.length : Int) = q) && (decide (0 ≤ q) && (decide (q ≤ 1) && ((sg == Str.ofString "-") == neg)))))))))))))
theorem imp_of {a b : Bool} (h : (!a || !b) = true) : a = true → b = false := by cases a <;> cases b <;> simp_all
theorem dec_of {x : Str} {neg : Bool} {N q : Int} (h : chk x neg N q = true) : ∃ sg i1 wd i2 dot i3 pd i4, DecOk x neg N q sg i1 wd i2 dot i3 pd i4 := by
  unfold chk at h
  obtain ⟨h1, h⟩ := Bool.and_eq_true_iff.mp h
  obtain ⟨h2, h⟩ := Bool.and_eq_true_iff.mp h
  obtain ⟨h3, h⟩ := Bool.and_eq_true_iff.mp h
  obtain ⟨h4, h⟩ := Bool.and_eq_true_iff.mp h
  obtain ⟨h5, h⟩ := Bool.and_eq_true_iff.mp h
  obtain ⟨h6, h⟩ := Bool.and_eq_true_iff.mp h
  unfold chk.chk2 at h
  obtain ⟨k1, h⟩ := Bool.and_eq_true_iff.mp h
  obtain ⟨k2, h⟩ := Bool.and_eq_true_iff.mp h
  obtain ⟨k3, h⟩ := Bool.and_eq_true_iff.mp h
  obtain ⟨k4, h⟩ := Bool.and_eq_true_iff.mp h
  obtain ⟨k5, h⟩ := Bool.and_eq_true_iff.mp h
  obtain ⟨k6, h⟩ := Bool.and_eq_true_iff.mp h
  obtain ⟨k7, h⟩ := Bool.and_eq_true_iff.mp h
  obtain ⟨k8, h⟩ := Bool.and_eq_true_iff.mp h
  obtain ⟨k9, h⟩ := Bool.and_eq_true_iff.mp h
  obtain ⟨k10, h⟩ := Bool.and_eq_true_iff.mp h
  obtain ⟨k11, h⟩ := Bool.and_eq_true_iff.mp h
  obtain ⟨k12, h⟩ := Bool.and_eq_true_iff.mp h
  obtain ⟨k13, k14⟩ := Bool.and_eq_true_iff.mp h
  refine ⟨(skipP x 0 (Str.ofString "+-")).1, (skipP x 0 (Str.ofString "+-")).2, (digP x (skipP x 0 (Str.ofString "+-")).2).1, (digP x (skipP x 0 (Str.ofString "+-")).2).2, (skipP x (digP x (skipP x 0 (Str.ofString "+-")).2).2 (Str.ofString ".")).1, (skipP x (digP x (skipP x 0 (Str.ofString "+-")).2).2 (Str.ofString ".")).2, (chkP x (skipP x (digP x (skipP x 0 (Str.ofString "+-")).2).2 (Str.ofString ".")).1 (skipP x (digP x (skipP x 0 (Str.ofString "+-")).2).2 (Str.ofString ".")).2).1, (chkP x (skipP x (digP x (skipP x 0 (Str.ofString "+-")).2).2 (Str.ofString ".")).1 (skipP x (digP x (skipP x 0 (Str.ofString "+-")).2).2 (Str.ofString ".")).2).2, {
    hx := of_decide_eq_true h1, e1 := rfl, e2 := rfl, e3 := rfl, e4 := fun e => ?_, e5 := fun e => ?_, p1 := of_decide_eq_true h2, p2 := of_decide_eq_true h3, p3 := of_decide_eq_true h4, p4 := of_decide_eq_true k1,
    r1 := imp_of h5, r3 := imp_of h6, he := (Bool.not_eq_true' _).mp k2, hend := of_decide_eq_true k3, hne := (Bool.not_eq_true' _).mp k4, hw := of_decide_eq_true k5, hp := of_decide_eq_true k6,
    hd := fun c hc => (Bool.not_eq_true' _).mp (List.all_eq_true.mp k7 c hc), hN := of_decide_eq_true k8, n0 := of_decide_eq_true k9, n1 := of_decide_eq_true k10, hq := of_decide_eq_true k11, hq0 := of_decide_eq_true k12, hq1 := of_decide_eq_true k13, hs := beq_iff_eq.mp k14 }⟩
  · unfold chkP; rw [if_pos e]
  · unfold chkP
    rw [if_neg (by rw [e]; decide)]
    exact ⟨rfl, rfl⟩
inductive WordIs (x : Str) (r : Rat) : Prop
  | mk (neg : _) (N : _) (q : _) (f0 : chk x neg N q = true) (f1 : rv (if neg then -N else N) (pow10 q) = r) : WordIs x r
theorem w_0 : WordIs (Str.ofString "0") (rv 0 1) := ⟨false, 0, 0, by decide +kernel, by decide +kernel⟩
theorem w_1 : WordIs (Str.ofString "1") (rv 1 1) := ⟨false, 1, 0, by decide +kernel, by decide +kernel⟩
theorem w_2 : WordIs (Str.ofString "2") (rv 2 1) := ⟨false, 2, 0, by decide +kernel, by decide +kernel⟩
theorem w_3 : WordIs (Str.ofString "3") (rv 3 1) := ⟨false, 3, 0, by decide +kernel, by decide +kernel⟩
theorem w_4 : WordIs (Str.ofString "4") (rv 4 1) := ⟨false, 4, 0, by decide +kernel, by decide +kernel⟩
theorem w_5 : WordIs (Str.ofString "5") (rv 5 1) := ⟨false, 5, 0, by decide +kernel, by decide +kernel⟩
theorem w_h : WordIs (Str.ofString ".5") (rv 1 2) := ⟨false, 5, 1, by decide +kernel, by decide +kernel⟩
theorem w_m : WordIs (Str.ofString "-1.5") (rv (-3) 2) := ⟨true, 15, 1, by decide +kernel, by decide +kernel⟩
theorem word_spec {w : World} {n : Led} {R : PV → Led → Prop} {x : Str} {r : Rat} (h : WordIs x r) (k : ∀ D x' y' t u c, AllLt D n → Bd 15 x' y' → rv x' y' = r → R (.ref D) ((D, tup [.int x' t, .int y' u] c) :: n)) : PCl 100 800 215 w [.str x] n R := by
  obtain ⟨neg, N, q, h1, h2⟩ := h
  obtain ⟨sg, i1, wd, i2, dot, i3, pd, i4, h3⟩ := dec_of h1
  exact dec_spec h3 fun D x' y' t u c a b e => k D x' y' t u c a b (e.trans h2)
section
variable {sc : Sc} {d u : Nat} {w : World} {m : Nms} {n n0 : Led} {R : PV → Led → Prop} {S : PF → Nms → Led → Prop}
def KTurnL (I : Nat → Nms → Led → Prop) (i : Nat) (Ia D : Addr) (o lo : Obj) : PF → Nms → Led → Prop := fun pf m2 n3 => pf = .next ∧ ∃ m4 n4, Le m4 m2 ∧ (Ia, o) ∈ n3 ∧ Sub n4 n3 ∧ (∀ p ∈ n4, @Ne Nat p.1 Ia) ∧ (D, lo) ∈ n4 ∧ I (i + 1) m4 n4
theorem Ex1.expr {e : Expr} {p : Pos} (h : Ev sc d u w m n e fun pv n1 => pv = .none ∧ S .next m n1) (hi : autoParam (∀ c : Fc w, interactive (c.env sc) = false) aY) (hs : autoParam (∀ env, swapsWith e Option.none p.line env = pure false) aY) : Ex1 sc d u w m n (.Expr e p) S := by
  intro c hc s Q E A q
  refine wpAny_Expr (h c hc s _ E A fun v pv n1 h1 t1 i1 r1 A1 => ?_) (hi c) (hs _)
  obtain ⟨rfl, r2⟩ := r1
  obtain rfl := i1.none
  exact q .next .next m n1 h1 t1 trivial r2 A1
end
section
variable {sc : Sc} {d u : Nat} {w : World} {m : Nms} {n n0 : Led} {R : PV → Led → Prop} {S : PF → Nms → Led → Prop}
theorem Ex1.try_ {body orelse : List Stmt} {h₀ : ExceptHandler} {hs : List ExceptHandler} {p : Pos} (h : Ex sc d u w m n body (Nxt sc d u w orelse S)) : Ex1 sc d u w m n (.Try body (h₀ :: hs) orelse [] p) S := by
  intro c hc s Q E A q
  refine wpAny_Try_except (h c hc s _ _ A fun f pf m1 n1 h1 t1 i1 r1 A1 => ?_)
  cases f with
  | next => cases pf <;> first | exact i1.elim | exact r1 c hc _ Q E A1 q
  | brk => cases pf <;> first | exact i1.elim | exact q _ _ m1 n1 h1 t1 i1 r1 A1
  | cont => cases pf <;> first | exact i1.elim | exact q _ _ m1 n1 h1 t1 i1 r1 A1
  | ret v => cases pf <;> first | exact i1.elim | exact q _ _ m1 n1 h1 t1 i1 r1 A1
theorem Ev.append {pl : Fc w → Sem Bool} {o : Str} {e : Expr} {xp ap p : Pos} {Fd : Addr} {ys : List Value} (hm : m.lookup o = some (.ref Fd)) (hF : (Fd, LCg.lst ys) ∈ n) (hl : ys.length < 1000)
    (h : Ev sc d u w m n e fun pv n1 => (Fd, LCg.lst ys) ∈ n1 ∧ ∀ v, PvIs v pv → ∃ n2, (∀ q ∈ n2, q = (Fd, LCg.lst (ys ++ [v])) ∨ (q ∈ n1 ∧ q.1 ≠ Fd)) ∧ R .none n2)
    (hx : autoParam (∀ c : Fc w, (c.env sc).kindOf o = some .local) aY) (hd : autoParam ((o == Str.ofString "__debug__") = false) aW)
    (e1 : autoParam (∀ c : Fc w, eval (.Call (.Attribute (.Name o xp) (Str.ofString "append") ap) [e] [] p) (c.env sc) = (do
      let ov ← eval (.Name o xp) (c.env sc)
      standAt ap.atName
      let (f, first) ← holding [ov] (getMethod ov (Str.ofString "append") (pl c))
      callWith p f first (backTo p (starEach [e] (c.env sc))) (backToKw p (keywordEach [] (c.env sc))))) aY)
    (e2 : autoParam (∀ env, starEach [e] env = (false, eval e env) :: starEach [] env) aY) :
    Ev sc d u w m n (.Call (.Attribute (.Name o xp) (Str.ofString "append") ap) [e] [] p) R := by
  intro c hc s Q E A q
  have A0 := A
  obtain ⟨m', hm', F, N⟩ := A0
  obtain ⟨v', hv, hp'⟩ := hm' o _ hm
  obtain rfl := hp'.ref
  refine methodCall_KW (pl := pl c) (nameX_L F hv (listMethod_K (its := ys.toArray) (n := ys.length) N hF PySem.F.slot_list_append PySem.F.type_list_append ?_) hc.hk (hx c) hd) (e1 c)
  refine PyProof.Rows.callWith_method1 ?_ (e2 _) rfl
  refine args_cons (h c hc s _ E A fun v1 p1 n1 h1 t1 i1 r1 A1 => ?_) (e2 _)
  refine args_nil ?_
  obtain ⟨hF1, r2⟩ := r1
  obtain ⟨n2, hn2, r3⟩ := r2 v1 i1
  obtain ⟨m1', hm1, F1, N1⟩ := A1
  exact append_led (s := { s with heap := h1, toks := t1 }) F1 N1 hF1 hn2 hl fun h2 F2 N2 => q .none .none n2 h2 t1 trivial r3 ⟨m1', hm1, F2, N2⟩
def TrP {α β : Type} (I : α → β → Prop) (sc : Sc) (d u : Nat) {w : World} (m : Nms) (n : Led) (t : Env → Sem α) (R : β → Led → Prop) : Prop :=
  ∀ (c : Fc w), c.Ok sc d u → ∀ (s : Shared) (Q : α → Shared → Prop) (E : Value → Shared → Prop), 0 < s.toks → At c m n s.heap →
    (∀ v pv n' h' tk', I v pv → R pv n' → At c m n' h' → Q v { s with heap := h', toks := tk' }) → wpAny (model PG w) (c.A sc) (t (c.env sc)) Q E s
def ExP (sc : Sc) (d u : Nat) (w : World) (m : Nms) (n : Led) (t : Env → Sem Flow) (S : PF → Nms → Led → Prop) : Prop :=
  ∀ (c : Fc w), c.Ok sc d u → ∀ (s : Shared) (Q : Flow → Shared → Prop) (E : Value → Shared → Prop), 0 < s.toks → At c m n s.heap →
    (∀ f pf m' n' h' tk', FlIs f pf → S pf m' n' → At c m' n' h' → Q f { s with heap := h', toks := tk' }) → wpAny (model PG w) (c.A sc) (t (c.env sc)) Q E s
theorem words_P {o : Str} {y z : Str} {k1 k2 : Nat} {q1 q2 q3 q4 q5 q6 q7 : Pos} {x : Str} {pl1 pl2 : Fc w → Sem Bool} (hm : m.lookup o = some (.str x)) (hx : x.length < 500) (hz : z.length = 1) (hyz : (y == z) = false) (hr : (Txt.replace x y z).length < 1000)
    (h : ∀ D l, l.map (·.1) = Txt.words (Txt.replace x y z) → AllLt D n → R (.ref D) ((D, listOf (strValues l).toArray 0) :: n))
    (hk : autoParam (∀ c : Fc w, (c.env sc).kindOf o = some .local) aY) (hd : autoParam ((o == Str.ofString "__debug__") = false) aW)
    (e1 : autoParam (∀ c : Fc w, eval (.Call (.Attribute (.Call (.Attribute (.Name o q1) (Str.ofString "replace") q2) [.Constant (.str y) k1 q3, .Constant (.str z) k2 q4] [] q5) (Str.ofString "split") q6) [] [] q7) (c.env sc) = (do
      let ov ← eval (.Call (.Attribute (.Name o q1) (Str.ofString "replace") q2) [.Constant (.str y) k1 q3, .Constant (.str z) k2 q4] [] q5) (c.env sc)
      standAt q6.atName
      let (f, first) ← holding [ov] (getMethod ov (Str.ofString "split") (pl1 c))
      callWith q7 f first (backTo q7 (starEach [] (c.env sc))) (backToKw q7 (keywordEach [] (c.env sc))))) aY)
    (e2 : autoParam (∀ c : Fc w, eval (.Call (.Attribute (.Name o q1) (Str.ofString "replace") q2) [.Constant (.str y) k1 q3, .Constant (.str z) k2 q4] [] q5) (c.env sc) = (do
      let ov ← eval (.Name o q1) (c.env sc)
      standAt q2.atName
      let (f, first) ← holding [ov] (getMethod ov (Str.ofString "replace") (pl2 c))
      callWith q5 f first (backTo q5 (starEach [.Constant (.str y) k1 q3, .Constant (.str z) k2 q4] (c.env sc))) (backToKw q5 (keywordEach [] (c.env sc))))) aY) :
    TrP (w := w) PvIs sc d u m n (fun env => eval (.Call (.Attribute (.Call (.Attribute (.Name o q1) (Str.ofString "replace") q2) [.Constant (.str y) k1 q3, .Constant (.str z) k2 q4] [] q5) (Str.ofString "split") q6) [] [] q7) env) R := by
  intro c hc s Q E ht A q
  k_extra "oa"
  obtain ⟨v', hv, hp'⟩ := hm' o _ hm
  obtain ⟨t, rfl⟩ := hp'.str
  refine methodCall_KW (pl := pl1 c) ?_ (e1 c)
  refine methodCall_KW (pl := pl2 c) (nameX_L F hv ?_ hc.hk (hk c) hd) (e2 c)
  with_reducible refine GM.replace ?_
  refine PyProof.Rows.callWith_method1 ?_ rfl rfl
  refine args_cons (wpAny_Constant_str (args_cons (wpAny_Constant_str (args_nil ?_)) rfl)) rfl
  refine SC.replace (Nat.ne_of_gt ht) (Nat.succ_ne_zero _) (Nat.ne_of_lt (Nat.lt_succ_self _)) hyz (by rw [hz]; omega) fun t' k => ?_
  with_reducible refine GM.split ?_
  refine PyProof.Rows.callWith_method0 ?_
  refine KSpl.split0 (s := { s with toks := k }) F N (fun D l h' k' e a F' N' hlt => ?_) (by rw [sizeLine_eq]; omega)
  exact q (.ref D) (.ref D) _ h' k' rfl (h D l e (allLt_all.mpr hlt)) ⟨m', hm', F', N'⟩
end
section
variable {sc : Sc} {d u : Nat} {w : World} {m : Nms} {n n0 : Led} {R : PV → Led → Prop} {S : PF → Nms → Led → Prop}
theorem Ex.assignP {x : Str} {p p' : Pos} {e : Expr} {ss : List Stmt} (h : Ev sc d u w m n e fun pv n1 => ExP sc d u w ((x, pv) :: m) n1 (fun env => execs ss env) S)
    (hx : autoParam (∀ c : Fc w, (c.env sc).kindOf x = some .local) aY) (hs : autoParam (∀ env, swapsWith e (some (Expr.Name x p')) p.line env = pure false) aY) : Ex sc d u w m n (.Assign [.Name x p'] e p :: ss) S := by
  intro c hc s Q E A q
  refine wpAny_execs_cons ?_
  refine wpAny_Assign_Name (h c hc s _ E A fun v pv n1 h1 t1 i1 r1 A1 => ?_) (hs _)
  obtain ⟨m', hm', F, N⟩ := A1
  refine storeX_L (s := { s with heap := h1, toks := t1 }) F N (fun h' F' N' => ?_) hc.hk (hx c)
  exact r1 c hc { s with heap := h', toks := t1 + 1 } Q E (Nat.succ_pos _) ⟨_, nmsIs_cons hm' i1, F', N'⟩ q
theorem ExP.cons {st : Stmt} {ss : List Stmt} (h : ExP sc d u w m n (fun env => exec st env) (Nxt sc d u w ss S)) : ExP sc d u w m n (fun env => execs (st :: ss) env) S := by
  intro c hc s Q E ht A q
  refine wpAny_execs_cons (h c hc s _ E ht A fun f pf m1 n1 h1 t1 i1 r1 A1 => ?_)
  cases f with
  | next => cases pf <;> first | exact i1.elim | exact r1 c hc _ Q E A1 q
  | brk => cases pf <;> first | exact i1.elim | exact q _ _ m1 n1 h1 t1 i1 r1 A1
  | cont => cases pf <;> first | exact i1.elim | exact q _ _ m1 n1 h1 t1 i1 r1 A1
  | ret v => cases pf <;> first | exact i1.elim | exact q _ _ m1 n1 h1 t1 i1 r1 A1
theorem ExP.noE {t : Env → Sem Flow} (h : ∀ (c : Fc w), c.Ok sc d u → ∀ (s : Shared) (Q : Flow → Shared → Prop), 0 < s.toks → At c m n s.heap → (∀ f pf m' n' h' tk', FlIs f pf → S pf m' n' → At c m' n' h' → Q f { s with heap := h', toks := tk' }) → wpAny (model PG w) (c.A sc) (t (c.env sc)) Q (fun _ _ => False) s) : ExP sc d u w m n t S :=
  fun c hc s Q _ ht A q => wpAny_mono (h c hc s Q ht A q) (fun _ _ h => h) fun _ _ h => h.elim
theorem ExP.forL {x : Str} {px p : Pos} {iter : Expr} {body : List Stmt}
    (h : TrP (w := w) PvIs sc d u m n (fun env => eval iter env) fun pv n1 => ∃ (I : Nat → Nms → Led → Prop) (D : Addr) (vs : List Value) (k : Nat) (pvs : List PV), pv = .ref D ∧ (D, listOf (List.toArray vs) k) ∈ n1 ∧ All2 PvIs vs pvs ∧ I 0 m n1 ∧ (∀ i pv m1 n2 Ia o, pvs[i]? = some pv → I i m1 n2 → (∀ p ∈ n2, @Ne Nat p.1 Ia) → Ex sc d u w ((x, pv) :: m1) ((Ia, o) :: n2) body (KTurnL I i Ia D o (listOf (List.toArray vs) k))) ∧ (∀ m1 n2, I pvs.length m1 n2 → S .next m1 n2))
    (hx : autoParam (∀ c : Fc w, (c.env sc).kindOf x = some .local) aY) (hs : autoParam (∀ env v, foldedSetIterable iter env v = pure v) aZ) : ExP sc d u w m n (fun env => exec (.For (.Name x px) iter body [] p) env) S := by
  refine ExP.noE fun c hc s Q ht A q => ?_
  have A0 := A
  obtain ⟨m0, hm0, F0, N0⟩ := A0
  refine For_turns (h₀ := c.g) F0 (h c hc s _ _ ht A fun v pv n1 h1 t1 i1 r1 A1 => ?_) (hs _) PassesOwn.never
  obtain ⟨I, D, vs, k, pvs, rfl, hD, hv, hI0, turn, fin⟩ := r1
  obtain rfl := i1.ref
  obtain ⟨m1', hm1, F1, N1⟩ := A1
  refine iter_listTurns (s := { s with heap := h1, toks := t1 }) (vs := vs) rfl F1 N1 hD rfl rfl fun Ia hIa => ?_
  refine items_inv2 (α := Value) Itm.val (fun _ _ _ pre m' news => ∃ mm, NmsIs m' mm ∧ I pre.length mm news ∧ ∀ p ∈ news, @Ne Nat p.1 Ia) vs m1' n1 ⟨m, hm1, hI0, fun p hp => Nat.ne_of_lt (hIa p hp)⟩ ?_ ?_
  · rintro pre v post hsplit m' news ⟨mm, hmm, hI, hoff⟩ v' h2 t2 o rfl F2 hcls N2
    have hget : vs[pre.length]? = some v' := by rw [hsplit, List.getElem?_append_right (Nat.le_refl _), Nat.sub_self]; rfl
    obtain ⟨pv, hpv, hvp⟩ := hv.get hget
    refine PyProof.Rows.assign_Name ?_
    refine store_rule (s := { s with heap := h2, toks := t2 }) hc (hx c) ⟨m', hmm, F2, N2⟩ hvp fun h3 t3 A3 => ?_
    refine turn pre.length pv mm news Ia o hpv hI hoff c hc _ _ _ A3 fun f pf m4 n4 h4 t4 i4 r4 A4 => ?_
    obtain ⟨rfl, m5, n5, hl, hIo, hsub, hoff5, hD5, hI5⟩ := r4
    obtain ⟨m4', hm4, F4, N4⟩ := A4
    have hf : f = .next := by cases f <;> first | rfl | exact i4.elim
    subst hf
    refine ⟨h4, t4, m4', n5, rfl, F4, fun p hp => ?_, fun p hp q hq => ?_, subL_of fun p hp => ?_, m5, fun z pv hz => hm4 z pv (hl z pv hz), ?_, hoff5⟩
    · rcases List.mem_append.mp hp with hp | hp
      · rw [List.mem_singleton.mp hp]; exact N4 _ hIo
      · exact N4 _ (hsub p hp)
    · rw [List.mem_singleton.mp hq]; exact hoff5 p hp
    · rw [List.mem_singleton.mp hp]; exact hD5
    · rw [List.length_append]; exact hI5
  · rintro m' news ⟨mm, hmm, hI, _⟩ h2 t2 F2 N2
    rw [hv.len] at hI
    exact q .next .next mm news h2 t2 trivial (fin mm news hI) ⟨m', hmm, F2, N2⟩
theorem Ev.list0 {p : Pos} (h : ∀ D, AllLt D n → R (.ref D) ((D, LCg.lst []) :: n)) : Ev sc d u w m n (.List [] p) R := by
  intro c hc s Q E A q
  refine List_ (args_nil ?_)
  k_extra "oa"
  exact newList_K F N (fun D h2 F2 N2 hl => q (.ref D) (.ref D) _ h2 _ rfl (h D (allLt_all.mpr hl)) ⟨m', hm', F2, N2⟩) (by decide)
theorem all2_strs : ∀ l : List (Str × Tok), All2 PvIs (strValues l) ((l.map (·.1)).map PV.str)
  | [] => trivial
  | p :: l => ⟨rfl, all2_strs l⟩
theorem get_str {l : List Str} {i : Nat} {pv : PV} (h : (l.map PV.str)[i]? = some pv) : ∃ x, l[i]? = some x ∧ pv = .str x := by
  rw [List.getElem?_map] at h
  cases e : l[i]? with
  | none => rw [e] at h; cases h
  | some x => rw [e] at h; exact ⟨x, rfl, (Option.some.inj h).symm⟩
inductive NmAt (n : Led) (v : Value) (r : Rat) : Prop
  | mk (D : _) (x : _) (y : _) (t : _) (u : _) (c : _) (f0 : v = .ref D) (f1 : (D, tup [.int x t, .int y u] c) ∈ n) (f2 : Bd 15 x y) (f3 : rv x y = r) : NmAt n v r
theorem NmAt.sub {n n' : Led} (hs : Sub n n') {v : Value} {r : Rat} (h : NmAt n v r) : NmAt n' v r := by
  obtain ⟨D, x, y, t, u, c, e, hm, b, hr⟩ := h
  exact ⟨D, x, y, t, u, c, e, hs _ hm, b, hr⟩
theorem dec_c {fp p : Pos} {e : Expr} {es : List Expr} (hd : 100 ≤ d) (hu : 800 ≤ u) (h : Evs sc d u w m n p (e :: es) (KCall 100 800 215 w R)) (hx : autoParam (∀ c : Fc w, (c.env sc).kindOf (Str.ofString "read_decimal") = some .globalImplicit) aY)
    (h1 : autoParam (CallEq (Str.ofString "read_decimal") fp p e es) aY)
    (h2 : autoParam (StarEq e es) aY) (h3 : autoParam (NoStar p es) aY) : Ev sc d u w m n (.Call (.Name (Str.ofString "read_decimal") fp) (e :: es) [] p) R :=
  Ev.call (f := 215) (fun w => by kernel_rfl) (fun w => by kernel_rfl) h hd hu hx (by k_extra "w") h1 h2 h3
inductive NInv (n : Led) (Fd D : Addr) (wl : Obj) (rs : List Rat) (i : Nat) (m1 : Nms) (n2 : Led) : Prop
  | mk (f0 : m1.lookup (Str.ofString "found") = some (.ref Fd)) (ys : _) (r : _) (f1 : (Fd, LCg.lst ys) ∈ n2) (f2 : Sub r n2) (f3 : (∀ p ∈ r, @Ne Nat p.1 Fd)) (f4 : (D, wl) ∈ r) (f5 : Sub n r) (f6 : All2 (NmAt r) ys (rs.take i)) : NInv n Fd D wl rs i m1 n2
theorem numbers_spec {x : Str} {rs : List Rat} (hx : x.length < 500) (hr : (Txt.replace x (Str.ofString ",") (Str.ofString " ")).length < 1000) (hw : All2 WordIs (Txt.words (Txt.replace x (Str.ofString ",") (Str.ofString " "))) rs) (hl : rs.length < 1000)
    (k : ∀ n' Fd ys, Sub n n' → (Fd, LCg.lst ys) ∈ n' → All2 (NmAt n') ys rs → R (.ref Fd) n') : PCl 110 900 350 w [.str x] n R := by
  (k_with "v30" => with_reducible first | (refine dec_c (by decide) (by decide) ?_) | k_extra "ev0")
  refine PCl.enter (d' := 105) (u' := 860) (by k_is) (by k_is) (hb1 (x1 := Str.ofString "text") (fun _ _ => BindsTo.of_eq rfl) (by decide +kernel)) ?_ (by decide) (by decide)
  refine Ex.assignP ?_
  refine Ev.list0 fun Fd hFd => ?_
  refine ExP.cons ?_
  refine ExP.forL ?_
  refine words_P (x := x) (by k_extra "w") hx (by decide) (by decide) hr fun D l hl2 hD => ?_
  refine ⟨NInv n Fd D (listOf (strValues l).toArray 0) rs, D, strValues l, 0, _, rfl, .head _, all2_strs l, ?_, ?_, ?_⟩
  · refine ⟨by with_unfolding_all eq_refl, [], (D, listOf (strValues l).toArray 0) :: n, .tail _ (.head _), fun p hp => ?_, ?_, .head _, Sub.tail (Sub.refl _), trivial⟩
    · k_extra "rm"
      · exact .head _
      · exact .tail _ (.tail _ hp)
    · intro p hp
      k_extra "rm"
      · exact Nat.ne_of_gt (allLt_all.mp hD _ (.head _))
      · exact Nat.ne_of_lt (allLt_all.mp hFd p hp)
  · intro i pv m1 n2 Ia o hget hI hoff
    obtain ⟨hf, ys, r, hFn, hrn, hne, hDr, hsub, hys⟩ := hI
    obtain ⟨x', hx', rfl⟩ := get_str hget
    rw [hl2] at hx'
    obtain ⟨q, hq, hwq⟩ := hw.get hx'
    repeat (k_extra "v30")
    refine Ex1.try_ ?_
    repeat (k_extra "v30")
    refine Ex1.expr ?_
    refine Ev.append (Fd := Fd) (ys := ys) hf (.tail _ hFn) ?_ ?_
    · rw [hys.len]; exact Nat.lt_of_le_of_lt (by rw [List.length_take]; exact Nat.min_le_right _ _) hl
    repeat (k_extra "v30")
    refine word_spec hwq fun D' a b t u c hD' hb hr' => ?_
    have hall := allLt_all.mp hD'
    have hIa : @LT.lt Nat _ Ia D' := hall _ (.head _)
    have hFD : @LT.lt Nat _ Fd D' := hall _ (.tail _ hFn)
    refine ⟨.tail _ (.tail _ hFn), fun v hv => ?_⟩
    obtain rfl := hv.ref
    refine ⟨(Ia, o) :: (Fd, LCg.lst (ys ++ [.ref D'])) :: (D', tup [.int a t, .int b u] c) :: r, fun q hq => ?_, rfl, ?_⟩
    · rcases List.mem_cons.mp hq with rfl | hq
      · exact .inr ⟨.tail _ (.head _), Ne.symm (hoff _ hFn)⟩
      rcases List.mem_cons.mp hq with rfl | hq
      · exact .inl rfl
      rcases List.mem_cons.mp hq with rfl | hq
      · exact .inr ⟨.head _, Nat.ne_of_gt hFD⟩
      · exact .inr ⟨.tail _ (.tail _ (hrn _ hq)), hne _ hq⟩
    repeat (k_extra "v30")
    refine ⟨rfl, [(Str.ofString "found", .ref Fd)], (Fd, LCg.lst (ys ++ [.ref D'])) :: (D', tup [.int a t, .int b u] c) :: r, ?_, .head _, Sub.tail (Sub.refl _), ?_, .tail _ (.tail _ hDr), ?_⟩
    · exact Le.cons (by with_unfolding_all exact hf) Le.nil
    · intro p hp
      k_extra "rm"
      · exact (hoff (Fd, LCg.lst ys) hFn : @Ne Nat Fd Ia)
      k_extra "rm"
      · exact Nat.ne_of_gt hIa
      · exact hoff _ (hrn _ hp)
    · refine ⟨rfl, ys ++ [.ref D'], (D', tup [.int a t, .int b u] c) :: r, .head _, Sub.tail (Sub.refl _), ?_, .tail _ hDr, Sub.tail hsub, ?_⟩
      · intro p hp
        k_extra "rm"
        · exact Nat.ne_of_gt hFD
        · exact hne _ hp
      · rw [List.take_add_one, hq]
        exact (hys.imp fun _ _ => NmAt.sub (Sub.tail (Sub.refl _))).append ⟨⟨D', a, b, t, u, c, rfl, .head _, hb, hr'⟩, trivial⟩
  · rintro m1 n2 ⟨hf, ys, r, hFn, hrn, hne, hDr, hsub, hys⟩
    have hys' : All2 (NmAt r) ys rs := by
      have : (List.map PV.str (List.map (fun x : Str × Tok => x.1) l)).length = rs.length := by rw [List.length_map, hl2, hw.len]
      rw [this, List.take_length] at hys
      exact hys
    repeat (k_extra "v30")
    refine Ev.name hf ?_
    repeat (k_extra "v30")
    refine k n2 Fd ys (fun p hp => hrn _ (hsub _ hp)) hFn (hys'.imp fun _ _ => NmAt.sub hrn)
end
section
variable {sc : Sc} {d u : Nat} {w : World} {m : Nms} {n n0 : Led} {R : PV → Led → Prop} {S : PF → Nms → Led → Prop}
abbrev KTy (sc : Sc) (d u : Nat) (w : World) (m : Nms) (T : String) (R : PV → Led → Prop) (pvs : List PV) (n : Led) : Prop := Op sc d u w m n pvs (fun vs => call (.type T) vs) R
theorem Ev.bt {fx : Str} {T : String} {fp p : Pos} {e : Expr} {es : List Expr} (h1 : nsIn (Mine.hd.heap_1 w.params) mainGlobals fx = some Option.none) (h2 : bootBuiltins fx = some (.type T)) (h3 : fx ≠ Str.ofString "__name__") (h : Evs sc d u w m n p (e :: es) (KTy sc d u w m T R))
    (hx : autoParam (∀ c : Fc w, (c.env sc).kindOf fx = some .globalImplicit) aY) (hd : autoParam ((fx == Str.ofString "__debug__") = false) aW)
    (e1 : autoParam (CallEq fx fp p e es) aY)
    (e2 : autoParam (StarEq e es) aY) (e3 : autoParam (NoStar p es) aY) :
    Ev sc d u w m n (.Call (.Name fx fp) (e :: es) [] p) R := by
  intro c hc s Q E A q
  k_extra "oa"
  refine Call_ (nameX_B F hc.X (topRead_of hc.T) h1 h2 h3 ?_ hc.hk (hx c) hd) (e1 _)
  exact PyProof.Rows.callWith_type1 (h c hc s _ E ⟨m', hm', F, N⟩ fun vs pvs n1 h1 t1 i1 r1 A1 => r1 vs i1 c hc _ Q E A1 q) (e2 _) (e3 _)
theorem LstAt.isList {n : Led} {D : Addr} {pvs : List PV} (h : LstAt n D pvs) : ∃ vs : List Value, All2 PvIs vs pvs ∧ ∀ {h₀ : Heap} {L : Addr} {h' : Heap}, News h₀ L h' n → h'.IsList D vs.toArray := by
  obtain ⟨vs, _, hm, ha⟩ := h
  exact ⟨vs, ha, fun N => News.isList N hm⟩
theorem Op.tupleL {D : Addr} {pvs : List PV} (hT : LstAt n D pvs) (hl : pvs.length < 1000) (h : ∀ D' n2, Sub n n2 → TupAt n2 D' pvs → R (.ref D') n2) : Op sc d u w m n [.ref D] (fun vs => call (.type "tuple") vs) R := by
  intro vs hv c hc s Q E A q
  obtain ⟨v1, rfl, i1⟩ := all2_1 hv
  obtain rfl := i1.ref
  k_extra "oa"
  obtain ⟨ys, ha, hi⟩ := hT.isList
  have hz : ys.toArray.size ≤ 16384 := by rw [List.size_toArray, ha.len]; omega
  exact kde_tupleOf F N (hi N) hz rfl fun D' h' F' N' hlt => q (.ref D') (.ref D') _ h' _ rfl (h D' _ (Sub.tail (Sub.refl _)) ⟨ys, 0, .head _, ha⟩) ⟨m', hm', F', N'⟩
theorem Op.lenL {D : Addr} {pvs : List PV} {k : Int} (hT : LstAt n D pvs) (hl : pvs.length < 1000) (hk : (pvs.length : Int) = k) (h : R (.int k) n) : Op sc d u w m n [.ref D] (fun vs => call (.builtin "len") vs) R := by
  intro vs hv c hc s Q E A q
  obtain ⟨v1, rfl, i1⟩ := all2_1 hv
  obtain rfl := i1.ref
  k_extra "oa"
  obtain ⟨ys, ha, hi⟩ := hT.isList
  have hz : (ys.toArray.size : Int) = k := by rw [List.size_toArray, ha.len]; exact hk
  exact kun_lenL (hi N) hz (by omega) (q _ (.int k) n s.heap _ rfl h ⟨m', hm', F, N⟩)
abbrev KOrB (sc : Sc) (d u : Nat) (w : World) (m : Nms) (b' : Expr) (B : Bool → Led → Prop) (c : Bool) (n : Led) : Prop := Two c (B true n) (Tst sc d u w m n b' B)
abbrev KOrA (sc : Sc) (d u : Nat) (w : World) (m : Nms) (b b' : Expr) (B : Bool → Led → Prop) (c : Bool) (n : Led) : Prop := Two c (B true n) (Tst sc d u w m n b (KOrB sc d u w m b' B))
theorem Tst.or3 {a b b' : Expr} {p : Pos} {B : Bool → Led → Prop} (h : Tst sc d u w m n a (KOrA sc d u w m b b' B)) : Tst sc d u w m n (.BoolOp .Or [a, b, b'] p) B := by
  intro c hc s Q E A q
  refine wpAny_isTrue_BoolOp (wpAny_allTrue_Or_cons (h c hc s _ E A fun v pv n1 h1 t1 i1 r1 A1 => ?_))
  obtain rfl := i1
  cases v
  · refine wpAny_allTrue_Or_cons (r1.2 rfl c hc _ _ E A1 fun v pv n2 h2 t2 i2 r2 A2 => ?_)
    obtain rfl := i2
    cases v
    · refine wpAny_allTrue_Or_cons (r2.2 rfl c hc _ _ E A2 fun v pv n3 h3 t3 i3 r3 A3 => ?_)
      obtain rfl := i3
      cases v
      · exact wpAny_allTrue_Or_nil (q false false n3 h3 t3 rfl r3 A3)
      · exact q true true n3 h3 t3 rfl r3 A3
    · exact q true true n2 h2 t2 rfl (r2.1 rfl) A2
  · exact q true true n1 h1 t1 rfl (r1.1 rfl) A1
theorem Op.lst3 {a b : Expr} {D : Addr} {q0 q1 q2 q3 : PV} {qs : List PV} (hT : LstAt n D (q0 :: q1 :: q2 :: q3 :: qs)) (h : R q3 n) (hb : autoParam ((q0 :: q1 :: q2 :: q3 :: qs).length < 1000) aN) (hs : autoParam (SbOk b) aI) : Op sc d u w m n [.ref D, .int 3] (sbT a b) R := Op.lstItem (k := 3) hT rfl hb h hs
theorem top_zero {p : Pos} (h : R (.ref 73) n) (hx : autoParam (∀ c : Fc w, (c.env sc).kindOf (Str.ofString "ZERO") = some .globalImplicit) aY) : Ev sc d u w m n (.Name (Str.ofString "ZERO") p) R :=
  Ev.topI (v := .ref 73) (by k_is) (pv := .ref 73) rfl h hx (by k_extra "w")
theorem compare_c {fp p : Pos} {e : Expr} {es : List Expr} (hd : 20 ≤ d) (hu : 160 ≤ u) (h : Evs sc d u w m n p (e :: es) (KCall 20 160 131 w R)) (hx : autoParam (∀ c : Fc w, (c.env sc).kindOf (Str.ofString "compare") = some .globalImplicit) aY)
    (h1 : autoParam (CallEq (Str.ofString "compare") fp p e es) aY)
    (h2 : autoParam (StarEq e es) aY) (h3 : autoParam (NoStar p es) aY) : Ev sc d u w m n (.Call (.Name (Str.ofString "compare") fp) (e :: es) [] p) R :=
  Ev.call (f := 131) (fun w => by kernel_rfl) (fun w => by kernel_rfl) h hd hu hx (by k_extra "w") h1 h2 h3
theorem numbers_c {fp p : Pos} {e : Expr} {es : List Expr} (hd : 110 ≤ d) (hu : 900 ≤ u) (h : Evs sc d u w m n p (e :: es) (KCall 110 900 350 w R)) (hx : autoParam (∀ c : Fc w, (c.env sc).kindOf (Str.ofString "read_numbers") = some .globalImplicit) aY)
    (h1 : autoParam (CallEq (Str.ofString "read_numbers") fp p e es) aY)
    (h2 : autoParam (StarEq e es) aY) (h3 : autoParam (NoStar p es) aY) : Ev sc d u w m n (.Call (.Name (Str.ofString "read_numbers") fp) (e :: es) [] p) R :=
  Ev.call (f := 350) (fun w => by kernel_rfl) (fun w => by kernel_rfl) h hd hu hx (by k_extra "w") h1 h2 h3
theorem lenl_c {fp p : Pos} {e : Expr} {es : List Expr} (h : Evs sc d u w m n p (e :: es) (KBi sc d u w m "len" R))
    (hx : autoParam (∀ c : Fc w, (c.env sc).kindOf (Str.ofString "len") = some .globalImplicit) aY)
    (e1 : autoParam (CallEq (Str.ofString "len") fp p e es) aY)
    (e2 : autoParam (StarEq e es) aY) (e3 : autoParam (NoStar p es) aY) : Ev sc d u w m n (.Call (.Name (Str.ofString "len") fp) (e :: es) [] p) R :=
  Ev.bi (by k_is) (by rfl) (by decide +kernel) h hx (by k_extra "w") e1 e2 e3
theorem tuple_c {fp p : Pos} {e : Expr} {es : List Expr} (h : Evs sc d u w m n p (e :: es) (KTy sc d u w m "tuple" R))
    (hx : autoParam (∀ c : Fc w, (c.env sc).kindOf (Str.ofString "tuple") = some .globalImplicit) aY)
    (e1 : autoParam (CallEq (Str.ofString "tuple") fp p e es) aY)
    (e2 : autoParam (StarEq e es) aY) (e3 : autoParam (NoStar p es) aY) : Ev sc d u w m n (.Call (.Name (Str.ofString "tuple") fp) (e :: es) [] p) R :=
  Ev.bt (by k_is) (by rfl) (by decide +kernel) h hx (by k_extra "w") e1 e2 e3
structure TextIs (x : Str) (rs : List Rat) : Prop where
  hx : x.length < 500
  hr : (Txt.replace x (Str.ofString ",") (Str.ofString " ")).length < 1000
  hw : All2 WordIs (Txt.words (Txt.replace x (Str.ofString ",") (Str.ofString " "))) rs
  hl : rs.length < 1000
inductive Num (w : World) (n : Led) (pv : PV) (r : Rat) : Prop
  | mk (D : _) (x : _) (y : _) (f0 : pv = .ref D) (f1 : T2 w n D x y) (f2 : Bd 15 x y) (f3 : rv x y = r) : Num w n pv r
theorem Num.sub {w : World} {n n' : Led} {pv : PV} {r : Rat} (s : Sub n n') (h : Num w n pv r) : Num w n' pv r := by
  obtain ⟨D, x, y, e, t, b, hr⟩ := h
  exact ⟨D, x, y, e, t.sub s, b, hr⟩
theorem NmAt.num {w : World} {n : Led} {v : Value} {r : Rat} (h : NmAt n v r) : ∃ pv, PvIs v pv ∧ Num w n pv r := by
  obtain ⟨D, x, y, _, _, _, e, hm, b, hr⟩ := h
  exact ⟨.ref D, (by rw [e]; rfl), D, x, y, rfl, T2.new hm, b, hr⟩
theorem nms_num {w : World} {n : Led} : ∀ {ys : List Value} {rs : List Rat}, All2 (NmAt n) ys rs → ∃ pvs, All2 PvIs ys pvs ∧ All2 (Num w n) pvs rs
  | [], [], _ => ⟨[], trivial, trivial⟩
  | _ :: _, _ :: _, h => let ⟨p, a, b⟩ := h.1.num (w := w); let ⟨q, a', b'⟩ := nms_num (w := w) h.2; ⟨p :: q, ⟨a, a'⟩, ⟨b, b'⟩⟩
  | [], _ :: _, h => h.elim
  | _ :: _, [], h => h.elim
theorem numbers_k {x : Str} {rs : List Rat} (h : TextIs x rs) (k : ∀ n' Fd pvs, Sub n n' → LstAt n' Fd pvs → All2 (Num w n') pvs rs → R (.ref Fd) n') : PCl 110 900 350 w [.str x] n R :=
  numbers_spec h.hx h.hr h.hw h.hl fun n' Fd ys hs hm ha => let ⟨pvs, h1, h2⟩ := nms_num ha; k n' Fd pvs hs ⟨ys, _, hm, h1⟩ h2
theorem all2_4' {α β : Type} {P : α → β → Prop} {l : List α} {b0 b1 b2 b3 : β} (h : All2 P l [b0, b1, b2, b3]) : ∃ a0 a1 a2 a3, l = [a0, a1, a2, a3] ∧ P a0 b0 ∧ P a1 b1 ∧ P a2 b2 ∧ P a3 b3 := by
  exact h.four
theorem box_spec {x : Str} {r0 r1 r2 r3 : Rat} (h : TextIs x [r0, r1, r2, r3]) (h2 : 0 < r2) (h3 : 0 < r3) (k : ∀ n' D pvs, Sub n n' → TupAt n' D pvs → All2 (Num w n') pvs [r0, r1, r2, r3] → R (.ref D) n') : PCl 120 960 357 w [.str x] n R := by
  (k_with "v31" => with_reducible first | (refine Op.lst3 (by k_extra "ta9") ?_) | (refine compare_c (by decide) (by decide) ?_) | (refine numbers_c (by decide) (by decide) ?_) | (refine lenl_c ?_) | (refine tuple_c ?_) | (refine top_zero ?_) | (refine Op.lenL (k := 4) (by assumption) (by with_unfolding_all exact Nat.le_of_ble_eq_true rfl) rfl ?_) | (refine Tst.or3 ?_) | k_extra "ev0")
  refine PCl.enter (d' := 115) (u' := 930) (by k_is) (by k_is) (hb1 (x1 := Str.ofString "text") (fun _ _ => BindsTo.of_eq rfl) (by decide +kernel)) ?_ (by decide) (by decide)
  repeat (k_extra "v31")
  refine numbers_k h fun n1 Fd pvs hs hF hp => ?_
  obtain ⟨p0, p1, p2, p3, rfl, b0, b1, b2, b3⟩ := all2_4' hp
  obtain ⟨A2, x2, y2, rfl, t2, d2, e2⟩ := b2
  obtain ⟨A3, x3, y3, rfl, t3, d3, e3⟩ := b3
  repeat (k_extra "v31")
  refine compare_k t2 T2_zero d2 Bd_zero (by decide) fun c _ hc => ?_
  have hc2 : decide (c ≤ 0) = false := by rw [hc, e2]; exact decide_eq_false (fun hh => absurd h2 (Rat.not_lt.mpr (by rw [rv_zero] at hh; exact hh)))
  repeat (k_extra "v31")
  refine compare_k t3 T2_zero d3 Bd_zero (by decide) fun c' _ hc' => ?_
  have hc3 : decide (c' ≤ 0) = false := by rw [hc', e3]; exact decide_eq_false (fun hh => absurd h3 (Rat.not_lt.mpr (by rw [rv_zero] at hh; exact hh)))
  repeat (k_extra "v31")
  refine Op.tupleL hF (by with_unfolding_all exact Nat.le_of_ble_eq_true rfl) fun D n2 s2 hD => ?_
  repeat (k_extra "v31")
  exact k n2 D _ (Sub.via s2 hs) hD ⟨Num.sub s2 b0, Num.sub s2 b1, ⟨A2, x2, y2, rfl, t2.sub s2, d2, e2⟩, ⟨A3, x3, y3, rfl, t3.sub s2, d3, e3⟩, trivial⟩
end
end
section
open PySem PySem.W PyProof.Rows PyProof.V PySem.Spec
open PySem.SeqAt
section
variable {sc : Sc} {d u : Nat} {w : World} {m : Nms} {n n0 : Led} {R : PV → Led → Prop} {S : PF → Nms → Led → Prop}
inductive KAndB (sc : Sc) (d u : Nat) (w : World) (m : Nms) (b : Expr) (R : PV → Led → Prop) (va : PV) (n : Led) : Prop
  | mk (c : _) (f0 : va = .bool c) (f1 : Two c (Ev sc d u w m n b R) (R (.bool false) n)) : KAndB sc d u w m b R va n
theorem Ev.and4 {a b b' b'' : Expr} {p : Pos} (h : Ev sc d u w m n a fun va n1 => ∃ c, va = .bool c ∧ Two c (Ev sc d u w m n1 b fun vb n2 => ∃ c, vb = .bool c ∧ Two c (Ev sc d u w m n2 b' (KAndB sc d u w m b'' R)) (R (.bool false) n2)) (R (.bool false) n1)) : Ev sc d u w m n (.BoolOp .And [a, b, b', b''] p) R := by
  intro c hc s Q E A q
  refine BoolOp_and (h c hc s _ E A fun v pv n1 h1 t1 i1 r1 A1 => ?_)
  obtain ⟨b0, rfl, r2⟩ := r1
  obtain rfl := i1.bool
  refine wpAny_truthy_bool ?_
  cases b0
  · exact q (.bool false) (.bool false) n1 h1 t1 rfl (r2.2 rfl) A1
  refine BoolOp_and (r2.1 rfl c hc _ _ E A1 fun v pv n2 h2 t2 i2 r3 A2 => ?_)
  obtain ⟨b1, rfl, r4⟩ := r3
  obtain rfl := i2.bool
  refine wpAny_truthy_bool ?_
  cases b1
  · exact q (.bool false) (.bool false) n2 h2 t2 rfl (r4.2 rfl) A2
  refine BoolOp_and (r4.1 rfl c hc _ _ E A2 fun v pv n3 h3 t3 i3 r5 A3 => ?_)
  obtain ⟨b2, rfl, r6⟩ := r5
  obtain rfl := i3.bool
  refine wpAny_truthy_bool ?_
  cases b2
  · exact q (.bool false) (.bool false) n3 h3 t3 rfl (r6.2 rfl) A3
  · exact BoolOp_one (r6.1 rfl c hc _ Q E A3 q)
theorem strsAre_of : ∀ {vs : List Value} {ys : List Str}, All2 PvIs vs (ys.map .str) → StrsAre vs ys
  | [], [], _ => .nil
  | _ :: _, _ :: _, h => by obtain ⟨t, rfl⟩ := h.1.str; exact .cons _ _ (strsAre_of h.2)
  | [], _ :: _, h => h.elim
  | _ :: _, [], h => h.elim
theorem Op.inTS {x : Str} {D : Addr} {ys : List Str} (hT : TupAt n D (ys.map .str)) (h : R (.bool (ys.any (· == x))) n) : Op sc d u w m n [.str x, .ref D] (cmT .In) R := by
  intro vs hv c hc s Q E A q
  k_extra "v"
  obtain ⟨t1, rfl⟩ := i1.str
  obtain rfl := i2.ref
  k_extra "oa"
  obtain ⟨us, c', hm, ha⟩ := hT
  exact in_tuple_strs (News.isTup N hm) (strsAre_of ha) (q _ (.bool (ys.any (· == x))) n s.heap s.toks rfl h ⟨m', hm', F, N⟩)
theorem all_range {xs ys : List Str} (hl : xs.length = ys.length) : (List.range xs.length).all (fun j => xs[j]? == ys[j]?) = (xs == ys) := by
  rw [Bool.eq_iff_iff, beq_iff_eq, List.all_eq_true]
  refine ⟨fun h => List.ext_getElem? fun j => ?_, fun h j _ => by rw [h]; exact beq_self_eq_true _⟩
  by_cases hj : j < xs.length
  · exact beq_iff_eq.mp (h j (List.mem_range.mpr hj))
  · rw [List.getElem?_eq_none (by omega), List.getElem?_eq_none (by omega)]
theorem rc_strs {A : Around} {s : Shared} {h₀ : Heap} {L a b : Addr} {xs ys : List Str} (N : News h₀ L s.heap n) (ha : LstAt n a (xs.map .str)) (hb : LstAt n b (ys.map .str)) (hu : A.units < cLine) : RcAt A s (.ref a) (.ref b) (xs == ys) := by
  obtain ⟨vs, h1, k1⟩ := ha.isList
  obtain ⟨us, h2, k2⟩ := hb.isList
  have l1 : vs.length = xs.length := by rw [h1.len, List.length_map]
  have l2 : us.length = ys.length := by rw [h2.len, List.length_map]
  by_cases hl : xs.length = ys.length
  · have := RcAt.lists (A := A) (e := fun j => xs[j]? == ys[j]?) (k1 N) (k2 N) (by rw [List.size_toArray, List.size_toArray, l1, l2, hl]) hu (fun j j1 j2 => ?_)
    · rw [List.size_toArray, l1, all_range hl] at this; exact this
    · rw [List.size_toArray] at j1 j2
      obtain ⟨p1, e1, f1⟩ := h1.get (List.getElem?_eq_getElem j1)
      obtain ⟨p2, e2, f2⟩ := h2.get (List.getElem?_eq_getElem j2)
      obtain ⟨x, ex, rfl⟩ := get_str e1
      obtain ⟨y, ey, rfl⟩ := get_str e2
      obtain ⟨t, et⟩ := f1.str
      obtain ⟨t', et'⟩ := f2.str
      have hr : (xs[j]? == ys[j]?) = (x == y) := by rw [ex, ey]; rfl
      show EqAt _ _ vs.toArray[j] us.toArray[j] (xs[j]? == ys[j]?)
      rw [hr, List.getElem_toArray, List.getElem_toArray, et, et']
      exact EqAt.str_str _ _ _ _
  · have hne : (xs == ys) = false := beq_eq_false_iff_ne.mpr fun e => hl (by rw [e])
    rw [hne]
    exact RcAt.lists_lengths (k1 N) (k2 N) (by rw [List.size_toArray, List.size_toArray, l1, l2]; exact bne_iff_ne.mpr hl) hu
theorem Op.eqLL {a b : Addr} {xs ys : List Str} (ha : LstAt n a (xs.map .str)) (hb : LstAt n b (ys.map .str)) (h : R (.bool (xs == ys)) n) : Op sc d u w m n [.ref a, .ref b] (cmT .Eq) R := by
  intro vs hv c hc s Q E A q
  k_extra "v"
  obtain rfl := i1.ref
  obtain rfl := i2.ref
  k_extra "oa"
  exact rc_strs N ha hb (by show c.un < cLine; exact Nat.lt_of_le_of_lt (Nat.le_add_right _ _) hc.hu) _ _ _ _ (q _ (.bool (xs == ys)) n s.heap s.toks rfl h ⟨m', hm', F, N⟩)
end
end
section
open PySem PySem.W PyProof.Rows PyProof.V PySem.Spec
section
variable {sc : Sc} {d u : Nat} {w : World} {m : Nms} {n n0 : Led} {R : PV → Led → Prop} {S : PF → Nms → Led → Prop}
noncomputable abbrev M3s : List Str := [Str.ofString "Min", Str.ofString "Mid", Str.ofString "Max"]
noncomputable def alignB (x : Str) : Bool := (x == Str.ofString "none") || ((Txt.slice x Option.none (some 1) == Str.ofString "x") && ((M3s.any (· == Txt.slice x (some 1) (some 4))) && ((Txt.slice x (some 4) (some 5) == Str.ofString "Y") && M3s.any (· == Txt.slice x (some 5) Option.none))))
theorem Op.inTS3 {x a b c : Str} {D : Addr} (hT : TupAt n D [.str a, .str b, .str c]) (h : R (.bool ([a, b, c].any (· == x))) n) : Op sc d u w m n [.str x, .ref D] (cmT .In) R := Op.inTS (ys := [a, b, c]) hT h
theorem to_bool {b c : Bool} (e : b = c) (h : R (.bool b) n) : R (.bool c) n := e ▸ h
theorem align_spec {x : Str} (hx : x.length < 1000) (k : ∀ n', Sub n n' → R (.bool (alignB x)) n') : PCl 10 80 364 w [.str x] n R := by
  (k_with "v32" => with_reducible first | (refine Ev.and4 ?_) | (refine Op.inTS3 (by k_extra "ta9") ?_) | (refine ⟨_, _, _, rfl, rfl, rfl, by assumption, ?_⟩) | (refine ⟨_, _, rfl, rfl, by assumption, ?_⟩) | k_extra "ev0")
  refine PCl.enter (d' := 5) (u' := 40) (by k_is) (by k_is) (hb1 (x1 := Str.ofString "word") (fun _ _ => BindsTo.of_eq rfl) (by decide +kernel)) ?_ (by decide) (by decide)
  repeat (k_extra "v32")
  refine ⟨fun h9 => ?_, fun h9 => ?_⟩
  · repeat (k_extra "v32")
    have e : alignB x = true := by unfold alignB; rw [h9]; rfl
    exact e ▸ k _ (Sub.refl _)
  repeat (k_extra "v32")
  have e : alignB x = (Txt.slice x Option.none (some 1) == Str.ofString "x" && (M3s.any (fun y => y == Txt.slice x (some 1) (some 4)) && (Txt.slice x (some 4) (some 5) == Str.ofString "Y" && M3s.any (fun y => y == Txt.slice x (some 5) Option.none)))) := by unfold alignB; rw [h9]; rfl
  refine ⟨fun h1 => ?_, fun h1 => ?_⟩
  rotate_left
  · exact (show alignB x = false by rw [e, h1]; rfl) ▸ k _ (by k_extra "sb9")
  repeat (k_extra "v32")
  refine ⟨fun h2 => ?_, fun h2 => ?_⟩
  rotate_left
  · exact (show alignB x = false by rw [e, h1]; dsimp only [M3s]; rw [h2]; rfl) ▸ k _ (by k_extra "sb9")
  repeat (k_extra "v32")
  refine ⟨fun h3 => ?_, fun h3 => ?_⟩
  rotate_left
  · exact (show alignB x = false by rw [e, h1]; dsimp only [M3s]; rw [h2, h3]; rfl) ▸ k _ (by k_extra "sb9")
  repeat (k_extra "v32")
  have e3 : alignB x = ([Str.ofString "Min", Str.ofString "Mid", Str.ofString "Max"].any fun y => y == Txt.slice x (some 5) Option.none) := by rw [e, h1]; dsimp only [M3s]; rw [h2, h3]; simp only [Bool.true_and]
  show R (.bool _) _
  exact to_bool e3 (k _ (by k_extra "sb9"))
end
end
section
open PySem PySem.W PyProof.Rows PyProof.V PySem.Spec
open PySem.SeqAt
open Classical in
section
variable {sc : Sc} {d u : Nat} {w : World} {m : Nms} {n n0 : Led} {R : PV → Led → Prop} {S : PF → Nms → Led → Prop}
theorem All2.drop1 {α β : Type} {P : α → β → Prop} : ∀ {l : List α} {r : List β}, All2 P l r → All2 P (l.drop 1) (r.drop 1)
  | [], [], _ => trivial
  | _ :: _, _ :: _, h => h.2
  | [], _ :: _, h => h.elim
  | _ :: _, [], h => h.elim
theorem All2.take1 {α β : Type} {P : α → β → Prop} : ∀ {l : List α} {r : List β}, All2 P l r → All2 P (l.take 1) (r.take 1)
  | [], [], _ => trivial
  | _ :: _, _ :: _, h => ⟨h.1, trivial⟩
  | [], _ :: _, h => h.elim
  | _ :: _, [], h => h.elim
theorem pick_from (vs : List Value) : slicePick vs.toArray (some 1) Option.none Option.none = (vs.drop 1).toArray := by
  have e : sliceBounds (some 1) Option.none Option.none vs.toArray.size = (((min 1 vs.toArray.size : Nat) : Int), ((vs.toArray.size : Nat) : Int), 1) := by
    simp only [sliceBounds, Option.getD_none, show (1 : Int) > 0 by decide, if_true, if_neg (show ¬ ((1 : Int) < 0) by decide)]
    congr 1
    omega
  rw [kmk_pick_nat _ e]
  show ((vs.drop (min 1 vs.toArray.size)).take (vs.toArray.size - min 1 vs.toArray.size)).toArray = _
  rw [List.size_toArray, kmk_drop_min, List.take_of_length_le (by rw [List.length_drop]; omega)]
theorem pick_to (vs : List Value) : slicePick vs.toArray Option.none (some 1) Option.none = (vs.take 1).toArray := by
  have e : sliceBounds Option.none (some 1) Option.none vs.toArray.size = (((0 : Nat) : Int), ((min 1 vs.toArray.size : Nat) : Int), 1) := by
    simp only [sliceBounds, Option.getD_none, show (1 : Int) > 0 by decide, if_true, if_neg (show ¬ ((1 : Int) < 0) by decide)]
    congr 1
    congr 1
    omega
  rw [kmk_pick_nat _ e]
  show ((vs.drop 0).take (min 1 vs.toArray.size - 0)).toArray = _
  rw [List.drop_zero, Nat.sub_zero, List.size_toArray, kmk_take_min]
abbrev SlL (b : Expr) : Prop := ∀ (l D : Addr), subscripted b false (.ref l) (.ref D) = operate [.ref D, .ref l] (getItem (.ref l) (.ref D))
inductive KStrs (n1 : Led) (f : List Str → List Str) (R : PV → Led → Prop) (va : PV) : Prop
  | mk (D : _) (ws : _) (f0 : va = .ref D) (f1 : LstAt n1 D (ws.map .str)) (f2 : ws.length < 1000) (f3 : ∀ D' n2, Sub n1 n2 → LstAt n2 D' ((f ws).map .str) → R (.ref D') n2) : KStrs n1 f R va
theorem Ev.lcutFrom {a : Expr} {k : Nat} {p1 p p' : Pos} (h : Ev sc d u w m n a fun va n1 => KStrs n1 (List.drop 1) R va)
    (hs : autoParam (SlL (.Slice (some (.Constant (.int 1) k p1)) Option.none Option.none p')) aZ) (ht : autoParam (∀ (l : Addr) (v : Value), letTemporaryGo a (.ref l) v = pure ()) aZ) : Ev sc d u w m n (.Subscript a (.Slice (some (.Constant (.int 1) k p1)) Option.none Option.none p') p) R := by
  intro c hc s Q E A q
  refine Subscript_ (h c hc s _ E A fun v1 p1 n1 h1 t1 i1 r1 A1 => ?_)
  refine wpAny_Slice (evalPart_some_step (wpAny_Constant_int (evalPart_none_step (evalPart_none_step ?_))))
  obtain ⟨D, ws, rfl, hD, hl, r2⟩ := r1
  obtain rfl := i1.ref
  obtain ⟨m', hm', F, N⟩ := A1
  obtain ⟨vs, ha, hi⟩ := hD.isList
  have hz : vs.length = ws.length := by rw [ha.len, List.length_map]
  refine kmk_slice (s := { s with heap := h1, toks := _ }) F N (hi N) (.int _ _) .none (fun D' h2 F2 N2 hlt => ?_) (hs _ _) (ht _) (by rw [List.size_toArray, sizeLine_eq, hz]; omega)
  rw [pick_from] at N2
  refine q (.ref D') (.ref D') _ h2 _ rfl (r2 D' _ (Sub.tail (Sub.refl _)) ⟨vs.drop 1, 0, .head _, ?_⟩) ⟨m', hm', F2, N2⟩
  rw [List.map_drop]
  exact ha.drop1
theorem Ev.lcutTo {a : Expr} {k : Nat} {p1 p p' : Pos} (h : Ev sc d u w m n a fun va n1 => KStrs n1 (List.take 1) R va)
    (hs : autoParam (SlL (.Slice Option.none (some (.Constant (.int 1) k p1)) Option.none p')) aZ) (ht : autoParam (∀ (l : Addr) (v : Value), letTemporaryGo a (.ref l) v = pure ()) aZ) : Ev sc d u w m n (.Subscript a (.Slice Option.none (some (.Constant (.int 1) k p1)) Option.none p') p) R := by
  intro c hc s Q E A q
  refine Subscript_ (h c hc s _ E A fun v1 p1 n1 h1 t1 i1 r1 A1 => ?_)
  refine wpAny_Slice (evalPart_none_step (evalPart_some_step (wpAny_Constant_int (evalPart_none_step ?_))))
  obtain ⟨D, ws, rfl, hD, hl, r2⟩ := r1
  obtain rfl := i1.ref
  obtain ⟨m', hm', F, N⟩ := A1
  obtain ⟨vs, ha, hi⟩ := hD.isList
  have hz : vs.length = ws.length := by rw [ha.len, List.length_map]
  refine kmk_slice (s := { s with heap := h1, toks := _ }) F N (hi N) .none (.int _ _) (fun D' h2 F2 N2 hlt => ?_) (hs _ _) (ht _) (by rw [List.size_toArray, sizeLine_eq, hz]; omega)
  rw [pick_to] at N2
  refine q (.ref D') (.ref D') _ h2 _ rfl (r2 D' _ (Sub.tail (Sub.refl _)) ⟨vs.take 1, 0, .head _, ?_⟩) ⟨m', hm', F2, N2⟩
  rw [List.map_take]
  exact ha.take1
theorem Ev.split0 {o : Str} {q1 q6 q7 : Pos} {x : Str} {pl1 : Fc w → Sem Bool} (hm : m.lookup o = some (.str x)) (hx : x.length < 500)
    (h : ∀ D n2, Sub n n2 → LstAt n2 D ((Txt.words x).map .str) → R (.ref D) n2)
    (hk : autoParam (∀ c : Fc w, (c.env sc).kindOf o = some .local) aY) (hd : autoParam ((o == Str.ofString "__debug__") = false) aW)
    (e1 : autoParam (∀ c : Fc w, eval (.Call (.Attribute (.Name o q1) (Str.ofString "split") q6) [] [] q7) (c.env sc) = (do
      let ov ← eval (.Name o q1) (c.env sc)
      standAt q6.atName
      let (f, first) ← holding [ov] (getMethod ov (Str.ofString "split") (pl1 c))
      callWith q7 f first (backTo q7 (starEach [] (c.env sc))) (backToKw q7 (keywordEach [] (c.env sc))))) aY) :
    Ev sc d u w m n (.Call (.Attribute (.Name o q1) (Str.ofString "split") q6) [] [] q7) R := by
  intro c hc s Q E A q
  k_extra "oa"
  obtain ⟨v', hv, hp'⟩ := hm' o _ hm
  obtain ⟨t, rfl⟩ := hp'.str
  refine methodCall_KW (pl := pl1 c) (nameX_L F hv ?_ hc.hk (hk c) hd) (e1 c)
  with_reducible refine GM.split ?_
  refine PyProof.Rows.callWith_method0 ?_
  refine KSpl.split0 F N (fun D l h' k' e a F' N' hlt => ?_) (by rw [sizeLine_eq]; omega)
  refine q (.ref D) (.ref D) _ h' k' rfl (h D _ (Sub.tail (Sub.refl _)) ⟨strValues l, 0, .head _, ?_⟩) ⟨m', hm', F', N'⟩
  rw [← e]
  exact all2_strs l
theorem all2_3' {α β : Type} {P : α → β → Prop} {l : List α} {b0 b1 b2 : β} (h : All2 P l [b0, b1, b2]) : ∃ a0 a1 a2, l = [a0, a1, a2] ∧ P a0 b0 ∧ P a1 b1 ∧ P a2 b2 := by
  exact h.three
theorem strs_unique : ∀ {vs : List Value} {xs ys : List Str}, All2 PvIs vs (xs.map .str) → All2 PvIs vs (ys.map .str) → xs = ys
  | [], [], [], _, _ => rfl
  | _ :: _, x :: _, y :: _, h, h' => by
    obtain ⟨t, e⟩ := h.1.str
    obtain ⟨t', e'⟩ := h'.1.str
    rw [e] at e'
    injection e' with e1
    rw [e1, strs_unique h.2 h'.2]
  | [], _ :: _, _, h, _ => h.elim
  | [], [], _ :: _, _, h => h.elim
  | _ :: _, [], _, h, _ => h.elim
  | _ :: _, _ :: _, [], _, h => h.elim
theorem lst_unique {h₀ h : Heap} {L a : Addr} {xs ys : List Str} (N : News h₀ L h n) (h1 : LstAt n a (xs.map .str)) (h2 : LstAt n a (ys.map .str)) : xs = ys := by
  obtain ⟨vs, a1, k1⟩ := h1.isList
  obtain ⟨us, a2, k2⟩ := h2.isList
  obtain ⟨o, g1, _, _, d1⟩ := k1 N
  obtain ⟨o', g2, _, _, d2⟩ := k2 N
  rw [g1] at g2
  obtain rfl := Option.some.inj g2
  rw [d1] at d2
  injection d2 with d3
  have d4 : vs = us := by injection d3
  subst d4
  exact strs_unique a1 a2
noncomputable def isXs (n : Led) (xs : List Str) (v : Value) : Bool := decide (∃ a ys, v = .ref a ∧ LstAt n a (ys.map .str) ∧ ys = xs)
theorem isXs_eq {h₀ h : Heap} {L a : Addr} {xs ys : List Str} (N : News h₀ L h n) (h1 : LstAt n a (ys.map .str)) : isXs n xs (.ref a) = (ys == xs) := by
  unfold isXs
  classical
  by_cases e : ys = xs
  · exact (decide_eq_true ⟨a, ys, rfl, h1, e⟩).trans (beq_iff_eq.mpr e).symm
  · refine (decide_eq_false ?_).trans (beq_eq_false_iff_ne.mpr e).symm
    rintro ⟨a', zs, e1, h2, e2⟩
    injection e1 with e1
    subst e1
    exact e ((lst_unique N h1 h2).trans e2)
theorem Op.niTL (hu1 : 1 ≤ u) {D A0 A1 A2 b : Addr} {xs y0 y1 y2 : List Str} (hT : TupAt n D [.ref A0, .ref A1, .ref A2]) (h0 : LstAt n A0 (y0.map .str)) (h1 : LstAt n A1 (y1.map .str)) (h2 : LstAt n A2 (y2.map .str)) (hb : LstAt n b (xs.map .str)) (h : R (.bool (!(y0 == xs || (y1 == xs || y2 == xs)))) n) : Op sc d u w m n [.ref b, .ref D] (cmT .NotIn) R := by
  intro vs hv c hc s Q E A q
  k_extra "v"
  obtain rfl := i1.ref
  obtain rfl := i2.ref
  k_extra "oa"
  obtain ⟨us, c', hm, ha⟩ := hT
  obtain ⟨w0, w1, w2, rfl, e0, e1, e2⟩ := all2_3' ha
  obtain rfl := e0.ref
  obtain rfl := e1.ref
  obtain rfl := e2.ref
  have hu : (c.A sc).in1.units < cLine := Nat.lt_of_le_of_lt (Nat.add_le_add_left hu1 c.un) hc.hu
  have one : ∀ (a : Addr) (ys : List Str), LstAt n a (ys.map .str) → EqAt (c.A sc).in1 s (.ref a) (.ref b) (isXs n xs (.ref a)) := fun a ys hl => by
    rw [isXs_eq N hl]
    by_cases hab : a = b
    · subst hab
      rw [lst_unique N hl hb, beq_self_eq_true]
      exact EqAt.same _
    · exact EqAt.of_refs hab (rc_strs N hl hb hu)
  refine notIn_tupleAt (isXs n xs) (News.isTup N hm) (fun y hy => ?_) ?_
  · have hy' := Array.mem_def.mp hy
    simp only [List.mem_cons, List.not_mem_nil, or_false] at hy'
    rcases hy' with rfl | rfl | rfl
    · exact one _ _ h0
    · exact one _ _ h1
    · exact one _ _ h2
  · have e : (#[Value.ref A0, .ref A1, .ref A2] : Array Value).any (isXs n xs) = (y0 == xs || (y1 == xs || y2 == xs)) := by
      rw [← Array.any_toList]
      show (isXs n xs (.ref A0) || (isXs n xs (.ref A1) || (isXs n xs (.ref A2) || false))) = _
      rw [isXs_eq N h0, isXs_eq N h1, isXs_eq N h2, Bool.or_false]
    refine q _ (.bool (!(y0 == xs || (y1 == xs || y2 == xs)))) n s.heap s.toks ?_ h ⟨m', hm', F, N⟩
    first | (rw [e]; rfl) | exact congrArg (fun z => !z) e | exact congrArg (fun z => Value.bool (!z)) e
end
end
section
open PySem PySem.W PyProof.Rows PyProof.V PySem.Spec
section
variable {sc : Sc} {d u : Nat} {w : World} {m : Nms} {n n0 : Led} {R : PV → Led → Prop} {S : PF → Nms → Led → Prop}
theorem align_c {fp p : Pos} {e : Expr} {es : List Expr} (hd : 10 ≤ d) (hu : 80 ≤ u) (h : Evs sc d u w m n p (e :: es) (KCall 10 80 364 w R)) (hx : autoParam (∀ c : Fc w, (c.env sc).kindOf (Str.ofString "is_align") = some .globalImplicit) aY)
    (h1 : autoParam (CallEq (Str.ofString "is_align") fp p e es) aY)
    (h2 : autoParam (StarEq e es) aY) (h3 : autoParam (NoStar p es) aY) : Ev sc d u w m n (.Call (.Name (Str.ofString "is_align") fp) (e :: es) [] p) R :=
  Ev.call (f := 364) (fun w => by kernel_rfl) (fun w => by kernel_rfl) h hd hu hx (by k_extra "w") h1 h2 h3
noncomputable abbrev undefer (l : List Str) : List Str := if (l.take 1 == [Str.ofString "defer"]) = true then l.drop 1 else l
theorem Op.eqLL1 {a b : Addr} {xs : List Str} {y : Str} (ha : LstAt n a (xs.map .str)) (hb : LstAt n b [.str y]) (h : R (.bool (xs == [y])) n) : Op sc d u w m n [.ref a, .ref b] (cmT .Eq) R := Op.eqLL (ys := [y]) ha hb h
theorem Op.eqLL0 {a b : Addr} {xs : List Str} (ha : LstAt n a (xs.map .str)) (hb : LstAt n b []) (h : R (.bool (xs == [])) n) : Op sc d u w m n [.ref a, .ref b] (cmT .Eq) R := Op.eqLL (ys := []) ha hb h
theorem Op.niTL3 (hu1 : 1 ≤ u) {D A0 A1 A2 b : Addr} {xs : List Str} {y1 y2 : Str} (hT : TupAt n D [.ref A0, .ref A1, .ref A2]) (h0 : LstAt n A0 []) (h1 : LstAt n A1 [.str y1]) (h2 : LstAt n A2 [.str y2]) (hb : LstAt n b (xs.map .str)) {r : Bool} (e : ([] == xs || ([y1] == xs || [y2] == xs)) = r) (h : R (.bool (!r)) n) : Op sc d u w m n [.ref b, .ref D] (cmT .NotIn) R :=
  Op.niTL hu1 (y0 := []) (y1 := [y1]) (y2 := [y2]) hT h0 h1 h2 hb (e ▸ h)
theorem fit_spec {x a : Str} {ws : List Str} {b : Bool} (hx : x.length < 500) (hl : (Txt.words x).length < 1000) (hw : undefer (Txt.words x) = ws)
    (hc : (ws = [] ∧ a = Str.ofString "xMidYMid" ∧ b = false) ∨ ∃ rest, ws = a :: rest ∧ a.length < 1000 ∧ alignB a = true ∧ rest.length ≤ 1 ∧ ([] == rest || ([Str.ofString "meet"] == rest || [Str.ofString "slice"] == rest)) = true ∧ (rest == [Str.ofString "slice"]) = b)
    (k : ∀ n' D, Sub n n' → TupAt n' D [.str a, .bool b] → R (.ref D) n') : PCl 40 300 371 w [.str x] n R := by
  (k_with "v33" => with_reducible first | (refine Ev.lcutTo ?_) | (refine Ev.lcutFrom ?_) | (refine align_c (by decide) (by decide) ?_) | (refine lenl_c ?_) | (refine Tst.or3 ?_) | k_extra "ev1")
  refine PCl.enter (d' := 30) (u' := 260) (by k_is) (by k_is) (hb1 (x1 := Str.ofString "text") (fun _ _ => BindsTo.of_eq rfl) (by decide +kernel)) ?_ (by decide) (by decide)
  repeat (k_extra "v33")
  refine Ev.split0 (by k_extra "w") hx fun D1 n1 s1 l1 => ?_
  repeat (k_extra "v33")
  refine Ex1.meet (fun m n' => ∃ D, m = [(Str.ofString "words", .ref D)] ∧ Sub n n' ∧ LstAt n' D (ws.map .str)) ?_ ?_
  · repeat (k_extra "v33")
    refine ⟨D1, _, rfl, l1, hl, fun D2 n2 s2 l2 => ?_⟩
    repeat (k_extra "v33")
    refine Op.eqLL1 (LstAt.sub l2 (by assumption)) (by assumption) ?_
    repeat (k_extra "v33")
    refine ⟨fun h9 => ?_, fun h9 => ?_⟩
    · repeat (k_extra "v33")
      refine ⟨D1, _, rfl, LstAt.sub l1 (by k_extra "sb9"), hl, fun D3 n3 s3 l3 => ?_⟩
      repeat (k_extra "v33")
      have e : ws = (Txt.words x).drop 1 := by rw [← hw]; exact if_pos h9
      exact ⟨_, Le.cons (by k_extra "w") Le.nil, D3, rfl, by k_extra "sb9", e ▸ l3⟩
    · repeat (k_extra "v33")
      have e : ws = Txt.words x := by rw [← hw]; exact if_neg (by rw [h9]; decide)
      exact ⟨_, Le.cons (by k_extra "w") Le.nil, D1, rfl, by k_extra "sb9", e ▸ LstAt.sub l1 (by k_extra "sb9")⟩
  · rintro m4 n4 ⟨D, rfl, s4, l4⟩
    repeat (k_extra "v33")
    refine Ex1.ite ?_
    repeat (k_extra "v33")
    refine Op.eqLL0 (LstAt.sub l4 (by assumption)) (by assumption) ?_
    repeat (k_extra "v33")
    rcases hc with ⟨rfl, rfl, rfl⟩ | ⟨rest, rfl, ha, hal, hr, hin, hsl⟩
    · repeat (k_extra "v33")
      exact k _ _ (by k_extra "sb9") (by assumption)
    · repeat (k_extra "v33")
      have l5 : LstAt n4 D (.str a :: rest.map .str) := l4
      have g0 : (PV.str a :: rest.map PV.str).length < 1000 := by rw [List.length_cons, List.length_map]; omega
      refine Two.no rfl ?_
      repeat (k_extra "v33")
      refine Ex1.ite ?_
      repeat (k_extra "v33")
      refine Tst.val ?_
      repeat (k_extra "v33")
      refine Op.lst0 (LstAt.sub l5 (by k_extra "sb9")) ?_ g0
      repeat (k_extra "v33")
      refine align_spec ha fun n5 s5 => ?_
      rw [hal]
      repeat (k_extra "v33")
      refine Op.lenL (k := 1 + (rest.length : Int)) (LstAt.sub l5 (by k_extra "sb9")) (by rw [List.length_cons, List.length_map]; omega) (by rw [List.length_cons, List.length_map]; omega) ?_
      have g1 : decide (1 + (rest.length : Int) > 2) = false := decide_eq_false (by omega)
      repeat (k_extra "v33")
      refine ⟨D, a :: rest, rfl, LstAt.sub l4 (by k_extra "sb9"), by rw [List.length_cons]; omega, fun D6 n6 s6 l6 => ?_⟩
      repeat (k_extra "v33")
      have l7 : LstAt n6 D6 (rest.map .str) := l6
      refine Op.niTL3 (by decide) (by k_extra "ta9") (by k_extra "ta9") (by k_extra "ta9") (by k_extra "ta9") (LstAt.sub l7 (by k_extra "sb9")) hin ?_
      repeat (k_extra "v33")
      refine Op.lst0 (LstAt.sub l5 (by k_extra "sb9")) ?_ g0
      repeat (k_extra "v33")
      refine ⟨D, a :: rest, rfl, LstAt.sub l4 (by k_extra "sb9"), by rw [List.length_cons]; omega, fun D8 n8 s8 l8 => ?_⟩
      repeat (k_extra "v33")
      have l10 : LstAt n8 D8 (rest.map .str) := l8
      refine Op.eqLL1 (LstAt.sub l10 (by assumption)) (by assumption) ?_
      rw [hsl]
      repeat (k_extra "v33")
      exact k _ _ (by k_extra "sb9") (by assumption)
end
section
variable {sc : Sc} {d u : Nat} {w : World} {m : Nms} {n n0 : Led} {R : PV → Led → Prop} {S : PF → Nms → Led → Prop}
theorem times_c {fp p : Pos} {e : Expr} {es : List Expr} (hd : 30 ≤ d) (hu : 240 ≤ u) (h : Evs sc d u w m n p (e :: es) (KCall 30 240 110 w R)) (hx : autoParam (∀ c : Fc w, (c.env sc).kindOf (Str.ofString "times") = some .globalImplicit) aY)
    (h1 : autoParam (CallEq (Str.ofString "times") fp p e es) aY)
    (h2 : autoParam (StarEq e es) aY) (h3 : autoParam (NoStar p es) aY) : Ev sc d u w m n (.Call (.Name (Str.ofString "times") fp) (e :: es) [] p) R :=
  Ev.call (f := 110) (fun w => by kernel_rfl) (fun w => by kernel_rfl) h hd hu hx (by k_extra "w") h1 h2 h3
theorem minus_c {fp p : Pos} {e : Expr} {es : List Expr} (hd : 30 ≤ d) (hu : 240 ≤ u) (h : Evs sc d u w m n p (e :: es) (KCall 30 240 103 w R)) (hx : autoParam (∀ c : Fc w, (c.env sc).kindOf (Str.ofString "minus") = some .globalImplicit) aY)
    (h1 : autoParam (CallEq (Str.ofString "minus") fp p e es) aY)
    (h2 : autoParam (StarEq e es) aY) (h3 : autoParam (NoStar p es) aY) : Ev sc d u w m n (.Call (.Name (Str.ofString "minus") fp) (e :: es) [] p) R :=
  Ev.call (f := 103) (fun w => by kernel_rfl) (fun w => by kernel_rfl) h hd hu hx (by k_extra "w") h1 h2 h3
theorem divided_c {fp p : Pos} {e : Expr} {es : List Expr} (hd : 30 ≤ d) (hu : 240 ≤ u) (h : Evs sc d u w m n p (e :: es) (KCall 30 240 117 w R)) (hx : autoParam (∀ c : Fc w, (c.env sc).kindOf (Str.ofString "divided") = some .globalImplicit) aY)
    (h1 : autoParam (CallEq (Str.ofString "divided") fp p e es) aY)
    (h2 : autoParam (StarEq e es) aY) (h3 : autoParam (NoStar p es) aY) : Ev sc d u w m n (.Call (.Name (Str.ofString "divided") fp) (e :: es) [] p) R :=
  Ev.call (f := 117) (fun w => by kernel_rfl) (fun w => by kernel_rfl) h hd hu hx (by k_extra "w") h1 h2 h3
theorem part_c {fp p : Pos} {e : Expr} {es : List Expr} (hd : 20 ≤ d) (hu : 160 ≤ u) (h : Evs sc d u w m n p (e :: es) (KCall 20 160 378 w R)) (hx : autoParam (∀ c : Fc w, (c.env sc).kindOf (Str.ofString "part_of") = some .globalImplicit) aY)
    (h1 : autoParam (CallEq (Str.ofString "part_of") fp p e es) aY)
    (h2 : autoParam (StarEq e es) aY) (h3 : autoParam (NoStar p es) aY) : Ev sc d u w m n (.Call (.Name (Str.ofString "part_of") fp) (e :: es) [] p) R :=
  Ev.call (f := 378) (fun w => by kernel_rfl) (fun w => by kernel_rfl) h hd hu hx (by k_extra "w") h1 h2 h3
theorem matrix_c {fp p : Pos} {e : Expr} {es : List Expr} (hd : 30 ≤ d) (hu : 240 ≤ u) (h : Evs sc d u w m n p (e :: es) (KCall 30 240 281 w R)) (hx : autoParam (∀ c : Fc w, (c.env sc).kindOf (Str.ofString "Matrix") = some .globalImplicit) aY)
    (h1 : autoParam (CallEq (Str.ofString "Matrix") fp p e es) aY)
    (h2 : autoParam (StarEq e es) aY) (h3 : autoParam (NoStar p es) aY) : Ev sc d u w m n (.Call (.Name (Str.ofString "Matrix") fp) (e :: es) [] p) R :=
  Ev.call (f := 281) (fun w => by kernel_rfl) (fun w => by kernel_rfl) h hd hu hx (by k_extra "w") h1 h2 h3
theorem hb5D {w : World} {fd : FuncData} {scope : Scope} {x1 x2 x3 x4 x5 : Str} {p1 p2 p3 p4 p5 : PV} (hB : ∀ s : Shared, (∀ a o, (Mine.hd.heap_1 w.params).lookup a = some o → s.heap.get? a = some o) → ∀ v1 v2 v3 v4 v5, BindsTo s fd ⟨[v1, v2, v3, v4, v5], []⟩ [(x1, v1), (x2, v2), (x3, v3), (x4, v4), (x5, v5)]) (hx : ∀ y ∈ [x1, x2, x3, x4, x5], scope.names.lookup y = some .local) :
    ∀ (s : Shared) vs, (∀ a o, (Mine.hd.heap_1 w.params).lookup a = some o → s.heap.get? a = some o) → All2 PvIs vs [p1, p2, p3, p4, p5] → ∃ binds, BindsTo s fd ⟨vs, []⟩ binds ∧ NmsIs (fun y => binds.reverse.lookup y) [(x5, p5), (x4, p4), (x3, p3), (x2, p2), (x1, p1)] ∧ ∀ y ∈ binds, scope.names.lookup y.1 = some .local := by
  intro s vs hh hv
  obtain ⟨v1, v2, v3, v4, v5, rfl, i1, i2, i3, i4, i5⟩ := all2_5 hv
  refine ⟨_, hB s hh v1 v2 v3 v4 v5, nmsIs_all ⟨⟨rfl, i5⟩, ⟨rfl, i4⟩, ⟨rfl, i3⟩, ⟨rfl, i2⟩, ⟨rfl, i1⟩, trivial⟩, fun y hy => hx y.1 ?_⟩
  have := List.mem_map_of_mem (f := Prod.fst) hy
  exact this
theorem part_k {x : Str} {a : Int} (h : PartIs x a) (k : ∀ D p q n', Sub n n' → T2 w n' D p q → Bd 2 p q → rv p q = rv a 2 → R (.ref D) n') : PCl 20 160 378 w [.str x] n R := by
  intro vs hv
  obtain ⟨v1, rfl, i1⟩ := all2_1 hv
  obtain ⟨t, rfl⟩ := i1.str
  exact cl_mono (part_spec h) (by rintro v nw ⟨D, nw', p, q, rfl, rfl, h1, h2, h3, h4⟩; exact ⟨.ref D, rfl, k D p q _ h1 h2 h3 h4⟩)
theorem All2.unr {vs : List Value} {a : Addr} {r : List PV} {l' : List Value} (h : All2 PvIs vs (.ref a :: r)) (k : ∀ {l}, All2 PvIs l r → l = l') : vs = .ref a :: l' := by
  cases vs with
  | nil => exact h.elim
  | cons v l => rw [PvIs.ref h.1, k h.2]
theorem all2_6r {vs : List Value} {a1 a2 a3 a4 a5 a6 : Addr} (h : All2 PvIs vs [.ref a1, .ref a2, .ref a3, .ref a4, .ref a5, .ref a6]) : vs = [.ref a1, .ref a2, .ref a3, .ref a4, .ref a5, .ref a6] :=
  h.unr fun h => h.unr fun h => h.unr fun h => h.unr fun h => h.unr fun h => h.unr fun h => List.eq_nil_of_length_eq_zero h.len
theorem matrix_k {a1 a2 a3 a4 a5 a6 : Addr} {q1 q2 q3 q4 q5 q6 : Rat} (h1 : R2 w n a1 q1) (h2 : R2 w n a2 q2) (h3 : R2 w n a3 q3) (h4 : R2 w n a4 q4) (h5 : R2 w n a5 q5) (h6 : R2 w n a6 q6) (k : ∀ M n', Sub n n' → MatIs w n' M q1 q2 q3 q4 q5 q6 → R (.ref M) n') : PCl 30 240 281 w [.ref a1, .ref a2, .ref a3, .ref a4, .ref a5, .ref a6] n R := by
  intro vs hv
  obtain rfl := all2_6r hv
  exact cl_mono matrix_new (by rintro v nw ⟨M, dM, t1, t2, t3, t4, t5, t6, rfl, rfl, _⟩; exact ⟨.ref M, rfl, k M _ (Sub.tail (Sub.tail (Sub.refl _))) (MatIs.new h1 h2 h3 h4 h5 h6 (Sub.tail (Sub.tail (Sub.refl _))) (.head _) (.tail _ (.head _)))⟩)
theorem fitk_none {B CW CH X Y W H : Addr} {x0 x1 y0 y1 w0 w1 h0 h1 c0 c1 e0 e1 : Int} (hB : TupAt n B [.ref X, .ref Y, .ref W, .ref H])
    (tx : T2 w n X x0 x1) (bx : Bd 15 x0 x1) (ty : T2 w n Y y0 y1) (by_ : Bd 15 y0 y1) (tw : T2 w n W w0 w1) (bw : Bd 15 w0 w1) (th : T2 w n H h0 h1) (bh : Bd 15 h0 h1) (pw : 0 < w0) (ph : 0 < h0)
    (tc : T2 w n CW c0 c1) (bc : Bd 6 c0 c1) (te : T2 w n CH e0 e1) (be : Bd 6 e0 e1) {sl : Bool} (k : ∀ M n', Sub n n' → MatIs w n' M (rv c0 c1 / rv w0 w1) 0 0 (rv e0 e1 / rv h0 h1) (0 - rv x0 x1 * (rv c0 c1 / rv w0 w1)) (0 - rv y0 y1 * (rv e0 e1 / rv h0 h1)) → R (.ref M) n') : PCl 90 720 386 w [.ref B, .ref CW, .ref CH, .str (Str.ofString "none"), .bool sl] n R := by
  (k_with "t9" => with_reducible first | assumption | (refine T2.sub (by assumption) ?_; k_extra "sb9") | exact T2_zero | exact TupAt.t2 (by k_extra "ta9"))
  (k_with "v34" => with_reducible first | (refine times_c (by decide) (by decide) ?_) | (refine minus_c (by decide) (by decide) ?_) | (refine divided_c (by decide) (by decide) ?_) | (refine part_c (by decide) (by decide) ?_) | (refine matrix_c (by decide) (by decide) ?_) | (refine compare_c (by decide) (by decide) ?_) | (refine times_k (by k_extra "t9") (by k_extra "t9") (by k_extra "b9") (by k_extra "b9") (by decide) ?_; intro D9 x9 y9 n9 s9 t9 b9 e9) | (refine minus_k (by k_extra "t9") (by k_extra "t9") (by k_extra "b9") (by k_extra "b9") (by decide) ?_; intro D9 x9 y9 n9 s9 t9 b9 e9) | (refine divided_k (by k_extra "t9") (by k_extra "t9") (by k_extra "b9") (by k_extra "b9") (by decide) (by assumption) ?_; intro D9 x9 y9 n9 s9 t9 b9 e9) | (refine compare_k (by k_extra "t9") (by k_extra "t9") (by k_extra "b9") (by k_extra "b9") (by decide) ?_; intro c9 f9 g9) | (refine part_k (by assumption) ?_; intro D9 x9 y9 n9 s9 t9 b9 e9) | (refine top_zero ?_) | (refine ⟨_, _, _, rfl, rfl, rfl, by assumption, ?_⟩) | (refine ⟨_, _, rfl, rfl, by assumption, ?_⟩) | k_extra "ev0")
  refine PCl.enterD (d' := 80) (u' := 650) (by k_is) (by k_is) (hb5D (x1 := Str.ofString "box") (x2 := Str.ofString "width") (x3 := Str.ofString "height") (x4 := Str.ofString "align") (x5 := Str.ofString "is_slice") (fun _ hh _ _ _ _ _ => BindsTo.of_defaults rfl (hh _ _ (by k_is)) rfl rfl rfl) (by decide +kernel)) ?_ (by decide) (by decide)
  repeat (k_extra "v34")
  refine matrix_k (q2 := 0) (q3 := 0) ?_ ?_ ?_ ?_ ?_ ?_ fun M n' s' hM => k M n' ?_ hM
  all_goals first | exact R2_zero | exact R2.of (by k_extra "t9") (by k_extra "b9") (by simp only [*, rv_zero]) | k_extra "sb9"
theorem fitk_some {B CW CH X Y W H : Addr} {x0 x1 y0 y1 w0 w1 h0 h1 c0 c1 e0 e1 : Int} (hB : TupAt n B [.ref X, .ref Y, .ref W, .ref H])
    (tx : T2 w n X x0 x1) (bx : Bd 15 x0 x1) (ty : T2 w n Y y0 y1) (by_ : Bd 15 y0 y1) (tw : T2 w n W w0 w1) (bw : Bd 15 w0 w1) (th : T2 w n H h0 h1) (bh : Bd 15 h0 h1) (pw : 0 < w0) (ph : 0 < h0)
    (tc : T2 w n CW c0 c1) (bc : Bd 6 c0 c1) (te : T2 w n CH e0 e1) (be : Bd 6 e0 e1) {al : Str} {a b : Int} {sl : Bool} (hal : (al != Str.ofString "none") = true) (hp1 : PartIs (Txt.slice al (some 1) (some 4)) a) (hp2 : PartIs (Txt.slice al (some 5) none) b) (hlen : al.length < 1000)
    (k : ∀ M n', Sub n n' → MatIs w n' M (fitSc (rv w0 w1) (rv h0 h1) (rv c0 c1) (rv e0 e1) sl) 0 0 (fitSc (rv w0 w1) (rv h0 h1) (rv c0 c1) (rv e0 e1) sl) (rv a 2 * (rv c0 c1 - rv w0 w1 * fitSc (rv w0 w1) (rv h0 h1) (rv c0 c1) (rv e0 e1) sl) - rv x0 x1 * fitSc (rv w0 w1) (rv h0 h1) (rv c0 c1) (rv e0 e1) sl) (rv b 2 * (rv e0 e1 - rv h0 h1 * fitSc (rv w0 w1) (rv h0 h1) (rv c0 c1) (rv e0 e1) sl) - rv y0 y1 * fitSc (rv w0 w1) (rv h0 h1) (rv c0 c1) (rv e0 e1) sl) → R (.ref M) n') : PCl 90 720 386 w [.ref B, .ref CW, .ref CH, .str al, .bool sl] n R := by
  (k_with "t9" => with_reducible first | assumption | (refine T2.sub (by assumption) ?_; k_extra "sb9") | exact T2_zero | exact TupAt.t2 (by k_extra "ta9"))
  refine PCl.enterD (d' := 80) (u' := 650) (by k_is) (by k_is) (hb5D (x1 := Str.ofString "box") (x2 := Str.ofString "width") (x3 := Str.ofString "height") (x4 := Str.ofString "align") (x5 := Str.ofString "is_slice") (fun _ hh _ _ _ _ _ => BindsTo.of_defaults rfl (hh _ _ (by k_is)) rfl rfl rfl) (by decide +kernel)) ?_ (by decide) (by decide)
  repeat (k_extra "v34")
  refine Ev.ifname (by k_extra "w") (by k_extra "w") ?_
  repeat (k_extra "v34")
  intro S9 h9
  refine scale_of (w := w) (n := n9) h9 (by k_extra "t9") (by k_extra "b9") (by k_extra "t9") (by k_extra "b9") ?_
  intro x9 y9 t9 b9 g9
  have hS : rv x9 y9 = fitSc (rv w0 w1) (rv h0 h1) (rv c0 c1) (rv e0 e1) sl := by
    unfold fitSc
    rw [g9]
    simp only [*]
  clear g9
  repeat (k_extra "v34")
  refine matrix_k (q2 := 0) (q3 := 0) ?_ ?_ ?_ ?_ ?_ ?_ fun M n' s' hM => k M n' ?_ hM
  all_goals first | exact R2_zero | exact R2.of (by k_extra "t9") (by k_extra "b9") (by first | exact hS | (simp only [*])) | k_extra "sb9"
end
section
variable {sc : Sc} {d u : Nat} {w : World} {m : Nms} {n n0 : Led} {R : PV → Led → Prop} {S : PF → Nms → Led → Prop}
def XOut (c : Fc w) (sc : Sc) (n0 : Led) (h' : Heap) (x : Addr) : Prop :=
  (∃ m' n' t dd, Fr c.g c.L h' m' ∧ News c.g c.L h' n' ∧ (x, excObjD 70 t dd) ∈ n' ∧ ∀ p ∈ n0, p ∈ n' ∧ p.1 ≠ x) ∨
  (∃ g2 m', RaisedN c.base (c.env sc :: c.outer) x (.ref 70) n0 h' ∧ Fr c.g c.L g2 m' ∧ g2.UpToSlots h')
def XT {α : Type} (sc : Sc) (d u : Nat) (w : World) (m : Nms) (n n0 : Led) (t : Env → Sem α) : Prop :=
  ∀ (c : Fc w), c.Ok sc d u → ∀ (s : Shared) (Q : α → Shared → Prop) (E : Value → Shared → Prop), At c m n s.heap →
    (∀ x h' tk', XOut c sc n0 h' x → E (.ref x) { s with heap := h', toks := tk' }) → wpAny (model PG w) (c.A sc) (t (c.env sc)) Q E s
abbrev XEv (sc : Sc) (d u : Nat) (w : World) (m : Nms) (n n0 : Led) (e : Expr) : Prop := XT sc d u w m n n0 (fun env => eval e env)
abbrev XEx (sc : Sc) (d u : Nat) (w : World) (m : Nms) (n n0 : Led) (ss : List Stmt) : Prop := XT sc d u w m n n0 (fun env => execs ss env)
abbrev XEx1 (sc : Sc) (d u : Nat) (w : World) (m : Nms) (n n0 : Led) (st : Stmt) : Prop := XT sc d u w m n n0 (fun env => exec st env)
abbrev KX (sc : Sc) (d u : Nat) (w : World) (n0 : Led) (ss : List Stmt) : PF → Nms → Led → Prop := fun pf m1 n1 => pf = .next ∧ XEx sc d u w m1 n1 n0 ss
theorem XEx.seq {st : Stmt} {ss : List Stmt} (h : Ex1 sc d u w m n st (KX sc d u w n0 ss)) : XEx sc d u w m n n0 (st :: ss) := by
  intro c hc s Q E A q
  refine wpAny_execs_cons (h c hc s _ E A fun f pf m1 n1 h1 t1 i1 r1 A1 => ?_)
  obtain ⟨rfl, r2⟩ := r1
  have hf : f = .next := by cases f <;> first | rfl | exact i1.elim
  subst hf
  exact r2 c hc _ Q E A1 q
theorem XEx.head {st : Stmt} {ss : List Stmt} (h : XEx1 sc d u w m n n0 st) : XEx sc d u w m n n0 (st :: ss) := fun c hc s Q E A q => wpAny_execs_cons (h c hc s _ E A q)
theorem XEx1.ite {t : Expr} {a b : List Stmt} {p : Pos} (h : Tst sc d u w m n t fun b' n1 => Two b' (XEx sc d u w m n1 n0 a) (XEx sc d u w m n1 n0 b)) : XEx1 sc d u w m n n0 (.If t a b p) := by
  intro c hc s Q E A q
  refine wpAny_If (h c hc s _ E A fun v pv n1 h1 t1 i1 r1 A1 => ?_)
  obtain rfl := i1
  cases v
  · exact r1.2 rfl c hc _ Q E A1 q
  · exact r1.1 rfl c hc _ Q E A1 q
theorem sheet_k {msg : Str} (k : ∀ x t dd tk, AllLt x n → R (.ref x) ((x, excObjD 70 t dd) :: (t, tup [.str msg tk] 0) :: n)) : PCl 30 160 70 w [.str msg] n R := by
  intro vs hv
  obtain ⟨v1, rfl, i1⟩ := all2_1 hv
  obtain ⟨tk, rfl⟩ := i1.str
  exact cl_mono sheet_at (by rintro v nw ⟨x, t, dd, rfl, rfl, _, h2, _⟩; exact ⟨.ref x, rfl, k x t dd tk h2⟩)
theorem XEx1.raise {e : Expr} {p : Pos} (h : Ev sc d u w m n e fun pv n1 => ∃ x t dd, pv = .ref x ∧ (x, excObjD 70 t dd) ∈ n1 ∧ ∀ p ∈ n0, p ∈ n1 ∧ p.1 ≠ x) : XEx1 sc d u w m n n0 (.Raise (some e) Option.none p) := by
  intro c hc s Q E A q
  refine raise_sheet (w := w) rfl (h c hc s _ E A fun v pv n1 h1 t1 i1 r1 A1 => ?_)
  obtain ⟨x, t, dd, rfl, hx, hn⟩ := r1
  obtain rfl := i1.ref
  obtain ⟨m', hm', F, N⟩ := A1
  exact raisableS (s := { s with heap := h1, toks := t1 }) F hc.X N hx (q x h1 t1 (.inl ⟨m', n1, t, dd, F, N, hx, hn⟩))
theorem XEx1.ret {e : Expr} {p : Pos} (h : XEv sc d u w m n n0 e) : XEx1 sc d u w m n n0 (.Return (some e) p) := fun c hc s Q E A q => wpAny_Return_some (h c hc s _ E A q)
def PX (d u : Nat) (f : Addr) (w : World) (pvs : List PV) (n : Led) : Prop := ∀ vs, All2 PvIs vs pvs → Cx w d u f vs n
theorem PX.enter {name qual : Str} {params : Arguments} {body : List Stmt} {scope : Scope} {dV kV doc pm cdv ct oc : Value} {an od : Option Addr} {osl : Array (Option Value)} {f : Addr} {pvs : List PV} {m0 : Nms} {d' u' : Nat}
    (ho : (Mine.hd.heap_1 w.params).lookup f = some ⟨oc, od, .func (fnOf name qual params body scope dV kV doc pm an cdv ct), osl⟩) (hcd : codeIn (Mine.hd.heap_1 w.params) cdv qual = true)
    (hb : ∀ s vs, All2 PvIs vs pvs → ∃ binds, BindsTo s (fnOf name qual params body scope dV kV doc pm an cdv ct) ⟨vs, []⟩ binds ∧ NmsIs (fun y => binds.reverse.lookup y) m0 ∧ (∀ y ∈ binds, scope.names.lookup y.1 = some .local))
    (h : XEx ⟨scope, []⟩ d' u' w m0 n n body) (hd : d' + 1 ≤ d) (hu : u' + 3 ≤ u)
    (hco : autoParam (scope.isCoroutine = false) aW) (hgen : autoParam (scope.isGenerator = false) aW) (hk : autoParam (scope.kind = .function) aW) (hcell : autoParam (∀ x ∈ scope.names, x.2 ≠ .cell) aD) : PX d u f w pvs n := by
  intro vs hv
  unfold Cx
  intro loose mean mg mb dp un gd cn cs a ccd cl outer A₀ base h₀ L m' s Q E B F X N T hkc hdp hun hret
  refine wpAny_call ?_
  obtain ⟨binds, hb1, hb2, hb3⟩ := hb s vs hv
  have hroom : dp < recursionLimit := Nat.lt_of_le_of_lt (Nat.le_add_right _ _) hdp
  refine code_def B F X N T rfl rfl hkc ho hcd hroom hb1 hb3 (fun g L' h1 FG F' N' B' X' T' => ?_) hco hgen hk hcell
  let c : Fc w := { dp := dp + 1, un := un + 3, gd := gd, cn := qual, L := L', a := f, ccd := cdv, outer := envX cn cs L a ccd cl :: outer, A₀ := ktrTop dp un gd cn cs L a ccd cl outer, base := base, g := g, loose := loose, mean := mean, mg := mg, mb := mb }
  have hc : c.Ok ⟨scope, []⟩ d' u' := ⟨B', X', T', hk, Nat.lt_of_le_of_lt (by show dp + 1 + d' ≤ dp + d; omega) hdp, Nat.lt_of_le_of_lt (by show un + 3 + u' ≤ un + u; omega) hun⟩
  refine h c hc { s with heap := h1, toks := s.toks + binds.length } _ _ ⟨_, hb2, F', N'⟩ fun x h2 t2 out => ?_
  rcases out with ⟨m2, n2, t, dd, F2, N2, hx, hn⟩ | ⟨g2, m2, R9, F2, U2⟩
  · exact leave_sheet (s' := { s with heap := h2, toks := t2 }) B' F2 N2 hx hn (fun h' R9 U9 => hret x g h' t2 R9 FG U9) hk
  · exact left_up (s' := { s with heap := h2, toks := t2 }) (Around.frames_deeper B'.stack) rfl ((Heap.UpToSlots.of_keeps F2.keep).trans U2) R9 (fun h' R9 U9 => hret x g h' t2 R9 FG U9)
theorem XEv.call {fx : Str} {fp p : Pos} {e : Expr} {es : List Expr} {f : Addr} {d' u' : Nat} (hf : ∀ w : World, nsIn (Mine.hd.heap_1 w.params) mainGlobals fx = some (some (.ref f)))
    (hk : ∀ w : World, keepIn (Mine.hd.heap_1 w.params) (.ref f) = true) (h : Evs sc d u w m n p (e :: es) fun pvs n1 => Sub n0 n1 ∧ PX d' u' f w pvs n1) (hd : d' ≤ d) (hu : u' ≤ u) (hx : autoParam (∀ c : Fc w, (c.env sc).kindOf fx = some .globalImplicit) aY) (hg : autoParam ((fx == Str.ofString "__debug__") = false) aW)
    (h1 : autoParam (CallEq fx fp p e es) aY)
    (h2 : autoParam (StarEq e es) aY) (h3 : autoParam (NoStar p es) aY) :
    XEv sc d u w m n n0 (.Call (.Name fx fp) (e :: es) [] p) := by
  intro c hc s Q E A q
  k_extra "oa"
  refine Call_ (nameX_K F hc.X (topRead_of hc.T) (hf w) ?_ hc.hk (hx c) hg) (h1 _)
  refine callWith_K hc.X (hk w) (h c hc s _ E ⟨m', hm', F, N⟩ fun vs pvs n1 h1 t1 i1 r1 A1 => ?_) (h2 _) (h3 _)
  obtain ⟨m1, hm1, F1, N1⟩ := A1
  obtain ⟨hs, hX⟩ := r1
  refine ⟨hc.X.keeps F1.keep, ?_⟩
  exact cx_use (hX vs i1) (s := { s with heap := h1, toks := t1 }) hc.B F1 hc.X N1 hc.T hc.hk (Nat.lt_of_le_of_lt (Nat.add_le_add_left hd _) hc.hd) (Nat.lt_of_le_of_lt (Nat.add_le_add_left hu _) hc.hu)
    fun x g h' tk' R9 F' U9 => q x h' tk' (.inr ⟨g, m1, raisedN_drop R9 hs, F', U9⟩)
theorem XEx1.unpackX {elts : List Expr} {k : Nat} {tp p : Pos} {e : Expr} (h : XEv sc d u w m n n0 e)
    (h1 : autoParam (∀ c : Fc w, swapsWithSole [Expr.Tuple elts k tp] e p.line (c.env sc) = pure false) aY) (h2 : autoParam (∀ c : Fc w, swappedStores [Expr.Tuple elts k tp] e (c.env sc) = pure none) aY) : XEx1 sc d u w m n n0 (.Assign [.Tuple elts k tp] e p) :=
  fun c hc s Q E A q => Assign_Tuple (h c hc s _ E A q) (h1 c) (h2 c)
end
section
variable {sc : Sc} {d u : Nat} {w : World} {m : Nms} {n n0 : Led} {R : PV → Led → Prop} {S : PF → Nms → Led → Prop}
theorem sheet_c {fp p : Pos} {e : Expr} {es : List Expr} (hd : 30 ≤ d) (hu : 160 ≤ u) (h : Evs sc d u w m n p (e :: es) (KCall 30 160 70 w R)) (hx : autoParam (∀ c : Fc w, (c.env sc).kindOf (Str.ofString "SheetFault") = some .globalImplicit) aY)
    (h1 : autoParam (CallEq (Str.ofString "SheetFault") fp p e es) aY)
    (h2 : autoParam (StarEq e es) aY) (h3 : autoParam (NoStar p es) aY) : Ev sc d u w m n (.Call (.Name (Str.ofString "SheetFault") fp) (e :: es) [] p) R :=
  Ev.call (f := 70) (fun w => by kernel_rfl) (fun w => by kernel_rfl) h hd hu hx (by k_extra "w") h1 h2 h3
theorem sheet_out {msg : Str} (hs : Sub n0 n) : PCl 30 160 70 w [.str msg] n fun pv n1 => ∃ x t dd, pv = .ref x ∧ (x, excObjD 70 t dd) ∈ n1 ∧ ∀ p ∈ n0, p ∈ n1 ∧ p.1 ≠ x :=
  sheet_k fun x t dd _ hx => ⟨x, t, dd, rfl, .head _, fun p hp => ⟨.tail _ (.tail _ (hs p hp)), allLt_ne hx p (hs p hp)⟩⟩
theorem box_raise1 {x : Str} {rs : List Rat} (h : TextIs x rs) (hne : ((rs.length : Int) != 4) = true) : PX 120 960 357 w [.str x] n := by
  (k_with "v36" => with_reducible first | (refine XEx1.raise ?_) | (refine sheet_c (by decide) (by decide) ?_) | (refine Op.addS (by assumption) ?_) | (refine Op.lst3 (by k_extra "ta9") ?_) | (refine compare_c (by decide) (by decide) ?_) | (refine numbers_c (by decide) (by decide) ?_) | (refine lenl_c ?_) | (refine top_zero ?_) | (refine Tst.or3 ?_) | k_extra "ev1")
  refine PX.enter (d' := 115) (u' := 930) (by k_is) (by k_is) (hb1 (x1 := Str.ofString "text") (fun _ _ => BindsTo.of_eq rfl) (by decide +kernel)) ?_ (by decide) (by decide)
  have hx := h.hx
  have hl2 := h.hl
  have hz : (Str.ofString "no box: ").length + x.length < 10000 := by
    have e : (Str.ofString "no box: ").length = 8 := by decide +kernel
    omega
  refine XEx.seq ?_
  repeat (k_extra "v36")
  refine numbers_k h fun n1 Fd pvs hs hF hp => ?_
  refine ⟨rfl, XEx.head (XEx1.ite ?_)⟩
  repeat (k_extra "v36")
  refine Op.lenL (k := (rs.length : Int)) hF (by rw [hp.len]; exact hl2) (by rw [hp.len]) ?_
  repeat (k_extra "v36")
  refine XEx.head ?_
  repeat (k_extra "v36")
  exact sheet_out hs
theorem box_raise2 {x : Str} {r0 r1 r2 r3 : Rat} (h : TextIs x [r0, r1, r2, r3]) (h2 : r2 ≤ 0) : PX 120 960 357 w [.str x] n := by
  refine PX.enter (d' := 115) (u' := 930) (by k_is) (by k_is) (hb1 (x1 := Str.ofString "text") (fun _ _ => BindsTo.of_eq rfl) (by decide +kernel)) ?_ (by decide) (by decide)
  have hx := h.hx
  have hz : (Str.ofString "no box: ").length + x.length < 10000 := by
    have e : (Str.ofString "no box: ").length = 8 := by decide +kernel
    omega
  refine XEx.seq ?_
  repeat (k_extra "v36")
  refine numbers_k h fun n1 Fd pvs hs hF hp => ?_
  obtain ⟨p0, p1, p2, p3, rfl, b0, b1, b2, b3⟩ := all2_4' hp
  obtain ⟨A2, x2, y2, rfl, t2, d2, e2⟩ := b2
  refine ⟨rfl, XEx.head (XEx1.ite ?_)⟩
  repeat (k_extra "v36")
  refine Op.lenL (k := 4) hF (by with_unfolding_all exact Nat.le_of_ble_eq_true rfl) rfl ?_
  repeat (k_extra "v36")
  refine compare_k t2 T2_zero d2 Bd_zero (by decide) fun c _ hc => ?_
  have hc2 : decide (c ≤ 0) = true := by rw [hc, e2, rv_zero]; exact decide_eq_true h2
  repeat (k_extra "v36")
  refine XEx.head ?_
  repeat (k_extra "v36")
  exact sheet_out hs
theorem fit_raise {x a : Str} (hx : x.length < 500) (hw : Txt.words x = [a]) (ha : a.length < 1000) (hd : ([a].take 1 == [Str.ofString "defer"]) = false) (hal : alignB a = false) : PX 40 300 371 w [.str x] n := by
  (k_with "v38" => with_reducible first | (refine Ev.lcutTo ?_) | (refine Ev.lcutFrom ?_) | (refine align_c (by decide) (by decide) ?_) | (refine XEx1.raise ?_) | (refine sheet_c (by decide) (by decide) ?_) | (refine Op.addS (by assumption) ?_) | (refine lenl_c ?_) | (refine Tst.or3 ?_) | k_extra "ev1")
  refine PX.enter (d' := 30) (u' := 260) (by k_is) (by k_is) (hb1 (x1 := Str.ofString "text") (fun _ _ => BindsTo.of_eq rfl) (by decide +kernel)) ?_ (by decide) (by decide)
  have hz : (Str.ofString "no fit: ").length + x.length < 10000 := by
    have e : (Str.ofString "no fit: ").length = 8 := by decide +kernel
    omega
  refine XEx.seq ?_
  repeat (k_extra "v38")
  refine Ev.split0 (by k_extra "w") hx fun D1 n1 s1 l1 => ?_
  rw [hw] at l1
  have l2 : LstAt n1 D1 [.str a] := l1
  refine ⟨rfl, XEx.seq ?_⟩
  refine Ex1.ite ?_
  repeat (k_extra "v38")
  refine ⟨D1, [a], rfl, l1, by with_unfolding_all exact Nat.le_of_ble_eq_true rfl, fun D2 n2 s2 l3 => ?_⟩
  repeat (k_extra "v38")
  refine Op.eqLL1 (LstAt.sub l3 (by assumption)) (by assumption) ?_
  repeat (k_extra "v38")
  refine ⟨rfl, XEx.seq ?_⟩
  refine Ex1.ite ?_
  repeat (k_extra "v38")
  refine Op.eqLL0 (xs := [a]) (LstAt.sub l2 (by k_extra "sb9")) (by assumption) ?_
  repeat (k_extra "v38")
  refine Two.no rfl ?_
  repeat (k_extra "v38")
  refine ⟨rfl, XEx.head (XEx1.ite ?_)⟩
  repeat (k_extra "v38")
  refine Tst.val ?_
  repeat (k_extra "v38")
  refine align_spec ha fun n5 s5 => ?_
  rw [hal]
  repeat (k_extra "v38")
  refine XEx.head ?_
  repeat (k_extra "v38")
  exact sheet_out (by k_extra "sb9")
end
section
variable {sc : Sc} {d u : Nat} {w : World} {m : Nms} {n n0 : Led} {R : PV → Led → Prop} {S : PF → Nms → Led → Prop}
def KTurnR (I : Nat → Nms → Led → Prop) (S : PF → Nms → Led → Prop) (i : Nat) (Ia D : Addr) (o lo : Obj) : PF → Nms → Led → Prop
  | .next, m2, n3 => ∃ m4 n4, Le m4 m2 ∧ (Ia, o) ∈ n3 ∧ Sub n4 n3 ∧ (∀ p ∈ n4, @Ne Nat p.1 Ia) ∧ (D, lo) ∈ n4 ∧ I (i + 1) m4 n4
  | .ret pv, m2, n3 => S (.ret pv) m2 n3
  | _, _, _ => False
theorem kturnR_or {I : Nat → Nms → Led → Prop} {i : Nat} {Ia D : Addr} {o lo : Obj} {pf : PF} {m2 : Nms} {n3 : Led} (h : KTurnR I S i Ia D o lo pf m2 n3) :
    (∃ pv, pf = .ret pv ∧ S (.ret pv) m2 n3) ∨ (pf = .next ∧ ∃ m4 n4, Le m4 m2 ∧ (Ia, o) ∈ n3 ∧ Sub n4 n3 ∧ (∀ p ∈ n4, @Ne Nat p.1 Ia) ∧ (D, lo) ∈ n4 ∧ I (i + 1) m4 n4) := by
  cases pf with
  | next => exact .inr ⟨rfl, h⟩
  | ret pv => exact .inl ⟨pv, rfl, h⟩
  | brk => exact h.elim
  | cont => exact h.elim
theorem Ex1.forR {x : Str} {px p : Pos} {iter : Expr} {body : List Stmt} 
    (h : Ev sc d u w m n iter fun pv n1 => ∃ D vs k pvs, pv = .ref D ∧ (D, listOf (List.toArray vs) k) ∈ n1 ∧ All2 PvIs vs pvs ∧ I 0 m n1 ∧ (∀ i pv m1 n2 Ia o, pvs[i]? = some pv → I i m1 n2 → (∀ p ∈ n2, @Ne Nat p.1 Ia) → Ex sc d u w ((x, pv) :: m1) ((Ia, o) :: n2) body (KTurnR I S i Ia D o (listOf (List.toArray vs) k))) ∧ (∀ m1 n2, I pvs.length m1 n2 → S .next m1 n2))
    (hx : autoParam (∀ c : Fc w, (c.env sc).kindOf x = some .local) aY) (hs : autoParam (∀ env v, foldedSetIterable iter env v = pure v) aZ) : Ex1 sc d u w m n (.For (.Name x px) iter body [] p) S := by
  refine ExT.noE fun c hc s Q A q => ?_
  have A0 := A
  obtain ⟨m0, hm0, F0, N0⟩ := A0
  refine For_turns (h₀ := c.g) F0 (h c hc s _ _ A fun v pv n1 h1 t1 i1 r1 A1 => ?_) (hs _) PassesOwn.never
  obtain ⟨D, vs, k, pvs, rfl, hD, hv, hI0, turn, fin⟩ := r1
  obtain rfl := i1.ref
  obtain ⟨m1', hm1, F1, N1⟩ := A1
  refine iter_listTurns (s := { s with heap := h1, toks := t1 }) (vs := vs) rfl F1 N1 hD rfl rfl fun Ia hIa => ?_
  refine items_inv2 (α := Value) Itm.val (fun _ _ _ pre m' news => ∃ mm, NmsIs m' mm ∧ I pre.length mm news ∧ ∀ p ∈ news, @Ne Nat p.1 Ia) vs m1' n1 ⟨m, hm1, hI0, fun p hp => Nat.ne_of_lt (hIa p hp)⟩ ?_ ?_
  · rintro pre v post hsplit m' news ⟨mm, hmm, hI, hoff⟩ v' h2 t2 o rfl F2 hcls N2
    have hget : vs[pre.length]? = some v' := by rw [hsplit, List.getElem?_append_right (Nat.le_refl _), Nat.sub_self]; rfl
    obtain ⟨pv, hpv, hvp⟩ := hv.get hget
    refine PyProof.Rows.assign_Name ?_
    refine store_rule (s := { s with heap := h2, toks := t2 }) hc (hx c) ⟨m', hmm, F2, N2⟩ hvp fun h3 t3 A3 => ?_
    refine turn pre.length pv mm news Ia o hpv hI hoff c hc _ _ _ A3 fun f pf m4 n4 h4 t4 i4 r4 A4 => ?_
    rcases kturnR_or r4 with ⟨pv4, rfl, r5⟩ | ⟨rfl, m5, n5, hl, hIo, hsub, hoff5, hD5, hI5⟩
    · cases f with
      | ret v4 => exact q (.ret v4) (.ret pv4) m4 n4 h4 t4 i4 r5 A4
      | next => exact i4.elim
      | brk => exact i4.elim
      | cont => exact i4.elim
    obtain ⟨m4', hm4, F4, N4⟩ := A4
    have hf : f = .next := by cases f <;> first | rfl | exact i4.elim
    subst hf
    refine ⟨h4, t4, m4', n5, rfl, F4, fun p hp => ?_, fun p hp q hq => ?_, subL_of fun p hp => ?_, m5, fun z pv hz => hm4 z pv (hl z pv hz), ?_, hoff5⟩
    · rcases List.mem_append.mp hp with hp | hp
      · rw [List.mem_singleton.mp hp]; exact N4 _ hIo
      · exact N4 _ (hsub p hp)
    · rw [List.mem_singleton.mp hq]; exact hoff5 p hp
    · rw [List.mem_singleton.mp hp]; exact hD5
    · rw [List.length_append]; exact hI5
  · rintro m' news ⟨mm, hmm, hI, _⟩ h2 t2 F2 N2
    rw [hv.len] at hI
    exact q .next .next mm news h2 t2 trivial (fin mm news hI) ⟨m', hmm, F2, N2⟩
end
end
section
open PySem PySem.W PyProof.Rows PySem.Spec PySem.Calls PyProof.Rows.LCg
noncomputable def rowTxt : PyData → Option Str
  | .tuple (.str x :: _) => some x
  | _ => none
def AttrIs (kvs : List (Str × Value)) (k : Str) : Option Str → Prop
  | none => valueAt kvs k = none
  | some x => ∃ t, valueAt kvs k = some (.str x t)
noncomputable abbrev PR := Addr × Str × Tok × Value
noncomputable abbrev refsP (ps : List PR) : List Value := ps.map fun p => .ref p.1
def PairsIs (rows : List (Str × PyData)) (ps : List PR) : Prop := All2 (fun (p : PR) (q : Str × Str) => p.2.1 = q.1 ∧ ∃ t, p.2.2.2 = .str q.2 t) ps (rows.filterMap fun r => (rowTxt r.2).map fun x => (r.1, x))
inductive RowsP (rows : List (Str × PyData)) (L₀ : List (Addr × Obj)) (i : Nat) (ys : List Value) (n : List (Addr × Obj)) : Prop
  | mk (ps : List PR) (f0 : ys = refsP ps) (f1 : (∀ p ∈ L₀, p ∈ n)) (f2 : (∀ p ∈ ps, ∃ c, (p.1, tup [.str p.2.1 p.2.2.1, p.2.2.2] c) ∈ n)) (f3 : PairsIs (rows.take i) ps) : RowsP rows L₀ i ys n
theorem rows_skip {rows : List (Str × PyData)} {L₀ n : List (Addr × Obj)} {i : Nat} {ys : List Value} {r : Str × PyData} (hr : rows[i]? = some r) (ht : rowTxt r.2 = none) (h : RowsP rows L₀ i ys n) : RowsP rows L₀ (i + 1) ys n := by
  obtain ⟨ps, h1, h2, h3, h4⟩ := h
  refine ⟨ps, h1, h2, h3, ?_⟩
  unfold PairsIs at h4 ⊢
  rw [List.take_add_one, hr]
  simp only [Option.toList_some, List.filterMap_append, List.filterMap_cons, ht, Option.map_none, List.filterMap_nil, List.append_nil]
  exact h4
theorem rows_add {rows : List (Str × PyData)} {L₀ n : List (Addr × Obj)} {i : Nat} {ys : List Value} {k x : Str} {d : PyData} {T : Addr} {tk tx : Tok} {c : Nat} (hr : rows[i]? = some (k, d)) (ht : rowTxt d = some x) (h : RowsP rows L₀ i ys n) :
    RowsP rows L₀ (i + 1) (ys ++ [.ref T]) ((T, tup [.str k tk, .str x tx] c) :: n) := by
  obtain ⟨ps, rfl, h2, h3, h4⟩ := h
  refine ⟨ps ++ [(T, k, tk, .str x tx)], by simp [refsP], fun p hp => .tail _ (h2 p hp), fun p hp => ?_, ?_⟩
  · rcases List.mem_append.mp hp with hp | hp
    · obtain ⟨c', hc⟩ := h3 p hp
      exact ⟨c', .tail _ hc⟩
    · rw [List.mem_singleton.mp hp]
      exact ⟨c, .head _⟩
  · unfold PairsIs at h4 ⊢
    rw [List.take_add_one, hr]
    simp only [Option.toList_some, List.filterMap_append, List.filterMap_cons, ht, Option.map_some, List.filterMap_nil]
    exact h4.append ⟨⟨rfl, tx, rfl⟩, trivial⟩
noncomputable abbrev dictIn (ps : List PR) : List (Str × Value) := ps.foldl (fun acc p => stored acc p.2.1 p.2.2.2) []
theorem rows_attrs {da db : PyData} {ps : List PR} (h : PairsIs [(Str.ofString "viewBox", da), (Str.ofString "preserveAspectRatio", db)] ps) :
    AttrIs (dictIn ps) (Str.ofString "viewBox") (rowTxt da) ∧ AttrIs (dictIn ps) (Str.ofString "preserveAspectRatio") (rowTxt db) ∧ AttrIs (dictIn ps) (Str.ofString "patternContentUnits") none ∧ (dictIn ps).length ≤ 2 ∧ ps.length ≤ 2 := by
  unfold PairsIs at h
  cases ha : rowTxt da <;> cases hb : rowTxt db <;> simp only [List.filterMap_cons, List.filterMap_nil, ha, hb, Option.map_none, Option.map_some] at h
  · cases ps with
    | nil => exact ⟨by with_unfolding_all eq_refl, by with_unfolding_all eq_refl, by with_unfolding_all eq_refl, by decide, by decide⟩
    | cons p r => exact h.elim
  · obtain ⟨⟨T, k, tk, v⟩, rfl, h1, t, h2⟩ := h.one1
    simp only at h1 h2
    subst h1
    subst h2
    exact ⟨by with_unfolding_all eq_refl, ⟨t, by with_unfolding_all eq_refl⟩, by with_unfolding_all eq_refl, Nat.le_of_ble_eq_true (by k_extra "w"), Nat.le_of_ble_eq_true (by k_extra "w")⟩
  · obtain ⟨⟨T, k, tk, v⟩, rfl, h1, t, h2⟩ := h.one1
    simp only at h1 h2
    subst h1
    subst h2
    exact ⟨⟨t, by with_unfolding_all eq_refl⟩, by with_unfolding_all eq_refl, by with_unfolding_all eq_refl, Nat.le_of_ble_eq_true (by k_extra "w"), Nat.le_of_ble_eq_true (by k_extra "w")⟩
  · obtain ⟨⟨T, k, tk, v⟩, ⟨T', k', tk', v'⟩, rfl, ⟨h1, t, h2⟩, h3, t', h4⟩ := h.two
    simp only at h1 h2 h3 h4
    subst h1
    subst h2
    subst h3
    subst h4
    exact ⟨⟨t, by with_unfolding_all eq_refl⟩, ⟨t', by with_unfolding_all eq_refl⟩, by with_unfolding_all eq_refl, Nat.le_of_ble_eq_true (by k_extra "w"), Nat.le_of_ble_eq_true (by k_extra "w")⟩
end
section
open PySem PySem.W PyProof.Rows PyProof.V PySem.Spec
section
variable {sc : Sc} {d u : Nat} {w : World} {m : Nms} {n n0 : Led} {R : PV → Led → Prop} {S : PF → Nms → Led → Prop}
noncomputable abbrev SK (w : World) := PySem.strKind PySem.Challenge.rw_xm0694_01.row.prog w
noncomputable def optPV (dv : PV) : Option Str → PV
  | some x => .str x
  | none => dv
theorem Ev.dget {a e1 e2 : Expr} {ap p : Pos} {pl : Fc w → Sem Bool} (h : Ev sc d u w m n a fun pv n1 => ∃ (D : Addr) (od : Obj) (kvs : List (Str × Value)), pv = .ref D ∧ (D == sysModules) = false ∧ (D, od) ∈ n1 ∧ od.IsDictOf (SK w) kvs ∧
      Evs sc d u w m n1 p [e1, e2] fun pvs n2 => ∃ k dv o, pvs = [.str k, dv] ∧ (D, od) ∈ n2 ∧ AttrIs kvs k o ∧ R (optPV dv o) n2)
    (e0 : autoParam (∀ c : Fc w, eval (.Call (.Attribute a (Str.ofString "get") ap) [e1, e2] [] p) (c.env sc) = (do
      let ov ← eval a (c.env sc)
      standAt ap.atName
      let (f, first) ← holding [ov] (getMethod ov (Str.ofString "get") (pl c))
      callWith p f first (backTo p (starEach [e1, e2] (c.env sc))) (backToKw p (keywordEach [] (c.env sc))))) aY)
    (eS : autoParam (∀ env, starEach [e1, e2] env = (false, eval e1 env) :: starEach [e2] env) aY) (eP : autoParam (∀ env, ((backTo p (starEach [e2] env)).any fun x => x.1) = false) aY) :
    Ev sc d u w m n (.Call (.Attribute a (Str.ofString "get") ap) [e1, e2] [] p) R := by
  intro c hc s Q E A q
  refine methodCall_KW (pl := pl c) (h c hc s _ E A fun v pv n1 h1 t1 i1 r1 A1 => ?_) (e0 c)
  obtain ⟨D, od, kvs, rfl, lo, hm, hd, r2⟩ := r1
  obtain rfl := i1.ref
  have A1' := A1
  obtain ⟨m1, hm1, F1, N1⟩ := A1
  refine kdg_method (s := { s with heap := h1, toks := t1 }) N1 hm hd (PyProof.Rows.callWith_method1 (r2 c hc _ _ E A1' fun vs pvs n2 h2 t2 i2 r3 A2 => ?_) (eS _) (eP _))
  obtain ⟨k, dv, o, rfl, hm2, ho, r4⟩ := r3
  obtain ⟨v1, v2, rfl, j1, j2⟩ := all2_2 i2
  obtain ⟨t, rfl⟩ := j1.str
  have A2' := A2
  obtain ⟨m2, hm2', F2, N2⟩ := A2
  refine kdg_get2 (s := { s with heap := h2, toks := t2 }) (knd := SK w) N2 hm2 hd lo (strKind_is _ _ _ _) (valueAt kvs k) rfl ?_
  cases o with
  | none =>
    have e : valueAt kvs k = Option.none := ho
    rw [e]
    exact q v2 dv n2 h2 _ j2 r4 A2'
  | some x =>
    obtain ⟨t', e⟩ := ho
    rw [e]
    exact q _ (.str x) n2 h2 _ rfl r4 A2'
inductive EltAt (w : World) (n : Led) (E : Addr) (kvs : List (Str × Value)) : Prop
  | mk (dE : _) (nm : _) (ch : _) (tn : _) (t1 : _) (t2 : _) (t3 : _) (t4 : _) (te : _) (at_ : _) (od : _) (f0 : (E, instObj 444 dE) ∈ n) (f1 : (dE, elD w nm at_ ch tn t1 t2 t3 t4 te) ∈ n) (f2 : (at_ == sysModules) = false) (f3 : (at_, od) ∈ n) (f4 : od.IsDictOf (SK w) kvs) : EltAt w n E kvs
theorem EltAt.sub {n n' : Led} {E : Addr} {kvs : List (Str × Value)} (h : EltAt w n E kvs) (s : Sub n n') : EltAt w n' E kvs := by
  obtain ⟨dE, nm, ch, tn, t1, t2, t3, t4, te, at_, od, h1, h2, h3, h4, h5⟩ := h
  exact ⟨dE, nm, ch, tn, t1, t2, t3, t4, te, at_, od, s _ h1, s _ h2, h3, s _ h4, h5⟩
theorem hb2D {fd : FuncData} {scope : Scope} {x1 x2 x3 : Str} {p1 p2 : PV} (hB : ∀ s : Shared, (∀ a o, (Mine.hd.heap_1 w.params).lookup a = some o → s.heap.get? a = some o) → ∀ v1 v2, BindsTo s fd ⟨[v1, v2], []⟩ [(x1, v1), (x2, v2), (x3, Value.none)]) (hx : ∀ y ∈ [x1, x2, x3], scope.names.lookup y = some .local) :
    ∀ (s : Shared) vs, (∀ a o, (Mine.hd.heap_1 w.params).lookup a = some o → s.heap.get? a = some o) → All2 PvIs vs [p1, p2] → ∃ binds, BindsTo s fd ⟨vs, []⟩ binds ∧ NmsIs (fun y => binds.reverse.lookup y) [(x3, .none), (x2, p2), (x1, p1)] ∧ ∀ y ∈ binds, scope.names.lookup y.1 = some .local := by
  intro s vs hh hv
  k_extra "v"
  refine ⟨_, hB s hh v1 v2, nmsIs_all ⟨⟨rfl, by trivial⟩, ⟨rfl, i2⟩, ⟨rfl, i1⟩, trivial⟩, fun y hy => hx y.1 ?_⟩
  have := List.mem_map_of_mem (f := Prod.fst) hy
  exact this
theorem get_spec {E : Addr} {kvs : List (Str × Value)} {k : Str} {o : Option Str} (hE : EltAt w n E kvs) (ho : AttrIs kvs k o) (q : R (optPV .none o) n) : PCl 20 160 441 w [.ref E, .str k] n R := by
  refine PCl.enterD (d' := 15) (u' := 130) (by k_is) (by k_is) (hb2D (x1 := Str.ofString "self") (x2 := Str.ofString "name") (x3 := Str.ofString "other") (fun _ hh _ _ => BindsTo.of_defaults rfl (hh _ _ (by k_is)) rfl rfl rfl) (by decide +kernel)) ?_ (by decide) (by decide)
  obtain ⟨dE, nm, ch, tn, t1, t2, t3, t4, te, at_, od, h1, h2, h3, h4, h5⟩ := hE
  repeat (k_extra "ev0")
  refine Ev.dget ?_
  refine Ev.attr (by k_extra "w") h1 h2 (by k_is) (by k_is) (by k_is) (by k_is) (by rfl) (by rfl) (v := .ref at_) (pv := .ref at_) rfl ?_
  refine ⟨at_, od, kvs, rfl, h3, h4, h5, ?_⟩
  repeat (k_extra "ev0")
  exact ⟨k, .none, o, rfl, h4, ho, q⟩
end
section
variable {sc : Sc} {d u : Nat} {w : World} {m : Nms} {n n0 : Led} {R : PV → Led → Prop} {S : PF → Nms → Led → Prop}
theorem Op.isNotNoneS {x : Str} (h : R (.bool true) n) : Op sc d u w m n [.str x, .none] (cmT .IsNot) R := by
  intro vs hv c hc s Q E A q
  k_extra "v"
  obtain ⟨t1, rfl⟩ := i1.str
  obtain rfl := i2.none
  exact wpAny_pure (q _ (.bool true) n s.heap s.toks rfl h A)
theorem Op.isNotNoneN (h : R (.bool false) n) : Op sc d u w m n [.none, .none] (cmT .IsNot) R := by
  intro vs hv c hc s Q E A q
  k_extra "v"
  obtain rfl := i1.none
  obtain rfl := i2.none
  exact wpAny_pure (q _ (.bool false) n s.heap s.toks rfl h A)
theorem eget_c {o name : Str} {xp ap p p2 : Pos} {E : Addr} {kvs : List (Str × Value)} {k : Str} {ov : Option Str} {pl : Fc w → Sem Bool} (hm : m.lookup o = some (.ref E)) (hk : m.lookup name = some (.str k)) (hE : EltAt w n E kvs) (ho : AttrIs kvs k ov) (hd : 20 ≤ d) (hu : 160 ≤ u) (h : R (optPV .none ov) n)
    (hx : autoParam (∀ c : Fc w, (c.env sc).kindOf o = some .local) aY) (hx2 : autoParam (∀ c : Fc w, (c.env sc).kindOf name = some .local) aY) (hg : autoParam ((o == Str.ofString "__debug__") = false) aW) (hg2 : autoParam ((name == Str.ofString "__debug__") = false) aW)
    (e1 : autoParam (∀ c : Fc w, eval (.Call (.Attribute (.Name o xp) (Str.ofString "get") ap) [.Name name p2] [] p) (c.env sc) = (do
      let ov ← eval (.Name o xp) (c.env sc)
      standAt ap.atName
      let (f, first) ← holding [ov] (getMethod ov (Str.ofString "get") (pl c))
      callWith p f first (backTo p (starEach [.Name name p2] (c.env sc))) (backToKw p (keywordEach [] (c.env sc))))) aY) :
    Ev sc d u w m n (.Call (.Attribute (.Name o xp) (Str.ofString "get") ap) [.Name name p2] [] p) R := by
  have hE' := hE
  obtain ⟨dE, nm, ch, tn, t1, t2, t3, t4, te, at_, od, h1, h2, h3, h4, h5⟩ := hE
  exact Ev.meth (f := 441) (d' := 20) (u' := 160) (pl := pl) hm h1 h2 (by k_is) (by k_is) (by k_is) (by rfl) (by k_is) (Evs.cons (Ev.name hk (Evs.nil (get_spec hE' ho h)) hx2 hg2) (by intro _; rfl)) hd hu hx hg e1 (by intro _; rfl) (by intro _; rfl)
noncomputable abbrev EltR := Addr × List (Str × Value) × Option Str
structure TInv (n : Led) (D : Addr) (lo : Obj) (k : Str) (dv : PV) (es : List EltR) (i : Nat) (m1 : Nms) (n2 : Led) : Prop where
  f0 : m1.lookup (Str.ofString "name") = some (.str k)
  f1 : m1.lookup (Str.ofString "other") = some dv
  f2 : Sub n n2
  f3 : (D, lo) ∈ n2
  f4 : (es.take i).findSome? (fun e => e.2.2) = Option.none
theorem told_spec {D : Addr} {es : List EltR} {k : Str} {dv : PV} (hD : LstAt n D (es.map fun e => .ref e.1)) (hE : ∀ e ∈ es, EltAt w n e.1 e.2.1 ∧ AttrIs e.2.1 k e.2.2)
    (q : ∀ n', Sub n n' → R (optPV dv (es.findSome? fun e => e.2.2)) n') : PCl 40 300 306 w [.ref D, .str k, dv] n R := by
  refine PCl.enter (d' := 35) (u' := 270) (by k_is) (by k_is) (hb3 (x1 := Str.ofString "elements") (x2 := Str.ofString "name") (x3 := Str.ofString "other") (fun _ _ _ _ => BindsTo.of_eq rfl) (by decide +kernel)) ?_ (by decide) (by decide)
  obtain ⟨vs, kk, hm, hv⟩ := hD
  repeat (k_extra "ev1")
  refine Ex1.forR (I := TInv n D (listOf vs.toArray kk) k dv es) ?_
  repeat (k_extra "ev1")
  refine ⟨D, vs, kk, _, rfl, hm, hv, ⟨by with_unfolding_all eq_refl, by with_unfolding_all eq_refl, Sub.refl _, hm, rfl⟩, ?_, ?_⟩
  · rintro i pv m1 n2 Ia o hget ⟨g1, g2, g3, g4, g5⟩ hoff
    rw [List.getElem?_map] at hget
    obtain ⟨e, he, rfl⟩ := Option.map_eq_some_iff.mp hget
    obtain ⟨hEl, hAt⟩ := hE e (List.mem_of_getElem? he)
    have hEl2 : EltAt w ((Ia, o) :: n2) e.1 e.2.1 := hEl.sub (Sub.tail g3)
    repeat (k_extra "ev1")
    refine Ex1.ite ?_
    repeat (k_extra "ev1")
    refine eget_c (by k_extra "w") (by with_unfolding_all exact g1) hEl2 hAt (by decide) (by decide) ?_
    cases ho : e.2.2 with
    | none =>
      repeat (k_extra "ev1")
      refine Op.isNotNoneN ?_
      repeat (k_extra "ev1")
      refine ⟨[(Str.ofString "name", .str k), (Str.ofString "other", dv)], n2, Le.cons (by with_unfolding_all exact g1) (Le.cons (by with_unfolding_all exact g2) Le.nil), .head _, Sub.tail (Sub.refl _), hoff, g4, rfl, rfl, g3, g4, ?_⟩
      rw [List.take_add_one, he, List.findSome?_append, g5]
      show Option.none.or (List.findSome? _ [e]) = _
      rw [List.findSome?_cons, ho]
      rfl
    | some x =>
      repeat (k_extra "ev1")
      refine Op.isNotNoneS ?_
      repeat (k_extra "ev1")
      refine eget_c (by k_extra "w") (by with_unfolding_all exact g1) hEl2 hAt (by decide) (by decide) ?_
      rw [ho]
      repeat (k_extra "ev1")
      have e9 : es.findSome? (fun e => e.2.2) = some x := by
        have h1 : (es.take (i + 1)).findSome? (fun e => e.2.2) = some x := by
          rw [List.take_add_one, he, List.findSome?_append, g5]
          show Option.none.or (List.findSome? _ [e]) = _
          rw [List.findSome?_cons, ho]
          rfl
        rw [← List.take_append_drop (i + 1) es, List.findSome?_append, h1]
        rfl
      have q9 := q _ (Sub.tail g3 : Sub n ((Ia, o) :: n2))
      rw [e9] at q9
      exact q9
  · rintro m1 n2 ⟨g1, g2, g3, g4, g5⟩
    rw [List.length_map, List.take_length] at g5
    have q9 := q _ g3
    rw [g5] at q9
    repeat (k_extra "ev1")
    refine Ev.name g2 ?_
    repeat (k_extra "ev1")
    exact q9
end
section
variable {sc : Sc} {d u : Nat} {w : World} {m : Nms} {n n0 : Led} {R : PV → Led → Prop} {S : PF → Nms → Led → Prop}
theorem hb3E {fd : FuncData} {scope : Scope} {x1 x2 x3 : Str} {p1 p2 p3 : PV} (hB : ∀ s : Shared, (∀ a o, (Mine.hd.heap_1 w.params).lookup a = some o → s.heap.get? a = some o) → ∀ v1 v2 v3, BindsTo s fd ⟨[v1, v2, v3], []⟩ [(x1, v1), (x2, v2), (x3, v3)]) (hx : ∀ y ∈ [x1, x2, x3], scope.names.lookup y = some .local) :
    ∀ (s : Shared) vs, (∀ a o, (Mine.hd.heap_1 w.params).lookup a = some o → s.heap.get? a = some o) → All2 PvIs vs [p1, p2, p3] → ∃ binds, BindsTo s fd ⟨vs, []⟩ binds ∧ NmsIs (fun y => binds.reverse.lookup y) [(x3, p3), (x2, p2), (x1, p1)] ∧ ∀ y ∈ binds, scope.names.lookup y.1 = some .local := by
  intro s vs hh hv
  obtain ⟨v1, v2, v3, rfl, i1, i2, i3⟩ := all2_3 hv
  refine ⟨_, hB s hh v1 v2 v3, nmsIs_all ⟨⟨rfl, i3⟩, ⟨rfl, i2⟩, ⟨rfl, i1⟩, trivial⟩, fun y hy => hx y.1 ?_⟩
  have := List.mem_map_of_mem (f := Prod.fst) hy
  exact this
theorem PX.enterD {name qual : Str} {params : Arguments} {body : List Stmt} {scope : Scope} {dV kV doc pm cdv ct oc : Value} {an od : Option Addr} {osl : Array (Option Value)} {f : Addr} {pvs : List PV} {m0 : Nms} {d' u' : Nat}
    (ho : (Mine.hd.heap_1 w.params).lookup f = some ⟨oc, od, .func (fnOf name qual params body scope dV kV doc pm an cdv ct), osl⟩) (hcd : codeIn (Mine.hd.heap_1 w.params) cdv qual = true)
    (hb : ∀ s vs, (∀ a o, (Mine.hd.heap_1 w.params).lookup a = some o → s.heap.get? a = some o) → All2 PvIs vs pvs → ∃ binds, BindsTo s (fnOf name qual params body scope dV kV doc pm an cdv ct) ⟨vs, []⟩ binds ∧ NmsIs (fun y => binds.reverse.lookup y) m0 ∧ (∀ y ∈ binds, scope.names.lookup y.1 = some .local))
    (h : XEx ⟨scope, []⟩ d' u' w m0 n n body) (hd : d' + 1 ≤ d) (hu : u' + 3 ≤ u)
    (hco : autoParam (scope.isCoroutine = false) aW) (hgen : autoParam (scope.isGenerator = false) aW) (hk : autoParam (scope.kind = .function) aW) (hcell : autoParam (∀ x ∈ scope.names, x.2 ≠ .cell) aD) : PX d u f w pvs n := by
  intro vs hv
  unfold Cx
  intro loose mean mg mb dp un gd cn cs a ccd cl outer A₀ base h₀ L m' s Q E B F X N T hkc hdp hun hret
  refine wpAny_call ?_
  obtain ⟨binds, hb1, hb2, hb3⟩ := hb s vs (fun a o e => F.keep _ _ (X _ _ e)) hv
  have hroom : dp < recursionLimit := Nat.lt_of_le_of_lt (Nat.le_add_right _ _) hdp
  refine code_def B F X N T rfl rfl hkc ho hcd hroom hb1 hb3 (fun g L' h1 FG F' N' B' X' T' => ?_) hco hgen hk hcell
  let c : Fc w := { dp := dp + 1, un := un + 3, gd := gd, cn := qual, L := L', a := f, ccd := cdv, outer := envX cn cs L a ccd cl :: outer, A₀ := ktrTop dp un gd cn cs L a ccd cl outer, base := base, g := g, loose := loose, mean := mean, mg := mg, mb := mb }
  have hc : c.Ok ⟨scope, []⟩ d' u' := ⟨B', X', T', hk, Nat.lt_of_le_of_lt (by show dp + 1 + d' ≤ dp + d; omega) hdp, Nat.lt_of_le_of_lt (by show un + 3 + u' ≤ un + u; omega) hun⟩
  refine h c hc { s with heap := h1, toks := s.toks + binds.length } _ _ ⟨_, hb2, F', N'⟩ fun x h2 t2 out => ?_
  rcases out with ⟨m2, n2, t, dd, F2, N2, hx, hn⟩ | ⟨g2, m2, R9, F2, U2⟩
  · exact leave_sheet (s' := { s with heap := h2, toks := t2 }) B' F2 N2 hx hn (fun h' R9 U9 => hret x g h' t2 R9 FG U9) hk
  · exact left_up (s' := { s with heap := h2, toks := t2 }) (Around.frames_deeper B'.stack) rfl ((Heap.UpToSlots.of_keeps F2.keep).trans U2) R9 (fun h' R9 U9 => hret x g h' t2 R9 FG U9)
theorem told_c {fp p : Pos} {e : Expr} {es : List Expr} (hd : 40 ≤ d) (hu : 300 ≤ u) (h : Evs sc d u w m n p (e :: es) (KCall 40 300 306 w R)) (hx : autoParam (∀ c : Fc w, (c.env sc).kindOf (Str.ofString "told_by") = some .globalImplicit) aY)
    (h1 : autoParam (CallEq (Str.ofString "told_by") fp p e es) aY)
    (h2 : autoParam (StarEq e es) aY) (h3 : autoParam (NoStar p es) aY) : Ev sc d u w m n (.Call (.Name (Str.ofString "told_by") fp) (e :: es) [] p) R :=
  Ev.call (f := 306) (fun w => by kernel_rfl) (fun w => by kernel_rfl) h hd hu hx (by k_extra "w") h1 h2 h3
theorem Op.niTS {x a b : Str} {D : Addr} (hT : TupAt n D [.str a, .str b]) {r : Bool} (e : [a, b].any (· == x) = r) (h : R (.bool (!r)) n) : Op sc d u w m n [.str x, .ref D] (cmT .NotIn) R := by
  intro vs hv c hc s Q E A q
  k_extra "v"
  obtain ⟨t1, rfl⟩ := i1.str
  obtain rfl := i2.ref
  k_extra "oa"
  obtain ⟨us, c', hm, ha⟩ := hT
  exact notin_tuple_strs (News.isTup N hm) (strsAre_of (ys := [a, b]) ha) (q _ (.bool (!r)) n s.heap s.toks (by rw [e]; rfl) h ⟨m', hm', F, N⟩)
noncomputable abbrev OBB : Str := Str.ofString "objectBoundingBox"
noncomputable abbrev USU : Str := Str.ofString "userSpaceOnUse"
theorem by_spec {D : Addr} {es : List EltR} {k o t : Str} (hD : LstAt n D (es.map fun e => .ref e.1)) (hE : ∀ e ∈ es, EltAt w n e.1 e.2.1 ∧ AttrIs e.2.1 k e.2.2) (ht : optPV (.str o) (es.findSome? fun e => e.2.2) = .str t) (hin : [OBB, USU].any (· == t) = true)
    (q : ∀ n', Sub n n' → R (.bool (t == OBB)) n') : PCl 60 420 314 w [.ref D, .str k, .str o] n R := by
  (k_with "v41" => with_reducible first | (refine told_c (by decide) (by decide) ?_) | (refine XEx1.raise ?_) | (refine sheet_c (by decide) (by decide) ?_) | (refine Op.addS (by assumption) ?_) | k_extra "ev1")
  refine PCl.enterD (d' := 50) (u' := 390) (by k_is) (by k_is) (hb3E (x1 := Str.ofString "elements") (x2 := Str.ofString "name") (x3 := Str.ofString "other") (fun _ hh _ _ _ => BindsTo.of_defaults rfl (hh _ _ (by k_is)) rfl rfl rfl) (by decide +kernel)) ?_ (by decide) (by decide)
  repeat (k_extra "v41")
  refine told_spec hD hE fun n1 s1 => ?_
  rw [ht]
  repeat (k_extra "v41")
  refine Ex1.ite ?_
  repeat (k_extra "v41")
  refine Op.niTS (by assumption) hin ?_
  repeat (k_extra "v41")
  exact q _ (by k_extra "sb9")
theorem by_raise {D : Addr} {es : List EltR} {k o t : Str} (hD : LstAt n D (es.map fun e => .ref e.1)) (hE : ∀ e ∈ es, EltAt w n e.1 e.2.1 ∧ AttrIs e.2.1 k e.2.2) (ht : optPV (.str o) (es.findSome? fun e => e.2.2) = .str t) (hx : t.length < 1000) (hin : [OBB, USU].any (· == t) = false) : PX 60 420 314 w [.ref D, .str k, .str o] n := by
  refine PX.enterD (d' := 50) (u' := 390) (by k_is) (by k_is) (hb3E (x1 := Str.ofString "elements") (x2 := Str.ofString "name") (x3 := Str.ofString "other") (fun _ hh _ _ _ => BindsTo.of_defaults rfl (hh _ _ (by k_is)) rfl rfl rfl) (by decide +kernel)) ?_ (by decide) (by decide)
  have hz : (Str.ofString "no such units: ").length + t.length < 10000 := by
    have e : (Str.ofString "no such units: ").length = 15 := by decide +kernel
    omega
  refine XEx.seq ?_
  repeat (k_extra "v41")
  refine told_spec hD hE fun n1 s1 => ?_
  rw [ht]
  repeat (k_extra "v41")
  refine ⟨rfl, XEx.head (XEx1.ite ?_)⟩
  repeat (k_extra "v41")
  refine Op.niTS (by assumption) hin ?_
  repeat (k_extra "v41")
  refine XEx.head ?_
  repeat (k_extra "v41")
  exact sheet_out (by k_extra "sb9")
end
section
variable {sc : Sc} {d u : Nat} {w : World} {m : Nms} {n n0 : Led} {R : PV → Led → Prop} {S : PF → Nms → Led → Prop}
theorem by_c {fp p : Pos} {e : Expr} {es : List Expr} (hd : 60 ≤ d) (hu : 420 ≤ u) (h : Evs sc d u w m n p (e :: es) (KCall 60 420 314 w R)) (hx : autoParam (∀ c : Fc w, (c.env sc).kindOf (Str.ofString "is_by_box") = some .globalImplicit) aY)
    (h1 : autoParam (CallEq (Str.ofString "is_by_box") fp p e es) aY)
    (h2 : autoParam (StarEq e es) aY) (h3 : autoParam (NoStar p es) aY) : Ev sc d u w m n (.Call (.Name (Str.ofString "is_by_box") fp) (e :: es) [] p) R :=
  Ev.call (f := 314) (fun w => by kernel_rfl) (fun w => by kernel_rfl) h hd hu hx (by k_extra "w") h1 h2 h3
theorem scaling_c {fp p : Pos} {e : Expr} {es : List Expr} (hd : 60 ≤ d) (hu : 480 ≤ u) (h : Evs sc d u w m n p (e :: es) (KCall 60 480 299 w R)) (hx : autoParam (∀ c : Fc w, (c.env sc).kindOf (Str.ofString "scaling") = some .globalImplicit) aY)
    (h1 : autoParam (CallEq (Str.ofString "scaling") fp p e es) aY)
    (h2 : autoParam (StarEq e es) aY) (h3 : autoParam (NoStar p es) aY) : Ev sc d u w m n (.Call (.Name (Str.ofString "scaling") fp) (e :: es) [] p) R :=
  Ev.call (f := 299) (fun w => by kernel_rfl) (fun w => by kernel_rfl) h hd hu hx (by k_extra "w") h1 h2 h3
theorem fit_c {fp p : Pos} {e : Expr} {es : List Expr} (hd : 40 ≤ d) (hu : 300 ≤ u) (h : Evs sc d u w m n p (e :: es) (KCall 40 300 371 w R)) (hx : autoParam (∀ c : Fc w, (c.env sc).kindOf (Str.ofString "read_fit") = some .globalImplicit) aY)
    (h1 : autoParam (CallEq (Str.ofString "read_fit") fp p e es) aY)
    (h2 : autoParam (StarEq e es) aY) (h3 : autoParam (NoStar p es) aY) : Ev sc d u w m n (.Call (.Name (Str.ofString "read_fit") fp) (e :: es) [] p) R :=
  Ev.call (f := 371) (fun w => by kernel_rfl) (fun w => by kernel_rfl) h hd hu hx (by k_extra "w") h1 h2 h3
theorem box_c {fp p : Pos} {e : Expr} {es : List Expr} (hd : 120 ≤ d) (hu : 960 ≤ u) (h : Evs sc d u w m n p (e :: es) (KCall 120 960 357 w R)) (hx : autoParam (∀ c : Fc w, (c.env sc).kindOf (Str.ofString "read_box") = some .globalImplicit) aY)
    (h1 : autoParam (CallEq (Str.ofString "read_box") fp p e es) aY)
    (h2 : autoParam (StarEq e es) aY) (h3 : autoParam (NoStar p es) aY) : Ev sc d u w m n (.Call (.Name (Str.ofString "read_box") fp) (e :: es) [] p) R :=
  Ev.call (f := 357) (fun w => by kernel_rfl) (fun w => by kernel_rfl) h hd hu hx (by k_extra "w") h1 h2 h3
theorem fitted_c {fp p : Pos} {e : Expr} {es : List Expr} (hd : 90 ≤ d) (hu : 720 ≤ u) (h : Evs sc d u w m n p (e :: es) (KCall 90 720 386 w R)) (hx : autoParam (∀ c : Fc w, (c.env sc).kindOf (Str.ofString "fitted") = some .globalImplicit) aY)
    (h1 : autoParam (CallEq (Str.ofString "fitted") fp p e es) aY)
    (h2 : autoParam (StarEq e es) aY) (h3 : autoParam (NoStar p es) aY) : Ev sc d u w m n (.Call (.Name (Str.ofString "fitted") fp) (e :: es) [] p) R :=
  Ev.call (f := 386) (fun w => by kernel_rfl) (fun w => by kernel_rfl) h hd hu hx (by k_extra "w") h1 h2 h3
theorem Op.isNotNoneR {B : Addr} (h : R (.bool true) n) : Op sc d u w m n [.ref B, .none] (cmT .IsNot) R := by
  intro vs hv c hc s Q E A q
  k_extra "v"
  obtain rfl := i1.ref
  obtain rfl := i2.none
  exact wpAny_pure (q _ (.bool true) n s.heap s.toks rfl h A)
theorem scaling_k {a1 a2 : Addr} {q1 q2 : Rat} (h1 : R2 w n a1 q1) (h2 : R2 w n a2 q2) (k : ∀ M n', Sub n n' → MatIs w n' M q1 0 0 q2 0 0 → R (.ref M) n') : PCl 60 480 299 w [.ref a1, .ref a2] n R :=
  fun vs hv => pair_refs hv fun e => e ▸ cl_mono (scaling_spec h1 h2) (by rintro v nw ⟨M, nw', rfl, rfl, hs, hM⟩; exact ⟨.ref M, rfl, k M _ hs hM⟩)
theorem identity_k (k : ∀ M n', Sub n n' → MatIs w n' M 1 0 0 1 0 0 → R (.ref M) n') : PCl 60 480 292 w [] n R := by
  intro vs hv
  have e : vs = [] := by cases vs with | nil => rfl | cons => exact hv.elim
  subst e
  exact cl_mono identity_spec (by rintro v nw ⟨M, nw', rfl, rfl, hs, hM⟩; exact ⟨.ref M, rfl, k M _ hs hM⟩)
theorem four_width {o : Str} {xp p : Pos} {cls C A1 A2 A3 A4 : Addr} (hm : m.lookup o = some (.ref C)) (hF : FourAt w n cls C A1 A2 A3 A4)
    (g1 : plainGet (Mine.hd.heap_1 w.params) cls (Str.ofString "width") = true) (g2 : hasDictIn (Mine.hd.heap_1 w.params) cls = true) (g3 : findIn (Mine.hd.heap_1 w.params) (.ref cls) (Str.ofString "width") = some Option.none) (h : R (.ref A3) n)
    (hx : autoParam (∀ c : Fc w, (c.env sc).kindOf o = some .local) aY) (hd : autoParam ((o == Str.ofString "__debug__") = false) aW) : Ev sc d u w m n (.Attribute (.Name o xp) (Str.ofString "width") p) R := by
  obtain ⟨dC, t1, t2, t3, t4, h1, h2⟩ := hF
  exact Ev.attr hm h1 h2 g1 g2 g3 (by rfl) (by rfl) (by rfl) (v := .ref A3) (pv := .ref A3) rfl h hx hd
theorem four_height {o : Str} {xp p : Pos} {cls C A1 A2 A3 A4 : Addr} (hm : m.lookup o = some (.ref C)) (hF : FourAt w n cls C A1 A2 A3 A4)
    (g1 : plainGet (Mine.hd.heap_1 w.params) cls (Str.ofString "height") = true) (g2 : hasDictIn (Mine.hd.heap_1 w.params) cls = true) (g3 : findIn (Mine.hd.heap_1 w.params) (.ref cls) (Str.ofString "height") = some Option.none) (h : R (.ref A4) n)
    (hx : autoParam (∀ c : Fc w, (c.env sc).kindOf o = some .local) aY) (hd : autoParam ((o == Str.ofString "__debug__") = false) aW) : Ev sc d u w m n (.Attribute (.Name o xp) (Str.ofString "height") p) R := by
  obtain ⟨dC, t1, t2, t3, t4, h1, h2⟩ := hF
  exact Ev.attr hm h1 h2 g1 g2 g3 (by rfl) (by rfl) (by rfl) (v := .ref A4) (pv := .ref A4) rfl h hx hd
noncomputable abbrev VB : Str := Str.ofString "viewBox"
noncomputable abbrev PAR : Str := Str.ofString "preserveAspectRatio"
noncomputable abbrev PCU : Str := Str.ofString "patternContentUnits"
inductive Tells (w : World) (n : Led) (D : Addr) (k : Str) (o : Option Str) : Prop
  | mk (es : List EltR) (f0 : LstAt n D (es.map fun e => .ref e.1)) (f1 : (∀ e ∈ es, EltAt w n e.1 e.2.1 ∧ AttrIs e.2.1 k e.2.2)) (f2 : (es.findSome? fun e => e.2.2) = o) : Tells w n D k o
theorem Tells.sub {n n' : Led} {D : Addr} {k : Str} {o : Option Str} (h : Tells w n D k o) (s : Sub n n') : Tells w n' D k o := by
  obtain ⟨es, h1, h2, h3⟩ := h
  exact ⟨es, h1.sub s, fun e he => ⟨(h2 e he).1.sub s, (h2 e he).2⟩, h3⟩
theorem told_k {D : Addr} {k : Str} {o : Option Str} {dv : PV} (h : Tells w n D k o) (q : ∀ n', Sub n n' → R (optPV dv o) n') : PCl 40 300 306 w [.ref D, .str k, dv] n R := by
  obtain ⟨_, h1, h2, h3⟩ := h
  exact told_spec h1 h2 (h3 ▸ q)
theorem by_k {D : Addr} {k o t : Str} {ot : Option Str} (h : Tells w n D k ot) (ht : optPV (.str o) ot = .str t) (hin : [OBB, USU].any (· == t) = true) (q : ∀ n', Sub n n' → R (.bool (t == OBB)) n') : PCl 60 420 314 w [.ref D, .str k, .str o] n R := by
  obtain ⟨_, h1, h2, h3⟩ := h
  exact by_spec h1 h2 (h3 ▸ ht) hin q
theorem by_kx {D : Addr} {k o t : Str} {ot : Option Str} (h : Tells w n D k ot) (ht : optPV (.str o) ot = .str t) (hx : t.length < 1000) (hin : [OBB, USU].any (· == t) = false) : PX 60 420 314 w [.ref D, .str k, .str o] n := by
  obtain ⟨_, h1, h2, h3⟩ := h
  exact by_raise h1 h2 (h3 ▸ ht) hx hin
theorem matrix_shape {D C B A1 A2 A3 A4 : Addr} {t : Str} {ou : Option Str} {q3 q4 : Rat} (hB : Tells w n D VB Option.none) (hU : Tells w n D PCU ou) (ht : optPV (.str USU) ou = .str t) (hin : [OBB, USU].any (· == t) = true) (hT : (t == OBB) = true)
    (hS : FourAt w n 479 B A1 A2 A3 A4) (r3 : R2 w n A3 q3) (r4 : R2 w n A4 q4) (k : ∀ M n', Sub n n' → MatIs w n' M q3 0 0 q4 0 0 → R (.ref M) n') : PCl 150 1200 419 w [.ref D, .ref C, .ref B] n R := by
  (k_with "v43" => with_reducible first | (refine told_c (by decide) (by decide) ?_) | (refine by_c (by decide) (by decide) ?_) | (refine scaling_c (by decide) (by decide) ?_) | k_extra "ev1")
  refine PCl.enter (d' := 140) (u' := 1170) (by k_is) (by k_is) (hb3 (x1 := Str.ofString "elements") (x2 := Str.ofString "cell") (x3 := Str.ofString "box") (fun _ _ _ _ => BindsTo.of_eq rfl) (by decide +kernel)) ?_ (by decide) (by decide)
  repeat (k_extra "v43")
  refine told_k hB fun n1 s1 => ?_
  repeat (k_extra "v43")
  refine Ex1.ite ?_
  repeat (k_extra "v43")
  refine Op.isNotNoneN ?_
  repeat (k_extra "v43")
  refine Ex1.ite ?_
  repeat (k_extra "v43")
  refine Tst.val ?_
  repeat (k_extra "v43")
  refine by_k (hU.sub s1) ht hin fun n2 s2 => ?_
  rw [hT]
  repeat (k_extra "v43")
  refine Op.isNotNoneR ?_
  repeat (k_extra "v43")
  refine four_width (by k_extra "w") (hS.sub (Sub.via s2 s1)) (by k_is) (by k_is) (by k_is) ?_
  repeat (k_extra "v43")
  refine four_height (by k_extra "w") (hS.sub (Sub.via s2 s1)) (by k_is) (by k_is) (by k_is) ?_
  repeat (k_extra "v43")
  exact scaling_k (r3.sub (Sub.via s2 s1)) (r4.sub (Sub.via s2 s1)) fun M n3 s3 hM => k M n3 (Sub.via s3 (Sub.via s2 s1)) hM
theorem identity_c {fp p : Pos} (hd : 60 ≤ d) (hu : 480 ≤ u) (h : PCl 60 480 292 w [] n R) (hx : autoParam (∀ c : Fc w, (c.env sc).kindOf (Str.ofString "identity") = some .globalImplicit) aY)
    (h1 : autoParam (∀ env, eval ((Expr.Name (Str.ofString "identity") fp).Call [] [] p) env = (do let v ← eval (Expr.Name (Str.ofString "identity") fp) env; callWith p v [] (backTo p (starEach [] env)) (backToKw p (keywordEach [] env)))) aY) : Ev sc d u w m n (.Call (.Name (Str.ofString "identity") fp) [] [] p) R := by
  intro c hc s Q E A q
  k_extra "oa"
  have hf : nsIn (Mine.hd.heap_1 w.params) mainGlobals (Str.ofString "identity") = some (some (.ref 292)) := by k_is
  refine Call_ (nameX_K F hc.X (topRead_of hc.T) hf ?_ hc.hk (hx c) (by k_extra "w")) (h1 _)
  refine callWith_K0 (hc.X.keeps F.keep) (by k_is) ?_
  exact cl_use (h [] trivial) hc.B F hc.X N hc.T hc.hk (Nat.lt_of_le_of_lt (Nat.add_le_add_left hd _) hc.hd) (Nat.lt_of_le_of_lt (Nat.add_le_add_left hu _) hc.hu)
    fun v nw h' tk' ⟨pv, a1, a2⟩ F' N' => q v pv nw h' tk' a1 a2 ⟨m', hm', F', N'⟩
theorem matrix_units {D C : Addr} {pb : PV} {t : Str} {ou : Option Str} (hB : Tells w n D VB Option.none) (hU : Tells w n D PCU ou) (ht : optPV (.str USU) ou = .str t) (hin : [OBB, USU].any (· == t) = true) (hT : (t == OBB) = false) (k : ∀ M n', Sub n n' → MatIs w n' M 1 0 0 1 0 0 → R (.ref M) n') : PCl 150 1200 419 w [.ref D, .ref C, pb] n R := by
  refine PCl.enter (d' := 140) (u' := 1170) (by k_is) (by k_is) (hb3 (x1 := Str.ofString "elements") (x2 := Str.ofString "cell") (x3 := Str.ofString "box") (fun _ _ _ _ => BindsTo.of_eq rfl) (by decide +kernel)) ?_ (by decide) (by decide)
  repeat (k_extra "v43")
  refine told_k hB fun n1 s1 => ?_
  repeat (k_extra "v43")
  refine Ex1.ite ?_
  repeat (k_extra "v43")
  refine Op.isNotNoneN ?_
  repeat (k_extra "v43")
  refine Ex1.ite ?_
  repeat (k_extra "v43")
  refine Tst.val ?_
  repeat (k_extra "v43")
  refine by_k (hU.sub s1) ht hin fun n2 s2 => ?_
  rw [hT]
  repeat (k_extra "v43")
  refine identity_c (by decide) (by decide) (identity_k fun M n3 s3 hM => ?_)
  repeat (k_extra "v43")
  exact k M n3 (Sub.via s3 (Sub.via s2 s1)) hM
theorem matrix_noshape {D C : Addr} {t : Str} {ou : Option Str} (hB : Tells w n D VB Option.none) (hU : Tells w n D PCU ou) (ht : optPV (.str USU) ou = .str t) (hin : [OBB, USU].any (· == t) = true) (k : ∀ M n', Sub n n' → MatIs w n' M 1 0 0 1 0 0 → R (.ref M) n') : PCl 150 1200 419 w [.ref D, .ref C, .none] n R := by
  refine PCl.enter (d' := 140) (u' := 1170) (by k_is) (by k_is) (hb3 (x1 := Str.ofString "elements") (x2 := Str.ofString "cell") (x3 := Str.ofString "box") (fun _ _ _ _ => BindsTo.of_eq rfl) (by decide +kernel)) ?_ (by decide) (by decide)
  repeat (k_extra "v43")
  refine told_k hB fun n1 s1 => ?_
  repeat (k_extra "v43")
  refine Ex1.ite ?_
  repeat (k_extra "v43")
  refine Op.isNotNoneN ?_
  repeat (k_extra "v43")
  refine Ex1.ite ?_
  repeat (k_extra "v43")
  refine Tst.val ?_
  repeat (k_extra "v43")
  refine by_k (hU.sub s1) ht hin fun n2 s2 => ?_
  cases hT : (t == OBB)
  · repeat (k_extra "v43")
    refine identity_c (by decide) (by decide) (identity_k fun M n3 s3 hM => ?_)
    repeat (k_extra "v43")
    exact k M n3 (Sub.via s3 (Sub.via s2 s1)) hM
  · repeat (k_extra "v43")
    refine Op.isNotNoneN ?_
    repeat (k_extra "v43")
    refine identity_c (by decide) (by decide) (identity_k fun M n3 s3 hM => ?_)
    repeat (k_extra "v43")
    exact k M n3 (Sub.via s3 (Sub.via s2 s1)) hM
end
section
variable {sc : Sc} {d u : Nat} {w : World} {m : Nms} {n n0 : Led} {R : PV → Led → Prop} {S : PF → Nms → Led → Prop}
theorem pos_of_rv {x y : Int} (hy : 0 < y) (h : 0 < rv x y) : 0 < x := by
  have := (rv_lt (a0 := 0) (a1 := 1) (b0 := x) (b1 := y) (by decide) hy).mp (by rw [rv_zero]; exact h)
  omega
def FitOf (w : World) (tf al : Str) (sl : Bool) : Prop := ∀ (n : Led) (R : PV → Led → Prop), (∀ n' D, Sub n n' → TupAt n' D [.str al, .bool sl] → R (.ref D) n') → PCl 40 300 371 w [.str tf] n R
def BoxOf (w : World) (tb : Str) (r0 r1 r2 r3 : Rat) : Prop := ∀ (n : Led) (R : PV → Led → Prop), (∀ n' D pvs, Sub n n' → TupAt n' D pvs → All2 (Num w n') pvs [r0, r1, r2, r3] → R (.ref D) n') → PCl 120 960 357 w [.str tb] n R
theorem matrix_none {D C A1 A2 A3 A4 : Addr} {pb : PV} {tb tf al : Str} {sl : Bool} {of : Option Str} {r0 r1 r2 r3 : Rat} {c0 c1 e0 e1 : Int} (hB : Tells w n D VB (some tb)) (hF : Tells w n D PAR of) (hf : optPV (.str (Str.ofString "")) of = .str tf) (fit : FitOf w tf al sl) (box : BoxOf w tb r0 r1 r2 r3) (h2 : 0 < r2) (h3 : 0 < r3)
    (hC : FourAt w n 338 C A1 A2 A3 A4) (tc : T2 w n A3 c0 c1) (bc : Bd 6 c0 c1) (te : T2 w n A4 e0 e1) (be : Bd 6 e0 e1) (hal : al = Str.ofString "none") (k : ∀ M n', Sub n n' → MatIs w n' M (rv c0 c1 / r2) 0 0 (rv e0 e1 / r3) (0 - r0 * (rv c0 c1 / r2)) (0 - r1 * (rv e0 e1 / r3)) → R (.ref M) n') : PCl 250 2000 419 w [.ref D, .ref C, pb] n R := by
  (k_with "v46" => with_reducible first | (refine told_c (by decide) (by decide) ?_) | (refine fit_c (by decide) (by decide) ?_) | (refine box_c (by decide) (by decide) ?_) | (refine fitted_c (by decide) (by decide) ?_) | k_extra "ev1")
  refine PCl.enter (d' := 240) (u' := 1970) (by k_is) (by k_is) (hb3 (x1 := Str.ofString "elements") (x2 := Str.ofString "cell") (x3 := Str.ofString "box") (fun _ _ _ _ => BindsTo.of_eq rfl) (by decide +kernel)) ?_ (by decide) (by decide)
  repeat (k_extra "v46")
  refine told_k hB fun n1 s1 => ?_
  repeat (k_extra "v46")
  refine Ex1.ite ?_
  repeat (k_extra "v46")
  refine Op.isNotNoneS ?_
  repeat (k_extra "v46")
  refine told_k (hF.sub s1) fun n2 s2 => ?_
  rw [hf]
  repeat (k_extra "v46")
  refine fit _ _ fun n3 F3 s3 t3 => ?_
  repeat (k_extra "v46")
  refine box _ _ fun n4 D4 pvs s4 hT4 hN4 => ?_
  obtain ⟨p0, p1, p2, p3, rfl, ⟨B0, x0, y0, rfl, a0, b0, g0⟩, ⟨B1, x1, y1, rfl, a1, b1, g1⟩, ⟨B2, x2, y2, rfl, a2, b2, g2⟩, ⟨B3, x3, y3, rfl, a3, b3, g3⟩⟩ := all2_4' hN4
  have w2 : 0 < x2 := pos_of_rv b2.2.1 (g2 ▸ h2)
  have w3 : 0 < x3 := pos_of_rv b3.2.1 (g3 ▸ h3)
  have sA : Sub n n4 := Sub.via s4 (Sub.via s3 (Sub.via s2 s1))
  have hC4 := hC.sub sA
  have tc4 := tc.sub sA
  have te4 := te.sub sA
  repeat (k_extra "v46")
  refine four_width (by k_extra "w") hC4 (by k_is) (by k_is) (by k_is) ?_
  repeat (k_extra "v46")
  refine four_height (by k_extra "w") hC4 (by k_is) (by k_is) (by k_is) ?_
  repeat (k_extra "v46")
  subst hal
  refine fitk_none hT4 a0 b0 a1 b1 a2 b2 a3 b3 w2 w3 tc4 bc te4 be fun M n5 s5 hM => ?_
  rw [g0, g1, g2, g3] at hM
  repeat (k_extra "v46")
  exact k M n5 (Sub.via s5 sA) hM
theorem matrix_some {D C A1 A2 A3 A4 : Addr} {pb : PV} {tb tf al : Str} {sl : Bool} {of : Option Str} {r0 r1 r2 r3 : Rat} {c0 c1 e0 e1 : Int} (hB : Tells w n D VB (some tb)) (hF : Tells w n D PAR of) (hf : optPV (.str (Str.ofString "")) of = .str tf) (fit : FitOf w tf al sl) (box : BoxOf w tb r0 r1 r2 r3) (h2 : 0 < r2) (h3 : 0 < r3)
    (hC : FourAt w n 338 C A1 A2 A3 A4) (tc : T2 w n A3 c0 c1) (bc : Bd 6 c0 c1) (te : T2 w n A4 e0 e1) (be : Bd 6 e0 e1) {a b : Int} (hal : (al != Str.ofString "none") = true) (hp1 : PartIs (Txt.slice al (some 1) (some 4)) a) (hp2 : PartIs (Txt.slice al (some 5) none) b) (hlen : al.length < 1000)
    (k : ∀ M n', Sub n n' → MatIs w n' M (fitSc r2 r3 (rv c0 c1) (rv e0 e1) sl) 0 0 (fitSc r2 r3 (rv c0 c1) (rv e0 e1) sl) (rv a 2 * (rv c0 c1 - r2 * fitSc r2 r3 (rv c0 c1) (rv e0 e1) sl) - r0 * fitSc r2 r3 (rv c0 c1) (rv e0 e1) sl) (rv b 2 * (rv e0 e1 - r3 * fitSc r2 r3 (rv c0 c1) (rv e0 e1) sl) - r1 * fitSc r2 r3 (rv c0 c1) (rv e0 e1) sl) → R (.ref M) n') : PCl 250 2000 419 w [.ref D, .ref C, pb] n R := by
  refine PCl.enter (d' := 240) (u' := 1970) (by k_is) (by k_is) (hb3 (x1 := Str.ofString "elements") (x2 := Str.ofString "cell") (x3 := Str.ofString "box") (fun _ _ _ _ => BindsTo.of_eq rfl) (by decide +kernel)) ?_ (by decide) (by decide)
  repeat (k_extra "v46")
  refine told_k hB fun n1 s1 => ?_
  repeat (k_extra "v46")
  refine Ex1.ite ?_
  repeat (k_extra "v46")
  refine Op.isNotNoneS ?_
  repeat (k_extra "v46")
  refine told_k (hF.sub s1) fun n2 s2 => ?_
  rw [hf]
  repeat (k_extra "v46")
  refine fit _ _ fun n3 F3 s3 t3 => ?_
  repeat (k_extra "v46")
  refine box _ _ fun n4 D4 pvs s4 hT4 hN4 => ?_
  obtain ⟨p0, p1, p2, p3, rfl, ⟨B0, x0, y0, rfl, a0, b0, g0⟩, ⟨B1, x1, y1, rfl, a1, b1, g1⟩, ⟨B2, x2, y2, rfl, a2, b2, g2⟩, ⟨B3, x3, y3, rfl, a3, b3, g3⟩⟩ := all2_4' hN4
  have w2 : 0 < x2 := pos_of_rv b2.2.1 (g2 ▸ h2)
  have w3 : 0 < x3 := pos_of_rv b3.2.1 (g3 ▸ h3)
  have sA : Sub n n4 := Sub.via s4 (Sub.via s3 (Sub.via s2 s1))
  have hC4 := hC.sub sA
  have tc4 := tc.sub sA
  have te4 := te.sub sA
  repeat (k_extra "v46")
  refine four_width (by k_extra "w") hC4 (by k_is) (by k_is) (by k_is) ?_
  repeat (k_extra "v46")
  refine four_height (by k_extra "w") hC4 (by k_is) (by k_is) (by k_is) ?_
  repeat (k_extra "v46")
  refine fitk_some hT4 a0 b0 a1 b1 a2 b2 a3 b3 w2 w3 tc4 bc te4 be hal hp1 hp2 hlen fun M n5 s5 hM => ?_
  rw [g0, g1, g2, g3] at hM
  repeat (k_extra "v46")
  exact k M n5 (Sub.via s5 sA) hM
end
section
variable {sc : Sc} {d u : Nat} {w : World} {m : Nms} {n n0 : Led} {R : PV → Led → Prop} {S : PF → Nms → Led → Prop}
abbrev XTst (sc : Sc) (d u : Nat) (w : World) (m : Nms) (n n0 : Led) (e : Expr) : Prop := XT sc d u w m n n0 (fun env => isTrue e env (eval e env))
theorem XEx1.iteX {t : Expr} {a b : List Stmt} {p : Pos} (h : XTst sc d u w m n n0 t) : XEx1 sc d u w m n n0 (.If t a b p) := fun c hc s Q E A q => wpAny_If (h c hc s _ E A q)
theorem XTst.and2 {a b : Expr} {p : Pos} (h : XTst sc d u w m n n0 a) : XTst sc d u w m n n0 (.BoolOp .And [a, b] p) := fun c hc s Q E A q => wpAny_isTrue_BoolOp (wpAny_allTrue_And_cons (h c hc s _ E A q))
theorem XTst.val {e : Expr} (h : XEv sc d u w m n n0 e) (he : autoParam (∀ env whole, isTrue e env whole = (do let v ← whole; standAt e.pos; holding [v] (truthy v))) aZ) : XTst sc d u w m n n0 e := by
  intro c hc s Q E A q
  show wpAny _ _ (isTrue e (c.env sc) (eval e (c.env sc))) Q E s
  rw [he]
  exact wpAny_bind (h c hc s _ E A q)
theorem XEv.arg {fx : Str} {fp p : Pos} {e : Expr} {es : List Expr} {f : Addr} (hf : ∀ w : World, nsIn (Mine.hd.heap_1 w.params) mainGlobals fx = some (some (.ref f)))
    (hk : ∀ w : World, keepIn (Mine.hd.heap_1 w.params) (.ref f) = true) (h : XEv sc d u w m n n0 e) (hx : autoParam (∀ c : Fc w, (c.env sc).kindOf fx = some .globalImplicit) aY) (hg : autoParam ((fx == Str.ofString "__debug__") = false) aW)
    (h1 : autoParam (CallEq fx fp p e es) aY)
    (h2 : autoParam (StarEq e es) aY) (h3 : autoParam (NoStar p es) aY) :
    XEv sc d u w m n n0 (.Call (.Name fx fp) (e :: es) [] p) := by
  intro c hc s Q E A q
  have A0 := A
  obtain ⟨m', hm', F, N⟩ := A0
  refine Call_ (nameX_K F hc.X (topRead_of hc.T) (hf w) ?_ hc.hk (hx c) hg) (h1 _)
  exact callWith_K hc.X (hk w) (args_cons (h c hc s _ E A q) (h2 _)) (h2 _) (h3 _)
theorem matrix_fitx {D C : Addr} {pb : PV} {tb tf : Str} {of : Option Str} (hB : Tells w n D VB (some tb)) (hF : Tells w n D PAR of) (hf : optPV (.str (Str.ofString "")) of = .str tf) (fit : ∀ n, PX 40 300 371 w [.str tf] n) : PX 250 2000 419 w [.ref D, .ref C, pb] n := by
  (k_with "v48" => with_reducible first | (refine told_c (by decide) (by decide) ?_) | (refine fit_c (by decide) (by decide) ?_) | (refine box_c (by decide) (by decide) ?_) | (refine fitted_c (by decide) (by decide) ?_) | (refine by_c (by decide) (by decide) ?_) | k_extra "ev1")
  refine PX.enter (d' := 240) (u' := 1970) (by k_is) (by k_is) (hb3 (x1 := Str.ofString "elements") (x2 := Str.ofString "cell") (x3 := Str.ofString "box") (fun _ _ _ _ => BindsTo.of_eq rfl) (by decide +kernel)) ?_ (by decide) (by decide)
  refine XEx.seq ?_
  repeat (k_extra "v48")
  refine told_k hB fun n1 s1 => ?_
  repeat (k_extra "v48")
  refine ⟨rfl, XEx.head (XEx1.ite ?_)⟩
  repeat (k_extra "v48")
  refine Op.isNotNoneS ?_
  repeat (k_extra "v48")
  refine XEx.head (XEx1.unpackX ?_)
  refine XEv.call (d' := 40) (u' := 300) (f := 371) (fun w => by kernel_rfl) (fun w => by kernel_rfl) ?_ (by decide) (by decide)
  repeat (k_extra "v48")
  refine told_k (hF.sub s1) fun n2 s2 => ?_
  rw [hf]
  repeat (k_extra "v48")
  exact ⟨Sub.via s2 s1, fit _⟩
theorem matrix_boxx {D C : Addr} {pb : PV} {tb tf al : Str} {sl : Bool} {of : Option Str} (hB : Tells w n D VB (some tb)) (hF : Tells w n D PAR of) (hf : optPV (.str (Str.ofString "")) of = .str tf) (fit : FitOf w tf al sl) (box : ∀ n, PX 120 960 357 w [.str tb] n) : PX 250 2000 419 w [.ref D, .ref C, pb] n := by
  refine PX.enter (d' := 240) (u' := 1970) (by k_is) (by k_is) (hb3 (x1 := Str.ofString "elements") (x2 := Str.ofString "cell") (x3 := Str.ofString "box") (fun _ _ _ _ => BindsTo.of_eq rfl) (by decide +kernel)) ?_ (by decide) (by decide)
  refine XEx.seq ?_
  repeat (k_extra "v48")
  refine told_k hB fun n1 s1 => ?_
  repeat (k_extra "v48")
  refine ⟨rfl, XEx.head (XEx1.ite ?_)⟩
  repeat (k_extra "v48")
  refine Op.isNotNoneS ?_
  repeat (k_extra "v48")
  refine XEx.seq ?_
  repeat (k_extra "v48")
  refine told_k (hF.sub s1) fun n2 s2 => ?_
  rw [hf]
  repeat (k_extra "v48")
  refine fit _ _ fun n3 F3 s3 t3 => ?_
  repeat (k_extra "v48")
  refine ⟨rfl, XEx.head (XEx1.ret ?_)⟩
  refine XEv.arg (f := 386) (fun w => by kernel_rfl) (fun w => by kernel_rfl) ?_
  refine XEv.call (d' := 120) (u' := 960) (f := 357) (fun w => by kernel_rfl) (fun w => by kernel_rfl) ?_ (by decide) (by decide)
  repeat (k_extra "v48")
  exact ⟨Sub.via s3 (Sub.via s2 s1), box _⟩
theorem matrix_unitsx {D C : Addr} {pb : PV} {t : Str} {ou : Option Str} (hB : Tells w n D VB Option.none) (hU : Tells w n D PCU ou) (ht : optPV (.str USU) ou = .str t) (hx : t.length < 1000) (hin : [OBB, USU].any (· == t) = false) : PX 250 2000 419 w [.ref D, .ref C, pb] n := by
  refine PX.enter (d' := 240) (u' := 1970) (by k_is) (by k_is) (hb3 (x1 := Str.ofString "elements") (x2 := Str.ofString "cell") (x3 := Str.ofString "box") (fun _ _ _ _ => BindsTo.of_eq rfl) (by decide +kernel)) ?_ (by decide) (by decide)
  refine XEx.seq ?_
  repeat (k_extra "v48")
  refine told_k hB fun n1 s1 => ?_
  repeat (k_extra "v48")
  refine ⟨rfl, XEx.seq (Ex1.ite ?_)⟩
  repeat (k_extra "v48")
  refine Op.isNotNoneN ?_
  repeat (k_extra "v48")
  refine ⟨rfl, XEx.head (XEx1.iteX (XTst.and2 (XTst.val ?_)))⟩
  refine XEv.call (d' := 60) (u' := 420) (f := 314) (fun w => by kernel_rfl) (fun w => by kernel_rfl) ?_ (by decide) (by decide)
  repeat (k_extra "v48")
  exact ⟨s1, by_kx (hU.sub s1) ht hx hin⟩
end
theorem textIs_of {x : Str} {ws : List Str} {rs : List Rat} (hx : x.length < 500) (hr : (Txt.replace x (Str.ofString ",") (Str.ofString " ")).length < 1000) (e : Txt.words (Txt.replace x (Str.ofString ",") (Str.ofString " ")) = ws) (h : All2 WordIs ws rs) (hl : rs.length < 1000) : TextIs x rs := ⟨hx, hr, e ▸ h, hl⟩
theorem box_t0 : TextIs (Str.ofString "0 0 2 4") [rv 0 1, rv 0 1, rv 2 1, rv 4 1] := textIs_of (ws := [Str.ofString "0", Str.ofString "0", Str.ofString "2", Str.ofString "4"]) (by decide +kernel) (by decide +kernel) (by decide +kernel) ⟨w_0, w_0, w_2, w_4, trivial⟩ (by with_unfolding_all exact Nat.le_of_ble_eq_true rfl)
theorem box_f0 {w : World} : BoxOf w (Str.ofString "0 0 2 4") (rv 0 1) (rv 0 1) (rv 2 1) (rv 4 1) := fun _ _ k => box_spec box_t0 (by decide +kernel) (by decide +kernel) k
theorem box_t1 : TextIs (Str.ofString "-1.5, 2 .5 3") [rv (-3) 2, rv 2 1, rv 1 2, rv 3 1] := textIs_of (ws := [Str.ofString "-1.5", Str.ofString "2", Str.ofString ".5", Str.ofString "3"]) (by decide +kernel) (by decide +kernel) (by decide +kernel) ⟨w_m, w_2, w_h, w_3, trivial⟩ (by with_unfolding_all exact Nat.le_of_ble_eq_true rfl)
theorem box_f1 {w : World} : BoxOf w (Str.ofString "-1.5, 2 .5 3") (rv (-3) 2) (rv 2 1) (rv 1 2) (rv 3 1) := fun _ _ k => box_spec box_t1 (by decide +kernel) (by decide +kernel) k
theorem box_t2 : TextIs (Str.ofString " 1,1,4,1 ") [rv 1 1, rv 1 1, rv 4 1, rv 1 1] := textIs_of (ws := [Str.ofString "1", Str.ofString "1", Str.ofString "4", Str.ofString "1"]) (by decide +kernel) (by decide +kernel) (by decide +kernel) ⟨w_1, w_1, w_4, w_1, trivial⟩ (by with_unfolding_all exact Nat.le_of_ble_eq_true rfl)
theorem box_f2 {w : World} : BoxOf w (Str.ofString " 1,1,4,1 ") (rv 1 1) (rv 1 1) (rv 4 1) (rv 1 1) := fun _ _ k => box_spec box_t2 (by decide +kernel) (by decide +kernel) k
theorem box_t3 : TextIs (Str.ofString "1 2 3") [rv 1 1, rv 2 1, rv 3 1] := textIs_of (ws := [Str.ofString "1", Str.ofString "2", Str.ofString "3"]) (by decide +kernel) (by decide +kernel) (by decide +kernel) ⟨w_1, w_2, w_3, trivial⟩ (by with_unfolding_all exact Nat.le_of_ble_eq_true rfl)
theorem box_t4 : TextIs (Str.ofString "0 0 0 5") [rv 0 1, rv 0 1, rv 0 1, rv 5 1] := textIs_of (ws := [Str.ofString "0", Str.ofString "0", Str.ofString "0", Str.ofString "5"]) (by decide +kernel) (by decide +kernel) (by decide +kernel) ⟨w_0, w_0, w_0, w_5, trivial⟩ (by with_unfolding_all exact Nat.le_of_ble_eq_true rfl)
theorem box_x3 {w : World} {n : Led} : PX 120 960 357 w [.str (Str.ofString "1 2 3")] n := box_raise1 box_t3 (by decide)
theorem box_x4 {w : World} {n : Led} : PX 120 960 357 w [.str (Str.ofString "0 0 0 5")] n := box_raise2 box_t4 (by decide +kernel)
theorem fit_f0 {w : World} : FitOf w (Str.ofString "none") (Str.ofString "none") false := fun _ _ k => fit_spec (ws := [Str.ofString "none"]) (by decide +kernel) (by decide +kernel) (by decide +kernel) (.inr ⟨_, rfl, by decide +kernel, by decide +kernel, by with_unfolding_all exact Nat.le_of_ble_eq_true rfl, by decide +kernel, by decide +kernel⟩) k
theorem fit_f1 {w : World} : FitOf w (Str.ofString "xMinYMid") (Str.ofString "xMinYMid") false := fun _ _ k => fit_spec (ws := [Str.ofString "xMinYMid"]) (by decide +kernel) (by decide +kernel) (by decide +kernel) (.inr ⟨_, rfl, by decide +kernel, by decide +kernel, by with_unfolding_all exact Nat.le_of_ble_eq_true rfl, by decide +kernel, by decide +kernel⟩) k
theorem part_f1_0 : PartIs (Txt.slice (Str.ofString "xMinYMid") (some 1) (some 4)) 0 := (show Txt.slice (Str.ofString "xMinYMid") (some 1) (some 4) = Str.ofString "Min" by decide +kernel) ▸ PartIs.min
theorem part_f1_1 : PartIs (Txt.slice (Str.ofString "xMinYMid") (some 5) none) 1 := (show Txt.slice (Str.ofString "xMinYMid") (some 5) none = Str.ofString "Mid" by decide +kernel) ▸ PartIs.mid
theorem fit_f2 {w : World} : FitOf w (Str.ofString "xMaxYMin slice") (Str.ofString "xMaxYMin") true := fun _ _ k => fit_spec (ws := [Str.ofString "xMaxYMin", Str.ofString "slice"]) (by decide +kernel) (by decide +kernel) (by decide +kernel) (.inr ⟨_, rfl, by decide +kernel, by decide +kernel, by with_unfolding_all exact Nat.le_of_ble_eq_true rfl, by decide +kernel, by decide +kernel⟩) k
theorem part_f2_0 : PartIs (Txt.slice (Str.ofString "xMaxYMin") (some 1) (some 4)) 2 := (show Txt.slice (Str.ofString "xMaxYMin") (some 1) (some 4) = Str.ofString "Max" by decide +kernel) ▸ PartIs.max
theorem part_f2_1 : PartIs (Txt.slice (Str.ofString "xMaxYMin") (some 5) none) 0 := (show Txt.slice (Str.ofString "xMaxYMin") (some 5) none = Str.ofString "Min" by decide +kernel) ▸ PartIs.min
theorem fit_f3 {w : World} : FitOf w (Str.ofString "defer xMidYMax meet") (Str.ofString "xMidYMax") false := fun _ _ k => fit_spec (ws := [Str.ofString "xMidYMax", Str.ofString "meet"]) (by decide +kernel) (by decide +kernel) (by decide +kernel) (.inr ⟨_, rfl, by decide +kernel, by decide +kernel, by with_unfolding_all exact Nat.le_of_ble_eq_true rfl, by decide +kernel, by decide +kernel⟩) k
theorem part_f3_0 : PartIs (Txt.slice (Str.ofString "xMidYMax") (some 1) (some 4)) 1 := (show Txt.slice (Str.ofString "xMidYMax") (some 1) (some 4) = Str.ofString "Mid" by decide +kernel) ▸ PartIs.mid
theorem part_f3_1 : PartIs (Txt.slice (Str.ofString "xMidYMax") (some 5) none) 2 := (show Txt.slice (Str.ofString "xMidYMax") (some 5) none = Str.ofString "Max" by decide +kernel) ▸ PartIs.max
theorem fit_f4 {w : World} : FitOf w (Str.ofString " xMidYMid  slice") (Str.ofString "xMidYMid") true := fun _ _ k => fit_spec (ws := [Str.ofString "xMidYMid", Str.ofString "slice"]) (by decide +kernel) (by decide +kernel) (by decide +kernel) (.inr ⟨_, rfl, by decide +kernel, by decide +kernel, by with_unfolding_all exact Nat.le_of_ble_eq_true rfl, by decide +kernel, by decide +kernel⟩) k
theorem part_f4_0 : PartIs (Txt.slice (Str.ofString "xMidYMid") (some 1) (some 4)) 1 := (show Txt.slice (Str.ofString "xMidYMid") (some 1) (some 4) = Str.ofString "Mid" by decide +kernel) ▸ PartIs.mid
theorem part_f4_1 : PartIs (Txt.slice (Str.ofString "xMidYMid") (some 5) none) 1 := (show Txt.slice (Str.ofString "xMidYMid") (some 5) none = Str.ofString "Mid" by decide +kernel) ▸ PartIs.mid
theorem fit_f5 {w : World} : FitOf w (Str.ofString "") (Str.ofString "xMidYMid") false := fun _ _ k => fit_spec (ws := []) (by decide +kernel) (by decide +kernel) (by decide +kernel) (.inl ⟨rfl, rfl, rfl⟩) k
theorem part_f5_0 : PartIs (Txt.slice (Str.ofString "xMidYMid") (some 1) (some 4)) 1 := (show Txt.slice (Str.ofString "xMidYMid") (some 1) (some 4) = Str.ofString "Mid" by decide +kernel) ▸ PartIs.mid
theorem part_f5_1 : PartIs (Txt.slice (Str.ofString "xMidYMid") (some 5) none) 1 := (show Txt.slice (Str.ofString "xMidYMid") (some 5) none = Str.ofString "Mid" by decide +kernel) ▸ PartIs.mid
theorem fit_x {w : World} {n : Led} : PX 40 300 371 w [.str (Str.ofString "xMid")] n := fit_raise (a := Str.ofString "xMid") (by decide +kernel) (by decide +kernel) (by decide +kernel) (by decide +kernel) (by decide +kernel)
section
variable {sc : Sc} {d u : Nat} {w : World} {m : Nms} {n n0 : Led} {R : PV → Led → Prop} {S : PF → Nms → Led → Prop}
noncomputable def bare : PV → Bool
  | .none => false
  | _ => true
theorem isNot_none {M : Model} {A : Around} {E : Value → Shared → Prop} {s : Shared} {v : Value} {pv : PV} {Q : Value → Shared → Prop} (hp : PvIs v pv) (h : Q (.bool (bare pv)) s) : wpAny M A (compareOp .IsNot v .none) Q E s := by
  cases pv with
  | none => obtain rfl := hp.none; exact wpAny_pure h
  | ref a => obtain rfl := hp.ref; exact wpAny_pure h
  | str a => obtain ⟨t, rfl⟩ := hp.str; exact wpAny_pure h
  | int a => obtain ⟨t, rfl⟩ := hp.int; exact wpAny_pure h
  | bool a => obtain rfl := hp.bool; exact wpAny_pure h
theorem Ev.some_of {x o : Str} {q1 q2 q3 q4 q5 px pos : Pos} {k4 : Nat} {scope : Scope} {D : Addr} {pvs : List PV} (hm : m.lookup o = some (.ref D)) (hD : LstAt n D pvs) (hl : pvs.length < 1000)
    (h : ∀ D' n2, Sub n n2 → LstAt n2 D' (pvs.filter bare) → R (.ref D') n2)
    (hclos : autoParam (∀ c : Fc w, closureFor scope (c.env sc) = pure []) aY) (hcell : autoParam (∀ y ∈ scope.names, y.2 ≠ .cell) aD) (hkind : autoParam (scope.kind = .function) aW)
    (hnames : autoParam (∀ y ∈ scope.names, y.2 = .local → scope.names.lookup y.1 = some .local) aD) (hx : autoParam (scope.names.lookup x = some .local) aW)
    (hk : autoParam (∀ c : Fc w, (c.env sc).kindOf o = some .local) aY) (hd : autoParam ((o == Str.ofString "__debug__") = false) aW)
    (hkx : autoParam (∀ (c : Fc w) (C : Addr), (compEnvC scope [] C (c.env sc)).kindOf x = some .local) aZ) (hdx : autoParam ((x == Str.ofString "__debug__") = false) aW) (hs : autoParam (∀ env v, foldedSetIterable (.Name o q2) env v = pure v) aZ) :
    Ev sc d u w m n (.ListComp (.Name x q1) [⟨.Name x px, .Name o q2, [.Compare (.Name x q3) [.IsNot] [.Constant .none k4 q4] q5], 0⟩] scope pos) R := by
  intro c hc s Q E A q
  k_extra "oa"
  obtain ⟨v', hv, hp'⟩ := hm' o _ hm
  obtain rfl := hp'.ref
  obtain ⟨vs, kk, hDm, ha⟩ := hD
  refine LCt.ListComp_T F (hclos c) hcell hkind hnames hx (nameX_L F hv ?_ hc.hk (hk c) hd) (hs _)
  refine LCt.CompSrcT.ledger rfl F N hDm (by rw [List.size_toArray, ha.len, sizeLine_eq]; omega) fun g => ?_
  refine comp_invT (fun i ys n' => n' = n ∧ All2 PvIs ys ((pvs.take i).filter bare)) _ _ ⟨rfl, trivial⟩ ?_ ?_
  · rintro i ys n' hi ⟨rfl, hys⟩ v I oI C oC D2 m₂ h5 tk5 E' hv5 hC hxv F5 N5 off ne
    have hv6 : vs[i]? = some v := by simpa using hv5
    obtain ⟨pv, hpv, hvp⟩ := ha.get hv6
    have nm : ∀ (q : Pos) (Q' : Value → Shared → Prop) (E9 : Value → Shared → Prop) (t9 : Nat), Q' v { s with heap := h5, toks := t9 } → wpAny (model PG w) (c.A sc) (eval (.Name x q) (compEnvC scope [] C (c.env sc))) Q' E9 { s with heap := h5, toks := t9 } := fun q Q' E9 t9 h9 =>
      LCgL.ld_own (s := { s with heap := h5, toks := t9 }) N5 (.tail _ (.head _)) hC hxv h9 hkind (hkx c C) hdx
    have stp : (pvs.take (i + 1)).filter bare = (pvs.take i).filter bare ++ (if bare pv = true then [pv] else []) := by
      rw [List.take_add_one, hpv, List.filter_append]
      congr 1
      show List.filter bare [pv] = _
      cases hb : bare pv <;> simp [List.filter, hb]
    refine wpAny_isTrue_Compare1 (nm _ _ _ _ (wpAny_Constant_none (isNot_none hvp (wpAny_truthy_bool ?_)))) rfl
    have hS : LCg.SrcAt c.g D vs.toArray n' := .inr ⟨_, hDm, rfl, _, rfl⟩
    cases hb : bare pv
    · rw [if_neg (by decide)]
      refine LCg.CompEnd.intro F5 N5 n' (fun p hp => hp) off hS ⟨rfl, ?_⟩
      rw [stp, hb, if_neg (by decide), List.append_nil]
      exact hys
    · rw [if_pos rfl]
      refine nm _ _ _ _ ?_
      refine LCg.CompEnd.intro F5 N5 n' (fun p hp => hp) off hS ⟨rfl, ?_⟩
      rw [stp, hb, if_pos rfl]
      exact hys.append ⟨hvp, trivial⟩
  · rintro ys n' ⟨rfl, hys⟩
    rw [List.size_toArray, ha.len, List.take_length] at hys
    intro D9 h9 t9 F9 N9 off
    exact q (.ref D9) (.ref D9) _ h9 t9 rfl (h D9 _ (Sub.tail (Sub.refl _)) ⟨ys, ys.length, .head _, hys⟩) ⟨m', hm', F9, N9⟩
end
section
variable {sc : Sc} {d u : Nat} {w : World} {m : Nms} {n n0 : Led} {R : PV → Led → Prop} {S : PF → Nms → Led → Prop}
theorem first_spec {D : Addr} {pvs qs : List PV} {po q0 : PV} (hD : LstAt n D pvs) (hl : pvs.length < 500) (e : pvs.filter bare ++ [po] = q0 :: qs) (q : ∀ n', Sub n n' → R q0 n') : PCl 20 160 575 w [.ref D, po] n R := by
  refine PCl.enter (d' := 15) (u' := 130) (by k_is) (by k_is) (hb2 (x1 := Str.ofString "told") (x2 := Str.ofString "other") (fun _ _ _ => BindsTo.of_eq rfl) (by decide +kernel)) ?_ (by decide) (by decide)
  repeat (k_extra "ev1")
  refine Ev.some_of (D := D) (pvs := pvs) (by k_extra "w") hD (by omega) fun D1 n1 s1 l1 => ?_
  repeat (k_extra "ev1")
  have hf : (pvs.filter bare).length ≤ pvs.length := List.length_filter_le _ _
  refine Op.addL (LstAt.sub l1 (by assumption)) (by assumption) (by rw [List.length_singleton]; omega) fun D3 n3 s3 l3 => ?_
  rw [e] at l3
  repeat (k_extra "ev1")
  refine Op.lst0 l3 ?_ (by rw [← e, List.length_append, List.length_singleton]; omega)
  repeat (k_extra "ev1")
  exact q _ (by k_extra "sb9")
end
section
variable {sc : Sc} {d u : Nat} {w : World} {m : Nms} {n n0 : Led} {R : PV → Led → Prop} {S : PF → Nms → Led → Prop}
theorem row_spec {M : Addr} {q1 q2 q3 q4 q5 q6 : Rat} (hM : MatIs w n M q1 q2 q3 q4 q5 q6)
    (k : ∀ n' D A1 A2 A3 A4 A5 A6, Sub n n' → TupAt n' D [.ref A1, .ref A2, .ref A3, .ref A4, .ref A5, .ref A6] → R2 w n' A1 q1 → R2 w n' A2 q2 → R2 w n' A3 q3 → R2 w n' A4 q4 → R2 w n' A5 q5 → R2 w n' A6 q6 → R (.ref D) n') : PCl 20 160 243 w [.ref M] n R := by
  refine PCl.enter (d' := 15) (u' := 130) (by k_is) (by k_is) (hb1 (x1 := Str.ofString "self") (fun _ _ => BindsTo.of_eq rfl) (by decide +kernel)) ?_ (by decide) (by decide)
  obtain ⟨dM, A1, A2, A3, A4, A5, A6, t1, t2, t3, t4, t5, t6, h1, h2, r1, r2, r3, r4, r5, r6⟩ := hM
  repeat (k_extra "ev1")
  refine Ev.attr (by k_extra "w") h1 h2 (by k_is) (by k_is) (by k_is) (by k_is) (by rfl) (by rfl) (v := .ref A1) (pv := .ref A1) rfl ?_
  repeat (k_extra "ev1")
  refine Ev.attr (by k_extra "w") h1 h2 (by k_is) (by k_is) (by k_is) (by k_is) (by rfl) (by rfl) (v := .ref A2) (pv := .ref A2) rfl ?_
  repeat (k_extra "ev1")
  refine Ev.attr (by k_extra "w") h1 h2 (by k_is) (by k_is) (by k_is) (by k_is) (by rfl) (by rfl) (v := .ref A3) (pv := .ref A3) rfl ?_
  repeat (k_extra "ev1")
  refine Ev.attr (by k_extra "w") h1 h2 (by k_is) (by k_is) (by k_is) (by k_is) (by rfl) (by rfl) (v := .ref A4) (pv := .ref A4) rfl ?_
  repeat (k_extra "ev1")
  refine Ev.attr (by k_extra "w") h1 h2 (by k_is) (by k_is) (by k_is) (by k_is) (by rfl) (by rfl) (v := .ref A5) (pv := .ref A5) rfl ?_
  repeat (k_extra "ev1")
  refine Ev.attr (by k_extra "w") h1 h2 (by k_is) (by k_is) (by k_is) (by k_is) (by rfl) (by rfl) (v := .ref A6) (pv := .ref A6) rfl ?_
  repeat (k_extra "ev1")
  exact k _ _ A1 A2 A3 A4 A5 A6 (by k_extra "sb9") (by assumption) (r1.sub (by k_extra "sb9")) (r2.sub (by k_extra "sb9")) (r3.sub (by k_extra "sb9")) (r4.sub (by k_extra "sb9")) (r5.sub (by k_extra "sb9")) (r6.sub (by k_extra "sb9"))
end
end
section
open PySem PySem.W PyProof.Rows PySem.Spec PySem.Calls PyProof.Rows.LCg
noncomputable def BXS : List PyData := [.none, .none] ++ BOXES
noncomputable def FXS : List PyData := [.none] ++ FITS
noncomputable def UXS : List PyData := [.none, .str (Str.ofString "userSpaceOnUse"), .str (Str.ofString "objectBoundingBox"), .str (Str.ofString "objectBoundingBox"), .str (Str.ofString "x")]
noncomputable def strOf : PyData → Option Str
  | .str x => some x
  | _ => none
theorem sub_last {news : List (Addr × Obj)} {D L : Addr} {l : List Value} {x : Value} {h₀ : Heap} {w : World} {prog : Program} {A : Around} {E : Value → Shared → Prop} {s : Shared} {value slice : Expr} {u : Tok} {Q : Value → Shared → Prop}
    (hm : (D, lst (l ++ [x])) ∈ news) (N : News h₀ L s.heap news) (hl : l.length < 1000) (h : Q x s)
    (hs' : autoParam (∀ k, subscripted slice false (.ref D) (.int k u) = operate [.ref D, .int k u] (getItem (.ref D) (.int k u))) aY) :
    wpAny (model prog w) A (subscriptTail value slice (.ref D) (.int (-1) u)) Q E s := by
  have hl' : s.heap.IsList D (l ++ [x]).toArray := ⟨_, (N _ hm).1, rfl, _, rfl⟩
  refine tail_any hl'.typeIs slot_list_getitem.lookup (wpAny_getItem_list_neg hl' (by decide) (by simp; omega) (by decide) ?_ h) (hs' _)
  have e1 : ((-1 : Int) + (l ++ [x]).toArray.size).toNat = l.length := by
    rw [List.size_toArray, List.length_append, List.length_singleton]
    omega
  rw [e1, List.getElem?_toArray, List.getElem?_append_right (Nat.le_refl _), Nat.sub_self]
  rfl
theorem row_elim {n : List (Addr × Obj)} {v : Value} {d : PyData} {G : Prop} (h : LitIs n 3 v d) (hd : d ∈ BXS ∨ d ∈ FXS) (k1 : v = .none → rowTxt d = none → G) (k2 : ∀ a x tx more c, v = .ref a → (a, tup (.str x tx :: more) c) ∈ n → rowTxt d = some x → G) : G := by
  have hshape : d = .none ∨ ∃ x ds, d = .tuple (.str x :: ds) := by
    rcases hd with hd | hd <;> simp only [BXS, FXS, BOXES, FITS, List.cons_append, List.nil_append, List.mem_cons, List.not_mem_nil, or_false] at hd
    · rcases hd with rfl | rfl | rfl | rfl | rfl | rfl | rfl
      · exact .inl rfl
      · exact .inl rfl
      all_goals exact .inr ⟨_, _, rfl⟩
    · rcases hd with rfl | rfl | rfl | rfl | rfl | rfl | rfl | rfl
      · exact .inl rfl
      all_goals exact .inr ⟨_, _, rfl⟩
  rcases hshape with rfl | ⟨x, ds, rfl⟩
  · rcases h with h | ⟨a, vs, c, ds, _, _, h3, _⟩
    · cases v <;> first | exact k1 rfl rfl | exact h.elim
    · cases h3
  · rcases h with h | ⟨a, vs, c, ds', h1, h2, h3, h4⟩
    · cases v <;> exact h.elim
    · injection h3 with h3
      subst h3
      cases vs with
      | nil => exact h4.elim
      | cons v0 more =>
        have h5 := h4.1
        rcases h5 with h5 | ⟨_, _, _, _, _, _, h6, _⟩
        · cases v0 with
          | str y t =>
            have : y = x := h5
            subst this
            exact k2 a y t more c h1 h2 rfl
          | _ => exact h5.elim
        · cases h6
theorem unit_elim {n : List (Addr × Obj)} {v : Value} {d : PyData} {G : Prop} (h : LitIs n 3 v d) (hd : d ∈ UXS) (k1 : v = .none → d = .none → G) (k2 : ∀ x tx, v = .str x tx → d = .str x → G) : G := by
  have hshape : d = .none ∨ ∃ x, d = .str x := by
    simp only [UXS, List.mem_cons, List.not_mem_nil, or_false] at hd
    rcases hd with rfl | rfl | rfl | rfl | rfl
    · exact .inl rfl
    all_goals exact .inr ⟨_, rfl⟩
  rcases hshape with rfl | ⟨x, rfl⟩
  · rcases h with h | ⟨_, _, _, _, _, _, h3, _⟩
    · cases v <;> first | exact k1 rfl rfl | exact h.elim
    · cases h3
  · rcases h with h | ⟨_, _, _, _, _, _, h3, _⟩
    · cases v with
      | str y t =>
        have : y = x := h
        subst this
        exact k2 y t rfl rfl
      | _ => exact h.elim
    · cases h3
end
section
open PySem PySem.W PyProof.Rows PyProof.V PySem.Spec
def SubX (a : Addr) (n n' : Led) : Prop := ∀ p ∈ n, @Ne Nat p.1 a → p ∈ n'
def New (n : Led) (a : Addr) : Prop := ∀ p ∈ n, @Ne Nat p.1 a
def Stb (X : List Addr) (r n : Led) : Prop := ∀ p ∈ r, p ∈ n ∧ p.1 ∉ X
theorem Stb.sub {X : List Addr} {r n n' : Led} (h : Stb X r n) (s : Sub n n') : Stb X r n' := fun p hp => ⟨s p (h p hp).1, (h p hp).2⟩
theorem Stb.subX {X : List Addr} {r n n' : Led} {a : Addr} (h : Stb X r n) (s : SubX a n n') (ha : a ∈ X) : Stb X r n' := fun p hp => ⟨s p (h p hp).1 fun e => (h p hp).2 (e ▸ ha), (h p hp).2⟩
theorem New.of {n : Led} {a : Addr} (h : AllLt a n) : New n a := fun p hp => Nat.ne_of_lt (allLt_all.mp h p hp)
noncomputable abbrev updL (n : Led) (a : Addr) (o : Obj) : Led := (a, o) :: n.filter fun p => decide (@Ne Nat p.1 a)
theorem updL_sub {n : Led} {a : Addr} {o : Obj} : SubX a n (updL n a o) := fun _ hp h => .tail _ (List.mem_filter.mpr ⟨hp, decide_eq_true h⟩)
theorem updL_rest {n : Led} {a : Addr} {p : Addr × Obj} (h : p ∈ n.filter fun p => decide (@Ne Nat p.1 a)) : p ∈ n ∧ @Ne Nat p.1 a := ⟨(List.mem_filter.mp h).1, of_decide_eq_true (List.mem_filter.mp h).2⟩
theorem updL_upd {n : Led} {a : Addr} {o : Obj} : UpdF a o (updL n a o) (fun o' => updL n a o') := .head fun _ hp => (updL_rest hp).2
theorem updL_of {n : Led} {a : Addr} {o : Obj} (h : (a, o) ∈ n) : ∀ p ∈ updL n a o, p ∈ n := fun _ hp => (List.mem_cons.mp hp).elim (fun e => e ▸ h) fun hp => (updL_rest hp).1
noncomputable def noCell (o : Obj) : Bool := match o.data with
  | .cell _ => false
  | .fields _ => false
  | _ => true
noncomputable abbrev ncL (n : Led) : Led := n.filter fun p => noCell p.2
theorem nc_mem {n : Led} {p : Addr × Obj} (h : p ∈ n) (k : noCell p.2 = true) : p ∈ ncL n := List.mem_filter.mpr ⟨h, k⟩
theorem nc_sub {n n' : Led} {ca : Addr} {o : Obj} (hF : ∀ x, (ca, x) ∈ n → x = o) (hd : noCell o = false) (s : SubX ca n n') : Sub (ncL n) n' := fun p hp => by
  obtain ⟨h1, h2⟩ := List.mem_filter.mp hp
  refine s p h1 fun e => ?_
  obtain ⟨a, x⟩ := p
  have e' : a = ca := e
  subst e'
  have := hF x h1
  subst this
  rw [hd] at h2
  cases h2
noncomputable def pvOf : Value → PV
  | .bool b => .bool b
  | .int k _ => .int k
  | .str x _ => .str x
  | .ref a => .ref a
  | _ => .none
theorem lit_pv {f : Led} {k : Nat} {v : Value} {d : PyData} (h : LitIs f k v d) : PvIs v (pvOf v) := by
  have hf : FlatIs v d → PvIs v (pvOf v) := fun h => by cases v <;> first | exact rfl | exact trivial | exact h.elim
  cases k with
  | zero => exact hf h
  | succ k =>
    rcases h with h | ⟨a, vs, c, ds, rfl, _⟩
    · exact hf h
    · exact rfl
theorem lit_tok {f : Led} {k : Nat} {v v' : Value} {pv : PV} {d : PyData} (h : LitIs f k v d) (i : PvIs v pv) (i' : PvIs v' pv) : LitIs f k v' d := by
  have key : (∃ a, v = .ref a ∧ v' = .ref a) ∨ (FlatIs v d → FlatIs v' d) ∧ ∀ a, v ≠ .ref a := by
    cases pv with
    | none => obtain rfl := i.none; obtain rfl := i'.none; exact .inr ⟨id, nofun⟩
    | bool b => obtain rfl := i.bool; obtain rfl := i'.bool; exact .inr ⟨id, nofun⟩
    | int b => obtain ⟨_, rfl⟩ := i.int; obtain ⟨_, rfl⟩ := i'.int; exact .inr ⟨fun h => by cases d <;> exact h, nofun⟩
    | str b => obtain ⟨_, rfl⟩ := i.str; obtain ⟨_, rfl⟩ := i'.str; exact .inr ⟨fun h => by cases d <;> exact h, nofun⟩
    | ref b => obtain rfl := i.ref; obtain rfl := i'.ref; exact .inl ⟨b, rfl, rfl⟩
  rcases key with ⟨a, rfl, rfl⟩ | ⟨h1, h2⟩
  · exact h
  · cases k with
    | zero => exact h1 h
    | succ k =>
      rcases h with h | ⟨a, vs, c, ds, e, _⟩
      · exact .inl (h1 h)
      · exact absurd e (h2 a)
inductive LitP (f : Led) (pv : PV) (d : PyData) : Prop
  | mk (v : _) (f0 : PvIs v pv) (f1 : LitIs f 3 v d) : LitP f pv d
theorem LitP.lit {f : Led} {pv : PV} {d : PyData} {v : Value} (h : LitP f pv d) (i : PvIs v pv) : LitIs f 3 v d := by
  obtain ⟨_, a, b⟩ := h
  exact lit_tok b a i
theorem litP_all {f : Led} : ∀ {vs : List Value} {ds : List PyData}, All2 (LitIs f 3) vs ds → All2 PvIs vs (vs.map pvOf) ∧ All2 (LitP f) (vs.map pvOf) ds
  | [], [], _ => ⟨trivial, trivial⟩
  | v :: _, _ :: _, h => ⟨⟨lit_pv h.1, (litP_all h.2).1⟩, ⟨⟨v, lit_pv h.1, h.1⟩, (litP_all h.2).2⟩⟩
  | [], _ :: _, h => h.elim
  | _ :: _, [], h => h.elim
section
variable {sc : Sc} {d u : Nat} {w : World} {m : Nms} {n n0 : Led} {R : PV → Led → Prop} {S : PF → Nms → Led → Prop}
structure KSetL (D : Addr) (j : Nat) (S : PF → Nms → Led → Prop) (m : Nms) (vs : List Value) (c : Nat) (pv : PV) (n1 : Led) : Prop where
  a : (D, listOf (List.toArray vs) c) ∈ n1
  b : ∀ v n2, PvIs v pv → SubX D n1 n2 → (D, listOf (List.toArray (vs.set j v)) c) ∈ n2 → S .next m n2
theorem setL_ok : ∀ {l : List Value} {k : Nat} {v : Value}, k < l.length → ki_setL l k v = some (l.set k v)
  | [], _, _, h => absurd h (Nat.not_lt_zero _)
  | _ :: _, 0, _, _ => rfl
  | _ :: l, k + 1, v, h => by unfold ki_setL; rw [setL_ok (l := l) (Nat.lt_of_succ_lt_succ h)]; rfl
theorem Ex1.setL {o : Str} {xp sp kp p : Pos} {kx j : Nat} {e : Expr} {D : Addr} {vs : List Value} {ck : Nat} (hm : m.lookup o = some (.ref D)) (h : Ev sc d u w m n e (KSetL D j S m vs ck)) (hj : j < vs.length) (hfit : (j : Int) < 2 ^ 63)
    (hx : autoParam (∀ c : Fc w, (c.env sc).kindOf o = some .local) aY) (hd : autoParam ((o == Str.ofString "__debug__") = false) aW)
    (hs : autoParam (∀ env, swapsWith e (some (.Subscript (.Name o xp) (.Constant (.int j) kx kp) sp)) p.line env = pure false) aY) : Ex1 sc d u w m n (.Assign [.Subscript (.Name o xp) (.Constant (.int j) kx kp) sp] e p) S := by
  intro c hc s Q E A q
  refine wpAny_Assign_Subscript (h c hc s _ E A fun v pv n1 h1 t1 i1 r1 A1 => ?_) (hs _)
  obtain ⟨m', hm', F, N⟩ := A1
  obtain ⟨v', hv, hp'⟩ := hm' o _ hm
  obtain rfl := hp'.ref
  refine nameX_L (s := { s with heap := h1, toks := t1 }) F hv (wpAny_Constant_int ?_) hc.hk (hx c) hd
  refine ki_set (s := { s with heap := h1, toks := t1 + 1 }) (n := ck) (its := vs.toArray) (q := vs.set j v) F (fun p hp => N p (updL_of r1.a p hp)) (Int.natCast_nonneg j) hfit (setL_ok hj) (.head fun p hp => (updL_rest hp).2) fun h' F' N' => ?_
  exact q .next .next m _ h' _ trivial (r1.b v _ i1 updL_sub (.head _)) ⟨m', hm', F', N'⟩
theorem sm_31 {b : Int} (h0 : 0 ≤ b) (h1 : b < 2147483647) : Sm b := by unfold Sm; omega
theorem take_k {src : Addr} {o : Obj} {top : Int} (hsrc : (src, o) ∈ n) (hs : SrcOk o) (ht : 0 < top) (ht2 : top < 1000) (k : ∀ r o' n', SubX src n n' → (src, o') ∈ n' → SrcOk o' → 0 ≤ r → r < top → R (.int r) n') : PCl 10 80 497 w [.ref src, .int top] n R := by
  obtain ⟨a, b, ta, tb, ck, rfl, ha, hb, hbb⟩ := hs
  have l0 : LstAt n src [.int a, .int b] := ⟨_, _, hsrc, rfl, rfl, trivial⟩
  have g0 : (0 : Int) < 2147483647 := by decide
  have f0 := Int.fmod_nonneg_of_pos (b * 39373 + 7) g0
  have f1 := Int.fmod_lt_of_pos (b * 39373 + 7) g0
  refine PCl.enter (d' := 5) (u' := 60) (by k_is) (by k_is) (hb2 (x1 := Str.ofString "source") (x2 := Str.ofString "top") (fun _ _ _ => BindsTo.of_eq rfl) (by decide +kernel)) ?_ (by decide) (by decide)
  k_extra "e"
  k_extra "f"
  k_extra "t"
  k_extra "u"
  k_extra "n"
  k_extra "i"
  refine Op.lst0 l0 ?_
  k_extra "i"
  refine Op.gtI ⟨_, rfl, fun e => ?_, fun e => ?_⟩
  · k_extra "e"
    k_extra "a"
    k_extra "b"
    k_extra "u"
    k_extra "n"
    k_extra "i"
    refine Op.lst0 l0 ?_
    k_extra "n"
    refine Op.mod (Int.ne_of_gt ht) ?_
    k_extra "x"
    k_extra "e"
    refine Ex1.setL (j := 0) (vs := [.int a ta, .int b tb]) (ck := ck) (by k_extra "w") ?_ (Nat.le_of_ble_eq_true rfl) (by decide)
    k_extra "b"
    k_extra "u"
    k_extra "n"
    k_extra "i"
    refine Op.lst0 l0 ?_
    k_extra "n"
    refine Op.fdiv ht (by omega) ?_
    refine ⟨hsrc, fun v n2 jv sx hD => ?_⟩
    obtain ⟨t, rfl⟩ := jv.int
    k_extra "x"
    k_extra "e"
    k_extra "r"
    k_extra "n"
    k_extra "xr"
    exact k _ _ n2 sx hD ⟨_, _, _, _, _, rfl, Int.fdiv_nonneg ha (Int.le_of_lt ht), hb, hbb⟩ (Int.fmod_nonneg_of_pos _ ht) (Int.fmod_lt_of_pos _ ht)
  · k_extra "en"
    k_extra "x"
    k_extra "e"
    refine Ex1.setL (j := 1) (vs := [.int a ta, .int b tb]) (ck := ck) (by k_extra "w") ?_ (Nat.le_of_ble_eq_true rfl) (by decide)
    k_extra "b"
    k_extra "b"
    k_extra "b"
    k_extra "u"
    k_extra "n"
    k_extra "i"
    refine Op.lst1 l0 ?_
    k_extra "i"
    refine Op.mul (mulok_sm (sm_31 hb hbb)) ?_
    k_extra "i"
    refine Op.addI ?_
    k_extra "i"
    refine Op.mod (by decide) ?_
    refine ⟨hsrc, fun v n2 jv sx hD => ?_⟩
    obtain ⟨t, rfl⟩ := jv.int
    have l2 : LstAt n2 src [.int a, .int (Int.fmod (b * 39373 + 7) 2147483647)] := ⟨_, _, hD, rfl, rfl, trivial⟩
    k_extra "x"
    k_extra "e"
    k_extra "r"
    k_extra "b"
    k_extra "b"
    k_extra "b"
    k_extra "b"
    k_extra "u"
    k_extra "n"
    k_extra "i"
    refine Op.lst1 l2 ?_
    k_extra "u"
    k_extra "n"
    k_extra "i"
    refine Op.lst1 l2 ?_
    refine Op.mul (mulok_sm (sm_31 f0 f1)) ?_
    k_extra "i"
    refine Op.mod (by decide) ?_
    k_extra "i"
    refine Op.fdiv (by decide) (by decide) ?_
    k_extra "n"
    refine Op.mod (Int.ne_of_gt ht) ?_
    k_extra "xr"
    exact k _ _ n2 sx hD ⟨_, _, _, _, _, rfl, ha, f0, f1⟩ (Int.fmod_nonneg_of_pos _ ht) (Int.fmod_lt_of_pos _ ht)
theorem draw_k {src T : Addr} {o : Obj} {f : Led} {pvs : List PV} {ds : List PyData} (hsrc : (src, o) ∈ n) (hs : SrcOk o) (hT : LstAt n T pvs) (hne : @Ne Nat T src) (hx : All2 (LitP f) pvs ds) (hl : 0 < ds.length ∧ ds.length < 1000)
    (k : ∀ pv o' dd n', SubX src n n' → (src, o') ∈ n' → SrcOk o' → dd ∈ ds → LitP f pv dd → R pv n') : PCl 20 160 504 w [.ref src, .ref T] n R := by
  have hle := hx.len
  refine PCl.enter (d' := 15) (u' := 130) (by k_is) (by k_is) (hb2 (x1 := Str.ofString "source") (x2 := Str.ofString "things") (fun _ _ _ => BindsTo.of_eq rfl) (by decide +kernel)) ?_ (by decide) (by decide)
  k_extra "e"
  k_extra "r"
  k_extra "u"
  k_extra "n"
  refine Ev.call (f := 497) (d' := 10) (u' := 80) (fun w => by kernel_rfl) (fun w => by kernel_rfl) ?_ (by decide) (by decide)
  k_extra "c"
  k_extra "n"
  k_extra "c"
  refine Ev.bi (id := "len") (by k_is) (by rfl) (by decide +kernel) ?_
  k_extra "c"
  k_extra "n"
  k_extra "z"
  refine Op.lenL hT (by omega) rfl ?_
  k_extra "z"
  refine take_k hsrc hs (by omega) (by omega) fun r o1 n1 sx ho1 hs1 r0 r1 => ?_
  obtain ⟨j, rfl⟩ := Int.eq_ofNat_of_zero_le r0
  have hj : j < pvs.length := Int.ofNat_lt.mp r1
  obtain ⟨dd, e1, e2⟩ := hx.get (List.getElem?_eq_getElem hj)
  have hT1 : LstAt n1 T pvs := by obtain ⟨ys, c1, hm, h2⟩ := hT; exact ⟨ys, c1, sx _ hm hne, h2⟩
  refine Op.lstItem hT1 (List.getElem?_eq_getElem hj) (by omega) ?_
  k_extra "xr"
  exact k _ o1 dd n1 sx ho1 hs1 (List.mem_of_getElem? e1) e2
theorem made_k {f : Addr} {ds : List PyData} (C : ∀ news : Led, Cl w 20 160 f [] news (fun v nw => ∃ T vs front, v = .ref T ∧ nw = (T, listOf (List.toArray vs) 0) :: (front ++ news) ∧ FrontOk front news ∧ AllLt T (front ++ news) ∧ All2 (LitIs front 3) vs ds))
    (k : ∀ T pvs g n', Sub n n' → LstAt n' T pvs → New n T → (∀ p ∈ g, p ∈ n' ∧ New n p.1) → All2 (LitP g) pvs ds → R (.ref T) n') : PCl 20 160 f w [] n R := by
  intro vs hv
  cases vs with
  | cons v r => exact hv.elim
  | nil =>
    refine cl_mono (C n) ?_
    rintro v nw ⟨T, vs, g, rfl, rfl, h1, h2, h3⟩
    obtain ⟨h4, h5⟩ := litP_all h3
    exact ⟨.ref T, rfl, k T _ g _ (fun p hp => .tail _ (List.mem_append_right _ hp)) ⟨vs, 0, .head _, h4⟩ (.of (allLt_app.mp h2).2) (fun p hp => ⟨.tail _ (List.mem_append_left _ hp), .of (h1 p hp)⟩) h5⟩
theorem elem_k {nm : Str} {at_ : Addr} (k : ∀ E n', Sub n n' → New n E → (∃ dE ch t1 t2 t3 t4 te tn, (E, instObj 444 dE) ∈ n' ∧ (dE, elD w nm at_ ch tn t1 t2 t3 t4 te) ∈ n' ∧ New n dE) → R (.ref E) n') : PCl 30 240 444 w [.str nm, .ref at_] n R := by
  intro vs hv
  k_extra "v"
  obtain ⟨tn, rfl⟩ := i1.str
  obtain rfl := i2.ref
  refine cl_mono element_new ?_
  rintro v nw ⟨E, dE, ch, t1, t2, t3, t4, te, rfl, rfl, h1, h2, _⟩
  exact ⟨.ref E, rfl, k E _ (fun p hp => .tail _ (.tail _ (.tail _ hp))) (.of h2) ⟨dE, ch, t1, t2, t3, t4, te, tn, .head _, .tail _ (.head _), .of h1⟩⟩
theorem Ev.nameC {x : Str} {p : Pos} {ca : Addr} {o : Obj} {v : Value} {pv : PV} (hm : (ca, o) ∈ n) (hv : o.data = .cell (some v)) (hp : PvIs v pv) (h : R pv n) (hc : sc.cl.lookup x = some ca) (hx : ∀ c : Fc w, (c.env sc).kindOf x = some .cell ∨ (c.env sc).kindOf x = some .free) (hd : autoParam ((x == Str.ofString "__debug__") = false) aW) (hn : autoParam ((x == Str.ofString "__classdict__") = false) aW) : Ev sc d u w m n (.Name x p) R := by
  intro c hk s Q E A q
  k_extra "oa"
  rcases hx c with hx | hx
  · exact nameX_C N hc hm hv (q v pv n s.heap s.toks hp h ⟨m', hm', F, N⟩) hk.hk hx hd
  · exact nameX_F N hc hm hv (q v pv n s.heap s.toks hp h ⟨m', hm', F, N⟩) hk.hk hx hd hn
structure KApp (w : World) (Fd : Addr) (ys : List Value) (R : PV → Led → Prop) (pv : PV) (n1 : Led) : Prop where
  f0 : (Fd, LCg.lst ys) ∈ n1
  f1 : ∀ v n2, PvIs v pv → SubX Fd n1 n2 → (Fd, LCg.lst (ys ++ [v])) ∈ n2 → R .none n2
theorem Ev.appendX {pl : Fc w → Sem Bool} {o : Str} {e : Expr} {xp ap p : Pos} {Fd : Addr} {ys : List Value} (hm : m.lookup o = some (.ref Fd)) (hF : (Fd, LCg.lst ys) ∈ n) (hl : ys.length < 1000)
    (h : Ev sc d u w m n e (KApp w Fd ys R))
    (hx : autoParam (∀ c : Fc w, (c.env sc).kindOf o = some .local) aY) (hd : autoParam ((o == Str.ofString "__debug__") = false) aW)
    (e1 : autoParam (∀ c : Fc w, eval (.Call (.Attribute (.Name o xp) (Str.ofString "append") ap) [e] [] p) (c.env sc) = (do
      let ov ← eval (.Name o xp) (c.env sc)
      standAt ap.atName
      let (f, first) ← holding [ov] (getMethod ov (Str.ofString "append") (pl c))
      callWith p f first (backTo p (starEach [e] (c.env sc))) (backToKw p (keywordEach [] (c.env sc))))) aY)
    (e2 : autoParam (∀ env, starEach [e] env = (false, eval e env) :: starEach [] env) aY) :
    Ev sc d u w m n (.Call (.Attribute (.Name o xp) (Str.ofString "append") ap) [e] [] p) R :=
  Ev.append hm hF hl (fun c hc s Q E A q => h c hc s Q E A fun v pv n' h' tk' i r A' => q v pv n' h' tk' i ⟨r.1, fun v hv => ⟨updL n' Fd (LCg.lst (ys ++ [v])), fun q hq => (List.mem_cons.mp hq).elim .inl fun hq => .inr (updL_rest hq), r.2 v _ hv updL_sub (.head _)⟩⟩ A') hx hd e1 e2
theorem Ev.appendC {pl : Fc w → Sem Bool} {o : Str} {e : Expr} {xp ap p : Pos} {Fd ca : Addr} {oc : Obj} {ys : List Value} (hm : (ca, oc) ∈ n) (hoc : oc.data = .cell (some (.ref Fd))) (hF : (Fd, LCg.lst ys) ∈ n) (hl : ys.length < 1000)
    (h : Ev sc d u w m n e (KApp w Fd ys R)) (hcl : sc.cl.lookup o = some ca)
    (hx : autoParam (∀ c : Fc w, (c.env sc).kindOf o = some .cell) aY) (hd : autoParam ((o == Str.ofString "__debug__") = false) aW)
    (e1 : autoParam (∀ c : Fc w, eval (.Call (.Attribute (.Name o xp) (Str.ofString "append") ap) [e] [] p) (c.env sc) = (do
      let ov ← eval (.Name o xp) (c.env sc)
      standAt ap.atName
      let (f, first) ← holding [ov] (getMethod ov (Str.ofString "append") (pl c))
      callWith p f first (backTo p (starEach [e] (c.env sc))) (backToKw p (keywordEach [] (c.env sc))))) aY)
    (e2 : autoParam (∀ env, starEach [e] env = (false, eval e env) :: starEach [] env) aY) :
    Ev sc d u w m n (.Call (.Attribute (.Name o xp) (Str.ofString "append") ap) [e] [] p) R := by
  intro c hc s Q E A q
  have A0 := A
  obtain ⟨m', hm', F, N⟩ := A0
  refine methodCall_KW (pl := pl c) (nameX_C N hcl hm hoc (listMethod_K (its := ys.toArray) (n := ys.length) N hF PySem.F.slot_list_append PySem.F.type_list_append ?_) hc.hk (hx c) hd) (e1 c)
  refine PyProof.Rows.callWith_method1 ?_ (e2 _) rfl
  refine args_cons (h c hc s _ E A fun v1 p1 n1 h1 t1 i1 r1 A1 => ?_) (e2 _)
  refine args_nil ?_
  obtain ⟨hF1, r2⟩ := r1
  obtain ⟨m1', hm1, F1, N1⟩ := A1
  exact append_led (s := { s with heap := h1, toks := t1 }) F1 N1 hF1 (fun q hq => (List.mem_cons.mp hq).elim .inl fun hq => .inr (updL_rest hq)) hl fun h2 F2 N2 => q .none .none _ h2 t1 trivial (r2 v1 _ i1 updL_sub (.head _)) ⟨m1', hm1, F2, N2⟩
theorem Op.lstLast {a b : Expr} {D : Addr} {l : List Value} {v : Value} {pv : PV} (hm : (D, LCg.lst (l ++ [v])) ∈ n) (hp : PvIs v pv) (hl : l.length < 1000) (h : R pv n) (hs : autoParam (SbOk b) aI) : Op sc d u w m n [.ref D, .int (-1)] (sbT a b) R := by
  intro vs hv c hc s Q E A q
  k_extra "v"
  obtain rfl := i1.ref
  obtain ⟨t2, rfl⟩ := i2.int
  k_extra "oa"
  exact sub_last hm N hl (q v pv n s.heap s.toks hp h ⟨m', hm', F, N⟩) (fun k => hs D k t2)
theorem Op.addLF {a b : Addr} {ps qs : List PV} (ha : LstAt n a ps) (hb : LstAt n b qs) (hsz : ps.length + qs.length < 1000) (h : ∀ D n2, Sub n n2 → New n D → LstAt n2 D (ps ++ qs) → R (.ref D) n2) : Op sc d u w m n [.ref a, .ref b] (bnT .Add) R := by
  intro vs hv c hc s Q E A q
  obtain ⟨vs1, c1, hm1, l1⟩ := ha
  obtain ⟨vs2, c2, hm2, l2⟩ := hb
  k_extra "v"
  obtain rfl := i1.ref
  obtain rfl := i2.ref
  k_extra "oa"
  refine add_led F N hm1 hm2 (by rw [l1.len, l2.len]; exact hsz) fun D h' hl F' N' => q _ (.ref D) _ h' s.toks rfl (h D _ (Sub.tail (Sub.refl _)) (.of hl) ⟨vs1 ++ vs2, 0, .head _, l1.append l2⟩) ⟨m', hm', F', N'⟩
structure KLstF (R : PV → Led → Prop) (pvs : List PV) (n : Led) : Prop where
  f0 : pvs.length ≤ sizeLine
  f1 : ∀ D n2, Sub n n2 → New n D → LstAt n2 D pvs → R (.ref D) n2
theorem Ev.listF {es : List Expr} {p : Pos} (h : Evs sc d u w m n p es (KLstF R)) : Ev sc d u w m n (.List es p) R := by
  intro c hc s Q E A q
  refine List_ (h c hc s _ E A fun vs pvs n1 h1 t1 i1 r1 A1 => ?_)
  obtain ⟨m', hm', F, N⟩ := A1
  exact newList_K (s := { s with heap := h1, toks := t1 }) F N (fun D h2 F2 N2 hl => q (.ref D) (.ref D) _ h2 t1 rfl (r1.2 D _ (Sub.tail (Sub.refl _)) (fun p hp => Nat.ne_of_lt (hl p hp)) ⟨vs, 0, .head _, i1⟩) ⟨m', hm', F2, N2⟩) (by rw [i1.len]; exact r1.1)
theorem Ev.call0 {fx : Str} {f : Addr} {fp p : Pos} {d' u' : Nat} (hf : nsIn (Mine.hd.heap_1 w.params) mainGlobals fx = some (some (.ref f))) (hk : keepIn (Mine.hd.heap_1 w.params) (.ref f) = true) (h : PCl d' u' f w [] n R) (hd : d' ≤ d) (hu : u' ≤ u) (hx : autoParam (∀ c : Fc w, (c.env sc).kindOf fx = some .globalImplicit) aY) (hg : autoParam ((fx == Str.ofString "__debug__") = false) aW)
    (h1 : autoParam (∀ env, eval ((Expr.Name fx fp).Call [] [] p) env = (do let v ← eval (Expr.Name fx fp) env; callWith p v [] (backTo p (starEach [] env)) (backToKw p (keywordEach [] env)))) aY) : Ev sc d u w m n (.Call (.Name fx fp) [] [] p) R := by
  intro c hc s Q E A q
  k_extra "oa"
  refine Call_ (nameX_K F hc.X (topRead_of hc.T) hf ?_ hc.hk (hx c) hg) (h1 _)
  refine callWith_K0 (hc.X.keeps F.keep) hk ?_
  exact cl_use (h [] trivial) hc.B F hc.X N hc.T hc.hk (Nat.lt_of_le_of_lt (Nat.add_le_add_left hd _) hc.hd) (Nat.lt_of_le_of_lt (Nat.add_le_add_left hu _) hc.hu)
    fun v nw h' tk' ⟨pv, a1, a2⟩ F' N' => q v pv nw h' tk' a1 a2 ⟨m', hm', F', N'⟩
end
end
section
open PySem PySem.W PyProof.Rows PyProof.V PySem.Spec PySem.Calls
section
variable {sc : Sc} {d u : Nat} {w : World} {m : Nms} {n n0 : Led} {R : PV → Led → Prop} {S : PF → Nms → Led → Prop}
def KTurnG (I : Nat → Nms → Led → Prop) (i : Nat) (Ia : Addr) (o : Obj) : PF → Nms → Led → Prop := fun pf m2 n3 => pf = .next ∧ ∃ m4 n4, Le m4 m2 ∧ (Ia, o) ∈ n3 ∧ Sub n4 n3 ∧ New n4 Ia ∧ I (i + 1) m4 n4
theorem Ex1.forRange {x fx : Str} {px fp cp p : Pos} {e : Expr} {body : List Stmt} (I : Nat → Nms → Led → Prop) (h1 : nsIn (Mine.hd.heap_1 w.params) mainGlobals fx = some Option.none) (h2 : bootBuiltins fx = some (.type "range")) (h3 : fx ≠ Str.ofString "__name__")
    (h : Ev sc d u w m n e fun pv n1 => ∃ N : Nat, pv = .int N ∧ N < 1000 ∧ I 0 m n1 ∧ (∀ i m1 n2 Ia o, i < N → I i m1 n2 → New n2 Ia → Ex sc d u w ((x, .int (i : Int)) :: m1) ((Ia, o) :: n2) body (KTurnG I i Ia o)) ∧ ∀ m1 n2, I N m1 n2 → S .next m1 n2)
    (hx : autoParam (∀ c : Fc w, (c.env sc).kindOf x = some .local) aY) (hs : autoParam (∀ env v, foldedSetIterable (.Call (.Name fx fp) [e] [] cp) env v = pure v) aZ)
    (hf : autoParam (∀ c : Fc w, (c.env sc).kindOf fx = some .globalImplicit) aY) (hd : autoParam ((fx == Str.ofString "__debug__") = false) aW)
    (e1 : autoParam (∀ env, eval ((Expr.Name fx fp).Call [e] [] cp) env = (do let v ← eval (Expr.Name fx fp) env; callWith cp v [] (backTo cp (starEach [e] env)) (backToKw cp (keywordEach [] env)))) aY)
    (e2 : autoParam (∀ env, starEach [e] env = (false, eval e env) :: starEach [] env) aY) (e3 : autoParam (∀ env, ((backTo cp (starEach [] env)).any fun x => x.1) = false) aY) :
    Ex1 sc d u w m n (.For (.Name x px) (.Call (.Name fx fp) [e] [] cp) body [] p) S := by
  refine ExT.noE fun c hc s Q A q => ?_
  have A0 := A
  obtain ⟨m0, hm0, F0, N0⟩ := A0
  refine For_turns (h₀ := c.g) F0 ?_ (hs _) PassesOwn.never
  refine Call_ (nameX_B F0 hc.X (topRead_of hc.T) h1 h2 h3 ?_ hc.hk (hf c) hd) (e1 _)
  refine PyProof.Rows.callWith_type1 ?_ (e2 _) (e3 _)
  refine args_cons (h c hc s _ _ A fun v pv n1 h1 t1 i1 r1 A1 => ?_) (e2 _)
  refine args_nil ?_
  obtain ⟨N, rfl, hN, hI0, turn, fin⟩ := r1
  obtain ⟨t, rfl⟩ := i1.int
  obtain ⟨m1', hm1, F1, N1⟩ := A1
  refine range1_rows (s := { s with heap := h1, toks := t1 }) F1 N1 fun h2 tk2 t₁ u₁ v₁ hr F2 N2 _ => ?_
  refine iter_range (s := { s with heap := h2, toks := tk2 }) (n := N) (fun m' n' i => ∃ mm, NmsIs m' mm ∧ I i mm n') rfl F2 N2 hr (small_one (by omega) (by omega) (by omega) (by omega)) (by rw [rangeSize_nat]; omega) ⟨m, hm1, hI0⟩ ?_ ?_
  · rintro i Ia o m' nw v h3 tk3 hi ⟨mm, hmm, hI⟩ ⟨t3, rfl⟩ hoff F3 N3
    refine PyProof.Rows.assign_Name ?_
    refine store_rule (s := { s with heap := h3, toks := tk3 }) (pv := .int (i : Int)) hc (hx c) ⟨m', hmm, F3, N3⟩ rfl fun h4 t4 A4 => ?_
    refine turn i mm nw Ia o hi hI hoff c hc _ _ _ A4 fun f pf m5 n5 h5 t5 i5 r5 A5 => ?_
    obtain ⟨rfl, m6, n6, hl, hIo, hsub, hoff6, hI6⟩ := r5
    obtain ⟨m5', hm5, F5, N5⟩ := A5
    have hf : f = .next := by cases f <;> first | rfl | exact i5.elim
    subst hf
    refine ⟨h5, t5, m5', n6, rfl, F5, fun p hp => ?_, fun p hp q hq => ?_, trivial, ⟨m6, fun z pv hz => hm5 z pv (hl z pv hz), hI6⟩, hoff6⟩
    · rcases List.mem_append.mp hp with hp | hp
      · rw [List.mem_singleton.mp hp]; exact N5 _ hIo
      · exact N5 _ (hsub p hp)
    · rw [List.mem_singleton.mp hq]; exact hoff6 p hp
  · rintro m' nw h3 tk3 ⟨mm, hmm, hI⟩ F3 N3
    exact q .next .next mm nw h3 tk3 trivial (fin mm nw hI) ⟨m', hmm, F3, N3⟩
theorem Ex1.setItem {o : Str} {xp sp kp p : Pos} {kx : Nat} {k : Str} {e : Expr} {D : Addr} {od : Obj} {kvs : List (Str × Value)} (hm : m.lookup o = some (.ref D))
    (h : Ev sc d u w m n e fun pv n1 => (D, od) ∈ n1 ∧ od.IsDictOf (SK w) kvs ∧ kvs.length < 1000 ∧ ∀ v od' n2, PvIs v pv → SubX D n1 n2 → (D, od') ∈ n2 → od'.IsDictOf (SK w) (stored kvs k v) → S .next m n2)
    (hx : autoParam (∀ c : Fc w, (c.env sc).kindOf o = some .local) aY) (hd : autoParam ((o == Str.ofString "__debug__") = false) aW)
    (hs : autoParam (∀ env, swapsWith e (some (.Subscript (.Name o xp) (.Constant (.str k) kx kp) sp)) p.line env = pure false) aY) : Ex1 sc d u w m n (.Assign [.Subscript (.Name o xp) (.Constant (.str k) kx kp) sp] e p) S := by
  intro c hc s Q E A q
  refine wpAny_Assign_Subscript (h c hc s _ E A fun v pv n1 h1 t1 i1 r1 A1 => ?_) (hs _)
  obtain ⟨m', hm', F, N⟩ := A1
  obtain ⟨hD, hod, hlen, r2⟩ := r1
  obtain ⟨v', hv, hp'⟩ := hm' o _ (by assumption)
  obtain rfl := hp'.ref
  refine nameX_L (s := { s with heap := h1, toks := t1 }) F hv (wpAny_Constant_str ?_) hc.hk (hx c) hd
  refine kda_set (s := { s with heap := h1, toks := t1 + 1 }) (knd := SK w) F (fun p hp => N p (updL_of hD p hp)) (updL_upd (n := n1)) hod (strKind_is _ _ _ _) (by rw [sizeLine_eq]; omega) fun h' o' F' N' hd' => ?_
  exact q .next .next m _ h' _ trivial (r2 v o' _ i1 updL_sub (.head _) hd') ⟨m', hm', F', N'⟩
theorem Op.dictPairs {D : Addr} {ps : List PR} (hl : ps.length ≤ 100) (hax : (D, LCg.lst (refsP ps)) ∈ n) (hps : ∀ p ∈ ps, ∃ c, (p.1, tup [.str p.2.1 p.2.2.1, p.2.2.2] c) ∈ n)
    (k : ∀ D' o n', Sub n n' → AllLt D' n → (D', o) ∈ n' → o.IsDictOf (SK w) (dictIn ps) → R (.ref D') n') : Op sc d u w m n [.ref D] (fun vs => call (.type "dict") vs) R := by
  intro vs hv c hc s Q E A q
  obtain ⟨v1, rfl, i1⟩ := all2_1 hv
  obtain rfl := i1.ref
  k_extra "oa"
  exact call_dict_pairs rfl F N ps hl hax hps fun D' o h' tk' F' N' hl' ho => q (.ref D') (.ref D') _ h' tk' rfl (k D' o _ (Sub.tail (Sub.refl _)) hl' (.head _) ho) ⟨m', hm', F', N'⟩
theorem Ev.rowsComp {x y o k1 k2 : Str} {q1 q2 q3 q4 q5 q6 q7 q8 q9 qa qb qc pos : Pos} {kk kt kn : Nat} {scope : Scope} {D T1 T2 : Addr} {p1 p2 : PV} {f1 f2 : Led} {d1 d2 : PyData} (hm : m.lookup o = some (.ref D)) (hD : LstAt n D [.ref T1, .ref T2]) (hT1 : TupAt n T1 [.str k1, p1]) (hT2 : TupAt n T2 [.str k2, p2])
    (l1 : LitP f1 p1 d1) (l2 : LitP f2 p2 d2) (s1 : Sub f1 n) (s2 : Sub f2 n) (b1 : d1 ∈ BXS ∨ d1 ∈ FXS) (b2 : d2 ∈ BXS ∨ d2 ∈ FXS)
    (h : ∀ D' ps n2, Sub n n2 → (D', LCg.lst (refsP ps)) ∈ n2 → (∀ p ∈ ps, ∃ c, (p.1, tup [.str p.2.1 p.2.2.1, p.2.2.2] c) ∈ n2) → PairsIs [(k1, d1), (k2, d2)] ps → R (.ref D') n2)
    (hclos : autoParam (∀ c : Fc w, closureFor scope (c.env sc) = pure []) aY) (hcell : autoParam (∀ y ∈ scope.names, y.2 ≠ .cell) aD) (hkind : autoParam (scope.kind = .function) aW)
    (hnames : autoParam (∀ y ∈ scope.names, y.2 = .local → scope.names.lookup y.1 = some .local) aD) (hx : autoParam (scope.names.lookup x = some .local) aW) (hy : autoParam (scope.names.lookup y = some .local) aW) (hxy : autoParam (¬ x = y) aD)
    (hk : autoParam (∀ c : Fc w, (c.env sc).kindOf o = some .local) aY) (hd : autoParam ((o == Str.ofString "__debug__") = false) aW)
    (hkx : autoParam (∀ (c : Fc w) (C : Addr), (compEnvC scope [] C (c.env sc)).kindOf x = some .local) aZ) (hdx : autoParam ((x == Str.ofString "__debug__") = false) aW)
    (hky : autoParam (∀ (c : Fc w) (C : Addr), (compEnvC scope [] C (c.env sc)).kindOf y = some .local) aZ) (hdy : autoParam ((y == Str.ofString "__debug__") = false) aW) (hs : autoParam (∀ env v, foldedSetIterable (.Name o q2) env v = pure v) aZ) :
    Ev sc d u w m n (.ListComp (.Tuple [.Name x q1, .Subscript (.Name y q3) (.Constant (.int 0) kt q4) q5] kk q6) [⟨.Tuple [.Name x q7, .Name y q8] kn q9, .Name o q2, [.Compare (.Name y qa) [.IsNot] [.Constant .none 0 qb] qc], 0⟩] scope pos) R := by
  intro c hc s Q E A q
  k_extra "oa"
  obtain ⟨v', hv, hp'⟩ := hm' o _ hm
  obtain rfl := hp'.ref
  obtain ⟨ls, c0, hDm, ha⟩ := hD
  obtain ⟨u1, u2, rfl, j1, j2⟩ := all2_2 ha
  obtain rfl := j1.ref
  obtain rfl := j2.ref
  obtain ⟨ts1, c1, hm1, ha1⟩ := hT1
  obtain ⟨x1, y1, rfl, jx1, jy1⟩ := all2_2 ha1
  obtain ⟨tx1, rfl⟩ := jx1.str
  obtain ⟨ts2, c2, hm2, ha2⟩ := hT2
  obtain ⟨x2, y2, rfl, jx2, jy2⟩ := all2_2 ha2
  obtain ⟨tx2, rfl⟩ := jx2.str
  refine pt_ListCompE (h₀ := c.g) (L := c.L) (hclos c) hcell hkind hnames hx hy hxy (nameX_L F hv ?_ hc.hk (hk c) hd) (hs _)
  refine wpAny_mono (rows_it (Fin := fun s₂ => LCg.FinE c.g c.L m' s₂ Q) rfl F N hDm hm1 hm2 (Inv := RowsP [(k1, d1), (k2, d2)] n) ⟨[], rfl, fun p hp => hp, fun p hp => (nomatch hp), trivial⟩ (fun ws h2 t2 => ?_) ?_) (fun _ _ y => ⟨m', y⟩) fun _ _ e => e
  · intro i p ys news hp hI its C oC D2 m₂ h5 tk5 E' hits hC hxv hyv F5 N5 off ne hap
    have hrow : ∃ k dd tk pv f, ([(k1, d1), (k2, d2)] : List (Str × PyData))[i]? = some (k, dd) ∧ p.1 = .str k tk ∧ PvIs p.2 pv ∧ LitP f pv dd ∧ Sub f n ∧ (dd ∈ BXS ∨ dd ∈ FXS) := by
      match i, hp with
      | 0, hp => obtain rfl := Option.some.inj hp; exact ⟨k1, d1, tx1, p1, f1, rfl, rfl, jy1, l1, s1, b1⟩
      | 1, hp => obtain rfl := Option.some.inj hp; exact ⟨k2, d2, tx2, p2, f2, rfl, rfl, jy2, l2, s2, b2⟩
    obtain ⟨k, dd, tk, pv, f, hr, e1, jp, lp, sp, bp⟩ := hrow
    have hsub := hI
    obtain ⟨_, _, hsub, _, _⟩ := hsub
    have nmx : ∀ (q : Pos) (Q' : Value → Shared → Prop) (E9 : Value → Shared → Prop) (t9 : Nat), Q' p.1 { s with heap := h5, toks := t9 } → wpAny (model PG w) (c.A sc) (eval (.Name x q) (compEnvC scope [] C (c.env sc))) Q' E9 { s with heap := h5, toks := t9 } := fun q Q' E9 t9 h9 =>
      LCgL.ld_own (s := { s with heap := h5, toks := t9 }) N5 (.head _) hC hxv h9 hkind (hkx c C) hdx
    have nmy : ∀ (q : Pos) (Q' : Value → Shared → Prop) (E9 : Value → Shared → Prop) (t9 : Nat), Q' p.2 { s with heap := h5, toks := t9 } → wpAny (model PG w) (c.A sc) (eval (.Name y q) (compEnvC scope [] C (c.env sc))) Q' E9 { s with heap := h5, toks := t9 } := fun q Q' E9 t9 h9 =>
      LCgL.ld_own (s := { s with heap := h5, toks := t9 }) N5 (.head _) hC hyv h9 hkind (hky c C) hdy
    have lit : LitIs n 3 p.2 dd := (lp.lit jp).mono fun p hp _ => sp p hp
    have keep3 : ∀ (n' : Led), (∀ p ∈ n, p ∈ n') → ∀ p ∈ [(D, listOf #[.ref T1, .ref T2] c0), (T1, tup [.str k1 tx1, y1] c1), (T2, tup [.str k2 tx2, y2] c2)], p ∈ n' := fun n' hn p hp => by
      k_extra "rm"
      · exact hn _ hDm
      k_extra "rm"
      · exact hn _ hm1
      k_extra "rm"
      · exact hn _ hm2
      · cases hp
    refine wpAny_isTrue_Compare1 (nmy _ _ _ _ (wpAny_Constant_none ?_)) rfl
    refine row_elim lit bp (fun e2 e3 => ?_) (fun a xx txx more cc e2 hma e3 => ?_)
    · rw [e2]
      refine isNot_none (pv := .none) trivial (wpAny_truthy_bool ?_)
      rw [if_neg (by decide)]
      exact ⟨h5, tk5, news, rfl, F5, N5, off, keep3 _ hsub, rows_skip hr e3 hI⟩
    · rw [e2]
      refine isNot_none (pv := .ref a) rfl (wpAny_truthy_bool ?_)
      rw [if_pos (show bare (PV.ref a) = true from rfl)]
      refine Tuple_ (args_cons (nmx _ _ _ _ ?_) rfl)
      refine args_cons (Subscript_ (nmy _ _ _ _ (wpAny_Constant_int ?_))) rfl
      rw [e2]
      refine sub_tup (hsub _ hma) (fun p hp => N5 p (.tail _ (.tail _ (List.mem_append_right _ hp)))) (j := 0) rfl (by decide) rfl ?_
      refine args_nil ?_
      rw [e1]
      refine kup_newTuple (s := { s with heap := h5, toks := _ }) F5 N5 (fun T h6 F6 N6 hlt => ?_) (by with_unfolding_all exact Nat.le_of_ble_eq_true rfl)
      have lt : ∀ p ∈ (C, oC) :: (D2, LCg.lst ys) :: (its ++ news), @LT.lt Nat _ p.1 T := hlt
      refine ⟨h6, _, (T, tup [.str k tk, .str xx txx] 0) :: news, rfl, F6, fun p hp => ?_, fun p hp => ?_, keep3 _ fun p hp => .tail _ (hsub p hp), rows_add hr e3 hI⟩
      · k_extra "rm"
        · exact N6 _ (.tail _ (.head _))
        k_extra "rm"
        · exact N6 _ (.tail _ (.tail _ (.head _)))
        rcases List.mem_append.mp hp with hp | hp
        · exact N6 _ (.tail _ (.tail _ (.tail _ (List.mem_append_left _ hp))))
        k_extra "rm"
        · exact N6 _ (.head _)
        · exact N6 _ (.tail _ (.tail _ (.tail _ (List.mem_append_right _ hp))))
      · k_extra "rm"
        · refine ⟨fun hw => ?_, Nat.ne_of_gt (lt _ (.head _)), Nat.ne_of_gt (lt _ (.tail _ (.head _)))⟩
          rw [← hits.map] at hw
          obtain ⟨q9, hq9, e9⟩ := List.mem_map.mp hw
          exact Nat.ne_of_lt (lt q9 (.tail _ (.tail _ (List.mem_append_left _ hq9)))) e9
        · exact off p hp
  · rintro h2 t2 ys news ⟨ps, rfl, hsub, hps, hpairs⟩ D9 h9 t9 F9 N9 off
    exact q (.ref D9) (.ref D9) _ h9 t9 rfl (h D9 ps _ (fun p hp => .tail _ (hsub p hp)) (.head _) (fun p hp => (hps p hp).imp fun _ h => .tail _ h) hpairs) ⟨m', hm', F9, N9⟩
end
structure Bot {w : World} (c : Fc w) (cc : Addr) : Prop where
  XB : (Mine.hd.heap_1 w.params).In c.base
  TB : Top topProg c.loose c.mean c.mg c.mb c.base
  st : c.base.StaysIn c.g
  cd : c.ccd = .ref cc
def After {w : World} (c c' : Fc w) : Prop := ∃ g', c' = { c with g := g' } ∧ ∀ a m', c.g.Ns a m' → a ∈ c.outer.filterMap (·.frame) → g'.Ns a m'
theorem After.refl {w : World} {c : Fc w} : After c c := ⟨c.g, rfl, fun _ _ h _ => h⟩
def ExS (sc : Sc) (cc : Addr) (d u : Nat) (w : World) (m : Nms) (n : Led) (t : Env → Sem Flow) (S : PF → Nms → Led → Prop) : Prop :=
  ∀ (c : Fc w), c.Ok sc d u → Bot c cc → ∀ (s : Shared) (Q : Flow → Shared → Prop) (E : Value → Shared → Prop), At c m n s.heap →
    (∀ c' f pf m' n' h' tk', c'.Ok sc d u → Bot c' cc → After c c' → FlIs f pf → S pf m' n' → At c' m' n' h' → Q f { s with heap := h', toks := tk' }) → wpAny (model PG w) (c.A sc) (t (c.env sc)) Q E s
inductive LamAt (n : Led) (f : Addr) (params : Arguments) (body : Expr) (scope : Scope) (clos : List (Str × Addr)) : Prop
  | mk (name : _) (qual : _) (pm : _) (c' : _) (ctv : _) (oc : _) (vs : _) (t : _) (f0 : (f, kla_obj name qual params body scope clos pm c' ctv) ∈ n) (f1 : (c', oc) ∈ n) (f2 : oc.data = .fields vs) (f3 : vs[1]? = some (.str qual t)) : LamAt n f params body scope clos
section
variable {sc : Sc} {cc : Addr} {d u : Nat} {w : World} {m : Nms} {n n0 : Led} {R : PV → Led → Prop} {S : PF → Nms → Led → Prop}
abbrev KSeq (sc : Sc) (cc : Addr) (d u : Nat) (w : World) (ss : List Stmt) (S : PF → Nms → Led → Prop) : PF → Nms → Led → Prop := fun pf m1 n1 => pf = .next ∧ ExS sc cc d u w m1 n1 (fun env => execs ss env) S
theorem ExS.seq {st : Stmt} {ss : List Stmt} (h : Ex1 sc d u w m n st (KSeq sc cc d u w ss S)) : ExS sc cc d u w m n (fun env => execs (st :: ss) env) S := by
  intro c hc hb s Q E A q
  refine wpAny_execs_cons (h c hc s _ E A fun f pf m1 n1 h1 t1 i1 r1 A1 => ?_)
  obtain ⟨rfl, r2⟩ := r1
  have hf : f = .next := by cases f <;> first | rfl | exact i1.elim
  subst hf
  exact r2 c hc hb _ Q E A1 q
theorem ExS.head {st : Stmt} {ss : List Stmt} (h : ExS sc cc d u w m n (fun env => exec st env) fun pf m1 n1 => pf = .next ∧ Ex sc d u w m1 n1 ss S) : ExS sc cc d u w m n (fun env => execs (st :: ss) env) S := by
  intro c hc hb s Q E A q
  refine wpAny_execs_cons (h c hc hb s _ E A fun c1 f pf m1 n1 h1 t1 hc1 hb1 a1 i1 r1 A1 => ?_)
  obtain ⟨rfl, r2⟩ := r1
  have hf : f = .next := by cases f <;> first | rfl | exact i1.elim
  subst hf
  have a2 := a1
  obtain ⟨g1, rfl, _⟩ := a1
  exact r2 _ hc1 _ Q E A1 fun f pf m' n' h' tk' i r A' => q _ f pf m' n' h' tk' hc1 hb1 a2 i r A'
noncomputable def scOf (scope : Scope) (L : Addr) : Sc := ⟨scope, cellsFrom (L + 1) scope.names []⟩
theorem ExS.abs {t : Env → Sem Flow} (h : ∀ K : PF → Nms → Led → Prop, (∀ pf m n, S pf m n → K pf m n) → ExS sc cc d u w m n t K) : ExS sc cc d u w m n t S := h S fun _ _ _ x => x
theorem Cb.enterC {name qual : Str} {params : Arguments} {body : List Stmt} {scope : Scope} {dV kV doc pm cdv ct oc : Value} {an od : Option Addr} {osl : Array (Option Value)} {f : Addr} {v : Value} {x : Str} {d' u' : Nat} {pv : PV}
    (ho : (Mine.hd.heap_1 w.params).lookup f = some ⟨oc, od, .func (fnOf name qual params body scope dV kV doc pm an cdv ct), osl⟩) (hcd : codeIn (Mine.hd.heap_1 w.params) cdv qual = true) (hcv : cdv = .ref cc) (hpv : PvIs v pv)
    (hb : ∀ s, BindsTo s (fnOf name qual params body scope dV kV doc pm an cdv ct) ⟨[v], []⟩ [(x, v)])
    (hx : scope.names.lookup x = some .local ∨ scope.names.lookup x = some .cell) (hnd : ((cellsFrom 0 scope.names []).map (·.1)).Nodup)
    (hl : ∀ L' a cdv, (envOfC qual scope L' a cdv).kindOf x = some .local ∨ (envOfC qual scope L' a cdv).kindOf x = some .cell)
    (h : ∀ (L' : Addr) (cells : Led) (cm : Str → Option Value), (∀ p ∈ n, @LT.lt Nat _ p.1 L') → CellsAre cm (cellsFrom (L' + 1) scope.names []) cells → (∀ y, y ≠ x → cm y = Option.none) → (scope.names.lookup x = some .cell → cm x = some v) →
      ExS (scOf scope L') cc d' u' w (if scope.names.lookup x = some .local then [(x, pv)] else []) (cells ++ n) (fun env => execs body env) fun pf _ n' => ∃ nw, R (retOf pf) nw ∧ ∀ p ∈ nw, p ∈ n') (hd : d' + 1 ≤ d) (hu : u' + 3 ≤ u)
    (hkx : ∀ L' a cdv, ((envOfC qual scope L' a cdv).kindOf x = some .local) = (scope.names.lookup x = some .local))
    (hco : autoParam (scope.isCoroutine = false) aW) (hgen : autoParam (scope.isGenerator = false) aW) (hk : autoParam (scope.kind = .function) aW) : Cb w d u f [v] n (fun v nw => ∃ pv, PvIs v pv ∧ R pv nw) := by
  unfold Cb
  intro loose mean mg mb dp un gd cn cs a ccd cl A₀ h₀ L m' s Q E B F X N T hkc hdp hun hret
  refine wpAny_call ?_
  have hroom : dp < recursionLimit := Nat.lt_of_le_of_lt (Nat.le_add_right _ _) hdp
  refine code_defS B F X N T rfl rfl hkc ho hcd hroom (hb s) (by rcases hx with hx | hx <;> simp [hx]) hnd (fun g L' h1 tk cells FG F' N' Y' B' X' T' l1 S' => ?_) hco hgen hk
  let c : Fc w := { dp := dp + 1, un := un + 3, gd := gd, cn := qual, L := L', a := f, ccd := cdv, outer := [envX cn cs L a ccd cl], A₀ := ktrTop dp un gd cn cs L a ccd cl [], base := h₀, g := g, loose := loose, mean := mean, mg := mg, mb := mb }
  have hc : c.Ok (scOf scope L') d' u' := ⟨B', X', T', hk, Nat.lt_of_le_of_lt (by show dp + 1 + d' ≤ dp + d; omega) hdp, Nat.lt_of_le_of_lt (by show un + 3 + u' ≤ un + u; omega) hun⟩
  refine h L' cells _ l1 Y' (fun y hy => ?_) (fun hxc => ?_) c hc ⟨X, T, S', hcv⟩ { s with heap := h1, toks := tk } _ _ ⟨_, ?_, F', N'⟩ fun c' fl pf m1 n1 h2 t2 hc' hb' ha i r A => ?_
  · simp only [bindC]; split <;> simp [hy]
  · simp only [bindC]; rw [if_neg (by rw [hkx, hxc]; decide)]; simp
  · rw [show (bindL (envOfC qual scope L' f cdv).kindOf [(x, v)] fun _ => Option.none) = (if scope.names.lookup x = some .local then fun y => if y = x then some v else Option.none else fun _ => Option.none) from by simp only [bindL, hkx]]
    split
    · exact nmsIs_cons (m := []) (fun _ _ h => nomatch h) hpv
    · intro _ _ h; cases h
  · obtain ⟨nw, hR, hn⟩ := r
    obtain ⟨g', rfl, ha⟩ := ha
    obtain ⟨m2, _, F2, N2⟩ := A
    refine cb_ret (s' := { s with heap := h2, toks := t2 }) hb'.st (ha L m' FG.ns (.head _)) F2 N2 hn fun F3 N3 => ?_
    refine hret _ nw h2 t2 ⟨retOf pf, ?_, hR⟩ F3 N3
    cases fl <;> cases pf <;> first | exact i.elim | exact trivial | exact i
theorem lam_k {f : Addr} {params : Arguments} {body : Expr} {scope : Scope} {clos : List (Str × Addr)} {d' u' : Nat} (hL : LamAt n f params body scope clos) (h : Ev ⟨scope, clos⟩ d' u' w [] n body R) (hd : d' + 1 ≤ d) (hu : u' + 3 ≤ u)
    (hb : autoParam (∀ name qual pm cdv ctv, bindArgs (kla_fn name qual params body scope clos pm cdv ctv) ⟨[], []⟩ = pure []) aI)
    (hco : autoParam (scope.isCoroutine = false) aW) (hgen : autoParam (scope.isGenerator = false) aW) (hk : autoParam (scope.kind = .function) aW) (hcell : autoParam (∀ x ∈ scope.names, x.2 ≠ .cell) aD) : Cl w d u f [] n fun v n' => ∃ pv, PvIs v pv ∧ R pv n' := by
  obtain ⟨name, qual, pm, c', ctv, oc, ws, t, h1, h2, h3, h4⟩ := hL
  unfold Cl
  intro loose mean mg mb dp un gd cn cs a ccd cl outer A₀ base h₀ L m' s Q E B F X N T hkc hdp hun hret
  refine wpAny_call ?_
  have hroom : dp < recursionLimit := Nat.lt_of_le_of_lt (Nat.le_add_right _ _) hdp
  refine kla_code B F X N T rfl rfl hkc h1 (codeRec_news N h2 h3 h4) hroom (hb ..) (fun _ hy => nomatch hy) (fun g L' h1' FG F' N' B' X' T' => ?_) hco hgen hk hcell
  let c : Fc w := { dp := dp + 1, un := un + 3, gd := gd, cn := qual, L := L', a := f, ccd := .ref c', outer := envX cn cs L a ccd cl :: outer, A₀ := ktrTop dp un gd cn cs L a ccd cl outer, base := base, g := g, loose := loose, mean := mean, mg := mg, mb := mb }
  have hc : c.Ok ⟨scope, clos⟩ d' u' := ⟨B', X', T', hk, Nat.lt_of_le_of_lt (by show dp + 1 + d' ≤ dp + d; omega) hdp, Nat.lt_of_le_of_lt (by show un + 3 + u' ≤ un + u; omega) hun⟩
  refine h c hc { s with heap := h1', toks := s.toks + 0 } _ _ ⟨_, fun _ _ h => (nomatch h), F', N'⟩ fun v pv n1 h2 t2 i r A => ?_
  obtain ⟨m2, _, F2, N2⟩ := A
  exact leaveK_ F2 N2 fun F3 N3 => hret _ n1 h2 t2 ⟨pv, i, r⟩ F3 N3
theorem lam_x {f : Addr} {params : Arguments} {body : Expr} {scope : Scope} {clos : List (Str × Addr)} {d' u' : Nat} (hL : LamAt n f params body scope clos) (h : XEv ⟨scope, clos⟩ d' u' w [] n n body) (hd : d' + 1 ≤ d) (hu : u' + 3 ≤ u)
    (hb : autoParam (∀ name qual pm cdv ctv, bindArgs (kla_fn name qual params body scope clos pm cdv ctv) ⟨[], []⟩ = pure []) aI)
    (hco : autoParam (scope.isCoroutine = false) aW) (hgen : autoParam (scope.isGenerator = false) aW) (hk : autoParam (scope.kind = .function) aW) (hcell : autoParam (∀ x ∈ scope.names, x.2 ≠ .cell) aD) : Cx w d u f [] n := by
  obtain ⟨name, qual, pm, c', ctv, oc, ws, t, h1, h2, h3, h4⟩ := hL
  unfold Cx
  intro loose mean mg mb dp un gd cn cs a ccd cl outer A₀ base h₀ L m' s Q E B F X N T hkc hdp hun hret
  refine wpAny_call ?_
  have hroom : dp < recursionLimit := Nat.lt_of_le_of_lt (Nat.le_add_right _ _) hdp
  refine kla_code B F X N T rfl rfl hkc h1 (codeRec_news N h2 h3 h4) hroom (hb ..) (fun _ hy => nomatch hy) (fun g L' h1' FG F' N' B' X' T' => ?_) hco hgen hk hcell
  let c : Fc w := { dp := dp + 1, un := un + 3, gd := gd, cn := qual, L := L', a := f, ccd := .ref c', outer := envX cn cs L a ccd cl :: outer, A₀ := ktrTop dp un gd cn cs L a ccd cl outer, base := base, g := g, loose := loose, mean := mean, mg := mg, mb := mb }
  have hc : c.Ok ⟨scope, clos⟩ d' u' := ⟨B', X', T', hk, Nat.lt_of_le_of_lt (by show dp + 1 + d' ≤ dp + d; omega) hdp, Nat.lt_of_le_of_lt (by show un + 3 + u' ≤ un + u; omega) hun⟩
  refine h c hc { s with heap := h1', toks := s.toks + 0 } _ _ ⟨_, fun _ _ h => (nomatch h), F', N'⟩ fun x h2 t2 out => ?_
  rcases out with ⟨m2, n2, t, dd, F2, N2, hx, hn⟩ | ⟨g2, m2, R9, F2, U2⟩
  · refine leave_sheet (s' := { s with heap := h2, toks := t2 }) B' F2 N2 hx hn (fun h' R9 U9 => ?_) hk
    exact hret x g h' t2 R9 FG U9
  · refine left_up (s' := { s with heap := h2, toks := t2 }) (Around.frames_deeper B'.stack) rfl ((Heap.UpToSlots.of_keeps F2.keep).trans U2) R9 (fun h' R9 U9 => ?_)
    exact hret x g h' t2 R9 FG U9
theorem heard_arg {c : Fc w} (hc : c.Ok sc d u) (hb : Bot c cc) {params : Arguments} {body : Expr} {scope : Scope} {clos : List (Str × Addr)} {P : Addr} {lp fp cp : Pos} {fx : Str} {s : Shared} {Q : Value → Shared → Prop} {E : Value → Shared → Prop} (A : At c m n s.heap)
    (hC : ∀ h, (Mine.hd.heap_1 w.params).In h → CodeHd h cc P) (hP : (P, tabObj #[]) ∈ n) (hf : nsIn (Mine.hd.heap_1 w.params) mainGlobals fx = some (some (.ref 511))) (hk : keepIn (Mine.hd.heap_1 w.params) (.ref 511) = true) (hdef : ∀ env, defaultsOf params env = ([], []))
    (hcl : closureFor scope (c.env sc) = pure clos) (hx : (c.env sc).kindOf fx = some .globalImplicit) (hg : (fx == Str.ofString "__debug__") = false)
    (e1 : ∀ env, eval ((Expr.Name fx fp).Call [.Lambda params body scope lp] [] cp) env = (do let v ← eval (Expr.Name fx fp) env; callWith cp v [] (backTo cp (starEach [.Lambda params body scope lp] env)) (backToKw cp (keywordEach [] env))))
    (e2 : ∀ env, starEach [.Lambda params body scope lp] env = (false, eval (.Lambda params body scope lp) env) :: starEach [] env)
    (k : ∀ f nf h' tk', LamAt nf f params body scope clos → SubX P n nf → Sub (ncL n) nf → (∃ ps, (P, tabObj ps) ∈ nf) → At c m nf h' → wpAny (model PG w) (c.A sc) (call (.ref 511) [.ref f]) Q E { s with heap := h', toks := tk' }) :
    wpAny (model PG w) (c.A sc) (eval (.Call (.Name fx fp) [.Lambda params body scope lp] [] cp) (c.env sc)) Q E s := by
  k_extra "oa"
  refine Call_ (nameX_K F hc.X (topRead_of hc.T) hf ?_ hc.hk hx hg) (e1 _)
  refine callWith_K hc.X hk ?_ (e2 _) rfl
  refine args_cons ?_ (e2 _)
  refine kla_eval (hdef _) ?_
  refine kla_nest F (fun p hp => N p (updL_of hP p hp)) hc.T (hC _ hc.X) hb.cd (updL_upd (n := n)) trivial rfl hcl fun f c' oc vs t ctv h' tk' F' N' hd hv _ _ => ?_
  refine args_nil ⟨hc.X.keeps F'.keep, ?_⟩
  exact k f _ h' tk' ⟨_, _, _, _, _, oc, vs, t, .head _, .tail _ (.head _), hd, hv⟩ (fun p hp hne => .tail _ (.tail _ (updL_sub p hp hne))) (nc_sub (fun x hx => Option.some.inj ((N _ hx).1.symm.trans (N _ hP).1)) rfl fun p hp hne => .tail _ (.tail _ (updL_sub p hp hne))) ⟨_, .tail _ (.tail _ (.head _))⟩ ⟨m', hm', F', N'⟩
end
end
section
open PySem PySem.W PyProof.Rows PyProof.V PySem.Spec
open PySem.Calls
section
variable {sc : Sc} {cc : Addr} {d u : Nat} {w : World} {m : Nms} {n n0 : Led} {R : PV → Led → Prop} {S : PF → Nms → Led → Prop}
theorem Ev.callF0 {x : Str} {q p : Pos} {f : Addr} {oc : Value} {od : Option Addr} {fd : FuncData} {sl : Array (Option Value)} {d' u' : Nat} (hm : m.lookup x = some (.ref f)) (hf : (f, (⟨oc, od, .func fd, sl⟩ : Obj)) ∈ n) (C : Cl w d' u' f [] n fun v n' => ∃ pv, PvIs v pv ∧ R pv n') (hd : d' ≤ d) (hu : u' ≤ u)
    (hx : autoParam (∀ c : Fc w, (c.env sc).kindOf x = some .local) aY) (hg : autoParam ((x == Str.ofString "__debug__") = false) aW)
    (h1 : autoParam (∀ env, eval ((Expr.Name x q).Call [] [] p) env = (do let v ← eval (Expr.Name x q) env; callWith p v [] (backTo p (starEach [] env)) (backToKw p (keywordEach [] env)))) aY) : Ev sc d u w m n (.Call (.Name x q) [] [] p) R := by
  intro c hc s Q E A q
  k_extra "oa"
  obtain ⟨v', hv, hp'⟩ := hm' x _ hm
  obtain rfl := hp'.ref
  refine Call_ (nameX_L F hv ?_ hc.hk (hx c) hg) (h1 _)
  refine callWith_F0 (FnAt.of N hf) ?_
  exact cl_use C hc.B F hc.X N hc.T hc.hk (Nat.lt_of_le_of_lt (Nat.add_le_add_left hd _) hc.hd) (Nat.lt_of_le_of_lt (Nat.add_le_add_left hu _) hc.hu)
    fun v nw h' tk' ⟨pv, a1, a2⟩ F' N' => q v pv nw h' tk' a1 a2 ⟨m', hm', F', N'⟩
theorem heard_ok {f : Addr} {oc : Value} {od : Option Addr} {fd : FuncData} {sl : Array (Option Value)} (hf : (f, (⟨oc, od, .func fd, sl⟩ : Obj)) ∈ n) (C : Cl w 260 2010 f [] n fun v n' => ∃ pv, PvIs v pv ∧ R pv n') : PCl 270 2070 511 w [.ref f] n R := by
  refine PCl.enter (d' := 265) (u' := 2060) (by k_is) (by k_is) (hb1 (x1 := Str.ofString "call") (fun _ _ => BindsTo.of_eq rfl) (by decide +kernel)) ?_ (by decide) (by decide)
  refine Ex.cons (Ex1.try_ ?_)
  repeat (k_extra "ev1")
  exact Ev.callF0 (by k_extra "w") hf (cl_mono C fun _ _ h => h) (by decide) (by decide)
theorem ExS.heardOk {x fx : Str} {params : Arguments} {body : Expr} {scope : Scope} {clos : List (Str × Addr)} {P : Addr} {lp fp cp p' p : Pos} (hC : ∀ h, (Mine.hd.heap_1 w.params).In h → CodeHd h cc P) (hP : (P, tabObj #[]) ∈ n) (hf : nsIn (Mine.hd.heap_1 w.params) mainGlobals fx = some (some (.ref 511))) (hk : keepIn (Mine.hd.heap_1 w.params) (.ref 511) = true)
    (k : ∀ f nf, LamAt nf f params body scope clos → SubX P n nf → Sub (ncL n) nf → (∃ ps, (P, tabObj ps) ∈ nf) → Cl w 260 2010 f [] nf fun v n' => ∃ pv, PvIs v pv ∧ S .next ((x, pv) :: m) n') (hd : 270 ≤ d) (hu : 2070 ≤ u)
    (hcl : autoParam (∀ c : Fc w, closureFor scope (c.env sc) = pure clos) aY) (hdef : autoParam (∀ env, defaultsOf params env = ([], [])) aY) (hx : autoParam (∀ c : Fc w, (c.env sc).kindOf fx = some .globalImplicit) aY) (hg : autoParam ((fx == Str.ofString "__debug__") = false) aW) (hl : autoParam (∀ c : Fc w, (c.env sc).kindOf x = some .local) aY)
    (e1 : autoParam (∀ env, eval ((Expr.Name fx fp).Call [.Lambda params body scope lp] [] cp) env = (do let v ← eval (Expr.Name fx fp) env; callWith cp v [] (backTo cp (starEach [.Lambda params body scope lp] env)) (backToKw cp (keywordEach [] env)))) aY)
    (e2 : autoParam (∀ env, starEach [.Lambda params body scope lp] env = (false, eval (.Lambda params body scope lp) env) :: starEach [] env) aY)
    (hs : autoParam (∀ env, swapsWith (.Call (.Name fx fp) [.Lambda params body scope lp] [] cp) (some (Expr.Name x p')) p.line env = pure false) aY) : ExS sc cc d u w m n (fun env => exec (.Assign [.Name x p'] (.Call (.Name fx fp) [.Lambda params body scope lp] [] cp) p) env) S := by
  intro c hc hb s Q E A q
  refine wpAny_Assign_Name (heard_arg hc hb A hC hP hf hk hdef (hcl c) (hx c) hg e1 e2 fun f nf h' tk' hL hs' hn' hp' A' => ?_) (hs _)
  have hL2 := hL
  obtain ⟨_, _, _, _, _, _, _, _, h1, _⟩ := hL2
  obtain ⟨m1, hm1, F1, N1⟩ := A'
  refine cl_use (heard_ok (w := w) (R := fun pv n' => S .next ((x, pv) :: m) n') h1 (k f nf hL hs' hn' hp') [.ref f] (show All2 PvIs [Value.ref f] [PV.ref f] from ⟨rfl, trivial⟩)) (s := { s with heap := h', toks := tk' }) hc.B F1 hc.X N1 hc.T hc.hk (Nat.lt_of_le_of_lt (Nat.add_le_add_left hd _) hc.hd) (Nat.lt_of_le_of_lt (Nat.add_le_add_left hu _) hc.hu) fun v nw h2 t2 ⟨pv, i2, r2⟩ F2 N2 => ?_
  exact store_rule (s := { s with heap := h2, toks := t2 }) hc (hl c) ⟨m1, hm1, F2, N2⟩ i2 fun h3 t3 A3 => q c .next .next _ nw h3 t3 hc hb .refl trivial r2 A3
theorem ExS.heardX {x fx : Str} {params : Arguments} {body : Expr} {scope : Scope} {clos : List (Str × Addr)} {P : Addr} {lp fp cp p' p : Pos} (hC : ∀ h, (Mine.hd.heap_1 w.params).In h → CodeHd h cc P) (hP : (P, tabObj #[]) ∈ n) (hf : nsIn (Mine.hd.heap_1 w.params) mainGlobals fx = some (some (.ref 511))) (hk : keepIn (Mine.hd.heap_1 w.params) (.ref 511) = true)
    (k : ∀ f nf, LamAt nf f params body scope clos → SubX P n nf → Sub (ncL n) nf → (∃ ps, (P, tabObj ps) ∈ nf) → Cx w 260 2010 f [] nf) (k2 : ∀ nf, SubX P n nf → Sub (ncL n) nf → (∃ ps, (P, tabObj ps) ∈ nf) → S .next ((x, .str (Str.ofString "refused")) :: m) nf) (hd : 280 ≤ d) (hu : 2170 ≤ u)
    (hcl : autoParam (∀ c : Fc w, closureFor scope (c.env sc) = pure clos) aY) (hdef : autoParam (∀ env, defaultsOf params env = ([], [])) aY) (hx : autoParam (∀ c : Fc w, (c.env sc).kindOf fx = some .globalImplicit) aY) (hg : autoParam ((fx == Str.ofString "__debug__") = false) aW) (hl : autoParam (∀ c : Fc w, (c.env sc).kindOf x = some .local) aY)
    (e1 : autoParam (∀ env, eval ((Expr.Name fx fp).Call [.Lambda params body scope lp] [] cp) env = (do let v ← eval (Expr.Name fx fp) env; callWith cp v [] (backTo cp (starEach [.Lambda params body scope lp] env)) (backToKw cp (keywordEach [] env)))) aY)
    (e2 : autoParam (∀ env, starEach [.Lambda params body scope lp] env = (false, eval (.Lambda params body scope lp) env) :: starEach [] env) aY)
    (hs : autoParam (∀ env, swapsWith (.Call (.Name fx fp) [.Lambda params body scope lp] [] cp) (some (Expr.Name x p')) p.line env = pure false) aY) : ExS sc cc d u w m n (fun env => exec (.Assign [.Name x p'] (.Call (.Name fx fp) [.Lambda params body scope lp] [] cp) p) env) S := by
  intro c hc hb s Q E A q
  refine wpAny_Assign_Name (heard_arg hc hb A hC hP hf hk hdef (hcl c) (hx c) hg e1 e2 fun f nf h' tk' hL hs' hn' hp' A' => ?_) (hs _)
  have hL2 := hL
  obtain ⟨_, _, _, _, _, _, _, _, h1, _⟩ := hL2
  obtain ⟨m1, hm1, F1, N1⟩ := A'
  refine heard_raise (d := 260) (u := 2010) h1 (k f nf hL hs' hn' hp') (by decide) (by decide) _ _ _ _ _ _ _ _ _ _ _ _ _ _ _ _ _ _ _ _ _ hb.XB hb.TB hc.B F1 hc.X N1 hc.T hc.hk (Nat.lt_of_le_of_lt (Nat.add_le_add_left hd _) hc.hd) (Nat.lt_of_le_of_lt (Nat.add_le_add_left hu _) hc.hu) fun g2 t2 h2 tk2 B2 F2 N2 X2 T2 S2 Z2 => ?_
  have hc2 : Fc.Ok { c with g := g2 } sc d u := ⟨B2, X2, T2, hc.hk, hc.hd, hc.hu⟩
  exact store_rule (c := { c with g := g2 }) (s := { s with heap := h2, toks := tk2 }) hc2 (hl c) ⟨m1, hm1, F2, N2⟩ (pv := .str (Str.ofString "refused")) rfl fun h3 t3 A3 => q { c with g := g2 } .next .next _ nf h3 t3 hc2 ⟨hb.XB, hb.TB, S2, hb.cd⟩ ⟨g2, rfl, Z2⟩ trivial (k2 nf hs' hn' hp') A3
end
end
section
open PySem PySem.W PyProof.Rows PyProof.V PySem.Spec
noncomputable abbrev Qe := (Value × PyData) × (Value × PyData) × (Value × PyData) × Addr
def QE (w : World) (r : Led) (q : Qe) : Prop := (LitIs r 3 q.1.1 q.1.2 ∧ q.1.2 ∈ BXS) ∧ (LitIs r 3 q.2.1.1 q.2.1.2 ∧ q.2.1.2 ∈ FXS) ∧ (LitIs r 3 q.2.2.1.1 q.2.2.1.2 ∧ q.2.2.1.2 ∈ UXS) ∧
  ∃ kvs, EltAt w r q.2.2.2 kvs ∧ AttrIs kvs VB (rowTxt q.1.2) ∧ AttrIs kvs PAR (rowTxt q.2.1.2) ∧ AttrIs kvs PCU (strOf q.2.2.1.2)
theorem LitIs.sub {n n' : Led} {k : Nat} {v : Value} {d : PyData} (h : LitIs n k v d) (s : Sub n n') : LitIs n' k v d := h.mono fun p hp _ => s p hp
theorem QE.sub {w : World} {r r' : Led} {q : Qe} (h : QE w r q) (s : Sub r r') : QE w r' q := by
  obtain ⟨⟨a1, a2⟩, ⟨b1, b2⟩, ⟨c1, c2⟩, kvs, e, x⟩ := h
  exact ⟨⟨a1.sub s, a2⟩, ⟨b1.sub s, b2⟩, ⟨c1.sub s, c2⟩, kvs, e.sub s, x⟩
def Has (X : List Addr) (n : Led) : Prop := ∀ x ∈ X, ∃ o, (x, o) ∈ n
theorem New.out {X : List Addr} {n : Led} {a : Addr} (h : New n a) (hx : Has X n) : a ∉ X := fun ha => let ⟨_, ho⟩ := hx a ha; h _ ho rfl
theorem nd_ne {L : List Addr} (h : L.Nodup) (i j : Nat) {a b : Addr} (hi : L[i]? = some a) (hj : L[j]? = some b) (hij : i ≠ j) : a ≠ b := by
  intro e
  subst e
  obtain ⟨hi1, hi2⟩ := List.getElem?_eq_some_iff.mp hi
  exact hij ((List.getElem?_inj hi1 h).mp (hi.trans hj.symm))
theorem nodup_mid {A B C : List Addr} (h : (A ++ (B ++ C)).Nodup) {x : Addr} (hx : x ∈ A ∨ x ∈ C) : x ∉ B := by
  intro hb
  obtain ⟨_, h2, h3⟩ := List.nodup_append.mp h
  rcases hx with hx | hx
  · exact h3 x hx x (List.mem_append_left _ hb) rfl
  · exact (List.nodup_append.mp h2).2.2 x hb x hx rfl
noncomputable def Asc : Nat → List Nat → Prop
  | _, [] => True
  | a, b :: l => a < b ∧ Asc b l
theorem Asc.lt : ∀ {l : List Nat} {a : Nat}, Asc a l → ∀ x ∈ l, a < x
  | [], _, _, _, hx => nomatch hx
  | _ :: _, _, h, x, hx => (List.mem_cons.mp hx).elim (fun e => e ▸ h.1) fun hx => Nat.lt_trans h.1 (Asc.lt h.2 x hx)
theorem Asc.nd : ∀ {l : List Nat} {a : Nat}, Asc a l → l.Nodup
  | [], _, _ => List.nodup_nil
  | _ :: _, _, h => List.nodup_cons.mpr ⟨fun hx => Nat.lt_irrefl _ (Asc.lt h.2 _ hx), Asc.nd h.2⟩
theorem nodup_ring {c1 c2 c3 c4 b1 b2 b3 b4 src l : Nat} (h : Asc l [c1, c2, c3, c4, b1, b2, b3, b4]) (l1 : src < l) (l2 : 577 < l) (l3 : 513 < l) (h1 : src ≠ 577) (h2 : src ≠ 513) : ([c1, c2, c3, c4, src, b1, b2, b3, b4, 577, 513] : List Nat).Nodup := by
  refine ((List.perm_middle (l₁ := [c1, c2, c3, c4]) (a := src) (l₂ := [b1, b2, b3, b4, 577, 513])).trans (List.Perm.cons src (List.perm_append_comm (l₁ := [c1, c2, c3, c4, b1, b2, b3, b4]) (l₂ := [577, 513])))).nodup_iff.mpr ?_
  refine List.nodup_append (l₁ := [src, 577, 513]).mpr ⟨List.nodup_cons.mpr ⟨fun hx => (List.mem_cons.mp hx).elim h1 fun hx => h2 (List.mem_singleton.mp hx), by decide⟩, h.nd, fun a ha b hb => Nat.ne_of_lt (Nat.lt_trans ?_ (h.lt b hb))⟩
  exact (List.forall_mem_cons (p := fun a => a < l)).mpr ⟨l1, List.forall_mem_cons.mpr ⟨l2, List.forall_mem_cons.mpr ⟨l3, List.forall_mem_nil _⟩⟩⟩ a ha
structure TS (Ia src Bx Fx Ux Ex : Addr) (oI o : Obj) (lb lf lu le : List Value) (r n : Led) : Prop where
  nd : [Ia, src, Bx, Fx, Ux, Ex].Nodup
  hI : (Ia, oI) ∈ n
  hs : (src, o) ∈ n
  hB : (Bx, LCg.lst lb) ∈ n
  hF : (Fx, LCg.lst lf) ∈ n
  hU : (Ux, LCg.lst lu) ∈ n
  hE : (Ex, LCg.lst le) ∈ n
  hr : Stb [Ia, src, Bx, Fx, Ux, Ex] r n
section
variable {Ia src Bx Fx Ux Ex : Addr} {oI o o' : Obj} {lb lf lu le l' : List Value} {r n n' : Led}
theorem TS.has (T : TS Ia src Bx Fx Ux Ex oI o lb lf lu le r n) : Has [Ia, src, Bx, Fx, Ux, Ex] n := by
  exact List.forall_mem_cons.mpr ⟨⟨_, T.hI⟩, List.forall_mem_cons.mpr ⟨⟨_, T.hs⟩, List.forall_mem_cons.mpr ⟨⟨_, T.hB⟩, List.forall_mem_cons.mpr ⟨⟨_, T.hF⟩, List.forall_mem_cons.mpr ⟨⟨_, T.hU⟩, List.forall_mem_cons.mpr ⟨⟨_, T.hE⟩, fun _ h => nomatch h⟩⟩⟩⟩⟩⟩
theorem TS.sub (T : TS Ia src Bx Fx Ux Ex oI o lb lf lu le r n) (s : Sub n n') : TS Ia src Bx Fx Ux Ex oI o lb lf lu le r n' :=
  ⟨T.nd, s _ T.hI, s _ T.hs, s _ T.hB, s _ T.hF, s _ T.hU, s _ T.hE, T.hr.sub s⟩
theorem TS.src' (T : TS Ia src Bx Fx Ux Ex oI o lb lf lu le r n) (s : SubX src n n') (h : (src, o') ∈ n') : TS Ia src Bx Fx Ux Ex oI o' lb lf lu le r n' := by
  exact ⟨T.nd, s _ T.hI (nd_ne T.nd 0 1 rfl rfl (by decide)), h, s _ T.hB (nd_ne T.nd 2 1 rfl rfl (by decide)), s _ T.hF (nd_ne T.nd 3 1 rfl rfl (by decide)), s _ T.hU (nd_ne T.nd 4 1 rfl rfl (by decide)), s _ T.hE (nd_ne T.nd 5 1 rfl rfl (by decide)), T.hr.subX s (List.mem_of_getElem? (i := 1) rfl)⟩
theorem TS.b (T : TS Ia src Bx Fx Ux Ex oI o lb lf lu le r n) (s : SubX Bx n n') (h : (Bx, LCg.lst l') ∈ n') : TS Ia src Bx Fx Ux Ex oI o l' lf lu le r n' := by
  exact ⟨T.nd, s _ T.hI (nd_ne T.nd 0 2 rfl rfl (by decide)), s _ T.hs (nd_ne T.nd 1 2 rfl rfl (by decide)), h, s _ T.hF (nd_ne T.nd 3 2 rfl rfl (by decide)), s _ T.hU (nd_ne T.nd 4 2 rfl rfl (by decide)), s _ T.hE (nd_ne T.nd 5 2 rfl rfl (by decide)), T.hr.subX s (List.mem_of_getElem? (i := 2) rfl)⟩
theorem TS.f (T : TS Ia src Bx Fx Ux Ex oI o lb lf lu le r n) (s : SubX Fx n n') (h : (Fx, LCg.lst l') ∈ n') : TS Ia src Bx Fx Ux Ex oI o lb l' lu le r n' := by
  exact ⟨T.nd, s _ T.hI (nd_ne T.nd 0 3 rfl rfl (by decide)), s _ T.hs (nd_ne T.nd 1 3 rfl rfl (by decide)), s _ T.hB (nd_ne T.nd 2 3 rfl rfl (by decide)), h, s _ T.hU (nd_ne T.nd 4 3 rfl rfl (by decide)), s _ T.hE (nd_ne T.nd 5 3 rfl rfl (by decide)), T.hr.subX s (List.mem_of_getElem? (i := 3) rfl)⟩
theorem TS.u (T : TS Ia src Bx Fx Ux Ex oI o lb lf lu le r n) (s : SubX Ux n n') (h : (Ux, LCg.lst l') ∈ n') : TS Ia src Bx Fx Ux Ex oI o lb lf l' le r n' := by
  exact ⟨T.nd, s _ T.hI (nd_ne T.nd 0 4 rfl rfl (by decide)), s _ T.hs (nd_ne T.nd 1 4 rfl rfl (by decide)), s _ T.hB (nd_ne T.nd 2 4 rfl rfl (by decide)), s _ T.hF (nd_ne T.nd 3 4 rfl rfl (by decide)), h, s _ T.hE (nd_ne T.nd 5 4 rfl rfl (by decide)), T.hr.subX s (List.mem_of_getElem? (i := 4) rfl)⟩
theorem TS.e (T : TS Ia src Bx Fx Ux Ex oI o lb lf lu le r n) (s : SubX Ex n n') (h : (Ex, LCg.lst l') ∈ n') : TS Ia src Bx Fx Ux Ex oI o lb lf lu l' r n' := by
  exact ⟨T.nd, s _ T.hI (nd_ne T.nd 0 5 rfl rfl (by decide)), s _ T.hs (nd_ne T.nd 1 5 rfl rfl (by decide)), s _ T.hB (nd_ne T.nd 2 5 rfl rfl (by decide)), s _ T.hF (nd_ne T.nd 3 5 rfl rfl (by decide)), s _ T.hU (nd_ne T.nd 4 5 rfl rfl (by decide)), h, T.hr.subX s (List.mem_of_getElem? (i := 5) rfl)⟩
theorem TS.off {D : Addr} (T : TS Ia src Bx Fx Ux Ex oI o lb lf lu le r n) (s : SubX D n n') (hD : D ∉ [Ia, src, Bx, Fx, Ux, Ex]) (hr : New r D) : TS Ia src Bx Fx Ux Ex oI o lb lf lu le r n' := by
  have no : ∀ (i : Nat) {x : Addr}, [Ia, src, Bx, Fx, Ux, Ex][i]? = some x → x ≠ D := fun i x h e => hD (e ▸ List.mem_of_getElem? h)
  exact ⟨T.nd, s _ T.hI (no 0 rfl), s _ T.hs (no 1 rfl), s _ T.hB (no 2 rfl), s _ T.hF (no 3 rfl), s _ T.hU (no 4 rfl), s _ T.hE (no 5 rfl), fun p hp => ⟨s p (T.hr p hp).1 (hr p hp), (T.hr p hp).2⟩⟩
theorem TS.grow {g : Led} (T : TS Ia src Bx Fx Ux Ex oI o lb lf lu le r n) (hg : Stb [Ia, src, Bx, Fx, Ux, Ex] g n) : TS Ia src Bx Fx Ux Ex oI o lb lf lu le (g ++ r) n :=
  ⟨T.nd, T.hI, T.hs, T.hB, T.hF, T.hU, T.hE, fun p hp => (List.mem_append.mp hp).elim (hg p) (T.hr p)⟩
theorem TS.lt1 {n0 : Led} (T : TS Ia src Bx Fx Ux Ex oI o lb lf lu le r n0) {D : Addr} (h : New n0 D) : @Ne Nat D src := fun e => h _ T.hs e.symm
end
noncomputable abbrev names0 (Bx Fx Ux : Addr) : Nms := [(Str.ofString "units", .ref Ux), (Str.ofString "fits", .ref Fx), (Str.ofString "boxes", .ref Bx)]
inductive CI (w : World) (src Bx Fx Ux Ex : Addr) (r₀ : Led) (i : Nat) (m : Nms) (n : Led) : Prop
  | mk (f0 : m = names0 Bx Fx Ux) (qs : List Qe) (o : Obj) (r : Led) (f1 : qs.length = i) (f2 : SrcOk o) (f3 : (src, o) ∈ n) (f4 : (Bx, LCg.lst (qs.map fun q => q.1.1)) ∈ n) (f5 : (Fx, LCg.lst (qs.map fun q => q.2.1.1)) ∈ n) (f6 : (Ux, LCg.lst (qs.map fun q => q.2.2.1.1)) ∈ n) (f7 : (Ex, LCg.lst (qs.map fun q => .ref q.2.2.2)) ∈ n) (f8 : Sub r₀ r) (f9 : Stb [src, Bx, Fx, Ux, Ex] r n) (f10 : ∀ q ∈ qs, QE w r q) : CI w src Bx Fx Ux Ex r₀ i m n
theorem CI.turn {w : World} {src Bx Fx Ux Ex Ia : Addr} {oI : Obj} {r₀ n : Led} {i : Nat} {m : Nms} {G : Prop} (nd : [src, Bx, Fx, Ux, Ex].Nodup) (h : CI w src Bx Fx Ux Ex r₀ i m n) (hI : New n Ia)
    (k : m = names0 Bx Fx Ux → ∀ (qs : List Qe) o r, qs.length = i → SrcOk o → Sub r₀ r → (∀ q ∈ qs, QE w r q) → TS Ia src Bx Fx Ux Ex oI o (qs.map fun q => q.1.1) (qs.map fun q => q.2.1.1) (qs.map fun q => q.2.2.1.1) (qs.map fun q => .ref q.2.2.2) r ((Ia, oI) :: n) → G) : G := by
  obtain ⟨rfl, qs, o, r, h1, h2, h3, h4, h5, h6, h7, h8, h9, h10⟩ := h
  refine k rfl qs o r h1 h2 h8 h10 ⟨List.nodup_cons.mpr ⟨?_, nd⟩, .head _, .tail _ h3, .tail _ h4, .tail _ h5, .tail _ h6, .tail _ h7, fun p hp => ⟨.tail _ (h9 p hp).1, fun hx => ?_⟩⟩
  · exact fun hx => (List.forall_mem_cons (p := fun x => x ≠ Ia)).mpr ⟨hI _ h3, List.forall_mem_cons.mpr ⟨hI _ h4, List.forall_mem_cons.mpr ⟨hI _ h5, List.forall_mem_cons.mpr ⟨hI _ h6, List.forall_mem_cons.mpr ⟨hI _ h7, List.forall_mem_nil _⟩⟩⟩⟩⟩ _ hx rfl
  · rcases List.mem_cons.mp hx with e | hx
    · exact hI _ (h9 p hp).1 e
    · exact (h9 p hp).2 hx
theorem CI.end_ {w : World} {src Bx Fx Ux Ex Ia : Addr} {oI o : Obj} {r₀ r n : Led} {i : Nat} {m2 : Nms} {qs : List Qe} {q : Qe} (hm : Le (names0 Bx Fx Ux) m2) (hlen : qs.length = i) (hs : SrcOk o)
    (T : TS Ia src Bx Fx Ux Ex oI o ((qs.map fun q => q.1.1) ++ [q.1.1]) ((qs.map fun q => q.2.1.1) ++ [q.2.1.1]) ((qs.map fun q => q.2.2.1.1) ++ [q.2.2.1.1]) ((qs.map fun q => .ref q.2.2.2) ++ [.ref q.2.2.2]) r n) (h0 : Sub r₀ r) (hq : ∀ q ∈ qs, QE w r q) (hn : QE w r q) :
    KTurnG (CI w src Bx Fx Ux Ex r₀) i Ia oI .next m2 n := by
  have nd := T.nd
  obtain ⟨nI, nd5⟩ := List.nodup_cons.mp nd
  simp only [List.mem_cons, List.not_mem_nil, or_false, not_or] at nI
  obtain ⟨a1, a2, a3, a4, a5⟩ := nI
  have hmap : ∀ (g : Qe → Value), (qs ++ [q]).map g = qs.map g ++ [g q] := fun g => by rw [List.map_append]; rfl
  refine ⟨rfl, names0 Bx Fx Ux, (src, o) :: (Bx, LCg.lst ((qs.map fun q => q.1.1) ++ [q.1.1])) :: (Fx, LCg.lst ((qs.map fun q => q.2.1.1) ++ [q.2.1.1])) :: (Ux, LCg.lst ((qs.map fun q => q.2.2.1.1) ++ [q.2.2.1.1])) :: (Ex, LCg.lst ((qs.map fun q => .ref q.2.2.2) ++ [.ref q.2.2.2])) :: r, hm, T.hI, ?_, ?_, rfl, qs ++ [q], o, r, ?_, hs, .head _, ?_, ?_, ?_, ?_, h0, ?_, ?_⟩
  · intro p hp
    k_extra "rm"
    · exact T.hs
    k_extra "rm"
    · exact T.hB
    k_extra "rm"
    · exact T.hF
    k_extra "rm"
    · exact T.hU
    k_extra "rm"
    · exact T.hE
    · exact (T.hr p hp).1
  · intro p hp
    k_extra "rm"
    · exact Ne.symm a1
    k_extra "rm"
    · exact Ne.symm a2
    k_extra "rm"
    · exact Ne.symm a3
    k_extra "rm"
    · exact Ne.symm a4
    k_extra "rm"
    · exact Ne.symm a5
    · exact fun e => (T.hr p hp).2 (e ▸ .head _)
  · rw [List.length_append, hlen]; rfl
  · rw [hmap]; exact .tail _ (.head _)
  · rw [hmap]; exact .tail _ (.tail _ (.head _))
  · rw [hmap]; exact .tail _ (.tail _ (.tail _ (.head _)))
  · rw [hmap]; exact .tail _ (.tail _ (.tail _ (.tail _ (.head _))))
  · exact fun p hp => ⟨.tail _ (.tail _ (.tail _ (.tail _ (.tail _ hp)))), fun hx => (T.hr p hp).2 (.tail _ hx)⟩
  · intro q' hq'
    rcases List.mem_append.mp hq' with hq' | hq'
    · exact hq q' hq'
    · rw [List.mem_singleton.mp hq']; exact hn
theorem attr_stored {kvs : List (Str × Value)} {k j : Str} {v : Value} {o : Option Str} (h : AttrIs kvs j o) (hne : ¬ k = j) : AttrIs (stored kvs k v) j o := by
  have e : valueAt (stored kvs k v) j = valueAt kvs j := by
    unfold valueAt stored
    split
    · rw [List.find?_map, Option.map_map]
      have : ((fun kv : Str × Value => decide (kv.1 = j)) ∘ fun kv : Str × Value => if kv.1 = k then (kv.1, v) else kv) = fun kv => decide (kv.1 = j) := by
        funext kv; simp only [Function.comp]; split <;> rfl
      rw [this]
      cases hf : kvs.find? fun kv => decide (kv.1 = j) with
      | none => rfl
      | some kv =>
        have hk := List.find?_some hf
        have : ¬ kv.1 = k := fun e => hne (e.symm.trans (of_decide_eq_true hk))
        simp only [Option.map_some, Function.comp, if_neg this]
    · rw [List.find?_append]
      cases hf : kvs.find? fun kv => decide (kv.1 = j) with
      | none => simp [hne]
      | some kv => rfl
  cases o <;> simp only [AttrIs, e] at h ⊢ <;> exact h
theorem attr_new {kvs : List (Str × Value)} {k x : Str} {t : Tok} (h : AttrIs kvs k Option.none) : AttrIs (stored kvs k (.str x t)) k (some x) := by
  refine ⟨t, ?_⟩
  have h' : kvs.find? (fun kv => decide (kv.1 = k)) = Option.none := by
    have := h
    unfold AttrIs valueAt at this
    cases hf : kvs.find? fun kv => decide (kv.1 = k) with
    | none => rfl
    | some kv => rw [hf] at this; cases this
  have hany : ¬ (kvs.any fun kv => decide (kv.1 = k)) = true := fun ha => by
    obtain ⟨kv, hm, hk⟩ := List.any_eq_true.mp ha
    exact absurd hk (by simpa using List.find?_eq_none.mp h' kv hm)
  unfold valueAt stored
  rw [if_neg (by simpa using hany), List.find?_append, h']
  simp
theorem CI.src {w : World} {src Bx Fx Ux Ex : Addr} {o' : Obj} {r₀ n n' : Led} {m : Nms} {i : Nat} (nd : [src, Bx, Fx, Ux, Ex].Nodup) (h : CI w src Bx Fx Ux Ex r₀ i m n) (s : SubX src n n') (ho : (src, o') ∈ n') (hs : SrcOk o') : CI w src Bx Fx Ux Ex r₀ i m n' := by
  obtain ⟨rfl, qs, o, r, h1, h2, h3, h4, h5, h6, h7, h8, h9, h10⟩ := h
  exact ⟨rfl, qs, o', r, h1, hs, ho, s _ h4 (nd_ne nd 1 0 rfl rfl (by decide)), s _ h5 (nd_ne nd 2 0 rfl rfl (by decide)), s _ h6 (nd_ne nd 3 0 rfl rfl (by decide)), s _ h7 (nd_ne nd 4 0 rfl rfl (by decide)), h8, h9.subX s (.head _), h10⟩
theorem litP_none {f : Led} : LitP f .none .none := ⟨.none, trivial, .inl trivial⟩
theorem litP_str {f : Led} {x : Str} : LitP f (.str x) (.str x) := ⟨.str x 0, rfl, .inl rfl⟩
theorem hxP_b {g : Led} {pvs : List PV} (h : All2 (LitP g) pvs BOXES) : All2 (LitP g) ([.none, .none] ++ pvs) BXS := ⟨litP_none, litP_none, h⟩
theorem hxP_f {g : Led} {pvs : List PV} (h : All2 (LitP g) pvs FITS) : All2 (LitP g) ([.none] ++ pvs) FXS := ⟨litP_none, h⟩
theorem hxP_u : All2 (LitP []) [.none, .str (Str.ofString "userSpaceOnUse"), .str (Str.ofString "objectBoundingBox"), .str (Str.ofString "objectBoundingBox"), .str (Str.ofString "x")] UXS := ⟨litP_none, litP_str, litP_str, litP_str, litP_str, trivial⟩
theorem lenB {g : Led} {pvs : List PV} (h : All2 (LitP g) pvs BOXES) : ([PV.none, .none] : List PV).length + pvs.length < 1000 := by rw [h.len]; decide
theorem lenF {g : Led} {pvs : List PV} (h : All2 (LitP g) pvs FITS) : ([PV.none] : List PV).length + pvs.length < 1000 := by rw [h.len]; decide
theorem New.stb {X : List Addr} {g n n' : Led} (h : ∀ p ∈ g, p ∈ n' ∧ New n p.1) (hx : Has X n) : Stb X g n' := fun p hp => ⟨(h p hp).1, (h p hp).2.out hx⟩
theorem unitP_elim {f : Led} {p : PV} {d : PyData} {G : Prop} (h : LitP f p d) (hd : d ∈ UXS) (k1 : p = .none → d = .none → G) (k2 : ∀ x, p = .str x → d = .str x → G) : G := by
  obtain ⟨v, i, l⟩ := h
  refine unit_elim l hd (fun e1 e2 => ?_) (fun x t e1 e2 => ?_)
  · subst e1; exact k1 (by cases p <;> first | rfl | exact i.elim) e2
  · subst e1; exact k2 x (by cases p <;> first | exact i.elim | exact congrArg PV.str i.symm) e2
theorem elt_of {w : World} {E dE D ch : Addr} {t1 t2 t3 t4 te tn : Tok} {od : Obj} {kvs : List (Str × Value)} {nm : Str} {r : Led} (h1 : (E, instObj 444 dE) ∈ r) (h2 : (dE, elD w nm D ch tn t1 t2 t3 t4 te) ∈ r) (h3 : (D, od) ∈ r) (h4 : od.IsDictOf (SK w) kvs) (h5 : (D == sysModules) = false) : EltAt w r E kvs :=
  ⟨dE, nm, ch, tn, t1, t2, t3, t4, te, D, od, h1, h2, h5, h3, h4⟩
theorem low_ne {D : Addr} {n : Led} {o : Obj} (h : AllLt D n) (h5 : (577, o) ∈ n) : (D == sysModules) = false := by
  have := allLt_all.mp h _ h5
  exact beq_eq_false_iff_ne.mpr fun e => by
    subst e
    exact absurd (show @LT.lt Nat _ 577 sysModules from this) (by decide)
structure Pre (src Bx Fx Ux Ex cS cA cE cR : Addr) (o oS oA oE oR : Obj) (ps : Array Value) (n : Led) : Prop where
  nd : [src, Bx, Fx, Ux, Ex].Nodup
  ci : ∃ r, Sub r n ∧ (cS, oS) ∈ r ∧ (cA, oA) ∈ r ∧ (cE, oE) ∈ r ∧ (cR, oR) ∈ r ∧ (577, tabObj #[]) ∈ r ∧ (513, tabObj ps) ∈ r ∧ ∀ w : World, CI w src Bx Fx Ux Ex r 0 (names0 Bx Fx Ux) n
  nc : [cS, cA, cE, cR, src, Bx, Fx, Ux, Ex, 577, 513].Nodup
theorem contr_a {src L' Bx Fx Ux Ex : Addr} {o oS oA oE oE' oR : Obj} {ps : Array Value} {n1 n2 : Led} {G : Prop} (hs : SrcOk o) (h1 : @Ne Nat src 577) (h13 : @Ne Nat src 513) (l2 : @LT.lt Nat _ src L') (l3 : @LT.lt Nat _ 577 L') (l4 : @LT.lt Nat _ 513 L')
    (aB : AllLt Bx ([(L' + 1 + 1 + 1 + 1, oR), (L' + 1 + 1 + 1, oE), (L' + 1 + 1, oA), (L' + 1, oS)] ++ [(src, o), (577, tabObj #[]), (513, tabObj ps)]))
    (aF : AllLt Fx ((Bx, LCg.lst []) :: ([(L' + 1 + 1 + 1 + 1, oR), (L' + 1 + 1 + 1, oE), (L' + 1 + 1, oA), (L' + 1, oS)] ++ [(src, o), (577, tabObj #[]), (513, tabObj ps)])))
    (aU : AllLt Ux ((Fx, LCg.lst []) :: (Bx, LCg.lst []) :: ([(L' + 1 + 1 + 1 + 1, oR), (L' + 1 + 1 + 1, oE), (L' + 1 + 1, oA), (L' + 1, oS)] ++ [(src, o), (577, tabObj #[]), (513, tabObj ps)])))
    (aE : AllLt Ex ((Ux, LCg.lst []) :: (Fx, LCg.lst []) :: (Bx, LCg.lst []) :: ([(L' + 1 + 1 + 1 + 1, oR), (L' + 1 + 1 + 1, oE), (L' + 1 + 1, oA), (L' + 1, oS)] ++ [(src, o), (577, tabObj #[]), (513, tabObj ps)])))
    (s1 : Sub ((Ex, LCg.lst []) :: (Ux, LCg.lst []) :: (Fx, LCg.lst []) :: (Bx, LCg.lst []) :: ([(L' + 1 + 1 + 1 + 1, oR), (L' + 1 + 1 + 1, oE), (L' + 1 + 1, oA), (L' + 1, oS)] ++ [(src, o), (577, tabObj #[]), (513, tabObj ps)])) n1)
    (sE : SubX (L' + 1 + 1 + 1) n1 n2) (hE : (L' + 1 + 1 + 1, oE') ∈ n2) (k : Pre src Bx Fx Ux Ex (L' + 1) (L' + 1 + 1) (L' + 1 + 1 + 1) (L' + 1 + 1 + 1 + 1) o oS oA oE' oR ps n2 → G) : G := by
  have nc := nodup_ring (l := L') (src := src) (show Asc L' [L' + 1, L' + 1 + 1, L' + 1 + 1 + 1, L' + 1 + 1 + 1 + 1, Bx, Fx, Ux, Ex] from ⟨Nat.lt_succ_self _, Nat.lt_succ_self _, Nat.lt_succ_self _, Nat.lt_succ_self _, aB.1, aF.1, aU.1, aE.1, trivial⟩) l2 l3 l4 h1 h13
  have up : ∀ (i : Nat) {p : Addr × Obj}, ((Ex, LCg.lst []) :: (Ux, LCg.lst []) :: (Fx, LCg.lst []) :: (Bx, LCg.lst []) :: ([(L' + 1 + 1 + 1 + 1, oR), (L' + 1 + 1 + 1, oE), (L' + 1 + 1, oA), (L' + 1, oS)] ++ [(src, o), (577, tabObj #[]), (513, tabObj ps)]))[i]? = some p → @Ne Nat p.1 (L' + 1 + 1 + 1) → p ∈ n2 := fun i p hp hne => sE p (s1 p (List.mem_of_getElem? hp)) hne
  have mid : ∀ {x : Addr}, x ∈ [L' + 1, L' + 1 + 1, L' + 1 + 1 + 1, L' + 1 + 1 + 1 + 1] ∨ x ∈ [577, 513] → x ∉ [src, Bx, Fx, Ux, Ex] := fun hx => nodup_mid (show ([L' + 1, L' + 1 + 1, L' + 1 + 1 + 1, L' + 1 + 1 + 1 + 1] ++ ([src, Bx, Fx, Ux, Ex] ++ [577, 513]) : List Addr).Nodup from nc) hx
  have hr : ∀ p ∈ [(L' + 1, oS), (L' + 1 + 1, oA), (L' + 1 + 1 + 1, oE'), (L' + 1 + 1 + 1 + 1, oR), (577, tabObj #[]), (513, tabObj ps)], p ∈ n2 ∧ p.1 ∉ [src, Bx, Fx, Ux, Ex] := List.forall_mem_cons.mpr ⟨⟨(up 7 rfl (nd_ne nc 0 2 rfl rfl (by decide))), mid (.inl (List.mem_of_getElem? (i := 0) rfl))⟩, List.forall_mem_cons.mpr ⟨⟨(up 6 rfl (nd_ne nc 1 2 rfl rfl (by decide))), mid (.inl (List.mem_of_getElem? (i := 1) rfl))⟩, List.forall_mem_cons.mpr ⟨⟨hE, mid (.inl (List.mem_of_getElem? (i := 2) rfl))⟩, List.forall_mem_cons.mpr ⟨⟨(up 4 rfl (nd_ne nc 3 2 rfl rfl (by decide))), mid (.inl (List.mem_of_getElem? (i := 3) rfl))⟩, List.forall_mem_cons.mpr ⟨⟨(up 9 rfl (nd_ne nc 9 2 rfl rfl (by decide))), mid (.inr (List.mem_of_getElem? (i := 0) rfl))⟩, List.forall_mem_cons.mpr ⟨⟨(up 10 rfl (nd_ne nc 10 2 rfl rfl (by decide))), mid (.inr (List.mem_of_getElem? (i := 1) rfl))⟩, fun _ h => nomatch h⟩⟩⟩⟩⟩⟩
  exact k ⟨(List.nodup_append.mp (List.nodup_append.mp (show ([L' + 1, L' + 1 + 1, L' + 1 + 1 + 1, L' + 1 + 1 + 1 + 1] ++ ([src, Bx, Fx, Ux, Ex] ++ [577, 513]) : List Addr).Nodup from nc)).2.1).1, ⟨[(L' + 1, oS), (L' + 1 + 1, oA), (L' + 1 + 1 + 1, oE'), (L' + 1 + 1 + 1 + 1, oR), (577, tabObj #[]), (513, tabObj ps)], fun p hp => (hr p hp).1, (List.mem_of_getElem? (i := 0) rfl), (List.mem_of_getElem? (i := 1) rfl), (List.mem_of_getElem? (i := 2) rfl), (List.mem_of_getElem? (i := 3) rfl), (List.mem_of_getElem? (i := 4) rfl), (List.mem_of_getElem? (i := 5) rfl), fun w => ⟨rfl, [], o, _, rfl, hs, (up 8 rfl (nd_ne nc 4 2 rfl rfl (by decide))), (up 3 rfl (nd_ne nc 5 2 rfl rfl (by decide))), (up 2 rfl (nd_ne nc 6 2 rfl rfl (by decide))), (up 1 rfl (nd_ne nc 7 2 rfl rfl (by decide))), (up 0 rfl (nd_ne nc 8 2 rfl rfl (by decide))), Sub.refl _, hr, fun _ h => nomatch h⟩⟩, nc⟩
end
section
open PySem PySem.W PyProof.Rows PyProof.V PySem.Spec PySem.Calls
section
variable {sc : Sc} {d u : Nat} {w : World} {m : Nms} {n n0 : Led} {R : PV → Led → Prop} {S : PF → Nms → Led → Prop}
theorem off1_mem {D : Addr} : ∀ {l : Led}, LCg.Off1 D l → New l D
  | [], _ => fun _ h => nomatch h
  | _ :: _, x => fun p hp => (List.mem_cons.mp hp).elim (fun e => e ▸ x.1) fun hp => off1_mem x.2 p hp
theorem take_in {c : Fc w} (hc : c.Ok sc d u) {fx o : Str} {q1 q2 q3 q4 : Pos} {k1 : Nat} {top : Int} {scope : Scope} {cl : List (Str × Addr)} {C cS src : Addr} {oS so : Obj} {m' : Str → Option Value} {s : Shared} {Q : Value → Shared → Prop} {E : Value → Shared → Prop}
    (F : Fr c.g c.L s.heap m') (N : News c.g c.L s.heap n) (hS : (cS, oS) ∈ n) (dS : oS.data = .cell (some (.ref src))) (hsrc : (src, so) ∈ n) (hs : SrcOk so) (ht : 0 < top) (ht2 : top < 1000) (hf : nsIn (Mine.hd.heap_1 w.params) mainGlobals fx = some (some (.ref 497))) (hk : keepIn (Mine.hd.heap_1 w.params) (.ref 497) = true) (hd : 10 ≤ d) (hu : 80 ≤ u)
    (k : ∀ r t so' n2 h2 t2, SubX src n n2 → (src, so') ∈ n2 → SrcOk so' → 0 ≤ r → r < top → Fr c.g c.L h2 m' → News c.g c.L h2 n2 → Q (.int r t) { s with heap := h2, toks := t2 })
    (hcl : cl.lookup o = some cS) (hkf : (compEnvC scope cl C (c.env sc)).scope.kind = .function) (hx : (compEnvC scope cl C (c.env sc)).kindOf fx = some .globalImplicit) (hxo : (compEnvC scope cl C (c.env sc)).kindOf o = some .free ∨ (compEnvC scope cl C (c.env sc)).kindOf o = some .cell) (hg : (fx == Str.ofString "__debug__") = false) (hgo : (o == Str.ofString "__debug__") = false) (hgc : (o == Str.ofString "__classdict__") = false)
    (e1 : ∀ env, eval ((Expr.Name fx q1).Call [.Name o q2, .Constant (.int top) k1 q3] [] q4) env = (do let v ← eval (Expr.Name fx q1) env; callWith q4 v [] (backTo q4 (starEach [.Name o q2, .Constant (.int top) k1 q3] env)) (backToKw q4 (keywordEach [] env)))) :
    wpAny (model PG w) (c.A sc) (eval (.Call (.Name fx q1) [.Name o q2, .Constant (.int top) k1 q3] [] q4) (compEnvC scope cl C (c.env sc))) Q E s := by
  refine Call_ (LCgL.ld_global F hc.X hc.T hf ?_ rfl hkf hx hg) (e1 _)
  refine callWith_K hc.X hk ?_ rfl rfl
  have free : ∀ (Q' : Value → Shared → Prop) (E9 : Value → Shared → Prop), Q' (.ref src) s → wpAny (model PG w) (c.A sc) (eval (.Name o q2) (compEnvC scope cl C (c.env sc))) Q' E9 s := fun Q' E9 h9 =>
    hxo.elim (fun hxo => lcf_free N hcl hS dS h9 hkf hxo hgo hgc) fun hxo => lcf_cell N hcl hS dS h9 hkf hxo hgo
  refine args_cons (free _ _ ?_) rfl
  refine args_cons (wpAny_Constant_int (args_nil ⟨hc.X.keeps F.keep, ?_⟩)) rfl
  refine cl_use (take_k (R := fun pv n2 => ∃ r so', pv = .int r ∧ SubX src n n2 ∧ (src, so') ∈ n2 ∧ SrcOk so' ∧ 0 ≤ r ∧ r < top) hsrc hs ht ht2 (fun r so' n2 a1 a2 a3 a4 a5 => ⟨r, so', rfl, a1, a2, a3, a4, a5⟩) [.ref src, .int top _] (show All2 PvIs [Value.ref src, Value.int top _] [PV.ref src, PV.int top] from ⟨rfl, rfl, trivial⟩)) (s := { s with toks := s.toks + 1 }) hc.B F hc.X N hc.T hc.hk (Nat.lt_of_le_of_lt (Nat.add_le_add_left hd _) hc.hd) (Nat.lt_of_le_of_lt (Nat.add_le_add_left hu _) hc.hu) fun v nw h2 t2 r9 F2 N2 => ?_
  obtain ⟨pv, i2, r, so', e2, a1, a2, a3, a4, a5⟩ := r9
  subst e2
  obtain ⟨t, rfl⟩ := i2.int
  exact k r t so' nw h2 t2 a1 a2 a3 a4 a5 F2 N2
theorem Ex1.cellComp {x y o fx fr : Str} {py spos : Pos} {qa qb q1 q2 q3 q4 qc qd r1 r2 r3 r4 pt px pr pk pc pos : Pos} {ka kb k1 k2 kk kr : Nat} {scope : Scope} {cl : List (Str × Addr)} {cS src : Addr} {oS so : Obj} (hS : (cS, oS) ∈ n) (dS : oS.data = .cell (some (.ref src))) (hsrc : (src, so) ∈ n) (hs : SrcOk so) (hne : @Ne Nat cS src)
    (h : ∀ D C0 C1 c0 c1 e0 e1 so' g n', SubX src n n' → (src, so') ∈ n' → SrcOk so' → (∀ p ∈ g, p ∈ n' ∧ @Ne Nat p.1 src) → LstAt g D [.ref C0, .ref C1] → TupAt g C0 [.int c0, .int c1] → TupAt g C1 [.int e0, .int e1] → 1 ≤ c0 ∧ c0 ≤ 6 ∧ 1 ≤ c1 ∧ c1 ≤ 3 ∧ 1 ≤ e0 ∧ e0 ≤ 6 ∧ 1 ≤ e1 ∧ e1 ≤ 3 → S .next ((y, .ref D) :: m) n')
    (hf : nsIn (Mine.hd.heap_1 w.params) mainGlobals fx = some (some (.ref 497))) (hk : keepIn (Mine.hd.heap_1 w.params) (.ref 497) = true) (hd : 10 ≤ d) (hu : 80 ≤ u) (g1 : nsIn (Mine.hd.heap_1 w.params) mainGlobals fr = some Option.none) (g2 : bootBuiltins fr = some (.type "range")) (g3 : fr ≠ Str.ofString "__name__")
    (hclos : autoParam (∀ c : Fc w, closureFor scope (c.env sc) = pure cl) aY) (hcl : autoParam (cl.lookup o = some cS) aW) (hcell : autoParam (∀ y ∈ scope.names, y.2 ≠ .cell) aD) (hkind : autoParam (scope.kind = .function) aW)
    (hnames : autoParam (∀ y ∈ scope.names, y.2 = .local → scope.names.lookup y.1 = some .local) aD) (hx : autoParam (scope.names.lookup x = some .local) aW)
    (hkf : autoParam (∀ (c : Fc w) (C : Addr), (compEnvC scope cl C (c.env sc)).kindOf fx = some .globalImplicit) aZ) (hko : ∀ (c : Fc w) (C : Addr), (compEnvC scope cl C (c.env sc)).kindOf o = some .free ∨ (compEnvC scope cl C (c.env sc)).kindOf o = some .cell := by intro _ _; first | exact .inr (by k_extra "w") | exact .inl (by k_extra "w"))
    (hkr : autoParam (∀ c : Fc w, (c.env sc).kindOf fr = some .globalImplicit) aY) (b1 : autoParam ((fx == Str.ofString "__debug__") = false) aW) (b2 : autoParam ((o == Str.ofString "__debug__") = false) aW) (b3 : autoParam ((o == Str.ofString "__classdict__") = false) aW) (b4 : autoParam ((fr == Str.ofString "__debug__") = false) aW)
    (e1 : autoParam (∀ env, eval ((Expr.Name fx q1).Call [.Name o q2, .Constant (.int 6) k1 q3] [] q4) env = (do let v ← eval (Expr.Name fx q1) env; callWith q4 v [] (backTo q4 (starEach [.Name o q2, .Constant (.int 6) k1 q3] env)) (backToKw q4 (keywordEach [] env)))) aY)
    (e2 : autoParam (∀ env, eval ((Expr.Name fx r1).Call [.Name o r2, .Constant (.int 3) k2 r3] [] r4) env = (do let v ← eval (Expr.Name fx r1) env; callWith r4 v [] (backTo r4 (starEach [.Name o r2, .Constant (.int 3) k2 r3] env)) (backToKw r4 (keywordEach [] env)))) aY)
    (e3 : autoParam (∀ env, eval ((Expr.Name fr pr).Call [.Constant (.int 2) kr pk] [] pc) env = (do let v ← eval (Expr.Name fr pr) env; callWith pc v [] (backTo pc (starEach [.Constant (.int 2) kr pk] env)) (backToKw pc (keywordEach [] env)))) aY)
    (hs0 : autoParam (∀ env v, foldedSetIterable (.Call (.Name fr pr) [.Constant (.int 2) kr pk] [] pc) env v = pure v) aZ)
    (hy : autoParam (∀ c : Fc w, (c.env sc).kindOf y = some .local) aY) (hsw : autoParam (∀ c : Fc w, swapsWith (.ListComp (.Tuple [.BinOp (.Constant (.int 1) ka qa) .Add (.Call (.Name fx q1) [.Name o q2, .Constant (.int 6) k1 q3] [] q4) qc, .BinOp (.Constant (.int 1) kb qb) .Add (.Call (.Name fx r1) [.Name o r2, .Constant (.int 3) k2 r3] [] r4) qd] kk pt) [⟨.Name x px, .Call (.Name fr pr) [.Constant (.int 2) kr pk] [] pc, [], 0⟩] scope pos) (some (.Name y py)) spos.line (c.env sc) = pure true) aY) :
    Ex1 sc d u w m n (.Assign [.Name y py] (.ListComp (.Tuple [.BinOp (.Constant (.int 1) ka qa) .Add (.Call (.Name fx q1) [.Name o q2, .Constant (.int 6) k1 q3] [] q4) qc, .BinOp (.Constant (.int 1) kb qb) .Add (.Call (.Name fx r1) [.Name o r2, .Constant (.int 3) k2 r3] [] r4) qd] kk pt) [⟨.Name x px, .Call (.Name fr pr) [.Constant (.int 2) kr pk] [] pc, [], 0⟩] scope pos) spos) S := by
  refine ExT.noE fun c hc s Q A q => ?_
  k_extra "oa"
  refine LCg.Assign_ListComp_U (L := c.L) F rfl (hsw c) (hclos c) hcell hkind hnames hx (hy c) (by show (sc.s.kind == ScopeKind.class || sc.s.kind == ScopeKind.module && _) = false; rw [hc.hk]; rfl) ?_ (hs0 _)
  refine Call_ (nameX_B F hc.X (topRead_of hc.T) g1 g2 g3 ?_ hc.hk (hkr c) b4) (e3 _)
  refine PyProof.Rows.callWith_type1 ?_ rfl rfl
  refine args_cons (wpAny_Constant_int (args_nil ?_)) rfl
  refine range1_rows (s := { s with toks := s.toks + 1 }) F N fun h2 tk2 t₁ u₁ v₁ hr F2 N2 _ => ?_
  refine LCg.CompSrc.range (s₁ := { s with heap := h2, toks := tk2 }) (n := 2) rfl F2 N2 hr (by decide) (by rw [rangeSize_nat]; rfl) (by rw [sizeLine_eq]; decide) fun gg => ?_
  -- one turn
  have turn : ∀ (k i : Nat) (ys : List Value) (n1 : Led) (so1 : Obj) (Fin : List Value → Led → Prop), SubX src n n1 → (src, so1) ∈ n1 → SrcOk so1 →
      (∀ T c0 c1 so2 tt n2, SubX src n1 n2 → (src, so2) ∈ n2 → SrcOk so2 → New n1 T → (T, tt) ∈ n2 → (∀ g, (T, tt) ∈ g → TupAt g T [.int c0, .int c1]) → 1 ≤ c0 ∧ c0 ≤ 6 ∧ 1 ≤ c1 ∧ c1 ≤ 3 → LCg.CompRest PG w (c.A sc) c.g c.L m' (c.env sc) (.Tuple [.BinOp (.Constant (.int 1) ka qa) .Add (.Call (.Name fx q1) [.Name o q2, .Constant (.int 6) k1 q3] [] q4) qc, .BinOp (.Constant (.int 1) kb qb) .Add (.Call (.Name fx r1) [.Name o r2, .Constant (.int 3) k2 r3] [] r4) qd] kk pt) x scope cl { s with heap := gg, toks := tk2 } (fun _ => True) (fun i v => ∃ t, v = .int (0 + (i : Int)) t) Fin k (i + 1) (ys ++ [.ref T]) n2) →
      LCg.CompRest PG w (c.A sc) c.g c.L m' (c.env sc) (.Tuple [.BinOp (.Constant (.int 1) ka qa) .Add (.Call (.Name fx q1) [.Name o q2, .Constant (.int 6) k1 q3] [] q4) qc, .BinOp (.Constant (.int 1) kb qb) .Add (.Call (.Name fx r1) [.Name o r2, .Constant (.int 3) k2 r3] [] r4) qd] kk pt) x scope cl { s with heap := gg, toks := tk2 } (fun _ => True) (fun i v => ∃ t, v = .int (0 + (i : Int)) t) Fin (k + 1) i ys n1 := by
    intro k i ys n1 so1 Fin hsub hsrc1 hs1 next v I oI C oC D m₂ h5 tk5 E' _ hC hxv F5 N5 off ne
    have hoff : ∀ p ∈ n1, p.1 ≠ I ∧ p.1 ≠ C ∧ p.1 ≠ D := fun p hp => off.mem p hp
    have nI := (hoff _ hsrc1).1
    have nC := (hoff _ hsrc1).2.1
    have nD := (hoff _ hsrc1).2.2
    refine Tuple_ (args_cons (wpAny_BinOp (wpAny_Constant_int ?_)) rfl)
    refine take_in (s := { s with heap := h5, toks := _ }) hc F5 N5 (.tail _ (.tail _ (.tail _ (hsub _ hS hne)))) dS (.tail _ (.tail _ (.tail _ hsrc1))) hs1 (by decide) (by decide) hf hk hd hu (fun ra ta so2 n2 h6 t6 sx2 hsrc2 hs2 a0 a1 F6 N6 => ?_) hcl hkind (hkf c C) (hko c C) b1 b2 b3 e1
    refine add_int ?_
    refine args_cons (wpAny_BinOp (wpAny_Constant_int ?_)) rfl
    have hS2 : (cS, oS) ∈ n2 := sx2 _ (.tail _ (.tail _ (.tail _ (hsub _ hS hne)))) hne
    refine take_in (s := { s with heap := h6, toks := _ }) hc F6 N6 hS2 dS hsrc2 hs2 (by decide) (by decide) hf hk hd hu (fun rb tb so3 n3 h7 t7 sx3 hsrc3 hs3 b0 b1' F7 N7 => ?_) hcl hkind (hkf c C) (hko c C) b1 b2 b3 e2
    refine add_int (args_nil ?_)
    refine kup_newTuple (s := { s with heap := h7, toks := _ }) F7 N7 (fun T h8 F8 N8 hlt => ?_) (by with_unfolding_all exact Nat.le_of_ble_eq_true rfl)
    have keep : ∀ p, p ∈ (I, oI) :: (C, oC) :: (D, LCg.lst ys) :: n1 → @Ne Nat p.1 src → p ∈ n3 := fun p hp hne => sx3 p (sx2 p hp hne) hne
    have lt : ∀ p ∈ n3, @LT.lt Nat _ p.1 T := hlt
    refine LCg.CompEnd.intro F8 N8 ((T, tup [.int (1 + ra) t6, .int (1 + rb) t7] 0) :: n3.filter fun p => decide (p.1 ≠ I ∧ p.1 ≠ C ∧ p.1 ≠ D)) (fun p hp => ?_) (.of fun p hp => ?_) trivial ?_
    · k_extra "rm"
      · exact .tail _ (keep _ (.head _) (Ne.symm nI))
      k_extra "rm"
      · exact .tail _ (keep _ (.tail _ (.head _)) (Ne.symm nC))
      k_extra "rm"
      · exact .tail _ (keep _ (.tail _ (.tail _ (.head _))) (Ne.symm nD))
      k_extra "rm"
      · exact .head _
      · exact .tail _ (List.mem_filter.mp hp).1
    · k_extra "rm"
      · exact ⟨Nat.ne_of_gt (lt _ (keep _ (.head _) (Ne.symm nI))), Nat.ne_of_gt (lt _ (keep _ (.tail _ (.head _)) (Ne.symm nC))), Nat.ne_of_gt (lt _ (keep _ (.tail _ (.tail _ (.head _))) (Ne.symm nD)))⟩
      · exact of_decide_eq_true (List.mem_filter.mp hp).2
    · refine next T (1 + ra) (1 + rb) so3 _ _ (fun p hp hne => .tail _ (List.mem_filter.mpr ⟨keep p (.tail _ (.tail _ (.tail _ hp))) hne, decide_eq_true (hoff p hp)⟩)) (.tail _ (List.mem_filter.mpr ⟨hsrc3, decide_eq_true ⟨nI, nC, nD⟩⟩)) hs3 (fun p hp => ?_) (.head _) (fun g hg => ⟨_, 0, hg, rfl, rfl, trivial⟩) (by omega)
      by_cases e : p.1 = src
      · rw [e]; exact Nat.ne_of_lt (lt _ hsrc3)
      · exact Nat.ne_of_lt (lt _ (keep p (.tail _ (.tail _ (.tail _ hp))) e))
  refine turn 1 0 [] n so _ (fun _ hp _ => hp) hsrc hs fun T0 c0 c1 so1 tt0 n1 sx1 hsrc1 hs1 w1 ht1 k1 a1 => ?_
  refine turn 0 1 [.ref T0] n1 so1 _ sx1 hsrc1 hs1 fun T1 e0 e1 so2 tt1 n2 sx2 hsrc2 hs2 w2 ht2 k2 a2 => ?_
  intro D9 h9 t9 F9 N9 off
  have ne0 : @Ne Nat T0 src := fun e => w1 _ hsrc e.symm
  have ne1 : @Ne Nat T1 src := fun e => w2 _ hsrc1 e.symm
  have neD : @Ne Nat D9 src := fun e => (off1_mem off _ hsrc2) e.symm
  have t02 : (T0, tt0) ∈ n2 := sx2 _ ht1 ne0
  refine q .next .next _ _ h9 t9 trivial (h D9 T0 T1 c0 c1 e0 e1 so2 [(D9, LCg.lst [.ref T0, .ref T1]), (T0, tt0), (T1, tt1)] _ (fun p hp hne => .tail _ (sx2 p (sx1 p hp hne) hne)) (.tail _ hsrc2) hs2 (fun p hp => ?_) ⟨_, _, .head _, rfl, rfl, trivial⟩ (k1 _ (.tail _ (.head _))) (k2 _ (.tail _ (.tail _ (.head _)))) ⟨a1.1, a1.2.1, a1.2.2.1, a1.2.2.2, a2⟩) ⟨_, nmsIs_cons (v := .ref D9) (pv := .ref D9) hm' rfl, F9, N9⟩
  simp only [List.mem_cons, List.not_mem_nil, or_false] at hp
  rcases hp with rfl | rfl | rfl
  · exact ⟨.head _, neD⟩
  · exact ⟨.tail _ t02, ne0⟩
  · exact ⟨.tail _ ht2, ne1⟩
end
theorem str_eq_declines_plain (b : Str) (u : Tok) (l : Addr) (c : Value) (dd : Option Addr) (sl : Array (Option Value)) :
    Meets (Builtin.«str.__eq__» ⟨[.str b u, .ref l], []⟩) (fun _ R s => s.heap.get? l = some { cls := c, dict := dd, data := .plain, slots := sl } ∧ R (.ok (.ret .notImplemented)) s) :=
  .of_wp fun prog w A R s h => by obtain ⟨hp, g, d, tk, os⟩ := s; obtain ⟨hl, h⟩ := h; wp_walk using wpAny_loadPart' hl, wpAny_load hl; exact ⟨_, rfl, h⟩
section
variable {prog : Program} {w : World} {A : Around} {E : Value → Shared → Prop} {s : Shared} {K : Frag} {x C L dx : Addr} {h₀ : Heap} {m : Str → Option Value} {od : Option Obj} {sl : Array (Option Value)}
theorem ifBound_B {M : Model} {name : Str} {id : String} {args : List Value} {Q : Option Value → Shared → Prop} (X : K.In s.heap) {ox : Obj} (I : PySem.W.InstAt s.heap x ox C od) (hs : findIn K (.ref C) name = some (some (.builtin id))) (S : Slot "object" name id)
    (h : wpAny M A (call (.builtin id) (.ref x :: args)) (fun v => Q (some v)) E s) : wpAny M A (callSpecialIfBound? (.ref x) name args) Q E s := by
  have b := S.bind (.ref x)
  have go : ∀ Q' : Value → Shared → Prop, (∀ v s', Q (some v) s' → Q' v s') → wpAny M A (call (.builtin id) ([.ref x] ++ args)) Q' E s := fun _ k => wpAny_mono h k fun _ _ z => z
  clear h
  unfold callSpecialIfBound? bindSpecialIfBound?
  wp_walk using I.type.here, (looks_findIn X hs).here, wpAny_askSetting
  by_cases c : (Setting.mk M.prog M.w.params).params.followText "special-get-raises" = true
  · rw [if_pos c]
    wp_walk using wpAny_of_eq b, go
    exact fun _ _ z => wpAny_pure z
  · rw [if_neg c]
    refine wpAny_tryCatch ?_
    wp_walk using wpAny_of_eq b, go
    exact fun _ _ z => wpAny_pure z
theorem inst_eq_str {b : Str} {u : Tok} {Q : Value → Shared → Prop} (hu : A.units < cLine) (F : Fr h₀ L s.heap m) (X₀ : K.In h₀) (I : PySem.W.InstAt s.heap x ⟨.ref C, some dx, .plain, sl⟩ C od) (hs : findIn K (.ref C) (Str.ofString "__eq__") = some (some (.builtin "object.__eq__")))
    (h1 : subIn K (.ref C) (.type "object") = some true) (h2 : subIn K (.type "str") (.ref C) = some false) (q : Q (.bool false) s) : wpAny (model prog w) A (compareOp .Eq (.ref x) (.str b u)) Q E s := by
  have X := X₀.keeps F.keep
  have left : ∀ R : Option Value → Shared → Prop, R none s → wpAny (model prog w) A (tryCompare (.ref x) (Str.ofString "__eq__") (.str b u)) R E s := by
    intro R hR
    unfold tryCompare
    with_reducible refine wpAny_bind ?_
    with_reducible refine ifBound_B X I hs PySem.F.cmp_object.eq ?_
    with_reducible refine wpAny_call ?_
    with_reducible refine codeAny_call_builtin PySem.F.cmp_object.eq.plain PySem.F.cmpEntry_eq ?_
    with_reducible refine check_slot PySem.F.cmpKind_eq PySem.F.cmpSplit_eq ?_ (PySem.F.cmpArgs_eq _ _) ?_
    · exact I.type.andThen (looks_subIn X h1)
    unfold Builtin.«object.__eq__»
    exact wpAny_pure (wpAny_pure hR)
  have right : ∀ R : Option Value → Shared → Prop, R none s → wpAny (model prog w) A (tryCompare (.str b u) (Str.ofString "__eq__") (.ref x)) R E s := by
    intro R hR
    have sl : Slot "str" (Str.ofString "__eq__") "str.__eq__" := PySem.F.slot_str_eq_refl
    with_reducible refine wpAny_tryCompare_declines (typeIs_str s b u) sl ?_
    exact call_meets PySem.F.slot_str_eq_refl (typeIs_str s b u) PySem.F.entry_str_eq (PySem.F.args_str_eq_2 _ _) (str_eq_declines_plain b u x _ _ _) ⟨I.at_, ⟨rfl, hR⟩⟩
  refine cmp_ofEq ?_
  unfold richCompare
  simp only [oneThing_ref]
  refine wpAny_holding (wpAny_bind (wpAny_cRoomFor hu ?_))
  refine wpAny_bind (I.type.here (wpAny_bind ?_))
  refine wpAny_typeOf (typeIs_str s b u) ?_
  split
  · refine wpAny_bind ((looks_subIn X h2).here ?_)
    simp only [Bool.false_eq_true, if_false, Bool.not_false, if_true]
    refine wpAny_bind (m := tryCompare (.ref x) (Str.ofString "__eq__") (.str b u)) ?_
    with_reducible refine left _ ?_
    refine wpAny_bind (m := tryCompare (.str b u) (Str.ofString "__eq__") (.ref x)) ?_
    with_reducible refine right _ ?_
    exact wpAny_bind (wpAny_rule (wpAny_bind (wpAny_pure (wpAny_pure q))))
  · rename_i e
    exact (e (by simp)).elim
end
section
variable {sc : Sc} {d u : Nat} {w : World} {m : Nms} {n n0 : Led} {R : PV → Led → Prop} {S : PF → Nms → Led → Prop}
theorem Op.eqIS {x C dx : Addr} {b : Str} {sl : Array (Option Value)} {od : Obj} (hx : (x, (⟨.ref C, some dx, .plain, sl⟩ : Obj)) ∈ n) (hdx : (dx, od) ∈ n) (hs : findIn (Mine.hd.heap_1 w.params) (.ref C) (Str.ofString "__eq__") = some (some (.builtin "object.__eq__")))
    (h1 : subIn (Mine.hd.heap_1 w.params) (.ref C) (.type "object") = some true) (h2 : subIn (Mine.hd.heap_1 w.params) (.type "str") (.ref C) = some false) (h : R (.bool false) n) : Op sc d u w m n [.ref x, .str b] (cmT .Eq) R := by
  intro vs hv c hc s Q E A q
  k_extra "v"
  obtain rfl := i1.ref
  obtain ⟨t2, rfl⟩ := i2.str
  k_extra "oa"
  exact inst_eq_str hc.units F hc.X (PySem.W.InstAt.of_news N hx hdx) hs h1 h2 (q _ (.bool false) n s.heap s.toks rfl h ⟨m', hm', F, N⟩)
theorem Op.eqLS {D : Addr} {b : Str} {pvs : List PV} (hD : LstAt n D pvs) (h : R (.bool false) n) : Op sc d u w m n [.ref D, .str b] (cmT .Eq) R := by
  intro vs hv c hc s Q E A q
  k_extra "v"
  obtain rfl := i1.ref
  obtain ⟨t2, rfl⟩ := i2.str
  k_extra "oa"
  obtain ⟨ys, k, hm, ha⟩ := hD
  exact SeqAt.RcAt.list_str b t2 ⟨_, (N _ hm).1, rfl, _, rfl⟩ hc.units PG w E Q (q _ (.bool false) n s.heap s.toks rfl h ⟨m', hm', F, N⟩)
inductive Cross (w : World) (n : Led) (A B : Addr) : Prop
  | mk (a0 : _) (a1 : _) (b0 : _) (b1 : _) (f0 : T2 w n A a0 a1) (f1 : T2 w n B b0 b1) (f2 : a0 * b1 = b0 * a1) (f3 : Sm a0) (f4 : Sm b0) : Cross w n A B
theorem R2.cross {A B : Addr} {q : Rat} (h1 : R2 w n A q) (h2 : R2 w n B q) : Cross w n A B := by
  obtain ⟨a0, a1, t1, p1, e1, s1, _⟩ := h1
  obtain ⟨b0, b1, t2, p2, e2, s2, _⟩ := h2
  refine ⟨a0, a1, b0, b1, t1, t2, ?_, s1, s2⟩
  have := (rv_eq p1 p2).mp (e1.trans e2.symm)
  exact this
inductive KZip (w : World) (R : PV → Led → Prop) (pvs : List PV) (n1 : Led) : Prop
  | mk (l1 : _) (l2 : _) (As : _) (Bs : _) (f0 : pvs = [.ref l1, .ref l2]) (f1 : TupAt n1 l1 (As.map PV.ref)) (f2 : LstAt n1 l2 (Bs.map PV.ref)) (f3 : As.length ≤ 100) (f4 : All2 (Cross w n1) As Bs) (f5 : ∀ D n2, Sub n1 n2 → LstAt n2 D [] → R (.ref D) n2) : KZip w R pvs n1
theorem refs_all : ∀ {As : List Addr} {vs : List Value}, All2 PvIs vs (As.map PV.ref) → vs = As.map Value.ref
  | [], [], _ => rfl
  | _ :: _, _ :: _, h => by rw [List.map_cons, h.1.ref, refs_all h.2]
  | [], _ :: _, h => h.elim
  | _ :: _, [], h => h.elim
theorem Ev.zipComp {x y fz : Str} {q0 q1 q2 q3 q4 a1 a2 a3 a4 a5 a6 b1 b2 b3 b4 b5 b6 ab ac ad pz pos : Pos} {kn k1 k2 k3 k4 : Nat} {scope : Scope} {e : Expr} {es : List Expr} (h : Evs sc d u w m n pz (e :: es) (KZip w R))
    (g1 : nsIn (Mine.hd.heap_1 w.params) mainGlobals fz = some Option.none) (g2 : bootBuiltins fz = some (.type "zip")) (g3 : fz ≠ Str.ofString "__name__")
    (hclos : autoParam (∀ c : Fc w, closureFor scope (c.env sc) = pure []) aY) (hcell : autoParam (∀ y ∈ scope.names, y.2 ≠ .cell) aD) (hkind : autoParam (scope.kind = .function) aW)
    (hnames : autoParam (∀ y ∈ scope.names, y.2 = .local → scope.names.lookup y.1 = some .local) aD) (hx : autoParam (scope.names.lookup x = some .local) aW) (hy : autoParam (scope.names.lookup y = some .local) aW) (hxy : autoParam (¬ x = y) aD)
    (hkx : autoParam (∀ (c : Fc w) (C : Addr), (compEnvC scope [] C (c.env sc)).kindOf x = some .local) aZ) (hdx : autoParam ((x == Str.ofString "__debug__") = false) aW)
    (hky : autoParam (∀ (c : Fc w) (C : Addr), (compEnvC scope [] C (c.env sc)).kindOf y = some .local) aZ) (hdy : autoParam ((y == Str.ofString "__debug__") = false) aW)
    (hkz : autoParam (∀ c : Fc w, (c.env sc).kindOf fz = some .globalImplicit) aY) (hdz : autoParam ((fz == Str.ofString "__debug__") = false) aW)
    (e1 : autoParam (CallEq fz q4 pz e es) aY)
    (e2 : autoParam (StarEq e es) aY) (e3 : autoParam (NoStar pz es) aY)
    (hs : autoParam (∀ env v, foldedSetIterable (.Call (.Name fz q4) (e :: es) [] pz) env v = pure v) aZ) :
    Ev sc d u w m n (.ListComp (.Name x q0) [⟨.Tuple [.Name x q1, .Name y q2] kn q3, .Call (.Name fz q4) (e :: es) [] pz, [.Compare (.BinOp (.Subscript (.Name x a1) (.Constant (.int 0) k1 a2) a3) .Mult (.Subscript (.Name y a4) (.Constant (.int 1) k2 a5) a6) ab) [.NotEq] [.BinOp (.Subscript (.Name y b1) (.Constant (.int 0) k3 b2) b3) .Mult (.Subscript (.Name x b4) (.Constant (.int 1) k4 b5) b6) ac] ad], 0⟩] scope pos) R := by
  intro c hc s Q E A q
  have A0 := A
  obtain ⟨m0, hm0, F0, N0⟩ := A0
  refine pt_ListCompE (h₀ := c.g) (L := c.L) (hclos c) hcell hkind hnames hx hy hxy ?_ (hs _)
  refine Call_ (nameX_B F0 hc.X (topRead_of hc.T) g1 g2 g3 ?_ hc.hk (hkz c) hdz) (e1 _)
  refine PyProof.Rows.callWith_type1 (h c hc s _ E A fun vs pvs n1 h1 t1 i1 r1 A1 => ?_) (e2 _) (e3 _)
  obtain ⟨l1, l2, As, Bs, rfl, ⟨ws1, c1, m1, ha1⟩, ⟨ws2, c2, m2, ha2⟩, hlen, hcr, k⟩ := r1
  obtain ⟨v1, v2, rfl, j1, j2⟩ := all2_2 i1
  obtain rfl := j1.ref
  obtain rfl := j2.ref
  obtain rfl := refs_all ha1
  obtain rfl := refs_all ha2
  obtain ⟨m', hm', F, N⟩ := A1
  refine wpAny_mono (zip_it (s := { s with heap := h1, toks := t1 }) (Fin := fun s₂ => LCg.FinE c.g c.L m' s₂ Q) rfl F N m1 m2 (by rw [List.length_map, List.length_map, hcr.len]) (by rw [List.length_map]; omega) (Inv := fun _ ys n' => ys = [] ∧ Sub n1 n') ⟨rfl, Sub.refl _⟩ (fun ws h2 t2 => ?_) ?_) (fun _ _ x => wpAny_mono x (fun _ _ y => ⟨m', y⟩) fun _ _ e => e) fun _ _ e => e
  · rintro i p ys news hp ⟨rfl, hsub⟩ its C oC D2 m₂ h5 tk5 E' hits hC hxv hyv F5 N5 off ne hap
    obtain ⟨A9, B9, rfl, hAB⟩ : ∃ A9 B9, p = (.ref A9, .ref B9) ∧ Cross w n1 A9 B9 := by
      rw [List.getElem?_zip_eq_some] at hp
      obtain ⟨p1, p2⟩ := hp
      rw [List.getElem?_map] at p1 p2
      obtain ⟨A9, hA, eA⟩ := Option.map_eq_some_iff.mp p1
      obtain ⟨B9, hB, eB⟩ := Option.map_eq_some_iff.mp p2
      obtain ⟨B8, hB8, cr⟩ := hcr.get hA
      rw [hB] at hB8
      obtain rfl := Option.some.inj hB8
      exact ⟨A9, B9, Prod.ext eA.symm eB.symm, cr⟩
    obtain ⟨x0, x1, y0, y1, tA, tB, hcross, sm1, sm2⟩ := hAB
    have nmx : ∀ (q : Pos) (Q' : Value → Shared → Prop) (E9 : Value → Shared → Prop) (t9 : Nat), Q' (.ref A9) { s with heap := h5, toks := t9 } → wpAny (model PG w) (c.A sc) (eval (.Name x q) (compEnvC scope [] C (c.env sc))) Q' E9 { s with heap := h5, toks := t9 } := fun q Q' E9 t9 h9 =>
      LCgL.ld_own (s := { s with heap := h5, toks := t9 }) N5 (.head _) hC hxv h9 hkind (hkx c C) hdx
    have nmy : ∀ (q : Pos) (Q' : Value → Shared → Prop) (E9 : Value → Shared → Prop) (t9 : Nat), Q' (.ref B9) { s with heap := h5, toks := t9 } → wpAny (model PG w) (c.A sc) (eval (.Name y q) (compEnvC scope [] C (c.env sc))) Q' E9 { s with heap := h5, toks := t9 } := fun q Q' E9 t9 h9 =>
      LCgL.ld_own (s := { s with heap := h5, toks := t9 }) N5 (.head _) hC hyv h9 hkind (hky c C) hdy
    have sb : ∀ p ∈ n1, p ∈ (C, oC) :: (D2, LCg.lst ([] : List Value)) :: (its ++ news) := fun p hp => .tail _ (.tail _ (List.mem_append_right _ (hsub p hp)))
    refine wpAny_isTrue_Compare1 (wpAny_BinOp (Subscript_ (nmx _ _ _ _ (wpAny_Constant_int (item0 tA F5 hc.X N5 sb fun t8 => ?_))))) rfl
    refine Subscript_ (nmy _ _ _ _ (wpAny_Constant_int (item1 tB F5 hc.X N5 sb fun t7 => ?_)))
    refine mul_int ?_ (mulok_sm sm1)
    refine wpAny_BinOp (Subscript_ (nmy _ _ _ _ (wpAny_Constant_int (item0 tB F5 hc.X N5 sb fun t6 => ?_))))
    refine Subscript_ (nmx _ _ _ _ (wpAny_Constant_int (item1 tA F5 hc.X N5 sb fun t5 => ?_)))
    refine mul_int ?_ (mulok_sm sm2)
    refine PyProof.Rows.ne_int (wpAny_truthy_bool ?_)
    rw [if_neg (by rw [hcross]; simp)]
    refine ⟨h5, _, news, rfl, F5, N5, off, fun p hp => ?_, rfl, hsub⟩
    simp only [List.mem_cons, List.not_mem_nil, or_false] at hp
    rcases hp with rfl | rfl
    · exact hsub _ m1
    · exact hsub _ m2
  · rintro h2 t2 ys news ⟨rfl, hsub⟩ D9 h9 t9 F9 N9 off
    exact q (.ref D9) (.ref D9) _ h9 t9 rfl (k D9 _ (fun p hp => .tail _ (hsub p hp)) ⟨[], _, .head _, trivial⟩) ⟨m', hm', F9, N9⟩
end
theorem LstAt.nc {n : Led} {D : Addr} {pvs : List PV} (h : LstAt n D pvs) : LstAt (ncL n) D pvs := by
  obtain ⟨vs, c, h1, h2⟩ := h
  exact ⟨vs, c, nc_mem h1 rfl, h2⟩
theorem T2.nc {w : World} {n : Led} {A : Addr} {x y : Int} (h : T2 w n A x y) : T2 w (ncL n) A x y := by
  obtain ⟨t, u, c, h1⟩ := h
  exact ⟨t, u, c, h1.imp (fun h => nc_mem h rfl) id⟩
theorem R2.nc {w : World} {n : Led} {A : Addr} {q : Rat} (h : R2 w n A q) : R2 w (ncL n) A q := by
  obtain ⟨x, y, h1, h2, h3, h4, h5⟩ := h
  exact ⟨x, y, h1.nc, h2, h3, h4, h5⟩
theorem FourAt.nc {w : World} {n : Led} {cls C A1 A2 A3 A4 : Addr} (h : FourAt w n cls C A1 A2 A3 A4) : FourAt w (ncL n) cls C A1 A2 A3 A4 := by
  obtain ⟨d, t1, t2, t3, t4, h1, h2⟩ := h
  exact ⟨d, t1, t2, t3, t4, nc_mem h1 rfl, nc_mem h2 rfl⟩
theorem DueQ.nc {w : World} {n : Led} {D : Addr} {q1 q2 q3 q4 q5 q6 : Rat} (h : DueQ w n D q1 q2 q3 q4 q5 q6) : DueQ w (ncL n) D q1 q2 q3 q4 q5 q6 := by
  obtain ⟨A1, A2, A3, A4, A5, A6, h0, h1, h2, h3, h4, h5, h6⟩ := h
  exact ⟨A1, A2, A3, A4, A5, A6, h0.nc, h1.nc, h2.nc, h3.nc, h4.nc, h5.nc, h6.nc⟩
theorem DueQ.sub {w : World} {n n' : Led} {D : Addr} {q1 q2 q3 q4 q5 q6 : Rat} (h : DueQ w n D q1 q2 q3 q4 q5 q6) (s : Sub n n') : DueQ w n' D q1 q2 q3 q4 q5 q6 := by
  obtain ⟨A1, A2, A3, A4, A5, A6, h0, h1, h2, h3, h4, h5, h6⟩ := h
  exact ⟨A1, A2, A3, A4, A5, A6, h0.sub s, h1.sub s, h2.sub s, h3.sub s, h4.sub s, h5.sub s, h6.sub s⟩
theorem EltAt.nc {w : World} {n : Led} {E : Addr} {kvs : List (Str × Value)} (h : EltAt w n E kvs) : EltAt w (ncL n) E kvs := by
  obtain ⟨dE, nm, ch, tn, t1, t2, t3, t4, te, at_, od, h1, h2, h3, h4, h5⟩ := h
  exact ⟨dE, nm, ch, tn, t1, t2, t3, t4, te, at_, od, nc_mem h1 rfl, nc_mem h2 rfl, h3, nc_mem h4 (by obtain ⟨es, ep, _, hd, _⟩ := h5; simp only [noCell, hd]), h5⟩
theorem Tells.nc {w : World} {n : Led} {D : Addr} {k : Str} {o : Option Str} (h : Tells w n D k o) : Tells w (ncL n) D k o := by
  obtain ⟨es, h1, h2, h3⟩ := h
  exact ⟨es, h1.nc, fun e he => ⟨(h2 e he).1.nc, (h2 e he).2⟩, h3⟩
theorem lit_tup {n : Led} {k : Nat} {v : Value} {ds : List PyData} (h : LitIs n (k + 1) v (.tuple ds)) : ∃ a vs c, v = .ref a ∧ (a, tup vs c) ∈ n ∧ All2 (LitIs n k) vs ds := by
  rcases h with h | ⟨a, vs, c, ds', h1, h2, h3, h4⟩
  · cases v <;> exact h.elim
  · injection h3 with h3; subst h3; exact ⟨a, vs, c, h1, h2, h4⟩
theorem lit_int {n : Led} {k : Nat} {v : Value} {x : Int} (h : LitIs n k v (.int x)) : PvIs v (.int x) := by
  have hf : FlatIs v (.int x) → PvIs v (.int x) := fun h => by cases v <;> first | exact h | exact h.elim
  cases k with
  | zero => exact hf h
  | succ k => rcases h with h | ⟨_, _, _, _, _, _, h3, _⟩; exact hf h; cases h3
theorem lit_str {n : Led} {k : Nat} {v : Value} {x : Str} (h : LitIs n k v (.str x)) : PvIs v (.str x) := by
  have hf : FlatIs v (.str x) → PvIs v (.str x) := fun h => by cases v <;> first | exact h | exact h.elim
  cases k with
  | zero => exact hf h
  | succ k => rcases h with h | ⟨_, _, _, _, _, _, h3, _⟩; exact hf h; cases h3
theorem lit_bool {n : Led} {k : Nat} {v : Value} {x : Bool} (h : LitIs n k v (.bool x)) : PvIs v (.bool x) := by
  have hf : FlatIs v (.bool x) → PvIs v (.bool x) := fun h => by cases v <;> first | exact h | exact h.elim
  cases k with
  | zero => exact hf h
  | succ k => rcases h with h | ⟨_, _, _, _, _, _, h3, _⟩; exact hf h; cases h3
theorem lit_none {n : Led} {k : Nat} {v : Value} (h : LitIs n k v .none) : PvIs v .none := by
  have hf : FlatIs v .none → PvIs v .none := fun h => by cases v <;> first | exact h | exact h.elim
  cases k with
  | zero => exact hf h
  | succ k => rcases h with h | ⟨_, _, _, _, _, _, h3, _⟩; exact hf h; cases h3
theorem lit_pair {w : World} {n : Led} {k : Nat} {v : Value} {x y : Int} (h : LitIs n (k + 1) v (.tuple [.int x, .int y])) : ∃ a, v = .ref a ∧ T2 w n a x y := by
  obtain ⟨a, vs, c, rfl, hm, hv⟩ := lit_tup h
  obtain ⟨v1, v2, rfl, h1, h2⟩ := hv.two
  exact ⟨a, rfl, TupAt.t2 ⟨_, c, hm, lit_int h1, lit_int h2, trivial⟩⟩
inductive BoxNums (w : World) (n : Led) (b : PV) (tb : Str) : Prop
  | mk (P X Y W H : Addr) (x0 x1 y0 y1 w0 w1 h0 h1 : Int) (e : b = .ref P) (t : TupAt n P [.ref X, .ref Y, .ref W, .ref H]) (a : T2 w n X x0 x1 ∧ Bd 4 x0 x1) (c : T2 w n Y y0 y1 ∧ Bd 4 y0 y1) (f : T2 w n W w0 w1 ∧ Bd 4 w0 w1 ∧ 0 < w0) (g : T2 w n H h0 h1 ∧ Bd 4 h0 h1 ∧ 0 < h0) (k : BoxOf w tb (rv x0 x1) (rv y0 y1) (rv w0 w1) (rv h0 h1)) : BoxNums w n b tb
inductive BoxRow (w : World) (n : Led) (pv : PV) (tb : Str) : Prop
  | mk (a : _) (b : _) (f0 : pv = .ref a) (f1 : TupAt n a [.str tb, b]) (f2 : ((b = .none ∧ ∀ n, PX 120 960 357 w [.str tb] n) ∨ BoxNums w n b tb)) : BoxRow w n pv tb
theorem box_row4 {w : World} {n : Led} {v : Value} {tb : Str} {x0 x1 y0 y1 w0 w1 h0 h1 : Int} (h : LitIs n 3 v (.tuple [.str tb, .tuple [.tuple [.int x0, .int x1], .tuple [.int y0, .int y1], .tuple [.int w0, .int w1], .tuple [.int h0, .int h1]]]))
    (b1 : Bd 4 x0 x1) (b2 : Bd 4 y0 y1) (b3 : Bd 4 w0 w1 ∧ 0 < w0) (b4 : Bd 4 h0 h1 ∧ 0 < h0) (hb : BoxOf w tb (rv x0 x1) (rv y0 y1) (rv w0 w1) (rv h0 h1)) : BoxRow w n (pvOf v) tb := by
  obtain ⟨a, vs, c, rfl, hm, hv⟩ := lit_tup h
  obtain ⟨v1, v2, rfl, k1, k2⟩ := hv.two
  obtain ⟨P, ws, c2, rfl, hm2, hw⟩ := lit_tup k2
  obtain ⟨u1, u2, u3, u4, rfl, j1, j2, j3, j4⟩ := hw.four
  obtain ⟨X, rfl, t1⟩ := lit_pair (w := w) j1
  obtain ⟨Y, rfl, t2⟩ := lit_pair (w := w) j2
  obtain ⟨W, rfl, t3⟩ := lit_pair (w := w) j3
  obtain ⟨H, rfl, t4⟩ := lit_pair (w := w) j4
  exact ⟨a, .ref P, rfl, ⟨_, c, hm, lit_str k1, rfl, trivial⟩, .inr ⟨P, X, Y, W, H, _, _, _, _, _, _, _, _, rfl, ⟨_, c2, hm2, rfl, rfl, rfl, rfl, trivial⟩, ⟨t1, b1⟩, ⟨t2, b2⟩, ⟨t3, b3⟩, ⟨t4, b4⟩, hb⟩⟩
theorem box_rowx {w : World} {n : Led} {v : Value} {tb : Str} (h : LitIs n 3 v (.tuple [.str tb, .none])) (hb : ∀ n, PX 120 960 357 w [.str tb] n) : BoxRow w n (pvOf v) tb := by
  obtain ⟨a, vs, c, rfl, hm, hv⟩ := lit_tup h
  obtain ⟨v1, v2, rfl, k1, k2⟩ := hv.two
  exact ⟨a, .none, rfl, ⟨_, c, hm, lit_str k1, lit_none k2, trivial⟩, .inl ⟨rfl, hb⟩⟩
theorem box_row {w : World} {n : Led} {v : Value} {d : PyData} {tb : Str} (h : LitIs n 3 v d) (hd : d ∈ BXS) (hr : rowTxt d = some tb) : BoxRow w n (pvOf v) tb := by
  simp only [BXS, BOXES, List.cons_append, List.nil_append, List.mem_cons, List.not_mem_nil, or_false] at hd
  rcases hd with rfl | rfl | rfl | rfl | rfl | rfl | rfl
  · cases hr
  · cases hr
  · obtain rfl := Option.some.inj hr; exact box_row4 h (by unfold Bd; decide) (by unfold Bd; decide) (by unfold Bd; decide) (by unfold Bd; decide) box_f0
  · obtain rfl := Option.some.inj hr; exact box_row4 h (by unfold Bd; decide) (by unfold Bd; decide) (by unfold Bd; decide) (by unfold Bd; decide) box_f1
  · obtain rfl := Option.some.inj hr; exact box_row4 h (by unfold Bd; decide) (by unfold Bd; decide) (by unfold Bd; decide) (by unfold Bd; decide) box_f2
  · obtain rfl := Option.some.inj hr; exact box_rowx h fun _ => box_x3
  · obtain rfl := Option.some.inj hr; exact box_rowx h fun _ => box_x4
inductive FitRow (w : World) (n : Led) (pv : PV) (tf : Str) : Prop
  | mk (a : _) (b : _) (f0 : pv = .ref a) (f1 : TupAt n a [.str tf, b]) (f2 : ((b = .none ∧ ∀ n, PX 40 300 371 w [.str tf] n) ∨ (b = .str (Str.ofString "none") ∧ FitOf w tf (Str.ofString "none") false) ∨ ∃ D fa fb sl al, b = .ref D ∧ TupAt n D [.int fa, .int fb, .bool sl] ∧ FitOf w tf al sl ∧ (al != Str.ofString "none") = true ∧ PartIs (Txt.slice al (some 1) (some 4)) fa ∧ PartIs (Txt.slice al (some 5) Option.none) fb ∧ al.length < 1000 ∧ Bd 2 fa 2 ∧ Bd 2 fb 2)) : FitRow w n pv tf
theorem fit_row3 {w : World} {n : Led} {v : Value} {tf al : Str} {fa fb : Int} {sl : Bool} (h : LitIs n 3 v (.tuple [.str tf, .tuple [.int fa, .int fb, .bool sl]])) (h1 : FitOf w tf al sl) (h2 : (al != Str.ofString "none") = true) (h3 : PartIs (Txt.slice al (some 1) (some 4)) fa) (h4 : PartIs (Txt.slice al (some 5) Option.none) fb) (h5 : al.length < 1000) (h6 : Bd 2 fa 2) (h7 : Bd 2 fb 2) : FitRow w n (pvOf v) tf := by
  obtain ⟨a, vs, c, rfl, hm, hv⟩ := lit_tup h
  obtain ⟨v1, v2, rfl, k1, k2⟩ := hv.two
  obtain ⟨P, ws, c2, rfl, hm2, hw⟩ := lit_tup k2
  obtain ⟨u1, u2, u3, rfl, j1, j2, j3⟩ := hw.three
  exact ⟨a, .ref P, rfl, ⟨_, c, hm, lit_str k1, rfl, trivial⟩, .inr (.inr ⟨P, fa, fb, sl, al, rfl, ⟨_, c2, hm2, lit_int j1, lit_int j2, lit_bool j3, trivial⟩, h1, h2, h3, h4, h5, h6, h7⟩)⟩
theorem fit_row {w : World} {n : Led} {v : Value} {d : PyData} {tf : Str} (h : LitIs n 3 v d) (hd : d ∈ FXS) (hr : rowTxt d = some tf) : FitRow w n (pvOf v) tf := by
  simp only [FXS, FITS, List.cons_append, List.nil_append, List.mem_cons, List.not_mem_nil, or_false] at hd
  rcases hd with rfl | rfl | rfl | rfl | rfl | rfl | rfl | rfl
  · cases hr
  · obtain rfl := Option.some.inj hr
    obtain ⟨a, vs, c, rfl, hm, hv⟩ := lit_tup h
    obtain ⟨v1, v2, rfl, k1, k2⟩ := hv.two
    exact ⟨a, .str (Str.ofString "none"), rfl, ⟨_, c, hm, lit_str k1, lit_str k2, trivial⟩, .inr (.inl ⟨rfl, fit_f0⟩)⟩
  · obtain rfl := Option.some.inj hr; exact fit_row3 h fit_f1 (by decide +kernel) part_f1_0 part_f1_1 (by decide +kernel) (by unfold Bd; decide) (by unfold Bd; decide)
  · obtain rfl := Option.some.inj hr; exact fit_row3 h fit_f2 (by decide +kernel) part_f2_0 part_f2_1 (by decide +kernel) (by unfold Bd; decide) (by unfold Bd; decide)
  · obtain rfl := Option.some.inj hr; exact fit_row3 h fit_f3 (by decide +kernel) part_f3_0 part_f3_1 (by decide +kernel) (by unfold Bd; decide) (by unfold Bd; decide)
  · obtain rfl := Option.some.inj hr; exact fit_row3 h fit_f4 (by decide +kernel) part_f4_0 part_f4_1 (by decide +kernel) (by unfold Bd; decide) (by unfold Bd; decide)
  · obtain rfl := Option.some.inj hr; exact fit_row3 h fit_f5 (by decide +kernel) part_f5_0 part_f5_1 (by decide +kernel) (by unfold Bd; decide) (by unfold Bd; decide)
  · obtain rfl := Option.some.inj hr
    obtain ⟨a, vs, c, rfl, hm, hv⟩ := lit_tup h
    obtain ⟨v1, v2, rfl, k1, k2⟩ := hv.two
    exact ⟨a, .none, rfl, ⟨_, c, hm, lit_str k1, lit_none k2, trivial⟩, .inl ⟨rfl, fun _ => fit_x⟩⟩
theorem fit_dflt {w : World} {n : Led} {D D' : Addr} (h1 : TupAt n D [.str (Str.ofString ""), .ref D']) (h2 : TupAt n D' [.int 1, .int 1, .bool false]) : FitRow w n (.ref D) (Str.ofString "") :=
  ⟨D, .ref D', rfl, h1, .inr (.inr ⟨D', 1, 1, false, Str.ofString "xMidYMid", rfl, h2, fit_f5, by decide +kernel, part_f5_0, part_f5_1, by decide +kernel, by unfold Bd; decide, by unfold Bd; decide⟩)⟩
theorem BoxRow.sub {w : World} {n n' : Led} {pv : PV} {tb : Str} (h : BoxRow w n pv tb) (s : Sub n n') : BoxRow w n' pv tb := by
  obtain ⟨a, b, h1, h2, h3⟩ := h
  refine ⟨a, b, h1, h2.sub s, h3.imp id ?_⟩
  rintro ⟨P, X, Y, W, H, x0, x1, y0, y1, w0, w1, h0, h1, e, t, ⟨a1, a2⟩, ⟨b1, b2⟩, ⟨c1, c2⟩, ⟨d1, d2⟩, k⟩
  exact ⟨P, X, Y, W, H, x0, x1, y0, y1, w0, w1, h0, h1, e, t.sub s, ⟨a1.sub s, a2⟩, ⟨b1.sub s, b2⟩, ⟨c1.sub s, c2⟩, ⟨d1.sub s, d2⟩, k⟩
theorem FitRow.sub {w : World} {n n' : Led} {pv : PV} {tb : Str} (h : FitRow w n pv tb) (s : Sub n n') : FitRow w n' pv tb := by
  obtain ⟨a, b, h1, h2, h3⟩ := h
  refine ⟨a, b, h1, h2.sub s, h3.imp id fun h => h.imp id ?_⟩
  rintro ⟨D, fa, fb, sl, al, e, t, k⟩
  exact ⟨D, fa, fb, sl, al, e, t.sub s, k⟩
theorem first_of (f : Qe → Value × PyData) (txt : PyData → Option Str) : ∀ (qs : List Qe), (∀ q ∈ qs, bare (pvOf (f q).1) = (txt (f q).2).isSome) →
    ((qs.findSome? fun q => txt (f q).2) = Option.none ∧ (qs.map fun q => pvOf (f q).1).filter bare = []) ∨ ∃ q ∈ qs, ∃ x rest, txt (f q).2 = some x ∧ (qs.findSome? fun q => txt (f q).2) = some x ∧ (qs.map fun q => pvOf (f q).1).filter bare = pvOf (f q).1 :: rest
  | [], _ => .inl ⟨rfl, rfl⟩
  | q :: qs, h => by
    have hq := h q (.head _)
    cases ht : txt (f q).2 with
    | some x =>
      rw [ht] at hq
      refine .inr ⟨q, .head _, x, (qs.map fun q => pvOf (f q).1).filter bare, ht, by rw [List.findSome?_cons, ht], ?_⟩
      rw [List.map_cons, List.filter_cons, if_pos (show bare (pvOf (f q).1) = true from hq)]
    | none =>
      rw [ht] at hq
      have e1 : ((q :: qs).findSome? fun q => txt (f q).2) = qs.findSome? fun q => txt (f q).2 := by rw [List.findSome?_cons, ht]
      have e2 : ((q :: qs).map fun q => pvOf (f q).1).filter bare = (qs.map fun q => pvOf (f q).1).filter bare := by rw [List.map_cons, List.filter_cons, if_neg (by rw [hq]; decide)]
      rw [e1, e2]
      rcases first_of f txt qs fun q hq => h q (.tail _ hq) with h | ⟨q', hq', r⟩
      · exact .inl h
      · exact .inr ⟨q', .tail _ hq', r⟩
theorem row_bare {n : Led} {v : Value} {d : PyData} (h : LitIs n 3 v d) (hd : d ∈ BXS ∨ d ∈ FXS) : bare (pvOf v) = (rowTxt d).isSome :=
  row_elim h hd (fun e1 e2 => by rw [e1, e2]; rfl) fun a x tx more c e1 _ e2 => by rw [e1, e2]; rfl
theorem unit_bare {n : Led} {v : Value} {d : PyData} (h : LitIs n 3 v d) (hd : d ∈ UXS) : bare (pvOf v) = (strOf d).isSome :=
  unit_elim h hd (fun e1 e2 => by rw [e1, e2]; rfl) fun x tx e1 e2 => by rw [e1, e2]; rfl
theorem unit_pv {n : Led} {v : Value} {d : PyData} {x : Str} (h : LitIs n 3 v d) (hd : d ∈ UXS) (e : strOf d = some x) : pvOf v = .str x ∧ x ∈ [Str.ofString "userSpaceOnUse", Str.ofString "objectBoundingBox", Str.ofString "x"] :=
  unit_elim h hd (fun e1 e2 => by rw [e2] at e; cases e) fun y tx e1 e2 => by
    rw [e2] at e
    obtain rfl := Option.some.inj e
    refine ⟨by rw [e1]; rfl, ?_⟩
    rw [e2] at hd
    simp only [UXS, List.mem_cons, List.not_mem_nil, or_false, PyData.str.injEq, reduceCtorEq, false_or] at hd ⊢
    rcases hd with h | h | h | h
    · exact .inl h
    · exact .inr (.inl h)
    · exact .inr (.inl h)
    · exact .inr (.inr h)
theorem tells_of {w : World} {r : Led} {k : Str} {f : Qe → Option Str} : ∀ (qs : List Qe), (∀ q ∈ qs, ∃ kvs, EltAt w r q.2.2.2 kvs ∧ AttrIs kvs k (f q)) →
    ∃ es : List EltR, (es.map fun e => PV.ref e.1) = (qs.map fun q => PV.ref q.2.2.2) ∧ (∀ e ∈ es, EltAt w r e.1 e.2.1 ∧ AttrIs e.2.1 k e.2.2) ∧ (es.findSome? fun e => e.2.2) = qs.findSome? f
  | [], _ => ⟨[], rfl, fun _ h => (nomatch h), rfl⟩
  | q :: qs, h => by
    obtain ⟨es, h1, h2, h3⟩ := tells_of qs fun q hq => h q (.tail _ hq)
    obtain ⟨kvs, h4, h5⟩ := h q (.head _)
    refine ⟨(q.2.2.2, kvs, f q) :: es, by rw [List.map_cons, List.map_cons, h1], fun e he => ?_, by rw [List.findSome?_cons, List.findSome?_cons, h3]⟩
    rcases List.mem_cons.mp he with rfl | he
    · exact ⟨h4, h5⟩
    · exact h2 e he
theorem refs_lst {n : Led} {D : Addr} {qs : List Qe} (h : (D, LCg.lst (qs.map fun q => .ref q.2.2.2)) ∈ n) : LstAt n D (qs.map fun q => PV.ref q.2.2.2) := by
  refine ⟨_, _, h, ?_⟩
  clear h
  induction qs with
  | nil => trivial
  | cons q qs ih => exact ⟨rfl, ih⟩
theorem tells3 {w : World} {r n : Led} {Gx : Addr} {qs : List Qe} (hE : (Gx, LCg.lst (qs.map fun q => .ref q.2.2.2)) ∈ n) (s : Sub r n) (hq : ∀ q ∈ qs, QE w r q) :
    Tells w n Gx VB (qs.findSome? fun q => rowTxt q.1.2) ∧ Tells w n Gx PAR (qs.findSome? fun q => rowTxt q.2.1.2) ∧ Tells w n Gx PCU (qs.findSome? fun q => strOf q.2.2.1.2) := by
  have go : ∀ (k : Str) (f : Qe → Option Str), (∀ q ∈ qs, ∃ kvs, EltAt w r q.2.2.2 kvs ∧ AttrIs kvs k (f q)) → Tells w n Gx k (qs.findSome? f) := fun k f h => by
    obtain ⟨es, h1, h2, h3⟩ := tells_of qs h
    exact ⟨es, by rw [h1]; exact refs_lst hE, fun e he => ⟨(h2 e he).1.sub s, (h2 e he).2⟩, h3⟩
  exact ⟨go _ _ fun q h => (hq q h).2.2.2.imp fun _ x => ⟨x.1, x.2.1⟩, go _ _ fun q h => (hq q h).2.2.2.imp fun _ x => ⟨x.1, x.2.2.1⟩, go _ _ fun q h => (hq q h).2.2.2.imp fun _ x => ⟨x.1, x.2.2.2⟩⟩
theorem lst_pv {n : Led} {D : Addr} {f : Qe → Value × PyData} {qs : List Qe} (h : (D, LCg.lst (qs.map fun q => (f q).1)) ∈ n) (hl : ∀ q ∈ qs, ∃ r, LitIs r 3 (f q).1 (f q).2) : LstAt n D (qs.map fun q => pvOf (f q).1) := by
  refine ⟨_, _, h, ?_⟩
  clear h
  induction qs with
  | nil => trivial
  | cons q qs ih =>
    obtain ⟨r, hr⟩ := hl q (.head _)
    exact ⟨lit_pv hr, ih fun q hq => hl q (.tail _ hq)⟩
inductive RoomOk (w : World) (n : Led) (C : Addr) (rc re : Rat) : Prop
  | mk (A1 : _) (A2 : _) (A3 : _) (A4 : _) (c0 : _) (c1 : _) (e0 : _) (e1 : _) (f0 : FourAt w n 338 C A1 A2 A3 A4) (f1 : T2 w n A3 c0 c1) (f2 : Bd 6 c0 c1) (f3 : T2 w n A4 e0 e1) (f4 : Bd 6 e0 e1) (f5 : rv c0 c1 = rc) (f6 : rv e0 e1 = re) : RoomOk w n C rc re
def ShapeOk (w : World) (n : Led) (pb : PV) : Option Rat → Prop
  | none => pb = .none
  | some q => ∃ B A1 A2 A3 A4, pb = .ref B ∧ FourAt w n 479 B A1 A2 A3 A4 ∧ R2 w n A3 q ∧ R2 w n A4 (rv 7 3)
theorem RoomOk.sub {w : World} {n n' : Led} {C : Addr} {rc re : Rat} (h : RoomOk w n C rc re) (s : Sub n n') : RoomOk w n' C rc re := by
  obtain ⟨A1, A2, A3, A4, c0, c1, e0, e1, a, b, c, d, e, f, g⟩ := h
  exact ⟨A1, A2, A3, A4, c0, c1, e0, e1, a.sub s, b.sub s, c, d.sub s, e, f, g⟩
theorem RoomOk.nc {w : World} {n : Led} {C : Addr} {rc re : Rat} (h : RoomOk w n C rc re) : RoomOk w (ncL n) C rc re := by
  obtain ⟨A1, A2, A3, A4, c0, c1, e0, e1, a, b, c, d, e, f, g⟩ := h
  exact ⟨A1, A2, A3, A4, c0, c1, e0, e1, a.nc, b.nc, c, d.nc, e, f, g⟩
theorem ShapeOk.sub {w : World} {n n' : Led} {pb : PV} {q : Option Rat} (h : ShapeOk w n pb q) (s : Sub n n') : ShapeOk w n' pb q := by
  cases q with
  | none => exact h
  | some q => obtain ⟨B, A1, A2, A3, A4, a, b, c, d⟩ := h; exact ⟨B, A1, A2, A3, A4, a, b.sub s, c.sub s, d.sub s⟩
theorem ShapeOk.nc {w : World} {n : Led} {pb : PV} {q : Option Rat} (h : ShapeOk w n pb q) : ShapeOk w (ncL n) pb q := by
  cases q with
  | none => exact h
  | some q => obtain ⟨B, A1, A2, A3, A4, a, b, c, d⟩ := h; exact ⟨B, A1, A2, A3, A4, a, b.nc, c.nc, d.nc⟩
noncomputable abbrev Q6 := Rat × Rat × Rat × Rat × Rat × Rat
def Spec (w : World) (ob of ou : Option Str) (rc re : Rat) (sh : Option Rat) : Option Q6 → Prop
  | none => ∀ (n : Led) (Gx C : Addr) (pb : PV), Tells w n Gx VB ob → Tells w n Gx PAR of → Tells w n Gx PCU ou → PX 250 2000 419 w [.ref Gx, .ref C, pb] n
  | some q => ∀ (n : Led) (Gx C : Addr) (pb : PV) (R : PV → Led → Prop), Tells w n Gx VB ob → Tells w n Gx PAR of → Tells w n Gx PCU ou → RoomOk w n C rc re → ShapeOk w n pb sh → (∀ M n', Sub n n' → MatIs w n' M q.1 q.2.1 q.2.2.1 q.2.2.2.1 q.2.2.2.2.1 q.2.2.2.2.2 → R (.ref M) n') → PCl 250 2000 419 w [.ref Gx, .ref C, pb] n R
def DueP (w : World) (n : Led) (pd : PV) : Option Q6 → Prop
  | none => pd = .str (Str.ofString "refused")
  | some q => ∃ D, pd = .ref D ∧ DueQ w n D q.1 q.2.1 q.2.2.1 q.2.2.2.1 q.2.2.2.2.1 q.2.2.2.2.2
theorem DueP.sub {w : World} {n n' : Led} {pd : PV} {q : Option Q6} (h : DueP w n pd q) (s : Sub n n') : DueP w n' pd q := by
  cases q with
  | none => exact h
  | some q => obtain ⟨D, a, b⟩ := h; exact ⟨D, a, b.sub s⟩
theorem DueP.nc {w : World} {n : Led} {pd : PV} {q : Option Q6} (h : DueP w n pd q) : DueP w (ncL n) pd q := by
  cases q with
  | none => exact h
  | some q => obtain ⟨D, a, b⟩ := h; exact ⟨D, a, b.nc⟩
section
variable {w : World} {ob of ou : Option Str} {rc re : Rat} {sh : Option Rat} {tb tf al t : Str} {sl : Bool} {r0 r1 r2 r3 : Rat}
theorem cl_up {d u d' u' : Nat} {f : Addr} {vs : List Value} {n : Led} {R : Value → Led → Prop} (C : Cl w d u f vs n R) (hd : d ≤ d') (hu : u ≤ u') : Cl w d' u' f vs n R := by
  intro loose mean mg mb dp un gd cn cs a ccd cl outer A₀ base h₀ L m s Q E B F X N T hk h1 h2 hret
  exact C _ _ _ _ _ _ _ _ _ _ _ _ _ _ _ _ _ _ _ _ _ B F X N T hk (Nat.lt_of_le_of_lt (Nat.add_le_add_left hd _) h1) (Nat.lt_of_le_of_lt (Nat.add_le_add_left hu _) h2) hret
theorem pcl_up {d u d' u' : Nat} {f : Addr} {pvs : List PV} {n : Led} {R : PV → Led → Prop} (C : PCl d u f w pvs n R) (hd : d ≤ d') (hu : u ≤ u') : PCl d' u' f w pvs n R := fun vs hv => cl_up (C vs hv) hd hu
theorem spec_fitx (hf : optPV (.str (Str.ofString "")) of = .str tf) (fit : ∀ n, PX 40 300 371 w [.str tf] n) : Spec w (some tb) of ou rc re sh Option.none := fun _ _ _ _ h1 h2 _ => matrix_fitx h1 h2 hf fit
theorem spec_boxx (hf : optPV (.str (Str.ofString "")) of = .str tf) (fit : FitOf w tf al sl) (box : ∀ n, PX 120 960 357 w [.str tb] n) : Spec w (some tb) of ou rc re sh Option.none := fun _ _ _ _ h1 h2 _ => matrix_boxx h1 h2 hf fit box
theorem spec_n (hf : optPV (.str (Str.ofString "")) of = .str tf) (fit : FitOf w tf (Str.ofString "none") sl) (box : BoxOf w tb r0 r1 r2 r3) (h2 : 0 < r2) (h3 : 0 < r3) : Spec w (some tb) of ou rc re sh (some (rc / r2, 0, 0, re / r3, 0 - r0 * (rc / r2), 0 - r1 * (re / r3))) := by
  rintro n Gx C pb R t1 t2 _ ⟨A1, A2, A3, A4, c0, c1, e0, e1, hC, a, b, c, d, rfl, rfl⟩ _ k
  exact matrix_none t1 t2 hf fit box h2 h3 hC a b c d rfl k
theorem spec_s {a b : Int} (hf : optPV (.str (Str.ofString "")) of = .str tf) (fit : FitOf w tf al sl) (box : BoxOf w tb r0 r1 r2 r3) (h2 : 0 < r2) (h3 : 0 < r3) (hal : (al != Str.ofString "none") = true) (hp1 : PartIs (Txt.slice al (some 1) (some 4)) a) (hp2 : PartIs (Txt.slice al (some 5) Option.none) b) (hlen : al.length < 1000) :
    Spec w (some tb) of ou rc re sh (some (fitSc r2 r3 rc re sl, 0, 0, fitSc r2 r3 rc re sl, rv a 2 * (rc - r2 * fitSc r2 r3 rc re sl) - r0 * fitSc r2 r3 rc re sl, rv b 2 * (re - r3 * fitSc r2 r3 rc re sl) - r1 * fitSc r2 r3 rc re sl)) := by
  rintro n Gx C pb R t1 t2 _ ⟨A1, A2, A3, A4, c0, c1, e0, e1, hC, a, b, c, d, rfl, rfl⟩ _ k
  exact matrix_some t1 t2 hf fit box h2 h3 hC a b c d hal hp1 hp2 hlen k
theorem spec_ux (ht : optPV (.str USU) ou = .str t) (hx : t.length < 1000) (hin : [OBB, USU].any (· == t) = false) : Spec w Option.none of ou rc re sh Option.none := fun _ _ _ _ h1 _ h3 => matrix_unitsx h1 h3 ht hx hin
theorem spec_u (ht : optPV (.str USU) ou = .str t) (hin : [OBB, USU].any (· == t) = true) (hT : (t == OBB) = false) : Spec w Option.none of ou rc re sh (some (1, 0, 0, 1, 0, 0)) := fun _ _ _ _ _ h1 _ h3 _ _ k => pcl_up (matrix_units h1 h3 ht hin hT k) (by decide) (by decide)
theorem spec_ns (ht : optPV (.str USU) ou = .str t) (hin : [OBB, USU].any (· == t) = true) : Spec w Option.none of ou rc re Option.none (some (1, 0, 0, 1, 0, 0)) := by
  intro n Gx C pb R h1 _ h3 _ hs k
  subst hs
  exact pcl_up (matrix_noshape h1 h3 ht hin k) (by decide) (by decide)
theorem spec_sh {q : Rat} (ht : optPV (.str USU) ou = .str t) (hin : [OBB, USU].any (· == t) = true) (hT : (t == OBB) = true) : Spec w Option.none of ou rc re (some q) (some (q, 0, 0, rv 7 3, 0, 0)) := by
  rintro n Gx C pb R h1 _ h3 _ ⟨B, A1, A2, A3, A4, rfl, hB, k3, k4⟩ k
  exact pcl_up (matrix_shape h1 h3 ht hin hT hB k3 k4 k) (by decide) (by decide)
end
section
variable {sc : Sc} {d u : Nat} {w : World} {m : Nms} {n n0 : Led} {R : PV → Led → Prop} {S : PF → Nms → Led → Prop}
theorem CI.done {src Bx Fx Ux Gx : Addr} {r₀ : Led} {i : Nat} {G : Prop} (nd : [src, Bx, Fx, Ux, Gx].Nodup) (h : CI w src Bx Fx Ux Gx r₀ i m n) (hi : i < 500)
    (k : m = names0 Bx Fx Ux → ∀ (o : Obj) (r : Led) (pb pf pu : List PV) (ob of ou : Option Str), SrcOk o → (src, o) ∈ n → Sub r₀ r → Stb [src] r n → Tells w r Gx VB ob → Tells w r Gx PAR of → Tells w r Gx PCU ou → (LstAt r Bx pb ∧ pb.length < 500) → (LstAt r Fx pf ∧ pf.length < 500) → (LstAt r Ux pu ∧ pu.length < 500) →
      ((ob = Option.none ∧ pb.filter bare = []) ∨ ∃ tb v rest, ob = some tb ∧ pb.filter bare = v :: rest ∧ BoxRow w r v tb) → ((of = Option.none ∧ pf.filter bare = []) ∨ ∃ tf v rest, of = some tf ∧ pf.filter bare = v :: rest ∧ FitRow w r v tf) → ((ou = Option.none ∧ pu.filter bare = []) ∨ ∃ t rest, ou = some t ∧ pu.filter bare = .str t :: rest ∧ t ∈ [USU, OBB, Str.ofString "x"]) → G) : G := by
  obtain ⟨rfl, qs, o, r, h1, h2, h3, h4, h5, h6, h7, h8, h9, h10⟩ := h
  have b1 := nd_ne nd 0 1 rfl rfl (by decide)
  have b2 := nd_ne nd 0 2 rfl rfl (by decide)
  have b3 := nd_ne nd 0 3 rfl rfl (by decide)
  have b4 := nd_ne nd 0 4 rfl rfl (by decide)
  have up : Sub r ((Bx, LCg.lst (qs.map fun q => q.1.1)) :: (Fx, LCg.lst (qs.map fun q => q.2.1.1)) :: (Ux, LCg.lst (qs.map fun q => q.2.2.1.1)) :: (Gx, LCg.lst (qs.map fun q => .ref q.2.2.2)) :: r) := fun p hp => .tail _ (.tail _ (.tail _ (.tail _ hp)))
  obtain ⟨tB, tF, tU⟩ := tells3 (w := w) (Gx := Gx) (n := (Bx, LCg.lst (qs.map fun q => q.1.1)) :: (Fx, LCg.lst (qs.map fun q => q.2.1.1)) :: (Ux, LCg.lst (qs.map fun q => q.2.2.1.1)) :: (Gx, LCg.lst (qs.map fun q => .ref q.2.2.2)) :: r) (.tail _ (.tail _ (.tail _ (.head _)))) up h10
  refine k rfl o _ (qs.map fun q => pvOf q.1.1) (qs.map fun q => pvOf q.2.1.1) (qs.map fun q => pvOf q.2.2.1.1) _ _ _ h2 h3 (Sub.via up h8) (fun p hp => ?_) tB tF tU ⟨lst_pv (f := fun q => q.1) (.head _) fun q hq => ⟨r, (h10 q hq).1.1⟩, by rw [List.length_map, h1]; exact hi⟩ ⟨lst_pv (f := fun q => q.2.1) (.tail _ (.head _)) fun q hq => ⟨r, (h10 q hq).2.1.1⟩, by rw [List.length_map, h1]; exact hi⟩ ⟨lst_pv (f := fun q => q.2.2.1) (.tail _ (.tail _ (.head _))) fun q hq => ⟨r, (h10 q hq).2.2.1.1⟩, by rw [List.length_map, h1]; exact hi⟩ ?_ ?_ ?_
  · have one : ∀ {a : Addr}, ¬ src = a → a ∉ [src] := fun ha hx => ha (List.mem_singleton.mp hx).symm
    k_extra "rm"
    · exact ⟨h4, one b1⟩
    k_extra "rm"
    · exact ⟨h5, one b2⟩
    k_extra "rm"
    · exact ⟨h6, one b3⟩
    k_extra "rm"
    · exact ⟨h7, one b4⟩
    · exact ⟨(h9 p hp).1, fun hx => (h9 p hp).2 (by rw [List.mem_singleton.mp hx]; exact .head _)⟩
  · refine (first_of (fun q => q.1) rowTxt qs fun q hq => row_bare (h10 q hq).1.1 (.inl (h10 q hq).1.2)).imp id ?_
    rintro ⟨q, hq, x, rest, e1, e2, e3⟩
    exact ⟨x, _, rest, e2, e3, (box_row (h10 q hq).1.1 (h10 q hq).1.2 e1).sub up⟩
  · refine (first_of (fun q => q.2.1) rowTxt qs fun q hq => row_bare (h10 q hq).2.1.1 (.inr (h10 q hq).2.1.2)).imp id ?_
    rintro ⟨q, hq, x, rest, e1, e2, e3⟩
    exact ⟨x, _, rest, e2, e3, (fit_row (h10 q hq).2.1.1 (h10 q hq).2.1.2 e1).sub up⟩
  · refine (first_of (fun q => q.2.2.1) strOf qs fun q hq => unit_bare (h10 q hq).2.2.1.1 (h10 q hq).2.2.1.2).imp id ?_
    rintro ⟨q, hq, x, rest, e1, e2, e3⟩
    obtain ⟨e4, e5⟩ := unit_pv (h10 q hq).2.2.1.1 (h10 q hq).2.2.1.2 e1
    rw [e4] at e3
    exact ⟨x, rest, e2, e3, e5⟩
theorem pickB {r : Led} {pb : List PV} {ob : Option Str} (h : (ob = Option.none ∧ pb.filter bare = []) ∨ ∃ tb v rest, ob = some tb ∧ pb.filter bare = v :: rest ∧ BoxRow w r v tb) : ∃ q0 rest, pb.filter bare ++ [.none] = q0 :: rest ∧ ((ob = Option.none ∧ q0 = .none) ∨ ∃ tb, ob = some tb ∧ BoxRow w r q0 tb) := by
  rcases h with ⟨e1, e2⟩ | ⟨tb, v, rest, e1, e2, e3⟩
  · exact ⟨.none, [], by rw [e2]; rfl, .inl ⟨e1, rfl⟩⟩
  · exact ⟨v, rest ++ [.none], by rw [e2]; rfl, .inr ⟨tb, e1, e3⟩⟩
theorem pickF {r n : Led} {D D' : Addr} {pf : List PV} {of : Option Str} (h : (of = Option.none ∧ pf.filter bare = []) ∨ ∃ tf v rest, of = some tf ∧ pf.filter bare = v :: rest ∧ FitRow w r v tf) (s : Sub r n) (h1 : TupAt n D [.str (Str.ofString ""), .ref D']) (h2 : TupAt n D' [.int 1, .int 1, .bool false]) :
    ∃ q0 rest tf, pf.filter bare ++ [.ref D] = q0 :: rest ∧ optPV (.str (Str.ofString "")) of = .str tf ∧ FitRow w n q0 tf := by
  rcases h with ⟨e1, e2⟩ | ⟨tf, v, rest, e1, e2, e3⟩
  · exact ⟨.ref D, [], Str.ofString "", by rw [e2]; rfl, by rw [e1]; rfl, fit_dflt h1 h2⟩
  · exact ⟨v, rest ++ [.ref D], tf, by rw [e2]; rfl, by rw [e1]; rfl, e3.sub s⟩
theorem pickU {pu : List PV} {ou : Option Str} (h : (ou = Option.none ∧ pu.filter bare = []) ∨ ∃ t rest, ou = some t ∧ pu.filter bare = .str t :: rest ∧ t ∈ [USU, OBB, Str.ofString "x"]) : ∃ t rest, pu.filter bare ++ [.str (Str.ofString "userSpaceOnUse")] = .str t :: rest ∧ optPV (.str USU) ou = .str t ∧ t ∈ [USU, OBB, Str.ofString "x"] := by
  rcases h with ⟨e1, e2⟩ | ⟨t, rest, e1, e2, e3⟩
  · exact ⟨USU, [], by rw [e2]; rfl, by rw [e1]; rfl, .head _⟩
  · exact ⟨t, rest ++ [.str USU], by rw [e2]; rfl, by rw [e1]; rfl, e3⟩
inductive KAsgN (ca : Addr) (S : PF → Nms → Led → Prop) (m : Nms) (pv : PV) (n1 : Led) : Prop
  | mk (o : _) (v₀ : _) (f0 : (ca, o) ∈ n1) (f1 : o.data = .cell v₀) (f2 : ∀ o' v n2, PvIs v pv → o'.data = .cell (some v) → SubX ca n1 n2 → Sub (ncL n1) n2 → (ca, o') ∈ n2 → S .next m n2) : KAsgN ca S m pv n1
theorem Ex1.assignN {x : Str} {p p' : Pos} {ca : Addr} {e : Expr} (h : Ev sc d u w m n e (KAsgN ca S m))
    (hc : sc.cl.lookup x = some ca) (hx : autoParam (∀ c : Fc w, (c.env sc).kindOf x = some .cell) aY) (hs : autoParam (∀ env, swapsWith e (some (Expr.Name x p')) p.line env = pure false) aY) : Ex1 sc d u w m n (.Assign [.Name x p'] e p) S := by
  intro c hk s Q E A q
  refine wpAny_Assign_Name (h c hk s _ E A fun v pv n1 h1 t1 i1 r1 A1 => ?_) (hs _)
  obtain ⟨o, v₀, hm, hd, r2⟩ := r1
  obtain ⟨m', hm', F, N⟩ := A1
  refine storeX_C (s := { s with heap := h1, toks := t1 }) F (fun p hp => N p (updL_of hm p hp)) hc (updL_upd (n := n1)) hd (fun h' o' F' N' hd' => ?_) hk.hk (hx c)
  refine q .next .next m _ h' t1 trivial (r2 o' v _ i1 hd' updL_sub (nc_sub (fun x hx => ?_) (by unfold noCell; rw [hd]) updL_sub) (.head _)) ⟨m', hm', F', N'⟩
  have a1 := (N _ hx).1
  have a2 := (N _ hm).1
  dsimp only at a1 a2
  rw [a1] at a2
  exact Option.some.inj a2
structure KTupF (R : PV → Led → Prop) (pvs : List PV) (n : Led) : Prop where
  f0 : pvs.length ≤ sizeLine
  f1 : ∀ D vs c n2, Sub n n2 → New n D → (D, tup vs c) ∈ n2 → All2 PvIs vs pvs → R (.ref D) n2
theorem Ev.tupleF {es : List Expr} {k : Nat} {p : Pos} (h : Evs sc d u w m n p es (KTupF R)) : Ev sc d u w m n (.Tuple es k p) R := by
  intro c hc s Q E A q
  refine Tuple_ (h c hc s _ E A fun vs pvs n1 h1 t1 i1 r1 A1 => ?_)
  obtain ⟨m', hm', F, N⟩ := A1
  exact kup_newTuple (s := { s with heap := h1, toks := t1 }) F N (fun D h2 F2 N2 hl => q (.ref D) (.ref D) _ h2 t1 rfl (r1.2 D vs 0 _ (Sub.tail (Sub.refl _)) (fun p hp => Nat.ne_of_lt (hl p hp)) (.head _) i1) ⟨m', hm', F2, N2⟩) (by rw [i1.len]; exact r1.1)
noncomputable abbrev SHS : List PyData := [.none, .tuple [.int 5, .int 2], .tuple [.int 3, .int 1]]
def ShapeIs (w : World) (n : Led) (p : PV) : Option Rat → Prop
  | none => p = .none
  | some q => ∃ D x y, p = .ref D ∧ T2 w n D x y ∧ Bd 6 x y ∧ rv x y = q
theorem ShapeIs.sub {n n' : Led} {p : PV} : ∀ {q : Option Rat}, ShapeIs w n p q → Sub n n' → ShapeIs w n' p q
  | none, h, _ => h
  | some _, h, s => by obtain ⟨D, x, y, a, b, c⟩ := h; exact ⟨D, x, y, a, b.sub s, c⟩
theorem ShapeIs.nc {n : Led} {p : PV} : ∀ {q : Option Rat}, ShapeIs w n p q → ShapeIs w (ncL n) p q
  | none, h => h
  | some _, h => by obtain ⟨D, x, y, a, b, c⟩ := h; exact ⟨D, x, y, a, b.nc, c⟩
theorem shape_is {g : Led} {p : PV} {dd : PyData} (h : LitP g p dd) (hd : dd ∈ SHS) : ∃ q, ShapeIs w g p q := by
  obtain ⟨v, i, l⟩ := h
  simp only [SHS, List.mem_cons, List.not_mem_nil, or_false] at hd
  rcases hd with rfl | rfl | rfl
  · obtain rfl := (lit_none l).none
    exact ⟨Option.none, by cases p <;> first | rfl | exact i.elim⟩
  · obtain ⟨a, rfl, t⟩ := lit_pair (w := w) l
    exact ⟨some (rv 5 2), a, 5, 2, by cases p <;> first | exact i.elim | exact congrArg PV.ref (Eq.symm i), t, by unfold Bd; decide, rfl⟩
  · obtain ⟨a, rfl, t⟩ := lit_pair (w := w) l
    exact ⟨some (rv 3 1), a, 3, 1, by cases p <;> first | exact i.elim | exact congrArg PV.ref (Eq.symm i), t, by unfold Bd; decide, rfl⟩
theorem shape_lits {n1 n2 n3 : Led} {D1 D2 src : Addr} {vs1 vs2 : List Value} {c1 c2 : Nat} (h1 : All2 PvIs vs1 [.int 5, .int 2]) (h2 : All2 PvIs vs2 [.int 3, .int 1]) : All2 (LitP [(D1, tup vs1 c1), (D2, tup vs2 c2)]) [.none, .ref D1, .ref D2] SHS := by
  obtain ⟨v1, v2, rfl, i1, i2⟩ := all2_2 h1
  obtain ⟨v3, v4, rfl, i3, i4⟩ := all2_2 h2
  obtain ⟨_, rfl⟩ := i1.int
  obtain ⟨_, rfl⟩ := i2.int
  obtain ⟨_, rfl⟩ := i3.int
  obtain ⟨_, rfl⟩ := i4.int
  exact ⟨litP_none, ⟨.ref D1, rfl, .inr ⟨D1, _, c1, _, rfl, .head _, rfl, .inl rfl, .inl rfl, trivial⟩⟩, ⟨.ref D2, rfl, .inr ⟨D2, _, c2, _, rfl, .tail _ (.head _), rfl, .inl rfl, .inl rfl, trivial⟩⟩, trivial⟩
theorem Op.isNotI {p : PV} {r : Bool} (e : bare p = r) (h : R (.bool r) n) : Op sc d u w m n [p, .none] (cmT .IsNot) R := by
  intro vs hv c hc s Q E A q
  k_extra "v"
  obtain rfl := i2.none
  exact isNot_none i1 (q _ (.bool (bare p)) n s.heap s.toks rfl (e ▸ h) A)
theorem Op.isI {p : PV} {r : Bool} (e : bare p = r) (h : R (.bool (!r)) n) : Op sc d u w m n [p, .none] (cmT .Is) R := by
  intro vs hv c hc s Q E A q
  k_extra "v"
  obtain rfl := i2.none
  subst e
  have hq := q (.bool (!bare p)) (.bool (!bare p)) n s.heap s.toks rfl h A
  cases p with
  | none => obtain rfl := i1.none; exact wpAny_pure hq
  | ref a => obtain rfl := i1.ref; exact wpAny_pure hq
  | str a => obtain ⟨t, rfl⟩ := i1.str; exact wpAny_pure hq
  | int a => obtain ⟨t, rfl⟩ := i1.int; exact wpAny_pure hq
  | bool a => obtain rfl := i1.bool; exact wpAny_pure hq
theorem cell_k {A1 A2 A3 A4 : Addr} (k : ∀ C n', Sub n n' → FourAt w n' 338 C A1 A2 A3 A4 → R (.ref C) n') : PCl 30 240 338 w [.ref A1, .ref A2, .ref A3, .ref A4] n R := by
  intro vs hv
  obtain ⟨v1, v2, v3, v4, rfl, i1, i2, i3, i4⟩ := all2_4 hv
  obtain rfl := i1.ref
  obtain rfl := i2.ref
  obtain rfl := i3.ref
  obtain rfl := i4.ref
  exact cl_mono cell_new (by rintro v nw ⟨C, nw', rfl, rfl, hs, hC⟩; exact ⟨.ref C, rfl, k C _ hs hC⟩)
theorem shapeb_k {A1 A2 A3 A4 : Addr} (k : ∀ C n', Sub n n' → FourAt w n' 479 C A1 A2 A3 A4 → R (.ref C) n') : PCl 30 240 479 w [.ref A1, .ref A2, .ref A3, .ref A4] n R := by
  intro vs hv
  obtain ⟨v1, v2, v3, v4, rfl, i1, i2, i3, i4⟩ := all2_4 hv
  obtain rfl := i1.ref
  obtain rfl := i2.ref
  obtain rfl := i3.ref
  obtain rfl := i4.ref
  exact cl_mono shape_new (by rintro v nw ⟨C, nw', rfl, rfl, hs, hC⟩; exact ⟨.ref C, rfl, k C _ hs hC⟩)
end
end
section
open PySem PySem.W PyProof.Rows PyProof.V PySem.Spec
open PySem.Calls
section
variable {sc : Sc} {cc : Addr} {d u : Nat} {w : World} {m : Nms} {n n0 : Led} {R : PV → Led → Prop} {S : PF → Nms → Led → Prop}
theorem one_c {fp p : Pos} {e : Expr} {es : List Expr} (hd : 20 ≤ d) (hu : 160 ≤ u) (h : Evs sc d u w m n p (e :: es) (KCall 20 160 504 w R)) (hx : autoParam (∀ c : Fc w, (c.env sc).kindOf (Str.ofString "_law_one") = some .globalImplicit) aY)
    (h1 : autoParam (CallEq (Str.ofString "_law_one") fp p e es) aY)
    (h2 : autoParam (StarEq e es) aY) (h3 : autoParam (NoStar p es) aY) : Ev sc d u w m n (.Call (.Name (Str.ofString "_law_one") fp) (e :: es) [] p) R :=
  Ev.call (f := 504) (fun w => by kernel_rfl) (fun w => by kernel_rfl) h hd hu hx (by k_extra "w") h1 h2 h3
theorem take_c {fp p : Pos} {e : Expr} {es : List Expr} (hd : 10 ≤ d) (hu : 80 ≤ u) (h : Evs sc d u w m n p (e :: es) (KCall 10 80 497 w R)) (hx : autoParam (∀ c : Fc w, (c.env sc).kindOf (Str.ofString "_law_take") = some .globalImplicit) aY)
    (h1 : autoParam (CallEq (Str.ofString "_law_take") fp p e es) aY)
    (h2 : autoParam (StarEq e es) aY) (h3 : autoParam (NoStar p es) aY) : Ev sc d u w m n (.Call (.Name (Str.ofString "_law_take") fp) (e :: es) [] p) R :=
  Ev.call (f := 497) (fun w => by kernel_rfl) (fun w => by kernel_rfl) h hd hu hx (by k_extra "w") h1 h2 h3
theorem elem_c {fp p : Pos} {e : Expr} {es : List Expr} (hd : 30 ≤ d) (hu : 240 ≤ u) (h : Evs sc d u w m n p (e :: es) (KCall 30 240 444 w R)) (hx : autoParam (∀ c : Fc w, (c.env sc).kindOf (Str.ofString "Element") = some .globalImplicit) aY)
    (h1 : autoParam (CallEq (Str.ofString "Element") fp p e es) aY)
    (h2 : autoParam (StarEq e es) aY) (h3 : autoParam (NoStar p es) aY) : Ev sc d u w m n (.Call (.Name (Str.ofString "Element") fp) (e :: es) [] p) R :=
  Ev.call (f := 444) (fun w => by kernel_rfl) (fun w => by kernel_rfl) h hd hu hx (by k_extra "w") h1 h2 h3
theorem Ex1.unpack4C {x1 x2 x3 x4 : Str} {p1 p2 p3 p4 : Pos} {k : Nat} {tp p : Pos} {e : Expr} {ca : Addr} (h : Ev sc d u w m n e fun pv n1 => ∃ D q1 q2 q3 q4 o v₀, pv = .ref D ∧ TupAt n1 D [q1, q2, q3, q4] ∧ (ca, o) ∈ n1 ∧ o.data = .cell v₀ ∧ ∀ o' v n2, PvIs v q4 → o'.data = .cell (some v) → SubX ca n1 n2 → (ca, o') ∈ n2 → S .next ((x3, q3) :: (x2, q2) :: (x1, q1) :: m) n2)
    (hc : sc.cl.lookup x4 = some ca) (hx : autoParam (∀ c : Fc w, ∀ x ∈ [x1, x2, x3], (c.env sc).kindOf x = some .local) aX) (hx4 : autoParam (∀ c : Fc w, (c.env sc).kindOf x4 = some .cell) aY)
    (h1 : autoParam (∀ c : Fc w, swapsWithSole [Expr.Tuple [.Name x1 p1, .Name x2 p2, .Name x3 p3, .Name x4 p4] k tp] e p.line (c.env sc) = pure false) aY) (h2 : autoParam (∀ c : Fc w, swappedStores [Expr.Tuple [.Name x1 p1, .Name x2 p2, .Name x3 p3, .Name x4 p4] k tp] e (c.env sc) = pure none) aY) :
    Ex1 sc d u w m n (.Assign [.Tuple [.Name x1 p1, .Name x2 p2, .Name x3 p3, .Name x4 p4] k tp] e p) S := by
  intro c hok s Q E A q
  refine Assign_Tuple (h c hok s _ E A fun v pv n1 h1' t1 i1 r1 A1 => ?_) (h1 c) (h2 c)
  obtain ⟨D, q1, q2, q3, q4, o, v₀, rfl, ⟨vs, ck, hm, hv⟩, hca, hd, r2⟩ := r1
  obtain ⟨v1, v2, v3, v4, rfl, j1, j2, j3, j4⟩ := all2_4 hv
  obtain rfl := i1.ref
  obtain ⟨m', hm', F, N⟩ := A1
  refine unpackN_ (s := { s with heap := h1', toks := t1 }) (items := #[v1, v2, v3, v4]) F N (N.isTup hm) rfl rfl rfl fun h' F' N' => ?_
  have k1 := hx c x1 (.head _)
  have k2 := hx c x2 (.tail _ (.head _))
  have k3 := hx c x3 (.tail _ (.tail _ (.head _)))
  refine assignInOrder_cons (PyProof.Rows.assign_Name (store_rule (s := { s with heap := h', toks := _ }) hok k1 ⟨m', hm', F', N'⟩ j1 fun h3 t3 A3 => ?_))
  refine assignInOrder_cons (PyProof.Rows.assign_Name (store_rule (s := { s with heap := h3, toks := t3 }) hok k2 A3 j2 fun h4 t4 A4 => ?_))
  refine assignInOrder_cons (PyProof.Rows.assign_Name (store_rule (s := { s with heap := h4, toks := t4 }) hok k3 A4 j3 fun h5 t5 A5 => ?_))
  obtain ⟨m5, hm5, F5, N5⟩ := A5
  refine assignInOrder_cons (PyProof.Rows.assign_Name (storeX_C (s := { s with heap := h5, toks := t5 }) F5 (fun p hp => N5 p (updL_of hca p hp)) hc (updL_upd (n := n1)) hd (fun h6 o' F6 N6 hd' => ?_) hok.hk (hx4 c)))
  exact assignInOrder_nil (q .next .next _ _ h6 t5 trivial (r2 o' v4 _ j4 hd' updL_sub (.head _)) ⟨m5, hm5, F6, N6⟩)
theorem CellsAre.four {cm : Str → Option Value} {a b c e : Str} {a' b' c' e' : Addr} {cells : Led} (h : CellsAre cm [(a, a'), (b, b'), (c, c'), (e, e')] cells) : ∃ oa ob oc oe, cells = [(a', oa), (b', ob), (c', oc), (e', oe)] ∧ oa.data = .cell (cm a) ∧ ob.data = .cell (cm b) ∧ oc.data = .cell (cm c) ∧ oe.data = .cell (cm e) := by
  cases h with
  | cons h1 h => cases h with
    | cons h2 h => cases h with
      | cons h3 h => cases h with
        | cons h4 h => cases h; exact ⟨_, _, _, _, rfl, h1, h2, h3, h4⟩
theorem turn_end {src Bx Fx Ux Gx Ia E dE D ch : Addr} {oI o' od : Obj} {i : Nat} {m2 : Nms} {r₀ r n n1 n2 : Led} {qs : List Qe} {kvs : List (Str × Value)} {nm : Str} {t1 t2 t3 t4 te tn : Tok} (d1 d2 v1 v2 v3) {d3 : PyData} (hlen : qs.length = i) (hs : SrcOk o')
    (T : TS Ia src Bx Fx Ux Gx oI o' ((qs.map fun q => q.1.1) ++ [v1]) ((qs.map fun q => q.2.1.1) ++ [v2]) ((qs.map fun q => q.2.2.1.1) ++ [v3]) (qs.map fun q => .ref q.2.2.2) r n) (s : Sub n n1) (wE : New n E) (wd : New n dE) (hE1 : (E, instObj 444 dE) ∈ n1) (hE2 : (dE, elD w nm D ch tn t1 t2 t3 t4 te) ∈ n1)
    (hD : (D, od) ∈ n) (hod : od.IsDictOf (SK w) kvs) (hlow : (D == sysModules) = false) (hX : D ∉ [Ia, src, Bx, Fx, Ux, Gx]) (sx : SubX Gx n1 n2) (hx : (Gx, LCg.lst ((qs.map fun q => .ref q.2.2.2) ++ [.ref E])) ∈ n2) (h0 : Sub r₀ r) (hq : ∀ q ∈ qs, QE w r q)
    (b1 : d1 ∈ BXS) (l1 : LitIs r 3 v1 d1) (b2 : d2 ∈ FXS) (l2 : LitIs r 3 v2 d2) (b3 : d3 ∈ UXS) (l3 : LitIs r 3 v3 d3) (at_ : AttrIs kvs VB (rowTxt d1) ∧ AttrIs kvs PAR (rowTxt d2) ∧ AttrIs kvs PCU (strOf d3)) (hm : Le (names0 Bx Fx Ux) m2) : KTurnG (CI w src Bx Fx Ux Gx r₀) i Ia oI .next m2 n2 := by
  have xE := wE.out T.has
  have xd := wd.out T.has
  have T1 := T.sub s
  have T2 := T1.e sx hx
  have out : ∀ {a : Addr} {x : Obj}, a ∉ [Ia, src, Bx, Fx, Ux, Gx] → (a, x) ∈ n1 → (a, x) ∈ n2 := fun {a _} ha h => sx _ h fun e => ha (by have e2 : a = Gx := e; rw [e2]; simp)
  have T3 := T2.grow (g := [(E, instObj 444 dE), (dE, elD w nm D ch tn t1 t2 t3 t4 te), (D, od)]) fun p hp => by
    simp only [List.mem_cons, List.not_mem_nil, or_false] at hp
    rcases hp with rfl | rfl | rfl
    · exact ⟨out xE hE1, xE⟩
    · exact ⟨out xd hE2, xd⟩
    · exact ⟨out hX (s _ hD), hX⟩
  have up : Sub r ([(E, instObj 444 dE), (dE, elD w nm D ch tn t1 t2 t3 t4 te), (D, od)] ++ r) := fun p hp => List.mem_append_right _ hp
  exact CI.end_ (q := ((v1, d1), (v2, d2), (v3, d3), E)) hm hlen hs T3 (Sub.via up h0) (fun q h => (hq q h).sub up) ⟨⟨l1.sub up, b1⟩, ⟨l2.sub up, b2⟩, ⟨l3.sub up, b3⟩, kvs, elt_of (.head _) (.tail _ (.head _)) (.tail _ (.tail _ (.head _))) hod hlow, at_⟩
theorem first_c {fp p : Pos} {e : Expr} {es : List Expr} (hd : 20 ≤ d) (hu : 160 ≤ u) (h : Evs sc d u w m n p (e :: es) (KCall 20 160 575 w R)) (hx : autoParam (∀ c : Fc w, (c.env sc).kindOf (Str.ofString "_law_first") = some .globalImplicit) aY)
    (h1 : autoParam (CallEq (Str.ofString "_law_first") fp p e es) aY)
    (h2 : autoParam (StarEq e es) aY) (h3 : autoParam (NoStar p es) aY) : Ev sc d u w m n (.Call (.Name (Str.ofString "_law_first") fp) (e :: es) [] p) R :=
  Ev.call (f := 575) (fun w => by kernel_rfl) (fun w => by kernel_rfl) h hd hu hx (by k_extra "w") h1 h2 h3
theorem cell_c {fp p : Pos} {e : Expr} {es : List Expr} (hd : 30 ≤ d) (hu : 240 ≤ u) (h : Evs sc d u w m n p (e :: es) (KCall 30 240 338 w R)) (hx : autoParam (∀ c : Fc w, (c.env sc).kindOf (Str.ofString "Cell") = some .globalImplicit) aY)
    (h1 : autoParam (CallEq (Str.ofString "Cell") fp p e es) aY)
    (h2 : autoParam (StarEq e es) aY) (h3 : autoParam (NoStar p es) aY) : Ev sc d u w m n (.Call (.Name (Str.ofString "Cell") fp) (e :: es) [] p) R :=
  Ev.call (f := 338) (fun w => by kernel_rfl) (fun w => by kernel_rfl) h hd hu hx (by k_extra "w") h1 h2 h3
theorem shapeb_c {fp p : Pos} {e : Expr} {es : List Expr} (hd : 30 ≤ d) (hu : 240 ≤ u) (h : Evs sc d u w m n p (e :: es) (KCall 30 240 479 w R)) (hx : autoParam (∀ c : Fc w, (c.env sc).kindOf (Str.ofString "ShapeBox") = some .globalImplicit) aY)
    (h1 : autoParam (CallEq (Str.ofString "ShapeBox") fp p e es) aY)
    (h2 : autoParam (StarEq e es) aY) (h3 : autoParam (NoStar p es) aY) : Ev sc d u w m n (.Call (.Name (Str.ofString "ShapeBox") fp) (e :: es) [] p) R :=
  Ev.call (f := 479) (fun w => by kernel_rfl) (fun w => by kernel_rfl) h hd hu hx (by k_extra "w") h1 h2 h3
theorem lfit_c {fp p : Pos} {e : Expr} {es : List Expr} (hd : 60 ≤ d) (hu : 480 ≤ u) (h : Evs sc d u w m n p (e :: es) (KCall 60 480 570 w R)) (hx : autoParam (∀ c : Fc w, (c.env sc).kindOf (Str.ofString "_law_fitted") = some .globalImplicit) aY)
    (h1 : autoParam (CallEq (Str.ofString "_law_fitted") fp p e es) aY)
    (h2 : autoParam (StarEq e es) aY) (h3 : autoParam (NoStar p es) aY) : Ev sc d u w m n (.Call (.Name (Str.ofString "_law_fitted") fp) (e :: es) [] p) R :=
  Ev.call (f := 570) (fun w => by kernel_rfl) (fun w => by kernel_rfl) h hd hu hx (by k_extra "w") h1 h2 h3
theorem cm_c {fp p : Pos} {e : Expr} {es : List Expr} (hd : 250 ≤ d) (hu : 2000 ≤ u) (h : Evs sc d u w m n p (e :: es) (KCall 250 2000 419 w R)) (hx : autoParam (∀ c : Fc w, (c.env sc).kindOf (Str.ofString "content_matrix") = some .globalImplicit) aY)
    (h1 : autoParam (CallEq (Str.ofString "content_matrix") fp p e es) aY)
    (h2 : autoParam (StarEq e es) aY) (h3 : autoParam (NoStar p es) aY) : Ev sc d u w m n (.Call (.Name (Str.ofString "content_matrix") fp) (e :: es) [] p) R :=
  Ev.call (f := 419) (fun w => by kernel_rfl) (fun w => by kernel_rfl) h hd hu hx (by k_extra "w") h1 h2 h3
theorem stb_app {src : Addr} {g r n n' : Led} (hg : ∀ p ∈ g, p ∈ n' ∧ @Ne Nat p.1 src) (st : Stb [src] r n) (s : SubX src n n') : Stb [src] (g ++ r) n' := fun p hp => by
  rcases List.mem_append.mp hp with hp | hp
  · exact ⟨(hg p hp).1, fun hx => (hg p hp).2 (List.mem_singleton.mp hx)⟩
  · exact st.subX s (.head _) p hp
theorem two_in {src D1 D2 : Addr} {x y : Obj} {n n1 n2 : Led} (h1 : (D1, x) ∈ n) (h2 : (D2, y) ∈ n) (e1 : @Ne Nat D1 src) (e2 : @Ne Nat D2 src) (s : Sub n n1) (sx : SubX src n1 n2) : ∀ p ∈ [(D1, x), (D2, y)], p ∈ n2 ∧ @Ne Nat p.1 src := by
  intro p hp
  simp only [List.mem_cons, List.not_mem_nil, or_false] at hp
  rcases hp with rfl | rfl
  · exact ⟨sx _ (s _ h1) e1, e1⟩
  · exact ⟨sx _ (s _ h2) e2, e2⟩
theorem rv_pos {x y : Int} {k : Nat} (b : Bd k x y) (h : 0 < x) : 0 < rv x y := by
  have := (rv_lt (a0 := 0) (a1 := 1) (b0 := x) (b1 := y) (by decide) b.2.1).mpr (by omega)
  rwa [rv_zero] at this
theorem Ev.mono {e : Expr} {R' : PV → Led → Prop} (h : Ev sc d u w m n e R') (k : ∀ pv n', R' pv n' → R pv n') : Ev sc d u w m n e R := fun c hc s Q E A q => h c hc s Q E A fun v pv n' h' tk' i r A' => q v pv n' h' tk' i (k _ _ r) A'
theorem three_in {a b c : Addr × Obj} {n : Led} (h1 : a ∈ n) (h2 : b ∈ n) (h3 : c ∈ n) : ∀ p ∈ [a, b, c], p ∈ n := fun p hp => by
  simp only [List.mem_cons, List.not_mem_nil, or_false] at hp
  rcases hp with rfl | rfl | rfl
  · exact h1
  · exact h2
  · exact h3
theorem r2_of {n n' : Led} {D : Addr} {x y : Int} {q : Rat} (h : TupAt n D [.int x, .int y]) (s : Sub n n') (b : Bd 8 x y) (e : rv x y = q) : R2 w n' D q := R2.of (h.t2.sub s) b e
theorem pick_sub {n n' : Led} {q0 : PV} {ob : Option Str} (h : (ob = Option.none ∧ q0 = .none) ∨ ∃ tb, ob = some tb ∧ BoxRow w n q0 tb) (s : Sub n n') : (ob = Option.none ∧ q0 = .none) ∨ ∃ tb, ob = some tb ∧ BoxRow w n' q0 tb := h.imp id fun ⟨tb, e, b⟩ => ⟨tb, e, b.sub s⟩
theorem contr_k {src : Addr} {o : Obj} {ps : Array Value} (hs : SrcOk o) (h1 : @Ne Nat src 577) (h13 : @Ne Nat src 513) :
    Cb w 300 2400 580 [.ref src] [(src, o), (577, tabObj #[]), (513, tabObj ps)] (fun v nw => ∃ pv, PvIs v pv ∧ ∃ o' ps', pv = .bool true ∧ nw = [(src, o'), (577, tabObj ps'), (513, tabObj ps)] ∧ SrcOk o') := by
  refine Cb.enterC (cc := 579) (d' := 295) (u' := 2390) (x := Str.ofString "source") (pv := .ref src) (R := fun pv nw => ∃ o' ps', pv = .bool true ∧ nw = [(src, o'), (577, tabObj ps'), (513, tabObj ps)] ∧ SrcOk o') (by k_is) (by k_is) rfl rfl (fun _ => BindsTo.of_eq rfl) (by decide +kernel) (by decide +kernel) (fun _ _ _ => .inr (by k_extra "w")) ?_ (by decide) (by decide) (fun _ _ _ => by with_unfolding_all eq_refl)
  intro L' cells cm l1 Y hcm hcs
  have l2 := l1 _ (.head _)
  have l3 := l1 _ (.tail _ (.head _))
  have l4 := l1 _ (.tail _ (.tail _ (.head _)))
  obtain ⟨oR, oE, oA, oS, rfl, dR, dE, dA, dS⟩ := CellsAre.four (a := Str.ofString "room") (b := Str.ofString "elements") (c := Str.ofString "around") (e := Str.ofString "source") Y
  rw [hcm _ (by decide)] at dR dE dA
  rw [hcs (by decide +kernel)] at dS
  clear Y hcm hcs l1
  rw [if_neg (by decide +kernel)]
  with_reducible refine ExS.abs fun S0 up0 => ?_
  k_extra "q"
  with_reducible refine Ex1.unpack4C (ca := L' + 1 + 1 + 1) ?_ (by k_extra "w")
  k_extra "tu"
  with_reducible refine Evs.cons (Ev.list0 fun Bx aB => ?_)
  with_reducible refine Evs.cons (Ev.list0 fun Fx aF => ?_)
  with_reducible refine Evs.cons (Ev.list0 fun Ux aU => ?_)
  with_reducible refine Evs.cons (Ev.list0 fun Gx aE => ?_)
  with_reducible refine Evs.nil ⟨by with_unfolding_all exact Nat.le_of_ble_eq_true rfl, fun D1 n1 s1 t1 => ?_⟩
  refine ⟨D1, _, _, _, _, oE, Option.none, rfl, t1, s1 _ (by simp), dE, fun oE' vE n2 jE dE' sE hE => ⟨rfl, ?_⟩⟩
  obtain rfl := jE.ref
  refine contr_a hs h1 h13 l2 l3 l4 aB aF aU aE s1 sE hE fun hP => ?_
  clear s1 sE hE aB aF aU aE l2 l3 l4 t1
  obtain ⟨r0, hr00, mS, mA, mE, mR, mP, mQ, hCI⟩ := hP.ci
  have nd := hP.nd
  k_extra "q"
  refine Ex1.forRange (CI w src Bx Fx Ux Gx r0) (by k_is) (by rfl) (by decide +kernel) ?_
  with_reducible refine Ev.bin (Ev.int ?_)
  refine take_c (by decide) (by decide) ?_
  refine Evs.cons (Ev.nameC (hr00 _ mS) dS (pv := .ref src) rfl ?_ (by k_extra "w") fun _ => .inl (by k_extra "w"))
  with_reducible refine Evs.cons (Ev.int (Evs.nil ?_))
  obtain ⟨_, qs0, oo, rr, _, hoo, hsrc, _⟩ := hCI w
  refine take_k hsrc hoo (by decide) (by decide) fun tk o1 n3 sx ho1 hs1 ht0 ht1 => ?_
  with_reducible refine Op.addI ?_
  have hCI3 := (hCI w).src nd sx ho1 hs1
  refine ⟨(1 + tk).toNat, by rw [Int.toNat_of_nonneg (Int.add_nonneg (by decide) ht0)], by omega, hCI3, fun i m1 n4 Ia oI hi hC4 hIa => ?_, fun m1 n4 hC4 => ⟨rfl, ?_⟩⟩
  clear hCI3 hCI hsrc sx ho1 hs1
  with_reducible refine Ex.abs fun S1 up1 => ?_
  refine hC4.turn (oI := oI) nd hIa fun em qs o0 r hlen hs0 hr0 hqs T0 => ?_
  subst em
  have q0 : Sub r r := Sub.refl _
  k_extra "e"
  with_reducible refine Ex1.expr ?_
  with_reducible refine Ev.appendX (by k_extra "w") T0.hB (by rw [List.length_map, hlen]; omega) ?_
  refine one_c (by decide) (by decide) ?_
  refine Evs.cons (Ev.nameC ((T0.hr _ (q0 _ (hr0 _ mS))).1) dS (pv := .ref src) rfl ?_ (by k_extra "w") fun _ => .inl (by k_extra "w"))
  k_extra "c"
  k_extra "b"
  k_extra "lf"
  with_reducible refine Evs.cons (Ev.none ?_)
  with_reducible refine Evs.cons (Ev.none ?_)
  with_reducible refine Evs.nil ⟨by with_unfolding_all exact Nat.le_of_ble_eq_true rfl, fun D1 a1 sa1 wa1 la1 => ?_⟩
  with_reducible refine Ev.call0 (f := 556) (by k_is) (by k_is) (made_k (fun _ => boxes_spec) fun M1 pvs1 g1 b1 sb1 hM1 wM1 hg1 hx1 => ?_) (by decide) (by decide)
  with_reducible refine Op.addLF (la1.sub sb1) hM1 (lenB hx1) fun N1 c1 sc1 wc1 lc1 => ?_
  k_extra "z"
  have Ta1 := T0.sub sa1
  have Tb1 := Ta1.sub sb1
  have Tc1 := (Tb1.grow (New.stb hg1 Ta1.has)).sub sc1
  refine draw_k Tc1.hs hs0 lc1 (Tb1.lt1 wc1) (hxP_b hx1) (by decide) fun p1 o1 dd1 e1 sx1 ho1 hs1 hd1 hl1 => ?_
  have q1 : Sub r (g1 ++ r) := fun p hp => List.mem_append_right _ (q0 p hp)
  have Td1 := Tc1.src' sx1 ho1
  refine ⟨Td1.hB, fun v1 z1 j1 sz1 hz1 => ⟨rfl, Nxt.next ?_⟩⟩
  have T1 := Td1.b sz1 hz1
  clear Ta1 Tb1 Tc1 Td1 T0 sz1 hz1 sx1 ho1 sc1 wc1 lc1 sa1 wa1 la1 sb1 hM1 wM1 hg1 hx1
  k_extra "e"
  with_reducible refine Ex1.expr ?_
  with_reducible refine Ev.appendX (by k_extra "w") T1.hF (by rw [List.length_map, hlen]; omega) ?_
  refine one_c (by decide) (by decide) ?_
  refine Evs.cons (Ev.nameC ((T1.hr _ (q1 _ (hr0 _ mS))).1) dS (pv := .ref src) rfl ?_ (by k_extra "w") fun _ => .inl (by k_extra "w"))
  k_extra "c"
  k_extra "b"
  k_extra "lf"
  with_reducible refine Evs.cons (Ev.none ?_)
  with_reducible refine Evs.nil ⟨by with_unfolding_all exact Nat.le_of_ble_eq_true rfl, fun D2 a2 sa2 wa2 la2 => ?_⟩
  with_reducible refine Ev.call0 (f := 563) (by k_is) (by k_is) (made_k (fun _ => fits_spec) fun M2 pvs2 g2 b2 sb2 hM2 wM2 hg2 hx2 => ?_) (by decide) (by decide)
  with_reducible refine Op.addLF (la2.sub sb2) hM2 (lenF hx2) fun N2 c2 sc2 wc2 lc2 => ?_
  k_extra "z"
  have Ta2 := T1.sub sa2
  have Tb2 := Ta2.sub sb2
  have Tc2 := (Tb2.grow (New.stb hg2 Ta2.has)).sub sc2
  refine draw_k Tc2.hs hs1 lc2 (Tb2.lt1 wc2) (hxP_f hx2) (by decide) fun p2 o2 dd2 e2 sx2 ho2 hs2 hd2 hl2 => ?_
  have q2 : Sub r (g2 ++ (g1 ++ r)) := fun p hp => List.mem_append_right _ (q1 p hp)
  have Td2 := Tc2.src' sx2 ho2
  refine ⟨Td2.hF, fun v2 z2 j2 sz2 hz2 => ⟨rfl, Nxt.next ?_⟩⟩
  have T2 := Td2.f sz2 hz2
  clear Ta2 Tb2 Tc2 Td2 T1 sz2 hz2 sx2 ho2 sc2 wc2 lc2 sa2 wa2 la2 sb2 hM2 wM2 hg2 hx2
  k_extra "e"
  with_reducible refine Ex1.expr ?_
  with_reducible refine Ev.appendX (by k_extra "w") T2.hU (by rw [List.length_map, hlen]; omega) ?_
  refine one_c (by decide) (by decide) ?_
  refine Evs.cons (Ev.nameC ((T2.hr _ (q2 _ (hr0 _ mS))).1) dS (pv := .ref src) rfl ?_ (by k_extra "w") fun _ => .inl (by k_extra "w"))
  k_extra "c"
  k_extra "lf"
  with_reducible refine Evs.cons (Ev.none ?_)
  with_reducible refine Evs.cons (Ev.str ?_)
  with_reducible refine Evs.cons (Ev.str ?_)
  with_reducible refine Evs.cons (Ev.str ?_)
  with_reducible refine Evs.cons (Ev.str ?_)
  with_reducible refine Evs.nil ⟨by with_unfolding_all exact Nat.le_of_ble_eq_true rfl, fun N3 c3 sc3 wc3 lc3 => ?_⟩
  k_extra "z"
  have Tc3 := T2.sub sc3
  refine draw_k Tc3.hs hs2 lc3 (T2.lt1 wc3) hxP_u (by decide) fun p3 o3 dd3 e3 sx3 ho3 hs3 hd3 hl3 => ?_
  have q3 := q2
  have Td3 := Tc3.src' sx3 ho3
  refine ⟨Td3.hU, fun v3 z3 j3 sz3 hz3 => ⟨rfl, Nxt.next ?_⟩⟩
  have T3 := Td3.u sz3 hz3
  clear Tc3 Td3 T2 sz3 hz3 sx3 ho3 sc3 wc3 lc3
  with_reducible refine Ex.cons (Ex1.assign ?_)
  k_extra "l"
  with_reducible refine Evs.cons (Ev.tuple ?_)
  with_reducible refine Evs.cons (Ev.str ?_)
  with_reducible refine Evs.cons (Ev.subs (Ev.name (by k_extra "w") (Ev.un (Ev.int (Op.neg (Op.lstLast T3.hB j1 (by rw [List.length_map, hlen]; omega) ?_))))))
  with_reducible refine Evs.nil ⟨by with_unfolding_all exact Nat.le_of_ble_eq_true rfl, fun P1 f1 sp1 tp1 => ?_⟩
  with_reducible refine Evs.cons (Ev.tuple ?_)
  with_reducible refine Evs.cons (Ev.str ?_)
  with_reducible refine Evs.cons (Ev.subs (Ev.name (by k_extra "w") (Ev.un (Ev.int (Op.neg (Op.lstLast (T3.sub sp1).hF j2 (by rw [List.length_map, hlen]; omega) ?_))))))
  with_reducible refine Evs.nil ⟨by with_unfolding_all exact Nat.le_of_ble_eq_true rfl, fun P2 f2 sp2 tp2 => ?_⟩
  with_reducible refine Evs.nil ⟨by with_unfolding_all exact Nat.le_of_ble_eq_true rfl, fun RX f3 sp3 lp3 => Nxt.next ?_⟩
  have T4 := T3.sub (Sub.via sp3 (Sub.via sp2 sp1))
  have u1 := (tp1.sub sp2).sub sp3
  have u2 := tp2.sub sp3
  have G1 : Sub g1 f3 := fun p hp => (T4.hr p (List.mem_append_right _ (List.mem_append_left _ hp))).1
  have G2 : Sub g2 f3 := fun p hp => (T4.hr p (List.mem_append_left _ hp)).1
  clear T3 sp1 tp1 sp2 tp2 sp3
  refine Ex.cons (Ex1.assign (Ev.bt (T := "dict") (by k_is) (by rfl) (by decide +kernel) ?_))
  with_reducible refine Evs.cons (Ev.rowsComp (by k_extra "w") lp3 u1 u2 hl1 hl2 G1 G2 (.inl hd1) (.inr hd2) fun D5 ps f4 sp4 hD5 hps hpairs => ?_)
  k_extra "z"
  obtain ⟨at1, at2, at3, hk2, hp2⟩ := rows_attrs hpairs
  with_reducible refine Op.dictPairs (by omega) hD5 hps fun D6 od f5 sp5 aD hD6 hod => Nxt.next ?_
  have T5 := T4.sub sp4
  have nw6 : New f4 D6 := .of aD
  have hlow := low_ne aD (T5.hr _ (q3 _ (hr0 _ mP))).1
  have hX6 := nw6.out T5.has
  have hr6 : New (g2 ++ (g1 ++ r)) D6 := fun p hp => nw6 p (T5.hr p hp).1
  have T6 := T5.sub sp5
  clear T5 T4 u1 u2 lp3 sp4 hD5 hps hpairs G1 G2 sp5 nw6 aD
  refine unitP_elim hl3 hd3 (fun e5 e6 => ?_) (fun x5 e5 e6 => ?_) <;> subst e5 <;> subst e6
  · with_reducible refine Ex.cons (Ex1.ite (Tst.cmp ?_))
    with_reducible refine Ev.subs (Ev.name (by k_extra "w") (Ev.un (Ev.int (Op.neg (Op.lstLast T6.hU j3 (by rw [List.length_map, hlen]; omega) ?_)))))
    k_extra "no"
    with_reducible refine Op.isNotNoneN ⟨false, rfl, Two.no rfl (Ex.nil (Nxt.next ?_))⟩
    have T7 := T6
    have hD7 := hD6
    have hod7 := hod
    with_reducible refine Ex.cons (Ex1.expr ?_)
    refine Ev.appendC (ca := L' + 1 + 1 + 1) (oc := oE') (T7.hr _ (q3 _ (hr0 _ mE))).1 dE' T7.hE (by rw [List.length_map, hlen]; omega) ?_ (by k_extra "w")
    refine elem_c (by decide) (by decide) ?_
    with_reducible refine Evs.cons (Ev.str ?_)
    with_reducible refine Evs.cons (Ev.name (by k_extra "w") ?_)
    k_extra "z"
    refine elem_k fun E8 f8 s8 w8 hEl => ?_
    obtain ⟨dE8, ch8, t1, t2, t3, t4, te, tn, hE81, hE82, wd8⟩ := hEl
    refine ⟨(T7.sub s8).hE, fun v8 f9 j8 sx9 hx9 => ⟨rfl, Nxt.next (Ex.nil ?_)⟩⟩
    obtain rfl := j8.ref
    exact up1 _ _ _ (turn_end dd1 dd2 v1 v2 v3 hlen hs3 T7 s8 w8 wd8 hE81 hE82 hD7 hod7 hlow hX6 sx9 hx9 (Sub.via q3 hr0) (fun q hq => (hqs q hq).sub q3) hd1 ((hl1.lit j1).sub fun p hp => List.mem_append_right _ (List.mem_append_left _ hp)) hd2 ((hl2.lit j2).sub fun p hp => List.mem_append_left _ hp) hd3 ((hl3.lit j3).sub fun p hp => (nomatch hp)) (⟨at1, at2, at3⟩) (Le.cons (by k_extra "w") (Le.cons (by k_extra "w") (Le.cons (by k_extra "w") Le.nil))))
  · with_reducible refine Ex.cons (Ex1.ite (Tst.cmp ?_))
    with_reducible refine Ev.subs (Ev.name (by k_extra "w") (Ev.un (Ev.int (Op.neg (Op.lstLast T6.hU j3 (by rw [List.length_map, hlen]; omega) ?_)))))
    k_extra "no"
    with_reducible refine Op.isNotNoneS ⟨true, rfl, Two.yes rfl ?_⟩
    with_reducible refine Ex.cons (Ex1.setItem (D := D6) (od := od) (kvs := dictIn ps) (by k_extra "w") ?_)
    with_reducible refine Ev.subs (Ev.name (by k_extra "w") (Ev.un (Ev.int (Op.neg (Op.lstLast T6.hU j3 (by rw [List.length_map, hlen]; omega) ?_)))))
    refine ⟨hD6, hod, by omega, fun v7 od7 f7 j7 sx7 hD7 hod7 => Nxt.next (Ex.nil (Nxt.next ?_))⟩
    obtain ⟨t7, rfl⟩ := j7.str
    have T7 := T6.off sx7 hX6 hr6
    with_reducible refine Ex.cons (Ex1.expr ?_)
    refine Ev.appendC (ca := L' + 1 + 1 + 1) (oc := oE') (T7.hr _ (q3 _ (hr0 _ mE))).1 dE' T7.hE (by rw [List.length_map, hlen]; omega) ?_ (by k_extra "w")
    refine elem_c (by decide) (by decide) ?_
    with_reducible refine Evs.cons (Ev.str ?_)
    with_reducible refine Evs.cons (Ev.name (by k_extra "w") ?_)
    k_extra "z"
    refine elem_k fun E8 f8 s8 w8 hEl => ?_
    obtain ⟨dE8, ch8, t1, t2, t3, t4, te, tn, hE81, hE82, wd8⟩ := hEl
    refine ⟨(T7.sub s8).hE, fun v8 f9 j8 sx9 hx9 => ⟨rfl, Nxt.next (Ex.nil ?_)⟩⟩
    obtain rfl := j8.ref
    exact up1 _ _ _ (turn_end dd1 dd2 v1 v2 v3 hlen hs3 T7 s8 w8 wd8 hE81 hE82 hD7 hod7 hlow hX6 sx9 hx9 (Sub.via q3 hr0) (fun q hq => (hqs q hq).sub q3) hd1 ((hl1.lit j1).sub fun p hp => List.mem_append_right _ (List.mem_append_left _ hp)) hd2 ((hl2.lit j2).sub fun p hp => List.mem_append_left _ hp) hd3 ((hl3.lit j3).sub fun p hp => (nomatch hp)) (⟨attr_stored at1 (by decide), attr_stored at2 (by decide), attr_new at3⟩) (Le.cons (by k_extra "w") (Le.cons (by k_extra "w") (Le.cons (by k_extra "w") Le.nil))))
  · refine hC4.done nd (by omega) fun em o5 r5 pb pf pu ob of ou hs5 ho5 hr5 st5 tB tF tU ⟨lB, zB⟩ ⟨lF, zF⟩ ⟨lU, zU⟩ kB kF kU => ?_
    subst em
    clear hC4 hCI3 hCI hsrc sx ho1 hs1
    have xSs := nd_ne hP.nc 0 4 rfl rfl (by decide)
    have xAE := nd_ne hP.nc 1 2 rfl rfl (by decide)
    have xAR := nd_ne hP.nc 1 3 rfl rfl (by decide)
    have xAs := nd_ne hP.nc 1 4 rfl rfl (by decide)
    have xA5 := nd_ne hP.nc 1 9 rfl rfl (by decide)
    have xA3 := nd_ne hP.nc 1 10 rfl rfl (by decide)
    have xER := nd_ne hP.nc 2 3 rfl rfl (by decide)
    have xE5 := nd_ne hP.nc 2 9 rfl rfl (by decide)
    have xRs := nd_ne hP.nc 3 4 rfl rfl (by decide)
    have xR5 := nd_ne hP.nc 3 9 rfl rfl (by decide)
    have xR3 := nd_ne hP.nc 3 10 rfl rfl (by decide)
    have xs5 := nd_ne hP.nc 4 9 rfl rfl (by decide)
    refine ExS.seq (Ex1.cellComp (cS := L' + 1) (src := src) (cl := [(Str.ofString "source", L' + 1)]) (st5 _ (hr5 _ mS)).1 dS ho5 hs5 xSs (fun D7 C0 C1 c0 c1 e0 e1 o7 g7 n7 sx7 ho7 hs7 hg7 lD7 tC0 tC1 bd7 => ⟨rfl, ?_⟩) (by k_is) (by k_is) (by decide) (by decide) (by k_is) (by rfl) (by decide +kernel))
    have st7 := stb_app hg7 st5 sx7
    clear st5 ho5 sx7 hg7
    k_extra "q"
    k_extra "a"
    refine one_c (by decide) (by decide) ?_
    refine Evs.cons (Ev.nameC ((st7 _ (List.mem_append_right _ (hr5 _ mS))).1) dS (pv := .ref src) rfl ?_ (by k_extra "w") fun _ => .inl (by k_extra "w"))
    k_extra "c"
    k_extra "lf"
    with_reducible refine Evs.cons (Ev.none ?_)
    with_reducible refine Evs.cons (Ev.tupleF (Evs.cons (Ev.int (Evs.cons (Ev.int (Evs.nil ⟨by with_unfolding_all exact Nat.le_of_ble_eq_true rfl, fun D8 vs8 k8 n8 s8 w8 m8 i8 => ?_⟩))))))
    with_reducible refine Evs.cons (Ev.tupleF (Evs.cons (Ev.int (Evs.cons (Ev.int (Evs.nil ⟨by with_unfolding_all exact Nat.le_of_ble_eq_true rfl, fun D9 vs9 k9 n9 s9 w9 m9 i9 => ?_⟩))))))
    with_reducible refine Evs.nil ⟨by with_unfolding_all exact Nat.le_of_ble_eq_true rfl, fun T10 n10 s10 w10 l10 => ?_⟩
    k_extra "z"
    refine draw_k (f := [(D8, tup vs8 k8), (D9, tup vs9 k9)]) (s10 _ (s9 _ (s8 _ ho7))) hs7 l10 (fun e => w10 _ (s9 _ (s8 _ ho7)) e.symm) (shape_lits (src := src) (n1 := []) (n2 := []) (n3 := []) i8 i9) (by decide) fun p11 o11 dd11 n11 sx11 ho11 hs11 hd11 hl11 => ⟨rfl, ?_⟩
    obtain ⟨sh, hsh⟩ := shape_is (w := w) hl11 hd11
    have st11 := stb_app (g := [(D8, tup vs8 k8), (D9, tup vs9 k9)]) (two_in (s9 _ m8) m9 (fun e => w8 _ ho7 e.symm) (fun e => w9 _ (s8 _ ho7) e.symm) s10 sx11) (st7.sub (Sub.via s10 (Sub.via s9 s8))) sx11
    have u5 : Sub r5 n11 := fun p hp => (st11 p (List.mem_append_right _ (List.mem_append_right _ hp))).1
    have u7 : Sub g7 n11 := fun p hp => (st11 p (List.mem_append_right _ (List.mem_append_left _ hp))).1
    replace hsh := hsh.sub (fun p hp => (st11 p (List.mem_append_left _ hp)).1)
    replace tB := tB.sub u5
    replace tF := tF.sub u5
    replace tU := tU.sub u5
    replace lB := lB.sub u5
    replace lF := lF.sub u5
    replace lU := lU.sub u5
    replace lD7 := lD7.sub u7
    replace tC0 := tC0.sub u7
    replace tC1 := tC1.sub u7
    have hr511 := u5
    have mE5 := u5 _ (hr5 _ mE)
    have mR5 := u5 _ (hr5 _ mR)
    have mA5 := u5 _ (hr5 _ mA)
    have mP5 := u5 _ (hr5 _ mP)
    have mQ5 := u5 _ (hr5 _ mQ)
    clear st11 st7 sx11 w10 w9 w8 m8 m9 s8 s9 s10 ho7 hs7 l10 hl11 hd11 i8 i9 hr5 mS mE mR mA mP mQ hr00 hs5
    obtain ⟨qB, rB, eB, cB⟩ := pickB kB
    k_extra "q"
    with_reducible refine Ex1.swap2 ?_
    k_extra "tu"
    with_reducible refine Evs.cons (first_c (by decide) (by decide) ?_)
    with_reducible refine Evs.cons (Ev.name (by k_extra "w") ?_)
    with_reducible refine Evs.cons (Ev.none (Evs.nil ?_))
    refine first_spec lB zB eB fun n12 s12 => ?_
    with_reducible refine Evs.cons (first_c (by decide) (by decide) ?_)
    with_reducible refine Evs.cons (Ev.name (by k_extra "w") ?_)
    with_reducible refine Evs.cons (Ev.tuple ?_)
    with_reducible refine Evs.cons (Ev.str ?_)
    with_reducible refine Evs.cons (Ev.tuple ?_)
    with_reducible refine Evs.cons (Ev.int (Evs.cons (Ev.int (Evs.cons (Ev.bool (Evs.nil ⟨by with_unfolding_all exact Nat.le_of_ble_eq_true rfl, fun D13 n13 s13 t13 => ?_⟩))))))
    with_reducible refine Evs.nil ⟨by with_unfolding_all exact Nat.le_of_ble_eq_true rfl, fun D14 n14 s14 t14 => ?_⟩
    k_extra "z"
    obtain ⟨qF, rF, tf, eF, hof, cF⟩ := pickF (n := n14) kF (Sub.via s14 (Sub.via s13 (Sub.via s12 u5))) t14 (t13.sub s14)
    clear u5 u7 t13 t14
    refine first_spec (lF.sub (by k_extra "sb9")) zF eF fun n15 s15 => ?_
    with_reducible refine Evs.nil ⟨by with_unfolding_all exact Nat.le_of_ble_eq_true rfl, fun D16 n16 s16 t16 => ⟨D16, _, _, rfl, t16, rfl, ?_⟩⟩
    obtain ⟨t, rU, eU, hou, htU⟩ := pickU kU
    k_extra "q"
    k_extra "a"
    refine first_c (by decide) (by decide) ?_
    with_reducible refine Evs.cons (Ev.name (by k_extra "w") ?_)
    with_reducible refine Evs.cons (Ev.str (Evs.nil ?_))
    refine first_spec (lU.sub (by k_extra "sb9")) zU eU fun n17 s17 => ⟨rfl, ?_⟩
    k_extra "q"
    k_extra "a"
    k_extra "l"
    k_extra "c"
    with_reducible refine Ev.tupII fun A1 d1 sd1 td1 => ?_
    k_extra "c"
    with_reducible refine Ev.tupII fun A2 d2 sd2 td2 => ?_
    k_extra "c"
    with_reducible refine Ev.tupII fun A3 d3 sd3 td3 => ?_
    k_extra "c"
    with_reducible refine Ev.tupII fun A4 d4 sd4 td4 => ?_
    k_extra "c"
    with_reducible refine Ev.tupII fun A5 d5 sd5 td5 => ?_
    k_extra "c"
    with_reducible refine Ev.tupII fun A6 d6 sd6 td6 => ?_
    with_reducible refine Evs.nil ⟨by with_unfolding_all exact Nat.le_of_ble_eq_true rfl, fun D24 n24 s24 l24 => ⟨rfl, ?_⟩⟩
    have due0 : DueQ w n24 D24 1 0 0 1 0 0 := ⟨A1, A2, A3, A4, A5, A6, l24, r2_of td1 (by k_extra "sb9") (by unfold Bd; decide) rv_one, r2_of td2 (by k_extra "sb9") (by unfold Bd; decide) rv_zero, r2_of td3 (by k_extra "sb9") (by unfold Bd; decide) rv_zero, r2_of td4 (by k_extra "sb9") (by unfold Bd; decide) rv_one, r2_of td5 (by k_extra "sb9") (by unfold Bd; decide) rv_zero, r2_of td6 (by k_extra "sb9") (by unfold Bd; decide) rv_zero⟩
    replace cF := cF.sub (n' := n24) (by k_extra "sb9")
    replace tB := tB.sub (n' := n24) (by k_extra "sb9")
    replace tF := tF.sub (n' := n24) (by k_extra "sb9")
    replace tU := tU.sub (n' := n24) (by k_extra "sb9")
    replace lD7 := lD7.sub (n' := n24) (by k_extra "sb9")
    replace tC0 := tC0.sub (n' := n24) (by k_extra "sb9")
    replace tC1 := tC1.sub (n' := n24) (by k_extra "sb9")
    replace hsh := hsh.sub (n' := n24) (by k_extra "sb9")
    have up24 : Sub n11 n24 := (by k_extra "sb9")
    replace mE5 := up24 _ mE5
    replace mR5 := up24 _ mR5
    replace mA5 := up24 _ mA5
    replace mP5 := up24 _ mP5
    replace mQ5 := up24 _ mQ5
    replace ho11 := up24 _ ho11
    replace cB := pick_sub cB (n' := n24) (fun p hp => up24 p (hr511 p hp))
    clear lB lF lU t16 l24 td1 sd1 td2 sd2 td3 sd3 td4 sd4 td5 sd5 td6 sd6 s12 s13 s14 s15 s16 s17 s24 up24 kB kF kU eB eF eU
    have bC0 : Bd 6 c0 c1 := by unfold Bd; omega
    have bC1 : Bd 6 e0 e1 := by unfold Bd; omega
    k_extra "q"
    with_reducible refine Ex1.meetA (fun m n => ∃ due pd, m = [(Str.ofString "due", pd), (Str.ofString "shape", p11), (Str.ofString "cell", .ref D7)] ∧ Sub n24 n ∧ DueP w n pd due ∧ Spec w ob of ou (rv c0 c1) (rv e0 e1) sh due) (fun K upK => ?_) ?_
    · k_extra "t"
      k_extra "n"
      k_extra "no"
      rcases cB with ⟨eob, eqB⟩ | ⟨tb, eob, a1, b1, eqB, tB1, cB⟩
      · subst eob
        subst eqB
        with_reducible refine Op.isNotI (r := false) rfl ⟨false, rfl, Two.no rfl ?_⟩
        k_extra "e"
        k_extra "f"
        k_extra "t"
        k_extra "n"
        k_extra "s"
        with_reducible refine Op.eqS ⟨_, rfl, ?_⟩
        simp only [List.mem_cons, List.not_mem_nil, or_false] at htU
        rcases htU with eU | eU | eU <;> subst eU
        · refine Two.no (by decide +kernel) ?_
          k_extra "e"
          k_extra "f"
          with_reducible refine Tst.and2 ?_
          k_extra "t"
          k_extra "n"
          k_extra "s"
          with_reducible refine Op.eqS ⟨_, rfl, Two.no (by decide +kernel) ?_⟩
          refine Two.no rfl ?_
          k_extra "en"
          k_extra "x"
          k_extra "en"
          k_extra "x"
          k_extra "en"
          exact upK _ [(Str.ofString "due", .ref D24), (Str.ofString "shape", p11), (Str.ofString "cell", .ref D7)] _ (Le.cons (by k_extra "w") (Le.cons (by k_extra "w") (Le.cons (by k_extra "w") Le.nil))) ⟨(some (1, 0, 0, 1, 0, 0)), _, rfl, Sub.refl _, ⟨D24, rfl, due0⟩, spec_u hou (by decide +kernel) (by decide +kernel)⟩
        · refine Two.no (by decide +kernel) ?_
          k_extra "e"
          k_extra "f"
          with_reducible refine Tst.and2 ?_
          k_extra "t"
          k_extra "n"
          k_extra "s"
          with_reducible refine Op.eqS ⟨_, rfl, Two.yes (by decide +kernel) ?_⟩
          k_extra "t"
          k_extra "n"
          k_extra "no"
          rcases sh with _ | q9
          · have e9 : p11 = .none := hsh
            subst e9
            with_reducible refine Op.isNotI (r := false) rfl ⟨false, rfl, Two.no rfl ?_⟩
            k_extra "en"
            k_extra "x"
            k_extra "en"
            k_extra "x"
            k_extra "en"
            exact upK _ [(Str.ofString "due", .ref D24), (Str.ofString "shape", .none), (Str.ofString "cell", .ref D7)] _ (Le.cons (by k_extra "w") (Le.cons (by k_extra "w") (Le.cons (by k_extra "w") Le.nil))) ⟨(some (1, 0, 0, 1, 0, 0)), _, rfl, Sub.refl _, ⟨D24, rfl, due0⟩, spec_ns hou (by decide +kernel)⟩
          · obtain ⟨D9, x9, y9, e9, t9, b9, r9⟩ := hsh
            subst e9
            with_reducible refine Op.isNotI (r := true) rfl ⟨true, rfl, Two.yes rfl ?_⟩
            k_extra "e"
            k_extra "a"
            k_extra "l"
            k_extra "c"
            k_extra "n"
            k_extra "c"
            with_reducible refine Ev.tupII fun F1 f1 sf1 tf1 => ?_
            k_extra "c"
            with_reducible refine Ev.tupII fun F2 f2 sf2 tf2 => ?_
            k_extra "c"
            with_reducible refine Ev.tupII fun F3 f3 sf3 tf3 => ?_
            k_extra "c"
            with_reducible refine Ev.tupII fun F4 f4 sf4 tf4 => ?_
            k_extra "c"
            with_reducible refine Ev.tupII fun F5 f5 sf5 tf5 => ?_
            k_extra "z"
            refine ⟨by with_unfolding_all exact Nat.le_of_ble_eq_true rfl, fun D25 n25 s25 l25 => ?_⟩
            k_extra "x"
            k_extra "en"
            k_extra "x"
            k_extra "en"
            k_extra "x"
            k_extra "en"
            have due1 : DueQ w n25 D25 q9 0 0 (rv 7 3) 0 0 := ⟨D9, F1, F2, F3, F4, F5, l25, R2.of (t9.sub (by k_extra "sb9")) b9 r9, r2_of tf1 (by k_extra "sb9") (by unfold Bd; decide) rv_zero, r2_of tf2 (by k_extra "sb9") (by unfold Bd; decide) rv_zero, r2_of tf3 (by k_extra "sb9") (by unfold Bd; decide) rfl, r2_of tf4 (by k_extra "sb9") (by unfold Bd; decide) rv_zero, r2_of tf5 (by k_extra "sb9") (by unfold Bd; decide) rv_zero⟩
            exact upK _ [(Str.ofString "due", .ref D25), (Str.ofString "shape", .ref D9), (Str.ofString "cell", .ref D7)] _ (Le.cons (by k_extra "w") (Le.cons (by k_extra "w") (Le.cons (by k_extra "w") Le.nil))) ⟨(some (q9, 0, 0, rv 7 3, 0, 0)), _, rfl, (by k_extra "sb9"), ⟨D25, rfl, due1⟩, spec_sh hou (by decide +kernel) (by decide +kernel)⟩
        · refine Two.yes (by decide +kernel) ?_
          k_extra "e"
          k_extra "a"
          k_extra "s"
          k_extra "x"
          k_extra "en"
          k_extra "x"
          k_extra "en"
          exact upK _ [(Str.ofString "due", .str (Str.ofString "refused")), (Str.ofString "shape", p11), (Str.ofString "cell", .ref D7)] _ (Le.cons (by k_extra "w") (Le.cons (by k_extra "w") (Le.cons (by k_extra "w") Le.nil))) ⟨Option.none, _, rfl, Sub.refl _, rfl, spec_ux hou (by decide +kernel) (by decide +kernel)⟩
      · subst eob
        subst eqB
        with_reducible refine Op.isNotI (r := true) rfl ⟨true, rfl, Two.yes rfl ?_⟩
        k_extra "e"
        k_extra "a"
        with_reducible refine Ev.ifexp ?_
        with_reducible refine Tst.or2 ?_
        k_extra "t"
        k_extra "u"
        k_extra "n"
        k_extra "i"
        with_reducible refine Op.tup1 tB1 ?_
        k_extra "no"
        rcases cB with ⟨eb, hbx⟩ | ⟨P, X, Y, W, H, x0, x1, y0, y1, w0, w1, h0, h1, eb, tP, tX, tY, tW, tH, hbx⟩
        · subst eb
          with_reducible refine Op.isI (r := false) rfl ⟨true, rfl, Two.yes rfl ⟨fun _ => ?_, fun e => nomatch e⟩⟩
          k_extra "s"
          k_extra "x"
          k_extra "en"
          exact upK _ [(Str.ofString "due", .str (Str.ofString "refused")), (Str.ofString "shape", p11), (Str.ofString "cell", .ref D7)] _ (Le.cons (by k_extra "w") (Le.cons (by k_extra "w") (Le.cons (by k_extra "w") Le.nil))) ⟨Option.none, _, rfl, Sub.refl _, rfl, (by obtain ⟨_, _, _, _, cF⟩ := cF; rcases cF with ⟨_, h9⟩ | ⟨_, h9⟩ | ⟨_, _, _, _, _, _, _, h9, _⟩; exact spec_fitx hof h9; exact spec_boxx hof h9 hbx; exact spec_boxx hof h9 hbx)⟩
        · subst eb
          with_reducible refine Op.isI (r := true) rfl ⟨false, rfl, Two.no rfl ?_⟩
          obtain ⟨a2, b2, eqF, tF1, cF⟩ := cF
          subst eqF
          k_extra "t"
          k_extra "u"
          k_extra "n"
          k_extra "i"
          with_reducible refine Op.tup1 tF1 ?_
          k_extra "no"
          rcases cF with ⟨e2, h9⟩ | ⟨e2, h9⟩ | ⟨D9, fa, fb, sl, al, e2, t9, h9, hal, hp1, hp2, hlen, ba, bb⟩ <;> subst e2
          · with_reducible refine Op.isI (r := false) rfl ⟨true, rfl, fun _ => ?_, fun e => nomatch e⟩
            k_extra "s"
            k_extra "x"
            k_extra "en"
            exact upK _ [(Str.ofString "due", .str (Str.ofString "refused")), (Str.ofString "shape", p11), (Str.ofString "cell", .ref D7)] _ (Le.cons (by k_extra "w") (Le.cons (by k_extra "w") (Le.cons (by k_extra "w") Le.nil))) ⟨Option.none, _, rfl, Sub.refl _, rfl, spec_fitx hof h9⟩
          · with_reducible refine Op.isI (r := true) rfl ⟨false, rfl, (fun e => nomatch e), fun _ => ?_⟩
            refine lfit_c (by decide) (by decide) ?_
            k_extra "c"
            k_extra "u"
            k_extra "n"
            k_extra "i"
            with_reducible refine Op.tup1 tB1 ?_
            k_extra "c"
            k_extra "u"
            k_extra "n"
            k_extra "i"
            with_reducible refine Op.tup1 tF1 ?_
            k_extra "c"
            k_extra "n"
            k_extra "z"
            refine lfit_none tP lD7 tX.1 tX.2 tY.1 tY.2 tW.1 tW.2.1 tH.1 tH.2.1 tW.2.2 tH.2.2 (tC0.t2) bC0 (tC1.t2) bC1 fun D26 n26 s26 q26 => ?_
            k_extra "x"
            k_extra "en"
            exact upK _ [(Str.ofString "due", .ref D26), (Str.ofString "shape", p11), (Str.ofString "cell", .ref D7)] _ (Le.cons (by k_extra "w") (Le.cons (by k_extra "w") (Le.cons (by k_extra "w") Le.nil))) ⟨(some _), _, rfl, s26, ⟨D26, rfl, q26⟩, spec_n hof h9 hbx (rv_pos tW.2.1 tW.2.2) (rv_pos tH.2.1 tH.2.2)⟩
          · with_reducible refine Op.isI (r := true) rfl ⟨false, rfl, (fun e => nomatch e), fun _ => ?_⟩
            refine lfit_c (by decide) (by decide) ?_
            k_extra "c"
            k_extra "u"
            k_extra "n"
            k_extra "i"
            with_reducible refine Op.tup1 tB1 ?_
            k_extra "c"
            k_extra "u"
            k_extra "n"
            k_extra "i"
            with_reducible refine Op.tup1 tF1 ?_
            k_extra "c"
            k_extra "n"
            k_extra "z"
            refine lfit_some tP lD7 tX.1 tX.2 tY.1 tY.2 tW.1 tW.2.1 tH.1 tH.2.1 tW.2.2 tH.2.2 (tC0.t2) bC0 (tC1.t2) bC1 t9 ba bb fun D26 n26 s26 q26 => ?_
            k_extra "x"
            k_extra "en"
            exact upK _ [(Str.ofString "due", .ref D26), (Str.ofString "shape", p11), (Str.ofString "cell", .ref D7)] _ (Le.cons (by k_extra "w") (Le.cons (by k_extra "w") (Le.cons (by k_extra "w") Le.nil))) ⟨(some _), _, rfl, s26, ⟨D26, rfl, q26⟩, spec_s hof h9 hbx (rv_pos tW.2.1 tW.2.2) (rv_pos tH.2.1 tH.2.2) hal hp1 hp2 hlen⟩
    · rintro m30 n30 ⟨due, pd, em, s30, hdue, hspec⟩
      subst em
      refine ⟨rfl, ?_⟩
      replace tB := tB.sub s30
      replace tF := tF.sub s30
      replace tU := tU.sub s30
      replace lD7 := lD7.sub s30
      replace tC0 := tC0.sub s30
      replace tC1 := tC1.sub s30
      replace hsh := hsh.sub s30
      replace mE5 := s30 _ mE5
      replace mR5 := s30 _ mR5
      replace mA5 := s30 _ mA5
      replace mP5 := s30 _ mP5
      replace mQ5 := s30 _ mQ5
      replace ho11 := s30 _ ho11
      clear s30 due0 cB cF
      k_extra "q"
      with_reducible refine Ex1.assignN (ca := (L' + 1 + 1 + 1 + 1)) ?_ (by k_extra "w")
      refine cell_c (by decide) (by decide) ?_
      k_extra "c"
      with_reducible refine Ev.tupII fun G1 i1 si1 ti1 => ?_
      k_extra "c"
      with_reducible refine Ev.tupII fun G2 i2 si2 ti2 => ?_
      k_extra "c"
      refine frac_c (by decide) (by decide) ?_
      k_extra "c"
      k_extra "u"
      k_extra "u"
      k_extra "n"
      k_extra "i"
      with_reducible refine Op.lst0 (lD7.sub (by k_extra "sb9")) ?_
      k_extra "i"
      with_reducible refine Op.tup0 (tC0.sub (by k_extra "sb9")) ?_
      k_extra "c"
      k_extra "u"
      k_extra "u"
      k_extra "n"
      k_extra "i"
      with_reducible refine Op.lst0 (lD7.sub (by k_extra "sb9")) ?_
      k_extra "i"
      with_reducible refine Op.tup1 (tC0.sub (by k_extra "sb9")) ?_
      k_extra "z"
      refine frac_k (by omega) (by omega) fun D31 x31 y31 n31 s31 t31 h31 h32 h33 h34 => ?_
      k_extra "c"
      refine frac_c (by decide) (by decide) ?_
      k_extra "c"
      k_extra "u"
      k_extra "u"
      k_extra "n"
      k_extra "i"
      with_reducible refine Op.lst1 (lD7.sub (by k_extra "sb9")) ?_
      k_extra "i"
      with_reducible refine Op.tup0 (tC1.sub (by k_extra "sb9")) ?_
      k_extra "c"
      k_extra "u"
      k_extra "u"
      k_extra "n"
      k_extra "i"
      with_reducible refine Op.lst1 (lD7.sub (by k_extra "sb9")) ?_
      k_extra "i"
      with_reducible refine Op.tup1 (tC1.sub (by k_extra "sb9")) ?_
      k_extra "z"
      refine frac_k (by omega) (by omega) fun D32 x32 y32 n32 s32 t32 h35 h36 h37 h38 => ?_
      k_extra "z"
      refine cell_k fun C35 n35 s35 hC35 => ?_
      have room35 : RoomOk w n35 C35 (rv c0 c1) (rv e0 e1) := ⟨_, _, D31, D32, x31, y31, x32, y32, hC35, t31.sub (by k_extra "sb9"), by unfold Bd; omega, t32.sub (by k_extra "sb9"), by unfold Bd; omega, h34, h38⟩
      have S35 : Sub n30 n35 := (by k_extra "sb9")
      refine ⟨oR, Option.none, S35 _ mR5, dR, fun oR2 vR n36 jR dR2 sxR sN36 hR36 => ⟨rfl, ?_⟩⟩
      obtain rfl := jR.ref
      have room : RoomOk w n36 C35 (rv c0 c1) (rv e0 e1) := room35.nc.sub sN36
      replace tB := (tB.sub S35).nc.sub sN36
      replace tF := (tF.sub S35).nc.sub sN36
      replace tU := (tU.sub S35).nc.sub sN36
      replace hdue := (hdue.sub S35).nc.sub sN36
      replace hsh := (hsh.sub S35).nc.sub sN36
      replace mE5 := sxR _ (S35 _ mE5) xER
      replace mA5 := sxR _ (S35 _ mA5) xAR
      replace mP5 := sxR _ (S35 _ mP5) (Ne.symm xR5)
      replace mQ5 := sxR _ (S35 _ mQ5) (Ne.symm xR3)
      replace ho11 := sxR _ (S35 _ ho11) (Ne.symm xRs)
      clear mR5 S35 sxR sN36 lD7 tC0 tC1 t31 t32 hC35 s31 s32 s35 si1 si2 ti1 ti2
      k_extra "q"
      with_reducible refine Ex1.assignN (ca := (L' + 1 + 1)) ?_ (by k_extra "w")
      with_reducible refine Ev.mono (R' := fun pv n => Sub n36 n ∧ ShapeOk w n pv sh) ?_ fun pv37 n37 ⟨s37, hS37⟩ => ?_
      · with_reducible refine Ev.ifexp ?_
        k_extra "t"
        k_extra "n"
        k_extra "no"
        rcases sh with _ | q9
        · have e9 : p11 = .none := hsh
          subst e9
          with_reducible refine Op.isI (r := false) rfl ⟨true, rfl, fun _ => ?_, fun e => nomatch e⟩
          k_extra "no"
          exact ⟨Sub.refl _, rfl⟩
        · obtain ⟨D9, x9, y9, e9, t9, b9, r9⟩ := hsh
          subst e9
          with_reducible refine Op.isI (r := true) rfl ⟨false, rfl, (fun e => nomatch e), fun _ => ?_⟩
          refine shapeb_c (by decide) (by decide) ?_
          k_extra "c"
          with_reducible refine Ev.tupII fun I1 j1 sj1 tj1 => ?_
          k_extra "c"
          with_reducible refine Ev.tupII fun I2 j2 sj2 tj2 => ?_
          k_extra "c"
          k_extra "n"
          k_extra "c"
          with_reducible refine Ev.tupII fun I3 j3 sj3 tj3 => ?_
          k_extra "z"
          exact shapeb_k fun B9 n39 s39 hB9 => ⟨(by k_extra "sb9"), B9, _, _, _, _, rfl, hB9, R2.of (t9.sub (by k_extra "sb9")) b9 r9, r2_of tj3 (by k_extra "sb9") (by unfold Bd; decide) rfl⟩
      refine ⟨oA, Option.none, s37 _ mA5, dA, fun oA2 vA n38 jA dA2 sxA sN38 hA38 => ⟨rfl, ?_⟩⟩
      replace hS37 := hS37.nc.sub sN38
      replace tB := (tB.sub s37).nc.sub sN38
      replace tF := (tF.sub s37).nc.sub sN38
      replace tU := (tU.sub s37).nc.sub sN38
      replace hdue := (hdue.sub s37).nc.sub sN38
      replace room := (room.sub s37).nc.sub sN38
      replace mE5 := sxA _ (s37 _ mE5) (Ne.symm xAE)
      replace hR36 := sxA _ (s37 _ hR36) (Ne.symm xAR)
      replace mP5 := sxA _ (s37 _ mP5) (Ne.symm xA5)
      replace mQ5 := sxA _ (s37 _ mQ5) (Ne.symm xA3)
      replace ho11 := sxA _ (s37 _ ho11) (Ne.symm xAs)
      clear mA5 sxA sN38 s37 hsh
      with_reducible refine ExS.head ?_
      rcases due with _ | q6
      · have e9 : pd = .str (Str.ofString "refused") := hdue
        subst e9
        with_reducible refine ExS.heardX (P := 577) (clos := [(Str.ofString "room", L' + 1 + 1 + 1 + 1), (Str.ofString "elements", L' + 1 + 1 + 1), (Str.ofString "around", L' + 1 + 1)]) (fun h X => codeHd_of_K (c := 579) (P := 577) X (by kernel_rfl)) mP5 (by k_is) (by k_is) (fun f9 nf hL sx sn _ => lam_x hL (d' := 255) (u' := 2005) ?_ (by decide) (by decide)) (fun nf sx sn hp9 => ⟨rfl, ?_⟩) (by decide) (by decide)
        · refine XEv.call (f := 419) (d' := 250) (u' := 2000) (fun w => by kernel_rfl) (fun w => by kernel_rfl) ?_ (by decide) (by decide)
          refine Evs.cons (Ev.nameC (sx _ mE5 xE5) dE' (pv := .ref Gx) rfl ?_ (by k_extra "w") fun _ => .inr (by k_extra "w"))
          refine Evs.cons (Ev.nameC (sx _ hR36 xR5) dR2 (pv := .ref C35) rfl ?_ (by k_extra "w") fun _ => .inr (by k_extra "w"))
          refine Evs.cons (Ev.nameC (sx _ hA38 xA5) dA2 (pv := pv37) jA ?_ (by k_extra "w") fun _ => .inr (by k_extra "w"))
          exact Evs.nil ⟨Sub.refl _, hspec nf Gx C35 pv37 (tB.nc.sub sn) (tF.nc.sub sn) (tU.nc.sub sn)⟩
        · have ho12 := sx _ ho11 xs5
          have mQ6 := sx _ mQ5 (show @Ne Nat 513 577 by decide)
          obtain ⟨ps9, hp9⟩ := hp9
          k_extra "e"
          k_extra "f"
          with_reducible refine Tst.or2 ?_
          k_extra "t"
          k_extra "n"
          k_extra "s"
          with_reducible refine Op.eqS ⟨_, rfl, Two.yes (by decide +kernel) (Two.yes rfl ?_)⟩
          k_extra "e"
          k_extra "r"
          k_extra "cm"
          k_extra "n"
          k_extra "n"
          with_reducible refine Op.eqS ?_
          k_extra "xr"
          k_extra "xr"
          refine up0 _ _ _ ?_
          exact ⟨[(src, o11), (577, tabObj ps9), (513, tabObj ps)], ⟨o11, ps9, congrArg PV.bool (beq_self_eq_true _), rfl, hs11⟩, three_in (ho12) (hp9) (mQ6)⟩
      · obtain ⟨Dd, e9, hDd⟩ := hdue
        subst e9
        with_reducible refine ExS.heardOk (P := 577) (clos := [(Str.ofString "room", L' + 1 + 1 + 1 + 1), (Str.ofString "elements", L' + 1 + 1 + 1), (Str.ofString "around", L' + 1 + 1)]) (fun h X => codeHd_of_K (c := 579) (P := 577) X (by kernel_rfl)) mP5 (by k_is) (by k_is) (fun f9 nf hL sx sn hp9 => lam_k hL (d' := 255) (u' := 2005) ?_ (by decide) (by decide)) (by decide) (by decide)
        have ho12 := sx _ ho11 xs5
        have mQ6 := sx _ mQ5 (show @Ne Nat 513 577 by decide)
        obtain ⟨ps9, hp9⟩ := hp9
        replace hDd := hDd.nc.sub sn
        refine cm_c (by decide) (by decide) ?_
        refine Evs.cons (Ev.nameC (sx _ mE5 xE5) dE' (pv := .ref Gx) rfl ?_ (by k_extra "w") fun _ => .inr (by k_extra "w"))
        refine Evs.cons (Ev.nameC (sx _ hR36 xR5) dR2 (pv := .ref C35) rfl ?_ (by k_extra "w") fun _ => .inr (by k_extra "w"))
        refine Evs.cons (Ev.nameC (sx _ hA38 xA5) dA2 (pv := pv37) jA ?_ (by k_extra "w") fun _ => .inr (by k_extra "w"))
        refine Evs.nil (hspec nf Gx C35 pv37 _ (tB.nc.sub sn) (tF.nc.sub sn) (tU.nc.sub sn) (room.nc.sub sn) (hS37.nc.sub sn) fun M n40 s40 hM => ⟨rfl, ?_⟩)
        replace ho12 := s40 _ ho12
        replace mQ6 := s40 _ mQ6
        replace hp9 := s40 _ hp9
        replace hDd := hDd.sub s40
        obtain ⟨B1, B2, B3, B4, B5, B6, lDd, k1, k2, k3, k4, k5, k6⟩ := hDd
        have hM2 := hM
        obtain ⟨dM, _, _, _, _, _, _, _, _, _, _, _, _, hM3, hM4, _⟩ := hM2
        k_extra "e"
        k_extra "f"
        with_reducible refine Tst.or2 ?_
        k_extra "t"
        k_extra "n"
        k_extra "s"
        refine Op.eqIS hM3 hM4 (by k_is) (by k_is) (by rfl) ⟨false, rfl, Two.no rfl ?_⟩
        k_extra "t"
        k_extra "n"
        k_extra "s"
        with_reducible refine Op.eqLS lDd ⟨false, rfl, Two.no rfl ?_⟩
        k_extra "en"
        k_extra "x"
        k_extra "e"
        k_extra "r"
        k_extra "cm"
        with_reducible refine Ev.zipComp ?_ (by k_is) (by k_extra "w") (by decide +kernel)
        k_extra "c"
        refine Ev.meth0 (f := 243) (by k_extra "w") hM3 hM4 (by k_is) (by k_is) (by k_is) (by rfl) (by k_is) (row_spec hM fun n41 D41 A1 A2 A3 A4 A5 A6 s41 t41 r1 r2 r3 r4 r5 r6 => ?_) (by decide) (by decide)
        k_extra "c"
        k_extra "n"
        k_extra "z"
        refine ⟨D41, Dd, [A1, A2, A3, A4, A5, A6], [B1, B2, B3, B4, B5, B6], rfl, t41, lDd.sub s41, by with_unfolding_all exact Nat.le_of_ble_eq_true rfl, ⟨R2.cross r1 (k1.sub s41), R2.cross r2 (k2.sub s41), R2.cross r3 (k3.sub s41), R2.cross r4 (k4.sub s41), R2.cross r5 (k5.sub s41), R2.cross r6 (k6.sub s41), trivial⟩, fun D42 n42 s42 l42 => ?_⟩
        with_reducible refine Ev.list0 fun D43 a43 => ?_
        refine Op.eqLL (xs := []) (ys := []) (LstAt.sub l42 (Sub.tail (Sub.refl _))) ⟨[], _, .head _, trivial⟩ ?_
        k_extra "xr"
        refine up0 _ _ _ ?_
        exact ⟨[(src, o11), (577, tabObj ps9), (513, tabObj ps)], ⟨o11, ps9, rfl, rfl, hs11⟩, three_in (.tail _ (s42 _ (s41 _ ho12))) (.tail _ (s42 _ (s41 _ hp9))) (.tail _ (s42 _ (s41 _ mQ6)))⟩
end
end
section
open PySem PySem.W PyProof.Rows PyProof.V PySem.Spec PySem.Calls
theorem strsP (ss : List Str) : All2 (LitP []) (ss.map PV.str) (ss.map PyData.str) := by
  induction ss with
  | nil => trivial
  | cons x r ih => exact ⟨litP_str, ih⟩
theorem strP_of {ss : List Str} {p : PV} {dd : PyData} (h : LitP [] p dd) (hd : dd ∈ ss.map PyData.str) : ∃ x, p = .str x ∧ x ∈ ss := by
  obtain ⟨x, hx, rfl⟩ := List.mem_map.mp hd
  obtain ⟨v, i, l⟩ := h
  obtain ⟨t, rfl⟩ := (lit_str l).str
  refine ⟨x, ?_, hx⟩
  cases p <;> first | exact i.elim | exact congrArg PV.str (Eq.symm i)
noncomputable def optP : Option Str → PV
  | none => .none
  | some x => .str x
theorem optV_of {o : Option Str} {v : Value} (h : PvIs v (optP o)) : OptV o v := by
  cases o with
  | none => obtain rfl := h.none; exact .none
  | some x => obtain ⟨t, rfl⟩ := h.str; exact .some x t
theorem optV_pv {o : Option Str} {v : Value} (h : OptV o v) : PvIs v (optP o) := by
  cases h with
  | none => trivial
  | some x t => exact rfl
section
variable {sc : Sc} {cc : Addr} {d u : Nat} {w : World} {m : Nms} {n n0 : Led} {R : PV → Led → Prop} {S : PF → Nms → Led → Prop}
theorem Op.neTT {D1 D2 : Addr} {o : Option Str} {r : Str} (h1 : TupAt n D1 [optP o, .str r]) (h2 : TupAt n D2 [optP o, .str r]) (hr : PyData.strOk r = true) (ho : o.all PyData.strOk = true) (hu : 64 ≤ u) (h : R (.bool false) n) : Op sc d u w m n [.ref D1, .ref D2] (cmT .NotEq) R := by
  intro vs hv c hc s Q E A q
  k_extra "v"
  obtain rfl := i1.ref
  obtain rfl := i2.ref
  k_extra "oa"
  obtain ⟨ws1, c1, m1, a1⟩ := h1
  obtain ⟨x1, y1, rfl, j1, k1⟩ := all2_2 a1
  obtain ⟨t1, rfl⟩ := k1.str
  obtain ⟨ws2, c2, m2, a2⟩ := h2
  obtain ⟨x2, y2, rfl, j2, k2⟩ := all2_2 a2
  obtain ⟨t2, rfl⟩ := k2.str
  exact ne_opt N m1 m2 (optV_of j1) (optV_of j2) hr ho (Nat.lt_of_le_of_lt (Nat.add_le_add_left hu _) hc.hu) (q _ (.bool false) n s.heap s.toks rfl h ⟨m', hm', F, N⟩)
theorem Op.eqB {a b : Bool} (h : R (.bool (a == b)) n) : Op sc d u w m n [.bool a, .bool b] (cmT .Eq) R := by
  intro vs hv c hc s Q E A q
  k_extra "v"
  obtain rfl := i1.bool
  obtain rfl := i2.bool
  exact SeqAt.RcAt.bool_bool a b PG w E Q (q _ (.bool (a == b)) n s.heap s.toks rfl h A)
theorem cutp_k {X bl r : Str} {o : Option Str} (hP : TextFine X o r) (hb : bl ∈ blanks) (k : ∀ D n', Sub n n' → TupAt n' D [optP o, .str r] → R (.ref D) n') : PCl 20 160 393 w [.str (bl ++ X ++ bl)] n R := by
  intro vs hv
  obtain ⟨v1, rfl, i1⟩ := all2_1 hv
  obtain ⟨t, rfl⟩ := i1.str
  refine cl_mono (cut_fine2 hP hb) ?_
  rintro v nw ⟨D, v1, t, c, rfl, rfl, _, ho⟩
  exact ⟨.ref D, rfl, k D _ (Sub.tail (Sub.refl _)) ⟨_, c, .head _, optV_pv ho, rfl, trivial⟩⟩
theorem cutp_x {b nm : Str} (hb : b ∈ besides) (hn : nm ∈ names3) : PX 60 320 393 w [.str (Str.ofString "url(#" ++ nm ++ aftP b)] n := by
  intro vs hv
  obtain ⟨v1, rfl, i1⟩ := all2_1 hv
  obtain ⟨t, rfl⟩ := i1.str
  exact cut_raise2 hb hn
theorem current_k {x : Str} (hx : x.length ≤ 20) (h : R (.bool (Txt.lower x == Str.ofString "currentcolor")) n) : PCl 10 80 412 w [.str x] n R := by
  intro vs hv
  obtain ⟨v1, rfl, i1⟩ := all2_1 hv
  obtain ⟨t, rfl⟩ := i1.str
  refine cl_mono (current_spec hx) ?_
  rintro v nw ⟨rfl, rfl, _⟩
  exact ⟨.bool _, rfl, h⟩
theorem Ex1.swap2C {x1 x2 : Str} {p1 p2 : Pos} {k : Nat} {tp p : Pos} {e : Expr} {ca : Addr} (h : Ev sc d u w m n e fun pv n1 => ∃ D q1 q2 o v₀, pv = .ref D ∧ TupAt n1 D [q1, q2] ∧ (ca, o) ∈ n1 ∧ o.data = .cell v₀ ∧ ∀ o' v n2, PvIs v q2 → o'.data = .cell (some v) → SubX ca n1 n2 → (ca, o') ∈ n2 → S .next ((x1, q1) :: m) n2)
    (hc : sc.cl.lookup x2 = some ca) (hx : autoParam (∀ c : Fc w, (c.env sc).kindOf x1 = some .local) aY) (hx2 : autoParam (∀ c : Fc w, (c.env sc).kindOf x2 = some .cell) aY)
    (h1 : autoParam (∀ c : Fc w, swapsWithSole [Expr.Tuple [.Name x1 p1, .Name x2 p2] k tp] e p.line (c.env sc) = pure false) aY) (h2 : autoParam (∀ c : Fc w, swappedStores [Expr.Tuple [.Name x1 p1, .Name x2 p2] k tp] e (c.env sc) = pure none) aY) :
    Ex1 sc d u w m n (.Assign [.Tuple [.Name x1 p1, .Name x2 p2] k tp] e p) S := by
  intro c hok s Q E A q
  refine Assign_Tuple (h c hok s _ E A fun v pv n1 h1' t1 i1 r1 A1 => ?_) (h1 c) (h2 c)
  obtain ⟨D, q1, q2, o, v₀, rfl, ⟨vs, ck, hm, hv⟩, hca, hd, r2⟩ := r1
  obtain ⟨v1, v2, rfl, j1, j2⟩ := all2_2 hv
  obtain rfl := i1.ref
  obtain ⟨m', hm', F, N⟩ := A1
  refine unpackN_ (s := { s with heap := h1', toks := t1 }) (items := #[v1, v2]) F N (N.isTup hm) rfl rfl rfl fun h' F' N' => ?_
  refine assignInOrder_cons (PyProof.Rows.assign_Name (store_rule (s := { s with heap := h', toks := _ }) hok (hx c) ⟨m', hm', F', N'⟩ j1 fun h3 t3 A3 => ?_))
  obtain ⟨m5, hm5, F5, N5⟩ := A3
  refine assignInOrder_cons (PyProof.Rows.assign_Name (storeX_C (s := { s with heap := h3, toks := t3 }) F5 (fun p hp => N5 p (updL_of hca p hp)) hc (updL_upd (n := n1)) hd (fun h6 o' F6 N6 hd' => ?_) hok.hk (hx2 c)))
  exact assignInOrder_nil (q .next .next _ _ h6 t3 trivial (r2 o' v2 _ j2 hd' updL_sub (.head _)) ⟨m5, hm5, F6, N6⟩)
theorem ExS.ifHeard {fx : Str} {a : Expr} {thn : List Stmt} {params : Arguments} {body : Expr} {scope : Scope} {clos : List (Str × Addr)} {P : Addr} {lp fp cp sp bp cmp ip : Pos} {ks : Nat}
    (h : Tst sc d u w m n a fun b n1 => b = false ∧ (P, tabObj #[]) ∈ n1 ∧ (∀ f nf, LamAt nf f params body scope clos → SubX P n1 nf → Cx w 260 2010 f [] nf) ∧ ∀ nf ps, SubX P n1 nf → (P, tabObj ps) ∈ nf → S .next m nf)
    (hC : ∀ h, (Mine.hd.heap_1 w.params).In h → CodeHd h cc P) (hf : nsIn (Mine.hd.heap_1 w.params) mainGlobals fx = some (some (.ref 511))) (hk : keepIn (Mine.hd.heap_1 w.params) (.ref 511) = true) (hd : 280 ≤ d) (hu : 2170 ≤ u)
    (hcl : autoParam (∀ c : Fc w, closureFor scope (c.env sc) = pure clos) aY) (hdef : autoParam (∀ env, defaultsOf params env = ([], [])) aY) (hx : autoParam (∀ c : Fc w, (c.env sc).kindOf fx = some .globalImplicit) aY) (hg : autoParam ((fx == Str.ofString "__debug__") = false) aW)
    (e1 : autoParam (∀ env, eval ((Expr.Name fx fp).Call [.Lambda params body scope lp] [] cp) env = (do let v ← eval (Expr.Name fx fp) env; callWith cp v [] (backTo cp (starEach [.Lambda params body scope lp] env)) (backToKw cp (keywordEach [] env)))) aY)
    (e2 : autoParam (∀ env, starEach [.Lambda params body scope lp] env = (false, eval (.Lambda params body scope lp) env) :: starEach [] env) aY) :
    ExS sc cc d u w m n (fun env => exec (.If (.BoolOp .Or [a, .Compare (.Call (.Name fx fp) [.Lambda params body scope lp] [] cp) [.NotEq] [.Constant (.str (Str.ofString "refused")) ks sp] cmp] bp) thn [] ip) env) S := by
  intro c hc hb s Q E A q
  refine wpAny_If (wpAny_isTrue_BoolOp (wpAny_allTrue_Or_cons (h c hc s _ E A fun v pv n1 h1 t1 i1 r1 A1 => ?_)))
  obtain rfl := i1
  obtain ⟨rfl, hP, k, k2⟩ := r1
  refine wpAny_allTrue_Or_cons (wpAny_isTrue_Compare1 (heard_arg (s := { s with heap := h1, toks := t1 }) hc hb A1 hC hP hf hk hdef (hcl c) (hx c) hg e1 e2 fun f nf h' tk' hL hs' hn' hp' A' => ?_) rfl)
  have hL2 := hL
  obtain ⟨_, _, _, _, _, _, _, _, hf1, _⟩ := hL2
  obtain ⟨m1, hm1, F1, N1⟩ := A'
  refine heard_raise (d := 260) (u := 2010) hf1 (k f nf hL hs') (by decide) (by decide) _ _ _ _ _ _ _ _ _ _ _ _ _ _ _ _ _ _ _ _ _ hb.XB hb.TB hc.B F1 hc.X N1 hc.T hc.hk (Nat.lt_of_le_of_lt (Nat.add_le_add_left hd _) hc.hd) (Nat.lt_of_le_of_lt (Nat.add_le_add_left hu _) hc.hu) fun g2 t2 h2 tk2 B2 F2 N2 X2 T2 S2 Z2 => ?_
  have hc2 : Fc.Ok { c with g := g2 } sc d u := ⟨B2, X2, T2, hc.hk, hc.hd, hc.hu⟩
  refine wpAny_Constant_str (PyProof.Rows.ne_str ?_)
  rw [refused9]
  refine wpAny_truthy_bool ?_
  obtain ⟨ps, hp⟩ := hp'
  refine wpAny_allTrue_Or_nil ?_
  exact wpAny_execs_nil (q { c with g := g2 } .next .next m nf h2 _ hc2 ⟨hb.XB, hb.TB, S2, hb.cd⟩ ⟨g2, rfl, Z2⟩ trivial (k2 nf ps hs' hp) ⟨m1, hm1, F2, N2⟩)
end
structure CT (src cN cA : Addr) (o oN oA : Obj) (n : Led) : Prop where
  nd : [src, cN, cA, 577, 513].Nodup
  hs : (src, o) ∈ n
  hN : (cN, oN) ∈ n
  hA : (cA, oA) ∈ n
  h7 : (577, tabObj #[]) ∈ n
  h3 : (513, tabObj #[]) ∈ n
section
variable {src cN cA : Addr} {o o' oN oA : Obj} {n n' : Led}
theorem CT.sub (T : CT src cN cA o oN oA n) (s : Sub n n') : CT src cN cA o oN oA n' := ⟨T.nd, s _ T.hs, s _ T.hN, s _ T.hA, s _ T.h7, s _ T.h3⟩
theorem CT.ne (T : CT src cN cA o oN oA n) : (@Ne Nat cN src ∧ @Ne Nat cA src ∧ @Ne Nat 577 src ∧ @Ne Nat 513 src) ∧ (@Ne Nat src cN ∧ @Ne Nat cA cN ∧ @Ne Nat 577 cN ∧ @Ne Nat 513 cN) ∧ (@Ne Nat src cA ∧ @Ne Nat cN cA ∧ @Ne Nat 577 cA ∧ @Ne Nat 513 cA) ∧ @Ne Nat src 513 ∧ @Ne Nat cN 513 ∧ @Ne Nat cA 513 := by
  have nd := T.nd
  simp only [List.nodup_cons, List.mem_cons, List.not_mem_nil, or_false, not_or] at nd
  obtain ⟨⟨a1, a2, a3, a4⟩, ⟨b1, b2, b3⟩, ⟨c1, c2⟩, _⟩ := nd
  exact ⟨⟨Ne.symm a1, Ne.symm a2, Ne.symm a3, Ne.symm a4⟩, ⟨a1, Ne.symm b1, Ne.symm b2, Ne.symm b3⟩, ⟨a2, b1, Ne.symm c1, Ne.symm c2⟩, a4, b3, c2⟩
theorem CT.src' (T : CT src cN cA o oN oA n) (s : SubX src n n') (h : (src, o') ∈ n') : CT src cN cA o' oN oA n' := by
  obtain ⟨⟨a, b, c, e⟩, _⟩ := T.ne
  exact ⟨T.nd, h, s _ T.hN a, s _ T.hA b, s _ T.h7 c, s _ T.h3 e⟩
theorem CT.nm (T : CT src cN cA o oN oA n) (s : SubX cN n n') (h : (cN, o') ∈ n') : CT src cN cA o o' oA n' := by
  obtain ⟨_, ⟨a, b, c, e⟩, _⟩ := T.ne
  exact ⟨T.nd, s _ T.hs a, h, s _ T.hA b, s _ T.h7 c, s _ T.h3 e⟩
theorem CT.af (T : CT src cN cA o oN oA n) (s : SubX cA n n') (h : (cA, o') ∈ n') : CT src cN cA o oN o' n' := by
  obtain ⟨_, _, ⟨a, b, c, e⟩, _⟩ := T.ne
  exact ⟨T.nd, s _ T.hs a, s _ T.hN b, h, s _ T.h7 c, s _ T.h3 e⟩
theorem CT.start {L' : Addr} (h1 : @Ne Nat src 577) (h13 : @Ne Nat src 513) (l2 : @LT.lt Nat _ src L') (l3 : @LT.lt Nat _ 577 L') : CT src (L' + 1 + 1) (L' + 1) o oN oA ([(L' + 1 + 1, oN), (L' + 1, oA)] ++ [(src, o), (577, tabObj #[]), (513, tabObj #[])]) := by
  refine ⟨?_, by simp, by simp, by simp, by simp, by simp⟩
  have nat : ∀ (s l : Nat), s ≠ 577 → s ≠ 513 → s < l → 577 < l → [s, l + 1 + 1, l + 1, 577, 513].Nodup := by
    intro s l q1 q2 q3 q4
    simp only [List.nodup_cons, List.mem_cons, List.not_mem_nil, or_false, not_or, List.nodup_nil, not_false_eq_true, and_true]
    omega
  exact nat src L' h1 h13 l2 l3
end
noncomputable abbrev WDS : List PyData := [.tuple [.str (Str.ofString "currentColor"), .bool true], .tuple [.str (Str.ofString "CURRENTcolor"), .bool true], .tuple [.str (Str.ofString "currentColor "), .bool false], .tuple [.str (Str.ofString "current"), .bool false], .tuple [.str (Str.ofString ""), .bool false]]
theorem wd_lit {f : Led} {D : Addr} {vs : List Value} {c : Nat} {x : Str} {b : Bool} (hm : (D, tup vs c) ∈ f) (h : All2 PvIs vs [.str x, .bool b]) : LitP f (.ref D) (.tuple [.str x, .bool b]) := by
  obtain ⟨v1, v2, rfl, i1, i2⟩ := all2_2 h
  obtain ⟨_, rfl⟩ := i1.str
  obtain rfl := i2.bool
  exact ⟨.ref D, rfl, .inr ⟨D, _, c, _, rfl, hm, rfl, .inl rfl, .inl rfl, trivial⟩⟩
theorem wd_of {f : Led} {p : PV} {dd : PyData} (h : LitP f p dd) (hd : dd ∈ WDS) : ∃ D x b, p = .ref D ∧ TupAt f D [.str x, .bool b] ∧ x.length ≤ 20 ∧ (Txt.lower x == Str.ofString "currentcolor") = b := by
  obtain ⟨v, i, l⟩ := h
  have key : ∀ x b, LitIs f 3 v (.tuple [.str x, .bool b]) → x.length ≤ 20 → (Txt.lower x == Str.ofString "currentcolor") = b → ∃ D x b, p = .ref D ∧ TupAt f D [.str x, .bool b] ∧ x.length ≤ 20 ∧ (Txt.lower x == Str.ofString "currentcolor") = b := by
    intro x b l hx hb
    obtain ⟨D, vs, c, rfl, hm, hv⟩ := lit_tup l
    obtain ⟨v1, v2, rfl, h1, h2⟩ : ∃ v1 v2, vs = [v1, v2] ∧ LitIs f 2 v1 (.str x) ∧ LitIs f 2 v2 (.bool b) := by
      cases vs with
      | nil => exact hv.elim
      | cons v1 r => cases r with
        | nil => exact hv.2.elim
        | cons v2 r => cases r with
          | nil => exact ⟨v1, v2, rfl, hv.1, hv.2.1⟩
          | cons => exact hv.2.2.elim
    exact ⟨D, x, b, by cases p <;> first | exact i.elim | exact congrArg PV.ref (Eq.symm i), ⟨_, c, hm, lit_str h1, lit_bool h2, trivial⟩, hx, hb⟩
  simp only [WDS, List.mem_cons, List.not_mem_nil, or_false] at hd
  rcases hd with rfl | rfl | rfl | rfl | rfl
  · exact key _ _ l (by decide +kernel) (by decide +kernel)
  · exact key _ _ l (by decide +kernel) (by decide +kernel)
  · exact key _ _ l (by decide +kernel) (by decide +kernel)
  · exact key _ _ l (by decide +kernel) (by decide +kernel)
  · exact key _ _ l (by decide +kernel) (by decide +kernel)
end
section
open PySem PySem.W PyProof.Rows PyProof.V PySem.Spec
open PySem.Calls
section
variable {sc : Sc} {cc : Addr} {d u : Nat} {w : World} {m : Nms} {n n0 : Led} {R : PV → Led → Prop} {S : PF → Nms → Led → Prop}
theorem five_in {a b c e f : Addr × Obj} {n : Led} (h1 : a ∈ n) (h2 : b ∈ n) (h3 : c ∈ n) (h4 : e ∈ n) (h5 : f ∈ n) : Sub [a, b, c, e, f] n := fun p hp => by
  simp only [List.mem_cons, List.not_mem_nil, or_false] at hp
  rcases hp with rfl | rfl | rfl | rfl | rfl
  · exact h1
  · exact h2
  · exact h3
  · exact h4
  · exact h5
theorem cutp_c {fp p : Pos} {e : Expr} {es : List Expr} (hd : 20 ≤ d) (hu : 160 ≤ u) (h : Evs sc d u w m n p (e :: es) (KCall 20 160 393 w R)) (hx : autoParam (∀ c : Fc w, (c.env sc).kindOf (Str.ofString "cut_paint") = some .globalImplicit) aY)
    (h1 : autoParam (CallEq (Str.ofString "cut_paint") fp p e es) aY)
    (h2 : autoParam (StarEq e es) aY) (h3 : autoParam (NoStar p es) aY) : Ev sc d u w m n (.Call (.Name (Str.ofString "cut_paint") fp) (e :: es) [] p) R :=
  Ev.call (f := 393) (fun w => by kernel_rfl) (fun w => by kernel_rfl) h hd hu hx (by k_extra "w") h1 h2 h3
theorem current_c {fp p : Pos} {e : Expr} {es : List Expr} (hd : 10 ≤ d) (hu : 80 ≤ u) (h : Evs sc d u w m n p (e :: es) (KCall 10 80 412 w R)) (hx : autoParam (∀ c : Fc w, (c.env sc).kindOf (Str.ofString "is_current") = some .globalImplicit) aY)
    (h1 : autoParam (CallEq (Str.ofString "is_current") fp p e es) aY)
    (h2 : autoParam (StarEq e es) aY) (h3 : autoParam (NoStar p es) aY) : Ev sc d u w m n (.Call (.Name (Str.ofString "is_current") fp) (e :: es) [] p) R :=
  Ev.call (f := 412) (fun w => by kernel_rfl) (fun w => by kernel_rfl) h hd hu hx (by k_extra "w") h1 h2 h3
theorem cutr_k {src : Addr} {o : Obj} (hs : SrcOk o) (h1 : @Ne Nat src 577) (h13 : @Ne Nat src 513) :
    Cb w 300 2400 518 [.ref src] [(src, o), (577, tabObj #[]), (513, tabObj #[])] (fun v nw => ∃ pv, PvIs v pv ∧ ∃ o' ps', pv = .bool true ∧ nw = [(src, o'), (577, tabObj #[]), (513, tabObj ps')] ∧ SrcOk o') := by
  refine Cb.enterC (cc := 517) (d' := 295) (u' := 2390) (x := Str.ofString "source") (pv := .ref src) (R := fun pv nw => ∃ o' ps', pv = .bool true ∧ nw = [(src, o'), (577, tabObj #[]), (513, tabObj ps')] ∧ SrcOk o') (by k_is) (by k_is) rfl rfl (fun _ => BindsTo.of_eq rfl) (by decide +kernel) (by decide +kernel) (fun _ _ _ => .inl (by k_extra "w")) ?_ (by decide) (by decide) (fun _ _ _ => by with_unfolding_all eq_refl)
  intro L' cells cm l1 Y hcm hcs
  have l2 := l1 _ (.head _)
  have l3 := l1 _ (.tail _ (.head _))
  have l4 := l1 _ (.tail _ (.tail _ (.head _)))
  clear l1
  obtain ⟨oN, oA, rfl, dN, dA⟩ := CellsAre.two (n := Str.ofString "name") (n' := Str.ofString "after") Y
  rw [hcm _ (by decide)] at dN dA
  clear Y hcm hcs
  rw [if_pos (by decide +kernel)]
  refine ExS.abs fun S0 up0 => ?_
  have T0 := CT.start (o := o) (oN := oN) (oA := oA) h1 h13 l2 l3
  clear l2 l3 l4
  k_extra "q"
  refine Ex1.swap2C (ca := (L' + 1 + 1)) ?_ (by k_extra "w")
  k_extra "tu"
  k_extra "c"
  refine take_c (by decide) (by decide) ?_
  k_extra "c"
  k_extra "n"
  k_extra "c"
  k_extra "i"
  k_extra "z"
  refine take_k T0.hs hs (by decide) (by decide) fun x1 o1 n1 sx1 ho1 hs1 g1 h1 => ?_
  have T1 := T0.src' sx1 ho1
  clear sx1 ho1
  k_extra "c"
  refine one_c (by decide) (by decide) ?_
  k_extra "c"
  k_extra "n"
  k_extra "c"
  k_extra "lf"
  k_extra "c"
  k_extra "s"
  k_extra "c"
  k_extra "s"
  k_extra "c"
  k_extra "s"
  k_extra "z"
  refine ⟨by with_unfolding_all exact Nat.le_of_ble_eq_true rfl, fun T2l a2 s2 w2 l2 => ?_⟩
  k_extra "z"
  refine draw_k (f := []) (ds := names3.map PyData.str) (s2 _ T1.hs) hs1 l2 (fun e => w2 _ T1.hs e.symm) (strsP names3) (by decide) fun p2 o2 dd2 n2 sx2 ho2 hs2 hd2 hl2 => ?_
  obtain ⟨x2, e2, hx2⟩ := strP_of hl2 hd2
  subst e2
  have T2 := (T1.sub s2).src' sx2 ho2
  clear hl2 hd2 l2 w2 s2 sx2 ho2
  k_extra "z"
  refine ⟨by with_unfolding_all exact Nat.le_of_ble_eq_true rfl, fun D3 n3 s3 t3 => ⟨D3, _, _, oN, Option.none, rfl, t3, (T2.sub s3).hN, dN, fun oN2 vN n4 jN dN2 sxN hN => ⟨rfl, ?_⟩⟩⟩
  have T4 := (T2.sub s3).nm sxN hN
  obtain ⟨tN, rfl⟩ := jN.str
  clear T2 T1 s3 t3 sxN hN
  k_extra "q"
  k_extra "a"
  refine one_c (by decide) (by decide) ?_
  k_extra "c"
  k_extra "n"
  k_extra "c"
  k_extra "lf"
  k_extra "c"
  k_extra "s"
  k_extra "c"
  k_extra "s"
  k_extra "c"
  k_extra "s"
  k_extra "z"
  refine ⟨by with_unfolding_all exact Nat.le_of_ble_eq_true rfl, fun T5l a5 s5 w5 l5 => ?_⟩
  k_extra "z"
  refine draw_k (f := []) (ds := besides.map PyData.str) (s5 _ T4.hs) hs2 l5 (fun e => w5 _ T4.hs e.symm) (strsP besides) (by decide) fun p5 o5 dd5 n5 sx5 ho5 hs5 hd5 hl5 => ?_
  obtain ⟨x5, e5, hx5⟩ := strP_of hl5 hd5
  subst e5
  have T5 := (T4.sub s5).src' sx5 ho5
  clear hl5 hd5 l5 w5 s5 sx5 ho5
  refine ⟨rfl, ?_⟩
  k_extra "q"
  with_reducible refine Ex1.swap3 ?_
  k_extra "tu"
  k_extra "c"
  refine one_c (by decide) (by decide) ?_
  k_extra "c"
  k_extra "n"
  k_extra "c"
  k_extra "lf"
  k_extra "c"
  k_extra "s"
  k_extra "c"
  k_extra "s"
  k_extra "z"
  refine ⟨by with_unfolding_all exact Nat.le_of_ble_eq_true rfl, fun T6l a6 s6 w6 l6 => ?_⟩
  k_extra "z"
  refine draw_k (f := []) (ds := gaps.map PyData.str) (s6 _ T5.hs) hs5 l6 (fun e => w6 _ T5.hs e.symm) (strsP gaps) (by decide) fun p6 o6 dd6 n6 sx6 ho6 hs6 hd6 hl6 => ?_
  obtain ⟨x6, e6, hx6⟩ := strP_of hl6 hd6
  subst e6
  have T6 := (T5.sub s6).src' sx6 ho6
  clear hl6 hd6 l6 w6 s6 sx6 ho6
  k_extra "c"
  refine one_c (by decide) (by decide) ?_
  k_extra "c"
  k_extra "n"
  k_extra "c"
  k_extra "lf"
  k_extra "c"
  k_extra "s"
  k_extra "c"
  k_extra "s"
  k_extra "c"
  k_extra "s"
  k_extra "z"
  refine ⟨by with_unfolding_all exact Nat.le_of_ble_eq_true rfl, fun T7l a7 s7 w7 l7 => ?_⟩
  k_extra "z"
  refine draw_k (f := []) (ds := quotes.map PyData.str) (s7 _ T6.hs) hs6 l7 (fun e => w7 _ T6.hs e.symm) (strsP quotes) (by decide) fun p7 o7 dd7 n7 sx7 ho7 hs7 hd7 hl7 => ?_
  obtain ⟨x7, e7, hx7⟩ := strP_of hl7 hd7
  subst e7
  have T7 := (T6.sub s7).src' sx7 ho7
  clear hl7 hd7 l7 w7 s7 sx7 ho7
  k_extra "c"
  refine one_c (by decide) (by decide) ?_
  k_extra "c"
  k_extra "n"
  k_extra "c"
  k_extra "lf"
  k_extra "c"
  k_extra "s"
  k_extra "c"
  k_extra "s"
  k_extra "c"
  k_extra "s"
  k_extra "z"
  refine ⟨by with_unfolding_all exact Nat.le_of_ble_eq_true rfl, fun T8l a8 s8 w8 l8 => ?_⟩
  k_extra "z"
  refine draw_k (f := []) (ds := blanks.map PyData.str) (s8 _ T7.hs) hs7 l8 (fun e => w8 _ T7.hs e.symm) (strsP blanks) (by decide) fun p8 o8 dd8 n8 sx8 ho8 hs8 hd8 hl8 => ?_
  obtain ⟨x8, e8, hx8⟩ := strP_of hl8 hd8
  subst e8
  have T8 := (T7.sub s8).src' sx8 ho8
  clear hl8 hd8 l8 w8 s8 sx8 ho8
  k_extra "z"
  refine ⟨by with_unfolding_all exact Nat.le_of_ble_eq_true rfl, fun D9 n9 s9 t9 => ⟨D9, _, _, _, rfl, t9, rfl, ?_⟩⟩
  have T9 := T8.sub s9
  clear T5 T6 T7 T8 s9 t9
  k_extra "q"
  refine Ex1.assignN (ca := (L' + 1)) ?_ (by k_extra "w")
  refine Ev.mono (R' := fun pv n => pv = .str (aftP x5) ∧ n = n9) ?_ fun pv9 n10 ⟨e9, e10⟩ => ?_
  · with_reducible refine Ev.ifexp ?_
    k_extra "t"
    k_extra "n"
    k_extra "s"
    refine Op.neS ⟨_, rfl, fun e => ?_, fun e => ?_⟩
    · k_extra "b"
      k_extra "s"
      k_extra "n"
      refine Op.addS (by have := len_of hx5 (by decide +kernel); have : (Str.ofString " ").length = 1 := (by decide +kernel); omega) ⟨by rw [aft_T e], rfl⟩
    · k_extra "s"
      exact ⟨by rw [aft_F e], rfl⟩
  subst e9
  subst e10
  refine ⟨oA, Option.none, T9.hA, dA, fun oA2 vA n11 jA dA2 sxA _ hA => ⟨rfl, ?_⟩⟩
  have T11 := T9.af sxA hA
  obtain ⟨tA, rfl⟩ := jA.str
  clear T9 sxA hA
  have z2 := len_of hx2 (by decide +kernel)
  have z5 := aft_len hx5
  have z6 := len_of hx6 (by decide +kernel)
  have z7 := len_of hx7 (by decide +kernel)
  have z8 := len_of hx8 (by decide +kernel)
  have y1 : (Str.ofString "url(").length = 4 := by decide +kernel
  have y2 : (Str.ofString "#").length = 1 := by decide +kernel
  have y3 : (Str.ofString ")").length = 1 := by decide +kernel
  have y4 : (Str.ofString "URL(#").length = 5 := by decide +kernel
  k_extra "q"
  refine Ex1.meetA (fun m n => ∃ X oo r D, m = [(Str.ofString "due", .ref D), (Str.ofString "text", .str X), (Str.ofString "blank", .str x8), (Str.ofString "source", .ref src)] ∧ Sub n11 n ∧ TextFine X oo r ∧ TupAt n D [optP oo, .str r]) (fun K upK => ?_) ?_
  · k_extra "t"
    k_extra "n"
    k_extra "i"
    refine Op.eqI ⟨_, rfl, fun e => ?_, fun e => ?_⟩
    · k_extra "e"
      with_reducible refine Ex1.swap2 ?_
      k_extra "tu"
      k_extra "c"
      k_extra "n"
      k_extra "c"
      k_extra "tu"
      k_extra "c"
      k_extra "no"
      k_extra "c"
      k_extra "n"
      k_extra "z"
      refine ⟨by with_unfolding_all exact Nat.le_of_ble_eq_true rfl, fun D1 d1 sd1 td1 => ?_⟩
      k_extra "z"
      refine ⟨by with_unfolding_all exact Nat.le_of_ble_eq_true rfl, fun D2 d2 sd2 td2 => ⟨D2, _, _, rfl, td2, ?_⟩⟩
      k_extra "x"
      k_extra "en"
      exact upK _ [(Str.ofString "due", .ref D1), (Str.ofString "text", .str (x5)), (Str.ofString "blank", .str x8), (Str.ofString "source", .ref src)] _ (Le.cons (by k_extra "w") (Le.cons (by k_extra "w") (Le.cons (by k_extra "w") (Le.cons (by k_extra "w") Le.nil)))) ⟨_, Option.none, _, D1, rfl, (by k_extra "sb9"), text_A hx5, td1.sub sd2⟩
    · k_extra "e"
      k_extra "f"
      k_extra "t"
      k_extra "n"
      k_extra "i"
      refine Op.ltI ⟨_, rfl, fun e => ?_, fun e => ?_⟩
      · k_extra "e"
        with_reducible refine Ex1.swap2 ?_
        k_extra "tu"
        k_extra "c"
        k_extra "b"
        k_extra "b"
        k_extra "b"
        k_extra "b"
        k_extra "b"
        k_extra "b"
        k_extra "b"
        k_extra "b"
        k_extra "s"
        k_extra "n"
        k_extra "as"
        k_extra "n"
        k_extra "as"
        k_extra "s"
        k_extra "as"
        refine Ev.nameC T11.hN dN2 (pv := .str x2) rfl ?_ (by k_extra "w") fun _ => .inl (by k_extra "w")
        k_extra "as"
        k_extra "n"
        k_extra "as"
        k_extra "n"
        k_extra "as"
        k_extra "s"
        k_extra "as"
        refine Ev.nameC T11.hA dA2 (pv := .str (aftP x5)) rfl ?_ (by k_extra "w") fun _ => .inl (by k_extra "w")
        k_extra "as"
        k_extra "c"
        k_extra "tu"
        k_extra "c"
        refine Ev.nameC T11.hN dN2 (pv := .str x2) rfl ?_ (by k_extra "w") fun _ => .inl (by k_extra "w")
        k_extra "c"
        k_extra "n"
        k_extra "z"
        refine ⟨by with_unfolding_all exact Nat.le_of_ble_eq_true rfl, fun D1 d1 sd1 td1 => ?_⟩
        k_extra "z"
        refine ⟨by with_unfolding_all exact Nat.le_of_ble_eq_true rfl, fun D2 d2 sd2 td2 => ⟨D2, _, _, rfl, td2, ?_⟩⟩
        k_extra "x"
        k_extra "en"
        k_extra "x"
        k_extra "en"
        exact upK _ [(Str.ofString "due", .ref D1), (Str.ofString "text", .str (Str.ofString "url(" ++ x6 ++ x7 ++ Str.ofString "#" ++ x2 ++ x7 ++ x6 ++ Str.ofString ")" ++ aftP x5)), (Str.ofString "blank", .str x8), (Str.ofString "source", .ref src)] _ (Le.cons (by k_extra "w") (Le.cons (by k_extra "w") (Le.cons (by k_extra "w") (Le.cons (by k_extra "w") Le.nil)))) ⟨_, (some x2), _, D1, rfl, (by k_extra "sb9"), text_B hx5 hx2 hx6 hx7, td1.sub sd2⟩
      · k_extra "e"
        k_extra "f"
        k_extra "t"
        k_extra "n"
        k_extra "i"
        refine Op.eqI ⟨_, rfl, fun e => ?_, fun e => ?_⟩
        · k_extra "e"
          with_reducible refine Ex1.swap2 ?_
          k_extra "tu"
          k_extra "c"
          k_extra "b"
          k_extra "b"
          k_extra "b"
          k_extra "s"
          refine Ev.nameC T11.hN dN2 (pv := .str x2) rfl ?_ (by k_extra "w") fun _ => .inl (by k_extra "w")
          k_extra "as"
          k_extra "s"
          k_extra "as"
          refine Ev.nameC T11.hA dA2 (pv := .str (aftP x5)) rfl ?_ (by k_extra "w") fun _ => .inl (by k_extra "w")
          k_extra "as"
          k_extra "c"
          k_extra "tu"
          k_extra "c"
          k_extra "no"
          k_extra "c"
          k_extra "n"
          k_extra "z"
          refine ⟨by with_unfolding_all exact Nat.le_of_ble_eq_true rfl, fun D1 d1 sd1 td1 => ?_⟩
          k_extra "z"
          refine ⟨by with_unfolding_all exact Nat.le_of_ble_eq_true rfl, fun D2 d2 sd2 td2 => ⟨D2, _, _, rfl, td2, ?_⟩⟩
          k_extra "x"
          k_extra "en"
          k_extra "x"
          k_extra "en"
          k_extra "x"
          k_extra "en"
          exact upK _ [(Str.ofString "due", .ref D1), (Str.ofString "text", .str (Str.ofString "url(" ++ x2 ++ Str.ofString ")" ++ aftP x5)), (Str.ofString "blank", .str x8), (Str.ofString "source", .ref src)] _ (Le.cons (by k_extra "w") (Le.cons (by k_extra "w") (Le.cons (by k_extra "w") (Le.cons (by k_extra "w") Le.nil)))) ⟨_, Option.none, _, D1, rfl, (by k_extra "sb9"), text_C hx5 hx2, td1.sub sd2⟩
        · k_extra "e"
          with_reducible refine Ex1.swap2 ?_
          k_extra "tu"
          k_extra "c"
          k_extra "b"
          k_extra "b"
          k_extra "b"
          k_extra "s"
          refine Ev.nameC T11.hN dN2 (pv := .str x2) rfl ?_ (by k_extra "w") fun _ => .inl (by k_extra "w")
          k_extra "as"
          k_extra "s"
          k_extra "as"
          refine Ev.nameC T11.hA dA2 (pv := .str (aftP x5)) rfl ?_ (by k_extra "w") fun _ => .inl (by k_extra "w")
          k_extra "as"
          k_extra "c"
          k_extra "tu"
          k_extra "c"
          k_extra "no"
          k_extra "c"
          k_extra "b"
          k_extra "b"
          k_extra "b"
          k_extra "s"
          refine Ev.nameC T11.hN dN2 (pv := .str x2) rfl ?_ (by k_extra "w") fun _ => .inl (by k_extra "w")
          k_extra "as"
          k_extra "s"
          k_extra "as"
          refine Ev.nameC T11.hA dA2 (pv := .str (aftP x5)) rfl ?_ (by k_extra "w") fun _ => .inl (by k_extra "w")
          k_extra "as"
          k_extra "z"
          refine ⟨by with_unfolding_all exact Nat.le_of_ble_eq_true rfl, fun D1 d1 sd1 td1 => ?_⟩
          k_extra "z"
          refine ⟨by with_unfolding_all exact Nat.le_of_ble_eq_true rfl, fun D2 d2 sd2 td2 => ⟨D2, _, _, rfl, td2, ?_⟩⟩
          k_extra "x"
          k_extra "en"
          k_extra "x"
          k_extra "en"
          k_extra "x"
          k_extra "en"
          exact upK _ [(Str.ofString "due", .ref D1), (Str.ofString "text", .str (Str.ofString "URL(#" ++ x2 ++ Str.ofString ")" ++ aftP x5)), (Str.ofString "blank", .str x8), (Str.ofString "source", .ref src)] _ (Le.cons (by k_extra "w") (Le.cons (by k_extra "w") (Le.cons (by k_extra "w") (Le.cons (by k_extra "w") Le.nil)))) ⟨_, Option.none, _, D1, rfl, (by k_extra "sb9"), text_D hx5 hx2, td1.sub sd2⟩
  · rintro m12 n12 ⟨X, oo, r, D, em, s12, hX, tD⟩
    subst em
    have T12 := T11.sub s12
    refine ⟨rfl, ?_⟩
    have zX := hX.1
    clear s12 T11 y1 y2 y3 z6 z7
    with_reducible refine ExS.head ?_
    refine ExS.ifHeard (P := 513) (clos := [(Str.ofString "name", L' + 1 + 1), (Str.ofString "after", L' + 1)]) ?_ (fun h X => codeHd_of_K (c := 517) (P := 513) X (by kernel_rfl)) (by k_is) (by k_is) (by decide) (by decide)
    k_extra "t"
    refine cutp_c (by decide) (by decide) ?_
    k_extra "c"
    k_extra "b"
    k_extra "b"
    k_extra "n"
    k_extra "n"
    k_extra "as"
    k_extra "n"
    k_extra "as"
    k_extra "z"
    refine cutp_k hX hx8 fun D13 n13 s13 t13 => ?_
    k_extra "n"
    have T13 := T12.sub s13
    obtain ⟨_, _, _, xs3, xN3, xA3⟩ := T13.ne
    refine Op.neTT t13 (tD.sub s13) (text_ok hX).1 (text_ok hX).2 (by decide) ⟨false, rfl, rfl, T13.h3, fun f nf hL sx => ?_, fun nf ps sx hp => ⟨rfl, ?_⟩⟩
    · have y5 : (Str.ofString "url(#").length = 5 := by decide +kernel
      refine lam_x hL (d' := 255) (u' := 2005) ?_ (by decide) (by decide)
      refine XEv.call (f := 393) (d' := 60) (u' := 320) (fun w => by kernel_rfl) (fun w => by kernel_rfl) ?_ (by decide) (by decide)
      k_extra "c"
      k_extra "b"
      k_extra "b"
      k_extra "s"
      refine Ev.nameC (sx _ T13.hN xN3) dN2 (pv := .str x2) rfl ?_ (by k_extra "w") fun _ => .inr (by k_extra "w")
      k_extra "as"
      refine Ev.nameC (sx _ T13.hA xA3) dA2 (pv := .str (aftP x5)) rfl ?_ (by k_extra "w") fun _ => .inr (by k_extra "w")
      k_extra "as"
      exact Evs.nil ⟨Sub.refl _, cutp_x hx5 hx2⟩
    · have q1 := sx _ T13.hs xs3
      have q2 := sx _ T13.h7 (show @Ne Nat 577 513 by decide)
      have q7 : @Ne Nat 577 src := T13.ne.1.2.2.1
      have q3 : @Ne Nat 513 src := T13.ne.1.2.2.2
      clear sx T13 T12 t13 tD s13 xN3 xA3
      k_extra "e"
      k_extra "a"
      k_extra "lf"
      k_extra "c"
      with_reducible refine Ev.tupleF ?_
      k_extra "c"
      k_extra "s"
      k_extra "c"
      with_reducible refine Ev.bool ?_
      k_extra "z"
      refine ⟨by with_unfolding_all exact Nat.le_of_ble_eq_true rfl, fun D1 vs1 k1 d1 s1 w1 m1 i1 => ?_⟩
      k_extra "c"
      with_reducible refine Ev.tupleF ?_
      k_extra "c"
      k_extra "s"
      k_extra "c"
      with_reducible refine Ev.bool ?_
      k_extra "z"
      refine ⟨by with_unfolding_all exact Nat.le_of_ble_eq_true rfl, fun D2 vs2 k2 d2 s2 w2 m2 i2 => ?_⟩
      k_extra "c"
      with_reducible refine Ev.tupleF ?_
      k_extra "c"
      k_extra "s"
      k_extra "c"
      with_reducible refine Ev.bool ?_
      k_extra "z"
      refine ⟨by with_unfolding_all exact Nat.le_of_ble_eq_true rfl, fun D3 vs3 k3 d3 s3 w3 m3 i3 => ?_⟩
      k_extra "c"
      with_reducible refine Ev.tupleF ?_
      k_extra "c"
      k_extra "s"
      k_extra "c"
      with_reducible refine Ev.bool ?_
      k_extra "z"
      refine ⟨by with_unfolding_all exact Nat.le_of_ble_eq_true rfl, fun D4 vs4 k4 d4 s4 w4 m4 i4 => ?_⟩
      k_extra "c"
      with_reducible refine Ev.tupleF ?_
      k_extra "c"
      k_extra "s"
      k_extra "c"
      with_reducible refine Ev.bool ?_
      k_extra "z"
      refine ⟨by with_unfolding_all exact Nat.le_of_ble_eq_true rfl, fun D5 vs5 k5 d5 s5 w5 m5 i5 => ?_⟩
      k_extra "z"
      refine ⟨by with_unfolding_all exact Nat.le_of_ble_eq_true rfl, fun TW nW sW wW lW => ?_⟩
      k_extra "x"
      have b1 : (src, o8) ∈ d5 := s5 _ (s4 _ (s3 _ (s2 _ (s1 _ (q1)))))
      k_extra "e"
      with_reducible refine Ex1.unpack2 ?_
      refine one_c (by decide) (by decide) ?_
      k_extra "c"
      k_extra "n"
      k_extra "c"
      k_extra "n"
      k_extra "z"
      refine draw_k (f := [(D1, tup vs1 k1), (D2, tup vs2 k2), (D3, tup vs3 k3), (D4, tup vs4 k4), (D5, tup vs5 k5)]) (ds := WDS) (sW _ b1) hs8 lW (fun e => wW _ b1 e.symm) ⟨wd_lit (.head _) i1, wd_lit (.tail _ (.head _)) i2, wd_lit (.tail _ (.tail _ (.head _))) i3, wd_lit (.tail _ (.tail _ (.tail _ (.head _)))) i4, wd_lit (.tail _ (.tail _ (.tail _ (.tail _ (.head _))))) i5, trivial⟩ (by decide) fun p15 o15 dd15 n15 sx15 ho15 hs15 hd15 hl15 => ?_
      obtain ⟨Dw, xw, bw, ew, tw, lw, cw⟩ := wd_of hl15 hd15
      subst ew
      have sf : Sub [(D1, tup vs1 k1), (D2, tup vs2 k2), (D3, tup vs3 k3), (D4, tup vs4 k4), (D5, tup vs5 k5)] n15 := five_in (sx15 _ (sW _ (s5 _ (s4 _ (s3 _ (s2 _ (m1)))))) (fun e => w1 _ q1 e.symm)) (sx15 _ (sW _ (s5 _ (s4 _ (s3 _ (m2))))) (fun e => w2 _ (s1 _ q1) e.symm)) (sx15 _ (sW _ (s5 _ (s4 _ (m3)))) (fun e => w3 _ (s2 _ (s1 _ q1)) e.symm)) (sx15 _ (sW _ (s5 _ (m4))) (fun e => w4 _ (s3 _ (s2 _ (s1 _ q1))) e.symm)) (sx15 _ (sW _ m5) (fun e => w5 _ (s4 _ (s3 _ (s2 _ (s1 _ q1)))) e.symm))
      refine ⟨Dw, _, _, rfl, tw.sub sf, ?_⟩
      k_extra "x"
      k_extra "e"
      k_extra "r"
      k_extra "cm"
      refine current_c (by decide) (by decide) ?_
      k_extra "c"
      k_extra "n"
      k_extra "z"
      refine current_k lw ?_
      k_extra "n"
      refine Op.eqB ?_
      k_extra "xr"
      refine up0 _ _ _ ?_
      exact ⟨[(src, o15), (577, tabObj #[]), (513, tabObj ps)], ⟨o15, ps, congrArg PV.bool (by rw [cw]; exact beq_self_eq_true _), rfl, hs15⟩, three_in ho15 (sx15 _ (sW _ (s5 _ (s4 _ (s3 _ (s2 _ (s1 _ (q2))))))) q7) (sx15 _ (sW _ (s5 _ (s4 _ (s3 _ (s2 _ (s1 _ (hp))))))) q3)⟩
end
end
section
open PySem PySem.W PyProof.Rows PyProof.V PySem.Spec
theorem taking2 {w : World} {src : Addr} {news : List (Addr × Obj)} {g : Obj → List (Addr × Obj)} {o : Obj} {top : Int} {tt : Tok} (U : UpdF src o news g) (hs : SrcOk o) (ht : 0 < top) (ht2 : top < 1000) :
    Cl w 10 80 497 [.ref src, .int top tt] news (fun v nw => ∃ r t o', v = .int r t ∧ nw = g o' ∧ 0 ≤ r ∧ r < top ∧ SrcOk o') := by
  obtain ⟨pre, post, rfl, hg, h1, h2⟩ := U.split
  refine cl_weak (take_k (R := fun pv nw => ∃ r o', pv = .int r ∧ SubX src _ nw ∧ (src, o') ∈ nw ∧ SrcOk o' ∧ 0 ≤ r ∧ r < top) (List.mem_append_right _ (.head _)) hs ht ht2 (fun r o' n' a b c d e => ⟨r, o', rfl, a, b, c, d, e⟩) [.ref src, .int top tt] ⟨rfl, rfl, trivial⟩) ?_
  rintro v nw ⟨pv, i, r, o', rfl, sx, ho, hs', h3, h4⟩
  obtain ⟨t, rfl⟩ := i.int
  refine ⟨g o', ⟨r, t, o', rfl, rfl, h3, h4, hs'⟩, fun p hp => ?_⟩
  rw [hg] at hp
  rcases List.mem_append.mp hp with hp | hp
  · exact sx _ (List.mem_append_left _ hp) (h1 p hp)
  · k_extra "rm"
    · exact ho
    · exact sx _ (List.mem_append_right _ (.tail _ hp)) (h2 p hp)
section
variable {sc : Sc} {d u : Nat} {w : World} {m : Nms} {n n0 : Led} {R : PV → Led → Prop} {S : PF → Nms → Led → Prop}
theorem Op.min {a b : Int} (h : R (.int (if b < a then b else a)) n) : Op sc d u w m n [.int a, .int b] (fun vs => PySem.call (.builtin "min") vs) R := by
  intro vs hv c hc s Q E A q
  k_extra "v"
  obtain ⟨t1, rfl⟩ := i1.int
  obtain ⟨t2, rfl⟩ := i2.int
  k_extra "oa"
  exact min_two_N rfl F N fun h' tk F' N' => q _ (.int (if b < a then b else a)) n h' tk rfl h ⟨m', hm', F', N'⟩
theorem root_k {n : Led} {N : Int} (h0 : 0 ≤ N) (h1 : N < 1000) (k : ∀ r, 0 ≤ r → r * r ≤ N → N < (r + 1) * (r + 1) → R (.int r) n) : PCl 10 80 152 w [.int N] n R := by
  refine PCl.enter (d' := 5) (u' := 60) (by k_is) (by k_is) (hb1 (x1 := Str.ofString "n") (fun _ _ => BindsTo.of_eq rfl) (by decide +kernel)) ?_ (by decide) (by decide)
  k_extra "e"
  k_extra "f"
  k_extra "t"
  k_extra "n"
  k_extra "i"
  refine Op.ltI ⟨_, rfl, fun e => absurd (of_decide_eq_true e) (by omega), fun _ => ?_⟩
  k_extra "en"
  k_extra "x"
  k_extra "e"
  k_extra "f"
  k_extra "t"
  k_extra "n"
  k_extra "i"
  refine Op.eqI ⟨_, rfl, fun e => ?_, fun e => ?_⟩
  · obtain rfl := eq_of_beq e
    k_extra "e"
    k_extra "r"
    k_extra "i"
    k_extra "xr"
    exact k 0 (by decide) (by decide) (by decide)
  · have hN : 1 ≤ N := by have := ne_of_beq_false e; omega
    k_extra "en"
    k_extra "x"
    k_extra "e"
    k_extra "a"
    k_extra "i"
    k_extra "x"
    k_extra "e"
    refine Ex1.while_ (fun k m1 n1 => n = n1 ∧ ∃ f, m1 = [(Str.ofString "found", .int f), (Str.ofString "n", .int N)] ∧ 1 ≤ f ∧ f ≤ 2 * N ∧ k = (2 * N - f).toNat) _ ⟨rfl, 1, rfl, by decide, by omega, rfl⟩ ?_
    rintro k1 m1 n1 ⟨rfl, f, rfl, f1, f2, rfl⟩
    k_extra "t"
    k_extra "b"
    k_extra "n"
    k_extra "n"
    refine Op.mul (IntMulOk.of_left (intBits_le_64 (by omega) (by omega))) ?_
    k_extra "n"
    refine Op.leI ⟨_, rfl, fun e => ?_, fun e => ?_⟩
    · k_extra "e"
      k_extra "a"
      k_extra "b"
      k_extra "n"
      k_extra "i"
      refine Op.mul (IntMulOk.of_left (intBits_le_64 (by omega) (by omega))) ?_
      k_extra "x"
      k_extra "en"
      exact ⟨_, dbl_less f1 (of_decide_eq_true e), [(Str.ofString "found", .int (f * 2)), (Str.ofString "n", .int N)], Le.cons (by k_extra "w") (Le.cons (by k_extra "w") Le.nil), rfl, _, rfl, (dbl_turn hN f1 (of_decide_eq_true e)).2.1, (dbl_turn hN f1 (of_decide_eq_true e)).2.2, rfl⟩
    · have e2 := of_decide_eq_false e
      k_extra "x"
      k_extra "e"
      k_extra "a"
      k_extra "b"
      k_extra "b"
      k_extra "n"
      k_extra "b"
      k_extra "n"
      k_extra "n"
      refine Op.fdiv (by omega) (by omega) ?_
      refine Op.addI ?_
      k_extra "i"
      refine Op.fdiv (by decide) (by decide) ?_
      k_extra "x"
      k_extra "e"
      refine Ex1.while_ (fun k m1 n1 => n = n1 ∧ ∃ f l, m1 = [(Str.ofString "lower", .int l), (Str.ofString "found", .int f), (Str.ofString "n", .int N)] ∧ RootI N f l ∧ k = f.toNat) _ ⟨rfl, f, _, rfl, root_next hN f1 f2 (by rw [Int.add_mul, Int.mul_add]; omega), rfl⟩ ?_
      clear e2 e f1 f2
      clear f
      rintro k1 m1 n1 ⟨rfl, f, l, rfl, q, rfl⟩
      obtain ⟨f1, f2, _, _, l1, l2, _⟩ := id q
      k_extra "t"
      k_extra "n"
      k_extra "n"
      refine Op.ltI ⟨_, rfl, fun e => ?_, fun e => ?_⟩
      · k_extra "e"
        k_extra "a"
        k_extra "n"
        k_extra "x"
        k_extra "e"
        k_extra "a"
        k_extra "b"
        k_extra "b"
        k_extra "n"
        k_extra "b"
        k_extra "n"
        k_extra "n"
        refine Op.fdiv (by omega) (by omega) ?_
        refine Op.addI ?_
        k_extra "i"
        refine Op.fdiv (by decide) (by decide) ?_
        k_extra "x"
        k_extra "en"
        exact ⟨_, root_less q (of_decide_eq_true e), [(Str.ofString "lower", .int _), (Str.ofString "found", .int l), (Str.ofString "n", .int N)], Le.cons (by k_extra "w") (Le.cons (by k_extra "w") (Le.cons (by k_extra "w") Le.nil)), rfl, _, _, rfl, root_turn hN q, rfl⟩
      · k_extra "x"
        k_extra "e"
        k_extra "r"
        k_extra "n"
        k_extra "xr"
        have z := root_end q (by have := of_decide_eq_false e; omega)
        exact k _ z.1 z.2.1 z.2.2
end
section
variable {sc : Sc} {d u : Nat} {w : World} {m : Nms} {n n0 : Led} {R : PV → Led → Prop} {S : PF → Nms → Led → Prop}
theorem Ex1.forT {x : Str} {px p : Pos} {iter : Expr} {body : List Stmt}
    (h : Ev sc d u w m n iter fun pv n1 => ∃ (I : Nat → Nms → Led → Prop), ∃ D vs k pvs, pv = .ref D ∧ (D, tup vs k) ∈ n1 ∧ All2 PvIs vs pvs ∧ I 0 m n1 ∧ (∀ i pv m1 n2 Ia o, pvs[i]? = some pv → I i m1 n2 → (∀ p ∈ n2, @Ne Nat p.1 Ia) → Ex sc d u w ((x, pv) :: m1) ((Ia, o) :: n2) body (KTurnL I i Ia D o (tup vs k))) ∧ (∀ m1 n2, I pvs.length m1 n2 → S .next m1 n2))
    (hx : autoParam (∀ c : Fc w, (c.env sc).kindOf x = some .local) aY) (hs : autoParam (∀ env v, foldedSetIterable iter env v = pure v) aZ) : Ex1 sc d u w m n (.For (.Name x px) iter body [] p) S := by
  refine ExT.noE fun c hc s Q A q => ?_
  have A0 := A
  obtain ⟨m0, hm0, F0, N0⟩ := A0
  refine For_turns (h₀ := c.g) F0 (h c hc s _ _ A fun v pv n1 h1 t1 i1 r1 A1 => ?_) (hs _) PassesOwn.never
  obtain ⟨I, D, vs, k, pvs, rfl, hD, hv, hI0, turn, fin⟩ := r1
  obtain rfl := i1.ref
  obtain ⟨m1', hm1, F1, N1⟩ := A1
  refine iter_tupTurns (s := { s with heap := h1, toks := t1 }) (vs := vs) rfl F1 N1 hD rfl rfl fun Ia hIa => ?_
  refine items_inv2 (α := Value) Itm.val (fun _ _ _ pre m' news => ∃ mm, NmsIs m' mm ∧ I pre.length mm news ∧ ∀ p ∈ news, @Ne Nat p.1 Ia) vs m1' n1 ⟨m, hm1, hI0, fun p hp => Nat.ne_of_lt (hIa p hp)⟩ ?_ ?_
  · rintro pre v post hsplit m' news ⟨mm, hmm, hI, hoff⟩ v' h2 t2 o rfl F2 hcls N2
    have hget : vs[pre.length]? = some v' := by rw [hsplit, List.getElem?_append_right (Nat.le_refl _), Nat.sub_self]; rfl
    obtain ⟨pv, hpv, hvp⟩ := hv.get hget
    refine PyProof.Rows.assign_Name ?_
    refine store_rule (s := { s with heap := h2, toks := t2 }) hc (hx c) ⟨m', hmm, F2, N2⟩ hvp fun h3 t3 A3 => ?_
    refine turn pre.length pv mm news Ia o hpv hI hoff c hc _ _ _ A3 fun f pf m4 n4 h4 t4 i4 r4 A4 => ?_
    obtain ⟨rfl, m5, n5, hl, hIo, hsub, hoff5, hD5, hI5⟩ := r4
    obtain ⟨m4', hm4, F4, N4⟩ := A4
    have hf : f = .next := by cases f <;> first | rfl | exact i4.elim
    subst hf
    refine ⟨h4, t4, m4', n5, rfl, F4, fun p hp => ?_, fun p hp q hq => ?_, subL_of fun p hp => ?_, m5, fun z pv hz => hm4 z pv (hl z pv hz), ?_, hoff5⟩
    · rcases List.mem_append.mp hp with hp | hp
      · rw [List.mem_singleton.mp hp]; exact N4 _ hIo
      · exact N4 _ (hsub p hp)
    · rw [List.mem_singleton.mp hq]; exact hoff5 p hp
    · rw [List.mem_singleton.mp hp]; exact hD5
    · rw [List.length_append]; exact hI5
  · rintro m' news ⟨mm, hmm, hI, _⟩ h2 t2 F2 N2
    rw [hv.len] at hI
    exact q .next .next mm news h2 t2 trivial (fin mm news hI) ⟨m', hmm, F2, N2⟩
theorem Ev.cut46 {a : Expr} {k : Nat} {p1 p p' : Pos} (h : Ev sc d u w m n a fun va n1 => ∃ D q0 q1 q2 q3 q4 q5, va = .ref D ∧ TupAt n1 D [q0, q1, q2, q3, q4, q5] ∧ ∀ D' n2, Sub n1 n2 → TupAt n2 D' [q0, q1, q2, q3] → R (.ref D') n2)
    (hs : autoParam (∀ t l, subscripted (.Slice Option.none (some (.Constant (.int 4) k p1)) Option.none p') false (.ref t) (.ref l) = operate [.ref l, .ref t] (getItem (.ref t) (.ref l))) aZ) :
    Ev sc d u w m n (.Subscript a (.Slice Option.none (some (.Constant (.int 4) k p1)) Option.none p') p) R := by
  intro c hc s Q E A q
  refine Subscript_ (h c hc s _ E A fun v1 p1 n1 h1 t1 i1 r1 A1 => ?_)
  refine wpAny_Slice (evalPart_none_step (evalPart_some_step (wpAny_Constant_int (evalPart_none_step ?_))))
  obtain ⟨D, q0, q1, q2, q3, q4, q5, rfl, hD, r2⟩ := r1
  obtain rfl := i1.ref
  obtain ⟨m', hm', F, N⟩ := A1
  obtain ⟨vs, cc, hmem, ha⟩ := hD
  revert hmem
  apply All2.six ha
  intro v0 v1 v2 v3 v4 v5 j0 j1 j2 j3 _ _ hmem
  refine kba_turn (value' := PySem.Expr.Name (PySem.Str.ofString "_") ⟨0, 0, 0, 0⟩) (fun _ => rfl) ?_
  refine slice_46 (s := { s with heap := h1, toks := _ }) F N hmem (fun D' h2 F2 N2 _ => ?_) (hs _ _) (fun _ => rfl)
  exact q (.ref D') (.ref D') _ h2 _ rfl (r2 D' _ (Sub.tail (Sub.refl _)) ⟨[v0, v1, v2, v3], 0, .head _, j0, j1, j2, j3, trivial⟩) ⟨m', hm', F2, N2⟩
inductive MatA (w : World) (n : Led) (M A1 A2 A3 A4 A5 A6 : Addr) : Prop
  | mk (dM : _) (t1 : _) (t2 : _) (t3 : _) (t4 : _) (t5 : _) (t6 : _) (f0 : (M, instObj 281 dM) ∈ n) (f1 : (dM, matD w A1 A2 A3 A4 A5 A6 t1 t2 t3 t4 t5 t6) ∈ n) : MatA w n M A1 A2 A3 A4 A5 A6
inductive B5 (w : World) (n : Led) (A : Addr) (q : Rat) : Prop
  | mk (x : _) (y : _) (f0 : T2 w n A x y) (f1 : Bd 5 x y) (f2 : rv x y = q) : B5 w n A q
theorem B5.sub {n n' : Led} {A : Addr} {q : Rat} (h : B5 w n A q) (s : Sub n n') : B5 w n' A q := by
  obtain ⟨x, y, h1, h2, h3⟩ := h
  exact ⟨x, y, h1.sub s, h2, h3⟩
noncomputable def sqq (l : List Rat) : Rat := (l.map fun q => q * q).foldl (· + ·) 0
theorem sqq_snoc (l : List Rat) (q : Rat) : sqq (l ++ [q]) = sqq l + q * q := by unfold sqq; simp
theorem matrix_a {A1 A2 A3 A4 A5 A6 : Addr} (k : ∀ M n', Sub n n' → MatA w n' M A1 A2 A3 A4 A5 A6 → R (.ref M) n') : PCl 30 240 281 w [.ref A1, .ref A2, .ref A3, .ref A4, .ref A5, .ref A6] n R := by
  rintro vs hv
  obtain rfl := all2_6r hv
  refine cl_mono matrix_new ?_
  rintro v nw ⟨M, dM, t1, t2, t3, t4, t5, t6, rfl, rfl, _⟩
  exact ⟨.ref M, rfl, k M _ (Sub.tail (Sub.tail (Sub.refl _))) ⟨dM, t1, t2, t3, t4, t5, t6, .head _, .tail _ (.head _)⟩⟩
theorem row_a {M A1 A2 A3 A4 A5 A6 : Addr} (hM : MatA w n M A1 A2 A3 A4 A5 A6) (k : ∀ n' D, Sub n n' → TupAt n' D [.ref A1, .ref A2, .ref A3, .ref A4, .ref A5, .ref A6] → R (.ref D) n') : PCl 20 160 243 w [.ref M] n R := by
  refine PCl.enter (d' := 15) (u' := 130) (by k_is) (by k_is) (hb1 (x1 := Str.ofString "self") (fun _ _ => BindsTo.of_eq rfl) (by decide +kernel)) ?_ (by decide) (by decide)
  obtain ⟨dM, t1, t2, t3, t4, t5, t6, h1, h2⟩ := hM
  repeat (k_extra "ev1")
  refine Ev.attr (by k_extra "w") h1 h2 (by k_is) (by k_is) (by k_is) (by k_is) (by rfl) (by rfl) (v := .ref A1) (pv := .ref A1) rfl ?_
  repeat (k_extra "ev1")
  refine Ev.attr (by k_extra "w") h1 h2 (by k_is) (by k_is) (by k_is) (by k_is) (by rfl) (by rfl) (v := .ref A2) (pv := .ref A2) rfl ?_
  repeat (k_extra "ev1")
  refine Ev.attr (by k_extra "w") h1 h2 (by k_is) (by k_is) (by k_is) (by k_is) (by rfl) (by rfl) (v := .ref A3) (pv := .ref A3) rfl ?_
  repeat (k_extra "ev1")
  refine Ev.attr (by k_extra "w") h1 h2 (by k_is) (by k_is) (by k_is) (by k_is) (by rfl) (by rfl) (v := .ref A4) (pv := .ref A4) rfl ?_
  repeat (k_extra "ev1")
  refine Ev.attr (by k_extra "w") h1 h2 (by k_is) (by k_is) (by k_is) (by k_is) (by rfl) (by rfl) (v := .ref A5) (pv := .ref A5) rfl ?_
  repeat (k_extra "ev1")
  refine Ev.attr (by k_extra "w") h1 h2 (by k_is) (by k_is) (by k_is) (by k_is) (by rfl) (by rfl) (v := .ref A6) (pv := .ref A6) rfl ?_
  repeat (k_extra "ev1")
  exact k _ _ (by k_extra "sb9") (by assumption)
theorem plus_c {fp p : Pos} {e : Expr} {es : List Expr} (hd : 30 ≤ d) (hu : 240 ≤ u) (h : Evs sc d u w m n p (e :: es) (KCall 30 240 96 w R)) (hx : autoParam (∀ c : Fc w, (c.env sc).kindOf (Str.ofString "plus") = some .globalImplicit) aY)
    (h1 : autoParam (CallEq (Str.ofString "plus") fp p e es) aY)
    (h2 : autoParam (StarEq e es) aY) (h3 : autoParam (NoStar p es) aY) : Ev sc d u w m n (.Call (.Name (Str.ofString "plus") fp) (e :: es) [] p) R :=
  Ev.call (f := 96) (fun w => by kernel_rfl) (fun w => by kernel_rfl) h hd hu hx (by k_extra "w") h1 h2 h3
theorem root_c {fp p : Pos} {e : Expr} {es : List Expr} (hd : 10 ≤ d) (hu : 80 ≤ u) (h : Evs sc d u w m n p (e :: es) (KCall 10 80 152 w R)) (hx : autoParam (∀ c : Fc w, (c.env sc).kindOf (Str.ofString "root_floor") = some .globalImplicit) aY)
    (h1 : autoParam (CallEq (Str.ofString "root_floor") fp p e es) aY)
    (h2 : autoParam (StarEq e es) aY) (h3 : autoParam (NoStar p es) aY) : Ev sc d u w m n (.Call (.Name (Str.ofString "root_floor") fp) (e :: es) [] p) R :=
  Ev.call (f := 152) (fun w => by kernel_rfl) (fun w => by kernel_rfl) h hd hu hx (by k_extra "w") h1 h2 h3
theorem floor_c {fp p : Pos} {e : Expr} {es : List Expr} (hd : 10 ≤ d) (hu : 80 ≤ u) (h : Evs sc d u w m n p (e :: es) (KCall 10 80 138 w R)) (hx : autoParam (∀ c : Fc w, (c.env sc).kindOf (Str.ofString "floor_of") = some .globalImplicit) aY)
    (h1 : autoParam (CallEq (Str.ofString "floor_of") fp p e es) aY)
    (h2 : autoParam (StarEq e es) aY) (h3 : autoParam (NoStar p es) aY) : Ev sc d u w m n (.Call (.Name (Str.ofString "floor_of") fp) (e :: es) [] p) R :=
  Ev.call (f := 138) (fun w => by kernel_rfl) (fun w => by kernel_rfl) h hd hu hx (by k_extra "w") h1 h2 h3
theorem ceil_c {fp p : Pos} {e : Expr} {es : List Expr} (hd : 10 ≤ d) (hu : 80 ≤ u) (h : Evs sc d u w m n p (e :: es) (KCall 10 80 145 w R)) (hx : autoParam (∀ c : Fc w, (c.env sc).kindOf (Str.ofString "ceiling_of") = some .globalImplicit) aY)
    (h1 : autoParam (CallEq (Str.ofString "ceiling_of") fp p e es) aY)
    (h2 : autoParam (StarEq e es) aY) (h3 : autoParam (NoStar p es) aY) : Ev sc d u w m n (.Call (.Name (Str.ofString "ceiling_of") fp) (e :: es) [] p) R :=
  Ev.call (f := 145) (fun w => by kernel_rfl) (fun w => by kernel_rfl) h hd hu hx (by k_extra "w") h1 h2 h3
theorem stretch_c {fp p : Pos} {e : Expr} {es : List Expr} (hd : 60 ≤ d) (hu : 480 ≤ u) (h : Evs sc d u w m n p (e :: es) (KCall 60 480 222 w R)) (hx : autoParam (∀ c : Fc w, (c.env sc).kindOf (Str.ofString "stretch_of") = some .globalImplicit) aY)
    (h1 : autoParam (CallEq (Str.ofString "stretch_of") fp p e es) aY)
    (h2 : autoParam (StarEq e es) aY) (h3 : autoParam (NoStar p es) aY) : Ev sc d u w m n (.Call (.Name (Str.ofString "stretch_of") fp) (e :: es) [] p) R :=
  Ev.call (f := 222) (fun w => by kernel_rfl) (fun w => by kernel_rfl) h hd hu hx (by k_extra "w") h1 h2 h3
theorem dots_c {fp p : Pos} {e : Expr} {es : List Expr} (hd : 80 ≤ d) (hu : 640 ≤ u) (h : Evs sc d u w m n p (e :: es) (KCall 80 640 405 w R)) (hx : autoParam (∀ c : Fc w, (c.env sc).kindOf (Str.ofString "dots_of") = some .globalImplicit) aY)
    (h1 : autoParam (CallEq (Str.ofString "dots_of") fp p e es) aY)
    (h2 : autoParam (StarEq e es) aY) (h3 : autoParam (NoStar p es) aY) : Ev sc d u w m n (.Call (.Name (Str.ofString "dots_of") fp) (e :: es) [] p) R :=
  Ev.call (f := 405) (fun w => by kernel_rfl) (fun w => by kernel_rfl) h hd hu hx (by k_extra "w") h1 h2 h3
theorem min_c {fp p : Pos} {e : Expr} {es : List Expr} (h : Evs sc d u w m n p (e :: es) (KBi sc d u w m "min" R))
    (hx : autoParam (∀ c : Fc w, (c.env sc).kindOf (Str.ofString "min") = some .globalImplicit) aY)
    (e1 : autoParam (CallEq (Str.ofString "min") fp p e es) aY)
    (e2 : autoParam (StarEq e es) aY) (e3 : autoParam (NoStar p es) aY) : Ev sc d u w m n (.Call (.Name (Str.ofString "min") fp) (e :: es) [] p) R :=
  Ev.bi (by k_is) (by rfl) (by decide +kernel) h hx (by k_extra "w") e1 e2 e3
theorem four_get {A1 A2 A3 A4 : Addr} {q1 q2 q3 q4 : Rat} (b1 : B5 w n A1 q1) (b2 : B5 w n A2 q2) (b3 : B5 w n A3 q3) (b4 : B5 w n A4 q4) {i : Nat} {pv : PV} (h : [PV.ref A1, .ref A2, .ref A3, .ref A4][i]? = some pv) :
    i < 4 ∧ ∃ A q, pv = .ref A ∧ B5 w n A q ∧ [q1, q2, q3, q4].take (i + 1) = [q1, q2, q3, q4].take i ++ [q] := by
  match i, h with
  | 0, h => exact ⟨by decide, A1, q1, (Option.some.inj h).symm, b1, rfl⟩
  | 1, h => exact ⟨by decide, A2, q2, (Option.some.inj h).symm, b2, rfl⟩
  | 2, h => exact ⟨by decide, A3, q3, (Option.some.inj h).symm, b3, rfl⟩
  | 3, h => exact ⟨by decide, A4, q4, (Option.some.inj h).symm, b4, rfl⟩
theorem stretch_k {M A1 A2 A3 A4 A5 A6 : Addr} {q1 q2 q3 q4 : Rat} (hM : MatA w n M A1 A2 A3 A4 A5 A6) (b1 : B5 w n A1 q1) (b2 : B5 w n A2 q2) (b3 : B5 w n A3 q3) (b4 : B5 w n A4 q4) (hs : sqq [q1, q2, q3, q4] < 1000) (hs0 : 0 ≤ sqq [q1, q2, q3, q4])
    (k : ∀ r x y n', Sub n n' → 0 < y → rv x y = sqq [q1, q2, q3, q4] → 0 ≤ r → r < 32 → r * r ≤ Int.fdiv x y → Int.fdiv x y < (r + 1) * (r + 1) → R (.int (1 + r)) n') : PCl 60 480 222 w [.ref M] n R := by
  refine PCl.enter (d' := 55) (u' := 470) (by k_is) (by k_is) (hb1 (x1 := Str.ofString "matrix") (fun _ _ => BindsTo.of_eq rfl) (by decide +kernel)) ?_ (by decide) (by decide)
  k_extra "e"
  k_extra "a"
  refine top_zero ?_
  k_extra "x"
  k_extra "e"
  refine Ex1.forT ?_
  with_reducible refine Ev.cut46 ?_
  obtain ⟨dM, t1, t2, t3, t4, t5, t6, h1, h2⟩ := id hM
  refine Ev.meth0 (f := 243) (by k_extra "w") h1 h2 (by k_is) (by k_is) (by k_is) (by rfl) (by k_is) (row_a hM fun n1 D1 s1 tu1 => ?_) (by decide) (by decide)
  refine ⟨D1, _, _, _, _, _, _, rfl, tu1, fun D2 n2 s2 tu2 => ?_⟩
  have s12 : Sub n n2 := fun p hp => s2 p (s1 p hp)
  obtain ⟨vs, kk, hT, hv⟩ := tu2
  refine ⟨fun i m1 n1 => ∃ D x y, m1 = [(Str.ofString "found", .ref D), (Str.ofString "matrix", .ref M)] ∧ Sub n2 n1 ∧ T2 w n1 D x y ∧ Bd (50 ^ i) x y ∧ rv x y = sqq ([q1, q2, q3, q4].take i), D2, vs, kk, _, rfl, hT, hv, ⟨73, 0, 1, rfl, Sub.refl _, T2_zero, Bd_zero, rv_zero⟩, ?_, ?_⟩
  · rintro i pv m1 n2 Ia oI hpv ⟨D, x, y, rfl, s2, hD, hB, hr⟩ hne
    have hL := s2 _ hT
    obtain ⟨hi, A, q, rfl, hA, hq⟩ := four_get (b1.sub s12) (b2.sub s12) (b3.sub s12) (b4.sub s12) hpv
    obtain ⟨xa, ya, hA, ba, ra⟩ := hA
    have hA2 := (hA.sub s2).sub (Sub.tail (Sub.refl _) : Sub n2 ((Ia, oI) :: n2))
    have hD2 := hD.sub (Sub.tail (Sub.refl _) : Sub n2 ((Ia, oI) :: n2))
    have hk5 := pow50 hi
    k_extra "e"
    k_extra "a"
    refine plus_c (by decide) (by decide) ?_
    k_extra "c"
    k_extra "n"
    k_extra "c"
    refine times_c (by decide) (by decide) ?_
    k_extra "c"
    k_extra "n"
    k_extra "c"
    k_extra "n"
    k_extra "z"
    refine times_k hA2 hA2 ba ba (by decide) fun D3 x3 y3 n3 s3 t3 c3 r3 => ?_
    k_extra "z"
    refine plus_k (hD2.sub s3) t3 hB c3 hk5 fun D4 x4 y4 t4 u4 k4 l4 c4 r4 => ?_
    k_extra "x"
    k_extra "en"
    have ne4 : @Ne Nat D4 Ia := (allLt_ne l4 _ (s3 _ (.head _))).symm
    exact ⟨rfl, [(Str.ofString "found", .ref D4), (Str.ofString "matrix", .ref M)], (D4, tup [.int x4 t4, .int y4 u4] k4) :: n2, Le.cons (by k_extra "w") (Le.cons (by k_extra "w") Le.nil), .tail _ (s3 _ (.head _)), fun p hp => (List.mem_cons.mp hp).elim (fun e => e ▸ .head _) fun hp => .tail _ (s3 p (.tail _ hp)), fun p hp => (List.mem_cons.mp hp).elim (fun e => e ▸ ne4) (hne p), .tail _ hL, D4, x4, y4, rfl, fun p hp => .tail _ (s2 p hp), T2.new (.head _), bd50 c4, by rw [hq, sqq_snoc, r4, r3, hr, ra]⟩
  · rintro m1 n3 ⟨D, x, y, rfl, s3, hD, hB, hr⟩
    have hr : rv x y = sqq [q1, q2, q3, q4] := hr
    have hb := Bd.lo (k := 50 ^ 4) hB (by decide)
    have f5 := floor_lt hb.2.1 (by rw [hr]; exact hs)
    have f6 := floor_ge hb.2.1 (by rw [hr]; exact hs0)
    k_extra "x"
    k_extra "e"
    k_extra "r"
    k_extra "b"
    k_extra "i"
    refine root_c (by decide) (by decide) ?_
    k_extra "c"
    refine floor_c (by decide) (by decide) ?_
    k_extra "c"
    k_extra "n"
    k_extra "z"
    refine floor_k hD hb.2.1 hb.2.2 ?_
    k_extra "z"
    refine root_k f6 f5 fun r r0 r1 r2 => ?_
    refine Op.addI ?_
    k_extra "xr"
    exact k r x y n3 (fun p hp => s3 p (s12 p hp)) hb.2.1 hr r0 (sq_lt r1 f5) r1 r2
theorem dots_k {Z M A1 A2 A3 A4 A5 A6 : Addr} {zx zy : Int} {q1 q2 q3 q4 : Rat} (hz : T2 w n Z zx zy) (bz : Bd 60 zx zy) (hM : MatA w n M A1 A2 A3 A4 A5 A6) (b1 : B5 w n A1 q1) (b2 : B5 w n A2 q2) (b3 : B5 w n A3 q3) (b4 : B5 w n A4 q4) (hs : sqq [q1, q2, q3, q4] < 1000) (hs0 : 0 ≤ sqq [q1, q2, q3, q4])
    (k : ∀ r x y x' y' n', Sub n n' → 0 < y → rv x y = sqq [q1, q2, q3, q4] → 0 ≤ r → r < 32 → r * r ≤ Int.fdiv x y → Int.fdiv x y < (r + 1) * (r + 1) → 0 < y' → rv x' y' = rv zx zy * rv (1 + r) 1 → R (.int (clampI (-(Int.fdiv (-x') y')))) n') : PCl 80 640 405 w [.ref Z, .ref M] n R := by
  refine PCl.enter (d' := 75) (u' := 630) (by k_is) (by k_is) (hb2 (x1 := Str.ofString "size") (x2 := Str.ofString "matrix") (fun _ _ _ => BindsTo.of_eq rfl) (by decide +kernel)) ?_ (by decide) (by decide)
  k_extra "e"
  k_extra "r"
  with_reducible refine max_c ?_
  k_extra "c"
  k_extra "i"
  k_extra "c"
  with_reducible refine min_c ?_
  k_extra "c"
  refine Ev.topI (v := .int 64 _) (by k_is) (pv := .int 64) rfl ?_ (by intro _; with_unfolding_all eq_refl) (by k_extra "w")
  k_extra "c"
  refine ceil_c (by decide) (by decide) ?_
  k_extra "c"
  refine times_c (by decide) (by decide) ?_
  k_extra "c"
  k_extra "n"
  k_extra "c"
  refine frac_c (by decide) (by decide) ?_
  k_extra "c"
  refine stretch_c (by decide) (by decide) ?_
  k_extra "c"
  k_extra "n"
  k_extra "z"
  refine stretch_k hM b1 b2 b3 b4 hs hs0 fun r x y n1 s1 y0 hr r0 r1 r2 r3 => ?_
  k_extra "z"
  refine frac1_k (by omega) (by omega) fun D x1 y1 n2 s2 t2 c2 e2 => ?_
  k_extra "z"
  refine times_k ((hz.sub s1).sub s2) t2 bz c2 (by decide) fun D3 x3 y3 n3 s3 t3 c3 e3 => ?_
  k_extra "z"
  have hb := Bd.lo c3 (by decide)
  refine ceil_k t3 hb.2.1 hb.2.2 ?_
  k_extra "z"
  refine Op.min ?_
  k_extra "z"
  refine Op.max ?_
  k_extra "xr"
  exact k r x y x3 y3 n3 (fun p hp => s3 p (s2 p (s1 p hp))) y0 hr r0 r1 r2 r3 hb.2.1 (by rw [e3, e2])
end
end
section
open PySem PySem.W PyProof.Rows PyProof.V PySem.Spec
open PySem.Calls
section
variable {sc : Sc} {d u : Nat} {w : World} {m : Nms} {n n0 : Led} {R : PV → Led → Prop} {S : PF → Nms → Led → Prop}
def NumA (r : Led) (e : Addr × Int × Int) : Prop := (∃ t u c, (e.1, tup [.int e.2.1 t, .int e.2.2 u] c) ∈ r) ∧ -5 ≤ e.2.1 ∧ e.2.1 ≤ 5 ∧ 1 ≤ e.2.2 ∧ e.2.2 ≤ 4
theorem number_k {src : Addr} {o : Obj} (hsrc : (src, o) ∈ n) (hs : SrcOk o) (k : ∀ D a b o' n', SubX src n n' → (src, o') ∈ n' → SrcOk o' → New n D → NumA n' (D, a, b) → R (.ref D) n') : PCl 30 240 530 w [.ref src, .int 5] n R := by
  refine PCl.enter (d' := 25) (u' := 230) (by k_is) (by k_is) (hb2 (x1 := Str.ofString "source") (x2 := Str.ofString "most") (fun _ _ _ => BindsTo.of_eq rfl) (by decide +kernel)) ?_ (by decide) (by decide)
  k_extra "e"
  k_extra "r"
  with_reducible refine Ev.tupleF ?_
  k_extra "c"
  k_extra "b"
  refine take_c (by decide) (by decide) ?_
  k_extra "c"
  k_extra "n"
  k_extra "c"
  k_extra "b"
  k_extra "b"
  k_extra "i"
  k_extra "n"
  refine Op.mul (IntMulOk.of_left (intBits_le_64 (by decide) (by decide))) ?_
  k_extra "i"
  refine Op.addI ?_
  k_extra "z"
  refine take_k hsrc hs (by decide) (by decide) fun x1 o1 n1 s1 h1 hs1 a1 b1 => ?_
  k_extra "n"
  refine Op.sub ?_
  k_extra "c"
  k_extra "b"
  k_extra "i"
  refine take_c (by decide) (by decide) ?_
  k_extra "c"
  k_extra "n"
  k_extra "c"
  k_extra "i"
  k_extra "z"
  refine take_k h1 hs1 (by decide) (by decide) fun x2 o2 n2 s2 h2 hs2 a2 b2 => ?_
  refine Op.addI ?_
  k_extra "z"
  refine ⟨by with_unfolding_all exact Nat.le_of_ble_eq_true rfl, fun D vs c n3 s3 w3 m3 i3 => ?_⟩
  k_extra "xr"
  obtain ⟨v1, v2, rfl, j1, j2⟩ := all2_2 i3
  obtain ⟨t1, rfl⟩ := j1.int
  obtain ⟨t2, rfl⟩ := j2.int
  have b1 : x1 < 11 := b1
  have sx : SubX src n n2 := fun p hp hne => s2 p (s1 p hp hne) hne
  refine k D (x1 - 5) (1 + x2) o2 n3 (fun p hp hne => s3 p (sx p hp hne)) (s3 _ h2) hs2 (fun p hp => ?_) ⟨⟨t1, t2, c, m3⟩, by dsimp only; omega, by dsimp only; omega, by dsimp only; omega, by dsimp only; omega⟩
  by_cases e : p.1 = src
  · rw [e]; exact w3 _ h2
  · exact w3 p (sx p hp e)
theorem call_in {c : Fc w} (hc : c.Ok sc d u) {fx o : Str} {q1 q2 q3 q4 : Pos} {k1 : Nat} {top : Int} {f : Addr} {d' u' : Nat} {R0 : PV → Led → Prop} {scope : Scope} {cl : List (Str × Addr)} {C cS src : Addr} {oS : Obj} {m' : Str → Option Value} {s : Shared} {Q : Value → Shared → Prop} {E : Value → Shared → Prop}
    (F : Fr c.g c.L s.heap m') (N : News c.g c.L s.heap n) (hS : (cS, oS) ∈ n) (dS : oS.data = .cell (some (.ref src))) (hC : PCl d' u' f w [.ref src, .int top] n R0) (hf : nsIn (Mine.hd.heap_1 w.params) mainGlobals fx = some (some (.ref f))) (hk : keepIn (Mine.hd.heap_1 w.params) (.ref f) = true) (hd : d' ≤ d) (hu : u' ≤ u)
    (k : ∀ v pv n2 h2 t2, PvIs v pv → R0 pv n2 → Fr c.g c.L h2 m' → News c.g c.L h2 n2 → Q v { s with heap := h2, toks := t2 })
    (hcl : cl.lookup o = some cS) (hkf : (compEnvC scope cl C (c.env sc)).scope.kind = .function) (hx : (compEnvC scope cl C (c.env sc)).kindOf fx = some .globalImplicit) (hxo : (compEnvC scope cl C (c.env sc)).kindOf o = some .free ∨ (compEnvC scope cl C (c.env sc)).kindOf o = some .cell) (hg : (fx == Str.ofString "__debug__") = false) (hgo : (o == Str.ofString "__debug__") = false) (hgc : (o == Str.ofString "__classdict__") = false)
    (e1 : ∀ env, eval ((Expr.Name fx q1).Call [.Name o q2, .Constant (.int top) k1 q3] [] q4) env = (do let v ← eval (Expr.Name fx q1) env; callWith q4 v [] (backTo q4 (starEach [.Name o q2, .Constant (.int top) k1 q3] env)) (backToKw q4 (keywordEach [] env)))) :
    wpAny (model PG w) (c.A sc) (eval (.Call (.Name fx q1) [.Name o q2, .Constant (.int top) k1 q3] [] q4) (compEnvC scope cl C (c.env sc))) Q E s := by
  refine Call_ (LCgL.ld_global F hc.X hc.T hf ?_ rfl hkf hx hg) (e1 _)
  refine callWith_K hc.X hk ?_ rfl rfl
  have free : ∀ (Q' : Value → Shared → Prop) (E9 : Value → Shared → Prop), Q' (.ref src) s → wpAny (model PG w) (c.A sc) (eval (.Name o q2) (compEnvC scope cl C (c.env sc))) Q' E9 s := fun Q' E9 h9 =>
    hxo.elim (fun hxo => lcf_free N hcl hS dS h9 hkf hxo hgo hgc) fun hxo => lcf_cell N hcl hS dS h9 hkf hxo hgo
  refine args_cons (free _ _ ?_) rfl
  refine args_cons (wpAny_Constant_int (args_nil ⟨hc.X.keeps F.keep, ?_⟩)) rfl
  exact cl_use (hC [.ref src, .int top _] (show All2 PvIs [Value.ref src, Value.int top _] [PV.ref src, PV.int top] from ⟨rfl, rfl, trivial⟩)) (s := { s with toks := s.toks + 1 }) hc.B F hc.X N hc.T hc.hk (Nat.lt_of_le_of_lt (Nat.add_le_add_left hd _) hc.hd) (Nat.lt_of_le_of_lt (Nat.add_le_add_left hu _) hc.hu) fun v nw h2 t2 ⟨pv, i2, r2⟩ F2 N2 => k v pv nw h2 t2 i2 r2 F2 N2
theorem Ev.numComp {x o fx fr : Str} {q1 q2 q3 q4 pr px pk pc pos : Pos} {k1 kr : Nat} {scope : Scope} {cl : List (Str × Addr)} {cS src : Addr} {oS so : Obj} (hS : (cS, oS) ∈ n) (dS : oS.data = .cell (some (.ref src))) (hsrc : (src, so) ∈ n) (hs : SrcOk so) (hne : @Ne Nat cS src)
    (h : ∀ D (es : List (Addr × Int × Int)) so' n', SubX src n n' → (src, so') ∈ n' → SrcOk so' → es.length = 6 → (D, LCg.lst (es.map fun e => Value.ref e.1)) ∈ n' → (∀ e ∈ es, NumA n' e) → R (.ref D) n')
    (hf : nsIn (Mine.hd.heap_1 w.params) mainGlobals fx = some (some (.ref 530))) (hk : keepIn (Mine.hd.heap_1 w.params) (.ref 530) = true) (hd : 30 ≤ d) (hu : 240 ≤ u) (g1 : nsIn (Mine.hd.heap_1 w.params) mainGlobals fr = some Option.none) (g2 : bootBuiltins fr = some (.type "range")) (g3 : fr ≠ Str.ofString "__name__")
    (hclos : autoParam (∀ c : Fc w, closureFor scope (c.env sc) = pure cl) aY) (hcl : autoParam (cl.lookup o = some cS) aW) (hcell : autoParam (∀ y ∈ scope.names, y.2 ≠ .cell) aD) (hkind : autoParam (scope.kind = .function) aW)
    (hnames : autoParam (∀ y ∈ scope.names, y.2 = .local → scope.names.lookup y.1 = some .local) aD) (hx : autoParam (scope.names.lookup x = some .local) aW)
    (hkf : autoParam (∀ (c : Fc w) (C : Addr), (compEnvC scope cl C (c.env sc)).kindOf fx = some .globalImplicit) aZ) (hko : ∀ (c : Fc w) (C : Addr), (compEnvC scope cl C (c.env sc)).kindOf o = some .free ∨ (compEnvC scope cl C (c.env sc)).kindOf o = some .cell := by intro _ _; first | exact .inr (by k_extra "w") | exact .inl (by k_extra "w"))
    (hkr : autoParam (∀ c : Fc w, (c.env sc).kindOf fr = some .globalImplicit) aY) (b1 : autoParam ((fx == Str.ofString "__debug__") = false) aW) (b2 : autoParam ((o == Str.ofString "__debug__") = false) aW) (b3 : autoParam ((o == Str.ofString "__classdict__") = false) aW) (b4 : autoParam ((fr == Str.ofString "__debug__") = false) aW)
    (e1 : autoParam (∀ env, eval ((Expr.Name fx q1).Call [.Name o q2, .Constant (.int 5) k1 q3] [] q4) env = (do let v ← eval (Expr.Name fx q1) env; callWith q4 v [] (backTo q4 (starEach [.Name o q2, .Constant (.int 5) k1 q3] env)) (backToKw q4 (keywordEach [] env)))) aY)
    (e3 : autoParam (∀ env, eval ((Expr.Name fr pr).Call [.Constant (.int 6) kr pk] [] pc) env = (do let v ← eval (Expr.Name fr pr) env; callWith pc v [] (backTo pc (starEach [.Constant (.int 6) kr pk] env)) (backToKw pc (keywordEach [] env)))) aY)
    (hs0 : autoParam (∀ env v, foldedSetIterable (.Call (.Name fr pr) [.Constant (.int 6) kr pk] [] pc) env v = pure v) aZ) :
    Ev sc d u w m n (.ListComp (.Call (.Name fx q1) [.Name o q2, .Constant (.int 5) k1 q3] [] q4) [⟨.Name x px, .Call (.Name fr pr) [.Constant (.int 6) kr pk] [] pc, [], 0⟩] scope pos) R := by
  intro c hc s Q E A q
  k_extra "oa"
  refine LCg.ListComp_U (L := c.L) F (hclos c) hcell hkind hnames hx ?_ (hs0 _)
  refine Call_ (nameX_B F hc.X (topRead_of hc.T) g1 g2 g3 ?_ hc.hk (hkr c) b4) (e3 _)
  refine PyProof.Rows.callWith_type1 ?_ rfl rfl
  refine args_cons (wpAny_Constant_int (args_nil ?_)) rfl
  refine range1_rows (s := { s with toks := s.toks + 1 }) F N fun h2 tk2 t₁ u₁ v₁ hr F2 N2 _ => ?_
  refine LCg.CompSrc.range (s₁ := { s with heap := h2, toks := tk2 }) (n := 6) rfl F2 N2 hr (by decide) (by rw [rangeSize_nat]; rfl) (by rw [sizeLine_eq]; decide) fun gg => ?_
  refine comp_inv (fun i ys n1 => ∃ (es : List (Addr × Int × Int)) (so1 : Obj), ys = (es.map fun e => Value.ref e.1) ∧ es.length = i ∧ SubX src n n1 ∧ (src, so1) ∈ n1 ∧ SrcOk so1 ∧ ∀ e ∈ es, NumA n1 e ∧ @Ne Nat e.1 src) 6 _ ⟨[], so, rfl, rfl, fun _ hp _ => hp, hsrc, hs, fun _ he => nomatch he⟩ ?_ ?_
  · rintro i ys n1 hi ⟨es, so1, rfl, hlen, hsub, hsrc1, hs1, hes⟩ v I oI C oC D m₂ h5 tk5 E' _ hC hxv F5 N5 off ne
    have hoff : ∀ p ∈ n1, p.1 ≠ I ∧ p.1 ≠ C ∧ p.1 ≠ D := fun p hp => off.mem p hp
    have n3 := hoff _ hsrc1
    refine call_in (s := { s with heap := h5, toks := tk5 }) hc F5 N5 (.tail _ (.tail _ (.tail _ (hsub _ hS hne)))) dS (number_k (R := fun pv n2 => ∃ D' a b so2, pv = .ref D' ∧ SubX src ((I, oI) :: (C, oC) :: (D, LCg.lst (es.map fun e => Value.ref e.1)) :: n1) n2 ∧ (src, so2) ∈ n2 ∧ SrcOk so2 ∧ New ((I, oI) :: (C, oC) :: (D, LCg.lst (es.map fun e => Value.ref e.1)) :: n1) D' ∧ NumA n2 (D', a, b)) (.tail _ (.tail _ (.tail _ hsrc1))) hs1 fun D' a b o' n2 x1 x2 x3 x4 x5 => ⟨D', a, b, o', rfl, x1, x2, x3, x4, x5⟩) hf hk hd hu (fun v9 pv9 n2 h6 t6 i9 r9 F6 N6 => ?_) hcl hkind (hkf c C) (hko c C) b1 b2 b3 e1
    obtain ⟨D', a, b, so2, rfl, sx, hsrc2, hs2, hw, ⟨⟨ta, tb, cc, hm⟩, hbd⟩⟩ := r9
    obtain rfl := i9.ref
    have wI := (hw _ (.head _)).symm
    have wC := (hw _ (.tail _ (.head _))).symm
    have wD := (hw _ (.tail _ (.tail _ (.head _)))).symm
    have wS := (hw _ (.tail _ (.tail _ (.tail _ hsrc1)))).symm
    have keep : ∀ p ∈ n1, @Ne Nat p.1 src → p ∈ n2.filter fun p => decide (p.1 ≠ I ∧ p.1 ≠ C ∧ p.1 ≠ D) := fun p hp hne => List.mem_filter.mpr ⟨sx _ (.tail _ (.tail _ (.tail _ hp))) hne, decide_eq_true (hoff p hp)⟩
    have hm9 : (D', tup [.int a ta, .int b tb] cc) ∈ n2.filter fun p => decide (p.1 ≠ I ∧ p.1 ≠ C ∧ p.1 ≠ D) := List.mem_filter.mpr ⟨hm, decide_eq_true ⟨wI, wC, wD⟩⟩
    refine LCg.CompEnd.intro F6 N6 (n2.filter fun p => decide (p.1 ≠ I ∧ p.1 ≠ C ∧ p.1 ≠ D)) (fun p hp => ?_) (.of fun p hp => of_decide_eq_true (List.mem_filter.mp hp).2) trivial ⟨es ++ [(D', a, b)], so2, by rw [List.map_append]; rfl, by rw [List.length_append, hlen]; rfl, fun p hp hne => keep p (hsub p hp hne) hne, List.mem_filter.mpr ⟨hsrc2, decide_eq_true n3⟩, hs2, fun e he => ?_⟩
    · k_extra "rm"
      · exact sx _ (.head _) (Ne.symm n3.1)
      k_extra "rm"
      · exact sx _ (.tail _ (.head _)) (Ne.symm n3.2.1)
      k_extra "rm"
      · exact sx _ (.tail _ (.tail _ (.head _))) (Ne.symm n3.2.2)
      · exact (List.mem_filter.mp hp).1
    · rcases List.mem_append.mp he with he | he
      · obtain ⟨⟨⟨t, u, c, hme⟩, hb⟩, hn⟩ := hes e he
        exact ⟨⟨⟨t, u, c, keep _ hme hn⟩, hb⟩, hn⟩
      · rw [List.mem_singleton.mp he]
        exact ⟨⟨⟨ta, tb, cc, hm9⟩, hbd⟩, wS⟩
  · rintro ys n1 ⟨es, so1, rfl, hlen, hsub, hsrc1, hs1, hes⟩ D9 h9 t9 F9 N9 off
    exact q (.ref D9) (.ref D9) _ h9 t9 rfl (h D9 es so1 _ (fun p hp hne => .tail _ (hsub p hp hne)) (.tail _ hsrc1) hs1 hlen (.head _) fun e he => by obtain ⟨⟨⟨t, u, c, hme⟩, hb⟩, _⟩ := hes e he; exact ⟨⟨t, u, c, .tail _ hme⟩, hb⟩) ⟨m', hm', F9, N9⟩
end
end
section
open PySem PySem.W PyProof.Rows PyProof.V PySem.Spec
open PySem.Calls PySem.SeqAt
section
variable {sc : Sc} {d u : Nat} {w : World} {m : Nms} {n n0 : Led} {R : PV → Led → Prop} {S : PF → Nms → Led → Prop}
theorem Ev.lcut46 {a : Expr} {k : Nat} {p1 p p' : Pos} (h : Ev sc d u w m n a fun va n1 => ∃ D v0 v1 v2 v3 v4 v5, va = .ref D ∧ (D, LCg.lst [v0, v1, v2, v3, v4, v5]) ∈ n1 ∧ ∀ D' n2, Sub n1 n2 → (∃ k, (D', listOf (List.toArray [v0, v1, v2, v3]) k) ∈ n2) → R (.ref D') n2)
    (hs : autoParam (SlL (.Slice Option.none (some (.Constant (.int 4) k p1)) Option.none p')) aZ) (ht : autoParam (∀ (l : Addr) (v : Value), letTemporaryGo a (.ref l) v = pure ()) aZ) : Ev sc d u w m n (.Subscript a (.Slice Option.none (some (.Constant (.int 4) k p1)) Option.none p') p) R := by
  intro c hc s Q E A q
  refine Subscript_ (h c hc s _ E A fun v1 p1 n1 h1 t1 i1 r1 A1 => ?_)
  refine wpAny_Slice (evalPart_none_step (evalPart_some_step (wpAny_Constant_int (evalPart_none_step ?_))))
  obtain ⟨D, v0, v1, v2, v3, v4, v5, rfl, hD, r2⟩ := r1
  obtain rfl := i1.ref
  obtain ⟨m', hm', F, N⟩ := A1
  refine kmk_slice_lit (s := { s with heap := h1, toks := _ }) (zs := [v0, v1, v2, v3]) F N (News.isList N hD) .none (.int _ _) rfl (fun D' h2 F2 N2 hlt => ?_) (hs _ _) (ht _) (by rw [sizeLine_eq]; exact Nat.le_of_ble_eq_true rfl)
  exact q (.ref D') (.ref D') _ h2 _ rfl (r2 D' _ (Sub.tail (Sub.refl _)) ⟨_, .head _⟩) ⟨m', hm', F2, N2⟩
theorem Ex1.forP {x1 x2 : Str} {p1 p2 tp p : Pos} {kt : Nat} {iter : Expr} {body : List Stmt}
    (h : Ev sc d u w m n iter fun pv n1 => ∃ (I : Nat → Nms → Led → Prop), ∃ D vs k pvs, pv = .ref D ∧ (D, listOf (List.toArray vs) k) ∈ n1 ∧ All2 PvIs vs pvs ∧ I 0 m n1 ∧ (∀ i pv m1 n2 Ia o, pvs[i]? = some pv → I i m1 n2 → (∀ p ∈ n2, @Ne Nat p.1 Ia) → ∃ B pa pb, pv = .ref B ∧ TupAt n2 B [pa, pb] ∧ Ex sc d u w ((x2, pb) :: (x1, pa) :: m1) ((Ia, o) :: n2) body (KTurnL I i Ia D o (listOf (List.toArray vs) k))) ∧ (∀ m1 n2, I pvs.length m1 n2 → S .next m1 n2))
    (hx : autoParam (∀ c : Fc w, ∀ x ∈ [x1, x2], (c.env sc).kindOf x = some .local) aX) (hst : autoParam (∀ c : Fc w, (assignEach [Expr.Name x1 p1, .Name x2 p2] (c.env sc)).findIdx? (·.1) = none) aY) (hs : autoParam (∀ env v, foldedSetIterable iter env v = pure v) aZ) : Ex1 sc d u w m n (.For (.Tuple [.Name x1 p1, .Name x2 p2] kt tp) iter body [] p) S := by
  refine ExT.noE fun c hc s Q A q => ?_
  have A0 := A
  obtain ⟨m0, hm0, F0, N0⟩ := A0
  refine For_turns (h₀ := c.g) F0 (h c hc s _ _ A fun v pv n1 h1 t1 i1 r1 A1 => ?_) (hs _) PassesOwn.never
  obtain ⟨I, D, vs, k, pvs, rfl, hD, hv, hI0, turn, fin⟩ := r1
  obtain rfl := i1.ref
  obtain ⟨m1', hm1, F1, N1⟩ := A1
  refine iter_listTurns (s := { s with heap := h1, toks := t1 }) (vs := vs) rfl F1 N1 hD rfl rfl fun Ia hIa => ?_
  refine items_inv2 (α := Value) Itm.val (fun _ _ _ pre m' news => ∃ mm, NmsIs m' mm ∧ I pre.length mm news ∧ ∀ p ∈ news, @Ne Nat p.1 Ia) vs m1' n1 ⟨m, hm1, hI0, fun p hp => Nat.ne_of_lt (hIa p hp)⟩ ?_ ?_
  · rintro pre v post hsplit m' news ⟨mm, hmm, hI, hoff⟩ v' h2 t2 o rfl F2 hcls N2
    have hget : vs[pre.length]? = some v' := by rw [hsplit, List.getElem?_append_right (Nat.le_refl _), Nat.sub_self]; rfl
    obtain ⟨pv, hpv, hvp⟩ := hv.get hget
    obtain ⟨B, pa, pb, rfl, ⟨vs2, c2, hB, hv2⟩, body9⟩ := turn pre.length pv mm news Ia o hpv hI hoff
    obtain rfl := hvp.ref
    have nm : ∀ (x : Str) (q : Pos), StT (c.env sc) (fun v => PySem.assign (.Name x q) (c.env sc) v) x := fun _ _ _ _ _ _ _ _ h => PyProof.Rows.assign_Name h
    refine unpackN_ (s := { s with heap := h2, toks := t2 }) (items := vs2.toArray) F2 N2 (N2.isTup (.tail _ hB)) rfl (by rw [List.size_toArray, hv2.len]; rfl) (hst c) fun h' F' N' => ?_
    refine stores hc _ [x1, x2] vs2 [pa, pb] mm _ _ (show All2 (StT (c.env sc)) _ [x1, x2] from ⟨nm _ _, nm _ _, trivial⟩) hv2 (by rw [hv2.len]; rfl) (hx c) ⟨m', hmm, F', N'⟩ fun h3 t3 A3 => ?_
    refine body9 c hc _ _ _ A3 fun f pf m4 n4 h4 t4 i4 r4 A4 => ?_
    obtain ⟨rfl, m5, n5, hl, hIo, hsub, hoff5, hD5, hI5⟩ := r4
    obtain ⟨m4', hm4, F4, N4⟩ := A4
    have hf : f = .next := by cases f <;> first | rfl | exact i4.elim
    subst hf
    refine ⟨h4, t4, m4', n5, rfl, F4, fun p hp => ?_, fun p hp q hq => ?_, subL_of fun p hp => ?_, m5, fun z pv hz => hm4 z pv (hl z pv hz), ?_, hoff5⟩
    · rcases List.mem_append.mp hp with hp | hp
      · rw [List.mem_singleton.mp hp]; exact N4 _ hIo
      · exact N4 _ (hsub p hp)
    · rw [List.mem_singleton.mp hq]; exact hoff5 p hp
    · rw [List.mem_singleton.mp hp]; exact hD5
    · rw [List.length_append]; exact hI5
  · rintro m' news ⟨mm, hmm, hI, _⟩ h2 t2 F2 N2
    rw [hv.len] at hI
    exact q .next .next mm news h2 t2 trivial (fin mm news hI) ⟨m', hmm, F2, N2⟩
theorem B5.all {n n' : Led} (s : Sub n n') {ys : List Value} {es : List (Addr × Int × Int)} (h : All2 (fun (v : Value) e => ∃ A, v = .ref A ∧ B5 w n A (rv e.2.1 e.2.2)) ys es) : All2 (fun (v : Value) e => ∃ A, v = .ref A ∧ B5 w n' A (rv e.2.1 e.2.2)) ys es :=
  All2.imp (fun _ _ ⟨A, e, b⟩ => ⟨A, e, b.sub s⟩) h
theorem Ex1.pairComp {y x1 x2 o fx : Str} {py spos q1 q2 q3 q4 q5 px1 px2 tp pos : Pos} {kn : Nat} {scope : Scope} {D : Addr} {es : List (Addr × Int × Int)} (hm : m.lookup o = some (.ref D)) (hD : (D, LCg.lst (es.map fun e => Value.ref e.1)) ∈ n) (hl : es.length < 1000) (hes : ∀ e ∈ es, NumA n e)
    (h : ∀ D' ys n', Sub n n' → (D', LCg.lst ys) ∈ n' → All2 (fun (v : Value) e => ∃ A, v = .ref A ∧ B5 w n' A (rv e.2.1 e.2.2)) ys es → S .next ((y, .ref D') :: m) n')
    (hf : nsIn (Mine.hd.heap_1 w.params) mainGlobals fx = some (some (.ref 89))) (hk9 : keepIn (Mine.hd.heap_1 w.params) (.ref 89) = true) (hd : 20 ≤ d) (hu : 160 ≤ u)
    (hclos : autoParam (∀ c : Fc w, closureFor scope (c.env sc) = pure []) aY) (hcell : autoParam (∀ y ∈ scope.names, y.2 ≠ .cell) aD) (hkind : autoParam (scope.kind = .function) aW)
    (hnames : autoParam (∀ y ∈ scope.names, y.2 = .local → scope.names.lookup y.1 = some .local) aD) (hx1 : autoParam (scope.names.lookup x1 = some .local) aW) (hx2 : autoParam (scope.names.lookup x2 = some .local) aW) (hxx : autoParam (x1 ≠ x2) aD)
    (hk : autoParam (∀ c : Fc w, (c.env sc).kindOf o = some .local) aY) (b0 : autoParam ((o == Str.ofString "__debug__") = false) aW)
    (hk1 : autoParam (∀ (c : Fc w) (C : Addr), (compEnvC scope [] C (c.env sc)).kindOf x1 = some .local) aZ) (b1 : autoParam ((x1 == Str.ofString "__debug__") = false) aW)
    (hk2 : autoParam (∀ (c : Fc w) (C : Addr), (compEnvC scope [] C (c.env sc)).kindOf x2 = some .local) aZ) (b2 : autoParam ((x2 == Str.ofString "__debug__") = false) aW)
    (hkf : autoParam (∀ (c : Fc w) (C : Addr), (compEnvC scope [] C (c.env sc)).kindOf fx = some .globalImplicit) aZ) (b3 : autoParam ((fx == Str.ofString "__debug__") = false) aW)
    (e1 : autoParam (∀ env, eval ((Expr.Name fx q1).Call [.Name x1 q2, .Name x2 q3] [] q4) env = (do let v ← eval (Expr.Name fx q1) env; callWith q4 v [] (backTo q4 (starEach [.Name x1 q2, .Name x2 q3] env)) (backToKw q4 (keywordEach [] env)))) aY)
    (hs0 : autoParam (∀ env v, foldedSetIterable (.Name o q5) env v = pure v) aZ) (hy : autoParam (∀ c : Fc w, (c.env sc).kindOf y = some .local) aY)
    (hsw : autoParam (∀ c : Fc w, swapsWith (.ListComp (.Call (.Name fx q1) [.Name x1 q2, .Name x2 q3] [] q4) [⟨.Tuple [.Name x1 px1, .Name x2 px2] kn tp, .Name o q5, [], 0⟩] scope pos) (some (.Name y py)) spos.line (c.env sc) = pure true) aY) :
    Ex1 sc d u w m n (.Assign [.Name y py] (.ListComp (.Call (.Name fx q1) [.Name x1 q2, .Name x2 q3] [] q4) [⟨.Tuple [.Name x1 px1, .Name x2 px2] kn tp, .Name o q5, [], 0⟩] scope pos) spos) S := by
  refine ExT.noE fun c hc s Q A q => ?_
  k_extra "oa"
  obtain ⟨v', hv, hp'⟩ := hm' o _ hm
  obtain rfl := hp'.ref
  refine LCp.Assign_ListComp_P (L := c.L) F rfl (hsw c) (hclos c) hcell hkind hnames hx1 hx2 hxx (hy c) (by show (sc.s.kind == ScopeKind.class || sc.s.kind == ScopeKind.module && _) = false; rw [hc.hk]; rfl) (nameX_L F hv ?_ hc.hk (hk c) b0) (hs0 _)
  refine LCp.SrcLP.ledger rfl F N hD (by rw [List.size_toArray, List.length_map, sizeLine_eq]; omega) fun g => ?_
  refine comp_invP (fun i ys n1 => Sub n n1 ∧ All2 (fun (v : Value) e => ∃ A, v = .ref A ∧ B5 w n1 A (rv e.2.1 e.2.2)) ys (es.take i)) _ _ ⟨Sub.refl _, trivial⟩ ?_ ?_
  · rintro i ys news hi ⟨hsub, hys⟩ v hv5
    obtain ⟨e, he, rfl⟩ : ∃ e, es[i]? = some e ∧ v = .ref e.1 := by
      have h5 : (es.map fun e => Value.ref e.1)[i]? = some v := by simpa using hv5
      rw [List.getElem?_map] at h5
      obtain ⟨e, h6, h7⟩ := Option.map_eq_some_iff.mp h5
      exact ⟨e, h6, h7.symm⟩
    obtain ⟨⟨t, u0, c0, me⟩, g1, g2, g3, g4⟩ := hes e (List.mem_of_getElem? he)
    refine ⟨e.1, _, .int e.2.1 t, .int e.2.2 u0, _, rfl, hsub _ me, rfl, rfl, ?_⟩
    intro I oI C oC D2 m₂ h5 tk5 E' hC hxv hyv F5 N5 off ne
    refine Call_ (LCgL.ld_global (s := { s with heap := h5, toks := tk5 }) F5 hc.X hc.T hf ?_ rfl hkind (hkf c C) b3) (e1 _)
    refine callWith_K hc.X hk9 ?_ rfl rfl
    refine args_cons (LCgL.ld_own (s := { s with heap := h5, toks := tk5 }) N5 (.tail _ (.head _)) hC hxv ?_ hkind (hk1 c C) b1) rfl
    refine args_cons (LCgL.ld_own (s := { s with heap := h5, toks := tk5 }) N5 (.tail _ (.head _)) hC hyv ?_ hkind (hk2 c C) b2) rfl
    refine args_nil ⟨hc.X.keeps F5.keep, ?_⟩
    refine cl_use (frac_f (R := fun pv n2 => ∃ T x' y' t8 u8 c8, pv = .ref T ∧ n2 = (T, tup [.int x' t8, .int y' u8] c8) :: (I, oI) :: (C, oC) :: (D2, LCg.lst ys) :: news ∧ AllLt T ((I, oI) :: (C, oC) :: (D2, LCg.lst ys) :: news) ∧ Bd 5 x' y' ∧ rv x' y' = rv e.2.1 e.2.2) (by omega) (by omega) (fun T x' y' t8 u8 c8 l8 a8 b8 c9 r8 => ⟨T, x', y', t8, u8, c8, rfl, rfl, l8, ⟨by omega, b8, by omega⟩, r8⟩) [.int e.2.1 t, .int e.2.2 u0] (show All2 PvIs [Value.int e.2.1 t, Value.int e.2.2 u0] [PV.int e.2.1, PV.int e.2.2] from ⟨rfl, rfl, trivial⟩)) (s := { s with heap := h5, toks := tk5 }) hc.B F5 hc.X N5 hc.T hc.hk (Nat.lt_of_le_of_lt (Nat.add_le_add_left hd _) hc.hd) (Nat.lt_of_le_of_lt (Nat.add_le_add_left hu _) hc.hu) fun v9 nw h6 t6 r9 F6 N6 => ?_
    obtain ⟨pv9, i9, T, x', y', t8, u8, c8, e9, en, l8, bd, r8⟩ := r9
    subst e9
    subst en
    obtain rfl := i9.ref
    refine compEnd9b (s₁ := { s with heap := h5, toks := tk5 }) F6 N6 l8.1 l8.2.1 l8.2.2.1 off (.inr ⟨_, .tail _ (hsub _ hD), rfl, _, rfl⟩) ⟨fun p hp => .tail _ (hsub p hp), ?_⟩
    rw [List.take_add_one, he]
    exact All2.append (B5.all (Sub.tail (Sub.refl _)) hys) ⟨⟨T, rfl, x', y', T2.new (.head _), bd, r8⟩, trivial⟩
  · rintro ys news ⟨hsub, hys⟩ D9 h9 t9 F9 N9 off
    rw [List.take_of_length_le (by simp)] at hys
    exact q .next .next _ _ h9 t9 trivial (h D9 ys _ (fun p hp => .tail _ (hsub p hp)) (.head _) (B5.all (Sub.tail (Sub.refl _)) hys)) ⟨_, nmsIs_cons (v := .ref D9) (pv := .ref D9) hm' rfl, F9, N9⟩
end
section
variable {sc : Sc} {d u : Nat} {w : World} {m : Nms} {n n0 : Led} {R : PV → Led → Prop} {S : PF → Nms → Led → Prop}
theorem ExS.of {cc : Addr} {ss : List Stmt} (h : Ex sc d u w m n ss S) : ExS sc cc d u w m n (fun env => execs ss env) S :=
  fun c hc hb s Q E A q => h c hc s Q E A fun f pf m' n' h' tk' i r A' => q c f pf m' n' h' tk' hc hb After.refl i r A'
structure DT (src cS : Addr) (o oS : Obj) (ps : Array Value) (n : Led) : Prop where
  hs : (src, o) ∈ n
  hS : (cS, oS) ∈ n
  h7 : (577, tabObj #[]) ∈ n
  h3 : (513, tabObj ps) ∈ n
theorem DT.sub {src cS : Addr} {o oS : Obj} {ps : Array Value} {n n' : Led} (h : DT src cS o oS ps n) (s : Sub n n') : DT src cS o oS ps n' := ⟨s _ h.hs, s _ h.hS, s _ h.h7, s _ h.h3⟩
def DNe (src cS : Addr) : Prop := @Ne Nat cS src ∧ @Ne Nat 577 src ∧ @Ne Nat 513 src
theorem DT.src' {src cS : Addr} {o oS o' : Obj} {ps : Array Value} {n n' : Led} (h : DT src cS o oS ps n) (e : DNe src cS) (s : SubX src n n') (ho : (src, o') ∈ n') : DT src cS o' oS ps n' := ⟨ho, s _ h.hS e.1, s _ h.h7 e.2.1, s _ h.h3 e.2.2⟩
theorem four_num {e1 e2 e3 e4 : Addr × Int × Int} (h1 : NumA n e1) (h2 : NumA n e2) (h3 : NumA n e3) (h4 : NumA n e4) {i : Nat} {pv : PV} (h : [PV.ref e1.1, .ref e2.1, .ref e3.1, .ref e4.1][i]? = some pv) :
    ∃ e : Addr × Int × Int, pv = .ref e.1 ∧ NumA n e ∧ [rv e1.2.1 e1.2.2, rv e2.2.1 e2.2.2, rv e3.2.1 e3.2.2, rv e4.2.1 e4.2.2].take (i + 1) = [rv e1.2.1 e1.2.2, rv e2.2.1 e2.2.2, rv e3.2.1 e3.2.2, rv e4.2.1 e4.2.2].take i ++ [rv e.2.1 e.2.2] := by
  match i, h with
  | 0, h => exact ⟨e1, (Option.some.inj h).symm, h1, rfl⟩
  | 1, h => exact ⟨e2, (Option.some.inj h).symm, h2, rfl⟩
  | 2, h => exact ⟨e3, (Option.some.inj h).symm, h3, rfl⟩
  | 3, h => exact ⟨e4, (Option.some.inj h).symm, h4, rfl⟩
theorem six_b5 {ys : List Value} {e1 e2 e3 e4 e5 e6 : Addr × Int × Int} (h : All2 (fun (v : Value) e => ∃ A, v = .ref A ∧ B5 w n A (rv e.2.1 e.2.2)) ys [e1, e2, e3, e4, e5, e6]) :
    ∃ A1 A2 A3 A4 A5 A6, ys = [.ref A1, .ref A2, .ref A3, .ref A4, .ref A5, .ref A6] ∧ B5 w n A1 (rv e1.2.1 e1.2.2) ∧ B5 w n A2 (rv e2.2.1 e2.2.2) ∧ B5 w n A3 (rv e3.2.1 e3.2.2) ∧ B5 w n A4 (rv e4.2.1 e4.2.2) := by
  apply All2.six h
  rintro v1 v2 v3 v4 v5 v6 ⟨A1, rfl, b1⟩ ⟨A2, rfl, b2⟩ ⟨A3, rfl, b3⟩ ⟨A4, rfl, b4⟩ ⟨A5, rfl, _⟩ ⟨A6, rfl, _⟩
  exact ⟨A1, A2, A3, A4, A5, A6, rfl, b1, b2, b3, b4⟩
theorem sq_facts {t : Int} {q : Rat} (h : rv t 144 = q) (t0 : 0 ≤ t) (t1 : t ≤ 3600 * 4) : q < 1000 ∧ 0 ≤ q ∧ 0 ≤ Int.fdiv t 144 ∧ Int.fdiv t 144 ≤ 100 := by
  obtain ⟨k1, k2⟩ := fdiv_le_mul (n := t) (f := 144) (by decide)
  refine ⟨?_, ?_, Int.fdiv_nonneg t0 (by decide), by omega⟩
  · have e : (1000 : Rat) = rv 1000 1 := by unfold rv; decide +kernel
    rw [← h, e, rv_lt (by decide) (by decide)]; omega
  · have e : (0 : Rat) = rv 0 1 := by unfold rv; decide +kernel
    rw [← h, e, ← Rat.not_lt, rv_lt (by decide) (by decide)]; omega
theorem rv_zero144 : rv 0 144 = sqq ([] : List Rat) := by unfold rv; decide +kernel
theorem dotsr_k {src : Addr} {o : Obj} {ps : Array Value} (hs : SrcOk o) (h1 : @Ne Nat src 577) (h13 : @Ne Nat src 513) :
    Cb w 150 1200 535 [.ref src] [(src, o), (577, tabObj #[]), (513, tabObj ps)] (fun v nw => ∃ pv, PvIs v pv ∧ ∃ o', pv = .bool true ∧ nw = [(src, o'), (577, tabObj #[]), (513, tabObj ps)] ∧ SrcOk o') := by
  refine Cb.enterC (d' := 145) (u' := 1190) (x := Str.ofString "source") (pv := .ref src) (R := fun pv nw => ∃ o', pv = .bool true ∧ nw = [(src, o'), (577, tabObj #[]), (513, tabObj ps)] ∧ SrcOk o') (by k_is) (by k_is) rfl rfl (fun _ => BindsTo.of_eq rfl) (by decide +kernel) (by decide +kernel) (fun _ _ _ => .inr (by k_extra "w")) ?_ (by decide) (by decide) (fun _ _ _ => by with_unfolding_all eq_refl)
  intro L' cells cm l1 Y hcm hcs
  have l2 := l1 _ (.head _)
  obtain ⟨oS, rfl, dS⟩ := CellsAre.one (n := Str.ofString "source") Y
  rw [hcs (by decide +kernel)] at dS
  have nS : DNe src (L' + 1) := ⟨Nat.ne_of_gt (Nat.lt_succ_of_lt l2), h1.symm, h13.symm⟩
  have T0 : DT src (L' + 1) o oS ps ([(L' + 1, oS)] ++ [(src, o), (577, tabObj #[]), (513, tabObj ps)]) := ⟨.tail _ (.head _), .head _, .tail _ (.tail _ (.head _)), .tail _ (.tail _ (.tail _ (.head _)))⟩
  clear Y hcm hcs l1 l2
  rw [if_neg (by decide +kernel)]
  refine ExS.abs fun S0 up0 => ?_
  k_extra "q"
  with_reducible refine Ex1.swap2 ?_
  k_extra "tu"
  k_extra "c"
  with_reducible refine Ev.tupleF ?_
  k_extra "c"
  refine take_c (by decide) (by decide) ?_
  k_extra "c"
  refine Ev.nameC T0.hS dS (pv := .ref src) rfl ?_ (by k_extra "w") fun _ => .inl (by k_extra "w")
  k_extra "c"
  k_extra "i"
  k_extra "z"
  refine take_k T0.hs hs (by decide) (by decide) fun x1 o1 n1 sx1 ho1 hs1 x1a x1b => ?_
  have T1 := T0.src' nS sx1 ho1
  k_extra "c"
  k_extra "b"
  k_extra "i"
  refine take_c (by decide) (by decide) ?_
  k_extra "c"
  refine Ev.nameC T1.hS dS (pv := .ref src) rfl ?_ (by k_extra "w") fun _ => .inl (by k_extra "w")
  k_extra "c"
  k_extra "i"
  k_extra "z"
  refine take_k T1.hs hs1 (by decide) (by decide) fun x2 o2 n2 sx2 ho2 hs2 x2a x2b => ?_
  have T2 := T1.src' nS sx2 ho2
  refine Op.addI ?_
  k_extra "z"
  refine ⟨by with_unfolding_all exact Nat.le_of_ble_eq_true rfl, fun Tz vz cz n3 s3 wz mz iz => ?_⟩
  have T3 := T2.sub s3
  have nz := (wz _ T2.hs).symm
  k_extra "c"
  refine Ev.numComp (cS := L' + 1) (src := src) (cl := [(Str.ofString "source", L' + 1)]) T3.hS dS T3.hs hs2 nS.1 (fun D6 es o6 n6 sx6 ho6 hs6 hl6 mD6 he6 => ?_) (by k_is) (by k_is) (by decide) (by decide) (by k_is) (by rfl) (by decide +kernel)
  have T6 := T3.src' nS sx6 ho6
  have tz6 : TupAt n6 Tz [.int x1, .int (3 + x2)] := ⟨vz, cz, sx6 _ mz nz, iz⟩
  obtain ⟨e1, e2, e3, e4, e5, e6, rfl⟩ := six_of hl6
  k_extra "z"
  refine ⟨by with_unfolding_all exact Nat.le_of_ble_eq_true rfl, fun D7 n7 s7 t7 => ⟨D7, _, _, rfl, t7, ⟨rfl, ?_⟩⟩⟩
  clear T0 T1 T2 T3 sx6 sx1 sx2 s3 wz mz iz nz t7 ho6 ho1 ho2
  k_extra "q"
  with_reducible refine Ex1.unpack2 ?_
  k_extra "tu"
  k_extra "c"
  k_extra "i"
  k_extra "c"
  k_extra "i"
  k_extra "z"
  refine ⟨by with_unfolding_all exact Nat.le_of_ble_eq_true rfl, fun D8 n8 s8 t8 => ⟨D8, _, _, rfl, t8, ⟨rfl, ?_⟩⟩⟩
  have s78 : Sub n6 n8 := fun p hp => s8 _ (s7 _ hp)
  have T8 := T6.sub s78
  have tz7 := tz6.sub s78
  have mD8 := s78 _ mD6
  clear T6 tz6 mD6 t8 s7 s8
  k_extra "q"
  with_reducible refine Ex1.forP ?_
  with_reducible refine Ev.lcut46 ?_
  k_extra "n"
  refine ⟨D6, _, _, _, _, _, _, rfl, mD8, fun D9 n9 s9 m9 => ?_⟩
  obtain ⟨k9, m9⟩ := m9
  have tz8 := tz7.sub s9
  have T9 := T8.sub s9
  have mD9 := s9 _ mD8
  have he9 : ∀ e ∈ [e1, e2, e3, e4, e5, e6], NumA n9 e := fun e he => by obtain ⟨⟨t, u, c, hme⟩, hb⟩ := he6 e he; exact ⟨⟨t, u, c, s9 _ (s78 _ hme)⟩, hb⟩
  refine ⟨fun i m1 n1 => n9 = n1 ∧ ∃ t, m1 = [(Str.ofString "bottom", .int 144), (Str.ofString "top", .int (t)), (Str.ofString "size", .ref Tz), (Str.ofString "six", .ref D6)] ∧ rv t 144 = sqq ([rv e1.2.1 e1.2.2, rv e2.2.1 e2.2.2, rv e3.2.1 e3.2.2, rv e4.2.1 e4.2.2].take i) ∧ 0 ≤ t ∧ t ≤ 3600 * (i : Int), D9, _, k9, [.ref e1.1, .ref e2.1, .ref e3.1, .ref e4.1], rfl, m9, ⟨rfl, rfl, rfl, rfl, trivial⟩, ⟨rfl, 0, rfl, rv_zero144, by decide, by decide⟩, ?_, ?_⟩
  · rintro i pv m1 n2 Ia oI hpv ⟨rfl, t, rfl, hr, t0, t1⟩ hne
    obtain ⟨e, rfl, ⟨⟨ta, ub, c0, me⟩, g1, g2, g3, g4⟩, hq⟩ := four_num (he9 e1 (by simp)) (he9 e2 (by simp)) (he9 e3 (by simp)) (he9 e4 (by simp)) hpv
    refine ⟨e.1, .int e.2.1, .int e.2.2, rfl, ⟨_, _, me, rfl, rfl, trivial⟩, ?_⟩
    have f9 := num_facts g1 g2 g3 g4
    have f8 := sq_pos g3 g4
    have f7 := f9.1
    have f6 := f9.2.1
    k_extra "e"
    k_extra "a"
    k_extra "b"
    k_extra "n"
    k_extra "b"
    k_extra "b"
    k_extra "b"
    k_extra "n"
    k_extra "n"
    refine Op.mul (IntMulOk.of_left (intBits_le_64 (by omega) (by omega))) ?_
    k_extra "i"
    refine Op.mul (IntMulOk.of_right (intBits_le_64 (by decide) (by decide))) ?_
    k_extra "b"
    k_extra "n"
    k_extra "n"
    refine Op.mul (IntMulOk.of_left (intBits_le_64 (by omega) (by omega))) ?_
    refine Op.fdiv f8.1 (by omega) ?_
    refine Op.addI ?_
    k_extra "x"
    k_extra "en"
    exact ⟨rfl, [(Str.ofString "bottom", .int 144), (Str.ofString "top", .int (t + Int.fdiv (e.2.1 * e.2.1 * 144) (e.2.2 * e.2.2))), (Str.ofString "size", .ref Tz), (Str.ofString "six", .ref D6)], n9, Le.cons (by k_extra "w") (Le.cons (by k_extra "w") (Le.cons (by k_extra "w") (Le.cons (by k_extra "w") (Le.nil)))), .head _, fun p hp => .tail _ hp, hne, m9, rfl, _, rfl, by rw [hq, sqq_snoc, rv_add144, hr, f9.2.2], by omega, by push_cast; omega⟩
  · rintro m1 n1 ⟨rfl, t, rfl, hr, t0, t1⟩
    have hr : rv t 144 = sqq [rv e1.2.1 e1.2.2, rv e2.2.1 e2.2.2, rv e3.2.1 e3.2.2, rv e4.2.1 e4.2.2] := hr
    have z := sq_facts hr t0 t1
    refine ⟨rfl, ?_⟩
    k_extra "q"
    k_extra "a"
    k_extra "i"
    refine ⟨rfl, ?_⟩
    k_extra "q"
    refine Ex1.while_ (fun k m1 n1 => n9 = n1 ∧ ∃ r, m1 = [(Str.ofString "root", .int (r)), (Str.ofString "bottom", .int 144), (Str.ofString "top", .int t), (Str.ofString "size", .ref Tz), (Str.ofString "six", .ref D6)] ∧ 0 ≤ r ∧ r ≤ 200 ∧ r * r ≤ Int.fdiv t 144 ∧ k = (Int.fdiv t 144 + 1 - r).toNat) _ ⟨rfl, 0, rfl, by decide, by decide, by omega, rfl⟩ ?_
    rintro k1 m1 n1 ⟨rfl, r, rfl, r0, r2, r1, rfl⟩
    k_extra "t"
    k_extra "b"
    k_extra "b"
    k_extra "n"
    k_extra "i"
    refine Op.addI ?_
    k_extra "b"
    k_extra "n"
    k_extra "i"
    refine Op.addI ?_
    refine Op.mul (IntMulOk.of_left (intBits_le_64 (by omega) (by omega))) ?_
    k_extra "b"
    k_extra "n"
    k_extra "n"
    refine Op.fdiv (by decide) (by decide) ?_
    refine Op.leI ⟨_, rfl, fun e => ?_, fun e => ?_⟩
    · have e0 := of_decide_eq_true e
      have e2 := root_t r0 e0 z.2.2.2
      k_extra "e"
      k_extra "a"
      k_extra "b"
      k_extra "n"
      k_extra "i"
      refine Op.addI ?_
      k_extra "x"
      k_extra "en"
      exact ⟨_, root_m r0 e0, [(Str.ofString "root", .int (r + 1)), (Str.ofString "bottom", .int 144), (Str.ofString "top", .int t), (Str.ofString "size", .ref Tz), (Str.ofString "six", .ref D6)], Le.cons (by k_extra "w") (Le.cons (by k_extra "w") (Le.cons (by k_extra "w") (Le.cons (by k_extra "w") (Le.cons (by k_extra "w") (Le.nil))))), rfl, _, rfl, e2.1, e2.2.1, e2.2.2, rfl⟩
    · replace e := of_decide_eq_false e
      refine ⟨rfl, ?_⟩
      k_extra "q"
      k_extra "a"
      with_reducible refine max_c ?_
      k_extra "c"
      k_extra "i"
      k_extra "c"
      with_reducible refine min_c ?_
      k_extra "c"
      k_extra "i"
      k_extra "c"
      k_extra "b"
      k_extra "i"
      k_extra "b"
      k_extra "b"
      k_extra "i"
      k_extra "b"
      k_extra "u"
      k_extra "n"
      k_extra "i"
      refine Op.tup0 tz8 ?_
      k_extra "b"
      k_extra "i"
      k_extra "n"
      refine Op.addI ?_
      refine Op.mul (IntMulOk.of_left (intBits_le_64 (by omega) (by omega))) ?_
      refine Op.sub ?_
      k_extra "u"
      k_extra "n"
      k_extra "i"
      refine Op.tup1 tz8 ?_
      refine Op.fdiv (by omega) (by omega) ?_
      refine Op.sub ?_
      k_extra "z"
      refine Op.min ?_
      k_extra "z"
      refine Op.max ?_
      refine ⟨rfl, ?_⟩
      k_extra "q"
      refine Ex1.pairComp (D := D6) (es := [e1, e2, e3, e4, e5, e6]) (by k_extra "w") mD9 (by with_unfolding_all exact Nat.le_of_ble_eq_true rfl) he9 (fun DT9 ys n10 s10 mT hA => ⟨rfl, ?_⟩) (by k_is) (by k_is) (by decide) (by decide)
      obtain ⟨A1, A2, A3, A4, A5, A6, rfl, b1, b2, b3, b4⟩ := six_b5 hA
      have tz9 := tz8.sub s10
      have T10 := T9.sub s10
      refine ExS.of ?_
      k_extra "e"
      k_extra "r"
      k_extra "cm"
      refine dots_c (by decide) (by decide) ?_
      k_extra "c"
      refine frac_c (by decide) (by decide) ?_
      k_extra "c"
      k_extra "u"
      k_extra "n"
      k_extra "i"
      refine Op.tup0 tz9 ?_
      k_extra "c"
      k_extra "u"
      k_extra "n"
      k_extra "i"
      refine Op.tup1 tz9 ?_
      k_extra "z"
      refine frac_k (by omega) (by omega) fun Z zx zy n11 s11 tZ z1 z2 z3 z4 => ?_
      have lT11 : LstAt n11 DT9 [.ref A1, .ref A2, .ref A3, .ref A4, .ref A5, .ref A6] := ⟨_, _, s11 _ mT, rfl, rfl, rfl, rfl, rfl, rfl, trivial⟩
      k_extra "c"
      refine matrix_c (by decide) (by decide) ?_
      k_extra "c"
      k_extra "u"
      k_extra "n"
      k_extra "i"
      refine Op.lst0 lT11 ?_
      k_extra "c"
      k_extra "u"
      k_extra "n"
      k_extra "i"
      refine Op.lst1 lT11 ?_
      k_extra "c"
      k_extra "u"
      k_extra "n"
      k_extra "i"
      refine Op.lst2 lT11 ?_
      k_extra "c"
      k_extra "u"
      k_extra "n"
      k_extra "i"
      refine Op.lst3 lT11 ?_
      k_extra "c"
      k_extra "u"
      k_extra "n"
      k_extra "i"
      refine Op.lstItem (k := 4) lT11 rfl (by with_unfolding_all exact Nat.le_of_ble_eq_true rfl) ?_
      k_extra "c"
      k_extra "u"
      k_extra "n"
      k_extra "i"
      refine Op.lstItem (k := 5) lT11 rfl (by with_unfolding_all exact Nat.le_of_ble_eq_true rfl) ?_
      k_extra "z"
      refine matrix_a fun M n12 s12 hM => ?_
      k_extra "z"
      refine dots_k (tZ.sub s12) ⟨by omega, z2, by omega⟩ hM ((b1.sub s11).sub s12) ((b2.sub s11).sub s12) ((b3.sub s11).sub s12) ((b4.sub s11).sub s12) z.1 z.2.1 fun r5 x y x5 y5 n13 s13 y0 hr5 r50 r51 r52 r53 y50 hxy => ?_
      k_extra "n"
      refine Op.eqI ?_
      k_extra "xr"
      have T13 := ((T10.sub s11).sub s12).sub s13
      refine up0 _ _ _ ?_
      exact ⟨[(src, o6), (577, tabObj #[]), (513, tabObj ps)], ⟨o6, congrArg PV.bool (dots_beq hxy (by omega) y0 y50 hr5 rfl hr r50 r52 r53 r0 r1 e z4), rfl, hs6⟩, three_in T13.hs T13.h7 T13.h3⟩
end
end
section
open PySem PySem.W PyProof.Rows PyProof.V PySem.Spec
section
variable {sc : Sc} {d u : Nat} {w : World} {m : Nms} {n n0 : Led} {R : PV → Led → Prop} {S : PF → Nms → Led → Prop}
theorem Op.intB {b : Bool} (h : R (.int (if b then 1 else 0)) n) : Op sc d u w m n [.bool b] (fun vs => PySem.call (.type "int") vs) R := by
  intro vs hv c hc s Q E A q
  obtain ⟨v1, rfl, i1⟩ := all2_1 hv
  obtain rfl := i1.bool
  exact call_int_bool (q _ (.int (if b then 1 else 0)) n s.heap _ rfl h A)
theorem Ev.listX {es : List Expr} {p : Pos} (h : Evs sc d u w m n p es fun pvs n1 => pvs.length ≤ sizeLine ∧ ∀ D vs, AllLt D n1 → All2 PvIs vs pvs → R (.ref D) ((D, listOf vs.toArray 0) :: n1)) : Ev sc d u w m n (.List es p) R := by
  intro c hc s Q E A q
  refine List_ (h c hc s _ E A fun vs pvs n1 h1 t1 i1 r1 A1 => ?_)
  obtain ⟨m', hm', F, N⟩ := A1
  exact newList_K (s := { s with heap := h1, toks := t1 }) F N (fun D h2 F2 N2 hl => q (.ref D) (.ref D) _ h2 t1 rfl (r1.2 D vs (allLt_of hl) i1) ⟨m', hm', F2, N2⟩) (by rw [i1.len]; exact r1.1)
theorem b01 {p : Bool} {x : Int} : IntMulOk x (if p = true then 1 else 0) := .of_right (by cases p <;> exact intBits_le_64 (by decide) (by decide))
theorem great_ok {x : Int} : 0 ≤ (if -1 - x > x then -1 - x else x) := by split <;> omega
theorem pool_ok {x y : Int} {p : Bool} {ta tb : Tok} {c : Nat} (hx : 0 ≤ x) : SrcOk (listOf #[.int (x * if p = true then 1 else 0) ta, .int (y.fmod 2147483647) tb] c) :=
  ⟨_, _, ta, tb, c, rfl, by cases p <;> simp <;> omega, Int.fmod_nonneg_of_pos _ (by decide), Int.fmod_lt_of_pos _ (by decide)⟩
theorem enterK {name qual : Str} {params : Arguments} {body : List Stmt} {scope : Scope} {dV kV doc pm cdv ct oc : Value} {an od : Option Addr} {osl : Array (Option Value)} {f : Addr} {pvs : List PV} {vs : List Value} {m0 : Nms} {d' u' : Nat}
    {loose : List Str} {mean : ExcName → Option Value} {mg mb : Str → Option Value} {dp un : Nat} {gd : Option (List Code)} {cn : Str} {cs : Scope} {a : Addr} {ccd : Value} {cl : List (Str × Addr)} {A₀ : Around} {h₀ : Heap} {L : Addr} {m' : Str → Option Value} {s : Shared} {Q E : Value → Shared → Prop}
    (ho : (Mine.hd.heap_1 w.params).lookup f = some ⟨oc, od, .func (fnOf name qual params body scope dV kV doc pm an cdv ct), osl⟩) (hcd : codeIn (Mine.hd.heap_1 w.params) cdv qual = true)
    (hb : ∀ s vs, All2 PvIs vs pvs → ∃ binds, BindsTo s (fnOf name qual params body scope dV kV doc pm an cdv ct) ⟨vs, []⟩ binds ∧ NmsIs (fun y => binds.reverse.lookup y) m0 ∧ (∀ y ∈ binds, scope.names.lookup y.1 = some .local)) (hv : All2 PvIs vs pvs)
    (B : Below A₀ h₀ [] h₀) (F : Fr h₀ L s.heap m') (X : (Mine.hd.heap_1 w.params).In h₀) (N : News h₀ L s.heap n) (T : Top topProg loose mean mg mb h₀) (hkc : cs.kind = .function) (hdp : dp + d < recursionLimit) (hun : un + u < cLine) (hd : d' + 1 ≤ d) (hu : u' + 3 ≤ u)
    (h : ∀ c : Fc w, c.Ok ⟨scope, []⟩ d' u' → c.base = h₀ → ∀ (s1 : Shared) (Q1 : Flow → Shared → Prop) (E1 : Value → Shared → Prop), At c m0 n s1.heap → (∀ f pf m' n' h' tk', FlIs f pf → R (retOf pf) n' → At c m' n' h' → Q1 f { s1 with heap := h', toks := tk' }) → wpAny (model PG w) (c.A ⟨scope, []⟩) (execs body (c.env ⟨scope, []⟩)) Q1 E1 s1)
    (hret : ∀ v pv nw h' tk', PvIs v pv → R pv nw → Fr h₀ L h' m' → News h₀ L h' nw → Q v { s with heap := h', toks := tk' })
    (hco : autoParam (scope.isCoroutine = false) aW) (hgen : autoParam (scope.isGenerator = false) aW) (hk : autoParam (scope.kind = .function) aW) (hcell : autoParam (∀ x ∈ scope.names, x.2 ≠ .cell) aD) :
    wpAny (model PG w) (ktrTop dp un gd cn cs L a ccd cl []) (call (.ref f) vs) Q E s := by
  refine wpAny_call ?_
  obtain ⟨binds, hb1, hb2, hb3⟩ := hb s vs hv
  have hroom : dp < recursionLimit := Nat.lt_of_le_of_lt (Nat.le_add_right _ _) hdp
  refine code_def B F X N T rfl rfl hkc ho hcd hroom hb1 hb3 (fun g L' h1 FG F' N' B' X' T' => ?_) hco hgen hk hcell
  let c : Fc w := { dp := dp + 1, un := un + 3, gd := gd, cn := qual, L := L', a := f, ccd := cdv, outer := [envX cn cs L a ccd cl], A₀ := ktrTop dp un gd cn cs L a ccd cl [], base := h₀, g := g, loose := loose, mean := mean, mg := mg, mb := mb }
  have hc : c.Ok ⟨scope, []⟩ d' u' := ⟨B', X', T', hk, Nat.lt_of_le_of_lt (by show dp + 1 + d' ≤ dp + d; omega) hdp, Nat.lt_of_le_of_lt (by show un + 3 + u' ≤ un + u; omega) hun⟩
  refine h c hc rfl { s with heap := h1, toks := s.toks + binds.length } _ _ ⟨_, hb2, F', N'⟩ fun fl pf m1 n1 h2 t2 i r A => ?_
  obtain ⟨m2, _, F2, N2⟩ := A
  refine leaveK_ F2 N2 fun F3 N3 => ?_
  refine hret _ (retOf pf) n1 h2 t2 ?_ r F3 N3
  cases fl <;> cases pf <;> first | exact i.elim | exact trivial | exact i
theorem pool_at {loose : List Str} {mean : ExcName → Option Value} {mg mb : Str → Option Value} {dp un : Nat} {gd : Option (List Code)} {cn : Str} {cs : Scope} {a : Addr} {ccd : Value} {cl : List (Str × Addr)} {A₀ : Around} {h₀ : Heap} {L : Addr} {m : Str → Option Value} {s : Shared} {Q E : Value → Shared → Prop}
    {news : List (Addr × Obj)} {Lx : Addr} {vs : List Value} {xs : List Int} {t0 : Tok}
    (B : Below A₀ h₀ [] h₀) (F : Fr h₀ L s.heap m) (X : (Mine.hd.heap_1 w.params).In h₀) (N : News h₀ L s.heap news) (T : Top topProg loose mean mg mb h₀) (hk : cs.kind = .function) (hd : dp + 10 < recursionLimit) (hu : un + 80 < cLine)
    (hl : h₀.IsList Lx vs.toArray) (hi : IntsAre vs xs) (hc : ¬ (63 : Int) < (xs.length : Int))
    (hret : ∀ D o h' tk', SrcOk o → (∀ p ∈ news, p.1 < D) → Fr h₀ L h' m → News h₀ L h' ((D, o) :: news) → Q (.ref D) { s with heap := h', toks := tk' }) :
    wpAny (model PG w) (ktrTop dp un gd cn cs L a ccd cl []) (call (.ref 490) [.ref Lx, .int 0 t0]) Q E s := by
  have hx : xs.length < 64 := by omega
  refine enterK (R := fun pv n' => ∃ D o, pv = .ref D ∧ n' = (D, o) :: news ∧ SrcOk o ∧ AllLt D news) (d' := 5) (u' := 60) (by k_is) (by k_is) (hb2 (p1 := .ref Lx) (p2 := .int 0) (x1 := Str.ofString "script") (x2 := Str.ofString "k") (fun _ _ _ => BindsTo.of_eq rfl) (by decide +kernel)) ⟨rfl, rfl, trivial⟩ B F X N T hk hd hu (by decide) (by decide) (fun c hc hb s1 Q1 E1 A1 q1 => ?_) ?_
  · have A2 := A1
    obtain ⟨m1, hm1, F1, N1⟩ := A2
    obtain ⟨v0, e0, p0⟩ := hm1 (Str.ofString "k") _ rfl
    obtain ⟨tk0, rfl⟩ := p0.int
    obtain ⟨v1, e1, p1⟩ := hm1 (Str.ofString "script") _ rfl
    obtain rfl := p1.ref
    have lf : s1.heap.IsList Lx vs.toArray := by
      obtain ⟨o, ho, r⟩ := hl
      exact ⟨o, F1.keep _ _ (hc.B.stays _ _ (by rw [hb]; exact ho)), r⟩
    refine wpAny_execs_cons (wpAny_Assign_Name (wpAny_mono (Q := fun v s2 => ∃ x t tk, v = .int x t ∧ s2 = { s1 with toks := tk }) ?_ (fun v s2 hv => ?_) fun _ _ e => e) (by k_extra "w"))
    · refine IfExp_ (wpAny_isTrue_Compare1 (nameX_L F1 e0 ?_ hc.hk (by k_extra "w") (by k_extra "w")) (by k_extra "w"))
      refine Call_ (nameX_B F1 hc.X (topRead_of hc.T) (by k_is) (by rfl) (by decide +kernel) ?_ hc.hk (by k_extra "w") (by k_extra "w")) (by k_extra "w")
      refine PyProof.Rows.callWith_builtin1 (args_cons (nameX_L F1 e1 (args_nil ?_) hc.hk (by k_extra "w") (by k_extra "w")) (by k_extra "w")) (by k_extra "w") (by k_extra "w")
      refine len_ints_fit lf hi (by omega) ?_
      refine lt_int (wpAny_truthy_bool ?_)
      by_cases h0 : (0 : Int) < (xs.length : Nat)
      · rw [if_pos (decide_eq_true h0)]
        refine Subscript_ (nameX_L F1 e1 (nameX_L F1 e0 ?_ hc.hk (by k_extra "w") (by k_extra "w")) hc.hk (by k_extra "w") (by k_extra "w"))
        exact item_list_ints lf hi (by decide) h0 (by omega) (fun t => ⟨_, t, _, rfl, rfl⟩) (by k_extra "w") (by intro _; with_unfolding_all eq_refl)
      · rw [if_neg (by rw [decide_eq_false h0]; decide)]
        exact wpAny_Constant_int ⟨_, _, _, rfl, rfl⟩
    · obtain ⟨x, t, tk, rfl, rfl⟩ := hv
      refine store_rule (s := { s1 with toks := tk }) hc (by k_extra "w") A1 (pv := .int x) rfl fun h' tk' A' => ?_
      refine (?_ : Ex _ 5 60 w _ news _ (fun pf _ n' => ∃ D o, retOf pf = .ref D ∧ n' = (D, o) :: news ∧ SrcOk o ∧ AllLt D news)) c hc { s1 with heap := h', toks := tk' } Q1 E1 A' q1
      clear q1 A' hc hb lf A1 F1 N1 e0 e1 hm1
      k_extra "e"
      k_extra "a"
      refine Ev.bi (id := "max") (by k_is) (by rfl) (by decide +kernel) ?_
      k_extra "c"
      k_extra "n"
      k_extra "c"
      k_extra "b"
      with_reducible refine Ev.un ?_
      k_extra "i"
      refine Op.neg ?_
      k_extra "n"
      refine Op.sub ?_
      k_extra "z"
      refine Op.max ?_
      k_extra "x"
      k_extra "e"
      k_extra "a"
      k_extra "b"
      k_extra "b"
      k_extra "b"
      k_extra "b"
      k_extra "b"
      k_extra "b"
      k_extra "n"
      k_extra "i"
      refine Op.mod (by decide) ?_
      k_extra "b"
      k_extra "b"
      k_extra "i"
      k_extra "n"
      refine Op.mul (IntMulOk.of_left (intBits_le_64 (by decide) (by decide))) ?_
      k_extra "n"
      refine Op.mul (IntMulOk.of_left (intBits_le_64 (by decide) (by decide))) ?_
      refine Op.addI ?_
      k_extra "b"
      k_extra "i"
      k_extra "n"
      refine Op.mul (IntMulOk.of_left (intBits_le_64 (by decide) (by decide))) ?_
      refine Op.addI ?_
      k_extra "i"
      refine Op.addI ?_
      k_extra "i"
      refine Op.mul (IntMulOk.of_right (intBits_le_64 (by decide) (by decide))) ?_
      k_extra "i"
      refine Op.mod (by decide) ?_
      k_extra "x"
      k_extra "e"
      k_extra "r"
      refine Ev.listX ?_
      k_extra "c"
      k_extra "b"
      k_extra "n"
      refine Ev.bt (T := "int") (by k_is) (by rfl) (by decide +kernel) ?_
      k_extra "c"
      k_extra "cm"
      k_extra "n"
      k_extra "b"
      k_extra "i"
      k_extra "i"
      refine Op.powI (by decide) (by decide) (by decide) ?_
      refine Op.geI ?_
      k_extra "z"
      refine Op.intB ?_
      refine Op.mul b01 ?_
      k_extra "c"
      k_extra "n"
      k_extra "z"
      refine ⟨by with_unfolding_all exact Nat.le_of_ble_eq_true rfl, fun D vs l iv => ?_⟩
      k_extra "xr"
      apply v2_ii (P := fun vs => ∃ D1 o, PV.ref D = PV.ref D1 ∧ (D, listOf vs.toArray 0) :: news = (D1, o) :: news ∧ SrcOk o ∧ AllLt D1 news) iv
      exact fun t u => ⟨D, _, rfl, rfl, pool_ok great_ok, l⟩
  · rintro v pv nw h' tk' hp ⟨D, o, rfl, rfl, ho, hlt⟩ F' N'
    obtain rfl := hp.ref
    exact hret D o h' tk' ho (fun p hp => allLt_all.mp hlt p hp) F' N'
end
end

section
open PySem PySem.W PyProof.Rows PyProof.V PySem.Spec
theorem filledr_spec {w : World} {src : Addr} {o : Obj} (hs : SrcOk o) (h5 : @Ne Nat src 577) :
    Cl w 150 1200 523 [.ref src] [(src, o), (577, tabObj #[])] (fun v nw => ∃ o', v = .bool true ∧ nw = [(src, o'), (577, tabObj #[])] ∧ SrcOk o') := by
  k_with_none
  (k_with "y" => intro _; with_unfolding_all eq_refl)
  (k_with "w" => with_unfolding_all eq_refl)
  (k_with "yy" => intro _ _; with_unfolding_all eq_refl)
  (k_with "aD" => with_unfolding_all decide)
  (k_with "aI" => first | (intro _ _ _; with_unfolding_all eq_refl) | (intro _ _ _ _ _; with_unfolding_all eq_refl))
  (k_with "aN" => with_unfolding_all exact Nat.le_of_ble_eq_true rfl)
  (k_with "aR" => rfl)
  (k_with "aX" => intro _ x hx; simp only [List.mem_cons, List.not_mem_nil, or_false] at hx; first | (rcases hx with rfl | rfl <;> with_unfolding_all eq_refl) | (rcases hx with rfl | rfl | rfl <;> with_unfolding_all eq_refl) | (rcases hx with rfl | rfl | rfl | rfl <;> with_unfolding_all eq_refl))
  (k_with "rm9" => ((try simp only [depth_under_make, depth_under_kw, depth_in1, depth_deeper, depth_caller, units_in1, units_deeper, Around.mark_units, units_caller]); (try dsimp only [ktrTop, Around.deeper, Around.in1, Around.mark]); omega))
  (k_with "al9" => first | assumption | exact allLt_of (by assumption) | kcu_lt | (simp only [AllLt] at *; omega))
  (k_with "kd9" => first | (dsimp only [ktrTop, Around.deeper, Around.in1]; omega) | ktr_room)
  (k_with "kK9" => first | exact rfl | assumption)
  (k_with "k_all" => with_reducible assumption)
  (k_with "k_mem" => with_reducible first | assumption | exact List.mem_cons_self | (refine List.mem_cons_of_mem _ ?_; k_mem) | (refine memOf ?_; k_mem))
  (k_with "CompRest" => refine stop8 ?_)
  (k_with "CompRestT" => refine stop8 ?_)
  (k_with "ItemsRest" => refine stop8 ?_)
  (k_with "CompSrc" => refine stop8 ?_)
  (k_with "CompSrcT" => refine stop8 ?_)
  (k_with "exec Assign cons ListComp" => refine stop8 ?_)
  (k_with "subscriptTail Name Constant ref int" => (k_here; k_dflt (first | (refine' sub_lst ?m9 ?n9 ?a9 ?b9 ?c9 ?_; (case n9 => k_asm); (case m9 => k_mem); (case a9 => walk_at "ix9"); (case b9 => first | decide | omega); (case c9 => first | exact rfl | with_reducible assumption)) | (refine' sub_tup ?m9 ?n9 ?a9 ?b9 ?c9 ?_; (case n9 => k_asm); (case m9 => k_mem); (case a9 => walk_at "ix9"); (case b9 => first | decide | omega); (case c9 => first | exact rfl | with_reducible assumption))); (try dsimp only)))
  (k_with "ix9" => first | exact (rfl : (0 : Int) = ((0 : Nat) : Int)) | exact (rfl : (1 : Int) = ((1 : Nat) : Int)) | exact (rfl : (2 : Int) = ((2 : Nat) : Int)) | exact (rfl : (3 : Int) = ((3 : Nat) : Int)) | exact (rfl : (4 : Int) = ((4 : Nat) : Int)) | exact (rfl : (5 : Int) = ((5 : Nat) : Int)) | exact rfl)
  (k_with "subscriptTail" => (k_here; k_dflt (first | (refine' sub_lst ?m9 ?n9 ?a9 ?b9 ?c9 ?_; (case n9 => k_asm); (case m9 => k_mem); (case a9 => walk_at "ix9"); (case b9 => first | decide | omega); (case c9 => first | exact rfl | with_reducible assumption)) | (refine' sub_tup ?m9 ?n9 ?a9 ?b9 ?c9 ?_; (case n9 => k_asm); (case m9 => k_mem); (case a9 => walk_at "ix9"); (case b9 => first | decide | omega); (case c9 => first | exact rfl | with_reducible assumption))); (try dsimp only)))
  (k_with "subscriptTail" => (k_here; k_dflt (refine' sub_seqT ?m9 ?n9 ?a9 ?b9 ?c9 ?_; (case n9 => k_asm); (case m9 => k_mem); (case a9 => walk_at "ix9"); (case b9 => decide); (case c9 => exact head_at)); (try dsimp only)))
  (k_with "binaryOp Add ref ref" => (k_here; k_dflt (refine' add_led ?f9 ?n9 ?a9 ?b9 ?z9 ?_; (case f9 => k_asm); (case n9 => k_asm); (case a9 => k_mem); (case b9 => k_mem); (case z9 => walk_at "az9")); intro l9 h9 q9 F9 N9; (try dsimp only)))
  (k_with "az9" => simp only [List.length_map, List.length_cons, List.length_nil]; omega)
  (k_with "fk9" => with_reducible assumption)
  (k_with "call ref" => (k_here; (with_reducible show wpAny _ _ (call (Value.ref 497) _) _ _ _); k_dflt (refine' cl_use3 (by k_asm) (by k_asm) (by k_asm) (by k_asm) (by k_asm) (by walk_at "kK9") (taking2 (by k_updF) (by with_reducible assumption) (by omega) (by omega)) (by walk_at "kd9") (by walk_at "kd9") ?_); (intro x90 x91 x92 R9 h9 tk9 F9 N9); (try dsimp only at R9 N9); (repeat (with_reducible (have q9 := And.left R9; replace R9 := And.right R9); (try simp only [AllLt, and_true] at q9))); ((try dsimp only); (try k_fold); (try k_sweep))))
  (k_with "call ref" => (k_here; (with_reducible show wpAny _ _ (call (Value.ref 444) _) _ _ _); k_dflt (refine' cl_use8 (by k_asm) (by k_asm) (by k_asm) (by k_asm) (by k_asm) (by walk_at "kK9") (element_new) (by walk_at "kd9") (by walk_at "kd9") ?_); (intro x90 x91 x92 x93 x94 x95 x96 x97 R9 h9 tk9 F9 N9); (try dsimp only at R9 N9); (repeat (with_reducible (have q9 := And.left R9; replace R9 := And.right R9); (try simp only [AllLt, and_true] at q9))); ((try dsimp only); (try k_fold); (try k_sweep))))
  (k_with "call ref" => (k_here; (with_reducible show wpAny _ _ (call (Value.ref 398) _) _ _ _); k_dflt (refine' cl_use0 (by k_asm) (by k_asm) (by k_asm) (by k_asm) (by k_asm) (by walk_at "kK9") (filled_at (by k_mem) (by with_reducible assumption) (by omega) (by with_reducible assumption) (by walk_at "fk9")) (by walk_at "kd9") (by walk_at "kd9") ?_); (intro  R9 h9 tk9 F9 N9); (try dsimp only at R9 N9); (repeat (with_reducible (have q9 := And.left R9; replace R9 := And.right R9); (try simp only [AllLt, and_true] at q9))); ((try dsimp only); (try k_fold); (try k_sweep))))
  (k_with "call builtin:list.append" => (k_here; k_dflt (refine' append_drop ?f9 ?n9 ?m9 ?s9 ?_; (case f9 => k_asm); (case n9 => k_asm); (case m9 => k_mem); (case s9 => decide)); intro h9 F9 N9; (try dsimp only)))
  (k_with "exec For Name Name cons nil" => (k_here; (rename Fr _ _ _ _ => lF9); (with_unfolding_all refine' For_turns lF9 ?_; k_whole)))
  (k_with "pyIter ref" => (k_here; (with_reducible show wpAny _ _ (pyIter (Value.ref _)) (fun it s₂ => TurnsAt _ _ _ _ _ _ _ _ _ it s₂) _ _); (rename Fr _ _ _ _ => lF9); (rename News _ _ _ _ => lN9); (with_unfolding_all refine iter_listTurns (by rfl) lF9 lN9 (by k_mem) (by rfl) (by rfl) ?_); clear lF9; intro i9 l9; (replace l9 := allLt_of l9)))
  (k_with "call builtin:len" => (k_here; k_dflt (refine' len_at ?k0 ?k1 ?_; (case k0 => exact News.isList (by k_asm) (by k_mem)); (case k1 => (rw [List.length_map]; omega))); (try dsimp only)))
  (k_with "compareOp IsNot ref ref" => k_dflt (refine isnot_ref_same ?_))
  (k_with "compareOp Is ref ref" => k_dflt (refine wpAny_is_ref_self ?_))
  unfold Cl
  k_fill
  intro loose mean mg mb dp un gd cn cs a ccd cl outer A₀ base h₀ L m s Q E B F X N T hk hd hu hret
  refine wpAny_call ?_
  k_dflt (refine' code_defC ?k1 ?k2 ?k3 ?k4 ?k5 ?kA ?kF ?kK ?k6 ?k7 ?k8 ?k9 ?kB ?kD ?_ ?c2 ?c3 ?c4; (case kA => exact rfl); (case kF => exact rfl); (case kK => assumption); (case k1 => k_asm); (case k2 => k_asm); (case k3 => k_asm); (case k4 => k_asm); (case k5 => k_asm); (case k6 => k_is); (case k7 => k_is); (case k8 => ktr_room); (case k9 => exact BindsTo.of_eq rfl); (case kB => exact rfl); (case kD => decide +kernel); (case c2 => exact rfl); (case c3 => exact rfl); (case c4 => exact rfl); k_whole)
  intro g' L' h' tk' cells' FG' F' N' Y' B' X' T' l1
  (try k_lt l1)
  k_cells Y'
  (try simp only [List.cons_append, List.nil_append] at N')
  (try dsimp only)
  (try k_lift B')
  (try k_fold)
  rename Obj.data _ = Data.cell _ => dc
  replace dc : _ = Data.cell (some (Value.ref src)) := dc
  k_steps
  refine stop8_ ?_
  k_dflt (refine LCg.Assign_ListComp_U (F₀ := by k_asm) (by rfl) (by with_unfolding_all eq_refl) (by with_unfolding_all eq_refl) (by decide) (by rfl) (by decide) (by rfl) (by rfl) (by rfl) ?_)
  k_steps
  refine stop8_ ?_
  obtain ⟨k5, rfl⟩ := Int.eq_ofNat_of_zero_le (a := x90) (by with_reducible assumption)
  k_dflt (refine LCg.CompSrc.range (n := 1 + k5) (by rfl) (by k_asm) (by k_asm) (by assumption) (small_one (by omega) (by omega) (by omega) (by omega)) (by rw [rangeSize_nat]; omega) (by rw [sizeLine_eq]; omega) ?_)
  intro g9
  refine some_comp ?_ ?_
  · intro i es n hlen hL hB hd v I oI C oC D m₂ h5 tk5 E' hv hC hx F5 N5 off ne
    k_steps
    rename Fr _ _ _ _ => F9
    rename News _ _ _ _ => N9
    exact some_end F9 N9 (by with_reducible assumption) (by with_reducible assumption) (by with_reducible assumption) (by with_reducible assumption) off hlen hL hB hd
  · intro es n hlen hL hB hd
    k_steps
    refine stop8_ ?_
    rename SrcOk _ => hs2
    rename News _ _ _ _ => N2
    rename LCg.Off1 _ n => off1
    refine Exists.elim (nums_start N2 off1 hL hs2 hB h5 (by k_ne)) (fun r k9 => ?_)
    have N3 := k9.1
    have hrs := k9.2.1
    have mS := k9.2.2.1
    have mcell := k9.2.2.2.1
    have mtab := k9.2.2.2.2.1
    have hB2 := k9.2.2.2.2.2
    clear k9 N2 off1 hL hB
    k_dflt (refine LCt.Assign_ListComp_T (F₀ := by k_asm) (by rfl) (by with_unfolding_all eq_refl) (by with_unfolding_all eq_refl) (by decide) (by rfl) (by decide) (by rfl) (by rfl) (by rfl) ?_)
    k_steps
    refine stop8_ ?_
    have hlen2 : (refsOf es).length = 1 + k5 := by rw [List.length_map]; exact hlen
    rename News _ _ _ ((_, _) :: _) => N4
    k_dflt (refine LCt.CompSrcT.range (n := es.length) (by rfl) (by k_asm) (by k_asm) (by assumption) (small_one (by omega) (by omega) (by omega) (by omega)) (by rw [rangeSize_nat]; omega) (by rw [sizeLine_eq]; omega) ?_)
    intro g9
    refine num_comp hs2 ?_ ?_
    · intro i zs o' hz hs3 v I oI C oC D m₂ h5 tk5 E' hv hC hx F5 N5 off ne
      (obtain ⟨t, rfl⟩ := hv)
      (obtain ⟨⟨o1, o2, o3⟩, off'⟩ := off)
      k_steps
      · rename Fr _ _ _ _ => F9
        rename News _ _ _ _ => N9
        rename SrcOk _ => hs9
        exact LCg.CompEnd.intro F9 N9 _ (fun p hp => hp) ⟨⟨o1, o2, o3⟩, off'⟩ trivial (nums_step hz hs9).1
      · rename Fr _ _ _ _ => F9
        rename News _ _ _ _ => N9
        rename SrcOk _ => hs9
        exact LCg.CompEnd.intro F9 N9 _ (fun p hp => hp) ⟨⟨o1, o2, o3⟩, off'⟩ trivial (nums_step (t := 0) hz hs9).2
    · intro zs o' hz hs3
      k_steps
      refine stop8_ ?_
      refine fp_loop (KEEP := [(_, LCg.lst (intsOf zs)), (src, o'), (_, LCg.lst (refsOf es)), (577, tabObj #[])]) hz (allLt_ne l9) (List.forall_mem_cons.mpr ⟨.head _, List.forall_mem_cons.mpr ⟨.tail _ (.head _), List.forall_mem_cons.mpr ⟨.tail _ (.tail _ mS), List.forall_mem_cons.mpr ⟨.tail _ (.tail _ mtab), List.forall_mem_nil _⟩⟩⟩⟩) (bare_mono hB2 fun p hp => .tail _ (.tail _ hp)) ?_ ?_
      · intro pre k t e n pv h5 tk5 o5 dE nm tn t1 t2 t3 t4 te hz0 he hmk hI5 hK5 hM5 k1 k2 k3 F5 N5
        have mS5 := hK5 _ (.tail _ (.tail _ (.head _)))
        have hx5 : (refsOf es)[k]? = some (.ref e.1) := by rw [List.getElem?_map, he]; rfl
        have hk5 : k < es.length := (List.getElem?_eq_some_iff.mp he).1
        k_steps
        rename Fr _ _ _ _ => F9
        rename News _ _ _ _ => N9
        exact fp_end F9 N9 N5 (fun p hp => .tail _ (.tail _ (.tail _ (.tail _ hp)))) k3 hI5 hK5 hM5 hd he hmk (List.forall_mem_cons.mpr ⟨nums_ne hz0, List.forall_mem_cons.mpr ⟨src_ne hs3, List.forall_mem_cons.mpr ⟨refs_ne he, List.forall_mem_cons.mpr ⟨tab_ne, List.forall_mem_nil _⟩⟩⟩⟩) (List.forall_mem_cons.mpr ⟨.head _, List.forall_mem_nil _⟩)
      · intro n pv h5 tk5 hK5 hM5 F5 N5
        have hlz : zs.length ≤ es.length := nums_len hz
        have hkl := head_lt (i := es.length) (by omega) hz
        have hkf := head_first hz
        obtain ⟨e', he'⟩ : ∃ e', es[headN zs]? = some e' := ⟨_, List.getElem?_eq_getElem hkl⟩
        have hx5 : (refsOf es)[headN zs]? = some (.ref e'.1) := by rw [List.getElem?_map, he']; rfl
        have mN5 := hK5 _ (.head _)
        have msrc5 := hK5 _ (.tail _ (.head _))
        have mS5 := hK5 _ (.tail _ (.tail _ (.head _)))
        have mtab5 := hK5 _ (.tail _ (.tail _ (.tail _ (.head _))))
        clear hK5
        k_steps
        refine stop8_ ?_
        k_dflt (refine LCg.Assign_ListComp_U (F₀ := by k_asm) (by rfl) (by with_unfolding_all eq_refl) (by with_unfolding_all eq_refl) (by decide) (by rfl) (by decide) (by rfl) (by rfl) (by rfl) ?_)
        k_steps
        refine stop8_ ?_
        rename News _ _ _ _ => N6
        k_dflt (refine LCg.CompSrc.range (n := 3) (by rfl) (by k_asm) (by k_asm) (by assumption) (by decide) (by rfl) (by rw [sizeLine_eq]; omega) ?_)
        intro g9
        refine some_comp ?_ ?_
        · intro i es' n hlen hL hB hd v I oI C oC D m₂ h5 tk5 E' hv hC hx F5 N5 off ne
          k_steps
          rename Fr _ _ _ _ => F9
          rename News _ _ _ _ => N9
          exact some_end F9 N9 (by with_reducible assumption) (by with_reducible assumption) (by with_reducible assumption) (by with_reducible assumption) off hlen hL hB hd
        · intro es' n hlen hL hB hd
          obtain ⟨a1, a2, a3, rfl⟩ := three_of hlen
          rename News _ _ _ _ => N7
          have msrc6 := hL (src, o') (by k_mem)
          have mtab6 := hL (577, tabObj #[]) (by k_mem)
          clear hL
          (k_with "call builtin:list.append" => refine stop8 ?_)
          refine mark_elim 1 (bare_mark hB) rfl rfl (fun dE nm tn t1 t2 t3 t4 te k1 k2 k3 => ?_)
          k_steps
          refine stop8_ ?_
          rename News _ _ _ _ => N8
          k_dflt (refine append_drop (by k_asm) N8 (.tail _ k3) (by decide) ?_)
          intro h9 F9 N9
          refine Exists.elim (told_app (k := 1) N8 (bare_mark (bare_mono hB fun p hp => .tail _ hp)) hd rfl (.tail _ k3) rfl N9) (fun n3 k9 => ?_)
          have N10 := k9.1
          have hM1 := k9.2.1
          have mS1 := k9.2.2 _ (.head _) (refs_ne (k := 0) rfl)
          have msrc1 := k9.2.2 _ (.tail _ msrc6) (src_ne hs3)
          have mtab1 := k9.2.2 _ (.tail _ mtab6) tab_ne
          clear k1 k2 k3 k9 N8 N9
          refine mark_elim 2 hM1 rfl rfl (fun dE nm tn t1 t2 t3 t4 te k1 k2 k3 => ?_)
          k_steps
          refine stop8_ ?_
          rename News _ _ _ _ => N8
          k_dflt (refine append_drop (by k_asm) N8 k3 (by decide) ?_)
          intro h9 F9 N9
          refine Exists.elim (told_app (k := 2) N8 hM1 hd rfl k3 rfl N9) (fun n4 k9 => ?_)
          have N11 := k9.1
          have hM2 := k9.2.1
          have mS2 := k9.2.2 _ mS1 (refs_ne (k := 0) rfl)
          have msrc2 := k9.2.2 _ msrc1 (src_ne hs3)
          have mtab2 := k9.2.2 _ mtab1 tab_ne
          clear k1 k2 k3 k9 N8 N9 hM1 mS1
          have hM3 : MarkAt w n4 [a1, a2, a3] m12 := hM2
          clear hM2
          have hkf2 := m12_first (n := [a1, a2, a3].length)
          have he2 : [a1, a2, a3][1]? = some a2 := rfl
          k_steps
          rename Fr _ _ _ _ => F99
          rename News _ _ _ _ => N99
          exact hret _ _ _ _ ⟨_, rfl, rfl, hs3⟩ F99 (cb_drop N99 (List.forall_mem_cons.mpr ⟨msrc2, List.forall_mem_cons.mpr ⟨mtab2, List.forall_mem_nil _⟩⟩))
end
section
open PySem PySem.W PyProof.Rows PyProof.V PySem.Spec PySem.Calls
noncomputable def putAt (h : Heap) (a : Addr) (o : Obj) : Heap := { h with objs := h.objs.setIfInBounds a o }
theorem putAt_size {h : Heap} {a : Addr} {o : Obj} : (putAt h a o).objs.size = h.objs.size := Array.size_setIfInBounds
theorem putAt_same {h : Heap} {a : Addr} {o : Obj} (ha : a < h.objs.size) (ho : o.isFreed = false) : (putAt h a o).get? a = some o := by
  have e : (putAt h a o).objs[a]? = some o := by
    show (h.objs.setIfInBounds a o)[a]? = some o
    rw [Array.getElem?_setIfInBounds_self_of_lt ha]
  unfold Heap.get?
  rw [e]
  obtain ⟨c, d, dt, sl⟩ := o
  cases dt <;> first | rfl | (exfalso; revert ho; simp [Obj.isFreed])
theorem putAt_other {h : Heap} {a b : Addr} {o : Obj} (hb : b ≠ a) : (putAt h a o).get? b = h.get? b := by
  have e : (putAt h a o).objs[b]? = h.objs[b]? := by
    show (h.objs.setIfInBounds a o)[b]? = _
    rw [Array.getElem?_setIfInBounds_ne (Ne.symm hb)]
  unfold Heap.get?
  rw [e]
theorem cb_frame_at {w : World} {d u : Nat} {f : Addr} {vs : List Value} {n : Led} {e : Addr × Obj} {R : Value → Led → Prop}
    {loose : List Str} {mean : ExcName → Option Value} {mg mb : Str → Option Value} {dp un : Nat} {gd : Option (List Code)} {cn : Str} {cs : Scope} {a : Addr} {ccd : Value} {cl : List (Str × Addr)} {A₀ : Around} {h₀ : Heap} {L : Addr} {m : Str → Option Value} {s : Shared} {Q E : Value → Shared → Prop}
    (B : Below A₀ h₀ [] h₀) (F : Fr h₀ L s.heap m) (X : (Mine.hd.heap_1 w.params).In h₀) (N : News h₀ L s.heap (n ++ [e])) (T : Top topProg loose mean mg mb h₀) (hk : cs.kind = .function) (C : Cl w d u f vs n R) (hd : dp + d < recursionLimit) (hu : un + u < cLine)
    (he : @LT.lt Nat _ e.1 h₀.objs.size) (hf : e.2.isFreed = false) (hn : ∀ p ∈ n, p.1 ≠ e.1) (ret : ∀ v nw h' tk', R v nw → Fr h₀ L h' m → News h₀ L h' (nw ++ [e]) → Q v { s with heap := h', toks := tk' }) :
    wpAny (model PG w) (ktrTop dp un gd cn cs L a ccd cl []) (call (.ref f) vs) Q E s := by
  have Ne := N e (List.mem_append_right _ (.head _))
  have up : ∀ b o, h₀.get? b = some o → (putAt h₀ e.1 e.2).get? b = some o := fun b o hb => (putAt_other (fun q => by rw [q, Ne.2.2] at hb; cases hb)).trans hb
  have hsame := putAt_same (o := e.2) he hf
  refine C _ _ _ _ _ _ _ _ _ _ _ _ [] A₀ (putAt h₀ e.1 e.2) (putAt h₀ e.1 e.2) L m s Q E ⟨B.stack, fun _ _ h => h, trivial⟩ ⟨F.ns, fun b o hb => ?_, by rw [putAt_size]; exact F.above⟩ (X.keeps up) (fun p hp => ?_) (T.keeps up) hk hd hu fun v nw h' tk' r F' N' => ret v nw h' tk' r ⟨F'.ns, fun b o hb => F'.keep b o (up b o hb), F.above⟩ fun p hp => ?_
  · by_cases q : b = e.1
    · subst q; rw [hsame] at hb; cases hb; exact Ne.1
    · rw [putAt_other q] at hb; exact F.keep b o hb
  · have N1 := N p (List.mem_append_left _ hp)
    exact ⟨N1.1, N1.2.1, (putAt_other (hn p hp)).trans N1.2.2⟩
  · rcases List.mem_append.mp hp with hp | hp
    · obtain ⟨n1, n2, n3⟩ := N' p hp
      refine ⟨n1, n2, ?_⟩
      have q : p.1 ≠ e.1 := fun q => by rw [q, hsame] at n3; cases n3
      rw [putAt_other q] at n3
      exact n3
    · rw [List.mem_singleton.mp hp]
      exact ⟨F'.keep _ _ hsame, Ne.2.1, Ne.2.2⟩
end
section
open PySem PySem.W PyProof.Rows PyProof.V
theorem ne_two {a : Addr} {o : Obj} (h : @Ne Nat a 513) : ∀ p ∈ [(a, o), ((577 : Addr), tabObj #[])], p.1 ≠ 513 := fun p hp => by
  simp only [List.mem_cons, List.not_mem_nil, or_false] at hp
  rcases hp with rfl | rfl
  · exact h
  · exact show @Ne Nat 577 513 by decide
theorem ghost_szl {h : Heap} {a : Addr} {tabs : List (Addr × Addr)} (x : @LT.lt Nat _ a h.objs.size) : @LT.lt Nat _ a (ghostOf h tabs).objs.size := by
  unfold ghostOf
  rw [hideAll_size]; exact x
theorem lawT : PySem.Challenge.rw_xm0694_01.Holds := by
  refine Mine.hd ?_
  k_with_none
  (k_with "y" => intro _; with_unfolding_all eq_refl)
  (k_with "w" => with_unfolding_all eq_refl)
  (k_with "yy" => intro _ _; with_unfolding_all eq_refl)
  (k_with "aD" => with_unfolding_all decide)
  (k_with "aI" => first | (intro _ _ _; with_unfolding_all eq_refl) | (intro _ _ _ _ _; with_unfolding_all eq_refl))
  (k_with "aN" => with_unfolding_all exact Nat.le_of_ble_eq_true rfl)
  (k_with "aR" => rfl)
  (k_with "aX" => intro _ x hx; simp only [List.mem_cons, List.not_mem_nil, or_false] at hx; first | (rcases hx with rfl | rfl <;> with_unfolding_all eq_refl) | (rcases hx with rfl | rfl | rfl <;> with_unfolding_all eq_refl) | (rcases hx with rfl | rfl | rfl | rfl <;> with_unfolding_all eq_refl))
  (k_with "call ref" => (k_here; (with_reducible first | show wpAny _ _ (call (Value.ref 490) _) _ _ _ | show wpAny _ _ (call (Value.ref 518) _) _ _ _ | show wpAny _ _ (call (Value.ref 523) _) _ _ _ | show wpAny _ _ (call (Value.ref 535) _) _ _ _ | show wpAny _ _ (call (Value.ref 580) _) _ _ _); refine stop9 ?_))
  w_strict (k_go0; (all_goals try k_fold); (all_goals refine wp_abs fun Q8 E8 upQ upE => ?_); k_steps)
  refine stop9_ ?_
  have gz : @LT.lt Nat _ 513 (ghostOf _ [(579, 577), (517, 513)]).objs.size := ghost_szl (And.right (show 577 < (Heap.objs _).size ∧ 513 < (Heap.objs _).size by assumption))
  refine pool_at (by k_asm) (by k_asm) (by k_asm) (by k_asm) (by k_asm) rfl (by decide) (by decide) (by assumption) (by assumption) (by assumption) fun D o h' tk' hs0 l0 F0 N0 => ?_
  have z1 : @LT.lt Nat _ 577 D := l0 _ (.head _)
  have z2 : @LT.lt Nat _ 513 D := l0 _ (.tail _ (.head _))
  k_steps
  refine stop9_ ?_
  refine cb_at (by k_asm) (by k_asm) (by k_asm) (by k_asm) (by k_asm) rfl (cutr_k hs0 (Nat.ne_of_gt z1) (Nat.ne_of_gt z2)) (by decide) (by decide) fun v nw h' tk' R1 F1 N1 => ?_
  obtain ⟨pv, iv, o1, ps1, rfl, rfl, hs1⟩ := R1
  obtain rfl := iv.bool
  k_steps
  refine stop9_ ?_
  refine cb_frame_at (n := [(_, _), (577, tabObj #[])]) (e := (513, tabObj _)) (by k_asm) (by k_asm) (by k_asm) (by k_asm) (by k_asm) rfl (filledr_spec hs1 (Nat.ne_of_gt z1)) (by decide) (by decide) gz rfl (ne_two (Nat.ne_of_gt z2)) fun v nw h' tk' R2 F2 N2 => ?_
  obtain ⟨o2, rfl, rfl, hs2⟩ := R2
  k_steps
  refine stop9_ ?_
  refine cb_at (by k_asm) (by k_asm) (by k_asm) (by k_asm) (by k_asm) rfl (dotsr_k hs2 (Nat.ne_of_gt z1) (Nat.ne_of_gt z2)) (by decide) (by decide) fun v nw h' tk' R3 F3 N3 => ?_
  obtain ⟨pv3, iv3, o3, rfl, rfl, hs3⟩ := R3
  obtain rfl := iv3.bool
  k_steps
  refine stop9_ ?_
  refine cb_at (by k_asm) (by k_asm) (by k_asm) (by k_asm) (by k_asm) rfl (contr_k hs3 (Nat.ne_of_gt z1) (Nat.ne_of_gt z2)) (by decide) (by decide) fun v nw h' tk' R4 F4 N4 => ?_
  obtain ⟨pv, iv, o4, ps4, rfl, rfl, hs4⟩ := R4
  obtain rfl := iv.bool
  refine upQ _ _ ?_
  refine ⟨⟨.inl ⟨.bool true, .bool true, [], rfl, fun _ => by first | rfl | (with_unfolding_all eq_refl), .bool true, by first | rfl | (with_unfolding_all eq_refl), fun _ => ⟨List.nodup_nil, fun _ h => nomatch h⟩⟩, F4.keep, rfl, by assumption⟩, ?_⟩
  exact ⟨W.GrownAt.of N4 (.tail _ (.head _)), W.GrownAt.of N4 (.tail _ (.tail _ (.head _))), trivial⟩
end
end
end
end Mine
theorem PySem.Challenge.cw_xm0694_01_holds : PySem.Challenge.rw_xm0694_01.Holds := by
  exact Mine.lawT
