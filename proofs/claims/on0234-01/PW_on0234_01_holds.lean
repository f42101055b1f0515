import PyProof.Rows.All
import Wide.All
import OpenK.AllK
import Wide.FinOn
import PySem.Challenge.RW_on0234_01
set_option Elab.async false
set_option maxRecDepth 100000
local macro_rules | `(tactic| walk_at $s:str) => `(tactic| k_extra $s)
section
open PySem PySem.W PyProof.Rows
set_option Elab.async false
set_option maxRecDepth 100000
namespace Mine
abbrev lvL : List (Str × WData) := [(Str.ofString "ENDS", WData.str ⟨#[32, 9, 10, 13, 61, 47, 62, 60, 34, 39]⟩)]
def picked (p : Program) (l : List Nat) : Program := { p with main := { p.main with body := l.filterMap fun i => p.main.body[i]? } }
def view : Program := picked PySem.Challenge.rw_on0234_01.row.prog [1, 2, 4, 5, 6, 7, 8, 9, 10, 11, 12, 14, 15, 16, 17, 18, 19, 20, 21, 22, 23, 24]
set_option maxHeartbeats 0 in
theorem law_said : PySem.Challenge.rw_on0234_01.wellSaid = true := by
  delta OpenLaw.wellSaid
  repeat' (with_reducible refine look_both ?_ ?_)
  (case refine_1.refine_1.refine_1.refine_1.refine_1.refine_1.refine_1.refine_1.refine_1.refine_1.refine_1.refine_1.refine_1.refine_1.refine_1.refine_1.refine_1.refine_1 =>
    delta OpenRow.wellSaid
    repeat' (with_reducible refine look_both ?_ ?_)
    (case refine_1.refine_1 =>
      delta OpenRow.partSaid
      repeat' (with_reducible refine look_both ?_ ?_)
      (case refine_1.refine_1.refine_1.refine_1.refine_1.refine_1.refine_1.refine_1.refine_1.refine_1.refine_1.refine_1.refine_1 =>
        delta looksOpen
        repeat' (with_reducible refine look_both ?_ ?_)
        all_goals decide +kernel)
      all_goals decide +kernel)
    all_goals decide +kernel)
  all_goals decide +kernel
local macro_rules | `(tactic| o_law) => `(tactic| (refine holds_law law_said fun said => ?_))
set_option maxHeartbeats 0 in
theorem head_of (H : Hook) {d : DefRec} {kwd : List (Str × Expr)}
    (hl : LeftO PySem.Challenge.rw_on0234_01.row.prog view [Str.ofString "ENDS"] (fun s => xlAt view lvL s && recOk (RowW.records PySem.Challenge.rw_on0234_01.row.toRowW) s) (Hook.obs H) (Hook.val H) 3420)
    (h1 : defOf view PySem.Challenge.rw_on0234_01.row.name = some (d, kwd)) (h2 : PySem.Challenge.rw_on0234_01.row.prog.theDef PySem.Challenge.rw_on0234_01.row.name = some (d.params, d.body, d.scope))
    (h3 : kwWritten? d.params.kwonlyargs d.params.kw_defaults = some kwd) (h7 : PySem.Challenge.rw_on0234_01.row.wellSaid = true) (hw : PySem.Challenge.rw_on0234_01.row.toRowW.promised)
    (hc : WalkO view [Str.ofString "ENDS"] (XL view lvL) (Hook.says H) PySem.Challenge.rw_on0234_01.row.toRowW d kwd fun f vs => PySem.call f vs) : PySem.Challenge.rw_on0234_01.row.Holds :=
  holds_open hl (Hook.of H) (Hook.keeps H) (fun s e => xl_of s (Bool.and_eq_true_iff.mp e).1) XL.keeps h1 h2 h3 (fun s e => recFacts_of (Bool.and_eq_true_iff.mp e).2) (by rfl) h7 (by decide +kernel) ⟨rfl, rfl, rfl, rfl, rfl, by decide +kernel⟩ hw hc
/-- the left side by one run of the top from the booted state -/
theorem left_of {p q : Program} {loose : List Str} {Xt : Shared → Bool} {α : Type} {Yf : Shared → α} {Ya : World → α} {N : Nat}
    (open_ : ∀ w : World, (fencedOpening treeTable p w N).map (fun s => (s.heap, s.gens, s.drawn, s.toks)) = some (boot_heap w.params, Array.mk [], boot_drawn, boot_toks))
    (ns : ∀ w : World, (boot_heap w.params).isNs mainGlobals = true)
    (run : ∀ (w : World) (os : OsState), (topRun treeTable p w (boot_heap w.params).objs.size ((boot_heap w.params).nsMap mainGlobals "__annotations__") N ⟨boot_heap w.params, Array.mk [], boot_drawn, boot_toks, os⟩ (topStub p)).map (fun s =>
        (staticsOk (importedModules p.main.body) (boot_heap w.params) s.heap && namesBound p s.heap && gensDone s && laidKept (boot_heap w.params) s.heap, openSeen q loose (importedModules p.main.body) Xt true s, Yf s)) = some (true, openGood q loose, Ya w)) :
    LeftO p q loose Xt Yf Ya N := fun w => by
  obtain ⟨⟨h, gs, d, k, os⟩, e, e'⟩ := Option.map_eq_some_iff.mp (open_ w)
  obtain ⟨rfl, rfl, rfl, rfl⟩ : h = boot_heap w.params ∧ gs = Array.mk [] ∧ d = boot_drawn ∧ k = boot_toks := by simpa using e'
  obtain ⟨s, hs, hv⟩ := Option.map_eq_some_iff.mp (run w os)
  obtain ⟨l1, l2⟩ := Prod.mk.inj hv
  have t : topFrom treeTable p w N ⟨boot_heap w.params, Array.mk [], boot_drawn, boot_toks, os⟩ = some s := by
    unfold topFrom
    dsimp only
    rw [ns w, hs]
    show (match staticsOk (importedModules p.main.body) (boot_heap w.params) s.heap && namesBound p s.heap && gensDone s && laidKept (boot_heap w.params) s.heap with | true => some s | false => none) = _
    rw [l1]
  unfold openEnds
  rw [e]
  show (topFrom treeTable p w N _).map _ = _
  rw [t]
  exact congrArg some l2
set_option hygiene false in
local macro_rules | `(tactic| o_head $H) => `(tactic| (refine head_of $H ?hl (by rfl) (by rfl) (by rfl) (by assumption) ?hw ?hc; (case hl => (refine left_of (boot_open (by rfl) (by decide) (fun s => by rfl)) (fun w => by kernel_rfl) ?_; intro w os; (try rw [PySem.W.Fast.te14082659384304107361]); (try rw [PySem.W.Fast.te14364793385576792824]); (try rw [PySem.W.Fast.te4187177175401517315]); kernel_rfl))))
set_option maxHeartbeats 0 in
open_top hd for PySem.Challenge.rw_on0234_01
end Mine
end
section
open PySem PySem.W PySem.Calls PySem.Spec PyProof.Rows
set_option Elab.async false
set_option maxRecDepth 100000
namespace Mine
abbrev PR : Program := PySem.Challenge.rw_on0234_01.row.prog
abbrev Led := List (Addr × Obj)

end Mine
end
section
open PySem PySem.W PySem.Calls PySem.Spec PyProof.Rows
set_option Elab.async false
set_option maxRecDepth 100000
namespace Mine
noncomputable abbrev KF (w : World) : Frag := hd.heap_1 w.params
abbrev excBm : List Value := [.ref 31, .type "Exception", .type "BaseException", .type "object"]
theorem fault_cls {w : World} {h : Heap} (X : (hd.heap_1 w.params).In h) : ∃ nm q N bs sn sub ab col dd k0 k1 k2 k3 k5, h.get? 44 = some (excClassObj nm q 44 N bs excBm true sn sub ab col dd k0 k1 k2 k3 k5 "Exception.__new__") := by
  have e : PR = PR := rfl
  unfold PR at e
  clear e
  have g : ∃ P : Program, P = PySem.Challenge.rw_on0234_01.row.prog ∧ (hd.heap_1 w.params).In h := ⟨_, rfl, X⟩
  revert g
  k_fill
  intro _
  have e := X 44 _ (by k_is)
  exact ⟨_, _, _, _, _, _, _, _, _, _, _, _, _, _, e⟩

section
variable {prog : Program} {w : World} {A : Around} {R : Result → Shared → Prop} {h : Heap} {g : Array GenState} {d : Drawn} {t : Nat} {os : OsState}
variable {nm q : Str} {N : Addr} {bs bm : List Value} {hdct : Bool} {sn : List Str} {sub : List Value} {ab : Bool} {col : Option Bool} {dd : Option Addr} {k0 k1 k2 k3 k5 : Option Value}
abbrev excO (t : Addr) (dx : Option Addr) : Obj := { cls := .ref 44, dict := dx, data := .fields #[.ref t, .none, .none, .none, .bool false, .none] }
abbrev tupO (vs : List Value) : Obj := { cls := .type "tuple", data := .seq vs.toArray }
theorem fault_check (hcont : (Value.ref 44 :: bm).contains (.type "Exception") = true) {M : Model} {E : Value → Shared → Prop} {rest : List Value} {Q : Unit → Shared → Prop} (hC : h.get? 44 = some (excClassObj nm q 44 N bs bm hdct sn sub ab col dd k0 k1 k2 k3 k5 "Exception.__new__"))
    (hq : Q () ⟨h, g, d, t, os⟩) : wpAny M A (checkBuiltinCall "Exception.__new__" ⟨.ref 44 :: rest, []⟩) Q E ⟨h, g, d, t, os⟩ := by
  have F := PySem.F.excBase_Exception
  have hstar := F.noStar
  simp only [checkBuiltinCall, F.newKind, F.newSplit, F.newRow]
  repeat (first | refine wpAny_loadPart_at hC ?_ | (refine wpAny_isSubtype_exc hC ?_; rw [hcont]) | refine wpAny_staticBase_exc hC ?_ | refine wpAny_madeBy_exc hC ?_ | simp only [bne_self_eq_false, Bool.false_eq_true, if_false] | wp_step)
  exact hq
theorem fault_new (hcB : (Value.ref 44 :: bm).contains (.type "Exception") = true) (hcA : (Value.ref 44 :: bm).contains (.type "AttributeError") = false) (hcN : (Value.ref 44 :: bm).contains (.type "NameError") = false) {rest : List Value} (hC : h.get? 44 = some (excClassObj nm q 44 N bs bm hdct sn sub ab col dd k0 k1 k2 k3 k5 "Exception.__new__"))
    (hq : R (.ok (.ret (.ref (h.objs.size + 1)))) ⟨(h.push (tupO rest)).push (excO h.objs.size none), g, d, t, os⟩) (hrest : rest.length ≤ sizeLine) :
    codeAny (model prog w) A (.builtin "Exception.__new__" ⟨.ref 44 :: rest, []⟩) R ⟨h, g, d, t, os⟩ := by
  have F := PySem.F.excBase_Exception
  have hends := F.ends
  refine codeAny_builtinAt F.entry ?_
  unfold Builtin.«BaseException.__new__»
  refine PySem.wpAt_bind ?_
  show PySem.wpAt _ _ _ (stack >>= _) _ _ _
  refine PySem.wpAt_bind (PySem.wpAt_stack fun p below => PySem.wpAt_of_wpAny ?_)
  wp_walk
  refine PySem.wpAt_of_wpAny ?_
  rw [F.owner]
  repeat (first | with_reducible refine wpAny_madeHere_exc F.canon hC ?_ | with_reducible refine wpAny_loadPart_at hC ?_ | (with_reducible refine wpAny_isSubtype_exc hC ?_; first | rw [hcB] | rw [hcA] | rw [hcN]) | wp_step)
  show R _ _
  rw [Heap.size_push]
  exact hq

end
end Mine
end
section
open PySem PySem.W PySem.Calls PySem.Spec PyProof.Rows
set_option Elab.async false
set_option maxRecDepth 100000
namespace Mine
section
variable {prog : Program} {w : World} {A : Around} {R : Result → Shared → Prop} {h : Heap} {g : Array GenState} {d : Drawn} {t : Nat} {os : OsState}
variable {nm q : Str} {N : Addr} {bs bm : List Value} {hdct : Bool} {sn : List Str} {sub : List Value} {ab : Bool} {col : Option Bool} {dd : Option Addr} {k0 k1 k2 k3 k5 : Option Value}
set_option maxHeartbeats 1000000 in
theorem fault_core {K : Frag} {rest : List Value} (hcB : (Value.ref 44 :: bm).contains (.type "Exception") = true) (hcA : (Value.ref 44 :: bm).contains (.type "AttributeError") = false) (hcN : (Value.ref 44 :: bm).contains (.type "NameError") = false)
    (X : K.In h) (hC : h.get? 44 = some (excClassObj nm q 44 N bs bm hdct sn sub ab col dd k0 k1 k2 k3 k5 "Exception.__new__"))
    (hi : findIn K (.ref 44) "__init__" = some (some (.ref 28))) (hf : typeIn K (.ref 28) = some (.type "function")) (hrest : rest.length ≤ sizeLine)
    (hq : codeAny (model prog w) (A.under (.builtin "type.__call__" ⟨.ref 44 :: rest, []⟩)) (.call (.ref 28) ⟨.ref (h.objs.size + 1) :: rest, []⟩) (InitBack (h.objs.size + 1) R) ⟨(h.push (tupO rest)).push (excO h.objs.size none), g, d, t, os⟩) :
    codeAny (model prog w) A (.call (.ref 44) ⟨rest, []⟩) R ⟨h, g, d, t, os⟩ := by
  have FE := PySem.F.excBase_Exception
  have f1 := tc_lookup
  have f2 := tc_bind (.ref 44)
  have hT : (⟨h, g, d, t, os⟩ : Shared).TypeIs (.ref 44) "type" := ⟨_, hC, rfl⟩
  refine codeAny_of_tree ?_
  show wpAny _ _ (callAny (.ref 44) _) _ _ _
  repeat (any_goals (first | assumption | with_reducible refine wpAny_loadPart_at hC ?_ | wp_step))
  refine ⟨rfl, ?_⟩
  refine codeAny_call_builtin_at (Code.quiet_builtin _ (by decide +kernel)) entry_typeCall (wpAny_check_type_call_sub hC ?_)
  have hC₁ := Heap.get?_push_of_some (excO h.objs.size none) (Heap.get?_push_of_some (tupO rest) hC)
  have X₁ : K.In ((h.push (tupO rest)).push (excO h.objs.size none)) := X.keeps fun b o e => Heap.get?_push_of_some _ (Heap.get?_push_of_some _ e)
  have hget : ((h.push (tupO rest)).push (excO h.objs.size none)).get? (h.objs.size + 1) = some (excO h.objs.size none) := by heap_get
  have hcC : (Value.ref 44 :: bm).contains (.ref 44) = true := by simp
  unfold Builtin.«type.__call__»
  repeat (first | with_reducible refine wpAny_loadPart_at hC ?_ | with_reducible refine wpAny_madeBy_exc hC ?_ | wp_step)
  refine codeAny_call_builtin_code (Code.quiet_builtin _ FE.quiet) (fault_check hcB hC ?_)
  refine fault_new hcB hcA hcN hC ?_ hrest
  show wpAny _ _ _ _ _ _
  unfold isInstance
  repeat (first | with_reducible refine wpAny_loadPart_at hget ?_ | wp_step)
  refine wpAny_isSubtype_exc (C := 44) hC₁ ?_
  rw [hcC]
  repeat (first | with_reducible refine wpAny_loadPart_at hget ?_ | wp_step)
  show wpAny _ _ (typeLookup (.ref 44) _) _ _ _
  refine (looks_findIn X₁ hi).here ?_
  refine wpAny_holding (wpAny_bind ((bind_fn X₁ _ hf).here ?_))
  refine wpAny_bind (wpAny_call (codeAny_mono hq fun r s' z => ?_))
  rcases r with e | (v | _ | _ | _) <;> first | exact z | exact z.elim | skip
  obtain ⟨rfl, z⟩ := z
  wp_walk
  exact z
end
end Mine
end
section
open PySem PySem.W PySem.Calls PySem.Spec PyProof.Rows Builtin Builtin.ObjectAttr
set_option Elab.async false
set_option maxRecDepth 100000
namespace Mine
section
variable {prog : Program} {w : World} {A : Around} {E : Value → Shared → Prop} {s : Shared} {h₀ : Heap} {L e t : Addr} {m : Str → Option Value} {rest : Led} {K : Frag}
variable {nm q : Str} {N' : Addr} {bs bm : List Value} {sn : List Str} {sub : List Value} {ab : Bool} {col : Option Bool} {dd : Option Addr} {k0 k1 k2 k3 k5 : Option Value}
theorem fault_hasDict {M : Model} {h : Heap} (hC : h.get? 44 = some (excClassObj nm q 44 N' bs bm true sn sub ab col dd k0 k1 k2 k3 k5 "Exception.__new__")) :
    ∃ cd, Looks M h (classData 44) cd ∧ cd.hasDict = true := ⟨_, fun A Q E s k q => by unfold classData; exact wpAny_bind (wpAny_load (k _ _ hC) (wpAny_pure q)), rfl⟩
set_option maxHeartbeats 1000000 in
theorem fault_set {v : Value} {Q : Unit → Shared → Prop} (F : Fr h₀ L s.heap m) (N : News h₀ L s.heap ((e, excO t none) :: rest)) (X : K.In s.heap)
    (hC : s.heap.get? 44 = some (excClassObj nm q 44 N' bs excBm true sn sub ab col dd k0 k1 k2 k3 k5 "Exception.__new__"))
    (hs : findIn K (.ref 44) "__setattr__" = some (some (.builtin "object.__setattr__"))) (hm : findIn K (.ref 44) "message" = some none)
    (hne : ∀ p ∈ rest, p.1 ≠ e)
    (h : ∀ d h' tk', Fr h₀ L h' m → News h₀ L h' ((e, excO t (some d)) :: rest) → Q () { s with heap := h', toks := tk' }) :
    wpAny (model prog w) A (setAttr (.ref e) "message" v) Q E s := by
  have he := (N _ (.head _)).1
  have I : W.InstAt s.heap e (excO t none) 44 none := ⟨he, rfl, rfl, trivial⟩
  refine set_plain X I hs ?_
  have SF := PySem.F.store_object
  have hcO : (Value.ref 44 :: excBm).contains (.type "object") = true := by decide +kernel
  obtain ⟨hp, g, d, tk, os⟩ := s
  dsimp only at *
  have sub : Looks (model prog w) hp (isInstance (.ref e) (.type "object")) true := I.type.andThen (fun A Q E s k q => by
    obtain ⟨h2, g2, d2, t2, os2⟩ := s
    exact wpAny_isSubtype_exc (C := 44) (k _ _ hC) (by rw [hcO]; exact q))
  refine codeAny_call_builtin SF.slot.plain SF.entry (@check_slot (model prog w) _ _ _ "object.__setattr__" "object" "__setattr__" (.ref e) [.str "message" tk, v] [] _ SF.kind SF.split sub (SF.args (.ref e) (.str "message" tk) v) ?_)
  rw [osa_eq, refuse_eq]
  refine wpAny_bind (wpAny_bind (I.type.here (wpAny_bind (wpAny_mroOf_exc hC ?_))))
  rw [refuseLoop_ref, refuseLoop_ref, PySem.F.store_Exception.passes (.ref e)]
  refine wpAny_pure (wpAny_bind (I.type.here (wpAny_bind ((looks_findIn X hm).here ?_))))
  refine wpAny_bind (wpAny_pure ?_)
  show wpAny _ _ (storeInOwnDict (.ref e) (.ref 44) (.str "message" tk) "message" v _) _ _ _
  unfold storeInOwnDict
  refine wpAny_bind (wpAny_pure ?_)
  show wpAny _ _ (ownDictForStores (.ref e) >>= _) _ _ _
  refine wpAny_bind ?_
  show wpAny _ _ (instanceDict e true) _ _ _
  unfold instanceDict
  obtain ⟨cd, hcd, hdd⟩ := fault_hasDict (M := model prog w) hC
  refine wpAny_bind (wpAny_loadPart he ?_)
  dsimp only
  refine wpAny_bind (hcd.here ?_)
  rw [hdd]
  refine wpAny_bind (wpAny_alloc ?_)
  have F1 := F.push emptyDict
  have N1 := N.push F emptyDict
  have hne' : ∀ p ∈ [(hp.objs.size, emptyDict)], p.1 ≠ e := fun p hp' => by
    rw [List.mem_singleton.mp hp']; exact Nat.ne_of_gt (Heap.lt_size he)
  obtain ⟨F2, N2⟩ := news_upd (pre := [(hp.objs.size, emptyDict)]) (post := rest) (f := fun o => { o with dict := some hp.objs.size }) F1 N1 hne' hne rfl rfl
  refine wpAny_bind (wpAny_update (N1 (e, excO t none) (.tail _ (.head _))).1 ?_)
  refine wpAny_pure ?_
  show wpAny _ _ (storeInDict hp.objs.size (.str "message" tk) "message" v) _ _ _
  unfold storeInDict newKeyGuard
  have D := N2 (hp.objs.size, emptyDict) (.head _)
  have hnd : ((hp.push emptyDict).update e fun o => { o with dict := some hp.objs.size }).Ns hp.objs.size (fun _ => none) :=
    ⟨_, #[], _, D.1, rfl, fun e he => absurd he (by simp), fun _ => rfl⟩
  refine wpAny_bind (wpAny_pure (wpAny_bind (wpAny_nsSet1 (Heap.Ns1.of_empty hnd) fun h' hn' hs => ?_)))
  obtain ⟨oD, esD, epD, hoD, hdD, hcD⟩ := hn'.count (Within.cons "message" v Within.nil)
  refine wpAny_bind (wpAny_lookBehind hoD (by rw [hdD]; exact pastItsLine_dict (Nat.le_trans hcD (by rw [List.length_cons, List.length_nil, sizeLine_eq]; omega))) ?_)
  have old : ∀ p ∈ rest, p.1 ≠ hp.objs.size := fun p hp' => Nat.ne_of_lt (Heap.lt_size (N p (.tail _ hp')).1)
  refine wpAny_pure (h hp.objs.size h' _ (F2.change hs D.2.1 D.2.2) fun p hp' => ?_)
  rcases List.mem_cons.mp hp' with rfl | hp'
  · have z := N2 (e, excO t (some hp.objs.size)) (.tail _ (.head _))
    exact ⟨(hs.2 _ (Nat.ne_of_lt (Heap.lt_size he))).trans z.1, z.2⟩
  · have z := N2 p (.tail _ (.tail _ hp'))
    exact ⟨(hs.2 _ (old p hp')).trans z.1, z.2⟩
end
end Mine
end
section
open PySem PySem.W PySem.Calls PySem.Spec PyProof.Rows
set_option Elab.async false
set_option maxRecDepth 100000
namespace Mine
/-- a way that leaves by an exception of the text's own class, made and laid with its message -/
def FaultEnd (E : Value → Shared → Prop) (v : Value) (s : Shared) : Prop :=
  ∃ e t dx, v = .ref e ∧ s.heap.get? e = some (excO t dx) ∧ (∃ nm q N bs sn sub ab col dd k0 k1 k2 k3 k5, s.heap.get? 44 = some (excClassObj nm q 44 N bs excBm true sn sub ab col dd k0 k1 k2 k3 k5 "Exception.__new__")) ∧ E (.ref e) s
section
variable {prog : Program} {w : World} {A : Around} {E : Value → Shared → Prop} {s : Shared} {h₀ : Heap} {L e t : Addr} {m : Str → Option Value} {news : Led} {env : Env}
theorem fault_end {dx : Option Addr} (F : Fr h₀ L s.heap m) (X : (hd.heap_1 w.params).In h₀) (N : News h₀ L s.heap news) (hm : (e, excO t dx) ∈ news) (h : E (.ref e) s) : FaultEnd E (.ref e) s :=
  ⟨e, t, dx, rfl, (N _ hm).1, fault_cls (X.keeps F.keep), h⟩
theorem fault_raiseStmt {x : Sem Value} {Q : Flow → Shared → Prop} (hh : A.handled = none) (h : wpAny (model prog w) A x (FaultEnd E) E s) : wpAny (model prog w) A (raiseStmt env (some x) none) Q E s := by
  have hcB : (Value.ref 44 :: excBm).contains (.type "BaseException") = true := by decide +kernel
  unfold raiseStmt
  refine wpAny_bind (wpAny_mono h (fun v s₁ h₁ => ?_) fun _ _ x => x)
  obtain ⟨e, t, dx, rfl, he, ⟨nm, q, N, bs, sn, sub, ab, col, dd, k0, k1, k2, k3, k5, hC⟩, hE⟩ := h₁
  obtain ⟨hp, g, d, tk, os⟩ := s₁
  dsimp only at *
  repeat (first | with_reducible refine wpAny_loadPart_at he ?_ | with_reducible refine wpAny_loadPart_at hC ?_ | (refine wpAny_isSubtype_exc (C := 44) hC ?_; rw [hcB]) | wp_step)
  exact wpAny_raiseNew_none hh hE
theorem fault_raise {ex : PySem.Expr} {pos : Pos} {Q : Flow → Shared → Prop} (hh : A.handled = none) (h : wpAny (model prog w) A (eval ex env) (FaultEnd E) E s) : wpAny (model prog w) A (exec (.Raise (some ex) none pos) env) Q E s := by
  rw [arm_exec_Raise]
  refine wpAny_bind (wpAny_standAt (fault_raiseStmt hh ?_))
  exact wpAny_bind (wpAny_mono h (fun v s₃ h₃ => wpAny_bind (wpAny_standAt (wpAny_pure h₃))) fun _ _ x => x)

theorem fault_call {v : Value} {Q : Value → Shared → Prop} (F : Fr h₀ L s.heap m) (N : News h₀ L s.heap news) (X : (hd.heap_1 w.params).In h₀)
    (hi : findIn (hd.heap_1 w.params) (.ref 44) "__init__" = some (some (.ref 28))) (hf : typeIn (hd.heap_1 w.params) (.ref 28) = some (.type "function"))
    (h : ∀ e t h', Fr h₀ L h' m → News h₀ L h' ((e, excO t none) :: (t, tupO [v]) :: news) → (∀ p ∈ news, p.1 < t) → t < e →
      codeAny (model prog w) (A.under (.builtin "type.__call__" ⟨[.ref 44, v], []⟩)) (.call (.ref 28) ⟨[.ref e, v], []⟩) (InitBack e fun r s' => match r with | .ok (.ret v) => Q v s' | .ok _ => False | .error e => E e s') { s with heap := h' }) :
    wpAny (model prog w) A (call (.ref 44) [v]) Q E s := by
  obtain ⟨nm, q, N', bs, sn, sub, ab, col, dd, k0, k1, k2, k3, k5, hC⟩ := fault_cls (X.keeps F.keep)
  obtain ⟨hp, g, d, tk, os⟩ := s
  have N1 := N.push F (tupO [v])
  have N2 := N1.push (F.push _) (excO hp.objs.size none)
  rw [Heap.size_push] at N2
  refine wpAny_call (fault_core (by decide +kernel) (by decide +kernel) (by decide +kernel) (X.keeps F.keep) hC hi hf (by simp [sizeLine_eq]) ?_)
  exact h _ _ _ ((F.push _).push _) N2 (fun p hp => Heap.lt_size (N p hp).1) (Nat.lt_succ_self _)

theorem fault_store {v : Value} {Q : Unit → Shared → Prop} {rest : Led} (F : Fr h₀ L s.heap m) (N : News h₀ L s.heap ((e, excO t none) :: rest)) (X : (hd.heap_1 w.params).In h₀)
    (hs : findIn (hd.heap_1 w.params) (.ref 44) "__setattr__" = some (some (.builtin "object.__setattr__"))) (hm : findIn (hd.heap_1 w.params) (.ref 44) "message" = some none)
    (hne : ∀ p ∈ rest, p.1 ≠ e)
    (h : ∀ d h' tk', Fr h₀ L h' m → News h₀ L h' ((e, excO t (some d)) :: rest) → Q () { s with heap := h', toks := tk' }) :
    wpAny (model prog w) A (setAttr (.ref e) "message" v) Q E s := by
  obtain ⟨nm, q, N', bs, sn, sub, ab, col, dd, k0, k1, k2, k3, k5, hC⟩ := fault_cls (X.keeps F.keep)
  exact fault_set F N (X.keeps F.keep) hC hs hm hne h

theorem kts_mem' {b : Addr} {outer : List Env} (hf : env.frame = some L) (hm : b ∈ (env :: outer).filterMap (·.frame)) : b = L ∨ b ∈ outer.filterMap (·.frame) := by
  obtain ⟨env', he, hf'⟩ := List.mem_filterMap.mp hm
  rcases List.mem_cons.mp he with rfl | he
  · rw [hf] at hf'; exact .inl (Option.some.inj hf').symm
  · exact .inr (List.mem_filterMap.mpr ⟨env', he, hf'⟩)

theorem fault_leave {M : Model} {base g : Heap} {outer : List Env} {dx : Option Addr} {vs : List Value} {Q : Unit → Shared → Prop} {s' : Shared}
    (K : Below A base outer g) (F : Fr g L s'.heap m) (N : News g L s'.heap ((e, excO t dx) :: (t, tupO vs) :: news)) (hne : ∀ p ∈ news, p.1 ≠ e) (hnt : ∀ p ∈ news, p.1 ≠ t)
    (hf : env.frame = some L) (hk : env.scope.kind = .function)
    (hQ : ∀ h', RaisedS base g outer e (.ref 44) t vs news h' → RaisedK base outer e (.ref 44) t vs news h' → g.UpToSlots h' → Q () { s' with heap := h' }) :
    wpAny M (A.deeper env) (leaving env (.ref e)) Q E s' := by
  have K' := pushX K F hf hk
  have He := N _ (.head _)
  have Ht := N _ (.tail _ (.head _))
  have hset : e ≠ t := by
    intro q
    have h1 := He.1; have h2 := Ht.1
    rw [q] at h1
    rw [h1] at h2
    cases h2
  have hide : ∀ b o, s'.heap.get? b = some o → b ≠ e → b ≠ t → b ∉ (env :: outer).filterMap (·.frame) → (hideAll s'.heap (e :: t :: (env :: outer).filterMap (·.frame))).get? b = some o := fun b o q h1 h2 h3 =>
    hideAll_get _ q fun hm => by
      rcases List.mem_cons.mp hm with z | hm
      · exact h1 z
      · rcases List.mem_cons.mp hm with z | hm
        · exact h2 z
        · exact h3 hm
  have baseNe : ∀ b o, base.get? b = some o → b ≠ e ∧ b ≠ t := by
    intro b o q
    constructor
    · intro z
      have := K.stays b o q
      rw [z] at this
      rw [He.2.2] at this
      cases this
    · intro z
      have := K.stays b o q
      rw [z] at this
      rw [Ht.2.2] at this
      cases this
  have st : base.StaysIn (hideAll s'.heap (e :: t :: (env :: outer).filterMap (·.frame))) := fun b o q => hide b o (K'.stays b o q) (baseNe b o q).1 (baseNe b o q).2 fun hm => by
    rw [(K'.frames.mem hm).1] at q; cases q
  have sg : ∀ b o, g.get? b = some o → b ∉ outer.filterMap (·.frame) → (hideAll s'.heap (e :: t :: (env :: outer).filterMap (·.frame))).get? b = some o := fun b o q nm => hide b o (F.keep b o q)
    (fun z => by rw [z, He.2.2] at q; cases q) (fun z => by rw [z, Ht.2.2] at q; cases q) fun hm => by
      rcases kts_mem' hf hm with z | z
      · rw [z, kts_self F] at q; cases q
      · exact nm z
  have hl : ∀ q ∈ news, (hideAll s'.heap (e :: t :: (env :: outer).filterMap (·.frame))).get? q.1 = some q.2 ∧ g.get? q.1 = none ∧ base.get? q.1 = none := fun q hq => by
    have z := N q (.tail _ (.tail _ hq))
    refine ⟨hide _ _ z.1 (hne q hq) (hnt q hq) fun hm => ?_, z.2.2, fresh_of_stays K.stays z.2.2⟩
    rcases kts_mem' hf hm with y | y
    · exact z.2.1 y
    · obtain ⟨o, ho, _⟩ := (K.frames.mem y).2
      rw [z.2.2] at ho; cases ho
  have hB0 : ∀ b ∈ (e :: t :: (env :: outer).filterMap (·.frame)), (hideAll s'.heap (e :: t :: (env :: outer).filterMap (·.frame))).get? b = none := fun b hb => hideAll_none _ hb
  have hfun := funFrames_hide (as := e :: t :: (env :: outer).filterMap (·.frame)) K'.frames fun env' he a ha => .tail _ (.tail _ (List.mem_filterMap.mpr ⟨env', he, ha⟩))
  refine wpAny_leaving_firstW (base := hideAll s'.heap (e :: t :: (env :: outer).filterMap (·.frame))) (a0 := .ref t) K'.stack hfun hf He.1 (fun b o q => of_hideAll _ q) (hB0 e (.head _)) rfl rfl rfl fun h' hL => ?_
  obtain ⟨x1, ⟨_, _, x2⟩, x3, x4⟩ := hL
  have up : g.UpToSlots h' := (Heap.UpToSlots.of_keeps F.keep).trans x4
  have R : RaisedS base g outer e (.ref 44) t vs news h' := ⟨⟨_, st, sg, hl, ⟨x1, hB0 e (.head _), x2, x3⟩, hB0 t (.tail _ (.head _))⟩, Heap.TupAt.of_slots ⟨_, _, Ht.1, rfl, rfl⟩ x4⟩
  exact hQ h' R R.toK up
end
end Mine
end
section
open PySem PySem.W PySem.Calls PySem.Spec PyProof.Rows
set_option Elab.async false
set_option maxRecDepth 100000
namespace Mine

abbrev Callee (w : World) (p : Program) (loose : List Str) (mean : ExcName → Option Value) (mg mb : Str → Option Value) (news : Led) (need : Nat) (f : Value) (vs : List Value) (Post : Value → Led → Prop) (Fails : Led → Prop) : Prop :=
  ∀ (dp un : Nat) (gd : Option (List Code)) (cn : Str) (cs : Scope) (a : Addr) (ccd : Value) (cl : List (Str × Addr)) (outer : List Env) (A₀ : Around) (base h₀ : Heap) (L : Addr) (m : Str → Option Value) (s : Shared) (Q E : Value → Shared → Prop),
    Below A₀ base outer h₀ → Fr h₀ L s.heap m → (hd.heap_1 w.params).In h₀ → News h₀ L s.heap news → Top p loose mean mg mb h₀ → cs.kind = .function → dp + need < recursionLimit → un + 8 * need < cLine →
    (∀ v h' tk' news', Fr h₀ L h' m → News h₀ L h' news' → Post v news' → Q v { s with heap := h', toks := tk' }) →
    (∀ e t vs' g h' tk' news', Fails news' → Fr h₀ L g m → RaisedS base g (envX cn cs L a ccd cl :: outer) e (.ref 44) t vs' news' h' → RaisedK base (envX cn cs L a ccd cl :: outer) e (.ref 44) t vs' news' h' → g.UpToSlots h' → E (.ref e) { s with heap := h', toks := tk' }) →
    wpAny (model PR w) (ktrTop dp un gd cn cs L a ccd cl outer) (call f vs) Q E s

theorem Callee.use {w : World} {p : Program} {loose : List Str} {mean : ExcName → Option Value} {mg mb : Str → Option Value} {news : Led} {need : Nat} {f : Value} {vs : List Value} {Post : Value → Led → Prop} {Fails : Led → Prop} (C : Callee w p loose mean mg mb news need f vs Post Fails)
    {dp un : Nat} {gd : Option (List Code)} {cn : Str} {cs : Scope} {a : Addr} {ccd : Value} {cl : List (Str × Addr)} {outer : List Env} {A₀ : Around} {base h₀ : Heap} {L : Addr} {m : Str → Option Value} {s : Shared} {Q E : Value → Shared → Prop}
    (B : Below A₀ base outer h₀) (F : Fr h₀ L s.heap m) (X : (hd.heap_1 w.params).In h₀) (N : News h₀ L s.heap news) (T : Top p loose mean mg mb h₀) (hk : cs.kind = .function) (hd : dp + need < recursionLimit) (hu : un + 8 * need < cLine)
    (ret : ∀ v h' tk' news', Fr h₀ L h' m → News h₀ L h' news' → Post v news' → Q v { s with heap := h', toks := tk' })
    (raise : ∀ e t vs' g h' tk' news', Fails news' → Fr h₀ L g m → RaisedS base g (envX cn cs L a ccd cl :: outer) e (.ref 44) t vs' news' h' → RaisedK base (envX cn cs L a ccd cl :: outer) e (.ref 44) t vs' news' h' → g.UpToSlots h' → E (.ref e) { s with heap := h', toks := tk' }) :
    wpAny (model PR w) (ktrTop dp un gd cn cs L a ccd cl outer) (call f vs) Q E s := C dp un gd cn cs a ccd cl outer A₀ base h₀ L m s Q E B F X N T hk hd hu ret raise

structure Old (L : Nat) (news : Led) : Prop where
  lt : ∀ p ∈ news, @LT.lt Nat _ p.1 L
theorem Old.ne {L x : Nat} {l : Led} (h : Old L l) (hx : L ≤ x) : ∀ p ∈ l, p.1 ≠ x := fun p hp => neN (Nat.ne_of_lt (Nat.lt_of_lt_of_le (h.lt p hp) hx))
end Mine
end
section
open PySem PySem.W PySem.Calls PySem.Spec PyProof.Rows PyProof.Rows.LCt PyProof.Rows.LCg
set_option Elab.async false
set_option maxRecDepth 100000
namespace Mine
section
variable {prog : Program} {w : World} {A : Around} {E : Value → Shared → Prop} {s : Shared} {h₀ : Heap} {L : Addr} {m : Str → Option Value} {env : Env}
/-- a comprehension over a text, with one test -/
def SrcTS (prog : Program) (w : World) (A : Around) (h₀ : Heap) (L : Addr) (m : Str → Option Value) (env : Env) (ct elt : PySem.Expr) (x : Str) (scope : Scope) (cl : List (Str × Addr)) (Fin : Shared → List Value → Led → Prop) (xv : Value) (s₁ : Shared) : Prop :=
  ∃ y t news, xv = .str y t ∧ y.cps.size ≤ sizeLine ∧ A.handled = none ∧ Fr h₀ L s₁.heap m ∧ News h₀ L s₁.heap news ∧
    ∀ s₂ : Shared, (∃ h, s₂ = { s₁ with heap := h }) → CompRestT prog w A h₀ L m env ct elt x scope cl s₂ (fun _ => True) (SignAt y) (Fin s₂) y.cps.size 0 [] news
theorem strIter_st {k : String} {x : Str} {t : Tok} {I : Addr} : ∀ i (h h' : Heap) (o : Obj) (nw : Led), h.IsStrIter I k x t i → h.get? I = some o → h'.get? I = some o → (∀ b o, h₀.get? b = some o → h'.get? b = some o) → News h₀ L h' nw → True → h'.IsStrIter I k x t i :=
  fun i h h' o nw st e e' _ _ _ => by
    obtain ⟨o', q, r⟩ := st
    rw [e] at q
    cases q
    exact ⟨o, e', r⟩
theorem ListComp_TS {ct elt iter : PySem.Expr} {x : Str} {px : Pos} {scope : Scope} {cl : List (Str × Addr)} {pos : Pos} {Q : Value → Shared → Prop} (F₀ : Fr h₀ L s.heap m)
    (hclos : closureFor scope env = pure cl) (hcell : ∀ y ∈ scope.names, y.2 ≠ .cell) (hkind : scope.kind = .function)
    (hnames : ∀ y ∈ scope.names, y.2 = .local → scope.names.lookup y.1 = some .local) (hx : scope.names.lookup x = some .local)
    (h : wpAny (model prog w) A (eval iter env) (SrcTS prog w A h₀ L m env ct elt x scope cl (fun s₂ => FinE h₀ L m s₂ Q)) E s)
    (hs : ∀ x, foldedSetIterable iter env x = pure x := by intro _; rfl) :
    wpAny (model prog w) A (eval (.ListComp elt [⟨.Name x px, iter, [ct], 0⟩] scope pos) env) Q E s := by
  rw [eval_ListComp]
  refine wpAny_comprehension_free (use := none) rfl hs hclos hkind hnames (wpAny_mono h (fun xv s₁ h₁ => ?_) fun _ _ e => e)
  obtain ⟨y, t, news, rfl, hsz, hh, F, N, R⟩ := h₁
  have fin : ∀ (o : Obj) (D C : Addr) h tk m' ys news', Fr h₀ L h m → News h₀ L h ((D, lst ys) :: news') → Off1 D news' → h.Ns C m' → h₀.get? C = none → h₀.get? D = none → C ≠ L → D ≠ L → C ≠ D → (∀ p ∈ news', p.1 ≠ C) →
      FinE h₀ L m { s₁ with heap := s₁.heap.push o } Q ys news' → ∃ m, Heap.Ns h C m ∧ ∀ h', Heap.SameBut C h h' → Q (.ref D) { s₁ with heap := h', toks := tk } := by
    intro o D C h tk m' ys news' F' N' o1 hn hC₀ hD₀ hCL hDL hCD offC fin
    refine ⟨m', hn, fun h'' hs'' => fin D h'' tk (F'.change hs'' hCL hC₀) (fun p hp => ?_) o1⟩
    refine ⟨hs''.extBut _ _ ?_ (N' p hp).1, (N' p hp).2⟩
    rcases List.mem_cons.mp hp with rfl | hp
    · exact Ne.symm hCD
    · exact offC p hp
  have lt1 : ∀ (o : Obj), ∀ b ∈ [s₁.heap.objs.size], b < (s₁.heap.push o).objs.size := fun o b hb => by
    rw [List.mem_singleton.mp hb, Heap.size_push]; exact Nat.lt_succ_self _
  cases ha : y.cps.all (· < 128)
  · refine wpAny_pyIter_wide ha ?_
    exact block_T (Walks.strWide hh s₁.heap.objs.size y t) hsz (fun i h st => let ⟨o, e, _⟩ := st; ⟨o, e⟩) strIter_st hcell hkind hx ⟨_, Heap.get?_push_size _ rfl, rfl, rfl⟩ (lt1 _)
      (F.keeps fun _ _ e => Heap.get?_push_of_some _ e) (N.grown fun _ _ e => Heap.get?_push_of_some _ e) (Nat.ne_of_lt F.ns.lt) (next_is_new F) (fun p hp => Nat.ne_of_lt (Heap.lt_size (N p hp).1)) trivial (R _ ⟨_, rfl⟩) (fin _)
  · refine wpAny_pyIter_ascii ha ?_
    exact block_T (Walks.strAscii hh s₁.heap.objs.size y t) hsz (fun i h st => let ⟨o, e, _⟩ := st; ⟨o, e⟩) strIter_st hcell hkind hx ⟨_, Heap.get?_push_size _ rfl, rfl, rfl⟩ (lt1 _)
      (F.keeps fun _ _ e => Heap.get?_push_of_some _ e) (N.grown fun _ _ e => Heap.get?_push_of_some _ e) (Nat.ne_of_lt F.ns.lt) (next_is_new F) (fun p hp => Nat.ne_of_lt (Heap.lt_size (N p hp).1)) trivial (R _ ⟨_, rfl⟩) (fin _)
end
end Mine
end
section
open PySem PySem.W PySem.Calls PySem.Spec PyProof.Rows PySem.NumText
set_option Elab.async false
set_option maxRecDepth 100000
namespace Mine
theorem wp_textB {M : Model} {A : Around} {E : Value → Shared → Prop} {s : Shared} {Q : Value → Shared → Prop} {v : Value} {text : List Nat} {b : Nat} {n : Int}
    (hs : (text.takeWhile (· != 0)).length ≤ 640) (hr : (int_private% "readNumeral") 0 b (text.takeWhile (· != 0)) = (int_private% "Numeral.value") n)
    (ha : ((text.takeWhile (· != 0)).length == text.length) = true) (h : Q (.int n s.toks) { s with toks := s.toks + 1 }) :
    wpAny M A ((int_private% "intFromText") v text b) Q E s := by
  obtain ⟨hp, g, d, tk, os⟩ := s
  repeat (any_goals (first
    | assumption
    | (with_reducible refine wpAny_ite_true (decide_eq_true hs) ?_)
    | (with_reducible refine wpAny_ite_true (decide_eq_true ha) ?_)
    | wp_step))
  all_goals (try rw [hr])
  all_goals (try dsimp only)
  repeat (any_goals (first
    | assumption
    | (with_reducible refine wpAny_ite_true (decide_eq_true hs) ?_)
    | (with_reducible refine wpAny_ite_true (decide_eq_true ha) ?_)
    | wp_step))
structure HidB (p : Prop) : Prop where
  out : p
theorem typeCall_int_2 (a b : Value) : checkTypeCall "int" ⟨[a, b], []⟩ = pure () := by kernel_rfl
theorem newCall_int_2 (a b : Value) : checkBuiltinCall "int.__new__" ⟨[.type "int", a, b], []⟩ = pure () := by kernel_rfl
/-- the base of a reading -/
structure BaseOk (b : Int) : Prop where
  ok : ¬ (((b != 0 && decide (b < 2)) || decide (b > 36)) = true)
theorem gives_base {x : PySem.Str} {u bt : Tok} {b n : Int} (hb : BaseOk b) (hs : (numSeenOf x).length ≤ 640) (hr : (int_private% "readNumeral") 0 b.toNat (numSeenOf x) = (int_private% "Numeral.value") n) (ha : ((numSeenOf x).length == (numTextOf x).length) = true) :
    Gives (Builtin.«int.__new__» ⟨[.type "int", .str x u, .int b bt], []⟩) (.int n) :=
  .of_wp fun M A E s Q h => by
    obtain ⟨hp, g, d, tk, os⟩ := s
    have f1 := F.conv_sub_int
    have f2 := F.madeHere_int
    have hk := HidB.mk (And.intro hs (And.intro hr ha))
    clear hs hr ha
    repeat (any_goals (first
      | assumption
      | ((with_reducible show wpAny _ _ ((int_private% "intFromText") _ _ _) _ _ _); refine wp_textB hk.out.1 hk.out.2.1 hk.out.2.2 ?_)
      | (rw [if_neg hb.ok])
      | wp_step))
    all_goals first | exact ⟨_, rfl, h⟩ | skip
end Mine
end
section
open PySem PySem.W PySem.Calls PySem.Spec PyProof.Rows PySem.NumText
set_option Elab.async false
set_option maxRecDepth 100000
namespace Mine
/-- what int(text, base) reads -/
def intBaseF (b : Nat) (x : Str) : Option Int :=
  if (decide ((numSeenOf x).length ≤ 640) && ((numSeenOf x).length == (numTextOf x).length)) = true then
    match digits? (based b (sign ((numSeenOf x).dropWhile blank)).2).1 (((based b (sign ((numSeenOf x).dropWhile blank)).2).2.2.reverse.dropWhile blank).reverse) with
    | some ds => if (decide (ds.size ≤ 6000) && !(based b (sign ((numSeenOf x).dropWhile blank)).2).2.1) = true then
        some (if (sign ((numSeenOf x).dropWhile blank)).1 then -((ds.foldl (fun acc d => acc * (based b (sign ((numSeenOf x).dropWhile blank)).2).1 + d) 0 : Nat) : Int) else ((ds.foldl (fun acc d => acc * (based b (sign ((numSeenOf x).dropWhile blank)).2).1 + d) 0 : Nat) : Int)) else none
    | none => none
  else none
theorem intBaseF_reads {b : Nat} {x : Str} {n : Int} (h : intBaseF b x = some n) : (numSeenOf x).length ≤ 640 ∧ (int_private% "readNumeral") 0 b (numSeenOf x) = (int_private% "Numeral.value") n ∧ ((numSeenOf x).length == (numTextOf x).length) = true := by
  unfold intBaseF at h
  split at h
  · rename_i hc
    rw [Bool.and_eq_true, decide_eq_true_eq] at hc
    refine ⟨hc.1, ?_, hc.2⟩
    rw [readNumeral_eq]
    split at h
    · rename_i ds hd
      rw [hd]
      split at h
      · rename_i hz
        rw [Bool.and_eq_true, decide_eq_true_eq, Bool.not_eq_true'] at hz
        have h := Option.some.inj h
        subst h
        unfold judge
        have e1 : (![2, 4, 8, 16, 32].contains (based b (sign ((numSeenOf x).dropWhile blank)).2).1 && (0 : Nat) != 0 && decide (ds.size > 0)) = false := by simp
        have e2 : ((based b (sign ((numSeenOf x).dropWhile blank)).2).1 == 10 && decide (ds.size > 6000)) = false := by
          rw [decide_eq_false (by omega), Bool.and_false]
        dsimp only
        refine (if_neg (by rw [e1]; exact Bool.false_ne_true)).trans ((if_neg (by rw [e2]; exact Bool.false_ne_true)).trans ?_)
        rw [hz.2]
        rfl
      · cases h
    · cases h
  · cases h
section
variable {prog : Program} {w : World} {A : Around} {E : Value → Shared → Prop} {s : Shared} {Q : Value → Shared → Prop} {x : PySem.Str} {t bt : Tok} {b n : Int}
theorem call_base (hb : BaseOk b) (hn : intBaseF b.toNat x = some n) (h : Q (.int n s.toks) { s with toks := s.toks + 1 }) : wpAny (model prog w) A (call (.type "int") [.str x t, .int b bt]) Q E s :=
  have q := intBaseF_reads hn
  callType_new F.called_int F.newNe_int (typeCall_int_2 _ _) (newCall_int_2 _ _) (fun obj => F.args_object_init_3 obj _ _) F.entry_int_new (gives_base hb q.1 q.2.1 q.2.2).meets (show (Made.int n).post _ s from ⟨rfl, h⟩)
end

def named (x : Str) : Option Str :=
  if x = "lt" then some "<" else if x = "gt" then some ">" else if x = "amp" then some "&" else if x = "apos" then some "'" else if x = "quot" then some "\"" else none
theorem named_flat {v : Value} {x : Str} {k1 k2 k3 k4 k5 u1 u2 u3 u4 u5 : Tok}
    (hv : PyProof.V.Flat v ((lookup (.str x) (strData [(.str "lt" k1, .str "<" u1), (.str "gt" k2, .str ">" u2), (.str "amp" k3, .str "&" u3), (.str "apos" k4, .str "'" u4), (.str "quot" k5, .str "\"" u5)])).getD .none)) :
    (v = .none ∧ named x = none) ∨ (∃ c t, v = .str c t ∧ named x = some c) := by
  have fl : ∀ {c : Str}, PyProof.V.Flat v (.str c) → ∃ t, v = .str c t := fun h => by
    have h := h default
    cases h
    exact ⟨_, rfl⟩
  have fn : PyProof.V.Flat v .none → v = .none := fun h => by
    have h := h default
    cases h
    rfl
  simp only [strData, Spec.lookup, Spec.same] at hv
  have go : ∀ (a c : Str) (u : Tok) (R : Option PyData) (N : Option Str),
      (PyProof.V.Flat v (R.getD .none) → (v = .none ∧ N = none) ∨ (∃ c t, v = .str c t ∧ N = some c)) →
      PyProof.V.Flat v ((if (a == x) = true then some ((datumOf (.str c u)).getD .none) else R).getD .none) →
      (v = .none ∧ (if x = a then some c else N) = none) ∨ (∃ c' t, v = .str c' t ∧ (if x = a then some c else N) = some c') := by
    intro a c u R N ih h
    by_cases e : x = a
    · subst e
      rw [if_pos (beq_self_eq_true x)] at h
      obtain ⟨t, rfl⟩ := fl (c := c) h
      exact .inr ⟨c, t, rfl, if_pos rfl⟩
    · rw [if_neg (by rw [beq_iff_eq]; exact fun q => e q.symm)] at h
      rw [if_neg e]
      exact ih h
  unfold named
  exact go _ _ _ _ _ (go _ _ _ _ _ (go _ _ _ _ _ (go _ _ _ _ _ (go _ _ _ none none fun h => .inl ⟨fn h, rfl⟩)))) hv
/-- is the sign one of the text's -/
@[irreducible] def inC (x : Str) (c : Nat) : Bool := decide (c ∈ x.cps.toList)
theorem inC_eq (x : Str) (c : Nat) : inC x c = decide (c ∈ x.cps.toList) := by unfold inC; rfl
@[reducible] def allowedF : Bool → Str
  | true => "0123456789abcdefABCDEF"
  | false => "0123456789"
@[reducible] def badF (allowed digits : Str) : List Str := (digits.cps.toList.filter fun c => !(inC allowed c)).map fun c => ⟨#[c]⟩
def signF (word : Str) : Option (Option Str) :=
  match named word with
  | some c => some (some c)
  | none =>
    let hex : Bool := decide (Txt.slice word none (some 2) = "#x")
    let digits := Txt.slice word (some (if hex then 2 else 1)) none
    if Txt.slice word none (some 1) ≠ "#" then some none
    else if digits = "" then some none
    else if digits.length > 8 then some none
    else if badF (allowedF hex) digits ≠ [] then some none
    else match intBaseF (if hex then 16 else 10) digits with
      | none => none
      | some code => if 0 < code ∧ code < 1114112 then some (some ⟨#[code.toNat]⟩) else some none
end Mine
end
section
open PySem PySem.W PySem.Calls PySem.Spec PyProof.Rows PyProof.Rows.LCt PyProof.Rows.LCg
set_option Elab.async false
set_option maxRecDepth 100000
namespace Mine
section
variable {prog : Program} {w : World} {A : Around} {h₀ : Heap} {L : Addr} {m : Str → Option Value} {env : Env} {s : Shared}
/-- ys are the texts ds -/
inductive TextsAre : List Value → List Str → Prop
  | nil : TextsAre [] []
  | snoc {ys : List Value} {ds : List Str} {d : Str} {t : Tok} : TextsAre ys ds → TextsAre (ys ++ [.str d t]) (ds ++ [d])
theorem comp_filter {ct elt : PySem.Expr} {x : Str} {scope : Scope} {cl : List (Str × Addr)} {Fin : List Value → Led → Prop} (y : Str) (p : Nat → Bool) (news : Led)
    (test : ∀ (c : Nat) (u : Tok) I oI C oC D m₂ h tk ys (E' : Value → Shared → Prop) (Q' : Bool → Shared → Prop), NsObj oC m₂ → m₂ x = some (.str ⟨#[c]⟩ u) → Fr h₀ L h m → News h₀ L h ((I, oI) :: (C, oC) :: (D, lst ys) :: news) → Off3 I C D news →
      (∀ h' tk', Fr h₀ L h' m → News h₀ L h' ((I, oI) :: (C, oC) :: (D, lst ys) :: news) → Q' (p c) { s with heap := h', toks := tk' }) →
      wpAny (model prog w) A (isTrue ct (compEnvC scope cl C env) (eval ct (compEnvC scope cl C env))) Q' E' { s with heap := h, toks := tk })
    (item : ∀ (c : Nat) (u : Tok) I oI C oC D m₂ h tk ys (E' Q' : Value → Shared → Prop), NsObj oC m₂ → m₂ x = some (.str ⟨#[c]⟩ u) → Fr h₀ L h m → News h₀ L h ((I, oI) :: (C, oC) :: (D, lst ys) :: news) → Off3 I C D news →
      (∀ h' tk' u', Fr h₀ L h' m → News h₀ L h' ((I, oI) :: (C, oC) :: (D, lst ys) :: news) → Q' (.str ⟨#[c]⟩ u') { s with heap := h', toks := tk' }) →
      wpAny (model prog w) A (eval elt (compEnvC scope cl C env)) Q' E' { s with heap := h, toks := tk })
    (fin : ∀ ys, TextsAre ys ((y.cps.toList.filter p).map fun c => ⟨#[c]⟩) → Fin ys news) :
    CompRestT prog w A h₀ L m env ct elt x scope cl s (fun _ => True) (SignAt y) Fin y.cps.size 0 [] news := by
  have go : ∀ k i ys, i + k = y.cps.size → TextsAre ys (((y.cps.toList.take i).filter p).map fun c => ⟨#[c]⟩) → CompRestT prog w A h₀ L m env ct elt x scope cl s (fun _ => True) (SignAt y) Fin k i ys news := by
    intro k
    induction k with
    | zero =>
      intro i ys hi ht
      refine CompRestT.zero (fin ys ?_)
      rw [List.take_of_length_le (by rw [Array.length_toList]; omega)] at ht
      exact ht
    | succ k ih =>
      intro i ys hi ht
      refine CompRestT.succ ?_
      rintro v I oI C oC D m₂ h tk E' ⟨c, u, hc, rfl⟩ hC hx F N off ne
      have hti : y.cps.toList.take (i + 1) = y.cps.toList.take i ++ [c] := by
        rw [List.take_add_one]
        rw [← Array.getElem?_toList] at hc
        rw [hc]; rfl
      refine test c u I oI C oC D m₂ h tk ys E' _ hC hx F N off fun h' tk' F' N' => ?_
      cases hp : p c with
      | true =>
        simp only [if_true]
        refine item c u I oI C oC D m₂ h' tk' ys E' _ hC hx F' N' off fun h'' tk'' u' F'' N'' => ?_
        refine ⟨h'', tk'', news, rfl, F'', N'', off, trivial, ih (i + 1) _ (by omega) ?_⟩
        rw [hti, List.filter_append, List.map_append]
        simp only [List.filter_cons, hp, if_true, List.filter_nil, List.map_cons, List.map_nil]
        exact .snoc ht
      | false =>
        simp only [Bool.false_eq_true, if_false]
        refine ⟨h', tk', news, rfl, F', N', off, trivial, ih (i + 1) _ (by omega) ?_⟩
        rw [hti, List.filter_append, List.map_append]
        simp only [List.filter_cons, hp, Bool.false_eq_true, if_false, List.filter_nil, List.map_nil, List.append_nil]
        exact ht
  exact go _ 0 [] (by omega) .nil
theorem readsAll_snoc {h : Heap} {d : Str} {t : Tok} : ∀ {vs : List Value} {ds : List PyData} {as : List Addr}, ReadsAll h vs ds as → ReadsAll h (vs ++ [.str d t]) (ds ++ [.str d]) as
  | _, _, _, .nil => .cons (.str d t) .nil
  | _, _, _, .cons r rs => .cons r (readsAll_snoc rs)
theorem TextsAre.reads {h : Heap} {ys : List Value} {ds : List Str} (T : TextsAre ys ds) : ReadsAll h ys (ds.map PyData.str) [] := by
  induction T with
  | nil => exact .nil
  | snoc T ih =>
    rw [List.map_append]
    exact readsAll_snoc ih
end
end Mine
end
section
open PySem PySem.W PySem.Calls PySem.Spec PyProof.Rows PyProof.Rows.LCt PyProof.Rows.LCg
set_option Elab.async false
set_option maxRecDepth 100000
namespace Mine
section
variable {prog : Program} {w : World} {A : Around} {E : Value → Shared → Prop} {s : Shared} {Q : Value → Shared → Prop} {x : PySem.Str} {t u : Tok} {c : Nat}
theorem notin_char (h : Q (.bool (!(inC x c))) s) : wpAny (model prog w) A (compareOp .NotIn (.str ⟨#[c]⟩ u) (.str x t)) Q E s :=
  PySem.P.notIn_str (by rw [PySem.StrLaws.found_one, ← inC_eq]; exact h)
theorem in_char (h : Q (.bool (inC x c)) s) : wpAny (model prog w) A (compareOp .In (.str ⟨#[c]⟩ u) (.str x t)) Q E s :=
  PySem.P.in_str (by rw [PySem.StrLaws.found_one, ← inC_eq]; exact h)
variable {h₀ : Heap} {L : Addr} {news : Led}
theorem ne_lits {a b : Addr} {ys : List Value} {ds : List Str} {ob : Obj} {n : Nat} (N : News h₀ L s.heap news) (ma : (a, lst ys) ∈ news) (T : TextsAre ys ds) (ok : ∀ d ∈ ds, PyData.strOk d = true) (mb : (b, ob) ∈ news) (cb : ob.cls = .type "list") (db : ob.data = .seq #[] n)
    (hu : A.units + 64 < cLine) (h : Q (.bool (!ds.isEmpty)) s) : wpAny (model prog w) A (compareOp .NotEq (.ref a) (.ref b)) Q E s := by
  have s1 : ∀ ds : List Str, (∀ d ∈ ds, PyData.strOk d = true) → PyData.canLayAll0 (ds.map PyData.str) = true := by
    intro ds
    induction ds with
    | nil => intro; rfl
    | cons d ds ih => intro hd; simp [PyData.canLayAll0, PyData.canLay0, ih fun d q => hd d (List.mem_cons_of_mem _ q), hd d List.mem_cons_self]
  have s2 : ∀ ds : List Str, PyData.depthAll (ds.map PyData.str) ≤ 1 := by
    intro ds
    induction ds with
    | nil => simp [PyData.depthAll]
    | cons d ds ih => simp [PyData.depthAll, PyData.depth]; omega
  have sh : SeqAt.shaped (.list (ds.map PyData.str)) = true := by
    have := s2 ds
    simp [SeqAt.shaped, PyData.canLay0, PyData.depth, s1 ds ok]
    omega
  refine ne_dataH (da := .list (ds.map PyData.str)) (db := .list []) (reads_list_at (N.get ma) rfl rfl T.reads) (reads_list_at (N.get mb) cb db .nil) sh rfl hu ?_
  cases ds with
  | nil => exact h
  | cons d ds => exact h
end
/-- here the walk halts -/
def Stop (p : Prop) : Prop := p
theorem stopW {p : Prop} (h : Stop p) : p := h
theorem base16 : BaseOk 16 := by constructor <;> decide
theorem base10 : BaseOk 10 := by constructor <;> decide
theorem ok_chars (l : List Nat) (hl : ∀ c ∈ l, c < 0x110000) : ∀ d ∈ l.map (fun c => (⟨#[c]⟩ : Str)), PyData.strOk d = true := by
  intro d hd
  obtain ⟨c, hc, rfl⟩ := List.mem_map.mp hd
  simp [PyData.strOk, hl c hc]
theorem slice_mem {x : Str} {i : Int} (hi : 0 ≤ i) {c : Nat} (h : c ∈ (Txt.slice x (some i) none).cps.toList) : c ∈ x.cps.toList := by
  by_cases hx : i ≤ x.length
  · rw [slice_from_eq hi hx rfl] at h
    exact List.mem_of_mem_drop (List.mem_of_mem_take (by simpa using h))
  · rw [slice_beyond (by omega)] at h
    simp [Str.empty] at h
theorem signF_h {word : Str} {r : Option Str} (hs : signF word = some r) (h1 : named word = none) (h2 : (Txt.slice word none (some 2) == Str.ofString "#x") = true) (h3 : (Txt.slice word none (some 1) != Str.ofString "#") = false) (h4 : (Txt.slice word (some 2) none == Str.ofString "") = false)
    (h5 : ¬ (8 : Int) < ((Txt.slice word (some 2) none).length : Int)) (h6 : (badF (allowedF true) (Txt.slice word (some 2) none)).isEmpty = true) : ∃ n, intBaseF 16 (Txt.slice word (some 2) none) = some n ∧ r = if 0 < n ∧ n < 1114112 then some ⟨#[n.toNat]⟩ else none := by
  have e2 : Txt.slice word none (some 2) = Str.ofString "#x" := beq_iff_eq.mp h2
  have e3 : Txt.slice word none (some 1) = Str.ofString "#" := by simpa using h3
  have e4 : ¬ Txt.slice word (some 2) none = Str.ofString "" := by simpa using h4
  have e5 : ¬ (8 < (Txt.slice word (some 2) none).length) := by omega
  have e6 : badF (allowedF true) (Txt.slice word (some 2) none) = [] := by simpa using h6
  unfold signF at hs
  rw [h1] at hs
  have d : decide (Txt.slice word none (some 2) = Str.ofString "#x") = true := decide_eq_true e2
  simp only [d, if_true] at hs
  rw [if_neg (not_not_intro e3), if_neg e4, if_neg e5, if_neg (not_not_intro e6)] at hs
  split at hs
  · cases hs
  · rename_i n hn
    refine ⟨n, hn, ?_⟩
    split at hs <;> (rename_i hc; cases hs; first | rw [if_pos hc] | rw [if_neg hc])
theorem signF_d {word : Str} {r : Option Str} (hs : signF word = some r) (h1 : named word = none) (h2 : (Txt.slice word none (some 2) == Str.ofString "#x") = false) (h3 : (Txt.slice word none (some 1) != Str.ofString "#") = false) (h4 : (Txt.slice word (some 1) none == Str.ofString "") = false)
    (h5 : ¬ (8 : Int) < ((Txt.slice word (some 1) none).length : Int)) (h6 : (badF (allowedF false) (Txt.slice word (some 1) none)).isEmpty = true) : ∃ n, intBaseF 10 (Txt.slice word (some 1) none) = some n ∧ r = if 0 < n ∧ n < 1114112 then some ⟨#[n.toNat]⟩ else none := by
  have e2 : ¬ Txt.slice word none (some 2) = Str.ofString "#x" := by simpa using h2
  have e3 : Txt.slice word none (some 1) = Str.ofString "#" := by simpa using h3
  have e4 : ¬ Txt.slice word (some 1) none = Str.ofString "" := by simpa using h4
  have e5 : ¬ (8 < (Txt.slice word (some 1) none).length) := by omega
  have e6 : badF (allowedF false) (Txt.slice word (some 1) none) = [] := by simpa using h6
  unfold signF at hs
  rw [h1] at hs
  have d : decide (Txt.slice word none (some 2) = Str.ofString "#x") = false := decide_eq_false e2
  simp only [d, if_false, Bool.false_eq_true] at hs
  rw [if_neg (not_not_intro e3), if_neg e4, if_neg e5, if_neg (not_not_intro e6)] at hs
  split at hs
  · cases hs
  · rename_i n hn
    refine ⟨n, hn, ?_⟩
    split at hs <;> (rename_i hc; cases hs; first | rw [if_pos hc] | rw [if_neg hc])
theorem signF_n {word c : Str} {r : Option Str} (hs : signF word = some r) (h1 : named word = some c) : r = some c := by
  unfold signF at hs
  rw [h1] at hs
  exact (Option.some.inj hs).symm
/-- the refusals of sign_of, before the number is read -/
theorem signF_r {word : Str} {r : Option Str} (hs : signF word = some r) (h1 : named word = none) (hex : Bool) (k : Int) (hk : k = if hex then 2 else 1) (h2 : (Txt.slice word none (some 2) == Str.ofString "#x") = hex)
    (h : (Txt.slice word none (some 1) != Str.ofString "#") = true ∨ (Txt.slice word (some k) none == Str.ofString "") = true ∨ (8 : Int) < ((Txt.slice word (some k) none).length : Int) ∨ (badF (allowedF hex) (Txt.slice word (some k) none)).isEmpty = false) : r = none := by
  unfold signF at hs
  rw [h1] at hs
  have d : decide (Txt.slice word none (some 2) = Str.ofString "#x") = hex := by rw [← h2, Bool.eq_iff_iff, decide_eq_true_iff, beq_iff_eq]
  simp only [d, ← hk] at hs
  split at hs
  · exact (Option.some.inj hs).symm
  rename_i c1
  split at hs
  · exact (Option.some.inj hs).symm
  rename_i c2
  split at hs
  · exact (Option.some.inj hs).symm
  rename_i c3
  split at hs
  · exact (Option.some.inj hs).symm
  rename_i c4
  exfalso
  rcases h with h | h | h | h
  · exact c1 (by simpa using h)
  · exact c2 (beq_iff_eq.mp h)
  · exact c3 (by omega)
  · exact c4 (by intro e; rw [e] at h; simp at h)
end Mine
end
section
open PySem PySem.W PySem.Calls PySem.Spec PyProof.Rows
set_option Elab.async false
set_option maxRecDepth 100000
namespace Mine
/-- the part ahead of the first c, and what stands behind it -/
def cut (c : Nat) : List Nat → List Nat × Option (List Nat)
  | [] => ([], none)
  | a :: r => if a = c then ([], some r) else (a :: (cut c r).1, (cut c r).2)
theorem cut_spec (c : Nat) : ∀ l : List Nat, ((cut c l).2 = none ∧ (cut c l).1 = l ∧ c ∉ l) ∨ (∃ r, (cut c l).2 = some r ∧ l = (cut c l).1 ++ c :: r ∧ c ∉ (cut c l).1)
  | [] => .inl ⟨rfl, rfl, by simp⟩
  | a :: l => by
    unfold cut
    by_cases h : a = c
    · rw [if_pos h]; exact .inr ⟨l, rfl, by simp [h], by simp⟩
    · rw [if_neg h]
      rcases cut_spec c l with ⟨h1, h2, h3⟩ | ⟨r, h1, h2, h3⟩
      · exact .inl ⟨h1, by simp [h2], by simp [h3]; exact fun q => h q.symm⟩
      · refine .inr ⟨r, h1, ?_, by simp [h3]; exact fun q => h q.symm⟩
        show a :: l = a :: ((cut c l).1 ++ c :: r)
        rw [← h2]
theorem at_one (x : Str) (c i : Nat) : StrLaws.At x ⟨#[c]⟩ x.length i ↔ x.cps.toList[i]? = some c := StrLaws.subAt_one x c i
theorem from_nat (n k : Nat) : PySem.fromIndex n (k : Int) = k := by
  unfold PySem.fromIndex
  rw [if_neg (by omega)]
  omega
theorem find_none {x : Str} {c k : Nat} (h : c ∉ x.cps.toList.drop k) : Txt.find3 x ⟨#[c]⟩ (k : Int) = -1 := by
  unfold Txt.find3
  rw [from_nat]
  rcases StrLaws.occ_head_from x ⟨#[c]⟩ k 1 (Nat.le_refl 1) with ⟨h0, _⟩ | ⟨i, r, _, hk, ha, _⟩
  · rw [h0]
  · exfalso
    rw [at_one] at ha
    exact h (List.mem_of_getElem? (i := i - k) (by rw [List.getElem?_drop]; rw [show k + (i - k) = i by omega]; exact ha))
theorem find_some {x : Str} {c k : Nat} {p r : List Nat} (h : x.cps.toList.drop k = p ++ c :: r) (hp : c ∉ p) : Txt.find3 x ⟨#[c]⟩ (k : Int) = ((k + p.length : Nat) : Int) := by
  unfold Txt.find3
  rw [from_nat]
  have hc : x.cps.toList[k + p.length]? = some c := by
    rw [← List.getElem?_drop, h]; simp
  rcases StrLaws.occ_head_from x ⟨#[c]⟩ k 1 (Nat.le_refl 1) with ⟨_, hn⟩ | ⟨i, q, h0, hk, ha, hn⟩
  · exact absurd ((at_one _ _ _).mpr hc) (hn _ (by omega))
  · rw [h0]
    show (i : Int) = _
    have h1 : ¬ k + p.length < i := fun hlt => hn _ (by omega) hlt ((at_one _ _ _).mpr hc)
    have h2 : ¬ i < k + p.length := fun hlt => by
      rw [at_one] at ha
      have : p[i - k]? = some c := by
        have e : (x.cps.toList.drop k)[i - k]? = some c := by rw [List.getElem?_drop, show k + (i - k) = i by omega]; exact ha
        rw [h, List.getElem?_append_left (by omega)] at e
        exact e
      exact hp (List.mem_of_getElem? this)
    congr 1
    omega
theorem find_lt {x : Str} {c k : Nat} (h : Txt.find3 x ⟨#[c]⟩ (k : Int) < 0) : (cut c (x.cps.toList.drop k)).2 = none ∧ (cut c (x.cps.toList.drop k)).1 = x.cps.toList.drop k := by
  rcases cut_spec c (x.cps.toList.drop k) with ⟨h1, h2, h3⟩ | ⟨r, h1, h2, h3⟩
  · exact ⟨h1, h2⟩
  · rw [find_some h2 h3] at h
    omega
theorem find_ge {x : Str} {c k : Nat} (h : ¬ Txt.find3 x ⟨#[c]⟩ (k : Int) < 0) : ∃ r, (cut c (x.cps.toList.drop k)).2 = some r ∧ x.cps.toList.drop k = (cut c (x.cps.toList.drop k)).1 ++ c :: r ∧ Txt.find3 x ⟨#[c]⟩ (k : Int) = ((k + (cut c (x.cps.toList.drop k)).1.length : Nat) : Int) := by
  rcases cut_spec c (x.cps.toList.drop k) with ⟨h1, h2, h3⟩ | ⟨r, h1, h2, h3⟩
  · rw [find_none h3] at h
    omega
  · exact ⟨r, h1, h2, find_some h2 h3⟩
/-- a slice by places -/
theorem slice_nat {x : Str} {a b : Nat} (h : a ≤ b) (hb : b ≤ x.length) : Txt.slice x (some (a : Int)) (some (b : Int)) = ⟨((x.cps.toList.drop a).take (b - a)).toArray⟩ := by
  have := beq_iff_eq.mp (slice_closes (x := x) (i := a) (j := b) ⟨by omega, by omega, by simp only [Array.length_toList]; simp only [Str.length] at hb; omega⟩)
  rw [this]
  congr 3
  omega
theorem slice_from_nat {x : Str} {a : Nat} (h : a ≤ x.length) : Txt.slice x (some (a : Int)) none = ⟨(x.cps.toList.drop a).toArray⟩ := by
  rw [slice_from_eq (by omega) (by omega) rfl]
  congr 1
  rw [List.take_of_length_le]
  · simp
  · simp only [List.length_drop, Array.length_toList, Str.length] at *; omega
/-- the text without its references, as signs -/
def unescL : Nat → List Nat → Option (Option (List Nat))
  | 0, _ => none
  | n + 1, l => match l with
    | [] => some (some [])
    | a :: l' => match (cut 38 (a :: l')).2 with
      | none => some (some (cut 38 (a :: l')).1)
      | some r => match (cut 59 r).2 with
        | none => some none
        | some r' => match signF ⟨(cut 59 r).1.toArray⟩ with
          | none => none
          | some none => some none
          | some (some c) => match unescL n r' with
            | none => none
            | some none => some none
            | some (some u) => some (some ((cut 38 (a :: l')).1 ++ c.cps.toList ++ u))
theorem signF_len {w c : Str} (h : signF w = some (some c)) : c.cps.toList.length ≤ 1 := by
  have hn : ∀ d, named w = some d → d.cps.toList.length ≤ 1 := by
    intro d hd
    unfold named at hd
    repeat (split at hd; (cases hd; decide))
    cases hd
  unfold signF at h
  split at h
  · rename_i d hd
    have := Option.some.inj (Option.some.inj h)
    subst this
    exact hn _ hd
  · dsimp only at h
    generalize decide (Txt.slice w none (some 2) = Str.ofString "#x") = hex at h
    generalize Txt.slice w (some (if hex = true then 2 else 1)) none = dg at h
    generalize intBaseF (if hex = true then 16 else 10) dg = ib at h
    split at h
    · exact absurd h (by simp)
    split at h
    · exact absurd h (by simp)
    split at h
    · exact absurd h (by simp)
    split at h
    · exact absurd h (by simp)
    split at h
    · exact absurd h (by simp)
    · split at h
      · have := Option.some.inj (Option.some.inj h)
        subst this
        simp
      · exact absurd h (by simp)
/-- the state of the loop of unescaped -/
structure US where
  k : Nat
  t : Tok
  ys : Array Value
  n : Nat
  ds : List Str
def flat (ds : List Str) : List Nat := (ds.map fun d => d.cps.toList).flatten
theorem flat_snoc (ds : List Str) (d : Str) : flat (ds ++ [d]) = flat ds ++ d.cps.toList := by simp [flat]
structure UInv (x : Str) (r : Option (List Nat)) (c : US) : Prop where
  le : c.k ≤ x.length
  texts : StrsAre c.ys.toList c.ds
  len : (flat c.ds).length ≤ c.k
  sz : c.ys.size ≤ 2 * c.k
  rest : ∃ N q, unescL N (x.cps.toList.drop c.k) = some q ∧ r = q.map (flat c.ds ++ ·)
end Mine
end
section
open PySem PySem.W PySem.Calls PySem.Spec PyProof.Rows
set_option Elab.async false
set_option maxRecDepth 100000
namespace Mine
theorem all1 {α : Type} {P : α → Prop} {a : α} (h : P a) : ∀ p ∈ [a], P p := fun p hp => by rw [List.mem_singleton.mp hp]; exact h
theorem strs_push : ∀ {vs : List Value} {ds : List Str} (d : Str) (t : Tok), StrsAre vs ds → StrsAre (vs ++ [.str d t]) (ds ++ [d])
  | _, _, d, t, .nil => .cons d t .nil
  | _, _, d, t, .cons y u r => .cons y u (strs_push d t r)
theorem join_flat : ∀ ds : List Str, (Txt.join (Str.ofString "") ds) = ⟨(flat ds).toArray⟩ := by
  have e : Str.ofString "" = ⟨#[]⟩ := by decide
  have go : ∀ ds : List Str, (Str.join ⟨#[]⟩ ds).cps.toList = flat ds := by
    intro ds
    induction ds with
    | nil => rfl
    | cons d ds ih =>
      cases ds with
      | nil => simp [Str.join, flat]
      | cons d' ds =>
        rw [show Str.join ⟨#[]⟩ (d :: d' :: ds) = d ++ ⟨#[]⟩ ++ Str.join ⟨#[]⟩ (d' :: ds) from rfl]
        show ((d.cps ++ #[]) ++ (Str.join ⟨#[]⟩ (d' :: ds)).cps).toList = _
        rw [Array.toList_append, ih]
        simp [flat]
  intro ds
  show Builtin.Str.glued _ ds = _
  rw [StrLaws.glued_eq_join, e]
  have := go ds
  rw [← this]
theorem sum_flat (ds : List Str) : (ds.map (·.length)).sum = (flat ds).length := by
  induction ds with
  | nil => rfl
  | cons d ds ih => simp only [List.map_cons, List.sum_cons, ih]; simp [flat, Str.length]
theorem drop_more {l p w : List Nat} {k c : Nat} (h : l.drop k = p ++ c :: w) : l.drop (k + p.length) = c :: w := by
  rw [← List.drop_drop, h]; simp
theorem amp_eq : Str.ofString "&" = ⟨#[38]⟩ := by decide
theorem semi_eq : Str.ofString ";" = ⟨#[59]⟩ := by decide
theorem len_list (x : Str) : x.cps.toList.length = x.length := by simp [Str.length]
variable {x : Str} {r : Option (List Nat)} {k : Nat} {t : Tok} {ys : Array Value} {n : Nat} {ds : List Str}
theorem step_end (I : UInv x r ⟨k, t, ys, n, ds⟩) (h : ¬ (k : Int) < (x.length : Int)) : r = some (flat ds) := by
  obtain ⟨N, q, h1, h2⟩ := I.rest
  dsimp only at h1 h2
  rw [List.drop_of_length_le (by rw [len_list]; omega)] at h1
  cases N with
  | zero => cases h1
  | succ N =>
    cases Option.some.inj h1
    simpa using h2
theorem step_none (I : UInv x r ⟨k, t, ys, n, ds⟩) (hk : (k : Int) < (x.length : Int)) (h : Txt.find3 x (Str.ofString "&") (k : Int) < 0) (u t' : Tok) (n' : Nat) :
    UInv x r ⟨x.length, t', ys.push (.str (Txt.slice x (some (k : Int)) (some (x.length : Int))) u), n', ds ++ [Txt.slice x (some (k : Int)) (some (x.length : Int))]⟩ := by
  rw [amp_eq] at h
  obtain ⟨h1, h2⟩ := find_lt h
  have es : (Txt.slice x (some (k : Int)) (some (x.length : Int))).cps.toList = x.cps.toList.drop k := by
    rw [slice_nat (by omega) (Nat.le_refl _)]
    show (x.cps.toList.drop k).take (x.length - k) = _
    exact List.take_of_length_le (by rw [List.length_drop, len_list]; omega)
  have L := I.len
  have Z := I.sz
  obtain ⟨N, q, h3, h4⟩ := I.rest
  dsimp only at h3 h4 L Z
  refine ⟨Nat.le_refl _, ?_, ?_, ?_, 1, some [], ?_, ?_⟩
  · show StrsAre (ys.push _).toList _
    rw [Array.toList_push]
    exact strs_push _ _ I.texts
  · show (flat (ds ++ [_])).length ≤ x.length
    rw [flat_snoc, List.length_append, es, List.length_drop, len_list]
    omega
  · show (ys.push _).size ≤ 2 * x.length
    rw [Array.size_push]; omega
  · show unescL 1 (x.cps.toList.drop x.length) = _
    rw [List.drop_of_length_le (by rw [len_list]; exact Nat.le_refl _)]
    rfl
  · show r = some (flat (ds ++ [_]) ++ [])
    rw [flat_snoc, es, h4, List.append_nil]
    cases hd : x.cps.toList.drop k with
    | nil =>
      have := congrArg List.length hd
      rw [List.length_drop, len_list] at this
      simp at this
      omega
    | cons a l =>
      rw [hd] at h1 h2 h3
      cases N with
      | zero => cases h3
      | succ N =>
        unfold unescL at h3
        dsimp only at h3
        rw [h1] at h3
        rw [← Option.some.inj h3, h2]
        rfl
theorem step_raise (I : UInv x r ⟨k, t, ys, n, ds⟩) (hk : (k : Int) < (x.length : Int)) (h : ¬ Txt.find3 x (Str.ofString "&") (k : Int) < 0) (h' : Txt.find3 x (Str.ofString ";") (Txt.find3 x (Str.ofString "&") (k : Int)) < 0) : r = none := by
  rw [amp_eq] at h h'
  rw [semi_eq] at h'
  obtain ⟨w, h1, h2, h3⟩ := find_ge h
  rw [h3] at h'
  obtain ⟨h5, _⟩ := find_lt h'
  obtain ⟨N, q, h6, h7⟩ := I.rest
  dsimp only at h6 h7
  have e : x.cps.toList.drop (k + (cut 38 (x.cps.toList.drop k)).1.length) = 38 :: w := drop_more h2
  rw [e] at h5
  have h8 : (cut 59 w).2 = none := by
    have : cut 59 (38 :: w) = (38 :: (cut 59 w).1, (cut 59 w).2) := rfl
    rw [this] at h5
    exact h5
  cases hd : x.cps.toList.drop k with
  | nil => rw [hd] at h1; cases h1
  | cons a l =>
    rw [hd] at h1 h6
    cases N with
    | zero => cases h6
    | succ N =>
      unfold unescL at h6
      dsimp only at h6
      rw [h1] at h6
      dsimp only at h6
      rw [h8] at h6
      rw [h7, ← Option.some.inj h6]
      rfl
theorem step_sign (I : UInv x r ⟨k, t, ys, n, ds⟩) (hk : (k : Int) < (x.length : Int)) (h : ¬ Txt.find3 x (Str.ofString "&") (k : Int) < 0) (h' : ¬ Txt.find3 x (Str.ofString ";") (Txt.find3 x (Str.ofString "&") (k : Int)) < 0) :
    ∃ q, signF (Txt.slice x (some (Txt.find3 x (Str.ofString "&") (k : Int) + 1)) (some (Txt.find3 x (Str.ofString ";") (Txt.find3 x (Str.ofString "&") (k : Int))))) = some q ∧
      (∀ c ∈ (Txt.slice x (some (Txt.find3 x (Str.ofString "&") (k : Int) + 1)) (some (Txt.find3 x (Str.ofString ";") (Txt.find3 x (Str.ofString "&") (k : Int))))).cps.toList, c ∈ x.cps.toList) ∧
      (q = none → r = none) ∧ ∀ c, q = some c → ∃ k' : Nat, Txt.find3 x (Str.ofString ";") (Txt.find3 x (Str.ofString "&") (k : Int)) + 1 = (k' : Int) ∧ k < k' ∧ k' ≤ x.length ∧
        ∀ u u' t' n', UInv x r ⟨k', t', (ys.push (.str (Txt.slice x (some (k : Int)) (some (Txt.find3 x (Str.ofString "&") (k : Int)))) u)).push (.str c u'), n', ds ++ [Txt.slice x (some (k : Int)) (some (Txt.find3 x (Str.ofString "&") (k : Int)))] ++ [c]⟩ := by
  rw [amp_eq] at h h' ⊢
  rw [semi_eq] at h' ⊢
  obtain ⟨w, h1, h2, h3⟩ := find_ge h
  rw [h3] at h' ⊢
  obtain ⟨w', h4, h5, h6⟩ := find_ge h'
  obtain ⟨N, q, h7, h8⟩ := I.rest
  have L := I.len
  have Z := I.sz
  dsimp only at h7 h8 L Z
  have e : x.cps.toList.drop (k + (cut 38 (x.cps.toList.drop k)).1.length) = 38 :: w := drop_more h2
  generalize hp : (cut 38 (x.cps.toList.drop k)).1 = p at *
  rw [e] at h4 h5 h6
  have c59 : cut 59 (38 :: w) = (38 :: (cut 59 w).1, (cut 59 w).2) := rfl
  rw [c59] at h4 h5 h6
  dsimp only at h4 h5 h6
  generalize hv : (cut 59 w).1 = v at *
  rw [h6]
  have h5' : w = v ++ 59 :: w' := List.cons.inj h5 |>.2
  have lx : x.length = k + p.length + 1 + v.length + 1 + w'.length := by
    have := congrArg List.length h2
    rw [List.length_drop, len_list, h5'] at this
    simp at this
    omega
  have s1 : Txt.slice x (some (k : Int)) (some ((k + p.length : Nat) : Int)) = ⟨p.toArray⟩ := by
    rw [slice_nat (by omega) (by omega), h2]
    simp
  have s2 : Txt.slice x (some (((k + p.length : Nat) : Int) + 1)) (some ((k + p.length + (38 :: v).length : Nat) : Int)) = ⟨v.toArray⟩ := by
    have e1 : ((k + p.length : Nat) : Int) + 1 = ((k + p.length + 1 : Nat) : Int) := by omega
    rw [e1, slice_nat (by simp only [List.length_cons]; omega) (by simp only [List.length_cons]; omega)]
    have : x.cps.toList.drop (k + p.length + 1) = w := by
      rw [← List.drop_drop, e]; rfl
    rw [this, h5']
    have e2 : k + p.length + (38 :: v).length - (k + p.length + 1) = v.length := by simp; omega
    rw [e2]
    simp
  rw [s1, s2]
  cases hd : x.cps.toList.drop k with
  | nil => rw [hd] at h2; simp at h2
  | cons a l =>
    rw [hd] at h1 h7 hp
    cases N with
    | zero => cases h7
    | succ N =>
      unfold unescL at h7
      dsimp only at h7
      rw [h1] at h7
      dsimp only at h7
      rw [h4, hv] at h7
      dsimp only at h7
      cases hs : signF ⟨v.toArray⟩ with
      | none => rw [hs] at h7; cases h7
      | some q' =>
        refine ⟨q', rfl, ?_, ?_, ?_⟩
        · intro c hc
          have hm : c ∈ x.cps.toList.drop k := by rw [h2, h5']; simp at hc ⊢; exact .inr (.inr (.inl hc))
          exact List.mem_of_mem_drop hm
        · intro hq
          rw [hs, hq] at h7
          rw [h8, ← Option.some.inj h7]
          rfl
        · intro c hq
          refine ⟨k + p.length + (38 :: v).length + 1, by omega, by simp; omega, by simp; omega, ?_⟩
          intro u u' t' n'
          rw [hs, hq] at h7
          dsimp only at h7
          have hc := signF_len (w := ⟨v.toArray⟩) (by rw [hs, hq])
          refine ⟨by simp; omega, ?_, ?_, ?_, ?_⟩
          · show StrsAre ((ys.push _).push _).toList _
            rw [Array.toList_push, Array.toList_push]
            exact strs_push _ _ (strs_push _ _ I.texts)
          · show (flat (ds ++ [_] ++ [_])).length ≤ _
            rw [flat_snoc, flat_snoc]
            simp at hc ⊢
            omega
          · show ((ys.push _).push _).size ≤ _
            rw [Array.size_push, Array.size_push]
            simp
            omega
          · have dr : x.cps.toList.drop (k + p.length + (38 :: v).length + 1) = w' := by
              rw [show k + p.length + (38 :: v).length + 1 = (k + p.length) + (1 + (v.length + 1)) by simp; omega, ← List.drop_drop, e, h5']
              rw [show 1 + (v.length + 1) = (v.length + 1) + 1 by omega, List.drop_succ_cons]
              rw [show v ++ 59 :: w' = (v ++ [59]) ++ w' by simp, List.drop_append_of_le_length (by simp)]
              simp
            cases hn : unescL N w' with
            | none => rw [hn] at h7; cases h7
            | some q2 =>
              refine ⟨N, q2, by show unescL N (x.cps.toList.drop _) = _; rw [dr, hn], ?_⟩
              show r = q2.map (flat (ds ++ [_] ++ [_]) ++ ·)
              rw [flat_snoc, flat_snoc, h8]
              rw [hn] at h7
              cases q2 with
              | none => rw [← Option.some.inj h7]; rfl
              | some u2 =>
                rw [← Option.some.inj h7, hp]
                simp
end Mine
end
section
open PySem PySem.W PySem.Calls PySem.Spec PyProof.Rows
set_option Elab.async false
set_option maxRecDepth 100000
namespace Mine
/-- the state of a loop over a scanner -/
structure SS where
  k : Nat
  t : Tok
structure SInv (x : Str) (q : Nat → Bool) (kE : Nat) (c : SS) : Prop where
  le : c.k ≤ x.length
  fin : c.k + ((x.cps.toList.drop c.k).takeWhile q).length = kE
section
variable {prog : Program} {w : World} {A : Around} {E : Value → Shared → Prop} {s : Shared} {Q : Value → Shared → Prop} {x : PySem.Str} {t u : Tok} {k c : Nat}
theorem sub_char {value slice : PySem.Expr} (hc : x.cps.toList[k]? = some c) (hk : x.length ≤ 1000000) (h : Q (.str ⟨#[c]⟩ s.toks) { s with toks := s.toks + 1 })
    (hs : subscripted slice false (.str x t) (.int (k : Int) u) = operate [.str x t, .int (k : Int) u] (getItem (.str x t) (.int (k : Int) u)) := by with_unfolding_all rfl) (ht : ∀ r, letTemporaryGo value (.str x t) r = pure () := by intro _; with_unfolding_all rfl) :
    wpAny (model prog w) A (subscriptTail value slice (.str x t) (.int (k : Int) u)) Q E s := by
  have hlt : k < x.length := by
    have := (List.getElem?_eq_some_iff.mp hc).1
    rw [len_list] at this
    exact this
  refine subscriptTail_builtin (typeIs_str s x t) F.slot_str_getitem.lookup (P.getItem_str (c := c) ?_ ?_ h) hs ht
  · rw [Bool.or_eq_false_iff, decide_eq_false_iff_not, decide_eq_false_iff_not]
    omega
  · unfold seqIndex?
    rw [if_neg (by omega : ¬ (k : Int) < 0), if_pos (by simp; omega)]
    show x.cps[(k : Int).toNat]? = some c
    rw [Int.toNat_natCast, ← Array.getElem?_toList]
    exact hc
theorem at_some (h : ¬ (x.length : Int) ≤ (k : Int)) : ∃ c, x.cps.toList[k]? = some c ∧ x.cps.toList.drop k = c :: x.cps.toList.drop (k + 1) := by
  have hk : k < x.cps.toList.length := by rw [len_list]; omega
  exact ⟨_, List.getElem?_eq_getElem hk, List.drop_eq_getElem_cons hk⟩
end
theorem SInv.step {x : Str} {q : Nat → Bool} {kE k c : Nat} {t : Tok} (I : SInv x q kE ⟨k, t⟩) (hk : ¬ (x.length : Int) ≤ (k : Int)) (hd : x.cps.toList.drop k = c :: x.cps.toList.drop (k + 1)) (hc : q c = true) (t' : Tok) : SInv x q kE ⟨k + 1, t'⟩ := by
  refine ⟨by show k + 1 ≤ x.length; omega, ?_⟩
  have := I.fin
  dsimp only at this ⊢
  rw [hd, List.takeWhile_cons_of_pos hc] at this
  simp at this
  omega
theorem SInv.stop {x : Str} {q : Nat → Bool} {kE k c : Nat} {t : Tok} (I : SInv x q kE ⟨k, t⟩) (hd : x.cps.toList.drop k = c :: x.cps.toList.drop (k + 1)) (hc : q c = false) : kE = k := by
  have := I.fin
  dsimp only at this
  rw [hd, List.takeWhile_cons_of_neg (by simp [hc])] at this
  simpa using this.symm
theorem SInv.over {x : Str} {q : Nat → Bool} {kE k : Nat} {t : Tok} (I : SInv x q kE ⟨k, t⟩) (hk : (x.length : Int) ≤ (k : Int)) : kE = k := by
  have := I.fin
  dsimp only at this
  rw [List.drop_of_length_le (by rw [len_list]; omega)] at this
  simpa using this.symm
theorem take_tw {q : Nat → Bool} : ∀ l : List Nat, l.take (l.takeWhile q).length = l.takeWhile q
  | [] => rfl
  | a :: l => by
    by_cases h : q a = true
    · rw [List.takeWhile_cons_of_pos h, List.length_cons, List.take_succ_cons, take_tw l]
    · rw [List.takeWhile_cons_of_neg h]; rfl
theorem slice_tw {x : Str} {q : Nat → Bool} {k k1 : Nat} (h : k + ((x.cps.toList.drop k).takeWhile q).length = k1) (hk : k1 ≤ x.length) : Txt.slice x (some (k : Int)) (some (k1 : Int)) = ⟨((x.cps.toList.drop k).takeWhile q).toArray⟩ := by
  rw [slice_nat (by omega) hk, show k1 - k = ((x.cps.toList.drop k).takeWhile q).length by omega, take_tw]
theorem slice_cut {x : Str} {c k : Nat} (hk : k ≤ x.length) (h : ¬ Txt.find3 x ⟨#[c]⟩ (k : Int) < 0) : Txt.slice x (some (k : Int)) (some (Txt.find3 x ⟨#[c]⟩ (k : Int))) = ⟨(cut c (x.cps.toList.drop k)).1.toArray⟩ := by
  obtain ⟨r, h1, h2, h3⟩ := find_ge h
  generalize (cut c (x.cps.toList.drop k)).1 = p at *
  have := congrArg List.length h2
  rw [List.length_drop, len_list, List.length_append, List.length_cons] at this
  rw [h3, slice_nat (by omega) (by omega), show k + p.length - k = p.length by omega, h2]
  simp
theorem starts_eq {x wd : Str} {k : Nat} (hk : k ≤ x.length) : Txt.startswith3 x wd (k : Int) = wd.cps.toList.isPrefixOf (x.cps.toList.drop k) := by
  unfold Txt.startswith3
  simp only [from_nat, StrLaws.subAt_eq]
  rw [Bool.eq_iff_iff, Bool.and_eq_true, decide_eq_true_iff, beq_iff_eq, List.isPrefixOf_iff_prefix, List.prefix_iff_eq_take, len_list]
  constructor
  · intro h; exact h.2.symm
  · intro h
    refine ⟨?_, h.symm⟩
    have := congrArg List.length h
    rw [List.length_take, List.length_drop, len_list, len_list] at this
    omega
end Mine
end
section
open PySem PySem.W PySem.Calls PySem.Spec PyProof.Rows
set_option Elab.async false
set_option maxRecDepth 100000
namespace Mine
theorem Callee.mono {w : World} {p : Program} {loose : List Str} {mean : ExcName → Option Value} {mg mb : Str → Option Value} {news : Led} {need : Nat} {f : Value} {vs : List Value} {Post Post' : Value → Led → Prop} {Fails Fails' : Led → Prop} (C : Callee w p loose mean mg mb news need f vs Post Fails)
    (h1 : ∀ v n, Post v n → Post' v n) (h2 : ∀ n, Fails n → Fails' n) : Callee w p loose mean mg mb news need f vs Post' Fails' := by
  intro dp un gd cn cs a ccd cl outer A₀ base h₀ L m s Q E B F X N T hk hd hu ret raise
  exact C.use B F X N T hk hd hu (fun v h' tk' n F' N' P => ret v h' tk' n F' N' (h1 _ _ P)) (fun e t vs' g h' tk' n P F' R K U => raise e t vs' g h' tk' n (h2 _ P) F' R K U)
theorem offS {news : Led} {I : Addr} {o : Obj} (h : ∀ p ∈ news, p.1 ≠ I) : ∀ p ∈ news, ∀ q ∈ [(I, o)], p.1 ≠ q.1 := fun p hp q hq => by rw [List.mem_singleton.mp hq]; exact h p hp
theorem news_rot2 {h₀ h : Heap} {L : Addr} {a b c d : Addr × Obj} {r : Led} (N : News h₀ L h (a :: b :: c :: d :: r)) : News h₀ L h (c :: d :: a :: b :: r) := cb_drop N (by intro p hp; simp at hp ⊢; rcases hp with h | h | h | h | h <;> simp [h])
theorem news_back {h₀ h : Heap} {L : Addr} {a b c d : Addr × Obj} {r : Led} (N : News h₀ L h (c :: d :: a :: b :: r)) : News h₀ L h (a :: b :: c :: d :: r) := cb_drop N (by intro p hp; simp at hp ⊢; rcases hp with h | h | h | h | h <;> simp [h])
structure Kept (r n : Led) : Prop where
  h : ∀ p ∈ r, p ∈ n
@[reducible] def isBl (c : Nat) : Bool := inC " \t\n\r" c
@[reducible] def isNm (c : Nat) : Bool := !inC " \t\n\r=/><\"'" c
theorem drop_tw {q : Nat → Bool} {l : List Nat} {k : Nat} : l.drop (k + ((l.drop k).takeWhile q).length) = (l.drop k).dropWhile q := by
  rw [← List.drop_drop]
  generalize l.drop k = r
  induction r with
  | nil => rfl
  | cons a r ih =>
    by_cases h : q a = true
    · rw [List.takeWhile_cons_of_pos h, List.dropWhile_cons_of_pos h, List.length_cons, List.drop_succ_cons, ih]
    · rw [List.takeWhile_cons_of_neg h, List.dropWhile_cons_of_neg h]; rfl
theorem tw_le {q : Nat → Bool} {x : Str} {k : Nat} (hk : k ≤ x.length) : k + ((x.cps.toList.drop k).takeWhile q).length ≤ x.length := by
  have h : ((x.cps.toList.drop k).takeWhile q).length ≤ (x.cps.toList.drop k).length := by
    generalize x.cps.toList.drop k = r
    induction r with
    | nil => exact Nat.le_refl _
    | cons a r ih =>
      by_cases h : q a = true
      · rw [List.takeWhile_cons_of_pos h, List.length_cons, List.length_cons]; omega
      · rw [List.takeWhile_cons_of_neg h]; exact Nat.zero_le _
  rw [List.length_drop, len_list] at h
  omega
/-- a value between quotes c, read behind the first -/
def quoL (c : Nat) (nm : Str) (l : List Nat) : Option (Option ((Str × Str) × List Nat)) :=
  match (cut c l).2 with
  | none => some none
  | some r => match unescL ((cut c l).1.length + 1) (cut c l).1 with
    | none => none
    | some none => some none
    | some (some u) => some (some ((nm, ⟨u.toArray⟩), r))
def valL (nm : Str) : List Nat → Option (Option ((Str × Str) × List Nat))
  | 34 :: l => quoL 34 nm l
  | 39 :: l => quoL 39 nm l
  | _ => some none
/-- an attribute, read from the signs l; the names known already -/
def attrL (l : List Nat) (known : List Str) : Option (Option ((Str × Str) × List Nat)) :=
  if l.takeWhile isNm = [] then some none else
  match (l.dropWhile isNm).dropWhile isBl with
  | 61 :: l2 => if (⟨(l.takeWhile isNm).toArray⟩ : Str) ∈ known then some none else valL ⟨(l.takeWhile isNm).toArray⟩ (l2.dropWhile isBl)
  | _ => some none
/-- the rest of a tag: its attributes, whether it is empty, what stands behind -/
def tagL : Nat → List Nat → List (Str × Str) → Option (Option (List (Str × Str) × Bool × List Nat))
  | 0, _, _ => none
  | n + 1, l, known =>
    match l.dropWhile isBl with
    | 47 :: 62 :: r => some (some (known, true, r))
    | 62 :: r => some (some (known, false, r))
    | l' => match attrL l' (known.map (·.1)) with
      | none => none
      | some none => some none
      | some (some (kv, r)) => tagL n r (known ++ [kv])
end Mine
end
section
open PySem PySem.W PySem.Calls PySem.Spec PyProof.Rows
set_option Elab.async false
set_option maxRecDepth 100000
namespace Mine
theorem cut_app {c : Nat} : ∀ {p : List Nat} (r : List Nat), c ∉ p → cut c (p ++ r) = (p ++ (cut c r).1, (cut c r).2)
  | [], r, _ => rfl
  | a :: p, r, h => by
    have h1 : a ≠ c := fun e => h (by simp [e])
    have ih := cut_app (p := p) r (fun q => h (List.mem_cons_of_mem _ q))
    show (if a = c then ([], some (p ++ r)) else (a :: (cut c (p ++ r)).1, (cut c (p ++ r)).2)) = _
    rw [if_neg h1, ih]; rfl
theorem cut_hit (c : Nat) (r : List Nat) : cut c (c :: r) = ([], some r) := by
  show (if c = c then _ else _) = _
  rw [if_pos rfl]
theorem cut_mid {c : Nat} {p : List Nat} (r : List Nat) (h : c ∉ p) : cut c (p ++ c :: r) = (p, some r) := by
  rw [cut_app _ h, cut_hit]; simp
theorem unescL_eq (n : Nat) : ∀ l, unescL (n + 1) l = match (cut 38 l).2 with
      | none => some (some (cut 38 l).1)
      | some r => match (cut 59 r).2 with
        | none => some none
        | some r' => match signF ⟨(cut 59 r).1.toArray⟩ with
          | none => none
          | some none => some none
          | some (some c) => match unescL n r' with
            | none => none
            | some none => some none
            | some (some u) => some (some ((cut 38 l).1 ++ c.cps.toList ++ u))
  | [] => rfl
  | _ :: _ => rfl
theorem unescL_plain {p r : List Nat} {q : Option (List Nat)} (hp : 38 ∉ p) : ∀ {n}, unescL n r = some q → unescL n (p ++ r) = some (q.map (p ++ ·))
  | 0, h => nomatch h
  | n + 1, h => by
    rw [unescL_eq] at h ⊢
    rw [cut_app _ hp]
    try dsimp only
    split at h
    · cases h; rfl
    · rename_i r1 e
      try dsimp only
      split at h
      · cases h; rfl
      · rename_i r2 e2
        try dsimp only
        split at h
        · cases h
        · cases h; rfl
        · rename_i c e3
          try dsimp only
          split at h
          · cases h
          · cases h; rfl
          · cases h; simp
theorem unescL_up : ∀ {n : Nat} {l : List Nat} {q : Option (List Nat)}, unescL n l = some q → unescL (n + 1) l = some q
  | 0, _, _, h => nomatch h
  | n + 1, l, q, h => by
    rw [unescL_eq] at h ⊢
    split at h
    · exact h
    · rename_i r1 e
      try dsimp only
      split at h
      · exact h
      · rename_i r2 e2
        try dsimp only
        split at h
        · exact h
        · exact h
        · rename_i c e3
          try dsimp only
          split at h
          · cases h
          · rename_i e4; rw [unescL_up e4]; exact h
          · rename_i u e4; rw [unescL_up e4]; exact h
theorem unescL_le {n l} {q : Option (List Nat)} (h : unescL n l = some q) : ∀ k, unescL (n + k) l = some q
  | 0 => h
  | k + 1 => unescL_up (unescL_le h k)
theorem unescL_ref {d r : List Nat} {c : Str} {q : Option (List Nat)} {n : Nat} (hd : 59 ∉ d) (hs : signF ⟨d.toArray⟩ = some (some c)) (h : unescL n r = some q) : unescL (n + 1) (38 :: (d ++ 59 :: r)) = some (q.map (c.cps.toList ++ ·)) := by
  rw [unescL_eq, cut_hit]
  dsimp only
  rw [cut_mid _ hd]
  dsimp only
  rw [hs]
  dsimp only
  rw [h]
  cases q <;> rfl
theorem signF_ok {w c : Str} (h : signF w = some (some c)) : ∀ a ∈ c.cps.toList, a < 0x110000 := by
  have hn : ∀ d, named w = some d → ∀ a ∈ d.cps.toList, a < 0x110000 := by
    intro d hd
    unfold named at hd
    repeat (split at hd; (cases hd; decide))
    cases hd
  unfold signF at h
  split at h
  · rename_i d hd
    have := Option.some.inj (Option.some.inj h)
    subst this
    exact hn _ hd
  · dsimp only at h
    generalize decide (Txt.slice w none (some 2) = Str.ofString "#x") = hex at h
    generalize Txt.slice w (some (if hex = true then 2 else 1)) none = dg at h
    generalize intBaseF (if hex = true then 16 else 10) dg = ib at h
    split at h
    · cases h
    split at h
    · cases h
    split at h
    · cases h
    split at h
    · cases h
    split at h
    · cases h
    · split at h
      · rename_i hc
        have := Option.some.inj (Option.some.inj h)
        subst this
        intro a ha
        simp only [List.mem_cons, List.not_mem_nil, or_false] at ha
        omega
      · cases h
/-- a reference that reads as the sign c -/
def okW (c wr : Str) : Bool := match wr.cps.toList with
  | 38 :: r => (cut 59 r).2 == some [] && signF ⟨(cut 59 r).1.toArray⟩ == some (some c) && r.all (fun a => a != 34 && a != 39 && decide (a < 0x110000)) && decide (r.length < 20) && decide (c.length ≤ 1)
  | _ => false
/-- what is written, without its references, is what is meant; i: how many parts -/
structure Goes (i : Nat) (m wr : Str) : Prop where
  un : ∀ n r q, unescL n r = some q → unescL (n + i) (wr.cps.toList ++ r) = some (q.map (m.cps.toList ++ ·))
  okc : ∀ a ∈ wr.cps.toList, a ≠ 34 ∧ a ≠ 39 ∧ a < 0x110000
  lm : m.length ≤ 2 * i
  lw : wr.length ≤ 20 * i
  ge : i ≤ wr.length
  mok : ∀ a ∈ m.cps.toList, a < 0x110000
theorem app_list (x y : Str) : (x ++ y).cps.toList = x.cps.toList ++ y.cps.toList := by
  show (x.cps ++ y.cps).toList = _
  simp
theorem app_len (x y : Str) : (x ++ y).length = x.length + y.length := by
  show (x.cps ++ y.cps).size = _
  simp [Str.length]
theorem Goes.nil : Goes 0 (Str.ofString "") (Str.ofString "") := by
  have e : (Str.ofString "").cps.toList = [] := by decide
  exact ⟨by intro n r q h; rw [e]; cases q <;> exact h, by rw [e]; simp, by decide, by decide, by decide, by rw [e]; simp⟩
theorem Goes.plain {i : Nat} {m wr p : Str} (h : Goes i m wr) (hp : p ∈ (["x", ";", " y", "#", "="] : List Str)) : Goes (i + 1) (m ++ p) (wr ++ p) := by
  have hp' : 38 ∉ p.cps.toList ∧ (∀ a ∈ p.cps.toList, a ≠ 34 ∧ a ≠ 39 ∧ a < 0x110000) ∧ p.length ≤ 2 ∧ 1 ≤ p.length := by
    simp only [List.mem_cons, List.not_mem_nil, or_false] at hp
    rcases hp with rfl | rfl | rfl | rfl | rfl <;> decide
  refine ⟨?_, ?_, by rw [app_len]; have := h.lm; omega, by rw [app_len]; have := h.lw; omega, by rw [app_len]; have := h.ge; omega, ?_⟩
  · intro n r q hq
    rw [app_list, app_list, List.append_assoc]
    have h1 := h.un _ _ _ (unescL_plain (p := p.cps.toList) hp'.1 hq)
    have h2 := unescL_up h1
    rw [show n + (i + 1) = n + i + 1 by omega, h2]
    cases q <;> simp
  · rw [app_list]
    intro a ha
    rcases List.mem_append.mp ha with ha | ha
    · exact h.okc a ha
    · exact hp'.2.1 a ha
  · rw [app_list]
    intro a ha
    rcases List.mem_append.mp ha with ha | ha
    · exact h.mok a ha
    · exact (hp'.2.1 a ha).2.2
theorem Goes.ref {i : Nat} {m wr c w2 : Str} (h : Goes i m wr) (hw : okW c w2 = true) : Goes (i + 1) (m ++ c) (wr ++ w2) := by
  unfold okW at hw
  split at hw
  · rename_i r hr
    simp only [Bool.and_eq_true, decide_eq_true_eq, beq_iff_eq, List.all_eq_true, bne_iff_ne, ne_eq] at hw
    obtain ⟨⟨⟨⟨h1, h2⟩, h3⟩, h4⟩, h5⟩ := hw
    have hlen : w2.length = r.length + 1 := by
      have := congrArg List.length hr
      simpa [Str.length] using this
    refine ⟨?_, ?_, by rw [app_len]; have := h.lm; omega, by rw [app_len]; have := h.lw; omega, by rw [app_len]; have := h.ge; omega, ?_⟩
    · intro n r' q hq
      rcases cut_spec 59 r with ⟨e1, _, _⟩ | ⟨r2, e1, e2, e3⟩
      · rw [h1] at e1; cases e1
      · rw [h1] at e1
        cases e1
        have h6 := h.un _ _ _ (unescL_ref e3 h2 hq)
        rw [app_list, app_list, List.append_assoc, hr, show n + (i + 1) = n + 1 + i by omega]
        have e5 : 38 :: ((cut 59 r).1 ++ 59 :: r') = 38 :: r ++ r' := by
          conv => rhs; rw [e2]
          simp
        rw [← e5, h6]
        cases q <;> simp
    · rw [app_list, hr]
      intro a ha
      rcases List.mem_append.mp ha with ha | ha
      · exact h.okc a ha
      · rcases List.mem_cons.mp ha with rfl | ha
        · decide
        · exact ⟨(h3 a ha).1.1, (h3 a ha).1.2, (h3 a ha).2⟩
    · rw [app_list]
      intro a ha
      rcases List.mem_append.mp ha with ha | ha
      · exact h.mok a ha
      · exact signF_ok h2 a ha
  · cases hw
theorem Goes.all {i : Nat} {m wr : Str} (h : Goes i m wr) {n : Nat} (hn : i ≤ n) : unescL (n + 1) wr.cps.toList = some (some m.cps.toList) := by
  have h1 := h.un 1 [] (some []) rfl
  have h2 := unescL_le h1 (n - i)
  rw [List.append_nil, show 1 + i + (n - i) = n + 1 by omega] at h2
  simpa using h2
theorem Goes.bad {i : Nat} {m wr b : Str} (h : Goes i m wr) {n : Nat} (hb : unescL 2 b.cps.toList = some none) (hn : i + 2 ≤ n) : unescL n (wr ++ b).cps.toList = some none := by
  have h2 := unescL_le (h.un 2 _ _ hb) (n - 2 - i)
  rw [show 2 + i + (n - 2 - i) = n by omega] at h2
  rw [app_list]
  exact h2
theorem bad_all {b : Str} (h : b ∈ (["&lt", "&", "&;", "&q;", "&#x;"] : List Str)) : unescL 2 b.cps.toList = some none := by
  simp only [List.mem_cons, List.not_mem_nil, or_false] at h
  rcases h with rfl | rfl | rfl | rfl | rfl <;> decide +kernel
theorem str_eta (x : Str) : (⟨x.cps.toList.toArray⟩ : Str) = x := by cases x; simp
end Mine
end
section
open PySem PySem.W PySem.Calls PySem.Spec PyProof.Rows
set_option Elab.async false
set_option maxRecDepth 100000
namespace Mine
theorem add_len {prog : Program} {w : World} {A : Around} {E : Value → Shared → Prop} {s : Shared} {x y : PySem.Str} {t u : Tok} {Q : Value → Shared → Prop} (hs : x.length + y.length ≤ 16777216) (h : ∀ t' k, (x ++ y).length = x.length + y.length → Q (.str (x ++ y) t') { s with toks := k }) : wpAny (model prog w) A (binaryOp .Add (.str x t) (.str y u)) Q E s :=
  KXadd.add (Nat.le_refl _) (Nat.le_refl _) hs fun t' k hl => h t' k (Nat.le_antisymm hl.2 hl.1)
end Mine
end
section
open PySem PySem.W PySem.Calls PySem.Spec PyProof.Rows
set_option Elab.async false
set_option maxRecDepth 100000
namespace Mine
theorem okW_len {c wr : Str} (h : okW c wr = true) : c.length ≤ 1 ∧ wr.length ≤ 20 := by
  unfold okW at h
  split at h
  · rename_i r hr
    simp only [Bool.and_eq_true, decide_eq_true_eq] at h
    have hlen : wr.length = r.length + 1 := by
      have := congrArg List.length hr
      simpa [Str.length] using this
    exact ⟨h.2, by omega⟩
  · cases h
theorem plain_len {c : Str} (h : c ∈ (["x", ";", " y", "#", "="] : List Str)) : c.length ≤ 2 := by
  simp only [List.mem_cons, List.not_mem_nil, or_false] at h
  rcases h with rfl | rfl | rfl | rfl | rfl <;> decide
theorem news_skip {h₀ h : Heap} {L : Addr} {a b : Addr × Obj} {r : Led} (N : News h₀ L h (a :: b :: r)) : News h₀ L h (a :: r) := cb_drop N (by
  intro p hp
  rcases List.mem_cons.mp hp with rfl | hp
  · exact .head _
  · exact .tail _ (.tail _ hp))
/-- the state of the loop of _law_text -/
structure XS where
  o : Obj
  m : Str
  wr : Str
  t1 : Tok
  t2 : Tok
end Mine
end
open PySem PySem.W PySem.Calls PySem.Spec PyProof.Rows
local macro_rules | `(tactic| k_all) => `(tactic| exact Mine.Old.ne (by assumption) (by omega))
local macro_rules | `(tactic| k_all) => `(tactic| assumption)
local macro_rules | `(tactic| k_room) => `(tactic| ((try simp only [depth_under_make, depth_under_kw, depth_in1, depth_deeper, depth_caller]); (try dsimp only [ktrTop]); omega))
section
open PySem PySem.W PySem.Calls PySem.Spec PyProof.Rows
set_option Elab.async false
set_option maxRecDepth 100000
namespace Mine
abbrev srcO (a b : Int) (ta tb : Tok) (n : Nat) : Obj := W.listOf #[.int a ta, .int b tb] n
/-- the ledger's entry of a source -/
def IsSrc (o : Obj) : Prop := ∃ (a b : Int) (ta tb : Tok) (n : Nat), o = srcO a b ta tb n ∧ 0 ≤ a ∧ 0 ≤ b ∧ b < 2147483647
theorem sqOk (a b : Int) : IntMulOk ([a, b.fmod 2147483647].getD (Int.toNat 1) 0) ([a, b.fmod 2147483647].getD (Int.toNat 1) 0) := by
  show IntMulOk (b.fmod 2147483647) (b.fmod 2147483647)
  mul_fits
local macro_rules | `(tactic| mul_fits) => `(tactic| exact sqOk _ _)
theorem fmod_rng (x : Int) {k : Int} (hk : 1 ≤ k) : 0 ≤ x.fmod k ∧ x.fmod k < k := ⟨Int.fmod_nonneg_of_pos x (by omega), Int.fmod_lt_of_pos x (by omega)⟩

set_option maxHeartbeats 4000000 in
theorem take_c (w : World) (p : Program) (loose : List Str) (mean : ExcName → Option Value) (mg mb : Str → Option Value) (rest : Led) (src : Addr) (o : Obj) (ho : IsSrc o) (top : Int) (tt : Tok) (hr : ∀ p ∈ rest, p.1 ≠ src) (ht : 1 ≤ top) (ht2 : top ≤ 100) :
    Callee w p loose mean mg mb ((src, o) :: rest) 1 (.ref 178) [.ref src, .int top tt]
      (fun v n => ∃ d t o', v = .int d t ∧ 0 ≤ d ∧ d < top ∧ IsSrc o' ∧ n = (src, o') :: rest) (fun n => False) := by
  obtain ⟨a, b, ta, tb, n, rfl, ha, hb, hb2⟩ := ho
  unfold Callee PR
  k_fill
  intro dp un gd cn cs fa ccd cl outer A₀ base h₀ L m s Q E B F X N T hk hdp hun hret hraise
  refine wpAny_call ?_

  k_dflt cell_enter
  k_steps
  · refine hret _ _ _ _ (by k_asm) (by k_asm) ⟨_, _, _, rfl, ?_, ?_, ⟨_, _, _, _, _, rfl, ?_, hb, hb2⟩, rfl⟩
    · exact (fmod_rng _ ht).1
    · exact (fmod_rng _ ht).2
    · exact Int.fdiv_nonneg ha (by omega)
  · refine hret _ _ _ _ (by k_asm) (by k_asm) ⟨_, _, _, rfl, ?_, ?_, ⟨_, _, _, _, _, rfl, ?_, ?_, ?_⟩, rfl⟩
    · exact (fmod_rng _ ht).1
    · exact (fmod_rng _ ht).2
    · exact ha
    · exact (fmod_rng _ (by omega)).1
    · exact (fmod_rng _ (by omega)).2
end Mine
end
section
open PySem PySem.W PySem.Calls PySem.Spec PyProof.Rows PyProof.Rows.LCg
set_option Elab.async false
set_option maxRecDepth 100000
namespace Mine
section
variable {prog : Program} {w : World} {A : Around} {h₀ : Heap} {L : Addr} {m : Str → Option Value} {env : Env} {s : Shared}
/-- a comprehension's turns by an invariant over the ledger -/
theorem comp_inv {elt : PySem.Expr} {x : Str} {scope : Scope} {cl : List (Str × Addr)} {S : Led → Prop} {P : Nat → Value → Prop} {Fin : List Value → Led → Prop} {n : Nat} {news : Led} (Inv : Nat → List Value → Led → Prop)
    (turn : ∀ i ys news, i < n → Inv i ys news → ∀ v I oI C oC D m₂ h tk (E' Q' : Value → Shared → Prop), P i v → NsObj oC m₂ → m₂ x = some v → Fr h₀ L h m → News h₀ L h ((I, oI) :: (C, oC) :: (D, lst ys) :: news) → Off3 I C D news → ((@Ne Nat I C) ∧ (@Ne Nat I D) ∧ (@Ne Nat C D)) →
      (∀ y h' tk' news', Fr h₀ L h' m → News h₀ L h' ((I, oI) :: (C, oC) :: (D, lst ys) :: news') → Off3 I C D news' → S news' → Inv (i + 1) (ys ++ [y]) news' → Q' y { s with heap := h', toks := tk' }) →
      wpAny (model prog w) A (eval elt (compEnvC scope cl C env)) Q' E' { s with heap := h, toks := tk })
    (fin : ∀ ys news, Inv n ys news → Fin ys news) (h0 : Inv 0 [] news) : CompRest prog w A h₀ L m env elt x scope cl s S P Fin n 0 [] news := by
  have go : ∀ k i ys news, i + k = n → Inv i ys news → CompRest prog w A h₀ L m env elt x scope cl s S P Fin k i ys news := by
    intro k
    induction k with
    | zero =>
      intro i ys news hi h
      refine CompRest.zero (fin _ _ ?_)
      rw [← hi]; exact h
    | succ k ih =>
      intro i ys news hi hI
      refine CompRest.succ ?_
      intro v I oI C oC D m₂ h tk E' hP hC hx F N off ne
      refine turn i ys news (by omega) hI v I oI C oC D m₂ h tk E' _ hP hC hx F N off ne ?_
      intro y h' tk' news' F' N' off' hS hI'
      exact CompEnd.intro F' N' news' (fun _ q => q) off' hS (ih (i + 1) _ _ (by omega) hI')
  exact go n 0 [] news (by omega) h0
end
abbrev four : List Str := [" ", "\n", "\t", "\r"]
theorem four_len {c : Str} (h : c ∈ four) : c.length = 1 := by
  simp only [four, List.mem_cons, List.not_mem_nil, or_false] at h
  rcases h with rfl | rfl | rfl | rfl <;> decide
theorem four_bl {c : Str} (h : c ∈ four) : ∀ a ∈ c.cps.toList, isBl a = true := by
  simp only [four, List.mem_cons, List.not_mem_nil, or_false] at h
  rcases h with rfl | rfl | rfl | rfl <;> simp only [isBl, inC_eq] <;> decide
theorem flat_four : ∀ {ds : List Str}, (∀ d ∈ ds, d ∈ four) → (∀ a ∈ flat ds, isBl a = true) ∧ (flat ds).length = ds.length
  | [], _ => ⟨by simp [flat], rfl⟩
  | d :: ds, h => by
    have ih := flat_four (ds := ds) fun e he => h e (List.mem_cons_of_mem _ he)
    have h1 := h d List.mem_cons_self
    have e : flat (d :: ds) = d.cps.toList ++ flat ds := by simp [flat]
    rw [e]
    refine ⟨fun a ha => ?_, ?_⟩
    · rcases List.mem_append.mp ha with ha | ha
      · exact four_bl h1 a ha
      · exact ih.1 a ha
    · rw [List.length_append, ih.2, List.length_cons]
      have := four_len h1
      simp only [Str.length] at this
      rw [Array.length_toList]; omega
/-- a drawn text of blanks -/
structure Blanks (b : Int) (x : Str) : Prop where
  bl : ∀ a ∈ x.cps.toList, isBl a = true
  lo : b ≤ (x.length : Int)
  hi : x.length ≤ 2
theorem blanks_of {b : Int} {ds : List Str} (h : ∀ d ∈ ds, d ∈ four) (h0 : b ≤ (ds.length : Int)) (h1 : ds.length ≤ 2) : Blanks b ⟨(flat ds).toArray⟩ := by
  have := flat_four h
  refine ⟨?_, ?_, ?_⟩
  · simpa using this.1
  · simp only [Str.length, List.size_toArray, this.2]; exact h0
  · simp only [Str.length, List.size_toArray, this.2]; exact h1
def BlPost (b : Int) (src : Nat) (rest : Led) (v : Value) (n : Led) : Prop := ∃ x t o', v = .str x t ∧ Blanks b x ∧ IsSrc o' ∧ n = (src, o') :: rest
theorem bl_post {b : Int} {src : Nat} {rest : Led} {x : Str} {t : Tok} {o' : Obj} (h : Blanks b x) (hs : IsSrc o') : BlPost b src rest (.str x t) ((src, o') :: rest) := ⟨_, _, _, rfl, h, hs, rfl⟩
end Mine
end
section
open PySem PySem.W PySem.Calls PySem.Spec PyProof.Rows
set_option Elab.async false
set_option maxRecDepth 100000
namespace Mine
local macro_rules | `(tactic| k_mem) => `(tactic| assumption)
theorem news_list {h₀ h : Heap} {L a : Addr} {news : Led} {ys : Array Value} {n : Nat} (N : News h₀ L h news) (hm : (a, W.listOf ys n) ∈ news) : h.IsList a ys := ⟨_, N.get hm, rfl, n, rfl⟩
theorem pick_str {ys : Array Value} {ds : List Str} {d : Int} (h : StrsAre ys.toList ds) (h0 : 0 ≤ d) (h1 : d < (ys.size : Int)) : ∃ c t, ys[d.toNat]? = some (.str c t) ∧ c ∈ ds := by
  have hl := h.len_eq
  rw [Array.length_toList] at hl
  have hj : d.toNat < ds.length := by omega
  obtain ⟨t, ht⟩ := h.at (List.getElem?_eq_getElem hj)
  exact ⟨_, t, by rw [← ht, Array.getElem?_toList], List.getElem_mem hj⟩

set_option maxHeartbeats 4000000 in
theorem one_c (w : World) (p : Program) (loose : List Str) (mean : ExcName → Option Value) (mg mb : Str → Option Value) (rest : Led) (src : Addr) (o : Obj) (ho : IsSrc o) (ti : Addr) (ys : Array Value) (m9 : Nat) (ds : List Str) (hr : ∀ p ∈ rest, p.1 ≠ src) (hti : (ti, W.listOf ys m9) ∈ rest) (hds : StrsAre ys.toList ds) (hd1 : 1 ≤ ys.size) (hd2 : ys.size ≤ 100) :
    Callee w p loose mean mg mb ((src, o) :: rest) 3 (.ref 185) [.ref src, .ref ti]
      (fun v n => ∃ c t o', v = .str c t ∧ c ∈ ds ∧ IsSrc o' ∧ n = (src, o') :: rest) (fun n => False) := by
  w_top off
  k_with_none
  k_with "leaving ref" => (k_here; (with_reducible rename RaisedS _ _ _ _ _ _ _ _ _ => rsX); k_dflt (refine' leave_onS ?k1 ?k2 rsX ?k4 ?_; (case k2 => assumption); (case k1 => assumption); (case k4 => assumption); k_whole; intro h' S' R' U'; (try dsimp only at S' R' U' ⊢)))
  k_with "exec Raise some none" => (k_here; (with_reducible show wpAny _ _ (exec (Stmt.Raise (some (PySem.Expr.Call (PySem.Expr.Name ("SheetFault" : Str) _) _ _ _)) none _) _) _ _ _); k_dflt (refine fault_raise (by rfl) ?_))
  k_with "call ref" => (k_here; (with_reducible show wpAny _ _ (call (Value.ref 44) [_]) _ _ _); k_dflt (refine' fault_call ?k1 ?k2 ?k3 ?k4 ?k5 ?_; (case k1 => k_asm); (case k2 => k_asm); (case k3 => k_asm); (case k4 => k_is); (case k5 => k_is); k_whole; intro e' t' h' F' N' l1 l2; (try (first | have old9 := Old.mk l1.2.2.2.2.2.2 | have old9 := Old.mk l1.2.2.2.2.2 | have old9 := Old.mk l1.2.2.2.2 | have old9 := Old.mk l1.2.2.2 | have old9 := Old.mk l1.2.2 | have old9 := Old.mk l1.2 | have old9 := Old.mk l1)); (try k_lt l1); (try k_lt2 l2); k_enter))
  k_with "setAttr ref" => (k_here; k_dflt (refine' fault_store ?k1 ?k2 ?k3 ?k4 ?k5 ?k6 ?_; (case k1 => k_asm); (case k2 => k_asm); (case k3 => k_asm); (case k4 => k_is); (case k5 => k_is); (case k6 => k_all); k_whole; intro d' h' tk' F' N'))
  k_with "FaultEnd" => (k_dflt (refine' fault_end ?k1 ?k2 ?k3 ?k4 ?_; (case k1 => k_asm); (case k2 => k_asm); (case k3 => k_asm); (case k4 => exact List.Mem.head _)))
  k_with "leaving ref" => (k_here; k_dflt (refine' fault_leave ?k1 ?k2 ?k3 ?k4 ?k5 ?k6 ?k7 ?_; (case k1 => k_asm); (case k2 => k_asm); (case k3 => k_asm); (case k4 => k_all); (case k5 => k_all); (case k6 => exact rfl); (case k7 => exact rfl); k_whole; intro h' R' R2' U'; (try dsimp only at R' R2' U' ⊢)))
  k_with "exec While" => (k_here; refine stopW ?_)
  k_with "exec While Compare" => (k_here; refine stopW ?_)
  k_with "exec While BoolOp" => (k_here; refine stopW ?_)
  k_with "last exec While" => (k_here; refine stopW ?_)
  k_with "last exec While Compare" => (k_here; refine stopW ?_)
  k_with "call ref" => (k_here; (with_reducible show wpAny _ _ (call (Value.ref 178) [_, _]) _ _ _); k_dflt (refine' Callee.use (take_c _ _ _ _ _ _ _ _ _ ?us _ _ ?ur ?ua ?ub) ?u1 ?u2 ?u3 ?u4 ?u5 ?u6 ?u7 ?u8 ?_ ?_; (case u1 => k_asm); (case u2 => k_asm); (case u3 => k_asm); (case u4 => k_asm); (case u5 => k_asm); (case u6 => first | exact rfl | assumption); (case u7 => ktr_room); (case u8 => ktr_units); (case us => with_reducible assumption); (case ur => first | with_reducible assumption | k_all); (case ua => omega); (case ub => omega)); rotate_left 1; intro e9 t9 vs9 g9 h9 tk9 n9 P9 F9 R9 K9 U9; exact P9.elim; intro v9 h9 tk9 n9 F9 N9 P9; obtain ⟨d9, t9, o9, q1, hlo9, hhi9, hs9, q2⟩ := P9; subst q1; subst q2; (try dsimp only); (try k_fold))
  k_with "call builtin:len" => (k_here; (with_reducible show wpAny _ _ (call (Value.builtin "len") [Value.ref _]) _ _ _); k_dflt (refine call_len_list (news_list (by k_asm) (List.mem_cons_of_mem _ (by with_reducible assumption))) (by omega) ?_))
  k_with "last subscriptTail" => (k_here; (with_reducible show wpAny _ _ (subscriptTail _ _ (Value.ref _) (Value.int _ _)) _ _ _); obtain ⟨c9, t8, hc9, hm9⟩ := pick_str (by with_reducible assumption) (by with_reducible assumption) (by with_reducible assumption); k_dflt (refine item_list (news_list (by k_asm) (List.mem_cons_of_mem _ (by with_reducible assumption))) (by with_reducible assumption) (by omega) hc9 ?_))
  unfold Callee PR
  k_fill
  intro dp un gd cn cs fa ccd cl outer A₀ base h₀ L m s Q E B F X N T hk hdp hun hret hraise
  refine wpAny_call ?_

  k_dflt cell_enter
  k_steps
  exact hret _ _ _ _ (by k_asm) (by k_asm) ⟨_, _, _, rfl, by with_reducible assumption, by with_reducible assumption, rfl⟩
end Mine
end
section
open PySem PySem.W PySem.Calls PySem.Spec PyProof.Rows
set_option Elab.async false
set_option maxRecDepth 100000
namespace Mine
theorem Old.of' (L : Nat) : ∀ (l : Led), AllLt L l → Old L l
  | [], _ => ⟨fun _ q => nomatch q⟩
  | _ :: _, h => ⟨fun q hq => by rcases List.mem_cons.mp hq with rfl | hq; exact h.1; exact (Old.of' L _ h.2).lt q hq⟩

/-- one turn of _law_hex -/
def hexD (n : Int) (acc : Str) : Str := Txt.item (Str.ofString "0123456789abcdef") (n.fmod 16) ++ acc
/-- the turns of _law_hex -/
def hexI (n : Int) : Nat → Int × Str
  | 0 => (n, Str.ofString "")
  | k + 1 => ((hexI n k).1.fdiv 16, hexD (hexI n k).1 (hexI n k).2)
/-- what _law_hex writes -/
def hexF (n : Int) : Str := Txt.lstripChars (hexI n 6).2 (Str.ofString "0")
structure HX where
  n : Int
  acc : Str
  t1 : Tok
  t2 : Tok
structure HInv (n : Int) (i : Nat) (c : HX) : Prop where
  en : c.n = (hexI n i).1
  ea : c.acc = (hexI n i).2
  lo : 0 ≤ c.n
  hi : c.n < 1114112
  len : c.acc.length ≤ i
theorem HInv.step {n : Int} {i : Nat} {m : Int} {a : Str} {t1 t2 t3 t4 : Tok} (h : HInv n i ⟨m, a, t1, t2⟩) (hl : (Txt.item (Str.ofString "0123456789abcdef") (m.fmod 16)).length ≤ 1) :
    HInv n (i + 1) ⟨m.fdiv 16, Txt.item (Str.ofString "0123456789abcdef") (m.fmod 16) ++ a, t3, t4⟩ := by
  obtain ⟨h1, h2, h3, h4, h5⟩ := h
  dsimp only at h1 h2 h3 h4 h5
  have h6 := Int.fdiv_nonneg h3 (by decide : (0 : Int) ≤ 16)
  have h7 := Int.mul_fdiv_add_fmod m 16
  have h8 := fmod_rng m (k := 16) (by decide)
  refine ⟨by rw [h1]; rfl, by rw [h1, h2]; rfl, h6, by dsimp only; omega, by dsimp only; rw [app_len]; omega⟩
set_option maxHeartbeats 4000000 in
theorem hex_c (w : World) (p : Program) (loose : List Str) (mean : ExcName → Option Value) (mg mb : Str → Option Value) (news : Led) (n : Int) (tn : Tok) (hn : 0 ≤ n) (hn2 : n < 1114112) :
    Callee w p loose mean mg mb news 3 (.ref 199) [.int n tn]
      (fun v l => ∃ t, v = .str (hexF n) t ∧ (hexF n).length ≤ 6 ∧ l = news) (fun n => False) := by
  w_top off
  k_with_none
  k_with "leaving ref" => (k_here; (with_reducible rename RaisedS _ _ _ _ _ _ _ _ _ => rsX); k_dflt (refine' leave_onS ?k1 ?k2 rsX ?k4 ?_; (case k2 => assumption); (case k1 => assumption); (case k4 => assumption); k_whole; intro h' S' R' U'; (try dsimp only at S' R' U' ⊢)))
  k_with "exec Raise some none" => (k_here; (with_reducible show wpAny _ _ (exec (Stmt.Raise (some (PySem.Expr.Call (PySem.Expr.Name ("SheetFault" : Str) _) _ _ _)) none _) _) _ _ _); k_dflt (refine fault_raise (by rfl) ?_))
  k_with "call ref" => (k_here; (with_reducible show wpAny _ _ (call (Value.ref 44) [_]) _ _ _); k_dflt (refine' fault_call ?k1 ?k2 ?k3 ?k4 ?k5 ?_; (case k1 => k_asm); (case k2 => k_asm); (case k3 => k_asm); (case k4 => k_is); (case k5 => k_is); k_whole; intro e' t' h' F' N' l1 l2; (try (first | have old9 := Old.mk l1.2.2.2.2.2.2 | have old9 := Old.mk l1.2.2.2.2.2 | have old9 := Old.mk l1.2.2.2.2 | have old9 := Old.mk l1.2.2.2 | have old9 := Old.mk l1.2.2 | have old9 := Old.mk l1.2 | have old9 := Old.mk l1)); (try k_lt l1); (try k_lt2 l2); k_enter))
  k_with "setAttr ref" => (k_here; k_dflt (refine' fault_store ?k1 ?k2 ?k3 ?k4 ?k5 ?k6 ?_; (case k1 => k_asm); (case k2 => k_asm); (case k3 => k_asm); (case k4 => k_is); (case k5 => k_is); (case k6 => k_all); k_whole; intro d' h' tk' F' N'))
  k_with "FaultEnd" => (k_dflt (refine' fault_end ?k1 ?k2 ?k3 ?k4 ?_; (case k1 => k_asm); (case k2 => k_asm); (case k3 => k_asm); (case k4 => exact List.Mem.head _)))
  k_with "leaving ref" => (k_here; k_dflt (refine' fault_leave ?k1 ?k2 ?k3 ?k4 ?k5 ?k6 ?k7 ?_; (case k1 => k_asm); (case k2 => k_asm); (case k3 => k_asm); (case k4 => k_all); (case k5 => k_all); (case k6 => exact rfl); (case k7 => exact rfl); k_whole; intro h' R' R2' U'; (try dsimp only at R' R2' U' ⊢)))
  k_with "exec While" => (k_here; refine stopW ?_)
  k_with "exec While Compare" => (k_here; refine stopW ?_)
  k_with "exec While BoolOp" => (k_here; refine stopW ?_)
  k_with "last exec While" => (k_here; refine stopW ?_)
  k_with "last exec While Compare" => (k_here; refine stopW ?_)
  k_with "exec For Name Call cons nil" => (k_here; (rename Fr _ _ _ _ => lF'); (with_unfolding_all refine' For_invVF lF' ?k1 ?k2 ?_; (case k1 => exact rfl); (case k2 => exact rfl); k_whole))
  k_with "pyIter ref" => (k_here; refine stopW ?_)
  k_with "InvEndN" => (refine stopW ?_)
  unfold Callee PR
  k_fill
  intro dp un gd cn cs fa ccd cl outer A₀ base h₀ L m s Q E B F X N T hk hdp hun hret hraise
  refine wpAny_call ?_

  k_dflt cell_enter
  have hlit0 : (Str.ofString "").length = 0 := by decide
  k_steps
  unfold Stop
  (rename Fr _ _ _ _ => F1); (rename News _ _ _ _ => N1)
  k_dflt (refine' kst_range (n := 6) (fun _ : HX => news) (fun c => [(Str.ofString "found", .str c.acc c.t1), (Str.ofString "number", .int c.n c.t2)]) (fun _ => True) [] (fun pre c => HInv n pre.length c) ⟨_, _, _, _⟩ (by rfl) (by with_reducible assumption) (by decide) (by decide) F1 N1 trivial ?kk ?kp ?turn ?done)
  case kk => kst_all
  case kp => exact ⟨rfl, rfl, hn, hn2, by show (Str.ofString "").length ≤ 0; omega⟩
  case turn =>
    rintro ⟨m1, a1, t1, t2⟩ pre k t u h tk own hk hlt hoff _ hI F3 N3
    dsimp only [kstB] at *
    have h1 := hI.lo
    have h2 := hI.hi
    have h3 := hI.len
    dsimp only at h1 h2 h3
    k_steps
    unfold Stop
    (rename Fr _ _ _ _ => F9); (rename News _ _ _ _ => N9)
    refine' kst_end ⟨_, _, _, _⟩ F9 N9 ?ha ?hb rfl trivial ?hk ?hd ?hg
    case hk => kst_all
    case ha => exact fun p hp => List.mem_append.mpr (.inl hp)
    case hb => exact fun p hp => List.mem_append.mpr (.inr hp)
    case hg => rw [List.length_append]; exact hI.step (by omega)
    case hd => kst_same
  case done =>
    rintro ⟨m1, a1, t1, t2⟩ u h tk _ hI F3 N3
    dsimp only [kstB] at *
    rw [rangeKs_length] at hI
    have h2 := hI.ea
    have h3 := hI.len
    dsimp only at h2 h3
    subst h2
    k_steps
    exact hret _ _ _ _ (by k_asm) (by k_asm) ⟨_, rfl, by unfold hexF; omega, rfl⟩
end Mine
end
section
open PySem PySem.W PySem.Calls PySem.Spec PyProof.Rows
set_option Elab.async false
set_option maxRecDepth 100000
namespace Mine
theorem one_of_ten {c : Str} (h : c ∈ (["a", "<", "&", "\"", "'", ">", ⟨#[233]⟩, ⟨#[8364]⟩, ⟨#[65536]⟩, ⟨#[1114111]⟩] : List Str)) : ∃ a, c = ⟨#[a]⟩ ∧ a ∈ [97, 60, 38, 34, 39, 62, 233, 8364, 65536, 1114111] := by
  simp only [List.mem_cons, List.not_mem_nil, or_false] at h
  rcases h with rfl | rfl | rfl | rfl | rfl | rfl | rfl | rfl | rfl | rfl
  · exact ⟨97, by decide, by decide⟩
  · exact ⟨60, by decide, by decide⟩
  · exact ⟨38, by decide, by decide⟩
  · exact ⟨34, by decide, by decide⟩
  · exact ⟨39, by decide, by decide⟩
  · exact ⟨62, by decide, by decide⟩
  · exact ⟨233, rfl, by decide⟩
  · exact ⟨8364, rfl, by decide⟩
  · exact ⟨65536, rfl, by decide⟩
  · exact ⟨1114111, rfl, by decide⟩
theorem ten_lt {a : Nat} (h : a ∈ [97, 60, 38, 34, 39, 62, 233, 8364, 65536, 1114111]) : a < 1114112 := by
  simp only [List.mem_cons, List.not_mem_nil, or_false] at h
  omega
theorem two_of {d : Int} (h0 : 0 ≤ d) (h1 : d < 2) : d = 0 ∨ d = 1 := by omega
theorem news_swap {h₀ h : Heap} {L : Addr} {a b : Addr × Obj} {r : Led} (N : News h₀ L h (a :: b :: r)) : News h₀ L h (b :: a :: r) := cb_drop N (by intro p hp; simp at hp ⊢; rcases hp with h | h | h <;> simp [h])
theorem ok_dec {a : Nat} {d : Int} (ha : a ∈ [97, 60, 38, 34, 39, 62, 233, 8364, 65536, 1114111]) (hd : d = 0 ∨ d = 1) : okW ⟨#[a]⟩ (Str.ofString "&#" ++ Txt.mul (Str.ofString "0") d ++ Str.ofString (toString (a : Int)) ++ Str.ofString ";") = true := by
  simp only [List.mem_cons, List.not_mem_nil, or_false] at ha
  rcases hd with rfl | rfl <;> rcases ha with rfl | rfl | rfl | rfl | rfl | rfl | rfl | rfl | rfl | rfl <;> decide +kernel
theorem ok_low {a : Nat} {d : Int} (ha : a ∈ [97, 60, 38, 34, 39, 62, 233, 8364, 65536, 1114111]) (hd : d = 0 ∨ d = 1) : okW ⟨#[a]⟩ (Str.ofString "&#x" ++ Txt.mul (Str.ofString "0") d ++ hexF (a : Int) ++ Str.ofString ";") = true := by
  simp only [List.mem_cons, List.not_mem_nil, or_false] at ha
  rcases hd with rfl | rfl <;> rcases ha with rfl | rfl | rfl | rfl | rfl | rfl | rfl | rfl | rfl | rfl <;> decide +kernel
theorem ok_up {a : Nat} {d : Int} (ha : a ∈ [97, 60, 38, 34, 39, 62, 233, 8364, 65536, 1114111]) (hd : d = 0 ∨ d = 1) : okW ⟨#[a]⟩ (Str.ofString "&#x" ++ Txt.mul (Str.ofString "0") d ++ Txt.upper (hexF (a : Int)) ++ Str.ofString ";") = true := by
  simp only [List.mem_cons, List.not_mem_nil, or_false] at ha
  rcases hd with rfl | rfl <;> rcases ha with rfl | rfl | rfl | rfl | rfl | rfl | rfl | rfl | rfl | rfl <;> decide +kernel
theorem ok_n1 : okW ⟨#[60]⟩ (Str.ofString "&" ++ Str.ofString "lt" ++ Str.ofString ";") = true := by decide +kernel
theorem ok_n2 : okW ⟨#[38]⟩ (Str.ofString "&" ++ Str.ofString "amp" ++ Str.ofString ";") = true := by decide +kernel
theorem ok_n3 : okW ⟨#[34]⟩ (Str.ofString "&" ++ Str.ofString "quot" ++ Str.ofString ";") = true := by decide +kernel
theorem ok_n4 : okW ⟨#[39]⟩ (Str.ofString "&" ++ Str.ofString "apos" ++ Str.ofString ";") = true := by decide +kernel
theorem ok_n5 : okW ⟨#[62]⟩ (Str.ofString "&" ++ Str.ofString "gt" ++ Str.ofString ";") = true := by decide +kernel
theorem sgn_news {h₀ h : Heap} {L : Addr} {t s a b : Addr × Obj} {r : Led} (N : News h₀ L h (t :: s :: a :: b :: r)) : News h₀ L h (t :: s :: r) := cb_drop N (by
  intro p hp
  rcases List.mem_cons.mp hp with rfl | hp
  · exact .head _
  · rcases List.mem_cons.mp hp with rfl | hp
    · exact .tail _ (.head _)
    · exact .tail _ (.tail _ (.tail _ (.tail _ hp))))
def SgnPost (src : Nat) (rest : Led) (v : Value) (n : Led) : Prop := ∃ T c wr t1 t2 o', v = .ref T ∧ okW c wr = true ∧ IsSrc o' ∧ n = (T, tupO [.str c t1, .str wr t2]) :: (src, o') :: rest
theorem sgn_post {src : Nat} {rest : Led} {T : Addr} {c wr : Str} {t1 t2 : Tok} {o' : Obj} (ok : okW c wr = true) (hs : IsSrc o') : SgnPost src rest (.ref T) ((T, tupO [.str c t1, .str wr t2]) :: (src, o') :: rest) := ⟨_, _, _, _, _, _, rfl, ok, hs, rfl⟩
theorem ne1 {a b : Nat} {x : Str} (hx : x = ⟨#[b]⟩) (h : a ≠ b) : ¬ (Spec.same (.str x) (.str ⟨#[a]⟩)) = true := by
  subst hx
  show ¬ ((⟨#[b]⟩ : Str) == ⟨#[a]⟩) = true
  rw [beq_iff_eq]
  intro e
  injection e with e
  simp at e
  exact h e.symm
theorem look5f {a : Nat} {k1 k2 k3 k4 k5 u1 u2 u3 u4 u5 : Tok} (h : ¬ (a = 60 ∨ a = 38 ∨ a = 34 ∨ a = 39 ∨ a = 62)) : (Spec.lookup (.str ⟨#[a]⟩) (strData [(.str "<" k1, .str "lt" u1), (.str "&" k2, .str "amp" u2), (.str "\"" k3, .str "quot" u3), (.str "'" k4, .str "apos" u4), (.str ">" k5, .str "gt" u5)])).isSome = false := by
  simp only [not_or] at h
  simp only [strData, Spec.lookup]
  rw [if_neg (ne1 (b := 60) (by decide) h.1), if_neg (ne1 (b := 38) (by decide) h.2.1), if_neg (ne1 (b := 34) (by decide) h.2.2.1), if_neg (ne1 (b := 39) (by decide) h.2.2.2.1), if_neg (ne1 (b := 62) (by decide) h.2.2.2.2)]
  rfl
theorem look5t {a : Nat} {k1 k2 k3 k4 k5 u1 u2 u3 u4 u5 : Tok} (h : (a = 60 ∨ a = 38 ∨ a = 34 ∨ a = 39 ∨ a = 62)) : (Spec.lookup (.str ⟨#[a]⟩) (strData [(.str "<" k1, .str "lt" u1), (.str "&" k2, .str "amp" u2), (.str "\"" k3, .str "quot" u3), (.str "'" k4, .str "apos" u4), (.str ">" k5, .str "gt" u5)])).isSome = true := by
  rcases h with rfl | rfl | rfl | rfl | rfl <;> rfl

set_option maxHeartbeats 4000000 in
theorem sgn_c (w : World) (p : Program) (loose : List Str) (mean : ExcName → Option Value) (mg mb : Str → Option Value) (rest : Led) (src : Nat) (o : Obj) (ho : IsSrc o) (hr : ∀ p ∈ rest, p.1 ≠ src) :
    Callee w p loose mean mg mb ((src, o) :: rest) 8 (.ref 192) [.ref src]
      (SgnPost src rest) (fun n => False) := by
  w_top off
  k_with_none
  k_with "leaving ref" => (k_here; (with_reducible rename RaisedS _ _ _ _ _ _ _ _ _ => rsX); k_dflt (refine' leave_onS ?k1 ?k2 rsX ?k4 ?_; (case k2 => assumption); (case k1 => assumption); (case k4 => assumption); k_whole; intro h' S' R' U'; (try dsimp only at S' R' U' ⊢)))
  k_with "exec Raise some none" => (k_here; (with_reducible show wpAny _ _ (exec (Stmt.Raise (some (PySem.Expr.Call (PySem.Expr.Name ("SheetFault" : Str) _) _ _ _)) none _) _) _ _ _); k_dflt (refine fault_raise (by rfl) ?_))
  k_with "call ref" => (k_here; (with_reducible show wpAny _ _ (call (Value.ref 44) [_]) _ _ _); k_dflt (refine' fault_call ?k1 ?k2 ?k3 ?k4 ?k5 ?_; (case k1 => k_asm); (case k2 => k_asm); (case k3 => k_asm); (case k4 => k_is); (case k5 => k_is); k_whole; intro e' t' h' F' N' l1 l2; (try (first | have old9 := Old.mk l1.2.2.2.2.2.2 | have old9 := Old.mk l1.2.2.2.2.2 | have old9 := Old.mk l1.2.2.2.2 | have old9 := Old.mk l1.2.2.2 | have old9 := Old.mk l1.2.2 | have old9 := Old.mk l1.2 | have old9 := Old.mk l1)); (try k_lt l1); (try k_lt2 l2); k_enter))
  k_with "setAttr ref" => (k_here; k_dflt (refine' fault_store ?k1 ?k2 ?k3 ?k4 ?k5 ?k6 ?_; (case k1 => k_asm); (case k2 => k_asm); (case k3 => k_asm); (case k4 => k_is); (case k5 => k_is); (case k6 => k_all); k_whole; intro d' h' tk' F' N'))
  k_with "FaultEnd" => (k_dflt (refine' fault_end ?k1 ?k2 ?k3 ?k4 ?_; (case k1 => k_asm); (case k2 => k_asm); (case k3 => k_asm); (case k4 => exact List.Mem.head _)))
  k_with "leaving ref" => (k_here; k_dflt (refine' fault_leave ?k1 ?k2 ?k3 ?k4 ?k5 ?k6 ?k7 ?_; (case k1 => k_asm); (case k2 => k_asm); (case k3 => k_asm); (case k4 => k_all); (case k5 => k_all); (case k6 => exact rfl); (case k7 => exact rfl); k_whole; intro h' R' R2' U'; (try dsimp only at R' R2' U' ⊢)))
  k_with "exec While" => (k_here; refine stopW ?_)
  k_with "exec While Compare" => (k_here; refine stopW ?_)
  k_with "exec While BoolOp" => (k_here; refine stopW ?_)
  k_with "last exec While" => (k_here; refine stopW ?_)
  k_with "last exec While Compare" => (k_here; refine stopW ?_)
  k_with "call ref" => (k_here; (with_reducible show wpAny _ _ (call (Value.ref 178) [_, _]) _ _ _); k_dflt (refine' Callee.use (take_c _ _ _ _ _ _ _ _ _ ?us _ _ ?ur ?ua ?ub) ?u1 ?u2 ?u3 ?u4 ?u5 ?u6 ?u7 ?u8 ?_ ?_; (case u1 => k_asm); (case u2 => k_asm); (case u3 => k_asm); (case u4 => first | k_asm | exact news_swap (by k_asm)); (case u5 => k_asm); (case u6 => first | exact rfl | assumption); (case u7 => ktr_room); (case u8 => ktr_units); (case us => with_reducible assumption); (case ur => (first | with_reducible assumption | exact List.forall_mem_cons.mpr ⟨by k_ne, by (first | with_reducible assumption | exact List.forall_mem_cons.mpr ⟨by k_ne, by (first | with_reducible assumption | exact List.forall_mem_cons.mpr ⟨by k_ne, by (first | with_reducible assumption | exact List.forall_mem_cons.mpr ⟨by k_ne, by with_reducible assumption⟩)⟩)⟩)⟩)); (case ua => omega); (case ub => omega)); rotate_left 1; intro e9 t9 vs9 g9 h9 tk9 n9 P9 F9 R9 K9 U9; exact P9.elim; intro v9 h9 tk9 n9 F9 N9 P9; obtain ⟨d9, t9, o9, q1, hlo9, hhi9, hs9, q2⟩ := P9; subst q1; subst q2; (try dsimp only); (try k_fold))
  k_with "call ref" => (k_here; (with_reducible show wpAny _ _ (call (Value.ref 199) [_]) _ _ _); k_dflt (refine' Callee.use (hex_c _ _ _ _ _ _ _ _ _ ?ua ?ub) ?u1 ?u2 ?u3 ?u4 ?u5 ?u6 ?u7 ?u8 ?_ ?_; (case u1 => k_asm); (case u2 => k_asm); (case u3 => k_asm); (case u4 => k_asm); (case u5 => k_asm); (case u6 => first | exact rfl | assumption); (case u7 => ktr_room); (case u8 => ktr_units); (case ua => omega); (case ub => omega)); rotate_left 1; intro e9 t9 vs9 g9 h9 tk9 n9 P9 F9 R9 K9 U9; exact P9.elim; intro v9 h9 tk9 n9 F9 N9 P9; obtain ⟨t9, q1, hxl9, q2⟩ := P9; subst q1; subst q2; (try dsimp only); (try k_fold))
  k_with "call ref" => (k_here; (with_reducible show wpAny _ _ (call (Value.ref 185) [_, _]) _ _ _); refine stopW ?_)
  k_with "call builtin:ord" => (k_here; (with_reducible show wpAny _ _ (call (Value.builtin "ord") [Value.str ⟨#[_]⟩ _]) _ _ _); (refine PyProof.P.ord_of_char ?_))
  k_with "compareOp In str ref" => (k_here; (with_reducible show wpAny _ _ (compareOp CmpOp.In (Value.str ⟨#[_]⟩ _) (Value.ref _)) _ _ _); (k_dflt (refine in_strTab (by k_tabat) ?_)); refine stopW ?_)
  k_with "binaryOp Add str str" => (k_here; (with_reducible show wpAny _ _ (binaryOp Operator.Add (Value.str _ _) (Value.str _ _)) _ _ _); (refine add_len ?hs9 ?_); (case hs9 => omega); intro _ _ hal9)
  k_with "call builtin:str.upper" => (k_here; (with_reducible show wpAny _ _ (call (Value.builtin "str.upper") [Value.str (hexF _) _]) _ _ _); (refine SCL.upper (by omega) ?_); intro hup9)
  unfold Callee PR
  k_fill
  intro dp un gd cn cs fa ccd cl outer A₀ base h₀ L m s Q E B F X N T hk hdp hun hret hraise
  refine wpAny_call ?_

  have hlit0 : (Str.ofString "&").length = 1 := by decide
  have hlit1 : (Str.ofString ";").length = 1 := by decide
  have hlit2 : (Str.ofString "&#").length = 2 := by decide
  have hlit3 : (Str.ofString "&#x").length = 3 := by decide
  have hlit4 : (Str.ofString "0").length = 1 := by decide
  k_dflt cell_enter
  k_steps
  unfold Stop
  have l8 := ‹src < _ ∧ AllLt _ rest›
  have old8 := Old.of' _ _ l8.2
  k_dflt (refine' Callee.use (one_c _ _ _ _ _ _ _ src o ho _ _ _ ["a", "<", "&", "\"", "'", ">", ⟨#[233]⟩, ⟨#[8364]⟩, ⟨#[65536]⟩, ⟨#[1114111]⟩] ?vr (List.Mem.head _) ?vs ?v1 ?v2) ?u1 ?u2 ?u3 ?u4 ?u5 ?u6 ?u7 ?u8 ?u9 ?u10)
  case u1 => k_asm
  case u2 => k_asm
  case u3 => k_asm
  case u4 => exact news_swap (by k_asm)
  case u5 => k_asm
  case u6 => first | exact rfl | assumption
  case u7 => ktr_room
  case u8 => ktr_units
  case vr => exact List.forall_mem_cons.mpr ⟨by k_ne, hr⟩
  case vs => repeat first | exact .nil | refine .cons _ _ ?_
  case v1 => exact Nat.le_of_ble_eq_true rfl
  case v2 => exact Nat.le_of_ble_eq_true rfl
  case u10 =>
    intro e9 t9 vs9 g9 h9 tk9 n9 P9 F9 R9 K9 U9
    (try dsimp only); (try k_fold)
    exact P9.elim
  case u9 =>
    intro v9 h9 tk9 n9 F9 N9 P9
    obtain ⟨c9, t9, o9, rfl, hc, hs9, rfl⟩ := P9
    obtain ⟨a, rfl, ha⟩ := one_of_ten hc
    have ha2 := ten_lt ha
    (try dsimp only); (try k_fold)
    k_steps
    · unfold Stop
      by_cases hn : a = 60 ∨ a = 38 ∨ a = 34 ∨ a = 39 ∨ a = 62
      · rw [look5t hn]
        rcases hn with rfl | rfl | rfl | rfl | rfl
        all_goals k_steps
        all_goals ((rename News _ _ _ _ => N9); exact hret _ _ _ _ (by k_asm) (sgn_news N9) (sgn_post (by with_reducible first | exact ok_n1 | exact ok_n2 | exact ok_n3 | exact ok_n4 | exact ok_n5) (by with_reducible assumption)))
      · rw [look5f hn]
        k_steps
        all_goals first | (exfalso; omega) | ((rename News _ _ _ _ => N9); exact hret _ _ _ _ (by k_asm) (sgn_news N9) (sgn_post (by first | with_reducible exact ok_dec ha (two_of (by with_reducible assumption) (by with_reducible assumption)) | with_reducible exact ok_up ha (two_of (by with_reducible assumption) (by with_reducible assumption)) | with_reducible exact ok_low ha (two_of (by with_reducible assumption) (by with_reducible assumption))) (by with_reducible assumption)))
    all_goals first | (exfalso; omega) | ((rename News _ _ _ _ => N9); exact hret _ _ _ _ (by k_asm) (sgn_news N9) (sgn_post (by first | with_reducible exact ok_dec ha (two_of (by with_reducible assumption) (by with_reducible assumption)) | with_reducible exact ok_up ha (two_of (by with_reducible assumption) (by with_reducible assumption)) | with_reducible exact ok_low ha (two_of (by with_reducible assumption) (by with_reducible assumption))) (by with_reducible assumption)))
end Mine
end
section
open PySem PySem.W PySem.Calls PySem.Spec PyProof.Rows
set_option Elab.async false
set_option maxRecDepth 100000
namespace Mine

theorem news_pull5 {h₀ h : Heap} {L : Addr} {a b c d e : Addr × Obj} {r : Led} (N : News h₀ L h (a :: b :: c :: d :: e :: r)) : News h₀ L h (e :: a :: b :: c :: d :: r) := cb_drop N (by intro p hp; simp at hp ⊢; rcases hp with h | h | h | h | h | h <;> simp [h])
theorem sub_bl2 {a b c : Addr × Obj} {r : Led} : ∀ p ∈ b :: r, p ∈ a :: b :: c :: r := by intro p hp; simp at hp ⊢; rcases hp with h | h <;> simp [h]
theorem sub_bl {a b c d e : Addr × Obj} {r : Led} : ∀ p ∈ b :: c :: d :: e :: r, p ∈ e :: a :: b :: c :: d :: r := by intro p hp; simp at hp ⊢; rcases hp with h | h | h | h | h <;> simp [h]
set_option maxHeartbeats 4000000 in
theorem blanks_c (w : World) (p : Program) (loose : List Str) (mean : ExcName → Option Value) (mg mb : Str → Option Value) (rest : Led) (src : Nat) (o : Obj) (ho : IsSrc o) (hr : ∀ p ∈ rest, p.1 ≠ src) (b : Int) (tb : Tok) (hb0 : 0 ≤ b) (hb1 : b ≤ 1) :
    Callee w p loose mean mg mb ((src, o) :: rest) 8 (.ref 211) [.ref src, .int b tb] (BlPost b src rest) (fun n => False) := by
  w_top off
  k_with_none
  k_with "leaving ref" => (k_here; (with_reducible rename RaisedS _ _ _ _ _ _ _ _ _ => rsX); k_dflt (refine' leave_onS ?k1 ?k2 rsX ?k4 ?_; (case k2 => assumption); (case k1 => assumption); (case k4 => assumption); k_whole; intro h' S' R' U'; (try dsimp only at S' R' U' ⊢)))
  k_with "exec Raise some none" => (k_here; (with_reducible show wpAny _ _ (exec (Stmt.Raise (some (PySem.Expr.Call (PySem.Expr.Name ("SheetFault" : Str) _) _ _ _)) none _) _) _ _ _); k_dflt (refine fault_raise (by rfl) ?_))
  k_with "call ref" => (k_here; (with_reducible show wpAny _ _ (call (Value.ref 44) [_]) _ _ _); k_dflt (refine' fault_call ?k1 ?k2 ?k3 ?k4 ?k5 ?_; (case k1 => k_asm); (case k2 => k_asm); (case k3 => k_asm); (case k4 => k_is); (case k5 => k_is); k_whole; intro e' t' h' F' N' l1 l2; (try (first | have old9 := Old.mk l1.2.2.2.2.2.2 | have old9 := Old.mk l1.2.2.2.2.2 | have old9 := Old.mk l1.2.2.2.2 | have old9 := Old.mk l1.2.2.2 | have old9 := Old.mk l1.2.2 | have old9 := Old.mk l1.2 | have old9 := Old.mk l1)); (try k_lt l1); (try k_lt2 l2); k_enter))
  k_with "setAttr ref" => (k_here; k_dflt (refine' fault_store ?k1 ?k2 ?k3 ?k4 ?k5 ?k6 ?_; (case k1 => k_asm); (case k2 => k_asm); (case k3 => k_asm); (case k4 => k_is); (case k5 => k_is); (case k6 => k_all); k_whole; intro d' h' tk' F' N'))
  k_with "FaultEnd" => (k_dflt (refine' fault_end ?k1 ?k2 ?k3 ?k4 ?_; (case k1 => k_asm); (case k2 => k_asm); (case k3 => k_asm); (case k4 => exact List.Mem.head _)))
  k_with "leaving ref" => (k_here; k_dflt (refine' fault_leave ?k1 ?k2 ?k3 ?k4 ?k5 ?k6 ?k7 ?_; (case k1 => k_asm); (case k2 => k_asm); (case k3 => k_asm); (case k4 => k_all); (case k5 => k_all); (case k6 => exact rfl); (case k7 => exact rfl); k_whole; intro h' R' R2' U'; (try dsimp only at R' R2' U' ⊢)))
  k_with "exec While" => (k_here; refine stopW ?_)
  k_with "exec While Compare" => (k_here; refine stopW ?_)
  k_with "exec While BoolOp" => (k_here; refine stopW ?_)
  k_with "last exec While" => (k_here; refine stopW ?_)
  k_with "last exec While Compare" => (k_here; refine stopW ?_)
  k_with "call ref" => (k_here; (with_reducible show wpAny _ _ (call (Value.ref 178) [_, _]) _ _ _); k_dflt (refine' Callee.use (take_c _ _ _ _ _ _ _ _ _ ?us _ _ ?ur ?ua ?ub) ?u1 ?u2 ?u3 ?u4 ?u5 ?u6 ?u7 ?u8 ?_ ?_; (case u1 => k_asm); (case u2 => k_asm); (case u3 => k_asm); (case u4 => first | k_asm | exact news_swap (by k_asm)); (case u5 => k_asm); (case u6 => first | exact rfl | assumption); (case u7 => ktr_room); (case u8 => ktr_units); (case us => with_reducible assumption); (case ur => (first | with_reducible assumption | exact List.forall_mem_cons.mpr ⟨by k_ne, by (first | with_reducible assumption | exact List.forall_mem_cons.mpr ⟨by k_ne, by (first | with_reducible assumption | exact List.forall_mem_cons.mpr ⟨by k_ne, by (first | with_reducible assumption | exact List.forall_mem_cons.mpr ⟨by k_ne, by with_reducible assumption⟩)⟩)⟩)⟩)); (case ua => omega); (case ub => omega)); rotate_left 1; intro e9 t9 vs9 g9 h9 tk9 n9 P9 F9 R9 K9 U9; exact P9.elim; intro v9 h9 tk9 n9 F9 N9 P9; obtain ⟨d9, t9, o9, q1, hlo9, hhi9, hs9, q2⟩ := P9; subst q1; subst q2; (try dsimp only); (try k_fold))
  k_with "eval ListComp" => (k_here; k_dflt (refine LCg.ListComp_U (F₀ := by k_asm) (by with_unfolding_all rfl) (by decide) (by rfl) (by decide) (by rfl) ?_))
  k_with "CompSrc" => (refine stopW ?_)
  k_with "call ref" => (k_here; (with_reducible show wpAny _ _ (call (Value.ref 185) [_, _]) _ _ _); refine stopW ?_)
  unfold Callee PR
  k_fill
  intro dp un gd cn cs fa ccd cl outer A₀ base h₀ L m s Q E B F X N T hk hdp hun hret hraise
  refine wpAny_call ?_

  k_dflt (refine' code_defC ?k1 ?k2 ?k3 ?k4 ?k5 ?kA ?kF ?kK ?k6 ?k7 ?k8 ?k9 ?kB ?kD ?_ ?c2 ?c3 ?c4; (case kA => exact rfl); (case kF => exact rfl); (case kK => assumption); (case k1 => k_asm); (case k2 => k_asm); (case k3 => k_asm); (case k4 => k_asm); (case k5 => k_asm); (case k6 => k_is); (case k7 => k_is); (case k8 => ktr_room); (case k9 => exact BindsTo.of_eq rfl); (case kB => exact rfl); (case kD => decide +kernel); (case c2 => exact rfl); (case c3 => exact rfl); (case c4 => exact rfl); k_whole; intro g' L' h' tk' cells' FG' F' N' Y' B' X' T' l1; have old := Old.mk l1; k_cells Y'; (try simp only [List.cons_append, List.nil_append] at N'); (try dsimp only); (try k_lift B'); (try k_fold))
  have hsl : @LT.lt Nat _ src L' := l1 _ (List.Mem.head _)
  k_steps
  unfold Stop
  (rename Fr _ _ _ _ => F1); (rename News _ _ _ _ => N1)
  k_dflt (refine LCg.CompSrc.range (by rfl) F1 N1 (by with_reducible assumption) (small_one (by omega) (by omega) (by omega) (by omega)) (rangeSize_nat _ _) (by rw [PySem.sizeLine_eq]; omega) ?_)
  intro g9
  refine comp_inv (fun i ys nw => ∃ o1 ds, nw = (src, o1) :: (L' + 1, _) :: rest ∧ IsSrc o1 ∧ StrsAre ys ds ∧ (∀ d ∈ ds, d ∈ four) ∧ ds.length = i) ?turn ?fin ⟨_, [], rfl, by assumption, .nil, by simp, rfl⟩
  case turn =>
    rintro i ys nw hi ⟨o1, ds, rfl, hs1, hd1, hd2, hd3⟩ v I oI C oC D m₂ h tk E' Q' hP hC hx F N off ne hq
    have hI1 := off.1
    have hI2 := off.2.1
    dsimp only at hI1 hI2 ⊢
    k_steps
    unfold Stop
    have l8 := ‹I < _ ∧ C < _ ∧ D < _ ∧ src < _ ∧ _›
    k_dflt (refine' Callee.use (one_c _ _ _ _ _ _ _ src _ hs1 _ _ _ four ?vr (List.Mem.head _) ?vs ?v1 ?v2) ?u1 ?u2 ?u3 ?u4 ?u5 ?u6 ?u7 ?u8 ?u9 ?u10)
    case u1 => k_asm
    case u2 => k_asm
    case u3 => k_asm
    case u4 => exact news_pull5 (by k_asm)
    case u5 => k_asm
    case u6 => first | exact rfl | assumption
    case u7 => ktr_room
    case u8 => ktr_units
    case vr => exact List.forall_mem_cons.mpr ⟨by k_ne, List.forall_mem_cons.mpr ⟨Ne.symm hI1.1, List.forall_mem_cons.mpr ⟨Ne.symm hI1.2.1, List.forall_mem_cons.mpr ⟨Ne.symm hI1.2.2, List.forall_mem_cons.mpr ⟨by k_ne, hr⟩⟩⟩⟩⟩
    case vs => repeat first | exact .nil | refine .cons _ _ ?_
    case v1 => exact Nat.le_of_ble_eq_true rfl
    case v2 => exact Nat.le_of_ble_eq_true rfl
    case u10 =>
      intro e9 t9 vs9 g9 h9 tk9 n9 P9 F9 R9 K9 U9
      (try dsimp only); (try k_fold)
      exact P9.elim
    case u9 =>
      intro v9 h9 tk9 n9 F9 N9 P9
      obtain ⟨c9, t9, o9, rfl, hc9, hs9, rfl⟩ := P9
      (try dsimp only); (try k_fold)
      exact hq _ _ _ ((src, o9) :: (L' + 1, _) :: rest) (by k_asm) (cb_drop N9 sub_bl) off trivial ⟨_, ds ++ [c9], rfl, hs9, strs_push _ _ hd1, fun d hd => by rcases List.mem_append.mp hd with hd | hd; exact hd2 _ hd; rw [List.mem_singleton.mp hd]; exact hc9, by simp [hd3]⟩
  case fin =>
    rintro ys nw ⟨o1, ds, rfl, hs1, hd1, hd2, hd3⟩
    intro D h tk F N off
    dsimp only
    k_steps
    have hfl := flat_four hd2
    refine join_list ⟨_, N.get (List.Mem.head _), rfl, _, rfl⟩ hd1 (by rw [show (Str.ofString "").length = 0 by decide, Nat.mul_zero, sum_flat]; omega) ?_
    intro t9 k9
    rw [join_flat]
    dsimp only
    k_steps
    (rename News _ _ _ _ => N9)
    exact hret _ _ _ _ (by k_asm) (cb_drop N9 sub_bl2) (bl_post (blanks_of hd2 (by omega) (by omega)) hs1)
end Mine
end
section
open PySem PySem.W PySem.Calls PySem.Spec PyProof.Rows PyProof.Rows.LCg
set_option Elab.async false
set_option maxRecDepth 100000
namespace Mine
theorem news_at1 {h₀ h : Heap} {Lc : Addr} {x a : Addr × Obj} {r : Led} (N : News h₀ Lc h (a :: x :: r)) : News h₀ Lc h (x :: a :: r) := cb_drop N (by intro p hp; simp at hp ⊢; rcases hp with h | h | h <;> simp [h])
theorem news_at2 {h₀ h : Heap} {Lc : Addr} {x a b : Addr × Obj} {r : Led} (N : News h₀ Lc h (a :: b :: x :: r)) : News h₀ Lc h (x :: a :: b :: r) := cb_drop N (by intro p hp; simp at hp ⊢; rcases hp with h | h | h | h <;> simp [h])
theorem news_at3 {h₀ h : Heap} {Lc : Addr} {x a b c : Addr × Obj} {r : Led} (N : News h₀ Lc h (a :: b :: c :: x :: r)) : News h₀ Lc h (x :: a :: b :: c :: r) := cb_drop N (by intro p hp; simp at hp ⊢; rcases hp with h | h | h | h | h <;> simp [h])
/-- the state of the loop of _law_tag_right -/
structure GS where
  o : Obj
  od : Obj
  kvs : List (Str × Value)
  KD : List (Str × Str)
  wr : Str
  t : Tok
  v1 : Value
  v2 : Value
  v3 : Value
end Mine
end
section
open PySem PySem.W PySem.Calls PySem.Spec PyProof.Rows PyProof.Rows.LCg
set_option Elab.async false
set_option maxRecDepth 100000
namespace Mine
section
variable {prog : Program} {w : World} {A : Around} {E : Value → Shared → Prop} {s : Shared} {env : Env} {h₀ : Heap} {x : Str} {body : List Stmt} {Q : Flow → Shared → Prop}
/-- between the turns of a loop over texts -/
def TxJ {σ : Type} (Ld : σ → Led) (ps : σ → List (Str × Value)) (x : Str) (stored : List Str) (m₀ : Str → Option Value) (P : Nat → σ → Prop) (i : Nat) (m : Str → Option Value) (nx : Led) : Prop :=
  ∃ c, nx = Ld c ∧ (∀ p ∈ ps c, m p.1 = some p.2) ∧ (∀ z, z ≠ x → (∀ p ∈ ps c, z ≠ p.1) → stored.contains z = false → m z = m₀ z) ∧ P i c
theorem loop_texts {σ : Type} {l : Addr} {vs : List Value} {ds : List Str} {nn : Nat} {m₀ : Str → Option Value} (Ld : σ → Led) (ps : σ → List (Str × Value)) (stored : List Str) (P : Nat → σ → Prop) (c₀ : σ)
    (hh : A.handled = none) (hl : ∀ c, (l, W.listOf vs.toArray nn) ∈ Ld c) (hd : StrsAre vs ds) (F : Fr h₀ env.locals s.heap m₀) (N : News h₀ env.locals s.heap (Ld c₀)) (hk : ∀ p ∈ ps c₀, m₀ p.1 = some p.2) (hp : P 0 c₀)
    (turn : ∀ (c : σ) i d t (u : Str → Option Value) h tk own, ds[i]? = some d → OwnOff own ((Ld c).map (·.1)) → P i c → Fr h₀ env.locals h (fun y => if y = x then some (.str d t) else kstB (fun z => if stored.contains z then u z else m₀ z) (ps c) y) → News h₀ env.locals h (Ld c ++ own) →
      wpAny (model prog w) A (execs body env) (InvPostG h₀ env.locals (fun m' nx => (l, W.listOf vs.toArray nn) ∈ nx ∧ TxJ Ld ps x stored m₀ P (i + 1) m' nx) own { s with heap := h, toks := tk } Q) E { s with heap := h, toks := tk })
    (done : ∀ (c : σ) (u : Str → Option Value) h tk, P ds.length c → Fr h₀ env.locals h (fun y => if y = x then u y else kstB (fun z => if stored.contains z then u z else m₀ z) (ps c) y) → News h₀ env.locals h (Ld c) → Q .next { s with heap := h, toks := tk }) :
    wpAny (model prog w) A (pyIter (.ref l)) (fun it s₂ => LoopAtV prog w A h₀ env x body Q E it s₂) E s := by
  refine kdl_iter (fun i m nx => TxJ Ld ps x stored m₀ P i m nx) hh (hl c₀) F N ⟨c₀, rfl, hk, fun _ _ _ _ => rfl, hp⟩ ?_ ?_
  · rintro i v m₁ nx h tk own hv hoff _ ⟨c, rfl, h1, h2, hp'⟩ F₁ N₁
    obtain ⟨d, t, rfl, hd'⟩ := hd.item i v hv
    exact turn c i d t m₁ h tk own hd' hoff hp' (kst_fr h1 h2 F₁) N₁
  · rintro m₁ nx h tk ⟨c, rfl, h1, h2, hp'⟩ F₁ N₁
    rw [hd.len_eq] at hp'
    exact done c m₁ h tk hp' (kst_frOut h1 h2 F₁) N₁
theorem tx_end {σ : Type} {l : Addr} {vs : List Value} {nn : Nat} {Ld : σ → Led} {ps : σ → List (Str × Value)} {stored : List Str} {m₀ : Str → Option Value} {P : Nat → σ → Prop} {i : Nat} {L : Addr} {m' : Str → Option Value} {own news' : Led} {s₁ : Shared} {h' : Heap} {tk : Nat} (c : σ)
    (hl : ∀ c, (l, W.listOf vs.toArray nn) ∈ Ld c) (F : Fr h₀ L h' m') (N : News h₀ L h' news') (hn : ∀ p ∈ Ld c, p ∈ news') (ho : ∀ p ∈ own, p ∈ news') (ha : OwnOff own ((Ld c).map (·.1))) (hk : ∀ p ∈ ps c, m' p.1 = some p.2) (hr : ∀ z, z ≠ x → (∀ p ∈ ps c, z ≠ p.1) → stored.contains z = false → m' z = m₀ z) (hp : P (i + 1) c) :
    InvEndG h₀ L (fun m' nx => (l, W.listOf vs.toArray nn) ∈ nx ∧ TxJ Ld ps x stored m₀ P (i + 1) m' nx) own s₁ { s₁ with heap := h', toks := tk } :=
  InvEndG.intro F N ⟨hl c, c, rfl, hk, hr, hp⟩ ha hn ho
end
section
variable {prog : Program} {w : World} {A : Around} {E : Value → Shared → Prop} {s : Shared} {h₀ : Heap} {L l : Addr} {m : Str → Option Value} {news : Led} {value slice : PySem.Expr} {vs : List Value} {ds : List Str} {y : Int} {t : Tok} {Q : Value → Shared → Prop}
/-- the first texts of a list -/
theorem texts_upto {c : Nat} (F : Fr h₀ L s.heap m) (N : News h₀ L s.heap news) (hm : (l, W.listOf vs.toArray c) ∈ news) (T : StrsAre vs ds) (hy : 0 ≤ y) (hz : vs.length ≤ 100)
    (h : ∀ D ws h', Fr h₀ L h' m → News h₀ L h' ((D, W.listOf (List.toArray ws) 0) :: news) → (∀ p ∈ news, p.1 < D) → StrsAre ws (ds.take y.toNat) → Q (.ref D) { s with heap := h' })
    (hs : subscripted slice false (.ref l) (.ref s.heap.objs.size) = operate [.ref s.heap.objs.size, .ref l] (getItem (.ref l) (.ref s.heap.objs.size))) (ht : ∀ r, letTemporaryGo value (.ref l) r = pure ()) :
    wpAny (model prog w) A (subscriptTail value slice (.ref l) (.ref s.heap.objs.size)) Q E { s with heap := s.heap.push { cls := .type "slice", data := .fields #[.none, .int y t, .none] } } := by
  have e : sliceBounds none (some y) none vs.toArray.size = (((0 : Nat) : Int), ((min y.toNat vs.toArray.size : Nat) : Int), 1) := by
    simp only [sliceBounds, Option.getD_none, show (1 : Int) > 0 by decide, if_true, if_neg (show ¬ (y < 0) by omega)]
    congr 1
    congr 1
    omega
  have e2 : (slicePick vs.toArray none (some y) none).toList = vs.take y.toNat := by
    rw [kmk_pick_nat _ e]
    show (vs.drop 0).take (min y.toNat vs.toArray.size - 0) = _
    rw [List.drop_zero, Nat.sub_zero, List.size_toArray, kmk_take_min]
  refine kmk_slice_lit F N ⟨_, (N _ hm).1, rfl, c, rfl⟩ IsPart.none (IsPart.int _ _) e2 (fun D h' F' N' l1 => h D _ h' F' N' l1 (PyProof.Rows.StrsAre.take' T _)) hs ht ?_
  rw [List.size_toArray, PySem.sizeLine_eq]
  omega
end
end Mine
end
section
open PySem PySem.W PySem.Calls PySem.Spec PyProof.Rows
set_option Elab.async false
set_option maxRecDepth 100000
namespace Mine
theorem chars_ok {nm x : Str} {n : Nat} (hw : ∀ c ∈ x.cps.toList, c < n) (h : ∀ a ∈ nm.cps.toList, a ∈ x.cps.toList) : ∀ c ∈ nm.cps.toList, c < n := fun c hc => hw c (h c hc)
theorem news_tag {h₀ h : Heap} {L : Addr} {a b c d e f : Addr × Obj} {r : Led} (N : News h₀ L h (a :: b :: c :: d :: e :: f :: r)) : News h₀ L h (e :: f :: d :: a :: b :: c :: r) := cb_drop N (by intro p hp; simp at hp ⊢; rcases hp with h | h | h | h | h | h | h <;> simp [h])
theorem eq_sign : (Str.ofString "=").cps.toList = [61] := by decide
theorem dq_sign : (Str.ofString "\"").cps.toList = [34] := by decide
theorem sq_sign : (Str.ofString "'").cps.toList = [39] := by decide
abbrev dat (KD : List (Str × Str)) : List (PyData × PyData) := KD.map fun p => (PyData.str p.1, PyData.str p.2)
theorem same_s (a b : Str) : Spec.same (.str a) (.str b) = decide (a = b) := by
  show (a == b) = _
  rw [Bool.eq_iff_iff, beq_iff_eq, decide_eq_true_iff]
theorem look_mem (nm : Str) : ∀ KD : List (Str × Str), (Spec.lookup (.str nm) (dat KD)).isSome = decide (nm ∈ KD.map (·.1))
  | [] => rfl
  | p :: KD => by
    have ih := look_mem nm KD
    show (if Spec.same (.str p.1) (.str nm) = true then some (PyData.str p.2) else Spec.lookup (.str nm) (dat KD)).isSome = _
    rw [same_s]
    by_cases h : p.1 = nm
    · subst h; simp
    · rw [if_neg (by simpa using h), ih]
      simp [show ¬ nm = p.1 from fun q => h q.symm]
theorem put_new (nm u : Str) (KD : List (Str × Str)) (h : (Spec.lookup (.str nm) (dat KD)).isSome = false) : PyProof.V.putD (.str nm) (.str u) (dat KD) = dat (KD ++ [(nm, u)]) := by
  rw [look_mem, decide_eq_false_iff_not] at h
  unfold PyProof.V.putD
  rw [if_neg]
  · simp [dat]
  · intro hn
    obtain ⟨q, hq, e⟩ := List.any_eq_true.mp hn
    obtain ⟨p, hp, rfl⟩ := List.mem_map.mp hq
    rw [same_s, decide_eq_true_iff] at e
    exact h (List.mem_map.mpr ⟨p, hp, e⟩)
section
variable {l l1 l2 l3 l4 l5 l6 : List Nat} {K : List (Str × Str)} {nm : Str} {r : Option ((Str × Str) × List Nat)}
theorem attr_e0 (hr : attrL l (K.map (·.1)) = some r) (h : l.takeWhile isNm = []) : r = none := by
  unfold attrL at hr
  rw [if_pos h] at hr
  exact (Option.some.inj hr).symm
theorem attr_e1 (hr : attrL l (K.map (·.1)) = some r) (h : l.takeWhile isNm ≠ []) (h1 : l1 = l.dropWhile isNm) (h2 : l2 = l1.dropWhile isBl) (hn : ¬ (Str.ofString "=").cps.toList <+: l2) : r = none := by
  unfold attrL at hr
  rw [if_neg h, ← h1, ← h2] at hr
  split at hr
  · rename_i l3
    exact absurd ⟨l3, by rw [eq_sign]; rfl⟩ hn
  · exact (Option.some.inj hr).symm
theorem attr_two (hr : attrL l (K.map (·.1)) = some r) (h : l.takeWhile isNm ≠ []) (h1 : l1 = l.dropWhile isNm) (h2 : l2 = l1.dropWhile isBl) (h3 : l2 = (Str.ofString "=").cps.toList ++ l3) (h4 : l4 = l3.dropWhile isBl) (hnm : nm = ⟨(l.takeWhile isNm).toArray⟩) :
    ((Spec.lookup (.str nm) (dat K)).isSome = true → r = none) ∧ ((Spec.lookup (.str nm) (dat K)).isSome = false → valL nm l4 = some r) := by
  unfold attrL at hr
  rw [if_neg h, ← h1, ← h2, h3, eq_sign] at hr
  simp only [List.cons_append, List.nil_append] at hr
  rw [← h4, ← hnm] at hr
  constructor
  · intro hl
    rw [look_mem, decide_eq_true_iff] at hl
    rw [if_pos hl] at hr
    exact (Option.some.inj hr).symm
  · intro hl
    rw [look_mem, decide_eq_false_iff_not] at hl
    rw [if_neg hl] at hr
    exact hr
theorem val_no (hr : valL nm l4 = some r) (h1 : ¬ (Str.ofString "\"").cps.toList <+: l4) (h2 : ¬ (Str.ofString "'").cps.toList <+: l4) : r = none := by
  unfold valL at hr
  split at hr
  · rename_i l; exact absurd ⟨l, by rw [dq_sign]; rfl⟩ h1
  · rename_i l; exact absurd ⟨l, by rw [sq_sign]; rfl⟩ h2
  · exact (Option.some.inj hr).symm
theorem val_dq (hr : valL nm l4 = some r) (h : l4 = (Str.ofString "\"").cps.toList ++ l5) : quoL 34 nm l5 = some r := by
  rw [h, dq_sign] at hr; exact hr
theorem val_sq (hr : valL nm l4 = some r) (h : l4 = (Str.ofString "'").cps.toList ++ l5) : quoL 39 nm l5 = some r := by
  rw [h, sq_sign] at hr; exact hr
theorem quo_no {c : Nat} (hr : quoL c nm l5 = some r) (h : (cut c l5).2 = none) : r = none := by
  unfold quoL at hr
  rw [h] at hr
  exact (Option.some.inj hr).symm
theorem quo_yes {c : Nat} {v : Str} (hr : quoL c nm l5 = some r) (h : (cut c l5).2 = some l6) (hv : v = ⟨(cut c l5).1.toArray⟩) :
    ∃ q, unescL (v.length + 1) v.cps.toList = some q ∧ (q = none → r = none) ∧ ∀ u, q = some u → r = some ((nm, ⟨u.toArray⟩), l6) := by
  subst hv
  unfold quoL at hr
  rw [h] at hr
  dsimp only at hr
  have e : (⟨(cut c l5).1.toArray⟩ : Str).length = (cut c l5).1.length := by simp [Str.length]
  rw [e]
  show ∃ q, unescL ((cut c l5).1.length + 1) (cut c l5).1 = some q ∧ _
  cases hu : unescL ((cut c l5).1.length + 1) (cut c l5).1 with
  | none => rw [hu] at hr; cases hr
  | some q =>
    rw [hu] at hr
    refine ⟨q, rfl, ?_, ?_⟩
    · intro e; subst e; exact (Option.some.inj hr).symm
    · intro u e; subst e; exact (Option.some.inj hr).symm
end
/-- the state of the loop of read_tag -/
structure TS where
  k : Nat
  t : Tok
  o : Obj
  kvs : List (Str × Value)
  KD : List (Str × Str)
  n : Nat
structure TInv (w : World) (x : Str) (r : Option (List (Str × Str) × Bool × List Nat)) (c : TS) : Prop where
  le : c.k ≤ x.length
  dict : c.o.IsDictOf (PySem.strKind PR w) c.kvs
  flat : PyProof.V.FlatPairs PyData.str c.kvs (dat c.KD)
  len : c.KD.length + c.n ≤ 900
  rest : tagL c.n (x.cps.toList.drop c.k) c.KD = some r
theorem sl_sign : (Str.ofString "/>").cps.toList = [47, 62] := by decide
theorem gt_sign : (Str.ofString ">").cps.toList = [62] := by decide
section
variable {l l1 l2 : List Nat} {K : List (Str × Str)} {n : Nat} {r : Option (List (Str × Str) × Bool × List Nat)}
theorem tag_sl (hr : tagL n l K = some r) (h1 : l1 = l.dropWhile isBl) (h2 : l1 = (Str.ofString "/>").cps.toList ++ l2) : r = some (K, true, l2) := by
  cases n with
  | zero => cases hr
  | succ n =>
    unfold tagL at hr
    rw [← h1, h2, sl_sign] at hr
    exact (Option.some.inj hr).symm
theorem tag_gt (hr : tagL n l K = some r) (h1 : l1 = l.dropWhile isBl) (h2 : l1 = (Str.ofString ">").cps.toList ++ l2) : r = some (K, false, l2) := by
  cases n with
  | zero => cases hr
  | succ n =>
    unfold tagL at hr
    rw [← h1, h2, gt_sign] at hr
    exact (Option.some.inj hr).symm
theorem tag_at (hr : tagL n l K = some r) (h1 : l1 = l.dropWhile isBl) (h2 : ¬ (Str.ofString "/>").cps.toList <+: l1) (h3 : ¬ (Str.ofString ">").cps.toList <+: l1) :
    ∃ n' q, n = n' + 1 ∧ attrL l1 (K.map (·.1)) = some q ∧ (q = none → r = none) ∧ ∀ kv l', q = some (kv, l') → tagL n' l' (K ++ [kv]) = some r := by
  cases n with
  | zero => cases hr
  | succ n =>
    unfold tagL at hr
    rw [← h1] at hr
    split at hr
    · rename_i l'; exact absurd ⟨l', by rw [sl_sign]; rfl⟩ h2
    · rename_i l'; exact absurd ⟨l', by rw [gt_sign]; rfl⟩ h3
    · rename_i l' _ _
      cases hq : attrL l1 (K.map (·.1)) with
      | none => rw [hq] at hr; cases hr
      | some q =>
        rw [hq] at hr
        refine ⟨n, q, rfl, rfl, ?_, ?_⟩
        · intro e; subst e; exact (Option.some.inj hr).symm
        · intro kv l'' e; subst e; exact hr
end
end Mine
end
section
open PySem PySem.W PySem.Calls PySem.Spec PyProof.Rows
set_option Elab.async false
set_option maxRecDepth 100000
namespace Mine
abbrev labels4 : List Str := ["k", "n:m", "k2", ⟨#[233]⟩]
theorem isBl_nm {a : Nat} (h : isBl a = true) : isNm a = false := by
  simp only [isBl, isNm, inC_eq] at h ⊢
  rw [decide_eq_true_eq] at h
  have : a ∈ [32, 9, 10, 13] := by
    have e : (Str.ofString " \t\n\r").cps.toList = [32, 9, 10, 13] := by decide
    rw [← e]; exact h
  simp only [List.mem_cons, List.not_mem_nil, or_false] at this
  rcases this with rfl | rfl | rfl | rfl <;> decide
theorem isNm_of (a : Nat) (h : a ∉ [32, 9, 10, 13, 61, 47, 62, 60, 34, 39]) : isNm a = true := by
  simp only [isNm, inC_eq]
  have e : (Str.ofString " \t\n\r=/><\"'").cps.toList = [32, 9, 10, 13, 61, 47, 62, 60, 34, 39] := by decide
  rw [e, decide_eq_false h]; rfl
theorem isNm_not {a : Nat} (h : a ∈ [61, 47, 62]) : isNm a = false := by
  simp only [isNm, inC_eq]
  have e : (Str.ofString " \t\n\r=/><\"'").cps.toList = [32, 9, 10, 13, 61, 47, 62, 60, 34, 39] := by decide
  rw [e]
  simp only [List.mem_cons, List.not_mem_nil, or_false] at h
  rcases h with rfl | rfl | rfl <;> decide
theorem isBl_not {a : Nat} (h : a ∉ [32, 9, 10, 13]) : isBl a = false := by
  simp only [isBl, inC_eq]
  have e : (Str.ofString " \t\n\r").cps.toList = [32, 9, 10, 13] := by decide
  rw [e, decide_eq_false h]
theorem isBl_of_nm {a : Nat} (h : isNm a = true) : isBl a = false := by
  cases e : isBl a with
  | false => rfl
  | true => rw [isBl_nm e] at h; cases h
theorem isBl_lt {a : Nat} (h : isBl a = true) : a < 0x110000 := by
  rcases Nat.lt_or_ge a 0x110000 with h' | h'
  · exact h'
  · rw [isBl_not (by simp; omega)] at h; cases h
theorem tw_app {q : Nat → Bool} : ∀ {p : List Nat} (r : List Nat), (∀ a ∈ p, q a = true) → (p ++ r).takeWhile q = p ++ r.takeWhile q ∧ (p ++ r).dropWhile q = r.dropWhile q
  | [], _, _ => ⟨rfl, rfl⟩
  | a :: p, r, h => by
    have ih := tw_app (p := p) r fun b hb => h b (List.mem_cons_of_mem _ hb)
    have ha := h a List.mem_cons_self
    rw [List.cons_append, List.takeWhile_cons_of_pos ha, List.dropWhile_cons_of_pos ha, ih.1, ih.2]
    exact ⟨rfl, rfl⟩
theorem tw_no {q : Nat → Bool} {a : Nat} {r : List Nat} (h : q a = false) : (a :: r).takeWhile q = [] ∧ (a :: r).dropWhile q = a :: r := by
  rw [List.takeWhile_cons_of_neg (by rw [h]; exact Bool.false_ne_true), List.dropWhile_cons_of_neg (by rw [h]; exact Bool.false_ne_true)]
  exact ⟨rfl, rfl⟩
/-- a name: signs of a name, one at least -/
structure Nm (c : Str) : Prop where
  all : ∀ a ∈ c.cps.toList, isNm a = true
  ne : c.cps.toList ≠ []
  lt : ∀ a ∈ c.cps.toList, a < 0x110000
  len : c.length ≤ 3
theorem nm_label {c : Str} (h : c ∈ labels4) : Nm c := by
  have key : ∀ l : List Nat, l ∈ ([[107], [110, 58, 109], [107, 50], [233]] : List (List Nat)) → (∀ a ∈ l, isNm a = true) ∧ l ≠ [] ∧ (∀ a ∈ l, a < 0x110000) ∧ l.length ≤ 3 := by
    intro l hl
    simp only [List.mem_cons, List.not_mem_nil, or_false] at hl
    rcases hl with rfl | rfl | rfl | rfl <;> refine ⟨?_, by simp, by decide, by decide⟩ <;> intro a ha <;> refine isNm_of a ?_ <;> simp at ha ⊢ <;> omega
  have hm : c.cps.toList ∈ ([[107], [110, 58, 109], [107, 50], [233]] : List (List Nat)) := by
    simp only [List.mem_cons, List.not_mem_nil, or_false] at h
    rcases h with rfl | rfl | rfl | rfl <;> decide
  obtain ⟨h1, h2, h3, h4⟩ := key _ hm
  exact ⟨h1, h2, h3, by rw [Array.length_toList] at h4; exact h4⟩
theorem nm_name {c : Str} (h : c ∈ (["a", "svg", "x:y"] : List Str)) : Nm c := by
  have key : ∀ l : List Nat, l ∈ ([[97], [115, 118, 103], [120, 58, 121]] : List (List Nat)) → (∀ a ∈ l, isNm a = true) ∧ l ≠ [] ∧ (∀ a ∈ l, a < 0x110000) ∧ l.length ≤ 3 := by
    intro l hl
    simp only [List.mem_cons, List.not_mem_nil, or_false] at hl
    rcases hl with rfl | rfl | rfl <;> refine ⟨?_, by simp, by decide, by decide⟩ <;> intro a ha <;> refine isNm_of a ?_ <;> simp at ha ⊢ <;> omega
  have hm : c.cps.toList ∈ ([[97], [115, 118, 103], [120, 58, 121]] : List (List Nat)) := by
    simp only [List.mem_cons, List.not_mem_nil, or_false] at h
    rcases h with rfl | rfl | rfl <;> decide
  obtain ⟨h1, h2, h3, h4⟩ := key _ hm
  exact ⟨h1, h2, h3, by rw [Array.length_toList] at h4; exact h4⟩
theorem quote_sign {c : Str} (h : c ∈ (["\"", "'"] : List Str)) : ∃ a, c.cps.toList = [a] ∧ (a = 34 ∨ a = 39) := by
  simp only [List.mem_cons, List.not_mem_nil, or_false] at h
  rcases h with rfl | rfl
  · exact ⟨34, by decide, .inl rfl⟩
  · exact ⟨39, by decide, .inr rfl⟩
theorem tagL_attr {n : Nat} {l t : List Nat} {a : Nat} {KD : List (Str × Str)} (h1 : l.dropWhile isBl = a :: t) (ha : a ≠ 47) (hb : a ≠ 62) {kv : Str × Str} {r : List Nat} (hq : attrL (a :: t) (KD.map (·.1)) = some (some (kv, r))) : tagL (n + 1) l KD = tagL n r (KD ++ [kv]) := by
  conv => lhs; unfold tagL
  rw [h1]
  split
  · rename_i e; injection e with e1 e2; exact absurd e1 ha
  · rename_i e; injection e with e1 e2; exact absurd e1 hb
  · rw [hq]
/-- an attribute, as it is written -/
theorem attr_go {lb m v : Str} {j c : Nat} {x2 x3 r : List Nat} {known : List Str} (hl : Nm lb) (hnew : lb ∉ known) (h2 : ∀ a ∈ x2, isBl a = true) (h3 : ∀ a ∈ x3, isBl a = true) (hc : c = 34 ∨ c = 39) (g : Goes j m v) :
    attrL (lb.cps.toList ++ (x2 ++ 61 :: (x3 ++ c :: (v.cps.toList ++ c :: r)))) known = some (some ((lb, m), r)) := by
  have e61n : isNm 61 = false := isNm_not (by simp)
  have e61b : isBl 61 = false := isBl_not (by simp)
  have ecb : isBl c = false := isBl_not (by rcases hc with rfl | rfl <;> simp)
  have hv : c ∉ v.cps.toList := fun hm => by
    have := g.okc c hm
    rcases hc with rfl | rfl
    · exact this.1 rfl
    · exact this.2.1 rfl
  have hu := g.all (n := v.length) (by have := g.ge; omega)
  have t1 := tw_app (q := isNm) (x2 ++ 61 :: (x3 ++ c :: (v.cps.toList ++ c :: r))) hl.all
  have t2 : ∀ z : List Nat, (x2 ++ 61 :: z).takeWhile isNm = [] ∧ (x2 ++ 61 :: z).dropWhile isNm = x2 ++ 61 :: z := by
    intro z
    cases x2 with
    | nil => exact tw_no e61n
    | cons b x2 => exact tw_no (isBl_nm (h2 b List.mem_cons_self))
  have t3 : ∀ z : List Nat, (x2 ++ 61 :: z).dropWhile isBl = 61 :: z := fun z => by rw [(tw_app _ h2).2, (tw_no e61b).2]
  have t4 : ∀ z : List Nat, (x3 ++ c :: z).dropWhile isBl = c :: z := fun z => by rw [(tw_app _ h3).2, (tw_no ecb).2]
  unfold attrL
  rw [t1.1, t1.2, (t2 _).1, (t2 _).2, List.append_nil, if_neg hl.ne, t3]
  rw [str_eta]
  show (if lb ∈ known then some none else valL lb ((x3 ++ c :: (v.cps.toList ++ c :: r)).dropWhile isBl)) = _
  rw [if_neg hnew, t4]
  have q : ∀ c', c' = c → quoL c' lb (v.cps.toList ++ c :: r) = some (some ((lb, m), r)) := by
    rintro c' rfl
    unfold quoL
    rw [cut_mid _ hv]
    dsimp only
    rw [show v.cps.toList.length = v.length from Array.length_toList .., hu]
    try dsimp only
    try rw [str_eta]
  rcases hc with rfl | rfl
  · exact q 34 rfl
  · exact q 39 rfl
/-- what is written of the attributes -/
structure TagW (i : Nat) (KD : List (Str × Str)) (wr : Str) : Prop where
  go : ∀ n l q, tagL n l KD = some q → tagL (n + i) (wr.cps.toList ++ l) [] = some q
  lt : ∀ a ∈ wr.cps.toList, a < 0x110000
  hd : ∀ a ∈ wr.cps.toList.head?, isBl a = true
  len : wr.length ≤ 200 * i
  kd : ∀ p ∈ KD, (∀ a ∈ p.1.cps.toList, a < 0x110000) ∧ ∀ a ∈ p.2.cps.toList, a < 0x110000
theorem TagW.nil : TagW 0 [] (Str.ofString "") := by
  have e : (Str.ofString "").cps.toList = [] := by decide
  exact ⟨by rw [e]; intro n l q h; exact h, by rw [e]; simp, by rw [e]; simp, by decide, by simp⟩
theorem TagW.step {i : Nat} {KD : List (Str × Str)} {wr x1 lb x2 x3 qu m v : Str} {j : Nat} (h : TagW i KD wr) (b1 : Blanks 1 x1) (hl : Nm lb) (hnew : lb ∉ KD.map (·.1)) (b2 : Blanks 0 x2) (b3 : Blanks 0 x3) (hq : qu ∈ (["\"", "'"] : List Str)) (g : Goes j m v) (hj : j ≤ 4) :
    TagW (i + 1) (KD ++ [(lb, m)]) (wr ++ x1 ++ lb ++ x2 ++ Str.ofString "=" ++ x3 ++ qu ++ v ++ qu) := by
  obtain ⟨c, hc1, hc2⟩ := quote_sign hq
  have heq : (Str.ofString "=").cps.toList = [61] := by decide
  have eL : (wr ++ x1 ++ lb ++ x2 ++ Str.ofString "=" ++ x3 ++ qu ++ v ++ qu).cps.toList = wr.cps.toList ++ (x1.cps.toList ++ (lb.cps.toList ++ (x2.cps.toList ++ 61 :: (x3.cps.toList ++ c :: (v.cps.toList ++ [c]))))) := by
    simp only [app_list, hc1, heq, List.append_assoc, List.cons_append, List.nil_append]
  have lq : qu.length = 1 := by have := congrArg List.length hc1; simpa [Str.length] using this
  refine ⟨?_, ?_, ?_, ?_, ?_⟩
  · intro n l q hn
    rw [eL, List.append_assoc, show n + (i + 1) = (n + 1) + i by omega]
    refine h.go _ _ _ ?_
    have e2 : x1.cps.toList ++ (lb.cps.toList ++ (x2.cps.toList ++ 61 :: (x3.cps.toList ++ c :: (v.cps.toList ++ [c])))) ++ l = x1.cps.toList ++ (lb.cps.toList ++ (x2.cps.toList ++ 61 :: (x3.cps.toList ++ c :: (v.cps.toList ++ c :: l)))) := by
      simp only [List.append_assoc, List.cons_append, List.nil_append]
    rw [e2]
    have ha := attr_go (r := l) (known := KD.map (·.1)) hl hnew b2.bl b3.bl hc2 g
    cases hlb : lb.cps.toList with
    | nil => exact absurd hlb hl.ne
    | cons a t =>
      rw [hlb] at ha
      have hnm := hl.all a (by rw [hlb]; exact List.mem_cons_self)
      rw [List.cons_append] at ha ⊢
      rw [tagL_attr (by rw [(tw_app _ b1.bl).2, (tw_no (isBl_of_nm hnm)).2]) (fun e => by rw [e, isNm_not (by simp)] at hnm; cases hnm) (fun e => by rw [e, isNm_not (by simp)] at hnm; cases hnm) ha]
      exact hn
  · rw [eL]
    intro a ha
    simp only [List.mem_append, List.mem_cons, List.not_mem_nil, or_false] at ha
    rcases ha with ha | ha | ha | ha | ha | ha | ha | ha | ha
    · exact h.lt a ha
    · exact isBl_lt (b1.bl a ha)
    · exact hl.lt a ha
    · exact isBl_lt (b2.bl a ha)
    · omega
    · exact isBl_lt (b3.bl a ha)
    · omega
    · exact (g.okc a ha).2.2
    · omega
  · rw [eL]
    intro a ha
    cases hw : wr.cps.toList with
    | cons b t =>
      rw [hw] at ha
      exact h.hd a (by rw [hw]; exact ha)
    | nil =>
      rw [hw, List.nil_append] at ha
      cases hx : x1.cps.toList with
      | nil =>
        have := b1.lo
        have e0 : x1.length = 0 := by have := congrArg List.length hx; simpa [Str.length] using this
        omega
      | cons b t =>
        rw [hx, List.cons_append] at ha
        have : b = a := by simpa using ha
        subst this
        exact b1.bl b (by rw [hx]; exact List.mem_cons_self)
  · have h1 := h.len; have h2 := b1.hi; have h3 := b2.hi; have h4 := b3.hi; have h5 := g.lw; have h6 := hl.len
    have h7 : (Str.ofString "=").length = 1 := by decide
    simp only [app_len]
    omega
  · intro p hp
    rcases List.mem_append.mp hp with hp | hp
    · exact h.kd p hp
    · rw [List.mem_singleton.mp hp]
      exact ⟨hl.lt, g.mok⟩
/-- a whole tag, as it is written -/
theorem tag_whole {i : Nat} {KD : List (Str × Str)} {nm wr x fin rest : Str} {b : Bool} (hn : Nm nm) (h : TagW i KD wr) (bx : Blanks 0 x) (hf : fin = if b then Str.ofString "/>" else Str.ofString ">") :
    (nm ++ wr ++ x ++ fin ++ rest).cps.toList.takeWhile isNm = nm.cps.toList ∧ tagL (1 + i) ((nm ++ wr ++ x ++ fin ++ rest).cps.toList.dropWhile isNm) [] = some (some (KD, b, rest.cps.toList)) := by
  have e : (nm ++ wr ++ x ++ fin ++ rest).cps.toList = nm.cps.toList ++ (wr.cps.toList ++ (x.cps.toList ++ (fin.cps.toList ++ rest.cps.toList))) := by
    simp only [app_list, List.append_assoc]
  have hfin : ∃ a t, fin.cps.toList = a :: t ∧ isNm a = false ∧ isBl a = false ∧ tagL 1 (x.cps.toList ++ (fin.cps.toList ++ rest.cps.toList)) KD = some (some (KD, b, rest.cps.toList)) := by
    have es : (Str.ofString "/>").cps.toList = [47, 62] := by decide
    have eg : (Str.ofString ">").cps.toList = [62] := by decide
    cases b with
    | true =>
      rw [if_pos rfl] at hf
      rw [hf, es]
      refine ⟨47, [62], rfl, isNm_not (by simp), isBl_not (by simp), ?_⟩
      unfold tagL
      rw [(tw_app _ bx.bl).2, List.cons_append, (tw_no (isBl_not (by simp))).2]
      rfl
    | false =>
      rw [if_neg Bool.false_ne_true] at hf
      rw [hf, eg]
      refine ⟨62, [], rfl, isNm_not (by simp), isBl_not (by simp), ?_⟩
      unfold tagL
      rw [(tw_app _ bx.bl).2, List.cons_append, (tw_no (isBl_not (by simp))).2]
      rfl
  obtain ⟨a, t, ha, hnm, _, hgo⟩ := hfin
  have hd : ∃ c r, wr.cps.toList ++ (x.cps.toList ++ (fin.cps.toList ++ rest.cps.toList)) = c :: r ∧ isNm c = false := by
    cases hw : wr.cps.toList with
    | cons c r => exact ⟨c, _, rfl, isBl_nm (h.hd c (by rw [hw]; rfl))⟩
    | nil =>
      cases hx : x.cps.toList with
      | cons c r => exact ⟨c, _, rfl, isBl_nm (bx.bl c (by rw [hx]; exact List.mem_cons_self))⟩
      | nil => rw [ha]; exact ⟨a, _, rfl, hnm⟩
  obtain ⟨c, r, hcr, hc⟩ := hd
  have t1 := tw_app (q := isNm) (wr.cps.toList ++ (x.cps.toList ++ (fin.cps.toList ++ rest.cps.toList))) hn.all
  rw [e, t1.1, t1.2, hcr, (tw_no hc).1, (tw_no hc).2, List.append_nil, ← hcr]
  exact ⟨rfl, h.go 1 _ _ hgo⟩
theorem quote_len {c : Str} (h : c ∈ (["\"", "'"] : List Str)) : c.length = 1 := by
  simp only [List.mem_cons, List.not_mem_nil, or_false] at h
  rcases h with rfl | rfl <;> decide
theorem name_len {c : Str} (h : c ∈ (["a", "svg", "x:y"] : List Str)) : c.length ≤ 3 := (nm_name h).len
theorem rest_len {c : Str} (h : c ∈ (["", ">", "<b/>", " x"] : List Str)) : c.length ≤ 4 := by
  simp only [List.mem_cons, List.not_mem_nil, or_false] at h
  rcases h with rfl | rfl | rfl | rfl <;> decide
theorem news_gs {h₀ h : Heap} {Lc : Addr} {a s l t d l2 : Addr × Obj} {r : Led} (N : News h₀ Lc h (a :: s :: l :: t :: d :: l2 :: r)) : News h₀ Lc h (s :: d :: a :: r) := cb_drop N (by intro p hp; simp at hp ⊢; rcases hp with h | h | h | h <;> simp [h])
theorem own_off {own : Led} {a b c : Addr} {r : List Addr} (h : OwnOff own (a :: b :: c :: r)) : ∀ p ∈ own, p.1 ≠ a ∧ p.1 ≠ b := fun p hp => ⟨h p hp a (.head _), h p hp b (.tail _ (.head _))⟩
/-- what holds between the turns of _law_tag_right -/
structure GInv (w : World) (i : Nat) (c : GS) : Prop where
  src : IsSrc c.o
  dict : c.od.IsDictOf (PySem.strKind PR w) c.kvs
  flat : PyProof.V.FlatPairs PyData.str c.kvs (dat c.KD)
  keys : c.KD.map (·.1) = labels4.take i
  tag : TagW i c.KD c.wr
theorem label_new {i : Nat} {lb : Str} {n : Nat} {KD : List (Str × Str)} (hk : KD.map (·.1) = labels4.take i) (h : (labels4.take n)[i]? = some lb) : lb ∈ labels4 ∧ lb ∉ KD.map (·.1) ∧ i < 4 := by
  have h1 : labels4[i]? = some lb := by
    rw [List.getElem?_take] at h
    split at h
    · exact h
    · cases h
  have hi : i < 4 := (List.getElem?_eq_some_iff.mp h1).1
  refine ⟨List.mem_of_getElem? h1, ?_, hi⟩
  rw [hk]
  have : i = 0 ∨ i = 1 ∨ i = 2 ∨ i = 3 := by omega
  rcases this with rfl | rfl | rfl | rfl <;> (injection h1 with h1; subst h1; decide)
end Mine
end
section
open PySem PySem.W PySem.Calls PySem.Spec PyProof.Rows
set_option Elab.async false
set_option maxRecDepth 100000
namespace Mine
abbrev pairD (KD : List (Str × Str)) : List PyData := KD.map fun p => .tuple [.str p.1, .str p.2]
/-- the values are the pairs, by what the ledger holds -/
def PairsIn (l : Led) (vs : List Value) (KD : List (Str × Str)) : Prop := ∀ h : Heap, (∀ p ∈ l, h.get? p.1 = some p.2) → ReadsAll h vs (pairD KD) []
theorem PairsIn.mono {l l' : Led} {vs : List Value} {KD : List (Str × Str)} (x : PairsIn l vs KD) (hs : ∀ p ∈ l, p ∈ l') : PairsIn l' vs KD := fun h hp => x h fun p q => hp p (hs p q)
theorem flat_str_of {v : Value} {x : Str} (h : PyProof.V.Flat v (.str x)) : ∃ t, v = .str x t := by
  have h := h default
  cases h
  exact ⟨_, rfl⟩
theorem pairs_of {prog : Program} {w : World} {h' : Heap} : ∀ (KD : List (Str × Str)) (kvs : List (Str × Value)) (as : List Addr), PyProof.V.FlatPairs PyData.str kvs (dat KD) → as.length = kvs.length →
    (∀ (j : Nat) (a : Addr), as[j]? = some a → ∃ key k x, kvs[j]? = some (k, x) ∧ (PySem.strKind prog w).is k key = true ∧ h'.get? a = some { cls := .type "tuple", data := .seq #[key, x] }) →
    ∃ tups : Led, (∀ p ∈ tups, p.1 ∈ as ∧ h'.get? p.1 = some p.2) ∧ PairsIn tups (as.map Value.ref) KD
  | [], kvs, as, hf, hl, hp => by
    cases hf
    have : as = [] := List.eq_nil_of_length_eq_zero hl
    subst this
    exact ⟨[], (fun p q => (nomatch q)), (fun h _ => ReadsAll.nil)⟩
  | (k, u) :: KD, kvs, as, hf, hl, hp => by
    cases hf with
    | cons hv hf =>
      rename_i v kvs
      cases as with
      | nil => simp at hl
      | cons a as =>
        obtain ⟨tups, h1, h2⟩ := pairs_of KD kvs as hf (by simpa using hl) (fun j b hj => by
          obtain ⟨key, k', x, e1, e2, e3⟩ := hp (j + 1) b (by simpa using hj)
          exact ⟨key, k', x, by simpa using e1, e2, e3⟩)
        obtain ⟨key, k', x, e1, e2, e3⟩ := hp 0 a rfl
        have e1 : (k, v) = (k', x) := by simpa using e1
        injection e1 with ea eb
        subst ea
        subst eb
        obtain ⟨t, rfl⟩ := Value.isStrOf_shape e2
        obtain ⟨t', rfl⟩ := flat_str_of hv
        refine ⟨(a, { cls := .type "tuple", data := .seq #[.str k t, .str u t'] }) :: tups, ?_, ?_⟩
        · intro p hp'
          rcases List.mem_cons.mp hp' with rfl | hp'
          · exact ⟨List.mem_cons_self, e3⟩
          · exact ⟨List.mem_cons_of_mem _ (h1 p hp').1, (h1 p hp').2⟩
        · intro h hq
          exact ReadsAll.cons (as := []) (bs := []) (Reads.tuple (hq _ List.mem_cons_self) rfl rfl (ReadsAll.cons (as := []) (bs := []) (.str k t) (ReadsAll.cons (as := []) (bs := []) (.str u t') .nil))) (h2 h fun p q => hq p (List.mem_cons_of_mem _ q))
section
variable {prog : Program} {w : World} {A : Around} {E : Value → Shared → Prop} {s : Shared} {h₀ : Heap} {L d v : Addr} {m : Str → Option Value} {news : Led} {od : Obj} {kvs : List (Str × Value)} {KD : List (Str × Str)} {Q : Value → Shared → Prop}
theorem items_reads (hh : A.handled = none) (F : Fr h₀ L s.heap m) (N : News h₀ L s.heap news) (hvw : (v, { cls := .type "dict_items", data := .fields #[.ref d] }) ∈ news) (hmd : (d, od) ∈ news) (hod : od.IsDictOf (PySem.strKind prog w) kvs) (hf : PyProof.V.FlatPairs PyData.str kvs (dat KD)) (hn : KD.length ≤ 1000)
    (h : ∀ (B : Addr) (its : Array Value) (c : Nat) (tups : Led) h' tk, Fr h₀ L h' m → News h₀ L h' ((B, W.listOf its c) :: (news ++ tups)) → PairsIn tups its.toList KD → Q (.ref B) { s with heap := h', toks := tk }) :
    wpAny (model prog w) A (call (.type "list") [.ref v]) Q E s := by
  obtain ⟨ep, hat⟩ := KdkAt.of hod
  have hlen : kvs.length = KD.length := by
    have : ∀ {kvs : List (Str × Value)} {D : List (PyData × PyData)}, PyProof.V.FlatPairs PyData.str kvs D → kvs.length = D.length := by
      intro kvs D h
      induction h with
      | nil => rfl
      | cons _ _ ih => simp [ih]
    rw [this hf, List.length_map]
  refine kdx_call (knd := PySem.strKind prog w) (kvs := kvs) (ep := ep) hh ⟨_, (N _ hvw).1, rfl, rfl⟩ (hat.dictAt (N _ hmd).1) (kdl_size (by omega)) fun h' tk acc c as hk hS hl hG hacc => ?_
  obtain ⟨tups, h1, h2⟩ := pairs_of (prog := prog) (w := w) (h' := h') KD kvs as hf hl hG.pairs
  refine h _ acc c tups h' tk (F.keeps hk) (fun q hq => ?_) (by rw [hacc]; exact h2)
  rcases List.mem_cons.mp hq with rfl | hq
  · exact ⟨hS, kdx_fresh F (Nat.le_refl _)⟩
  · rcases List.mem_append.mp hq with hq | hq
    · exact ⟨hk _ _ (N q hq).1, (N q hq).2⟩
    · exact ⟨(h1 q hq).2, kdx_fresh F (Nat.le_of_lt (hG.above _ (h1 q hq).1))⟩
theorem ne_tags {T1 T2 B1 B2 : Addr} {a : Str} {t1 t2 : Tok} {b1 b2 : Bool} {i1 i2 : Array Value} {c1 c2 : Nat} (N : News h₀ L s.heap news) (h1 : (T1, tupO [.str a t1, .ref B1, .bool b1]) ∈ news) (h2 : (T2, tupO [.str a t2, .ref B2, .bool b2]) ∈ news) (hB1 : (B1, W.listOf i1 c1) ∈ news) (hB2 : (B2, W.listOf i2 c2) ∈ news)
    (p1 : PairsIn news i1.toList KD) (p2 : PairsIn news i2.toList KD) (eb : b1 = b2) (ha : ∀ c ∈ a.cps.toList, c < 0x110000) (hK : ∀ p ∈ KD, (∀ c ∈ p.1.cps.toList, c < 0x110000) ∧ ∀ c ∈ p.2.cps.toList, c < 0x110000) (hu : A.units + 64 < cLine) (h : Q (.bool false) s) :
    wpAny (model prog w) A (compareOp .NotEq (.ref T1) (.ref T2)) Q E s := by
  subst eb
  have ok : ∀ {x : Str}, (∀ c ∈ x.cps.toList, c < 0x110000) → PyData.strOk x = true := by
    intro x hx
    unfold PyData.strOk
    rw [← Array.all_toList, List.all_eq_true]
    intro c hc
    exact decide_eq_true (hx c hc)
  have l1 : ∀ KD : List (Str × Str), (∀ p ∈ KD, (∀ c ∈ p.1.cps.toList, c < 0x110000) ∧ ∀ c ∈ p.2.cps.toList, c < 0x110000) → PyData.canLayAll0 (pairD KD) = true ∧ PyData.depthAll (pairD KD) ≤ 1 := by
    intro KD
    induction KD with
    | nil => intro _; exact ⟨rfl, Nat.zero_le _⟩
    | cons p KD ih =>
      intro hK
      have i := ih fun q hq => hK q (List.mem_cons_of_mem _ hq)
      have k := hK p List.mem_cons_self
      constructor
      · simp [pairD, PyData.canLayAll0, PyData.canLay0, ok k.1, ok k.2]
        exact i.1
      · have := i.2
        simp only [pairD, List.map_cons, PyData.depthAll, PyData.depth] at this ⊢
        omega
  have hk := l1 KD hK
  have sh : SeqAt.shaped (.tuple [.str a, .list (pairD KD), .bool b1]) = true := by
    have := hk.2
    unfold SeqAt.shaped
    rw [Bool.and_eq_true]
    constructor
    · simp [PyData.canLay0, PyData.canLayAll0, ok ha, hk.1]
    · refine decide_eq_true ?_
      simp only [PyData.depth, PyData.depthAll]
      omega
  have rd : ∀ {T B : Addr} {t : Tok} {i : Array Value} {c : Nat}, (T, tupO [.str a t, .ref B, .bool b1]) ∈ news → (B, W.listOf i c) ∈ news → PairsIn news i.toList KD → Reads s.heap (.ref T) (.tuple [.str a, .list (pairD KD), .bool b1]) [B] := by
    intro T B t i c hT hB p
    exact Reads.tuple (N _ hT).1 rfl rfl (ReadsAll.cons (as := []) (bs := [B]) (.str a t) (ReadsAll.cons (as := [B]) (bs := []) (.list (N _ hB).1 rfl rfl (p _ fun q hq => (N q hq).1)) (ReadsAll.cons (as := []) (bs := []) (.bool b1) .nil)))
  refine ne_dataH (rd h1 hB1 p1) (rd h2 hB2 p2) sh sh hu ?_
  rw [SeqAt.eqv_refl _ (SeqAt.canLay_of_shaped sh)]
  exact h
end
theorem whole_lt {i : Nat} {KD : List (Str × Str)} {nm wr x fin rest : Str} (hn : Nm nm) (h : TagW i KD wr) (bx : Blanks 0 x) (hf : fin = Str.ofString "/>" ∨ fin = Str.ofString ">") (hr : rest ∈ (["", ">", "<b/>", " x"] : List Str)) : ∀ c ∈ (nm ++ wr ++ x ++ fin ++ rest).cps.toList, c < 0x110000 := by
  intro c hc
  simp only [app_list, List.mem_append] at hc
  have e1 : ∀ c ∈ (Str.ofString "/>").cps.toList, c < 0x110000 := by decide
  have e2 : ∀ c ∈ (Str.ofString ">").cps.toList, c < 0x110000 := by decide
  have e3 : ∀ c ∈ rest.cps.toList, c < 0x110000 := by
    simp only [List.mem_cons, List.not_mem_nil, or_false] at hr
    rcases hr with rfl | rfl | rfl | rfl <;> decide
  rcases hc with (((hc | hc) | hc) | hc) | hc
  · exact hn.lt c hc
  · exact h.lt c hc
  · exact isBl_lt (bx.bl c hc)
  · rcases hf with rfl | rfl
    · exact e1 c hc
    · exact e2 c hc
  · exact e3 c hc
/-- what the reading of a written tag tells -/
theorem tag_tells {i : Nat} {KD KD' : List (Str × Str)} {nm nm' wr x fin rest : Str} {b b' : Bool} {k' : Nat} (hn : Nm nm) (h : TagW i KD wr) (bx : Blanks 0 x) (hf : fin = if b then Str.ofString "/>" else Str.ofString ">")
    (h1 : nm' = ⟨(((nm ++ wr ++ x ++ fin ++ rest).cps.toList.drop 0).takeWhile isNm).toArray⟩) (h2 : some (KD, b, rest.cps.toList) = some (KD', b', (nm ++ wr ++ x ++ fin ++ rest).cps.toList.drop k')) : nm' = nm ∧ KD' = KD ∧ b' = b ∧ (nm ++ wr ++ x ++ fin ++ rest).cps.toList.drop k' = rest.cps.toList := by
  injection h2 with h2
  injection h2 with h3 h2
  injection h2 with h4 h5
  refine ⟨?_, h3.symm, h4.symm, h5.symm⟩
  rw [h1, List.drop_zero, (tag_whole hn h bx hf).1, str_eta]
theorem slice_rest {x r : Str} {k : Nat} (hk : k ≤ x.length) (h : x.cps.toList.drop k = r.cps.toList) : Txt.slice x (some (k : Int)) none = r := by
  rw [slice_from_nat hk, h, str_eta]
theorem eq_self {prog : Program} {w : World} {A : Around} {E : Value → Shared → Prop} {s : Shared} {x : Str} {t u : Tok} {Q : Value → Shared → Prop} (h : Q (.bool true) s) : wpAny (model prog w) A (compareOp .Eq (.str x t) (.str x u)) Q E s :=
  PyProof.Rows.eq_str (by rw [beq_self_eq_true]; exact h)
end Mine
end
section
open PySem PySem.W PySem.Calls PySem.Spec PyProof.Rows
set_option Elab.async false
set_option maxRecDepth 100000
namespace Mine
/-- a document type, read: what stands behind it -/
def typeL (l : List Nat) : Option (List Nat) :=
  match (cut 62 l).2 with
  | none => none
  | some r => if decide (91 ∈ (cut 62 l).1) && !decide (93 ∈ (cut 62 l).1) then
      match (cut 93 r).2 with
      | none => none
      | some r2 => (cut 62 r2).2
    else some r
theorem lb_eq : Str.ofString "[" = ⟨#[91]⟩ := by decide
theorem rb_eq : Str.ofString "]" = ⟨#[93]⟩ := by decide
theorem occ_b {nm : Str} {c : Nat} {l : List Nat} {b : Bool} (hnm : nm = ⟨l.toArray⟩) (h : (Builtin.Str.occurrences nm ⟨#[c]⟩ 0 nm.length 1).isEmpty = b) : decide (c ∈ l) = !b := by
  have := StrLaws.found_one nm c
  rw [h] at this
  rw [this, hnm]
section
variable {l r r2 r3 : List Nat} {nm : Str}
theorem type_0 (h : (cut 62 l).2 = none) : typeL l = none := by unfold typeL; rw [h]
theorem type_1 (h : (cut 62 l).2 = some r) (hnm : nm = ⟨(cut 62 l).1.toArray⟩) (h1 : (Builtin.Str.occurrences nm (Str.ofString "[") 0 nm.length 1).isEmpty = true) : typeL l = some r := by
  rw [lb_eq] at h1
  unfold typeL
  rw [h]
  dsimp only
  rw [occ_b hnm h1]
  rfl
theorem type_3 (h : (cut 62 l).2 = some r) (hnm : nm = ⟨(cut 62 l).1.toArray⟩) (h2 : (Builtin.Str.occurrences nm (Str.ofString "]") 0 nm.length 1).isEmpty = false) : typeL l = some r := by
  rw [rb_eq] at h2
  unfold typeL
  rw [h]
  dsimp only
  rw [occ_b hnm h2]
  simp
theorem type_2 (h : (cut 62 l).2 = some r) (hnm : nm = ⟨(cut 62 l).1.toArray⟩) (h1 : (Builtin.Str.occurrences nm (Str.ofString "[") 0 nm.length 1).isEmpty = false) (h2 : (Builtin.Str.occurrences nm (Str.ofString "]") 0 nm.length 1).isEmpty = true) :
    typeL l = match (cut 93 r).2 with
      | none => none
      | some r2 => (cut 62 r2).2 := by
  rw [lb_eq] at h1
  rw [rb_eq] at h2
  unfold typeL
  rw [h]
  dsimp only
  rw [occ_b hnm h1, occ_b hnm h2]
  rfl
theorem type_2n (h : (cut 62 l).2 = some r) (hnm : nm = ⟨(cut 62 l).1.toArray⟩) (h1 : (Builtin.Str.occurrences nm (Str.ofString "[") 0 nm.length 1).isEmpty = false) (h2 : (Builtin.Str.occurrences nm (Str.ofString "]") 0 nm.length 1).isEmpty = true) (h3 : (cut 93 r).2 = none) : typeL l = none := by
  rw [type_2 h hnm h1 h2, h3]
theorem type_2s {q : Option (List Nat)} (h : (cut 62 l).2 = some r) (hnm : nm = ⟨(cut 62 l).1.toArray⟩) (h1 : (Builtin.Str.occurrences nm (Str.ofString "[") 0 nm.length 1).isEmpty = false) (h2 : (Builtin.Str.occurrences nm (Str.ofString "]") 0 nm.length 1).isEmpty = true) (h3 : (cut 93 r).2 = some r2) (h4 : (cut 62 r2).2 = q) : typeL l = q := by
  rw [type_2 h hnm h1 h2, h3]
  exact h4
end
end Mine
end
section
open PySem PySem.W PySem.Calls PySem.Spec PyProof.Rows
set_option Elab.async false
set_option maxRecDepth 100000
namespace Mine
abbrev inners : List Str := ["", "<!ENTITY a 'b'>", "<!ENTITY a 'b'> <!ENTITY c 'd'>", " "]
abbrev behinds : List Str := ["", "<a/>", "]>", " x"]
theorem inner_len {c : Str} (h : c ∈ inners) : c.length ≤ 40 := by
  simp only [inners, List.mem_cons, List.not_mem_nil, or_false] at h
  rcases h with rfl | rfl | rfl | rfl <;> decide
theorem behind_len {c : Str} (h : c ∈ behinds) : c.length ≤ 4 := by
  simp only [behinds, List.mem_cons, List.not_mem_nil, or_false] at h
  rcases h with rfl | rfl | rfl | rfl <;> decide
theorem bl_no {l : List Nat} {c : Nat} (h : ∀ a ∈ l, isBl a = true) (hc : c ∉ [32, 9, 10, 13]) : c ∉ l := fun hm => by
  have := h c hm
  rw [isBl_not hc] at this
  cases this
theorem typeL_one {p r : List Nat} (h1 : 62 ∉ p) (h2 : 91 ∈ p → 93 ∈ p) : typeL (p ++ 62 :: r) = some r := by
  unfold typeL
  rw [cut_mid _ h1]
  dsimp only
  by_cases h : 91 ∈ p
  · rw [decide_eq_true h, decide_eq_true (h2 h)]; rfl
  · rw [decide_eq_false h]; rfl
theorem typeL_two {p q b r : List Nat} (h1 : 62 ∉ p) (h2 : 91 ∈ p) (h3 : 93 ∉ p) (h4 : 93 ∉ q) (h5 : 62 ∉ b) : typeL (p ++ 62 :: (q ++ 93 :: (b ++ 62 :: r))) = some r := by
  unfold typeL
  rw [cut_mid _ h1]
  dsimp only
  rw [decide_eq_true h2, decide_eq_false h3, cut_mid _ h4]
  dsimp only
  rw [cut_mid _ h5]
  rfl
/-- a document type as it is written, and what stands behind it -/
theorem type_whole {mid x rest : Str} (hm : mid = Str.ofString "" ∨ ∃ c ∈ inners, mid = Str.ofString " [" ++ c ++ Str.ofString "]") (bx : Blanks 0 x) :
    typeL (Str.ofString " svg" ++ mid ++ x ++ Str.ofString ">" ++ rest).cps.toList = some rest.cps.toList := by
  have e1 : (Str.ofString " svg").cps.toList = [32, 115, 118, 103] := by decide
  have e2 : (Str.ofString ">").cps.toList = [62] := by decide
  have e3 : (Str.ofString " [").cps.toList = [32, 91] := by decide
  have e4 : (Str.ofString "]").cps.toList = [93] := by decide
  have b1 : 62 ∉ x.cps.toList := bl_no bx.bl (by decide)
  have b2 : 91 ∉ x.cps.toList := bl_no bx.bl (by decide)
  simp only [app_list, e1, e2]
  rcases hm with rfl | ⟨c, hc, rfl⟩
  · have e5 : (Str.ofString "").cps.toList = [] := by decide
    have := typeL_one (p := [32, 115, 118, 103] ++ x.cps.toList) (r := rest.cps.toList) (by simp [b1]) (by simp [b2])
    rw [e5]
    simpa using this
  · simp only [app_list, e3, e4]
    simp only [inners, List.mem_cons, List.not_mem_nil, or_false] at hc
    rcases hc with rfl | rfl | rfl | rfl
    · have e5 : (Str.ofString "").cps.toList = [] := by decide
      have := typeL_one (p := [32, 115, 118, 103, 32, 91, 93] ++ x.cps.toList) (r := rest.cps.toList) (by simp [b1]) (by simp)
      rw [e5]
      simpa using this
    · have e5 : (Str.ofString "<!ENTITY a 'b'>").cps.toList = [60, 33, 69, 78, 84, 73, 84, 89, 32, 97, 32, 39, 98, 39, 62] := by decide
      have := typeL_two (p := [32, 115, 118, 103, 32, 91, 60, 33, 69, 78, 84, 73, 84, 89, 32, 97, 32, 39, 98, 39]) (q := []) (b := x.cps.toList) (r := rest.cps.toList) (by decide) (by decide) (by decide) (by simp) b1
      rw [e5]
      simpa using this
    · have e5 : (Str.ofString "<!ENTITY a 'b'> <!ENTITY c 'd'>").cps.toList = [60, 33, 69, 78, 84, 73, 84, 89, 32, 97, 32, 39, 98, 39, 62, 32, 60, 33, 69, 78, 84, 73, 84, 89, 32, 99, 32, 39, 100, 39, 62] := by decide
      have := typeL_two (p := [32, 115, 118, 103, 32, 91, 60, 33, 69, 78, 84, 73, 84, 89, 32, 97, 32, 39, 98, 39]) (q := [32, 60, 33, 69, 78, 84, 73, 84, 89, 32, 99, 32, 39, 100, 39, 62]) (b := x.cps.toList) (r := rest.cps.toList) (by decide) (by decide) (by decide) (by decide) b1
      rw [e5]
      simpa using this
    · have e5 : (Str.ofString " ").cps.toList = [32] := by decide
      have := typeL_one (p := [32, 115, 118, 103, 32, 91, 32, 93] ++ x.cps.toList) (r := rest.cps.toList) (by simp [b1]) (by simp)
      rw [e5]
      simpa using this
theorem type_bare {x rest : Str} (bx : Blanks 0 x) : typeL (Str.ofString " svg" ++ x ++ Str.ofString ">" ++ rest).cps.toList = some rest.cps.toList := by
  have h := type_whole (mid := Str.ofString "") (rest := rest) (.inl rfl) bx
  have e5 : (Str.ofString "").cps.toList = [] := by decide
  simp only [app_list, e5, List.append_nil] at h ⊢
  exact h
/-- where the scanner stands behind a document type -/
theorem type_at {w rest : Str} {k' : Nat} (h : typeL ((w ++ rest).cps.toList.drop 0) = some ((w ++ rest).cps.toList.drop k')) (h2 : typeL (w ++ rest).cps.toList = some rest.cps.toList) (hk : k' ≤ (w ++ rest).length) : (k' : Int) = (w.length : Int) := by
  rw [List.drop_zero, h2] at h
  have h := congrArg List.length (Option.some.inj h)
  rw [List.length_drop, Array.length_toList, Array.length_toList] at h
  have e := app_len w rest
  simp only [Str.length] at *
  omega
end Mine
end
section
open PySem PySem.W PySem.Calls PySem.Spec PyProof.Rows
set_option Elab.async false
set_option maxRecDepth 100000
namespace Mine

def TextPost (src : Nat) (rest : Led) (v : Value) (n : Led) : Prop := ∃ i T m wr t1 t2 o', v = .ref T ∧ i ≤ 4 ∧ Goes i m wr ∧ IsSrc o' ∧ AllLt T ((src, o') :: rest) ∧ n = (T, tupO [.str m t1, .str wr t2]) :: (src, o') :: rest
theorem text_post {src : Nat} {rest : Led} {i : Nat} {T : Addr} {m wr : Str} {t1 t2 : Tok} {o' : Obj} (hi : i ≤ 4) (h : Goes i m wr) (hs : IsSrc o') (hT : AllLt T ((src, o') :: rest)) : TextPost src rest (.ref T) ((T, tupO [.str m t1, .str wr t2]) :: (src, o') :: rest) := ⟨_, _, _, _, _, _, _, rfl, hi, h, hs, hT, rfl⟩
set_option maxHeartbeats 4000000 in
theorem text_c (w : World) (p : Program) (loose : List Str) (mean : ExcName → Option Value) (mg mb : Str → Option Value) (rest : Led) (src : Nat) (o : Obj) (ho : IsSrc o) (hr : ∀ p ∈ rest, p.1 ≠ src) :
    Callee w p loose mean mg mb ((src, o) :: rest) 12 (.ref 206) [.ref src] (TextPost src rest) (fun n => False) := by
  w_top off
  k_with_none
  k_with "leaving ref" => (k_here; (with_reducible rename RaisedS _ _ _ _ _ _ _ _ _ => rsX); k_dflt (refine' leave_onS ?k1 ?k2 rsX ?k4 ?_; (case k2 => assumption); (case k1 => assumption); (case k4 => assumption); k_whole; intro h' S' R' U'; (try dsimp only at S' R' U' ⊢)))
  k_with "exec Raise some none" => (k_here; (with_reducible show wpAny _ _ (exec (Stmt.Raise (some (PySem.Expr.Call (PySem.Expr.Name ("SheetFault" : Str) _) _ _ _)) none _) _) _ _ _); k_dflt (refine fault_raise (by rfl) ?_))
  k_with "call ref" => (k_here; (with_reducible show wpAny _ _ (call (Value.ref 44) [_]) _ _ _); k_dflt (refine' fault_call ?k1 ?k2 ?k3 ?k4 ?k5 ?_; (case k1 => k_asm); (case k2 => k_asm); (case k3 => k_asm); (case k4 => k_is); (case k5 => k_is); k_whole; intro e' t' h' F' N' l1 l2; (try (first | have old9 := Old.mk l1.2.2.2.2.2.2 | have old9 := Old.mk l1.2.2.2.2.2 | have old9 := Old.mk l1.2.2.2.2 | have old9 := Old.mk l1.2.2.2 | have old9 := Old.mk l1.2.2 | have old9 := Old.mk l1.2 | have old9 := Old.mk l1)); (try k_lt l1); (try k_lt2 l2); k_enter))
  k_with "setAttr ref" => (k_here; k_dflt (refine' fault_store ?k1 ?k2 ?k3 ?k4 ?k5 ?k6 ?_; (case k1 => k_asm); (case k2 => k_asm); (case k3 => k_asm); (case k4 => k_is); (case k5 => k_is); (case k6 => k_all); k_whole; intro d' h' tk' F' N'))
  k_with "FaultEnd" => (k_dflt (refine' fault_end ?k1 ?k2 ?k3 ?k4 ?_; (case k1 => k_asm); (case k2 => k_asm); (case k3 => k_asm); (case k4 => exact List.Mem.head _)))
  k_with "leaving ref" => (k_here; k_dflt (refine' fault_leave ?k1 ?k2 ?k3 ?k4 ?k5 ?k6 ?k7 ?_; (case k1 => k_asm); (case k2 => k_asm); (case k3 => k_asm); (case k4 => k_all); (case k5 => k_all); (case k6 => exact rfl); (case k7 => exact rfl); k_whole; intro h' R' R2' U'; (try dsimp only at R' R2' U' ⊢)))
  k_with "exec While" => (k_here; refine stopW ?_)
  k_with "exec While Compare" => (k_here; refine stopW ?_)
  k_with "exec While BoolOp" => (k_here; refine stopW ?_)
  k_with "last exec While" => (k_here; refine stopW ?_)
  k_with "last exec While Compare" => (k_here; refine stopW ?_)
  k_with "call ref" => (k_here; (with_reducible show wpAny _ _ (call (Value.ref 178) [_, _]) _ _ _); k_dflt (refine' Callee.use (take_c _ _ _ _ _ _ _ _ _ ?us _ _ ?ur ?ua ?ub) ?u1 ?u2 ?u3 ?u4 ?u5 ?u6 ?u7 ?u8 ?_ ?_; (case u1 => k_asm); (case u2 => k_asm); (case u3 => k_asm); (case u4 => first | k_asm | exact news_swap (by k_asm)); (case u5 => k_asm); (case u6 => first | exact rfl | assumption); (case u7 => ktr_room); (case u8 => ktr_units); (case us => with_reducible assumption); (case ur => (first | with_reducible assumption | exact List.forall_mem_cons.mpr ⟨by k_ne, by (first | with_reducible assumption | exact List.forall_mem_cons.mpr ⟨by k_ne, by (first | with_reducible assumption | exact List.forall_mem_cons.mpr ⟨by k_ne, by (first | with_reducible assumption | exact List.forall_mem_cons.mpr ⟨by k_ne, by with_reducible assumption⟩)⟩)⟩)⟩)); (case ua => omega); (case ub => omega)); rotate_left 1; intro e9 t9 vs9 g9 h9 tk9 n9 P9 F9 R9 K9 U9; exact P9.elim; intro v9 h9 tk9 n9 F9 N9 P9; obtain ⟨d9, t9, o9, q1, hlo9, hhi9, hs9, q2⟩ := P9; subst q1; subst q2; (try dsimp only); (try k_fold))
  k_with "exec For Name Call cons nil" => (k_here; (rename Fr _ _ _ _ => lF'); (with_unfolding_all refine' For_invVF lF' ?k1 ?k2 ?_; (case k1 => exact rfl); (case k2 => exact rfl); k_whole))
  k_with "pyIter ref" => (k_here; refine stopW ?_)
  k_with "InvEndN" => (refine stopW ?_)
  k_with "call ref" => (k_here; (try dsimp only [List.cons_append, List.nil_append]); (with_reducible show wpAny _ _ (call (Value.ref 185) [_, _]) _ _ _); k_dflt (refine' Callee.use (one_c _ _ _ _ _ _ _ _ _ ?us _ _ _ ["x", ";", " y", "#", "="] ?ur (List.Mem.head _) ?uq ?ua ?ub) ?u1 ?u2 ?u3 ?u4 ?u5 ?u6 ?u7 ?u8 ?_ ?_; (case u1 => k_asm); (case u2 => k_asm); (case u3 => k_asm); (case u4 => exact news_swap (by k_asm)); (case u5 => k_asm); (case u6 => first | exact rfl | assumption); (case u7 => ktr_room); (case u8 => ktr_units); (case us => with_reducible assumption); (case ur => (first | with_reducible assumption | exact List.forall_mem_cons.mpr ⟨by k_ne, by (first | with_reducible assumption | exact List.forall_mem_cons.mpr ⟨by k_ne, by (first | with_reducible assumption | exact List.forall_mem_cons.mpr ⟨by k_ne, by (first | with_reducible assumption | exact List.forall_mem_cons.mpr ⟨by k_ne, by with_reducible assumption⟩)⟩)⟩)⟩)); (case uq => repeat first | exact .nil | refine .cons _ _ ?_); (case ua => exact Nat.le_of_ble_eq_true rfl); (case ub => exact Nat.le_of_ble_eq_true rfl)); rotate_left 1; intro e9 t9 vs9 g9 h9 tk9 n9 P9 F9 R9 K9 U9; exact P9.elim; intro v9 h9 tk9 n9 F9 N9 P9; obtain ⟨c9, t9, o9, q1, hc9, hs9, q2⟩ := P9; subst q1; subst q2; have hpl9 := plain_len hc9; (try dsimp only); (try k_fold))
  k_with "call ref" => (k_here; (try dsimp only [List.cons_append, List.nil_append]); (with_reducible show wpAny _ _ (call (Value.ref 192) [_]) _ _ _); k_dflt (refine' Callee.use (sgn_c _ _ _ _ _ _ _ _ _ ?us ?ur) ?u1 ?u2 ?u3 ?u4 ?u5 ?u6 ?u7 ?u8 ?_ ?_; (case u1 => k_asm); (case u2 => k_asm); (case u3 => k_asm); (case u4 => k_asm); (case u5 => k_asm); (case u6 => first | exact rfl | assumption); (case u7 => ktr_room); (case u8 => ktr_units); (case us => with_reducible assumption); (case ur => (first | with_reducible assumption | exact List.forall_mem_cons.mpr ⟨by k_ne, by (first | with_reducible assumption | exact List.forall_mem_cons.mpr ⟨by k_ne, by (first | with_reducible assumption | exact List.forall_mem_cons.mpr ⟨by k_ne, by (first | with_reducible assumption | exact List.forall_mem_cons.mpr ⟨by k_ne, by with_reducible assumption⟩)⟩)⟩)⟩))); rotate_left 1; intro e9 t9 vs9 g9 h9 tk9 n9 P9 F9 R9 K9 U9; exact P9.elim; intro v9 h9 tk9 n9 F9 N9 P9; unfold SgnPost at P9; obtain ⟨T9, c9, wr9, t8, t9, o9, q1, hok9, hs9, q2⟩ := P9; subst q1; subst q2; have hol9 := okW_len hok9; (try dsimp only); (try k_fold))
  k_with "binaryOp Add str str" => (k_here; (with_reducible show wpAny _ _ (binaryOp Operator.Add (Value.str _ _) (Value.str _ _)) _ _ _); (refine add_len ?hs9 ?_); (case hs9 => omega); intro _ _ hal9)
  unfold Callee PR
  k_fill
  intro dp un gd cn cs fa ccd cl outer A₀ base h₀ L m s Q E B F X N T hk hdp hun hret hraise
  refine wpAny_call ?_

  k_dflt cell_enter
  k_steps
  unfold Stop
  have l8 := ‹src < _ ∧ AllLt _ rest›
  have old8 := Old.of' _ _ l8.2
  have hs8 := ‹IsSrc _›
  (rename News _ _ _ _ => N1)
  have N2 := news_skip N1
  (rename Fr _ _ _ _ => F1)
  k_dflt (refine' kst_range (fun c : XS => (src, c.o) :: rest) (fun c => [(Str.ofString "meant", .str c.m c.t1), (Str.ofString "written", .str c.wr c.t2)]) (fun _ => True) [Str.ofString "plain", Str.ofString "sign", Str.ofString "way"] (fun pre c => IsSrc c.o ∧ Goes pre.length c.m c.wr) ⟨_, _, _, _, _⟩ (by rfl) (by with_reducible assumption) (small_one (by omega) (by omega) (by omega) (by omega)) (by exact rangeSize_nat _ _) F1 N2 trivial ?kk ?kp ?turn ?done)
  case kk => kst_all
  case kp => exact ⟨by with_reducible assumption, Goes.nil⟩
  case turn =>
    rintro ⟨o1, m1, wr1, ta, tb⟩ pre k t u h tk own hk hlt hoff _ ⟨hs1, hg1⟩ F3 N3
    dsimp only [kstB] at *
    have hm8 := hg1.lm
    have hw8 := hg1.lw
    have hp4 : pre.length ≤ 3 := by omega
    obtain ⟨R, hR⟩ : ∃ R, R = rest ++ own := ⟨_, rfl⟩
    have hR1 : ∀ p ∈ rest, p ∈ R := fun p hp => by rw [hR]; exact List.mem_append.mpr (.inl hp)
    have hR2 : ∀ p ∈ own, p ∈ R := fun p hp => by rw [hR]; exact List.mem_append.mpr (.inr hp)
    have hR3 : ∀ p ∈ R, p.1 ≠ src := fun p hp => by
      rw [hR] at hp
      rcases List.mem_append.mp hp with hp | hp
      · exact hr p hp
      · exact hoff p hp src (.head _)
    rw [List.cons_append, ← hR] at N3
    clear hR
    k_steps
    · unfold Stop
      (rename Fr _ _ _ _ => F9); (rename News _ _ _ _ => N9)
      refine' kst_end ⟨_, m1 ++ _, wr1 ++ _, _, _⟩ F9 N9 ?ha ?hb rfl trivial ?hk ?hd ⟨by with_reducible assumption, ?hg⟩
      case hk => kst_all
      case ha =>
        intro p hp
        rcases List.mem_cons.mp hp with rfl | hp
        · exact .tail _ (.head _)
        · exact .tail _ (.tail _ (.tail _ (hR1 _ hp)))
      case hb => exact fun p hp => .tail _ (.tail _ (.tail _ (hR2 _ hp)))
      case hg => rw [List.length_append]; exact hg1.plain (by with_reducible assumption)
      case hd => kst_same
    · unfold Stop
      (rename Fr _ _ _ _ => F9); (rename News _ _ _ _ => N9)
      refine' kst_end ⟨_, m1 ++ _, wr1 ++ _, _, _⟩ F9 N9 ?ha ?hb rfl trivial ?hk ?hd ⟨by with_reducible assumption, ?hg⟩
      case hk => kst_all
      case ha =>
        intro p hp
        rcases List.mem_cons.mp hp with rfl | hp
        · exact .tail _ (.tail _ (.head _))
        · exact .tail _ (.tail _ (.tail _ (hR1 _ hp)))
      case hb => exact fun p hp => .tail _ (.tail _ (.tail _ (hR2 _ hp)))
      case hg => rw [List.length_append]; exact hg1.ref (by with_reducible assumption)
      case hd => kst_same
  case done =>
    rintro ⟨o1, m1, wr1, ta, tb⟩ u h tk _ ⟨hs1, hg1⟩ F3 N3
    dsimp only [kstB] at *
    rw [rangeKs_length] at hg1
    k_steps
    (rename News _ _ _ _ => N9)
    have l9 := ‹src < _ ∧ AllLt _ rest›
    exact hret _ _ _ _ (by k_asm) N9 (text_post (by omega) hg1 hs1 l9)
end Mine
end
section
open PySem PySem.W PySem.Calls PySem.Spec PyProof.Rows
set_option Elab.async false
set_option maxRecDepth 100000
namespace Mine

set_option maxHeartbeats 4000000 in
theorem sign_c (w : World) (p : Program) (loose : List Str) (mean : ExcName → Option Value) (mg mb : Str → Option Value) (news : Led) (word : Str) (tw : Tok) (hl : word.length ≤ 1000000) (hw : ∀ c ∈ word.cps.toList, c < 0x110000) (r : Option Str) (hs : signF word = some r) :
    Callee w p loose mean mg mb news 12 (.ref 136) [.str word tw]
      (fun v n => ∃ c t, r = some c ∧ v = .str c t ∧ n = news) (fun n => r = none ∧ ∀ p ∈ news, p ∈ n) := by
  w_top off
  k_with_none
  k_with "exec Raise some none" => (k_here; (with_reducible show wpAny _ _ (exec (Stmt.Raise (some (PySem.Expr.Call (PySem.Expr.Name ("SheetFault" : Str) _) _ _ _)) none _) _) _ _ _); k_dflt (refine fault_raise (by rfl) ?_))
  k_with "call ref" => (k_here; (with_reducible show wpAny _ _ (call (Value.ref 44) [_]) _ _ _); k_dflt (refine' fault_call ?k1 ?k2 ?k3 ?k4 ?k5 ?_; (case k1 => k_asm); (case k2 => k_asm); (case k3 => k_asm); (case k4 => k_is); (case k5 => k_is); k_whole; intro e' t' h' F' N' l1 l2; (try k_lt l1); (try k_lt2 l2); k_enter))
  k_with "setAttr ref" => (k_here; k_dflt (refine' fault_store ?k1 ?k2 ?k3 ?k4 ?k5 ?k6 ?_; (case k1 => k_asm); (case k2 => k_asm); (case k3 => k_asm); (case k4 => k_is); (case k5 => k_is); (case k6 => k_all); k_whole; intro d' h' tk' F' N'))
  k_with "FaultEnd" => (k_dflt (refine' fault_end ?k1 ?k2 ?k3 ?k4 ?_; (case k1 => k_asm); (case k2 => k_asm); (case k3 => k_asm); (case k4 => exact List.Mem.head _)))
  k_with "leaving ref" => (k_here; k_dflt (refine' fault_leave ?k1 ?k2 ?k3 ?k4 ?k5 ?k6 ?k7 ?_; (case k1 => k_asm); (case k2 => k_asm); (case k3 => k_asm); (case k4 => k_all); (case k5 => k_all); (case k6 => exact rfl); (case k7 => exact rfl); k_whole; intro h' R' R2' U'; (try dsimp only at R' R2' U' ⊢)))
  k_with "compareOp IsNot" => (k_here; (with_reducible rename PyProof.V.Flat _ _ => hq9); obtain ⟨hv9, hn9⟩ | ⟨c9, t9, hv9, hn9⟩ := named_flat hq9 <;> (clear hq9; subst hv9))
  k_with "eval ListComp" => (k_here; k_dflt (refine ListComp_TS (F₀ := by k_asm) (by with_unfolding_all rfl) (by decide) (by rfl) (by decide) (by rfl) ?_))
  k_with "compareOp NotIn str str" => (k_here; k_dflt (refine notin_char ?_))
  k_with "compareOp NotEq ref ref" => (k_here; k_dflt (refine' ne_lits ?k1 ?ka ?k2 ?k3 ?k4 ?k5 ?k6 ?k7 ?_; (case k1 => k_asm); (case k2 => with_reducible assumption); (case ka => k_mem); (case k3 => exact ok_chars _ (by assumption)); (case k4 => k_mem); (case k5 => rfl); (case k6 => rfl); (case k7 => (first | k_room | ke_room)); k_whole))
  unfold Callee PR
  k_fill
  intro dp un gd cn cs fa ccd cl outer A₀ base h₀ L m s Q E B F X N T hk hdp hun hret hraise
  refine wpAny_call ?_

  k_dflt (refine' code_defC ?k1 ?k2 ?k3 ?k4 ?k5 ?kA ?kF ?kK ?k6 ?k7 ?k8 ?k9 ?kB ?kD ?_ ?c2 ?c3 ?c4; (case kA => exact rfl); (case kF => exact rfl); (case kK => assumption); (case k1 => k_asm); (case k2 => k_asm); (case k3 => k_asm); (case k4 => k_asm); (case k5 => k_asm); (case k6 => k_is); (case k7 => k_is); (case k8 => ktr_room); (case k9 => exact BindsTo.of_eq rfl); (case kB => exact rfl); (case kD => decide +kernel); (case c2 => exact rfl); (case c3 => exact rfl); (case c4 => exact rfl); k_whole; intro g' L' h' tk' cells' FG' F' N' Y' B' X' T' l1; have old := Old.mk l1; k_cells Y'; (try simp only [List.cons_append, List.nil_append] at N'); (try dsimp only); (try k_lift B'); (try k_fold))
  k_steps
  · (refine hraise _ _ _ _ _ _ _ ?_ (by assumption) (by assumption) (by assumption) (by assumption); exact ⟨signF_r (by with_reducible assumption) (by with_reducible assumption) true 2 rfl (by with_reducible assumption) (.inl (by with_reducible assumption)), by intro p hp; simp [hp]⟩)
  · (refine hraise _ _ _ _ _ _ _ ?_ (by assumption) (by assumption) (by assumption) (by assumption); exact ⟨signF_r (by with_reducible assumption) (by with_reducible assumption) true 2 rfl (by with_reducible assumption) (.inr (.inl (by with_reducible assumption))), by intro p hp; simp [hp]⟩)
  · (refine hraise _ _ _ _ _ _ _ ?_ (by assumption) (by assumption) (by assumption) (by assumption); exact ⟨signF_r (by with_reducible assumption) (by with_reducible assumption) true 2 rfl (by with_reducible assumption) (.inr (.inr (.inl (by with_reducible assumption)))), by intro p hp; simp [hp]⟩)
  · 
    refine ⟨_,_,_,rfl,by simp only [Str.length] at *; rw [show sizeLine = 16777216 by rfl]; omega,rfl,by k_asm,by k_asm,?_⟩
    rintro s₂ ⟨hh, rfl⟩
    dsimp only
    refine comp_filter _ (fun c => !(inC (Str.ofString "0123456789abcdefABCDEF") c)) _ ?_ ?_ ?_
    · intro c u I oI C oC D m₂ h tk ys E' Q' hC hx F N off hq
      dsimp only
      k_steps
      exact hq _ _ (by k_asm) (by k_asm)
    · intro c u I oI C oC D m₂ h tk ys E' Q' hC hx F N off hq
      dsimp only
      k_steps
      exact hq _ _ _ (by k_asm) (by k_asm)
    intro ys hys
    intro D h tk F N off
    dsimp only
    have hbad : ∀ c ∈ List.filter (fun c => !inC (Str.ofString "0123456789abcdefABCDEF") c) (Txt.slice word (some 2) none).cps.toList, c < 0x110000 := fun c hc => hw c (slice_mem (i := 2) (by decide) ((List.mem_filter.mp hc).1))
    k_steps
    · obtain ⟨n9, hn9, hr9⟩ := signF_h (by with_reducible assumption) (by with_reducible assumption) (by with_reducible assumption) (by with_reducible assumption) (by with_reducible assumption) (by with_reducible assumption) (by with_reducible assumption) 
      refine call_base (by first | exact base16 | exact base10) hn9 ?_
      k_steps
      · refine hret _ _ _ news (by k_asm) (cb_drop (by k_asm) (by intro p hp; simp [hp])) ⟨_, _, ?_, rfl, rfl⟩
        rw [hr9, if_pos (by omega)]
      all_goals
        refine hraise _ _ _ _ _ _ _ ?_ (by assumption) (by assumption) (by assumption) (by assumption)
        exact ⟨by rw [hr9, if_neg (by omega)], by intro p hp; simp [hp]⟩
    · (refine hraise _ _ _ _ _ _ _ ?_ (by assumption) (by assumption) (by assumption) (by assumption); exact ⟨signF_r (by with_reducible assumption) (by with_reducible assumption) true 2 rfl (by with_reducible assumption) (.inr (.inr (.inr (by with_reducible assumption)))), by intro p hp; simp [hp]⟩)

  · (refine hraise _ _ _ _ _ _ _ ?_ (by assumption) (by assumption) (by assumption) (by assumption); exact ⟨signF_r (by with_reducible assumption) (by with_reducible assumption) false 1 rfl (by with_reducible assumption) (.inl (by with_reducible assumption)), by intro p hp; simp [hp]⟩)
  · (refine hraise _ _ _ _ _ _ _ ?_ (by assumption) (by assumption) (by assumption) (by assumption); exact ⟨signF_r (by with_reducible assumption) (by with_reducible assumption) false 1 rfl (by with_reducible assumption) (.inr (.inl (by with_reducible assumption))), by intro p hp; simp [hp]⟩)
  · (refine hraise _ _ _ _ _ _ _ ?_ (by assumption) (by assumption) (by assumption) (by assumption); exact ⟨signF_r (by with_reducible assumption) (by with_reducible assumption) false 1 rfl (by with_reducible assumption) (.inr (.inr (.inl (by with_reducible assumption)))), by intro p hp; simp [hp]⟩)
  · 
    refine ⟨_,_,_,rfl,by simp only [Str.length] at *; rw [show sizeLine = 16777216 by rfl]; omega,rfl,by k_asm,by k_asm,?_⟩
    rintro s₂ ⟨hh, rfl⟩
    dsimp only
    refine comp_filter _ (fun c => !(inC (Str.ofString "0123456789") c)) _ ?_ ?_ ?_
    · intro c u I oI C oC D m₂ h tk ys E' Q' hC hx F N off hq
      dsimp only
      k_steps
      exact hq _ _ (by k_asm) (by k_asm)
    · intro c u I oI C oC D m₂ h tk ys E' Q' hC hx F N off hq
      dsimp only
      k_steps
      exact hq _ _ _ (by k_asm) (by k_asm)
    intro ys hys
    intro D h tk F N off
    dsimp only
    have hbad : ∀ c ∈ List.filter (fun c => !inC (Str.ofString "0123456789") c) (Txt.slice word (some 1) none).cps.toList, c < 0x110000 := fun c hc => hw c (slice_mem (i := 1) (by decide) ((List.mem_filter.mp hc).1))
    k_steps
    · obtain ⟨n9, hn9, hr9⟩ := signF_d (by with_reducible assumption) (by with_reducible assumption) (by with_reducible assumption) (by with_reducible assumption) (by with_reducible assumption) (by with_reducible assumption) (by with_reducible assumption) 
      refine call_base (by first | exact base16 | exact base10) hn9 ?_
      k_steps
      · refine hret _ _ _ news (by k_asm) (cb_drop (by k_asm) (by intro p hp; simp [hp])) ⟨_, _, ?_, rfl, rfl⟩
        rw [hr9, if_pos (by omega)]
      all_goals
        refine hraise _ _ _ _ _ _ _ ?_ (by assumption) (by assumption) (by assumption) (by assumption)
        exact ⟨by rw [hr9, if_neg (by omega)], by intro p hp; simp [hp]⟩
    · (refine hraise _ _ _ _ _ _ _ ?_ (by assumption) (by assumption) (by assumption) (by assumption); exact ⟨signF_r (by with_reducible assumption) (by with_reducible assumption) false 1 rfl (by with_reducible assumption) (.inr (.inr (.inr (by with_reducible assumption)))), by intro p hp; simp [hp]⟩)

  · refine hret _ _ _ news (by k_asm) (cb_drop (by k_asm) (by intro p hp; simp [hp])) ⟨_, _, signF_n (by with_reducible assumption) (by with_reducible assumption), rfl, rfl⟩
end Mine
end
section
open PySem PySem.W PySem.Calls PySem.Spec PyProof.Rows
set_option Elab.async false
set_option maxRecDepth 100000
namespace Mine

local macro_rules | `(tactic| size_fits) => `(tactic| ((try simp only [Array.size_push]); rw [PySem.sizeLine_eq]; omega))
set_option maxHeartbeats 4000000 in
theorem unesc_c (w : World) (p : Program) (loose : List Str) (mean : ExcName → Option Value) (mg mb : Str → Option Value) (news : Led) (x : Str) (tw : Tok) (hl : x.length ≤ 1000000) (hw : ∀ c ∈ x.cps.toList, c < 0x110000) (r : Option (List Nat)) (hr : unescL (x.length + 1) x.cps.toList = some r) :
    Callee w p loose mean mg mb news 16 (.ref 143) [.str x tw]
      (fun v n => ∃ u t, r = some u ∧ v = .str ⟨u.toArray⟩ t ∧ n = news) (fun n => r = none ∧ ∀ p ∈ news, p ∈ n) := by
  w_top off
  k_with_none
  k_with "leaving ref" => (k_here; (with_reducible rename RaisedS _ _ _ _ _ _ _ _ _ => rsX); k_dflt (refine' leave_onS ?k1 ?k2 rsX ?k4 ?_; (case k2 => assumption); (case k1 => assumption); (case k4 => assumption); k_whole; intro h' S' R' U'; (try dsimp only at S' R' U' ⊢)))
  k_with "exec Raise some none" => (k_here; (with_reducible show wpAny _ _ (exec (Stmt.Raise (some (PySem.Expr.Call (PySem.Expr.Name ("SheetFault" : Str) _) _ _ _)) none _) _) _ _ _); k_dflt (refine fault_raise (by rfl) ?_))
  k_with "call ref" => (k_here; (with_reducible show wpAny _ _ (call (Value.ref 44) [_]) _ _ _); k_dflt (refine' fault_call ?k1 ?k2 ?k3 ?k4 ?k5 ?_; (case k1 => k_asm); (case k2 => k_asm); (case k3 => k_asm); (case k4 => k_is); (case k5 => k_is); k_whole; intro e' t' h' F' N' l1 l2; (try (first | have old9 := Old.mk l1.2.2.2 | have old9 := Old.mk l1.2.2 | have old9 := Old.mk l1.2 | have old9 := Old.mk l1)); (try k_lt l1); (try k_lt2 l2); k_enter))
  k_with "setAttr ref" => (k_here; k_dflt (refine' fault_store ?k1 ?k2 ?k3 ?k4 ?k5 ?k6 ?_; (case k1 => k_asm); (case k2 => k_asm); (case k3 => k_asm); (case k4 => k_is); (case k5 => k_is); (case k6 => k_all); k_whole; intro d' h' tk' F' N'))
  k_with "FaultEnd" => (k_dflt (refine' fault_end ?k1 ?k2 ?k3 ?k4 ?_; (case k1 => k_asm); (case k2 => k_asm); (case k3 => k_asm); (case k4 => exact List.Mem.head _)))
  k_with "leaving ref" => (k_here; k_dflt (refine' fault_leave ?k1 ?k2 ?k3 ?k4 ?k5 ?k6 ?k7 ?_; (case k1 => k_asm); (case k2 => k_asm); (case k3 => k_asm); (case k4 => k_all); (case k5 => k_all); (case k6 => exact rfl); (case k7 => exact rfl); k_whole; intro h' R' R2' U'; (try dsimp only at R' R2' U' ⊢)))
  k_with "exec While" => (k_here; refine stopW ?_)
  k_with "exec While Compare" => (k_here; refine stopW ?_)
  k_with "exec While BoolOp" => (k_here; refine stopW ?_)
  k_with "last exec While" => (k_here; refine stopW ?_)
  k_with "last exec While Compare" => (k_here; refine stopW ?_)
  k_with "call ref" => (k_here; (with_reducible show wpAny _ _ (call (Value.ref 136) [_]) _ _ _); refine stopW ?_)
  unfold Callee PR
  k_fill
  intro dp un gd cn cs fa ccd cl outer A₀ base h₀ L m s Q E B F X N T hk hdp hun hret hraise
  refine wpAny_call ?_

  k_dflt cell_enter
  k_steps
  unfold Stop
  (rename Fr _ _ _ _ => F1); (rename News _ _ _ _ => N1)
  have old : Old _ news := ⟨by with_reducible assumption⟩
  k_dflt (refine' ksw_while (fun c : US => (_, W.listOf c.ys c.n) :: news) (fun c : US => [(Str.ofString "at", .int (c.k : Int) c.t)]) (fun _ => True) [Str.ofString "mark", Str.ofString "end"] (UInv x r) (fun c => x.length - c.k) ⟨0, _, #[], 0, []⟩ F1 N1 trivial ?kk ?kp ?turn)
  case kk =>
    intro p hp
    rcases List.mem_singleton.mp hp with rfl
    rfl
  case kp => exact ⟨Nat.zero_le _, .nil, Nat.le_refl _, Nat.le_refl _, _, _, hr, by cases r <;> simp [flat]⟩
  case turn =>
    rintro ⟨k, t, ys, n, ds⟩ u h tk _ I F N
    dsimp only at *
    have hle := I.le
    have hsz := I.sz
    dsimp only at hle hsz
    k_steps
    · exact ksw_end ⟨x.length, _, ys.push (.str (Txt.slice x (some (k : Int)) (some (x.length : Int))) _), _, ds ++ [Txt.slice x (some (k : Int)) (some (x.length : Int))]⟩ (by assumption) (by assumption) (fun _ q => q) trivial (all1 rfl) (by intro z h2 h3; simp at h2 h3; simp [kstB, h2, h3]) (step_none I (by with_reducible assumption) (by with_reducible assumption) _ _ _) (by dsimp only; omega)
    · refine hraise _ _ _ _ _ _ _ ?_ (by assumption) (by assumption) (by assumption) (by assumption)
      exact ⟨step_raise I (by with_reducible assumption) (by with_reducible assumption) (by with_reducible assumption), by intro p hp; simp [hp]⟩
    · obtain ⟨q, hq1, hq2, hq3, hq4⟩ := step_sign I (by with_reducible assumption) (by with_reducible assumption) (by with_reducible assumption)
      unfold Stop
      k_dflt (refine' Callee.use (sign_c _ _ _ _ _ _ _ _ _ (by omega) (fun c hc => hw c (hq2 c hc)) _ hq1) ?u1 ?u2 ?u3 ?u4 ?u5 ?u6 ?u7 ?u8 ?u9 ?u10)
      case u1 => k_asm
      case u2 => k_asm
      case u3 => k_asm
      case u4 => k_asm
      case u5 => k_asm
      case u6 => first | exact rfl | assumption
      case u7 => ktr_room
      case u8 => ktr_units
      case u10 =>
        intro e9 t9 vs9 g9 h9 tk9 n9 P9 F9 R9 K9 U9
        (try dsimp only); (try k_fold)
        k_steps
        refine hraise _ _ _ _ _ _ _ ?_ (by assumption) (by assumption) (by assumption) (by assumption)
        exact ⟨hq3 P9.1, fun p hp => P9.2 p (List.mem_cons_of_mem _ hp)⟩
      case u9 =>
        intro v9 h9 tk9 n9 F9 N9 P9
        obtain ⟨c9, t9, hc9, rfl, rfl⟩ := P9
        (try dsimp only); (try k_fold)
        k_steps
        obtain ⟨k', e1, e2, e3, hU⟩ := hq4 c9 hc9
        exact ksw_end ⟨k', _, (ys.push (.str (Txt.slice x (some (k : Int)) (some (Txt.find3 x (Str.ofString "&") (k : Int)))) _)).push (.str c9 _), _, ds ++ [Txt.slice x (some (k : Int)) (some (Txt.find3 x (Str.ofString "&") (k : Int)))] ++ [c9]⟩ (by assumption) (by assumption) (fun _ q => q) trivial (all1 (congrArg (fun i => some (Value.int i _)) e1)) (by intro z h2 h3; simp at h2 h3; simp [kstB, h2, h3]) (hU _ _ _ _) (by dsimp only; omega)
    · have h0 : ¬ Txt.find3 x (Str.ofString "&") (k : Int) < 0 := by with_reducible assumption
      rw [amp_eq] at h0
      obtain ⟨w9, _, h9, h10⟩ := find_ge h0
      have h11 : ¬ Txt.find3 x (Str.ofString "&") (k : Int) < (x.length : Int) := by with_reducible assumption
      rw [amp_eq, h10] at h11
      have h12 := congrArg List.length h9
      rw [List.length_drop, len_list, List.length_append, List.length_cons] at h12
      omega
    · have hlen := I.len
      have hfl := step_end I (by with_reducible assumption)
      dsimp only at hlen
      refine join_list ⟨_, N.get (List.Mem.head _), rfl, _, rfl⟩ I.texts (by rw [show (Str.ofString "").length = 0 by decide, Nat.mul_zero, sum_flat]; dsimp only; omega) ?_
      intro t9 k9
      rw [join_flat]
      dsimp only
      k_steps
      exact hret _ _ _ news (by k_asm) (cb_drop (by k_asm) (by intro p hp; simp [hp])) ⟨_, _, hfl, rfl, rfl⟩
end Mine
end
section
open PySem PySem.W PySem.Calls PySem.Spec PyProof.Rows
set_option Elab.async false
set_option maxRecDepth 100000
namespace Mine

set_option maxHeartbeats 4000000 in
theorem takes_c (w : World) (p : Program) (loose : List Str) (mean : ExcName → Option Value) (mg mb : Str → Option Value) (rest : Led) (sc dx : Nat) (h1 h2 : Int) (t1 t2 : Tok) (x : Str) (tx : Tok) (k : Nat) (tk0 : Tok) (hr : ∀ p ∈ rest, p.1 ≠ dx) (hne : sc ≠ dx) (hl : x.length ≤ 1000000) (hkl : k ≤ x.length) (wd : Str) (wt : Tok) (hwd : wd.length ≤ 100) :
    Callee w p loose mean mg mb ((sc, instObj 127 dx) :: (dx, dictOf [⟨h1, .str (Str.ofString "text") t1, .str x tx⟩, ⟨h2, .str (Str.ofString "at") t2, .int ((k : Nat) : Int) tk0⟩] 2) :: rest) 2 (.ref 103) [.ref sc, .str wd wt]
      (fun v n => ∃ t, v = .bool (wd.cps.toList.isPrefixOf (x.cps.toList.drop k)) ∧ n = ((sc, instObj 127 dx) :: (dx, dictOf [⟨h1, .str (Str.ofString "text") t1, .str x tx⟩, ⟨h2, .str (Str.ofString "at") t2, .int ((if wd.cps.toList.isPrefixOf (x.cps.toList.drop k) = true then k + wd.length else k : Nat) : Int) t⟩] 2) :: rest)) (fun n => False) := by
  w_top off
  k_with_none
  k_with "leaving ref" => (k_here; (with_reducible rename RaisedS _ _ _ _ _ _ _ _ _ => rsX); k_dflt (refine' leave_onS ?k1 ?k2 rsX ?k4 ?_; (case k2 => assumption); (case k1 => assumption); (case k4 => assumption); k_whole; intro h' S' R' U'; (try dsimp only at S' R' U' ⊢)))
  k_with "exec Raise some none" => (k_here; (with_reducible show wpAny _ _ (exec (Stmt.Raise (some (PySem.Expr.Call (PySem.Expr.Name ("SheetFault" : Str) _) _ _ _)) none _) _) _ _ _); k_dflt (refine fault_raise (by rfl) ?_))
  k_with "call ref" => (k_here; (with_reducible show wpAny _ _ (call (Value.ref 44) [_]) _ _ _); k_dflt (refine' fault_call ?k1 ?k2 ?k3 ?k4 ?k5 ?_; (case k1 => k_asm); (case k2 => k_asm); (case k3 => k_asm); (case k4 => k_is); (case k5 => k_is); k_whole; intro e' t' h' F' N' l1 l2; (try (first | have old9 := Old.mk l1.2.2.2 | have old9 := Old.mk l1.2.2 | have old9 := Old.mk l1.2 | have old9 := Old.mk l1)); (try k_lt l1); (try k_lt2 l2); k_enter))
  k_with "setAttr ref" => (k_here; k_dflt (refine' fault_store ?k1 ?k2 ?k3 ?k4 ?k5 ?k6 ?_; (case k1 => k_asm); (case k2 => k_asm); (case k3 => k_asm); (case k4 => k_is); (case k5 => k_is); (case k6 => k_all); k_whole; intro d' h' tk' F' N'))
  k_with "FaultEnd" => (k_dflt (refine' fault_end ?k1 ?k2 ?k3 ?k4 ?_; (case k1 => k_asm); (case k2 => k_asm); (case k3 => k_asm); (case k4 => exact List.Mem.head _)))
  k_with "leaving ref" => (k_here; k_dflt (refine' fault_leave ?k1 ?k2 ?k3 ?k4 ?k5 ?k6 ?k7 ?_; (case k1 => k_asm); (case k2 => k_asm); (case k3 => k_asm); (case k4 => k_all); (case k5 => k_all); (case k6 => exact rfl); (case k7 => exact rfl); k_whole; intro h' R' R2' U'; (try dsimp only at R' R2' U' ⊢)))
  k_with "exec While" => (k_here; refine stopW ?_)
  k_with "exec While Compare" => (k_here; refine stopW ?_)
  k_with "exec While BoolOp" => (k_here; refine stopW ?_)
  k_with "last exec While" => (k_here; refine stopW ?_)
  k_with "last exec While Compare" => (k_here; refine stopW ?_)
  k_with "last subscriptTail" => (k_here; (with_reducible show wpAny _ _ (subscriptTail _ _ (Value.str _ _) (Value.int (Nat.cast _) _)) _ _ _); obtain ⟨c9, hc9, hd9⟩ := at_some (by with_reducible assumption); k_dflt (refine sub_char hc9 (by with_reducible assumption) ?_))
  k_with "compareOp In str str" => (k_here; k_dflt (refine in_char ?_))
  k_with "compareOp NotIn str str" => (k_here; k_dflt (refine notin_char ?_))
  unfold Callee PR
  k_fill
  intro dp un gd cn cs fa ccd cl outer A₀ base h₀ L m s Q E B F X N T hk hdp hun hret hraise
  refine wpAny_call ?_

  k_dflt cell_enter
  k_steps
  · exact hret _ _ _ _ (by k_asm) (by k_asm) ⟨_, by rw [← starts_eq hkl]; exact congrArg Value.bool (Eq.symm (by with_reducible assumption)), by rw [← starts_eq hkl, if_pos (by with_reducible assumption), Int.natCast_add]⟩
  · exact hret _ _ _ _ (by k_asm) (by k_asm) ⟨_, by rw [← starts_eq hkl]; exact congrArg Value.bool (Eq.symm (by with_reducible assumption)), by rw [← starts_eq hkl, if_neg (by rw [Bool.not_eq_true]; with_reducible assumption)]⟩

set_option maxHeartbeats 4000000 in
theorem spaces_c (w : World) (p : Program) (loose : List Str) (mean : ExcName → Option Value) (mg mb : Str → Option Value) (rest : Led) (sc dx : Nat) (h1 h2 : Int) (t1 t2 : Tok) (x : Str) (tx : Tok) (k : Nat) (tk0 : Tok) (hr : ∀ p ∈ rest, p.1 ≠ dx) (hne : sc ≠ dx) (hl : x.length ≤ 1000000) (hkl : k ≤ x.length) :
    Callee w p loose mean mg mb ((sc, instObj 127 dx) :: (dx, dictOf [⟨h1, .str (Str.ofString "text") t1, .str x tx⟩, ⟨h2, .str (Str.ofString "at") t2, .int ((k : Nat) : Int) tk0⟩] 2) :: rest) 3 (.ref 117) [.ref sc]
      (fun v n => v = .none ∧ ∃ t, n = ((sc, instObj 127 dx) :: (dx, dictOf [⟨h1, .str (Str.ofString "text") t1, .str x tx⟩, ⟨h2, .str (Str.ofString "at") t2, .int ((k + ((x.cps.toList.drop k).takeWhile (fun c => inC " \t\n\r" c)).length : Nat) : Int) t⟩] 2) :: rest)) (fun n => False) := by
  w_top off
  k_with_none
  k_with "leaving ref" => (k_here; (with_reducible rename RaisedS _ _ _ _ _ _ _ _ _ => rsX); k_dflt (refine' leave_onS ?k1 ?k2 rsX ?k4 ?_; (case k2 => assumption); (case k1 => assumption); (case k4 => assumption); k_whole; intro h' S' R' U'; (try dsimp only at S' R' U' ⊢)))
  k_with "exec Raise some none" => (k_here; (with_reducible show wpAny _ _ (exec (Stmt.Raise (some (PySem.Expr.Call (PySem.Expr.Name ("SheetFault" : Str) _) _ _ _)) none _) _) _ _ _); k_dflt (refine fault_raise (by rfl) ?_))
  k_with "call ref" => (k_here; (with_reducible show wpAny _ _ (call (Value.ref 44) [_]) _ _ _); k_dflt (refine' fault_call ?k1 ?k2 ?k3 ?k4 ?k5 ?_; (case k1 => k_asm); (case k2 => k_asm); (case k3 => k_asm); (case k4 => k_is); (case k5 => k_is); k_whole; intro e' t' h' F' N' l1 l2; (try (first | have old9 := Old.mk l1.2.2.2 | have old9 := Old.mk l1.2.2 | have old9 := Old.mk l1.2 | have old9 := Old.mk l1)); (try k_lt l1); (try k_lt2 l2); k_enter))
  k_with "setAttr ref" => (k_here; k_dflt (refine' fault_store ?k1 ?k2 ?k3 ?k4 ?k5 ?k6 ?_; (case k1 => k_asm); (case k2 => k_asm); (case k3 => k_asm); (case k4 => k_is); (case k5 => k_is); (case k6 => k_all); k_whole; intro d' h' tk' F' N'))
  k_with "FaultEnd" => (k_dflt (refine' fault_end ?k1 ?k2 ?k3 ?k4 ?_; (case k1 => k_asm); (case k2 => k_asm); (case k3 => k_asm); (case k4 => exact List.Mem.head _)))
  k_with "leaving ref" => (k_here; k_dflt (refine' fault_leave ?k1 ?k2 ?k3 ?k4 ?k5 ?k6 ?k7 ?_; (case k1 => k_asm); (case k2 => k_asm); (case k3 => k_asm); (case k4 => k_all); (case k5 => k_all); (case k6 => exact rfl); (case k7 => exact rfl); k_whole; intro h' R' R2' U'; (try dsimp only at R' R2' U' ⊢)))
  k_with "exec While" => (k_here; refine stopW ?_)
  k_with "exec While Compare" => (k_here; refine stopW ?_)
  k_with "exec While BoolOp" => (k_here; refine stopW ?_)
  k_with "last exec While" => (k_here; refine stopW ?_)
  k_with "last exec While Compare" => (k_here; refine stopW ?_)
  k_with "last subscriptTail" => (k_here; (with_reducible show wpAny _ _ (subscriptTail _ _ (Value.str _ _) (Value.int (Nat.cast _) _)) _ _ _); obtain ⟨c9, hc9, hd9⟩ := at_some (by with_reducible assumption); k_dflt (refine sub_char hc9 (by with_reducible assumption) ?_))
  k_with "compareOp In str str" => (k_here; k_dflt (refine in_char ?_))
  k_with "compareOp NotIn str str" => (k_here; k_dflt (refine notin_char ?_))
  unfold Callee PR
  k_fill
  intro dp un gd cn cs fa ccd cl outer A₀ base h₀ L m s Q E B F X N T hk hdp hun hret hraise
  refine wpAny_call ?_

  k_dflt cell_enter
  k_steps

  unfold Stop
  (rename Fr _ _ _ _ => F1); (rename News _ _ _ _ => N1)
  k_dflt (refine' ksw_while (fun c : SS => ((sc, instObj 127 dx) :: (dx, dictOf [⟨h1, .str (Str.ofString "text") t1, .str x tx⟩, ⟨h2, .str (Str.ofString "at") t2, .int ((c.k : Nat) : Int) c.t⟩] 2) :: rest)) (fun _ => []) (fun _ => True) [] (SInv x (fun c => inC " \t\n\r" c) (k + ((x.cps.toList.drop k).takeWhile (fun c => inC " \t\n\r" c)).length)) (fun c => x.length - c.k) ⟨k, tk0⟩ F1 N1 trivial ?kk ?kp ?turn)
  case kk => first | exact all1 rfl | exact fun _ q => nomatch q
  case kp => exact ⟨hkl, rfl⟩
  case turn =>
    rintro ⟨k1, t1'⟩ u h tk _ I F N
    dsimp only at *
    have hle := I.le
    dsimp only at hle
    k_steps
    · exact hret _ _ _ _ (by k_asm) (by k_asm) ⟨rfl, _, by rw [I.over (by with_reducible assumption)]⟩
    ·
      have e : ((k1 : Nat) : Int) + 1 = ((k1 + 1 : Nat) : Int) := by omega
      (rename News _ _ _ _ => N9); rw [e] at N9
      exact ksw_end ⟨k1 + 1, _⟩ (by assumption) N9 (fun _ q => q) trivial (fun _ q => nomatch q) (by intro z h2 h3; try simp at h2; simp [kstB, *]) (I.step (by with_reducible assumption) (by with_reducible assumption) (by with_reducible assumption) _) (by dsimp only; omega)
    · exact hret _ _ _ _ (by k_asm) (by k_asm) ⟨rfl, _, by rw [I.stop (by with_reducible assumption) (by with_reducible assumption)]⟩


set_option maxHeartbeats 4000000 in
theorem until_c (w : World) (p : Program) (loose : List Str) (mean : ExcName → Option Value) (mg mb : Str → Option Value) (rest : Led) (sc dx : Nat) (h1 h2 : Int) (t1 t2 : Tok) (x : Str) (tx : Tok) (k : Nat) (tk0 : Tok) (hr : ∀ p ∈ rest, p.1 ≠ dx) (hne : sc ≠ dx) (hl : x.length ≤ 1000000) (hkl : k ≤ x.length) (wd : Str) (wt : Tok) (c : Nat) (hwd : wd = ⟨#[c]⟩) :
    Callee w p loose mean mg mb ((sc, instObj 127 dx) :: (dx, dictOf [⟨h1, .str (Str.ofString "text") t1, .str x tx⟩, ⟨h2, .str (Str.ofString "at") t2, .int ((k : Nat) : Int) tk0⟩] 2) :: rest) 4 (.ref 110) [.ref sc, .str wd wt]
      (fun v n => ∃ r t u, (cut c (x.cps.toList.drop k)).2 = some r ∧ v = .str ⟨(cut c (x.cps.toList.drop k)).1.toArray⟩ u ∧ n = ((sc, instObj 127 dx) :: (dx, dictOf [⟨h1, .str (Str.ofString "text") t1, .str x tx⟩, ⟨h2, .str (Str.ofString "at") t2, .int ((k + (cut c (x.cps.toList.drop k)).1.length + 1 : Nat) : Int) t⟩] 2) :: rest)) (fun n => (cut c (x.cps.toList.drop k)).2 = none ∧ ∀ p ∈ rest, p ∈ n) := by
  w_top off
  k_with_none
  k_with "leaving ref" => (k_here; (with_reducible rename RaisedS _ _ _ _ _ _ _ _ _ => rsX); k_dflt (refine' leave_onS ?k1 ?k2 rsX ?k4 ?_; (case k2 => assumption); (case k1 => assumption); (case k4 => assumption); k_whole; intro h' S' R' U'; (try dsimp only at S' R' U' ⊢)))
  k_with "exec Raise some none" => (k_here; (with_reducible show wpAny _ _ (exec (Stmt.Raise (some (PySem.Expr.Call (PySem.Expr.Name ("SheetFault" : Str) _) _ _ _)) none _) _) _ _ _); k_dflt (refine fault_raise (by rfl) ?_))
  k_with "call ref" => (k_here; (with_reducible show wpAny _ _ (call (Value.ref 44) [_]) _ _ _); k_dflt (refine' fault_call ?k1 ?k2 ?k3 ?k4 ?k5 ?_; (case k1 => k_asm); (case k2 => k_asm); (case k3 => k_asm); (case k4 => k_is); (case k5 => k_is); k_whole; intro e' t' h' F' N' l1 l2; (try (first | have old9 := Old.mk l1.2.2.2 | have old9 := Old.mk l1.2.2 | have old9 := Old.mk l1.2 | have old9 := Old.mk l1)); (try k_lt l1); (try k_lt2 l2); k_enter))
  k_with "setAttr ref" => (k_here; k_dflt (refine' fault_store ?k1 ?k2 ?k3 ?k4 ?k5 ?k6 ?_; (case k1 => k_asm); (case k2 => k_asm); (case k3 => k_asm); (case k4 => k_is); (case k5 => k_is); (case k6 => k_all); k_whole; intro d' h' tk' F' N'))
  k_with "FaultEnd" => (k_dflt (refine' fault_end ?k1 ?k2 ?k3 ?k4 ?_; (case k1 => k_asm); (case k2 => k_asm); (case k3 => k_asm); (case k4 => exact List.Mem.head _)))
  k_with "leaving ref" => (k_here; k_dflt (refine' fault_leave ?k1 ?k2 ?k3 ?k4 ?k5 ?k6 ?k7 ?_; (case k1 => k_asm); (case k2 => k_asm); (case k3 => k_asm); (case k4 => k_all); (case k5 => k_all); (case k6 => exact rfl); (case k7 => exact rfl); k_whole; intro h' R' R2' U'; (try dsimp only at R' R2' U' ⊢)))
  k_with "exec While" => (k_here; refine stopW ?_)
  k_with "exec While Compare" => (k_here; refine stopW ?_)
  k_with "exec While BoolOp" => (k_here; refine stopW ?_)
  k_with "last exec While" => (k_here; refine stopW ?_)
  k_with "last exec While Compare" => (k_here; refine stopW ?_)
  k_with "last subscriptTail" => (k_here; (with_reducible show wpAny _ _ (subscriptTail _ _ (Value.str _ _) (Value.int (Nat.cast _) _)) _ _ _); obtain ⟨c9, hc9, hd9⟩ := at_some (by with_reducible assumption); k_dflt (refine sub_char hc9 (by with_reducible assumption) ?_))
  k_with "compareOp In str str" => (k_here; k_dflt (refine in_char ?_))
  k_with "compareOp NotIn str str" => (k_here; k_dflt (refine notin_char ?_))
  have hwl : wd.length = 1 := by rw [hwd]; rfl
  unfold Callee PR
  k_fill
  intro dp un gd cn cs fa ccd cl outer A₀ base h₀ L m s Q E B F X N T hk hdp hun hret hraise
  refine wpAny_call ?_

  k_dflt cell_enter
  k_steps
  · have h9 : Txt.find3 x wd (k : Int) < 0 := by with_reducible assumption
    rw [hwd] at h9
    (refine hraise _ _ _ _ _ _ _ ?_ (by assumption) (by assumption) (by assumption) (by assumption))
    exact ⟨(find_lt h9).1, fun p hp => by simp [hp]⟩
  · have h9 : ¬ Txt.find3 x wd (k : Int) < 0 := by with_reducible assumption
    subst hwd
    obtain ⟨r, h11, h12, h13⟩ := find_ge h9
    have e9 : Txt.find3 x ⟨#[c]⟩ (k : Int) + ((⟨#[c]⟩ : Str).length : Int) = ((k + (cut c (x.cps.toList.drop k)).1.length + 1 : Nat) : Int) := by rw [h13, hwl]; omega
    refine hret _ _ _ _ (by k_asm) (by k_asm) ?_
    rw [e9, slice_cut hkl h9]
    exact ⟨r, _, _, h11, rfl, rfl⟩

set_option maxHeartbeats 4000000 in
theorem name_c (w : World) (p : Program) (loose : List Str) (mean : ExcName → Option Value) (mg mb : Str → Option Value) (rest : Led) (sc dx : Nat) (h1 h2 : Int) (t1 t2 : Tok) (x : Str) (tx : Tok) (k : Nat) (tk0 : Tok) (hr : ∀ p ∈ rest, p.1 ≠ dx) (hne : sc ≠ dx) (hl : x.length ≤ 1000000) (hkl : k ≤ x.length) :
    Callee w p loose mean mg mb ((sc, instObj 127 dx) :: (dx, dictOf [⟨h1, .str (Str.ofString "text") t1, .str x tx⟩, ⟨h2, .str (Str.ofString "at") t2, .int ((k : Nat) : Int) tk0⟩] 2) :: rest) 4 (.ref 124) [.ref sc]
      (fun v n => (x.cps.toList.drop k).takeWhile (fun c => !inC " \t\n\r=/><\"'" c) ≠ [] ∧ ∃ t u, v = .str ⟨((x.cps.toList.drop k).takeWhile (fun c => !inC " \t\n\r=/><\"'" c)).toArray⟩ u ∧ n = ((sc, instObj 127 dx) :: (dx, dictOf [⟨h1, .str (Str.ofString "text") t1, .str x tx⟩, ⟨h2, .str (Str.ofString "at") t2, .int ((k + ((x.cps.toList.drop k).takeWhile (fun c => !inC " \t\n\r=/><\"'" c)).length : Nat) : Int) t⟩] 2) :: rest)) (fun n => (x.cps.toList.drop k).takeWhile (fun c => !inC " \t\n\r=/><\"'" c) = [] ∧ ∀ p ∈ rest, p ∈ n) := by
  w_top off
  k_with_none
  k_with "leaving ref" => (k_here; (with_reducible rename RaisedS _ _ _ _ _ _ _ _ _ => rsX); k_dflt (refine' leave_onS ?k1 ?k2 rsX ?k4 ?_; (case k2 => assumption); (case k1 => assumption); (case k4 => assumption); k_whole; intro h' S' R' U'; (try dsimp only at S' R' U' ⊢)))
  k_with "exec Raise some none" => (k_here; (with_reducible show wpAny _ _ (exec (Stmt.Raise (some (PySem.Expr.Call (PySem.Expr.Name ("SheetFault" : Str) _) _ _ _)) none _) _) _ _ _); k_dflt (refine fault_raise (by rfl) ?_))
  k_with "call ref" => (k_here; (with_reducible show wpAny _ _ (call (Value.ref 44) [_]) _ _ _); k_dflt (refine' fault_call ?k1 ?k2 ?k3 ?k4 ?k5 ?_; (case k1 => k_asm); (case k2 => k_asm); (case k3 => k_asm); (case k4 => k_is); (case k5 => k_is); k_whole; intro e' t' h' F' N' l1 l2; (try (first | have old9 := Old.mk l1.2.2.2 | have old9 := Old.mk l1.2.2 | have old9 := Old.mk l1.2 | have old9 := Old.mk l1)); (try k_lt l1); (try k_lt2 l2); k_enter))
  k_with "setAttr ref" => (k_here; k_dflt (refine' fault_store ?k1 ?k2 ?k3 ?k4 ?k5 ?k6 ?_; (case k1 => k_asm); (case k2 => k_asm); (case k3 => k_asm); (case k4 => k_is); (case k5 => k_is); (case k6 => k_all); k_whole; intro d' h' tk' F' N'))
  k_with "FaultEnd" => (k_dflt (refine' fault_end ?k1 ?k2 ?k3 ?k4 ?_; (case k1 => k_asm); (case k2 => k_asm); (case k3 => k_asm); (case k4 => exact List.Mem.head _)))
  k_with "leaving ref" => (k_here; k_dflt (refine' fault_leave ?k1 ?k2 ?k3 ?k4 ?k5 ?k6 ?k7 ?_; (case k1 => k_asm); (case k2 => k_asm); (case k3 => k_asm); (case k4 => k_all); (case k5 => k_all); (case k6 => exact rfl); (case k7 => exact rfl); k_whole; intro h' R' R2' U'; (try dsimp only at R' R2' U' ⊢)))
  k_with "exec While" => (k_here; refine stopW ?_)
  k_with "exec While Compare" => (k_here; refine stopW ?_)
  k_with "exec While BoolOp" => (k_here; refine stopW ?_)
  k_with "last exec While" => (k_here; refine stopW ?_)
  k_with "last exec While Compare" => (k_here; refine stopW ?_)
  k_with "last subscriptTail" => (k_here; (with_reducible show wpAny _ _ (subscriptTail _ _ (Value.str _ _) (Value.int (Nat.cast _) _)) _ _ _); obtain ⟨c9, hc9, hd9⟩ := at_some (by with_reducible assumption); k_dflt (refine sub_char hc9 (by with_reducible assumption) ?_))
  k_with "compareOp In str str" => (k_here; k_dflt (refine in_char ?_))
  k_with "compareOp NotIn str str" => (k_here; k_dflt (refine notin_char ?_))
  unfold Callee PR
  k_fill
  intro dp un gd cn cs fa ccd cl outer A₀ base h₀ L m s Q E B F X N T hk hdp hun hret hraise
  refine wpAny_call ?_

  k_dflt cell_enter
  k_steps

  unfold Stop
  (rename Fr _ _ _ _ => F1); (rename News _ _ _ _ => N1)
  k_dflt (refine' ksw_while (fun c : SS => ((sc, instObj 127 dx) :: (dx, dictOf [⟨h1, .str (Str.ofString "text") t1, .str x tx⟩, ⟨h2, .str (Str.ofString "at") t2, .int ((c.k : Nat) : Int) c.t⟩] 2) :: rest)) (fun _ => [(Str.ofString "begin", .int (k : Int) tk0)]) (fun _ => True) [] (SInv x (fun c => !inC " \t\n\r=/><\"'" c) (k + ((x.cps.toList.drop k).takeWhile (fun c => !inC " \t\n\r=/><\"'" c)).length)) (fun c => x.length - c.k) ⟨k, tk0⟩ F1 N1 trivial ?kk ?kp ?turn)
  case kk => first | exact all1 rfl | exact fun _ q => nomatch q
  case kp => exact ⟨hkl, rfl⟩
  case turn =>
    rintro ⟨k1, t1'⟩ u h tk _ I F N
    dsimp only at *
    have hle := I.le
    dsimp only at hle
    k_steps
    · have hE := I.over (by with_reducible assumption)
      (refine hraise _ _ _ _ _ _ _ ?_ (by assumption) (by assumption) (by assumption) (by assumption))
      exact ⟨List.eq_nil_of_length_eq_zero (by omega), fun p hp => by simp [hp]⟩
    · have hE := I.over (by with_reducible assumption)
      refine hret _ _ _ _ (by k_asm) (by k_asm) ⟨?_, _, _, by rw [slice_tw hE hle], by rw [hE]⟩
      intro e9
      have e8 := congrArg List.length e9
      rw [List.length_nil] at e8
      omega
    · have hE := I.stop (by with_reducible assumption) (by rw [Bool.not_eq_false']; with_reducible assumption)
      (refine hraise _ _ _ _ _ _ _ ?_ (by assumption) (by assumption) (by assumption) (by assumption))
      exact ⟨List.eq_nil_of_length_eq_zero (by omega), fun p hp => by simp [hp]⟩
    · have hE := I.stop (by with_reducible assumption) (by rw [Bool.not_eq_false']; with_reducible assumption)
      refine hret _ _ _ _ (by k_asm) (by k_asm) ⟨?_, _, _, by rw [slice_tw hE hle], by rw [hE]⟩
      intro e9
      have e8 := congrArg List.length e9
      rw [List.length_nil] at e8
      omega
    ·
      have e : ((k1 : Nat) : Int) + 1 = ((k1 + 1 : Nat) : Int) := by omega
      (rename News _ _ _ _ => N9); rw [e] at N9
      exact ksw_end ⟨k1 + 1, _⟩ (by assumption) N9 (fun _ q => q) trivial (all1 rfl) (by intro z h2 h3; try simp at h2; simp [kstB, *]) (I.step (by with_reducible assumption) (by with_reducible assumption) (by rw [Bool.not_eq_true']; with_reducible assumption) _) (by dsimp only; omega)

end Mine
end
section
open PySem PySem.W PySem.Calls PySem.Spec PyProof.Rows
set_option Elab.async false
set_option maxRecDepth 100000
namespace Mine

theorem spaces_d (w : World) (p : Program) (loose : List Str) (mean : ExcName → Option Value) (mg mb : Str → Option Value) (rest : Led) (sc dx : Nat) (h1 h2 : Int) (t1 t2 : Tok) (x : Str) (tx : Tok) (k : Nat) (tk0 : Tok) (hr : ∀ p ∈ rest, p.1 ≠ dx) (hne : sc ≠ dx) (hl : x.length ≤ 1000000) (hkl : k ≤ x.length) :
    Callee w p loose mean mg mb ((sc, instObj 127 dx) :: (dx, dictOf [⟨h1, .str (Str.ofString "text") t1, .str x tx⟩, ⟨h2, .str (Str.ofString "at") t2, .int ((k : Nat) : Int) tk0⟩] 2) :: rest) 3 (.ref 117) [.ref sc]
      (fun v n => v = .none ∧ ∃ (k' : Nat) (t : Tok), k' ≤ x.length ∧ x.cps.toList.drop k' = (x.cps.toList.drop k).dropWhile isBl ∧ n = ((sc, instObj 127 dx) :: (dx, dictOf [⟨h1, .str (Str.ofString "text") t1, .str x tx⟩, ⟨h2, .str (Str.ofString "at") t2, .int ((k' : Nat) : Int) t⟩] 2) :: rest)) (fun n => False) :=
  (spaces_c w p loose mean mg mb rest sc dx h1 h2 t1 t2 x tx k tk0 hr hne hl hkl).mono (fun v n ⟨a, t, b⟩ => ⟨a, _, t, tw_le hkl, drop_tw, b⟩) (fun _ h => h)
theorem name_d (w : World) (p : Program) (loose : List Str) (mean : ExcName → Option Value) (mg mb : Str → Option Value) (rest : Led) (sc dx : Nat) (h1 h2 : Int) (t1 t2 : Tok) (x : Str) (tx : Tok) (k : Nat) (tk0 : Tok) (hr : ∀ p ∈ rest, p.1 ≠ dx) (hne : sc ≠ dx) (hl : x.length ≤ 1000000) (hkl : k ≤ x.length) :
    Callee w p loose mean mg mb ((sc, instObj 127 dx) :: (dx, dictOf [⟨h1, .str (Str.ofString "text") t1, .str x tx⟩, ⟨h2, .str (Str.ofString "at") t2, .int ((k : Nat) : Int) tk0⟩] 2) :: rest) 4 (.ref 124) [.ref sc]
      (fun v n => (x.cps.toList.drop k).takeWhile isNm ≠ [] ∧ ∃ (nm : Str) (k' : Nat) (t u : Tok), nm = ⟨((x.cps.toList.drop k).takeWhile isNm).toArray⟩ ∧ nm.length ≤ 1000000 ∧ k' ≤ x.length ∧ x.cps.toList.drop k' = (x.cps.toList.drop k).dropWhile isNm ∧ v = .str nm u ∧ n = ((sc, instObj 127 dx) :: (dx, dictOf [⟨h1, .str (Str.ofString "text") t1, .str x tx⟩, ⟨h2, .str (Str.ofString "at") t2, .int ((k' : Nat) : Int) t⟩] 2) :: rest)) (fun n => (x.cps.toList.drop k).takeWhile isNm = [] ∧ ∀ p ∈ rest, p ∈ n) :=
  (name_c w p loose mean mg mb rest sc dx h1 h2 t1 t2 x tx k tk0 hr hne hl hkl).mono (fun v n ⟨a, t, u, b, c⟩ => ⟨a, _, _, t, u, rfl, by have := tw_le (q := isNm) hkl; simp only [Str.length, List.size_toArray] at *; omega, tw_le hkl, drop_tw, b, c⟩) (fun _ h => h)
theorem takes_d (w : World) (p : Program) (loose : List Str) (mean : ExcName → Option Value) (mg mb : Str → Option Value) (rest : Led) (sc dx : Nat) (h1 h2 : Int) (t1 t2 : Tok) (x : Str) (tx : Tok) (k : Nat) (tk0 : Tok) (hr : ∀ p ∈ rest, p.1 ≠ dx) (hne : sc ≠ dx) (hl : x.length ≤ 1000000) (hkl : k ≤ x.length) (wd : Str) (wt : Tok) (hwd : wd.length ≤ 100) :
    Callee w p loose mean mg mb ((sc, instObj 127 dx) :: (dx, dictOf [⟨h1, .str (Str.ofString "text") t1, .str x tx⟩, ⟨h2, .str (Str.ofString "at") t2, .int ((k : Nat) : Int) tk0⟩] 2) :: rest) 2 (.ref 103) [.ref sc, .str wd wt]
      (fun v n => (v = .bool true ∧ ∃ (k' : Nat) (t : Tok), k' ≤ x.length ∧ x.cps.toList.drop k = wd.cps.toList ++ x.cps.toList.drop k' ∧ n = ((sc, instObj 127 dx) :: (dx, dictOf [⟨h1, .str (Str.ofString "text") t1, .str x tx⟩, ⟨h2, .str (Str.ofString "at") t2, .int ((k' : Nat) : Int) t⟩] 2) :: rest)) ∨ (v = .bool false ∧ ∃ t : Tok, ¬ wd.cps.toList <+: x.cps.toList.drop k ∧ n = ((sc, instObj 127 dx) :: (dx, dictOf [⟨h1, .str (Str.ofString "text") t1, .str x tx⟩, ⟨h2, .str (Str.ofString "at") t2, .int ((k : Nat) : Int) t⟩] 2) :: rest))) (fun n => False) :=
  (takes_c w p loose mean mg mb rest sc dx h1 h2 t1 t2 x tx k tk0 hr hne hl hkl wd wt hwd).mono (fun v n ⟨t, a, b⟩ => by
    cases hp : wd.cps.toList.isPrefixOf (x.cps.toList.drop k) with
    | true =>
      rw [hp] at a b
      rw [if_pos rfl] at b
      have h9 := List.isPrefixOf_iff_prefix.mp hp
      obtain ⟨r, h8⟩ := h9
      have h7 := congrArg List.length h8
      rw [List.length_append, List.length_drop, len_list, len_list] at h7
      refine .inl ⟨a, k + wd.length, t, by omega, ?_, b⟩
      rw [← List.drop_drop, ← h8]
      rw [List.drop_append_of_le_length (by rw [len_list]; exact Nat.le_refl _), List.drop_of_length_le (by rw [len_list]; exact Nat.le_refl _)]
      rfl
    | false =>
      rw [hp] at a b
      rw [if_neg (by decide)] at b
      exact .inr ⟨a, t, (fun h => by rw [List.isPrefixOf_iff_prefix.mpr h] at hp; cases hp), b⟩) (fun _ h => h)
theorem until_d (w : World) (p : Program) (loose : List Str) (mean : ExcName → Option Value) (mg mb : Str → Option Value) (rest : Led) (sc dx : Nat) (h1 h2 : Int) (t1 t2 : Tok) (x : Str) (tx : Tok) (k : Nat) (tk0 : Tok) (hr : ∀ p ∈ rest, p.1 ≠ dx) (hne : sc ≠ dx) (hl : x.length ≤ 1000000) (hkl : k ≤ x.length) (wd : Str) (wt : Tok) (c : Nat) (hwd : wd = ⟨#[c]⟩) :
    Callee w p loose mean mg mb ((sc, instObj 127 dx) :: (dx, dictOf [⟨h1, .str (Str.ofString "text") t1, .str x tx⟩, ⟨h2, .str (Str.ofString "at") t2, .int ((k : Nat) : Int) tk0⟩] 2) :: rest) 4 (.ref 110) [.ref sc, .str wd wt]
      (fun v n => ∃ (nm : Str) (k' : Nat) (t u : Tok), nm = ⟨(cut c (x.cps.toList.drop k)).1.toArray⟩ ∧ nm.length ≤ 1000000 ∧ (∀ a ∈ nm.cps.toList, a ∈ x.cps.toList) ∧ k' ≤ x.length ∧ (cut c (x.cps.toList.drop k)).2 = some (x.cps.toList.drop k') ∧ v = .str nm u ∧ n = ((sc, instObj 127 dx) :: (dx, dictOf [⟨h1, .str (Str.ofString "text") t1, .str x tx⟩, ⟨h2, .str (Str.ofString "at") t2, .int ((k' : Nat) : Int) t⟩] 2) :: rest)) (fun n => (cut c (x.cps.toList.drop k)).2 = none ∧ ∀ p ∈ rest, p ∈ n) :=
  (until_c w p loose mean mg mb rest sc dx h1 h2 t1 t2 x tx k tk0 hr hne hl hkl wd wt c hwd).mono (fun v n ⟨r, t, u, a, b, d⟩ => by
    rcases cut_spec c (x.cps.toList.drop k) with ⟨e1, e2, e3⟩ | ⟨r', e1, e2, e3⟩
    · rw [e1] at a; cases a
    · have h9 := drop_more e2
      have h8 : x.cps.toList.drop (k + (cut c (x.cps.toList.drop k)).1.length + 1) = r' := by rw [← List.drop_drop, h9]; rfl
      have h7 := congrArg List.length e2
      rw [List.length_append, List.length_cons, List.length_drop, len_list] at h7
      exact ⟨_, _, t, u, rfl, by simp only [Str.length, List.size_toArray] at *; omega, (fun a ha => List.mem_of_mem_drop (i := k) (by rw [e2]; exact List.mem_append_left _ (by simpa using ha))), by omega, by rw [h8]; exact e1, b, d⟩) (fun _ h => h)
end Mine
end
section
open PySem PySem.W PySem.Calls PySem.Spec PyProof.Rows
set_option Elab.async false
set_option maxRecDepth 100000
namespace Mine

set_option maxHeartbeats 4000000 in
theorem attr_c (w : World) (p : Program) (loose : List Str) (mean : ExcName → Option Value) (mg mb : Str → Option Value) (rest : Led) (sc dx : Nat) (h1 h2 : Int) (t1 t2 : Tok) (x : Str) (tx : Tok) (k : Nat) (tk0 : Tok) (hr : ∀ p ∈ rest, p.1 ≠ dx) (hne : sc ≠ dx) (hl : x.length ≤ 1000000) (hkl : k ≤ x.length) (hw : ∀ c ∈ x.cps.toList, c < 0x110000) (d : Nat) (o : Obj) (kvs : List (Str × Value)) (KD : List (Str × Str)) (hdx : d ≠ dx) (hds : d ≠ sc) (hsys : (d == sysModules) = false) (hr2 : ∀ p ∈ rest, p.1 ≠ d) (hdict : o.IsDictOf (PySem.strKind PR w) kvs) (hflat : PyProof.V.FlatPairs PyData.str kvs (KD.map fun p => (PyData.str p.1, PyData.str p.2))) (hKD : KD.length ≤ 1000) (r : Option ((Str × Str) × List Nat)) (hr' : attrL (x.cps.toList.drop k) (KD.map (·.1)) = some r) :
    Callee w p loose mean mg mb ((sc, instObj 127 dx) :: (dx, dictOf [⟨h1, .str (Str.ofString "text") t1, .str x tx⟩, ⟨h2, .str (Str.ofString "at") t2, .int ((k : Nat) : Int) tk0⟩] 2) :: (d, o) :: rest) 20 (.ref 150) [.ref sc, .ref d]
      (fun v n => v = .none ∧ ∃ (kv : Str × Str) (k' : Nat) (t : Tok) (o' : Obj) (kvs' : List (Str × Value)), r = some (kv, x.cps.toList.drop k') ∧ k' ≤ x.length ∧ o'.IsDictOf (PySem.strKind PR w) kvs' ∧ PyProof.V.FlatPairs PyData.str kvs' (dat (KD ++ [kv])) ∧ n = ((sc, instObj 127 dx) :: (dx, dictOf [⟨h1, .str (Str.ofString "text") t1, .str x tx⟩, ⟨h2, .str (Str.ofString "at") t2, .int ((k' : Nat) : Int) t⟩] 2) :: (d, o') :: rest)) (fun n => r = none ∧ ∀ p ∈ rest, p ∈ n) := by
  w_top off
  k_with_none
  k_with "leaving ref" => (k_here; (with_reducible rename RaisedS _ _ _ _ _ _ _ _ _ => rsX); k_dflt (refine' leave_onS ?k1 ?k2 rsX ?k4 ?_; (case k2 => assumption); (case k1 => assumption); (case k4 => assumption); k_whole; intro h' S' R' U'; (try dsimp only at S' R' U' ⊢)))
  k_with "exec Raise some none" => (k_here; (with_reducible show wpAny _ _ (exec (Stmt.Raise (some (PySem.Expr.Call (PySem.Expr.Name ("SheetFault" : Str) _) _ _ _)) none _) _) _ _ _); k_dflt (refine fault_raise (by rfl) ?_))
  k_with "call ref" => (k_here; (with_reducible show wpAny _ _ (call (Value.ref 44) [_]) _ _ _); k_dflt (refine' fault_call ?k1 ?k2 ?k3 ?k4 ?k5 ?_; (case k1 => k_asm); (case k2 => k_asm); (case k3 => k_asm); (case k4 => k_is); (case k5 => k_is); k_whole; intro e' t' h' F' N' l1 l2; (try (first | have old9 := Old.mk l1.2.2.2.2.2.2 | have old9 := Old.mk l1.2.2.2.2.2 | have old9 := Old.mk l1.2.2.2.2 | have old9 := Old.mk l1.2.2.2 | have old9 := Old.mk l1.2.2 | have old9 := Old.mk l1.2 | have old9 := Old.mk l1)); (try k_lt l1); (try k_lt2 l2); k_enter))
  k_with "setAttr ref" => (k_here; k_dflt (refine' fault_store ?k1 ?k2 ?k3 ?k4 ?k5 ?k6 ?_; (case k1 => k_asm); (case k2 => k_asm); (case k3 => k_asm); (case k4 => k_is); (case k5 => k_is); (case k6 => k_all); k_whole; intro d' h' tk' F' N'))
  k_with "FaultEnd" => (k_dflt (refine' fault_end ?k1 ?k2 ?k3 ?k4 ?_; (case k1 => k_asm); (case k2 => k_asm); (case k3 => k_asm); (case k4 => exact List.Mem.head _)))
  k_with "leaving ref" => (k_here; k_dflt (refine' fault_leave ?k1 ?k2 ?k3 ?k4 ?k5 ?k6 ?k7 ?_; (case k1 => k_asm); (case k2 => k_asm); (case k3 => k_asm); (case k4 => k_all); (case k5 => k_all); (case k6 => exact rfl); (case k7 => exact rfl); k_whole; intro h' R' R2' U'; (try dsimp only at R' R2' U' ⊢)))
  k_with "exec While" => (k_here; refine stopW ?_)
  k_with "exec While Compare" => (k_here; refine stopW ?_)
  k_with "exec While BoolOp" => (k_here; refine stopW ?_)
  k_with "last exec While" => (k_here; refine stopW ?_)
  k_with "last exec While Compare" => (k_here; refine stopW ?_)
  k_with "call ref" => (k_here; (try dsimp only [List.cons_append, List.nil_append]); (with_reducible show wpAny _ _ (call (Value.ref 117) [_]) _ _ _); k_dflt (refine' Callee.use (spaces_d _ _ _ _ _ _ _ _ _ _ _ _ _ _ _ _ _ ?ur ?un ?ul ?uk ) ?u1 ?u2 ?u3 ?u4 ?u5 ?u6 ?u7 ?u8 ?_ ?_; (case u1 => k_asm); (case u2 => k_asm); (case u3 => k_asm); (case u4 => k_asm); (case u5 => k_asm); (case u6 => first | exact rfl | assumption); (case u7 => ktr_room); (case u8 => ktr_units); (case ur => first | with_reducible assumption | k_all); (case un => with_reducible assumption); (case ul => with_reducible assumption); (case uk => with_reducible assumption)); rotate_left 1; intro e9 t9 vs9 g9 h9 tk9 n9 P9 F9 R9 K9 U9; exact P9.elim; intro v9 h9 tk9 n9 F9 N9 P9; obtain ⟨q1, k9, t9', hk9, hd9, q2⟩ := P9; subst q1; subst q2; all_goals ((try dsimp only); (try k_fold)))
  k_with "call ref" => (k_here; (try dsimp only [List.cons_append, List.nil_append]); (with_reducible show wpAny _ _ (call (Value.ref 124) [_]) _ _ _); k_dflt (refine' Callee.use (name_d _ _ _ _ _ _ _ _ _ _ _ _ _ _ _ _ _ ?ur ?un ?ul ?uk ) ?u1 ?u2 ?u3 ?u4 ?u5 ?u6 ?u7 ?u8 ?_ ?_; (case u1 => k_asm); (case u2 => k_asm); (case u3 => k_asm); (case u4 => k_asm); (case u5 => k_asm); (case u6 => first | exact rfl | assumption); (case u7 => ktr_room); (case u8 => ktr_units); (case ur => first | with_reducible assumption | k_all); (case un => with_reducible assumption); (case ul => with_reducible assumption); (case uk => with_reducible assumption)); rotate_left 1; intro e9 t9 vs9 g9 h9 tk9 n9 P9 F9 R9 K9 U9; obtain ⟨f9, j9⟩ := P9; have j8 := Kept.mk j9; clear j9; rotate_left 1; intro v9 h9 tk9 n9 F9 N9 P9; obtain ⟨hw9, nm9, k9, t9', u9', hnm9, hln9, hk9, hd9, q1, q2⟩ := P9; subst q1; subst q2; all_goals ((try dsimp only); (try k_fold)))
  k_with "call ref" => (k_here; (try dsimp only [List.cons_append, List.nil_append]); (with_reducible show wpAny _ _ (call (Value.ref 103) [_, _]) _ _ _); k_dflt (refine' Callee.use (takes_d _ _ _ _ _ _ _ _ _ _ _ _ _ _ _ _ _ ?ur ?un ?ul ?uk _ _ ?uw) ?u1 ?u2 ?u3 ?u4 ?u5 ?u6 ?u7 ?u8 ?_ ?_; (case u1 => k_asm); (case u2 => k_asm); (case u3 => k_asm); (case u4 => k_asm); (case u5 => k_asm); (case u6 => first | exact rfl | assumption); (case u7 => ktr_room); (case u8 => ktr_units); (case ur => first | with_reducible assumption | k_all); (case un => with_reducible assumption); (case ul => with_reducible assumption); (case uk => with_reducible assumption); (case uw => decide)); rotate_left 1; intro e9 t9 vs9 g9 h9 tk9 n9 P9 F9 R9 K9 U9; exact P9.elim; intro v9 h9 tk9 n9 F9 N9 P9; (rcases P9 with ⟨q1, k9, t9', hk9, hd9, q2⟩ | ⟨q1, t9', hd9, q2⟩ <;> (subst q1; subst q2)); all_goals ((try dsimp only); (try k_fold)))
  k_with "call ref" => (k_here; (try dsimp only [List.cons_append, List.nil_append]); (with_reducible show wpAny _ _ (call (Value.ref 110) [_, _]) _ _ _); k_dflt (refine' Callee.use (until_d _ _ _ _ _ _ _ _ _ _ _ _ _ _ _ _ _ ?ur ?un ?ul ?uk _ _ _ ?uw) ?u1 ?u2 ?u3 ?u4 ?u5 ?u6 ?u7 ?u8 ?_ ?_; (case u1 => k_asm); (case u2 => k_asm); (case u3 => k_asm); (case u4 => k_asm); (case u5 => k_asm); (case u6 => first | exact rfl | assumption); (case u7 => ktr_room); (case u8 => ktr_units); (case ur => first | with_reducible assumption | k_all); (case un => with_reducible assumption); (case ul => with_reducible assumption); (case uk => with_reducible assumption); (case uw => (first | exact (by decide : Str.ofString "\"" = ⟨#[34]⟩) | exact (by decide : Str.ofString "'" = ⟨#[39]⟩) | exact (by decide : Str.ofString ">" = ⟨#[62]⟩) | exact (by decide : Str.ofString "]" = ⟨#[93]⟩)))); rotate_left 1; intro e9 t9 vs9 g9 h9 tk9 n9 P9 F9 R9 K9 U9; obtain ⟨f9, j9⟩ := P9; have j8 := Kept.mk j9; clear j9; rotate_left 1; intro v9 h9 tk9 n9 F9 N9 P9; obtain ⟨nm9, k9, t9', u9', hnm9, hln9, hch9, hk9, hd9, q1, q2⟩ := P9; subst q1; subst q2; all_goals ((try dsimp only); (try k_fold)))
  k_with "call ref" => (k_here; (try dsimp only [List.cons_append, List.nil_append]); (with_reducible show wpAny _ _ (call (Value.ref 103) [_, _]) _ _ _); k_dflt (refine' Callee.use (takes_d _ _ _ _ _ _ _ _ _ _ _ _ _ _ _ _ _ ?ur ?un ?ul ?uk _ _ ?uw) ?u1 ?u2 ?u3 ?u4 ?u5 ?u6 ?u7 ?u8 ?_ ?_; (case u1 => k_asm); (case u2 => k_asm); (case u3 => k_asm); (case u4 => exact news_rot2 (by k_asm)); (case u5 => k_asm); (case u6 => first | exact rfl | assumption); (case u7 => ktr_room); (case u8 => ktr_units); (case ur => first | with_reducible assumption | k_all); (case un => with_reducible assumption); (case ul => with_reducible assumption); (case uk => with_reducible assumption); (case uw => decide)); rotate_left 1; intro e9 t9 vs9 g9 h9 tk9 n9 P9 F9 R9 K9 U9; exact P9.elim; intro v9 h9 tk9 n9 F9 N9 P9; (rcases P9 with ⟨q1, k9, t9', hk9, hd9, q2⟩ | ⟨q1, t9', hd9, q2⟩ <;> (subst q1; subst q2)); all_goals (replace N9 := news_back N9); all_goals ((try dsimp only); (try k_fold)))
  k_with "call ref" => (k_here; (try dsimp only [List.cons_append, List.nil_append]); (with_reducible show wpAny _ _ (call (Value.ref 110) [_, _]) _ _ _); k_dflt (refine' Callee.use (until_d _ _ _ _ _ _ _ _ _ _ _ _ _ _ _ _ _ ?ur ?un ?ul ?uk _ _ _ ?uw) ?u1 ?u2 ?u3 ?u4 ?u5 ?u6 ?u7 ?u8 ?_ ?_; (case u1 => k_asm); (case u2 => k_asm); (case u3 => k_asm); (case u4 => exact news_rot2 (by k_asm)); (case u5 => k_asm); (case u6 => first | exact rfl | assumption); (case u7 => ktr_room); (case u8 => ktr_units); (case ur => first | with_reducible assumption | k_all); (case un => with_reducible assumption); (case ul => with_reducible assumption); (case uk => with_reducible assumption); (case uw => (first | exact (by decide : Str.ofString "\"" = ⟨#[34]⟩) | exact (by decide : Str.ofString "'" = ⟨#[39]⟩) | exact (by decide : Str.ofString ">" = ⟨#[62]⟩) | exact (by decide : Str.ofString "]" = ⟨#[93]⟩)))); rotate_left 1; intro e9 t9 vs9 g9 h9 tk9 n9 P9 F9 R9 K9 U9; obtain ⟨f9, j9⟩ := P9; have j8 := Kept.mk j9; clear j9; rotate_left 1; intro v9 h9 tk9 n9 F9 N9 P9; obtain ⟨nm9, k9, t9', u9', hnm9, hln9, hch9, hk9, hd9, q1, q2⟩ := P9; subst q1; subst q2; all_goals (replace N9 := news_back N9); all_goals ((try dsimp only); (try k_fold)))
  k_with "pyIter ref" => (k_here; (with_reducible show wpAny _ _ (pyIter (Value.ref _)) (fun it s₂ => TurnsAt _ _ _ _ _ _ _ _ _ it s₂) _ _); (rename Fr _ _ _ _ => lF'); (rename News _ _ _ _ => lN'); (with_unfolding_all refine iter_tupTurns (by rfl) lF' lN' (by k_mem) (by rfl) (by rfl) ?_); clear lF' lN'; intro i' l1; (try k_lt l1); (try (first | have old9 := Old.mk l1.2.2.2.2.2.2 | have old9 := Old.mk l1.2.2.2.2.2 | have old9 := Old.mk l1.2.2.2.2 | have old9 := Old.mk l1.2.2.2 | have old9 := Old.mk l1.2.2 | have old9 := Old.mk l1.2 | have old9 := Old.mk l1)))
  k_with "UnrEndW" => (with_unfolding_all refine' ⟨_, _, _, _, rfl, ?k1, ?k2, offS ?k3, ?k4, ?_⟩; (case k1 => k_asm); (case k2 => k_asm); (case k3 => k_all); (case k4 => k_subL))
  k_with "call ref" => (k_here; (with_reducible show wpAny _ _ (call (Value.ref 143) [_]) _ _ _); refine stopW ?_)
  have hr9 : ∀ p ∈ (d, o) :: rest, p.1 ≠ dx := List.forall_mem_cons.mpr ⟨neN hdx, hr⟩
  unfold Callee PR
  k_fill
  intro dp un gd cn cs fa ccd cl outer A₀ base h₀ L m s Q E B F X N T hk hdp hun hret hraise
  refine wpAny_call ?_

  k_dflt cell_enter
  k_steps
  · refine hraise _ _ _ _ _ _ _ ?_ (by assumption) (by assumption) (by assumption) (by assumption)
    refine ⟨?_, fun p hp => by first | (simp [hp]; done) | ((rename Kept _ _ => J9); exact J9.h p (by simp [hp]))⟩
    first
      | with_reducible exact attr_e0 hr' (by with_reducible assumption)
      | with_reducible exact attr_e1 hr' (by with_reducible assumption) (by with_reducible assumption) (by with_reducible assumption) (by with_reducible assumption)
      | with_reducible exact (attr_two hr' (by with_reducible assumption) (by with_reducible assumption) (by with_reducible assumption) (by with_reducible assumption) (by with_reducible assumption) (by with_reducible assumption)).1 (by with_reducible assumption)
      | with_reducible exact val_no ((attr_two hr' (by with_reducible assumption) (by with_reducible assumption) (by with_reducible assumption) (by with_reducible assumption) (by with_reducible assumption) (by with_reducible assumption)).2 (by with_reducible assumption)) (by with_reducible assumption) (by with_reducible assumption)
      | with_reducible exact quo_no (val_dq ((attr_two hr' (by with_reducible assumption) (by with_reducible assumption) (by with_reducible assumption) (by with_reducible assumption) (by with_reducible assumption) (by with_reducible assumption)).2 (by with_reducible assumption)) (by with_reducible assumption)) (by with_reducible assumption)
      | with_reducible exact quo_no (val_sq ((attr_two hr' (by with_reducible assumption) (by with_reducible assumption) (by with_reducible assumption) (by with_reducible assumption) (by with_reducible assumption) (by with_reducible assumption)).2 (by with_reducible assumption)) (by with_reducible assumption)) (by with_reducible assumption)
  · unfold Stop
    have hv9 := (attr_two hr' (by with_reducible assumption) (by with_reducible assumption) (by with_reducible assumption) (by with_reducible assumption) (by with_reducible assumption) (by with_reducible assumption)).2 (by with_reducible assumption)
    have hv8 := val_dq hv9 (by with_reducible assumption)
    obtain ⟨q, hq1, hq2, hq3⟩ := quo_yes hv8 (by with_reducible assumption) (by with_reducible assumption)
    k_dflt (refine' Callee.use (unesc_c _ _ _ _ _ _ _ _ _ (by with_reducible assumption) (chars_ok hw (by with_reducible assumption)) _ hq1) ?u1 ?u2 ?u3 ?u4 ?u5 ?u6 ?u7 ?u8 ?u9 ?u10)
    case u1 => k_asm
    case u2 => k_asm
    case u3 => k_asm
    case u4 => k_asm
    case u5 => k_asm
    case u6 => first | exact rfl | assumption
    case u7 => ktr_room
    case u8 => ktr_units
    case u10 =>
      intro e9 t9 vs9 g9 h9 tk9 n9 P9 F9 R9 K9 U9
      (try dsimp only); (try k_fold)
      k_steps
      refine hraise _ _ _ _ _ _ _ ?_ (by assumption) (by assumption) (by assumption) (by assumption)
      exact ⟨hq2 P9.1, fun p hp => P9.2 p (by simp [hp])⟩
    case u9 =>
      intro v9 h9 tk9 n9 F9 N9 P9
      obtain ⟨u9, t9, hu9, rfl, rfl⟩ := P9
      (try dsimp only); (try k_fold)
      k_steps
      refine hret _ _ _ ((sc, instObj 127 dx) :: (dx, dictOf [⟨h1, .str (Str.ofString "text") t1, .str x tx⟩, ⟨h2, .str (Str.ofString "at") t2, .int _ _⟩] 2) :: (d, _) :: rest) (by k_asm) (cb_drop (by k_asm) (List.forall_mem_cons.mpr ⟨by k_mem, List.forall_mem_cons.mpr ⟨by k_mem, List.forall_mem_cons.mpr ⟨by k_mem, fun p hp => by simp [hp]⟩⟩⟩)) ⟨rfl, _, _, _, _, _, hq3 _ hu9, by with_reducible assumption, by with_reducible assumption, ?_, rfl⟩
      rw [← put_new _ _ _ (by with_reducible assumption)]
      with_reducible assumption
  · refine hraise _ _ _ _ _ _ _ ?_ (by assumption) (by assumption) (by assumption) (by assumption)
    refine ⟨?_, fun p hp => by first | (simp [hp]; done) | ((rename Kept _ _ => J9); exact J9.h p (by simp [hp]))⟩
    first
      | with_reducible exact attr_e0 hr' (by with_reducible assumption)
      | with_reducible exact attr_e1 hr' (by with_reducible assumption) (by with_reducible assumption) (by with_reducible assumption) (by with_reducible assumption)
      | with_reducible exact (attr_two hr' (by with_reducible assumption) (by with_reducible assumption) (by with_reducible assumption) (by with_reducible assumption) (by with_reducible assumption) (by with_reducible assumption)).1 (by with_reducible assumption)
      | with_reducible exact val_no ((attr_two hr' (by with_reducible assumption) (by with_reducible assumption) (by with_reducible assumption) (by with_reducible assumption) (by with_reducible assumption) (by with_reducible assumption)).2 (by with_reducible assumption)) (by with_reducible assumption) (by with_reducible assumption)
      | with_reducible exact quo_no (val_dq ((attr_two hr' (by with_reducible assumption) (by with_reducible assumption) (by with_reducible assumption) (by with_reducible assumption) (by with_reducible assumption) (by with_reducible assumption)).2 (by with_reducible assumption)) (by with_reducible assumption)) (by with_reducible assumption)
      | with_reducible exact quo_no (val_sq ((attr_two hr' (by with_reducible assumption) (by with_reducible assumption) (by with_reducible assumption) (by with_reducible assumption) (by with_reducible assumption) (by with_reducible assumption)).2 (by with_reducible assumption)) (by with_reducible assumption)) (by with_reducible assumption)
  · unfold Stop
    have hv9 := (attr_two hr' (by with_reducible assumption) (by with_reducible assumption) (by with_reducible assumption) (by with_reducible assumption) (by with_reducible assumption) (by with_reducible assumption)).2 (by with_reducible assumption)
    have hv8 := val_sq hv9 (by with_reducible assumption)
    obtain ⟨q, hq1, hq2, hq3⟩ := quo_yes hv8 (by with_reducible assumption) (by with_reducible assumption)
    k_dflt (refine' Callee.use (unesc_c _ _ _ _ _ _ _ _ _ (by with_reducible assumption) (chars_ok hw (by with_reducible assumption)) _ hq1) ?u1 ?u2 ?u3 ?u4 ?u5 ?u6 ?u7 ?u8 ?u9 ?u10)
    case u1 => k_asm
    case u2 => k_asm
    case u3 => k_asm
    case u4 => k_asm
    case u5 => k_asm
    case u6 => first | exact rfl | assumption
    case u7 => ktr_room
    case u8 => ktr_units
    case u10 =>
      intro e9 t9 vs9 g9 h9 tk9 n9 P9 F9 R9 K9 U9
      (try dsimp only); (try k_fold)
      k_steps
      refine hraise _ _ _ _ _ _ _ ?_ (by assumption) (by assumption) (by assumption) (by assumption)
      exact ⟨hq2 P9.1, fun p hp => P9.2 p (by simp [hp])⟩
    case u9 =>
      intro v9 h9 tk9 n9 F9 N9 P9
      obtain ⟨u9, t9, hu9, rfl, rfl⟩ := P9
      (try dsimp only); (try k_fold)
      k_steps
      refine hret _ _ _ ((sc, instObj 127 dx) :: (dx, dictOf [⟨h1, .str (Str.ofString "text") t1, .str x tx⟩, ⟨h2, .str (Str.ofString "at") t2, .int _ _⟩] 2) :: (d, _) :: rest) (by k_asm) (cb_drop (by k_asm) (List.forall_mem_cons.mpr ⟨by k_mem, List.forall_mem_cons.mpr ⟨by k_mem, List.forall_mem_cons.mpr ⟨by k_mem, fun p hp => by simp [hp]⟩⟩⟩)) ⟨rfl, _, _, _, _, _, hq3 _ hu9, by with_reducible assumption, by with_reducible assumption, ?_, rfl⟩
      rw [← put_new _ _ _ (by with_reducible assumption)]
      with_reducible assumption
  · refine hraise _ _ _ _ _ _ _ ?_ (by assumption) (by assumption) (by assumption) (by assumption)
    refine ⟨?_, fun p hp => by first | (simp [hp]; done) | ((rename Kept _ _ => J9); exact J9.h p (by simp [hp]))⟩
    first
      | with_reducible exact attr_e0 hr' (by with_reducible assumption)
      | with_reducible exact attr_e1 hr' (by with_reducible assumption) (by with_reducible assumption) (by with_reducible assumption) (by with_reducible assumption)
      | with_reducible exact (attr_two hr' (by with_reducible assumption) (by with_reducible assumption) (by with_reducible assumption) (by with_reducible assumption) (by with_reducible assumption) (by with_reducible assumption)).1 (by with_reducible assumption)
      | with_reducible exact val_no ((attr_two hr' (by with_reducible assumption) (by with_reducible assumption) (by with_reducible assumption) (by with_reducible assumption) (by with_reducible assumption) (by with_reducible assumption)).2 (by with_reducible assumption)) (by with_reducible assumption) (by with_reducible assumption)
      | with_reducible exact quo_no (val_dq ((attr_two hr' (by with_reducible assumption) (by with_reducible assumption) (by with_reducible assumption) (by with_reducible assumption) (by with_reducible assumption) (by with_reducible assumption)).2 (by with_reducible assumption)) (by with_reducible assumption)) (by with_reducible assumption)
      | with_reducible exact quo_no (val_sq ((attr_two hr' (by with_reducible assumption) (by with_reducible assumption) (by with_reducible assumption) (by with_reducible assumption) (by with_reducible assumption) (by with_reducible assumption)).2 (by with_reducible assumption)) (by with_reducible assumption)) (by with_reducible assumption)
  · refine hraise _ _ _ _ _ _ _ ?_ (by assumption) (by assumption) (by assumption) (by assumption)
    refine ⟨?_, fun p hp => by first | (simp [hp]; done) | ((rename Kept _ _ => J9); exact J9.h p (by simp [hp]))⟩
    first
      | with_reducible exact attr_e0 hr' (by with_reducible assumption)
      | with_reducible exact attr_e1 hr' (by with_reducible assumption) (by with_reducible assumption) (by with_reducible assumption) (by with_reducible assumption)
      | with_reducible exact (attr_two hr' (by with_reducible assumption) (by with_reducible assumption) (by with_reducible assumption) (by with_reducible assumption) (by with_reducible assumption) (by with_reducible assumption)).1 (by with_reducible assumption)
      | with_reducible exact val_no ((attr_two hr' (by with_reducible assumption) (by with_reducible assumption) (by with_reducible assumption) (by with_reducible assumption) (by with_reducible assumption) (by with_reducible assumption)).2 (by with_reducible assumption)) (by with_reducible assumption) (by with_reducible assumption)
      | with_reducible exact quo_no (val_dq ((attr_two hr' (by with_reducible assumption) (by with_reducible assumption) (by with_reducible assumption) (by with_reducible assumption) (by with_reducible assumption) (by with_reducible assumption)).2 (by with_reducible assumption)) (by with_reducible assumption)) (by with_reducible assumption)
      | with_reducible exact quo_no (val_sq ((attr_two hr' (by with_reducible assumption) (by with_reducible assumption) (by with_reducible assumption) (by with_reducible assumption) (by with_reducible assumption) (by with_reducible assumption)).2 (by with_reducible assumption)) (by with_reducible assumption)) (by with_reducible assumption)
  · refine hraise _ _ _ _ _ _ _ ?_ (by assumption) (by assumption) (by assumption) (by assumption)
    refine ⟨?_, fun p hp => by first | (simp [hp]; done) | ((rename Kept _ _ => J9); exact J9.h p (by simp [hp]))⟩
    first
      | with_reducible exact attr_e0 hr' (by with_reducible assumption)
      | with_reducible exact attr_e1 hr' (by with_reducible assumption) (by with_reducible assumption) (by with_reducible assumption) (by with_reducible assumption)
      | with_reducible exact (attr_two hr' (by with_reducible assumption) (by with_reducible assumption) (by with_reducible assumption) (by with_reducible assumption) (by with_reducible assumption) (by with_reducible assumption)).1 (by with_reducible assumption)
      | with_reducible exact val_no ((attr_two hr' (by with_reducible assumption) (by with_reducible assumption) (by with_reducible assumption) (by with_reducible assumption) (by with_reducible assumption) (by with_reducible assumption)).2 (by with_reducible assumption)) (by with_reducible assumption) (by with_reducible assumption)
      | with_reducible exact quo_no (val_dq ((attr_two hr' (by with_reducible assumption) (by with_reducible assumption) (by with_reducible assumption) (by with_reducible assumption) (by with_reducible assumption) (by with_reducible assumption)).2 (by with_reducible assumption)) (by with_reducible assumption)) (by with_reducible assumption)
      | with_reducible exact quo_no (val_sq ((attr_two hr' (by with_reducible assumption) (by with_reducible assumption) (by with_reducible assumption) (by with_reducible assumption) (by with_reducible assumption) (by with_reducible assumption)).2 (by with_reducible assumption)) (by with_reducible assumption)) (by with_reducible assumption)
  · refine hraise _ _ _ _ _ _ _ ?_ (by assumption) (by assumption) (by assumption) (by assumption)
    refine ⟨?_, fun p hp => by first | (simp [hp]; done) | ((rename Kept _ _ => J9); exact J9.h p (by simp [hp]))⟩
    first
      | with_reducible exact attr_e0 hr' (by with_reducible assumption)
      | with_reducible exact attr_e1 hr' (by with_reducible assumption) (by with_reducible assumption) (by with_reducible assumption) (by with_reducible assumption)
      | with_reducible exact (attr_two hr' (by with_reducible assumption) (by with_reducible assumption) (by with_reducible assumption) (by with_reducible assumption) (by with_reducible assumption) (by with_reducible assumption)).1 (by with_reducible assumption)
      | with_reducible exact val_no ((attr_two hr' (by with_reducible assumption) (by with_reducible assumption) (by with_reducible assumption) (by with_reducible assumption) (by with_reducible assumption) (by with_reducible assumption)).2 (by with_reducible assumption)) (by with_reducible assumption) (by with_reducible assumption)
      | with_reducible exact quo_no (val_dq ((attr_two hr' (by with_reducible assumption) (by with_reducible assumption) (by with_reducible assumption) (by with_reducible assumption) (by with_reducible assumption) (by with_reducible assumption)).2 (by with_reducible assumption)) (by with_reducible assumption)) (by with_reducible assumption)
      | with_reducible exact quo_no (val_sq ((attr_two hr' (by with_reducible assumption) (by with_reducible assumption) (by with_reducible assumption) (by with_reducible assumption) (by with_reducible assumption) (by with_reducible assumption)).2 (by with_reducible assumption)) (by with_reducible assumption)) (by with_reducible assumption)
end Mine
end
section
open PySem PySem.W PySem.Calls PySem.Spec PyProof.Rows
set_option Elab.async false
set_option maxRecDepth 100000
namespace Mine

theorem kswRet (σ : Type) (h₀ : Heap) (L : Addr) (s : Shared) (Led : σ → List (Addr × Obj)) (ps : σ → List (Str × Value)) (Facts : σ → Prop) (stored : List Str) (m₀ : Str → Option Value) (P : σ → Prop) (μ : σ → Nat) (Q : Flow → Shared → Prop) (c : σ) (v : Value) (s₂ : Shared) (h : Q (.ret v) s₂) : KswPost h₀ L s Led ps Facts stored m₀ P μ Q c (.ret v) s₂ := h
def TagPost (w : World) (rest : Led) (sc dx : Nat) (h1 h2 : Int) (t1 t2 : Tok) (x : Str) (tx : Tok) (k : Nat) (r : Option (List (Str × Str) × Bool × List Nat)) (v : Value) (n : Led) : Prop :=
  ∃ (T e de d cl : Addr) (nm : Str) (o' : Obj) (kvs' : List (Str × Value)) (KD : List (Str × Str)) (b : Bool) (k' : Nat) (t : Tok) (g1 g2 g3 g4 : Int) (a1 a2 a3 a4 b1 b4 : Tok), v = .ref T ∧ nm = ⟨((x.cps.toList.drop k).takeWhile isNm).toArray⟩ ∧ nm.length ≤ 1000000 ∧ r = some (KD, b, x.cps.toList.drop k') ∧ k' ≤ x.length ∧ (d == sysModules) = false ∧ o'.IsDictOf (PySem.strKind PR w) kvs' ∧ PyProof.V.FlatPairs PyData.str kvs' (dat KD) ∧
    n = (T, { cls := Value.type "tuple", data := Data.seq #[.ref e, .bool b] }) :: (sc, instObj 127 dx) :: (dx, dictOf [⟨h1, .str (Str.ofString "text") t1, .str x tx⟩, ⟨h2, .str (Str.ofString "at") t2, .int (k' : Int) t⟩] 2) :: (d, o') :: (cl, W.listOf #[] 0) :: (e, instObj 71 de) ::
      (de, dictOf [⟨g1, .str (Str.ofString "name") a1, .str nm b1⟩, ⟨g2, .str (Str.ofString "attributes") a2, .ref d⟩, ⟨g3, .str (Str.ofString "children") a3, .ref cl⟩, ⟨g4, .str (Str.ofString "text") a4, .str (Str.ofString "") b4⟩] 4) :: rest
theorem Old.of (L : Nat) : ∀ (l : Led), AllLt L l → Old L l
  | [], _ => ⟨fun _ q => nomatch q⟩
  | _ :: _, h => ⟨fun q hq => by rcases List.mem_cons.mp hq with rfl | hq; exact h.1; exact (Old.of L _ h.2).lt q hq⟩
set_option maxHeartbeats 4000000 in
theorem tag_c (w : World) (p : Program) (loose : List Str) (mean : ExcName → Option Value) (mg mb : Str → Option Value) (rest : Led) (sc dx : Nat) (h1 h2 : Int) (t1 t2 : Tok) (x : Str) (tx : Tok) (k : Nat) (tk0 : Tok) (hr : ∀ p ∈ rest, p.1 ≠ dx) (hne : sc ≠ dx) (hl : x.length ≤ 1000000) (hkl : k ≤ x.length) (hw : ∀ c ∈ x.cps.toList, c < 0x110000) (r : Option (List (Str × Str) × Bool × List Nat)) (n0 : Nat) (hn0 : n0 ≤ 900) (hr' : tagL n0 ((x.cps.toList.drop k).dropWhile isNm) [] = some r) :
    Callee w p loose mean mg mb ((sc, instObj 127 dx) :: (dx, dictOf [⟨h1, .str (Str.ofString "text") t1, .str x tx⟩, ⟨h2, .str (Str.ofString "at") t2, .int ((k : Nat) : Int) tk0⟩] 2) :: rest) 40 (.ref 157) [.ref sc]
      (fun v n => TagPost w rest sc dx h1 h2 t1 t2 x tx k r v n) (fun n => ((x.cps.toList.drop k).takeWhile isNm = [] ∨ r = none) ∧ ∀ p ∈ rest, p ∈ n) := by
  w_top off
  k_with_none
  k_with "leaving ref" => (k_here; (with_reducible rename RaisedS _ _ _ _ _ _ _ _ _ => rsX); k_dflt (refine' leave_onS ?k1 ?k2 rsX ?k4 ?_; (case k2 => assumption); (case k1 => assumption); (case k4 => assumption); k_whole; intro h' S' R' U'; (try dsimp only at S' R' U' ⊢)))
  k_with "exec Raise some none" => (k_here; (with_reducible show wpAny _ _ (exec (Stmt.Raise (some (PySem.Expr.Call (PySem.Expr.Name ("SheetFault" : Str) _) _ _ _)) none _) _) _ _ _); k_dflt (refine fault_raise (by rfl) ?_))
  k_with "call ref" => (k_here; (with_reducible show wpAny _ _ (call (Value.ref 44) [_]) _ _ _); k_dflt (refine' fault_call ?k1 ?k2 ?k3 ?k4 ?k5 ?_; (case k1 => k_asm); (case k2 => k_asm); (case k3 => k_asm); (case k4 => k_is); (case k5 => k_is); k_whole; intro e' t' h' F' N' l1 l2; (try (first | have old9 := Old.mk l1.2.2.2.2.2.2 | have old9 := Old.mk l1.2.2.2.2.2 | have old9 := Old.mk l1.2.2.2.2 | have old9 := Old.mk l1.2.2.2 | have old9 := Old.mk l1.2.2 | have old9 := Old.mk l1.2 | have old9 := Old.mk l1)); (try k_lt l1); (try k_lt2 l2); k_enter))
  k_with "setAttr ref" => (k_here; k_dflt (refine' fault_store ?k1 ?k2 ?k3 ?k4 ?k5 ?k6 ?_; (case k1 => k_asm); (case k2 => k_asm); (case k3 => k_asm); (case k4 => k_is); (case k5 => k_is); (case k6 => k_all); k_whole; intro d' h' tk' F' N'))
  k_with "FaultEnd" => (k_dflt (refine' fault_end ?k1 ?k2 ?k3 ?k4 ?_; (case k1 => k_asm); (case k2 => k_asm); (case k3 => k_asm); (case k4 => exact List.Mem.head _)))
  k_with "leaving ref" => (k_here; k_dflt (refine' fault_leave ?k1 ?k2 ?k3 ?k4 ?k5 ?k6 ?k7 ?_; (case k1 => k_asm); (case k2 => k_asm); (case k3 => k_asm); (case k4 => k_all); (case k5 => k_all); (case k6 => exact rfl); (case k7 => exact rfl); k_whole; intro h' R' R2' U'; (try dsimp only at R' R2' U' ⊢)))
  k_with "exec While" => (k_here; refine stopW ?_)
  k_with "exec While Compare" => (k_here; refine stopW ?_)
  k_with "exec While BoolOp" => (k_here; refine stopW ?_)
  k_with "last exec While" => (k_here; refine stopW ?_)
  k_with "last exec While Compare" => (k_here; refine stopW ?_)
  k_with "call ref" => (k_here; (try dsimp only [List.cons_append, List.nil_append]); (with_reducible show wpAny _ _ (call (Value.ref 117) [_]) _ _ _); k_dflt (refine' Callee.use (spaces_d _ _ _ _ _ _ _ _ _ _ _ _ _ _ _ _ _ ?ur ?un ?ul ?uk ) ?u1 ?u2 ?u3 ?u4 ?u5 ?u6 ?u7 ?u8 ?_ ?_; (case u1 => k_asm); (case u2 => k_asm); (case u3 => k_asm); (case u4 => k_asm); (case u5 => k_asm); (case u6 => first | exact rfl | assumption); (case u7 => ktr_room); (case u8 => ktr_units); (case ur => first | with_reducible assumption | k_all); (case un => with_reducible assumption); (case ul => with_reducible assumption); (case uk => with_reducible assumption)); rotate_left 1; intro e9 t9 vs9 g9 h9 tk9 n9 P9 F9 R9 K9 U9; exact P9.elim; intro v9 h9 tk9 n9 F9 N9 P9; obtain ⟨q1, k9, t9', hk9, hd9, q2⟩ := P9; subst q1; subst q2; all_goals ((try dsimp only); (try k_fold)))
  k_with "call ref" => (k_here; (try dsimp only [List.cons_append, List.nil_append]); (with_reducible show wpAny _ _ (call (Value.ref 124) [_]) _ _ _); k_dflt (refine' Callee.use (name_d _ _ _ _ _ _ _ _ _ _ _ _ _ _ _ _ _ ?ur ?un ?ul ?uk ) ?u1 ?u2 ?u3 ?u4 ?u5 ?u6 ?u7 ?u8 ?_ ?_; (case u1 => k_asm); (case u2 => k_asm); (case u3 => k_asm); (case u4 => k_asm); (case u5 => k_asm); (case u6 => first | exact rfl | assumption); (case u7 => ktr_room); (case u8 => ktr_units); (case ur => first | with_reducible assumption | k_all); (case un => with_reducible assumption); (case ul => with_reducible assumption); (case uk => with_reducible assumption)); rotate_left 1; intro e9 t9 vs9 g9 h9 tk9 n9 P9 F9 R9 K9 U9; obtain ⟨f9, j9⟩ := P9; have j8 := Kept.mk j9; clear j9; rotate_left 1; intro v9 h9 tk9 n9 F9 N9 P9; obtain ⟨hw9, nm9, k9, t9', u9', hnm9, hln9, hk9, hd9, q1, q2⟩ := P9; subst q1; subst q2; all_goals ((try dsimp only); (try k_fold)))
  k_with "call ref" => (k_here; (try dsimp only [List.cons_append, List.nil_append]); (with_reducible show wpAny _ _ (call (Value.ref 103) [_, _]) _ _ _); k_dflt (refine' Callee.use (takes_d _ _ _ _ _ _ _ _ _ _ _ _ _ _ _ _ _ ?ur ?un ?ul ?uk _ _ ?uw) ?u1 ?u2 ?u3 ?u4 ?u5 ?u6 ?u7 ?u8 ?_ ?_; (case u1 => k_asm); (case u2 => k_asm); (case u3 => k_asm); (case u4 => k_asm); (case u5 => k_asm); (case u6 => first | exact rfl | assumption); (case u7 => ktr_room); (case u8 => ktr_units); (case ur => first | with_reducible assumption | k_all); (case un => with_reducible assumption); (case ul => with_reducible assumption); (case uk => with_reducible assumption); (case uw => decide)); rotate_left 1; intro e9 t9 vs9 g9 h9 tk9 n9 P9 F9 R9 K9 U9; exact P9.elim; intro v9 h9 tk9 n9 F9 N9 P9; (rcases P9 with ⟨q1, k9, t9', hk9, hd9, q2⟩ | ⟨q1, t9', hd9, q2⟩ <;> (subst q1; subst q2)); all_goals ((try dsimp only); (try k_fold)))
  k_with "call ref" => (k_here; (try dsimp only [List.cons_append, List.nil_append]); (with_reducible show wpAny _ _ (call (Value.ref 110) [_, _]) _ _ _); k_dflt (refine' Callee.use (until_d _ _ _ _ _ _ _ _ _ _ _ _ _ _ _ _ _ ?ur ?un ?ul ?uk _ _ _ ?uw) ?u1 ?u2 ?u3 ?u4 ?u5 ?u6 ?u7 ?u8 ?_ ?_; (case u1 => k_asm); (case u2 => k_asm); (case u3 => k_asm); (case u4 => k_asm); (case u5 => k_asm); (case u6 => first | exact rfl | assumption); (case u7 => ktr_room); (case u8 => ktr_units); (case ur => first | with_reducible assumption | k_all); (case un => with_reducible assumption); (case ul => with_reducible assumption); (case uk => with_reducible assumption); (case uw => (first | exact (by decide : Str.ofString "\"" = ⟨#[34]⟩) | exact (by decide : Str.ofString "'" = ⟨#[39]⟩) | exact (by decide : Str.ofString ">" = ⟨#[62]⟩) | exact (by decide : Str.ofString "]" = ⟨#[93]⟩)))); rotate_left 1; intro e9 t9 vs9 g9 h9 tk9 n9 P9 F9 R9 K9 U9; obtain ⟨f9, j9⟩ := P9; have j8 := Kept.mk j9; clear j9; rotate_left 1; intro v9 h9 tk9 n9 F9 N9 P9; obtain ⟨nm9, k9, t9', u9', hnm9, hln9, hch9, hk9, hd9, q1, q2⟩ := P9; subst q1; subst q2; all_goals ((try dsimp only); (try k_fold)))
  k_with "call ref" => (k_here; (try dsimp only [List.cons_append, List.nil_append]); (with_reducible show wpAny _ _ (call (Value.ref 103) [_, _]) _ _ _); k_dflt (refine' Callee.use (takes_d _ _ _ _ _ _ _ _ _ _ _ _ _ _ _ _ _ ?ur ?un ?ul ?uk _ _ ?uw) ?u1 ?u2 ?u3 ?u4 ?u5 ?u6 ?u7 ?u8 ?_ ?_; (case u1 => k_asm); (case u2 => k_asm); (case u3 => k_asm); (case u4 => exact news_rot2 (by k_asm)); (case u5 => k_asm); (case u6 => first | exact rfl | assumption); (case u7 => ktr_room); (case u8 => ktr_units); (case ur => first | with_reducible assumption | k_all); (case un => with_reducible assumption); (case ul => with_reducible assumption); (case uk => with_reducible assumption); (case uw => decide)); rotate_left 1; intro e9 t9 vs9 g9 h9 tk9 n9 P9 F9 R9 K9 U9; exact P9.elim; intro v9 h9 tk9 n9 F9 N9 P9; (rcases P9 with ⟨q1, k9, t9', hk9, hd9, q2⟩ | ⟨q1, t9', hd9, q2⟩ <;> (subst q1; subst q2)); all_goals (replace N9 := news_back N9); all_goals ((try dsimp only); (try k_fold)))
  k_with "call ref" => (k_here; (try dsimp only [List.cons_append, List.nil_append]); (with_reducible show wpAny _ _ (call (Value.ref 110) [_, _]) _ _ _); k_dflt (refine' Callee.use (until_d _ _ _ _ _ _ _ _ _ _ _ _ _ _ _ _ _ ?ur ?un ?ul ?uk _ _ _ ?uw) ?u1 ?u2 ?u3 ?u4 ?u5 ?u6 ?u7 ?u8 ?_ ?_; (case u1 => k_asm); (case u2 => k_asm); (case u3 => k_asm); (case u4 => exact news_rot2 (by k_asm)); (case u5 => k_asm); (case u6 => first | exact rfl | assumption); (case u7 => ktr_room); (case u8 => ktr_units); (case ur => first | with_reducible assumption | k_all); (case un => with_reducible assumption); (case ul => with_reducible assumption); (case uk => with_reducible assumption); (case uw => (first | exact (by decide : Str.ofString "\"" = ⟨#[34]⟩) | exact (by decide : Str.ofString "'" = ⟨#[39]⟩) | exact (by decide : Str.ofString ">" = ⟨#[62]⟩) | exact (by decide : Str.ofString "]" = ⟨#[93]⟩)))); rotate_left 1; intro e9 t9 vs9 g9 h9 tk9 n9 P9 F9 R9 K9 U9; obtain ⟨f9, j9⟩ := P9; have j8 := Kept.mk j9; clear j9; rotate_left 1; intro v9 h9 tk9 n9 F9 N9 P9; obtain ⟨nm9, k9, t9', u9', hnm9, hln9, hch9, hk9, hd9, q1, q2⟩ := P9; subst q1; subst q2; all_goals (replace N9 := news_back N9); all_goals ((try dsimp only); (try k_fold)))
  k_with "pyIter ref" => (k_here; (with_reducible show wpAny _ _ (pyIter (Value.ref _)) (fun it s₂ => TurnsAt _ _ _ _ _ _ _ _ _ it s₂) _ _); (rename Fr _ _ _ _ => lF'); (rename News _ _ _ _ => lN'); (with_unfolding_all refine iter_tupTurns (by rfl) lF' lN' (by k_mem) (by rfl) (by rfl) ?_); clear lF' lN'; intro i' l1; (try k_lt l1); (try (first | have old9 := Old.mk l1.2.2.2.2.2.2 | have old9 := Old.mk l1.2.2.2.2.2 | have old9 := Old.mk l1.2.2.2.2 | have old9 := Old.mk l1.2.2.2 | have old9 := Old.mk l1.2.2 | have old9 := Old.mk l1.2 | have old9 := Old.mk l1)))
  k_with "UnrEndW" => (with_unfolding_all refine' ⟨_, _, _, _, rfl, ?k1, ?k2, offS ?k3, ?k4, ?_⟩; (case k1 => k_asm); (case k2 => k_asm); (case k3 => k_all); (case k4 => k_subL))
  k_with "call ref" => (k_here; (with_reducible show wpAny _ _ (call (Value.ref 150) [_, _]) _ _ _); refine stopW ?_)
  k_with "KswPost" => (with_reducible refine kswRet _ _ _ _ _ _ _ _ _ _ _ _ _ _ _ ?_)
  unfold Callee PR
  k_fill
  intro dp un gd cn cs fa ccd cl outer A₀ base h₀ L m s Q E B F X N T hk hdp hun hret hraise
  refine wpAny_call ?_

  k_dflt cell_enter
  k_steps
  · unfold Stop
    have l8 := ‹sc < _ ∧ dx < _ ∧ AllLt _ rest›
    have old8 := Old.of _ _ l8.2.2
    have hdrop := ‹List.drop _ x.cps.toList = (x.cps.toList.drop k).dropWhile isNm›
    rw [← hdrop] at hr'
    (rename Fr _ _ _ _ => F1); (rename News _ _ _ _ => N1)
    have N2 := news_tag N1
    clear N1
    k_dflt (refine' ksw_while (fun c : TS => (sc, instObj 127 dx) :: (dx, dictOf [⟨h1, .str (Str.ofString "text") t1, .str x tx⟩, ⟨h2, .str (Str.ofString "at") t2, .int (c.k : Int) c.t⟩] 2) :: (_, c.o) :: _ :: _ :: _ :: rest) (fun _ => []) (fun _ => True) [] (TInv w x r) (fun c => c.n) ⟨_, _, _, [], [], n0⟩ F1 N2 trivial ?kk ?kp ?turn)
    case kk => exact fun _ q => nomatch q
    case kp => exact ⟨by with_reducible assumption, by with_reducible assumption, (by with_reducible assumption : PyProof.V.FlatPairs PyData.str [] []), by simpa using hn0, hr'⟩
    case turn =>
      rintro ⟨k1, t1', o1, kvs1, KD1, n1⟩ u h tk _ I F N
      dsimp only at *
      have hle := I.le
      have hdict := I.dict
      have hflat := I.flat
      have hlen := I.len
      have hrest := I.rest
      dsimp only at hle hdict hflat hlen hrest
      k_steps
      · exact hret _ _ _ _ (by k_asm) (by k_asm) ⟨_, _, _, _, _, _, _, _, _, _, _, _, _, _, _, _, _, _, _, _, _, _, rfl, (by with_reducible assumption), (by with_reducible assumption), tag_sl hrest (by with_reducible assumption) (by with_reducible assumption), (by with_reducible assumption), (by with_reducible assumption), hdict, hflat, rfl⟩
      · exact hret _ _ _ _ (by k_asm) (by k_asm) ⟨_, _, _, _, _, _, _, _, _, _, _, _, _, _, _, _, _, _, _, _, _, _, rfl, (by with_reducible assumption), (by with_reducible assumption), tag_gt hrest (by with_reducible assumption) (by with_reducible assumption), (by with_reducible assumption), (by with_reducible assumption), hdict, hflat, rfl⟩
      · unfold Stop
        obtain ⟨n', q, hn', hq1, hq2, hq3⟩ := tag_at hrest (by with_reducible assumption) (by with_reducible assumption) (by with_reducible assumption)
        k_dflt (refine' Callee.use (attr_c _ _ _ _ _ _ _ _ _ _ _ _ _ _ _ _ _ ?ar hne hl ?ak hw _ _ _ _ ?ax ?as ?ay ?ar2 hdict hflat (by omega) q hq1) ?u1 ?u2 ?u3 ?u4 ?u5 ?u6 ?u7 ?u8 ?u9 ?u10)
        case u1 => k_asm
        case u2 => k_asm
        case u3 => k_asm
        case u4 => k_asm
        case u5 => k_asm
        case u6 => first | exact rfl | assumption
        case u7 => ktr_room
        case u8 => ktr_units
        case ar => exact List.forall_mem_cons.mpr ⟨by k_ne, List.forall_mem_cons.mpr ⟨by k_ne, List.forall_mem_cons.mpr ⟨by k_ne, hr⟩⟩⟩
        case ak => with_reducible assumption
        case ax => k_ne
        case as => k_ne
        case ay => with_reducible assumption
        case ar2 => exact List.forall_mem_cons.mpr ⟨by k_ne, List.forall_mem_cons.mpr ⟨by k_ne, List.forall_mem_cons.mpr ⟨by k_ne, old8.ne (Nat.le_refl _)⟩⟩⟩
        case u10 =>
          intro e9 t9 vs9 g9 h9 tk9 n9 P9 F9 R9 K9 U9
          (try dsimp only); (try k_fold)
          k_steps
          refine hraise _ _ _ _ _ _ _ ?_ (by assumption) (by assumption) (by assumption) (by assumption)
          exact ⟨.inr (hq2 P9.1), fun p hp => P9.2 p (by simp [hp])⟩
        case u9 =>
          intro v9 h9 tk9 n9 F9 N9 P9
          obtain ⟨rfl, kv, k', t', o', kvs', hq4, hk', hd', hf', rfl⟩ := P9
          (try dsimp only); (try k_fold)
          k_steps
          exact ksw_end ⟨k', t', o', kvs', KD1 ++ [kv], n'⟩ (by assumption) (by assumption) (fun _ q => q) trivial (fun _ q => nomatch q) (by intro z h2 h3; try simp at h2; simp [kstB, *]) ⟨hk', hd', hf', by simp; omega, hq3 _ _ hq4⟩ (by dsimp only; omega)
  · refine hraise _ _ _ _ _ _ _ ?_ (by assumption) (by assumption) (by assumption) (by assumption)
    (rename Kept _ _ => J9)
    exact ⟨.inl (by with_reducible assumption), fun p hp => J9.h p (by simp [hp])⟩
end Mine
end
section
open PySem PySem.W PySem.Calls PySem.Spec PyProof.Rows
set_option Elab.async false
set_option maxRecDepth 100000
namespace Mine
structure EndsT (b : Bool) (z : Str) : Prop where
  is : z = if b then Str.ofString "/>" else Str.ofString ">"
theorem EndsT.len {b : Bool} {z : Str} (h : EndsT b z) : z.length ≤ 2 := by
  obtain ⟨rfl⟩ := h; cases b <;> decide
theorem EndsT.one {b : Bool} {z : Str} (h : EndsT b z) : z = Str.ofString "/>" ∨ z = Str.ofString ">" := by
  obtain ⟨rfl⟩ := h
  cases b
  · exact .inr rfl
  · exact .inl rfl
theorem ite_ends {prog : Program} {w : World} {A : Around} {env : Env} {Q E : Value → Shared → Prop} {s : Shared} {b : Bool} {inst : Decidable (b = true)} {k1 k2 : Nat} {p1 p2 : Pos}
    (h : ∀ z, EndsT b z → z.length ≤ 2 → Q (.str z s.toks) { s with toks := s.toks + 1 }) :
    @ite Prop (b = true) inst (wpAny (model prog w) A (eval (.Constant (.str (Str.ofString "/>")) k1 p1) env) Q E s) (wpAny (model prog w) A (eval (.Constant (.str (Str.ofString ">")) k2 p2) env) Q E s) := by
  cases b with
  | true => rw [if_pos rfl]; exact Calls.Constant_str (h _ (⟨rfl⟩ : EndsT true (Str.ofString "/>")) (EndsT.len (b := true) ⟨rfl⟩))
  | false => rw [if_neg Bool.false_ne_true]; exact Calls.Constant_str (h _ (⟨rfl⟩ : EndsT false (Str.ofString ">")) (EndsT.len (b := false) ⟨rfl⟩))

theorem keys_step {i n : Nat} {d m : Str} {KD : List (Str × Str)} (hk : KD.map (·.1) = labels4.take i) (h : (labels4.take n)[i]? = some d) : (KD ++ [(d, m)]).map (·.1) = labels4.take (i + 1) := by
  have h1 : labels4[i]? = some d := by
    rw [List.getElem?_take] at h
    split at h
    · exact h
    · cases h
  rw [List.map_append, hk, List.take_add_one, h1]
  rfl
theorem tag_four {n : Nat} {KD : List (Str × Str)} {wr : Str} (h : TagW (List.take n labels4).length KD wr) (hk : KD.map (·.1) = labels4.take (List.take n labels4).length) : ∃ i, i ≤ 4 ∧ TagW i KD wr ∧ wr.length ≤ 200 * i ∧ KD.length ≤ 4 := by
  refine ⟨_, List.length_take_le' _ _, h, h.len, ?_⟩
  have := congrArg List.length hk
  rw [List.length_map, List.length_take] at this
  have e : labels4.length = 4 := rfl
  omega
def TruePost (src : Nat) (rest : Led) (v : Value) (n : Led) : Prop := ∃ o', v = .bool true ∧ IsSrc o' ∧ n = (src, o') :: rest
theorem post_true {src : Nat} {rest : Led} {o' : Obj} {b : Bool} (h : b = true) (hs : IsSrc o') : TruePost src rest (.bool b) ((src, o') :: rest) := ⟨o', by rw [h], hs, rfl⟩
theorem app_ne {R rest own : Led} {d : Nat} (hR : R = rest ++ own) (h1 : ∀ p ∈ rest, p.1 ≠ d) (h2 : ∀ p ∈ own, p.1 ≠ d) : ∀ p ∈ R, p.1 ≠ d := fun p hp => by
  rw [hR] at hp
  rcases List.mem_append.mp hp with hp | hp
  · exact h1 p hp
  · exact h2 p hp
set_option maxHeartbeats 4000000 in
theorem tagr_c (w : World) (p : Program) (loose : List Str) (mean : ExcName → Option Value) (mg mb : Str → Option Value) (rest : Led) (src : Nat) (o : Obj) (ho : IsSrc o) (hr : ∀ p ∈ rest, p.1 ≠ src) :
    Callee w p loose mean mg mb ((src, o) :: rest) 60 (.ref 218) [.ref src] (TruePost src rest) (fun n => False) := by
  w_top off
  k_with_none
  k_with "ite" => ((with_reducible refine ite_ends ?_); intro _ _ hl9; (try dsimp only))
  k_with "leaving ref" => (k_here; (with_reducible rename RaisedS _ _ _ _ _ _ _ _ _ => rsX); k_dflt (refine' leave_onS ?k1 ?k2 rsX ?k4 ?_; (case k2 => assumption); (case k1 => assumption); (case k4 => assumption); k_whole; intro h' S' R' U'; (try dsimp only at S' R' U' ⊢)))
  k_with "exec Raise some none" => (k_here; (with_reducible show wpAny _ _ (exec (Stmt.Raise (some (PySem.Expr.Call (PySem.Expr.Name ("SheetFault" : Str) _) _ _ _)) none _) _) _ _ _); k_dflt (refine fault_raise (by rfl) ?_))
  k_with "call ref" => (k_here; (with_reducible show wpAny _ _ (call (Value.ref 44) [_]) _ _ _); k_dflt (refine' fault_call ?k1 ?k2 ?k3 ?k4 ?k5 ?_; (case k1 => k_asm); (case k2 => k_asm); (case k3 => k_asm); (case k4 => k_is); (case k5 => k_is); k_whole; intro e' t' h' F' N' l1 l2; (try (first | have old9 := Old.mk l1.2.2.2.2.2.2 | have old9 := Old.mk l1.2.2.2.2.2 | have old9 := Old.mk l1.2.2.2.2 | have old9 := Old.mk l1.2.2.2 | have old9 := Old.mk l1.2.2 | have old9 := Old.mk l1.2 | have old9 := Old.mk l1)); (try k_lt l1); (try k_lt2 l2); k_enter))
  k_with "setAttr ref" => (k_here; k_dflt (refine' fault_store ?k1 ?k2 ?k3 ?k4 ?k5 ?k6 ?_; (case k1 => k_asm); (case k2 => k_asm); (case k3 => k_asm); (case k4 => k_is); (case k5 => k_is); (case k6 => k_all); k_whole; intro d' h' tk' F' N'))
  k_with "FaultEnd" => (k_dflt (refine' fault_end ?k1 ?k2 ?k3 ?k4 ?_; (case k1 => k_asm); (case k2 => k_asm); (case k3 => k_asm); (case k4 => exact List.Mem.head _)))
  k_with "leaving ref" => (k_here; k_dflt (refine' fault_leave ?k1 ?k2 ?k3 ?k4 ?k5 ?k6 ?k7 ?_; (case k1 => k_asm); (case k2 => k_asm); (case k3 => k_asm); (case k4 => k_all); (case k5 => k_all); (case k6 => exact rfl); (case k7 => exact rfl); k_whole; intro h' R' R2' U'; (try dsimp only at R' R2' U' ⊢)))
  k_with "exec While" => (k_here; refine stopW ?_)
  k_with "exec While Compare" => (k_here; refine stopW ?_)
  k_with "exec While BoolOp" => (k_here; refine stopW ?_)
  k_with "last exec While" => (k_here; refine stopW ?_)
  k_with "last exec While Compare" => (k_here; refine stopW ?_)
  k_with "call ref" => (k_here; (with_reducible show wpAny _ _ (call (Value.ref 178) [_, _]) _ _ _); k_dflt (refine' Callee.use (take_c _ _ _ _ _ _ _ _ _ ?us _ _ ?ur ?ua ?ub) ?u1 ?u2 ?u3 ?u4 ?u5 ?u6 ?u7 ?u8 ?_ ?_; (case u1 => k_asm); (case u2 => k_asm); (case u3 => k_asm); (case u4 => (first | k_asm | exact news_at1 (by k_asm) | exact news_at2 (by k_asm) | exact news_at3 (by k_asm))); (case u5 => k_asm); (case u6 => first | exact rfl | assumption); (case u7 => ktr_room); (case u8 => ktr_units); (case us => with_reducible assumption); (case ur => (first | with_reducible assumption | exact List.forall_mem_cons.mpr ⟨by k_ne, by (first | with_reducible assumption | exact List.forall_mem_cons.mpr ⟨by k_ne, by (first | with_reducible assumption | exact List.forall_mem_cons.mpr ⟨by k_ne, by (first | with_reducible assumption | exact List.forall_mem_cons.mpr ⟨by k_ne, by (first | with_reducible assumption | exact List.forall_mem_cons.mpr ⟨by k_ne, by (first | with_reducible assumption | exact List.forall_mem_cons.mpr ⟨by k_ne, by (first | with_reducible assumption | exact List.forall_mem_cons.mpr ⟨by k_ne, by (first | with_reducible assumption | exact List.forall_mem_cons.mpr ⟨by k_ne, by (first | with_reducible assumption | exact List.forall_mem_cons.mpr ⟨by k_ne, by with_reducible assumption⟩)⟩)⟩)⟩)⟩)⟩)⟩)⟩)⟩)); (case ua => omega); (case ub => omega)); rotate_left 1; intro e9 t9 vs9 g9 h9 tk9 n9 P9 F9 R9 K9 U9; exact P9.elim; intro v9 h9 tk9 n9 F9 N9 P9; obtain ⟨d9, t9, o9, q1, hlo9, hhi9, hs9, q2⟩ := P9; subst q1; subst q2; (try dsimp only); (try k_fold))
  k_with "call ref" => (k_here; (try dsimp only [List.cons_append, List.nil_append]); (with_reducible show wpAny _ _ (call (Value.ref 185) [_, _]) _ _ _); k_dflt (refine' Callee.use (one_c _ _ _ _ _ _ _ _ _ ?us _ _ _ ["a", "svg", "x:y"] ?ur (List.Mem.head _) ?uq ?ua ?ub) ?u1 ?u2 ?u3 ?u4 ?u5 ?u6 ?u7 ?u8 ?_ ?_; (case u1 => k_asm); (case u2 => k_asm); (case u3 => k_asm); (case u4 => (first | k_asm | exact news_at1 (by k_asm) | exact news_at2 (by k_asm) | exact news_at3 (by k_asm))); (case u5 => k_asm); (case u6 => first | exact rfl | assumption); (case u7 => ktr_room); (case u8 => ktr_units); (case us => with_reducible assumption); (case ur => (first | with_reducible assumption | exact List.forall_mem_cons.mpr ⟨by k_ne, by (first | with_reducible assumption | exact List.forall_mem_cons.mpr ⟨by k_ne, by (first | with_reducible assumption | exact List.forall_mem_cons.mpr ⟨by k_ne, by (first | with_reducible assumption | exact List.forall_mem_cons.mpr ⟨by k_ne, by (first | with_reducible assumption | exact List.forall_mem_cons.mpr ⟨by k_ne, by (first | with_reducible assumption | exact List.forall_mem_cons.mpr ⟨by k_ne, by (first | with_reducible assumption | exact List.forall_mem_cons.mpr ⟨by k_ne, by (first | with_reducible assumption | exact List.forall_mem_cons.mpr ⟨by k_ne, by (first | with_reducible assumption | exact List.forall_mem_cons.mpr ⟨by k_ne, by with_reducible assumption⟩)⟩)⟩)⟩)⟩)⟩)⟩)⟩)⟩)); (case uq => repeat first | exact .nil | refine .cons _ _ ?_); (case ua => exact Nat.le_of_ble_eq_true rfl); (case ub => exact Nat.le_of_ble_eq_true rfl)); rotate_left 1; intro e9 t9 vs9 g9 h9 tk9 n9 P9 F9 R9 K9 U9; exact P9.elim; intro v9 h9 tk9 n9 F9 N9 P9; obtain ⟨c9, t9, o9, q1, hc9, hs9, q2⟩ := P9; subst q1; subst q2; have hnl9 := name_len hc9; (try dsimp only); (try k_fold))
  k_with "call ref" => (k_here; (try dsimp only [List.cons_append, List.nil_append]); (with_reducible show wpAny _ _ (call (Value.ref 185) [_, _]) _ _ _); k_dflt (refine' Callee.use (one_c _ _ _ _ _ _ _ _ _ ?us _ _ _ ["\"", "'"] ?ur (List.Mem.head _) ?uq ?ua ?ub) ?u1 ?u2 ?u3 ?u4 ?u5 ?u6 ?u7 ?u8 ?_ ?_; (case u1 => k_asm); (case u2 => k_asm); (case u3 => k_asm); (case u4 => (first | k_asm | exact news_at1 (by k_asm) | exact news_at2 (by k_asm) | exact news_at3 (by k_asm))); (case u5 => k_asm); (case u6 => first | exact rfl | assumption); (case u7 => ktr_room); (case u8 => ktr_units); (case us => with_reducible assumption); (case ur => (first | with_reducible assumption | exact List.forall_mem_cons.mpr ⟨by k_ne, by (first | with_reducible assumption | exact List.forall_mem_cons.mpr ⟨by k_ne, by (first | with_reducible assumption | exact List.forall_mem_cons.mpr ⟨by k_ne, by (first | with_reducible assumption | exact List.forall_mem_cons.mpr ⟨by k_ne, by (first | with_reducible assumption | exact List.forall_mem_cons.mpr ⟨by k_ne, by (first | with_reducible assumption | exact List.forall_mem_cons.mpr ⟨by k_ne, by (first | with_reducible assumption | exact List.forall_mem_cons.mpr ⟨by k_ne, by (first | with_reducible assumption | exact List.forall_mem_cons.mpr ⟨by k_ne, by (first | with_reducible assumption | exact List.forall_mem_cons.mpr ⟨by k_ne, by with_reducible assumption⟩)⟩)⟩)⟩)⟩)⟩)⟩)⟩)⟩)); (case uq => repeat first | exact .nil | refine .cons _ _ ?_); (case ua => exact Nat.le_of_ble_eq_true rfl); (case ub => exact Nat.le_of_ble_eq_true rfl)); rotate_left 1; intro e9 t9 vs9 g9 h9 tk9 n9 P9 F9 R9 K9 U9; exact P9.elim; intro v9 h9 tk9 n9 F9 N9 P9; obtain ⟨c9, t9, o9, q1, hc9, hs9, q2⟩ := P9; subst q1; subst q2; have hql9 := quote_len hc9; (try dsimp only); (try k_fold))
  k_with "call ref" => (k_here; (try dsimp only [List.cons_append, List.nil_append]); (with_reducible show wpAny _ _ (call (Value.ref 185) [_, _]) _ _ _); k_dflt (refine' Callee.use (one_c _ _ _ _ _ _ _ _ _ ?us _ _ _ ["", ">", "<b/>", " x"] ?ur (List.Mem.head _) ?uq ?ua ?ub) ?u1 ?u2 ?u3 ?u4 ?u5 ?u6 ?u7 ?u8 ?_ ?_; (case u1 => k_asm); (case u2 => k_asm); (case u3 => k_asm); (case u4 => (first | k_asm | exact news_at1 (by k_asm) | exact news_at2 (by k_asm) | exact news_at3 (by k_asm))); (case u5 => k_asm); (case u6 => first | exact rfl | assumption); (case u7 => ktr_room); (case u8 => ktr_units); (case us => with_reducible assumption); (case ur => (first | with_reducible assumption | exact List.forall_mem_cons.mpr ⟨by k_ne, by (first | with_reducible assumption | exact List.forall_mem_cons.mpr ⟨by k_ne, by (first | with_reducible assumption | exact List.forall_mem_cons.mpr ⟨by k_ne, by (first | with_reducible assumption | exact List.forall_mem_cons.mpr ⟨by k_ne, by (first | with_reducible assumption | exact List.forall_mem_cons.mpr ⟨by k_ne, by (first | with_reducible assumption | exact List.forall_mem_cons.mpr ⟨by k_ne, by (first | with_reducible assumption | exact List.forall_mem_cons.mpr ⟨by k_ne, by (first | with_reducible assumption | exact List.forall_mem_cons.mpr ⟨by k_ne, by (first | with_reducible assumption | exact List.forall_mem_cons.mpr ⟨by k_ne, by with_reducible assumption⟩)⟩)⟩)⟩)⟩)⟩)⟩)⟩)⟩)); (case uq => repeat first | exact .nil | refine .cons _ _ ?_); (case ua => exact Nat.le_of_ble_eq_true rfl); (case ub => exact Nat.le_of_ble_eq_true rfl)); rotate_left 1; intro e9 t9 vs9 g9 h9 tk9 n9 P9 F9 R9 K9 U9; exact P9.elim; intro v9 h9 tk9 n9 F9 N9 P9; obtain ⟨c9, t9, o9, q1, hc9, hs9, q2⟩ := P9; subst q1; subst q2; have hrl9 := rest_len hc9; (try dsimp only); (try k_fold))
  k_with "call ref" => (k_here; (try dsimp only [List.cons_append, List.nil_append]); (with_reducible show wpAny _ _ (call (Value.ref 206) [_]) _ _ _); k_dflt (refine' Callee.use (text_c _ _ _ _ _ _ _ _ _ ?us ?ur) ?u1 ?u2 ?u3 ?u4 ?u5 ?u6 ?u7 ?u8 ?_ ?_; (case u1 => k_asm); (case u2 => k_asm); (case u3 => k_asm); (case u4 => (first | k_asm | exact news_at1 (by k_asm) | exact news_at2 (by k_asm) | exact news_at3 (by k_asm))); (case u5 => k_asm); (case u6 => first | exact rfl | assumption); (case u7 => ktr_room); (case u8 => ktr_units); (case us => with_reducible assumption); (case ur => (first | with_reducible assumption | exact List.forall_mem_cons.mpr ⟨by k_ne, by (first | with_reducible assumption | exact List.forall_mem_cons.mpr ⟨by k_ne, by (first | with_reducible assumption | exact List.forall_mem_cons.mpr ⟨by k_ne, by (first | with_reducible assumption | exact List.forall_mem_cons.mpr ⟨by k_ne, by (first | with_reducible assumption | exact List.forall_mem_cons.mpr ⟨by k_ne, by (first | with_reducible assumption | exact List.forall_mem_cons.mpr ⟨by k_ne, by (first | with_reducible assumption | exact List.forall_mem_cons.mpr ⟨by k_ne, by (first | with_reducible assumption | exact List.forall_mem_cons.mpr ⟨by k_ne, by (first | with_reducible assumption | exact List.forall_mem_cons.mpr ⟨by k_ne, by with_reducible assumption⟩)⟩)⟩)⟩)⟩)⟩)⟩)⟩)⟩))); rotate_left 1; intro e9 t9 vs9 g9 h9 tk9 n9 P9 F9 R9 K9 U9; exact P9.elim; intro v9 h9 tk9 n9 F9 N9 P9; unfold TextPost at P9; obtain ⟨i9, T9, m9, wr9, t8, t9, o9, q1, hi9, hg9, hs9, hT9, q2⟩ := P9; subst q1; subst q2; (try dsimp only [AllLt] at hT9); have hgw9 := hg9.lw; (try dsimp only); (try k_fold))
  k_with "call ref" => (k_here; (try dsimp only [List.cons_append, List.nil_append]); (with_reducible show wpAny _ _ (call (Value.ref 211) [_, _]) _ _ _); k_dflt (refine' Callee.use (blanks_c _ _ _ _ _ _ _ _ _ ?us ?ur _ _ ?ub ?uc) ?u1 ?u2 ?u3 ?u4 ?u5 ?u6 ?u7 ?u8 ?_ ?_; (case u1 => k_asm); (case u2 => k_asm); (case u3 => k_asm); (case u4 => (first | k_asm | exact news_at1 (by k_asm) | exact news_at2 (by k_asm) | exact news_at3 (by k_asm))); (case u5 => k_asm); (case u6 => first | exact rfl | assumption); (case u7 => ktr_room); (case u8 => ktr_units); (case us => with_reducible assumption); (case ur => (first | with_reducible assumption | exact List.forall_mem_cons.mpr ⟨by k_ne, by (first | with_reducible assumption | exact List.forall_mem_cons.mpr ⟨by k_ne, by (first | with_reducible assumption | exact List.forall_mem_cons.mpr ⟨by k_ne, by (first | with_reducible assumption | exact List.forall_mem_cons.mpr ⟨by k_ne, by (first | with_reducible assumption | exact List.forall_mem_cons.mpr ⟨by k_ne, by (first | with_reducible assumption | exact List.forall_mem_cons.mpr ⟨by k_ne, by (first | with_reducible assumption | exact List.forall_mem_cons.mpr ⟨by k_ne, by (first | with_reducible assumption | exact List.forall_mem_cons.mpr ⟨by k_ne, by (first | with_reducible assumption | exact List.forall_mem_cons.mpr ⟨by k_ne, by with_reducible assumption⟩)⟩)⟩)⟩)⟩)⟩)⟩)⟩)⟩)); (case ub => omega); (case uc => omega)); rotate_left 1; intro e9 t9 vs9 g9 h9 tk9 n9 P9 F9 R9 K9 U9; exact P9.elim; intro v9 h9 tk9 n9 F9 N9 P9; unfold BlPost at P9; obtain ⟨b9, t9, o9, q1, hb9, hs9, q2⟩ := P9; subst q1; subst q2; (have hbl9 := hb9.hi); (try dsimp only); (try k_fold))
  k_with "last subscriptTail" => (k_here; (with_reducible show wpAny _ _ (subscriptTail _ (PySem.Expr.Slice none (some _) none _) (Value.ref _) (Value.ref _)) _ _ _); k_dflt (refine' texts_upto (s := ⟨_, _, _, _, _⟩) (ds := labels4) ?F ?N ?m ?T ?y ?z ?_ ?s ?t; (case F => k_asm); (case N => k_asm); (case m => k_mem); (case T => repeat first | exact .nil | refine .cons _ _ ?_); (case y => with_reducible assumption); (case z => exact Nat.le_of_ble_eq_true rfl); (case s => with_unfolding_all rfl); (case t => (intro _; with_unfolding_all rfl))); intro D' ws' h' F' N' l1 T9; (try k_lt l1))
  k_with "exec For Name Subscript cons nil" => (k_here; (rename Fr _ _ _ _ => lF'); (with_unfolding_all refine' For_invVF lF' ?k1 ?k2 ?_; (case k1 => exact rfl); (case k2 => exact rfl); k_whole))
  k_with "pyIter ref" => (k_here; refine stopW ?_)
  k_with "InvEndG" => (refine stopW ?_)
  k_with "call ref" => (k_here; (with_reducible show wpAny _ _ (call (Value.ref 157) [_]) _ _ _); refine stopW ?_)
  k_with "call type:list" => (k_here; (with_reducible show wpAny _ _ (call (Value.type "list") [Value.ref _]) _ _ _); k_dflt (refine' items_reads (by rfl) ?F ?N ?v ?m ?d ?f ?n ?_; (case F => k_asm); (case N => k_asm); (case v => k_mem); (case m => k_mem); (case d => with_reducible assumption); (case f => with_reducible assumption); (case n => omega)); intro B' its' c' tups' h' tk' F' N' P9; (try simp only [List.cons_append] at N'))
  k_with "compareOp NotEq ref ref" => (k_here; refine stopW ?_)
  k_with "compareOp Eq str str" => (k_here; (with_reducible show wpAny _ _ (compareOp CmpOp.Eq (Value.str (Txt.slice _ _ _) _) (Value.str _ _)) _ _ _); refine stopW ?_)
  k_with "binaryOp Add str str" => (k_here; (with_reducible show wpAny _ _ (binaryOp Operator.Add (Value.str _ _) (Value.str _ _)) _ _ _); (refine add_len ?hs9 ?_); (case hs9 => omega); intro _ _ hal9)
  unfold Callee PR
  k_fill
  intro dp un gd cn cs fa ccd cl outer A₀ base h₀ L m s Q E B F X N T hk hdp hun hret hraise
  refine wpAny_call ?_

  k_dflt cell_enter
  have hlit0 : (Str.ofString "=").length = 1 := by decide
  have hlit1 : (Str.ofString "/>").length = 2 := by decide
  have hlit2 : (Str.ofString ">").length = 1 := by decide
  k_steps
  unfold Stop
  (rename Fr _ _ _ _ => F1); (rename News _ _ _ _ => N1); (rename PyProof.Rows.StrsAre _ _ => T1)
  have N2 := news_gs N1
  k_dflt (refine' loop_texts (fun c : GS => (src, c.o) :: (_, c.od) :: (_, W.listOf _ 0) :: rest) (fun c => [(Str.ofString "written", .str c.wr c.t)]) [Str.ofString "meant", Str.ofString "value", Str.ofString "quote"] (GInv w) ⟨_, _, [], [], _, _, .none, .none, .none⟩ (by rfl) (fun c => List.Mem.tail _ (List.Mem.tail _ (List.Mem.head _))) T1 F1 N2 ?kk ?kp ?turn ?done)
  case kk => kst_all
  case kp => exact ⟨by with_reducible assumption, by with_reducible assumption, (by with_reducible assumption : PyProof.V.FlatPairs PyData.str [] []), rfl, TagW.nil⟩
  case turn =>
    rintro ⟨o1, od1, kvs1, KD1, wr1, t1, v1, v2, v3⟩ i d td u h tk own hdi hoff hI F3 N3
    have hs1 := hI.src
    have hdict := hI.dict
    have hflat := hI.flat
    have hkeys := hI.keys
    have htag := hI.tag
    have hwl := htag.len
    dsimp only [kstB] at *
    obtain ⟨hlb, hnew, hi4⟩ := label_new hkeys hdi
    have hNm := nm_label hlb
    have hlbl := hNm.len
    have hKD : KD1.length ≤ 1000 := by
      have := congrArg List.length hkeys
      rw [List.length_map, List.length_take] at this
      omega
    clear hflat
    have hflat : PyProof.V.FlatPairs PyData.str kvs1 (KD1.map fun p => (PyData.str p.1, PyData.str p.2)) := hI.flat
    have l7 := ‹src < _ ∧ _ < _ ∧ AllLt _ rest›
    have old7 := (Old.of' _ _ l7.2.2).ne (Nat.le_refl _)
    obtain ⟨R, hR⟩ : ∃ R, R = rest ++ own := ⟨_, rfl⟩
    have hR1 : ∀ p ∈ rest, p ∈ R := fun p hp => by rw [hR]; exact List.mem_append.mpr (.inl hp)
    have hR2 : ∀ p ∈ own, p ∈ R := fun p hp => by rw [hR]; exact List.mem_append.mpr (.inr hp)
    have hR3 : ∀ p ∈ R, p.1 ≠ src := fun p hp => by
      rw [hR] at hp
      rcases List.mem_append.mp hp with hp | hp
      · exact hr p hp
      · exact hoff p hp src (.head _)
    have hR4 := app_ne hR old7 (fun p hp => hoff p hp _ (.tail _ (.head _)))
    rw [List.cons_append, List.cons_append, List.cons_append, ← hR] at N3
    clear hR
    k_steps
    unfold Stop
    (rename Fr _ _ _ _ => F9); (rename News _ _ _ _ => N9); (rename PyProof.V.FlatPairs _ _ _ => hf9)
    rw [put_new _ _ _ (by rw [look_mem, decide_eq_false_iff_not]; exact hnew)] at hf9
    refine' tx_end ⟨_, _, _, KD1 ++ [(d, _)], _, _, .none, .none, .none⟩ (fun c => .tail _ (.tail _ (.head _))) F9 N9 ?ha ?hb ?hc ?hk ?hd ⟨?h1, ?h2, ?h3, keys_step hkeys hdi, ?hg⟩
    case hk => kst_all
    case hd => kst_same
    case h1 => with_reducible assumption
    case h2 => with_reducible assumption
    case h3 => exact hf9
    case hc => exact hoff
    case hg => exact htag.step (by with_reducible assumption) hNm hnew (by with_reducible assumption) (by with_reducible assumption) (by with_reducible assumption) (by with_reducible assumption) (by with_reducible assumption)
    case hb => exact fun p hp => .tail _ (.tail _ (.tail _ (.tail _ (.tail _ (hR2 _ hp)))))
    case ha =>
      intro p hp
      rcases List.mem_cons.mp hp with rfl | hp
      · exact .head _
      · rcases List.mem_cons.mp hp with rfl | hp
        · exact .tail _ (.tail _ (.tail _ (.head _)))
        · rcases List.mem_cons.mp hp with rfl | hp
          · exact .tail _ (.tail _ (.tail _ (.tail _ (.head _))))
          · exact .tail _ (.tail _ (.tail _ (.tail _ (.tail _ (hR1 _ hp)))))
  case done =>
    rintro ⟨o1, od1, kvs1, KD1, wr1, t1, v1, v2, v3⟩ u h tk hI F3 N3
    have hs1 := hI.src
    have hdict := hI.dict
    have hflat := hI.flat
    have hkeys := hI.keys
    have htag := hI.tag
    dsimp only [kstB] at *
    obtain ⟨i, hi4, htag, hwl, hKD⟩ := tag_four htag hkeys
    k_steps
    · unfold Stop
      have l6 := ‹src < _ ∧ _ < _ ∧ _ < _ ∧ _ < _ ∧ _ < _ ∧ AllLt _ rest›
      have old6 := (Old.of' _ _ l6.2.2.2.2.2).ne (Nat.le_refl _)
      have hnm := nm_name ‹_ ∈ ([Str.ofString "a", Str.ofString "svg", Str.ofString "x:y"] : List Str)›
      have hrest := ‹_ ∈ ([Str.ofString "", Str.ofString ">", Str.ofString "<b/>", Str.ofString " x"] : List Str)›
      have hbx := ‹Blanks 0 _›
      have hz := ‹EndsT _ _›
      (rename News _ _ _ _ => N1)
      k_dflt (refine' Callee.use (tag_c _ _ _ _ _ _ _ _ _ _ _ _ _ _ _ 0 _ ?ra ?rb ?rc (Nat.zero_le _) ?rd _ (1 + i) (by omega) ?re) ?u1 ?u2 ?u3 ?u4 ?u5 ?u6 ?u7 ?u8 ?u9 ?u10)
      case u1 => k_asm
      case u2 => k_asm
      case u3 => k_asm
      case u4 => exact N1
      case u5 => k_asm
      case u6 => first | exact rfl | assumption
      case u7 => ktr_room
      case u8 => ktr_units
      case ra => exact List.forall_mem_cons.mpr ⟨by k_ne, List.forall_mem_cons.mpr ⟨by k_ne, List.forall_mem_cons.mpr ⟨by k_ne, List.forall_mem_cons.mpr ⟨by k_ne, List.forall_mem_cons.mpr ⟨by k_ne, old6⟩⟩⟩⟩⟩
      case rb => k_ne
      case rc => omega
      case rd => exact whole_lt hnm htag hbx hz.one hrest
      case re =>
        rw [List.drop_zero]
        exact (tag_whole hnm htag hbx hz.is).2
      case u10 =>
        intro e9 t9 vs9 g9 h9 tk9 n9 P9 F9 R9 K9 U9
        (try dsimp only); (try k_fold)
        exfalso
        rcases P9.1 with e | e
        · rw [List.drop_zero, (tag_whole hnm htag hbx hz.is).1] at e
          exact hnm.ne e
        · cases e
      case u9 =>
        intro v9 h9 tk9 n9 F9 N9 P9
        unfold TagPost at P9
        obtain ⟨T, e, de, d, cl, nm, o', kvs', KD, b, k', t, g1, g2, g3, g4, a1, a2, a3, a4, b1, b4, rfl, hnm', hnl, hr', hk', hsys, hd', hf', rfl⟩ := P9
        obtain ⟨rfl, rfl, rfl, hdr⟩ := tag_tells hnm htag hbx hz.is hnm' hr'
        (try dsimp only); (try k_fold)
        k_steps
        unfold Stop
        (rename News _ _ _ _ => N9)
        refine' ne_tags (KD := KD) N9 ?h1 ?h2 ?B1 ?B2 (PairsIn.mono ?q1 ?s1) (PairsIn.mono ?q2 ?s2) ?eb hnm.lt htag.kd ?hu ?_
        case h1 => k_mem
        case h2 => k_mem
        case B1 => k_mem
        case B2 => k_mem
        case q1 => with_reducible assumption
        case q2 => with_reducible assumption
        case s1 =>
          intro p hp
          repeat refine List.mem_cons_of_mem _ ?_
          exact List.mem_append.mpr (.inl (List.mem_append.mpr (.inr hp)))
        case s2 =>
          intro p hp
          repeat refine List.mem_cons_of_mem _ ?_
          exact List.mem_append.mpr (.inr hp)
        case eb => exact rfl
        case hu => first | k_room | ke_room
        k_steps
        unfold Stop
        rw [slice_rest hk' hdr]
        refine eq_self ?_
        k_steps
        have hs7 := ‹IsSrc _›
        (rename News _ _ _ _ => N8)
        refine hret _ _ _ _ (by k_asm) (cb_drop N8 ?_) (post_true (beq_self_eq_true _) hs7)
        intro p hp
        rcases List.mem_cons.mp hp with rfl | hp
        · repeat (first | exact List.mem_cons_self | refine List.mem_cons_of_mem _ ?_)
        · repeat refine List.mem_cons_of_mem _ ?_
          exact List.mem_append.mpr (.inl (List.mem_append.mpr (.inl hp)))
end Mine
end
section
open PySem PySem.W PySem.Calls PySem.Spec PyProof.Rows
set_option Elab.async false
set_option maxRecDepth 100000
namespace Mine

set_option maxHeartbeats 4000000 in
theorem type_c (w : World) (p : Program) (loose : List Str) (mean : ExcName → Option Value) (mg mb : Str → Option Value) (rest : Led) (sc dx : Nat) (h1 h2 : Int) (t1 t2 : Tok) (x : Str) (tx : Tok) (k : Nat) (tk0 : Tok) (hr : ∀ p ∈ rest, p.1 ≠ dx) (hne : sc ≠ dx) (hl : x.length ≤ 1000000) (hkl : k ≤ x.length) :
    Callee w p loose mean mg mb ((sc, instObj 127 dx) :: (dx, dictOf [⟨h1, .str (Str.ofString "text") t1, .str x tx⟩, ⟨h2, .str (Str.ofString "at") t2, .int ((k : Nat) : Int) tk0⟩] 2) :: rest) 10 (.ref 164) [.ref sc]
      (fun v n => v = .none ∧ ∃ (k' : Nat) (t : Tok), k' ≤ x.length ∧ typeL (x.cps.toList.drop k) = some (x.cps.toList.drop k') ∧ n = ((sc, instObj 127 dx) :: (dx, dictOf [⟨h1, .str (Str.ofString "text") t1, .str x tx⟩, ⟨h2, .str (Str.ofString "at") t2, .int ((k' : Nat) : Int) t⟩] 2) :: rest)) (fun n => typeL (x.cps.toList.drop k) = none ∧ ∀ p ∈ rest, p ∈ n) := by
  w_top off
  k_with_none
  k_with "leaving ref" => (k_here; (with_reducible rename RaisedS _ _ _ _ _ _ _ _ _ => rsX); k_dflt (refine' leave_onS ?k1 ?k2 rsX ?k4 ?_; (case k2 => assumption); (case k1 => assumption); (case k4 => assumption); k_whole; intro h' S' R' U'; (try dsimp only at S' R' U' ⊢)))
  k_with "exec Raise some none" => (k_here; (with_reducible show wpAny _ _ (exec (Stmt.Raise (some (PySem.Expr.Call (PySem.Expr.Name ("SheetFault" : Str) _) _ _ _)) none _) _) _ _ _); k_dflt (refine fault_raise (by rfl) ?_))
  k_with "call ref" => (k_here; (with_reducible show wpAny _ _ (call (Value.ref 44) [_]) _ _ _); k_dflt (refine' fault_call ?k1 ?k2 ?k3 ?k4 ?k5 ?_; (case k1 => k_asm); (case k2 => k_asm); (case k3 => k_asm); (case k4 => k_is); (case k5 => k_is); k_whole; intro e' t' h' F' N' l1 l2; (try (first | have old9 := Old.mk l1.2.2.2.2.2.2 | have old9 := Old.mk l1.2.2.2.2.2 | have old9 := Old.mk l1.2.2.2.2 | have old9 := Old.mk l1.2.2.2 | have old9 := Old.mk l1.2.2 | have old9 := Old.mk l1.2 | have old9 := Old.mk l1)); (try k_lt l1); (try k_lt2 l2); k_enter))
  k_with "setAttr ref" => (k_here; k_dflt (refine' fault_store ?k1 ?k2 ?k3 ?k4 ?k5 ?k6 ?_; (case k1 => k_asm); (case k2 => k_asm); (case k3 => k_asm); (case k4 => k_is); (case k5 => k_is); (case k6 => k_all); k_whole; intro d' h' tk' F' N'))
  k_with "FaultEnd" => (k_dflt (refine' fault_end ?k1 ?k2 ?k3 ?k4 ?_; (case k1 => k_asm); (case k2 => k_asm); (case k3 => k_asm); (case k4 => exact List.Mem.head _)))
  k_with "leaving ref" => (k_here; k_dflt (refine' fault_leave ?k1 ?k2 ?k3 ?k4 ?k5 ?k6 ?k7 ?_; (case k1 => k_asm); (case k2 => k_asm); (case k3 => k_asm); (case k4 => k_all); (case k5 => k_all); (case k6 => exact rfl); (case k7 => exact rfl); k_whole; intro h' R' R2' U'; (try dsimp only at R' R2' U' ⊢)))
  k_with "exec While" => (k_here; refine stopW ?_)
  k_with "exec While Compare" => (k_here; refine stopW ?_)
  k_with "exec While BoolOp" => (k_here; refine stopW ?_)
  k_with "last exec While" => (k_here; refine stopW ?_)
  k_with "last exec While Compare" => (k_here; refine stopW ?_)
  k_with "call ref" => (k_here; (try dsimp only [List.cons_append, List.nil_append]); (with_reducible show wpAny _ _ (call (Value.ref 117) [_]) _ _ _); k_dflt (refine' Callee.use (spaces_d _ _ _ _ _ _ _ _ _ _ _ _ _ _ _ _ _ ?ur ?un ?ul ?uk ) ?u1 ?u2 ?u3 ?u4 ?u5 ?u6 ?u7 ?u8 ?_ ?_; (case u1 => k_asm); (case u2 => k_asm); (case u3 => k_asm); (case u4 => k_asm); (case u5 => k_asm); (case u6 => first | exact rfl | assumption); (case u7 => ktr_room); (case u8 => ktr_units); (case ur => first | with_reducible assumption | k_all); (case un => with_reducible assumption); (case ul => with_reducible assumption); (case uk => with_reducible assumption)); rotate_left 1; intro e9 t9 vs9 g9 h9 tk9 n9 P9 F9 R9 K9 U9; exact P9.elim; intro v9 h9 tk9 n9 F9 N9 P9; obtain ⟨q1, k9, t9', hk9, hd9, q2⟩ := P9; subst q1; subst q2; all_goals ((try dsimp only); (try k_fold)))
  k_with "call ref" => (k_here; (try dsimp only [List.cons_append, List.nil_append]); (with_reducible show wpAny _ _ (call (Value.ref 124) [_]) _ _ _); k_dflt (refine' Callee.use (name_d _ _ _ _ _ _ _ _ _ _ _ _ _ _ _ _ _ ?ur ?un ?ul ?uk ) ?u1 ?u2 ?u3 ?u4 ?u5 ?u6 ?u7 ?u8 ?_ ?_; (case u1 => k_asm); (case u2 => k_asm); (case u3 => k_asm); (case u4 => k_asm); (case u5 => k_asm); (case u6 => first | exact rfl | assumption); (case u7 => ktr_room); (case u8 => ktr_units); (case ur => first | with_reducible assumption | k_all); (case un => with_reducible assumption); (case ul => with_reducible assumption); (case uk => with_reducible assumption)); rotate_left 1; intro e9 t9 vs9 g9 h9 tk9 n9 P9 F9 R9 K9 U9; obtain ⟨f9, j9⟩ := P9; have j8 := Kept.mk j9; clear j9; rotate_left 1; intro v9 h9 tk9 n9 F9 N9 P9; obtain ⟨hw9, nm9, k9, t9', u9', hnm9, hln9, hk9, hd9, q1, q2⟩ := P9; subst q1; subst q2; all_goals ((try dsimp only); (try k_fold)))
  k_with "call ref" => (k_here; (try dsimp only [List.cons_append, List.nil_append]); (with_reducible show wpAny _ _ (call (Value.ref 103) [_, _]) _ _ _); k_dflt (refine' Callee.use (takes_d _ _ _ _ _ _ _ _ _ _ _ _ _ _ _ _ _ ?ur ?un ?ul ?uk _ _ ?uw) ?u1 ?u2 ?u3 ?u4 ?u5 ?u6 ?u7 ?u8 ?_ ?_; (case u1 => k_asm); (case u2 => k_asm); (case u3 => k_asm); (case u4 => k_asm); (case u5 => k_asm); (case u6 => first | exact rfl | assumption); (case u7 => ktr_room); (case u8 => ktr_units); (case ur => first | with_reducible assumption | k_all); (case un => with_reducible assumption); (case ul => with_reducible assumption); (case uk => with_reducible assumption); (case uw => decide)); rotate_left 1; intro e9 t9 vs9 g9 h9 tk9 n9 P9 F9 R9 K9 U9; exact P9.elim; intro v9 h9 tk9 n9 F9 N9 P9; (rcases P9 with ⟨q1, k9, t9', hk9, hd9, q2⟩ | ⟨q1, t9', hd9, q2⟩ <;> (subst q1; subst q2)); all_goals ((try dsimp only); (try k_fold)))
  k_with "call ref" => (k_here; (try dsimp only [List.cons_append, List.nil_append]); (with_reducible show wpAny _ _ (call (Value.ref 110) [_, _]) _ _ _); k_dflt (refine' Callee.use (until_d _ _ _ _ _ _ _ _ _ _ _ _ _ _ _ _ _ ?ur ?un ?ul ?uk _ _ _ ?uw) ?u1 ?u2 ?u3 ?u4 ?u5 ?u6 ?u7 ?u8 ?_ ?_; (case u1 => k_asm); (case u2 => k_asm); (case u3 => k_asm); (case u4 => k_asm); (case u5 => k_asm); (case u6 => first | exact rfl | assumption); (case u7 => ktr_room); (case u8 => ktr_units); (case ur => first | with_reducible assumption | k_all); (case un => with_reducible assumption); (case ul => with_reducible assumption); (case uk => with_reducible assumption); (case uw => (first | exact (by decide : Str.ofString "\"" = ⟨#[34]⟩) | exact (by decide : Str.ofString "'" = ⟨#[39]⟩) | exact (by decide : Str.ofString ">" = ⟨#[62]⟩) | exact (by decide : Str.ofString "]" = ⟨#[93]⟩)))); rotate_left 1; intro e9 t9 vs9 g9 h9 tk9 n9 P9 F9 R9 K9 U9; obtain ⟨f9, j9⟩ := P9; have j8 := Kept.mk j9; clear j9; rotate_left 1; intro v9 h9 tk9 n9 F9 N9 P9; obtain ⟨nm9, k9, t9', u9', hnm9, hln9, hch9, hk9, hd9, q1, q2⟩ := P9; subst q1; subst q2; all_goals ((try dsimp only); (try k_fold)))
  k_with "call ref" => (k_here; (try dsimp only [List.cons_append, List.nil_append]); (with_reducible show wpAny _ _ (call (Value.ref 103) [_, _]) _ _ _); k_dflt (refine' Callee.use (takes_d _ _ _ _ _ _ _ _ _ _ _ _ _ _ _ _ _ ?ur ?un ?ul ?uk _ _ ?uw) ?u1 ?u2 ?u3 ?u4 ?u5 ?u6 ?u7 ?u8 ?_ ?_; (case u1 => k_asm); (case u2 => k_asm); (case u3 => k_asm); (case u4 => exact news_rot2 (by k_asm)); (case u5 => k_asm); (case u6 => first | exact rfl | assumption); (case u7 => ktr_room); (case u8 => ktr_units); (case ur => first | with_reducible assumption | k_all); (case un => with_reducible assumption); (case ul => with_reducible assumption); (case uk => with_reducible assumption); (case uw => decide)); rotate_left 1; intro e9 t9 vs9 g9 h9 tk9 n9 P9 F9 R9 K9 U9; exact P9.elim; intro v9 h9 tk9 n9 F9 N9 P9; (rcases P9 with ⟨q1, k9, t9', hk9, hd9, q2⟩ | ⟨q1, t9', hd9, q2⟩ <;> (subst q1; subst q2)); all_goals (replace N9 := news_back N9); all_goals ((try dsimp only); (try k_fold)))
  k_with "call ref" => (k_here; (try dsimp only [List.cons_append, List.nil_append]); (with_reducible show wpAny _ _ (call (Value.ref 110) [_, _]) _ _ _); k_dflt (refine' Callee.use (until_d _ _ _ _ _ _ _ _ _ _ _ _ _ _ _ _ _ ?ur ?un ?ul ?uk _ _ _ ?uw) ?u1 ?u2 ?u3 ?u4 ?u5 ?u6 ?u7 ?u8 ?_ ?_; (case u1 => k_asm); (case u2 => k_asm); (case u3 => k_asm); (case u4 => exact news_rot2 (by k_asm)); (case u5 => k_asm); (case u6 => first | exact rfl | assumption); (case u7 => ktr_room); (case u8 => ktr_units); (case ur => first | with_reducible assumption | k_all); (case un => with_reducible assumption); (case ul => with_reducible assumption); (case uk => with_reducible assumption); (case uw => (first | exact (by decide : Str.ofString "\"" = ⟨#[34]⟩) | exact (by decide : Str.ofString "'" = ⟨#[39]⟩) | exact (by decide : Str.ofString ">" = ⟨#[62]⟩) | exact (by decide : Str.ofString "]" = ⟨#[93]⟩)))); rotate_left 1; intro e9 t9 vs9 g9 h9 tk9 n9 P9 F9 R9 K9 U9; obtain ⟨f9, j9⟩ := P9; have j8 := Kept.mk j9; clear j9; rotate_left 1; intro v9 h9 tk9 n9 F9 N9 P9; obtain ⟨nm9, k9, t9', u9', hnm9, hln9, hch9, hk9, hd9, q1, q2⟩ := P9; subst q1; subst q2; all_goals (replace N9 := news_back N9); all_goals ((try dsimp only); (try k_fold)))
  unfold Callee PR
  k_fill
  intro dp un gd cn cs fa ccd cl outer A₀ base h₀ L m s Q E B F X N T hk hdp hun hret hraise
  refine wpAny_call ?_

  k_dflt cell_enter
  k_steps
  · exact hret _ _ _ _ (by k_asm) (by k_asm) ⟨rfl, _, _, (by with_reducible assumption), type_1 (by with_reducible assumption) (by with_reducible assumption) (by with_reducible assumption), rfl⟩
  · exact hret _ _ _ _ (by k_asm) (by k_asm) ⟨rfl, _, _, (by with_reducible assumption), type_2s (by with_reducible assumption) (by with_reducible assumption) (by with_reducible assumption) (by with_reducible assumption) (by with_reducible assumption) (by with_reducible assumption), rfl⟩
  · refine hraise _ _ _ _ _ _ _ ?_ (by assumption) (by assumption) (by assumption) (by assumption)
    have hf := type_2s (q := none) (by with_reducible assumption) (by with_reducible assumption) (by with_reducible assumption) (by with_reducible assumption) (by with_reducible assumption) (by with_reducible assumption)
    (rename Kept _ _ => J9)
    exact ⟨hf, fun p hp => J9.h p (by simp [hp])⟩
  · refine hraise _ _ _ _ _ _ _ ?_ (by assumption) (by assumption) (by assumption) (by assumption)
    have hf := type_2n (by with_reducible assumption) (by with_reducible assumption) (by with_reducible assumption) (by with_reducible assumption) (by with_reducible assumption)
    (rename Kept _ _ => J9)
    exact ⟨hf, fun p hp => J9.h p (by simp [hp])⟩
  · exact hret _ _ _ _ (by k_asm) (by k_asm) ⟨rfl, _, _, (by with_reducible assumption), type_3 (by with_reducible assumption) (by with_reducible assumption) (by with_reducible assumption), rfl⟩
  · refine hraise _ _ _ _ _ _ _ ?_ (by assumption) (by assumption) (by assumption) (by assumption)
    have hf := type_0 (by with_reducible assumption)
    (rename Kept _ _ => J9)
    exact ⟨hf, fun p hp => J9.h p (by simp [hp])⟩
end Mine
end
section
open PySem PySem.W PySem.Calls PySem.Spec PyProof.Rows
set_option Elab.async false
set_option maxRecDepth 100000
namespace Mine
structure MidT (z : Str) : Prop where
  is : z = Str.ofString "" ∨ ∃ c ∈ inners, z = Str.ofString " [" ++ c ++ Str.ofString "]"
theorem MidT.len {z : Str} (h : MidT z) : z.length ≤ 43 := by
  rcases h.is with rfl | ⟨c, hc, rfl⟩
  · decide
  · have h1 := inner_len hc
    have h2 : (Str.ofString " [").length = 2 := by decide
    have h3 : (Str.ofString "]").length = 1 := by decide
    simp only [app_len]
    omega
theorem stop_mid {prog : Program} {w : World} {A : Around} {env : Env} {Q E : Value → Shared → Prop} {s : Shared} {c : Prop} {inst : Decidable c} {x : Sem Value} {k : Nat} {p : Pos}
    (h : Stop (@ite Prop c inst (wpAny (model prog w) A x Q E s) (wpAny (model prog w) A (eval (.Constant (.str (Str.ofString "")) k p) env) Q E s))) :
    @ite Prop c inst (wpAny (model prog w) A x Q E s) (wpAny (model prog w) A (eval (.Constant (.str (Str.ofString "")) k p) env) Q E s) := h
def MidPost (s : Shared) (v : Value) (s' : Shared) : Prop := ∃ z t tk', v = .str z t ∧ s' = { s with toks := tk' } ∧ MidT z
theorem via_mid {M : Model} {A : Around} {Q E : Value → Shared → Prop} {s : Shared} {c : Prop} {inst : Decidable c} {x y : Sem Value}
    (hx : wpAny M A x (MidPost s) E s) (hy : wpAny M A y (MidPost s) E s) (q : ∀ z t tk', MidT z → z.length ≤ 43 → Q (.str z t) { s with toks := tk' }) :
    @ite Prop c inst (wpAny M A x Q E s) (wpAny M A y Q E s) := by
  have go : ∀ u, wpAny M A u (MidPost s) E s → wpAny M A u Q E s := fun u hu => wpAny_mono hu (fun v s' ⟨z, t, tk', e1, e2, h⟩ => by subst e1; subst e2; exact q z t tk' h h.len) fun _ _ h => h
  by_cases hc : c
  · rw [if_pos hc]; exact go _ hx
  · rw [if_neg hc]; exact go _ hy

set_option maxHeartbeats 4000000 in
theorem typr_c (w : World) (p : Program) (loose : List Str) (mean : ExcName → Option Value) (mg mb : Str → Option Value) (rest : Led) (src : Nat) (o : Obj) (ho : IsSrc o) (hr : ∀ p ∈ rest, p.1 ≠ src) :
    Callee w p loose mean mg mb ((src, o) :: rest) 40 (.ref 225) [.ref src] (TruePost src rest) (fun n => False) := by
  w_top off
  k_with_none
  k_with "ite" => with_reducible refine stop_mid ?_
  k_with "leaving ref" => (k_here; (with_reducible rename RaisedS _ _ _ _ _ _ _ _ _ => rsX); k_dflt (refine' leave_onS ?k1 ?k2 rsX ?k4 ?_; (case k2 => assumption); (case k1 => assumption); (case k4 => assumption); k_whole; intro h' S' R' U'; (try dsimp only at S' R' U' ⊢)))
  k_with "exec Raise some none" => (k_here; (with_reducible show wpAny _ _ (exec (Stmt.Raise (some (PySem.Expr.Call (PySem.Expr.Name ("SheetFault" : Str) _) _ _ _)) none _) _) _ _ _); k_dflt (refine fault_raise (by rfl) ?_))
  k_with "call ref" => (k_here; (with_reducible show wpAny _ _ (call (Value.ref 44) [_]) _ _ _); k_dflt (refine' fault_call ?k1 ?k2 ?k3 ?k4 ?k5 ?_; (case k1 => k_asm); (case k2 => k_asm); (case k3 => k_asm); (case k4 => k_is); (case k5 => k_is); k_whole; intro e' t' h' F' N' l1 l2; (try (first | have old9 := Old.mk l1.2.2.2.2.2.2 | have old9 := Old.mk l1.2.2.2.2.2 | have old9 := Old.mk l1.2.2.2.2 | have old9 := Old.mk l1.2.2.2 | have old9 := Old.mk l1.2.2 | have old9 := Old.mk l1.2 | have old9 := Old.mk l1)); (try k_lt l1); (try k_lt2 l2); k_enter))
  k_with "setAttr ref" => (k_here; k_dflt (refine' fault_store ?k1 ?k2 ?k3 ?k4 ?k5 ?k6 ?_; (case k1 => k_asm); (case k2 => k_asm); (case k3 => k_asm); (case k4 => k_is); (case k5 => k_is); (case k6 => k_all); k_whole; intro d' h' tk' F' N'))
  k_with "FaultEnd" => (k_dflt (refine' fault_end ?k1 ?k2 ?k3 ?k4 ?_; (case k1 => k_asm); (case k2 => k_asm); (case k3 => k_asm); (case k4 => exact List.Mem.head _)))
  k_with "leaving ref" => (k_here; k_dflt (refine' fault_leave ?k1 ?k2 ?k3 ?k4 ?k5 ?k6 ?k7 ?_; (case k1 => k_asm); (case k2 => k_asm); (case k3 => k_asm); (case k4 => k_all); (case k5 => k_all); (case k6 => exact rfl); (case k7 => exact rfl); k_whole; intro h' R' R2' U'; (try dsimp only at R' R2' U' ⊢)))
  k_with "exec While" => (k_here; refine stopW ?_)
  k_with "exec While Compare" => (k_here; refine stopW ?_)
  k_with "exec While BoolOp" => (k_here; refine stopW ?_)
  k_with "last exec While" => (k_here; refine stopW ?_)
  k_with "last exec While Compare" => (k_here; refine stopW ?_)
  k_with "call ref" => (k_here; (with_reducible show wpAny _ _ (call (Value.ref 178) [_, _]) _ _ _); k_dflt (refine' Callee.use (take_c _ _ _ _ _ _ _ _ _ ?us _ _ ?ur ?ua ?ub) ?u1 ?u2 ?u3 ?u4 ?u5 ?u6 ?u7 ?u8 ?_ ?_; (case u1 => k_asm); (case u2 => k_asm); (case u3 => k_asm); (case u4 => (first | k_asm | exact news_at1 (by k_asm) | exact news_at2 (by k_asm) | exact news_at3 (by k_asm))); (case u5 => k_asm); (case u6 => first | exact rfl | assumption); (case u7 => ktr_room); (case u8 => ktr_units); (case us => with_reducible assumption); (case ur => (first | with_reducible assumption | exact List.forall_mem_cons.mpr ⟨by k_ne, by (first | with_reducible assumption | exact List.forall_mem_cons.mpr ⟨by k_ne, by (first | with_reducible assumption | exact List.forall_mem_cons.mpr ⟨by k_ne, by (first | with_reducible assumption | exact List.forall_mem_cons.mpr ⟨by k_ne, by (first | with_reducible assumption | exact List.forall_mem_cons.mpr ⟨by k_ne, by (first | with_reducible assumption | exact List.forall_mem_cons.mpr ⟨by k_ne, by (first | with_reducible assumption | exact List.forall_mem_cons.mpr ⟨by k_ne, by (first | with_reducible assumption | exact List.forall_mem_cons.mpr ⟨by k_ne, by (first | with_reducible assumption | exact List.forall_mem_cons.mpr ⟨by k_ne, by with_reducible assumption⟩)⟩)⟩)⟩)⟩)⟩)⟩)⟩)⟩)); (case ua => omega); (case ub => omega)); rotate_left 1; intro e9 t9 vs9 g9 h9 tk9 n9 P9 F9 R9 K9 U9; exact P9.elim; intro v9 h9 tk9 n9 F9 N9 P9; obtain ⟨d9, t9, o9, q1, hlo9, hhi9, hs9, q2⟩ := P9; subst q1; subst q2; (try dsimp only); (try k_fold))
  k_with "call ref" => (k_here; (try dsimp only [List.cons_append, List.nil_append]); (with_reducible show wpAny _ _ (call (Value.ref 185) [_, _]) _ _ _); k_dflt (refine' Callee.use (one_c _ _ _ _ _ _ _ _ _ ?us _ _ _ inners ?ur (List.Mem.head _) ?uq ?ua ?ub) ?u1 ?u2 ?u3 ?u4 ?u5 ?u6 ?u7 ?u8 ?_ ?_; (case u1 => k_asm); (case u2 => k_asm); (case u3 => k_asm); (case u4 => (first | k_asm | exact news_at1 (by k_asm) | exact news_at2 (by k_asm) | exact news_at3 (by k_asm))); (case u5 => k_asm); (case u6 => first | exact rfl | assumption); (case u7 => ktr_room); (case u8 => ktr_units); (case us => with_reducible assumption); (case ur => (first | with_reducible assumption | exact List.forall_mem_cons.mpr ⟨by k_ne, by (first | with_reducible assumption | exact List.forall_mem_cons.mpr ⟨by k_ne, by (first | with_reducible assumption | exact List.forall_mem_cons.mpr ⟨by k_ne, by (first | with_reducible assumption | exact List.forall_mem_cons.mpr ⟨by k_ne, by (first | with_reducible assumption | exact List.forall_mem_cons.mpr ⟨by k_ne, by (first | with_reducible assumption | exact List.forall_mem_cons.mpr ⟨by k_ne, by (first | with_reducible assumption | exact List.forall_mem_cons.mpr ⟨by k_ne, by (first | with_reducible assumption | exact List.forall_mem_cons.mpr ⟨by k_ne, by (first | with_reducible assumption | exact List.forall_mem_cons.mpr ⟨by k_ne, by with_reducible assumption⟩)⟩)⟩)⟩)⟩)⟩)⟩)⟩)⟩)); (case uq => repeat first | exact .nil | refine .cons _ _ ?_); (case ua => exact Nat.le_of_ble_eq_true rfl); (case ub => exact Nat.le_of_ble_eq_true rfl)); rotate_left 1; intro e9 t9 vs9 g9 h9 tk9 n9 P9 F9 R9 K9 U9; exact P9.elim; intro v9 h9 tk9 n9 F9 N9 P9; obtain ⟨c9, t9, o9, q1, hc9, hs9, q2⟩ := P9; subst q1; subst q2; have hnl9 := inner_len hc9; (try dsimp only); (try k_fold))
  k_with "call ref" => (k_here; (try dsimp only [List.cons_append, List.nil_append]); (with_reducible show wpAny _ _ (call (Value.ref 185) [_, _]) _ _ _); k_dflt (refine' Callee.use (one_c _ _ _ _ _ _ _ _ _ ?us _ _ _ behinds ?ur (List.Mem.head _) ?uq ?ua ?ub) ?u1 ?u2 ?u3 ?u4 ?u5 ?u6 ?u7 ?u8 ?_ ?_; (case u1 => k_asm); (case u2 => k_asm); (case u3 => k_asm); (case u4 => (first | k_asm | exact news_at1 (by k_asm) | exact news_at2 (by k_asm) | exact news_at3 (by k_asm))); (case u5 => k_asm); (case u6 => first | exact rfl | assumption); (case u7 => ktr_room); (case u8 => ktr_units); (case us => with_reducible assumption); (case ur => (first | with_reducible assumption | exact List.forall_mem_cons.mpr ⟨by k_ne, by (first | with_reducible assumption | exact List.forall_mem_cons.mpr ⟨by k_ne, by (first | with_reducible assumption | exact List.forall_mem_cons.mpr ⟨by k_ne, by (first | with_reducible assumption | exact List.forall_mem_cons.mpr ⟨by k_ne, by (first | with_reducible assumption | exact List.forall_mem_cons.mpr ⟨by k_ne, by (first | with_reducible assumption | exact List.forall_mem_cons.mpr ⟨by k_ne, by (first | with_reducible assumption | exact List.forall_mem_cons.mpr ⟨by k_ne, by (first | with_reducible assumption | exact List.forall_mem_cons.mpr ⟨by k_ne, by (first | with_reducible assumption | exact List.forall_mem_cons.mpr ⟨by k_ne, by with_reducible assumption⟩)⟩)⟩)⟩)⟩)⟩)⟩)⟩)⟩)); (case uq => repeat first | exact .nil | refine .cons _ _ ?_); (case ua => exact Nat.le_of_ble_eq_true rfl); (case ub => exact Nat.le_of_ble_eq_true rfl)); rotate_left 1; intro e9 t9 vs9 g9 h9 tk9 n9 P9 F9 R9 K9 U9; exact P9.elim; intro v9 h9 tk9 n9 F9 N9 P9; obtain ⟨c9, t9, o9, q1, hc9, hs9, q2⟩ := P9; subst q1; subst q2; have hrl9 := behind_len hc9; (try dsimp only); (try k_fold))
  k_with "call ref" => (k_here; (try dsimp only [List.cons_append, List.nil_append]); (with_reducible show wpAny _ _ (call (Value.ref 211) [_, _]) _ _ _); k_dflt (refine' Callee.use (blanks_c _ _ _ _ _ _ _ _ _ ?us ?ur _ _ ?ub ?uc) ?u1 ?u2 ?u3 ?u4 ?u5 ?u6 ?u7 ?u8 ?_ ?_; (case u1 => k_asm); (case u2 => k_asm); (case u3 => k_asm); (case u4 => (first | k_asm | exact news_at1 (by k_asm) | exact news_at2 (by k_asm) | exact news_at3 (by k_asm))); (case u5 => k_asm); (case u6 => first | exact rfl | assumption); (case u7 => ktr_room); (case u8 => ktr_units); (case us => with_reducible assumption); (case ur => (first | with_reducible assumption | exact List.forall_mem_cons.mpr ⟨by k_ne, by (first | with_reducible assumption | exact List.forall_mem_cons.mpr ⟨by k_ne, by (first | with_reducible assumption | exact List.forall_mem_cons.mpr ⟨by k_ne, by (first | with_reducible assumption | exact List.forall_mem_cons.mpr ⟨by k_ne, by (first | with_reducible assumption | exact List.forall_mem_cons.mpr ⟨by k_ne, by (first | with_reducible assumption | exact List.forall_mem_cons.mpr ⟨by k_ne, by (first | with_reducible assumption | exact List.forall_mem_cons.mpr ⟨by k_ne, by (first | with_reducible assumption | exact List.forall_mem_cons.mpr ⟨by k_ne, by (first | with_reducible assumption | exact List.forall_mem_cons.mpr ⟨by k_ne, by with_reducible assumption⟩)⟩)⟩)⟩)⟩)⟩)⟩)⟩)⟩)); (case ub => omega); (case uc => omega)); rotate_left 1; intro e9 t9 vs9 g9 h9 tk9 n9 P9 F9 R9 K9 U9; exact P9.elim; intro v9 h9 tk9 n9 F9 N9 P9; unfold BlPost at P9; obtain ⟨b9, t9, o9, q1, hb9, hs9, q2⟩ := P9; subst q1; subst q2; (have hbl9 := hb9.hi); (try dsimp only); (try k_fold))
  k_with "binaryOp Add str str" => (k_here; (with_reducible show wpAny _ _ (binaryOp Operator.Add (Value.str _ _) (Value.str _ _)) _ _ _); (refine add_len ?hs9 ?_); (case hs9 => omega); intro _ _ hal9)
  k_with "call ref" => (k_here; (with_reducible show wpAny _ _ (call (Value.ref 164) [_]) _ _ _); refine stopW ?_)
  unfold Callee PR
  k_fill
  intro dp un gd cn cs fa ccd cl outer A₀ base h₀ L m s Q E B F X N T hk hdp hun hret hraise
  refine wpAny_call ?_

  k_dflt cell_enter
  have hlit0 : (Str.ofString " svg").length = 4 := by decide
  have hlit1 : (Str.ofString " [").length = 2 := by decide
  have hlit2 : (Str.ofString "]").length = 1 := by decide
  have hlit3 : (Str.ofString ">").length = 1 := by decide
  have hlit4 : (Str.ofString "").length = 0 := by decide
  k_steps
  unfold Stop
  refine via_mid ?mx ?my ?_
  case mx =>
    k_steps
    exact ⟨_, _, _, rfl, rfl, ⟨.inr ⟨_, ‹_ ∈ inners›, rfl⟩⟩⟩
  case my =>
    k_steps
    exact ⟨_, _, _, rfl, rfl, ⟨.inl rfl⟩⟩
  intro z9 t9 tk9 _ _
  (try dsimp only)
  k_steps
  · unfold Stop
    have l6 := ‹src < _ ∧ _ < _ ∧ _ < _ ∧ AllLt _ rest›
    have old6 := (Old.of' _ _ l6.2.2.2).ne (Nat.le_refl _)
    have hmid := ‹MidT _›
    have hbx := ‹Blanks 0 _›
    (rename News _ _ _ _ => N1)
    k_dflt (refine' Callee.use (type_c _ _ _ _ _ _ _ _ _ _ _ _ _ _ _ 0 _ ?ra ?rb ?rc (Nat.zero_le _)) ?u1 ?u2 ?u3 ?u4 ?u5 ?u6 ?u7 ?u8 ?u9 ?u10)
    case u1 => k_asm
    case u2 => k_asm
    case u3 => k_asm
    case u4 => exact N1
    case u5 => k_asm
    case u6 => first | exact rfl | assumption
    case u7 => ktr_room
    case u8 => ktr_units
    case ra => exact List.forall_mem_cons.mpr ⟨by k_ne, List.forall_mem_cons.mpr ⟨by k_ne, List.forall_mem_cons.mpr ⟨by k_ne, old6⟩⟩⟩
    case rb => k_ne
    case rc => simp only [app_len]; omega
    case u10 =>
      intro e9 t9 vs9 g9 h9 tk9 n9 P9 F9 R9 K9 U9
      (try dsimp only); (try k_fold)
      exfalso
      have e := P9.1
      rw [List.drop_zero, type_whole hmid.is hbx] at e
      cases e
    case u9 =>
      intro v9 h9 tk9 n9 F9 N9 P9
      obtain ⟨rfl, k', t, hk', hty, rfl⟩ := P9
      have hat := type_at hty (type_whole hmid.is hbx) hk'
      (try dsimp only); (try k_fold)
      k_steps
      have hs7 := ‹IsSrc _›
      (rename News _ _ _ _ => N8)
      refine hret _ _ _ _ (by k_asm) (cb_drop N8 ?_) (post_true (beq_iff_eq.mpr (by first | exact hat | (simp only [app_len] at hat; omega))) hs7)
      intro p hp
      rcases List.mem_cons.mp hp with rfl | hp
      · repeat (first | exact List.mem_cons_self | refine List.mem_cons_of_mem _ ?_)
      · repeat refine List.mem_cons_of_mem _ ?_
        exact hp
end Mine
end
section
open PySem PySem.W PySem.Calls PySem.Spec PyProof.Rows
set_option Elab.async false
set_option maxRecDepth 100000
namespace Mine
abbrev CalleeB (w : World) (p : Program) (loose : List Str) (mean : ExcName → Option Value) (mg mb : Str → Option Value) (news : Led) (need : Nat) (f : Value) (vs : List Value) (Post : Value → Led → Prop) : Prop :=
  ∀ (dp un : Nat) (gd : Option (List Code)) (cn : Str) (cs : Scope) (a : Addr) (ccd : Value) (A₀ : Around) (h₀ : Heap) (L : Addr) (m : Str → Option Value) (s : Shared) (Q E : Value → Shared → Prop),
    Below A₀ h₀ [] h₀ → Fr h₀ L s.heap m → (hd.heap_1 w.params).In h₀ → News h₀ L s.heap news → Top p loose mean mg mb h₀ → cs.kind = .function → dp + need < recursionLimit → un + 8 * need < cLine →
    (∀ v h' tk' news', Fr h₀ L h' m → News h₀ L h' news' → Post v news' → Q v { s with heap := h', toks := tk' }) →
    wpAny (model PR w) (ktrTop dp un gd cn cs L a ccd [] []) (call f vs) Q E s

set_option maxHeartbeats 4000000 in
theorem refd_sign (w : World) (p : Program) (loose : List Str) (mean : ExcName → Option Value) (mg mb : Str → Option Value) (news : Led) (x : Str) (tx : Tok) (need : Nat) (Post : Value → Led → Prop) (Fails : Led → Prop) (C : Callee w p loose mean mg mb news need (.ref 136) [.str x tx] Post Fails) :
    CalleeB w p loose mean mg mb news (need + 4) (.ref 232) [.ref 136, .str x tx] (fun v n => (v = .bool true ∧ Fails n) ∨ (v = .bool false ∧ ∃ u, Post u n)) := by
  w_top off
  k_with_none
  k_with "leaving ref" => (k_here; (with_reducible rename RaisedS _ _ _ _ _ _ _ _ _ => rsX); k_dflt (refine' leave_onS ?k1 ?k2 rsX ?k4 ?_; (case k2 => assumption); (case k1 => assumption); (case k4 => assumption); k_whole; intro h' S' R' U'; (try dsimp only at S' R' U' ⊢)))
  k_with "exec Raise some none" => (k_here; (with_reducible show wpAny _ _ (exec (Stmt.Raise (some (PySem.Expr.Call (PySem.Expr.Name ("SheetFault" : Str) _) _ _ _)) none _) _) _ _ _); k_dflt (refine fault_raise (by rfl) ?_))
  k_with "call ref" => (k_here; (with_reducible show wpAny _ _ (call (Value.ref 44) [_]) _ _ _); k_dflt (refine' fault_call ?k1 ?k2 ?k3 ?k4 ?k5 ?_; (case k1 => k_asm); (case k2 => k_asm); (case k3 => k_asm); (case k4 => k_is); (case k5 => k_is); k_whole; intro e' t' h' F' N' l1 l2; (try (first | have old9 := Old.mk l1.2.2.2.2.2.2 | have old9 := Old.mk l1.2.2.2.2.2 | have old9 := Old.mk l1.2.2.2.2 | have old9 := Old.mk l1.2.2.2 | have old9 := Old.mk l1.2.2 | have old9 := Old.mk l1.2 | have old9 := Old.mk l1)); (try k_lt l1); (try k_lt2 l2); k_enter))
  k_with "setAttr ref" => (k_here; k_dflt (refine' fault_store ?k1 ?k2 ?k3 ?k4 ?k5 ?k6 ?_; (case k1 => k_asm); (case k2 => k_asm); (case k3 => k_asm); (case k4 => k_is); (case k5 => k_is); (case k6 => k_all); k_whole; intro d' h' tk' F' N'))
  k_with "FaultEnd" => (k_dflt (refine' fault_end ?k1 ?k2 ?k3 ?k4 ?_; (case k1 => k_asm); (case k2 => k_asm); (case k3 => k_asm); (case k4 => exact List.Mem.head _)))
  k_with "leaving ref" => (k_here; k_dflt (refine' fault_leave ?k1 ?k2 ?k3 ?k4 ?k5 ?k6 ?k7 ?_; (case k1 => k_asm); (case k2 => k_asm); (case k3 => k_asm); (case k4 => k_all); (case k5 => k_all); (case k6 => exact rfl); (case k7 => exact rfl); k_whole; intro h' R' R2' U'; (try dsimp only at R' R2' U' ⊢)))
  k_with "exec While" => (k_here; refine stopW ?_)
  k_with "exec While Compare" => (k_here; refine stopW ?_)
  k_with "exec While BoolOp" => (k_here; refine stopW ?_)
  k_with "last exec While" => (k_here; refine stopW ?_)
  k_with "last exec While Compare" => (k_here; refine stopW ?_)
  k_with "call ref" => (k_here; (with_reducible show wpAny _ _ (call (Value.ref 136) [_]) _ _ _); refine stopW ?_)
  k_with "call ref" => (k_here; (with_reducible show wpAny _ _ (call (Value.ref 143) [_]) _ _ _); refine stopW ?_)
  unfold CalleeB PR
  k_fill
  intro dp un gd cn cs fa ccd A₀ h₀ L m s Q E B F X N T hk hdp hun hret
  refine wpAny_call ?_

  k_dflt (refine' code_defS0 ?k1 ?k2 ?k3 ?k4 ?k5 ?kA ?k6 ?k7 ?k8 ?k9 ?kB ?_ ?cK ?c2 ?c3 ?c4 ?c5; (case kA => exact rfl); (case k2 => k_asm); (case k1 => k_asm); (case k3 => k_asm); (case k4 => k_asm); (case k5 => k_asm); (case k6 => k_is); (case k7 => k_is); (case k8 => ktr_room); (case k9 => exact BindsTo.of_eq rfl); (case kB => exact locs rfl); (case cK => assumption); (case c2 => exact rfl); (case c3 => exact rfl); (case c4 => exact rfl); (case c5 => decide); k_whole; intro g' L' h' FG' F' N' B' X' T' D'; (try dsimp only); (try k_lift B'); (try k_fold))
  k_steps
  unfold Stop
  k_dflt (refine' Callee.use (C) ?u1 ?u2 ?u3 ?u4 ?u5 ?u6 ?u7 ?u8 ?u9 ?u10)
  case u1 => k_asm
  case u2 => k_asm
  case u3 => k_asm
  case u4 => k_asm
  case u5 => k_asm
  case u6 => first | exact rfl | assumption
  case u7 => ktr_room
  case u8 => ktr_units
  case u10 =>
    intro e9 t9 vs9 g9 h9 tk9 n9 P9 F9 R9 K9 U9
    (try dsimp only); (try k_fold)
    k_steps
    exact hret _ _ _ _ (by k_asm) (by k_asm) (.inl ⟨rfl, P9⟩)
  case u9 =>
    intro v9 h9 tk9 n9 F9 N9 P9
    (try dsimp only); (try k_fold)
    k_steps
    exact hret _ _ _ _ (by k_asm) (by k_asm) (.inr ⟨rfl, _, P9⟩)

set_option maxHeartbeats 4000000 in
theorem refd_unesc (w : World) (p : Program) (loose : List Str) (mean : ExcName → Option Value) (mg mb : Str → Option Value) (news : Led) (x : Str) (tx : Tok) (need : Nat) (Post : Value → Led → Prop) (Fails : Led → Prop) (C : Callee w p loose mean mg mb news need (.ref 143) [.str x tx] Post Fails) :
    CalleeB w p loose mean mg mb news (need + 4) (.ref 232) [.ref 143, .str x tx] (fun v n => (v = .bool true ∧ Fails n) ∨ (v = .bool false ∧ ∃ u, Post u n)) := by
  w_top off
  k_with_none
  k_with "leaving ref" => (k_here; (with_reducible rename RaisedS _ _ _ _ _ _ _ _ _ => rsX); k_dflt (refine' leave_onS ?k1 ?k2 rsX ?k4 ?_; (case k2 => assumption); (case k1 => assumption); (case k4 => assumption); k_whole; intro h' S' R' U'; (try dsimp only at S' R' U' ⊢)))
  k_with "exec Raise some none" => (k_here; (with_reducible show wpAny _ _ (exec (Stmt.Raise (some (PySem.Expr.Call (PySem.Expr.Name ("SheetFault" : Str) _) _ _ _)) none _) _) _ _ _); k_dflt (refine fault_raise (by rfl) ?_))
  k_with "call ref" => (k_here; (with_reducible show wpAny _ _ (call (Value.ref 44) [_]) _ _ _); k_dflt (refine' fault_call ?k1 ?k2 ?k3 ?k4 ?k5 ?_; (case k1 => k_asm); (case k2 => k_asm); (case k3 => k_asm); (case k4 => k_is); (case k5 => k_is); k_whole; intro e' t' h' F' N' l1 l2; (try (first | have old9 := Old.mk l1.2.2.2.2.2.2 | have old9 := Old.mk l1.2.2.2.2.2 | have old9 := Old.mk l1.2.2.2.2 | have old9 := Old.mk l1.2.2.2 | have old9 := Old.mk l1.2.2 | have old9 := Old.mk l1.2 | have old9 := Old.mk l1)); (try k_lt l1); (try k_lt2 l2); k_enter))
  k_with "setAttr ref" => (k_here; k_dflt (refine' fault_store ?k1 ?k2 ?k3 ?k4 ?k5 ?k6 ?_; (case k1 => k_asm); (case k2 => k_asm); (case k3 => k_asm); (case k4 => k_is); (case k5 => k_is); (case k6 => k_all); k_whole; intro d' h' tk' F' N'))
  k_with "FaultEnd" => (k_dflt (refine' fault_end ?k1 ?k2 ?k3 ?k4 ?_; (case k1 => k_asm); (case k2 => k_asm); (case k3 => k_asm); (case k4 => exact List.Mem.head _)))
  k_with "leaving ref" => (k_here; k_dflt (refine' fault_leave ?k1 ?k2 ?k3 ?k4 ?k5 ?k6 ?k7 ?_; (case k1 => k_asm); (case k2 => k_asm); (case k3 => k_asm); (case k4 => k_all); (case k5 => k_all); (case k6 => exact rfl); (case k7 => exact rfl); k_whole; intro h' R' R2' U'; (try dsimp only at R' R2' U' ⊢)))
  k_with "exec While" => (k_here; refine stopW ?_)
  k_with "exec While Compare" => (k_here; refine stopW ?_)
  k_with "exec While BoolOp" => (k_here; refine stopW ?_)
  k_with "last exec While" => (k_here; refine stopW ?_)
  k_with "last exec While Compare" => (k_here; refine stopW ?_)
  k_with "call ref" => (k_here; (with_reducible show wpAny _ _ (call (Value.ref 136) [_]) _ _ _); refine stopW ?_)
  k_with "call ref" => (k_here; (with_reducible show wpAny _ _ (call (Value.ref 143) [_]) _ _ _); refine stopW ?_)
  unfold CalleeB PR
  k_fill
  intro dp un gd cn cs fa ccd A₀ h₀ L m s Q E B F X N T hk hdp hun hret
  refine wpAny_call ?_

  k_dflt (refine' code_defS0 ?k1 ?k2 ?k3 ?k4 ?k5 ?kA ?k6 ?k7 ?k8 ?k9 ?kB ?_ ?cK ?c2 ?c3 ?c4 ?c5; (case kA => exact rfl); (case k2 => k_asm); (case k1 => k_asm); (case k3 => k_asm); (case k4 => k_asm); (case k5 => k_asm); (case k6 => k_is); (case k7 => k_is); (case k8 => ktr_room); (case k9 => exact BindsTo.of_eq rfl); (case kB => exact locs rfl); (case cK => assumption); (case c2 => exact rfl); (case c3 => exact rfl); (case c4 => exact rfl); (case c5 => decide); k_whole; intro g' L' h' FG' F' N' B' X' T' D'; (try dsimp only); (try k_lift B'); (try k_fold))
  k_steps
  unfold Stop
  k_dflt (refine' Callee.use (C) ?u1 ?u2 ?u3 ?u4 ?u5 ?u6 ?u7 ?u8 ?u9 ?u10)
  case u1 => k_asm
  case u2 => k_asm
  case u3 => k_asm
  case u4 => k_asm
  case u5 => k_asm
  case u6 => first | exact rfl | assumption
  case u7 => ktr_room
  case u8 => ktr_units
  case u10 =>
    intro e9 t9 vs9 g9 h9 tk9 n9 P9 F9 R9 K9 U9
    (try dsimp only); (try k_fold)
    k_steps
    exact hret _ _ _ _ (by k_asm) (by k_asm) (.inl ⟨rfl, P9⟩)
  case u9 =>
    intro v9 h9 tk9 n9 F9 N9 P9
    (try dsimp only); (try k_fold)
    k_steps
    exact hret _ _ _ _ (by k_asm) (by k_asm) (.inr ⟨rfl, _, P9⟩)
end Mine
end
section
open PySem PySem.W PySem.Calls PySem.Spec PyProof.Rows
set_option Elab.async false
set_option maxRecDepth 100000
namespace Mine
theorem CalleeB.use {w : World} {p : Program} {loose : List Str} {mean : ExcName → Option Value} {mg mb : Str → Option Value} {news : Led} {need : Nat} {f : Value} {vs : List Value} {Post : Value → Led → Prop} (C : CalleeB w p loose mean mg mb news need f vs Post)
    {dp un : Nat} {gd : Option (List Code)} {cn : Str} {cs : Scope} {a : Addr} {ccd : Value} {A₀ : Around} {h₀ : Heap} {L : Addr} {m : Str → Option Value} {s : Shared} {Q E : Value → Shared → Prop}
    (B : Below A₀ h₀ [] h₀) (F : Fr h₀ L s.heap m) (X : (hd.heap_1 w.params).In h₀) (N : News h₀ L s.heap news) (T : Top p loose mean mg mb h₀) (hk : cs.kind = .function) (hd : dp + need < recursionLimit) (hu : un + 8 * need < cLine)
    (ret : ∀ v h' tk' news', Fr h₀ L h' m → News h₀ L h' news' → Post v news' → Q v { s with heap := h', toks := tk' }) :
    wpAny (model PR w) (ktrTop dp un gd cn cs L a ccd [] []) (call f vs) Q E s := C dp un gd cn cs a ccd A₀ h₀ L m s Q E B F X N T hk hd hu ret
theorem word1 : signF (Str.ofString "#x00000041") = some (some (Str.ofString "A")) := by decide +kernel
theorem word2 : signF (Str.ofString "#00000065") = some (some (Str.ofString "A")) := by decide +kernel
theorem wordN : signF (Str.ofString "#000000065") = some none := by decide +kernel
abbrev odds15 : List Str := ["#", "#x", "#xg", "#0", "#1114112", "#x110000", "nbsp", "", "# 5", "lt ", "#-1", "x41", "#x000000041", "#X41", "LT"]
abbrev bads5 : List Str := ["&lt", "&", "&;", "&q;", "&#x;"]
theorem odd_bad {c : Str} (h : c ∈ odds15) : signF c = some none := by
  simp only [odds15, List.mem_cons, List.not_mem_nil, or_false] at h
  rcases h with rfl | rfl | rfl | rfl | rfl | rfl | rfl | rfl | rfl | rfl | rfl | rfl | rfl | rfl | rfl <;> decide +kernel
theorem odd_len {c : Str} (h : c ∈ odds15) : c.length ≤ 1000000 := by
  simp only [odds15, List.mem_cons, List.not_mem_nil, or_false] at h
  rcases h with rfl | rfl | rfl | rfl | rfl | rfl | rfl | rfl | rfl | rfl | rfl | rfl | rfl | rfl | rfl <;> decide
theorem odd_chr {c : Str} (h : c ∈ odds15) : ∀ a ∈ c.cps.toList, a < 0x110000 := by
  simp only [odds15, List.mem_cons, List.not_mem_nil, or_false] at h
  rcases h with rfl | rfl | rfl | rfl | rfl | rfl | rfl | rfl | rfl | rfl | rfl | rfl | rfl | rfl | rfl <;> decide
theorem bad_len {c : Str} (h : c ∈ bads5) : 1 ≤ c.length ∧ c.length ≤ 5 := by
  simp only [bads5, List.mem_cons, List.not_mem_nil, or_false] at h
  rcases h with rfl | rfl | rfl | rfl | rfl <;> decide
theorem bad_chr {i : Nat} {m wr c : Str} (g : Goes i m wr) (h : c ∈ bads5) : ∀ a ∈ (wr ++ c).cps.toList, a < 0x110000 := by
  have hc : ∀ a ∈ c.cps.toList, a < 0x110000 := by
    simp only [bads5, List.mem_cons, List.not_mem_nil, or_false] at h
    rcases h with rfl | rfl | rfl | rfl | rfl <;> decide
  intro a ha
  rw [app_list] at ha
  rcases List.mem_append.mp ha with ha | ha
  · exact (g.okc a ha).2.2
  · exact hc a ha
theorem bad_un {i : Nat} {m wr c : Str} (g : Goes i m wr) (h : c ∈ bads5) : unescL ((wr ++ c).length + 1) (wr ++ c).cps.toList = some none :=
  g.bad (bad_all h) (by have h1 := g.ge; have h2 := bad_len h; rw [app_len]; omega)
abbrev tags10 : List Str := ["a k>", "a k=v>", "a k=\"v", "a k='v' k='w'>", "a ='v'>", "", "a", "a k=\"&\"/>", "a/ >", "a k \"v\">"]
theorem tago_bad {c : Str} (h : c ∈ tags10) : tagL 5 ((c.cps.toList.drop 0).dropWhile isNm) [] = some none := by
  simp only [tags10, List.mem_cons, List.not_mem_nil, or_false] at h
  rcases h with rfl | rfl | rfl | rfl | rfl | rfl | rfl | rfl | rfl | rfl <;> decide +kernel
theorem tago_len {c : Str} (h : c ∈ tags10) : c.length ≤ 1000000 := by
  simp only [tags10, List.mem_cons, List.not_mem_nil, or_false] at h
  rcases h with rfl | rfl | rfl | rfl | rfl | rfl | rfl | rfl | rfl | rfl <;> decide
theorem tago_chr {c : Str} (h : c ∈ tags10) : ∀ a ∈ c.cps.toList, a < 0x110000 := by
  simp only [tags10, List.mem_cons, List.not_mem_nil, or_false] at h
  rcases h with rfl | rfl | rfl | rfl | rfl | rfl | rfl | rfl | rfl | rfl <;> decide
theorem tagpost_none {w : World} {rest : Led} {sc dx : Nat} {h1 h2 : Int} {t1 t2 : Tok} {x : Str} {tx : Tok} {k : Nat} {v : Value} {n : Led} (P : TagPost w rest sc dx h1 h2 t1 t2 x tx k none v n) : False := by
  unfold TagPost at P
  obtain ⟨T, e, de, d, cl, nm, o', kvs', KD, b, k', t, g1, g2, g3, g4, a1, a2, a3, a4, b1, b4, q1, q2, q3, q4, _⟩ := P
  cases q4
theorem raisedS_sub {base G : Heap} {l : List Env} {e t : Addr} {cls : Value} {vs : List Value} {news n : Led} {h : Heap} (R : RaisedS base G l e cls t vs n h) (hs : ∀ p ∈ news, p ∈ n) : RaisedS base G l e cls t vs news h := by
  obtain ⟨⟨B, a, b, hl, c, d⟩, tt⟩ := R
  exact ⟨⟨B, a, b, fun q hq => hl q (hs q hq), c, d⟩, tt⟩
theorem raisedK_sub {base : Heap} {l : List Env} {e t : Addr} {cls : Value} {vs : List Value} {news n : Led} {h : Heap} (R : RaisedK base l e cls t vs n h) (hs : ∀ p ∈ news, p ∈ n) : RaisedK base l e cls t vs news h := by
  obtain ⟨⟨B, a, hl, c, d⟩, tt⟩ := R
  exact ⟨⟨B, a, fun q hq => hl q (hs q hq), c, d⟩, tt⟩
theorem pool_a (c : Int) (t : Bool) : 0 ≤ (if -1 - c > c then -1 - c else c) * (if t = true then (1 : Int) else 0) := by
  have h : 0 ≤ (if -1 - c > c then -1 - c else c) := by split <;> omega
  cases t with
  | true => rw [if_pos rfl, Int.mul_one]; exact h
  | false => rw [if_neg Bool.false_ne_true, Int.mul_zero]; exact Int.le_refl 0
theorem ne_self {prog : Program} {w : World} {A : Around} {E : Value → Shared → Prop} {s : Shared} {x : Str} {t u : Tok} {Q : Value → Shared → Prop} (h : Q (.bool false) s) : wpAny (model prog w) A (compareOp .NotEq (.str x t) (.str x u)) Q E s :=
  PyProof.Rows.ne_str (by rw [bne_self_eq_false]; exact h)
def PoolPost (h₀ : Heap) (L : Addr) (m : Str → Option Value) (s : Shared) (rest : Led) (v : Value) (s' : Shared) : Prop := ∃ (src : Nat) (o : Obj) (h' : Heap) (tk' : Nat), v = .ref src ∧ s' = { s with heap := h', toks := tk' } ∧ Fr h₀ L h' m ∧ News h₀ L h' ((src, o) :: rest) ∧ (∀ p ∈ rest, @Ne Nat p.1 src) ∧ IsSrc o
theorem via_pool {M : Model} {A : Around} {h₀ : Heap} {L : Addr} {m : Str → Option Value} {s : Shared} {x : Sem Value} {Q E : Value → Shared → Prop} {rest : Led} (_F : Fr h₀ L s.heap m) (hw : wpAny M A x (PoolPost h₀ L m s rest) E s)
    (q : ∀ (src : Nat) (o : Obj) (h' : Heap) (tk' : Nat), Fr h₀ L h' m → News h₀ L h' ((src, o) :: rest) → (∀ p ∈ rest, @Ne Nat p.1 src) → IsSrc o → Q (.ref src) { s with heap := h', toks := tk' }) : wpAny M A x Q E s :=
  wpAny_mono hw (fun v s' ⟨src, o, h', tk', e1, e2, F, N, O, I⟩ => by subst e1; subst e2; exact q src o h' tk' F N O I) fun _ _ x => x
theorem ite_nt {a b : Prop} {inst : Decidable ((!true) = true)} (h : b) : @ite Prop ((!true) = true) inst a b := by rw [if_neg (by simp)]; exact h
theorem ite_nf {a b : Prop} {inst : Decidable ((!false) = true)} (h : a) : @ite Prop ((!false) = true) inst a b := by rw [if_pos (by simp)]; exact h
theorem ite_f1 {a b : Prop} {inst : Decidable (false = true)} (h : b) : @ite Prop (false = true) inst a b := by rw [if_neg (by simp)]; exact h
theorem ite_t1 {a b : Prop} {inst : Decidable (true = true)} (h : a) : @ite Prop (true = true) inst a b := by rw [if_pos (by simp)]; exact h
theorem ite_T {a b : Prop} {inst : Decidable (True)} (h : a) : @ite Prop (True) inst a b := by rw [if_pos (by simp)]; exact h
theorem ite_F {a b : Prop} {inst : Decidable (False)} (h : b) : @ite Prop (False) inst a b := by rw [if_neg (by simp)]; exact h

set_option maxHeartbeats 16000000 in
theorem law_holds : PySem.Challenge.rw_on0234_01.Holds := by
  w_top off
  k_with_none
  k_with "leaving ref" => (k_here; (with_reducible rename RaisedS _ _ _ _ _ _ _ _ _ => rsX); k_dflt (refine' leave_onS ?k1 ?k2 rsX ?k4 ?_; (case k2 => assumption); (case k1 => assumption); (case k4 => assumption); k_whole; intro h' S' R' U'; (try dsimp only at S' R' U' ⊢)))
  k_with "exec Raise some none" => (k_here; (with_reducible show wpAny _ _ (exec (Stmt.Raise (some (PySem.Expr.Call (PySem.Expr.Name ("SheetFault" : Str) _) _ _ _)) none _) _) _ _ _); k_dflt (refine fault_raise (by rfl) ?_))
  k_with "call ref" => (k_here; (with_reducible show wpAny _ _ (call (Value.ref 44) [_]) _ _ _); k_dflt (refine' fault_call ?k1 ?k2 ?k3 ?k4 ?k5 ?_; (case k1 => k_asm); (case k2 => k_asm); (case k3 => k_asm); (case k4 => k_is); (case k5 => k_is); k_whole; intro e' t' h' F' N' l1 l2; (try (first | have old9 := Old.mk l1.2.2.2.2.2.2 | have old9 := Old.mk l1.2.2.2.2.2 | have old9 := Old.mk l1.2.2.2.2 | have old9 := Old.mk l1.2.2.2 | have old9 := Old.mk l1.2.2 | have old9 := Old.mk l1.2 | have old9 := Old.mk l1)); (try k_lt l1); (try k_lt2 l2); k_enter))
  k_with "setAttr ref" => (k_here; k_dflt (refine' fault_store ?k1 ?k2 ?k3 ?k4 ?k5 ?k6 ?_; (case k1 => k_asm); (case k2 => k_asm); (case k3 => k_asm); (case k4 => k_is); (case k5 => k_is); (case k6 => k_all); k_whole; intro d' h' tk' F' N'))
  k_with "FaultEnd" => (k_dflt (refine' fault_end ?k1 ?k2 ?k3 ?k4 ?_; (case k1 => k_asm); (case k2 => k_asm); (case k3 => k_asm); (case k4 => exact List.Mem.head _)))
  k_with "leaving ref" => (k_here; k_dflt (refine' fault_leave ?k1 ?k2 ?k3 ?k4 ?k5 ?k6 ?k7 ?_; (case k1 => k_asm); (case k2 => k_asm); (case k3 => k_asm); (case k4 => k_all); (case k5 => k_all); (case k6 => exact rfl); (case k7 => exact rfl); k_whole; intro h' R' R2' U'; (try dsimp only at R' R2' U' ⊢)))
  k_with "exec While" => (k_here; refine stopW ?_)
  k_with "exec While Compare" => (k_here; refine stopW ?_)
  k_with "exec While BoolOp" => (k_here; refine stopW ?_)
  k_with "last exec While" => (k_here; refine stopW ?_)
  k_with "last exec While Compare" => (k_here; refine stopW ?_)
  k_with "call ref" => (k_here; (with_reducible show wpAny _ _ (call (Value.ref 171) [_, _]) _ _ _); refine stopW ?_)
  k_with "ite" => (first | with_reducible refine ite_nt ?_ | with_reducible refine ite_f1 ?_ | with_reducible refine ite_t1 ?_ | with_reducible refine ite_nf ?_ | with_reducible refine ite_T ?_ | with_reducible refine ite_F ?_)
  k_with "call ref" => (k_here; (with_reducible show wpAny _ _ (call (Value.ref 232) [_, _]) _ _ _); refine stopW ?_)
  k_with "call ref" => (k_here; (with_reducible show wpAny _ _ (call (Value.ref 136) [_]) _ _ _); refine stopW ?_)
  k_with "call ref" => (k_here; (with_reducible show wpAny _ _ (call (Value.ref 206) [_]) _ _ _); refine stopW ?_)
  k_with "call ref" => (k_here; (with_reducible show wpAny _ _ (call (Value.ref 143) [_]) _ _ _); refine stopW ?_)
  k_with "call ref" => (k_here; (with_reducible show wpAny _ _ (call (Value.ref 218) [_]) _ _ _); refine stopW ?_)
  k_with "call ref" => (k_here; (with_reducible show wpAny _ _ (call (Value.ref 225) [_]) _ _ _); refine stopW ?_)
  k_with "call ref" => (k_here; (with_reducible show wpAny _ _ (call (Value.ref 185) [_, _]) _ _ _); refine stopW ?_)
  k_with "call ref" => (k_here; (with_reducible show wpAny _ _ (call (Value.ref 232) [Value.ref _, Value.str _ _]) _ _ _); refine wpAny_call ?_; k_dflt (refine' code_defS0 ?k1 ?k2 ?k3 ?k4 ?k5 ?kA ?k6 ?k7 ?k8 ?k9 ?kB ?_ ?cK ?c2 ?c3 ?c4 ?c5; (case kA => exact rfl); (case k2 => k_asm); (case k1 => k_asm); (case k3 => k_asm); (case k4 => k_asm); (case k5 => k_asm); (case k6 => k_is); (case k7 => k_is); (case k8 => ktr_room); (case k9 => exact BindsTo.of_eq rfl); (case kB => exact locs rfl); (case cK => first | assumption | exact rfl); (case c2 => exact rfl); (case c3 => exact rfl); (case c4 => exact rfl); (case c5 => decide); k_whole; intro g' L' h' FG' F' N' B' X' T' D'; (try dsimp only); (try k_lift B'); (try k_fold)))
  k_with "call ref" => (k_here; (try dsimp only [List.cons_append, List.nil_append]); (with_reducible show wpAny _ _ (call (Value.ref 206) [_]) _ _ _); k_dflt (refine' Callee.use (text_c _ _ _ _ _ _ _ _ _ ?us ?ur) ?u1 ?u2 ?u3 ?u4 ?u5 ?u6 ?u7 ?u8 ?_ ?_; (case u1 => k_asm); (case u2 => k_asm); (case u3 => k_asm); (case u4 => (first | k_asm | exact news_at1 (by k_asm) | exact news_at2 (by k_asm) | exact news_at3 (by k_asm))); (case u5 => k_asm); (case u6 => first | exact rfl | assumption); (case u7 => ktr_room); (case u8 => ktr_units); (case us => with_reducible assumption); (case ur => (first | with_reducible assumption | exact List.forall_mem_nil _ | exact List.forall_mem_cons.mpr ⟨by k_ne, by (first | with_reducible assumption | exact List.forall_mem_nil _ | exact List.forall_mem_cons.mpr ⟨by k_ne, by (first | with_reducible assumption | exact List.forall_mem_nil _ | exact List.forall_mem_cons.mpr ⟨by k_ne, by (first | with_reducible assumption | exact List.forall_mem_nil _ | exact List.forall_mem_cons.mpr ⟨by k_ne, by (first | with_reducible assumption | exact List.forall_mem_nil _ | exact List.forall_mem_cons.mpr ⟨by k_ne, by (first | with_reducible assumption | exact List.forall_mem_nil _ | exact List.forall_mem_cons.mpr ⟨by k_ne, by (first | with_reducible assumption | exact List.forall_mem_nil _ | exact List.forall_mem_cons.mpr ⟨by k_ne, by (first | with_reducible assumption | exact List.forall_mem_nil _ | exact List.forall_mem_cons.mpr ⟨by k_ne, by (first | with_reducible assumption | exact List.forall_mem_nil _ | exact List.forall_mem_cons.mpr ⟨by k_ne, by (first | with_reducible assumption | exact List.forall_mem_nil _ | exact List.forall_mem_cons.mpr ⟨by k_ne, by (first | with_reducible assumption | exact List.forall_mem_nil _ | exact List.forall_mem_cons.mpr ⟨by k_ne, by (first | with_reducible assumption | exact List.forall_mem_nil _ | exact List.forall_mem_cons.mpr ⟨by k_ne, by (first | with_reducible assumption | exact List.forall_mem_nil _ | exact List.forall_mem_cons.mpr ⟨by k_ne, by (first | with_reducible assumption | exact List.forall_mem_nil _ | exact List.forall_mem_cons.mpr ⟨by k_ne, by with_reducible assumption⟩)⟩)⟩)⟩)⟩)⟩)⟩)⟩)⟩)⟩)⟩)⟩)⟩)⟩))); rotate_left 1; intro e9 t9 vs9 g9 h9 tk9 n9 P9 F9 R9 K9 U9; exact P9.elim; intro v9 h9 tk9 n9 F9 N9 P9; unfold TextPost at P9; obtain ⟨i9, T9, m9, wr9, t8, t9, o9, q1, hi9, hg9, hs9, hT9, q2⟩ := P9; subst q1; subst q2; (try dsimp only [AllLt] at hT9); have hgw9 := hg9.lw; (try dsimp only); (try k_fold))
  k_with "call ref" => (k_here; (with_reducible show wpAny _ _ (call (Value.ref 232) [Value.ref 136, Value.str _ _]) _ _ _); k_dflt (refine' CalleeB.use (refd_sign _ _ _ _ _ _ _ _ _ _ _ _ (sign_c _ _ _ _ _ _ _ _ _ ?h1 ?h2 _ ?h3)) ?u1 ?u2 ?u3 ?u4 ?u5 ?u6 ?u7 ?u8 ?_; (case u1 => k_asm); (case u2 => k_asm); (case u3 => k_asm); (case u4 => k_asm); (case u5 => k_asm); (case u6 => first | exact rfl | assumption); (case u7 => ktr_room); (case u8 => ktr_units); (case h1 => exact odd_len (by with_reducible assumption)); (case h2 => exact odd_chr (by with_reducible assumption)); (case h3 => exact odd_bad (by with_reducible assumption))); intro v9 h9 tk9 n9 F9 N9 P9; (have P8 := Or.resolve_right P9 (fun h => by obtain ⟨_, u, c, t, q, _⟩ := h; cases q)); obtain ⟨q1, q0, q3⟩ := P8; subst q1; (have N8 := cb_drop N9 q3); clear N9 q3 P9; (try dsimp only); (try k_fold))
  k_with "call ref" => (k_here; (with_reducible show wpAny _ _ (call (Value.ref 232) [Value.ref 136, Value.str _ _]) _ _ _); k_dflt (refine' CalleeB.use (refd_sign _ _ _ _ _ _ _ _ _ _ _ _ (sign_c _ _ _ _ _ _ _ _ _ ?h1 ?h2 _ ?h3)) ?u1 ?u2 ?u3 ?u4 ?u5 ?u6 ?u7 ?u8 ?_; (case u1 => k_asm); (case u2 => k_asm); (case u3 => k_asm); (case u4 => k_asm); (case u5 => k_asm); (case u6 => first | exact rfl | assumption); (case u7 => ktr_room); (case u8 => ktr_units); (case h1 => decide); (case h2 => decide); (case h3 => with_reducible exact wordN)); intro v9 h9 tk9 n9 F9 N9 P9; (have P8 := Or.resolve_right P9 (fun h => by obtain ⟨_, u, c, t, q, _⟩ := h; cases q)); obtain ⟨q1, q0, q3⟩ := P8; subst q1; (have N8 := cb_drop N9 q3); clear N9 q3 P9; (try dsimp only); (try k_fold))
  k_with "call ref" => (k_here; (with_reducible show wpAny _ _ (call (Value.ref 232) [Value.ref 136, Value.str _ _]) _ _ _); k_dflt (refine' CalleeB.use (refd_sign _ _ _ _ _ _ _ _ _ _ _ _ (sign_c _ _ _ _ _ _ _ _ _ ?h1 ?h2 _ ?h3)) ?u1 ?u2 ?u3 ?u4 ?u5 ?u6 ?u7 ?u8 ?_; (case u1 => k_asm); (case u2 => k_asm); (case u3 => k_asm); (case u4 => k_asm); (case u5 => k_asm); (case u6 => first | exact rfl | assumption); (case u7 => ktr_room); (case u8 => ktr_units); (case h1 => decide); (case h2 => decide); (case h3 => with_reducible first | exact word1 | exact word2)); intro v9 h9 tk9 n9 F9 N9 P9; (have P8 := Or.resolve_left P9 (fun h => nomatch h.2.1)); obtain ⟨q1, u9, c9, t9, q2, q3, q4⟩ := P8; subst q1; subst q4; (try dsimp only); (try k_fold))
  k_with "call ref" => (k_here; (try dsimp only [List.cons_append, List.nil_append]); (with_reducible show wpAny _ _ (call (Value.ref 136) [_]) _ _ _); k_dflt (refine' Callee.use (sign_c _ _ _ _ _ _ _ _ _ ?h1 ?h2 _ ?h3) ?u1 ?u2 ?u3 ?u4 ?u5 ?u6 ?u7 ?u8 ?_ ?_; (case u1 => k_asm); (case u2 => k_asm); (case u3 => k_asm); (case u4 => k_asm); (case u5 => k_asm); (case u6 => first | exact rfl | assumption); (case u7 => ktr_room); (case u8 => ktr_units); (case h1 => decide); (case h2 => decide); (case h3 => with_reducible first | exact word1 | exact word2)); rotate_left 1; intro e9 t9 vs9 g9 h9 tk9 n9 P9 F9 R9 K9 U9; exact nomatch P9.1; intro v9 h9 tk9 n9 F9 N9 P9; obtain ⟨c9, t9, q1, q2, q3⟩ := P9; cases q1; subst q2; subst q3; (try dsimp only); (try k_fold))
  k_with "call ref" => (k_here; (try dsimp only [List.cons_append, List.nil_append]); (with_reducible show wpAny _ _ (call (Value.ref 185) [_, _]) _ _ _); k_dflt (refine' Callee.use (one_c _ _ _ _ _ _ _ _ _ ?us _ _ _ tags10 ?ur ?um ?uq ?ua ?ub) ?u1 ?u2 ?u3 ?u4 ?u5 ?u6 ?u7 ?u8 ?_ ?_; (case u1 => k_asm); (case u2 => k_asm); (case u3 => k_asm); (case u4 => (first | k_asm | exact news_at1 (by k_asm) | exact news_at2 (by k_asm) | exact news_at3 (by k_asm))); (case u5 => k_asm); (case u6 => first | exact rfl | assumption); (case u7 => ktr_room); (case u8 => ktr_units); (case us => with_reducible assumption); (case ur => (first | with_reducible assumption | exact List.forall_mem_nil _ | exact List.forall_mem_cons.mpr ⟨by k_ne, by (first | with_reducible assumption | exact List.forall_mem_nil _ | exact List.forall_mem_cons.mpr ⟨by k_ne, by (first | with_reducible assumption | exact List.forall_mem_nil _ | exact List.forall_mem_cons.mpr ⟨by k_ne, by (first | with_reducible assumption | exact List.forall_mem_nil _ | exact List.forall_mem_cons.mpr ⟨by k_ne, by (first | with_reducible assumption | exact List.forall_mem_nil _ | exact List.forall_mem_cons.mpr ⟨by k_ne, by (first | with_reducible assumption | exact List.forall_mem_nil _ | exact List.forall_mem_cons.mpr ⟨by k_ne, by (first | with_reducible assumption | exact List.forall_mem_nil _ | exact List.forall_mem_cons.mpr ⟨by k_ne, by (first | with_reducible assumption | exact List.forall_mem_nil _ | exact List.forall_mem_cons.mpr ⟨by k_ne, by (first | with_reducible assumption | exact List.forall_mem_nil _ | exact List.forall_mem_cons.mpr ⟨by k_ne, by (first | with_reducible assumption | exact List.forall_mem_nil _ | exact List.forall_mem_cons.mpr ⟨by k_ne, by (first | with_reducible assumption | exact List.forall_mem_nil _ | exact List.forall_mem_cons.mpr ⟨by k_ne, by (first | with_reducible assumption | exact List.forall_mem_nil _ | exact List.forall_mem_cons.mpr ⟨by k_ne, by (first | with_reducible assumption | exact List.forall_mem_nil _ | exact List.forall_mem_cons.mpr ⟨by k_ne, by (first | with_reducible assumption | exact List.forall_mem_nil _ | exact List.forall_mem_cons.mpr ⟨by k_ne, by with_reducible assumption⟩)⟩)⟩)⟩)⟩)⟩)⟩)⟩)⟩)⟩)⟩)⟩)⟩)⟩)); (case um => first | exact List.Mem.head _ | k_mem); (case uq => repeat first | exact .nil | refine .cons _ _ ?_); (case ua => exact Nat.le_of_ble_eq_true rfl); (case ub => exact Nat.le_of_ble_eq_true rfl)); rotate_left 1; intro e9 t9 vs9 g9 h9 tk9 n9 P9 F9 R9 K9 U9; exact P9.elim; intro v9 h9 tk9 n9 F9 N9 P9; obtain ⟨c9, t9, o9, q1, hc9, hs9, q2⟩ := P9; subst q1; subst q2; (try dsimp only); (try k_fold))
  k_with "call ref" => (k_here; (try dsimp only [List.cons_append, List.nil_append]); (with_reducible show wpAny _ _ (call (Value.ref 185) [_, _]) _ _ _); k_dflt (refine' Callee.use (one_c _ _ _ _ _ _ _ _ _ ?us _ _ _ odds15 ?ur ?um ?uq ?ua ?ub) ?u1 ?u2 ?u3 ?u4 ?u5 ?u6 ?u7 ?u8 ?_ ?_; (case u1 => k_asm); (case u2 => k_asm); (case u3 => k_asm); (case u4 => (first | k_asm | exact news_at1 (by k_asm) | exact news_at2 (by k_asm) | exact news_at3 (by k_asm))); (case u5 => k_asm); (case u6 => first | exact rfl | assumption); (case u7 => ktr_room); (case u8 => ktr_units); (case us => with_reducible assumption); (case ur => (first | with_reducible assumption | exact List.forall_mem_nil _ | exact List.forall_mem_cons.mpr ⟨by k_ne, by (first | with_reducible assumption | exact List.forall_mem_nil _ | exact List.forall_mem_cons.mpr ⟨by k_ne, by (first | with_reducible assumption | exact List.forall_mem_nil _ | exact List.forall_mem_cons.mpr ⟨by k_ne, by (first | with_reducible assumption | exact List.forall_mem_nil _ | exact List.forall_mem_cons.mpr ⟨by k_ne, by (first | with_reducible assumption | exact List.forall_mem_nil _ | exact List.forall_mem_cons.mpr ⟨by k_ne, by (first | with_reducible assumption | exact List.forall_mem_nil _ | exact List.forall_mem_cons.mpr ⟨by k_ne, by (first | with_reducible assumption | exact List.forall_mem_nil _ | exact List.forall_mem_cons.mpr ⟨by k_ne, by (first | with_reducible assumption | exact List.forall_mem_nil _ | exact List.forall_mem_cons.mpr ⟨by k_ne, by (first | with_reducible assumption | exact List.forall_mem_nil _ | exact List.forall_mem_cons.mpr ⟨by k_ne, by (first | with_reducible assumption | exact List.forall_mem_nil _ | exact List.forall_mem_cons.mpr ⟨by k_ne, by (first | with_reducible assumption | exact List.forall_mem_nil _ | exact List.forall_mem_cons.mpr ⟨by k_ne, by (first | with_reducible assumption | exact List.forall_mem_nil _ | exact List.forall_mem_cons.mpr ⟨by k_ne, by (first | with_reducible assumption | exact List.forall_mem_nil _ | exact List.forall_mem_cons.mpr ⟨by k_ne, by (first | with_reducible assumption | exact List.forall_mem_nil _ | exact List.forall_mem_cons.mpr ⟨by k_ne, by with_reducible assumption⟩)⟩)⟩)⟩)⟩)⟩)⟩)⟩)⟩)⟩)⟩)⟩)⟩)⟩)); (case um => first | exact List.Mem.head _ | k_mem); (case uq => repeat first | exact .nil | refine .cons _ _ ?_); (case ua => exact Nat.le_of_ble_eq_true rfl); (case ub => exact Nat.le_of_ble_eq_true rfl)); rotate_left 1; intro e9 t9 vs9 g9 h9 tk9 n9 P9 F9 R9 K9 U9; exact P9.elim; intro v9 h9 tk9 n9 F9 N9 P9; obtain ⟨c9, t9, o9, q1, hc9, hs9, q2⟩ := P9; subst q1; subst q2; (try dsimp only); (try k_fold))
  k_with "call ref" => (k_here; (try dsimp only [List.cons_append, List.nil_append]); (with_reducible show wpAny _ _ (call (Value.ref 185) [_, _]) _ _ _); k_dflt (refine' Callee.use (one_c _ _ _ _ _ _ _ _ _ ?us _ _ _ bads5 ?ur ?um ?uq ?ua ?ub) ?u1 ?u2 ?u3 ?u4 ?u5 ?u6 ?u7 ?u8 ?_ ?_; (case u1 => k_asm); (case u2 => k_asm); (case u3 => k_asm); (case u4 => (first | k_asm | exact news_at1 (by k_asm) | exact news_at2 (by k_asm) | exact news_at3 (by k_asm))); (case u5 => k_asm); (case u6 => first | exact rfl | assumption); (case u7 => ktr_room); (case u8 => ktr_units); (case us => with_reducible assumption); (case ur => (first | with_reducible assumption | exact List.forall_mem_nil _ | exact List.forall_mem_cons.mpr ⟨by k_ne, by (first | with_reducible assumption | exact List.forall_mem_nil _ | exact List.forall_mem_cons.mpr ⟨by k_ne, by (first | with_reducible assumption | exact List.forall_mem_nil _ | exact List.forall_mem_cons.mpr ⟨by k_ne, by (first | with_reducible assumption | exact List.forall_mem_nil _ | exact List.forall_mem_cons.mpr ⟨by k_ne, by (first | with_reducible assumption | exact List.forall_mem_nil _ | exact List.forall_mem_cons.mpr ⟨by k_ne, by (first | with_reducible assumption | exact List.forall_mem_nil _ | exact List.forall_mem_cons.mpr ⟨by k_ne, by (first | with_reducible assumption | exact List.forall_mem_nil _ | exact List.forall_mem_cons.mpr ⟨by k_ne, by (first | with_reducible assumption | exact List.forall_mem_nil _ | exact List.forall_mem_cons.mpr ⟨by k_ne, by (first | with_reducible assumption | exact List.forall_mem_nil _ | exact List.forall_mem_cons.mpr ⟨by k_ne, by (first | with_reducible assumption | exact List.forall_mem_nil _ | exact List.forall_mem_cons.mpr ⟨by k_ne, by (first | with_reducible assumption | exact List.forall_mem_nil _ | exact List.forall_mem_cons.mpr ⟨by k_ne, by (first | with_reducible assumption | exact List.forall_mem_nil _ | exact List.forall_mem_cons.mpr ⟨by k_ne, by (first | with_reducible assumption | exact List.forall_mem_nil _ | exact List.forall_mem_cons.mpr ⟨by k_ne, by (first | with_reducible assumption | exact List.forall_mem_nil _ | exact List.forall_mem_cons.mpr ⟨by k_ne, by with_reducible assumption⟩)⟩)⟩)⟩)⟩)⟩)⟩)⟩)⟩)⟩)⟩)⟩)⟩)⟩)); (case um => first | exact List.Mem.head _ | k_mem); (case uq => repeat first | exact .nil | refine .cons _ _ ?_); (case ua => exact Nat.le_of_ble_eq_true rfl); (case ub => exact Nat.le_of_ble_eq_true rfl)); rotate_left 1; intro e9 t9 vs9 g9 h9 tk9 n9 P9 F9 R9 K9 U9; exact P9.elim; intro v9 h9 tk9 n9 F9 N9 P9; obtain ⟨c9, t9, o9, q1, hc9, hs9, q2⟩ := P9; subst q1; subst q2; have hbl9 := bad_len hc9; (try dsimp only); (try k_fold))
  k_with "call ref" => (k_here; (with_reducible show wpAny _ _ (call (Value.ref 232) [Value.ref 143, Value.str _ _]) _ _ _); k_dflt (refine' CalleeB.use (refd_unesc _ _ _ _ _ _ _ _ _ _ _ _ (unesc_c _ _ _ _ _ _ _ _ _ ?h1 ?h2 _ ?h3)) ?u1 ?u2 ?u3 ?u4 ?u5 ?u6 ?u7 ?u8 ?_; (case u1 => k_asm); (case u2 => k_asm); (case u3 => k_asm); (case u4 => k_asm); (case u5 => k_asm); (case u6 => first | exact rfl | assumption); (case u7 => ktr_room); (case u8 => ktr_units); (case h1 => omega); (case h2 => exact bad_chr (by with_reducible assumption) (by with_reducible assumption)); (case h3 => exact bad_un (by with_reducible assumption) (by with_reducible assumption))); intro v9 h9 tk9 n9 F9 N9 P9; (have P8 := Or.resolve_right P9 (fun h => by obtain ⟨_, u, c, t, q, _⟩ := h; cases q)); obtain ⟨q1, q0, q3⟩ := P8; subst q1; (have N8 := cb_drop N9 q3); clear N9 q3 P9; (try dsimp only); (try k_fold))
  k_with "call ref" => (k_here; (try dsimp only [List.cons_append, List.nil_append]); (with_reducible show wpAny _ _ (call (Value.ref 218) [_]) _ _ _); k_dflt (refine' Callee.use (tagr_c _ _ _ _ _ _ _ _ _ ?us ?ur) ?u1 ?u2 ?u3 ?u4 ?u5 ?u6 ?u7 ?u8 ?_ ?_; (case u1 => k_asm); (case u2 => k_asm); (case u3 => k_asm); (case u4 => (first | k_asm | exact news_at1 (by k_asm) | exact news_at2 (by k_asm) | exact news_at3 (by k_asm))); (case u5 => k_asm); (case u6 => first | exact rfl | assumption); (case u7 => ktr_room); (case u8 => ktr_units); (case us => with_reducible assumption); (case ur => (first | with_reducible assumption | exact List.forall_mem_nil _ | exact List.forall_mem_cons.mpr ⟨by k_ne, by (first | with_reducible assumption | exact List.forall_mem_nil _ | exact List.forall_mem_cons.mpr ⟨by k_ne, by (first | with_reducible assumption | exact List.forall_mem_nil _ | exact List.forall_mem_cons.mpr ⟨by k_ne, by (first | with_reducible assumption | exact List.forall_mem_nil _ | exact List.forall_mem_cons.mpr ⟨by k_ne, by (first | with_reducible assumption | exact List.forall_mem_nil _ | exact List.forall_mem_cons.mpr ⟨by k_ne, by (first | with_reducible assumption | exact List.forall_mem_nil _ | exact List.forall_mem_cons.mpr ⟨by k_ne, by (first | with_reducible assumption | exact List.forall_mem_nil _ | exact List.forall_mem_cons.mpr ⟨by k_ne, by (first | with_reducible assumption | exact List.forall_mem_nil _ | exact List.forall_mem_cons.mpr ⟨by k_ne, by (first | with_reducible assumption | exact List.forall_mem_nil _ | exact List.forall_mem_cons.mpr ⟨by k_ne, by (first | with_reducible assumption | exact List.forall_mem_nil _ | exact List.forall_mem_cons.mpr ⟨by k_ne, by (first | with_reducible assumption | exact List.forall_mem_nil _ | exact List.forall_mem_cons.mpr ⟨by k_ne, by (first | with_reducible assumption | exact List.forall_mem_nil _ | exact List.forall_mem_cons.mpr ⟨by k_ne, by (first | with_reducible assumption | exact List.forall_mem_nil _ | exact List.forall_mem_cons.mpr ⟨by k_ne, by (first | with_reducible assumption | exact List.forall_mem_nil _ | exact List.forall_mem_cons.mpr ⟨by k_ne, by with_reducible assumption⟩)⟩)⟩)⟩)⟩)⟩)⟩)⟩)⟩)⟩)⟩)⟩)⟩)⟩))); rotate_left 1; intro e9 t9 vs9 g9 h9 tk9 n9 P9 F9 R9 K9 U9; exact P9.elim; intro v9 h9 tk9 n9 F9 N9 P9; unfold TruePost at P9; obtain ⟨o9, q1, hs9, q2⟩ := P9; subst q1; subst q2; (try dsimp only); (try k_fold))
  k_with "call ref" => (k_here; (try dsimp only [List.cons_append, List.nil_append]); (with_reducible show wpAny _ _ (call (Value.ref 225) [_]) _ _ _); k_dflt (refine' Callee.use (typr_c _ _ _ _ _ _ _ _ _ ?us ?ur) ?u1 ?u2 ?u3 ?u4 ?u5 ?u6 ?u7 ?u8 ?_ ?_; (case u1 => k_asm); (case u2 => k_asm); (case u3 => k_asm); (case u4 => (first | k_asm | exact news_at1 (by k_asm) | exact news_at2 (by k_asm) | exact news_at3 (by k_asm))); (case u5 => k_asm); (case u6 => first | exact rfl | assumption); (case u7 => ktr_room); (case u8 => ktr_units); (case us => with_reducible assumption); (case ur => (first | with_reducible assumption | exact List.forall_mem_nil _ | exact List.forall_mem_cons.mpr ⟨by k_ne, by (first | with_reducible assumption | exact List.forall_mem_nil _ | exact List.forall_mem_cons.mpr ⟨by k_ne, by (first | with_reducible assumption | exact List.forall_mem_nil _ | exact List.forall_mem_cons.mpr ⟨by k_ne, by (first | with_reducible assumption | exact List.forall_mem_nil _ | exact List.forall_mem_cons.mpr ⟨by k_ne, by (first | with_reducible assumption | exact List.forall_mem_nil _ | exact List.forall_mem_cons.mpr ⟨by k_ne, by (first | with_reducible assumption | exact List.forall_mem_nil _ | exact List.forall_mem_cons.mpr ⟨by k_ne, by (first | with_reducible assumption | exact List.forall_mem_nil _ | exact List.forall_mem_cons.mpr ⟨by k_ne, by (first | with_reducible assumption | exact List.forall_mem_nil _ | exact List.forall_mem_cons.mpr ⟨by k_ne, by (first | with_reducible assumption | exact List.forall_mem_nil _ | exact List.forall_mem_cons.mpr ⟨by k_ne, by (first | with_reducible assumption | exact List.forall_mem_nil _ | exact List.forall_mem_cons.mpr ⟨by k_ne, by (first | with_reducible assumption | exact List.forall_mem_nil _ | exact List.forall_mem_cons.mpr ⟨by k_ne, by (first | with_reducible assumption | exact List.forall_mem_nil _ | exact List.forall_mem_cons.mpr ⟨by k_ne, by (first | with_reducible assumption | exact List.forall_mem_nil _ | exact List.forall_mem_cons.mpr ⟨by k_ne, by (first | with_reducible assumption | exact List.forall_mem_nil _ | exact List.forall_mem_cons.mpr ⟨by k_ne, by with_reducible assumption⟩)⟩)⟩)⟩)⟩)⟩)⟩)⟩)⟩)⟩)⟩)⟩)⟩)⟩))); rotate_left 1; intro e9 t9 vs9 g9 h9 tk9 n9 P9 F9 R9 K9 U9; exact P9.elim; intro v9 h9 tk9 n9 F9 N9 P9; unfold TruePost at P9; obtain ⟨o9, q1, hs9, q2⟩ := P9; subst q1; subst q2; (try dsimp only); (try k_fold))
  k_with "call ref" => (k_here; (try dsimp only [List.cons_append, List.nil_append]); (with_reducible show wpAny _ _ (call (Value.ref 143) [_]) _ _ _); k_dflt (refine' Callee.use (unesc_c _ _ _ _ _ _ _ _ _ ?h1 ?h2 _ ?h3) ?u1 ?u2 ?u3 ?u4 ?u5 ?u6 ?u7 ?u8 ?_ ?_; (case u1 => k_asm); (case u2 => k_asm); (case u3 => k_asm); (case u4 => k_asm); (case u5 => k_asm); (case u6 => first | exact rfl | assumption); (case u7 => ktr_room); (case u8 => ktr_units); (case h1 => omega); (case h2 => exact fun c hc => (Goes.okc (by with_reducible assumption) c hc).2.2); (case h3 => exact Goes.all (by with_reducible assumption) (Goes.ge (by with_reducible assumption)))); rotate_left 1; intro e9 t9 vs9 g9 h9 tk9 n9 P9 F9 R9 K9 U9; exact nomatch P9.1; intro v9 h9 tk9 n9 F9 N9 P9; obtain ⟨u9, t9, q1, q2, q3⟩ := P9; cases q1; rw [str_eta] at q2; subst q2; subst q3; (try dsimp only); (try k_fold))
  k_with "call ref" => (k_here; (with_reducible show wpAny _ _ (call (Value.ref 157) [_]) _ _ _); (rename News _ _ _ _ => N1); k_dflt (refine' Callee.use (tag_c _ _ _ _ _ _ _ _ _ _ _ _ _ _ _ 0 _ ?ra ?rb ?rc (Nat.zero_le _) ?rd none 5 (by omega) ?re) ?u1 ?u2 ?u3 ?u4 ?u5 ?u6 ?u7 ?u8 ?_ ?_; (case u1 => k_asm); (case u2 => k_asm); (case u3 => k_asm); (case u4 => exact N1); (case u5 => k_asm); (case u6 => first | exact rfl | assumption); (case u7 => ktr_room); (case u8 => ktr_units); (case ra => (first | with_reducible assumption | exact List.forall_mem_nil _ | exact List.forall_mem_cons.mpr ⟨by k_ne, by (first | with_reducible assumption | exact List.forall_mem_nil _ | exact List.forall_mem_cons.mpr ⟨by k_ne, by (first | with_reducible assumption | exact List.forall_mem_nil _ | exact List.forall_mem_cons.mpr ⟨by k_ne, by (first | with_reducible assumption | exact List.forall_mem_nil _ | exact List.forall_mem_cons.mpr ⟨by k_ne, by (first | with_reducible assumption | exact List.forall_mem_nil _ | exact List.forall_mem_cons.mpr ⟨by k_ne, by (first | with_reducible assumption | exact List.forall_mem_nil _ | exact List.forall_mem_cons.mpr ⟨by k_ne, by (first | with_reducible assumption | exact List.forall_mem_nil _ | exact List.forall_mem_cons.mpr ⟨by k_ne, by (first | with_reducible assumption | exact List.forall_mem_nil _ | exact List.forall_mem_cons.mpr ⟨by k_ne, by (first | with_reducible assumption | exact List.forall_mem_nil _ | exact List.forall_mem_cons.mpr ⟨by k_ne, by (first | with_reducible assumption | exact List.forall_mem_nil _ | exact List.forall_mem_cons.mpr ⟨by k_ne, by (first | with_reducible assumption | exact List.forall_mem_nil _ | exact List.forall_mem_cons.mpr ⟨by k_ne, by (first | with_reducible assumption | exact List.forall_mem_nil _ | exact List.forall_mem_cons.mpr ⟨by k_ne, by (first | with_reducible assumption | exact List.forall_mem_nil _ | exact List.forall_mem_cons.mpr ⟨by k_ne, by (first | with_reducible assumption | exact List.forall_mem_nil _ | exact List.forall_mem_cons.mpr ⟨by k_ne, by (first | with_reducible assumption | exact List.forall_mem_nil _ | exact List.forall_mem_cons.mpr ⟨by k_ne, by (first | with_reducible assumption | exact List.forall_mem_nil _ | exact List.forall_mem_cons.mpr ⟨by k_ne, by with_reducible assumption⟩)⟩)⟩)⟩)⟩)⟩)⟩)⟩)⟩)⟩)⟩)⟩)⟩)⟩)⟩)⟩)); (case rb => k_ne); (case rc => exact tago_len (by with_reducible assumption)); (case rd => exact tago_chr (by with_reducible assumption)); (case re => exact tago_bad (by with_reducible assumption))); clear N1; (intro v9 h9 tk9 n9 F9 N9 P9; exact (tagpost_none P9).elim); intro e9 t9 vs9 g9 h9 tk9 n9 P9 F9 R9 K9 U9; (have R8 := raisedS_sub R9 P9.2); (have K8 := raisedK_sub K9 P9.2); clear R9 K9; (try dsimp only); (try k_fold))
  k_with "compareOp NotEq str str" => (k_here; refine ne_self ?_)
  k_with "binaryOp Add str str" => (k_here; (with_reducible show wpAny _ _ (binaryOp Operator.Add (Value.str _ _) (Value.str _ _)) _ _ _); (refine add_len ?hs9 ?_); (case hs9 => omega); intro _ _ hal9)
  refine hd ?_
  k_go0
  (all_goals try k_fold)
  k_steps
  unfold Stop
  (rename Fr _ _ _ _ => F1)
  refine via_pool (rest := [(234, tabObj #[])]) F1 ?ww ?qq
  case ww =>
    refine wpAny_call ?_
    k_dflt k_enter
    k_steps
    all_goals exact ⟨_, _, _, _, rfl, rfl, by k_asm, by k_asm, (fun p hp => by rcases List.mem_singleton.mp hp with rfl; show @Ne Nat 234 _; omega), ⟨_, _, _, _, _, rfl, pool_a _ _, (fmod_rng _ (by omega)).1, (fmod_rng _ (by omega)).2⟩⟩
  case qq =>
    intro src o h2 tk2 F2 N2 O2 I2
    have h234 : @Ne Nat 234 src := O2 _ List.mem_cons_self
    (try dsimp only); (try k_fold)
    k_steps

end Mine
end
theorem PySem.Challenge.cw_on0234_01_holds : PySem.Challenge.rw_on0234_01.Holds :=
  Mine.law_holds
