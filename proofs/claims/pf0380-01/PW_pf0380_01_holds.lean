import PyProof.Rows.All
import Wide.All
import OpenK.AllK
import Wide.FinOn
import Lean
import PySem.Challenge.RW_pf0380_01
section Head
open PySem PySem.W PyProof.Rows
set_option Elab.async false
namespace Mine
noncomputable def topRunT (tb : String → Option Builtin) (p : Program) (w : World) (n₀ : Nat) (ann : Option Value) : Nat → SharedT → Thread → Option SharedT
  | 0, _, _ => none
  | n + 1, s, t => match through t with
    | true => some s
    | false => match stepOk n₀ ann t with
      | false => none
      | true => match stepT (denote tb) p w s t with
        | some (s', t') => topRunT tb p w n₀ ann n s' t'
        | none => none
theorem topRun_of {tb : String → Option Builtin} {p : Program} {w : World} {n₀ : Nat} {ann : Option Value} : ∀ {n : Nat} {s s' : SharedT} {t : Thread},
    topRunT tb p w n₀ ann n s t = some s' → topRun tb p w n₀ ann n s.abs t = some s'.abs
  | 0, _, _, _, h => by cases h
  | n + 1, s, s', t, h => by
    unfold topRunT at h
    unfold topRun
    cases ht : through t with
    | true => rw [ht] at h; cases h; rfl
    | false =>
      rw [ht] at h
      cases hk : stepOk n₀ ann t with
      | false => rw [hk] at h; cases h
      | true =>
        rw [hk] at h
        cases hs : stepT (denote tb) p w s t with
        | none => rw [hs] at h; cases h
        | some r => obtain ⟨s₂, t₂⟩ := r; rw [hs] at h; dsimp only; rw [stepT_spec hs]; exact topRun_of h
noncomputable def bootT (P : Params) : BT := ((((((((((((BT.nil.ins 0 (boot_o_0 P)).ins 1 (boot_o_1 P)).ins 2 (boot_o_2 P)).ins 3 (boot_o_3 P)).ins 4 (boot_o_4 P)).ins 5 (boot_o_5 P)).ins 6 (boot_o_6 P)).ins 7 (boot_o_7 P)).ins 8 (boot_o_8 P)).ins 9 (boot_o_9 P)).ins 10 (boot_o_10 P)))
theorem bootT_eq : (fun P => absHeap (bootT P) 11 default) = boot_heap := by kernel_rfl
theorem boot_size : (fun w => ((boot_heap (World.params w)).isNs mainGlobals && (Array.mk (α := GenState) []).size == 0, (boot_heap w.params).objs.size, (boot_heap w.params).nsMap mainGlobals "__annotations__")) = fun _ => (true, 11, some (Value.ref 6)) := by kernel_rfl
abbrev LeftQ (p q : Program) (loose : List Str) (Xt : Shared → Bool) {α : Type} (Yf : Shared → α) (Ya : World → α) (N : Nat) : Prop :=
  ∀ w, (fun os => (topRunT treeTable p w 11 (some (.ref 6)) N ⟨bootT w.params, 11, default, Array.mk [], boot_drawn, boot_toks, os⟩ (topStub p)).map (fun s =>
      (staticsOk (importedModules p.main.body) (boot_heap w.params) s.abs.heap && namesBound p s.abs.heap && gensDone s.abs && laidKept (boot_heap w.params) s.abs.heap,
        openSeen q loose (importedModules p.main.body) Xt true s.abs, Yf s.abs))) = fun _ => some (true, openGood q loose, Ya w)
theorem left_of {p q : Program} {loose : List Str} {Xt : Shared → Bool} {α : Type} {Yf : Shared → α} {Ya : World → α} {N : Nat} (h : LeftQ p q loose Xt Yf Ya N)
    (e : opening p = plainProg p.main.scope.names) (hN : Nat.ble 600 N = true) (f : ∀ s, fenceModules? p s = some s) : LeftO p q loose Xt Yf Ya N := fun w => by
  obtain ⟨⟨hp, gs, d, k, os⟩, e1, e2⟩ := Option.map_eq_some_iff.mp (boot_open e hN f w)
  obtain ⟨rfl, rfl, rfl, rfl⟩ : hp = boot_heap w.params ∧ gs = Array.mk [] ∧ d = boot_drawn ∧ k = boot_toks := by simpa using e2
  obtain ⟨z1, z2, z3⟩ : _ ∧ _ ∧ _ := by simpa only [Prod.mk.injEq] using congrFun boot_size w
  obtain ⟨s, r, hs⟩ := Option.map_eq_some_iff.mp (congrFun (h w) os)
  obtain ⟨l1, l2, l3⟩ : _ ∧ _ ∧ _ := by simpa only [Prod.mk.injEq] using hs
  have r := topRun_of r
  have eb : (SharedT.mk (bootT w.params) 11 default (Array.mk []) boot_drawn boot_toks os).abs = ⟨boot_heap w.params, Array.mk [], boot_drawn, boot_toks, os⟩ := by
    unfold SharedT.abs
    dsimp only
    rw [congrFun bootT_eq w.params]
  rw [eb] at r
  have t : topFrom treeTable p w N ⟨boot_heap w.params, Array.mk [], boot_drawn, boot_toks, os⟩ = some s.abs := by
    unfold topFrom
    dsimp only
    rw [z1, z2, z3, r]
    show (match staticsOk (importedModules p.main.body) (boot_heap w.params) s.abs.heap && namesBound p s.abs.heap && gensDone s.abs && laidKept (boot_heap w.params) s.abs.heap with | true => _ | false => _) = _
    rw [l1]
  unfold openEnds
  rw [e1]
  show (topFrom treeTable p w N _).map _ = _
  rw [t]
  exact congrArg some (Prod.ext l2 l3)
theorem said : PySem.Challenge.rw_pf0380_01.wellSaid = true := by decide +kernel
theorem opens : opening PySem.Challenge.pw_pf0380_01 = plainProg PySem.Challenge.pw_pf0380_01.main.scope.names := by kernel_rfl
theorem fences (s : Shared) : fenceModules? PySem.Challenge.pw_pf0380_01 s = some s := by kernel_rfl
end Mine
-- the head's lemma as k_head calls it, of this row alone: the run from the booted heap over a tree of objects in the place of the elder premise
namespace Mine.PySem.W
theorem holds_open {q : Program} {loose : List Str} {Xt : Shared → Bool} {XP : (Str → Option Value) → Heap → Prop} {α : Type} {Yf : Shared → α} {Ya : World → α} {YP : World → Heap → Prop} {d : DefRec} {kwd : List (Str × Expr)} {N : Nat}
    (left : LeftQ PySem.Challenge.pw_pf0380_01 q loose Xt Yf Ya (N + 600)) (hY : ∀ w s, Yf s = Ya w → YP w s.heap) (hYk : ∀ w h h', YP w h → (∀ b o, h.get? b = some o → h'.get? b = some o) → YP w h')
    (hX : ∀ s, Xt s = true → XP (s.heap.nsMap mainGlobals) s.heap) (hXk : ∀ mg h h', XP mg h → (∀ b o, h.get? b = some o → h'.get? b = some o) → XP mg h')
    (hdef : defOf q PySem.Challenge.rw_pf0380_01.row.name = some (d, kwd)) (hp : PySem.Challenge.rw_pf0380_01.row.prog.theDef PySem.Challenge.rw_pf0380_01.row.name = some (d.params, d.body, d.scope)) (hk : kwWritten? d.params.kwonlyargs d.params.kw_defaults = some kwd)
    (hRf : ∀ s, Xt s = true → RecFacts PySem.Challenge.rw_pf0380_01.row.records s.heap) (hwr : (!PySem.Challenge.rw_pf0380_01.row.writes || PySem.Challenge.rw_pf0380_01.row.records.isEmpty) = true)
    (k1 : True) (ok : (chainsOk q && opensWell PySem.Challenge.rw_pf0380_01.row.prog && (frees PySem.Challenge.rw_pf0380_01.row.toRowW && PySem.Challenge.rw_pf0380_01.row.within.isEmpty)) = true) (hb : PySem.Challenge.rw_pf0380_01.row.prog.bare) (hw : PySem.Challenge.rw_pf0380_01.row.toRowW.promised)
    (call : WalkO q loose XP YP PySem.Challenge.rw_pf0380_01.row.toRowW d kwd fun f vs => PySem.call f vs) : PySem.Challenge.rw_pf0380_01.row.Holds :=
  _root_.PySem.W.holds_open (r := PySem.Challenge.rw_pf0380_01.row) (left_of left opens (Nat.ble_eq_true_of_le (Nat.le_add_left _ _)) fences) hY hYk hX hXk hdef hp hk hRf hwr (row_said Mine.said) ok hb hw call
end Mine.PySem.W
namespace Mine
set_option maxRecDepth 100000 in
set_option maxHeartbeats 8000000 in
open_top hd for (PySem.Challenge.rw_pf0380_01).row
end Mine

end Head
section P16
open PySem
set_option Elab.async false
set_option maxRecDepth 100000
namespace Mine
open PySem.Sem (wp)

section
variable {M : Model} {A : Around} {E : Value → Shared → Prop} {h : Heap} {g : Array GenState} {d : Drawn} {t : Nat} {os : OsState}
variable {nm q : Str} {C N : Addr} {bs bm bmN : List Value} {hdct : Bool} {sn : List Str} {sub : List Value} {ab : Bool} {col : Option Bool} {dd : Option Addr} {k0 k1 k2 k3 k5 : Option Value} {B newId inN : String}

theorem se_checkNew (F : ExcBaseFacts B newId inN bmN) (hB : (Value.ref C :: bm).contains (.type B) = true) {rest : List Value} {Q : Unit → Shared → Prop}
    (hC : h.get? C = some (excClassObj nm q C N bs bm hdct sn sub ab col dd k0 k1 k2 k3 k5 newId)) (hq : Q () ⟨h, g, d, t, os⟩) :
    wpAny M A (checkBuiltinCall newId ⟨.ref C :: rest, []⟩) Q E ⟨h, g, d, t, os⟩ := by
  have hstar := F.noStar
  simp only [checkBuiltinCall, F.newKind, F.newSplit, F.newRow]
  repeat (first | refine wpAny_loadPart_at hC ?_ | (refine wpAny_isSubtype_exc hC ?_; rw [hB]) | refine wpAny_staticBase_exc hC ?_ | refine wpAny_madeBy_exc hC ?_ | simp only [bne_self_eq_false, Bool.false_eq_true, if_false] | wp_step)
  exact hq
end

section
variable {prog : Program} {w : World} {A : Around} {R : Result → Shared → Prop} {E : Value → Shared → Prop} {h : Heap} {g : Array GenState} {d : Drawn} {t : Nat} {os : OsState}
variable {nm q : Str} {C N : Addr} {bs bm bmN : List Value} {hdct : Bool} {sn : List Str} {sub : List Value} {ab : Bool} {col : Option Bool} {dd : Option Addr} {k0 k1 k2 k3 k5 : Option Value} {B newId inN : String}

theorem se_new (F : ExcBaseFacts B newId inN bmN) (hB : (Value.ref C :: bm).contains (.type B) = true) (hA : (Value.ref C :: bm).contains (.type "AttributeError") = false) (hN : (Value.ref C :: bm).contains (.type "NameError") = false) {rest : List Value}
    (hC : h.get? C = some (excClassObj nm q C N bs bm hdct sn sub ab col dd k0 k1 k2 k3 k5 newId))
    (hq : R (.ok (.ret (.ref (h.objs.size + 1)))) ⟨(h.push { cls := .type "tuple", data := .seq rest.toArray }).push
      { cls := .ref C, data := .fields #[.ref h.objs.size, .none, .none, .none, .bool false, .none] }, g, d, t, os⟩) (hrest : rest.length ≤ sizeLine) :
    codeAny (model prog w) A (.builtin newId ⟨.ref C :: rest, []⟩) R ⟨h, g, d, t, os⟩ := by
  have hends := F.ends
  refine codeAny_builtinAt F.entry ?_
  unfold Builtin.«BaseException.__new__»
  refine wpAt_bind ?_
  show wpAt _ _ _ (stack >>= _) _ _ _
  refine wpAt_bind (wpAt_stack fun p below => wpAt_of_wpAny ?_)
  wp_walk
  refine wpAt_of_wpAny ?_
  rw [F.owner]
  repeat (first | with_reducible refine wpAny_madeHere_exc F.canon hC ?_ | with_reducible refine wpAny_loadPart_at hC ?_ | (with_reducible refine wpAny_isSubtype_exc hC ?_; first | rw [hB] | rw [hA] | rw [hN]) | wp_step)
  show R _ _
  rw [Heap.size_push]
  exact hq

theorem se_typeCall (F : ExcBaseFacts B newId inN bmN) (hB : (Value.ref C :: bm).contains (.type B) = true) (hA : (Value.ref C :: bm).contains (.type "AttributeError") = false) (hN : (Value.ref C :: bm).contains (.type "NameError") = false)
    {mN : Str → Option Value} {rest : List Value} {fI : Addr} {oI : Obj} {Q : Fin → Shared → Prop}
    (hC : h.get? C = some (excClassObj nm q C N bs bm hdct sn sub ab col dd k0 k1 k2 k3 k5 newId)) (hn : h.Ns N mN) (hi : mN "__init__" = some (.ref fI))
    (hfI : h.get? fI = some oI) (hfc : oI.cls = .type "function")
    (hq : wpAny (model prog w) A (call (.ref fI) (.ref (h.objs.size + 1) :: rest)) (fun r s' => r = .none ∧ Q (.done (.ret (.ref (h.objs.size + 1)))) s') E
      ⟨(h.push { cls := .type "tuple", data := .seq rest.toArray }).push { cls := .ref C, data := .fields #[.ref h.objs.size, .none, .none, .none, .bool false, .none] }, g, d, t, os⟩) (hrest : rest.length ≤ sizeLine) :
    wpAny (model prog w) A (Builtin.«type.__call__» ⟨.ref C :: rest, []⟩) Q E ⟨h, g, d, t, os⟩ := by
  repeat (first | with_reducible refine wpAny_loadPart_at hC ?_ | with_reducible refine wpAny_madeBy_exc hC ?_ | wp_step)
  refine codeAny_call_builtin_code (Code.quiet_builtin _ F.quiet) (se_checkNew F hB hC ?_)
  refine se_new F hB hA hN hC ?_ hrest
  show wpAny _ _ _ _ _ _
  have hC₁ := Heap.get?_push_of_some { cls := .ref C, data := .fields #[.ref h.objs.size, .none, .none, .none, .bool false, .none] }
    (Heap.get?_push_of_some { cls := .type "tuple", data := .seq rest.toArray } hC)
  have hfI₁ := Heap.get?_push_of_some { cls := .ref C, data := .fields #[.ref h.objs.size, .none, .none, .none, .bool false, .none] }
    (Heap.get?_push_of_some { cls := .type "tuple", data := .seq rest.toArray } hfI)
  have hn₁ : ((h.push { cls := .type "tuple", data := .seq rest.toArray }).push { cls := .ref C, data := .fields #[.ref h.objs.size, .none, .none, .none, .bool false, .none] }).Ns N mN :=
    let ⟨o, es, ep, e, r⟩ := hn; ⟨o, es, ep, Heap.get?_push_of_some _ (Heap.get?_push_of_some _ e), r⟩
  have hget : ((h.push { cls := .type "tuple", data := .seq rest.toArray }).push
      { cls := .ref C, data := .fields #[.ref h.objs.size, .none, .none, .none, .bool false, .none] }).get? (h.objs.size + 1) = some
      { cls := .ref C, data := .fields #[.ref h.objs.size, .none, .none, .none, .bool false, .none] } := by heap_get
  have hcC : (Value.ref C :: bm).contains (.ref C) = true := by simp
  unfold isInstance
  repeat (first | with_reducible refine wpAny_loadPart_at hget ?_ | (with_reducible refine wpAny_isSubtype_exc hC₁ ?_; rw [hcC]) | wp_step)
  show wpAny _ _ (typeLookup (.ref C) _) _ _ _
  rw [typeLookup_eq]
  refine wpAny_bind (wpAny_mroOf_exc hC₁ ?_)
  rw [lookupAlong_cons]
  refine wpAny_bind (wpAny_classOwn_exc hC₁ hn₁ ?_)
  rw [hi]
  refine wpAny_pure ?_
  refine wpAny_holding (wpAny_bind ?_)
  unfold bindSpecial
  refine wpAny_bind (wpAny_typeOf (T := "function") ⟨_, hfI₁, hfc⟩ ?_)
  rw [if_pos (by decide)]
  refine wpAny_pure (wpAny_bind (wpAny_mono hq (fun r s' hr => ?_) fun _ _ x => x))
  obtain ⟨rfl, hQ⟩ := hr
  wp_walk
  exact hQ

theorem se_call (F : ExcBaseFacts B newId inN bmN) (hB : (Value.ref C :: bm).contains (.type B) = true) (hA : (Value.ref C :: bm).contains (.type "AttributeError") = false) (hN : (Value.ref C :: bm).contains (.type "NameError") = false)
    {mN : Str → Option Value} {rest : List Value} {fI : Addr} {oI : Obj} {Q : Value → Shared → Prop}
    (hC : h.get? C = some (excClassObj nm q C N bs bm hdct sn sub ab col dd k0 k1 k2 k3 k5 newId)) (hn : h.Ns N mN) (hi : mN "__init__" = some (.ref fI))
    (hfI : h.get? fI = some oI) (hfc : oI.cls = .type "function")
    (hq : wpAny (model prog w) (A.under (.builtin "type.__call__" ⟨.ref C :: rest, []⟩)) (call (.ref fI) (.ref (h.objs.size + 1) :: rest)) (fun r s' => r = .none ∧ Q (.ref (h.objs.size + 1)) s') E
      ⟨(h.push { cls := .type "tuple", data := .seq rest.toArray }).push { cls := .ref C, data := .fields #[.ref h.objs.size, .none, .none, .none, .bool false, .none] }, g, d, t, os⟩) (hrest : rest.length ≤ sizeLine) :
    wpAny (model prog w) A (call (.ref C) rest) Q E ⟨h, g, d, t, os⟩ := by
  have f1 := tc_lookup
  have f2 := tc_bind (.ref C)
  have hT : (⟨h, g, d, t, os⟩ : Shared).TypeIs (.ref C) "type" := ⟨_, hC, rfl⟩
  refine wpAny_call (codeAny_of_tree ?_)
  show wpAny _ _ (callAny (.ref C) _) _ _ _
  repeat (any_goals (first | assumption | with_reducible refine wpAny_loadPart_at hC ?_ | wp_step))
  refine ⟨rfl, ?_⟩
  refine codeAny_call_builtin_at (Code.quiet_builtin _ (by decide +kernel)) entry_typeCall (wpAny_check_type_call_sub hC (se_typeCall F hB hA hN hC hn hi hfI hfc ?_ hrest))
  exact hq
theorem se_checkInit {M : Model} {inId : String} {bmX : List Value} (F : ExcBaseFacts B newId inId bmX) (hB : (Value.ref C :: bm).contains (.type B) = true) {e : Addr} {oe : Obj} {rest : List Value} {Q : Unit → Shared → Prop}
    {nwId : String} (hC : h.get? C = some (excClassObj nm q C N bs bm hdct sn sub ab col dd k0 k1 k2 k3 k5 nwId)) (he : h.get? e = some oe) (hcls : oe.cls = .ref C) (hq : Q () ⟨h, g, d, t, os⟩) :
    wpAny M A (checkBuiltinCall inId ⟨.ref e :: rest, []⟩) Q E ⟨h, g, d, t, os⟩ := by
  have hshort := F.noStar
  simp only [checkBuiltinCall, F.initKind, F.initSplit, F.initRow]
  repeat (first | (with_reducible refine wpAny_loadPart_at he ?_; rw [hcls]) | with_reducible refine wpAny_loadPart_at hC ?_ | (with_reducible refine wpAny_isSubtype_exc hC ?_; rw [hB]) | wp_step)
  refine wpAny_onRaise ?_
  rw [show ∀ (a b : String) (n : Nat), Bind.check ⟨.positional, "*", B, .self, [⟨"args", .varPos, false⟩]⟩ a b n (List.map (fun x => x.fst) ({ pos := Value.ref e :: rest } : Args).kw) = pure () from
    fun a b n => check_star_args _ _ _ _ _ _]
  exact wpAny_pure hq
end
section
variable {M : Model} {A : Around} {E : Value → Shared → Prop} {env : Env}
variable {nm q : Str} {C N : Addr} {bs bm : List Value} {hdct : Bool} {sn : List Str} {sub : List Value} {ab : Bool} {col : Option Bool} {dd : Option Addr} {k0 k1 k2 k3 k5 : Option Value} {newId : String}
theorem se_raiseStmt {s : Shared} {x : Sem Value} {Q : Flow → Shared → Prop} (hbase : (Value.ref C :: bm).contains (.type "BaseException") = true) (hh : A.handled = none)
    (h : wpAny M A x (fun v s₁ => ∃ e od t, v = .ref e ∧ s₁.heap.get? C = some (excClassObj nm q C N bs bm hdct sn sub ab col dd k0 k1 k2 k3 k5 newId) ∧
      s₁.heap.get? e = some { cls := .ref C, dict := od, data := .fields #[.ref t, .none, .none, .none, .bool false, .none] } ∧ E (.ref e) s₁) E s) :
    wpAny M A (raiseStmt env (some x) none) Q E s := by
  unfold raiseStmt
  refine wpAny_bind (wpAny_mono h (fun v s₁ h₁ => ?_) fun _ _ x => x)
  obtain ⟨e, od, t, rfl, hC, he, hE⟩ := h₁
  obtain ⟨hp, g, d, tk, os⟩ := s₁
  repeat (first | with_reducible refine wpAny_loadPart_at he ?_ | with_reducible refine wpAny_loadPart_at hC ?_ | (with_reducible refine wpAny_isSubtype_exc hC ?_; rw [hbase]) | wp_step)
  exact wpAny_raiseNew_none hh hE
end
end Mine

end P16
section P142
open PySem PySem.W PySem.Calls PyProof.Rows Builtin Builtin.ObjectAttr
set_option Elab.async false
set_option maxRecDepth 100000
namespace Mine

abbrev excObj (C : Addr) (d : Option Addr) (t : Addr) : Obj := { cls := .ref C, dict := d, data := .fields #[.ref t, .none, .none, .none, .bool false, .none] }
abbrev tupObj (vs : List Value) : Obj := { cls := .type "tuple", data := .seq vs.toArray }

section
variable {prog : Program} {w : World} {A : Around} {K : Frag} {C x : Addr} {s : Shared} {h₀ : Heap} {L : Addr} {m : Str → Option Value} {news : List (Addr × Obj)} {R : Result → Shared → Prop} {E : Value → Shared → Prop}

theorem se_open {ox : Obj} {od : Option Obj} {name : Str} {tk : Tok} {v : Value} {cd : ClassData} (X : K.In s.heap) (I : W.InstAt s.heap x ox C od) (hc : clsIn K C = some cd) (hm : mroIn K C (.type "object") = some true)
    (hpass : refuseLoop (.ref x) "__setattr__" cd.mro = pure ()) (ha : findIn K (.ref C) name = some none)
    (h : wpAny (model prog w) A.in1 (storeInOwnDict (.ref x) (.ref C) (.str name tk) name v false)
      (fun fin s' => match fin with | .done f => R (.ok f) s' | .again c' => c'.quiet = true ∧ codeAny (model prog w) A c' R s') (fun e s' => R (.error e) s') s) :
    codeAny (model prog w) A (.call (.builtin "object.__setattr__") ⟨[.ref x, .str name tk, v], []⟩) R s := by
  have SF := PySem.F.store_object
  have sub : Looks (model prog w) s.heap (isInstance (.ref x) (.type "object")) true := I.type.andThen (looks_mroIn X hm)
  refine codeAny_call_builtin SF.slot.plain SF.entry (@check_slot (model prog w) _ _ s "object.__setattr__" "object" "__setattr__" (.ref x) [.str name tk, v] [] _ SF.kind SF.split sub (SF.args (.ref x) (.str name tk) v) ?_)
  have hm' : Looks (model prog w) s.heap (mroOf (.ref C)) cd.mro := (looks_clsIn X hc).andThen .now
  rw [osa_eq, refuse_eq]
  refine wpAny_bind (wpAny_bind (I.type.here (wpAny_bind (hm'.here ?_))))
  rw [hpass]
  refine wpAny_pure (wpAny_bind (I.type.here (wpAny_bind ((looks_findIn X ha).here ?_))))
  exact wpAny_bind (wpAny_pure h)

/-- the first attribute of an exception's: its dict is made -/
theorem se_code1 {name : Str} {tk : Tok} {v : Value} {cd : ClassData} {t : Addr} {news' : Addr → List (Addr × Obj)} (F : Fr h₀ L s.heap m) (X₀ : K.In h₀) (N : News h₀ L s.heap news)
    (hx : (x, excObj C none t) ∈ news) (hc : clsIn K C = some cd) (hcd : cd.hasDict = true) (hm : mroIn K C (.type "object") = some true)
    (hpass : ∀ self, refuseLoop self "__setattr__" cd.mro = pure ()) (ha : findIn K (.ref C) name = some none)
    (U : ∀ d, Upd x (excObj C none t) (excObj C (some d) t) news (news' d))
    (h : ∀ d h', Fr h₀ L h' m → News h₀ L h' ((d, dictOf [⟨PyData.keyHash w.params name, .str name s.toks, v⟩] 1) :: news' d) → (∀ p ∈ news, p.1 < d) → R (.ok (.ret .none)) { s with heap := h', toks := s.toks + 1 }) :
    codeAny (model prog w) A (.call (.builtin "object.__setattr__") ⟨[.ref x, .str name tk, v], []⟩) R s := by
  have X := X₀.keeps F.keep
  have hX : s.heap.get? x = some (excObj C none t) := (N _ hx).1
  have I : W.InstAt s.heap x (excObj C none t) C none := ⟨hX, rfl, rfl, trivial⟩
  refine se_open X I hc hm (hpass _) ha ?_
  refine wpAny_bind (wpAny_pure (wpAny_bind (wpAny_bind (wpAny_loadPart hX (wpAny_bind ((looks_clsIn X hc).here ?_))))))
  rw [hcd]
  have hlt : ∀ p ∈ news, p.1 < s.heap.objs.size := fun p hp => Heap.lt_size (N p hp).1
  have F1 := F.push { cls := .type "dict", data := .dict #[] }
  have N1 := N.push F { cls := .type "dict", data := .dict #[] }
  obtain ⟨pre, post, e1, e2, a, b⟩ := (U s.heap.objs.size).split
  have hxd : s.heap.objs.size ≠ x := Nat.ne_of_gt (hlt _ hx)
  rw [e1] at N1
  have N1' : News h₀ L (s.heap.push { cls := .type "dict", data := .dict #[] }) (((s.heap.objs.size, { cls := .type "dict", data := .dict #[] }) :: pre) ++ (x, excObj C none t) :: post) := N1
  obtain ⟨F2, N2⟩ := news_upd (f := fun o => { o with dict := some s.heap.objs.size }) (o' := excObj C (some s.heap.objs.size) t) F1 N1' (fun p hp => by
    rcases List.mem_cons.mp hp with rfl | hp
    · exact hxd
    · exact a p hp) b rfl rfl
  have hl2 : ∀ p ∈ pre ++ (x, excObj C (some s.heap.objs.size) t) :: post, p.1 ≠ s.heap.objs.size := fun p hp => by
    have : p.1 ∈ news.map (·.1) := by
      rw [e1]
      simp only [List.map_append, List.map_cons, List.mem_append, List.mem_cons, List.mem_map] at hp ⊢
      rcases hp with hp | hp | hp
      · exact .inl ⟨p, hp, rfl⟩
      · exact .inr (.inl (by rw [hp]))
      · exact .inr (.inr ⟨p, hp, rfl⟩)
    obtain ⟨q, hq, hqe⟩ := List.mem_map.mp this
    rw [← hqe]
    exact Nat.ne_of_lt (hlt q hq)
  have N2' : News h₀ L ((s.heap.push { cls := .type "dict", data := .dict #[] }).update x fun o => { o with dict := some s.heap.objs.size }) ([] ++ (s.heap.objs.size, dictOf [] 0) :: (pre ++ (x, excObj C (some s.heap.objs.size) t) :: post)) := N2
  obtain ⟨F3, N3⟩ := news_upd (f := Obj.putName name (PyData.keyHash w.params name) (.str name s.toks) v) (o' := dictOf [⟨PyData.keyHash w.params name, .str name s.toks, v⟩] 1) F2 N2' (fun _ hp => nomatch hp) hl2 (by rw [putName_dict]; rfl) rfl
  have D := (N2' (s.heap.objs.size, dictOf [] 0) (List.Mem.head _)).1
  have D3 := (N3 (s.heap.objs.size, dictOf [⟨PyData.keyHash w.params name, .str name s.toks, v⟩] 1) (List.Mem.head _)).1
  have hx1 := (N1' (x, excObj C none t) (by simp)).1
  refine wpAny_bind (wpAny_alloc ?_)
  refine wpAny_bind (wpAny_update hx1 ?_)
  refine wpAny_pure (a := some s.heap.objs.size) (wpAny_bind (wpAny_pure (wpAny_bind ?_)))
  unfold nsSet
  refine wpAny_bind (wpAny_bind (wpAny_askSetting (wpAny_pure (wpAny_bind (wpAny_mkText (wpAny_bind (wpAny_loadPart D ?_)))))))
  dsimp only
  rw [aRefKeyMayBeTheName_at, if_neg (by simp)]
  refine wpAny_updatePart D ?_
  refine wpAny_bind (wpAny_lookBehind D3 rfl ?_)
  refine wpAny_pure (h _ _ F3 ?_ hlt)
  rw [e2]
  exact N3

theorem se_set1 {name : Str} {v : Value} {cd : ClassData} {t : Addr} {news' : Addr → List (Addr × Obj)} {Q : Unit → Shared → Prop} (F : Fr h₀ L s.heap m) (X₀ : K.In h₀) (N : News h₀ L s.heap news)
    (hx : (x, excObj C none t) ∈ news) (hc : clsIn K C = some cd) (hcd : cd.hasDict = true) (hm : mroIn K C (.type "object") = some true)
    (hpass : ∀ self, refuseLoop self "__setattr__" cd.mro = pure ()) (hs : findIn K (.ref C) "__setattr__" = some (some (.builtin "object.__setattr__"))) (ha : findIn K (.ref C) name = some none)
    (U : ∀ d, Upd x (excObj C none t) (excObj C (some d) t) news (news' d))
    (h : ∀ d h', Fr h₀ L h' m → News h₀ L h' ((d, dictOf [⟨PyData.keyHash w.params name, .str name (s.toks + 1), v⟩] 1) :: news' d) → (∀ p ∈ news, p.1 < d) → Q () { s with heap := h', toks := s.toks + 2 }) :
    wpAny (model prog w) A (setAttr (.ref x) name v) Q E s := by
  have hX : s.heap.get? x = some (excObj C none t) := (N _ hx).1
  have I : W.InstAt s.heap x (excObj C none t) C none := ⟨hX, rfl, rfl, trivial⟩
  exact set_plain (X₀.keeps F.keep) I hs (se_code1 (s := { s with toks := s.toks + 1 }) F X₀ N hx hc hcd hm hpass ha U fun d h' F' N' l => h d h' F' N' l)

/-- a further attribute of an exception's -/
theorem se_code2 {name : Str} {tk : Tok} {v : Value} {cd : ClassData} {t d : Addr} {es es' : List DictEntry} {n n' : Nat} {news' : List (Addr × Obj)} (F : Fr h₀ L s.heap m) (X₀ : K.In h₀) (N : News h₀ L s.heap news)
    (hx : (x, excObj C (some d) t) ∈ news) (hc : clsIn K C = some cd) (hcd : cd.hasDict = true) (hm : mroIn K C (.type "object") = some true)
    (hpass : ∀ self, refuseLoop self "__setattr__" cd.mro = pure ()) (ha : findIn K (.ref C) name = some none) (hl : (getL name es).isSome = true)
    (e : (putL name (PyData.keyHash w.params name) (.str name s.toks) v es, putN name es n) = (es', n')) (U : Upd d (dictOf es n) (dictOf es' n') news news') (hz : es'.length ≤ 1000)
    (h : ∀ h', Fr h₀ L h' m → News h₀ L h' news' → R (.ok (.ret .none)) { s with heap := h', toks := s.toks + 1 }) :
    codeAny (model prog w) A (.call (.builtin "object.__setattr__") ⟨[.ref x, .str name tk, v], []⟩) R s := by
  have X := X₀.keeps F.keep
  obtain ⟨pre, post, rfl, rfl, a, b⟩ := U.split
  obtain ⟨e1, e2⟩ := Prod.mk.inj e
  have hX : s.heap.get? x = some (excObj C (some d) t) := (N _ hx).1
  have D : s.heap.get? d = some (dictOf es n) := (N (d, dictOf es n) (by simp)).1
  have I : W.InstAt s.heap x (excObj C (some d) t) C (some (dictOf es n)) := ⟨hX, rfl, rfl, D⟩
  refine se_open X I hc hm (hpass _) ha ?_
  refine wpAny_bind (wpAny_pure (wpAny_bind (wpAny_bind (wpAny_loadPart hX (wpAny_bind ((looks_clsIn X hc).here ?_))))))
  rw [hcd]
  obtain ⟨F3, N3⟩ := news_upd (f := Obj.putName name (PyData.keyHash w.params name) (.str name s.toks) v) (o' := dictOf es' n') F N a b (by rw [putName_dict, e1, e2]) rfl
  have D3 : (s.heap.update d (Obj.putName name (PyData.keyHash w.params name) (.str name s.toks) v)).get? d = some (dictOf es' n') := (N3 (d, dictOf es' n') (by simp)).1
  refine wpAny_pure (a := some d) (wpAny_bind (wpAny_pure (wpAny_bind ?_)))
  unfold nsSet
  refine wpAny_bind (wpAny_bind (wpAny_askSetting (wpAny_pure (wpAny_bind (wpAny_mkText (wpAny_bind (wpAny_loadPart D ?_)))))))
  dsimp only
  have c : (!es.toArray.any (·.key.isStr name) && es.toArray.any (·.refKey)) = false := by
    unfold getL at hl
    rw [← Array.any_toList, ← Array.any_toList]
    split at hl
    · rename_i en he
      rw [List.any_eq_true.mpr ⟨en, List.mem_of_find?_eq_some he, List.find?_some he⟩]; rfl
    · split at hl
      · cases hl
      · rename_i z; rw [Bool.not_eq_true] at z; rw [z, Bool.and_false]
  rw [aRefKeyMayBeTheName_at, c, if_neg (by simp)]
  refine wpAny_updatePart D ?_
  refine wpAny_bind (wpAny_lookBehind D3 (pastItsLine_dict (by rw [List.size_toArray, sizeLine_eq]; omega)) ?_)
  exact wpAny_pure (h _ F3 N3)

theorem se_set2 {name : Str} {v : Value} {cd : ClassData} {t d : Addr} {es es' : List DictEntry} {n n' : Nat} {news' : List (Addr × Obj)} {Q : Unit → Shared → Prop} (F : Fr h₀ L s.heap m) (X₀ : K.In h₀) (N : News h₀ L s.heap news)
    (hx : (x, excObj C (some d) t) ∈ news) (hdm : (d, dictOf es n) ∈ news) (hc : clsIn K C = some cd) (hcd : cd.hasDict = true) (hm : mroIn K C (.type "object") = some true)
    (hpass : ∀ self, refuseLoop self "__setattr__" cd.mro = pure ()) (hs : findIn K (.ref C) "__setattr__" = some (some (.builtin "object.__setattr__"))) (ha : findIn K (.ref C) name = some none) (hl : (getL name es).isSome = true)
    (e : (putL name (PyData.keyHash w.params name) (.str name (s.toks + 1)) v es, putN name es n) = (es', n')) (U : Upd d (dictOf es n) (dictOf es' n') news news') (hz : es'.length ≤ 1000)
    (h : ∀ h', Fr h₀ L h' m → News h₀ L h' news' → Q () { s with heap := h', toks := s.toks + 2 }) :
    wpAny (model prog w) A (setAttr (.ref x) name v) Q E s := by
  have hX : s.heap.get? x = some (excObj C (some d) t) := (N _ hx).1
  have D : s.heap.get? d = some (dictOf es n) := (N (d, dictOf es n) hdm).1
  have I : W.InstAt s.heap x (excObj C (some d) t) C (some (dictOf es n)) := ⟨hX, rfl, rfl, D⟩
  exact set_plain (X₀.keeps F.keep) I hs (se_code2 (s := { s with toks := s.toks + 1 }) F X₀ N hx hc hcd hm hpass ha hl e U hz fun h' F' N' => h h' F' N')

/-- Exception.__init__(e, msg) -/
theorem se_bInit {v : Value} {od : Option Addr} {t : Addr} {news' : Addr → List (Addr × Obj)} {Q : Value → Shared → Prop} (F : Fr h₀ L s.heap m) (X₀ : K.In h₀) (N : News h₀ L s.heap news)
    (hx : (x, excObj C od t) ∈ news) {nm q : Str} {NS : Addr} {bs bm : List Value} {hdct : Bool} {sn : List Str} {sub : List Value} {ab : Bool} {col : Option Bool} {dd : Option Addr} {k0 k1 k2 k3 k5 : Option Value} {nwId : String}
    (hC : K.lookup C = some (excClassObj nm q C NS bs bm hdct sn sub ab col dd k0 k1 k2 k3 k5 nwId)) (hB : (Value.ref C :: bm).contains (.type "Exception") = true)
    (U : ∀ t', Upd x (excObj C od t) (excObj C od t') news (news' t'))
    (h : ∀ t' h', Fr h₀ L h' m → News h₀ L h' ((t', tupObj [v]) :: news' t') → (∀ p ∈ news, p.1 < t') → Q .none { s with heap := h' }) :
    wpAny (model prog w) A (call (.builtin "Exception.__init__") [.ref x, v]) Q E s := by
  have X := X₀.keeps F.keep
  have FB := PySem.F.excBase_Exception
  have hX : s.heap.get? x = some (excObj C od t) := (N _ hx).1
  refine wpAny_call (codeAny_call_builtin FB.init.plain FB.initEntry (se_checkInit FB hB (X _ _ hC) hX rfl ?_))
  have hlt : ∀ p ∈ news, p.1 < s.heap.objs.size := fun p hp => Heap.lt_size (N p hp).1
  have F1 := F.push (tupObj [v])
  have N1 := N.push F (tupObj [v])
  obtain ⟨pre, post, e1, e2, a, b⟩ := (U s.heap.objs.size).split
  have hxd : s.heap.objs.size ≠ x := Nat.ne_of_gt (hlt _ hx)
  rw [e1] at N1
  have N1' : News h₀ L (s.heap.push (tupObj [v])) (((s.heap.objs.size, tupObj [v]) :: pre) ++ (x, excObj C od t) :: post) := N1
  obtain ⟨F2, N2⟩ := news_upd (f := Obj.mapFields (·.setIfInBounds 0 (.ref s.heap.objs.size))) (o' := excObj C od s.heap.objs.size) F1 N1' (fun p hp => by
    rcases List.mem_cons.mp hp with rfl | hp
    · exact hxd
    · exact a p hp) b rfl rfl
  have hx1 : (s.heap.push (tupObj [v])).get? x = some (excObj C od t) := (N1' (x, excObj C od t) (by simp)).1
  unfold Builtin.«BaseException.__init__»
  refine wpAny_bind (wpAny_newTuple ?_ (by rw [sizeLine_eq]; simp))
  unfold BaseException.bexcPut
  refine wpAny_bind (wpAny_bind (wpAny_field hx1 rfl rfl (wpAny_bind (wpAny_setField hx1 rfl (by simp) ?_))))
  refine wpAny_letGo (wpAny_pure ?_)
  refine h _ _ F2 ?_ hlt
  rw [e2]
  exact N2
end
end Mine

end P142
open PySem PySem.W PySem.Spec PySem.Calls PyProof.Rows
set_option Elab.async false
set_option maxRecDepth 100000
namespace Mine
example : PySem.Challenge.rw_pf0380_01 = PySem.Challenge.rw_pf0380_01 ∧ Mine.hd.heap_1 = Mine.hd.heap_1 := by
  k_fill
  w_top off
  exact ⟨rfl, rfl⟩
theorem ite_no {b : Bool} {P Q : Prop} (e : b = false) (h : Q) : if b = true then P else Q := by subst e; exact h
local macro_rules | `(tactic| walk_at $s:str) => if ["CompEnd", "CompRest", "CompSrc", "ForAt", "ForBody", "ForGo", "ForNext", "SeRaised", "binaryOp Add str str", "binaryOp FloorDiv int int", "binaryOp Mod int int", "binaryOp Mod str int", "binaryOp Mult int int", "call builtin:Exception.__init__", "call builtin:sorted", "call builtin:str.split", "call builtin:tuple.index", "call ref", "call type:dict", "call type:enumerate", "compareOp In ref ref", "compareOp NotIn ref ref", "compareOp NotIn str ref", "eval ListComp", "exec Assign cons ListComp", "exec For Name Call cons nil", "exec For Tuple Call cons nil", "exec For Tuple Tuple cons nil", "exec Raise some none", "getItem ref int", "getMethod ref", "getMethod type:Exception", "ite", "leaving ref", "letOwnedTupleGo", "newList", "pyIter ref", "pyNext ref", "setAttr ref", "subscriptTail", "subscriptTail Name Name ref int", "testChain"].contains s.getString then `(tactic| k_extra $s) else Lean.Macro.throwUnsupported
example : True := by
  k_with "ite" => (k_here; (with_reducible show (if (!_) = true then _ else _)); (with_reducible refine' ite_no ?itb ?_); (case itb => k_dflt decide))
  trivial
local macro_rules | `(tactic| k_in) => `(tactic| k_extra "w k_in")

example : True := by
  k_with "w k_in" => (refine' Frag.In.keeps ?xa (Fr.keep ?xb); (case xb => with_reducible assumption); (case xa => with_reducible assumption))
  trivial
theorem allNe {d : Addr} {l : List (Addr × Obj)} (h : AllLt d l) : ∀ p ∈ l, p.1 ≠ d := fun p hp => Nat.ne_of_lt (ktn_ltOf h p hp)
theorem allLt_le {d d' : Addr} {l : List (Addr × Obj)} (h : AllLt d l) (hd : @LE.le Nat _ d d') : AllLt d' l := allLt_of fun p hp => Nat.lt_of_lt_of_le (ktn_ltOf h p hp) hd
local macro_rules | `(tactic| k_all) => `(tactic| k_extra "w k_all")

example : True := by
  k_with "w k_all" => first | exact allNe (by assumption) | exact allNe (allLt_le (by assumption) (by (try dsimp only); omega))
  trivial
local macro_rules | `(tactic| k_room) => `(tactic| k_extra "w k_room")
example : True := by
  k_with "w k_room" => ktr_room
  trivial
local macro_rules | `(tactic| ktr_enter) => `(tactic| k_extra "w ktr_enter")

example : True := by
  k_with "w ktr_enter" => (refine' code_def ?k1 ?k2 ?k3 ?k4 ?k5 ?kA ?kF ?kK ?k6 ?k7 ?k8 ?k9 ?kB ?_ ?c2 ?c3 ?c4 ?c5; (case kA => exact rfl); (case kF => exact rfl); (case kK => first | exact rfl | assumption); (case k1 => k_asm); (case k2 => k_asm); (case k3 => k_asm); (case k4 => k_asm); (case k5 => k_asm); (case k6 => k_is); (case k7 => k_is); (case k8 => ktr_room); (case k9 => first | exact BindsTo.of_eq rfl | exact binds_K (by k_in) rfl (by k_is) rfl rfl rfl | fail "ktr_enter: no rule for these arguments"); (case c5 => decide); (case kB => exact locs rfl); (case c2 => exact rfl); (case c3 => exact rfl); (case c4 => exact rfl); k_whole; intro g'w9 L'w9 h'w9 FG'w9 F'w9 N'w9 B'w9 X'w9 T'w9; (try dsimp only); (try k_lift B'w9); (try k_fold))
  trivial
theorem meta_Exception : typeOf (.type "Exception") = pure (.type "type") := by kernel_rfl
theorem se_pass (self : Value) : refuseLoop self "__setattr__" [Value.ref 54, Value.ref 33, Value.type "Exception", Value.type "BaseException", Value.type "object"] = pure () := by
  rw [refuseLoop_ref, refuseLoop_ref]
  exact PySem.F.store_Exception.passes self

example : True := by
  k_with "getMethod type:Exception" => (k_here; refine' method_type ?F ?X ?m (by decide +kernel) ?e ?h ?_; (case F => k_asm); (case X => k_asm); (case m => exact meta_Exception); (case e => k_dflt k_is); (case h => k_handed))
  k_with "call builtin:Exception.__init__" => (k_here; k_dflt (refine' se_bInit ?k1 ?k2 ?k3 ?k4 ?k5 ?k6 ?k7 ?_; (case k1 => k_asm); (case k2 => k_asm); (case k3 => k_asm); (case k4 => k_mem); (case k5 => k_is); (case k6 => decide); (case k7 => intro t'w9; k_upd)); intro t'w9 h'w9 F'w9 N'w9 l1w9; (try k_lt l1w9); (try k_sweep))
  k_with "setAttr ref" => (k_here; k_dflt (refine' se_set1 ?k1 ?k2 ?k3 ?k4 ?k5 ?k6 ?k7 ?k8 ?k9 ?k10 ?k11 ?_; (case k1 => k_asm); (case k2 => k_asm); (case k3 => k_asm); (case k4 => k_mem); (case k5 => k_is); (case k6 => rfl); (case k7 => k_is); (case k8 => exact se_pass); (case k9 => k_is); (case k10 => k_is); (case k11 => intro t'w9; k_upd)); intro t'w9 h'w9 F'w9 N'w9 l1w9; (try k_lt l1w9); (try k_sweep))
  k_with "setAttr ref" => (k_here; k_dflt (refine' se_set2 ?k1 ?k2 ?k3 ?k4 ?kd ?k5 ?k6 ?k7 ?k8 ?k9 ?k10 ?k11 ?k12 ?k13 ?k14 ?_; (case k1 => k_asm); (case k2 => k_asm); (case k3 => k_asm); (case k4 => k_mem); (case kd => k_mem); (case k5 => k_is); (case k6 => rfl); (case k7 => k_is); (case k8 => exact se_pass); (case k9 => k_is); (case k10 => k_is); (case k11 => k_get); (case k12 => k_put); (case k13 => k_upd); (case k14 => exact Nat.le_of_ble_eq_true rfl)); intro h'w9 F'w9 N'w9; (try k_sweep))
  trivial
theorem ns_some_of {K : Frag} {h : Heap} {N : Addr} {mN : Str → Option Value} {n : Str} {v : Value} (X : K.In h) (G : h.Ns N mN) (e : nsIn K N n = some (some v)) : mN n = some v := by
  obtain ⟨o, es, ep, ho, hd, _, hf⟩ := G
  unfold nsIn at e
  split at e
  · rename_i c d es' n' sl q
    have q' := X _ _ q
    rw [ho] at q'
    cases q'
    cases hd
    split at e
    · rename_i en he
      cases e
      rw [← hf]
      unfold nsFind findBy
      rw [← Array.find?_toList, he]
      rfl
    · split at e <;> cases e
  · cases e
section
variable {prog : Program} {w : World} {dp un : Nat} {gd : Option (List Code)} {cn : Str} {cs : Scope} {a : Addr} {ccd : Value} {outer : List Env} {A₀ : Around} {base h₀ : Heap} {L : Addr} {m : Str → Option Value} {news : List (Addr × Obj)} {s : Shared}
    {E : Value → Shared → Prop} {p : Program} {loose : List Str} {mean : ExcName → Option Value} {mg mb : Str → Option Value} {msg : Str} {tm : Tok}

set_option maxHeartbeats 4000000 in
theorem se_walk {Q : Value → Shared → Prop} {t e : Addr} (B : Below A₀ base outer h₀) (F : Fr h₀ L s.heap m) (X : (Mine.hd.heap_1 w.params).In h₀) (N : News h₀ L s.heap ((e, excObj 54 none t) :: (t, tupObj [.str msg tm]) :: news)) (T : Top p loose mean mg mb h₀) (hk : cs.kind = .function)
    (hd : dp + 3 < recursionLimit) (hlt : AllLt t news) (hte : @LT.lt Nat _ t e)
    (hret : ∀ t' d od h' tk', Fr h₀ L h' m → News h₀ L h' ((d, od) :: (t', tupObj [.str msg tm]) :: (e, excObj 54 (some d) t') :: (t, tupObj [.str msg tm]) :: news) → @LT.lt Nat _ e t' → Q .none { s with heap := h', toks := tk' }) :
    wpAny (model prog w) ((ktrTop dp un gd cn cs L a ccd [] outer).under (.builtin "type.__call__" ⟨[.ref 54, .str msg tm], []⟩)) (call (.ref 51) [.ref e, .str msg tm]) Q E s := by
  refine wpAny_call ?_
  k_dflt ktr_enter
  k_steps
  exact hret _ _ _ _ _ (by assumption) (by assumption) (by omega)

/-- SettingError(msg): the object that is made, on the ledger -/
theorem se_make {Q : Value → Shared → Prop} (B : Below A₀ base outer h₀) (F : Fr h₀ L s.heap m) (X : (Mine.hd.heap_1 w.params).In h₀) (N : News h₀ L s.heap news) (T : Top p loose mean mg mb h₀) (hk : cs.kind = .function)
    (hd : dp + 3 < recursionLimit)
    (hret : ∀ e t d h' tk', Fr h₀ L h' m → News h₀ L h' ((t, tupObj [.str msg tm]) :: (e, excObj 54 (some d) t) :: news) → (∀ q ∈ news, q.1 < e) → @LT.lt Nat _ e t → Q (.ref e) { s with heap := h', toks := tk' }) :
    wpAny (model prog w) (ktrTop dp un gd cn cs L a ccd [] outer) (call (.ref 54) [.str msg tm]) Q E s := by
  have X' := X.keeps F.keep
  have hlt : ∀ q ∈ news, q.1 < s.heap.objs.size := fun q hq => Heap.lt_size (N q hq).1
  have hN : s.heap.Ns 53 (s.heap.nsMap 53) := .of_isNs (isNs_of_in X' (by kernel_rfl))
  refine se_call (bm := [Value.ref 33, Value.type "Exception", Value.type "BaseException", Value.type "object"]) PySem.F.excBase_Exception (by decide) (by decide) (by decide) (X' 54 _ (by k_is)) hN (ns_some_of X' hN (by k_is)) (X' 51 _ (by k_is)) rfl ?_ (by rw [sizeLine_eq]; simp)
  have F1 := F.push (tupObj [.str msg tm])
  have N1 := N.push F (tupObj [.str msg tm])
  have F2 := F1.push (excObj 54 none s.heap.objs.size)
  have N2 := N1.push F1 (excObj 54 none s.heap.objs.size)
  rw [Heap.size_push] at N2
  refine se_walk (s := { s with heap := _ }) B F2 X N2 T hk hd (allLt_of hlt) (Nat.lt_succ_self _) fun t' d od h' tk' F' N' l => ⟨rfl, ?_⟩
  refine hret _ t' d h' tk' F' (fun q hq => N' q ?_) (fun q hq => Nat.lt_succ_of_lt (hlt q hq)) l
  rcases List.mem_cons.mp hq with rfl | hq
  · exact .tail _ (.head _)
  · rcases List.mem_cons.mp hq with rfl | hq
    · exact .tail _ (.tail _ (.head _))
    · exact .tail _ (.tail _ (.tail _ (.tail _ hq)))
end

def SeRaised (w : World) (E : Value → Shared → Prop) (v : Value) (s₁ : Shared) : Prop :=
  ∃ e t d, v = .ref e ∧ (Mine.hd.heap_1 w.params).In s₁.heap ∧ s₁.heap.get? e = some (excObj 54 (some d) t) ∧ E (.ref e) s₁

section
variable {prog : Program} {w : World} {A : Around} {E : Value → Shared → Prop} {s : Shared} {env : Env}
theorem se_Raise {x : Expr} {pos : Pos} {Q : Flow → Shared → Prop} (hh : A.handled = none)
    (h : wpAny (model prog w) A (eval x env) (SeRaised w E) E s) :
    wpAny (model prog w) A (exec (.Raise (some x) none pos) env) Q E s := by
  rw [arm_exec_Raise]
  simp only [evalOpt, Option.map]
  refine' wpAny_bind (wpAny_standAt (se_raiseStmt (C := 54) (bm := [Value.ref 33, Value.type "Exception", Value.type "BaseException", Value.type "object"]) (by decide) hh (wpAny_bind (wpAny_mono h (fun v s₁ h₁ => ?h1) fun _ _ z => z))))
  case h1 =>
    refine wpAny_bind (wpAny_standAt (wpAny_pure ?_))
    obtain ⟨e, t, d, rfl, X, he, hE⟩ := h₁
    exact ⟨e, some d, t, rfl, X 54 _ (by k_is), he, hE⟩
end

section
variable {M : Model} {A : Around} {E : Value → Shared → Prop} {s' : Shared} {base g h : Heap} {outer : List Env} {L a e t C : Addr} {m : Str → Option Value} {name : Str} {scope : Scope} {cd : Value} {Q : Unit → Shared → Prop} {news : List (Addr × Obj)}
theorem se_leave {vs : List Value} {od : Option Addr} (K : Below A base outer g) (F : Fr g L s'.heap m) (N : News g L s'.heap ((t, tupObj vs) :: (e, excObj C od t) :: news)) (hlt : AllLt e news) (het : @LT.lt Nat _ e t)
    (hQ : ∀ h', RaisedS base g outer e (.ref C) t vs news h' → RaisedK base outer e (.ref C) t vs news h' → g.UpToSlots h' → Q () { s' with heap := h' }) (hk : scope.kind = .function := by rfl) :
    wpAny M (A.deeper (envOf name scope L a cd)) (leaving (envOf name scope L a cd) (.ref e)) Q E s' := by
  have K' := K.push (name := name) (a := a) (cd := cd) F hk
  have he : s'.heap.get? e = some (excObj C od t) := (N (e, excObj C od t) (.tail _ (.head _))).1
  have ht : s'.heap.get? t = some (tupObj vs) := (N (t, tupObj vs) (.head _)).1
  have ge : g.get? e = none := (N (e, excObj C od t) (.tail _ (.head _))).2.2
  have gt : g.get? t = none := (N (t, tupObj vs) (.head _)).2.2
  have hin : ∀ env ∈ (envOf name scope L a cd :: outer), ∀ b, env.frame = some b → b ∈ e :: t :: (envOf name scope L a cd :: outer).filterMap (·.frame) := fun env he b hb => .tail _ (.tail _ (List.mem_filterMap.mpr ⟨env, he, hb⟩))
  have mem : ∀ {b : Addr}, b ∈ e :: t :: (envOf name scope L a cd :: outer).filterMap (·.frame) → b = e ∨ b = t ∨ b ∈ (envOf name scope L a cd :: outer).filterMap (·.frame) := fun hb => by simpa only [List.mem_cons] using hb
  have be : base.get? e = none := kts_none K.stays ge
  have bt : base.get? t = none := kts_none K.stays gt
  have st : base.StaysIn (hideAll s'.heap (e :: t :: (envOf name scope L a cd :: outer).filterMap (·.frame))) := fun b o q => hideAll_get _ (K'.stays b o q) fun hm => by
    rcases mem hm with rfl | rfl | hm
    · rw [be] at q; cases q
    · rw [bt] at q; cases q
    · rw [(K'.frames.mem hm).1] at q; cases q
  have sg : ∀ b o, g.get? b = some o → b ∉ outer.filterMap (·.frame) → (hideAll s'.heap (e :: t :: (envOf name scope L a cd :: outer).filterMap (·.frame))).get? b = some o := fun b o q nm => hideAll_get _ (F.keep b o q) fun hm => by
    rcases mem hm with rfl | rfl | hm
    · rw [ge] at q; cases q
    · rw [gt] at q; cases q
    · rcases kts_mem hm with z | z
      · rw [z, kts_self F] at q
        cases q
      · exact nm z
  have hl : ∀ q ∈ news, (hideAll s'.heap (e :: t :: (envOf name scope L a cd :: outer).filterMap (·.frame))).get? q.1 = some q.2 ∧ g.get? q.1 = none ∧ base.get? q.1 = none := fun q hq => by
    have P := N q (.tail _ (.tail _ hq))
    refine ⟨hideAll_get _ P.1 fun hm => ?_, P.2.2, fresh_of_stays K.stays P.2.2⟩
    have lq := ktn_ltOf hlt q hq
    rcases mem hm with z | z | hm
    · exact absurd z (Nat.ne_of_lt lq)
    · exact absurd z (Nat.ne_of_lt (Nat.lt_trans lq het))
    · obtain ⟨env, hen, hf⟩ := List.mem_filterMap.mp hm
      rcases List.mem_cons.mp hen with rfl | hen
      · exact P.2.1 (Option.some.inj hf).symm
      · obtain ⟨o, ho, _⟩ := (K.frames.mem (List.mem_filterMap.mpr ⟨env, hen, hf⟩)).2
        rw [P.2.2] at ho; cases ho
  have hn : ∀ {b : Addr}, b ∈ e :: t :: (envOf name scope L a cd :: outer).filterMap (·.frame) → (hideAll s'.heap (e :: t :: (envOf name scope L a cd :: outer).filterMap (·.frame))).get? b = none := fun hb => hideAll_none _ hb
  refine wpAny_leaving_firstW (a0 := .ref t) K'.stack (funFrames_hide K'.frames hin) rfl he (fun b o hb => of_hideAll _ hb) (hn (.head _)) rfl rfl rfl fun h' hL => ?_
  obtain ⟨k1, ⟨_, _, k2⟩, k3, k4⟩ := hL
  have R : RaisedS base g outer e (.ref C) t vs news h' := ⟨⟨_, st, sg, hl, ⟨k1, hn (.head _), k2, k3⟩, hn (.tail _ (.head _))⟩, Heap.TupAt.of_slots ⟨_, _, ht, rfl, rfl⟩ k4⟩
  exact hQ h' R R.toK ((Heap.UpToSlots.of_keeps F.keep).trans k4)
end

-- M4body.txt

-- lines 3
example : True := by
  k_with "exec Raise some none" => (k_here; k_dflt (refine' se_Raise ?h ?_; (case h => exact rfl)))
  k_with "call ref" => (k_here; (with_reducible show wpAny _ _ (call (Value.ref 54) [Value.str _ _]) _ _ _); k_dflt (refine' se_make ?k1 ?k2 ?k3 ?k4 ?k5 ?k6 ?k7 ?_; (case k1 => k_asm); (case k2 => k_asm); (case k3 => k_asm); (case k4 => k_asm); (case k5 => k_asm); (case k6 => first | exact rfl | assumption); (case k7 => ktr_room)); intro e'w9 t'w9 d'w9 h'w9 tk'w9 F'w9 N'w9 l1w9 l2w9; (replace l1w9 := allLt_of l1w9); (have l1bw9 := l1w9); (try simp only [AllLt, and_true] at l1bw9); (try k_lt2 l2w9); (try k_sweep))
  k_with "SeRaised" => (refine' ⟨_, _, _, rfl, ?X, ?m, ?_⟩; (case X => k_in); (case m => exact News.get (by k_asm) (by k_mem)))
  k_with "leaving ref" => (k_here; k_dflt (refine' se_leave ?k1 ?k2 ?k3 ?k4 ?k5 ?_; (case k2 => k_asm); (case k1 => k_asm); (case k3 => k_asm); (case k4 => first | assumption | (simp only [AllLt, and_true]; omega)); (case k5 => omega)); intro h'w9 R'w9 R2'w9 U'w9; (try dsimp only at R'w9 R2'w9 U'w9 ⊢))
  trivial
/-- a sign's figure, or none -/
def sgn (y : Str) (c : Nat) : Option Int := if (Builtin.Str.occurrences y ⟨#[c]⟩ 0 y.length 1).isEmpty then none else some (Txt.find y ⟨#[c]⟩)
def figStep (y : Str) (acc : Option Int) (c : Int) : Option Int := acc.bind fun n => (sgn y c.toNat).map fun i => (y.length : Int) * n + i
def figL (y : Str) (l : List Int) : Option Int := l.foldl (figStep y) (some 0)
def figs (y x : Str) : Option Int := if x == Str.ofString "" then none else if (20 : Int) < (x.length : Int) then none else figL y (KStt.codes x)
theorem figStep_none (y : Str) : ∀ l : List Int, l.foldl (figStep y) none = none
  | [] => rfl
  | _ :: r => figStep_none y r
theorem figL_snoc {y : Str} {pre : List Int} {f : Int} {n : Nat} (h : figL y pre = some f) (ho : (Builtin.Str.occurrences y ⟨#[n]⟩ 0 y.length 1).isEmpty = false) : figL y (pre ++ [(n : Int)]) = some ((y.length : Int) * f + Txt.find y ⟨#[n]⟩) := by
  unfold figL at h ⊢
  rw [List.foldl_append, h]
  show (sgn y (n : Int).toNat).map _ = _
  rw [Int.toNat_natCast]
  unfold sgn
  rw [ho]
  rfl
theorem figL_bad {y : Str} {pre post : List Int} {n : Nat} (ho : (Builtin.Str.occurrences y ⟨#[n]⟩ 0 y.length 1).isEmpty = true) : figL y (pre ++ (n : Int) :: post) = none := by
  unfold figL
  rw [List.foldl_append, List.foldl_cons]
  have : figStep y (pre.foldl (figStep y) (some 0)) (n : Int) = none := by
    generalize pre.foldl (figStep y) (some 0) = acc
    cases acc with
    | none => rfl
    | some v =>
      show (sgn y (n : Int).toNat).map _ = _
      rw [Int.toNat_natCast]
      unfold sgn
      rw [ho]
      rfl
  rw [this, figStep_none]
theorem figs_e1 {y x : Str} (h : (x == Str.ofString "") = true) : figs y x = none := by unfold figs; rw [h]; rfl
theorem figs_e2 {y x : Str} (h : (20 : Int) < (x.length : Int)) : figs y x = none := by unfold figs; split <;> simp [h]
theorem figs_e3 {y x : Str} {pre post : List Int} {n : Nat} (he : KStt.codes x = pre ++ (n : Int) :: post) (ho : (Builtin.Str.occurrences y ⟨#[n]⟩ 0 y.length 1).isEmpty = true) : figs y x = none := by
  unfold figs
  rw [he, figL_bad ho]
  split
  · rfl
  · split <;> rfl
theorem figs_ok {y x : Str} {f : Int} (h1 : (x == Str.ofString "") = false) (h2 : ¬ (20 : Int) < (x.length : Int)) (h : figL y (KStt.codes x) = some f) : figs y x = some f := by
  unfold figs
  rw [h1, if_neg (by decide), if_neg h2, h]

theorem raisedS_mono {base G : Heap} {l : List Env} {e t : Addr} {cls : Value} {vs : List Value} {news news' : List (Addr × Obj)} {h : Heap} (R : RaisedS base G l e cls t vs news' h) (hs : ∀ p ∈ news, p ∈ news') : RaisedS base G l e cls t vs news h := by
  obtain ⟨⟨B, hB, hBG, hl, hfl, hnew⟩, htup⟩ := R
  exact ⟨⟨B, hB, hBG, fun q hq => hl q (hs q hq), hfl, hnew⟩, htup⟩

section
variable {prog : Program} {w : World} {dp un : Nat} {gd : Option (List Code)} {cn : Str} {cs : Scope} {a : Addr} {ccd : Value} {outer : List Env} {A₀ : Around} {base h₀ : Heap} {L : Addr} {m : Str → Option Value} {news : List (Addr × Obj)} {s : Shared}
    {E : Value → Shared → Prop} {p : Program} {loose : List Str} {mean : ExcName → Option Value} {mg mb : Str → Option Value}

/-- what a raising call leaves behind in its caller's frame -/
abbrev RaisedTo (dp un : Nat) (gd : Option (List Code)) (cn : Str) (cs : Scope) (L a : Addr) (ccd : Value) (outer : List Env) (base h₀ : Heap) (m : Str → Option Value) (news : List (Addr × Obj)) (s : Shared) (E : Value → Shared → Prop) : Prop :=
  ∀ g e t vs h' tk', Fr h₀ L g m → Below (ktrTop dp un gd cn cs L a ccd [] outer) base (envOf cn cs L a ccd :: outer) g → RaisedS base g (envOf cn cs L a ccd :: outer) e (.ref 54) t vs news h' → g.UpToSlots h' → E (.ref e) { s with heap := h', toks := tk' }

set_option maxHeartbeats 8000000 in
theorem con_figs {Q : Value → Shared → Prop} {x y : Str} {tx ty : Tok}
    (B : Below A₀ base outer h₀) (F : Fr h₀ L s.heap m) (X : (Mine.hd.heap_1 w.params).In h₀) (N : News h₀ L s.heap news) (T : Top p loose mean mg mb h₀) (hk : cs.kind = .function)
    (hd : dp + 5 < recursionLimit) (hx : x.length ≤ 1000) (hy : y.length ≤ 20)
    (hret : ∀ f t h' tk', figs y x = some f → Fr h₀ L h' m → News h₀ L h' news → Q (.int f t) { s with heap := h', toks := tk' })
    (hraise : figs y x = none → RaisedTo dp un gd cn cs L a ccd outer base h₀ m news s E) :
    wpAny (model prog w) (ktrTop dp un gd cn cs L a ccd [] outer) (call (.ref 117) [.str x tx, .str y ty]) Q E s := by
  k_with "pyIter str" => k_state (fun pre f => figL y pre = some f) "found"
  k_with "state" => first | exact rfl | exact figL_snoc (by assumption) (by assumption)
  refine wpAny_call ?_
  k_dflt ktr_enter
  k_steps
  all_goals first
    | exact hret _ _ _ _ (figs_ok (by assumption) (by assumption) (by assumption)) (by assumption) (by assumption)
    | exact hraise (figs_e1 (by assumption)) _ _ _ _ _ _ (by assumption) (by assumption) (by assumption) (by assumption)
    | exact hraise (figs_e2 (by assumption)) _ _ _ _ _ _ (by assumption) (by assumption) (by assumption) (by assumption)
    | exact hraise (figs_e3 (by assumption) (by assumption)) _ _ _ _ _ _ (by assumption) (by assumption) (raisedS_mono (by assumption) fun q hq => List.mem_append_left _ hq) (by assumption)
    | (rename _ = true => hA; rename _ = false => hB; rw [hA] at hB; cases hB)
end

-- M5body.txt

-- lines 4
example : True := by
  k_with "call ref" => (k_here; (with_reducible show wpAny _ _ (call (Value.ref 117) [Value.str _ _, Value.str _ _]) _ _ _); k_dflt (refine' con_figs ?k1 ?k2 ?k3 ?k4 ?k5 ?k6 ?k7 ?k8 ?k9 (fun f'w9 t'w9 h'w9 tk'w9 hf'w9 F'w9 N'w9 => ?_) (fun hE'w9 g'w9 e'w9 t'w9 vs'w9 h'w9 tk'w9 G'w9 B'w9 R'w9 U'w9 => ?_); (case k1 => k_asm); (case k2 => k_asm); (case k3 => k_asm); (case k4 => k_asm); (case k5 => k_asm); (case k6 => first | exact rfl | assumption); (case k7 => ktr_room); (case k8 => first | assumption | decide); (case k9 => decide)); all_goals (try k_sweep))
  trivial
section
variable {prog : Program} {w : World} {A : Around} {E : Value → Shared → Prop} {s : Shared} {env : Env} {target : Expr} {body : List Stmt} {Q : Flow → Shared → Prop} {I : Addr}

/-- a loop that stands at its head -/
def ForGo (prog : Program) (w : World) (A : Around) (E : Value → Shared → Prop) (target : Expr) (I : Addr) (body : List Stmt) (env : Env) (Q : Flow → Shared → Prop) (s : Shared) : Prop :=
  codeAny (model prog w) A (.forLoop target (.ref I) body [] env) (fun r s' => match r with | .ok f => Q f s' | .error e => cameBackBy (model prog w) A env E e s') s
def ForBody (prog : Program) (w : World) (A : Around) (E : Value → Shared → Prop) (target : Expr) (I : Addr) (body : List Stmt) (env : Env) (Q : Flow → Shared → Prop) (f : Flow) (s : Shared) : Prop := match f with
  | .next | .cont => ForGo prog w A E target I body env Q s
  | .brk => Q .next s
  | .ret v => Q (.ret v) s
def ForNext (prog : Program) (w : World) (A : Around) (E : Value → Shared → Prop) (target : Expr) (I : Addr) (body : List Stmt) (env : Env) (Q : Flow → Shared → Prop) (r : Option Value) (s : Shared) : Prop := match r with
  | none => Q .next s
  | some v => wpAny (model prog w) A (letOwnedTupleGo target (.ref I) v) (fun _ s₁ => wpAny (model prog w) A (assign target env v) (fun _ s₂ =>
      wpAny (model prog w) A (execs body env) (ForBody prog w A E target I body env Q) E s₂) E s₁) E s
def ForAt (prog : Program) (w : World) (A : Around) (E : Value → Shared → Prop) (target : Expr) (body : List Stmt) (env : Env) (Q : Flow → Shared → Prop) (it : Value) (s : Shared) : Prop :=
  ∃ I, it = .ref I ∧ ForGo prog w A E target I body env Q s

theorem for_enter {iter : Expr} {pos : Pos} (h : wpAny (model prog w) A (eval iter env) (fun xv s₁ => wpAny (model prog w) A (pyIter xv) (ForAt prog w A E target body env Q) E s₁) E s)
    (hs : ∀ x, foldedSetIterable iter env x = pure x) : wpAny (model prog w) A (exec (.For target iter body [] pos) env) Q E s := by
  refine wpAny_For (wpAny_mono h (fun xv s₁ h₁ => wpAny_mono h₁ (fun it s₂ h₂ => ?_) fun _ _ e => e) fun _ _ e => e) hs
  obtain ⟨I, rfl, h₂⟩ := h₂
  exact h₂

theorem for_turn (hE : PassesOwn (model prog w) A env E) (h : wpAny (model prog w) A (pyNext (.ref I)) (ForNext prog w A E target I body env Q) E s) : ForGo prog w A E target I body env Q s := by
  refine codeAny_of_tree ?_
  show wpAny _ A ((forTurn target (.ref I) body [] env).onRaise (fun x => do noteFrame x env; theTreesLotGoes x)) _ _ s
  refine wpAny_noted ?_
  simp only [forTurn]
  have P : ∀ {α : Type} {t : Sem α} {Q' : α → Shared → Prop} {s' : Shared}, wpAny (model prog w) A t Q' E s' → wpAny (model prog w) A t Q' (notedBy (model prog w) A env fun e s' => cameBackBy (model prog w) A env E e s') s' := fun h => wpAny_passesOwn hE h
  refine wpAny_bind (wpAny_standAt (wpAny_bind (wpAny_onRaise (wpAny_mono (P h) (fun r s₁ h₁ => ?_) fun _ _ h' => wpAny_standAt h'))))
  cases r with
  | none => exact wpAny_pure ⟨rfl, codeAny_block (wpAny_pure h₁)⟩
  | some v =>
    refine wpAny_bind (wpAny_mono (P h₁) (fun _ s₁' h₁' => ?_) fun _ _ h' => h')
    refine wpAny_bind (wpAny_mono (P h₁') (fun _ s₂ h₂ => wpAny_bind (wpAny_mono (P h₂) (fun f s₃ h₃ => ?_) fun _ _ h' => h')) fun _ _ h' => h')
    cases f with
    | next => exact wpAny_pure ⟨rfl, h₃⟩
    | cont => exact wpAny_pure ⟨rfl, h₃⟩
    | brk => exact wpAny_pure h₃
    | ret v => exact wpAny_pure h₃
end

abbrev itO (n : String) (l : Addr) (i : Nat) (d : Option Addr) (sl : Array (Option Value)) : Obj := { cls := .type n, dict := d, data := .fields #[.ref l, .int i 0], slots := sl }

section
variable {prog : Program} {w : World} {A : Around} {E : Value → Shared → Prop} {s : Shared} {h₀ : Heap} {L : Addr} {m : Str → Option Value} {news : List (Addr × Obj)}
theorem same_upd {h h' : Heap} {d : Addr} {o o' : Obj} {news' : List (Addr × Obj)} (F : Fr h₀ L h m) (N : News h₀ L h news) (U : Upd d o o' news news') (hs : Heap.SameBut d h h') (ho : h'.get? d = some o') : Fr h₀ L h' m ∧ News h₀ L h' news' := by
  obtain ⟨pre, post, rfl, rfl, a, b⟩ := U.split
  have D := N (d, o) (by simp)
  refine ⟨⟨?_, fun x y q => (hs.2 x fun z => ?_).trans (F.keep x y q), F.above⟩, fun p hp => ?_⟩
  · obtain ⟨oL, es, ep, hL, r⟩ := F.ns
    exact ⟨oL, es, ep, (hs.2 L (Ne.symm D.2.1)).trans hL, r⟩
  · have := D.2.2; rw [← z, q] at this; cases this
  · rcases List.mem_append.mp hp with q | q
    · have P := N p (List.mem_append_left _ q); exact ⟨(hs.2 p.1 (a p q)).trans P.1, P.2⟩
    · rcases List.mem_cons.mp q with rfl | q
      · exact ⟨ho, D.2⟩
      · have P := N p (List.mem_append_right _ (.tail _ q)); exact ⟨(hs.2 p.1 (b p q)).trans P.1, P.2⟩
inductive Drop (d : Addr) : List (Addr × Obj) → List (Addr × Obj) → Prop
  | head {o : Obj} {r : List (Addr × Obj)} : (∀ p ∈ r, p.1 ≠ d) → Drop d ((d, o) :: r) r
  | tail {p : Addr × Obj} {r r' : List (Addr × Obj)} : p.1 ≠ d → Drop d r r' → Drop d (p :: r) (p :: r')
theorem Drop.sub {d : Addr} {l l' : List (Addr × Obj)} (D : Drop d l l') : ∀ p ∈ l', p ∈ l ∧ p.1 ≠ d := by
  induction D with
  | head h => exact fun p hp => ⟨.tail _ hp, h p hp⟩
  | tail h _ ih =>
    intro p hp
    rcases List.mem_cons.mp hp with rfl | hp
    · exact ⟨.head _, h⟩
    · exact ⟨.tail _ (ih p hp).1, (ih p hp).2⟩
theorem ext_drop {h h' : Heap} {d : Addr} {o : Obj} {news' : List (Addr × Obj)} (F : Fr h₀ L h m) (N : News h₀ L h news) (hd : (d, o) ∈ news) (U : Drop d news news') (hs : Heap.ExtBut d h h') : Fr h₀ L h' m ∧ News h₀ L h' news' := by
  have D := N (d, o) hd
  refine ⟨⟨?_, fun x y q => hs x y (fun z => ?_) (F.keep x y q), F.above⟩, fun p hp => ?_⟩
  · obtain ⟨oL, es, ep, hL, r⟩ := F.ns
    exact ⟨oL, es, ep, hs L oL (Ne.symm D.2.1) hL, r⟩
  · have := D.2.2; rw [← z, q] at this; cases this
  · obtain ⟨q, hne⟩ := U.sub p hp
    have P := N p q
    exact ⟨hs p.1 p.2 hne P.1, P.2⟩

theorem iter_tuple_K {t : Addr} {vs : List Value} {n : Nat} {Q : Value → Shared → Prop} (F : Fr h₀ L s.heap m) (N : News h₀ L s.heap news) (ht : (t, { cls := .type "tuple", data := .seq vs.toArray n }) ∈ news)
    (h : ∀ I h', Fr h₀ L h' m → News h₀ L h' ((I, itO "tuple_iterator" t 0 none #[]) :: news) → (∀ p ∈ news, p.1 < I) → Q (.ref I) { s with heap := h' }) : wpAny (model prog w) A (pyIter (.ref t)) Q E s :=
  wpAny_pyIter_tuple ⟨_, (N _ ht).1, rfl, n, rfl⟩ (h _ _ (F.push _) (N.push F _) fun p hp => Heap.lt_size (N p hp).1)

theorem next_tuple_K {t it : Addr} {vs : List Value} {n i : Nat} {x : Value} {d : Option Addr} {sl : Array (Option Value)} {news' : Option Addr → Array (Option Value) → List (Addr × Obj)} {Q : Option Value → Shared → Prop} (F : Fr h₀ L s.heap m) (N : News h₀ L s.heap news)
    (hit : (it, itO "tuple_iterator" t i d sl) ∈ news) (ht : (t, { cls := .type "tuple", data := .seq vs.toArray n }) ∈ news) (hx : vs[i]? = some x)
    (U : ∀ d' sl', Upd it (itO "tuple_iterator" t i d sl) (itO "tuple_iterator" t (i + 1) d' sl') news (news' d' sl'))
    (h : ∀ d' sl' h', Fr h₀ L h' m → News h₀ L h' (news' d' sl') → Q (some x) { s with heap := h' }) : wpAny (model prog w) A (pyNext (.ref it)) Q E s := by
  refine wpAny_pyNext_tuple_item (i := i) ⟨_, (N _ hit).1, rfl, rfl⟩ ⟨_, (N _ ht).1, rfl, n, rfl⟩ (by simpa using hx) fun h' hi hs => ?_
  obtain ⟨⟨c, d', dt, sl'⟩, ho, hc, hd⟩ := hi
  dsimp only at hc hd
  subst hc hd
  obtain ⟨F', N'⟩ := same_upd F N (U d' sl') hs ho
  exact h d' sl' h' F' N'
theorem end_tuple_K {t it : Addr} {vs : List Value} {n i : Nat} {d : Option Addr} {sl : Array (Option Value)} {news' : List (Addr × Obj)} {Q : Option Value → Shared → Prop} (hh : A.handled = none) (F : Fr h₀ L s.heap m) (N : News h₀ L s.heap news)
    (hit : (it, itO "tuple_iterator" t i d sl) ∈ news) (ht : (t, { cls := .type "tuple", data := .seq vs.toArray n }) ∈ news) (hx : vs[i]? = none)
    (U : Drop it news news')
    (h : ∀ h', Fr h₀ L h' m → News h₀ L h' news' → Q none { s with heap := h' }) : wpAny (model prog w) A (pyNext (.ref it)) Q E s := by
  refine wpAny_pyNext_tuple_end (i := i) hh ⟨_, (N _ hit).1, rfl, rfl⟩ ⟨_, (N _ ht).1, rfl, n, rfl⟩ (by simpa using hx) fun h' hs => ?_
  obtain ⟨F', N'⟩ := ext_drop F N hit U hs
  exact h h' F' N'
abbrev rngO (a b c : Int) (t u v : Tok) : Obj := { cls := .type "range", dict := none, data := .fields #[.int a t, .int b u, .int c v], slots := #[] }
abbrev rngI (x left step : Int) : Obj := { cls := .type "range_iterator", dict := none, data := .fields #[rawInt x, rawInt left, rawInt step], slots := #[] }
theorem iter_range_K {r : Addr} {a b c : Int} {t u v : Tok} {Q : Value → Shared → Prop} (F : Fr h₀ L s.heap m) (N : News h₀ L s.heap news) (hr : IsRange s.heap r a b c t u v) (hsmall : Builtin.Range.small a b c = true)
    (h : ∀ I h', Fr h₀ L h' m → News h₀ L h' ((I, rngI a (Builtin.Range.rangeSize a b c) c) :: news) → (∀ p ∈ news, p.1 < I) → Q (.ref I) { s with heap := h' }) : wpAny (model prog w) A (pyIter (.ref r)) Q E s :=
  wpAny_pyIter_range hr hsmall (h _ _ (F.push _) (N.push F _) fun p hp => Heap.lt_size (N p hp).1)
theorem next_range_K {it : Addr} {x left step : Int} {news' : List (Addr × Obj)} {Q : Option Value → Shared → Prop} (F : Fr h₀ L s.heap m) (N : News h₀ L s.heap news) (hit : (it, rngI x left step) ∈ news) (hleft : 0 < left)
    (U : Upd it (rngI x left step) (rngI (x + step) (left - 1) step) news news')
    (h : ∀ h', Fr h₀ L h' m → News h₀ L h' news' → Q (some (.int x s.toks)) { s with heap := h', toks := s.toks + 1 }) : wpAny (model prog w) A (pyNext (.ref it)) Q E s :=
  wpAny_pyNext_range_item (N _ hit).1 hleft fun h' hi hs => by
    obtain ⟨F', N'⟩ := same_upd F N U hs hi
    exact h h' F' N'
theorem end_range_K {it : Addr} {x left step : Int} {news' : List (Addr × Obj)} {Q : Option Value → Shared → Prop} (hh : A.handled = none) (F : Fr h₀ L s.heap m) (N : News h₀ L s.heap news) (hit : (it, rngI x left step) ∈ news) (hleft : left ≤ 0)
    (U : Drop it news news') (h : ∀ h', Fr h₀ L h' m → News h₀ L h' news' → Q none { s with heap := h' }) : wpAny (model prog w) A (pyNext (.ref it)) Q E s :=
  wpAny_pyNext_range_end hh (N _ hit).1 hleft fun h' hs => by
    obtain ⟨F', N'⟩ := ext_drop F N hit U hs
    exact h h' F' N'
theorem iter_list_K {t : Addr} {vs : List Value} {n : Nat} {Q : Value → Shared → Prop} (F : Fr h₀ L s.heap m) (N : News h₀ L s.heap news) (ht : (t, { cls := .type "list", data := .seq vs.toArray n }) ∈ news)
    (h : ∀ I h', Fr h₀ L h' m → News h₀ L h' ((I, itO "list_iterator" t 0 none #[]) :: news) → (∀ p ∈ news, p.1 < I) → Q (.ref I) { s with heap := h' }) : wpAny (model prog w) A (pyIter (.ref t)) Q E s :=
  wpAny_pyIter_list ⟨_, (N _ ht).1, rfl, n, rfl⟩ (h _ _ (F.push _) (N.push F _) fun p hp => Heap.lt_size (N p hp).1)
theorem next_list_K {t it : Addr} {vs : List Value} {n i : Nat} {x : Value} {d : Option Addr} {sl : Array (Option Value)} {news' : Option Addr → Array (Option Value) → List (Addr × Obj)} {Q : Option Value → Shared → Prop} (F : Fr h₀ L s.heap m) (N : News h₀ L s.heap news)
    (hit : (it, itO "list_iterator" t i d sl) ∈ news) (ht : (t, { cls := .type "list", data := .seq vs.toArray n }) ∈ news) (hx : vs[i]? = some x)
    (U : ∀ d' sl', Upd it (itO "list_iterator" t i d sl) (itO "list_iterator" t (i + 1) d' sl') news (news' d' sl'))
    (h : ∀ d' sl' h', Fr h₀ L h' m → News h₀ L h' (news' d' sl') → Q (some x) { s with heap := h' }) : wpAny (model prog w) A (pyNext (.ref it)) Q E s := by
  refine wpAny_pyNext_list_item (i := i) ⟨_, (N _ hit).1, rfl, rfl⟩ ⟨_, (N _ ht).1, rfl, n, rfl⟩ (by simpa using hx) fun h' hi hs => ?_
  obtain ⟨⟨c, d', dt, sl'⟩, ho, hc, hd⟩ := hi
  dsimp only at hc hd
  subst hc hd
  obtain ⟨F', N'⟩ := same_upd F N (U d' sl') hs ho
  exact h d' sl' h' F' N'
theorem end_list_K {t it : Addr} {vs : List Value} {n i : Nat} {d : Option Addr} {sl : Array (Option Value)} {news' : List (Addr × Obj)} {Q : Option Value → Shared → Prop} (hh : A.handled = none) (F : Fr h₀ L s.heap m) (N : News h₀ L s.heap news)
    (hit : (it, itO "list_iterator" t i d sl) ∈ news) (ht : (t, { cls := .type "list", data := .seq vs.toArray n }) ∈ news) (hx : vs[i]? = none)
    (U : Drop it news news')
    (h : ∀ h', Fr h₀ L h' m → News h₀ L h' news' → Q none { s with heap := h' }) : wpAny (model prog w) A (pyNext (.ref it)) Q E s := by
  refine wpAny_pyNext_list_end (i := i) hh ⟨_, (N _ hit).1, rfl, rfl⟩ ⟨_, (N _ ht).1, rfl, n, rfl⟩ (by simpa using hx) fun h' hs => ?_
  obtain ⟨F', N'⟩ := ext_drop F N hit U hs
  exact h h' F' N'
theorem let_name_K {x : Str} {pos : Pos} {I v : Value} {Q : Unit → Shared → Prop} (h : Q () s) : wpAny (model prog w) A (letOwnedTupleGo (.Name x pos) I v) Q E s := wpAny_pure h
theorem let_iter_K {elts : List Expr} {x1 : Nat} {pos : Pos} {n : String} {I l : Addr} {v : Value} {i : Nat} {d : Option Addr} {sl : Array (Option Value)} {Q : Unit → Shared → Prop} (N : News h₀ L s.heap news) (hit : (I, itO n l i d sl) ∈ news)
    (hn : (["enumerate", "zip", "dict_itemiterator", "dict_reverseitemiterator", "odict_iterator", "itertools.zip_longest", "itertools.pairwise"].contains n) = false) (h : Q () s) :
    wpAny (model prog w) A (letOwnedTupleGo (.Tuple elts x1 pos) (.ref I) v) Q E s := by
  unfold letOwnedTupleGo
  dsimp only
  split
  · rename_i heq
    cases heq
    refine wpAny_bind (wpAny_load (N _ hit).1 ?_)
    dsimp only
    rw [hn]
    exact wpAny_pure h
  · exact wpAny_pure h
end
theorem line_of_le {n : Nat} (h : n ≤ 1000) : n + 2 ≤ sizeLine := by rw [sizeLine_eq]; omega
theorem split_ne {l : List (Str × Tok)} {x y : Str} (e : l.map (·.1) = Txt.split x y) (h : (Txt.split x y).length ≠ 2) : (strValues l).length ≠ 2 := by rw [← e, List.length_map] at h; simpa [strValues] using h

-- lines 5
local macro_rules | `(tactic| k_upd) => `(tactic| k_extra "w k_upd")
-- lines 6
-- lines 7
-- M6body.txt

example : True := by
  k_with "w k_upd" => first | (refine' Drop.head ?a; (case a => k_all)) | (refine' Drop.tail ?a ?b; (case a => k_ne); (case b => k_upd))
  k_with "exec For Tuple Tuple cons nil" => (k_here; k_dflt (refine' for_enter ?_ ?hs; (case hs => intro _; exact rfl)))
  k_with "exec For Name Call cons nil" => (k_here; k_dflt (refine' for_enter ?_ ?hs; (case hs => intro _; exact rfl)))
  k_with "pyIter ref" => (k_here; (with_reducible show wpAny _ _ (pyIter (Value.ref _)) (ForAt _ _ _ _ _ _ _ _) _ _); k_dflt (first | (refine' iter_tuple_K ?k1 ?k2 ?k3 ?_; (case k1 => k_asm); (case k2 => k_asm); (case k3 => k_mem)) | (refine' iter_list_K ?k1 ?k2 ?k3 ?_; (case k1 => k_asm); (case k2 => k_asm); (case k3 => k_mem)) | (refine' iter_range_K ?k1 ?k2 ?k3 ?k4 ?_; (case k1 => k_asm); (case k2 => k_asm); (case k3 => assumption); (case k4 => decide))); intro I'w9 h'w9 F'w9 N'w9 l1w9; (try k_lt l1w9); (try k_sweep))
  k_with "ForAt" => (refine ⟨_, rfl, ?_⟩)
  k_with "ForGo" => (refine for_turn (by passes_own) ?_)
  k_with "pyNext ref" => (k_here; k_dflt (first | (refine' next_tuple_K ?k1 ?k2 ?k3 ?k4 ?k5 ?k6 ?_; (case k1 => k_asm); (case k2 => k_asm); (case k3 => k_mem); (case k4 => k_mem); (case k5 => exact rfl); (case k6 => intro d'w9 sl'w9; k_upd); intro d'w9 sl'w9 h'w9 F'w9 N'w9; (try k_sweep)) | (refine' end_tuple_K ?k0 ?k1 ?k2 ?k3 ?k4 ?k5 ?k6 ?_; (case k0 => exact rfl); (case k1 => k_asm); (case k2 => k_asm); (case k3 => k_mem); (case k4 => k_mem); (case k5 => exact rfl); (case k6 => k_upd); intro h'w9 F'w9 N'w9; (try k_sweep)) | (refine' next_list_K ?k1 ?k2 ?k3 ?k4 ?k5 ?k6 ?_; (case k1 => k_asm); (case k2 => k_asm); (case k3 => k_mem); (case k4 => k_mem); (case k5 => exact rfl); (case k6 => intro d'w9 sl'w9; k_upd); intro d'w9 sl'w9 h'w9 F'w9 N'w9; (try k_sweep)) | (refine' end_list_K ?k0 ?k1 ?k2 ?k3 ?k4 ?k5 ?k6 ?_; (case k0 => exact rfl); (case k1 => k_asm); (case k2 => k_asm); (case k3 => k_mem); (case k4 => k_mem); (case k5 => exact rfl); (case k6 => k_upd); intro h'w9 F'w9 N'w9; (try k_sweep)) | (refine' next_range_K ?k1 ?k2 ?k3 ?k4 ?k5 ?_; (case k1 => k_asm); (case k2 => k_asm); (case k3 => k_mem); (case k4 => decide); (case k5 => k_upd); intro h'w9 F'w9 N'w9; (try k_sweep)) | (refine' end_range_K ?k0 ?k1 ?k2 ?k3 ?k4 ?k5 ?_; (case k0 => exact rfl); (case k1 => k_asm); (case k2 => k_asm); (case k3 => k_mem); (case k4 => decide); (case k5 => k_upd); intro h'w9 F'w9 N'w9; (try k_sweep))))
  k_with "ForNext" => (dsimp only [ForNext])
  k_with "ForBody" => (dsimp only [ForBody])
  k_with "letOwnedTupleGo" => (k_here; k_dflt (first | (refine' let_name_K ?_; k_whole) | (refine' let_iter_K ?k1 ?k2 ?k3 ?_; (case k1 => k_asm); (case k2 => k_mem); (case k3 => decide))))
  k_with "call builtin:str.split" => (k_here; (with_reducible show wpAny _ _ (call (Value.builtin "str.split") [Value.str _ _, Value.str _ _]) _ _ _); k_dflt (refine' KSpl.split1 ?k1 ?k2 ?k3 ?_ ?k4; (case k1 => k_asm); (case k2 => k_asm); (case k3 => decide); (case k4 => exact line_of_le (by assumption))); intro D'w9 l'w9 h'w9 k'w9 e'w9 a'w9 F'w9 N'w9 l1w9; (try k_lt l1w9); first | ((replace e'w9 := e'w9.trans (by assumption)); (kspl_open e'w9); (simp only [strValues, List.map_cons, List.map_nil] at N'w9 a'w9); (try k_sweep)) | ((have hlen'w9 := split_ne e'w9 (by assumption)); (try k_sweep)))
  k_with "leaving ref" => (k_here; k_dflt (refine' leave_onS ?k1 ?k2 ?k3 ?k4 ?_; (case k3 => assumption); (case k2 => assumption); (case k1 => assumption); (case k4 => assumption)); intro h'w9 S'w9 R'w9 U'w9; (try dsimp only at S'w9 R'w9 U'w9 ⊢))
  trivial
theorem news_head {h₀ h : Heap} {L : Addr} {q : Addr × Obj} {r r' : List (Addr × Obj)} (N : News h₀ L h (q :: r')) (hs : ∀ p ∈ r, p ∈ r') : News h₀ L h (q :: r) := fun p hp => N p ((List.mem_cons.mp hp).elim (fun e => e ▸ .head _) fun hp => .tail _ (hs p hp))
section
variable {prog : Program} {w : World} {dp un : Nat} {gd : Option (List Code)} {cn : Str} {cs : Scope} {a : Addr} {ccd : Value} {outer : List Env} {A₀ : Around} {base h₀ : Heap} {L : Addr} {m : Str → Option Value} {news : List (Addr × Obj)} {s : Shared}
    {E : Value → Shared → Prop} {p : Program} {loose : List Str} {mean : ExcName → Option Value} {mg mb : Str → Option Value}

set_option maxHeartbeats 8000000 in
theorem wishM {Q : Value → Shared → Prop} {x p1 p2 : Str} {tx : Tok}
    (B : Below A₀ base outer h₀) (F : Fr h₀ L s.heap m) (X : (Mine.hd.heap_1 w.params).In h₀) (N : News h₀ L s.heap news) (T : Top p loose mean mg mb h₀) (hk : cs.kind = .function)
    (hd : dp + 7 < recursionLimit) (hx : x.length ≤ 1000) (h1 : p1.length ≤ 1000) (h2 : p2.length ≤ 1000) (hs : Txt.split x (Str.ofString "/") = [p1, p2])
    (hret : ∀ f1 f2 t1 t2 t3 D h' tk', figs (Str.ofString "0123456789abcdef") p1 = some f1 → figs (Str.ofString "0123456789abcdef") p2 = some f2 → Fr h₀ L h' m →
      News h₀ L h' ((D, tupObj [.str (Str.ofString "mask") t1, .int f1 t2, .int f2 t3]) :: news) → AllLt D news → Q (.ref D) { s with heap := h', toks := tk' })
    (hraise : figs (Str.ofString "0123456789abcdef") p1 = none ∨ figs (Str.ofString "0123456789abcdef") p2 = none → RaisedTo dp un gd cn cs L a ccd outer base h₀ m news s E) :
    wpAny (model prog w) (ktrTop dp un gd cn cs L a ccd [] outer) (call (.ref 124) [.str x tx]) Q E s := by
  refine wpAny_call ?_
  k_dflt ktr_enter
  k_steps
  all_goals first
    | exact hret _ _ _ _ _ _ _ _ (by assumption) (by assumption) (by assumption) (news_head (by assumption) fun p hp => by repeat (first | exact hp | refine List.mem_cons_of_mem _ ?_)) (by first | exact allLt_of (by assumption) | (have l1 := (by assumption : _ ∧ _ ∧ _ ∧ _ ∧ _ ∧ _ ∧ AllLt _ news); exact l1.2.2.2.2.2.2) | (have l1 := (by assumption : _ ∧ _ ∧ _ ∧ _ ∧ _ ∧ AllLt _ news); exact l1.2.2.2.2.2))
    | exact hraise (.inr (by assumption)) _ _ _ _ _ _ (by assumption) (by assumption) (raisedS_mono (by assumption) fun p hp => by repeat (first | exact hp | refine List.mem_cons_of_mem _ ?_)) (by assumption)
    | exact hraise (.inl (by assumption)) _ _ _ _ _ _ (by assumption) (by assumption) (raisedS_mono (by assumption) fun p hp => by repeat (first | exact hp | refine List.mem_cons_of_mem _ ?_)) (by assumption)
    | (exfalso; omega)
    | w_report

set_option maxHeartbeats 8000000 in
theorem wishR {Q : Value → Shared → Prop} {x p1 p2 : Str} {tx : Tok}
    (B : Below A₀ base outer h₀) (F : Fr h₀ L s.heap m) (X : (Mine.hd.heap_1 w.params).In h₀) (N : News h₀ L s.heap news) (T : Top p loose mean mg mb h₀) (hk : cs.kind = .function)
    (hd : dp + 7 < recursionLimit) (hx : x.length ≤ 1000) (h1 : p1.length ≤ 1000) (h2 : p2.length ≤ 1000) (hn : (Txt.split x (Str.ofString "/")).length ≠ 2) (hs : Txt.split x (Str.ofString "-") = [p1, p2])
    (hret : ∀ f1 f2 t1 t2 t3 D h' tk', figs (Str.ofString "0123456789") p1 = some f1 → figs (Str.ofString "0123456789") p2 = some f2 → Fr h₀ L h' m →
      News h₀ L h' ((D, tupObj [.str (Str.ofString "range") t1, .int f1 t2, .int f2 t3]) :: news) → AllLt D news → Q (.ref D) { s with heap := h', toks := tk' })
    (hraise : figs (Str.ofString "0123456789") p1 = none ∨ figs (Str.ofString "0123456789") p2 = none → RaisedTo dp un gd cn cs L a ccd outer base h₀ m news s E) :
    wpAny (model prog w) (ktrTop dp un gd cn cs L a ccd [] outer) (call (.ref 124) [.str x tx]) Q E s := by
  refine wpAny_call ?_
  k_dflt ktr_enter
  k_steps
  all_goals first
    | exact hret _ _ _ _ _ _ _ _ (by assumption) (by assumption) (by assumption) (news_head (by assumption) fun p hp => by repeat (first | exact hp | refine List.mem_cons_of_mem _ ?_)) (by first | exact allLt_of (by assumption) | (have l1 := (by assumption : _ ∧ _ ∧ _ ∧ _ ∧ _ ∧ _ ∧ AllLt _ news); exact l1.2.2.2.2.2.2) | (have l1 := (by assumption : _ ∧ _ ∧ _ ∧ _ ∧ _ ∧ AllLt _ news); exact l1.2.2.2.2.2))
    | exact hraise (.inr (by assumption)) _ _ _ _ _ _ (by assumption) (by assumption) (raisedS_mono (by assumption) fun p hp => by repeat (first | exact hp | refine List.mem_cons_of_mem _ ?_)) (by assumption)
    | exact hraise (.inl (by assumption)) _ _ _ _ _ _ (by assumption) (by assumption) (raisedS_mono (by assumption) fun p hp => by repeat (first | exact hp | refine List.mem_cons_of_mem _ ?_)) (by assumption)
    | (exfalso; omega)
    | w_report

set_option maxHeartbeats 8000000 in
theorem wishN {Q : Value → Shared → Prop} {x : Str} {tx : Tok}
    (B : Below A₀ base outer h₀) (F : Fr h₀ L s.heap m) (X : (Mine.hd.heap_1 w.params).In h₀) (N : News h₀ L s.heap news) (T : Top p loose mean mg mb h₀) (hk : cs.kind = .function)
    (hd : dp + 7 < recursionLimit) (hx : x.length ≤ 1000) (hn : (Txt.split x (Str.ofString "/")).length ≠ 2) (hn2 : (Txt.split x (Str.ofString "-")).length ≠ 2)
    (hraise : RaisedTo dp un gd cn cs L a ccd outer base h₀ m news s E) :
    wpAny (model prog w) (ktrTop dp un gd cn cs L a ccd [] outer) (call (.ref 124) [.str x tx]) Q E s := by
  refine wpAny_call ?_
  k_dflt ktr_enter
  k_steps
  all_goals first
    | exact hraise _ _ _ _ _ _ (by assumption) (by assumption) (raisedS_mono (by assumption) fun p hp => by repeat (first | exact hp | refine List.mem_cons_of_mem _ ?_)) (by assumption)
    | (exfalso; omega)
    | w_report
end

-- M7body.txt

theorem isTup_of {h₀ h : Heap} {L t : Addr} {news : List (Addr × Obj)} {vs : Array Value} {n : Nat} (N : News h₀ L h news) (hm : (t, { cls := .type "tuple", data := .seq vs n }) ∈ news) : IsTup h t vs := ⟨_, (N _ hm).1, rfl, n, rfl⟩
/-- what read_wish reads -/
def wishOf (x : Str) : Option (Str × Int × Int) :=
  match Txt.split x (Str.ofString "/") with
  | [p, q] => (figs (Str.ofString "0123456789abcdef") p).bind fun a => (figs (Str.ofString "0123456789abcdef") q).map fun b => (Str.ofString "mask", a, b)
  | _ => match Txt.split x (Str.ofString "-") with
    | [p, q] => (figs (Str.ofString "0123456789") p).bind fun a => (figs (Str.ofString "0123456789") q).map fun b => (Str.ofString "range", a, b)
    | _ => none
theorem two_of {α : Type} {l : List α} (h : l.length = 2) : ∃ p q, l = [p, q] := by
  match l, h with
  | [p, q], _ => exact ⟨p, q, rfl⟩
section
variable {prog : Program} {w : World} {dp un : Nat} {gd : Option (List Code)} {cn : Str} {cs : Scope} {a : Addr} {ccd : Value} {outer : List Env} {A₀ : Around} {base h₀ : Heap} {L : Addr} {m : Str → Option Value} {news : List (Addr × Obj)} {s : Shared}
    {E : Value → Shared → Prop} {p : Program} {loose : List Str} {mean : ExcName → Option Value} {mg mb : Str → Option Value}

theorem con_wish {Q : Value → Shared → Prop} {x : Str} {tx : Tok}
    (B : Below A₀ base outer h₀) (F : Fr h₀ L s.heap m) (X : (Mine.hd.heap_1 w.params).In h₀) (N : News h₀ L s.heap news) (T : Top p loose mean mg mb h₀) (hk : cs.kind = .function)
    (hd : dp + 7 < recursionLimit) (hx : x.length ≤ 1000) (h1 : ∀ p ∈ Txt.split x (Str.ofString "/"), p.length ≤ 1000) (h2 : ∀ p ∈ Txt.split x (Str.ofString "-"), p.length ≤ 1000)
    (hret : ∀ wd f1 f2 t1 t2 t3 D h' tk', wishOf x = some (wd, f1, f2) → Fr h₀ L h' m →
      News h₀ L h' ((D, tupObj [.str wd t1, .int f1 t2, .int f2 t3]) :: news) → AllLt D news → Q (.ref D) { s with heap := h', toks := tk' })
    (hraise : wishOf x = none → RaisedTo dp un gd cn cs L a ccd outer base h₀ m news s E) :
    wpAny (model prog w) (ktrTop dp un gd cn cs L a ccd [] outer) (call (.ref 124) [.str x tx]) Q E s := by
  by_cases e1 : (Txt.split x (Str.ofString "/")).length = 2
  · obtain ⟨p1, p2, e⟩ := two_of e1
    have k1 := h1 p1 (by rw [e]; exact .head _)
    have k2 := h1 p2 (by rw [e]; exact .tail _ (.head _))
    refine wishM B F X N T hk hd hx k1 k2 e (fun f1 f2 t1 t2 t3 D h' tk' a1 a2 F' N' l => hret _ f1 f2 t1 t2 t3 D h' tk' ?_ F' N' l) fun a1 => hraise ?_
    · unfold wishOf; rw [e]; simp [a1, a2]
    · unfold wishOf; rw [e]; rcases a1 with a1 | a1
      · simp [a1]
      · dsimp only; rw [a1]; cases figs (Str.ofString "0123456789abcdef") p1 <;> rfl
  · have no : wishOf x = (match Txt.split x (Str.ofString "-") with
      | [p, q] => (figs (Str.ofString "0123456789") p).bind fun a => (figs (Str.ofString "0123456789") q).map fun b => (Str.ofString "range", a, b)
      | _ => none) := by
      unfold wishOf
      split
      · rename_i e; rw [e] at e1; exact absurd rfl e1
      · rfl
    by_cases e2 : (Txt.split x (Str.ofString "-")).length = 2
    · obtain ⟨p1, p2, e⟩ := two_of e2
      have k1 := h2 p1 (by rw [e]; exact .head _)
      have k2 := h2 p2 (by rw [e]; exact .tail _ (.head _))
      rw [e] at no
      refine wishR B F X N T hk hd hx k1 k2 e1 e (fun f1 f2 t1 t2 t3 D h' tk' a1 a2 F' N' l => hret _ f1 f2 t1 t2 t3 D h' tk' ?_ F' N' l) fun a1 => hraise ?_
      · rw [no]; simp [a1, a2]
      · rw [no]; rcases a1 with a1 | a1
        · simp [a1]
        · dsimp only; rw [a1]; cases figs (Str.ofString "0123456789") p1 <;> rfl
    · refine wishN B F X N T hk hd hx e1 e2 (hraise ?_)
      rw [no]
      split
      · rename_i e; rw [e] at e2; exact absurd rfl e2
      · rfl
end
section
variable {prog : Program} {w : World} {A : Around} {E : Value → Shared → Prop} {s : Shared}
theorem eqBool_lists {a b : Addr} {da db : PyData} {as bs : List Addr} {Q : Bool → Shared → Prop} (hne : a ≠ b) (ra : Reads s.heap (.ref a) da as) (rb : Reads s.heap (.ref b) db bs) (ha : SeqAt.shaped da = true) (hb : SeqAt.shaped db = true) (hu : A.units + 64 < cLine)
    (h : Q (PyData.eqv da db) s) : wpAny (model prog w) A (eqBool (.ref a) (.ref b)) Q E s := by
  unfold eqBool
  refine wpAny_holding ?_
  rw [if_neg (by simpa using hne)]
  refine wpAny_bind ?_
  refine eq_dataH (Q := fun v s' => wpAny (model prog w) A (truthOfDropped v) Q E s') ra rb ha hb hu ?_
  exact wpAny_truthy_bool h

theorem in_two {l l1 l2 t : Addr} {d d1 d2 : PyData} {as as1 as2 : List Addr} {Q : Value → Shared → Prop} (ht : IsTup s.heap t #[.ref l1, .ref l2]) (n1 : l1 ≠ l) (n2 : l2 ≠ l)
    (r : Reads s.heap (.ref l) d as) (r1 : Reads s.heap (.ref l1) d1 as1) (r2 : Reads s.heap (.ref l2) d2 as2) (sh : SeqAt.shaped d = true) (sh1 : SeqAt.shaped d1 = true) (sh2 : SeqAt.shaped d2 = true) (hu : A.units + 80 < cLine) {b : Bool} (eb : (PyData.eqv d1 d || PyData.eqv d2 d) = b)
    (h : Q (.bool b) s) : wpAny (model prog w) A (compareOp .In (.ref l) (.ref t)) Q E s := by
  subst eb
  show wpAny _ _ (do return .bool (← contains (.ref t) (.ref l))) Q E s
  refine wpAny_bind ?_
  unfold contains
  refine wpAny_holding ?_
  refine wpAny_bind (wpAny_specialOf ht.typeIs slot_tuple_contains.lookup ?_)
  rw [if_neg (by decide)]
  refine wpAny_bind (wpAny_callSpecialUnlessNone?_slot (name := Str.ofString "__contains__") ht.typeIs slot_tuple_contains
    (wpAny_call_entry slot_tuple_contains ht.typeIs entry_tuple_contains ?_ (args_tuple_contains _ _)))
  have hu1 : (A.in1).units + 64 < cLine := by rw [units_in1]; omega
  show wpAny _ _ (Builtin.Tuple.tupleItemsOf (.ref t) >>= _) _ _ s
  refine wpAny_bind (tupleItemsOf_ ht ?_)
  refine wpAny_bind ?_
  rw [← Array.forIn_toList]
  show wpAny _ _ (forIn [Value.ref l1, Value.ref l2] _ _) _ _ s
  rw [List.forIn_cons]
  refine wpAny_bind (wpAny_bind (eqBool_lists n1 r1 r sh1 sh hu1 ?_))
  cases e1 : PyData.eqv d1 d with
  | true =>
    rw [e1] at h
    refine wpAny_bind (wpAny_pure (wpAny_pure (wpAny_pure ?_)))
    exact wpAny_pure ⟨_, rfl, wpAny_truthy_bool (wpAny_pure h)⟩
  | false =>
    rw [e1, Bool.false_or] at h
    refine wpAny_pure ?_
    dsimp only
    rw [List.forIn_cons]
    refine wpAny_bind (wpAny_bind (eqBool_lists n2 r2 r sh2 sh hu1 ?_))
    cases e2 : PyData.eqv d2 d with
    | true =>
      rw [e2] at h
      refine wpAny_bind (wpAny_pure (wpAny_pure (wpAny_pure ?_)))
      exact wpAny_pure ⟨_, rfl, wpAny_truthy_bool (wpAny_pure h)⟩
    | false =>
      rw [e2] at h
      refine wpAny_pure ?_
      dsimp only
      rw [List.forIn_nil]
      refine wpAny_pure ?_
      exact wpAny_pure ⟨_, rfl, wpAny_truthy_bool (wpAny_pure h)⟩
end

-- lines 8
-- M8body.txt

example : True := by
  k_with "call ref" => (k_here; (with_reducible show wpAny _ _ (call (Value.ref 124) [Value.str _ _]) _ _ _); k_dflt (refine' con_wish ?k1 ?k2 ?k3 ?k4 ?k5 ?k6 ?k7 ?k8 ?k9 ?k10 (fun wd'w9 f1'w9 f2'w9 t1'w9 t2'w9 t3'w9 D'w9 h'w9 tk'w9 hf'w9 F'w9 N'w9 l1w9 => ?_) (fun hE'w9 g'w9 e'w9 t'w9 vs'w9 h'w9 tk'w9 G'w9 B'w9 R'w9 U'w9 => ?_); (case k1 => k_asm); (case k2 => k_asm); (case k3 => k_asm); (case k4 => k_asm); (case k5 => k_asm); (case k6 => first | exact rfl | assumption); (case k7 => ktr_room); (case k8 => assumption); (case k9 => assumption); (case k10 => assumption)); all_goals (try simp only [AllLt, and_true] at l1w9); all_goals (try k_sweep))
  k_with "compareOp In ref ref" => (k_here; k_dflt (refine' in_two ?k1 ?k2 ?k3 ?k4 ?k5 ?k6 ?k7 ?k8 ?k9 ?k10 ?k11 ?_; (case k1 => exact isTup_of (by k_asm) (by k_mem)); (case k4 => ked_read); (case k5 => ked_read); (case k6 => ked_read); (case k2 => k_ne); (case k3 => k_ne); (case k7 => first | assumption | decide +kernel | ked_shaped); (case k8 => first | decide +kernel | ked_shaped); (case k9 => first | decide +kernel | ked_shaped); (case k10 => ktr_units); (case k11 => first | assumption | decide +kernel | rfl)))
  k_with "call builtin:str.split" => (k_here; (with_reducible show wpAny _ _ (call (Value.builtin "str.split") [Value.str _ _]) _ _ _); k_dflt (refine' KSpl.split0 ?k1 ?k2 ?_ ?k4; (case k1 => k_asm); (case k2 => k_asm); (case k4 => exact line_of_le (by assumption))); intro D'w9 l'w9 h'w9 k'w9 e'w9 a'w9 F'w9 N'w9 l1w9; (try k_lt l1w9); (replace e'w9 := e'w9.trans (by assumption)); (kspl_open e'w9); (simp only [strValues, List.map_cons, List.map_nil] at N'w9 a'w9); (try k_sweep))
  trivial
section
variable {prog : Program} {w : World} {A : Around} {E : Value → Shared → Prop} {s : Shared}

theorem strsAre_get {vs : List Value} {ys : List Str} (h : StrsAre vs ys) : ∀ {j : Nat} {y : Str}, ys[j]? = some y → ∃ t, vs[j]? = some (.str y t) := by
  induction h with
  | nil => intro j y e; simp at e
  | cons y t _ ih =>
    intro j z e
    cases j with
    | zero =>
      have : y = z := by simpa using e
      subst this
      exact ⟨t, by simp⟩
    | succ j =>
      obtain ⟨u, hu⟩ := ih (by simpa using e)
      exact ⟨u, by simpa using hu⟩

theorem tuple_index_strs {t : Addr} {items : Array Value} {ys : List Str} {x : Str} {u : Tok} {i : Nat} {P : PySem.Fin → Shared → Prop} (ht : IsTup s.heap t items) (hi : StrsAre items.toList ys) (hn : items.size = ys.length)
    (hit : ∃ y, ys[i]? = some y ∧ (y == x) = true) (hno : ∀ j y, j < i → ys[j]? = some y → (y == x) = false)
    (h : P (.done (.ret (.int i s.toks))) { s with toks := s.toks + 1 }) : wpAny (model prog w) A (Builtin.«tuple.index» ⟨[.ref t, .str x u], []⟩) P E s := by
  obtain ⟨y0, hy0, hyx⟩ := hit
  have hlt : i < items.size := by rw [hn]; exact (List.getElem?_eq_some_iff.mp hy0).1
  unfold Builtin.«tuple.index»
  refine wpAny_bind (wpAny_pure ?_)
  refine wpAny_bind (tupleItemsOf_ ht ?_)
  dsimp only
  refine wpAny_bind (wpAny_pure (wpAny_bind (wpAny_pure ?_)))
  rw [Nat.min_self, Std.Legacy.Range.forIn_eq_forIn_range']
  refine wpAny_bind ?_
  refine PySem.wpAny_forIn_list _ (fun rest b s' => b.1 = none ∧ s' = s ∧ ∃ j, rest = List.range' j (items.size - j) ∧ j ≤ i) _ ?_ ?_ _ _ ⟨rfl, rfl, 0, by simp [Std.Legacy.Range.size], Nat.zero_le _⟩
  · rintro j' rest b s' ⟨hb, rfl, j, hr, hj⟩
    have hjs : j < items.size := Nat.lt_of_le_of_lt hj hlt
    obtain ⟨k, hk⟩ : ∃ k, items.size - j = k + 1 := ⟨items.size - j - 1, by omega⟩
    rw [hk, List.range'_succ] at hr
    obtain ⟨rfl, hr⟩ := List.cons.inj hr
    have hyj : ∃ y, ys[j']? = some y := ⟨ys[j']'(by rw [← hn]; exact hjs), List.getElem?_eq_getElem _⟩
    obtain ⟨y, hy⟩ := hyj
    obtain ⟨tk, hv⟩ := strsAre_get hi hy
    have hv' : items[j']? = some (.str y tk) := by simpa using hv
    rw [hv']
    refine wpAny_bind (eqBool_str ?_)
    by_cases e : j' = i
    · subst e
      obtain rfl : y0 = y := Option.some.inj (hy0.symm.trans hy)
      rw [hyx]
      refine wpAny_bind (wpAny_bind (wpAny_mkInt (wpAny_pure ?_)))
      first
        | exact wpAny_pure h
        | exact wpAny_pure (wpAny_pure h)
        | (refine wpAny_pure ?_; trace_state; exact wpAny_pure h)
        | (fail "a goal is left")
    · rw [hno j' y (by omega) hy]
      refine wpAny_pure ⟨rfl, rfl, j' + 1, ?_, by omega⟩
      rw [hr]
      congr 1
      omega
  · rintro ⟨b1, b2⟩ s' ⟨hb, rfl, j, hr, hj⟩
    have : items.size - j = 0 := by
      have := congrArg List.length hr
      simpa using this.symm
    omega
end

def fieldNames : List Str := [Str.ofString "target", Str.ofString "source", Str.ofString "kind", Str.ofString "vlan", Str.ofString "priority", Str.ofString "ip_source", Str.ofString "ip_target", Str.ofString "protocol", Str.ofString "source_port", Str.ofString "target_port"]
def fieldBits : List Nat := [48, 48, 16, 12, 3, 32, 32, 8, 16, 16]
theorem names_apart : ∀ i : Fin 10, ∀ j : Fin 10, j < i → (fieldNames[j]'(j.isLt) == fieldNames[i]'(i.isLt)) = false := by decide +kernel
theorem names_first {i : Nat} {nm : Str} (h : fieldNames[i]? = some nm) : ∀ j y, j < i → fieldNames[j]? = some y → (y == nm) = false := by
  intro j y hj hy
  obtain ⟨hi, e⟩ := List.getElem?_eq_some_iff.mp h
  obtain ⟨hj', e'⟩ := List.getElem?_eq_some_iff.mp hy
  subst e e'
  exact names_apart ⟨i, hi⟩ ⟨j, hj'⟩ hj
theorem names_any {i : Nat} {nm : Str} (h : fieldNames[i]? = some nm) : fieldNames.any (· == nm) = true :=
  List.any_eq_true.mpr ⟨nm, List.mem_of_getElem? h, by simp⟩
theorem names_are : StrsAre [.str (Str.ofString "target") 187, .str (Str.ofString "source") 188, .str (Str.ofString "kind") 189, .str (Str.ofString "vlan") 190, .str (Str.ofString "priority") 191, .str (Str.ofString "ip_source") 192, .str (Str.ofString "ip_target") 193, .str (Str.ofString "protocol") 194, .str (Str.ofString "source_port") 195, .str (Str.ofString "target_port") 196] fieldNames := by
  unfold fieldNames
  repeat (first | exact .nil | refine .cons _ _ ?_)

section
variable {prog : Program} {w : World} {A : Around} {E : Value → Shared → Prop} {s : Shared} {nm : Str} {u : Tok} {i : Nat}
theorem names_tup {h : Heap} (X : (Mine.hd.heap_1 w.params).In h) : IsTup h 15 #[.str (Str.ofString "target") 187, .str (Str.ofString "source") 188, .str (Str.ofString "kind") 189, .str (Str.ofString "vlan") 190, .str (Str.ofString "priority") 191, .str (Str.ofString "ip_source") 192, .str (Str.ofString "ip_target") 193, .str (Str.ofString "protocol") 194, .str (Str.ofString "source_port") 195, .str (Str.ofString "target_port") 196] :=
  ⟨_, X 15 _ (by k_is), rfl, _, rfl⟩
theorem notin_names {Q : Value → Shared → Prop} (X : (Mine.hd.heap_1 w.params).In s.heap) (hi : fieldNames[i]? = some nm) (h : Q (.bool false) s) : wpAny (model prog w) A (compareOp .NotIn (.str nm u) (.ref 15)) Q E s :=
  notin_tuple_strs (names_tup X) names_are (by rw [names_any hi]; exact h)
theorem index_names {Q : Value → Shared → Prop} (X : (Mine.hd.heap_1 w.params).In s.heap) (hi : fieldNames[i]? = some nm) (h : Q (.int i s.toks) { s with toks := s.toks + 1 }) : wpAny (model prog w) A (call (.builtin "tuple.index") [.ref 15, .str nm u]) Q E s :=
  wpAny_call_entry PySem.F.slot_tuple_index (names_tup X).typeIs PySem.F.entry_tuple_index (tuple_index_strs (names_tup X) names_are rfl ⟨nm, hi, by simp⟩ (names_first hi) ⟨_, rfl, h⟩) (PySem.F.args_tuple_index_2 _ _)
theorem meth_names {pl : Sem Bool} {Q : Value × List Value → Shared → Prop} (X : (Mine.hd.heap_1 w.params).In s.heap) (h : Q (.builtin "tuple.index", [.ref 15]) s) : wpAny (model prog w) A (getMethod (.ref 15) (Str.ofString "index") pl) Q E s :=
  getMethod_builtin (names_tup X).typeIs PySem.F.plainAttrs_tuple PySem.F.slot_tuple_index PySem.F.type_tuple_index (fun a e => by cases e; exact ⟨_, X 15 _ (by k_is), rfl⟩) h
end
section
variable {prog : Program} {w : World} {A₀ A : Around} {s : Shared} {base h₀ : Heap} {outer : List Env} {L a : Addr} {m : Str → Option Value} {cn : Str} {cs : Scope} {ccd : Value} {K : Frag} {p : Program} {loose : List Str} {mean : ExcName → Option Value} {mg mb : Str → Option Value}
    {Q E : Value → Shared → Prop} {name qual : Str} {params : Arguments} {body : List Stmt} {scope : Scope} {dV kV doc pm cdv ct oc : Value} {an od : Option Addr} {osl : Array (Option Value)} {f : Addr} {vals : List Value} {binds : List (Str × Value)}

/-- a def is entered over the whole heap: nothing is on its ledger -/
theorem ctr_enter (B : Below A₀ base outer h₀) (F : Fr h₀ L s.heap m) (X₀ : K.In h₀) (T : Top p loose mean mg mb h₀) (D : KtsDicts (outer.filterMap (·.frame)) h₀) (hA : A.frames = some (envOf cn cs L a ccd :: outer)) (hck : cs.kind = .function)
    (ho : K.lookup f = some ⟨oc, od, .func (fnOf name qual params body scope dV kV doc pm an cdv ct), osl⟩) (hcd : codeIn K cdv qual = true) (hroom : A.depth < recursionLimit)
    (hbind : BindsTo s (fnOf name qual params body scope dV kV doc pm an cdv ct) ⟨vals, []⟩ binds) (hloc : ∀ y ∈ binds, scope.names.lookup y.1 = some .local)
    (h : ∀ L' h₁, Fr s.heap L' h₁ (fun y => binds.reverse.lookup y) → News s.heap L' h₁ [] → Below A base (envOf cn cs L a ccd :: outer) s.heap → K.In s.heap → Top p loose mean mg mb s.heap → KtsDicts ((envOf cn cs L a ccd :: outer).filterMap (·.frame)) s.heap →
      wpAny (model prog w) (A.deeper (envOf qual scope L' f cdv)) (execs body (envOf qual scope L' f cdv)) (fun fl s' => Q (match fl with | .ret v => v | _ => .none) s')
        (fun e s' => wpAny (model prog w) (A.deeper (envOf qual scope L' f cdv)) (leaving (envOf qual scope L' f cdv) e) (fun _ s'' => E e s'') (fun e' s'' => E e' s'') s')
        { s with heap := h₁, toks := s.toks + binds.length })
    (hco : scope.isCoroutine = false) (hgen : scope.isGenerator = false) (hk : scope.kind = .function) (hcell : ∀ x ∈ scope.names, x.2 ≠ .cell) :
    wpAny (model prog w) A (call (.ref f) vals) Q E s := by
  have X := X₀.keeps F.keep
  refine wpAny_call (codeAny_call_def (fd := fnOf name qual params body scope dV kV doc pm an cdv ct) (body := body) (binds := binds) hroom (X _ _ ho) rfl (T.nolimit.keeps F.keep) (codeRec_of X hcd) rfl hbind hcell hloc (fun h₁ hns hk₁ => ?_) hco hgen hk)
  obtain ⟨oL, es, ep, hLg, hLd, hN, hNs, st, B₂⟩ := kts_enter B F (News.nil (h₀ := h₀) (L := L)) hA hck
  exact h s.heap.objs.size h₁ ⟨hns, fun b o e => hk₁ b o e, Nat.le_refl _⟩ News.nil B₂ X (T.keeps F.keep) (fun b hb => by
    rcases kts_mem hb with rfl | hb
    · exact ⟨oL, es, ep, hLg, hLd⟩
    · obtain ⟨o, es', n', ho', hd'⟩ := D b hb
      exact ⟨o, es', n', F.keep b o ho', hd'⟩)
end

section
variable {h₀ h h' : Heap} {L L' : Addr} {m m' : Str → Option Value} {news res : List (Addr × Obj)}
/-- what a contract hands back to its caller -/
theorem ctr_fr (F : Fr h₀ L h m) (F' : Fr h L' h' m') : Fr h₀ L h' m := ⟨F.ns.keeps F'.keep, fun b o e => F'.keep b o (F.keep b o e), F.above⟩
theorem ctr_news (F : Fr h₀ L h m) (N : News h₀ L h news) (F' : Fr h L' h' m') (N' : News h L' h' res) : News h₀ L h' (res ++ news) := fun p hp => by
  rcases List.mem_append.mp hp with hp | hp
  · obtain ⟨a, b, c⟩ := N' p hp
    refine ⟨a, fun e => ?_, kts_none F.keep c⟩
    obtain ⟨oL, _, _, hL, _⟩ := F.ns
    rw [e, hL] at c
    cases c
  · obtain ⟨a, b, c⟩ := N p hp
    exact ⟨F'.keep _ _ a, b, c⟩
def AllNe (d : Addr) : List (Addr × Obj) → Prop
  | [] => True
  | p :: r => @Ne Nat p.1 d ∧ AllNe d r
theorem allNe_of {d : Addr} : ∀ {l : List (Addr × Obj)}, (∀ p ∈ l, p.1 ≠ d) → AllNe d l
  | [], _ => trivial
  | p :: _, h => ⟨h p (.head _), allNe_of fun q hq => h q (.tail _ hq)⟩
theorem allNe_ne {d : Addr} : ∀ {l : List (Addr × Obj)}, AllNe d l → ∀ p ∈ l, p.1 ≠ d
  | [], _, _, hp => (nomatch hp)
  | q :: r, h, p, hp => by
    rcases List.mem_cons.mp hp with rfl | hp
    · exact h.1
    · exact allNe_ne h.2 p hp
theorem ctr_ne {d : Addr} {o : Obj} (N : News h₀ L h news) (N' : News h L' h' res) (hd : (d, o) ∈ res) : AllNe d news := allNe_of fun p hp e => by
  have c := (N' _ hd).2.2
  have c' : h.get? d = none := c
  rw [← e, (N p hp).1] at c'
  cases c'
end
section
variable {prog : Program} {w : World} {dp un : Nat} {gd : Option (List Code)} {cn : Str} {cs : Scope} {a : Addr} {ccd : Value} {outer : List Env} {A₀ : Around} {base h₀ : Heap} {L : Addr} {m : Str → Option Value} {news : List (Addr × Obj)} {s : Shared}
    {E : Value → Shared → Prop} {p : Program} {loose : List Str} {mean : ExcName → Option Value} {mg mb : Str → Option Value}
theorem con_wishOk {Q : Value → Shared → Prop} {x wd : Str} {tx : Tok} {f1 f2 : Int} (hw : wishOf x = some (wd, f1, f2))
    (B : Below A₀ base outer h₀) (F : Fr h₀ L s.heap m) (X : (Mine.hd.heap_1 w.params).In h₀) (N : News h₀ L s.heap news) (T : Top p loose mean mg mb h₀) (hk : cs.kind = .function)
    (hd : dp + 7 < recursionLimit) (hx : x.length ≤ 1000) (h1 : ∀ p ∈ Txt.split x (Str.ofString "/"), p.length ≤ 1000) (h2 : ∀ p ∈ Txt.split x (Str.ofString "-"), p.length ≤ 1000)
    (hret : ∀ t1 t2 t3 D h' tk', Fr h₀ L h' m → News h₀ L h' ((D, tupObj [.str wd t1, .int f1 t2, .int f2 t3]) :: news) → AllLt D news → Q (.ref D) { s with heap := h', toks := tk' }) :
    wpAny (model prog w) (ktrTop dp un gd cn cs L a ccd [] outer) (call (.ref 124) [.str x tx]) Q E s :=
  con_wish B F X N T hk hd hx h1 h2 (fun wd' f1' f2' t1 t2 t3 D h' tk' e F' N' l => by
    rw [hw] at e
    cases e
    exact hret t1 t2 t3 D h' tk' F' N' l) fun e => by rw [hw] at e; cases e
end
theorem valueAt_one {k : Int} {v : Value} : valueAt [(k, v)] k = some v := by simp [valueAt]
section
variable {prog : Program} {w : World} {A : Around} {E : Value → Shared → Prop} {s : Shared} {h₀ : Heap} {L : Addr} {m : Str → Option Value} {news : List (Addr × Obj)}
theorem sorted_one {d : Addr} {o : Obj} {k : Int} {v : Value} {Q : Value → Shared → Prop} (hh : A.handled = none) (F : Fr h₀ L s.heap m) (N : News h₀ L s.heap news) (hd : (d, o) ∈ news) (lo : (d == sysModules) = false) (ho : Obj.IsDictOf (intKind prog w) o [(k, v)])
    (h : ∀ B t h' tk', Fr h₀ L h' m → News h₀ L h' ((B, W.listOf #[.int k t] 2) :: news) → (∀ q ∈ news, q.1 < B) → Q (.ref B) { s with heap := h', toks := tk' }) :
    wpAny (model prog w) A (call (.builtin "sorted") [.ref d]) Q E s := by
  obtain ⟨es, ep, r⟩ := ho
  refine kdu_sorted (kdl_dict (knd := intKind prog w) (kvs := [(k, v)]) (ep := ep) lo) hh F N ⟨o, es, (N _ hd).1, r⟩ (by rw [sizeLine_eq]; simp) fun D h' tk vs F' N' l1 hl hv => ?_
  obtain ⟨x, rfl⟩ : ∃ x, vs = [x] := by
    match vs, hl with
    | [x], _ => exact ⟨x, rfl⟩
  obtain ⟨k', x', e, hk⟩ := hv 0 x rfl
  obtain ⟨rfl, rfl⟩ := Prod.mk.inj (Option.some.inj e)
  obtain ⟨t, rfl⟩ := Value.isInt_shape hk
  refine lks_sort (q := [k]) (news' := fun t => (D, W.listOf (lks_vals [k] 0 t).toArray 2) :: news) F' N' (fun t => Upd.head fun p hp => Nat.ne_of_lt (l1 p hp)) rfl ?_ rfl (by simp) fun t h'' F'' N'' => h D (t 0) h'' tk F'' N'' l1
  simp [lks_ok, lks_nums, lks_asc, List.isPerm]
end

def bitsVals : List Value := [.int 48 198, .int 48 199, .int 16 200, .int 12 201, .int 3 202, .int 32 203, .int 32 204, .int 8 205, .int 16 206, .int 16 207]
theorem bitsVals_eq : bitsVals = fieldBits.zipIdx.map fun p => Value.int (p.1 : Int) (198 + p.2) := rfl
theorem bits_get {i bt : Nat} (h : fieldBits[i]? = some bt) : bitsVals[i]? = some (.int (bt : Int) (198 + i)) := by
  rw [bitsVals_eq, List.getElem?_map, List.getElem?_zipIdx, h]
  simp
theorem bits_item {prog : Program} {w : World} {A : Around} {E : Value → Shared → Prop} {s : Shared} {value slice : Expr} {i bt : Nat} {u : Tok} {Q : Value → Shared → Prop} (X : (Mine.hd.heap_1 w.params).In s.heap) (hb : fieldBits[i]? = some bt) (h : ∀ t, Q (.int (bt : Int) t) s)
    (hs : subscripted slice false (.ref 16) (.int (i : Int) u) = operate [.ref 16, .int (i : Int) u] (getItem (.ref 16) (.int (i : Int) u)) := by with_unfolding_all rfl) :
    wpAny (model prog w) A (subscriptTail value slice (.ref 16) (.int (i : Int) u)) Q E s := by
  have hi : i < 10 := (List.getElem?_eq_some_iff.mp hb).1
  refine item_tupleT (l := bitsVals) (j := i) ⟨_, X 16 _ (by k_is), rfl, _, rfl⟩ (by omega) (by omega) ?_ (bits_get hb) (h _) hs
  rw [show bitsVals.length = 10 from rfl]
  simp [seqIndex?, hi]
  omega

-- lines 9
-- M9body.txt

-- lines 10
example : True := by
  k_with "compareOp NotIn str ref" => (k_here; k_dflt (refine' notin_names ?X ?h ?_; (case X => k_in); (case h => assumption)))
  k_with "call builtin:tuple.index" => (k_here; k_dflt (refine' index_names ?X ?h ?_; (case X => k_in); (case h => assumption)))
  k_with "getMethod ref" => (k_here; k_dflt (refine' meth_names ?X ?_; (case X => k_in)))
  k_with "call ref" => (k_here; (with_reducible show wpAny _ _ (call (Value.ref 124) [Value.str _ _]) _ _ _); k_dflt (refine' con_wishOk ?k0 ?k1 ?k2 ?k3 ?k4 ?k5 ?k6 ?k7 ?k8 ?k9 ?k10 (fun t1'w9 t2'w9 t3'w9 D'w9 h'w9 tk'w9 F'w9 N'w9 l1w9 => ?_); (case k0 => assumption); (case k1 => k_asm); (case k2 => k_asm); (case k3 => k_asm); (case k4 => k_asm); (case k5 => k_asm); (case k6 => first | exact rfl | assumption); (case k7 => ktr_room); (case k8 => assumption); (case k9 => assumption); (case k10 => assumption)); (try simp only [AllLt, and_true] at l1w9); (try k_sweep))
  trivial
local macro_rules | `(tactic| cell_enter) => `(tactic| k_extra "w cell_enter")
-- lines 11
example : True := by
  k_with "w cell_enter" => (refine' ctr_enter ?k1 ?k2 ?k3 ?k4 ?k5 ?kA ?kK ?k6 ?k7 ?k8 ?k9 ?kB ?_ ?c2 ?c3 ?c4 ?c5; (case kA => exact rfl); (case kK => first | exact rfl | assumption); (case k2 => k_asm); (case k1 => k_asm); (case k3 => k_asm); (case k4 => k_asm); (case k5 => k_asm); (case k6 => k_is); (case k7 => k_is); (case k8 => ktr_room); (case k9 => first | exact BindsTo.of_eq rfl | exact binds_K (by k_in) rfl (by k_is) rfl rfl rfl | fail "ctr_enter: no rule for these arguments"); (case c5 => decide); (case kB => exact locs rfl); (case c2 => exact rfl); (case c3 => exact rfl); (case c4 => exact rfl); k_whole; intro L'w9 h'w9 F'w9 N'w9 B'w9 X'w9 T'w9 D'w9; (try dsimp only); (try k_lift B'w9); (try k_fold))
  k_with "call builtin:sorted" => (k_here; (with_reducible show wpAny _ _ (call (Value.builtin "sorted") [Value.ref _]) _ _ _); k_dflt (refine' sorted_one ?k0 ?k1 ?k2 ?k3 ?k4 ?k5 ?_; (case k0 => exact rfl); (case k1 => k_asm); (case k2 => k_asm); (case k3 => k_mem); (case k4 => assumption); (case k5 => assumption)); intro B'w9 t'w9 h'w9 tk'w9 F'w9 N'w9 l1w9; (try k_lt l1w9); (try k_sweep))
  k_with "subscriptTail Name Name ref int" => (k_here; k_dflt (refine' kda_item (knd := PySem.intKind _ _) ?k1 ?k2 ?k3 ?k4 ?k5 ?_; (case k1 => k_asm); (case k2 => k_mem); (case k3 => k_asm); (case k4 => exact intKind_is _ _ _ _); (case k5 => exact valueAt_one)))
  k_with "subscriptTail Name Name ref int" => (k_here; (with_reducible show wpAny _ _ (subscriptTail _ _ (Value.ref 16) (Value.int _ _)) _ _ _); k_dflt (refine' bits_item ?X ?h ?_; (case X => k_in); (case h => assumption)); intro t'w9)
  trivial
section
variable {prog : Program} {w : World} {A₀ A : Around} {s : Shared} {base h₀ : Heap} {outer : List Env} {L a : Addr} {m : Str → Option Value} {cn : Str} {cs : Scope} {ccd : Value} {K : Frag} {p : Program} {loose : List Str} {mean : ExcName → Option Value} {mg mb : Str → Option Value}
    {R : Result → Shared → Prop} {name qual : Str} {params : Arguments} {body : List Stmt} {scope : Scope} {dV kV doc pm cdv ct oc : Value} {an od : Option Addr} {osl : Array (Option Value)} {f : Addr} {args : Args} {binds : List (Str × Value)} {news₁ : List (Addr × Obj)}

def Rest (h g : Heap) (news₁ : List (Addr × Obj)) : Prop := ∀ b o, h.get? b = some o → b ∉ news₁.map (·.1) → g.get? b = some o

/-- a def is entered over the heap less some objects, which are its ledger -/
theorem ctr_code (news₁ : List (Addr × Obj)) (B : Below A₀ base outer h₀) (F : Fr h₀ L s.heap m) (X₀ : K.In h₀) (N : News h₀ L s.heap news₁) (T : Top p loose mean mg mb h₀) (hA : A.frames = some (envOf cn cs L a ccd :: outer)) (hck : cs.kind = .function)
    (ho : K.lookup f = some ⟨oc, od, .func (fnOf name qual params body scope dV kV doc pm an cdv ct), osl⟩) (hcd : codeIn K cdv qual = true) (hroom : A.depth < recursionLimit)
    (hbind : BindsTo s (fnOf name qual params body scope dV kV doc pm an cdv ct) args binds) (hloc : ∀ y ∈ binds, scope.names.lookup y.1 = some .local)
    (h : ∀ g L' h₁, Rest s.heap g news₁ → Fr h₀ L g m → Fr g L' h₁ (fun y => binds.reverse.lookup y) → News g L' h₁ news₁ → Below A base (envOf cn cs L a ccd :: outer) g → K.In g → Top p loose mean mg mb g →
      wpAny (model prog w) (A.deeper (envOf qual scope L' f cdv)) (execs body (envOf qual scope L' f cdv)) (fun fl s' => R (.ok (.ret (match fl with | .ret v => v | _ => .none))) s')
        (fun e s' => wpAny (model prog w) (A.deeper (envOf qual scope L' f cdv)) (leaving (envOf qual scope L' f cdv) e) (fun _ s'' => R (.error e) s'') (fun e' s'' => R (.error e') s'') s')
        { s with heap := h₁, toks := s.toks + binds.length })
    (hco : scope.isCoroutine = false) (hgen : scope.isGenerator = false) (hk : scope.kind = .function) (hcell : ∀ x ∈ scope.names, x.2 ≠ .cell) :
    codeAny (model prog w) A (.call (.ref f) args) R s := by
  have X := X₀.keeps F.keep
  refine codeAny_call_def (fd := fnOf name qual params body scope dV kV doc pm an cdv ct) (body := body) (binds := binds) hroom (X _ _ ho) rfl (T.nolimit.keeps F.keep) (codeRec_of X hcd) rfl hbind hcell hloc (fun h₁ hns hk₁ => ?_) hco hgen hk
  obtain ⟨oL, es, ep, hLg, hLd, hN, hNs, st, B₂⟩ := kts_enter B F N hA hck
  exact h _ s.heap.objs.size h₁ (fun b o e hn => hideAll_get _ e hn) ⟨hN _ hLg, st, F.above⟩ ⟨hns, fun b o e => hk₁ b o (of_hideAll _ e), Nat.le_of_eq (hideAll_size _ _)⟩
    (fun p hp => ⟨hk₁ _ _ (N p hp).1, Nat.ne_of_lt (Heap.lt_size (N p hp).1), hideAll_none _ (List.mem_map_of_mem hp)⟩) B₂ (X₀.keeps st) (T.keeps st)
end
section
variable {h₀ h h' g : Heap} {L L' : Addr} {m m' : Str → Option Value} {news news₁ all : List (Addr × Obj)}
theorem ctr_frN (FG : Fr h₀ L g m) (F' : Fr g L' h' m') : Fr h₀ L h' m := ⟨FG.ns.keeps F'.keep, fun b o e => F'.keep b o (FG.keep b o e), FG.above⟩
theorem ctr_all (FG : Fr h₀ L g m) (N' : News g L' h' all) {q : Addr × Obj} (hq : q ∈ all) : h'.get? q.1 = some q.2 ∧ q.1 ≠ L ∧ h₀.get? q.1 = none := by
  obtain ⟨a, b, c⟩ := N' q hq
  refine ⟨a, fun e => ?_, kts_none FG.keep c⟩
  obtain ⟨oL, _, _, hL, _⟩ := FG.ns
  rw [e, hL] at c
  cases c
theorem ctr_old (N : News h₀ L h news) (hR : Rest h g news₁) (F' : Fr g L' h' m') {q : Addr × Obj} (hq : q ∈ news) (hn : q.1 ∉ news₁.map (·.1)) : h'.get? q.1 = some q.2 ∧ q.1 ≠ L ∧ h₀.get? q.1 = none := by
  obtain ⟨a, b, c⟩ := N q hq
  exact ⟨F'.keep _ _ (hR _ _ a hn), b, c⟩
/-- the ledger is as it was where the callee's own is -/
theorem ctr_same (FG : Fr h₀ L g m) (N : News h₀ L h news) (N₁ : News h₀ L h news₁) (hR : Rest h g news₁) (F' : Fr g L' h' m') (N' : News g L' h' all) (hs : ∀ q ∈ news₁, q ∈ all) : News h₀ L h' news := fun q hq => by
  by_cases hn : q.1 ∈ news₁.map (·.1)
  · obtain ⟨r, hr, e⟩ := List.mem_map.mp hn
    have : q = r := by
      have h1 := (N q hq).1
      have h2 := (N₁ r hr).1
      rw [e, h1] at h2
      exact Prod.ext e.symm (Option.some.inj h2)
    subst this
    exact ctr_all FG N' (hs q hr)
  · exact ctr_old N hR F' hq hn
end

/-- does a wish fit its field -/
def fits (bt : Nat) (wd : Str) (a b : Int) : Bool := if wd == Str.ofString "mask" then decide (0 ≤ b) && decide (b ≤ 2 ^ bt - 1) && (PySem.Builtin.bitAnd a b == a) else decide (0 ≤ a) && decide (a ≤ b) && decide (b ≤ 2 ^ bt - 1)

def txt (l : List Nat) : Str := ⟨l.toArray⟩
theorem txt_list (l : List Nat) : (txt l).cps.toList = l := by simp [txt]
theorem txt_len (l : List Nat) : (txt l).length = l.length := by simp [txt, Str.length]
theorem txt_of {x : Str} {l : List Nat} (h : x.cps.toList = l) : x = txt l := Str.ext' (Array.toList_inj.mp (by rw [h, txt_list]))
theorem app_list (x y : Str) : (x ++ y).cps.toList = x.cps.toList ++ y.cps.toList := by rw [Str.cps_append, Array.toList_append]
theorem len_list (x : Str) : x.length = x.cps.toList.length := by simp [Str.length]

def digs (b n : Nat) : List Nat := (Nat.toDigits b n).map Char.toNat
theorem digs_lt {b n : Nat} (h : n < b) : digs b n = [(Nat.digitChar n).toNat] := by unfold digs; rw [Nat.toDigits_of_lt_base h]; rfl
theorem digs_ge {b n : Nat} (hb : 1 < b) (h : b ≤ n) : digs b n = digs b (n / b) ++ [(Nat.digitChar (n % b)).toNat] := by unfold digs; rw [Nat.toDigits_of_base_le hb h, List.map_append]; rfl
theorem digs_mem {b : Nat} (hb : 1 < b) (n : Nat) : ∀ c ∈ digs b n, ∃ d, d < b ∧ c = (Nat.digitChar d).toNat := by
  induction n using Nat.strongRecOn with
  | _ n ih =>
    intro c hc
    by_cases h : n < b
    · rw [digs_lt h] at hc
      exact ⟨n, h, List.mem_singleton.mp hc⟩
    · rw [digs_ge hb (Nat.le_of_not_lt h)] at hc
      rcases List.mem_append.mp hc with hc | hc
      · exact ih (n / b) (Nat.div_lt_self (by omega) hb) c hc
      · exact ⟨n % b, Nat.mod_lt n (by omega), List.mem_singleton.mp hc⟩
theorem digs_ne (b n : Nat) : digs b n ≠ [] := by
  have := toDigits_len_ge b n
  intro e
  have e' := congrArg List.length e
  unfold digs at e'
  rw [List.length_map] at e'
  simp at e'
theorem digs_len {b k n : Nat} (hb : 2 ≤ b) (hk : 1 ≤ k) (hn : n < b ^ k) : (digs b n).length ≤ k := by
  unfold digs
  rw [List.length_map]
  exact toDigits_len_pow hb hk hn
theorem digit_signs : ∀ d : Fin 16, PySem.Unicode.isSpace (Nat.digitChar d).toNat = false ∧ (Nat.digitChar d).toNat ≠ 47 ∧ (Nat.digitChar d).toNat ≠ 45 := by decide +kernel
theorem digs_signs {b : Nat} (hb : 1 < b) (h16 : b ≤ 16) (n : Nat) : ∀ c ∈ digs b n, PySem.Unicode.isSpace c = false ∧ c ≠ 47 ∧ c ≠ 45 := by
  intro c hc
  obtain ⟨d, hd, rfl⟩ := digs_mem hb n c hc
  exact digit_signs ⟨d, by omega⟩
theorem hex_sgn : ∀ d : Fin 16, sgn (Str.ofString "0123456789abcdef") (Nat.digitChar d).toNat = some ((d.val : Nat) : Int) := by decide +kernel
theorem dec_sgn : ∀ d : Fin 10, sgn (Str.ofString "0123456789") (Nat.digitChar d).toNat = some ((d.val : Nat) : Int) := by decide +kernel
theorem fig_digs {y : Str} {b : Nat} (hb : 1 < b) (hy : y.length = b) (hs : ∀ d, d < b → sgn y (Nat.digitChar d).toNat = some (d : Int)) (n : Nat) :
    ((digs b n).map fun (c : Nat) => (c : Int)).foldl (figStep y) (some 0) = some (n : Int) := by
  induction n using Nat.strongRecOn with
  | _ n ih =>
    by_cases h : n < b
    · rw [digs_lt h]
      show ((sgn y (((Nat.digitChar n).toNat : Nat) : Int).toNat).map fun i => (y.length : Int) * 0 + i) = _
      rw [Int.toNat_natCast, hs n h]
      simp
    · rw [digs_ge hb (Nat.le_of_not_lt h), List.map_append, List.foldl_append, ih (n / b) (Nat.div_lt_self (by omega) hb)]
      show ((sgn y (((Nat.digitChar (n % b)).toNat : Nat) : Int).toNat).map fun i => (y.length : Int) * ((n / b : Nat) : Int) + i) = _
      rw [Int.toNat_natCast, hs (n % b) (Nat.mod_lt n (by omega)), hy]
      show some ((b : Int) * ((n / b : Nat) : Int) + ((n % b : Nat) : Int)) = _
      rw [← Int.natCast_mul, ← Int.natCast_add, Nat.div_add_mod]
theorem figs_list {y : Str} {l : List Nat} {v : Int} (h0 : l ≠ []) (h20 : l.length ≤ 20) (h : (l.map fun (c : Nat) => (c : Int)).foldl (figStep y) (some 0) = some v) : figs y (txt l) = some v := by
  refine figs_ok ?_ ?_ ?_
  · rw [beq_eq_false_iff_ne]
    intro e
    have := congrArg (fun x : Str => x.cps.toList) e
    simp only [txt_list] at this
    exact h0 this
  · rw [txt_len]; omega
  · unfold figL KStt.codes
    rw [txt_list]
    exact h
theorem figs_hex {n : Nat} (hn : n < 16 ^ 20) : figs (Str.ofString "0123456789abcdef") (txt (digs 16 n)) = some (n : Int) :=
  figs_list (digs_ne _ _) (digs_len (by decide) (by decide) hn) (fig_digs (by decide) (by decide +kernel) (fun d hd => hex_sgn ⟨d, hd⟩) n)
theorem figs_dec {n : Nat} (hn : n < 10 ^ 20) : figs (Str.ofString "0123456789") (txt (digs 10 n)) = some (n : Int) :=
  figs_list (digs_ne _ _) (digs_len (by decide) (by decide) hn) (fig_digs (by decide) (by decide +kernel) (fun d hd => dec_sgn ⟨d, hd⟩) n)
theorem figs_dec0 {n : Nat} (hn : n < 10 ^ 19) : figs (Str.ofString "0123456789") (txt (48 :: digs 10 n)) = some (n : Int) :=
  figs_list (List.cons_ne_nil _ _) (by rw [List.length_cons]; have := digs_len (b := 10) (k := 19) (n := n) (by decide) (by decide) hn; omega) (by
    rw [List.map_cons, List.foldl_cons]
    have : figStep (Str.ofString "0123456789") (some 0) ((48 : Nat) : Int) = some 0 := by decide +kernel
    rw [this]
    exact fig_digs (by decide) (by decide +kernel) (fun d hd => dec_sgn ⟨d, hd⟩) n)

-- split
theorem cnt_app (c : Nat) : ∀ l r : List Nat, cnt c (l ++ r) = cnt c l + cnt c r
  | [], r => by rw [List.nil_append, cnt_nil, Int.zero_add]
  | n :: l, r => by rw [List.cons_append, cnt_cons, cnt_cons, cnt_app c l r, Int.add_assoc]
theorem split_one {x : Str} {c : Nat} (h : c ∉ x.cps.toList) : Txt.split x ⟨#[c]⟩ = [x] := by
  have e := split_len x c
  rw [cnt_none c _ h] at e
  have j := StrLaws.join_split x ⟨#[c]⟩
  match hl : Txt.split x ⟨#[c]⟩ with
  | [] => rw [hl] at e; simp at e
  | [y] => rw [hl] at j; rw [← show Str.join ⟨#[c]⟩ [y] = y from rfl, j]
  | a :: b :: r => rw [hl] at e; simp at e; omega
theorem cut_same {c : Nat} : ∀ {p q p' q' : List Nat}, c ∉ p → c ∉ p' → p ++ c :: q = p' ++ c :: q' → p = p' ∧ q = q'
  | [], q, [], q', _, _, e => ⟨rfl, by simpa using e⟩
  | [], q, a :: p', q', _, h', e => by
    have := (List.cons.inj e).1
    exact absurd (List.mem_cons.mpr (.inl this)) h'
  | a :: p, q, [], q', h, _, e => by
    have := (List.cons.inj e).1
    exact absurd (List.mem_cons.mpr (.inl this.symm)) h
  | a :: p, q, b :: p', q', h, h', e => by
    obtain ⟨e1, e2⟩ := List.cons.inj e
    obtain ⟨r1, r2⟩ := cut_same (fun m => h (.tail _ m)) (fun m => h' (.tail _ m)) e2
    exact ⟨by rw [e1, r1], r2⟩
theorem split_two {x : Str} {c : Nat} {p q : List Nat} (hx : x.cps.toList = p ++ c :: q) (hp : c ∉ p) (hq : c ∉ q) : Txt.split x ⟨#[c]⟩ = [txt p, txt q] := by
  have e := split_len x c
  rw [hx, cnt_app, cnt_cons, cnt_none c _ hp, cnt_none c _ hq, if_pos rfl] at e
  have j := StrLaws.join_split x ⟨#[c]⟩
  have f := StrLaws.split_free x c
  match hl : Txt.split x ⟨#[c]⟩ with
  | [] => rw [hl] at e; simp at e
  | [y] => rw [hl] at e; simp at e
  | a :: b :: d :: r => rw [hl] at e; simp at e; omega
  | [a, b] =>
    rw [hl] at j f
    have j' : a ++ ⟨#[c]⟩ ++ b = x := j
    have k := congrArg (fun x : Str => x.cps.toList) j'
    simp only [app_list, hx] at k
    have fa := f a (.head _)
    have k' : a.cps.toList ++ c :: b.cps.toList = p ++ c :: q := by simpa using k
    obtain ⟨r1, r2⟩ := cut_same fa hp k'
    rw [txt_of r1, txt_of r2]

-- words
theorem scan_run : ∀ (l : List Nat) (ws : List Str) (r : List Nat), (∀ c ∈ l, PySem.Unicode.isSpace c = false) → l.foldl KWd.step (ws, txt r) = (ws, txt (r ++ l))
  | [], ws, r, _ => by simp
  | c :: l, ws, r, h => by
    have hc := h c (.head _)
    have : KWd.step (ws, txt r) c = (ws, txt (r ++ [c])) := by
      unfold KWd.step
      rw [if_neg (by rw [hc]; exact Bool.false_ne_true)]
      have : txt r ++ ⟨#[c]⟩ = txt (r ++ [c]) := txt_of (by rw [app_list, txt_list])
      rw [this]
    rw [List.foldl_cons, this, scan_run l ws (r ++ [c]) (fun d hd => h d (.tail _ hd)), List.append_assoc]
    rfl
theorem scan_gap {ws : List Str} {r : List Nat} (h : r ≠ []) : KWd.step (ws, txt r) 32 = (ws ++ [txt r], txt []) := by
  unfold KWd.step
  rw [if_pos (by decide +kernel), if_neg (by
    rw [txt_len]
    intro e
    exact h (List.eq_nil_of_length_eq_zero e))]
  rfl
theorem words_three {x : Str} {a b c : List Nat} (hx : x.cps.toList = a ++ 32 :: (b ++ 32 :: c)) (ha : a ≠ []) (hb : b ≠ []) (hc : c ≠ []) (sa : ∀ k ∈ a, PySem.Unicode.isSpace k = false) (sb : ∀ k ∈ b, PySem.Unicode.isSpace k = false) (sc : ∀ k ∈ c, PySem.Unicode.isSpace k = false) :
    Txt.words x = [txt a, txt b, txt c] := by
  have e : KWd.scan x = ([txt a, txt b], txt c) := by
    unfold KWd.scan
    rw [hx, List.foldl_append]
    have s1 := scan_run a [] [] sa
    rw [show (([], Str.empty) : KWd.St) = ([], txt []) from rfl, s1, show ([] : List Nat) ++ a = a from rfl, List.foldl_cons, scan_gap ha, List.foldl_append, scan_run b _ [] sb, show ([] : List Nat) ++ b = b from rfl, List.foldl_cons, scan_gap hb, scan_run c _ [] sc, show ([] : List Nat) ++ c = c from rfl]
    rfl
  rw [KWd.words_of e, if_neg (by
    rw [txt_len]
    intro e
    exact hc (List.eq_nil_of_length_eq_zero e))]
  rfl

/-- the texts of wishes -/
def wsR (lo up : Nat) : List Nat := 48 :: digs 10 lo ++ 45 :: digs 10 up
def wsM (v k : Nat) : List Nat := digs 16 v ++ 47 :: digs 16 k
theorem not_mem {c : Nat} {l : List Nat} (h : ∀ d ∈ l, d ≠ c) : c ∉ l := fun m => h c m rfl
theorem wsR_wish {lo up : Nat} (h1 : lo < 10 ^ 19) (h2 : up < 10 ^ 19) : wishOf (txt (wsR lo up)) = some (Str.ofString "range", (lo : Int), (up : Int)) := by
  have d1 := digs_signs (b := 10) (by decide) (by decide) lo
  have d2 := digs_signs (b := 10) (by decide) (by decide) up
  have e1 : Txt.split (txt (wsR lo up)) (Str.ofString "/") = [txt (wsR lo up)] := by
    rw [show Str.ofString "/" = (⟨#[47]⟩ : Str) from by decide +kernel]
    refine split_one (not_mem ?_)
    rw [txt_list]
    unfold wsR
    intro d hd
    rcases List.mem_append.mp hd with hd | hd
    · rcases List.mem_cons.mp hd with rfl | hd
      · decide
      · exact (d1 d hd).2.1
    · rcases List.mem_cons.mp hd with rfl | hd
      · decide
      · exact (d2 d hd).2.1
  have e2 : Txt.split (txt (wsR lo up)) (Str.ofString "-") = [txt (48 :: digs 10 lo), txt (digs 10 up)] := by
    rw [show Str.ofString "-" = (⟨#[45]⟩ : Str) from by decide +kernel]
    refine split_two (p := 48 :: digs 10 lo) (by rw [txt_list]; rfl) (not_mem ?_) (not_mem fun d hd => (d2 d hd).2.2)
    intro d hd
    rcases List.mem_cons.mp hd with rfl | hd
    · decide
    · exact (d1 d hd).2.2
  unfold wishOf
  rw [e1, e2]
  dsimp only
  rw [figs_dec0 h1, figs_dec (Nat.lt_of_lt_of_le h2 (by decide))]
  rfl
theorem wsM_wish {v k : Nat} (h1 : v < 16 ^ 20) (h2 : k < 16 ^ 20) : wishOf (txt (wsM v k)) = some (Str.ofString "mask", (v : Int), (k : Int)) := by
  have d1 := digs_signs (b := 16) (by decide) (by decide) v
  have d2 := digs_signs (b := 16) (by decide) (by decide) k
  have e1 : Txt.split (txt (wsM v k)) (Str.ofString "/") = [txt (digs 16 v), txt (digs 16 k)] := by
    rw [show Str.ofString "/" = (⟨#[47]⟩ : Str) from by decide +kernel]
    exact split_two (by rw [txt_list]; rfl) (not_mem fun d hd => (d1 d hd).2.1) (not_mem fun d hd => (d2 d hd).2.1)
  unfold wishOf
  rw [e1]
  dsimp only
  rw [figs_hex h1, figs_hex h2]
  rfl
theorem wsR_signs (lo up : Nat) : ∀ c ∈ wsR lo up, PySem.Unicode.isSpace c = false := by
  intro d hd
  rcases List.mem_append.mp hd with hd | hd
  · rcases List.mem_cons.mp hd with rfl | hd
    · decide +kernel
    · exact (digs_signs (b := 10) (by decide) (by decide) lo d hd).1
  · rcases List.mem_cons.mp hd with rfl | hd
    · decide +kernel
    · exact (digs_signs (b := 10) (by decide) (by decide) up d hd).1
theorem wsM_signs (lo up : Nat) : ∀ c ∈ wsM lo up, PySem.Unicode.isSpace c = false := by
  intro d hd
  rcases List.mem_append.mp hd with hd | hd
  · exact (digs_signs (b := 16) (by decide) (by decide) lo d hd).1
  · rcases List.mem_cons.mp hd with rfl | hd
    · decide +kernel
    · exact (digs_signs (b := 16) (by decide) (by decide) up d hd).1
theorem names_signs : ∀ i : Fin 10, (fieldNames[i]'(i.isLt)).cps.toList ≠ [] ∧ (fieldNames[i]'(i.isLt)).length ≤ 20 ∧ ∀ c ∈ (fieldNames[i]'(i.isLt)).cps.toList, PySem.Unicode.isSpace c = false := by decide +kernel
theorem name_signs {i : Nat} {nm : Str} (h : fieldNames[i]? = some nm) : nm.cps.toList ≠ [] ∧ nm.length ≤ 20 ∧ ∀ c ∈ nm.cps.toList, PySem.Unicode.isSpace c = false := by
  obtain ⟨hi, e⟩ := List.getElem?_eq_some_iff.mp h
  subst e
  exact names_signs ⟨i, hi⟩
theorem dec_text (n : Nat) : Str.ofString (toString ((n : Nat) : Int)) = txt (digs 10 n) := text_ofNat n
theorem words_range {i lo up : Nat} {nm : Str} (hi : fieldNames[i]? = some nm) :
    Txt.words (Str.ofString "drop " ++ nm ++ Str.ofString " 0" ++ Str.ofString (toString ((lo : Nat) : Int)) ++ Str.ofString "-" ++ Str.ofString (toString ((up : Nat) : Int))) = [Str.ofString "drop", nm, txt (wsR lo up)] := by
  obtain ⟨n1, _, n2⟩ := name_signs hi
  have h := words_three (x := Str.ofString "drop " ++ nm ++ Str.ofString " 0" ++ Str.ofString (toString ((lo : Nat) : Int)) ++ Str.ofString "-" ++ Str.ofString (toString ((up : Nat) : Int))) (a := (Str.ofString "drop").cps.toList) (b := nm.cps.toList) (c := wsR lo up)
    (by
      simp only [app_list, dec_text, txt_list]
      rw [show (Str.ofString "drop ").cps.toList = (Str.ofString "drop").cps.toList ++ [32] from by decide +kernel, show (Str.ofString " 0").cps.toList = [32, 48] from by decide +kernel, show (Str.ofString "-").cps.toList = [45] from by decide +kernel]
      simp [wsR]) (by decide +kernel) n1 (by unfold wsR; simp) (by decide +kernel) n2 (wsR_signs lo up)
  rw [h, ← txt_of (x := nm) rfl, ← txt_of (x := Str.ofString "drop") rfl]
theorem words_mask {i v k : Nat} {nm : Str} (hi : fieldNames[i]? = some nm) :
    Txt.words (Str.ofString "let " ++ nm ++ Str.ofString " " ++ txt (digs 16 v) ++ Str.ofString "/" ++ txt (digs 16 k)) = [Str.ofString "let", nm, txt (wsM v k)] := by
  obtain ⟨n1, _, n2⟩ := name_signs hi
  have h := words_three (x := Str.ofString "let " ++ nm ++ Str.ofString " " ++ txt (digs 16 v) ++ Str.ofString "/" ++ txt (digs 16 k)) (a := (Str.ofString "let").cps.toList) (b := nm.cps.toList) (c := wsM v k)
    (by
      simp only [app_list, txt_list]
      rw [show (Str.ofString "let ").cps.toList = (Str.ofString "let").cps.toList ++ [32] from by decide +kernel, show (Str.ofString " ").cps.toList = [32] from by decide +kernel, show (Str.ofString "/").cps.toList = [47] from by decide +kernel]
      simp [wsM]) (by decide +kernel) n1 (by unfold wsM; simp) (by decide +kernel) n2 (wsM_signs v k)
  rw [h, ← txt_of (x := nm) rfl, ← txt_of (x := Str.ofString "let") rfl]

open PySem.Builtin PySem.Builtin.Str in
theorem hexTurn {M : Model} {A : Around} {E : Value → Shared → Prop} {s : Shared} {l : List Nat} {p : List Value} {r : List Nat}
    {f : Nat → List Value × Writer × List Nat → Sem (ForInStep (List Value × Writer × List Nat))} {Q : List Value × Writer × List Nat → Shared → Prop}
    {w : Writer} {N : Nat} {o : Option Value} {c : Percent} {n : Int} {d : List Nat} (g : KPc.Good w PySem.Str.empty N) (h1 : c.alt = false) (h2 : c.type = 120) (h3 : c.prec = none) (hn : 0 ≤ n) (hd : d.length ≤ 20) (ho : o = none)
    (h : ∀ w', KPc.Good w' (txt d) (N + 20) → wpAny M A (forIn l (p, w', r) f) Q E s) : wpAny M A (forIn l (p, w.add ⟨(percentInt c (decide (n < 0)) d).toArray⟩ o, r) f) Q E s := by
  have e : percentInt c (decide (n < 0)) d = d := by
    have hneg : decide (n < 0) = false := decide_eq_false (by omega)
    unfold percentInt
    simp [h1, h2, h3, hneg]
  rw [e]
  refine KPc.after_add0 (y := txt d) g rfl (KPc.obj_none ho) fun w' g' => h w' (KPc.good_mono g' ?_)
  rw [txt_len]
  omega
open PySem.Builtin in
theorem hexM {n : Int} {t u : Tok} (h0 : 0 ≤ n) (hd : (digs 16 n.natAbs).length ≤ 20) : Meets («str.__mod__» ⟨[.str ⟨#[37, 120]⟩ t, .int n u], []⟩) (fun _ R s => ∀ t' k, R (.ok (.ret (.str (txt (digs 16 n.natAbs)) t'))) { s with toks := k }) := by
  apply KPc.meets_of
  intro prog w A s Q E h
  rw [KPc.entry_is]
  unfold Builtin.Str.percentFormat
  refine wpAny_bind (wpAny_isInstance (typeIs_int _ _ _) F.sub_int_tuple ?_)
  refine wpAny_bind (wpAny_of_eq (a := none) rfl ?_)
  refine wpAny_bind (wpAny_of_eq (KPc.fills _ _) ?_)
  kpc_if
  refine wpAny_bind (wpAny_pure ?_)
  refine wpAny_bind ?_
  rw [KPc.range_list]
  refine KPc.start ?_
  intro _ _
  refine KPc.turn ?_
  kpc_check
  (repeat kpc_if)
  refine wpAny_bind ?_
  refine wpAny_holding ?_
  (repeat kpc_if)
  refine wpAny_bind (wpAny_of_eq (a := _) rfl ?_)
  (repeat kpc_if)
  refine wpAny_bind (wpAny_of_eq (a := digs 16 n.natAbs) rfl ?_)
  refine wpAny_pure ?_
  refine wpAny_pure ?_
  refine hexTurn (by kpc_g) rfl rfl rfl h0 hd (by kpc_none) ?_
  intro _ _
  kpc_turns
/-- a number that '%x' lays out -/
def HexOk (n : Int) : Prop := 0 ≤ n ∧ n < 1208925819614629174706176
theorem hex_mod {prog : Program} {w : World} {A : Around} {E : Value → Shared → Prop} {s : Shared} {n : Int} {t u : Tok} {Q : Value → Shared → Prop} (ho : HexOk n)
    (h : ∀ t' k, Q (.str (txt (digs 16 n.natAbs)) t') { s with toks := k }) : wpAny (model prog w) A (binaryOp .Mod (.str (Str.ofString "%x") t) (.int n u)) Q E s := by
  have h0 := ho.1
  have h1 := ho.2
  have hd : (digs 16 n.natAbs).length ≤ 20 := digs_len (by decide) (by decide) (by
    have : (16 : Nat) ^ 20 = 1208925819614629174706176 := by decide
    omega)
  refine KPc.mod_lit (X' := ⟨#[37, 120]⟩) (by decide +kernel) (shown (N := 2 ^ 1920) (by omega) (by omega) (Int.le_refl _)) (fun _ _ => hexM h0 hd) h

-- M10body.txt

-- lines 12
example : True := by
  k_with "testChain" => first | with_reducible refine test_link ?_ | with_reducible refine test_last ?_ | refine test_link ?_
  trivial
section
variable {dp un : Nat} {gd : Option (List Code)} {cn : Str} {cs : Scope} {a : Addr} {ccd : Value} {outer : List Env} {A₀ : Around} {base h₀ g h' : Heap} {L : Addr} {m : Str → Option Value} {news news₁ : List (Addr × Obj)} {s : Shared} {E : Value → Shared → Prop} {e t : Addr} {vs : List Value} {tk' : Tok}
/-- a raise out of a callee that was entered over a part of the heap, seen from the whole ledger -/
theorem raised_to (B : Below A₀ base outer h₀) (N : News h₀ L s.heap news) (N₁ : News h₀ L s.heap news₁) (hR : Rest s.heap g news₁) (FG : Fr h₀ L g m) (R : RaisedS base g (envOf cn cs L a ccd :: outer) e (.ref 54) t vs news₁ h') (U : g.UpToSlots h') (hk : cs.kind = .function)
    (hr : RaisedTo dp un gd cn cs L a ccd outer base h₀ m news s E) : E (.ref e) { s with heap := h', toks := tk' } := by
  let news₂ := news.filter fun q => decide (q.1 ∉ news₁.map (·.1))
  have n2 : ∀ q ∈ news, q.1 ∉ news₁.map (·.1) → q ∈ news₂ := fun q hq hn => List.mem_filter.mpr ⟨hq, by simpa using hn⟩
  have N₂ : News h₀ L g news₂ := fun q hq => by
    obtain ⟨hq, hn⟩ := List.mem_filter.mp hq
    exact ⟨hR _ _ (N q hq).1 (by simpa using hn), (N q hq).2⟩
  obtain ⟨oL, es, ep, hLg, hLd, hN, hNs, st, B₂⟩ := kts_enter (A := ktrTop dp un gd cn cs L a ccd [] outer) (s := { s with heap := g }) B FG N₂ rfl hk
  obtain ⟨⟨B', hB, hBG, hl, hfl, hnew⟩, htup⟩ := R
  refine hr _ e t vs h' tk' ⟨hN _ hLg, st, ?_⟩ B₂ ⟨⟨B', hB, fun b o q hn => hBG b o (of_hideAll _ q) hn, fun q hq => ?_, hfl, hnew⟩, htup⟩ (fun b o q hn => U b o (of_hideAll _ q) hn)
  · exact FG.above
  · by_cases hn : q.1 ∈ news₁.map (·.1)
    · obtain ⟨r, hr', e'⟩ := List.mem_map.mp hn
      have : q = r := by
        have h1 := (N q hq).1
        have h2 := (N₁ r hr').1
        rw [e', h1] at h2
        exact Prod.ext e'.symm (Option.some.inj h2)
      subst this
      obtain ⟨a1, a2, a3⟩ := hl q hr'
      refine ⟨a1, ?_, a3⟩
      cases e4 : (hideAll g (news₂.map (·.1))).get? q.1 with
      | none => rfl
      | some o => rw [of_hideAll _ e4] at a2; cases a2
    · refine ⟨hBG _ _ (hR _ _ (N q hq).1 hn) fun hm => ?_, hideAll_none _ (List.mem_map_of_mem (n2 q hq hn)), fresh_of_stays B.stays (N q hq).2.2⟩
      rcases kts_mem hm with z | z
      · exact (N q hq).2.1 z
      · obtain ⟨o, ho, _⟩ := (B.frames.mem z).2
        rw [(N q hq).2.2] at ho; cases ho
end
theorem fitsM {bt : Nat} {a b : Int} : fits bt (Str.ofString "mask") a b = true ↔ (0 ≤ b ∧ b ≤ 1 * 2 ^ ((bt : Int)).toNat - 1 ∧ PySem.Builtin.bitAnd a b = a) := by
  unfold fits
  rw [if_pos (by decide)]
  simp [and_assoc]
theorem fitsR {bt : Nat} {a b : Int} : fits bt (Str.ofString "range") a b = true ↔ (0 ≤ a ∧ a ≤ b ∧ b ≤ 1 * 2 ^ ((bt : Int)).toNat - 1) := by
  unfold fits
  rw [if_neg (by decide)]
  simp [and_assoc]
theorem fits_no {b : Bool} {P Q R : Prop} (h : b = true ↔ (P ∧ Q ∧ R)) (n : ¬P ∨ ¬Q ∨ ¬R) : b = false := by
  cases e : b with
  | false => rfl
  | true =>
    obtain ⟨h1, h2, h3⟩ := h.mp e
    rcases n with n | n | n
    · exact absurd h1 n
    · exact absurd h2 n
    · exact absurd h3 n
section
variable {prog : Program} {w : World} {dp un : Nat} {gd : Option (List Code)} {cn : Str} {cs : Scope} {a : Addr} {ccd : Value} {outer : List Env} {A₀ : Around} {base h₀ : Heap} {L : Addr} {m : Str → Option Value} {news : List (Addr × Obj)} {s : Shared}
    {E : Value → Shared → Prop} {p : Program} {loose : List Str} {mean : ExcName → Option Value} {mg mb : Str → Option Value}

set_option maxHeartbeats 8000000 in
theorem checkM {Q : Value → Shared → Prop} {tw t1 t2 tb : Tok} {f1 f2 : Int} {bt : Nat} {W : Addr}
    (B : Below A₀ base outer h₀) (F : Fr h₀ L s.heap m) (X : (Mine.hd.heap_1 w.params).In h₀) (N : News h₀ L s.heap news) (T : Top p loose mean mg mb h₀) (hk : cs.kind = .function)
    (hd : dp + 7 < recursionLimit) (hb : bt ≤ 48) (hW : (W, tupObj [.str (Str.ofString "mask") tw, .int f1 t1, .int f2 t2]) ∈ news)
    (hret : fits bt (Str.ofString "mask") f1 f2 = true → ∀ h' tk', Fr h₀ L h' m → News h₀ L h' news → Q .none { s with heap := h', toks := tk' })
    (hraise : fits bt (Str.ofString "mask") f1 f2 = false → RaisedTo dp un gd cn cs L a ccd outer base h₀ m news s E) :
    wpAny (model prog w) (ktrTop dp un gd cn cs L a ccd [] outer) (call (.ref 70) [.ref W, .int (bt : Int) tb]) Q E s := by
  refine wpAny_call ?_
  have N₁ : News h₀ L s.heap [(W, tupObj [.str (Str.ofString "mask") tw, .int f1 t1, .int f2 t2])] := fun q hq => by
    rcases List.mem_singleton.mp hq with rfl
    exact N _ hW
  refine ctr_code _ B F X N₁ T rfl hk (by k_is) (by k_is) (by ktr_room) (BindsTo.of_eq rfl) (locs rfl) ?_ rfl rfl rfl (by decide)
  k_whole
  intro g' L' h' hR FG' F' N' B' X' T'
  (try dsimp only)
  (try k_fold)
  k_steps
  all_goals first
    | exact hret (fitsM.mpr ⟨by assumption, by assumption, by assumption⟩) _ _ (ctr_frN FG' (by assumption)) (ctr_same FG' N N₁ hR (by assumption) (by assumption) fun q hq => by repeat (first | exact hq | refine List.mem_cons_of_mem _ ?_))
    | exact raised_to B N N₁ hR FG' (by assumption) (by assumption) hk (hraise (fits_no fitsM (by first | exact .inl (by assumption) | exact .inr (.inl (by assumption)) | exact .inr (.inr (by assumption)))))
    | w_report

set_option maxHeartbeats 8000000 in
theorem checkR {Q : Value → Shared → Prop} {tw t1 t2 tb : Tok} {f1 f2 : Int} {bt : Nat} {W : Addr}
    (B : Below A₀ base outer h₀) (F : Fr h₀ L s.heap m) (X : (Mine.hd.heap_1 w.params).In h₀) (N : News h₀ L s.heap news) (T : Top p loose mean mg mb h₀) (hk : cs.kind = .function)
    (hd : dp + 7 < recursionLimit) (hb : bt ≤ 48) (hW : (W, tupObj [.str (Str.ofString "range") tw, .int f1 t1, .int f2 t2]) ∈ news)
    (hret : fits bt (Str.ofString "range") f1 f2 = true → ∀ h' tk', Fr h₀ L h' m → News h₀ L h' news → Q .none { s with heap := h', toks := tk' })
    (hraise : fits bt (Str.ofString "range") f1 f2 = false → RaisedTo dp un gd cn cs L a ccd outer base h₀ m news s E) :
    wpAny (model prog w) (ktrTop dp un gd cn cs L a ccd [] outer) (call (.ref 70) [.ref W, .int (bt : Int) tb]) Q E s := by
  refine wpAny_call ?_
  have N₁ : News h₀ L s.heap [(W, tupObj [.str (Str.ofString "range") tw, .int f1 t1, .int f2 t2])] := fun q hq => by
    rcases List.mem_singleton.mp hq with rfl
    exact N _ hW
  refine ctr_code _ B F X N₁ T rfl hk (by k_is) (by k_is) (by ktr_room) (BindsTo.of_eq rfl) (locs rfl) ?_ rfl rfl rfl (by decide)
  k_whole
  intro g' L' h' hR FG' F' N' B' X' T'
  (try dsimp only)
  (try k_fold)
  k_steps
  all_goals first
    | exact hret (fitsR.mpr ⟨by assumption, by assumption, by assumption⟩) _ _ (ctr_frN FG' (by assumption)) (ctr_same FG' N N₁ hR (by assumption) (by assumption) fun q hq => by repeat (first | exact hq | refine List.mem_cons_of_mem _ ?_))
    | exact raised_to B N N₁ hR FG' (by assumption) (by assumption) hk (hraise (fits_no fitsR (by first | exact .inl (by assumption) | exact .inr (.inl (by assumption)) | exact .inr (.inr (by assumption)))))
    | w_report

theorem con_check {Q : Value → Shared → Prop} {tw t1 t2 tb : Tok} {wd : Str} {f1 f2 : Int} {bt : Nat} {W : Addr} (hwd : wd = Str.ofString "mask" ∨ wd = Str.ofString "range")
    (B : Below A₀ base outer h₀) (F : Fr h₀ L s.heap m) (X : (Mine.hd.heap_1 w.params).In h₀) (N : News h₀ L s.heap news) (T : Top p loose mean mg mb h₀) (hk : cs.kind = .function)
    (hd : dp + 7 < recursionLimit) (hb : bt ≤ 48) (hW : (W, tupObj [.str wd tw, .int f1 t1, .int f2 t2]) ∈ news)
    (hret : fits bt wd f1 f2 = true → ∀ h' tk', Fr h₀ L h' m → News h₀ L h' news → Q .none { s with heap := h', toks := tk' })
    (hraise : fits bt wd f1 f2 = false → RaisedTo dp un gd cn cs L a ccd outer base h₀ m news s E) :
    wpAny (model prog w) (ktrTop dp un gd cn cs L a ccd [] outer) (call (.ref 70) [.ref W, .int (bt : Int) tb]) Q E s := by
  rcases hwd with rfl | rfl
  · exact checkM B F X N T hk hd hb hW hret hraise
  · exact checkR B F X N T hk hd hb hW hret hraise
end

section
variable {prog : Program} {w : World} {A : Around} {E : Value → Shared → Prop} {s : Shared} {h₀ : Heap} {L : Addr} {m : Str → Option Value} {news : List (Addr × Obj)}
theorem dict_one {d : Addr} {o : Obj} {k : Int} {v : Value} {Q : Value → Shared → Prop} (F : Fr h₀ L s.heap m) (N : News h₀ L s.heap news) (hbig : h₀.NoLimit) (hd : (d, o) ∈ news) (lo : (d == sysModules) = false) (ho : Obj.IsDictOf (intKind prog w) o [(k, v)])
    (h : ∀ D o' h', Fr h₀ L h' m → News h₀ L h' ((D, o') :: news) → (∀ q ∈ news, q.1 < D) → (D == sysModules) = false → Obj.IsDictOf (intKind prog w) o' [(k, v)] → Q (.ref D) { s with heap := h' }) :
    wpAny (model prog w) A (call (.type "dict") [.ref d]) Q E s := by
  refine kt_call_dict lo (kda_dict N hd ho) (by rw [sizeLine_eq]; simp) fun h' hm hs => ?_
  obtain ⟨o', ho', hd'⟩ := Heap.dictOf_iff.mp hm
  have N1 := News.push F N { cls := .type "dict", data := .dict #[] }
  exact h _ o' h' ((F.push _).change hs (N1 _ (.head _)).2.1 (N1.fresh (.head _))) (N1.setHead N.apart hs ho') (fun q hq => Heap.lt_size (N q hq).1) (F.notModules (modules_low hbig)) hd'
end
section
variable {h₀ h h' g : Heap} {L L' : Addr} {m m' : Str → Option Value} {news news₁ all : List (Addr × Obj)}
theorem ctr_part (FG : Fr h₀ L g m) (N : News h₀ L h news) (hR : Rest h g news₁) (F' : Fr g L' h' m') (N' : News g L' h' all) (hs : ∀ q ∈ news, q.1 ∈ news₁.map (·.1) → q ∈ all) : News h₀ L h' news := fun q hq => by
  by_cases hn : q.1 ∈ news₁.map (·.1)
  · exact ctr_all FG N' (hs q hq hn)
  · exact ctr_old N hR F' hq hn
theorem news_one {a : Addr} {o : Obj} {q : Addr × Obj} (N : News h₀ L h news) (ha : (a, o) ∈ news) (hq : q ∈ news) (e : q.1 = a) : q = (a, o) := by
  have h1 := (N q hq).1
  have h2 := (N _ ha).1
  rw [e] at h1
  exact Prod.ext e (Option.some.inj (h1.symm.trans h2))
end
/-- a rule's dict -/
abbrev ruleDict (w : World) (av : Value) (c1 c2 : Tok) (D : Addr) : Obj :=
  dictOf [{ hash := PyData.keyHash w.params (Str.ofString "action"), key := .str (Str.ofString "action") c1, val := av }, { hash := PyData.keyHash w.params (Str.ofString "wishes"), key := .str (Str.ofString "wishes") c2, val := .ref D }] 2

section
variable {A₀ : Around} {base h₀ h h' g' : Heap} {outer : List Env} {L L' a : Addr} {m m' : Str → Option Value} {cn : Str} {cs : Scope} {ccd : Value} {news all : List (Addr × Obj)} {K : Frag} {p : Program} {loose : List Str} {mean : ExcName → Option Value} {mg mb : Str → Option Value}
/-- what a callee with a try hands back to its caller -/
theorem ctr_turned (B : Below A₀ base outer h₀) (F : Fr h₀ L h m) (N : News h₀ L h news) (XB : K.In base) (TB : Top p loose mean mg mb base) (D : KtsDicts (outer.filterMap (·.frame)) h₀) (T' : KtsTurn ((envOf cn cs L a ccd :: outer).filterMap (·.frame)) h g') (F' : Fr g' L' h' m') (N' : News g' L' h' all) :
    ∃ kg, KtsTurn (outer.filterMap (·.frame)) h₀ kg ∧ Fr kg L h' m ∧ News kg L h' (all ++ news) ∧ Below A₀ base outer kg ∧ K.In kg ∧ Top p loose mean mg mb kg ∧ KtsDicts (outer.filterMap (·.frame)) kg := by
  have nL₀ : h₀.get? L = none := kts_self F
  obtain ⟨oL, es, ep, hLg, hLd, hLk, hLf⟩ := F.ns
  obtain ⟨sl, hs⟩ := T'.up hLg
  obtain ⟨T₁, S₁⟩ := kts_turn_at (h := h') (fs := outer.filterMap (·.frame)) (g := h₀)
    (fun b hb => by
      obtain ⟨_, o, ho', _⟩ := B.frames.mem hb
      exact ⟨o, ho'⟩)
    (fun b o e nmem => F'.keep b o (T'.other b o (F.keep b o e) (fun q => by
      rcases kts_mem q with z | z
      · rw [z, nL₀] at e
        cases e
      · exact nmem z)))
    (fun b o e hm => by
      obtain ⟨sl', hs'⟩ := T'.up (F.keep b o e)
      exact ⟨sl', F'.keep _ _ hs'⟩)
  have B₃ : Below A₀ base outer (ktsHeap h' (outer.filterMap (·.frame)) h₀) := ⟨B.stack, fun b o e => T₁.other b o (B.stays b o e) (fun hm => by
    rw [(B.frames.mem hm).1] at e
    cases e), B.frames.of_keeps fun b o e _ => by
    obtain ⟨sl', hs'⟩ := T₁.up e
    exact ⟨_, hs', rfl⟩⟩
  refine ⟨_, T₁, ⟨⟨_, es, ep, F'.keep _ _ hs, hLd, hLk, hLf⟩, S₁, by rw [T₁.size]; exact F.above⟩, fun q hq => ?_, B₃, XB.keeps B₃.stays, TB.keeps B₃.stays, D.turn T₁⟩
  rcases List.mem_append.mp hq with hq | hq
  · refine ⟨(N' q hq).1, fun e => ?_, ?_⟩
    · have := (N' q hq).2.2; rw [e, hs] at this; cases this
    · refine T₁.none_ _ ?_
      cases e : h₀.get? q.1 with
      | none => rfl
      | some o =>
        obtain ⟨sl', hs'⟩ := T'.up (F.keep _ _ e)
        have := (N' q hq).2.2
        rw [hs'] at this
        cases this
  · obtain ⟨n1, n2, n3⟩ := N q hq
    refine ⟨F'.keep _ _ (T'.other _ _ n1 fun e => ?_), n2, T₁.none_ _ n3⟩
    rcases kts_mem e with z | z
    · exact n2 z
    · obtain ⟨_, o, ho', _⟩ := B.frames.mem z
      rw [n3] at ho'
      cases ho'
end
theorem wishOf_wd {x wd : Str} {a b : Int} (h : wishOf x = some (wd, a, b)) : wd = Str.ofString "mask" ∨ wd = Str.ofString "range" := by
  unfold wishOf at h
  split at h
  · rename_i p q _
    cases e1 : figs (Str.ofString "0123456789abcdef") p <;> rw [e1] at h <;> cases e2 : figs (Str.ofString "0123456789abcdef") q <;> simp [e2] at h
    exact .inl h.1.symm
  · split at h
    · rename_i p q _
      cases e1 : figs (Str.ofString "0123456789") p <;> rw [e1] at h <;> cases e2 : figs (Str.ofString "0123456789") q <;> simp [e2] at h
      exact .inr h.1.symm
    · cases h
abbrev TurnedTo (A₀ : Around) (base : Heap) (outer : List Env) (K : Frag) (p : Program) (loose : List Str) (mean : ExcName → Option Value) (mg mb : Str → Option Value) (h₀ : Heap) (L : Addr) (m : Str → Option Value) (news : List (Addr × Obj)) (s : Shared) (v : Value) (Q : Value → Shared → Prop) : Prop :=
  ∀ kg h' tk', KtsTurn (outer.filterMap (·.frame)) h₀ kg → Fr kg L h' m → News kg L h' news → Below A₀ base outer kg → K.In kg → Top p loose mean mg mb kg → KtsDicts (outer.filterMap (·.frame)) kg → Q v { s with heap := h', toks := tk' }

section
variable {prog : Program} {w : World} {A₀ A : Around} {s : Shared} {base h₀ : Heap} {outer : List Env} {L a : Addr} {m : Str → Option Value} {cn : Str} {cs : Scope} {ccd : Value} {K : Frag} {p : Program} {loose : List Str} {mean : ExcName → Option Value} {mg mb : Str → Option Value}
    {Q E : Value → Shared → Prop} {name qual : Str} {params : Arguments} {body : List Stmt} {scope : Scope} {dV kV doc pm cdv ct oc : Value} {an od : Option Addr} {osl : Array (Option Value)} {f : Addr} {vals : List Value} {binds : List (Str × Value)}

/-- as ctr_enter, out of a frame with cells -/
theorem ctr_enterX {cl : List (Str × Addr)} (B : Below A₀ base outer h₀) (F : Fr h₀ L s.heap m) (X₀ : K.In h₀) (T : Top p loose mean mg mb h₀) (D : KtsDicts (outer.filterMap (·.frame)) h₀) (hA : A.frames = some (envX cn cs L a ccd cl :: outer)) (hck : cs.kind = .function)
    (ho : K.lookup f = some ⟨oc, od, .func (fnOf name qual params body scope dV kV doc pm an cdv ct), osl⟩) (hcd : codeIn K cdv qual = true) (hroom : A.depth < recursionLimit)
    (hbind : BindsTo s (fnOf name qual params body scope dV kV doc pm an cdv ct) ⟨vals, []⟩ binds) (hloc : ∀ y ∈ binds, scope.names.lookup y.1 = some .local)
    (h : ∀ L' h₁, Fr s.heap L' h₁ (fun y => binds.reverse.lookup y) → News s.heap L' h₁ [] → Below A base (envX cn cs L a ccd cl :: outer) s.heap → K.In s.heap → Top p loose mean mg mb s.heap → KtsDicts ((envX cn cs L a ccd cl :: outer).filterMap (·.frame)) s.heap →
      wpAny (model prog w) (A.deeper (envOf qual scope L' f cdv)) (execs body (envOf qual scope L' f cdv)) (fun fl s' => Q (match fl with | .ret v => v | _ => .none) s')
        (fun e s' => wpAny (model prog w) (A.deeper (envOf qual scope L' f cdv)) (leaving (envOf qual scope L' f cdv) e) (fun _ s'' => E e s'') (fun e' s'' => E e' s'') s')
        { s with heap := h₁, toks := s.toks + binds.length })
    (hco : scope.isCoroutine = false) (hgen : scope.isGenerator = false) (hk : scope.kind = .function) (hcell : ∀ x ∈ scope.names, x.2 ≠ .cell) :
    wpAny (model prog w) A (call (.ref f) vals) Q E s := by
  have X := X₀.keeps F.keep
  refine wpAny_call (codeAny_call_def (fd := fnOf name qual params body scope dV kV doc pm an cdv ct) (body := body) (binds := binds) hroom (X _ _ ho) rfl (T.nolimit.keeps F.keep) (codeRec_of X hcd) rfl hbind hcell hloc (fun h₁ hns hk₁ => ?_) hco hgen hk)
  obtain ⟨oL, es, ep, hLg, hLd, hN, hNs, st, B₂⟩ := kts_enter (A := ktrTop 0 0 none cn cs L a ccd [] outer) B F (News.nil (h₀ := h₀) (L := L)) rfl hck
  exact h s.heap.objs.size h₁ ⟨hns, fun b o e => hk₁ b o e, Nat.le_refl _⟩ News.nil ⟨hA, B₂.stays, B₂.frames⟩ X (T.keeps F.keep) (fun b hb => by
    rcases kts_mem (name := cn) (scope := cs) (a := a) (cd := ccd) hb with rfl | hb
    · exact ⟨oL, es, ep, hLg, hLd⟩
    · obtain ⟨o, es', n', ho', hd'⟩ := D b hb
      exact ⟨o, es', n', F.keep b o ho', hd'⟩)
end
section
variable {A₀ : Around} {base h₀ h h' g' : Heap} {outer : List Env} {L L' a : Addr} {m m' : Str → Option Value} {cn : Str} {cs : Scope} {ccd : Value} {news all : List (Addr × Obj)} {K : Frag} {p : Program} {loose : List Str} {mean : ExcName → Option Value} {mg mb : Str → Option Value}
theorem ctr_turnedX {cl : List (Str × Addr)} (B : Below A₀ base outer h₀) (F : Fr h₀ L h m) (N : News h₀ L h news) (XB : K.In base) (TB : Top p loose mean mg mb base) (D : KtsDicts (outer.filterMap (·.frame)) h₀) (T' : KtsTurn ((envX cn cs L a ccd cl :: outer).filterMap (·.frame)) h g') (F' : Fr g' L' h' m') (N' : News g' L' h' all) :
    ∃ kg, KtsTurn (outer.filterMap (·.frame)) h₀ kg ∧ Fr kg L h' m ∧ News kg L h' (all ++ news) ∧ Below A₀ base outer kg ∧ K.In kg ∧ Top p loose mean mg mb kg ∧ KtsDicts (outer.filterMap (·.frame)) kg :=
  ctr_turned (cn := cn) (cs := cs) (a := a) (ccd := ccd) B F N XB TB D T' F' N'
end

-- M24body.txt
section
variable {prog : Program} {w : World} {A : Around} {E : Value → Shared → Prop} {s : Shared} {h₀ : Heap} {L D : Addr} {m : Str → Option Value} {news : List (Addr × Obj)} {n : Nat}
theorem sort_nil {news' : List (Addr × Obj)} {Q : Value → Shared → Prop} (F : Fr h₀ L s.heap m) (N : News h₀ L s.heap news) (U : Upd D (listOf #[] n) (listOf #[] n) news news')
    (h : ∀ h', Fr h₀ L h' m → News h₀ L h' news' → Q .none { s with heap := h' }) : wpAny (model prog w) A (call (.builtin "list.sort") [.ref D]) Q E s := by
  obtain ⟨pre, post, e1, e2, a, b⟩ := U.split
  have z := N (D, listOf #[] n) (by rw [e1]; exact List.mem_append.mpr (.inr (.head _)))
  refine wpAny_call_entry PyProof.Rows.slot_list_sort ⟨_, z.1, rfl⟩ PyProof.Rows.entry_list_sort (list_sort_tree (n := n) (vs := []) z.1 .nil (by decide) fun out ns' hI hp hP => ⟨.none, rfl, ?_⟩) (PyProof.Rows.args_list_sort _)
  have hl : out.toList.length = 0 := by
    have h1 := hp.length_eq
    have h2 := hI.length
    simp at h1
    rw [h2, h1]
    rfl
  obtain rfl : out = #[] := Array.toList_inj.mp (List.eq_nil_of_length_eq_zero hl)
  rw [e1] at N
  have F1 : Fr h₀ L (s.heap.update D (Obj.mapSeq fun _ => (#[] : Array Value))) m := F.change (Heap.SameBut.update ..) z.2.1 z.2.2
  have N1 := ki_turn (fun _ => (#[] : Array Value)) (its' := #[]) (n' := n) N a b rfl (by simp)
  have N2 := News.grown N1 fun _ _ e => Heap.get?_push_of_some (seqObj "tuple" ([] : List Value).toArray 0) e
  have N3 := News.grown N2 fun _ _ e => Heap.get?_push_of_some (seqObj "list" #[] 0) e
  have N4 := ki_turn (fun _ => (#[] : Array Value)) (its' := #[]) (n' := n) N3 a b rfl (by simp)
  have F4 : Fr h₀ L ((((s.heap.update D (Obj.mapSeq fun _ => (#[] : Array Value))).push (seqObj "tuple" ([] : List Value).toArray 0)).push (seqObj "list" #[] 0)).update D (Obj.mapSeq fun _ => (#[] : Array Value))) m :=
    ((F1.push (seqObj "tuple" ([] : List Value).toArray 0)).push (seqObj "list" #[] 0)).change (Heap.SameBut.update ..) z.2.1 z.2.2
  refine h _ F4 ?_
  rw [e2]
  exact N4
theorem sorted_nil {d : Addr} {o : Obj} {Q : Value → Shared → Prop} (hh : A.handled = none) (F : Fr h₀ L s.heap m) (N : News h₀ L s.heap news) (hd : (d, o) ∈ news) (lo : (d == sysModules) = false) (ho : Obj.IsDictOf (intKind prog w) o [])
    (h : ∀ B k h' tk', Fr h₀ L h' m → News h₀ L h' ((B, W.listOf #[] k) :: news) → (∀ q ∈ news, q.1 < B) → Q (.ref B) { s with heap := h', toks := tk' }) :
    wpAny (model prog w) A (call (.builtin "sorted") [.ref d]) Q E s := by
  obtain ⟨es, ep, r⟩ := ho
  refine kdu_sorted (kdl_dict (knd := intKind prog w) (kvs := []) (ep := ep) lo) hh F N ⟨o, es, (N _ hd).1, r⟩ (by rw [sizeLine_eq]; simp) fun D h' tk vs F' N' l1 hl hv => ?_
  obtain rfl : vs = [] := List.eq_nil_of_length_eq_zero hl
  exact sort_nil F' N' (Upd.head fun p hp => Nat.ne_of_lt (l1 p hp)) fun h'' F'' N'' => h D _ h'' tk F'' N'' l1
end
section
variable {prog : Program} {w : World} {A : Around} {E : Value → Shared → Prop} {s : Shared}
theorem notin_two_ref {l t : Addr} {x y : Str} {t1 t2 : Tok} {d : PyData} {as : List Addr} {Q : Value → Shared → Prop} (ht : IsTup s.heap t #[.str x t1, .str y t2])
    (r : Reads s.heap (.ref l) d as) (sh : SeqAt.shaped d = true) (hu : A.units + 80 < cLine) (e1 : PyData.eqv (.str x) d = false) (e2 : PyData.eqv (.str y) d = false) (sx : SeqAt.shaped (.str x) = true) (sy : SeqAt.shaped (.str y) = true)
    (h : Q (.bool true) s) : wpAny (model prog w) A (compareOp .NotIn (.ref l) (.ref t)) Q E s := by
  have eqs : ∀ {A' : Around} {z : Str} {tz : Tok} {Q' : Bool → Shared → Prop} {E' : Value → Shared → Prop}, A'.units + 64 < cLine → PyData.eqv (.str z) d = false → SeqAt.shaped (.str z) = true → Q' false s → wpAny (model prog w) A' (eqBool (.str z tz) (.ref l)) Q' E' s := by
    intro A' z tz Q' E' hu' ez sz hq
    unfold eqBool
    refine wpAny_holding ?_
    rw [if_neg (by simp)]
    refine wpAny_bind ?_
    refine eq_dataH (Q := fun v s' => wpAny (model prog w) A' (truthOfDropped v) Q' E' s') (.str z tz) r sz sh hu' ?_
    rw [ez]
    exact wpAny_truthy_bool hq
  show wpAny _ _ (do return .bool (!(← contains (.ref t) (.ref l)))) Q E s
  refine wpAny_bind ?_
  unfold contains
  refine wpAny_holding ?_
  refine wpAny_bind (wpAny_specialOf ht.typeIs slot_tuple_contains.lookup ?_)
  rw [if_neg (by decide)]
  refine wpAny_bind (wpAny_callSpecialUnlessNone?_slot (name := Str.ofString "__contains__") ht.typeIs slot_tuple_contains
    (wpAny_call_entry slot_tuple_contains ht.typeIs entry_tuple_contains ?_ (args_tuple_contains _ _)))
  have hu1 : (A.in1).units + 64 < cLine := by rw [units_in1]; omega
  show wpAny _ _ (Builtin.Tuple.tupleItemsOf (.ref t) >>= _) _ _ s
  refine wpAny_bind (tupleItemsOf_ ht ?_)
  refine wpAny_bind ?_
  rw [← Array.forIn_toList]
  show wpAny _ _ (forIn [Value.str x t1, Value.str y t2] _ _) _ _ s
  rw [List.forIn_cons]
  refine wpAny_bind (wpAny_bind (eqs hu1 e1 sx ?_))
  refine wpAny_pure ?_
  dsimp only
  rw [List.forIn_cons]
  refine wpAny_bind (wpAny_bind (eqs hu1 e2 sy ?_))
  refine wpAny_pure ?_
  dsimp only
  rw [List.forIn_nil]
  refine wpAny_pure ?_
  exact wpAny_pure ⟨_, rfl, wpAny_truthy_bool (wpAny_pure h)⟩
end
theorem shaped_mark (f : Int) : SeqAt.shaped (.tuple [.str (Str.ofString "mark"), .int f]) = true := by
  have : SeqAt.shaped (.tuple [.str (Str.ofString "mark"), .int 0]) = true := by decide +kernel
  exact this
theorem units_make (A : Around) (C : Addr) (vals : List Value) : (A.under (.builtin "type.__call__" ⟨.ref C :: vals, []⟩)).units = A.units + 1 := rfl
section
variable {prog : Program} {w : World} {A : Around} {E : Value → Shared → Prop} {s : Shared} {h₀ : Heap} {L : Addr} {m : Str → Option Value} {news : List (Addr × Obj)}
theorem dict_nil {d : Addr} {o : Obj} {Q : Value → Shared → Prop} (F : Fr h₀ L s.heap m) (N : News h₀ L s.heap news) (hbig : h₀.NoLimit) (hd : (d, o) ∈ news) (lo : (d == sysModules) = false) (ho : Obj.IsDictOf (intKind prog w) o [])
    (h : ∀ D o' h', Fr h₀ L h' m → News h₀ L h' ((D, o') :: news) → (∀ q ∈ news, q.1 < D) → (D == sysModules) = false → Obj.IsDictOf (intKind prog w) o' [] → Q (.ref D) { s with heap := h' }) :
    wpAny (model prog w) A (call (.type "dict") [.ref d]) Q E s := by
  refine kt_call_dict lo (kda_dict N hd ho) (by rw [sizeLine_eq]; simp) fun h' hm hs => ?_
  obtain ⟨o', ho', hd'⟩ := Heap.dictOf_iff.mp hm
  have N1 := News.push F N { cls := .type "dict", data := .dict #[] }
  exact h _ o' h' ((F.push _).change hs (N1 _ (.head _)).2.1 (N1.fresh (.head _))) (N1.setHead N.apart hs ho') (fun q hq => Heap.lt_size (N q hq).1) (F.notModules (modules_low hbig)) hd'
end

section Ex1759
example : True := by
  k_with "call builtin:sorted" => (k_here; (with_reducible show wpAny _ _ (call (Value.builtin "sorted") [Value.ref _]) _ _ _); k_dflt (refine' sorted_nil ?k0 ?k1 ?k2 ?k3 ?k4 ?k5 ?_; (case k0 => exact rfl); (case k1 => k_asm); (case k2 => k_asm); (case k3 => k_mem); (case k5 => first | assumption | exact ⟨_, _, rfl, by simp⟩); (case k4 => assumption)); intro B'w9 k'w9 h'w9 tk'w9 F'w9 N'w9 l1w9; (try k_lt l1w9); (try k_sweep))
  k_with "compareOp NotIn ref ref" => (k_here; k_dflt (refine' notin_two_ref ?k1 ?k2 ?k3 ?k4 ?k5 ?k6 ?k7 ?k8 ?_; (case k1 => exact isTup_of (by k_asm) (by k_mem)); (case k2 => ked_read); (case k3 => exact shaped_mark _); (case k4 => (have hcL9w9 := cLine_is); (simp only [units_make, units_deeper, units_in1]); omega); (case k5 => rfl); (case k6 => rfl); (case k7 => decide +kernel); (case k8 => decide +kernel)))
  k_with "call type:dict" => (k_here; (with_reducible show wpAny _ _ (call (Value.type "dict") [Value.ref _]) _ _ _); k_dflt (refine' dict_nil ?k1 ?k2 ?k3 ?k4 ?k5 ?k6 ?_; (case k1 => k_asm); (case k2 => k_asm); (case k3 => exact Top.nolimit (by k_asm)); (case k4 => k_mem); (case k5 => assumption); (case k6 => assumption)); intro D'w9 o'w9 h'w9 F'w9 N'w9 l1w9 lo'w9 ho'w9; (try k_lt l1w9); (try k_sweep))
  trivial
section
variable {prog : Program} {w : World} {dp un : Nat} {gd : Option (List Code)} {cn : Str} {cs : Scope} {a : Addr} {ccd : Value} {outer : List Env} {A₀ : Around} {base h₀ : Heap} {L : Addr} {m : Str → Option Value} {news : List (Addr × Obj)} {s : Shared}
    {E : Value → Shared → Prop} {p : Program} {loose : List Str} {mean : ExcName → Option Value} {mg mb : Str → Option Value}

set_option maxHeartbeats 8000000 in
theorem con_ruleM {Q : Value → Shared → Prop} {t1 t2 : Tok} {f : Int} {W TA : Addr} {o₁ : Obj}
    (B : Below A₀ base outer h₀) (F : Fr h₀ L s.heap m) (X : (Mine.hd.heap_1 w.params).In h₀) (N : News h₀ L s.heap news) (T : Top p loose mean mg mb h₀) (hk : cs.kind = .function)
    (hd : dp + 9 < recursionLimit) (hu : un + 200 < cLine)
    (hW : (W, o₁) ∈ news) (hW0 : (W == sysModules) = false) (hT : (TA, tupObj [.str (Str.ofString "mark") t1, .int f t2]) ∈ news) (ho : Obj.IsDictOf (intKind prog w) o₁ [])
    (hret : 0 ≤ f → f ≤ 7 → ∀ x dx D o' c1 c2 h' tk', Fr h₀ L h' m → News h₀ L h' ((x, instObj 106 dx) :: (dx, ruleDict w (.ref TA) c1 c2 D) :: (D, o') :: news) → (∀ q ∈ news, q.1 < dx) → @LT.lt Nat _ dx x → @LT.lt Nat _ x D → (D == sysModules) = false →
      Obj.IsDictOf (intKind prog w) o' [] → Q (.ref x) { s with heap := h', toks := tk' })
    (hraise : ¬ (0 ≤ f ∧ f ≤ 7) → RaisedTo dp un gd cn cs L a ccd outer base h₀ m news s E) :
    wpAny (model prog w) (ktrTop dp un gd cn cs L a ccd [] outer) (call (.ref 106) [.ref TA, .ref W]) Q E s := by
  refine call_cls F X N (by k_is) (by k_is) (by k_is) fun x dx h₂ F₂ N₂ l1 l2 => ?_
  have N₁ : News h₀ L h₂ [(x, instObj 106 dx), (dx, dictOf [] 0), (W, o₁), (TA, tupObj [.str (Str.ofString "mark") t1, .int f t2])] := fun q hq => by
    simp only [List.mem_cons, List.not_mem_nil, or_false] at hq
    rcases hq with rfl | rfl | rfl | rfl
    · exact N₂ _ (.head _)
    · exact N₂ _ (.tail _ (.head _))
    · exact N₂ _ (.tail _ (.tail _ hW))
    · exact N₂ _ (.tail _ (.tail _ hT))
  have lW : @LT.lt Nat _ W dx := l1 _ hW
  have lT : @LT.lt Nat _ TA dx := l1 _ hT
  have lx : @LT.lt Nat _ dx x := l2
  refine ctr_code _ (s := { s with heap := h₂ }) B F₂ X N₁ T rfl hk (by k_is) (by k_is) (by ktr_room) (BindsTo.of_eq rfl) (locs rfl) ?_ rfl rfl rfl (by decide)
  k_whole
  intro g' L' h' hR FG' F' N' B' X' T'
  (try dsimp only)
  (try k_fold)
  k_steps
  all_goals first
    | (dsimp only [InitBack]; exact raised_to (s := { s with heap := h₂ }) B (fun q hq => N₂ q (.tail _ (.tail _ hq))) N₁ hR FG' (raisedS_mono (by assumption) fun p hp => by repeat (first | exact hp | refine List.mem_cons_of_mem _ ?_)) (by assumption) hk (hraise (by omega)))
    | (refine ⟨rfl, ?_⟩
       refine' hret (by omega) (by omega) x dx ?_ ?_ ?_ ?_ ?_ ?_ (ctr_frN FG' (by assumption)) ?hN l1 l2 ?hlt ?hlo ?hho
       case hho => assumption
       case hlo => assumption
       case hlt => omega
       case hN =>
         have No : News h₀ L _ news := ctr_part FG' (fun q hq => N₂ q (.tail _ (.tail _ hq))) hR (by assumption) (by assumption) fun q hq hm => by
           simp only [List.map_cons, List.map_nil, List.mem_cons, List.not_mem_nil, or_false] at hm
           rcases hm with e | e | e | e
           · exact absurd (show @LT.lt Nat _ x dx from e ▸ l1 q hq) (Nat.lt_asymm l2)
           · exact absurd (show @LT.lt Nat _ dx dx from e ▸ l1 q hq) (Nat.lt_irrefl _)
           · rw [news_one N hW hq e]; k_mem
           · rw [news_one N hT hq e]; k_mem
         intro q hq
         rcases List.mem_cons.mp hq with rfl | hq
         · exact ctr_all FG' (by assumption) (by k_mem)
         rcases List.mem_cons.mp hq with rfl | hq
         · exact ctr_all FG' (by assumption) (by k_mem)
         rcases List.mem_cons.mp hq with rfl | hq
         · exact ctr_all FG' (by assumption) (by k_mem)
         exact No q hq)
    | (trace_state; w_report)
end

example : True := by
  k_with_none
  k_with "ite" => (k_here; (with_reducible show (if (!_) = true then _ else _)); (with_reducible refine' ite_no ?itb ?_); (case itb => k_dflt decide))
  k_with "w k_in" => (refine' Frag.In.keeps ?xa (Fr.keep ?xb); (case xb => with_reducible assumption); (case xa => with_reducible assumption))
  k_with "w k_all" => first | exact allNe (by assumption) | exact allNe (allLt_le (by assumption) (by (try dsimp only); omega))
  k_with "w k_room" => ktr_room
  k_with "w ktr_enter" => (refine' code_def ?k1 ?k2 ?k3 ?k4 ?k5 ?kA ?kF ?kK ?k6 ?k7 ?k8 ?k9 ?kB ?_ ?c2 ?c3 ?c4 ?c5; (case kA => exact rfl); (case kF => exact rfl); (case kK => first | exact rfl | assumption); (case k1 => k_asm); (case k2 => k_asm); (case k3 => k_asm); (case k4 => k_asm); (case k5 => k_asm); (case k6 => k_is); (case k7 => k_is); (case k8 => ktr_room); (case k9 => first | exact BindsTo.of_eq rfl | exact binds_K (by k_in) rfl (by k_is) rfl rfl rfl | fail "ktr_enter: no rule for these arguments"); (case c5 => decide); (case kB => exact locs rfl); (case c2 => exact rfl); (case c3 => exact rfl); (case c4 => exact rfl); k_whole; intro g'w9 L'w9 h'w9 FG'w9 F'w9 N'w9 B'w9 X'w9 T'w9; (try dsimp only); (try k_lift B'w9); (try k_fold))
  k_with "getMethod type:Exception" => (k_here; refine' method_type ?F ?X ?m (by decide +kernel) ?e ?h ?_; (case F => k_asm); (case X => k_asm); (case m => exact meta_Exception); (case e => k_dflt k_is); (case h => k_handed))
  k_with "call builtin:Exception.__init__" => (k_here; k_dflt (refine' se_bInit ?k1 ?k2 ?k3 ?k4 ?k5 ?k6 ?k7 ?_; (case k1 => k_asm); (case k2 => k_asm); (case k3 => k_asm); (case k4 => k_mem); (case k5 => k_is); (case k6 => decide); (case k7 => intro t'w9; k_upd)); intro t'w9 h'w9 F'w9 N'w9 l1w9; (try k_lt l1w9); (try k_sweep))
  k_with "setAttr ref" => (k_here; k_dflt (refine' se_set1 ?k1 ?k2 ?k3 ?k4 ?k5 ?k6 ?k7 ?k8 ?k9 ?k10 ?k11 ?_; (case k1 => k_asm); (case k2 => k_asm); (case k3 => k_asm); (case k4 => k_mem); (case k5 => k_is); (case k6 => rfl); (case k7 => k_is); (case k8 => exact se_pass); (case k9 => k_is); (case k10 => k_is); (case k11 => intro t'w9; k_upd)); intro t'w9 h'w9 F'w9 N'w9 l1w9; (try k_lt l1w9); (try k_sweep))
  k_with "setAttr ref" => (k_here; k_dflt (refine' se_set2 ?k1 ?k2 ?k3 ?k4 ?kd ?k5 ?k6 ?k7 ?k8 ?k9 ?k10 ?k11 ?k12 ?k13 ?k14 ?_; (case k1 => k_asm); (case k2 => k_asm); (case k3 => k_asm); (case k4 => k_mem); (case kd => k_mem); (case k5 => k_is); (case k6 => rfl); (case k7 => k_is); (case k8 => exact se_pass); (case k9 => k_is); (case k10 => k_is); (case k11 => k_get); (case k12 => k_put); (case k13 => k_upd); (case k14 => exact Nat.le_of_ble_eq_true rfl)); intro h'w9 F'w9 N'w9; (try k_sweep))
  k_with "exec Raise some none" => (k_here; k_dflt (refine' se_Raise ?h ?_; (case h => exact rfl)))
  k_with "call ref" => (k_here; (with_reducible show wpAny _ _ (call (Value.ref 54) [Value.str _ _]) _ _ _); k_dflt (refine' se_make ?k1 ?k2 ?k3 ?k4 ?k5 ?k6 ?k7 ?_; (case k1 => k_asm); (case k2 => k_asm); (case k3 => k_asm); (case k4 => k_asm); (case k5 => k_asm); (case k6 => first | exact rfl | assumption); (case k7 => ktr_room)); intro e'w9 t'w9 d'w9 h'w9 tk'w9 F'w9 N'w9 l1w9 l2w9; (replace l1w9 := allLt_of l1w9); (have l1bw9 := l1w9); (try simp only [AllLt, and_true] at l1bw9); (try k_lt2 l2w9); (try k_sweep))
  k_with "SeRaised" => (refine' ⟨_, _, _, rfl, ?X, ?m, ?_⟩; (case X => k_in); (case m => exact News.get (by k_asm) (by k_mem)))
  k_with "leaving ref" => (k_here; k_dflt (refine' se_leave ?k1 ?k2 ?k3 ?k4 ?k5 ?_; (case k2 => k_asm); (case k1 => k_asm); (case k3 => k_asm); (case k4 => first | assumption | (simp only [AllLt, and_true]; omega)); (case k5 => omega)); intro h'w9 R'w9 R2'w9 U'w9; (try dsimp only at R'w9 R2'w9 U'w9 ⊢))
  k_with "call ref" => (k_here; (with_reducible show wpAny _ _ (call (Value.ref 117) [Value.str _ _, Value.str _ _]) _ _ _); k_dflt (refine' con_figs ?k1 ?k2 ?k3 ?k4 ?k5 ?k6 ?k7 ?k8 ?k9 (fun f'w9 t'w9 h'w9 tk'w9 hf'w9 F'w9 N'w9 => ?_) (fun hE'w9 g'w9 e'w9 t'w9 vs'w9 h'w9 tk'w9 G'w9 B'w9 R'w9 U'w9 => ?_); (case k1 => k_asm); (case k2 => k_asm); (case k3 => k_asm); (case k4 => k_asm); (case k5 => k_asm); (case k6 => first | exact rfl | assumption); (case k7 => ktr_room); (case k8 => first | assumption | decide); (case k9 => decide)); all_goals (try k_sweep))
  k_with "w k_upd" => first | (refine' Drop.head ?a; (case a => k_all)) | (refine' Drop.tail ?a ?b; (case a => k_ne); (case b => k_upd))
  k_with "exec For Tuple Tuple cons nil" => (k_here; k_dflt (refine' for_enter ?_ ?hs; (case hs => intro _; exact rfl)))
  k_with "exec For Name Call cons nil" => (k_here; k_dflt (refine' for_enter ?_ ?hs; (case hs => intro _; exact rfl)))
  k_with "pyIter ref" => (k_here; (with_reducible show wpAny _ _ (pyIter (Value.ref _)) (ForAt _ _ _ _ _ _ _ _) _ _); k_dflt (first | (refine' iter_tuple_K ?k1 ?k2 ?k3 ?_; (case k1 => k_asm); (case k2 => k_asm); (case k3 => k_mem)) | (refine' iter_list_K ?k1 ?k2 ?k3 ?_; (case k1 => k_asm); (case k2 => k_asm); (case k3 => k_mem)) | (refine' iter_range_K ?k1 ?k2 ?k3 ?k4 ?_; (case k1 => k_asm); (case k2 => k_asm); (case k3 => assumption); (case k4 => decide))); intro I'w9 h'w9 F'w9 N'w9 l1w9; (try k_lt l1w9); (try k_sweep))
  k_with "ForAt" => (refine ⟨_, rfl, ?_⟩)
  k_with "ForGo" => (refine for_turn (by passes_own) ?_)
  k_with "pyNext ref" => (k_here; k_dflt (first | (refine' next_tuple_K ?k1 ?k2 ?k3 ?k4 ?k5 ?k6 ?_; (case k1 => k_asm); (case k2 => k_asm); (case k3 => k_mem); (case k4 => k_mem); (case k5 => exact rfl); (case k6 => intro d'w9 sl'w9; k_upd); intro d'w9 sl'w9 h'w9 F'w9 N'w9; (try k_sweep)) | (refine' end_tuple_K ?k0 ?k1 ?k2 ?k3 ?k4 ?k5 ?k6 ?_; (case k0 => exact rfl); (case k1 => k_asm); (case k2 => k_asm); (case k3 => k_mem); (case k4 => k_mem); (case k5 => exact rfl); (case k6 => k_upd); intro h'w9 F'w9 N'w9; (try k_sweep)) | (refine' next_list_K ?k1 ?k2 ?k3 ?k4 ?k5 ?k6 ?_; (case k1 => k_asm); (case k2 => k_asm); (case k3 => k_mem); (case k4 => k_mem); (case k5 => exact rfl); (case k6 => intro d'w9 sl'w9; k_upd); intro d'w9 sl'w9 h'w9 F'w9 N'w9; (try k_sweep)) | (refine' end_list_K ?k0 ?k1 ?k2 ?k3 ?k4 ?k5 ?k6 ?_; (case k0 => exact rfl); (case k1 => k_asm); (case k2 => k_asm); (case k3 => k_mem); (case k4 => k_mem); (case k5 => exact rfl); (case k6 => k_upd); intro h'w9 F'w9 N'w9; (try k_sweep)) | (refine' next_range_K ?k1 ?k2 ?k3 ?k4 ?k5 ?_; (case k1 => k_asm); (case k2 => k_asm); (case k3 => k_mem); (case k4 => decide); (case k5 => k_upd); intro h'w9 F'w9 N'w9; (try k_sweep)) | (refine' end_range_K ?k0 ?k1 ?k2 ?k3 ?k4 ?k5 ?_; (case k0 => exact rfl); (case k1 => k_asm); (case k2 => k_asm); (case k3 => k_mem); (case k4 => decide); (case k5 => k_upd); intro h'w9 F'w9 N'w9; (try k_sweep))))
  k_with "ForNext" => (dsimp only [ForNext])
  k_with "ForBody" => (dsimp only [ForBody])
  k_with "letOwnedTupleGo" => (k_here; k_dflt (first | (refine' let_name_K ?_; k_whole) | (refine' let_iter_K ?k1 ?k2 ?k3 ?_; (case k1 => k_asm); (case k2 => k_mem); (case k3 => decide))))
  k_with "call builtin:str.split" => (k_here; (with_reducible show wpAny _ _ (call (Value.builtin "str.split") [Value.str _ _, Value.str _ _]) _ _ _); k_dflt (refine' KSpl.split1 ?k1 ?k2 ?k3 ?_ ?k4; (case k1 => k_asm); (case k2 => k_asm); (case k3 => decide); (case k4 => exact line_of_le (by assumption))); intro D'w9 l'w9 h'w9 k'w9 e'w9 a'w9 F'w9 N'w9 l1w9; (try k_lt l1w9); first | ((replace e'w9 := e'w9.trans (by assumption)); (kspl_open e'w9); (simp only [strValues, List.map_cons, List.map_nil] at N'w9 a'w9); (try k_sweep)) | ((have hlen'w9 := split_ne e'w9 (by assumption)); (try k_sweep)))
  k_with "leaving ref" => (k_here; k_dflt (refine' leave_onS ?k1 ?k2 ?k3 ?k4 ?_; (case k3 => assumption); (case k2 => assumption); (case k1 => assumption); (case k4 => assumption)); intro h'w9 S'w9 R'w9 U'w9; (try dsimp only at S'w9 R'w9 U'w9 ⊢))
  k_with "call ref" => (k_here; (with_reducible show wpAny _ _ (call (Value.ref 124) [Value.str _ _]) _ _ _); k_dflt (refine' con_wish ?k1 ?k2 ?k3 ?k4 ?k5 ?k6 ?k7 ?k8 ?k9 ?k10 (fun wd'w9 f1'w9 f2'w9 t1'w9 t2'w9 t3'w9 D'w9 h'w9 tk'w9 hf'w9 F'w9 N'w9 l1w9 => ?_) (fun hE'w9 g'w9 e'w9 t'w9 vs'w9 h'w9 tk'w9 G'w9 B'w9 R'w9 U'w9 => ?_); (case k1 => k_asm); (case k2 => k_asm); (case k3 => k_asm); (case k4 => k_asm); (case k5 => k_asm); (case k6 => first | exact rfl | assumption); (case k7 => ktr_room); (case k8 => assumption); (case k9 => assumption); (case k10 => assumption)); all_goals (try simp only [AllLt, and_true] at l1w9); all_goals (try k_sweep))
  k_with "compareOp In ref ref" => (k_here; k_dflt (refine' in_two ?k1 ?k2 ?k3 ?k4 ?k5 ?k6 ?k7 ?k8 ?k9 ?k10 ?k11 ?_; (case k1 => exact isTup_of (by k_asm) (by k_mem)); (case k4 => ked_read); (case k5 => ked_read); (case k6 => ked_read); (case k2 => k_ne); (case k3 => k_ne); (case k7 => first | assumption | decide +kernel | ked_shaped); (case k8 => first | decide +kernel | ked_shaped); (case k9 => first | decide +kernel | ked_shaped); (case k10 => ktr_units); (case k11 => first | assumption | decide +kernel | rfl)))
  k_with "call builtin:str.split" => (k_here; (with_reducible show wpAny _ _ (call (Value.builtin "str.split") [Value.str _ _]) _ _ _); k_dflt (refine' KSpl.split0 ?k1 ?k2 ?_ ?k4; (case k1 => k_asm); (case k2 => k_asm); (case k4 => exact line_of_le (by assumption))); intro D'w9 l'w9 h'w9 k'w9 e'w9 a'w9 F'w9 N'w9 l1w9; (try k_lt l1w9); (replace e'w9 := e'w9.trans (by assumption)); (kspl_open e'w9); (simp only [strValues, List.map_cons, List.map_nil] at N'w9 a'w9); (try k_sweep))
  k_with "compareOp NotIn str ref" => (k_here; k_dflt (refine' notin_names ?X ?h ?_; (case X => k_in); (case h => assumption)))
  k_with "call builtin:tuple.index" => (k_here; k_dflt (refine' index_names ?X ?h ?_; (case X => k_in); (case h => assumption)))
  k_with "getMethod ref" => (k_here; k_dflt (refine' meth_names ?X ?_; (case X => k_in)))
  k_with "call ref" => (k_here; (with_reducible show wpAny _ _ (call (Value.ref 124) [Value.str _ _]) _ _ _); k_dflt (refine' con_wishOk ?k0 ?k1 ?k2 ?k3 ?k4 ?k5 ?k6 ?k7 ?k8 ?k9 ?k10 (fun t1'w9 t2'w9 t3'w9 D'w9 h'w9 tk'w9 F'w9 N'w9 l1w9 => ?_); (case k0 => assumption); (case k1 => k_asm); (case k2 => k_asm); (case k3 => k_asm); (case k4 => k_asm); (case k5 => k_asm); (case k6 => first | exact rfl | assumption); (case k7 => ktr_room); (case k8 => assumption); (case k9 => assumption); (case k10 => assumption)); (try simp only [AllLt, and_true] at l1w9); (try k_sweep))
  k_with "w cell_enter" => (refine' ctr_enter ?k1 ?k2 ?k3 ?k4 ?k5 ?kA ?kK ?k6 ?k7 ?k8 ?k9 ?kB ?_ ?c2 ?c3 ?c4 ?c5; (case kA => exact rfl); (case kK => first | exact rfl | assumption); (case k2 => k_asm); (case k1 => k_asm); (case k3 => k_asm); (case k4 => k_asm); (case k5 => k_asm); (case k6 => k_is); (case k7 => k_is); (case k8 => ktr_room); (case k9 => first | exact BindsTo.of_eq rfl | exact binds_K (by k_in) rfl (by k_is) rfl rfl rfl | fail "ctr_enter: no rule for these arguments"); (case c5 => decide); (case kB => exact locs rfl); (case c2 => exact rfl); (case c3 => exact rfl); (case c4 => exact rfl); k_whole; intro L'w9 h'w9 F'w9 N'w9 B'w9 X'w9 T'w9 D'w9; (try dsimp only); (try k_lift B'w9); (try k_fold))
  k_with "call builtin:sorted" => (k_here; (with_reducible show wpAny _ _ (call (Value.builtin "sorted") [Value.ref _]) _ _ _); k_dflt (refine' sorted_one ?k0 ?k1 ?k2 ?k3 ?k4 ?k5 ?_; (case k0 => exact rfl); (case k1 => k_asm); (case k2 => k_asm); (case k3 => k_mem); (case k4 => assumption); (case k5 => assumption)); intro B'w9 t'w9 h'w9 tk'w9 F'w9 N'w9 l1w9; (try k_lt l1w9); (try k_sweep))
  k_with "subscriptTail Name Name ref int" => (k_here; k_dflt (refine' kda_item (knd := PySem.intKind _ _) ?k1 ?k2 ?k3 ?k4 ?k5 ?_; (case k1 => k_asm); (case k2 => k_mem); (case k3 => k_asm); (case k4 => exact intKind_is _ _ _ _); (case k5 => exact valueAt_one)))
  k_with "subscriptTail Name Name ref int" => (k_here; (with_reducible show wpAny _ _ (subscriptTail _ _ (Value.ref 16) (Value.int _ _)) _ _ _); k_dflt (refine' bits_item ?X ?h ?_; (case X => k_in); (case h => assumption)); intro t'w9)
  k_with "testChain" => first | with_reducible refine test_link ?_ | with_reducible refine test_last ?_ | refine test_link ?_
  trivial
end Ex1759
-- M11body.txt
-- lines 13
-- lines 14
example : True := by
  k_with "call ref" => (k_here; (with_reducible show wpAny _ _ (call (Value.ref 70) [Value.ref _, Value.int _ _]) _ _ _); k_dflt (refine' con_check ?k0 ?k1 ?k2 ?k3 ?k4 ?k5 ?k6 ?k7 ?k8 ?k9 (fun hf'w9 h'w9 tk'w9 F'w9 N'w9 => ?_) (fun hE'w9 g'w9 e'w9 t'w9 vs'w9 h'w9 tk'w9 G'w9 B'w9 R'w9 U'w9 => ?_); (case k0 => assumption); (case k1 => k_asm); (case k2 => k_asm); (case k3 => k_asm); (case k4 => k_asm); (case k5 => k_asm); (case k6 => first | exact rfl | assumption); (case k7 => ktr_room); (case k8 => omega); (case k9 => k_mem)); all_goals (try k_sweep))
  k_with "call type:dict" => (k_here; (with_reducible show wpAny _ _ (call (Value.type "dict") [Value.ref _]) _ _ _); k_dflt (refine' dict_one ?k1 ?k2 ?k3 ?k4 ?k5 ?k6 ?_; (case k1 => k_asm); (case k2 => k_asm); (case k3 => exact Top.nolimit (by k_asm)); (case k4 => k_mem); (case k5 => assumption); (case k6 => assumption)); intro D'w9 o'w9 h'w9 F'w9 N'w9 l1w9 lo'w9 ho'w9; (try k_lt l1w9); (try k_sweep))
  trivial
section
variable {prog : Program} {w : World} {dp un : Nat} {gd : Option (List Code)} {cn : Str} {cs : Scope} {a : Addr} {ccd : Value} {outer : List Env} {A₀ : Around} {base h₀ : Heap} {L : Addr} {m : Str → Option Value} {news : List (Addr × Obj)} {s : Shared}
    {E : Value → Shared → Prop} {p : Program} {loose : List Str} {mean : ExcName → Option Value} {mg mb : Str → Option Value}

set_option maxHeartbeats 8000000 in
theorem con_rule {Q : Value → Shared → Prop} {tw t1 t2 ta : Tok} {ac wd : Str} {f1 f2 : Int} {i bt : Nat} {W T₁ : Addr} {o₁ : Obj}
    (B : Below A₀ base outer h₀) (F : Fr h₀ L s.heap m) (X : (Mine.hd.heap_1 w.params).In h₀) (N : News h₀ L s.heap news) (T : Top p loose mean mg mb h₀) (hk : cs.kind = .function)
    (hd : dp + 9 < recursionLimit) (hu : un + 200 < cLine) (hac : ac = Str.ofString "let" ∨ ac = Str.ofString "drop") (hwd : wd = Str.ofString "mask" ∨ wd = Str.ofString "range") (hi : fieldBits[i]? = some bt)
    (hb : bt ≤ 48) (hW : (W, o₁) ∈ news) (hW0 : (W == sysModules) = false) (hT : (T₁, tupObj [.str wd tw, .int f1 t1, .int f2 t2]) ∈ news) (ho : Obj.IsDictOf (intKind prog w) o₁ [((i : Int), .ref T₁)])
    (hret : fits bt wd f1 f2 = true → ∀ x dx D o' c1 c2 h' tk', Fr h₀ L h' m → News h₀ L h' ((x, instObj 106 dx) :: (dx, ruleDict w (.str ac ta) c1 c2 D) :: (D, o') :: news) → (∀ q ∈ news, q.1 < dx) → @LT.lt Nat _ dx x → @LT.lt Nat _ x D → (D == sysModules) = false →
      Obj.IsDictOf (intKind prog w) o' [((i : Int), .ref T₁)] → Q (.ref x) { s with heap := h', toks := tk' })
    (hraise : fits bt wd f1 f2 = false → RaisedTo dp un gd cn cs L a ccd outer base h₀ m news s E) :
    wpAny (model prog w) (ktrTop dp un gd cn cs L a ccd [] outer) (call (.ref 106) [.str ac ta, .ref W]) Q E s := by
  refine call_cls F X N (by k_is) (by k_is) (by k_is) fun x dx h₂ F₂ N₂ l1 l2 => ?_
  have N₁ : News h₀ L h₂ [(x, instObj 106 dx), (dx, dictOf [] 0), (W, o₁), (T₁, tupObj [.str wd tw, .int f1 t1, .int f2 t2])] := fun q hq => by
    simp only [List.mem_cons, List.not_mem_nil, or_false] at hq
    rcases hq with rfl | rfl | rfl | rfl
    · exact N₂ _ (.head _)
    · exact N₂ _ (.tail _ (.head _))
    · exact N₂ _ (.tail _ (.tail _ hW))
    · exact N₂ _ (.tail _ (.tail _ hT))
  have lW : @LT.lt Nat _ W dx := l1 _ hW
  have lT : @LT.lt Nat _ T₁ dx := l1 _ hT
  have lx : @LT.lt Nat _ dx x := l2
  refine ctr_code _ (s := { s with heap := h₂ }) B F₂ X N₁ T rfl hk (by k_is) (by k_is) (by ktr_room) (BindsTo.of_eq rfl) (locs rfl) ?_ rfl rfl rfl (by decide)
  k_whole
  intro g' L' h' hR FG' F' N' B' X' T'
  (try dsimp only)
  (try k_fold)
  k_steps
  all_goals first
    | (exfalso; have hz : (([Str.ofString "let", Str.ofString "drop"] : List Str).any fun x => x == ac) = false := by assumption
       rcases hac with h | h <;> (rw [h] at hz; revert hz; decide))
    | (dsimp only [InitBack]; exact raised_to (s := { s with heap := h₂ }) B (fun q hq => N₂ q (.tail _ (.tail _ hq))) N₁ hR FG' (raisedS_mono (by assumption) fun p hp => by repeat (first | exact hp | refine List.mem_cons_of_mem _ ?_)) (by assumption) hk (hraise (by assumption)))
    | (refine ⟨rfl, ?_⟩
       refine' hret (by assumption) x dx ?_ ?_ ?_ ?_ ?_ ?_ (ctr_frN FG' (by assumption)) ?hN l1 l2 ?hlt ?hlo ?hho
       case hho => assumption
       case hlo => assumption
       case hlt => omega
       case hN =>
         have No : News h₀ L _ news := ctr_part FG' (fun q hq => N₂ q (.tail _ (.tail _ hq))) hR (by assumption) (by assumption) fun q hq hm => by
           simp only [List.map_cons, List.map_nil, List.mem_cons, List.not_mem_nil, or_false] at hm
           rcases hm with e | e | e | e
           · exact absurd (show @LT.lt Nat _ x dx from e ▸ l1 q hq) (Nat.lt_asymm l2)
           · exact absurd (show @LT.lt Nat _ dx dx from e ▸ l1 q hq) (Nat.lt_irrefl _)
           · rw [news_one N hW hq e]; k_mem
           · rw [news_one N hT hq e]; k_mem
         intro q hq
         rcases List.mem_cons.mp hq with rfl | hq
         · exact ctr_all FG' (by assumption) (by k_mem)
         rcases List.mem_cons.mp hq with rfl | hq
         · exact ctr_all FG' (by assumption) (by k_mem)
         rcases List.mem_cons.mp hq with rfl | hq
         · exact ctr_all FG' (by assumption) (by k_mem)
         exact No q hq)
    | w_report
end

-- M21body.txt
-- lines 15
example : True := by
  k_with "call ref" => (k_here; (with_reducible show wpAny _ _ (call (Value.ref 106) [Value.str _ _, Value.ref _]) _ _ _); k_dflt (refine' con_rule ?k1 ?k2 ?k3 ?k4 ?k5 ?k7 ?k8 ?k9 ?ka ?kb ?kc ?kd ?ke ?kf ?kg ?kh (fun hf'w9 x'w9 dx'w9 D'w9 o'w9 c1'w9 c2'w9 h'w9 tk'w9 F'w9 N'w9 l1w9 l2'w9 l3'w9 lo'w9 ho'w9 => ?_) (fun hE'w9 g'w9 e'w9 t'w9 vs'w9 h'w9 tk'w9 G'w9 B'w9 R'w9 U'w9 => ?_); (case k1 => k_asm); (case k2 => k_asm); (case k3 => k_asm); (case k4 => k_asm); (case k5 => k_asm); (case k7 => first | exact rfl | assumption); (case k8 => ktr_room); (case k9 => ktr_units); (case ka => assumption); (case kb => first | assumption | exact wishOf_wd (by assumption)); (case kc => assumption); (case kd => omega); (case ke => k_mem); (case kf => assumption); (case kh => assumption); (case kg => k_mem)); all_goals (try k_lt l1w9); all_goals (try k_sweep))
  trivial
section Ex1886
example : True := by
  k_with "w cell_enter" => (refine' ctr_enterX ?k1 ?k2 ?k3 ?k4 ?k5 ?kA ?kK ?k6 ?k7 ?k8 ?k9 ?kB ?_ ?c2 ?c3 ?c4 ?c5; (case kA => exact rfl); (case kK => first | exact rfl | assumption); (case k2 => k_asm); (case k1 => k_asm); (case k3 => k_asm); (case k4 => k_asm); (case k5 => k_asm); (case k6 => k_is); (case k7 => k_is); (case k8 => ktr_room); (case k9 => first | exact BindsTo.of_eq rfl | exact binds_K (by k_in) rfl (by k_is) rfl rfl rfl | fail "ctr_enterX: no rule for these arguments"); (case c5 => decide); (case kB => exact locs rfl); (case c2 => exact rfl); (case c3 => exact rfl); (case c4 => exact rfl); k_whole; intro L'w9 h'w9 F'w9 N'w9 B'w9 X'w9 T'w9 D'w9; (try dsimp only); (try k_lift B'w9); (try k_fold))
  trivial
section
variable {prog : Program} {w : World} {dp un : Nat} {gd : Option (List Code)} {cn : Str} {cs : Scope} {a : Addr} {ccd : Value} {outer : List Env} {A₀ : Around} {base h₀ : Heap} {L : Addr} {m : Str → Option Value} {news : List (Addr × Obj)} {s : Shared}
    {E : Value → Shared → Prop} {p : Program} {loose : List Str} {mean : ExcName → Option Value} {mg mb : Str → Option Value}

set_option maxHeartbeats 8000000 in
theorem con_readX {cl : List (Str × Addr)} {Q : Value → Shared → Prop} {x ac nm ws : Str} {tx : Tok} {i bt : Nat}
    (B : Below A₀ base outer h₀) (F : Fr h₀ L s.heap m) (X : (Mine.hd.heap_1 w.params).In h₀) (N : News h₀ L s.heap news) (T : Top p loose mean mg mb h₀) (D : KtsDicts (outer.filterMap (·.frame)) h₀) (XB : (Mine.hd.heap_1 w.params).In base) (TB : Top p loose mean mg mb base) (hk : cs.kind = .function)
    (hd : dp + 12 < recursionLimit) (hu : un + 300 < cLine) (hx : x.length ≤ 1000) (hws : ws.length ≤ 1000) (h1 : ∀ p ∈ Txt.split ws (Str.ofString "/"), p.length ≤ 1000) (h2 : ∀ p ∈ Txt.split ws (Str.ofString "-"), p.length ≤ 1000)
    (hi : fieldNames[i]? = some nm) (hb : fieldBits[i]? = some bt) (hbt : bt ≤ 48) (hw : Txt.words x = [ac, nm, ws]) (hac : ac = Str.ofString "let" ∨ ac = Str.ofString "drop")
    (hret : ∀ wd f1 f2, wishOf ws = some (wd, f1, f2) → fits bt wd f1 f2 = true → ∀ x dx D T o' c1 c2 t1 t2 t3 ta h' tk', Fr h₀ L h' m → News h₀ L h' ((x, instObj 106 dx) :: (dx, ruleDict w (.str ac ta) c1 c2 D) :: (D, o') :: (T, tupObj [.str wd t1, .int f1 t2, .int f2 t3]) :: news) → (D == sysModules) = false →
      Obj.IsDictOf (intKind prog w) o' [((i : Int), .ref T)] → Q (.ref x) { s with heap := h', toks := tk' })
    (hnone : (∀ wd f1 f2, wishOf ws = some (wd, f1, f2) → fits bt wd f1 f2 = false) → TurnedTo A₀ base outer (Mine.hd.heap_1 w.params) p loose mean mg mb h₀ L m news s .none Q) :
    wpAny (model prog w) (ktrTop dp un gd cn cs L a ccd cl outer) (call (.ref 173) [.str x tx]) Q E s := by
  have hsh : SeqAt.shaped (.list [.str ac]) = true := by rcases hac with rfl | rfl <;> decide +kernel
  have heq : (PyData.eqv (.list [.str (Str.ofString "let")]) (.list [.str ac]) || PyData.eqv (.list [.str (Str.ofString "drop")]) (.list [.str ac])) = true := by rcases hac with rfl | rfl <;> decide +kernel
  have N0 : True → News h₀ L s.heap news := fun _ => N
  have D0 : True → KtsDicts (outer.filterMap (·.frame)) h₀ := fun _ => D
  k_dflt cell_enter
  clear N
  k_steps
  all_goals first
    | (rename Fr s.heap _ _ _ => zF
       rename News s.heap _ _ _ => zN
       refine' hret _ _ _ (by assumption) (by assumption) _ _ _ _ _ _ _ _ _ _ _ _ _ (ctr_fr F zF) ?hN ?hlo ?hho
       case hho => assumption
       case hlo => assumption
       case hN =>
         intro q hq
         refine ctr_news F (N0 trivial) zF zN q ?_
         rcases List.mem_cons.mp hq with rfl | hq
         · exact List.mem_append_left _ (by k_mem)
         rcases List.mem_cons.mp hq with rfl | hq
         · exact List.mem_append_left _ (by k_mem)
         rcases List.mem_cons.mp hq with rfl | hq
         · exact List.mem_append_left _ (by k_mem)
         rcases List.mem_cons.mp hq with rfl | hq
         · exact List.mem_append_left _ (by k_mem)
         exact List.mem_append_right _ hq)
    | (rename KtsTurn _ s.heap _ => zT
       rename wishOf ws = _ => zW
       obtain ⟨kg, T1, F1, N1, B1, X1, P1, D1⟩ := ctr_turnedX B F (N0 trivial) XB TB (D0 trivial) zT (by assumption) (by assumption)
       refine hnone (fun wd f1 f2 e => ?_) kg _ _ T1 F1 (fun q hq => N1 q (List.mem_append_right _ hq)) B1 X1 P1 D1
       have e2 := e.symm.trans zW
       first
         | (cases e2; done)
         | (cases e2; assumption))
    | w_report
end

example : True := by
  k_with_none
  k_with "ite" => (k_here; (with_reducible show (if (!_) = true then _ else _)); (with_reducible refine' ite_no ?itb ?_); (case itb => k_dflt decide))
  k_with "w k_in" => (refine' Frag.In.keeps ?xa (Fr.keep ?xb); (case xb => with_reducible assumption); (case xa => with_reducible assumption))
  k_with "w k_all" => first | exact allNe (by assumption) | exact allNe (allLt_le (by assumption) (by (try dsimp only); omega))
  k_with "w k_room" => ktr_room
  k_with "w ktr_enter" => (refine' code_def ?k1 ?k2 ?k3 ?k4 ?k5 ?kA ?kF ?kK ?k6 ?k7 ?k8 ?k9 ?kB ?_ ?c2 ?c3 ?c4 ?c5; (case kA => exact rfl); (case kF => exact rfl); (case kK => first | exact rfl | assumption); (case k1 => k_asm); (case k2 => k_asm); (case k3 => k_asm); (case k4 => k_asm); (case k5 => k_asm); (case k6 => k_is); (case k7 => k_is); (case k8 => ktr_room); (case k9 => first | exact BindsTo.of_eq rfl | exact binds_K (by k_in) rfl (by k_is) rfl rfl rfl | fail "ktr_enter: no rule for these arguments"); (case c5 => decide); (case kB => exact locs rfl); (case c2 => exact rfl); (case c3 => exact rfl); (case c4 => exact rfl); k_whole; intro g'w9 L'w9 h'w9 FG'w9 F'w9 N'w9 B'w9 X'w9 T'w9; (try dsimp only); (try k_lift B'w9); (try k_fold))
  k_with "getMethod type:Exception" => (k_here; refine' method_type ?F ?X ?m (by decide +kernel) ?e ?h ?_; (case F => k_asm); (case X => k_asm); (case m => exact meta_Exception); (case e => k_dflt k_is); (case h => k_handed))
  k_with "call builtin:Exception.__init__" => (k_here; k_dflt (refine' se_bInit ?k1 ?k2 ?k3 ?k4 ?k5 ?k6 ?k7 ?_; (case k1 => k_asm); (case k2 => k_asm); (case k3 => k_asm); (case k4 => k_mem); (case k5 => k_is); (case k6 => decide); (case k7 => intro t'w9; k_upd)); intro t'w9 h'w9 F'w9 N'w9 l1w9; (try k_lt l1w9); (try k_sweep))
  k_with "setAttr ref" => (k_here; k_dflt (refine' se_set1 ?k1 ?k2 ?k3 ?k4 ?k5 ?k6 ?k7 ?k8 ?k9 ?k10 ?k11 ?_; (case k1 => k_asm); (case k2 => k_asm); (case k3 => k_asm); (case k4 => k_mem); (case k5 => k_is); (case k6 => rfl); (case k7 => k_is); (case k8 => exact se_pass); (case k9 => k_is); (case k10 => k_is); (case k11 => intro t'w9; k_upd)); intro t'w9 h'w9 F'w9 N'w9 l1w9; (try k_lt l1w9); (try k_sweep))
  k_with "setAttr ref" => (k_here; k_dflt (refine' se_set2 ?k1 ?k2 ?k3 ?k4 ?kd ?k5 ?k6 ?k7 ?k8 ?k9 ?k10 ?k11 ?k12 ?k13 ?k14 ?_; (case k1 => k_asm); (case k2 => k_asm); (case k3 => k_asm); (case k4 => k_mem); (case kd => k_mem); (case k5 => k_is); (case k6 => rfl); (case k7 => k_is); (case k8 => exact se_pass); (case k9 => k_is); (case k10 => k_is); (case k11 => k_get); (case k12 => k_put); (case k13 => k_upd); (case k14 => exact Nat.le_of_ble_eq_true rfl)); intro h'w9 F'w9 N'w9; (try k_sweep))
  k_with "exec Raise some none" => (k_here; k_dflt (refine' se_Raise ?h ?_; (case h => exact rfl)))
  k_with "call ref" => (k_here; (with_reducible show wpAny _ _ (call (Value.ref 54) [Value.str _ _]) _ _ _); k_dflt (refine' se_make ?k1 ?k2 ?k3 ?k4 ?k5 ?k6 ?k7 ?_; (case k1 => k_asm); (case k2 => k_asm); (case k3 => k_asm); (case k4 => k_asm); (case k5 => k_asm); (case k6 => first | exact rfl | assumption); (case k7 => ktr_room)); intro e'w9 t'w9 d'w9 h'w9 tk'w9 F'w9 N'w9 l1w9 l2w9; (replace l1w9 := allLt_of l1w9); (have l1bw9 := l1w9); (try simp only [AllLt, and_true] at l1bw9); (try k_lt2 l2w9); (try k_sweep))
  k_with "SeRaised" => (refine' ⟨_, _, _, rfl, ?X, ?m, ?_⟩; (case X => k_in); (case m => exact News.get (by k_asm) (by k_mem)))
  k_with "leaving ref" => (k_here; k_dflt (refine' se_leave ?k1 ?k2 ?k3 ?k4 ?k5 ?_; (case k2 => k_asm); (case k1 => k_asm); (case k3 => k_asm); (case k4 => first | assumption | (simp only [AllLt, and_true]; omega)); (case k5 => omega)); intro h'w9 R'w9 R2'w9 U'w9; (try dsimp only at R'w9 R2'w9 U'w9 ⊢))
  k_with "call ref" => (k_here; (with_reducible show wpAny _ _ (call (Value.ref 117) [Value.str _ _, Value.str _ _]) _ _ _); k_dflt (refine' con_figs ?k1 ?k2 ?k3 ?k4 ?k5 ?k6 ?k7 ?k8 ?k9 (fun f'w9 t'w9 h'w9 tk'w9 hf'w9 F'w9 N'w9 => ?_) (fun hE'w9 g'w9 e'w9 t'w9 vs'w9 h'w9 tk'w9 G'w9 B'w9 R'w9 U'w9 => ?_); (case k1 => k_asm); (case k2 => k_asm); (case k3 => k_asm); (case k4 => k_asm); (case k5 => k_asm); (case k6 => first | exact rfl | assumption); (case k7 => ktr_room); (case k8 => first | assumption | decide); (case k9 => decide)); all_goals (try k_sweep))
  k_with "w k_upd" => first | (refine' Drop.head ?a; (case a => k_all)) | (refine' Drop.tail ?a ?b; (case a => k_ne); (case b => k_upd))
  k_with "exec For Tuple Tuple cons nil" => (k_here; k_dflt (refine' for_enter ?_ ?hs; (case hs => intro _; exact rfl)))
  k_with "exec For Name Call cons nil" => (k_here; k_dflt (refine' for_enter ?_ ?hs; (case hs => intro _; exact rfl)))
  k_with "pyIter ref" => (k_here; (with_reducible show wpAny _ _ (pyIter (Value.ref _)) (ForAt _ _ _ _ _ _ _ _) _ _); k_dflt (first | (refine' iter_tuple_K ?k1 ?k2 ?k3 ?_; (case k1 => k_asm); (case k2 => k_asm); (case k3 => k_mem)) | (refine' iter_list_K ?k1 ?k2 ?k3 ?_; (case k1 => k_asm); (case k2 => k_asm); (case k3 => k_mem)) | (refine' iter_range_K ?k1 ?k2 ?k3 ?k4 ?_; (case k1 => k_asm); (case k2 => k_asm); (case k3 => assumption); (case k4 => decide))); intro I'w9 h'w9 F'w9 N'w9 l1w9; (try k_lt l1w9); (try k_sweep))
  k_with "ForAt" => (refine ⟨_, rfl, ?_⟩)
  k_with "ForGo" => (refine for_turn (by passes_own) ?_)
  k_with "pyNext ref" => (k_here; k_dflt (first | (refine' next_tuple_K ?k1 ?k2 ?k3 ?k4 ?k5 ?k6 ?_; (case k1 => k_asm); (case k2 => k_asm); (case k3 => k_mem); (case k4 => k_mem); (case k5 => exact rfl); (case k6 => intro d'w9 sl'w9; k_upd); intro d'w9 sl'w9 h'w9 F'w9 N'w9; (try k_sweep)) | (refine' end_tuple_K ?k0 ?k1 ?k2 ?k3 ?k4 ?k5 ?k6 ?_; (case k0 => exact rfl); (case k1 => k_asm); (case k2 => k_asm); (case k3 => k_mem); (case k4 => k_mem); (case k5 => exact rfl); (case k6 => k_upd); intro h'w9 F'w9 N'w9; (try k_sweep)) | (refine' next_list_K ?k1 ?k2 ?k3 ?k4 ?k5 ?k6 ?_; (case k1 => k_asm); (case k2 => k_asm); (case k3 => k_mem); (case k4 => k_mem); (case k5 => exact rfl); (case k6 => intro d'w9 sl'w9; k_upd); intro d'w9 sl'w9 h'w9 F'w9 N'w9; (try k_sweep)) | (refine' end_list_K ?k0 ?k1 ?k2 ?k3 ?k4 ?k5 ?k6 ?_; (case k0 => exact rfl); (case k1 => k_asm); (case k2 => k_asm); (case k3 => k_mem); (case k4 => k_mem); (case k5 => exact rfl); (case k6 => k_upd); intro h'w9 F'w9 N'w9; (try k_sweep)) | (refine' next_range_K ?k1 ?k2 ?k3 ?k4 ?k5 ?_; (case k1 => k_asm); (case k2 => k_asm); (case k3 => k_mem); (case k4 => decide); (case k5 => k_upd); intro h'w9 F'w9 N'w9; (try k_sweep)) | (refine' end_range_K ?k0 ?k1 ?k2 ?k3 ?k4 ?k5 ?_; (case k0 => exact rfl); (case k1 => k_asm); (case k2 => k_asm); (case k3 => k_mem); (case k4 => decide); (case k5 => k_upd); intro h'w9 F'w9 N'w9; (try k_sweep))))
  k_with "ForNext" => (dsimp only [ForNext])
  k_with "ForBody" => (dsimp only [ForBody])
  k_with "letOwnedTupleGo" => (k_here; k_dflt (first | (refine' let_name_K ?_; k_whole) | (refine' let_iter_K ?k1 ?k2 ?k3 ?_; (case k1 => k_asm); (case k2 => k_mem); (case k3 => decide))))
  k_with "call builtin:str.split" => (k_here; (with_reducible show wpAny _ _ (call (Value.builtin "str.split") [Value.str _ _, Value.str _ _]) _ _ _); k_dflt (refine' KSpl.split1 ?k1 ?k2 ?k3 ?_ ?k4; (case k1 => k_asm); (case k2 => k_asm); (case k3 => decide); (case k4 => exact line_of_le (by assumption))); intro D'w9 l'w9 h'w9 k'w9 e'w9 a'w9 F'w9 N'w9 l1w9; (try k_lt l1w9); first | ((replace e'w9 := e'w9.trans (by assumption)); (kspl_open e'w9); (simp only [strValues, List.map_cons, List.map_nil] at N'w9 a'w9); (try k_sweep)) | ((have hlen'w9 := split_ne e'w9 (by assumption)); (try k_sweep)))
  k_with "leaving ref" => (k_here; k_dflt (refine' leave_onS ?k1 ?k2 ?k3 ?k4 ?_; (case k3 => assumption); (case k2 => assumption); (case k1 => assumption); (case k4 => assumption)); intro h'w9 S'w9 R'w9 U'w9; (try dsimp only at S'w9 R'w9 U'w9 ⊢))
  k_with "call ref" => (k_here; (with_reducible show wpAny _ _ (call (Value.ref 124) [Value.str _ _]) _ _ _); k_dflt (refine' con_wish ?k1 ?k2 ?k3 ?k4 ?k5 ?k6 ?k7 ?k8 ?k9 ?k10 (fun wd'w9 f1'w9 f2'w9 t1'w9 t2'w9 t3'w9 D'w9 h'w9 tk'w9 hf'w9 F'w9 N'w9 l1w9 => ?_) (fun hE'w9 g'w9 e'w9 t'w9 vs'w9 h'w9 tk'w9 G'w9 B'w9 R'w9 U'w9 => ?_); (case k1 => k_asm); (case k2 => k_asm); (case k3 => k_asm); (case k4 => k_asm); (case k5 => k_asm); (case k6 => first | exact rfl | assumption); (case k7 => ktr_room); (case k8 => assumption); (case k9 => assumption); (case k10 => assumption)); all_goals (try simp only [AllLt, and_true] at l1w9); all_goals (try k_sweep))
  k_with "compareOp In ref ref" => (k_here; k_dflt (refine' in_two ?k1 ?k2 ?k3 ?k4 ?k5 ?k6 ?k7 ?k8 ?k9 ?k10 ?k11 ?_; (case k1 => exact isTup_of (by k_asm) (by k_mem)); (case k4 => ked_read); (case k5 => ked_read); (case k6 => ked_read); (case k2 => k_ne); (case k3 => k_ne); (case k7 => first | assumption | decide +kernel | ked_shaped); (case k8 => first | decide +kernel | ked_shaped); (case k9 => first | decide +kernel | ked_shaped); (case k10 => ktr_units); (case k11 => first | assumption | decide +kernel | rfl)))
  k_with "call builtin:str.split" => (k_here; (with_reducible show wpAny _ _ (call (Value.builtin "str.split") [Value.str _ _]) _ _ _); k_dflt (refine' KSpl.split0 ?k1 ?k2 ?_ ?k4; (case k1 => k_asm); (case k2 => k_asm); (case k4 => exact line_of_le (by assumption))); intro D'w9 l'w9 h'w9 k'w9 e'w9 a'w9 F'w9 N'w9 l1w9; (try k_lt l1w9); (replace e'w9 := e'w9.trans (by assumption)); (kspl_open e'w9); (simp only [strValues, List.map_cons, List.map_nil] at N'w9 a'w9); (try k_sweep))
  k_with "compareOp NotIn str ref" => (k_here; k_dflt (refine' notin_names ?X ?h ?_; (case X => k_in); (case h => assumption)))
  k_with "call builtin:tuple.index" => (k_here; k_dflt (refine' index_names ?X ?h ?_; (case X => k_in); (case h => assumption)))
  k_with "getMethod ref" => (k_here; k_dflt (refine' meth_names ?X ?_; (case X => k_in)))
  k_with "call ref" => (k_here; (with_reducible show wpAny _ _ (call (Value.ref 124) [Value.str _ _]) _ _ _); k_dflt (refine' con_wishOk ?k0 ?k1 ?k2 ?k3 ?k4 ?k5 ?k6 ?k7 ?k8 ?k9 ?k10 (fun t1'w9 t2'w9 t3'w9 D'w9 h'w9 tk'w9 F'w9 N'w9 l1w9 => ?_); (case k0 => assumption); (case k1 => k_asm); (case k2 => k_asm); (case k3 => k_asm); (case k4 => k_asm); (case k5 => k_asm); (case k6 => first | exact rfl | assumption); (case k7 => ktr_room); (case k8 => assumption); (case k9 => assumption); (case k10 => assumption)); (try simp only [AllLt, and_true] at l1w9); (try k_sweep))
  k_with "w cell_enter" => (refine' ctr_enter ?k1 ?k2 ?k3 ?k4 ?k5 ?kA ?kK ?k6 ?k7 ?k8 ?k9 ?kB ?_ ?c2 ?c3 ?c4 ?c5; (case kA => exact rfl); (case kK => first | exact rfl | assumption); (case k2 => k_asm); (case k1 => k_asm); (case k3 => k_asm); (case k4 => k_asm); (case k5 => k_asm); (case k6 => k_is); (case k7 => k_is); (case k8 => ktr_room); (case k9 => first | exact BindsTo.of_eq rfl | exact binds_K (by k_in) rfl (by k_is) rfl rfl rfl | fail "ctr_enter: no rule for these arguments"); (case c5 => decide); (case kB => exact locs rfl); (case c2 => exact rfl); (case c3 => exact rfl); (case c4 => exact rfl); k_whole; intro L'w9 h'w9 F'w9 N'w9 B'w9 X'w9 T'w9 D'w9; (try dsimp only); (try k_lift B'w9); (try k_fold))
  k_with "call builtin:sorted" => (k_here; (with_reducible show wpAny _ _ (call (Value.builtin "sorted") [Value.ref _]) _ _ _); k_dflt (refine' sorted_one ?k0 ?k1 ?k2 ?k3 ?k4 ?k5 ?_; (case k0 => exact rfl); (case k1 => k_asm); (case k2 => k_asm); (case k3 => k_mem); (case k4 => assumption); (case k5 => assumption)); intro B'w9 t'w9 h'w9 tk'w9 F'w9 N'w9 l1w9; (try k_lt l1w9); (try k_sweep))
  k_with "subscriptTail Name Name ref int" => (k_here; k_dflt (refine' kda_item (knd := PySem.intKind _ _) ?k1 ?k2 ?k3 ?k4 ?k5 ?_; (case k1 => k_asm); (case k2 => k_mem); (case k3 => k_asm); (case k4 => exact intKind_is _ _ _ _); (case k5 => exact valueAt_one)))
  k_with "subscriptTail Name Name ref int" => (k_here; (with_reducible show wpAny _ _ (subscriptTail _ _ (Value.ref 16) (Value.int _ _)) _ _ _); k_dflt (refine' bits_item ?X ?h ?_; (case X => k_in); (case h => assumption)); intro t'w9)
  k_with "testChain" => first | with_reducible refine test_link ?_ | with_reducible refine test_last ?_ | refine test_link ?_
  k_with "call ref" => (k_here; (with_reducible show wpAny _ _ (call (Value.ref 70) [Value.ref _, Value.int _ _]) _ _ _); k_dflt (refine' con_check ?k0 ?k1 ?k2 ?k3 ?k4 ?k5 ?k6 ?k7 ?k8 ?k9 (fun hf'w9 h'w9 tk'w9 F'w9 N'w9 => ?_) (fun hE'w9 g'w9 e'w9 t'w9 vs'w9 h'w9 tk'w9 G'w9 B'w9 R'w9 U'w9 => ?_); (case k0 => assumption); (case k1 => k_asm); (case k2 => k_asm); (case k3 => k_asm); (case k4 => k_asm); (case k5 => k_asm); (case k6 => first | exact rfl | assumption); (case k7 => ktr_room); (case k8 => omega); (case k9 => k_mem)); all_goals (try k_sweep))
  k_with "call type:dict" => (k_here; (with_reducible show wpAny _ _ (call (Value.type "dict") [Value.ref _]) _ _ _); k_dflt (refine' dict_one ?k1 ?k2 ?k3 ?k4 ?k5 ?k6 ?_; (case k1 => k_asm); (case k2 => k_asm); (case k3 => exact Top.nolimit (by k_asm)); (case k4 => k_mem); (case k5 => assumption); (case k6 => assumption)); intro D'w9 o'w9 h'w9 F'w9 N'w9 l1w9 lo'w9 ho'w9; (try k_lt l1w9); (try k_sweep))
  k_with "call ref" => (k_here; (with_reducible show wpAny _ _ (call (Value.ref 106) [Value.str _ _, Value.ref _]) _ _ _); k_dflt (refine' con_rule ?k1 ?k2 ?k3 ?k4 ?k5 ?k7 ?k8 ?k9 ?ka ?kb ?kc ?kd ?ke ?kf ?kg ?kh (fun hf'w9 x'w9 dx'w9 D'w9 o'w9 c1'w9 c2'w9 h'w9 tk'w9 F'w9 N'w9 l1w9 l2'w9 l3'w9 lo'w9 ho'w9 => ?_) (fun hE'w9 g'w9 e'w9 t'w9 vs'w9 h'w9 tk'w9 G'w9 B'w9 R'w9 U'w9 => ?_); (case k1 => k_asm); (case k2 => k_asm); (case k3 => k_asm); (case k4 => k_asm); (case k5 => k_asm); (case k7 => first | exact rfl | assumption); (case k8 => ktr_room); (case k9 => ktr_units); (case ka => assumption); (case kb => first | assumption | exact wishOf_wd (by assumption)); (case kc => assumption); (case kd => omega); (case ke => k_mem); (case kf => assumption); (case kh => assumption); (case kg => k_mem)); all_goals (try k_lt l1w9); all_goals (try k_sweep))
  trivial
end Ex1886
section
variable {prog : Program} {w : World} {dp un : Nat} {gd : Option (List Code)} {cn : Str} {cs : Scope} {a : Addr} {ccd : Value} {outer : List Env} {A₀ : Around} {base h₀ : Heap} {L : Addr} {m : Str → Option Value} {news : List (Addr × Obj)} {s : Shared}
    {E : Value → Shared → Prop} {p : Program} {loose : List Str} {mean : ExcName → Option Value} {mg mb : Str → Option Value}

theorem con_read {Q : Value → Shared → Prop} {x ac nm ws : Str} {tx : Tok} {i bt : Nat}
    (B : Below A₀ base outer h₀) (F : Fr h₀ L s.heap m) (X : (Mine.hd.heap_1 w.params).In h₀) (N : News h₀ L s.heap news) (T : Top p loose mean mg mb h₀) (D : KtsDicts (outer.filterMap (·.frame)) h₀) (XB : (Mine.hd.heap_1 w.params).In base) (TB : Top p loose mean mg mb base) (hk : cs.kind = .function)
    (hd : dp + 12 < recursionLimit) (hu : un + 300 < cLine) (hx : x.length ≤ 1000) (hws : ws.length ≤ 1000) (h1 : ∀ p ∈ Txt.split ws (Str.ofString "/"), p.length ≤ 1000) (h2 : ∀ p ∈ Txt.split ws (Str.ofString "-"), p.length ≤ 1000)
    (hi : fieldNames[i]? = some nm) (hb : fieldBits[i]? = some bt) (hbt : bt ≤ 48) (hw : Txt.words x = [ac, nm, ws]) (hac : ac = Str.ofString "let" ∨ ac = Str.ofString "drop")
    (hret : ∀ wd f1 f2, wishOf ws = some (wd, f1, f2) → fits bt wd f1 f2 = true → ∀ x dx D T o' c1 c2 t1 t2 t3 ta h' tk', Fr h₀ L h' m → News h₀ L h' ((x, instObj 106 dx) :: (dx, ruleDict w (.str ac ta) c1 c2 D) :: (D, o') :: (T, tupObj [.str wd t1, .int f1 t2, .int f2 t3]) :: news) → (D == sysModules) = false →
      Obj.IsDictOf (intKind prog w) o' [((i : Int), .ref T)] → Q (.ref x) { s with heap := h', toks := tk' })
    (hnone : (∀ wd f1 f2, wishOf ws = some (wd, f1, f2) → fits bt wd f1 f2 = false) → TurnedTo A₀ base outer (Mine.hd.heap_1 w.params) p loose mean mg mb h₀ L m news s .none Q) :
    wpAny (model prog w) (ktrTop dp un gd cn cs L a ccd [] outer) (call (.ref 173) [.str x tx]) Q E s :=
  con_readX (cl := []) B F X N T D XB TB hk hd hu hx hws h1 h2 hi hb hbt hw hac hret hnone
end

-- M22body.txt

section Ex1955
example : True := by
  k_with "w cell_enter" => (refine' ctr_enterX ?k1 ?k2 ?k3 ?k4 ?k5 ?kA ?kK ?k6 ?k7 ?k8 ?k9 ?kB ?_ ?c2 ?c3 ?c4 ?c5; (case kA => exact rfl); (case kK => first | exact rfl | assumption); (case k2 => k_asm); (case k1 => k_asm); (case k3 => k_asm); (case k4 => k_asm); (case k5 => k_asm); (case k6 => k_is); (case k7 => k_is); (case k8 => ktr_room); (case k9 => first | exact BindsTo.of_eq rfl | exact binds_K (by k_in) rfl (by k_is) rfl rfl rfl | fail "ctr_enterX: no rule for these arguments"); (case c5 => decide); (case kB => exact locs rfl); (case c2 => exact rfl); (case c3 => exact rfl); (case c4 => exact rfl); k_whole; intro L'w9 h'w9 F'w9 N'w9 B'w9 X'w9 T'w9 D'w9; (try dsimp only); (try k_lift B'w9); (try k_fold))
  trivial
section
variable {prog : Program} {w : World} {dp un : Nat} {gd : Option (List Code)} {cn : Str} {cs : Scope} {a : Addr} {ccd : Value} {outer : List Env} {A₀ : Around} {base h₀ : Heap} {L : Addr} {m : Str → Option Value} {news : List (Addr × Obj)} {s : Shared}
    {E : Value → Shared → Prop} {p : Program} {loose : List Str} {mean : ExcName → Option Value} {mg mb : Str → Option Value}

set_option maxHeartbeats 8000000 in
theorem con_oddX {cl : List (Str × Addr)} {Q : Value → Shared → Prop} {x ac nm : Str} {tx : Tok}
    (B : Below A₀ base outer h₀) (F : Fr h₀ L s.heap m) (X : (Mine.hd.heap_1 w.params).In h₀) (N : News h₀ L s.heap news) (T : Top p loose mean mg mb h₀) (D : KtsDicts (outer.filterMap (·.frame)) h₀) (XB : (Mine.hd.heap_1 w.params).In base) (TB : Top p loose mean mg mb base) (hk : cs.kind = .function)
    (hd : dp + 12 < recursionLimit) (hu : un + 300 < cLine) (hx : x.length ≤ 1000)
    (hw : Txt.words x = [ac, nm]) (hac : ac = Str.ofString "let" ∨ ac = Str.ofString "drop")
    (hnone : TurnedTo A₀ base outer (Mine.hd.heap_1 w.params) p loose mean mg mb h₀ L m news s .none Q) :
    wpAny (model prog w) (ktrTop dp un gd cn cs L a ccd cl outer) (call (.ref 173) [.str x tx]) Q E s := by
  have hsh : SeqAt.shaped (.list [.str ac]) = true := by rcases hac with rfl | rfl <;> decide +kernel
  have heq : (PyData.eqv (.list [.str (Str.ofString "let")]) (.list [.str ac]) || PyData.eqv (.list [.str (Str.ofString "drop")]) (.list [.str ac])) = true := by rcases hac with rfl | rfl <;> decide +kernel
  have N0 : True → News h₀ L s.heap news := fun _ => N
  have D0 : True → KtsDicts (outer.filterMap (·.frame)) h₀ := fun _ => D
  k_dflt cell_enter
  clear N
  k_steps
  all_goals first
    | (rename KtsTurn _ s.heap _ => zT
       obtain ⟨kg, T1, F1, N1, B1, X1, P1, D1⟩ := ctr_turnedX B F (N0 trivial) XB TB (D0 trivial) zT (by assumption) (by assumption)
       exact hnone kg _ _ T1 F1 (fun q hq => N1 q (List.mem_append_right _ hq)) B1 X1 P1 D1)
    | w_report
end

example : True := by
  k_with_none
  k_with "ite" => (k_here; (with_reducible show (if (!_) = true then _ else _)); (with_reducible refine' ite_no ?itb ?_); (case itb => k_dflt decide))
  k_with "w k_in" => (refine' Frag.In.keeps ?xa (Fr.keep ?xb); (case xb => with_reducible assumption); (case xa => with_reducible assumption))
  k_with "w k_all" => first | exact allNe (by assumption) | exact allNe (allLt_le (by assumption) (by (try dsimp only); omega))
  k_with "w k_room" => ktr_room
  k_with "w ktr_enter" => (refine' code_def ?k1 ?k2 ?k3 ?k4 ?k5 ?kA ?kF ?kK ?k6 ?k7 ?k8 ?k9 ?kB ?_ ?c2 ?c3 ?c4 ?c5; (case kA => exact rfl); (case kF => exact rfl); (case kK => first | exact rfl | assumption); (case k1 => k_asm); (case k2 => k_asm); (case k3 => k_asm); (case k4 => k_asm); (case k5 => k_asm); (case k6 => k_is); (case k7 => k_is); (case k8 => ktr_room); (case k9 => first | exact BindsTo.of_eq rfl | exact binds_K (by k_in) rfl (by k_is) rfl rfl rfl | fail "ktr_enter: no rule for these arguments"); (case c5 => decide); (case kB => exact locs rfl); (case c2 => exact rfl); (case c3 => exact rfl); (case c4 => exact rfl); k_whole; intro g'w9 L'w9 h'w9 FG'w9 F'w9 N'w9 B'w9 X'w9 T'w9; (try dsimp only); (try k_lift B'w9); (try k_fold))
  k_with "getMethod type:Exception" => (k_here; refine' method_type ?F ?X ?m (by decide +kernel) ?e ?h ?_; (case F => k_asm); (case X => k_asm); (case m => exact meta_Exception); (case e => k_dflt k_is); (case h => k_handed))
  k_with "call builtin:Exception.__init__" => (k_here; k_dflt (refine' se_bInit ?k1 ?k2 ?k3 ?k4 ?k5 ?k6 ?k7 ?_; (case k1 => k_asm); (case k2 => k_asm); (case k3 => k_asm); (case k4 => k_mem); (case k5 => k_is); (case k6 => decide); (case k7 => intro t'w9; k_upd)); intro t'w9 h'w9 F'w9 N'w9 l1w9; (try k_lt l1w9); (try k_sweep))
  k_with "setAttr ref" => (k_here; k_dflt (refine' se_set1 ?k1 ?k2 ?k3 ?k4 ?k5 ?k6 ?k7 ?k8 ?k9 ?k10 ?k11 ?_; (case k1 => k_asm); (case k2 => k_asm); (case k3 => k_asm); (case k4 => k_mem); (case k5 => k_is); (case k6 => rfl); (case k7 => k_is); (case k8 => exact se_pass); (case k9 => k_is); (case k10 => k_is); (case k11 => intro t'w9; k_upd)); intro t'w9 h'w9 F'w9 N'w9 l1w9; (try k_lt l1w9); (try k_sweep))
  k_with "setAttr ref" => (k_here; k_dflt (refine' se_set2 ?k1 ?k2 ?k3 ?k4 ?kd ?k5 ?k6 ?k7 ?k8 ?k9 ?k10 ?k11 ?k12 ?k13 ?k14 ?_; (case k1 => k_asm); (case k2 => k_asm); (case k3 => k_asm); (case k4 => k_mem); (case kd => k_mem); (case k5 => k_is); (case k6 => rfl); (case k7 => k_is); (case k8 => exact se_pass); (case k9 => k_is); (case k10 => k_is); (case k11 => k_get); (case k12 => k_put); (case k13 => k_upd); (case k14 => exact Nat.le_of_ble_eq_true rfl)); intro h'w9 F'w9 N'w9; (try k_sweep))
  k_with "exec Raise some none" => (k_here; k_dflt (refine' se_Raise ?h ?_; (case h => exact rfl)))
  k_with "call ref" => (k_here; (with_reducible show wpAny _ _ (call (Value.ref 54) [Value.str _ _]) _ _ _); k_dflt (refine' se_make ?k1 ?k2 ?k3 ?k4 ?k5 ?k6 ?k7 ?_; (case k1 => k_asm); (case k2 => k_asm); (case k3 => k_asm); (case k4 => k_asm); (case k5 => k_asm); (case k6 => first | exact rfl | assumption); (case k7 => ktr_room)); intro e'w9 t'w9 d'w9 h'w9 tk'w9 F'w9 N'w9 l1w9 l2w9; (replace l1w9 := allLt_of l1w9); (have l1bw9 := l1w9); (try simp only [AllLt, and_true] at l1bw9); (try k_lt2 l2w9); (try k_sweep))
  k_with "SeRaised" => (refine' ⟨_, _, _, rfl, ?X, ?m, ?_⟩; (case X => k_in); (case m => exact News.get (by k_asm) (by k_mem)))
  k_with "leaving ref" => (k_here; k_dflt (refine' se_leave ?k1 ?k2 ?k3 ?k4 ?k5 ?_; (case k2 => k_asm); (case k1 => k_asm); (case k3 => k_asm); (case k4 => first | assumption | (simp only [AllLt, and_true]; omega)); (case k5 => omega)); intro h'w9 R'w9 R2'w9 U'w9; (try dsimp only at R'w9 R2'w9 U'w9 ⊢))
  k_with "call ref" => (k_here; (with_reducible show wpAny _ _ (call (Value.ref 117) [Value.str _ _, Value.str _ _]) _ _ _); k_dflt (refine' con_figs ?k1 ?k2 ?k3 ?k4 ?k5 ?k6 ?k7 ?k8 ?k9 (fun f'w9 t'w9 h'w9 tk'w9 hf'w9 F'w9 N'w9 => ?_) (fun hE'w9 g'w9 e'w9 t'w9 vs'w9 h'w9 tk'w9 G'w9 B'w9 R'w9 U'w9 => ?_); (case k1 => k_asm); (case k2 => k_asm); (case k3 => k_asm); (case k4 => k_asm); (case k5 => k_asm); (case k6 => first | exact rfl | assumption); (case k7 => ktr_room); (case k8 => first | assumption | decide); (case k9 => decide)); all_goals (try k_sweep))
  k_with "w k_upd" => first | (refine' Drop.head ?a; (case a => k_all)) | (refine' Drop.tail ?a ?b; (case a => k_ne); (case b => k_upd))
  k_with "exec For Tuple Tuple cons nil" => (k_here; k_dflt (refine' for_enter ?_ ?hs; (case hs => intro _; exact rfl)))
  k_with "exec For Name Call cons nil" => (k_here; k_dflt (refine' for_enter ?_ ?hs; (case hs => intro _; exact rfl)))
  k_with "pyIter ref" => (k_here; (with_reducible show wpAny _ _ (pyIter (Value.ref _)) (ForAt _ _ _ _ _ _ _ _) _ _); k_dflt (first | (refine' iter_tuple_K ?k1 ?k2 ?k3 ?_; (case k1 => k_asm); (case k2 => k_asm); (case k3 => k_mem)) | (refine' iter_list_K ?k1 ?k2 ?k3 ?_; (case k1 => k_asm); (case k2 => k_asm); (case k3 => k_mem)) | (refine' iter_range_K ?k1 ?k2 ?k3 ?k4 ?_; (case k1 => k_asm); (case k2 => k_asm); (case k3 => assumption); (case k4 => decide))); intro I'w9 h'w9 F'w9 N'w9 l1w9; (try k_lt l1w9); (try k_sweep))
  k_with "ForAt" => (refine ⟨_, rfl, ?_⟩)
  k_with "ForGo" => (refine for_turn (by passes_own) ?_)
  k_with "pyNext ref" => (k_here; k_dflt (first | (refine' next_tuple_K ?k1 ?k2 ?k3 ?k4 ?k5 ?k6 ?_; (case k1 => k_asm); (case k2 => k_asm); (case k3 => k_mem); (case k4 => k_mem); (case k5 => exact rfl); (case k6 => intro d'w9 sl'w9; k_upd); intro d'w9 sl'w9 h'w9 F'w9 N'w9; (try k_sweep)) | (refine' end_tuple_K ?k0 ?k1 ?k2 ?k3 ?k4 ?k5 ?k6 ?_; (case k0 => exact rfl); (case k1 => k_asm); (case k2 => k_asm); (case k3 => k_mem); (case k4 => k_mem); (case k5 => exact rfl); (case k6 => k_upd); intro h'w9 F'w9 N'w9; (try k_sweep)) | (refine' next_list_K ?k1 ?k2 ?k3 ?k4 ?k5 ?k6 ?_; (case k1 => k_asm); (case k2 => k_asm); (case k3 => k_mem); (case k4 => k_mem); (case k5 => exact rfl); (case k6 => intro d'w9 sl'w9; k_upd); intro d'w9 sl'w9 h'w9 F'w9 N'w9; (try k_sweep)) | (refine' end_list_K ?k0 ?k1 ?k2 ?k3 ?k4 ?k5 ?k6 ?_; (case k0 => exact rfl); (case k1 => k_asm); (case k2 => k_asm); (case k3 => k_mem); (case k4 => k_mem); (case k5 => exact rfl); (case k6 => k_upd); intro h'w9 F'w9 N'w9; (try k_sweep)) | (refine' next_range_K ?k1 ?k2 ?k3 ?k4 ?k5 ?_; (case k1 => k_asm); (case k2 => k_asm); (case k3 => k_mem); (case k4 => decide); (case k5 => k_upd); intro h'w9 F'w9 N'w9; (try k_sweep)) | (refine' end_range_K ?k0 ?k1 ?k2 ?k3 ?k4 ?k5 ?_; (case k0 => exact rfl); (case k1 => k_asm); (case k2 => k_asm); (case k3 => k_mem); (case k4 => decide); (case k5 => k_upd); intro h'w9 F'w9 N'w9; (try k_sweep))))
  k_with "ForNext" => (dsimp only [ForNext])
  k_with "ForBody" => (dsimp only [ForBody])
  k_with "letOwnedTupleGo" => (k_here; k_dflt (first | (refine' let_name_K ?_; k_whole) | (refine' let_iter_K ?k1 ?k2 ?k3 ?_; (case k1 => k_asm); (case k2 => k_mem); (case k3 => decide))))
  k_with "call builtin:str.split" => (k_here; (with_reducible show wpAny _ _ (call (Value.builtin "str.split") [Value.str _ _, Value.str _ _]) _ _ _); k_dflt (refine' KSpl.split1 ?k1 ?k2 ?k3 ?_ ?k4; (case k1 => k_asm); (case k2 => k_asm); (case k3 => decide); (case k4 => exact line_of_le (by assumption))); intro D'w9 l'w9 h'w9 k'w9 e'w9 a'w9 F'w9 N'w9 l1w9; (try k_lt l1w9); first | ((replace e'w9 := e'w9.trans (by assumption)); (kspl_open e'w9); (simp only [strValues, List.map_cons, List.map_nil] at N'w9 a'w9); (try k_sweep)) | ((have hlen'w9 := split_ne e'w9 (by assumption)); (try k_sweep)))
  k_with "leaving ref" => (k_here; k_dflt (refine' leave_onS ?k1 ?k2 ?k3 ?k4 ?_; (case k3 => assumption); (case k2 => assumption); (case k1 => assumption); (case k4 => assumption)); intro h'w9 S'w9 R'w9 U'w9; (try dsimp only at S'w9 R'w9 U'w9 ⊢))
  k_with "call ref" => (k_here; (with_reducible show wpAny _ _ (call (Value.ref 124) [Value.str _ _]) _ _ _); k_dflt (refine' con_wish ?k1 ?k2 ?k3 ?k4 ?k5 ?k6 ?k7 ?k8 ?k9 ?k10 (fun wd'w9 f1'w9 f2'w9 t1'w9 t2'w9 t3'w9 D'w9 h'w9 tk'w9 hf'w9 F'w9 N'w9 l1w9 => ?_) (fun hE'w9 g'w9 e'w9 t'w9 vs'w9 h'w9 tk'w9 G'w9 B'w9 R'w9 U'w9 => ?_); (case k1 => k_asm); (case k2 => k_asm); (case k3 => k_asm); (case k4 => k_asm); (case k5 => k_asm); (case k6 => first | exact rfl | assumption); (case k7 => ktr_room); (case k8 => assumption); (case k9 => assumption); (case k10 => assumption)); all_goals (try simp only [AllLt, and_true] at l1w9); all_goals (try k_sweep))
  k_with "compareOp In ref ref" => (k_here; k_dflt (refine' in_two ?k1 ?k2 ?k3 ?k4 ?k5 ?k6 ?k7 ?k8 ?k9 ?k10 ?k11 ?_; (case k1 => exact isTup_of (by k_asm) (by k_mem)); (case k4 => ked_read); (case k5 => ked_read); (case k6 => ked_read); (case k2 => k_ne); (case k3 => k_ne); (case k7 => first | assumption | decide +kernel | ked_shaped); (case k8 => first | decide +kernel | ked_shaped); (case k9 => first | decide +kernel | ked_shaped); (case k10 => ktr_units); (case k11 => first | assumption | decide +kernel | rfl)))
  k_with "call builtin:str.split" => (k_here; (with_reducible show wpAny _ _ (call (Value.builtin "str.split") [Value.str _ _]) _ _ _); k_dflt (refine' KSpl.split0 ?k1 ?k2 ?_ ?k4; (case k1 => k_asm); (case k2 => k_asm); (case k4 => exact line_of_le (by assumption))); intro D'w9 l'w9 h'w9 k'w9 e'w9 a'w9 F'w9 N'w9 l1w9; (try k_lt l1w9); (replace e'w9 := e'w9.trans (by assumption)); (kspl_open e'w9); (simp only [strValues, List.map_cons, List.map_nil] at N'w9 a'w9); (try k_sweep))
  k_with "compareOp NotIn str ref" => (k_here; k_dflt (refine' notin_names ?X ?h ?_; (case X => k_in); (case h => assumption)))
  k_with "call builtin:tuple.index" => (k_here; k_dflt (refine' index_names ?X ?h ?_; (case X => k_in); (case h => assumption)))
  k_with "getMethod ref" => (k_here; k_dflt (refine' meth_names ?X ?_; (case X => k_in)))
  k_with "call ref" => (k_here; (with_reducible show wpAny _ _ (call (Value.ref 124) [Value.str _ _]) _ _ _); k_dflt (refine' con_wishOk ?k0 ?k1 ?k2 ?k3 ?k4 ?k5 ?k6 ?k7 ?k8 ?k9 ?k10 (fun t1'w9 t2'w9 t3'w9 D'w9 h'w9 tk'w9 F'w9 N'w9 l1w9 => ?_); (case k0 => assumption); (case k1 => k_asm); (case k2 => k_asm); (case k3 => k_asm); (case k4 => k_asm); (case k5 => k_asm); (case k6 => first | exact rfl | assumption); (case k7 => ktr_room); (case k8 => assumption); (case k9 => assumption); (case k10 => assumption)); (try simp only [AllLt, and_true] at l1w9); (try k_sweep))
  k_with "w cell_enter" => (refine' ctr_enter ?k1 ?k2 ?k3 ?k4 ?k5 ?kA ?kK ?k6 ?k7 ?k8 ?k9 ?kB ?_ ?c2 ?c3 ?c4 ?c5; (case kA => exact rfl); (case kK => first | exact rfl | assumption); (case k2 => k_asm); (case k1 => k_asm); (case k3 => k_asm); (case k4 => k_asm); (case k5 => k_asm); (case k6 => k_is); (case k7 => k_is); (case k8 => ktr_room); (case k9 => first | exact BindsTo.of_eq rfl | exact binds_K (by k_in) rfl (by k_is) rfl rfl rfl | fail "ctr_enter: no rule for these arguments"); (case c5 => decide); (case kB => exact locs rfl); (case c2 => exact rfl); (case c3 => exact rfl); (case c4 => exact rfl); k_whole; intro L'w9 h'w9 F'w9 N'w9 B'w9 X'w9 T'w9 D'w9; (try dsimp only); (try k_lift B'w9); (try k_fold))
  k_with "call builtin:sorted" => (k_here; (with_reducible show wpAny _ _ (call (Value.builtin "sorted") [Value.ref _]) _ _ _); k_dflt (refine' sorted_one ?k0 ?k1 ?k2 ?k3 ?k4 ?k5 ?_; (case k0 => exact rfl); (case k1 => k_asm); (case k2 => k_asm); (case k3 => k_mem); (case k4 => assumption); (case k5 => assumption)); intro B'w9 t'w9 h'w9 tk'w9 F'w9 N'w9 l1w9; (try k_lt l1w9); (try k_sweep))
  k_with "subscriptTail Name Name ref int" => (k_here; k_dflt (refine' kda_item (knd := PySem.intKind _ _) ?k1 ?k2 ?k3 ?k4 ?k5 ?_; (case k1 => k_asm); (case k2 => k_mem); (case k3 => k_asm); (case k4 => exact intKind_is _ _ _ _); (case k5 => exact valueAt_one)))
  k_with "subscriptTail Name Name ref int" => (k_here; (with_reducible show wpAny _ _ (subscriptTail _ _ (Value.ref 16) (Value.int _ _)) _ _ _); k_dflt (refine' bits_item ?X ?h ?_; (case X => k_in); (case h => assumption)); intro t'w9)
  k_with "testChain" => first | with_reducible refine test_link ?_ | with_reducible refine test_last ?_ | refine test_link ?_
  k_with "call ref" => (k_here; (with_reducible show wpAny _ _ (call (Value.ref 70) [Value.ref _, Value.int _ _]) _ _ _); k_dflt (refine' con_check ?k0 ?k1 ?k2 ?k3 ?k4 ?k5 ?k6 ?k7 ?k8 ?k9 (fun hf'w9 h'w9 tk'w9 F'w9 N'w9 => ?_) (fun hE'w9 g'w9 e'w9 t'w9 vs'w9 h'w9 tk'w9 G'w9 B'w9 R'w9 U'w9 => ?_); (case k0 => assumption); (case k1 => k_asm); (case k2 => k_asm); (case k3 => k_asm); (case k4 => k_asm); (case k5 => k_asm); (case k6 => first | exact rfl | assumption); (case k7 => ktr_room); (case k8 => omega); (case k9 => k_mem)); all_goals (try k_sweep))
  k_with "call type:dict" => (k_here; (with_reducible show wpAny _ _ (call (Value.type "dict") [Value.ref _]) _ _ _); k_dflt (refine' dict_one ?k1 ?k2 ?k3 ?k4 ?k5 ?k6 ?_; (case k1 => k_asm); (case k2 => k_asm); (case k3 => exact Top.nolimit (by k_asm)); (case k4 => k_mem); (case k5 => assumption); (case k6 => assumption)); intro D'w9 o'w9 h'w9 F'w9 N'w9 l1w9 lo'w9 ho'w9; (try k_lt l1w9); (try k_sweep))
  k_with "call ref" => (k_here; (with_reducible show wpAny _ _ (call (Value.ref 106) [Value.str _ _, Value.ref _]) _ _ _); k_dflt (refine' con_rule ?k1 ?k2 ?k3 ?k4 ?k5 ?k7 ?k8 ?k9 ?ka ?kb ?kc ?kd ?ke ?kf ?kg ?kh (fun hf'w9 x'w9 dx'w9 D'w9 o'w9 c1'w9 c2'w9 h'w9 tk'w9 F'w9 N'w9 l1w9 l2'w9 l3'w9 lo'w9 ho'w9 => ?_) (fun hE'w9 g'w9 e'w9 t'w9 vs'w9 h'w9 tk'w9 G'w9 B'w9 R'w9 U'w9 => ?_); (case k1 => k_asm); (case k2 => k_asm); (case k3 => k_asm); (case k4 => k_asm); (case k5 => k_asm); (case k7 => first | exact rfl | assumption); (case k8 => ktr_room); (case k9 => ktr_units); (case ka => assumption); (case kb => first | assumption | exact wishOf_wd (by assumption)); (case kc => assumption); (case kd => omega); (case ke => k_mem); (case kf => assumption); (case kh => assumption); (case kg => k_mem)); all_goals (try k_lt l1w9); all_goals (try k_sweep))
  trivial
end Ex1955
-- M25body.txt

section Ex1985
example : True := by
  k_with "call ref" => (k_here; (with_reducible show wpAny _ _ (call (Value.ref 106) [Value.ref _, Value.ref _]) _ _ _); k_dflt (refine' con_ruleM ?k1 ?k2 ?k3 ?k4 ?k5 ?k7 ?k8 ?k9 ?kd ?ke ?kg ?kh (fun hf1'w9 hf2'w9 x'w9 dx'w9 D'w9 o'w9 c1'w9 c2'w9 h'w9 tk'w9 F'w9 N'w9 l1w9 l2'w9 l3'w9 lo'w9 ho'w9 => ?_) (fun hE'w9 g'w9 e'w9 t'w9 vs'w9 h'w9 tk'w9 G'w9 B'w9 R'w9 U'w9 => ?_); (case k1 => k_asm); (case k2 => k_asm); (case k3 => k_asm); (case k4 => k_asm); (case k5 => k_asm); (case k7 => first | exact rfl | assumption); (case k8 => ktr_room); (case k9 => ktr_units); (case kd => k_mem); (case kg => k_mem); (case ke => assumption); (case kh => assumption)); all_goals (try k_lt l1w9); all_goals (try k_sweep))
  trivial
section
variable {prog : Program} {w : World} {dp un : Nat} {gd : Option (List Code)} {cn : Str} {cs : Scope} {a : Addr} {ccd : Value} {outer : List Env} {A₀ : Around} {base h₀ : Heap} {L : Addr} {m : Str → Option Value} {news : List (Addr × Obj)} {s : Shared}
    {E : Value → Shared → Prop} {p : Program} {loose : List Str} {mean : ExcName → Option Value} {mg mb : Str → Option Value}

set_option maxHeartbeats 8000000 in
theorem con_mark {Q : Value → Shared → Prop} {x ws : Str} {tx : Tok}
    (B : Below A₀ base outer h₀) (F : Fr h₀ L s.heap m) (X : (Mine.hd.heap_1 w.params).In h₀) (N : News h₀ L s.heap news) (T : Top p loose mean mg mb h₀) (D : KtsDicts (outer.filterMap (·.frame)) h₀) (XB : (Mine.hd.heap_1 w.params).In base) (TB : Top p loose mean mg mb base) (hk : cs.kind = .function)
    (hd : dp + 12 < recursionLimit) (hu : un + 300 < cLine) (hx : x.length ≤ 1000) (hws : ws.length ≤ 100)
    (hw : Txt.words x = [Str.ofString "mark", ws]) (hf0 : ∀ n, figs (Str.ofString "0123456789") ws = some n → 0 ≤ n)
    (hret : ∀ n, figs (Str.ofString "0123456789") ws = some n → n ≤ 7 → ∀ x dx D TA o' c1 c2 t1 t2 h' tk', AllNe x news → AllNe dx news → AllNe D news → AllNe TA news → Fr h₀ L h' m → News h₀ L h' ((x, instObj 106 dx) :: (dx, ruleDict w (.ref TA) c1 c2 D) :: (D, o') :: (TA, tupObj [.str (Str.ofString "mark") t1, .int n t2]) :: news) → (D == sysModules) = false →
      Obj.IsDictOf (intKind prog w) o' [] → Q (.ref x) { s with heap := h', toks := tk' })
    (hnone : (∀ n, figs (Str.ofString "0123456789") ws = some n → 7 < n) → TurnedTo A₀ base outer (Mine.hd.heap_1 w.params) p loose mean mg mb h₀ L m news s .none Q) :
    wpAny (model prog w) (ktrTop dp un gd cn cs L a ccd [] outer) (call (.ref 173) [.str x tx]) Q E s := by
  have hsh : SeqAt.shaped (.list [.str (Str.ofString "mark")]) = true := by decide +kernel
  have heq : (PyData.eqv (.list [.str (Str.ofString "let")]) (.list [.str (Str.ofString "mark")]) || PyData.eqv (.list [.str (Str.ofString "drop")]) (.list [.str (Str.ofString "mark")])) = false := by decide +kernel
  have N0 : True → News h₀ L s.heap news := fun _ => N
  have D0 : True → KtsDicts (outer.filterMap (·.frame)) h₀ := fun _ => D
  have hws' : ws.length ≤ 1000 := by omega
  k_dflt cell_enter
  clear N
  k_steps
  all_goals first
    | (rename KtsTurn _ s.heap _ => zT
       rename figs _ ws = _ => zW
       obtain ⟨kg, T1, F1, N1, B1, X1, P1, D1⟩ := ctr_turned B F (N0 trivial) XB TB (D0 trivial) zT (by assumption) (by assumption)
       refine hnone (fun n e => ?_) kg _ _ T1 F1 (fun q hq => N1 q (List.mem_append_right _ hq)) B1 X1 P1 D1
       have e2 := e.symm.trans zW
       first
         | (cases e2; done)
         | (have := hf0 n e; cases e2; omega))
    | (rename Fr s.heap _ _ _ => zF
       rename News s.heap _ _ _ => zN
       refine' hret _ (by assumption) (by omega) _ _ _ _ _ _ _ _ _ _ _ ?e1 ?e2 ?e3 ?e4 (ctr_fr F zF) ?hN ?hlo ?hho
       case hho => assumption
       case hlo => assumption
       case hN =>
         intro q hq
         refine ctr_news F (N0 trivial) zF zN q ?_
         rcases List.mem_cons.mp hq with rfl | hq
         · exact List.mem_append_left _ (by k_mem)
         rcases List.mem_cons.mp hq with rfl | hq
         · exact List.mem_append_left _ (by k_mem)
         rcases List.mem_cons.mp hq with rfl | hq
         · exact List.mem_append_left _ (by k_mem)
         rcases List.mem_cons.mp hq with rfl | hq
         · exact List.mem_append_left _ (by k_mem)
         exact List.mem_append_right _ hq
       case e1 => exact ctr_ne (N0 trivial) zN (by k_mem)
       case e2 => exact ctr_ne (N0 trivial) zN (by k_mem)
       case e3 => exact ctr_ne (N0 trivial) zN (by k_mem)
       case e4 => exact ctr_ne (N0 trivial) zN (by k_mem))
    | (trace_state; w_report)
end

example : True := by
  k_with_none
  k_with "ite" => (k_here; (with_reducible show (if (!_) = true then _ else _)); (with_reducible refine' ite_no ?itb ?_); (case itb => k_dflt decide))
  k_with "w k_in" => (refine' Frag.In.keeps ?xa (Fr.keep ?xb); (case xb => with_reducible assumption); (case xa => with_reducible assumption))
  k_with "w k_all" => first | exact allNe (by assumption) | exact allNe (allLt_le (by assumption) (by (try dsimp only); omega))
  k_with "w k_room" => ktr_room
  k_with "w ktr_enter" => (refine' code_def ?k1 ?k2 ?k3 ?k4 ?k5 ?kA ?kF ?kK ?k6 ?k7 ?k8 ?k9 ?kB ?_ ?c2 ?c3 ?c4 ?c5; (case kA => exact rfl); (case kF => exact rfl); (case kK => first | exact rfl | assumption); (case k1 => k_asm); (case k2 => k_asm); (case k3 => k_asm); (case k4 => k_asm); (case k5 => k_asm); (case k6 => k_is); (case k7 => k_is); (case k8 => ktr_room); (case k9 => first | exact BindsTo.of_eq rfl | exact binds_K (by k_in) rfl (by k_is) rfl rfl rfl | fail "ktr_enter: no rule for these arguments"); (case c5 => decide); (case kB => exact locs rfl); (case c2 => exact rfl); (case c3 => exact rfl); (case c4 => exact rfl); k_whole; intro g'w9 L'w9 h'w9 FG'w9 F'w9 N'w9 B'w9 X'w9 T'w9; (try dsimp only); (try k_lift B'w9); (try k_fold))
  k_with "getMethod type:Exception" => (k_here; refine' method_type ?F ?X ?m (by decide +kernel) ?e ?h ?_; (case F => k_asm); (case X => k_asm); (case m => exact meta_Exception); (case e => k_dflt k_is); (case h => k_handed))
  k_with "call builtin:Exception.__init__" => (k_here; k_dflt (refine' se_bInit ?k1 ?k2 ?k3 ?k4 ?k5 ?k6 ?k7 ?_; (case k1 => k_asm); (case k2 => k_asm); (case k3 => k_asm); (case k4 => k_mem); (case k5 => k_is); (case k6 => decide); (case k7 => intro t'w9; k_upd)); intro t'w9 h'w9 F'w9 N'w9 l1w9; (try k_lt l1w9); (try k_sweep))
  k_with "setAttr ref" => (k_here; k_dflt (refine' se_set1 ?k1 ?k2 ?k3 ?k4 ?k5 ?k6 ?k7 ?k8 ?k9 ?k10 ?k11 ?_; (case k1 => k_asm); (case k2 => k_asm); (case k3 => k_asm); (case k4 => k_mem); (case k5 => k_is); (case k6 => rfl); (case k7 => k_is); (case k8 => exact se_pass); (case k9 => k_is); (case k10 => k_is); (case k11 => intro t'w9; k_upd)); intro t'w9 h'w9 F'w9 N'w9 l1w9; (try k_lt l1w9); (try k_sweep))
  k_with "setAttr ref" => (k_here; k_dflt (refine' se_set2 ?k1 ?k2 ?k3 ?k4 ?kd ?k5 ?k6 ?k7 ?k8 ?k9 ?k10 ?k11 ?k12 ?k13 ?k14 ?_; (case k1 => k_asm); (case k2 => k_asm); (case k3 => k_asm); (case k4 => k_mem); (case kd => k_mem); (case k5 => k_is); (case k6 => rfl); (case k7 => k_is); (case k8 => exact se_pass); (case k9 => k_is); (case k10 => k_is); (case k11 => k_get); (case k12 => k_put); (case k13 => k_upd); (case k14 => exact Nat.le_of_ble_eq_true rfl)); intro h'w9 F'w9 N'w9; (try k_sweep))
  k_with "exec Raise some none" => (k_here; k_dflt (refine' se_Raise ?h ?_; (case h => exact rfl)))
  k_with "call ref" => (k_here; (with_reducible show wpAny _ _ (call (Value.ref 54) [Value.str _ _]) _ _ _); k_dflt (refine' se_make ?k1 ?k2 ?k3 ?k4 ?k5 ?k6 ?k7 ?_; (case k1 => k_asm); (case k2 => k_asm); (case k3 => k_asm); (case k4 => k_asm); (case k5 => k_asm); (case k6 => first | exact rfl | assumption); (case k7 => ktr_room)); intro e'w9 t'w9 d'w9 h'w9 tk'w9 F'w9 N'w9 l1w9 l2w9; (replace l1w9 := allLt_of l1w9); (have l1bw9 := l1w9); (try simp only [AllLt, and_true] at l1bw9); (try k_lt2 l2w9); (try k_sweep))
  k_with "SeRaised" => (refine' ⟨_, _, _, rfl, ?X, ?m, ?_⟩; (case X => k_in); (case m => exact News.get (by k_asm) (by k_mem)))
  k_with "leaving ref" => (k_here; k_dflt (refine' se_leave ?k1 ?k2 ?k3 ?k4 ?k5 ?_; (case k2 => k_asm); (case k1 => k_asm); (case k3 => k_asm); (case k4 => first | assumption | (simp only [AllLt, and_true]; omega)); (case k5 => omega)); intro h'w9 R'w9 R2'w9 U'w9; (try dsimp only at R'w9 R2'w9 U'w9 ⊢))
  k_with "call ref" => (k_here; (with_reducible show wpAny _ _ (call (Value.ref 117) [Value.str _ _, Value.str _ _]) _ _ _); k_dflt (refine' con_figs ?k1 ?k2 ?k3 ?k4 ?k5 ?k6 ?k7 ?k8 ?k9 (fun f'w9 t'w9 h'w9 tk'w9 hf'w9 F'w9 N'w9 => ?_) (fun hE'w9 g'w9 e'w9 t'w9 vs'w9 h'w9 tk'w9 G'w9 B'w9 R'w9 U'w9 => ?_); (case k1 => k_asm); (case k2 => k_asm); (case k3 => k_asm); (case k4 => k_asm); (case k5 => k_asm); (case k6 => first | exact rfl | assumption); (case k7 => ktr_room); (case k8 => first | assumption | decide); (case k9 => decide)); all_goals (try k_sweep))
  k_with "w k_upd" => first | (refine' Drop.head ?a; (case a => k_all)) | (refine' Drop.tail ?a ?b; (case a => k_ne); (case b => k_upd))
  k_with "exec For Tuple Tuple cons nil" => (k_here; k_dflt (refine' for_enter ?_ ?hs; (case hs => intro _; exact rfl)))
  k_with "exec For Name Call cons nil" => (k_here; k_dflt (refine' for_enter ?_ ?hs; (case hs => intro _; exact rfl)))
  k_with "pyIter ref" => (k_here; (with_reducible show wpAny _ _ (pyIter (Value.ref _)) (ForAt _ _ _ _ _ _ _ _) _ _); k_dflt (first | (refine' iter_tuple_K ?k1 ?k2 ?k3 ?_; (case k1 => k_asm); (case k2 => k_asm); (case k3 => k_mem)) | (refine' iter_list_K ?k1 ?k2 ?k3 ?_; (case k1 => k_asm); (case k2 => k_asm); (case k3 => k_mem)) | (refine' iter_range_K ?k1 ?k2 ?k3 ?k4 ?_; (case k1 => k_asm); (case k2 => k_asm); (case k3 => assumption); (case k4 => decide))); intro I'w9 h'w9 F'w9 N'w9 l1w9; (try k_lt l1w9); (try k_sweep))
  k_with "ForAt" => (refine ⟨_, rfl, ?_⟩)
  k_with "ForGo" => (refine for_turn (by passes_own) ?_)
  k_with "pyNext ref" => (k_here; k_dflt (first | (refine' next_tuple_K ?k1 ?k2 ?k3 ?k4 ?k5 ?k6 ?_; (case k1 => k_asm); (case k2 => k_asm); (case k3 => k_mem); (case k4 => k_mem); (case k5 => exact rfl); (case k6 => intro d'w9 sl'w9; k_upd); intro d'w9 sl'w9 h'w9 F'w9 N'w9; (try k_sweep)) | (refine' end_tuple_K ?k0 ?k1 ?k2 ?k3 ?k4 ?k5 ?k6 ?_; (case k0 => exact rfl); (case k1 => k_asm); (case k2 => k_asm); (case k3 => k_mem); (case k4 => k_mem); (case k5 => exact rfl); (case k6 => k_upd); intro h'w9 F'w9 N'w9; (try k_sweep)) | (refine' next_list_K ?k1 ?k2 ?k3 ?k4 ?k5 ?k6 ?_; (case k1 => k_asm); (case k2 => k_asm); (case k3 => k_mem); (case k4 => k_mem); (case k5 => exact rfl); (case k6 => intro d'w9 sl'w9; k_upd); intro d'w9 sl'w9 h'w9 F'w9 N'w9; (try k_sweep)) | (refine' end_list_K ?k0 ?k1 ?k2 ?k3 ?k4 ?k5 ?k6 ?_; (case k0 => exact rfl); (case k1 => k_asm); (case k2 => k_asm); (case k3 => k_mem); (case k4 => k_mem); (case k5 => exact rfl); (case k6 => k_upd); intro h'w9 F'w9 N'w9; (try k_sweep)) | (refine' next_range_K ?k1 ?k2 ?k3 ?k4 ?k5 ?_; (case k1 => k_asm); (case k2 => k_asm); (case k3 => k_mem); (case k4 => decide); (case k5 => k_upd); intro h'w9 F'w9 N'w9; (try k_sweep)) | (refine' end_range_K ?k0 ?k1 ?k2 ?k3 ?k4 ?k5 ?_; (case k0 => exact rfl); (case k1 => k_asm); (case k2 => k_asm); (case k3 => k_mem); (case k4 => decide); (case k5 => k_upd); intro h'w9 F'w9 N'w9; (try k_sweep))))
  k_with "ForNext" => (dsimp only [ForNext])
  k_with "ForBody" => (dsimp only [ForBody])
  k_with "letOwnedTupleGo" => (k_here; k_dflt (first | (refine' let_name_K ?_; k_whole) | (refine' let_iter_K ?k1 ?k2 ?k3 ?_; (case k1 => k_asm); (case k2 => k_mem); (case k3 => decide))))
  k_with "call builtin:str.split" => (k_here; (with_reducible show wpAny _ _ (call (Value.builtin "str.split") [Value.str _ _, Value.str _ _]) _ _ _); k_dflt (refine' KSpl.split1 ?k1 ?k2 ?k3 ?_ ?k4; (case k1 => k_asm); (case k2 => k_asm); (case k3 => decide); (case k4 => exact line_of_le (by assumption))); intro D'w9 l'w9 h'w9 k'w9 e'w9 a'w9 F'w9 N'w9 l1w9; (try k_lt l1w9); first | ((replace e'w9 := e'w9.trans (by assumption)); (kspl_open e'w9); (simp only [strValues, List.map_cons, List.map_nil] at N'w9 a'w9); (try k_sweep)) | ((have hlen'w9 := split_ne e'w9 (by assumption)); (try k_sweep)))
  k_with "leaving ref" => (k_here; k_dflt (refine' leave_onS ?k1 ?k2 ?k3 ?k4 ?_; (case k3 => assumption); (case k2 => assumption); (case k1 => assumption); (case k4 => assumption)); intro h'w9 S'w9 R'w9 U'w9; (try dsimp only at S'w9 R'w9 U'w9 ⊢))
  k_with "call ref" => (k_here; (with_reducible show wpAny _ _ (call (Value.ref 124) [Value.str _ _]) _ _ _); k_dflt (refine' con_wish ?k1 ?k2 ?k3 ?k4 ?k5 ?k6 ?k7 ?k8 ?k9 ?k10 (fun wd'w9 f1'w9 f2'w9 t1'w9 t2'w9 t3'w9 D'w9 h'w9 tk'w9 hf'w9 F'w9 N'w9 l1w9 => ?_) (fun hE'w9 g'w9 e'w9 t'w9 vs'w9 h'w9 tk'w9 G'w9 B'w9 R'w9 U'w9 => ?_); (case k1 => k_asm); (case k2 => k_asm); (case k3 => k_asm); (case k4 => k_asm); (case k5 => k_asm); (case k6 => first | exact rfl | assumption); (case k7 => ktr_room); (case k8 => assumption); (case k9 => assumption); (case k10 => assumption)); all_goals (try simp only [AllLt, and_true] at l1w9); all_goals (try k_sweep))
  k_with "compareOp In ref ref" => (k_here; k_dflt (refine' in_two ?k1 ?k2 ?k3 ?k4 ?k5 ?k6 ?k7 ?k8 ?k9 ?k10 ?k11 ?_; (case k1 => exact isTup_of (by k_asm) (by k_mem)); (case k4 => ked_read); (case k5 => ked_read); (case k6 => ked_read); (case k2 => k_ne); (case k3 => k_ne); (case k7 => first | assumption | decide +kernel | ked_shaped); (case k8 => first | decide +kernel | ked_shaped); (case k9 => first | decide +kernel | ked_shaped); (case k10 => ktr_units); (case k11 => first | assumption | decide +kernel | rfl)))
  k_with "call builtin:str.split" => (k_here; (with_reducible show wpAny _ _ (call (Value.builtin "str.split") [Value.str _ _]) _ _ _); k_dflt (refine' KSpl.split0 ?k1 ?k2 ?_ ?k4; (case k1 => k_asm); (case k2 => k_asm); (case k4 => exact line_of_le (by assumption))); intro D'w9 l'w9 h'w9 k'w9 e'w9 a'w9 F'w9 N'w9 l1w9; (try k_lt l1w9); (replace e'w9 := e'w9.trans (by assumption)); (kspl_open e'w9); (simp only [strValues, List.map_cons, List.map_nil] at N'w9 a'w9); (try k_sweep))
  k_with "compareOp NotIn str ref" => (k_here; k_dflt (refine' notin_names ?X ?h ?_; (case X => k_in); (case h => assumption)))
  k_with "call builtin:tuple.index" => (k_here; k_dflt (refine' index_names ?X ?h ?_; (case X => k_in); (case h => assumption)))
  k_with "getMethod ref" => (k_here; k_dflt (refine' meth_names ?X ?_; (case X => k_in)))
  k_with "call ref" => (k_here; (with_reducible show wpAny _ _ (call (Value.ref 124) [Value.str _ _]) _ _ _); k_dflt (refine' con_wishOk ?k0 ?k1 ?k2 ?k3 ?k4 ?k5 ?k6 ?k7 ?k8 ?k9 ?k10 (fun t1'w9 t2'w9 t3'w9 D'w9 h'w9 tk'w9 F'w9 N'w9 l1w9 => ?_); (case k0 => assumption); (case k1 => k_asm); (case k2 => k_asm); (case k3 => k_asm); (case k4 => k_asm); (case k5 => k_asm); (case k6 => first | exact rfl | assumption); (case k7 => ktr_room); (case k8 => assumption); (case k9 => assumption); (case k10 => assumption)); (try simp only [AllLt, and_true] at l1w9); (try k_sweep))
  k_with "w cell_enter" => (refine' ctr_enter ?k1 ?k2 ?k3 ?k4 ?k5 ?kA ?kK ?k6 ?k7 ?k8 ?k9 ?kB ?_ ?c2 ?c3 ?c4 ?c5; (case kA => exact rfl); (case kK => first | exact rfl | assumption); (case k2 => k_asm); (case k1 => k_asm); (case k3 => k_asm); (case k4 => k_asm); (case k5 => k_asm); (case k6 => k_is); (case k7 => k_is); (case k8 => ktr_room); (case k9 => first | exact BindsTo.of_eq rfl | exact binds_K (by k_in) rfl (by k_is) rfl rfl rfl | fail "ctr_enter: no rule for these arguments"); (case c5 => decide); (case kB => exact locs rfl); (case c2 => exact rfl); (case c3 => exact rfl); (case c4 => exact rfl); k_whole; intro L'w9 h'w9 F'w9 N'w9 B'w9 X'w9 T'w9 D'w9; (try dsimp only); (try k_lift B'w9); (try k_fold))
  k_with "call builtin:sorted" => (k_here; (with_reducible show wpAny _ _ (call (Value.builtin "sorted") [Value.ref _]) _ _ _); k_dflt (refine' sorted_one ?k0 ?k1 ?k2 ?k3 ?k4 ?k5 ?_; (case k0 => exact rfl); (case k1 => k_asm); (case k2 => k_asm); (case k3 => k_mem); (case k4 => assumption); (case k5 => assumption)); intro B'w9 t'w9 h'w9 tk'w9 F'w9 N'w9 l1w9; (try k_lt l1w9); (try k_sweep))
  k_with "subscriptTail Name Name ref int" => (k_here; k_dflt (refine' kda_item (knd := PySem.intKind _ _) ?k1 ?k2 ?k3 ?k4 ?k5 ?_; (case k1 => k_asm); (case k2 => k_mem); (case k3 => k_asm); (case k4 => exact intKind_is _ _ _ _); (case k5 => exact valueAt_one)))
  k_with "subscriptTail Name Name ref int" => (k_here; (with_reducible show wpAny _ _ (subscriptTail _ _ (Value.ref 16) (Value.int _ _)) _ _ _); k_dflt (refine' bits_item ?X ?h ?_; (case X => k_in); (case h => assumption)); intro t'w9)
  k_with "testChain" => first | with_reducible refine test_link ?_ | with_reducible refine test_last ?_ | refine test_link ?_
  k_with "call ref" => (k_here; (with_reducible show wpAny _ _ (call (Value.ref 70) [Value.ref _, Value.int _ _]) _ _ _); k_dflt (refine' con_check ?k0 ?k1 ?k2 ?k3 ?k4 ?k5 ?k6 ?k7 ?k8 ?k9 (fun hf'w9 h'w9 tk'w9 F'w9 N'w9 => ?_) (fun hE'w9 g'w9 e'w9 t'w9 vs'w9 h'w9 tk'w9 G'w9 B'w9 R'w9 U'w9 => ?_); (case k0 => assumption); (case k1 => k_asm); (case k2 => k_asm); (case k3 => k_asm); (case k4 => k_asm); (case k5 => k_asm); (case k6 => first | exact rfl | assumption); (case k7 => ktr_room); (case k8 => omega); (case k9 => k_mem)); all_goals (try k_sweep))
  k_with "call type:dict" => (k_here; (with_reducible show wpAny _ _ (call (Value.type "dict") [Value.ref _]) _ _ _); k_dflt (refine' dict_one ?k1 ?k2 ?k3 ?k4 ?k5 ?k6 ?_; (case k1 => k_asm); (case k2 => k_asm); (case k3 => exact Top.nolimit (by k_asm)); (case k4 => k_mem); (case k5 => assumption); (case k6 => assumption)); intro D'w9 o'w9 h'w9 F'w9 N'w9 l1w9 lo'w9 ho'w9; (try k_lt l1w9); (try k_sweep))
  k_with "call ref" => (k_here; (with_reducible show wpAny _ _ (call (Value.ref 106) [Value.str _ _, Value.ref _]) _ _ _); k_dflt (refine' con_rule ?k1 ?k2 ?k3 ?k4 ?k5 ?k7 ?k8 ?k9 ?ka ?kb ?kc ?kd ?ke ?kf ?kg ?kh (fun hf'w9 x'w9 dx'w9 D'w9 o'w9 c1'w9 c2'w9 h'w9 tk'w9 F'w9 N'w9 l1w9 l2'w9 l3'w9 lo'w9 ho'w9 => ?_) (fun hE'w9 g'w9 e'w9 t'w9 vs'w9 h'w9 tk'w9 G'w9 B'w9 R'w9 U'w9 => ?_); (case k1 => k_asm); (case k2 => k_asm); (case k3 => k_asm); (case k4 => k_asm); (case k5 => k_asm); (case k7 => first | exact rfl | assumption); (case k8 => ktr_room); (case k9 => ktr_units); (case ka => assumption); (case kb => first | assumption | exact wishOf_wd (by assumption)); (case kc => assumption); (case kd => omega); (case ke => k_mem); (case kf => assumption); (case kh => assumption); (case kg => k_mem)); all_goals (try k_lt l1w9); all_goals (try k_sweep))
  trivial
end Ex1985
-- M26body.txt
section
variable {prog : Program} {w : World} {dp un : Nat} {gd : Option (List Code)} {cn : Str} {cs : Scope} {a : Addr} {ccd : Value} {outer : List Env} {A₀ : Around} {base h₀ : Heap} {L : Addr} {m : Str → Option Value} {news : List (Addr × Obj)} {s : Shared}
    {E : Value → Shared → Prop} {p : Program} {loose : List Str} {mean : ExcName → Option Value} {mg mb : Str → Option Value}

set_option maxHeartbeats 8000000 in
theorem con_mark0 {Q : Value → Shared → Prop} {x : Str} {tx : Tok}
    (B : Below A₀ base outer h₀) (F : Fr h₀ L s.heap m) (X : (Mine.hd.heap_1 w.params).In h₀) (N : News h₀ L s.heap news) (T : Top p loose mean mg mb h₀) (D : KtsDicts (outer.filterMap (·.frame)) h₀) (XB : (Mine.hd.heap_1 w.params).In base) (TB : Top p loose mean mg mb base) (hk : cs.kind = .function)
    (hd : dp + 12 < recursionLimit) (hu : un + 300 < cLine) (hx : x.length ≤ 1000)
    (hw : Txt.words x = [Str.ofString "mark"])
    (hnone : TurnedTo A₀ base outer (Mine.hd.heap_1 w.params) p loose mean mg mb h₀ L m news s .none Q) :
    wpAny (model prog w) (ktrTop dp un gd cn cs L a ccd [] outer) (call (.ref 173) [.str x tx]) Q E s := by
  have hsh : SeqAt.shaped (.list [.str (Str.ofString "mark")]) = true := by decide +kernel
  have heq : (PyData.eqv (.list [.str (Str.ofString "let")]) (.list [.str (Str.ofString "mark")]) || PyData.eqv (.list [.str (Str.ofString "drop")]) (.list [.str (Str.ofString "mark")])) = false := by decide +kernel
  have N0 : True → News h₀ L s.heap news := fun _ => N
  have D0 : True → KtsDicts (outer.filterMap (·.frame)) h₀ := fun _ => D
  k_dflt cell_enter
  clear N
  k_steps
  all_goals first
    | (rename KtsTurn _ s.heap _ => zT
       obtain ⟨kg, T1, F1, N1, B1, X1, P1, D1⟩ := ctr_turned B F (N0 trivial) XB TB (D0 trivial) zT (by assumption) (by assumption)
       exact hnone kg _ _ T1 F1 (fun q hq => N1 q (List.mem_append_right _ hq)) B1 X1 P1 D1)
    | w_report
end

-- M13body.txt
section
variable {prog : Program} {w : World} {A₀ A : Around} {s : Shared} {base h₀ : Heap} {outer : List Env} {L a : Addr} {m : Str → Option Value} {cn : Str} {cs : Scope} {ccd : Value} {K : Frag} {p : Program} {loose : List Str} {mean : ExcName → Option Value} {mg mb : Str → Option Value}
    {R : Result → Shared → Prop} {name qual : Str} {params : Arguments} {body : List Stmt} {scope : Scope} {dV kV doc pm cdv ct oc : Value} {an od : Option Addr} {osl : Array (Option Value)} {f : Addr} {args : Args} {binds : List (Str × Value)}
/-- a def with cells is entered over the heap less some objects, which are its ledger -/
theorem ctr_codeC (news₁ : List (Addr × Obj)) (B : Below A₀ base outer h₀) (F : Fr h₀ L s.heap m) (X₀ : K.In h₀) (N : News h₀ L s.heap news₁) (T : Top p loose mean mg mb h₀) (hA : A.frames = some (envOf cn cs L a ccd :: outer)) (hck : cs.kind = .function)
    (ho : K.lookup f = some ⟨oc, od, .func (fnOf name qual params body scope dV kV doc pm an cdv ct), osl⟩) (hcd : codeIn K cdv qual = true) (hroom : A.depth < recursionLimit)
    (hbind : BindsTo s (fnOf name qual params body scope dV kV doc pm an cdv ct) args binds) (hkind : (binds.all fun y => scope.names.lookup y.1 == some .local || scope.names.lookup y.1 == some .cell) = true)
    (hnd : ((cellsFrom 0 scope.names []).map (·.1)).Nodup)
    (h : ∀ g L' h₁ tk cells, Rest s.heap g news₁ → Fr h₀ L g m → Fr g L' h₁ (bindL (envOfC qual scope L' f cdv).kindOf binds fun _ => none) → News g L' h₁ (cells ++ news₁) →
      CellsAre (bindC (envOfC qual scope L' f cdv).kindOf binds fun _ => none) (cellsFrom (L' + 1) scope.names []) cells → Below A base (envOf cn cs L a ccd :: outer) g → K.In g → Top p loose mean mg mb g → (∀ p ∈ news₁, p.1 < L') →
      wpAny (model prog w) (A.deeper (envOfC qual scope L' f cdv)) (execs body (envOfC qual scope L' f cdv))
        (fun fl s' => R (.ok (.ret (match fl with | .ret v => v | _ => .none))) s')
        (fun e s' => wpAny (model prog w) (A.deeper (envOfC qual scope L' f cdv)) (leaving (envOfC qual scope L' f cdv) e) (fun _ s'' => R (.error e) s'') (fun e' s'' => R (.error e') s'') s')
        { s with heap := h₁, toks := tk })
    (hco : scope.isCoroutine = false) (hgen : scope.isGenerator = false) (hk : scope.kind = .function) : codeAny (model prog w) A (.call (.ref f) args) R s := by
  have X := X₀.keeps F.keep
  refine codeAny_call_function hroom (X _ _ ho) rfl hco hgen rfl (codeRec_of X hcd) (hbind _ _ _ _ ?_)
  refine wpAny_newFunctionEnv_cells hk (kindsX hkind _) fun env' he s' x => ?_
  subst he
  refine ⟨(T.nolimit.keeps F.keep).keeps x.toInCall.keep, codeAny_func ?_⟩
  obtain ⟨h₁, tk, rfl, _⟩ := x.done
  have hk₁ := x.toInCall.keep
  obtain ⟨cells, NC, Y⟩ := Cl.news (h₀ := s.heap) (Nat.le_refl _) fun n c hm => ⟨x.cell n c (lookup_of_mem_nodup (cellsFrom_names scope.names 0 (s.heap.objs.size + 1) [] [] rfl ▸ hnd) hm), x.above n c hm⟩
  obtain ⟨oL, es, ep, hLg, hLd, hN, hNs, st, B₂⟩ := kts_enter B F N hA hck
  refine h _ s.heap.objs.size h₁ tk cells (fun b o e hn => hideAll_get _ e hn) ⟨hN _ hLg, st, F.above⟩ ⟨x.toInCall.ns, fun b o e => hk₁ b o (of_hideAll _ e), Nat.le_of_eq (hideAll_size _ _)⟩ (fun p hp => ?_) Y B₂ (X₀.keeps st) (T.keeps st) (fun p hp => Heap.lt_size (N p hp).1)
  rcases List.mem_append.mp hp with hp | hp
  · refine ⟨(NC p hp).1, (NC p hp).2.1, ?_⟩
    cases q : (hideAll s.heap (news₁.map (·.1))).get? p.1 with
    | none => rfl
    | some o => have := of_hideAll _ q; rw [(NC p hp).2.2] at this; cases this
  · exact ⟨hk₁ _ _ (N p hp).1, Nat.ne_of_lt (Heap.lt_size (N p hp).1), hideAll_none _ (List.mem_map_of_mem hp)⟩
end
section
variable {prog : Program} {w : World} {K : Type} [DecidableEq K] {knd : KeyKind prog w K} {A : Around} {E : Value → Shared → Prop} {s : Shared} {h₀ : Heap} {L d : Addr} {news : List (Addr × Obj)} {o : Obj} {kvs : List (K × Value)} {k : K} {key v : Value}
theorem kda_get {Q : Value → Shared → Prop} (N : News h₀ L s.heap news) (hp : (d, o) ∈ news) (hd : o.IsDictOf knd kvs) (hkey : knd.is k key = true) (hl : valueAt kvs k = some v) (h : Q v { s with toks := s.toks + 1 }) : wpAny (model prog w) A (getItem (.ref d) key) Q E s :=
  wpAny_getItem_of hkey (kda_dict N hp hd).mapOf hl h
end

-- lines 16
example : True := by
  k_with "exec For Tuple Call cons nil" => (k_here; k_dflt (refine' for_enter ?_ ?hs; (case hs => intro _; exact rfl)))
  k_with "eval ListComp" => (k_here; (with_reducible show wpAny _ _ (eval (Expr.ListComp (Expr.Tuple _ _ _) _ _ _) _) _ _ _); k_dflt (refine LCg.ListComp_U (F₀ := by k_asm) (by with_unfolding_all rfl) (by decide) (by rfl) (by decide) (by rfl) ?_); k_dflt lcg_toSrc)
  k_with "CompSrc" => (k_here; (with_reducible show LCg.CompSrc _ _ _ _ _ _ _ (Expr.Tuple _ _ _) _ _ _ _ _ _); k_dflt (refine LCg.CompSrc.ledger (by rfl) (by k_asm) (by k_asm) (by k_mem) (by first | size_fits | exact Nat.le_of_ble_eq_true rfl) ?_; intro g'w9; lcg_lit))
  k_with "getItem ref int" => (k_here; k_dflt (refine' kda_get (knd := PySem.intKind _ _) ?k1 ?k2 ?k3 ?k4 ?k5 ?_; (case k1 => k_asm); (case k2 => k_mem); (case k3 => k_asm); (case k4 => exact intKind_is _ _ _ _); (case k5 => exact valueAt_one)))
  trivial
section
variable {prog : Program} {w : World} {dp un : Nat} {gd : Option (List Code)} {cn : Str} {cs : Scope} {a : Addr} {ccd : Value} {outer : List Env} {A₀ : Around} {base h₀ : Heap} {L : Addr} {m : Str → Option Value} {news : List (Addr × Obj)} {s : Shared}
    {E : Value → Shared → Prop} {p : Program} {loose : List Str} {mean : ExcName → Option Value} {mg mb : Str → Option Value}

set_option maxHeartbeats 8000000 in
theorem con_rows {Q : Value → Shared → Prop} {c1 c2 : Tok} {av : Value} {i : Nat} {x dx D T₁ : Addr} {o₁ : Obj}
    (B : Below A₀ base outer h₀) (F : Fr h₀ L s.heap m) (X : (Mine.hd.heap_1 w.params).In h₀) (N : News h₀ L s.heap news) (T : Top p loose mean mg mb h₀) (hk : cs.kind = .function)
    (hd : dp + 7 < recursionLimit) (hu : un + 200 < cLine)
    (hx : (x, instObj 106 dx) ∈ news) (hdx : (dx, ruleDict w av c1 c2 D) ∈ news) (hD : (D, o₁) ∈ news) (hD0 : (D == sysModules) = false) (ho : Obj.IsDictOf (intKind prog w) o₁ [((i : Int), .ref T₁)])
    (hret : ∀ LL TT t h' tk', Fr h₀ L h' m → News h₀ L h' ((LL, LCg.lst [.ref TT]) :: (TT, tupObj [.int (i : Int) t, .ref T₁]) :: news) → Q (.ref LL) { s with heap := h', toks := tk' }) :
    wpAny (model prog w) (ktrTop dp un gd cn cs L a ccd [] outer) (call (.ref 89) [.ref x]) Q E s := by
  refine wpAny_call ?_
  have N₁ : News h₀ L s.heap [(x, instObj 106 dx), (dx, ruleDict w av c1 c2 D), (D, o₁)] := fun q hq => by
    simp only [List.mem_cons, List.not_mem_nil, or_false] at hq
    rcases hq with rfl | rfl | rfl
    · exact N _ hx
    · exact N _ hdx
    · exact N _ hD
  refine ctr_codeC _ B F X N₁ T rfl hk (by k_is) (by k_is) (by ktr_room) (BindsTo.of_eq rfl) rfl (by decide +kernel) ?_ rfl rfl rfl
  k_whole
  intro g' L' h' tk' cells' hR FG' F' N' Y' B' X' T' l1
  (try k_lt l1)
  k_cells Y'
  (try simp only [List.cons_append, List.nil_append] at N')
  (try dsimp only)
  (try k_fold)
  k_steps
  refine' hret _ _ _ _ _ (ctr_frN FG' (by assumption)) ?hN
  case hN =>
    have No : News h₀ L _ news := ctr_same FG' N N₁ hR (by assumption) (by assumption) fun q hq => by repeat (first | exact hq | refine List.mem_cons_of_mem _ ?_)
    intro q hq
    rcases List.mem_cons.mp hq with rfl | hq
    · exact ctr_all FG' (by assumption) (by k_mem)
    rcases List.mem_cons.mp hq with rfl | hq
    · exact ctr_all FG' (by assumption) (by k_mem)
    exact No q hq

/-- has a wish this number -/
def holdsOf (wd : Str) (a b n : Int) : Bool := if n = -1 then false else if wd == Str.ofString "mask" then PySem.Builtin.bitAnd n b == a else decide (a ≤ n) && decide (n ≤ b)
end

-- M14body.txt
section
variable {prog : Program} {w : World} {A : Around} {E : Value → Shared → Prop} {s : Shared} {h₀ : Heap} {L : Addr} {news : List (Addr × Obj)}
theorem key_item {value slice : Expr} {ks : List Value} {c i : Nat} {u : Tok} {v : Value} {KT : Addr} {Q : Value → Shared → Prop} (N : News h₀ L s.heap news) (hm : (KT, ({ cls := .type "tuple", data := .seq ks.toArray c } : Obj)) ∈ news) (hv : ks[i]? = some v) (hz : ks.length ≤ sizeLine) (h : Q v s)
    (hs : subscripted slice false (.ref KT) (.int (i : Int) u) = operate [.ref KT, .int (i : Int) u] (getItem (.ref KT) (.int (i : Int) u)) := by with_unfolding_all rfl) :
    wpAny (model prog w) A (subscriptTail value slice (.ref KT) (.int (i : Int) u)) Q E s := by
  have hi : i < ks.length := (List.getElem?_eq_some_iff.mp hv).1
  rw [sizeLine_eq] at hz
  refine item_tupleT (l := ks) (j := i) ⟨_, (N _ hm).1, rfl, _, rfl⟩ (by omega) (by omega) ?_ hv h hs
  simp [seqIndex?, hi]
  omega
end

-- lines 17
-- lines 18
example : True := by
  k_with "call ref" => (k_here; (try dsimp only [List.cons_append, List.nil_append]); (with_reducible show wpAny _ _ (call (Value.ref 89) [Value.ref _]) _ _ _); k_dflt (refine' con_rows ?k1 ?k2 ?k3 ?k4 ?k5 ?k6 ?k7 ?k8 ?ka ?kb ?kc ?kd ?ke (fun L'w9 D'w9 t'w9 h'w9 tk'w9 F'w9 N'w9 => ?_); (case k1 => k_asm); (case k2 => k_asm); (case k3 => k_asm); (case k4 => k_asm); (case k5 => k_asm); (case k6 => first | exact rfl | assumption); (case k7 => ktr_room); (case k8 => ktr_units); (case ka => k_mem); (case kb => k_mem); (case kc => k_mem); (case kd => assumption); (case ke => assumption)); (try k_sweep))
  k_with "subscriptTail Name Name ref int" => (k_here; k_dflt (refine' key_item ?k1 ?k2 ?k3 ?k4 ?_; (case k1 => k_asm); (case k2 => k_mem); (case k3 => assumption); (case k4 => assumption)))
  trivial
section
variable {prog : Program} {w : World} {dp un : Nat} {gd : Option (List Code)} {cn : Str} {cs : Scope} {a : Addr} {ccd : Value} {outer : List Env} {A₀ : Around} {base h₀ : Heap} {L : Addr} {m : Str → Option Value} {news : List (Addr × Obj)} {s : Shared}
    {E : Value → Shared → Prop} {p : Program} {loose : List Str} {mean : ExcName → Option Value} {mg mb : Str → Option Value}
theorem holds_absent {wd : Str} {a b n : Int} (h : n = -1) : holdsOf wd a b n = false := by simp [holdsOf, h]
theorem holdsM {a b n : Int} (h : n ≠ -1) : holdsOf (Str.ofString "mask") a b n = (PySem.Builtin.bitAnd n b == a) := by unfold holdsOf; rw [if_neg h, if_pos (by decide)]
theorem holdsR {a b n : Int} (h : n ≠ -1) : holdsOf (Str.ofString "range") a b n = (decide (a ≤ n) && decide (n ≤ b)) := by unfold holdsOf; rw [if_neg h, if_neg (by decide)]

set_option maxHeartbeats 8000000 in
theorem metM {Q : Value → Shared → Prop} {c1 c2 tw t1 t2 tn : Tok} {av : Value} {f1 f2 n : Int} {i c : Nat} {x dx D T₁ KT : Addr} {o₁ : Obj} {ks : List Value}
    (B : Below A₀ base outer h₀) (F : Fr h₀ L s.heap m) (X : (Mine.hd.heap_1 w.params).In h₀) (N : News h₀ L s.heap news) (T : Top p loose mean mg mb h₀) (hk : cs.kind = .function)
    (hd : dp + 9 < recursionLimit) (hu : un + 300 < cLine) (hks : ks[i]? = some (.int n tn)) (hkz : ks.length ≤ sizeLine)
    (hx : (x, instObj 106 dx) ∈ news) (hdx : (dx, ruleDict w av c1 c2 D) ∈ news) (hD : (D, o₁) ∈ news) (hT : (T₁, tupObj [.str (Str.ofString "mask") tw, .int f1 t1, .int f2 t2]) ∈ news) (hK : (KT, { cls := .type "tuple", data := .seq ks.toArray c }) ∈ news) (hD0 : (D == sysModules) = false) (ho : Obj.IsDictOf (intKind prog w) o₁ [((i : Int), .ref T₁)])
    (hret : ∀ b h' tk', holdsOf (Str.ofString "mask") f1 f2 n = b → Fr h₀ L h' m → News h₀ L h' news → Q (.bool b) { s with heap := h', toks := tk' }) :
    wpAny (model prog w) (ktrTop dp un gd cn cs L a ccd [] outer) (call (.ref 96) [.ref x, .ref KT]) Q E s := by
  refine wpAny_call ?_
  have N₁ : News h₀ L s.heap [(x, instObj 106 dx), (dx, ruleDict w av c1 c2 D), (D, o₁), (T₁, tupObj [.str (Str.ofString "mask") tw, .int f1 t1, .int f2 t2]), (KT, { cls := .type "tuple", data := .seq ks.toArray c })] := fun q hq => by
    simp only [List.mem_cons, List.not_mem_nil, or_false] at hq
    rcases hq with rfl | rfl | rfl | rfl | rfl
    · exact N _ hx
    · exact N _ hdx
    · exact N _ hD
    · exact N _ hT
    · exact N _ hK
  refine ctr_code _ B F X N₁ T rfl hk (by k_is) (by k_is) (by ktr_room) (BindsTo.of_eq rfl) (locs rfl) ?_ rfl rfl rfl (by decide)
  k_whole
  intro g' L' h' hR FG' F' N' B' X' T'
  (try dsimp only)
  (try k_fold)
  k_steps
  all_goals
    (rename Fr g' L' _ _ => zF
     rename News g' L' _ _ => zN
     first
      | exact hret _ _ _ (holds_absent (by assumption)) (ctr_frN FG' zF) (ctr_same FG' N N₁ hR zF zN fun q hq => by repeat (first | exact hq | refine List.mem_cons_of_mem _ ?_))
      | exact hret true _ _ ((holdsM (by assumption)).trans (by simp; assumption)) (ctr_frN FG' zF) (ctr_same FG' N N₁ hR zF zN fun q hq => by repeat (first | exact hq | refine List.mem_cons_of_mem _ ?_))
      | exact hret false _ _ ((holdsM (by assumption)).trans (by simp; assumption)) (ctr_frN FG' zF) (ctr_same FG' N N₁ hR zF zN fun q hq => by repeat (first | exact hq | refine List.mem_cons_of_mem _ ?_))
      | exact hret true _ _ ((holdsR (by assumption)).trans (by simp; exact ⟨by assumption, by assumption⟩)) (ctr_frN FG' zF) (ctr_same FG' N N₁ hR zF zN fun q hq => by repeat (first | exact hq | refine List.mem_cons_of_mem _ ?_))
      | exact hret false _ _ ((holdsR (by assumption)).trans (by simp; omega)) (ctr_frN FG' zF) (ctr_same FG' N N₁ hR zF zN fun q hq => by repeat (first | exact hq | refine List.mem_cons_of_mem _ ?_))
      | w_report)

set_option maxHeartbeats 8000000 in
theorem metR {Q : Value → Shared → Prop} {c1 c2 tw t1 t2 tn : Tok} {av : Value} {f1 f2 n : Int} {i c : Nat} {x dx D T₁ KT : Addr} {o₁ : Obj} {ks : List Value}
    (B : Below A₀ base outer h₀) (F : Fr h₀ L s.heap m) (X : (Mine.hd.heap_1 w.params).In h₀) (N : News h₀ L s.heap news) (T : Top p loose mean mg mb h₀) (hk : cs.kind = .function)
    (hd : dp + 9 < recursionLimit) (hu : un + 300 < cLine) (hks : ks[i]? = some (.int n tn)) (hkz : ks.length ≤ sizeLine)
    (hx : (x, instObj 106 dx) ∈ news) (hdx : (dx, ruleDict w av c1 c2 D) ∈ news) (hD : (D, o₁) ∈ news) (hT : (T₁, tupObj [.str (Str.ofString "range") tw, .int f1 t1, .int f2 t2]) ∈ news) (hK : (KT, { cls := .type "tuple", data := .seq ks.toArray c }) ∈ news) (hD0 : (D == sysModules) = false) (ho : Obj.IsDictOf (intKind prog w) o₁ [((i : Int), .ref T₁)])
    (hret : ∀ b h' tk', holdsOf (Str.ofString "range") f1 f2 n = b → Fr h₀ L h' m → News h₀ L h' news → Q (.bool b) { s with heap := h', toks := tk' }) :
    wpAny (model prog w) (ktrTop dp un gd cn cs L a ccd [] outer) (call (.ref 96) [.ref x, .ref KT]) Q E s := by
  refine wpAny_call ?_
  have N₁ : News h₀ L s.heap [(x, instObj 106 dx), (dx, ruleDict w av c1 c2 D), (D, o₁), (T₁, tupObj [.str (Str.ofString "range") tw, .int f1 t1, .int f2 t2]), (KT, { cls := .type "tuple", data := .seq ks.toArray c })] := fun q hq => by
    simp only [List.mem_cons, List.not_mem_nil, or_false] at hq
    rcases hq with rfl | rfl | rfl | rfl | rfl
    · exact N _ hx
    · exact N _ hdx
    · exact N _ hD
    · exact N _ hT
    · exact N _ hK
  refine ctr_code _ B F X N₁ T rfl hk (by k_is) (by k_is) (by ktr_room) (BindsTo.of_eq rfl) (locs rfl) ?_ rfl rfl rfl (by decide)
  k_whole
  intro g' L' h' hR FG' F' N' B' X' T'
  (try dsimp only)
  (try k_fold)
  k_steps
  all_goals
    (rename Fr g' L' _ _ => zF
     rename News g' L' _ _ => zN
     first
      | exact hret _ _ _ (holds_absent (by assumption)) (ctr_frN FG' zF) (ctr_same FG' N N₁ hR zF zN fun q hq => by repeat (first | exact hq | refine List.mem_cons_of_mem _ ?_))
      | exact hret true _ _ ((holdsM (by assumption)).trans (by simp; assumption)) (ctr_frN FG' zF) (ctr_same FG' N N₁ hR zF zN fun q hq => by repeat (first | exact hq | refine List.mem_cons_of_mem _ ?_))
      | exact hret false _ _ ((holdsM (by assumption)).trans (by simp; assumption)) (ctr_frN FG' zF) (ctr_same FG' N N₁ hR zF zN fun q hq => by repeat (first | exact hq | refine List.mem_cons_of_mem _ ?_))
      | exact hret true _ _ ((holdsR (by assumption)).trans (by simp; exact ⟨by assumption, by assumption⟩)) (ctr_frN FG' zF) (ctr_same FG' N N₁ hR zF zN fun q hq => by repeat (first | exact hq | refine List.mem_cons_of_mem _ ?_))
      | exact hret false _ _ ((holdsR (by assumption)).trans (by simp; omega)) (ctr_frN FG' zF) (ctr_same FG' N N₁ hR zF zN fun q hq => by repeat (first | exact hq | refine List.mem_cons_of_mem _ ?_))
      | w_report)

theorem con_matches {Q : Value → Shared → Prop} {c1 c2 tw t1 t2 tn : Tok} {av : Value} {wd : Str} {f1 f2 n : Int} {i c : Nat} {x dx D T₁ KT : Addr} {o₁ : Obj} {ks : List Value} (hwd : wd = Str.ofString "mask" ∨ wd = Str.ofString "range")
    (B : Below A₀ base outer h₀) (F : Fr h₀ L s.heap m) (X : (Mine.hd.heap_1 w.params).In h₀) (N : News h₀ L s.heap news) (T : Top p loose mean mg mb h₀) (hk : cs.kind = .function)
    (hd : dp + 9 < recursionLimit) (hu : un + 300 < cLine) (hks : ks[i]? = some (.int n tn)) (hkz : ks.length ≤ sizeLine)
    (hx : (x, instObj 106 dx) ∈ news) (hdx : (dx, ruleDict w av c1 c2 D) ∈ news) (hD : (D, o₁) ∈ news) (hT : (T₁, tupObj [.str wd tw, .int f1 t1, .int f2 t2]) ∈ news) (hK : (KT, { cls := .type "tuple", data := .seq ks.toArray c }) ∈ news) (hD0 : (D == sysModules) = false) (ho : Obj.IsDictOf (intKind prog w) o₁ [((i : Int), .ref T₁)])
    (hret : ∀ b h' tk', holdsOf wd f1 f2 n = b → Fr h₀ L h' m → News h₀ L h' news → Q (.bool b) { s with heap := h', toks := tk' }) :
    wpAny (model prog w) (ktrTop dp un gd cn cs L a ccd [] outer) (call (.ref 96) [.ref x, .ref KT]) Q E s := by
  rcases hwd with rfl | rfl
  · exact metM B F X N T hk hd hu hks hkz hx hdx hD hT hK hD0 ho hret
  · exact metR B F X N T hk hd hu hks hkz hx hdx hD hT hK hD0 ho hret
end

theorem and_nat (v k : Nat) : Builtin.bitAnd (v : Int) (k : Int) = ((v &&& k : Nat) : Int) := by
  unfold Builtin.bitAnd
  rw [decide_eq_true (Int.natCast_nonneg v), decide_eq_true (Int.natCast_nonneg k)]
  simp
theorem or_nat (v k : Nat) : Builtin.bitOr (v : Int) (k : Int) = ((v ||| k : Nat) : Int) := by
  unfold Builtin.bitOr Builtin.bitAnd Builtin.bitNot
  rw [decide_eq_false (by omega), decide_eq_false (by omega)]
  dsimp only
  have e1 : (-(-(v : Int) - 1) - 1).toNat = v := by omega
  have e2 : (-(-(k : Int) - 1) - 1).toNat = k := by omega
  rw [e1, e2]
  omega
theorem or_eq (v : Nat) : ∀ k : Nat, v ||| k = (v ^^^ k) + (v &&& k) := by
  induction v using Nat.strongRecOn with
  | _ v ih =>
    intro k
    by_cases h0 : v = 0
    · subst h0; simp
    · have h := ih (v / 2) (by omega) (k / 2)
      have o1 : (v ||| k) / 2 = v / 2 ||| k / 2 := Nat.or_div_two
      have x1 : (v ^^^ k) / 2 = v / 2 ^^^ k / 2 := Nat.xor_div_two
      have a1 : (v &&& k) / 2 = v / 2 &&& k / 2 := Nat.and_div_two
      have o2 : (v ||| k) % 2 = v % 2 ||| k % 2 := Nat.or_mod_two_pow (n := 1)
      have x2 : (v ^^^ k) % 2 = v % 2 ^^^ k % 2 := Nat.xor_mod_two_pow (n := 1)
      have a2 : (v &&& k) % 2 = v % 2 &&& k % 2 := Nat.and_mod_two_pow (n := 1)
      have m : v % 2 ||| k % 2 = (v % 2 ^^^ k % 2) + (v % 2 &&& k % 2) := by
        rcases Nat.mod_two_eq_zero_or_one v with e | e <;> rcases Nat.mod_two_eq_zero_or_one k with f | f <;> rw [e, f] <;> decide
      omega
theorem xor_nat (v k : Nat) : Builtin.bitXor (v : Int) (k : Int) = ((v ^^^ k : Nat) : Int) := by
  unfold Builtin.bitXor
  rw [or_nat, and_nat, or_eq]
  omega
theorem turn_bit (v k b : Nat) : ((v ^^^ 2 ^ b) &&& k = v &&& k) ↔ k / 2 ^ b % 2 = 0 := by
  have ht : k.testBit b = decide (k / 2 ^ b % 2 = 1) := by rw [Nat.testBit_eq_decide_div_mod_eq]
  constructor
  · intro h
    have := congrArg (fun x => Nat.testBit x b) h
    simp only [Nat.testBit_and, Nat.testBit_xor, Nat.testBit_two_pow_self] at this
    have hk : k.testBit b = false := by
      revert this
      cases v.testBit b <;> cases k.testBit b <;> simp
    rw [ht] at hk
    have := of_decide_eq_false hk
    omega
  · intro h
    have hk : k.testBit b = false := by rw [ht]; exact decide_eq_false (by omega)
    apply Nat.eq_of_testBit_eq
    intro j
    simp only [Nat.testBit_and, Nat.testBit_xor]
    by_cases e : j = b
    · subst e; rw [hk]; simp
    · rw [Nat.testBit_two_pow_of_ne (Ne.symm e)]; simp
theorem holds_turn {v k : Nat} {b : Nat} : holdsOf (Str.ofString "mask") (Builtin.bitAnd (v : Int) (k : Int)) (k : Int) (Builtin.bitXor (v : Int) (2 ^ b)) = ((((k : Int).fdiv (2 ^ b)).fmod 2) == 0) := by
  have ep : ((2 : Int) ^ b) = ((2 ^ b : Nat) : Int) := by rw [Int.natCast_pow]; rfl
  rw [ep, xor_nat, and_nat, holdsM (by omega), and_nat]
  have ef : (((k : Int).fdiv ((2 ^ b : Nat) : Int)).fmod 2) = ((k / 2 ^ b % 2 : Nat) : Int) := by
    rw [Int.fdiv_eq_ediv_of_nonneg _ (Int.natCast_nonneg _), Int.fmod_eq_emod_of_nonneg _ (by decide)]
    rfl
  rw [ef, Bool.eq_iff_iff, beq_iff_eq, beq_iff_eq]
  have := turn_bit v k b
  constructor
  · intro h; have := this.mp (Int.ofNat_inj.mp h); omega
  · intro h; have := this.mpr (by omega); rw [this]
theorem holds_same {v k : Nat} : holdsOf (Str.ofString "mask") (Builtin.bitAnd (v : Int) (k : Int)) (k : Int) (v : Int) = true := by
  rw [holdsM (by omega)]
  simp
theorem fits_mask {bt v k : Nat} (h : k < 2 ^ bt) : fits bt (Str.ofString "mask") (Builtin.bitAnd (v : Int) (k : Int)) (k : Int) = true := by
  refine fitsM.mpr ⟨by omega, ?_, ?_⟩
  · rw [Int.one_mul, Int.toNat_natCast]
    have : ((k : Nat) : Int) < ((2 ^ bt : Nat) : Int) := Int.ofNat_lt.mpr h
    rw [Int.natCast_pow, show ((2 : Nat) : Int) = 2 from rfl] at this
    omega
  · rw [and_nat, and_nat, Nat.and_assoc, Nat.and_self]

-- M15body.txt
theorem met_list {i : Nat} {n : Int} (hi : i < 10) : (List.map (fun k' : Int => if k' = (i : Int) then n else -1) (rangeKs 0 ((10 : Int) - 0).toNat))[i]? = some n := by
  have : ∀ i : Fin 10, ((rangeKs 0 ((10 : Int) - 0).toNat))[i.val]? = some ((i.val : Nat) : Int) := by decide +kernel
  have h := this ⟨i, hi⟩
  rw [List.getElem?_map, h]
  simp
theorem met_item {ys : List Value} {i : Nat} {n : Int} (hI : IntsAre ys (List.map (fun k' : Int => if k' = (i : Int) then n else -1) (rangeKs 0 ((10 : Int) - 0).toNat))) (hL : ys.length = (List.map (fun k' : Int => if k' = (i : Int) then n else -1) (rangeKs 0 ((10 : Int) - 0).toNat)).length) (hi : i < 10) : ∃ t, ys[i]? = some (.int n t) := by
  have h := met_list (n := n) hi
  have hl : i < ys.length := by rw [hL]; exact (List.getElem?_eq_some_iff.mp h).1
  obtain ⟨k, t, e1, e2⟩ := hI.at i _ (List.getElem?_eq_getElem hl)
  rw [h] at e2
  cases e2
  exact ⟨t, by rw [List.getElem?_eq_getElem hl, e1]⟩
theorem met_size {ys : List Value} {i : Nat} {n : Int} (hL : ys.length = (List.map (fun k' : Int => if k' = (i : Int) then n else -1) (rangeKs 0 ((10 : Int) - 0).toNat)).length) : ys.length ≤ sizeLine := by
  rw [hL, sizeLine_eq, List.length_map]
  exact Nat.le_trans (Nat.le_of_ble_eq_true (by decide +kernel : Nat.ble (rangeKs 0 ((10 : Int) - 0).toNat).length 10 = true)) (by omega)
section
variable {prog : Program} {w : World} {A : Around} {E : Value → Shared → Prop} {s : Shared} {h₀ : Heap} {L : Addr} {news : List (Addr × Obj)}
theorem key_itemE {value slice : Expr} {ks : List Value} {c i : Nat} {u : Tok} {n : Int} {KT : Addr} {Q : Value → Shared → Prop} (N : News h₀ L s.heap news) (hm : (KT, ({ cls := .type "tuple", data := .seq ks.toArray c } : Obj)) ∈ news) (hv : ∃ t, ks[i]? = some (.int n t)) (hz : ks.length ≤ sizeLine) (h : ∀ t, Q (.int n t) s)
    (hs : subscripted slice false (.ref KT) (.int (i : Int) u) = operate [.ref KT, .int (i : Int) u] (getItem (.ref KT) (.int (i : Int) u)) := by with_unfolding_all rfl) :
    wpAny (model prog w) A (subscriptTail value slice (.ref KT) (.int (i : Int) u)) Q E s := by
  obtain ⟨t, hv⟩ := hv
  exact key_item N hm hv hz (h t) hs
end

-- lines 19
example : True := by
  k_with "subscriptTail Name Name ref int" => (k_here; k_dflt (refine' key_itemE ?k1 ?k2 ?k3 ?k4 ?_; (case k1 => k_asm); (case k2 => k_mem); (case k3 => exact met_item (by assumption) (by assumption) (by assumption)); (case k4 => exact met_size (by assumption))); intro t'w9)
  trivial
section
variable {prog : Program} {w : World} {dp un : Nat} {gd : Option (List Code)} {cn : Str} {cs : Scope} {a : Addr} {ccd : Value} {outer : List Env} {A₀ : Around} {base h₀ : Heap} {L : Addr} {m : Str → Option Value} {news : List (Addr × Obj)} {s : Shared}
    {E : Value → Shared → Prop} {p : Program} {loose : List Str} {mean : ExcName → Option Value} {mg mb : Str → Option Value}

set_option maxHeartbeats 8000000 in
theorem met178M {Q : Value → Shared → Prop} {c1 c2 tw t1 t2 ti tn : Tok} {av : Value} {f1 f2 n : Int} {i : Nat} {x dx D T₁ : Addr} {o₁ : Obj}
    (B : Below A₀ base outer h₀) (F : Fr h₀ L s.heap m) (X : (Mine.hd.heap_1 w.params).In h₀) (N : News h₀ L s.heap news) (T : Top p loose mean mg mb h₀) (hk : cs.kind = .function)
    (hd : dp + 11 < recursionLimit) (hu : un + 400 < cLine) (hi : i < 10)
    (hx : (x, instObj 106 dx) ∈ news) (hdx : (dx, ruleDict w av c1 c2 D) ∈ news) (hD : (D, o₁) ∈ news) (hT : (T₁, tupObj [.str (Str.ofString "mask") tw, .int f1 t1, .int f2 t2]) ∈ news) (hD0 : (D == sysModules) = false) (ho : Obj.IsDictOf (intKind prog w) o₁ [((i : Int), .ref T₁)])
    (hret : ∀ b h' tk', holdsOf (Str.ofString "mask") f1 f2 n = b → Fr h₀ L h' m → News h₀ L h' news → Q (.bool b) { s with heap := h', toks := tk' }) :
    wpAny (model prog w) (ktrTop dp un gd cn cs L a ccd [] outer) (call (.ref 178) [.ref x, .int (i : Int) ti, .int n tn]) Q E s := by
  refine wpAny_call ?_
  have N₁ : News h₀ L s.heap [(x, instObj 106 dx), (dx, ruleDict w av c1 c2 D), (D, o₁), (T₁, tupObj [.str (Str.ofString "mask") tw, .int f1 t1, .int f2 t2])] := fun q hq => by
    simp only [List.mem_cons, List.not_mem_nil, or_false] at hq
    rcases hq with rfl | rfl | rfl | rfl
    · exact N _ hx
    · exact N _ hdx
    · exact N _ hD
    · exact N _ hT
  refine ctr_codeC _ B F X N₁ T rfl hk (by k_is) (by k_is) (by ktr_room) (BindsTo.of_eq rfl) rfl (by decide +kernel) ?_ rfl rfl rfl
  k_whole
  intro g' L' h' tk' cells' hR FG' F' N' Y' B' X' T' l1
  (try k_lt l1)
  k_cells Y'
  (try simp only [List.cons_append, List.nil_append] at N')
  (try dsimp only)
  (try k_fold)
  k_steps
  all_goals
    (rename Fr g' L' _ _ => zF
     rename News g' L' _ _ => zN
     first
      | exact hret _ _ _ (holds_absent (by assumption)) (ctr_frN FG' zF) (ctr_same FG' N N₁ hR zF zN fun q hq => by repeat (first | exact hq | refine List.mem_cons_of_mem _ ?_))
      | exact hret true _ _ ((holdsM (by assumption)).trans (by simp; assumption)) (ctr_frN FG' zF) (ctr_same FG' N N₁ hR zF zN fun q hq => by repeat (first | exact hq | refine List.mem_cons_of_mem _ ?_))
      | exact hret false _ _ ((holdsM (by assumption)).trans (by simp; assumption)) (ctr_frN FG' zF) (ctr_same FG' N N₁ hR zF zN fun q hq => by repeat (first | exact hq | refine List.mem_cons_of_mem _ ?_))
      | exact hret true _ _ ((holdsR (by assumption)).trans (by simp; exact ⟨by assumption, by assumption⟩)) (ctr_frN FG' zF) (ctr_same FG' N N₁ hR zF zN fun q hq => by repeat (first | exact hq | refine List.mem_cons_of_mem _ ?_))
      | exact hret false _ _ ((holdsR (by assumption)).trans (by simp; omega)) (ctr_frN FG' zF) (ctr_same FG' N N₁ hR zF zN fun q hq => by repeat (first | exact hq | refine List.mem_cons_of_mem _ ?_))
      | w_report)

set_option maxHeartbeats 8000000 in
theorem met178R {Q : Value → Shared → Prop} {c1 c2 tw t1 t2 ti tn : Tok} {av : Value} {f1 f2 n : Int} {i : Nat} {x dx D T₁ : Addr} {o₁ : Obj}
    (B : Below A₀ base outer h₀) (F : Fr h₀ L s.heap m) (X : (Mine.hd.heap_1 w.params).In h₀) (N : News h₀ L s.heap news) (T : Top p loose mean mg mb h₀) (hk : cs.kind = .function)
    (hd : dp + 11 < recursionLimit) (hu : un + 400 < cLine) (hi : i < 10)
    (hx : (x, instObj 106 dx) ∈ news) (hdx : (dx, ruleDict w av c1 c2 D) ∈ news) (hD : (D, o₁) ∈ news) (hT : (T₁, tupObj [.str (Str.ofString "range") tw, .int f1 t1, .int f2 t2]) ∈ news) (hD0 : (D == sysModules) = false) (ho : Obj.IsDictOf (intKind prog w) o₁ [((i : Int), .ref T₁)])
    (hret : ∀ b h' tk', holdsOf (Str.ofString "range") f1 f2 n = b → Fr h₀ L h' m → News h₀ L h' news → Q (.bool b) { s with heap := h', toks := tk' }) :
    wpAny (model prog w) (ktrTop dp un gd cn cs L a ccd [] outer) (call (.ref 178) [.ref x, .int (i : Int) ti, .int n tn]) Q E s := by
  refine wpAny_call ?_
  have N₁ : News h₀ L s.heap [(x, instObj 106 dx), (dx, ruleDict w av c1 c2 D), (D, o₁), (T₁, tupObj [.str (Str.ofString "range") tw, .int f1 t1, .int f2 t2])] := fun q hq => by
    simp only [List.mem_cons, List.not_mem_nil, or_false] at hq
    rcases hq with rfl | rfl | rfl | rfl
    · exact N _ hx
    · exact N _ hdx
    · exact N _ hD
    · exact N _ hT
  refine ctr_codeC _ B F X N₁ T rfl hk (by k_is) (by k_is) (by ktr_room) (BindsTo.of_eq rfl) rfl (by decide +kernel) ?_ rfl rfl rfl
  k_whole
  intro g' L' h' tk' cells' hR FG' F' N' Y' B' X' T' l1
  (try k_lt l1)
  k_cells Y'
  (try simp only [List.cons_append, List.nil_append] at N')
  (try dsimp only)
  (try k_fold)
  k_steps
  all_goals
    (rename Fr g' L' _ _ => zF
     rename News g' L' _ _ => zN
     first
      | exact hret _ _ _ (holds_absent (by assumption)) (ctr_frN FG' zF) (ctr_same FG' N N₁ hR zF zN fun q hq => by repeat (first | exact hq | refine List.mem_cons_of_mem _ ?_))
      | exact hret true _ _ ((holdsM (by assumption)).trans (by simp; assumption)) (ctr_frN FG' zF) (ctr_same FG' N N₁ hR zF zN fun q hq => by repeat (first | exact hq | refine List.mem_cons_of_mem _ ?_))
      | exact hret false _ _ ((holdsM (by assumption)).trans (by simp; assumption)) (ctr_frN FG' zF) (ctr_same FG' N N₁ hR zF zN fun q hq => by repeat (first | exact hq | refine List.mem_cons_of_mem _ ?_))
      | exact hret true _ _ ((holdsR (by assumption)).trans (by simp; exact ⟨by assumption, by assumption⟩)) (ctr_frN FG' zF) (ctr_same FG' N N₁ hR zF zN fun q hq => by repeat (first | exact hq | refine List.mem_cons_of_mem _ ?_))
      | exact hret false _ _ ((holdsR (by assumption)).trans (by simp; omega)) (ctr_frN FG' zF) (ctr_same FG' N N₁ hR zF zN fun q hq => by repeat (first | exact hq | refine List.mem_cons_of_mem _ ?_))
      | w_report)

theorem con_met {Q : Value → Shared → Prop} {c1 c2 tw t1 t2 ti tn : Tok} {av : Value} {wd : Str} {f1 f2 n : Int} {i : Nat} {x dx D T₁ : Addr} {o₁ : Obj} (hwd : wd = Str.ofString "mask" ∨ wd = Str.ofString "range")
    (B : Below A₀ base outer h₀) (F : Fr h₀ L s.heap m) (X : (Mine.hd.heap_1 w.params).In h₀) (N : News h₀ L s.heap news) (T : Top p loose mean mg mb h₀) (hk : cs.kind = .function)
    (hd : dp + 11 < recursionLimit) (hu : un + 400 < cLine) (hi : i < 10)
    (hx : (x, instObj 106 dx) ∈ news) (hdx : (dx, ruleDict w av c1 c2 D) ∈ news) (hD : (D, o₁) ∈ news) (hT : (T₁, tupObj [.str wd tw, .int f1 t1, .int f2 t2]) ∈ news) (hD0 : (D == sysModules) = false) (ho : Obj.IsDictOf (intKind prog w) o₁ [((i : Int), .ref T₁)])
    (hret : ∀ b h' tk', holdsOf wd f1 f2 n = b → Fr h₀ L h' m → News h₀ L h' news → Q (.bool b) { s with heap := h', toks := tk' }) :
    wpAny (model prog w) (ktrTop dp un gd cn cs L a ccd [] outer) (call (.ref 178) [.ref x, .int (i : Int) ti, .int n tn]) Q E s := by
  rcases hwd with rfl | rfl
  · exact met178M B F X N T hk hd hu hi hx hdx hD hT hD0 ho hret
  · exact met178R B F X N T hk hd hu hi hx hdx hD hT hD0 ho hret
end

-- S4body.txt

section
variable {prog : Program} {w : World} {A : Around} {E : Value → Shared → Prop} {s : Shared} {h₀ : Heap} {L : Addr} {m : Str → Option Value} {news : List (Addr × Obj)}
theorem next_list_B {t it : Addr} {vs : List Value} {i : Nat} {x : Value} {d : Option Addr} {sl : Array (Option Value)} {news' : Option Addr → Array (Option Value) → List (Addr × Obj)} {Q : Option Value → Shared → Prop} (F : Fr h₀ L s.heap m) (N : News h₀ L s.heap news)
    (hit : (it, itO "list_iterator" t i d sl) ∈ news) (ht : s.heap.IsList t vs.toArray) (hx : vs[i]? = some x)
    (U : ∀ d' sl', Upd it (itO "list_iterator" t i d sl) (itO "list_iterator" t (i + 1) d' sl') news (news' d' sl'))
    (h : ∀ d' sl' h', Fr h₀ L h' m → News h₀ L h' (news' d' sl') → Q (some x) { s with heap := h' }) : wpAny (model prog w) A (pyNext (.ref it)) Q E s := by
  refine wpAny_pyNext_list_item (i := i) ⟨_, (N _ hit).1, rfl, rfl⟩ ht (by simpa using hx) fun h' hi hs => ?_
  obtain ⟨⟨c, d', dt, sl'⟩, ho, hc, hd⟩ := hi
  dsimp only at hc hd
  subst hc hd
  obtain ⟨F', N'⟩ := same_upd F N (U d' sl') hs ho
  exact h d' sl' h' F' N'
theorem end_list_B {t it : Addr} {vs : List Value} {i : Nat} {d : Option Addr} {sl : Array (Option Value)} {news' : List (Addr × Obj)} {Q : Option Value → Shared → Prop} (hh : A.handled = none) (F : Fr h₀ L s.heap m) (N : News h₀ L s.heap news)
    (hit : (it, itO "list_iterator" t i d sl) ∈ news) (ht : s.heap.IsList t vs.toArray) (hx : vs[i]? = none)
    (U : Drop it news news')
    (h : ∀ h', Fr h₀ L h' m → News h₀ L h' news' → Q none { s with heap := h' }) : wpAny (model prog w) A (pyNext (.ref it)) Q E s := by
  refine wpAny_pyNext_list_end (i := i) hh ⟨_, (N _ hit).1, rfl, rfl⟩ ht (by simpa using hx) fun h' hs => ?_
  obtain ⟨F', N'⟩ := ext_drop F N hit U hs
  exact h h' F' N'
end
structure LInv (w : World) (A₀ : Around) (base : Heap) (outer : List Env) (p : Program) (loose : List Str) (mean : ExcName → Option Value) (mg mb : Str → Option Value) (h₀ : Heap) (L : Addr) (m : Str → Option Value) (kg h : Heap) (news : List (Addr × Obj)) : Prop where
  turn : KtsTurn (outer.filterMap (·.frame)) h₀ kg
  fr : Fr kg L h m
  news : News kg L h news
  below : Below A₀ base outer kg
  inn : (Mine.hd.heap_1 w.params).In kg
  top : Top p loose mean mg mb kg
  dicts : KtsDicts (outer.filterMap (·.frame)) kg
section
variable {w : World} {A₀ : Around} {base h₀ kg h h' : Heap} {outer : List Env} {p : Program} {loose : List Str} {mean : ExcName → Option Value} {mg mb : Str → Option Value} {L : Addr} {m : Str → Option Value} {news news' : List (Addr × Obj)}
theorem LInv.with (I : LInv w A₀ base outer p loose mean mg mb h₀ L m kg h news) (F : Fr kg L h' m) (N : News kg L h' news') : LInv w A₀ base outer p loose mean mg mb h₀ L m kg h' news' := ⟨I.turn, F, N, I.below, I.inn, I.top, I.dicts⟩
theorem LInv.sub (I : LInv w A₀ base outer p loose mean mg mb h₀ L m kg h news) (hs : ∀ q ∈ news', q ∈ news) : LInv w A₀ base outer p loose mean mg mb h₀ L m kg h news' := ⟨I.turn, I.fr, fun q hq => I.news q (hs q hq), I.below, I.inn, I.top, I.dicts⟩
end
section
variable {prog : Program} {w : World} {A A₀ : Around} {base h₀ : Heap} {outer : List Env} {p : Program} {loose : List Str} {mean : ExcName → Option Value} {mg mb : Str → Option Value} {L WL : Addr} {m : Str → Option Value} {news : List (Addr × Obj)} {s : Shared} {env : Env}
    {E : Value → Shared → Prop} {Q : Value → Shared → Prop} {ct elt iter : Expr} {x : Str} {px pos : Pos} {scope : Scope} {cl : List (Str × Addr)} {its : Array Value} {c : Nat}
/-- a comprehension whose test fails at each item -/
theorem comp_none (hh : A.handled = none) (hclos : closureFor scope env = pure cl) (hcell : ∀ y ∈ scope.names, y.2 ≠ .cell) (hkind : scope.kind = .function)
    (hnames : ∀ y ∈ scope.names, y.2 = .local → scope.names.lookup y.1 = some .local) (hx : scope.names.lookup x = some .local) (hs : ∀ x, foldedSetIterable iter env x = pure x)
    (I0 : LInv w A₀ base outer p loose mean mg mb h₀ L m h₀ s.heap news) (hWs₀ : h₀.get? WL = some (W.listOf its c)) (hWf : WL ∉ outer.filterMap (·.frame)) (hsz : its.size ≤ 100)
    (hiter : wpAny (model prog w) A (eval iter env) (fun v s' => v = .ref WL ∧ s' = s) E s)
    {R : Str → Prop} (hR : ∀ (j : Nat) v, its[j]? = some v → ∃ ws t, v = .str ws t ∧ R ws)
    (test : ∀ j ws t I C D oC m₂ d sl kg h tk E', R ws → LCg.NsObj oC m₂ → m₂ x = some (.str ws t) → (∀ q ∈ news, q.1 ≠ I ∧ q.1 ≠ C ∧ q.1 ≠ D) → I ≠ C → I ≠ D → C ≠ D →
      LInv w A₀ base outer p loose mean mg mb h₀ L m kg h ((I, itO "list_iterator" WL (j + 1) d sl) :: (C, oC) :: (D, LCg.lst []) :: news) →
      wpAny (model prog w) A (isTrue ct (compEnvC scope cl C env) (eval ct (compEnvC scope cl C env))) (fun ok s' => ok = false ∧ ∃ kg' h' tk', s' = { s with heap := h', toks := tk' } ∧
        LInv w A₀ base outer p loose mean mg mb h₀ L m kg' h' ((I, itO "list_iterator" WL (j + 1) d sl) :: (C, oC) :: (D, LCg.lst []) :: news)) E' { s with heap := h, toks := tk })
    (hQ : ∀ D kg h tk, LInv w A₀ base outer p loose mean mg mb h₀ L m kg h ((D, LCg.lst []) :: news) → Q (.ref D) { s with heap := h, toks := tk }) :
    wpAny (model prog w) A (eval (.ListComp elt [⟨.Name x px, iter, [ct], 0⟩] scope pos) env) Q E s := by
  have hWk : ∀ kg h news', LInv w A₀ base outer p loose mean mg mb h₀ L m kg h news' → h.get? WL = some (W.listOf its c) := fun kg h news' J => J.fr.keep _ _ (J.turn.other _ _ hWs₀ hWf)
  rw [eval_ListComp]
  refine wpAny_comprehension_free (use := none) rfl hs hclos hkind hnames (wpAny_mono hiter (fun v s' e => ?_) fun _ _ e => e)
  obtain ⟨rfl, e⟩ := e
  have e := e.symm
  subst e
  have hWs := hWk _ _ _ I0
  refine wpAny_pyIter_list (items := its) ⟨_, hWs, rfl, _, rfl⟩ ?_
  have F₁ := I0.fr.push { cls := .type "list_iterator", data := .fields #[.ref WL, .int 0 0] }
  have N₁ := I0.news.push I0.fr { cls := .type "list_iterator", data := .fields #[.ref WL, .int 0 0] }
  have l1 : ∀ p ∈ news, p.1 < s.heap.objs.size := fun p hp => Heap.lt_size (I0.news p hp).1
  have hWI : WL ≠ s.heap.objs.size := Nat.ne_of_lt (Heap.lt_size hWs)
  generalize hh1 : s.heap.push { cls := .type "list_iterator", data := .fields #[.ref WL, .int 0 0] } = h₁ at *
  generalize s.heap.objs.size = I at *
  refine wpAny_newObj_type (wpAny_newFunctionEnv hcell (by intro y hy; simp at hy) (fun h₂ hns₂ hsb₂ => ?_) hkind)
  dsimp only at hns₂ hsb₂ ⊢
  have lI : @LT.lt Nat _ I h₁.objs.size := Heap.lt_size (N₁ _ (.head _)).1
  have ln : ∀ q ∈ news, @LT.lt Nat _ q.1 I := l1
  have F₂ := F₁.push { cls := .type "list", dict := none, data := .seq ([] : List Value).toArray }
  have N₂ := N₁.push F₁ { cls := .type "list", dict := none, data := .seq ([] : List Value).toArray }
  have F₃ := F₂.push { cls := .type "dict", data := .dict #[] }
  have N₃ := N₂.push F₂ { cls := .type "dict", data := .dict #[] }
  rw [Heap.size_push] at N₃
  generalize hD : h₁.objs.size = D at *
  have hsize : (h₁.push { cls := .type "list", dict := none, data := .seq ([] : List Value).toArray }).objs.size = D + 1 := by rw [Heap.size_push, hD]
  simp only [hsize] at hns₂ hsb₂ ⊢
  obtain ⟨oC, heC, hoC⟩ := LCg.ns_obj hns₂
  have nD : @Ne Nat D (D + 1) := Nat.ne_of_lt (Nat.lt_succ_self _)
  obtain ⟨F₄, N₄⟩ := same_upd (news' := (D + 1, oC) :: (D, LCg.lst []) :: (I, itO "list_iterator" WL 0 none #[]) :: news) F₃ N₃ (.head fun q hq => by
    rcases List.mem_cons.mp hq with rfl | hq
    · exact nD
    · rcases List.mem_cons.mp hq with rfl | hq
      · exact Nat.ne_of_lt (Nat.lt_succ_of_lt lI)
      · exact Nat.ne_of_lt (Nat.lt_succ_of_lt (Nat.lt_trans (ln q hq) lI))) hsb₂ heC
  have hoff : ∀ q ∈ news, q.1 ≠ I ∧ q.1 ≠ D + 1 ∧ q.1 ≠ D := fun q hq => ⟨Nat.ne_of_lt (ln q hq), Nat.ne_of_lt (Nat.lt_succ_of_lt (Nat.lt_trans (ln q hq) lI)), Nat.ne_of_lt (Nat.lt_trans (ln q hq) lI)⟩
  have hIC : I ≠ D + 1 := Nat.ne_of_lt (Nat.lt_succ_of_lt lI)
  have hID : I ≠ D := Nat.ne_of_lt lI
  have I1 : LInv w A₀ base outer p loose mean mg mb h₀ L m h₀ h₂ ((I, itO "list_iterator" WL 0 none #[]) :: (D + 1, oC) :: (D, LCg.lst []) :: news) := (I0.with F₄ N₄).sub fun q hq => by
    rcases List.mem_cons.mp hq with rfl | hq
    · exact .tail _ (.tail _ (.head _))
    · rcases List.mem_cons.mp hq with rfl | hq
      · exact .head _
      · rcases List.mem_cons.mp hq with rfl | hq
        · exact .tail _ (.head _)
        · exact .tail _ (.tail _ (.tail _ hq))
  have W := Walks.list (prog := prog) (w := w) hh I WL hWI its
  have hst : h₂.IsListIter I WL 0 ∧ h₂.IsList WL its := ⟨⟨_, (I1.news _ (.head _)).1, rfl, rfl⟩, ⟨_, hWk _ _ _ I1, rfl, _, rfl⟩⟩
  have loop : ∀ s₃ : Shared, s₃ = { s with heap := h₂, toks := s.toks + ([] : List (Str × Value)).length } →
      codeAny (model prog w) A (.compLoop (.ListComp elt [⟨.Name x px, iter, [ct], 0⟩] scope pos) 0 (.ref I) (.ref D) (compEnvC scope cl (D + 1) env)) (compPost (model prog w) A E none Q (.ref D) (D + 1)) s₃ := by
    rintro s₃ rfl
    refine codeAny_compLoop_tests
      (fun k s' => ∃ kg h' tk i oC m₂ d sl, s' = { s with heap := h', toks := tk } ∧ i ≤ its.size ∧ k = its.size + 1 - i ∧ LCg.NsObj oC m₂ ∧ LInv w A₀ base outer p loose mean mg mb h₀ L m kg h' ((I, itO "list_iterator" WL i d sl) :: (D + 1, oC) :: (D, LCg.lst []) :: news))
      ?_ (its.size + 1) ⟨h₀, h₂, _, 0, oC, _, none, #[], rfl, Nat.zero_le _, rfl, hoC, I1⟩
    rintro k s' ⟨kg, h', tk, i, oC, m₂, d, sl, rfl, hi, rfl, hoC, J⟩
    have hitl : its.toList.toArray = its := Array.toArray_toList ..
    have hWm : h'.IsList WL its.toList.toArray := ⟨_, hWk _ _ _ J, rfl, c, by rw [hitl]⟩
    have offI : ∀ q ∈ ((D + 1, oC) :: (D, LCg.lst []) :: news : List (Addr × Obj)), q.1 ≠ I := fun q hq => by
      rcases List.mem_cons.mp hq with rfl | hq
      · exact Ne.symm hIC
      · rcases List.mem_cons.mp hq with rfl | hq
        · exact Ne.symm hID
        · exact (hoff q hq).1
    by_cases hlt : i < its.size
    · refine next_list_B (s := { s with heap := h', toks := tk }) (i := i) (x := its[i]) (news' := fun d' sl' => (I, itO "list_iterator" WL (i + 1) d' sl') :: (D + 1, oC) :: (D, LCg.lst []) :: news) J.fr J.news (.head _) hWm (by simp [hlt]) (fun d' sl' => .head offI) fun d' sl' h₃ F' N' => ?_
      dsimp only
      refine wpAny_assign_Name (wpAny_storeName_local (lookup_relabel_local hx) (hoC.ns (N' (D + 1, oC) (.tail _ (.head _))).1) (fun h₄ hn₄ hs₄ => ?_) (by simp [compEnvC, relabel, hkind]))
      refine wpAny_tests_one ?_
      obtain ⟨oC', heC', hoC'⟩ := LCg.ns_obj hn₄
      obtain ⟨F5, N5⟩ := same_upd (news' := (I, itO "list_iterator" WL (i + 1) d' sl') :: (D + 1, oC') :: (D, LCg.lst []) :: news) F' N' (.tail hIC (.head fun q hq => by
        rcases List.mem_cons.mp hq with rfl | hq
        · exact nD
        · exact (hoff q hq).2.1)) hs₄ heC'
      obtain ⟨ws, t, hv, hr⟩ := hR i its[i] (by simp [hlt])
      rw [hv] at hoC'
      refine wpAny_mono (test i ws t I (D + 1) D oC' _ d' sl' kg h₄ _ _ hr hoC' (by simp) hoff hIC hID (Ne.symm nD) (J.with F5 N5)) (fun ok s₅ h₅ => ?_) fun _ _ e => e
      obtain ⟨rfl, kg', h6, tk6, rfl, J6⟩ := h₅
      rw [if_neg (by decide)]
      exact ⟨its.size + 1 - (i + 1), by omega, kg', h6, tk6, i + 1, oC', _, d', sl', rfl, hlt, rfl, hoC', J6⟩
    · refine end_list_B (s := { s with heap := h', toks := tk }) (i := i) (news' := (D + 1, oC) :: (D, LCg.lst []) :: news) hh J.fr J.news (.head _) hWm (by simp; omega) (.head offI) fun h₃ F' N' => ?_
      dsimp only
      refine ⟨_, hoC.ns (N' (D + 1, oC) (.head _)).1, fun h'' hs'' => ?_⟩
      obtain ⟨F5, N5⟩ := ext_drop (news' := (D, LCg.lst []) :: news) F' N' (.head _) (.head fun q hq => by
        rcases List.mem_cons.mp hq with rfl | hq
        · exact nD
        · exact (hoff q hq).2.1) hs''.extBut
      exact hQ D kg h'' _ (J.with F5 N5)
  exact codeAny_compStart_list (loop _ rfl) (W.self 0 _ _ _ hst (loop _ rfl))
end

-- S5body.txt
abbrev enumO (I : Addr) (i : Nat) (old : Value) : Obj := { cls := .type "enumerate", dict := none, data := .fields #[.none, .bool false, .ref I, rawInt (i : Int), .none, old], slots := #[] }
section
variable {prog : Program} {w : World} {A : Around} {E : Value → Shared → Prop} {s : Shared} {h₀ : Heap} {env : Env} {m : Str → Option Value} {rest : List (Addr × Obj)} {Ea I LF Tj : Addr} {i c x1 x2 : Nat} {old : Value} {d : Option Addr} {sl : Array (Option Value)} {vs : Array Value} {t t' : Tok} {nm : Str} {bt : Int}
    {body : List Stmt} {Q : Flow → Shared → Prop} {p1 p2 p3 p4 p5 : Pos} {n1 n2 n3 : Str}
theorem enum_start (hh : A.handled = none) (F : Fr h₀ env.locals s.heap m) (N : News h₀ env.locals s.heap ((Ea, enumO I i old) :: (I, itO "list_iterator" LF i d sl) :: rest)) (hLF : (LF, W.listOf vs c) ∈ rest) (hx : vs[i]? = some (.ref Tj)) (hT : (Tj, tupObj [.str nm t, .int bt t']) ∈ rest)
    (hEI : Ea ≠ I) (hEr : ∀ q ∈ rest, q.1 ≠ Ea) (hIr : ∀ q ∈ rest, q.1 ≠ I) (hk1 : env.kindOf n1 = some .local) (hk2 : env.kindOf n2 = some .local) (hk3 : env.kindOf n3 = some .local) (hp : (env.scope.kind == .class || (env.scope.kind == .module && env.locals != env.globals)) = false)
    (h : ∀ h' tk d' sl' ti, Fr h₀ env.locals h' (fun y => if y = n3 then some (.int bt t') else if y = n2 then some (.str nm t) else if y = n1 then some (.int (i : Int) ti) else m y) → News h₀ env.locals h' ((Ea, enumO I (i + 1) (.ref Tj)) :: (I, itO "list_iterator" LF (i + 1) d' sl') :: rest) →
      wpAny (model prog w) A (execs body env) (ForBody prog w A E (.Tuple [.Name n1 p1, .Tuple [.Name n2 p2, .Name n3 p3] x2 p4] x1 p5) Ea body env Q) E { s with heap := h', toks := tk }) :
    wpAny (model prog w) A (pyNext (.ref Ea)) (ForNext prog w A E (.Tuple [.Name n1 p1, .Tuple [.Name n2 p2, .Name n3 p3] x2 p4] x1 p5) Ea body env Q) E s := by
  obtain ⟨H, gg, dd, tk, os⟩ := s
  have hE := (N _ (.head _)).1
  have hI := (N _ (.tail _ (.head _))).1
  have hEL : Ea ≠ env.locals := (N _ (.head _)).2.1
  have hIL : I ≠ env.locals := (N _ (.tail _ (.head _))).2.1
  have hE0 := (N _ (.head _)).2.2
  have hI0 := (N _ (.tail _ (.head _))).2.2
  have hL0 : h₀.get? env.locals = none := Heap.get?_none_of_le F.above
  have hl : Heap.IsList H LF vs := ⟨_, (N _ (.tail _ (.tail _ hLF))).1, rfl, _, rfl⟩
  have hLH : env.locals < H.objs.size := F.ns.lt
  refine wpAny_pyNext_enum_item (i := i) hE ⟨_, hI, rfl, rfl⟩ hl hx hEI fun h₁ heo hit₁ ht₁ hz₁ hk₁ => ?_
  dsimp only [ForNext]
  refine wpAny_letOwnedTupleGo_enum heo fun h₂ he₂ hs₂ => ?_
  replace hs₂ : Heap.SameBut Ea h₁ h₂ := hs₂
  have heH : Ea < H.objs.size := Heap.lt_size hE
  have ht₂ : h₂.IsTuple H.objs.size #[.int (i : Int) tk, .ref Tj] := ⟨_, (hs₂.2 _ (Nat.ne_of_gt heH)).trans ht₁, rfl, _, rfl⟩
  refine wpAny_assign_Tuple hh ht₂ rfl rfl fun h₃ hx₃ => ?_
  replace hx₃ : Heap.ExtBut h₂.objs.size h₂ h₃ := hx₃
  have up3 : ∀ b o, b ≠ Ea → b ≠ I → H.get? b = some o → h₃.get? b = some o := fun b o hbe hbi x => by
    have y := hs₂.extBut b o hbe (hk₁ b o hbe hbi x)
    exact hx₃ b o (Nat.ne_of_lt (Heap.lt_size y)) y
  have hn₃ : h₃.Ns env.locals m := F.ns.at fun o x => up3 _ o (Ne.symm hEL) (Ne.symm hIL) x
  show wpAny _ A (do holding [.ref Tj] (assign (.Name n1 p1) env (.int (i : Int) tk)); do holding [] (assign (.Tuple [.Name n2 p2, .Name n3 p3] x2 p4) env (.ref Tj)); pure ()) _ _ _
  refine wpAny_bind (wpAny_holding (wpAny_assign_Name (wpAny_storeName_local hk1 hn₃ (fun h₄ hn₄ hs₄ => ?_) hp)))
  replace hs₄ : Heap.SameBut env.locals h₃ h₄ := hs₄
  have hTm := N _ (.tail _ (.tail _ hT))
  have up4 : ∀ b o, b ≠ Ea → b ≠ I → b ≠ env.locals → H.get? b = some o → h₄.get? b = some o := fun b o hbe hbi hbl x => hs₄.extBut b o hbl (up3 b o hbe hbi x)
  have hT4 : h₄.IsTuple Tj #[.str nm t, .int bt t'] := ⟨_, up4 _ _ (hEr _ hT) (hIr _ hT) hTm.2.1 hTm.1, rfl, _, rfl⟩
  refine wpAny_bind (wpAny_holding (wpAny_assign_Tuple hh hT4 rfl rfl fun h₅ hx₅ => ?_))
  replace hx₅ : Heap.ExtBut h₄.objs.size h₄ h₅ := hx₅
  have up5 : ∀ b o, h₄.get? b = some o → h₅.get? b = some o := fun b o x => hx₅ b o (Nat.ne_of_lt (Heap.lt_size x)) x
  have hn₅ := hn₄.at fun o x => up5 _ o x
  show wpAny _ A (do holding [.int bt t'] (assign (.Name n2 p2) env (.str nm t)); do holding [] (assign (.Name n3 p3) env (.int bt t')); pure ()) _ _ _
  refine wpAny_bind (wpAny_holding (wpAny_assign_Name (wpAny_storeName_local hk2 hn₅ (fun h₆ hn₆ hs₆ => ?_) hp)))
  replace hs₆ : Heap.SameBut env.locals h₅ h₆ := hs₆
  refine wpAny_bind (wpAny_holding (wpAny_assign_Name (wpAny_storeName_local hk3 hn₆ (fun h₇ hn₇ hs₇ => wpAny_pure (wpAny_pure ?_)) hp)))
  replace hs₇ : Heap.SameBut env.locals h₆ h₇ := hs₇
  have up7 : ∀ b o, b ≠ env.locals → h₄.get? b = some o → h₇.get? b = some o := fun b o hb x => hs₇.extBut b o hb (hs₆.extBut b o hb (up5 b o x))
  have e3 : ∀ b o, b ≠ env.locals → h₂.get? b = some o → h₇.get? b = some o := fun b o hb x => up7 b o hb (hs₄.extBut b o hb (hx₃ b o (Nat.ne_of_lt (Heap.lt_size x)) x))
  obtain ⟨⟨oc, od, odt, osl⟩, ho, hc, hd⟩ := hit₁
  dsimp only at hc hd
  subst hc hd
  refine h h₇ _ od osl tk ⟨hn₇, fun b o x => ?_, F.above⟩ fun q hq => ?_
  · have y := F.keep b o x
    exact up7 b o (fun z => by rw [z, hL0] at x; cases x) (up4 b o (fun z => by rw [z, hE0] at x; cases x) (fun z => by rw [z, hI0] at x; cases x) (fun z => by rw [z, hL0] at x; cases x) y)
  · rcases List.mem_cons.mp hq with rfl | hq
    · refine ⟨e3 _ _ hEL ?_, hEL, hE0⟩
      exact he₂
    · rcases List.mem_cons.mp hq with rfl | hq
      · refine ⟨e3 _ _ hIL ?_, hIL, hI0⟩
        exact hs₂.extBut _ _ (Ne.symm hEI) ho
      · have P := N q (.tail _ (.tail _ hq))
        exact ⟨up7 _ _ P.2.1 (up4 _ _ (hEr q hq) (hIr q hq) P.2.1 P.1), P.2⟩
theorem enum_stop {target : Expr} (hh : A.handled = none) (F : Fr h₀ env.locals s.heap m) (N : News h₀ env.locals s.heap ((Ea, enumO I i old) :: (I, itO "list_iterator" LF i d sl) :: rest)) (hLF : (LF, W.listOf vs c) ∈ rest) (hx : vs[i]? = none)
    (hIr : ∀ q ∈ rest, q.1 ≠ I)
    (h : ∀ h', Fr h₀ env.locals h' m → News h₀ env.locals h' rest → Q .next { s with heap := h' }) :
    wpAny (model prog w) A (pyNext (.ref Ea)) (ForNext prog w A E target Ea body env Q) E s := by
  have hE := (N _ (.head _)).1
  have hI := (N _ (.tail _ (.head _))).1
  have hl : s.heap.IsList LF vs := ⟨_, (N _ (.tail _ (.tail _ hLF))).1, rfl, _, rfl⟩
  refine wpAny_pyNext_enum_end (i := i) hh hE ⟨_, hI, rfl, rfl⟩ hl hx fun h' hs => ?_
  obtain ⟨F', N'⟩ := ext_drop (news' := rest) F (fun q hq => N q (.tail _ hq)) (.head _) (.head hIr) hs
  exact h h' F' N'
end

-- M16body.txt

section
variable {prog : Program} {w : World} {A : Around} {E : Value → Shared → Prop} {s : Shared}
theorem addS {x y : Str} {t u : Tok} {Q : Value → Shared → Prop} (hx : x.length ≤ 500) (hy : y.length ≤ 500) (h : ∀ t' k, Q (.str (x ++ y) t') { s with toks := k }) : wpAny (model prog w) A (binaryOp .Add (.str x t) (.str y u)) Q E s :=
  add_str h (by rw [sizeLine_eq]; omega)
end
theorem holds_in {a b n : Int} (h : n ≠ -1) (h1 : a ≤ n) (h2 : n ≤ b) : holdsOf (Str.ofString "range") a b n = true := by rw [holdsR h]; simp [h1, h2]
theorem holds_out {a b n : Int} (h : n = -1 ∨ n < a ∨ b < n) : holdsOf (Str.ofString "range") a b n = false := by
  by_cases e : n = -1
  · exact holds_absent e
  · rw [holdsR e]
    simp
    omega
section
variable {prog : Program} {w : World} {dp un : Nat} {gd : Option (List Code)} {cn : Str} {cs : Scope} {a : Addr} {ccd : Value} {outer : List Env} {A₀ : Around} {base h₀ : Heap} {L : Addr} {m : Str → Option Value} {news : List (Addr × Obj)} {s : Shared}
    {E : Value → Shared → Prop} {p : Program} {loose : List Str} {mean : ExcName → Option Value} {mg mb : Str → Option Value}
theorem con_readOk {Q : Value → Shared → Prop} {x ac nm ws wd : Str} {f1 f2 : Int} {tx : Tok} {i bt : Nat}
    (B : Below A₀ base outer h₀) (F : Fr h₀ L s.heap m) (X : (Mine.hd.heap_1 w.params).In h₀) (N : News h₀ L s.heap news) (T : Top p loose mean mg mb h₀) (D : KtsDicts (outer.filterMap (·.frame)) h₀) (XB : (Mine.hd.heap_1 w.params).In base) (TB : Top p loose mean mg mb base) (hk : cs.kind = .function)
    (hd : dp + 12 < recursionLimit) (hu : un + 300 < cLine) (hx : x.length ≤ 1000) (hws : ws.length ≤ 1000)
    (hi : fieldNames[i]? = some nm) (hb : fieldBits[i]? = some bt) (hbt : bt ≤ 48) (hw : Txt.words x = [ac, nm, ws]) (hac : ac = Str.ofString "let" ∨ ac = Str.ofString "drop") (hv : wishOf ws = some (wd, f1, f2)) (hf : fits bt wd f1 f2 = true)
    (hret : ∀ x dx D T o' c1 c2 t1 t2 t3 ta h' tk', Fr h₀ L h' m → News h₀ L h' ((x, instObj 106 dx) :: (dx, ruleDict w (.str ac ta) c1 c2 D) :: (D, o') :: (T, tupObj [.str wd t1, .int f1 t2, .int f2 t3]) :: news) → (D == sysModules) = false →
      Obj.IsDictOf (intKind prog w) o' [((i : Int), .ref T)] → Q (.ref x) { s with heap := h', toks := tk' }) :
    wpAny (model prog w) (ktrTop dp un gd cn cs L a ccd [] outer) (call (.ref 173) [.str x tx]) Q E s :=
  con_read B F X N T D XB TB hk hd hu hx hws (fun p hp => Nat.le_trans (part_short hp) hws) (fun p hp => Nat.le_trans (part_short hp) hws) hi hb hbt hw hac
    (fun wd' f1' f2' e _ x dx D T o' c1 c2 t1 t2 t3 ta h' tk' F' N' lo ho => by
      have e2 := hv.symm.trans e
      cases e2
      exact hret x dx D T o' c1 c2 t1 t2 t3 ta h' tk' F' N' lo ho)
    fun hn => by
      have := hn _ _ _ hv
      rw [hf] at this
      cases this
theorem con_readNo {Q : Value → Shared → Prop} {x ac nm ws : Str} {tx : Tok} {i bt : Nat}
    (B : Below A₀ base outer h₀) (F : Fr h₀ L s.heap m) (X : (Mine.hd.heap_1 w.params).In h₀) (N : News h₀ L s.heap news) (T : Top p loose mean mg mb h₀) (D : KtsDicts (outer.filterMap (·.frame)) h₀) (XB : (Mine.hd.heap_1 w.params).In base) (TB : Top p loose mean mg mb base) (hk : cs.kind = .function)
    (hd : dp + 12 < recursionLimit) (hu : un + 300 < cLine) (hx : x.length ≤ 1000) (hws : ws.length ≤ 1000)
    (hi : fieldNames[i]? = some nm) (hb : fieldBits[i]? = some bt) (hbt : bt ≤ 48) (hw : Txt.words x = [ac, nm, ws]) (hac : ac = Str.ofString "let" ∨ ac = Str.ofString "drop") (hf : ∀ wd f1 f2, wishOf ws = some (wd, f1, f2) → fits bt wd f1 f2 = false)
    (hnone : TurnedTo A₀ base outer (Mine.hd.heap_1 w.params) p loose mean mg mb h₀ L m news s .none Q) :
    wpAny (model prog w) (ktrTop dp un gd cn cs L a ccd [] outer) (call (.ref 173) [.str x tx]) Q E s :=
  con_read B F X N T D XB TB hk hd hu hx hws (fun p hp => Nat.le_trans (part_short hp) hws) (fun p hp => Nat.le_trans (part_short hp) hws) hi hb hbt hw hac
    (fun wd' f1' f2' e g => by
      have := hf _ _ _ e
      rw [this] at g
      cases g)
    fun _ => hnone
end
theorem fits_range {bt lo up : Nat} (h1 : lo ≤ up) (h2 : up < 2 ^ bt) : fits bt (Str.ofString "range") (lo : Int) (up : Int) = true := by
  refine fitsR.mpr ⟨Int.natCast_nonneg _, Int.ofNat_le.mpr h1, ?_⟩
  rw [Int.one_mul, Int.toNat_natCast]
  have : ((up : Nat) : Int) < ((2 ^ bt : Nat) : Int) := Int.ofNat_lt.mpr h2
  rw [Int.natCast_pow, show ((2 : Nat) : Int) = 2 from rfl] at this
  omega
theorem bits_le {i bt : Nat} (h : fieldBits[i]? = some bt) : bt ≤ 48 ∧ 3 ≤ bt := by
  have : ∀ i : Fin 10, (fieldBits[i]'(i.isLt)) ≤ 48 ∧ 3 ≤ (fieldBits[i]'(i.isLt)) := by decide +kernel
  obtain ⟨hi, e⟩ := List.getElem?_eq_some_iff.mp h
  subst e
  exact this ⟨i, hi⟩
theorem two_pow_le {bt n : Nat} (h : bt ≤ 48) (hn : n < 2 ^ bt) : n < 2 ^ 48 := Nat.lt_of_lt_of_le hn (Nat.pow_le_pow_right (by decide) h)

-- M18body.txt
theorem noPylong30 {x y : Int} (h0 : 0 ≤ y) (h1 : y < 4294967296) : Builtin.divisionGoesByPylong x y = false := by
  refine PyProof.noPylong_of_log2 ?_
  by_cases h : y.natAbs = 0
  · rw [h]; decide +kernel
  · have : y.natAbs.log2 < 32 := (Nat.log2_lt h).mpr (by omega)
    omega
theorem mulOk62 {x y : Int} (h0 : 0 ≤ x) (h1 : x < 4611686018427387904) : IntMulOk x y := IntMulOk.of_left (intBits_le_64 (by omega) (by omega))
abbrev srcObj (x0 x1 : Int) (t0 t1 : Tok) (n : Nat) : Obj := W.listOf #[.int x0 t0, .int x1 t1] n

section Ex2723
example : True := by
  k_with "binaryOp FloorDiv int int" => (k_here; k_dflt (refine' floordiv_int ?k1 ?_ (Or.inl (noPylong30 ?k2 ?k3)); (case k1 => omega); (case k2 => omega); (case k3 => omega)))
  k_with "binaryOp Mult int int" => (k_here; k_dflt (refine' mul_int ?_ (mulOk62 ?k1 ?k2); (case k1 => omega); (case k2 => omega)))
  trivial
section
variable {h₀ h h' g : Heap} {L L' S : Addr} {m m' : Str → Option Value} {o o' : Obj} {news news' : List (Addr × Obj)}
theorem ctr_upd (FG : Fr h₀ L g m) (N : News h₀ L h news) (hR : Rest h g [(S, o)]) (F' : Fr g L' h' m') (N' : News g L' h' [(S, o')]) (U : Upd S o o' news news') : News h₀ L h' news' := by
  obtain ⟨pre, post, rfl, rfl, a, b⟩ := U.split
  intro q hq
  rcases List.mem_append.mp hq with hq | hq
  · exact ctr_old N hR F' (List.mem_append_left _ hq) (by simpa using a q hq)
  · rcases List.mem_cons.mp hq with rfl | hq
    · exact ctr_all FG N' (.head _)
    · exact ctr_old N hR F' (List.mem_append_right _ (.tail _ hq)) (by simpa using b q hq)
end
section
variable {prog : Program} {w : World} {dp un : Nat} {gd : Option (List Code)} {cn : Str} {cs : Scope} {a : Addr} {ccd : Value} {outer : List Env} {A₀ : Around} {base h₀ : Heap} {L : Addr} {m : Str → Option Value} {news : List (Addr × Obj)} {s : Shared}
    {E : Value → Shared → Prop} {p : Program} {loose : List Str} {mean : ExcName → Option Value} {mg mb : Str → Option Value}
set_option maxHeartbeats 8000000 in
theorem con_take {Q : Value → Shared → Prop} {t0 t1 tt : Tok} {x0 x1 top : Int} {S : Addr} {n : Nat} {news' : Int → Int → Tok → Tok → List (Addr × Obj)}
    (B : Below A₀ base outer h₀) (F : Fr h₀ L s.heap m) (X : (Mine.hd.heap_1 w.params).In h₀) (N : News h₀ L s.heap news) (T : Top p loose mean mg mb h₀) (hk : cs.kind = .function)
    (hd : dp + 5 < recursionLimit) (hu : un + 100 < cLine) (hS : (S, srcObj x0 x1 t0 t1 n) ∈ news) (h0 : 0 ≤ x0) (h1 : 0 ≤ x1) (h2 : x1 < 2147483647) (h3 : 0 < top) (h4 : top ≤ 1073741824)
    (U : ∀ y0 y1 u0 u1, Upd S (srcObj x0 x1 t0 t1 n) (srcObj y0 y1 u0 u1 n) news (news' y0 y1 u0 u1))
    (hret : ∀ d t y0 y1 u0 u1 h' tk', 0 ≤ d → d < top → 0 ≤ y0 → 0 ≤ y1 → y1 < 2147483647 → Fr h₀ L h' m → News h₀ L h' (news' y0 y1 u0 u1) → Q (.int d t) { s with heap := h', toks := tk' }) :
    wpAny (model prog w) (ktrTop dp un gd cn cs L a ccd [] outer) (call (.ref 152) [.ref S, .int top tt]) Q E s := by
  have e0 : ([x0, x1] : List Int).getD (Int.toNat 0) 0 = x0 := rfl
  have e1 : ([x0, x1] : List Int).getD (Int.toNat 1) 0 = x1 := rfl
  refine wpAny_call ?_
  have N₁ : News h₀ L s.heap [(S, srcObj x0 x1 t0 t1 n)] := fun q hq => by
    simp only [List.mem_cons, List.not_mem_nil, or_false] at hq
    rcases hq with rfl
    exact N _ hS
  refine ctr_code _ B F X N₁ T rfl hk (by k_is) (by k_is) (by ktr_room) (BindsTo.of_eq rfl) (locs rfl) ?_ rfl rfl rfl (by decide)
  k_whole
  intro g' L' h' hR FG' F' N' B' X' T'
  (try dsimp only)
  (try k_fold)
  k_steps
  all_goals
    (rename Fr g' L' _ _ => zF
     rename News g' L' _ _ => zN
     refine' hret _ _ _ _ _ _ _ _ ?_ ?_ ?_ ?_ ?_ (ctr_frN FG' zF) (ctr_upd FG' N hR zF zN (U _ _ _ _)))
  all_goals first
    | exact fmod_lo _ (by omega)
    | exact fmod_hi _ (by omega)
    | exact Int.fdiv_nonneg h0 (by omega)
    | assumption
end

example : True := by
  k_with_none
  k_with "ite" => (k_here; (with_reducible show (if (!_) = true then _ else _)); (with_reducible refine' ite_no ?itb ?_); (case itb => k_dflt decide))
  k_with "w k_in" => (refine' Frag.In.keeps ?xa (Fr.keep ?xb); (case xb => with_reducible assumption); (case xa => with_reducible assumption))
  k_with "w k_all" => first | exact allNe (by assumption) | exact allNe (allLt_le (by assumption) (by (try dsimp only); omega))
  k_with "w k_room" => ktr_room
  k_with "w ktr_enter" => (refine' code_def ?k1 ?k2 ?k3 ?k4 ?k5 ?kA ?kF ?kK ?k6 ?k7 ?k8 ?k9 ?kB ?_ ?c2 ?c3 ?c4 ?c5; (case kA => exact rfl); (case kF => exact rfl); (case kK => first | exact rfl | assumption); (case k1 => k_asm); (case k2 => k_asm); (case k3 => k_asm); (case k4 => k_asm); (case k5 => k_asm); (case k6 => k_is); (case k7 => k_is); (case k8 => ktr_room); (case k9 => first | exact BindsTo.of_eq rfl | exact binds_K (by k_in) rfl (by k_is) rfl rfl rfl | fail "ktr_enter: no rule for these arguments"); (case c5 => decide); (case kB => exact locs rfl); (case c2 => exact rfl); (case c3 => exact rfl); (case c4 => exact rfl); k_whole; intro g'w9 L'w9 h'w9 FG'w9 F'w9 N'w9 B'w9 X'w9 T'w9; (try dsimp only); (try k_lift B'w9); (try k_fold))
  k_with "getMethod type:Exception" => (k_here; refine' method_type ?F ?X ?m (by decide +kernel) ?e ?h ?_; (case F => k_asm); (case X => k_asm); (case m => exact meta_Exception); (case e => k_dflt k_is); (case h => k_handed))
  k_with "call builtin:Exception.__init__" => (k_here; k_dflt (refine' se_bInit ?k1 ?k2 ?k3 ?k4 ?k5 ?k6 ?k7 ?_; (case k1 => k_asm); (case k2 => k_asm); (case k3 => k_asm); (case k4 => k_mem); (case k5 => k_is); (case k6 => decide); (case k7 => intro t'w9; k_upd)); intro t'w9 h'w9 F'w9 N'w9 l1w9; (try k_lt l1w9); (try k_sweep))
  k_with "setAttr ref" => (k_here; k_dflt (refine' se_set1 ?k1 ?k2 ?k3 ?k4 ?k5 ?k6 ?k7 ?k8 ?k9 ?k10 ?k11 ?_; (case k1 => k_asm); (case k2 => k_asm); (case k3 => k_asm); (case k4 => k_mem); (case k5 => k_is); (case k6 => rfl); (case k7 => k_is); (case k8 => exact se_pass); (case k9 => k_is); (case k10 => k_is); (case k11 => intro t'w9; k_upd)); intro t'w9 h'w9 F'w9 N'w9 l1w9; (try k_lt l1w9); (try k_sweep))
  k_with "setAttr ref" => (k_here; k_dflt (refine' se_set2 ?k1 ?k2 ?k3 ?k4 ?kd ?k5 ?k6 ?k7 ?k8 ?k9 ?k10 ?k11 ?k12 ?k13 ?k14 ?_; (case k1 => k_asm); (case k2 => k_asm); (case k3 => k_asm); (case k4 => k_mem); (case kd => k_mem); (case k5 => k_is); (case k6 => rfl); (case k7 => k_is); (case k8 => exact se_pass); (case k9 => k_is); (case k10 => k_is); (case k11 => k_get); (case k12 => k_put); (case k13 => k_upd); (case k14 => exact Nat.le_of_ble_eq_true rfl)); intro h'w9 F'w9 N'w9; (try k_sweep))
  k_with "exec Raise some none" => (k_here; k_dflt (refine' se_Raise ?h ?_; (case h => exact rfl)))
  k_with "call ref" => (k_here; (with_reducible show wpAny _ _ (call (Value.ref 54) [Value.str _ _]) _ _ _); k_dflt (refine' se_make ?k1 ?k2 ?k3 ?k4 ?k5 ?k6 ?k7 ?_; (case k1 => k_asm); (case k2 => k_asm); (case k3 => k_asm); (case k4 => k_asm); (case k5 => k_asm); (case k6 => first | exact rfl | assumption); (case k7 => ktr_room)); intro e'w9 t'w9 d'w9 h'w9 tk'w9 F'w9 N'w9 l1w9 l2w9; (replace l1w9 := allLt_of l1w9); (have l1bw9 := l1w9); (try simp only [AllLt, and_true] at l1bw9); (try k_lt2 l2w9); (try k_sweep))
  k_with "SeRaised" => (refine' ⟨_, _, _, rfl, ?X, ?m, ?_⟩; (case X => k_in); (case m => exact News.get (by k_asm) (by k_mem)))
  k_with "leaving ref" => (k_here; k_dflt (refine' se_leave ?k1 ?k2 ?k3 ?k4 ?k5 ?_; (case k2 => k_asm); (case k1 => k_asm); (case k3 => k_asm); (case k4 => first | assumption | (simp only [AllLt, and_true]; omega)); (case k5 => omega)); intro h'w9 R'w9 R2'w9 U'w9; (try dsimp only at R'w9 R2'w9 U'w9 ⊢))
  k_with "call ref" => (k_here; (with_reducible show wpAny _ _ (call (Value.ref 117) [Value.str _ _, Value.str _ _]) _ _ _); k_dflt (refine' con_figs ?k1 ?k2 ?k3 ?k4 ?k5 ?k6 ?k7 ?k8 ?k9 (fun f'w9 t'w9 h'w9 tk'w9 hf'w9 F'w9 N'w9 => ?_) (fun hE'w9 g'w9 e'w9 t'w9 vs'w9 h'w9 tk'w9 G'w9 B'w9 R'w9 U'w9 => ?_); (case k1 => k_asm); (case k2 => k_asm); (case k3 => k_asm); (case k4 => k_asm); (case k5 => k_asm); (case k6 => first | exact rfl | assumption); (case k7 => ktr_room); (case k8 => first | assumption | decide); (case k9 => decide)); all_goals (try k_sweep))
  k_with "w k_upd" => first | (refine' Drop.head ?a; (case a => k_all)) | (refine' Drop.tail ?a ?b; (case a => k_ne); (case b => k_upd))
  k_with "exec For Tuple Tuple cons nil" => (k_here; k_dflt (refine' for_enter ?_ ?hs; (case hs => intro _; exact rfl)))
  k_with "exec For Name Call cons nil" => (k_here; k_dflt (refine' for_enter ?_ ?hs; (case hs => intro _; exact rfl)))
  k_with "pyIter ref" => (k_here; (with_reducible show wpAny _ _ (pyIter (Value.ref _)) (ForAt _ _ _ _ _ _ _ _) _ _); k_dflt (first | (refine' iter_tuple_K ?k1 ?k2 ?k3 ?_; (case k1 => k_asm); (case k2 => k_asm); (case k3 => k_mem)) | (refine' iter_list_K ?k1 ?k2 ?k3 ?_; (case k1 => k_asm); (case k2 => k_asm); (case k3 => k_mem)) | (refine' iter_range_K ?k1 ?k2 ?k3 ?k4 ?_; (case k1 => k_asm); (case k2 => k_asm); (case k3 => assumption); (case k4 => decide))); intro I'w9 h'w9 F'w9 N'w9 l1w9; (try k_lt l1w9); (try k_sweep))
  k_with "ForAt" => (refine ⟨_, rfl, ?_⟩)
  k_with "ForGo" => (refine for_turn (by passes_own) ?_)
  k_with "pyNext ref" => (k_here; k_dflt (first | (refine' next_tuple_K ?k1 ?k2 ?k3 ?k4 ?k5 ?k6 ?_; (case k1 => k_asm); (case k2 => k_asm); (case k3 => k_mem); (case k4 => k_mem); (case k5 => exact rfl); (case k6 => intro d'w9 sl'w9; k_upd); intro d'w9 sl'w9 h'w9 F'w9 N'w9; (try k_sweep)) | (refine' end_tuple_K ?k0 ?k1 ?k2 ?k3 ?k4 ?k5 ?k6 ?_; (case k0 => exact rfl); (case k1 => k_asm); (case k2 => k_asm); (case k3 => k_mem); (case k4 => k_mem); (case k5 => exact rfl); (case k6 => k_upd); intro h'w9 F'w9 N'w9; (try k_sweep)) | (refine' next_list_K ?k1 ?k2 ?k3 ?k4 ?k5 ?k6 ?_; (case k1 => k_asm); (case k2 => k_asm); (case k3 => k_mem); (case k4 => k_mem); (case k5 => exact rfl); (case k6 => intro d'w9 sl'w9; k_upd); intro d'w9 sl'w9 h'w9 F'w9 N'w9; (try k_sweep)) | (refine' end_list_K ?k0 ?k1 ?k2 ?k3 ?k4 ?k5 ?k6 ?_; (case k0 => exact rfl); (case k1 => k_asm); (case k2 => k_asm); (case k3 => k_mem); (case k4 => k_mem); (case k5 => exact rfl); (case k6 => k_upd); intro h'w9 F'w9 N'w9; (try k_sweep)) | (refine' next_range_K ?k1 ?k2 ?k3 ?k4 ?k5 ?_; (case k1 => k_asm); (case k2 => k_asm); (case k3 => k_mem); (case k4 => decide); (case k5 => k_upd); intro h'w9 F'w9 N'w9; (try k_sweep)) | (refine' end_range_K ?k0 ?k1 ?k2 ?k3 ?k4 ?k5 ?_; (case k0 => exact rfl); (case k1 => k_asm); (case k2 => k_asm); (case k3 => k_mem); (case k4 => decide); (case k5 => k_upd); intro h'w9 F'w9 N'w9; (try k_sweep))))
  k_with "ForNext" => (dsimp only [ForNext])
  k_with "ForBody" => (dsimp only [ForBody])
  k_with "letOwnedTupleGo" => (k_here; k_dflt (first | (refine' let_name_K ?_; k_whole) | (refine' let_iter_K ?k1 ?k2 ?k3 ?_; (case k1 => k_asm); (case k2 => k_mem); (case k3 => decide))))
  k_with "call builtin:str.split" => (k_here; (with_reducible show wpAny _ _ (call (Value.builtin "str.split") [Value.str _ _, Value.str _ _]) _ _ _); k_dflt (refine' KSpl.split1 ?k1 ?k2 ?k3 ?_ ?k4; (case k1 => k_asm); (case k2 => k_asm); (case k3 => decide); (case k4 => exact line_of_le (by assumption))); intro D'w9 l'w9 h'w9 k'w9 e'w9 a'w9 F'w9 N'w9 l1w9; (try k_lt l1w9); first | ((replace e'w9 := e'w9.trans (by assumption)); (kspl_open e'w9); (simp only [strValues, List.map_cons, List.map_nil] at N'w9 a'w9); (try k_sweep)) | ((have hlen'w9 := split_ne e'w9 (by assumption)); (try k_sweep)))
  k_with "leaving ref" => (k_here; k_dflt (refine' leave_onS ?k1 ?k2 ?k3 ?k4 ?_; (case k3 => assumption); (case k2 => assumption); (case k1 => assumption); (case k4 => assumption)); intro h'w9 S'w9 R'w9 U'w9; (try dsimp only at S'w9 R'w9 U'w9 ⊢))
  k_with "call ref" => (k_here; (with_reducible show wpAny _ _ (call (Value.ref 124) [Value.str _ _]) _ _ _); k_dflt (refine' con_wish ?k1 ?k2 ?k3 ?k4 ?k5 ?k6 ?k7 ?k8 ?k9 ?k10 (fun wd'w9 f1'w9 f2'w9 t1'w9 t2'w9 t3'w9 D'w9 h'w9 tk'w9 hf'w9 F'w9 N'w9 l1w9 => ?_) (fun hE'w9 g'w9 e'w9 t'w9 vs'w9 h'w9 tk'w9 G'w9 B'w9 R'w9 U'w9 => ?_); (case k1 => k_asm); (case k2 => k_asm); (case k3 => k_asm); (case k4 => k_asm); (case k5 => k_asm); (case k6 => first | exact rfl | assumption); (case k7 => ktr_room); (case k8 => assumption); (case k9 => assumption); (case k10 => assumption)); all_goals (try simp only [AllLt, and_true] at l1w9); all_goals (try k_sweep))
  k_with "compareOp In ref ref" => (k_here; k_dflt (refine' in_two ?k1 ?k2 ?k3 ?k4 ?k5 ?k6 ?k7 ?k8 ?k9 ?k10 ?k11 ?_; (case k1 => exact isTup_of (by k_asm) (by k_mem)); (case k4 => ked_read); (case k5 => ked_read); (case k6 => ked_read); (case k2 => k_ne); (case k3 => k_ne); (case k7 => first | assumption | decide +kernel | ked_shaped); (case k8 => first | decide +kernel | ked_shaped); (case k9 => first | decide +kernel | ked_shaped); (case k10 => ktr_units); (case k11 => first | assumption | decide +kernel | rfl)))
  k_with "call builtin:str.split" => (k_here; (with_reducible show wpAny _ _ (call (Value.builtin "str.split") [Value.str _ _]) _ _ _); k_dflt (refine' KSpl.split0 ?k1 ?k2 ?_ ?k4; (case k1 => k_asm); (case k2 => k_asm); (case k4 => exact line_of_le (by assumption))); intro D'w9 l'w9 h'w9 k'w9 e'w9 a'w9 F'w9 N'w9 l1w9; (try k_lt l1w9); (replace e'w9 := e'w9.trans (by assumption)); (kspl_open e'w9); (simp only [strValues, List.map_cons, List.map_nil] at N'w9 a'w9); (try k_sweep))
  k_with "compareOp NotIn str ref" => (k_here; k_dflt (refine' notin_names ?X ?h ?_; (case X => k_in); (case h => assumption)))
  k_with "call builtin:tuple.index" => (k_here; k_dflt (refine' index_names ?X ?h ?_; (case X => k_in); (case h => assumption)))
  k_with "getMethod ref" => (k_here; k_dflt (refine' meth_names ?X ?_; (case X => k_in)))
  k_with "call ref" => (k_here; (with_reducible show wpAny _ _ (call (Value.ref 124) [Value.str _ _]) _ _ _); k_dflt (refine' con_wishOk ?k0 ?k1 ?k2 ?k3 ?k4 ?k5 ?k6 ?k7 ?k8 ?k9 ?k10 (fun t1'w9 t2'w9 t3'w9 D'w9 h'w9 tk'w9 F'w9 N'w9 l1w9 => ?_); (case k0 => assumption); (case k1 => k_asm); (case k2 => k_asm); (case k3 => k_asm); (case k4 => k_asm); (case k5 => k_asm); (case k6 => first | exact rfl | assumption); (case k7 => ktr_room); (case k8 => assumption); (case k9 => assumption); (case k10 => assumption)); (try simp only [AllLt, and_true] at l1w9); (try k_sweep))
  k_with "w cell_enter" => (refine' ctr_enter ?k1 ?k2 ?k3 ?k4 ?k5 ?kA ?kK ?k6 ?k7 ?k8 ?k9 ?kB ?_ ?c2 ?c3 ?c4 ?c5; (case kA => exact rfl); (case kK => first | exact rfl | assumption); (case k2 => k_asm); (case k1 => k_asm); (case k3 => k_asm); (case k4 => k_asm); (case k5 => k_asm); (case k6 => k_is); (case k7 => k_is); (case k8 => ktr_room); (case k9 => first | exact BindsTo.of_eq rfl | exact binds_K (by k_in) rfl (by k_is) rfl rfl rfl | fail "ctr_enter: no rule for these arguments"); (case c5 => decide); (case kB => exact locs rfl); (case c2 => exact rfl); (case c3 => exact rfl); (case c4 => exact rfl); k_whole; intro L'w9 h'w9 F'w9 N'w9 B'w9 X'w9 T'w9 D'w9; (try dsimp only); (try k_lift B'w9); (try k_fold))
  k_with "call builtin:sorted" => (k_here; (with_reducible show wpAny _ _ (call (Value.builtin "sorted") [Value.ref _]) _ _ _); k_dflt (refine' sorted_one ?k0 ?k1 ?k2 ?k3 ?k4 ?k5 ?_; (case k0 => exact rfl); (case k1 => k_asm); (case k2 => k_asm); (case k3 => k_mem); (case k4 => assumption); (case k5 => assumption)); intro B'w9 t'w9 h'w9 tk'w9 F'w9 N'w9 l1w9; (try k_lt l1w9); (try k_sweep))
  k_with "subscriptTail Name Name ref int" => (k_here; k_dflt (refine' kda_item (knd := PySem.intKind _ _) ?k1 ?k2 ?k3 ?k4 ?k5 ?_; (case k1 => k_asm); (case k2 => k_mem); (case k3 => k_asm); (case k4 => exact intKind_is _ _ _ _); (case k5 => exact valueAt_one)))
  k_with "subscriptTail Name Name ref int" => (k_here; (with_reducible show wpAny _ _ (subscriptTail _ _ (Value.ref 16) (Value.int _ _)) _ _ _); k_dflt (refine' bits_item ?X ?h ?_; (case X => k_in); (case h => assumption)); intro t'w9)
  k_with "testChain" => first | with_reducible refine test_link ?_ | with_reducible refine test_last ?_ | refine test_link ?_
  k_with "call ref" => (k_here; (with_reducible show wpAny _ _ (call (Value.ref 70) [Value.ref _, Value.int _ _]) _ _ _); k_dflt (refine' con_check ?k0 ?k1 ?k2 ?k3 ?k4 ?k5 ?k6 ?k7 ?k8 ?k9 (fun hf'w9 h'w9 tk'w9 F'w9 N'w9 => ?_) (fun hE'w9 g'w9 e'w9 t'w9 vs'w9 h'w9 tk'w9 G'w9 B'w9 R'w9 U'w9 => ?_); (case k0 => assumption); (case k1 => k_asm); (case k2 => k_asm); (case k3 => k_asm); (case k4 => k_asm); (case k5 => k_asm); (case k6 => first | exact rfl | assumption); (case k7 => ktr_room); (case k8 => omega); (case k9 => k_mem)); all_goals (try k_sweep))
  k_with "call type:dict" => (k_here; (with_reducible show wpAny _ _ (call (Value.type "dict") [Value.ref _]) _ _ _); k_dflt (refine' dict_one ?k1 ?k2 ?k3 ?k4 ?k5 ?k6 ?_; (case k1 => k_asm); (case k2 => k_asm); (case k3 => exact Top.nolimit (by k_asm)); (case k4 => k_mem); (case k5 => assumption); (case k6 => assumption)); intro D'w9 o'w9 h'w9 F'w9 N'w9 l1w9 lo'w9 ho'w9; (try k_lt l1w9); (try k_sweep))
  k_with "call ref" => (k_here; (with_reducible show wpAny _ _ (call (Value.ref 106) [Value.str _ _, Value.ref _]) _ _ _); k_dflt (refine' con_rule ?k1 ?k2 ?k3 ?k4 ?k5 ?k7 ?k8 ?k9 ?ka ?kb ?kc ?kd ?ke ?kf ?kg ?kh (fun hf'w9 x'w9 dx'w9 D'w9 o'w9 c1'w9 c2'w9 h'w9 tk'w9 F'w9 N'w9 l1w9 l2'w9 l3'w9 lo'w9 ho'w9 => ?_) (fun hE'w9 g'w9 e'w9 t'w9 vs'w9 h'w9 tk'w9 G'w9 B'w9 R'w9 U'w9 => ?_); (case k1 => k_asm); (case k2 => k_asm); (case k3 => k_asm); (case k4 => k_asm); (case k5 => k_asm); (case k7 => first | exact rfl | assumption); (case k8 => ktr_room); (case k9 => ktr_units); (case ka => assumption); (case kb => first | assumption | exact wishOf_wd (by assumption)); (case kc => assumption); (case kd => omega); (case ke => k_mem); (case kf => assumption); (case kh => assumption); (case kg => k_mem)); all_goals (try k_lt l1w9); all_goals (try k_sweep))
  k_with "exec For Tuple Call cons nil" => (k_here; k_dflt (refine' for_enter ?_ ?hs; (case hs => intro _; exact rfl)))
  k_with "eval ListComp" => (k_here; (with_reducible show wpAny _ _ (eval (Expr.ListComp (Expr.Tuple _ _ _) _ _ _) _) _ _ _); k_dflt (refine LCg.ListComp_U (F₀ := by k_asm) (by with_unfolding_all rfl) (by decide) (by rfl) (by decide) (by rfl) ?_); k_dflt lcg_toSrc)
  k_with "CompSrc" => (k_here; (with_reducible show LCg.CompSrc _ _ _ _ _ _ _ (Expr.Tuple _ _ _) _ _ _ _ _ _); k_dflt (refine LCg.CompSrc.ledger (by rfl) (by k_asm) (by k_asm) (by k_mem) (by first | size_fits | exact Nat.le_of_ble_eq_true rfl) ?_; intro g'w9; lcg_lit))
  k_with "getItem ref int" => (k_here; k_dflt (refine' kda_get (knd := PySem.intKind _ _) ?k1 ?k2 ?k3 ?k4 ?k5 ?_; (case k1 => k_asm); (case k2 => k_mem); (case k3 => k_asm); (case k4 => exact intKind_is _ _ _ _); (case k5 => exact valueAt_one)))
  k_with "call ref" => (k_here; (try dsimp only [List.cons_append, List.nil_append]); (with_reducible show wpAny _ _ (call (Value.ref 89) [Value.ref _]) _ _ _); k_dflt (refine' con_rows ?k1 ?k2 ?k3 ?k4 ?k5 ?k6 ?k7 ?k8 ?ka ?kb ?kc ?kd ?ke (fun L'w9 D'w9 t'w9 h'w9 tk'w9 F'w9 N'w9 => ?_); (case k1 => k_asm); (case k2 => k_asm); (case k3 => k_asm); (case k4 => k_asm); (case k5 => k_asm); (case k6 => first | exact rfl | assumption); (case k7 => ktr_room); (case k8 => ktr_units); (case ka => k_mem); (case kb => k_mem); (case kc => k_mem); (case kd => assumption); (case ke => assumption)); (try k_sweep))
  k_with "subscriptTail Name Name ref int" => (k_here; k_dflt (refine' key_item ?k1 ?k2 ?k3 ?k4 ?_; (case k1 => k_asm); (case k2 => k_mem); (case k3 => assumption); (case k4 => assumption)))
  k_with "subscriptTail Name Name ref int" => (k_here; k_dflt (refine' key_itemE ?k1 ?k2 ?k3 ?k4 ?_; (case k1 => k_asm); (case k2 => k_mem); (case k3 => exact met_item (by assumption) (by assumption) (by assumption)); (case k4 => exact met_size (by assumption))); intro t'w9)
  trivial
end Ex2723
-- S6body.txt

theorem top_pos (bt : Nat) : (0 : Int) < 2 ^ ((bt : Int)).toNat := by rw [Int.toNat_natCast]; exact Int.pow_pos (by decide)
theorem top_nat (bt : Nat) : (2 : Int) ^ ((bt : Int)).toNat = ((2 ^ bt : Nat) : Int) := by rw [Int.toNat_natCast, Int.natCast_pow]; rfl
theorem top_fits {bt : Nat} (h : bt ≤ 48) : (2 : Int) ^ ((bt : Int)).toNat ≤ 281474976710656 := by
  rw [top_nat]
  have : 2 ^ bt ≤ 2 ^ 48 := Nat.pow_le_pow_right (by decide) h
  omega
theorem top_hex {bt : Nat} (h : bt ≤ 48) : HexOk ((2 : Int) ^ ((bt : Int)).toNat) := by
  have h1 := top_pos bt
  have h2 := top_fits h
  exact ⟨by omega, by omega⟩
/-- the ten fields on the ledger -/
def FieldsIn (LF : Addr) (fl : List (Addr × Obj)) : Prop := ∃ vs c, (LF, W.listOf vs c) ∈ fl ∧ vs.size = 10 ∧ ∀ (j : Nat) nm (bt : Nat), fieldNames[j]? = some nm → fieldBits[j]? = some bt → ∃ Tj t t', vs[j]? = some (.ref Tj) ∧ (Tj, tupObj [.str nm t, .int (bt : Int) t']) ∈ fl
def TurnEnd (h₀ : Heap) (L : Addr) (sn : Str) (S : Addr) (n : Nat) (fl : List (Addr × Obj)) (s : Shared) (Q : Flow → Shared → Prop) (f : Flow) (s₂ : Shared) : Prop := match f with
  | .next | .cont => ∃ h tk m' x0 x1 t0 t1, s₂ = { s with heap := h, toks := tk } ∧ Fr h₀ L h m' ∧ m' sn = some (.ref S) ∧ 0 ≤ x0 ∧ 0 ≤ x1 ∧ x1 < 2147483647 ∧ News h₀ L h ((S, srcObj x0 x1 t0 t1 n) :: fl)
  | .brk => Q .next s₂
  | .ret v => Q (.ret v) s₂
section
variable {prog : Program} {w : World} {A : Around} {E : Value → Shared → Prop} {s : Shared} {h₀ : Heap} {env : Env} {m : Str → Option Value} {fl : List (Addr × Obj)} {Ea I S LF : Addr} {n k1 k2 : Nat} {y0 y1 : Int} {u0 u1 : Tok}
    {body : List Stmt} {Q : Flow → Shared → Prop} {p1 p2 p3 p4 p5 : Pos} {n1 n2 n3 sn : Str}
theorem enum_fields (hh : A.handled = none) (hE : PassesOwn (model prog w) A env E) (hk1 : env.kindOf n1 = some .local) (hk2 : env.kindOf n2 = some .local) (hk3 : env.kindOf n3 = some .local) (hp : (env.scope.kind == .class || (env.scope.kind == .module && env.locals != env.globals)) = false)
    (hs1 : sn ≠ n1) (hs2 : sn ≠ n2) (hs3 : sn ≠ n3) (hF : FieldsIn LF fl) (hEI : Ea ≠ I) (hES : S ≠ Ea) (hIS : S ≠ I) (hfl : ∀ q ∈ fl, q.1 ≠ Ea ∧ q.1 ≠ I ∧ q.1 ≠ S) {d₀ : Option Addr} {sl₀ : Array (Option Value)}
    (F : Fr h₀ env.locals s.heap m) (hm : m sn = some (.ref S)) (N : News h₀ env.locals s.heap ((Ea, enumO I 0 .none) :: (I, itO "list_iterator" LF 0 d₀ sl₀) :: (S, srcObj y0 y1 u0 u1 n) :: fl)) (b0 : 0 ≤ y0) (b1 : 0 ≤ y1) (b2 : y1 < 2147483647)
    (turn : ∀ (fl' : List (Addr × Obj)) (i : Nat) nm (bt : Nat) ti t t' h tk (m' : Str → Option Value) x0 x1 t0 t1, (∀ q ∈ fl', q.1 ≠ S) → fieldNames[i]? = some nm → fieldBits[i]? = some bt → bt ≤ 48 → 3 ≤ bt → (0 : Int) < 2 ^ ((bt : Int)).toNat → (2 : Int) ^ ((bt : Int)).toNat ≤ 281474976710656 → HexOk ((2 : Int) ^ ((bt : Int)).toNat) → 0 ≤ x0 → 0 ≤ x1 → x1 < 2147483647 →
      Fr h₀ env.locals h (fun y => if y = n3 then some (.int (bt : Int) t') else if y = n2 then some (.str nm t) else if y = n1 then some (.int (i : Int) ti) else if y = sn then some (.ref S) else m' y) →
      News h₀ env.locals h ((S, srcObj x0 x1 t0 t1 n) :: fl') →
      wpAny (model prog w) A (execs body env) (TurnEnd h₀ env.locals sn S n fl' s Q) E { s with heap := h, toks := tk })
    (done : ∀ h tk (m' : Str → Option Value) x0 x1 t0 t1, 0 ≤ x0 → 0 ≤ x1 → x1 < 2147483647 → Fr h₀ env.locals h (fun y => if y = sn then some (.ref S) else m' y) → News h₀ env.locals h [(S, srcObj x0 x1 t0 t1 n)] → Q .next { s with heap := h, toks := tk }) :
    ForGo prog w A E (.Tuple [.Name n1 p1, .Tuple [.Name n2 p2, .Name n3 p3] k2 p4] k1 p5) Ea body env Q s := by
  obtain ⟨vs, c, hLF, hvs, hT⟩ := hF
  have hEr : ∀ (o : Obj), ∀ q ∈ (S, o) :: fl, q.1 ≠ Ea := fun o q hq => by
    rcases List.mem_cons.mp hq with rfl | hq
    · exact hES
    · exact (hfl q hq).1
  have hIr : ∀ (o : Obj), ∀ q ∈ (S, o) :: fl, q.1 ≠ I := fun o q hq => by
    rcases List.mem_cons.mp hq with rfl | hq
    · exact hIS
    · exact (hfl q hq).2.1
  have key : ∀ k i h tk m x0 x1 t0 t1 old d sl, i + k = 10 → 0 ≤ x0 → 0 ≤ x1 → x1 < 2147483647 → Fr h₀ env.locals h m → m sn = some (.ref S) →
      News h₀ env.locals h ((Ea, enumO I i old) :: (I, itO "list_iterator" LF i d sl) :: (S, srcObj x0 x1 t0 t1 n) :: fl) →
      ForGo prog w A E (.Tuple [.Name n1 p1, .Tuple [.Name n2 p2, .Name n3 p3] k2 p4] k1 p5) Ea body env Q { s with heap := h, toks := tk } := by
    intro k
    induction k with
    | zero =>
      intro i h tk m x0 x1 t0 t1 old d sl hi c0 c1 c2 F hm N
      refine for_turn hE ?_
      refine enum_stop (s := { s with heap := h, toks := tk }) hh F N (.tail _ hLF) (by simp; omega) (hIr _) fun h' F' N' => ?_
      have em : m = fun y => if y = sn then some (.ref S) else m y := funext fun y => by
        by_cases e : y = sn
        · rw [if_pos e, e, hm]
        · rw [if_neg e]
      have F'' : Fr h₀ env.locals h' (fun y => if y = sn then some (.ref S) else m y) := by rw [← em]; exact F'
      exact done h' _ m x0 x1 t0 t1 c0 c1 c2 F'' fun q hq => N' q (by rw [List.mem_singleton.mp hq]; exact .head _)
    | succ k ih =>
      intro i h tk m x0 x1 t0 t1 old d sl hi c0 c1 c2 F hm N
      refine for_turn hE ?_
      have h10 : i < 10 := by omega
      obtain ⟨nm, hnm⟩ : ∃ nm, fieldNames[i]? = some nm := ⟨_, List.getElem?_eq_getElem (show i < fieldNames.length from h10)⟩
      obtain ⟨bt, hbt⟩ : ∃ bt, fieldBits[i]? = some bt := ⟨_, List.getElem?_eq_getElem (show i < fieldBits.length from h10)⟩
      obtain ⟨Tj, t, t', hx, hTj⟩ := hT i nm bt hnm hbt
      refine enum_start (s := { s with heap := h, toks := tk }) hh F N (.tail _ hLF) hx (.tail _ hTj) hEI (hEr _) (hIr _) hk1 hk2 hk3 hp fun h' tk' d' sl' ti F' N' => ?_
      have em : m = fun y => if y = sn then some (.ref S) else m y := funext fun y => by
        by_cases e : y = sn
        · rw [if_pos e, e, hm]
        · rw [if_neg e]
      have F'' : Fr h₀ env.locals h' (fun y => if y = n3 then some (.int (bt : Int) t') else if y = n2 then some (.str nm t) else if y = n1 then some (.int (i : Int) ti) else if y = sn then some (.ref S) else m y) := by
        have : (fun y => if y = n3 then some (Value.int (bt : Int) t') else if y = n2 then some (.str nm t) else if y = n1 then some (.int (i : Int) ti) else m y) = (fun y => if y = n3 then some (.int (bt : Int) t') else if y = n2 then some (.str nm t) else if y = n1 then some (.int (i : Int) ti) else if y = sn then some (.ref S) else m y) := funext fun y => by
          have := congrFun em y
          by_cases e : y = sn
          · subst e
            rw [if_pos rfl, hm]
          · rw [if_neg e]
        rw [← this]; exact F'
      refine wpAny_mono (turn ((Ea, enumO I (i + 1) (.ref Tj)) :: (I, itO "list_iterator" LF (i + 1) d' sl') :: fl) i nm bt ti t t' h' tk' m x0 x1 t0 t1 (fun q hq => by
        rcases List.mem_cons.mp hq with rfl | hq
        · exact Ne.symm hES
        · rcases List.mem_cons.mp hq with rfl | hq
          · exact Ne.symm hIS
          · exact (hfl q hq).2.2) hnm hbt (bits_le hbt).1 (bits_le hbt).2 (top_pos bt) (top_fits (bits_le hbt).1) (top_hex (bits_le hbt).1) c0 c1 c2 F'' (fun q hq => N' q (by
        rcases List.mem_cons.mp hq with rfl | hq
        · exact .tail _ (.tail _ (.head _))
        · rcases List.mem_cons.mp hq with rfl | hq
          · exact .head _
          · rcases List.mem_cons.mp hq with rfl | hq
            · exact .tail _ (.head _)
            · exact .tail _ (.tail _ (.tail _ hq))))) (fun f s₂ hf => ?_) fun _ _ e => e
      cases f with
      | next =>
        obtain ⟨h2, tk2, m2, z0, z1, v0, v1, rfl, F2, hm2, d0, d1, d2, N2⟩ := hf
        exact ih (i + 1) h2 tk2 m2 z0 z1 v0 v1 _ _ _ (by omega) d0 d1 d2 F2 hm2 fun q hq => N2 q (by
          rcases List.mem_cons.mp hq with rfl | hq
          · exact .tail _ (.head _)
          · rcases List.mem_cons.mp hq with rfl | hq
            · exact .tail _ (.tail _ (.head _))
            · rcases List.mem_cons.mp hq with rfl | hq
              · exact .head _
              · exact .tail _ (.tail _ (.tail _ hq)))
      | cont =>
        obtain ⟨h2, tk2, m2, z0, z1, v0, v1, rfl, F2, hm2, d0, d1, d2, N2⟩ := hf
        exact ih (i + 1) h2 tk2 m2 z0 z1 v0 v1 _ _ _ (by omega) d0 d1 d2 F2 hm2 fun q hq => N2 q (by
          rcases List.mem_cons.mp hq with rfl | hq
          · exact .tail _ (.head _)
          · rcases List.mem_cons.mp hq with rfl | hq
            · exact .tail _ (.tail _ (.head _))
            · rcases List.mem_cons.mp hq with rfl | hq
              · exact .head _
              · exact .tail _ (.tail _ (.tail _ hq)))
      | brk => exact hf
      | ret v => exact hf
  exact key 10 0 s.heap s.toks m y0 y1 u0 u1 .none d₀ sl₀ rfl b0 b1 b2 F hm N
end
section
variable {LF T0 T1 T2 T3 T4 T5 T6 T7 T8 T9 : Addr} {a0 a1 a2 a3 a4 a5 a6 a7 a8 a9 b0 b1 b2 b3 b4 b5 b6 b7 b8 b9 : Tok} {c : Nat}
theorem fields_of : FieldsIn LF [(LF, W.listOf #[.ref T0, .ref T1, .ref T2, .ref T3, .ref T4, .ref T5, .ref T6, .ref T7, .ref T8, .ref T9] c), (T0, tupObj [.str (Str.ofString "target") a0, .int 48 b0]), (T1, tupObj [.str (Str.ofString "source") a1, .int 48 b1]), (T2, tupObj [.str (Str.ofString "kind") a2, .int 16 b2]), (T3, tupObj [.str (Str.ofString "vlan") a3, .int 12 b3]), (T4, tupObj [.str (Str.ofString "priority") a4, .int 3 b4]), (T5, tupObj [.str (Str.ofString "ip_source") a5, .int 32 b5]), (T6, tupObj [.str (Str.ofString "ip_target") a6, .int 32 b6]), (T7, tupObj [.str (Str.ofString "protocol") a7, .int 8 b7]), (T8, tupObj [.str (Str.ofString "source_port") a8, .int 16 b8]), (T9, tupObj [.str (Str.ofString "target_port") a9, .int 16 b9])] := by
  refine ⟨_, _, .head _, rfl, fun j nm bt hn hb => ?_⟩
  match j, hn, hb with
  | 0, hn, hb => cases hn; cases hb; exact ⟨T0, a0, b0, rfl, by simp⟩
  | 1, hn, hb => cases hn; cases hb; exact ⟨T1, a1, b1, rfl, by simp⟩
  | 2, hn, hb => cases hn; cases hb; exact ⟨T2, a2, b2, rfl, by simp⟩
  | 3, hn, hb => cases hn; cases hb; exact ⟨T3, a3, b3, rfl, by simp⟩
  | 4, hn, hb => cases hn; cases hb; exact ⟨T4, a4, b4, rfl, by simp⟩
  | 5, hn, hb => cases hn; cases hb; exact ⟨T5, a5, b5, rfl, by simp⟩
  | 6, hn, hb => cases hn; cases hb; exact ⟨T6, a6, b6, rfl, by simp⟩
  | 7, hn, hb => cases hn; cases hb; exact ⟨T7, a7, b7, rfl, by simp⟩
  | 8, hn, hb => cases hn; cases hb; exact ⟨T8, a8, b8, rfl, by simp⟩
  | 9, hn, hb => cases hn; cases hb; exact ⟨T9, a9, b9, rfl, by simp⟩
  | j + 10, hn, hb => simp [fieldNames] at hn
end
section
variable {prog : Program} {w : World} {A : Around} {E : Value → Shared → Prop} {s : Shared} {h₀ : Heap} {env : Env} {m : Str → Option Value} {news : List (Addr × Obj)} {Ea I S LF : Addr} {n c k1 k2 : Nat} {y0 y1 : Int} {u0 u1 : Tok}
    {body : List Stmt} {Q : Flow → Shared → Prop} {p1 p2 p3 p4 p5 : Pos} {n1 n2 n3 sn : Str} {T0 T1 T2 T3 T4 T5 T6 T7 T8 T9 : Addr} {a0 a1 a2 a3 a4 a5 a6 a7 a8 a9 b0 b1 b2 b3 b4 b5 b6 b7 b8 b9 : Tok} {d₀ : Option Addr} {sl₀ : Array (Option Value)}
theorem enum_law (hh : A.handled = none) (hE : PassesOwn (model prog w) A env E) (hk1 : env.kindOf n1 = some .local) (hk2 : env.kindOf n2 = some .local) (hk3 : env.kindOf n3 = some .local) (hp : (env.scope.kind == .class || (env.scope.kind == .module && env.locals != env.globals)) = false)
    (hs1 : sn ≠ n1) (hs2 : sn ≠ n2) (hs3 : sn ≠ n3) (F : Fr h₀ env.locals s.heap m) (hm : m sn = some (.ref S)) (N : News h₀ env.locals s.heap news)
    (mE : (Ea, enumO I 0 .none) ∈ news) (mI : (I, itO "list_iterator" LF 0 d₀ sl₀) ∈ news) (mS : (S, srcObj y0 y1 u0 u1 n) ∈ news) (mL : (LF, W.listOf #[.ref T0, .ref T1, .ref T2, .ref T3, .ref T4, .ref T5, .ref T6, .ref T7, .ref T8, .ref T9] c) ∈ news)
    (m0 : (T0, tupObj [.str (Str.ofString "target") a0, .int 48 b0]) ∈ news) (m1 : (T1, tupObj [.str (Str.ofString "source") a1, .int 48 b1]) ∈ news) (m2 : (T2, tupObj [.str (Str.ofString "kind") a2, .int 16 b2]) ∈ news) (m3 : (T3, tupObj [.str (Str.ofString "vlan") a3, .int 12 b3]) ∈ news) (m4 : (T4, tupObj [.str (Str.ofString "priority") a4, .int 3 b4]) ∈ news) (m5 : (T5, tupObj [.str (Str.ofString "ip_source") a5, .int 32 b5]) ∈ news) (m6 : (T6, tupObj [.str (Str.ofString "ip_target") a6, .int 32 b6]) ∈ news) (m7 : (T7, tupObj [.str (Str.ofString "protocol") a7, .int 8 b7]) ∈ news) (m8 : (T8, tupObj [.str (Str.ofString "source_port") a8, .int 16 b8]) ∈ news) (m9 : (T9, tupObj [.str (Str.ofString "target_port") a9, .int 16 b9]) ∈ news)
    (c0 : 0 ≤ y0) (c1 : 0 ≤ y1) (c2 : y1 < 2147483647)
    (turn : ∀ (fl' : List (Addr × Obj)) (i : Nat) nm (bt : Nat) ti t t' h tk (m' : Str → Option Value) x0 x1 t0 t1, (∀ q ∈ fl', q.1 ≠ S) → fieldNames[i]? = some nm → fieldBits[i]? = some bt → bt ≤ 48 → 3 ≤ bt → (0 : Int) < 2 ^ ((bt : Int)).toNat → (2 : Int) ^ ((bt : Int)).toNat ≤ 281474976710656 → HexOk ((2 : Int) ^ ((bt : Int)).toNat) → 0 ≤ x0 → 0 ≤ x1 → x1 < 2147483647 →
      Fr h₀ env.locals h (fun y => if y = n3 then some (.int (bt : Int) t') else if y = n2 then some (.str nm t) else if y = n1 then some (.int (i : Int) ti) else if y = sn then some (.ref S) else m' y) →
      News h₀ env.locals h ((S, srcObj x0 x1 t0 t1 n) :: fl') →
      wpAny (model prog w) A (execs body env) (TurnEnd h₀ env.locals sn S n fl' s Q) E { s with heap := h, toks := tk })
    (done : ∀ h tk (m' : Str → Option Value) x0 x1 t0 t1, 0 ≤ x0 → 0 ≤ x1 → x1 < 2147483647 → Fr h₀ env.locals h (fun y => if y = sn then some (.ref S) else m' y) → News h₀ env.locals h [(S, srcObj x0 x1 t0 t1 n)] → Q .next { s with heap := h, toks := tk }) :
    ForGo prog w A E (.Tuple [.Name n1 p1, .Tuple [.Name n2 p2, .Name n3 p3] k2 p4] k1 p5) Ea body env Q s := by
  have ap : ∀ {x y : Addr} {o o' : Obj}, (x, o) ∈ news → (y, o') ∈ news → o ≠ o' → x ≠ y := fun {x y o o'} h1 h2 ne e => by
    subst e
    have e1 := (N _ h1).1
    rw [(N _ h2).1] at e1
    exact ne (Option.some.inj e1).symm
  have nl : ∀ {p q : Obj}, p.cls ≠ q.cls → p ≠ q := fun h e => h (by rw [e])
  have hfl : ∀ q ∈ ([(LF, W.listOf #[.ref T0, .ref T1, .ref T2, .ref T3, .ref T4, .ref T5, .ref T6, .ref T7, .ref T8, .ref T9] c), (T0, tupObj [.str (Str.ofString "target") a0, .int 48 b0]), (T1, tupObj [.str (Str.ofString "source") a1, .int 48 b1]), (T2, tupObj [.str (Str.ofString "kind") a2, .int 16 b2]), (T3, tupObj [.str (Str.ofString "vlan") a3, .int 12 b3]), (T4, tupObj [.str (Str.ofString "priority") a4, .int 3 b4]), (T5, tupObj [.str (Str.ofString "ip_source") a5, .int 32 b5]), (T6, tupObj [.str (Str.ofString "ip_target") a6, .int 32 b6]), (T7, tupObj [.str (Str.ofString "protocol") a7, .int 8 b7]), (T8, tupObj [.str (Str.ofString "source_port") a8, .int 16 b8]), (T9, tupObj [.str (Str.ofString "target_port") a9, .int 16 b9])] : List (Addr × Obj)), q ∈ news ∧ q.2.cls ≠ .type "enumerate" ∧ q.2.cls ≠ .type "list_iterator" ∧ q.2 ≠ srcObj y0 y1 u0 u1 n := by
    intro q hq
    simp only [List.mem_cons, List.not_mem_nil, or_false] at hq
    rcases hq with rfl | rfl | rfl | rfl | rfl | rfl | rfl | rfl | rfl | rfl | rfl
    · exact ⟨mL, by simp [W.listOf], by simp [W.listOf], by simp [W.listOf]⟩
    · exact ⟨m0, by simp [W.listOf], by simp [W.listOf], by simp [W.listOf]⟩
    · exact ⟨m1, by simp [W.listOf], by simp [W.listOf], by simp [W.listOf]⟩
    · exact ⟨m2, by simp [W.listOf], by simp [W.listOf], by simp [W.listOf]⟩
    · exact ⟨m3, by simp [W.listOf], by simp [W.listOf], by simp [W.listOf]⟩
    · exact ⟨m4, by simp [W.listOf], by simp [W.listOf], by simp [W.listOf]⟩
    · exact ⟨m5, by simp [W.listOf], by simp [W.listOf], by simp [W.listOf]⟩
    · exact ⟨m6, by simp [W.listOf], by simp [W.listOf], by simp [W.listOf]⟩
    · exact ⟨m7, by simp [W.listOf], by simp [W.listOf], by simp [W.listOf]⟩
    · exact ⟨m8, by simp [W.listOf], by simp [W.listOf], by simp [W.listOf]⟩
    · exact ⟨m9, by simp [W.listOf], by simp [W.listOf], by simp [W.listOf]⟩
  refine enum_fields (fl := [(LF, W.listOf #[.ref T0, .ref T1, .ref T2, .ref T3, .ref T4, .ref T5, .ref T6, .ref T7, .ref T8, .ref T9] c), (T0, tupObj [.str (Str.ofString "target") a0, .int 48 b0]), (T1, tupObj [.str (Str.ofString "source") a1, .int 48 b1]), (T2, tupObj [.str (Str.ofString "kind") a2, .int 16 b2]), (T3, tupObj [.str (Str.ofString "vlan") a3, .int 12 b3]), (T4, tupObj [.str (Str.ofString "priority") a4, .int 3 b4]), (T5, tupObj [.str (Str.ofString "ip_source") a5, .int 32 b5]), (T6, tupObj [.str (Str.ofString "ip_target") a6, .int 32 b6]), (T7, tupObj [.str (Str.ofString "protocol") a7, .int 8 b7]), (T8, tupObj [.str (Str.ofString "source_port") a8, .int 16 b8]), (T9, tupObj [.str (Str.ofString "target_port") a9, .int 16 b9])]) (LF := LF) (d₀ := d₀) (sl₀ := sl₀) (u0 := u0) (u1 := u1) hh hE hk1 hk2 hk3 hp hs1 hs2 hs3 fields_of (ap mE mI (nl (by simp))) (ap mS mE (nl (by simp [W.listOf]))) (ap mS mI (nl (by simp [W.listOf]))) (fun q hq => ?_) F hm (fun q hq => N q ?_) c0 c1 c2 turn done
  · obtain ⟨r0, r1, r2, r3⟩ := hfl q hq
    exact ⟨ap r0 mE (nl (by simpa using r1)), ap r0 mI (nl (by simpa using r2)), ap r0 mS r3⟩
  · rcases List.mem_cons.mp hq with rfl | hq
    · exact mE
    · rcases List.mem_cons.mp hq with rfl | hq
      · exact mI
      · rcases List.mem_cons.mp hq with rfl | hq
        · exact mS
        · exact (hfl q hq).1
end
section
variable {prog : Program} {w : World} {A : Around} {E : Value → Shared → Prop} {s : Shared} {h₀ : Heap} {L : Addr} {m : Str → Option Value} {news : List (Addr × Obj)}
theorem enum_make {LF : Addr} {vs : Array Value} {c : Nat} {Q : Value → Shared → Prop} (F : Fr h₀ L s.heap m) (N : News h₀ L s.heap news) (hm : (LF, W.listOf vs c) ∈ news)
    (h : ∀ Ea I d sl h', Fr h₀ L h' m → News h₀ L h' ((Ea, enumO I 0 .none) :: (I, itO "list_iterator" LF 0 d sl) :: news) → Q (.ref Ea) { s with heap := h' }) : wpAny (model prog w) A (call (.type "enumerate") [.ref LF]) Q E s := by
  refine call_enumerate_list ⟨_, (N _ hm).1, rfl, c, rfl⟩ fun h' he hit hz hk => ?_
  obtain ⟨⟨oc, od, odt, osl⟩, ho, hc, hd⟩ := hit
  dsimp only at hc hd
  subst hc hd
  have hL : L < s.heap.objs.size := F.ns.lt
  have fresh : ∀ b, s.heap.objs.size ≤ b → h₀.get? b = none := fun b hb => Heap.get?_none_of_le (Nat.le_trans F.above (Nat.le_trans (Nat.le_of_lt hL) hb))
  refine h (s.heap.objs.size + 1) s.heap.objs.size od osl h' ⟨F.ns.keeps hk, fun b o e => hk b o (F.keep b o e), F.above⟩ fun q hq => ?_
  rcases List.mem_cons.mp hq with rfl | hq
  · exact ⟨he, Nat.ne_of_gt (Nat.lt_succ_of_lt hL), fresh _ (Nat.le_succ _)⟩
  · rcases List.mem_cons.mp hq with rfl | hq
    · exact ⟨ho, Nat.ne_of_gt hL, fresh _ (Nat.le_refl _)⟩
    · exact ⟨hk _ _ (N q hq).1, (N q hq).2⟩
theorem enum_iter {Ea I : Addr} {Q : Value → Shared → Prop} (N : News h₀ L s.heap news) (hm : (Ea, enumO I 0 .none) ∈ news) (h : Q (.ref Ea) s) : wpAny (model prog w) A (pyIter (.ref Ea)) Q E s :=
  wpAny_pyIter_enum (i := 0) (N _ hm).1 h
end

-- M27body.txt

section
variable {h₀ h h' g : Heap} {L L' S : Addr} {m m' : Str → Option Value} {o : Obj} {news : List (Addr × Obj)}
theorem news_front (FG : Fr h₀ L g m) (N : News h₀ L h news) (hR : Rest h g []) (F' : Fr g L' h' m') (N' : News g L' h' [(S, o)]) : News h₀ L h' ((S, o) :: news) := fun q hq => by
  rcases List.mem_cons.mp hq with rfl | hq
  · exact ctr_all FG N' (.head _)
  · exact ctr_old N hR F' hq (by simp)
end
theorem pool0 (c : Int) (b : Bool) : 0 ≤ (if -1 - c > c then -1 - c else c) * (if b = true then (1 : Int) else 0) := by
  refine Int.mul_nonneg ?_ ?_
  · split <;> omega
  · split <;> decide
section
variable {prog : Program} {w : World} {dp un : Nat} {gd : Option (List Code)} {cn : Str} {cs : Scope} {a : Addr} {ccd : Value} {outer : List Env} {A₀ : Around} {base h₀ : Heap} {L : Addr} {m : Str → Option Value} {news : List (Addr × Obj)} {s : Shared}
    {E : Value → Shared → Prop} {p : Program} {loose : List Str} {mean : ExcName → Option Value} {mg mb : Str → Option Value}
set_option maxHeartbeats 8000000 in
theorem con_pool {Q : Value → Shared → Prop} {t0 : Tok} {W : Addr} {vs : List Value} {ns : List Int}
    (B : Below A₀ base outer h₀) (F : Fr h₀ L s.heap m) (X : (Mine.hd.heap_1 w.params).In h₀) (N : News h₀ L s.heap news) (T : Top p loose mean mg mb h₀) (hk : cs.kind = .function)
    (hd : dp + 5 < recursionLimit) (hu : un + 100 < cLine) (hl : h₀.IsList W vs.toArray) (hi : IntsAre vs ns) (hL1 : (PyData.list (List.map PyData.int ns)).layable0 = true) (hlen : ¬ (63 : Int) < (ns.length : Int))
    (hret : ∀ S y0 y1 u0 u1 n h' tk', 0 ≤ y0 → 0 ≤ y1 → y1 < 2147483647 → Fr h₀ L h' m → News h₀ L h' ((S, srcObj y0 y1 u0 u1 n) :: news) → Q (.ref S) { s with heap := h', toks := tk' }) :
    wpAny (model prog w) (ktrTop dp un gd cn cs L a ccd [] outer) (call (.ref 145) [.ref W, .int 0 t0]) Q E s := by
  refine wpAny_call ?_
  refine ctr_code [] B F X (fun q hq => nomatch hq) T rfl hk (by k_is) (by k_is) (by ktr_room) (BindsTo.of_eq rfl) (locs rfl) ?_ rfl rfl rfl (by decide)
  k_whole
  intro g' L' h' hR FG' F' N' B' X' T'
  have hl' : g'.IsList W vs.toArray := hl.at fun o e => FG'.keep _ _ e
  (try dsimp only)
  (try k_fold)
  k_steps
  all_goals
    (rename Fr g' L' _ _ => zF
     rename News g' L' _ _ => zN
     exact hret _ _ _ _ _ _ _ _ (pool0 _ _) (fmod_lo _ (by decide)) (fmod_hi _ (by decide)) (ctr_frN FG' zF) (news_front FG' N hR zF zN))
end

-- M28body.txt

section Ex3005
example : True := by
  k_with "call builtin:sorted" => (k_here; (with_reducible show wpAny _ _ (call (Value.builtin "sorted") [Value.ref _]) _ _ _); k_dflt (refine' sorted_nil ?k0 ?k1 ?k2 ?k3 ?k4 ?k5 ?_; (case k0 => exact rfl); (case k1 => k_asm); (case k2 => k_asm); (case k3 => k_mem); (case k5 => first | assumption | exact ⟨_, _, rfl, by simp⟩); (case k4 => assumption)); intro B'w9 k'w9 h'w9 tk'w9 F'w9 N'w9 l1w9; (try k_lt l1w9); (try k_sweep))
  trivial
section
variable {prog : Program} {w : World} {dp un : Nat} {gd : Option (List Code)} {cn : Str} {cs : Scope} {a : Addr} {ccd : Value} {outer : List Env} {A₀ : Around} {base h₀ : Heap} {L : Addr} {m : Str → Option Value} {news : List (Addr × Obj)} {s : Shared}
    {E : Value → Shared → Prop} {p : Program} {loose : List Str} {mean : ExcName → Option Value} {mg mb : Str → Option Value}

set_option maxHeartbeats 8000000 in
theorem con_rowsE {Q : Value → Shared → Prop} {c1 c2 : Tok} {av : Value} {x dx D : Addr} {o₁ : Obj}
    (B : Below A₀ base outer h₀) (F : Fr h₀ L s.heap m) (X : (Mine.hd.heap_1 w.params).In h₀) (N : News h₀ L s.heap news) (T : Top p loose mean mg mb h₀) (hk : cs.kind = .function)
    (hd : dp + 7 < recursionLimit) (hu : un + 200 < cLine)
    (hx : (x, instObj 106 dx) ∈ news) (hdx : (dx, ruleDict w av c1 c2 D) ∈ news) (hD : (D, o₁) ∈ news) (hD0 : (D == sysModules) = false) (ho : Obj.IsDictOf (intKind prog w) o₁ [])
    (hret : ∀ LL h' tk', AllNe LL news → Fr h₀ L h' m → News h₀ L h' ((LL, LCg.lst []) :: news) → Q (.ref LL) { s with heap := h', toks := tk' }) :
    wpAny (model prog w) (ktrTop dp un gd cn cs L a ccd [] outer) (call (.ref 89) [.ref x]) Q E s := by
  refine wpAny_call ?_
  have N₁ : News h₀ L s.heap [(x, instObj 106 dx), (dx, ruleDict w av c1 c2 D), (D, o₁)] := fun q hq => by
    simp only [List.mem_cons, List.not_mem_nil, or_false] at hq
    rcases hq with rfl | rfl | rfl
    · exact N _ hx
    · exact N _ hdx
    · exact N _ hD
  refine ctr_codeC _ B F X N₁ T rfl hk (by k_is) (by k_is) (by ktr_room) (BindsTo.of_eq rfl) rfl (by decide +kernel) ?_ rfl rfl rfl
  k_whole
  intro g' L' h' tk' cells' hR FG' F' N' Y' B' X' T' l1
  (try k_lt l1)
  k_cells Y'
  (try simp only [List.cons_append, List.nil_append] at N')
  (try dsimp only)
  (try k_fold)
  k_steps
  rename News g' L' _ _ => zN
  refine' hret _ _ _ ?hA (ctr_frN FG' (by assumption)) ?hN
  case hA =>
    refine allNe_of fun q hq e => ?_
    have hLL := zN _ (.head _)
    by_cases hm : q.1 ∈ List.map (·.1) [(x, instObj 106 dx), (dx, ruleDict w av c1 c2 D), (D, o₁)]
    · simp only [List.map_cons, List.map_nil, List.mem_cons, List.not_mem_nil, or_false] at hm
      obtain ⟨ed, _, hd', _⟩ := id ho
      rcases hm with e1 | e1 | e1
      · have z := (zN (x, instObj 106 dx) (by k_mem)).1
        rw [← e1, e, hLL.1] at z
        exact absurd z (by simp)
      · have z := (zN (dx, ruleDict w av c1 c2 D) (by k_mem)).1
        rw [← e1, e, hLL.1] at z
        exact absurd z (by simp)
      · have z := (zN (D, o₁) (by k_mem)).1
        rw [← e1, e, hLL.1] at z
        have z : LCg.lst [] = o₁ := Option.some.inj z
        rw [← z] at hd'
        simp [Obj.ExactDict] at hd'
    · have z1 := hR _ _ (N q hq).1 hm
      rw [e] at z1
      exact absurd (z1.symm.trans hLL.2.2) (by simp)
  case hN =>
    have No : News h₀ L _ news := ctr_same FG' N N₁ hR (by assumption) (by assumption) fun q hq => by repeat (first | exact hq | refine List.mem_cons_of_mem _ ?_)
    intro q hq
    rcases List.mem_cons.mp hq with rfl | hq
    · exact ctr_all FG' zN (by k_mem)
    exact No q hq
end

example : True := by
  k_with_none
  k_with "ite" => (k_here; (with_reducible show (if (!_) = true then _ else _)); (with_reducible refine' ite_no ?itb ?_); (case itb => k_dflt decide))
  k_with "w k_in" => (refine' Frag.In.keeps ?xa (Fr.keep ?xb); (case xb => with_reducible assumption); (case xa => with_reducible assumption))
  k_with "w k_all" => first | exact allNe (by assumption) | exact allNe (allLt_le (by assumption) (by (try dsimp only); omega))
  k_with "w k_room" => ktr_room
  k_with "w ktr_enter" => (refine' code_def ?k1 ?k2 ?k3 ?k4 ?k5 ?kA ?kF ?kK ?k6 ?k7 ?k8 ?k9 ?kB ?_ ?c2 ?c3 ?c4 ?c5; (case kA => exact rfl); (case kF => exact rfl); (case kK => first | exact rfl | assumption); (case k1 => k_asm); (case k2 => k_asm); (case k3 => k_asm); (case k4 => k_asm); (case k5 => k_asm); (case k6 => k_is); (case k7 => k_is); (case k8 => ktr_room); (case k9 => first | exact BindsTo.of_eq rfl | exact binds_K (by k_in) rfl (by k_is) rfl rfl rfl | fail "ktr_enter: no rule for these arguments"); (case c5 => decide); (case kB => exact locs rfl); (case c2 => exact rfl); (case c3 => exact rfl); (case c4 => exact rfl); k_whole; intro g'w9 L'w9 h'w9 FG'w9 F'w9 N'w9 B'w9 X'w9 T'w9; (try dsimp only); (try k_lift B'w9); (try k_fold))
  k_with "getMethod type:Exception" => (k_here; refine' method_type ?F ?X ?m (by decide +kernel) ?e ?h ?_; (case F => k_asm); (case X => k_asm); (case m => exact meta_Exception); (case e => k_dflt k_is); (case h => k_handed))
  k_with "call builtin:Exception.__init__" => (k_here; k_dflt (refine' se_bInit ?k1 ?k2 ?k3 ?k4 ?k5 ?k6 ?k7 ?_; (case k1 => k_asm); (case k2 => k_asm); (case k3 => k_asm); (case k4 => k_mem); (case k5 => k_is); (case k6 => decide); (case k7 => intro t'w9; k_upd)); intro t'w9 h'w9 F'w9 N'w9 l1w9; (try k_lt l1w9); (try k_sweep))
  k_with "setAttr ref" => (k_here; k_dflt (refine' se_set1 ?k1 ?k2 ?k3 ?k4 ?k5 ?k6 ?k7 ?k8 ?k9 ?k10 ?k11 ?_; (case k1 => k_asm); (case k2 => k_asm); (case k3 => k_asm); (case k4 => k_mem); (case k5 => k_is); (case k6 => rfl); (case k7 => k_is); (case k8 => exact se_pass); (case k9 => k_is); (case k10 => k_is); (case k11 => intro t'w9; k_upd)); intro t'w9 h'w9 F'w9 N'w9 l1w9; (try k_lt l1w9); (try k_sweep))
  k_with "setAttr ref" => (k_here; k_dflt (refine' se_set2 ?k1 ?k2 ?k3 ?k4 ?kd ?k5 ?k6 ?k7 ?k8 ?k9 ?k10 ?k11 ?k12 ?k13 ?k14 ?_; (case k1 => k_asm); (case k2 => k_asm); (case k3 => k_asm); (case k4 => k_mem); (case kd => k_mem); (case k5 => k_is); (case k6 => rfl); (case k7 => k_is); (case k8 => exact se_pass); (case k9 => k_is); (case k10 => k_is); (case k11 => k_get); (case k12 => k_put); (case k13 => k_upd); (case k14 => exact Nat.le_of_ble_eq_true rfl)); intro h'w9 F'w9 N'w9; (try k_sweep))
  k_with "exec Raise some none" => (k_here; k_dflt (refine' se_Raise ?h ?_; (case h => exact rfl)))
  k_with "call ref" => (k_here; (with_reducible show wpAny _ _ (call (Value.ref 54) [Value.str _ _]) _ _ _); k_dflt (refine' se_make ?k1 ?k2 ?k3 ?k4 ?k5 ?k6 ?k7 ?_; (case k1 => k_asm); (case k2 => k_asm); (case k3 => k_asm); (case k4 => k_asm); (case k5 => k_asm); (case k6 => first | exact rfl | assumption); (case k7 => ktr_room)); intro e'w9 t'w9 d'w9 h'w9 tk'w9 F'w9 N'w9 l1w9 l2w9; (replace l1w9 := allLt_of l1w9); (have l1bw9 := l1w9); (try simp only [AllLt, and_true] at l1bw9); (try k_lt2 l2w9); (try k_sweep))
  k_with "SeRaised" => (refine' ⟨_, _, _, rfl, ?X, ?m, ?_⟩; (case X => k_in); (case m => exact News.get (by k_asm) (by k_mem)))
  k_with "leaving ref" => (k_here; k_dflt (refine' se_leave ?k1 ?k2 ?k3 ?k4 ?k5 ?_; (case k2 => k_asm); (case k1 => k_asm); (case k3 => k_asm); (case k4 => first | assumption | (simp only [AllLt, and_true]; omega)); (case k5 => omega)); intro h'w9 R'w9 R2'w9 U'w9; (try dsimp only at R'w9 R2'w9 U'w9 ⊢))
  k_with "call ref" => (k_here; (with_reducible show wpAny _ _ (call (Value.ref 117) [Value.str _ _, Value.str _ _]) _ _ _); k_dflt (refine' con_figs ?k1 ?k2 ?k3 ?k4 ?k5 ?k6 ?k7 ?k8 ?k9 (fun f'w9 t'w9 h'w9 tk'w9 hf'w9 F'w9 N'w9 => ?_) (fun hE'w9 g'w9 e'w9 t'w9 vs'w9 h'w9 tk'w9 G'w9 B'w9 R'w9 U'w9 => ?_); (case k1 => k_asm); (case k2 => k_asm); (case k3 => k_asm); (case k4 => k_asm); (case k5 => k_asm); (case k6 => first | exact rfl | assumption); (case k7 => ktr_room); (case k8 => first | assumption | decide); (case k9 => decide)); all_goals (try k_sweep))
  k_with "w k_upd" => first | (refine' Drop.head ?a; (case a => k_all)) | (refine' Drop.tail ?a ?b; (case a => k_ne); (case b => k_upd))
  k_with "exec For Tuple Tuple cons nil" => (k_here; k_dflt (refine' for_enter ?_ ?hs; (case hs => intro _; exact rfl)))
  k_with "exec For Name Call cons nil" => (k_here; k_dflt (refine' for_enter ?_ ?hs; (case hs => intro _; exact rfl)))
  k_with "pyIter ref" => (k_here; (with_reducible show wpAny _ _ (pyIter (Value.ref _)) (ForAt _ _ _ _ _ _ _ _) _ _); k_dflt (first | (refine' iter_tuple_K ?k1 ?k2 ?k3 ?_; (case k1 => k_asm); (case k2 => k_asm); (case k3 => k_mem)) | (refine' iter_list_K ?k1 ?k2 ?k3 ?_; (case k1 => k_asm); (case k2 => k_asm); (case k3 => k_mem)) | (refine' iter_range_K ?k1 ?k2 ?k3 ?k4 ?_; (case k1 => k_asm); (case k2 => k_asm); (case k3 => assumption); (case k4 => decide))); intro I'w9 h'w9 F'w9 N'w9 l1w9; (try k_lt l1w9); (try k_sweep))
  k_with "ForAt" => (refine ⟨_, rfl, ?_⟩)
  k_with "ForGo" => (refine for_turn (by passes_own) ?_)
  k_with "pyNext ref" => (k_here; k_dflt (first | (refine' next_tuple_K ?k1 ?k2 ?k3 ?k4 ?k5 ?k6 ?_; (case k1 => k_asm); (case k2 => k_asm); (case k3 => k_mem); (case k4 => k_mem); (case k5 => exact rfl); (case k6 => intro d'w9 sl'w9; k_upd); intro d'w9 sl'w9 h'w9 F'w9 N'w9; (try k_sweep)) | (refine' end_tuple_K ?k0 ?k1 ?k2 ?k3 ?k4 ?k5 ?k6 ?_; (case k0 => exact rfl); (case k1 => k_asm); (case k2 => k_asm); (case k3 => k_mem); (case k4 => k_mem); (case k5 => exact rfl); (case k6 => k_upd); intro h'w9 F'w9 N'w9; (try k_sweep)) | (refine' next_list_K ?k1 ?k2 ?k3 ?k4 ?k5 ?k6 ?_; (case k1 => k_asm); (case k2 => k_asm); (case k3 => k_mem); (case k4 => k_mem); (case k5 => exact rfl); (case k6 => intro d'w9 sl'w9; k_upd); intro d'w9 sl'w9 h'w9 F'w9 N'w9; (try k_sweep)) | (refine' end_list_K ?k0 ?k1 ?k2 ?k3 ?k4 ?k5 ?k6 ?_; (case k0 => exact rfl); (case k1 => k_asm); (case k2 => k_asm); (case k3 => k_mem); (case k4 => k_mem); (case k5 => exact rfl); (case k6 => k_upd); intro h'w9 F'w9 N'w9; (try k_sweep)) | (refine' next_range_K ?k1 ?k2 ?k3 ?k4 ?k5 ?_; (case k1 => k_asm); (case k2 => k_asm); (case k3 => k_mem); (case k4 => decide); (case k5 => k_upd); intro h'w9 F'w9 N'w9; (try k_sweep)) | (refine' end_range_K ?k0 ?k1 ?k2 ?k3 ?k4 ?k5 ?_; (case k0 => exact rfl); (case k1 => k_asm); (case k2 => k_asm); (case k3 => k_mem); (case k4 => decide); (case k5 => k_upd); intro h'w9 F'w9 N'w9; (try k_sweep))))
  k_with "ForNext" => (dsimp only [ForNext])
  k_with "ForBody" => (dsimp only [ForBody])
  k_with "letOwnedTupleGo" => (k_here; k_dflt (first | (refine' let_name_K ?_; k_whole) | (refine' let_iter_K ?k1 ?k2 ?k3 ?_; (case k1 => k_asm); (case k2 => k_mem); (case k3 => decide))))
  k_with "call builtin:str.split" => (k_here; (with_reducible show wpAny _ _ (call (Value.builtin "str.split") [Value.str _ _, Value.str _ _]) _ _ _); k_dflt (refine' KSpl.split1 ?k1 ?k2 ?k3 ?_ ?k4; (case k1 => k_asm); (case k2 => k_asm); (case k3 => decide); (case k4 => exact line_of_le (by assumption))); intro D'w9 l'w9 h'w9 k'w9 e'w9 a'w9 F'w9 N'w9 l1w9; (try k_lt l1w9); first | ((replace e'w9 := e'w9.trans (by assumption)); (kspl_open e'w9); (simp only [strValues, List.map_cons, List.map_nil] at N'w9 a'w9); (try k_sweep)) | ((have hlen'w9 := split_ne e'w9 (by assumption)); (try k_sweep)))
  k_with "leaving ref" => (k_here; k_dflt (refine' leave_onS ?k1 ?k2 ?k3 ?k4 ?_; (case k3 => assumption); (case k2 => assumption); (case k1 => assumption); (case k4 => assumption)); intro h'w9 S'w9 R'w9 U'w9; (try dsimp only at S'w9 R'w9 U'w9 ⊢))
  k_with "call ref" => (k_here; (with_reducible show wpAny _ _ (call (Value.ref 124) [Value.str _ _]) _ _ _); k_dflt (refine' con_wish ?k1 ?k2 ?k3 ?k4 ?k5 ?k6 ?k7 ?k8 ?k9 ?k10 (fun wd'w9 f1'w9 f2'w9 t1'w9 t2'w9 t3'w9 D'w9 h'w9 tk'w9 hf'w9 F'w9 N'w9 l1w9 => ?_) (fun hE'w9 g'w9 e'w9 t'w9 vs'w9 h'w9 tk'w9 G'w9 B'w9 R'w9 U'w9 => ?_); (case k1 => k_asm); (case k2 => k_asm); (case k3 => k_asm); (case k4 => k_asm); (case k5 => k_asm); (case k6 => first | exact rfl | assumption); (case k7 => ktr_room); (case k8 => assumption); (case k9 => assumption); (case k10 => assumption)); all_goals (try simp only [AllLt, and_true] at l1w9); all_goals (try k_sweep))
  k_with "compareOp In ref ref" => (k_here; k_dflt (refine' in_two ?k1 ?k2 ?k3 ?k4 ?k5 ?k6 ?k7 ?k8 ?k9 ?k10 ?k11 ?_; (case k1 => exact isTup_of (by k_asm) (by k_mem)); (case k4 => ked_read); (case k5 => ked_read); (case k6 => ked_read); (case k2 => k_ne); (case k3 => k_ne); (case k7 => first | assumption | decide +kernel | ked_shaped); (case k8 => first | decide +kernel | ked_shaped); (case k9 => first | decide +kernel | ked_shaped); (case k10 => ktr_units); (case k11 => first | assumption | decide +kernel | rfl)))
  k_with "call builtin:str.split" => (k_here; (with_reducible show wpAny _ _ (call (Value.builtin "str.split") [Value.str _ _]) _ _ _); k_dflt (refine' KSpl.split0 ?k1 ?k2 ?_ ?k4; (case k1 => k_asm); (case k2 => k_asm); (case k4 => exact line_of_le (by assumption))); intro D'w9 l'w9 h'w9 k'w9 e'w9 a'w9 F'w9 N'w9 l1w9; (try k_lt l1w9); (replace e'w9 := e'w9.trans (by assumption)); (kspl_open e'w9); (simp only [strValues, List.map_cons, List.map_nil] at N'w9 a'w9); (try k_sweep))
  k_with "compareOp NotIn str ref" => (k_here; k_dflt (refine' notin_names ?X ?h ?_; (case X => k_in); (case h => assumption)))
  k_with "call builtin:tuple.index" => (k_here; k_dflt (refine' index_names ?X ?h ?_; (case X => k_in); (case h => assumption)))
  k_with "getMethod ref" => (k_here; k_dflt (refine' meth_names ?X ?_; (case X => k_in)))
  k_with "call ref" => (k_here; (with_reducible show wpAny _ _ (call (Value.ref 124) [Value.str _ _]) _ _ _); k_dflt (refine' con_wishOk ?k0 ?k1 ?k2 ?k3 ?k4 ?k5 ?k6 ?k7 ?k8 ?k9 ?k10 (fun t1'w9 t2'w9 t3'w9 D'w9 h'w9 tk'w9 F'w9 N'w9 l1w9 => ?_); (case k0 => assumption); (case k1 => k_asm); (case k2 => k_asm); (case k3 => k_asm); (case k4 => k_asm); (case k5 => k_asm); (case k6 => first | exact rfl | assumption); (case k7 => ktr_room); (case k8 => assumption); (case k9 => assumption); (case k10 => assumption)); (try simp only [AllLt, and_true] at l1w9); (try k_sweep))
  k_with "w cell_enter" => (refine' ctr_enter ?k1 ?k2 ?k3 ?k4 ?k5 ?kA ?kK ?k6 ?k7 ?k8 ?k9 ?kB ?_ ?c2 ?c3 ?c4 ?c5; (case kA => exact rfl); (case kK => first | exact rfl | assumption); (case k2 => k_asm); (case k1 => k_asm); (case k3 => k_asm); (case k4 => k_asm); (case k5 => k_asm); (case k6 => k_is); (case k7 => k_is); (case k8 => ktr_room); (case k9 => first | exact BindsTo.of_eq rfl | exact binds_K (by k_in) rfl (by k_is) rfl rfl rfl | fail "ctr_enter: no rule for these arguments"); (case c5 => decide); (case kB => exact locs rfl); (case c2 => exact rfl); (case c3 => exact rfl); (case c4 => exact rfl); k_whole; intro L'w9 h'w9 F'w9 N'w9 B'w9 X'w9 T'w9 D'w9; (try dsimp only); (try k_lift B'w9); (try k_fold))
  k_with "call builtin:sorted" => (k_here; (with_reducible show wpAny _ _ (call (Value.builtin "sorted") [Value.ref _]) _ _ _); k_dflt (refine' sorted_one ?k0 ?k1 ?k2 ?k3 ?k4 ?k5 ?_; (case k0 => exact rfl); (case k1 => k_asm); (case k2 => k_asm); (case k3 => k_mem); (case k4 => assumption); (case k5 => assumption)); intro B'w9 t'w9 h'w9 tk'w9 F'w9 N'w9 l1w9; (try k_lt l1w9); (try k_sweep))
  k_with "subscriptTail Name Name ref int" => (k_here; k_dflt (refine' kda_item (knd := PySem.intKind _ _) ?k1 ?k2 ?k3 ?k4 ?k5 ?_; (case k1 => k_asm); (case k2 => k_mem); (case k3 => k_asm); (case k4 => exact intKind_is _ _ _ _); (case k5 => exact valueAt_one)))
  k_with "subscriptTail Name Name ref int" => (k_here; (with_reducible show wpAny _ _ (subscriptTail _ _ (Value.ref 16) (Value.int _ _)) _ _ _); k_dflt (refine' bits_item ?X ?h ?_; (case X => k_in); (case h => assumption)); intro t'w9)
  k_with "testChain" => first | with_reducible refine test_link ?_ | with_reducible refine test_last ?_ | refine test_link ?_
  k_with "call ref" => (k_here; (with_reducible show wpAny _ _ (call (Value.ref 70) [Value.ref _, Value.int _ _]) _ _ _); k_dflt (refine' con_check ?k0 ?k1 ?k2 ?k3 ?k4 ?k5 ?k6 ?k7 ?k8 ?k9 (fun hf'w9 h'w9 tk'w9 F'w9 N'w9 => ?_) (fun hE'w9 g'w9 e'w9 t'w9 vs'w9 h'w9 tk'w9 G'w9 B'w9 R'w9 U'w9 => ?_); (case k0 => assumption); (case k1 => k_asm); (case k2 => k_asm); (case k3 => k_asm); (case k4 => k_asm); (case k5 => k_asm); (case k6 => first | exact rfl | assumption); (case k7 => ktr_room); (case k8 => omega); (case k9 => k_mem)); all_goals (try k_sweep))
  k_with "call type:dict" => (k_here; (with_reducible show wpAny _ _ (call (Value.type "dict") [Value.ref _]) _ _ _); k_dflt (refine' dict_one ?k1 ?k2 ?k3 ?k4 ?k5 ?k6 ?_; (case k1 => k_asm); (case k2 => k_asm); (case k3 => exact Top.nolimit (by k_asm)); (case k4 => k_mem); (case k5 => assumption); (case k6 => assumption)); intro D'w9 o'w9 h'w9 F'w9 N'w9 l1w9 lo'w9 ho'w9; (try k_lt l1w9); (try k_sweep))
  k_with "call ref" => (k_here; (with_reducible show wpAny _ _ (call (Value.ref 106) [Value.str _ _, Value.ref _]) _ _ _); k_dflt (refine' con_rule ?k1 ?k2 ?k3 ?k4 ?k5 ?k7 ?k8 ?k9 ?ka ?kb ?kc ?kd ?ke ?kf ?kg ?kh (fun hf'w9 x'w9 dx'w9 D'w9 o'w9 c1'w9 c2'w9 h'w9 tk'w9 F'w9 N'w9 l1w9 l2'w9 l3'w9 lo'w9 ho'w9 => ?_) (fun hE'w9 g'w9 e'w9 t'w9 vs'w9 h'w9 tk'w9 G'w9 B'w9 R'w9 U'w9 => ?_); (case k1 => k_asm); (case k2 => k_asm); (case k3 => k_asm); (case k4 => k_asm); (case k5 => k_asm); (case k7 => first | exact rfl | assumption); (case k8 => ktr_room); (case k9 => ktr_units); (case ka => assumption); (case kb => first | assumption | exact wishOf_wd (by assumption)); (case kc => assumption); (case kd => omega); (case ke => k_mem); (case kf => assumption); (case kh => assumption); (case kg => k_mem)); all_goals (try k_lt l1w9); all_goals (try k_sweep))
  k_with "exec For Tuple Call cons nil" => (k_here; k_dflt (refine' for_enter ?_ ?hs; (case hs => intro _; exact rfl)))
  k_with "eval ListComp" => (k_here; (with_reducible show wpAny _ _ (eval (Expr.ListComp (Expr.Tuple _ _ _) _ _ _) _) _ _ _); k_dflt (refine LCg.ListComp_U (F₀ := by k_asm) (by with_unfolding_all rfl) (by decide) (by rfl) (by decide) (by rfl) ?_); k_dflt lcg_toSrc)
  k_with "CompSrc" => (k_here; (with_reducible show LCg.CompSrc _ _ _ _ _ _ _ (Expr.Tuple _ _ _) _ _ _ _ _ _); k_dflt (refine LCg.CompSrc.ledger (by rfl) (by k_asm) (by k_asm) (by k_mem) (by first | size_fits | exact Nat.le_of_ble_eq_true rfl) ?_; intro g'w9; lcg_lit))
  k_with "getItem ref int" => (k_here; k_dflt (refine' kda_get (knd := PySem.intKind _ _) ?k1 ?k2 ?k3 ?k4 ?k5 ?_; (case k1 => k_asm); (case k2 => k_mem); (case k3 => k_asm); (case k4 => exact intKind_is _ _ _ _); (case k5 => exact valueAt_one)))
  k_with "call ref" => (k_here; (try dsimp only [List.cons_append, List.nil_append]); (with_reducible show wpAny _ _ (call (Value.ref 89) [Value.ref _]) _ _ _); k_dflt (refine' con_rows ?k1 ?k2 ?k3 ?k4 ?k5 ?k6 ?k7 ?k8 ?ka ?kb ?kc ?kd ?ke (fun L'w9 D'w9 t'w9 h'w9 tk'w9 F'w9 N'w9 => ?_); (case k1 => k_asm); (case k2 => k_asm); (case k3 => k_asm); (case k4 => k_asm); (case k5 => k_asm); (case k6 => first | exact rfl | assumption); (case k7 => ktr_room); (case k8 => ktr_units); (case ka => k_mem); (case kb => k_mem); (case kc => k_mem); (case kd => assumption); (case ke => assumption)); (try k_sweep))
  k_with "subscriptTail Name Name ref int" => (k_here; k_dflt (refine' key_item ?k1 ?k2 ?k3 ?k4 ?_; (case k1 => k_asm); (case k2 => k_mem); (case k3 => assumption); (case k4 => assumption)))
  k_with "subscriptTail Name Name ref int" => (k_here; k_dflt (refine' key_itemE ?k1 ?k2 ?k3 ?k4 ?_; (case k1 => k_asm); (case k2 => k_mem); (case k3 => exact met_item (by assumption) (by assumption) (by assumption)); (case k4 => exact met_size (by assumption))); intro t'w9)
  trivial
end Ex3005
-- M17body.txt

-- lines 20
example : True := by
  k_with "binaryOp Add str str" => (k_here; (with_reducible show wpAny _ _ (binaryOp Operator.Add (Value.str _ _) (Value.str _ _)) _ _ _); k_dflt (refine' addS ?k1 ?k2 ?_; (case k1 => first | assumption | (decide +kernel) | ((try simp only [Str.length_append]); omega)); (case k2 => first | assumption | (decide +kernel) | ((try simp only [Str.length_append]); omega))); intro t'w9 k'w9)
  k_with "call ref" => (k_here; (with_reducible show wpAny _ _ (call (Value.ref 173) [Value.str _ _]) _ _ _); k_dflt (refine' con_readOk ?k1 ?k2 ?k3 ?k4 ?k5 ?kD ?kXB ?kTB ?k6 ?k7 ?ku ?k8 ?k9 ?ka ?kb ?kc ?kd ?ke ?kf ?kg (fun x'w9 dx'w9 D'w9 T'w9 o'w9 c1'w9 c2'w9 t1'w9 t2'w9 t3'w9 ta'w9 h'w9 tk'w9 F'w9 N'w9 lo'w9 ho'w9 => ?_); (case k1 => k_asm); (case k2 => k_asm); (case k3 => k_asm); (case k4 => k_asm); (case k5 => k_asm); (case kD => k_asm); (case kXB => assumption); (case kTB => assumption); (case k6 => first | exact rfl | assumption); (case k7 => ktr_room); (case ku => ktr_units); (case k8 => first | assumption | ((try simp only [Str.length_append]); omega)); (case kd => assumption); (case ka => assumption); (case kb => assumption); (case kc => assumption); (case kf => assumption); (case kg => assumption); (case ke => first | exact Or.inl rfl | exact Or.inr rfl); (case k9 => assumption)); (try k_sweep))
  k_with "call ref" => (k_here; (with_reducible show wpAny _ _ (call (Value.ref 178) [Value.ref _, Value.int _ _, Value.int _ _]) _ _ _); k_dflt (refine' con_met ?k0 ?k1 ?k2 ?k3 ?k4 ?k5 ?k6 ?k7 ?k8 ?k9 ?ka ?kb ?kc ?kd ?ke ?kf (fun b'w9 h'w9 tk'w9 hb'w9 F'w9 N'w9 => ?_); (case k0 => first | exact Or.inr rfl | exact Or.inl rfl); (case k1 => k_asm); (case k2 => k_asm); (case k3 => k_asm); (case k4 => k_asm); (case k5 => k_asm); (case k6 => first | exact rfl | assumption); (case k7 => ktr_room); (case k8 => ktr_units); (case k9 => assumption); (case ka => k_mem); (case kb => k_mem); (case kc => k_mem); (case kf => assumption); (case kd => k_mem); (case ke => assumption)); (first | (cases hb'w9.symm.trans (holds_in (by omega) (by omega) (by omega))) | (cases hb'w9.symm.trans (holds_out (by omega)))); (try k_sweep))
  trivial
section
variable {prog : Program} {w : World} {dp un : Nat} {gd : Option (List Code)} {cn : Str} {cs : Scope} {a : Addr} {ccd : Value} {outer : List Env} {A₀ : Around} {base h₀ : Heap} {L : Addr} {m : Str → Option Value} {news : List (Addr × Obj)} {s : Shared}
    {E : Value → Shared → Prop} {p : Program} {loose : List Str} {mean : ExcName → Option Value} {mg mb : Str → Option Value}
set_option maxHeartbeats 8000000 in
theorem rangeN {Q : Value → Shared → Prop} {nm : Str} {ti tn tl th : Tok} {i bt : Nat} {lo up : Nat}
    (B : Below A₀ base outer h₀) (F : Fr h₀ L s.heap m) (X : (Mine.hd.heap_1 w.params).In h₀) (N : News h₀ L s.heap news) (T : Top p loose mean mg mb h₀) (D : KtsDicts (outer.filterMap (·.frame)) h₀) (XB : (Mine.hd.heap_1 w.params).In base) (TB : Top p loose mean mg mb base) (hk : cs.kind = .function)
    (hd : dp + 15 < recursionLimit) (hu : un + 600 < cLine) (hi : fieldNames[i]? = some nm) (hb : fieldBits[i]? = some bt) (hbt : bt ≤ 48) (h1 : lo ≤ up) (h3 : up < 281474976710656) (h2 : fits bt (Str.ofString "range") (lo : Int) (up : Int) = true)
    (hret : ∀ h' tk', Fr h₀ L h' m → News h₀ L h' news → Q (.bool true) { s with heap := h', toks := tk' }) :
    wpAny (model prog w) (ktrTop dp un gd cn cs L a ccd [] outer) (call (.ref 192) [.int (i : Int) ti, .str nm tn, .int (lo : Int) tl, .int (up : Int) th]) Q E s := by
  have hi10 : i < 10 := (List.getElem?_eq_some_iff.mp hi).1
  have hnl : nm.length ≤ 20 := (name_signs hi).2.1
  have hW := words_range (lo := lo) (up := up) hi
  have hV := wsR_wish (lo := lo) (up := up) (by omega) (by omega)
  have l1 : (Str.ofString (toString ((lo : Nat) : Int))).length ≤ 20 := by rw [dec_text, txt_len]; exact digs_len (by decide) (by decide) (by omega)
  have l2 : (Str.ofString (toString ((up : Nat) : Int))).length ≤ 20 := by rw [dec_text, txt_len]; exact digs_len (by decide) (by decide) (by omega)
  have l3 : (txt (wsR lo up)).length ≤ 1000 := by
    rw [dec_text, txt_len] at l1 l2
    rw [txt_len]; unfold wsR
    simp only [List.cons_append, List.length_cons, List.length_append]; omega
  have z1 : (Str.ofString "drop ").length ≤ 5 := by decide +kernel
  have z2 : (Str.ofString " 0").length ≤ 5 := by decide +kernel
  have z3 : (Str.ofString "-").length ≤ 5 := by decide +kernel
  have q1 : 0 ≤ ((up : Int) - lo).fdiv 2 := by rw [Int.fdiv_eq_ediv_of_nonneg _ (by decide)]; omega
  have q2 : ((up : Int) - lo).fdiv 2 ≤ (up : Int) - lo := by rw [Int.fdiv_eq_ediv_of_nonneg _ (by decide)]; omega
  have N0 : True → News h₀ L s.heap news := fun _ => N
  k_dflt cell_enter
  clear N
  k_steps
  all_goals first
    | (rename Fr s.heap _ _ _ => zF
       rename News s.heap _ _ _ => zN
       exact hret _ _ (ctr_fr F zF) (fun q hq => ctr_news F (N0 trivial) zF zN q (List.mem_append_right _ hq)))
    | (exfalso
       rename (_ != _) = true => hz
       simp at hz
       omega)
    | w_report
end

-- M19body.txt
section
variable {prog : Program} {w : World} {A : Around} {E : Value → Shared → Prop} {s : Shared} {h₀ : Heap} {L : Addr} {news : List (Addr × Obj)}
theorem list_any {value slice : Expr} {l : Addr} {vs : Array Value} {n : Nat} {k : Int} {u : Tok} {Q : Value → Shared → Prop} (N : News h₀ L s.heap news) (hm : (l, W.listOf vs n) ∈ news) (h0 : 0 ≤ k) (h1 : k < (vs.size : Int)) (hz : vs.size ≤ 1000) (h : ∀ (j : Nat) v, vs[j]? = some v → Q v s)
    (hs : subscripted slice false (.ref l) (.int k u) = operate [.ref l, .int k u] (getItem (.ref l) (.int k u)) := by with_unfolding_all rfl) :
    wpAny (model prog w) A (subscriptTail value slice (.ref l) (.int k u)) Q E s := by
  have hl : s.heap.IsList l vs := ⟨_, (N _ hm).1, rfl, n, rfl⟩
  have hk : k.toNat < vs.size := by omega
  refine tail_any hl.typeIs PySem.F.slot_list_getitem.lookup (wpAny_getItem_list hl h0 (by omega) (Array.getElem?_eq_getElem hk) (h _ _ (Array.getElem?_eq_getElem hk))) hs
end

section Ex3122
example : True := by
  k_with "binaryOp FloorDiv int int" => (k_here; k_dflt (refine' floordiv_int ?k1 ?_ (Or.inl (noPylong30 ?k2 ?k3)); (case k1 => omega); (case k2 => omega); (case k3 => omega)))
  k_with "binaryOp Mult int int" => (k_here; k_dflt (refine' mul_int ?_ (mulOk62 ?k1 ?k2); (case k1 => omega); (case k2 => omega)))
  k_with "call ref" => (k_here; (with_reducible show wpAny _ _ (call (Value.ref 152) [Value.ref _, Value.int _ _]) _ _ _); k_dflt (refine' con_take ?k1 ?k2 ?k3 ?k4 ?k5 ?k6 ?k7 ?k8 ?k9 ?ka ?kb ?kc ?kd ?ke ?kf (fun d'w9 t'w9 y0'w9 y1'w9 u0'w9 u1'w9 h'w9 tk'w9 z0'w9 z1'w9 z2'w9 z3'w9 z4'w9 F'w9 N'w9 => ?_); (case k1 => k_asm); (case k2 => k_asm); (case k3 => k_asm); (case k4 => k_asm); (case k5 => k_asm); (case k6 => first | exact rfl | assumption); (case k7 => ktr_room); (case k8 => ktr_units); (case k9 => k_mem); (case ka => first | assumption | omega); (case kb => first | assumption | omega); (case kc => first | assumption | omega); (case kd => omega); (case ke => omega); (case kf => intro y0'w9 y1'w9 u0'w9 u1'w9; k_upd)); (try k_sweep))
  k_with "subscriptTail" => (k_here; (with_reducible show wpAny _ _ (subscriptTail _ _ (Value.ref _) (Value.int _ _)) _ _ _); k_dflt (refine' list_any ?k1 ?k2 ?k3 ?k4 ?k5 ?_ ?k6; (case k1 => k_asm); (case k2 => k_mem); (case k3 => assumption); (case k4 => assumption); (case k5 => assumption); (case k6 => with_unfolding_all rfl)); intro j'w9 v'w9 hv'w9)
  trivial
section
variable {h₀ h h' g : Heap} {L L' S : Addr} {m m' : Str → Option Value} {o o' : Obj} {news news' news₁ all : List (Addr × Obj)}
theorem ctr_updN (FG : Fr h₀ L g m) (N : News h₀ L h news) (N₁ : News h₀ L h news₁) (hR : Rest h g news₁) (F' : Fr g L' h' m') (N' : News g L' h' all) (hS : (S, o') ∈ all) (hs : ∀ q ∈ news₁, q.1 ≠ S → q ∈ all) (U : Upd S o o' news news') : News h₀ L h' news' := by
  obtain ⟨pre, post, rfl, rfl, a, b⟩ := U.split
  have key : ∀ q ∈ pre ++ (S, o) :: post, q.1 ≠ S → h'.get? q.1 = some q.2 ∧ q.1 ≠ L ∧ h₀.get? q.1 = none := fun q hq hn => by
    by_cases hm : q.1 ∈ news₁.map (·.1)
    · obtain ⟨r, hr, e⟩ := List.mem_map.mp hm
      have : q = r := by
        have h1 := (N q hq).1
        have h2 := (N₁ r hr).1
        rw [e, h1] at h2
        exact Prod.ext e.symm (Option.some.inj h2)
      subst this
      exact ctr_all FG N' (hs q hr hn)
    · exact ctr_old N hR F' hq hm
  intro q hq
  rcases List.mem_append.mp hq with hq | hq
  · exact key q (List.mem_append_left _ hq) (a q hq)
  · rcases List.mem_cons.mp hq with rfl | hq
    · exact ctr_all FG N' hS
    · exact key q (List.mem_append_right _ (.tail _ hq)) (b q hq)
end
section
variable {prog : Program} {w : World} {dp un : Nat} {gd : Option (List Code)} {cn : Str} {cs : Scope} {a : Addr} {ccd : Value} {outer : List Env} {A₀ : Around} {base h₀ : Heap} {L : Addr} {m : Str → Option Value} {news : List (Addr × Obj)} {s : Shared}
    {E : Value → Shared → Prop} {p : Program} {loose : List Str} {mean : ExcName → Option Value} {mg mb : Str → Option Value}
set_option maxHeartbeats 8000000 in
theorem con_one {Q : Value → Shared → Prop} {t0 t1 : Tok} {x0 x1 : Int} {S TL : Addr} {n k : Nat} {vs : Array Value} {news' : Int → Int → Tok → Tok → List (Addr × Obj)}
    (B : Below A₀ base outer h₀) (F : Fr h₀ L s.heap m) (X : (Mine.hd.heap_1 w.params).In h₀) (N : News h₀ L s.heap news) (T : Top p loose mean mg mb h₀) (hk : cs.kind = .function)
    (hd : dp + 7 < recursionLimit) (hu : un + 200 < cLine) (hS : (S, srcObj x0 x1 t0 t1 n) ∈ news) (hT : (TL, W.listOf vs k) ∈ news) (hne : TL ≠ S) (h0 : 0 ≤ x0) (h1 : 0 ≤ x1) (h2 : x1 < 2147483647) (h3 : 0 < vs.size) (h4 : vs.size ≤ 1000)
    (U : ∀ y0 y1 u0 u1, Upd S (srcObj x0 x1 t0 t1 n) (srcObj y0 y1 u0 u1 n) news (news' y0 y1 u0 u1))
    (hret : ∀ (j : Nat) v y0 y1 u0 u1 h' tk', vs[j]? = some v → 0 ≤ y0 → 0 ≤ y1 → y1 < 2147483647 → Fr h₀ L h' m → News h₀ L h' (news' y0 y1 u0 u1) → Q v { s with heap := h', toks := tk' }) :
    wpAny (model prog w) (ktrTop dp un gd cn cs L a ccd [] outer) (call (.ref 159) [.ref S, .ref TL]) Q E s := by
  refine wpAny_call ?_
  have hne' : S ≠ TL := Ne.symm hne
  have N₁ : News h₀ L s.heap [(S, srcObj x0 x1 t0 t1 n), (TL, W.listOf vs k)] := fun q hq => by
    simp only [List.mem_cons, List.not_mem_nil, or_false] at hq
    rcases hq with rfl | rfl
    · exact N _ hS
    · exact N _ hT
  refine ctr_code _ B F X N₁ T rfl hk (by k_is) (by k_is) (by ktr_room) (BindsTo.of_eq rfl) (locs rfl) ?_ rfl rfl rfl (by decide)
  k_whole
  intro g' L' h' hR FG' F' N' B' X' T'
  (try dsimp only)
  (try k_fold)
  k_steps
  all_goals
    (rename Fr g' L' _ _ => zF
     rename News g' L' _ _ => zN
     rename vs[_]? = some _ => zv
     refine hret _ _ _ _ _ _ _ _ zv (by assumption) (by assumption) (by assumption) (ctr_frN FG' zF) (ctr_updN FG' N N₁ hR zF zN (.head _) (fun q hq hn => ?_) (U _ _ _ _))
     rcases List.mem_cons.mp hq with rfl | hq
     · exact absurd rfl hn
     · exact .tail _ hq)
end

example : True := by
  k_with_none
  k_with "ite" => (k_here; (with_reducible show (if (!_) = true then _ else _)); (with_reducible refine' ite_no ?itb ?_); (case itb => k_dflt decide))
  k_with "w k_in" => (refine' Frag.In.keeps ?xa (Fr.keep ?xb); (case xb => with_reducible assumption); (case xa => with_reducible assumption))
  k_with "w k_all" => first | exact allNe (by assumption) | exact allNe (allLt_le (by assumption) (by (try dsimp only); omega))
  k_with "w k_room" => ktr_room
  k_with "w ktr_enter" => (refine' code_def ?k1 ?k2 ?k3 ?k4 ?k5 ?kA ?kF ?kK ?k6 ?k7 ?k8 ?k9 ?kB ?_ ?c2 ?c3 ?c4 ?c5; (case kA => exact rfl); (case kF => exact rfl); (case kK => first | exact rfl | assumption); (case k1 => k_asm); (case k2 => k_asm); (case k3 => k_asm); (case k4 => k_asm); (case k5 => k_asm); (case k6 => k_is); (case k7 => k_is); (case k8 => ktr_room); (case k9 => first | exact BindsTo.of_eq rfl | exact binds_K (by k_in) rfl (by k_is) rfl rfl rfl | fail "ktr_enter: no rule for these arguments"); (case c5 => decide); (case kB => exact locs rfl); (case c2 => exact rfl); (case c3 => exact rfl); (case c4 => exact rfl); k_whole; intro g'w9 L'w9 h'w9 FG'w9 F'w9 N'w9 B'w9 X'w9 T'w9; (try dsimp only); (try k_lift B'w9); (try k_fold))
  k_with "getMethod type:Exception" => (k_here; refine' method_type ?F ?X ?m (by decide +kernel) ?e ?h ?_; (case F => k_asm); (case X => k_asm); (case m => exact meta_Exception); (case e => k_dflt k_is); (case h => k_handed))
  k_with "call builtin:Exception.__init__" => (k_here; k_dflt (refine' se_bInit ?k1 ?k2 ?k3 ?k4 ?k5 ?k6 ?k7 ?_; (case k1 => k_asm); (case k2 => k_asm); (case k3 => k_asm); (case k4 => k_mem); (case k5 => k_is); (case k6 => decide); (case k7 => intro t'w9; k_upd)); intro t'w9 h'w9 F'w9 N'w9 l1w9; (try k_lt l1w9); (try k_sweep))
  k_with "setAttr ref" => (k_here; k_dflt (refine' se_set1 ?k1 ?k2 ?k3 ?k4 ?k5 ?k6 ?k7 ?k8 ?k9 ?k10 ?k11 ?_; (case k1 => k_asm); (case k2 => k_asm); (case k3 => k_asm); (case k4 => k_mem); (case k5 => k_is); (case k6 => rfl); (case k7 => k_is); (case k8 => exact se_pass); (case k9 => k_is); (case k10 => k_is); (case k11 => intro t'w9; k_upd)); intro t'w9 h'w9 F'w9 N'w9 l1w9; (try k_lt l1w9); (try k_sweep))
  k_with "setAttr ref" => (k_here; k_dflt (refine' se_set2 ?k1 ?k2 ?k3 ?k4 ?kd ?k5 ?k6 ?k7 ?k8 ?k9 ?k10 ?k11 ?k12 ?k13 ?k14 ?_; (case k1 => k_asm); (case k2 => k_asm); (case k3 => k_asm); (case k4 => k_mem); (case kd => k_mem); (case k5 => k_is); (case k6 => rfl); (case k7 => k_is); (case k8 => exact se_pass); (case k9 => k_is); (case k10 => k_is); (case k11 => k_get); (case k12 => k_put); (case k13 => k_upd); (case k14 => exact Nat.le_of_ble_eq_true rfl)); intro h'w9 F'w9 N'w9; (try k_sweep))
  k_with "exec Raise some none" => (k_here; k_dflt (refine' se_Raise ?h ?_; (case h => exact rfl)))
  k_with "call ref" => (k_here; (with_reducible show wpAny _ _ (call (Value.ref 54) [Value.str _ _]) _ _ _); k_dflt (refine' se_make ?k1 ?k2 ?k3 ?k4 ?k5 ?k6 ?k7 ?_; (case k1 => k_asm); (case k2 => k_asm); (case k3 => k_asm); (case k4 => k_asm); (case k5 => k_asm); (case k6 => first | exact rfl | assumption); (case k7 => ktr_room)); intro e'w9 t'w9 d'w9 h'w9 tk'w9 F'w9 N'w9 l1w9 l2w9; (replace l1w9 := allLt_of l1w9); (have l1bw9 := l1w9); (try simp only [AllLt, and_true] at l1bw9); (try k_lt2 l2w9); (try k_sweep))
  k_with "SeRaised" => (refine' ⟨_, _, _, rfl, ?X, ?m, ?_⟩; (case X => k_in); (case m => exact News.get (by k_asm) (by k_mem)))
  k_with "leaving ref" => (k_here; k_dflt (refine' se_leave ?k1 ?k2 ?k3 ?k4 ?k5 ?_; (case k2 => k_asm); (case k1 => k_asm); (case k3 => k_asm); (case k4 => first | assumption | (simp only [AllLt, and_true]; omega)); (case k5 => omega)); intro h'w9 R'w9 R2'w9 U'w9; (try dsimp only at R'w9 R2'w9 U'w9 ⊢))
  k_with "call ref" => (k_here; (with_reducible show wpAny _ _ (call (Value.ref 117) [Value.str _ _, Value.str _ _]) _ _ _); k_dflt (refine' con_figs ?k1 ?k2 ?k3 ?k4 ?k5 ?k6 ?k7 ?k8 ?k9 (fun f'w9 t'w9 h'w9 tk'w9 hf'w9 F'w9 N'w9 => ?_) (fun hE'w9 g'w9 e'w9 t'w9 vs'w9 h'w9 tk'w9 G'w9 B'w9 R'w9 U'w9 => ?_); (case k1 => k_asm); (case k2 => k_asm); (case k3 => k_asm); (case k4 => k_asm); (case k5 => k_asm); (case k6 => first | exact rfl | assumption); (case k7 => ktr_room); (case k8 => first | assumption | decide); (case k9 => decide)); all_goals (try k_sweep))
  k_with "w k_upd" => first | (refine' Drop.head ?a; (case a => k_all)) | (refine' Drop.tail ?a ?b; (case a => k_ne); (case b => k_upd))
  k_with "exec For Tuple Tuple cons nil" => (k_here; k_dflt (refine' for_enter ?_ ?hs; (case hs => intro _; exact rfl)))
  k_with "exec For Name Call cons nil" => (k_here; k_dflt (refine' for_enter ?_ ?hs; (case hs => intro _; exact rfl)))
  k_with "pyIter ref" => (k_here; (with_reducible show wpAny _ _ (pyIter (Value.ref _)) (ForAt _ _ _ _ _ _ _ _) _ _); k_dflt (first | (refine' iter_tuple_K ?k1 ?k2 ?k3 ?_; (case k1 => k_asm); (case k2 => k_asm); (case k3 => k_mem)) | (refine' iter_list_K ?k1 ?k2 ?k3 ?_; (case k1 => k_asm); (case k2 => k_asm); (case k3 => k_mem)) | (refine' iter_range_K ?k1 ?k2 ?k3 ?k4 ?_; (case k1 => k_asm); (case k2 => k_asm); (case k3 => assumption); (case k4 => decide))); intro I'w9 h'w9 F'w9 N'w9 l1w9; (try k_lt l1w9); (try k_sweep))
  k_with "ForAt" => (refine ⟨_, rfl, ?_⟩)
  k_with "ForGo" => (refine for_turn (by passes_own) ?_)
  k_with "pyNext ref" => (k_here; k_dflt (first | (refine' next_tuple_K ?k1 ?k2 ?k3 ?k4 ?k5 ?k6 ?_; (case k1 => k_asm); (case k2 => k_asm); (case k3 => k_mem); (case k4 => k_mem); (case k5 => exact rfl); (case k6 => intro d'w9 sl'w9; k_upd); intro d'w9 sl'w9 h'w9 F'w9 N'w9; (try k_sweep)) | (refine' end_tuple_K ?k0 ?k1 ?k2 ?k3 ?k4 ?k5 ?k6 ?_; (case k0 => exact rfl); (case k1 => k_asm); (case k2 => k_asm); (case k3 => k_mem); (case k4 => k_mem); (case k5 => exact rfl); (case k6 => k_upd); intro h'w9 F'w9 N'w9; (try k_sweep)) | (refine' next_list_K ?k1 ?k2 ?k3 ?k4 ?k5 ?k6 ?_; (case k1 => k_asm); (case k2 => k_asm); (case k3 => k_mem); (case k4 => k_mem); (case k5 => exact rfl); (case k6 => intro d'w9 sl'w9; k_upd); intro d'w9 sl'w9 h'w9 F'w9 N'w9; (try k_sweep)) | (refine' end_list_K ?k0 ?k1 ?k2 ?k3 ?k4 ?k5 ?k6 ?_; (case k0 => exact rfl); (case k1 => k_asm); (case k2 => k_asm); (case k3 => k_mem); (case k4 => k_mem); (case k5 => exact rfl); (case k6 => k_upd); intro h'w9 F'w9 N'w9; (try k_sweep)) | (refine' next_range_K ?k1 ?k2 ?k3 ?k4 ?k5 ?_; (case k1 => k_asm); (case k2 => k_asm); (case k3 => k_mem); (case k4 => decide); (case k5 => k_upd); intro h'w9 F'w9 N'w9; (try k_sweep)) | (refine' end_range_K ?k0 ?k1 ?k2 ?k3 ?k4 ?k5 ?_; (case k0 => exact rfl); (case k1 => k_asm); (case k2 => k_asm); (case k3 => k_mem); (case k4 => decide); (case k5 => k_upd); intro h'w9 F'w9 N'w9; (try k_sweep))))
  k_with "ForNext" => (dsimp only [ForNext])
  k_with "ForBody" => (dsimp only [ForBody])
  k_with "letOwnedTupleGo" => (k_here; k_dflt (first | (refine' let_name_K ?_; k_whole) | (refine' let_iter_K ?k1 ?k2 ?k3 ?_; (case k1 => k_asm); (case k2 => k_mem); (case k3 => decide))))
  k_with "call builtin:str.split" => (k_here; (with_reducible show wpAny _ _ (call (Value.builtin "str.split") [Value.str _ _, Value.str _ _]) _ _ _); k_dflt (refine' KSpl.split1 ?k1 ?k2 ?k3 ?_ ?k4; (case k1 => k_asm); (case k2 => k_asm); (case k3 => decide); (case k4 => exact line_of_le (by assumption))); intro D'w9 l'w9 h'w9 k'w9 e'w9 a'w9 F'w9 N'w9 l1w9; (try k_lt l1w9); first | ((replace e'w9 := e'w9.trans (by assumption)); (kspl_open e'w9); (simp only [strValues, List.map_cons, List.map_nil] at N'w9 a'w9); (try k_sweep)) | ((have hlen'w9 := split_ne e'w9 (by assumption)); (try k_sweep)))
  k_with "leaving ref" => (k_here; k_dflt (refine' leave_onS ?k1 ?k2 ?k3 ?k4 ?_; (case k3 => assumption); (case k2 => assumption); (case k1 => assumption); (case k4 => assumption)); intro h'w9 S'w9 R'w9 U'w9; (try dsimp only at S'w9 R'w9 U'w9 ⊢))
  k_with "call ref" => (k_here; (with_reducible show wpAny _ _ (call (Value.ref 124) [Value.str _ _]) _ _ _); k_dflt (refine' con_wish ?k1 ?k2 ?k3 ?k4 ?k5 ?k6 ?k7 ?k8 ?k9 ?k10 (fun wd'w9 f1'w9 f2'w9 t1'w9 t2'w9 t3'w9 D'w9 h'w9 tk'w9 hf'w9 F'w9 N'w9 l1w9 => ?_) (fun hE'w9 g'w9 e'w9 t'w9 vs'w9 h'w9 tk'w9 G'w9 B'w9 R'w9 U'w9 => ?_); (case k1 => k_asm); (case k2 => k_asm); (case k3 => k_asm); (case k4 => k_asm); (case k5 => k_asm); (case k6 => first | exact rfl | assumption); (case k7 => ktr_room); (case k8 => assumption); (case k9 => assumption); (case k10 => assumption)); all_goals (try simp only [AllLt, and_true] at l1w9); all_goals (try k_sweep))
  k_with "compareOp In ref ref" => (k_here; k_dflt (refine' in_two ?k1 ?k2 ?k3 ?k4 ?k5 ?k6 ?k7 ?k8 ?k9 ?k10 ?k11 ?_; (case k1 => exact isTup_of (by k_asm) (by k_mem)); (case k4 => ked_read); (case k5 => ked_read); (case k6 => ked_read); (case k2 => k_ne); (case k3 => k_ne); (case k7 => first | assumption | decide +kernel | ked_shaped); (case k8 => first | decide +kernel | ked_shaped); (case k9 => first | decide +kernel | ked_shaped); (case k10 => ktr_units); (case k11 => first | assumption | decide +kernel | rfl)))
  k_with "call builtin:str.split" => (k_here; (with_reducible show wpAny _ _ (call (Value.builtin "str.split") [Value.str _ _]) _ _ _); k_dflt (refine' KSpl.split0 ?k1 ?k2 ?_ ?k4; (case k1 => k_asm); (case k2 => k_asm); (case k4 => exact line_of_le (by assumption))); intro D'w9 l'w9 h'w9 k'w9 e'w9 a'w9 F'w9 N'w9 l1w9; (try k_lt l1w9); (replace e'w9 := e'w9.trans (by assumption)); (kspl_open e'w9); (simp only [strValues, List.map_cons, List.map_nil] at N'w9 a'w9); (try k_sweep))
  k_with "compareOp NotIn str ref" => (k_here; k_dflt (refine' notin_names ?X ?h ?_; (case X => k_in); (case h => assumption)))
  k_with "call builtin:tuple.index" => (k_here; k_dflt (refine' index_names ?X ?h ?_; (case X => k_in); (case h => assumption)))
  k_with "getMethod ref" => (k_here; k_dflt (refine' meth_names ?X ?_; (case X => k_in)))
  k_with "call ref" => (k_here; (with_reducible show wpAny _ _ (call (Value.ref 124) [Value.str _ _]) _ _ _); k_dflt (refine' con_wishOk ?k0 ?k1 ?k2 ?k3 ?k4 ?k5 ?k6 ?k7 ?k8 ?k9 ?k10 (fun t1'w9 t2'w9 t3'w9 D'w9 h'w9 tk'w9 F'w9 N'w9 l1w9 => ?_); (case k0 => assumption); (case k1 => k_asm); (case k2 => k_asm); (case k3 => k_asm); (case k4 => k_asm); (case k5 => k_asm); (case k6 => first | exact rfl | assumption); (case k7 => ktr_room); (case k8 => assumption); (case k9 => assumption); (case k10 => assumption)); (try simp only [AllLt, and_true] at l1w9); (try k_sweep))
  k_with "w cell_enter" => (refine' ctr_enter ?k1 ?k2 ?k3 ?k4 ?k5 ?kA ?kK ?k6 ?k7 ?k8 ?k9 ?kB ?_ ?c2 ?c3 ?c4 ?c5; (case kA => exact rfl); (case kK => first | exact rfl | assumption); (case k2 => k_asm); (case k1 => k_asm); (case k3 => k_asm); (case k4 => k_asm); (case k5 => k_asm); (case k6 => k_is); (case k7 => k_is); (case k8 => ktr_room); (case k9 => first | exact BindsTo.of_eq rfl | exact binds_K (by k_in) rfl (by k_is) rfl rfl rfl | fail "ctr_enter: no rule for these arguments"); (case c5 => decide); (case kB => exact locs rfl); (case c2 => exact rfl); (case c3 => exact rfl); (case c4 => exact rfl); k_whole; intro L'w9 h'w9 F'w9 N'w9 B'w9 X'w9 T'w9 D'w9; (try dsimp only); (try k_lift B'w9); (try k_fold))
  k_with "call builtin:sorted" => (k_here; (with_reducible show wpAny _ _ (call (Value.builtin "sorted") [Value.ref _]) _ _ _); k_dflt (refine' sorted_one ?k0 ?k1 ?k2 ?k3 ?k4 ?k5 ?_; (case k0 => exact rfl); (case k1 => k_asm); (case k2 => k_asm); (case k3 => k_mem); (case k4 => assumption); (case k5 => assumption)); intro B'w9 t'w9 h'w9 tk'w9 F'w9 N'w9 l1w9; (try k_lt l1w9); (try k_sweep))
  k_with "subscriptTail Name Name ref int" => (k_here; k_dflt (refine' kda_item (knd := PySem.intKind _ _) ?k1 ?k2 ?k3 ?k4 ?k5 ?_; (case k1 => k_asm); (case k2 => k_mem); (case k3 => k_asm); (case k4 => exact intKind_is _ _ _ _); (case k5 => exact valueAt_one)))
  k_with "subscriptTail Name Name ref int" => (k_here; (with_reducible show wpAny _ _ (subscriptTail _ _ (Value.ref 16) (Value.int _ _)) _ _ _); k_dflt (refine' bits_item ?X ?h ?_; (case X => k_in); (case h => assumption)); intro t'w9)
  k_with "testChain" => first | with_reducible refine test_link ?_ | with_reducible refine test_last ?_ | refine test_link ?_
  k_with "call ref" => (k_here; (with_reducible show wpAny _ _ (call (Value.ref 70) [Value.ref _, Value.int _ _]) _ _ _); k_dflt (refine' con_check ?k0 ?k1 ?k2 ?k3 ?k4 ?k5 ?k6 ?k7 ?k8 ?k9 (fun hf'w9 h'w9 tk'w9 F'w9 N'w9 => ?_) (fun hE'w9 g'w9 e'w9 t'w9 vs'w9 h'w9 tk'w9 G'w9 B'w9 R'w9 U'w9 => ?_); (case k0 => assumption); (case k1 => k_asm); (case k2 => k_asm); (case k3 => k_asm); (case k4 => k_asm); (case k5 => k_asm); (case k6 => first | exact rfl | assumption); (case k7 => ktr_room); (case k8 => omega); (case k9 => k_mem)); all_goals (try k_sweep))
  k_with "call type:dict" => (k_here; (with_reducible show wpAny _ _ (call (Value.type "dict") [Value.ref _]) _ _ _); k_dflt (refine' dict_one ?k1 ?k2 ?k3 ?k4 ?k5 ?k6 ?_; (case k1 => k_asm); (case k2 => k_asm); (case k3 => exact Top.nolimit (by k_asm)); (case k4 => k_mem); (case k5 => assumption); (case k6 => assumption)); intro D'w9 o'w9 h'w9 F'w9 N'w9 l1w9 lo'w9 ho'w9; (try k_lt l1w9); (try k_sweep))
  k_with "call ref" => (k_here; (with_reducible show wpAny _ _ (call (Value.ref 106) [Value.str _ _, Value.ref _]) _ _ _); k_dflt (refine' con_rule ?k1 ?k2 ?k3 ?k4 ?k5 ?k7 ?k8 ?k9 ?ka ?kb ?kc ?kd ?ke ?kf ?kg ?kh (fun hf'w9 x'w9 dx'w9 D'w9 o'w9 c1'w9 c2'w9 h'w9 tk'w9 F'w9 N'w9 l1w9 l2'w9 l3'w9 lo'w9 ho'w9 => ?_) (fun hE'w9 g'w9 e'w9 t'w9 vs'w9 h'w9 tk'w9 G'w9 B'w9 R'w9 U'w9 => ?_); (case k1 => k_asm); (case k2 => k_asm); (case k3 => k_asm); (case k4 => k_asm); (case k5 => k_asm); (case k7 => first | exact rfl | assumption); (case k8 => ktr_room); (case k9 => ktr_units); (case ka => assumption); (case kb => first | assumption | exact wishOf_wd (by assumption)); (case kc => assumption); (case kd => omega); (case ke => k_mem); (case kf => assumption); (case kh => assumption); (case kg => k_mem)); all_goals (try k_lt l1w9); all_goals (try k_sweep))
  k_with "exec For Tuple Call cons nil" => (k_here; k_dflt (refine' for_enter ?_ ?hs; (case hs => intro _; exact rfl)))
  k_with "eval ListComp" => (k_here; (with_reducible show wpAny _ _ (eval (Expr.ListComp (Expr.Tuple _ _ _) _ _ _) _) _ _ _); k_dflt (refine LCg.ListComp_U (F₀ := by k_asm) (by with_unfolding_all rfl) (by decide) (by rfl) (by decide) (by rfl) ?_); k_dflt lcg_toSrc)
  k_with "CompSrc" => (k_here; (with_reducible show LCg.CompSrc _ _ _ _ _ _ _ (Expr.Tuple _ _ _) _ _ _ _ _ _); k_dflt (refine LCg.CompSrc.ledger (by rfl) (by k_asm) (by k_asm) (by k_mem) (by first | size_fits | exact Nat.le_of_ble_eq_true rfl) ?_; intro g'w9; lcg_lit))
  k_with "getItem ref int" => (k_here; k_dflt (refine' kda_get (knd := PySem.intKind _ _) ?k1 ?k2 ?k3 ?k4 ?k5 ?_; (case k1 => k_asm); (case k2 => k_mem); (case k3 => k_asm); (case k4 => exact intKind_is _ _ _ _); (case k5 => exact valueAt_one)))
  k_with "call ref" => (k_here; (try dsimp only [List.cons_append, List.nil_append]); (with_reducible show wpAny _ _ (call (Value.ref 89) [Value.ref _]) _ _ _); k_dflt (refine' con_rows ?k1 ?k2 ?k3 ?k4 ?k5 ?k6 ?k7 ?k8 ?ka ?kb ?kc ?kd ?ke (fun L'w9 D'w9 t'w9 h'w9 tk'w9 F'w9 N'w9 => ?_); (case k1 => k_asm); (case k2 => k_asm); (case k3 => k_asm); (case k4 => k_asm); (case k5 => k_asm); (case k6 => first | exact rfl | assumption); (case k7 => ktr_room); (case k8 => ktr_units); (case ka => k_mem); (case kb => k_mem); (case kc => k_mem); (case kd => assumption); (case ke => assumption)); (try k_sweep))
  k_with "subscriptTail Name Name ref int" => (k_here; k_dflt (refine' key_item ?k1 ?k2 ?k3 ?k4 ?_; (case k1 => k_asm); (case k2 => k_mem); (case k3 => assumption); (case k4 => assumption)))
  k_with "subscriptTail Name Name ref int" => (k_here; k_dflt (refine' key_itemE ?k1 ?k2 ?k3 ?k4 ?_; (case k1 => k_asm); (case k2 => k_mem); (case k3 => exact met_item (by assumption) (by assumption) (by assumption)); (case k4 => exact met_size (by assumption))); intro t'w9)
  k_with "binaryOp Add str str" => (k_here; (with_reducible show wpAny _ _ (binaryOp Operator.Add (Value.str _ _) (Value.str _ _)) _ _ _); k_dflt (refine' addS ?k1 ?k2 ?_; (case k1 => first | assumption | (decide +kernel) | ((try simp only [Str.length_append]); omega)); (case k2 => first | assumption | (decide +kernel) | ((try simp only [Str.length_append]); omega))); intro t'w9 k'w9)
  k_with "call ref" => (k_here; (with_reducible show wpAny _ _ (call (Value.ref 173) [Value.str _ _]) _ _ _); k_dflt (refine' con_readOk ?k1 ?k2 ?k3 ?k4 ?k5 ?kD ?kXB ?kTB ?k6 ?k7 ?ku ?k8 ?k9 ?ka ?kb ?kc ?kd ?ke ?kf ?kg (fun x'w9 dx'w9 D'w9 T'w9 o'w9 c1'w9 c2'w9 t1'w9 t2'w9 t3'w9 ta'w9 h'w9 tk'w9 F'w9 N'w9 lo'w9 ho'w9 => ?_); (case k1 => k_asm); (case k2 => k_asm); (case k3 => k_asm); (case k4 => k_asm); (case k5 => k_asm); (case kD => k_asm); (case kXB => assumption); (case kTB => assumption); (case k6 => first | exact rfl | assumption); (case k7 => ktr_room); (case ku => ktr_units); (case k8 => first | assumption | ((try simp only [Str.length_append]); omega)); (case kd => assumption); (case ka => assumption); (case kb => assumption); (case kc => assumption); (case kf => assumption); (case kg => assumption); (case ke => first | exact Or.inl rfl | exact Or.inr rfl); (case k9 => assumption)); (try k_sweep))
  k_with "call ref" => (k_here; (with_reducible show wpAny _ _ (call (Value.ref 178) [Value.ref _, Value.int _ _, Value.int _ _]) _ _ _); k_dflt (refine' con_met ?k0 ?k1 ?k2 ?k3 ?k4 ?k5 ?k6 ?k7 ?k8 ?k9 ?ka ?kb ?kc ?kd ?ke ?kf (fun b'w9 h'w9 tk'w9 hb'w9 F'w9 N'w9 => ?_); (case k0 => first | exact Or.inr rfl | exact Or.inl rfl); (case k1 => k_asm); (case k2 => k_asm); (case k3 => k_asm); (case k4 => k_asm); (case k5 => k_asm); (case k6 => first | exact rfl | assumption); (case k7 => ktr_room); (case k8 => ktr_units); (case k9 => assumption); (case ka => k_mem); (case kb => k_mem); (case kc => k_mem); (case kf => assumption); (case kd => k_mem); (case ke => assumption)); (first | (cases hb'w9.symm.trans (holds_in (by omega) (by omega) (by omega))) | (cases hb'w9.symm.trans (holds_out (by omega)))); (try k_sweep))
  trivial
end Ex3122
-- M20body.txt

section Ex3185
example : True := by
  k_with "call ref" => (k_here; (with_reducible show wpAny _ _ (call (Value.ref 178) [Value.ref _, Value.int _ _, Value.int _ _]) _ _ _); k_dflt (refine' con_met ?k0 ?k1 ?k2 ?k3 ?k4 ?k5 ?k6 ?k7 ?k8 ?k9 ?ka ?kb ?kc ?kd ?ke ?kf (fun b'w9 h'w9 tk'w9 hb'w9 F'w9 N'w9 => ?_); (case k0 => exact Or.inl rfl); (case k1 => k_asm); (case k2 => k_asm); (case k3 => k_asm); (case k4 => k_asm); (case k5 => k_asm); (case k6 => first | exact rfl | assumption); (case k7 => ktr_room); (case k8 => ktr_units); (case k9 => assumption); (case ka => k_mem); (case kb => k_mem); (case kc => k_mem); (case kf => assumption); (case kd => k_mem); (case ke => assumption)); (first | (cases hb'w9.symm.trans (holds_absent rfl)) | (cases hb'w9.symm.trans holds_same) | (cases hb'w9)); (try k_sweep))
  k_with "binaryOp Mod str int" => (k_here; (with_reducible show wpAny _ _ (binaryOp Operator.Mod (Value.str _ _) (Value.int _ _)) _ _ _); k_dflt (refine' hex_mod ?k1 ?_; (case k1 => assumption)); intro t'w9 k'w9)
  trivial
section
variable {prog : Program} {w : World} {dp un : Nat} {gd : Option (List Code)} {cn : Str} {cs : Scope} {a : Addr} {ccd : Value} {outer : List Env} {A₀ : Around} {base h₀ : Heap} {L : Addr} {m : Str → Option Value} {news : List (Addr × Obj)} {s : Shared}
    {E : Value → Shared → Prop} {p : Program} {loose : List Str} {mean : ExcName → Option Value} {mg mb : Str → Option Value}
set_option maxHeartbeats 8000000 in
theorem maskN {Q : Value → Shared → Prop} {nm : Str} {ti tn tb tv tm : Tok} {i bt : Nat} {v k : Nat}
    (B : Below A₀ base outer h₀) (F : Fr h₀ L s.heap m) (X : (Mine.hd.heap_1 w.params).In h₀) (N : News h₀ L s.heap news) (T : Top p loose mean mg mb h₀) (D : KtsDicts (outer.filterMap (·.frame)) h₀) (XB : (Mine.hd.heap_1 w.params).In base) (TB : Top p loose mean mg mb base) (hk : cs.kind = .function)
    (hd : dp + 15 < recursionLimit) (hu : un + 600 < cLine) (hi : fieldNames[i]? = some nm) (hb : fieldBits[i]? = some bt) (hbt : bt ≤ 48) (hb3 : 3 ≤ bt) (h1 : v < 2 ^ bt) (h2 : k < 2 ^ bt)
    (hret : ∀ h' tk', Fr h₀ L h' m → News h₀ L h' news → Q (.bool true) { s with heap := h', toks := tk' }) :
    wpAny (model prog w) (ktrTop dp un gd cn cs L a ccd [] outer) (call (.ref 199) [.int (i : Int) ti, .str nm tn, .int (bt : Int) tb, .int (v : Int) tv, .int (k : Int) tm]) Q E s := by
  have hi10 : i < 10 := (List.getElem?_eq_some_iff.mp hi).1
  have hnl : nm.length ≤ 20 := (name_signs hi).2.1
  have hv48 := two_pow_le hbt h1
  have hk48 := two_pow_le hbt h2
  have hvk : (v &&& k : Nat) ≤ v := Nat.and_le_left
  have g1 : HexOk (Builtin.bitAnd (v : Int) (k : Int)) := by rw [and_nat]; exact ⟨by omega, by omega⟩
  have g2 : HexOk (k : Int) := ⟨by omega, by omega⟩
  have n1 : (Builtin.bitAnd (v : Int) (k : Int)).natAbs = (v &&& k : Nat) := by rw [and_nat]; omega
  have hW := words_mask (v := (Builtin.bitAnd (v : Int) (k : Int)).natAbs) (k := (k : Int).natAbs) hi
  have hV : wishOf (txt (wsM (Builtin.bitAnd (v : Int) (k : Int)).natAbs (k : Int).natAbs)) = some (Str.ofString "mask", Builtin.bitAnd (v : Int) (k : Int), (k : Int)) := by
    rw [wsM_wish (by rw [n1]; omega) (by omega), n1, and_nat]
    rfl
  have hF : fits bt (Str.ofString "mask") (Builtin.bitAnd (v : Int) (k : Int)) (k : Int) = true := fits_mask h2
  have l1 : (txt (digs 16 (Builtin.bitAnd (v : Int) (k : Int)).natAbs)).length ≤ 20 := by rw [txt_len]; exact digs_len (by decide) (by decide) (by rw [n1]; omega)
  have l2 : (txt (digs 16 (k : Int).natAbs)).length ≤ 20 := by rw [txt_len]; exact digs_len (by decide) (by decide) (by omega)
  have l3 : (txt (wsM (Builtin.bitAnd (v : Int) (k : Int)).natAbs (k : Int).natAbs)).length ≤ 1000 := by
    rw [txt_len] at l1 l2
    rw [txt_len]; unfold wsM
    simp only [List.length_cons, List.length_append]; omega
  have z1 : (Str.ofString "let ").length ≤ 5 := by decide +kernel
  have z2 : (Str.ofString " ").length ≤ 5 := by decide +kernel
  have z3 : (Str.ofString "/").length ≤ 5 := by decide +kernel
  have q1 : 0 ≤ ((bt : Int)).fdiv 2 := by rw [Int.fdiv_eq_ediv_of_nonneg _ (by decide)]; omega
  have q2 : ((bt : Int)).fdiv 2 ≤ 48 := by rw [Int.fdiv_eq_ediv_of_nonneg _ (by decide)]; omega
  clear hvk n1 hv48 hk48
  have N0 : True → News h₀ L s.heap news := fun _ => N
  k_dflt cell_enter
  clear N
  k_steps
  all_goals first
    | (rename News s.heap _ _ _ => zN
       exact hret _ _ (ctr_fr F (by assumption)) (fun q hq => ctr_news F (N0 trivial) (by assumption) zN q (List.mem_append_right _ hq)))
    | (exfalso
       rename (_ != _) = true => hz
       rw [holds_turn, bne_self_eq_false] at hz
       cases hz)
    | w_report
end

example : True := by
  k_with_none
  k_with "ite" => (k_here; (with_reducible show (if (!_) = true then _ else _)); (with_reducible refine' ite_no ?itb ?_); (case itb => k_dflt decide))
  k_with "w k_in" => (refine' Frag.In.keeps ?xa (Fr.keep ?xb); (case xb => with_reducible assumption); (case xa => with_reducible assumption))
  k_with "w k_all" => first | exact allNe (by assumption) | exact allNe (allLt_le (by assumption) (by (try dsimp only); omega))
  k_with "w k_room" => ktr_room
  k_with "w ktr_enter" => (refine' code_def ?k1 ?k2 ?k3 ?k4 ?k5 ?kA ?kF ?kK ?k6 ?k7 ?k8 ?k9 ?kB ?_ ?c2 ?c3 ?c4 ?c5; (case kA => exact rfl); (case kF => exact rfl); (case kK => first | exact rfl | assumption); (case k1 => k_asm); (case k2 => k_asm); (case k3 => k_asm); (case k4 => k_asm); (case k5 => k_asm); (case k6 => k_is); (case k7 => k_is); (case k8 => ktr_room); (case k9 => first | exact BindsTo.of_eq rfl | exact binds_K (by k_in) rfl (by k_is) rfl rfl rfl | fail "ktr_enter: no rule for these arguments"); (case c5 => decide); (case kB => exact locs rfl); (case c2 => exact rfl); (case c3 => exact rfl); (case c4 => exact rfl); k_whole; intro g'w9 L'w9 h'w9 FG'w9 F'w9 N'w9 B'w9 X'w9 T'w9; (try dsimp only); (try k_lift B'w9); (try k_fold))
  k_with "getMethod type:Exception" => (k_here; refine' method_type ?F ?X ?m (by decide +kernel) ?e ?h ?_; (case F => k_asm); (case X => k_asm); (case m => exact meta_Exception); (case e => k_dflt k_is); (case h => k_handed))
  k_with "call builtin:Exception.__init__" => (k_here; k_dflt (refine' se_bInit ?k1 ?k2 ?k3 ?k4 ?k5 ?k6 ?k7 ?_; (case k1 => k_asm); (case k2 => k_asm); (case k3 => k_asm); (case k4 => k_mem); (case k5 => k_is); (case k6 => decide); (case k7 => intro t'w9; k_upd)); intro t'w9 h'w9 F'w9 N'w9 l1w9; (try k_lt l1w9); (try k_sweep))
  k_with "setAttr ref" => (k_here; k_dflt (refine' se_set1 ?k1 ?k2 ?k3 ?k4 ?k5 ?k6 ?k7 ?k8 ?k9 ?k10 ?k11 ?_; (case k1 => k_asm); (case k2 => k_asm); (case k3 => k_asm); (case k4 => k_mem); (case k5 => k_is); (case k6 => rfl); (case k7 => k_is); (case k8 => exact se_pass); (case k9 => k_is); (case k10 => k_is); (case k11 => intro t'w9; k_upd)); intro t'w9 h'w9 F'w9 N'w9 l1w9; (try k_lt l1w9); (try k_sweep))
  k_with "setAttr ref" => (k_here; k_dflt (refine' se_set2 ?k1 ?k2 ?k3 ?k4 ?kd ?k5 ?k6 ?k7 ?k8 ?k9 ?k10 ?k11 ?k12 ?k13 ?k14 ?_; (case k1 => k_asm); (case k2 => k_asm); (case k3 => k_asm); (case k4 => k_mem); (case kd => k_mem); (case k5 => k_is); (case k6 => rfl); (case k7 => k_is); (case k8 => exact se_pass); (case k9 => k_is); (case k10 => k_is); (case k11 => k_get); (case k12 => k_put); (case k13 => k_upd); (case k14 => exact Nat.le_of_ble_eq_true rfl)); intro h'w9 F'w9 N'w9; (try k_sweep))
  k_with "exec Raise some none" => (k_here; k_dflt (refine' se_Raise ?h ?_; (case h => exact rfl)))
  k_with "call ref" => (k_here; (with_reducible show wpAny _ _ (call (Value.ref 54) [Value.str _ _]) _ _ _); k_dflt (refine' se_make ?k1 ?k2 ?k3 ?k4 ?k5 ?k6 ?k7 ?_; (case k1 => k_asm); (case k2 => k_asm); (case k3 => k_asm); (case k4 => k_asm); (case k5 => k_asm); (case k6 => first | exact rfl | assumption); (case k7 => ktr_room)); intro e'w9 t'w9 d'w9 h'w9 tk'w9 F'w9 N'w9 l1w9 l2w9; (replace l1w9 := allLt_of l1w9); (have l1bw9 := l1w9); (try simp only [AllLt, and_true] at l1bw9); (try k_lt2 l2w9); (try k_sweep))
  k_with "SeRaised" => (refine' ⟨_, _, _, rfl, ?X, ?m, ?_⟩; (case X => k_in); (case m => exact News.get (by k_asm) (by k_mem)))
  k_with "leaving ref" => (k_here; k_dflt (refine' se_leave ?k1 ?k2 ?k3 ?k4 ?k5 ?_; (case k2 => k_asm); (case k1 => k_asm); (case k3 => k_asm); (case k4 => first | assumption | (simp only [AllLt, and_true]; omega)); (case k5 => omega)); intro h'w9 R'w9 R2'w9 U'w9; (try dsimp only at R'w9 R2'w9 U'w9 ⊢))
  k_with "call ref" => (k_here; (with_reducible show wpAny _ _ (call (Value.ref 117) [Value.str _ _, Value.str _ _]) _ _ _); k_dflt (refine' con_figs ?k1 ?k2 ?k3 ?k4 ?k5 ?k6 ?k7 ?k8 ?k9 (fun f'w9 t'w9 h'w9 tk'w9 hf'w9 F'w9 N'w9 => ?_) (fun hE'w9 g'w9 e'w9 t'w9 vs'w9 h'w9 tk'w9 G'w9 B'w9 R'w9 U'w9 => ?_); (case k1 => k_asm); (case k2 => k_asm); (case k3 => k_asm); (case k4 => k_asm); (case k5 => k_asm); (case k6 => first | exact rfl | assumption); (case k7 => ktr_room); (case k8 => first | assumption | decide); (case k9 => decide)); all_goals (try k_sweep))
  k_with "w k_upd" => first | (refine' Drop.head ?a; (case a => k_all)) | (refine' Drop.tail ?a ?b; (case a => k_ne); (case b => k_upd))
  k_with "exec For Tuple Tuple cons nil" => (k_here; k_dflt (refine' for_enter ?_ ?hs; (case hs => intro _; exact rfl)))
  k_with "exec For Name Call cons nil" => (k_here; k_dflt (refine' for_enter ?_ ?hs; (case hs => intro _; exact rfl)))
  k_with "pyIter ref" => (k_here; (with_reducible show wpAny _ _ (pyIter (Value.ref _)) (ForAt _ _ _ _ _ _ _ _) _ _); k_dflt (first | (refine' iter_tuple_K ?k1 ?k2 ?k3 ?_; (case k1 => k_asm); (case k2 => k_asm); (case k3 => k_mem)) | (refine' iter_list_K ?k1 ?k2 ?k3 ?_; (case k1 => k_asm); (case k2 => k_asm); (case k3 => k_mem)) | (refine' iter_range_K ?k1 ?k2 ?k3 ?k4 ?_; (case k1 => k_asm); (case k2 => k_asm); (case k3 => assumption); (case k4 => decide))); intro I'w9 h'w9 F'w9 N'w9 l1w9; (try k_lt l1w9); (try k_sweep))
  k_with "ForAt" => (refine ⟨_, rfl, ?_⟩)
  k_with "ForGo" => (refine for_turn (by passes_own) ?_)
  k_with "pyNext ref" => (k_here; k_dflt (first | (refine' next_tuple_K ?k1 ?k2 ?k3 ?k4 ?k5 ?k6 ?_; (case k1 => k_asm); (case k2 => k_asm); (case k3 => k_mem); (case k4 => k_mem); (case k5 => exact rfl); (case k6 => intro d'w9 sl'w9; k_upd); intro d'w9 sl'w9 h'w9 F'w9 N'w9; (try k_sweep)) | (refine' end_tuple_K ?k0 ?k1 ?k2 ?k3 ?k4 ?k5 ?k6 ?_; (case k0 => exact rfl); (case k1 => k_asm); (case k2 => k_asm); (case k3 => k_mem); (case k4 => k_mem); (case k5 => exact rfl); (case k6 => k_upd); intro h'w9 F'w9 N'w9; (try k_sweep)) | (refine' next_list_K ?k1 ?k2 ?k3 ?k4 ?k5 ?k6 ?_; (case k1 => k_asm); (case k2 => k_asm); (case k3 => k_mem); (case k4 => k_mem); (case k5 => exact rfl); (case k6 => intro d'w9 sl'w9; k_upd); intro d'w9 sl'w9 h'w9 F'w9 N'w9; (try k_sweep)) | (refine' end_list_K ?k0 ?k1 ?k2 ?k3 ?k4 ?k5 ?k6 ?_; (case k0 => exact rfl); (case k1 => k_asm); (case k2 => k_asm); (case k3 => k_mem); (case k4 => k_mem); (case k5 => exact rfl); (case k6 => k_upd); intro h'w9 F'w9 N'w9; (try k_sweep)) | (refine' next_range_K ?k1 ?k2 ?k3 ?k4 ?k5 ?_; (case k1 => k_asm); (case k2 => k_asm); (case k3 => k_mem); (case k4 => decide); (case k5 => k_upd); intro h'w9 F'w9 N'w9; (try k_sweep)) | (refine' end_range_K ?k0 ?k1 ?k2 ?k3 ?k4 ?k5 ?_; (case k0 => exact rfl); (case k1 => k_asm); (case k2 => k_asm); (case k3 => k_mem); (case k4 => decide); (case k5 => k_upd); intro h'w9 F'w9 N'w9; (try k_sweep))))
  k_with "ForNext" => (dsimp only [ForNext])
  k_with "ForBody" => (dsimp only [ForBody])
  k_with "letOwnedTupleGo" => (k_here; k_dflt (first | (refine' let_name_K ?_; k_whole) | (refine' let_iter_K ?k1 ?k2 ?k3 ?_; (case k1 => k_asm); (case k2 => k_mem); (case k3 => decide))))
  k_with "call builtin:str.split" => (k_here; (with_reducible show wpAny _ _ (call (Value.builtin "str.split") [Value.str _ _, Value.str _ _]) _ _ _); k_dflt (refine' KSpl.split1 ?k1 ?k2 ?k3 ?_ ?k4; (case k1 => k_asm); (case k2 => k_asm); (case k3 => decide); (case k4 => exact line_of_le (by assumption))); intro D'w9 l'w9 h'w9 k'w9 e'w9 a'w9 F'w9 N'w9 l1w9; (try k_lt l1w9); first | ((replace e'w9 := e'w9.trans (by assumption)); (kspl_open e'w9); (simp only [strValues, List.map_cons, List.map_nil] at N'w9 a'w9); (try k_sweep)) | ((have hlen'w9 := split_ne e'w9 (by assumption)); (try k_sweep)))
  k_with "leaving ref" => (k_here; k_dflt (refine' leave_onS ?k1 ?k2 ?k3 ?k4 ?_; (case k3 => assumption); (case k2 => assumption); (case k1 => assumption); (case k4 => assumption)); intro h'w9 S'w9 R'w9 U'w9; (try dsimp only at S'w9 R'w9 U'w9 ⊢))
  k_with "call ref" => (k_here; (with_reducible show wpAny _ _ (call (Value.ref 124) [Value.str _ _]) _ _ _); k_dflt (refine' con_wish ?k1 ?k2 ?k3 ?k4 ?k5 ?k6 ?k7 ?k8 ?k9 ?k10 (fun wd'w9 f1'w9 f2'w9 t1'w9 t2'w9 t3'w9 D'w9 h'w9 tk'w9 hf'w9 F'w9 N'w9 l1w9 => ?_) (fun hE'w9 g'w9 e'w9 t'w9 vs'w9 h'w9 tk'w9 G'w9 B'w9 R'w9 U'w9 => ?_); (case k1 => k_asm); (case k2 => k_asm); (case k3 => k_asm); (case k4 => k_asm); (case k5 => k_asm); (case k6 => first | exact rfl | assumption); (case k7 => ktr_room); (case k8 => assumption); (case k9 => assumption); (case k10 => assumption)); all_goals (try simp only [AllLt, and_true] at l1w9); all_goals (try k_sweep))
  k_with "compareOp In ref ref" => (k_here; k_dflt (refine' in_two ?k1 ?k2 ?k3 ?k4 ?k5 ?k6 ?k7 ?k8 ?k9 ?k10 ?k11 ?_; (case k1 => exact isTup_of (by k_asm) (by k_mem)); (case k4 => ked_read); (case k5 => ked_read); (case k6 => ked_read); (case k2 => k_ne); (case k3 => k_ne); (case k7 => first | assumption | decide +kernel | ked_shaped); (case k8 => first | decide +kernel | ked_shaped); (case k9 => first | decide +kernel | ked_shaped); (case k10 => ktr_units); (case k11 => first | assumption | decide +kernel | rfl)))
  k_with "call builtin:str.split" => (k_here; (with_reducible show wpAny _ _ (call (Value.builtin "str.split") [Value.str _ _]) _ _ _); k_dflt (refine' KSpl.split0 ?k1 ?k2 ?_ ?k4; (case k1 => k_asm); (case k2 => k_asm); (case k4 => exact line_of_le (by assumption))); intro D'w9 l'w9 h'w9 k'w9 e'w9 a'w9 F'w9 N'w9 l1w9; (try k_lt l1w9); (replace e'w9 := e'w9.trans (by assumption)); (kspl_open e'w9); (simp only [strValues, List.map_cons, List.map_nil] at N'w9 a'w9); (try k_sweep))
  k_with "compareOp NotIn str ref" => (k_here; k_dflt (refine' notin_names ?X ?h ?_; (case X => k_in); (case h => assumption)))
  k_with "call builtin:tuple.index" => (k_here; k_dflt (refine' index_names ?X ?h ?_; (case X => k_in); (case h => assumption)))
  k_with "getMethod ref" => (k_here; k_dflt (refine' meth_names ?X ?_; (case X => k_in)))
  k_with "call ref" => (k_here; (with_reducible show wpAny _ _ (call (Value.ref 124) [Value.str _ _]) _ _ _); k_dflt (refine' con_wishOk ?k0 ?k1 ?k2 ?k3 ?k4 ?k5 ?k6 ?k7 ?k8 ?k9 ?k10 (fun t1'w9 t2'w9 t3'w9 D'w9 h'w9 tk'w9 F'w9 N'w9 l1w9 => ?_); (case k0 => assumption); (case k1 => k_asm); (case k2 => k_asm); (case k3 => k_asm); (case k4 => k_asm); (case k5 => k_asm); (case k6 => first | exact rfl | assumption); (case k7 => ktr_room); (case k8 => assumption); (case k9 => assumption); (case k10 => assumption)); (try simp only [AllLt, and_true] at l1w9); (try k_sweep))
  k_with "w cell_enter" => (refine' ctr_enter ?k1 ?k2 ?k3 ?k4 ?k5 ?kA ?kK ?k6 ?k7 ?k8 ?k9 ?kB ?_ ?c2 ?c3 ?c4 ?c5; (case kA => exact rfl); (case kK => first | exact rfl | assumption); (case k2 => k_asm); (case k1 => k_asm); (case k3 => k_asm); (case k4 => k_asm); (case k5 => k_asm); (case k6 => k_is); (case k7 => k_is); (case k8 => ktr_room); (case k9 => first | exact BindsTo.of_eq rfl | exact binds_K (by k_in) rfl (by k_is) rfl rfl rfl | fail "ctr_enter: no rule for these arguments"); (case c5 => decide); (case kB => exact locs rfl); (case c2 => exact rfl); (case c3 => exact rfl); (case c4 => exact rfl); k_whole; intro L'w9 h'w9 F'w9 N'w9 B'w9 X'w9 T'w9 D'w9; (try dsimp only); (try k_lift B'w9); (try k_fold))
  k_with "call builtin:sorted" => (k_here; (with_reducible show wpAny _ _ (call (Value.builtin "sorted") [Value.ref _]) _ _ _); k_dflt (refine' sorted_one ?k0 ?k1 ?k2 ?k3 ?k4 ?k5 ?_; (case k0 => exact rfl); (case k1 => k_asm); (case k2 => k_asm); (case k3 => k_mem); (case k4 => assumption); (case k5 => assumption)); intro B'w9 t'w9 h'w9 tk'w9 F'w9 N'w9 l1w9; (try k_lt l1w9); (try k_sweep))
  k_with "subscriptTail Name Name ref int" => (k_here; k_dflt (refine' kda_item (knd := PySem.intKind _ _) ?k1 ?k2 ?k3 ?k4 ?k5 ?_; (case k1 => k_asm); (case k2 => k_mem); (case k3 => k_asm); (case k4 => exact intKind_is _ _ _ _); (case k5 => exact valueAt_one)))
  k_with "subscriptTail Name Name ref int" => (k_here; (with_reducible show wpAny _ _ (subscriptTail _ _ (Value.ref 16) (Value.int _ _)) _ _ _); k_dflt (refine' bits_item ?X ?h ?_; (case X => k_in); (case h => assumption)); intro t'w9)
  k_with "testChain" => first | with_reducible refine test_link ?_ | with_reducible refine test_last ?_ | refine test_link ?_
  k_with "call ref" => (k_here; (with_reducible show wpAny _ _ (call (Value.ref 70) [Value.ref _, Value.int _ _]) _ _ _); k_dflt (refine' con_check ?k0 ?k1 ?k2 ?k3 ?k4 ?k5 ?k6 ?k7 ?k8 ?k9 (fun hf'w9 h'w9 tk'w9 F'w9 N'w9 => ?_) (fun hE'w9 g'w9 e'w9 t'w9 vs'w9 h'w9 tk'w9 G'w9 B'w9 R'w9 U'w9 => ?_); (case k0 => assumption); (case k1 => k_asm); (case k2 => k_asm); (case k3 => k_asm); (case k4 => k_asm); (case k5 => k_asm); (case k6 => first | exact rfl | assumption); (case k7 => ktr_room); (case k8 => omega); (case k9 => k_mem)); all_goals (try k_sweep))
  k_with "call type:dict" => (k_here; (with_reducible show wpAny _ _ (call (Value.type "dict") [Value.ref _]) _ _ _); k_dflt (refine' dict_one ?k1 ?k2 ?k3 ?k4 ?k5 ?k6 ?_; (case k1 => k_asm); (case k2 => k_asm); (case k3 => exact Top.nolimit (by k_asm)); (case k4 => k_mem); (case k5 => assumption); (case k6 => assumption)); intro D'w9 o'w9 h'w9 F'w9 N'w9 l1w9 lo'w9 ho'w9; (try k_lt l1w9); (try k_sweep))
  k_with "call ref" => (k_here; (with_reducible show wpAny _ _ (call (Value.ref 106) [Value.str _ _, Value.ref _]) _ _ _); k_dflt (refine' con_rule ?k1 ?k2 ?k3 ?k4 ?k5 ?k7 ?k8 ?k9 ?ka ?kb ?kc ?kd ?ke ?kf ?kg ?kh (fun hf'w9 x'w9 dx'w9 D'w9 o'w9 c1'w9 c2'w9 h'w9 tk'w9 F'w9 N'w9 l1w9 l2'w9 l3'w9 lo'w9 ho'w9 => ?_) (fun hE'w9 g'w9 e'w9 t'w9 vs'w9 h'w9 tk'w9 G'w9 B'w9 R'w9 U'w9 => ?_); (case k1 => k_asm); (case k2 => k_asm); (case k3 => k_asm); (case k4 => k_asm); (case k5 => k_asm); (case k7 => first | exact rfl | assumption); (case k8 => ktr_room); (case k9 => ktr_units); (case ka => assumption); (case kb => first | assumption | exact wishOf_wd (by assumption)); (case kc => assumption); (case kd => omega); (case ke => k_mem); (case kf => assumption); (case kh => assumption); (case kg => k_mem)); all_goals (try k_lt l1w9); all_goals (try k_sweep))
  k_with "exec For Tuple Call cons nil" => (k_here; k_dflt (refine' for_enter ?_ ?hs; (case hs => intro _; exact rfl)))
  k_with "eval ListComp" => (k_here; (with_reducible show wpAny _ _ (eval (Expr.ListComp (Expr.Tuple _ _ _) _ _ _) _) _ _ _); k_dflt (refine LCg.ListComp_U (F₀ := by k_asm) (by with_unfolding_all rfl) (by decide) (by rfl) (by decide) (by rfl) ?_); k_dflt lcg_toSrc)
  k_with "CompSrc" => (k_here; (with_reducible show LCg.CompSrc _ _ _ _ _ _ _ (Expr.Tuple _ _ _) _ _ _ _ _ _); k_dflt (refine LCg.CompSrc.ledger (by rfl) (by k_asm) (by k_asm) (by k_mem) (by first | size_fits | exact Nat.le_of_ble_eq_true rfl) ?_; intro g'w9; lcg_lit))
  k_with "getItem ref int" => (k_here; k_dflt (refine' kda_get (knd := PySem.intKind _ _) ?k1 ?k2 ?k3 ?k4 ?k5 ?_; (case k1 => k_asm); (case k2 => k_mem); (case k3 => k_asm); (case k4 => exact intKind_is _ _ _ _); (case k5 => exact valueAt_one)))
  k_with "call ref" => (k_here; (try dsimp only [List.cons_append, List.nil_append]); (with_reducible show wpAny _ _ (call (Value.ref 89) [Value.ref _]) _ _ _); k_dflt (refine' con_rows ?k1 ?k2 ?k3 ?k4 ?k5 ?k6 ?k7 ?k8 ?ka ?kb ?kc ?kd ?ke (fun L'w9 D'w9 t'w9 h'w9 tk'w9 F'w9 N'w9 => ?_); (case k1 => k_asm); (case k2 => k_asm); (case k3 => k_asm); (case k4 => k_asm); (case k5 => k_asm); (case k6 => first | exact rfl | assumption); (case k7 => ktr_room); (case k8 => ktr_units); (case ka => k_mem); (case kb => k_mem); (case kc => k_mem); (case kd => assumption); (case ke => assumption)); (try k_sweep))
  k_with "subscriptTail Name Name ref int" => (k_here; k_dflt (refine' key_item ?k1 ?k2 ?k3 ?k4 ?_; (case k1 => k_asm); (case k2 => k_mem); (case k3 => assumption); (case k4 => assumption)))
  k_with "subscriptTail Name Name ref int" => (k_here; k_dflt (refine' key_itemE ?k1 ?k2 ?k3 ?k4 ?_; (case k1 => k_asm); (case k2 => k_mem); (case k3 => exact met_item (by assumption) (by assumption) (by assumption)); (case k4 => exact met_size (by assumption))); intro t'w9)
  k_with "binaryOp Add str str" => (k_here; (with_reducible show wpAny _ _ (binaryOp Operator.Add (Value.str _ _) (Value.str _ _)) _ _ _); k_dflt (refine' addS ?k1 ?k2 ?_; (case k1 => first | assumption | (decide +kernel) | ((try simp only [Str.length_append]); omega)); (case k2 => first | assumption | (decide +kernel) | ((try simp only [Str.length_append]); omega))); intro t'w9 k'w9)
  k_with "call ref" => (k_here; (with_reducible show wpAny _ _ (call (Value.ref 173) [Value.str _ _]) _ _ _); k_dflt (refine' con_readOk ?k1 ?k2 ?k3 ?k4 ?k5 ?kD ?kXB ?kTB ?k6 ?k7 ?ku ?k8 ?k9 ?ka ?kb ?kc ?kd ?ke ?kf ?kg (fun x'w9 dx'w9 D'w9 T'w9 o'w9 c1'w9 c2'w9 t1'w9 t2'w9 t3'w9 ta'w9 h'w9 tk'w9 F'w9 N'w9 lo'w9 ho'w9 => ?_); (case k1 => k_asm); (case k2 => k_asm); (case k3 => k_asm); (case k4 => k_asm); (case k5 => k_asm); (case kD => k_asm); (case kXB => assumption); (case kTB => assumption); (case k6 => first | exact rfl | assumption); (case k7 => ktr_room); (case ku => ktr_units); (case k8 => first | assumption | ((try simp only [Str.length_append]); omega)); (case kd => assumption); (case ka => assumption); (case kb => assumption); (case kc => assumption); (case kf => assumption); (case kg => assumption); (case ke => first | exact Or.inl rfl | exact Or.inr rfl); (case k9 => assumption)); (try k_sweep))
  k_with "call ref" => (k_here; (with_reducible show wpAny _ _ (call (Value.ref 178) [Value.ref _, Value.int _ _, Value.int _ _]) _ _ _); k_dflt (refine' con_met ?k0 ?k1 ?k2 ?k3 ?k4 ?k5 ?k6 ?k7 ?k8 ?k9 ?ka ?kb ?kc ?kd ?ke ?kf (fun b'w9 h'w9 tk'w9 hb'w9 F'w9 N'w9 => ?_); (case k0 => first | exact Or.inr rfl | exact Or.inl rfl); (case k1 => k_asm); (case k2 => k_asm); (case k3 => k_asm); (case k4 => k_asm); (case k5 => k_asm); (case k6 => first | exact rfl | assumption); (case k7 => ktr_room); (case k8 => ktr_units); (case k9 => assumption); (case ka => k_mem); (case kb => k_mem); (case kc => k_mem); (case kf => assumption); (case kd => k_mem); (case ke => assumption)); (first | (cases hb'w9.symm.trans (holds_in (by omega) (by omega) (by omega))) | (cases hb'w9.symm.trans (holds_out (by omega)))); (try k_sweep))
  trivial
end Ex3185
-- M23body.txt
/-- a text of a wish that is refused -/
def NoneAt (nm : Str) (bt : Nat) (ws : Str) : Prop :=
  (Txt.words (Str.ofString "let " ++ nm ++ Str.ofString " " ++ ws) = [Str.ofString "let", nm, ws] ∧ ∀ wd f1 f2, wishOf ws = some (wd, f1, f2) → fits bt wd f1 f2 = false) ∨ Txt.words (Str.ofString "let " ++ nm ++ Str.ofString " " ++ ws) = [Str.ofString "let", nm]
section
variable {prog : Program} {w : World} {dp un : Nat} {gd : Option (List Code)} {cn : Str} {cs : Scope} {a : Addr} {ccd : Value} {outer : List Env} {A₀ : Around} {base h₀ : Heap} {L : Addr} {m : Str → Option Value} {news : List (Addr × Obj)} {s : Shared}
    {E : Value → Shared → Prop} {p : Program} {loose : List Str} {mean : ExcName → Option Value} {mg mb : Str → Option Value}
theorem con_noneX {cl : List (Str × Addr)} {Q : Value → Shared → Prop} {nm ws : Str} {tx : Tok} {i bt : Nat}
    (B : Below A₀ base outer h₀) (F : Fr h₀ L s.heap m) (X : (Mine.hd.heap_1 w.params).In h₀) (N : News h₀ L s.heap news) (T : Top p loose mean mg mb h₀) (D : KtsDicts (outer.filterMap (·.frame)) h₀) (XB : (Mine.hd.heap_1 w.params).In base) (TB : Top p loose mean mg mb base) (hk : cs.kind = .function)
    (hd : dp + 12 < recursionLimit) (hu : un + 300 < cLine) (hws : ws.length ≤ 100)
    (hi : fieldNames[i]? = some nm) (hb : fieldBits[i]? = some bt) (hn : NoneAt nm bt ws)
    (hnone : TurnedTo A₀ base outer (Mine.hd.heap_1 w.params) p loose mean mg mb h₀ L m news s .none Q) :
    wpAny (model prog w) (ktrTop dp un gd cn cs L a ccd cl outer) (call (.ref 173) [.str (Str.ofString "let " ++ nm ++ Str.ofString " " ++ ws) tx]) Q E s := by
  have hnl := (name_signs hi).2.1
  have z1 : (Str.ofString "let ").length ≤ 5 := by decide +kernel
  have z2 : (Str.ofString " ").length ≤ 5 := by decide +kernel
  have hx : (Str.ofString "let " ++ nm ++ Str.ofString " " ++ ws).length ≤ 1000 := by simp only [Str.length_append]; omega
  rcases hn with ⟨hw, hf⟩ | hw
  · exact con_readX B F X N T D XB TB hk hd hu hx (by omega) (fun p hp => Nat.le_trans (part_short hp) (by omega)) (fun p hp => Nat.le_trans (part_short hp) (by omega)) hi hb (bits_le hb).1 hw (.inl rfl)
      (fun wd' f1' f2' e g => by
        have := hf _ _ _ e
        rw [this] at g
        cases g)
      fun _ => hnone
  · exact con_oddX B F X N T D XB TB hk hd hu hx hw (.inl rfl) hnone
end
section
variable {prog : Program} {w : World} {A₀ A : Around} {s : Shared} {base h₀ : Heap} {outer : List Env} {L a : Addr} {m : Str → Option Value} {cn : Str} {cs : Scope} {ccd : Value} {K : Frag} {p : Program} {loose : List Str} {mean : ExcName → Option Value} {mg mb : Str → Option Value}
    {R : Result → Shared → Prop} {name qual : Str} {params : Arguments} {body : List Stmt} {scope : Scope} {dV kV doc pm cdv ct oc : Value} {an od : Option Addr} {osl : Array (Option Value)} {f : Addr} {args : Args} {binds : List (Str × Value)}
/-- a def with cells is entered over the whole heap -/
theorem ctr_enterC (B : Below A₀ base outer h₀) (F : Fr h₀ L s.heap m) (X₀ : K.In h₀) (D : KtsDicts (outer.filterMap (·.frame)) h₀) (T : Top p loose mean mg mb h₀) (hA : A.frames = some (envOf cn cs L a ccd :: outer)) (hck : cs.kind = .function)
    (ho : K.lookup f = some ⟨oc, od, .func (fnOf name qual params body scope dV kV doc pm an cdv ct), osl⟩) (hcd : codeIn K cdv qual = true) (hroom : A.depth < recursionLimit)
    (hbind : BindsTo s (fnOf name qual params body scope dV kV doc pm an cdv ct) args binds) (hkind : (binds.all fun y => scope.names.lookup y.1 == some .local || scope.names.lookup y.1 == some .cell) = true)
    (hnd : ((cellsFrom 0 scope.names []).map (·.1)).Nodup)
    (h : ∀ L' h₁ tk cells, Fr s.heap L' h₁ (bindL (envOfC qual scope L' f cdv).kindOf binds fun _ => none) → News s.heap L' h₁ cells →
      CellsAre (bindC (envOfC qual scope L' f cdv).kindOf binds fun _ => none) (cellsFrom (L' + 1) scope.names []) cells → Below A base (envOf cn cs L a ccd :: outer) s.heap → K.In s.heap → Top p loose mean mg mb s.heap → KtsDicts ((envOf cn cs L a ccd :: outer).filterMap (·.frame)) s.heap →
      wpAny (model prog w) (A.deeper (envOfC qual scope L' f cdv)) (execs body (envOfC qual scope L' f cdv))
        (fun fl s' => R (.ok (.ret (match fl with | .ret v => v | _ => .none))) s')
        (fun e s' => wpAny (model prog w) (A.deeper (envOfC qual scope L' f cdv)) (leaving (envOfC qual scope L' f cdv) e) (fun _ s'' => R (.error e) s'') (fun e' s'' => R (.error e') s'') s')
        { s with heap := h₁, toks := tk })
    (hco : scope.isCoroutine = false) (hgen : scope.isGenerator = false) (hk : scope.kind = .function) : codeAny (model prog w) A (.call (.ref f) args) R s := by
  have X := X₀.keeps F.keep
  refine codeAny_call_function hroom (X _ _ ho) rfl hco hgen rfl (codeRec_of X hcd) (hbind _ _ _ _ ?_)
  refine wpAny_newFunctionEnv_cells hk (kindsX hkind _) fun env' he s' x => ?_
  subst he
  refine ⟨(T.nolimit.keeps F.keep).keeps x.toInCall.keep, codeAny_func ?_⟩
  obtain ⟨h₁, tk, rfl, _⟩ := x.done
  have hk₁ := x.toInCall.keep
  obtain ⟨cells, NC, Y⟩ := Cl.news (h₀ := s.heap) (Nat.le_refl _) fun n c hm => ⟨x.cell n c (lookup_of_mem_nodup (cellsFrom_names scope.names 0 (s.heap.objs.size + 1) [] [] rfl ▸ hnd) hm), x.above n c hm⟩
  obtain ⟨oL, es, ep, hLg, hLd, hN, hNs, st, B₂⟩ := kts_enter B F (News.nil (h₀ := h₀) (L := L)) hA hck
  exact h s.heap.objs.size h₁ tk cells ⟨x.toInCall.ns, fun b o e => hk₁ b o e, Nat.le_refl _⟩ NC Y B₂ X (T.keeps F.keep) (fun b hb => by
    rcases kts_mem hb with rfl | hb
    · exact ⟨oL, es, ep, hLg, hLd⟩
    · obtain ⟨o, es', n', ho', hd'⟩ := D b hb
      exact ⟨o, es', n', F.keep b o ho', hd'⟩)
end
theorem linv_ne {w : World} {A₀ : Around} {base h₀ kg h h₁ : Heap} {outer : List Env} {p : Program} {loose : List Str} {mean : ExcName → Option Value} {mg mb : Str → Option Value} {L L₁ LD : Addr} {m : Str → Option Value} {o : Obj} {r news : List (Addr × Obj)}
    (J : LInv w A₀ base outer p loose mean mg mb h₀ L m kg h ((LD, o) :: r)) (N : News h₁ L₁ h₀ news) : AllNe LD news := allNe_of fun q hq e => by
  have z1 := (J.news _ (.head _)).2.2
  obtain ⟨sl, z2⟩ := J.turn.up (N q hq).1
  rw [e] at z2
  exact absurd (z2.symm.trans z1) (by simp)

section Ex3300
example : True := by
  k_with "call ref" => (k_here; (with_reducible show wpAny _ _ (call (Value.ref 173) [Value.str _ _]) _ _ _); k_dflt (refine' con_noneX ?k1 ?k2 ?k3 ?k4 ?k5 ?kD ?kXB ?kTB ?k6 ?k7 ?ku ?k8 ?k9 ?ka ?kb (fun kg'w9 h'w9 tk'w9 T1'w9 F'w9 N'w9 B'w9 X'w9 P'w9 D'w9 => ?_); (case k1 => k_asm); (case k2 => k_asm); (case k3 => k_asm); (case k4 => k_asm); (case k5 => k_asm); (case kD => k_asm); (case kXB => assumption); (case kTB => assumption); (case k6 => first | exact rfl | assumption); (case k7 => ktr_room); (case ku => ktr_units); (case k9 => assumption); (case ka => assumption); (case kb => assumption); (case k8 => assumption)); (try k_sweep))
  k_with "eval ListComp" => (k_here; (with_reducible show wpAny _ _ (eval (Expr.ListComp (Expr.Name _ _) _ _ _) _) _ _ _); k_dflt (refine' comp_none ?c0 ?c1 ?c2 ?c3 ?c4 ?c5 ?c6 ?c7 ?c8 ?cf ?c9 ?ci ?cR (fun j'w9 ws'w9 t'w9 I'w9 C'w9 D'w9 oC'w9 m'w9 d'w9 sl'w9 kg'w9 h'w9 tk'w9 E'w9 hR'w9 hoC'w9 hm'w9 ho'w9 n1'w9 n2'w9 n3'w9 J'w9 => ?ct) (fun D'w9 kg'w9 h'w9 tk'w9 J'w9 => ?cq); (case cR => assumption); (case c0 => rfl); (case c1 => with_unfolding_all rfl); (case c2 => decide); (case c3 => rfl); (case c4 => decide); (case c5 => rfl); (case c6 => intro _; rfl); (case c7 => exact ⟨KtsTurn.refl, by k_asm, by k_asm, by k_asm, by k_asm, by k_asm, by k_asm⟩); (case c8 => assumption); (case cf => assumption); (case c9 => assumption)); (rotate_left 1); (obtain ⟨hl1'w9, hl2'w9⟩ := hR'w9); (obtain ⟨T1'w9, F'w9, N'w9, B'w9, X'w9, P'w9, K'w9⟩ := J'w9); (rotate_right 1))
  trivial
section
variable {prog : Program} {w : World} {dp un : Nat} {gd : Option (List Code)} {cn : Str} {cs : Scope} {a : Addr} {ccd : Value} {outer : List Env} {A₀ : Around} {base h₀ : Heap} {L : Addr} {m : Str → Option Value} {news : List (Addr × Obj)} {s : Shared}
    {E : Value → Shared → Prop} {p : Program} {loose : List Str} {mean : ExcName → Option Value} {mg mb : Str → Option Value}
set_option maxHeartbeats 8000000 in
theorem con_let {Q : Value → Shared → Prop} {nm : Str} {tn : Tok} {i bt : Nat} {WL : Addr} {vs : Array Value} {n : Nat}
    (B : Below A₀ base outer h₀) (F : Fr h₀ L s.heap m) (X : (Mine.hd.heap_1 w.params).In h₀) (N : News h₀ L s.heap news) (T : Top p loose mean mg mb h₀) (D : KtsDicts (outer.filterMap (·.frame)) h₀) (XB : (Mine.hd.heap_1 w.params).In base) (TB : Top p loose mean mg mb base) (hk : cs.kind = .function)
    (hd : dp + 15 < recursionLimit) (hu : un + 600 < cLine) (hi : fieldNames[i]? = some nm) (hb : fieldBits[i]? = some bt) (hW : (WL, W.listOf vs n) ∈ news) (hsz : vs.size ≤ 100)
    (hws : ∀ (j : Nat) v, vs[j]? = some v → ∃ ws t, v = .str ws t ∧ (ws.length ≤ 100 ∧ NoneAt nm bt ws))
    (hret : ∀ LD, AllNe LD news → TurnedTo A₀ base outer (Mine.hd.heap_1 w.params) p loose mean mg mb h₀ L m ((LD, LCg.lst []) :: news) s (.ref LD) Q) :
    wpAny (model prog w) (ktrTop dp un gd cn cs L a ccd [] outer) (call (.ref 204) [.str nm tn, .ref WL]) Q E s := by
  have hnl := (name_signs hi).2.1
  have z1 : (Str.ofString "let ").length ≤ 5 := by decide +kernel
  have z2 : (Str.ofString " ").length ≤ 5 := by decide +kernel
  have N0 : True → News h₀ L s.heap news := fun _ => N
  have D0 : True → KtsDicts (outer.filterMap (·.frame)) h₀ := fun _ => D
  have hWs : s.heap.get? WL = some (W.listOf vs n) := (N _ hW).1
  have hWf : WL ∉ (envOf cn cs L a ccd :: outer).filterMap (·.frame) := fun hm => by
    rcases kts_mem hm with e | e
    · exact (N _ hW).2.1 e
    · obtain ⟨_, o, ho, _⟩ := B.frames.mem e
      rw [(N _ hW).2.2] at ho
      cases ho
  refine wpAny_call ?_
  refine ctr_enterC B F X D T rfl hk (by k_is) (by k_is) (by ktr_room) (BindsTo.of_eq rfl) rfl (by decide +kernel) ?_ rfl rfl rfl
  clear N
  k_whole
  intro L' h' tk' cells' F' N' Y' B' X' T' D'
  k_cells Y'
  (try simp only [List.cons_append, List.nil_append] at N')
  (try dsimp only)
  (try k_fold)
  k_steps
  all_goals first
    | (rename KtsTurn _ s.heap _ => z1
       rename KtsTurn _ _ _ => z2
       refine' ⟨z1.trans z2, ?_, ?_, ?_, ?_, ?_, ?_⟩
       all_goals assumption)
    | (rename LInv _ _ _ _ _ _ _ _ _ _ _ _ _ _ _ => zJ
       obtain ⟨kg, T1, F1, N1, B1, X1, P1, D1⟩ := ctr_turned B F (N0 trivial) XB TB (D0 trivial) zJ.turn zJ.fr zJ.news
       refine hret _ (linv_ne zJ (N0 trivial)) kg _ _ T1 F1 (fun q hq => N1 q ?_) B1 X1 P1 D1
       rcases List.mem_cons.mp hq with rfl | hq
       · exact List.mem_append_left _ (.head _)
       · exact List.mem_append_right _ hq)
    | w_report
end

example : True := by
  k_with_none
  k_with "ite" => (k_here; (with_reducible show (if (!_) = true then _ else _)); (with_reducible refine' ite_no ?itb ?_); (case itb => k_dflt decide))
  k_with "w k_in" => (refine' Frag.In.keeps ?xa (Fr.keep ?xb); (case xb => with_reducible assumption); (case xa => with_reducible assumption))
  k_with "w k_all" => first | exact allNe (by assumption) | exact allNe (allLt_le (by assumption) (by (try dsimp only); omega))
  k_with "w k_room" => ktr_room
  k_with "w ktr_enter" => (refine' code_def ?k1 ?k2 ?k3 ?k4 ?k5 ?kA ?kF ?kK ?k6 ?k7 ?k8 ?k9 ?kB ?_ ?c2 ?c3 ?c4 ?c5; (case kA => exact rfl); (case kF => exact rfl); (case kK => first | exact rfl | assumption); (case k1 => k_asm); (case k2 => k_asm); (case k3 => k_asm); (case k4 => k_asm); (case k5 => k_asm); (case k6 => k_is); (case k7 => k_is); (case k8 => ktr_room); (case k9 => first | exact BindsTo.of_eq rfl | exact binds_K (by k_in) rfl (by k_is) rfl rfl rfl | fail "ktr_enter: no rule for these arguments"); (case c5 => decide); (case kB => exact locs rfl); (case c2 => exact rfl); (case c3 => exact rfl); (case c4 => exact rfl); k_whole; intro g'w9 L'w9 h'w9 FG'w9 F'w9 N'w9 B'w9 X'w9 T'w9; (try dsimp only); (try k_lift B'w9); (try k_fold))
  k_with "getMethod type:Exception" => (k_here; refine' method_type ?F ?X ?m (by decide +kernel) ?e ?h ?_; (case F => k_asm); (case X => k_asm); (case m => exact meta_Exception); (case e => k_dflt k_is); (case h => k_handed))
  k_with "call builtin:Exception.__init__" => (k_here; k_dflt (refine' se_bInit ?k1 ?k2 ?k3 ?k4 ?k5 ?k6 ?k7 ?_; (case k1 => k_asm); (case k2 => k_asm); (case k3 => k_asm); (case k4 => k_mem); (case k5 => k_is); (case k6 => decide); (case k7 => intro t'w9; k_upd)); intro t'w9 h'w9 F'w9 N'w9 l1w9; (try k_lt l1w9); (try k_sweep))
  k_with "setAttr ref" => (k_here; k_dflt (refine' se_set1 ?k1 ?k2 ?k3 ?k4 ?k5 ?k6 ?k7 ?k8 ?k9 ?k10 ?k11 ?_; (case k1 => k_asm); (case k2 => k_asm); (case k3 => k_asm); (case k4 => k_mem); (case k5 => k_is); (case k6 => rfl); (case k7 => k_is); (case k8 => exact se_pass); (case k9 => k_is); (case k10 => k_is); (case k11 => intro t'w9; k_upd)); intro t'w9 h'w9 F'w9 N'w9 l1w9; (try k_lt l1w9); (try k_sweep))
  k_with "setAttr ref" => (k_here; k_dflt (refine' se_set2 ?k1 ?k2 ?k3 ?k4 ?kd ?k5 ?k6 ?k7 ?k8 ?k9 ?k10 ?k11 ?k12 ?k13 ?k14 ?_; (case k1 => k_asm); (case k2 => k_asm); (case k3 => k_asm); (case k4 => k_mem); (case kd => k_mem); (case k5 => k_is); (case k6 => rfl); (case k7 => k_is); (case k8 => exact se_pass); (case k9 => k_is); (case k10 => k_is); (case k11 => k_get); (case k12 => k_put); (case k13 => k_upd); (case k14 => exact Nat.le_of_ble_eq_true rfl)); intro h'w9 F'w9 N'w9; (try k_sweep))
  k_with "exec Raise some none" => (k_here; k_dflt (refine' se_Raise ?h ?_; (case h => exact rfl)))
  k_with "call ref" => (k_here; (with_reducible show wpAny _ _ (call (Value.ref 54) [Value.str _ _]) _ _ _); k_dflt (refine' se_make ?k1 ?k2 ?k3 ?k4 ?k5 ?k6 ?k7 ?_; (case k1 => k_asm); (case k2 => k_asm); (case k3 => k_asm); (case k4 => k_asm); (case k5 => k_asm); (case k6 => first | exact rfl | assumption); (case k7 => ktr_room)); intro e'w9 t'w9 d'w9 h'w9 tk'w9 F'w9 N'w9 l1w9 l2w9; (replace l1w9 := allLt_of l1w9); (have l1bw9 := l1w9); (try simp only [AllLt, and_true] at l1bw9); (try k_lt2 l2w9); (try k_sweep))
  k_with "SeRaised" => (refine' ⟨_, _, _, rfl, ?X, ?m, ?_⟩; (case X => k_in); (case m => exact News.get (by k_asm) (by k_mem)))
  k_with "leaving ref" => (k_here; k_dflt (refine' se_leave ?k1 ?k2 ?k3 ?k4 ?k5 ?_; (case k2 => k_asm); (case k1 => k_asm); (case k3 => k_asm); (case k4 => first | assumption | (simp only [AllLt, and_true]; omega)); (case k5 => omega)); intro h'w9 R'w9 R2'w9 U'w9; (try dsimp only at R'w9 R2'w9 U'w9 ⊢))
  k_with "call ref" => (k_here; (with_reducible show wpAny _ _ (call (Value.ref 117) [Value.str _ _, Value.str _ _]) _ _ _); k_dflt (refine' con_figs ?k1 ?k2 ?k3 ?k4 ?k5 ?k6 ?k7 ?k8 ?k9 (fun f'w9 t'w9 h'w9 tk'w9 hf'w9 F'w9 N'w9 => ?_) (fun hE'w9 g'w9 e'w9 t'w9 vs'w9 h'w9 tk'w9 G'w9 B'w9 R'w9 U'w9 => ?_); (case k1 => k_asm); (case k2 => k_asm); (case k3 => k_asm); (case k4 => k_asm); (case k5 => k_asm); (case k6 => first | exact rfl | assumption); (case k7 => ktr_room); (case k8 => first | assumption | decide); (case k9 => decide)); all_goals (try k_sweep))
  k_with "w k_upd" => first | (refine' Drop.head ?a; (case a => k_all)) | (refine' Drop.tail ?a ?b; (case a => k_ne); (case b => k_upd))
  k_with "exec For Tuple Tuple cons nil" => (k_here; k_dflt (refine' for_enter ?_ ?hs; (case hs => intro _; exact rfl)))
  k_with "exec For Name Call cons nil" => (k_here; k_dflt (refine' for_enter ?_ ?hs; (case hs => intro _; exact rfl)))
  k_with "pyIter ref" => (k_here; (with_reducible show wpAny _ _ (pyIter (Value.ref _)) (ForAt _ _ _ _ _ _ _ _) _ _); k_dflt (first | (refine' iter_tuple_K ?k1 ?k2 ?k3 ?_; (case k1 => k_asm); (case k2 => k_asm); (case k3 => k_mem)) | (refine' iter_list_K ?k1 ?k2 ?k3 ?_; (case k1 => k_asm); (case k2 => k_asm); (case k3 => k_mem)) | (refine' iter_range_K ?k1 ?k2 ?k3 ?k4 ?_; (case k1 => k_asm); (case k2 => k_asm); (case k3 => assumption); (case k4 => decide))); intro I'w9 h'w9 F'w9 N'w9 l1w9; (try k_lt l1w9); (try k_sweep))
  k_with "ForAt" => (refine ⟨_, rfl, ?_⟩)
  k_with "ForGo" => (refine for_turn (by passes_own) ?_)
  k_with "pyNext ref" => (k_here; k_dflt (first | (refine' next_tuple_K ?k1 ?k2 ?k3 ?k4 ?k5 ?k6 ?_; (case k1 => k_asm); (case k2 => k_asm); (case k3 => k_mem); (case k4 => k_mem); (case k5 => exact rfl); (case k6 => intro d'w9 sl'w9; k_upd); intro d'w9 sl'w9 h'w9 F'w9 N'w9; (try k_sweep)) | (refine' end_tuple_K ?k0 ?k1 ?k2 ?k3 ?k4 ?k5 ?k6 ?_; (case k0 => exact rfl); (case k1 => k_asm); (case k2 => k_asm); (case k3 => k_mem); (case k4 => k_mem); (case k5 => exact rfl); (case k6 => k_upd); intro h'w9 F'w9 N'w9; (try k_sweep)) | (refine' next_list_K ?k1 ?k2 ?k3 ?k4 ?k5 ?k6 ?_; (case k1 => k_asm); (case k2 => k_asm); (case k3 => k_mem); (case k4 => k_mem); (case k5 => exact rfl); (case k6 => intro d'w9 sl'w9; k_upd); intro d'w9 sl'w9 h'w9 F'w9 N'w9; (try k_sweep)) | (refine' end_list_K ?k0 ?k1 ?k2 ?k3 ?k4 ?k5 ?k6 ?_; (case k0 => exact rfl); (case k1 => k_asm); (case k2 => k_asm); (case k3 => k_mem); (case k4 => k_mem); (case k5 => exact rfl); (case k6 => k_upd); intro h'w9 F'w9 N'w9; (try k_sweep)) | (refine' next_range_K ?k1 ?k2 ?k3 ?k4 ?k5 ?_; (case k1 => k_asm); (case k2 => k_asm); (case k3 => k_mem); (case k4 => decide); (case k5 => k_upd); intro h'w9 F'w9 N'w9; (try k_sweep)) | (refine' end_range_K ?k0 ?k1 ?k2 ?k3 ?k4 ?k5 ?_; (case k0 => exact rfl); (case k1 => k_asm); (case k2 => k_asm); (case k3 => k_mem); (case k4 => decide); (case k5 => k_upd); intro h'w9 F'w9 N'w9; (try k_sweep))))
  k_with "ForNext" => (dsimp only [ForNext])
  k_with "ForBody" => (dsimp only [ForBody])
  k_with "letOwnedTupleGo" => (k_here; k_dflt (first | (refine' let_name_K ?_; k_whole) | (refine' let_iter_K ?k1 ?k2 ?k3 ?_; (case k1 => k_asm); (case k2 => k_mem); (case k3 => decide))))
  k_with "call builtin:str.split" => (k_here; (with_reducible show wpAny _ _ (call (Value.builtin "str.split") [Value.str _ _, Value.str _ _]) _ _ _); k_dflt (refine' KSpl.split1 ?k1 ?k2 ?k3 ?_ ?k4; (case k1 => k_asm); (case k2 => k_asm); (case k3 => decide); (case k4 => exact line_of_le (by assumption))); intro D'w9 l'w9 h'w9 k'w9 e'w9 a'w9 F'w9 N'w9 l1w9; (try k_lt l1w9); first | ((replace e'w9 := e'w9.trans (by assumption)); (kspl_open e'w9); (simp only [strValues, List.map_cons, List.map_nil] at N'w9 a'w9); (try k_sweep)) | ((have hlen'w9 := split_ne e'w9 (by assumption)); (try k_sweep)))
  k_with "leaving ref" => (k_here; k_dflt (refine' leave_onS ?k1 ?k2 ?k3 ?k4 ?_; (case k3 => assumption); (case k2 => assumption); (case k1 => assumption); (case k4 => assumption)); intro h'w9 S'w9 R'w9 U'w9; (try dsimp only at S'w9 R'w9 U'w9 ⊢))
  k_with "call ref" => (k_here; (with_reducible show wpAny _ _ (call (Value.ref 124) [Value.str _ _]) _ _ _); k_dflt (refine' con_wish ?k1 ?k2 ?k3 ?k4 ?k5 ?k6 ?k7 ?k8 ?k9 ?k10 (fun wd'w9 f1'w9 f2'w9 t1'w9 t2'w9 t3'w9 D'w9 h'w9 tk'w9 hf'w9 F'w9 N'w9 l1w9 => ?_) (fun hE'w9 g'w9 e'w9 t'w9 vs'w9 h'w9 tk'w9 G'w9 B'w9 R'w9 U'w9 => ?_); (case k1 => k_asm); (case k2 => k_asm); (case k3 => k_asm); (case k4 => k_asm); (case k5 => k_asm); (case k6 => first | exact rfl | assumption); (case k7 => ktr_room); (case k8 => assumption); (case k9 => assumption); (case k10 => assumption)); all_goals (try simp only [AllLt, and_true] at l1w9); all_goals (try k_sweep))
  k_with "compareOp In ref ref" => (k_here; k_dflt (refine' in_two ?k1 ?k2 ?k3 ?k4 ?k5 ?k6 ?k7 ?k8 ?k9 ?k10 ?k11 ?_; (case k1 => exact isTup_of (by k_asm) (by k_mem)); (case k4 => ked_read); (case k5 => ked_read); (case k6 => ked_read); (case k2 => k_ne); (case k3 => k_ne); (case k7 => first | assumption | decide +kernel | ked_shaped); (case k8 => first | decide +kernel | ked_shaped); (case k9 => first | decide +kernel | ked_shaped); (case k10 => ktr_units); (case k11 => first | assumption | decide +kernel | rfl)))
  k_with "call builtin:str.split" => (k_here; (with_reducible show wpAny _ _ (call (Value.builtin "str.split") [Value.str _ _]) _ _ _); k_dflt (refine' KSpl.split0 ?k1 ?k2 ?_ ?k4; (case k1 => k_asm); (case k2 => k_asm); (case k4 => exact line_of_le (by assumption))); intro D'w9 l'w9 h'w9 k'w9 e'w9 a'w9 F'w9 N'w9 l1w9; (try k_lt l1w9); (replace e'w9 := e'w9.trans (by assumption)); (kspl_open e'w9); (simp only [strValues, List.map_cons, List.map_nil] at N'w9 a'w9); (try k_sweep))
  k_with "compareOp NotIn str ref" => (k_here; k_dflt (refine' notin_names ?X ?h ?_; (case X => k_in); (case h => assumption)))
  k_with "call builtin:tuple.index" => (k_here; k_dflt (refine' index_names ?X ?h ?_; (case X => k_in); (case h => assumption)))
  k_with "getMethod ref" => (k_here; k_dflt (refine' meth_names ?X ?_; (case X => k_in)))
  k_with "call ref" => (k_here; (with_reducible show wpAny _ _ (call (Value.ref 124) [Value.str _ _]) _ _ _); k_dflt (refine' con_wishOk ?k0 ?k1 ?k2 ?k3 ?k4 ?k5 ?k6 ?k7 ?k8 ?k9 ?k10 (fun t1'w9 t2'w9 t3'w9 D'w9 h'w9 tk'w9 F'w9 N'w9 l1w9 => ?_); (case k0 => assumption); (case k1 => k_asm); (case k2 => k_asm); (case k3 => k_asm); (case k4 => k_asm); (case k5 => k_asm); (case k6 => first | exact rfl | assumption); (case k7 => ktr_room); (case k8 => assumption); (case k9 => assumption); (case k10 => assumption)); (try simp only [AllLt, and_true] at l1w9); (try k_sweep))
  k_with "w cell_enter" => (refine' ctr_enter ?k1 ?k2 ?k3 ?k4 ?k5 ?kA ?kK ?k6 ?k7 ?k8 ?k9 ?kB ?_ ?c2 ?c3 ?c4 ?c5; (case kA => exact rfl); (case kK => first | exact rfl | assumption); (case k2 => k_asm); (case k1 => k_asm); (case k3 => k_asm); (case k4 => k_asm); (case k5 => k_asm); (case k6 => k_is); (case k7 => k_is); (case k8 => ktr_room); (case k9 => first | exact BindsTo.of_eq rfl | exact binds_K (by k_in) rfl (by k_is) rfl rfl rfl | fail "ctr_enter: no rule for these arguments"); (case c5 => decide); (case kB => exact locs rfl); (case c2 => exact rfl); (case c3 => exact rfl); (case c4 => exact rfl); k_whole; intro L'w9 h'w9 F'w9 N'w9 B'w9 X'w9 T'w9 D'w9; (try dsimp only); (try k_lift B'w9); (try k_fold))
  k_with "call builtin:sorted" => (k_here; (with_reducible show wpAny _ _ (call (Value.builtin "sorted") [Value.ref _]) _ _ _); k_dflt (refine' sorted_one ?k0 ?k1 ?k2 ?k3 ?k4 ?k5 ?_; (case k0 => exact rfl); (case k1 => k_asm); (case k2 => k_asm); (case k3 => k_mem); (case k4 => assumption); (case k5 => assumption)); intro B'w9 t'w9 h'w9 tk'w9 F'w9 N'w9 l1w9; (try k_lt l1w9); (try k_sweep))
  k_with "subscriptTail Name Name ref int" => (k_here; k_dflt (refine' kda_item (knd := PySem.intKind _ _) ?k1 ?k2 ?k3 ?k4 ?k5 ?_; (case k1 => k_asm); (case k2 => k_mem); (case k3 => k_asm); (case k4 => exact intKind_is _ _ _ _); (case k5 => exact valueAt_one)))
  k_with "subscriptTail Name Name ref int" => (k_here; (with_reducible show wpAny _ _ (subscriptTail _ _ (Value.ref 16) (Value.int _ _)) _ _ _); k_dflt (refine' bits_item ?X ?h ?_; (case X => k_in); (case h => assumption)); intro t'w9)
  k_with "testChain" => first | with_reducible refine test_link ?_ | with_reducible refine test_last ?_ | refine test_link ?_
  k_with "call ref" => (k_here; (with_reducible show wpAny _ _ (call (Value.ref 70) [Value.ref _, Value.int _ _]) _ _ _); k_dflt (refine' con_check ?k0 ?k1 ?k2 ?k3 ?k4 ?k5 ?k6 ?k7 ?k8 ?k9 (fun hf'w9 h'w9 tk'w9 F'w9 N'w9 => ?_) (fun hE'w9 g'w9 e'w9 t'w9 vs'w9 h'w9 tk'w9 G'w9 B'w9 R'w9 U'w9 => ?_); (case k0 => assumption); (case k1 => k_asm); (case k2 => k_asm); (case k3 => k_asm); (case k4 => k_asm); (case k5 => k_asm); (case k6 => first | exact rfl | assumption); (case k7 => ktr_room); (case k8 => omega); (case k9 => k_mem)); all_goals (try k_sweep))
  k_with "call type:dict" => (k_here; (with_reducible show wpAny _ _ (call (Value.type "dict") [Value.ref _]) _ _ _); k_dflt (refine' dict_one ?k1 ?k2 ?k3 ?k4 ?k5 ?k6 ?_; (case k1 => k_asm); (case k2 => k_asm); (case k3 => exact Top.nolimit (by k_asm)); (case k4 => k_mem); (case k5 => assumption); (case k6 => assumption)); intro D'w9 o'w9 h'w9 F'w9 N'w9 l1w9 lo'w9 ho'w9; (try k_lt l1w9); (try k_sweep))
  k_with "call ref" => (k_here; (with_reducible show wpAny _ _ (call (Value.ref 106) [Value.str _ _, Value.ref _]) _ _ _); k_dflt (refine' con_rule ?k1 ?k2 ?k3 ?k4 ?k5 ?k7 ?k8 ?k9 ?ka ?kb ?kc ?kd ?ke ?kf ?kg ?kh (fun hf'w9 x'w9 dx'w9 D'w9 o'w9 c1'w9 c2'w9 h'w9 tk'w9 F'w9 N'w9 l1w9 l2'w9 l3'w9 lo'w9 ho'w9 => ?_) (fun hE'w9 g'w9 e'w9 t'w9 vs'w9 h'w9 tk'w9 G'w9 B'w9 R'w9 U'w9 => ?_); (case k1 => k_asm); (case k2 => k_asm); (case k3 => k_asm); (case k4 => k_asm); (case k5 => k_asm); (case k7 => first | exact rfl | assumption); (case k8 => ktr_room); (case k9 => ktr_units); (case ka => assumption); (case kb => first | assumption | exact wishOf_wd (by assumption)); (case kc => assumption); (case kd => omega); (case ke => k_mem); (case kf => assumption); (case kh => assumption); (case kg => k_mem)); all_goals (try k_lt l1w9); all_goals (try k_sweep))
  k_with "exec For Tuple Call cons nil" => (k_here; k_dflt (refine' for_enter ?_ ?hs; (case hs => intro _; exact rfl)))
  k_with "eval ListComp" => (k_here; (with_reducible show wpAny _ _ (eval (Expr.ListComp (Expr.Tuple _ _ _) _ _ _) _) _ _ _); k_dflt (refine LCg.ListComp_U (F₀ := by k_asm) (by with_unfolding_all rfl) (by decide) (by rfl) (by decide) (by rfl) ?_); k_dflt lcg_toSrc)
  k_with "CompSrc" => (k_here; (with_reducible show LCg.CompSrc _ _ _ _ _ _ _ (Expr.Tuple _ _ _) _ _ _ _ _ _); k_dflt (refine LCg.CompSrc.ledger (by rfl) (by k_asm) (by k_asm) (by k_mem) (by first | size_fits | exact Nat.le_of_ble_eq_true rfl) ?_; intro g'w9; lcg_lit))
  k_with "getItem ref int" => (k_here; k_dflt (refine' kda_get (knd := PySem.intKind _ _) ?k1 ?k2 ?k3 ?k4 ?k5 ?_; (case k1 => k_asm); (case k2 => k_mem); (case k3 => k_asm); (case k4 => exact intKind_is _ _ _ _); (case k5 => exact valueAt_one)))
  k_with "call ref" => (k_here; (try dsimp only [List.cons_append, List.nil_append]); (with_reducible show wpAny _ _ (call (Value.ref 89) [Value.ref _]) _ _ _); k_dflt (refine' con_rows ?k1 ?k2 ?k3 ?k4 ?k5 ?k6 ?k7 ?k8 ?ka ?kb ?kc ?kd ?ke (fun L'w9 D'w9 t'w9 h'w9 tk'w9 F'w9 N'w9 => ?_); (case k1 => k_asm); (case k2 => k_asm); (case k3 => k_asm); (case k4 => k_asm); (case k5 => k_asm); (case k6 => first | exact rfl | assumption); (case k7 => ktr_room); (case k8 => ktr_units); (case ka => k_mem); (case kb => k_mem); (case kc => k_mem); (case kd => assumption); (case ke => assumption)); (try k_sweep))
  k_with "subscriptTail Name Name ref int" => (k_here; k_dflt (refine' key_item ?k1 ?k2 ?k3 ?k4 ?_; (case k1 => k_asm); (case k2 => k_mem); (case k3 => assumption); (case k4 => assumption)))
  k_with "subscriptTail Name Name ref int" => (k_here; k_dflt (refine' key_itemE ?k1 ?k2 ?k3 ?k4 ?_; (case k1 => k_asm); (case k2 => k_mem); (case k3 => exact met_item (by assumption) (by assumption) (by assumption)); (case k4 => exact met_size (by assumption))); intro t'w9)
  k_with "binaryOp Add str str" => (k_here; (with_reducible show wpAny _ _ (binaryOp Operator.Add (Value.str _ _) (Value.str _ _)) _ _ _); k_dflt (refine' addS ?k1 ?k2 ?_; (case k1 => first | assumption | (decide +kernel) | ((try simp only [Str.length_append]); omega)); (case k2 => first | assumption | (decide +kernel) | ((try simp only [Str.length_append]); omega))); intro t'w9 k'w9)
  k_with "call ref" => (k_here; (with_reducible show wpAny _ _ (call (Value.ref 173) [Value.str _ _]) _ _ _); k_dflt (refine' con_readOk ?k1 ?k2 ?k3 ?k4 ?k5 ?kD ?kXB ?kTB ?k6 ?k7 ?ku ?k8 ?k9 ?ka ?kb ?kc ?kd ?ke ?kf ?kg (fun x'w9 dx'w9 D'w9 T'w9 o'w9 c1'w9 c2'w9 t1'w9 t2'w9 t3'w9 ta'w9 h'w9 tk'w9 F'w9 N'w9 lo'w9 ho'w9 => ?_); (case k1 => k_asm); (case k2 => k_asm); (case k3 => k_asm); (case k4 => k_asm); (case k5 => k_asm); (case kD => k_asm); (case kXB => assumption); (case kTB => assumption); (case k6 => first | exact rfl | assumption); (case k7 => ktr_room); (case ku => ktr_units); (case k8 => first | assumption | ((try simp only [Str.length_append]); omega)); (case kd => assumption); (case ka => assumption); (case kb => assumption); (case kc => assumption); (case kf => assumption); (case kg => assumption); (case ke => first | exact Or.inl rfl | exact Or.inr rfl); (case k9 => assumption)); (try k_sweep))
  k_with "call ref" => (k_here; (with_reducible show wpAny _ _ (call (Value.ref 178) [Value.ref _, Value.int _ _, Value.int _ _]) _ _ _); k_dflt (refine' con_met ?k0 ?k1 ?k2 ?k3 ?k4 ?k5 ?k6 ?k7 ?k8 ?k9 ?ka ?kb ?kc ?kd ?ke ?kf (fun b'w9 h'w9 tk'w9 hb'w9 F'w9 N'w9 => ?_); (case k0 => first | exact Or.inr rfl | exact Or.inl rfl); (case k1 => k_asm); (case k2 => k_asm); (case k3 => k_asm); (case k4 => k_asm); (case k5 => k_asm); (case k6 => first | exact rfl | assumption); (case k7 => ktr_room); (case k8 => ktr_units); (case k9 => assumption); (case ka => k_mem); (case kb => k_mem); (case kc => k_mem); (case kf => assumption); (case kd => k_mem); (case ke => assumption)); (first | (cases hb'w9.symm.trans (holds_in (by omega) (by omega) (by omega))) | (cases hb'w9.symm.trans (holds_out (by omega)))); (try k_sweep))
  trivial
end Ex3300
-- S7body.txt

theorem low_lo (g : Int) (bt : Nat) : 0 ≤ g.fmod (2 ^ ((bt : Int)).toNat) := fmod_lo _ (top_pos bt)
theorem low_hi (g : Int) (bt : Nat) : g.fmod (2 ^ ((bt : Int)).toNat) < 2 ^ ((bt : Int)).toNat := fmod_hi _ (top_pos bt)
theorem span_pos (g : Int) (bt : Nat) : 0 < 2 ^ ((bt : Int)).toNat - g.fmod (2 ^ ((bt : Int)).toNat) := by have := low_hi g bt; omega
theorem high_lo (g k : Int) (bt : Nat) : g.fmod (2 ^ ((bt : Int)).toNat) ≤ g.fmod (2 ^ ((bt : Int)).toNat) + k.fmod (2 ^ ((bt : Int)).toNat - g.fmod (2 ^ ((bt : Int)).toNat)) := by
  have := fmod_lo k (span_pos g bt)
  omega
theorem high_hi (g k : Int) (bt : Nat) : g.fmod (2 ^ ((bt : Int)).toNat) + k.fmod (2 ^ ((bt : Int)).toNat - g.fmod (2 ^ ((bt : Int)).toNat)) < 2 ^ ((bt : Int)).toNat := by
  have := fmod_hi k (span_pos g bt)
  omega
theorem top1_lo (bt : Nat) : (0 : Int) ≤ 2 ^ ((bt : Int)).toNat - 1 := by have := top_pos bt; omega
theorem top1_hi (bt : Nat) : (2 : Int) ^ ((bt : Int)).toNat - 1 < 2 ^ ((bt : Int)).toNat := by omega
theorem one_hi {bt : Nat} (h : 3 ≤ bt) : (1 : Int) < 2 ^ ((bt : Int)).toNat := by
  rw [top_nat]
  have : 2 ^ 3 ≤ 2 ^ bt := Nat.pow_le_pow_right (by decide) h
  omega
theorem half_lo (bt : Nat) : (0 : Int) ≤ ((2 : Int) ^ ((bt : Int)).toNat).fdiv 2 := Int.fdiv_nonneg (Int.le_of_lt (top_pos bt)) (by decide)
theorem half_hi (bt : Nat) : ((2 : Int) ^ ((bt : Int)).toNat).fdiv 2 < 2 ^ ((bt : Int)).toNat := by
  have := top_pos bt
  rw [Int.fdiv_eq_ediv_of_nonneg _ (by decide)]
  omega
/-- the item that was drawn is a mask of the field's bits -/
theorem mask_item {bt : Nat} (h3 : 3 ≤ bt) {g : Int} {t0 t1 t2 t3 t4 : Tok} {j : Nat} {v : Value}
    (h : (#[.int 0 t0, .int (2 ^ ((bt : Int)).toNat - 1) t1, .int 1 t2, .int (((2 : Int) ^ ((bt : Int)).toNat).fdiv 2) t3, .int (g.fmod (2 ^ ((bt : Int)).toNat)) t4] : Array Value)[j]? = some v) : ∃ k t, v = .int k t ∧ 0 ≤ k ∧ k < 2 ^ ((bt : Int)).toNat := by
  match j, h with
  | 0, h => exact ⟨0, t0, by simpa using h.symm, Int.le_refl _, top_pos bt⟩
  | 1, h => exact ⟨_, t1, by simpa using h.symm, top1_lo bt, top1_hi bt⟩
  | 2, h => exact ⟨1, t2, by simpa using h.symm, by decide, one_hi h3⟩
  | 3, h => exact ⟨_, t3, by simpa using h.symm, half_lo bt, half_hi bt⟩
  | 4, h => exact ⟨_, t4, by simpa using h.symm, low_lo g bt, low_hi g bt⟩
  | j + 5, h => simp at h
/-- is a text of a wish refused -/
def noneB (nm : Str) (bt : Nat) (ws : Str) : Bool :=
  ((Txt.words (Str.ofString "let " ++ nm ++ Str.ofString " " ++ ws) == [Str.ofString "let", nm, ws]) && (match wishOf ws with | none => true | some (wd, a, b) => !fits bt wd a b)) || (Txt.words (Str.ofString "let " ++ nm ++ Str.ofString " " ++ ws) == [Str.ofString "let", nm])
theorem none_of {nm : Str} {bt : Nat} {ws : Str} (h : noneB nm bt ws = true) : NoneAt nm bt ws := by
  unfold noneB at h
  rcases Bool.or_eq_true_iff.mp h with h | h
  · obtain ⟨h1, h2⟩ := Bool.and_eq_true_iff.mp h
    refine .inl ⟨eq_of_beq h1, fun wd a b e => ?_⟩
    rw [e] at h2
    simpa using h2
  · exact .inr (eq_of_beq h)
def beyond (bt : Nat) : List Str := [Str.ofString "0-" ++ txt (digs 10 (2 ^ bt)), txt (digs 10 (2 ^ bt)) ++ Str.ofString "-" ++ txt (digs 10 (2 ^ bt)), Str.ofString "3-2", Str.ofString "0/" ++ txt (digs 16 (2 ^ bt)), Str.ofString "2/1", txt (digs 16 (2 ^ bt)) ++ Str.ofString "/1", Str.ofString "1/0"]
theorem beyond_none : ∀ i : Fin 10, ((beyond (fieldBits[i]'(i.isLt))).all fun ws => noneB (fieldNames[i]'(i.isLt)) (fieldBits[i]'(i.isLt)) ws && decide (ws.length ≤ 100)) = true := by decide +kernel
def odds : List Str := [Str.ofString "1", Str.ofString "", Str.ofString "-", Str.ofString "/", Str.ofString "1-", Str.ofString "/1", Str.ofString "1-2-3", Str.ofString "1/1/1", Str.ofString "1-2/3", Str.ofString "a-b", Str.ofString "A/F", Str.ofString "1/1g", Str.ofString "+1-2", Str.ofString "1_0-12", Str.ofString "000000000000000000001-2"]
theorem odds_none : ∀ i : Fin 10, (odds.all fun ws => noneB (fieldNames[i]'(i.isLt)) (fieldBits[i]'(i.isLt)) ws && decide (ws.length ≤ 100)) = true := by decide +kernel
theorem strs_none {nm : Str} {bt : Nat} {l : List Str} (hl : (l.all fun ws => noneB nm bt ws && decide (ws.length ≤ 100)) = true) {vs : Array Value} (h : StrsAre vs.toList l) : ∀ (j : Nat) v, vs[j]? = some v → ∃ ws t, v = .str ws t ∧ (ws.length ≤ 100 ∧ NoneAt nm bt ws) := by
  intro j v hv
  have hv' : vs.toList[j]? = some v := by simpa using hv
  have key : ∀ {vs : List Value} {l : List Str}, StrsAre vs l → ∀ {j : Nat} {v : Value}, vs[j]? = some v → ∃ ws t, v = .str ws t ∧ ws ∈ l := by
    intro vs l h
    induction h with
    | nil => intro j v e; simp at e
    | cons y t _ ih =>
      intro j v e
      cases j with
      | zero => exact ⟨y, t, by simpa using e.symm, .head _⟩
      | succ j =>
        obtain ⟨ws, t', e', hm⟩ := ih (by simpa using e)
        exact ⟨ws, t', e', .tail _ hm⟩
  obtain ⟨ws, t, e, hm⟩ := key h hv'
  have := List.all_eq_true.mp hl ws hm
  obtain ⟨a, b⟩ := Bool.and_eq_true_iff.mp this
  exact ⟨ws, t, e, of_decide_eq_true b, none_of a⟩
theorem beyond_at {i bt : Nat} {nm : Str} (hi : fieldNames[i]? = some nm) (hb : fieldBits[i]? = some bt) : ((beyond bt).all fun ws => noneB nm bt ws && decide (ws.length ≤ 100)) = true := by
  obtain ⟨h1, e1⟩ := List.getElem?_eq_some_iff.mp hi
  obtain ⟨h2, e2⟩ := List.getElem?_eq_some_iff.mp hb
  subst e1 e2
  exact beyond_none ⟨i, h1⟩
theorem odds_at {i bt : Nat} {nm : Str} (hi : fieldNames[i]? = some nm) (hb : fieldBits[i]? = some bt) : (odds.all fun ws => noneB nm bt ws && decide (ws.length ≤ 100)) = true := by
  obtain ⟨h1, e1⟩ := List.getElem?_eq_some_iff.mp hi
  obtain ⟨h2, e2⟩ := List.getElem?_eq_some_iff.mp hb
  subst e1 e2
  exact odds_none ⟨i, h1⟩
theorem strs_cons {x y : Str} {t : Tok} {vs : List Value} {ys : List Str} (e : x = y) (h : StrsAre vs ys) : StrsAre (.str x t :: vs) (y :: ys) := by
  subst e
  exact .cons _ _ h
/-- the field that was drawn -/
theorem field_item {news : List (Addr × Obj)} {T0 T1 T2 T3 T4 T5 T6 T7 T8 T9 : Addr} {a0 a1 a2 a3 a4 a5 a6 a7 a8 a9 b0 b1 b2 b3 b4 b5 b6 b7 b8 b9 : Tok} {j : Nat} {v : Value}
    (m0 : (T0, tupObj [.str (Str.ofString "target") a0, .int 48 b0]) ∈ news) (m1 : (T1, tupObj [.str (Str.ofString "source") a1, .int 48 b1]) ∈ news) (m2 : (T2, tupObj [.str (Str.ofString "kind") a2, .int 16 b2]) ∈ news) (m3 : (T3, tupObj [.str (Str.ofString "vlan") a3, .int 12 b3]) ∈ news) (m4 : (T4, tupObj [.str (Str.ofString "priority") a4, .int 3 b4]) ∈ news) (m5 : (T5, tupObj [.str (Str.ofString "ip_source") a5, .int 32 b5]) ∈ news) (m6 : (T6, tupObj [.str (Str.ofString "ip_target") a6, .int 32 b6]) ∈ news) (m7 : (T7, tupObj [.str (Str.ofString "protocol") a7, .int 8 b7]) ∈ news) (m8 : (T8, tupObj [.str (Str.ofString "source_port") a8, .int 16 b8]) ∈ news) (m9 : (T9, tupObj [.str (Str.ofString "target_port") a9, .int 16 b9]) ∈ news)
    (h : (#[.ref T0, .ref T1, .ref T2, .ref T3, .ref T4, .ref T5, .ref T6, .ref T7, .ref T8, .ref T9] : Array Value)[j]? = some v) : ∃ nm Tj bt t t', v = .ref Tj ∧ (Tj, tupObj [.str nm t, .int (bt : Nat) t']) ∈ news ∧ fieldNames[j]? = some nm ∧ fieldBits[j]? = some bt := by
  match j, h with
  | 0, h => exact ⟨_, T0, _, a0, b0, by simpa using h.symm, m0, rfl, rfl⟩
  | 1, h => exact ⟨_, T1, _, a1, b1, by simpa using h.symm, m1, rfl, rfl⟩
  | 2, h => exact ⟨_, T2, _, a2, b2, by simpa using h.symm, m2, rfl, rfl⟩
  | 3, h => exact ⟨_, T3, _, a3, b3, by simpa using h.symm, m3, rfl, rfl⟩
  | 4, h => exact ⟨_, T4, _, a4, b4, by simpa using h.symm, m4, rfl, rfl⟩
  | 5, h => exact ⟨_, T5, _, a5, b5, by simpa using h.symm, m5, rfl, rfl⟩
  | 6, h => exact ⟨_, T6, _, a6, b6, by simpa using h.symm, m6, rfl, rfl⟩
  | 7, h => exact ⟨_, T7, _, a7, b7, by simpa using h.symm, m7, rfl, rfl⟩
  | 8, h => exact ⟨_, T8, _, a8, b8, by simpa using h.symm, m8, rfl, rfl⟩
  | 9, h => exact ⟨_, T9, _, a9, b9, by simpa using h.symm, m9, rfl, rfl⟩
  | j + 10, h => simp at h
theorem tup_first {prog : Program} {w : World} {A : Around} {E : Value → Shared → Prop} {s : Shared} {h₀ : Heap} {L : Addr} {news : List (Addr × Obj)} {value slice : Expr} {T : Addr} {nm : Str} {b : Int} {t t' u : Tok} {Q : Value → Shared → Prop} (N : News h₀ L s.heap news) (hm : (T, tupObj [.str nm t, .int b t']) ∈ news) (h : Q (.str nm t) s)
    (hs : subscripted slice false (.ref T) (.int 0 u) = operate [.ref T, .int 0 u] (getItem (.ref T) (.int 0 u)) := by with_unfolding_all rfl) :
    wpAny (model prog w) A (subscriptTail value slice (.ref T) (.int 0 u)) Q E s :=
  item_tupleT (l := [.str nm t, .int b t']) (j := 0) ⟨_, (N _ hm).1, rfl, _, rfl⟩ (by decide) (by decide) (by simp [seqIndex?]) rfl h hs
section
variable {prog : Program} {w : World} {dp un : Nat} {gd : Option (List Code)} {cn : Str} {cs : Scope} {a : Addr} {ccd : Value} {A₀ : Around} {h₀ kg h : Heap} {L : Addr} {m : Str → Option Value} {news : List (Addr × Obj)} {s : Shared}
    {E : Value → Shared → Prop} {p : Program} {loose : List Str} {mean : ExcName → Option Value} {mg mb : Str → Option Value}
theorem kts0 (T : KtsTurn (([] : List Env).filterMap (·.frame)) h₀ kg) (b : Addr) : kg.get? b = h₀.get? b := by
  cases e : h₀.get? b with
  | none => exact T.none_ b e
  | some o => exact T.other b o e (by simp)
theorem fr0 (T : KtsTurn (([] : List Env).filterMap (·.frame)) h₀ kg) (F : Fr kg L h m) : Fr h₀ L h m := ⟨F.ns, fun b o e => F.keep b o ((kts0 T b).trans e), by rw [← T.size]; exact F.above⟩
theorem news0 (T : KtsTurn (([] : List Env).filterMap (·.frame)) h₀ kg) (N : News kg L h news) : News h₀ L h news := fun q hq => ⟨(N q hq).1, (N q hq).2.1, (kts0 T _).symm.trans (N q hq).2.2⟩
theorem dicts0 : KtsDicts (([] : List Env).filterMap (·.frame)) h₀ := fun b hb => by simp at hb
theorem con_let0 {Q : Value → Shared → Prop} {nm : Str} {tn : Tok} {i bt : Nat} {WL : Addr} {vs : Array Value} {n : Nat} {l : List Str}
    (B : Below A₀ h₀ [] h₀) (F : Fr h₀ L s.heap m) (X : (Mine.hd.heap_1 w.params).In h₀) (N : News h₀ L s.heap news) (T : Top p loose mean mg mb h₀) (hk : cs.kind = .function)
    (hd : dp + 15 < recursionLimit) (hu : un + 600 < cLine) (hi : fieldNames[i]? = some nm) (hb : fieldBits[i]? = some bt) (hW : (WL, W.listOf vs n) ∈ news) (hsz : vs.size ≤ 100)
    (hvs : StrsAre vs.toList l) (hl : (l.all fun ws => noneB nm bt ws && decide (ws.length ≤ 100)) = true)
    (hret : ∀ LD h' tk', AllNe LD news → Fr h₀ L h' m → News h₀ L h' ((LD, LCg.lst []) :: news) → Q (.ref LD) { s with heap := h', toks := tk' }) :
    wpAny (model prog w) (ktrTop dp un gd cn cs L a ccd [] []) (call (.ref 204) [.str nm tn, .ref WL]) Q E s :=
  con_let B F X N T dicts0 X T hk hd hu hi hb hW hsz (strs_none hl hvs) fun LD hne kg h' tk' T1 F' N' _ _ _ _ => hret LD h' tk' hne (fr0 T1 F') (news0 T1 N')
theorem con_range0 {Q : Value → Shared → Prop} {nm : Str} {ti tn tl th : Tok} {i bt : Nat} {lo up : Int}
    (B : Below A₀ h₀ [] h₀) (F : Fr h₀ L s.heap m) (X : (Mine.hd.heap_1 w.params).In h₀) (N : News h₀ L s.heap news) (T : Top p loose mean mg mb h₀) (hk : cs.kind = .function)
    (hd : dp + 15 < recursionLimit) (hu : un + 600 < cLine) (hi : fieldNames[i]? = some nm) (hb : fieldBits[i]? = some bt) (h0 : 0 ≤ lo) (h1 : lo ≤ up) (h2 : up < 2 ^ ((bt : Int)).toNat)
    (hret : ∀ h' tk', Fr h₀ L h' m → News h₀ L h' news → Q (.bool true) { s with heap := h', toks := tk' }) :
    wpAny (model prog w) (ktrTop dp un gd cn cs L a ccd [] []) (call (.ref 192) [.int (i : Int) ti, .str nm tn, .int lo tl, .int up th]) Q E s := by
  obtain ⟨lo', rfl⟩ := Int.eq_ofNat_of_zero_le h0
  obtain ⟨up', rfl⟩ := Int.eq_ofNat_of_zero_le (Int.le_trans h0 h1)
  rw [top_nat] at h2
  have h2' : up' < 2 ^ bt := Int.ofNat_lt.mp h2
  have h48 := two_pow_le (bits_le hb).1 h2'
  exact rangeN B F X N T dicts0 X T hk hd hu hi hb (bits_le hb).1 (Int.ofNat_le.mp h1) (by omega) (fits_range (Int.ofNat_le.mp h1) h2') hret
theorem con_mask0 {Q : Value → Shared → Prop} {nm : Str} {ti tn tb tv tm : Tok} {i bt : Nat} {v k : Int}
    (B : Below A₀ h₀ [] h₀) (F : Fr h₀ L s.heap m) (X : (Mine.hd.heap_1 w.params).In h₀) (N : News h₀ L s.heap news) (T : Top p loose mean mg mb h₀) (hk : cs.kind = .function)
    (hd : dp + 15 < recursionLimit) (hu : un + 600 < cLine) (hi : fieldNames[i]? = some nm) (hb : fieldBits[i]? = some bt) (h0 : 0 ≤ v) (h1 : v < 2 ^ ((bt : Int)).toNat) (h2 : 0 ≤ k) (h3 : k < 2 ^ ((bt : Int)).toNat)
    (hret : ∀ h' tk', Fr h₀ L h' m → News h₀ L h' news → Q (.bool true) { s with heap := h', toks := tk' }) :
    wpAny (model prog w) (ktrTop dp un gd cn cs L a ccd [] []) (call (.ref 199) [.int (i : Int) ti, .str nm tn, .int (bt : Int) tb, .int v tv, .int k tm]) Q E s := by
  obtain ⟨v', rfl⟩ := Int.eq_ofNat_of_zero_le h0
  obtain ⟨k', rfl⟩ := Int.eq_ofNat_of_zero_le h2
  rw [top_nat] at h1 h3
  exact maskN B F X N T dicts0 X T hk hd hu hi hb (bits_le hb).1 (bits_le hb).2 (Int.ofNat_lt.mp h1) (Int.ofNat_lt.mp h3) hret
theorem con_prio {Q : Value → Shared → Prop} {x : Str} {tx : Tok} (e : x = Str.ofString "let priority 00000000000000000001-00000000000000000006")
    (B : Below A₀ h₀ [] h₀) (F : Fr h₀ L s.heap m) (X : (Mine.hd.heap_1 w.params).In h₀) (N : News h₀ L s.heap news) (T : Top p loose mean mg mb h₀) (hk : cs.kind = .function)
    (hd : dp + 12 < recursionLimit) (hu : un + 300 < cLine)
    (hret : ∀ x dx D T o' c1 c2 t1 t2 t3 ta h' tk', Fr h₀ L h' m → News h₀ L h' ((x, instObj 106 dx) :: (dx, ruleDict w (.str (Str.ofString "let") ta) c1 c2 D) :: (D, o') :: (T, tupObj [.str (Str.ofString "range") t1, .int 1 t2, .int 6 t3]) :: news) → (D == sysModules) = false →
      Obj.IsDictOf (intKind prog w) o' [(((4 : Nat) : Int), .ref T)] → Q (.ref x) { s with heap := h', toks := tk' }) :
    wpAny (model prog w) (ktrTop dp un gd cn cs L a ccd [] []) (call (.ref 173) [.str x tx]) Q E s := by
  subst e
  exact con_readOk (ac := Str.ofString "let") (nm := Str.ofString "priority") (ws := Str.ofString "00000000000000000001-00000000000000000006") (i := 4) (bt := 3) B F X N T dicts0 X T hk hd hu (by decide +kernel) (by decide +kernel) rfl rfl (by decide) (by decide +kernel) (.inl rfl) (by decide +kernel) (by decide +kernel) hret
theorem con_markOk {Q : Value → Shared → Prop} {x : Str} {tx : Tok} (ws : Str) (n : Int) (e : x = Str.ofString "mark " ++ ws) (hw : (Txt.words (Str.ofString "mark " ++ ws) == [Str.ofString "mark", ws]) = true) (hf : (figs (Str.ofString "0123456789") ws == some n) = true) (hn : (decide (0 ≤ n) && decide (n ≤ 7)) = true) (hl : (decide (ws.length ≤ 100) && decide ((Str.ofString "mark " ++ ws).length ≤ 1000)) = true)
    (B : Below A₀ h₀ [] h₀) (F : Fr h₀ L s.heap m) (X : (Mine.hd.heap_1 w.params).In h₀) (N : News h₀ L s.heap news) (T : Top p loose mean mg mb h₀) (hk : cs.kind = .function)
    (hd : dp + 12 < recursionLimit) (hu : un + 300 < cLine)
    (hret : ∀ x dx D TA o' c1 c2 t1 t2 h' tk', AllNe x news → AllNe dx news → AllNe D news → AllNe TA news → Fr h₀ L h' m → News h₀ L h' ((x, instObj 106 dx) :: (dx, ruleDict w (.ref TA) c1 c2 D) :: (D, o') :: (TA, tupObj [.str (Str.ofString "mark") t1, .int n t2]) :: news) → (D == sysModules) = false →
      Obj.IsDictOf (intKind prog w) o' [] → Q (.ref x) { s with heap := h', toks := tk' }) :
    wpAny (model prog w) (ktrTop dp un gd cn cs L a ccd [] []) (call (.ref 173) [.str x tx]) Q E s := by
  subst e
  have hf := eq_of_beq hf
  obtain ⟨n0, n7⟩ := Bool.and_eq_true_iff.mp hn
  obtain ⟨l1, l2⟩ := Bool.and_eq_true_iff.mp hl
  have n7 := of_decide_eq_true n7
  refine con_mark B F X N T dicts0 X T hk hd hu (of_decide_eq_true l2) (of_decide_eq_true l1) (eq_of_beq hw) (fun k e => ?_) (fun k e _ => ?_) fun hn => ?_
  · rw [hf] at e; cases e; exact of_decide_eq_true n0
  · rw [hf] at e; cases e; exact hret
  · have := hn n hf; omega
/-- is a word no mark -/
def nomarkB (ws : Str) : Bool := decide (ws.length ≤ 100) && decide ((Str.ofString "mark " ++ ws).length ≤ 1000) && (((Txt.words (Str.ofString "mark " ++ ws) == [Str.ofString "mark", ws]) && (match figs (Str.ofString "0123456789") ws with | none => true | some n => decide (7 < n))) || (Txt.words (Str.ofString "mark " ++ ws) == [Str.ofString "mark"]))
theorem con_markNo {Q : Value → Shared → Prop} {x : Str} {tx : Tok} (ws : Str) (e : x = Str.ofString "mark " ++ ws) (hb : nomarkB ws = true)
    (B : Below A₀ h₀ [] h₀) (F : Fr h₀ L s.heap m) (X : (Mine.hd.heap_1 w.params).In h₀) (N : News h₀ L s.heap news) (T : Top p loose mean mg mb h₀) (hk : cs.kind = .function)
    (hd : dp + 12 < recursionLimit) (hu : un + 300 < cLine)
    (hret : ∀ h' tk', Fr h₀ L h' m → News h₀ L h' news → Q .none { s with heap := h', toks := tk' }) :
    wpAny (model prog w) (ktrTop dp un gd cn cs L a ccd [] []) (call (.ref 173) [.str x tx]) Q E s := by
  subst e
  unfold nomarkB at hb
  obtain ⟨hl, hb⟩ := Bool.and_eq_true_iff.mp hb
  obtain ⟨l1, l2⟩ := Bool.and_eq_true_iff.mp hl
  rcases Bool.or_eq_true_iff.mp hb with hb | hb
  · obtain ⟨hw, hf⟩ := Bool.and_eq_true_iff.mp hb
    refine con_mark B F X N T dicts0 X T hk hd hu (of_decide_eq_true l2) (of_decide_eq_true l1) (eq_of_beq hw) (fun k e => ?_) (fun k e h7 => ?_) fun hn kg h' tk' T1 F' N' _ _ _ _ => hret h' tk' (fr0 T1 F') (news0 T1 N')
    · rw [e] at hf; have := of_decide_eq_true hf; omega
    · rw [e] at hf; have := of_decide_eq_true hf; omega
  · exact con_mark0 B F X N T dicts0 X T hk hd hu (of_decide_eq_true l2) (eq_of_beq hb) fun kg h' tk' T1 F' N' _ _ _ _ => hret h' tk' (fr0 T1 F') (news0 T1 N')
end

-- M29body.txt
theorem by_a (bt : Nat) : Str.ofString "0-" ++ Str.ofString (toString ((2 : Int) ^ ((bt : Int)).toNat)) = Str.ofString "0-" ++ txt (digs 10 (2 ^ bt)) := by rw [top_nat, dec_text]
theorem by_b (bt : Nat) : Str.ofString (toString ((2 : Int) ^ ((bt : Int)).toNat)) ++ Str.ofString "-" ++ Str.ofString (toString ((2 : Int) ^ ((bt : Int)).toNat)) = txt (digs 10 (2 ^ bt)) ++ Str.ofString "-" ++ txt (digs 10 (2 ^ bt)) := by rw [top_nat, dec_text]
theorem by_c (bt : Nat) : Str.ofString "0/" ++ txt (digs 16 ((2 : Int) ^ ((bt : Int)).toNat).natAbs) = Str.ofString "0/" ++ txt (digs 16 (2 ^ bt)) := by rw [top_nat, Int.natAbs_natCast]
theorem by_d (bt : Nat) : txt (digs 16 ((2 : Int) ^ ((bt : Int)).toNat).natAbs) ++ Str.ofString "/1" = txt (digs 16 (2 ^ bt)) ++ Str.ofString "/1" := by rw [top_nat, Int.natAbs_natCast]
theorem news_ne {h₀ h h' g : Heap} {L L' S : Addr} {o : Obj} {news : List (Addr × Obj)} (N : News h₀ L h news) (hR : Rest h g []) (N' : News g L' h' [(S, o)]) : AllNe S news := allNe_of fun q hq e => by
  have z1 := (N' _ (.head _)).2.2
  have z2 := hR _ _ (N q hq).1 (by simp)
  rw [e] at z2
  exact absurd (z2.symm.trans z1) (by simp)

section Ex3538
example : True := by
  k_with "binaryOp Add str str" => (k_here; (with_reducible show wpAny _ _ (binaryOp Operator.Add (Value.str _ _) (Value.str _ _)) _ _ _); k_dflt (refine' addS ?k1 ?k2 ?_; (case k1 => first | assumption | (decide +kernel) | ((try simp only [Str.length_append]); omega)); (case k2 => first | assumption | (decide +kernel) | ((try simp only [Str.length_append]); omega))); intro t'w9 k'w9)
  k_with "binaryOp Mod str int" => (k_here; (with_reducible show wpAny _ _ (binaryOp Operator.Mod (Value.str _ _) (Value.int _ _)) _ _ _); k_dflt (refine' hex_mod ?k1 ?_; (case k1 => assumption)); intro t'w9 k'w9)
  trivial
section
variable {prog : Program} {w : World} {dp un : Nat} {gd : Option (List Code)} {cn : Str} {cs : Scope} {a : Addr} {ccd : Value} {outer : List Env} {A₀ : Around} {base h₀ : Heap} {L : Addr} {m : Str → Option Value} {news : List (Addr × Obj)} {s : Shared}
    {E : Value → Shared → Prop} {p : Program} {loose : List Str} {mean : ExcName → Option Value} {mg mb : Str → Option Value}
set_option maxHeartbeats 8000000 in
theorem con_beyond {Q : Value → Shared → Prop} {tb : Tok} {bt : Nat}
    (B : Below A₀ base outer h₀) (F : Fr h₀ L s.heap m) (X : (Mine.hd.heap_1 w.params).In h₀) (N : News h₀ L s.heap news) (T : Top p loose mean mg mb h₀) (hk : cs.kind = .function)
    (hd : dp + 7 < recursionLimit) (hu : un + 200 < cLine) (hb48 : bt ≤ 48)
    (hret : ∀ BL vs n h' tk', vs.size ≤ 100 → StrsAre vs.toList (beyond bt) → AllNe BL news → Fr h₀ L h' m → News h₀ L h' ((BL, W.listOf vs n) :: news) → Q (.ref BL) { s with heap := h', toks := tk' }) :
    wpAny (model prog w) (ktrTop dp un gd cn cs L a ccd [] outer) (call (.ref 211) [.int (bt : Int) tb]) Q E s := by
  have hT0 := top_pos bt
  have hT1 := top_fits hb48
  have hT2 := top_hex hb48
  have hT3 : (Str.ofString (toString ((2 : Int) ^ ((bt : Int)).toNat))).length ≤ 20 := by
    rw [top_nat] at hT1 ⊢
    rw [dec_text, txt_len]; exact digs_len (by decide) (by decide) (by omega)
  have hT4 : (txt (digs 16 ((2 : Int) ^ ((bt : Int)).toNat).natAbs)).length ≤ 20 := by rw [txt_len]; exact digs_len (by decide) (by decide) (by omega)
  have z1 : (Str.ofString "0-").length ≤ 5 := by decide +kernel
  have z2 : (Str.ofString "-").length ≤ 5 := by decide +kernel
  have z3 : (Str.ofString "0/").length ≤ 5 := by decide +kernel
  have z4 : (Str.ofString "/1").length ≤ 5 := by decide +kernel
  refine wpAny_call ?_
  refine ctr_code [] B F X (fun q hq => nomatch hq) T rfl hk (by k_is) (by k_is) (by ktr_room) (BindsTo.of_eq rfl) (locs rfl) ?_ rfl rfl rfl (by decide)
  k_whole
  intro g' L' h' hR FG' F' N' B' X' T'
  (try dsimp only)
  (try k_fold)
  k_steps
  all_goals
    (rename Fr g' L' _ _ => zF
     rename News g' L' _ _ => zN
     refine' hret _ _ _ _ _ ?_ ?_ (news_ne N hR zN) (ctr_frN FG' zF) (news_front FG' N hR zF zN))
  · exact Nat.le_of_ble_eq_true rfl
  · dsimp only [beyond, odds]
    repeat' (first | exact .nil | refine strs_cons ?_ ?_ | with_reducible rfl | exact by_a _ | exact by_b _ | exact by_c _ | exact by_d _ | rfl | decide +kernel)
set_option maxHeartbeats 8000000 in
theorem con_odds {Q : Value → Shared → Prop} 
    (B : Below A₀ base outer h₀) (F : Fr h₀ L s.heap m) (X : (Mine.hd.heap_1 w.params).In h₀) (N : News h₀ L s.heap news) (T : Top p loose mean mg mb h₀) (hk : cs.kind = .function)
    (hd : dp + 7 < recursionLimit) (hu : un + 200 < cLine) 
    (hret : ∀ BL vs n h' tk', vs.size ≤ 100 → StrsAre vs.toList odds → AllNe BL news → Fr h₀ L h' m → News h₀ L h' ((BL, W.listOf vs n) :: news) → Q (.ref BL) { s with heap := h', toks := tk' }) :
    wpAny (model prog w) (ktrTop dp un gd cn cs L a ccd [] outer) (call (.ref 218) []) Q E s := by
  refine wpAny_call ?_
  refine ctr_code [] B F X (fun q hq => nomatch hq) T rfl hk (by k_is) (by k_is) (by ktr_room) (BindsTo.of_eq rfl) (locs rfl) ?_ rfl rfl rfl (by decide)
  k_whole
  intro g' L' h' hR FG' F' N' B' X' T'
  (try dsimp only)
  (try k_fold)
  k_steps
  all_goals
    (rename Fr g' L' _ _ => zF
     rename News g' L' _ _ => zN
     refine' hret _ _ _ _ _ ?_ ?_ (news_ne N hR zN) (ctr_frN FG' zF) (news_front FG' N hR zF zN))
  · exact Nat.le_of_ble_eq_true rfl
  · dsimp only [beyond, odds]
    repeat' (first | exact .nil | refine strs_cons ?_ ?_ | with_reducible rfl | exact by_a _ | exact by_b _ | exact by_c _ | exact by_d _ | rfl | decide +kernel)
end

example : True := by
  k_with_none
  k_with "ite" => (k_here; (with_reducible show (if (!_) = true then _ else _)); (with_reducible refine' ite_no ?itb ?_); (case itb => k_dflt decide))
  k_with "w k_in" => (refine' Frag.In.keeps ?xa (Fr.keep ?xb); (case xb => with_reducible assumption); (case xa => with_reducible assumption))
  k_with "w k_all" => first | exact allNe (by assumption) | exact allNe (allLt_le (by assumption) (by (try dsimp only); omega))
  k_with "w k_room" => ktr_room
  k_with "w ktr_enter" => (refine' code_def ?k1 ?k2 ?k3 ?k4 ?k5 ?kA ?kF ?kK ?k6 ?k7 ?k8 ?k9 ?kB ?_ ?c2 ?c3 ?c4 ?c5; (case kA => exact rfl); (case kF => exact rfl); (case kK => first | exact rfl | assumption); (case k1 => k_asm); (case k2 => k_asm); (case k3 => k_asm); (case k4 => k_asm); (case k5 => k_asm); (case k6 => k_is); (case k7 => k_is); (case k8 => ktr_room); (case k9 => first | exact BindsTo.of_eq rfl | exact binds_K (by k_in) rfl (by k_is) rfl rfl rfl | fail "ktr_enter: no rule for these arguments"); (case c5 => decide); (case kB => exact locs rfl); (case c2 => exact rfl); (case c3 => exact rfl); (case c4 => exact rfl); k_whole; intro g'w9 L'w9 h'w9 FG'w9 F'w9 N'w9 B'w9 X'w9 T'w9; (try dsimp only); (try k_lift B'w9); (try k_fold))
  k_with "getMethod type:Exception" => (k_here; refine' method_type ?F ?X ?m (by decide +kernel) ?e ?h ?_; (case F => k_asm); (case X => k_asm); (case m => exact meta_Exception); (case e => k_dflt k_is); (case h => k_handed))
  k_with "call builtin:Exception.__init__" => (k_here; k_dflt (refine' se_bInit ?k1 ?k2 ?k3 ?k4 ?k5 ?k6 ?k7 ?_; (case k1 => k_asm); (case k2 => k_asm); (case k3 => k_asm); (case k4 => k_mem); (case k5 => k_is); (case k6 => decide); (case k7 => intro t'w9; k_upd)); intro t'w9 h'w9 F'w9 N'w9 l1w9; (try k_lt l1w9); (try k_sweep))
  k_with "setAttr ref" => (k_here; k_dflt (refine' se_set1 ?k1 ?k2 ?k3 ?k4 ?k5 ?k6 ?k7 ?k8 ?k9 ?k10 ?k11 ?_; (case k1 => k_asm); (case k2 => k_asm); (case k3 => k_asm); (case k4 => k_mem); (case k5 => k_is); (case k6 => rfl); (case k7 => k_is); (case k8 => exact se_pass); (case k9 => k_is); (case k10 => k_is); (case k11 => intro t'w9; k_upd)); intro t'w9 h'w9 F'w9 N'w9 l1w9; (try k_lt l1w9); (try k_sweep))
  k_with "setAttr ref" => (k_here; k_dflt (refine' se_set2 ?k1 ?k2 ?k3 ?k4 ?kd ?k5 ?k6 ?k7 ?k8 ?k9 ?k10 ?k11 ?k12 ?k13 ?k14 ?_; (case k1 => k_asm); (case k2 => k_asm); (case k3 => k_asm); (case k4 => k_mem); (case kd => k_mem); (case k5 => k_is); (case k6 => rfl); (case k7 => k_is); (case k8 => exact se_pass); (case k9 => k_is); (case k10 => k_is); (case k11 => k_get); (case k12 => k_put); (case k13 => k_upd); (case k14 => exact Nat.le_of_ble_eq_true rfl)); intro h'w9 F'w9 N'w9; (try k_sweep))
  k_with "exec Raise some none" => (k_here; k_dflt (refine' se_Raise ?h ?_; (case h => exact rfl)))
  k_with "call ref" => (k_here; (with_reducible show wpAny _ _ (call (Value.ref 54) [Value.str _ _]) _ _ _); k_dflt (refine' se_make ?k1 ?k2 ?k3 ?k4 ?k5 ?k6 ?k7 ?_; (case k1 => k_asm); (case k2 => k_asm); (case k3 => k_asm); (case k4 => k_asm); (case k5 => k_asm); (case k6 => first | exact rfl | assumption); (case k7 => ktr_room)); intro e'w9 t'w9 d'w9 h'w9 tk'w9 F'w9 N'w9 l1w9 l2w9; (replace l1w9 := allLt_of l1w9); (have l1bw9 := l1w9); (try simp only [AllLt, and_true] at l1bw9); (try k_lt2 l2w9); (try k_sweep))
  k_with "SeRaised" => (refine' ⟨_, _, _, rfl, ?X, ?m, ?_⟩; (case X => k_in); (case m => exact News.get (by k_asm) (by k_mem)))
  k_with "leaving ref" => (k_here; k_dflt (refine' se_leave ?k1 ?k2 ?k3 ?k4 ?k5 ?_; (case k2 => k_asm); (case k1 => k_asm); (case k3 => k_asm); (case k4 => first | assumption | (simp only [AllLt, and_true]; omega)); (case k5 => omega)); intro h'w9 R'w9 R2'w9 U'w9; (try dsimp only at R'w9 R2'w9 U'w9 ⊢))
  k_with "call ref" => (k_here; (with_reducible show wpAny _ _ (call (Value.ref 117) [Value.str _ _, Value.str _ _]) _ _ _); k_dflt (refine' con_figs ?k1 ?k2 ?k3 ?k4 ?k5 ?k6 ?k7 ?k8 ?k9 (fun f'w9 t'w9 h'w9 tk'w9 hf'w9 F'w9 N'w9 => ?_) (fun hE'w9 g'w9 e'w9 t'w9 vs'w9 h'w9 tk'w9 G'w9 B'w9 R'w9 U'w9 => ?_); (case k1 => k_asm); (case k2 => k_asm); (case k3 => k_asm); (case k4 => k_asm); (case k5 => k_asm); (case k6 => first | exact rfl | assumption); (case k7 => ktr_room); (case k8 => first | assumption | decide); (case k9 => decide)); all_goals (try k_sweep))
  k_with "w k_upd" => first | (refine' Drop.head ?a; (case a => k_all)) | (refine' Drop.tail ?a ?b; (case a => k_ne); (case b => k_upd))
  k_with "exec For Tuple Tuple cons nil" => (k_here; k_dflt (refine' for_enter ?_ ?hs; (case hs => intro _; exact rfl)))
  k_with "exec For Name Call cons nil" => (k_here; k_dflt (refine' for_enter ?_ ?hs; (case hs => intro _; exact rfl)))
  k_with "pyIter ref" => (k_here; (with_reducible show wpAny _ _ (pyIter (Value.ref _)) (ForAt _ _ _ _ _ _ _ _) _ _); k_dflt (first | (refine' iter_tuple_K ?k1 ?k2 ?k3 ?_; (case k1 => k_asm); (case k2 => k_asm); (case k3 => k_mem)) | (refine' iter_list_K ?k1 ?k2 ?k3 ?_; (case k1 => k_asm); (case k2 => k_asm); (case k3 => k_mem)) | (refine' iter_range_K ?k1 ?k2 ?k3 ?k4 ?_; (case k1 => k_asm); (case k2 => k_asm); (case k3 => assumption); (case k4 => decide))); intro I'w9 h'w9 F'w9 N'w9 l1w9; (try k_lt l1w9); (try k_sweep))
  k_with "ForAt" => (refine ⟨_, rfl, ?_⟩)
  k_with "ForGo" => (refine for_turn (by passes_own) ?_)
  k_with "pyNext ref" => (k_here; k_dflt (first | (refine' next_tuple_K ?k1 ?k2 ?k3 ?k4 ?k5 ?k6 ?_; (case k1 => k_asm); (case k2 => k_asm); (case k3 => k_mem); (case k4 => k_mem); (case k5 => exact rfl); (case k6 => intro d'w9 sl'w9; k_upd); intro d'w9 sl'w9 h'w9 F'w9 N'w9; (try k_sweep)) | (refine' end_tuple_K ?k0 ?k1 ?k2 ?k3 ?k4 ?k5 ?k6 ?_; (case k0 => exact rfl); (case k1 => k_asm); (case k2 => k_asm); (case k3 => k_mem); (case k4 => k_mem); (case k5 => exact rfl); (case k6 => k_upd); intro h'w9 F'w9 N'w9; (try k_sweep)) | (refine' next_list_K ?k1 ?k2 ?k3 ?k4 ?k5 ?k6 ?_; (case k1 => k_asm); (case k2 => k_asm); (case k3 => k_mem); (case k4 => k_mem); (case k5 => exact rfl); (case k6 => intro d'w9 sl'w9; k_upd); intro d'w9 sl'w9 h'w9 F'w9 N'w9; (try k_sweep)) | (refine' end_list_K ?k0 ?k1 ?k2 ?k3 ?k4 ?k5 ?k6 ?_; (case k0 => exact rfl); (case k1 => k_asm); (case k2 => k_asm); (case k3 => k_mem); (case k4 => k_mem); (case k5 => exact rfl); (case k6 => k_upd); intro h'w9 F'w9 N'w9; (try k_sweep)) | (refine' next_range_K ?k1 ?k2 ?k3 ?k4 ?k5 ?_; (case k1 => k_asm); (case k2 => k_asm); (case k3 => k_mem); (case k4 => decide); (case k5 => k_upd); intro h'w9 F'w9 N'w9; (try k_sweep)) | (refine' end_range_K ?k0 ?k1 ?k2 ?k3 ?k4 ?k5 ?_; (case k0 => exact rfl); (case k1 => k_asm); (case k2 => k_asm); (case k3 => k_mem); (case k4 => decide); (case k5 => k_upd); intro h'w9 F'w9 N'w9; (try k_sweep))))
  k_with "ForNext" => (dsimp only [ForNext])
  k_with "ForBody" => (dsimp only [ForBody])
  k_with "letOwnedTupleGo" => (k_here; k_dflt (first | (refine' let_name_K ?_; k_whole) | (refine' let_iter_K ?k1 ?k2 ?k3 ?_; (case k1 => k_asm); (case k2 => k_mem); (case k3 => decide))))
  k_with "call builtin:str.split" => (k_here; (with_reducible show wpAny _ _ (call (Value.builtin "str.split") [Value.str _ _, Value.str _ _]) _ _ _); k_dflt (refine' KSpl.split1 ?k1 ?k2 ?k3 ?_ ?k4; (case k1 => k_asm); (case k2 => k_asm); (case k3 => decide); (case k4 => exact line_of_le (by assumption))); intro D'w9 l'w9 h'w9 k'w9 e'w9 a'w9 F'w9 N'w9 l1w9; (try k_lt l1w9); first | ((replace e'w9 := e'w9.trans (by assumption)); (kspl_open e'w9); (simp only [strValues, List.map_cons, List.map_nil] at N'w9 a'w9); (try k_sweep)) | ((have hlen'w9 := split_ne e'w9 (by assumption)); (try k_sweep)))
  k_with "leaving ref" => (k_here; k_dflt (refine' leave_onS ?k1 ?k2 ?k3 ?k4 ?_; (case k3 => assumption); (case k2 => assumption); (case k1 => assumption); (case k4 => assumption)); intro h'w9 S'w9 R'w9 U'w9; (try dsimp only at S'w9 R'w9 U'w9 ⊢))
  k_with "call ref" => (k_here; (with_reducible show wpAny _ _ (call (Value.ref 124) [Value.str _ _]) _ _ _); k_dflt (refine' con_wish ?k1 ?k2 ?k3 ?k4 ?k5 ?k6 ?k7 ?k8 ?k9 ?k10 (fun wd'w9 f1'w9 f2'w9 t1'w9 t2'w9 t3'w9 D'w9 h'w9 tk'w9 hf'w9 F'w9 N'w9 l1w9 => ?_) (fun hE'w9 g'w9 e'w9 t'w9 vs'w9 h'w9 tk'w9 G'w9 B'w9 R'w9 U'w9 => ?_); (case k1 => k_asm); (case k2 => k_asm); (case k3 => k_asm); (case k4 => k_asm); (case k5 => k_asm); (case k6 => first | exact rfl | assumption); (case k7 => ktr_room); (case k8 => assumption); (case k9 => assumption); (case k10 => assumption)); all_goals (try simp only [AllLt, and_true] at l1w9); all_goals (try k_sweep))
  k_with "compareOp In ref ref" => (k_here; k_dflt (refine' in_two ?k1 ?k2 ?k3 ?k4 ?k5 ?k6 ?k7 ?k8 ?k9 ?k10 ?k11 ?_; (case k1 => exact isTup_of (by k_asm) (by k_mem)); (case k4 => ked_read); (case k5 => ked_read); (case k6 => ked_read); (case k2 => k_ne); (case k3 => k_ne); (case k7 => first | assumption | decide +kernel | ked_shaped); (case k8 => first | decide +kernel | ked_shaped); (case k9 => first | decide +kernel | ked_shaped); (case k10 => ktr_units); (case k11 => first | assumption | decide +kernel | rfl)))
  k_with "call builtin:str.split" => (k_here; (with_reducible show wpAny _ _ (call (Value.builtin "str.split") [Value.str _ _]) _ _ _); k_dflt (refine' KSpl.split0 ?k1 ?k2 ?_ ?k4; (case k1 => k_asm); (case k2 => k_asm); (case k4 => exact line_of_le (by assumption))); intro D'w9 l'w9 h'w9 k'w9 e'w9 a'w9 F'w9 N'w9 l1w9; (try k_lt l1w9); (replace e'w9 := e'w9.trans (by assumption)); (kspl_open e'w9); (simp only [strValues, List.map_cons, List.map_nil] at N'w9 a'w9); (try k_sweep))
  k_with "compareOp NotIn str ref" => (k_here; k_dflt (refine' notin_names ?X ?h ?_; (case X => k_in); (case h => assumption)))
  k_with "call builtin:tuple.index" => (k_here; k_dflt (refine' index_names ?X ?h ?_; (case X => k_in); (case h => assumption)))
  k_with "getMethod ref" => (k_here; k_dflt (refine' meth_names ?X ?_; (case X => k_in)))
  k_with "call ref" => (k_here; (with_reducible show wpAny _ _ (call (Value.ref 124) [Value.str _ _]) _ _ _); k_dflt (refine' con_wishOk ?k0 ?k1 ?k2 ?k3 ?k4 ?k5 ?k6 ?k7 ?k8 ?k9 ?k10 (fun t1'w9 t2'w9 t3'w9 D'w9 h'w9 tk'w9 F'w9 N'w9 l1w9 => ?_); (case k0 => assumption); (case k1 => k_asm); (case k2 => k_asm); (case k3 => k_asm); (case k4 => k_asm); (case k5 => k_asm); (case k6 => first | exact rfl | assumption); (case k7 => ktr_room); (case k8 => assumption); (case k9 => assumption); (case k10 => assumption)); (try simp only [AllLt, and_true] at l1w9); (try k_sweep))
  k_with "w cell_enter" => (refine' ctr_enter ?k1 ?k2 ?k3 ?k4 ?k5 ?kA ?kK ?k6 ?k7 ?k8 ?k9 ?kB ?_ ?c2 ?c3 ?c4 ?c5; (case kA => exact rfl); (case kK => first | exact rfl | assumption); (case k2 => k_asm); (case k1 => k_asm); (case k3 => k_asm); (case k4 => k_asm); (case k5 => k_asm); (case k6 => k_is); (case k7 => k_is); (case k8 => ktr_room); (case k9 => first | exact BindsTo.of_eq rfl | exact binds_K (by k_in) rfl (by k_is) rfl rfl rfl | fail "ctr_enter: no rule for these arguments"); (case c5 => decide); (case kB => exact locs rfl); (case c2 => exact rfl); (case c3 => exact rfl); (case c4 => exact rfl); k_whole; intro L'w9 h'w9 F'w9 N'w9 B'w9 X'w9 T'w9 D'w9; (try dsimp only); (try k_lift B'w9); (try k_fold))
  k_with "call builtin:sorted" => (k_here; (with_reducible show wpAny _ _ (call (Value.builtin "sorted") [Value.ref _]) _ _ _); k_dflt (refine' sorted_one ?k0 ?k1 ?k2 ?k3 ?k4 ?k5 ?_; (case k0 => exact rfl); (case k1 => k_asm); (case k2 => k_asm); (case k3 => k_mem); (case k4 => assumption); (case k5 => assumption)); intro B'w9 t'w9 h'w9 tk'w9 F'w9 N'w9 l1w9; (try k_lt l1w9); (try k_sweep))
  k_with "subscriptTail Name Name ref int" => (k_here; k_dflt (refine' kda_item (knd := PySem.intKind _ _) ?k1 ?k2 ?k3 ?k4 ?k5 ?_; (case k1 => k_asm); (case k2 => k_mem); (case k3 => k_asm); (case k4 => exact intKind_is _ _ _ _); (case k5 => exact valueAt_one)))
  k_with "subscriptTail Name Name ref int" => (k_here; (with_reducible show wpAny _ _ (subscriptTail _ _ (Value.ref 16) (Value.int _ _)) _ _ _); k_dflt (refine' bits_item ?X ?h ?_; (case X => k_in); (case h => assumption)); intro t'w9)
  k_with "testChain" => first | with_reducible refine test_link ?_ | with_reducible refine test_last ?_ | refine test_link ?_
  k_with "call ref" => (k_here; (with_reducible show wpAny _ _ (call (Value.ref 70) [Value.ref _, Value.int _ _]) _ _ _); k_dflt (refine' con_check ?k0 ?k1 ?k2 ?k3 ?k4 ?k5 ?k6 ?k7 ?k8 ?k9 (fun hf'w9 h'w9 tk'w9 F'w9 N'w9 => ?_) (fun hE'w9 g'w9 e'w9 t'w9 vs'w9 h'w9 tk'w9 G'w9 B'w9 R'w9 U'w9 => ?_); (case k0 => assumption); (case k1 => k_asm); (case k2 => k_asm); (case k3 => k_asm); (case k4 => k_asm); (case k5 => k_asm); (case k6 => first | exact rfl | assumption); (case k7 => ktr_room); (case k8 => omega); (case k9 => k_mem)); all_goals (try k_sweep))
  k_with "call type:dict" => (k_here; (with_reducible show wpAny _ _ (call (Value.type "dict") [Value.ref _]) _ _ _); k_dflt (refine' dict_one ?k1 ?k2 ?k3 ?k4 ?k5 ?k6 ?_; (case k1 => k_asm); (case k2 => k_asm); (case k3 => exact Top.nolimit (by k_asm)); (case k4 => k_mem); (case k5 => assumption); (case k6 => assumption)); intro D'w9 o'w9 h'w9 F'w9 N'w9 l1w9 lo'w9 ho'w9; (try k_lt l1w9); (try k_sweep))
  k_with "call ref" => (k_here; (with_reducible show wpAny _ _ (call (Value.ref 106) [Value.str _ _, Value.ref _]) _ _ _); k_dflt (refine' con_rule ?k1 ?k2 ?k3 ?k4 ?k5 ?k7 ?k8 ?k9 ?ka ?kb ?kc ?kd ?ke ?kf ?kg ?kh (fun hf'w9 x'w9 dx'w9 D'w9 o'w9 c1'w9 c2'w9 h'w9 tk'w9 F'w9 N'w9 l1w9 l2'w9 l3'w9 lo'w9 ho'w9 => ?_) (fun hE'w9 g'w9 e'w9 t'w9 vs'w9 h'w9 tk'w9 G'w9 B'w9 R'w9 U'w9 => ?_); (case k1 => k_asm); (case k2 => k_asm); (case k3 => k_asm); (case k4 => k_asm); (case k5 => k_asm); (case k7 => first | exact rfl | assumption); (case k8 => ktr_room); (case k9 => ktr_units); (case ka => assumption); (case kb => first | assumption | exact wishOf_wd (by assumption)); (case kc => assumption); (case kd => omega); (case ke => k_mem); (case kf => assumption); (case kh => assumption); (case kg => k_mem)); all_goals (try k_lt l1w9); all_goals (try k_sweep))
  k_with "exec For Tuple Call cons nil" => (k_here; k_dflt (refine' for_enter ?_ ?hs; (case hs => intro _; exact rfl)))
  k_with "eval ListComp" => (k_here; (with_reducible show wpAny _ _ (eval (Expr.ListComp (Expr.Tuple _ _ _) _ _ _) _) _ _ _); k_dflt (refine LCg.ListComp_U (F₀ := by k_asm) (by with_unfolding_all rfl) (by decide) (by rfl) (by decide) (by rfl) ?_); k_dflt lcg_toSrc)
  k_with "CompSrc" => (k_here; (with_reducible show LCg.CompSrc _ _ _ _ _ _ _ (Expr.Tuple _ _ _) _ _ _ _ _ _); k_dflt (refine LCg.CompSrc.ledger (by rfl) (by k_asm) (by k_asm) (by k_mem) (by first | size_fits | exact Nat.le_of_ble_eq_true rfl) ?_; intro g'w9; lcg_lit))
  k_with "getItem ref int" => (k_here; k_dflt (refine' kda_get (knd := PySem.intKind _ _) ?k1 ?k2 ?k3 ?k4 ?k5 ?_; (case k1 => k_asm); (case k2 => k_mem); (case k3 => k_asm); (case k4 => exact intKind_is _ _ _ _); (case k5 => exact valueAt_one)))
  k_with "call ref" => (k_here; (try dsimp only [List.cons_append, List.nil_append]); (with_reducible show wpAny _ _ (call (Value.ref 89) [Value.ref _]) _ _ _); k_dflt (refine' con_rows ?k1 ?k2 ?k3 ?k4 ?k5 ?k6 ?k7 ?k8 ?ka ?kb ?kc ?kd ?ke (fun L'w9 D'w9 t'w9 h'w9 tk'w9 F'w9 N'w9 => ?_); (case k1 => k_asm); (case k2 => k_asm); (case k3 => k_asm); (case k4 => k_asm); (case k5 => k_asm); (case k6 => first | exact rfl | assumption); (case k7 => ktr_room); (case k8 => ktr_units); (case ka => k_mem); (case kb => k_mem); (case kc => k_mem); (case kd => assumption); (case ke => assumption)); (try k_sweep))
  k_with "subscriptTail Name Name ref int" => (k_here; k_dflt (refine' key_item ?k1 ?k2 ?k3 ?k4 ?_; (case k1 => k_asm); (case k2 => k_mem); (case k3 => assumption); (case k4 => assumption)))
  k_with "subscriptTail Name Name ref int" => (k_here; k_dflt (refine' key_itemE ?k1 ?k2 ?k3 ?k4 ?_; (case k1 => k_asm); (case k2 => k_mem); (case k3 => exact met_item (by assumption) (by assumption) (by assumption)); (case k4 => exact met_size (by assumption))); intro t'w9)
  k_with "binaryOp Add str str" => (k_here; (with_reducible show wpAny _ _ (binaryOp Operator.Add (Value.str _ _) (Value.str _ _)) _ _ _); k_dflt (refine' addS ?k1 ?k2 ?_; (case k1 => first | assumption | (decide +kernel) | ((try simp only [Str.length_append]); omega)); (case k2 => first | assumption | (decide +kernel) | ((try simp only [Str.length_append]); omega))); intro t'w9 k'w9)
  k_with "call ref" => (k_here; (with_reducible show wpAny _ _ (call (Value.ref 173) [Value.str _ _]) _ _ _); k_dflt (refine' con_readOk ?k1 ?k2 ?k3 ?k4 ?k5 ?kD ?kXB ?kTB ?k6 ?k7 ?ku ?k8 ?k9 ?ka ?kb ?kc ?kd ?ke ?kf ?kg (fun x'w9 dx'w9 D'w9 T'w9 o'w9 c1'w9 c2'w9 t1'w9 t2'w9 t3'w9 ta'w9 h'w9 tk'w9 F'w9 N'w9 lo'w9 ho'w9 => ?_); (case k1 => k_asm); (case k2 => k_asm); (case k3 => k_asm); (case k4 => k_asm); (case k5 => k_asm); (case kD => k_asm); (case kXB => assumption); (case kTB => assumption); (case k6 => first | exact rfl | assumption); (case k7 => ktr_room); (case ku => ktr_units); (case k8 => first | assumption | ((try simp only [Str.length_append]); omega)); (case kd => assumption); (case ka => assumption); (case kb => assumption); (case kc => assumption); (case kf => assumption); (case kg => assumption); (case ke => first | exact Or.inl rfl | exact Or.inr rfl); (case k9 => assumption)); (try k_sweep))
  k_with "call ref" => (k_here; (with_reducible show wpAny _ _ (call (Value.ref 178) [Value.ref _, Value.int _ _, Value.int _ _]) _ _ _); k_dflt (refine' con_met ?k0 ?k1 ?k2 ?k3 ?k4 ?k5 ?k6 ?k7 ?k8 ?k9 ?ka ?kb ?kc ?kd ?ke ?kf (fun b'w9 h'w9 tk'w9 hb'w9 F'w9 N'w9 => ?_); (case k0 => first | exact Or.inr rfl | exact Or.inl rfl); (case k1 => k_asm); (case k2 => k_asm); (case k3 => k_asm); (case k4 => k_asm); (case k5 => k_asm); (case k6 => first | exact rfl | assumption); (case k7 => ktr_room); (case k8 => ktr_units); (case k9 => assumption); (case ka => k_mem); (case kb => k_mem); (case kc => k_mem); (case kf => assumption); (case kd => k_mem); (case ke => assumption)); (first | (cases hb'w9.symm.trans (holds_in (by omega) (by omega) (by omega))) | (cases hb'w9.symm.trans (holds_out (by omega)))); (try k_sweep))
  trivial
end Ex3538
-- S8body.txt

section
variable {prog : Program} {w : World} {dp un : Nat} {gd : Option (List Code)} {cn : Str} {cs : Scope} {a : Addr} {ccd : Value} {outer : List Env} {A₀ : Around} {base h₀ : Heap} {L : Addr} {m : Str → Option Value} {news : List (Addr × Obj)} {s : Shared}
    {E : Value → Shared → Prop} {p : Program} {loose : List Str} {mean : ExcName → Option Value} {mg mb : Str → Option Value}
theorem upd_keeps {S T : Addr} {o o' ot : Obj} {news news' : List (Addr × Obj)} (U : Upd S o o' news news') (hm : (T, ot) ∈ news) (hne : ot ≠ o) : (T, ot) ∈ news' := by
  obtain ⟨pre, post, rfl, rfl, _, _⟩ := U.split
  rcases List.mem_append.mp hm with h | h
  · exact List.mem_append_left _ h
  · rcases List.mem_cons.mp h with h | h
    · cases h; exact absurd rfl hne
    · exact List.mem_append_right _ (.tail _ h)
theorem con_oneI {Q : Value → Shared → Prop} {t0 t1 a0 a1 a2 a3 a4 : Tok} {x0 x1 g : Int} {S TL : Addr} {n k bt : Nat} {news' : Int → Int → Tok → Tok → List (Addr × Obj)}
    (B : Below A₀ base outer h₀) (F : Fr h₀ L s.heap m) (X : (Mine.hd.heap_1 w.params).In h₀) (N : News h₀ L s.heap news) (T : Top p loose mean mg mb h₀) (hk : cs.kind = .function)
    (hd : dp + 7 < recursionLimit) (hu : un + 200 < cLine) (hS : (S, srcObj x0 x1 t0 t1 n) ∈ news) (hT : (TL, W.listOf #[.int 0 a0, .int (2 ^ ((bt : Int)).toNat - 1) a1, .int 1 a2, .int (((2 : Int) ^ ((bt : Int)).toNat).fdiv 2) a3, .int (g.fmod (2 ^ ((bt : Int)).toNat)) a4] k) ∈ news) (h3 : 3 ≤ bt) (h0 : 0 ≤ x0) (h1 : 0 ≤ x1) (h2 : x1 < 2147483647)
    (U : ∀ y0 y1 u0 u1, Upd S (srcObj x0 x1 t0 t1 n) (srcObj y0 y1 u0 u1 n) news (news' y0 y1 u0 u1))
    (hret : ∀ v t y0 y1 u0 u1 h' tk', 0 ≤ v → v < 2 ^ ((bt : Int)).toNat → 0 ≤ y0 → 0 ≤ y1 → y1 < 2147483647 → Fr h₀ L h' m → News h₀ L h' (news' y0 y1 u0 u1) → Q (.int v t) { s with heap := h', toks := tk' }) :
    wpAny (model prog w) (ktrTop dp un gd cn cs L a ccd [] outer) (call (.ref 159) [.ref S, .ref TL]) Q E s :=
  con_one B F X N T hk hd hu hS hT (fun e => by subst e; have e1 := (N _ hS).1; rw [(N _ hT).1] at e1; simp [W.listOf] at e1) h0 h1 h2 (Nat.le_of_ble_eq_true rfl) (Nat.le_of_ble_eq_true rfl) U fun j v y0 y1 u0 u1 h' tk' hv c0 c1 c2 F' N' => by
    obtain ⟨q, t, rfl, d0, d1⟩ := mask_item h3 hv
    exact hret q t y0 y1 u0 u1 h' tk' d0 d1 c0 c1 c2 F' N'
theorem con_oneF {Q : Value → Shared → Prop} {t0 t1 : Tok} {x0 x1 : Int} {S TL T0 T1 T2 T3 T4 T5 T6 T7 T8 T9 : Addr} {a0 a1 a2 a3 a4 a5 a6 a7 a8 a9 b0 b1 b2 b3 b4 b5 b6 b7 b8 b9 : Tok} {n k : Nat} {news' : Int → Int → Tok → Tok → List (Addr × Obj)}
    (B : Below A₀ base outer h₀) (F : Fr h₀ L s.heap m) (X : (Mine.hd.heap_1 w.params).In h₀) (N : News h₀ L s.heap news) (T : Top p loose mean mg mb h₀) (hk : cs.kind = .function)
    (hd : dp + 7 < recursionLimit) (hu : un + 200 < cLine) (hS : (S, srcObj x0 x1 t0 t1 n) ∈ news) (hT : (TL, W.listOf #[.ref T0, .ref T1, .ref T2, .ref T3, .ref T4, .ref T5, .ref T6, .ref T7, .ref T8, .ref T9] k) ∈ news)
    (m0 : (T0, tupObj [.str (Str.ofString "target") a0, .int 48 b0]) ∈ news) (m1 : (T1, tupObj [.str (Str.ofString "source") a1, .int 48 b1]) ∈ news) (m2 : (T2, tupObj [.str (Str.ofString "kind") a2, .int 16 b2]) ∈ news) (m3 : (T3, tupObj [.str (Str.ofString "vlan") a3, .int 12 b3]) ∈ news) (m4 : (T4, tupObj [.str (Str.ofString "priority") a4, .int 3 b4]) ∈ news) (m5 : (T5, tupObj [.str (Str.ofString "ip_source") a5, .int 32 b5]) ∈ news) (m6 : (T6, tupObj [.str (Str.ofString "ip_target") a6, .int 32 b6]) ∈ news) (m7 : (T7, tupObj [.str (Str.ofString "protocol") a7, .int 8 b7]) ∈ news) (m8 : (T8, tupObj [.str (Str.ofString "source_port") a8, .int 16 b8]) ∈ news) (m9 : (T9, tupObj [.str (Str.ofString "target_port") a9, .int 16 b9]) ∈ news)
    (h0 : 0 ≤ x0) (h1 : 0 ≤ x1) (h2 : x1 < 2147483647)
    (U : ∀ y0 y1 u0 u1, Upd S (srcObj x0 x1 t0 t1 n) (srcObj y0 y1 u0 u1 n) news (news' y0 y1 u0 u1))
    (hret : ∀ (j : Nat) nm Tj (bt : Nat) t t' y0 y1 u0 u1 h' tk', fieldNames[j]? = some nm → fieldBits[j]? = some bt → (Tj, tupObj [.str nm t, .int (bt : Int) t']) ∈ news' y0 y1 u0 u1 → 0 ≤ y0 → 0 ≤ y1 → y1 < 2147483647 → Fr h₀ L h' m → News h₀ L h' (news' y0 y1 u0 u1) → Q (.ref Tj) { s with heap := h', toks := tk' }) :
    wpAny (model prog w) (ktrTop dp un gd cn cs L a ccd [] outer) (call (.ref 159) [.ref S, .ref TL]) Q E s :=
  con_one B F X N T hk hd hu hS hT (fun e => by subst e; have e1 := (N _ hS).1; rw [(N _ hT).1] at e1; simp [W.listOf] at e1) h0 h1 h2 (Nat.le_of_ble_eq_true rfl) (Nat.le_of_ble_eq_true rfl) U fun j v y0 y1 u0 u1 h' tk' hv c0 c1 c2 F' N' => by
    obtain ⟨nm, Tj, bt, t, t', rfl, hm, hn, hb⟩ := field_item m0 m1 m2 m3 m4 m5 m6 m7 m8 m9 hv
    exact hret j nm Tj bt t t' y0 y1 u0 u1 h' tk' hn hb (upd_keeps (U y0 y1 u0 u1) hm (by simp [W.listOf])) c0 c1 c2 F' N'
theorem con_letO {Q : Value → Shared → Prop} {nm : Str} {tn : Tok} {i bt : Nat} {WL : Addr} {vs : Array Value} {n : Nat} {h₀ : Heap} {s : Shared}
    (B : Below A₀ h₀ [] h₀) (F : Fr h₀ L s.heap m) (X : (Mine.hd.heap_1 w.params).In h₀) (N : News h₀ L s.heap news) (T : Top p loose mean mg mb h₀) (hk : cs.kind = .function)
    (hd : dp + 15 < recursionLimit) (hu : un + 600 < cLine) (hi : fieldNames[i]? = some nm) (hb : fieldBits[i]? = some bt) (hW : (WL, W.listOf vs n) ∈ news) (hsz : vs.size ≤ 100)
    (hvs : StrsAre vs.toList odds)
    (hret : ∀ LD h' tk', Fr h₀ L h' m → News h₀ L h' [(LD, LCg.lst [])] → Q (.ref LD) { s with heap := h', toks := tk' }) :
    wpAny (model prog w) (ktrTop dp un gd cn cs L a ccd [] []) (call (.ref 204) [.str nm tn, .ref WL]) Q E s :=
  con_let0 B F X N T hk hd hu hi hb hW hsz hvs (odds_at hi hb) fun LD h' tk' _ F' N' => hret LD h' tk' F' fun q hq => N' q (by rw [List.mem_singleton.mp hq]; exact .head _)
end

-- S9body.txt

section
variable {prog : Program} {w : World} {A : Around} {h₀ h' : Heap} {L I C D : Addr} {m : Str → Option Value} {env : Env} {s₁ : Shared} {oI oC oD : Obj} {S : List (Addr × Obj) → Prop} {rest : Value → List (Addr × Obj) → Prop} {y : Value} {tk : Nat} {news news₀ : List (Addr × Obj)}
theorem comp_end0 (F : Fr h₀ L h' m) (N : News h₀ L h' ((I, oI) :: (C, oC) :: (D, oD) :: news)) (off : LCg.Off3 I C D news) (hS : S news) (r : rest y news) : LCg.CompEnd h₀ L m s₁ I oI C oC D oD S rest y { s₁ with heap := h', toks := tk } :=
  LCg.CompEnd.intro F N news (fun _ hp => hp) off hS r
theorem comp_end4 {x dx d ta : Addr × Obj} (F : Fr h₀ L h' m) (N : News h₀ L h' (x :: dx :: d :: ta :: (I, oI) :: (C, oC) :: (D, oD) :: news)) (a1 : AllNe x.1 ((I, oI) :: (C, oC) :: (D, oD) :: news)) (a2 : AllNe dx.1 ((I, oI) :: (C, oC) :: (D, oD) :: news)) (a3 : AllNe d.1 ((I, oI) :: (C, oC) :: (D, oD) :: news)) (a4 : AllNe ta.1 ((I, oI) :: (C, oC) :: (D, oD) :: news))
    (off : LCg.Off3 I C D news) (hS : S (x :: dx :: d :: ta :: news)) (r : rest y (x :: dx :: d :: ta :: news)) : LCg.CompEnd h₀ L m s₁ I oI C oC D oD S rest y { s₁ with heap := h', toks := tk } := by
  refine LCg.CompEnd.intro F N (x :: dx :: d :: ta :: news) (fun q hq => ?_) ⟨⟨a1.1.symm, a1.2.1.symm, a1.2.2.1.symm⟩, ⟨a2.1.symm, a2.2.1.symm, a2.2.2.1.symm⟩, ⟨a3.1.symm, a3.2.1.symm, a3.2.2.1.symm⟩, ⟨a4.1.symm, a4.2.1.symm, a4.2.2.1.symm⟩, off⟩ hS r
  simp only [List.mem_cons] at hq ⊢
  rcases hq with h | h | h | h | h | h | h | h
  · exact .inr (.inr (.inr (.inr (.inl h))))
  · exact .inr (.inr (.inr (.inr (.inr (.inl h)))))
  · exact .inr (.inr (.inr (.inr (.inr (.inr (.inl h))))))
  · exact .inl h
  · exact .inr (.inl h)
  · exact .inr (.inr (.inl h))
  · exact .inr (.inr (.inr (.inl h)))
  · exact .inr (.inr (.inr (.inr (.inr (.inr (.inr h))))))
theorem comp_end3 {d e l : Addr × Obj} {R1 R2 R3 : Prop} (F : Fr h₀ L h' m) (N : News h₀ L h' (d :: e :: l :: (I, oI) :: (C, oC) :: (D, oD) :: news)) (a1 : @LT.lt Nat _ e.1 d.1 ∧ @LT.lt Nat _ l.1 d.1 ∧ @LT.lt Nat _ I d.1 ∧ @LT.lt Nat _ C d.1 ∧ @LT.lt Nat _ D d.1 ∧ R1) (a2 : @LT.lt Nat _ l.1 e.1 ∧ @LT.lt Nat _ I e.1 ∧ @LT.lt Nat _ C e.1 ∧ @LT.lt Nat _ D e.1 ∧ R2) (a3 : @Ne Nat I l.1 ∧ @Ne Nat C l.1 ∧ @Ne Nat D l.1 ∧ R3)
    (off : LCg.Off3 I C D news) (hS : S (d :: e :: l :: news)) (r : rest y (d :: e :: l :: news)) : LCg.CompEnd h₀ L m s₁ I oI C oC D oD S rest y { s₁ with heap := h', toks := tk } := by
  refine LCg.CompEnd.intro F N (d :: e :: l :: news) (fun q hq => ?_) ⟨⟨(Nat.ne_of_lt a1.2.2.1).symm, (Nat.ne_of_lt a1.2.2.2.1).symm, (Nat.ne_of_lt a1.2.2.2.2.1).symm⟩, ⟨(Nat.ne_of_lt a2.2.1).symm, (Nat.ne_of_lt a2.2.2.1).symm, (Nat.ne_of_lt a2.2.2.2.1).symm⟩, ⟨a3.1.symm, a3.2.1.symm, a3.2.2.1.symm⟩, off⟩ hS r
  simp only [List.mem_cons] at hq ⊢
  rcases hq with h | h | h | h | h | h | h
  · exact .inr (.inr (.inr (.inl h)))
  · exact .inr (.inr (.inr (.inr (.inl h))))
  · exact .inr (.inr (.inr (.inr (.inr (.inl h)))))
  · exact .inl h
  · exact .inr (.inl h)
  · exact .inr (.inr (.inl h))
  · exact .inr (.inr (.inr (.inr (.inr (.inr h)))))
theorem comp_src1 {elt : Expr} {x : Str} {scope : Scope} {cl : List (Str × Addr)} {Fin : Shared → List Value → List (Addr × Obj) → Prop} {ax : Addr} {its : Array Value} {k : Nat} (hh : A.handled = none) (F : Fr h₀ L s₁.heap m) (N : News h₀ L s₁.heap news₀) (hm : (ax, ({ cls := .type "list", data := .seq its k } : Obj)) ∈ news₀) (hsz : its.size ≤ sizeLine)
    (h : ∀ g, LCg.CompRest prog w A h₀ L m env elt x scope cl { s₁ with heap := g } (LCg.SrcAt h₀ ax its) (fun i v => its[i]? = some v) (Fin { s₁ with heap := g }) its.size 0 [] [(ax, { cls := .type "list", data := .seq its k })]) :
    LCg.CompSrc prog w A h₀ L m env elt x scope cl Fin (.ref ax) s₁ :=
  LCg.CompSrc.ledger hh F (fun q hq => N q (by rw [List.mem_singleton.mp hq]; exact hm)) (.head _) hsz h
end

section Law
example : True := by
  k_with "w k_all" => assumption
  k_with "call ref" => (k_here; (with_reducible show wpAny _ _ (call (Value.ref 145) [Value.ref _, Value.int _ _]) _ _ _); k_dflt (refine' con_pool ?k1 ?k2 ?k3 ?k4 ?k5 ?k6 ?k7 ?k8 ?k9 ?ka ?kb ?kc (fun S'w9 y0'w9 y1'w9 u0'w9 u1'w9 n'w9 h'w9 tk'w9 z0'w9 z1'w9 z2'w9 F'w9 N'w9 => ?_); (case k1 => k_asm); (case k2 => k_asm); (case k3 => k_asm); (case k4 => k_asm); (case k5 => k_asm); (case k6 => first | exact rfl | assumption); (case k7 => ktr_room); (case k8 => ktr_units); (case k9 => k_asm); (case ka => assumption); (case kb => assumption); (case kc => assumption)); (try k_sweep))
  k_with "call type:enumerate" => (k_here; (with_reducible show wpAny _ _ (call (Value.type "enumerate") [Value.ref _]) _ _ _); k_dflt (refine' enum_make ?k1 ?k2 ?k3 ?_; (case k1 => k_asm); (case k2 => k_asm); (case k3 => k_mem)); intro Ea'w9 I'w9 d'w9 sl'w9 h'w9 F'w9 N'w9; (try k_sweep))
  k_with "pyIter ref" => (k_here; (with_reducible show wpAny _ _ (pyIter (Value.ref _)) (ForAt _ _ _ _ (Expr.Tuple _ _ _) _ _ _) _ _); k_dflt (refine' enum_iter ?k1 ?k2 ?_; (case k1 => k_asm); (case k2 => k_mem)))
  k_with "ForGo" => (k_here; k_dflt (refine' enum_law (sn := Str.ofString "source") ?c0 ?c1 ?c2 ?c3 ?c4 ?c5 ?s1 ?s2 ?s3 ?kF ?km ?kN ?mE ?mI ?mS ?mL ?m0 ?m1 ?m2 ?m3 ?m4 ?m5 ?m6 ?m7 ?m8 ?m9 ?b0 ?b1 ?b2 ?turn ?done; (case c0 => rfl); (case c1 => passes_own); (case c2 => rfl); (case c3 => rfl); (case c4 => rfl); (case c5 => rfl); (case s1 => decide); (case s2 => decide); (case s3 => decide); (case kF => k_asm); (case km => rfl); (case kN => k_asm); (case mE => k_mem); (case mI => k_mem); (case mS => k_mem); (case mL => k_mem); (case m0 => k_mem); (case m1 => k_mem); (case m2 => k_mem); (case m3 => k_mem); (case m4 => k_mem); (case m5 => k_mem); (case m6 => k_mem); (case m7 => k_mem); (case m8 => k_mem); (case m9 => k_mem); (case b0 => assumption); (case b1 => assumption); (case b2 => assumption)))
  k_with "binaryOp FloorDiv int int" => (k_here; k_dflt (refine' floordiv_int ?k1 ?_ (Or.inl (noPylong30 ?k2 ?k3)); (case k1 => omega); (case k2 => omega); (case k3 => omega)))
  k_with "binaryOp Mult int int" => (k_here; k_dflt (refine' mul_int ?_ (mulOk62 ?k1 ?k2); (case k1 => omega); (case k2 => omega)))
  k_with "binaryOp Mod str int" => (k_here; (with_reducible show wpAny _ _ (binaryOp Operator.Mod (Value.str _ _) (Value.int _ _)) _ _ _); k_dflt (refine' hex_mod ?k1 ?_; (case k1 => assumption)); intro t'w9 k'w9)
  k_with "call ref" => (k_here; (with_reducible show wpAny _ _ (call (Value.ref 152) [Value.ref _, Value.int _ _]) _ _ _); k_dflt (refine' con_take ?k1 ?k2 ?k3 ?k4 ?k5 ?k6 ?k7 ?k8 ?k9 ?ka ?kb ?kc ?kd ?ke ?kf (fun d'w9 t'w9 y0'w9 y1'w9 u0'w9 u1'w9 h'w9 tk'w9 z0'w9 z1'w9 z2'w9 z3'w9 z4'w9 F'w9 N'w9 => ?_); (case k1 => k_asm); (case k2 => k_asm); (case k3 => k_asm); (case k4 => k_asm); (case k5 => k_asm); (case k6 => first | exact rfl | assumption); (case k7 => ktr_room); (case k8 => ktr_units); (case k9 => k_mem); (case ka => first | assumption | omega); (case kb => first | assumption | omega); (case kc => first | assumption | omega); (case kd => first | decide | omega); (case ke => first | decide | omega); (case kf => intro y0'w9 y1'w9 u0'w9 u1'w9; k_upd)); (try simp only [show ((2 : Int) ^ Int.toNat 20) = 1048576 from rfl, show ((2 : Int) ^ Int.toNat 30) = 1073741824 from rfl] at z1'w9); (try k_sweep))
  k_with "call ref" => (k_here; (with_reducible show wpAny _ _ (call (Value.ref 204) [Value.str _ _, Value.ref _]) _ _ _); k_dflt (refine' con_let0 ?k1 ?k2 ?k3 ?k4 ?k5 ?k6 ?k7 ?k8 ?k9 ?ka ?kb ?kc ?kd ?ke (fun LD'w9 h'w9 tk'w9 hN'w9 F'w9 N'w9 => ?_); (case k1 => k_asm); (case k2 => k_asm); (case k3 => k_asm); (case k4 => k_asm); (case k5 => k_asm); (case k6 => first | exact rfl | assumption); (case k7 => ktr_room); (case k8 => ktr_units); (case k9 => assumption); (case ka => assumption); (case kb => k_mem); (case kc => assumption); (case ke => first | exact beyond_at (by assumption) (by assumption) | exact odds_at (by assumption) (by assumption)); (case kd => assumption)); (try simp only [AllNe, and_true] at hN'w9); (try k_sweep))
  k_with "call ref" => (k_here; (with_reducible show wpAny _ _ (call (Value.ref 192) [Value.int _ _, Value.str _ _, Value.int _ _, Value.int _ _]) _ _ _); k_dflt (refine' con_range0 ?k1 ?k2 ?k3 ?k4 ?k5 ?k6 ?k7 ?k8 ?k9 ?ka ?kb ?kc ?kd (fun h'w9 tk'w9 F'w9 N'w9 => ?_); (case k1 => k_asm); (case k2 => k_asm); (case k3 => k_asm); (case k4 => k_asm); (case k5 => k_asm); (case k6 => first | exact rfl | assumption); (case k7 => ktr_room); (case k8 => ktr_units); (case k9 => assumption); (case ka => assumption); (case kb => first | exact low_lo _ _ | decide); (case kc => first | exact high_lo _ _ _ | exact top1_lo _); (case kd => first | exact high_hi _ _ _ | exact top1_hi _)); (try k_sweep))
  k_with "call ref" => (k_here; (with_reducible show wpAny _ _ (call (Value.ref 199) [Value.int _ _, Value.str _ _, Value.int _ _, Value.int _ _, Value.int _ _]) _ _ _); k_dflt (refine' con_mask0 ?k1 ?k2 ?k3 ?k4 ?k5 ?k6 ?k7 ?k8 ?k9 ?ka ?kb ?kc ?kd ?ke (fun h'w9 tk'w9 F'w9 N'w9 => ?_); (case k1 => k_asm); (case k2 => k_asm); (case k3 => k_asm); (case k4 => k_asm); (case k5 => k_asm); (case k6 => first | exact rfl | assumption); (case k7 => ktr_room); (case k8 => ktr_units); (case k9 => assumption); (case ka => assumption); (case kb => exact low_lo _ _); (case kc => exact low_hi _ _); (case kd => assumption); (case ke => assumption)); (try k_sweep))
  k_with "call ref" => (k_here; (with_reducible show wpAny _ _ (call (Value.ref 173) [Value.str _ _]) _ _ _); k_dflt (refine' con_prio ?k0 ?k1 ?k2 ?k3 ?k4 ?k5 ?k6 ?k7 ?k8 (fun x'w9 dx'w9 D'w9 T'w9 o'w9 c1'w9 c2'w9 t1'w9 t2'w9 t3'w9 ta'w9 h'w9 tk'w9 F'w9 N'w9 lo'w9 ho'w9 => ?_); (case k0 => decide +kernel); (case k1 => k_asm); (case k2 => k_asm); (case k3 => k_asm); (case k4 => k_asm); (case k5 => k_asm); (case k6 => first | exact rfl | assumption); (case k7 => ktr_room); (case k8 => ktr_units); skip); (try k_sweep))
  k_with "call ref" => (k_here; (with_reducible show wpAny _ _ (call (Value.ref 173) [Value.str _ _]) _ _ _); k_dflt (refine' con_markOk (Str.ofString "0") 0 ?k0 ?ka ?kb ?kc ?kd ?k1 ?k2 ?k3 ?k4 ?k5 ?k6 ?k7 ?k8 (fun x'w9 dx'w9 D'w9 TA'w9 o'w9 c1'w9 c2'w9 t1'w9 t2'w9 h'w9 tk'w9 hA1'w9 hA2'w9 hA3'w9 hA4'w9 F'w9 N'w9 lo'w9 ho'w9 => ?_); (case k0 => decide +kernel); (case ka => decide +kernel); (case kb => decide +kernel); (case kc => decide); (case kd => decide +kernel); (case k1 => k_asm); (case k2 => k_asm); (case k3 => k_asm); (case k4 => k_asm); (case k5 => k_asm); (case k6 => first | exact rfl | assumption); (case k7 => ktr_room); (case k8 => ktr_units); skip); (try k_sweep))
  k_with "call ref" => (k_here; (with_reducible show wpAny _ _ (call (Value.ref 173) [Value.str _ _]) _ _ _); k_dflt (refine' con_markOk (Str.ofString "7") 7 ?k0 ?ka ?kb ?kc ?kd ?k1 ?k2 ?k3 ?k4 ?k5 ?k6 ?k7 ?k8 (fun x'w9 dx'w9 D'w9 TA'w9 o'w9 c1'w9 c2'w9 t1'w9 t2'w9 h'w9 tk'w9 hA1'w9 hA2'w9 hA3'w9 hA4'w9 F'w9 N'w9 lo'w9 ho'w9 => ?_); (case k0 => decide +kernel); (case ka => decide +kernel); (case kb => decide +kernel); (case kc => decide); (case kd => decide +kernel); (case k1 => k_asm); (case k2 => k_asm); (case k3 => k_asm); (case k4 => k_asm); (case k5 => k_asm); (case k6 => first | exact rfl | assumption); (case k7 => ktr_room); (case k8 => ktr_units); skip); (try k_sweep))
  k_with "call ref" => (k_here; (with_reducible show wpAny _ _ (call (Value.ref 173) [Value.str _ _]) _ _ _); k_dflt (refine' con_markOk (Str.ofString "07") 7 ?k0 ?ka ?kb ?kc ?kd ?k1 ?k2 ?k3 ?k4 ?k5 ?k6 ?k7 ?k8 (fun x'w9 dx'w9 D'w9 TA'w9 o'w9 c1'w9 c2'w9 t1'w9 t2'w9 h'w9 tk'w9 hA1'w9 hA2'w9 hA3'w9 hA4'w9 F'w9 N'w9 lo'w9 ho'w9 => ?_); (case k0 => decide +kernel); (case ka => decide +kernel); (case kb => decide +kernel); (case kc => decide); (case kd => decide +kernel); (case k1 => k_asm); (case k2 => k_asm); (case k3 => k_asm); (case k4 => k_asm); (case k5 => k_asm); (case k6 => first | exact rfl | assumption); (case k7 => ktr_room); (case k8 => ktr_units); skip); (try k_sweep))
  k_with "call ref" => (k_here; (with_reducible show wpAny _ _ (call (Value.ref 173) [Value.str _ _]) _ _ _); k_dflt (refine' con_markNo (Str.ofString "8") ?k0 ?ka ?k1 ?k2 ?k3 ?k4 ?k5 ?k6 ?k7 ?k8 (fun h'w9 tk'w9 F'w9 N'w9 => ?_); (case k0 => decide +kernel); (case ka => decide +kernel); (case k1 => k_asm); (case k2 => k_asm); (case k3 => k_asm); (case k4 => k_asm); (case k5 => k_asm); (case k6 => first | exact rfl | assumption); (case k7 => ktr_room); (case k8 => ktr_units); skip); (try k_sweep))
  k_with "call ref" => (k_here; (with_reducible show wpAny _ _ (call (Value.ref 173) [Value.str _ _]) _ _ _); k_dflt (refine' con_markNo (Str.ofString "9") ?k0 ?ka ?k1 ?k2 ?k3 ?k4 ?k5 ?k6 ?k7 ?k8 (fun h'w9 tk'w9 F'w9 N'w9 => ?_); (case k0 => decide +kernel); (case ka => decide +kernel); (case k1 => k_asm); (case k2 => k_asm); (case k3 => k_asm); (case k4 => k_asm); (case k5 => k_asm); (case k6 => first | exact rfl | assumption); (case k7 => ktr_room); (case k8 => ktr_units); skip); (try k_sweep))
  k_with "call ref" => (k_here; (with_reducible show wpAny _ _ (call (Value.ref 173) [Value.str _ _]) _ _ _); k_dflt (refine' con_markNo (Str.ofString "-1") ?k0 ?ka ?k1 ?k2 ?k3 ?k4 ?k5 ?k6 ?k7 ?k8 (fun h'w9 tk'w9 F'w9 N'w9 => ?_); (case k0 => decide +kernel); (case ka => decide +kernel); (case k1 => k_asm); (case k2 => k_asm); (case k3 => k_asm); (case k4 => k_asm); (case k5 => k_asm); (case k6 => first | exact rfl | assumption); (case k7 => ktr_room); (case k8 => ktr_units); skip); (try k_sweep))
  k_with "call ref" => (k_here; (with_reducible show wpAny _ _ (call (Value.ref 173) [Value.str _ _]) _ _ _); k_dflt (refine' con_markNo (Str.ofString "x") ?k0 ?ka ?k1 ?k2 ?k3 ?k4 ?k5 ?k6 ?k7 ?k8 (fun h'w9 tk'w9 F'w9 N'w9 => ?_); (case k0 => decide +kernel); (case ka => decide +kernel); (case k1 => k_asm); (case k2 => k_asm); (case k3 => k_asm); (case k4 => k_asm); (case k5 => k_asm); (case k6 => first | exact rfl | assumption); (case k7 => ktr_room); (case k8 => ktr_units); skip); (try k_sweep))
  k_with "call ref" => (k_here; (with_reducible show wpAny _ _ (call (Value.ref 173) [Value.str _ _]) _ _ _); k_dflt (refine' con_markNo (Str.ofString "") ?k0 ?ka ?k1 ?k2 ?k3 ?k4 ?k5 ?k6 ?k7 ?k8 (fun h'w9 tk'w9 F'w9 N'w9 => ?_); (case k0 => decide +kernel); (case ka => decide +kernel); (case k1 => k_asm); (case k2 => k_asm); (case k3 => k_asm); (case k4 => k_asm); (case k5 => k_asm); (case k6 => first | exact rfl | assumption); (case k7 => ktr_room); (case k8 => ktr_units); skip); (try k_sweep))
  k_with "call ref" => (k_here; (try dsimp only [List.cons_append, List.nil_append]); (with_reducible show wpAny _ _ (call (Value.ref 89) [Value.ref _]) _ _ _); k_dflt (refine' con_rowsE ?k1 ?k2 ?k3 ?k4 ?k5 ?k6 ?k7 ?k8 ?ka ?kb ?kc ?kd ?ke (fun L'w9 h'w9 tk'w9 hN'w9 F'w9 N'w9 => ?_); (case k1 => k_asm); (case k2 => k_asm); (case k3 => k_asm); (case k4 => k_asm); (case k5 => k_asm); (case k6 => first | exact rfl | assumption); (case k7 => ktr_room); (case k8 => ktr_units); (case ka => k_mem); (case kb => k_mem); (case kc => k_mem); (case kd => assumption); (case ke => assumption)); (try simp only [AllNe, and_true] at hN'w9); (try k_sweep))
  k_with "subscriptTail" => (k_here; (with_reducible show wpAny _ _ (subscriptTail _ _ (Value.ref _) (Value.int 0 _)) _ _ _); k_dflt (refine' tup_first ?k1 ?k2 ?_ ?k6; (case k1 => k_asm); (case k2 => assumption); (case k6 => with_unfolding_all rfl)))
  k_with "binaryOp Mod int int" => (k_here; k_dflt (refine' mod_int' ?k1 ?_; (case k1 => first | exact Int.ne_of_gt (top_pos _) | exact Int.ne_of_gt (span_pos _ _))))
  k_with "call ref" => (k_here; (with_reducible show wpAny _ _ (call (Value.ref 211) [Value.int _ _]) _ _ _); k_dflt (refine' con_beyond ?k1 ?k2 ?k3 ?k4 ?k5 ?k6 ?k7 ?k8 ?k9 (fun BL'w9 vs'w9 n'w9 h'w9 tk'w9 hz'w9 hv'w9 hN'w9 F'w9 N'w9 => ?_); (case k1 => k_asm); (case k2 => k_asm); (case k3 => k_asm); (case k4 => k_asm); (case k5 => k_asm); (case k6 => first | exact rfl | assumption); (case k7 => ktr_room); (case k8 => ktr_units); (case k9 => assumption)); (try simp only [AllNe, and_true] at hN'w9); (try k_sweep))
  k_with "call ref" => (k_here; (with_reducible show wpAny _ _ (call (Value.ref 218) _) _ _ _); k_dflt (refine' con_odds ?k1 ?k2 ?k3 ?k4 ?k5 ?k6 ?k7 ?k8 (fun BL'w9 vs'w9 n'w9 h'w9 tk'w9 hz'w9 hv'w9 hN'w9 F'w9 N'w9 => ?_); (case k1 => k_asm); (case k2 => k_asm); (case k3 => k_asm); (case k4 => k_asm); (case k5 => k_asm); (case k6 => first | exact rfl | assumption); (case k7 => ktr_room); (case k8 => ktr_units); skip); (try simp only [AllNe, and_true] at hN'w9); (try k_sweep))
  trivial
local macro_rules | `(tactic| k_ne) => `(tactic| k_extra "w k_ne")
example : True := by
  k_with "w k_ne" => first | assumption | (apply Ne.symm; assumption) | omega
  k_with "call ref" => (k_here; (with_reducible show wpAny _ _ (call (Value.ref 159) [Value.ref _, Value.ref _]) _ _ _); k_dflt (refine' con_oneF ?k1 ?k2 ?k3 ?k4 ?k5 ?k6 ?k7 ?k8 ?k9 ?ka ?m0 ?m1 ?m2 ?m3 ?m4 ?m5 ?m6 ?m7 ?m8 ?m9 ?kc ?kd ?ke ?kh (fun j'w9 nm'w9 Tj'w9 bt'w9 t'w9 t2'w9 y0'w9 y1'w9 u0'w9 u1'w9 h'w9 tk'w9 hi'w9 hb'w9 hT'w9 z2'w9 z3'w9 z4'w9 F'w9 N'w9 => ?_); (case k1 => k_asm); (case k2 => k_asm); (case k3 => k_asm); (case k4 => k_asm); (case k5 => k_asm); (case k6 => first | exact rfl | assumption); (case k7 => ktr_room); (case k8 => ktr_units); (case k9 => k_mem); (case ka => k_mem); (case m0 => k_mem); (case m1 => k_mem); (case m2 => k_mem); (case m3 => k_mem); (case m4 => k_mem); (case m5 => k_mem); (case m6 => k_mem); (case m7 => k_mem); (case m8 => k_mem); (case m9 => k_mem); (case kc => assumption); (case kd => assumption); (case ke => assumption); (case kh => intro y0'w9 y1'w9 u0'w9 u1'w9; k_upd)); (try k_sweep))
  k_with "call ref" => (k_here; (with_reducible show wpAny _ _ (call (Value.ref 159) [Value.ref _, Value.ref _]) _ _ _); k_dflt (refine' con_oneI ?k1 ?k2 ?k3 ?k4 ?k5 ?k6 ?k7 ?k8 ?k9 ?ka ?kb ?kc ?kd ?ke ?kh (fun v'w9 t'w9 y0'w9 y1'w9 u0'w9 u1'w9 h'w9 tk'w9 hk0'w9 hk1'w9 z2'w9 z3'w9 z4'w9 F'w9 N'w9 => ?_); (case k1 => k_asm); (case k2 => k_asm); (case k3 => k_asm); (case k4 => k_asm); (case k5 => k_asm); (case k6 => first | exact rfl | assumption); (case k7 => ktr_room); (case k8 => ktr_units); (case k9 => k_mem); (case ka => k_mem); (case kb => assumption); (case kc => assumption); (case kd => assumption); (case ke => assumption); (case kh => intro y0'w9 y1'w9 u0'w9 u1'w9; k_upd)); (try k_sweep))
  k_with "call ref" => (k_here; (with_reducible show wpAny _ _ (call (Value.ref 204) [Value.str _ _, Value.ref _]) _ _ _); k_dflt (refine' con_letO ?k1 ?k2 ?k3 ?k4 ?k5 ?k6 ?k7 ?k8 ?k9 ?ka ?kb ?kc ?kd (fun LD'w9 h'w9 tk'w9 F'w9 N'w9 => ?_); (case k1 => k_asm); (case k2 => k_asm); (case k3 => k_asm); (case k4 => k_asm); (case k5 => k_asm); (case k6 => first | exact rfl | assumption); (case k7 => ktr_room); (case k8 => ktr_units); (case kb => k_mem); (case kd => assumption); (case k9 => assumption); (case ka => assumption); (case kc => assumption)); (try k_sweep))
  k_with "CompSrc" => (k_here; (with_reducible refine' LCg.CompSrc.ledger ?h0 ?F ?N ?m ?s ?_); (case h0 => k_dflt exact rfl); (case F => k_asm); (case N => k_asm); (case m => k_dflt k_mem); (case s => k_dflt exact Nat.le_of_ble_eq_true rfl); intro g'w9; lcg_lit)
  k_with "CompSrc" => (k_here; (with_reducible show LCg.CompSrc _ _ _ _ _ _ _ _ (Str.ofString "word") _ _ _ _ _); (with_reducible refine' comp_src1 ?h0 ?F ?N ?m ?s ?_); (case h0 => k_dflt exact rfl); (case F => k_asm); (case N => k_asm); (case m => k_dflt k_mem); (case s => k_dflt exact Nat.le_of_ble_eq_true rfl); intro g'w9; lcg_lit)
  k_with "CompRest" => (with_unfolding_all (refine LCg.CompRest.succ ?_; intro v'w9 I'w9 oI'w9 C'w9 oC'w9 D'w9 m'w9 h'w9 tk'w9 E'w9 hv'w9 hC'w9 hx'w9 F'w9 N'w9 off'w9 ne'w9; lcg_open hv'w9))
  k_with "CompEnd" => (k_here; (first | ((with_reducible refine' comp_end4 ?F ?N ?a1 ?a2 ?a3 ?a4 ?off ?S ?_); (case N => with_reducible assumption); (case F => with_reducible assumption); (case a1 => with_reducible assumption); (case a2 => with_reducible assumption); (case a3 => with_reducible assumption); (case a4 => with_reducible assumption); (case off => with_reducible assumption); (case S => k_dflt exact Or.inr ⟨_, by k_mem, rfl, _, rfl⟩)) | ((with_reducible refine' comp_end3 ?F ?N ?a1 ?a2 ?a3 ?off ?S ?_); (case N => with_reducible assumption); (case F => with_reducible assumption); (case a1 => with_reducible assumption); (case a2 => with_reducible assumption); (case a3 => with_reducible assumption); (case off => with_reducible assumption); (case S => k_dflt exact Or.inr ⟨_, by k_mem, rfl, _, rfl⟩)) | ((with_reducible refine' comp_end0 ?F ?N ?off ?S ?_); (case N => with_reducible assumption); (case F => with_reducible assumption); (case off => with_reducible assumption); (case S => k_dflt exact Or.inr ⟨_, by k_mem, rfl, _, rfl⟩))))
  k_with "exec Assign cons ListComp" => (k_here; (with_reducible refine' LCg.Assign_ListComp_U (F₀ := ?q0) ?q1 ?qa ?qb ?q2 ?q3 ?q4 ?q5 ?q6 ?q7 ?_ ?q9); (case q0 => k_asm); (case q1 => with_unfolding_all rfl); (case qa => with_unfolding_all rfl); (case qb => with_unfolding_all rfl); (case q2 => k_dflt decide); (case q3 => k_dflt rfl); (case q4 => k_dflt decide); (case q5 => k_dflt rfl); (case q6 => k_dflt rfl); (case q7 => k_dflt rfl); (case q9 => k_dflt (intro xqw9; rfl)))
  k_with "newList" => (k_here; (with_reducible refine' newList_K ?k1 ?k2 ?_ ?hz); (case hz => k_dflt (exact Nat.le_of_ble_eq_true rfl)); (case k1 => k_asm); (case k2 => k_asm); intro l'w9 h'w9 F'w9 N'w9 l1w9; (try k_lt l1w9); (try k_sweep))
  trivial
local macro_rules | `(tactic| k_go0) => `(tactic| (
  k_fill
  intro w s₀ s₁ mg mb gG gY fa o pm cd doc dV kV ho hd₁ hcd hD hmg hg args vals as hpre hlay hrd hwl hlo
  have KX := kIn_of gY
  have X := (Ground.X gG).1
  have V := (Ground.X gG).2
  have GL := glob_more (Ground.glob gG (by decide +kernel) (by decide +kernel)) V
  refine Ground.open gG ?_
  intro T B D TE TW
  refine guard_noD D (by decide +kernel) ?_
  clear D
  obtain ⟨_, _, M⟩ := bmod_of_top T
  have TA := at_of_top T
  try (obtain ⟨_, _, he, B0⟩ := based_of_top T rfl hmg ho hd₁; have he' : cd = _ := he; subst he'; clear he)
  clear hmg
  wrow_args hpre hlay hrd hwl hlo
  refine enter_call ?_
  w_top on
  refine codeAny_mono ?_ (fun _ _ g => GoodW.toG g)
  have K0 := below_caller (Top.heap T)
  w_call any ho hd₁ hcd hD T F
  clear hd₁ TA
  k_drop))
set_option maxHeartbeats 16000000 in
theorem tw : PySem.Challenge.rw_pf0380_01.row.Holds := hd (by
  k_go0
  (all_goals try k_fold)
  k_steps
  all_goals first
    | (rename Fr _ _ _ _ => zF
       rename News _ _ _ _ => zN
       refine' ⟨_, _, _, ?x0, ?x1, ?t0, ?t1, rfl, zF, rfl, ?b0, ?b1, ?b2, ?hN⟩
       case hN => exact fun q hq => zN q (by repeat (first | exact hq | refine List.mem_cons_of_mem _ ?_))
       case b0 => assumption
       case b1 => assumption
       case b2 => assumption)
    | (trace_state; w_report))

theorem tt : PySem.Challenge.rw_pf0380_01.Holds := holds_law said fun _ => tw
end Law
end Mine
theorem PySem.Challenge.cw_pf0380_01_holds : PySem.Challenge.rw_pf0380_01.Holds :=
  Mine.tt
