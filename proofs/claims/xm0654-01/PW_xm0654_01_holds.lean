import PyProof.Rows.All
import Wide.All
import OpenK.AllK
import Wide.FinOn
import PySem.Challenge.RW_xm0654_01
set_option Elab.async false
set_option maxRecDepth 100000
set_option maxHeartbeats 8000000

section
open PySem PySem.W PyProof.Rows PySem.Calls
namespace Mine
abbrev bmE : List Value := [.type "Exception", .type "BaseException", .type "object"]
section
variable {M : Model} {A : Around} {E : Value → Shared → Prop} {h : Heap} {g : Array GenState} {d : Drawn} {t : Nat} {os : OsState}
variable {nm q : Str} {C Mk N : Addr} {bs : List Value} {hdct : Bool} {sn : List Str} {sub : List Value} {ab : Bool} {col : Option Bool} {dd : Option Addr} {k0 k1 k2 k3 k5 : Option Value}
theorem bm_has {X : String} {b : Bool} (hb : bmE.contains (.type X) = b) : (Value.ref C :: Value.ref Mk :: bmE).contains (.type X) = b := by
  rw [List.contains_cons, List.contains_cons, hb]; rfl
theorem nf_check_new {rest : List Value} {Q : Unit → Shared → Prop}
    (hC : h.get? C = some (excClassObj nm q C N bs (.ref Mk :: bmE) hdct sn sub ab col dd k0 k1 k2 k3 k5 "Exception.__new__"))
    (hq : Q () ⟨h, g, d, t, os⟩) : wpAny M A (checkBuiltinCall "Exception.__new__" ⟨.ref C :: rest, []⟩) Q E ⟨h, g, d, t, os⟩ := by
  have F := PySem.F.excBase_Exception
  have hcont : (Value.ref C :: Value.ref Mk :: bmE).contains (.type "Exception") = true := bm_has (by decide)
  have hstar := F.noStar
  simp only [checkBuiltinCall, F.newKind, F.newSplit, F.newRow]
  repeat (first | refine wpAny_loadPart_at hC ?_ | (refine wpAny_isSubtype_exc hC ?_; rw [hcont]) | refine wpAny_staticBase_exc hC ?_ | refine wpAny_madeBy_exc hC ?_ | simp only [bne_self_eq_false, Bool.false_eq_true, if_false] | wp_step)
  exact hq
end

section
variable {prog : Program} {w : World} {A : Around} {R : Result → Shared → Prop} {h : Heap} {g : Array GenState} {d : Drawn} {t : Nat} {os : OsState}
variable {nm q : Str} {C Mk N : Addr} {bs : List Value} {hdct : Bool} {sn : List Str} {sub : List Value} {ab : Bool} {col : Option Bool} {dd : Option Addr} {k0 k1 k2 k3 k5 : Option Value}
theorem nf_new {rest : List Value}
    (hC : h.get? C = some (excClassObj nm q C N bs (.ref Mk :: bmE) hdct sn sub ab col dd k0 k1 k2 k3 k5 "Exception.__new__"))
    (hq : R (.ok (.ret (.ref (h.objs.size + 1)))) ⟨(h.push { cls := .type "tuple", data := .seq rest.toArray }).push
      { cls := .ref C, data := .fields #[.ref h.objs.size, .none, .none, .none, .bool false, .none] }, g, d, t, os⟩) (hrest : rest.length ≤ sizeLine := by size_fits) :
    codeAny (model prog w) A (.builtin "Exception.__new__" ⟨.ref C :: rest, []⟩) R ⟨h, g, d, t, os⟩ := by
  have F := PySem.F.excBase_Exception
  have hends := F.ends
  have hcB : (Value.ref C :: Value.ref Mk :: bmE).contains (.type "Exception") = true := bm_has (by decide)
  have hcA : (Value.ref C :: Value.ref Mk :: bmE).contains (.type "AttributeError") = false := bm_has (by decide)
  have hcN : (Value.ref C :: Value.ref Mk :: bmE).contains (.type "NameError") = false := bm_has (by decide)
  refine codeAny_builtinAt F.entry ?_
  unfold Builtin.«BaseException.__new__»
  refine PySem.wpAt_bind ?_
  show PySem.wpAt _ _ _ (stack >>= _) _ _ _
  refine PySem.wpAt_bind (PySem.wpAt_stack fun p below => PySem.wpAt_of_wpAny ?_)
  wp_walk
  refine PySem.wpAt_of_wpAny ?_
  rw [F.owner]
  repeat (first | with_reducible refine wpAny_madeHere_exc F.canon hC ?_ | with_reducible refine wpAny_loadPart_at hC ?_ | (with_reducible refine wpAny_isSubtype_exc hC ?_; first | rw [hcB] | rw [hcA] | rw [hcN]) | wp_step)
  show R _ _
  rw [Heap.size_push]
  exact hq
end

section
variable {prog : Program} {w : World} {A : Around} {E : Value → Shared → Prop} {h : Heap} {g : Array GenState} {d : Drawn} {t : Nat} {os : OsState}
variable {nm q : Str} {C Mk N : Addr} {bs : List Value} {hdct : Bool} {sn : List Str} {sub : List Value} {ab : Bool} {col : Option Bool} {dd : Option Addr} {k0 k1 k2 k3 k5 : Option Value}

theorem nf_type_call {K : Frag} {rest : List Value} {fI : Addr} {Q : Fin → Shared → Prop} (X : K.In h)
    (hC : h.get? C = some (excClassObj nm q C N bs (.ref Mk :: bmE) hdct sn sub ab col dd k0 k1 k2 k3 k5 "Exception.__new__"))
    (hi : findIn K (.ref C) "__init__" = some (some (.ref fI))) (hf : typeIn K (.ref fI) = some (.type "function"))
    (hq : ∀ h' e, Heap.MadeExcOf h h' e (.ref C) rest →
      wpAny (model prog w) A (call (.ref fI) (.ref e :: rest)) (fun r s' => r = .none ∧ Q (.done (.ret (.ref e))) s') E ⟨h', g, d, t, os⟩) (hrest : rest.length ≤ sizeLine := by size_fits) :
    wpAny (model prog w) A (Builtin.«type.__call__» ⟨.ref C :: rest, []⟩) Q E ⟨h, g, d, t, os⟩ := by
  have F := PySem.F.excBase_Exception
  repeat (first | with_reducible refine wpAny_loadPart_at hC ?_ | with_reducible refine wpAny_madeBy_exc hC ?_ | wp_step)
  refine codeAny_call_builtin_code (Code.quiet_builtin _ F.quiet) (nf_check_new hC ?_)
  refine nf_new hC ?_ hrest
  show wpAny _ _ _ _ _ _
  have kp : ∀ b o, h.get? b = some o → ((h.push { cls := .type "tuple", data := .seq rest.toArray }).push { cls := .ref C, data := .fields #[.ref h.objs.size, .none, .none, .none, .bool false, .none] }).get? b = some o :=
    fun b o e => Heap.get?_push_of_some _ (Heap.get?_push_of_some _ e)
  have hC₁ := kp _ _ hC
  have X₁ : K.In ((h.push { cls := .type "tuple", data := .seq rest.toArray }).push { cls := .ref C, data := .fields #[.ref h.objs.size, .none, .none, .none, .bool false, .none] }) := X.keeps kp
  have hget : ((h.push { cls := .type "tuple", data := .seq rest.toArray }).push
      { cls := .ref C, data := .fields #[.ref h.objs.size, .none, .none, .none, .bool false, .none] }).get? (h.objs.size + 1) = some
      { cls := .ref C, data := .fields #[.ref h.objs.size, .none, .none, .none, .bool false, .none] } := by heap_get
  have hcC : (Value.ref C :: Value.ref Mk :: bmE).contains (.ref C) = true := by simp
  unfold isInstance
  repeat (first | with_reducible refine wpAny_loadPart_at hget ?_ | (with_reducible refine wpAny_isSubtype_exc hC₁ ?_; rw [hcC]) | wp_step)
  show wpAny _ _ (typeLookup (.ref C) _) _ _ _
  refine (looks_findIn X₁ hi).at ?_
  refine wpAny_holding (wpAny_bind ?_)
  refine (bind_fn X₁ _ hf).at ?_
  refine (wpAny_bind (wpAny_mono (hq _ (h.objs.size + 1) ⟨kp, Heap.get?_none_of_le (Nat.le_succ _), h.objs.size, hget, Heap.get?_none_of_le (Nat.le_refl _), ?_⟩) (fun r s' hr => ?_) fun _ _ x => x))
  · exact Heap.get?_push_of_some _ (Heap.get?_push_at rfl rfl)
  · obtain ⟨rfl, hQ⟩ := hr
    wp_walk
    exact hQ

theorem nf_call {K : Frag} {rest : List Value} {fI : Addr} {Q : Value → Shared → Prop} (X : K.In h)
    (hC : h.get? C = some (excClassObj nm q C N bs (.ref Mk :: bmE) hdct sn sub ab col dd k0 k1 k2 k3 k5 "Exception.__new__"))
    (hi : findIn K (.ref C) "__init__" = some (some (.ref fI))) (hf : typeIn K (.ref fI) = some (.type "function"))
    (hq : ∀ h' e, Heap.MadeExcOf h h' e (.ref C) rest →
      wpAny (model prog w) (A.under (.builtin "type.__call__" ⟨.ref C :: rest, []⟩)) (call (.ref fI) (.ref e :: rest)) (fun r s' => r = .none ∧ Q (.ref e) s') E ⟨h', g, d, t, os⟩) (hrest : rest.length ≤ sizeLine := by size_fits) :
    wpAny (model prog w) A (call (.ref C) rest) Q E ⟨h, g, d, t, os⟩ := by
  have f1 := tc_lookup
  have f2 := tc_bind (.ref C)
  have hT : (⟨h, g, d, t, os⟩ : Shared).TypeIs (.ref C) "type" := ⟨_, hC, rfl⟩
  refine wpAny_call (codeAny_of_tree ?_)
  show wpAny _ _ (callAny (.ref C) _) _ _ _
  repeat (any_goals (first | assumption | with_reducible refine wpAny_loadPart_at hC ?_ | wp_step))
  refine ⟨rfl, ?_⟩
  refine codeAny_call_builtin_at (Code.quiet_builtin _ (by decide +kernel)) entry_typeCall (wpAny_check_type_call_sub hC (nf_type_call (hrest := hrest) X hC hi hf fun h' e hm => ?_))
  exact hq h' e hm
end
end Mine
end

section
open PySem PySem.W PyProof.Rows PySem.Calls Builtin Builtin.ObjectAttr
namespace Mine
section
variable {prog : Program} {w : World} {A : Around} {E : Value → Shared → Prop} {h : Heap} {g : Array GenState} {d : Drawn} {t : Nat} {os : OsState}
variable {nm q : Str} {C Mk N : Addr} {bs : List Value} {sn : List Str} {sub : List Value} {ab : Bool} {col : Option Bool} {dd : Option Addr} {k0 k1 k2 k3 k5 : Option Value}

theorem nf_check_init {hdct : Bool} {M : Model} {e : Addr} {oe : Obj} {rest : List Value} {Q : Unit → Shared → Prop}
    (hC : h.get? C = some (excClassObj nm q C N bs (.ref Mk :: bmE) hdct sn sub ab col dd k0 k1 k2 k3 k5 "Exception.__new__"))
    (he : h.get? e = some oe) (hcls : oe.cls = .ref C) (hq : Q () ⟨h, g, d, t, os⟩) :
    wpAny M A (checkBuiltinCall "Exception.__init__" ⟨.ref e :: rest, []⟩) Q E ⟨h, g, d, t, os⟩ := by
  have F := PySem.F.excBase_Exception
  have hcB : (Value.ref C :: Value.ref Mk :: bmE).contains (.type "Exception") = true := bm_has (by decide)
  have hshort := F.noStar
  simp only [checkBuiltinCall, F.initKind, F.initSplit, F.initRow]
  repeat (first | (with_reducible refine wpAny_loadPart_at he ?_; rw [hcls]) | with_reducible refine wpAny_loadPart_at hC ?_ | (with_reducible refine wpAny_isSubtype_exc hC ?_; rw [hcB]) | wp_step)
  refine wpAny_onRaise ?_
  rw [show ∀ (a b : String) (n : Nat), Bind.check ⟨.positional, "*", "Exception", .self, [⟨"args", .varPos, false⟩]⟩ a b n (List.map (fun x => x.fst) ({ pos := Value.ref e :: rest } : Args).kw) = pure () from
    fun a b n => check_star_args _ _ _ _ _ _]
  exact wpAny_pure hq

theorem nf_base_init {hdct : Bool} {e t0 : Addr} {rest : List Value} {Q : Value → Shared → Prop}
    (hC : h.get? C = some (excClassObj nm q C N bs (.ref Mk :: bmE) hdct sn sub ab col dd k0 k1 k2 k3 k5 "Exception.__new__"))
    (he : h.get? e = some { cls := .ref C, data := .fields #[.ref t0, .none, .none, .none, .bool false, .none] })
    (hq : ∀ h' t1, h'.get? e = some { cls := .ref C, data := .fields #[.ref t1, .none, .none, .none, .bool false, .none] } → h.get? t1 = none →
      h'.get? t1 = some { cls := .type "tuple", data := .seq rest.toArray } → (∀ b o, b ≠ e → h.get? b = some o → h'.get? b = some o) → Q .none ⟨h', g, d, t, os⟩) (hrest : rest.length ≤ sizeLine := by size_fits) :
    wpAny (model prog w) A (call (.builtin "Exception.__init__") (.ref e :: rest)) Q E ⟨h, g, d, t, os⟩ := by
  have F := PySem.F.excBase_Exception
  have hlt := Heap.lt_size he
  refine wpAny_call (codeAny_call_builtin F.init.plain F.initEntry (nf_check_init hC he rfl ?_))
  wp_walk
  refine hq _ h.objs.size ?_ (Heap.get?_none_of_le (Nat.le_refl _)) ?_ ?_
  · rw [Heap.get?_update_self _ (Heap.get?_push_of_some _ he) rfl]
    rfl
  · rw [Heap.get?_update_other _ _ (Nat.ne_of_lt hlt)]
    exact Heap.get?_push_size _ rfl
  · intro b o hb ho
    rw [Heap.get?_update_other _ _ (Ne.symm hb)]
    exact Heap.get?_push_of_some _ ho

theorem nf_store {K : Frag} {x : Addr} {vs : Array Value} {name : Str} {v : Value} {Q : Unit → Shared → Prop} (X : K.In h)
    (hC : h.get? C = some (excClassObj nm q C N bs (.ref Mk :: bmE) true sn sub ab col dd k0 k1 k2 k3 k5 "Exception.__new__"))
    (hs : findIn K (.ref C) "__setattr__" = some (some (.builtin "object.__setattr__"))) (hna : findIn K (.ref C) name = some none)
    (hx : h.get? x = some { cls := .ref C, data := .fields vs })
    (hq : ∀ h' dx tk', h'.get? x = some { cls := .ref C, dict := some dx, data := .fields vs } → h.get? dx = none →
      (∀ b o, b ≠ x → h.get? b = some o → h'.get? b = some o) → Q () ⟨h', g, d, tk', os⟩) :
    wpAny (model prog w) A (setAttr (.ref x) name v) Q E ⟨h, g, d, t, os⟩ := by
  have I : InstAt h x { cls := .ref C, data := .fields vs } C none := ⟨hx, rfl, rfl, trivial⟩
  refine set_plain (s := ⟨h, g, d, t, os⟩) X I hs ?_
  have SF := PySem.F.store_Exception
  have hcO : (Value.ref C :: Value.ref Mk :: bmE).contains (.type "object") = true := bm_has (by decide)
  have hsub : ∀ M, Looks M h (isSubtype (.ref C) (.type "object")) true := fun M A Q E s k q => by
    obtain ⟨h1, g1, d1, t1, o1⟩ := s
    refine wpAny_isSubtype_exc (k _ _ hC) ?_
    rw [hcO]; exact q
  have sub : Looks (model prog w) h (isInstance (.ref x) (.type "object")) true := I.type.andThen (hsub _)
  have hm : Looks (model prog w) h (mroOf (.ref C)) (.ref C :: .ref Mk :: bmE) := fun A Q E s k q => by
    obtain ⟨h1, g1, d1, t1, o1⟩ := s
    exact wpAny_mroOf_exc (k _ _ hC) q
  have hcd : Looks (model prog w) h (classData C) _ := (Looks.ld (part := none) hC).andThen .now
  refine codeAny_call_builtin SF.slot.plain SF.entry (@check_slot (model prog w) _ _ ⟨h, g, d, t + 1, os⟩ "object.__setattr__" "object" "__setattr__" (.ref x) [.str name t, v] [] _ SF.kind SF.split sub (SF.args (.ref x) (.str name t) v) ?_)
  rw [osa_eq, refuse_eq]
  refine wpAny_bind (wpAny_bind (I.type.here (wpAny_bind (hm.here ?_))))
  rw [refuseLoop_ref, refuseLoop_ref, SF.passes]
  refine wpAny_pure (wpAny_bind (I.type.here (wpAny_bind ((looks_findIn X hna).here (wpAny_bind (wpAny_pure ?_))))))
  show wpAny _ _ (storeInOwnDict (.ref x) (.ref C) (.str name t) name v false) _ _ _
  refine wpAny_bind (wpAny_pure (wpAny_bind (wpAny_bind (wpAny_loadPart hx (wpAny_bind (hcd.here ?_))))))
  have hx₁ : (h.push { cls := .type "dict", data := .dict #[] }).get? x = some { cls := .ref C, data := .fields vs } := Heap.get?_push_of_some _ hx
  have hxs : x ≠ h.objs.size := Nat.ne_of_lt (Heap.lt_size hx)
  rw [if_neg (by simp)]
  dsimp only
  rw [if_neg (by simp [typeHasDict])]
  refine wpAny_bind (wpAny_alloc' ?_)
  refine wpAny_bind (wpAny_update' hx₁ ?_)
  refine wpAny_pure ?_
  have hgd : ((h.push { cls := .type "dict", data := .dict #[] }).update x fun o => { cls := o.cls, dict := some h.objs.size, data := o.data, slots := o.slots }).get? h.objs.size
      = some { cls := .type "dict", data := .dict #[] } :=
    (Heap.get?_update_ne _ _ _ _ hxs.symm).trans (Heap.get?_push_at rfl rfl)
  have hnd : ((h.push { cls := .type "dict", data := .dict #[] }).update x fun o => { cls := o.cls, dict := some h.objs.size, data := o.data, slots := o.slots }).Ns h.objs.size (fun _ => none) :=
    ⟨_, #[], _, hgd, rfl, fun e he => absurd he (by simp), fun _ => rfl⟩
  show wpAny _ _ (storeInDict h.objs.size (.str name t) name v) _ _ _
  unfold storeInDict newKeyGuard
  refine wpAny_bind (wpAny_pure (wpAny_bind (wpAny_nsSet1 (Heap.Ns1.of_empty hnd) fun h' hn' hs => ?_)))
  obtain ⟨oD, esD, epD, hoD, hdD, hcD⟩ := hn'.count (Within.cons name v Within.nil)
  refine wpAny_bind (wpAny_lookBehind hoD (by rw [hdD]; exact pastItsLine_dict (Nat.le_trans hcD (by rw [List.length_cons, List.length_nil, sizeLine_eq]; omega))) ?_)
  wp_walk
  refine hq h' h.objs.size _ ?_ (Heap.get?_none_of_le (Nat.le_refl _)) fun b ob hbx hb => ?_
  · exact (hs.2 x hxs).trans (Heap.get?_update_self _ hx₁ rfl)
  · exact (hs.2 b (Nat.ne_of_lt (Heap.lt_size hb))).trans ((Heap.get?_update_ne _ _ _ _ hbx).trans (Heap.get?_push_of_some _ hb))
end
end Mine
end

section
open PySem PySem.W PyProof.Rows PySem.Calls Builtin Builtin.ObjectAttr
namespace Mine

structure MadeI (h h' : Heap) (e : Addr) (cls : Value) (args : List Value) : Prop where
  keeps : ∀ b o, h.get? b = some o → h'.get? b = some o
  new : h.get? e = none
  there : ∃ t oe, h'.get? e = some oe ∧ oe.cls = cls ∧ oe.data = .fields #[.ref t, .none, .none, .none, .bool false, .none] ∧ h.get? t = none ∧
    h'.get? t = some { cls := .type "tuple", data := .seq args.toArray }

section
variable {M : Model} {A : Around} {E : Value → Shared → Prop} {s : Shared}
theorem leaves_madeI {base h : Heap} {env : Env} {outer : List Env} {L e : Addr} {cls : Value} {args : List Value} {Q : Unit → Shared → Prop}
    (hfr : A.frames = some (env :: outer)) (hf : env.frame = some L) (hkb : base.StaysIn h) (hl : h.FunFrames base (env :: outer)) (hx : MadeI h s.heap e cls args)
    (hQ : ∀ h' t, Heap.FlyingW base outer e cls (.ref t) h' → h'.TupAt t args → base.get? t = none → s.heap.UpToSlots h' → Q () { s with heap := h' }) : wpAny M A (leaving env (.ref e)) Q E s := by
  obtain ⟨t, oe, he, hcls, hd, htn, ht⟩ := hx.there
  subst hcls
  have fresh : ∀ b, h.get? b = none → base.get? b = none := fun b hb => by
    cases hq : base.get? b with
    | none => rfl
    | some o' => have := hkb b o' hq; rw [hb] at this; cases this
  refine wpAny_leaving_firstW (a0 := .ref t) hfr (hl.of_keeps fun b o hb _ => ⟨o, hx.keeps b o hb, rfl⟩) hf he (fun b o hb => hx.keeps b o (hkb b o hb)) (fresh e hx.new) hd rfl rfl fun h' hL => ?_
  obtain ⟨k1, ⟨_, _, k2⟩, k3, k4⟩ := hL
  exact hQ h' t ⟨k1, fresh e hx.new, k2, k3⟩ (Heap.TupAt.of_slots ⟨_, _, ht, rfl, rfl⟩ k4) (fresh t htn) k4
end

section
variable {M : Model} {A : Around} {E : Value → Shared → Prop} {s' : Shared} {base g h : Heap} {outer : List Env} {L a e : Addr} {m : Str → Option Value} {name : Str} {scope : Scope} {cd : Value} {Q : Unit → Shared → Prop} {news : List (Addr × Obj)}
theorem leave_raiseI {cls : Value} {vs : List Value} (K : Below A base outer g) (hx : MadeI h s'.heap e cls vs) (F : Fr g L h m) (N : News g L h news)
    (hQ : ∀ h' t, RaisedS base g outer e cls t vs news h' → g.UpToSlots h' → Q () { s' with heap := h' }) (hk : scope.kind = .function := by rfl) :
    wpAny M (A.deeper (envOf name scope L a cd)) (leaving (envOf name scope L a cd) (.ref e)) Q E s' := by
  have K' := K.push (name := name) (a := a) (cd := cd) F hk
  have hin : ∀ env ∈ (envOf name scope L a cd :: outer), ∀ b, env.frame = some b → b ∈ (envOf name scope L a cd :: outer).filterMap (·.frame) := fun env he b hb => List.mem_filterMap.mpr ⟨env, he, hb⟩
  have st : base.StaysIn (hideAll h ((envOf name scope L a cd :: outer).filterMap (·.frame))) := fun b o q => hideAll_get _ (K'.stays b o q) fun hm => by
    rw [(K'.frames.mem hm).1] at q; cases q
  have sg : ∀ b o, g.get? b = some o → b ∉ outer.filterMap (·.frame) → (hideAll h ((envOf name scope L a cd :: outer).filterMap (·.frame))).get? b = some o := fun b o q nm => hideAll_get _ (F.keep b o q) fun hm => by
    rcases kts_mem hm with z | z
    · rw [z, kts_self F] at q; cases q
    · exact nm z
  have hl : ∀ q ∈ news, (hideAll h ((envOf name scope L a cd :: outer).filterMap (·.frame))).get? q.1 = some q.2 ∧ g.get? q.1 = none ∧ base.get? q.1 = none := fun q hq => by
    refine ⟨hideAll_get _ (N q hq).1 fun hm => ?_, (N q hq).2.2, fresh_of_stays K.stays (N q hq).2.2⟩
    obtain ⟨env, he, hf⟩ := List.mem_filterMap.mp hm
    rcases List.mem_cons.mp he with rfl | he
    · exact (N q hq).2.1 (Option.some.inj hf).symm
    · obtain ⟨o, ho, _⟩ := (K.frames.mem (List.mem_filterMap.mpr ⟨env, he, hf⟩)).2
      rw [(N q hq).2.2] at ho; cases ho
  exact leaves_madeI K'.stack rfl (fun b o q => of_hideAll _ q) (funFrames_hide K'.frames hin) hx fun h' t x1 x2 x3 x4 =>
    hQ h' t ⟨⟨_, st, sg, hl, x1, x3⟩, x2⟩ (((Heap.UpToSlots.of_keeps F.keep).trans (Heap.UpToSlots.of_keeps hx.keeps)).trans x4)
end

def RaisableO (K : Frag) (C : Addr) (E : Value → Shared → Prop) (v : Value) (s₁ : Shared) : Prop :=
  ∃ a ob vs, K.In s₁.heap ∧ v = .ref a ∧ s₁.heap.get? a = some ob ∧ ob.cls = .ref C ∧ ob.data = .fields vs ∧ vs[1]? = some .none ∧ E (.ref a) s₁

section
variable {M : Model} {A : Around} {E : Value → Shared → Prop} {s : Shared} {env : Env} {K : Frag} {C : Addr}
theorem Raise_newO {e : PySem.Expr} {pos : Pos} {Q : Flow → Shared → Prop} (hh : A.handled = none) (hb : subIn K (.ref C) (.type "BaseException") = some true) (ht : typeIn K (.ref C) = some (.type "type"))
    (h : wpAny M A (eval e env) (RaisableO K C E) E s) : wpAny M A (exec (.Raise (some e) none pos) env) Q E s := by
  show wpAny M A (do standAt pos; raiseStmt env (some (do let v ← eval e env; standAt pos; pure v)) none) Q E s
  refine wpAny_bind (wpAny_standAt ?_)
  unfold raiseStmt
  dsimp only
  refine wpAny_bind (wpAny_bind (wpAny_mono h (fun v s₁ h₁ => wpAny_bind (wpAny_standAt (wpAny_pure ?_))) fun _ _ x => x))
  obtain ⟨a, ob, vs, X, rfl, ha, hcls, hd, h1, hE⟩ := h₁
  have LT : Looks M s₁.heap (typeOf (.ref a)) (.ref C) := by rw [← hcls]; exact (Looks.ld ha).andThen .now
  have LB : Looks M s₁.heap (isInstance (.ref a) (.type "BaseException")) true := LT.andThen (looks_subIn X hb)
  have hnt : ∀ {Q' : Bool → Shared → Prop}, Q' false s₁ → wpAny M A (isType (.ref a)) Q' E s₁ := by
    intro Q' hq
    simp only [isType, loadHead]
    refine wpAny_bind (wpAny_loadPart ha ?_)
    rw [hd]; exact wpAny_pure hq
  refine wpAny_bind (wpAny_pure ?_)
  dsimp only
  refine wpAny_bind (wpAny_holding ?_)
  unfold excFromValue isExcClass
  refine wpAny_bind (wpAny_bind (hnt ?_))
  simp only [Bool.false_eq_true, if_false]
  refine wpAny_pure ?_
  simp only [Bool.false_eq_true, if_false]
  refine wpAny_bind (LB.here ?_)
  simp only [if_true]
  refine wpAny_pure ?_
  refine wpAny_bind (hnt ?_)
  simp only [Bool.false_eq_true, if_false]
  unfold raisedInstance
  refine wpAny_bind (wpAny_bind (LT.here (wpAny_bind ((looks_typeIn X ht).here ?_))))
  rw [if_pos (by decide)]
  refine wpAny_pure ?_
  unfold setFlight raiseNew
  refine wpAny_bind (wpAny_bind (wpAny_field ha hd h1 ?_))
  rw [if_neg (by decide)]
  refine wpAny_pure (wpAny_bind (wpAny_handled ?_))
  rw [hh]
  first
    | exact wpAny_throw hE
    | exact wpAny_bind (wpAny_pure (wpAny_throw hE))
theorem Raise_newX {h₀ : Heap} (_X : K.In h₀) {e : PySem.Expr} {pos : Pos} {Q : Flow → Shared → Prop} (hh : A.handled = none) (hb : subIn K (.ref C) (.type "BaseException") = some true) (ht : typeIn K (.ref C) = some (.type "type"))
    (h : wpAny M A (eval e env) (RaisableO K C E) E s) : wpAny M A (exec (.Raise (some e) none pos) env) Q E s := Raise_newO hh hb ht h
end

section
variable {prog : Program} {w : World} {A₀ A : Around} {s : Shared} {base h₀ : Heap} {outer : List Env} {L : Addr} {m : Str → Option Value} {env : Env} {news : List (Addr × Obj)} {K : Frag} {p : Program} {loose : List Str} {mean : ExcName → Option Value} {mg mb : Str → Option Value}
  {R : Result → Shared → Prop} {name qual : Str} {params : Arguments} {body : List Stmt} {scope : Scope} {dV kV doc pm cdv ct oc : Value} {an od : Option Addr} {osl : Array (Option Value)} {f : Addr} {args : Args} {binds : List (Str × Value)}
theorem code_own (B : Below A₀ base outer h₀) (F : Fr h₀ L s.heap m) (X₀ : K.In h₀) (N : News h₀ L s.heap news) (T : Top p loose mean mg mb h₀) (hA : A.frames = some (env :: outer)) (hf : env.frame = some L) (hke : env.scope.kind = .function)
    (ho : K.lookup f = some ⟨oc, od, .func (fnOf name qual params body scope dV kV doc pm an cdv ct), osl⟩) (hcd : codeIn K cdv qual = true) (hroom : A.depth < recursionLimit)
    (hbind : BindsTo s (fnOf name qual params body scope dV kV doc pm an cdv ct) args binds) (hloc : ∀ y ∈ binds, scope.names.lookup y.1 = some .local)
    (h : ∀ g L' h₁, (∀ b o, b ∉ news.map (·.1) → s.heap.get? b = some o → g.get? b = some o) → (∀ b o, g.get? b = some o → s.heap.get? b = some o) → Fr h₀ L g m → Fr g L' h₁ (fun y => binds.reverse.lookup y) → News g L' h₁ news → Below A base (env :: outer) g → K.In g → Top p loose mean mg mb g → (∀ p ∈ news, p.1 < L') →
      wpAny (model prog w) (A.deeper (envOf qual scope L' f cdv)) (execs body (envOf qual scope L' f cdv))
        (fun fl s' => R (.ok (.ret (match fl with | .ret v => v | _ => .none))) s')
        (fun e s' => wpAny (model prog w) (A.deeper (envOf qual scope L' f cdv)) (leaving (envOf qual scope L' f cdv) e) (fun _ s'' => R (.error e) s'') (fun e' s'' => R (.error e') s'') s')
        { s with heap := h₁, toks := s.toks + binds.length })
    (hco : scope.isCoroutine = false) (hgen : scope.isGenerator = false) (hk : scope.kind = .function)
    (hcell : ∀ x ∈ scope.names, x.2 ≠ .cell) : codeAny (model prog w) A (.call (.ref f) args) R s := by
  obtain ⟨FG, BG, st, -⟩ := groundX (R := fun _ _ => True) B F N hA hf hke
  refine codeAny_call_def (fd := fnOf name qual params body scope dV kV doc pm an cdv ct) (body := body) (binds := binds) hroom ((X₀.keeps F.keep) _ _ ho) rfl (T.nolimit.keeps F.keep) (codeRec_of (X₀.keeps F.keep) hcd) rfl hbind hcell hloc (fun h₁ hns hk₁ => ?_) hco hgen hk
  exact h _ s.heap.objs.size h₁ (fun b o nm e => hideAll_get _ e nm) (fun b o e => of_hideAll _ e) FG ⟨hns, fun b o e => hk₁ b o (of_hideAll _ e), Nat.le_of_eq (hideAll_size _ _)⟩
    (fun p hp => ⟨hk₁ _ _ (N p hp).1, Nat.ne_of_lt (Heap.lt_size (N p hp).1), hideAll_none _ (List.mem_map_of_mem hp)⟩) BG (X₀.keeps st) (T.keeps st) (fun p hp => Heap.lt_size (N p hp).1)
end
end Mine
end

namespace Mine
open PySem PySem.W PyProof.Rows
open_top hd for PySem.Challenge.rw_xm0654_01
end Mine

section
open PySem PySem.W PyProof.Rows PySem.Calls Builtin Builtin.ObjectAttr
namespace Mine
abbrev excO (C t : Addr) (dx : Option Addr) : Obj := { cls := .ref C, dict := dx, data := .fields #[.ref t, .none, .none, .none, .bool false, .none] }
abbrev tupO (vs : List Value) : Obj := { cls := .type "tuple", data := .seq vs.toArray }

section
variable {prog : Program} {w : World} {A : Around} {E : Value → Shared → Prop} {s : Shared} {K : Frag} {h₀ : Heap} {L e t0 : Addr} {m : Str → Option Value}
variable {nm q : Str} {C Mk N : Addr} {bs : List Value} {sn : List Str} {sub : List Value} {ab : Bool} {col : Option Bool} {dd : Option Addr} {k0 k1 k2 k3 k5 : Option Value}
theorem init_K {v : Value} {Q : Value → Shared → Prop} (F : Fr h₀ L s.heap m) (X : K.In h₀) (Nw : News h₀ L s.heap [(e, excO C t0 none)])
    (hC : K.lookup C = some (excClassObj nm q C N bs (.ref Mk :: bmE) true sn sub ab col dd k0 k1 k2 k3 k5 "Exception.__new__"))
    (h : ∀ h' t1, Fr h₀ L h' m → News h₀ L h' [(e, excO C t1 none), (t1, tupO [v])] → Q .none { s with heap := h' }) :
    wpAny (model prog w) A (call (.builtin "Exception.__init__") [.ref e, v]) Q E s := by
  obtain ⟨hp, g, d, t, os⟩ := s
  obtain ⟨n1, n2, n3⟩ := Nw _ (.head _)
  refine nf_base_init (X.keeps F.keep _ _ hC) n1 fun h' t1 he ht1 ht hk => ?_
  obtain ⟨oL, es, ep, hL, hLr⟩ := F.ns
  refine h h' t1 ⟨⟨oL, es, ep, hk _ _ (Ne.symm n2) hL, hLr⟩, fun b o hb => hk b o (fun z => by rw [z, n3] at hb; cases hb) (F.keep b o hb), F.above⟩ fun p hp' => ?_
  rcases List.mem_cons.mp hp' with rfl | hp'
  · exact ⟨he, n2, n3⟩
  · obtain rfl := List.mem_singleton.mp hp'
    refine ⟨ht, fun z => ?_, ?_⟩
    · dsimp only at z ht1
      rw [z, hL] at ht1; cases ht1
    · cases hq : h₀.get? t1 with
      | none => rfl
      | some o => have := F.keep _ _ hq; dsimp only at this ht1; rw [ht1] at this; cases this
theorem store_K {v v' : Value} {name : Str} {Q : Unit → Shared → Prop} (F : Fr h₀ L s.heap m) (X : K.In h₀) (Nw : News h₀ L s.heap [(e, excO C t0 none), (t0, tupO [v])])
    (hC : K.lookup C = some (excClassObj nm q C N bs (.ref Mk :: bmE) true sn sub ab col dd k0 k1 k2 k3 k5 "Exception.__new__"))
    (hs : findIn K (.ref C) "__setattr__" = some (some (.builtin "object.__setattr__"))) (hna : findIn K (.ref C) name = some none)
    (h : ∀ h' dx tk, Fr h₀ L h' m → News h₀ L h' [(e, excO C t0 (some dx)), (t0, tupO [v])] → Q () { s with heap := h', toks := tk }) :
    wpAny (model prog w) A (setAttr (.ref e) name v') Q E s := by
  obtain ⟨hp, g, d, t, os⟩ := s
  obtain ⟨n1, n2, n3⟩ := Nw _ (.head _)
  obtain ⟨p1, p2, p3⟩ := Nw _ (.tail _ (.head _))
  refine nf_store (X.keeps F.keep) (X.keeps F.keep _ _ hC) hs hna n1 fun h' dx tk he hd hk => ?_
  obtain ⟨oL, es, ep, hL, hLr⟩ := F.ns
  refine h h' dx tk ⟨⟨oL, es, ep, hk _ _ (Ne.symm n2) hL, hLr⟩, fun b o hb => hk b o (fun z => by rw [z, n3] at hb; cases hb) (F.keep b o hb), F.above⟩ fun p hp' => ?_
  rcases List.mem_cons.mp hp' with rfl | hp'
  · exact ⟨he, n2, n3⟩
  · obtain rfl := List.mem_singleton.mp hp'
    exact ⟨hk _ _ (fun z => by dsimp only at z; rw [z, n1] at p1; cases p1) p1, p2, p3⟩
end

theorem init_end {sh g h : Heap} {L e t1 : Addr} {m : Str → Option Value} {C : Addr} {dx : Option Addr} {vs : List Value} {o1 : Obj}
    (KG : ∀ b o, b ∉ List.map (·.1) [(e, o1)] → sh.get? b = some o → g.get? b = some o) (F : Fr g L h m) (N : News g L h [(e, excO C t1 dx), (t1, tupO vs)]) :
    (∀ b o, b ≠ e → sh.get? b = some o → h.get? b = some o) ∧ h.get? e = some (excO C t1 dx) ∧ sh.get? t1 = none ∧ h.get? t1 = some (tupO vs) := by
  have n1 := N _ (.head _)
  have n2 := N _ (.tail _ (.head _))
  have kk : ∀ b o, b ≠ e → sh.get? b = some o → g.get? b = some o := fun b o hb ho => KG b o (by simpa using hb) ho
  refine ⟨fun b o hb ho => F.keep b o (kk b o hb ho), n1.1, ?_, n2.1⟩
  cases hq : sh.get? t1 with
  | none => rfl
  | some o =>
    have hne : t1 ≠ e := fun z => by have a := n1.1; have b := n2.1; dsimp only at a b; rw [z, a] at b; cases b
    have := kk _ _ hne hq
    have z := n2.2.2
    dsimp only at z
    rw [this] at z; cases z
theorem look110 (p : Params) : (hd.heap_39 p).lookup 110 = some (excClassObj (Str.ofString "NamespaceFault") (Str.ofString "NamespaceFault") 110 109 [.ref 97] (.ref 97 :: bmE) true [] [] false none none (some (.ref 101)) none (some (.str (Str.ofString "NamespaceFault") 307)) (some (.str (Str.ofString "NamespaceFault") 315)) (some (.bool true)) "Exception.__new__") := by kernel_rfl
local macro_rules | `(tactic| k_room) => `(tactic| ktr_room)
local macro_rules | `(tactic| walk_at "call builtin:Exception.__init__") => `(tactic| (k_here; (with_reducible show wpAny _ _ (call (Value.builtin "Exception.__init__") _) _ _ _); (with_unfolding_all refine' init_K ?k1 ?k2 ?k3 (look110 _) ?_; (case k1 => k_asm); (case k2 => k_asm); (case k3 => k_asm); intro h' t1' F' N')))
local macro_rules | `(tactic| walk_at "setAttr ref") => `(tactic| (k_here; (with_unfolding_all refine' store_K ?k1 ?k2 ?k3 (look110 _) ?k5 ?k6 ?_; (case k1 => k_asm); (case k2 => k_asm); (case k3 => k_asm); (case k5 => k_is); (case k6 => k_is); intro h' dx' tk' F' N')))

local macro_rules | `(tactic| walk_at "getMethod type:Exception") => `(tactic| (k_here; refine' method_type ?F ?X ?m (by decide +kernel) ?e ?h ?_; (case F => k_asm); (case X => k_asm); (case m => kernel_rfl); (case e => k_dflt k_is); (case h => k_handed)))
theorem init_walk (w : World) {mean : ExcName → Option Value} {mg mb : Str → Option Value} {dp un : Nat} {gd : Option (List Code)} {cn : Str} {cs : Scope} {a : Addr} {ccd : Value} {cl : List (Str × Addr)} {outer : List Env} {A₀ : Around} {base h₀ : Heap} {L e t0 : Addr} {m : Str → Option Value} {s : Shared} {Q E : Value → Shared → Prop} {x : Str} {tx : Tok}
    (B : Below A₀ base outer h₀) (F : Fr h₀ L s.heap m) (X : (hd.heap_39 w.params).In h₀) (N : News h₀ L s.heap [(e, excO 110 t0 none)]) (T : Top hd.view_39 (looseW hd.view_39 []) mean mg mb h₀) (hk : cs.kind = .function)
    (hdp : dp + 2 < recursionLimit)
    (hret : ∀ h' tk' t1 dx, (∀ b o, b ≠ e → s.heap.get? b = some o → h'.get? b = some o) → h'.get? e = some (excO 110 t1 (some dx)) → s.heap.get? t1 = none → h'.get? t1 = some (tupO [.str x tx]) → Q .none { s with heap := h', toks := tk' }) :
    wpAny (model PySem.Challenge.rw_xm0654_01.row.prog w) (ktrTop dp un gd cn cs L a ccd cl outer) (call (.ref 94) [.ref e, .str x tx]) Q E s := by
  w_top off
  revert X; k_fill; intro X
  refine wpAny_call ?_
  refine' code_own ?k1 ?k2 ?k3 ?k4 ?k5 ?kA ?kF ?kK ?k6 ?k7 ?k8 ?k9 ?kB ?_ ?c2 ?c3 ?c4 ?c5
  (case kA => exact rfl); (case kF => exact rfl); (case kK => assumption); (case k1 => k_asm); (case k2 => k_asm); (case k3 => k_asm); (case k4 => k_asm); (case k5 => k_asm); (case k6 => k_is); (case k7 => k_is); (case k8 => ktr_room); (case k9 => exact BindsTo.of_eq rfl); (case c5 => decide); (case kB => exact locs rfl); (case c2 => exact rfl); (case c3 => exact rfl); (case c4 => exact rfl)
  intro g' L' h' KG' KS' FG' F' N' B' X' T' l1
  dsimp only at KG' F' N'
  k_steps
  (rename Fr _ _ _ _ => F9); (rename News _ _ _ _ => N9)
  have z9 := init_end KG' F9 N9
  exact hret _ _ _ _ z9.1 z9.2.1 z9.2.2.1 z9.2.2.2

theorem nf_raise (w : World) {mean : ExcName → Option Value} {mg mb : Str → Option Value} {dp un : Nat} {gd : Option (List Code)} {cn : Str} {cs : Scope} {a : Addr} {ccd : Value} {cl : List (Str × Addr)} {outer : List Env} {A₀ : Around} {base h₀ : Heap} {L : Addr} {m : Str → Option Value} {s : Shared} {E E' : Value → Shared → Prop} {x : Str} {tx : Tok}
    (B : Below A₀ base outer h₀) (F : Fr h₀ L s.heap m) (X : (hd.heap_39 w.params).In h₀) (T : Top hd.view_39 (looseW hd.view_39 []) mean mg mb h₀) (hk : cs.kind = .function)
    (hdp : dp + 3 < recursionLimit)
    (hret : ∀ h' e tk', MadeI s.heap h' e (.ref 110) [.str x tx] → E (.ref e) { s with heap := h', toks := tk' }) :
    wpAny (model PySem.Challenge.rw_xm0654_01.row.prog w) (ktrTop dp un gd cn cs L a ccd cl outer) (call (.ref 110) [.str x tx]) (RaisableO (hd.heap_39 w.params) 110 E) E' s := by
  w_top off
  revert X; k_fill; intro X
  obtain ⟨hp, g, d, t, os⟩ := s
  have X₁ := X.keeps F.keep
  refine nf_call X₁ (X₁ _ _ (look110 _)) (fI := 94) (by k_is) (by k_is) (fun h' e hm => ?_)
  obtain ⟨t0, he, ht0, ht⟩ := hm.there
  have F' : Fr h₀ L h' m := by
    obtain ⟨oL, es, ep, hL, hLr⟩ := F.ns
    exact ⟨⟨oL, es, ep, hm.keeps _ _ hL, hLr⟩, fun b o e => hm.keeps _ _ (F.keep b o e), F.above⟩
  have hn : ∀ b, hp.get? b = none → h₀.get? b = none := fun b hb => by
    cases hq : h₀.get? b with
    | none => rfl
    | some o' => have := F.keep b o' hq; dsimp only at this; rw [hb] at this; cases this
  have N' : News h₀ L h' [(e, excO 110 t0 none)] := fun p hp' => by
    obtain rfl := List.mem_singleton.mp hp'
    refine ⟨he, fun z => ?_, hn _ hm.new⟩
    obtain ⟨oL, es, ep, hL, hLr⟩ := F.ns
    have hne := hm.new
    dsimp only at z
    rw [z] at hne; rw [hne] at hL; cases hL
  refine init_walk w (s := ⟨h', g, d, t, os⟩) (dp := dp + 1) B F' X N' T hk (by omega) fun h2 tk2 t1 dx q1 q2 q3 q4 => ⟨rfl, ?_⟩
  have X₂ : (hd.heap_39 w.params).In h2 := fun b o hb => q1 b o (fun z => by have h1 := X₁ b o hb; rw [z, hm.new] at h1; cases h1) (hm.keeps _ _ (X₁ b o hb))
  refine ⟨e, _, _, X₂, rfl, q2, rfl, rfl, rfl, ?_⟩
  refine hret h2 e tk2 ⟨fun b o hb => q1 b o (fun z => by rw [z, hm.new] at hb; cases hb) (hm.keeps _ _ hb), hm.new, t1, _, q2, rfl, rfl, ?_, q4⟩
  cases hq : hp.get? t1 with
  | none => rfl
  | some o' => have := hm.keeps _ _ hq; dsimp only at q3; rw [q3] at this; cases this
end Mine
end

section
open PySem PySem.W PyProof.Rows PySem.Calls
namespace Mine
local macro_rules | `(tactic| k_room) => `(tactic| ktr_room)
local macro_rules | `(tactic| walk_at "ite") => `(tactic| (k_here; k_closed; first | refine ite_pos (by decide +kernel) ?_ | refine ite_neg (by decide +kernel) ?_))

theorem made_end {sh g h : Heap} {L r : Addr} {m : Str → Option Value} {o : Obj} {rest : List (Addr × Obj)}
    (KG : ∀ b o, b ∉ List.map (·.1) ([] : List (Addr × Obj)) → sh.get? b = some o → g.get? b = some o) (F : Fr g L h m) (N : News g L h ((r, o) :: rest)) :
    (∀ b o, sh.get? b = some o → h.get? b = some o) ∧ sh.get? r = none ∧ h.get? r = some o := by
  have n1 := N _ (.head _)
  refine ⟨fun b o ho => F.keep b o (KG b o (by simp) ho), ?_, n1.1⟩
  cases hq : sh.get? r with
  | none => rfl
  | some o' => have z := n1.2.2; dsimp only at z; rw [KG _ _ (by simp) hq] at z; cases z

theorem pool_says (w : World) {mean : ExcName → Option Value} {mg mb : Str → Option Value} {dp un : Nat} {gd : Option (List Code)} {cn : Str} {cs : Scope} {a : Addr} {ccd : Value} {cl : List (Str × Addr)} {outer : List Env} {A₀ : Around} {base h₀ : Heap} {L : Addr} {m : Str → Option Value} {s : Shared} {Q E : Value → Shared → Prop}
    (B : Below A₀ base outer h₀) (F : Fr h₀ L s.heap m) (X : (hd.heap_39 w.params).In h₀) (T : Top hd.view_39 (looseW hd.view_39 []) mean mg mb h₀) (hk : cs.kind = .function) (hdp : dp + 3 < recursionLimit)
    {l : Addr} {vs : List Value} {ns : List Int} (hl : h₀.IsList l vs.toArray) (hi : IntsAre vs ns) (hfit : ns.length < 2 ^ 62)
    (hret : ∀ h' tk' r x y tx ty n, (∀ c o, s.heap.get? c = some o → h'.get? c = some o) → s.heap.get? r = none → h'.get? r = some (listOf #[.int x tx, .int y ty] n) → 0 ≤ x → 0 ≤ y → y < 2147483647 → Q (.ref r) { s with heap := h', toks := tk' }) :
    wpAny (model PySem.Challenge.rw_xm0654_01.row.prog w) (ktrTop dp un gd cn cs L a ccd cl outer) (call (.ref 133) [.ref l]) Q E s := by
  w_top off
  revert X; k_fill; intro X
  refine wpAny_call ?_
  refine' code_own ?k1 ?k2 ?k3 (News.nil) ?k5 ?kA ?kF ?kK ?k6 ?k7 ?k8 ?k9 ?kB ?_ ?c2 ?c3 ?c4 ?c5
  (case kA => exact rfl); (case kF => exact rfl); (case kK => assumption); (case k1 => k_asm); (case k2 => k_asm); (case k3 => k_asm); (case k5 => k_asm); (case k6 => k_is); (case k7 => k_is); (case k8 => ktr_room); (case k9 => exact BindsTo.of_eq rfl); (case c5 => decide); (case kB => exact locs rfl); (case c2 => exact rfl); (case c3 => exact rfl); (case c4 => exact rfl)
  intro g' L' h' KG' KS' FG' F' N' B' X' T' l1
  dsimp only at KG' F' N'

  have hlg : g'.IsList l vs.toArray := by obtain ⟨o, ho, r⟩ := hl; exact ⟨o, FG'.keep _ _ ho, r⟩
  k_steps
  all_goals (
    (rename Fr _ _ _ _ => F9); (rename News _ _ _ _ => N9)
    have z9 := made_end KG' F9 N9
    have q1 := z9.1
    have q2 := z9.2.1
    have q3 := z9.2.2
    clear z9
    refine hret _ _ _ _ _ _ _ _ q1 q2 q3 ?_ (Int.fmod_nonneg_of_pos _ (by decide)) (Int.fmod_lt_of_pos _ (by decide))
    first | decide | omega | (simp only [decide_eq_true_eq, decide_eq_false_iff_not] at *; omega))
end Mine
end

section
open PySem PySem.W PyProof.Rows PySem.Calls
namespace Mine
local macro_rules | `(tactic| k_room) => `(tactic| ktr_room)
local macro_rules | `(tactic| walk_at "ite") => `(tactic| (k_here; k_closed; first | refine ite_pos (by decide +kernel) ?_ | refine ite_neg (by decide +kernel) ?_))

theorem src_end {sh g h : Heap} {L r : Addr} {m : Str → Option Value} {o o1 : Obj} {rest : List (Addr × Obj)}
    (KG : ∀ b o, b ∉ List.map (·.1) [(r, o1)] → sh.get? b = some o → g.get? b = some o) (F : Fr g L h m) (N : News g L h ((r, o) :: rest)) :
    (∀ b o, b ≠ r → sh.get? b = some o → h.get? b = some o) ∧ h.get? r = some o :=
  ⟨fun b o hb ho => F.keep b o (KG b o (by simpa using hb) ho), (N _ (.head _)).1⟩

theorem sq_ok (x z b : Int) : IntMulOk ([x, z.fmod 2147483647].getD (Int.toNat 1) 0) b := by
  have h1 := Int.fmod_nonneg_of_pos z (show (0 : Int) < 2147483647 by decide)
  have h2 := Int.fmod_lt_of_pos z (show (0 : Int) < 2147483647 by decide)
  refine IntMulOk.of_left (intBits_le_64 ?_ ?_)
  · show _ < z.fmod 2147483647; omega
  · show z.fmod 2147483647 < _; omega
local macro_rules | `(tactic| walk_at "binaryOp Mult int int") => `(tactic| (k_here; k_dflt (refine mul_int ?_ (sq_ok _ _ _))))

theorem take_says (w : World) {mean : ExcName → Option Value} {mg mb : Str → Option Value} {dp un : Nat} {gd : Option (List Code)} {cn : Str} {cs : Scope} {a : Addr} {ccd : Value} {cl : List (Str × Addr)} {outer : List Env} {A₀ : Around} {base h₀ : Heap} {L : Addr} {m : Str → Option Value} {s : Shared} {Q E : Value → Shared → Prop}
    (B : Below A₀ base outer h₀) (F : Fr h₀ L s.heap m) (X : (hd.heap_39 w.params).In h₀) (T : Top hd.view_39 (looseW hd.view_39 []) mean mg mb h₀) (hk : cs.kind = .function) (hdp : dp + 3 < recursionLimit)
    {r : Addr} {x y top : Int} {tx ty tt : Tok} {n : Nat} (hx : 0 ≤ x) (hy : 0 ≤ y) (hy2 : y < 2147483647) (ht : 0 < top) (ht2 : top ≤ 20)
    (N : News h₀ L s.heap [(r, listOf #[.int x tx, .int y ty] n)])
    (hret : ∀ h' tk' k tk x' y' tx' ty' n', (∀ c o, c ≠ r → s.heap.get? c = some o → h'.get? c = some o) → h'.get? r = some (listOf #[.int x' tx', .int y' ty'] n') → 0 ≤ x' → 0 ≤ y' → y' < 2147483647 → 0 ≤ k → k < top → Q (.int k tk) { s with heap := h', toks := tk' }) :
    wpAny (model PySem.Challenge.rw_xm0654_01.row.prog w) (ktrTop dp un gd cn cs L a ccd cl outer) (call (.ref 140) [.ref r, .int top tt]) Q E s := by
  w_top off
  revert X; k_fill; intro X
  refine wpAny_call ?_
  refine' code_own ?k1 ?k2 ?k3 N ?k5 ?kA ?kF ?kK ?k6 ?k7 ?k8 ?k9 ?kB ?_ ?c2 ?c3 ?c4 ?c5
  (case kA => exact rfl); (case kF => exact rfl); (case kK => assumption); (case k1 => k_asm); (case k2 => k_asm); (case k3 => k_asm); (case k5 => k_asm); (case k6 => k_is); (case k7 => k_is); (case k8 => ktr_room); (case k9 => exact BindsTo.of_eq rfl); (case c5 => decide); (case kB => exact locs rfl); (case c2 => exact rfl); (case c3 => exact rfl); (case c4 => exact rfl)
  intro g' L' h' KG' KS' FG' F' N' B' X' T' l1
  dsimp only at KG' F' N'

  k_steps
  all_goals (
    (try dsimp only)
    (rename Fr _ _ _ _ => F9); (rename News _ _ _ _ => N9)
    have z9 := src_end KG' F9 N9
    have q1 := z9.1
    have q2 := z9.2
    clear z9)
  · refine hret _ _ _ _ _ _ _ _ _ q1 q2 ?_ hy hy2 (Int.fmod_nonneg_of_pos _ ht) (Int.fmod_lt_of_pos _ ht)
    exact Int.fdiv_nonneg hx (by omega)
  · exact hret _ _ _ _ _ _ _ _ _ q1 q2 hx (Int.fmod_nonneg_of_pos _ (by decide)) (Int.fmod_lt_of_pos _ (by decide)) (Int.fmod_nonneg_of_pos _ ht) (Int.fmod_lt_of_pos _ ht)
end Mine
end

section
open PySem PySem.W PyProof.Rows PySem.Calls
namespace Mine
local macro_rules | `(tactic| k_room) => `(tactic| ktr_room)
local macro_rules | `(tactic| walk_at "ite") => `(tactic| (k_here; k_closed; first | refine ite_pos (by decide +kernel) ?_ | refine ite_neg (by decide +kernel) ?_))

theorem isl_keep {g h : Heap} {L l : Addr} {m : Str → Option Value} {its : Array Value} (F : Fr g L h m) (hl : g.IsList l its) : h.IsList l its := by
  obtain ⟨o, ho, r⟩ := hl
  exact ⟨o, F.keep _ _ ho, r⟩
theorem fr_but {h₀ h h' : Heap} {L r : Addr} {m : Str → Option Value} (F : Fr h₀ L h m) (hr : h₀.get? r = none) (hL : r ≠ L) (k : ∀ c o, c ≠ r → h.get? c = some o → h'.get? c = some o) : Fr h₀ L h' m := by
  obtain ⟨oL, es, ep, hh, hLr⟩ := F.ns
  exact ⟨⟨oL, es, ep, k _ _ (Ne.symm hL) hh, hLr⟩, fun b o hb => k b o (fun z => by rw [z, hr] at hb; cases hb) (F.keep b o hb), F.above⟩
theorem take_use (w : World) {mean : ExcName → Option Value} {mg mb : Str → Option Value} {dp un : Nat} {gd : Option (List Code)} {cn : Str} {cs : Scope} {a : Addr} {ccd : Value} {cl : List (Str × Addr)} {outer : List Env} {A₀ : Around} {base h₀ : Heap} {L : Addr} {m : Str → Option Value} {s : Shared} {Q E : Value → Shared → Prop}
    (B : Below A₀ base outer h₀) (F : Fr h₀ L s.heap m) (X : (hd.heap_39 w.params).In h₀) (T : Top hd.view_39 (looseW hd.view_39 []) mean mg mb h₀) (hk : cs.kind = .function) (hdp : dp + 3 < recursionLimit)
    {r : Addr} {x y top : Int} {tx ty tt : Tok} {n : Nat} (hx : 0 ≤ x) (hy : 0 ≤ y) (hy2 : y < 2147483647) (ht : 0 < top) (ht2 : top ≤ 20)
    (N : News h₀ L s.heap [(r, listOf #[.int x tx, .int y ty] n)])
    (hret : ∀ h' tk' k tk x' y' tx' ty' n', Fr h₀ L h' m → News h₀ L h' [(r, listOf #[.int x' tx', .int y' ty'] n')] → 0 ≤ x' → 0 ≤ y' → y' < 2147483647 → 0 ≤ k → k < top → Q (.int k tk) { s with heap := h', toks := tk' }) :
    wpAny (model PySem.Challenge.rw_xm0654_01.row.prog w) (ktrTop dp un gd cn cs L a ccd cl outer) (call (.ref 140) [.ref r, .int top tt]) Q E s :=
  take_says w B F X T hk hdp hx hy hy2 ht ht2 N fun h' tk' k tk x' y' tx' ty' n' q1 q2 h1 h2 h3 h4 h5 =>
    have n1 := N _ (.head _)
    hret h' tk' k tk x' y' tx' ty' n' (fr_but F n1.2.2 n1.2.1 q1) (fun p hp => by obtain rfl := List.mem_singleton.mp hp; exact ⟨q2, n1.2.1, n1.2.2⟩) h1 h2 h3 h4 h5

local macro_rules | `(tactic| walk_at "call builtin:len") => `(tactic| (k_here; (with_reducible rename Heap.IsList _ _ _ => hl9); (rename Fr _ _ _ _ => F9); k_dflt (refine' len_list (isl_keep F9 hl9) ?z ?_; (case z => omega); k_whole)))
local macro_rules | `(tactic| walk_at "call ref") => `(tactic| (k_here; (with_reducible show wpAny _ _ (call (Value.ref 140) _) _ _ _); k_dflt (refine' take_use _ ?B ?F ?X ?T ?k ?d ?h1 ?h2 ?h3 ?h4 ?h5 ?N ?_; (case B => k_asm); (case F => k_asm); (case X => k_asm); (case T => k_asm); (case k => rfl); (case d => ktr_room); (case N => k_asm); (case h1 => assumption); (case h2 => assumption); (case h3 => assumption); (case h4 => assumption); (case h5 => assumption); k_whole); intro h' tk' k' tt' x' y' tx' ty' n' F' N' a1' a2' a3' a4' a5'))
local macro_rules | `(tactic| walk_at "subscriptTail") => `(tactic| (k_here; (with_reducible rename Heap.IsList _ _ _ => hl9); (rename Fr _ _ _ _ => F9); k_dflt (refine' item_list (isl_keep F9 hl9) ?h0 ?hf ?hx ?_ ?hs ?hg; (case h0 => assumption); (case hf => omega); (case hx => exact Array.getElem?_eq_getElem (by omega)); (case hs => with_unfolding_all rfl); (case hg => intro _; with_unfolding_all rfl); k_whole)))
theorem one_says (w : World) {mean : ExcName → Option Value} {mg mb : Str → Option Value} {dp un : Nat} {gd : Option (List Code)} {cn : Str} {cs : Scope} {a : Addr} {ccd : Value} {cl : List (Str × Addr)} {outer : List Env} {A₀ : Around} {base h₀ : Heap} {L : Addr} {m : Str → Option Value} {s : Shared} {Q E : Value → Shared → Prop}
    (B : Below A₀ base outer h₀) (F : Fr h₀ L s.heap m) (X : (hd.heap_39 w.params).In h₀) (T : Top hd.view_39 (looseW hd.view_39 []) mean mg mb h₀) (hk : cs.kind = .function) (hdp : dp + 4 < recursionLimit)
    {r th : Addr} {x y : Int} {tx ty : Tok} {n : Nat} {its : Array Value} (hx : 0 ≤ x) (hy : 0 ≤ y) (hy2 : y < 2147483647) (hs1 : (0 : Int) < its.size) (hs2 : (its.size : Int) ≤ 20)
    (hth : s.heap.IsList th its) (hne : th ≠ r)
    (N : News h₀ L s.heap [(r, listOf #[.int x tx, .int y ty] n)])
    (hret : ∀ h' tk' v x' y' tx' ty' n', (∀ c o, c ≠ r → s.heap.get? c = some o → h'.get? c = some o) → h'.get? r = some (listOf #[.int x' tx', .int y' ty'] n') → 0 ≤ x' → 0 ≤ y' → y' < 2147483647 → v ∈ its.toList → Q v { s with heap := h', toks := tk' }) :
    wpAny (model PySem.Challenge.rw_xm0654_01.row.prog w) (ktrTop dp un gd cn cs L a ccd cl outer) (call (.ref 147) [.ref r, .ref th]) Q E s := by
  w_top off
  revert X; k_fill; intro X
  refine wpAny_call ?_
  refine' code_own ?k1 ?k2 ?k3 N ?k5 ?kA ?kF ?kK ?k6 ?k7 ?k8 ?k9 ?kB ?_ ?c2 ?c3 ?c4 ?c5
  (case kA => exact rfl); (case kF => exact rfl); (case kK => assumption); (case k1 => k_asm); (case k2 => k_asm); (case k3 => k_asm); (case k5 => k_asm); (case k6 => k_is); (case k7 => k_is); (case k8 => ktr_room); (case k9 => exact BindsTo.of_eq rfl); (case c5 => decide); (case kB => exact locs rfl); (case c2 => exact rfl); (case c3 => exact rfl); (case c4 => exact rfl)
  intro g' L' h' KG' KS' FG' F' N' B' X' T' l1
  dsimp only at KG' F' N'

  have hlg : g'.IsList th its := by
    obtain ⟨o, ho, rr⟩ := hth
    exact ⟨o, KG' _ _ (by simpa using hne) ho, rr⟩
  k_steps
  (rename Fr _ _ _ _ => F9); (rename News _ _ _ _ => N9)
  have z9 := src_end KG' F9 N9
  have q1 := z9.1
  have q2 := z9.2
  clear z9
  exact hret _ _ _ _ _ _ _ _ q1 q2 (by assumption) (by assumption) (by assumption) (by simp)
end Mine
end

section
open PySem PySem.W PyProof.Rows PySem.Calls
namespace Mine

def GoodSrc (ns : List Int) : Prop := ∃ x y, ns = [x, y] ∧ 0 ≤ x ∧ 0 ≤ y ∧ y < 2147483647
theorem good_of {x y : Int} (h1 : 0 ≤ x) (h2 : 0 ≤ y) (h3 : y < 2147483647) : GoodSrc [x, y] := ⟨x, y, rfl, h1, h2, h3⟩
theorem src_open {vs : List Value} {ns : List Int} (hi : IntsAre vs ns) (hg : GoodSrc ns) : ∃ x tx y ty, vs = [.int x tx, .int y ty] ∧ 0 ≤ x ∧ 0 ≤ y ∧ y < 2147483647 := by
  obtain ⟨x, y, rfl, h1, h2, h3⟩ := hg
  cases hi with | cons a t r => cases r with | cons b u r => cases r; exact ⟨x, _, y, _, rfl, h1, h2, h3⟩
theorem src_are (x y : Int) (tx ty : Tok) : IntsAre [.int x tx, .int y ty] [x, y] := .cons _ _ (.cons _ _ .nil)
theorem news_but {h₀ h h' : Heap} {L r : Addr} {news : List (Addr × Obj)} {gg : Obj → List (Addr × Obj)} {o o' : Obj} (N : News h₀ L h news) (U : UpdF r o news gg) (k : ∀ c o, c ≠ r → h.get? c = some o → h'.get? c = some o) (hr : h'.get? r = some o') : News h₀ L h' (gg o') := by
  obtain ⟨pre, post, rfl, hg, a, b⟩ := U.split
  rw [hg]
  intro p hp
  rcases List.mem_append.mp hp with hp | hp
  · have z := N p (List.mem_append_left _ hp)
    exact ⟨k _ _ (a p hp) z.1, z.2⟩
  rcases List.mem_cons.mp hp with rfl | hp
  · exact ⟨hr, (N (r, o) (List.mem_append_right _ (.head _))).2⟩
  · have z := N p (List.mem_append_right _ (.tail _ hp))
    exact ⟨k _ _ (b p hp) z.1, z.2⟩
theorem updF_mem {r : Addr} {news : List (Addr × Obj)} {gg : Obj → List (Addr × Obj)} {o : Obj} (U : UpdF r o news gg) : (r, o) ∈ news := by
  obtain ⟨pre, post, rfl, hg, a, b⟩ := U.split
  exact List.mem_append_right _ (.head _)
theorem one_use (w : World) {mean : ExcName → Option Value} {mg mb : Str → Option Value} {dp un : Nat} {gd : Option (List Code)} {cn : Str} {cs : Scope} {a : Addr} {ccd : Value} {cl : List (Str × Addr)} {outer : List Env} {A₀ : Around} {base h₀ : Heap} {L : Addr} {m : Str → Option Value} {s : Shared} {Q E : Value → Shared → Prop}
    (B : Below A₀ base outer h₀) (F : Fr h₀ L s.heap m) (X : (hd.heap_39 w.params).In h₀) (T : Top hd.view_39 (looseW hd.view_39 []) mean mg mb h₀) (hk : cs.kind = .function) (hdp : dp + 4 < recursionLimit)
    {r th : Addr} {vs : List Value} {ns : List Int} {n : Nat} {its : Array Value} {news : List (Addr × Obj)} {gg : Obj → List (Addr × Obj)} (hi : IntsAre vs ns) (hg : GoodSrc ns) (hs1 : 1 ≤ its.size) (hs2 : its.size ≤ 20)
    (hth : s.heap.IsList th its) (hne : th ≠ r)
    (N : News h₀ L s.heap news) (U : UpdF r (listOf vs.toArray n) news gg)
    (hret : ∀ h' tk' v vs' ns' n', Fr h₀ L h' m → News h₀ L h' (gg (listOf vs'.toArray n')) → IntsAre vs' ns' → GoodSrc ns' → v ∈ its.toList → Q v { s with heap := h', toks := tk' }) :
    wpAny (model PySem.Challenge.rw_xm0654_01.row.prog w) (ktrTop dp un gd cn cs L a ccd cl outer) (call (.ref 147) [.ref r, .ref th]) Q E s := by
  obtain ⟨x, tx, y, ty, rfl, h1, h2, h3⟩ := src_open hi hg
  have n1 := N _ (updF_mem U)
  refine one_says w B F X T hk hdp h1 h2 h3 (by omega) (by omega) hth hne (fun p hp => by obtain rfl := List.mem_singleton.mp hp; exact n1) fun h' tk' v x' y' tx' ty' n' q1 q2 a1 a2 a3 hv => ?_
  exact hret h' tk' v [.int x' tx', .int y' ty'] _ n' (fr_but F n1.2.2 n1.2.1 q1) (news_but N U q1 q2) (src_are _ _ _ _) (good_of a1 a2 a3) hv
end Mine
end

section
open PySem PySem.W PyProof.Rows PySem.Calls
namespace Mine
local macro_rules | `(tactic| k_room) => `(tactic| ktr_room)
local macro_rules | `(tactic| walk_at "ite") => `(tactic| (k_here; k_closed; first | refine ite_pos (by decide +kernel) ?_ | refine ite_neg (by decide +kernel) ?_))

def PRE : List (Str × Bool) := [(Str.ofString "p", true), (Str.ofString "a-1.b", true), (Str.ofString "_", true), (Str.ofString "é", true), (Str.ofString "a·", true), (Str.ofString "xmlx", true), (Str.ofString "XML", true), (Str.ofString "xmlns2", true), (Str.ofString "1p", false), (Str.ofString "a:b", false), (Str.ofString "p q", false), (Str.ofString "-", false), (Str.ofString "·", false), (Str.ofString "×", false), (Str.ofString ":", false), (Str.ofString "xml", true), (Str.ofString "xmlns", true), (Str.ofString "", false)]
theorem tup_new {sh g h : Heap} {L r p : Addr} {m : Str → Option Value} {o1 : Obj} {news : List (Addr × Obj)} {vs : List Value} {its : Array Value} {n : Nat}
    (KG : ∀ b o, b ∉ List.map (·.1) [(r, o1)] → sh.get? b = some o → g.get? b = some o) (F : Fr g L h m) (N : News g L h news) (hp : (p, tupO vs) ∈ news) (hr : (r, listOf its n) ∈ news) :
    sh.get? p = none ∧ h.get? p = some (tupO vs) := by
  have n1 := N _ hp
  have n2 := N _ hr
  refine ⟨?_, n1.1⟩
  cases hq : sh.get? p with
  | none => rfl
  | some o =>
    have hne : p ≠ r := fun z => by have a := n1.1; have b := n2.1; dsimp only at a b; rw [z, b] at a; exact absurd (Value.type.inj (congrArg Obj.cls (Option.some.inj a))) (by decide)
    have := KG _ _ (by simpa using hne) hq
    have z := n1.2.2
    dsimp only at z
    rw [this] at z; cases z
theorem pick_end {P : Value → Prop} {sh h : Heap} {l : List Value} {v : Value} (hl : ∀ v ∈ l, ∃ p x t b, v = Value.ref p ∧ (sh.get? p = none ∧ h.get? p = some (tupO [.str x t, .bool b])) ∧ (x, b) ∈ PRE) (hv : v ∈ l)
    (k : ∀ p x t b, sh.get? p = none → h.get? p = some (tupO [.str x t, .bool b]) → (x, b) ∈ PRE → P (.ref p)) : P v := by
  obtain ⟨p, x, t, b, rfl, ⟨z1, z2⟩, z3⟩ := hl v hv
  exact k p x t b z1 z2 z3
theorem srcN_end {sh g h : Heap} {L r : Addr} {m : Str → Option Value} {o o1 : Obj} {news : List (Addr × Obj)}
    (KG : ∀ b o, b ∉ List.map (·.1) [(r, o1)] → sh.get? b = some o → g.get? b = some o) (F : Fr g L h m) (N : News g L h news) (hr : (r, o) ∈ news) :
    (∀ b o, b ≠ r → sh.get? b = some o → h.get? b = some o) ∧ h.get? r = some o :=
  ⟨fun b o hb ho => F.keep b o (KG b o (by simpa using hb) ho), (N _ hr).1⟩

local macro_rules | `(tactic| walk_at "call ref") => `(tactic| (k_here; (with_reducible show wpAny _ _ (call (Value.ref 147) _) _ _ _); k_dflt (refine' one_use _ ?B ?F ?X ?T ?k ?d ?hi ?hg ?s1 ?s2 ?th ?ne ?N ?U ?_; (case N => k_asm); (case th => exact News.isList (by k_asm) (by k_mem)); (case U => k_updF); (case B => k_asm); (case F => k_asm); (case X => k_asm); (case T => k_asm); (case k => first | rfl | assumption); (case d => ktr_room); (case hi => assumption); (case hg => assumption); (case s1 => exact Nat.le_of_ble_eq_true rfl); (case s2 => exact Nat.le_of_ble_eq_true rfl); (case ne => k_ne); k_whole); intro h' tk' v' vs' ns' n' F' N' a1' a2' a3'; (try dsimp only at N' a3')))
theorem prefix_says (w : World) {mean : ExcName → Option Value} {mg mb : Str → Option Value} {dp un : Nat} {gd : Option (List Code)} {cn : Str} {cs : Scope} {a : Addr} {ccd : Value} {cl : List (Str × Addr)} {outer : List Env} {A₀ : Around} {base h₀ : Heap} {L : Addr} {m : Str → Option Value} {s : Shared} {Q E : Value → Shared → Prop}
    (B : Below A₀ base outer h₀) (F : Fr h₀ L s.heap m) (X : (hd.heap_39 w.params).In h₀) (T : Top hd.view_39 (looseW hd.view_39 []) mean mg mb h₀) (hk : cs.kind = .function) (hdp : dp + 5 < recursionLimit)
    {r : Addr} {vs : List Value} {ns : List Int} {n : Nat} (hi : IntsAre vs ns) (hg : GoodSrc ns)
    (N : News h₀ L s.heap [(r, listOf vs.toArray n)])
    (hret : ∀ h' tk' p x t b vs' ns' n', (∀ c o, c ≠ r → s.heap.get? c = some o → h'.get? c = some o) → h'.get? r = some (listOf vs'.toArray n') → IntsAre vs' ns' → GoodSrc ns' → s.heap.get? p = none → h'.get? p = some (tupO [.str x t, .bool b]) → (x, b) ∈ PRE → Q (.ref p) { s with heap := h', toks := tk' }) :
    wpAny (model PySem.Challenge.rw_xm0654_01.row.prog w) (ktrTop dp un gd cn cs L a ccd cl outer) (call (.ref 175) [.ref r]) Q E s := by
  w_top off
  revert X; k_fill; intro X
  refine wpAny_call ?_
  refine' code_own ?k1 ?k2 ?k3 N ?k5 ?kA ?kF ?kK ?k6 ?k7 ?k8 ?k9 ?kB ?_ ?c2 ?c3 ?c4 ?c5
  (case kA => exact rfl); (case kF => exact rfl); (case kK => assumption); (case k1 => k_asm); (case k2 => k_asm); (case k3 => k_asm); (case k5 => k_asm); (case k6 => k_is); (case k7 => k_is); (case k8 => ktr_room); (case k9 => exact BindsTo.of_eq rfl); (case c5 => decide); (case kB => exact locs rfl); (case c2 => exact rfl); (case c3 => exact rfl); (case c4 => exact rfl)
  intro g' L' h' KG' KS' FG' F' N' B' X' T' l1
  dsimp only at KG' F' N'

  k_steps
  (rename Fr _ _ _ _ => F9); (rename News _ _ _ _ => N9); (with_reducible rename _ ∈ _ => hv9)
  have z9 := srcN_end KG' F9 N9 (o := listOf _ _) (by k_mem)
  have q1 := z9.1
  have q2 := z9.2
  clear z9
  refine pick_end (P := fun v => Q v _) ?_ hv9 fun p x t b z1 z2 z3 => hret _ _ p x t b _ _ _ q1 q2 (by assumption) (by assumption) z1 z2 z3
  repeat' (first | exact List.forall_mem_nil _ | (refine List.forall_mem_cons.mpr ⟨⟨_, _, _, _, rfl, tup_new KG' F9 N9 (by k_mem) (by k_mem), by decide +kernel⟩, ?_⟩))
end Mine
end

section
open PySem PySem.W PyProof.Rows PySem.Calls
namespace Mine
local macro_rules | `(tactic| k_room) => `(tactic| ktr_room)
local macro_rules | `(tactic| walk_at "ite") => `(tactic| (k_here; k_closed; first | refine ite_pos (by decide +kernel) ?_ | refine ite_neg (by decide +kernel) ?_))
local macro_rules | `(tactic| walk_at "exec For Tuple Name cons nil") => `(tactic| (k_here; (rename Fr _ _ _ _ => lF'); (with_unfolding_all refine' For_turns lF' ?_; k_whole)))

theorem chr_0 (w : World) {mean : ExcName → Option Value} {mg mb : Str → Option Value} {dp un : Nat} {gd : Option (List Code)} {cn : Str} {cs : Scope} {a : Addr} {ccd : Value} {cl : List (Str × Addr)} {outer : List Env} {A₀ : Around} {base h₀ : Heap} {L : Addr} {m : Str → Option Value} {s : Shared} {Q E : Value → Shared → Prop}
    (B : Below A₀ base outer h₀) (F : Fr h₀ L s.heap m) (X : (hd.heap_39 w.params).In h₀) (T : Top hd.view_39 (looseW hd.view_39 []) mean mg mb h₀) (hk : cs.kind = .function) (hdp : dp + 4 < recursionLimit) {tx : Tok}
    (hret : ∀ h' tk', (∀ c o, s.heap.get? c = some o → h'.get? c = some o) → Q (.bool true) { s with heap := h', toks := tk' }) :
    wpAny (model PySem.Challenge.rw_xm0654_01.row.prog w) (ktrTop dp un gd cn cs L a ccd cl outer) (call (.ref 59) [.str (Str.ofString "p") tx]) Q E s := by
  w_top off
  revert X; k_fill; intro X
  refine wpAny_call ?_
  refine' code_own ?k1 ?k2 ?k3 News.nil ?k5 ?kA ?kF ?kK ?k6 ?k7 ?k8 ?k9 ?kB ?_ ?c2 ?c3 ?c4 ?c5
  (case kA => exact rfl); (case kF => exact rfl); (case kK => assumption); (case k1 => k_asm); (case k2 => k_asm); (case k3 => k_asm); (case k5 => k_asm); (case k6 => k_is); (case k7 => k_is); (case k8 => ktr_room); (case k9 => exact BindsTo.of_eq rfl); (case c5 => decide); (case kB => exact locs rfl); (case c2 => exact rfl); (case c3 => exact rfl); (case c4 => exact rfl)
  intro g' L' h' KG' KS' FG' F' N' B' X' T' l1
  dsimp only at KG' F' N'

  k_steps
  all_goals ((rename Fr _ _ _ _ => F9); exact hret _ _ fun c o hc => F9.keep c o (KG' c o (by simp) hc))
theorem chr_1 (w : World) {mean : ExcName → Option Value} {mg mb : Str → Option Value} {dp un : Nat} {gd : Option (List Code)} {cn : Str} {cs : Scope} {a : Addr} {ccd : Value} {cl : List (Str × Addr)} {outer : List Env} {A₀ : Around} {base h₀ : Heap} {L : Addr} {m : Str → Option Value} {s : Shared} {Q E : Value → Shared → Prop}
    (B : Below A₀ base outer h₀) (F : Fr h₀ L s.heap m) (X : (hd.heap_39 w.params).In h₀) (T : Top hd.view_39 (looseW hd.view_39 []) mean mg mb h₀) (hk : cs.kind = .function) (hdp : dp + 4 < recursionLimit) {tx : Tok}
    (hret : ∀ h' tk', (∀ c o, s.heap.get? c = some o → h'.get? c = some o) → Q (.bool true) { s with heap := h', toks := tk' }) :
    wpAny (model PySem.Challenge.rw_xm0654_01.row.prog w) (ktrTop dp un gd cn cs L a ccd cl outer) (call (.ref 59) [.str (Str.ofString "a") tx]) Q E s := by
  w_top off
  revert X; k_fill; intro X
  refine wpAny_call ?_
  refine' code_own ?k1 ?k2 ?k3 News.nil ?k5 ?kA ?kF ?kK ?k6 ?k7 ?k8 ?k9 ?kB ?_ ?c2 ?c3 ?c4 ?c5
  (case kA => exact rfl); (case kF => exact rfl); (case kK => assumption); (case k1 => k_asm); (case k2 => k_asm); (case k3 => k_asm); (case k5 => k_asm); (case k6 => k_is); (case k7 => k_is); (case k8 => ktr_room); (case k9 => exact BindsTo.of_eq rfl); (case c5 => decide); (case kB => exact locs rfl); (case c2 => exact rfl); (case c3 => exact rfl); (case c4 => exact rfl)
  intro g' L' h' KG' KS' FG' F' N' B' X' T' l1
  dsimp only at KG' F' N'

  k_steps
  all_goals ((rename Fr _ _ _ _ => F9); exact hret _ _ fun c o hc => F9.keep c o (KG' c o (by simp) hc))
theorem chr_2 (w : World) {mean : ExcName → Option Value} {mg mb : Str → Option Value} {dp un : Nat} {gd : Option (List Code)} {cn : Str} {cs : Scope} {a : Addr} {ccd : Value} {cl : List (Str × Addr)} {outer : List Env} {A₀ : Around} {base h₀ : Heap} {L : Addr} {m : Str → Option Value} {s : Shared} {Q E : Value → Shared → Prop}
    (B : Below A₀ base outer h₀) (F : Fr h₀ L s.heap m) (X : (hd.heap_39 w.params).In h₀) (T : Top hd.view_39 (looseW hd.view_39 []) mean mg mb h₀) (hk : cs.kind = .function) (hdp : dp + 4 < recursionLimit) {tx : Tok}
    (hret : ∀ h' tk', (∀ c o, s.heap.get? c = some o → h'.get? c = some o) → Q (.bool true) { s with heap := h', toks := tk' }) :
    wpAny (model PySem.Challenge.rw_xm0654_01.row.prog w) (ktrTop dp un gd cn cs L a ccd cl outer) (call (.ref 59) [.str (Str.ofString "-") tx]) Q E s := by
  w_top off
  revert X; k_fill; intro X
  refine wpAny_call ?_
  refine' code_own ?k1 ?k2 ?k3 News.nil ?k5 ?kA ?kF ?kK ?k6 ?k7 ?k8 ?k9 ?kB ?_ ?c2 ?c3 ?c4 ?c5
  (case kA => exact rfl); (case kF => exact rfl); (case kK => assumption); (case k1 => k_asm); (case k2 => k_asm); (case k3 => k_asm); (case k5 => k_asm); (case k6 => k_is); (case k7 => k_is); (case k8 => ktr_room); (case k9 => exact BindsTo.of_eq rfl); (case c5 => decide); (case kB => exact locs rfl); (case c2 => exact rfl); (case c3 => exact rfl); (case c4 => exact rfl)
  intro g' L' h' KG' KS' FG' F' N' B' X' T' l1
  dsimp only at KG' F' N'

  k_steps
  all_goals ((rename Fr _ _ _ _ => F9); exact hret _ _ fun c o hc => F9.keep c o (KG' c o (by simp) hc))
theorem chr_3 (w : World) {mean : ExcName → Option Value} {mg mb : Str → Option Value} {dp un : Nat} {gd : Option (List Code)} {cn : Str} {cs : Scope} {a : Addr} {ccd : Value} {cl : List (Str × Addr)} {outer : List Env} {A₀ : Around} {base h₀ : Heap} {L : Addr} {m : Str → Option Value} {s : Shared} {Q E : Value → Shared → Prop}
    (B : Below A₀ base outer h₀) (F : Fr h₀ L s.heap m) (X : (hd.heap_39 w.params).In h₀) (T : Top hd.view_39 (looseW hd.view_39 []) mean mg mb h₀) (hk : cs.kind = .function) (hdp : dp + 4 < recursionLimit) {tx : Tok}
    (hret : ∀ h' tk', (∀ c o, s.heap.get? c = some o → h'.get? c = some o) → Q (.bool true) { s with heap := h', toks := tk' }) :
    wpAny (model PySem.Challenge.rw_xm0654_01.row.prog w) (ktrTop dp un gd cn cs L a ccd cl outer) (call (.ref 59) [.str (Str.ofString "1") tx]) Q E s := by
  w_top off
  revert X; k_fill; intro X
  refine wpAny_call ?_
  refine' code_own ?k1 ?k2 ?k3 News.nil ?k5 ?kA ?kF ?kK ?k6 ?k7 ?k8 ?k9 ?kB ?_ ?c2 ?c3 ?c4 ?c5
  (case kA => exact rfl); (case kF => exact rfl); (case kK => assumption); (case k1 => k_asm); (case k2 => k_asm); (case k3 => k_asm); (case k5 => k_asm); (case k6 => k_is); (case k7 => k_is); (case k8 => ktr_room); (case k9 => exact BindsTo.of_eq rfl); (case c5 => decide); (case kB => exact locs rfl); (case c2 => exact rfl); (case c3 => exact rfl); (case c4 => exact rfl)
  intro g' L' h' KG' KS' FG' F' N' B' X' T' l1
  dsimp only at KG' F' N'

  k_steps
  all_goals ((rename Fr _ _ _ _ => F9); exact hret _ _ fun c o hc => F9.keep c o (KG' c o (by simp) hc))
theorem chr_4 (w : World) {mean : ExcName → Option Value} {mg mb : Str → Option Value} {dp un : Nat} {gd : Option (List Code)} {cn : Str} {cs : Scope} {a : Addr} {ccd : Value} {cl : List (Str × Addr)} {outer : List Env} {A₀ : Around} {base h₀ : Heap} {L : Addr} {m : Str → Option Value} {s : Shared} {Q E : Value → Shared → Prop}
    (B : Below A₀ base outer h₀) (F : Fr h₀ L s.heap m) (X : (hd.heap_39 w.params).In h₀) (T : Top hd.view_39 (looseW hd.view_39 []) mean mg mb h₀) (hk : cs.kind = .function) (hdp : dp + 4 < recursionLimit) {tx : Tok}
    (hret : ∀ h' tk', (∀ c o, s.heap.get? c = some o → h'.get? c = some o) → Q (.bool true) { s with heap := h', toks := tk' }) :
    wpAny (model PySem.Challenge.rw_xm0654_01.row.prog w) (ktrTop dp un gd cn cs L a ccd cl outer) (call (.ref 59) [.str (Str.ofString ".") tx]) Q E s := by
  w_top off
  revert X; k_fill; intro X
  refine wpAny_call ?_
  refine' code_own ?k1 ?k2 ?k3 News.nil ?k5 ?kA ?kF ?kK ?k6 ?k7 ?k8 ?k9 ?kB ?_ ?c2 ?c3 ?c4 ?c5
  (case kA => exact rfl); (case kF => exact rfl); (case kK => assumption); (case k1 => k_asm); (case k2 => k_asm); (case k3 => k_asm); (case k5 => k_asm); (case k6 => k_is); (case k7 => k_is); (case k8 => ktr_room); (case k9 => exact BindsTo.of_eq rfl); (case c5 => decide); (case kB => exact locs rfl); (case c2 => exact rfl); (case c3 => exact rfl); (case c4 => exact rfl)
  intro g' L' h' KG' KS' FG' F' N' B' X' T' l1
  dsimp only at KG' F' N'

  k_steps
  all_goals ((rename Fr _ _ _ _ => F9); exact hret _ _ fun c o hc => F9.keep c o (KG' c o (by simp) hc))
theorem chr_5 (w : World) {mean : ExcName → Option Value} {mg mb : Str → Option Value} {dp un : Nat} {gd : Option (List Code)} {cn : Str} {cs : Scope} {a : Addr} {ccd : Value} {cl : List (Str × Addr)} {outer : List Env} {A₀ : Around} {base h₀ : Heap} {L : Addr} {m : Str → Option Value} {s : Shared} {Q E : Value → Shared → Prop}
    (B : Below A₀ base outer h₀) (F : Fr h₀ L s.heap m) (X : (hd.heap_39 w.params).In h₀) (T : Top hd.view_39 (looseW hd.view_39 []) mean mg mb h₀) (hk : cs.kind = .function) (hdp : dp + 4 < recursionLimit) {tx : Tok}
    (hret : ∀ h' tk', (∀ c o, s.heap.get? c = some o → h'.get? c = some o) → Q (.bool true) { s with heap := h', toks := tk' }) :
    wpAny (model PySem.Challenge.rw_xm0654_01.row.prog w) (ktrTop dp un gd cn cs L a ccd cl outer) (call (.ref 59) [.str (Str.ofString "b") tx]) Q E s := by
  w_top off
  revert X; k_fill; intro X
  refine wpAny_call ?_
  refine' code_own ?k1 ?k2 ?k3 News.nil ?k5 ?kA ?kF ?kK ?k6 ?k7 ?k8 ?k9 ?kB ?_ ?c2 ?c3 ?c4 ?c5
  (case kA => exact rfl); (case kF => exact rfl); (case kK => assumption); (case k1 => k_asm); (case k2 => k_asm); (case k3 => k_asm); (case k5 => k_asm); (case k6 => k_is); (case k7 => k_is); (case k8 => ktr_room); (case k9 => exact BindsTo.of_eq rfl); (case c5 => decide); (case kB => exact locs rfl); (case c2 => exact rfl); (case c3 => exact rfl); (case c4 => exact rfl)
  intro g' L' h' KG' KS' FG' F' N' B' X' T' l1
  dsimp only at KG' F' N'

  k_steps
  all_goals ((rename Fr _ _ _ _ => F9); exact hret _ _ fun c o hc => F9.keep c o (KG' c o (by simp) hc))
theorem chr_6 (w : World) {mean : ExcName → Option Value} {mg mb : Str → Option Value} {dp un : Nat} {gd : Option (List Code)} {cn : Str} {cs : Scope} {a : Addr} {ccd : Value} {cl : List (Str × Addr)} {outer : List Env} {A₀ : Around} {base h₀ : Heap} {L : Addr} {m : Str → Option Value} {s : Shared} {Q E : Value → Shared → Prop}
    (B : Below A₀ base outer h₀) (F : Fr h₀ L s.heap m) (X : (hd.heap_39 w.params).In h₀) (T : Top hd.view_39 (looseW hd.view_39 []) mean mg mb h₀) (hk : cs.kind = .function) (hdp : dp + 4 < recursionLimit) {tx : Tok}
    (hret : ∀ h' tk', (∀ c o, s.heap.get? c = some o → h'.get? c = some o) → Q (.bool true) { s with heap := h', toks := tk' }) :
    wpAny (model PySem.Challenge.rw_xm0654_01.row.prog w) (ktrTop dp un gd cn cs L a ccd cl outer) (call (.ref 59) [.str (Str.ofString "_") tx]) Q E s := by
  w_top off
  revert X; k_fill; intro X
  refine wpAny_call ?_
  refine' code_own ?k1 ?k2 ?k3 News.nil ?k5 ?kA ?kF ?kK ?k6 ?k7 ?k8 ?k9 ?kB ?_ ?c2 ?c3 ?c4 ?c5
  (case kA => exact rfl); (case kF => exact rfl); (case kK => assumption); (case k1 => k_asm); (case k2 => k_asm); (case k3 => k_asm); (case k5 => k_asm); (case k6 => k_is); (case k7 => k_is); (case k8 => ktr_room); (case k9 => exact BindsTo.of_eq rfl); (case c5 => decide); (case kB => exact locs rfl); (case c2 => exact rfl); (case c3 => exact rfl); (case c4 => exact rfl)
  intro g' L' h' KG' KS' FG' F' N' B' X' T' l1
  dsimp only at KG' F' N'

  k_steps
  all_goals ((rename Fr _ _ _ _ => F9); exact hret _ _ fun c o hc => F9.keep c o (KG' c o (by simp) hc))
theorem chr_7 (w : World) {mean : ExcName → Option Value} {mg mb : Str → Option Value} {dp un : Nat} {gd : Option (List Code)} {cn : Str} {cs : Scope} {a : Addr} {ccd : Value} {cl : List (Str × Addr)} {outer : List Env} {A₀ : Around} {base h₀ : Heap} {L : Addr} {m : Str → Option Value} {s : Shared} {Q E : Value → Shared → Prop}
    (B : Below A₀ base outer h₀) (F : Fr h₀ L s.heap m) (X : (hd.heap_39 w.params).In h₀) (T : Top hd.view_39 (looseW hd.view_39 []) mean mg mb h₀) (hk : cs.kind = .function) (hdp : dp + 4 < recursionLimit) {tx : Tok}
    (hret : ∀ h' tk', (∀ c o, s.heap.get? c = some o → h'.get? c = some o) → Q (.bool true) { s with heap := h', toks := tk' }) :
    wpAny (model PySem.Challenge.rw_xm0654_01.row.prog w) (ktrTop dp un gd cn cs L a ccd cl outer) (call (.ref 59) [.str (Str.ofString "é") tx]) Q E s := by
  w_top off
  revert X; k_fill; intro X
  refine wpAny_call ?_
  refine' code_own ?k1 ?k2 ?k3 News.nil ?k5 ?kA ?kF ?kK ?k6 ?k7 ?k8 ?k9 ?kB ?_ ?c2 ?c3 ?c4 ?c5
  (case kA => exact rfl); (case kF => exact rfl); (case kK => assumption); (case k1 => k_asm); (case k2 => k_asm); (case k3 => k_asm); (case k5 => k_asm); (case k6 => k_is); (case k7 => k_is); (case k8 => ktr_room); (case k9 => exact BindsTo.of_eq rfl); (case c5 => decide); (case kB => exact locs rfl); (case c2 => exact rfl); (case c3 => exact rfl); (case c4 => exact rfl)
  intro g' L' h' KG' KS' FG' F' N' B' X' T' l1
  dsimp only at KG' F' N'

  k_steps
  all_goals ((rename Fr _ _ _ _ => F9); exact hret _ _ fun c o hc => F9.keep c o (KG' c o (by simp) hc))
theorem chr_8 (w : World) {mean : ExcName → Option Value} {mg mb : Str → Option Value} {dp un : Nat} {gd : Option (List Code)} {cn : Str} {cs : Scope} {a : Addr} {ccd : Value} {cl : List (Str × Addr)} {outer : List Env} {A₀ : Around} {base h₀ : Heap} {L : Addr} {m : Str → Option Value} {s : Shared} {Q E : Value → Shared → Prop}
    (B : Below A₀ base outer h₀) (F : Fr h₀ L s.heap m) (X : (hd.heap_39 w.params).In h₀) (T : Top hd.view_39 (looseW hd.view_39 []) mean mg mb h₀) (hk : cs.kind = .function) (hdp : dp + 4 < recursionLimit) {tx : Tok}
    (hret : ∀ h' tk', (∀ c o, s.heap.get? c = some o → h'.get? c = some o) → Q (.bool true) { s with heap := h', toks := tk' }) :
    wpAny (model PySem.Challenge.rw_xm0654_01.row.prog w) (ktrTop dp un gd cn cs L a ccd cl outer) (call (.ref 59) [.str (Str.ofString "·") tx]) Q E s := by
  w_top off
  revert X; k_fill; intro X
  refine wpAny_call ?_
  refine' code_own ?k1 ?k2 ?k3 News.nil ?k5 ?kA ?kF ?kK ?k6 ?k7 ?k8 ?k9 ?kB ?_ ?c2 ?c3 ?c4 ?c5
  (case kA => exact rfl); (case kF => exact rfl); (case kK => assumption); (case k1 => k_asm); (case k2 => k_asm); (case k3 => k_asm); (case k5 => k_asm); (case k6 => k_is); (case k7 => k_is); (case k8 => ktr_room); (case k9 => exact BindsTo.of_eq rfl); (case c5 => decide); (case kB => exact locs rfl); (case c2 => exact rfl); (case c3 => exact rfl); (case c4 => exact rfl)
  intro g' L' h' KG' KS' FG' F' N' B' X' T' l1
  dsimp only at KG' F' N'

  k_steps
  all_goals ((rename Fr _ _ _ _ => F9); exact hret _ _ fun c o hc => F9.keep c o (KG' c o (by simp) hc))
theorem chr_9 (w : World) {mean : ExcName → Option Value} {mg mb : Str → Option Value} {dp un : Nat} {gd : Option (List Code)} {cn : Str} {cs : Scope} {a : Addr} {ccd : Value} {cl : List (Str × Addr)} {outer : List Env} {A₀ : Around} {base h₀ : Heap} {L : Addr} {m : Str → Option Value} {s : Shared} {Q E : Value → Shared → Prop}
    (B : Below A₀ base outer h₀) (F : Fr h₀ L s.heap m) (X : (hd.heap_39 w.params).In h₀) (T : Top hd.view_39 (looseW hd.view_39 []) mean mg mb h₀) (hk : cs.kind = .function) (hdp : dp + 4 < recursionLimit) {tx : Tok}
    (hret : ∀ h' tk', (∀ c o, s.heap.get? c = some o → h'.get? c = some o) → Q (.bool true) { s with heap := h', toks := tk' }) :
    wpAny (model PySem.Challenge.rw_xm0654_01.row.prog w) (ktrTop dp un gd cn cs L a ccd cl outer) (call (.ref 59) [.str (Str.ofString "x") tx]) Q E s := by
  w_top off
  revert X; k_fill; intro X
  refine wpAny_call ?_
  refine' code_own ?k1 ?k2 ?k3 News.nil ?k5 ?kA ?kF ?kK ?k6 ?k7 ?k8 ?k9 ?kB ?_ ?c2 ?c3 ?c4 ?c5
  (case kA => exact rfl); (case kF => exact rfl); (case kK => assumption); (case k1 => k_asm); (case k2 => k_asm); (case k3 => k_asm); (case k5 => k_asm); (case k6 => k_is); (case k7 => k_is); (case k8 => ktr_room); (case k9 => exact BindsTo.of_eq rfl); (case c5 => decide); (case kB => exact locs rfl); (case c2 => exact rfl); (case c3 => exact rfl); (case c4 => exact rfl)
  intro g' L' h' KG' KS' FG' F' N' B' X' T' l1
  dsimp only at KG' F' N'

  k_steps
  all_goals ((rename Fr _ _ _ _ => F9); exact hret _ _ fun c o hc => F9.keep c o (KG' c o (by simp) hc))
theorem chr_10 (w : World) {mean : ExcName → Option Value} {mg mb : Str → Option Value} {dp un : Nat} {gd : Option (List Code)} {cn : Str} {cs : Scope} {a : Addr} {ccd : Value} {cl : List (Str × Addr)} {outer : List Env} {A₀ : Around} {base h₀ : Heap} {L : Addr} {m : Str → Option Value} {s : Shared} {Q E : Value → Shared → Prop}
    (B : Below A₀ base outer h₀) (F : Fr h₀ L s.heap m) (X : (hd.heap_39 w.params).In h₀) (T : Top hd.view_39 (looseW hd.view_39 []) mean mg mb h₀) (hk : cs.kind = .function) (hdp : dp + 4 < recursionLimit) {tx : Tok}
    (hret : ∀ h' tk', (∀ c o, s.heap.get? c = some o → h'.get? c = some o) → Q (.bool true) { s with heap := h', toks := tk' }) :
    wpAny (model PySem.Challenge.rw_xm0654_01.row.prog w) (ktrTop dp un gd cn cs L a ccd cl outer) (call (.ref 59) [.str (Str.ofString "m") tx]) Q E s := by
  w_top off
  revert X; k_fill; intro X
  refine wpAny_call ?_
  refine' code_own ?k1 ?k2 ?k3 News.nil ?k5 ?kA ?kF ?kK ?k6 ?k7 ?k8 ?k9 ?kB ?_ ?c2 ?c3 ?c4 ?c5
  (case kA => exact rfl); (case kF => exact rfl); (case kK => assumption); (case k1 => k_asm); (case k2 => k_asm); (case k3 => k_asm); (case k5 => k_asm); (case k6 => k_is); (case k7 => k_is); (case k8 => ktr_room); (case k9 => exact BindsTo.of_eq rfl); (case c5 => decide); (case kB => exact locs rfl); (case c2 => exact rfl); (case c3 => exact rfl); (case c4 => exact rfl)
  intro g' L' h' KG' KS' FG' F' N' B' X' T' l1
  dsimp only at KG' F' N'

  k_steps
  all_goals ((rename Fr _ _ _ _ => F9); exact hret _ _ fun c o hc => F9.keep c o (KG' c o (by simp) hc))
theorem chr_11 (w : World) {mean : ExcName → Option Value} {mg mb : Str → Option Value} {dp un : Nat} {gd : Option (List Code)} {cn : Str} {cs : Scope} {a : Addr} {ccd : Value} {cl : List (Str × Addr)} {outer : List Env} {A₀ : Around} {base h₀ : Heap} {L : Addr} {m : Str → Option Value} {s : Shared} {Q E : Value → Shared → Prop}
    (B : Below A₀ base outer h₀) (F : Fr h₀ L s.heap m) (X : (hd.heap_39 w.params).In h₀) (T : Top hd.view_39 (looseW hd.view_39 []) mean mg mb h₀) (hk : cs.kind = .function) (hdp : dp + 4 < recursionLimit) {tx : Tok}
    (hret : ∀ h' tk', (∀ c o, s.heap.get? c = some o → h'.get? c = some o) → Q (.bool true) { s with heap := h', toks := tk' }) :
    wpAny (model PySem.Challenge.rw_xm0654_01.row.prog w) (ktrTop dp un gd cn cs L a ccd cl outer) (call (.ref 59) [.str (Str.ofString "l") tx]) Q E s := by
  w_top off
  revert X; k_fill; intro X
  refine wpAny_call ?_
  refine' code_own ?k1 ?k2 ?k3 News.nil ?k5 ?kA ?kF ?kK ?k6 ?k7 ?k8 ?k9 ?kB ?_ ?c2 ?c3 ?c4 ?c5
  (case kA => exact rfl); (case kF => exact rfl); (case kK => assumption); (case k1 => k_asm); (case k2 => k_asm); (case k3 => k_asm); (case k5 => k_asm); (case k6 => k_is); (case k7 => k_is); (case k8 => ktr_room); (case k9 => exact BindsTo.of_eq rfl); (case c5 => decide); (case kB => exact locs rfl); (case c2 => exact rfl); (case c3 => exact rfl); (case c4 => exact rfl)
  intro g' L' h' KG' KS' FG' F' N' B' X' T' l1
  dsimp only at KG' F' N'

  k_steps
  all_goals ((rename Fr _ _ _ _ => F9); exact hret _ _ fun c o hc => F9.keep c o (KG' c o (by simp) hc))
theorem chr_12 (w : World) {mean : ExcName → Option Value} {mg mb : Str → Option Value} {dp un : Nat} {gd : Option (List Code)} {cn : Str} {cs : Scope} {a : Addr} {ccd : Value} {cl : List (Str × Addr)} {outer : List Env} {A₀ : Around} {base h₀ : Heap} {L : Addr} {m : Str → Option Value} {s : Shared} {Q E : Value → Shared → Prop}
    (B : Below A₀ base outer h₀) (F : Fr h₀ L s.heap m) (X : (hd.heap_39 w.params).In h₀) (T : Top hd.view_39 (looseW hd.view_39 []) mean mg mb h₀) (hk : cs.kind = .function) (hdp : dp + 4 < recursionLimit) {tx : Tok}
    (hret : ∀ h' tk', (∀ c o, s.heap.get? c = some o → h'.get? c = some o) → Q (.bool true) { s with heap := h', toks := tk' }) :
    wpAny (model PySem.Challenge.rw_xm0654_01.row.prog w) (ktrTop dp un gd cn cs L a ccd cl outer) (call (.ref 59) [.str (Str.ofString "X") tx]) Q E s := by
  w_top off
  revert X; k_fill; intro X
  refine wpAny_call ?_
  refine' code_own ?k1 ?k2 ?k3 News.nil ?k5 ?kA ?kF ?kK ?k6 ?k7 ?k8 ?k9 ?kB ?_ ?c2 ?c3 ?c4 ?c5
  (case kA => exact rfl); (case kF => exact rfl); (case kK => assumption); (case k1 => k_asm); (case k2 => k_asm); (case k3 => k_asm); (case k5 => k_asm); (case k6 => k_is); (case k7 => k_is); (case k8 => ktr_room); (case k9 => exact BindsTo.of_eq rfl); (case c5 => decide); (case kB => exact locs rfl); (case c2 => exact rfl); (case c3 => exact rfl); (case c4 => exact rfl)
  intro g' L' h' KG' KS' FG' F' N' B' X' T' l1
  dsimp only at KG' F' N'

  k_steps
  all_goals ((rename Fr _ _ _ _ => F9); exact hret _ _ fun c o hc => F9.keep c o (KG' c o (by simp) hc))
theorem chr_13 (w : World) {mean : ExcName → Option Value} {mg mb : Str → Option Value} {dp un : Nat} {gd : Option (List Code)} {cn : Str} {cs : Scope} {a : Addr} {ccd : Value} {cl : List (Str × Addr)} {outer : List Env} {A₀ : Around} {base h₀ : Heap} {L : Addr} {m : Str → Option Value} {s : Shared} {Q E : Value → Shared → Prop}
    (B : Below A₀ base outer h₀) (F : Fr h₀ L s.heap m) (X : (hd.heap_39 w.params).In h₀) (T : Top hd.view_39 (looseW hd.view_39 []) mean mg mb h₀) (hk : cs.kind = .function) (hdp : dp + 4 < recursionLimit) {tx : Tok}
    (hret : ∀ h' tk', (∀ c o, s.heap.get? c = some o → h'.get? c = some o) → Q (.bool true) { s with heap := h', toks := tk' }) :
    wpAny (model PySem.Challenge.rw_xm0654_01.row.prog w) (ktrTop dp un gd cn cs L a ccd cl outer) (call (.ref 59) [.str (Str.ofString "M") tx]) Q E s := by
  w_top off
  revert X; k_fill; intro X
  refine wpAny_call ?_
  refine' code_own ?k1 ?k2 ?k3 News.nil ?k5 ?kA ?kF ?kK ?k6 ?k7 ?k8 ?k9 ?kB ?_ ?c2 ?c3 ?c4 ?c5
  (case kA => exact rfl); (case kF => exact rfl); (case kK => assumption); (case k1 => k_asm); (case k2 => k_asm); (case k3 => k_asm); (case k5 => k_asm); (case k6 => k_is); (case k7 => k_is); (case k8 => ktr_room); (case k9 => exact BindsTo.of_eq rfl); (case c5 => decide); (case kB => exact locs rfl); (case c2 => exact rfl); (case c3 => exact rfl); (case c4 => exact rfl)
  intro g' L' h' KG' KS' FG' F' N' B' X' T' l1
  dsimp only at KG' F' N'

  k_steps
  all_goals ((rename Fr _ _ _ _ => F9); exact hret _ _ fun c o hc => F9.keep c o (KG' c o (by simp) hc))
theorem chr_14 (w : World) {mean : ExcName → Option Value} {mg mb : Str → Option Value} {dp un : Nat} {gd : Option (List Code)} {cn : Str} {cs : Scope} {a : Addr} {ccd : Value} {cl : List (Str × Addr)} {outer : List Env} {A₀ : Around} {base h₀ : Heap} {L : Addr} {m : Str → Option Value} {s : Shared} {Q E : Value → Shared → Prop}
    (B : Below A₀ base outer h₀) (F : Fr h₀ L s.heap m) (X : (hd.heap_39 w.params).In h₀) (T : Top hd.view_39 (looseW hd.view_39 []) mean mg mb h₀) (hk : cs.kind = .function) (hdp : dp + 4 < recursionLimit) {tx : Tok}
    (hret : ∀ h' tk', (∀ c o, s.heap.get? c = some o → h'.get? c = some o) → Q (.bool true) { s with heap := h', toks := tk' }) :
    wpAny (model PySem.Challenge.rw_xm0654_01.row.prog w) (ktrTop dp un gd cn cs L a ccd cl outer) (call (.ref 59) [.str (Str.ofString "L") tx]) Q E s := by
  w_top off
  revert X; k_fill; intro X
  refine wpAny_call ?_
  refine' code_own ?k1 ?k2 ?k3 News.nil ?k5 ?kA ?kF ?kK ?k6 ?k7 ?k8 ?k9 ?kB ?_ ?c2 ?c3 ?c4 ?c5
  (case kA => exact rfl); (case kF => exact rfl); (case kK => assumption); (case k1 => k_asm); (case k2 => k_asm); (case k3 => k_asm); (case k5 => k_asm); (case k6 => k_is); (case k7 => k_is); (case k8 => ktr_room); (case k9 => exact BindsTo.of_eq rfl); (case c5 => decide); (case kB => exact locs rfl); (case c2 => exact rfl); (case c3 => exact rfl); (case c4 => exact rfl)
  intro g' L' h' KG' KS' FG' F' N' B' X' T' l1
  dsimp only at KG' F' N'

  k_steps
  all_goals ((rename Fr _ _ _ _ => F9); exact hret _ _ fun c o hc => F9.keep c o (KG' c o (by simp) hc))
theorem chr_15 (w : World) {mean : ExcName → Option Value} {mg mb : Str → Option Value} {dp un : Nat} {gd : Option (List Code)} {cn : Str} {cs : Scope} {a : Addr} {ccd : Value} {cl : List (Str × Addr)} {outer : List Env} {A₀ : Around} {base h₀ : Heap} {L : Addr} {m : Str → Option Value} {s : Shared} {Q E : Value → Shared → Prop}
    (B : Below A₀ base outer h₀) (F : Fr h₀ L s.heap m) (X : (hd.heap_39 w.params).In h₀) (T : Top hd.view_39 (looseW hd.view_39 []) mean mg mb h₀) (hk : cs.kind = .function) (hdp : dp + 4 < recursionLimit) {tx : Tok}
    (hret : ∀ h' tk', (∀ c o, s.heap.get? c = some o → h'.get? c = some o) → Q (.bool true) { s with heap := h', toks := tk' }) :
    wpAny (model PySem.Challenge.rw_xm0654_01.row.prog w) (ktrTop dp un gd cn cs L a ccd cl outer) (call (.ref 59) [.str (Str.ofString "n") tx]) Q E s := by
  w_top off
  revert X; k_fill; intro X
  refine wpAny_call ?_
  refine' code_own ?k1 ?k2 ?k3 News.nil ?k5 ?kA ?kF ?kK ?k6 ?k7 ?k8 ?k9 ?kB ?_ ?c2 ?c3 ?c4 ?c5
  (case kA => exact rfl); (case kF => exact rfl); (case kK => assumption); (case k1 => k_asm); (case k2 => k_asm); (case k3 => k_asm); (case k5 => k_asm); (case k6 => k_is); (case k7 => k_is); (case k8 => ktr_room); (case k9 => exact BindsTo.of_eq rfl); (case c5 => decide); (case kB => exact locs rfl); (case c2 => exact rfl); (case c3 => exact rfl); (case c4 => exact rfl)
  intro g' L' h' KG' KS' FG' F' N' B' X' T' l1
  dsimp only at KG' F' N'

  k_steps
  all_goals ((rename Fr _ _ _ _ => F9); exact hret _ _ fun c o hc => F9.keep c o (KG' c o (by simp) hc))
theorem chr_16 (w : World) {mean : ExcName → Option Value} {mg mb : Str → Option Value} {dp un : Nat} {gd : Option (List Code)} {cn : Str} {cs : Scope} {a : Addr} {ccd : Value} {cl : List (Str × Addr)} {outer : List Env} {A₀ : Around} {base h₀ : Heap} {L : Addr} {m : Str → Option Value} {s : Shared} {Q E : Value → Shared → Prop}
    (B : Below A₀ base outer h₀) (F : Fr h₀ L s.heap m) (X : (hd.heap_39 w.params).In h₀) (T : Top hd.view_39 (looseW hd.view_39 []) mean mg mb h₀) (hk : cs.kind = .function) (hdp : dp + 4 < recursionLimit) {tx : Tok}
    (hret : ∀ h' tk', (∀ c o, s.heap.get? c = some o → h'.get? c = some o) → Q (.bool true) { s with heap := h', toks := tk' }) :
    wpAny (model PySem.Challenge.rw_xm0654_01.row.prog w) (ktrTop dp un gd cn cs L a ccd cl outer) (call (.ref 59) [.str (Str.ofString "s") tx]) Q E s := by
  w_top off
  revert X; k_fill; intro X
  refine wpAny_call ?_
  refine' code_own ?k1 ?k2 ?k3 News.nil ?k5 ?kA ?kF ?kK ?k6 ?k7 ?k8 ?k9 ?kB ?_ ?c2 ?c3 ?c4 ?c5
  (case kA => exact rfl); (case kF => exact rfl); (case kK => assumption); (case k1 => k_asm); (case k2 => k_asm); (case k3 => k_asm); (case k5 => k_asm); (case k6 => k_is); (case k7 => k_is); (case k8 => ktr_room); (case k9 => exact BindsTo.of_eq rfl); (case c5 => decide); (case kB => exact locs rfl); (case c2 => exact rfl); (case c3 => exact rfl); (case c4 => exact rfl)
  intro g' L' h' KG' KS' FG' F' N' B' X' T' l1
  dsimp only at KG' F' N'

  k_steps
  all_goals ((rename Fr _ _ _ _ => F9); exact hret _ _ fun c o hc => F9.keep c o (KG' c o (by simp) hc))
theorem chr_17 (w : World) {mean : ExcName → Option Value} {mg mb : Str → Option Value} {dp un : Nat} {gd : Option (List Code)} {cn : Str} {cs : Scope} {a : Addr} {ccd : Value} {cl : List (Str × Addr)} {outer : List Env} {A₀ : Around} {base h₀ : Heap} {L : Addr} {m : Str → Option Value} {s : Shared} {Q E : Value → Shared → Prop}
    (B : Below A₀ base outer h₀) (F : Fr h₀ L s.heap m) (X : (hd.heap_39 w.params).In h₀) (T : Top hd.view_39 (looseW hd.view_39 []) mean mg mb h₀) (hk : cs.kind = .function) (hdp : dp + 4 < recursionLimit) {tx : Tok}
    (hret : ∀ h' tk', (∀ c o, s.heap.get? c = some o → h'.get? c = some o) → Q (.bool true) { s with heap := h', toks := tk' }) :
    wpAny (model PySem.Challenge.rw_xm0654_01.row.prog w) (ktrTop dp un gd cn cs L a ccd cl outer) (call (.ref 59) [.str (Str.ofString "2") tx]) Q E s := by
  w_top off
  revert X; k_fill; intro X
  refine wpAny_call ?_
  refine' code_own ?k1 ?k2 ?k3 News.nil ?k5 ?kA ?kF ?kK ?k6 ?k7 ?k8 ?k9 ?kB ?_ ?c2 ?c3 ?c4 ?c5
  (case kA => exact rfl); (case kF => exact rfl); (case kK => assumption); (case k1 => k_asm); (case k2 => k_asm); (case k3 => k_asm); (case k5 => k_asm); (case k6 => k_is); (case k7 => k_is); (case k8 => ktr_room); (case k9 => exact BindsTo.of_eq rfl); (case c5 => decide); (case kB => exact locs rfl); (case c2 => exact rfl); (case c3 => exact rfl); (case c4 => exact rfl)
  intro g' L' h' KG' KS' FG' F' N' B' X' T' l1
  dsimp only at KG' F' N'

  k_steps
  all_goals ((rename Fr _ _ _ _ => F9); exact hret _ _ fun c o hc => F9.keep c o (KG' c o (by simp) hc))
theorem chr_18 (w : World) {mean : ExcName → Option Value} {mg mb : Str → Option Value} {dp un : Nat} {gd : Option (List Code)} {cn : Str} {cs : Scope} {a : Addr} {ccd : Value} {cl : List (Str × Addr)} {outer : List Env} {A₀ : Around} {base h₀ : Heap} {L : Addr} {m : Str → Option Value} {s : Shared} {Q E : Value → Shared → Prop}
    (B : Below A₀ base outer h₀) (F : Fr h₀ L s.heap m) (X : (hd.heap_39 w.params).In h₀) (T : Top hd.view_39 (looseW hd.view_39 []) mean mg mb h₀) (hk : cs.kind = .function) (hdp : dp + 4 < recursionLimit) {tx : Tok}
    (hret : ∀ h' tk', (∀ c o, s.heap.get? c = some o → h'.get? c = some o) → Q (.bool false) { s with heap := h', toks := tk' }) :
    wpAny (model PySem.Challenge.rw_xm0654_01.row.prog w) (ktrTop dp un gd cn cs L a ccd cl outer) (call (.ref 59) [.str (Str.ofString " ") tx]) Q E s := by
  w_top off
  revert X; k_fill; intro X
  refine wpAny_call ?_
  refine' code_own ?k1 ?k2 ?k3 News.nil ?k5 ?kA ?kF ?kK ?k6 ?k7 ?k8 ?k9 ?kB ?_ ?c2 ?c3 ?c4 ?c5
  (case kA => exact rfl); (case kF => exact rfl); (case kK => assumption); (case k1 => k_asm); (case k2 => k_asm); (case k3 => k_asm); (case k5 => k_asm); (case k6 => k_is); (case k7 => k_is); (case k8 => ktr_room); (case k9 => exact BindsTo.of_eq rfl); (case c5 => decide); (case kB => exact locs rfl); (case c2 => exact rfl); (case c3 => exact rfl); (case c4 => exact rfl)
  intro g' L' h' KG' KS' FG' F' N' B' X' T' l1
  dsimp only at KG' F' N'

  k_steps
  all_goals ((rename Fr _ _ _ _ => F9); exact hret _ _ fun c o hc => F9.keep c o (KG' c o (by simp) hc))
def chrL : List (Str × Bool) := [(Str.ofString "p", true), (Str.ofString "a", true), (Str.ofString "-", true), (Str.ofString "1", true), (Str.ofString ".", true), (Str.ofString "b", true), (Str.ofString "_", true), (Str.ofString "é", true), (Str.ofString "·", true), (Str.ofString "x", true), (Str.ofString "m", true), (Str.ofString "l", true), (Str.ofString "X", true), (Str.ofString "M", true), (Str.ofString "L", true), (Str.ofString "n", true), (Str.ofString "s", true), (Str.ofString "2", true), (Str.ofString " ", false)]
theorem chr_says (w : World) {mean : ExcName → Option Value} {mg mb : Str → Option Value} {dp un : Nat} {gd : Option (List Code)} {cn : Str} {cs : Scope} {a : Addr} {ccd : Value} {cl : List (Str × Addr)} {outer : List Env} {A₀ : Around} {base h₀ : Heap} {L : Addr} {m : Str → Option Value} {s : Shared} {Q E : Value → Shared → Prop}
    (B : Below A₀ base outer h₀) (F : Fr h₀ L s.heap m) (X : (hd.heap_39 w.params).In h₀) (T : Top hd.view_39 (looseW hd.view_39 []) mean mg mb h₀) (hk : cs.kind = .function) (hdp : dp + 4 < recursionLimit) {x : Str} {b : Bool} {tx : Tok} (hx : (x, b) ∈ chrL)
    (hret : ∀ h' tk', (∀ c o, s.heap.get? c = some o → h'.get? c = some o) → Q (.bool b) { s with heap := h', toks := tk' }) :
    wpAny (model PySem.Challenge.rw_xm0654_01.row.prog w) (ktrTop dp un gd cn cs L a ccd cl outer) (call (.ref 59) [.str x tx]) Q E s := by
  simp only [chrL, List.mem_cons, Prod.mk.injEq, List.not_mem_nil, or_false] at hx
  rcases hx with ⟨rfl, rfl⟩ | ⟨rfl, rfl⟩ | ⟨rfl, rfl⟩ | ⟨rfl, rfl⟩ | ⟨rfl, rfl⟩ | ⟨rfl, rfl⟩ | ⟨rfl, rfl⟩ | ⟨rfl, rfl⟩ | ⟨rfl, rfl⟩ | ⟨rfl, rfl⟩ | ⟨rfl, rfl⟩ | ⟨rfl, rfl⟩ | ⟨rfl, rfl⟩ | ⟨rfl, rfl⟩ | ⟨rfl, rfl⟩ | ⟨rfl, rfl⟩ | ⟨rfl, rfl⟩ | ⟨rfl, rfl⟩ | ⟨rfl, rfl⟩
  · exact chr_0 w B F X T hk hdp hret
  · exact chr_1 w B F X T hk hdp hret
  · exact chr_2 w B F X T hk hdp hret
  · exact chr_3 w B F X T hk hdp hret
  · exact chr_4 w B F X T hk hdp hret
  · exact chr_5 w B F X T hk hdp hret
  · exact chr_6 w B F X T hk hdp hret
  · exact chr_7 w B F X T hk hdp hret
  · exact chr_8 w B F X T hk hdp hret
  · exact chr_9 w B F X T hk hdp hret
  · exact chr_10 w B F X T hk hdp hret
  · exact chr_11 w B F X T hk hdp hret
  · exact chr_12 w B F X T hk hdp hret
  · exact chr_13 w B F X T hk hdp hret
  · exact chr_14 w B F X T hk hdp hret
  · exact chr_15 w B F X T hk hdp hret
  · exact chr_16 w B F X T hk hdp hret
  · exact chr_17 w B F X T hk hdp hret
  · exact chr_18 w B F X T hk hdp hret
theorem sta_0 (w : World) {mean : ExcName → Option Value} {mg mb : Str → Option Value} {dp un : Nat} {gd : Option (List Code)} {cn : Str} {cs : Scope} {a : Addr} {ccd : Value} {cl : List (Str × Addr)} {outer : List Env} {A₀ : Around} {base h₀ : Heap} {L : Addr} {m : Str → Option Value} {s : Shared} {Q E : Value → Shared → Prop}
    (B : Below A₀ base outer h₀) (F : Fr h₀ L s.heap m) (X : (hd.heap_39 w.params).In h₀) (T : Top hd.view_39 (looseW hd.view_39 []) mean mg mb h₀) (hk : cs.kind = .function) (hdp : dp + 3 < recursionLimit) {tx : Tok}
    (hret : ∀ h' tk', (∀ c o, s.heap.get? c = some o → h'.get? c = some o) → Q (.bool true) { s with heap := h', toks := tk' }) :
    wpAny (model PySem.Challenge.rw_xm0654_01.row.prog w) (ktrTop dp un gd cn cs L a ccd cl outer) (call (.ref 52) [.str (Str.ofString "p") tx]) Q E s := by
  w_top off
  revert X; k_fill; intro X
  refine wpAny_call ?_
  refine' code_own ?k1 ?k2 ?k3 News.nil ?k5 ?kA ?kF ?kK ?k6 ?k7 ?k8 ?k9 ?kB ?_ ?c2 ?c3 ?c4 ?c5
  (case kA => exact rfl); (case kF => exact rfl); (case kK => assumption); (case k1 => k_asm); (case k2 => k_asm); (case k3 => k_asm); (case k5 => k_asm); (case k6 => k_is); (case k7 => k_is); (case k8 => ktr_room); (case k9 => exact BindsTo.of_eq rfl); (case c5 => decide); (case kB => exact locs rfl); (case c2 => exact rfl); (case c3 => exact rfl); (case c4 => exact rfl)
  intro g' L' h' KG' KS' FG' F' N' B' X' T' l1
  dsimp only at KG' F' N'

  k_steps
  all_goals ((rename Fr _ _ _ _ => F9); exact hret _ _ fun c o hc => F9.keep c o (KG' c o (by simp) hc))
theorem sta_1 (w : World) {mean : ExcName → Option Value} {mg mb : Str → Option Value} {dp un : Nat} {gd : Option (List Code)} {cn : Str} {cs : Scope} {a : Addr} {ccd : Value} {cl : List (Str × Addr)} {outer : List Env} {A₀ : Around} {base h₀ : Heap} {L : Addr} {m : Str → Option Value} {s : Shared} {Q E : Value → Shared → Prop}
    (B : Below A₀ base outer h₀) (F : Fr h₀ L s.heap m) (X : (hd.heap_39 w.params).In h₀) (T : Top hd.view_39 (looseW hd.view_39 []) mean mg mb h₀) (hk : cs.kind = .function) (hdp : dp + 3 < recursionLimit) {tx : Tok}
    (hret : ∀ h' tk', (∀ c o, s.heap.get? c = some o → h'.get? c = some o) → Q (.bool true) { s with heap := h', toks := tk' }) :
    wpAny (model PySem.Challenge.rw_xm0654_01.row.prog w) (ktrTop dp un gd cn cs L a ccd cl outer) (call (.ref 52) [.str (Str.ofString "a") tx]) Q E s := by
  w_top off
  revert X; k_fill; intro X
  refine wpAny_call ?_
  refine' code_own ?k1 ?k2 ?k3 News.nil ?k5 ?kA ?kF ?kK ?k6 ?k7 ?k8 ?k9 ?kB ?_ ?c2 ?c3 ?c4 ?c5
  (case kA => exact rfl); (case kF => exact rfl); (case kK => assumption); (case k1 => k_asm); (case k2 => k_asm); (case k3 => k_asm); (case k5 => k_asm); (case k6 => k_is); (case k7 => k_is); (case k8 => ktr_room); (case k9 => exact BindsTo.of_eq rfl); (case c5 => decide); (case kB => exact locs rfl); (case c2 => exact rfl); (case c3 => exact rfl); (case c4 => exact rfl)
  intro g' L' h' KG' KS' FG' F' N' B' X' T' l1
  dsimp only at KG' F' N'

  k_steps
  all_goals ((rename Fr _ _ _ _ => F9); exact hret _ _ fun c o hc => F9.keep c o (KG' c o (by simp) hc))
theorem sta_2 (w : World) {mean : ExcName → Option Value} {mg mb : Str → Option Value} {dp un : Nat} {gd : Option (List Code)} {cn : Str} {cs : Scope} {a : Addr} {ccd : Value} {cl : List (Str × Addr)} {outer : List Env} {A₀ : Around} {base h₀ : Heap} {L : Addr} {m : Str → Option Value} {s : Shared} {Q E : Value → Shared → Prop}
    (B : Below A₀ base outer h₀) (F : Fr h₀ L s.heap m) (X : (hd.heap_39 w.params).In h₀) (T : Top hd.view_39 (looseW hd.view_39 []) mean mg mb h₀) (hk : cs.kind = .function) (hdp : dp + 3 < recursionLimit) {tx : Tok}
    (hret : ∀ h' tk', (∀ c o, s.heap.get? c = some o → h'.get? c = some o) → Q (.bool true) { s with heap := h', toks := tk' }) :
    wpAny (model PySem.Challenge.rw_xm0654_01.row.prog w) (ktrTop dp un gd cn cs L a ccd cl outer) (call (.ref 52) [.str (Str.ofString "_") tx]) Q E s := by
  w_top off
  revert X; k_fill; intro X
  refine wpAny_call ?_
  refine' code_own ?k1 ?k2 ?k3 News.nil ?k5 ?kA ?kF ?kK ?k6 ?k7 ?k8 ?k9 ?kB ?_ ?c2 ?c3 ?c4 ?c5
  (case kA => exact rfl); (case kF => exact rfl); (case kK => assumption); (case k1 => k_asm); (case k2 => k_asm); (case k3 => k_asm); (case k5 => k_asm); (case k6 => k_is); (case k7 => k_is); (case k8 => ktr_room); (case k9 => exact BindsTo.of_eq rfl); (case c5 => decide); (case kB => exact locs rfl); (case c2 => exact rfl); (case c3 => exact rfl); (case c4 => exact rfl)
  intro g' L' h' KG' KS' FG' F' N' B' X' T' l1
  dsimp only at KG' F' N'

  k_steps
  all_goals ((rename Fr _ _ _ _ => F9); exact hret _ _ fun c o hc => F9.keep c o (KG' c o (by simp) hc))
theorem sta_3 (w : World) {mean : ExcName → Option Value} {mg mb : Str → Option Value} {dp un : Nat} {gd : Option (List Code)} {cn : Str} {cs : Scope} {a : Addr} {ccd : Value} {cl : List (Str × Addr)} {outer : List Env} {A₀ : Around} {base h₀ : Heap} {L : Addr} {m : Str → Option Value} {s : Shared} {Q E : Value → Shared → Prop}
    (B : Below A₀ base outer h₀) (F : Fr h₀ L s.heap m) (X : (hd.heap_39 w.params).In h₀) (T : Top hd.view_39 (looseW hd.view_39 []) mean mg mb h₀) (hk : cs.kind = .function) (hdp : dp + 3 < recursionLimit) {tx : Tok}
    (hret : ∀ h' tk', (∀ c o, s.heap.get? c = some o → h'.get? c = some o) → Q (.bool true) { s with heap := h', toks := tk' }) :
    wpAny (model PySem.Challenge.rw_xm0654_01.row.prog w) (ktrTop dp un gd cn cs L a ccd cl outer) (call (.ref 52) [.str (Str.ofString "é") tx]) Q E s := by
  w_top off
  revert X; k_fill; intro X
  refine wpAny_call ?_
  refine' code_own ?k1 ?k2 ?k3 News.nil ?k5 ?kA ?kF ?kK ?k6 ?k7 ?k8 ?k9 ?kB ?_ ?c2 ?c3 ?c4 ?c5
  (case kA => exact rfl); (case kF => exact rfl); (case kK => assumption); (case k1 => k_asm); (case k2 => k_asm); (case k3 => k_asm); (case k5 => k_asm); (case k6 => k_is); (case k7 => k_is); (case k8 => ktr_room); (case k9 => exact BindsTo.of_eq rfl); (case c5 => decide); (case kB => exact locs rfl); (case c2 => exact rfl); (case c3 => exact rfl); (case c4 => exact rfl)
  intro g' L' h' KG' KS' FG' F' N' B' X' T' l1
  dsimp only at KG' F' N'

  k_steps
  all_goals ((rename Fr _ _ _ _ => F9); exact hret _ _ fun c o hc => F9.keep c o (KG' c o (by simp) hc))
theorem sta_4 (w : World) {mean : ExcName → Option Value} {mg mb : Str → Option Value} {dp un : Nat} {gd : Option (List Code)} {cn : Str} {cs : Scope} {a : Addr} {ccd : Value} {cl : List (Str × Addr)} {outer : List Env} {A₀ : Around} {base h₀ : Heap} {L : Addr} {m : Str → Option Value} {s : Shared} {Q E : Value → Shared → Prop}
    (B : Below A₀ base outer h₀) (F : Fr h₀ L s.heap m) (X : (hd.heap_39 w.params).In h₀) (T : Top hd.view_39 (looseW hd.view_39 []) mean mg mb h₀) (hk : cs.kind = .function) (hdp : dp + 3 < recursionLimit) {tx : Tok}
    (hret : ∀ h' tk', (∀ c o, s.heap.get? c = some o → h'.get? c = some o) → Q (.bool true) { s with heap := h', toks := tk' }) :
    wpAny (model PySem.Challenge.rw_xm0654_01.row.prog w) (ktrTop dp un gd cn cs L a ccd cl outer) (call (.ref 52) [.str (Str.ofString "x") tx]) Q E s := by
  w_top off
  revert X; k_fill; intro X
  refine wpAny_call ?_
  refine' code_own ?k1 ?k2 ?k3 News.nil ?k5 ?kA ?kF ?kK ?k6 ?k7 ?k8 ?k9 ?kB ?_ ?c2 ?c3 ?c4 ?c5
  (case kA => exact rfl); (case kF => exact rfl); (case kK => assumption); (case k1 => k_asm); (case k2 => k_asm); (case k3 => k_asm); (case k5 => k_asm); (case k6 => k_is); (case k7 => k_is); (case k8 => ktr_room); (case k9 => exact BindsTo.of_eq rfl); (case c5 => decide); (case kB => exact locs rfl); (case c2 => exact rfl); (case c3 => exact rfl); (case c4 => exact rfl)
  intro g' L' h' KG' KS' FG' F' N' B' X' T' l1
  dsimp only at KG' F' N'

  k_steps
  all_goals ((rename Fr _ _ _ _ => F9); exact hret _ _ fun c o hc => F9.keep c o (KG' c o (by simp) hc))
theorem sta_5 (w : World) {mean : ExcName → Option Value} {mg mb : Str → Option Value} {dp un : Nat} {gd : Option (List Code)} {cn : Str} {cs : Scope} {a : Addr} {ccd : Value} {cl : List (Str × Addr)} {outer : List Env} {A₀ : Around} {base h₀ : Heap} {L : Addr} {m : Str → Option Value} {s : Shared} {Q E : Value → Shared → Prop}
    (B : Below A₀ base outer h₀) (F : Fr h₀ L s.heap m) (X : (hd.heap_39 w.params).In h₀) (T : Top hd.view_39 (looseW hd.view_39 []) mean mg mb h₀) (hk : cs.kind = .function) (hdp : dp + 3 < recursionLimit) {tx : Tok}
    (hret : ∀ h' tk', (∀ c o, s.heap.get? c = some o → h'.get? c = some o) → Q (.bool true) { s with heap := h', toks := tk' }) :
    wpAny (model PySem.Challenge.rw_xm0654_01.row.prog w) (ktrTop dp un gd cn cs L a ccd cl outer) (call (.ref 52) [.str (Str.ofString "X") tx]) Q E s := by
  w_top off
  revert X; k_fill; intro X
  refine wpAny_call ?_
  refine' code_own ?k1 ?k2 ?k3 News.nil ?k5 ?kA ?kF ?kK ?k6 ?k7 ?k8 ?k9 ?kB ?_ ?c2 ?c3 ?c4 ?c5
  (case kA => exact rfl); (case kF => exact rfl); (case kK => assumption); (case k1 => k_asm); (case k2 => k_asm); (case k3 => k_asm); (case k5 => k_asm); (case k6 => k_is); (case k7 => k_is); (case k8 => ktr_room); (case k9 => exact BindsTo.of_eq rfl); (case c5 => decide); (case kB => exact locs rfl); (case c2 => exact rfl); (case c3 => exact rfl); (case c4 => exact rfl)
  intro g' L' h' KG' KS' FG' F' N' B' X' T' l1
  dsimp only at KG' F' N'

  k_steps
  all_goals ((rename Fr _ _ _ _ => F9); exact hret _ _ fun c o hc => F9.keep c o (KG' c o (by simp) hc))
theorem sta_6 (w : World) {mean : ExcName → Option Value} {mg mb : Str → Option Value} {dp un : Nat} {gd : Option (List Code)} {cn : Str} {cs : Scope} {a : Addr} {ccd : Value} {cl : List (Str × Addr)} {outer : List Env} {A₀ : Around} {base h₀ : Heap} {L : Addr} {m : Str → Option Value} {s : Shared} {Q E : Value → Shared → Prop}
    (B : Below A₀ base outer h₀) (F : Fr h₀ L s.heap m) (X : (hd.heap_39 w.params).In h₀) (T : Top hd.view_39 (looseW hd.view_39 []) mean mg mb h₀) (hk : cs.kind = .function) (hdp : dp + 3 < recursionLimit) {tx : Tok}
    (hret : ∀ h' tk', (∀ c o, s.heap.get? c = some o → h'.get? c = some o) → Q (.bool false) { s with heap := h', toks := tk' }) :
    wpAny (model PySem.Challenge.rw_xm0654_01.row.prog w) (ktrTop dp un gd cn cs L a ccd cl outer) (call (.ref 52) [.str (Str.ofString "1") tx]) Q E s := by
  w_top off
  revert X; k_fill; intro X
  refine wpAny_call ?_
  refine' code_own ?k1 ?k2 ?k3 News.nil ?k5 ?kA ?kF ?kK ?k6 ?k7 ?k8 ?k9 ?kB ?_ ?c2 ?c3 ?c4 ?c5
  (case kA => exact rfl); (case kF => exact rfl); (case kK => assumption); (case k1 => k_asm); (case k2 => k_asm); (case k3 => k_asm); (case k5 => k_asm); (case k6 => k_is); (case k7 => k_is); (case k8 => ktr_room); (case k9 => exact BindsTo.of_eq rfl); (case c5 => decide); (case kB => exact locs rfl); (case c2 => exact rfl); (case c3 => exact rfl); (case c4 => exact rfl)
  intro g' L' h' KG' KS' FG' F' N' B' X' T' l1
  dsimp only at KG' F' N'

  k_steps
  all_goals ((rename Fr _ _ _ _ => F9); exact hret _ _ fun c o hc => F9.keep c o (KG' c o (by simp) hc))
theorem sta_7 (w : World) {mean : ExcName → Option Value} {mg mb : Str → Option Value} {dp un : Nat} {gd : Option (List Code)} {cn : Str} {cs : Scope} {a : Addr} {ccd : Value} {cl : List (Str × Addr)} {outer : List Env} {A₀ : Around} {base h₀ : Heap} {L : Addr} {m : Str → Option Value} {s : Shared} {Q E : Value → Shared → Prop}
    (B : Below A₀ base outer h₀) (F : Fr h₀ L s.heap m) (X : (hd.heap_39 w.params).In h₀) (T : Top hd.view_39 (looseW hd.view_39 []) mean mg mb h₀) (hk : cs.kind = .function) (hdp : dp + 3 < recursionLimit) {tx : Tok}
    (hret : ∀ h' tk', (∀ c o, s.heap.get? c = some o → h'.get? c = some o) → Q (.bool false) { s with heap := h', toks := tk' }) :
    wpAny (model PySem.Challenge.rw_xm0654_01.row.prog w) (ktrTop dp un gd cn cs L a ccd cl outer) (call (.ref 52) [.str (Str.ofString "-") tx]) Q E s := by
  w_top off
  revert X; k_fill; intro X
  refine wpAny_call ?_
  refine' code_own ?k1 ?k2 ?k3 News.nil ?k5 ?kA ?kF ?kK ?k6 ?k7 ?k8 ?k9 ?kB ?_ ?c2 ?c3 ?c4 ?c5
  (case kA => exact rfl); (case kF => exact rfl); (case kK => assumption); (case k1 => k_asm); (case k2 => k_asm); (case k3 => k_asm); (case k5 => k_asm); (case k6 => k_is); (case k7 => k_is); (case k8 => ktr_room); (case k9 => exact BindsTo.of_eq rfl); (case c5 => decide); (case kB => exact locs rfl); (case c2 => exact rfl); (case c3 => exact rfl); (case c4 => exact rfl)
  intro g' L' h' KG' KS' FG' F' N' B' X' T' l1
  dsimp only at KG' F' N'

  k_steps
  all_goals ((rename Fr _ _ _ _ => F9); exact hret _ _ fun c o hc => F9.keep c o (KG' c o (by simp) hc))
theorem sta_8 (w : World) {mean : ExcName → Option Value} {mg mb : Str → Option Value} {dp un : Nat} {gd : Option (List Code)} {cn : Str} {cs : Scope} {a : Addr} {ccd : Value} {cl : List (Str × Addr)} {outer : List Env} {A₀ : Around} {base h₀ : Heap} {L : Addr} {m : Str → Option Value} {s : Shared} {Q E : Value → Shared → Prop}
    (B : Below A₀ base outer h₀) (F : Fr h₀ L s.heap m) (X : (hd.heap_39 w.params).In h₀) (T : Top hd.view_39 (looseW hd.view_39 []) mean mg mb h₀) (hk : cs.kind = .function) (hdp : dp + 3 < recursionLimit) {tx : Tok}
    (hret : ∀ h' tk', (∀ c o, s.heap.get? c = some o → h'.get? c = some o) → Q (.bool false) { s with heap := h', toks := tk' }) :
    wpAny (model PySem.Challenge.rw_xm0654_01.row.prog w) (ktrTop dp un gd cn cs L a ccd cl outer) (call (.ref 52) [.str (Str.ofString "·") tx]) Q E s := by
  w_top off
  revert X; k_fill; intro X
  refine wpAny_call ?_
  refine' code_own ?k1 ?k2 ?k3 News.nil ?k5 ?kA ?kF ?kK ?k6 ?k7 ?k8 ?k9 ?kB ?_ ?c2 ?c3 ?c4 ?c5
  (case kA => exact rfl); (case kF => exact rfl); (case kK => assumption); (case k1 => k_asm); (case k2 => k_asm); (case k3 => k_asm); (case k5 => k_asm); (case k6 => k_is); (case k7 => k_is); (case k8 => ktr_room); (case k9 => exact BindsTo.of_eq rfl); (case c5 => decide); (case kB => exact locs rfl); (case c2 => exact rfl); (case c3 => exact rfl); (case c4 => exact rfl)
  intro g' L' h' KG' KS' FG' F' N' B' X' T' l1
  dsimp only at KG' F' N'

  k_steps
  all_goals ((rename Fr _ _ _ _ => F9); exact hret _ _ fun c o hc => F9.keep c o (KG' c o (by simp) hc))
theorem sta_9 (w : World) {mean : ExcName → Option Value} {mg mb : Str → Option Value} {dp un : Nat} {gd : Option (List Code)} {cn : Str} {cs : Scope} {a : Addr} {ccd : Value} {cl : List (Str × Addr)} {outer : List Env} {A₀ : Around} {base h₀ : Heap} {L : Addr} {m : Str → Option Value} {s : Shared} {Q E : Value → Shared → Prop}
    (B : Below A₀ base outer h₀) (F : Fr h₀ L s.heap m) (X : (hd.heap_39 w.params).In h₀) (T : Top hd.view_39 (looseW hd.view_39 []) mean mg mb h₀) (hk : cs.kind = .function) (hdp : dp + 3 < recursionLimit) {tx : Tok}
    (hret : ∀ h' tk', (∀ c o, s.heap.get? c = some o → h'.get? c = some o) → Q (.bool false) { s with heap := h', toks := tk' }) :
    wpAny (model PySem.Challenge.rw_xm0654_01.row.prog w) (ktrTop dp un gd cn cs L a ccd cl outer) (call (.ref 52) [.str (Str.ofString "×") tx]) Q E s := by
  w_top off
  revert X; k_fill; intro X
  refine wpAny_call ?_
  refine' code_own ?k1 ?k2 ?k3 News.nil ?k5 ?kA ?kF ?kK ?k6 ?k7 ?k8 ?k9 ?kB ?_ ?c2 ?c3 ?c4 ?c5
  (case kA => exact rfl); (case kF => exact rfl); (case kK => assumption); (case k1 => k_asm); (case k2 => k_asm); (case k3 => k_asm); (case k5 => k_asm); (case k6 => k_is); (case k7 => k_is); (case k8 => ktr_room); (case k9 => exact BindsTo.of_eq rfl); (case c5 => decide); (case kB => exact locs rfl); (case c2 => exact rfl); (case c3 => exact rfl); (case c4 => exact rfl)
  intro g' L' h' KG' KS' FG' F' N' B' X' T' l1
  dsimp only at KG' F' N'

  k_steps
  all_goals ((rename Fr _ _ _ _ => F9); exact hret _ _ fun c o hc => F9.keep c o (KG' c o (by simp) hc))
def staL : List (Str × Bool) := [(Str.ofString "p", true), (Str.ofString "a", true), (Str.ofString "_", true), (Str.ofString "é", true), (Str.ofString "x", true), (Str.ofString "X", true), (Str.ofString "1", false), (Str.ofString "-", false), (Str.ofString "·", false), (Str.ofString "×", false)]
theorem sta_says (w : World) {mean : ExcName → Option Value} {mg mb : Str → Option Value} {dp un : Nat} {gd : Option (List Code)} {cn : Str} {cs : Scope} {a : Addr} {ccd : Value} {cl : List (Str × Addr)} {outer : List Env} {A₀ : Around} {base h₀ : Heap} {L : Addr} {m : Str → Option Value} {s : Shared} {Q E : Value → Shared → Prop}
    (B : Below A₀ base outer h₀) (F : Fr h₀ L s.heap m) (X : (hd.heap_39 w.params).In h₀) (T : Top hd.view_39 (looseW hd.view_39 []) mean mg mb h₀) (hk : cs.kind = .function) (hdp : dp + 3 < recursionLimit) {x : Str} {b : Bool} {tx : Tok} (hx : (x, b) ∈ staL)
    (hret : ∀ h' tk', (∀ c o, s.heap.get? c = some o → h'.get? c = some o) → Q (.bool b) { s with heap := h', toks := tk' }) :
    wpAny (model PySem.Challenge.rw_xm0654_01.row.prog w) (ktrTop dp un gd cn cs L a ccd cl outer) (call (.ref 52) [.str x tx]) Q E s := by
  simp only [staL, List.mem_cons, Prod.mk.injEq, List.not_mem_nil, or_false] at hx
  rcases hx with ⟨rfl, rfl⟩ | ⟨rfl, rfl⟩ | ⟨rfl, rfl⟩ | ⟨rfl, rfl⟩ | ⟨rfl, rfl⟩ | ⟨rfl, rfl⟩ | ⟨rfl, rfl⟩ | ⟨rfl, rfl⟩ | ⟨rfl, rfl⟩ | ⟨rfl, rfl⟩
  · exact sta_0 w B F X T hk hdp hret
  · exact sta_1 w B F X T hk hdp hret
  · exact sta_2 w B F X T hk hdp hret
  · exact sta_3 w B F X T hk hdp hret
  · exact sta_4 w B F X T hk hdp hret
  · exact sta_5 w B F X T hk hdp hret
  · exact sta_6 w B F X T hk hdp hret
  · exact sta_7 w B F X T hk hdp hret
  · exact sta_8 w B F X T hk hdp hret
  · exact sta_9 w B F X T hk hdp hret
end Mine
end

section
open PySem PySem.W PyProof.Rows PySem.Calls
namespace Mine
local macro_rules | `(tactic| k_room) => `(tactic| ktr_room)
local macro_rules | `(tactic| walk_at "ite") => `(tactic| (k_here; k_closed; first | refine ite_pos (by decide +kernel) ?_ | refine ite_neg (by decide +kernel) ?_))
theorem closeB {Q : Value → Shared → Prop} {b c : Bool} {s : Shared} (e : b = c) (h : Q (.bool c) s) : Q (.bool b) s := e ▸ h
theorem fr_all {h₀ h h' : Heap} {L : Addr} {m : Str → Option Value} (F : Fr h₀ L h m) (k : ∀ c o, h.get? c = some o → h'.get? c = some o) : Fr h₀ L h' m := by
  obtain ⟨oL, es, ep, hh, hLr⟩ := F.ns
  exact ⟨⟨oL, es, ep, k _ _ hh, hLr⟩, fun b o hb => k b o (F.keep b o hb), F.above⟩
theorem news_all {h₀ h h' : Heap} {L : Addr} {news : List (Addr × Obj)} (N : News h₀ L h news) (k : ∀ c o, h.get? c = some o → h'.get? c = some o) : News h₀ L h' news :=
  fun p hp => ⟨k _ _ (N p hp).1, (N p hp).2⟩
theorem chr_use (w : World) {mean : ExcName → Option Value} {mg mb : Str → Option Value} {dp un : Nat} {gd : Option (List Code)} {cn : Str} {cs : Scope} {a : Addr} {ccd : Value} {cl : List (Str × Addr)} {outer : List Env} {A₀ : Around} {base h₀ : Heap} {L : Addr} {m : Str → Option Value} {s : Shared} {Q E : Value → Shared → Prop}
    (B : Below A₀ base outer h₀) (F : Fr h₀ L s.heap m) (X : (hd.heap_39 w.params).In h₀) (T : Top hd.view_39 (looseW hd.view_39 []) mean mg mb h₀) (hk : cs.kind = .function) (hdp : dp + 4 < recursionLimit) {news : List (Addr × Obj)} (N : News h₀ L s.heap news) {x : Str} {b : Bool} {tx : Tok} (hx : (x, b) ∈ chrL)
    (hret : ∀ h' tk', Fr h₀ L h' m → News h₀ L h' news → Q (.bool b) { s with heap := h', toks := tk' }) :
    wpAny (model PySem.Challenge.rw_xm0654_01.row.prog w) (ktrTop dp un gd cn cs L a ccd cl outer) (call (.ref 59) [.str x tx]) Q E s := chr_says w B F X T hk hdp hx fun h' tk' q => hret h' tk' (fr_all F q) (news_all N q)
theorem sta_use (w : World) {mean : ExcName → Option Value} {mg mb : Str → Option Value} {dp un : Nat} {gd : Option (List Code)} {cn : Str} {cs : Scope} {a : Addr} {ccd : Value} {cl : List (Str × Addr)} {outer : List Env} {A₀ : Around} {base h₀ : Heap} {L : Addr} {m : Str → Option Value} {s : Shared} {Q E : Value → Shared → Prop}
    (B : Below A₀ base outer h₀) (F : Fr h₀ L s.heap m) (X : (hd.heap_39 w.params).In h₀) (T : Top hd.view_39 (looseW hd.view_39 []) mean mg mb h₀) (hk : cs.kind = .function) (hdp : dp + 3 < recursionLimit) {news : List (Addr × Obj)} (N : News h₀ L s.heap news) {x : Str} {b : Bool} {tx : Tok} (hx : (x, b) ∈ staL)
    (hret : ∀ h' tk', Fr h₀ L h' m → News h₀ L h' news → Q (.bool b) { s with heap := h', toks := tk' }) :
    wpAny (model PySem.Challenge.rw_xm0654_01.row.prog w) (ktrTop dp un gd cn cs L a ccd cl outer) (call (.ref 52) [.str x tx]) Q E s := sta_says w B F X T hk hdp hx fun h' tk' q => hret h' tk' (fr_all F q) (news_all N q)
local macro_rules | `(tactic| walk_at "exec For Name Name") => `(tactic| (k_here; (with_reducible show wpAny _ _ (exec (Stmt.For _ _ _ [] _) _) _ _ _); k_strName; (rename Fr _ _ _ _ => lF'); (with_unfolding_all refine' For_invVF lF' ?k1 ?k2 ?_; (case k1 => exact rfl); (case k2 => exact rfl); k_whole)))
local macro_rules | `(tactic| walk_at "pyIter str") => `(tactic| ((with_reducible show wpAny _ _ (pyIter (Value.str _ _)) (fun it s₂ => LoopAtV _ _ _ _ _ _ _ _ _ it s₂) _ _); k_here; k_strUnr))
local macro_rules | `(tactic| walk_at "call ref") => `(tactic| (k_here; (with_reducible show wpAny _ _ (call (Value.ref 59) _) _ _ _); k_dflt (refine' chr_use _ ?B ?F ?X ?T ?k ?d ?N ?hx ?_; (case N => k_asm); (case B => k_asm); (case F => k_asm); (case X => k_asm); (case T => k_asm); (case k => first | rfl | assumption); (case d => ktr_room); (case hx => first | exact List.mem_of_elem_eq_true (a := (_, true)) (by decide +kernel) | exact List.mem_of_elem_eq_true (a := (_, false)) (by decide +kernel)); k_whole); intro h' tk' F' N'))
local macro_rules | `(tactic| walk_at "call ref") => `(tactic| (k_here; (with_reducible show wpAny _ _ (call (Value.ref 52) _) _ _ _); k_dflt (refine' sta_use _ ?B ?F ?X ?T ?k ?d ?N ?hx ?_; (case N => k_asm); (case B => k_asm); (case F => k_asm); (case X => k_asm); (case T => k_asm); (case k => first | rfl | assumption); (case d => ktr_room); (case hx => first | exact List.mem_of_elem_eq_true (a := (_, true)) (by decide +kernel) | exact List.mem_of_elem_eq_true (a := (_, false)) (by decide +kernel)); k_whole); intro h' tk' F' N'))

theorem ncn_0 (w : World) {mean : ExcName → Option Value} {mg mb : Str → Option Value} {dp un : Nat} {gd : Option (List Code)} {cn : Str} {cs : Scope} {a : Addr} {ccd : Value} {cl : List (Str × Addr)} {outer : List Env} {A₀ : Around} {base h₀ : Heap} {L : Addr} {m : Str → Option Value} {s : Shared} {Q E : Value → Shared → Prop}
    (B : Below A₀ base outer h₀) (F : Fr h₀ L s.heap m) (X : (hd.heap_39 w.params).In h₀) (T : Top hd.view_39 (looseW hd.view_39 []) mean mg mb h₀) (hk : cs.kind = .function) (hdp : dp + 8 < recursionLimit) {tx : Tok}
    (hret : ∀ h' tk', (∀ c o, s.heap.get? c = some o → h'.get? c = some o) → Q (.bool true) { s with heap := h', toks := tk' }) :
    wpAny (model PySem.Challenge.rw_xm0654_01.row.prog w) (ktrTop dp un gd cn cs L a ccd cl outer) (call (.ref 80) [.str (Str.ofString "p") tx]) Q E s := by
  w_top off
  revert X; k_fill; intro X
  refine wpAny_call ?_
  refine' code_own ?k1 ?k2 ?k3 News.nil ?k5 ?kA ?kF ?kK ?k6 ?k7 ?k8 ?k9 ?kB ?_ ?c2 ?c3 ?c4 ?c5
  (case kA => exact rfl); (case kF => exact rfl); (case kK => assumption); (case k1 => k_asm); (case k2 => k_asm); (case k3 => k_asm); (case k5 => k_asm); (case k6 => k_is); (case k7 => k_is); (case k8 => ktr_room); (case k9 => exact BindsTo.of_eq rfl); (case c5 => decide); (case kB => exact locs rfl); (case c2 => exact rfl); (case c3 => exact rfl); (case c4 => exact rfl)
  intro g' L' h' KG' KS' FG' F' N' B' X' T' l1
  dsimp only at KG' F' N'

  k_steps
  all_goals ((try dsimp only); (rename Fr _ _ _ _ => F9); exact closeB (by decide +kernel) (hret _ _ fun c o hc => F9.keep c o (KG' c o (by simp) hc)))
theorem ncn_1 (w : World) {mean : ExcName → Option Value} {mg mb : Str → Option Value} {dp un : Nat} {gd : Option (List Code)} {cn : Str} {cs : Scope} {a : Addr} {ccd : Value} {cl : List (Str × Addr)} {outer : List Env} {A₀ : Around} {base h₀ : Heap} {L : Addr} {m : Str → Option Value} {s : Shared} {Q E : Value → Shared → Prop}
    (B : Below A₀ base outer h₀) (F : Fr h₀ L s.heap m) (X : (hd.heap_39 w.params).In h₀) (T : Top hd.view_39 (looseW hd.view_39 []) mean mg mb h₀) (hk : cs.kind = .function) (hdp : dp + 8 < recursionLimit) {tx : Tok}
    (hret : ∀ h' tk', (∀ c o, s.heap.get? c = some o → h'.get? c = some o) → Q (.bool true) { s with heap := h', toks := tk' }) :
    wpAny (model PySem.Challenge.rw_xm0654_01.row.prog w) (ktrTop dp un gd cn cs L a ccd cl outer) (call (.ref 80) [.str (Str.ofString "a-1.b") tx]) Q E s := by
  w_top off
  revert X; k_fill; intro X
  refine wpAny_call ?_
  refine' code_own ?k1 ?k2 ?k3 News.nil ?k5 ?kA ?kF ?kK ?k6 ?k7 ?k8 ?k9 ?kB ?_ ?c2 ?c3 ?c4 ?c5
  (case kA => exact rfl); (case kF => exact rfl); (case kK => assumption); (case k1 => k_asm); (case k2 => k_asm); (case k3 => k_asm); (case k5 => k_asm); (case k6 => k_is); (case k7 => k_is); (case k8 => ktr_room); (case k9 => exact BindsTo.of_eq rfl); (case c5 => decide); (case kB => exact locs rfl); (case c2 => exact rfl); (case c3 => exact rfl); (case c4 => exact rfl)
  intro g' L' h' KG' KS' FG' F' N' B' X' T' l1
  dsimp only at KG' F' N'

  k_steps
  all_goals ((try dsimp only); (rename Fr _ _ _ _ => F9); exact closeB (by decide +kernel) (hret _ _ fun c o hc => F9.keep c o (KG' c o (by simp) hc)))
theorem ncn_2 (w : World) {mean : ExcName → Option Value} {mg mb : Str → Option Value} {dp un : Nat} {gd : Option (List Code)} {cn : Str} {cs : Scope} {a : Addr} {ccd : Value} {cl : List (Str × Addr)} {outer : List Env} {A₀ : Around} {base h₀ : Heap} {L : Addr} {m : Str → Option Value} {s : Shared} {Q E : Value → Shared → Prop}
    (B : Below A₀ base outer h₀) (F : Fr h₀ L s.heap m) (X : (hd.heap_39 w.params).In h₀) (T : Top hd.view_39 (looseW hd.view_39 []) mean mg mb h₀) (hk : cs.kind = .function) (hdp : dp + 8 < recursionLimit) {tx : Tok}
    (hret : ∀ h' tk', (∀ c o, s.heap.get? c = some o → h'.get? c = some o) → Q (.bool true) { s with heap := h', toks := tk' }) :
    wpAny (model PySem.Challenge.rw_xm0654_01.row.prog w) (ktrTop dp un gd cn cs L a ccd cl outer) (call (.ref 80) [.str (Str.ofString "_") tx]) Q E s := by
  w_top off
  revert X; k_fill; intro X
  refine wpAny_call ?_
  refine' code_own ?k1 ?k2 ?k3 News.nil ?k5 ?kA ?kF ?kK ?k6 ?k7 ?k8 ?k9 ?kB ?_ ?c2 ?c3 ?c4 ?c5
  (case kA => exact rfl); (case kF => exact rfl); (case kK => assumption); (case k1 => k_asm); (case k2 => k_asm); (case k3 => k_asm); (case k5 => k_asm); (case k6 => k_is); (case k7 => k_is); (case k8 => ktr_room); (case k9 => exact BindsTo.of_eq rfl); (case c5 => decide); (case kB => exact locs rfl); (case c2 => exact rfl); (case c3 => exact rfl); (case c4 => exact rfl)
  intro g' L' h' KG' KS' FG' F' N' B' X' T' l1
  dsimp only at KG' F' N'

  k_steps
  all_goals ((try dsimp only); (rename Fr _ _ _ _ => F9); exact closeB (by decide +kernel) (hret _ _ fun c o hc => F9.keep c o (KG' c o (by simp) hc)))
theorem ncn_3 (w : World) {mean : ExcName → Option Value} {mg mb : Str → Option Value} {dp un : Nat} {gd : Option (List Code)} {cn : Str} {cs : Scope} {a : Addr} {ccd : Value} {cl : List (Str × Addr)} {outer : List Env} {A₀ : Around} {base h₀ : Heap} {L : Addr} {m : Str → Option Value} {s : Shared} {Q E : Value → Shared → Prop}
    (B : Below A₀ base outer h₀) (F : Fr h₀ L s.heap m) (X : (hd.heap_39 w.params).In h₀) (T : Top hd.view_39 (looseW hd.view_39 []) mean mg mb h₀) (hk : cs.kind = .function) (hdp : dp + 8 < recursionLimit) {tx : Tok}
    (hret : ∀ h' tk', (∀ c o, s.heap.get? c = some o → h'.get? c = some o) → Q (.bool true) { s with heap := h', toks := tk' }) :
    wpAny (model PySem.Challenge.rw_xm0654_01.row.prog w) (ktrTop dp un gd cn cs L a ccd cl outer) (call (.ref 80) [.str (Str.ofString "é") tx]) Q E s := by
  w_top off
  revert X; k_fill; intro X
  refine wpAny_call ?_
  refine' code_own ?k1 ?k2 ?k3 News.nil ?k5 ?kA ?kF ?kK ?k6 ?k7 ?k8 ?k9 ?kB ?_ ?c2 ?c3 ?c4 ?c5
  (case kA => exact rfl); (case kF => exact rfl); (case kK => assumption); (case k1 => k_asm); (case k2 => k_asm); (case k3 => k_asm); (case k5 => k_asm); (case k6 => k_is); (case k7 => k_is); (case k8 => ktr_room); (case k9 => exact BindsTo.of_eq rfl); (case c5 => decide); (case kB => exact locs rfl); (case c2 => exact rfl); (case c3 => exact rfl); (case c4 => exact rfl)
  intro g' L' h' KG' KS' FG' F' N' B' X' T' l1
  dsimp only at KG' F' N'

  k_steps
  all_goals ((try dsimp only); (rename Fr _ _ _ _ => F9); exact closeB (by decide +kernel) (hret _ _ fun c o hc => F9.keep c o (KG' c o (by simp) hc)))
theorem ncn_4 (w : World) {mean : ExcName → Option Value} {mg mb : Str → Option Value} {dp un : Nat} {gd : Option (List Code)} {cn : Str} {cs : Scope} {a : Addr} {ccd : Value} {cl : List (Str × Addr)} {outer : List Env} {A₀ : Around} {base h₀ : Heap} {L : Addr} {m : Str → Option Value} {s : Shared} {Q E : Value → Shared → Prop}
    (B : Below A₀ base outer h₀) (F : Fr h₀ L s.heap m) (X : (hd.heap_39 w.params).In h₀) (T : Top hd.view_39 (looseW hd.view_39 []) mean mg mb h₀) (hk : cs.kind = .function) (hdp : dp + 8 < recursionLimit) {tx : Tok}
    (hret : ∀ h' tk', (∀ c o, s.heap.get? c = some o → h'.get? c = some o) → Q (.bool true) { s with heap := h', toks := tk' }) :
    wpAny (model PySem.Challenge.rw_xm0654_01.row.prog w) (ktrTop dp un gd cn cs L a ccd cl outer) (call (.ref 80) [.str (Str.ofString "a·") tx]) Q E s := by
  w_top off
  revert X; k_fill; intro X
  refine wpAny_call ?_
  refine' code_own ?k1 ?k2 ?k3 News.nil ?k5 ?kA ?kF ?kK ?k6 ?k7 ?k8 ?k9 ?kB ?_ ?c2 ?c3 ?c4 ?c5
  (case kA => exact rfl); (case kF => exact rfl); (case kK => assumption); (case k1 => k_asm); (case k2 => k_asm); (case k3 => k_asm); (case k5 => k_asm); (case k6 => k_is); (case k7 => k_is); (case k8 => ktr_room); (case k9 => exact BindsTo.of_eq rfl); (case c5 => decide); (case kB => exact locs rfl); (case c2 => exact rfl); (case c3 => exact rfl); (case c4 => exact rfl)
  intro g' L' h' KG' KS' FG' F' N' B' X' T' l1
  dsimp only at KG' F' N'

  k_steps
  all_goals ((try dsimp only); (rename Fr _ _ _ _ => F9); exact closeB (by decide +kernel) (hret _ _ fun c o hc => F9.keep c o (KG' c o (by simp) hc)))
theorem ncn_5 (w : World) {mean : ExcName → Option Value} {mg mb : Str → Option Value} {dp un : Nat} {gd : Option (List Code)} {cn : Str} {cs : Scope} {a : Addr} {ccd : Value} {cl : List (Str × Addr)} {outer : List Env} {A₀ : Around} {base h₀ : Heap} {L : Addr} {m : Str → Option Value} {s : Shared} {Q E : Value → Shared → Prop}
    (B : Below A₀ base outer h₀) (F : Fr h₀ L s.heap m) (X : (hd.heap_39 w.params).In h₀) (T : Top hd.view_39 (looseW hd.view_39 []) mean mg mb h₀) (hk : cs.kind = .function) (hdp : dp + 8 < recursionLimit) {tx : Tok}
    (hret : ∀ h' tk', (∀ c o, s.heap.get? c = some o → h'.get? c = some o) → Q (.bool true) { s with heap := h', toks := tk' }) :
    wpAny (model PySem.Challenge.rw_xm0654_01.row.prog w) (ktrTop dp un gd cn cs L a ccd cl outer) (call (.ref 80) [.str (Str.ofString "xmlx") tx]) Q E s := by
  w_top off
  revert X; k_fill; intro X
  refine wpAny_call ?_
  refine' code_own ?k1 ?k2 ?k3 News.nil ?k5 ?kA ?kF ?kK ?k6 ?k7 ?k8 ?k9 ?kB ?_ ?c2 ?c3 ?c4 ?c5
  (case kA => exact rfl); (case kF => exact rfl); (case kK => assumption); (case k1 => k_asm); (case k2 => k_asm); (case k3 => k_asm); (case k5 => k_asm); (case k6 => k_is); (case k7 => k_is); (case k8 => ktr_room); (case k9 => exact BindsTo.of_eq rfl); (case c5 => decide); (case kB => exact locs rfl); (case c2 => exact rfl); (case c3 => exact rfl); (case c4 => exact rfl)
  intro g' L' h' KG' KS' FG' F' N' B' X' T' l1
  dsimp only at KG' F' N'

  k_steps
  all_goals ((try dsimp only); (rename Fr _ _ _ _ => F9); exact closeB (by decide +kernel) (hret _ _ fun c o hc => F9.keep c o (KG' c o (by simp) hc)))
theorem ncn_6 (w : World) {mean : ExcName → Option Value} {mg mb : Str → Option Value} {dp un : Nat} {gd : Option (List Code)} {cn : Str} {cs : Scope} {a : Addr} {ccd : Value} {cl : List (Str × Addr)} {outer : List Env} {A₀ : Around} {base h₀ : Heap} {L : Addr} {m : Str → Option Value} {s : Shared} {Q E : Value → Shared → Prop}
    (B : Below A₀ base outer h₀) (F : Fr h₀ L s.heap m) (X : (hd.heap_39 w.params).In h₀) (T : Top hd.view_39 (looseW hd.view_39 []) mean mg mb h₀) (hk : cs.kind = .function) (hdp : dp + 8 < recursionLimit) {tx : Tok}
    (hret : ∀ h' tk', (∀ c o, s.heap.get? c = some o → h'.get? c = some o) → Q (.bool true) { s with heap := h', toks := tk' }) :
    wpAny (model PySem.Challenge.rw_xm0654_01.row.prog w) (ktrTop dp un gd cn cs L a ccd cl outer) (call (.ref 80) [.str (Str.ofString "XML") tx]) Q E s := by
  w_top off
  revert X; k_fill; intro X
  refine wpAny_call ?_
  refine' code_own ?k1 ?k2 ?k3 News.nil ?k5 ?kA ?kF ?kK ?k6 ?k7 ?k8 ?k9 ?kB ?_ ?c2 ?c3 ?c4 ?c5
  (case kA => exact rfl); (case kF => exact rfl); (case kK => assumption); (case k1 => k_asm); (case k2 => k_asm); (case k3 => k_asm); (case k5 => k_asm); (case k6 => k_is); (case k7 => k_is); (case k8 => ktr_room); (case k9 => exact BindsTo.of_eq rfl); (case c5 => decide); (case kB => exact locs rfl); (case c2 => exact rfl); (case c3 => exact rfl); (case c4 => exact rfl)
  intro g' L' h' KG' KS' FG' F' N' B' X' T' l1
  dsimp only at KG' F' N'

  k_steps
  all_goals ((try dsimp only); (rename Fr _ _ _ _ => F9); exact closeB (by decide +kernel) (hret _ _ fun c o hc => F9.keep c o (KG' c o (by simp) hc)))
theorem ncn_7 (w : World) {mean : ExcName → Option Value} {mg mb : Str → Option Value} {dp un : Nat} {gd : Option (List Code)} {cn : Str} {cs : Scope} {a : Addr} {ccd : Value} {cl : List (Str × Addr)} {outer : List Env} {A₀ : Around} {base h₀ : Heap} {L : Addr} {m : Str → Option Value} {s : Shared} {Q E : Value → Shared → Prop}
    (B : Below A₀ base outer h₀) (F : Fr h₀ L s.heap m) (X : (hd.heap_39 w.params).In h₀) (T : Top hd.view_39 (looseW hd.view_39 []) mean mg mb h₀) (hk : cs.kind = .function) (hdp : dp + 8 < recursionLimit) {tx : Tok}
    (hret : ∀ h' tk', (∀ c o, s.heap.get? c = some o → h'.get? c = some o) → Q (.bool true) { s with heap := h', toks := tk' }) :
    wpAny (model PySem.Challenge.rw_xm0654_01.row.prog w) (ktrTop dp un gd cn cs L a ccd cl outer) (call (.ref 80) [.str (Str.ofString "xmlns2") tx]) Q E s := by
  w_top off
  revert X; k_fill; intro X
  refine wpAny_call ?_
  refine' code_own ?k1 ?k2 ?k3 News.nil ?k5 ?kA ?kF ?kK ?k6 ?k7 ?k8 ?k9 ?kB ?_ ?c2 ?c3 ?c4 ?c5
  (case kA => exact rfl); (case kF => exact rfl); (case kK => assumption); (case k1 => k_asm); (case k2 => k_asm); (case k3 => k_asm); (case k5 => k_asm); (case k6 => k_is); (case k7 => k_is); (case k8 => ktr_room); (case k9 => exact BindsTo.of_eq rfl); (case c5 => decide); (case kB => exact locs rfl); (case c2 => exact rfl); (case c3 => exact rfl); (case c4 => exact rfl)
  intro g' L' h' KG' KS' FG' F' N' B' X' T' l1
  dsimp only at KG' F' N'

  k_steps
  all_goals ((try dsimp only); (rename Fr _ _ _ _ => F9); exact closeB (by decide +kernel) (hret _ _ fun c o hc => F9.keep c o (KG' c o (by simp) hc)))
theorem ncn_8 (w : World) {mean : ExcName → Option Value} {mg mb : Str → Option Value} {dp un : Nat} {gd : Option (List Code)} {cn : Str} {cs : Scope} {a : Addr} {ccd : Value} {cl : List (Str × Addr)} {outer : List Env} {A₀ : Around} {base h₀ : Heap} {L : Addr} {m : Str → Option Value} {s : Shared} {Q E : Value → Shared → Prop}
    (B : Below A₀ base outer h₀) (F : Fr h₀ L s.heap m) (X : (hd.heap_39 w.params).In h₀) (T : Top hd.view_39 (looseW hd.view_39 []) mean mg mb h₀) (hk : cs.kind = .function) (hdp : dp + 8 < recursionLimit) {tx : Tok}
    (hret : ∀ h' tk', (∀ c o, s.heap.get? c = some o → h'.get? c = some o) → Q (.bool false) { s with heap := h', toks := tk' }) :
    wpAny (model PySem.Challenge.rw_xm0654_01.row.prog w) (ktrTop dp un gd cn cs L a ccd cl outer) (call (.ref 80) [.str (Str.ofString "1p") tx]) Q E s := by
  w_top off
  revert X; k_fill; intro X
  refine wpAny_call ?_
  refine' code_own ?k1 ?k2 ?k3 News.nil ?k5 ?kA ?kF ?kK ?k6 ?k7 ?k8 ?k9 ?kB ?_ ?c2 ?c3 ?c4 ?c5
  (case kA => exact rfl); (case kF => exact rfl); (case kK => assumption); (case k1 => k_asm); (case k2 => k_asm); (case k3 => k_asm); (case k5 => k_asm); (case k6 => k_is); (case k7 => k_is); (case k8 => ktr_room); (case k9 => exact BindsTo.of_eq rfl); (case c5 => decide); (case kB => exact locs rfl); (case c2 => exact rfl); (case c3 => exact rfl); (case c4 => exact rfl)
  intro g' L' h' KG' KS' FG' F' N' B' X' T' l1
  dsimp only at KG' F' N'

  k_steps
  all_goals ((try dsimp only); (rename Fr _ _ _ _ => F9); exact closeB (by decide +kernel) (hret _ _ fun c o hc => F9.keep c o (KG' c o (by simp) hc)))
theorem ncn_9 (w : World) {mean : ExcName → Option Value} {mg mb : Str → Option Value} {dp un : Nat} {gd : Option (List Code)} {cn : Str} {cs : Scope} {a : Addr} {ccd : Value} {cl : List (Str × Addr)} {outer : List Env} {A₀ : Around} {base h₀ : Heap} {L : Addr} {m : Str → Option Value} {s : Shared} {Q E : Value → Shared → Prop}
    (B : Below A₀ base outer h₀) (F : Fr h₀ L s.heap m) (X : (hd.heap_39 w.params).In h₀) (T : Top hd.view_39 (looseW hd.view_39 []) mean mg mb h₀) (hk : cs.kind = .function) (hdp : dp + 8 < recursionLimit) {tx : Tok}
    (hret : ∀ h' tk', (∀ c o, s.heap.get? c = some o → h'.get? c = some o) → Q (.bool false) { s with heap := h', toks := tk' }) :
    wpAny (model PySem.Challenge.rw_xm0654_01.row.prog w) (ktrTop dp un gd cn cs L a ccd cl outer) (call (.ref 80) [.str (Str.ofString "a:b") tx]) Q E s := by
  w_top off
  revert X; k_fill; intro X
  refine wpAny_call ?_
  refine' code_own ?k1 ?k2 ?k3 News.nil ?k5 ?kA ?kF ?kK ?k6 ?k7 ?k8 ?k9 ?kB ?_ ?c2 ?c3 ?c4 ?c5
  (case kA => exact rfl); (case kF => exact rfl); (case kK => assumption); (case k1 => k_asm); (case k2 => k_asm); (case k3 => k_asm); (case k5 => k_asm); (case k6 => k_is); (case k7 => k_is); (case k8 => ktr_room); (case k9 => exact BindsTo.of_eq rfl); (case c5 => decide); (case kB => exact locs rfl); (case c2 => exact rfl); (case c3 => exact rfl); (case c4 => exact rfl)
  intro g' L' h' KG' KS' FG' F' N' B' X' T' l1
  dsimp only at KG' F' N'

  k_steps
  all_goals ((try dsimp only); (rename Fr _ _ _ _ => F9); exact closeB (by decide +kernel) (hret _ _ fun c o hc => F9.keep c o (KG' c o (by simp) hc)))
theorem ncn_10 (w : World) {mean : ExcName → Option Value} {mg mb : Str → Option Value} {dp un : Nat} {gd : Option (List Code)} {cn : Str} {cs : Scope} {a : Addr} {ccd : Value} {cl : List (Str × Addr)} {outer : List Env} {A₀ : Around} {base h₀ : Heap} {L : Addr} {m : Str → Option Value} {s : Shared} {Q E : Value → Shared → Prop}
    (B : Below A₀ base outer h₀) (F : Fr h₀ L s.heap m) (X : (hd.heap_39 w.params).In h₀) (T : Top hd.view_39 (looseW hd.view_39 []) mean mg mb h₀) (hk : cs.kind = .function) (hdp : dp + 8 < recursionLimit) {tx : Tok}
    (hret : ∀ h' tk', (∀ c o, s.heap.get? c = some o → h'.get? c = some o) → Q (.bool false) { s with heap := h', toks := tk' }) :
    wpAny (model PySem.Challenge.rw_xm0654_01.row.prog w) (ktrTop dp un gd cn cs L a ccd cl outer) (call (.ref 80) [.str (Str.ofString "p q") tx]) Q E s := by
  w_top off
  revert X; k_fill; intro X
  refine wpAny_call ?_
  refine' code_own ?k1 ?k2 ?k3 News.nil ?k5 ?kA ?kF ?kK ?k6 ?k7 ?k8 ?k9 ?kB ?_ ?c2 ?c3 ?c4 ?c5
  (case kA => exact rfl); (case kF => exact rfl); (case kK => assumption); (case k1 => k_asm); (case k2 => k_asm); (case k3 => k_asm); (case k5 => k_asm); (case k6 => k_is); (case k7 => k_is); (case k8 => ktr_room); (case k9 => exact BindsTo.of_eq rfl); (case c5 => decide); (case kB => exact locs rfl); (case c2 => exact rfl); (case c3 => exact rfl); (case c4 => exact rfl)
  intro g' L' h' KG' KS' FG' F' N' B' X' T' l1
  dsimp only at KG' F' N'

  k_steps
  all_goals ((try dsimp only); (rename Fr _ _ _ _ => F9); exact closeB (by decide +kernel) (hret _ _ fun c o hc => F9.keep c o (KG' c o (by simp) hc)))
theorem ncn_11 (w : World) {mean : ExcName → Option Value} {mg mb : Str → Option Value} {dp un : Nat} {gd : Option (List Code)} {cn : Str} {cs : Scope} {a : Addr} {ccd : Value} {cl : List (Str × Addr)} {outer : List Env} {A₀ : Around} {base h₀ : Heap} {L : Addr} {m : Str → Option Value} {s : Shared} {Q E : Value → Shared → Prop}
    (B : Below A₀ base outer h₀) (F : Fr h₀ L s.heap m) (X : (hd.heap_39 w.params).In h₀) (T : Top hd.view_39 (looseW hd.view_39 []) mean mg mb h₀) (hk : cs.kind = .function) (hdp : dp + 8 < recursionLimit) {tx : Tok}
    (hret : ∀ h' tk', (∀ c o, s.heap.get? c = some o → h'.get? c = some o) → Q (.bool false) { s with heap := h', toks := tk' }) :
    wpAny (model PySem.Challenge.rw_xm0654_01.row.prog w) (ktrTop dp un gd cn cs L a ccd cl outer) (call (.ref 80) [.str (Str.ofString "-") tx]) Q E s := by
  w_top off
  revert X; k_fill; intro X
  refine wpAny_call ?_
  refine' code_own ?k1 ?k2 ?k3 News.nil ?k5 ?kA ?kF ?kK ?k6 ?k7 ?k8 ?k9 ?kB ?_ ?c2 ?c3 ?c4 ?c5
  (case kA => exact rfl); (case kF => exact rfl); (case kK => assumption); (case k1 => k_asm); (case k2 => k_asm); (case k3 => k_asm); (case k5 => k_asm); (case k6 => k_is); (case k7 => k_is); (case k8 => ktr_room); (case k9 => exact BindsTo.of_eq rfl); (case c5 => decide); (case kB => exact locs rfl); (case c2 => exact rfl); (case c3 => exact rfl); (case c4 => exact rfl)
  intro g' L' h' KG' KS' FG' F' N' B' X' T' l1
  dsimp only at KG' F' N'

  k_steps
  all_goals ((try dsimp only); (rename Fr _ _ _ _ => F9); exact closeB (by decide +kernel) (hret _ _ fun c o hc => F9.keep c o (KG' c o (by simp) hc)))
theorem ncn_12 (w : World) {mean : ExcName → Option Value} {mg mb : Str → Option Value} {dp un : Nat} {gd : Option (List Code)} {cn : Str} {cs : Scope} {a : Addr} {ccd : Value} {cl : List (Str × Addr)} {outer : List Env} {A₀ : Around} {base h₀ : Heap} {L : Addr} {m : Str → Option Value} {s : Shared} {Q E : Value → Shared → Prop}
    (B : Below A₀ base outer h₀) (F : Fr h₀ L s.heap m) (X : (hd.heap_39 w.params).In h₀) (T : Top hd.view_39 (looseW hd.view_39 []) mean mg mb h₀) (hk : cs.kind = .function) (hdp : dp + 8 < recursionLimit) {tx : Tok}
    (hret : ∀ h' tk', (∀ c o, s.heap.get? c = some o → h'.get? c = some o) → Q (.bool false) { s with heap := h', toks := tk' }) :
    wpAny (model PySem.Challenge.rw_xm0654_01.row.prog w) (ktrTop dp un gd cn cs L a ccd cl outer) (call (.ref 80) [.str (Str.ofString "·") tx]) Q E s := by
  w_top off
  revert X; k_fill; intro X
  refine wpAny_call ?_
  refine' code_own ?k1 ?k2 ?k3 News.nil ?k5 ?kA ?kF ?kK ?k6 ?k7 ?k8 ?k9 ?kB ?_ ?c2 ?c3 ?c4 ?c5
  (case kA => exact rfl); (case kF => exact rfl); (case kK => assumption); (case k1 => k_asm); (case k2 => k_asm); (case k3 => k_asm); (case k5 => k_asm); (case k6 => k_is); (case k7 => k_is); (case k8 => ktr_room); (case k9 => exact BindsTo.of_eq rfl); (case c5 => decide); (case kB => exact locs rfl); (case c2 => exact rfl); (case c3 => exact rfl); (case c4 => exact rfl)
  intro g' L' h' KG' KS' FG' F' N' B' X' T' l1
  dsimp only at KG' F' N'

  k_steps
  all_goals ((try dsimp only); (rename Fr _ _ _ _ => F9); exact closeB (by decide +kernel) (hret _ _ fun c o hc => F9.keep c o (KG' c o (by simp) hc)))
theorem ncn_13 (w : World) {mean : ExcName → Option Value} {mg mb : Str → Option Value} {dp un : Nat} {gd : Option (List Code)} {cn : Str} {cs : Scope} {a : Addr} {ccd : Value} {cl : List (Str × Addr)} {outer : List Env} {A₀ : Around} {base h₀ : Heap} {L : Addr} {m : Str → Option Value} {s : Shared} {Q E : Value → Shared → Prop}
    (B : Below A₀ base outer h₀) (F : Fr h₀ L s.heap m) (X : (hd.heap_39 w.params).In h₀) (T : Top hd.view_39 (looseW hd.view_39 []) mean mg mb h₀) (hk : cs.kind = .function) (hdp : dp + 8 < recursionLimit) {tx : Tok}
    (hret : ∀ h' tk', (∀ c o, s.heap.get? c = some o → h'.get? c = some o) → Q (.bool false) { s with heap := h', toks := tk' }) :
    wpAny (model PySem.Challenge.rw_xm0654_01.row.prog w) (ktrTop dp un gd cn cs L a ccd cl outer) (call (.ref 80) [.str (Str.ofString "×") tx]) Q E s := by
  w_top off
  revert X; k_fill; intro X
  refine wpAny_call ?_
  refine' code_own ?k1 ?k2 ?k3 News.nil ?k5 ?kA ?kF ?kK ?k6 ?k7 ?k8 ?k9 ?kB ?_ ?c2 ?c3 ?c4 ?c5
  (case kA => exact rfl); (case kF => exact rfl); (case kK => assumption); (case k1 => k_asm); (case k2 => k_asm); (case k3 => k_asm); (case k5 => k_asm); (case k6 => k_is); (case k7 => k_is); (case k8 => ktr_room); (case k9 => exact BindsTo.of_eq rfl); (case c5 => decide); (case kB => exact locs rfl); (case c2 => exact rfl); (case c3 => exact rfl); (case c4 => exact rfl)
  intro g' L' h' KG' KS' FG' F' N' B' X' T' l1
  dsimp only at KG' F' N'

  k_steps
  all_goals ((try dsimp only); (rename Fr _ _ _ _ => F9); exact closeB (by decide +kernel) (hret _ _ fun c o hc => F9.keep c o (KG' c o (by simp) hc)))
theorem ncn_14 (w : World) {mean : ExcName → Option Value} {mg mb : Str → Option Value} {dp un : Nat} {gd : Option (List Code)} {cn : Str} {cs : Scope} {a : Addr} {ccd : Value} {cl : List (Str × Addr)} {outer : List Env} {A₀ : Around} {base h₀ : Heap} {L : Addr} {m : Str → Option Value} {s : Shared} {Q E : Value → Shared → Prop}
    (B : Below A₀ base outer h₀) (F : Fr h₀ L s.heap m) (X : (hd.heap_39 w.params).In h₀) (T : Top hd.view_39 (looseW hd.view_39 []) mean mg mb h₀) (hk : cs.kind = .function) (hdp : dp + 8 < recursionLimit) {tx : Tok}
    (hret : ∀ h' tk', (∀ c o, s.heap.get? c = some o → h'.get? c = some o) → Q (.bool false) { s with heap := h', toks := tk' }) :
    wpAny (model PySem.Challenge.rw_xm0654_01.row.prog w) (ktrTop dp un gd cn cs L a ccd cl outer) (call (.ref 80) [.str (Str.ofString ":") tx]) Q E s := by
  w_top off
  revert X; k_fill; intro X
  refine wpAny_call ?_
  refine' code_own ?k1 ?k2 ?k3 News.nil ?k5 ?kA ?kF ?kK ?k6 ?k7 ?k8 ?k9 ?kB ?_ ?c2 ?c3 ?c4 ?c5
  (case kA => exact rfl); (case kF => exact rfl); (case kK => assumption); (case k1 => k_asm); (case k2 => k_asm); (case k3 => k_asm); (case k5 => k_asm); (case k6 => k_is); (case k7 => k_is); (case k8 => ktr_room); (case k9 => exact BindsTo.of_eq rfl); (case c5 => decide); (case kB => exact locs rfl); (case c2 => exact rfl); (case c3 => exact rfl); (case c4 => exact rfl)
  intro g' L' h' KG' KS' FG' F' N' B' X' T' l1
  dsimp only at KG' F' N'

  k_steps
  all_goals ((try dsimp only); (rename Fr _ _ _ _ => F9); exact closeB (by decide +kernel) (hret _ _ fun c o hc => F9.keep c o (KG' c o (by simp) hc)))
def ncnL : List (Str × Bool) := [(Str.ofString "p", true), (Str.ofString "a-1.b", true), (Str.ofString "_", true), (Str.ofString "é", true), (Str.ofString "a·", true), (Str.ofString "xmlx", true), (Str.ofString "XML", true), (Str.ofString "xmlns2", true), (Str.ofString "1p", false), (Str.ofString "a:b", false), (Str.ofString "p q", false), (Str.ofString "-", false), (Str.ofString "·", false), (Str.ofString "×", false), (Str.ofString ":", false)]
theorem ncn_says (w : World) {mean : ExcName → Option Value} {mg mb : Str → Option Value} {dp un : Nat} {gd : Option (List Code)} {cn : Str} {cs : Scope} {a : Addr} {ccd : Value} {cl : List (Str × Addr)} {outer : List Env} {A₀ : Around} {base h₀ : Heap} {L : Addr} {m : Str → Option Value} {s : Shared} {Q E : Value → Shared → Prop}
    (B : Below A₀ base outer h₀) (F : Fr h₀ L s.heap m) (X : (hd.heap_39 w.params).In h₀) (T : Top hd.view_39 (looseW hd.view_39 []) mean mg mb h₀) (hk : cs.kind = .function) (hdp : dp + 8 < recursionLimit) {x : Str} {b : Bool} {tx : Tok} (hx : (x, b) ∈ ncnL)
    (hret : ∀ h' tk', (∀ c o, s.heap.get? c = some o → h'.get? c = some o) → Q (.bool b) { s with heap := h', toks := tk' }) :
    wpAny (model PySem.Challenge.rw_xm0654_01.row.prog w) (ktrTop dp un gd cn cs L a ccd cl outer) (call (.ref 80) [.str x tx]) Q E s := by
  simp only [ncnL, List.mem_cons, Prod.mk.injEq, List.not_mem_nil, or_false] at hx
  rcases hx with ⟨rfl, rfl⟩ | ⟨rfl, rfl⟩ | ⟨rfl, rfl⟩ | ⟨rfl, rfl⟩ | ⟨rfl, rfl⟩ | ⟨rfl, rfl⟩ | ⟨rfl, rfl⟩ | ⟨rfl, rfl⟩ | ⟨rfl, rfl⟩ | ⟨rfl, rfl⟩ | ⟨rfl, rfl⟩ | ⟨rfl, rfl⟩ | ⟨rfl, rfl⟩ | ⟨rfl, rfl⟩ | ⟨rfl, rfl⟩
  · exact ncn_0 w B F X T hk hdp hret
  · exact ncn_1 w B F X T hk hdp hret
  · exact ncn_2 w B F X T hk hdp hret
  · exact ncn_3 w B F X T hk hdp hret
  · exact ncn_4 w B F X T hk hdp hret
  · exact ncn_5 w B F X T hk hdp hret
  · exact ncn_6 w B F X T hk hdp hret
  · exact ncn_7 w B F X T hk hdp hret
  · exact ncn_8 w B F X T hk hdp hret
  · exact ncn_9 w B F X T hk hdp hret
  · exact ncn_10 w B F X T hk hdp hret
  · exact ncn_11 w B F X T hk hdp hret
  · exact ncn_12 w B F X T hk hdp hret
  · exact ncn_13 w B F X T hk hdp hret
  · exact ncn_14 w B F X T hk hdp hret
end Mine
end

section
open PySem PySem.W PyProof.Rows PySem.Calls
namespace Mine
local macro_rules | `(tactic| k_room) => `(tactic| ktr_room)
local macro_rules | `(tactic| walk_at "ite") => `(tactic| (k_here; k_closed; first | refine ite_pos (by decide +kernel) ?_ | refine ite_neg (by decide +kernel) ?_))
local macro_rules | `(tactic| walk_at "exec Raise some none") => `(tactic| (k_here; (with_reducible show wpAny _ _ (exec (Stmt.Raise (some (Expr.Call (Expr.Name ("NamespaceFault" : Str) _) [_] [] _)) none _) _) _ _ _); k_dflt (refine' Raise_newX (C := 110) ?x ?h ?b ?t ?_; (case x => k_asm); (case h => rfl); (case b => k_is); (case t => k_is); k_whole)))
local macro_rules | `(tactic| walk_at "call ref") => `(tactic| (k_here; (with_reducible show wpAny _ _ (call (Value.ref 110) [Value.str _ _]) _ _ _); k_dflt (refine' nf_raise _ ?k1 ?k2 ?k3 ?k4 ?k5 ?k6 ?_; (case k1 => k_asm); (case k2 => k_asm); (case k3 => k_asm); (case k4 => k_asm); (case k5 => rfl); (case k6 => k_room); k_whole); intro h' e' tk' M'; (try dsimp only)))
local macro_rules | `(tactic| walk_at "leaving ref") => `(tactic| (k_here; (with_reducible rename MadeI _ _ _ _ _ => m9); k_dflt (refine' leave_raiseI ?k1 m9 ?k2 ?k3 ?_; (case k2 => assumption); (case k1 => assumption); (case k3 => k_asm); k_whole); intro h' t' S' U'; (try dsimp only at S' U' ⊢)))
theorem add_small {prog : Program} {w : World} {A : Around} {E : Value → Shared → Prop} {s : Shared} {x y : Str} {t u : Tok} {Q : Value → Shared → Prop} (hx : x.length ≤ 1000) (hy : y.length ≤ 1000) (h : ∀ t' tk, Q (.str (x ++ y) t') { s with toks := tk }) : wpAny (model prog w) A (binaryOp .Add (.str x t) (.str y u)) Q E s :=
  add_str h (by rw [PySem.sizeLine_eq]; omega)
theorem app_small {a b : Str} (ha : a.length ≤ 400) (hb : b.length ≤ 400) : (a ++ b).length ≤ 1000 := by rw [PySem.Str.length_append]; omega
local macro_rules | `(tactic| walk_at "binaryOp Add str str") => `(tactic| (k_here; k_dflt (refine' add_small ?x ?y ?_; (case x => first | exact Nat.le_trans (by with_reducible assumption) (by decide) | exact Nat.le_of_ble_eq_true (by decide +kernel) | exact app_small (Nat.le_of_ble_eq_true (by decide +kernel)) (Nat.le_trans (by with_reducible assumption) (by decide))); (case y => first | exact Nat.le_trans (by with_reducible assumption) (by decide) | exact Nat.le_of_ble_eq_true (by decide +kernel)); k_whole); intro t' tk'))
def xmlS : Str := Str.ofString "http://www.w3.org/XML/1998/namespace"
def xmlnsS : Str := Str.ofString "http://www.w3.org/2000/xmlns/"
def vB (x : Str) (b : Bool) (u : Str) : Bool :=
  if (x == Str.ofString "xmlns") = true then false else if (x == Str.ofString "xml") = true then !(u != Str.ofString "http://www.w3.org/XML/1998/namespace") else
  if ([Str.ofString "http://www.w3.org/XML/1998/namespace", Str.ofString "http://www.w3.org/2000/xmlns/"].any fun z => z == u) = true then false else if (x != Str.ofString "") = true then (b && !(u == Str.ofString "")) else true
section
variable {x u : Str} {b : Bool}
theorem v1 (h1 : (x == Str.ofString "xmlns") = true) : false = vB x b u := by unfold vB; rw [if_pos h1]
theorem v2 (h1 : (x == Str.ofString "xmlns") = false) (h2 : (x == Str.ofString "xml") = true) (h3 : (u != Str.ofString "http://www.w3.org/XML/1998/namespace") = true) : false = vB x b u := by
  unfold vB; rw [if_neg (by rw [h1]; decide), if_pos h2, h3]; rfl
theorem v2' (h1 : (x == Str.ofString "xmlns") = false) (h2 : (x == Str.ofString "xml") = true) (h3 : (u != Str.ofString "http://www.w3.org/XML/1998/namespace") = false) : true = vB x b u := by
  unfold vB; rw [if_neg (by rw [h1]; decide), if_pos h2, h3]; rfl
theorem v3 (h1 : (x == Str.ofString "xmlns") = false) (h2 : (x == Str.ofString "xml") = false) (h3 : ([Str.ofString "http://www.w3.org/XML/1998/namespace", Str.ofString "http://www.w3.org/2000/xmlns/"].any fun z => z == u) = true) : false = vB x b u := by
  unfold vB; rw [if_neg (by rw [h1]; decide), if_neg (by rw [h2]; decide), if_pos h3]
theorem v4 (h1 : (x == Str.ofString "xmlns") = false) (h2 : (x == Str.ofString "xml") = false) (h3 : ([Str.ofString "http://www.w3.org/XML/1998/namespace", Str.ofString "http://www.w3.org/2000/xmlns/"].any fun z => z == u) = false) (h4 : (x != Str.ofString "") = true) (h5 : b = false) : false = vB x b u := by
  unfold vB; rw [if_neg (by rw [h1]; decide), if_neg (by rw [h2]; decide), if_neg (by rw [h3]; decide), if_pos h4, h5]; rfl
theorem v5 (h1 : (x == Str.ofString "xmlns") = false) (h2 : (x == Str.ofString "xml") = false) (h3 : ([Str.ofString "http://www.w3.org/XML/1998/namespace", Str.ofString "http://www.w3.org/2000/xmlns/"].any fun z => z == u) = false) (h4 : (x != Str.ofString "") = true) (h5 : b = true) (h6 : (u == Str.ofString "") = true) : false = vB x b u := by
  unfold vB; rw [if_neg (by rw [h1]; decide), if_neg (by rw [h2]; decide), if_neg (by rw [h3]; decide), if_pos h4, h5, h6]; rfl
theorem v6 (h1 : (x == Str.ofString "xmlns") = false) (h2 : (x == Str.ofString "xml") = false) (h3 : ([Str.ofString "http://www.w3.org/XML/1998/namespace", Str.ofString "http://www.w3.org/2000/xmlns/"].any fun z => z == u) = false) (h4 : (x != Str.ofString "") = true) (h5 : b = true) (h6 : (u == Str.ofString "") = false) : true = vB x b u := by
  unfold vB; rw [if_neg (by rw [h1]; decide), if_neg (by rw [h2]; decide), if_neg (by rw [h3]; decide), if_pos h4, h5, h6]; rfl
theorem v7 (h1 : (x == Str.ofString "xmlns") = false) (h2 : (x == Str.ofString "xml") = false) (h3 : ([Str.ofString "http://www.w3.org/XML/1998/namespace", Str.ofString "http://www.w3.org/2000/xmlns/"].any fun z => z == u) = false) (h4 : (x != Str.ofString "") = false) : true = vB x b u := by
  unfold vB; rw [if_neg (by rw [h1]; decide), if_neg (by rw [h2]; decide), if_neg (by rw [h3]; decide), if_neg (by rw [h4]; decide)]
end
theorem ncn_in {x : Str} {b : Bool} (hx : (x, b) ∈ ncnL ∨ x = Str.ofString "xml" ∨ x = Str.ofString "xmlns" ∨ x = Str.ofString "") (h1 : (x == Str.ofString "xmlns") = false) (h2 : (x == Str.ofString "xml") = false) (h3 : (x != Str.ofString "") = true) : (x, b) ∈ ncnL := by
  rcases hx with h | h | h | h
  · exact h
  · rw [h] at h2; exact absurd h2 (by decide +kernel)
  · rw [h] at h1; exact absurd h1 (by decide +kernel)
  · rw [h] at h3; exact absurd h3 (by decide +kernel)
theorem kd_of {h₀ g : Heap} {L a : Addr} {m : Str → Option Value} {cn : Str} {cs : Scope} {ccd : Value} {cl : List (Str × Addr)} (F : Fr h₀ L g m) : KtsDicts ([envX cn cs L a ccd cl].filterMap (·.frame)) g := by
  intro b hb
  obtain ⟨o, es, n, ho, hd, _⟩ := F.ns
  obtain rfl : b = L := by simpa using hb
  exact ⟨o, es, n, ho, hd⟩
def ButL (h₀ : Heap) (L : Addr) (m : Str → Option Value) (h h' : Heap) : Prop := Fr h₀ L h' m ∧ ∀ c o, c ≠ L → h.get? c = some o → h'.get? c = some o
theorem butL_0 {h₀ sh g h : Heap} {L L' : Addr} {m m' : Str → Option Value} (F : Fr h₀ L sh m)
    (KG : ∀ b o, b ∉ List.map (·.1) ([] : List (Addr × Obj)) → sh.get? b = some o → g.get? b = some o) (F' : Fr g L' h m') : ButL h₀ L m sh h := by
  have k : ∀ c o, sh.get? c = some o → h.get? c = some o := fun c o hc => F'.keep c o (KG c o (by simp) hc)
  obtain ⟨oL, es, ep, hh, hLr⟩ := F.ns
  exact ⟨⟨⟨oL, es, ep, k _ _ hh, hLr⟩, fun b o hb => k b o (F.keep b o hb), F.above⟩, fun c o _ hc => k c o hc⟩
theorem butL_T {h₀ sh g g' h : Heap} {L L' a : Addr} {m m' : Str → Option Value} {cn : Str} {cs : Scope} {ccd : Value} {cl : List (Str × Addr)} (F : Fr h₀ L sh m)
    (KG : ∀ b o, b ∉ List.map (·.1) ([] : List (Addr × Obj)) → sh.get? b = some o → g.get? b = some o) (T : KtsTurn ([envX cn cs L a ccd cl].filterMap (·.frame)) g g') (F' : Fr g' L' h m') : ButL h₀ L m sh h := by
  have k : ∀ c o, c ≠ L → sh.get? c = some o → h.get? c = some o := fun c o hne hc => F'.keep c o (T.other c o (KG c o (by simp) hc) (by simpa using hne))
  obtain ⟨oL, es, ep, hh, hd, hk1, hk2⟩ := F.ns
  obtain ⟨sl, hs⟩ := T.up (KG _ _ (by simp) hh)
  have nL : h₀.get? L = none := kts_self F
  exact ⟨⟨⟨_, es, ep, F'.keep _ _ hs, hd, hk1, hk2⟩, fun b o hb => k b o (fun z => by rw [z, nL] at hb; cases hb) (F.keep b o hb), F.above⟩, k⟩
theorem ncn_use (w : World) {mean : ExcName → Option Value} {mg mb : Str → Option Value} {dp un : Nat} {gd : Option (List Code)} {cn : Str} {cs : Scope} {a : Addr} {ccd : Value} {cl : List (Str × Addr)} {outer : List Env} {A₀ : Around} {base h₀ : Heap} {L : Addr} {m : Str → Option Value} {s : Shared} {Q E : Value → Shared → Prop}
    (B : Below A₀ base outer h₀) (F : Fr h₀ L s.heap m) (X : (hd.heap_39 w.params).In h₀) (T : Top hd.view_39 (looseW hd.view_39 []) mean mg mb h₀) (hk : cs.kind = .function) (hdp : dp + 8 < recursionLimit) {news : List (Addr × Obj)} (N : News h₀ L s.heap news) {x : Str} {b : Bool} {tx : Tok} (hx : (x, b) ∈ ncnL)
    (hret : ∀ h' tk', Fr h₀ L h' m → News h₀ L h' news → Q (.bool b) { s with heap := h', toks := tk' }) :
    wpAny (model PySem.Challenge.rw_xm0654_01.row.prog w) (ktrTop dp un gd cn cs L a ccd cl outer) (call (.ref 80) [.str x tx]) Q E s := ncn_says w B F X T hk hdp hx fun h' tk' q => hret h' tk' (fr_all F q) (news_all N q)
local macro_rules | `(tactic| walk_at "call ref") => `(tactic| (k_here; (with_reducible show wpAny _ _ (call (Value.ref 80) _) _ _ _); k_dflt (refine' ncn_use _ ?B ?F ?X ?T ?k ?d ?N ?hx ?_; (case N => k_asm); (case B => k_asm); (case F => k_asm); (case X => k_asm); (case T => k_asm); (case k => first | rfl | assumption); (case d => ktr_room); (case hx => first | assumption | (exact ncn_in (by assumption) (by assumption) (by assumption) (by assumption))); k_whole); intro h' tk' F' N'))

theorem let_says (w : World) {mean : ExcName → Option Value} {mg mb : Str → Option Value} {dp un : Nat} {gd : Option (List Code)} {cn : Str} {cs : Scope} {a : Addr} {ccd : Value} {cl : List (Str × Addr)} {A₀ : Around} {base h₀ : Heap} {L : Addr} {m : Str → Option Value} {s : Shared} {Q E : Value → Shared → Prop}
    (B : Below A₀ base [] h₀) (F : Fr h₀ L s.heap m) (X : (hd.heap_39 w.params).In h₀) (T : Top hd.view_39 (looseW hd.view_39 []) mean mg mb h₀) (XB : (hd.heap_39 w.params).In base) (TB : Top hd.view_39 (looseW hd.view_39 []) mean mg mb base) (hk : cs.kind = .function) (hdp : dp + 12 < recursionLimit) {tx tu : Tok} {x u : Str} {b : Bool} (hx : (x, b) ∈ ncnL ∨ x = Str.ofString "xml" ∨ x = Str.ofString "xmlns" ∨ x = Str.ofString "") (hlx : x.length ≤ 64) (hlu : u.length ≤ 64)
    (hret : ∀ h' tk', ButL h₀ L m s.heap h' → Q (.bool (vB x b u)) { s with heap := h', toks := tk' }) :
    wpAny (model PySem.Challenge.rw_xm0654_01.row.prog w) (ktrTop dp un gd cn cs L a ccd cl []) (call (.ref 168) [.str x tx, .str u tu]) Q E s := by
  w_top off
  revert X; k_fill; intro X
  refine wpAny_call ?_
  refine' code_own ?k1 ?k2 ?k3 News.nil ?k5 ?kA ?kF ?kK ?k6 ?k7 ?k8 ?k9 ?kB ?_ ?c2 ?c3 ?c4 ?c5
  (case kA => exact rfl); (case kF => exact rfl); (case kK => assumption); (case k1 => k_asm); (case k2 => k_asm); (case k3 => k_asm); (case k5 => k_asm); (case k6 => k_is); (case k7 => k_is); (case k8 => ktr_room); (case k9 => exact BindsTo.of_eq rfl); (case c5 => decide); (case kB => exact locs rfl); (case c2 => exact rfl); (case c3 => exact rfl); (case c4 => exact rfl)
  intro g' L' h' KG' KS' FG' F' N' B' X' T' l1
  dsimp only at KG' F' N'

  have D' : KtsDicts ([envX cn cs L a ccd cl].filterMap (·.frame)) g' := kd_of FG'
  k_steps
  all_goals (
    (try dsimp only)
    (rename Fr _ _ _ _ => F9)
    first
      | (with_reducible rename KtsTurn _ _ _ => T9; have z9 := butL_T F KG' T9 F9)
      | have z9 := butL_0 F KG' F9
    first
      | exact closeB (v1 (by with_reducible assumption)) (hret _ _ z9)
      | exact closeB (v2 (by with_reducible assumption) (by with_reducible assumption) (by with_reducible assumption)) (hret _ _ z9)
      | exact closeB (v2' (by with_reducible assumption) (by with_reducible assumption) (by with_reducible assumption)) (hret _ _ z9)
      | exact closeB (v3 (by with_reducible assumption) (by with_reducible assumption) (by with_reducible assumption)) (hret _ _ z9)
      | exact closeB (v4 (by with_reducible assumption) (by with_reducible assumption) (by with_reducible assumption) (by with_reducible assumption) (by with_reducible assumption)) (hret _ _ z9)
      | exact closeB (v5 (by with_reducible assumption) (by with_reducible assumption) (by with_reducible assumption) (by with_reducible assumption) (by with_reducible assumption) (by with_reducible assumption)) (hret _ _ z9)
      | exact closeB (v6 (by with_reducible assumption) (by with_reducible assumption) (by with_reducible assumption) (by with_reducible assumption) (by with_reducible assumption) (by with_reducible assumption)) (hret _ _ z9)
      | exact closeB (v7 (by with_reducible assumption) (by with_reducible assumption) (by with_reducible assumption) (by with_reducible assumption)) (hret _ _ z9))
end Mine
end

section
open PySem PySem.W PyProof.Rows PySem.Calls
namespace Mine
local macro_rules | `(tactic| k_room) => `(tactic| ktr_room)
local macro_rules | `(tactic| walk_at "ite") => `(tactic| (k_here; k_closed; first | refine ite_pos (by decide +kernel) ?_ | refine ite_neg (by decide +kernel) ?_))

section
variable {x u : Str} {b : Bool}
theorem str_of {x y : Str} (h : (x == y) = true) : x = y := beq_iff_eq.mp h
theorem d1 (h1 : (x == Str.ofString "xml") = true) : (u == Str.ofString "http://www.w3.org/XML/1998/namespace") = vB x b u := by
  have e := str_of h1
  subst e
  unfold vB
  rw [if_neg (by decide +kernel), if_pos h1]
  show _ = !(!(u == _))
  rw [Bool.not_not]
theorem d2 (h2 : (x == Str.ofString "xmlns") = true) : false = vB x b u := v1 h2
theorem d4 (h1 : (x == Str.ofString "xml") = false) (h2 : (x == Str.ofString "xmlns") = false) (h3 : ([Str.ofString "http://www.w3.org/XML/1998/namespace", Str.ofString "http://www.w3.org/2000/xmlns/"].any fun z => z == u) = false) (h4 : (x == Str.ofString "") = true) : (x == Str.ofString "") = vB x b u := by
  rw [h4]; exact v7 h2 h1 h3 (by show (!(x == _)) = false; rw [h4]; rfl)
theorem d5 (h1 : (x == Str.ofString "xml") = false) (h2 : (x == Str.ofString "xmlns") = false) (h3 : ([Str.ofString "http://www.w3.org/XML/1998/namespace", Str.ofString "http://www.w3.org/2000/xmlns/"].any fun z => z == u) = false) (h4 : (x == Str.ofString "") = false) (h5 : b = false) : b = vB x b u := by
  rw [← v4 h2 h1 h3 (by show (!(x == _)) = true; rw [h4]; rfl) h5, h5]
theorem d6 (h1 : (x == Str.ofString "xml") = false) (h2 : (x == Str.ofString "xmlns") = false) (h3 : ([Str.ofString "http://www.w3.org/XML/1998/namespace", Str.ofString "http://www.w3.org/2000/xmlns/"].any fun z => z == u) = false) (h4 : (x == Str.ofString "") = false) (h5 : b = true) : (u != Str.ofString "") = vB x b u := by
  have h4' : (x != Str.ofString "") = true := by show (!(x == _)) = true; rw [h4]; rfl
  cases h6 : (u == Str.ofString "") with
  | true => rw [← v5 h2 h1 h3 h4' h5 h6]; show (!(u == _)) = false; rw [h6]; rfl
  | false => rw [← v6 h2 h1 h3 h4' h5 h6]; show (!(u == _)) = true; rw [h6]; rfl
end

theorem due_says (w : World) {mean : ExcName → Option Value} {mg mb : Str → Option Value} {dp un : Nat} {gd : Option (List Code)} {cn : Str} {cs : Scope} {a : Addr} {ccd : Value} {cl : List (Str × Addr)} {outer : List Env} {A₀ : Around} {base h₀ : Heap} {L : Addr} {m : Str → Option Value} {s : Shared} {Q E : Value → Shared → Prop}
    (B : Below A₀ base outer h₀) (F : Fr h₀ L s.heap m) (X : (hd.heap_39 w.params).In h₀) (T : Top hd.view_39 (looseW hd.view_39 []) mean mg mb h₀) (hk : cs.kind = .function) (hdp : dp + 8 < recursionLimit) {x u : Str} {b : Bool} {tx tu : Tok}
    (hret : ∀ h' tk', (∀ c o, s.heap.get? c = some o → h'.get? c = some o) → Q (.bool (vB x b u)) { s with heap := h', toks := tk' }) :
    wpAny (model PySem.Challenge.rw_xm0654_01.row.prog w) (ktrTop dp un gd cn cs L a ccd cl outer) (call (.ref 182) [.str x tx, .bool b, .str u tu]) Q E s := by
  w_top off
  revert X; k_fill; intro X
  refine wpAny_call ?_
  refine' code_own ?k1 ?k2 ?k3 News.nil ?k5 ?kA ?kF ?kK ?k6 ?k7 ?k8 ?k9 ?kB ?_ ?c2 ?c3 ?c4 ?c5
  (case kA => exact rfl); (case kF => exact rfl); (case kK => assumption); (case k1 => k_asm); (case k2 => k_asm); (case k3 => k_asm); (case k5 => k_asm); (case k6 => k_is); (case k7 => k_is); (case k8 => ktr_room); (case k9 => exact BindsTo.of_eq rfl); (case c5 => decide); (case kB => exact locs rfl); (case c2 => exact rfl); (case c3 => exact rfl); (case c4 => exact rfl)
  intro g' L' h' KG' KS' FG' F' N' B' X' T' l1
  dsimp only at KG' F' N'

  k_steps
  all_goals (
    (try dsimp only)
    (rename Fr _ _ _ _ => F9)
    have z9 : ∀ c o, s.heap.get? c = some o → _ := fun c o hc => F9.keep c o (KG' c o (by simp) hc)
    first
      | exact closeB (d1 (by with_reducible assumption)) (hret _ _ z9)
      | exact closeB (d2 (by with_reducible assumption)) (hret _ _ z9)
      | exact closeB (v3 (by with_reducible assumption) (by with_reducible assumption) (by with_reducible assumption)) (hret _ _ z9)
      | exact closeB (d4 (by with_reducible assumption) (by with_reducible assumption) (by with_reducible assumption) (by with_reducible assumption)) (hret _ _ z9)
      | exact closeB (d5 (by with_reducible assumption) (by with_reducible assumption) (by with_reducible assumption) (by with_reducible assumption) (by with_reducible assumption)) (hret _ _ z9)
      | exact closeB (d6 (by with_reducible assumption) (by with_reducible assumption) (by with_reducible assumption) (by with_reducible assumption) (by with_reducible assumption)) (hret _ _ z9))
end Mine
end

section
open PySem PySem.W PyProof.Rows PySem.Calls
namespace Mine
local macro_rules | `(tactic| k_room) => `(tactic| ktr_room)
local macro_rules | `(tactic| walk_at "ite") => `(tactic| (k_here; k_closed; first | refine ite_pos (by decide +kernel) ?_ | refine ite_neg (by decide +kernel) ?_))
local macro_rules | `(tactic| walk_at "exec Raise some none") => `(tactic| (k_here; (with_reducible show wpAny _ _ (exec (Stmt.Raise (some (Expr.Call (Expr.Name ("NamespaceFault" : Str) _) [_] [] _)) none _) _) _ _ _); k_dflt (refine' Raise_newX (C := 110) ?x ?h ?b ?t ?_; (case x => k_asm); (case h => rfl); (case b => k_is); (case t => k_is); k_whole)))
local macro_rules | `(tactic| walk_at "call ref") => `(tactic| (k_here; (with_reducible show wpAny _ _ (call (Value.ref 110) [Value.str _ _]) _ _ _); k_dflt (refine' nf_raise _ ?k1 ?k2 ?k3 ?k4 ?k5 ?k6 ?_; (case k1 => k_asm); (case k2 => k_asm); (case k3 => k_asm); (case k4 => k_asm); (case k5 => rfl); (case k6 => k_room); k_whole); intro h' e' tk' M'; (try dsimp only)))
local macro_rules | `(tactic| walk_at "leaving ref") => `(tactic| (k_here; (with_reducible rename MadeI _ _ _ _ _ => m9); k_dflt (refine' leave_raiseI ?k1 m9 ?k2 ?k3 ?_; (case k2 => assumption); (case k1 => assumption); (case k3 => k_asm); k_whole); intro h' t' S' U'; (try dsimp only at S' U' ⊢)))

def Hs : List Str := [Str.ofString "xmlns", Str.ofString "xmlns:", Str.ofString "xmlns:", Str.ofString "xml", Str.ofString "Xmlns:", Str.ofString "", Str.ofString "xmlnsx:", Str.ofString "xmln"]
def Ts : List Str := [Str.ofString "", Str.ofString "p", Str.ofString "a:b", Str.ofString "xmlns", Str.ofString ":", Str.ofString "xmlns:p"]
def Ns : List Str := Hs.flatMap fun a => Ts.map (a ++ ·)
theorem ns_len : Ns.all (fun x => x.length ≤ 64) = true := by decide +kernel
theorem ns_len' {x : Str} (hx : x ∈ Ns) : x.length ≤ 64 := by have := List.all_eq_true.mp ns_len x hx; simpa using this
def declS (x : Str) : Option (Option Str) :=
  if (x == Str.ofString "xmlns") = true then some (some (Str.ofString "")) else if (x == Str.ofString "xmlns:") = true then none else
  if (Txt.slice x none (some 6) == Str.ofString "xmlns:") = true then some (some (Txt.slice x (some 6) none)) else some none
def IsD (sh h : Heap) (v : Value) : Option (Option Str) → Prop
  | none => ∃ p t, v = .ref p ∧ sh.get? p = none ∧ h.get? p = some (tupO [.str (Str.ofString "refused") t])
  | some none => v = .none
  | some (some y) => ∃ t, v = .str y t
theorem isD_none {sh h : Heap} : IsD sh h .none (some none) := rfl
theorem isD_str {sh h : Heap} {y : Str} {t : Tok} : IsD sh h (.str y t) (some (some y)) := ⟨t, rfl⟩
theorem isD_ref {sh h : Heap} {p : Addr} {t : Tok} (h1 : sh.get? p = none) (h2 : h.get? p = some (tupO [.str (Str.ofString "refused") t])) : IsD sh h (.ref p) none := ⟨p, t, rfl, h1, h2⟩
theorem isD_of {sh h : Heap} {v : Value} {x : Str} {d : Option (Option Str)} (e : declS x = d) (k : IsD sh h v d) : IsD sh h v (declS x) := by rw [e]; exact k
section
variable {x : Str}
theorem s1 (h1 : (x == Str.ofString "xmlns") = true) : declS x = some (some (Str.ofString "")) := by unfold declS; rw [if_pos h1]
theorem s2 (h1 : (x == Str.ofString "xmlns") = false) (h2 : (x == Str.ofString "xmlns:") = true) : declS x = none := by unfold declS; rw [if_neg (by rw [h1]; decide), if_pos h2]
theorem s3 (h1 : (x == Str.ofString "xmlns") = false) (h2 : (x == Str.ofString "xmlns:") = false) (h3 : (Txt.slice x none (some 6) == Str.ofString "xmlns:") = true) : declS x = some (some (Txt.slice x (some 6) none)) := by
  unfold declS; rw [if_neg (by rw [h1]; decide), if_neg (by rw [h2]; decide), if_pos h3]
theorem s4 (h1 : (x == Str.ofString "xmlns") = false) (h2 : (x == Str.ofString "xmlns:") = false) (h3 : (Txt.slice x none (some 6) == Str.ofString "xmlns:") = false) : declS x = some none := by
  unfold declS; rw [if_neg (by rw [h1]; decide), if_neg (by rw [h2]; decide), if_neg (by rw [h3]; decide)]
end
theorem newT {sh g g' h : Heap} {L L' a p : Addr} {cn : Str} {cs : Scope} {ccd : Value} {cl : List (Str × Addr)} {o : Obj}
    (KG : ∀ b o, b ∉ List.map (·.1) ([] : List (Addr × Obj)) → sh.get? b = some o → g.get? b = some o) (T : KtsTurn ([envX cn cs L a ccd cl].filterMap (·.frame)) g g') (N : News g' L' h [(p, o)]) : sh.get? p = none ∧ h.get? p = some o := by
  have n1 := N _ (.head _)
  refine ⟨?_, n1.1⟩
  cases hq : sh.get? p with
  | none => rfl
  | some o' =>
    obtain ⟨sl, hs⟩ := T.up (KG _ _ (by simp) hq)
    have z := n1.2.2
    dsimp only at z
    rw [hs] at z; cases z
theorem decl_says (w : World) {mean : ExcName → Option Value} {mg mb : Str → Option Value} {dp un : Nat} {gd : Option (List Code)} {cn : Str} {cs : Scope} {a : Addr} {ccd : Value} {cl : List (Str × Addr)} {A₀ : Around} {base h₀ : Heap} {L : Addr} {m : Str → Option Value} {s : Shared} {Q E : Value → Shared → Prop}
    (B : Below A₀ base [] h₀) (F : Fr h₀ L s.heap m) (X : (hd.heap_39 w.params).In h₀) (T : Top hd.view_39 (looseW hd.view_39 []) mean mg mb h₀) (XB : (hd.heap_39 w.params).In base) (TB : Top hd.view_39 (looseW hd.view_39 []) mean mg mb base) (hk : cs.kind = .function) (hdp : dp + 12 < recursionLimit) {x : Str} {tx : Tok} (hlx : x.length ≤ 64)
    (hret : ∀ h' tk' v, ButL h₀ L m s.heap h' → IsD s.heap h' v (declS x) → Q v { s with heap := h', toks := tk' }) :
    wpAny (model PySem.Challenge.rw_xm0654_01.row.prog w) (ktrTop dp un gd cn cs L a ccd cl []) (call (.ref 154) [.str x tx]) Q E s := by
  w_top off
  revert X; k_fill; intro X
  refine wpAny_call ?_
  refine' code_own ?k1 ?k2 ?k3 News.nil ?k5 ?kA ?kF ?kK ?k6 ?k7 ?k8 ?k9 ?kB ?_ ?c2 ?c3 ?c4 ?c5
  (case kA => exact rfl); (case kF => exact rfl); (case kK => assumption); (case k1 => k_asm); (case k2 => k_asm); (case k3 => k_asm); (case k5 => k_asm); (case k6 => k_is); (case k7 => k_is); (case k8 => ktr_room); (case k9 => exact BindsTo.of_eq rfl); (case c5 => decide); (case kB => exact locs rfl); (case c2 => exact rfl); (case c3 => exact rfl); (case c4 => exact rfl)
  intro g' L' h' KG' KS' FG' F' N' B' X' T' l1
  dsimp only at KG' F' N'

  have D' : KtsDicts ([envX cn cs L a ccd cl].filterMap (·.frame)) g' := kd_of FG'
  k_steps
  all_goals (
    (try dsimp only)
    (rename Fr _ _ _ _ => F9)
    first
      | (with_reducible rename KtsTurn _ _ _ => T9; have z9 := butL_T F KG' T9 F9)
      | have z9 := butL_0 F KG' F9
    first
      | exact hret _ _ _ z9 (isD_of (s1 (by with_reducible assumption)) isD_str)
      | (rename News _ _ _ _ => N9; have z8 := newT KG' T9 N9; exact hret _ _ _ z9 (isD_of (s2 (by with_reducible assumption) (by with_reducible assumption)) (isD_ref z8.1 z8.2)))
      | exact hret _ _ _ z9 (isD_of (s3 (by with_reducible assumption) (by with_reducible assumption) (by with_reducible assumption)) isD_str)
      | exact hret _ _ _ z9 (isD_of (s4 (by with_reducible assumption) (by with_reducible assumption) (by with_reducible assumption)) isD_none))
end Mine
end

section
open PySem PySem.W PyProof.Rows PySem.Calls
namespace Mine
local macro_rules | `(tactic| k_room) => `(tactic| ktr_room)
local macro_rules | `(tactic| walk_at "ite") => `(tactic| (k_here; k_closed; first | refine ite_pos (by decide +kernel) ?_ | refine ite_neg (by decide +kernel) ?_))

def chk (x : Str) : Bool :=
  if (Builtin.Str.occurrences x (Str.ofString ":") 0 x.length 1).isEmpty = true then (if (x == Str.ofString "xmlns") = true then declS x == some (some (Str.ofString "")) else declS x == some none)
  else if (Txt.slice x none (some (Txt.find x (Str.ofString ":"))) != Str.ofString "xmlns") = true then declS x == some none
  else if Txt.find x (Str.ofString ":") + 1 < x.length then declS x == some (some (Txt.slice x (some (Txt.find x (Str.ofString ":") + 1)) none)) else declS x == none
theorem chk_all : Ns.all chk = true := by decide +kernel
section
variable {x : Str} (hx : x ∈ Ns)
include hx
theorem c1 (h1 : (Builtin.Str.occurrences x (Str.ofString ":") 0 x.length 1).isEmpty = true) (h2 : (x == Str.ofString "xmlns") = true) : declS x = some (some (Str.ofString "")) := by
  have c := List.all_eq_true.mp chk_all x hx; unfold chk at c; rw [if_pos h1, if_pos h2] at c; exact beq_iff_eq.mp c
theorem c2 (h1 : (Builtin.Str.occurrences x (Str.ofString ":") 0 x.length 1).isEmpty = true) (h2 : (x == Str.ofString "xmlns") = false) : declS x = some none := by
  have c := List.all_eq_true.mp chk_all x hx; unfold chk at c; rw [if_pos h1, if_neg (by rw [h2]; decide)] at c; exact beq_iff_eq.mp c
theorem c4 (h1 : (Builtin.Str.occurrences x (Str.ofString ":") 0 x.length 1).isEmpty = false) (h2 : (Txt.slice x none (some (Txt.find x (Str.ofString ":"))) != Str.ofString "xmlns") = true) : declS x = some none := by
  have c := List.all_eq_true.mp chk_all x hx; unfold chk at c; rw [if_neg (by rw [h1]; decide), if_pos h2] at c; exact beq_iff_eq.mp c
theorem c5 (h1 : (Builtin.Str.occurrences x (Str.ofString ":") 0 x.length 1).isEmpty = false) (h2 : (Txt.slice x none (some (Txt.find x (Str.ofString ":"))) != Str.ofString "xmlns") = false) (h3 : Txt.find x (Str.ofString ":") + 1 < x.length) : declS x = some (some (Txt.slice x (some (Txt.find x (Str.ofString ":") + 1)) none)) := by
  have c := List.all_eq_true.mp chk_all x hx; unfold chk at c; rw [if_neg (by rw [h1]; decide), if_neg (by rw [h2]; decide), if_pos h3] at c; exact beq_iff_eq.mp c
theorem c6 (h1 : (Builtin.Str.occurrences x (Str.ofString ":") 0 x.length 1).isEmpty = false) (h2 : (Txt.slice x none (some (Txt.find x (Str.ofString ":"))) != Str.ofString "xmlns") = false) (h3 : ¬ Txt.find x (Str.ofString ":") + 1 < x.length) : declS x = none := by
  have c := List.all_eq_true.mp chk_all x hx; unfold chk at c; rw [if_neg (by rw [h1]; decide), if_neg (by rw [h2]; decide), if_neg h3] at c; exact beq_iff_eq.mp c
end
theorem emp_no {b : Bool} {P : Prop} (h1 : b = false) (h2 : b = true) : P := by rw [h1] at h2; cases h2
theorem ddue_says (w : World) {mean : ExcName → Option Value} {mg mb : Str → Option Value} {dp un : Nat} {gd : Option (List Code)} {cn : Str} {cs : Scope} {a : Addr} {ccd : Value} {cl : List (Str × Addr)} {outer : List Env} {A₀ : Around} {base h₀ : Heap} {L : Addr} {m : Str → Option Value} {s : Shared} {Q E : Value → Shared → Prop}
    (B : Below A₀ base outer h₀) (F : Fr h₀ L s.heap m) (X : (hd.heap_39 w.params).In h₀) (T : Top hd.view_39 (looseW hd.view_39 []) mean mg mb h₀) (hk : cs.kind = .function) (hdp : dp + 8 < recursionLimit) {x : Str} {tx : Tok} (hx : x ∈ Ns)
    (hret : ∀ h' tk' v, (∀ c o, s.heap.get? c = some o → h'.get? c = some o) → IsD s.heap h' v (declS x) → Q v { s with heap := h', toks := tk' }) :
    wpAny (model PySem.Challenge.rw_xm0654_01.row.prog w) (ktrTop dp un gd cn cs L a ccd cl outer) (call (.ref 161) [.str x tx]) Q E s := by
  have hlx := ns_len' hx
  w_top off
  revert X; k_fill; intro X
  refine wpAny_call ?_
  refine' code_own ?k1 ?k2 ?k3 News.nil ?k5 ?kA ?kF ?kK ?k6 ?k7 ?k8 ?k9 ?kB ?_ ?c2 ?c3 ?c4 ?c5
  (case kA => exact rfl); (case kF => exact rfl); (case kK => assumption); (case k1 => k_asm); (case k2 => k_asm); (case k3 => k_asm); (case k5 => k_asm); (case k6 => k_is); (case k7 => k_is); (case k8 => ktr_room); (case k9 => exact BindsTo.of_eq rfl); (case c5 => decide); (case kB => exact locs rfl); (case c2 => exact rfl); (case c3 => exact rfl); (case c4 => exact rfl)
  intro g' L' h' KG' KS' FG' F' N' B' X' T' l1
  dsimp only at KG' F' N'

  k_steps
  all_goals first
   | exact emp_no (b := (Builtin.Str.occurrences x (Str.ofString ":") 0 x.length 1).isEmpty) (by with_reducible assumption) (by with_reducible assumption)
   | (
    (try dsimp only)
    (rename Fr _ _ _ _ => F9)
    have z9 : ∀ c o, s.heap.get? c = some o → _ := fun c o hc => F9.keep c o (KG' c o (by simp) hc)
    first
      | exact hret _ _ _ z9 (isD_of (c1 hx (by with_reducible assumption) (by with_reducible assumption)) isD_str)
      | exact hret _ _ _ z9 (isD_of (c2 hx (by with_reducible assumption) (by with_reducible assumption)) isD_none)
      | exact hret _ _ _ z9 (isD_of (c4 hx (by with_reducible assumption) (by with_reducible assumption)) isD_none)
      | exact hret _ _ _ z9 (isD_of (c5 hx (by with_reducible assumption) (by with_reducible assumption) (by with_reducible assumption)) isD_str)
      | (rename News _ _ _ _ => N9; have z8 := made_end KG' F9 N9; exact hret _ _ _ z8.1 (isD_of (c6 hx (by with_reducible assumption) (by with_reducible assumption) (by with_reducible assumption)) (isD_ref z8.2.1 z8.2.2))))
end Mine
end

section
open PySem PySem.W PyProof.Rows PySem.Calls
namespace Mine

theorem ref_eqv : (PyData.tuple [PyData.str (Str.ofString "refused")]).eqv (PyData.tuple [PyData.str (Str.ofString "refused")]) = true := by decide +kernel
theorem ne_isD {prog : Program} {w : World} {A : Around} {E : Value → Shared → Prop} {s : Shared} {Q : Value → Shared → Prop} {sh1 sh2 : Heap} {d : Option (Option Str)} {v1 v2 : Value} (hu : A.units + 64 < cLine) (k1 : IsD sh1 s.heap v1 d) (k2 : IsD sh2 s.heap v2 d) (h : Q (.bool false) s) :
    wpAny (model prog w) A (compareOp .NotEq v1 v2) Q E s := by
  match d, k1, k2 with
  | none, ⟨p, t, e1, _, h1⟩, ⟨q, u, e2, _, h2⟩ =>
    subst e1 e2
    exact ne_dataH (reads_tuple_at h1 rfl rfl (.cons (Reads.str _ _) .nil)) (reads_tuple_at h2 rfl rfl (.cons (Reads.str _ _) .nil)) (by first | rfl | decide | decide +kernel) (by first | rfl | decide | decide +kernel) hu (by rw [ref_eqv]; exact h)
  | some none, e1, e2 =>
    have e1' : v1 = .none := e1
    have e2' : v2 = .none := e2
    subst e1' e2'
    exact EqNone.ne_none_none h
  | some (some y), ⟨t, e1⟩, ⟨u, e2⟩ =>
    subst e1 e2
    exact ne_str (by simpa using h)
theorem ne_lit {prog : Program} {w : World} {A : Around} {E : Value → Shared → Prop} {s : Shared} {Q : Value → Shared → Prop} {sh1 h1 : Heap} {x y : Str} {u : Tok} {v1 : Value} (k1 : IsD sh1 h1 v1 (declS x)) (e : declS x = some (some y)) (h : Q (.bool false) s) :
    wpAny (model prog w) A (compareOp .NotEq v1 (.str y u)) Q E s := by
  rw [e] at k1
  obtain ⟨t, rfl⟩ := k1
  exact ne_str (by simpa using h)
theorem isD_keep {sh h h' : Heap} {v : Value} {d : Option (Option Str)} (k : IsD sh h v d) (q : ∀ c o, h.get? c = some o → h'.get? c = some o) : IsD sh h' v d := by
  match d, k with
  | none, ⟨p, t, e, z1, z2⟩ => exact ⟨p, t, e, z1, q _ _ z2⟩
  | some none, e => exact e
  | some (some y), e => exact e
theorem news_butL {h₀ h h' : Heap} {L : Addr} {m : Str → Option Value} {news : List (Addr × Obj)} (N : News h₀ L h news) (z : ButL h₀ L m h h') : News h₀ L h' news :=
  fun p hp => ⟨z.2 _ _ (N p hp).2.1 (N p hp).1, (N p hp).2⟩
theorem pre_ok : PRE.all (fun p => (ncnL.elem p || p.1 == Str.ofString "xml" || p.1 == Str.ofString "xmlns" || p.1 == Str.ofString "") && decide (p.1.length ≤ 64)) = true := by decide +kernel
theorem pre_in {x : Str} {b : Bool} (h : (x, b) ∈ PRE) : (x, b) ∈ ncnL ∨ x = Str.ofString "xml" ∨ x = Str.ofString "xmlns" ∨ x = Str.ofString "" := by
  have := List.all_eq_true.mp pre_ok _ h
  simp only [Bool.and_eq_true, Bool.or_eq_true, beq_iff_eq] at this
  rcases this.1 with ((h | h) | h) | h
  · exact .inl (List.mem_of_elem_eq_true h)
  · exact .inr (.inl h)
  · exact .inr (.inr (.inl h))
  · exact .inr (.inr (.inr h))
theorem pre_len {x : Str} {b : Bool} (h : (x, b) ∈ PRE) : x.length ≤ 64 := by
  have := List.all_eq_true.mp pre_ok _ h
  simp only [Bool.and_eq_true, decide_eq_true_eq] at this
  exact this.2
theorem mem_dec {α : Type} [BEq α] [LawfulBEq α] {a : α} {l : List α} (h : l.elem a = true) : a ∈ l := List.mem_of_elem_eq_true h
def Us : List Str := [Str.ofString "http://www.w3.org/XML/1998/namespace", Str.ofString "http://www.w3.org/2000/xmlns/", Str.ofString "u", Str.ofString "", Str.ofString " ", Str.ofString "http://www.w3.org/XML/1998/namespace/", Str.ofString "http://www.w3.org/2000/xmlns"]
theorem all_len : (Hs ++ Ts ++ Us).all (fun x => decide (x.length ≤ 64)) = true := by decide +kernel
theorem hs_len {x : Str} (h : x ∈ Hs) : x.length ≤ 64 := by simpa using List.all_eq_true.mp all_len x (List.mem_append_left _ (List.mem_append_left _ h))
theorem ts_len {x : Str} (h : x ∈ Ts) : x.length ≤ 64 := by simpa using List.all_eq_true.mp all_len x (List.mem_append_left _ (List.mem_append_right _ h))
theorem us_len {x : Str} (h : x ∈ Us) : x.length ≤ 64 := by simpa using List.all_eq_true.mp all_len x (List.mem_append_right _ h)
theorem ns_mem {x y : Str} (h : x ∈ Hs) (k : y ∈ Ts) : x ++ y ∈ Ns := List.mem_flatMap.mpr ⟨x, h, List.mem_map.mpr ⟨y, k, rfl⟩⟩

theorem let_use (w : World) {mean : ExcName → Option Value} {mg mb : Str → Option Value} {dp un : Nat} {gd : Option (List Code)} {cn : Str} {cs : Scope} {a : Addr} {ccd : Value} {cl : List (Str × Addr)} {A₀ : Around} {base h₀ : Heap} {L : Addr} {m : Str → Option Value} {s : Shared} {Q E : Value → Shared → Prop}
    (B : Below A₀ base [] h₀) (F : Fr h₀ L s.heap m) (X : (hd.heap_39 w.params).In h₀) (T : Top hd.view_39 (looseW hd.view_39 []) mean mg mb h₀) (XB : (hd.heap_39 w.params).In base) (TB : Top hd.view_39 (looseW hd.view_39 []) mean mg mb base) (hk : cs.kind = .function) (hdp : dp + 12 < recursionLimit) {news : List (Addr × Obj)} (N : News h₀ L s.heap news) {x u : Str} {b : Bool} {tx tu : Tok} (hx : (x, b) ∈ PRE) (hlu : u.length ≤ 64)
    (hret : ∀ h' tk', Fr h₀ L h' m → News h₀ L h' news → Q (.bool (vB x b u)) { s with heap := h', toks := tk' }) :
    wpAny (model PySem.Challenge.rw_xm0654_01.row.prog w) (ktrTop dp un gd cn cs L a ccd cl []) (call (.ref 168) [.str x tx, .str u tu]) Q E s := let_says w B F X T XB TB hk hdp (pre_in hx) (pre_len hx) hlu fun h' tk' z => hret h' tk' z.1 (news_butL N z)
theorem due_use (w : World) {mean : ExcName → Option Value} {mg mb : Str → Option Value} {dp un : Nat} {gd : Option (List Code)} {cn : Str} {cs : Scope} {a : Addr} {ccd : Value} {cl : List (Str × Addr)} {outer : List Env} {A₀ : Around} {base h₀ : Heap} {L : Addr} {m : Str → Option Value} {s : Shared} {Q E : Value → Shared → Prop}
    (B : Below A₀ base outer h₀) (F : Fr h₀ L s.heap m) (X : (hd.heap_39 w.params).In h₀) (T : Top hd.view_39 (looseW hd.view_39 []) mean mg mb h₀) (hk : cs.kind = .function) (hdp : dp + 8 < recursionLimit) {news : List (Addr × Obj)} (N : News h₀ L s.heap news) {x u : Str} {b : Bool} {tx tu : Tok}
    (hret : ∀ h' tk', Fr h₀ L h' m → News h₀ L h' news → Q (.bool (vB x b u)) { s with heap := h', toks := tk' }) :
    wpAny (model PySem.Challenge.rw_xm0654_01.row.prog w) (ktrTop dp un gd cn cs L a ccd cl outer) (call (.ref 182) [.str x tx, .bool b, .str u tu]) Q E s := due_says w B F X T hk hdp fun h' tk' q => hret h' tk' (fr_all F q) (news_all N q)
theorem decl_use (w : World) {mean : ExcName → Option Value} {mg mb : Str → Option Value} {dp un : Nat} {gd : Option (List Code)} {cn : Str} {cs : Scope} {a : Addr} {ccd : Value} {cl : List (Str × Addr)} {A₀ : Around} {base h₀ : Heap} {L : Addr} {m : Str → Option Value} {s : Shared} {Q E : Value → Shared → Prop}
    (B : Below A₀ base [] h₀) (F : Fr h₀ L s.heap m) (X : (hd.heap_39 w.params).In h₀) (T : Top hd.view_39 (looseW hd.view_39 []) mean mg mb h₀) (XB : (hd.heap_39 w.params).In base) (TB : Top hd.view_39 (looseW hd.view_39 []) mean mg mb base) (hk : cs.kind = .function) (hdp : dp + 12 < recursionLimit) {news : List (Addr × Obj)} (N : News h₀ L s.heap news) {x : Str} {tx : Tok} (hx : x ∈ Ns)
    (hret : ∀ h' tk' v, Fr h₀ L h' m → News h₀ L h' news → IsD s.heap h' v (declS x) → Q v { s with heap := h', toks := tk' }) :
    wpAny (model PySem.Challenge.rw_xm0654_01.row.prog w) (ktrTop dp un gd cn cs L a ccd cl []) (call (.ref 154) [.str x tx]) Q E s := decl_says w B F X T XB TB hk hdp (ns_len' hx) fun h' tk' v z k => hret h' tk' v z.1 (news_butL N z) k
theorem ddue_use (w : World) {mean : ExcName → Option Value} {mg mb : Str → Option Value} {dp un : Nat} {gd : Option (List Code)} {cn : Str} {cs : Scope} {a : Addr} {ccd : Value} {cl : List (Str × Addr)} {outer : List Env} {A₀ : Around} {base h₀ : Heap} {L : Addr} {m : Str → Option Value} {s : Shared} {Q E : Value → Shared → Prop}
    (B : Below A₀ base outer h₀) (F : Fr h₀ L s.heap m) (X : (hd.heap_39 w.params).In h₀) (T : Top hd.view_39 (looseW hd.view_39 []) mean mg mb h₀) (hk : cs.kind = .function) (hdp : dp + 8 < recursionLimit) {news : List (Addr × Obj)} (N : News h₀ L s.heap news) {x : Str} {tx : Tok} {v₁ : Value} {sh : Heap} (hx : x ∈ Ns) (k₁ : IsD sh s.heap v₁ (declS x))
    (hret : ∀ h' tk' v, Fr h₀ L h' m → News h₀ L h' news → IsD sh h' v₁ (declS x) → IsD s.heap h' v (declS x) → Q v { s with heap := h', toks := tk' }) :
    wpAny (model PySem.Challenge.rw_xm0654_01.row.prog w) (ktrTop dp un gd cn cs L a ccd cl outer) (call (.ref 161) [.str x tx]) Q E s := ddue_says w B F X T hk hdp hx fun h' tk' v q k => hret h' tk' v (fr_all F q) (news_all N q) (isD_keep k₁ q) k
theorem pool_use (w : World) {mean : ExcName → Option Value} {mg mb : Str → Option Value} {dp un : Nat} {gd : Option (List Code)} {cn : Str} {cs : Scope} {a : Addr} {ccd : Value} {cl : List (Str × Addr)} {outer : List Env} {A₀ : Around} {base h₀ : Heap} {L : Addr} {m : Str → Option Value} {s : Shared} {Q E : Value → Shared → Prop}
    (B : Below A₀ base outer h₀) (F : Fr h₀ L s.heap m) (X : (hd.heap_39 w.params).In h₀) (T : Top hd.view_39 (looseW hd.view_39 []) mean mg mb h₀) (hk : cs.kind = .function) (hdp : dp + 3 < recursionLimit) {news : List (Addr × Obj)} (N : News h₀ L s.heap news) {l : Addr} {vs : List Value} {ns : List Int} (hl : h₀.IsList l vs.toArray) (hi : IntsAre vs ns) (hfit : ns.length < 2 ^ 62)
    (hret : ∀ h' tk' r x y tx ty n, Fr h₀ L h' m → News h₀ L h' ((r, listOf #[.int x tx, .int y ty] n) :: news) → GoodSrc [x, y] → Q (.ref r) { s with heap := h', toks := tk' }) :
    wpAny (model PySem.Challenge.rw_xm0654_01.row.prog w) (ktrTop dp un gd cn cs L a ccd cl outer) (call (.ref 133) [.ref l]) Q E s := by
  refine pool_says w B F X T hk hdp hl hi hfit fun h' tk' r x y tx ty n q hr ho a1 a2 a3 => hret h' tk' r x y tx ty n (fr_all F q) (fun p hp => ?_) (good_of a1 a2 a3)
  rcases List.mem_cons.mp hp with rfl | hp
  · refine ⟨ho, fun z => ?_, ?_⟩
    · obtain ⟨oL, _, _, hh, _⟩ := F.ns
      dsimp only at z; rw [← z, hr] at hh; cases hh
    · cases hq : h₀.get? r with
      | none => rfl
      | some o => have := F.keep _ _ hq; rw [hr] at this; cases this
  · exact news_all N q p hp
theorem one_useS (w : World) {mean : ExcName → Option Value} {mg mb : Str → Option Value} {dp un : Nat} {gd : Option (List Code)} {cn : Str} {cs : Scope} {a : Addr} {ccd : Value} {cl : List (Str × Addr)} {outer : List Env} {A₀ : Around} {base h₀ : Heap} {L : Addr} {m : Str → Option Value} {s : Shared} {Q E : Value → Shared → Prop}
    (B : Below A₀ base outer h₀) (F : Fr h₀ L s.heap m) (X : (hd.heap_39 w.params).In h₀) (T : Top hd.view_39 (looseW hd.view_39 []) mean mg mb h₀) (hk : cs.kind = .function) (hdp : dp + 4 < recursionLimit)
    {r th : Addr} {vs : List Value} {ns : List Int} {n : Nat} {its : Array Value} {news : List (Addr × Obj)} {gg : Obj → List (Addr × Obj)} {SS : List Str} (hi : IntsAre vs ns) (hg : GoodSrc ns) (hs1 : 1 ≤ its.size) (hs2 : its.size ≤ 20)
    (hth : s.heap.IsList th its) (hne : th ≠ r)
    (N : News h₀ L s.heap news) (U : UpdF r (listOf vs.toArray n) news gg) (hS : ∀ v ∈ its.toList, ∃ x t, v = Value.str x t ∧ x ∈ SS)
    (hret : ∀ h' tk' x t vs' ns' n', Fr h₀ L h' m → News h₀ L h' (gg (listOf vs'.toArray n')) → IntsAre vs' ns' → GoodSrc ns' → x ∈ SS → Q (.str x t) { s with heap := h', toks := tk' }) :
    wpAny (model PySem.Challenge.rw_xm0654_01.row.prog w) (ktrTop dp un gd cn cs L a ccd cl outer) (call (.ref 147) [.ref r, .ref th]) Q E s := by
  refine one_use w B F X T hk hdp hi hg hs1 hs2 hth hne N U fun h' tk' v vs' ns' n' F' N' a1 a2 hv => ?_
  obtain ⟨x, t, rfl, hx⟩ := hS v hv
  exact hret h' tk' x t vs' ns' n' F' N' a1 a2 hx
theorem prefix_use (w : World) {mean : ExcName → Option Value} {mg mb : Str → Option Value} {dp un : Nat} {gd : Option (List Code)} {cn : Str} {cs : Scope} {a : Addr} {ccd : Value} {cl : List (Str × Addr)} {outer : List Env} {A₀ : Around} {base h₀ : Heap} {L : Addr} {m : Str → Option Value} {s : Shared} {Q E : Value → Shared → Prop}
    (B : Below A₀ base outer h₀) (F : Fr h₀ L s.heap m) (X : (hd.heap_39 w.params).In h₀) (T : Top hd.view_39 (looseW hd.view_39 []) mean mg mb h₀) (hk : cs.kind = .function) (hdp : dp + 5 < recursionLimit)
    {r : Addr} {vs : List Value} {ns : List Int} {n : Nat} {news : List (Addr × Obj)} {gg : Obj → List (Addr × Obj)} (hi : IntsAre vs ns) (hg : GoodSrc ns)
    (N : News h₀ L s.heap news) (U : UpdF r (listOf vs.toArray n) news gg)
    (hret : ∀ (h' : Heap) (tk' : Nat) (p : Nat) x t b vs' ns' n', Fr h₀ L h' m → News h₀ L h' ((p, tupO [.str x t, .bool b]) :: gg (listOf vs'.toArray n')) → IntsAre vs' ns' → GoodSrc ns' → p ≠ r → (x, b) ∈ PRE → Q (.ref p) { s with heap := h', toks := tk' }) :
    wpAny (model PySem.Challenge.rw_xm0654_01.row.prog w) (ktrTop dp un gd cn cs L a ccd cl outer) (call (.ref 175) [.ref r]) Q E s := by
  have n1 := N _ (updF_mem U)
  refine prefix_says w B F X T hk hdp hi hg (fun p hp => by obtain rfl := List.mem_singleton.mp hp; exact n1) fun h' tk' p x t b vs' ns' n' q1 q2 a1 a2 z1 z2 z3 => ?_
  have hpr : p ≠ r := fun z => by have n2 := n1.1; dsimp only at n2; rw [z, n2] at z1; cases z1
  refine hret h' tk' p x t b vs' ns' n' (fr_but F n1.2.2 n1.2.1 q1) (fun c hc => ?_) a1 a2 hpr z3
  rcases List.mem_cons.mp hc with rfl | hc
  · refine ⟨z2, fun z => ?_, ?_⟩
    · obtain ⟨oL, _, _, hh, _⟩ := F.ns
      dsimp only at z; rw [← z, z1] at hh; cases hh
    · cases hq : h₀.get? p with
      | none => rfl
      | some o => have := F.keep _ _ hq; rw [z1] at this; cases this
  · exact news_but N U q1 q2 c hc
end Mine
end

section
open PySem PySem.W PyProof.Rows PySem.Calls Mine
local macro_rules | `(tactic| walk_at "ite") => `(tactic| (k_here; k_closed; first | refine ite_pos (by decide +kernel) ?_ | refine ite_neg (by decide +kernel) ?_))
local macro_rules | `(tactic| walk_at "call ref") => `(tactic| (k_here; (with_reducible show wpAny _ _ (call (Value.ref 168) _) _ _ _); k_dflt (refine' let_use _ ?B ?F ?X ?T ?XB ?TB ?k ?d ?N ?hx ?hl ?_; (case N => k_asm); (case B => k_asm); (case F => k_asm); (case X => k_asm); (case T => k_asm); (case XB => k_asm); (case TB => k_asm); (case k => rfl); (case d => k_room); (case hx => first | with_reducible assumption | exact mem_dec (a := (_, true)) (by decide +kernel)); (case hl => first | exact us_len (by with_reducible assumption) | exact Nat.le_of_ble_eq_true (by decide +kernel)); k_whole); intro h' tk' F' N'; (try dsimp only)))
local macro_rules | `(tactic| walk_at "call ref") => `(tactic| (k_here; (with_reducible show wpAny _ _ (call (Value.ref 182) _) _ _ _); k_dflt (refine' due_use _ ?B ?F ?X ?T ?k ?d ?N ?_; (case N => k_asm); (case B => k_asm); (case F => k_asm); (case X => k_asm); (case T => k_asm); (case k => rfl); (case d => k_room); k_whole); intro h' tk' F' N'; (try dsimp only)))
local macro_rules | `(tactic| walk_at "call ref") => `(tactic| (k_here; (with_reducible show wpAny _ _ (call (Value.ref 154) _) _ _ _); k_dflt (refine' decl_use _ ?B ?F ?X ?T ?XB ?TB ?k ?d ?N ?hx ?_; (case N => k_asm); (case B => k_asm); (case F => k_asm); (case X => k_asm); (case T => k_asm); (case XB => k_asm); (case TB => k_asm); (case k => rfl); (case d => k_room); (case hx => first | exact ns_mem (by with_reducible assumption) (by with_reducible assumption) | exact mem_dec (by decide +kernel)); k_whole); intro h' tk' v' F' N' d'; (try dsimp only)))
local macro_rules | `(tactic| walk_at "call ref") => `(tactic| (k_here; (with_reducible show wpAny _ _ (call (Value.ref 161) _) _ _ _); (with_reducible rename IsD _ _ _ _ => d9); k_dflt (refine' ddue_use _ ?B ?F ?X ?T ?k ?d ?N ?hx d9 ?_; (case N => k_asm); (case B => k_asm); (case F => k_asm); (case X => k_asm); (case T => k_asm); (case k => rfl); (case d => k_room); (case hx => exact ns_mem (by with_reducible assumption) (by with_reducible assumption)); k_whole); clear d9; intro h' tk' v' F' N' d1' d2'; (try dsimp only)))
local macro_rules | `(tactic| walk_at "call ref") => `(tactic| (k_here; (with_reducible show wpAny _ _ (call (Value.ref 133) _) _ _ _); k_dflt (refine' pool_use _ ?B ?F ?X ?T ?k ?d ?N ?hl ?hi ?hf ?_; (case N => k_asm); (case B => k_asm); (case F => k_asm); (case X => k_asm); (case T => k_asm); (case k => rfl); (case d => k_room); (case hl => assumption); (case hi => assumption); (case hf => omega); k_whole); intro h' tk' r' x' y' tx' ty' n' F' N' g'; (try dsimp only)))
local macro_rules | `(tactic| walk_at "call ref") => `(tactic| (k_here; (with_reducible show wpAny _ _ (call (Value.ref 147) _) _ _ _); k_dflt (first
  | (refine' one_useS (SS := Hs) _ ?B ?F ?X ?T ?k ?d ?hi ?hg ?s1 ?s2 ?th ?ne ?N ?U ?hS ?_; (case N => k_asm); (case th => exact News.isList (by k_asm) (by k_mem)); (case U => k_updF); (case B => k_asm); (case F => k_asm); (case X => k_asm); (case T => k_asm); (case k => rfl); (case d => k_room); (case hi => first | assumption | exact src_are _ _ _ _); (case hg => assumption); (case s1 => exact Nat.le_of_ble_eq_true rfl); (case s2 => exact Nat.le_of_ble_eq_true rfl); (case ne => k_ne); (case hS => repeat (first | exact List.forall_mem_nil _ | refine List.forall_mem_cons.mpr ⟨⟨_, _, rfl, mem_dec (by decide +kernel)⟩, ?_⟩)); k_whole)
  | (refine' one_useS (SS := Ts) _ ?B ?F ?X ?T ?k ?d ?hi ?hg ?s1 ?s2 ?th ?ne ?N ?U ?hS ?_; (case N => k_asm); (case th => exact News.isList (by k_asm) (by k_mem)); (case U => k_updF); (case B => k_asm); (case F => k_asm); (case X => k_asm); (case T => k_asm); (case k => rfl); (case d => k_room); (case hi => first | assumption | exact src_are _ _ _ _); (case hg => assumption); (case s1 => exact Nat.le_of_ble_eq_true rfl); (case s2 => exact Nat.le_of_ble_eq_true rfl); (case ne => k_ne); (case hS => repeat (first | exact List.forall_mem_nil _ | refine List.forall_mem_cons.mpr ⟨⟨_, _, rfl, mem_dec (by decide +kernel)⟩, ?_⟩)); k_whole)
  | (refine' one_useS (SS := Us) _ ?B ?F ?X ?T ?k ?d ?hi ?hg ?s1 ?s2 ?th ?ne ?N ?U ?hS ?_; (case N => k_asm); (case th => exact News.isList (by k_asm) (by k_mem)); (case U => k_updF); (case B => k_asm); (case F => k_asm); (case X => k_asm); (case T => k_asm); (case k => rfl); (case d => k_room); (case hi => first | assumption | exact src_are _ _ _ _); (case hg => assumption); (case s1 => exact Nat.le_of_ble_eq_true rfl); (case s2 => exact Nat.le_of_ble_eq_true rfl); (case ne => k_ne); (case hS => repeat (first | exact List.forall_mem_nil _ | refine List.forall_mem_cons.mpr ⟨⟨_, _, rfl, mem_dec (by decide +kernel)⟩, ?_⟩)); k_whole)); intro h' tk' x' t' vs' ns' n' F' N' a1' a2' a3'; (try dsimp only at N'); (try dsimp only)))
local macro_rules | `(tactic| walk_at "call ref") => `(tactic| (k_here; (with_reducible show wpAny _ _ (call (Value.ref 175) _) _ _ _); k_dflt (refine' prefix_use _ ?B ?F ?X ?T ?k ?d ?hi ?hg ?N ?U ?_; (case N => k_asm); (case U => k_updF); (case B => k_asm); (case F => k_asm); (case X => k_asm); (case T => k_asm); (case k => rfl); (case d => k_room); (case hi => first | assumption | exact src_are _ _ _ _); (case hg => assumption); k_whole); intro h' tk' p' x' t' b' vs' ns' n' F' N' a1' a2' z1' z2'; (try dsimp only at N'); (try dsimp only)))
local macro_rules | `(tactic| walk_at "compareOp NotEq") => `(tactic| (k_here; k_dflt (refine' ne_isD ?u ?k1 ?k2 ?_; (case k1 => with_reducible assumption); (case k2 => with_reducible assumption); (case u => exact Nat.le_of_ble_eq_true rfl))))
local macro_rules | `(tactic| walk_at "compareOp NotEq") => `(tactic| (k_here; (with_reducible show wpAny _ _ (compareOp CmpOp.NotEq _ (Value.str _ _)) _ _ _); k_dflt (refine' ne_lit ?k1 ?k2 ?_; (case k1 => with_reducible assumption); (case k2 => decide +kernel))))
local macro_rules | `(tactic| walk_at "binaryOp Add str str") => `(tactic| (k_here; k_dflt (refine' add_small (Nat.le_trans (hs_len (by with_reducible assumption)) (by decide)) (Nat.le_trans (ts_len (by with_reducible assumption)) (by decide)) ?_; k_whole); intro t' tk'))

theorem PySem.Challenge.cw_xm0654_01_holds : PySem.Challenge.rw_xm0654_01.Holds := by
  refine hd ?_
  w_strict (
    (k_with "exec For Name Call cons nil" => kpr_for)
    (k_with "pyIter ref" => k_state_short (fun _ ns => GoodSrc ns) "source")
    k_go)
end

