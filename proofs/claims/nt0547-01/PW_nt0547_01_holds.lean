import PyProof.Rows.All
import Wide.All
import OpenK.AllK
import Wide.FinOn
import Lean
import PySem.Challenge.RW_nt0547_01
open PySem PySem.W PyProof.Rows PySem.Calls
set_option Elab.async false
set_option maxRecDepth 100000
namespace Mine
section
open Builtin Builtin.ObjectAttr
open Sem (wp)
abbrev excObj (C t : Addr) : Obj := { cls := .ref C, data := .fields #[.ref t, .none, .none, .none, .bool false, .none] }
abbrev tupObj (vs : List Value) : Obj := { cls := .type "tuple", data := .seq vs.toArray }

section
variable {prog : Program} {w : World} {A : Around} {R : Result → Shared → Prop} {h : Heap} {g : Array GenState} {d : Drawn} {t : Nat} {os : OsState}
variable {nm q : Str} {C N : Addr} {bs bm : List Value} {hdct : Bool} {sn : List Str} {sub : List Value} {ab : Bool} {col : Option Bool} {dd : Option Addr} {k0 k1 k2 k3 k5 : Option Value}

theorem exc_check_new {M : Model} {E : Value → Shared → Prop} {rest : List Value} {Q : Unit → Shared → Prop} (hcB : (Value.ref C :: bm).contains (.type "Exception") = true)
    (hC : h.get? C = some (excClassObj nm q C N bs bm hdct sn sub ab col dd k0 k1 k2 k3 k5 "Exception.__new__"))
    (hq : Q () ⟨h, g, d, t, os⟩) : wpAny M A (checkBuiltinCall "Exception.__new__" ⟨.ref C :: rest, []⟩) Q E ⟨h, g, d, t, os⟩ := by
  have Fn := PySem.F.excBase_Exception
  have hstar := Fn.noStar
  simp only [checkBuiltinCall, Fn.newKind, Fn.newSplit, Fn.newRow]
  repeat (first | refine wpAny_loadPart_at hC ?_ | (refine wpAny_isSubtype_exc hC ?_; rw [hcB]) | refine wpAny_staticBase_exc hC ?_ | refine wpAny_madeBy_exc hC ?_ | simp only [bne_self_eq_false, Bool.false_eq_true, if_false] | wp_step)
  exact hq

theorem exc_new {rest : List Value} (hcB : (Value.ref C :: bm).contains (.type "Exception") = true) (hcA : (Value.ref C :: bm).contains (.type "AttributeError") = false)
    (hcN : (Value.ref C :: bm).contains (.type "NameError") = false)
    (hC : h.get? C = some (excClassObj nm q C N bs bm hdct sn sub ab col dd k0 k1 k2 k3 k5 "Exception.__new__"))
    (hq : R (.ok (.ret (.ref (h.objs.size + 1)))) ⟨(h.push (tupObj rest)).push (excObj C h.objs.size), g, d, t, os⟩) (hrest : rest.length ≤ sizeLine) :
    codeAny (model prog w) A (.builtin "Exception.__new__" ⟨.ref C :: rest, []⟩) R ⟨h, g, d, t, os⟩ := by
  have Fn := PySem.F.excBase_Exception
  have hends := Fn.ends
  refine codeAny_builtinAt Fn.entry ?_
  unfold Builtin.«BaseException.__new__»
  refine PySem.wpAt_bind ?_
  show PySem.wpAt _ _ _ (stack >>= _) _ _ _
  refine PySem.wpAt_bind (PySem.wpAt_stack fun p below => PySem.wpAt_of_wpAny ?_)
  wp_walk
  refine PySem.wpAt_of_wpAny ?_
  rw [Fn.owner]
  repeat (first | with_reducible refine wpAny_madeHere_exc Fn.canon hC ?_ | with_reducible refine wpAny_loadPart_at hC ?_ | (with_reducible refine wpAny_isSubtype_exc hC ?_; first | rw [hcB] | rw [hcA] | rw [hcN]) | wp_step)
  show R _ _
  rw [Heap.size_push]
  exact hq

theorem exc_make {K : Frag} {rest : List Value} {fI : Addr} (X : K.In h) (hcB : (Value.ref C :: bm).contains (.type "Exception") = true) (hcA : (Value.ref C :: bm).contains (.type "AttributeError") = false)
    (hcN : (Value.ref C :: bm).contains (.type "NameError") = false)
    (hC : h.get? C = some (excClassObj nm q C N bs bm hdct sn sub ab col dd k0 k1 k2 k3 k5 "Exception.__new__"))
    (hi : findIn K (.ref C) "__init__" = some (some (.ref fI))) (hf : typeIn K (.ref fI) = some (.type "function")) (hrest : rest.length ≤ sizeLine)
    (hq : codeAny (model prog w) (A.under (.builtin "type.__call__" ⟨.ref C :: rest, []⟩)) (.call (.ref fI) ⟨.ref (h.objs.size + 1) :: rest, []⟩) (InitBack (h.objs.size + 1) R)
      ⟨(h.push (tupObj rest)).push (excObj C h.objs.size), g, d, t, os⟩) :
    codeAny (model prog w) A (.call (.ref C) ⟨rest, []⟩) R ⟨h, g, d, t, os⟩ := by
  have Fn := PySem.F.excBase_Exception
  have f1 := tc_lookup
  have f2 := tc_bind (.ref C)
  have hT : (⟨h, g, d, t, os⟩ : Shared).TypeIs (.ref C) "type" := ⟨_, hC, rfl⟩
  refine codeAny_of_tree ?_
  show wpAny _ _ (callAny (.ref C) _) _ _ _
  repeat (any_goals (first | assumption | with_reducible refine wpAny_loadPart_at hC ?_ | wp_step))
  refine ⟨rfl, ?_⟩
  refine codeAny_call_builtin_at (Code.quiet_builtin _ (by decide +kernel)) entry_typeCall (wpAny_check_type_call_sub hC ?_)
  repeat (first | with_reducible refine wpAny_loadPart_at hC ?_ | with_reducible refine wpAny_madeBy_exc hC ?_ | wp_step)
  refine codeAny_call_builtin_code (Code.quiet_builtin _ Fn.quiet) (exc_check_new hcB hC ?_)
  refine exc_new hcB hcA hcN hC ?_ hrest
  show wpAny _ _ _ _ _ _
  have k : ∀ b o, h.get? b = some o → ((h.push (tupObj rest)).push (excObj C h.objs.size)).get? b = some o := fun b o e => Heap.get?_push_of_some _ (Heap.get?_push_of_some _ e)
  have hC₁ := k _ _ hC
  have X₁ := X.keeps k
  have hget : ((h.push (tupObj rest)).push (excObj C h.objs.size)).get? (h.objs.size + 1) = some (excObj C h.objs.size) := by heap_get
  have hcC : (Value.ref C :: bm).contains (.ref C) = true := by simp
  unfold isInstance
  repeat (first | (with_reducible refine wpAny_loadPart_at hget ?_) | (refine wpAny_isSubtype_exc hC₁ ?_; rw [hcC]) | wp_step)
  have i1 : Looks (model prog w) ((h.push (tupObj rest)).push (excObj C h.objs.size)) (typeLookup (.ref C) "__init__") (some (.ref fI)) := looks_findIn X₁ hi
  have b1 : Looks (model prog w) ((h.push (tupObj rest)).push (excObj C h.objs.size)) (bindSpecial (.ref fI) (.ref (h.objs.size + 1))) (.ref fI, [.ref (h.objs.size + 1)]) := bind_fn X₁ _ hf
  refine i1.here ?_
  refine wpAny_holding (wpAny_bind (b1.here ?_))
  refine wpAny_bind (wpAny_call (codeAny_mono hq fun r s' z => ?_))
  rcases r with e | (v | _ | _ | _) <;> first | exact z | exact z.elim | skip
  obtain ⟨rfl, z⟩ := z
  exact wpAny_pure (wpAny_pure z)
end

section
variable {prog : Program} {w : World} {A : Around} {E : Value → Shared → Prop} {h : Heap} {g : Array GenState} {d : Drawn} {t : Nat} {os : OsState}
variable {nm q : Str} {C N : Addr} {bs bm : List Value} {hdct : Bool} {sn : List Str} {sub : List Value} {ab : Bool} {col : Option Bool} {dd : Option Addr} {k0 k1 k2 k3 k5 : Option Value}

theorem exc_check_init {M : Model} {e : Addr} {oe : Obj} {rest : List Value} {Q : Unit → Shared → Prop} (hcB : (Value.ref C :: bm).contains (.type "Exception") = true)
    (hC : h.get? C = some (excClassObj nm q C N bs bm hdct sn sub ab col dd k0 k1 k2 k3 k5 "Exception.__new__")) (he : h.get? e = some oe) (hcls : oe.cls = .ref C) (hq : Q () ⟨h, g, d, t, os⟩) :
    wpAny M A (checkBuiltinCall "Exception.__init__" ⟨.ref e :: rest, []⟩) Q E ⟨h, g, d, t, os⟩ := by
  have F := PySem.F.excBase_Exception
  have hshort := F.noStar
  simp only [checkBuiltinCall, F.initKind, F.initSplit, F.initRow]
  repeat (first | (with_reducible refine wpAny_loadPart_at he ?_; rw [hcls]) | with_reducible refine wpAny_loadPart_at hC ?_ | (with_reducible refine wpAny_isSubtype_exc hC ?_; rw [hcB]) | wp_step)
  refine wpAny_onRaise ?_
  rw [show ∀ (a b : String) (n : Nat), Bind.check ⟨.positional, "*", "Exception", .self, [⟨"args", .varPos, false⟩]⟩ a b n (List.map (fun x => x.fst) ({ pos := Value.ref e :: rest } : Args).kw) = pure () from
    fun a b n => check_star_args _ _ _ _ _ _]
  exact wpAny_pure hq

theorem exc_init_call {e t0 : Addr} {v : Value} {Q : Value → Shared → Prop} (hcB : (Value.ref C :: bm).contains (.type "Exception") = true)
    (hC : h.get? C = some (excClassObj nm q C N bs bm hdct sn sub ab col dd k0 k1 k2 k3 k5 "Exception.__new__")) (he : h.get? e = some (excObj C t0))
    (hq : Q .none ⟨(h.push (tupObj [v])).update e (Obj.mapFields (·.setIfInBounds 0 (.ref h.objs.size))), g, d, t, os⟩) :
    wpAny (model prog w) A (call (.builtin "Exception.__init__") [.ref e, v]) Q E ⟨h, g, d, t, os⟩ := by
  have F := PySem.F.excBase_Exception
  refine wpAny_call (codeAny_call_builtin F.init.plain F.initEntry (exc_check_init hcB hC he rfl ?_))
  wp_walk
  exact hq

theorem exc_store {K : Frag} {e : Addr} {oe : Obj} {vs : Array Value} {name : Str} {v : Value} {Q : Unit → Shared → Prop} (X : K.In h)
    (hC : h.get? C = some (excClassObj nm q C N bs bm true sn sub ab col dd k0 k1 k2 k3 k5 "Exception.__new__"))
    (hs : findIn K (.ref C) "__setattr__" = some (some (.builtin "object.__setattr__"))) (hna : findIn K (.ref C) name = some none)
    (hcO : (Value.ref C :: bm).contains (.type "object") = true) (hpass : ∀ self : Value, refuseLoop self "__setattr__" (.ref C :: bm) = pure ())
    (he : h.get? e = some oe) (hcls : oe.cls = .ref C) (hdat : oe.data = .fields vs) (hdn : oe.dict = none)
    (hq : ∀ h' tk' dx, (∀ b o, b ≠ e → h.get? b = some o → h'.get? b = some o) → h'.get? e = some { oe with dict := some dx } → Q () ⟨h', g, d, tk', os⟩) :
    wpAny (model prog w) A (setAttr (.ref e) name v) Q E ⟨h, g, d, t, os⟩ := by
  have SF := PySem.F.store_Exception
  have I : InstAt h e oe C none := ⟨he, hcls, by unfold notCls; rw [hdat], by rw [hdn]; trivial⟩
  refine set_plain X I hs ?_
  have sub1 : Looks (model prog w) h (isInstance (.ref e) (.type "object")) true := I.type.andThen (by
    intro A Q E s k q
    refine wpAny_isSubtype_exc (k _ _ hC) ?_
    rw [hcO]; exact q)
  refine codeAny_call_builtin SF.slot.plain SF.entry (@check_slot (model prog w) _ _ _ "object.__setattr__" "object" "__setattr__" (.ref e) _ [] _ SF.kind SF.split sub1 (SF.args (.ref e) _ v) ?_)
  have L2 : Looks (model prog w) h (typeLookup (.ref C) name) none := looks_findIn X hna
  have hm : Looks (model prog w) h (mroOf (.ref C)) (.ref C :: bm) := by
    intro A Q E s k q
    exact wpAny_mroOf_exc (k _ _ hC) q
  rw [osa_eq, refuse_eq]
  refine wpAny_bind (wpAny_bind (I.type.here (wpAny_bind (hm.here ?_))))
  rw [hpass]
  refine wpAny_pure (wpAny_bind (I.type.here (wpAny_bind (L2.here (wpAny_bind ?_)))))
  show wpAny _ _ (storeTaker? none) _ _ _
  refine wpAny_pure ?_
  dsimp only
  repeat (first | (with_reducible refine wpAny_loadPart_at he ?_; rw [hcls]) | with_reducible refine wpAny_loadPart_at hC ?_ | wp_step)
  rw [hdn, if_neg (by simp [typeHasDict])]
  split
  · rename_i hcd
    cases hcd
  split
  · rename_i c hcd
    rw [hdat] at hcd
    cases hcd
  have he₁ : (h.push { cls := .type "dict", data := .dict #[] }).get? e = some oe := Heap.get?_push_of_some _ he
  have hes : e ≠ h.objs.size := Nat.ne_of_lt (Heap.lt_size he)
  refine wpAny_bind (wpAny_alloc' ?_)
  refine wpAny_bind (wpAny_update' he₁ ?_)
  refine wpAny_pure ?_
  have hgd : ((h.push { cls := .type "dict", data := .dict #[] }).update e fun o => { cls := o.cls, dict := some h.objs.size, data := o.data, slots := o.slots }).get? h.objs.size
      = some { cls := .type "dict", data := .dict #[] } :=
    (Heap.get?_update_ne _ _ _ _ hes.symm).trans (Heap.get?_push_at rfl rfl)
  have hnd : ((h.push { cls := .type "dict", data := .dict #[] }).update e fun o => { cls := o.cls, dict := some h.objs.size, data := o.data, slots := o.slots }).Ns h.objs.size (fun _ => none) :=
    ⟨_, #[], _, hgd, rfl, fun e he => absurd he (by simp), fun _ => rfl⟩
  show wpAny _ _ (storeInDict h.objs.size _ name v) _ _ _
  unfold storeInDict newKeyGuard
  refine wpAny_bind (wpAny_pure (wpAny_bind (wpAny_nsSet1 (Heap.Ns1.of_empty hnd) fun h' hn' hs => ?_)))
  obtain ⟨oD, esD, epD, hoD, hdD, hcD⟩ := hn'.count (Within.cons name v Within.nil)
  refine wpAny_bind (wpAny_lookBehind hoD (by rw [hdD]; exact pastItsLine_dict (Nat.le_trans hcD (by rw [List.length_cons, List.length_nil, sizeLine_eq]; omega))) ?_)
  wp_walk
  refine hq h' _ h.objs.size (fun b o hbe hb => ?_) ?_
  · exact (hs.2 b (Nat.ne_of_lt (Heap.lt_size hb))).trans ((Heap.get?_update_ne _ _ _ _ hbe).trans (Heap.get?_push_of_some _ hb))
  · refine (hs.2 e hes).trans (Heap.get?_update_self _ he₁ ?_)
    obtain ⟨oc, od, odt, osl⟩ := oe
    dsimp only at hdat
    subst hdat
    rfl
end


/-- an exception that flies above the frames l; the ledger stands -/
def RaisedM (base G : Heap) (l : List Env) (e : Addr) (cls : Value) (news : List (Addr × Obj)) (h : Heap) : Prop :=
  ∃ B a0, base.StaysIn B ∧ (∀ b o, G.get? b = some o → b ∉ l.filterMap (·.frame) → B.get? b = some o) ∧ (∀ q ∈ news, B.get? q.1 = some q.2 ∧ G.get? q.1 = none ∧ base.get? q.1 = none) ∧ Heap.FlyingW B l e cls a0 h

abbrev bmE : List Value := [.type "Exception", .type "BaseException", .type "object"]
/-- what the written heap says of an own exception class C whose __init__ is the def fI -/
structure ExcC (K : Frag) (C P fI : Addr) : Prop where
  obj : ∃ nm q N bs sn sub ab col dd k0 k1 k2 k3 k5, K.lookup C = some (excClassObj nm q C N bs (.ref P :: bmE) true sn sub ab col dd k0 k1 k2 k3 k5 "Exception.__new__")
  init : findIn K (.ref C) "__init__" = some (some (.ref fI))
  fn : typeIn K (.ref fI) = some (.type "function")
  store : findIn K (.ref C) "__setattr__" = some (some (.builtin "object.__setattr__"))
  msg : findIn K (.ref C) "message" = some none

theorem c_has (C P : Addr) {T : String} (h : bmE.contains (.type T) = true) : (Value.ref C :: .ref P :: bmE).contains (.type T) = true := by
  rw [List.contains_cons, List.contains_cons, h]; simp
theorem c_not (C P : Addr) {T : String} (h : bmE.contains (.type T) = false) : (Value.ref C :: .ref P :: bmE).contains (.type T) = false := by
  rw [List.contains_cons, List.contains_cons, h]; rfl

section
variable {prog : Program} {w : World} {A A₀ : Around} {E : Value → Shared → Prop} {s : Shared} {K : Frag} {C P fI L : Addr} {h₀ base : Heap} {m : Str → Option Value} {news : List (Addr × Obj)}

abbrev excObjD (C t dx : Addr) : Obj := { cls := .ref C, dict := some dx, data := .fields #[.ref t, .none, .none, .none, .bool false, .none] }

theorem exc_make_K {v : Value} {R : Result → Shared → Prop} (F : Fr h₀ L s.heap m) (N : News h₀ L s.heap news) (X₀ : K.In h₀) (Z : ExcC K C P fI)
    (h : ∀ e t h', Fr h₀ L h' m → News h₀ L h' ((e, excObj C t) :: news) → (∀ p ∈ news, p.1 ≠ e) →
      codeAny (model prog w) (A.under (.builtin "type.__call__" ⟨[.ref C, v], []⟩)) (.call (.ref fI) ⟨[.ref e, v], []⟩) (InitBack e R) { s with heap := h' }) :
    codeAny (model prog w) A (.call (.ref C) ⟨[v], []⟩) R s := by
  obtain ⟨hp, g, d, t, os⟩ := s
  have X := X₀.keeps F.keep
  obtain ⟨nm, q, N', bs, sn, sub, ab, col, dd, k0, k1, k2, k3, k5, hC⟩ := Z.obj
  refine exc_make X (c_has C P (by decide)) (c_not C P (by decide)) (c_not C P (by decide)) (X _ _ hC) Z.init Z.fn (by rw [sizeLine_eq]; exact Nat.le_of_ble_eq_true rfl) (h _ hp.objs.size _ ((F.push _).push _) ?_ ?_)
  · have N1 := (N.push F (tupObj [v])).push (F.push _) (excObj C hp.objs.size)
    rw [Heap.size_push] at N1
    intro p hp'
    rcases List.mem_cons.mp hp' with rfl | hp'
    · exact N1 _ (.head _)
    · exact N1 _ (.tail _ (.tail _ hp'))
  · intro p hp' q
    have this := Heap.lt_size (N p hp').1
    exact Nat.ne_of_lt (Nat.lt_succ_of_lt this) q

theorem exc_init_K {e t0 : Addr} {v : Value} {Q : Value → Shared → Prop} (F : Fr h₀ L s.heap m) (N : News h₀ L s.heap ((e, excObj C t0) :: news)) (X₀ : K.In h₀) (Z : ExcC K C P fI) (hne : ∀ p ∈ news, p.1 ≠ e)
    (h : ∀ h' t, Fr h₀ L h' m → News h₀ L h' ((e, excObj C t) :: news) → Q .none { s with heap := h' }) :
    wpAny (model prog w) A (call (.builtin "Exception.__init__") [.ref e, v]) Q E s := by
  obtain ⟨hp, g, d, t, os⟩ := s
  have X := X₀.keeps F.keep
  obtain ⟨nm, q, N', bs, sn, sub, ab, col, dd, k0, k1, k2, k3, k5, hC⟩ := Z.obj
  have N1 := N.push F (tupObj [v])
  have N2 : News h₀ L (hp.push (tupObj [v])) ([] ++ (e, excObj C t0) :: news) := fun p hp' => N1 p (.tail _ hp')
  obtain ⟨U1, U2⟩ := news_upd (f := Obj.mapFields (·.setIfInBounds 0 (.ref hp.objs.size))) (o' := excObj C hp.objs.size) (F.push _) N2 (fun _ h => nomatch h) hne rfl rfl
  exact exc_init_call (c_has C P (by decide)) (X _ _ hC) (N _ (.head _)).1 (h _ _ U1 U2)

theorem exc_store_K {e t0 : Addr} {v : Value} {Q : Unit → Shared → Prop} (F : Fr h₀ L s.heap m) (N : News h₀ L s.heap ((e, excObj C t0) :: news)) (X₀ : K.In h₀) (Z : ExcC K C P fI) (hne : ∀ p ∈ news, p.1 ≠ e)
    (h : ∀ h' tk' dx, Fr h₀ L h' m → News h₀ L h' ((e, excObjD C t0 dx) :: news) → Q () { s with heap := h', toks := tk' }) :
    wpAny (model prog w) A (setAttr (.ref e) "message" v) Q E s := by
  obtain ⟨hp, g, d, t, os⟩ := s
  have X := X₀.keeps F.keep
  obtain ⟨nm, q, N', bs, sn, sub, ab, col, dd, k0, k1, k2, k3, k5, hC⟩ := Z.obj
  have he := N _ (.head _)
  refine exc_store X (X _ _ hC) Z.store Z.msg (c_has C P (by decide)) (fun self => ?_) he.1 rfl rfl rfl fun h' tk' dx hk hx => ?_
  · rw [refuseLoop_ref, refuseLoop_ref]; exact PySem.F.store_Exception.passes self
  · refine h h' tk' dx ⟨?_, fun b o q => hk b o (fun z => ?_) (F.keep b o q), F.above⟩ fun p hp' => ?_
    · obtain ⟨oL, es, ep, hL, r⟩ := F.ns
      exact ⟨oL, es, ep, hk L oL (Ne.symm he.2.1) hL, r⟩
    · rw [z, he.2.2] at q; cases q
    · rcases List.mem_cons.mp hp' with rfl | hp'
      · exact ⟨hx, he.2⟩
      · have hp1 := N p (.tail _ hp')
        exact ⟨hk _ _ (hne p hp') hp1.1, hp1.2⟩
end

section
variable {M : Model} {A : Around} {E : Value → Shared → Prop} {s' : Shared} {base g g₂ h : Heap} {outer : List Env} {L a e t dx C : Addr} {m : Str → Option Value} {name : Str} {scope : Scope} {cd : Value} {Q : Unit → Shared → Prop} {news : List (Addr × Obj)}

theorem leave_raiseM (K : Below A base outer g) (F : Fr g L s'.heap m) (N : News g L s'.heap ((e, excObjD C t dx) :: news)) (hne : ∀ p ∈ news, p.1 ≠ e)
    (hQ : ∀ h', RaisedM base g outer e (.ref C) news h' → g.UpToSlots h' → Q () { s' with heap := h' }) (hk : scope.kind = .function := by rfl) :
    wpAny M (A.deeper (envOf name scope L a cd)) (leaving (envOf name scope L a cd) (.ref e)) Q E s' := by
  have K' := K.push (name := name) (a := a) (cd := cd) F hk
  have he := N _ (.head _)
  have hin : ∀ env ∈ (envOf name scope L a cd :: outer), ∀ b, env.frame = some b → b ∈ (envOf name scope L a cd :: outer).filterMap (·.frame) := fun env he b hb => List.mem_filterMap.mpr ⟨env, he, hb⟩
  let as := e :: (envOf name scope L a cd :: outer).filterMap (·.frame)
  have st : base.StaysIn (hideAll s'.heap as) := fun b o q => hideAll_get _ (K'.stays b o q) fun hm => by
    rcases List.mem_cons.mp hm with z | hm
    · have := K.stays b o q
      rw [z, he.2.2] at this; cases this
    · rw [(K'.frames.mem hm).1] at q; cases q
  have sg : ∀ b o, g.get? b = some o → b ∉ outer.filterMap (·.frame) → (hideAll s'.heap as).get? b = some o := fun b o q nm => hideAll_get _ (F.keep b o q) fun hm => by
    rcases List.mem_cons.mp hm with z | hm
    · rw [z, he.2.2] at q; cases q
    · rcases kts_mem hm with z | z
      · rw [z, kts_self F] at q
        cases q
      · exact nm z
  have hl : ∀ q ∈ news, (hideAll s'.heap as).get? q.1 = some q.2 ∧ g.get? q.1 = none ∧ base.get? q.1 = none := fun q hq => by
    have hq' := N q (.tail _ hq)
    refine ⟨hideAll_get _ hq'.1 fun hm => ?_, hq'.2.2, fresh_of_stays K.stays hq'.2.2⟩
    rcases List.mem_cons.mp hm with z | hm
    · exact hne q hq z
    obtain ⟨env, he, hf⟩ := List.mem_filterMap.mp hm
    rcases List.mem_cons.mp he with rfl | he
    · exact hq'.2.1 (Option.some.inj hf).symm
    · obtain ⟨o, ho, _⟩ := (K.frames.mem (List.mem_filterMap.mpr ⟨env, he, hf⟩)).2
      rw [hq'.2.2] at ho; cases ho
  have hff : s'.heap.FunFrames (hideAll s'.heap as) (envOf name scope L a cd :: outer) := by
    have f1 := K'.frames
    have : ∀ {l : List Env}, s'.heap.FunFrames base l → (∀ env ∈ l, ∀ b, env.frame = some b → b ∈ as) → s'.heap.FunFrames (hideAll s'.heap as) l := by
      intro l
      induction l with
      | nil => intro _ _; trivial
      | cons env r ih =>
        rintro ⟨hk, ⟨L, o, hf, _, ho, hd⟩, hr⟩ hin
        exact ⟨hk, ⟨L, o, hf, hideAll_none _ (hin env (.head _) L hf), ho, hd⟩, ih hr fun e he => hin e (.tail _ he)⟩
    exact this f1 fun env he b hb => .tail _ (hin env he b hb)
  refine wpAny_leaving_firstW (base := hideAll s'.heap as) (a0 := .ref t) K'.stack hff rfl he.1 (fun b o q => of_hideAll _ q) (hideAll_none _ (.head _)) rfl rfl rfl fun h' hL => ?_
  obtain ⟨k1, ⟨_, _, k2⟩, k3, k4⟩ := hL
  exact hQ h' ⟨_, .ref t, st, sg, hl, k1, hideAll_none _ (.head _), k2, k3⟩ ((Heap.UpToSlots.of_keeps F.keep).trans k4)

theorem leave_onM {cls : Value} (K : Below A base outer g) (F : Fr g L g₂ m) (R : RaisedM base g₂ (envOf name scope L a cd :: outer) e cls news s'.heap) (hsm : g₂.UpToSlots s'.heap)
    (hQ : ∀ h', RaisedM base g outer e cls news h' → g.UpToSlots h' → Q () { s' with heap := h' }) :
    wpAny M (A.deeper (envOf name scope L a cd)) (leaving (envOf name scope L a cd) (.ref e)) Q E s' := by
  obtain ⟨B, a0, hB, hBG, hl, hfl⟩ := R
  exact wpAny_leaves_onW (Around.frames_deeper K.stack) rfl hfl fun h' x1 x2 =>
    hQ h' ⟨B, a0, hB, fun b o q nm => hBG b o (F.keep b o q) (fun hm => by
      rcases kts_mem hm with z | z
      · rw [z, kts_self F] at q
        cases q
      · exact nm z), fun q hq => ⟨(hl q hq).1, kts_none F.keep (hl q hq).2.1, (hl q hq).2.2⟩, x1⟩ ((Heap.UpToSlots.of_keeps F.keep).trans (hsm.trans x2))
end

section
variable {M : Model} {A : Around} {E : Value → Shared → Prop} {s : Shared} {K : Frag} {C P fI L : Addr} {h₀ : Heap} {m : Str → Option Value} {env : Env}

def RaiseAt (K : Frag) (C : Addr) (E : Value → Shared → Prop) (v : Value) (s₁ : Shared) : Prop :=
  ∃ e t dx, v = .ref e ∧ K.In s₁.heap ∧ s₁.heap.get? e = some (excObjD C t dx) ∧ E (.ref e) s₁

theorem raise_own {x : PySem.Expr} {pos : Pos} {Q : Flow → Shared → Prop} (Z : ExcC K C P fI) (hh : A.handled = none)
    (h : wpAny M A (eval x env) (RaiseAt K C E) E s) :
    wpAny M A (exec (.Raise (some x) none pos) env) Q E s := by
  rw [arm_exec_Raise]
  refine wpAny_bind (wpAny_standAt ?_)
  unfold raiseStmt
  refine wpAny_bind ?_
  refine wpAny_bind (wpAny_mono h (fun v s₁ h₁ => wpAny_bind (wpAny_standAt (wpAny_pure ?_))) fun _ _ x => x)
  obtain ⟨e, t, dx, rfl, X, he, hE⟩ := h₁
  obtain ⟨nm, q, N', bs, sn, sub, ab, col, dd, k0, k1, k2, k3, k5, hC'⟩ := Z.obj
  have hC := X _ _ hC'
  obtain ⟨hp, g, d, tk, os⟩ := s₁
  have hcB := c_has C P (T := "BaseException") (by decide)
  simp only [evalOpt, Option.map]
  repeat (first | with_reducible refine wpAny_loadPart_at he ?_ | with_reducible refine wpAny_loadPart_at hC ?_ | (refine wpAny_isSubtype_exc hC ?_; rw [hcB]) | wp_step)
  exact wpAny_raiseNew_none hh hE
end


/-- the exception e of the own class C is held by the frame's own try, the handlers are being asked -/
structure HeldM (A₀ : Around) (base g G : Heap) (outer : List Env) (env : Env) (L : Addr) (m : Str → Option Value) (e C : Addr) (news : List (Addr × Obj)) (h : Heap) : Prop where
  K : Below A₀ base outer g
  F : Fr g L G m
  sm : G.UpToSlots h
  fly : ∃ B a0, (∀ b o, G.get? b = some o → b ∉ (env :: outer).filterMap (·.frame) → B.get? b = some o) ∧ (∀ q ∈ news, B.get? q.1 = some q.2 ∧ G.get? q.1 = none ∧ base.get? q.1 = none) ∧ Heap.FlyingW B (env :: outer) e (.ref C) a0 h

section
variable {prog : Program} {w : World} {A₀ : Around} {E : Value → Shared → Prop} {s' : Shared} {base g G : Heap} {outer : List Env} {L a e C D P fI P' fI' : Addr} {m : Str → Option Value} {name : Str} {scope : Scope} {cd : Value}
  {b₀ : Stmt} {suite : List Stmt} {pos np : Pos} {rest : List ExceptHandler} {Q : Flow → Shared → Prop} {news : List (Addr × Obj)} {KF : Frag}
  {p : Program} {loose : List Str} {mean : ExcName → Option Value} {mg mb : Str → Option Value} {x : Str}

theorem held_enter (R : RaisedM base G (envOf name scope L a cd :: outer) e (.ref C) news s'.heap) (F : Fr g L G m) (K : Below A₀ base outer g) (hsm : G.UpToSlots s'.heap) {hs : List ExceptHandler}
    (k : ∀ h', HeldM A₀ base g G outer (envOf name scope L a cd) L m e C news h' →
      wpAny (model prog w) (A₀.deeper (envOf name scope L a cd)) (handleBy (.ref e) (envOf name scope L a cd) hs) Q E { s' with heap := h' }) :
    wpAny (model prog w) (A₀.deeper (envOf name scope L a cd)) (noteFrame (.ref e) (envOf name scope L a cd))
      (fun _ s₂ => wpAny (model prog w) (A₀.deeper (envOf name scope L a cd)) (setFlight (.ref e) none) (fun _ s₃ =>
        wpAny (model prog w) (A₀.deeper (envOf name scope L a cd)) (handleBy (.ref e) (envOf name scope L a cd) hs) Q E s₃) E s₂) E s' := by
  obtain ⟨B, a0, hB, hBG, hl, hfl⟩ := R
  refine wpAny_looks_onW (Around.frames_deeper K.stack) rfl hfl fun h₄ hheld₄ hsm₄ => ?_
  refine wpAny_landsW hheld₄ fun h₅ hheld hsm₅' => ?_
  exact k h₅ ⟨K, F, hsm.trans (hsm₄.trans hsm₅'), B, a0, hBG, hl, hheld⟩

theorem exc_not_match {M : Model} {A : Around} {E : Value → Shared → Prop} {s : Shared} {KF : Frag} {oe : Obj} {Q : Bool → Shared → Prop} (X : KF.In s.heap) (Z : ExcC KF C P fI) (Z' : ExcC KF D P fI') (hne : D ≠ C) (hnp : D ≠ P)
    (he : s.heap.get? e = some oe) (hcls : oe.cls = .ref C) (hq : Q false s) : wpAny M A (excMatches (.ref e) (.ref D)) Q E s := by
  obtain ⟨h, g, d, t, os⟩ := s
  obtain ⟨nm, q, N', bs, sn, sub, ab, col, dd, k0, k1, k2, k3, k5, hC'⟩ := Z.obj
  obtain ⟨nm2, q2, N2, bs2, sn2, sub2, ab2, col2, dd2, j0, j1, j2, j3, j5, hD'⟩ := Z'.obj
  have hC := X _ _ hC'
  have hD := X _ _ hD'
  have hDB := c_has D P (T := "BaseException") (by decide)
  have hCD : (Value.ref C :: .ref P :: bmE).contains (.ref D) = false := by
    rw [List.contains_cons, List.contains_cons]
    have e1 : (Value.ref D == Value.ref C) = false := by simp [hne]
    have e2 : (Value.ref D == Value.ref P) = false := by simp [hnp]
    rw [e1, e2]; rfl
  have f := tc_notTuple
  unfold excMatches
  repeat (first | (with_reducible refine wpAny_loadPart_at he ?_; rw [hcls]) | with_reducible refine wpAny_loadPart_at hD ?_ | (with_reducible refine wpAny_isSubtype_exc hD ?_; rw [hDB]) | (with_reducible refine wpAny_isSubtype_exc hC ?_; rw [hCD]) | wp_step)
  exact hq

theorem exc_match {M : Model} {A : Around} {E : Value → Shared → Prop} {s : Shared} {KF : Frag} {oe : Obj} {Q : Bool → Shared → Prop} (X : KF.In s.heap) (Z : ExcC KF C P fI)
    (he : s.heap.get? e = some oe) (hcls : oe.cls = .ref C) (hq : Q true s) : wpAny M A (excMatches (.ref e) (.ref C)) Q E s := by
  obtain ⟨h, g, d, t, os⟩ := s
  obtain ⟨nm, q, N', bs, sn, sub, ab, col, dd, k0, k1, k2, k3, k5, hC'⟩ := Z.obj
  exact wpAny_excMatches_sub_self (X _ _ hC') he hcls (by rw [List.contains_cons]; simp) hq

theorem held_miss (H : HeldM A₀ base g G outer (envOf name scope L a cd) L m e C news s'.heap) (XB : KF.In base) (TB : Top p loose mean mg mb base)
    (ex : nsIn KF mainGlobals x = some (some (.ref D))) (Z : ExcC KF C P fI) (Z' : ExcC KF D P fI') (hne : D ≠ C) (hnp : D ≠ P)
    (k : wpAny (model prog w) (A₀.deeper (envOf name scope L a cd)) (handleBy (.ref e) (envOf name scope L a cd) rest) Q E s')
    (hk : scope.kind = .function := by rfl) (hx : (envOf name scope L a cd).kindOf x = some .globalImplicit := by rfl) (hd : (x == ("__debug__" : Str)) = false := by decide) :
    wpAny (model prog w) (A₀.deeper (envOf name scope L a cd)) (handleBy (.ref e) (envOf name scope L a cd) (.ExceptHandler (some (.Name x np)) none (b₀ :: suite) pos :: rest)) Q E s' := by
  obtain ⟨K, F, hsm, B, a0, hBG, hl, hheld⟩ := H
  obtain ⟨g₅, T₅, F₅, K₅⟩ := kts_ground K F hBG hheld.1 hsm
  have X₅ : KF.In g₅ := XB.keeps K₅.stays
  have P₅ : TopRead p loose mg mb g₅ := topRead_of (TB.keeps K₅.stays)
  obtain ⟨ob, hob, hobc⟩ := hheld.there
  refine wpAny_handleBy_cons (codeAny_handlers_test (name_K F₅ X₅ P₅ ex ?_ hk hx hd)) (by intro q; cases q)
  refine exc_not_match (X₅.keeps F₅.keep) Z Z' hne hnp hob hobc ?_
  exact k

theorem held_hit (H : HeldM A₀ base g G outer (envOf name scope L a cd) L m e C news s'.heap) (XB : KF.In base) (TB : Top p loose mean mg mb base)
    (ex : nsIn KF mainGlobals x = some (some (.ref C))) (Z : ExcC KF C P fI)
    (k : ∀ h' g', KtsTurn (outer.filterMap (·.frame)) g g' → Fr g' L h' m → News g' L h' news → Below A₀ base outer g' → KF.In g' → Top p loose mean mg mb g' →
      wpAny (model prog w) ((A₀.deeper (envOf name scope L a cd)).mark (some (.ref e))) (execs (b₀ :: suite) (envOf name scope L a cd)) Q E { s' with heap := h' })
    (hk : scope.kind = .function := by rfl) (hx : (envOf name scope L a cd).kindOf x = some .globalImplicit := by rfl) (hd : (x == ("__debug__" : Str)) = false := by decide)
    (hE : PassesOwnAt (model prog w) ((A₀.deeper (envOf name scope L a cd)).mark (some (.ref e))) (A₀.deeper (envOf name scope L a cd)) (envOf name scope L a cd) E := by passes_own) :
    wpAny (model prog w) (A₀.deeper (envOf name scope L a cd)) (handleBy (.ref e) (envOf name scope L a cd) (.ExceptHandler (some (.Name x np)) none (b₀ :: suite) pos :: rest)) Q E s' := by
  obtain ⟨K, F, hsm, B, a0, hBG, hl, hheld⟩ := H
  have hL : B.get? L = none := by
    obtain ⟨_, ⟨L', _, hf, hn', _⟩, _⟩ := hheld.2.2.1
    obtain rfl : L = L' := Option.some.inj hf
    exact hn'
  obtain ⟨g₅, T₅, F₅, K₅⟩ := kts_ground K F hBG hheld.1 hsm
  have X₅ : KF.In g₅ := XB.keeps K₅.stays
  have P₅ : TopRead p loose mg mb g₅ := topRead_of (TB.keeps K₅.stays)
  obtain ⟨ob, hob, hobc⟩ := hheld.there
  refine wpAny_handleBy_cons (codeAny_handlers_test (name_K F₅ X₅ P₅ ex ?_ hk hx hd)) (by intro q; cases q)
  refine exc_match (X₅.keeps F₅.keep) Z hob hobc (codeAny_handlers_suite ?_)
  refine lands_againW hheld fun h₆ hfl₆ hsm₆ => ?_
  obtain ⟨g₆, T₆, F₆, K₆⟩ := kts_ground K F hBG hfl₆.1 (hsm.trans hsm₆)
  have Nl : News g₆ L h₆ news := fun q hq => ⟨hfl₆.1 _ _ (hl q hq).1, (fun z => by have := (hl q hq).1; rw [z, hL] at this; cases this), T₆.none_ _ (kts_none F.keep (hl q hq).2.1)⟩
  exact wpAny_passesOwnAt hE (k h₆ g₆ T₆ F₆ Nl K₆ (XB.keeps K₆.stays) (TB.keeps K₆.stays))
end
end

section
open Builtin Builtin.Bytes
variable {prog : Program} {w : World} {A : Around} {E : Value → Shared → Prop} {s : Shared} {b : Array UInt8} {t : Tok}

theorem by_newCall (a : Array UInt8) (t : Tok) : checkBuiltinCall "bytes.__new__" ⟨[.type "bytes", .bytes a t], []⟩ = pure () := by kernel_rfl
theorem by_typeCall (a : Array UInt8) (t : Tok) : checkTypeCall "bytes" ⟨[.bytes a t], []⟩ = pure () := by kernel_rfl
theorem by_look_bytes : typeLookup (.type "bytes") "__bytes__" = pure (some (.builtin "bytes.__bytes__")) := by rw [typeLookup_type, builtinLookup_eq_fast]; kernel_rfl

theorem by_new {Q : Value → Shared → Prop} (h : ∀ k, Q (.bytes b t) { s with toks := k }) :
    codeAny (model prog w) A (.call (.builtin "bytes.__new__") ⟨[.type "bytes", .bytes b t], []⟩) (wants Q E) s := by
  refine codeAny_of_tree ?_
  show wpAny _ A.in1 (do checkBuiltinCall "bytes.__new__" ⟨[.type "bytes", .bytes b t], []⟩; again (.builtin "bytes.__new__" ⟨[.type "bytes", .bytes b t], []⟩)) _ _ s
  refine wpAny_bind (wpAny_of_eq (by_newCall _ _) (wpAny_pure ⟨plainId_quiet F.bm_plain _, codeAny_builtin F.bm_entry ?_⟩))
  rw [Around.under_plainId F.bm_plain _]
  have hT : s.TypeIs (.bytes b t) "bytes" := PySem.W.typeIs_bytes _ _ _
  unfold Builtin.«bytes.__new__»
  refine wpAny_bind (wpAny_of_eq (a := true) rfl ?_)
  refine bm_if_false rfl ?_
  refine wpAny_bind (wpAny_of_eq F.bm_sub ?_)
  refine bm_if_false rfl ?_
  refine wpAny_bind (wpAny_of_eq (F.bm_bind _) ?_)
  refine wpAny_bind (wpAny_of_eq (a := ()) rfl ?_)
  refine wpAny_bind (wpAny_of_eq (a := ()) rfl ?_)
  refine bm_if_false rfl ?_
  refine wpAny_bind (wpAny_specialOf hT by_look_bytes ?_)
  refine wpAny_bind (wpAny_rule ?_)
  refine wpAny_bind (wpAny_typeOf hT ?_)
  refine bm_if_true rfl ?_
  refine wpAny_of_eq (a := Fin.done (.ret (.bytes b t))) rfl ?_
  exact h _

theorem bytes_again {Q : Value → Shared → Prop} (h : ∀ k, Q (.bytes b t) { s with toks := k }) : wpAny (model prog w) A (call (.type "bytes") [.bytes b t]) Q E s := by
  refine callType_codes (Q₁ := fun obj s₁ => s₁.TypeIs obj "bytes" ∧ Q obj s₁) F.bm_called (by_typeCall _ _) F.entry_object_init
    (by_new fun k => ⟨PySem.W.typeIs_bytes _ _ _, h k⟩) fun obj s₁ h₁ => ?_
  exact ⟨h₁.1, F.args_object_init_2 obj _, object_init_meets F.bm_called.init.lookup F.bm_called.made (by decide) prog w A.in1 _ s₁ ⟨h₁.1, rfl, h₁.2⟩⟩

theorem bi_newCall (n : Int) (t : Tok) : checkBuiltinCall "bytes.__new__" ⟨[.type "bytes", .int n t], []⟩ = pure () := by kernel_rfl
theorem bi_typeCall (n : Int) (t : Tok) : checkTypeCall "bytes" ⟨[.int n t], []⟩ = pure () := by kernel_rfl
theorem bi_look_bytes : typeLookup (.type "int") "__bytes__" = pure none := by rw [typeLookup_type, builtinLookup_eq_fast]; kernel_rfl

theorem bi_new {n : Int} {Q : Value → Shared → Prop} (h0 : 0 ≤ n) (hn : n ≤ 16777216) (h : ∀ k t', Q (.bytes (Array.replicate n.toNat 0) t') { s with toks := k }) :
    codeAny (model prog w) A (.call (.builtin "bytes.__new__") ⟨[.type "bytes", .int n t], []⟩) (wants Q E) s := by
  refine codeAny_of_tree ?_
  show wpAny _ A.in1 (do checkBuiltinCall "bytes.__new__" ⟨[.type "bytes", .int n t], []⟩; again (.builtin "bytes.__new__" ⟨[.type "bytes", .int n t], []⟩)) _ _ s
  refine wpAny_bind (wpAny_of_eq (bi_newCall _ _) (wpAny_pure ⟨plainId_quiet F.bm_plain _, codeAny_builtin F.bm_entry ?_⟩))
  rw [Around.under_plainId F.bm_plain _]
  have hT : s.TypeIs (.int n t) "int" := typeIs_int _ _ _
  unfold Builtin.«bytes.__new__»
  refine wpAny_bind (wpAny_of_eq (a := true) rfl ?_)
  refine bm_if_false rfl ?_
  refine wpAny_bind (wpAny_of_eq F.bm_sub ?_)
  refine bm_if_false rfl ?_
  refine wpAny_bind (wpAny_of_eq (F.bm_bind _) ?_)
  refine wpAny_bind (wpAny_of_eq (a := ()) rfl ?_)
  refine wpAny_bind (wpAny_of_eq (a := ()) rfl ?_)
  refine bm_if_false rfl ?_
  refine wpAny_bind (wpAny_specialOf hT bi_look_bytes ?_)
  dsimp only
  refine wpAny_bind (wpAny_of_eq (a := false) rfl ?_)
  refine bm_if_false rfl ?_
  refine wpAny_bind (wpAny_specialOf hT F.slot_int_index.lookup ?_)
  refine bm_if_false rfl ?_
  refine wpAny_bind (wpAny_attempt ?_)
  refine wpAny_of_eq (a := n) rfl ?_
  dsimp only
  refine bm_if_false (by simp only [fitsIndex, Bool.not_eq_false', Bool.and_eq_true, decide_eq_true_eq]; omega) ?_
  refine wpAny_ite ?_
  rw [if_neg (by omega)]
  refine wpAny_ite ?_
  rw [if_neg (by omega)]
  refine bm_if_false (by simp only [tooLong, sizeLine_eq, decide_eq_false_iff_not]; omega) ?_
  refine wpAny_bind (wpAny_rule ?_)
  refine wpAny_bind (wpAny_mkBytes ?_ (by rw [sizeLine_eq, Array.size_replicate]; omega))
  refine wpAny_of_eq (a := Fin.done (.ret (.bytes (Array.replicate n.toNat 0) s.toks))) rfl ?_
  exact h _ _

theorem bytes_zeros {n : Int} {Q : Value → Shared → Prop} (h0 : 0 ≤ n) (hn : n ≤ 16777216) (h : ∀ k t', Q (.bytes (Array.replicate n.toNat 0) t') { s with toks := k }) : wpAny (model prog w) A (call (.type "bytes") [.int n t]) Q E s := by
  refine callType_codes (Q₁ := fun obj s₁ => s₁.TypeIs obj "bytes" ∧ Q obj s₁) F.bm_called (bi_typeCall _ _) F.entry_object_init
    (bi_new h0 hn fun k t' => ⟨PySem.W.typeIs_bytes _ _ _, h k t'⟩) fun obj s₁ h₁ => ?_
  exact ⟨h₁.1, F.args_object_init_2 obj _, object_init_meets F.bm_called.init.lookup F.bm_called.made (by decide) prog w A.in1 _ s₁ ⟨h₁.1, rfl, h₁.2⟩⟩
end

/-- the i-th statement of the given program -/
def stAt (i : Nat) : Stmt := (PySem.Challenge.pw_nt0547_01.main.body.drop i).headD default
/-- the j-th statement of a class's body -/
def stIn (st : Stmt) (j : Nat) : Stmt := match st with
  | .ClassDef (body := body) .. => (body.drop j).headD default
  | _ => default
/-- the function object that a def of the program leaves -/
def fnObj (st : Stmt) (qual : Str) (dV pm : Value) (cd : Addr) : Obj := match st with
  | .FunctionDef (name := name) (args := args) (body := body) (scope := scope) .. => { cls := .type "function", data := .func (fnOf name qual args body scope dV .none .none pm none (.ref cd) .none) }
  | _ => default
/-- the part of the heap behind the top's run that the proof reads -/
noncomputable def KP (P : Params) : Frag :=
  (nat_lit 2, { cls := .none, data := .dict #[⟨PyData.keyHash P "type.__subclasses__.Exception.0", (.str "type.__subclasses__.Exception.0" 214), (.int 31 0)⟩, ⟨PyData.keyHash P "type.__subclasses__.Exception.n", (.str "type.__subclasses__.Exception.n" 215), (.int 1 0)⟩] 2 }) ::
  (nat_lit 3, { cls := (.type "dict"), data := .dict #[⟨PyData.keyHash P "__name__", (.str "__name__" 165), (.str "law_nt0547_01" 424)⟩, ⟨PyData.keyHash P "__doc__", (.str "__doc__" 166), .none⟩, ⟨PyData.keyHash P "__package__", (.str "__package__" 167), .none⟩, ⟨PyData.keyHash P "__loader__", (.str "__loader__" 168), (.builtin "__main__.__loader__#opaque")⟩, ⟨PyData.keyHash P "__spec__", (.str "__spec__" 169), .none⟩, ⟨PyData.keyHash P "__annotations__", (.str "__annotations__" 170), (.ref 6)⟩, ⟨PyData.keyHash P "__builtins__", (.str "__builtins__" 171), (.ref 4)⟩, ⟨PyData.keyHash P "__file__", (.str "__file__" 173), (.str "/claim/cut.py" 172)⟩, ⟨PyData.keyHash P "__cached__", (.str "__cached__" 174), .none⟩, ⟨PyData.keyHash P "PressError", (.str "PressError" 217), (.ref 31)⟩, ⟨PyData.keyHash P "MarkerError", (.str "MarkerError" 233), (.ref 44)⟩, ⟨PyData.keyHash P "SegmentError", (.str "SegmentError" 249), (.ref 56)⟩, ⟨PyData.keyHash P "CutError", (.str "CutError" 265), (.ref 68)⟩, ⟨PyData.keyHash P "RangeError", (.str "RangeError" 281), (.ref 80)⟩, ⟨PyData.keyHash P "word", (.str "word" 290), (.ref 89)⟩, ⟨PyData.keyHash P "TEM", (.str "TEM" 294), (.int 1 293)⟩, ⟨PyData.keyHash P "RST0", (.str "RST0" 296), (.int 208 295)⟩, ⟨PyData.keyHash P "SOI", (.str "SOI" 298), (.int 216 297)⟩, ⟨PyData.keyHash P "EOI", (.str "EOI" 300), (.int 217 299)⟩, ⟨PyData.keyHash P "SOS", (.str "SOS" 302), (.int 218 301)⟩, ⟨PyData.keyHash P "MOST_PAYLOAD", (.str "MOST_PAYLOAD" 304), (.int 65533 303)⟩, ⟨PyData.keyHash P "is_restart", (.str "is_restart" 311), (.ref 96)⟩, ⟨PyData.keyHash P "has_length", (.str "has_length" 318), (.ref 103)⟩, ⟨PyData.keyHash P "Piece", (.str "Piece" 353), (.ref 121)⟩, ⟨PyData.keyHash P "next_marker", (.str "next_marker" 361), (.ref 132)⟩, ⟨PyData.keyHash P "data_end", (.str "data_end" 371), (.ref 139)⟩, ⟨PyData.keyHash P "read_code", (.str "read_code" 379), (.ref 146)⟩, ⟨PyData.keyHash P "read_payload", (.str "read_payload" 388), (.ref 153)⟩, ⟨PyData.keyHash P "read_piece", (.str "read_piece" 399), (.ref 160)⟩, ⟨PyData.keyHash P "read_pieces", (.str "read_pieces" 409), (.ref 167)⟩, ⟨PyData.keyHash P "write_piece", (.str "write_piece" 417), (.ref 174)⟩, ⟨PyData.keyHash P "write_pieces", (.str "write_pieces" 423), (.ref 179)⟩, ⟨PyData.keyHash P "_law_pool", (.str "_law_pool" 435), (.ref 186)⟩, ⟨PyData.keyHash P "_law_take", (.str "_law_take" 444), (.ref 193)⟩, ⟨PyData.keyHash P "_law_data", (.str "_law_data" 453), (.ref 200)⟩, ⟨PyData.keyHash P "_law_rows", (.str "_law_rows" 459), (.ref 205)⟩, ⟨PyData.keyHash P "_law_octets", (.str "_law_octets" 472), (.ref 212)⟩, ⟨PyData.keyHash P "_law_told", (.str "_law_told" 478), (.ref 217)⟩, ⟨PyData.keyHash P "_law_error", (.str "_law_error" 485), (.ref 224)⟩, ⟨PyData.keyHash P "_law_long_refused", (.str "_law_long_refused" 491), (.ref 231)⟩, ⟨PyData.keyHash P "_law_strange", (.str "_law_strange" 501), (.ref 238)⟩, ⟨PyData.keyHash P "_law_next", (.str "_law_next" 509), (.ref 245)⟩, ⟨PyData.keyHash P "law", (.str "law" 515), (.ref 250)⟩] 43 }) ::
  (nat_lit 27, { cls := (.type "code"), data := .fields #[(.str "__init__" 201), (.str "PressError.__init__" 202), (.str "/claim/cut.py" 203), (.int 4 0), (.int 2 0), (.int 0 0), (.int 0 0), (.int 3 0), (.ref 22), (.bool true), (.int 181 0), (.ref 23), .none, (.ref 24), (.ref 25), (.ref 26), (.int 206 0), (.int 4 0), (.str "/claim/cut.py" 207)] }) ::
  (nat_lit 28, fnObj (stIn (stAt 1) 0) "PressError.__init__" .none (.str "pixelpress.errors" 187) 27) ::
  (nat_lit 30, { cls := (.type "dict"), data := .dict #[⟨PyData.keyHash P "__module__", (.str "__module__" 196), (.str "pixelpress.errors" 187)⟩, ⟨PyData.keyHash P "__firstlineno__", (.str "__firstlineno__" 200), (.int 2 199)⟩, ⟨PyData.keyHash P "__init__", (.str "__init__" 208), (.ref 28)⟩, ⟨PyData.keyHash P "__static_attributes__", (.str "__static_attributes__" 210), (.ref 29)⟩, ⟨PyData.keyHash P "__weakref__", (.str "__weakref__" 212), (.ref 32)⟩, ⟨PyData.keyHash P "__doc__", (.str "__doc__" 213), .none⟩] 3 }) ::
  (nat_lit 31, { cls := (.type "type"), data := .cls { name := "PressError", bases := [(.type "Exception")], mro := [(.ref 31), (.type "Exception"), (.type "BaseException"), (.type "object")], ns := 30, qualname := "PressError", hasDict := true, slotNames := [], subclasses := [(.ref 44), (.ref 56), (.ref 68), (.ref 80)], abstract := false, collection := none, hasDel := false }, slots := #[some (.ref 15), none, some (.str "PressError" 189), some (.str "PressError" 197), some (.builtin "Exception.__new__"), some (.bool true)] }) ::
  (nat_lit 43, { cls := (.type "dict"), data := .dict #[⟨PyData.keyHash P "__module__", (.str "__module__" 225), (.str "pixelpress.errors" 187)⟩, ⟨PyData.keyHash P "__firstlineno__", (.str "__firstlineno__" 229), (.int 7 228)⟩, ⟨PyData.keyHash P "__static_attributes__", (.str "__static_attributes__" 230), (.ref 42)⟩, ⟨PyData.keyHash P "__doc__", (.str "__doc__" 231), .none⟩] 2 }) ::
  (nat_lit 44, { cls := (.type "type"), data := .cls { name := "MarkerError", bases := [(.ref 31)], mro := [(.ref 44), (.ref 31), (.type "Exception"), (.type "BaseException"), (.type "object")], ns := 43, qualname := "MarkerError", hasDict := true, slotNames := [], subclasses := [], abstract := false, collection := none, hasDel := false }, slots := #[some (.ref 35), none, some (.str "MarkerError" 218), some (.str "MarkerError" 226), some (.builtin "Exception.__new__"), some (.bool true)] }) ::
  (nat_lit 55, { cls := (.type "dict"), data := .dict #[⟨PyData.keyHash P "__module__", (.str "__module__" 241), (.str "pixelpress.errors" 187)⟩, ⟨PyData.keyHash P "__firstlineno__", (.str "__firstlineno__" 245), (.int 9 244)⟩, ⟨PyData.keyHash P "__static_attributes__", (.str "__static_attributes__" 246), (.ref 54)⟩, ⟨PyData.keyHash P "__doc__", (.str "__doc__" 247), .none⟩] 2 }) ::
  (nat_lit 56, { cls := (.type "type"), data := .cls { name := "SegmentError", bases := [(.ref 31)], mro := [(.ref 56), (.ref 31), (.type "Exception"), (.type "BaseException"), (.type "object")], ns := 55, qualname := "SegmentError", hasDict := true, slotNames := [], subclasses := [], abstract := false, collection := none, hasDel := false }, slots := #[some (.ref 47), none, some (.str "SegmentError" 234), some (.str "SegmentError" 242), some (.builtin "Exception.__new__"), some (.bool true)] }) ::
  (nat_lit 67, { cls := (.type "dict"), data := .dict #[⟨PyData.keyHash P "__module__", (.str "__module__" 257), (.str "pixelpress.errors" 187)⟩, ⟨PyData.keyHash P "__firstlineno__", (.str "__firstlineno__" 261), (.int 11 260)⟩, ⟨PyData.keyHash P "__static_attributes__", (.str "__static_attributes__" 262), (.ref 66)⟩, ⟨PyData.keyHash P "__doc__", (.str "__doc__" 263), .none⟩] 2 }) ::
  (nat_lit 68, { cls := (.type "type"), data := .cls { name := "CutError", bases := [(.ref 31)], mro := [(.ref 68), (.ref 31), (.type "Exception"), (.type "BaseException"), (.type "object")], ns := 67, qualname := "CutError", hasDict := true, slotNames := [], subclasses := [], abstract := false, collection := none, hasDel := false }, slots := #[some (.ref 59), none, some (.str "CutError" 250), some (.str "CutError" 258), some (.builtin "Exception.__new__"), some (.bool true)] }) ::
  (nat_lit 88, { cls := (.type "code"), data := .fields #[(.str "word" 284), (.str "word" 285), (.str "/claim/cut.py" 286), (.int 16 0), (.int 1 0), (.int 0 0), (.int 0 0), (.int 3 0), (.ref 83), (.bool true), (.int 181 0), (.ref 84), .none, (.ref 85), (.ref 86), (.ref 87), (.int 288 0), (.int 16 0), (.str "/claim/cut.py" 289)] }) ::
  (nat_lit 89, fnObj (stAt 7) "word" .none (.str "pixelpress.octets" 282) 88) ::
  (nat_lit 95, { cls := (.type "code"), data := .fields #[(.str "is_restart" 305), (.str "is_restart" 306), (.str "/claim/cut.py" 307), (.int 27 0), (.int 1 0), (.int 0 0), (.int 0 0), (.int 3 0), (.ref 90), (.bool true), (.int 181 0), (.ref 91), .none, (.ref 92), (.ref 93), (.ref 94), (.int 309 0), (.int 27 0), (.str "/claim/cut.py" 310)] }) ::
  (nat_lit 96, fnObj (stAt 15) "is_restart" .none (.str "pixelpress.markers" 291) 95) ::
  (nat_lit 102, { cls := (.type "code"), data := .fields #[(.str "has_length" 312), (.str "has_length" 313), (.str "/claim/cut.py" 314), (.int 29 0), (.int 1 0), (.int 0 0), (.int 0 0), (.int 3 0), (.ref 97), (.bool true), (.int 181 0), (.ref 98), .none, (.ref 99), (.ref 100), (.ref 101), (.int 316 0), (.int 29 0), (.str "/claim/cut.py" 317)] }) ::
  (nat_lit 103, fnObj (stAt 16) "has_length" .none (.str "pixelpress.markers" 291) 102) ::
  (nat_lit 111, { cls := (.type "tuple"), data := .seq #[(.bytes #[] 331), (.bytes #[] 332)] 0 }) ::
  (nat_lit 117, { cls := (.type "code"), data := .fields #[(.str "__init__" 333), (.str "Piece.__init__" 334), (.str "/claim/cut.py" 335), (.int 33 0), (.int 4 0), (.int 0 0), (.int 0 0), (.int 3 0), (.ref 112), (.bool true), (.int 181 0), (.ref 113), .none, (.ref 114), (.ref 115), (.ref 116), (.int 340 0), (.int 33 0), (.str "/claim/cut.py" 341)] }) ::
  (nat_lit 118, fnObj (stIn (stAt 17) 0) "Piece.__init__" (.ref 111) (.str "pixelpress.markers" 291) 117) ::
  (nat_lit 120, { cls := (.type "dict"), data := .dict #[⟨PyData.keyHash P "__module__", (.str "__module__" 326), (.str "pixelpress.markers" 291)⟩, ⟨PyData.keyHash P "__firstlineno__", (.str "__firstlineno__" 330), (.int 31 329)⟩, ⟨PyData.keyHash P "__init__", (.str "__init__" 342), (.ref 118)⟩, ⟨PyData.keyHash P "__static_attributes__", (.str "__static_attributes__" 346), (.ref 119)⟩, ⟨PyData.keyHash P "__dict__", (.str "__dict__" 348), (.ref 122)⟩, ⟨PyData.keyHash P "__weakref__", (.str "__weakref__" 350), (.ref 123)⟩, ⟨PyData.keyHash P "__doc__", (.str "__doc__" 351), .none⟩] 4 }) ::
  (nat_lit 121, { cls := (.type "type"), data := .cls { name := "Piece", bases := [(.type "object")], mro := [(.ref 121), (.type "object")], ns := 120, qualname := "Piece", hasDict := true, slotNames := [], subclasses := [], abstract := false, collection := none, hasDel := false }, slots := #[none, none, some (.str "Piece" 319), some (.str "Piece" 327), some (.builtin "object.__new__"), some (.bool true)] }) ::
  (nat_lit 131, { cls := (.type "code"), data := .fields #[(.str "next_marker" 354), (.str "next_marker" 355), (.str "/claim/cut.py" 356), (.int 37 0), (.int 2 0), (.int 0 0), (.int 0 0), (.int 3 0), (.ref 126), (.bool true), (.int 181 0), (.ref 127), .none, (.ref 128), (.ref 129), (.ref 130), (.int 359 0), (.int 37 0), (.str "/claim/cut.py" 360)] }) ::
  (nat_lit 132, fnObj (stAt 18) "next_marker" .none (.str "pixelpress.markers" 291) 131) ::
  (nat_lit 138, { cls := (.type "code"), data := .fields #[(.str "data_end" 362), (.str "data_end" 363), (.str "/claim/cut.py" 364), (.int 43 0), (.int 2 0), (.int 0 0), (.int 0 0), (.int 3 0), (.ref 133), (.bool true), (.int 181 0), (.ref 134), .none, (.ref 135), (.ref 136), (.ref 137), (.int 369 0), (.int 43 0), (.str "/claim/cut.py" 370)] }) ::
  (nat_lit 139, fnObj (stAt 19) "data_end" .none (.str "pixelpress.markers" 291) 138) ::
  (nat_lit 145, { cls := (.type "code"), data := .fields #[(.str "read_code" 372), (.str "read_code" 373), (.str "/claim/cut.py" 374), (.int 53 0), (.int 2 0), (.int 0 0), (.int 0 0), (.int 3 0), (.ref 140), (.bool true), (.int 181 0), (.ref 141), .none, (.ref 142), (.ref 143), (.ref 144), (.int 377 0), (.int 53 0), (.str "/claim/cut.py" 378)] }) ::
  (nat_lit 146, fnObj (stAt 20) "read_code" .none (.str "pixelpress.markers" 291) 145) ::
  (nat_lit 152, { cls := (.type "code"), data := .fields #[(.str "read_payload" 380), (.str "read_payload" 381), (.str "/claim/cut.py" 382), (.int 65 0), (.int 2 0), (.int 0 0), (.int 0 0), (.int 3 0), (.ref 147), (.bool true), (.int 181 0), (.ref 148), .none, (.ref 149), (.ref 150), (.ref 151), (.int 386 0), (.int 65 0), (.str "/claim/cut.py" 387)] }) ::
  (nat_lit 153, fnObj (stAt 21) "read_payload" .none (.str "pixelpress.markers" 291) 152) ::
  (nat_lit 159, { cls := (.type "code"), data := .fields #[(.str "read_piece" 389), (.str "read_piece" 390), (.str "/claim/cut.py" 391), (.int 74 0), (.int 2 0), (.int 0 0), (.int 0 0), (.int 3 0), (.ref 154), (.bool true), (.int 181 0), (.ref 155), .none, (.ref 156), (.ref 157), (.ref 158), (.int 397 0), (.int 74 0), (.str "/claim/cut.py" 398)] }) ::
  (nat_lit 160, fnObj (stAt 22) "read_piece" .none (.str "pixelpress.markers" 291) 159) ::
  (nat_lit 166, { cls := (.type "code"), data := .fields #[(.str "read_pieces" 400), (.str "read_pieces" 401), (.str "/claim/cut.py" 402), (.int 85 0), (.int 1 0), (.int 0 0), (.int 0 0), (.int 3 0), (.ref 161), (.bool true), (.int 181 0), (.ref 162), .none, (.ref 163), (.ref 164), (.ref 165), (.int 407 0), (.int 85 0), (.str "/claim/cut.py" 408)] }) ::
  (nat_lit 167, fnObj (stAt 23) "read_pieces" .none (.str "pixelpress.markers" 291) 166) ::
  (nat_lit 173, { cls := (.type "code"), data := .fields #[(.str "write_piece" 410), (.str "write_piece" 411), (.str "/claim/cut.py" 412), (.int 98 0), (.int 1 0), (.int 0 0), (.int 0 0), (.int 3 0), (.ref 168), (.bool true), (.int 181 0), (.ref 169), .none, (.ref 170), (.ref 171), (.ref 172), (.int 415 0), (.int 98 0), (.str "/claim/cut.py" 416)] }) ::
  (nat_lit 174, fnObj (stAt 24) "write_piece" .none (.str "pixelpress.markers" 291) 173) ::
  (nat_lit 178, { cls := (.type "code"), data := .fields #[(.str "write_pieces" 418), (.str "write_pieces" 419), (.str "/claim/cut.py" 420), (.int 105 0), (.int 1 0), (.int 0 0), (.int 0 0), (.int 3 0), (.ref 175), (.bool true), (.int 181 0), (.ref 176), .none, .none, .none, (.ref 177), (.int 421 0), (.int 105 0), (.str "/claim/cut.py" 422)] }) ::
  (nat_lit 179, fnObj (stAt 25) "write_pieces" .none (.str "pixelpress.markers" 291) 178) ::
  (nat_lit 185, { cls := (.type "code"), data := .fields #[(.str "_law_pool" 426), (.str "_law_pool" 427), (.str "/claim/cut.py" 428), (.int 108 0), (.int 1 0), (.int 0 0), (.int 0 0), (.int 3 0), (.ref 180), (.bool true), (.int 181 0), (.ref 181), .none, (.ref 182), (.ref 183), (.ref 184), (.int 433 0), (.int 108 0), (.str "/claim/cut.py" 434)] }) ::
  (nat_lit 186, fnObj (stAt 27) "_law_pool" .none (.str "law_nt0547_01" 424) 185) ::
  (nat_lit 192, { cls := (.type "code"), data := .fields #[(.str "_law_take" 436), (.str "_law_take" 437), (.str "/claim/cut.py" 438), (.int 116 0), (.int 2 0), (.int 0 0), (.int 0 0), (.int 3 0), (.ref 187), (.bool true), (.int 181 0), (.ref 188), .none, (.ref 189), (.ref 190), (.ref 191), (.int 442 0), (.int 116 0), (.str "/claim/cut.py" 443)] }) ::
  (nat_lit 193, fnObj (stAt 28) "_law_take" .none (.str "law_nt0547_01" 424) 192) ::
  (nat_lit 199, { cls := (.type "code"), data := .fields #[(.str "_law_data" 445), (.str "_law_data" 446), (.str "/claim/cut.py" 447), (.int 123 0), (.int 1 0), (.int 0 0), (.int 0 0), (.int 3 0), (.ref 194), (.bool true), (.int 181 0), (.ref 195), .none, (.ref 196), (.ref 197), (.ref 198), (.int 451 0), (.int 123 0), (.str "/claim/cut.py" 452)] }) ::
  (nat_lit 200, fnObj (stAt 29) "_law_data" .none (.str "law_nt0547_01" 424) 199) ::
  (nat_lit 204, { cls := (.type "code"), data := .fields #[(.str "_law_rows" 454), (.str "_law_rows" 455), (.str "/claim/cut.py" 456), (.int 128 0), (.int 1 0), (.int 0 0), (.int 0 0), (.int 3 0), (.ref 201), (.bool true), (.int 181 0), (.ref 202), .none, .none, .none, (.ref 203), (.int 457 0), (.int 128 0), (.str "/claim/cut.py" 458)] }) ::
  (nat_lit 205, fnObj (stAt 30) "_law_rows" .none (.str "law_nt0547_01" 424) 204) ::
  (nat_lit 211, { cls := (.type "code"), data := .fields #[(.str "_law_octets" 460), (.str "_law_octets" 461), (.str "/claim/cut.py" 462), (.int 138 0), (.int 2 0), (.int 0 0), (.int 0 0), (.int 3 0), (.ref 206), (.bool true), (.int 181 0), (.ref 207), .none, (.ref 208), (.ref 209), (.ref 210), (.int 470 0), (.int 138 0), (.str "/claim/cut.py" 471)] }) ::
  (nat_lit 212, fnObj (stAt 31) "_law_octets" .none (.str "law_nt0547_01" 424) 211) ::
  (nat_lit 216, { cls := (.type "code"), data := .fields #[(.str "_law_told" 473), (.str "_law_told" 474), (.str "/claim/cut.py" 475), (.int 146 0), (.int 1 0), (.int 0 0), (.int 0 0), (.int 3 0), (.ref 213), (.bool true), (.int 181 0), (.ref 214), .none, .none, .none, (.ref 215), (.int 476 0), (.int 146 0), (.str "/claim/cut.py" 477)] }) ::
  (nat_lit 217, fnObj (stAt 32) "_law_told" .none (.str "law_nt0547_01" 424) 216) ::
  (nat_lit 223, { cls := (.type "code"), data := .fields #[(.str "_law_error" 479), (.str "_law_error" 480), (.str "/claim/cut.py" 481), (.int 148 0), (.int 1 0), (.int 0 0), (.int 0 0), (.int 3 0), (.ref 218), (.bool true), (.int 181 0), (.ref 219), .none, (.ref 220), (.ref 221), (.ref 222), (.int 483 0), (.int 148 0), (.str "/claim/cut.py" 484)] }) ::
  (nat_lit 224, fnObj (stAt 33) "_law_error" .none (.str "law_nt0547_01" 424) 223) ::
  (nat_lit 230, { cls := (.type "code"), data := .fields #[(.str "_law_long_refused" 486), (.str "_law_long_refused" 487), (.str "/claim/cut.py" 488), (.int 158 0), (.int 0 0), (.int 0 0), (.int 0 0), (.int 3 0), (.ref 225), (.bool true), (.int 181 0), (.ref 226), .none, (.ref 227), (.ref 228), (.ref 229), (.int 489 0), (.int 158 0), (.str "/claim/cut.py" 490)] }) ::
  (nat_lit 231, fnObj (stAt 34) "_law_long_refused" .none (.str "law_nt0547_01" 424) 230) ::
  (nat_lit 237, { cls := (.type "code"), data := .fields #[(.str "_law_strange" 492), (.str "_law_strange" 493), (.str "/claim/cut.py" 494), (.int 164 0), (.int 2 0), (.int 0 0), (.int 0 0), (.int 3 0), (.ref 232), (.bool true), (.int 181 0), (.ref 233), .none, (.ref 234), (.ref 235), (.ref 236), (.int 499 0), (.int 164 0), (.str "/claim/cut.py" 500)] }) ::
  (nat_lit 238, fnObj (stAt 35) "_law_strange" .none (.str "law_nt0547_01" 424) 237) ::
  (nat_lit 244, { cls := (.type "code"), data := .fields #[(.str "_law_next" 502), (.str "_law_next" 503), (.str "/claim/cut.py" 504), (.int 170 0), (.int 2 0), (.int 0 0), (.int 0 0), (.int 3 0), (.ref 239), (.bool true), (.int 181 0), (.ref 240), .none, (.ref 241), (.ref 242), (.ref 243), (.int 507 0), (.int 170 0), (.str "/claim/cut.py" 508)] }) ::
  (nat_lit 245, fnObj (stAt 36) "_law_next" .none (.str "law_nt0547_01" 424) 244) ::
  (nat_lit 249, { cls := (.type "code"), data := .fields #[(.str "law" 510), (.str "law" 511), (.str "/claim/cut.py" 512), (.int 176 0), (.int 1 0), (.int 0 0), (.int 0 0), (.int 3 0), (.ref 246), (.bool true), (.int 181 0), (.ref 247), .none, .none, .none, (.ref 248), (.int 513 0), (.int 176 0), (.str "/claim/cut.py" 514)] }) ::
  (nat_lit 250, fnObj (stAt 37) "law" .none (.str "law_nt0547_01" 424) 249) :: []
abbrev KAs : List Addr := [2, 3, 27, 28, 30, 31, 43, 44, 55, 56, 67, 68, 88, 89, 95, 96, 102, 103, 111, 117, 118, 120, 121, 131, 132, 138, 139, 145, 146, 152, 153, 159, 160, 166, 167, 173, 174, 178, 179, 185, 186, 192, 193, 199, 200, 204, 205, 211, 212, 216, 217, 223, 224, 230, 231, 237, 238, 244, 245, 249, 250]

def view : Program := { PySem.Challenge.pw_nt0547_01 with main := { PySem.Challenge.pw_nt0547_01.main with body := PySem.Challenge.pw_nt0547_01.main.body.drop 37 } }
def loose : List Str := [Str.ofString "PressError", Str.ofString "MarkerError", Str.ofString "SegmentError", Str.ofString "CutError", Str.ofString "RangeError", Str.ofString "word", Str.ofString "TEM", Str.ofString "RST0", Str.ofString "SOI", Str.ofString "EOI", Str.ofString "SOS", Str.ofString "MOST_PAYLOAD", Str.ofString "is_restart", Str.ofString "has_length", Str.ofString "Piece", Str.ofString "next_marker", Str.ofString "data_end", Str.ofString "read_code", Str.ofString "read_payload", Str.ofString "read_piece", Str.ofString "read_pieces", Str.ofString "write_piece", Str.ofString "write_pieces", Str.ofString "_law_pool", Str.ofString "_law_take", Str.ofString "_law_data", Str.ofString "_law_rows", Str.ofString "_law_octets", Str.ofString "_law_told", Str.ofString "_law_error", Str.ofString "_law_long_refused", Str.ofString "_law_strange", Str.ofString "_law_next"]
/-- the run of the top over a heap kept as a tree -/
def runT (tb : String → Option Builtin) (p : Program) (w : World) (n₀ : Nat) (ann : Option Value) : Nat → SharedT → Thread → Option SharedT
  | 0, _, _ => none
  | n + 1, s, t => match through t with
    | true => some s
    | false => match stepOk n₀ ann t with
      | false => none
      | true => match stepT (denote tb) p w s t with
        | some (s', t') => runT tb p w n₀ ann n s' t'
        | none => none
theorem runT_of {tb : String → Option Builtin} {p : Program} {w : World} {n₀ : Nat} {ann : Option Value} : ∀ {n : Nat} {s s' : SharedT} {t : Thread}, runT tb p w n₀ ann n s t = some s' → topRun tb p w n₀ ann n s.abs t = some s'.abs
  | 0, _, _, _, h => by cases h
  | n + 1, s, s', t, h => by
    unfold runT at h
    unfold topRun
    cases he : through t with
    | true => rw [he] at h; cases h; rfl
    | false =>
      rw [he] at h
      cases hk : stepOk n₀ ann t with
      | false => rw [hk] at h; cases h
      | true =>
        rw [hk] at h
        cases hs : stepT (denote tb) p w s t with
        | none => rw [hs] at h; cases h
        | some r => obtain ⟨s₂, t₂⟩ := r; rw [hs] at h; rw [stepT_spec hs]; exact runT_of h
def treeOf (l : List Obj) : BT := (l.foldl (fun (x : BT × Nat) o => (x.1.ins x.2 o, x.2 + 1)) (.nil, 0)).1
noncomputable def bootT (w : World) (os : OsState) : SharedT := ⟨treeOf (boot_heap w.params).objs.toList, (boot_heap w.params).objs.size, (boot_heap w.params).life, Array.mk [], boot_drawn, boot_toks, os⟩
theorem left_of_bootT {p q : Program} {loose : List Str} {Xt : Shared → Bool} {α : Type} {Yf : Shared → α} {Ya : World → α} {N : Nat} {g0 : Bool} (e : opening p = plainProg p.main.scope.names) (hN : Nat.ble 600 N = true) (f : ∀ s, fenceModules? p s = some s)
    (hb : ∀ (w : World) (os : OsState), (bootT w os).abs = ⟨boot_heap w.params, Array.mk [], boot_drawn, boot_toks, os⟩)
    (h1 : ∀ w : World, (boot_heap w.params).isNs mainGlobals = true)
    (h : ∀ (w : World) (os : OsState), (runT treeTable p w (boot_heap w.params).objs.size ((boot_heap w.params).nsMap mainGlobals "__annotations__") N (bootT w os) (topStub p)).map (fun s => let a := s.abs;
        (staticsOk (importedModules p.main.body) (boot_heap w.params) a.heap && namesBound p a.heap && gensDone a && laidKept (boot_heap w.params) a.heap, openSeen q loose (importedModules p.main.body) Xt g0 a, Yf a)) = some (true, openGood q loose, Ya w)) : LeftO p q loose Xt Yf Ya N g0 := fun w => by
  obtain ⟨⟨h', gs, d, k, os⟩, e, e'⟩ := Option.map_eq_some_iff.mp (boot_open e hN f w)
  obtain ⟨rfl, rfl, rfl, rfl⟩ : h' = boot_heap w.params ∧ gs = Array.mk [] ∧ d = boot_drawn ∧ k = boot_toks := by simpa using e'
  obtain ⟨sf, hr, hq⟩ := Option.map_eq_some_iff.mp (h w os)
  dsimp only at hq
  obtain ⟨q1, q2⟩ := Prod.mk.inj hq
  have r := runT_of hr
  rw [hb w os] at r
  unfold openEnds
  rw [e]
  show (topFrom treeTable p w N _).map _ = _
  unfold topFrom
  dsimp only
  rw [h1 w, r]
  show ((match _ with | true => some sf.abs | false => none : Option Shared)).map _ = _
  rw [q1]
  exact congrArg some q2
noncomputable def runQ (p : Program) (w : World) (n₀ : Nat) (ann : Option Value) (n : Nat) : SharedT → Thread → Option SharedT := @Nat.rec (fun _ => SharedT → Thread → Option SharedT) (fun _ _ => none) (fun _ ih s t => match through t with
    | true => some s
    | false => match PySem.W.Fast.tw6613529449190102663 n₀ ann t with
      | false => none
      | true => match PySem.W.Fast.tw10156331382660048174 (PySem.W.Fast.tw11892475500146522536 PySem.W.Fast.tw14364793385576792824) p w s t with
        | some (s', t') => ih s' t'
        | none => none) n
theorem runQ_eq (p : Program) (w : World) (n₀ : Nat) (ann : Option Value) : ∀ (n : Nat) (s : SharedT) (t : Thread), runQ p w n₀ ann n s t = runT treeTable p w n₀ ann n s t
  | 0, _, _ => rfl
  | n + 1, s, t => by
    have ih := runQ_eq p w n₀ ann n
    unfold runT
    rw [PySem.W.Fast.te10156331382660048174, PySem.W.Fast.te11892475500146522536, PySem.W.Fast.te6613529449190102663, PySem.W.Fast.te14364793385576792824]
    show (match through t with
    | true => some s
    | false => match PySem.W.Fast.tw6613529449190102663 n₀ ann t with
      | false => none
      | true => match PySem.W.Fast.tw10156331382660048174 (PySem.W.Fast.tw11892475500146522536 PySem.W.Fast.tw14364793385576792824) p w s t with
        | some (s', t') => runQ p w n₀ ann n s' t'
        | none => none) = _
    simp only [ih]
    rw [PySem.W.Fast.te14364793385576792824]
theorem left_of_bootQ {p q : Program} {loose : List Str} {Xt : Shared → Bool} {α : Type} {Yf : Shared → α} {Ya : World → α} {N : Nat} {g0 : Bool} (e : opening p = plainProg p.main.scope.names) (hN : Nat.ble 600 N = true) (f : ∀ s, fenceModules? p s = some s)
    (hb : ∀ (w : World) (os : OsState), (bootT w os).abs = ⟨boot_heap w.params, Array.mk [], boot_drawn, boot_toks, os⟩)
    (h1 : ∀ w : World, (boot_heap w.params).isNs mainGlobals = true)
    (h : ∀ (w : World) (os : OsState), (runQ p w (boot_heap w.params).objs.size ((boot_heap w.params).nsMap mainGlobals "__annotations__") N (bootT w os) (topStub p)).map (fun s => let a := s.abs;
        (staticsOk (importedModules p.main.body) (boot_heap w.params) a.heap && namesBound p a.heap && gensDone a && laidKept (boot_heap w.params) a.heap, PySem.W.Fast.tw4187177175401517315 q loose (importedModules p.main.body) Xt g0 a, Yf a)) = some (true, openGood q loose, Ya w)) : LeftO p q loose Xt Yf Ya N g0 := by
  refine left_of_bootT e hN f hb h1 fun w os => ?_
  rw [← runQ_eq, PySem.W.Fast.te4187177175401517315]
  exact h w os

local macro_rules | `(tactic| walk_at $s:str) => `(tactic| k_extra $s)
example : PySem.Challenge.rw_nt0547_01 = PySem.Challenge.rw_nt0547_01 ∧ KP = KP := by
  k_fill
  exact ⟨rfl, rfl⟩

/-- the contract of a call of the def at f: from any frame, over the ledger news, it hands back r and a ledger by R, or an exception of an own class C with X C flies, the ledger as it stood -/
def Calls (prog : Program) (w : World) (d : Nat) (f : Addr) (args : List Value) (news : List (Addr × Obj)) (R : Value → List (Addr × Obj) → Prop) (X : Addr → Prop) : Prop :=
  ∀ (dp un : Nat) (gd : Option (List Code)) (cn : Str) (cs : Scope) (a : Addr) (ccd : Value) (cl : List (Str × Addr)) (outer : List Env) (A₀ : Around) (base h₀ : Heap) (L : Addr) (m : Str → Option Value) (s : Shared)
    (p : Program) (loose : List Str) (mean : ExcName → Option Value) (mg mb : Str → Option Value) (Q E : Value → Shared → Prop),
    Below A₀ base outer h₀ → Fr h₀ L s.heap m → (KP w.params).In h₀ → News h₀ L s.heap news → Top p loose mean mg mb h₀ → cs.kind = .function → dp + d < recursionLimit → un + 8 * d < cLine →
    (∀ r news' h' tk', R r news' → Fr h₀ L h' m → News h₀ L h' news' → Q r { s with heap := h', toks := tk' }) →
    (∀ C g e h' tk', X C → Fr h₀ L g m → RaisedM base g (envX cn cs L a ccd cl :: outer) e (.ref C) news h' → g.UpToSlots h' → E (.ref e) { s with heap := h', toks := tk' }) →
    wpAny (model prog w) (ktrTop dp un gd cn cs L a ccd cl outer) (call (.ref f) args) Q E s

section
variable {prog : Program} {w : World} {d f : Nat} {args : List Value} {news : List (Addr × Obj)} {R : Value → List (Addr × Obj) → Prop} {X : Addr → Prop}
theorem Calls.use {dp un : Nat} {gd : Option (List Code)} {cn : Str} {cs : Scope} {a : Addr} {ccd : Value} {cl : List (Str × Addr)} {outer : List Env} {A₀ : Around} {base h₀ : Heap} {L : Addr} {m : Str → Option Value} {s : Shared}
    {p : Program} {loose : List Str} {mean : ExcName → Option Value} {mg mb : Str → Option Value} {Q E : Value → Shared → Prop}
    (c : Calls prog w d f args news R X) (hB : Below A₀ base outer h₀) (hF : Fr h₀ L s.heap m) (hX : (KP w.params).In h₀) (hN : News h₀ L s.heap news) (hT : Top p loose mean mg mb h₀) (hk : cs.kind = .function)
    (hd : dp + d < recursionLimit) (hu : un + 8 * d < cLine)
    (hret : ∀ r news' h' tk', R r news' → Fr h₀ L h' m → News h₀ L h' news' → Q r { s with heap := h', toks := tk' })
    (hex : ∀ C g e h' tk', X C → Fr h₀ L g m → RaisedM base g (envX cn cs L a ccd cl :: outer) e (.ref C) news h' → g.UpToSlots h' → E (.ref e) { s with heap := h', toks := tk' }) :
    wpAny (model prog w) (ktrTop dp un gd cn cs L a ccd cl outer) (call (.ref f) args) Q E s :=
  c _ _ _ _ _ _ _ _ _ _ _ _ _ _ _ _ _ _ _ _ _ _ hB hF hX hN hT hk hd hu hret hex

theorem RaisedM.sub {base G : Heap} {l : List Env} {e : Addr} {cls : Value} {news news' : List (Addr × Obj)} {h : Heap} (R : RaisedM base G l e cls news h) (hs : ∀ p ∈ news', p ∈ news) : RaisedM base G l e cls news' h := by
  obtain ⟨B, a0, h1, h2, h3, h4⟩ := R
  exact ⟨B, a0, h1, h2, fun q hq => h3 q (hs q hq), h4⟩

theorem Calls.weaken {R' : Value → List (Addr × Obj) → Prop} {X' : Addr → Prop} {d' : Nat} (c : Calls prog w d f args news R X) (hR : ∀ r n, R r n → R' r n) (hX : ∀ C, X C → X' C) (hd : d ≤ d') : Calls prog w d' f args news R' X' := by
  intro dp un gd cn cs a ccd cl outer A₀ base h₀ L m s p loose mean mg mb Q E hB hF hX' hN hT hk hd' hu hret hex
  exact c _ _ _ _ _ _ _ _ _ _ _ _ _ _ _ _ _ _ _ _ _ _ hB hF hX' hN hT hk (by omega) (by omega) (fun r n h' tk' hr => hret r n h' tk' (hR r n hr)) (fun C g e h' tk' x => hex C g e h' tk' (hX C x))

/-- a contract over a ledger with the entry (sa, o) in front is one with it anywhere -/
theorem Calls.perm {sa : Addr} {o : Obj} {pre post : List (Addr × Obj)} {S : Value → Obj → List (Addr × Obj) → Prop}
    (c : Calls prog w d f args ((sa, o) :: (pre ++ post)) (fun r n => ∃ o' tl, S r o' tl ∧ n = (sa, o') :: (tl ++ (pre ++ post))) (fun _ => False)) :
    Calls prog w d f args (pre ++ (sa, o) :: post) (fun r n => ∃ o' tl, S r o' tl ∧ n = tl ++ (pre ++ (sa, o') :: post)) (fun _ => False) := by
  intro dp un gd cn cs a ccd cl outer A₀ base h₀ L m s p loose mean mg mb Q E hB hF hX' hN hT hk hd' hu hret hex
  refine c _ _ _ _ _ _ _ _ _ _ _ _ _ _ _ _ _ _ _ _ _ _ hB hF hX' (fun p hp => hN p ?_) hT hk hd' hu (fun r n h' tk' hr F' N' => ?_) (fun C g e h' tk' x => x.elim)
  · rcases List.mem_cons.mp hp with rfl | hp
    · exact List.mem_append_right _ (.head _)
    · rcases List.mem_append.mp hp with hp | hp
      · exact List.mem_append_left _ hp
      · exact List.mem_append_right _ (.tail _ hp)
  · obtain ⟨o', tl, hs, rfl⟩ := hr
    refine hret r _ h' tk' ⟨o', tl, hs, rfl⟩ F' (fun p hp => N' p ?_)
    rcases List.mem_append.mp hp with hp | hp
    · exact .tail _ (List.mem_append_left _ hp)
    · rcases List.mem_append.mp hp with hp | hp
      · exact .tail _ (List.mem_append_right _ (List.mem_append_left _ hp))
      · rcases List.mem_cons.mp hp with rfl | hp
        · exact .head _
        · exact .tail _ (List.mem_append_right _ (List.mem_append_right _ hp))
end

theorem exc44 (w : World) : ExcC (KP w.params) 44 31 28 := ⟨⟨_, _, _, _, _, _, _, _, _, _, _, _, _, _, by k_is⟩, by k_is, by k_is, by k_is, by k_is⟩
theorem exc56 (w : World) : ExcC (KP w.params) 56 31 28 := ⟨⟨_, _, _, _, _, _, _, _, _, _, _, _, _, _, by k_is⟩, by k_is, by k_is, by k_is, by k_is⟩
theorem exc68 (w : World) : ExcC (KP w.params) 68 31 28 := ⟨⟨_, _, _, _, _, _, _, _, _, _, _, _, _, _, by k_is⟩, by k_is, by k_is, by k_is, by k_is⟩

theorem raise44 {prog : Program} {w : World} {A : Around} {E : Value → Shared → Prop} {s : Shared} {env : Env} {x : PySem.Expr} {pos : Pos} {Q : Flow → Shared → Prop} (hh : A.handled = none)
    (h : wpAny (model prog w) A (eval x env) (RaiseAt (KP w.params) 44 E) E s) : wpAny (model prog w) A (exec (.Raise (some x) none pos) env) Q E s := raise_own (exc44 w) hh h
theorem raise56 {prog : Program} {w : World} {A : Around} {E : Value → Shared → Prop} {s : Shared} {env : Env} {x : PySem.Expr} {pos : Pos} {Q : Flow → Shared → Prop} (hh : A.handled = none)
    (h : wpAny (model prog w) A (eval x env) (RaiseAt (KP w.params) 56 E) E s) : wpAny (model prog w) A (exec (.Raise (some x) none pos) env) Q E s := raise_own (exc56 w) hh h
theorem raise68 {prog : Program} {w : World} {A : Around} {E : Value → Shared → Prop} {s : Shared} {env : Env} {x : PySem.Expr} {pos : Pos} {Q : Flow → Shared → Prop} (hh : A.handled = none)
    (h : wpAny (model prog w) A (eval x env) (RaiseAt (KP w.params) 68 E) E s) : wpAny (model prog w) A (exec (.Raise (some x) none pos) env) Q E s := raise_own (exc68 w) hh h

theorem meta_Exception : typeOf (.type "Exception") = pure (.type "type") := by kernel_rfl

section
set_option maxHeartbeats 1000000 in
theorem exc_call {prog : Program} {w : World} {news : List (Addr × Obj)} {C : Addr} {x : Str} {tx : Tok} {A₀ A : Around} {base h₀ : Heap} {env : Env} {outer : List Env} {L : Addr} {m : Str → Option Value} {s : Shared} {p : Program} {loose : List Str} {mean : ExcName → Option Value} {mg mb : Str → Option Value}
    {Q E : Value → Shared → Prop} (Z : ExcC (KP w.params) C 31 28)
    (hB : Below A₀ base outer h₀) (hF : Fr h₀ L s.heap m) (hX : (KP w.params).In h₀) (hN : News h₀ L s.heap news) (hT : Top p loose mean mg mb h₀)
    (hA : A.frames = some (env :: outer)) (hf : env.frame = some L) (hke : env.scope.kind = .function) (hd : A.depth + 1 < recursionLimit)
    (h : ∀ e t dx h' tk', Fr h₀ L h' m → News h₀ L h' ((e, excObjD C t dx) :: news) → (∀ p ∈ news, p.1 ≠ e) → Q (.ref e) { s with heap := h', toks := tk' }) :
    wpAny (model prog w) A (call (.ref C) [.str x tx]) Q E s := by
  k_with_none
  k_with "getMethod type:Exception" => (k_here; refine' method_type ?F ?X ?m (by decide +kernel) ?e ?h ?_; (case F => k_asm); (case X => k_asm); (case m => exact meta_Exception); (case e => k_dflt k_is); (case h => k_handed))
  k_with "call builtin:Exception.__init__" => (k_here; (refine' exc_init_K ?F ?N ?X ?Z ?D ?_; (case F => k_asm); (case N => k_asm); (case X => k_asm); (case Z => k_asm); (case D => k_asm)); intro h' t' F' N'; (try k_sweep))
  k_with "setAttr ref" => (k_here; (refine' exc_store_K ?F ?N ?X ?Z ?D ?_; (case F => k_asm); (case N => k_asm); (case X => k_asm); (case Z => k_asm); (case D => k_asm)); intro h' tk' dx' F' N'; (try k_sweep))
  refine wpAny_call (exc_make_K hF hN hX Z ?_)
  intro e t h1 F1 N1 hne
  have hd2 : (A.under (Code.builtin "type.__call__" ⟨[.ref C, .str x tx], []⟩)).depth < recursionLimit := by
    rw [depth_under_make]; exact hd
  have hA2 : (A.under (Code.builtin "type.__call__" ⟨[.ref C, .str x tx], []⟩)).frames = some (env :: outer) := by
    exact hA
  k_dflt (refine' code_def ?k1 ?k2 ?k3 ?k4 ?k5 ?kA ?kF ?kK ?k6 ?k7 ?k8 ?k9 ?kB ?_ ?c2 ?c3 ?c4 ?c5; (case kA => exact hA2); (case kF => exact hf); (case kK => assumption); (case k1 => k_asm); (case k2 => k_asm); (case k3 => k_asm); (case k4 => k_asm); (case k5 => k_asm); (case k6 => k_is); (case k7 => k_is); (case k8 => exact hd2); (case k9 => exact BindsTo.of_eq rfl); (case c5 => decide); (case kB => exact locs rfl); (case c2 => exact rfl); (case c3 => exact rfl); (case c4 => exact rfl); k_whole; intro g' L' h' FG' F' N' B' X' T'; (try dsimp only); (try k_fold))
  k_steps
  exact h _ _ _ _ _ (by assumption) (by assumption) hne
end

set_option maxHeartbeats 1000000 in
theorem is_restart_spec {prog : Program} {w : World} (news : List (Addr × Obj)) (c : Int) (t : Tok) :
    Calls prog w 1 96 [.int c t] news (fun r n' => r = .bool (decide (208 ≤ c ∧ c ≤ 215)) ∧ n' = news) (fun _ => False) := by
  k_with_none
  k_with "exec Raise some none" => (k_here; (with_reducible show wpAny _ _ (exec (Stmt.Raise (some (PySem.Expr.Call (PySem.Expr.Name ("CutError" : Str) _) _ _ _)) none _) _) _ _ _); k_dflt (refine raise68 rfl ?_))
  k_with "exec Raise some none" => (k_here; (with_reducible show wpAny _ _ (exec (Stmt.Raise (some (PySem.Expr.Call (PySem.Expr.Name ("MarkerError" : Str) _) _ _ _)) none _) _) _ _ _); k_dflt (refine raise44 rfl ?_))
  k_with "exec Raise some none" => (k_here; (with_reducible show wpAny _ _ (exec (Stmt.Raise (some (PySem.Expr.Call (PySem.Expr.Name ("SegmentError" : Str) _) _ _ _)) none _) _) _ _ _); k_dflt (refine raise56 rfl ?_))
  k_with "call ref" => (k_here; (with_reducible show wpAny _ _ (call (Value.ref _) [Value.str _ _]) (RaiseAt _ _ _) _ _); k_dflt (first | refine' exc_call (exc68 _) ?k1 ?k2 ?k3 ?k4 ?k5 ?kA ?kF ?kK ?kd ?_ | refine' exc_call (exc44 _) ?k1 ?k2 ?k3 ?k4 ?k5 ?kA ?kF ?kK ?kd ?_ | refine' exc_call (exc56 _) ?k1 ?k2 ?k3 ?k4 ?k5 ?kA ?kF ?kK ?kd ?_); (case k1 => k_asm); (case k2 => k_asm); (case k3 => k_asm); (case k4 => k_asm); (case k5 => k_asm); (case kA => exact rfl); (case kF => exact rfl); (case kK => first | exact rfl | assumption); (case kd => ktr_room); intro e' t' dx' h' tk' F' N' D'; refine ⟨_, _, _, rfl, Frag.In.keeps (by k_asm) (Fr.keep F'), News.get N' (.head _), ?_⟩; (try k_sweep))
  k_with "leaving ref" => (k_here; k_dflt (first | (refine' leave_raiseM ?k1 ?k2 ?k3 ?k4 ?_; (case k3 => assumption); (case k1 => assumption); (case k2 => assumption); (case k4 => assumption); intro h' R' U'; (try dsimp only at R' U' ⊢)) | (refine' leave_onM ?k1 ?k2 ?k3 ?k4 ?_; (case k3 => assumption); (case k1 => assumption); (case k4 => assumption); (case k2 => assumption); intro h' R' U'; (try dsimp only at R' U' ⊢))))
  k_with "call type:bytes" => (k_here; (with_reducible show wpAny _ _ (call (Value.type "bytes") [Value.bytes _ _]) _ _ _); k_dflt (refine bytes_again ?_); intro _)
  k_with "call type:bytes" => (k_here; (with_reducible show wpAny _ _ (call (Value.type "bytes") [Value.int _ _]) _ _ _); k_dflt (refine bytes_zeros (by omega) (by omega) ?_); intro _ _)
  intro dp un gd cn cs a ccd cl outer A₀ base h₀ L m s p loose mean mg mb Q E hB hF hX hN hT hk hd hu hret hex
  refine wpAny_call ?_
  k_dflt cell_enter
  k_steps
  · (refine' hret _ _ _ _ (⟨?h1, rfl⟩) ?hF ?hN; (case hN => assumption); (case hF => assumption); (case h1 => (congr 1; apply decide_eq_decide.mpr; omega)))
  · (refine' hret _ _ _ _ (⟨?h1, rfl⟩) ?hF ?hN; (case hN => assumption); (case hF => assumption); (case h1 => (congr 1; apply decide_eq_decide.mpr; omega)))

section
variable {b : Array UInt8} {ks : List Int} {i j : Int}
theorem cut_ij (hb : KBw.bInts b = ks) (h0 : 0 ≤ i) (h1 : i ≤ ks.length) (h2 : 0 ≤ j) (h3 : j ≤ ks.length) : KBw.bInts (KBy.picked b (some i) (some j)) = (ks.drop i.toNat).take (j.toNat - i.toNat) := by
  rw [KBc.ints_picked hb]; simp only [Option.elim]; rw [clipAt_in h0 h1, clipAt_in h2 h3]
theorem cut_i (hb : KBw.bInts b = ks) (h0 : 0 ≤ i) (h1 : i ≤ ks.length) : KBw.bInts (KBy.picked b (some i) none) = ks.drop i.toNat := by
  rw [KBc.ints_picked hb]; simp only [Option.elim]; rw [clipAt_in h0 h1, List.take_of_length_le (by rw [List.length_drop]; omega)]
theorem cut_j (hb : KBw.bInts b = ks) (h2 : 0 ≤ j) (h3 : j ≤ ks.length) : KBw.bInts (KBy.picked b none (some j)) = ks.take j.toNat := by
  rw [KBc.ints_picked hb]; simp only [Option.elim, List.drop_zero]; rw [clipAt_in h2 h3, Nat.sub_zero]
end

/-- the number of two octets at i -/
def size2 (ks : List Int) (i : Int) : Int := ks.getD i.toNat 0 * 256 + ks.getD (i + 1).toNat 0
/-- the parameters whose length stands at i, and the place behind them -/
def payloadM (ks : List Int) (i : Int) : Except Nat (List Int × Int) :=
  if ks.length < i + 2 then .error 68 else if size2 ks i < 2 then .error 56 else if ks.length < i + size2 ks i then .error 68
  else .ok ((ks.drop (i + 2).toNat).take ((i + size2 ks i).toNat - (i + 2).toNat), i + size2 ks i)

set_option maxHeartbeats 1000000 in
theorem read_payload_spec {prog : Program} {w : World} (news : List (Addr × Obj)) (b : Array UInt8) (ks : List Int) (tb : Tok) (c : Int) (t : Tok) (hb : KBw.bInts b = ks) (hl : ks.length ≤ 1000000) (h0 : 0 ≤ c) :
    Calls prog w 4 153 [.bytes b tb, .int c t] news (fun r n' => ∃ (pl : List Int) (j : Int) (D : Addr) (b' : Array UInt8) (t1 t2 : Tok), payloadM ks c = .ok (pl, j) ∧ 0 ≤ j ∧ r = .ref D ∧ n' = (D, tupObj [.bytes b' t1, .int j t2]) :: news ∧ KBw.bInts b' = pl)
      (fun C => payloadM ks c = .error C) := by
  k_with_none
  k_with "exec Raise some none" => (k_here; (with_reducible show wpAny _ _ (exec (Stmt.Raise (some (PySem.Expr.Call (PySem.Expr.Name ("CutError" : Str) _) _ _ _)) none _) _) _ _ _); k_dflt (refine raise68 rfl ?_))
  k_with "exec Raise some none" => (k_here; (with_reducible show wpAny _ _ (exec (Stmt.Raise (some (PySem.Expr.Call (PySem.Expr.Name ("MarkerError" : Str) _) _ _ _)) none _) _) _ _ _); k_dflt (refine raise44 rfl ?_))
  k_with "exec Raise some none" => (k_here; (with_reducible show wpAny _ _ (exec (Stmt.Raise (some (PySem.Expr.Call (PySem.Expr.Name ("SegmentError" : Str) _) _ _ _)) none _) _) _ _ _); k_dflt (refine raise56 rfl ?_))
  k_with "call ref" => (k_here; (with_reducible show wpAny _ _ (call (Value.ref _) [Value.str _ _]) (RaiseAt _ _ _) _ _); k_dflt (first | refine' exc_call (exc68 _) ?k1 ?k2 ?k3 ?k4 ?k5 ?kA ?kF ?kK ?kd ?_ | refine' exc_call (exc44 _) ?k1 ?k2 ?k3 ?k4 ?k5 ?kA ?kF ?kK ?kd ?_ | refine' exc_call (exc56 _) ?k1 ?k2 ?k3 ?k4 ?k5 ?kA ?kF ?kK ?kd ?_); (case k1 => k_asm); (case k2 => k_asm); (case k3 => k_asm); (case k4 => k_asm); (case k5 => k_asm); (case kA => exact rfl); (case kF => exact rfl); (case kK => first | exact rfl | assumption); (case kd => ktr_room); intro e' t' dx' h' tk' F' N' D'; refine ⟨_, _, _, rfl, Frag.In.keeps (by k_asm) (Fr.keep F'), News.get N' (.head _), ?_⟩; (try k_sweep))
  k_with "leaving ref" => (k_here; k_dflt (first | (refine' leave_raiseM ?k1 ?k2 ?k3 ?k4 ?_; (case k3 => assumption); (case k1 => assumption); (case k2 => assumption); (case k4 => assumption); intro h' R' U'; (try dsimp only at R' U' ⊢)) | (refine' leave_onM ?k1 ?k2 ?k3 ?k4 ?_; (case k3 => assumption); (case k1 => assumption); (case k4 => assumption); (case k2 => assumption); intro h' R' U'; (try dsimp only at R' U' ⊢))))
  k_with "call type:bytes" => (k_here; (with_reducible show wpAny _ _ (call (Value.type "bytes") [Value.bytes _ _]) _ _ _); k_dflt (refine bytes_again ?_); intro _)
  k_with "call type:bytes" => (k_here; (with_reducible show wpAny _ _ (call (Value.type "bytes") [Value.int _ _]) _ _ _); k_dflt (refine bytes_zeros (by omega) (by omega) ?_); intro _ _)
  intro dp un gd cn cs a ccd cl outer A₀ base h₀ L m s p loose mean mg mb Q E hB hF hX hN hT hk hd hu hret hex
  refine wpAny_call ?_
  k_dflt cell_enter
  k_steps
  · (refine' hex _ _ _ _ _ ?hx ?hF ?hR ?hU; (case hR => first | assumption | exact RaisedM.sub (by assumption) (fun p hp => by simp [hp])); (case hF => assumption); (case hU => assumption); (case hx => (rw [payloadM, if_pos (by omega)])))
  · (refine' hex _ _ _ _ _ ?hx ?hF ?hR ?hU; (case hR => first | assumption | exact RaisedM.sub (by assumption) (fun p hp => by simp [hp])); (case hF => assumption); (case hU => assumption); (case hx => (rw [payloadM, if_neg (by omega), if_pos (by simp only [size2]; omega)])))
  · (refine' hex _ _ _ _ _ ?hx ?hF ?hR ?hU; (case hR => first | assumption | exact RaisedM.sub (by assumption) (fun p hp => by simp [hp])); (case hF => assumption); (case hU => assumption); (case hx => (rw [payloadM, if_neg (by omega), if_neg (by simp only [size2]; omega), if_pos (by simp only [size2]; omega)])))
  · (refine' hret _ _ _ _ (⟨_, _, _, _, _, _, ?h1, ?h2, rfl, rfl, rfl⟩) ?hF ?hN; (case hN => assumption); (case hF => assumption); (case h2 => omega); (case h1 => (rw [payloadM, if_neg (by omega), if_neg (by simp only [size2]; omega), if_neg (by simp only [size2]; omega)]; simp only [size2]; rw [cut_ij hb (by omega) (by omega) (by omega) (by omega)])))


set_option maxHeartbeats 1000000 in
theorem has_length_spec {prog : Program} {w : World} (news : List (Addr × Obj)) (c : Int) (t : Tok) :
    Calls prog w 2 103 [.int c t] news (fun r n' => r = .bool (decide (¬ (c = 216 ∨ c = 217 ∨ c = 1) ∧ ¬ (208 ≤ c ∧ c ≤ 215))) ∧ n' = news) (fun _ => False) := by
  k_with_none
  k_with "exec Raise some none" => (k_here; (with_reducible show wpAny _ _ (exec (Stmt.Raise (some (PySem.Expr.Call (PySem.Expr.Name ("CutError" : Str) _) _ _ _)) none _) _) _ _ _); k_dflt (refine raise68 rfl ?_))
  k_with "exec Raise some none" => (k_here; (with_reducible show wpAny _ _ (exec (Stmt.Raise (some (PySem.Expr.Call (PySem.Expr.Name ("MarkerError" : Str) _) _ _ _)) none _) _) _ _ _); k_dflt (refine raise44 rfl ?_))
  k_with "exec Raise some none" => (k_here; (with_reducible show wpAny _ _ (exec (Stmt.Raise (some (PySem.Expr.Call (PySem.Expr.Name ("SegmentError" : Str) _) _ _ _)) none _) _) _ _ _); k_dflt (refine raise56 rfl ?_))
  k_with "call ref" => (k_here; (with_reducible show wpAny _ _ (call (Value.ref _) [Value.str _ _]) (RaiseAt _ _ _) _ _); k_dflt (first | refine' exc_call (exc68 _) ?k1 ?k2 ?k3 ?k4 ?k5 ?kA ?kF ?kK ?kd ?_ | refine' exc_call (exc44 _) ?k1 ?k2 ?k3 ?k4 ?k5 ?kA ?kF ?kK ?kd ?_ | refine' exc_call (exc56 _) ?k1 ?k2 ?k3 ?k4 ?k5 ?kA ?kF ?kK ?kd ?_); (case k1 => k_asm); (case k2 => k_asm); (case k3 => k_asm); (case k4 => k_asm); (case k5 => k_asm); (case kA => exact rfl); (case kF => exact rfl); (case kK => first | exact rfl | assumption); (case kd => ktr_room); intro e' t' dx' h' tk' F' N' D'; refine ⟨_, _, _, rfl, Frag.In.keeps (by k_asm) (Fr.keep F'), News.get N' (.head _), ?_⟩; (try k_sweep))
  k_with "leaving ref" => (k_here; k_dflt (first | (refine' leave_raiseM ?k1 ?k2 ?k3 ?k4 ?_; (case k3 => assumption); (case k1 => assumption); (case k2 => assumption); (case k4 => assumption); intro h' R' U'; (try dsimp only at R' U' ⊢)) | (refine' leave_onM ?k1 ?k2 ?k3 ?k4 ?_; (case k3 => assumption); (case k1 => assumption); (case k4 => assumption); (case k2 => assumption); intro h' R' U'; (try dsimp only at R' U' ⊢))))
  k_with "call type:bytes" => (k_here; (with_reducible show wpAny _ _ (call (Value.type "bytes") [Value.bytes _ _]) _ _ _); k_dflt (refine bytes_again ?_); intro _)
  k_with "call type:bytes" => (k_here; (with_reducible show wpAny _ _ (call (Value.type "bytes") [Value.int _ _]) _ _ _); k_dflt (refine bytes_zeros (by omega) (by omega) ?_); intro _ _)
  k_with "call ref" => (k_here; (with_reducible show wpAny _ _ (call (Value.ref 96) _) _ _ _); k_dflt (refine' Calls.use (is_restart_spec _ _ _) ?k1 ?k2 ?k3 ?k4 ?k5 ?kK ?kd ?ku ?_ ?_); (case k1 => k_asm); (case k2 => k_asm); (case k3 => k_asm); (case k4 => k_asm); (case k5 => k_asm); (case kK => first | exact rfl | assumption); (case kd => ktr_room); (case ku => ktr_units); (all_goals first | (intro C' g' e' h' tk' hx' FG' R' U'; first | exact hx'.elim | ((with_reducible have ck' := RaisedM.sub R' (fun _ hp => hp)); clear ck'; (try dsimp only at R' U'))) | (intro r' n' h' tk' hR' F' N'; (try k_sweep); (obtain ⟨rfl, rfl⟩ := hR'); (try dsimp only); (try k_fold))))
  intro dp un gd cn cs a ccd cl outer A₀ base h₀ L m s p loose mean mg mb Q E hB hF hX hN hT hk hd hu hret hex
  refine wpAny_call ?_
  k_dflt cell_enter
  k_steps
  · rename (List.any _ _ = true) => a
    rename News _ _ _ _ => N9; replace N9 := cb_drop N9 (news := news) (fun p hp => .tail _ hp)
    (refine' hret _ _ _ _ (⟨?h1, rfl⟩) ?hF ?hN; (case hN => assumption); (case hF => assumption); (case h1 => (congr 1; simp only [List.any_cons, List.any_nil, Bool.or_false, Bool.or_eq_true, beq_iff_eq] at a; simp only [List.any_cons, List.any_nil, Bool.or_false]; rcases a with e | e | e <;> subst e <;> decide)))
  · rename (List.any _ _ = false) => a
    rename News _ _ _ _ => N9; replace N9 := cb_drop N9 (news := news) (fun p hp => .tail _ hp)
    (refine' hret _ _ _ _ (⟨?h1, rfl⟩) ?hF ?hN; (case hN => assumption); (case hF => assumption); (case h1 => (congr 1; rw [Bool.eq_iff_iff]; simp only [List.any_cons, List.any_nil, Bool.or_false, Bool.or_eq_false_iff, beq_eq_false_iff_ne] at a; simp only [Bool.not_eq_true', decide_eq_false_iff_not, decide_eq_true_eq]; omega)))

abbrev hitM (ks : List Int) (i : Nat) : Prop := ks.getD i 0 = 255 ∧ ks.getD (i+1) 0 ≠ 0 ∧ ks.getD (i+1) 0 ≠ 255
def nextM (ks : List Int) (i : Nat) : Option Nat :=
  if i + 1 < ks.length then (if hitM ks i then some i else nextM ks (i + 1)) else none
termination_by ks.length - i

section
variable {ks : List Int} {i : Int} {x : Option Nat}
theorem nextM_miss (h0 : 0 ≤ i) (h : i + 1 < ks.length) (hm : ¬ hitM ks i.toNat) (hn : nextM ks i.toNat = x) : 0 ≤ i + 1 ∧ nextM ks (i + 1).toNat = x := by
  refine ⟨by omega, ?_⟩
  rw [← hn, nextM.eq_1 ks i.toNat, if_pos (by omega), if_neg hm, show (i + 1).toNat = i.toNat + 1 by omega]
theorem nextM_a (h0 : 0 ≤ i) (h : i + 1 < ks.length) (hm : ks.getD i.toNat 0 ≠ 255) (hn : nextM ks i.toNat = x) : 0 ≤ i + 1 ∧ nextM ks (i + 1).toNat = x :=
  nextM_miss h0 h (fun q => hm q.1) hn
theorem nextM_b (h0 : 0 ≤ i) (h : i + 1 < ks.length) (hm : ([0, 255].any fun x => x == ks.getD (i + 1).toNat 0) = true) (hn : nextM ks i.toNat = x) : 0 ≤ i + 1 ∧ nextM ks (i + 1).toNat = x := by
  refine nextM_miss h0 h (fun q => ?_) hn
  obtain ⟨_, h1, h2⟩ := q
  rw [show i.toNat + 1 = (i + 1).toNat by omega] at h1 h2
  simp only [List.any_cons, List.any_nil, Bool.or_false, Bool.or_eq_true, beq_iff_eq] at hm
  omega
theorem nextM_hit (h0 : 0 ≤ i) (h : i + 1 < ks.length) (h1 : ks.getD i.toNat 0 = 255) (hm : ([0, 255].any fun x => x == ks.getD (i + 1).toNat 0) = false) (hn : nextM ks i.toNat = x) : x = some i.toNat := by
  have e : i.toNat + 1 = (i + 1).toNat := by omega
  simp only [List.any_cons, List.any_nil, Bool.or_false, Bool.or_eq_false_iff, beq_eq_false_iff_ne] at hm
  rw [← hn, nextM.eq_1 ks i.toNat, if_pos (by omega), if_pos ⟨h1, by rw [e]; omega, by rw [e]; omega⟩]
theorem nextM_end (h0 : 0 ≤ i) (h : ¬ i + 1 < ks.length) (hn : nextM ks i.toNat = x) : x = none := by
  rw [← hn, nextM.eq_1 ks i.toNat, if_neg (by omega)]
end

/-- what a look for a marker hands back: nothing, or a pair (place, code) at D -/
abbrev Found := Option (Int × Addr × Tok × Tok)
abbrev fdLed (ks : List Int) (news : List (Addr × Obj)) : Found → List (Addr × Obj)
  | none => news
  | some (p, D, t1, t2) => (D, tupObj [.int p t1, .int (ks.getD (p + 1).toNat 0) t2]) :: news
abbrev fdVal : Found → Value
  | none => .none
  | some (_, D, _, _) => .ref D
def fdNext (ks : List Int) (i : Nat) : Found → Prop
  | none => nextM ks i = none
  | some (p, _, _, _) => 0 ≤ p ∧ nextM ks i = some p.toNat

set_option maxHeartbeats 1000000 in
theorem next_marker_spec {prog : Program} {w : World} (news : List (Addr × Obj)) (b : Array UInt8) (ks : List Int) (tb : Tok) (c : Int) (t : Tok) (hb : KBw.bInts b = ks) (hl : ks.length ≤ 1000000) (h0 : 0 ≤ c) :
    Calls prog w 1 132 [.bytes b tb, .int c t] news (fun r n' => ∃ f : Found, fdNext ks c.toNat f ∧ r = fdVal f ∧ n' = fdLed ks news f) (fun _ => False) := by
  k_with_none
  k_with "exec Raise some none" => (k_here; (with_reducible show wpAny _ _ (exec (Stmt.Raise (some (PySem.Expr.Call (PySem.Expr.Name ("CutError" : Str) _) _ _ _)) none _) _) _ _ _); k_dflt (refine raise68 rfl ?_))
  k_with "exec Raise some none" => (k_here; (with_reducible show wpAny _ _ (exec (Stmt.Raise (some (PySem.Expr.Call (PySem.Expr.Name ("MarkerError" : Str) _) _ _ _)) none _) _) _ _ _); k_dflt (refine raise44 rfl ?_))
  k_with "exec Raise some none" => (k_here; (with_reducible show wpAny _ _ (exec (Stmt.Raise (some (PySem.Expr.Call (PySem.Expr.Name ("SegmentError" : Str) _) _ _ _)) none _) _) _ _ _); k_dflt (refine raise56 rfl ?_))
  k_with "call ref" => (k_here; (with_reducible show wpAny _ _ (call (Value.ref _) [Value.str _ _]) (RaiseAt _ _ _) _ _); k_dflt (first | refine' exc_call (exc68 _) ?k1 ?k2 ?k3 ?k4 ?k5 ?kA ?kF ?kK ?kd ?_ | refine' exc_call (exc44 _) ?k1 ?k2 ?k3 ?k4 ?k5 ?kA ?kF ?kK ?kd ?_ | refine' exc_call (exc56 _) ?k1 ?k2 ?k3 ?k4 ?k5 ?kA ?kF ?kK ?kd ?_); (case k1 => k_asm); (case k2 => k_asm); (case k3 => k_asm); (case k4 => k_asm); (case k5 => k_asm); (case kA => exact rfl); (case kF => exact rfl); (case kK => first | exact rfl | assumption); (case kd => ktr_room); intro e' t' dx' h' tk' F' N' D'; refine ⟨_, _, _, rfl, Frag.In.keeps (by k_asm) (Fr.keep F'), News.get N' (.head _), ?_⟩; (try k_sweep))
  k_with "leaving ref" => (k_here; k_dflt (first | (refine' leave_raiseM ?k1 ?k2 ?k3 ?k4 ?_; (case k3 => assumption); (case k1 => assumption); (case k2 => assumption); (case k4 => assumption); intro h' R' U'; (try dsimp only at R' U' ⊢)) | (refine' leave_onM ?k1 ?k2 ?k3 ?k4 ?_; (case k3 => assumption); (case k1 => assumption); (case k4 => assumption); (case k2 => assumption); intro h' R' U'; (try dsimp only at R' U' ⊢))))
  k_with "call type:bytes" => (k_here; (with_reducible show wpAny _ _ (call (Value.type "bytes") [Value.bytes _ _]) _ _ _); k_dflt (refine bytes_again ?_); intro _)
  k_with "call type:bytes" => (k_here; (with_reducible show wpAny _ _ (call (Value.type "bytes") [Value.int _ _]) _ _ _); k_dflt (refine bytes_zeros (by omega) (by omega) ?_); intro _ _)
  k_with "call ref" => (k_here; (with_reducible show wpAny _ _ (call (Value.ref 96) _) _ _ _); k_dflt (refine' Calls.use (is_restart_spec _ _ _) ?k1 ?k2 ?k3 ?k4 ?k5 ?kK ?kd ?ku ?_ ?_); (case k1 => k_asm); (case k2 => k_asm); (case k3 => k_asm); (case k4 => k_asm); (case k5 => k_asm); (case kK => first | exact rfl | assumption); (case kd => ktr_room); (case ku => ktr_units); (all_goals first | (intro C' g' e' h' tk' hx' FG' R' U'; first | exact hx'.elim | ((with_reducible have ck' := RaisedM.sub R' (fun _ hp => hp)); clear ck'; (try dsimp only at R' U'))) | (intro r' n' h' tk' hR' F' N'; (try k_sweep); (obtain ⟨rfl, rfl⟩ := hR'); (try dsimp only); (try k_fold))))
  intro dp un gd cn cs a ccd cl outer A₀ base h₀ L m s p loose mean mg mb Q E hB hF hX hN hT hk hd hu hret hex
  refine wpAny_call ?_
  k_dflt cell_enter
  k_with "exec While Compare cons nil" => k_while (fun script i => 0 ≤ i ∧ nextM ks i.toNat = nextM ks c.toNat) (fun script i => ks.length - i.toNat) "at"
  k_with "state" => first | exact ⟨h0, rfl⟩ | exact nextM_a (by assumption) (by assumption) (by assumption) (by assumption) | exact nextM_b (by assumption) (by assumption) (by assumption) (by assumption)
  k_steps
  · rename News _ _ _ _ => N9; replace N9 := cb_drop N9 (news := _ :: news) (List.forall_mem_cons.mpr ⟨.head _, fun p hp => .tail _ (.tail _ hp)⟩)
    (refine' hret _ _ _ _ (⟨some (_, _, _, _), ⟨?h1, ?h2⟩, rfl, rfl⟩) ?hF ?hN; (case hN => assumption); (case hF => assumption); (case h2 => exact nextM_hit (by assumption) (by assumption) (by assumption) (by assumption) (by assumption)); (case h1 => assumption))
  · (refine' hret _ _ _ _ (⟨none, nextM_end (by assumption) (by assumption) (by assumption), rfl, rfl⟩) ?hF ?hN; (case hN => assumption); (case hF => assumption))

theorem int_same {e x : Int} {t : Tok} (h : e = x) : Value.int e t = Value.int x t := by rw [h]
theorem kst_same1 {x z : Str} {v v' : Value} {u m₀ : Str → Option Value} (h : z ≠ x) : (fun y => if y = x then some v' else kstB (fun z => if ([] : List Str).contains z then u z else m₀ z) [(x, v)] y) z = m₀ z := by
  simp [kstB, h]


/-- a goal put by, for the hand -/
def Stop (P : Prop) : Prop := P
theorem Stop.out {P : Prop} (h : Stop P) : P := h
theorem Stop.mk {P : Prop} (h : P) : Stop P := h

theorem nextM_some {ks : List Int} {i p : Nat} (h : nextM ks i = some p) : i ≤ p ∧ p + 1 < ks.length ∧ hitM ks p := by
  induction i using nextM.induct ks with
  | case1 i h1 h2 => rw [nextM.eq_1, if_pos h1, if_pos h2] at h; cases h; exact ⟨Nat.le_refl _, h1, h2⟩
  | case2 i h1 h2 ih => rw [nextM.eq_1, if_pos h1, if_neg h2] at h; have := ih h; exact ⟨by omega, this.2⟩
  | case3 i h1 => rw [nextM.eq_1, if_neg h1] at h; cases h

abbrev rstM (k : Int) : Prop := 208 ≤ k ∧ k ≤ 215
/-- the next marker from i on that is no restart -/
def endM (ks : List Int) (i : Nat) : Option Nat :=
  match h : nextM ks i with
  | none => none
  | some p => if rstM (ks.getD (p + 1) 0) then endM ks (p + 2) else some p
termination_by ks.length - i
decreasing_by have := nextM_some h; omega
theorem endM_none {ks : List Int} {i : Nat} (h : nextM ks i = none) : endM ks i = none := by
  rw [endM]; split
  · rfl
  · rename_i h'; rw [h] at h'; cases h'
theorem endM_some {ks : List Int} {i p : Nat} (h : nextM ks i = some p) : endM ks i = if rstM (ks.getD (p + 1) 0) then endM ks (p + 2) else some p := by
  rw [endM]; split
  · rename_i h'; rw [h] at h'; cases h'
  · rename_i h'; rw [h] at h'; cases h'; rfl

/-- back over fill octets from e, not below at -/
def backM (ks : List Int) (at_ : Nat) : Nat → Nat
  | 0 => 0
  | e + 1 => if at_ < e + 1 ∧ ks.getD e 0 = 255 then backM ks at_ e else e + 1



def fdOk (ks : List Int) (c : Nat) : Found → Prop
  | none => endM ks c = none
  | some (p, _, _, _) => 0 ≤ p ∧ p + 1 < ks.length ∧ endM ks c = if rstM (ks.getD (p + 1).toNat 0) then endM ks (p + 2).toNat else some p.toNat
def fdSize (ks : List Int) : Found → Nat
  | none => 0
  | some (p, _, _, _) => ks.length - p.toNat
theorem fdOk_next {ks : List Int} {c : Nat} {i : Int} {f : Found} (he : endM ks c = endM ks i.toNat) (h : fdNext ks i.toNat f) : fdOk ks c f := by
  rcases f with _ | ⟨p, D, t1, t2⟩
  · exact he.trans (endM_none h)
  · obtain ⟨h0, h⟩ := h
    obtain ⟨h1, h2, _⟩ := nextM_some h
    refine ⟨h0, by omega, ?_⟩
    rw [he, endM_some h, show p.toNat + 1 = (p + 1).toNat by omega, show p.toNat + 2 = (p + 2).toNat by omega]
theorem fdSize_next {ks : List Int} {i : Int} {f : Found} {D' : Addr} {t1' t2' : Tok} (hi : 0 ≤ i) (hl : i + 1 < ks.length) (h : fdNext ks (i + 2).toNat f) : fdSize ks f < fdSize ks (some (i, D', t1', t2')) := by
  rcases f with _ | ⟨p, D, t1, t2⟩
  · simp only [fdSize]; omega
  · obtain ⟨h0, h⟩ := h
    obtain ⟨h1, h2, _⟩ := nextM_some h
    simp only [fdSize]; omega

theorem fdLed_sub {ks : List Int} {news : List (Addr × Obj)} {x : Addr × Obj} {f : Found} : ∀ p ∈ fdLed ks news f, p ∈ fdLed ks (x :: news) f := by
  intro p hp
  rcases f with _ | ⟨q, D, t1, t2⟩
  · exact .tail _ hp
  · rcases List.mem_cons.mp hp with rfl | hp
    · exact .head _
    · exact .tail _ (.tail _ hp)

section
variable {ks : List Int} {c e : Int} {x : Nat}
theorem backM_step (h0 : 0 ≤ c) (h : c < e) (hk : ks.getD (e - 1).toNat 0 = 255) (hn : backM ks c.toNat e.toNat = x) : backM ks c.toNat (e - 1).toNat = x := by
  have e1 : e.toNat = (e - 1).toNat + 1 := by omega
  rw [← hn, e1, backM, if_pos ⟨by omega, hk⟩]
theorem backM_stop (h0 : 0 ≤ c) (h : ¬ c < e ∨ ks.getD (e - 1).toNat 0 ≠ 255) (he : 0 ≤ e) (hn : backM ks c.toNat e.toNat = x) : e = (x : Int) := by
  rw [← hn]
  cases hq : e.toNat with
  | zero => simp only [backM]; omega
  | succ n =>
    have e1 : (e - 1).toNat = n := by omega
    rw [e1] at h
    rw [backM, if_neg (fun q => h.elim (fun h => h (by omega)) fun h => h q.2)]
    omega
end

set_option maxHeartbeats 2000000 in
theorem data_end_spec {prog : Program} {w : World} (news : List (Addr × Obj)) (b : Array UInt8) (ks : List Int) (tb : Tok) (c : Int) (t : Tok) (hb : KBw.bInts b = ks) (hl : ks.length ≤ 1000000) (h0 : 0 ≤ c) :
    Calls prog w 5 139 [.bytes b tb, .int c t] news (fun r n' => ∃ (p : Nat) (tk : Tok), endM ks c.toNat = some p ∧ r = .int (backM ks c.toNat p) tk ∧ n' = news) (fun C => C = 68 ∧ endM ks c.toNat = none) := by
  k_with_none
  k_with "exec Raise some none" => (k_here; (with_reducible show wpAny _ _ (exec (Stmt.Raise (some (PySem.Expr.Call (PySem.Expr.Name ("CutError" : Str) _) _ _ _)) none _) _) _ _ _); k_dflt (refine raise68 rfl ?_))
  k_with "exec Raise some none" => (k_here; (with_reducible show wpAny _ _ (exec (Stmt.Raise (some (PySem.Expr.Call (PySem.Expr.Name ("MarkerError" : Str) _) _ _ _)) none _) _) _ _ _); k_dflt (refine raise44 rfl ?_))
  k_with "exec Raise some none" => (k_here; (with_reducible show wpAny _ _ (exec (Stmt.Raise (some (PySem.Expr.Call (PySem.Expr.Name ("SegmentError" : Str) _) _ _ _)) none _) _) _ _ _); k_dflt (refine raise56 rfl ?_))
  k_with "call ref" => (k_here; (with_reducible show wpAny _ _ (call (Value.ref _) [Value.str _ _]) (RaiseAt _ _ _) _ _); k_dflt (first | refine' exc_call (exc68 _) ?k1 ?k2 ?k3 ?k4 ?k5 ?kA ?kF ?kK ?kd ?_ | refine' exc_call (exc44 _) ?k1 ?k2 ?k3 ?k4 ?k5 ?kA ?kF ?kK ?kd ?_ | refine' exc_call (exc56 _) ?k1 ?k2 ?k3 ?k4 ?k5 ?kA ?kF ?kK ?kd ?_); (case k1 => k_asm); (case k2 => k_asm); (case k3 => k_asm); (case k4 => k_asm); (case k5 => k_asm); (case kA => exact rfl); (case kF => exact rfl); (case kK => first | exact rfl | assumption); (case kd => ktr_room); intro e' t' dx' h' tk' F' N' D'; refine ⟨_, _, _, rfl, Frag.In.keeps (by k_asm) (Fr.keep F'), News.get N' (.head _), ?_⟩; (try k_sweep))
  k_with "leaving ref" => (k_here; k_dflt (first | (refine' leave_raiseM ?k1 ?k2 ?k3 ?k4 ?_; (case k3 => assumption); (case k1 => assumption); (case k2 => assumption); (case k4 => assumption); intro h' R' U'; (try dsimp only at R' U' ⊢)) | (refine' leave_onM ?k1 ?k2 ?k3 ?k4 ?_; (case k3 => assumption); (case k1 => assumption); (case k4 => assumption); (case k2 => assumption); intro h' R' U'; (try dsimp only at R' U' ⊢))))
  k_with "call type:bytes" => (k_here; (with_reducible show wpAny _ _ (call (Value.type "bytes") [Value.bytes _ _]) _ _ _); k_dflt (refine bytes_again ?_); intro _)
  k_with "call type:bytes" => (k_here; (with_reducible show wpAny _ _ (call (Value.type "bytes") [Value.int _ _]) _ _ _); k_dflt (refine bytes_zeros (by omega) (by omega) ?_); intro _ _)
  k_with "call ref" => (k_here; (with_reducible show wpAny _ _ (call (Value.ref 96) _) _ _ _); k_dflt (refine' Calls.use (is_restart_spec _ _ _) ?k1 ?k2 ?k3 ?k4 ?k5 ?kK ?kd ?ku ?_ ?_); (case k1 => k_asm); (case k2 => k_asm); (case k3 => k_asm); (case k4 => k_asm); (case k5 => k_asm); (case kK => first | exact rfl | assumption); (case kd => ktr_room); (case ku => ktr_units); (all_goals first | (intro C' g' e' h' tk' hx' FG' R' U'; first | exact hx'.elim | ((with_reducible have ck' := RaisedM.sub R' (fun _ hp => hp)); clear ck'; (try dsimp only at R' U'))) | (intro r' n' h' tk' hR' F' N'; (try k_sweep); (obtain ⟨rfl, rfl⟩ := hR'); (try dsimp only); (try k_fold))))
  k_with "call ref" => (k_here; (with_reducible show wpAny _ _ (call (Value.ref 103) _) _ _ _); k_dflt (refine' Calls.use (has_length_spec _ _ _) ?k1 ?k2 ?k3 ?k4 ?k5 ?kK ?kd ?ku ?_ ?_); (case k1 => k_asm); (case k2 => k_asm); (case k3 => k_asm); (case k4 => k_asm); (case k5 => k_asm); (case kK => first | exact rfl | assumption); (case kd => ktr_room); (case ku => ktr_units); (all_goals first | (intro C' g' e' h' tk' hx' FG' R' U'; first | exact hx'.elim | ((with_reducible have ck' := RaisedM.sub R' (fun _ hp => hp)); clear ck'; (try dsimp only at R' U'))) | (intro r' n' h' tk' hR' F' N'; (try k_sweep); (obtain ⟨rfl, rfl⟩ := hR'); (try dsimp only); (try k_fold))))
  k_with "call ref" => (k_here; (with_reducible show wpAny _ _ (call (Value.ref 132) _) _ _ _); k_dflt (refine' Calls.use (next_marker_spec _ _ _ _ _ _ ?p1 ?p2 ?p3) ?k1 ?k2 ?k3 ?k4 ?k5 ?kK ?kd ?ku ?_ ?_); (case k1 => k_asm); (case k2 => k_asm); (case k3 => k_asm); (case k4 => k_asm); (case k5 => k_asm); (case kK => first | exact rfl | assumption); (case kd => ktr_room); (case ku => ktr_units); (case p1 => assumption); (case p2 => assumption); (case p3 => first | assumption | omega); (all_goals first | (intro C' g' e' h' tk' hx' FG' R' U'; first | exact hx'.elim | ((with_reducible have ck' := RaisedM.sub R' (fun _ hp => hp)); clear ck'; (try dsimp only at R' U'))) | (intro r' n' h' tk' hR' F' N'; (try k_sweep); (obtain ⟨fd', e0, rfl, rfl⟩ := hR'); (try dsimp only); (try k_fold))))
  k_with "KswEnd" => (k_here; (rename Fr _ _ _ _ => F9); (rename News _ _ _ _ => N9); k_dflt (refine' ksw_end ⟨_, _⟩ F9 N9 ?ka ?kb ?kc ?kz ?kp ?km); (case ka => first | exact fun _ hp => hp | exact fun _ hp => .tail _ hp | kst_in); (case kb => kst_facts); (case kc => kst_all); (case kz => (intro z h2 h3; have h9 := h2 _ (.head _); first | (dsimp only at h9 ⊢; simp only [if_neg h9, List.contains_nil, Bool.false_eq_true, if_false]; first | done | rfl | (simp only [kstB, List.contains_nil, Bool.false_eq_true, if_false]; first | done | rfl)) | ksw_same)); (case kp => kst_p); (case km => ksw_less))
  intro dp un gd cn cs a ccd cl outer A₀ base h₀ L m s p loose mean mg mb Q E hB hF hX hN hT hk hd hu hret hex
  refine wpAny_call ?_
  k_dflt cell_enter
  k_with "exec While BoolOp cons nil" => refine Stop.out ?_
  k_steps
  refine Stop.mk ?_
  rename Fr _ _ _ _ => lF
  rename News _ _ _ _ => lN
  refine' ksw_while (σ := Found) (fdLed ks news) (fun c => [("found", fdVal c)]) (fdOk ks c.toNat) [] (fun _ => True) (fdSize ks) _ lF lN ?hf ?hk trivial ?turn
  case hf => exact fdOk_next rfl (by assumption)
  case hk => exact List.forall_mem_cons.mpr ⟨rfl, List.forall_mem_nil _⟩
  case turn =>
    clear lF lN
    intro cc u hh tk hf _ F N
    rcases cc with _ | ⟨p, D, t1, t2⟩
    · dsimp only [fdLed, fdVal] at hf F N ⊢
      try k_fold
      k_steps
      (refine' hex _ _ _ _ _ ?hx ?hF ?hR ?hU; (case hR => first | assumption | exact RaisedM.sub (by assumption) (fun p hp => by simp [hp])); (case hF => assumption); (case hU => assumption); (case hx => exact ⟨rfl, hf⟩))
    · dsimp only [fdLed, fdVal] at hf F N ⊢
      obtain ⟨f1, f2, f3⟩ := hf
      try k_fold
      k_steps
      · rename Fr _ _ _ _ => F9
        rename News _ _ _ _ => N9
        exact ksw_end _ F9 N9 fdLed_sub (fdOk_next (i := p + 2) (by rw [f3, if_pos (by assumption)]) (by assumption)) (List.forall_mem_cons.mpr ⟨rfl, List.forall_mem_nil _⟩) (fun z h2 _ => kst_same1 (h2 _ (.head _))) trivial (fdSize_next f1 f2 (by assumption))
      · refine Stop.mk ?_
        rw [if_neg (by assumption)] at f3
        k_with "state" => first | exact ⟨f1, by omega, rfl⟩ | exact ⟨by omega, by omega, backM_step h0 (by assumption) (by assumption) (by assumption)⟩
        k_while (fun script e => 0 ≤ e ∧ e ≤ ks.length ∧ backM ks c.toNat e.toNat = backM ks c.toNat p.toNat) (fun script e => e.toNat) "end"
        k_steps
        all_goals (rename News _ _ _ _ => N9; replace N9 := cb_drop N9 (news := news) (fun p hp => .tail _ hp))
        · (refine' hret _ _ _ _ (⟨p.toNat, _, f3, int_same ?h2, rfl⟩) ?hF ?hN; (case hN => assumption); (case hF => assumption); (case h2 => exact backM_stop h0 (.inr (by assumption)) (by assumption) (by assumption)))
        · (refine' hret _ _ _ _ (⟨p.toNat, _, f3, int_same ?h2, rfl⟩) ?hF ?hN; (case hN => assumption); (case hF => assumption); (case h2 => exact backM_stop h0 (.inl (by assumption)) (by assumption) (by assumption)))

/-- past the octets 255 from i on -/
def fwdM (ks : List Int) (i : Nat) : Nat := if i < ks.length ∧ ks.getD i 0 = 255 then fwdM ks (i + 1) else i
termination_by ks.length - i
/-- the code that stands at i and the place behind it -/
def codeM (ks : List Int) (i : Nat) : Except Nat (Int × Nat) :=
  if ks.length ≤ i then .error 68 else if ks.getD i 0 ≠ 255 then .error 44
  else if ks.length ≤ fwdM ks i then .error 68 else if ks.getD (fwdM ks i) 0 = 0 then .error 44 else .ok (ks.getD (fwdM ks i) 0, fwdM ks i + 1)

section
variable {ks : List Int} {i : Int} {x : Nat}
theorem fwdM_go (h0 : 0 ≤ i) (h : i < ks.length) (h2 : ks.getD i.toNat 0 = 255) (hn : fwdM ks i.toNat = x) : fwdM ks (i + 1).toNat = x := by
  rw [← hn, fwdM.eq_1 ks i.toNat, if_pos ⟨by omega, h2⟩, show (i + 1).toNat = i.toNat + 1 by omega]
theorem codeM_a (h0 : 0 ≤ i) (h : ks.length ≤ i) : codeM ks i.toNat = .error 68 := by rw [codeM, if_pos (by omega)]
theorem codeM_b (h0 : 0 ≤ i) (h : ¬ ks.length ≤ i) (h1 : ks.getD i.toNat 0 ≠ 255) : codeM ks i.toNat = .error 44 := by rw [codeM, if_neg (by omega), if_pos h1]
theorem codeM_c {e : Int} (h0 : 0 ≤ i) (h : ¬ ks.length ≤ i) (h1 : ks.getD i.toNat 0 = 255) (hs : fwdM ks e.toNat = fwdM ks i.toNat) (he : 0 ≤ e) (h2 : ¬ e < ks.length) : codeM ks i.toNat = .error 68 := by
  have hf : fwdM ks e.toNat = e.toNat := by rw [fwdM.eq_1, if_neg (by omega)]
  rw [codeM, if_neg (by omega), if_neg (fun q => q h1), ← hs, hf, if_pos (by omega)]
theorem codeM_d {e : Int} (h0 : 0 ≤ i) (h : ¬ ks.length ≤ i) (h1 : ks.getD i.toNat 0 = 255) (hs : fwdM ks e.toNat = fwdM ks i.toNat) (he : 0 ≤ e) (h2 : e < ks.length) (h3 : ks.getD e.toNat 0 ≠ 255) :
    codeM ks i.toNat = if ks.getD e.toNat 0 = 0 then .error 44 else .ok (ks.getD e.toNat 0, (e + 1).toNat) := by
  have hf : fwdM ks e.toNat = e.toNat := by rw [fwdM.eq_1, if_neg (fun q => h3 q.2)]
  rw [codeM, if_neg (by omega), if_neg (fun q => q h1), ← hs, hf, if_neg (by omega), show (e + 1).toNat = e.toNat + 1 by omega]
end

set_option maxHeartbeats 1000000 in
theorem read_code_spec {prog : Program} {w : World} (news : List (Addr × Obj)) (b : Array UInt8) (ks : List Int) (tb : Tok) (c : Int) (t : Tok) (hb : KBw.bInts b = ks) (hl : ks.length ≤ 1000000) (h0 : 0 ≤ c) :
    Calls prog w 4 146 [.bytes b tb, .int c t] news (fun r n' => ∃ (k j : Int) (D : Addr) (t1 t2 : Tok), codeM ks c.toNat = .ok (k, j.toNat) ∧ 0 ≤ j ∧ r = .ref D ∧ n' = (D, tupObj [.int k t1, .int j t2]) :: news) (fun C => codeM ks c.toNat = .error C) := by
  k_with_none
  k_with "exec Raise some none" => (k_here; (with_reducible show wpAny _ _ (exec (Stmt.Raise (some (PySem.Expr.Call (PySem.Expr.Name ("CutError" : Str) _) _ _ _)) none _) _) _ _ _); k_dflt (refine raise68 rfl ?_))
  k_with "exec Raise some none" => (k_here; (with_reducible show wpAny _ _ (exec (Stmt.Raise (some (PySem.Expr.Call (PySem.Expr.Name ("MarkerError" : Str) _) _ _ _)) none _) _) _ _ _); k_dflt (refine raise44 rfl ?_))
  k_with "exec Raise some none" => (k_here; (with_reducible show wpAny _ _ (exec (Stmt.Raise (some (PySem.Expr.Call (PySem.Expr.Name ("SegmentError" : Str) _) _ _ _)) none _) _) _ _ _); k_dflt (refine raise56 rfl ?_))
  k_with "call ref" => (k_here; (with_reducible show wpAny _ _ (call (Value.ref _) [Value.str _ _]) (RaiseAt _ _ _) _ _); k_dflt (first | refine' exc_call (exc68 _) ?k1 ?k2 ?k3 ?k4 ?k5 ?kA ?kF ?kK ?kd ?_ | refine' exc_call (exc44 _) ?k1 ?k2 ?k3 ?k4 ?k5 ?kA ?kF ?kK ?kd ?_ | refine' exc_call (exc56 _) ?k1 ?k2 ?k3 ?k4 ?k5 ?kA ?kF ?kK ?kd ?_); (case k1 => k_asm); (case k2 => k_asm); (case k3 => k_asm); (case k4 => k_asm); (case k5 => k_asm); (case kA => exact rfl); (case kF => exact rfl); (case kK => first | exact rfl | assumption); (case kd => ktr_room); intro e' t' dx' h' tk' F' N' D'; refine ⟨_, _, _, rfl, Frag.In.keeps (by k_asm) (Fr.keep F'), News.get N' (.head _), ?_⟩; (try k_sweep))
  k_with "leaving ref" => (k_here; k_dflt (first | (refine' leave_raiseM ?k1 ?k2 ?k3 ?k4 ?_; (case k3 => assumption); (case k1 => assumption); (case k2 => assumption); (case k4 => assumption); intro h' R' U'; (try dsimp only at R' U' ⊢)) | (refine' leave_onM ?k1 ?k2 ?k3 ?k4 ?_; (case k3 => assumption); (case k1 => assumption); (case k4 => assumption); (case k2 => assumption); intro h' R' U'; (try dsimp only at R' U' ⊢))))
  k_with "call type:bytes" => (k_here; (with_reducible show wpAny _ _ (call (Value.type "bytes") [Value.bytes _ _]) _ _ _); k_dflt (refine bytes_again ?_); intro _)
  k_with "call type:bytes" => (k_here; (with_reducible show wpAny _ _ (call (Value.type "bytes") [Value.int _ _]) _ _ _); k_dflt (refine bytes_zeros (by omega) (by omega) ?_); intro _ _)
  k_with "call ref" => (k_here; (with_reducible show wpAny _ _ (call (Value.ref 96) _) _ _ _); k_dflt (refine' Calls.use (is_restart_spec _ _ _) ?k1 ?k2 ?k3 ?k4 ?k5 ?kK ?kd ?ku ?_ ?_); (case k1 => k_asm); (case k2 => k_asm); (case k3 => k_asm); (case k4 => k_asm); (case k5 => k_asm); (case kK => first | exact rfl | assumption); (case kd => ktr_room); (case ku => ktr_units); (all_goals first | (intro C' g' e' h' tk' hx' FG' R' U'; first | exact hx'.elim | ((with_reducible have ck' := RaisedM.sub R' (fun _ hp => hp)); clear ck'; (try dsimp only at R' U'))) | (intro r' n' h' tk' hR' F' N'; (try k_sweep); (obtain ⟨rfl, rfl⟩ := hR'); (try dsimp only); (try k_fold))))
  k_with "call ref" => (k_here; (with_reducible show wpAny _ _ (call (Value.ref 103) _) _ _ _); k_dflt (refine' Calls.use (has_length_spec _ _ _) ?k1 ?k2 ?k3 ?k4 ?k5 ?kK ?kd ?ku ?_ ?_); (case k1 => k_asm); (case k2 => k_asm); (case k3 => k_asm); (case k4 => k_asm); (case k5 => k_asm); (case kK => first | exact rfl | assumption); (case kd => ktr_room); (case ku => ktr_units); (all_goals first | (intro C' g' e' h' tk' hx' FG' R' U'; first | exact hx'.elim | ((with_reducible have ck' := RaisedM.sub R' (fun _ hp => hp)); clear ck'; (try dsimp only at R' U'))) | (intro r' n' h' tk' hR' F' N'; (try k_sweep); (obtain ⟨rfl, rfl⟩ := hR'); (try dsimp only); (try k_fold))))
  k_with "call ref" => (k_here; (with_reducible show wpAny _ _ (call (Value.ref 132) _) _ _ _); k_dflt (refine' Calls.use (next_marker_spec _ _ _ _ _ _ ?p1 ?p2 ?p3) ?k1 ?k2 ?k3 ?k4 ?k5 ?kK ?kd ?ku ?_ ?_); (case k1 => k_asm); (case k2 => k_asm); (case k3 => k_asm); (case k4 => k_asm); (case k5 => k_asm); (case kK => first | exact rfl | assumption); (case kd => ktr_room); (case ku => ktr_units); (case p1 => assumption); (case p2 => assumption); (case p3 => first | assumption | omega); (all_goals first | (intro C' g' e' h' tk' hx' FG' R' U'; first | exact hx'.elim | ((with_reducible have ck' := RaisedM.sub R' (fun _ hp => hp)); clear ck'; (try dsimp only at R' U'))) | (intro r' n' h' tk' hR' F' N'; (try k_sweep); (obtain ⟨fd', e0, rfl, rfl⟩ := hR'); (try dsimp only); (try k_fold))))
  k_with "KswEnd" => (k_here; (rename Fr _ _ _ _ => F9); (rename News _ _ _ _ => N9); k_dflt (refine' ksw_end ⟨_, _⟩ F9 N9 ?ka ?kb ?kc ?kz ?kp ?km); (case ka => first | exact fun _ hp => hp | exact fun _ hp => .tail _ hp | kst_in); (case kb => kst_facts); (case kc => kst_all); (case kz => (intro z h2 h3; have h9 := h2 _ (.head _); first | (dsimp only at h9 ⊢; simp only [if_neg h9, List.contains_nil, Bool.false_eq_true, if_false]; first | done | rfl | (simp only [kstB, List.contains_nil, Bool.false_eq_true, if_false]; first | done | rfl)) | ksw_same)); (case kp => kst_p); (case km => ksw_less))
  intro dp un gd cn cs a ccd cl outer A₀ base h₀ L m s p loose mean mg mb Q E hB hF hX hN hT hk hd hu hret hex
  refine wpAny_call ?_
  k_dflt cell_enter
  k_with "exec While BoolOp cons nil" => k_while (fun script i => 0 ≤ i ∧ i ≤ ks.length ∧ fwdM ks i.toNat = fwdM ks c.toNat) (fun script i => ks.length - i.toNat) "at"
  k_with "state" => first | exact ⟨h0, by omega, rfl⟩ | exact ⟨by omega, by omega, fwdM_go (by assumption) (by assumption) (by assumption) (by assumption)⟩
  k_steps
  · (refine' hex _ _ _ _ _ ?hx ?hF ?hR ?hU; (case hR => first | assumption | exact RaisedM.sub (by assumption) (fun p hp => by simp [hp])); (case hF => assumption); (case hU => assumption); (case hx => exact codeM_a h0 (by assumption)))
  · (refine' hex _ _ _ _ _ ?hx ?hF ?hR ?hU; (case hR => first | assumption | exact RaisedM.sub (by assumption) (fun p hp => by simp [hp])); (case hF => assumption); (case hU => assumption); (case hx => exact codeM_b h0 (by assumption) (by assumption)))
  · (refine' hex _ _ _ _ _ ?hx ?hF ?hR ?hU; (case hR => first | assumption | exact RaisedM.sub (by assumption) (fun p hp => by simp [hp])); (case hF => assumption); (case hU => assumption); (case hx => exact (codeM_d h0 (by assumption) (by assumption) (by assumption) (by assumption) (by assumption) (by assumption)).trans (if_pos (by assumption))))
  · (refine' hret _ _ _ _ (⟨_, _, _, _, _, (codeM_d h0 (by assumption) (by assumption) (by assumption) (by assumption) (by assumption) (by assumption)).trans (if_neg (by assumption)), ?h1, rfl, rfl⟩) ?hF ?hN; (case hN => assumption); (case hF => assumption); (case h1 => omega))
  · (refine' hex _ _ _ _ _ ?hx ?hF ?hR ?hU; (case hR => first | assumption | exact RaisedM.sub (by assumption) (fun p hp => by simp [hp])); (case hF => assumption); (case hU => assumption); (case hx => exact codeM_c h0 (by assumption) (by assumption) (by assumption) (by assumption) (by assumption)))

theorem ne_of_lts {d : Addr} {news : List (Addr × Obj)} (h : ∀ p ∈ news, p.1 < d) : ∀ p ∈ news, p.1 ≠ d := fun p hp => Nat.ne_of_lt (h p hp)
theorem instOfNews {h₀ h : Heap} {L x C dx : Addr} {news : List (Addr × Obj)} {od : Obj} (N : News h₀ L h news) (h1 : (x, instObj C dx) ∈ news) (h2 : (dx, od) ∈ news) :
    InstAt h x (instObj C dx) C (some od) := InstAt.of_news N h1 h2
/-- the fields of a Piece, as its dict holds them -/
abbrev pieceDict (h1 h2 h3 : Int) (k1 k2 k3 : Tok) (vc vp vd : Value) : Obj := dictOf [⟨h1, .str "code" k1, vc⟩, ⟨h2, .str "payload" k2, vp⟩, ⟨h3, .str "data" k3, vd⟩] 3
/-- the arguments of Piece(..), the last two with their defaults -/
def PieceArgs (args : List Value) (vc vp vd : Value) : Prop :=
  args = [vc, vp, vd] ∨ (args = [vc, vp] ∧ vd = .bytes #[] 332) ∨ (args = [vc] ∧ vp = .bytes #[] 331 ∧ vd = .bytes #[] 332)

set_option maxHeartbeats 2000000 in
theorem piece_spec {prog : Program} {w : World} (news : List (Addr × Obj)) (args : List Value) (vc vp vd : Value) (ha : PieceArgs args vc vp vd) :
    Calls prog w 3 121 args news (fun r n' => ∃ x dx h1 h2 h3 k1 k2 k3, r = .ref x ∧ (∀ p ∈ news, p.1 < dx) ∧ dx < x ∧ n' = (x, instObj 121 dx) :: (dx, pieceDict h1 h2 h3 k1 k2 k3 vc vp vd) :: news) (fun _ => False) := by
  k_with_none
  k_with "setAttr ref" => (k_here; k_dflt (refine' set_dict ?k1 ?k2 ?k3 ?k4 ?k5 ?k6 ?k7 ?k8 ?k9 ?k10 ?k11 ?k12 ?k13 ?_; (case k1 => k_asm); (case k2 => k_asm); (case k3 => k_asm); (case k4 => k_inst); (case k5 => exact rfl); (case k6 => k_is); (case k7 => k_is); (case k8 => k_is); (case k9 => k_is); (case k10 => k_get); (case k11 => k_put); (case k12 => exact Upd.tail (by k_ne) (Upd.head (ne_of_lts (by assumption)))); (case k13 => exact Nat.le_of_ble_eq_true rfl); intro h' F' N'; (try k_sweep)))
  intro dp un gd cn cs a ccd cl outer A₀ base h₀ L m s p loose mean mg mb Q E hB hF hX hN hT hk hd hu hret hex
  k_dflt (refine' call_cls ?k1 ?k2 ?k3 ?k4 ?k5 ?k6 ?_; (case k1 => k_asm); (case k2 => k_asm); (case k3 => k_asm); (case k4 => k_is); (case k5 => k_is); (case k6 => k_is); intro x dx h1 F1 N1 l1 l2; (have l3 := l2); (k_lt2 l2); (try k_sweep))
  k_dflt (refine' code_def ?k1 ?k2 ?k3 ?k4 ?k5 ?kA ?kF ?kK ?k6 ?k7 ?k8 ?k9 ?kB ?_ ?c2 ?c3 ?c4 ?c5)
  case k1 => k_asm
  case k2 => k_asm
  case k3 => k_asm
  case k4 => k_asm
  case k5 => k_asm
  case kA => exact rfl
  case kF => exact rfl
  case kK => assumption
  case k6 => k_is
  case k7 => k_is
  case k8 => ktr_room
  case k9 =>
    refine (?_ : BindsTo _ _ _ [("self", .ref x), ("code", vc), ("payload", vp), ("data", vd)])
    rcases ha with rfl | ⟨rfl, rfl⟩ | ⟨rfl, rfl, rfl⟩
    · exact binds_K (hX.keeps F1.keep) rfl (by k_is) rfl rfl rfl
    · exact binds_K (hX.keeps F1.keep) rfl (by k_is) rfl rfl rfl
    · exact binds_K (hX.keeps F1.keep) rfl (by k_is) rfl rfl rfl
  case c5 => decide
  case kB => exact locs rfl
  case c2 => exact rfl
  case c3 => exact rfl
  case c4 => exact rfl
  intro g' L' h' FG' F' N' B' X' T'
  (try dsimp only)
  (try k_fold)
  k_steps
  (refine' hret _ _ _ _ (⟨_, _, _, _, _, _, _, _, rfl, l1, l3, rfl⟩) ?hF ?hN; (case hN => assumption); (case hF => assumption))

theorem clip_nn {n : Nat} {i : Int} (h : 0 ≤ i) : clipAt n i = min i.toNat n := by unfold clipAt; split <;> omega
theorem cut_nn {b : Array UInt8} {ks : List Int} {i j : Int} (hb : KBw.bInts b = ks) (h0 : 0 ≤ i) (h2 : 0 ≤ j) : KBw.bInts (KBy.picked b (some i) (some j)) = (ks.drop i.toNat).take (j.toNat - i.toNat) := by
  rw [KBc.ints_picked hb]; simp only [Option.elim]; rw [clip_nn h0, clip_nn h2]
  by_cases h : i.toNat ≤ ks.length
  · rw [Nat.min_eq_left h, ← Nat.sub_min_sub_right, ← List.length_drop, List.take_eq_take_min, Nat.min_assoc, Nat.min_self, ← List.take_eq_take_min]
  · rw [List.drop_eq_nil_of_le (by omega), List.drop_eq_nil_of_le (by omega), List.take_nil, List.take_nil]
/-- what follows a code k, its parameters to begin at j -/
def pieceR (ks : List Int) (k j : Int) : Except Nat ((Int × List Int × List Int) × Int) :=
  if rstM k then .error 44 else if ¬ (k = 216 ∨ k = 217 ∨ k = 1) ∧ ¬ rstM k then
    match payloadM ks j with
    | .error C => .error C
    | .ok (pl, q) =>
      if k ≠ 218 then .ok ((k, pl, []), q)
      else match endM ks q.toNat with
        | none => .error 68
        | some e => .ok ((k, pl, (ks.drop q.toNat).take (backM ks q.toNat e - q.toNat)), backM ks q.toNat e)
  else .ok ((k, [], []), j)
/-- a piece as it is read: its code, its parameters, its data, and the place behind it -/
def pieceM (ks : List Int) (i : Int) : Except Nat ((Int × List Int × List Int) × Int) :=
  match codeM ks i.toNat with
  | .error C => .error C
  | .ok (k, j) => pieceR ks k j
section
variable {ks : List Int} {i k j q : Int} {C e : Nat} {pl : List Int}
theorem pieceM_e (h : codeM ks i.toNat = .error C) : pieceM ks i = .error C := by rw [pieceM, h]
theorem pieceM_o (h : codeM ks i.toNat = .ok (k, j.toNat)) (hj : 0 ≤ j) : pieceM ks i = pieceR ks k j := by rw [pieceM, h]; simp only [Int.toNat_of_nonneg hj]
theorem pieceR_r (h : rstM k) : pieceR ks k j = .error 44 := if_pos h
theorem pieceR_n (h : ¬ rstM k) (h2 : ¬ (¬ (k = 216 ∨ k = 217 ∨ k = 1) ∧ ¬ rstM k)) : pieceR ks k j = .ok ((k, [], []), j) := (if_neg h).trans (if_neg h2)
theorem pieceR_e (h : ¬ rstM k) (h2 : ¬ (k = 216 ∨ k = 217 ∨ k = 1) ∧ ¬ rstM k) (h3 : payloadM ks j = .error C) : pieceR ks k j = .error C := by
  rw [pieceR, if_neg h, if_pos h2, h3]
theorem pieceR_p (h : ¬ rstM k) (h2 : ¬ (k = 216 ∨ k = 217 ∨ k = 1) ∧ ¬ rstM k) (h3 : payloadM ks j = .ok (pl, q)) (h4 : k ≠ 218) : pieceR ks k j = .ok ((k, pl, []), q) := by
  rw [pieceR, if_neg h, if_pos h2, h3]; exact if_pos h4
theorem pieceR_c (h : ¬ rstM k) (h2 : ¬ (k = 216 ∨ k = 217 ∨ k = 1) ∧ ¬ rstM k) (h3 : payloadM ks j = .ok (pl, q)) (h4 : k = 218) (h5 : endM ks q.toNat = none) : pieceR ks k j = .error 68 := by
  rw [pieceR, if_neg h, if_pos h2, h3]; simp only [h4, ne_eq, not_true, if_false, h5]
theorem pieceR_d (h : ¬ rstM k) (h2 : ¬ (k = 216 ∨ k = 217 ∨ k = 1) ∧ ¬ rstM k) (h3 : payloadM ks j = .ok (pl, q)) (h4 : k = 218) (h5 : endM ks q.toNat = some e) :
    pieceR ks k j = .ok ((k, pl, (ks.drop q.toNat).take (backM ks q.toNat e - q.toNat)), backM ks q.toNat e) := by
  rw [pieceR, if_neg h, if_pos h2, h3]; simp only [h4, ne_eq, not_true, if_false, h5]
end

theorem sub3_1 {α : Type} {a b c d : α} {l : List α} : ∀ p ∈ a :: b :: c :: l, p ∈ a :: b :: c :: d :: l := fun p h => by
  simp only [List.mem_cons] at h ⊢
  rcases h with h | h | h | h
  · exact .inl h
  · exact .inr (.inl h)
  · exact .inr (.inr (.inl h))
  · exact .inr (.inr (.inr (.inr h)))
theorem sub3_2 {α : Type} {a b c d e : α} {l : List α} : ∀ p ∈ a :: b :: c :: l, p ∈ a :: b :: c :: d :: e :: l := fun p h => by
  simp only [List.mem_cons] at h ⊢
  rcases h with h | h | h | h
  · exact .inl h
  · exact .inr (.inl h)
  · exact .inr (.inr (.inl h))
  · exact .inr (.inr (.inr (.inr (.inr h))))

set_option maxHeartbeats 2000000 in
theorem read_piece_spec {prog : Program} {w : World} (news : List (Addr × Obj)) (b : Array UInt8) (ks : List Int) (tb : Tok) (c : Int) (t : Tok) (hb : KBw.bInts b = ks) (hl : ks.length ≤ 1000000) (h0 : 0 ≤ c) :
    Calls prog w 8 160 [.bytes b tb, .int c t] news (fun r n' => ∃ (D x dx : Addr) (t1 tc tp td k1 k2 k3 : Tok) (h1 h2 h3 k j : Int) (pb db : Array UInt8), pieceM ks c = .ok ((k, KBw.bInts pb, KBw.bInts db), j) ∧ 0 ≤ j ∧ r = .ref D ∧
      n' = (D, tupObj [.ref x, .int j t1]) :: (x, instObj 121 dx) :: (dx, pieceDict h1 h2 h3 k1 k2 k3 (.int k tc) (.bytes pb tp) (.bytes db td)) :: news) (fun C => pieceM ks c = .error C) := by
  k_with_none
  k_with "exec Raise some none" => (k_here; (with_reducible show wpAny _ _ (exec (Stmt.Raise (some (PySem.Expr.Call (PySem.Expr.Name ("CutError" : Str) _) _ _ _)) none _) _) _ _ _); k_dflt (refine raise68 rfl ?_))
  k_with "exec Raise some none" => (k_here; (with_reducible show wpAny _ _ (exec (Stmt.Raise (some (PySem.Expr.Call (PySem.Expr.Name ("MarkerError" : Str) _) _ _ _)) none _) _) _ _ _); k_dflt (refine raise44 rfl ?_))
  k_with "exec Raise some none" => (k_here; (with_reducible show wpAny _ _ (exec (Stmt.Raise (some (PySem.Expr.Call (PySem.Expr.Name ("SegmentError" : Str) _) _ _ _)) none _) _) _ _ _); k_dflt (refine raise56 rfl ?_))
  k_with "call ref" => (k_here; (with_reducible show wpAny _ _ (call (Value.ref _) [Value.str _ _]) (RaiseAt _ _ _) _ _); k_dflt (first | refine' exc_call (exc68 _) ?k1 ?k2 ?k3 ?k4 ?k5 ?kA ?kF ?kK ?kd ?_ | refine' exc_call (exc44 _) ?k1 ?k2 ?k3 ?k4 ?k5 ?kA ?kF ?kK ?kd ?_ | refine' exc_call (exc56 _) ?k1 ?k2 ?k3 ?k4 ?k5 ?kA ?kF ?kK ?kd ?_); (case k1 => k_asm); (case k2 => k_asm); (case k3 => k_asm); (case k4 => k_asm); (case k5 => k_asm); (case kA => exact rfl); (case kF => exact rfl); (case kK => first | exact rfl | assumption); (case kd => ktr_room); intro e' t' dx' h' tk' F' N' D'; refine ⟨_, _, _, rfl, Frag.In.keeps (by k_asm) (Fr.keep F'), News.get N' (.head _), ?_⟩; (try k_sweep))
  k_with "leaving ref" => (k_here; k_dflt (first | (refine' leave_raiseM ?k1 ?k2 ?k3 ?k4 ?_; (case k3 => assumption); (case k1 => assumption); (case k2 => assumption); (case k4 => assumption); intro h' R' U'; (try dsimp only at R' U' ⊢)) | (refine' leave_onM ?k1 ?k2 ?k3 ?k4 ?_; (case k3 => assumption); (case k1 => assumption); (case k4 => assumption); (case k2 => assumption); intro h' R' U'; (try dsimp only at R' U' ⊢))))
  k_with "call type:bytes" => (k_here; (with_reducible show wpAny _ _ (call (Value.type "bytes") [Value.bytes _ _]) _ _ _); k_dflt (refine bytes_again ?_); intro _)
  k_with "call type:bytes" => (k_here; (with_reducible show wpAny _ _ (call (Value.type "bytes") [Value.int _ _]) _ _ _); k_dflt (refine bytes_zeros (by omega) (by omega) ?_); intro _ _)
  k_with "call ref" => (k_here; (with_reducible show wpAny _ _ (call (Value.ref 96) _) _ _ _); k_dflt (refine' Calls.use (is_restart_spec _ _ _) ?k1 ?k2 ?k3 ?k4 ?k5 ?kK ?kd ?ku ?_ ?_); (case k1 => k_asm); (case k2 => k_asm); (case k3 => k_asm); (case k4 => k_asm); (case k5 => k_asm); (case kK => first | exact rfl | assumption); (case kd => ktr_room); (case ku => ktr_units); (all_goals first | (intro C' g' e' h' tk' hx' FG' R' U'; first | exact hx'.elim | ((with_reducible have ck' := RaisedM.sub R' (fun _ hp => hp)); clear ck'; (try dsimp only at R' U'))) | (intro r' n' h' tk' hR' F' N'; (try k_sweep); (obtain ⟨rfl, rfl⟩ := hR'); (try dsimp only); (try k_fold))))
  k_with "call ref" => (k_here; (with_reducible show wpAny _ _ (call (Value.ref 103) _) _ _ _); k_dflt (refine' Calls.use (has_length_spec _ _ _) ?k1 ?k2 ?k3 ?k4 ?k5 ?kK ?kd ?ku ?_ ?_); (case k1 => k_asm); (case k2 => k_asm); (case k3 => k_asm); (case k4 => k_asm); (case k5 => k_asm); (case kK => first | exact rfl | assumption); (case kd => ktr_room); (case ku => ktr_units); (all_goals first | (intro C' g' e' h' tk' hx' FG' R' U'; first | exact hx'.elim | ((with_reducible have ck' := RaisedM.sub R' (fun _ hp => hp)); clear ck'; (try dsimp only at R' U'))) | (intro r' n' h' tk' hR' F' N'; (try k_sweep); (obtain ⟨rfl, rfl⟩ := hR'); (try dsimp only); (try k_fold))))
  k_with "call ref" => (k_here; (with_reducible show wpAny _ _ (call (Value.ref 132) _) _ _ _); k_dflt (refine' Calls.use (next_marker_spec _ _ _ _ _ _ ?p1 ?p2 ?p3) ?k1 ?k2 ?k3 ?k4 ?k5 ?kK ?kd ?ku ?_ ?_); (case k1 => k_asm); (case k2 => k_asm); (case k3 => k_asm); (case k4 => k_asm); (case k5 => k_asm); (case kK => first | exact rfl | assumption); (case kd => ktr_room); (case ku => ktr_units); (case p1 => assumption); (case p2 => assumption); (case p3 => first | assumption | omega); (all_goals first | (intro C' g' e' h' tk' hx' FG' R' U'; first | exact hx'.elim | ((with_reducible have ck' := RaisedM.sub R' (fun _ hp => hp)); clear ck'; (try dsimp only at R' U'))) | (intro r' n' h' tk' hR' F' N'; (try k_sweep); (obtain ⟨fd', e0, rfl, rfl⟩ := hR'); (try dsimp only); (try k_fold))))
  k_with "KswEnd" => (k_here; (rename Fr _ _ _ _ => F9); (rename News _ _ _ _ => N9); k_dflt (refine' ksw_end ⟨_, _⟩ F9 N9 ?ka ?kb ?kc ?kz ?kp ?km); (case ka => first | exact fun _ hp => hp | exact fun _ hp => .tail _ hp | kst_in); (case kb => kst_facts); (case kc => kst_all); (case kz => (intro z h2 h3; have h9 := h2 _ (.head _); first | (dsimp only at h9 ⊢; simp only [if_neg h9, List.contains_nil, Bool.false_eq_true, if_false]; first | done | rfl | (simp only [kstB, List.contains_nil, Bool.false_eq_true, if_false]; first | done | rfl)) | ksw_same)); (case kp => kst_p); (case km => ksw_less))
  k_with "call ref" => (k_here; (with_reducible show wpAny _ _ (call (Value.ref 139) _) _ _ _); k_dflt (refine' Calls.use (data_end_spec _ _ _ _ _ _ ?p1 ?p2 ?p3) ?k1 ?k2 ?k3 ?k4 ?k5 ?kK ?kd ?ku ?_ ?_); (case k1 => k_asm); (case k2 => k_asm); (case k3 => k_asm); (case k4 => k_asm); (case k5 => k_asm); (case kK => first | exact rfl | assumption); (case kd => ktr_room); (case ku => ktr_units); (case p1 => assumption); (case p2 => assumption); (case p3 => first | assumption | omega); (all_goals first | (intro C' g' e' h' tk' hx' FG' R' U'; first | exact hx'.elim | ((with_reducible have ck' := RaisedM.sub R' (fun _ hp => hp)); clear ck'; (try dsimp only at R' U'))) | (intro r' n' h' tk' hR' F' N'; (try k_sweep); (obtain ⟨pe', tk9, e0, rfl, rfl⟩ := hR'); (try dsimp only); (try k_fold))))
  k_with "call ref" => (k_here; (with_reducible show wpAny _ _ (call (Value.ref 146) _) _ _ _); k_dflt (refine' Calls.use (read_code_spec _ _ _ _ _ _ ?p1 ?p2 ?p3) ?k1 ?k2 ?k3 ?k4 ?k5 ?kK ?kd ?ku ?_ ?_); (case k1 => k_asm); (case k2 => k_asm); (case k3 => k_asm); (case k4 => k_asm); (case k5 => k_asm); (case kK => first | exact rfl | assumption); (case kd => ktr_room); (case ku => ktr_units); (case p1 => assumption); (case p2 => assumption); (case p3 => first | assumption | omega); (all_goals first | (intro C' g' e' h' tk' hx' FG' R' U'; first | exact hx'.elim | ((with_reducible have ck' := RaisedM.sub R' (fun _ hp => hp)); clear ck'; (try dsimp only at R' U'))) | (intro r' n' h' tk' hR' F' N'; (try k_sweep); (obtain ⟨k', j', D', t1', t2', e0, e1, rfl, rfl⟩ := hR'); (try dsimp only); (try k_fold))))
  k_with "call ref" => (k_here; (with_reducible show wpAny _ _ (call (Value.ref 153) _) _ _ _); k_dflt (refine' Calls.use (read_payload_spec _ _ _ _ _ _ ?p1 ?p2 ?p3) ?k1 ?k2 ?k3 ?k4 ?k5 ?kK ?kd ?ku ?_ ?_); (case k1 => k_asm); (case k2 => k_asm); (case k3 => k_asm); (case k4 => k_asm); (case k5 => k_asm); (case kK => first | exact rfl | assumption); (case kd => ktr_room); (case ku => ktr_units); (case p1 => assumption); (case p2 => assumption); (case p3 => first | assumption | omega); (all_goals first | (intro C' g' e' h' tk' hx' FG' R' U'; first | exact hx'.elim | ((with_reducible have ck' := RaisedM.sub R' (fun _ hp => hp)); clear ck'; (try dsimp only at R' U'))) | (intro r' n' h' tk' hR' F' N'; (try k_sweep); (obtain ⟨pl', j', D', b', t1', t2', e0, e1, rfl, rfl, e2⟩ := hR'); (try dsimp only); (try k_fold))))
  k_with "call ref" => (k_here; (with_reducible show wpAny _ _ (call (Value.ref 121) _) _ _ _); k_dflt (refine' Calls.use (piece_spec _ _ _ _ _ (.inl rfl)) ?k1 ?k2 ?k3 ?k4 ?k5 ?kK ?kd ?ku ?_ ?_); (case k1 => k_asm); (case k2 => k_asm); (case k3 => k_asm); (case k4 => k_asm); (case k5 => k_asm); (case kK => first | exact rfl | assumption); (case kd => ktr_room); (case ku => ktr_units); (all_goals first | (intro C' g' e' h' tk' hx' FG' R' U'; first | exact hx'.elim | ((with_reducible have ck' := RaisedM.sub R' (fun _ hp => hp)); clear ck'; (try dsimp only at R' U'))) | (intro r' n' h' tk' hR' F' N'; (try k_sweep); (obtain ⟨x', dx', h1', h2', h3', k1', k2', k3', rfl, lx', ly', rfl⟩ := hR'); (try dsimp only); (try k_fold))))
  k_with "call ref" => (k_here; (with_reducible show wpAny _ _ (call (Value.ref 121) _) _ _ _); k_dflt (refine' Calls.use (piece_spec _ _ _ _ _ (.inr (.inl ⟨rfl, rfl⟩))) ?k1 ?k2 ?k3 ?k4 ?k5 ?kK ?kd ?ku ?_ ?_); (case k1 => k_asm); (case k2 => k_asm); (case k3 => k_asm); (case k4 => k_asm); (case k5 => k_asm); (case kK => first | exact rfl | assumption); (case kd => ktr_room); (case ku => ktr_units); (all_goals first | (intro C' g' e' h' tk' hx' FG' R' U'; first | exact hx'.elim | ((with_reducible have ck' := RaisedM.sub R' (fun _ hp => hp)); clear ck'; (try dsimp only at R' U'))) | (intro r' n' h' tk' hR' F' N'; (try k_sweep); (obtain ⟨x', dx', h1', h2', h3', k1', k2', k3', rfl, lx', ly', rfl⟩ := hR'); (try dsimp only); (try k_fold))))
  k_with "call ref" => (k_here; (with_reducible show wpAny _ _ (call (Value.ref 121) _) _ _ _); k_dflt (refine' Calls.use (piece_spec _ _ _ _ _ (.inr (.inr ⟨rfl, rfl, rfl⟩))) ?k1 ?k2 ?k3 ?k4 ?k5 ?kK ?kd ?ku ?_ ?_); (case k1 => k_asm); (case k2 => k_asm); (case k3 => k_asm); (case k4 => k_asm); (case k5 => k_asm); (case kK => first | exact rfl | assumption); (case kd => ktr_room); (case ku => ktr_units); (all_goals first | (intro C' g' e' h' tk' hx' FG' R' U'; first | exact hx'.elim | ((with_reducible have ck' := RaisedM.sub R' (fun _ hp => hp)); clear ck'; (try dsimp only at R' U'))) | (intro r' n' h' tk' hR' F' N'; (try k_sweep); (obtain ⟨x', dx', h1', h2', h3', k1', k2', k3', rfl, lx', ly', rfl⟩ := hR'); (try dsimp only); (try k_fold))))
  intro dp un gd cn cs a ccd cl outer A₀ base h₀ L m s p loose mean mg mb Q E hB hF hX hN hT hk hd hu hret hex
  refine wpAny_call ?_
  k_dflt cell_enter
  k_steps
  · (refine' hex _ _ _ _ _ ?hx ?hF ?hR ?hU; (case hR => first | assumption | exact RaisedM.sub (by assumption) (fun p hp => by simp [hp])); (case hF => assumption); (case hU => assumption); (case hx => exact (pieceM_o (by assumption) (by assumption)).trans (pieceR_r (by assumption))))
  · rename News _ _ _ _ => N9; replace N9 := cb_drop N9 sub3_2
    (refine' hret _ _ _ _ (⟨_, _, _, _, _, _, _, _, _, _, _, _, _, _, _, _, _, ?h1, ?h2, rfl, rfl⟩) ?hF ?hN; (case hN => assumption); (case hF => assumption); (case h2 => assumption); (case h1 => (rw [(pieceM_o (by assumption) (by assumption)).trans (pieceR_p (by assumption) (by assumption) (by assumption) (by assumption))]; (subst_vars; rfl))))
  · rename News _ _ _ _ => N9; replace N9 := cb_drop N9 sub3_2
    (refine' hret _ _ _ _ (⟨_, _, _, _, _, _, _, _, _, _, _, _, _, _, _, _, _, ?h1, ?h2, rfl, rfl⟩) ?hF ?hN; (case hN => assumption); (case hF => assumption); (case h2 => exact Int.natCast_nonneg _); (case h1 => (rw [(pieceM_o (by assumption) (by assumption)).trans (pieceR_d (by assumption) (by assumption) (by assumption) (by assumption) (by assumption)), cut_nn hb (by assumption) (Int.natCast_nonneg _), Int.toNat_natCast]; (subst_vars; rfl))))
  · (refine' hex _ _ _ _ _ ?hx ?hF ?hR ?hU; (case hR => first | assumption | exact RaisedM.sub (by assumption) (fun p hp => by simp [hp])); (case hF => assumption); (case hU => assumption); (case hx => (obtain ⟨rfl, hx9⟩ := hx'; exact (pieceM_o (by assumption) (by assumption)).trans (pieceR_c (by assumption) (by assumption) (by assumption) (by assumption) (by assumption)))))
  · (refine' hex _ _ _ _ _ ?hx ?hF ?hR ?hU; (case hR => first | assumption | exact RaisedM.sub (by assumption) (fun p hp => by simp [hp])); (case hF => assumption); (case hU => assumption); (case hx => exact (pieceM_o (by assumption) (by assumption)).trans (pieceR_e (by assumption) (by assumption) (by assumption))))
  · rename News _ _ _ _ => N9; replace N9 := cb_drop N9 sub3_1
    (refine' hret _ _ _ _ (⟨_, _, _, _, _, _, _, _, _, _, _, _, _, _, _, _, _, ?h1, ?h2, rfl, rfl⟩) ?hF ?hN; (case hN => assumption); (case hF => assumption); (case h2 => assumption); (case h1 => exact (pieceM_o (by assumption) (by assumption)).trans (pieceR_n (by assumption) (by assumption))))
  · (refine' hex _ _ _ _ _ ?hx ?hF ?hR ?hU; (case hR => first | assumption | exact RaisedM.sub (by assumption) (fun p hp => by simp [hp])); (case hF => assumption); (case hU => assumption); (case hx => exact pieceM_e (by assumption)))

/-- a piece as the heap holds it (bytes), and as ints -/
abbrev RowB := Int × Array UInt8 × Array UInt8
abbrev RowI := Int × List Int × List Int
def ri (r : RowB) : RowI := (r.1, KBw.bInts r.2.1, KBw.bInts r.2.2)
/-- pieces from the place j on, k the code of the piece ahead -/
inductive ReadsM (ks : List Int) : Int → Int → Except Nat (List RowI) → Prop
  | stop {j : Int} : ReadsM ks j 217 (.ok [])
  | err {j k : Int} {C : Nat} : k ≠ 217 → pieceM ks j = .error C → ReadsM ks j k (.error C)
  | soi {j k j' : Int} {p d : List Int} : k ≠ 217 → pieceM ks j = .ok ((216, p, d), j') → ReadsM ks j k (.error 44)
  | go {j k j' k' : Int} {p d : List Int} {r : Except Nat (List RowI)} : k ≠ 217 → pieceM ks j = .ok ((k', p, d), j') → k' ≠ 216 → ReadsM ks j' k' r → ReadsM ks j k (r.map ((k', p, d) :: ·))
inductive ReadAll (ks : List Int) : Except Nat (List RowI) → Prop
  | short : ks.length < 2 → ReadAll ks (.error 68)
  | begins : ¬ ks.length < 2 → (ks.getD 0 0 ≠ 255 ∨ ks.getD 1 0 ≠ 216) → ReadAll ks (.error 44)
  | go {r : Except Nat (List RowI)} : ¬ ks.length < 2 → ks.getD 0 0 = 255 → ks.getD 1 0 = 216 → ReadsM ks 2 216 r → ReadAll ks (r.map ((216, [], []) :: ·))
/-- v is a piece with the row's code, parameters and data -/
def PieceIn (led : List (Addr × Obj)) (v : Value) (r : RowB) : Prop :=
  ∃ (x dx : Addr) (h1 h2 h3 : Int) (k1 k2 k3 tc tp td : Tok), v = .ref x ∧ (x, instObj 121 dx) ∈ led ∧ (dx, pieceDict h1 h2 h3 k1 k2 k3 (.int r.1 tc) (.bytes r.2.1 tp) (.bytes r.2.2 td)) ∈ led
inductive PiecesIn (led : List (Addr × Obj)) : List Value → List RowB → Prop
  | nil : PiecesIn led [] []
  | cons {v : Value} {r : RowB} {vs : List Value} {rs : List RowB} : PieceIn led v r → PiecesIn led vs rs → PiecesIn led (v :: vs) (r :: rs)
section
variable {led led' : List (Addr × Obj)} {v : Value} {r : RowB} {vs : List Value} {rs : List RowB}
theorem PieceIn.mono (h : PieceIn led v r) (hs : ∀ p ∈ led, p ∈ led') : PieceIn led' v r := by
  obtain ⟨x, dx, h1, h2, h3, k1, k2, k3, tc, tp, td, e, m1, m2⟩ := h
  exact ⟨x, dx, h1, h2, h3, k1, k2, k3, tc, tp, td, e, hs _ m1, hs _ m2⟩
theorem PiecesIn.mono (h : PiecesIn led vs rs) (hs : ∀ p ∈ led, p ∈ led') : PiecesIn led' vs rs := by
  induction h with
  | nil => exact .nil
  | cons h _ ih => exact .cons (h.mono hs) ih
theorem PiecesIn.snoc (h : PiecesIn led vs rs) (hv : PieceIn led v r) : PiecesIn led (vs ++ [v]) (rs ++ [r]) := by
  induction h with
  | nil => exact .cons hv .nil
  | cons h _ ih => exact .cons h ih
end
/-- where the loop over the pieces stands: the items ahead of the last, the last piece, the place -/
structure RS where
  vs : List Value
  n : Nat
  x : Addr
  dx : Addr
  h1 : Int
  h2 : Int
  h3 : Int
  k1 : Tok
  k2 : Tok
  k3 : Tok
  tc : Tok
  tp : Tok
  td : Tok
  ta : Tok
  k : Int
  pb : Array UInt8
  db : Array UInt8
  older : List (Addr × Obj)
  rows : List RowB
  j : Int
abbrev RS.last (c : RS) : RowB := (c.k, c.pb, c.db)
abbrev RS.led (l : Addr) (news : List (Addr × Obj)) (c : RS) : List (Addr × Obj) :=
  (l, listOf (c.vs ++ [Value.ref c.x]).toArray c.n) :: (c.x, instObj 121 c.dx) :: (c.dx, pieceDict c.h1 c.h2 c.h3 c.k1 c.k2 c.k3 (.int c.k c.tc) (.bytes c.pb c.tp) (.bytes c.db c.td)) :: (c.older ++ news)
structure RS.Ok (ks : List Int) (l : Addr) (news : List (Addr × Obj)) (c : RS) : Prop where
  older : PiecesIn c.older c.vs c.rows
  off : ∀ p ∈ c.older ++ news, p.1 ≠ l
  j0 : 0 ≤ c.j
  len : c.vs.length ≤ c.j
  go : ∀ r, ReadsM ks c.j c.k r → ReadAll ks (r.map ((c.rows ++ [c.last]).map ri ++ ·))
section
variable {prog : Program} {w : World} {A : Around} {E : Value → Shared → Prop} {s : Shared} {h₀ : Heap} {L l : Addr} {m : Str → Option Value} {news : List (Addr × Obj)}
theorem last_item {value slice : PySem.Expr} {vs : List Value} {x : Value} {n : Nat} {u : Tok} {Q : Value → Shared → Prop} (N : News h₀ L s.heap ((l, listOf (vs ++ [x]).toArray n) :: news)) (h : Q x s)
    (hs : subscripted slice false (.ref l) (.int (-1) u) = operate [.ref l, .int (-1) u] (getItem (.ref l) (.int (-1) u)) := by with_unfolding_all rfl) :
    wpAny (model prog w) A (subscriptTail value slice (.ref l) (.int (-1) u)) Q E s := by
  have hl : s.heap.IsList l (vs ++ [x]).toArray := ⟨_, (N _ (.head _)).1, rfl, n, rfl⟩
  refine tail_any hl.typeIs slot_list_getitem.lookup (wpAny_getItem_list_neg hl (by decide) ?_ (by decide) ?_ h) hs
  · simp only [List.size_toArray, List.length_append, List.length_singleton]; omega
  · have e : ((-1 : Int) + ((vs ++ [x]).toArray.size : Nat)).toNat = vs.length := by simp only [List.size_toArray, List.length_append, List.length_singleton]; omega
    rw [e]; simp
theorem append_last {vs : List Value} {x y : Value} {n : Nat} {Q : Value → Shared → Prop} (F : Fr h₀ L s.heap m) (N : News h₀ L s.heap news) (hm : (l, listOf (vs ++ [x]).toArray n) ∈ news) (rest : List (Addr × Obj)) (hr : ∀ p ∈ rest, p ∈ news) (ho : ∀ p ∈ rest, p.1 ≠ l) (hsz : vs.length ≤ 1000000)
    (h : ∀ h', Fr h₀ L h' m → News h₀ L h' ((l, listOf (vs ++ [x] ++ [y]).toArray (n + 1)) :: rest) → Q .none { s with heap := h' }) : wpAny (model prog w) A (call (.builtin "list.append") [.ref l, y]) Q E s := by
  refine append_K (news := (l, listOf (vs ++ [x]).toArray n) :: rest) F (fun p hp => ?_) (Upd.head ho) (fun h' F' N' => h h' F' ?_) ?_
  · rcases List.mem_cons.mp hp with rfl | hp
    · exact N _ hm
    · exact N _ (hr p hp)
  · rw [List.push_toArray] at N'; exact N'
  · rw [sizeLine_eq, List.size_toArray, List.length_append, List.length_singleton]; omega
end

theorem fwdM_ge (ks : List Int) (i : Nat) : i ≤ fwdM ks i := by
  induction i using fwdM.induct ks with
  | case1 i h ih => rw [fwdM.eq_1, if_pos h]; omega
  | case2 i h => rw [fwdM.eq_1, if_neg h]; omega
theorem codeM_lt {ks : List Int} {i j : Nat} {k : Int} (h : codeM ks i = .ok (k, j)) : i < j ∧ i < ks.length := by
  have hg := fwdM_ge ks i
  rw [codeM] at h
  split at h
  · cases h
  split at h
  · cases h
  split at h
  · cases h
  split at h
  · cases h
  cases h
  exact ⟨by omega, by omega⟩
theorem endM_ge {ks : List Int} {i e : Nat} (h : endM ks i = some e) : i ≤ e := by
  induction i using endM.induct ks with
  | case1 i h1 => rw [endM_none h1] at h; cases h
  | case2 i p h1 h2 ih => rw [endM_some h1, if_pos h2] at h; have := ih h; have := (nextM_some h1).1; omega
  | case3 i p h1 h2 => rw [endM_some h1, if_neg h2] at h; cases h; exact (nextM_some h1).1
theorem backM_ge {ks : List Int} {a : Nat} : ∀ {e : Nat}, a ≤ e → a ≤ backM ks a e
  | 0, h => h
  | e + 1, h => by
    rw [backM]; split
    · exact backM_ge (by omega)
    · exact h
theorem payloadM_lt {ks : List Int} {j q : Int} {pl : List Int} (h : payloadM ks j = .ok (pl, q)) : j + 2 ≤ q := by
  rw [payloadM] at h
  split at h
  · cases h
  split at h
  · cases h
  split at h
  · cases h
  cases h; omega
theorem pieceM_lt {ks : List Int} {i j : Int} {r : RowI} (h0 : 0 ≤ i) (h : pieceM ks i = .ok (r, j)) : i < j ∧ i < ks.length := by
  rw [pieceM] at h
  split at h
  · cases h
  rename_i k j' hc
  have hl := codeM_lt hc
  refine ⟨?_, by omega⟩
  rw [pieceR] at h
  split at h
  · cases h
  split at h
  · split at h
    · cases h
    rename_i pl q hp
    have hq := payloadM_lt hp
    split at h
    · cases h; omega
    · split at h
      · cases h
      · rename_i e he
        cases h
        have := backM_ge (ks := ks) (endM_ge he)
        omega
  · cases h; omega

theorem ne_obj {h₀ h : Heap} {L a b : Addr} {oa ob : Obj} {news : List (Addr × Obj)} (N : News h₀ L h news) (ma : (a, oa) ∈ news) (mb : (b, ob) ∈ news) (hne : oa.cls ≠ ob.cls) : a ≠ b := by
  rintro rfl
  have e := (N _ ma).1.symm.trans (N _ mb).1
  exact hne (congrArg Obj.cls (Option.some.inj e))
theorem ref_not {a : Addr} {T : String} : Value.ref a ≠ Value.type T := by intro h; cases h
theorem dict_not_list : (Value.type "dict") ≠ Value.type "list" := by intro h; injection h with h; revert h; decide
section
variable {prog : Program} {w : World} {A : Around} {E : Value → Shared → Prop} {s : Shared} {h₀ : Heap} {L l : Addr} {m : Str → Option Value} {news : List (Addr × Obj)}
theorem append_piece {vs : List Value} {e1 : Addr × Obj} {x dx x' dx' : Addr} {es es' : List DictEntry} {k k' : Nat} {n : Nat} {Q : Value → Shared → Prop} (F : Fr h₀ L s.heap m)
    (N : News h₀ L s.heap (e1 :: (x', instObj 121 dx') :: (dx', dictOf es' k') :: (l, listOf (vs ++ [Value.ref x]).toArray n) :: (x, instObj 121 dx) :: (dx, dictOf es k) :: news)) (ho : ∀ p ∈ news, p.1 ≠ l) (hsz : vs.length ≤ 1000000)
    (h : ∀ h', x ≠ l → dx ≠ l → Fr h₀ L h' m → News h₀ L h' ((l, listOf (vs ++ [Value.ref x] ++ [Value.ref x']).toArray (n + 1)) :: (x', instObj 121 dx') :: (dx', dictOf es' k') :: (x, instObj 121 dx) :: (dx, dictOf es k) :: news) → Q .none { s with heap := h' }) :
    wpAny (model prog w) A (call (.builtin "list.append") [.ref l, .ref x']) Q E s := by
  have ml : (l, listOf (vs ++ [Value.ref x]).toArray n) ∈ e1 :: (x', instObj 121 dx') :: (dx', dictOf es' k') :: (l, listOf (vs ++ [Value.ref x]).toArray n) :: (x, instObj 121 dx) :: (dx, dictOf es k) :: news := .tail _ (.tail _ (.tail _ (.head _)))
  have n1 : x ≠ l := ne_obj N (.tail _ (.tail _ (.tail _ (.tail _ (.head _))))) ml ref_not
  have n2 : dx ≠ l := ne_obj N (.tail _ (.tail _ (.tail _ (.tail _ (.tail _ (.head _)))))) ml dict_not_list
  refine append_last F N ml ((x', instObj 121 dx') :: (dx', dictOf es' k') :: (x, instObj 121 dx) :: (dx, dictOf es k) :: news) (fun p hp => ?_) ?_ hsz fun h' F' N' => h h' n1 n2 F' N'
  · simp only [List.mem_cons] at hp ⊢
    rcases hp with h | h | h | h | h
    · exact .inr (.inl h)
    · exact .inr (.inr (.inl h))
    · exact .inr (.inr (.inr (.inr (.inl h))))
    · exact .inr (.inr (.inr (.inr (.inr (.inl h)))))
    · exact .inr (.inr (.inr (.inr (.inr (.inr h)))))
  · refine List.forall_mem_cons.mpr ⟨ne_obj N (.tail _ (.head _)) ml ref_not, List.forall_mem_cons.mpr ⟨ne_obj N (.tail _ (.tail _ (.head _))) ml dict_not_list, List.forall_mem_cons.mpr ⟨n1, List.forall_mem_cons.mpr ⟨n2, ho⟩⟩⟩⟩
end
theorem RS.Ok.next {ks : List Int} {l : Addr} {news : List (Addr × Obj)} {vs : List Value} {cap : Nat} {x dx x' dx' : Addr} {h1 h2 h3 h1' h2' h3' k k' j j' : Int} {k1 k2 k3 tc tp td ta k1' k2' k3' tc' tp' td' ta' : Tok} {pb db pb' db' : Array UInt8} {older : List (Addr × Obj)} {rows : List RowB}
    (ok : RS.Ok ks l news ⟨vs, cap, x, dx, h1, h2, h3, k1, k2, k3, tc, tp, td, ta, k, pb, db, older, rows, j⟩) (hk : k ≠ 217) (hp : pieceM ks j = .ok ((k', KBw.bInts pb', KBw.bInts db'), j')) (hn : k' ≠ 216) (n1 : x ≠ l) (n2 : dx ≠ l) :
    RS.Ok ks l news ⟨vs ++ [.ref x], cap + 1, x', dx', h1', h2', h3', k1', k2', k3', tc', tp', td', ta', k', pb', db', (x, instObj 121 dx) :: (dx, pieceDict h1 h2 h3 k1 k2 k3 (.int k tc) (.bytes pb tp) (.bytes db td)) :: older, rows ++ [(k, pb, db)], j'⟩ ∧ ks.length - j'.toNat < ks.length - j.toNat := by
  obtain ⟨o1, o2, o3, o4, o5⟩ := ok
  dsimp only [RS.last] at o1 o2 o3 o4 o5
  obtain ⟨g1, g2⟩ := pieceM_lt o3 hp
  refine ⟨⟨(o1.mono fun p hp => .tail _ (.tail _ hp)).snoc ⟨x, dx, h1, h2, h3, k1, k2, k3, tc, tp, td, rfl, .head _, .tail _ (.head _)⟩, ?_, by dsimp only; omega, ?_, ?_⟩, by omega⟩
  · exact List.forall_mem_cons.mpr ⟨n1, List.forall_mem_cons.mpr ⟨n2, o2⟩⟩
  · dsimp only; rw [List.length_append, List.length_singleton]; omega
  · intro r hr
    have q := o5 _ (.go hk hp hn hr)
    cases r with
    | error C => exact q
    | ok rs => simpa [Except.map, RS.last, ri, List.append_assoc] using q

section
variable {prog : Program} {w : World} {A : Around} {E : Value → Shared → Prop} {s : Shared} {h₀ : Heap} {L l x dx : Addr} {m₀ : Str → Option Value} {news : List (Addr × Obj)} {env : Env} {Q : Flow → Shared → Prop}
theorem pieces_while {ks : List Int} {test : PySem.Expr} {body : List Stmt} {pos : Pos} {h1 h2 h3 : Int} {k1 k2 k3 tc tp td ta : Tok} (F : Fr h₀ L s.heap m₀) (N : News h₀ L s.heap ((l, listOf #[.ref x] 0) :: (x, instObj 121 dx) :: (dx, pieceDict h1 h2 h3 k1 k2 k3 (.int 216 tc) (.bytes #[] tp) (.bytes #[] td)) :: news))
    (l1 : x < l ∧ dx < l ∧ AllLt l news) (hat : m₀ "at" = some (.int 2 ta)) (hl : ¬ ks.length < 2) (hs : ks.getD 0 0 = 255) (hi : ks.getD 1 0 = 216)
    (turn : ∀ (c : RS) (u : Str → Option Value) h tk, RS.Ok ks l news c → Fr h₀ L h (fun y => if y = ("at" : Str) then some (.int c.j c.ta) else if (["piece"] : List Str).contains y then u y else m₀ y) → News h₀ L h (RS.led l news c) →
      wpAny (model prog w) A (isTrue test env (eval test env)) (fun b s₂ =>
        if b = true then wpAny (model prog w) A (execs body env) (KswPost h₀ L s (RS.led l news) (fun c => [("at", .int c.j c.ta)]) (RS.Ok ks l news) ["piece"] m₀ (fun _ => True) (fun c => ks.length - c.j.toNat) Q c) E s₂ else Q .next s₂) E { s with heap := h, toks := tk })
    (hE : PassesOwn (model prog w) A env E := by passes_own) :
    wpAny (model prog w) A (exec (.While test body [] pos) env) Q E s := by
  refine ksw_while (σ := RS) (RS.led l news) (fun c => [("at", .int c.j c.ta)]) (RS.Ok ks l news) ["piece"] (fun _ => True) (fun c => ks.length - c.j.toNat) ⟨[], 0, x, dx, h1, h2, h3, k1, k2, k3, tc, tp, td, ta, 216, #[], #[], [], [], 2⟩ F N ?_ ?_ trivial (fun c u h tk ok _ F' N' => turn c u h tk ok F' N') hE
  · refine ⟨.nil, fun p hp => Nat.ne_of_lt (tb_ltOf l1.2.2 p hp), by dsimp only; decide, by dsimp only; decide, fun r hr => .go hl hs hi hr⟩
  · exact List.forall_mem_cons.mpr ⟨hat, List.forall_mem_nil _⟩
end

set_option maxHeartbeats 2000000 in
theorem read_pieces_spec {prog : Program} {w : World} (news : List (Addr × Obj)) (b : Array UInt8) (ks : List Int) (tb : Tok) (hb : KBw.bInts b = ks) (hl : ks.length ≤ 1000000) :
    Calls prog w 12 167 [.bytes b tb] news (fun r n' => ∃ (l : Addr) (vs : List Value) (cap : Nat) (rows : List RowB) (led : List (Addr × Obj)), ReadAll ks (.ok (rows.map ri)) ∧ r = .ref l ∧ n' = (l, listOf vs.toArray cap) :: led ∧ PiecesIn led vs rows ∧ (∀ p ∈ news, p ∈ led)) (fun C => ReadAll ks (.error C)) := by
  k_with_none
  k_with "exec Raise some none" => (k_here; (with_reducible show wpAny _ _ (exec (Stmt.Raise (some (PySem.Expr.Call (PySem.Expr.Name ("CutError" : Str) _) _ _ _)) none _) _) _ _ _); k_dflt (refine raise68 rfl ?_))
  k_with "exec Raise some none" => (k_here; (with_reducible show wpAny _ _ (exec (Stmt.Raise (some (PySem.Expr.Call (PySem.Expr.Name ("MarkerError" : Str) _) _ _ _)) none _) _) _ _ _); k_dflt (refine raise44 rfl ?_))
  k_with "exec Raise some none" => (k_here; (with_reducible show wpAny _ _ (exec (Stmt.Raise (some (PySem.Expr.Call (PySem.Expr.Name ("SegmentError" : Str) _) _ _ _)) none _) _) _ _ _); k_dflt (refine raise56 rfl ?_))
  k_with "call ref" => (k_here; (with_reducible show wpAny _ _ (call (Value.ref _) [Value.str _ _]) (RaiseAt _ _ _) _ _); k_dflt (first | refine' exc_call (exc68 _) ?k1 ?k2 ?k3 ?k4 ?k5 ?kA ?kF ?kK ?kd ?_ | refine' exc_call (exc44 _) ?k1 ?k2 ?k3 ?k4 ?k5 ?kA ?kF ?kK ?kd ?_ | refine' exc_call (exc56 _) ?k1 ?k2 ?k3 ?k4 ?k5 ?kA ?kF ?kK ?kd ?_); (case k1 => k_asm); (case k2 => k_asm); (case k3 => k_asm); (case k4 => k_asm); (case k5 => k_asm); (case kA => exact rfl); (case kF => exact rfl); (case kK => first | exact rfl | assumption); (case kd => ktr_room); intro e' t' dx' h' tk' F' N' D'; refine ⟨_, _, _, rfl, Frag.In.keeps (by k_asm) (Fr.keep F'), News.get N' (.head _), ?_⟩; (try k_sweep))
  k_with "leaving ref" => (k_here; k_dflt (first | (refine' leave_raiseM ?k1 ?k2 ?k3 ?k4 ?_; (case k3 => assumption); (case k1 => assumption); (case k2 => assumption); (case k4 => assumption); intro h' R' U'; (try dsimp only at R' U' ⊢)) | (refine' leave_onM ?k1 ?k2 ?k3 ?k4 ?_; (case k3 => assumption); (case k1 => assumption); (case k4 => assumption); (case k2 => assumption); intro h' R' U'; (try dsimp only at R' U' ⊢))))
  k_with "call type:bytes" => (k_here; (with_reducible show wpAny _ _ (call (Value.type "bytes") [Value.bytes _ _]) _ _ _); k_dflt (refine bytes_again ?_); intro _)
  k_with "call type:bytes" => (k_here; (with_reducible show wpAny _ _ (call (Value.type "bytes") [Value.int _ _]) _ _ _); k_dflt (refine bytes_zeros (by omega) (by omega) ?_); intro _ _)
  k_with "call ref" => (k_here; (with_reducible show wpAny _ _ (call (Value.ref 96) _) _ _ _); k_dflt (refine' Calls.use (is_restart_spec _ _ _) ?k1 ?k2 ?k3 ?k4 ?k5 ?kK ?kd ?ku ?_ ?_); (case k1 => k_asm); (case k2 => k_asm); (case k3 => k_asm); (case k4 => k_asm); (case k5 => k_asm); (case kK => first | exact rfl | assumption); (case kd => ktr_room); (case ku => ktr_units); (all_goals first | (intro C' g' e' h' tk' hx' FG' R' U'; first | exact hx'.elim | ((with_reducible have ck' := RaisedM.sub R' (fun _ hp => hp)); clear ck'; (try dsimp only at R' U'))) | (intro r' n' h' tk' hR' F' N'; (try k_sweep); (obtain ⟨rfl, rfl⟩ := hR'); (try dsimp only); (try k_fold))))
  k_with "call ref" => (k_here; (with_reducible show wpAny _ _ (call (Value.ref 103) _) _ _ _); k_dflt (refine' Calls.use (has_length_spec _ _ _) ?k1 ?k2 ?k3 ?k4 ?k5 ?kK ?kd ?ku ?_ ?_); (case k1 => k_asm); (case k2 => k_asm); (case k3 => k_asm); (case k4 => k_asm); (case k5 => k_asm); (case kK => first | exact rfl | assumption); (case kd => ktr_room); (case ku => ktr_units); (all_goals first | (intro C' g' e' h' tk' hx' FG' R' U'; first | exact hx'.elim | ((with_reducible have ck' := RaisedM.sub R' (fun _ hp => hp)); clear ck'; (try dsimp only at R' U'))) | (intro r' n' h' tk' hR' F' N'; (try k_sweep); (obtain ⟨rfl, rfl⟩ := hR'); (try dsimp only); (try k_fold))))
  k_with "call ref" => (k_here; (with_reducible show wpAny _ _ (call (Value.ref 132) _) _ _ _); k_dflt (refine' Calls.use (next_marker_spec _ _ _ _ _ _ ?p1 ?p2 ?p3) ?k1 ?k2 ?k3 ?k4 ?k5 ?kK ?kd ?ku ?_ ?_); (case k1 => k_asm); (case k2 => k_asm); (case k3 => k_asm); (case k4 => k_asm); (case k5 => k_asm); (case kK => first | exact rfl | assumption); (case kd => ktr_room); (case ku => ktr_units); (case p1 => assumption); (case p2 => assumption); (case p3 => first | assumption | omega); (all_goals first | (intro C' g' e' h' tk' hx' FG' R' U'; first | exact hx'.elim | ((with_reducible have ck' := RaisedM.sub R' (fun _ hp => hp)); clear ck'; (try dsimp only at R' U'))) | (intro r' n' h' tk' hR' F' N'; (try k_sweep); (obtain ⟨fd', e0, rfl, rfl⟩ := hR'); (try dsimp only); (try k_fold))))
  k_with "KswEnd" => (k_here; (rename Fr _ _ _ _ => F9); (rename News _ _ _ _ => N9); k_dflt (refine' ksw_end ⟨_, _⟩ F9 N9 ?ka ?kb ?kc ?kz ?kp ?km); (case ka => first | exact fun _ hp => hp | exact fun _ hp => .tail _ hp | kst_in); (case kb => kst_facts); (case kc => kst_all); (case kz => (intro z h2 h3; have h9 := h2 _ (.head _); first | (dsimp only at h9 ⊢; simp only [if_neg h9, List.contains_nil, Bool.false_eq_true, if_false]; first | done | rfl | (simp only [kstB, List.contains_nil, Bool.false_eq_true, if_false]; first | done | rfl)) | ksw_same)); (case kp => kst_p); (case km => ksw_less))
  k_with "call ref" => (k_here; (with_reducible show wpAny _ _ (call (Value.ref 139) _) _ _ _); k_dflt (refine' Calls.use (data_end_spec _ _ _ _ _ _ ?p1 ?p2 ?p3) ?k1 ?k2 ?k3 ?k4 ?k5 ?kK ?kd ?ku ?_ ?_); (case k1 => k_asm); (case k2 => k_asm); (case k3 => k_asm); (case k4 => k_asm); (case k5 => k_asm); (case kK => first | exact rfl | assumption); (case kd => ktr_room); (case ku => ktr_units); (case p1 => assumption); (case p2 => assumption); (case p3 => first | assumption | omega); (all_goals first | (intro C' g' e' h' tk' hx' FG' R' U'; first | exact hx'.elim | ((with_reducible have ck' := RaisedM.sub R' (fun _ hp => hp)); clear ck'; (try dsimp only at R' U'))) | (intro r' n' h' tk' hR' F' N'; (try k_sweep); (obtain ⟨pe', tk9, e0, rfl, rfl⟩ := hR'); (try dsimp only); (try k_fold))))
  k_with "call ref" => (k_here; (with_reducible show wpAny _ _ (call (Value.ref 146) _) _ _ _); k_dflt (refine' Calls.use (read_code_spec _ _ _ _ _ _ ?p1 ?p2 ?p3) ?k1 ?k2 ?k3 ?k4 ?k5 ?kK ?kd ?ku ?_ ?_); (case k1 => k_asm); (case k2 => k_asm); (case k3 => k_asm); (case k4 => k_asm); (case k5 => k_asm); (case kK => first | exact rfl | assumption); (case kd => ktr_room); (case ku => ktr_units); (case p1 => assumption); (case p2 => assumption); (case p3 => first | assumption | omega); (all_goals first | (intro C' g' e' h' tk' hx' FG' R' U'; first | exact hx'.elim | ((with_reducible have ck' := RaisedM.sub R' (fun _ hp => hp)); clear ck'; (try dsimp only at R' U'))) | (intro r' n' h' tk' hR' F' N'; (try k_sweep); (obtain ⟨k', j', D', t1', t2', e0, e1, rfl, rfl⟩ := hR'); (try dsimp only); (try k_fold))))
  k_with "call ref" => (k_here; (with_reducible show wpAny _ _ (call (Value.ref 153) _) _ _ _); k_dflt (refine' Calls.use (read_payload_spec _ _ _ _ _ _ ?p1 ?p2 ?p3) ?k1 ?k2 ?k3 ?k4 ?k5 ?kK ?kd ?ku ?_ ?_); (case k1 => k_asm); (case k2 => k_asm); (case k3 => k_asm); (case k4 => k_asm); (case k5 => k_asm); (case kK => first | exact rfl | assumption); (case kd => ktr_room); (case ku => ktr_units); (case p1 => assumption); (case p2 => assumption); (case p3 => first | assumption | omega); (all_goals first | (intro C' g' e' h' tk' hx' FG' R' U'; first | exact hx'.elim | ((with_reducible have ck' := RaisedM.sub R' (fun _ hp => hp)); clear ck'; (try dsimp only at R' U'))) | (intro r' n' h' tk' hR' F' N'; (try k_sweep); (obtain ⟨pl', j', D', b', t1', t2', e0, e1, rfl, rfl, e2⟩ := hR'); (try dsimp only); (try k_fold))))
  k_with "call ref" => (k_here; (with_reducible show wpAny _ _ (call (Value.ref 121) _) _ _ _); k_dflt (refine' Calls.use (piece_spec _ _ _ _ _ (.inl rfl)) ?k1 ?k2 ?k3 ?k4 ?k5 ?kK ?kd ?ku ?_ ?_); (case k1 => k_asm); (case k2 => k_asm); (case k3 => k_asm); (case k4 => k_asm); (case k5 => k_asm); (case kK => first | exact rfl | assumption); (case kd => ktr_room); (case ku => ktr_units); (all_goals first | (intro C' g' e' h' tk' hx' FG' R' U'; first | exact hx'.elim | ((with_reducible have ck' := RaisedM.sub R' (fun _ hp => hp)); clear ck'; (try dsimp only at R' U'))) | (intro r' n' h' tk' hR' F' N'; (try k_sweep); (obtain ⟨x', dx', h1', h2', h3', k1', k2', k3', rfl, lx', ly', rfl⟩ := hR'); (try dsimp only); (try k_fold))))
  k_with "call ref" => (k_here; (with_reducible show wpAny _ _ (call (Value.ref 121) _) _ _ _); k_dflt (refine' Calls.use (piece_spec _ _ _ _ _ (.inr (.inl ⟨rfl, rfl⟩))) ?k1 ?k2 ?k3 ?k4 ?k5 ?kK ?kd ?ku ?_ ?_); (case k1 => k_asm); (case k2 => k_asm); (case k3 => k_asm); (case k4 => k_asm); (case k5 => k_asm); (case kK => first | exact rfl | assumption); (case kd => ktr_room); (case ku => ktr_units); (all_goals first | (intro C' g' e' h' tk' hx' FG' R' U'; first | exact hx'.elim | ((with_reducible have ck' := RaisedM.sub R' (fun _ hp => hp)); clear ck'; (try dsimp only at R' U'))) | (intro r' n' h' tk' hR' F' N'; (try k_sweep); (obtain ⟨x', dx', h1', h2', h3', k1', k2', k3', rfl, lx', ly', rfl⟩ := hR'); (try dsimp only); (try k_fold))))
  k_with "call ref" => (k_here; (with_reducible show wpAny _ _ (call (Value.ref 121) _) _ _ _); k_dflt (refine' Calls.use (piece_spec _ _ _ _ _ (.inr (.inr ⟨rfl, rfl, rfl⟩))) ?k1 ?k2 ?k3 ?k4 ?k5 ?kK ?kd ?ku ?_ ?_); (case k1 => k_asm); (case k2 => k_asm); (case k3 => k_asm); (case k4 => k_asm); (case k5 => k_asm); (case kK => first | exact rfl | assumption); (case kd => ktr_room); (case ku => ktr_units); (all_goals first | (intro C' g' e' h' tk' hx' FG' R' U'; first | exact hx'.elim | ((with_reducible have ck' := RaisedM.sub R' (fun _ hp => hp)); clear ck'; (try dsimp only at R' U'))) | (intro r' n' h' tk' hR' F' N'; (try k_sweep); (obtain ⟨x', dx', h1', h2', h3', k1', k2', k3', rfl, lx', ly', rfl⟩ := hR'); (try dsimp only); (try k_fold))))
  k_with "call ref" => (k_here; (with_reducible show wpAny _ _ (call (Value.ref 160) _) _ _ _); k_dflt (refine' Calls.use (read_piece_spec _ _ _ _ _ _ ?p1 ?p2 ?p3) ?k1 ?k2 ?k3 ?k4 ?k5 ?kK ?kd ?ku ?_ ?_); (case k1 => k_asm); (case k2 => k_asm); (case k3 => k_asm); (case k4 => k_asm); (case k5 => k_asm); (case kK => first | exact rfl | assumption); (case kd => ktr_room); (case ku => ktr_units); (case p1 => assumption); (case p2 => assumption); (case p3 => first | assumption | omega); (all_goals first | (intro C' g' e' h' tk' hx' FG' R' U'; first | exact hx'.elim | ((with_reducible have ck' := RaisedM.sub R' (fun _ hp => hp)); clear ck'; (try dsimp only at R' U'))) | (intro r' n' h' tk' hR' F' N'; (try k_sweep); (obtain ⟨D', x', dx', t1', tc', tp', td', k1', k2', k3', h1', h2', h3', k', j', pb', db', e0, e1, rfl, rfl⟩ := hR'); (try dsimp only); (try k_fold))))
  intro dp un gd cn cs a ccd cl outer A₀ base h₀ L m s p loose mean mg mb Q E hB hF hX hN hT hk hd hu hret hex
  refine wpAny_call ?_
  k_dflt cell_enter
  k_with "exec While Compare cons nil" => refine Stop.out ?_
  k_with "subscriptTail" => (k_here; k_dflt (refine' last_item ?k1 ?_ ?k2; (case k1 => k_asm); (case k2 => with_unfolding_all rfl)))
  k_with "call builtin:list.append" => refine Stop.out ?_
  k_steps
  · (refine' hex _ _ _ _ _ ?hx ?hF ?hR ?hU; (case hR => first | assumption | exact RaisedM.sub (by assumption) (fun p hp => by simp [hp])); (case hF => assumption); (case hU => assumption); (case hx => exact .short (by omega)))
  · (refine' hex _ _ _ _ _ ?hx ?hF ?hR ?hU; (case hR => first | assumption | exact RaisedM.sub (by assumption) (fun p hp => by simp [hp])); (case hF => assumption); (case hU => assumption); (case hx => exact .begins (by omega) (.inl (by assumption))))
  · (refine' hex _ _ _ _ _ ?hx ?hF ?hR ?hU; (case hR => first | assumption | exact RaisedM.sub (by assumption) (fun p hp => by simp [hp])); (case hF => assumption); (case hU => assumption); (case hx => exact .begins (by omega) (.inr (by assumption))))
  refine Stop.mk ?_
  rename Fr _ _ _ _ => lF
  rename News _ _ _ _ => lN
  refine' pieces_while (ks := ks) lF lN (by assumption) rfl (by omega) (by assumption) (by assumption) ?turn
  case turn =>
    clear lF lN
    intro cc u hh tk ok F N
    rcases cc with ⟨vs, cap, x, dx, h1, h2, h3, k1, k2, k3, tc, tp, td, ta, k, pb, db, older, rows, j⟩
    obtain ⟨o1, o2, o3, o4, o5⟩ := id ok
    dsimp only [RS.led, RS.last] at o1 o2 o3 o4 o5 F N ⊢
    try k_fold
    k_with "KswEnd" => refine Stop.out ?_
    k_steps
    · (have a9 : k' = 216 := by assumption); subst a9
      (refine' hex _ _ _ _ _ ?hx ?hF ?hR ?hU; (case hR => first | assumption | exact RaisedM.sub (by assumption) (fun p hp => by simp [hp])); (case hF => assumption); (case hU => assumption); (case hx => exact o5 _ (.soi (by assumption) e0)))
    · refine Stop.mk ?_
      rename Fr _ _ _ _ => F9
      rename News _ _ _ _ => N9
      refine append_piece F9 N9 o2 (by have := (pieceM_lt o3 e0).2; omega) ?_
      intro h9 n1 n2 F8 N8
      (try dsimp only)
      (try k_fold)
      k_steps
      refine Stop.mk ?_
      rename Fr _ _ _ _ => F7
      rename News _ _ _ _ => N7
      obtain ⟨q1, q2⟩ := ok.next (by assumption) e0 (by assumption) n1 n2
      exact ksw_end _ F7 N7 (fun _ h => h) q1 (List.forall_mem_cons.mpr ⟨rfl, List.forall_mem_nil _⟩) (by ksw_same) trivial q2
    · (refine' hex _ _ _ _ _ ?hx ?hF ?hR ?hU; (case hR => first | assumption | exact RaisedM.sub (by assumption) (fun p hp => by simp [hp])); (case hF => assumption); (case hU => assumption); (case hx => exact o5 _ (.err (by assumption) (by assumption))))
    · (have a9 : k = 217 := by assumption); subst a9
      (have q := o5 _ .stop)
      (refine' hret _ _ _ _ (⟨_, _, _, rows ++ [(217, pb, db)], _, ?h1, rfl, rfl, ?h2, ?h3⟩) ?hF ?hN; (case hN => assumption); (case hF => assumption); (case h1 => simpa [Except.map] using q); (case h2 => exact (o1.mono fun p hp => .tail _ (.tail _ (List.mem_append_left _ hp))).snoc ⟨_, _, _, _, _, _, _, _, _, _, _, rfl, .head _, .tail _ (.head _)⟩); (case h3 => exact fun p hp => .tail _ (.tail _ (List.mem_append_right _ hp))))

/-- a contract over a ledger of which all is at hand is one over the ledger at hand -/
theorem Calls.sub {prog : Program} {w : World} {d f : Nat} {args : List Value} {L1 news : List (Addr × Obj)} {P : Value → Prop} {X : Addr → Prop} (c : Calls prog w d f args L1 (fun r n' => P r ∧ n' = L1) X) (hs : ∀ p ∈ L1, p ∈ news) (hb : ∀ p ∈ news, p ∈ L1) :
    Calls prog w d f args news (fun r n' => P r ∧ n' = news) X := by
  intro dp un gd cn cs a ccd cl outer A₀ base h₀ L m s p loose mean mg mb Q E hB hF hX' hN hT hk hd' hu hret hex
  refine c _ _ _ _ _ _ _ _ _ _ _ _ _ _ _ _ _ _ _ _ _ _ hB hF hX' (fun p hp => hN p (hs p hp)) hT hk hd' hu (fun r n h' tk' hr F' N' => ?_) fun C g e h' tk' x F' R' U' => hex C g e h' tk' x F' (R'.sub hb) U'
  obtain ⟨hp, rfl⟩ := hr
  exact hret r _ h' tk' ⟨hp, rfl⟩ F' fun p hp => N' p (hb p hp)

theorem word_in {c : Int} (h0 : 0 ≤ c) (h1 : c ≤ 65535) : KBa.In [c.fdiv 256, c.fmod 256] := by
  rw [Int.fdiv_eq_ediv_of_nonneg _ (by decide), Int.fmod_eq_emod_of_nonneg _ (by decide)]
  refine List.forall_mem_cons.mpr ⟨?_, List.forall_mem_cons.mpr ⟨?_, List.forall_mem_nil _⟩⟩ <;> omega
theorem word_ints {c : Int} (h0 : 0 ≤ c) (h1 : c ≤ 65535) : KBw.bInts (byteArr [c.fdiv 256, c.fmod 256]) = [c / 256, c % 256] := by
  rw [KBa.ints_make (word_in h0 h1), Int.fdiv_eq_ediv_of_nonneg _ (by decide), Int.fmod_eq_emod_of_nonneg _ (by decide)]

set_option maxHeartbeats 1000000 in
theorem word_spec {prog : Program} {w : World} (news : List (Addr × Obj)) (c : Int) (t : Tok) (h0 : 0 ≤ c) (h1 : c ≤ 65535) :
    Calls prog w 2 89 [.int c t] news (fun r n' => (∃ (b : Array UInt8) (tk : Tok), KBw.bInts b = [c / 256, c % 256] ∧ r = .bytes b tk) ∧ n' = news) (fun _ => False) := by
  k_with_none
  k_with "exec Raise some none" => (k_here; (with_reducible show wpAny _ _ (exec (Stmt.Raise (some (PySem.Expr.Call (PySem.Expr.Name ("CutError" : Str) _) _ _ _)) none _) _) _ _ _); k_dflt (refine raise68 rfl ?_))
  k_with "exec Raise some none" => (k_here; (with_reducible show wpAny _ _ (exec (Stmt.Raise (some (PySem.Expr.Call (PySem.Expr.Name ("MarkerError" : Str) _) _ _ _)) none _) _) _ _ _); k_dflt (refine raise44 rfl ?_))
  k_with "exec Raise some none" => (k_here; (with_reducible show wpAny _ _ (exec (Stmt.Raise (some (PySem.Expr.Call (PySem.Expr.Name ("SegmentError" : Str) _) _ _ _)) none _) _) _ _ _); k_dflt (refine raise56 rfl ?_))
  k_with "call ref" => (k_here; (with_reducible show wpAny _ _ (call (Value.ref _) [Value.str _ _]) (RaiseAt _ _ _) _ _); k_dflt (first | refine' exc_call (exc68 _) ?k1 ?k2 ?k3 ?k4 ?k5 ?kA ?kF ?kK ?kd ?_ | refine' exc_call (exc44 _) ?k1 ?k2 ?k3 ?k4 ?k5 ?kA ?kF ?kK ?kd ?_ | refine' exc_call (exc56 _) ?k1 ?k2 ?k3 ?k4 ?k5 ?kA ?kF ?kK ?kd ?_); (case k1 => k_asm); (case k2 => k_asm); (case k3 => k_asm); (case k4 => k_asm); (case k5 => k_asm); (case kA => exact rfl); (case kF => exact rfl); (case kK => first | exact rfl | assumption); (case kd => ktr_room); intro e' t' dx' h' tk' F' N' D'; refine ⟨_, _, _, rfl, Frag.In.keeps (by k_asm) (Fr.keep F'), News.get N' (.head _), ?_⟩; (try k_sweep))
  k_with "leaving ref" => (k_here; k_dflt (first | (refine' leave_raiseM ?k1 ?k2 ?k3 ?k4 ?_; (case k3 => assumption); (case k1 => assumption); (case k2 => assumption); (case k4 => assumption); intro h' R' U'; (try dsimp only at R' U' ⊢)) | (refine' leave_onM ?k1 ?k2 ?k3 ?k4 ?_; (case k3 => assumption); (case k1 => assumption); (case k4 => assumption); (case k2 => assumption); intro h' R' U'; (try dsimp only at R' U' ⊢))))
  k_with "call type:bytes" => (k_here; (with_reducible show wpAny _ _ (call (Value.type "bytes") [Value.bytes _ _]) _ _ _); k_dflt (refine bytes_again ?_); intro _)
  k_with "call type:bytes" => (k_here; (with_reducible show wpAny _ _ (call (Value.type "bytes") [Value.int _ _]) _ _ _); k_dflt (refine bytes_zeros (by omega) (by omega) ?_); intro _ _)
  k_with "call ref" => (k_here; (with_reducible show wpAny _ _ (call (Value.ref 96) _) _ _ _); k_dflt (refine' Calls.use (is_restart_spec _ _ _) ?k1 ?k2 ?k3 ?k4 ?k5 ?kK ?kd ?ku ?_ ?_); (case k1 => k_asm); (case k2 => k_asm); (case k3 => k_asm); (case k4 => k_asm); (case k5 => k_asm); (case kK => first | exact rfl | assumption); (case kd => ktr_room); (case ku => ktr_units); (all_goals first | (intro C' g' e' h' tk' hx' FG' R' U'; first | exact hx'.elim | ((with_reducible have ck' := RaisedM.sub R' (fun _ hp => hp)); clear ck'; (try dsimp only at R' U'))) | (intro r' n' h' tk' hR' F' N'; (try k_sweep); (obtain ⟨rfl, rfl⟩ := hR'); (try dsimp only); (try k_fold))))
  k_with "call ref" => (k_here; (with_reducible show wpAny _ _ (call (Value.ref 103) _) _ _ _); k_dflt (refine' Calls.use (has_length_spec _ _ _) ?k1 ?k2 ?k3 ?k4 ?k5 ?kK ?kd ?ku ?_ ?_); (case k1 => k_asm); (case k2 => k_asm); (case k3 => k_asm); (case k4 => k_asm); (case k5 => k_asm); (case kK => first | exact rfl | assumption); (case kd => ktr_room); (case ku => ktr_units); (all_goals first | (intro C' g' e' h' tk' hx' FG' R' U'; first | exact hx'.elim | ((with_reducible have ck' := RaisedM.sub R' (fun _ hp => hp)); clear ck'; (try dsimp only at R' U'))) | (intro r' n' h' tk' hR' F' N'; (try k_sweep); (obtain ⟨rfl, rfl⟩ := hR'); (try dsimp only); (try k_fold))))
  k_with "call ref" => (k_here; (with_reducible show wpAny _ _ (call (Value.ref 132) _) _ _ _); k_dflt (refine' Calls.use (next_marker_spec _ _ _ _ _ _ ?p1 ?p2 ?p3) ?k1 ?k2 ?k3 ?k4 ?k5 ?kK ?kd ?ku ?_ ?_); (case k1 => k_asm); (case k2 => k_asm); (case k3 => k_asm); (case k4 => k_asm); (case k5 => k_asm); (case kK => first | exact rfl | assumption); (case kd => ktr_room); (case ku => ktr_units); (case p1 => assumption); (case p2 => assumption); (case p3 => first | assumption | omega); (all_goals first | (intro C' g' e' h' tk' hx' FG' R' U'; first | exact hx'.elim | ((with_reducible have ck' := RaisedM.sub R' (fun _ hp => hp)); clear ck'; (try dsimp only at R' U'))) | (intro r' n' h' tk' hR' F' N'; (try k_sweep); (obtain ⟨fd', e0, rfl, rfl⟩ := hR'); (try dsimp only); (try k_fold))))
  k_with "KswEnd" => (k_here; (rename Fr _ _ _ _ => F9); (rename News _ _ _ _ => N9); k_dflt (refine' ksw_end ⟨_, _⟩ F9 N9 ?ka ?kb ?kc ?kz ?kp ?km); (case ka => first | exact fun _ hp => hp | exact fun _ hp => .tail _ hp | kst_in); (case kb => kst_facts); (case kc => kst_all); (case kz => (intro z h2 h3; have h9 := h2 _ (.head _); first | (dsimp only at h9 ⊢; simp only [if_neg h9, List.contains_nil, Bool.false_eq_true, if_false]; first | done | rfl | (simp only [kstB, List.contains_nil, Bool.false_eq_true, if_false]; first | done | rfl)) | ksw_same)); (case kp => kst_p); (case km => ksw_less))
  k_with "call ref" => (k_here; (with_reducible show wpAny _ _ (call (Value.ref 139) _) _ _ _); k_dflt (refine' Calls.use (data_end_spec _ _ _ _ _ _ ?p1 ?p2 ?p3) ?k1 ?k2 ?k3 ?k4 ?k5 ?kK ?kd ?ku ?_ ?_); (case k1 => k_asm); (case k2 => k_asm); (case k3 => k_asm); (case k4 => k_asm); (case k5 => k_asm); (case kK => first | exact rfl | assumption); (case kd => ktr_room); (case ku => ktr_units); (case p1 => assumption); (case p2 => assumption); (case p3 => first | assumption | omega); (all_goals first | (intro C' g' e' h' tk' hx' FG' R' U'; first | exact hx'.elim | ((with_reducible have ck' := RaisedM.sub R' (fun _ hp => hp)); clear ck'; (try dsimp only at R' U'))) | (intro r' n' h' tk' hR' F' N'; (try k_sweep); (obtain ⟨pe', tk9, e0, rfl, rfl⟩ := hR'); (try dsimp only); (try k_fold))))
  k_with "call ref" => (k_here; (with_reducible show wpAny _ _ (call (Value.ref 146) _) _ _ _); k_dflt (refine' Calls.use (read_code_spec _ _ _ _ _ _ ?p1 ?p2 ?p3) ?k1 ?k2 ?k3 ?k4 ?k5 ?kK ?kd ?ku ?_ ?_); (case k1 => k_asm); (case k2 => k_asm); (case k3 => k_asm); (case k4 => k_asm); (case k5 => k_asm); (case kK => first | exact rfl | assumption); (case kd => ktr_room); (case ku => ktr_units); (case p1 => assumption); (case p2 => assumption); (case p3 => first | assumption | omega); (all_goals first | (intro C' g' e' h' tk' hx' FG' R' U'; first | exact hx'.elim | ((with_reducible have ck' := RaisedM.sub R' (fun _ hp => hp)); clear ck'; (try dsimp only at R' U'))) | (intro r' n' h' tk' hR' F' N'; (try k_sweep); (obtain ⟨k', j', D', t1', t2', e0, e1, rfl, rfl⟩ := hR'); (try dsimp only); (try k_fold))))
  k_with "call ref" => (k_here; (with_reducible show wpAny _ _ (call (Value.ref 153) _) _ _ _); k_dflt (refine' Calls.use (read_payload_spec _ _ _ _ _ _ ?p1 ?p2 ?p3) ?k1 ?k2 ?k3 ?k4 ?k5 ?kK ?kd ?ku ?_ ?_); (case k1 => k_asm); (case k2 => k_asm); (case k3 => k_asm); (case k4 => k_asm); (case k5 => k_asm); (case kK => first | exact rfl | assumption); (case kd => ktr_room); (case ku => ktr_units); (case p1 => assumption); (case p2 => assumption); (case p3 => first | assumption | omega); (all_goals first | (intro C' g' e' h' tk' hx' FG' R' U'; first | exact hx'.elim | ((with_reducible have ck' := RaisedM.sub R' (fun _ hp => hp)); clear ck'; (try dsimp only at R' U'))) | (intro r' n' h' tk' hR' F' N'; (try k_sweep); (obtain ⟨pl', j', D', b', t1', t2', e0, e1, rfl, rfl, e2⟩ := hR'); (try dsimp only); (try k_fold))))
  k_with "call ref" => (k_here; (with_reducible show wpAny _ _ (call (Value.ref 121) _) _ _ _); k_dflt (refine' Calls.use (piece_spec _ _ _ _ _ (.inl rfl)) ?k1 ?k2 ?k3 ?k4 ?k5 ?kK ?kd ?ku ?_ ?_); (case k1 => k_asm); (case k2 => k_asm); (case k3 => k_asm); (case k4 => k_asm); (case k5 => k_asm); (case kK => first | exact rfl | assumption); (case kd => ktr_room); (case ku => ktr_units); (all_goals first | (intro C' g' e' h' tk' hx' FG' R' U'; first | exact hx'.elim | ((with_reducible have ck' := RaisedM.sub R' (fun _ hp => hp)); clear ck'; (try dsimp only at R' U'))) | (intro r' n' h' tk' hR' F' N'; (try k_sweep); (obtain ⟨x', dx', h1', h2', h3', k1', k2', k3', rfl, lx', ly', rfl⟩ := hR'); (try dsimp only); (try k_fold))))
  k_with "call ref" => (k_here; (with_reducible show wpAny _ _ (call (Value.ref 121) _) _ _ _); k_dflt (refine' Calls.use (piece_spec _ _ _ _ _ (.inr (.inl ⟨rfl, rfl⟩))) ?k1 ?k2 ?k3 ?k4 ?k5 ?kK ?kd ?ku ?_ ?_); (case k1 => k_asm); (case k2 => k_asm); (case k3 => k_asm); (case k4 => k_asm); (case k5 => k_asm); (case kK => first | exact rfl | assumption); (case kd => ktr_room); (case ku => ktr_units); (all_goals first | (intro C' g' e' h' tk' hx' FG' R' U'; first | exact hx'.elim | ((with_reducible have ck' := RaisedM.sub R' (fun _ hp => hp)); clear ck'; (try dsimp only at R' U'))) | (intro r' n' h' tk' hR' F' N'; (try k_sweep); (obtain ⟨x', dx', h1', h2', h3', k1', k2', k3', rfl, lx', ly', rfl⟩ := hR'); (try dsimp only); (try k_fold))))
  k_with "call ref" => (k_here; (with_reducible show wpAny _ _ (call (Value.ref 121) _) _ _ _); k_dflt (refine' Calls.use (piece_spec _ _ _ _ _ (.inr (.inr ⟨rfl, rfl, rfl⟩))) ?k1 ?k2 ?k3 ?k4 ?k5 ?kK ?kd ?ku ?_ ?_); (case k1 => k_asm); (case k2 => k_asm); (case k3 => k_asm); (case k4 => k_asm); (case k5 => k_asm); (case kK => first | exact rfl | assumption); (case kd => ktr_room); (case ku => ktr_units); (all_goals first | (intro C' g' e' h' tk' hx' FG' R' U'; first | exact hx'.elim | ((with_reducible have ck' := RaisedM.sub R' (fun _ hp => hp)); clear ck'; (try dsimp only at R' U'))) | (intro r' n' h' tk' hR' F' N'; (try k_sweep); (obtain ⟨x', dx', h1', h2', h3', k1', k2', k3', rfl, lx', ly', rfl⟩ := hR'); (try dsimp only); (try k_fold))))
  k_with "call ref" => (k_here; (with_reducible show wpAny _ _ (call (Value.ref 160) _) _ _ _); k_dflt (refine' Calls.use (read_piece_spec _ _ _ _ _ _ ?p1 ?p2 ?p3) ?k1 ?k2 ?k3 ?k4 ?k5 ?kK ?kd ?ku ?_ ?_); (case k1 => k_asm); (case k2 => k_asm); (case k3 => k_asm); (case k4 => k_asm); (case k5 => k_asm); (case kK => first | exact rfl | assumption); (case kd => ktr_room); (case ku => ktr_units); (case p1 => assumption); (case p2 => assumption); (case p3 => first | assumption | omega); (all_goals first | (intro C' g' e' h' tk' hx' FG' R' U'; first | exact hx'.elim | ((with_reducible have ck' := RaisedM.sub R' (fun _ hp => hp)); clear ck'; (try dsimp only at R' U'))) | (intro r' n' h' tk' hR' F' N'; (try k_sweep); (obtain ⟨D', x', dx', t1', tc', tp', td', k1', k2', k3', h1', h2', h3', k', j', pb', db', e0, e1, rfl, rfl⟩ := hR'); (try dsimp only); (try k_fold))))
  intro dp un gd cn cs a ccd cl outer A₀ base h₀ L m s p loose mean mg mb Q E hB hF hX hN hT hk hd hu hret hex
  refine wpAny_call ?_
  k_dflt cell_enter
  k_with "call type:bytes" => (k_here; (with_reducible show wpAny _ _ (call (Value.type "bytes") [Value.ref _]) _ _ _); k_dflt (refine' KBa.make_K ?kbaF ?kbaN ?kbah ?kbal ?kbai ?kbar ?kban ?_; (case kbaF => k_asm); (case kbaN => k_asm); (case kbah => rfl); (case kbal => kba_isList); (case kbai => kba_listInts); (case kbar => exact word_in h0 h1); (case kban => kba_size)); intro _ _ _ F' N' kbaIn)
  k_steps
  rename News _ _ _ _ => N9; replace N9 := cb_drop N9 (news := news) (fun p hp => .tail _ hp)
  (refine' hret _ _ _ _ (⟨⟨_, _, word_ints h0 h1, rfl⟩, rfl⟩) ?hF ?hN; (case hN => assumption); (case hF => assumption))

/-- the octets of a piece -/
def writeM (r : RowI) : Except Nat (List Int) :=
  if ¬ (r.1 = 216 ∨ r.1 = 217 ∨ r.1 = 1) ∧ ¬ rstM r.1 then
    if 65533 < r.2.1.length then .error 56 else .ok ([255, r.1] ++ ([(r.2.1.length + 2 : Int) / 256, (r.2.1.length + 2 : Int) % 256] ++ r.2.1) ++ r.2.2)
  else .ok ([255, r.1] ++ r.2.2)

theorem two_back {k : Int} (h0 : 0 ≤ k) (h1 : k < 256) : List.map (fun c : UInt8 => ((c.toNat : Nat) : Int)) [(Int.toNat 255).toUInt8, k.toNat.toUInt8] = [255, k] := by
  simp only [List.map_cons, List.map_nil, byte_back h0 h1, byte_back (n := 255) (by decide) (by decide)]
set_option maxHeartbeats 2000000 in
theorem write_piece_at {prog : Program} {w : World} (news : List (Addr × Obj)) (x dx : Addr) (h1 h2 h3 : Int) (k1 k2 k3 tc tp td : Tok) (k : Int) (pb db : Array UInt8) (ps ds : List Int) (hp : KBw.bInts pb = ps) (hd : KBw.bInts db = ds) (hk0 : 0 ≤ k) (hk1 : k < 256) (hpl : ps.length ≤ 1000000) (hdl : ds.length ≤ 1000000) :
    Calls prog w 6 174 [.ref x] ((x, instObj 121 dx) :: (dx, pieceDict h1 h2 h3 k1 k2 k3 (.int k tc) (.bytes pb tp) (.bytes db td)) :: news)
      (fun r n' => (∃ (b : Array UInt8) (tk : Tok), writeM (k, ps, ds) = .ok (KBw.bInts b) ∧ r = .bytes b tk) ∧ n' = (x, instObj 121 dx) :: (dx, pieceDict h1 h2 h3 k1 k2 k3 (.int k tc) (.bytes pb tp) (.bytes db td)) :: news)
      (fun C => C = 56 ∧ writeM (k, ps, ds) = .error C) := by
  k_with_none
  k_with "exec Raise some none" => (k_here; (with_reducible show wpAny _ _ (exec (Stmt.Raise (some (PySem.Expr.Call (PySem.Expr.Name ("CutError" : Str) _) _ _ _)) none _) _) _ _ _); k_dflt (refine raise68 rfl ?_))
  k_with "exec Raise some none" => (k_here; (with_reducible show wpAny _ _ (exec (Stmt.Raise (some (PySem.Expr.Call (PySem.Expr.Name ("MarkerError" : Str) _) _ _ _)) none _) _) _ _ _); k_dflt (refine raise44 rfl ?_))
  k_with "exec Raise some none" => (k_here; (with_reducible show wpAny _ _ (exec (Stmt.Raise (some (PySem.Expr.Call (PySem.Expr.Name ("SegmentError" : Str) _) _ _ _)) none _) _) _ _ _); k_dflt (refine raise56 rfl ?_))
  k_with "call ref" => (k_here; (with_reducible show wpAny _ _ (call (Value.ref _) [Value.str _ _]) (RaiseAt _ _ _) _ _); k_dflt (first | refine' exc_call (exc68 _) ?k1 ?k2 ?k3 ?k4 ?k5 ?kA ?kF ?kK ?kd ?_ | refine' exc_call (exc44 _) ?k1 ?k2 ?k3 ?k4 ?k5 ?kA ?kF ?kK ?kd ?_ | refine' exc_call (exc56 _) ?k1 ?k2 ?k3 ?k4 ?k5 ?kA ?kF ?kK ?kd ?_); (case k1 => k_asm); (case k2 => k_asm); (case k3 => k_asm); (case k4 => k_asm); (case k5 => k_asm); (case kA => exact rfl); (case kF => exact rfl); (case kK => first | exact rfl | assumption); (case kd => ktr_room); intro e' t' dx' h' tk' F' N' D'; refine ⟨_, _, _, rfl, Frag.In.keeps (by k_asm) (Fr.keep F'), News.get N' (.head _), ?_⟩; (try k_sweep))
  k_with "leaving ref" => (k_here; k_dflt (first | (refine' leave_raiseM ?k1 ?k2 ?k3 ?k4 ?_; (case k3 => assumption); (case k1 => assumption); (case k2 => assumption); (case k4 => assumption); intro h' R' U'; (try dsimp only at R' U' ⊢)) | (refine' leave_onM ?k1 ?k2 ?k3 ?k4 ?_; (case k3 => assumption); (case k1 => assumption); (case k4 => assumption); (case k2 => assumption); intro h' R' U'; (try dsimp only at R' U' ⊢))))
  k_with "call type:bytes" => (k_here; (with_reducible show wpAny _ _ (call (Value.type "bytes") [Value.bytes _ _]) _ _ _); k_dflt (refine bytes_again ?_); intro _)
  k_with "call type:bytes" => (k_here; (with_reducible show wpAny _ _ (call (Value.type "bytes") [Value.int _ _]) _ _ _); k_dflt (refine bytes_zeros (by omega) (by omega) ?_); intro _ _)
  k_with "call ref" => (k_here; (with_reducible show wpAny _ _ (call (Value.ref 96) _) _ _ _); k_dflt (refine' Calls.use (is_restart_spec _ _ _) ?k1 ?k2 ?k3 ?k4 ?k5 ?kK ?kd ?ku ?_ ?_); (case k1 => k_asm); (case k2 => k_asm); (case k3 => k_asm); (case k4 => k_asm); (case k5 => k_asm); (case kK => first | exact rfl | assumption); (case kd => ktr_room); (case ku => ktr_units); (all_goals first | (intro C' g' e' h' tk' hx' FG' R' U'; first | exact hx'.elim | ((with_reducible have ck' := RaisedM.sub R' (fun _ hp => hp)); clear ck'; (try dsimp only at R' U'))) | (intro r' n' h' tk' hR' F' N'; (try k_sweep); (obtain ⟨rfl, rfl⟩ := hR'); (try dsimp only); (try k_fold))))
  k_with "call ref" => (k_here; (with_reducible show wpAny _ _ (call (Value.ref 103) _) _ _ _); k_dflt (refine' Calls.use (has_length_spec _ _ _) ?k1 ?k2 ?k3 ?k4 ?k5 ?kK ?kd ?ku ?_ ?_); (case k1 => k_asm); (case k2 => k_asm); (case k3 => k_asm); (case k4 => k_asm); (case k5 => k_asm); (case kK => first | exact rfl | assumption); (case kd => ktr_room); (case ku => ktr_units); (all_goals first | (intro C' g' e' h' tk' hx' FG' R' U'; first | exact hx'.elim | ((with_reducible have ck' := RaisedM.sub R' (fun _ hp => hp)); clear ck'; (try dsimp only at R' U'))) | (intro r' n' h' tk' hR' F' N'; (try k_sweep); (obtain ⟨rfl, rfl⟩ := hR'); (try dsimp only); (try k_fold))))
  k_with "call ref" => (k_here; (with_reducible show wpAny _ _ (call (Value.ref 132) _) _ _ _); k_dflt (refine' Calls.use (next_marker_spec _ _ _ _ _ _ ?p1 ?p2 ?p3) ?k1 ?k2 ?k3 ?k4 ?k5 ?kK ?kd ?ku ?_ ?_); (case k1 => k_asm); (case k2 => k_asm); (case k3 => k_asm); (case k4 => k_asm); (case k5 => k_asm); (case kK => first | exact rfl | assumption); (case kd => ktr_room); (case ku => ktr_units); (case p1 => assumption); (case p2 => assumption); (case p3 => first | assumption | omega); (all_goals first | (intro C' g' e' h' tk' hx' FG' R' U'; first | exact hx'.elim | ((with_reducible have ck' := RaisedM.sub R' (fun _ hp => hp)); clear ck'; (try dsimp only at R' U'))) | (intro r' n' h' tk' hR' F' N'; (try k_sweep); (obtain ⟨fd', e0, rfl, rfl⟩ := hR'); (try dsimp only); (try k_fold))))
  k_with "KswEnd" => (k_here; (rename Fr _ _ _ _ => F9); (rename News _ _ _ _ => N9); k_dflt (refine' ksw_end ⟨_, _⟩ F9 N9 ?ka ?kb ?kc ?kz ?kp ?km); (case ka => first | exact fun _ hp => hp | exact fun _ hp => .tail _ hp | kst_in); (case kb => kst_facts); (case kc => kst_all); (case kz => (intro z h2 h3; have h9 := h2 _ (.head _); first | (dsimp only at h9 ⊢; simp only [if_neg h9, List.contains_nil, Bool.false_eq_true, if_false]; first | done | rfl | (simp only [kstB, List.contains_nil, Bool.false_eq_true, if_false]; first | done | rfl)) | ksw_same)); (case kp => kst_p); (case km => ksw_less))
  k_with "call ref" => (k_here; (with_reducible show wpAny _ _ (call (Value.ref 139) _) _ _ _); k_dflt (refine' Calls.use (data_end_spec _ _ _ _ _ _ ?p1 ?p2 ?p3) ?k1 ?k2 ?k3 ?k4 ?k5 ?kK ?kd ?ku ?_ ?_); (case k1 => k_asm); (case k2 => k_asm); (case k3 => k_asm); (case k4 => k_asm); (case k5 => k_asm); (case kK => first | exact rfl | assumption); (case kd => ktr_room); (case ku => ktr_units); (case p1 => assumption); (case p2 => assumption); (case p3 => first | assumption | omega); (all_goals first | (intro C' g' e' h' tk' hx' FG' R' U'; first | exact hx'.elim | ((with_reducible have ck' := RaisedM.sub R' (fun _ hp => hp)); clear ck'; (try dsimp only at R' U'))) | (intro r' n' h' tk' hR' F' N'; (try k_sweep); (obtain ⟨pe', tk9, e0, rfl, rfl⟩ := hR'); (try dsimp only); (try k_fold))))
  k_with "call ref" => (k_here; (with_reducible show wpAny _ _ (call (Value.ref 146) _) _ _ _); k_dflt (refine' Calls.use (read_code_spec _ _ _ _ _ _ ?p1 ?p2 ?p3) ?k1 ?k2 ?k3 ?k4 ?k5 ?kK ?kd ?ku ?_ ?_); (case k1 => k_asm); (case k2 => k_asm); (case k3 => k_asm); (case k4 => k_asm); (case k5 => k_asm); (case kK => first | exact rfl | assumption); (case kd => ktr_room); (case ku => ktr_units); (case p1 => assumption); (case p2 => assumption); (case p3 => first | assumption | omega); (all_goals first | (intro C' g' e' h' tk' hx' FG' R' U'; first | exact hx'.elim | ((with_reducible have ck' := RaisedM.sub R' (fun _ hp => hp)); clear ck'; (try dsimp only at R' U'))) | (intro r' n' h' tk' hR' F' N'; (try k_sweep); (obtain ⟨k', j', D', t1', t2', e0, e1, rfl, rfl⟩ := hR'); (try dsimp only); (try k_fold))))
  k_with "call ref" => (k_here; (with_reducible show wpAny _ _ (call (Value.ref 153) _) _ _ _); k_dflt (refine' Calls.use (read_payload_spec _ _ _ _ _ _ ?p1 ?p2 ?p3) ?k1 ?k2 ?k3 ?k4 ?k5 ?kK ?kd ?ku ?_ ?_); (case k1 => k_asm); (case k2 => k_asm); (case k3 => k_asm); (case k4 => k_asm); (case k5 => k_asm); (case kK => first | exact rfl | assumption); (case kd => ktr_room); (case ku => ktr_units); (case p1 => assumption); (case p2 => assumption); (case p3 => first | assumption | omega); (all_goals first | (intro C' g' e' h' tk' hx' FG' R' U'; first | exact hx'.elim | ((with_reducible have ck' := RaisedM.sub R' (fun _ hp => hp)); clear ck'; (try dsimp only at R' U'))) | (intro r' n' h' tk' hR' F' N'; (try k_sweep); (obtain ⟨pl', j', D', b', t1', t2', e0, e1, rfl, rfl, e2⟩ := hR'); (try dsimp only); (try k_fold))))
  k_with "call ref" => (k_here; (with_reducible show wpAny _ _ (call (Value.ref 121) _) _ _ _); k_dflt (refine' Calls.use (piece_spec _ _ _ _ _ (.inl rfl)) ?k1 ?k2 ?k3 ?k4 ?k5 ?kK ?kd ?ku ?_ ?_); (case k1 => k_asm); (case k2 => k_asm); (case k3 => k_asm); (case k4 => k_asm); (case k5 => k_asm); (case kK => first | exact rfl | assumption); (case kd => ktr_room); (case ku => ktr_units); (all_goals first | (intro C' g' e' h' tk' hx' FG' R' U'; first | exact hx'.elim | ((with_reducible have ck' := RaisedM.sub R' (fun _ hp => hp)); clear ck'; (try dsimp only at R' U'))) | (intro r' n' h' tk' hR' F' N'; (try k_sweep); (obtain ⟨x', dx', h1', h2', h3', k1', k2', k3', rfl, lx', ly', rfl⟩ := hR'); (try dsimp only); (try k_fold))))
  k_with "call ref" => (k_here; (with_reducible show wpAny _ _ (call (Value.ref 121) _) _ _ _); k_dflt (refine' Calls.use (piece_spec _ _ _ _ _ (.inr (.inl ⟨rfl, rfl⟩))) ?k1 ?k2 ?k3 ?k4 ?k5 ?kK ?kd ?ku ?_ ?_); (case k1 => k_asm); (case k2 => k_asm); (case k3 => k_asm); (case k4 => k_asm); (case k5 => k_asm); (case kK => first | exact rfl | assumption); (case kd => ktr_room); (case ku => ktr_units); (all_goals first | (intro C' g' e' h' tk' hx' FG' R' U'; first | exact hx'.elim | ((with_reducible have ck' := RaisedM.sub R' (fun _ hp => hp)); clear ck'; (try dsimp only at R' U'))) | (intro r' n' h' tk' hR' F' N'; (try k_sweep); (obtain ⟨x', dx', h1', h2', h3', k1', k2', k3', rfl, lx', ly', rfl⟩ := hR'); (try dsimp only); (try k_fold))))
  k_with "call ref" => (k_here; (with_reducible show wpAny _ _ (call (Value.ref 121) _) _ _ _); k_dflt (refine' Calls.use (piece_spec _ _ _ _ _ (.inr (.inr ⟨rfl, rfl, rfl⟩))) ?k1 ?k2 ?k3 ?k4 ?k5 ?kK ?kd ?ku ?_ ?_); (case k1 => k_asm); (case k2 => k_asm); (case k3 => k_asm); (case k4 => k_asm); (case k5 => k_asm); (case kK => first | exact rfl | assumption); (case kd => ktr_room); (case ku => ktr_units); (all_goals first | (intro C' g' e' h' tk' hx' FG' R' U'; first | exact hx'.elim | ((with_reducible have ck' := RaisedM.sub R' (fun _ hp => hp)); clear ck'; (try dsimp only at R' U'))) | (intro r' n' h' tk' hR' F' N'; (try k_sweep); (obtain ⟨x', dx', h1', h2', h3', k1', k2', k3', rfl, lx', ly', rfl⟩ := hR'); (try dsimp only); (try k_fold))))
  k_with "call ref" => (k_here; (with_reducible show wpAny _ _ (call (Value.ref 160) _) _ _ _); k_dflt (refine' Calls.use (read_piece_spec _ _ _ _ _ _ ?p1 ?p2 ?p3) ?k1 ?k2 ?k3 ?k4 ?k5 ?kK ?kd ?ku ?_ ?_); (case k1 => k_asm); (case k2 => k_asm); (case k3 => k_asm); (case k4 => k_asm); (case k5 => k_asm); (case kK => first | exact rfl | assumption); (case kd => ktr_room); (case ku => ktr_units); (case p1 => assumption); (case p2 => assumption); (case p3 => first | assumption | omega); (all_goals first | (intro C' g' e' h' tk' hx' FG' R' U'; first | exact hx'.elim | ((with_reducible have ck' := RaisedM.sub R' (fun _ hp => hp)); clear ck'; (try dsimp only at R' U'))) | (intro r' n' h' tk' hR' F' N'; (try k_sweep); (obtain ⟨D', x', dx', t1', tc', tp', td', k1', k2', k3', h1', h2', h3', k', j', pb', db', e0, e1, rfl, rfl⟩ := hR'); (try dsimp only); (try k_fold))))
  k_with "call ref" => (k_here; (with_reducible show wpAny _ _ (call (Value.ref 89) _) _ _ _); k_dflt (refine' Calls.use (word_spec _ _ _ ?p1 ?p2) ?k1 ?k2 ?k3 ?k4 ?k5 ?kK ?kd ?ku ?_ ?_); (case k1 => k_asm); (case k2 => k_asm); (case k3 => k_asm); (case k4 => k_asm); (case k5 => k_asm); (case kK => first | exact rfl | assumption); (case kd => ktr_room); (case ku => ktr_units); (case p1 => omega); (case p2 => omega); (all_goals first | (intro C' g' e' h' tk' hx' FG' R' U'; first | exact hx'.elim | ((with_reducible have ck' := RaisedM.sub R' (fun _ hp => hp)); clear ck'; (try dsimp only at R' U'))) | (intro r' n' h' tk' hR' F' N'; (try k_sweep); (obtain ⟨⟨wb', wt', ew', rfl⟩, rfl⟩ := hR'); (try dsimp only); (try k_fold))))
  intro dp un gd cn cs a ccd cl outer A₀ base h₀ L m s p loose mean mg mb Q E hB hF hX hN hT hk hd hu hret hex
  refine wpAny_call ?_
  k_dflt cell_enter
  k_steps
  · (refine' hex _ _ _ _ _ ?hx ?hF ?hR ?hU; (case hR => first | assumption | exact RaisedM.sub (by assumption) (fun p hp => by simp [hp])); (case hF => assumption); (case hU => assumption); (case hx => (refine ⟨rfl, ?_⟩; rw [writeM, if_pos (by assumption), if_pos (by dsimp only; omega)])))
  · rename (KBw.bInts (_ ++ db) = _) => q9
    rename News _ _ _ _ => N9; replace N9 := cb_drop N9 (fun p hp => .tail _ hp)
    (refine' hret _ _ _ _ (⟨⟨_, _, ?h1, rfl⟩, rfl⟩) ?hF ?hN; (case hN => assumption); (case hF => assumption); (case h1 => (rw [q9, two_back hk0 hk1, writeM, if_pos (by assumption), if_neg (by dsimp only; omega)]; dsimp only; rw [List.append_assoc, List.append_assoc, List.append_assoc, List.append_assoc])))
  · rename (KBw.bInts (_ ++ db) = _) => q9
    rename News _ _ _ _ => N9; replace N9 := cb_drop N9 (fun p hp => .tail _ hp)
    (refine' hret _ _ _ _ (⟨⟨_, _, ?h1, rfl⟩, rfl⟩) ?hF ?hN; (case hN => assumption); (case hF => assumption); (case h1 => (rw [q9, two_back hk0 hk1, writeM, if_neg (by assumption)])))
theorem write_piece_spec {prog : Program} {w : World} (news : List (Addr × Obj)) (v : Value) (r : RowB) (h : PieceIn news v r) (hk0 : 0 ≤ r.1) (hk1 : r.1 < 256) (hpl : (KBw.bInts r.2.1).length ≤ 1000000) (hdl : (KBw.bInts r.2.2).length ≤ 1000000) :
    Calls prog w 6 174 [v] news (fun v' n' => (∃ (b : Array UInt8) (tk : Tok), writeM (ri r) = .ok (KBw.bInts b) ∧ v' = .bytes b tk) ∧ n' = news) (fun C => C = 56 ∧ writeM (ri r) = .error C) := by
  obtain ⟨x, dx, h1, h2, h3, k1, k2, k3, tc, tp, td, rfl, m1, m2⟩ := h
  obtain ⟨k, pb, db⟩ := r
  exact (write_piece_at news x dx h1 h2 h3 k1 k2 k3 tc tp td k pb db _ _ rfl rfl hk0 hk1 hpl hdl).sub (List.forall_mem_cons.mpr ⟨m1, List.forall_mem_cons.mpr ⟨m2, fun _ h => h⟩⟩) fun p hp => .tail _ (.tail _ hp)

section
open LCg
variable {prog : Program} {w : World} {A : Around} {E : Value → Shared → Prop} {s : Shared} {h₀ : Heap} {L : Addr} {m : Str → Option Value} {env : Env}
/-- where a comprehension's block begins: iterator I, the block's names C, its list D, all new -/
structure CompBegin (h₀ : Heap) (L : Addr) (m : Str → Option Value) (ax : Addr) (its : Array Value) (news : List (Addr × Obj)) (I C D : Addr) (h : Heap) : Prop where
  F : Fr h₀ L h m
  N : News h₀ L h ((D, lst []) :: news)
  it : h.IsListIter I ax 0
  src : h.IsList ax its
  ns : h.Ns C (fun _ => none)
  off : ∀ p ∈ news, p.1 ≠ I ∧ p.1 ≠ C ∧ p.1 ≠ D
  IL : L ≠ I
  CL : C ≠ L
  I0 : h₀.get? I = none
  C0 : h₀.get? C = none
  IC : I ≠ C
  ID : I ≠ D
  CD : C ≠ D
  aI : ax ≠ I
  aC : ax ≠ C
  aD : ax ≠ D
theorem comp_list {elt t iter : PySem.Expr} {scope : Scope} {cl : List (Str × Addr)} {pos : Pos} {Q : Value → Shared → Prop}
    (hclos : closureFor scope env = pure cl) (hcell : ∀ y ∈ scope.names, y.2 ≠ .cell) (hkind : scope.kind = .function)
    (hnames : ∀ y ∈ scope.names, y.2 = .local → scope.names.lookup y.1 = some .local)
    (h : wpAny (model prog w) A (eval iter env) (fun xv s₁ => ∃ ax its k news, xv = .ref ax ∧ A.handled = none ∧ Fr h₀ L s₁.heap m ∧ News h₀ L s₁.heap news ∧ (ax, listOf its k) ∈ news ∧
      ∀ I C D h tk, CompBegin h₀ L m ax its news I C D h →
        codeAny (model prog w) A (.compLoop (.ListComp elt [⟨t, iter, [], 0⟩] scope pos) 0 (.ref I) (.ref D) (compEnvC scope cl C env)) (compPost (model prog w) A E none Q (.ref D) C) { s₁ with heap := h, toks := tk }) E s)
    (hs : ∀ x, foldedSetIterable iter env x = pure x := by intro _; rfl) :
    wpAny (model prog w) A (eval (.ListComp elt [⟨t, iter, [], 0⟩] scope pos) env) Q E s := by
  rw [eval_ListComp]
  refine wpAny_comprehension_free (use := none) rfl hs hclos hkind hnames (wpAny_mono h (fun xv s₁ h₁ => ?_) fun _ _ e => e)
  obtain ⟨ax, its, k, news, rfl, hh, F, N, hm, body⟩ := h₁
  have hl : s₁.heap.IsList ax its := ⟨_, (N _ hm).1, rfl, k, rfl⟩
  have hlt : ax < s₁.heap.objs.size := Heap.lt_size (N _ hm).1
  refine wpAny_pyIter_list hl ?_
  have up : ∀ b o, s₁.heap.get? b = some o → (s₁.heap.push { cls := .type "list_iterator", data := .fields #[.ref ax, .int 0 0] }).get? b = some o := fun b o e => Heap.get?_push_of_some _ e
  have W := Walks.list (prog := prog) (w := w) hh s₁.heap.objs.size ax (Nat.ne_of_lt hlt) its
  generalize hH1 : s₁.heap.push { cls := .type "list_iterator", data := .fields #[.ref ax, .int 0 0] } = H1 at up
  have hI : H1.IsListIter s₁.heap.objs.size ax 0 := ⟨_, hH1 ▸ Heap.get?_push_size _ rfl, rfl, rfl⟩
  have hs1 : H1.objs.size = s₁.heap.objs.size + 1 := by rw [← hH1, Heap.size_push]
  refine wpAny_newObj_type (wpAny_newFunctionEnv hcell (by intro y hy; simp at hy) (fun h₁ hns₁ hsb₁ => ?_) hkind)
  dsimp only at hns₁ hsb₁ ⊢
  generalize hH2 : H1.push { cls := .type "list", dict := none, data := .seq ([] : List Value).toArray } = H2 at hns₁ hsb₁ ⊢
  have hC : H2.objs.size = s₁.heap.objs.size + 2 := by rw [← hH2, Heap.size_push, hs1]
  have c1 : s₁.heap.objs.size < H1.objs.size := hs1 ▸ Nat.lt_succ_self _
  have c2 : H1.objs.size < H2.objs.size := by rw [hC, hs1]; exact Nat.lt_succ_self _
  have c3 := Nat.lt_trans c1 c2
  have old1 : ∀ b o, H1.get? b = some o → h₁.get? b = some o := fun b o e => hsb₁.extBut b o (Nat.ne_of_lt (Nat.lt_trans (Heap.lt_size e) c2)) (Heap.get?_push_of_some _ (hH2 ▸ Heap.get?_push_of_some _ e))
  have old : ∀ b o, s₁.heap.get? b = some o → h₁.get? b = some o := fun b o e => old1 b o (up b o e)
  have hD : h₁.get? H1.objs.size = some (lst []) := hsb₁.extBut _ _ (Nat.ne_of_lt c2) (Heap.get?_push_of_some _ (hH2 ▸ Heap.get?_push_size _ rfl))
  have fresh : ∀ a, s₁.heap.objs.size ≤ a → h₀.get? a = none := fun a ha => by
    cases e : h₀.get? a with
    | none => rfl
    | some o' => exact absurd (Heap.lt_size (F.keep a o' e)) (Nat.not_lt.mpr ha)
  have hLlt : L < s₁.heap.objs.size := F.ns.lt
  have F₁ : Fr h₀ L h₁ m := F.keeps old
  have ll : ∀ p ∈ news, p.1 < s₁.heap.objs.size := fun p hp => Heap.lt_size (N p hp).1
  have hIter₁ : h₁.IsListIter s₁.heap.objs.size ax 0 := hI.at fun o e => old1 _ o e
  have hl₁ : h₁.IsList ax its := hl.at fun o e => old _ o e
  have begin_ : CompBegin h₀ L m ax its news s₁.heap.objs.size H2.objs.size H1.objs.size h₁ := {
    F := F₁
    N := fun p hp => by
      rcases List.mem_cons.mp hp with rfl | hp
      · exact ⟨hD, Nat.ne_of_gt (Nat.lt_trans hLlt c1), fresh _ (Nat.le_of_lt c1)⟩
      · exact ⟨old _ _ (N p hp).1, (N p hp).2⟩
    it := hIter₁
    src := hl₁
    ns := by simpa using hns₁
    off := fun p hp => ⟨Nat.ne_of_lt (ll p hp), Nat.ne_of_lt (Nat.lt_trans (ll p hp) c3), Nat.ne_of_lt (Nat.lt_trans (ll p hp) c1)⟩
    IL := Nat.ne_of_lt hLlt
    CL := Nat.ne_of_gt (Nat.lt_trans hLlt c3)
    I0 := fresh _ (Nat.le_refl _)
    C0 := fresh _ (Nat.le_of_lt c3)
    IC := Nat.ne_of_lt c3
    ID := Nat.ne_of_lt c1
    CD := Nat.ne_of_gt c2
    aI := Nat.ne_of_lt hlt
    aC := Nat.ne_of_lt (Nat.lt_trans hlt c3)
    aD := Nat.ne_of_lt (Nat.lt_trans hlt c1) }
  have loop : ∀ s₃ : Shared, s₃ = { s₁ with heap := h₁, toks := s₃.toks } → codeAny (model prog w) A (.compLoop (.ListComp elt [⟨t, iter, [], 0⟩] scope pos) 0 (.ref s₁.heap.objs.size) (.ref H1.objs.size) (compEnvC scope cl H2.objs.size env))
      (compPost (model prog w) A E none Q (.ref H1.objs.size) H2.objs.size) s₃ := by
    intro s₃ e
    rw [e]
    exact body _ _ _ _ _ begin_
  exact codeAny_compStart_list (loop _ rfl) (W.self 0 _ _ _ ⟨hIter₁, hl₁⟩ (loop _ rfl))
end
section
open LCg LCp
variable {prog : Program} {w : World} {A : Around} {E : Value → Shared → Prop} {s : Shared} {h₀ : Heap} {L : Addr} {m : Str → Option Value} {env : Env}
theorem comp_three {elt iter : PySem.Expr} {x y z : Str} {px py pz tp : Pos} {tk : Nat} {scope : Scope} {cl : List (Str × Addr)} {pos : Pos} {Q : Value → Shared → Prop} (_F₀ : Fr h₀ L s.heap m)
    (hclos : closureFor scope env = pure cl) (hcell : ∀ y ∈ scope.names, y.2 ≠ .cell) (hkind : scope.kind = .function)
    (hnames : ∀ y ∈ scope.names, y.2 = .local → scope.names.lookup y.1 = some .local) (hx : scope.names.lookup x = some .local) (hy : scope.names.lookup y = some .local) (hz : scope.names.lookup z = some .local)
    (hxy : x ≠ y) (hxz : x ≠ z) (hyz : y ≠ z)
    (h : wpAny (model prog w) A (eval iter env) (fun xv s₁ => ∃ ax its k news, ∃ J : Nat → List Value → List (Addr × Obj) → Prop, xv = .ref ax ∧ A.handled = none ∧ Fr h₀ L s₁.heap m ∧ News h₀ L s₁.heap news ∧ (ax, listOf its k) ∈ news ∧ its.size ≤ sizeLine ∧ J 0 [] news ∧
      (∀ i ys nx I oI C oC D m₂ h tk (E' : Value → Shared → Prop), i < its.size → J i ys nx → ∃ t nt v₁ v₂ v₃, its[i]? = some (.ref t) ∧ (t, ({ cls := .type "tuple", data := .seq #[v₁, v₂, v₃] nt } : Obj)) ∈ nx ∧
        (NsObj oC m₂ → m₂ x = some v₁ → m₂ y = some v₂ → m₂ z = some v₃ → Fr h₀ L h m → News h₀ L h ((I, oI) :: (C, oC) :: (D, lst ys) :: nx) → Off3 I C D nx → ((@Ne Nat I C) ∧ (@Ne Nat I D) ∧ (@Ne Nat C D)) →
          wpAny (model prog w) A (eval elt (compEnvC scope cl C env)) (CompEnd h₀ L m { s₁ with heap := h, toks := tk } I oI C oC D (lst ys) (fun nx => (ax, listOf its k) ∈ nx) (fun v nx' => J (i + 1) (ys ++ [v]) nx')) E' { s₁ with heap := h, toks := tk })) ∧
      (∀ ys nx D h tk, J its.size ys nx → Fr h₀ L h m → News h₀ L h ((D, lst ys) :: nx) → Q (.ref D) { s₁ with heap := h, toks := tk })) E s)
    (hs : ∀ x, foldedSetIterable iter env x = pure x := by intro _; rfl) :
    wpAny (model prog w) A (eval (.ListComp elt [⟨.Tuple [.Name x px, .Name y py, .Name z pz] tk tp, iter, [], 0⟩] scope pos) env) Q E s := by
  refine comp_list (h₀ := h₀) (L := L) (m := m) hclos hcell hkind hnames (wpAny_mono h (fun xv s₁ h₁ => ?_) fun _ _ e => e) hs
  obtain ⟨ax, its, k, news, J, rfl, hh, F, N, hm, hsz, j0, turn, done⟩ := h₁
  refine ⟨ax, its, k, news, rfl, hh, F, N, hm, fun I C D h₁ tk₁ B => ?_⟩
  obtain ⟨bF, bN, bit, bsrc, bns, boff, bIL, bCL, bI0, bC0, bIC, bID, bCD, baI, baC, baD⟩ := B
  have W := Walks.list (prog := prog) (w := w) hh I ax baI its
  refine codeAny_compLoop_pair
    (fun n s' => ∃ h' tk i ys m' nx, s' = { s₁ with heap := h', toks := tk } ∧ i ≤ its.size ∧ n = its.size + 1 - i ∧ ys.length = i ∧ (h'.IsListIter I ax i ∧ h'.IsList ax its) ∧ Fr h₀ L h' m ∧ h'.Ns C m' ∧ News h₀ L h' ((D, lst ys) :: nx) ∧
      Off3 I C D nx ∧ (ax, listOf its k) ∈ nx ∧ J i ys nx) ?_ (its.size + 1)
    ⟨h₁, tk₁, 0, [], _, news, rfl, Nat.zero_le _, rfl, rfl, ⟨bit, bsrc⟩, bF, bns, bN, Off3.of boff, hm, j0⟩
  rintro n s' ⟨h', tk', i, ys, m', nx, rfl, hi, rfl, hyl, hst', F', hn', N', off', hS', R'⟩
  have off3 := off'.mem
  by_cases hlt : i < its.size
  · refine W.item i _ _ _ hlt hst' fun v h₂ tk₂ hPv hst₂ hk₂ => ?_
    have hk2 : ∀ b o, b ≠ I → h'.get? b = some o → h₂.get? b = some o := fun b o hb e => hk₂ b o (fun q => hb (List.mem_singleton.mp q)) e
    have N₂ : News h₀ L h₂ ((D, lst ys) :: nx) := news_but N' hk₂ fun p hp => by
      rcases List.mem_cons.mp hp with rfl | hp
      · exact Ne.symm bID
      · exact (off3 p hp).1
    have D₀ : D ≠ L ∧ h₀.get? D = none := (N' _ (.head _)).2
    have build : ∀ h₃ m₂ (hn₃ : h₃.Ns C m₂), (∀ b o, b ≠ C → h₂.get? b = some o → h₃.get? b = some o) → ∃ oI oC, NsObj oC m₂ ∧ Fr h₀ L h₃ m ∧ News h₀ L h₃ ((I, oI) :: (C, oC) :: (D, lst ys) :: nx) := by
      intro h₃ m₂ hn₃ k3
      obtain ⟨oI, heI, _⟩ := hst₂.1
      obtain ⟨oC, heC, hoC⟩ := ns_obj hn₃
      refine ⟨oI, oC, hoC, ?_, fun p hp => ?_⟩
      · refine ⟨F'.ns.at' fun o e => k3 L o (Ne.symm bCL) (hk2 L o bIL e), fun b o e => k3 b o (fun q => ?_) (hk2 b o (fun q => ?_) (F'.keep b o e)), F'.above⟩
        · rw [q, bC0] at e; cases e
        · rw [q, bI0] at e; cases e
      · rcases List.mem_cons.mp hp with rfl | hp
        · exact ⟨k3 I oI bIC heI, Ne.symm bIL, bI0⟩
        · rcases List.mem_cons.mp hp with rfl | hp
          · exact ⟨heC, bCL, bC0⟩
          · refine ⟨k3 _ _ ?_ (N₂ p hp).1, (N₂ p hp).2⟩
            rcases List.mem_cons.mp hp with rfl | hp
            · exact Ne.symm bCD
            · exact (off3 p hp).2.1
    obtain ⟨t, nt, v₁, v₂, v₃, hit, hmt, _⟩ := turn i ys nx I default C default D (fun _ => none) h₂ 0 (fun _ _ => True) hlt R'
    obtain rfl : v = .ref t := Option.some.inj (hPv.symm.trans hit)
    have ht : IsTup h₂ t #[v₁, v₂, v₃] := ⟨_, (N₂ _ (.tail _ hmt)).1, rfl, nt, rfl⟩
    refine wpAny_letOwnedTupleGo_listiter hst₂.1 ?_
    refine assign_Tuple_tuple hh ht rfl rfl fun h₅ he => ?_
    have he' : ∀ b o, h₂.get? b = some o → h₅.get? b = some o := fun b o e => he b o (Nat.ne_of_lt (Heap.lt_size e)) e
    have hnC := (hn'.at' fun o e => hk2 _ o (Ne.symm bIC) e).at' fun o e => he' _ o e
    refine assignInOrder_cons (wpAny_assign_Name (wpAny_storeName_local (lookup_relabel_local hx) hnC (fun h₆ hn₆ hs₆ => ?_) (by simp [compEnvC, relabel, hkind])))
    refine assignInOrder_cons (wpAny_assign_Name (wpAny_storeName_local (lookup_relabel_local hy) hn₆ (fun h₇ hn₇ hs₇ => ?_) (by simp [compEnvC, relabel, hkind])))
    refine assignInOrder_cons (wpAny_assign_Name (wpAny_storeName_local (lookup_relabel_local hz) hn₇ (fun h₈ hn₈ hs₈ => ?_) (by simp [compEnvC, relabel, hkind])))
    refine assignInOrder_nil ?_
    have k8 : ∀ b o, b ≠ C → h₂.get? b = some o → h₈.get? b = some o := fun b o hb e => hs₈.extBut b o hb (hs₇.extBut b o hb (hs₆.extBut b o hb (he' b o e)))
    obtain ⟨oI, oC, hoC, F₈, N₈⟩ := build h₈ _ hn₈ k8
    obtain ⟨t', nt', w₁, w₂, w₃, hit', hmt', go⟩ := turn i ys nx I oI C oC D _ h₈ _ _ hlt R'
    obtain rfl : t' = t := Value.ref.inj (Option.some.inj (hit'.symm.trans hit))
    have hq : ({ cls := .type "tuple", data := .seq #[w₁, w₂, w₃] nt' } : Obj) = { cls := .type "tuple", data := .seq #[v₁, v₂, v₃] nt } := Option.some.inj ((N₂ _ (.tail _ hmt')).1.symm.trans (N₂ _ (.tail _ hmt)).1)
    simp only [Obj.mk.injEq, Data.seq.injEq, Array.mk.injEq, List.cons.injEq, and_true, true_and] at hq
    obtain ⟨⟨rfl, rfl, rfl⟩, rfl⟩ := hq
    have hst₈ : h₈.IsListIter I ax (i + 1) ∧ h₈.IsList ax its := ⟨hst₂.1.at fun o e => k8 I o bIC e, hst₂.2.at fun o e => k8 ax o baC e⟩
    refine wpAny_mono (go hoC (by simp [hxy, hxz]) (by simp [hyz]) (by simp) F₈ N₈ off' ⟨bIC, bID, bCD⟩) (fun y' s₄ h₄ => ?_) fun _ _ e => e
    obtain ⟨h₄, tk₄, nx₄, rfl, F₄, N₄, off₄, hS₄, R₄⟩ := h₄
    have zI := (N₄ (I, oI) (.head _)).1
    have zC := (N₄ (C, oC) (.tail _ (.head _))).1
    have zD := (N₄ (D, lst ys) (.tail _ (.tail _ (.head _)))).1
    have N₄' : News h₀ L h₄ nx₄ := fun p hp => N₄ p (.tail _ (.tail _ (.tail _ hp)))
    have off4 := off₄.mem
    have hst₄ : h₄.IsListIter I ax (i + 1) ∧ h₄.IsList ax its := ⟨by obtain ⟨o', q, r⟩ := hst₈.1; rw [(N₈ (I, oI) (.head _)).1] at q; cases q; exact ⟨oI, zI, r⟩, ⟨_, (N₄' _ hS₄).1, rfl, k, rfl⟩⟩
    refine append_at (hsz := by show ys.toArray.size ≤ sizeLine; rw [List.size_toArray, hyl]; exact Nat.le_trans hi hsz) zD fun h₅ hs₅ hD₅ => ?_
    refine ⟨its.size + 1 - (i + 1), by omega, h₅, tk₄, i + 1, ys ++ [y'], _, nx₄, rfl, hlt, rfl, by rw [List.length_append, List.length_singleton, hyl], ⟨hst₄.1.at fun o e => hs₅.extBut _ o bID e, hst₄.2.at fun o e => hs₅.extBut _ o baD e⟩, F₄.change hs₅ D₀.1 D₀.2,
      (hoC.ns zC).sameBut hs₅ bCD, fun p hp => ?_, off₄, hS₄, R₄⟩
    rcases List.mem_cons.mp hp with rfl | hp
    · exact ⟨hD₅.trans (congrArg some (lst_snoc ys y')), D₀⟩
    · exact ⟨hs₅.extBut _ _ (off4 p hp).2.2 (N₄' p hp).1, (N₄' p hp).2⟩
  · obtain rfl : i = its.size := Nat.le_antisymm hi (Nat.not_lt.mp hlt)
    refine W.done _ _ _ hst' fun h₂ tk₂ hk₂ => ?_
    have hk2 : ∀ b o, b ≠ I → h'.get? b = some o → h₂.get? b = some o := fun b o hb e => hk₂ b o (fun q => hb (List.mem_singleton.mp q)) e
    refine ⟨m', hn'.at' fun o e => hk2 _ o (Ne.symm bIC) e, fun h'' hs'' => ?_⟩
    have F₂ : Fr h₀ L h₂ m := fr_but F' hk₂ bIL bI0
    have N₂ : News h₀ L h₂ ((D, lst ys) :: nx) := news_but N' hk₂ fun p hp => by
      rcases List.mem_cons.mp hp with rfl | hp
      · exact Ne.symm bID
      · exact (off3 p hp).1
    refine done ys nx D h'' tk₂ R' (F₂.change hs'' bCL bC0) fun p hp => ⟨hs''.extBut _ _ ?_ (N₂ p hp).1, (N₂ p hp).2⟩
    rcases List.mem_cons.mp hp with rfl | hp
    · exact Ne.symm bCD
    · exact (off3 p hp).2.1
end

/-- an exception that flies, or is held, above the frames l -/
def HeldR (base G : Heap) (l : List Env) (e : Addr) (cls : Value) (news : List (Addr × Obj)) (h : Heap) : Prop :=
  ∃ B a0 fl, base.StaysIn B ∧ (∀ b o, G.get? b = some o → b ∉ l.filterMap (·.frame) → B.get? b = some o) ∧ (∀ q ∈ news, B.get? q.1 = some q.2 ∧ G.get? q.1 = none ∧ base.get? q.1 = none) ∧
    B.StaysIn h ∧ B.get? e = none ∧ h.FunFrames B l ∧ h.TracedAtW B e cls a0 fl
section
variable {M : Model} {A : Around} {E : Value → Shared → Prop} {s : Shared} {B : Heap} {l : List Env} {e : Addr} {cls a0 fl : Value}
theorem setFlight_any {fr : Option Addr} {Q : Unit → Shared → Prop} (hkb : B.StaysIn s.heap) (hl : s.heap.FunFrames B l) (ht : s.heap.TracedAtW B e cls a0 fl)
    (h : ∀ h' fl', B.StaysIn h' → h'.FunFrames B l → h'.TracedAtW B e cls a0 fl' → s.heap.UpToSlots h' → Q () { s with heap := h' }) : wpAny M A (setFlight (.ref e) fr) Q E s := by
  obtain ⟨oe, vs, T, oT, ts, he, hcls, hd, h1, hnT, hTe, hT, hdT, h3⟩ := ht
  have hsz3 : 3 < ts.size := (Array.getElem?_eq_some_iff.mp h3).1
  have other : ∀ b, b ≠ T → (s.heap.update T (Obj.mapFields (·.setIfInBounds 3 (fr.elim Value.none fun f => rawInt f)))).get? b = s.heap.get? b := fun b hb => Heap.get?_update_other _ _ (Ne.symm hb)
  have noRecord : ∀ b o, s.heap.get? b = some o → (∀ vs, o.data ≠ .fields vs) → b ≠ T := fun b o hb hnf q => by
    rw [q, hT] at hb; injection hb with hb; subst hb; exact hnf ts hdT
  unfold setFlight
  refine wpAny_bind (wpAny_field he hd h1 ?_)
  rw [if_pos (show (Value.ref T != Value.none) = true from by simp)]
  refine wpAny_setField hT hdT hsz3 (h _ (fr.elim Value.none fun f => rawInt f) (fun b o hbo => (other b fun q => by rw [q, hnT] at hbo; cases hbo).trans (hkb b o hbo))
    (hl.of_keeps fun b o hb hnf => ⟨o, (other b (noRecord b o hb hnf)).trans hb, rfl⟩) ?_ fun b o hb hnf => ⟨o.slots, (other b (noRecord b o hb hnf)).trans hb⟩)
  exact ⟨oe, vs, T, _, _, (other e (Ne.symm hTe)).trans he, hcls, hd, h1, hnT, hTe, Heap.get?_update_self _ hT (Obj.isFreed_of_fields (Obj.data_mapFields hdT _)), Obj.data_mapFields hdT _, by simp [hsz3]⟩

theorem leaving_any {env : Env} {outer : List Env} {L : Addr} {Q : Unit → Shared → Prop} (hfr : A.frames = some (env :: outer)) (hf : env.frame = some L) (hkb : B.StaysIn s.heap) (hen : B.get? e = none) (hl : s.heap.FunFrames B (env :: outer)) (ht : s.heap.TracedAtW B e cls a0 fl)
    (hQ : ∀ h', Heap.FlyingW B outer e cls a0 h' → s.heap.UpToSlots h' → Q () { s with heap := h' }) : wpAny M A (leaving env (.ref e)) Q E s := by
  by_cases hq : (fl == rawInt L) = true
  · obtain rfl := eq_of_beq hq
    unfold leaving
    refine wpAny_bind (wpAny_noteFrame_againW hf ht ?_)
    refine wpAny_landsW (l := env :: outer) ⟨hkb, hen, hl, ht⟩ fun h' hfl u => ?_
    obtain ⟨k1, k2, ⟨_, _, k3⟩, k4⟩ := hfl
    exact hQ h' ⟨k1, k2, k3, k4⟩ u
  · obtain ⟨oe, vs, T, oT, ts, he, ⟨hcls, h0⟩, hd, h1, hnT, hTe, hT, hdT, h3⟩ := ht
    subst hcls
    unfold leaving noteFrame
    simp only [hf]
    refine wpAny_bind (wpAny_bind (wpAny_field he hd h1 ?_))
    rw [if_pos (show (Value.ref T != Value.none) = true from by simp)]
    refine wpAny_bind (wpAny_field hT hdT h3 ?_)
    rw [if_neg hq]
    refine wpAny_bind (wpAny_setField hT hdT (Array.getElem?_eq_some_iff.mp h3).1 ?_)
    have other : ∀ b, b ≠ T → (s.heap.update T (Obj.mapFields (·.setIfInBounds 3 Value.none))).get? b = s.heap.get? b := fun b hb => Heap.get?_update_other _ _ (Ne.symm hb)
    have noRecord : ∀ b o, s.heap.get? b = some o → (∀ vs, o.data ≠ .fields vs) → b ≠ T := fun b o hb hnf q => by
      rw [q, hT] at hb; injection hb with hb; subst hb; exact hnf ts hdT
    refine wpAny_newEntryW hfr (hl.of_keeps fun b o hb hnf => ⟨o, (other b (noRecord b o hb hnf)).trans hb, rfl⟩) hf ((other e (Ne.symm hTe)).trans he)
      (fun b o hbo => (other b fun q => by rw [q, hnT] at hbo; cases hbo).trans (hkb b o hbo)) hen hd (Array.getElem?_eq_some_iff.mp h1).1 h0
      fun h' ⟨x1, ⟨_, _, x2⟩, x3, x4⟩ => hQ h' ⟨x1, hen, x2, x3⟩ fun b o hb hnf => x4 b o ((other b (noRecord b o hb hnf)).trans hb) hnf
end
section
variable {M : Model} {A : Around} {E : Value → Shared → Prop} {s' : Shared} {base g g₂ : Heap} {outer : List Env} {L a e : Addr} {m : Str → Option Value} {name : Str} {scope : Scope} {cd : Value} {Q : Unit → Shared → Prop} {news : List (Addr × Obj)}
theorem leave_heldR {cls : Value} (K : Below A base outer g) (F : Fr g L g₂ m) (R : HeldR base g₂ (envOf name scope L a cd :: outer) e cls news s'.heap) (hsm : g₂.UpToSlots s'.heap)
    (hQ : ∀ h', RaisedM base g outer e cls news h' → g.UpToSlots h' → Q () { s' with heap := h' }) :
    wpAny M (A.deeper (envOf name scope L a cd)) (leaving (envOf name scope L a cd) (.ref e)) Q E s' := by
  obtain ⟨B, a0, fl, hB, hBG, hl, k1, k2, k3, k4⟩ := R
  exact leaving_any (Around.frames_deeper K.stack) rfl k1 k2 k3 k4 fun h' x1 x2 =>
    hQ h' ⟨B, a0, hB, fun b o q nm => hBG b o (F.keep b o q) (fun hm => by
      rcases kts_mem hm with z | z
      · rw [z, kts_self F] at q
        cases q
      · exact nm z), fun q hq => ⟨(hl q hq).1, kts_none F.keep (hl q hq).2.1, (hl q hq).2.2⟩, x1⟩ ((Heap.UpToSlots.of_keeps F.keep).trans (hsm.trans x2))
end
section
open LCg
variable {prog : Program} {w : World} {A : Around} {E : Value → Shared → Prop} {s : Shared} {h₀ base : Heap} {L : Addr} {m : Str → Option Value} {env : Env} {outer : List Env}
/-- a comprehension whose first element raises -/
theorem comp_first {elt iter : PySem.Expr} {x : Str} {px : Pos} {scope : Scope} {cl : List (Str × Addr)} {pos : Pos} {Q : Value → Shared → Prop} (_F₀ : Fr h₀ L s.heap m) (hfr : A.frames = some (env :: outer)) (hf : env.frame = some L)
    (hclos : closureFor scope env = pure cl) (hcell : ∀ y ∈ scope.names, y.2 ≠ .cell) (hkind : scope.kind = .function)
    (hnames : ∀ y ∈ scope.names, y.2 = .local → scope.names.lookup y.1 = some .local) (hx : scope.names.lookup x = some .local)
    (h : wpAny (model prog w) A (eval iter env) (fun xv s₁ => ∃ ax v its k news, xv = .ref ax ∧ A.handled = none ∧ Fr h₀ L s₁.heap m ∧ News h₀ L s₁.heap news ∧ (ax, listOf (v :: its).toArray k) ∈ news ∧
      (∀ I oI C oC D m₂ h tk (E' : Value → Shared → Prop), NsObj oC m₂ → m₂ x = some v → Fr h₀ L h m → News h₀ L h ((I, oI) :: (C, oC) :: (D, lst []) :: news) →
        (∀ e cls g h' tk', Fr h₀ L g m → RaisedM base g (env :: outer) e cls ((I, oI) :: (C, oC) :: (D, lst []) :: news) h' → g.UpToSlots h' → (∀ h'' tk'', HeldR base g (env :: outer) e cls news h'' → g.UpToSlots h'' → E (.ref e) { s₁ with heap := h'', toks := tk'' }) → E' (.ref e) { s₁ with heap := h', toks := tk' }) →
        wpAny (model prog w) A (eval elt (compEnvC scope cl C env)) (fun _ _ => False) E' { s₁ with heap := h, toks := tk })) E s)
    (hs : ∀ x, foldedSetIterable iter env x = pure x := by intro _; rfl) :
    wpAny (model prog w) A (eval (.ListComp elt [⟨.Name x px, iter, [], 0⟩] scope pos) env) Q E s := by
  refine comp_list (h₀ := h₀) (L := L) (m := m) hclos hcell hkind hnames (wpAny_mono h (fun xv s₁ h₁ => ?_) fun _ _ e => e) hs
  obtain ⟨ax, v, its, k, news, rfl, hh, F, N, hm, turn⟩ := h₁
  refine ⟨ax, _, k, news, rfl, hh, F, N, hm, fun I C D h₁ tk₁ Bg => ?_⟩
  obtain ⟨bF, bN, bit, bsrc, bns, boff, bIL, bCL, bI0, bC0, bIC, bID, bCD, baI, baC, baD⟩ := Bg
  have W := Walks.list (prog := prog) (w := w) hh I ax baI (v :: its).toArray
  refine codeAny_compLoop_tests (fun n s' => s' = { s₁ with heap := h₁, toks := tk₁ }) ?_ 1 rfl
  rintro n s' rfl
  refine W.item 0 _ _ _ (by simp) ⟨bit, bsrc⟩ fun v' h₂ tk₂ hPv hst₂ hk₂ => ?_
  obtain rfl : v = v' := by simpa using hPv
  have hk2 : ∀ b o, b ≠ I → h₁.get? b = some o → h₂.get? b = some o := fun b o hb e => hk₂ b o (fun q => hb (List.mem_singleton.mp q)) e
  refine wpAny_assign_Name (wpAny_storeName_local (lookup_relabel_local hx) (bns.at' fun o e => hk2 _ o (Ne.symm bIC) e) (fun h₃ hn₃ hs₃ => ?_) (by simp [compEnvC, relabel, hkind]))
  refine wpAny_tests_nil ?_
  simp only [if_true]
  obtain ⟨oI, heI, _⟩ := hst₂.1
  obtain ⟨oC, heC, hoC⟩ := ns_obj hn₃
  have k3 : ∀ b o, b ≠ C → h₂.get? b = some o → h₃.get? b = some o := fun b o hb e => hs₃.extBut b o hb e
  have F₃ : Fr h₀ L h₃ m := by
    refine ⟨bF.ns.at' fun o e => k3 L o (Ne.symm bCL) (hk2 L o bIL e), fun b o e => k3 b o (fun q => ?_) (hk2 b o (fun q => ?_) (bF.keep b o e)), bF.above⟩
    · rw [q, bC0] at e; cases e
    · rw [q, bI0] at e; cases e
  have N₃ : News h₀ L h₃ ((I, oI) :: (C, oC) :: (D, lst []) :: news) := fun p hp => by
    rcases List.mem_cons.mp hp with rfl | hp
    · exact ⟨k3 I oI bIC heI, Ne.symm bIL, bI0⟩
    · rcases List.mem_cons.mp hp with rfl | hp
      · exact ⟨heC, bCL, bC0⟩
      · rcases List.mem_cons.mp hp with rfl | hp
        · exact ⟨k3 _ _ (Ne.symm bCD) (hk2 _ _ (Ne.symm bID) (bN _ (.head _)).1), (bN _ (.head _)).2⟩
        · exact ⟨k3 _ _ (boff p hp).2.1 (hk2 _ _ (boff p hp).1 (bN p (.tail _ hp)).1), (bN p (.tail _ hp)).2⟩
  refine wpAny_mono (turn I oI C oC D _ h₃ _ _ hoC (by simp) F₃ N₃ fun e cls g h' tk' Fg R u hE => ?_) (fun _ _ f => f.elim) fun _ _ z => z
  obtain ⟨B, a0, hB, hBG, hl, hfl⟩ := R
  have bC := hl (C, oC) (.tail _ (.head _))
  show wpAny (model prog w) A (noteFrame (.ref e) env) _ _ _
  refine wpAny_looks_onW hfr hf hfl fun h₄ held u₄ => ?_
  obtain ⟨f1, f2, f3, f4⟩ := held
  refine ⟨_, hoC.ns (f1 _ _ bC.1), fun h₅ hs₅ cenv' _ => ?_⟩
  have ne5 : ∀ b, B.get? b = none → b ≠ C := fun b q z => by rw [z, bC.1] at q; cases q
  have g5 : ∀ b, b ≠ C → h₅.get? b = h₄.get? b := hs₅.2
  have st5 : (hideAll B [C]).StaysIn h₅ := fun b o q => by
    have hb : b ≠ C := fun z => by rw [z, hideAll_none [C] (List.mem_singleton.mpr rfl)] at q; cases q
    rw [g5 b hb]; exact f1 b o (of_hideAll _ q)
  have no5 : ∀ b, B.get? b = none → (hideAll B [C]).get? b = none := fun b q => by
    cases z : (hideAll B [C]).get? b with
    | none => rfl
    | some o => rw [of_hideAll _ z] at q; cases q
  have ff5 : h₅.FunFrames (hideAll B [C]) (env :: outer) := by
    have : ∀ {l : List Env}, h₄.FunFrames B l → h₅.FunFrames (hideAll B [C]) l := by
      intro l
      induction l with
      | nil => intro _; trivial
      | cons q r ih =>
        rintro ⟨hk, ⟨L', o, hf', hn', ho, hd⟩, hr⟩
        exact ⟨hk, ⟨L', o, hf', no5 _ hn', (g5 _ (ne5 _ hn')).trans ho, hd⟩, ih hr⟩
    exact this f3
  obtain ⟨oe, vs, T, oT, ts, he, hcls, hd, h1, hnT, hTe, hT, hdT, h3⟩ := f4
  have t5 : h₅.TracedAtW (hideAll B [C]) e cls a0 (rawInt L) := ⟨oe, vs, T, oT, ts, (g5 _ (ne5 _ f2)).trans he, hcls, hd, h1, no5 _ hnT, hTe, (g5 _ (ne5 _ hnT)).trans hT, hdT, h3⟩
  unfold PySem.passOn
  refine wpAny_bind (wpAny_field ((g5 _ (ne5 _ f2)).trans he) hd h1 ?_)
  rw [if_neg (by simp)]
  refine wpAny_bind (setFlight_any st5 ff5 t5 fun h₆ fl' s6 ff6 t6 u6 => ?_)
  refine wpAny_throw (hE h₆ _ ⟨hideAll B [C], a0, fl', fun b o q => hideAll_get _ (hB b o q) (fun z => ?_), fun b o q nm => hideAll_get _ (hBG b o q nm) (fun z => ?_), fun q hq => ?_, s6, no5 _ f2, ff6, t6⟩ ?_)
  · rw [List.mem_singleton.mp z, bC.2.2] at q; cases q
  · rw [List.mem_singleton.mp z, bC.2.1] at q; cases q
  · have hq' := hl q (.tail _ (.tail _ (.tail _ hq)))
    exact ⟨hideAll_get _ hq'.1 (fun z => (boff q hq).2.1 (List.mem_singleton.mp z)), hq'.2⟩
  · refine Heap.UpToSlots.trans (h₂ := h₅) (fun b o hb hn => ?_) u6
    obtain ⟨sl, q⟩ := (u.trans u₄) b o hb hn
    exact ⟨sl, (g5 b (fun z => by rw [z, bC.2.1] at hb; cases hb)).trans q⟩
end

section
open Builtin
theorem jn_slot : Slot "bytes" "join" "bytes.join" :=
  .of (owner := "bytes") (n := "join") (by rw [typeLookup_type, builtinLookup_eq_fast]; kernel_rfl) (by decide +kernel) (by decide +kernel) (by decide +kernel)
    (by first | exact .inl (by decide +kernel) | exact .inr (by decide +kernel)) (by rw [isSubtype_type]; kernel_rfl)
theorem jn_type : typeOf (.builtin "bytes.join") = pure (.type "method_descriptor") := by show builtinType _ = _; rw [builtinType_eq_fast]; kernel_rfl
theorem jn_entry : entryFor table "bytes.join" = some Builtin.«bytes.join» := entryFor_of_tree (by kernel_rfl)
theorem jn_args (a b : Value) : argsOk "bytes.join" ⟨[a, b], []⟩ := by
  unfold argsOk; rw [signature?_of (id := "bytes.join") (n := ['n', 'i', 'o', 'j']) (o := ['s', 'e', 't', 'y', 'b']) (by kernel_rfl) PySem.W.FB.owner_bytes]; kernel_rfl
/-- the values are bytes -/
inductive BytesAre : List Value → List (Array UInt8) → Prop
  | nil : BytesAre [] []
  | cons {b : Array UInt8} {t : Tok} {vs : List Value} {bs : List (Array UInt8)} : BytesAre vs bs → BytesAre (.bytes b t :: vs) (b :: bs)
theorem BytesAre.length {vs : List Value} {bs : List (Array UInt8)} (h : BytesAre vs bs) : vs.length = bs.length := by
  induction h with
  | nil => rfl
  | cons _ ih => rw [List.length_cons, List.length_cons, ih]
theorem BytesAre.get {vs : List Value} {bs : List (Array UInt8)} (h : BytesAre vs bs) : ∀ {i : Nat}, i < bs.length → ∃ t, vs[i]? = some (.bytes (bs.getD i #[]) t) := by
  induction h with
  | nil => intro i hi; exact absurd hi (Nat.not_lt_zero _)
  | cons h ih =>
    intro i hi
    cases i with
    | zero => exact ⟨_, rfl⟩
    | succ i => exact ih (Nat.lt_of_succ_lt_succ hi)
theorem BytesAre.takes {vs : List Value} {bs : List (Array UInt8)} (h : BytesAre vs bs) : ∀ x : Value × Option Value, x ∈ vs.map (fun v => (v, (none : Option Value))) → x.1.onHeap = false ∧ x.2 = none := by
  induction h with
  | nil => intro x hx; exact absurd hx (List.not_mem_nil)
  | cons h ih =>
    intro x hx
    rcases List.mem_cons.mp hx with rfl | hx
    · exact ⟨rfl, rfl⟩
    · exact ih x hx
/-- one behind the other -/
def catB (bs : List (Array UInt8)) : Array UInt8 := bs.foldl (· ++ ·) #[]
theorem joined_nil (l : List (Array UInt8)) : ∀ (k : Nat) (a : Array UInt8), (l.zipIdx k).foldl (fun out (p, i) => (if i > 0 then out ++ #[] else out) ++ p) a = l.foldl (· ++ ·) a := by
  induction l with
  | nil => intro k a; rfl
  | cons x l ih =>
    intro k a
    rw [List.zipIdx_cons, List.foldl_cons, List.foldl_cons, ih]
    show List.foldl (· ++ ·) ((if k > 0 then a ++ #[] else a) ++ x) l = _
    rw [Array.append_empty, ite_self]
theorem catB_size (l : List (Array UInt8)) : ∀ a : Array UInt8, (l.foldl (· ++ ·) a).size = a.size + (l.map (·.size)).sum := by
  induction l with
  | nil => intro a; simp
  | cons x l ih => intro a; rw [List.foldl_cons, ih, Array.size_append, List.map_cons, List.sum_cons, Nat.add_assoc]
theorem sizes_foldl (l : List (Array UInt8)) : ∀ n : Nat, l.foldl (fun x1 x2 => x1 + x2.size) n = n + (l.map (·.size)).sum := by
  induction l with
  | nil => intro n; simp
  | cons x l ih => intro n; rw [List.foldl_cons, ih, List.map_cons, List.sum_cons, Nat.add_assoc]
theorem take_eq {id : String} {b : Array UInt8} {t : Tok} : Bytes.takeBufferQuiet? id (.bytes b t) 0 = pure (some (b, none)) := by
  unfold Bytes.takeBufferQuiet? Bytes.takeBuffer?
  rw [KBy.special_eq KBy.look_buffer, KBy.own_buffer]
  show (Sem.attempt (Bytes.buffer? id (.bytes b t) >>= fun r => pure (r.map (·, none))) >>= _) = _
  rw [KBy.buffer_eq]
  rfl
theorem letGo_any {M : Model} {A : Around} {E : Value → Shared → Prop} {keep : List Value} {Q : Unit → Shared → Prop} : ∀ (l : List (Value × Option Value)), (∀ x ∈ l, x.1.onHeap = false ∧ x.2 = none) → ∀ {s : Shared}, Q () s → wpAny M A (Bytes.joinLetGo l keep) Q E s
  | [], _, _, h => wpAny_pure h
  | (v, none) :: l, hl, s, h => by
    unfold Bytes.joinLetGo
    exact wpAny_bind (wpAny_letGo (letGo_any l (fun x hx => hl x (.tail _ hx)) h))
  | (v, some u) :: l, hl, s, h => nomatch (hl _ (.head _)).2
theorem any_off {l : List (Value × Option Value)} (h : ∀ x ∈ l, x.1.onHeap = false ∧ x.2 = none) : (l.any fun x => x.1.onHeap) = false := by
  rw [List.any_eq_false]; intro x hx; rw [(h x hx).1]; exact Bool.false_ne_true
theorem meets_join {a : Addr} {t : Tok} {v1 v2 : Value} {vs : List Value} {bs : List (Array UInt8)} (hb : BytesAre (v1 :: v2 :: vs) bs) (hsz : (bs.map (·.size)).sum ≤ 16777216) :
    Meets («bytes.join» ⟨[.bytes #[] t, .ref a], []⟩) (fun _ R s => s.heap.IsList a (v1 :: v2 :: vs).toArray ∧ ∀ t' k, R (.ok (.ret (.bytes (catB bs) t'))) { s with toks := k }) := by
  refine .of_wp fun prog w A R s ⟨hl, h⟩ => ?_
  have ty := hl.typeIs
  obtain ⟨o, ho, hc, n, hd⟩ := hl
  unfold «bytes.join» Bytes.joinM
  refine wpAny_bind (wpAny_of_eq (a := (.bytes #[] t, .ref a)) (by kernel_rfl) ?_)
  dsimp only
  refine wpAny_bind ?_
  refine wpAny_bind (wpAny_typeOf ty ?_)
  refine wpAny_pure ?_
  refine wpAny_bind (wpAny_seqItems ho hd ?_)
  dsimp only
  refine wpAny_bind ?_
  rw [KPc.range_list]
  have hlen := hb.length
  refine wpAny_forIn_list _ (fun (rest : List Nat) (b : Array (Array UInt8) × List (Value × Option Value)) s' => ∃ i k, rest = List.range' i (bs.length - i) 1 ∧ i ≤ bs.length ∧ b = ((bs.take i).toArray, ((v1 :: v2 :: vs).take i).map fun v => (v, none)) ∧ s' = { s with toks := k }) _ ?_ ?_ _ _ ⟨0, s.toks, ?_, Nat.zero_le _, rfl, rfl⟩
  · rintro x rest b s' ⟨i, k, e, hi, rfl, rfl⟩
    obtain ⟨m, hm⟩ : ∃ m, bs.length - i = m + 1 := by
      cases hq : bs.length - i with
      | zero => rw [hq] at e; cases e
      | succ m => exact ⟨m, rfl⟩
    rw [hm, List.range'_succ] at e
    obtain ⟨rfl, rfl⟩ := List.cons.inj e
    have hlt : x < bs.length := by omega
    obtain ⟨t', hg⟩ := hb.get hlt
    have hget : (v1 :: v2 :: vs).toArray.getD x .none = .bytes (bs.getD x #[]) t' := by
      rw [Array.getD_eq_getD_getElem?, List.getElem?_toArray, hg]; rfl
    refine wpAny_bind (wpAny_seqItems ho hd ?_)
    dsimp only
    rw [if_neg (by rw [any_off (fun y hy => hb.takes y (by rw [List.map_take] at hy; exact List.mem_of_mem_take hy))]; decide), hget]
    refine wpAny_bind (wpAny_holding (wpAny_of_eq take_eq ?_))
    dsimp only
    refine wpAny_bind (wpAny_seqItems ho hd ?_)
    dsimp only
    rw [if_neg (by simp)]
    refine wpAny_pure ⟨x + 1, k, by rw [show bs.length - (x + 1) = m by omega], hlt, ?_, rfl⟩
    have e1 : bs.take (x + 1) = bs.take x ++ [bs.getD x #[]] := by
      rw [List.take_add_one, List.getD_eq_getElem?_getD, List.getElem?_eq_getElem hlt]; rfl
    have e2 : (v1 :: v2 :: vs).take (x + 1) = (v1 :: v2 :: vs).take x ++ [.bytes (bs.getD x #[]) t'] := by
      rw [List.take_add_one, hg]; rfl
    rw [e1, e2, List.map_append, List.push_toArray]; rfl
  · rintro b s' ⟨i, k, e, hi, rfl, rfl⟩
    have hi2 : i = bs.length := by
      cases hq : bs.length - i with
      | zero => omega
      | succ m => rw [hq] at e; cases e
    rw [hi2, List.take_of_length_le (Nat.le_refl _), List.take_of_length_le (Nat.le_of_eq hlen)]
    refine wpAny_bind (wpAny_of_eq (a := #[]) (by kernel_rfl) ?_)
    dsimp only
    rw [if_neg (by rw [KBy.tooLong_not]; · decide
                   · rw [← Array.foldl_toList, sizes_foldl]; simpa using hsz)]
    refine wpAny_bind (wpAny_mkBytes ?_ ?_)
    · refine wpAny_bind (wpAny_holding (wpAny_point ?_))
      refine wpAny_bind (letGo_any _ hb.takes ?_)
      have ej : Bytes.joined #[] bs = catB bs := joined_nil bs 0 #[]
      refine wpAny_pure ⟨_, rfl, ?_⟩
      rw [ej]
      exact h _ _
    · have ej : Bytes.joined #[] bs = catB bs := joined_nil bs 0 #[]
      show (Bytes.joined #[] bs).size ≤ _
      rw [ej, catB, catB_size, sizeLine_eq]; simpa using hsz
  · simp only [List.size_toArray, hlen, Nat.sub_zero]
end
section
variable {prog : Program} {w : World} {A : Around} {E : Value → Shared → Prop} {s : Shared}
theorem join_K {a : Addr} {t : Tok} {v1 v2 : Value} {vs : List Value} {bs : List (Array UInt8)} {Q : Value → Shared → Prop} (hl : s.heap.IsList a (v1 :: v2 :: vs).toArray) (hb : BytesAre (v1 :: v2 :: vs) bs) (hsz : (bs.map (·.size)).sum ≤ 16777216) (h : ∀ t' k, Q (.bytes (catB bs) t') { s with toks := k }) :
    wpAny (model prog w) A (call (.builtin "bytes.join") [.bytes #[] t, .ref a]) Q E s := call_meets jn_slot (PySem.W.typeIs_bytes _ _ _) jn_entry (jn_args _ _) (meets_join hb hsz) ⟨hl, h⟩
theorem join_method {M : Model} {b : Array UInt8} {t : Tok} {pl : Sem Bool} {Q : Value × List Value → Shared → Prop} (h : Q (.builtin "bytes.join", [.bytes b t]) s) : wpAny M A (getMethod (.bytes b t) "join" pl) Q E s :=
  KBd.method_of (.bytes b t) (PySem.W.typeIs_bytes _ _ _) jn_slot jn_type KBd.noRef h
theorem catB_ints (l : List (Array UInt8)) : ∀ a : Array UInt8, KBw.bInts (l.foldl (· ++ ·) a) = KBw.bInts a ++ (l.map KBw.bInts).flatten := by
  induction l with
  | nil => intro a; simp
  | cons x l ih => intro a; rw [List.foldl_cons, ih, KBw.ints_app rfl rfl, List.map_cons, List.flatten_cons, List.append_assoc]
open LCg in
/-- a comprehension's turns by what holds between them -/
theorem rest_ind {h₀ : Heap} {L : Addr} {m : Str → Option Value} {env : Env} {elt : PySem.Expr} {x : Str} {scope : Scope} {cl : List (Str × Addr)} {S : List (Addr × Obj) → Prop} {P : Nat → Value → Prop} {Fin : List Value → List (Addr × Obj) → Prop} {n : Nat} {news : List (Addr × Obj)} (J : Nat → List Value → List (Addr × Obj) → Prop)
    (j0 : J 0 [] news)
    (turn : ∀ i ys nx v I oI C oC D m₂ h tk (E' : Value → Shared → Prop), i < n → J i ys nx → P i v → NsObj oC m₂ → m₂ x = some v → Fr h₀ L h m → News h₀ L h ((I, oI) :: (C, oC) :: (D, lst ys) :: nx) → Off3 I C D nx → ((@Ne Nat I C) ∧ (@Ne Nat I D) ∧ (@Ne Nat C D)) →
      wpAny (model prog w) A (eval elt (compEnvC scope cl C env)) (CompEnd h₀ L m { s with heap := h, toks := tk } I oI C oC D (lst ys) S (fun y nx' => J (i + 1) (ys ++ [y]) nx')) E' { s with heap := h, toks := tk })
    (fin : ∀ ys nx, J n ys nx → Fin ys nx) : CompRest prog w A h₀ L m env elt x scope cl s S P Fin n 0 [] news := by
  have all : ∀ k i ys nx, i + k = n → J i ys nx → CompRest prog w A h₀ L m env elt x scope cl s S P Fin k i ys nx := by
    intro k
    induction k with
    | zero =>
      intro i ys nx e j
      rw [Nat.add_zero] at e
      exact fin ys nx (e ▸ j)
    | succ k ih =>
      intro i ys nx e j
      refine CompRest.succ fun v I oI C oC D m₂ h tk E' hP hC hx F N off ne => wpAny_mono (turn i ys nx v I oI C oC D m₂ h tk E' (by rw [← e]; exact Nat.lt_add_of_pos_right (Nat.succ_pos k)) j hP hC hx F N off ne) (fun y s' hy => ?_) fun _ _ z => z
      obtain ⟨h', tk', nx', e1, F', N', off', S', r⟩ := hy
      exact ⟨h', tk', nx', e1, F', N', off', S', ih (i + 1) _ nx' (by rw [← e, Nat.add_assoc, Nat.add_comm 1 k]) r⟩
  exact all n 0 [] news (Nat.zero_add n) j0
end

/-- the octets of pieces, one behind the other -/
def writesM : List RowI → Except Nat (List Int)
  | [] => .ok []
  | r :: rs => match writeM r with
    | .error C => .error C
    | .ok b => match writesM rs with
      | .error C => .error C
      | .ok bs => .ok (b ++ bs)
inductive Written : List RowB → List (Array UInt8) → Prop
  | nil : Written [] []
  | cons {r : RowB} {b : Array UInt8} {rs : List RowB} {bs : List (Array UInt8)} : writeM (ri r) = .ok (KBw.bInts b) → Written rs bs → Written (r :: rs) (b :: bs)
theorem Written.snoc {rs : List RowB} {bs : List (Array UInt8)} {r : RowB} {b : Array UInt8} (h : Written rs bs) (hb : writeM (ri r) = .ok (KBw.bInts b)) : Written (rs ++ [r]) (bs ++ [b]) := by
  induction h with
  | nil => exact .cons hb .nil
  | cons h _ ih => exact .cons h ih
theorem Written.whole {rs : List RowB} {bs : List (Array UInt8)} (h : Written rs bs) : writesM (rs.map ri) = .ok (bs.map KBw.bInts).flatten := by
  induction h with
  | nil => rfl
  | cons h _ ih => rw [List.map_cons, writesM, h, ih]; rfl
theorem BytesAre.snoc {vs : List Value} {bs : List (Array UInt8)} {b : Array UInt8} {t : Tok} (h : BytesAre vs bs) : BytesAre (vs ++ [.bytes b t]) (bs ++ [b]) := by
  induction h with
  | nil => exact .cons .nil
  | cons _ ih => exact .cons ih

theorem Written.length {rs : List RowB} {bs : List (Array UInt8)} (h : Written rs bs) : rs.length = bs.length := by
  induction h with
  | nil => rfl
  | cons _ _ ih => rw [List.length_cons, List.length_cons, ih]
theorem flat_length (bs : List (Array UInt8)) : (bs.map KBw.bInts).flatten.length = (bs.map (·.size)).sum := by
  induction bs with
  | nil => rfl
  | cons b bs ih => rw [List.map_cons, List.flatten_cons, List.length_append, ih, KBw.ints_length, List.map_cons, List.sum_cons]
theorem written_size {bs : List (Array UInt8)} (h : (bs.map KBw.bInts).flatten.length ≤ 1000000) : (bs.map (·.size)).sum ≤ 16777216 := by
  rw [flat_length] at h; exact Nat.le_trans h (by decide)
theorem PiecesIn.length {led : List (Addr × Obj)} {vs : List Value} {rs : List RowB} (h : PiecesIn led vs rs) : vs.length = rs.length := by
  induction h with
  | nil => rfl
  | cons _ _ ih => rw [List.length_cons, List.length_cons, ih]
theorem PiecesIn.get {led : List (Addr × Obj)} {vs : List Value} {rs : List RowB} (h : PiecesIn led vs rs) : ∀ {i : Nat} (hi : i < rs.length), ∃ v, vs[i]? = some v ∧ PieceIn led v rs[i] := by
  induction h with
  | nil => intro i hi; exact absurd hi (Nat.not_lt_zero _)
  | cons h _ ih =>
    intro i hi
    cases i with
    | zero => exact ⟨_, rfl, h⟩
    | succ i => exact ih (Nat.lt_of_succ_lt_succ hi)
theorem writesM_ok {rs : List RowB} : ∀ {os : List Int}, writesM (rs.map ri) = .ok os → ∀ {i : Nat} (hi : i < rs.length), ∃ b, writeM (ri rs[i]) = .ok b := by
  induction rs with
  | nil => intro os _ i hi; exact absurd hi (Nat.not_lt_zero _)
  | cons r rs ih =>
    intro os h i hi
    rw [List.map_cons, writesM] at h
    split at h
    · cases h
    rename_i b hb
    split at h
    · cases h
    rename_i bs hbs
    cases i with
    | zero => exact ⟨b, hb⟩
    | succ i => exact ih hbs (Nat.lt_of_succ_lt_succ hi)

set_option maxHeartbeats 2000000 in
theorem write_pieces_at {prog : Program} {w : World} (news : List (Addr × Obj)) (l : Addr) (vs : List Value) (cap : Nat) (rows : List RowB) (os : List Int) (hp : PiecesIn news vs rows) (hr : ∀ r ∈ rows, 0 ≤ r.1 ∧ r.1 < 256 ∧ (KBw.bInts r.2.1).length ≤ 1000000 ∧ (KBw.bInts r.2.2).length ≤ 1000000)
    (hw : writesM (rows.map ri) = .ok os) (hs : os.length ≤ 1000000) (h2 : 2 ≤ rows.length) (h3 : rows.length ≤ 1000000) :
    Calls prog w 10 179 [.ref l] ((l, listOf vs.toArray cap) :: news) (fun r n' => (∃ (b : Array UInt8) (tk : Tok), KBw.bInts b = os ∧ r = .bytes b tk) ∧ n' = (l, listOf vs.toArray cap) :: news) (fun _ => False) := by
  k_with_none
  k_with "exec Raise some none" => (k_here; (with_reducible show wpAny _ _ (exec (Stmt.Raise (some (PySem.Expr.Call (PySem.Expr.Name ("CutError" : Str) _) _ _ _)) none _) _) _ _ _); k_dflt (refine raise68 rfl ?_))
  k_with "exec Raise some none" => (k_here; (with_reducible show wpAny _ _ (exec (Stmt.Raise (some (PySem.Expr.Call (PySem.Expr.Name ("MarkerError" : Str) _) _ _ _)) none _) _) _ _ _); k_dflt (refine raise44 rfl ?_))
  k_with "exec Raise some none" => (k_here; (with_reducible show wpAny _ _ (exec (Stmt.Raise (some (PySem.Expr.Call (PySem.Expr.Name ("SegmentError" : Str) _) _ _ _)) none _) _) _ _ _); k_dflt (refine raise56 rfl ?_))
  k_with "call ref" => (k_here; (with_reducible show wpAny _ _ (call (Value.ref _) [Value.str _ _]) (RaiseAt _ _ _) _ _); k_dflt (first | refine' exc_call (exc68 _) ?k1 ?k2 ?k3 ?k4 ?k5 ?kA ?kF ?kK ?kd ?_ | refine' exc_call (exc44 _) ?k1 ?k2 ?k3 ?k4 ?k5 ?kA ?kF ?kK ?kd ?_ | refine' exc_call (exc56 _) ?k1 ?k2 ?k3 ?k4 ?k5 ?kA ?kF ?kK ?kd ?_); (case k1 => k_asm); (case k2 => k_asm); (case k3 => k_asm); (case k4 => k_asm); (case k5 => k_asm); (case kA => exact rfl); (case kF => exact rfl); (case kK => first | exact rfl | assumption); (case kd => ktr_room); intro e' t' dx' h' tk' F' N' D'; refine ⟨_, _, _, rfl, Frag.In.keeps (by k_asm) (Fr.keep F'), News.get N' (.head _), ?_⟩; (try k_sweep))
  k_with "leaving ref" => (k_here; k_dflt (first | (refine' leave_raiseM ?k1 ?k2 ?k3 ?k4 ?_; (case k3 => assumption); (case k1 => assumption); (case k2 => assumption); (case k4 => assumption); intro h' R' U'; (try dsimp only at R' U' ⊢)) | (refine' leave_onM ?k1 ?k2 ?k3 ?k4 ?_; (case k3 => assumption); (case k1 => assumption); (case k4 => assumption); (case k2 => assumption); intro h' R' U'; (try dsimp only at R' U' ⊢))))
  k_with "call type:bytes" => (k_here; (with_reducible show wpAny _ _ (call (Value.type "bytes") [Value.bytes _ _]) _ _ _); k_dflt (refine bytes_again ?_); intro _)
  k_with "call type:bytes" => (k_here; (with_reducible show wpAny _ _ (call (Value.type "bytes") [Value.int _ _]) _ _ _); k_dflt (refine bytes_zeros (by omega) (by omega) ?_); intro _ _)
  k_with "call ref" => (k_here; (with_reducible show wpAny _ _ (call (Value.ref 96) _) _ _ _); k_dflt (refine' Calls.use (is_restart_spec _ _ _) ?k1 ?k2 ?k3 ?k4 ?k5 ?kK ?kd ?ku ?_ ?_); (case k1 => k_asm); (case k2 => k_asm); (case k3 => k_asm); (case k4 => k_asm); (case k5 => k_asm); (case kK => first | exact rfl | assumption); (case kd => ktr_room); (case ku => ktr_units); (all_goals first | (intro C' g' e' h' tk' hx' FG' R' U'; first | exact hx'.elim | ((with_reducible have ck' := RaisedM.sub R' (fun _ hp => hp)); clear ck'; (try dsimp only at R' U'))) | (intro r' n' h' tk' hR' F' N'; (try k_sweep); (obtain ⟨rfl, rfl⟩ := hR'); (try dsimp only); (try k_fold))))
  k_with "call ref" => (k_here; (with_reducible show wpAny _ _ (call (Value.ref 103) _) _ _ _); k_dflt (refine' Calls.use (has_length_spec _ _ _) ?k1 ?k2 ?k3 ?k4 ?k5 ?kK ?kd ?ku ?_ ?_); (case k1 => k_asm); (case k2 => k_asm); (case k3 => k_asm); (case k4 => k_asm); (case k5 => k_asm); (case kK => first | exact rfl | assumption); (case kd => ktr_room); (case ku => ktr_units); (all_goals first | (intro C' g' e' h' tk' hx' FG' R' U'; first | exact hx'.elim | ((with_reducible have ck' := RaisedM.sub R' (fun _ hp => hp)); clear ck'; (try dsimp only at R' U'))) | (intro r' n' h' tk' hR' F' N'; (try k_sweep); (obtain ⟨rfl, rfl⟩ := hR'); (try dsimp only); (try k_fold))))
  k_with "call ref" => (k_here; (with_reducible show wpAny _ _ (call (Value.ref 132) _) _ _ _); k_dflt (refine' Calls.use (next_marker_spec _ _ _ _ _ _ ?p1 ?p2 ?p3) ?k1 ?k2 ?k3 ?k4 ?k5 ?kK ?kd ?ku ?_ ?_); (case k1 => k_asm); (case k2 => k_asm); (case k3 => k_asm); (case k4 => k_asm); (case k5 => k_asm); (case kK => first | exact rfl | assumption); (case kd => ktr_room); (case ku => ktr_units); (case p1 => assumption); (case p2 => assumption); (case p3 => first | assumption | omega); (all_goals first | (intro C' g' e' h' tk' hx' FG' R' U'; first | exact hx'.elim | ((with_reducible have ck' := RaisedM.sub R' (fun _ hp => hp)); clear ck'; (try dsimp only at R' U'))) | (intro r' n' h' tk' hR' F' N'; (try k_sweep); (obtain ⟨fd', e0, rfl, rfl⟩ := hR'); (try dsimp only); (try k_fold))))
  k_with "KswEnd" => (k_here; (rename Fr _ _ _ _ => F9); (rename News _ _ _ _ => N9); k_dflt (refine' ksw_end ⟨_, _⟩ F9 N9 ?ka ?kb ?kc ?kz ?kp ?km); (case ka => first | exact fun _ hp => hp | exact fun _ hp => .tail _ hp | kst_in); (case kb => kst_facts); (case kc => kst_all); (case kz => (intro z h2 h3; have h9 := h2 _ (.head _); first | (dsimp only at h9 ⊢; simp only [if_neg h9, List.contains_nil, Bool.false_eq_true, if_false]; first | done | rfl | (simp only [kstB, List.contains_nil, Bool.false_eq_true, if_false]; first | done | rfl)) | ksw_same)); (case kp => kst_p); (case km => ksw_less))
  k_with "call ref" => (k_here; (with_reducible show wpAny _ _ (call (Value.ref 139) _) _ _ _); k_dflt (refine' Calls.use (data_end_spec _ _ _ _ _ _ ?p1 ?p2 ?p3) ?k1 ?k2 ?k3 ?k4 ?k5 ?kK ?kd ?ku ?_ ?_); (case k1 => k_asm); (case k2 => k_asm); (case k3 => k_asm); (case k4 => k_asm); (case k5 => k_asm); (case kK => first | exact rfl | assumption); (case kd => ktr_room); (case ku => ktr_units); (case p1 => assumption); (case p2 => assumption); (case p3 => first | assumption | omega); (all_goals first | (intro C' g' e' h' tk' hx' FG' R' U'; first | exact hx'.elim | ((with_reducible have ck' := RaisedM.sub R' (fun _ hp => hp)); clear ck'; (try dsimp only at R' U'))) | (intro r' n' h' tk' hR' F' N'; (try k_sweep); (obtain ⟨pe', tk9, e0, rfl, rfl⟩ := hR'); (try dsimp only); (try k_fold))))
  k_with "call ref" => (k_here; (with_reducible show wpAny _ _ (call (Value.ref 146) _) _ _ _); k_dflt (refine' Calls.use (read_code_spec _ _ _ _ _ _ ?p1 ?p2 ?p3) ?k1 ?k2 ?k3 ?k4 ?k5 ?kK ?kd ?ku ?_ ?_); (case k1 => k_asm); (case k2 => k_asm); (case k3 => k_asm); (case k4 => k_asm); (case k5 => k_asm); (case kK => first | exact rfl | assumption); (case kd => ktr_room); (case ku => ktr_units); (case p1 => assumption); (case p2 => assumption); (case p3 => first | assumption | omega); (all_goals first | (intro C' g' e' h' tk' hx' FG' R' U'; first | exact hx'.elim | ((with_reducible have ck' := RaisedM.sub R' (fun _ hp => hp)); clear ck'; (try dsimp only at R' U'))) | (intro r' n' h' tk' hR' F' N'; (try k_sweep); (obtain ⟨k', j', D', t1', t2', e0, e1, rfl, rfl⟩ := hR'); (try dsimp only); (try k_fold))))
  k_with "call ref" => (k_here; (with_reducible show wpAny _ _ (call (Value.ref 153) _) _ _ _); k_dflt (refine' Calls.use (read_payload_spec _ _ _ _ _ _ ?p1 ?p2 ?p3) ?k1 ?k2 ?k3 ?k4 ?k5 ?kK ?kd ?ku ?_ ?_); (case k1 => k_asm); (case k2 => k_asm); (case k3 => k_asm); (case k4 => k_asm); (case k5 => k_asm); (case kK => first | exact rfl | assumption); (case kd => ktr_room); (case ku => ktr_units); (case p1 => assumption); (case p2 => assumption); (case p3 => first | assumption | omega); (all_goals first | (intro C' g' e' h' tk' hx' FG' R' U'; first | exact hx'.elim | ((with_reducible have ck' := RaisedM.sub R' (fun _ hp => hp)); clear ck'; (try dsimp only at R' U'))) | (intro r' n' h' tk' hR' F' N'; (try k_sweep); (obtain ⟨pl', j', D', b', t1', t2', e0, e1, rfl, rfl, e2⟩ := hR'); (try dsimp only); (try k_fold))))
  k_with "call ref" => (k_here; (with_reducible show wpAny _ _ (call (Value.ref 121) _) _ _ _); k_dflt (refine' Calls.use (piece_spec _ _ _ _ _ (.inl rfl)) ?k1 ?k2 ?k3 ?k4 ?k5 ?kK ?kd ?ku ?_ ?_); (case k1 => k_asm); (case k2 => k_asm); (case k3 => k_asm); (case k4 => k_asm); (case k5 => k_asm); (case kK => first | exact rfl | assumption); (case kd => ktr_room); (case ku => ktr_units); (all_goals first | (intro C' g' e' h' tk' hx' FG' R' U'; first | exact hx'.elim | ((with_reducible have ck' := RaisedM.sub R' (fun _ hp => hp)); clear ck'; (try dsimp only at R' U'))) | (intro r' n' h' tk' hR' F' N'; (try k_sweep); (obtain ⟨x', dx', h1', h2', h3', k1', k2', k3', rfl, lx', ly', rfl⟩ := hR'); (try dsimp only); (try k_fold))))
  k_with "call ref" => (k_here; (with_reducible show wpAny _ _ (call (Value.ref 121) _) _ _ _); k_dflt (refine' Calls.use (piece_spec _ _ _ _ _ (.inr (.inl ⟨rfl, rfl⟩))) ?k1 ?k2 ?k3 ?k4 ?k5 ?kK ?kd ?ku ?_ ?_); (case k1 => k_asm); (case k2 => k_asm); (case k3 => k_asm); (case k4 => k_asm); (case k5 => k_asm); (case kK => first | exact rfl | assumption); (case kd => ktr_room); (case ku => ktr_units); (all_goals first | (intro C' g' e' h' tk' hx' FG' R' U'; first | exact hx'.elim | ((with_reducible have ck' := RaisedM.sub R' (fun _ hp => hp)); clear ck'; (try dsimp only at R' U'))) | (intro r' n' h' tk' hR' F' N'; (try k_sweep); (obtain ⟨x', dx', h1', h2', h3', k1', k2', k3', rfl, lx', ly', rfl⟩ := hR'); (try dsimp only); (try k_fold))))
  k_with "call ref" => (k_here; (with_reducible show wpAny _ _ (call (Value.ref 121) _) _ _ _); k_dflt (refine' Calls.use (piece_spec _ _ _ _ _ (.inr (.inr ⟨rfl, rfl, rfl⟩))) ?k1 ?k2 ?k3 ?k4 ?k5 ?kK ?kd ?ku ?_ ?_); (case k1 => k_asm); (case k2 => k_asm); (case k3 => k_asm); (case k4 => k_asm); (case k5 => k_asm); (case kK => first | exact rfl | assumption); (case kd => ktr_room); (case ku => ktr_units); (all_goals first | (intro C' g' e' h' tk' hx' FG' R' U'; first | exact hx'.elim | ((with_reducible have ck' := RaisedM.sub R' (fun _ hp => hp)); clear ck'; (try dsimp only at R' U'))) | (intro r' n' h' tk' hR' F' N'; (try k_sweep); (obtain ⟨x', dx', h1', h2', h3', k1', k2', k3', rfl, lx', ly', rfl⟩ := hR'); (try dsimp only); (try k_fold))))
  k_with "call ref" => (k_here; (with_reducible show wpAny _ _ (call (Value.ref 160) _) _ _ _); k_dflt (refine' Calls.use (read_piece_spec _ _ _ _ _ _ ?p1 ?p2 ?p3) ?k1 ?k2 ?k3 ?k4 ?k5 ?kK ?kd ?ku ?_ ?_); (case k1 => k_asm); (case k2 => k_asm); (case k3 => k_asm); (case k4 => k_asm); (case k5 => k_asm); (case kK => first | exact rfl | assumption); (case kd => ktr_room); (case ku => ktr_units); (case p1 => assumption); (case p2 => assumption); (case p3 => first | assumption | omega); (all_goals first | (intro C' g' e' h' tk' hx' FG' R' U'; first | exact hx'.elim | ((with_reducible have ck' := RaisedM.sub R' (fun _ hp => hp)); clear ck'; (try dsimp only at R' U'))) | (intro r' n' h' tk' hR' F' N'; (try k_sweep); (obtain ⟨D', x', dx', t1', tc', tp', td', k1', k2', k3', h1', h2', h3', k', j', pb', db', e0, e1, rfl, rfl⟩ := hR'); (try dsimp only); (try k_fold))))
  k_with "call ref" => (k_here; (with_reducible show wpAny _ _ (call (Value.ref 89) _) _ _ _); k_dflt (refine' Calls.use (word_spec _ _ _ ?p1 ?p2) ?k1 ?k2 ?k3 ?k4 ?k5 ?kK ?kd ?ku ?_ ?_); (case k1 => k_asm); (case k2 => k_asm); (case k3 => k_asm); (case k4 => k_asm); (case k5 => k_asm); (case kK => first | exact rfl | assumption); (case kd => ktr_room); (case ku => ktr_units); (case p1 => omega); (case p2 => omega); (all_goals first | (intro C' g' e' h' tk' hx' FG' R' U'; first | exact hx'.elim | ((with_reducible have ck' := RaisedM.sub R' (fun _ hp => hp)); clear ck'; (try dsimp only at R' U'))) | (intro r' n' h' tk' hR' F' N'; (try k_sweep); (obtain ⟨⟨wb', wt', ew', rfl⟩, rfl⟩ := hR'); (try dsimp only); (try k_fold))))
  k_with "call ref" => (k_here; (with_reducible show wpAny _ _ (call (Value.ref 174) _) _ _ _); k_dflt (refine' Calls.use (write_piece_spec _ _ _ ?p1 ?p2 ?p3 ?p4 ?p5) ?k1 ?k2 ?k3 ?k4 ?k5 ?kK ?kd ?ku ?_ ?_); (case k1 => k_asm); (case k2 => k_asm); (case k3 => k_asm); (case k4 => k_asm); (case k5 => k_asm); (case kK => first | exact rfl | assumption); (case kd => ktr_room); (case ku => ktr_units); (case p1 => exact PieceIn.mono (by assumption) (by k_sub)); (case p2 => (first | exact hri.1 | omega)); (case p3 => (first | exact hri.2.1 | omega)); (case p4 => (first | exact hri.2.2.1 | omega)); (case p5 => (first | exact hri.2.2.2 | omega)); (all_goals first | (intro C' g' e' h' tk' hx' FG' R' U'; first | exact hx'.elim | ((with_reducible have ck' := RaisedM.sub R' (fun _ hp => hp)); clear ck'; (try dsimp only at R' U'))) | (intro r' n' h' tk' hR' F' N'; (try k_sweep); (obtain ⟨⟨wb', wt', ew', rfl⟩, rfl⟩ := hR'); (try dsimp only); (try k_fold))))
  intro dp un gd cn cs a ccd cl outer A₀ base h₀ L m s p loose mean mg mb Q E hB hF hX hN hT hk hd hu hret hex
  refine wpAny_call ?_
  k_dflt cell_enter
  k_with "getMethod bytes" => (k_here; (with_reducible refine join_method ?_))
  k_with "eval ListComp" => refine Stop.out ?_
  k_steps
  refine Stop.mk ?_
  k_dflt (refine LCg.ListComp_U (F₀ := by k_asm) (by rfl) (by decide) (by rfl) (by decide) (by rfl) ?_)
  k_with "CompSrc" => refine Stop.out ?_
  k_steps
  refine Stop.mk ?_
  refine LCg.CompSrc.ledger (by rfl) (by k_asm) (by k_asm) (by k_mem) ?_ fun g9 => ?_
  · rw [List.size_toArray, hp.length, sizeLine_eq]; omega
  rw [List.size_toArray, hp.length]
  refine rest_ind (fun i ys nx => nx = (l, listOf vs.toArray cap) :: news ∧ ∃ bss, BytesAre ys bss ∧ Written (rows.take i) bss) ⟨rfl, [], .nil, .nil⟩ ?turn ?fin
  case turn =>
    rintro i ys nx v I oI C oC D m₂ h9 tk9 E' hi ⟨rfl, bss, hy, hwr⟩ hv hC hx F9 N9 off9 ne9
    obtain ⟨vr, hvr, hpi⟩ := hp.get hi
    obtain rfl : vr = v := Option.some.inj (hvr.symm.trans (by simpa using hv))
    have hri := hr _ (List.getElem_mem hi)
    obtain ⟨bi, hbi⟩ := writesM_ok hw hi
    k_steps
    · rename News _ _ _ _ => N8
      exact LCg.CompEnd.intro (by assumption) N8 _ (fun _ h => h) off9 (.inr ⟨_, .head _, rfl, _, rfl⟩) ⟨rfl, bss ++ [wb'], hy.snoc, by rw [List.take_add_one, List.getElem?_eq_getElem hi]; exact hwr.snoc ew'⟩
    · exact absurd (hbi.symm.trans hx'.2) (by intro q; cases q)
  case fin =>
    rintro ys nx ⟨rfl, bss, hy, hwr⟩
    unfold LCg.FinE
    intro D9 h9 tk9 F9 N9 o9
    rw [List.take_length] at hwr
    have hlen : ys.length = rows.length := hy.length.trans hwr.length.symm
    obtain ⟨v1, v2, ys', rfl⟩ : ∃ v1 v2 ys', ys = v1 :: v2 :: ys' := by
      rcases ys with _ | ⟨v1, _ | ⟨v2, ys'⟩⟩
      · exact absurd hlen (Nat.ne_of_lt (Nat.lt_of_lt_of_le (by decide) h2))
      · exact absurd hlen (Nat.ne_of_lt (Nat.lt_of_lt_of_le (by show 1 < 2; decide) h2))
      · exact ⟨v1, v2, ys', rfl⟩
    obtain rfl := Except.ok.inj (hwr.whole.symm.trans hw)
    k_with "call builtin:bytes.join" => (k_here; refine join_K (News.isList (by k_asm) (by k_mem)) hy (written_size hs) ?_; intro _ _)
    k_steps
    rename News _ _ _ _ => N8; replace N8 := cb_drop N8 (fun p hp => .tail _ hp)
    (refine' hret _ _ _ _ (⟨⟨_, _, ?h1, rfl⟩, rfl⟩) ?hF ?hN; (case hN => assumption); (case hF => assumption); (case h1 => (rw [catB, catB_ints]; rfl)))

set_option maxHeartbeats 2000000 in
theorem write_pieces_bad {prog : Program} {w : World} (news : List (Addr × Obj)) (l : Addr) (v : Value) (cap : Nat) (r : RowB) (hp : PieceIn news v r) (hri : 0 ≤ r.1 ∧ r.1 < 256 ∧ (KBw.bInts r.2.1).length ≤ 1000000 ∧ (KBw.bInts r.2.2).length ≤ 1000000)
    (hw : writeM (ri r) = .error 56) :
    Calls prog w 10 179 [.ref l] ((l, listOf [v].toArray cap) :: news) (fun _ _ => False) (fun C => C = 56) := by
  k_with_none
  k_with "exec Raise some none" => (k_here; (with_reducible show wpAny _ _ (exec (Stmt.Raise (some (PySem.Expr.Call (PySem.Expr.Name ("CutError" : Str) _) _ _ _)) none _) _) _ _ _); k_dflt (refine raise68 rfl ?_))
  k_with "exec Raise some none" => (k_here; (with_reducible show wpAny _ _ (exec (Stmt.Raise (some (PySem.Expr.Call (PySem.Expr.Name ("MarkerError" : Str) _) _ _ _)) none _) _) _ _ _); k_dflt (refine raise44 rfl ?_))
  k_with "exec Raise some none" => (k_here; (with_reducible show wpAny _ _ (exec (Stmt.Raise (some (PySem.Expr.Call (PySem.Expr.Name ("SegmentError" : Str) _) _ _ _)) none _) _) _ _ _); k_dflt (refine raise56 rfl ?_))
  k_with "call ref" => (k_here; (with_reducible show wpAny _ _ (call (Value.ref _) [Value.str _ _]) (RaiseAt _ _ _) _ _); k_dflt (first | refine' exc_call (exc68 _) ?k1 ?k2 ?k3 ?k4 ?k5 ?kA ?kF ?kK ?kd ?_ | refine' exc_call (exc44 _) ?k1 ?k2 ?k3 ?k4 ?k5 ?kA ?kF ?kK ?kd ?_ | refine' exc_call (exc56 _) ?k1 ?k2 ?k3 ?k4 ?k5 ?kA ?kF ?kK ?kd ?_); (case k1 => k_asm); (case k2 => k_asm); (case k3 => k_asm); (case k4 => k_asm); (case k5 => k_asm); (case kA => exact rfl); (case kF => exact rfl); (case kK => first | exact rfl | assumption); (case kd => ktr_room); intro e' t' dx' h' tk' F' N' D'; refine ⟨_, _, _, rfl, Frag.In.keeps (by k_asm) (Fr.keep F'), News.get N' (.head _), ?_⟩; (try k_sweep))
  k_with "leaving ref" => (k_here; k_dflt (first | (refine' leave_raiseM ?k1 ?k2 ?k3 ?k4 ?_; (case k3 => assumption); (case k1 => assumption); (case k2 => assumption); (case k4 => assumption); intro h' R' U'; (try dsimp only at R' U' ⊢)) | (refine' leave_onM ?k1 ?k2 ?k3 ?k4 ?_; (case k3 => assumption); (case k1 => assumption); (case k4 => assumption); (case k2 => assumption); intro h' R' U'; (try dsimp only at R' U' ⊢))))
  k_with "call type:bytes" => (k_here; (with_reducible show wpAny _ _ (call (Value.type "bytes") [Value.bytes _ _]) _ _ _); k_dflt (refine bytes_again ?_); intro _)
  k_with "call type:bytes" => (k_here; (with_reducible show wpAny _ _ (call (Value.type "bytes") [Value.int _ _]) _ _ _); k_dflt (refine bytes_zeros (by omega) (by omega) ?_); intro _ _)
  k_with "call ref" => (k_here; (with_reducible show wpAny _ _ (call (Value.ref 96) _) _ _ _); k_dflt (refine' Calls.use (is_restart_spec _ _ _) ?k1 ?k2 ?k3 ?k4 ?k5 ?kK ?kd ?ku ?_ ?_); (case k1 => k_asm); (case k2 => k_asm); (case k3 => k_asm); (case k4 => k_asm); (case k5 => k_asm); (case kK => first | exact rfl | assumption); (case kd => ktr_room); (case ku => ktr_units); (all_goals first | (intro C' g' e' h' tk' hx' FG' R' U'; first | exact hx'.elim | ((with_reducible have ck' := RaisedM.sub R' (fun _ hp => hp)); clear ck'; (try dsimp only at R' U'))) | (intro r' n' h' tk' hR' F' N'; (try k_sweep); (obtain ⟨rfl, rfl⟩ := hR'); (try dsimp only); (try k_fold))))
  k_with "call ref" => (k_here; (with_reducible show wpAny _ _ (call (Value.ref 103) _) _ _ _); k_dflt (refine' Calls.use (has_length_spec _ _ _) ?k1 ?k2 ?k3 ?k4 ?k5 ?kK ?kd ?ku ?_ ?_); (case k1 => k_asm); (case k2 => k_asm); (case k3 => k_asm); (case k4 => k_asm); (case k5 => k_asm); (case kK => first | exact rfl | assumption); (case kd => ktr_room); (case ku => ktr_units); (all_goals first | (intro C' g' e' h' tk' hx' FG' R' U'; first | exact hx'.elim | ((with_reducible have ck' := RaisedM.sub R' (fun _ hp => hp)); clear ck'; (try dsimp only at R' U'))) | (intro r' n' h' tk' hR' F' N'; (try k_sweep); (obtain ⟨rfl, rfl⟩ := hR'); (try dsimp only); (try k_fold))))
  k_with "call ref" => (k_here; (with_reducible show wpAny _ _ (call (Value.ref 132) _) _ _ _); k_dflt (refine' Calls.use (next_marker_spec _ _ _ _ _ _ ?p1 ?p2 ?p3) ?k1 ?k2 ?k3 ?k4 ?k5 ?kK ?kd ?ku ?_ ?_); (case k1 => k_asm); (case k2 => k_asm); (case k3 => k_asm); (case k4 => k_asm); (case k5 => k_asm); (case kK => first | exact rfl | assumption); (case kd => ktr_room); (case ku => ktr_units); (case p1 => assumption); (case p2 => assumption); (case p3 => first | assumption | omega); (all_goals first | (intro C' g' e' h' tk' hx' FG' R' U'; first | exact hx'.elim | ((with_reducible have ck' := RaisedM.sub R' (fun _ hp => hp)); clear ck'; (try dsimp only at R' U'))) | (intro r' n' h' tk' hR' F' N'; (try k_sweep); (obtain ⟨fd', e0, rfl, rfl⟩ := hR'); (try dsimp only); (try k_fold))))
  k_with "KswEnd" => (k_here; (rename Fr _ _ _ _ => F9); (rename News _ _ _ _ => N9); k_dflt (refine' ksw_end ⟨_, _⟩ F9 N9 ?ka ?kb ?kc ?kz ?kp ?km); (case ka => first | exact fun _ hp => hp | exact fun _ hp => .tail _ hp | kst_in); (case kb => kst_facts); (case kc => kst_all); (case kz => (intro z h2 h3; have h9 := h2 _ (.head _); first | (dsimp only at h9 ⊢; simp only [if_neg h9, List.contains_nil, Bool.false_eq_true, if_false]; first | done | rfl | (simp only [kstB, List.contains_nil, Bool.false_eq_true, if_false]; first | done | rfl)) | ksw_same)); (case kp => kst_p); (case km => ksw_less))
  k_with "call ref" => (k_here; (with_reducible show wpAny _ _ (call (Value.ref 139) _) _ _ _); k_dflt (refine' Calls.use (data_end_spec _ _ _ _ _ _ ?p1 ?p2 ?p3) ?k1 ?k2 ?k3 ?k4 ?k5 ?kK ?kd ?ku ?_ ?_); (case k1 => k_asm); (case k2 => k_asm); (case k3 => k_asm); (case k4 => k_asm); (case k5 => k_asm); (case kK => first | exact rfl | assumption); (case kd => ktr_room); (case ku => ktr_units); (case p1 => assumption); (case p2 => assumption); (case p3 => first | assumption | omega); (all_goals first | (intro C' g' e' h' tk' hx' FG' R' U'; first | exact hx'.elim | ((with_reducible have ck' := RaisedM.sub R' (fun _ hp => hp)); clear ck'; (try dsimp only at R' U'))) | (intro r' n' h' tk' hR' F' N'; (try k_sweep); (obtain ⟨pe', tk9, e0, rfl, rfl⟩ := hR'); (try dsimp only); (try k_fold))))
  k_with "call ref" => (k_here; (with_reducible show wpAny _ _ (call (Value.ref 146) _) _ _ _); k_dflt (refine' Calls.use (read_code_spec _ _ _ _ _ _ ?p1 ?p2 ?p3) ?k1 ?k2 ?k3 ?k4 ?k5 ?kK ?kd ?ku ?_ ?_); (case k1 => k_asm); (case k2 => k_asm); (case k3 => k_asm); (case k4 => k_asm); (case k5 => k_asm); (case kK => first | exact rfl | assumption); (case kd => ktr_room); (case ku => ktr_units); (case p1 => assumption); (case p2 => assumption); (case p3 => first | assumption | omega); (all_goals first | (intro C' g' e' h' tk' hx' FG' R' U'; first | exact hx'.elim | ((with_reducible have ck' := RaisedM.sub R' (fun _ hp => hp)); clear ck'; (try dsimp only at R' U'))) | (intro r' n' h' tk' hR' F' N'; (try k_sweep); (obtain ⟨k', j', D', t1', t2', e0, e1, rfl, rfl⟩ := hR'); (try dsimp only); (try k_fold))))
  k_with "call ref" => (k_here; (with_reducible show wpAny _ _ (call (Value.ref 153) _) _ _ _); k_dflt (refine' Calls.use (read_payload_spec _ _ _ _ _ _ ?p1 ?p2 ?p3) ?k1 ?k2 ?k3 ?k4 ?k5 ?kK ?kd ?ku ?_ ?_); (case k1 => k_asm); (case k2 => k_asm); (case k3 => k_asm); (case k4 => k_asm); (case k5 => k_asm); (case kK => first | exact rfl | assumption); (case kd => ktr_room); (case ku => ktr_units); (case p1 => assumption); (case p2 => assumption); (case p3 => first | assumption | omega); (all_goals first | (intro C' g' e' h' tk' hx' FG' R' U'; first | exact hx'.elim | ((with_reducible have ck' := RaisedM.sub R' (fun _ hp => hp)); clear ck'; (try dsimp only at R' U'))) | (intro r' n' h' tk' hR' F' N'; (try k_sweep); (obtain ⟨pl', j', D', b', t1', t2', e0, e1, rfl, rfl, e2⟩ := hR'); (try dsimp only); (try k_fold))))
  k_with "call ref" => (k_here; (with_reducible show wpAny _ _ (call (Value.ref 121) _) _ _ _); k_dflt (refine' Calls.use (piece_spec _ _ _ _ _ (.inl rfl)) ?k1 ?k2 ?k3 ?k4 ?k5 ?kK ?kd ?ku ?_ ?_); (case k1 => k_asm); (case k2 => k_asm); (case k3 => k_asm); (case k4 => k_asm); (case k5 => k_asm); (case kK => first | exact rfl | assumption); (case kd => ktr_room); (case ku => ktr_units); (all_goals first | (intro C' g' e' h' tk' hx' FG' R' U'; first | exact hx'.elim | ((with_reducible have ck' := RaisedM.sub R' (fun _ hp => hp)); clear ck'; (try dsimp only at R' U'))) | (intro r' n' h' tk' hR' F' N'; (try k_sweep); (obtain ⟨x', dx', h1', h2', h3', k1', k2', k3', rfl, lx', ly', rfl⟩ := hR'); (try dsimp only); (try k_fold))))
  k_with "call ref" => (k_here; (with_reducible show wpAny _ _ (call (Value.ref 121) _) _ _ _); k_dflt (refine' Calls.use (piece_spec _ _ _ _ _ (.inr (.inl ⟨rfl, rfl⟩))) ?k1 ?k2 ?k3 ?k4 ?k5 ?kK ?kd ?ku ?_ ?_); (case k1 => k_asm); (case k2 => k_asm); (case k3 => k_asm); (case k4 => k_asm); (case k5 => k_asm); (case kK => first | exact rfl | assumption); (case kd => ktr_room); (case ku => ktr_units); (all_goals first | (intro C' g' e' h' tk' hx' FG' R' U'; first | exact hx'.elim | ((with_reducible have ck' := RaisedM.sub R' (fun _ hp => hp)); clear ck'; (try dsimp only at R' U'))) | (intro r' n' h' tk' hR' F' N'; (try k_sweep); (obtain ⟨x', dx', h1', h2', h3', k1', k2', k3', rfl, lx', ly', rfl⟩ := hR'); (try dsimp only); (try k_fold))))
  k_with "call ref" => (k_here; (with_reducible show wpAny _ _ (call (Value.ref 121) _) _ _ _); k_dflt (refine' Calls.use (piece_spec _ _ _ _ _ (.inr (.inr ⟨rfl, rfl, rfl⟩))) ?k1 ?k2 ?k3 ?k4 ?k5 ?kK ?kd ?ku ?_ ?_); (case k1 => k_asm); (case k2 => k_asm); (case k3 => k_asm); (case k4 => k_asm); (case k5 => k_asm); (case kK => first | exact rfl | assumption); (case kd => ktr_room); (case ku => ktr_units); (all_goals first | (intro C' g' e' h' tk' hx' FG' R' U'; first | exact hx'.elim | ((with_reducible have ck' := RaisedM.sub R' (fun _ hp => hp)); clear ck'; (try dsimp only at R' U'))) | (intro r' n' h' tk' hR' F' N'; (try k_sweep); (obtain ⟨x', dx', h1', h2', h3', k1', k2', k3', rfl, lx', ly', rfl⟩ := hR'); (try dsimp only); (try k_fold))))
  k_with "call ref" => (k_here; (with_reducible show wpAny _ _ (call (Value.ref 160) _) _ _ _); k_dflt (refine' Calls.use (read_piece_spec _ _ _ _ _ _ ?p1 ?p2 ?p3) ?k1 ?k2 ?k3 ?k4 ?k5 ?kK ?kd ?ku ?_ ?_); (case k1 => k_asm); (case k2 => k_asm); (case k3 => k_asm); (case k4 => k_asm); (case k5 => k_asm); (case kK => first | exact rfl | assumption); (case kd => ktr_room); (case ku => ktr_units); (case p1 => assumption); (case p2 => assumption); (case p3 => first | assumption | omega); (all_goals first | (intro C' g' e' h' tk' hx' FG' R' U'; first | exact hx'.elim | ((with_reducible have ck' := RaisedM.sub R' (fun _ hp => hp)); clear ck'; (try dsimp only at R' U'))) | (intro r' n' h' tk' hR' F' N'; (try k_sweep); (obtain ⟨D', x', dx', t1', tc', tp', td', k1', k2', k3', h1', h2', h3', k', j', pb', db', e0, e1, rfl, rfl⟩ := hR'); (try dsimp only); (try k_fold))))
  k_with "call ref" => (k_here; (with_reducible show wpAny _ _ (call (Value.ref 89) _) _ _ _); k_dflt (refine' Calls.use (word_spec _ _ _ ?p1 ?p2) ?k1 ?k2 ?k3 ?k4 ?k5 ?kK ?kd ?ku ?_ ?_); (case k1 => k_asm); (case k2 => k_asm); (case k3 => k_asm); (case k4 => k_asm); (case k5 => k_asm); (case kK => first | exact rfl | assumption); (case kd => ktr_room); (case ku => ktr_units); (case p1 => omega); (case p2 => omega); (all_goals first | (intro C' g' e' h' tk' hx' FG' R' U'; first | exact hx'.elim | ((with_reducible have ck' := RaisedM.sub R' (fun _ hp => hp)); clear ck'; (try dsimp only at R' U'))) | (intro r' n' h' tk' hR' F' N'; (try k_sweep); (obtain ⟨⟨wb', wt', ew', rfl⟩, rfl⟩ := hR'); (try dsimp only); (try k_fold))))
  k_with "call ref" => (k_here; (with_reducible show wpAny _ _ (call (Value.ref 174) _) _ _ _); k_dflt (refine' Calls.use (write_piece_spec _ _ _ ?p1 ?p2 ?p3 ?p4 ?p5) ?k1 ?k2 ?k3 ?k4 ?k5 ?kK ?kd ?ku ?_ ?_); (case k1 => k_asm); (case k2 => k_asm); (case k3 => k_asm); (case k4 => k_asm); (case k5 => k_asm); (case kK => first | exact rfl | assumption); (case kd => ktr_room); (case ku => ktr_units); (case p1 => exact PieceIn.mono (by assumption) (by k_sub)); (case p2 => (first | exact hri.1 | omega)); (case p3 => (first | exact hri.2.1 | omega)); (case p4 => (first | exact hri.2.2.1 | omega)); (case p5 => (first | exact hri.2.2.2 | omega)); (all_goals first | (intro C' g' e' h' tk' hx' FG' R' U'; first | exact hx'.elim | ((with_reducible have ck' := RaisedM.sub R' (fun _ hp => hp)); clear ck'; (try dsimp only at R' U'))) | (intro r' n' h' tk' hR' F' N'; (try k_sweep); (obtain ⟨⟨wb', wt', ew', rfl⟩, rfl⟩ := hR'); (try dsimp only); (try k_fold))))
  intro dp un gd cn cs a ccd cl outer A₀ base h₀ L m s p loose mean mg mb Q E hB hF hX hN hT hk hd hu hret hex
  refine wpAny_call ?_
  k_dflt cell_enter
  k_with "getMethod bytes" => (k_here; (with_reducible refine join_method ?_))
  k_with "eval ListComp" => refine Stop.out ?_
  k_with "Exists" => refine Stop.out ?_
  k_steps
  refine Stop.mk ?_
  rename Fr _ _ _ _ => F7
  rename News _ _ _ _ => N7
  refine comp_first (base := base) F7 (by rfl) (by rfl) (by rfl) (by decide) (by rfl) (by decide) (by rfl) ?_
  k_steps
  refine Stop.mk ⟨l, v, [], cap, _, rfl, rfl, F7, N7, .head _, ?_⟩
  clear F7 N7
  intro I oI C oC D m₂ h9 tk9 E' hC hx F9 N9 hE9
  k_steps
  refine hE9 _ _ _ _ _ (by assumption) R' U' fun h8 tk8 H8 U8 => ?_
  k_with "leaving ref" => (k_here; k_dflt (refine' leave_heldR ?k1 ?k2 ?k3 ?k4 ?_; (case k3 => assumption); (case k1 => assumption); (case k4 => assumption); (case k2 => assumption); intro h' R' U'; (try dsimp only at R' U' ⊢)))
  k_steps
  (refine' hex _ _ _ _ _ ?hx ?hF ?hR ?hU; (case hR => first | assumption | exact RaisedM.sub (by assumption) (fun p hp => by simp [hp])); (case hF => assumption); (case hU => assumption); (case hx => exact hx'.1))

/-- the pair of numbers that draws come from -/
abbrev srcObj (a b : Int) (ta tb : Tok) (n : Nat) : Obj := listOf #[.int a ta, .int b tb] n
theorem fm_in (x : Int) {c : Int} (hc : 1 ≤ c) : 0 ≤ x.fmod c ∧ x.fmod c < c := by
  rw [Int.fmod_eq_emod_of_nonneg _ (Int.le_trans (by decide) hc)]
  exact ⟨Int.emod_nonneg _ (Int.ne_of_gt hc), Int.emod_lt_of_pos _ hc⟩
theorem fd_nonneg {x c : Int} (hx : 0 ≤ x) (hc : 1 ≤ c) : 0 ≤ x.fdiv c := by
  have h0 : 0 ≤ c := Int.le_trans (by decide) hc
  rw [Int.fdiv_eq_ediv_of_nonneg _ h0]; exact Int.ediv_nonneg hx h0
theorem take_mod (x : Int) : 0 ≤ (x * 39373 + 7).fmod 2147483647 ∧ (x * 39373 + 7).fmod 2147483647 < 2147483647 := by
  rw [Int.fmod_eq_emod_of_nonneg _ (by decide)]
  exact ⟨Int.emod_nonneg _ (by decide), Int.emod_lt_of_pos _ (by decide)⟩
theorem take_mul (x : Int) : IntMulOk ((x * 39373 + 7).fmod 2147483647) ((x * 39373 + 7).fmod 2147483647) := by
  have h := take_mod x
  generalize (x * 39373 + 7).fmod 2147483647 = y at h
  mul_fits
set_option maxHeartbeats 2000000 in
theorem take_at {prog : Program} {w : World} (news : List (Addr × Obj)) (sa : Addr) (x0 x1 : Int) (ta tb : Tok) (n : Nat) (c : Int) (t : Tok) (hs : ∀ p ∈ news, p.1 ≠ sa) (ha : 0 ≤ x0) (hb0 : 0 ≤ x1) (hb1 : x1 < 2147483647) (hc0 : 1 ≤ c) (hc1 : c ≤ 1000001) :
    Calls prog w 2 193 [.ref sa, .int c t] ((sa, srcObj x0 x1 ta tb n) :: news) (fun r n' => ∃ (v : Int) (tk : Tok) (a' b' : Int) (ta' tb' : Tok), 0 ≤ v ∧ v < c ∧ 0 ≤ a' ∧ 0 ≤ b' ∧ b' < 2147483647 ∧ r = .int v tk ∧ n' = (sa, srcObj a' b' ta' tb' n) :: news) (fun _ => False) := by
  k_with_none
  k_with "exec Raise some none" => (k_here; (with_reducible show wpAny _ _ (exec (Stmt.Raise (some (PySem.Expr.Call (PySem.Expr.Name ("CutError" : Str) _) _ _ _)) none _) _) _ _ _); k_dflt (refine raise68 rfl ?_))
  k_with "exec Raise some none" => (k_here; (with_reducible show wpAny _ _ (exec (Stmt.Raise (some (PySem.Expr.Call (PySem.Expr.Name ("MarkerError" : Str) _) _ _ _)) none _) _) _ _ _); k_dflt (refine raise44 rfl ?_))
  k_with "exec Raise some none" => (k_here; (with_reducible show wpAny _ _ (exec (Stmt.Raise (some (PySem.Expr.Call (PySem.Expr.Name ("SegmentError" : Str) _) _ _ _)) none _) _) _ _ _); k_dflt (refine raise56 rfl ?_))
  k_with "call ref" => (k_here; (with_reducible show wpAny _ _ (call (Value.ref _) [Value.str _ _]) (RaiseAt _ _ _) _ _); k_dflt (first | refine' exc_call (exc68 _) ?k1 ?k2 ?k3 ?k4 ?k5 ?kA ?kF ?kK ?kd ?_ | refine' exc_call (exc44 _) ?k1 ?k2 ?k3 ?k4 ?k5 ?kA ?kF ?kK ?kd ?_ | refine' exc_call (exc56 _) ?k1 ?k2 ?k3 ?k4 ?k5 ?kA ?kF ?kK ?kd ?_); (case k1 => k_asm); (case k2 => k_asm); (case k3 => k_asm); (case k4 => k_asm); (case k5 => k_asm); (case kA => exact rfl); (case kF => exact rfl); (case kK => first | exact rfl | assumption); (case kd => ktr_room); intro e' t' dx' h' tk' F' N' D'; refine ⟨_, _, _, rfl, Frag.In.keeps (by k_asm) (Fr.keep F'), News.get N' (.head _), ?_⟩; (try k_sweep))
  k_with "leaving ref" => (k_here; k_dflt (first | (refine' leave_raiseM ?k1 ?k2 ?k3 ?k4 ?_; (case k3 => assumption); (case k1 => assumption); (case k2 => assumption); (case k4 => assumption); intro h' R' U'; (try dsimp only at R' U' ⊢)) | (refine' leave_onM ?k1 ?k2 ?k3 ?k4 ?_; (case k3 => assumption); (case k1 => assumption); (case k4 => assumption); (case k2 => assumption); intro h' R' U'; (try dsimp only at R' U' ⊢))))
  k_with "call type:bytes" => (k_here; (with_reducible show wpAny _ _ (call (Value.type "bytes") [Value.bytes _ _]) _ _ _); k_dflt (refine bytes_again ?_); intro _)
  k_with "call type:bytes" => (k_here; (with_reducible show wpAny _ _ (call (Value.type "bytes") [Value.int _ _]) _ _ _); k_dflt (refine bytes_zeros (by omega) (by omega) ?_); intro _ _)
  k_with "call ref" => (k_here; (with_reducible show wpAny _ _ (call (Value.ref 96) _) _ _ _); k_dflt (refine' Calls.use (is_restart_spec _ _ _) ?k1 ?k2 ?k3 ?k4 ?k5 ?kK ?kd ?ku ?_ ?_); (case k1 => k_asm); (case k2 => k_asm); (case k3 => k_asm); (case k4 => k_asm); (case k5 => k_asm); (case kK => first | exact rfl | assumption); (case kd => ktr_room); (case ku => ktr_units); (all_goals first | (intro C' g' e' h' tk' hx' FG' R' U'; first | exact hx'.elim | ((with_reducible have ck' := RaisedM.sub R' (fun _ hp => hp)); clear ck'; (try dsimp only at R' U'))) | (intro r' n' h' tk' hR' F' N'; (try k_sweep); (obtain ⟨rfl, rfl⟩ := hR'); (try dsimp only); (try k_fold))))
  k_with "call ref" => (k_here; (with_reducible show wpAny _ _ (call (Value.ref 103) _) _ _ _); k_dflt (refine' Calls.use (has_length_spec _ _ _) ?k1 ?k2 ?k3 ?k4 ?k5 ?kK ?kd ?ku ?_ ?_); (case k1 => k_asm); (case k2 => k_asm); (case k3 => k_asm); (case k4 => k_asm); (case k5 => k_asm); (case kK => first | exact rfl | assumption); (case kd => ktr_room); (case ku => ktr_units); (all_goals first | (intro C' g' e' h' tk' hx' FG' R' U'; first | exact hx'.elim | ((with_reducible have ck' := RaisedM.sub R' (fun _ hp => hp)); clear ck'; (try dsimp only at R' U'))) | (intro r' n' h' tk' hR' F' N'; (try k_sweep); (obtain ⟨rfl, rfl⟩ := hR'); (try dsimp only); (try k_fold))))
  k_with "call ref" => (k_here; (with_reducible show wpAny _ _ (call (Value.ref 132) _) _ _ _); k_dflt (refine' Calls.use (next_marker_spec _ _ _ _ _ _ ?p1 ?p2 ?p3) ?k1 ?k2 ?k3 ?k4 ?k5 ?kK ?kd ?ku ?_ ?_); (case k1 => k_asm); (case k2 => k_asm); (case k3 => k_asm); (case k4 => k_asm); (case k5 => k_asm); (case kK => first | exact rfl | assumption); (case kd => ktr_room); (case ku => ktr_units); (case p1 => assumption); (case p2 => assumption); (case p3 => first | assumption | omega); (all_goals first | (intro C' g' e' h' tk' hx' FG' R' U'; first | exact hx'.elim | ((with_reducible have ck' := RaisedM.sub R' (fun _ hp => hp)); clear ck'; (try dsimp only at R' U'))) | (intro r' n' h' tk' hR' F' N'; (try k_sweep); (obtain ⟨fd', e0, rfl, rfl⟩ := hR'); (try dsimp only); (try k_fold))))
  k_with "KswEnd" => (k_here; (rename Fr _ _ _ _ => F9); (rename News _ _ _ _ => N9); k_dflt (refine' ksw_end ⟨_, _⟩ F9 N9 ?ka ?kb ?kc ?kz ?kp ?km); (case ka => first | exact fun _ hp => hp | exact fun _ hp => .tail _ hp | kst_in); (case kb => kst_facts); (case kc => kst_all); (case kz => (intro z h2 h3; have h9 := h2 _ (.head _); first | (dsimp only at h9 ⊢; simp only [if_neg h9, List.contains_nil, Bool.false_eq_true, if_false]; first | done | rfl | (simp only [kstB, List.contains_nil, Bool.false_eq_true, if_false]; first | done | rfl)) | ksw_same)); (case kp => kst_p); (case km => ksw_less))
  k_with "call ref" => (k_here; (with_reducible show wpAny _ _ (call (Value.ref 139) _) _ _ _); k_dflt (refine' Calls.use (data_end_spec _ _ _ _ _ _ ?p1 ?p2 ?p3) ?k1 ?k2 ?k3 ?k4 ?k5 ?kK ?kd ?ku ?_ ?_); (case k1 => k_asm); (case k2 => k_asm); (case k3 => k_asm); (case k4 => k_asm); (case k5 => k_asm); (case kK => first | exact rfl | assumption); (case kd => ktr_room); (case ku => ktr_units); (case p1 => assumption); (case p2 => assumption); (case p3 => first | assumption | omega); (all_goals first | (intro C' g' e' h' tk' hx' FG' R' U'; first | exact hx'.elim | ((with_reducible have ck' := RaisedM.sub R' (fun _ hp => hp)); clear ck'; (try dsimp only at R' U'))) | (intro r' n' h' tk' hR' F' N'; (try k_sweep); (obtain ⟨pe', tk9, e0, rfl, rfl⟩ := hR'); (try dsimp only); (try k_fold))))
  k_with "call ref" => (k_here; (with_reducible show wpAny _ _ (call (Value.ref 146) _) _ _ _); k_dflt (refine' Calls.use (read_code_spec _ _ _ _ _ _ ?p1 ?p2 ?p3) ?k1 ?k2 ?k3 ?k4 ?k5 ?kK ?kd ?ku ?_ ?_); (case k1 => k_asm); (case k2 => k_asm); (case k3 => k_asm); (case k4 => k_asm); (case k5 => k_asm); (case kK => first | exact rfl | assumption); (case kd => ktr_room); (case ku => ktr_units); (case p1 => assumption); (case p2 => assumption); (case p3 => first | assumption | omega); (all_goals first | (intro C' g' e' h' tk' hx' FG' R' U'; first | exact hx'.elim | ((with_reducible have ck' := RaisedM.sub R' (fun _ hp => hp)); clear ck'; (try dsimp only at R' U'))) | (intro r' n' h' tk' hR' F' N'; (try k_sweep); (obtain ⟨k', j', D', t1', t2', e0, e1, rfl, rfl⟩ := hR'); (try dsimp only); (try k_fold))))
  k_with "call ref" => (k_here; (with_reducible show wpAny _ _ (call (Value.ref 153) _) _ _ _); k_dflt (refine' Calls.use (read_payload_spec _ _ _ _ _ _ ?p1 ?p2 ?p3) ?k1 ?k2 ?k3 ?k4 ?k5 ?kK ?kd ?ku ?_ ?_); (case k1 => k_asm); (case k2 => k_asm); (case k3 => k_asm); (case k4 => k_asm); (case k5 => k_asm); (case kK => first | exact rfl | assumption); (case kd => ktr_room); (case ku => ktr_units); (case p1 => assumption); (case p2 => assumption); (case p3 => first | assumption | omega); (all_goals first | (intro C' g' e' h' tk' hx' FG' R' U'; first | exact hx'.elim | ((with_reducible have ck' := RaisedM.sub R' (fun _ hp => hp)); clear ck'; (try dsimp only at R' U'))) | (intro r' n' h' tk' hR' F' N'; (try k_sweep); (obtain ⟨pl', j', D', b', t1', t2', e0, e1, rfl, rfl, e2⟩ := hR'); (try dsimp only); (try k_fold))))
  k_with "call ref" => (k_here; (with_reducible show wpAny _ _ (call (Value.ref 121) _) _ _ _); k_dflt (refine' Calls.use (piece_spec _ _ _ _ _ (.inl rfl)) ?k1 ?k2 ?k3 ?k4 ?k5 ?kK ?kd ?ku ?_ ?_); (case k1 => k_asm); (case k2 => k_asm); (case k3 => k_asm); (case k4 => k_asm); (case k5 => k_asm); (case kK => first | exact rfl | assumption); (case kd => ktr_room); (case ku => ktr_units); (all_goals first | (intro C' g' e' h' tk' hx' FG' R' U'; first | exact hx'.elim | ((with_reducible have ck' := RaisedM.sub R' (fun _ hp => hp)); clear ck'; (try dsimp only at R' U'))) | (intro r' n' h' tk' hR' F' N'; (try k_sweep); (obtain ⟨x', dx', h1', h2', h3', k1', k2', k3', rfl, lx', ly', rfl⟩ := hR'); (try dsimp only); (try k_fold))))
  k_with "call ref" => (k_here; (with_reducible show wpAny _ _ (call (Value.ref 121) _) _ _ _); k_dflt (refine' Calls.use (piece_spec _ _ _ _ _ (.inr (.inl ⟨rfl, rfl⟩))) ?k1 ?k2 ?k3 ?k4 ?k5 ?kK ?kd ?ku ?_ ?_); (case k1 => k_asm); (case k2 => k_asm); (case k3 => k_asm); (case k4 => k_asm); (case k5 => k_asm); (case kK => first | exact rfl | assumption); (case kd => ktr_room); (case ku => ktr_units); (all_goals first | (intro C' g' e' h' tk' hx' FG' R' U'; first | exact hx'.elim | ((with_reducible have ck' := RaisedM.sub R' (fun _ hp => hp)); clear ck'; (try dsimp only at R' U'))) | (intro r' n' h' tk' hR' F' N'; (try k_sweep); (obtain ⟨x', dx', h1', h2', h3', k1', k2', k3', rfl, lx', ly', rfl⟩ := hR'); (try dsimp only); (try k_fold))))
  k_with "call ref" => (k_here; (with_reducible show wpAny _ _ (call (Value.ref 121) _) _ _ _); k_dflt (refine' Calls.use (piece_spec _ _ _ _ _ (.inr (.inr ⟨rfl, rfl, rfl⟩))) ?k1 ?k2 ?k3 ?k4 ?k5 ?kK ?kd ?ku ?_ ?_); (case k1 => k_asm); (case k2 => k_asm); (case k3 => k_asm); (case k4 => k_asm); (case k5 => k_asm); (case kK => first | exact rfl | assumption); (case kd => ktr_room); (case ku => ktr_units); (all_goals first | (intro C' g' e' h' tk' hx' FG' R' U'; first | exact hx'.elim | ((with_reducible have ck' := RaisedM.sub R' (fun _ hp => hp)); clear ck'; (try dsimp only at R' U'))) | (intro r' n' h' tk' hR' F' N'; (try k_sweep); (obtain ⟨x', dx', h1', h2', h3', k1', k2', k3', rfl, lx', ly', rfl⟩ := hR'); (try dsimp only); (try k_fold))))
  k_with "call ref" => (k_here; (with_reducible show wpAny _ _ (call (Value.ref 160) _) _ _ _); k_dflt (refine' Calls.use (read_piece_spec _ _ _ _ _ _ ?p1 ?p2 ?p3) ?k1 ?k2 ?k3 ?k4 ?k5 ?kK ?kd ?ku ?_ ?_); (case k1 => k_asm); (case k2 => k_asm); (case k3 => k_asm); (case k4 => k_asm); (case k5 => k_asm); (case kK => first | exact rfl | assumption); (case kd => ktr_room); (case ku => ktr_units); (case p1 => assumption); (case p2 => assumption); (case p3 => first | assumption | omega); (all_goals first | (intro C' g' e' h' tk' hx' FG' R' U'; first | exact hx'.elim | ((with_reducible have ck' := RaisedM.sub R' (fun _ hp => hp)); clear ck'; (try dsimp only at R' U'))) | (intro r' n' h' tk' hR' F' N'; (try k_sweep); (obtain ⟨D', x', dx', t1', tc', tp', td', k1', k2', k3', h1', h2', h3', k', j', pb', db', e0, e1, rfl, rfl⟩ := hR'); (try dsimp only); (try k_fold))))
  k_with "call ref" => (k_here; (with_reducible show wpAny _ _ (call (Value.ref 89) _) _ _ _); k_dflt (refine' Calls.use (word_spec _ _ _ ?p1 ?p2) ?k1 ?k2 ?k3 ?k4 ?k5 ?kK ?kd ?ku ?_ ?_); (case k1 => k_asm); (case k2 => k_asm); (case k3 => k_asm); (case k4 => k_asm); (case k5 => k_asm); (case kK => first | exact rfl | assumption); (case kd => ktr_room); (case ku => ktr_units); (case p1 => omega); (case p2 => omega); (all_goals first | (intro C' g' e' h' tk' hx' FG' R' U'; first | exact hx'.elim | ((with_reducible have ck' := RaisedM.sub R' (fun _ hp => hp)); clear ck'; (try dsimp only at R' U'))) | (intro r' n' h' tk' hR' F' N'; (try k_sweep); (obtain ⟨⟨wb', wt', ew', rfl⟩, rfl⟩ := hR'); (try dsimp only); (try k_fold))))
  k_with "call ref" => (k_here; (with_reducible show wpAny _ _ (call (Value.ref 174) _) _ _ _); k_dflt (refine' Calls.use (write_piece_spec _ _ _ ?p1 ?p2 ?p3 ?p4 ?p5) ?k1 ?k2 ?k3 ?k4 ?k5 ?kK ?kd ?ku ?_ ?_); (case k1 => k_asm); (case k2 => k_asm); (case k3 => k_asm); (case k4 => k_asm); (case k5 => k_asm); (case kK => first | exact rfl | assumption); (case kd => ktr_room); (case ku => ktr_units); (case p1 => exact PieceIn.mono (by assumption) (by k_sub)); (case p2 => (first | exact hri.1 | omega)); (case p3 => (first | exact hri.2.1 | omega)); (case p4 => (first | exact hri.2.2.1 | omega)); (case p5 => (first | exact hri.2.2.2 | omega)); (all_goals first | (intro C' g' e' h' tk' hx' FG' R' U'; first | exact hx'.elim | ((with_reducible have ck' := RaisedM.sub R' (fun _ hp => hp)); clear ck'; (try dsimp only at R' U'))) | (intro r' n' h' tk' hR' F' N'; (try k_sweep); (obtain ⟨⟨wb', wt', ew', rfl⟩, rfl⟩ := hR'); (try dsimp only); (try k_fold))))
  intro dp un gd cn cs a ccd cl outer A₀ base h₀ L m s p loose mean mg mb Q E hB hF hX hN hT hk hd hu hret hex
  refine wpAny_call ?_
  k_dflt cell_enter
  k_with "binaryOp Mult int int" => (k_here; (refine mul_int ?_ (take_mul _)))
  k_with "setItem ref int" => (k_here; k_dflt (refine' ki_set ?F ?N ?a ?b ?e ?U ?_; (case F => k_asm); (case N => k_asm); (case U => exact Upd.head hs); (case a => decide); (case b => decide); (case e => rfl)); intro h' F' N'; (try dsimp only [List.nil_append, List.cons_append] at N'))
  k_steps
  · (refine' hret _ _ _ _ (⟨x0.fmod c, _, x0.fdiv c, x1, _, _, (fm_in x0 hc0).1, (fm_in x0 hc0).2, fd_nonneg ha hc0, hb0, hb1, rfl, rfl⟩) ?hF ?hN; (case hN => assumption); (case hF => assumption))
  · (refine' hret _ _ _ _ (⟨_, _, x0, _, _, _, (fm_in _ hc0).1, (fm_in _ hc0).2, ha, (take_mod x1).1, (take_mod x1).2, rfl, rfl⟩) ?hF ?hN; (case hN => assumption); (case hF => assumption))
theorem take_spec {prog : Program} {w : World} {news : List (Addr × Obj)} {sa : Addr} {x0 x1 : Int} {ta tb : Tok} {n : Nat} {g : Obj → List (Addr × Obj)} (c : Int) (t : Tok) (U : UpdF sa (srcObj x0 x1 ta tb n) news g) (ha : 0 ≤ x0) (hb0 : 0 ≤ x1) (hb1 : x1 < 2147483647) (hc0 : 1 ≤ c) (hc1 : c ≤ 1000001) :
    Calls prog w 2 193 [.ref sa, .int c t] news (fun r n' => ∃ (v : Int) (tk : Tok) (a' b' : Int) (ta' tb' : Tok), 0 ≤ v ∧ v < c ∧ 0 ≤ a' ∧ 0 ≤ b' ∧ b' < 2147483647 ∧ r = .int v tk ∧ n' = g (srcObj a' b' ta' tb' n)) (fun _ => False) := by
  obtain ⟨pre, post, rfl, hg, h1, h2⟩ := U.split
  intro dp un gd cn cs a ccd cl outer A₀ base h₀ L m s p loose mean mg mb Q E hB hF hX' hN hT hk hd' hu hret hex
  refine take_at (pre ++ post) sa x0 x1 ta tb n c t (fun p hp => (List.mem_append.mp hp).elim (h1 p) (h2 p)) ha hb0 hb1 hc0 hc1 _ _ _ _ _ _ _ _ _ _ _ _ _ _ _ _ _ _ _ _ _ _ hB hF hX' (fun p hp => hN p ?_) hT hk hd' hu (fun r n h' tk' hr F' N' => ?_) (fun C g e h' tk' x => x.elim)
  · rcases List.mem_cons.mp hp with rfl | hp
    · exact List.mem_append_right _ (.head _)
    · exact (List.mem_append.mp hp).elim (List.mem_append_left _) fun hp => List.mem_append_right _ (.tail _ hp)
  · obtain ⟨v, tk, a', b', ta', tb', q1, q2, q3, q4, q5, rfl, rfl⟩ := hr
    refine hret _ _ h' tk' ⟨v, tk, a', b', ta', tb', q1, q2, q3, q4, q5, rfl, rfl⟩ F' (fun p hp => N' p ?_)
    rw [hg] at hp
    rcases List.mem_append.mp hp with hp | hp
    · exact .tail _ (List.mem_append_left _ hp)
    · rcases List.mem_cons.mp hp with rfl | hp
      · exact .head _
      · exact .tail _ (List.mem_append_right _ hp)

/-- a contract over a ledger with the pair in front is one with it anywhere -/
theorem Calls.upd {prog : Program} {w : World} {d f : Nat} {args : List Value} {sa : Addr} {o : Obj} {news : List (Addr × Obj)} {g : Obj → List (Addr × Obj)} {S : Value → Obj → List (Addr × Obj) → Prop} (U : UpdF sa o news g)
    (c : ∀ rest, (∀ p ∈ rest, p.1 ≠ sa) → Calls prog w d f args ((sa, o) :: rest) (fun r n' => ∃ o' tl, S r o' tl ∧ n' = tl ++ (sa, o') :: rest) (fun _ => False)) :
    Calls prog w d f args news (fun r n' => ∃ o' tl, S r o' tl ∧ n' = tl ++ g o') (fun _ => False) := by
  obtain ⟨pre, post, rfl, hg, h1, h2⟩ := U.split
  intro dp un gd cn cs a ccd cl outer A₀ base h₀ L m s p loose mean mg mb Q E hB hF hX' hN hT hk hd' hu hret hex
  refine c (pre ++ post) (fun p hp => (List.mem_append.mp hp).elim (h1 p) (h2 p)) _ _ _ _ _ _ _ _ _ _ _ _ _ _ _ _ _ _ _ _ _ _ hB hF hX' (fun p hp => hN p ?_) hT hk hd' hu (fun r n h' tk' hr F' N' => ?_) (fun C g e h' tk' x => x.elim)
  · rcases List.mem_cons.mp hp with rfl | hp
    · exact List.mem_append_right _ (.head _)
    · exact (List.mem_append.mp hp).elim (List.mem_append_left _) fun hp => List.mem_append_right _ (.tail _ hp)
  · obtain ⟨o', tl, hs, rfl⟩ := hr
    refine hret _ _ h' tk' ⟨o', tl, hs, rfl⟩ F' (fun p hp => N' p ?_)
    rw [hg] at hp
    rcases List.mem_append.mp hp with hp | hp
    · exact List.mem_append_left _ hp
    refine List.mem_append_right _ ?_
    rcases List.mem_append.mp hp with hp | hp
    · exact .tail _ (List.mem_append_left _ hp)
    · rcases List.mem_cons.mp hp with rfl | hp
      · exact .head _
      · exact .tail _ (List.mem_append_right _ hp)
/-- data: 255 stands ahead of 0, 208 or 215 alone -/
inductive Stuffed : List Int → Prop
  | nil : Stuffed []
  | one {x : Int} {d : List Int} : x ≠ 255 → Stuffed d → Stuffed (x :: d)
  | two {y : Int} {d : List Int} : (y = 0 ∨ y = 208 ∨ y = 215) → Stuffed d → Stuffed (255 :: y :: d)
theorem Stuffed.append {d e : List Int} (h : Stuffed d) (k : Stuffed e) : Stuffed (d ++ e) := by
  induction h with
  | nil => exact k
  | one hx _ ih => exact .one hx ih
  | two hy _ ih => exact .two hy ih
theorem Stuffed.mk1 {x : Int} (h : x ≠ 255) : Stuffed [x] := .one h .nil
theorem Stuffed.mk2 {y : Int} (h : y = 0 ∨ y = 208 ∨ y = 215) : Stuffed [255, y] := .two h .nil
/-- the six pieces that data is made of -/
theorem chunk_ok : ∀ b ∈ [#[(0 : UInt8)], #[17], #[255, 0], #[255, 208], #[255, 215], #[217]], Stuffed (KBw.bInts b) ∧ (KBw.bInts b).length ≤ 2 := by
  refine List.forall_mem_cons.mpr ⟨⟨Stuffed.mk1 (by decide), by decide⟩, List.forall_mem_cons.mpr ⟨⟨Stuffed.mk1 (by decide), by decide⟩, List.forall_mem_cons.mpr ⟨⟨Stuffed.mk2 (.inl rfl), by decide⟩,
    List.forall_mem_cons.mpr ⟨⟨Stuffed.mk2 (.inr (.inl rfl)), by decide⟩, List.forall_mem_cons.mpr ⟨⟨Stuffed.mk2 (.inr (.inr rfl)), by decide⟩, List.forall_mem_cons.mpr ⟨⟨Stuffed.mk1 (by decide), by decide⟩, List.forall_mem_nil _⟩⟩⟩⟩⟩⟩
/-- a place of a list of bytes -/
theorem menu_bytes {prog : Program} {w : World} {A : Around} {E : Value → Shared → Prop} {s : Shared} {value slice : PySem.Expr} {l : Addr} {vs : List Value} {bs : List (Array UInt8)} {k : Int} {u : Tok} {Q : Value → Shared → Prop} (hl : s.heap.IsList l vs.toArray) (hb : BytesAre vs bs)
    (h0 : 0 ≤ k) (h1 : k < bs.length) (hfit : k < 1000000) (h : ∀ b t, b ∈ bs → Q (.bytes b t) s)
    (hs : subscripted slice false (.ref l) (.int k u) = operate [.ref l, .int k u] (getItem (.ref l) (.int k u)) := by with_unfolding_all rfl) :
    wpAny (model prog w) A (subscriptTail value slice (.ref l) (.int k u)) Q E s := by
  have hlt : k.toNat < bs.length := by omega
  obtain ⟨t, ht⟩ := hb.get hlt
  refine tail_any hl.typeIs slot_list_getitem.lookup (wpAny_getItem_list hl h0 (Int.lt_of_lt_of_le hfit (by decide)) (x := .bytes (bs.getD k.toNat #[]) t) (by rw [List.getElem?_toArray]; exact ht) (h _ _ ?_)) hs
  rw [List.getD_eq_getElem?_getD, List.getElem?_eq_getElem hlt]
  exact List.getElem_mem hlt
/-- a place of a list of numbers -/
theorem menu_ints {prog : Program} {w : World} {A : Around} {E : Value → Shared → Prop} {s : Shared} {value slice : PySem.Expr} {l : Addr} {vs : List Value} {ns : List Int} {k : Int} {u : Tok} {Q : Value → Shared → Prop} (hl : s.heap.IsList l vs.toArray) (hi : IntsAre vs ns)
    (h0 : 0 ≤ k) (h1 : k < ns.length) (hfit : k < 1000000) (h : ∀ n t, n ∈ ns → Q (.int n t) s)
    (hs : subscripted slice false (.ref l) (.int k u) = operate [.ref l, .int k u] (getItem (.ref l) (.int k u)) := by with_unfolding_all rfl) :
    wpAny (model prog w) A (subscriptTail value slice (.ref l) (.int k u)) Q E s := by
  have hlt : k.toNat < ns.length := by omega
  refine item_anyK hl hi h0 h1 (Int.lt_of_lt_of_le hfit (by decide)) (fun t => h _ _ ?_) hs
  rw [List.getD_eq_getElem?_getD, List.getElem?_eq_getElem hlt]
  exact List.getElem_mem hlt
theorem kdn_mem {o : Addr × Obj} {news tl own : List (Addr × Obj)} : ∀ p ∈ [o] ++ (news ++ ([] ++ tl)), p ∈ o :: (news ++ (tl ++ own)) := by
  intro p hp
  have hp : p ∈ o :: (news ++ tl) := hp
  rcases List.mem_cons.mp hp with rfl | hp
  · exact .head _
  rcases List.mem_append.mp hp with hp | hp
  · exact .tail _ (List.mem_append_left _ hp)
  · exact .tail _ (List.mem_append_right _ (List.mem_append_left _ hp))
theorem kdo_mem {o : Addr × Obj} {news tl own : List (Addr × Obj)} : ∀ p ∈ own, p ∈ o :: (news ++ (tl ++ own)) :=
  fun _ hp => .tail _ (List.mem_append_right _ (List.mem_append_right _ hp))
theorem off_all {news own tl : List (Addr × Obj)} {sa : Addr} (hs : ∀ p ∈ news, p.1 ≠ sa) (h : OwnOff (tl ++ own) (sa :: news.map (·.1))) : ∀ p ∈ news ++ (tl ++ own), p.1 ≠ sa :=
  fun p hp => (List.mem_append.mp hp).elim (hs p) fun hp => h p hp _ (.head _)
set_option maxHeartbeats 2000000 in
theorem data_at {prog : Program} {w : World} (news : List (Addr × Obj)) (sa : Addr) (x0 x1 : Int) (ta tb : Tok) (n : Nat) (hs : ∀ p ∈ news, p.1 ≠ sa) (ha : 0 ≤ x0) (hb0 : 0 ≤ x1) (hb1 : x1 < 2147483647) :
    Calls prog w 5 200 [.ref sa] ((sa, srcObj x0 x1 ta tb n) :: news) (fun r n' => ∃ (b : Array UInt8) (tk : Tok) (a' b' : Int) (ta' tb' : Tok), Stuffed (KBw.bInts b) ∧ (KBw.bInts b).length ≤ 6 ∧ 0 ≤ a' ∧ 0 ≤ b' ∧ b' < 2147483647 ∧ r = .bytes b tk ∧ n' = (sa, srcObj a' b' ta' tb' n) :: news) (fun _ => False) := by
  k_with_none
  k_with "exec Raise some none" => (k_here; (with_reducible show wpAny _ _ (exec (Stmt.Raise (some (PySem.Expr.Call (PySem.Expr.Name ("CutError" : Str) _) _ _ _)) none _) _) _ _ _); k_dflt (refine raise68 rfl ?_))
  k_with "exec Raise some none" => (k_here; (with_reducible show wpAny _ _ (exec (Stmt.Raise (some (PySem.Expr.Call (PySem.Expr.Name ("MarkerError" : Str) _) _ _ _)) none _) _) _ _ _); k_dflt (refine raise44 rfl ?_))
  k_with "exec Raise some none" => (k_here; (with_reducible show wpAny _ _ (exec (Stmt.Raise (some (PySem.Expr.Call (PySem.Expr.Name ("SegmentError" : Str) _) _ _ _)) none _) _) _ _ _); k_dflt (refine raise56 rfl ?_))
  k_with "call ref" => (k_here; (with_reducible show wpAny _ _ (call (Value.ref _) [Value.str _ _]) (RaiseAt _ _ _) _ _); k_dflt (first | refine' exc_call (exc68 _) ?k1 ?k2 ?k3 ?k4 ?k5 ?kA ?kF ?kK ?kd ?_ | refine' exc_call (exc44 _) ?k1 ?k2 ?k3 ?k4 ?k5 ?kA ?kF ?kK ?kd ?_ | refine' exc_call (exc56 _) ?k1 ?k2 ?k3 ?k4 ?k5 ?kA ?kF ?kK ?kd ?_); (case k1 => k_asm); (case k2 => k_asm); (case k3 => k_asm); (case k4 => k_asm); (case k5 => k_asm); (case kA => exact rfl); (case kF => exact rfl); (case kK => first | exact rfl | assumption); (case kd => ktr_room); intro e' t' dx' h' tk' F' N' D'; refine ⟨_, _, _, rfl, Frag.In.keeps (by k_asm) (Fr.keep F'), News.get N' (.head _), ?_⟩; (try k_sweep))
  k_with "leaving ref" => (k_here; k_dflt (first | (refine' leave_raiseM ?k1 ?k2 ?k3 ?k4 ?_; (case k3 => assumption); (case k1 => assumption); (case k2 => assumption); (case k4 => assumption); intro h' R' U'; (try dsimp only at R' U' ⊢)) | (refine' leave_onM ?k1 ?k2 ?k3 ?k4 ?_; (case k3 => assumption); (case k1 => assumption); (case k4 => assumption); (case k2 => assumption); intro h' R' U'; (try dsimp only at R' U' ⊢))))
  k_with "call type:bytes" => (k_here; (with_reducible show wpAny _ _ (call (Value.type "bytes") [Value.bytes _ _]) _ _ _); k_dflt (refine bytes_again ?_); intro _)
  k_with "call type:bytes" => (k_here; (with_reducible show wpAny _ _ (call (Value.type "bytes") [Value.int _ _]) _ _ _); k_dflt (refine bytes_zeros (by omega) (by omega) ?_); intro _ _)
  k_with "call ref" => (k_here; (with_reducible show wpAny _ _ (call (Value.ref 96) _) _ _ _); k_dflt (refine' Calls.use (is_restart_spec _ _ _) ?k1 ?k2 ?k3 ?k4 ?k5 ?kK ?kd ?ku ?_ ?_); (case k1 => k_asm); (case k2 => k_asm); (case k3 => k_asm); (case k4 => k_asm); (case k5 => k_asm); (case kK => first | exact rfl | assumption); (case kd => ktr_room); (case ku => ktr_units); (all_goals first | (intro C' g' e' h' tk' hx' FG' R' U'; first | exact hx'.elim | ((with_reducible have ck' := RaisedM.sub R' (fun _ hp => hp)); clear ck'; (try dsimp only at R' U'))) | (intro r' n' h' tk' hR' F' N'; (try k_sweep); (obtain ⟨rfl, rfl⟩ := hR'); (try dsimp only); (try k_fold))))
  k_with "call ref" => (k_here; (with_reducible show wpAny _ _ (call (Value.ref 103) _) _ _ _); k_dflt (refine' Calls.use (has_length_spec _ _ _) ?k1 ?k2 ?k3 ?k4 ?k5 ?kK ?kd ?ku ?_ ?_); (case k1 => k_asm); (case k2 => k_asm); (case k3 => k_asm); (case k4 => k_asm); (case k5 => k_asm); (case kK => first | exact rfl | assumption); (case kd => ktr_room); (case ku => ktr_units); (all_goals first | (intro C' g' e' h' tk' hx' FG' R' U'; first | exact hx'.elim | ((with_reducible have ck' := RaisedM.sub R' (fun _ hp => hp)); clear ck'; (try dsimp only at R' U'))) | (intro r' n' h' tk' hR' F' N'; (try k_sweep); (obtain ⟨rfl, rfl⟩ := hR'); (try dsimp only); (try k_fold))))
  k_with "call ref" => (k_here; (with_reducible show wpAny _ _ (call (Value.ref 132) _) _ _ _); k_dflt (refine' Calls.use (next_marker_spec _ _ _ _ _ _ ?p1 ?p2 ?p3) ?k1 ?k2 ?k3 ?k4 ?k5 ?kK ?kd ?ku ?_ ?_); (case k1 => k_asm); (case k2 => k_asm); (case k3 => k_asm); (case k4 => k_asm); (case k5 => k_asm); (case kK => first | exact rfl | assumption); (case kd => ktr_room); (case ku => ktr_units); (case p1 => assumption); (case p2 => assumption); (case p3 => first | assumption | omega); (all_goals first | (intro C' g' e' h' tk' hx' FG' R' U'; first | exact hx'.elim | ((with_reducible have ck' := RaisedM.sub R' (fun _ hp => hp)); clear ck'; (try dsimp only at R' U'))) | (intro r' n' h' tk' hR' F' N'; (try k_sweep); (obtain ⟨fd', e0, rfl, rfl⟩ := hR'); (try dsimp only); (try k_fold))))
  k_with "KswEnd" => (k_here; (rename Fr _ _ _ _ => F9); (rename News _ _ _ _ => N9); k_dflt (refine' ksw_end ⟨_, _⟩ F9 N9 ?ka ?kb ?kc ?kz ?kp ?km); (case ka => first | exact fun _ hp => hp | exact fun _ hp => .tail _ hp | kst_in); (case kb => kst_facts); (case kc => kst_all); (case kz => (intro z h2 h3; have h9 := h2 _ (.head _); first | (dsimp only at h9 ⊢; simp only [if_neg h9, List.contains_nil, Bool.false_eq_true, if_false]; first | done | rfl | (simp only [kstB, List.contains_nil, Bool.false_eq_true, if_false]; first | done | rfl)) | ksw_same)); (case kp => kst_p); (case km => ksw_less))
  k_with "call ref" => (k_here; (with_reducible show wpAny _ _ (call (Value.ref 139) _) _ _ _); k_dflt (refine' Calls.use (data_end_spec _ _ _ _ _ _ ?p1 ?p2 ?p3) ?k1 ?k2 ?k3 ?k4 ?k5 ?kK ?kd ?ku ?_ ?_); (case k1 => k_asm); (case k2 => k_asm); (case k3 => k_asm); (case k4 => k_asm); (case k5 => k_asm); (case kK => first | exact rfl | assumption); (case kd => ktr_room); (case ku => ktr_units); (case p1 => assumption); (case p2 => assumption); (case p3 => first | assumption | omega); (all_goals first | (intro C' g' e' h' tk' hx' FG' R' U'; first | exact hx'.elim | ((with_reducible have ck' := RaisedM.sub R' (fun _ hp => hp)); clear ck'; (try dsimp only at R' U'))) | (intro r' n' h' tk' hR' F' N'; (try k_sweep); (obtain ⟨pe', tk9, e0, rfl, rfl⟩ := hR'); (try dsimp only); (try k_fold))))
  k_with "call ref" => (k_here; (with_reducible show wpAny _ _ (call (Value.ref 146) _) _ _ _); k_dflt (refine' Calls.use (read_code_spec _ _ _ _ _ _ ?p1 ?p2 ?p3) ?k1 ?k2 ?k3 ?k4 ?k5 ?kK ?kd ?ku ?_ ?_); (case k1 => k_asm); (case k2 => k_asm); (case k3 => k_asm); (case k4 => k_asm); (case k5 => k_asm); (case kK => first | exact rfl | assumption); (case kd => ktr_room); (case ku => ktr_units); (case p1 => assumption); (case p2 => assumption); (case p3 => first | assumption | omega); (all_goals first | (intro C' g' e' h' tk' hx' FG' R' U'; first | exact hx'.elim | ((with_reducible have ck' := RaisedM.sub R' (fun _ hp => hp)); clear ck'; (try dsimp only at R' U'))) | (intro r' n' h' tk' hR' F' N'; (try k_sweep); (obtain ⟨k', j', D', t1', t2', e0, e1, rfl, rfl⟩ := hR'); (try dsimp only); (try k_fold))))
  k_with "call ref" => (k_here; (with_reducible show wpAny _ _ (call (Value.ref 153) _) _ _ _); k_dflt (refine' Calls.use (read_payload_spec _ _ _ _ _ _ ?p1 ?p2 ?p3) ?k1 ?k2 ?k3 ?k4 ?k5 ?kK ?kd ?ku ?_ ?_); (case k1 => k_asm); (case k2 => k_asm); (case k3 => k_asm); (case k4 => k_asm); (case k5 => k_asm); (case kK => first | exact rfl | assumption); (case kd => ktr_room); (case ku => ktr_units); (case p1 => assumption); (case p2 => assumption); (case p3 => first | assumption | omega); (all_goals first | (intro C' g' e' h' tk' hx' FG' R' U'; first | exact hx'.elim | ((with_reducible have ck' := RaisedM.sub R' (fun _ hp => hp)); clear ck'; (try dsimp only at R' U'))) | (intro r' n' h' tk' hR' F' N'; (try k_sweep); (obtain ⟨pl', j', D', b', t1', t2', e0, e1, rfl, rfl, e2⟩ := hR'); (try dsimp only); (try k_fold))))
  k_with "call ref" => (k_here; (with_reducible show wpAny _ _ (call (Value.ref 121) _) _ _ _); k_dflt (refine' Calls.use (piece_spec _ _ _ _ _ (.inl rfl)) ?k1 ?k2 ?k3 ?k4 ?k5 ?kK ?kd ?ku ?_ ?_); (case k1 => k_asm); (case k2 => k_asm); (case k3 => k_asm); (case k4 => k_asm); (case k5 => k_asm); (case kK => first | exact rfl | assumption); (case kd => ktr_room); (case ku => ktr_units); (all_goals first | (intro C' g' e' h' tk' hx' FG' R' U'; first | exact hx'.elim | ((with_reducible have ck' := RaisedM.sub R' (fun _ hp => hp)); clear ck'; (try dsimp only at R' U'))) | (intro r' n' h' tk' hR' F' N'; (try k_sweep); (obtain ⟨x', dx', h1', h2', h3', k1', k2', k3', rfl, lx', ly', rfl⟩ := hR'); (try dsimp only); (try k_fold))))
  k_with "call ref" => (k_here; (with_reducible show wpAny _ _ (call (Value.ref 121) _) _ _ _); k_dflt (refine' Calls.use (piece_spec _ _ _ _ _ (.inr (.inl ⟨rfl, rfl⟩))) ?k1 ?k2 ?k3 ?k4 ?k5 ?kK ?kd ?ku ?_ ?_); (case k1 => k_asm); (case k2 => k_asm); (case k3 => k_asm); (case k4 => k_asm); (case k5 => k_asm); (case kK => first | exact rfl | assumption); (case kd => ktr_room); (case ku => ktr_units); (all_goals first | (intro C' g' e' h' tk' hx' FG' R' U'; first | exact hx'.elim | ((with_reducible have ck' := RaisedM.sub R' (fun _ hp => hp)); clear ck'; (try dsimp only at R' U'))) | (intro r' n' h' tk' hR' F' N'; (try k_sweep); (obtain ⟨x', dx', h1', h2', h3', k1', k2', k3', rfl, lx', ly', rfl⟩ := hR'); (try dsimp only); (try k_fold))))
  k_with "call ref" => (k_here; (with_reducible show wpAny _ _ (call (Value.ref 121) _) _ _ _); k_dflt (refine' Calls.use (piece_spec _ _ _ _ _ (.inr (.inr ⟨rfl, rfl, rfl⟩))) ?k1 ?k2 ?k3 ?k4 ?k5 ?kK ?kd ?ku ?_ ?_); (case k1 => k_asm); (case k2 => k_asm); (case k3 => k_asm); (case k4 => k_asm); (case k5 => k_asm); (case kK => first | exact rfl | assumption); (case kd => ktr_room); (case ku => ktr_units); (all_goals first | (intro C' g' e' h' tk' hx' FG' R' U'; first | exact hx'.elim | ((with_reducible have ck' := RaisedM.sub R' (fun _ hp => hp)); clear ck'; (try dsimp only at R' U'))) | (intro r' n' h' tk' hR' F' N'; (try k_sweep); (obtain ⟨x', dx', h1', h2', h3', k1', k2', k3', rfl, lx', ly', rfl⟩ := hR'); (try dsimp only); (try k_fold))))
  k_with "call ref" => (k_here; (with_reducible show wpAny _ _ (call (Value.ref 160) _) _ _ _); k_dflt (refine' Calls.use (read_piece_spec _ _ _ _ _ _ ?p1 ?p2 ?p3) ?k1 ?k2 ?k3 ?k4 ?k5 ?kK ?kd ?ku ?_ ?_); (case k1 => k_asm); (case k2 => k_asm); (case k3 => k_asm); (case k4 => k_asm); (case k5 => k_asm); (case kK => first | exact rfl | assumption); (case kd => ktr_room); (case ku => ktr_units); (case p1 => assumption); (case p2 => assumption); (case p3 => first | assumption | omega); (all_goals first | (intro C' g' e' h' tk' hx' FG' R' U'; first | exact hx'.elim | ((with_reducible have ck' := RaisedM.sub R' (fun _ hp => hp)); clear ck'; (try dsimp only at R' U'))) | (intro r' n' h' tk' hR' F' N'; (try k_sweep); (obtain ⟨D', x', dx', t1', tc', tp', td', k1', k2', k3', h1', h2', h3', k', j', pb', db', e0, e1, rfl, rfl⟩ := hR'); (try dsimp only); (try k_fold))))
  k_with "call ref" => (k_here; (with_reducible show wpAny _ _ (call (Value.ref 89) _) _ _ _); k_dflt (refine' Calls.use (word_spec _ _ _ ?p1 ?p2) ?k1 ?k2 ?k3 ?k4 ?k5 ?kK ?kd ?ku ?_ ?_); (case k1 => k_asm); (case k2 => k_asm); (case k3 => k_asm); (case k4 => k_asm); (case k5 => k_asm); (case kK => first | exact rfl | assumption); (case kd => ktr_room); (case ku => ktr_units); (case p1 => omega); (case p2 => omega); (all_goals first | (intro C' g' e' h' tk' hx' FG' R' U'; first | exact hx'.elim | ((with_reducible have ck' := RaisedM.sub R' (fun _ hp => hp)); clear ck'; (try dsimp only at R' U'))) | (intro r' n' h' tk' hR' F' N'; (try k_sweep); (obtain ⟨⟨wb', wt', ew', rfl⟩, rfl⟩ := hR'); (try dsimp only); (try k_fold))))
  k_with "call ref" => (k_here; (with_reducible show wpAny _ _ (call (Value.ref 174) _) _ _ _); k_dflt (refine' Calls.use (write_piece_spec _ _ _ ?p1 ?p2 ?p3 ?p4 ?p5) ?k1 ?k2 ?k3 ?k4 ?k5 ?kK ?kd ?ku ?_ ?_); (case k1 => k_asm); (case k2 => k_asm); (case k3 => k_asm); (case k4 => k_asm); (case k5 => k_asm); (case kK => first | exact rfl | assumption); (case kd => ktr_room); (case ku => ktr_units); (case p1 => exact PieceIn.mono (by assumption) (by k_sub)); (case p2 => (first | exact hri.1 | omega)); (case p3 => (first | exact hri.2.1 | omega)); (case p4 => (first | exact hri.2.2.1 | omega)); (case p5 => (first | exact hri.2.2.2 | omega)); (all_goals first | (intro C' g' e' h' tk' hx' FG' R' U'; first | exact hx'.elim | ((with_reducible have ck' := RaisedM.sub R' (fun _ hp => hp)); clear ck'; (try dsimp only at R' U'))) | (intro r' n' h' tk' hR' F' N'; (try k_sweep); (obtain ⟨⟨wb', wt', ew', rfl⟩, rfl⟩ := hR'); (try dsimp only); (try k_fold))))
  k_with "call ref" => (k_here; (with_reducible show wpAny _ _ (call (Value.ref 193) _) _ _ _); k_dflt (refine' Calls.use (take_spec _ _ ?p0 ?p1 ?p2 ?p3 ?p4 ?p5) ?k1 ?k2 ?k3 ?k4 ?k5 ?kK ?kd ?ku ?_ ?_); (case k1 => k_asm); (case k2 => k_asm); (case k3 => k_asm); (case k4 => k_asm); (case k5 => k_asm); (case kK => first | exact rfl | assumption); (case kd => ktr_room); (case ku => ktr_units); (case p0 => (first | exact UpdF.head (by assumption) | (refine' UpdF.head ?zz; (case zz => k_all)) | (refine' UpdF.tail ?za ?zb; (case za => (first | k_ne | assumption)); (case zb => (first | exact UpdF.head (by assumption) | (refine' UpdF.head ?zz; (case zz => k_all)) | (refine' UpdF.tail ?za ?zb; (case za => (first | k_ne | assumption)); (case zb => (first | exact UpdF.head (by assumption) | (refine' UpdF.head ?zz; (case zz => k_all)) | (refine' UpdF.tail ?za ?zb; (case za => (first | k_ne | assumption)); (case zb => (first | exact UpdF.head (by assumption) | (refine' UpdF.head ?zz; (case zz => k_all)) | (refine' UpdF.tail ?za ?zb; (case za => (first | k_ne | assumption)); (case zb => (first | exact UpdF.head (by assumption) | (refine' UpdF.head ?zz; (case zz => k_all)) | (refine' UpdF.tail ?za ?zb; (case za => (first | k_ne | assumption)); (case zb => (exact UpdF.head (by assumption)))))))))))))))))); (case p1 => assumption); (case p2 => assumption); (case p3 => assumption); (case p4 => k_dflt (first | decide | omega)); (case p5 => k_dflt (first | decide | omega)); (all_goals first | (intro C' g' e' h' tk' hx' FG' R' U'; first | exact hx'.elim | ((with_reducible have ck' := RaisedM.sub R' (fun _ hp => hp)); clear ck'; (try dsimp only at R' U'))) | (intro r' n' h' tk' hR' F' N'; (try k_sweep); (obtain ⟨v', tv', xa', xb', ta', tb', q1', q2', q3', q4', q5', rfl, rfl⟩ := hR'); (try dsimp only); (try k_fold))))
  intro dp un gd cn cs a ccd cl outer A₀ base h₀ L m s p loose mean mg mb Q E hB hF hX hN hT hk hd hu hret hex
  refine wpAny_call ?_
  k_dflt cell_enter
  k_with "pyIter ref" => refine Stop.out ?_
  k_with "InvEndG" => refine Stop.out ?_
  k_with "subscriptTail" => (k_here; k_dflt (refine' menu_bytes ?k1 ?k2 ?k3 ?k4 ?k5 ?_ ?k6; (case k1 => is_list); (case k2 => repeat constructor); (case k3 => assumption); (case k4 => assumption); (case k5 => omega); (case k6 => with_unfolding_all rfl)); intro cb ct cm)
  k_with "binaryOp Add bytes bytes" => (k_here; (refine KBa.add_K rfl rfl ?hsz ?_; (case hsz => (obtain ⟨_, cz⟩ := chunk_ok _ cm; omega)); intro _ _ cadd))
  k_steps
  refine Stop.mk ?_
  rename IsRange _ _ _ _ _ _ _ _ => rg
  rename Fr _ _ _ _ => lF
  rename News _ _ _ _ => lN
  refine' kd_range (σ := Int × Int × Tok × Tok × Array UInt8 × Tok) (fun c => [(sa, srcObj c.1 c.2.1 c.2.2.1 c.2.2.2.1 n)]) news (fun c => [("found", .bytes c.2.2.2.2.1 c.2.2.2.2.2)]) (fun _ c => 0 ≤ c.1 ∧ 0 ≤ c.2.1 ∧ c.2.1 < 2147483647) []
    (fun pre c => Stuffed (KBw.bInts c.2.2.2.2.1) ∧ (KBw.bInts c.2.2.2.2.1).length ≤ 2 * pre.length) (sa :: news.map (·.1)) (xa', xb', ta', tb', #[], _) (by rfl) rg (small_one (by omega) (by omega) (by omega) (by omega)) (rangeSize_nat _ _) lF lN ?hn (fun _ => rfl) ⟨q3', q4', q5'⟩ (List.forall_mem_cons.mpr ⟨rfl, List.forall_mem_nil _⟩) ⟨Stuffed.nil, Nat.zero_le _⟩ ?turn ?done
  case hn =>
    intro p hp; simpa using hp
  case turn =>
    clear lF lN
    rintro ⟨xa, xb, ta, tb, fb, ft⟩ tl pre k t u h tk own hk hlt ksep koff ⟨q6, q7, q8⟩ ⟨q9, q10⟩ F9 N9
    have hs9 := off_all hs koff
    simp only [List.cons_append, List.nil_append] at N9
    dsimp only at q6 q7 q8 q9 q10
    dsimp only [kstB] at F9
    k_steps
    rename Fr _ _ _ _ => F8
    rename News _ _ _ _ => N8
    obtain ⟨cs, cz⟩ := chunk_ok _ cm
    refine Stop.mk (kd_end (xa', xb', ta', tb', fb ++ cb, _) [] ksep F8 N8 ?kdn ?kdo rfl ?kdb ?kdw (by kst_all) (by kst_same) ⟨q3', q4', q5'⟩ ⟨?kp1, ?kp2⟩)
    case kdn => exact fun p hp => .tail _ (kdn_mem p hp)
    case kdo => exact fun p hp => .tail _ (kdo_mem p hp)
    case kdb => exact fun q hq => nomatch hq
    case kdw => exact fun q hq => nomatch hq
    case kp1 => exact cadd ▸ q9.append cs
    case kp2 => show (KBw.bInts (fb ++ cb)).length ≤ _; rw [cadd, List.length_append, List.length_append, List.length_singleton]; omega
  case done =>
    clear lF lN
    rintro ⟨xa, xb, ta, tb, fb, ft⟩ tl u h tk koff ⟨q6, q7, q8⟩ ⟨q9, q10⟩ F9 N9
    simp only [List.cons_append, List.nil_append] at N9
    rw [rangeKs_length] at q10
    dsimp only at q6 q7 q8 q9 q10
    dsimp only [kstB] at F9
    k_steps
    rename News _ _ _ _ => N8; replace N8 := cb_drop N8 (news := (sa, srcObj xa xb ta tb n) :: news) (List.forall_mem_cons.mpr ⟨.head _, fun p hp => .tail _ (List.mem_append_left _ hp)⟩)
    (refine' hret _ _ _ _ (⟨fb, ft, xa, xb, ta, tb, q9, Nat.le_trans q10 (by omega), q6, q7, q8, rfl, rfl⟩) ?hF ?hN; (case hN => assumption); (case hF => assumption))
theorem data_spec {prog : Program} {w : World} {news : List (Addr × Obj)} {sa : Addr} {x0 x1 : Int} {ta tb : Tok} {n : Nat} {g : Obj → List (Addr × Obj)} (U : UpdF sa (srcObj x0 x1 ta tb n) news g) (ha : 0 ≤ x0) (hb0 : 0 ≤ x1) (hb1 : x1 < 2147483647) :
    Calls prog w 5 200 [.ref sa] news (fun r n' => ∃ (b : Array UInt8) (tk : Tok) (a' b' : Int) (ta' tb' : Tok), Stuffed (KBw.bInts b) ∧ (KBw.bInts b).length ≤ 6 ∧ 0 ≤ a' ∧ 0 ≤ b' ∧ b' < 2147483647 ∧ r = .bytes b tk ∧ n' = g (srcObj a' b' ta' tb' n)) (fun _ => False) := by
  refine (Calls.upd (S := fun r o' tl => tl = [] ∧ ∃ (b : Array UInt8) (tk : Tok) (a' b' : Int) (ta' tb' : Tok), Stuffed (KBw.bInts b) ∧ (KBw.bInts b).length ≤ 6 ∧ 0 ≤ a' ∧ 0 ≤ b' ∧ b' < 2147483647 ∧ r = .bytes b tk ∧ o' = srcObj a' b' ta' tb' n) U fun rest hs =>
    (data_at rest sa x0 x1 ta tb n hs ha hb0 hb1).weaken ?_ (fun _ h => h) (Nat.le_refl _)).weaken ?_ (fun _ h => h) (Nat.le_refl _)
  · rintro r n' ⟨b, tk, a', b', ta', tb', h1, h2, h3, h4, h5, rfl, rfl⟩
    exact ⟨_, [], ⟨rfl, b, tk, a', b', ta', tb', h1, h2, h3, h4, h5, rfl, rfl⟩, rfl⟩
  · rintro r n' ⟨o', tl, ⟨rfl, b, tk, a', b', ta', tb', h1, h2, h3, h4, h5, rfl, rfl⟩, rfl⟩
    exact ⟨b, tk, a', b', ta', tb', h1, h2, h3, h4, h5, rfl, rfl⟩

abbrev rowTup (r : RowB) (tc tp td : Tok) (n : Nat) : Obj := { cls := .type "tuple", data := .seq #[.int r.1 tc, .bytes r.2.1 tp, .bytes r.2.2 td] n }
/-- a row lies in the ledger as a tuple -/
def TupIn (led : List (Addr × Obj)) (v : Value) (r : RowB) : Prop := ∃ (x : Addr) (n : Nat) (tc tp td : Tok), v = .ref x ∧ (x, rowTup r tc tp td n) ∈ led
inductive TupsIn (led : List (Addr × Obj)) : List Value → List RowB → Prop
  | nil : TupsIn led [] []
  | cons {v : Value} {r : RowB} {vs : List Value} {rs : List RowB} : TupIn led v r → TupsIn led vs rs → TupsIn led (v :: vs) (r :: rs)
section
variable {led led' : List (Addr × Obj)} {v : Value} {r : RowB} {vs us : List Value} {rs ss : List RowB}
theorem TupIn.mono (h : TupIn led v r) (hs : ∀ p ∈ led, p ∈ led') : TupIn led' v r := by
  obtain ⟨x, n, tc, tp, td, e, m⟩ := h
  exact ⟨x, n, tc, tp, td, e, hs _ m⟩
theorem TupsIn.mono (h : TupsIn led vs rs) (hs : ∀ p ∈ led, p ∈ led') : TupsIn led' vs rs := by
  induction h with
  | nil => exact .nil
  | cons h _ ih => exact .cons (h.mono hs) ih
theorem TupsIn.append (h : TupsIn led vs rs) (k : TupsIn led us ss) : TupsIn led (vs ++ us) (rs ++ ss) := by
  induction h with
  | nil => exact k
  | cons h _ ih => exact .cons h ih
theorem TupsIn.snoc (h : TupsIn led vs rs) (hv : TupIn led v r) : TupsIn led (vs ++ [v]) (rs ++ [r]) := h.append (.cons hv .nil)
theorem TupsIn.length (h : TupsIn led vs rs) : vs.length = rs.length := by
  induction h with
  | nil => rfl
  | cons _ _ ih => rw [List.length_cons, List.length_cons, ih]
theorem TupsIn.take (h : TupsIn led vs rs) : ∀ n, TupsIn led (vs.take n) (rs.take n) := by
  induction h with
  | nil => intro n; rw [List.take_nil, List.take_nil]; exact .nil
  | cons h _ ih =>
    intro n
    cases n with
    | zero => exact .nil
    | succ n => exact .cons h (ih n)
theorem TupsIn.drop (h : TupsIn led vs rs) : ∀ n, TupsIn led (vs.drop n) (rs.drop n) := by
  induction h with
  | nil => intro n; rw [List.drop_nil, List.drop_nil]; exact .nil
  | cons h k ih =>
    intro n
    cases n with
    | zero => exact .cons h k
    | succ n => exact ih n
theorem TupsIn.get (h : TupsIn led vs rs) : ∀ {i : Nat} (hi : i < rs.length), ∃ v, vs[i]? = some v ∧ TupIn led v rs[i] := by
  induction h with
  | nil => intro i hi; exact absurd hi (Nat.not_lt_zero _)
  | cons h _ ih =>
    intro i hi
    cases i with
    | zero => exact ⟨_, rfl, h⟩
    | succ i => exact ih (Nat.lt_of_succ_lt_succ hi)
end
/-- a row between SOI and EOI -/
structure RowOk (r : RowB) : Prop where
  code : r.1 ∈ ([254, 224, 238, 219, 196, 192, 218, 218, 221] : List Int)
  pay : (KBw.bInts r.2.1).length ≤ 260
  scan : r.1 = 218 → Stuffed (KBw.bInts r.2.2)
  other : r.1 ≠ 218 → r.2.2 = #[]
  data : (KBw.bInts r.2.2).length ≤ 6
section
variable {prog : Program} {w : World} {A : Around} {E : Value → Shared → Prop} {s : Shared} {h₀ : Heap} {L l : Addr} {m : Str → Option Value} {news : List (Addr × Obj)}
theorem tup_not_list : (Value.type "tuple") ≠ Value.type "list" := by intro h; injection h with h; revert h; decide
theorem append_any {vs : List Value} {y : Value} {n : Nat} {Q : Value → Shared → Prop} (F : Fr h₀ L s.heap m) (N : News h₀ L s.heap news) (hm : (l, listOf vs.toArray n) ∈ news) (rest : List (Addr × Obj)) (hr : ∀ p ∈ rest, p ∈ news) (ho : ∀ p ∈ rest, p.1 ≠ l) (hsz : vs.length ≤ 1000000)
    (h : ∀ h', Fr h₀ L h' m → News h₀ L h' ((l, listOf (vs ++ [y]).toArray (n + 1)) :: rest) → Q .none { s with heap := h' }) : wpAny (model prog w) A (call (.builtin "list.append") [.ref l, y]) Q E s := by
  refine append_K (news := (l, listOf vs.toArray n) :: rest) F (fun p hp => ?_) (Upd.head ho) (fun h' F' N' => h h' F' ?_) ?_
  · rcases List.mem_cons.mp hp with rfl | hp
    · exact N _ hm
    · exact N _ (hr p hp)
  · rw [List.push_toArray] at N'; exact N'
  · rw [sizeLine_eq, List.size_toArray]; omega
end
theorem pay_in : ∀ c ∈ ([255, 0, 216, 217, 3] : List Int), 0 ≤ c ∧ c < 256 := by decide
theorem in_snoc {ns : List Int} {c : Int} (h : KBa.In ns) (hc : 0 ≤ c ∧ c < 256) : KBa.In (ns ++ [c]) := by
  intro n hn
  rcases List.mem_append.mp hn with hn | hn
  · exact h n hn
  · exact List.mem_singleton.mp hn ▸ hc
abbrev RowsS : Type := Int × Int × Tok × Tok × List Value × Nat × List RowB
abbrev rowsLed (l sa : Addr) (n : Nat) (c : RowsS) : List (Addr × Obj) := [(l, listOf c.2.2.2.2.1.toArray c.2.2.2.2.2.1), (sa, srcObj c.1 c.2.1 c.2.2.1 c.2.2.2.1 n)]
abbrev rowsFacts (led : List (Addr × Obj)) (c : RowsS) : Prop := (0 ≤ c.1 ∧ 0 ≤ c.2.1 ∧ c.2.1 < 2147483647) ∧ TupsIn led c.2.2.2.2.1 c.2.2.2.2.2.2
abbrev rowsP (pre : List Int) (c : RowsS) : Prop := c.2.2.2.2.2.2.length = pre.length ∧ ∀ r ∈ c.2.2.2.2.2.2, RowOk r
theorem off_of_lt {D : Addr} {l : List (Addr × Obj)} (h : AllLt D l) : ∀ p ∈ l, p.1 ≠ D := fun p hp => Nat.ne_of_lt (tb_ltOf h p hp)
theorem rows_turn {h₀ h' : Heap} {L l sa D8 L1 : Addr} {x : Str} {m₀ m' : Str → Option Value} {oc : Obj} {vs : List Value} {cap n nt : Nat} {rows : List RowB} {news tl own : List (Addr × Obj)} {pre : List Int} {k xa xb : Int} {ta tb tc tp td : Tok} {r : RowB} {s₁ : Shared} {tk : Nat}
    (ksep : KdSep own tl (l :: sa :: L1 :: news.map (·.1))) (F : Fr h₀ L h' m') (N : News h₀ L h' ((l, listOf (vs ++ [Value.ref D8]).toArray (cap + 1)) :: (D8, rowTup r tc tp td nt) :: (sa, srcObj xa xb ta tb n) :: (L1, oc) :: (news ++ (tl ++ own))))
    (l3 : l < D8 ∧ sa < D8 ∧ L1 < D8 ∧ AllLt D8 (news ++ (tl ++ own))) (hr : ∀ z, z ≠ x → (∀ p ∈ ([] : List (Str × Value)), z ≠ p.1) → (["code", "octets"] : List Str).contains z = false → m' z = m₀ z)
    (q6 : 0 ≤ xa) (q7 : 0 ≤ xb) (q8 : xb < 2147483647) (q9 : TupsIn ((L1, oc) :: news ++ tl) vs rows) (q10 : rows.length = pre.length) (q11 : ∀ r ∈ rows, RowOk r) (ok : RowOk r) :
    InvEndG h₀ L (KdS (rowsLed l sa n) ((L1, oc) :: news) (fun _ => []) rowsFacts x ["code", "octets"] m₀ rowsP (l :: sa :: L1 :: news.map (·.1)) (pre ++ [k])) own s₁ { s₁ with heap := h', toks := tk } := by
  have lo := off_of_lt l3.2.2.2
  refine kd_end (xa, xb, ta, tb, vs ++ [Value.ref D8], cap + 1, rows ++ [r]) [(D8, rowTup r tc tp td nt)] ksep F N ?kdn ?kdo rfl ?kdb ?kdw (List.forall_mem_nil _) hr ⟨⟨q6, q7, q8⟩, ?kt⟩ ⟨?kp1, ?kp2⟩
  case kdn =>
    intro p hp; simp only [List.append_nil, List.cons_append, List.nil_append, List.mem_cons, List.mem_append] at hp ⊢
    rcases hp with h | h | h | h | h | h
    · exact .inl h
    · exact .inr (.inr (.inl h))
    · exact .inr (.inr (.inr (.inl h)))
    · exact .inr (.inr (.inr (.inr (.inl h))))
    · exact .inr (.inl h)
    · exact .inr (.inr (.inr (.inr (.inr (.inl h)))))
  case kdo => exact fun p hp => .tail _ (.tail _ (.tail _ (.tail _ (List.mem_append_right _ (List.mem_append_right _ hp)))))
  case kdb =>
    intro q hq b hb
    obtain rfl := List.mem_singleton.mp hq
    rcases List.mem_cons.mp hb with rfl | hb
    · exact Nat.ne_of_lt l3.1
    rcases List.mem_cons.mp hb with rfl | hb
    · exact Nat.ne_of_lt l3.2.1
    rcases List.mem_cons.mp hb with rfl | hb
    · exact Nat.ne_of_lt l3.2.2.1
    obtain ⟨p, hp, rfl⟩ := List.mem_map.mp hb
    exact lo p (List.mem_append_left _ hp)
  case kdw =>
    intro q hq p hp
    obtain rfl := List.mem_singleton.mp hq
    exact lo p (List.mem_append_right _ (List.mem_append_right _ hp))
  case kt =>
    refine (q9.mono fun p hp => ?_).snoc ⟨D8, nt, tc, tp, td, rfl, ?_⟩
    · simp only [List.append_nil, List.cons_append, List.nil_append, List.mem_cons, List.mem_append] at hp ⊢
      rcases hp with h | h | h
      · exact .inl h
      · exact .inr (.inl h)
      · exact .inr (.inr (.inr h))
    · exact .tail _ (List.mem_append_right _ (.head _))
  case kp1 => show (rows ++ [r]).length = (pre ++ [k]).length; rw [List.length_append, List.length_append, q10]; rfl
  case kp2 =>
    intro r' hr'
    rcases List.mem_append.mp hr' with h | h
    · exact q11 _ h
    · exact List.mem_singleton.mp h ▸ ok
theorem all_snoc {rows : List RowB} {r : RowB} (h : ∀ x ∈ rows, RowOk x) (hr : RowOk r) : ∀ x ∈ rows ++ [r], RowOk x := by
  intro x hx
  rcases List.mem_append.mp hx with hx | hx
  · exact h x hx
  · exact List.mem_singleton.mp hx ▸ hr
theorem row218 {d : Array UInt8} (h1 : Stuffed (KBw.bInts d)) (h2 : (KBw.bInts d).length ≤ 6) : RowOk (218, #[1, 255], d) :=
  ⟨show (218 : Int) ∈ [254, 224, 238, 219, 196, 192, 218, 218, 221] by decide, show (KBw.bInts #[1, 255]).length ≤ 260 by decide, fun _ => h1, fun h => absurd rfl h, h2⟩
theorem fill_len {k : Int} (h : k < 3) : (KBw.bInts ((List.replicate (128 + k).toNat [(7 : UInt8), 255]).flatten.toArray)).length ≤ 260 := by
  rw [KBw.ints_length, List.size_toArray]
  simp only [List.length_flatten, List.map_replicate, List.length_cons, List.length_nil, List.sum_replicate_nat]
  omega
theorem ref_src {T1 : Addr} {vs : List Value} {c n : Nat} {xa xb : Int} {ta tb : Tok} : listOf (Value.ref T1 :: vs).toArray c ≠ srcObj xa xb ta tb n := by
  intro h
  injection h with _ _ h
  injection h with h
  injection h with h
  injection h with h
  cases h
theorem ne_obj2 {h₀ h : Heap} {L a b : Addr} {oa ob : Obj} {news : List (Addr × Obj)} (N : News h₀ L h news) (ma : (a, oa) ∈ news) (mb : (b, ob) ∈ news) (hne : oa ≠ ob) : a ≠ b := by
  rintro rfl
  exact hne (Option.some.inj ((N _ ma).1.symm.trans (N _ mb).1))
theorem rows_out {h₀ h : Heap} {L R sa T1 T2 : Addr} {big mids news : List (Addr × Obj)} {vs : List Value} {mid : List RowB} {a b : Int} {ta tb c1 p1 d1 c2 p2 d2 : Tok} {n n1 n2 : Nat} (N : News h₀ L h big) (mR : (R, listOf ([Value.ref T1] ++ vs ++ [Value.ref T2]).toArray 0) ∈ big) (m1 : (T1, rowTup (216, #[], #[]) c1 p1 d1 n1) ∈ big) (m2 : (T2, rowTup (217, #[], #[]) c2 p2 d2 n2) ∈ big)
    (ms : (sa, srcObj a b ta tb n) ∈ big) (ht : TupsIn mids vs mid) (hm : ∀ p ∈ mids, p ∈ big) (hs : ∀ p ∈ mids, p.1 ≠ sa) (hn : ∀ p ∈ news, p ∈ mids) :
    ∃ led, TupsIn led ([Value.ref T1] ++ vs ++ [Value.ref T2]) ([(216, #[], #[])] ++ mid ++ [(217, #[], #[])]) ∧ (∀ p ∈ led, p.1 ≠ sa) ∧ (∀ p ∈ news, p ∈ led) ∧ R ≠ sa ∧ News h₀ L h ((R, listOf ([Value.ref T1] ++ vs ++ [Value.ref T2]).toArray 0) :: (sa, srcObj a b ta tb n) :: led) := by
  refine ⟨(T1, rowTup (216, #[], #[]) c1 p1 d1 n1) :: (T2, rowTup (217, #[], #[]) c2 p2 d2 n2) :: mids, ?_, ?_, fun p hp => .tail _ (.tail _ (hn p hp)), ne_obj2 N mR ms ref_src, fun p hp => N p ?_⟩
  · exact ((TupsIn.cons ⟨T1, n1, c1, p1, d1, rfl, .head _⟩ .nil).append (ht.mono fun p hp => .tail _ (.tail _ hp))).append (.cons ⟨T2, n2, c2, p2, d2, rfl, .tail _ (.head _)⟩ .nil)
  · exact List.forall_mem_cons.mpr ⟨ne_obj N m1 ms tup_not_list, List.forall_mem_cons.mpr ⟨ne_obj N m2 ms tup_not_list, hs⟩⟩
  · rcases List.mem_cons.mp hp with rfl | hp
    · exact mR
    rcases List.mem_cons.mp hp with rfl | hp
    · exact ms
    rcases List.mem_cons.mp hp with rfl | hp
    · exact m1
    rcases List.mem_cons.mp hp with rfl | hp
    · exact m2
    exact hm p hp
theorem mem_second {c d p : Addr × Obj} {r : List (Addr × Obj)} (h : p ∈ c :: r) : p ∈ c :: d :: r := by
  rcases List.mem_cons.mp h with rfl | h
  · exact .head _
  · exact .tail _ (.tail _ h)
theorem rows_swap {h₀ h : Heap} {L : Addr} {a b c d : Addr × Obj} {r : List (Addr × Obj)} (N : News h₀ L h (a :: d :: b :: c :: r)) : News h₀ L h (a :: b :: c :: d :: r) := by
  intro p hp
  rcases List.mem_cons.mp hp with rfl | hp
  · exact N _ (.head _)
  rcases List.mem_cons.mp hp with rfl | hp
  · exact N _ (.tail _ (.tail _ (.head _)))
  rcases List.mem_cons.mp hp with rfl | hp
  · exact N _ (.tail _ (.tail _ (.tail _ (.head _))))
  rcases List.mem_cons.mp hp with rfl | hp
  · exact N _ (.tail _ (.head _))
  exact N _ (.tail _ (.tail _ (.tail _ (.tail _ hp))))
structure RowsIf (h₀ : Heap) (L : Addr) (m : Str → Option Value) (l sa : Addr) (c : Addr × Obj) (n : Nat) (news : List (Addr × Obj)) (cnt : Nat) (s : Shared) (f : Flow) (s' : Shared) : Prop where
  all : ∃ (h' : Heap) (tk : Nat) (a b : Int) (ta tb : Tok) (vs : List Value) (cap : Nat) (rows : List RowB) (mids : List (Addr × Obj)), f = .next ∧ s' = { s with heap := h', toks := tk } ∧ 0 ≤ a ∧ 0 ≤ b ∧ b < 2147483647 ∧ TupsIn (c :: mids) vs rows ∧ (∀ r ∈ rows, RowOk r) ∧ rows.length ≤ cnt + 1 ∧
    (∀ p ∈ c :: mids, p.1 ≠ sa) ∧ (∀ p ∈ c :: mids, p.1 ≠ l) ∧ (∀ p ∈ news, p ∈ mids) ∧ Fr h₀ L h' m ∧ News h₀ L h' ((l, listOf vs.toArray cap) :: (sa, srcObj a b ta tb n) :: c :: mids)
theorem rows_if {M : Model} {A : Around} {E : Value → Shared → Prop} {s : Shared} {T : Sem Flow} {Q : Flow → Shared → Prop} {h₀ : Heap} {L : Addr} {m : Str → Option Value} {l sa : Addr} {c : Addr × Obj} {n : Nat} {news : List (Addr × Obj)} {cnt : Nat} (_F : Fr h₀ L s.heap m) (h1 : wpAny M A T (RowsIf h₀ L m l sa c n news cnt s) E s)
    (h2 : ∀ (h' : Heap) (tk : Nat) (a b : Int) (ta tb : Tok) (vs : List Value) (cap : Nat) (rows : List RowB) (mids : List (Addr × Obj)), 0 ≤ a → 0 ≤ b → b < 2147483647 → TupsIn (c :: mids) vs rows → (∀ r ∈ rows, RowOk r) → rows.length ≤ cnt + 1 →
      (∀ p ∈ c :: mids, p.1 ≠ sa) → (∀ p ∈ c :: mids, p.1 ≠ l) → (∀ p ∈ news, p ∈ mids) → Fr h₀ L h' m → News h₀ L h' ((l, listOf vs.toArray cap) :: (sa, srcObj a b ta tb n) :: c :: mids) → Q .next { s with heap := h', toks := tk }) : wpAny M A T Q E s :=
  wpAny_mono h1 (fun f s' hf => by
    obtain ⟨h', tk, a, b, ta, tb, vs, cap, rows, mids, rfl, rfl, x1, x2, x3, x4, x5, x6, x7, x8, x9, x10, x11⟩ := hf.all
    exact h2 h' tk a b ta tb vs cap rows mids x1 x2 x3 x4 x5 x6 x7 x8 x9 x10 x11) fun _ _ e => e
set_option maxHeartbeats 4000000 in
theorem rows_at {prog : Program} {w : World} (news : List (Addr × Obj)) (sa : Addr) (x0 x1 : Int) (ta tb : Tok) (n : Nat) (hs : ∀ p ∈ news, p.1 ≠ sa) (ha : 0 ≤ x0) (hb0 : 0 ≤ x1) (hb1 : x1 < 2147483647) :
    Calls prog w 8 205 [.ref sa] ((sa, srcObj x0 x1 ta tb n) :: news) (fun r n' => ∃ (l : Addr) (vs : List Value) (mid : List RowB) (led : List (Addr × Obj)) (a' b' : Int) (ta' tb' : Tok), 0 ≤ a' ∧ 0 ≤ b' ∧ b' < 2147483647 ∧ 1 ≤ mid.length ∧ mid.length ≤ 7 ∧ (∀ r ∈ mid, RowOk r) ∧
      TupsIn led vs ([(216, #[], #[])] ++ mid ++ [(217, #[], #[])]) ∧ (∀ p ∈ led, p.1 ≠ sa) ∧ (∀ p ∈ news, p ∈ led) ∧ l ≠ sa ∧ r = .ref l ∧ n' = (l, listOf vs.toArray 0) :: (sa, srcObj a' b' ta' tb' n) :: led) (fun _ => False) := by
  k_with_none
  k_with "exec Raise some none" => (k_here; (with_reducible show wpAny _ _ (exec (Stmt.Raise (some (PySem.Expr.Call (PySem.Expr.Name ("CutError" : Str) _) _ _ _)) none _) _) _ _ _); k_dflt (refine raise68 rfl ?_))
  k_with "exec Raise some none" => (k_here; (with_reducible show wpAny _ _ (exec (Stmt.Raise (some (PySem.Expr.Call (PySem.Expr.Name ("MarkerError" : Str) _) _ _ _)) none _) _) _ _ _); k_dflt (refine raise44 rfl ?_))
  k_with "exec Raise some none" => (k_here; (with_reducible show wpAny _ _ (exec (Stmt.Raise (some (PySem.Expr.Call (PySem.Expr.Name ("SegmentError" : Str) _) _ _ _)) none _) _) _ _ _); k_dflt (refine raise56 rfl ?_))
  k_with "call ref" => (k_here; (with_reducible show wpAny _ _ (call (Value.ref _) [Value.str _ _]) (RaiseAt _ _ _) _ _); k_dflt (first | refine' exc_call (exc68 _) ?k1 ?k2 ?k3 ?k4 ?k5 ?kA ?kF ?kK ?kd ?_ | refine' exc_call (exc44 _) ?k1 ?k2 ?k3 ?k4 ?k5 ?kA ?kF ?kK ?kd ?_ | refine' exc_call (exc56 _) ?k1 ?k2 ?k3 ?k4 ?k5 ?kA ?kF ?kK ?kd ?_); (case k1 => k_asm); (case k2 => k_asm); (case k3 => k_asm); (case k4 => k_asm); (case k5 => k_asm); (case kA => exact rfl); (case kF => exact rfl); (case kK => first | exact rfl | assumption); (case kd => ktr_room); intro e' t' dx' h' tk' F' N' D'; refine ⟨_, _, _, rfl, Frag.In.keeps (by k_asm) (Fr.keep F'), News.get N' (.head _), ?_⟩; (try k_sweep))
  k_with "leaving ref" => (k_here; k_dflt (first | (refine' leave_raiseM ?k1 ?k2 ?k3 ?k4 ?_; (case k3 => assumption); (case k1 => assumption); (case k2 => assumption); (case k4 => assumption); intro h' R' U'; (try dsimp only at R' U' ⊢)) | (refine' leave_onM ?k1 ?k2 ?k3 ?k4 ?_; (case k3 => assumption); (case k1 => assumption); (case k4 => assumption); (case k2 => assumption); intro h' R' U'; (try dsimp only at R' U' ⊢))))
  k_with "call type:bytes" => (k_here; (with_reducible show wpAny _ _ (call (Value.type "bytes") [Value.bytes _ _]) _ _ _); k_dflt (refine bytes_again ?_); intro _)
  k_with "call type:bytes" => (k_here; (with_reducible show wpAny _ _ (call (Value.type "bytes") [Value.int _ _]) _ _ _); k_dflt (refine bytes_zeros (by omega) (by omega) ?_); intro _ _)
  k_with "call ref" => (k_here; (with_reducible show wpAny _ _ (call (Value.ref 96) _) _ _ _); k_dflt (refine' Calls.use (is_restart_spec _ _ _) ?k1 ?k2 ?k3 ?k4 ?k5 ?kK ?kd ?ku ?_ ?_); (case k1 => k_asm); (case k2 => k_asm); (case k3 => k_asm); (case k4 => k_asm); (case k5 => k_asm); (case kK => first | exact rfl | assumption); (case kd => ktr_room); (case ku => ktr_units); (all_goals first | (intro C' g' e' h' tk' hx' FG' R' U'; first | exact hx'.elim | ((with_reducible have ck' := RaisedM.sub R' (fun _ hp => hp)); clear ck'; (try dsimp only at R' U'))) | (intro r' n' h' tk' hR' F' N'; (try k_sweep); (obtain ⟨rfl, rfl⟩ := hR'); (try dsimp only); (try k_fold))))
  k_with "call ref" => (k_here; (with_reducible show wpAny _ _ (call (Value.ref 103) _) _ _ _); k_dflt (refine' Calls.use (has_length_spec _ _ _) ?k1 ?k2 ?k3 ?k4 ?k5 ?kK ?kd ?ku ?_ ?_); (case k1 => k_asm); (case k2 => k_asm); (case k3 => k_asm); (case k4 => k_asm); (case k5 => k_asm); (case kK => first | exact rfl | assumption); (case kd => ktr_room); (case ku => ktr_units); (all_goals first | (intro C' g' e' h' tk' hx' FG' R' U'; first | exact hx'.elim | ((with_reducible have ck' := RaisedM.sub R' (fun _ hp => hp)); clear ck'; (try dsimp only at R' U'))) | (intro r' n' h' tk' hR' F' N'; (try k_sweep); (obtain ⟨rfl, rfl⟩ := hR'); (try dsimp only); (try k_fold))))
  k_with "call ref" => (k_here; (with_reducible show wpAny _ _ (call (Value.ref 132) _) _ _ _); k_dflt (refine' Calls.use (next_marker_spec _ _ _ _ _ _ ?p1 ?p2 ?p3) ?k1 ?k2 ?k3 ?k4 ?k5 ?kK ?kd ?ku ?_ ?_); (case k1 => k_asm); (case k2 => k_asm); (case k3 => k_asm); (case k4 => k_asm); (case k5 => k_asm); (case kK => first | exact rfl | assumption); (case kd => ktr_room); (case ku => ktr_units); (case p1 => assumption); (case p2 => assumption); (case p3 => first | assumption | omega); (all_goals first | (intro C' g' e' h' tk' hx' FG' R' U'; first | exact hx'.elim | ((with_reducible have ck' := RaisedM.sub R' (fun _ hp => hp)); clear ck'; (try dsimp only at R' U'))) | (intro r' n' h' tk' hR' F' N'; (try k_sweep); (obtain ⟨fd', e0, rfl, rfl⟩ := hR'); (try dsimp only); (try k_fold))))
  k_with "KswEnd" => (k_here; (rename Fr _ _ _ _ => F9); (rename News _ _ _ _ => N9); k_dflt (refine' ksw_end ⟨_, _⟩ F9 N9 ?ka ?kb ?kc ?kz ?kp ?km); (case ka => first | exact fun _ hp => hp | exact fun _ hp => .tail _ hp | kst_in); (case kb => kst_facts); (case kc => kst_all); (case kz => (intro z h2 h3; have h9 := h2 _ (.head _); first | (dsimp only at h9 ⊢; simp only [if_neg h9, List.contains_nil, Bool.false_eq_true, if_false]; first | done | rfl | (simp only [kstB, List.contains_nil, Bool.false_eq_true, if_false]; first | done | rfl)) | ksw_same)); (case kp => kst_p); (case km => ksw_less))
  k_with "call ref" => (k_here; (with_reducible show wpAny _ _ (call (Value.ref 139) _) _ _ _); k_dflt (refine' Calls.use (data_end_spec _ _ _ _ _ _ ?p1 ?p2 ?p3) ?k1 ?k2 ?k3 ?k4 ?k5 ?kK ?kd ?ku ?_ ?_); (case k1 => k_asm); (case k2 => k_asm); (case k3 => k_asm); (case k4 => k_asm); (case k5 => k_asm); (case kK => first | exact rfl | assumption); (case kd => ktr_room); (case ku => ktr_units); (case p1 => assumption); (case p2 => assumption); (case p3 => first | assumption | omega); (all_goals first | (intro C' g' e' h' tk' hx' FG' R' U'; first | exact hx'.elim | ((with_reducible have ck' := RaisedM.sub R' (fun _ hp => hp)); clear ck'; (try dsimp only at R' U'))) | (intro r' n' h' tk' hR' F' N'; (try k_sweep); (obtain ⟨pe', tk9, e0, rfl, rfl⟩ := hR'); (try dsimp only); (try k_fold))))
  k_with "call ref" => (k_here; (with_reducible show wpAny _ _ (call (Value.ref 146) _) _ _ _); k_dflt (refine' Calls.use (read_code_spec _ _ _ _ _ _ ?p1 ?p2 ?p3) ?k1 ?k2 ?k3 ?k4 ?k5 ?kK ?kd ?ku ?_ ?_); (case k1 => k_asm); (case k2 => k_asm); (case k3 => k_asm); (case k4 => k_asm); (case k5 => k_asm); (case kK => first | exact rfl | assumption); (case kd => ktr_room); (case ku => ktr_units); (case p1 => assumption); (case p2 => assumption); (case p3 => first | assumption | omega); (all_goals first | (intro C' g' e' h' tk' hx' FG' R' U'; first | exact hx'.elim | ((with_reducible have ck' := RaisedM.sub R' (fun _ hp => hp)); clear ck'; (try dsimp only at R' U'))) | (intro r' n' h' tk' hR' F' N'; (try k_sweep); (obtain ⟨k', j', D', t1', t2', e0, e1, rfl, rfl⟩ := hR'); (try dsimp only); (try k_fold))))
  k_with "call ref" => (k_here; (with_reducible show wpAny _ _ (call (Value.ref 153) _) _ _ _); k_dflt (refine' Calls.use (read_payload_spec _ _ _ _ _ _ ?p1 ?p2 ?p3) ?k1 ?k2 ?k3 ?k4 ?k5 ?kK ?kd ?ku ?_ ?_); (case k1 => k_asm); (case k2 => k_asm); (case k3 => k_asm); (case k4 => k_asm); (case k5 => k_asm); (case kK => first | exact rfl | assumption); (case kd => ktr_room); (case ku => ktr_units); (case p1 => assumption); (case p2 => assumption); (case p3 => first | assumption | omega); (all_goals first | (intro C' g' e' h' tk' hx' FG' R' U'; first | exact hx'.elim | ((with_reducible have ck' := RaisedM.sub R' (fun _ hp => hp)); clear ck'; (try dsimp only at R' U'))) | (intro r' n' h' tk' hR' F' N'; (try k_sweep); (obtain ⟨pl', j', D', b', t1', t2', e0, e1, rfl, rfl, e2⟩ := hR'); (try dsimp only); (try k_fold))))
  k_with "call ref" => (k_here; (with_reducible show wpAny _ _ (call (Value.ref 121) _) _ _ _); k_dflt (refine' Calls.use (piece_spec _ _ _ _ _ (.inl rfl)) ?k1 ?k2 ?k3 ?k4 ?k5 ?kK ?kd ?ku ?_ ?_); (case k1 => k_asm); (case k2 => k_asm); (case k3 => k_asm); (case k4 => k_asm); (case k5 => k_asm); (case kK => first | exact rfl | assumption); (case kd => ktr_room); (case ku => ktr_units); (all_goals first | (intro C' g' e' h' tk' hx' FG' R' U'; first | exact hx'.elim | ((with_reducible have ck' := RaisedM.sub R' (fun _ hp => hp)); clear ck'; (try dsimp only at R' U'))) | (intro r' n' h' tk' hR' F' N'; (try k_sweep); (obtain ⟨x', dx', h1', h2', h3', k1', k2', k3', rfl, lx', ly', rfl⟩ := hR'); (try dsimp only); (try k_fold))))
  k_with "call ref" => (k_here; (with_reducible show wpAny _ _ (call (Value.ref 121) _) _ _ _); k_dflt (refine' Calls.use (piece_spec _ _ _ _ _ (.inr (.inl ⟨rfl, rfl⟩))) ?k1 ?k2 ?k3 ?k4 ?k5 ?kK ?kd ?ku ?_ ?_); (case k1 => k_asm); (case k2 => k_asm); (case k3 => k_asm); (case k4 => k_asm); (case k5 => k_asm); (case kK => first | exact rfl | assumption); (case kd => ktr_room); (case ku => ktr_units); (all_goals first | (intro C' g' e' h' tk' hx' FG' R' U'; first | exact hx'.elim | ((with_reducible have ck' := RaisedM.sub R' (fun _ hp => hp)); clear ck'; (try dsimp only at R' U'))) | (intro r' n' h' tk' hR' F' N'; (try k_sweep); (obtain ⟨x', dx', h1', h2', h3', k1', k2', k3', rfl, lx', ly', rfl⟩ := hR'); (try dsimp only); (try k_fold))))
  k_with "call ref" => (k_here; (with_reducible show wpAny _ _ (call (Value.ref 121) _) _ _ _); k_dflt (refine' Calls.use (piece_spec _ _ _ _ _ (.inr (.inr ⟨rfl, rfl, rfl⟩))) ?k1 ?k2 ?k3 ?k4 ?k5 ?kK ?kd ?ku ?_ ?_); (case k1 => k_asm); (case k2 => k_asm); (case k3 => k_asm); (case k4 => k_asm); (case k5 => k_asm); (case kK => first | exact rfl | assumption); (case kd => ktr_room); (case ku => ktr_units); (all_goals first | (intro C' g' e' h' tk' hx' FG' R' U'; first | exact hx'.elim | ((with_reducible have ck' := RaisedM.sub R' (fun _ hp => hp)); clear ck'; (try dsimp only at R' U'))) | (intro r' n' h' tk' hR' F' N'; (try k_sweep); (obtain ⟨x', dx', h1', h2', h3', k1', k2', k3', rfl, lx', ly', rfl⟩ := hR'); (try dsimp only); (try k_fold))))
  k_with "call ref" => (k_here; (with_reducible show wpAny _ _ (call (Value.ref 160) _) _ _ _); k_dflt (refine' Calls.use (read_piece_spec _ _ _ _ _ _ ?p1 ?p2 ?p3) ?k1 ?k2 ?k3 ?k4 ?k5 ?kK ?kd ?ku ?_ ?_); (case k1 => k_asm); (case k2 => k_asm); (case k3 => k_asm); (case k4 => k_asm); (case k5 => k_asm); (case kK => first | exact rfl | assumption); (case kd => ktr_room); (case ku => ktr_units); (case p1 => assumption); (case p2 => assumption); (case p3 => first | assumption | omega); (all_goals first | (intro C' g' e' h' tk' hx' FG' R' U'; first | exact hx'.elim | ((with_reducible have ck' := RaisedM.sub R' (fun _ hp => hp)); clear ck'; (try dsimp only at R' U'))) | (intro r' n' h' tk' hR' F' N'; (try k_sweep); (obtain ⟨D', x', dx', t1', tc', tp', td', k1', k2', k3', h1', h2', h3', k', j', pb', db', e0, e1, rfl, rfl⟩ := hR'); (try dsimp only); (try k_fold))))
  k_with "call ref" => (k_here; (with_reducible show wpAny _ _ (call (Value.ref 89) _) _ _ _); k_dflt (refine' Calls.use (word_spec _ _ _ ?p1 ?p2) ?k1 ?k2 ?k3 ?k4 ?k5 ?kK ?kd ?ku ?_ ?_); (case k1 => k_asm); (case k2 => k_asm); (case k3 => k_asm); (case k4 => k_asm); (case k5 => k_asm); (case kK => first | exact rfl | assumption); (case kd => ktr_room); (case ku => ktr_units); (case p1 => omega); (case p2 => omega); (all_goals first | (intro C' g' e' h' tk' hx' FG' R' U'; first | exact hx'.elim | ((with_reducible have ck' := RaisedM.sub R' (fun _ hp => hp)); clear ck'; (try dsimp only at R' U'))) | (intro r' n' h' tk' hR' F' N'; (try k_sweep); (obtain ⟨⟨wb', wt', ew', rfl⟩, rfl⟩ := hR'); (try dsimp only); (try k_fold))))
  k_with "call ref" => (k_here; (with_reducible show wpAny _ _ (call (Value.ref 174) _) _ _ _); k_dflt (refine' Calls.use (write_piece_spec _ _ _ ?p1 ?p2 ?p3 ?p4 ?p5) ?k1 ?k2 ?k3 ?k4 ?k5 ?kK ?kd ?ku ?_ ?_); (case k1 => k_asm); (case k2 => k_asm); (case k3 => k_asm); (case k4 => k_asm); (case k5 => k_asm); (case kK => first | exact rfl | assumption); (case kd => ktr_room); (case ku => ktr_units); (case p1 => exact PieceIn.mono (by assumption) (by k_sub)); (case p2 => (first | exact hri.1 | omega)); (case p3 => (first | exact hri.2.1 | omega)); (case p4 => (first | exact hri.2.2.1 | omega)); (case p5 => (first | exact hri.2.2.2 | omega)); (all_goals first | (intro C' g' e' h' tk' hx' FG' R' U'; first | exact hx'.elim | ((with_reducible have ck' := RaisedM.sub R' (fun _ hp => hp)); clear ck'; (try dsimp only at R' U'))) | (intro r' n' h' tk' hR' F' N'; (try k_sweep); (obtain ⟨⟨wb', wt', ew', rfl⟩, rfl⟩ := hR'); (try dsimp only); (try k_fold))))
  k_with "call ref" => (k_here; (with_reducible show wpAny _ _ (call (Value.ref 193) _) _ _ _); k_dflt (refine' Calls.use (take_spec _ _ ?p0 ?p1 ?p2 ?p3 ?p4 ?p5) ?k1 ?k2 ?k3 ?k4 ?k5 ?kK ?kd ?ku ?_ ?_); (case k1 => k_asm); (case k2 => k_asm); (case k3 => k_asm); (case k4 => k_asm); (case k5 => k_asm); (case kK => first | exact rfl | assumption); (case kd => ktr_room); (case ku => ktr_units); (case p0 => (first | exact UpdF.head (by assumption) | (refine' UpdF.head ?zz; (case zz => k_all)) | (refine' UpdF.tail ?za ?zb; (case za => (first | k_ne | assumption)); (case zb => (first | exact UpdF.head (by assumption) | (refine' UpdF.head ?zz; (case zz => k_all)) | (refine' UpdF.tail ?za ?zb; (case za => (first | k_ne | assumption)); (case zb => (first | exact UpdF.head (by assumption) | (refine' UpdF.head ?zz; (case zz => k_all)) | (refine' UpdF.tail ?za ?zb; (case za => (first | k_ne | assumption)); (case zb => (first | exact UpdF.head (by assumption) | (refine' UpdF.head ?zz; (case zz => k_all)) | (refine' UpdF.tail ?za ?zb; (case za => (first | k_ne | assumption)); (case zb => (first | exact UpdF.head (by assumption) | (refine' UpdF.head ?zz; (case zz => k_all)) | (refine' UpdF.tail ?za ?zb; (case za => (first | k_ne | assumption)); (case zb => (exact UpdF.head (by assumption)))))))))))))))))); (case p1 => assumption); (case p2 => assumption); (case p3 => assumption); (case p4 => k_dflt (first | decide | omega)); (case p5 => k_dflt (first | decide | omega)); (all_goals first | (intro C' g' e' h' tk' hx' FG' R' U'; first | exact hx'.elim | ((with_reducible have ck' := RaisedM.sub R' (fun _ hp => hp)); clear ck'; (try dsimp only at R' U'))) | (intro r' n' h' tk' hR' F' N'; (try k_sweep); (obtain ⟨v', tv', xa', xb', ta', tb', q1', q2', q3', q4', q5', rfl, rfl⟩ := hR'); (try dsimp only); (try k_fold))))
  k_with "call ref" => (k_here; (with_reducible show wpAny _ _ (call (Value.ref 200) _) _ _ _); k_dflt (refine' Calls.use (data_spec ?p0 ?p1 ?p2 ?p3) ?k1 ?k2 ?k3 ?k4 ?k5 ?kK ?kd ?ku ?_ ?_); (case k1 => k_asm); (case k2 => k_asm); (case k3 => k_asm); (case k4 => k_asm); (case k5 => k_asm); (case kK => first | exact rfl | assumption); (case kd => ktr_room); (case ku => ktr_units); (case p0 => (first | exact UpdF.head (by assumption) | (refine' UpdF.head ?zz; (case zz => k_all)) | (refine' UpdF.tail ?za ?zb; (case za => (first | k_ne | assumption)); (case zb => (first | exact UpdF.head (by assumption) | (refine' UpdF.head ?zz; (case zz => k_all)) | (refine' UpdF.tail ?za ?zb; (case za => (first | k_ne | assumption)); (case zb => (first | exact UpdF.head (by assumption) | (refine' UpdF.head ?zz; (case zz => k_all)) | (refine' UpdF.tail ?za ?zb; (case za => (first | k_ne | assumption)); (case zb => (first | exact UpdF.head (by assumption) | (refine' UpdF.head ?zz; (case zz => k_all)) | (refine' UpdF.tail ?za ?zb; (case za => (first | k_ne | assumption)); (case zb => (first | exact UpdF.head (by assumption) | (refine' UpdF.head ?zz; (case zz => k_all)) | (refine' UpdF.tail ?za ?zb; (case za => (first | k_ne | assumption)); (case zb => (exact UpdF.head (by assumption)))))))))))))))))); (case p1 => assumption); (case p2 => assumption); (case p3 => assumption); (all_goals first | (intro C' g' e' h' tk' hx' FG' R' U'; first | exact hx'.elim | ((with_reducible have ck' := RaisedM.sub R' (fun _ hp => hp)); clear ck'; (try dsimp only at R' U'))) | (intro r' n' h' tk' hR' F' N'; (try k_sweep); (obtain ⟨db', dt', xa', xb', ta', tb', d1', d2', q3', q4', q5', rfl, rfl⟩ := hR'); (try dsimp only); (try k_fold))))
  intro dp un gd cn cs a ccd cl outer A₀ base h₀ L m s p loose mean mg mb Q E hB hF hX hN hT hk hd hu hret hex
  refine wpAny_call ?_
  k_dflt (refine' code_defC ?k1 ?k2 ?k3 ?k4 ?k5 ?kA ?kF ?kK ?k6 ?k7 ?k8 ?k9 ?kB ?kD ?_ ?c2 ?c3 ?c4; (case kA => exact rfl); (case kF => exact rfl); (case kK => assumption); (case k1 => k_asm); (case k2 => k_asm); (case k3 => k_asm); (case k4 => k_asm); (case k5 => k_asm); (case k6 => k_is); (case k7 => k_is); (case k8 => ktr_room); (case k9 => exact BindsTo.of_eq rfl); (case kB => exact rfl); (case kD => decide +kernel); (case c2 => exact rfl); (case c3 => exact rfl); (case c4 => exact rfl); k_whole; intro g' L' h' tk' cells' FG' F' N' Y' B' X' T' l1; (try k_lt l1); k_cells Y'; (try simp only [List.cons_append, List.nil_append] at N'); (try dsimp only); (try k_lift B'); (try k_fold))
  k_with "pyIter ref" => refine Stop.out ?_
  k_with "InvEndG" => refine Stop.out ?_
  k_with "eval ListComp" => refine Stop.out ?_
  k_with "call type:range" => ((rename Fr _ _ _ _ => F'); (rename News _ _ _ _ => N'); (with_unfolding_all refine range1_rows F' N' ?_; intro _ _ _ _ _ _ _ _ _))
  k_with "subscriptTail" => (k_here; k_dflt (refine' menu_ints ?k1 ?k2 ?k3 ?k4 ?k5 ?_ ?k6; (case k1 => is_list); (case k2 => l_ints); (case k3 => assumption); (case k4 => assumption); (case k5 => omega); (case k6 => with_unfolding_all rfl)); intro cb ct cm)
  k_with "call builtin:list.append" => refine Stop.out ?_
  k_steps
  refine Stop.mk ?_
  rename IsRange _ _ _ _ _ _ _ _ => rg
  rename Fr _ _ _ _ => lF
  rename News _ _ _ _ => lN
  rename_i l _ l2 _ _ _ _ _ _ _
  rename Obj => oc
  have hne : l ≠ sa := Nat.ne_of_gt l2.2.1
  have hcs : L' + 1 ≠ sa := Nat.ne_of_gt (Nat.lt_succ_of_lt l1.1)
  have hcl : L' + 1 ≠ l := Nat.ne_of_lt l2.1
  have hnl : ∀ p ∈ news, p.1 ≠ l := fun p hp => Nat.ne_of_lt (tb_ltOf l2.2.2 p hp)
  refine' kd_range (σ := RowsS) (rowsLed l sa n) ((L' + 1, oc) :: news) (fun c => []) rowsFacts ["code", "octets"]
    rowsP (l :: sa :: (L' + 1) :: news.map (·.1)) (xa', xb', ta', tb', [], 0, []) (by rfl) rg (small_one (by omega) (by omega) (by omega) (by omega)) (rangeSize_nat _ _) lF lN ?hn (fun _ => rfl) ⟨⟨q3', q4', q5'⟩, .nil⟩ (List.forall_mem_nil _) ⟨rfl, List.forall_mem_nil _⟩ ?turn ?done
  case hn =>
    intro p hp; simp only [List.append_nil, List.cons_append, List.nil_append, List.mem_cons] at hp ⊢
    rcases hp with h | h | h | h
    · exact .inl h
    · exact .inr (.inr (.inl h))
    · exact .inr (.inl h)
    · exact .inr (.inr (.inr h))
  case turn =>
    clear lF lN
    rintro ⟨xa, xb, ta, tb, vs, cap, rows⟩ tl pre k t u h tk own hk hlt ksep koff ⟨⟨q6, q7, q8⟩, q9⟩ ⟨q10, q11⟩ F9 N9
    have hs9 : ∀ p ∈ (L' + 1, oc) :: (news ++ (tl ++ own)), p.1 ≠ sa := List.forall_mem_cons.mpr ⟨hcs, fun p hp => (List.mem_append.mp hp).elim (hs p) fun hp => koff p hp _ (.tail _ (.head _))⟩
    have hl9 : ∀ p ∈ (L' + 1, oc) :: (news ++ (tl ++ own)), p.1 ≠ l := List.forall_mem_cons.mpr ⟨hcl, fun p hp => (List.mem_append.mp hp).elim (hnl p) fun hp => koff p hp _ (.head _)⟩
    simp only [List.cons_append, List.nil_append] at N9
    dsimp only at q6 q7 q8 q9 q10 q11
    dsimp only [kstB] at F9
    k_steps
    refine Stop.mk ?_
    rename News _ _ _ _ => N7
    replace N7 := cb_drop N7 (fun p hp => .tail _ hp)
    k_dflt (refine LCg.ListComp_U (F₀ := by k_asm) (by rfl) (by decide) (by rfl) (by decide) (by rfl) ?_)
    k_with "CompSrc" => refine Stop.out ?_
    k_steps
    refine Stop.mk ?_
    rename IsRange _ _ _ _ _ _ _ _ => rg2
    refine LCg.CompSrc.range (by rfl) (by k_asm) (by k_asm) rg2 (small_one (by omega) (by omega) (by omega) (by omega)) (rangeSize_nat _ _) (by rw [sizeLine_eq]; omega) fun g9 => ?_
    refine rest_ind (fun i ys nx => ∃ (ns : List Int) (a' b' : Int) (ta' tb' : Tok), IntsAre ys ns ∧ ns.length = i ∧ KBa.In ns ∧ 0 ≤ a' ∧ 0 ≤ b' ∧ b' < 2147483647 ∧ nx = (l, listOf vs.toArray cap) :: (sa, srcObj a' b' ta' tb' n) :: (L' + 1, oc) :: (news ++ (tl ++ own)))
      ⟨[], _, _, _, _, .nil, rfl, List.forall_mem_nil _, by assumption, by assumption, by assumption, rfl⟩ ?turn2 ?fin2
    case turn2 =>
      rintro i ys nx v I oI C oC D m₂ h9 tk9 E' hi ⟨ns, a', b', ta', tb', hi9, hl, hin, p1, p2, p3, rfl⟩ hv hC hx F9 N9 off9 ne9
      have oI9 : I ≠ sa := Ne.symm off9.2.1.1
      have oC9 : C ≠ sa := Ne.symm off9.2.1.2.1
      have oD9 : D ≠ sa := Ne.symm off9.2.1.2.2
      k_steps
      rename Fr _ _ _ _ => F8
      rename News _ _ _ _ => N8
      exact LCg.CompEnd.intro F8 N8 _ (fun _ h => .tail _ h) off9 trivial ⟨ns ++ [cb], _, _, _, _, hi9.append (.cons _ _ .nil), by rw [List.length_append, List.length_singleton, hl], in_snoc hin (pay_in _ cm), by assumption, by assumption, by assumption, rfl⟩
    case fin2 =>
      rintro ys nx ⟨ns, a', b', ta', tb', hi9, hl, hin, p1, p2, p3, rfl⟩
      unfold LCg.FinE
      intro D9 h9 tk9 F9 N9 o9
      have o8 : D9 ≠ sa := Ne.symm o9.2.1
      have hvl := q9.length
      have hpl : (KBw.bInts (byteArr ns)).length ≤ 4 := by rw [KBa.ints_make hin, hl]; omega
      k_steps
      all_goals refine Stop.mk ?_
      all_goals rename Fr _ _ _ _ => F8
      all_goals rename News _ _ _ _ => N8
      all_goals (refine append_any F8 N8 (.tail _ (.tail _ (.head _))) (_ :: _ :: (L' + 1, oc) :: (news ++ (tl ++ own))) (List.forall_mem_cons.mpr ⟨.head _, List.forall_mem_cons.mpr ⟨.tail _ (.tail _ (.tail _ (.head _))), fun p hp => .tail _ (.tail _ (.tail _ (.tail _ hp)))⟩⟩) (List.forall_mem_cons.mpr ⟨ne_obj N8 (.head _) (.tail _ (.tail _ (.head _))) tup_not_list, List.forall_mem_cons.mpr ⟨Ne.symm hne, hl9⟩⟩) (by omega) ?_)
      all_goals intro h7 F7 N7
      all_goals (try dsimp only)
      all_goals (try k_fold)
      all_goals k_steps
      all_goals rename (D9 < _ ∧ l < _ ∧ _) => l3
      · exact Stop.mk (rows_turn (r := (cb, byteArr ns, db')) ksep F7 N7 l3.2 (by kst_same) (by assumption) (by assumption) (by assumption) q9 q10 q11 ⟨cm, by dsimp only; omega, fun _ => d1', fun h => absurd (by assumption) h, d2'⟩)
      · exact Stop.mk (rows_turn (r := (cb, byteArr ns, #[])) ksep F7 N7 l3.2 (by kst_same) (by assumption) (by assumption) (by assumption) q9 q10 q11 ⟨cm, by dsimp only; omega, fun h => absurd h (by assumption), fun _ => rfl, Nat.zero_le _⟩)
  case done =>
    clear lF lN
    rintro ⟨xa, xb, ta, tb, vs, cap, rows⟩ tl u h tk koff ⟨⟨q6, q7, q8⟩, q9⟩ ⟨q10, q11⟩ F9 N9
    have hs9 : ∀ p ∈ (L' + 1, oc) :: (news ++ tl), p.1 ≠ sa := List.forall_mem_cons.mpr ⟨hcs, fun p hp => (List.mem_append.mp hp).elim (hs p) fun hp => koff p hp _ (.tail _ (.head _))⟩
    have hl9 : ∀ p ∈ (L' + 1, oc) :: (news ++ tl), p.1 ≠ l := List.forall_mem_cons.mpr ⟨hcl, fun p hp => (List.mem_append.mp hp).elim (hnl p) fun hp => koff p hp _ (.head _)⟩
    rw [rangeKs_length] at q10
    simp only [List.cons_append, List.nil_append] at N9
    dsimp only at q6 q7 q8 q9 q10 q11
    dsimp only [kstB] at F9
    have hvl := q9.length
    k_with "exec If" => refine Stop.out ?_
    k_steps
    refine Stop.mk ?_
    rename Fr _ _ _ _ => F8
    refine rows_if (l := l) (sa := sa) (c := (L' + 1, oc)) (n := n) (news := news) (cnt := rows.length) F8 ?ifs ?rest
    case ifs =>
      refine wpAny_If ?_
      k_steps
      · refine Stop.mk ?_
        rename Fr _ _ _ _ => F8
        rename News _ _ _ _ => N8
        refine append_any F8 N8 (.tail _ (.head _)) (_ :: _ :: (L' + 1, oc) :: (news ++ tl)) (List.forall_mem_cons.mpr ⟨.head _, List.forall_mem_cons.mpr ⟨.tail _ (.tail _ (.head _)), fun p hp => .tail _ (.tail _ (.tail _ hp))⟩⟩) (List.forall_mem_cons.mpr ⟨ne_obj N8 (.head _) (.tail _ (.head _)) tup_not_list, List.forall_mem_cons.mpr ⟨Ne.symm hne, hl9⟩⟩) (by omega) ?_
        intro h7 F7 N7
        (try dsimp only)
        (try k_fold)
        k_steps
        rename Fr _ _ _ _ => F6
        rename News _ _ _ _ => N6
        exact RowsIf.mk ⟨_, _, _, _, _, _, _, _, rows ++ [(254, (List.replicate (128 + v').toNat [(7 : UInt8), 255]).flatten.toArray, #[])], _ :: (news ++ tl), rfl, rfl, q3', q4', q5', (q9.mono fun p hp => mem_second hp).snoc ⟨_, _, _, _, _, rfl, .tail _ (.head _)⟩,
          all_snoc q11 ⟨List.mem_cons_self .., fill_len (by assumption), fun h => absurd h (show ¬ (254 : Int) = 218 by decide), fun _ => rfl, Nat.zero_le _⟩, Nat.le_of_eq (List.length_append ..),
          List.forall_mem_cons.mpr ⟨hs9 _ (.head _), List.forall_mem_cons.mpr ⟨ne_obj N6 (.tail _ (.head _)) (.tail _ (.tail _ (.head _))) tup_not_list, fun p hp => hs9 p (.tail _ hp)⟩⟩, List.forall_mem_cons.mpr ⟨hl9 _ (.head _), List.forall_mem_cons.mpr ⟨ne_obj N6 (.tail _ (.head _)) (.head _) tup_not_list, fun p hp => hl9 p (.tail _ hp)⟩⟩,
          fun p hp => .tail _ (List.mem_append_left _ hp), F6, rows_swap N6⟩
      · rename Fr _ _ _ _ => F6
        rename News _ _ _ _ => N6
        exact RowsIf.mk ⟨_, _, _, _, _, _, _, _, rows, _, rfl, rfl, q3', q4', q5', q9, q11, Nat.le_succ _, hs9, hl9, fun p hp => List.mem_append_left _ hp, F6, N6⟩
    case rest =>
      clear F8 hs9 hl9 q6 q7 q8
      intro h8 tk8 a8 b8 ta8 tb8 vs8 cap8 rows8 mids q12 q13 q14 q15 q16 q17 hs8 hl8 hn8 F7 N7
      have hvl8 := q15.length
      k_steps
      refine Stop.mk ?_
      rename Fr _ _ _ _ => F6
      rename News _ _ _ _ => N6
      refine append_any F6 N6 (.tail _ (.head _)) (_ :: _ :: (L' + 1, oc) :: mids) (List.forall_mem_cons.mpr ⟨.head _, List.forall_mem_cons.mpr ⟨.tail _ (.tail _ (.head _)), fun p hp => .tail _ (.tail _ (.tail _ hp))⟩⟩) (List.forall_mem_cons.mpr ⟨ne_obj N6 (.head _) (.tail _ (.head _)) tup_not_list, List.forall_mem_cons.mpr ⟨Ne.symm hne, hl8⟩⟩) (by omega) ?_
      intro h5 F5 N5
      (try dsimp only)
      (try k_fold)
      k_steps
      rename Fr _ _ _ _ => F4
      rename News _ _ _ _ => N4
      obtain ⟨led, g1, g2, g3, g4, g5⟩ := rows_out (news := news) (mids := _ :: (L' + 1, oc) :: mids) (mid := rows8 ++ [(218, #[1, 255], db')]) N4 (.head _) (.tail _ (.tail _ (.tail _ (.tail _ (.tail _ (.head _)))))) (.tail _ (.tail _ (.head _))) (.tail _ (.tail _ (.tail _ (.tail _ (.tail _ (.tail _ (.tail _ (.tail _ (.head _)))))))))
        ((q15.mono fun p hp => .tail _ hp).snoc ⟨_, _, _, _, _, rfl, .head _⟩)
        (List.forall_mem_cons.mpr ⟨.tail _ (.tail _ (.tail _ (.tail _ (.tail _ (.tail _ (.tail _ (.head _))))))), fun p hp => .tail _ (.tail _ (.tail _ (.tail _ (.tail _ (.tail _ (.tail _ (.tail _ (.tail _ hp))))))))⟩)
        (List.forall_mem_cons.mpr ⟨ne_obj N4 (.tail _ (.tail _ (.tail _ (.tail _ (.tail _ (.tail _ (.tail _ (.head _)))))))) (.tail _ (.tail _ (.tail _ (.tail _ (.tail _ (.tail _ (.tail _ (.tail _ (.head _))))))))) tup_not_list, hs8⟩)
        (fun p hp => .tail _ (.tail _ (hn8 p hp)))
      refine hret _ _ _ _ ⟨_, _, _, led, _, _, _, _, ?a1, ?a2, ?a3, ?a4, ?a5, ?a6, g1, g2, g3, g4, rfl, rfl⟩ F4 g5
      case a1 => assumption
      case a2 => assumption
      case a3 => assumption
      case a4 => simp only [List.length_append, List.length_singleton]; omega
      case a5 => simp only [List.length_append, List.length_singleton]; omega
      case a6 => exact all_snoc q16 (row218 d1' d2')

/-- the octets of a row -/
def rowOcts (r : RowI) : List Int := [255, r.1] ++ (if r.1 = 216 ∨ r.1 = 217 then [] else [(r.2.1.length + 2 : Int) / 256, (r.2.1.length + 2 : Int) % 256] ++ (r.2.1 ++ r.2.2))
/-- the octets of rows, with fill octets ahead of each but the first -/
def octsM (f : Nat) : List RowI → List Int
  | [] => []
  | r :: rs => rowOcts r ++ (rs.map fun r => List.replicate f 255 ++ rowOcts r).flatten
theorem octsM_snoc (f : Nat) (rs : List RowI) (r : RowI) : octsM f (rs ++ [r]) = octsM f rs ++ (List.replicate (if 0 < rs.length then f else 0) 255 ++ rowOcts r) := by
  cases rs with
  | nil => simp [octsM]
  | cons q rs => simp [octsM, List.map_append, List.flatten_append]
section
variable {prog : Program} {w : World} {A : Around} {E : Value → Shared → Prop} {s : Shared} {h₀ : Heap} {L l : Addr} {m : Str → Option Value} {news : List (Addr × Obj)}
theorem tups_item {value slice : PySem.Expr} {led : List (Addr × Obj)} {vs : List Value} {rows : List RowB} {cap : Nat} {k : Int} {u : Tok} {Q : Value → Shared → Prop} (N : News h₀ L s.heap news) (hm : (l, listOf vs.toArray cap) ∈ news) (ht : TupsIn led vs rows) (hs : ∀ p ∈ led, p ∈ news)
    (h0 : 0 ≤ k) (h1 : k.toNat < rows.length) (hfit : k < 1000000) (h : ∀ x nt tc tp td, News h₀ L s.heap ((x, rowTup rows[k.toNat] tc tp td nt) :: news) → Q (.ref x) s)
    (hss : subscripted slice false (.ref l) (.int k u) = operate [.ref l, .int k u] (getItem (.ref l) (.int k u)) := by with_unfolding_all rfl) :
    wpAny (model prog w) A (subscriptTail value slice (.ref l) (.int k u)) Q E s := by
  have hl : s.heap.IsList l vs.toArray := ⟨_, (N _ hm).1, rfl, cap, rfl⟩
  obtain ⟨v, hv, x, nt, tc, tp, td, rfl, hmem⟩ := ht.get h1
  refine tail_any hl.typeIs slot_list_getitem.lookup (wpAny_getItem_list hl h0 (Int.lt_of_lt_of_le hfit (by decide)) (x := .ref x) (by rw [List.getElem?_toArray]; exact hv) (h x nt tc tp td fun p hp => ?_)) hss
  rcases List.mem_cons.mp hp with rfl | hp
  · exact N _ (hs _ hmem)
  · exact N p hp
end
theorem len_tups {prog : Program} {w : World} {A : Around} {E : Value → Shared → Prop} {s : Shared} {h₀ : Heap} {L l : Addr} {news led : List (Addr × Obj)} {vs : List Value} {rows : List RowB} {cap : Nat} {Q : Value → Shared → Prop} (N : News h₀ L s.heap news) (hm : (l, listOf vs.toArray cap) ∈ news) (ht : TupsIn led vs rows) (hn : rows.length ≤ 1000000)
    (h : Q (.int (rows.length : Int) (s.toks + 1)) { s with toks := s.toks + 1 + 1 }) : wpAny (model prog w) A (call (.builtin "len") [.ref l]) Q E s := by
  refine PyProof.Rows.len_list (items := vs.toArray) ⟨_, (N _ hm).1, rfl, cap, rfl⟩ ?_ ?_
  · rw [List.size_toArray, ht.length]; omega
  · rw [List.size_toArray, ht.length]; exact h
theorem rep_ints (n : Nat) : KBw.bInts ((List.replicate n [(255 : UInt8)]).flatten.toArray) = List.replicate n 255 := by
  rw [KBw.ints_list]
  induction n with
  | zero => rfl
  | succ n ih => rw [List.replicate_succ, List.flatten_cons, List.map_append, ih]; rfl
theorem mul255 {prog : Program} {w : World} {A : Around} {E : Value → Shared → Prop} {s : Shared} {n : Int} {t u : Tok} {Q : Value → Shared → Prop} (h0 : 0 ≤ n) (h1 : n ≤ 2) (h : ∀ b t' k xs, KBw.bInts b = xs → xs = List.replicate n.toNat 255 → xs.length ≤ 2 → Q (.bytes b t') { s with toks := k }) :
    wpAny (model prog w) A (binaryOp .Mult (.bytes #[255] t) (.int n u)) Q E s :=
  bytes_mul_any (b := [255]) (List.cons_ne_nil _ _) (by omega) (by omega) (by decide) fun t' k => h _ t' k _ (rep_ints _) rfl (by rw [List.length_replicate]; omega)
structure Joined (g : Int) (s : Shared) (v : Value) (s' : Shared) : Prop where
  all : ∃ tk n, v = .int g tk ∧ s' = { s with toks := n }
theorem join_int {M : Model} {A : Around} {E : Value → Shared → Prop} {s : Shared} {T : Sem Value} {g : Int} {Q : Value → Shared → Prop} (h1 : wpAny M A T (Joined g s) E s) (h2 : ∀ tk n, Q (.int g tk) { s with toks := n }) : wpAny M A T Q E s :=
  wpAny_mono h1 (fun v s' hv => by obtain ⟨tk, n, rfl, rfl⟩ := hv.all; exact h2 tk n) fun _ _ e => e
theorem big_two {x : Int} (h0 : 0 ≤ x) (h1 : x < 65536) : (KTBy.little 2 x).reverse = [x / 256, x % 256] := by
  show [x / 256 % 256, x % 256] = _
  rw [Int.emod_eq_of_lt (by omega) (by omega)]
theorem rowOcts_bare {c : Int} {p d : List Int} (h : c = 216 ∨ c = 217) : rowOcts (c, p, d) = [255, c] := by
  rw [rowOcts, if_pos h]; rfl
theorem rowOcts_full {c : Int} {p d : List Int} (h : ¬ (c = 216 ∨ c = 217)) : rowOcts (c, p, d) = [255, c] ++ ([(p.length + 2 : Int) / 256, (p.length + 2 : Int) % 256] ++ (p ++ d)) := by
  rw [rowOcts, if_neg h]
theorem ends_yes {c : Int} (h : ([216, 217].any fun x => x == c) = true) : c = 216 ∨ c = 217 := by
  simp only [List.any_cons, List.any_nil, Bool.or_false, Bool.or_eq_true, beq_iff_eq] at h; omega
theorem ends_no {c : Int} (h : ([216, 217].any fun x => x == c) = false) : ¬ (c = 216 ∨ c = 217) := by
  simp only [List.any_cons, List.any_nil, Bool.or_false, Bool.or_eq_false_iff, beq_eq_false_iff_ne] at h; omega
theorem oct_step {rows : List RowB} {pre : List Int} {k f : Int} {r : RowB} {os : List Int} (hk0 : k = (pre.length : Int)) (hlt : k.toNat < rows.length) (hr : rows[k.toNat] = r) (hos : os = octsM f.toNat ((rows.take pre.length).map ri)) :
    octsM f.toNat ((rows.take (pre ++ [k]).length).map ri) = os ++ (List.replicate (if 0 < k then f else 0).toNat 255 ++ rowOcts (ri r)) := by
  subst hk0
  rw [Int.toNat_natCast] at hlt
  simp only [Int.toNat_natCast] at hr
  rw [List.length_append, List.length_singleton, List.take_add_one, List.getElem?_eq_getElem hlt, hr, List.map_append, hos]
  show octsM _ (_ ++ [ri r]) = _
  rw [octsM_snoc, List.length_map, List.length_take, Nat.min_eq_left (Nat.le_of_lt hlt)]
  congr 3
  split <;> split <;> first | rfl | omega
set_option maxHeartbeats 4000000 in
theorem octets_at {prog : Program} {w : World} (news : List (Addr × Obj)) (l : Addr) (vs : List Value) (cap : Nat) (rows : List RowB) (f : Int) (t : Tok) (hl : (l, listOf vs.toArray cap) ∈ news) (ht : TupsIn news vs rows) (hf0 : 0 ≤ f) (hf1 : f ≤ 2) (hn : rows.length ≤ 20)
    (hr : ∀ r ∈ rows, 0 ≤ r.1 ∧ r.1 < 256 ∧ (KBw.bInts r.2.1).length ≤ 260 ∧ (KBw.bInts r.2.2).length ≤ 6) :
    Calls prog w 2 212 [.ref l, .int f t] news (fun r n' => (∃ (b : Array UInt8) (tk : Tok), KBw.bInts b = octsM f.toNat (rows.map ri) ∧ (octsM f.toNat (rows.map ri)).length ≤ 8000 ∧ r = .bytes b tk) ∧ n' = news) (fun _ => False) := by
  k_with_none
  k_with "exec Raise some none" => (k_here; (with_reducible show wpAny _ _ (exec (Stmt.Raise (some (PySem.Expr.Call (PySem.Expr.Name ("CutError" : Str) _) _ _ _)) none _) _) _ _ _); k_dflt (refine raise68 rfl ?_))
  k_with "exec Raise some none" => (k_here; (with_reducible show wpAny _ _ (exec (Stmt.Raise (some (PySem.Expr.Call (PySem.Expr.Name ("MarkerError" : Str) _) _ _ _)) none _) _) _ _ _); k_dflt (refine raise44 rfl ?_))
  k_with "exec Raise some none" => (k_here; (with_reducible show wpAny _ _ (exec (Stmt.Raise (some (PySem.Expr.Call (PySem.Expr.Name ("SegmentError" : Str) _) _ _ _)) none _) _) _ _ _); k_dflt (refine raise56 rfl ?_))
  k_with "call ref" => (k_here; (with_reducible show wpAny _ _ (call (Value.ref _) [Value.str _ _]) (RaiseAt _ _ _) _ _); k_dflt (first | refine' exc_call (exc68 _) ?k1 ?k2 ?k3 ?k4 ?k5 ?kA ?kF ?kK ?kd ?_ | refine' exc_call (exc44 _) ?k1 ?k2 ?k3 ?k4 ?k5 ?kA ?kF ?kK ?kd ?_ | refine' exc_call (exc56 _) ?k1 ?k2 ?k3 ?k4 ?k5 ?kA ?kF ?kK ?kd ?_); (case k1 => k_asm); (case k2 => k_asm); (case k3 => k_asm); (case k4 => k_asm); (case k5 => k_asm); (case kA => exact rfl); (case kF => exact rfl); (case kK => first | exact rfl | assumption); (case kd => ktr_room); intro e' t' dx' h' tk' F' N' D'; refine ⟨_, _, _, rfl, Frag.In.keeps (by k_asm) (Fr.keep F'), News.get N' (.head _), ?_⟩; (try k_sweep))
  k_with "leaving ref" => (k_here; k_dflt (first | (refine' leave_raiseM ?k1 ?k2 ?k3 ?k4 ?_; (case k3 => assumption); (case k1 => assumption); (case k2 => assumption); (case k4 => assumption); intro h' R' U'; (try dsimp only at R' U' ⊢)) | (refine' leave_onM ?k1 ?k2 ?k3 ?k4 ?_; (case k3 => assumption); (case k1 => assumption); (case k4 => assumption); (case k2 => assumption); intro h' R' U'; (try dsimp only at R' U' ⊢))))
  k_with "call type:bytes" => (k_here; (with_reducible show wpAny _ _ (call (Value.type "bytes") [Value.bytes _ _]) _ _ _); k_dflt (refine bytes_again ?_); intro _)
  k_with "call type:bytes" => (k_here; (with_reducible show wpAny _ _ (call (Value.type "bytes") [Value.int _ _]) _ _ _); k_dflt (refine bytes_zeros (by omega) (by omega) ?_); intro _ _)
  k_with "call ref" => (k_here; (with_reducible show wpAny _ _ (call (Value.ref 96) _) _ _ _); k_dflt (refine' Calls.use (is_restart_spec _ _ _) ?k1 ?k2 ?k3 ?k4 ?k5 ?kK ?kd ?ku ?_ ?_); (case k1 => k_asm); (case k2 => k_asm); (case k3 => k_asm); (case k4 => k_asm); (case k5 => k_asm); (case kK => first | exact rfl | assumption); (case kd => ktr_room); (case ku => ktr_units); (all_goals first | (intro C' g' e' h' tk' hx' FG' R' U'; first | exact hx'.elim | ((with_reducible have ck' := RaisedM.sub R' (fun _ hp => hp)); clear ck'; (try dsimp only at R' U'))) | (intro r' n' h' tk' hR' F' N'; (try k_sweep); (obtain ⟨rfl, rfl⟩ := hR'); (try dsimp only); (try k_fold))))
  k_with "call ref" => (k_here; (with_reducible show wpAny _ _ (call (Value.ref 103) _) _ _ _); k_dflt (refine' Calls.use (has_length_spec _ _ _) ?k1 ?k2 ?k3 ?k4 ?k5 ?kK ?kd ?ku ?_ ?_); (case k1 => k_asm); (case k2 => k_asm); (case k3 => k_asm); (case k4 => k_asm); (case k5 => k_asm); (case kK => first | exact rfl | assumption); (case kd => ktr_room); (case ku => ktr_units); (all_goals first | (intro C' g' e' h' tk' hx' FG' R' U'; first | exact hx'.elim | ((with_reducible have ck' := RaisedM.sub R' (fun _ hp => hp)); clear ck'; (try dsimp only at R' U'))) | (intro r' n' h' tk' hR' F' N'; (try k_sweep); (obtain ⟨rfl, rfl⟩ := hR'); (try dsimp only); (try k_fold))))
  k_with "call ref" => (k_here; (with_reducible show wpAny _ _ (call (Value.ref 132) _) _ _ _); k_dflt (refine' Calls.use (next_marker_spec _ _ _ _ _ _ ?p1 ?p2 ?p3) ?k1 ?k2 ?k3 ?k4 ?k5 ?kK ?kd ?ku ?_ ?_); (case k1 => k_asm); (case k2 => k_asm); (case k3 => k_asm); (case k4 => k_asm); (case k5 => k_asm); (case kK => first | exact rfl | assumption); (case kd => ktr_room); (case ku => ktr_units); (case p1 => assumption); (case p2 => assumption); (case p3 => first | assumption | omega); (all_goals first | (intro C' g' e' h' tk' hx' FG' R' U'; first | exact hx'.elim | ((with_reducible have ck' := RaisedM.sub R' (fun _ hp => hp)); clear ck'; (try dsimp only at R' U'))) | (intro r' n' h' tk' hR' F' N'; (try k_sweep); (obtain ⟨fd', e0, rfl, rfl⟩ := hR'); (try dsimp only); (try k_fold))))
  k_with "KswEnd" => (k_here; (rename Fr _ _ _ _ => F9); (rename News _ _ _ _ => N9); k_dflt (refine' ksw_end ⟨_, _⟩ F9 N9 ?ka ?kb ?kc ?kz ?kp ?km); (case ka => first | exact fun _ hp => hp | exact fun _ hp => .tail _ hp | kst_in); (case kb => kst_facts); (case kc => kst_all); (case kz => (intro z h2 h3; have h9 := h2 _ (.head _); first | (dsimp only at h9 ⊢; simp only [if_neg h9, List.contains_nil, Bool.false_eq_true, if_false]; first | done | rfl | (simp only [kstB, List.contains_nil, Bool.false_eq_true, if_false]; first | done | rfl)) | ksw_same)); (case kp => kst_p); (case km => ksw_less))
  k_with "call ref" => (k_here; (with_reducible show wpAny _ _ (call (Value.ref 139) _) _ _ _); k_dflt (refine' Calls.use (data_end_spec _ _ _ _ _ _ ?p1 ?p2 ?p3) ?k1 ?k2 ?k3 ?k4 ?k5 ?kK ?kd ?ku ?_ ?_); (case k1 => k_asm); (case k2 => k_asm); (case k3 => k_asm); (case k4 => k_asm); (case k5 => k_asm); (case kK => first | exact rfl | assumption); (case kd => ktr_room); (case ku => ktr_units); (case p1 => assumption); (case p2 => assumption); (case p3 => first | assumption | omega); (all_goals first | (intro C' g' e' h' tk' hx' FG' R' U'; first | exact hx'.elim | ((with_reducible have ck' := RaisedM.sub R' (fun _ hp => hp)); clear ck'; (try dsimp only at R' U'))) | (intro r' n' h' tk' hR' F' N'; (try k_sweep); (obtain ⟨pe', tk9, e0, rfl, rfl⟩ := hR'); (try dsimp only); (try k_fold))))
  k_with "call ref" => (k_here; (with_reducible show wpAny _ _ (call (Value.ref 146) _) _ _ _); k_dflt (refine' Calls.use (read_code_spec _ _ _ _ _ _ ?p1 ?p2 ?p3) ?k1 ?k2 ?k3 ?k4 ?k5 ?kK ?kd ?ku ?_ ?_); (case k1 => k_asm); (case k2 => k_asm); (case k3 => k_asm); (case k4 => k_asm); (case k5 => k_asm); (case kK => first | exact rfl | assumption); (case kd => ktr_room); (case ku => ktr_units); (case p1 => assumption); (case p2 => assumption); (case p3 => first | assumption | omega); (all_goals first | (intro C' g' e' h' tk' hx' FG' R' U'; first | exact hx'.elim | ((with_reducible have ck' := RaisedM.sub R' (fun _ hp => hp)); clear ck'; (try dsimp only at R' U'))) | (intro r' n' h' tk' hR' F' N'; (try k_sweep); (obtain ⟨k', j', D', t1', t2', e0, e1, rfl, rfl⟩ := hR'); (try dsimp only); (try k_fold))))
  k_with "call ref" => (k_here; (with_reducible show wpAny _ _ (call (Value.ref 153) _) _ _ _); k_dflt (refine' Calls.use (read_payload_spec _ _ _ _ _ _ ?p1 ?p2 ?p3) ?k1 ?k2 ?k3 ?k4 ?k5 ?kK ?kd ?ku ?_ ?_); (case k1 => k_asm); (case k2 => k_asm); (case k3 => k_asm); (case k4 => k_asm); (case k5 => k_asm); (case kK => first | exact rfl | assumption); (case kd => ktr_room); (case ku => ktr_units); (case p1 => assumption); (case p2 => assumption); (case p3 => first | assumption | omega); (all_goals first | (intro C' g' e' h' tk' hx' FG' R' U'; first | exact hx'.elim | ((with_reducible have ck' := RaisedM.sub R' (fun _ hp => hp)); clear ck'; (try dsimp only at R' U'))) | (intro r' n' h' tk' hR' F' N'; (try k_sweep); (obtain ⟨pl', j', D', b', t1', t2', e0, e1, rfl, rfl, e2⟩ := hR'); (try dsimp only); (try k_fold))))
  k_with "call ref" => (k_here; (with_reducible show wpAny _ _ (call (Value.ref 121) _) _ _ _); k_dflt (refine' Calls.use (piece_spec _ _ _ _ _ (.inl rfl)) ?k1 ?k2 ?k3 ?k4 ?k5 ?kK ?kd ?ku ?_ ?_); (case k1 => k_asm); (case k2 => k_asm); (case k3 => k_asm); (case k4 => k_asm); (case k5 => k_asm); (case kK => first | exact rfl | assumption); (case kd => ktr_room); (case ku => ktr_units); (all_goals first | (intro C' g' e' h' tk' hx' FG' R' U'; first | exact hx'.elim | ((with_reducible have ck' := RaisedM.sub R' (fun _ hp => hp)); clear ck'; (try dsimp only at R' U'))) | (intro r' n' h' tk' hR' F' N'; (try k_sweep); (obtain ⟨x', dx', h1', h2', h3', k1', k2', k3', rfl, lx', ly', rfl⟩ := hR'); (try dsimp only); (try k_fold))))
  k_with "call ref" => (k_here; (with_reducible show wpAny _ _ (call (Value.ref 121) _) _ _ _); k_dflt (refine' Calls.use (piece_spec _ _ _ _ _ (.inr (.inl ⟨rfl, rfl⟩))) ?k1 ?k2 ?k3 ?k4 ?k5 ?kK ?kd ?ku ?_ ?_); (case k1 => k_asm); (case k2 => k_asm); (case k3 => k_asm); (case k4 => k_asm); (case k5 => k_asm); (case kK => first | exact rfl | assumption); (case kd => ktr_room); (case ku => ktr_units); (all_goals first | (intro C' g' e' h' tk' hx' FG' R' U'; first | exact hx'.elim | ((with_reducible have ck' := RaisedM.sub R' (fun _ hp => hp)); clear ck'; (try dsimp only at R' U'))) | (intro r' n' h' tk' hR' F' N'; (try k_sweep); (obtain ⟨x', dx', h1', h2', h3', k1', k2', k3', rfl, lx', ly', rfl⟩ := hR'); (try dsimp only); (try k_fold))))
  k_with "call ref" => (k_here; (with_reducible show wpAny _ _ (call (Value.ref 121) _) _ _ _); k_dflt (refine' Calls.use (piece_spec _ _ _ _ _ (.inr (.inr ⟨rfl, rfl, rfl⟩))) ?k1 ?k2 ?k3 ?k4 ?k5 ?kK ?kd ?ku ?_ ?_); (case k1 => k_asm); (case k2 => k_asm); (case k3 => k_asm); (case k4 => k_asm); (case k5 => k_asm); (case kK => first | exact rfl | assumption); (case kd => ktr_room); (case ku => ktr_units); (all_goals first | (intro C' g' e' h' tk' hx' FG' R' U'; first | exact hx'.elim | ((with_reducible have ck' := RaisedM.sub R' (fun _ hp => hp)); clear ck'; (try dsimp only at R' U'))) | (intro r' n' h' tk' hR' F' N'; (try k_sweep); (obtain ⟨x', dx', h1', h2', h3', k1', k2', k3', rfl, lx', ly', rfl⟩ := hR'); (try dsimp only); (try k_fold))))
  k_with "call ref" => (k_here; (with_reducible show wpAny _ _ (call (Value.ref 160) _) _ _ _); k_dflt (refine' Calls.use (read_piece_spec _ _ _ _ _ _ ?p1 ?p2 ?p3) ?k1 ?k2 ?k3 ?k4 ?k5 ?kK ?kd ?ku ?_ ?_); (case k1 => k_asm); (case k2 => k_asm); (case k3 => k_asm); (case k4 => k_asm); (case k5 => k_asm); (case kK => first | exact rfl | assumption); (case kd => ktr_room); (case ku => ktr_units); (case p1 => assumption); (case p2 => assumption); (case p3 => first | assumption | omega); (all_goals first | (intro C' g' e' h' tk' hx' FG' R' U'; first | exact hx'.elim | ((with_reducible have ck' := RaisedM.sub R' (fun _ hp => hp)); clear ck'; (try dsimp only at R' U'))) | (intro r' n' h' tk' hR' F' N'; (try k_sweep); (obtain ⟨D', x', dx', t1', tc', tp', td', k1', k2', k3', h1', h2', h3', k', j', pb', db', e0, e1, rfl, rfl⟩ := hR'); (try dsimp only); (try k_fold))))
  k_with "call ref" => (k_here; (with_reducible show wpAny _ _ (call (Value.ref 89) _) _ _ _); k_dflt (refine' Calls.use (word_spec _ _ _ ?p1 ?p2) ?k1 ?k2 ?k3 ?k4 ?k5 ?kK ?kd ?ku ?_ ?_); (case k1 => k_asm); (case k2 => k_asm); (case k3 => k_asm); (case k4 => k_asm); (case k5 => k_asm); (case kK => first | exact rfl | assumption); (case kd => ktr_room); (case ku => ktr_units); (case p1 => omega); (case p2 => omega); (all_goals first | (intro C' g' e' h' tk' hx' FG' R' U'; first | exact hx'.elim | ((with_reducible have ck' := RaisedM.sub R' (fun _ hp => hp)); clear ck'; (try dsimp only at R' U'))) | (intro r' n' h' tk' hR' F' N'; (try k_sweep); (obtain ⟨⟨wb', wt', ew', rfl⟩, rfl⟩ := hR'); (try dsimp only); (try k_fold))))
  k_with "call ref" => (k_here; (with_reducible show wpAny _ _ (call (Value.ref 174) _) _ _ _); k_dflt (refine' Calls.use (write_piece_spec _ _ _ ?p1 ?p2 ?p3 ?p4 ?p5) ?k1 ?k2 ?k3 ?k4 ?k5 ?kK ?kd ?ku ?_ ?_); (case k1 => k_asm); (case k2 => k_asm); (case k3 => k_asm); (case k4 => k_asm); (case k5 => k_asm); (case kK => first | exact rfl | assumption); (case kd => ktr_room); (case ku => ktr_units); (case p1 => exact PieceIn.mono (by assumption) (by k_sub)); (case p2 => (first | exact hri.1 | omega)); (case p3 => (first | exact hri.2.1 | omega)); (case p4 => (first | exact hri.2.2.1 | omega)); (case p5 => (first | exact hri.2.2.2 | omega)); (all_goals first | (intro C' g' e' h' tk' hx' FG' R' U'; first | exact hx'.elim | ((with_reducible have ck' := RaisedM.sub R' (fun _ hp => hp)); clear ck'; (try dsimp only at R' U'))) | (intro r' n' h' tk' hR' F' N'; (try k_sweep); (obtain ⟨⟨wb', wt', ew', rfl⟩, rfl⟩ := hR'); (try dsimp only); (try k_fold))))
  k_with "call ref" => (k_here; (with_reducible show wpAny _ _ (call (Value.ref 193) _) _ _ _); k_dflt (refine' Calls.use (take_spec _ _ ?p0 ?p1 ?p2 ?p3 ?p4 ?p5) ?k1 ?k2 ?k3 ?k4 ?k5 ?kK ?kd ?ku ?_ ?_); (case k1 => k_asm); (case k2 => k_asm); (case k3 => k_asm); (case k4 => k_asm); (case k5 => k_asm); (case kK => first | exact rfl | assumption); (case kd => ktr_room); (case ku => ktr_units); (case p0 => (first | exact UpdF.head (by assumption) | (refine' UpdF.head ?zz; (case zz => k_all)) | (refine' UpdF.tail ?za ?zb; (case za => (first | k_ne | assumption)); (case zb => (first | exact UpdF.head (by assumption) | (refine' UpdF.head ?zz; (case zz => k_all)) | (refine' UpdF.tail ?za ?zb; (case za => (first | k_ne | assumption)); (case zb => (first | exact UpdF.head (by assumption) | (refine' UpdF.head ?zz; (case zz => k_all)) | (refine' UpdF.tail ?za ?zb; (case za => (first | k_ne | assumption)); (case zb => (first | exact UpdF.head (by assumption) | (refine' UpdF.head ?zz; (case zz => k_all)) | (refine' UpdF.tail ?za ?zb; (case za => (first | k_ne | assumption)); (case zb => (first | exact UpdF.head (by assumption) | (refine' UpdF.head ?zz; (case zz => k_all)) | (refine' UpdF.tail ?za ?zb; (case za => (first | k_ne | assumption)); (case zb => (exact UpdF.head (by assumption)))))))))))))))))); (case p1 => assumption); (case p2 => assumption); (case p3 => assumption); (case p4 => k_dflt (first | decide | omega)); (case p5 => k_dflt (first | decide | omega)); (all_goals first | (intro C' g' e' h' tk' hx' FG' R' U'; first | exact hx'.elim | ((with_reducible have ck' := RaisedM.sub R' (fun _ hp => hp)); clear ck'; (try dsimp only at R' U'))) | (intro r' n' h' tk' hR' F' N'; (try k_sweep); (obtain ⟨v', tv', xa', xb', ta', tb', q1', q2', q3', q4', q5', rfl, rfl⟩ := hR'); (try dsimp only); (try k_fold))))
  k_with "call ref" => (k_here; (with_reducible show wpAny _ _ (call (Value.ref 200) _) _ _ _); k_dflt (refine' Calls.use (data_spec ?p0 ?p1 ?p2 ?p3) ?k1 ?k2 ?k3 ?k4 ?k5 ?kK ?kd ?ku ?_ ?_); (case k1 => k_asm); (case k2 => k_asm); (case k3 => k_asm); (case k4 => k_asm); (case k5 => k_asm); (case kK => first | exact rfl | assumption); (case kd => ktr_room); (case ku => ktr_units); (case p0 => (first | exact UpdF.head (by assumption) | (refine' UpdF.head ?zz; (case zz => k_all)) | (refine' UpdF.tail ?za ?zb; (case za => (first | k_ne | assumption)); (case zb => (first | exact UpdF.head (by assumption) | (refine' UpdF.head ?zz; (case zz => k_all)) | (refine' UpdF.tail ?za ?zb; (case za => (first | k_ne | assumption)); (case zb => (first | exact UpdF.head (by assumption) | (refine' UpdF.head ?zz; (case zz => k_all)) | (refine' UpdF.tail ?za ?zb; (case za => (first | k_ne | assumption)); (case zb => (first | exact UpdF.head (by assumption) | (refine' UpdF.head ?zz; (case zz => k_all)) | (refine' UpdF.tail ?za ?zb; (case za => (first | k_ne | assumption)); (case zb => (first | exact UpdF.head (by assumption) | (refine' UpdF.head ?zz; (case zz => k_all)) | (refine' UpdF.tail ?za ?zb; (case za => (first | k_ne | assumption)); (case zb => (exact UpdF.head (by assumption)))))))))))))))))); (case p1 => assumption); (case p2 => assumption); (case p3 => assumption); (all_goals first | (intro C' g' e' h' tk' hx' FG' R' U'; first | exact hx'.elim | ((with_reducible have ck' := RaisedM.sub R' (fun _ hp => hp)); clear ck'; (try dsimp only at R' U'))) | (intro r' n' h' tk' hR' F' N'; (try k_sweep); (obtain ⟨db', dt', xa', xb', ta', tb', d1', d2', q3', q4', q5', rfl, rfl⟩ := hR'); (try dsimp only); (try k_fold))))
  intro dp un gd cn cs a ccd cl outer A₀ base h₀ L m s p loose mean mg mb Q E hB hF hX hN hT hk hd hu hret hex
  refine wpAny_call ?_
  k_dflt cell_enter
  k_with "pyIter ref" => refine Stop.out ?_
  k_with "InvEndG" => refine Stop.out ?_
  k_with "subscriptTail" => refine Stop.out ?_
  k_with "call builtin:len" => (k_here; (with_reducible show wpAny _ _ (call (Value.builtin "len") [Value.ref _]) _ _ _); refine' len_tups ?k1 ?k2 ht ?k3 ?_; (case k1 => k_asm); (case k2 => first | assumption | k_mem); (case k3 => omega))
  k_with "binaryOp Mult bytes int" => (k_here; (refine mul255 ?h1 ?h2 ?_; (case h1 => (split <;> omega)); (case h2 => (split <;> omega)); intro X9 _ _ xs9 hX9 hx1 hx2))
  k_with "call type:range" => ((rename Fr _ _ _ _ => F'); (rename News _ _ _ _ => N'); (with_unfolding_all refine range1_rows F' N' ?_; intro _ _ _ _ _ _ _ _ _))
  k_steps
  refine Stop.mk ?_
  rename IsRange _ _ _ _ _ _ _ _ => rg
  rename Fr _ _ _ _ => lF
  rename News _ _ _ _ => lN
  refine' kd_range (σ := Array UInt8 × Tok) (fun _ => []) news (fun c => [("found", .bytes c.1 c.2)]) (fun _ _ => True) ["code", "octets", "data"]
    (fun pre c => KBw.bInts c.1 = octsM f.toNat ((rows.take pre.length).map ri) ∧ (KBw.bInts c.1).length ≤ 400 * pre.length) (news.map (·.1)) (#[], _) (by rfl) rg (small_one (by omega) (by omega) (by omega) (by omega)) (rangeSize_nat _ _) lF lN (fun p hp => by simpa using hp) (fun _ => rfl) trivial (List.forall_mem_cons.mpr ⟨rfl, List.forall_mem_nil _⟩) ⟨rfl, Nat.zero_le _⟩ ?turn ?done
  case turn =>
    clear lF lN
    rintro ⟨fb, ft⟩ tl pre k t u h tk own hk hlt ksep koff _ ⟨q1, q2⟩ F9 N9
    simp only [List.nil_append] at N9
    dsimp only at q1 q2
    dsimp only [kstB] at F9
    have hk0 : k = (pre.length : Int) := by omega
    have hlt2 : k.toNat < rows.length := by omega
    obtain ⟨r1, r2, r3, r4⟩ := hr _ (List.getElem_mem hlt2)
    k_steps
    refine Stop.mk ?_
    rename News _ _ _ _ => N8
    refine tups_item N8 (List.mem_append_left _ hl) ht (fun p hp => List.mem_append_left _ hp) (by omega) hlt2 (by omega) ?_
    clear N8
    intro x9 nt9 tc9 tp9 td9 N7
    generalize hrr : rows[k.toNat] = rr at *
    obtain ⟨c9, p9, d9⟩ := rr
    dsimp only at r1 r2 r3 r4
    obtain ⟨ps, hps⟩ : ∃ ps, KBw.bInts p9 = ps := ⟨_, rfl⟩
    obtain ⟨ds, hds⟩ : ∃ ds, KBw.bInts d9 = ds := ⟨_, rfl⟩
    rw [hps] at r3
    rw [hds] at r4
    obtain ⟨os, hos⟩ : ∃ os, os = octsM f.toNat ((rows.take pre.length).map ri) := ⟨_, rfl⟩
    rw [q1] at q2
    rw [← hos] at q1 q2
    (try dsimp only)
    (try k_fold)
    k_with "eval IfExp" => refine Stop.out ?_
    k_steps
    refine Stop.mk ?_
    refine join_int (g := if 0 < k then f else 0) ?ife fun tk7 n7 => ?_
    case ife =>
      with_reducible refine IfExp_ ?_
      k_steps
      · exact ⟨⟨_, _, by rw [if_pos (by omega)], rfl⟩⟩
      · exact ⟨⟨_, _, by rw [if_neg (by omega)], rfl⟩⟩
    (try dsimp only)
    (try k_fold)
    k_steps
    · rename Fr _ _ _ _ => F8
      rename News _ _ _ _ => N8
      rename (KBw.bInts (fb ++ X9 ++ _) = _) => e9
      refine Stop.mk (kd_end (_, _) [] ksep F8 N8 ?kdn ?kdo rfl (fun q hq => nomatch hq) (fun q hq => nomatch hq) (List.forall_mem_cons.mpr ⟨rfl, List.forall_mem_nil _⟩) (by kst_same) trivial ⟨?kp1, ?kp2⟩)
      case kdn => exact fun p hp => .tail _ (.tail _ (.tail _ (by rw [← List.append_assoc]; exact List.mem_append_left _ hp)))
      case kdo => exact fun p hp => .tail _ (.tail _ (.tail _ (List.mem_append_right _ (List.mem_append_right _ hp))))
      case kp1 => dsimp only; rw [e9, two_back r1 r2, oct_step hk0 hlt2 hrr hos, hx1, ri, rowOcts_bare (c := c9) (ends_yes (by assumption)), List.append_assoc]
      case kp2 => dsimp only; rw [e9, two_back r1 r2]; simp only [List.length_append, List.length_cons, List.length_nil]; omega
    · rename Fr _ _ _ _ => F8
      rename News _ _ _ _ => N8
      rename (KBw.bInts (fb ++ X9 ++ _ ++ _ ++ _ ++ _) = _) => e9
      refine Stop.mk (kd_end (_, _) [] ksep F8 N8 ?kdn ?kdo rfl (fun q hq => nomatch hq) (fun q hq => nomatch hq) (List.forall_mem_cons.mpr ⟨rfl, List.forall_mem_nil _⟩) (by kst_same) trivial ⟨?kp1, ?kp2⟩)
      case kdn => exact fun p hp => .tail _ (.tail _ (.tail _ (by rw [← List.append_assoc]; exact List.mem_append_left _ hp)))
      case kdo => exact fun p hp => .tail _ (.tail _ (.tail _ (List.mem_append_right _ (List.mem_append_right _ hp))))
      case kp1 => dsimp only; rw [e9, two_back r1 r2, oct_step hk0 hlt2 hrr hos, hx1, ri, rowOcts_full (c := c9) (ends_no (by assumption)), hps, hds, Int.emod_eq_of_lt (a := ((ps.length : Int) + 2) / 256) (by omega) (by omega)]; simp only [List.append_assoc]
      case kp2 => dsimp only; rw [e9, two_back r1 r2]; simp only [List.length_append, List.length_cons, List.length_nil]; omega
  case done =>
    clear lF lN
    rintro ⟨fb, ft⟩ tl u h tk koff _ ⟨q1, q2⟩ F9 N9
    simp only [List.nil_append] at N9
    dsimp only at q1 q2
    dsimp only [kstB] at F9
    rw [rangeKs_length] at q1
    rw [List.take_of_length_le (by omega)] at q1
    k_steps
    rename News _ _ _ _ => N8; replace N8 := cb_drop N8 (news := news) (fun p hp => List.mem_append_left _ hp)
    rw [q1, rangeKs_length] at q2
    (refine' hret _ _ _ _ (⟨⟨fb, ft, q1, Nat.le_trans q2 (by omega), rfl⟩, rfl⟩) ?hF ?hN; (case hN => assumption); (case hF => assumption))

theorem told_sub {a b c d e t : Addr × Obj} {nx : List (Addr × Obj)} : ∀ p ∈ a :: b :: c :: t :: nx, p ∈ t :: a :: b :: c :: d :: e :: nx := by
  intro p hp
  rcases List.mem_cons.mp hp with rfl | hp
  · exact .tail _ (.head _)
  rcases List.mem_cons.mp hp with rfl | hp
  · exact .tail _ (.tail _ (.head _))
  rcases List.mem_cons.mp hp with rfl | hp
  · exact .tail _ (.tail _ (.tail _ (.head _)))
  rcases List.mem_cons.mp hp with rfl | hp
  · exact .head _
  exact .tail _ (.tail _ (.tail _ (.tail _ (.tail _ (.tail _ hp)))))
theorem told_led {h₀ h : Heap} {L : Addr} {a b c d e : Addr × Obj} {nx : List (Addr × Obj)} (N : News h₀ L h (a :: b :: c :: nx)) (m1 : d ∈ nx) (m2 : e ∈ nx) : News h₀ L h (a :: b :: c :: d :: e :: nx) := by
  intro p hp
  rcases List.mem_cons.mp hp with rfl | hp
  · exact N _ (.head _)
  rcases List.mem_cons.mp hp with rfl | hp
  · exact N _ (.tail _ (.head _))
  rcases List.mem_cons.mp hp with rfl | hp
  · exact N _ (.tail _ (.tail _ (.head _)))
  refine N p (.tail _ (.tail _ (.tail _ ?_)))
  rcases List.mem_cons.mp hp with rfl | hp
  · exact m1
  rcases List.mem_cons.mp hp with rfl | hp
  · exact m2
  exact hp
set_option maxHeartbeats 4000000 in
theorem told_spec {prog : Program} {w : World} (news : List (Addr × Obj)) (b : Array UInt8) (ks : List Int) (tb : Tok) (is : List RowI) (hb : KBw.bInts b = ks) (hl : ks.length ≤ 1000000) (huq : ∀ o, ReadAll ks o → o = .ok is) (hn : is.length ≤ 1000) :
    Calls prog w 14 217 [.bytes b tb] news (fun r n' => ∃ (l : Addr) (vs : List Value) (cap : Nat) (rows : List RowB) (led : List (Addr × Obj)), rows.map ri = is ∧ r = .ref l ∧ n' = (l, listOf vs.toArray cap) :: led ∧ TupsIn led vs rows ∧ (∀ p ∈ news, p ∈ led)) (fun _ => False) := by
  k_with_none
  k_with "exec Raise some none" => (k_here; (with_reducible show wpAny _ _ (exec (Stmt.Raise (some (PySem.Expr.Call (PySem.Expr.Name ("CutError" : Str) _) _ _ _)) none _) _) _ _ _); k_dflt (refine raise68 rfl ?_))
  k_with "exec Raise some none" => (k_here; (with_reducible show wpAny _ _ (exec (Stmt.Raise (some (PySem.Expr.Call (PySem.Expr.Name ("MarkerError" : Str) _) _ _ _)) none _) _) _ _ _); k_dflt (refine raise44 rfl ?_))
  k_with "exec Raise some none" => (k_here; (with_reducible show wpAny _ _ (exec (Stmt.Raise (some (PySem.Expr.Call (PySem.Expr.Name ("SegmentError" : Str) _) _ _ _)) none _) _) _ _ _); k_dflt (refine raise56 rfl ?_))
  k_with "call ref" => (k_here; (with_reducible show wpAny _ _ (call (Value.ref _) [Value.str _ _]) (RaiseAt _ _ _) _ _); k_dflt (first | refine' exc_call (exc68 _) ?k1 ?k2 ?k3 ?k4 ?k5 ?kA ?kF ?kK ?kd ?_ | refine' exc_call (exc44 _) ?k1 ?k2 ?k3 ?k4 ?k5 ?kA ?kF ?kK ?kd ?_ | refine' exc_call (exc56 _) ?k1 ?k2 ?k3 ?k4 ?k5 ?kA ?kF ?kK ?kd ?_); (case k1 => k_asm); (case k2 => k_asm); (case k3 => k_asm); (case k4 => k_asm); (case k5 => k_asm); (case kA => exact rfl); (case kF => exact rfl); (case kK => first | exact rfl | assumption); (case kd => ktr_room); intro e' t' dx' h' tk' F' N' D'; refine ⟨_, _, _, rfl, Frag.In.keeps (by k_asm) (Fr.keep F'), News.get N' (.head _), ?_⟩; (try k_sweep))
  k_with "leaving ref" => (k_here; k_dflt (first | (refine' leave_raiseM ?k1 ?k2 ?k3 ?k4 ?_; (case k3 => assumption); (case k1 => assumption); (case k2 => assumption); (case k4 => assumption); intro h' R' U'; (try dsimp only at R' U' ⊢)) | (refine' leave_onM ?k1 ?k2 ?k3 ?k4 ?_; (case k3 => assumption); (case k1 => assumption); (case k4 => assumption); (case k2 => assumption); intro h' R' U'; (try dsimp only at R' U' ⊢))))
  k_with "call type:bytes" => (k_here; (with_reducible show wpAny _ _ (call (Value.type "bytes") [Value.bytes _ _]) _ _ _); k_dflt (refine bytes_again ?_); intro _)
  k_with "call type:bytes" => (k_here; (with_reducible show wpAny _ _ (call (Value.type "bytes") [Value.int _ _]) _ _ _); k_dflt (refine bytes_zeros (by omega) (by omega) ?_); intro _ _)
  k_with "call ref" => (k_here; (with_reducible show wpAny _ _ (call (Value.ref 96) _) _ _ _); k_dflt (refine' Calls.use (is_restart_spec _ _ _) ?k1 ?k2 ?k3 ?k4 ?k5 ?kK ?kd ?ku ?_ ?_); (case k1 => k_asm); (case k2 => k_asm); (case k3 => k_asm); (case k4 => k_asm); (case k5 => k_asm); (case kK => first | exact rfl | assumption); (case kd => ktr_room); (case ku => ktr_units); (all_goals first | (intro C' g' e' h' tk' hx' FG' R' U'; first | exact hx'.elim | ((with_reducible have ck' := RaisedM.sub R' (fun _ hp => hp)); clear ck'; (try dsimp only at R' U'))) | (intro r' n' h' tk' hR' F' N'; (try k_sweep); (obtain ⟨rfl, rfl⟩ := hR'); (try dsimp only); (try k_fold))))
  k_with "call ref" => (k_here; (with_reducible show wpAny _ _ (call (Value.ref 103) _) _ _ _); k_dflt (refine' Calls.use (has_length_spec _ _ _) ?k1 ?k2 ?k3 ?k4 ?k5 ?kK ?kd ?ku ?_ ?_); (case k1 => k_asm); (case k2 => k_asm); (case k3 => k_asm); (case k4 => k_asm); (case k5 => k_asm); (case kK => first | exact rfl | assumption); (case kd => ktr_room); (case ku => ktr_units); (all_goals first | (intro C' g' e' h' tk' hx' FG' R' U'; first | exact hx'.elim | ((with_reducible have ck' := RaisedM.sub R' (fun _ hp => hp)); clear ck'; (try dsimp only at R' U'))) | (intro r' n' h' tk' hR' F' N'; (try k_sweep); (obtain ⟨rfl, rfl⟩ := hR'); (try dsimp only); (try k_fold))))
  k_with "call ref" => (k_here; (with_reducible show wpAny _ _ (call (Value.ref 132) _) _ _ _); k_dflt (refine' Calls.use (next_marker_spec _ _ _ _ _ _ ?p1 ?p2 ?p3) ?k1 ?k2 ?k3 ?k4 ?k5 ?kK ?kd ?ku ?_ ?_); (case k1 => k_asm); (case k2 => k_asm); (case k3 => k_asm); (case k4 => k_asm); (case k5 => k_asm); (case kK => first | exact rfl | assumption); (case kd => ktr_room); (case ku => ktr_units); (case p1 => assumption); (case p2 => assumption); (case p3 => first | assumption | omega); (all_goals first | (intro C' g' e' h' tk' hx' FG' R' U'; first | exact hx'.elim | ((with_reducible have ck' := RaisedM.sub R' (fun _ hp => hp)); clear ck'; (try dsimp only at R' U'))) | (intro r' n' h' tk' hR' F' N'; (try k_sweep); (obtain ⟨fd', e0, rfl, rfl⟩ := hR'); (try dsimp only); (try k_fold))))
  k_with "KswEnd" => (k_here; (rename Fr _ _ _ _ => F9); (rename News _ _ _ _ => N9); k_dflt (refine' ksw_end ⟨_, _⟩ F9 N9 ?ka ?kb ?kc ?kz ?kp ?km); (case ka => first | exact fun _ hp => hp | exact fun _ hp => .tail _ hp | kst_in); (case kb => kst_facts); (case kc => kst_all); (case kz => (intro z h2 h3; have h9 := h2 _ (.head _); first | (dsimp only at h9 ⊢; simp only [if_neg h9, List.contains_nil, Bool.false_eq_true, if_false]; first | done | rfl | (simp only [kstB, List.contains_nil, Bool.false_eq_true, if_false]; first | done | rfl)) | ksw_same)); (case kp => kst_p); (case km => ksw_less))
  k_with "call ref" => (k_here; (with_reducible show wpAny _ _ (call (Value.ref 139) _) _ _ _); k_dflt (refine' Calls.use (data_end_spec _ _ _ _ _ _ ?p1 ?p2 ?p3) ?k1 ?k2 ?k3 ?k4 ?k5 ?kK ?kd ?ku ?_ ?_); (case k1 => k_asm); (case k2 => k_asm); (case k3 => k_asm); (case k4 => k_asm); (case k5 => k_asm); (case kK => first | exact rfl | assumption); (case kd => ktr_room); (case ku => ktr_units); (case p1 => assumption); (case p2 => assumption); (case p3 => first | assumption | omega); (all_goals first | (intro C' g' e' h' tk' hx' FG' R' U'; first | exact hx'.elim | ((with_reducible have ck' := RaisedM.sub R' (fun _ hp => hp)); clear ck'; (try dsimp only at R' U'))) | (intro r' n' h' tk' hR' F' N'; (try k_sweep); (obtain ⟨pe', tk9, e0, rfl, rfl⟩ := hR'); (try dsimp only); (try k_fold))))
  k_with "call ref" => (k_here; (with_reducible show wpAny _ _ (call (Value.ref 146) _) _ _ _); k_dflt (refine' Calls.use (read_code_spec _ _ _ _ _ _ ?p1 ?p2 ?p3) ?k1 ?k2 ?k3 ?k4 ?k5 ?kK ?kd ?ku ?_ ?_); (case k1 => k_asm); (case k2 => k_asm); (case k3 => k_asm); (case k4 => k_asm); (case k5 => k_asm); (case kK => first | exact rfl | assumption); (case kd => ktr_room); (case ku => ktr_units); (case p1 => assumption); (case p2 => assumption); (case p3 => first | assumption | omega); (all_goals first | (intro C' g' e' h' tk' hx' FG' R' U'; first | exact hx'.elim | ((with_reducible have ck' := RaisedM.sub R' (fun _ hp => hp)); clear ck'; (try dsimp only at R' U'))) | (intro r' n' h' tk' hR' F' N'; (try k_sweep); (obtain ⟨k', j', D', t1', t2', e0, e1, rfl, rfl⟩ := hR'); (try dsimp only); (try k_fold))))
  k_with "call ref" => (k_here; (with_reducible show wpAny _ _ (call (Value.ref 153) _) _ _ _); k_dflt (refine' Calls.use (read_payload_spec _ _ _ _ _ _ ?p1 ?p2 ?p3) ?k1 ?k2 ?k3 ?k4 ?k5 ?kK ?kd ?ku ?_ ?_); (case k1 => k_asm); (case k2 => k_asm); (case k3 => k_asm); (case k4 => k_asm); (case k5 => k_asm); (case kK => first | exact rfl | assumption); (case kd => ktr_room); (case ku => ktr_units); (case p1 => assumption); (case p2 => assumption); (case p3 => first | assumption | omega); (all_goals first | (intro C' g' e' h' tk' hx' FG' R' U'; first | exact hx'.elim | ((with_reducible have ck' := RaisedM.sub R' (fun _ hp => hp)); clear ck'; (try dsimp only at R' U'))) | (intro r' n' h' tk' hR' F' N'; (try k_sweep); (obtain ⟨pl', j', D', b', t1', t2', e0, e1, rfl, rfl, e2⟩ := hR'); (try dsimp only); (try k_fold))))
  k_with "call ref" => (k_here; (with_reducible show wpAny _ _ (call (Value.ref 121) _) _ _ _); k_dflt (refine' Calls.use (piece_spec _ _ _ _ _ (.inl rfl)) ?k1 ?k2 ?k3 ?k4 ?k5 ?kK ?kd ?ku ?_ ?_); (case k1 => k_asm); (case k2 => k_asm); (case k3 => k_asm); (case k4 => k_asm); (case k5 => k_asm); (case kK => first | exact rfl | assumption); (case kd => ktr_room); (case ku => ktr_units); (all_goals first | (intro C' g' e' h' tk' hx' FG' R' U'; first | exact hx'.elim | ((with_reducible have ck' := RaisedM.sub R' (fun _ hp => hp)); clear ck'; (try dsimp only at R' U'))) | (intro r' n' h' tk' hR' F' N'; (try k_sweep); (obtain ⟨x', dx', h1', h2', h3', k1', k2', k3', rfl, lx', ly', rfl⟩ := hR'); (try dsimp only); (try k_fold))))
  k_with "call ref" => (k_here; (with_reducible show wpAny _ _ (call (Value.ref 121) _) _ _ _); k_dflt (refine' Calls.use (piece_spec _ _ _ _ _ (.inr (.inl ⟨rfl, rfl⟩))) ?k1 ?k2 ?k3 ?k4 ?k5 ?kK ?kd ?ku ?_ ?_); (case k1 => k_asm); (case k2 => k_asm); (case k3 => k_asm); (case k4 => k_asm); (case k5 => k_asm); (case kK => first | exact rfl | assumption); (case kd => ktr_room); (case ku => ktr_units); (all_goals first | (intro C' g' e' h' tk' hx' FG' R' U'; first | exact hx'.elim | ((with_reducible have ck' := RaisedM.sub R' (fun _ hp => hp)); clear ck'; (try dsimp only at R' U'))) | (intro r' n' h' tk' hR' F' N'; (try k_sweep); (obtain ⟨x', dx', h1', h2', h3', k1', k2', k3', rfl, lx', ly', rfl⟩ := hR'); (try dsimp only); (try k_fold))))
  k_with "call ref" => (k_here; (with_reducible show wpAny _ _ (call (Value.ref 121) _) _ _ _); k_dflt (refine' Calls.use (piece_spec _ _ _ _ _ (.inr (.inr ⟨rfl, rfl, rfl⟩))) ?k1 ?k2 ?k3 ?k4 ?k5 ?kK ?kd ?ku ?_ ?_); (case k1 => k_asm); (case k2 => k_asm); (case k3 => k_asm); (case k4 => k_asm); (case k5 => k_asm); (case kK => first | exact rfl | assumption); (case kd => ktr_room); (case ku => ktr_units); (all_goals first | (intro C' g' e' h' tk' hx' FG' R' U'; first | exact hx'.elim | ((with_reducible have ck' := RaisedM.sub R' (fun _ hp => hp)); clear ck'; (try dsimp only at R' U'))) | (intro r' n' h' tk' hR' F' N'; (try k_sweep); (obtain ⟨x', dx', h1', h2', h3', k1', k2', k3', rfl, lx', ly', rfl⟩ := hR'); (try dsimp only); (try k_fold))))
  k_with "call ref" => (k_here; (with_reducible show wpAny _ _ (call (Value.ref 160) _) _ _ _); k_dflt (refine' Calls.use (read_piece_spec _ _ _ _ _ _ ?p1 ?p2 ?p3) ?k1 ?k2 ?k3 ?k4 ?k5 ?kK ?kd ?ku ?_ ?_); (case k1 => k_asm); (case k2 => k_asm); (case k3 => k_asm); (case k4 => k_asm); (case k5 => k_asm); (case kK => first | exact rfl | assumption); (case kd => ktr_room); (case ku => ktr_units); (case p1 => assumption); (case p2 => assumption); (case p3 => first | assumption | omega); (all_goals first | (intro C' g' e' h' tk' hx' FG' R' U'; first | exact hx'.elim | ((with_reducible have ck' := RaisedM.sub R' (fun _ hp => hp)); clear ck'; (try dsimp only at R' U'))) | (intro r' n' h' tk' hR' F' N'; (try k_sweep); (obtain ⟨D', x', dx', t1', tc', tp', td', k1', k2', k3', h1', h2', h3', k', j', pb', db', e0, e1, rfl, rfl⟩ := hR'); (try dsimp only); (try k_fold))))
  k_with "call ref" => (k_here; (with_reducible show wpAny _ _ (call (Value.ref 89) _) _ _ _); k_dflt (refine' Calls.use (word_spec _ _ _ ?p1 ?p2) ?k1 ?k2 ?k3 ?k4 ?k5 ?kK ?kd ?ku ?_ ?_); (case k1 => k_asm); (case k2 => k_asm); (case k3 => k_asm); (case k4 => k_asm); (case k5 => k_asm); (case kK => first | exact rfl | assumption); (case kd => ktr_room); (case ku => ktr_units); (case p1 => omega); (case p2 => omega); (all_goals first | (intro C' g' e' h' tk' hx' FG' R' U'; first | exact hx'.elim | ((with_reducible have ck' := RaisedM.sub R' (fun _ hp => hp)); clear ck'; (try dsimp only at R' U'))) | (intro r' n' h' tk' hR' F' N'; (try k_sweep); (obtain ⟨⟨wb', wt', ew', rfl⟩, rfl⟩ := hR'); (try dsimp only); (try k_fold))))
  k_with "call ref" => (k_here; (with_reducible show wpAny _ _ (call (Value.ref 174) _) _ _ _); k_dflt (refine' Calls.use (write_piece_spec _ _ _ ?p1 ?p2 ?p3 ?p4 ?p5) ?k1 ?k2 ?k3 ?k4 ?k5 ?kK ?kd ?ku ?_ ?_); (case k1 => k_asm); (case k2 => k_asm); (case k3 => k_asm); (case k4 => k_asm); (case k5 => k_asm); (case kK => first | exact rfl | assumption); (case kd => ktr_room); (case ku => ktr_units); (case p1 => exact PieceIn.mono (by assumption) (by k_sub)); (case p2 => (first | exact hri.1 | omega)); (case p3 => (first | exact hri.2.1 | omega)); (case p4 => (first | exact hri.2.2.1 | omega)); (case p5 => (first | exact hri.2.2.2 | omega)); (all_goals first | (intro C' g' e' h' tk' hx' FG' R' U'; first | exact hx'.elim | ((with_reducible have ck' := RaisedM.sub R' (fun _ hp => hp)); clear ck'; (try dsimp only at R' U'))) | (intro r' n' h' tk' hR' F' N'; (try k_sweep); (obtain ⟨⟨wb', wt', ew', rfl⟩, rfl⟩ := hR'); (try dsimp only); (try k_fold))))
  k_with "call ref" => (k_here; (with_reducible show wpAny _ _ (call (Value.ref 193) _) _ _ _); k_dflt (refine' Calls.use (take_spec _ _ ?p0 ?p1 ?p2 ?p3 ?p4 ?p5) ?k1 ?k2 ?k3 ?k4 ?k5 ?kK ?kd ?ku ?_ ?_); (case k1 => k_asm); (case k2 => k_asm); (case k3 => k_asm); (case k4 => k_asm); (case k5 => k_asm); (case kK => first | exact rfl | assumption); (case kd => ktr_room); (case ku => ktr_units); (case p0 => (first | exact UpdF.head (by assumption) | (refine' UpdF.head ?zz; (case zz => k_all)) | (refine' UpdF.tail ?za ?zb; (case za => (first | k_ne | assumption)); (case zb => (first | exact UpdF.head (by assumption) | (refine' UpdF.head ?zz; (case zz => k_all)) | (refine' UpdF.tail ?za ?zb; (case za => (first | k_ne | assumption)); (case zb => (first | exact UpdF.head (by assumption) | (refine' UpdF.head ?zz; (case zz => k_all)) | (refine' UpdF.tail ?za ?zb; (case za => (first | k_ne | assumption)); (case zb => (first | exact UpdF.head (by assumption) | (refine' UpdF.head ?zz; (case zz => k_all)) | (refine' UpdF.tail ?za ?zb; (case za => (first | k_ne | assumption)); (case zb => (first | exact UpdF.head (by assumption) | (refine' UpdF.head ?zz; (case zz => k_all)) | (refine' UpdF.tail ?za ?zb; (case za => (first | k_ne | assumption)); (case zb => (exact UpdF.head (by assumption)))))))))))))))))); (case p1 => assumption); (case p2 => assumption); (case p3 => assumption); (case p4 => k_dflt (first | decide | omega)); (case p5 => k_dflt (first | decide | omega)); (all_goals first | (intro C' g' e' h' tk' hx' FG' R' U'; first | exact hx'.elim | ((with_reducible have ck' := RaisedM.sub R' (fun _ hp => hp)); clear ck'; (try dsimp only at R' U'))) | (intro r' n' h' tk' hR' F' N'; (try k_sweep); (obtain ⟨v', tv', xa', xb', ta', tb', q1', q2', q3', q4', q5', rfl, rfl⟩ := hR'); (try dsimp only); (try k_fold))))
  k_with "call ref" => (k_here; (with_reducible show wpAny _ _ (call (Value.ref 200) _) _ _ _); k_dflt (refine' Calls.use (data_spec ?p0 ?p1 ?p2 ?p3) ?k1 ?k2 ?k3 ?k4 ?k5 ?kK ?kd ?ku ?_ ?_); (case k1 => k_asm); (case k2 => k_asm); (case k3 => k_asm); (case k4 => k_asm); (case k5 => k_asm); (case kK => first | exact rfl | assumption); (case kd => ktr_room); (case ku => ktr_units); (case p0 => (first | exact UpdF.head (by assumption) | (refine' UpdF.head ?zz; (case zz => k_all)) | (refine' UpdF.tail ?za ?zb; (case za => (first | k_ne | assumption)); (case zb => (first | exact UpdF.head (by assumption) | (refine' UpdF.head ?zz; (case zz => k_all)) | (refine' UpdF.tail ?za ?zb; (case za => (first | k_ne | assumption)); (case zb => (first | exact UpdF.head (by assumption) | (refine' UpdF.head ?zz; (case zz => k_all)) | (refine' UpdF.tail ?za ?zb; (case za => (first | k_ne | assumption)); (case zb => (first | exact UpdF.head (by assumption) | (refine' UpdF.head ?zz; (case zz => k_all)) | (refine' UpdF.tail ?za ?zb; (case za => (first | k_ne | assumption)); (case zb => (first | exact UpdF.head (by assumption) | (refine' UpdF.head ?zz; (case zz => k_all)) | (refine' UpdF.tail ?za ?zb; (case za => (first | k_ne | assumption)); (case zb => (exact UpdF.head (by assumption)))))))))))))))))); (case p1 => assumption); (case p2 => assumption); (case p3 => assumption); (all_goals first | (intro C' g' e' h' tk' hx' FG' R' U'; first | exact hx'.elim | ((with_reducible have ck' := RaisedM.sub R' (fun _ hp => hp)); clear ck'; (try dsimp only at R' U'))) | (intro r' n' h' tk' hR' F' N'; (try k_sweep); (obtain ⟨db', dt', xa', xb', ta', tb', d1', d2', q3', q4', q5', rfl, rfl⟩ := hR'); (try dsimp only); (try k_fold))))
  k_with "call ref" => (k_here; (with_reducible show wpAny _ _ (call (Value.ref 167) _) _ _ _); k_dflt (refine' Calls.use (read_pieces_spec _ _ _ _ ?p1 ?p2) ?k1 ?k2 ?k3 ?k4 ?k5 ?kK ?kd ?ku ?_ ?_); (case k1 => k_asm); (case k2 => k_asm); (case k3 => k_asm); (case k4 => k_asm); (case k5 => k_asm); (case kK => first | exact rfl | assumption); (case kd => ktr_room); (case ku => ktr_units); (case p1 => assumption); (case p2 => first | assumption | omega); (all_goals first | (intro C' g' e' h' tk' hx' FG' R' U'; first | exact hx'.elim | ((with_reducible have ck' := RaisedM.sub R' (fun _ hp => hp)); clear ck'; (try dsimp only at R' U'))) | (intro r' n' h' tk' hR' F' N'; (try k_sweep); (obtain ⟨l', vs', cap', rows', led', e0', rfl, rfl, pin', sub'⟩ := hR'); (try dsimp only); (try k_fold))))
  intro dp un gd cn cs a ccd cl outer A₀ base h₀ L m s p loose mean mg mb Q E hB hF hX hN hT hk hd hu hret hex
  refine wpAny_call ?_
  k_dflt cell_enter
  k_with "eval ListComp" => refine Stop.out ?_
  k_steps
  refine Stop.mk ?_
  k_dflt (refine LCg.ListComp_U (F₀ := by k_asm) (by rfl) (by decide) (by rfl) (by decide) (by rfl) ?_)
  k_with "CompSrc" => refine Stop.out ?_
  k_steps
  · refine Stop.mk ?_
    obtain rfl : rows'.map ri = is := Except.ok.inj (huq _ e0')
    rw [List.length_map] at hn
    refine LCg.CompSrc.ledger (by rfl) (by k_asm) (by k_asm) (by k_mem) ?_ fun g9 => ?_
    · rw [List.size_toArray, pin'.length, sizeLine_eq]; omega
    rw [List.size_toArray, pin'.length]
    refine rest_ind (fun i ys nx => (l', listOf vs'.toArray cap') ∈ nx ∧ (∀ p ∈ led', p ∈ nx) ∧ TupsIn nx ys (rows'.take i)) ⟨.head _, fun p hp => .tail _ hp, .nil⟩ ?turn ?fin
    case turn =>
      rintro i ys nx v I oI C oC D m₂ h9 tk9 E' hi ⟨hm, hsub, hy⟩ hv hC hx F9 N9 off9 ne9
      obtain ⟨vr, hvr, hpi⟩ := pin'.get hi
      obtain rfl : vr = v := Option.some.inj (hvr.symm.trans (by simpa using hv))
      obtain ⟨x, dx, h1, h2, h3, k1, k2, k3, tc, tp, td, rfl, m1, m2⟩ := hpi
      have N8 := told_led N9 (hsub _ m1) (hsub _ m2)
      clear N9
      generalize hrr : rows'[i] = rr at *
      k_steps
      rename Fr _ _ _ _ => F7
      rename News _ _ _ _ => N7
      rename (I < _ ∧ C < _ ∧ _) => l3
      refine LCg.CompEnd.intro F7 N7 (_ :: nx) (told_sub) ⟨⟨Nat.ne_of_gt l3.1, Nat.ne_of_gt l3.2.1, Nat.ne_of_gt l3.2.2.1⟩, off9⟩ (.inr ⟨_, .tail _ hm, rfl, _, rfl⟩) ⟨.tail _ hm, fun p hp => .tail _ (hsub p hp), ?_⟩
      rw [List.take_add_one, List.getElem?_eq_getElem hi, hrr]
      exact (hy.mono fun p hp => .tail _ hp).snoc ⟨_, _, _, _, _, rfl, .head _⟩
    case fin =>
      rintro ys nx ⟨hm, hsub, hy⟩
      unfold LCg.FinE
      intro D9 h9 tk9 F9 N9 o9
      rw [List.take_length] at hy
      k_steps
      (refine' hret _ _ _ _ (⟨D9, ys, ys.length, rows', nx, rfl, rfl, rfl, hy, fun p hp => hsub p (sub' p hp)⟩) ?hF ?hN; (case hN => assumption); (case hF => assumption))
  · exact absurd (huq _ hx') (fun q => nomatch q)

/-- a contract of a call out of the law itself: no frame lies below the caller's; an exception may have been caught within -/
def Calls0 (prog : Program) (w : World) (d : Nat) (f : Addr) (args : List Value) (news : List (Addr × Obj)) (R : Value → List (Addr × Obj) → Prop) (X : Addr → Prop) : Prop :=
  ∀ (dp un : Nat) (gd : Option (List Code)) (cn : Str) (cs : Scope) (a : Addr) (ccd : Value) (A₀ : Around) (base h₀ : Heap) (L : Addr) (m : Str → Option Value) (s : Shared)
    (p : Program) (loose : List Str) (mean : ExcName → Option Value) (mg mb : Str → Option Value) (Q E : Value → Shared → Prop),
    Below A₀ base [] h₀ → Fr h₀ L s.heap m → (KP w.params).In h₀ → News h₀ L s.heap news → Top p loose mean mg mb h₀ → (KP w.params).In base → Top p loose mean mg mb base → cs.kind = .function → dp + d < recursionLimit → un + 8 * d < cLine →
    (∀ r news' h' tk', R r news' → Fr h₀ L h' m → News h₀ L h' news' → Q r { s with heap := h', toks := tk' }) →
    (∀ C g e h' tk', X C → Fr h₀ L g m → RaisedM base g (envX cn cs L a ccd [] :: []) e (.ref C) news h' → g.UpToSlots h' → E (.ref e) { s with heap := h', toks := tk' }) →
    wpAny (model prog w) (ktrTop dp un gd cn cs L a ccd [] []) (call (.ref f) args) Q E s
/-- what the three handlers answer -/
def errName (C : Nat) : Str := if C = 68 then "cut" else if C = 44 then "marker" else "segment"
set_option maxHeartbeats 4000000 in
theorem error_spec {prog : Program} {w : World} (news : List (Addr × Obj)) (b : Array UInt8) (ks : List Int) (tb : Tok) (C : Nat) (hb : KBw.bInts b = ks) (hl : ks.length ≤ 1000000) (huq : ∀ o, ReadAll ks o → o = .error C) (hC : C = 68 ∨ C = 44 ∨ C = 56) :
    Calls0 prog w 14 224 [.bytes b tb] news (fun r n' => (∃ tk, r = .str (errName C) tk) ∧ n' = news) (fun _ => False) := by
  k_with_none
  k_with "exec Raise some none" => (k_here; (with_reducible show wpAny _ _ (exec (Stmt.Raise (some (PySem.Expr.Call (PySem.Expr.Name ("CutError" : Str) _) _ _ _)) none _) _) _ _ _); k_dflt (refine raise68 rfl ?_))
  k_with "exec Raise some none" => (k_here; (with_reducible show wpAny _ _ (exec (Stmt.Raise (some (PySem.Expr.Call (PySem.Expr.Name ("MarkerError" : Str) _) _ _ _)) none _) _) _ _ _); k_dflt (refine raise44 rfl ?_))
  k_with "exec Raise some none" => (k_here; (with_reducible show wpAny _ _ (exec (Stmt.Raise (some (PySem.Expr.Call (PySem.Expr.Name ("SegmentError" : Str) _) _ _ _)) none _) _) _ _ _); k_dflt (refine raise56 rfl ?_))
  k_with "call ref" => (k_here; (with_reducible show wpAny _ _ (call (Value.ref _) [Value.str _ _]) (RaiseAt _ _ _) _ _); k_dflt (first | refine' exc_call (exc68 _) ?k1 ?k2 ?k3 ?k4 ?k5 ?kA ?kF ?kK ?kd ?_ | refine' exc_call (exc44 _) ?k1 ?k2 ?k3 ?k4 ?k5 ?kA ?kF ?kK ?kd ?_ | refine' exc_call (exc56 _) ?k1 ?k2 ?k3 ?k4 ?k5 ?kA ?kF ?kK ?kd ?_); (case k1 => k_asm); (case k2 => k_asm); (case k3 => k_asm); (case k4 => k_asm); (case k5 => k_asm); (case kA => exact rfl); (case kF => exact rfl); (case kK => first | exact rfl | assumption); (case kd => ktr_room); intro e' t' dx' h' tk' F' N' D'; refine ⟨_, _, _, rfl, Frag.In.keeps (by k_asm) (Fr.keep F'), News.get N' (.head _), ?_⟩; (try k_sweep))
  k_with "leaving ref" => (k_here; k_dflt (first | (refine' leave_raiseM ?k1 ?k2 ?k3 ?k4 ?_; (case k3 => assumption); (case k1 => assumption); (case k2 => assumption); (case k4 => assumption); intro h' R' U'; (try dsimp only at R' U' ⊢)) | (refine' leave_onM ?k1 ?k2 ?k3 ?k4 ?_; (case k3 => assumption); (case k1 => assumption); (case k4 => assumption); (case k2 => assumption); intro h' R' U'; (try dsimp only at R' U' ⊢))))
  k_with "call type:bytes" => (k_here; (with_reducible show wpAny _ _ (call (Value.type "bytes") [Value.bytes _ _]) _ _ _); k_dflt (refine bytes_again ?_); intro _)
  k_with "call type:bytes" => (k_here; (with_reducible show wpAny _ _ (call (Value.type "bytes") [Value.int _ _]) _ _ _); k_dflt (refine bytes_zeros (by omega) (by omega) ?_); intro _ _)
  k_with "call ref" => (k_here; (with_reducible show wpAny _ _ (call (Value.ref 96) _) _ _ _); k_dflt (refine' Calls.use (is_restart_spec _ _ _) ?k1 ?k2 ?k3 ?k4 ?k5 ?kK ?kd ?ku ?_ ?_); (case k1 => k_asm); (case k2 => k_asm); (case k3 => k_asm); (case k4 => k_asm); (case k5 => k_asm); (case kK => first | exact rfl | assumption); (case kd => ktr_room); (case ku => ktr_units); (all_goals first | (intro C' g' e' h' tk' hx' FG' R' U'; first | exact hx'.elim | ((with_reducible have ck' := RaisedM.sub R' (fun _ hp => hp)); clear ck'; (try dsimp only at R' U'))) | (intro r' n' h' tk' hR' F' N'; (try k_sweep); (obtain ⟨rfl, rfl⟩ := hR'); (try dsimp only); (try k_fold))))
  k_with "call ref" => (k_here; (with_reducible show wpAny _ _ (call (Value.ref 103) _) _ _ _); k_dflt (refine' Calls.use (has_length_spec _ _ _) ?k1 ?k2 ?k3 ?k4 ?k5 ?kK ?kd ?ku ?_ ?_); (case k1 => k_asm); (case k2 => k_asm); (case k3 => k_asm); (case k4 => k_asm); (case k5 => k_asm); (case kK => first | exact rfl | assumption); (case kd => ktr_room); (case ku => ktr_units); (all_goals first | (intro C' g' e' h' tk' hx' FG' R' U'; first | exact hx'.elim | ((with_reducible have ck' := RaisedM.sub R' (fun _ hp => hp)); clear ck'; (try dsimp only at R' U'))) | (intro r' n' h' tk' hR' F' N'; (try k_sweep); (obtain ⟨rfl, rfl⟩ := hR'); (try dsimp only); (try k_fold))))
  k_with "call ref" => (k_here; (with_reducible show wpAny _ _ (call (Value.ref 132) _) _ _ _); k_dflt (refine' Calls.use (next_marker_spec _ _ _ _ _ _ ?p1 ?p2 ?p3) ?k1 ?k2 ?k3 ?k4 ?k5 ?kK ?kd ?ku ?_ ?_); (case k1 => k_asm); (case k2 => k_asm); (case k3 => k_asm); (case k4 => k_asm); (case k5 => k_asm); (case kK => first | exact rfl | assumption); (case kd => ktr_room); (case ku => ktr_units); (case p1 => assumption); (case p2 => assumption); (case p3 => first | assumption | omega); (all_goals first | (intro C' g' e' h' tk' hx' FG' R' U'; first | exact hx'.elim | ((with_reducible have ck' := RaisedM.sub R' (fun _ hp => hp)); clear ck'; (try dsimp only at R' U'))) | (intro r' n' h' tk' hR' F' N'; (try k_sweep); (obtain ⟨fd', e0, rfl, rfl⟩ := hR'); (try dsimp only); (try k_fold))))
  k_with "KswEnd" => (k_here; (rename Fr _ _ _ _ => F9); (rename News _ _ _ _ => N9); k_dflt (refine' ksw_end ⟨_, _⟩ F9 N9 ?ka ?kb ?kc ?kz ?kp ?km); (case ka => first | exact fun _ hp => hp | exact fun _ hp => .tail _ hp | kst_in); (case kb => kst_facts); (case kc => kst_all); (case kz => (intro z h2 h3; have h9 := h2 _ (.head _); first | (dsimp only at h9 ⊢; simp only [if_neg h9, List.contains_nil, Bool.false_eq_true, if_false]; first | done | rfl | (simp only [kstB, List.contains_nil, Bool.false_eq_true, if_false]; first | done | rfl)) | ksw_same)); (case kp => kst_p); (case km => ksw_less))
  k_with "call ref" => (k_here; (with_reducible show wpAny _ _ (call (Value.ref 139) _) _ _ _); k_dflt (refine' Calls.use (data_end_spec _ _ _ _ _ _ ?p1 ?p2 ?p3) ?k1 ?k2 ?k3 ?k4 ?k5 ?kK ?kd ?ku ?_ ?_); (case k1 => k_asm); (case k2 => k_asm); (case k3 => k_asm); (case k4 => k_asm); (case k5 => k_asm); (case kK => first | exact rfl | assumption); (case kd => ktr_room); (case ku => ktr_units); (case p1 => assumption); (case p2 => assumption); (case p3 => first | assumption | omega); (all_goals first | (intro C' g' e' h' tk' hx' FG' R' U'; first | exact hx'.elim | ((with_reducible have ck' := RaisedM.sub R' (fun _ hp => hp)); clear ck'; (try dsimp only at R' U'))) | (intro r' n' h' tk' hR' F' N'; (try k_sweep); (obtain ⟨pe', tk9, e0, rfl, rfl⟩ := hR'); (try dsimp only); (try k_fold))))
  k_with "call ref" => (k_here; (with_reducible show wpAny _ _ (call (Value.ref 146) _) _ _ _); k_dflt (refine' Calls.use (read_code_spec _ _ _ _ _ _ ?p1 ?p2 ?p3) ?k1 ?k2 ?k3 ?k4 ?k5 ?kK ?kd ?ku ?_ ?_); (case k1 => k_asm); (case k2 => k_asm); (case k3 => k_asm); (case k4 => k_asm); (case k5 => k_asm); (case kK => first | exact rfl | assumption); (case kd => ktr_room); (case ku => ktr_units); (case p1 => assumption); (case p2 => assumption); (case p3 => first | assumption | omega); (all_goals first | (intro C' g' e' h' tk' hx' FG' R' U'; first | exact hx'.elim | ((with_reducible have ck' := RaisedM.sub R' (fun _ hp => hp)); clear ck'; (try dsimp only at R' U'))) | (intro r' n' h' tk' hR' F' N'; (try k_sweep); (obtain ⟨k', j', D', t1', t2', e0, e1, rfl, rfl⟩ := hR'); (try dsimp only); (try k_fold))))
  k_with "call ref" => (k_here; (with_reducible show wpAny _ _ (call (Value.ref 153) _) _ _ _); k_dflt (refine' Calls.use (read_payload_spec _ _ _ _ _ _ ?p1 ?p2 ?p3) ?k1 ?k2 ?k3 ?k4 ?k5 ?kK ?kd ?ku ?_ ?_); (case k1 => k_asm); (case k2 => k_asm); (case k3 => k_asm); (case k4 => k_asm); (case k5 => k_asm); (case kK => first | exact rfl | assumption); (case kd => ktr_room); (case ku => ktr_units); (case p1 => assumption); (case p2 => assumption); (case p3 => first | assumption | omega); (all_goals first | (intro C' g' e' h' tk' hx' FG' R' U'; first | exact hx'.elim | ((with_reducible have ck' := RaisedM.sub R' (fun _ hp => hp)); clear ck'; (try dsimp only at R' U'))) | (intro r' n' h' tk' hR' F' N'; (try k_sweep); (obtain ⟨pl', j', D', b', t1', t2', e0, e1, rfl, rfl, e2⟩ := hR'); (try dsimp only); (try k_fold))))
  k_with "call ref" => (k_here; (with_reducible show wpAny _ _ (call (Value.ref 121) _) _ _ _); k_dflt (refine' Calls.use (piece_spec _ _ _ _ _ (.inl rfl)) ?k1 ?k2 ?k3 ?k4 ?k5 ?kK ?kd ?ku ?_ ?_); (case k1 => k_asm); (case k2 => k_asm); (case k3 => k_asm); (case k4 => k_asm); (case k5 => k_asm); (case kK => first | exact rfl | assumption); (case kd => ktr_room); (case ku => ktr_units); (all_goals first | (intro C' g' e' h' tk' hx' FG' R' U'; first | exact hx'.elim | ((with_reducible have ck' := RaisedM.sub R' (fun _ hp => hp)); clear ck'; (try dsimp only at R' U'))) | (intro r' n' h' tk' hR' F' N'; (try k_sweep); (obtain ⟨x', dx', h1', h2', h3', k1', k2', k3', rfl, lx', ly', rfl⟩ := hR'); (try dsimp only); (try k_fold))))
  k_with "call ref" => (k_here; (with_reducible show wpAny _ _ (call (Value.ref 121) _) _ _ _); k_dflt (refine' Calls.use (piece_spec _ _ _ _ _ (.inr (.inl ⟨rfl, rfl⟩))) ?k1 ?k2 ?k3 ?k4 ?k5 ?kK ?kd ?ku ?_ ?_); (case k1 => k_asm); (case k2 => k_asm); (case k3 => k_asm); (case k4 => k_asm); (case k5 => k_asm); (case kK => first | exact rfl | assumption); (case kd => ktr_room); (case ku => ktr_units); (all_goals first | (intro C' g' e' h' tk' hx' FG' R' U'; first | exact hx'.elim | ((with_reducible have ck' := RaisedM.sub R' (fun _ hp => hp)); clear ck'; (try dsimp only at R' U'))) | (intro r' n' h' tk' hR' F' N'; (try k_sweep); (obtain ⟨x', dx', h1', h2', h3', k1', k2', k3', rfl, lx', ly', rfl⟩ := hR'); (try dsimp only); (try k_fold))))
  k_with "call ref" => (k_here; (with_reducible show wpAny _ _ (call (Value.ref 121) _) _ _ _); k_dflt (refine' Calls.use (piece_spec _ _ _ _ _ (.inr (.inr ⟨rfl, rfl, rfl⟩))) ?k1 ?k2 ?k3 ?k4 ?k5 ?kK ?kd ?ku ?_ ?_); (case k1 => k_asm); (case k2 => k_asm); (case k3 => k_asm); (case k4 => k_asm); (case k5 => k_asm); (case kK => first | exact rfl | assumption); (case kd => ktr_room); (case ku => ktr_units); (all_goals first | (intro C' g' e' h' tk' hx' FG' R' U'; first | exact hx'.elim | ((with_reducible have ck' := RaisedM.sub R' (fun _ hp => hp)); clear ck'; (try dsimp only at R' U'))) | (intro r' n' h' tk' hR' F' N'; (try k_sweep); (obtain ⟨x', dx', h1', h2', h3', k1', k2', k3', rfl, lx', ly', rfl⟩ := hR'); (try dsimp only); (try k_fold))))
  k_with "call ref" => (k_here; (with_reducible show wpAny _ _ (call (Value.ref 160) _) _ _ _); k_dflt (refine' Calls.use (read_piece_spec _ _ _ _ _ _ ?p1 ?p2 ?p3) ?k1 ?k2 ?k3 ?k4 ?k5 ?kK ?kd ?ku ?_ ?_); (case k1 => k_asm); (case k2 => k_asm); (case k3 => k_asm); (case k4 => k_asm); (case k5 => k_asm); (case kK => first | exact rfl | assumption); (case kd => ktr_room); (case ku => ktr_units); (case p1 => assumption); (case p2 => assumption); (case p3 => first | assumption | omega); (all_goals first | (intro C' g' e' h' tk' hx' FG' R' U'; first | exact hx'.elim | ((with_reducible have ck' := RaisedM.sub R' (fun _ hp => hp)); clear ck'; (try dsimp only at R' U'))) | (intro r' n' h' tk' hR' F' N'; (try k_sweep); (obtain ⟨D', x', dx', t1', tc', tp', td', k1', k2', k3', h1', h2', h3', k', j', pb', db', e0, e1, rfl, rfl⟩ := hR'); (try dsimp only); (try k_fold))))
  k_with "call ref" => (k_here; (with_reducible show wpAny _ _ (call (Value.ref 89) _) _ _ _); k_dflt (refine' Calls.use (word_spec _ _ _ ?p1 ?p2) ?k1 ?k2 ?k3 ?k4 ?k5 ?kK ?kd ?ku ?_ ?_); (case k1 => k_asm); (case k2 => k_asm); (case k3 => k_asm); (case k4 => k_asm); (case k5 => k_asm); (case kK => first | exact rfl | assumption); (case kd => ktr_room); (case ku => ktr_units); (case p1 => omega); (case p2 => omega); (all_goals first | (intro C' g' e' h' tk' hx' FG' R' U'; first | exact hx'.elim | ((with_reducible have ck' := RaisedM.sub R' (fun _ hp => hp)); clear ck'; (try dsimp only at R' U'))) | (intro r' n' h' tk' hR' F' N'; (try k_sweep); (obtain ⟨⟨wb', wt', ew', rfl⟩, rfl⟩ := hR'); (try dsimp only); (try k_fold))))
  k_with "call ref" => (k_here; (with_reducible show wpAny _ _ (call (Value.ref 174) _) _ _ _); k_dflt (refine' Calls.use (write_piece_spec _ _ _ ?p1 ?p2 ?p3 ?p4 ?p5) ?k1 ?k2 ?k3 ?k4 ?k5 ?kK ?kd ?ku ?_ ?_); (case k1 => k_asm); (case k2 => k_asm); (case k3 => k_asm); (case k4 => k_asm); (case k5 => k_asm); (case kK => first | exact rfl | assumption); (case kd => ktr_room); (case ku => ktr_units); (case p1 => exact PieceIn.mono (by assumption) (by k_sub)); (case p2 => (first | exact hri.1 | omega)); (case p3 => (first | exact hri.2.1 | omega)); (case p4 => (first | exact hri.2.2.1 | omega)); (case p5 => (first | exact hri.2.2.2 | omega)); (all_goals first | (intro C' g' e' h' tk' hx' FG' R' U'; first | exact hx'.elim | ((with_reducible have ck' := RaisedM.sub R' (fun _ hp => hp)); clear ck'; (try dsimp only at R' U'))) | (intro r' n' h' tk' hR' F' N'; (try k_sweep); (obtain ⟨⟨wb', wt', ew', rfl⟩, rfl⟩ := hR'); (try dsimp only); (try k_fold))))
  k_with "call ref" => (k_here; (with_reducible show wpAny _ _ (call (Value.ref 193) _) _ _ _); k_dflt (refine' Calls.use (take_spec _ _ ?p0 ?p1 ?p2 ?p3 ?p4 ?p5) ?k1 ?k2 ?k3 ?k4 ?k5 ?kK ?kd ?ku ?_ ?_); (case k1 => k_asm); (case k2 => k_asm); (case k3 => k_asm); (case k4 => k_asm); (case k5 => k_asm); (case kK => first | exact rfl | assumption); (case kd => ktr_room); (case ku => ktr_units); (case p0 => (first | exact UpdF.head (by assumption) | (refine' UpdF.head ?zz; (case zz => k_all)) | (refine' UpdF.tail ?za ?zb; (case za => (first | k_ne | assumption)); (case zb => (first | exact UpdF.head (by assumption) | (refine' UpdF.head ?zz; (case zz => k_all)) | (refine' UpdF.tail ?za ?zb; (case za => (first | k_ne | assumption)); (case zb => (first | exact UpdF.head (by assumption) | (refine' UpdF.head ?zz; (case zz => k_all)) | (refine' UpdF.tail ?za ?zb; (case za => (first | k_ne | assumption)); (case zb => (first | exact UpdF.head (by assumption) | (refine' UpdF.head ?zz; (case zz => k_all)) | (refine' UpdF.tail ?za ?zb; (case za => (first | k_ne | assumption)); (case zb => (first | exact UpdF.head (by assumption) | (refine' UpdF.head ?zz; (case zz => k_all)) | (refine' UpdF.tail ?za ?zb; (case za => (first | k_ne | assumption)); (case zb => (exact UpdF.head (by assumption)))))))))))))))))); (case p1 => assumption); (case p2 => assumption); (case p3 => assumption); (case p4 => k_dflt (first | decide | omega)); (case p5 => k_dflt (first | decide | omega)); (all_goals first | (intro C' g' e' h' tk' hx' FG' R' U'; first | exact hx'.elim | ((with_reducible have ck' := RaisedM.sub R' (fun _ hp => hp)); clear ck'; (try dsimp only at R' U'))) | (intro r' n' h' tk' hR' F' N'; (try k_sweep); (obtain ⟨v', tv', xa', xb', ta', tb', q1', q2', q3', q4', q5', rfl, rfl⟩ := hR'); (try dsimp only); (try k_fold))))
  k_with "call ref" => (k_here; (with_reducible show wpAny _ _ (call (Value.ref 200) _) _ _ _); k_dflt (refine' Calls.use (data_spec ?p0 ?p1 ?p2 ?p3) ?k1 ?k2 ?k3 ?k4 ?k5 ?kK ?kd ?ku ?_ ?_); (case k1 => k_asm); (case k2 => k_asm); (case k3 => k_asm); (case k4 => k_asm); (case k5 => k_asm); (case kK => first | exact rfl | assumption); (case kd => ktr_room); (case ku => ktr_units); (case p0 => (first | exact UpdF.head (by assumption) | (refine' UpdF.head ?zz; (case zz => k_all)) | (refine' UpdF.tail ?za ?zb; (case za => (first | k_ne | assumption)); (case zb => (first | exact UpdF.head (by assumption) | (refine' UpdF.head ?zz; (case zz => k_all)) | (refine' UpdF.tail ?za ?zb; (case za => (first | k_ne | assumption)); (case zb => (first | exact UpdF.head (by assumption) | (refine' UpdF.head ?zz; (case zz => k_all)) | (refine' UpdF.tail ?za ?zb; (case za => (first | k_ne | assumption)); (case zb => (first | exact UpdF.head (by assumption) | (refine' UpdF.head ?zz; (case zz => k_all)) | (refine' UpdF.tail ?za ?zb; (case za => (first | k_ne | assumption)); (case zb => (first | exact UpdF.head (by assumption) | (refine' UpdF.head ?zz; (case zz => k_all)) | (refine' UpdF.tail ?za ?zb; (case za => (first | k_ne | assumption)); (case zb => (exact UpdF.head (by assumption)))))))))))))))))); (case p1 => assumption); (case p2 => assumption); (case p3 => assumption); (all_goals first | (intro C' g' e' h' tk' hx' FG' R' U'; first | exact hx'.elim | ((with_reducible have ck' := RaisedM.sub R' (fun _ hp => hp)); clear ck'; (try dsimp only at R' U'))) | (intro r' n' h' tk' hR' F' N'; (try k_sweep); (obtain ⟨db', dt', xa', xb', ta', tb', d1', d2', q3', q4', q5', rfl, rfl⟩ := hR'); (try dsimp only); (try k_fold))))
  k_with "call ref" => (k_here; (with_reducible show wpAny _ _ (call (Value.ref 167) _) _ _ _); k_dflt (refine' Calls.use (read_pieces_spec _ _ _ _ ?p1 ?p2) ?k1 ?k2 ?k3 ?k4 ?k5 ?kK ?kd ?ku ?_ ?_); (case k1 => k_asm); (case k2 => k_asm); (case k3 => k_asm); (case k4 => k_asm); (case k5 => k_asm); (case kK => first | exact rfl | assumption); (case kd => ktr_room); (case ku => ktr_units); (case p1 => assumption); (case p2 => first | assumption | omega); (all_goals first | (intro C' g' e' h' tk' hx' FG' R' U'; first | exact hx'.elim | ((with_reducible have ck' := RaisedM.sub R' (fun _ hp => hp)); clear ck'; (try dsimp only at R' U'))) | (intro r' n' h' tk' hR' F' N'; (try k_sweep); (obtain ⟨l', vs', cap', rows', led', e0', rfl, rfl, pin', sub'⟩ := hR'); (try dsimp only); (try k_fold))))
  intro dp un gd cn cs a ccd A₀ base h₀ L m s p loose mean mg mb Q E hB hF hX hN hT hXB hTB hk hd hu hret hex
  refine wpAny_call ?_
  k_dflt (refine' code_defS0 ?k1 ?k2 ?k3 ?k4 ?k5 ?kA ?k6 ?k7 ?k8 ?k9 ?kB ?_ ?cK ?c2 ?c3 ?c4 ?c5; (case kA => exact rfl); (case k2 => k_asm); (case k1 => k_asm); (case k3 => k_asm); (case k4 => k_asm); (case k5 => k_asm); (case k6 => k_is); (case k7 => k_is); (case k8 => ktr_room); (case k9 => exact BindsTo.of_eq rfl); (case kB => exact locs rfl); (case cK => assumption); (case c2 => exact rfl); (case c3 => exact rfl); (case c4 => exact rfl); (case c5 => decide); k_whole; intro g' L' h' FG' F' N' B' X' T' D'; (try dsimp only); (try k_lift B'); (try k_fold))
  k_with "noteFrame ref" => refine Stop.out ?_
  k_steps
  · exact absurd (huq _ e0') (fun q => nomatch q)
  refine Stop.mk ?_
  obtain rfl := Except.error.inj (huq _ hx')

  refine held_enter R' FG' B' U' ?_
  intro h9 H9
  rcases hC with rfl | rfl | rfl
  · refine held_hit H9 hXB hTB (by k_is) (exc68 w) ?_
    intro h8 g8 T8 F8 N8 K8 X8 P8
    k_steps
    (refine' hret _ _ _ _ (⟨⟨_, rfl⟩, rfl⟩) ?hF ?hN; (case hN => assumption); (case hF => assumption))
  · refine held_miss H9 hXB hTB (by k_is) (exc44 w) (exc68 w) (by decide) (by decide) ?_
    refine held_hit H9 hXB hTB (by k_is) (exc44 w) ?_
    intro h8 g8 T8 F8 N8 K8 X8 P8
    k_steps
    (refine' hret _ _ _ _ (⟨⟨_, rfl⟩, rfl⟩) ?hF ?hN; (case hN => assumption); (case hF => assumption))
  · refine held_miss H9 hXB hTB (by k_is) (exc56 w) (exc68 w) (by decide) (by decide) ?_
    refine held_miss H9 hXB hTB (by k_is) (exc56 w) (exc44 w) (by decide) (by decide) ?_
    refine held_hit H9 hXB hTB (by k_is) (exc56 w) ?_
    intro h8 g8 T8 F8 N8 K8 X8 P8
    k_steps
    (refine' hret _ _ _ _ (⟨⟨_, rfl⟩, rfl⟩) ?hF ?hN; (case hN => assumption); (case hF => assumption))
theorem long_size : (KBw.bInts (Array.replicate (Int.toNat 65534) 0)).length = 65534 := by
  rw [KBw.ints_length, Array.size_replicate]; rfl
theorem long_bad {r : RowB} (h : r = (254, Array.replicate (Int.toNat 65534) 0, #[])) : writeM (ri r) = .error 56 := by
  subst h
  have hs := long_size
  show writeM (254, KBw.bInts (Array.replicate (Int.toNat 65534) 0), KBw.bInts #[]) = .error 56
  generalize KBw.bInts (Array.replicate (Int.toNat 65534) 0) = ps at hs
  rw [writeM, if_pos (by dsimp only; exact ⟨by omega, by decide⟩), if_pos (by dsimp only; omega)]
theorem long_fit {r : RowB} (h : r = (254, Array.replicate (Int.toNat 65534) 0, #[])) : 0 ≤ r.1 ∧ r.1 < 256 ∧ (KBw.bInts r.2.1).length ≤ 1000000 ∧ (KBw.bInts r.2.2).length ≤ 1000000 := by
  subst h
  refine ⟨show (0 : Int) ≤ 254 by decide, show (254 : Int) < 256 by decide, ?_, show (KBw.bInts #[]).length ≤ 1000000 by decide⟩
  show (KBw.bInts (Array.replicate (Int.toNat 65534) 0)).length ≤ 1000000
  rw [long_size]; decide
theorem long_in {news : List (Addr × Obj)} {x dx : Addr} {h1 h2 h3 : Int} {k1 k2 k3 tc tp td : Tok} {k : Int} {pb db : Array UInt8} : PieceIn ((x, instObj 121 dx) :: (dx, pieceDict h1 h2 h3 k1 k2 k3 (.int k tc) (.bytes pb tp) (.bytes db td)) :: news) (.ref x) (k, pb, db) :=
  ⟨x, dx, h1, h2, h3, k1, k2, k3, tc, tp, td, rfl, .head _, .tail _ (.head _)⟩
set_option maxHeartbeats 4000000 in
theorem long_spec {prog : Program} {w : World} (news : List (Addr × Obj)) :
    Calls0 prog w 12 231 [] news (fun r n' => r = .bool true ∧ n' = news) (fun _ => False) := by
  k_with_none
  k_with "exec Raise some none" => (k_here; (with_reducible show wpAny _ _ (exec (Stmt.Raise (some (PySem.Expr.Call (PySem.Expr.Name ("CutError" : Str) _) _ _ _)) none _) _) _ _ _); k_dflt (refine raise68 rfl ?_))
  k_with "exec Raise some none" => (k_here; (with_reducible show wpAny _ _ (exec (Stmt.Raise (some (PySem.Expr.Call (PySem.Expr.Name ("MarkerError" : Str) _) _ _ _)) none _) _) _ _ _); k_dflt (refine raise44 rfl ?_))
  k_with "exec Raise some none" => (k_here; (with_reducible show wpAny _ _ (exec (Stmt.Raise (some (PySem.Expr.Call (PySem.Expr.Name ("SegmentError" : Str) _) _ _ _)) none _) _) _ _ _); k_dflt (refine raise56 rfl ?_))
  k_with "call ref" => (k_here; (with_reducible show wpAny _ _ (call (Value.ref _) [Value.str _ _]) (RaiseAt _ _ _) _ _); k_dflt (first | refine' exc_call (exc68 _) ?k1 ?k2 ?k3 ?k4 ?k5 ?kA ?kF ?kK ?kd ?_ | refine' exc_call (exc44 _) ?k1 ?k2 ?k3 ?k4 ?k5 ?kA ?kF ?kK ?kd ?_ | refine' exc_call (exc56 _) ?k1 ?k2 ?k3 ?k4 ?k5 ?kA ?kF ?kK ?kd ?_); (case k1 => k_asm); (case k2 => k_asm); (case k3 => k_asm); (case k4 => k_asm); (case k5 => k_asm); (case kA => exact rfl); (case kF => exact rfl); (case kK => first | exact rfl | assumption); (case kd => ktr_room); intro e' t' dx' h' tk' F' N' D'; refine ⟨_, _, _, rfl, Frag.In.keeps (by k_asm) (Fr.keep F'), News.get N' (.head _), ?_⟩; (try k_sweep))
  k_with "leaving ref" => (k_here; k_dflt (first | (refine' leave_raiseM ?k1 ?k2 ?k3 ?k4 ?_; (case k3 => assumption); (case k1 => assumption); (case k2 => assumption); (case k4 => assumption); intro h' R' U'; (try dsimp only at R' U' ⊢)) | (refine' leave_onM ?k1 ?k2 ?k3 ?k4 ?_; (case k3 => assumption); (case k1 => assumption); (case k4 => assumption); (case k2 => assumption); intro h' R' U'; (try dsimp only at R' U' ⊢))))
  k_with "call type:bytes" => (k_here; (with_reducible show wpAny _ _ (call (Value.type "bytes") [Value.bytes _ _]) _ _ _); k_dflt (refine bytes_again ?_); intro _)
  k_with "call type:bytes" => (k_here; (with_reducible show wpAny _ _ (call (Value.type "bytes") [Value.int _ _]) _ _ _); k_dflt (refine bytes_zeros (by omega) (by omega) ?_); intro _ _)
  k_with "call ref" => (k_here; (with_reducible show wpAny _ _ (call (Value.ref 96) _) _ _ _); k_dflt (refine' Calls.use (is_restart_spec _ _ _) ?k1 ?k2 ?k3 ?k4 ?k5 ?kK ?kd ?ku ?_ ?_); (case k1 => k_asm); (case k2 => k_asm); (case k3 => k_asm); (case k4 => k_asm); (case k5 => k_asm); (case kK => first | exact rfl | assumption); (case kd => ktr_room); (case ku => ktr_units); (all_goals first | (intro C' g' e' h' tk' hx' FG' R' U'; first | exact hx'.elim | ((with_reducible have ck' := RaisedM.sub R' (fun _ hp => hp)); clear ck'; (try dsimp only at R' U'))) | (intro r' n' h' tk' hR' F' N'; (try k_sweep); (obtain ⟨rfl, rfl⟩ := hR'); (try dsimp only); (try k_fold))))
  k_with "call ref" => (k_here; (with_reducible show wpAny _ _ (call (Value.ref 103) _) _ _ _); k_dflt (refine' Calls.use (has_length_spec _ _ _) ?k1 ?k2 ?k3 ?k4 ?k5 ?kK ?kd ?ku ?_ ?_); (case k1 => k_asm); (case k2 => k_asm); (case k3 => k_asm); (case k4 => k_asm); (case k5 => k_asm); (case kK => first | exact rfl | assumption); (case kd => ktr_room); (case ku => ktr_units); (all_goals first | (intro C' g' e' h' tk' hx' FG' R' U'; first | exact hx'.elim | ((with_reducible have ck' := RaisedM.sub R' (fun _ hp => hp)); clear ck'; (try dsimp only at R' U'))) | (intro r' n' h' tk' hR' F' N'; (try k_sweep); (obtain ⟨rfl, rfl⟩ := hR'); (try dsimp only); (try k_fold))))
  k_with "call ref" => (k_here; (with_reducible show wpAny _ _ (call (Value.ref 132) _) _ _ _); k_dflt (refine' Calls.use (next_marker_spec _ _ _ _ _ _ ?p1 ?p2 ?p3) ?k1 ?k2 ?k3 ?k4 ?k5 ?kK ?kd ?ku ?_ ?_); (case k1 => k_asm); (case k2 => k_asm); (case k3 => k_asm); (case k4 => k_asm); (case k5 => k_asm); (case kK => first | exact rfl | assumption); (case kd => ktr_room); (case ku => ktr_units); (case p1 => assumption); (case p2 => assumption); (case p3 => first | assumption | omega); (all_goals first | (intro C' g' e' h' tk' hx' FG' R' U'; first | exact hx'.elim | ((with_reducible have ck' := RaisedM.sub R' (fun _ hp => hp)); clear ck'; (try dsimp only at R' U'))) | (intro r' n' h' tk' hR' F' N'; (try k_sweep); (obtain ⟨fd', e0, rfl, rfl⟩ := hR'); (try dsimp only); (try k_fold))))
  k_with "KswEnd" => (k_here; (rename Fr _ _ _ _ => F9); (rename News _ _ _ _ => N9); k_dflt (refine' ksw_end ⟨_, _⟩ F9 N9 ?ka ?kb ?kc ?kz ?kp ?km); (case ka => first | exact fun _ hp => hp | exact fun _ hp => .tail _ hp | kst_in); (case kb => kst_facts); (case kc => kst_all); (case kz => (intro z h2 h3; have h9 := h2 _ (.head _); first | (dsimp only at h9 ⊢; simp only [if_neg h9, List.contains_nil, Bool.false_eq_true, if_false]; first | done | rfl | (simp only [kstB, List.contains_nil, Bool.false_eq_true, if_false]; first | done | rfl)) | ksw_same)); (case kp => kst_p); (case km => ksw_less))
  k_with "call ref" => (k_here; (with_reducible show wpAny _ _ (call (Value.ref 139) _) _ _ _); k_dflt (refine' Calls.use (data_end_spec _ _ _ _ _ _ ?p1 ?p2 ?p3) ?k1 ?k2 ?k3 ?k4 ?k5 ?kK ?kd ?ku ?_ ?_); (case k1 => k_asm); (case k2 => k_asm); (case k3 => k_asm); (case k4 => k_asm); (case k5 => k_asm); (case kK => first | exact rfl | assumption); (case kd => ktr_room); (case ku => ktr_units); (case p1 => assumption); (case p2 => assumption); (case p3 => first | assumption | omega); (all_goals first | (intro C' g' e' h' tk' hx' FG' R' U'; first | exact hx'.elim | ((with_reducible have ck' := RaisedM.sub R' (fun _ hp => hp)); clear ck'; (try dsimp only at R' U'))) | (intro r' n' h' tk' hR' F' N'; (try k_sweep); (obtain ⟨pe', tk9, e0, rfl, rfl⟩ := hR'); (try dsimp only); (try k_fold))))
  k_with "call ref" => (k_here; (with_reducible show wpAny _ _ (call (Value.ref 146) _) _ _ _); k_dflt (refine' Calls.use (read_code_spec _ _ _ _ _ _ ?p1 ?p2 ?p3) ?k1 ?k2 ?k3 ?k4 ?k5 ?kK ?kd ?ku ?_ ?_); (case k1 => k_asm); (case k2 => k_asm); (case k3 => k_asm); (case k4 => k_asm); (case k5 => k_asm); (case kK => first | exact rfl | assumption); (case kd => ktr_room); (case ku => ktr_units); (case p1 => assumption); (case p2 => assumption); (case p3 => first | assumption | omega); (all_goals first | (intro C' g' e' h' tk' hx' FG' R' U'; first | exact hx'.elim | ((with_reducible have ck' := RaisedM.sub R' (fun _ hp => hp)); clear ck'; (try dsimp only at R' U'))) | (intro r' n' h' tk' hR' F' N'; (try k_sweep); (obtain ⟨k', j', D', t1', t2', e0, e1, rfl, rfl⟩ := hR'); (try dsimp only); (try k_fold))))
  k_with "call ref" => (k_here; (with_reducible show wpAny _ _ (call (Value.ref 153) _) _ _ _); k_dflt (refine' Calls.use (read_payload_spec _ _ _ _ _ _ ?p1 ?p2 ?p3) ?k1 ?k2 ?k3 ?k4 ?k5 ?kK ?kd ?ku ?_ ?_); (case k1 => k_asm); (case k2 => k_asm); (case k3 => k_asm); (case k4 => k_asm); (case k5 => k_asm); (case kK => first | exact rfl | assumption); (case kd => ktr_room); (case ku => ktr_units); (case p1 => assumption); (case p2 => assumption); (case p3 => first | assumption | omega); (all_goals first | (intro C' g' e' h' tk' hx' FG' R' U'; first | exact hx'.elim | ((with_reducible have ck' := RaisedM.sub R' (fun _ hp => hp)); clear ck'; (try dsimp only at R' U'))) | (intro r' n' h' tk' hR' F' N'; (try k_sweep); (obtain ⟨pl', j', D', b', t1', t2', e0, e1, rfl, rfl, e2⟩ := hR'); (try dsimp only); (try k_fold))))
  k_with "call ref" => (k_here; (with_reducible show wpAny _ _ (call (Value.ref 121) _) _ _ _); k_dflt (refine' Calls.use (piece_spec _ _ _ _ _ (.inl rfl)) ?k1 ?k2 ?k3 ?k4 ?k5 ?kK ?kd ?ku ?_ ?_); (case k1 => k_asm); (case k2 => k_asm); (case k3 => k_asm); (case k4 => k_asm); (case k5 => k_asm); (case kK => first | exact rfl | assumption); (case kd => ktr_room); (case ku => ktr_units); (all_goals first | (intro C' g' e' h' tk' hx' FG' R' U'; first | exact hx'.elim | ((with_reducible have ck' := RaisedM.sub R' (fun _ hp => hp)); clear ck'; (try dsimp only at R' U'))) | (intro r' n' h' tk' hR' F' N'; (try k_sweep); (obtain ⟨x', dx', h1', h2', h3', k1', k2', k3', rfl, lx', ly', rfl⟩ := hR'); (try dsimp only); (try k_fold))))
  k_with "call ref" => (k_here; (with_reducible show wpAny _ _ (call (Value.ref 121) _) _ _ _); k_dflt (refine' Calls.use (piece_spec _ _ _ _ _ (.inr (.inl ⟨rfl, rfl⟩))) ?k1 ?k2 ?k3 ?k4 ?k5 ?kK ?kd ?ku ?_ ?_); (case k1 => k_asm); (case k2 => k_asm); (case k3 => k_asm); (case k4 => k_asm); (case k5 => k_asm); (case kK => first | exact rfl | assumption); (case kd => ktr_room); (case ku => ktr_units); (all_goals first | (intro C' g' e' h' tk' hx' FG' R' U'; first | exact hx'.elim | ((with_reducible have ck' := RaisedM.sub R' (fun _ hp => hp)); clear ck'; (try dsimp only at R' U'))) | (intro r' n' h' tk' hR' F' N'; (try k_sweep); (obtain ⟨x', dx', h1', h2', h3', k1', k2', k3', rfl, lx', ly', rfl⟩ := hR'); (try dsimp only); (try k_fold))))
  k_with "call ref" => (k_here; (with_reducible show wpAny _ _ (call (Value.ref 121) _) _ _ _); k_dflt (refine' Calls.use (piece_spec _ _ _ _ _ (.inr (.inr ⟨rfl, rfl, rfl⟩))) ?k1 ?k2 ?k3 ?k4 ?k5 ?kK ?kd ?ku ?_ ?_); (case k1 => k_asm); (case k2 => k_asm); (case k3 => k_asm); (case k4 => k_asm); (case k5 => k_asm); (case kK => first | exact rfl | assumption); (case kd => ktr_room); (case ku => ktr_units); (all_goals first | (intro C' g' e' h' tk' hx' FG' R' U'; first | exact hx'.elim | ((with_reducible have ck' := RaisedM.sub R' (fun _ hp => hp)); clear ck'; (try dsimp only at R' U'))) | (intro r' n' h' tk' hR' F' N'; (try k_sweep); (obtain ⟨x', dx', h1', h2', h3', k1', k2', k3', rfl, lx', ly', rfl⟩ := hR'); (try dsimp only); (try k_fold))))
  k_with "call ref" => (k_here; (with_reducible show wpAny _ _ (call (Value.ref 160) _) _ _ _); k_dflt (refine' Calls.use (read_piece_spec _ _ _ _ _ _ ?p1 ?p2 ?p3) ?k1 ?k2 ?k3 ?k4 ?k5 ?kK ?kd ?ku ?_ ?_); (case k1 => k_asm); (case k2 => k_asm); (case k3 => k_asm); (case k4 => k_asm); (case k5 => k_asm); (case kK => first | exact rfl | assumption); (case kd => ktr_room); (case ku => ktr_units); (case p1 => assumption); (case p2 => assumption); (case p3 => first | assumption | omega); (all_goals first | (intro C' g' e' h' tk' hx' FG' R' U'; first | exact hx'.elim | ((with_reducible have ck' := RaisedM.sub R' (fun _ hp => hp)); clear ck'; (try dsimp only at R' U'))) | (intro r' n' h' tk' hR' F' N'; (try k_sweep); (obtain ⟨D', x', dx', t1', tc', tp', td', k1', k2', k3', h1', h2', h3', k', j', pb', db', e0, e1, rfl, rfl⟩ := hR'); (try dsimp only); (try k_fold))))
  k_with "call ref" => (k_here; (with_reducible show wpAny _ _ (call (Value.ref 89) _) _ _ _); k_dflt (refine' Calls.use (word_spec _ _ _ ?p1 ?p2) ?k1 ?k2 ?k3 ?k4 ?k5 ?kK ?kd ?ku ?_ ?_); (case k1 => k_asm); (case k2 => k_asm); (case k3 => k_asm); (case k4 => k_asm); (case k5 => k_asm); (case kK => first | exact rfl | assumption); (case kd => ktr_room); (case ku => ktr_units); (case p1 => omega); (case p2 => omega); (all_goals first | (intro C' g' e' h' tk' hx' FG' R' U'; first | exact hx'.elim | ((with_reducible have ck' := RaisedM.sub R' (fun _ hp => hp)); clear ck'; (try dsimp only at R' U'))) | (intro r' n' h' tk' hR' F' N'; (try k_sweep); (obtain ⟨⟨wb', wt', ew', rfl⟩, rfl⟩ := hR'); (try dsimp only); (try k_fold))))
  k_with "call ref" => (k_here; (with_reducible show wpAny _ _ (call (Value.ref 174) _) _ _ _); k_dflt (refine' Calls.use (write_piece_spec _ _ _ ?p1 ?p2 ?p3 ?p4 ?p5) ?k1 ?k2 ?k3 ?k4 ?k5 ?kK ?kd ?ku ?_ ?_); (case k1 => k_asm); (case k2 => k_asm); (case k3 => k_asm); (case k4 => k_asm); (case k5 => k_asm); (case kK => first | exact rfl | assumption); (case kd => ktr_room); (case ku => ktr_units); (case p1 => exact PieceIn.mono (by assumption) (by k_sub)); (case p2 => (first | exact hri.1 | omega)); (case p3 => (first | exact hri.2.1 | omega)); (case p4 => (first | exact hri.2.2.1 | omega)); (case p5 => (first | exact hri.2.2.2 | omega)); (all_goals first | (intro C' g' e' h' tk' hx' FG' R' U'; first | exact hx'.elim | ((with_reducible have ck' := RaisedM.sub R' (fun _ hp => hp)); clear ck'; (try dsimp only at R' U'))) | (intro r' n' h' tk' hR' F' N'; (try k_sweep); (obtain ⟨⟨wb', wt', ew', rfl⟩, rfl⟩ := hR'); (try dsimp only); (try k_fold))))
  k_with "call ref" => (k_here; (with_reducible show wpAny _ _ (call (Value.ref 193) _) _ _ _); k_dflt (refine' Calls.use (take_spec _ _ ?p0 ?p1 ?p2 ?p3 ?p4 ?p5) ?k1 ?k2 ?k3 ?k4 ?k5 ?kK ?kd ?ku ?_ ?_); (case k1 => k_asm); (case k2 => k_asm); (case k3 => k_asm); (case k4 => k_asm); (case k5 => k_asm); (case kK => first | exact rfl | assumption); (case kd => ktr_room); (case ku => ktr_units); (case p0 => (first | exact UpdF.head (by assumption) | (refine' UpdF.head ?zz; (case zz => k_all)) | (refine' UpdF.tail ?za ?zb; (case za => (first | k_ne | assumption)); (case zb => (first | exact UpdF.head (by assumption) | (refine' UpdF.head ?zz; (case zz => k_all)) | (refine' UpdF.tail ?za ?zb; (case za => (first | k_ne | assumption)); (case zb => (first | exact UpdF.head (by assumption) | (refine' UpdF.head ?zz; (case zz => k_all)) | (refine' UpdF.tail ?za ?zb; (case za => (first | k_ne | assumption)); (case zb => (first | exact UpdF.head (by assumption) | (refine' UpdF.head ?zz; (case zz => k_all)) | (refine' UpdF.tail ?za ?zb; (case za => (first | k_ne | assumption)); (case zb => (first | exact UpdF.head (by assumption) | (refine' UpdF.head ?zz; (case zz => k_all)) | (refine' UpdF.tail ?za ?zb; (case za => (first | k_ne | assumption)); (case zb => (exact UpdF.head (by assumption)))))))))))))))))); (case p1 => assumption); (case p2 => assumption); (case p3 => assumption); (case p4 => k_dflt (first | decide | omega)); (case p5 => k_dflt (first | decide | omega)); (all_goals first | (intro C' g' e' h' tk' hx' FG' R' U'; first | exact hx'.elim | ((with_reducible have ck' := RaisedM.sub R' (fun _ hp => hp)); clear ck'; (try dsimp only at R' U'))) | (intro r' n' h' tk' hR' F' N'; (try k_sweep); (obtain ⟨v', tv', xa', xb', ta', tb', q1', q2', q3', q4', q5', rfl, rfl⟩ := hR'); (try dsimp only); (try k_fold))))
  k_with "call ref" => (k_here; (with_reducible show wpAny _ _ (call (Value.ref 200) _) _ _ _); k_dflt (refine' Calls.use (data_spec ?p0 ?p1 ?p2 ?p3) ?k1 ?k2 ?k3 ?k4 ?k5 ?kK ?kd ?ku ?_ ?_); (case k1 => k_asm); (case k2 => k_asm); (case k3 => k_asm); (case k4 => k_asm); (case k5 => k_asm); (case kK => first | exact rfl | assumption); (case kd => ktr_room); (case ku => ktr_units); (case p0 => (first | exact UpdF.head (by assumption) | (refine' UpdF.head ?zz; (case zz => k_all)) | (refine' UpdF.tail ?za ?zb; (case za => (first | k_ne | assumption)); (case zb => (first | exact UpdF.head (by assumption) | (refine' UpdF.head ?zz; (case zz => k_all)) | (refine' UpdF.tail ?za ?zb; (case za => (first | k_ne | assumption)); (case zb => (first | exact UpdF.head (by assumption) | (refine' UpdF.head ?zz; (case zz => k_all)) | (refine' UpdF.tail ?za ?zb; (case za => (first | k_ne | assumption)); (case zb => (first | exact UpdF.head (by assumption) | (refine' UpdF.head ?zz; (case zz => k_all)) | (refine' UpdF.tail ?za ?zb; (case za => (first | k_ne | assumption)); (case zb => (first | exact UpdF.head (by assumption) | (refine' UpdF.head ?zz; (case zz => k_all)) | (refine' UpdF.tail ?za ?zb; (case za => (first | k_ne | assumption)); (case zb => (exact UpdF.head (by assumption)))))))))))))))))); (case p1 => assumption); (case p2 => assumption); (case p3 => assumption); (all_goals first | (intro C' g' e' h' tk' hx' FG' R' U'; first | exact hx'.elim | ((with_reducible have ck' := RaisedM.sub R' (fun _ hp => hp)); clear ck'; (try dsimp only at R' U'))) | (intro r' n' h' tk' hR' F' N'; (try k_sweep); (obtain ⟨db', dt', xa', xb', ta', tb', d1', d2', q3', q4', q5', rfl, rfl⟩ := hR'); (try dsimp only); (try k_fold))))
  k_with "call ref" => (k_here; (with_reducible show wpAny _ _ (call (Value.ref 167) _) _ _ _); k_dflt (refine' Calls.use (read_pieces_spec _ _ _ _ ?p1 ?p2) ?k1 ?k2 ?k3 ?k4 ?k5 ?kK ?kd ?ku ?_ ?_); (case k1 => k_asm); (case k2 => k_asm); (case k3 => k_asm); (case k4 => k_asm); (case k5 => k_asm); (case kK => first | exact rfl | assumption); (case kd => ktr_room); (case ku => ktr_units); (case p1 => assumption); (case p2 => first | assumption | omega); (all_goals first | (intro C' g' e' h' tk' hx' FG' R' U'; first | exact hx'.elim | ((with_reducible have ck' := RaisedM.sub R' (fun _ hp => hp)); clear ck'; (try dsimp only at R' U'))) | (intro r' n' h' tk' hR' F' N'; (try k_sweep); (obtain ⟨l', vs', cap', rows', led', e0', rfl, rfl, pin', sub'⟩ := hR'); (try dsimp only); (try k_fold))))
  intro dp un gd cn cs a ccd A₀ base h₀ L m s p loose mean mg mb Q E hB hF hX hN hT hXB hTB hk hd hu hret hex
  refine wpAny_call ?_
  k_dflt (refine' code_defS0 ?k1 ?k2 ?k3 ?k4 ?k5 ?kA ?k6 ?k7 ?k8 ?k9 ?kB ?_ ?cK ?c2 ?c3 ?c4 ?c5; (case kA => exact rfl); (case k2 => k_asm); (case k1 => k_asm); (case k3 => k_asm); (case k4 => k_asm); (case k5 => k_asm); (case k6 => k_is); (case k7 => k_is); (case k8 => ktr_room); (case k9 => exact BindsTo.of_eq rfl); (case kB => exact locs rfl); (case cK => assumption); (case c2 => exact rfl); (case c3 => exact rfl); (case c4 => exact rfl); (case c5 => decide); k_whole; intro g' L' h' FG' F' N' B' X' T' D'; (try dsimp only); (try k_lift B'); (try k_fold))
  k_with "noteFrame ref" => refine Stop.out ?_
  k_with "call ref" => (k_here; (with_reducible show wpAny _ _ (call (Value.ref 179) _) _ _ _); k_dflt (refine' Calls.use (write_pieces_bad _ _ _ _ _ (long_in) (long_fit rfl) (long_bad rfl)) ?k1 ?k2 ?k3 ?k4 ?k5 ?kK ?kd ?ku ?_ ?_); (case k1 => k_asm); (case k2 => k_asm); (case k3 => k_asm); (case k4 => k_asm); (case k5 => k_asm); (case kK => first | exact rfl | assumption); (case kd => ktr_room); (case ku => ktr_units); (all_goals first | (intro C' g' e' h' tk' hx' FG' R' U'; first | exact hx'.elim | ((with_reducible have ck' := RaisedM.sub R' (fun _ hp => hp)); clear ck'; (try dsimp only at R' U'))) | (intro r' n' h' tk' hR' F' N'; (try k_sweep); (exact hR'.elim); (try dsimp only); (try k_fold))))
  k_steps
  refine Stop.mk ?_
  obtain rfl := hx'
  refine held_enter R' FG' B' U' ?_
  intro h9 H9
  refine held_hit H9 hXB hTB (by k_is) (exc56 w) ?_
  intro h8 g8 T8 F8 N8 K8 X8 P8
  k_steps
  rename News h₀ L _ _ => N5
  replace N5 := cb_drop N5 (news := news) (fun p hp => .tail _ (.tail _ (.tail _ hp)))
  (refine' hret _ _ _ _ (⟨rfl, rfl⟩) ?hF ?hN; (case hN => assumption); (case hF => assumption))

section
variable {ks : List Int} {i : Int} {x : Option Nat}
theorem nextL_b (h0 : 0 ≤ i) (h : i + 1 < ks.length) (hm : ¬ 0 < ks.getD (i + 1).toNat 0) (hr : 0 ≤ ks.getD (i + 1).toNat 0) (hn : nextM ks i.toNat = x) : 0 ≤ i + 1 ∧ nextM ks (i + 1).toNat = x := by
  refine nextM_miss h0 h (fun q => ?_) hn
  have h1 := q.2.1
  rw [show i.toNat + 1 = (i + 1).toNat by omega] at h1
  omega
theorem nextL_c (h0 : 0 ≤ i) (h : i + 1 < ks.length) (hm : ¬ ks.getD (i + 1).toNat 0 < 255) (hr : ks.getD (i + 1).toNat 0 < 256) (hn : nextM ks i.toNat = x) : 0 ≤ i + 1 ∧ nextM ks (i + 1).toNat = x := by
  refine nextM_miss h0 h (fun q => ?_) hn
  have h1 := q.2.2
  rw [show i.toNat + 1 = (i + 1).toNat by omega] at h1
  omega
theorem nextL_hit (h0 : 0 ≤ i) (h : i + 1 < ks.length) (h1 : ks.getD i.toNat 0 = 255) (ha : 0 < ks.getD (i + 1).toNat 0) (hb : ks.getD (i + 1).toNat 0 < 255) (hn : nextM ks i.toNat = x) : x = some i.toNat := by
  have e : i.toNat + 1 = (i + 1).toNat := by omega
  rw [← hn, nextM.eq_1 ks i.toNat, if_pos (by omega), if_pos ⟨h1, by rw [e]; omega, by rw [e]; omega⟩]
end
set_option maxHeartbeats 1000000 in
theorem law_next_spec {prog : Program} {w : World} (news : List (Addr × Obj)) (b : Array UInt8) (ks : List Int) (tb : Tok) (c : Int) (t : Tok) (hb : KBw.bInts b = ks) (hl : ks.length ≤ 1000000) (h0 : 0 ≤ c) :
    Calls prog w 1 245 [.bytes b tb, .int c t] news (fun r n' => ∃ f : Found, fdNext ks c.toNat f ∧ r = fdVal f ∧ n' = fdLed ks news f) (fun _ => False) := by
  k_with_none
  k_with "exec Raise some none" => (k_here; (with_reducible show wpAny _ _ (exec (Stmt.Raise (some (PySem.Expr.Call (PySem.Expr.Name ("CutError" : Str) _) _ _ _)) none _) _) _ _ _); k_dflt (refine raise68 rfl ?_))
  k_with "exec Raise some none" => (k_here; (with_reducible show wpAny _ _ (exec (Stmt.Raise (some (PySem.Expr.Call (PySem.Expr.Name ("MarkerError" : Str) _) _ _ _)) none _) _) _ _ _); k_dflt (refine raise44 rfl ?_))
  k_with "exec Raise some none" => (k_here; (with_reducible show wpAny _ _ (exec (Stmt.Raise (some (PySem.Expr.Call (PySem.Expr.Name ("SegmentError" : Str) _) _ _ _)) none _) _) _ _ _); k_dflt (refine raise56 rfl ?_))
  k_with "call ref" => (k_here; (with_reducible show wpAny _ _ (call (Value.ref _) [Value.str _ _]) (RaiseAt _ _ _) _ _); k_dflt (first | refine' exc_call (exc68 _) ?k1 ?k2 ?k3 ?k4 ?k5 ?kA ?kF ?kK ?kd ?_ | refine' exc_call (exc44 _) ?k1 ?k2 ?k3 ?k4 ?k5 ?kA ?kF ?kK ?kd ?_ | refine' exc_call (exc56 _) ?k1 ?k2 ?k3 ?k4 ?k5 ?kA ?kF ?kK ?kd ?_); (case k1 => k_asm); (case k2 => k_asm); (case k3 => k_asm); (case k4 => k_asm); (case k5 => k_asm); (case kA => exact rfl); (case kF => exact rfl); (case kK => first | exact rfl | assumption); (case kd => ktr_room); intro e' t' dx' h' tk' F' N' D'; refine ⟨_, _, _, rfl, Frag.In.keeps (by k_asm) (Fr.keep F'), News.get N' (.head _), ?_⟩; (try k_sweep))
  k_with "leaving ref" => (k_here; k_dflt (first | (refine' leave_raiseM ?k1 ?k2 ?k3 ?k4 ?_; (case k3 => assumption); (case k1 => assumption); (case k2 => assumption); (case k4 => assumption); intro h' R' U'; (try dsimp only at R' U' ⊢)) | (refine' leave_onM ?k1 ?k2 ?k3 ?k4 ?_; (case k3 => assumption); (case k1 => assumption); (case k4 => assumption); (case k2 => assumption); intro h' R' U'; (try dsimp only at R' U' ⊢))))
  k_with "call type:bytes" => (k_here; (with_reducible show wpAny _ _ (call (Value.type "bytes") [Value.bytes _ _]) _ _ _); k_dflt (refine bytes_again ?_); intro _)
  k_with "call type:bytes" => (k_here; (with_reducible show wpAny _ _ (call (Value.type "bytes") [Value.int _ _]) _ _ _); k_dflt (refine bytes_zeros (by omega) (by omega) ?_); intro _ _)
  k_with "call ref" => (k_here; (with_reducible show wpAny _ _ (call (Value.ref 96) _) _ _ _); k_dflt (refine' Calls.use (is_restart_spec _ _ _) ?k1 ?k2 ?k3 ?k4 ?k5 ?kK ?kd ?ku ?_ ?_); (case k1 => k_asm); (case k2 => k_asm); (case k3 => k_asm); (case k4 => k_asm); (case k5 => k_asm); (case kK => first | exact rfl | assumption); (case kd => ktr_room); (case ku => ktr_units); (all_goals first | (intro C' g' e' h' tk' hx' FG' R' U'; first | exact hx'.elim | ((with_reducible have ck' := RaisedM.sub R' (fun _ hp => hp)); clear ck'; (try dsimp only at R' U'))) | (intro r' n' h' tk' hR' F' N'; (try k_sweep); (obtain ⟨rfl, rfl⟩ := hR'); (try dsimp only); (try k_fold))))
  k_with "call ref" => (k_here; (with_reducible show wpAny _ _ (call (Value.ref 103) _) _ _ _); k_dflt (refine' Calls.use (has_length_spec _ _ _) ?k1 ?k2 ?k3 ?k4 ?k5 ?kK ?kd ?ku ?_ ?_); (case k1 => k_asm); (case k2 => k_asm); (case k3 => k_asm); (case k4 => k_asm); (case k5 => k_asm); (case kK => first | exact rfl | assumption); (case kd => ktr_room); (case ku => ktr_units); (all_goals first | (intro C' g' e' h' tk' hx' FG' R' U'; first | exact hx'.elim | ((with_reducible have ck' := RaisedM.sub R' (fun _ hp => hp)); clear ck'; (try dsimp only at R' U'))) | (intro r' n' h' tk' hR' F' N'; (try k_sweep); (obtain ⟨rfl, rfl⟩ := hR'); (try dsimp only); (try k_fold))))
  k_with "call ref" => (k_here; (with_reducible show wpAny _ _ (call (Value.ref 132) _) _ _ _); k_dflt (refine' Calls.use (next_marker_spec _ _ _ _ _ _ ?p1 ?p2 ?p3) ?k1 ?k2 ?k3 ?k4 ?k5 ?kK ?kd ?ku ?_ ?_); (case k1 => k_asm); (case k2 => k_asm); (case k3 => k_asm); (case k4 => k_asm); (case k5 => k_asm); (case kK => first | exact rfl | assumption); (case kd => ktr_room); (case ku => ktr_units); (case p1 => assumption); (case p2 => assumption); (case p3 => first | assumption | omega); (all_goals first | (intro C' g' e' h' tk' hx' FG' R' U'; first | exact hx'.elim | ((with_reducible have ck' := RaisedM.sub R' (fun _ hp => hp)); clear ck'; (try dsimp only at R' U'))) | (intro r' n' h' tk' hR' F' N'; (try k_sweep); (obtain ⟨fd', e0, rfl, rfl⟩ := hR'); (try dsimp only); (try k_fold))))
  k_with "KswEnd" => (k_here; (rename Fr _ _ _ _ => F9); (rename News _ _ _ _ => N9); k_dflt (refine' ksw_end ⟨_, _⟩ F9 N9 ?ka ?kb ?kc ?kz ?kp ?km); (case ka => first | exact fun _ hp => hp | exact fun _ hp => .tail _ hp | kst_in); (case kb => kst_facts); (case kc => kst_all); (case kz => (intro z h2 h3; have h9 := h2 _ (.head _); first | (dsimp only at h9 ⊢; simp only [if_neg h9, List.contains_nil, Bool.false_eq_true, if_false]; first | done | rfl | (simp only [kstB, List.contains_nil, Bool.false_eq_true, if_false]; first | done | rfl)) | ksw_same)); (case kp => kst_p); (case km => ksw_less))
  k_with "call ref" => (k_here; (with_reducible show wpAny _ _ (call (Value.ref 139) _) _ _ _); k_dflt (refine' Calls.use (data_end_spec _ _ _ _ _ _ ?p1 ?p2 ?p3) ?k1 ?k2 ?k3 ?k4 ?k5 ?kK ?kd ?ku ?_ ?_); (case k1 => k_asm); (case k2 => k_asm); (case k3 => k_asm); (case k4 => k_asm); (case k5 => k_asm); (case kK => first | exact rfl | assumption); (case kd => ktr_room); (case ku => ktr_units); (case p1 => assumption); (case p2 => assumption); (case p3 => first | assumption | omega); (all_goals first | (intro C' g' e' h' tk' hx' FG' R' U'; first | exact hx'.elim | ((with_reducible have ck' := RaisedM.sub R' (fun _ hp => hp)); clear ck'; (try dsimp only at R' U'))) | (intro r' n' h' tk' hR' F' N'; (try k_sweep); (obtain ⟨pe', tk9, e0, rfl, rfl⟩ := hR'); (try dsimp only); (try k_fold))))
  k_with "call ref" => (k_here; (with_reducible show wpAny _ _ (call (Value.ref 146) _) _ _ _); k_dflt (refine' Calls.use (read_code_spec _ _ _ _ _ _ ?p1 ?p2 ?p3) ?k1 ?k2 ?k3 ?k4 ?k5 ?kK ?kd ?ku ?_ ?_); (case k1 => k_asm); (case k2 => k_asm); (case k3 => k_asm); (case k4 => k_asm); (case k5 => k_asm); (case kK => first | exact rfl | assumption); (case kd => ktr_room); (case ku => ktr_units); (case p1 => assumption); (case p2 => assumption); (case p3 => first | assumption | omega); (all_goals first | (intro C' g' e' h' tk' hx' FG' R' U'; first | exact hx'.elim | ((with_reducible have ck' := RaisedM.sub R' (fun _ hp => hp)); clear ck'; (try dsimp only at R' U'))) | (intro r' n' h' tk' hR' F' N'; (try k_sweep); (obtain ⟨k', j', D', t1', t2', e0, e1, rfl, rfl⟩ := hR'); (try dsimp only); (try k_fold))))
  k_with "call ref" => (k_here; (with_reducible show wpAny _ _ (call (Value.ref 153) _) _ _ _); k_dflt (refine' Calls.use (read_payload_spec _ _ _ _ _ _ ?p1 ?p2 ?p3) ?k1 ?k2 ?k3 ?k4 ?k5 ?kK ?kd ?ku ?_ ?_); (case k1 => k_asm); (case k2 => k_asm); (case k3 => k_asm); (case k4 => k_asm); (case k5 => k_asm); (case kK => first | exact rfl | assumption); (case kd => ktr_room); (case ku => ktr_units); (case p1 => assumption); (case p2 => assumption); (case p3 => first | assumption | omega); (all_goals first | (intro C' g' e' h' tk' hx' FG' R' U'; first | exact hx'.elim | ((with_reducible have ck' := RaisedM.sub R' (fun _ hp => hp)); clear ck'; (try dsimp only at R' U'))) | (intro r' n' h' tk' hR' F' N'; (try k_sweep); (obtain ⟨pl', j', D', b', t1', t2', e0, e1, rfl, rfl, e2⟩ := hR'); (try dsimp only); (try k_fold))))
  k_with "call ref" => (k_here; (with_reducible show wpAny _ _ (call (Value.ref 121) _) _ _ _); k_dflt (refine' Calls.use (piece_spec _ _ _ _ _ (.inl rfl)) ?k1 ?k2 ?k3 ?k4 ?k5 ?kK ?kd ?ku ?_ ?_); (case k1 => k_asm); (case k2 => k_asm); (case k3 => k_asm); (case k4 => k_asm); (case k5 => k_asm); (case kK => first | exact rfl | assumption); (case kd => ktr_room); (case ku => ktr_units); (all_goals first | (intro C' g' e' h' tk' hx' FG' R' U'; first | exact hx'.elim | ((with_reducible have ck' := RaisedM.sub R' (fun _ hp => hp)); clear ck'; (try dsimp only at R' U'))) | (intro r' n' h' tk' hR' F' N'; (try k_sweep); (obtain ⟨x', dx', h1', h2', h3', k1', k2', k3', rfl, lx', ly', rfl⟩ := hR'); (try dsimp only); (try k_fold))))
  k_with "call ref" => (k_here; (with_reducible show wpAny _ _ (call (Value.ref 121) _) _ _ _); k_dflt (refine' Calls.use (piece_spec _ _ _ _ _ (.inr (.inl ⟨rfl, rfl⟩))) ?k1 ?k2 ?k3 ?k4 ?k5 ?kK ?kd ?ku ?_ ?_); (case k1 => k_asm); (case k2 => k_asm); (case k3 => k_asm); (case k4 => k_asm); (case k5 => k_asm); (case kK => first | exact rfl | assumption); (case kd => ktr_room); (case ku => ktr_units); (all_goals first | (intro C' g' e' h' tk' hx' FG' R' U'; first | exact hx'.elim | ((with_reducible have ck' := RaisedM.sub R' (fun _ hp => hp)); clear ck'; (try dsimp only at R' U'))) | (intro r' n' h' tk' hR' F' N'; (try k_sweep); (obtain ⟨x', dx', h1', h2', h3', k1', k2', k3', rfl, lx', ly', rfl⟩ := hR'); (try dsimp only); (try k_fold))))
  k_with "call ref" => (k_here; (with_reducible show wpAny _ _ (call (Value.ref 121) _) _ _ _); k_dflt (refine' Calls.use (piece_spec _ _ _ _ _ (.inr (.inr ⟨rfl, rfl, rfl⟩))) ?k1 ?k2 ?k3 ?k4 ?k5 ?kK ?kd ?ku ?_ ?_); (case k1 => k_asm); (case k2 => k_asm); (case k3 => k_asm); (case k4 => k_asm); (case k5 => k_asm); (case kK => first | exact rfl | assumption); (case kd => ktr_room); (case ku => ktr_units); (all_goals first | (intro C' g' e' h' tk' hx' FG' R' U'; first | exact hx'.elim | ((with_reducible have ck' := RaisedM.sub R' (fun _ hp => hp)); clear ck'; (try dsimp only at R' U'))) | (intro r' n' h' tk' hR' F' N'; (try k_sweep); (obtain ⟨x', dx', h1', h2', h3', k1', k2', k3', rfl, lx', ly', rfl⟩ := hR'); (try dsimp only); (try k_fold))))
  k_with "call ref" => (k_here; (with_reducible show wpAny _ _ (call (Value.ref 160) _) _ _ _); k_dflt (refine' Calls.use (read_piece_spec _ _ _ _ _ _ ?p1 ?p2 ?p3) ?k1 ?k2 ?k3 ?k4 ?k5 ?kK ?kd ?ku ?_ ?_); (case k1 => k_asm); (case k2 => k_asm); (case k3 => k_asm); (case k4 => k_asm); (case k5 => k_asm); (case kK => first | exact rfl | assumption); (case kd => ktr_room); (case ku => ktr_units); (case p1 => assumption); (case p2 => assumption); (case p3 => first | assumption | omega); (all_goals first | (intro C' g' e' h' tk' hx' FG' R' U'; first | exact hx'.elim | ((with_reducible have ck' := RaisedM.sub R' (fun _ hp => hp)); clear ck'; (try dsimp only at R' U'))) | (intro r' n' h' tk' hR' F' N'; (try k_sweep); (obtain ⟨D', x', dx', t1', tc', tp', td', k1', k2', k3', h1', h2', h3', k', j', pb', db', e0, e1, rfl, rfl⟩ := hR'); (try dsimp only); (try k_fold))))
  k_with "call ref" => (k_here; (with_reducible show wpAny _ _ (call (Value.ref 89) _) _ _ _); k_dflt (refine' Calls.use (word_spec _ _ _ ?p1 ?p2) ?k1 ?k2 ?k3 ?k4 ?k5 ?kK ?kd ?ku ?_ ?_); (case k1 => k_asm); (case k2 => k_asm); (case k3 => k_asm); (case k4 => k_asm); (case k5 => k_asm); (case kK => first | exact rfl | assumption); (case kd => ktr_room); (case ku => ktr_units); (case p1 => omega); (case p2 => omega); (all_goals first | (intro C' g' e' h' tk' hx' FG' R' U'; first | exact hx'.elim | ((with_reducible have ck' := RaisedM.sub R' (fun _ hp => hp)); clear ck'; (try dsimp only at R' U'))) | (intro r' n' h' tk' hR' F' N'; (try k_sweep); (obtain ⟨⟨wb', wt', ew', rfl⟩, rfl⟩ := hR'); (try dsimp only); (try k_fold))))
  k_with "call ref" => (k_here; (with_reducible show wpAny _ _ (call (Value.ref 174) _) _ _ _); k_dflt (refine' Calls.use (write_piece_spec _ _ _ ?p1 ?p2 ?p3 ?p4 ?p5) ?k1 ?k2 ?k3 ?k4 ?k5 ?kK ?kd ?ku ?_ ?_); (case k1 => k_asm); (case k2 => k_asm); (case k3 => k_asm); (case k4 => k_asm); (case k5 => k_asm); (case kK => first | exact rfl | assumption); (case kd => ktr_room); (case ku => ktr_units); (case p1 => exact PieceIn.mono (by assumption) (by k_sub)); (case p2 => (first | exact hri.1 | omega)); (case p3 => (first | exact hri.2.1 | omega)); (case p4 => (first | exact hri.2.2.1 | omega)); (case p5 => (first | exact hri.2.2.2 | omega)); (all_goals first | (intro C' g' e' h' tk' hx' FG' R' U'; first | exact hx'.elim | ((with_reducible have ck' := RaisedM.sub R' (fun _ hp => hp)); clear ck'; (try dsimp only at R' U'))) | (intro r' n' h' tk' hR' F' N'; (try k_sweep); (obtain ⟨⟨wb', wt', ew', rfl⟩, rfl⟩ := hR'); (try dsimp only); (try k_fold))))
  k_with "call ref" => (k_here; (with_reducible show wpAny _ _ (call (Value.ref 193) _) _ _ _); k_dflt (refine' Calls.use (take_spec _ _ ?p0 ?p1 ?p2 ?p3 ?p4 ?p5) ?k1 ?k2 ?k3 ?k4 ?k5 ?kK ?kd ?ku ?_ ?_); (case k1 => k_asm); (case k2 => k_asm); (case k3 => k_asm); (case k4 => k_asm); (case k5 => k_asm); (case kK => first | exact rfl | assumption); (case kd => ktr_room); (case ku => ktr_units); (case p0 => (first | exact UpdF.head (by assumption) | (refine' UpdF.head ?zz; (case zz => k_all)) | (refine' UpdF.tail ?za ?zb; (case za => (first | k_ne | assumption)); (case zb => (first | exact UpdF.head (by assumption) | (refine' UpdF.head ?zz; (case zz => k_all)) | (refine' UpdF.tail ?za ?zb; (case za => (first | k_ne | assumption)); (case zb => (first | exact UpdF.head (by assumption) | (refine' UpdF.head ?zz; (case zz => k_all)) | (refine' UpdF.tail ?za ?zb; (case za => (first | k_ne | assumption)); (case zb => (first | exact UpdF.head (by assumption) | (refine' UpdF.head ?zz; (case zz => k_all)) | (refine' UpdF.tail ?za ?zb; (case za => (first | k_ne | assumption)); (case zb => (first | exact UpdF.head (by assumption) | (refine' UpdF.head ?zz; (case zz => k_all)) | (refine' UpdF.tail ?za ?zb; (case za => (first | k_ne | assumption)); (case zb => (exact UpdF.head (by assumption)))))))))))))))))); (case p1 => assumption); (case p2 => assumption); (case p3 => assumption); (case p4 => k_dflt (first | decide | omega)); (case p5 => k_dflt (first | decide | omega)); (all_goals first | (intro C' g' e' h' tk' hx' FG' R' U'; first | exact hx'.elim | ((with_reducible have ck' := RaisedM.sub R' (fun _ hp => hp)); clear ck'; (try dsimp only at R' U'))) | (intro r' n' h' tk' hR' F' N'; (try k_sweep); (obtain ⟨v', tv', xa', xb', ta', tb', q1', q2', q3', q4', q5', rfl, rfl⟩ := hR'); (try dsimp only); (try k_fold))))
  k_with "call ref" => (k_here; (with_reducible show wpAny _ _ (call (Value.ref 200) _) _ _ _); k_dflt (refine' Calls.use (data_spec ?p0 ?p1 ?p2 ?p3) ?k1 ?k2 ?k3 ?k4 ?k5 ?kK ?kd ?ku ?_ ?_); (case k1 => k_asm); (case k2 => k_asm); (case k3 => k_asm); (case k4 => k_asm); (case k5 => k_asm); (case kK => first | exact rfl | assumption); (case kd => ktr_room); (case ku => ktr_units); (case p0 => (first | exact UpdF.head (by assumption) | (refine' UpdF.head ?zz; (case zz => k_all)) | (refine' UpdF.tail ?za ?zb; (case za => (first | k_ne | assumption)); (case zb => (first | exact UpdF.head (by assumption) | (refine' UpdF.head ?zz; (case zz => k_all)) | (refine' UpdF.tail ?za ?zb; (case za => (first | k_ne | assumption)); (case zb => (first | exact UpdF.head (by assumption) | (refine' UpdF.head ?zz; (case zz => k_all)) | (refine' UpdF.tail ?za ?zb; (case za => (first | k_ne | assumption)); (case zb => (first | exact UpdF.head (by assumption) | (refine' UpdF.head ?zz; (case zz => k_all)) | (refine' UpdF.tail ?za ?zb; (case za => (first | k_ne | assumption)); (case zb => (first | exact UpdF.head (by assumption) | (refine' UpdF.head ?zz; (case zz => k_all)) | (refine' UpdF.tail ?za ?zb; (case za => (first | k_ne | assumption)); (case zb => (exact UpdF.head (by assumption)))))))))))))))))); (case p1 => assumption); (case p2 => assumption); (case p3 => assumption); (all_goals first | (intro C' g' e' h' tk' hx' FG' R' U'; first | exact hx'.elim | ((with_reducible have ck' := RaisedM.sub R' (fun _ hp => hp)); clear ck'; (try dsimp only at R' U'))) | (intro r' n' h' tk' hR' F' N'; (try k_sweep); (obtain ⟨db', dt', xa', xb', ta', tb', d1', d2', q3', q4', q5', rfl, rfl⟩ := hR'); (try dsimp only); (try k_fold))))
  k_with "call ref" => (k_here; (with_reducible show wpAny _ _ (call (Value.ref 167) _) _ _ _); k_dflt (refine' Calls.use (read_pieces_spec _ _ _ _ ?p1 ?p2) ?k1 ?k2 ?k3 ?k4 ?k5 ?kK ?kd ?ku ?_ ?_); (case k1 => k_asm); (case k2 => k_asm); (case k3 => k_asm); (case k4 => k_asm); (case k5 => k_asm); (case kK => first | exact rfl | assumption); (case kd => ktr_room); (case ku => ktr_units); (case p1 => assumption); (case p2 => first | assumption | omega); (all_goals first | (intro C' g' e' h' tk' hx' FG' R' U'; first | exact hx'.elim | ((with_reducible have ck' := RaisedM.sub R' (fun _ hp => hp)); clear ck'; (try dsimp only at R' U'))) | (intro r' n' h' tk' hR' F' N'; (try k_sweep); (obtain ⟨l', vs', cap', rows', led', e0', rfl, rfl, pin', sub'⟩ := hR'); (try dsimp only); (try k_fold))))
  intro dp un gd cn cs a ccd cl outer A₀ base h₀ L m s p loose mean mg mb Q E hB hF hX hN hT hk hd hu hret hex
  refine wpAny_call ?_
  k_dflt cell_enter
  k_with "exec While Compare cons nil" => k_while (fun script i => 0 ≤ i ∧ nextM ks i.toNat = nextM ks c.toNat) (fun script i => ks.length - i.toNat) "at"
  k_with "state" => first | exact ⟨h0, rfl⟩ | exact nextM_a (by assumption) (by assumption) (by assumption) (by assumption) | exact nextL_b (by assumption) (by assumption) (by assumption) (by assumption) (by assumption) | exact nextL_c (by assumption) (by assumption) (by assumption) (by assumption) (by assumption)
  k_steps
  · (refine' hret _ _ _ _ (⟨some (_, _, _, _), ⟨?h1, ?h2⟩, rfl, rfl⟩) ?hF ?hN; (case hN => assumption); (case hF => assumption); (case h2 => exact nextL_hit (by assumption) (by assumption) (by assumption) (by assumption) (by assumption) (by assumption)); (case h1 => assumption))
  · (refine' hret _ _ _ _ (⟨none, nextM_end (by assumption) (by assumption) (by assumption), rfl, rfl⟩) ?hF ?hN; (case hN => assumption); (case hF => assumption))

section
variable {prog : Program} {w : World} {A : Around} {E : Value → Shared → Prop} {s : Shared} {h₀ : Heap} {L l : Addr} {m : Str → Option Value} {news : List (Addr × Obj)}
theorem tups_get {value slice : PySem.Expr} {led : List (Addr × Obj)} {vs : List Value} {rows : List RowB} {cap : Nat} {k : Int} {u : Tok} {Q : Value → Shared → Prop} (N : News h₀ L s.heap news) (hm : (l, listOf vs.toArray cap) ∈ news) (ht : TupsIn led vs rows)
    (h0 : 0 ≤ k) (h1 : k.toNat < rows.length) (hfit : k < 1000000) (h : ∀ x, TupIn led (.ref x) rows[k.toNat] → Q (.ref x) s)
    (hss : subscripted slice false (.ref l) (.int k u) = operate [.ref l, .int k u] (getItem (.ref l) (.int k u)) := by with_unfolding_all rfl) :
    wpAny (model prog w) A (subscriptTail value slice (.ref l) (.int k u)) Q E s := by
  have hl : s.heap.IsList l vs.toArray := ⟨_, (N _ hm).1, rfl, cap, rfl⟩
  obtain ⟨v, hv, x, nt, tc, tp, td, rfl, hmem⟩ := ht.get h1
  exact tail_any hl.typeIs slot_list_getitem.lookup (wpAny_getItem_list hl h0 (Int.lt_of_lt_of_le hfit (by decide)) (x := .ref x) (by rw [List.getElem?_toArray]; exact hv) (h x ⟨x, nt, tc, tp, td, rfl, hmem⟩)) hss
theorem tup_code {value slice : PySem.Expr} {led : List (Addr × Obj)} {x : Addr} {r : RowB} {u : Tok} {Q : Value → Shared → Prop} (ht : TupIn led (.ref x) r) (N : News h₀ L s.heap news) (hs : ∀ p ∈ led, p ∈ news) (h : ∀ t, Q (.int r.1 t) s)
    (hss : subscripted slice false (.ref x) (.int 0 u) = operate [.ref x, .int 0 u] (getItem (.ref x) (.int 0 u)) := by with_unfolding_all rfl) :
    wpAny (model prog w) A (subscriptTail value slice (.ref x) (.int 0 u)) Q E s := by
  obtain ⟨x', nt, tc, tp, td, e, hm⟩ := ht
  cases e
  exact item_tupleT (l := [.int r.1 tc, .bytes r.2.1 tp, .bytes r.2.2 td]) ⟨_, (N _ (hs _ hm)).1, rfl, nt, rfl⟩ (by decide) (by decide) (j := 0) rfl rfl (h tc) hss
theorem pick_head {vs : List Value} {x : Int} (h0 : 0 ≤ x) (h1 : x ≤ vs.length) : kms_pick vs none (some x) = vs.take x.toNat := by
  unfold kms_pick kms_hi kms_lo
  dsimp only
  rw [if_neg (by omega), List.drop_zero, Nat.sub_zero, Nat.min_eq_left (by omega)]
theorem pick_tail {vs : List Value} {x : Int} (h0 : 0 ≤ x) (h1 : x ≤ vs.length) : kms_pick vs (some x) none = vs.drop x.toNat := by
  unfold kms_pick kms_hi kms_lo
  dsimp only
  rw [if_neg (by omega), Nat.min_eq_left (by omega), List.take_of_length_le (by rw [List.length_drop]; omega)]
end
theorem strange_back {rows : List RowB} {i : Int} {h0 : 0 < rows.length} {hb : (i - 1).toNat < rows.length} (hi : 1 ≤ i ∧ i.toNat < rows.length) (h216 : rows[0].1 = 216) (h : rows[(i - 1).toNat].1 = 218) : 1 ≤ i - 1 ∧ (i - 1).toNat < rows.length := by
  refine ⟨?_, hb⟩
  by_cases h1 : i = 1
  · subst h1
    have e : rows[(1 - 1 : Int).toNat].1 = rows[0].1 := by congr 1
    omega
  · omega
theorem mem_first {P : RowB → Prop} {rows : List RowB} {k : Nat} {h0 : k < rows.length} {n : Nat} (hr : ∀ r ∈ rows, P r) : ∀ r ∈ [rows[k]] ++ rows.drop n, P r := by
  intro r hm
  rcases List.mem_append.mp hm with h | h
  · exact List.mem_singleton.mp h ▸ hr _ (List.getElem_mem h0)
  · exact hr r (List.mem_of_mem_drop h)
theorem drop_two (X : List Int) : List.take (X.length - clipAt X.length 2) (X.drop (clipAt X.length 2)) = X.drop 2 := by
  rw [show clipAt X.length 2 = min 2 X.length from clipAt_nat X.length 2, List.take_of_length_le (by rw [List.length_drop]; exact Nat.le_refl _)]
  by_cases h : 2 ≤ X.length
  · rw [Nat.min_eq_left h]
  · rw [Nat.min_eq_right (by omega), List.drop_eq_nil_of_le (by omega), List.drop_eq_nil_of_le (by omega)]
theorem strange_sum {x : Int} {rows : List RowB} {hb : (x - 1).toNat < rows.length} {h0 : Int.toNat 0 < rows.length} {cs o : List Int} (h1 : 1 ≤ x) (h2 : x.toNat < rows.length) (hn : ¬ rows[(x - 1).toNat].1 = 218)
    (e : o = octsM (Int.toNat 0) ((rows.take x.toNat).map ri) ++ cs ++ List.take ((octsM (Int.toNat 0) (([rows[Int.toNat 0]] ++ rows.drop x.toNat).map ri)).length - clipAt (octsM (Int.toNat 0) (([rows[Int.toNat 0]] ++ rows.drop x.toNat).map ri)).length 2) (List.drop (clipAt (octsM (Int.toNat 0) (([rows[Int.toNat 0]] ++ rows.drop x.toNat).map ri)).length 2) (octsM (Int.toNat 0) (([rows[Int.toNat 0]] ++ rows.drop x.toNat).map ri)))) :
    ∃ i, ∃ hi : i < rows.length, rows[i].1 ≠ 218 ∧ i + 1 < rows.length ∧ o = octsM 0 ((rows.take (i + 1)).map ri) ++ cs ++ (octsM 0 ((rows[0]'h0 :: rows.drop (i + 1)).map ri)).drop 2 := by
  have hx : x.toNat = (x - 1).toNat + 1 := by omega
  refine ⟨(x - 1).toNat, hb, hn, by omega, ?_⟩
  rw [e, drop_two, hx]; rfl
/-- what may not stand between two pieces -/
abbrev strangeB : List (Array UInt8) := [#[5], #[255, 0], #[255, 211], #[255, 216]]
theorem strange_ints {b : Array UInt8} (h : b ∈ strangeB) : ∃ cs, KBw.bInts b = cs ∧ cs.length ≤ 2 := by
  exact ⟨_, rfl, (show ∀ b ∈ strangeB, (KBw.bInts b).length ≤ 2 from List.forall_mem_cons.mpr ⟨by decide, List.forall_mem_cons.mpr ⟨by decide, List.forall_mem_cons.mpr ⟨by decide, List.forall_mem_cons.mpr ⟨by decide, List.forall_mem_nil _⟩⟩⟩⟩) b h⟩
set_option maxHeartbeats 4000000 in
theorem strange_at {prog : Program} {w : World} (led : List (Addr × Obj)) (sa l : Addr) (x0 x1 : Int) (ta tb : Tok) (n : Nat) (vs : List Value) (cap : Nat) (rows : List RowB) (hs : ∀ p ∈ led, p.1 ≠ sa) (hne : l ≠ sa) (ha : 0 ≤ x0) (hb0 : 0 ≤ x1) (hb1 : x1 < 2147483647) (ht : TupsIn led vs rows)
    (hr : ∀ r ∈ rows, 0 ≤ r.1 ∧ r.1 < 256 ∧ (KBw.bInts r.2.1).length ≤ 260 ∧ (KBw.bInts r.2.2).length ≤ 6) (h3 : 2 ≤ rows.length) (h20 : rows.length ≤ 10) (h216 : rows[0].1 = 216) :
    Calls prog w 4 238 [.ref sa, .ref l] ((l, listOf vs.toArray cap) :: (sa, srcObj x0 x1 ta tb n) :: led) (fun r n' => ∃ (b st : Array UInt8) (tk : Tok) (i : Nat) (hi : i < rows.length) (a' b' : Int) (ta' tb' : Tok), 0 ≤ a' ∧ 0 ≤ b' ∧ b' < 2147483647 ∧ rows[i].1 ≠ 218 ∧ i + 1 < rows.length ∧ st ∈ strangeB ∧
      KBw.bInts b = octsM 0 ((rows.take (i + 1)).map ri) ++ KBw.bInts st ++ (octsM 0 ((rows[0] :: rows.drop (i + 1)).map ri)).drop 2 ∧ (KBw.bInts b).length ≤ 20000 ∧ r = .bytes b tk ∧ n' = (l, listOf vs.toArray cap) :: (sa, srcObj a' b' ta' tb' n) :: led) (fun _ => False) := by
  k_with_none
  k_with "exec Raise some none" => (k_here; (with_reducible show wpAny _ _ (exec (Stmt.Raise (some (PySem.Expr.Call (PySem.Expr.Name ("CutError" : Str) _) _ _ _)) none _) _) _ _ _); k_dflt (refine raise68 rfl ?_))
  k_with "exec Raise some none" => (k_here; (with_reducible show wpAny _ _ (exec (Stmt.Raise (some (PySem.Expr.Call (PySem.Expr.Name ("MarkerError" : Str) _) _ _ _)) none _) _) _ _ _); k_dflt (refine raise44 rfl ?_))
  k_with "exec Raise some none" => (k_here; (with_reducible show wpAny _ _ (exec (Stmt.Raise (some (PySem.Expr.Call (PySem.Expr.Name ("SegmentError" : Str) _) _ _ _)) none _) _) _ _ _); k_dflt (refine raise56 rfl ?_))
  k_with "call ref" => (k_here; (with_reducible show wpAny _ _ (call (Value.ref _) [Value.str _ _]) (RaiseAt _ _ _) _ _); k_dflt (first | refine' exc_call (exc68 _) ?k1 ?k2 ?k3 ?k4 ?k5 ?kA ?kF ?kK ?kd ?_ | refine' exc_call (exc44 _) ?k1 ?k2 ?k3 ?k4 ?k5 ?kA ?kF ?kK ?kd ?_ | refine' exc_call (exc56 _) ?k1 ?k2 ?k3 ?k4 ?k5 ?kA ?kF ?kK ?kd ?_); (case k1 => k_asm); (case k2 => k_asm); (case k3 => k_asm); (case k4 => k_asm); (case k5 => k_asm); (case kA => exact rfl); (case kF => exact rfl); (case kK => first | exact rfl | assumption); (case kd => ktr_room); intro e' t' dx' h' tk' F' N' D'; refine ⟨_, _, _, rfl, Frag.In.keeps (by k_asm) (Fr.keep F'), News.get N' (.head _), ?_⟩; (try k_sweep))
  k_with "leaving ref" => (k_here; k_dflt (first | (refine' leave_raiseM ?k1 ?k2 ?k3 ?k4 ?_; (case k3 => assumption); (case k1 => assumption); (case k2 => assumption); (case k4 => assumption); intro h' R' U'; (try dsimp only at R' U' ⊢)) | (refine' leave_onM ?k1 ?k2 ?k3 ?k4 ?_; (case k3 => assumption); (case k1 => assumption); (case k4 => assumption); (case k2 => assumption); intro h' R' U'; (try dsimp only at R' U' ⊢))))
  k_with "call type:bytes" => (k_here; (with_reducible show wpAny _ _ (call (Value.type "bytes") [Value.bytes _ _]) _ _ _); k_dflt (refine bytes_again ?_); intro _)
  k_with "call type:bytes" => (k_here; (with_reducible show wpAny _ _ (call (Value.type "bytes") [Value.int _ _]) _ _ _); k_dflt (refine bytes_zeros (by omega) (by omega) ?_); intro _ _)
  k_with "call ref" => (k_here; (with_reducible show wpAny _ _ (call (Value.ref 96) _) _ _ _); k_dflt (refine' Calls.use (is_restart_spec _ _ _) ?k1 ?k2 ?k3 ?k4 ?k5 ?kK ?kd ?ku ?_ ?_); (case k1 => k_asm); (case k2 => k_asm); (case k3 => k_asm); (case k4 => k_asm); (case k5 => k_asm); (case kK => first | exact rfl | assumption); (case kd => ktr_room); (case ku => ktr_units); (all_goals first | (intro C' g' e' h' tk' hx' FG' R' U'; first | exact hx'.elim | ((with_reducible have ck' := RaisedM.sub R' (fun _ hp => hp)); clear ck'; (try dsimp only at R' U'))) | (intro r' n' h' tk' hR' F' N'; (try k_sweep); (obtain ⟨rfl, rfl⟩ := hR'); (try dsimp only); (try k_fold))))
  k_with "call ref" => (k_here; (with_reducible show wpAny _ _ (call (Value.ref 103) _) _ _ _); k_dflt (refine' Calls.use (has_length_spec _ _ _) ?k1 ?k2 ?k3 ?k4 ?k5 ?kK ?kd ?ku ?_ ?_); (case k1 => k_asm); (case k2 => k_asm); (case k3 => k_asm); (case k4 => k_asm); (case k5 => k_asm); (case kK => first | exact rfl | assumption); (case kd => ktr_room); (case ku => ktr_units); (all_goals first | (intro C' g' e' h' tk' hx' FG' R' U'; first | exact hx'.elim | ((with_reducible have ck' := RaisedM.sub R' (fun _ hp => hp)); clear ck'; (try dsimp only at R' U'))) | (intro r' n' h' tk' hR' F' N'; (try k_sweep); (obtain ⟨rfl, rfl⟩ := hR'); (try dsimp only); (try k_fold))))
  k_with "call ref" => (k_here; (with_reducible show wpAny _ _ (call (Value.ref 132) _) _ _ _); k_dflt (refine' Calls.use (next_marker_spec _ _ _ _ _ _ ?p1 ?p2 ?p3) ?k1 ?k2 ?k3 ?k4 ?k5 ?kK ?kd ?ku ?_ ?_); (case k1 => k_asm); (case k2 => k_asm); (case k3 => k_asm); (case k4 => k_asm); (case k5 => k_asm); (case kK => first | exact rfl | assumption); (case kd => ktr_room); (case ku => ktr_units); (case p1 => assumption); (case p2 => assumption); (case p3 => first | assumption | omega); (all_goals first | (intro C' g' e' h' tk' hx' FG' R' U'; first | exact hx'.elim | ((with_reducible have ck' := RaisedM.sub R' (fun _ hp => hp)); clear ck'; (try dsimp only at R' U'))) | (intro r' n' h' tk' hR' F' N'; (try k_sweep); (obtain ⟨fd', e0, rfl, rfl⟩ := hR'); (try dsimp only); (try k_fold))))
  k_with "KswEnd" => (k_here; (rename Fr _ _ _ _ => F9); (rename News _ _ _ _ => N9); k_dflt (refine' ksw_end ⟨_, _⟩ F9 N9 ?ka ?kb ?kc ?kz ?kp ?km); (case ka => first | exact fun _ hp => hp | exact fun _ hp => .tail _ hp | kst_in); (case kb => kst_facts); (case kc => kst_all); (case kz => (intro z h2 h3; have h9 := h2 _ (.head _); first | (dsimp only at h9 ⊢; simp only [if_neg h9, List.contains_nil, Bool.false_eq_true, if_false]; first | done | rfl | (simp only [kstB, List.contains_nil, Bool.false_eq_true, if_false]; first | done | rfl)) | ksw_same)); (case kp => kst_p); (case km => ksw_less))
  k_with "call ref" => (k_here; (with_reducible show wpAny _ _ (call (Value.ref 139) _) _ _ _); k_dflt (refine' Calls.use (data_end_spec _ _ _ _ _ _ ?p1 ?p2 ?p3) ?k1 ?k2 ?k3 ?k4 ?k5 ?kK ?kd ?ku ?_ ?_); (case k1 => k_asm); (case k2 => k_asm); (case k3 => k_asm); (case k4 => k_asm); (case k5 => k_asm); (case kK => first | exact rfl | assumption); (case kd => ktr_room); (case ku => ktr_units); (case p1 => assumption); (case p2 => assumption); (case p3 => first | assumption | omega); (all_goals first | (intro C' g' e' h' tk' hx' FG' R' U'; first | exact hx'.elim | ((with_reducible have ck' := RaisedM.sub R' (fun _ hp => hp)); clear ck'; (try dsimp only at R' U'))) | (intro r' n' h' tk' hR' F' N'; (try k_sweep); (obtain ⟨pe', tk9, e0, rfl, rfl⟩ := hR'); (try dsimp only); (try k_fold))))
  k_with "call ref" => (k_here; (with_reducible show wpAny _ _ (call (Value.ref 146) _) _ _ _); k_dflt (refine' Calls.use (read_code_spec _ _ _ _ _ _ ?p1 ?p2 ?p3) ?k1 ?k2 ?k3 ?k4 ?k5 ?kK ?kd ?ku ?_ ?_); (case k1 => k_asm); (case k2 => k_asm); (case k3 => k_asm); (case k4 => k_asm); (case k5 => k_asm); (case kK => first | exact rfl | assumption); (case kd => ktr_room); (case ku => ktr_units); (case p1 => assumption); (case p2 => assumption); (case p3 => first | assumption | omega); (all_goals first | (intro C' g' e' h' tk' hx' FG' R' U'; first | exact hx'.elim | ((with_reducible have ck' := RaisedM.sub R' (fun _ hp => hp)); clear ck'; (try dsimp only at R' U'))) | (intro r' n' h' tk' hR' F' N'; (try k_sweep); (obtain ⟨k', j', D', t1', t2', e0, e1, rfl, rfl⟩ := hR'); (try dsimp only); (try k_fold))))
  k_with "call ref" => (k_here; (with_reducible show wpAny _ _ (call (Value.ref 153) _) _ _ _); k_dflt (refine' Calls.use (read_payload_spec _ _ _ _ _ _ ?p1 ?p2 ?p3) ?k1 ?k2 ?k3 ?k4 ?k5 ?kK ?kd ?ku ?_ ?_); (case k1 => k_asm); (case k2 => k_asm); (case k3 => k_asm); (case k4 => k_asm); (case k5 => k_asm); (case kK => first | exact rfl | assumption); (case kd => ktr_room); (case ku => ktr_units); (case p1 => assumption); (case p2 => assumption); (case p3 => first | assumption | omega); (all_goals first | (intro C' g' e' h' tk' hx' FG' R' U'; first | exact hx'.elim | ((with_reducible have ck' := RaisedM.sub R' (fun _ hp => hp)); clear ck'; (try dsimp only at R' U'))) | (intro r' n' h' tk' hR' F' N'; (try k_sweep); (obtain ⟨pl', j', D', b', t1', t2', e0, e1, rfl, rfl, e2⟩ := hR'); (try dsimp only); (try k_fold))))
  k_with "call ref" => (k_here; (with_reducible show wpAny _ _ (call (Value.ref 121) _) _ _ _); k_dflt (refine' Calls.use (piece_spec _ _ _ _ _ (.inl rfl)) ?k1 ?k2 ?k3 ?k4 ?k5 ?kK ?kd ?ku ?_ ?_); (case k1 => k_asm); (case k2 => k_asm); (case k3 => k_asm); (case k4 => k_asm); (case k5 => k_asm); (case kK => first | exact rfl | assumption); (case kd => ktr_room); (case ku => ktr_units); (all_goals first | (intro C' g' e' h' tk' hx' FG' R' U'; first | exact hx'.elim | ((with_reducible have ck' := RaisedM.sub R' (fun _ hp => hp)); clear ck'; (try dsimp only at R' U'))) | (intro r' n' h' tk' hR' F' N'; (try k_sweep); (obtain ⟨x', dx', h1', h2', h3', k1', k2', k3', rfl, lx', ly', rfl⟩ := hR'); (try dsimp only); (try k_fold))))
  k_with "call ref" => (k_here; (with_reducible show wpAny _ _ (call (Value.ref 121) _) _ _ _); k_dflt (refine' Calls.use (piece_spec _ _ _ _ _ (.inr (.inl ⟨rfl, rfl⟩))) ?k1 ?k2 ?k3 ?k4 ?k5 ?kK ?kd ?ku ?_ ?_); (case k1 => k_asm); (case k2 => k_asm); (case k3 => k_asm); (case k4 => k_asm); (case k5 => k_asm); (case kK => first | exact rfl | assumption); (case kd => ktr_room); (case ku => ktr_units); (all_goals first | (intro C' g' e' h' tk' hx' FG' R' U'; first | exact hx'.elim | ((with_reducible have ck' := RaisedM.sub R' (fun _ hp => hp)); clear ck'; (try dsimp only at R' U'))) | (intro r' n' h' tk' hR' F' N'; (try k_sweep); (obtain ⟨x', dx', h1', h2', h3', k1', k2', k3', rfl, lx', ly', rfl⟩ := hR'); (try dsimp only); (try k_fold))))
  k_with "call ref" => (k_here; (with_reducible show wpAny _ _ (call (Value.ref 121) _) _ _ _); k_dflt (refine' Calls.use (piece_spec _ _ _ _ _ (.inr (.inr ⟨rfl, rfl, rfl⟩))) ?k1 ?k2 ?k3 ?k4 ?k5 ?kK ?kd ?ku ?_ ?_); (case k1 => k_asm); (case k2 => k_asm); (case k3 => k_asm); (case k4 => k_asm); (case k5 => k_asm); (case kK => first | exact rfl | assumption); (case kd => ktr_room); (case ku => ktr_units); (all_goals first | (intro C' g' e' h' tk' hx' FG' R' U'; first | exact hx'.elim | ((with_reducible have ck' := RaisedM.sub R' (fun _ hp => hp)); clear ck'; (try dsimp only at R' U'))) | (intro r' n' h' tk' hR' F' N'; (try k_sweep); (obtain ⟨x', dx', h1', h2', h3', k1', k2', k3', rfl, lx', ly', rfl⟩ := hR'); (try dsimp only); (try k_fold))))
  k_with "call ref" => (k_here; (with_reducible show wpAny _ _ (call (Value.ref 160) _) _ _ _); k_dflt (refine' Calls.use (read_piece_spec _ _ _ _ _ _ ?p1 ?p2 ?p3) ?k1 ?k2 ?k3 ?k4 ?k5 ?kK ?kd ?ku ?_ ?_); (case k1 => k_asm); (case k2 => k_asm); (case k3 => k_asm); (case k4 => k_asm); (case k5 => k_asm); (case kK => first | exact rfl | assumption); (case kd => ktr_room); (case ku => ktr_units); (case p1 => assumption); (case p2 => assumption); (case p3 => first | assumption | omega); (all_goals first | (intro C' g' e' h' tk' hx' FG' R' U'; first | exact hx'.elim | ((with_reducible have ck' := RaisedM.sub R' (fun _ hp => hp)); clear ck'; (try dsimp only at R' U'))) | (intro r' n' h' tk' hR' F' N'; (try k_sweep); (obtain ⟨D', x', dx', t1', tc', tp', td', k1', k2', k3', h1', h2', h3', k', j', pb', db', e0, e1, rfl, rfl⟩ := hR'); (try dsimp only); (try k_fold))))
  k_with "call ref" => (k_here; (with_reducible show wpAny _ _ (call (Value.ref 89) _) _ _ _); k_dflt (refine' Calls.use (word_spec _ _ _ ?p1 ?p2) ?k1 ?k2 ?k3 ?k4 ?k5 ?kK ?kd ?ku ?_ ?_); (case k1 => k_asm); (case k2 => k_asm); (case k3 => k_asm); (case k4 => k_asm); (case k5 => k_asm); (case kK => first | exact rfl | assumption); (case kd => ktr_room); (case ku => ktr_units); (case p1 => omega); (case p2 => omega); (all_goals first | (intro C' g' e' h' tk' hx' FG' R' U'; first | exact hx'.elim | ((with_reducible have ck' := RaisedM.sub R' (fun _ hp => hp)); clear ck'; (try dsimp only at R' U'))) | (intro r' n' h' tk' hR' F' N'; (try k_sweep); (obtain ⟨⟨wb', wt', ew', rfl⟩, rfl⟩ := hR'); (try dsimp only); (try k_fold))))
  k_with "call ref" => (k_here; (with_reducible show wpAny _ _ (call (Value.ref 174) _) _ _ _); k_dflt (refine' Calls.use (write_piece_spec _ _ _ ?p1 ?p2 ?p3 ?p4 ?p5) ?k1 ?k2 ?k3 ?k4 ?k5 ?kK ?kd ?ku ?_ ?_); (case k1 => k_asm); (case k2 => k_asm); (case k3 => k_asm); (case k4 => k_asm); (case k5 => k_asm); (case kK => first | exact rfl | assumption); (case kd => ktr_room); (case ku => ktr_units); (case p1 => exact PieceIn.mono (by assumption) (by k_sub)); (case p2 => (first | exact hri.1 | omega)); (case p3 => (first | exact hri.2.1 | omega)); (case p4 => (first | exact hri.2.2.1 | omega)); (case p5 => (first | exact hri.2.2.2 | omega)); (all_goals first | (intro C' g' e' h' tk' hx' FG' R' U'; first | exact hx'.elim | ((with_reducible have ck' := RaisedM.sub R' (fun _ hp => hp)); clear ck'; (try dsimp only at R' U'))) | (intro r' n' h' tk' hR' F' N'; (try k_sweep); (obtain ⟨⟨wb', wt', ew', rfl⟩, rfl⟩ := hR'); (try dsimp only); (try k_fold))))
  k_with "call ref" => (k_here; (with_reducible show wpAny _ _ (call (Value.ref 193) _) _ _ _); k_dflt (refine' Calls.use (take_spec _ _ ?p0 ?p1 ?p2 ?p3 ?p4 ?p5) ?k1 ?k2 ?k3 ?k4 ?k5 ?kK ?kd ?ku ?_ ?_); (case k1 => k_asm); (case k2 => k_asm); (case k3 => k_asm); (case k4 => k_asm); (case k5 => k_asm); (case kK => first | exact rfl | assumption); (case kd => ktr_room); (case ku => ktr_units); (case p0 => (first | exact UpdF.head (by assumption) | (refine' UpdF.head ?zz; (case zz => k_all)) | (refine' UpdF.tail ?za ?zb; (case za => (first | k_ne | assumption)); (case zb => (first | exact UpdF.head (by assumption) | (refine' UpdF.head ?zz; (case zz => k_all)) | (refine' UpdF.tail ?za ?zb; (case za => (first | k_ne | assumption)); (case zb => (first | exact UpdF.head (by assumption) | (refine' UpdF.head ?zz; (case zz => k_all)) | (refine' UpdF.tail ?za ?zb; (case za => (first | k_ne | assumption)); (case zb => (first | exact UpdF.head (by assumption) | (refine' UpdF.head ?zz; (case zz => k_all)) | (refine' UpdF.tail ?za ?zb; (case za => (first | k_ne | assumption)); (case zb => (first | exact UpdF.head (by assumption) | (refine' UpdF.head ?zz; (case zz => k_all)) | (refine' UpdF.tail ?za ?zb; (case za => (first | k_ne | assumption)); (case zb => (exact UpdF.head (by assumption)))))))))))))))))); (case p1 => assumption); (case p2 => assumption); (case p3 => assumption); (case p4 => k_dflt (first | decide | omega)); (case p5 => k_dflt (first | decide | omega)); (all_goals first | (intro C' g' e' h' tk' hx' FG' R' U'; first | exact hx'.elim | ((with_reducible have ck' := RaisedM.sub R' (fun _ hp => hp)); clear ck'; (try dsimp only at R' U'))) | (intro r' n' h' tk' hR' F' N'; (try k_sweep); (obtain ⟨v', tv', xa', xb', ta', tb', q1', q2', q3', q4', q5', rfl, rfl⟩ := hR'); (try dsimp only); (try k_fold))))
  k_with "call ref" => (k_here; (with_reducible show wpAny _ _ (call (Value.ref 200) _) _ _ _); k_dflt (refine' Calls.use (data_spec ?p0 ?p1 ?p2 ?p3) ?k1 ?k2 ?k3 ?k4 ?k5 ?kK ?kd ?ku ?_ ?_); (case k1 => k_asm); (case k2 => k_asm); (case k3 => k_asm); (case k4 => k_asm); (case k5 => k_asm); (case kK => first | exact rfl | assumption); (case kd => ktr_room); (case ku => ktr_units); (case p0 => (first | exact UpdF.head (by assumption) | (refine' UpdF.head ?zz; (case zz => k_all)) | (refine' UpdF.tail ?za ?zb; (case za => (first | k_ne | assumption)); (case zb => (first | exact UpdF.head (by assumption) | (refine' UpdF.head ?zz; (case zz => k_all)) | (refine' UpdF.tail ?za ?zb; (case za => (first | k_ne | assumption)); (case zb => (first | exact UpdF.head (by assumption) | (refine' UpdF.head ?zz; (case zz => k_all)) | (refine' UpdF.tail ?za ?zb; (case za => (first | k_ne | assumption)); (case zb => (first | exact UpdF.head (by assumption) | (refine' UpdF.head ?zz; (case zz => k_all)) | (refine' UpdF.tail ?za ?zb; (case za => (first | k_ne | assumption)); (case zb => (first | exact UpdF.head (by assumption) | (refine' UpdF.head ?zz; (case zz => k_all)) | (refine' UpdF.tail ?za ?zb; (case za => (first | k_ne | assumption)); (case zb => (exact UpdF.head (by assumption)))))))))))))))))); (case p1 => assumption); (case p2 => assumption); (case p3 => assumption); (all_goals first | (intro C' g' e' h' tk' hx' FG' R' U'; first | exact hx'.elim | ((with_reducible have ck' := RaisedM.sub R' (fun _ hp => hp)); clear ck'; (try dsimp only at R' U'))) | (intro r' n' h' tk' hR' F' N'; (try k_sweep); (obtain ⟨db', dt', xa', xb', ta', tb', d1', d2', q3', q4', q5', rfl, rfl⟩ := hR'); (try dsimp only); (try k_fold))))
  k_with "call ref" => (k_here; (with_reducible show wpAny _ _ (call (Value.ref 167) _) _ _ _); k_dflt (refine' Calls.use (read_pieces_spec _ _ _ _ ?p1 ?p2) ?k1 ?k2 ?k3 ?k4 ?k5 ?kK ?kd ?ku ?_ ?_); (case k1 => k_asm); (case k2 => k_asm); (case k3 => k_asm); (case k4 => k_asm); (case k5 => k_asm); (case kK => first | exact rfl | assumption); (case kd => ktr_room); (case ku => ktr_units); (case p1 => assumption); (case p2 => first | assumption | omega); (all_goals first | (intro C' g' e' h' tk' hx' FG' R' U'; first | exact hx'.elim | ((with_reducible have ck' := RaisedM.sub R' (fun _ hp => hp)); clear ck'; (try dsimp only at R' U'))) | (intro r' n' h' tk' hR' F' N'; (try k_sweep); (obtain ⟨l', vs', cap', rows', led', e0', rfl, rfl, pin', sub'⟩ := hR'); (try dsimp only); (try k_fold))))
  intro dp un gd cn cs a ccd cl outer A₀ base h₀ L m s p loose mean mg mb Q E hB hF hX hN hT hk hd hu hret hex
  refine wpAny_call ?_
  k_dflt cell_enter
  k_with "call builtin:len" => (k_here; (with_reducible show wpAny _ _ (call (Value.builtin "len") [Value.ref _]) _ _ _); refine' len_tups ?k1 ?k2 ht ?k3 ?_; (case k1 => k_asm); (case k2 => first | assumption | k_mem); (case k3 => omega))
  k_with "exec While Compare cons nil" => k_while (fun script i => 1 ≤ i ∧ i.toNat < rows.length) (fun script i => i.toNat) "at"
  k_with "state" => first | exact strange_back (by assumption) h216 (by assumption) | exact ⟨by omega, by omega⟩
  k_with "measure" => omega
  k_with "KswEnd" => refine Stop.out ?_
  k_with "subscriptTail Name Slice ref ref" => (k_here; (with_reducible show wpAny _ _ (subscriptTail _ (PySem.Expr.Slice _ _ none _) (Value.ref _) (Value.ref _)) _ _ _); k_dflt (refine' kms_slice_lit ?yF ?yN ?yl ?yp ?yq ?ye ?_ ?ys ?yt ?yz; (case yF => k_asm); (case yN => k_asm); (case yl => exact News.isList (by k_asm) (by k_mem)); (case yp => kmk_part); (case yq => kmk_part); (case ye => first | exact pick_head (vs := vs) (by omega) (by omega) | exact pick_tail (vs := vs) (by omega) (by omega)); (case ys => with_unfolding_all rfl); (case yt => kmk_pure); (case yz => (rw [List.size_toArray, sizeLine_eq]; omega))); intro D' h' F' N' l1; (try k_lt l1); (try k_sweep))
  k_with "call ref" => (k_here; (with_reducible show wpAny _ _ (call (Value.ref 212) _) _ _ _); k_dflt (refine' Calls.use (octets_at _ _ _ _ _ _ _ ?yp1 ?yp2 ?yp3 ?yp4 ?yp5 ?yp6) ?k1 ?k2 ?k3 ?k4 ?k5 ?kK ?kd ?ku ?_ ?_); (case k1 => k_asm); (case k2 => k_asm); (case k3 => k_asm); (case k4 => k_asm); (case k5 => k_asm); (case kK => first | exact rfl | assumption); (case kd => ktr_room); (case ku => ktr_units); (case yp1 => exact .head _); (case yp2 => first | (refine (ht.take _).mono ?_; intro pp hpp; repeat (first | exact hpp | refine List.Mem.tail _ ?_)) | (refine ((TupsIn.cons (by assumption) .nil).append (ht.drop _)).mono ?_; intro pp hpp; repeat (first | exact hpp | refine List.Mem.tail _ ?_))); (case yp3 => decide); (case yp4 => decide); (case yp5 => ((try simp only [List.length_take, List.length_append, List.length_cons, List.length_nil, List.length_drop]); omega)); (case yp6 => first | exact fun r h => hr r (List.mem_of_mem_take h) | exact mem_first hr); (all_goals first | (intro C' g' e' h' tk' hx' FG' R' U'; first | exact hx'.elim | ((with_reducible have ck' := RaisedM.sub R' (fun _ hp => hp)); clear ck'; (try dsimp only at R' U'))) | (intro r' n' h' tk' hR' F' N'; (try k_sweep); (obtain ⟨⟨ob', ot', oe', ol', rfl⟩, rfl⟩ := hR'); (try dsimp only); (try k_fold))))
  k_with "subscriptTail" => (k_here; (with_reducible show wpAny _ _ (subscriptTail (PySem.Expr.List _ _) _ (Value.ref _) (Value.int _ _)) _ _ _); k_dflt (refine' menu_bytes ?k1 ?k2 ?k3 ?k4 ?k5 ?_ ?k6; (case k1 => is_list); (case k2 => repeat constructor); (case k3 => assumption); (case k4 => assumption); (case k5 => omega); (case k6 => with_unfolding_all rfl)); intro cb ct cm; obtain ⟨cs9, hcs9, hcl9⟩ := strange_ints cm)
  k_with "subscriptTail" => (k_here; (with_reducible show wpAny _ _ (subscriptTail (PySem.Expr.Subscript _ _ _) _ (Value.ref _) (Value.int _ _)) _ _ _); k_dflt (refine' tup_code ?k1 ?k2 ?k3 ?_ ?k6; (case k1 => assumption); (case k2 => k_asm); (case k3 => first | k_sub | exact fun p hp => .tail _ (.tail _ hp)); (case k6 => with_unfolding_all rfl)); intro xt)
  k_with "subscriptTail" => (k_here; (with_reducible show wpAny _ _ (subscriptTail (PySem.Expr.Name _ _) _ (Value.ref _) (Value.int _ _)) _ _ _); k_dflt (refine' tups_get ?k1 ?k2 ht ?k3 ?k4 ?k5 ?_ ?k6; (case k1 => k_asm); (case k2 => first | assumption | k_mem); (case k3 => omega); (case k4 => omega); (case k5 => omega); (case k6 => with_unfolding_all rfl)); intro xx hxx)
  k_with "binaryOp Add ref ref" => (k_here; (with_reducible show wpAny _ _ (binaryOp _ (Value.ref _) (Value.ref _)) _ _ _); k_dflt (refine' kmk_add_lit ?yF ?yN ?ya ?yb ?ye ?_ ?yz; (case yF => k_asm); (case yN => k_asm); (case ya => exact News.isList (by k_asm) (by k_mem)); (case yb => exact News.isList (by k_asm) (by k_mem)); (case ye => exact (rfl : [Value.ref _] ++ List.drop _ vs = _)); (case yz => (show 1 + (List.drop _ vs).length ≤ _; rw [sizeLine_eq, List.length_drop]; omega))); intro D' h' F' N' l1; (try k_lt l1); (try k_sweep))
  have hvl := ht.length
  k_steps
  · refine Stop.mk ?_
    rename Fr _ _ _ _ => F7
    rename News _ _ _ _ => N7
    exact ksw_end (_, _) F7 N7 (fun _ h => h) trivial (List.forall_mem_cons.mpr ⟨rfl, List.forall_mem_nil _⟩) (by ksw_same) (strange_back ⟨by assumption, by assumption⟩ h216 (by assumption)) (by dsimp only; omega)
  rename (KBw.bInts (_ ++ cb ++ _) = _) => e9
  have g4 := congrArg List.length e9
  simp only [List.length_append, List.length_take, List.length_drop] at g4
  replace g4 : _ ≤ 20000 := Nat.le_trans (Nat.le_of_eq g4) (by clear hne; omega)
  obtain ⟨i, hi, g1, g2, g3⟩ := strange_sum (by assumption) (by assumption) (by assumption) e9
  rename News h₀ L _ _ => N5
  replace N5 := cb_drop N5 (news := (l, listOf vs.toArray cap) :: (sa, srcObj xa' xb' ta' tb' n) :: led) (fun p hp => .tail _ (.tail _ (.tail _ (.tail _ (.tail _ hp)))))
  (refine' hret _ _ _ _ (⟨_, cb, _, i, hi, _, _, _, _, q3', q4', q5', g1, g2, cm, g3.trans (by rw [hcs9]), g4, rfl, rfl⟩) ?hF ?hN; (case hN => assumption); (case hF => assumption))

/-- a contract that leans on what stands below the first frame -/
def CallsB (prog : Program) (w : World) (d : Nat) (f : Addr) (args : List Value) (news : List (Addr × Obj)) (H : Heap → Prop) (R : Value → List (Addr × Obj) → Prop) (X : Addr → Prop) : Prop :=
  ∀ (dp un : Nat) (gd : Option (List Code)) (cn : Str) (cs : Scope) (a : Addr) (ccd : Value) (cl : List (Str × Addr)) (outer : List Env) (A₀ : Around) (base h₀ : Heap) (L : Addr) (m : Str → Option Value) (s : Shared)
    (p : Program) (loose : List Str) (mean : ExcName → Option Value) (mg mb : Str → Option Value) (Q E : Value → Shared → Prop),
    Below A₀ base outer h₀ → Fr h₀ L s.heap m → (KP w.params).In h₀ → News h₀ L s.heap news → Top p loose mean mg mb h₀ → H base → cs.kind = .function → dp + d < recursionLimit → un + 8 * d < cLine →
    (∀ r news' h' tk', R r news' → Fr h₀ L h' m → News h₀ L h' news' → Q r { s with heap := h', toks := tk' }) →
    (∀ C g e h' tk', X C → Fr h₀ L g m → RaisedM base g (envX cn cs L a ccd cl :: outer) e (.ref C) news h' → g.UpToSlots h' → E (.ref e) { s with heap := h', toks := tk' }) →
    wpAny (model prog w) (ktrTop dp un gd cn cs L a ccd cl outer) (call (.ref f) args) Q E s
theorem getD_none {ns : List Int} (h : ns.length = 0) : ns.getD 0 0 = 0 := by
  rw [List.length_eq_zero_iff] at h; subst h; rfl
theorem pool_start (x : Int) : 0 ≤ x.fmod 2147483629 + 17 ∧ x.fmod 2147483629 + 17 < 2147483647 := by
  have := fm_in x (c := 2147483629) (by decide); omega
set_option maxHeartbeats 1000000 in
theorem pool_spec {prog : Program} {w : World} (news : List (Addr × Obj)) (sc : Addr) (vs : List Value) (ns : List Int) (hi : IntsAre vs ns) (hn : ns.length ≤ 63) :
    CallsB prog w 2 186 [.ref sc] news (fun b => b.IsList sc vs.toArray) (fun r n' => ∃ (D : Addr) (x0 x1 : Int) (ta tb : Tok), 0 ≤ x0 ∧ 0 ≤ x1 ∧ x1 < 2147483647 ∧ r = .ref D ∧ n' = (D, srcObj x0 x1 ta tb 0) :: news ∧ ∀ p ∈ news, p.1 ≠ D) (fun _ => False) := by
  k_with_none
  k_with "exec Raise some none" => (k_here; (with_reducible show wpAny _ _ (exec (Stmt.Raise (some (PySem.Expr.Call (PySem.Expr.Name ("CutError" : Str) _) _ _ _)) none _) _) _ _ _); k_dflt (refine raise68 rfl ?_))
  k_with "exec Raise some none" => (k_here; (with_reducible show wpAny _ _ (exec (Stmt.Raise (some (PySem.Expr.Call (PySem.Expr.Name ("MarkerError" : Str) _) _ _ _)) none _) _) _ _ _); k_dflt (refine raise44 rfl ?_))
  k_with "exec Raise some none" => (k_here; (with_reducible show wpAny _ _ (exec (Stmt.Raise (some (PySem.Expr.Call (PySem.Expr.Name ("SegmentError" : Str) _) _ _ _)) none _) _) _ _ _); k_dflt (refine raise56 rfl ?_))
  k_with "call ref" => (k_here; (with_reducible show wpAny _ _ (call (Value.ref _) [Value.str _ _]) (RaiseAt _ _ _) _ _); k_dflt (first | refine' exc_call (exc68 _) ?k1 ?k2 ?k3 ?k4 ?k5 ?kA ?kF ?kK ?kd ?_ | refine' exc_call (exc44 _) ?k1 ?k2 ?k3 ?k4 ?k5 ?kA ?kF ?kK ?kd ?_ | refine' exc_call (exc56 _) ?k1 ?k2 ?k3 ?k4 ?k5 ?kA ?kF ?kK ?kd ?_); (case k1 => k_asm); (case k2 => k_asm); (case k3 => k_asm); (case k4 => k_asm); (case k5 => k_asm); (case kA => exact rfl); (case kF => exact rfl); (case kK => first | exact rfl | assumption); (case kd => ktr_room); intro e' t' dx' h' tk' F' N' D'; refine ⟨_, _, _, rfl, Frag.In.keeps (by k_asm) (Fr.keep F'), News.get N' (.head _), ?_⟩; (try k_sweep))
  k_with "leaving ref" => (k_here; k_dflt (first | (refine' leave_raiseM ?k1 ?k2 ?k3 ?k4 ?_; (case k3 => assumption); (case k1 => assumption); (case k2 => assumption); (case k4 => assumption); intro h' R' U'; (try dsimp only at R' U' ⊢)) | (refine' leave_onM ?k1 ?k2 ?k3 ?k4 ?_; (case k3 => assumption); (case k1 => assumption); (case k4 => assumption); (case k2 => assumption); intro h' R' U'; (try dsimp only at R' U' ⊢))))
  k_with "call type:bytes" => (k_here; (with_reducible show wpAny _ _ (call (Value.type "bytes") [Value.bytes _ _]) _ _ _); k_dflt (refine bytes_again ?_); intro _)
  k_with "call type:bytes" => (k_here; (with_reducible show wpAny _ _ (call (Value.type "bytes") [Value.int _ _]) _ _ _); k_dflt (refine bytes_zeros (by omega) (by omega) ?_); intro _ _)
  k_with "call ref" => (k_here; (with_reducible show wpAny _ _ (call (Value.ref 96) _) _ _ _); k_dflt (refine' Calls.use (is_restart_spec _ _ _) ?k1 ?k2 ?k3 ?k4 ?k5 ?kK ?kd ?ku ?_ ?_); (case k1 => k_asm); (case k2 => k_asm); (case k3 => k_asm); (case k4 => k_asm); (case k5 => k_asm); (case kK => first | exact rfl | assumption); (case kd => ktr_room); (case ku => ktr_units); (all_goals first | (intro C' g' e' h' tk' hx' FG' R' U'; first | exact hx'.elim | ((with_reducible have ck' := RaisedM.sub R' (fun _ hp => hp)); clear ck'; (try dsimp only at R' U'))) | (intro r' n' h' tk' hR' F' N'; (try k_sweep); (obtain ⟨rfl, rfl⟩ := hR'); (try dsimp only); (try k_fold))))
  k_with "call ref" => (k_here; (with_reducible show wpAny _ _ (call (Value.ref 103) _) _ _ _); k_dflt (refine' Calls.use (has_length_spec _ _ _) ?k1 ?k2 ?k3 ?k4 ?k5 ?kK ?kd ?ku ?_ ?_); (case k1 => k_asm); (case k2 => k_asm); (case k3 => k_asm); (case k4 => k_asm); (case k5 => k_asm); (case kK => first | exact rfl | assumption); (case kd => ktr_room); (case ku => ktr_units); (all_goals first | (intro C' g' e' h' tk' hx' FG' R' U'; first | exact hx'.elim | ((with_reducible have ck' := RaisedM.sub R' (fun _ hp => hp)); clear ck'; (try dsimp only at R' U'))) | (intro r' n' h' tk' hR' F' N'; (try k_sweep); (obtain ⟨rfl, rfl⟩ := hR'); (try dsimp only); (try k_fold))))
  k_with "call ref" => (k_here; (with_reducible show wpAny _ _ (call (Value.ref 132) _) _ _ _); k_dflt (refine' Calls.use (next_marker_spec _ _ _ _ _ _ ?p1 ?p2 ?p3) ?k1 ?k2 ?k3 ?k4 ?k5 ?kK ?kd ?ku ?_ ?_); (case k1 => k_asm); (case k2 => k_asm); (case k3 => k_asm); (case k4 => k_asm); (case k5 => k_asm); (case kK => first | exact rfl | assumption); (case kd => ktr_room); (case ku => ktr_units); (case p1 => assumption); (case p2 => assumption); (case p3 => first | assumption | omega); (all_goals first | (intro C' g' e' h' tk' hx' FG' R' U'; first | exact hx'.elim | ((with_reducible have ck' := RaisedM.sub R' (fun _ hp => hp)); clear ck'; (try dsimp only at R' U'))) | (intro r' n' h' tk' hR' F' N'; (try k_sweep); (obtain ⟨fd', e0, rfl, rfl⟩ := hR'); (try dsimp only); (try k_fold))))
  k_with "KswEnd" => (k_here; (rename Fr _ _ _ _ => F9); (rename News _ _ _ _ => N9); k_dflt (refine' ksw_end ⟨_, _⟩ F9 N9 ?ka ?kb ?kc ?kz ?kp ?km); (case ka => first | exact fun _ hp => hp | exact fun _ hp => .tail _ hp | kst_in); (case kb => kst_facts); (case kc => kst_all); (case kz => (intro z h2 h3; have h9 := h2 _ (.head _); first | (dsimp only at h9 ⊢; simp only [if_neg h9, List.contains_nil, Bool.false_eq_true, if_false]; first | done | rfl | (simp only [kstB, List.contains_nil, Bool.false_eq_true, if_false]; first | done | rfl)) | ksw_same)); (case kp => kst_p); (case km => ksw_less))
  k_with "call ref" => (k_here; (with_reducible show wpAny _ _ (call (Value.ref 139) _) _ _ _); k_dflt (refine' Calls.use (data_end_spec _ _ _ _ _ _ ?p1 ?p2 ?p3) ?k1 ?k2 ?k3 ?k4 ?k5 ?kK ?kd ?ku ?_ ?_); (case k1 => k_asm); (case k2 => k_asm); (case k3 => k_asm); (case k4 => k_asm); (case k5 => k_asm); (case kK => first | exact rfl | assumption); (case kd => ktr_room); (case ku => ktr_units); (case p1 => assumption); (case p2 => assumption); (case p3 => first | assumption | omega); (all_goals first | (intro C' g' e' h' tk' hx' FG' R' U'; first | exact hx'.elim | ((with_reducible have ck' := RaisedM.sub R' (fun _ hp => hp)); clear ck'; (try dsimp only at R' U'))) | (intro r' n' h' tk' hR' F' N'; (try k_sweep); (obtain ⟨pe', tk9, e0, rfl, rfl⟩ := hR'); (try dsimp only); (try k_fold))))
  k_with "call ref" => (k_here; (with_reducible show wpAny _ _ (call (Value.ref 146) _) _ _ _); k_dflt (refine' Calls.use (read_code_spec _ _ _ _ _ _ ?p1 ?p2 ?p3) ?k1 ?k2 ?k3 ?k4 ?k5 ?kK ?kd ?ku ?_ ?_); (case k1 => k_asm); (case k2 => k_asm); (case k3 => k_asm); (case k4 => k_asm); (case k5 => k_asm); (case kK => first | exact rfl | assumption); (case kd => ktr_room); (case ku => ktr_units); (case p1 => assumption); (case p2 => assumption); (case p3 => first | assumption | omega); (all_goals first | (intro C' g' e' h' tk' hx' FG' R' U'; first | exact hx'.elim | ((with_reducible have ck' := RaisedM.sub R' (fun _ hp => hp)); clear ck'; (try dsimp only at R' U'))) | (intro r' n' h' tk' hR' F' N'; (try k_sweep); (obtain ⟨k', j', D', t1', t2', e0, e1, rfl, rfl⟩ := hR'); (try dsimp only); (try k_fold))))
  k_with "call ref" => (k_here; (with_reducible show wpAny _ _ (call (Value.ref 153) _) _ _ _); k_dflt (refine' Calls.use (read_payload_spec _ _ _ _ _ _ ?p1 ?p2 ?p3) ?k1 ?k2 ?k3 ?k4 ?k5 ?kK ?kd ?ku ?_ ?_); (case k1 => k_asm); (case k2 => k_asm); (case k3 => k_asm); (case k4 => k_asm); (case k5 => k_asm); (case kK => first | exact rfl | assumption); (case kd => ktr_room); (case ku => ktr_units); (case p1 => assumption); (case p2 => assumption); (case p3 => first | assumption | omega); (all_goals first | (intro C' g' e' h' tk' hx' FG' R' U'; first | exact hx'.elim | ((with_reducible have ck' := RaisedM.sub R' (fun _ hp => hp)); clear ck'; (try dsimp only at R' U'))) | (intro r' n' h' tk' hR' F' N'; (try k_sweep); (obtain ⟨pl', j', D', b', t1', t2', e0, e1, rfl, rfl, e2⟩ := hR'); (try dsimp only); (try k_fold))))
  k_with "call ref" => (k_here; (with_reducible show wpAny _ _ (call (Value.ref 121) _) _ _ _); k_dflt (refine' Calls.use (piece_spec _ _ _ _ _ (.inl rfl)) ?k1 ?k2 ?k3 ?k4 ?k5 ?kK ?kd ?ku ?_ ?_); (case k1 => k_asm); (case k2 => k_asm); (case k3 => k_asm); (case k4 => k_asm); (case k5 => k_asm); (case kK => first | exact rfl | assumption); (case kd => ktr_room); (case ku => ktr_units); (all_goals first | (intro C' g' e' h' tk' hx' FG' R' U'; first | exact hx'.elim | ((with_reducible have ck' := RaisedM.sub R' (fun _ hp => hp)); clear ck'; (try dsimp only at R' U'))) | (intro r' n' h' tk' hR' F' N'; (try k_sweep); (obtain ⟨x', dx', h1', h2', h3', k1', k2', k3', rfl, lx', ly', rfl⟩ := hR'); (try dsimp only); (try k_fold))))
  k_with "call ref" => (k_here; (with_reducible show wpAny _ _ (call (Value.ref 121) _) _ _ _); k_dflt (refine' Calls.use (piece_spec _ _ _ _ _ (.inr (.inl ⟨rfl, rfl⟩))) ?k1 ?k2 ?k3 ?k4 ?k5 ?kK ?kd ?ku ?_ ?_); (case k1 => k_asm); (case k2 => k_asm); (case k3 => k_asm); (case k4 => k_asm); (case k5 => k_asm); (case kK => first | exact rfl | assumption); (case kd => ktr_room); (case ku => ktr_units); (all_goals first | (intro C' g' e' h' tk' hx' FG' R' U'; first | exact hx'.elim | ((with_reducible have ck' := RaisedM.sub R' (fun _ hp => hp)); clear ck'; (try dsimp only at R' U'))) | (intro r' n' h' tk' hR' F' N'; (try k_sweep); (obtain ⟨x', dx', h1', h2', h3', k1', k2', k3', rfl, lx', ly', rfl⟩ := hR'); (try dsimp only); (try k_fold))))
  k_with "call ref" => (k_here; (with_reducible show wpAny _ _ (call (Value.ref 121) _) _ _ _); k_dflt (refine' Calls.use (piece_spec _ _ _ _ _ (.inr (.inr ⟨rfl, rfl, rfl⟩))) ?k1 ?k2 ?k3 ?k4 ?k5 ?kK ?kd ?ku ?_ ?_); (case k1 => k_asm); (case k2 => k_asm); (case k3 => k_asm); (case k4 => k_asm); (case k5 => k_asm); (case kK => first | exact rfl | assumption); (case kd => ktr_room); (case ku => ktr_units); (all_goals first | (intro C' g' e' h' tk' hx' FG' R' U'; first | exact hx'.elim | ((with_reducible have ck' := RaisedM.sub R' (fun _ hp => hp)); clear ck'; (try dsimp only at R' U'))) | (intro r' n' h' tk' hR' F' N'; (try k_sweep); (obtain ⟨x', dx', h1', h2', h3', k1', k2', k3', rfl, lx', ly', rfl⟩ := hR'); (try dsimp only); (try k_fold))))
  k_with "call ref" => (k_here; (with_reducible show wpAny _ _ (call (Value.ref 160) _) _ _ _); k_dflt (refine' Calls.use (read_piece_spec _ _ _ _ _ _ ?p1 ?p2 ?p3) ?k1 ?k2 ?k3 ?k4 ?k5 ?kK ?kd ?ku ?_ ?_); (case k1 => k_asm); (case k2 => k_asm); (case k3 => k_asm); (case k4 => k_asm); (case k5 => k_asm); (case kK => first | exact rfl | assumption); (case kd => ktr_room); (case ku => ktr_units); (case p1 => assumption); (case p2 => assumption); (case p3 => first | assumption | omega); (all_goals first | (intro C' g' e' h' tk' hx' FG' R' U'; first | exact hx'.elim | ((with_reducible have ck' := RaisedM.sub R' (fun _ hp => hp)); clear ck'; (try dsimp only at R' U'))) | (intro r' n' h' tk' hR' F' N'; (try k_sweep); (obtain ⟨D', x', dx', t1', tc', tp', td', k1', k2', k3', h1', h2', h3', k', j', pb', db', e0, e1, rfl, rfl⟩ := hR'); (try dsimp only); (try k_fold))))
  k_with "call ref" => (k_here; (with_reducible show wpAny _ _ (call (Value.ref 89) _) _ _ _); k_dflt (refine' Calls.use (word_spec _ _ _ ?p1 ?p2) ?k1 ?k2 ?k3 ?k4 ?k5 ?kK ?kd ?ku ?_ ?_); (case k1 => k_asm); (case k2 => k_asm); (case k3 => k_asm); (case k4 => k_asm); (case k5 => k_asm); (case kK => first | exact rfl | assumption); (case kd => ktr_room); (case ku => ktr_units); (case p1 => omega); (case p2 => omega); (all_goals first | (intro C' g' e' h' tk' hx' FG' R' U'; first | exact hx'.elim | ((with_reducible have ck' := RaisedM.sub R' (fun _ hp => hp)); clear ck'; (try dsimp only at R' U'))) | (intro r' n' h' tk' hR' F' N'; (try k_sweep); (obtain ⟨⟨wb', wt', ew', rfl⟩, rfl⟩ := hR'); (try dsimp only); (try k_fold))))
  k_with "call ref" => (k_here; (with_reducible show wpAny _ _ (call (Value.ref 174) _) _ _ _); k_dflt (refine' Calls.use (write_piece_spec _ _ _ ?p1 ?p2 ?p3 ?p4 ?p5) ?k1 ?k2 ?k3 ?k4 ?k5 ?kK ?kd ?ku ?_ ?_); (case k1 => k_asm); (case k2 => k_asm); (case k3 => k_asm); (case k4 => k_asm); (case k5 => k_asm); (case kK => first | exact rfl | assumption); (case kd => ktr_room); (case ku => ktr_units); (case p1 => exact PieceIn.mono (by assumption) (by k_sub)); (case p2 => (first | exact hri.1 | omega)); (case p3 => (first | exact hri.2.1 | omega)); (case p4 => (first | exact hri.2.2.1 | omega)); (case p5 => (first | exact hri.2.2.2 | omega)); (all_goals first | (intro C' g' e' h' tk' hx' FG' R' U'; first | exact hx'.elim | ((with_reducible have ck' := RaisedM.sub R' (fun _ hp => hp)); clear ck'; (try dsimp only at R' U'))) | (intro r' n' h' tk' hR' F' N'; (try k_sweep); (obtain ⟨⟨wb', wt', ew', rfl⟩, rfl⟩ := hR'); (try dsimp only); (try k_fold))))
  k_with "call ref" => (k_here; (with_reducible show wpAny _ _ (call (Value.ref 193) _) _ _ _); k_dflt (refine' Calls.use (take_spec _ _ ?p0 ?p1 ?p2 ?p3 ?p4 ?p5) ?k1 ?k2 ?k3 ?k4 ?k5 ?kK ?kd ?ku ?_ ?_); (case k1 => k_asm); (case k2 => k_asm); (case k3 => k_asm); (case k4 => k_asm); (case k5 => k_asm); (case kK => first | exact rfl | assumption); (case kd => ktr_room); (case ku => ktr_units); (case p0 => (first | exact UpdF.head (by assumption) | (refine' UpdF.head ?zz; (case zz => k_all)) | (refine' UpdF.tail ?za ?zb; (case za => (first | k_ne | assumption)); (case zb => (first | exact UpdF.head (by assumption) | (refine' UpdF.head ?zz; (case zz => k_all)) | (refine' UpdF.tail ?za ?zb; (case za => (first | k_ne | assumption)); (case zb => (first | exact UpdF.head (by assumption) | (refine' UpdF.head ?zz; (case zz => k_all)) | (refine' UpdF.tail ?za ?zb; (case za => (first | k_ne | assumption)); (case zb => (first | exact UpdF.head (by assumption) | (refine' UpdF.head ?zz; (case zz => k_all)) | (refine' UpdF.tail ?za ?zb; (case za => (first | k_ne | assumption)); (case zb => (first | exact UpdF.head (by assumption) | (refine' UpdF.head ?zz; (case zz => k_all)) | (refine' UpdF.tail ?za ?zb; (case za => (first | k_ne | assumption)); (case zb => (exact UpdF.head (by assumption)))))))))))))))))); (case p1 => assumption); (case p2 => assumption); (case p3 => assumption); (case p4 => k_dflt (first | decide | omega)); (case p5 => k_dflt (first | decide | omega)); (all_goals first | (intro C' g' e' h' tk' hx' FG' R' U'; first | exact hx'.elim | ((with_reducible have ck' := RaisedM.sub R' (fun _ hp => hp)); clear ck'; (try dsimp only at R' U'))) | (intro r' n' h' tk' hR' F' N'; (try k_sweep); (obtain ⟨v', tv', xa', xb', ta', tb', q1', q2', q3', q4', q5', rfl, rfl⟩ := hR'); (try dsimp only); (try k_fold))))
  k_with "call ref" => (k_here; (with_reducible show wpAny _ _ (call (Value.ref 200) _) _ _ _); k_dflt (refine' Calls.use (data_spec ?p0 ?p1 ?p2 ?p3) ?k1 ?k2 ?k3 ?k4 ?k5 ?kK ?kd ?ku ?_ ?_); (case k1 => k_asm); (case k2 => k_asm); (case k3 => k_asm); (case k4 => k_asm); (case k5 => k_asm); (case kK => first | exact rfl | assumption); (case kd => ktr_room); (case ku => ktr_units); (case p0 => (first | exact UpdF.head (by assumption) | (refine' UpdF.head ?zz; (case zz => k_all)) | (refine' UpdF.tail ?za ?zb; (case za => (first | k_ne | assumption)); (case zb => (first | exact UpdF.head (by assumption) | (refine' UpdF.head ?zz; (case zz => k_all)) | (refine' UpdF.tail ?za ?zb; (case za => (first | k_ne | assumption)); (case zb => (first | exact UpdF.head (by assumption) | (refine' UpdF.head ?zz; (case zz => k_all)) | (refine' UpdF.tail ?za ?zb; (case za => (first | k_ne | assumption)); (case zb => (first | exact UpdF.head (by assumption) | (refine' UpdF.head ?zz; (case zz => k_all)) | (refine' UpdF.tail ?za ?zb; (case za => (first | k_ne | assumption)); (case zb => (first | exact UpdF.head (by assumption) | (refine' UpdF.head ?zz; (case zz => k_all)) | (refine' UpdF.tail ?za ?zb; (case za => (first | k_ne | assumption)); (case zb => (exact UpdF.head (by assumption)))))))))))))))))); (case p1 => assumption); (case p2 => assumption); (case p3 => assumption); (all_goals first | (intro C' g' e' h' tk' hx' FG' R' U'; first | exact hx'.elim | ((with_reducible have ck' := RaisedM.sub R' (fun _ hp => hp)); clear ck'; (try dsimp only at R' U'))) | (intro r' n' h' tk' hR' F' N'; (try k_sweep); (obtain ⟨db', dt', xa', xb', ta', tb', d1', d2', q3', q4', q5', rfl, rfl⟩ := hR'); (try dsimp only); (try k_fold))))
  k_with "call ref" => (k_here; (with_reducible show wpAny _ _ (call (Value.ref 167) _) _ _ _); k_dflt (refine' Calls.use (read_pieces_spec _ _ _ _ ?p1 ?p2) ?k1 ?k2 ?k3 ?k4 ?k5 ?kK ?kd ?ku ?_ ?_); (case k1 => k_asm); (case k2 => k_asm); (case k3 => k_asm); (case k4 => k_asm); (case k5 => k_asm); (case kK => first | exact rfl | assumption); (case kd => ktr_room); (case ku => ktr_units); (case p1 => assumption); (case p2 => first | assumption | omega); (all_goals first | (intro C' g' e' h' tk' hx' FG' R' U'; first | exact hx'.elim | ((with_reducible have ck' := RaisedM.sub R' (fun _ hp => hp)); clear ck'; (try dsimp only at R' U'))) | (intro r' n' h' tk' hR' F' N'; (try k_sweep); (obtain ⟨l', vs', cap', rows', led', e0', rfl, rfl, pin', sub'⟩ := hR'); (try dsimp only); (try k_fold))))
  intro dp un gd cn cs a ccd cl outer A₀ base h₀ L m s p loose mean mg mb Q E hB hF hX hN hT hLs hk hd hu hret hex
  refine wpAny_call ?_
  k_dflt cell_enter
  k_with "pyIter ref" => refine Stop.out ?_
  k_with "InvEndG" => refine Stop.out ?_
  k_with "call type:range" => ((rename Fr _ _ _ _ => F'); (rename News _ _ _ _ => N'); (with_unfolding_all refine range1_rows F' N' ?_; intro _ _ _ _ _ _ _ _ _))
  k_with "eval IfExp" => refine Stop.out ?_
  k_steps
  refine Stop.mk ?_
  refine join_int (g := ns.getD 0 0) ?ife fun tk7 n7 => ?_
  case ife =>
    with_reducible refine IfExp_ ?_
    k_steps
    · exact ⟨⟨_, _, rfl, rfl⟩⟩
    · exact ⟨⟨_, _, by rw [getD_none (by omega)], rfl⟩⟩
  (try dsimp only)
  (try k_fold)
  generalize hbig : ns.getD 0 0 = big
  k_with "eval IfExp" => (with_reducible refine IfExp_ ?_)
  k_steps
  · refine Stop.mk ?_
    rename IsRange _ _ _ _ _ _ _ _ => rg
    rename Fr _ _ _ _ => lF
    rename News _ _ _ _ => lN
    refine' kd_range (σ := Int × Tok) (fun _ => []) news (fun c => [("mixed", .int c.1 c.2)]) (fun _ _ => True) [] (fun pre c => 0 ≤ c.1 ∧ c.1 < 2147483647) (news.map (·.1)) (_, _) (by rfl) rg (small_one (by omega) (by omega) (by omega) (by omega)) (rangeSize_nat _ _) lF lN (fun p hp => by simpa using hp) (fun _ => rfl) trivial (List.forall_mem_cons.mpr ⟨rfl, List.forall_mem_nil _⟩) (pool_start _) ?turn ?done
    case turn =>
      clear lF lN
      rintro ⟨mx, mt⟩ tl pre k t u h tk own hk hlt ksep koff _ ⟨q1, q2⟩ F9 N9
      simp only [List.nil_append] at N9
      dsimp only at q1 q2
      dsimp only [kstB] at F9
      k_steps
      rename Fr _ _ _ _ => F8
      rename News _ _ _ _ => N8
      refine Stop.mk (kd_end (_, _) [] ksep F8 N8 (fun p hp => by rw [← List.append_assoc]; exact List.mem_append_left _ hp) (fun p hp => List.mem_append_right _ (List.mem_append_right _ hp)) rfl (fun q hq => nomatch hq) (fun q hq => nomatch hq) (List.forall_mem_cons.mpr ⟨rfl, List.forall_mem_nil _⟩) (by kst_same) trivial (fm_in _ (by decide)))
    case done =>
      clear lF lN
      rintro ⟨mx, mt⟩ tl u h tk koff _ ⟨q1, q2⟩ F9 N9
      simp only [List.nil_append] at N9
      dsimp only at q1 q2
      dsimp only [kstB] at F9
      k_steps
      all_goals rename News h₀ L _ _ => N5
      all_goals rename (∀ p ∈ news ++ tl, _) => l3
      all_goals replace N5 := cb_drop N5 (news := _ :: news) (List.forall_mem_cons.mpr ⟨.head _, fun p hp => .tail _ (List.mem_append_left _ hp)⟩)
      all_goals (refine' hret _ _ _ _ (⟨_, _, _, _, _, ?h1, q1, q2, rfl, rfl, fun p hp => Nat.ne_of_lt (l3 p (List.mem_append_left _ hp))⟩) ?hF ?hN; (case hN => assumption); (case hF => assumption); (case h1 => omega))
  · refine Stop.mk ?_
    rename IsRange _ _ _ _ _ _ _ _ => rg
    rename Fr _ _ _ _ => lF
    rename News _ _ _ _ => lN
    refine' kd_range (σ := Int × Tok) (fun _ => []) news (fun c => [("mixed", .int c.1 c.2)]) (fun _ _ => True) [] (fun pre c => 0 ≤ c.1 ∧ c.1 < 2147483647) (news.map (·.1)) (_, _) (by rfl) rg (small_one (by omega) (by omega) (by omega) (by omega)) (rangeSize_nat _ _) lF lN (fun p hp => by simpa using hp) (fun _ => rfl) trivial (List.forall_mem_cons.mpr ⟨rfl, List.forall_mem_nil _⟩) (pool_start _) ?turn ?done
    case turn =>
      clear lF lN
      rintro ⟨mx, mt⟩ tl pre k t u h tk own hk hlt ksep koff _ ⟨q1, q2⟩ F9 N9
      simp only [List.nil_append] at N9
      dsimp only at q1 q2
      dsimp only [kstB] at F9
      k_steps
      rename Fr _ _ _ _ => F8
      rename News _ _ _ _ => N8
      refine Stop.mk (kd_end (_, _) [] ksep F8 N8 (fun p hp => by rw [← List.append_assoc]; exact List.mem_append_left _ hp) (fun p hp => List.mem_append_right _ (List.mem_append_right _ hp)) rfl (fun q hq => nomatch hq) (fun q hq => nomatch hq) (List.forall_mem_cons.mpr ⟨rfl, List.forall_mem_nil _⟩) (by kst_same) trivial (fm_in _ (by decide)))
    case done =>
      clear lF lN
      rintro ⟨mx, mt⟩ tl u h tk koff _ ⟨q1, q2⟩ F9 N9
      simp only [List.nil_append] at N9
      dsimp only at q1 q2
      dsimp only [kstB] at F9
      k_steps
      all_goals rename News h₀ L _ _ => N5
      all_goals rename (∀ p ∈ news ++ tl, _) => l3
      all_goals replace N5 := cb_drop N5 (news := _ :: news) (List.forall_mem_cons.mpr ⟨.head _, fun p hp => .tail _ (List.mem_append_left _ hp)⟩)
      all_goals (refine' hret _ _ _ _ (⟨_, _, _, _, _, ?h1, q1, q2, rfl, rfl, fun p hp => Nat.ne_of_lt (l3 p (List.mem_append_left _ hp))⟩) ?hF ?hN; (case hN => assumption); (case hF => assumption); (case h1 => omega))

section
open PySem.SeqAt
variable {prog : Program} {w : World} {A : Around} {E : Value → Shared → Prop} {s : Shared} {h₀ : Heap} {L : Addr} {news : List (Addr × Obj)}
theorem eqAt_bytes (b c : Array UInt8) (t u : Tok) : EqAt A s (.bytes b t) (.bytes c u) (b.toList == c.toList) := fun prog w E Q h => by
  unfold eqBool
  refine wpAny_holding ?_
  refine wpAny_ite_split (fun hab => ?_) (fun _ => ?_)
  · have e : b = c := by have := eq_of_beq hab; injection this
    subst e
    exact wpAny_bind (wpAny_rule (wpAny_pure (by simpa using h)))
  · exact wpAny_bind (richCompare_gives (op := .Eq) (typeIs_bytes s b t) (typeIs_bytes s c u) FB.slot_bytes_eq FB.entry_bytes_eq (FB.args_bytes_eq_2 _ _) (gives_bytes_eq b c t u) (fun e => nomatch e) (wpAny_truthy_bool h))
theorem row_eqAt {x y : Addr} {r : RowB} {t1 t2 t3 u1 u2 u3 : Tok} {n k : Nat} (N : News h₀ L s.heap news) (mx : (x, rowTup r t1 t2 t3 n) ∈ news) (my : (y, rowTup r u1 u2 u3 k) ∈ news) (hu : A.units < cLine) : EqAt A s (.ref x) (.ref y) true := by
  by_cases hxy : x = y
  · subst hxy; exact EqAt.same _
  refine EqAt.of_refs hxy ?_
  have hx : s.heap.IsTuple x #[.int r.1 t1, .bytes r.2.1 t2, .bytes r.2.2 t3] := ⟨_, (N _ mx).1, rfl, n, rfl⟩
  have hy : s.heap.IsTuple y #[.int r.1 u1, .bytes r.2.1 u2, .bytes r.2.2 u3] := ⟨_, (N _ my).1, rfl, k, rfl⟩
  have q := RcAt.tuples (A := A) (e := fun _ => true) hx hy hu ?_
  · exact q
  · intro j h1 h2
    match j, h1, h2 with
    | 0, _, _ => have e := EqAt.int_int (A := A.in1) (s := s) r.1 t1 r.1 u1; rw [beq_self_eq_true] at e; exact e
    | 1, _, _ => have e := eqAt_bytes (A := A.in1) (s := s) r.2.1 r.2.1 t2 u2; rw [beq_self_eq_true] at e; exact e
    | 2, _, _ => have e := eqAt_bytes (A := A.in1) (s := s) r.2.2 r.2.2 t3 u3; rw [beq_self_eq_true] at e; exact e
    | j + 3, h1, _ => exact absurd h1 (by show ¬ j + 3 < 3; omega)
theorem rows_ne {l l' : Addr} {vs us : List Value} {c k : Nat} {rows : List RowB} {led led' : List (Addr × Obj)} {Q : Value → Shared → Prop} (N : News h₀ L s.heap news) (ml : (l, listOf vs.toArray c) ∈ news) (ml' : (l', listOf us.toArray k) ∈ news) (h1 : TupsIn led vs rows) (h2 : TupsIn led' us rows)
    (s1 : ∀ p ∈ led, p ∈ news) (s2 : ∀ p ∈ led', p ∈ news) (hu : A.units + 64 < cLine) (h : Q (.bool false) s) : wpAny (model prog w) A (compareOp .NotEq (.ref l') (.ref l)) Q E s := by
  have hl : s.heap.IsList l vs.toArray := ⟨_, (N _ ml).1, rfl, c, rfl⟩
  have hl' : s.heap.IsList l' us.toArray := ⟨_, (N _ ml').1, rfl, k, rfl⟩
  refine RcNeAt.lists (e := fun _ => true) hl' hl (by rw [List.size_toArray, List.size_toArray, h1.length, h2.length]) (by omega) (fun j j1 j2 => ?_) prog w E Q ?_
  · rw [List.size_toArray] at j1 j2
    have hj : j < rows.length := h1.length ▸ j2
    obtain ⟨v, hv, x, nt, tc, tp, td, rfl, hm⟩ := h1.get hj
    obtain ⟨u, hu', y, nt', tc', tp', td', rfl, hm'⟩ := h2.get hj
    rw [List.getElem?_eq_getElem j2] at hv
    rw [List.getElem?_eq_getElem j1] at hu'
    have e1 : us.toArray[j] = .ref y := by simpa using hu'
    have e2 : vs.toArray[j] = .ref x := by simpa using hv
    rw [e1, e2]
    exact row_eqAt N (s2 _ hm') (s1 _ hm) (by show A.units + 1 < cLine; omega)
  · have e : ((List.range us.toArray.size).all fun _ => true) = true := by rw [List.all_eq_true]; intro _ _; rfl
    rw [e]; exact h
theorem bytes_ne {b c : Array UInt8} {t u : Tok} {Q : Value → Shared → Prop} (e : KBw.bInts b = KBw.bInts c) (h : Q (.bool false) s) : wpAny (model prog w) A (compareOp .NotEq (.bytes b t) (.bytes c u)) Q E s := by
  refine ne_bytes ?_
  have hl : b.toList = c.toList := by
    refine List.map_inj_right ?_ |>.mp e
    intro x y hxy
    exact UInt8.toNat_inj.mp (Int.ofNat.inj hxy)
  rw [hl, bne_self_eq_false]
  exact h
theorem pair_eq {x y : Addr} {a b : Int} {t1 t2 u1 u2 : Tok} {n k : Nat} {Q : Value → Shared → Prop} (N : News h₀ L s.heap news) (mx : (x, ({ cls := .type "tuple", data := .seq #[.int a t1, .int b t2] n } : Obj)) ∈ news) (my : (y, ({ cls := .type "tuple", data := .seq #[.int a u1, .int b u2] k } : Obj)) ∈ news) (hu : A.units < cLine) (h : Q (.bool true) s) :
    wpAny (model prog w) A (compareOp .Eq (.ref x) (.ref y)) Q E s := by
  have hx : s.heap.IsTuple x #[.int a t1, .int b t2] := ⟨_, (N _ mx).1, rfl, n, rfl⟩
  have hy : s.heap.IsTuple y #[.int a u1, .int b u2] := ⟨_, (N _ my).1, rfl, k, rfl⟩
  refine eq_tupleAt (e := fun _ => true) hx hy hu ?_ h
  intro j h1 h2
  match j, h1, h2 with
  | 0, _, _ => have e := EqAt.int_int (A := A.in1) (s := s) a t1 a u1; rw [beq_self_eq_true] at e; exact e
  | 1, _, _ => have e := EqAt.int_int (A := A.in1) (s := s) b t2 b u2; rw [beq_self_eq_true] at e; exact e
  | j + 2, h1, _ => exact absurd h1 (by show ¬ j + 2 < 2; omega)
end
theorem bInts_inj {b c : Array UInt8} (e : KBw.bInts b = KBw.bInts c) : b = c := by
  have hl : b.toList = c.toList := by
    refine List.map_inj_right ?_ |>.mp e
    intro x y hxy
    exact UInt8.toNat_inj.mp (Int.ofNat.inj hxy)
  exact Array.toList_inj.mp hl
theorem ri_inj : ∀ {a b : List RowB}, a.map ri = b.map ri → a = b
  | [], [], _ => rfl
  | [], _ :: _, h => by cases h
  | _ :: _, [], h => by cases h
  | (c, p, d) :: a, (c', p', d') :: b, h => by
    rw [List.map_cons, List.map_cons] at h
    injection h with h1 h2
    injection h1 with h3 h4
    injection h4 with h4 h5
    rw [ri_inj h2]
    cases h3
    rw [show p = p' from bInts_inj h4, show d = d' from bInts_inj h5]

/-- a row between SOI and EOI, its octets as numbers -/
structure RowGood (r : RowI) : Prop where
  code : r.1 ∈ ([254, 224, 238, 219, 196, 192, 218, 218, 221] : List Int)
  pay : r.2.1.length ≤ 260
  scan : r.1 = 218 → Stuffed r.2.2
  other : r.1 ≠ 218 → r.2.2 = []
/-- the rows of a whole file -/
def Script (is : List RowI) : Prop := ∃ mid, is = [(216, [], [])] ++ mid ++ [(217, [], [])] ∧ ∀ r ∈ mid, RowGood r

section
variable {pre rest : List Int}
theorem getD_app (i : Nat) : (pre ++ rest).getD (pre.length + i) 0 = rest.getD i 0 := by
  rw [List.getD_eq_getElem?_getD, List.getElem?_append_right (Nat.le_add_right _ _), Nat.add_sub_cancel_left, ← List.getD_eq_getElem?_getD]
theorem hitM_app {i : Nat} : hitM (pre ++ rest) (pre.length + i) ↔ hitM rest i := by
  unfold hitM; rw [Nat.add_assoc, getD_app, getD_app]
theorem nextM_app (i : Nat) : nextM (pre ++ rest) (pre.length + i) = (nextM rest i).map (pre.length + ·) := by
  induction i using nextM.induct rest with
  | case1 i h1 h2 => rw [nextM.eq_1 rest, if_pos h1, if_pos h2, nextM.eq_1, if_pos (by rw [List.length_append]; omega), if_pos (hitM_app.mpr h2)]; rfl
  | case2 i h1 h2 ih => rw [nextM.eq_1 rest, if_pos h1, if_neg h2, nextM.eq_1, if_pos (by rw [List.length_append]; omega), if_neg (fun q => h2 (hitM_app.mp q)), Nat.add_assoc]; exact ih
  | case3 i h1 => rw [nextM.eq_1 rest, if_neg h1, nextM.eq_1, if_neg (by rw [List.length_append]; omega)]; rfl
theorem endM_app (i : Nat) : endM (pre ++ rest) (pre.length + i) = (endM rest i).map (pre.length + ·) := by
  induction i using endM.induct rest with
  | case1 i h => rw [endM_none h, endM_none (by rw [nextM_app, h]; rfl)]; rfl
  | case2 i p h hr ih => rw [endM_some h, if_pos hr, endM_some (p := pre.length + p) (by rw [nextM_app, h]; rfl), if_pos (by rw [Nat.add_assoc, getD_app]; exact hr), Nat.add_assoc]; exact ih
  | case3 i p h hr => rw [endM_some h, if_neg hr, endM_some (p := pre.length + p) (by rw [nextM_app, h]; rfl), if_neg (by rw [Nat.add_assoc, getD_app]; exact hr)]; rfl
theorem backM_app {a : Nat} : ∀ {e : Nat}, a ≤ e → backM (pre ++ rest) (pre.length + a) (pre.length + e) = pre.length + backM rest a e
  | 0, h => by
    obtain rfl : a = 0 := Nat.le_zero.mp h
    show backM _ pre.length pre.length = pre.length
    generalize hn : pre.length = n
    cases n with
    | zero => rfl
    | succ n => rw [backM, if_neg (by omega)]
  | e + 1, h => by
    show backM _ _ (pre.length + e + 1) = _
    rw [backM, backM, getD_app]
    by_cases hc : a < e + 1 ∧ rest.getD e 0 = 255
    · rw [if_pos hc, if_pos ⟨by omega, hc.2⟩, backM_app (by omega)]
    · rw [if_neg hc, if_neg (fun q => hc ⟨by omega, q.2⟩)]; rfl
theorem fwdM_app (i : Nat) : fwdM (pre ++ rest) (pre.length + i) = pre.length + fwdM rest i := by
  induction i using fwdM.induct rest with
  | case1 i h ih => rw [fwdM.eq_1 rest, if_pos h, fwdM.eq_1, if_pos ⟨by rw [List.length_append]; omega, by rw [getD_app]; exact h.2⟩, Nat.add_assoc]; exact ih
  | case2 i h => rw [fwdM.eq_1 rest, if_neg h, fwdM.eq_1, if_neg (fun q => h ⟨by rw [List.length_append] at q; omega, by rw [getD_app] at q; exact q.2⟩)]
theorem codeM_app (i : Nat) : codeM (pre ++ rest) (pre.length + i) = (codeM rest i).map fun x => (x.1, pre.length + x.2) := by
  rw [codeM, codeM, List.length_append, fwdM_app, getD_app, getD_app]
  simp only [Nat.add_le_add_iff_left]
  repeat' split
  all_goals rfl
theorem drop_app (k : Nat) : (pre ++ rest).drop (pre.length + k) = rest.drop k := by
  rw [← List.drop_drop, List.drop_left]
theorem size2_app {i : Int} (h0 : 0 ≤ i) : size2 (pre ++ rest) ((pre.length : Int) + i) = size2 rest i := by
  unfold size2
  rw [show ((pre.length : Int) + i).toNat = pre.length + i.toNat by omega, show ((pre.length : Int) + i + 1).toNat = pre.length + (i + 1).toNat by omega, getD_app, getD_app]
theorem payloadM_app {i : Int} (h0 : 0 ≤ i) : payloadM (pre ++ rest) ((pre.length : Int) + i) = (payloadM rest i).map fun x => (x.1, (pre.length : Int) + x.2) := by
  rw [payloadM, payloadM, size2_app h0, List.length_append]
  by_cases h1 : (rest.length : Int) < i + 2
  · rw [if_pos h1, if_pos (by omega)]; rfl
  rw [if_neg h1, if_neg (by omega)]
  by_cases h2 : size2 rest i < 2
  · rw [if_pos h2, if_pos h2]; rfl
  rw [if_neg h2, if_neg h2]
  by_cases h3 : (rest.length : Int) < i + size2 rest i
  · rw [if_pos h3, if_pos (by omega)]; rfl
  rw [if_neg h3, if_neg (by omega)]
  rw [show ((pre.length : Int) + i + 2).toNat = pre.length + (i + 2).toNat by omega, drop_app, show ((pre.length : Int) + i + size2 rest i).toNat - (pre.length + (i + 2).toNat) = (i + size2 rest i).toNat - (i + 2).toNat by omega]
  show Except.ok (_, _) = Except.ok (_, _)
  rw [Int.add_assoc]
theorem payloadM_pos {ks : List Int} {i q : Int} {pl : List Int} (h0 : 0 ≤ i) (h : payloadM ks i = .ok (pl, q)) : 0 ≤ q := by
  have := payloadM_lt h; omega
theorem pieceR_app {k j : Int} (h0 : 0 ≤ j) : pieceR (pre ++ rest) k ((pre.length : Int) + j) = (pieceR rest k j).map fun x => (x.1, (pre.length : Int) + x.2) := by
  rw [pieceR, pieceR]
  by_cases h1 : rstM k
  · rw [if_pos h1, if_pos h1]; rfl
  rw [if_neg h1, if_neg h1]
  by_cases h2 : ¬ (k = 216 ∨ k = 217 ∨ k = 1) ∧ ¬ rstM k
  · rw [if_pos h2, if_pos h2, payloadM_app h0]
    cases hp : payloadM rest j with
    | error C => rfl
    | ok x =>
      obtain ⟨pl, q⟩ := x
      have hq := payloadM_pos h0 hp
      show (if k ≠ 218 then _ else _) = Except.map _ (if k ≠ 218 then _ else _)
      by_cases h3 : k ≠ 218
      · rw [if_pos h3, if_pos h3]; rfl
      · rw [if_neg h3, if_neg h3, show ((pre.length : Int) + q).toNat = pre.length + q.toNat by omega, endM_app]
        cases he : endM rest q.toNat with
        | none => rfl
        | some e =>
          have hge := endM_ge he
          show Except.ok (_, _) = Except.ok (_, _)
          rw [backM_app hge, drop_app]
          have e1 : pre.length + backM rest q.toNat e - (pre.length + q.toNat) = backM rest q.toNat e - q.toNat := by omega
          rw [e1]
          congr 2
  · rw [if_neg h2, if_neg h2]; rfl
theorem codeM_pos {ks : List Int} {i j : Nat} {k : Int} (_h : codeM ks i = .ok (k, j)) : (0 : Int) ≤ (j : Int) := by omega
theorem pieceM_app {i : Int} (h0 : 0 ≤ i) : pieceM (pre ++ rest) ((pre.length : Int) + i) = (pieceM rest i).map fun x => (x.1, (pre.length : Int) + x.2) := by
  rw [pieceM, pieceM, show ((pre.length : Int) + i).toNat = pre.length + i.toNat by omega, codeM_app]
  cases hc : codeM rest i.toNat with
  | error C => rfl
  | ok x =>
    obtain ⟨k, j⟩ := x
    show pieceR _ k ((pre.length + j : Nat) : Int) = Except.map _ (pieceR rest k j)
    rw [Int.natCast_add, pieceR_app (by omega)]
end

theorem fwdM_255 (L : List Int) : fwdM (255 :: L) 0 = 1 + fwdM L 0 := by
  rw [fwdM.eq_1, if_pos ⟨by rw [List.length_cons]; omega, rfl⟩]
  exact fwdM_app (pre := [255]) (rest := L) 0
theorem fwdM_rep (L : List Int) : ∀ f : Nat, fwdM (List.replicate f 255 ++ L) 0 = f + fwdM L 0
  | 0 => by rw [Nat.zero_add]; rfl
  | f + 1 => by
    rw [List.replicate_succ, List.cons_append, fwdM_255, fwdM_rep L f]; omega
theorem fwdM_stop {x : Int} (L : List Int) (h : x ≠ 255) : fwdM (x :: L) 0 = 0 := by
  rw [fwdM.eq_1, if_neg (fun q => h q.2)]
theorem getD_rep {L : List Int} {f : Nat} (i : Nat) : (List.replicate f (255 : Int) ++ L).getD (f + i) 0 = L.getD i 0 := by
  have := getD_app (pre := List.replicate f 255) (rest := L) i
  rw [List.length_replicate] at this; exact this
/-- fill octets, a marker and what follows -/
abbrev mark (f : Nat) (k : Int) (u : List Int) : List Int := List.replicate f 255 ++ (255 :: k :: u)
theorem mark_len (f : Nat) (k : Int) (u : List Int) : (mark f k u).length = f + 2 + u.length := by
  simp only [List.length_append, List.length_replicate, List.length_cons]; omega
theorem rep_first {f : Nat} {L : List Int} : (List.replicate f (255 : Int) ++ (255 :: L)).getD 0 0 = 255 := by
  cases f <;> rfl
theorem codeM_mark {f : Nat} {k : Int} {u : List Int} (h0 : k ≠ 0) (h1 : k ≠ 255) : codeM (mark f k u) 0 = .ok (k, f + 2) := by
  have hf : fwdM (mark f k u) 0 = f + 1 := by rw [fwdM_rep, fwdM_255, fwdM_stop u h1]
  have hg : (mark f k u).getD (f + 1) 0 = k := getD_rep 1
  rw [codeM, hf, hg, if_neg (by rw [mark_len]; omega), if_neg (by rw [rep_first]; exact fun q => q rfl), if_neg (by rw [mark_len]; omega), if_neg h0]
/-- a length of two octets -/
abbrev hilo (p : List Int) : List Int := [((p.length : Int) + 2) / 256, ((p.length : Int) + 2) % 256]
theorem hilo_size (p u : List Int) : size2 (hilo p ++ (p ++ u)) 0 = (p.length : Int) + 2 := by
  show ((p.length : Int) + 2) / 256 * 256 + ((p.length : Int) + 2) % 256 = _
  omega
theorem payloadM_row (p u : List Int) : payloadM (hilo p ++ (p ++ u)) 0 = .ok (p, (p.length : Int) + 2) := by
  have hl : (hilo p ++ (p ++ u)).length = 2 + (p.length + u.length) := by rw [List.length_append, List.length_append]; rfl
  rw [payloadM, hilo_size, if_neg (by omega), if_neg (by omega), if_neg (by omega)]
  show Except.ok (_, _) = _
  rw [Int.zero_add]
  congr 2
  rw [show ((0 : Int) + 2).toNat = 2 from rfl, show ((p.length : Int) + 2).toNat - 2 = p.length by omega]
  exact List.take_left
theorem pieceM_code {ks : List Int} {i k : Int} {j : Nat} (h : codeM ks i.toNat = .ok (k, j)) : pieceM ks i = pieceR ks k j := by rw [pieceM, h]
/-- a code with a length -/
def Long (k : Int) : Prop := ¬ rstM k ∧ ¬ (k = 216 ∨ k = 217 ∨ k = 1) ∧ k ≠ 0 ∧ k ≠ 255
/-- the octets of one row, read -/
theorem pieceM_long {f : Nat} {k : Int} {p u : List Int} (hk : Long k) :
    pieceM (mark f k (hilo p ++ (p ++ u))) 0 = if k ≠ 218 then .ok ((k, p, []), (f : Int) + 2 + ((p.length : Int) + 2)) else match endM u 0 with
      | none => .error 68
      | some e => .ok ((k, p, u.take (backM u 0 e)), (f : Int) + 2 + ((p.length : Int) + 2) + (backM u 0 e : Nat)) := by
  obtain ⟨h1, h2, h3, h4⟩ := hk
  rw [pieceM_code (codeM_mark h3 h4)]
  have e1 : mark f k (hilo p ++ (p ++ u)) = (List.replicate f 255 ++ [255, k]) ++ (hilo p ++ (p ++ u)) := by rw [List.append_assoc]; rfl
  have e2 : mark f k (hilo p ++ (p ++ u)) = (List.replicate f 255 ++ [255, k] ++ (hilo p ++ p)) ++ u := by rw [e1]; simp only [List.append_assoc]
  have l1 : ((List.replicate f (255 : Int) ++ [255, k]).length) = f + 2 := by rw [List.length_append, List.length_replicate]; rfl
  have l2 : ((List.replicate f (255 : Int) ++ [255, k] ++ (hilo p ++ p)).length) = f + 2 + (p.length + 2) := by
    rw [List.length_append, l1, List.length_append]; show f + 2 + (2 + p.length) = _; omega
  have hp : payloadM (mark f k (hilo p ++ (p ++ u))) ((f + 2 : Nat) : Int) = .ok (p, (f : Int) + 2 + ((p.length : Int) + 2)) := by
    have q := payloadM_app (pre := List.replicate f 255 ++ [255, k]) (rest := hilo p ++ (p ++ u)) (i := 0) (Int.le_refl _)
    rw [← e1, l1, Int.add_zero, payloadM_row] at q
    rw [q]; rfl
  rw [pieceR, if_neg h1, if_pos ⟨h2, h1⟩, hp]
  show (if k ≠ 218 then _ else _) = _
  by_cases h5 : k ≠ 218
  · rw [if_pos h5, if_pos h5]
  rw [if_neg h5, if_neg h5]
  have hq : ((f : Int) + 2 + ((p.length : Int) + 2)).toNat = f + 2 + (p.length + 2) := by omega
  rw [hq, e2]
  have hE := endM_app (pre := List.replicate f 255 ++ [255, k] ++ (hilo p ++ p)) (rest := u) 0
  rw [l2, Nat.add_zero] at hE
  rw [hE]
  cases he : endM u 0 with
  | none => rfl
  | some e =>
    show Except.ok (_, _) = Except.ok (_, _)
    have hB := backM_app (pre := List.replicate f 255 ++ [255, k] ++ (hilo p ++ p)) (rest := u) (a := 0) (e := e) (Nat.zero_le _)
    rw [l2, Nat.add_zero] at hB
    have hD := drop_app (pre := List.replicate f 255 ++ [255, k] ++ (hilo p ++ p)) (rest := u) 0
    rw [l2, Nat.add_zero, List.drop_zero] at hD
    rw [hB, hD, Nat.add_sub_cancel_left]
    congr 2
theorem pieceM_bare {f : Nat} {k : Int} {u : List Int} (hk : k = 216 ∨ k = 217) : pieceM (mark f k u) 0 = .ok ((k, [], []), (f : Int) + 2) := by
  have h3 : k ≠ 0 := by omega
  have h4 : k ≠ 255 := by omega
  have h1 : ¬ rstM k := by rintro ⟨a, b⟩; omega
  rw [pieceM_code (codeM_mark h3 h4), pieceR, if_neg h1, if_neg (fun q => q.1 (by omega))]
  rfl
/-- a marker that ends a scan's data -/
def Ends (k : Int) : Prop := k ≠ 0 ∧ k ≠ 255 ∧ ¬ rstM k
theorem nextM_hit0 {k : Int} {u : List Int} (h0 : k ≠ 0) (h1 : k ≠ 255) : nextM (255 :: k :: u) 0 = some 0 := by
  rw [nextM.eq_1, if_pos (by simp only [List.length_cons]; omega), if_pos ⟨rfl, h0, h1⟩]
theorem nextM_skip {x : Int} {L : List Int} (h : ¬ hitM (x :: L) 0) : nextM (x :: L) 0 = (nextM L 0).map (1 + ·) := by
  have q := nextM_app (pre := [x]) (rest := L) 0
  rw [nextM.eq_1]
  by_cases hl : 0 + 1 < (x :: L).length
  · rw [if_pos hl, if_neg h]; exact q
  · rw [if_neg hl, nextM.eq_1, if_neg (by simp only [List.length_cons] at hl; omega)]; rfl
theorem endM_skip {x : Int} {L : List Int} (h : ¬ hitM (x :: L) 0) : endM (x :: L) 0 = (endM L 0).map (1 + ·) := by
  have q := nextM_skip h
  cases hn : nextM L 0 with
  | none => rw [hn] at q; rw [endM_none hn, endM_none q]; rfl
  | some p =>
    rw [hn] at q
    rw [endM_some hn, endM_some (p := 1 + p) q]
    have g : (x :: L).getD (1 + p + 1) 0 = L.getD (p + 1) 0 := by
      rw [Nat.add_assoc]; exact getD_app (pre := [x]) (rest := L) (p + 1)
    rw [g]
    by_cases hr : rstM (L.getD (p + 1) 0)
    · rw [if_pos hr, if_pos hr, Nat.add_assoc]; exact endM_app (pre := [x]) (rest := L) (p + 2)
    · rw [if_neg hr, if_neg hr]; rfl
theorem endM_mark {k : Int} {u : List Int} (hk : Ends k) : ∀ f : Nat, endM (mark f k u) 0 = some f
  | 0 => by
    show endM (255 :: k :: u) 0 = _
    rw [endM_some (nextM_hit0 hk.1 hk.2.1)]; exact if_neg hk.2.2
  | f + 1 => by
    show endM (255 :: mark f k u) 0 = _
    rw [endM_skip, endM_mark hk f]
    · show some (1 + f) = _; rw [Nat.add_comm]
    · intro q
      refine q.2.2 ?_
      exact rep_first
theorem endM_rst {k : Int} {L : List Int} (hk : rstM k) : endM (255 :: k :: L) 0 = (endM L 0).map (2 + ·) := by
  have h0 : k ≠ 0 := by rintro rfl; exact absurd hk.1 (by decide)
  have h1 : k ≠ 255 := by rintro rfl; exact absurd hk.2 (by decide)
  rw [endM_some (nextM_hit0 h0 h1)]
  exact (if_pos hk).trans (endM_app (pre := [255, k]) (rest := L) 0)
/-- data is let by -/
theorem endM_data {d tail : List Int} (h : Stuffed d) : endM (d ++ tail) 0 = (endM tail 0).map (d.length + ·) := by
  induction h with
  | nil =>
    rw [List.nil_append]
    cases endM tail 0 with
    | none => rfl
    | some e => show _ = some (0 + e); rw [Nat.zero_add]
  | @one x d hx _ ih =>
    rw [List.cons_append, endM_skip (fun q => hx q.1), ih]
    cases endM tail 0 with
    | none => rfl
    | some e => show some (1 + (d.length + e)) = some ((x :: d).length + e); rw [List.length_cons]; congr 1; omega
  | @two y d hy _ ih =>
    have fin : (endM (255 :: y :: (d ++ tail)) 0) = (endM (d ++ tail) 0).map (2 + ·) := by
      rcases hy with rfl | hy
      · rw [endM_skip (fun q => q.2.1 rfl), endM_skip (fun q => absurd q.1 (show ¬ ((0 : Int) = 255) by decide))]
        cases endM (d ++ tail) 0 with
        | none => rfl
        | some e => show some (1 + (1 + e)) = some (2 + e); congr 1; omega
      · exact endM_rst (by rcases hy with rfl | rfl <;> exact ⟨by decide, by decide⟩)
    rw [List.cons_append, List.cons_append, fin, ih]
    cases endM tail 0 with
    | none => rfl
    | some e => show some (2 + (d.length + e)) = some ((255 :: y :: d).length + e); simp only [List.length_cons]; congr 1; omega
theorem backM_end {L : List Int} : ∀ {e : Nat}, (0 < e → L.getD (e - 1) 0 ≠ 255) → backM L 0 e = e
  | 0, _ => rfl
  | e + 1, h => by rw [backM, if_neg (fun q => h (Nat.succ_pos _) q.2)]
theorem stuffed_last {d : List Int} (h : Stuffed d) : 0 < d.length → d.getD (d.length - 1) 0 ≠ 255 := by
  induction h with
  | nil => intro h; exact absurd h (Nat.lt_irrefl _)
  | @one x d hx _ ih =>
    intro _
    cases d with
    | nil => exact hx
    | cons z d => exact ih (Nat.succ_pos _)
  | @two y d hy _ ih =>
    intro _
    cases d with
    | nil => show y ≠ 255; rcases hy with rfl | rfl | rfl <;> decide
    | cons z d => exact ih (Nat.succ_pos _)
theorem getD_front {d t : List Int} {i : Nat} (h : i < d.length) : (d ++ t).getD i 0 = d.getD i 0 := by
  rw [List.getD_eq_getElem?_getD, List.getElem?_append_left h, ← List.getD_eq_getElem?_getD]
theorem backM_data {d : List Int} {k : Int} {u : List Int} (h : Stuffed d) : ∀ f : Nat, backM (d ++ mark f k u) 0 (d.length + f) = d.length := by
  intro f
  have key : ∀ g, g ≤ f → backM (d ++ mark f k u) 0 (d.length + g) = d.length := by
    intro g
    induction g with
    | zero =>
      intro _
      refine backM_end fun hp => ?_
      rw [Nat.add_zero] at hp ⊢
      rw [getD_front (by omega)]
      exact stuffed_last h hp
    | succ g ih =>
      intro hg
      have hc : (d ++ mark f k u).getD (d.length + g) 0 = 255 := by
        rw [getD_app, getD_front (by rw [List.length_replicate]; omega)]
        rw [List.getD_eq_getElem?_getD, List.getElem?_replicate, if_pos (by omega)]; rfl
      rw [← Nat.add_assoc, backM, if_pos ⟨by omega, hc⟩, ih (by omega)]
  exact key f (Nat.le_refl _)

/-- what ends a scan -/
def Good (t : List Int) : Prop := ∃ g k u, t = mark g k u ∧ Ends k
def flat (f : Nat) (rows : List RowI) : List Int := (rows.map fun r => List.replicate f 255 ++ rowOcts r).flatten
theorem flat_cons (f : Nat) (r : RowI) (rs : List RowI) : flat f (r :: rs) = (List.replicate f 255 ++ rowOcts r) ++ flat f rs := rfl
theorem octsM_cons (f : Nat) (r : RowI) (rs : List RowI) : octsM f (r :: rs) = rowOcts r ++ flat f rs := rfl
theorem flat_app (f : Nat) (a b : List RowI) : flat f (a ++ b) = flat f a ++ flat f b := by
  unfold flat; rw [List.map_append, List.flatten_append]
theorem menu_long : ∀ c ∈ ([254, 224, 238, 219, 196, 192, 218, 218, 221] : List Int), Long c ∧ c ≠ 216 ∧ c ≠ 217 := by
  intro c hc
  simp only [List.mem_cons, List.not_mem_nil, or_false] at hc
  rcases hc with rfl | rfl | rfl | rfl | rfl | rfl | rfl | rfl | rfl <;> exact ⟨⟨by decide, by decide, by decide, by decide⟩, by decide, by decide⟩
theorem rowOcts_good {r : RowI} (h : RowGood r) : rowOcts r = 255 :: r.1 :: (hilo r.2.1 ++ (r.2.1 ++ r.2.2)) := by
  obtain ⟨_, h1, h2⟩ := menu_long _ h.code
  rw [rowOcts, if_neg (by omega)]; rfl
theorem filled_good {r : RowI} (h : RowGood r) (f : Nat) (t : List Int) : (List.replicate f 255 ++ rowOcts r) ++ t = mark f r.1 (hilo r.2.1 ++ (r.2.1 ++ (r.2.2 ++ t))) := by
  rw [rowOcts_good h]; simp only [List.append_assoc, List.cons_append]
theorem good_filled {r : RowI} (h : RowGood r) (f : Nat) (t : List Int) : Good ((List.replicate f 255 ++ rowOcts r) ++ t) := by
  obtain ⟨⟨h1, _, h3, h4⟩, _, _⟩ := menu_long _ h.code
  exact ⟨f, r.1, _, filled_good h f t, h3, h4, h1⟩
theorem ends217 : Ends 217 := ⟨by decide, by decide, by decide⟩
theorem filled_len {r : RowI} (h : RowGood r) (f : Nat) : (List.replicate f 255 ++ rowOcts r).length = f + 2 + (2 + (r.2.1.length + r.2.2.length)) := by
  rw [rowOcts_good h]; simp only [List.length_append, List.length_replicate, List.length_cons, List.length_nil]; omega
theorem piece_row {r : RowI} (h : RowGood r) (f : Nat) {t : List Int} (ht : r.1 = 218 → Good t) :
    pieceM ((List.replicate f 255 ++ rowOcts r) ++ t) 0 = .ok (r, ((List.replicate f 255 ++ rowOcts r).length : Int)) := by
  rw [filled_good h, pieceM_long (menu_long _ h.code).1, filled_len h]
  obtain ⟨k, p, d⟩ := r
  by_cases hk : k = 218
  · rw [if_neg (fun q => q hk)]
    obtain ⟨g, k', u, rfl, he⟩ := ht hk
    have hs : Stuffed d := h.scan hk
    have e1 : endM (d ++ mark g k' u) 0 = some (d.length + g) := by rw [endM_data hs, endM_mark he]; rfl
    dsimp only
    rw [e1]
    show Except.ok (_, _) = Except.ok (_, _)
    rw [backM_data hs, List.take_left]
    congr 2
    omega
  · rw [if_pos hk]
    have hd : d = [] := h.other hk
    subst hd
    show Except.ok (_, _) = Except.ok (_, _)
    congr 2
    dsimp only [List.length_nil]
    omega
section
variable {ks : List Int} {j j' k : Int} {o : Except Nat (List RowI)} {r : RowI}
theorem reads_step (hk : k ≠ 217) (hp : pieceM ks j = .ok (r, j')) (h216 : r.1 ≠ 216) (h : ReadsM ks j k o) : ∃ o1, ReadsM ks j' r.1 o1 ∧ o = o1.map (r :: ·) := by
  cases h with
  | stop => exact absurd rfl hk
  | err _ h2 => rw [hp] at h2; cases h2
  | soi _ h2 => rw [hp] at h2; cases h2; exact absurd rfl h216
  | go _ h2 _ h4 => rw [hp] at h2; cases h2; exact ⟨_, h4, rfl⟩
theorem reads_err {C : Nat} (hk : k ≠ 217) (hp : pieceM ks j = .error C) (h : ReadsM ks j k o) : o = .error C := by
  cases h with
  | stop => exact absurd rfl hk
  | err _ h2 => rw [hp] at h2; cases h2; rfl
  | soi _ h2 => rw [hp] at h2; cases h2
  | go _ h2 _ _ => rw [hp] at h2; cases h2
theorem reads_soi {p d : List Int} (hk : k ≠ 217) (hp : pieceM ks j = .ok ((216, p, d), j')) (h : ReadsM ks j k o) : o = .error 44 := by
  cases h with
  | stop => exact absurd rfl hk
  | err _ h2 => rw [hp] at h2; cases h2
  | soi _ h2 => rfl
  | go _ h2 h3 _ => rw [hp] at h2; cases h2; exact absurd rfl h3
theorem reads_stop (h : ReadsM ks j 217 o) : o = .ok [] := by
  cases h with
  | stop => rfl
  | err h1 _ => exact absurd rfl h1
  | soi h1 _ => exact absurd rfl h1
  | go h1 _ _ _ => exact absurd rfl h1
end
theorem piece_at {pre rest : List Int} {r : RowI} {n : Nat} (h : pieceM rest 0 = .ok (r, (n : Int))) : pieceM (pre ++ rest) (pre.length : Int) = .ok (r, ((pre.length + n : Nat) : Int)) := by
  have q := pieceM_app (pre := pre) (rest := rest) (Int.le_refl 0)
  rw [Int.add_zero, h] at q
  rw [q, Int.natCast_add]; rfl
theorem piece_err {pre rest : List Int} {C : Nat} (h : pieceM rest 0 = .error C) : pieceM (pre ++ rest) (pre.length : Int) = .error C := by
  have q := pieceM_app (pre := pre) (rest := rest) (Int.le_refl 0)
  rw [Int.add_zero, h] at q
  exact q
theorem except_two (o : Except Nat (List RowI)) (r : RowI) (rs : List RowI) : (o.map (rs ++ ·)).map (r :: ·) = o.map ((r :: rs) ++ ·) := by
  cases o <;> rfl
theorem reads_on {f : Nat} {rest : List Int} : ∀ (rows : List RowI) (_ : ∀ r ∈ rows, RowGood r) (_ : ∀ r, rows.getLast? = some r → r.1 = 218 → Good rest) (pre : List Int) {k : Int} {o : Except Nat (List RowI)} (_ : k ≠ 217),
    ReadsM (pre ++ (flat f rows ++ rest)) (pre.length : Int) k o → ∃ o' k', k' ≠ 217 ∧ ReadsM (pre ++ (flat f rows ++ rest)) ((pre ++ flat f rows).length : Int) k' o' ∧ o = o'.map (rows ++ ·)
  | [], _, _, pre, k, o, hk, h => ⟨o, k, hk, by rw [show flat f [] = [] from rfl, List.append_nil]; exact h, by cases o <;> rfl⟩
  | r :: rs, hr, hl, pre, k, o, hk, h => by
    have hg := hr r (.head _)
    have hnext : r.1 = 218 → Good (flat f rs ++ rest) := by
      intro h218
      cases rs with
      | nil => exact hl r rfl h218
      | cons q qs => rw [flat_cons, List.append_assoc]; exact good_filled (hr q (.tail _ (.head _))) f _
    have e : pre ++ (flat f (r :: rs) ++ rest) = (pre ++ (List.replicate f 255 ++ rowOcts r)) ++ (flat f rs ++ rest) := by
      rw [flat_cons]; simp only [List.append_assoc]
    have e0 : pre ++ (flat f (r :: rs) ++ rest) = pre ++ ((List.replicate f 255 ++ rowOcts r) ++ (flat f rs ++ rest)) := by
      rw [flat_cons]; simp only [List.append_assoc]
    have hp := piece_at (pre := pre) (piece_row hg f hnext)
    rw [← e0] at hp
    obtain ⟨_, n1, n2⟩ := menu_long _ hg.code
    obtain ⟨o1, h1, rfl⟩ := reads_step hk hp n1 h
    rw [← List.length_append, e] at h1
    obtain ⟨o', k', hk', h2, rfl⟩ := reads_on rs (fun q hq => hr q (.tail _ hq)) (fun q hq => hl q (by
      cases rs with
      | nil => cases hq
      | cons a b => rw [List.getLast?_cons_cons]; exact hq)) _ n2 h1
    refine ⟨o', k', hk', ?_, except_two _ _ _⟩
    have el : pre ++ flat f (r :: rs) = (pre ++ (List.replicate f 255 ++ rowOcts r)) ++ flat f rs := (List.append_assoc _ _ _).symm
    rw [e, el]
    exact h2
theorem reads_head {X : List Int} {o : Except Nat (List RowI)} (h : ReadAll ([255, 216] ++ X) o) : ∃ r, ReadsM ([255, 216] ++ X) ((([255, 216] : List Int).length : Nat) : Int) 216 r ∧ o = r.map ((216, [], []) :: ·) := by
  cases h with
  | short h => exact absurd (show ([255, 216] ++ X : List Int).length < 2 from h) (by rw [List.length_append]; show ¬ 2 + _ < 2; omega)
  | begins _ h => rcases h with h | h <;> exact absurd rfl h
  | go _ _ _ h => exact ⟨_, h, rfl⟩
theorem law_reads {is : List RowI} (h : Script is) (f : Nat) (tail : List Int) {o : Except Nat (List RowI)} (hr : ReadAll (octsM f is ++ tail) o) : o = .ok is := by
  obtain ⟨mid, rfl, hm⟩ := h
  have e : octsM f ([(216, [], [])] ++ mid ++ [(217, [], [])]) ++ tail = [255, 216] ++ (flat f mid ++ mark f 217 tail) := by
    rw [List.append_assoc, List.singleton_append, octsM_cons, flat_app]
    show ([255, 216] ++ (flat f mid ++ ((List.replicate f 255 ++ [255, 217]) ++ []))) ++ tail = _
    simp only [List.append_assoc, List.append_nil, List.cons_append, List.nil_append]
  rw [e] at hr
  obtain ⟨r, hr1, rfl⟩ := reads_head hr
  obtain ⟨o', k', hk, h2, rfl⟩ := reads_on mid hm (fun _ _ _ => ⟨f, 217, tail, rfl, ends217⟩) [255, 216] (by decide) hr1
  rw [← List.append_assoc] at h2
  have hp := piece_at (pre := [255, 216] ++ flat f mid) (n := f + 2) (r := (217, [], [])) (rest := mark f 217 tail) (by rw [pieceM_bare (.inr rfl)]; rfl)
  obtain ⟨o1, h3, rfl⟩ := reads_step hk hp (by decide) h2
  rw [reads_stop h3]
  show Except.ok _ = _
  rw [List.append_assoc]; rfl
theorem law_reads0 {is : List RowI} (h : Script is) (f : Nat) {o : Except Nat (List RowI)} (hr : ReadAll (octsM f is) o) : o = .ok is := law_reads h f [] (by rw [List.append_nil]; exact hr)
theorem law_lead {is : List RowI} (h : Script is) {o : Except Nat (List RowI)} (hr : ReadAll (0 :: octsM 0 is) o) : o = .error 44 := by
  have hl : 1 ≤ (octsM 0 is).length := by
    obtain ⟨mid, rfl, _⟩ := h
    rw [List.append_assoc, List.singleton_append, octsM_cons, List.length_append]
    show 1 ≤ 2 + _; omega
  cases hr with
  | short h => rw [List.length_cons] at h; omega
  | begins _ _ => rfl
  | go _ h _ _ => exact absurd h (show ¬ ((0 : Int) = 255) by decide)
theorem octs_script {mid : List RowI} : octsM 0 ([(216, [], [])] ++ mid ++ [(217, [], [])]) = [255, 216] ++ (flat 0 mid ++ [255, 217]) := by
  rw [List.append_assoc, List.singleton_append, octsM_cons, flat_app]; rfl
theorem law_short {is : List RowI} (h : Script is) {b : Int} (h0 : 0 ≤ b) (h1 : b < 2) {o : Except Nat (List RowI)} (hr : ReadAll ((octsM 0 is).take 2 ++ [255, 254, 0, b] ++ (octsM 0 is).drop 2) o) : o = .error 56 := by
  obtain ⟨mid, rfl, _⟩ := h
  rw [octs_script] at hr
  have hr : ReadAll ([255, 216] ++ ([255, 254, 0, b] ++ (flat 0 mid ++ [255, 217]))) o := hr
  obtain ⟨r, h2, rfl⟩ := reads_head hr
  have hp : pieceM ([255, 254, 0, b] ++ (flat 0 mid ++ [255, 217])) 0 = .error 56 := by
    have hc := codeM_mark (f := 0) (k := 254) (u := [0, b] ++ (flat 0 mid ++ [255, 217])) (by decide) (by decide)
    have hy : payloadM ([0, b] ++ (flat 0 mid ++ [255, 217])) 0 = .error 56 := by
      have hz : size2 ([0, b] ++ (flat 0 mid ++ [255, 217])) 0 = b := by show 0 * 256 + b = b; omega
      rw [payloadM, if_neg (by rw [List.length_append]; show ¬ ((2 + _ : Nat) : Int) < 0 + 2; omega), hz, if_pos h1]
    have q := payloadM_app (pre := [255, 254]) (rest := [0, b] ++ (flat 0 mid ++ [255, 217])) (Int.le_refl 0)
    rw [hy] at q
    have q : payloadM ([255, 254, 0, b] ++ (flat 0 mid ++ [255, 217])) 2 = .error 56 := q
    have hc : codeM ([255, 254, 0, b] ++ (flat 0 mid ++ [255, 217])) (0 : Int).toNat = .ok (254, 2) := hc
    rw [pieceM_code hc]
    exact pieceR_e (by decide) (by decide) q
  have := reads_err (by decide) (piece_err (pre := [255, 216]) hp) h2
  rw [this]; rfl
theorem law_writes {is : List RowI} (h : Script is) : writesM is = .ok (octsM 0 is) := by
  obtain ⟨mid, rfl, hm⟩ := h
  have one : ∀ r, (RowGood r ∨ r = (216, [], []) ∨ r = (217, [], [])) → writeM r = .ok (rowOcts r) := by
    intro r hr
    rcases hr with hg | rfl | rfl
    · obtain ⟨⟨h1, h2, _, _⟩, h3, h4⟩ := menu_long _ hg.code
      have hl := hg.pay
      rw [writeM, if_pos ⟨h2, h1⟩, if_neg (by omega), rowOcts_good hg]
      rfl
    · rfl
    · rfl
  have all : ∀ rows : List RowI, (∀ r ∈ rows, RowGood r ∨ r = (216, [], []) ∨ r = (217, [], [])) → writesM rows = .ok (flat 0 rows) := by
    intro rows
    induction rows with
    | nil => intro _; rfl
    | cons r rs ih =>
      intro hr
      rw [writesM, one r (hr r (.head _)), ih fun q hq => hr q (.tail _ hq)]
      rfl
  rw [all _ fun r hr => ?_]
  · rw [List.append_assoc, List.singleton_append, octsM_cons, flat_cons]; rfl
  · rcases List.mem_append.mp hr with hr | hr
    · rcases List.mem_append.mp hr with hr | hr
      · exact .inr (.inl (List.mem_singleton.mp hr))
      · exact .inl (hm r hr)
    · exact .inr (.inr (List.mem_singleton.mp hr))

theorem strange_piece {st R : List Int} (hs : st = [5] ∨ st = [255, 0] ∨ st = [255, 211] ∨ st = [255, 216]) : pieceM (st ++ R) 0 = .error 44 ∨ ∃ j', pieceM (st ++ R) 0 = .ok ((216, [], []), ((j' : Nat) : Int)) := by
  rcases hs with rfl | rfl | rfl | rfl
  · left
    have h : codeM ([5] ++ R) (0 : Int).toNat = .error 44 := by
      rw [codeM, if_neg (by rw [List.length_append]; show ¬ 1 + _ ≤ 0; omega)]
      exact if_pos (show ¬ (5 : Int) = 255 by decide)
    exact pieceM_e h
  · left
    have hf : fwdM ([255, 0] ++ R) 0 = 1 := by
      rw [show ([255, 0] ++ R : List Int) = 255 :: (0 :: R) from rfl, fwdM_255, fwdM_stop R (by decide)]
    have h : codeM ([255, 0] ++ R) (0 : Int).toNat = .error 44 := by
      show codeM ([255, 0] ++ R) 0 = _
      rw [codeM, hf, if_neg (by rw [List.length_append]; show ¬ 2 + _ ≤ 0; omega), if_neg (show ¬ (([255, 0] ++ R : List Int).getD 0 0 ≠ 255) from fun q => q rfl), if_neg (by rw [List.length_append]; show ¬ 2 + _ ≤ 1; omega)]
      exact if_pos rfl
    exact pieceM_e h
  · left
    have hc : codeM ([255, 211] ++ R) (0 : Int).toNat = .ok (211, 2) := codeM_mark (f := 0) (k := 211) (u := R) (by decide) (by decide)
    rw [pieceM_code hc]
    exact pieceR_r (by decide)
  · right
    exact ⟨2, pieceM_bare (f := 0) (k := 216) (u := R) (.inl rfl)⟩
theorem getLast_take {α : Type} {l : List α} {i : Nat} {r : α} (hi : i ≤ l.length) (h : (l.take i).getLast? = some r) : ∃ h : i - 1 < l.length, 0 < i ∧ r = l[i - 1] := by
  have hlen : (l.take i).length = i := by rw [List.length_take]; omega
  rw [List.getLast?_eq_getElem?, hlen] at h
  obtain ⟨h1, h2⟩ := List.getElem?_eq_some_iff.mp h
  rw [hlen] at h1
  refine ⟨by omega, by omega, ?_⟩
  rw [← h2, List.getElem_take]
theorem law_strange {is : List RowI} (h : Script is) {i : Nat} (hi : i < is.length) (hn : is[i].1 ≠ 218) (h1 : i + 1 < is.length) {st : List Int} (hs : st = [5] ∨ st = [255, 0] ∨ st = [255, 211] ∨ st = [255, 216]) {o : Except Nat (List RowI)}
    (hr : ReadAll (octsM 0 (is.take (i + 1)) ++ st ++ (octsM 0 (is[0] :: is.drop (i + 1))).drop 2) o) : o = .error 44 := by
  obtain ⟨mid, rfl, hm⟩ := h
  generalize (octsM 0 (_ :: List.drop (i + 1) _)).drop 2 = R at hr
  have hlen : ([((216 : Int), ([] : List Int), ([] : List Int))] ++ mid ++ [(217, [], [])]).length = mid.length + 2 := by simp only [List.length_append, List.length_singleton]; omega
  have hi2 : i ≤ mid.length := by omega
  have e : ([((216 : Int), ([] : List Int), ([] : List Int))] ++ mid ++ [(217, [], [])]).take (i + 1) = (216, [], []) :: mid.take i := by
    rw [List.append_assoc, List.singleton_append, List.take_succ_cons, List.take_append_of_le_length hi2]
  rw [e, octsM_cons] at hr
  have hr : ReadAll ([255, 216] ++ (flat 0 (mid.take i) ++ (st ++ R))) o := by
    have q : (rowOcts (216, [], []) ++ flat 0 (mid.take i) ++ st ++ R : List Int) = [255, 216] ++ (flat 0 (mid.take i) ++ (st ++ R)) := by
      simp only [List.append_assoc]; rfl
    rw [← q]; exact hr
  obtain ⟨r, h2, rfl⟩ := reads_head hr
  have hlast : ∀ q, (mid.take i).getLast? = some q → q.1 = 218 → Good (st ++ R) := by
    intro q hq h218
    obtain ⟨g1, g2, rfl⟩ := getLast_take hi2 hq
    refine absurd ?_ hn
    have : ([((216 : Int), ([] : List Int), ([] : List Int))] ++ mid ++ [(217, [], [])])[i] = mid[i - 1] := by
      have hz : ([((216 : Int), ([] : List Int), ([] : List Int))] ++ mid ++ [(217, [], [])])[i]? = some mid[i - 1] := by
        rw [List.append_assoc, List.getElem?_append_right (by show 1 ≤ i; omega), List.getElem?_append_left (by show i - 1 < _; omega)]
        exact List.getElem?_eq_getElem g1
      exact Option.some.inj ((List.getElem?_eq_getElem hi).symm.trans hz)
    rw [this]; exact h218
  obtain ⟨o', k', hk, h3, rfl⟩ := reads_on (mid.take i) (fun q hq => hm q (List.mem_of_mem_take hq)) hlast [255, 216] (by decide) h2
  rw [← List.append_assoc] at h3
  rcases strange_piece (R := R) hs with hp | ⟨j', hp⟩
  · have := reads_err hk (piece_err hp) h3
    rw [this]; rfl
  · have := reads_soi hk (piece_at hp) h3
    rw [this]; rfl

theorem Stuffed.take {d : List Int} (h : Stuffed d) : ∀ m : Nat, ∃ d' e, d.take m = d' ++ e ∧ Stuffed d' ∧ (e = [] ∨ e = [255]) := by
  induction h with
  | nil => intro m; exact ⟨[], [], by rw [List.take_nil]; rfl, .nil, .inl rfl⟩
  | @one x d hx _ ih =>
    intro m
    cases m with
    | zero => exact ⟨[], [], rfl, .nil, .inl rfl⟩
    | succ m =>
      obtain ⟨d', e, h1, h2, h3⟩ := ih m
      exact ⟨x :: d', e, by rw [List.take_succ_cons, h1]; rfl, .one hx h2, h3⟩
  | @two y d hy _ ih =>
    intro m
    match m with
    | 0 => exact ⟨[], [], rfl, .nil, .inl rfl⟩
    | 1 => exact ⟨[], [255], rfl, .nil, .inr rfl⟩
    | m + 2 =>
      obtain ⟨d', e, h1, h2, h3⟩ := ih m
      exact ⟨255 :: y :: d', e, by rw [List.take_succ_cons, List.take_succ_cons, h1]; rfl, .two hy h2, h3⟩
theorem endM_short {e : List Int} (h : e = [] ∨ e = [255]) : endM e 0 = none := by
  refine endM_none ?_
  rcases h with rfl | rfl
  · rw [nextM.eq_1, if_neg (by decide)]
  · rw [nextM.eq_1, if_neg (by decide)]
theorem endM_cut {d e : List Int} (h : Stuffed d) (he : e = [] ∨ e = [255]) : endM (d ++ e) 0 = none := by
  rw [endM_data h, endM_short he]; rfl
theorem endM_take {d : List Int} (h : Stuffed d) (m : Nat) : endM (d.take m) 0 = none := by
  obtain ⟨d', e, h1, h2, h3⟩ := h.take m
  rw [h1]; exact endM_cut h2 h3
theorem piece_short {e : List Int} (h : e = [] ∨ e = [255]) : pieceM e 0 = .error 68 := by
  have hc : codeM e (0 : Int).toNat = .error 68 := by
    rcases h with rfl | rfl
    · rfl
    · show codeM [255] 0 = _
      have hf : fwdM [255] 0 = 1 := by rw [fwdM_255]; rw [fwdM.eq_1, if_neg (by decide)]
      rw [codeM, hf, if_neg (by decide), if_neg (by decide), if_pos (by decide)]
  exact pieceM_e hc
theorem piece_pay {k : Int} {W : List Int} {C : Nat} (hk : Long k) (h : payloadM W 0 = .error C) : pieceM (255 :: k :: W) 0 = .error C := by
  obtain ⟨h1, h2, h3, h4⟩ := hk
  have hc : codeM (255 :: k :: W) (0 : Int).toNat = .ok (k, 2) := codeM_mark (f := 0) (k := k) (u := W) h3 h4
  rw [pieceM_code hc]
  have q := payloadM_app (pre := [255, k]) (rest := W) (Int.le_refl 0)
  rw [h] at q
  exact pieceR_e h1 ⟨h2, h1⟩ q
/-- a piece that is cut -/
theorem piece_cut {r : RowI} (hg : RowGood r) {c : Nat} (hc : c < (rowOcts r).length) : pieceM ((rowOcts r).take c) 0 = .error 68 := by
  obtain ⟨hk, _, _⟩ := menu_long _ hg.code
  obtain ⟨k, p, d⟩ := r
  rw [rowOcts_good hg] at hc ⊢
  dsimp only at hc hk ⊢
  match c, hc with
  | 0, _ => exact piece_short (.inl rfl)
  | 1, _ => exact piece_short (.inr rfl)
  | c + 2, hc =>
    rw [List.take_succ_cons, List.take_succ_cons]
    simp only [List.length_cons, List.length_append, List.length_nil] at hc
    by_cases h1 : c < 2 + p.length
    · refine piece_pay hk ?_
      have hl : ((hilo p ++ (p ++ d)).take c).length = c := by rw [List.length_take]; simp only [List.length_cons, List.length_append, List.length_nil]; omega
      rw [payloadM, hl]
      by_cases h2 : c < 2
      · rw [if_pos (by omega)]
      · have hz : size2 ((hilo p ++ (p ++ d)).take c) 0 = (p.length : Int) + 2 := by
          obtain ⟨c, rfl⟩ : ∃ c', c = c' + 2 := ⟨c - 2, by omega⟩
          show ((p.length : Int) + 2) / 256 * 256 + ((p.length : Int) + 2) % 256 = _
          omega
        rw [if_neg (by omega), hz, if_neg (by omega), if_pos (by omega)]
    · have hd : k = 218 := by
        refine Decidable.byContradiction fun h => ?_
        have : d = [] := hg.other h
        subst this
        simp only [List.length_nil] at hc
        omega
      have e : (hilo p ++ (p ++ d)).take c = hilo p ++ (p ++ d.take (c - 2 - p.length)) := by
        obtain ⟨m, rfl⟩ : ∃ m, c = 2 + (p.length + m) := ⟨c - 2 - p.length, by omega⟩
        have q1 : (hilo p ++ (p ++ d)).take ((hilo p).length + (p.length + m)) = hilo p ++ (p ++ d).take (p.length + m) := by
          rw [List.take_append, List.take_of_length_le (Nat.le_add_right _ _), Nat.add_sub_cancel_left]
        have q2 : (p ++ d).take (p.length + m) = p ++ d.take m := by
          rw [List.take_append, List.take_of_length_le (Nat.le_add_right _ _), Nat.add_sub_cancel_left]
        rw [show 2 + (p.length + m) - 2 - p.length = m by omega]
        rw [q2] at q1
        exact q1
      rw [e]
      have q := pieceM_long (f := 0) (p := p) (u := d.take (c - 2 - p.length)) hk
      rw [if_neg (fun h => h hd), endM_take (hg.scan hd)] at q
      exact q
theorem file_first (rs : List RowI) (hr : ∀ r ∈ rs, RowGood r) : ∃ k u, flat 0 rs ++ [255, 217] = 255 :: k :: u ∧ Ends k := by
  cases rs with
  | nil => exact ⟨217, [], rfl, ends217⟩
  | cons r rs =>
    have hg := hr r (.head _)
    obtain ⟨⟨h1, _, h3, h4⟩, _, _⟩ := menu_long _ hg.code
    refine ⟨r.1, (hilo r.2.1 ++ (r.2.1 ++ r.2.2)) ++ (flat 0 rs ++ [255, 217]), ?_, h3, h4, h1⟩
    rw [flat_cons, List.append_assoc, rowOcts_good hg]; rfl
theorem cut_reads : ∀ (rows : List RowI) (_ : ∀ r ∈ rows, RowGood r) (pre : List Int) {c : Nat} (_ : c < (flat 0 rows ++ [255, 217]).length) {k : Int} {o : Except Nat (List RowI)} (_ : k ≠ 217),
    ReadsM (pre ++ (flat 0 rows ++ [255, 217]).take c) (pre.length : Int) k o → o = .error 68
  | [], _, pre, c, hc, k, o, hk, h => by
    have hs : (flat 0 [] ++ [255, 217]).take c = [] ∨ (flat 0 [] ++ [255, 217]).take c = [255] := by
      have hc : c < 2 := hc
      match c, hc with
      | 0, _ => exact .inl rfl
      | 1, _ => exact .inr rfl
    exact reads_err hk (piece_err (piece_short hs)) h
  | r :: rs, hr, pre, c, hc, k, o, hk, h => by
    have hg := hr r (.head _)
    have hrs : ∀ q ∈ rs, RowGood q := fun q hq => hr q (.tail _ hq)
    have e : flat 0 (r :: rs) ++ [255, 217] = rowOcts r ++ (flat 0 rs ++ [255, 217]) := by rw [flat_cons, List.append_assoc]; rfl
    rw [e] at hc h
    by_cases h1 : c < (rowOcts r).length
    · rw [List.take_append_of_le_length (Nat.le_of_lt h1)] at h
      exact reads_err hk (piece_err (piece_cut hg h1)) h
    · obtain ⟨m, rfl⟩ : ∃ m, c = (rowOcts r).length + m := ⟨c - (rowOcts r).length, by omega⟩
      have e2 : (rowOcts r ++ (flat 0 rs ++ [255, 217])).take ((rowOcts r).length + m) = rowOcts r ++ (flat 0 rs ++ [255, 217]).take m := by
        rw [List.take_append, List.take_of_length_le (Nat.le_add_right _ _), Nat.add_sub_cancel_left]
      rw [e2] at h
      rw [List.length_append] at hc
      have hm : m < (flat 0 rs ++ [255, 217]).length := by omega
      have go : (r.1 = 218 → Good ((flat 0 rs ++ [255, 217]).take m)) → o = .error 68 := by
        intro hgood
        have hp := piece_at (pre := pre) (piece_row hg 0 hgood)
        obtain ⟨_, n1, n2⟩ := menu_long _ hg.code
        obtain ⟨o1, h2, rfl⟩ := reads_step hk hp n1 h
        rw [show List.replicate 0 (255 : Int) ++ rowOcts r = rowOcts r from rfl, ← List.length_append, ← List.append_assoc] at h2
        rw [cut_reads rs hrs _ hm n2 h2]; rfl
      by_cases h218 : r.1 = 218
      · obtain ⟨k2, u, hu, he⟩ := file_first rs hrs
        by_cases hm2 : m < 2
        · have hs : (flat 0 rs ++ [255, 217]).take m = [] ∨ (flat 0 rs ++ [255, 217]).take m = [255] := by
            rw [hu]
            match m, hm2 with
            | 0, _ => exact .inl rfl
            | 1, _ => exact .inr rfl
          have hp : pieceM (rowOcts r ++ (flat 0 rs ++ [255, 217]).take m) 0 = .error 68 := by
            have q := pieceM_long (f := 0) (p := r.2.1) (u := r.2.2 ++ (flat 0 rs ++ [255, 217]).take m) (menu_long _ hg.code).1
            rw [if_neg (fun z => z h218), endM_cut (hg.scan h218) hs] at q
            rw [← filled_good hg] at q
            exact q
          exact reads_err hk (piece_err hp) h
        · refine go fun _ => ?_
          obtain ⟨n, rfl⟩ : ∃ n, m = n + 2 := ⟨m - 2, by omega⟩
          rw [hu, List.take_succ_cons, List.take_succ_cons]
          exact ⟨0, k2, _, rfl, he⟩
      · exact go fun z => absurd z h218
theorem law_cut {is : List RowI} (h : Script is) {c : Nat} (hc : c < (octsM 0 is).length) {o : Except Nat (List RowI)} (hr : ReadAll ((octsM 0 is).take c) o) : o = .error 68 := by
  obtain ⟨mid, rfl, hm⟩ := h
  rw [octs_script] at hc hr
  by_cases h2 : c < 2
  · cases hr with
    | short _ => rfl
    | begins h _ => exact absurd (by rw [List.length_take]; omega) h
    | go h _ _ _ => exact absurd (by rw [List.length_take]; omega) h
  · obtain ⟨m, rfl⟩ : ∃ m, c = 2 + m := ⟨c - 2, by omega⟩
    have e : ([255, 216] ++ (flat 0 mid ++ [255, 217]) : List Int).take (([255, 216] : List Int).length + m) = [255, 216] ++ (flat 0 mid ++ [255, 217]).take m := by
      rw [List.take_append, List.take_of_length_le (Nat.le_add_right _ _), Nat.add_sub_cancel_left]
    have hr : ReadAll ([255, 216] ++ (flat 0 mid ++ [255, 217]).take m) o := by rw [← e]; exact hr
    obtain ⟨r, h3, rfl⟩ := reads_head hr
    have hm2 : m < (flat 0 mid ++ [255, 217]).length := by
      rw [List.length_append] at hc
      have hc : 2 + m < 2 + (flat 0 mid ++ [255, 217]).length := hc
      omega
    rw [cut_reads mid hm [255, 216] hm2 (by decide) h3]; rfl

/-- what the law's rows are known by -/
structure LawRows (rows : List RowB) : Prop where
  script : Script (rows.map ri)
  two : 2 ≤ rows.length
  nine : rows.length ≤ 9
  fit : ∀ r ∈ rows, 0 ≤ r.1 ∧ r.1 < 256 ∧ (KBw.bInts r.2.1).length ≤ 260 ∧ (KBw.bInts r.2.2).length ≤ 6
  first : ∀ h : 0 < rows.length, rows[0].1 = 216
theorem menu_bound : ∀ c ∈ ([254, 224, 238, 219, 196, 192, 218, 218, 221] : List Int), 0 ≤ c ∧ c < 256 := by decide
theorem LawRows.of {mid : List RowB} (h1 : 1 ≤ mid.length) (h7 : mid.length ≤ 7) (hr : ∀ r ∈ mid, RowOk r) : LawRows ([(216, #[], #[])] ++ mid ++ [(217, #[], #[])]) := by
  refine ⟨⟨mid.map ri, ?_, ?_⟩, ?_, ?_, ?_, fun _ => rfl⟩
  · rw [List.map_append, List.map_append]; rfl
  · intro r hm
    obtain ⟨q, hq, rfl⟩ := List.mem_map.mp hm
    have k := hr q hq
    refine ⟨k.code, k.pay, k.scan, fun h => ?_⟩
    show KBw.bInts q.2.2 = []
    rw [k.other h]; rfl
  · simp only [List.length_append, List.length_singleton]; omega
  · simp only [List.length_append, List.length_singleton]; omega
  · intro r hm
    rcases List.mem_append.mp hm with hm | hm
    · rcases List.mem_append.mp hm with hm | hm
      · obtain rfl := List.mem_singleton.mp hm; exact ⟨by decide, by decide, by decide, by decide⟩
      · have k := hr r hm
        exact ⟨(menu_bound _ k.code).1, (menu_bound _ k.code).2, k.pay, k.data⟩
    · obtain rfl := List.mem_singleton.mp hm; exact ⟨by decide, by decide, by decide, by decide⟩
theorem error_cut {prog : Program} {w : World} (news : List (Addr × Obj)) (b : Array UInt8) (ks : List Int) (tb : Tok) (hb : KBw.bInts b = ks) (hl : ks.length ≤ 1000000) (huq : ∀ o, ReadAll ks o → o = .error 68) :
    Calls0 prog w 14 224 [.bytes b tb] news (fun r n' => (∃ tk, r = .str "cut" tk) ∧ n' = news) (fun _ => False) := error_spec news b ks tb 68 hb hl huq (.inl rfl)
theorem error_marker {prog : Program} {w : World} (news : List (Addr × Obj)) (b : Array UInt8) (ks : List Int) (tb : Tok) (hb : KBw.bInts b = ks) (hl : ks.length ≤ 1000000) (huq : ∀ o, ReadAll ks o → o = .error 44) :
    Calls0 prog w 14 224 [.bytes b tb] news (fun r n' => (∃ tk, r = .str "marker" tk) ∧ n' = news) (fun _ => False) := error_spec news b ks tb 44 hb hl huq (.inr (.inl rfl))
theorem error_segment {prog : Program} {w : World} (news : List (Addr × Obj)) (b : Array UInt8) (ks : List Int) (tb : Tok) (hb : KBw.bInts b = ks) (hl : ks.length ≤ 1000000) (huq : ∀ o, ReadAll ks o → o = .error 56) :
    Calls0 prog w 14 224 [.bytes b tb] news (fun r n' => (∃ tk, r = .str "segment" tk) ∧ n' = news) (fun _ => False) := error_spec news b ks tb 56 hb hl huq (.inr (.inr rfl))
section
variable {prog : Program} {w : World} {d f : Nat} {args : List Value} {news : List (Addr × Obj)} {R : Value → List (Addr × Obj) → Prop} {X : Addr → Prop}
theorem Calls0.use {dp un : Nat} {gd : Option (List Code)} {cn : Str} {cs : Scope} {a : Addr} {ccd : Value} {A₀ : Around} {base h₀ : Heap} {L : Addr} {m : Str → Option Value} {s : Shared}
    {p : Program} {loose : List Str} {mean : ExcName → Option Value} {mg mb : Str → Option Value} {Q E : Value → Shared → Prop}
    (c : Calls0 prog w d f args news R (fun _ => False)) (hB : Below A₀ base [] h₀) (hF : Fr h₀ L s.heap m) (hX : (KP w.params).In h₀) (hN : News h₀ L s.heap news) (hT : Top p loose mean mg mb h₀) (hXB : (KP w.params).In base) (hTB : Top p loose mean mg mb base) (hk : cs.kind = .function)
    (hd : dp + d < recursionLimit) (hu : un + 8 * d < cLine)
    (hret : ∀ r news' h' tk', R r news' → Fr h₀ L h' m → News h₀ L h' news' → Q r { s with heap := h', toks := tk' }) :
    wpAny (model prog w) (ktrTop dp un gd cn cs L a ccd [] []) (call (.ref f) args) Q E s :=
  c _ _ _ _ _ _ _ _ _ _ _ _ _ _ _ _ _ _ _ _ hB hF hX hN hT hXB hTB hk hd hu hret fun _ _ _ _ _ x => x.elim
end
section
variable {prog : Program} {w : World} {A : Around} {E : Value → Shared → Prop} {s : Shared} {value slice : PySem.Expr} {b : Array UInt8} {t : Tok} {ks : List Int} {h₀ : Heap} {L : Addr} {m : Str → Option Value} {news : List (Addr × Obj)} {Q : Value → Shared → Prop}
theorem bytes_head {x : Int} {tx : Tok} (hF : Fr h₀ L s.heap m) (hN : News h₀ L s.heap news) (hk : KBw.bInts b = ks) (h0 : 0 ≤ x) (h1 : x ≤ ks.length) (hz : ks.length ≤ 16777216)
    (h : ∀ b' h' t' k, Fr h₀ L h' m → News h₀ L h' news → KBw.bInts b' = ks.take x.toNat → Q (.bytes b' t') { s with heap := h', toks := k })
    (hs : subscripted slice false (.bytes b t) (.ref s.heap.objs.size) = operate [.ref s.heap.objs.size, .bytes b t] (getItem (.bytes b t) (.ref s.heap.objs.size)) := by with_unfolding_all rfl)
    (ht : ∀ r, letTemporaryGo value (.bytes b t) r = pure () := by intro _; with_unfolding_all rfl) :
    wpAny (model prog w) A (subscriptTail value slice (.bytes b t) (.ref s.heap.objs.size)) Q E { s with heap := s.heap.push { cls := .type "slice", data := .fields #[.none, .int x tx, .none] } } := by
  refine KBc.slice_K hF hN hk .none (.int _ _) hz (fun h' t' k F' N' e => h _ h' t' k F' N' ?_) hs ht
  rw [e]
  simp only [Option.elim, List.drop_zero, Nat.sub_zero]
  rw [clipAt_in h0 h1]
theorem bytes_tail {x : Int} {tx : Tok} (hF : Fr h₀ L s.heap m) (hN : News h₀ L s.heap news) (hk : KBw.bInts b = ks) (h0 : 0 ≤ x) (h1 : x ≤ ks.length) (hz : ks.length ≤ 16777216)
    (h : ∀ b' h' t' k, Fr h₀ L h' m → News h₀ L h' news → KBw.bInts b' = ks.drop x.toNat → Q (.bytes b' t') { s with heap := h', toks := k })
    (hs : subscripted slice false (.bytes b t) (.ref s.heap.objs.size) = operate [.ref s.heap.objs.size, .bytes b t] (getItem (.bytes b t) (.ref s.heap.objs.size)) := by with_unfolding_all rfl)
    (ht : ∀ r, letTemporaryGo value (.bytes b t) r = pure () := by intro _; with_unfolding_all rfl) :
    wpAny (model prog w) A (subscriptTail value slice (.bytes b t) (.ref s.heap.objs.size)) Q E { s with heap := s.heap.push { cls := .type "slice", data := .fields #[.int x tx, .none, .none] } } := by
  refine KBc.slice_K hF hN hk (.int _ _) .none hz (fun h' t' k F' N' e => h _ h' t' k F' N' ?_) hs ht
  rw [e]
  simp only [Option.elim]
  rw [clipAt_in h0 h1, List.take_of_length_le (by rw [List.length_drop]; exact Nat.le_refl _)]
end
theorem Script.len {is : List RowI} (h : Script is) (f : Nat) : 4 ≤ (octsM f is).length := by
  obtain ⟨mid, rfl, _⟩ := h
  rw [octsM_snoc, List.length_append, List.length_append]
  have h1 : 2 ≤ (rowOcts (217, [], [])).length := by decide
  have h2 : 2 ≤ (octsM f ([(216, [], [])] ++ mid)).length := by
    show 2 ≤ (rowOcts (216, [], []) ++ _).length
    rw [List.length_append]
    have : (rowOcts (216, [], [])).length = 2 := by decide
    omega
  omega
theorem law_strangeB {rows : List RowB} (hR : LawRows rows) {i : Nat} {hi : i < rows.length} {h0 : 0 < rows.length} (hn : rows[i].1 ≠ 218) (h1 : i + 1 < rows.length) {st : Array UInt8} (hst : st ∈ strangeB) {o : Except Nat (List RowI)}
    (hr : ReadAll (octsM 0 ((rows.take (i + 1)).map ri) ++ KBw.bInts st ++ (octsM 0 ((rows[0] :: rows.drop (i + 1)).map ri)).drop 2) o) : o = .error 44 := by
  have hl : (rows.map ri).length = rows.length := List.length_map _
  refine law_strange hR.script (i := i) (by omega) (by rw [List.getElem_map]; exact hn) (by omega) (st := KBw.bInts st) ?_ ?_
  · revert hst
    refine fun h => ?_
    rcases List.mem_cons.mp h with rfl | h
    · exact .inl rfl
    rcases List.mem_cons.mp h with rfl | h
    · exact .inr (.inl rfl)
    rcases List.mem_cons.mp h with rfl | h
    · exact .inr (.inr (.inl rfl))
    · obtain rfl := List.mem_singleton.mp h; exact .inr (.inr (.inr rfl))
  · rw [← List.map_take, List.getElem_map, ← List.map_drop]; exact hr
theorem law_shortB {rows : List RowB} (hR : LawRows rows) {b : Int} (h0 : 0 ≤ b) (h1 : b < 2) {o : Except Nat (List RowI)} (hr : ReadAll ((octsM 0 (rows.map ri)).take 2 ++ [255, 254, 0] ++ [b] ++ (octsM 0 (rows.map ri)).drop 2) o) : o = .error 56 := by
  refine law_short hR.script h0 h1 ?_
  rw [show ([255, 254, 0, b] : List Int) = [255, 254, 0] ++ [b] from rfl, ← List.append_assoc]
  exact hr
theorem law_shortC {rows : List RowB} (hR : LawRows rows) {b : Int} {x : UInt8} (h0 : 0 ≤ b) (h1 : b < 2) (hb : ((x.toNat : Nat) : Int) = b) {o : Except Nat (List RowI)} (hr : ReadAll ((octsM 0 (rows.map ri)).take (Int.toNat 2) ++ [255, 254, 0] ++ List.map (fun c : UInt8 => ((c.toNat : Nat) : Int)) [x] ++ (octsM 0 (rows.map ri)).drop (Int.toNat 2)) o) : o = .error 56 := by
  subst hb
  exact law_shortB hR h0 h1 hr

def lawStmts : List Stmt := match stAt 37 with
  | .FunctionDef (body := b) .. => b
  | _ => []
def lawScope : Scope := match stAt 37 with
  | .FunctionDef (scope := sc) .. => sc
  | _ => default
theorem next_ns {ks : List Int} {i : Nat} {x : Int × Addr × Tok × Tok} (a : fdNext ks i none) (b : fdNext ks i (some x)) : False := by
  obtain ⟨p, D, t, u⟩ := x
  have a' : nextM ks i = none := a
  have b' : nextM ks i = some p.toNat := b.2
  rw [a'] at b'; cases b'
theorem next_ss {ks : List Int} {i : Nat} {p q : Int} {D D' : Addr} {t u t' u' : Tok} (a : fdNext ks i (some (p, D, t, u))) (b : fdNext ks i (some (q, D', t', u'))) : (p == q && ks.getD (p + 1).toNat 0 == ks.getD (q + 1).toNat 0) = true := by
  have a' : 0 ≤ p ∧ nextM ks i = some p.toNat := a
  have b' : 0 ≤ q ∧ nextM ks i = some q.toNat := b
  have e := Option.some.inj (a'.2.symm.trans b'.2)
  obtain rfl : p = q := by omega
  simp
theorem lit0 : KBw.bInts #[0] = [0] := by decide
theorem lit3 : KBw.bInts #[255, 1, 7] = [255, 1, 7] := by decide
theorem litm : KBw.bInts #[255, 254, 0] = [255, 254, 0] := by decide
theorem bytes_add {prog : Program} {w : World} {A : Around} {E : Value → Shared → Prop} {s : Shared} {b c : Array UInt8} {t u : Tok} {ks ls : List Int} {Q : Value → Shared → Prop} (hb : KBw.bInts b = ks) (hc : KBw.bInts c = ls) (hsz : ks.length + ls.length ≤ 16777216)
    (h : ∀ b' t' k, KBw.bInts b' = ks ++ ls → Q (.bytes b' t') { s with toks := k }) : wpAny (model prog w) A (binaryOp .Add (.bytes b t) (.bytes c u)) Q E s :=
  KBa.add_K hb hc hsz fun t' k e => h _ t' k e
theorem law_turn {h₀ h' : Heap} {L I C D9 x dx : Addr} {m : Str → Option Value} {s₁ : Shared} {oI oC : Obj} {ys : List Value} {base nx : List (Addr × Obj)} {rows : List RowB} {i : Nat} {ax : Addr} {its : Array Value} {k : Nat} {h1 h2 h3 : Int} {k1 k2 k3 tc tp td : Tok} {tk : Nat}
    (hsub : ∀ p ∈ base, p ∈ nx) (hp : PiecesIn nx ys (rows.take i)) (hi : i < rows.length) (hm : (ax, listOf its k) ∈ base) (F : Fr h₀ L h' m)
    (N : News h₀ L h' ((x, instObj 121 dx) :: (dx, pieceDict h1 h2 h3 k1 k2 k3 (.int rows[i].1 tc) (.bytes rows[i].2.1 tp) (.bytes rows[i].2.2 td)) :: (I, oI) :: (C, oC) :: (D9, LCg.lst ys) :: nx)) (off : LCg.Off3 I C D9 nx)
    (lx : ∀ p ∈ (I, oI) :: (C, oC) :: (D9, LCg.lst ys) :: nx, p.1 < dx) (ly : dx < x) :
    LCg.CompEnd h₀ L m s₁ I oI C oC D9 (LCg.lst ys) (fun nx => (ax, listOf its k) ∈ nx) (fun v nx' => (∀ p ∈ base, p ∈ nx') ∧ PiecesIn nx' (ys ++ [v]) (rows.take (i + 1))) (.ref x) { s₁ with heap := h', toks := tk } := by
  have a1 : I < dx := lx _ (.head _)
  have a2 : C < dx := lx _ (.tail _ (.head _))
  have a3 : D9 < dx := lx _ (.tail _ (.tail _ (.head _)))
  refine LCg.CompEnd.intro F N ((x, instObj 121 dx) :: (dx, pieceDict h1 h2 h3 k1 k2 k3 (.int rows[i].1 tc) (.bytes rows[i].2.1 tp) (.bytes rows[i].2.2 td)) :: nx) (fun p hp => ?_) ⟨⟨Nat.ne_of_gt (Nat.lt_trans a1 ly), Nat.ne_of_gt (Nat.lt_trans a2 ly), Nat.ne_of_gt (Nat.lt_trans a3 ly)⟩, ⟨Nat.ne_of_gt a1, Nat.ne_of_gt a2, Nat.ne_of_gt a3⟩, off⟩ (.tail _ (.tail _ (hsub _ hm))) ⟨fun p hp => .tail _ (.tail _ (hsub p hp)), ?_⟩
  · simp only [List.mem_cons] at hp ⊢
    rcases hp with h | h | h | h | h | h
    · exact .inr (.inr (.inl h))
    · exact .inr (.inr (.inr (.inl h)))
    · exact .inr (.inr (.inr (.inr (.inl h))))
    · exact .inl h
    · exact .inr (.inl h)
    · exact .inr (.inr (.inr (.inr (.inr h))))
  · rw [List.take_add_one, List.getElem?_eq_getElem hi]
    exact (hp.mono fun p hp => .tail _ (.tail _ hp)).snoc ⟨x, dx, h1, h2, h3, k1, k2, k3, tc, tp, td, rfl, .head _, .tail _ (.head _)⟩
set_option maxHeartbeats 8000000 in
theorem law_walk {prog : Program} {w : World} {h₀ : Heap} {s : Shared} {L lf : Addr} {cd : Value} {p : Program} {loose : List Str} {mean : ExcName → Option Value} {mg mb : Str → Option Value} {E : Value → Shared → Prop} {sc : Addr} {us : List Value} {ns : List Int}
    (K0 : Below callerA h₀ [] h₀) (T : Top p loose mean mg mb h₀) (KX : (KP w.params).In h₀) (hL : h₀.IsList sc us.toArray) (hI : IntsAre us ns) (hn63 : ns.length ≤ 63) (F : Fr h₀ L s.heap (fun y => List.lookup y [("script", Value.ref sc)])) (N0 : News h₀ L s.heap []) :
    wpAny (model prog w) (callerA.deeper (envOf "law" lawScope L lf cd)) (execs lawStmts (envOf "law" lawScope L lf cd)) (fun f s' => f = .ret (.bool true) ∧ (∀ b o, h₀.get? b = some o → s'.heap.get? b = some o) ∧ s'.os = s.os ∧ s'.gens = s.gens) E s := by
  conv in lawStmts => whnf
  conv in lawScope => whnf
  k_with_none
  k_with "call ref" => refine Stop.out ?_
  k_with "exec Raise some none" => (k_here; (with_reducible show wpAny _ _ (exec (Stmt.Raise (some (PySem.Expr.Call (PySem.Expr.Name ("CutError" : Str) _) _ _ _)) none _) _) _ _ _); k_dflt (refine raise68 rfl ?_))
  k_with "exec Raise some none" => (k_here; (with_reducible show wpAny _ _ (exec (Stmt.Raise (some (PySem.Expr.Call (PySem.Expr.Name ("MarkerError" : Str) _) _ _ _)) none _) _) _ _ _); k_dflt (refine raise44 rfl ?_))
  k_with "exec Raise some none" => (k_here; (with_reducible show wpAny _ _ (exec (Stmt.Raise (some (PySem.Expr.Call (PySem.Expr.Name ("SegmentError" : Str) _) _ _ _)) none _) _) _ _ _); k_dflt (refine raise56 rfl ?_))
  k_with "call ref" => (k_here; (with_reducible show wpAny _ _ (call (Value.ref _) [Value.str _ _]) (RaiseAt _ _ _) _ _); k_dflt (first | refine' exc_call (exc68 _) ?k1 ?k2 ?k3 ?k4 ?k5 ?kA ?kF ?kK ?kd ?_ | refine' exc_call (exc44 _) ?k1 ?k2 ?k3 ?k4 ?k5 ?kA ?kF ?kK ?kd ?_ | refine' exc_call (exc56 _) ?k1 ?k2 ?k3 ?k4 ?k5 ?kA ?kF ?kK ?kd ?_); (case k1 => k_asm); (case k2 => k_asm); (case k3 => k_asm); (case k4 => k_asm); (case k5 => k_asm); (case kA => exact rfl); (case kF => exact rfl); (case kK => first | exact rfl | assumption); (case kd => ktr_room); intro e' t' dx' h' tk' F' N' D'; refine ⟨_, _, _, rfl, Frag.In.keeps (by k_asm) (Fr.keep F'), News.get N' (.head _), ?_⟩; (try k_sweep))
  k_with "leaving ref" => (k_here; k_dflt (first | (refine' leave_raiseM ?k1 ?k2 ?k3 ?k4 ?_; (case k3 => assumption); (case k1 => assumption); (case k2 => assumption); (case k4 => assumption); intro h' R' U'; (try dsimp only at R' U' ⊢)) | (refine' leave_onM ?k1 ?k2 ?k3 ?k4 ?_; (case k3 => assumption); (case k1 => assumption); (case k4 => assumption); (case k2 => assumption); intro h' R' U'; (try dsimp only at R' U' ⊢))))
  k_with "call type:bytes" => (k_here; (with_reducible show wpAny _ _ (call (Value.type "bytes") [Value.bytes _ _]) _ _ _); k_dflt (refine bytes_again ?_); intro _)
  k_with "call type:bytes" => (k_here; (with_reducible show wpAny _ _ (call (Value.type "bytes") [Value.int _ _]) _ _ _); k_dflt (refine bytes_zeros (by omega) (by omega) ?_); intro _ _)
  k_with "call ref" => (k_here; (with_reducible show wpAny _ _ (call (Value.ref 96) _) _ _ _); k_dflt (refine' Calls.use (is_restart_spec _ _ _) ?k1 ?k2 ?k3 ?k4 ?k5 ?kK ?kd ?ku ?_ ?_); (case k1 => k_asm); (case k2 => k_asm); (case k3 => k_asm); (case k4 => k_asm); (case k5 => k_asm); (case kK => first | exact rfl | assumption); (case kd => ktr_room); (case ku => ktr_units); (all_goals first | (intro C' g' e' h' tk' hx' FG' R' U'; first | exact hx'.elim | ((with_reducible have ck' := RaisedM.sub R' (fun _ hp => hp)); clear ck'; (try dsimp only at R' U'))) | (intro r' n' h' tk' hR' F' N'; (try k_sweep); (obtain ⟨rfl, rfl⟩ := hR'); (try dsimp only); (try k_fold))))
  k_with "call ref" => (k_here; (with_reducible show wpAny _ _ (call (Value.ref 103) _) _ _ _); k_dflt (refine' Calls.use (has_length_spec _ _ _) ?k1 ?k2 ?k3 ?k4 ?k5 ?kK ?kd ?ku ?_ ?_); (case k1 => k_asm); (case k2 => k_asm); (case k3 => k_asm); (case k4 => k_asm); (case k5 => k_asm); (case kK => first | exact rfl | assumption); (case kd => ktr_room); (case ku => ktr_units); (all_goals first | (intro C' g' e' h' tk' hx' FG' R' U'; first | exact hx'.elim | ((with_reducible have ck' := RaisedM.sub R' (fun _ hp => hp)); clear ck'; (try dsimp only at R' U'))) | (intro r' n' h' tk' hR' F' N'; (try k_sweep); (obtain ⟨rfl, rfl⟩ := hR'); (try dsimp only); (try k_fold))))
  k_with "call ref" => (k_here; (with_reducible show wpAny _ _ (call (Value.ref 132) _) _ _ _); k_dflt (refine' Calls.use (next_marker_spec _ _ _ _ _ _ ?p1 ?p2 ?p3) ?k1 ?k2 ?k3 ?k4 ?k5 ?kK ?kd ?ku ?_ ?_); (case k1 => k_asm); (case k2 => k_asm); (case k3 => k_asm); (case k4 => k_asm); (case k5 => k_asm); (case kK => first | exact rfl | assumption); (case kd => ktr_room); (case ku => ktr_units); (case p1 => assumption); (case p2 => assumption); (case p3 => first | assumption | omega); (all_goals first | (intro C' g' e' h' tk' hx' FG' R' U'; first | exact hx'.elim | ((with_reducible have ck' := RaisedM.sub R' (fun _ hp => hp)); clear ck'; (try dsimp only at R' U'))) | (intro r' n' h' tk' hR' F' N'; (try k_sweep); (obtain ⟨fd', e0, rfl, rfl⟩ := hR'); (try dsimp only); (try k_fold))))
  k_with "KswEnd" => (k_here; (rename Fr _ _ _ _ => F9); (rename News _ _ _ _ => N9); k_dflt (refine' ksw_end ⟨_, _⟩ F9 N9 ?ka ?kb ?kc ?kz ?kp ?km); (case ka => first | exact fun _ hp => hp | exact fun _ hp => .tail _ hp | kst_in); (case kb => kst_facts); (case kc => kst_all); (case kz => (intro z h2 h3; have h9 := h2 _ (.head _); first | (dsimp only at h9 ⊢; simp only [if_neg h9, List.contains_nil, Bool.false_eq_true, if_false]; first | done | rfl | (simp only [kstB, List.contains_nil, Bool.false_eq_true, if_false]; first | done | rfl)) | ksw_same)); (case kp => kst_p); (case km => ksw_less))
  k_with "call ref" => (k_here; (with_reducible show wpAny _ _ (call (Value.ref 139) _) _ _ _); k_dflt (refine' Calls.use (data_end_spec _ _ _ _ _ _ ?p1 ?p2 ?p3) ?k1 ?k2 ?k3 ?k4 ?k5 ?kK ?kd ?ku ?_ ?_); (case k1 => k_asm); (case k2 => k_asm); (case k3 => k_asm); (case k4 => k_asm); (case k5 => k_asm); (case kK => first | exact rfl | assumption); (case kd => ktr_room); (case ku => ktr_units); (case p1 => assumption); (case p2 => assumption); (case p3 => first | assumption | omega); (all_goals first | (intro C' g' e' h' tk' hx' FG' R' U'; first | exact hx'.elim | ((with_reducible have ck' := RaisedM.sub R' (fun _ hp => hp)); clear ck'; (try dsimp only at R' U'))) | (intro r' n' h' tk' hR' F' N'; (try k_sweep); (obtain ⟨pe', tk9, e0, rfl, rfl⟩ := hR'); (try dsimp only); (try k_fold))))
  k_with "call ref" => (k_here; (with_reducible show wpAny _ _ (call (Value.ref 146) _) _ _ _); k_dflt (refine' Calls.use (read_code_spec _ _ _ _ _ _ ?p1 ?p2 ?p3) ?k1 ?k2 ?k3 ?k4 ?k5 ?kK ?kd ?ku ?_ ?_); (case k1 => k_asm); (case k2 => k_asm); (case k3 => k_asm); (case k4 => k_asm); (case k5 => k_asm); (case kK => first | exact rfl | assumption); (case kd => ktr_room); (case ku => ktr_units); (case p1 => assumption); (case p2 => assumption); (case p3 => first | assumption | omega); (all_goals first | (intro C' g' e' h' tk' hx' FG' R' U'; first | exact hx'.elim | ((with_reducible have ck' := RaisedM.sub R' (fun _ hp => hp)); clear ck'; (try dsimp only at R' U'))) | (intro r' n' h' tk' hR' F' N'; (try k_sweep); (obtain ⟨k', j', D', t1', t2', e0, e1, rfl, rfl⟩ := hR'); (try dsimp only); (try k_fold))))
  k_with "call ref" => (k_here; (with_reducible show wpAny _ _ (call (Value.ref 153) _) _ _ _); k_dflt (refine' Calls.use (read_payload_spec _ _ _ _ _ _ ?p1 ?p2 ?p3) ?k1 ?k2 ?k3 ?k4 ?k5 ?kK ?kd ?ku ?_ ?_); (case k1 => k_asm); (case k2 => k_asm); (case k3 => k_asm); (case k4 => k_asm); (case k5 => k_asm); (case kK => first | exact rfl | assumption); (case kd => ktr_room); (case ku => ktr_units); (case p1 => assumption); (case p2 => assumption); (case p3 => first | assumption | omega); (all_goals first | (intro C' g' e' h' tk' hx' FG' R' U'; first | exact hx'.elim | ((with_reducible have ck' := RaisedM.sub R' (fun _ hp => hp)); clear ck'; (try dsimp only at R' U'))) | (intro r' n' h' tk' hR' F' N'; (try k_sweep); (obtain ⟨pl', j', D', b', t1', t2', e0, e1, rfl, rfl, e2⟩ := hR'); (try dsimp only); (try k_fold))))
  k_with "call ref" => (k_here; (with_reducible show wpAny _ _ (call (Value.ref 121) _) _ _ _); k_dflt (refine' Calls.use (piece_spec _ _ _ _ _ (.inl rfl)) ?k1 ?k2 ?k3 ?k4 ?k5 ?kK ?kd ?ku ?_ ?_); (case k1 => k_asm); (case k2 => k_asm); (case k3 => k_asm); (case k4 => k_asm); (case k5 => k_asm); (case kK => first | exact rfl | assumption); (case kd => ktr_room); (case ku => ktr_units); (all_goals first | (intro C' g' e' h' tk' hx' FG' R' U'; first | exact hx'.elim | ((with_reducible have ck' := RaisedM.sub R' (fun _ hp => hp)); clear ck'; (try dsimp only at R' U'))) | (intro r' n' h' tk' hR' F' N'; (try k_sweep); (obtain ⟨x', dx', h1', h2', h3', k1', k2', k3', rfl, lx', ly', rfl⟩ := hR'); (try dsimp only); (try k_fold))))
  k_with "call ref" => (k_here; (with_reducible show wpAny _ _ (call (Value.ref 121) _) _ _ _); k_dflt (refine' Calls.use (piece_spec _ _ _ _ _ (.inr (.inl ⟨rfl, rfl⟩))) ?k1 ?k2 ?k3 ?k4 ?k5 ?kK ?kd ?ku ?_ ?_); (case k1 => k_asm); (case k2 => k_asm); (case k3 => k_asm); (case k4 => k_asm); (case k5 => k_asm); (case kK => first | exact rfl | assumption); (case kd => ktr_room); (case ku => ktr_units); (all_goals first | (intro C' g' e' h' tk' hx' FG' R' U'; first | exact hx'.elim | ((with_reducible have ck' := RaisedM.sub R' (fun _ hp => hp)); clear ck'; (try dsimp only at R' U'))) | (intro r' n' h' tk' hR' F' N'; (try k_sweep); (obtain ⟨x', dx', h1', h2', h3', k1', k2', k3', rfl, lx', ly', rfl⟩ := hR'); (try dsimp only); (try k_fold))))
  k_with "call ref" => (k_here; (with_reducible show wpAny _ _ (call (Value.ref 121) _) _ _ _); k_dflt (refine' Calls.use (piece_spec _ _ _ _ _ (.inr (.inr ⟨rfl, rfl, rfl⟩))) ?k1 ?k2 ?k3 ?k4 ?k5 ?kK ?kd ?ku ?_ ?_); (case k1 => k_asm); (case k2 => k_asm); (case k3 => k_asm); (case k4 => k_asm); (case k5 => k_asm); (case kK => first | exact rfl | assumption); (case kd => ktr_room); (case ku => ktr_units); (all_goals first | (intro C' g' e' h' tk' hx' FG' R' U'; first | exact hx'.elim | ((with_reducible have ck' := RaisedM.sub R' (fun _ hp => hp)); clear ck'; (try dsimp only at R' U'))) | (intro r' n' h' tk' hR' F' N'; (try k_sweep); (obtain ⟨x', dx', h1', h2', h3', k1', k2', k3', rfl, lx', ly', rfl⟩ := hR'); (try dsimp only); (try k_fold))))
  k_with "call ref" => (k_here; (with_reducible show wpAny _ _ (call (Value.ref 160) _) _ _ _); k_dflt (refine' Calls.use (read_piece_spec _ _ _ _ _ _ ?p1 ?p2 ?p3) ?k1 ?k2 ?k3 ?k4 ?k5 ?kK ?kd ?ku ?_ ?_); (case k1 => k_asm); (case k2 => k_asm); (case k3 => k_asm); (case k4 => k_asm); (case k5 => k_asm); (case kK => first | exact rfl | assumption); (case kd => ktr_room); (case ku => ktr_units); (case p1 => assumption); (case p2 => assumption); (case p3 => first | assumption | omega); (all_goals first | (intro C' g' e' h' tk' hx' FG' R' U'; first | exact hx'.elim | ((with_reducible have ck' := RaisedM.sub R' (fun _ hp => hp)); clear ck'; (try dsimp only at R' U'))) | (intro r' n' h' tk' hR' F' N'; (try k_sweep); (obtain ⟨D', x', dx', t1', tc', tp', td', k1', k2', k3', h1', h2', h3', k', j', pb', db', e0, e1, rfl, rfl⟩ := hR'); (try dsimp only); (try k_fold))))
  k_with "call ref" => (k_here; (with_reducible show wpAny _ _ (call (Value.ref 89) _) _ _ _); k_dflt (refine' Calls.use (word_spec _ _ _ ?p1 ?p2) ?k1 ?k2 ?k3 ?k4 ?k5 ?kK ?kd ?ku ?_ ?_); (case k1 => k_asm); (case k2 => k_asm); (case k3 => k_asm); (case k4 => k_asm); (case k5 => k_asm); (case kK => first | exact rfl | assumption); (case kd => ktr_room); (case ku => ktr_units); (case p1 => omega); (case p2 => omega); (all_goals first | (intro C' g' e' h' tk' hx' FG' R' U'; first | exact hx'.elim | ((with_reducible have ck' := RaisedM.sub R' (fun _ hp => hp)); clear ck'; (try dsimp only at R' U'))) | (intro r' n' h' tk' hR' F' N'; (try k_sweep); (obtain ⟨⟨wb', wt', ew', rfl⟩, rfl⟩ := hR'); (try dsimp only); (try k_fold))))
  k_with "call ref" => (k_here; (with_reducible show wpAny _ _ (call (Value.ref 174) _) _ _ _); k_dflt (refine' Calls.use (write_piece_spec _ _ _ ?p1 ?p2 ?p3 ?p4 ?p5) ?k1 ?k2 ?k3 ?k4 ?k5 ?kK ?kd ?ku ?_ ?_); (case k1 => k_asm); (case k2 => k_asm); (case k3 => k_asm); (case k4 => k_asm); (case k5 => k_asm); (case kK => first | exact rfl | assumption); (case kd => ktr_room); (case ku => ktr_units); (case p1 => exact PieceIn.mono (by assumption) (by k_sub)); (case p2 => (first | exact hri.1 | omega)); (case p3 => (first | exact hri.2.1 | omega)); (case p4 => (first | exact hri.2.2.1 | omega)); (case p5 => (first | exact hri.2.2.2 | omega)); (all_goals first | (intro C' g' e' h' tk' hx' FG' R' U'; first | exact hx'.elim | ((with_reducible have ck' := RaisedM.sub R' (fun _ hp => hp)); clear ck'; (try dsimp only at R' U'))) | (intro r' n' h' tk' hR' F' N'; (try k_sweep); (obtain ⟨⟨wb', wt', ew', rfl⟩, rfl⟩ := hR'); (try dsimp only); (try k_fold))))
  k_with "call ref" => (k_here; (with_reducible show wpAny _ _ (call (Value.ref 193) _) _ _ _); k_dflt (refine' Calls.use (take_spec _ _ ?p0 ?p1 ?p2 ?p3 ?p4 ?p5) ?k1 ?k2 ?k3 ?k4 ?k5 ?kK ?kd ?ku ?_ ?_); (case k1 => k_asm); (case k2 => k_asm); (case k3 => k_asm); (case k4 => k_asm); (case k5 => k_asm); (case kK => first | exact rfl | assumption); (case kd => ktr_room); (case ku => ktr_units); (case p0 => (first | exact UpdF.head (by assumption) | (refine' UpdF.head ?zz; (case zz => k_all)) | (refine' UpdF.tail ?za ?zb; (case za => (first | k_ne | assumption)); (case zb => (first | exact UpdF.head (by assumption) | (refine' UpdF.head ?zz; (case zz => k_all)) | (refine' UpdF.tail ?za ?zb; (case za => (first | k_ne | assumption)); (case zb => (first | exact UpdF.head (by assumption) | (refine' UpdF.head ?zz; (case zz => k_all)) | (refine' UpdF.tail ?za ?zb; (case za => (first | k_ne | assumption)); (case zb => (first | exact UpdF.head (by assumption) | (refine' UpdF.head ?zz; (case zz => k_all)) | (refine' UpdF.tail ?za ?zb; (case za => (first | k_ne | assumption)); (case zb => (first | exact UpdF.head (by assumption) | (refine' UpdF.head ?zz; (case zz => k_all)) | (refine' UpdF.tail ?za ?zb; (case za => (first | k_ne | assumption)); (case zb => (exact UpdF.head (by assumption)))))))))))))))))); (case p1 => assumption); (case p2 => assumption); (case p3 => assumption); (case p4 => k_dflt (first | decide | omega)); (case p5 => k_dflt (first | decide | omega)); (all_goals first | (intro C' g' e' h' tk' hx' FG' R' U'; first | exact hx'.elim | ((with_reducible have ck' := RaisedM.sub R' (fun _ hp => hp)); clear ck'; (try dsimp only at R' U'))) | (intro r' n' h' tk' hR' F' N'; (try k_sweep); (obtain ⟨v', tv', xa', xb', ta', tb', q1', q2', q3', q4', q5', rfl, rfl⟩ := hR'); (try dsimp only); (try k_fold))))
  k_with "call ref" => (k_here; (with_reducible show wpAny _ _ (call (Value.ref 200) _) _ _ _); k_dflt (refine' Calls.use (data_spec ?p0 ?p1 ?p2 ?p3) ?k1 ?k2 ?k3 ?k4 ?k5 ?kK ?kd ?ku ?_ ?_); (case k1 => k_asm); (case k2 => k_asm); (case k3 => k_asm); (case k4 => k_asm); (case k5 => k_asm); (case kK => first | exact rfl | assumption); (case kd => ktr_room); (case ku => ktr_units); (case p0 => (first | exact UpdF.head (by assumption) | (refine' UpdF.head ?zz; (case zz => k_all)) | (refine' UpdF.tail ?za ?zb; (case za => (first | k_ne | assumption)); (case zb => (first | exact UpdF.head (by assumption) | (refine' UpdF.head ?zz; (case zz => k_all)) | (refine' UpdF.tail ?za ?zb; (case za => (first | k_ne | assumption)); (case zb => (first | exact UpdF.head (by assumption) | (refine' UpdF.head ?zz; (case zz => k_all)) | (refine' UpdF.tail ?za ?zb; (case za => (first | k_ne | assumption)); (case zb => (first | exact UpdF.head (by assumption) | (refine' UpdF.head ?zz; (case zz => k_all)) | (refine' UpdF.tail ?za ?zb; (case za => (first | k_ne | assumption)); (case zb => (first | exact UpdF.head (by assumption) | (refine' UpdF.head ?zz; (case zz => k_all)) | (refine' UpdF.tail ?za ?zb; (case za => (first | k_ne | assumption)); (case zb => (exact UpdF.head (by assumption)))))))))))))))))); (case p1 => assumption); (case p2 => assumption); (case p3 => assumption); (all_goals first | (intro C' g' e' h' tk' hx' FG' R' U'; first | exact hx'.elim | ((with_reducible have ck' := RaisedM.sub R' (fun _ hp => hp)); clear ck'; (try dsimp only at R' U'))) | (intro r' n' h' tk' hR' F' N'; (try k_sweep); (obtain ⟨db', dt', xa', xb', ta', tb', d1', d2', q3', q4', q5', rfl, rfl⟩ := hR'); (try dsimp only); (try k_fold))))
  k_with "call ref" => (k_here; (with_reducible show wpAny _ _ (call (Value.ref 167) _) _ _ _); k_dflt (refine' Calls.use (read_pieces_spec _ _ _ _ ?p1 ?p2) ?k1 ?k2 ?k3 ?k4 ?k5 ?kK ?kd ?ku ?_ ?_); (case k1 => k_asm); (case k2 => k_asm); (case k3 => k_asm); (case k4 => k_asm); (case k5 => k_asm); (case kK => first | exact rfl | assumption); (case kd => ktr_room); (case ku => ktr_units); (case p1 => assumption); (case p2 => first | assumption | omega); (all_goals first | (intro C' g' e' h' tk' hx' FG' R' U'; first | exact hx'.elim | ((with_reducible have ck' := RaisedM.sub R' (fun _ hp => hp)); clear ck'; (try dsimp only at R' U'))) | (intro r' n' h' tk' hR' F' N'; (try k_sweep); (obtain ⟨l', vs', cap', rows', led', e0', rfl, rfl, pin', sub'⟩ := hR'); (try dsimp only); (try k_fold))))
  k_with "eval ListComp" => refine Stop.out ?_
  k_steps
  refine Stop.mk ?_
  refine' (pool_spec [] _ _ _ hI hn63) _ _ _ _ _ _ _ _ _ _ _ _ _ _ _ _ _ _ _ _ _ _ ?wk1 ?wk2 ?wk3 ?wk4 ?wk5 hL ?wkK ?wkd ?wku ?wret (fun _ _ _ _ _ x => x.elim)
  case wk1 => k_asm
  case wk2 => k_asm
  case wk3 => k_asm
  case wk4 => k_asm
  case wk5 => k_asm
  case wkK => exact rfl
  case wkd => ktr_room
  case wku => ktr_units
  rintro r0 n0 h8 tk8 ⟨D, x0, x1, ta, tb, q3', q4', q5', rfl, rfl, _⟩ F8 N8
  (try dsimp only)
  (try k_fold)
  k_steps
  refine Stop.mk ?_
  refine' Calls.use (rows_at [] D x0 x1 ta tb 0 (List.forall_mem_nil _) q3' q4' q5') ?zk1 ?zk2 ?zk3 ?zk4 ?zk5 ?zkK ?zkd ?zku ?zret (fun _ _ _ _ _ x => x.elim)
  case zk1 => k_asm
  case zk2 => k_asm
  case zk3 => k_asm
  case zk4 => k_asm
  case zk5 => k_asm
  case zkK => exact rfl
  case zkd => ktr_room
  case zku => ktr_units
  clear q3' q4' q5'
  rintro r1 n1 h7 tk7 ⟨l, vs, mid, led, xa', xb', ta', tb', q3', q4', q5', m1, m2, m3, tin, hs, _, hne, rfl, rfl⟩ F7 N7
  have hR := LawRows.of m1 m2 m3
  generalize hrows : [(216, #[], #[])] ++ mid ++ [(217, #[], #[])] = rows at tin hR
  have hl4 := hR.script.len 0
  (try dsimp only)
  (try k_fold)
  k_with "call ref" => (k_here; (with_reducible show wpAny _ _ (call (Value.ref 212) _) _ _ _); k_dflt (refine' Calls.use (octets_at _ _ _ _ rows _ _ ?ya1 ?yp2 ?yp3 ?yp4 ?yp5 ?yp6) ?k1 ?k2 ?k3 ?k4 ?k5 ?kK ?kd ?ku ?_ ?_); (case k1 => k_asm); (case k2 => k_asm); (case k3 => k_asm); (case k4 => k_asm); (case k5 => k_asm); (case kK => first | exact rfl | assumption); (case kd => ktr_room); (case ku => ktr_units); (case ya1 => k_dflt (exact List.Mem.head _)); (case yp2 => k_dflt (exact tin.mono (fun pp hpp => .tail _ (.tail _ hpp)))); (case yp3 => first | decide | omega); (case yp4 => first | decide | omega); (case yp5 => k_dflt (exact Nat.le_trans hR.nine (by decide))); (case yp6 => k_dflt (exact hR.fit)); (all_goals first | (intro C' g' e' h' tk' hx' FG' R' U'; first | exact hx'.elim | ((with_reducible have ck' := RaisedM.sub R' (fun _ hp => hp)); clear ck'; (try dsimp only at R' U'))) | (intro r' n' h' tk' hR' F' N'; (try k_sweep); ((obtain ⟨⟨ob', ot', oe', ol', rfl⟩, rfl⟩ := hR'; (try rw [show Int.toNat 0 = 0 from rfl] at oe' ol'))); (try dsimp only); (try k_fold))))
  k_steps
  refine Stop.mk ?_
  rename Fr _ _ _ _ => F6
  rename News _ _ _ _ => N6
  k_with "Exists" => refine Stop.out ?_
  refine comp_three F6 (by rfl) (by decide) (by rfl) (by decide) (by rfl) (by rfl) (by rfl) (by decide) (by decide) (by decide) ?_
  k_steps
  refine Stop.mk ⟨l, vs.toArray, 0, _, (fun i ys nx => (∀ p ∈ (l, listOf vs.toArray 0) :: (D, srcObj xa' xb' ta' tb' 0) :: led, p ∈ nx) ∧ PiecesIn nx ys (rows.take i)), rfl, rfl, F6, N6, .head _, ?csz, ⟨fun _ h => h, .nil⟩, ?cturn, ?cdone⟩
  case csz => rw [List.size_toArray, tin.length, sizeLine_eq]; exact Nat.le_trans hR.nine (by decide)
  case cturn =>
    clear F6 N6
    rintro i ys nx I oI C oC D9 m₂ h9 tk9 E' hi ⟨hsub, hp⟩
    rw [List.size_toArray, tin.length] at hi
    obtain ⟨v, hv, x, nt, tc, tp, td, rfl, hm⟩ := tin.get hi
    refine ⟨x, nt, _, _, _, by rw [List.getElem?_toArray]; exact hv, hsub _ (.tail _ (.tail _ hm)), ?_⟩
    intro hC hx1 hx2 hx3 F9 N9 off9 ne9
    k_steps
    rename Fr _ _ _ _ => F8
    rename News _ _ _ _ => N8
    exact law_turn hsub hp hi (.head _) F8 N8 off9 lx' ly'
  case cdone =>
    clear F6 N6
    rintro ys nx D9 h9 tk9 ⟨hsub, hp⟩ F9 N9
    rw [List.size_toArray, tin.length, List.take_length] at hp
    have N8 : News h₀ L h9 ((D9, listOf ys.toArray ys.length) :: nx) := N9
    clear N9
    k_with "call ref" => (k_here; (with_reducible show wpAny _ _ (call (Value.ref 179) _) _ _ _); k_dflt (refine' Calls.use (write_pieces_at _ _ _ _ rows _ ?ya1 ?ya2 ?ya3 ?ya4 ?ya5 ?ya6) ?k1 ?k2 ?k3 ?k4 ?k5 ?kK ?kd ?ku ?_ ?_); (case k1 => k_asm); (case k2 => k_asm); (case k3 => k_asm); (case k4 => k_asm); (case k5 => k_asm); (case kK => first | exact rfl | assumption); (case kd => ktr_room); (case ku => ktr_units); (case ya1 => assumption); (case ya2 => k_dflt (exact fun r hr => let q := hR.fit r hr; ⟨q.1, q.2.1, Nat.le_trans q.2.2.1 (by decide), Nat.le_trans q.2.2.2 (by decide)⟩)); (case ya3 => k_dflt (exact law_writes hR.script)); (case ya4 => k_dflt (exact Nat.le_trans ol' (by decide))); (case ya5 => k_dflt (exact hR.two)); (case ya6 => k_dflt (exact Nat.le_trans hR.nine (by decide))); (all_goals first | (intro C' g' e' h' tk' hx' FG' R' U'; first | exact hx'.elim | ((with_reducible have ck' := RaisedM.sub R' (fun _ hp => hp)); clear ck'; (try dsimp only at R' U'))) | (intro r' n' h' tk' hR' F' N'; (try k_sweep); (obtain ⟨⟨wb', wt', we', rfl⟩, rfl⟩ := hR'); (try dsimp only); (try k_fold))))
    k_with "compareOp NotEq bytes bytes" => (k_here; k_dflt (refine bytes_ne (we'.trans oe'.symm) ?_); (rename News _ _ _ _ => N5); (k_dflt (replace N5 := cb_drop N5 (fun p hp => .tail _ (hsub p hp)))))
    k_with "binaryOp Add bytes bytes" => (k_here; k_dflt (refine' bytes_add ?yh1 ?yh2 ?yh3 ?_); (case yh1 => first | k_dflt (exact lit0) | assumption); (case yh2 => first | k_dflt (exact lit3) | k_dflt (exact litm) | assumption); (case yh3 => (clear hne; (try simp only [List.length_map, List.length_append, List.length_take, List.length_drop, List.length_cons, List.length_nil]); omega)); intro ab at9 ak9 abe)
    k_with "call ref" => (k_here; (with_reducible show wpAny _ _ (call (Value.ref 217) _) _ _ _); k_dflt (refine' Calls.use (told_spec _ _ _ _ (rows.map ri) ?yb1 ?yb2 ?yb3 ?yb4) ?k1 ?k2 ?k3 ?k4 ?k5 ?kK ?kd ?ku ?_ ?_); (case k1 => k_asm); (case k2 => k_asm); (case k3 => k_asm); (case k4 => k_asm); (case k5 => k_asm); (case kK => first | exact rfl | assumption); (case kd => ktr_room); (case ku => ktr_units); (case yb1 => k_dflt assumption); (case yb2 => (clear hne; (try simp only [List.length_map, List.length_append, List.length_take, List.length_drop, List.length_cons, List.length_nil]); omega)); (case yb3 => first | k_dflt (exact fun o hr => law_reads0 hR.script _ hr) | k_dflt (exact fun o hr => law_reads hR.script _ _ hr)); (case yb4 => k_dflt (rw [List.length_map]; exact Nat.le_trans hR.nine (by decide))); (all_goals first | (intro C' g' e' h' tk' hx' FG' R' U'; first | exact hx'.elim | ((with_reducible have ck' := RaisedM.sub R' (fun _ hp => hp)); clear ck'; (try dsimp only at R' U'))) | (intro r' n' h' tk' hR' F' N'; (try k_sweep); ((obtain ⟨l9', vs9', cap9', rows9', led9', re9', rfl, rfl, tin9', sub9'⟩ := hR'; rw [ri_inj re9'] at tin9'; clear re9')); (try dsimp only); (try k_fold))))
    k_with "compareOp NotEq ref ref" => (k_here; (rename News _ _ _ _ => N5); k_dflt (refine rows_ne N5 (.tail _ (sub9' _ (.head _))) (.head _) tin tin9' (fun pp hpp => .tail _ (sub9' _ (.tail _ (.tail _ hpp)))) (fun pp hpp => .tail _ hpp) ?yc1 ?_); (case yc1 => first | decide | (show (_ : Nat) + 64 < _; decide) | ktr_units); (k_dflt (replace N5 := cb_drop N5 (fun pp hpp => .tail _ (sub9' pp hpp)))); clear tin9' sub9')
    k_with "call ref" => (k_here; (with_reducible show wpAny _ _ (call (Value.ref 224) _) _ _ _); k_dflt (refine' Calls0.use (error_marker _ _ _ _ ?yd1 ?yd2 ?yd3) ?ye1 ?ye2 ?ye3 ?ye4 ?ye5 ?ye6 ?ye7 ?ye8 ?ye9 ?ye10 ?_); (case ye1 => k_asm); (case ye2 => k_asm); (case ye3 => k_asm); (case ye4 => k_asm); (case ye5 => k_asm); (case ye6 => assumption); (case ye7 => assumption); (case ye8 => exact rfl); (case ye9 => ktr_room); (case ye10 => ktr_units); (case yd1 => k_dflt assumption); (case yd2 => first | (rw [← sg4]; exact Nat.le_trans sg5 (by decide)) | (clear hne; (try simp only [List.length_map, List.length_append, List.length_take, List.length_drop, List.length_cons, List.length_nil]); omega)); (case yd3 => first | k_dflt (exact fun o hr => law_lead hR.script hr) | k_dflt (exact fun o hr => law_strangeB hR sg1 sg2 sg3 hr)); (intro r' n' h' tk' hR' F' N'; (try k_sweep); (obtain ⟨⟨tk9', rfl⟩, rfl⟩ := hR'); (try dsimp only); (try k_fold)))
    k_with "call ref" => (k_here; (with_reducible show wpAny _ _ (call (Value.ref 224) _) _ _ _); k_dflt (refine' Calls0.use (error_cut _ _ _ _ ?yd1 ?yd2 ?yd3) ?ye1 ?ye2 ?ye3 ?ye4 ?ye5 ?ye6 ?ye7 ?ye8 ?ye9 ?ye10 ?_); (case ye1 => k_asm); (case ye2 => k_asm); (case ye3 => k_asm); (case ye4 => k_asm); (case ye5 => k_asm); (case ye6 => assumption); (case ye7 => assumption); (case ye8 => exact rfl); (case ye9 => ktr_room); (case ye10 => ktr_units); (case yd1 => k_dflt assumption); (case yd2 => first | (rw [← sg4]; exact Nat.le_trans sg5 (by decide)) | (clear hne; (try simp only [List.length_map, List.length_append, List.length_take, List.length_drop, List.length_cons, List.length_nil]); omega)); (case yd3 => k_dflt (exact fun o hr => law_cut hR.script (by omega) hr)); (intro r' n' h' tk' hR' F' N'; (try k_sweep); (obtain ⟨⟨tk9', rfl⟩, rfl⟩ := hR'); (try dsimp only); (try k_fold)))
    k_with "call ref" => (k_here; (with_reducible show wpAny _ _ (call (Value.ref 224) _) _ _ _); k_dflt (refine' Calls0.use (error_segment _ _ _ _ ?yd1 ?yd2 ?yd3) ?ye1 ?ye2 ?ye3 ?ye4 ?ye5 ?ye6 ?ye7 ?ye8 ?ye9 ?ye10 ?_); (case ye1 => k_asm); (case ye2 => k_asm); (case ye3 => k_asm); (case ye4 => k_asm); (case ye5 => k_asm); (case ye6 => assumption); (case ye7 => assumption); (case ye8 => exact rfl); (case ye9 => ktr_room); (case ye10 => ktr_units); (case yd1 => k_dflt assumption); (case yd2 => first | (rw [← sg4]; exact Nat.le_trans sg5 (by decide)) | (clear hne; (try simp only [List.length_map, List.length_append, List.length_take, List.length_drop, List.length_cons, List.length_nil]); omega)); (case yd3 => k_dflt (exact fun o hr => law_shortC hR q1' q2' (by assumption) hr)); (intro r' n' h' tk' hR' F' N'; (try k_sweep); (obtain ⟨⟨tk9', rfl⟩, rfl⟩ := hR'); (try dsimp only); (try k_fold)))
    k_with "subscriptTail" => (k_here; (with_reducible show wpAny _ _ (subscriptTail _ (PySem.Expr.Slice none (some _) none _) (Value.bytes _ _) (Value.ref _)) _ _ _); (with_reducible rename Fr _ _ _ _ => F9'); (with_reducible rename News _ _ _ _ => N9'); k_dflt (refine' bytes_head (s := ⟨_, _, _, _, _⟩) F9' N9' ?yi1 ?yi2 ?yi3 ?yi4 ?_); (case yi1 => assumption); (case yi2 => first | decide | assumption | (clear hne; (try simp only [List.length_map, List.length_append, List.length_take, List.length_drop, List.length_cons, List.length_nil]); omega)); (case yi3 => (clear hne; (try simp only [List.length_map, List.length_append, List.length_take, List.length_drop, List.length_cons, List.length_nil]); omega)); (case yi4 => (clear hne; (try simp only [List.length_map, List.length_append, List.length_take, List.length_drop, List.length_cons, List.length_nil]); omega)); intro sb9 hs9' t9 k9 F9' N9' sbe)
    k_with "subscriptTail" => (k_here; (with_reducible show wpAny _ _ (subscriptTail _ (PySem.Expr.Slice (some _) none none _) (Value.bytes _ _) (Value.ref _)) _ _ _); (with_reducible rename Fr _ _ _ _ => F9'); (with_reducible rename News _ _ _ _ => N9'); k_dflt (refine' bytes_tail (s := ⟨_, _, _, _, _⟩) F9' N9' ?yi1 ?yi2 ?yi3 ?yi4 ?_); (case yi1 => assumption); (case yi2 => first | decide | assumption | (clear hne; (try simp only [List.length_map, List.length_append, List.length_take, List.length_drop, List.length_cons, List.length_nil]); omega)); (case yi3 => (clear hne; (try simp only [List.length_map, List.length_append, List.length_take, List.length_drop, List.length_cons, List.length_nil]); omega)); (case yi4 => (clear hne; (try simp only [List.length_map, List.length_append, List.length_take, List.length_drop, List.length_cons, List.length_nil]); omega)); intro sb9 hs9' t9 k9 F9' N9' sbe)
    k_with "call ref" => (k_here; (with_reducible show wpAny _ _ (call (Value.ref 231) _) _ _ _); k_dflt (refine' Calls0.use (long_spec _) ?yj1 ?yj2 ?yj3 ?yj4 ?yj5 ?yj6 ?yj7 ?yj8 ?yj9 ?yj10 ?_); (case yj1 => k_asm); (case yj2 => k_asm); (case yj3 => k_asm); (case yj4 => k_asm); (case yj5 => k_asm); (case yj6 => assumption); (case yj7 => assumption); (case yj8 => exact rfl); (case yj9 => ktr_room); (case yj10 => ktr_units); (intro r' n' h' tk' hR' F' N'; (try k_sweep); (obtain ⟨rfl, rfl⟩ := hR'); (try dsimp only); (try k_fold)))
    k_with "call ref" => (k_here; (with_reducible show wpAny _ _ (call (Value.ref 132) _) _ _ _); k_dflt (refine' Calls.use (next_marker_spec _ _ _ _ _ _ ?yk1 ?yk2 ?yk3) ?k1 ?k2 ?k3 ?k4 ?k5 ?kK ?kd ?ku ?_ ?_); (case k1 => k_asm); (case k2 => k_asm); (case k3 => k_asm); (case k4 => k_asm); (case k5 => k_asm); (case kK => first | exact rfl | assumption); (case kd => ktr_room); (case ku => ktr_units); (case yk1 => k_dflt assumption); (case yk2 => k_dflt (exact Nat.le_trans (by assumption) (by decide))); (case yk3 => assumption); (all_goals first | (intro C' g' e' h' tk' hx' FG' R' U'; first | exact hx'.elim | ((with_reducible have ck' := RaisedM.sub R' (fun _ hp => hp)); clear ck'; (try dsimp only at R' U'))) | (intro r' n' h' tk' hR' F' N'; (try k_sweep); ((obtain ⟨f1', fn1', rfl, rfl⟩ := hR'; rcases f1' with _ | ⟨p1', D1', t1', u1'⟩)); (try dsimp only); (try k_fold))))
    k_with "call ref" => (k_here; (with_reducible show wpAny _ _ (call (Value.ref 245) _) _ _ _); k_dflt (refine' Calls.use (law_next_spec _ _ _ _ _ _ ?yl1 ?yl2 ?yl3) ?k1 ?k2 ?k3 ?k4 ?k5 ?kK ?kd ?ku ?_ ?_); (case k1 => k_asm); (case k2 => k_asm); (case k3 => k_asm); (case k4 => k_asm); (case k5 => k_asm); (case kK => first | exact rfl | assumption); (case kd => ktr_room); (case ku => ktr_units); (case yl1 => k_dflt assumption); (case yl2 => k_dflt (exact Nat.le_trans (by assumption) (by decide))); (case yl3 => assumption); (all_goals first | (intro C' g' e' h' tk' hx' FG' R' U'; first | exact hx'.elim | ((with_reducible have ck' := RaisedM.sub R' (fun _ hp => hp)); clear ck'; (try dsimp only at R' U'))) | (intro r' n' h' tk' hR' F' N'; (try k_sweep); ((obtain ⟨f2', fn2', rfl, rfl⟩ := hR'; rcases f2' with _ | ⟨p2', D2', t2', u2'⟩ <;> first | exact (next_ns fn1' fn2').elim | exact (next_ns fn2' fn1').elim | skip)); (try dsimp only); (try k_fold))))
    k_with "call ref" => (k_here; (with_reducible show wpAny _ _ (call (Value.ref 238) _) _ _ _); k_dflt (refine' Calls.use (strange_at led D l _ _ _ _ 0 vs 0 rows hs hne ?yf1 ?yf2 ?yf3 tin hR.fit hR.two ?yf4 (hR.first _)) ?k1 ?k2 ?k3 ?k4 ?k5 ?kK ?kd ?ku ?_ ?_); (case k1 => k_asm); (case k2 => k_asm); (case k3 => k_asm); (case k4 => k_asm); (case k5 => k_asm); (case kK => first | exact rfl | assumption); (case kd => ktr_room); (case ku => ktr_units); (case yf1 => assumption); (case yf2 => assumption); (case yf3 => assumption); (case yf4 => k_dflt (exact Nat.le_trans hR.nine (by decide))); (all_goals first | (intro C' g' e' h' tk' hx' FG' R' U'; first | exact hx'.elim | ((with_reducible have ck' := RaisedM.sub R' (fun _ hp => hp)); clear ck'; (try dsimp only at R' U'))) | (intro r' n' h' tk' hR' F' N'; (try k_sweep); (obtain ⟨sb', sst, stk', si', shi', xa', xb', ta', tb', q3', q4', q5', sg1, sg2, sg3, sg4, sg5, rfl, rfl⟩ := hR'); (try dsimp only); (try k_fold))))
    k_steps
    all_goals first | trivial | exact congrArg (fun z => Flow.ret (Value.bool z)) (next_ss fn1' fn2')

end Mine
open Mine
set_option maxRecDepth 100000 in
set_option maxHeartbeats 8000000 in
theorem PySem.Challenge.cw_nt0547_01_holds : PySem.Challenge.rw_nt0547_01.Holds := by
  w_on; o_law
  refine holds_open (q := Mine.view) (loose := Mine.loose) (Xt := fun s => xlAt Mine.view [] s && recOk [] s) (XP := XL Mine.view []) (Yf := Hook.obs (kHook Mine.KP Mine.KAs (fun _ => by kernel_rfl))) (Ya := Hook.val (kHook Mine.KP Mine.KAs (fun _ => by kernel_rfl))) (YP := Hook.says (kHook Mine.KP Mine.KAs (fun _ => by kernel_rfl))) (N := 4300) ?hl (Hook.of (kHook Mine.KP Mine.KAs (fun _ => by kernel_rfl))) (Hook.keeps (kHook Mine.KP Mine.KAs (fun _ => by kernel_rfl))) (fun s e => xl_of s (Bool.and_eq_true_iff.mp e).1) XL.keeps (by rfl) (by rfl) (by rfl) (fun s e => recFacts_of (Bool.and_eq_true_iff.mp e).2) (by rfl) (by first | assumption | decide +kernel) (by decide +kernel) ⟨rfl, rfl, rfl, rfl, rfl, by decide +kernel⟩ ?hw ?hc
  case hw => w_witness2
  case hl =>
    refine left_of_bootQ rfl rfl (fun _ => rfl) (fun w os => by kernel_rfl) (fun w => by kernel_rfl) ?_
    intro w os
    kernel_rfl
  k_go0
  rename (IntsAre _ _) => hI
  rename (Heap.IsList _ _ _) => hL
  rename (Below _ _ _ _) => hK
  rename (Top _ _ _ _ _ _) => hT
  rename (Frag.In _ _) => hX
  rename (Fr _ _ _ _) => hF
  rename (News _ _ _ _) => hN
  have hl : _ := hI.length
  refine wpAny_mono (law_walk hK hT hX hL hI (by omega) hF hN) (fun f s' hf => ?_) fun _ _ e => e
  obtain ⟨rfl, h1, h2, h3⟩ := hf
  show GoodW _ _ _ _ _ (.ok (.ret (.bool _))) _
  refine ⟨.inl ⟨_, _, _, rfl, raisesW_false ?_, ReadsW.bool true, ?_, ?_⟩, h1, ?_, ?_⟩
  · wrow_none_raised
  · wrow_post
  · exact unshared_nil
  · exact h2
  · exact h3.trans (by assumption)
namespace Mine

end Mine
