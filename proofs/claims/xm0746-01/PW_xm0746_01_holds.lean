import PyProof.Rows.All
import Wide.All
import OpenK.AllK
import Wide.FinOn
import PySem.Challenge.RW_xm0746_01
open PySem PySem.W PyProof.Rows
set_option Elab.async false
namespace Mine
set_option maxRecDepth 100000 in
set_option maxHeartbeats 8000000 in
open_top hd for PySem.Challenge.rw_xm0746_01
end Mine
set_option maxRecDepth 100000

namespace Mine
theorem fresh0 {M : Model} {A : Around} {E : Value → Shared → Prop} {s : Shared} {Q : Value → Shared → Prop} (h : wpAny M A (call (.ref 1) []) Q E s) : wpAny M A (call (.ref 1) []) Q E s := by
  w_top off
  k_with_none
  first | (walk1; fail) | exact h
end Mine

namespace Mine
open PySem.Spec PySem.Calls Builtin Builtin.ObjectAttr
section
variable {prog : Program} {w : World} {A : Around} {E : Value → Shared → Prop} {R : Result → Shared → Prop} {h : Heap} {g : Array GenState} {d : Drawn} {t : Nat} {os : OsState}
variable {nm q : Str} {C N : Addr} {bs bm : List Value} {hdct : Bool} {sn : List Str} {sub : List Value} {ab : Bool} {col : Option Bool} {dd : Option Addr} {k0 k1 k2 k3 k5 : Option Value} {Bn newId inN : String} {bmN : List Value} {K : Frag}

/-- making an own exception: the check of the call of its `__new__` -/
theorem new_check (Fn : ExcBaseFacts Bn newId inN bmN) (hB : bm.contains (.type Bn) = true) {M : Model} {rest : List Value} {Q : Unit → Shared → Prop}
    (hC : h.get? C = some (excClassObj nm q C N bs bm hdct sn sub ab col dd k0 k1 k2 k3 k5 newId)) (hq : Q () ⟨h, g, d, t, os⟩) :
    wpAny M A (checkBuiltinCall newId ⟨.ref C :: rest, []⟩) Q E ⟨h, g, d, t, os⟩ := by
  have hcont : (Value.ref C :: bm).contains (.type Bn) = true := by rw [List.contains_cons, hB, Bool.or_true]
  have hstar := Fn.noStar
  simp only [checkBuiltinCall, Fn.newKind, Fn.newSplit, Fn.newRow]
  repeat (first | refine wpAny_loadPart_at hC ?_ | (refine wpAny_isSubtype_exc hC ?_; rw [hcont]) | refine wpAny_staticBase_exc hC ?_ | refine wpAny_madeBy_exc hC ?_ | simp only [bne_self_eq_false, Bool.false_eq_true, if_false] | wp_step)
  exact hq

theorem new_run (Fn : ExcBaseFacts Bn newId inN bmN) (hB : bm.contains (.type Bn) = true) (hA : bm.contains (.type "AttributeError") = false) (hN : bm.contains (.type "NameError") = false) {rest : List Value}
    (hC : h.get? C = some (excClassObj nm q C N bs bm hdct sn sub ab col dd k0 k1 k2 k3 k5 newId))
    (hq : R (.ok (.ret (.ref (h.objs.size + 1)))) ⟨(h.push { cls := .type "tuple", data := .seq rest.toArray }).push
      { cls := .ref C, data := .fields #[.ref h.objs.size, .none, .none, .none, .bool false, .none] }, g, d, t, os⟩) (hrest : rest.length ≤ sizeLine) :
    codeAny (model prog w) A (.builtin newId ⟨.ref C :: rest, []⟩) R ⟨h, g, d, t, os⟩ := by
  have hends := Fn.ends
  have hcB : (Value.ref C :: bm).contains (.type Bn) = true := by rw [List.contains_cons, hB, Bool.or_true]
  have hcA : (Value.ref C :: bm).contains (.type "AttributeError") = false := by rw [List.contains_cons, hA]; rfl
  have hcN : (Value.ref C :: bm).contains (.type "NameError") = false := by rw [List.contains_cons, hN]; rfl
  refine codeAny_builtinAt Fn.entry ?_
  unfold Builtin.«BaseException.__new__»
  refine PySem.wpAt_bind ?_
  show PySem.wpAt _ _ _ (stack >>= _) _ _ _
  refine PySem.wpAt_bind (PySem.wpAt_stack fun p below => PySem.wpAt_of_wpAny ?_)
  wp_walk
  refine PySem.wpAt_of_wpAny ?_
  rw [Fn.owner]
  repeat (first | with_reducible refine wpAny_madeHere_exc Fn.canon hC ?_ | with_reducible refine wpAny_loadPart_at hC ?_ | (with_reducible refine wpAny_isSubtype_exc hC ?_; first | rw [hcB] | rw [hcA] | rw [hcN]) | wp_step)
  show R _ _
  rw [Heap.size_push]
  exact hq

/-- the call of an own exception class whose `__init__` is a def, found by the written part -/
theorem exc_make0 (Fn : ExcBaseFacts Bn newId inN bmN) (hB : bm.contains (.type Bn) = true) (hA : bm.contains (.type "AttributeError") = false) (hN : bm.contains (.type "NameError") = false) {rest : List Value} {fI : Addr} {Q : PySem.Fin → Shared → Prop}
    (X : K.In h) (hi : findIn K (.ref C) "__init__" = some (some (.ref fI))) (hf : typeIn K (.ref fI) = some (.type "function"))
    (hC : h.get? C = some (excClassObj nm q C N bs bm hdct sn sub ab col dd k0 k1 k2 k3 k5 newId)) (hrest : rest.length ≤ sizeLine)
    (hq : wpAny (model prog w) A (call (.ref fI) (.ref (h.objs.size + 1) :: rest)) (fun r s' => r = .none ∧ Q (.done (.ret (.ref (h.objs.size + 1)))) s') E
      ⟨(h.push { cls := .type "tuple", data := .seq rest.toArray }).push { cls := .ref C, data := .fields #[.ref h.objs.size, .none, .none, .none, .bool false, .none] }, g, d, t, os⟩) :
    wpAny (model prog w) A (Builtin.«type.__call__» ⟨.ref C :: rest, []⟩) Q E ⟨h, g, d, t, os⟩ := by
  repeat (first | with_reducible refine wpAny_loadPart_at hC ?_ | with_reducible refine wpAny_madeBy_exc hC ?_ | wp_step)
  refine codeAny_call_builtin_code (Code.quiet_builtin _ Fn.quiet) (new_check Fn hB hC ?_)
  refine new_run Fn hB hA hN hC ?_ hrest
  show wpAny _ _ _ _ _ _
  have k : ∀ b o, h.get? b = some o → ((h.push { cls := .type "tuple", data := .seq rest.toArray }).push { cls := .ref C, data := .fields #[.ref h.objs.size, .none, .none, .none, .bool false, .none] }).get? b = some o :=
    fun b o e => Heap.get?_push_of_some _ (Heap.get?_push_of_some _ e)
  have hC₁ := k _ _ hC
  have X₁ := X.keeps k
  have hget : ((h.push { cls := .type "tuple", data := .seq rest.toArray }).push
      { cls := .ref C, data := .fields #[.ref h.objs.size, .none, .none, .none, .bool false, .none] }).get? (h.objs.size + 1) = some
      { cls := .ref C, data := .fields #[.ref h.objs.size, .none, .none, .none, .bool false, .none] } := by heap_get
  have hcC : (Value.ref C :: bm).contains (.ref C) = true := by simp
  unfold isInstance
  repeat (first | with_reducible refine wpAny_loadPart_at hget ?_ | (with_reducible refine wpAny_isSubtype_exc hC₁ ?_; rw [hcC]) | wp_step)
  show wpAny _ _ (typeLookup (.ref C) _) _ _ _
  refine (looks_findIn X₁ hi).at ?_
  refine wpAny_holding (wpAny_bind ?_)
  refine (bind_fn X₁ (.ref (h.objs.size + 1)) hf).at ?_
  refine wpAny_bind (wpAny_mono hq (fun r s' hr => ?_) fun _ _ x => x)
  obtain ⟨rfl, hQ⟩ := hr
  wp_walk
  exact hQ

theorem exc_make (Fn : ExcBaseFacts Bn newId inN bmN) (hB : bm.contains (.type Bn) = true) (hA : bm.contains (.type "AttributeError") = false) (hN : bm.contains (.type "NameError") = false) {rest : List Value} {fI : Addr} {Q : Value → Shared → Prop}
    (X : K.In h) (hi : findIn K (.ref C) "__init__" = some (some (.ref fI))) (hf : typeIn K (.ref fI) = some (.type "function"))
    (hC : h.get? C = some (excClassObj nm q C N bs bm hdct sn sub ab col dd k0 k1 k2 k3 k5 newId)) (hrest : rest.length ≤ sizeLine)
    (hq : wpAny (model prog w) (A.under (.builtin "type.__call__" ⟨.ref C :: rest, []⟩)) (call (.ref fI) (.ref (h.objs.size + 1) :: rest)) (fun r s' => r = .none ∧ Q (.ref (h.objs.size + 1)) s') E
      ⟨(h.push { cls := .type "tuple", data := .seq rest.toArray }).push { cls := .ref C, data := .fields #[.ref h.objs.size, .none, .none, .none, .bool false, .none] }, g, d, t, os⟩) :
    wpAny (model prog w) A (call (.ref C) rest) Q E ⟨h, g, d, t, os⟩ := by
  have f1 := tc_lookup
  have f2 := tc_bind (.ref C)
  have hT : (⟨h, g, d, t, os⟩ : Shared).TypeIs (.ref C) "type" := ⟨_, hC, rfl⟩
  refine wpAny_call (codeAny_of_tree ?_)
  show wpAny _ _ (callAny (.ref C) _) _ _ _
  repeat (any_goals (first | assumption | with_reducible refine wpAny_loadPart_at hC ?_ | wp_step))
  refine ⟨rfl, ?_⟩
  exact codeAny_call_builtin_at (Code.quiet_builtin _ (by decide +kernel)) entry_typeCall (wpAny_check_type_call_sub hC (exc_make0 Fn hB hA hN X hi hf hC hrest hq))
end
end Mine

namespace Mine
theorem fresh1 {M : Model} {A : Around} {E : Value → Shared → Prop} {s : Shared} {Q : Value → Shared → Prop} (h : wpAny M A (call (.ref 1) []) Q E s) : wpAny M A (call (.ref 1) []) Q E s := by
  w_top off
  k_with_none
  first | (walk1; fail) | exact h
end Mine

namespace Mine
open PySem.Spec PySem.Calls Builtin Builtin.ObjectAttr
section
variable {prog : Program} {w : World} {A : Around} {E : Value → Shared → Prop} {R : Result → Shared → Prop} {h : Heap} {g : Array GenState} {d : Drawn} {t : Nat} {os : OsState} {K : Frag} {C x : Addr} {cd : ClassData} {name : Str} {v : Value} {vs : Array Value}

/-- an attribute's first store upon an exception: its dict is made -/
theorem set_exc {Q : Unit → Shared → Prop} (X : K.In h) (hc : clsIn K C = some cd) (hdct : cd.hasDict = true) (hsub : mroIn K C (.type "object") = some true)
    (hs : findIn K (.ref C) "__setattr__" = some (some (.builtin "object.__setattr__"))) (hna : findIn K (.ref C) name = some none)
    (hp : refuseLoop (.ref x) "__setattr__" cd.mro = pure ()) (hx : h.get? x = some ⟨.ref C, none, .fields vs, #[]⟩)
    (hq : ∀ h' tk', (∀ b o, b ≠ x → h.get? b = some o → h'.get? b = some o) → h'.get? x = some ⟨.ref C, some h.objs.size, .fields vs, #[]⟩ → Q () ⟨h', g, d, tk', os⟩) :
    wpAny (model prog w) A (setAttr (.ref x) name v) Q E ⟨h, g, d, t, os⟩ := by
  have I : InstAt h x ⟨.ref C, none, .fields vs, #[]⟩ C none := ⟨hx, rfl, rfl, trivial⟩
  have SF := PySem.F.store_object
  refine set_plain (s := ⟨h, g, d, t, os⟩) X I hs ?_
  have sub : Looks (model prog w) h (isInstance (.ref x) (.type "object")) true := I.type.andThen (looks_mroIn X hsub)
  refine codeAny_call_builtin SF.slot.plain SF.entry (@check_slot (model prog w) _ _ ⟨h, g, d, t + 1, os⟩ "object.__setattr__" "object" "__setattr__" (.ref x) [.str name t, v] [] _ SF.kind SF.split sub (SF.args (.ref x) (.str name t) v) ?_)
  have hm : Looks (model prog w) h (mroOf (.ref C)) cd.mro := (looks_clsIn X hc).andThen .now
  rw [osa_eq, refuse_eq]
  refine wpAny_bind (wpAny_bind (I.type.at (wpAny_bind (hm.at ?_))))
  rw [hp]
  refine wpAny_pure (wpAny_bind (I.type.at (wpAny_bind ((looks_findIn X hna).at (wpAny_bind (wpAny_pure ?_))))))
  show wpAny _ _ (storeInOwnDict (.ref x) (.ref C) (.str name t) name v false) _ _ _
  refine wpAny_bind (wpAny_pure (wpAny_bind ?_))
  show wpAny _ _ (instanceDict x true) _ _ _
  refine wpAny_bind (wpAny_loadPart hx (wpAny_bind ((looks_clsIn X hc).at ?_)))
  rw [hdct]
  have hx₁ : (h.push { cls := .type "dict", data := .dict #[] }).get? x = some ⟨.ref C, none, .fields vs, #[]⟩ := Heap.get?_push_of_some _ hx
  have hxs : x ≠ h.objs.size := Nat.ne_of_lt (Heap.lt_size hx)
  refine wpAny_bind (wpAny_alloc (wpAny_bind (wpAny_update hx₁ ?_)))
  refine wpAny_pure ?_
  have hgd : ((h.push { cls := .type "dict", data := .dict #[] }).update x fun o => { o with dict := some h.objs.size }).get? h.objs.size
      = some { cls := .type "dict", data := .dict #[] } :=
    (Heap.get?_update_ne _ _ _ _ hxs.symm).trans (Heap.get?_push_at rfl rfl)
  have hnd : ((h.push { cls := .type "dict", data := .dict #[] }).update x fun o => { o with dict := some h.objs.size }).Ns h.objs.size (fun _ => none) :=
    ⟨_, #[], _, hgd, rfl, fun e he => absurd he (by simp), fun _ => rfl⟩
  show wpAny _ _ (storeInDict h.objs.size (.str name t) name v) _ _ _
  unfold storeInDict newKeyGuard
  refine wpAny_bind (wpAny_pure (wpAny_bind (wpAny_nsSet1 (Heap.Ns1.of_empty hnd) fun h' hn' hs' => ?_)))
  obtain ⟨oD, esD, epD, hoD, hdD, hcD⟩ := hn'.count (Within.cons name v Within.nil)
  refine wpAny_bind (wpAny_lookBehind hoD (by rw [hdD]; exact pastItsLine_dict (Nat.le_trans hcD (by rw [List.length_cons, List.length_nil, sizeLine_eq]; omega))) ?_)
  refine wpAny_pure ?_
  refine hq h' _ (fun b o hb e => ?_) ?_
  · exact (hs'.2 b (Nat.ne_of_lt (Heap.lt_size e))).trans ((Heap.get?_update_ne _ _ _ _ hb).trans (Heap.get?_push_of_some _ e))
  · exact (hs'.2 x hxs).trans (Heap.get?_update_self _ hx₁ rfl)
end

/-- what the making of an own exception with a one-attribute `__init__` leaves -/
structure MadeD (h h' : Heap) (e : Addr) (C : Addr) (args : List Value) : Prop where
  keeps : ∀ b o, h.get? b = some o → h'.get? b = some o
  new : h.get? e = none
  there : ∃ t D, h'.get? e = some ⟨.ref C, some D, .fields #[.ref t, .none, .none, .none, .bool false, .none], #[]⟩ ∧ h.get? t = none ∧
    h'.get? t = some { cls := .type "tuple", data := .seq args.toArray }

section
variable {M : Model} {A : Around} {E : Value → Shared → Prop} {env : Env} {nm q : Str} {C N : Addr} {bs bm : List Value} {hdct : Bool} {sn : List Str} {sub : List Value} {ab : Bool} {col : Option Bool} {dd : Option Addr} {k0 k1 k2 k3 k5 : Option Value} {newId : String}
theorem raise_stmt {s : Shared} {x : Sem Value} {Q : Flow → Shared → Prop} (hbase : bm.contains (.type "BaseException") = true) (hh : A.handled = none)
    (h : wpAny M A x (fun v s₁ => ∃ e t D, v = .ref e ∧ s₁.heap.get? C = some (excClassObj nm q C N bs bm hdct sn sub ab col dd k0 k1 k2 k3 k5 newId) ∧
      s₁.heap.get? e = some ⟨.ref C, some D, .fields #[.ref t, .none, .none, .none, .bool false, .none], #[]⟩ ∧ E (.ref e) s₁) E s) :
    wpAny M A (raiseStmt env (some x) none) Q E s := by
  have hcB : (Value.ref C :: bm).contains (.type "BaseException") = true := by rw [List.contains_cons, hbase, Bool.or_true]
  unfold raiseStmt
  refine wpAny_bind (wpAny_mono h (fun v s₁ h₁ => ?_) fun _ _ x => x)
  obtain ⟨e, t, D, rfl, hC, he, hE⟩ := h₁
  obtain ⟨hp, g, d, tk, os⟩ := s₁
  repeat (first | with_reducible refine wpAny_loadPart_at he ?_ | with_reducible refine wpAny_loadPart_at hC ?_ | (with_reducible refine wpAny_isSubtype_exc hC ?_; rw [hcB]) | wp_step)
  exact wpAny_raiseNew_none hh hE
end

section
variable {M : Model} {A : Around} {E : Value → Shared → Prop} {s' : Shared} {base g g₂ h : Heap} {outer : List Env} {L a e t C : Addr} {m : Str → Option Value} {name : Str} {scope : Scope} {cd : Value} {Q : Unit → Shared → Prop} {news : List (Addr × Obj)}
theorem leaves_madeD {base h : Heap} {env : Env} {outer : List Env} {L e : Addr} {args : List Value}
    (hfr : A.frames = some (env :: outer)) (hf : env.frame = some L) (hkb : base.StaysIn h) (hl : h.FunFrames base (env :: outer)) (hx : MadeD h s'.heap e C args)
    (hQ : ∀ h' t, Heap.FlyingW base outer e (.ref C) (.ref t) h' → h'.TupAt t args → base.get? t = none → s'.heap.UpToSlots h' → Q () { s' with heap := h' }) : wpAny M A (leaving env (.ref e)) Q E s' := by
  obtain ⟨t, D, he, htn, ht⟩ := hx.there
  have fresh : ∀ b, h.get? b = none → base.get? b = none := fun b hb => by
    cases hq : base.get? b with
    | none => rfl
    | some o' => have := hkb b o' hq; rw [hb] at this; cases this
  refine wpAny_leaving_firstW (a0 := .ref t) hfr (hl.of_keeps fun b o hb _ => ⟨o, hx.keeps b o hb, rfl⟩) hf he (fun b o hb => hx.keeps b o (hkb b o hb)) (fresh e hx.new) rfl rfl rfl fun h' hL => ?_
  obtain ⟨k1, ⟨_, _, k2⟩, k3, k4⟩ := hL
  exact hQ h' t ⟨k1, fresh e hx.new, k2, k3⟩ (Heap.TupAt.of_slots ⟨_, _, ht, rfl, rfl⟩ k4) (fresh t htn) k4

theorem leave_raiseD {vs : List Value} (K : Below A base outer g) (hx : MadeD h s'.heap e C vs) (F : Fr g L h m) (N : News g L h news)
    (hQ : ∀ h' t, RaisedS base g outer e (.ref C) t vs news h' → g.UpToSlots h' → Q () { s' with heap := h' }) (hk : scope.kind = .function := by rfl) :
    wpAny M (A.deeper (envOf name scope L a cd)) (leaving (envOf name scope L a cd) (.ref e)) Q E s' := by
  have K' := K.push (name := name) (a := a) (cd := cd) F hk
  have hin : ∀ env ∈ (envOf name scope L a cd :: outer), ∀ b, env.frame = some b → b ∈ (envOf name scope L a cd :: outer).filterMap (·.frame) := fun env he b hb => List.mem_filterMap.mpr ⟨env, he, hb⟩
  have st : base.StaysIn (hideAll h ((envOf name scope L a cd :: outer).filterMap (·.frame))) := fun b o q => hideAll_get _ (K'.stays b o q) fun hm => by
    rw [(K'.frames.mem hm).1] at q; cases q
  have sg : ∀ b o, g.get? b = some o → b ∉ outer.filterMap (·.frame) → (hideAll h ((envOf name scope L a cd :: outer).filterMap (·.frame))).get? b = some o := fun b o q nm => hideAll_get _ (F.keep b o q) fun hm => by
    rcases kts_mem hm with z | z
    · rw [z, kts_self F] at q
      cases q
    · exact nm z
  have hl : ∀ q ∈ news, (hideAll h ((envOf name scope L a cd :: outer).filterMap (·.frame))).get? q.1 = some q.2 ∧ g.get? q.1 = none ∧ base.get? q.1 = none := fun q hq => by
    refine ⟨hideAll_get _ (N q hq).1 fun hm => ?_, (N q hq).2.2, fresh_of_stays K.stays (N q hq).2.2⟩
    obtain ⟨env, he, hf⟩ := List.mem_filterMap.mp hm
    rcases List.mem_cons.mp he with rfl | he
    · exact (N q hq).2.1 (Option.some.inj hf).symm
    · obtain ⟨o, ho, _⟩ := (K.frames.mem (List.mem_filterMap.mpr ⟨env, he, hf⟩)).2
      rw [(N q hq).2.2] at ho; cases ho
  exact leaves_madeD K'.stack rfl (fun b o q => of_hideAll _ q) (funFrames_hide K'.frames hin) hx fun h' t x1 x2 x3 x4 =>
    hQ h' t ⟨⟨_, st, sg, hl, x1, x3⟩, x2⟩ (((Heap.UpToSlots.of_keeps F.keep).trans (Heap.UpToSlots.of_keeps hx.keeps)).trans x4)
end
end Mine

namespace Mine
theorem fresh2 {M : Model} {A : Around} {E : Value → Shared → Prop} {s : Shared} {Q : Value → Shared → Prop} (h : wpAny M A (call (.ref 1) []) Q E s) : wpAny M A (call (.ref 1) []) Q E s := by
  w_top off
  k_with_none
  first | (walk1; fail) | exact h
end Mine

namespace Mine
open PySem.Spec PySem.Calls

/-- a frame's names, written out -/
def mapOf : List (Str × Value) → Str → Option Value
  | [], _ => none
  | (k, v) :: r, y => if y = k then some v else mapOf r y
theorem lookup_mapOf (y : Str) : ∀ l : List (Str × Value), l.lookup y = mapOf l y
  | [] => rfl
  | (k, v) :: r => by
    show (match y == k with | true => some v | false => r.lookup y) = if y = k then some v else mapOf r y
    by_cases h : y = k
    · simp [h]
    · have : (y == k) = false := by simpa using h
      simp [h, this, lookup_mapOf y r]

section
variable {prog : Program} {w : World} {A : Around} {E : Value → Shared → Prop} {s : Shared} {base h₀ : Heap} {outer : List Env} {env : Env} {L : Addr} {m mg mb : Str → Option Value} {mean : ExcName → Option Value} {news : List (Addr × Obj)} {A₀ : Around}
  {K : Frag} {p : Program} {loose : List Str} {R : Result → Shared → Prop} {name qual : Str} {params : Arguments} {body : List Stmt} {scope : Scope} {dV kV doc pm cdv ct oc : Value} {an od : Option Addr} {osl : Array (Option Value)} {f : Addr} {args : Args} {binds : List (Str × Value)}
/-- a def entered, its frame written out, its clock a letter -/
theorem code_tidy (bl : List (Str × Value)) (B : Below A₀ base outer h₀) (F : Fr h₀ L s.heap m) (X₀ : K.In h₀) (N : News h₀ L s.heap news) (T : Top p loose mean mg mb h₀) (hA : A.frames = some (env :: outer)) (hf : env.frame = some L) (hke : env.scope.kind = .function)
    (ho : K.lookup f = some ⟨oc, od, .func (fnOf name qual params body scope dV kV doc pm an cdv ct), osl⟩) (hcd : codeIn K cdv qual = true) (hroom : A.depth < recursionLimit)
    (hbind : BindsTo s (fnOf name qual params body scope dV kV doc pm an cdv ct) args binds) (hbl : binds.reverse = bl) (hloc : ∀ y ∈ binds, scope.names.lookup y.1 = some .local)
    (h : ∀ g L' h₁ tk, Fr h₀ L g m → Fr g L' h₁ (fun y => mapOf bl y) → News g L' h₁ news → Below A base (env :: outer) g → K.In g → Top p loose mean mg mb g →
      wpAny (model prog w) (A.deeper (envOf qual scope L' f cdv)) (execs body (envOf qual scope L' f cdv))
        (fun fl s' => LeaveK h₀ L m g R (match fl with | .ret v => v | _ => .none) s')
        (fun e s' => wpAny (model prog w) (A.deeper (envOf qual scope L' f cdv)) (leaving (envOf qual scope L' f cdv) e) (fun _ s'' => R (.error e) s'') (fun e' s'' => R (.error e') s'') s')
        { s with heap := h₁, toks := tk })
    (hco : scope.isCoroutine = false) (hgen : scope.isGenerator = false) (hk : scope.kind = .function)
    (hcell : ∀ x ∈ scope.names, x.2 ≠ .cell) : codeAny (model prog w) A (.call (.ref f) args) R s :=
  code_def B F X₀ N T hA hf hke ho hcd hroom hbind hloc (fun g L' h₁ FG F' N' B' X' T' => h g L' h₁ _ FG ((funext fun y => by rw [hbl, lookup_mapOf] : (fun y => binds.reverse.lookup y) = fun y => mapOf bl y) ▸ F') N' B' X' T') hco hgen hk hcell
end
end Mine

namespace Mine
theorem fresh3 {M : Model} {A : Around} {E : Value → Shared → Prop} {s : Shared} {Q : Value → Shared → Prop} (h : wpAny M A (call (.ref 1) []) Q E s) : wpAny M A (call (.ref 1) []) Q E s := by
  w_top off
  k_with_none
  first | (walk1; fail) | exact h
end Mine

namespace Mine
open PySem.Spec PySem.Calls Builtin Builtin.ObjectAttr

abbrev excObj (C t D : Addr) : Obj := ⟨.ref C, some D, .fields #[.ref t, .none, .none, .none, .bool false, .none], #[]⟩
abbrev tupObj (vs : List Value) : Obj := { cls := .type "tuple", data := .seq vs.toArray }

theorem fr_but {g h h' : Heap} {L e : Addr} {m : Str → Option Value} (F : Fr g L h m) (k : ∀ b o, b ≠ e → h.get? b = some o → h'.get? b = some o) (ne : e ≠ L) (hg : g.get? e = none) : Fr g L h' m :=
  ⟨let ⟨o, es, ep, e1, r⟩ := F.ns; ⟨o, es, ep, k _ _ (Ne.symm ne) e1, r⟩, fun b o q => k b o (fun z => by rw [z, hg] at q; cases q) (F.keep b o q), F.above⟩

theorem cls44 (w : World) : ∃ nm qn N bs hdct sn sub ab col dd k0 k1 k2 k3 k5, (hd.heap_39 w.params).lookup 44 = some (excClassObj nm qn 44 N bs [.ref 31, .type "Exception", .type "BaseException", .type "object"] hdct sn sub ab col dd k0 k1 k2 k3 k5 "Exception.__new__") :=
  ⟨_, _, _, _, _, _, _, _, _, _, _, _, _, _, _, rfl⟩

section
variable {w : World} {A : Around} {E : Value → Shared → Prop} {s : Shared} {base h₀ : Heap} {outer : List Env} {env : Env} {L : Addr} {m mg mb : Str → Option Value} {mean : ExcName → Option Value} {news : List (Addr × Obj)} {A₀ : Around}

set_option maxHeartbeats 4000000 in
theorem init_run {e t : Addr} {v : Value} {Q : Value → Shared → Prop} (B : Below A₀ base outer h₀) (F : Fr h₀ L s.heap m) (X : (hd.heap_39 w.params).In h₀)
    (N : News h₀ L s.heap ((e, ⟨.ref 44, none, .fields #[.ref t, .none, .none, .none, .bool false, .none], #[]⟩) :: (t, tupObj [v]) :: news))
    (T : Top hd.view_39 (looseW hd.view_39 [Str.ofString "WORD"]) mean mg mb h₀)
    (hA : A.frames = some (env :: outer)) (hf : env.frame = some L) (hk : env.scope.kind = .function) (hroom : A.depth < recursionLimit)
    (hq : ∀ D h' tk', Fr h₀ L h' m → News h₀ L h' ((e, excObj 44 t D) :: (t, tupObj [v]) :: news) → Q .none { s with heap := h', toks := tk' }) (l1 : ∀ p ∈ news, p.1 < t) (l2 : t < e) :
    wpAny (model PySem.Challenge.rw_xm0746_01.row.prog w) A (call (.ref 28) [.ref e, v]) Q E s := by
  revert X; k_fill; intro X
  refine wpAny_call ?_
  refine' code_tidy [(Str.ofString "message", v), (Str.ofString "self", .ref e)] B F X N T hA hf hk ?k6 ?k7 hroom ?k9 ?kl ?kB ?_ ?c2 ?c3 ?c4 ?c5
  case k6 => k_is
  case k7 => k_is
  case k9 => exact BindsTo.of_eq rfl
  case kl => exact rfl
  case kB => exact locs rfl
  case c2 => exact rfl
  case c3 => exact rfl
  case c4 => exact rfl
  case c5 => decide
  intro g' L' h' tk' FG' F' N' B' X' T'
  dsimp only [mapOf] at F'
  try dsimp only
  k_steps
  have ho : (e, (⟨.ref 44, none, .fields #[.ref t, .none, .none, .none, .bool false, .none], #[]⟩ : Obj)) ∈ (e, (⟨.ref 44, none, .fields #[.ref t, .none, .none, .none, .bool false, .none], #[]⟩ : Obj)) :: (t, tupObj [v]) :: news := .head _
  refine' set_exc (K := hd.heap_39 w.params) (C := 44) (X'.keeps F'.keep) ?e1 ?e2 ?e3 ?e4 ?e5 ?e6 (N' _ ho).1 ?_
  case e1 => k_is
  case e2 => rfl
  case e3 => k_is
  case e4 => k_is
  case e5 => k_is
  case e6 => exact (refuseLoop_ref _ _ _ _).trans ((refuseLoop_ref _ _ _ _).trans (PySem.F.store_Exception.passes _))
  intro h'' tk' hk' hx'
  have F'' := fr_but F' hk' (N' _ ho).2.1 (N' _ ho).2.2
  have N'' : News g' L' h'' ((e, excObj 44 t h'.objs.size) :: (t, tupObj [v]) :: news) := fun p hp => by
    rcases List.mem_cons.mp hp with rfl | hp
    · exact ⟨hx', (N' _ ho).2⟩
    · have := N' p (.tail _ hp)
      refine ⟨hk' _ _ (fun z => ?_) this.1, this.2⟩
      rcases List.mem_cons.mp hp with rfl | hp
      · exact absurd z (Nat.ne_of_lt l2)
      · exact absurd z (Nat.ne_of_lt (Nat.lt_trans (l1 _ hp) l2))
  dsimp only
  k_steps
  exact hq _ _ _ (by assumption) (by assumption)

set_option maxHeartbeats 4000000 in
/-- raise CorruptError(..): the statement -/
theorem raise_corrupt {name : Str} {scope : Scope} {a : Addr} {cd : Value} {e₀ : Expr} {x : Str} {np cpos pos : Pos} {Q : Flow → Shared → Prop} (B : Below A₀ base outer h₀) (F : Fr h₀ L s.heap m) (X : (hd.heap_39 w.params).In h₀) (N : News h₀ L s.heap news)
    (T : Top hd.view_39 (looseW hd.view_39 [Str.ofString "WORD"]) mean mg mb h₀) (hx' : x = Str.ofString "CorruptError")
    (hA : A.frames = some (env :: outer)) (hf : env.frame = some L) (hke : env.scope.kind = .function) (hh : A.handled = none) (hroom : A.depth + 2 < recursionLimit)
    (h : wpAny (model PySem.Challenge.rw_xm0746_01.row.prog w) A (spliced (backTo cpos (starEach [e₀] (envOf name scope L a cd)))) (fun vs s₂ => ∃ v, vs = [v] ∧ (Fr h₀ L s₂.heap m ∧ News h₀ L s₂.heap news) ∧
      ∀ e t D h' tk', Fr h₀ L h' m → News h₀ L h' ((e, excObj 44 t D) :: (t, tupObj [v]) :: news) → (∀ p ∈ news, p.1 < t) → t < e → E (.ref e) { s₂ with heap := h', toks := tk' }) E s)
    (he : starEach [e₀] (envOf name scope L a cd) = [(false, eval e₀ (envOf name scope L a cd))] := by rfl)
    (hk : scope.kind = .function := by rfl) (hx : (envOf name scope L a cd).kindOf x = some .globalImplicit := by rfl) (hdb : (x == ("__debug__" : Str)) = false := by decide) :
    wpAny (model PySem.Challenge.rw_xm0746_01.row.prog w) A (exec (.Raise (some (.Call (.Name x np) [e₀] [] cpos)) none pos) (envOf name scope L a cd)) Q E s := by
  revert X; k_fill; intro X
  obtain ⟨nm, qn, N', bs, hdct, sn, sub, ab, col, dd, k0, k1, k2, k3, k5, hl⟩ := cls44 w
  rw [arm_exec_Raise]
  first
    | refine wpAny_bind (wpAny_standAt (raise_stmt (C := 44) (nm := nm) (q := qn) (N := N') (bs := bs) (bm := [.ref 31, .type "Exception", .type "BaseException", .type "object"]) (hdct := hdct) (sn := sn) (sub := sub) (ab := ab) (col := col) (dd := dd) (k0 := k0) (k1 := k1) (k2 := k2) (k3 := k3) (k5 := k5) (newId := "Exception.__new__") (by decide) hh ?_))
    | (simp only [evalOpt, Option.map]; refine wpAny_bind (wpAny_standAt (raise_stmt (C := 44) (nm := nm) (q := qn) (N := N') (bs := bs) (bm := [.ref 31, .type "Exception", .type "BaseException", .type "object"]) (hdct := hdct) (sn := sn) (sub := sub) (ab := ab) (col := col) (dd := dd) (k0 := k0) (k1 := k1) (k2 := k2) (k3 := k3) (k5 := k5) (newId := "Exception.__new__") (by decide) hh ?_)))
  subst hx'
  refine wpAny_bind (wpAny_mono (Q := fun v s₁ => ∃ e t D, v = Value.ref e ∧ s₁.heap.get? 44 = some (excClassObj nm qn 44 N' bs [.ref 31, .type "Exception", .type "BaseException", .type "object"] hdct sn sub ab col dd k0 k1 k2 k3 k5 "Exception.__new__") ∧
      s₁.heap.get? e = some (excObj 44 t D) ∧ E (.ref e) s₁) (wpAny_Call_ofName ?_) (fun v s₃ h₃ => wpAny_bind (wpAny_standAt (wpAny_pure h₃))) fun _ _ x => x)
  refine name_K F X (topRead_of T) (by k_is) ?_ hk hx hdb
  unfold callWith
  refine wpAny_bind (wpAny_holding ?_)
  rw [he] at h ⊢
  refine Calls.evalArgs_plain (wpAny_mono h (fun vs s₂ h₂ => ?_) fun _ _ x => x)
  obtain ⟨v, rfl, ⟨F₂, N₂⟩, hE⟩ := h₂
  refine wpAny_bind (wpAny_standAt ?_)
  obtain ⟨hp, g, d, tk, os⟩ := s₂
  have X₂ := X.keeps F₂.keep
  have hC := X₂ _ _ hl
  have hplain : (backTo cpos [(false, eval e₀ (envOf name scope L a cd))]).any (·.1) = false := rfl
  simp only [hplain]
  refine wpAny_bind (wpAny_keeperOf_exc hC ?_)
  have N₃ := (N₂.push F₂ (tupObj [v])).push (F₂.push _) (⟨.ref 44, none, .fields #[.ref hp.objs.size, .none, .none, .none, .bool false, .none], #[]⟩)
  rw [Heap.size_push] at N₃
  have F₃ := (F₂.push (tupObj [v])).push (⟨.ref 44, none, .fields #[.ref hp.objs.size, .none, .none, .none, .bool false, .none], #[]⟩)
  have hlt : ∀ p ∈ news, p.1 < hp.objs.size := fun p hp' => Heap.lt_size (N₂ p hp').1
  refine wpAny_bind (exc_make (K := hd.heap_39 w.params) (fI := 28) PySem.F.excBase_Exception (by decide) (by decide) (by decide) X₂ (by k_is) (by k_is) hC (by rw [PySem.sizeLine_eq]; simp) ?_)
  refine init_run (A₀ := A₀) (env := env) (outer := outer) (base := base) (h₀ := h₀) (L := L) (m := m) (t := hp.objs.size) B F₃ X N₃ T hA hf hke ?_ ?_ hlt (Nat.lt_succ_self _)
  · simp only [depth_under_make, depth_under_kw]
    omega
  intro D h' tk' F' N₄
  refine ⟨rfl, wpAny_bind (wpAny_holding (wpAny_point (wpAny_pure ?_)))⟩
  have N44 : h'.get? 44 = some (excClassObj nm qn 44 N' bs [.ref 31, .type "Exception", .type "BaseException", .type "object"] hdct sn sub ab col dd k0 k1 k2 k3 k5 "Exception.__new__") := (X.keeps F'.keep) _ _ hl
  exact ⟨_, _, D, rfl, N44, (N₄ _ (.head _)).1, hE _ _ D h' tk' F' N₄ hlt (Nat.lt_succ_self _)⟩
end
end Mine

namespace Mine
theorem fresh4 {M : Model} {A : Around} {E : Value → Shared → Prop} {s : Shared} {Q : Value → Shared → Prop} (h : wpAny M A (call (.ref 1) []) Q E s) : wpAny M A (call (.ref 1) []) Q E s := by
  w_top off
  k_with_none
  first | (walk1; fail) | exact h
end Mine

namespace Mine
open PySem.Spec PySem.Calls Builtin Builtin.ObjectAttr

/-- a mark: the walk stops here -/
def Stop (P : Prop) : Prop := P
theorem stop {P : Prop} (h : Stop P) : P := h
section
variable {M : Model} {A : Around} {E : Value → Shared → Prop} {s' : Shared} {base g : Heap} {outer : List Env} {L a e t D C : Addr} {m : Str → Option Value} {name : Str} {scope : Scope} {cd : Value} {Q : Unit → Shared → Prop} {news : List (Addr × Obj)}
theorem leave_D {vs : List Value} (K : Below A base outer g) (F : Fr g L s'.heap m) (N : News g L s'.heap ((e, excObj C t D) :: (t, tupObj vs) :: news)) (l1 : ∀ p ∈ news, p.1 < t) (l2 : t < e)
    (hQ : ∀ h' t, RaisedS base g outer e (.ref C) t vs news h' → g.UpToSlots h' → Q () { s' with heap := h' }) (hk : scope.kind = .function := by rfl) :
    wpAny M (A.deeper (envOf name scope L a cd)) (leaving (envOf name scope L a cd) (.ref e)) Q E s' := by
  have ne : (e : Nat) ≠ t := Nat.ne_of_gt l2
  have Ne' := N _ (.head _)
  have Nt' := N _ (.tail _ (.head _))
  have off : ∀ b, b ≠ e → b ≠ t → b ∉ [e, t] := fun b h1 h2 hm => by
    rcases List.mem_cons.mp hm with z | hm
    · exact h1 z
    · exact h2 (List.mem_singleton.mp hm)
  obtain ⟨oL, es, ep, hL, rL⟩ := F.ns
  have F₁ : Fr g L (hideAll s'.heap [e, t]) m := ⟨⟨oL, es, ep, hideAll_get _ hL (off _ (Ne.symm Ne'.2.1) (Ne.symm Nt'.2.1)), rL⟩, fun b o q => hideAll_get _ (F.keep b o q) (off _ (fun z => by rw [z, Ne'.2.2] at q; cases q) (fun z => by rw [z, Nt'.2.2] at q; cases q)), F.above⟩
  have N₁ : News g L (hideAll s'.heap [e, t]) news := fun p hp => by
    have P := N p (.tail _ (.tail _ hp))
    have hlt := l1 p hp
    exact ⟨hideAll_get _ P.1 (off _ (Nat.ne_of_lt (Nat.lt_trans hlt l2)) (Nat.ne_of_lt hlt)), P.2⟩
  refine leave_raiseD (h := hideAll s'.heap [e, t]) K ⟨fun b o q => of_hideAll _ q, hideAll_none _ (.head _), t, D, Ne'.1, hideAll_none _ (.tail _ (.head _)), Nt'.1⟩ F₁ N₁ hQ hk
theorem raised_sub {base G : Heap} {l : List Env} {e t : Addr} {cls : Value} {vs : List Value} {news news' : List (Addr × Obj)} {h : Heap} (R : RaisedS base G l e cls t vs news h) (hs : ∀ p ∈ news', p ∈ news) : RaisedS base G l e cls t vs news' h := by
  obtain ⟨⟨B, hB, hG, hl, hfl, hnew⟩, htup⟩ := R
  exact ⟨⟨B, hB, hG, fun q hq => hl q (hs q hq), hfl, hnew⟩, htup⟩
end
open PySem.W.KBw
section
variable {prog : Program} {w : World} {A : Around} {E : Value → Shared → Prop} {s : Shared} {b : Array UInt8} {t ui : Tok} {i : Int} {value slice : PySem.Expr} {Q : Value → Shared → Prop}
/-- an octet at a place in bounds: a letter -/
theorem octet_at (hfit : b.size ≤ 1099511627776) (h0 : 0 ≤ i) (h1 : i < (b.size : Int))
    (h : ∀ t' k o, (bInts b)[i.toNat]? = some o → 0 ≤ o → o < 256 → Q (.int o t') { s with toks := k })
    (hs : subscripted slice false (.bytes b t) (.int i ui) = operate [.bytes b t, .int i ui] (getItem (.bytes b t) (.int i ui)) := by with_unfolding_all rfl)
    (ht : ∀ r, letTemporaryGo value (.bytes b t) r = pure () := by intro _; with_unfolding_all rfl) : wpAny (model prog w) A (subscriptTail value slice (.bytes b t) (.int i ui)) Q E s := by
  refine item_K (ks := bInts b) rfl (by rw [ints_length]; exact hfit) h0 (by rw [ints_length]; exact h1) (fun t' k h2 h3 => ?_) hs ht
  refine h t' k _ ?_ h2 h3
  have : i.toNat < (bInts b).length := by rw [ints_length]; omega
  rw [List.getD_eq_getElem?_getD, List.getElem?_eq_getElem this]
  rfl
end
theorem or_low {n x : Int} {k : Nat} (hn : 0 ≤ n) (hx : 0 ≤ x) (hk : x < 2 ^ k) : Builtin.bitOr (n * 2 ^ k) x = n * 2 ^ k + x := by
  have h0 : (0 : Int) ≤ n * 2 ^ k := Int.mul_nonneg hn (Int.le_of_lt (kbt_pos k))
  have key : Builtin.bitAnd (n * 2 ^ k) x = 0 := by
    rw [bitAnd_pp h0 hx]
    have e1 : (n * 2 ^ k).toNat = n.toNat * 2 ^ k := by
      have h1 : ((n.toNat * 2 ^ k : Nat) : Int) = n * 2 ^ k := by rw [Int.natCast_mul, kbt_cast, Int.toNat_of_nonneg hn]
      omega
    have e2 : x.toNat < 2 ^ k := by
      have h2 := kbt_cast k
      omega
    have e3 : n.toNat * 2 ^ k &&& x.toNat = 0 := by
      refine Nat.eq_of_testBit_eq fun i => ?_
      rw [Nat.testBit_and, Nat.testBit_mul_two_pow, Nat.zero_testBit]
      by_cases hi : k ≤ i
      · have : x.toNat.testBit i = false := Nat.testBit_lt_two_pow (Nat.lt_of_lt_of_le e2 (Nat.pow_le_pow_right (by decide) hi))
        rw [this, Bool.and_false]
      · simp [hi]
    rw [e1, e3]
    rfl
  rw [PyProof.Rows.bitOr_and, key]
  omega
end Mine

namespace Mine
theorem fresh5 {M : Model} {A : Around} {E : Value → Shared → Prop} {s : Shared} {Q : Value → Shared → Prop} (h : wpAny M A (call (.ref 1) []) Q E s) : wpAny M A (call (.ref 1) []) Q E s := by
  w_top off
  k_with_none
  first | (walk1; fail) | exact h
end Mine

namespace Mine
open PySem.Spec PySem.Calls Builtin Builtin.ObjectAttr PySem.W.KBw

/-- what get_varint reads of octets: k places are left, n so far, at the place a -/
def gv (bs : List Int) : Nat → Int → Nat → Option (Int × Nat)
  | 0, _, _ => none
  | k + 1, n, a => match bs[a]? with
    | none => none
    | some o => if k = 0 then some (n * 256 + o, a + 1)
      else if o < 128 then some (n * 128 + o, a + 1) else gv bs k (n * 128 + o % 128) (a + 1)

theorem gv_end {bs : List Int} {k : Nat} {n : Int} {a : Int} (h : (bs.length : Int) ≤ a) : gv bs k n a.toNat = none := by
  cases k with
  | zero => rfl
  | succ k =>
    have : bs[a.toNat]? = none := List.getElem?_eq_none (by omega)
    simp [gv, this]
theorem gv_last {bs : List Int} {n o a : Int} (h : bs[a.toNat]? = some o) (ha : 0 ≤ a) : gv bs 1 n a.toNat = some (n * 256 + o, (a + 1).toNat) := by
  have e : (a + 1).toNat = a.toNat + 1 := by omega
  simp [gv, h, e]
theorem gv_stop {bs : List Int} {k : Nat} {n o a : Int} (h : bs[a.toNat]? = some o) (ha : 0 ≤ a) (hk : 1 < k) (ho : o < 128) : gv bs k n a.toNat = some (n * 128 + o, (a + 1).toNat) := by
  have e : (a + 1).toNat = a.toNat + 1 := by omega
  obtain ⟨j, rfl⟩ : ∃ j, k = j + 2 := ⟨k - 2, by omega⟩
  simp [gv, h, ho, e]
theorem gv_next {bs : List Int} {k : Nat} {n o a : Int} (h : bs[a.toNat]? = some o) (ha : 0 ≤ a) (hk : 1 < k) (ho : ¬ o < 128) : gv bs k n a.toNat = gv bs (k - 1) (n * 128 + o % 128) (a + 1).toNat := by
  have e : (a + 1).toNat = a.toNat + 1 := by omega
  obtain ⟨j, rfl⟩ : ∃ j, k = j + 2 := ⟨k - 2, by omega⟩
  simp [gv, h, ho, e]
theorem low7 {o : Int} : Builtin.bitAnd o 127 = o % 128 := kbt_mask o 7
theorem or7 {n o : Int} (hn : 0 ≤ n) : Builtin.bitOr (n * 2 ^ (7 : Int).toNat) (Builtin.bitAnd o 127) = n * 128 + o % 128 := by
  have h1 := Int.emod_nonneg o (show (128 : Int) ≠ 0 by decide)
  have h2 := Int.emod_lt_of_pos o (show (0 : Int) < 128 by decide)
  rw [low7]
  exact or_low (k := 7) hn h1 h2
theorem or8 {n o : Int} (hn : 0 ≤ n) (h1 : 0 ≤ o) (h2 : o < 256) : Builtin.bitOr (n * 2 ^ (8 : Int).toNat) o = n * 256 + o := or_low (k := 8) hn h1 h2

theorem pow128 : ∀ l : Nat, l < 8 → (128 : Int) ^ (l + 1) ≤ 72057594037927936 := by decide
theorem gv_turn {bs : List Int} {pre : List Int} {n o a k : Int} {X : Option (Int × Nat)} (h1 : 0 ≤ n) (h2 : n < 128 ^ pre.length) (h3 : 0 ≤ a) (hX : X = gv bs (9 - pre.length) n a.toNat) (ho : bs[a.toNat]? = some o) (hk : k = 0 + (pre.length : Int))
    (hl : pre.length < (9 - 0 : Int).toNat) (hne : k ≠ 8) (hno : ¬ o < 128) :
    (0 ≤ Builtin.bitOr (n * 2 ^ (7 : Int).toNat) (Builtin.bitAnd o 127) ∧ Builtin.bitOr (n * 2 ^ (7 : Int).toNat) (Builtin.bitAnd o 127) < 9223372036854775808 ∧
      Builtin.bitOr (n * 2 ^ (7 : Int).toNat) (Builtin.bitAnd o 127) < 128 ^ (pre ++ [k]).length) ∧ 0 ≤ a + 1 ∧ X = gv bs (9 - (pre ++ [k]).length) (Builtin.bitOr (n * 2 ^ (7 : Int).toNat) (Builtin.bitAnd o 127)) (a + 1).toNat := by
  have hl8 : pre.length < 8 := by omega
  have p := pow128 _ hl8
  have e1 := Int.emod_nonneg o (show (128 : Int) ≠ 0 by decide)
  have e2 := Int.emod_lt_of_pos o (show (0 : Int) < 128 by decide)
  rw [or7 h1, List.length_append, List.length_singleton]
  have hp : (128 : Int) ^ (pre.length + 1) = 128 ^ pre.length * 128 := Int.pow_succ ..
  refine ⟨⟨by omega, by omega, by omega⟩, by omega, ?_⟩
  rw [hX, gv_next ho h3 (by omega) hno]
  have : 9 - pre.length - 1 = 9 - (pre.length + 1) := by omega
  rw [this]
theorem news_head {h₀ h : Heap} {L : Addr} {x : Addr × Obj} {a b : List (Addr × Obj)} (N : News h₀ L h (x :: (a ++ b))) : News h₀ L h (x :: a) := fun p hp => N p (by
  rcases List.mem_cons.mp hp with rfl | hp
  · exact .head _
  · exact .tail _ (List.mem_append_left _ hp))
theorem lt_left {T : Addr} {a b : List (Addr × Obj)} (l : ∀ p ∈ a ++ b, p.1 < T) : ∀ p ∈ a, p.1 < T := fun p hp => l p (List.mem_append_left _ hp)

section
variable {w : World} {E : Value → Shared → Prop} {s : Shared} {base h₀ : Heap} {outer : List Env} {env : Env} {L : Addr} {m mg mb : Str → Option Value} {mean : ExcName → Option Value} {news : List (Addr × Obj)} {A₀ A : Around}

local macro_rules | `(tactic| walk_at "exec Raise some none") => `(tactic| (k_here; k_dflt (refine' raise_corrupt ?B ?F ?X ?N ?T ?hx ?hA ?hf ?hke ?hh ?hr ?_ ?he ?hk ?hx2 ?hdb; (case B => k_asm); (case F => k_asm); (case X => k_asm); (case N => k_asm); (case T => k_asm); (case hx => rfl); (case hA => rfl); (case hf => rfl); (case hke => rfl); (case hh => rfl); (case hr => (simp only [depth_deeper]; omega)); (case he => rfl); (case hk => rfl); (case hx2 => rfl); (case hdb => decide); k_whole)))
local macro_rules | `(tactic| walk_at "Exists") => `(tactic| (refine ⟨_, rfl, ⟨by k_asm, by k_asm⟩, ?_⟩; intro e' t' D' h' tk' F' N' l1' l2'))
local macro_rules | `(tactic| walk_at "leaving ref") => `(tactic| (k_here; refine' leave_D ?K ?F ?N ?l1 ?l2 ?_; (case K => k_asm); (case F => k_asm); (case N => k_asm); (case l1 => k_asm); (case l2 => k_asm); intro h' t' R' U'))
local macro_rules | `(tactic| walk_at "subscriptTail") => `(tactic| (k_here; (with_reducible show wpAny _ _ (subscriptTail _ _ (Value.bytes _ _) (Value.int _ _)) _ _ _); refine octet_at (by omega) (by omega) (by omega) ?_; intro t' k' o' ho' hlo' hhi'))

set_option maxHeartbeats 8000000 in
theorem get_varint_spec {bs : Array UInt8} {tb ta : Tok} {a₀ : Int} {Q : Value → Shared → Prop} (B : Below A₀ base outer h₀) (F : Fr h₀ L s.heap m) (X : (hd.heap_39 w.params).In h₀)
    (N : News h₀ L s.heap news) (T : Top hd.view_39 (looseW hd.view_39 [Str.ofString "WORD"]) mean mg mb h₀)
    (hA : A.frames = some (env :: outer)) (hf : env.frame = some L) (hke : env.scope.kind = .function) (hh : A.handled = none) (hroom : A.depth + 20 < recursionLimit) (hun : A.units + 200 < cLine)
    (hsz : bs.size ≤ 1000) (h0 : 0 ≤ a₀)
    (ret : ∀ (n a : Int) T t1 t2 h' tk', gv (bInts bs) 9 0 a₀.toNat = some (n, a.toNat) → 0 ≤ a → Fr h₀ L h' m → News h₀ L h' ((T, tupObj [.int n t1, .int a t2]) :: news) → (∀ p ∈ news, p.1 < T) → Q (.ref T) { s with heap := h', toks := tk' })
    (err : ∀ e t vs g h' tk', gv (bInts bs) 9 0 a₀.toNat = none → Fr h₀ L g m → RaisedS base g (env :: outer) e (.ref 44) t vs news h' → g.UpToSlots h' → E (.ref e) { s with heap := h', toks := tk' }) :
    wpAny (model PySem.Challenge.rw_xm0746_01.row.prog w) A (call (.ref 60) [.bytes bs tb, .int a₀ ta]) Q E s := by
  revert X; k_fill; intro X
  obtain ⟨hd', dp, fr, gd, un⟩ := A
  dsimp only at hA hh hroom hun
  subst hA hh
  have kMk := kstMark
  refine wpAny_call ?_
  refine' code_tidy [(Str.ofString "at", .int a₀ ta), (Str.ofString "octets", .bytes bs tb)] B F X N T rfl hf hke ?k6 ?k7 ?k8 ?k9 ?kl ?kB ?_ ?c2 ?c3 ?c4 ?c5
  case k6 => k_is
  case k7 => k_is
  case k8 => show dp < _; omega
  case k9 => exact BindsTo.of_eq rfl
  case kl => exact rfl
  case kB => exact locs rfl
  case c2 => exact rfl
  case c3 => exact rfl
  case c4 => exact rfl
  case c5 => decide
  intro g' L' h' tk' FG' F' N' B' X' T'
  dsimp only [mapOf] at F'
  try dsimp only
  (try k_fold)
  k_with "pyIter ref" => k_state (fun pre n a => (0 ≤ n ∧ n < 9223372036854775808 ∧ n < 128 ^ pre.length) ∧ 0 ≤ a ∧ gv (bInts bs) 9 0 a₀.toNat = gv (bInts bs) (9 - pre.length) n a.toNat) "number" "at"
  k_with "state" => exact gv_turn (by assumption) (by assumption) (by assumption) (by assumption) (by assumption) (by assumption) (by assumption) (by assumption) (by assumption)
  k_steps
  all_goals first
    | (refine err _ _ _ _ _ _ ?_ FG' (raised_sub (by assumption) (fun p hp => List.mem_append_left _ hp)) (by assumption))
    | (refine err _ _ _ _ _ _ ?_ FG' (by assumption) (by assumption))
    | (refine ret _ _ _ _ _ _ _ ?_ ?_ (by assumption) (news_head (by assumption)) (lt_left (by assumption)); rotate_left; omega)
    | skip
  all_goals (rename (gv _ _ _ _ = gv _ _ _ _) => hP; rw [hP])
  · exact gv_end (by rw [ints_length]; omega)
  · rw [or8 (by assumption) (by assumption) (by assumption)]
    rename (_ = (8 : Int)) => h8
    have e9 : 9 - kPre.length = 1 := by omega
    rw [e9]
    exact gv_last (by assumption) (by assumption)
  · rw [or7 (by assumption)]
    rename (_ ≠ (8 : Int)) => h8
    rename (_ < (128 : Int)) => h9
    rw [gv_stop (by assumption) (by assumption) (by omega) h9]
    rename (_ ≤ _ ) => hlo
    have e9 := Int.emod_eq_of_lt (by assumption) h9
    rw [e9]
  · simp [rangeKs_length, gv]
end
end Mine

namespace Mine
theorem fresh6 {M : Model} {A : Around} {E : Value → Shared → Prop} {s : Shared} {Q : Value → Shared → Prop} (h : wpAny M A (call (.ref 1) []) Q E s) : wpAny M A (call (.ref 1) []) Q E s := by
  w_top off
  k_with_none
  first | (walk1; fail) | exact h
end Mine

namespace Mine
open PySem.Spec PySem.Calls Builtin Builtin.ObjectAttr PySem.W.KBw

/-- the types read one behind the other from a place on, each begun ahead of e -/
inductive Rd (bs : List Int) (e : Int) : Nat → List Int → Nat → Prop
  | nil {a : Nat} : Rd bs e a [] a
  | snoc {a b c : Nat} {ks : List Int} {k : Int} : Rd bs e a ks b → (b : Int) < e → gv bs 9 0 b = some (k, c) → Rd bs e a (ks ++ [k]) c

/-- head_of's two answers -/
def HeadOk (bs : List Int) (ks : List Int) (e : Int) : Prop := ∃ a : Nat, gv bs 9 0 0 = some (e, a) ∧ e ≤ bs.length ∧ (a : Int) ≤ e ∧ Rd bs e a ks e.toNat
def HeadBad (bs : List Int) : Prop := gv bs 9 0 0 = none ∨ ∃ (e : Int) (a : Nat), gv bs 9 0 0 = some (e, a) ∧
  ((bs.length : Int) < e ∨ e < a ∨ (∃ ks b, Rd bs e a ks b ∧ (b : Int) < e ∧ gv bs 9 0 b = none) ∨ ∃ ks b, Rd bs e a ks b ∧ e < (b : Int))

theorem gv_bound {bs : List Int} : ∀ {k : Nat} {n : Int} {a : Nat} {r : Int} {c : Nat}, gv bs k n a = some (r, c) → a < c ∧ c ≤ bs.length
  | 0, _, _, _, _, h => by cases h
  | k + 1, n, a, r, c, h => by
    unfold gv at h
    split at h
    · cases h
    · rename_i o ho
      have hl : a < bs.length := (List.getElem?_eq_some_iff.mp ho).1
      split at h
      · cases h; omega
      · split at h
        · cases h; omega
        · have := gv_bound h
          omega

/-- what holds between the turns of head_of's loop -/
def Hj (bs : List Int) (a : Int) (ks : List Int) : Prop := 0 ≤ a ∧ a ≤ bs.length ∧ ks.length ≤ a.toNat ∧ ∃ (e : Int) (a₁ : Nat), gv bs 9 0 0 = some (e, a₁) ∧ Rd bs e a₁ ks a.toNat
theorem hj_start {bs : List Int} {e a : Int} (h : gv bs 9 0 (0 : Int).toNat = some (e, a.toNat)) (ha : 0 ≤ a) : Hj bs a [] := by
  have := gv_bound h
  exact ⟨ha, by omega, Nat.zero_le _, e, _, h, .nil⟩
theorem hj_turn {bs : List Int} {e a k b a₀ : Int} {ks : List Int} (h0 : gv bs 9 0 (0 : Int).toNat = some (e, a₀.toNat)) (hj : Hj bs a ks) (hlt : a < e) (h : gv bs 9 0 a.toNat = some (k, b.toNat)) (hb : 0 ≤ b) : Hj bs b (ks ++ [k]) := by
  have hb' := gv_bound h
  obtain ⟨h1, h2, h3, e', a₁, h4, h5⟩ := hj
  have h0' : gv bs 9 0 0 = some (e, a₀.toNat) := h0
  rw [h4] at h0'
  cases h0'
  refine ⟨hb, by omega, ?_, e, _, h4, .snoc h5 (by omega) h⟩
  rw [List.length_append, List.length_singleton]
  omega
theorem hj_p {bs : List Int} {n : Nat} {a : Int} {ks : List Int} (hn : bs.length = n) (h : Hj bs a ks) : (0 ≤ a ∧ a ≤ n ∧ ks.length ≤ a.toNat) ∧ Hj bs a ks := by
  obtain ⟨h1, h2, h3, h4⟩ := h
  exact ⟨⟨h1, by omega, h3⟩, h1, h2, h3, h4⟩
theorem hj_less {n : Nat} {bs : List Int} {a k b : Int} (h : gv bs 9 0 a.toNat = some (k, b.toNat)) (hn : bs.length = n) : n - b.toNat < n - a.toNat := by
  have hb' := gv_bound h
  omega

theorem hb0 {bs : List Int} (h : gv bs 9 0 (0 : Int).toNat = none) : HeadBad bs := .inl h
theorem news_drop3 {h₀ h : Heap} {L : Addr} {x y z : Addr × Obj} {r : List (Addr × Obj)} (N : News h₀ L h (x :: y :: z :: r)) : News h₀ L h (x :: y :: r) := fun p hp => N p (by
  rcases List.mem_cons.mp hp with rfl | hp
  · exact .head _
  · rcases List.mem_cons.mp hp with rfl | hp
    · exact .tail _ (.head _)
    · exact .tail _ (.tail _ (.tail _ hp)))
theorem hb1 {bs : List Int} {n : Nat} {e a : Int} (hn : bs.length = n) (h : gv bs 9 0 (0 : Int).toNat = some (e, a.toNat)) (h1 : (n : Int) < e) : HeadBad bs := .inr ⟨_, _, h, .inl (by omega)⟩
theorem hb2 {bs : List Int} {e a : Int} (h : gv bs 9 0 (0 : Int).toNat = some (e, a.toNat)) (ha : 0 ≤ a) (h1 : e < a) : HeadBad bs := .inr ⟨_, _, h, .inr (.inl (by omega))⟩
theorem hb3 {bs : List Int} {e a b : Int} {ks : List Int} (h : gv bs 9 0 (0 : Int).toNat = some (e, a.toNat)) (hj : Hj bs b ks) (h1 : b < e) (hg : gv bs 9 0 b.toNat = none) : HeadBad bs := by
  obtain ⟨h0, _, _, e', a₁, h4, h5⟩ := hj
  have h' : gv bs 9 0 0 = some (e, a.toNat) := h
  rw [h4] at h'
  cases h'
  exact .inr ⟨_, _, h4, .inr (.inr (.inl ⟨_, _, h5, by omega, hg⟩))⟩
theorem hb4 {bs : List Int} {e a b : Int} {ks : List Int} (h : gv bs 9 0 (0 : Int).toNat = some (e, a.toNat)) (hj : Hj bs b ks) (h1 : ¬ b < e) (h2 : b ≠ e) : HeadBad bs := by
  obtain ⟨h0, _, _, e', a₁, h4, h5⟩ := hj
  have h' : gv bs 9 0 0 = some (e, a.toNat) := h
  rw [h4] at h'
  cases h'
  exact .inr ⟨_, _, h4, .inr (.inr (.inr ⟨_, _, h5, by omega⟩))⟩
theorem hok {bs : List Int} {n : Nat} {e a b : Int} {ks : List Int} (hn : bs.length = n) (h : gv bs 9 0 (0 : Int).toNat = some (e, a.toNat)) (ha : 0 ≤ a) (hj : Hj bs b ks) (h2 : b = e) (h3 : ¬ (n : Int) < e) (h4 : ¬ e < a) : HeadOk bs ks e := by
  obtain ⟨h0, _, _, e', a₁, h5, h6⟩ := hj
  have h' : gv bs 9 0 0 = some (e, a.toNat) := h
  rw [h5] at h'
  cases h'
  subst h2
  exact ⟨_, h5, by omega, by omega, h6⟩
theorem of_allLt {d : Addr} {l : List (Addr × Obj)} (h : AllLt d l) : ∀ p ∈ l, p.1 < d := kst_ltOf h

section
variable {w : World} {E : Value → Shared → Prop} {s : Shared} {base h₀ : Heap} {outer : List Env} {env : Env} {L : Addr} {m mg mb : Str → Option Value} {mean : ExcName → Option Value} {news : List (Addr × Obj)} {A₀ A : Around}

local macro_rules | `(tactic| walk_at "hr") => `(tactic| (simp only [depth_deeper]; omega))
local macro_rules | `(tactic| walk_at "hu") => `(tactic| (simp only [units_deeper]; omega))
local macro_rules | `(tactic| walk_at "exec Raise some none") => `(tactic| (k_here; k_dflt (refine' raise_corrupt ?B ?F ?X ?N ?T ?hx ?hA ?hf ?hke ?hh ?hr ?_ ?he ?hk ?hx2 ?hdb; (case B => k_asm); (case F => k_asm); (case X => k_asm); (case N => k_asm); (case T => k_asm); (case hx => rfl); (case hA => rfl); (case hf => rfl); (case hke => rfl); (case hh => rfl); (case hr => (simp only [depth_deeper]; omega)); (case he => rfl); (case hk => rfl); (case hx2 => rfl); (case hdb => decide); k_whole)))
local macro_rules | `(tactic| walk_at "Exists") => `(tactic| (refine ⟨_, rfl, ⟨by k_asm, by k_asm⟩, ?_⟩; intro e' t' D' h' tk' F' N' l1' l2'))
local macro_rules | `(tactic| walk_at "leaving ref") => `(tactic| (k_here; first
  | (refine' leave_D ?K ?F ?N ?l1 ?l2 ?_; (case K => k_asm); (case F => k_asm); (case N => k_asm); (case l1 => k_asm); (case l2 => k_asm); intro h' t' R' U')
  | (refine' leave_onS ?K ?F ?R ?U ?_; (case R => assumption); (case F => assumption); (case K => assumption); (case U => assumption); intro h' R' R2' U')))
local macro_rules | `(tactic| walk_at "call ref") => `(tactic| (k_here; k_dflt (refine' get_varint_spec (by k_asm) (by k_asm) (by k_asm) (by k_asm) (by k_asm) (by rfl) (by rfl) (by rfl) (by rfl) (by walk_at "hr") (by walk_at "hu") ?hsz ?h0 ?_ ?_; (case hsz => assumption); (case h0 => omega); (intro n' a' D' t1' t2' h' tk' hg' ha' F' N' l1'; (try k_lt l1'); (try k_fold)); rotate_left; (intro e' t' vs' g' h' tk' hg' F' R' U'; (try dsimp only)); rotate_right)))

set_option maxHeartbeats 8000000 in
theorem head_of_spec {bs : Array UInt8} {tb : Tok} {Q : Value → Shared → Prop} (B : Below A₀ base outer h₀) (F : Fr h₀ L s.heap m) (X : (hd.heap_39 w.params).In h₀)
    (N : News h₀ L s.heap news) (T : Top hd.view_39 (looseW hd.view_39 [Str.ofString "WORD"]) mean mg mb h₀)
    (hA : A.frames = some (env :: outer)) (hf : env.frame = some L) (hke : env.scope.kind = .function) (hh : A.handled = none) (hroom : A.depth + 30 < recursionLimit) (hun : A.units + 300 < cLine)
    (hsz : bs.size ≤ 1000)
    (ret : ∀ (ks : List Int) (e : Int) vs c T D t2 h' tk', HeadOk (bInts bs) ks e → IntsAre vs ks → Fr h₀ L h' m → News h₀ L h' ((T, tupObj [.ref D, .int e t2]) :: (D, listOf vs.toArray c) :: news) → (∀ p ∈ news, p.1 < D) → D < T → Q (.ref T) { s with heap := h', toks := tk' })
    (err : ∀ e t vs g h' tk', HeadBad (bInts bs) → Fr h₀ L g m → RaisedS base g (env :: outer) e (.ref 44) t vs news h' → g.UpToSlots h' → E (.ref e) { s with heap := h', toks := tk' }) :
    wpAny (model PySem.Challenge.rw_xm0746_01.row.prog w) A (call (.ref 74) [.bytes bs tb]) Q E s := by
  revert X; k_fill; intro X
  obtain ⟨hd', dp, fr, gd, un⟩ := A
  dsimp only at hA hh hroom hun
  subst hA hh
  have kMk := kstMark
  refine wpAny_call ?_
  refine' code_tidy [(Str.ofString "octets", .bytes bs tb)] B F X N T rfl hf hke ?k6 ?k7 ?k8 ?k9 ?kl ?kB ?_ ?c2 ?c3 ?c4 ?c5
  case k6 => k_is
  case k7 => k_is
  case k8 => show dp < _; omega
  case k9 => exact BindsTo.of_eq rfl
  case kl => exact rfl
  case kB => exact locs rfl
  case c2 => exact rfl
  case c3 => exact rfl
  case c4 => exact rfl
  case c5 => decide
  intro g' L' h' tk' FG' F' N' B' X' T'
  dsimp only [mapOf] at F'
  try dsimp only
  (try k_fold)
  have hlen : (bInts bs).length = bs.size := ints_length bs
  have hnil : IntsAre [] [] := IntsAre.nil
  k_with "exec While Compare cons nil" => k_while (fun _ a types => (0 ≤ a ∧ a ≤ bs.size ∧ types.length ≤ a.toNat) ∧ Hj (bInts bs) a types) (fun _ a _ => bs.size - a.toNat) "at" "types"
  k_with "state" => first | exact hj_p hlen (hj_start (by with_reducible assumption) (by with_reducible assumption)) | exact hj_p hlen (hj_turn (by with_reducible assumption) (by with_reducible assumption) (by with_reducible assumption) (by with_reducible assumption) (by with_reducible assumption))
  k_with "measure" => exact hj_less (by with_reducible assumption) hlen
  k_steps
  all_goals first
    | refine err _ _ _ _ _ _ ?_ FG' (raised_sub (by assumption) (fun p hp => hp)) (by assumption)
    | refine err _ _ _ _ _ _ ?_ FG' (raised_sub (by assumption) (fun p hp => .tail _ hp)) (by assumption)
    | refine err _ _ _ _ _ _ ?_ FG' (raised_sub (by assumption) (fun p hp => .tail _ (.tail _ hp))) (by assumption)
    | refine err _ _ _ _ _ _ ?_ FG' (raised_sub (by assumption) (fun p hp => .tail _ (.tail _ (.tail _ hp)))) (by assumption)
    | skip
  · exact hb1 hlen (by with_reducible assumption) (by with_reducible assumption)
  · exact hb2 (by with_reducible assumption) (by with_reducible assumption) (by with_reducible assumption)
  · exact hb3 (by with_reducible assumption) (by with_reducible assumption) (by with_reducible assumption) (by with_reducible assumption)
  · exact hb4 (by with_reducible assumption) (by with_reducible assumption) (by with_reducible assumption) (by with_reducible assumption)
  · exact ret _ _ _ _ _ _ _ _ _ (hok hlen (by with_reducible assumption) (by with_reducible assumption) (by with_reducible assumption) (by with_reducible assumption) (by with_reducible assumption) (by with_reducible assumption)) (by with_reducible assumption) (by assumption) (news_drop3 (by assumption)) (of_allLt (by first | assumption | exact (And.right (by assumption)))) (ltN (by omega))
  · exact hb0 (by with_reducible assumption)
end
end Mine

namespace Mine
theorem fresh7 {M : Model} {A : Around} {E : Value → Shared → Prop} {s : Shared} {Q : Value → Shared → Prop} (h : wpAny M A (call (.ref 1) []) Q E s) : wpAny M A (call (.ref 1) []) Q E s := by
  w_top off
  k_with_none
  first | (walk1; fail) | exact h
end Mine

namespace Mine
open PySem.Spec PySem.Calls Builtin Builtin.ObjectAttr PySem.W.KBw

section
variable {prog : Program} {w : World} {A : Around} {E : Value → Shared → Prop} {s : Shared} {base h₀ : Heap} {outer : List Env} {env : Env} {L : Addr} {m mg mb : Str → Option Value} {mean : ExcName → Option Value} {news : List (Addr × Obj)} {A₀ : Around}
  {K : Frag} {p : Program} {loose : List Str} {R : Result → Shared → Prop} {name qual : Str} {params : Arguments} {body : List Stmt} {scope : Scope} {dV kV doc pm cdv ct oc : Value} {an od : Option Addr} {osl : Array (Option Value)} {f : Addr} {args : Args} {binds : List (Str × Value)}

/-- a def entered, its end said outright -/
theorem code_raw (bl : List (Str × Value)) (B : Below A₀ base outer h₀) (F : Fr h₀ L s.heap m) (X₀ : K.In h₀) (N : News h₀ L s.heap news) (T : Top p loose mean mg mb h₀) (hA : A.frames = some (env :: outer)) (hf : env.frame = some L) (hke : env.scope.kind = .function)
    (ho : K.lookup f = some ⟨oc, od, .func (fnOf name qual params body scope dV kV doc pm an cdv ct), osl⟩) (hcd : codeIn K cdv qual = true) (hroom : A.depth < recursionLimit)
    (hbind : BindsTo s (fnOf name qual params body scope dV kV doc pm an cdv ct) args binds) (hbl : binds.reverse = bl) (hloc : ∀ y ∈ binds, scope.names.lookup y.1 = some .local)
    (h : ∀ g L' h₁ tk, Fr h₀ L g m → Fr g L' h₁ (fun y => mapOf bl y) → News g L' h₁ news → Below A base (env :: outer) g → K.In g → Top p loose mean mg mb g →
      wpAny (model prog w) (A.deeper (envOf qual scope L' f cdv)) (execs body (envOf qual scope L' f cdv))
        (fun fl s' => R (.ok (.ret (match fl with | .ret v => v | _ => .none))) s')
        (fun e s' => wpAny (model prog w) (A.deeper (envOf qual scope L' f cdv)) (leaving (envOf qual scope L' f cdv) e) (fun _ s'' => R (.error e) s'') (fun e' s'' => R (.error e') s'') s')
        { s with heap := h₁, toks := tk })
    (hco : scope.isCoroutine = false) (hgen : scope.isGenerator = false) (hk : scope.kind = .function)
    (hcell : ∀ x ∈ scope.names, x.2 ≠ .cell) : codeAny (model prog w) A (.call (.ref f) args) R s := by
  obtain ⟨FG, BG, st, lv⟩ := groundX (R := R) B F N hA hf hke
  have X := X₀.keeps F.keep
  refine codeAny_call_def (fd := fnOf name qual params body scope dV kV doc pm an cdv ct) (body := body) (binds := binds) hroom (X _ _ ho) rfl (T.nolimit.keeps F.keep) (codeRec_of X hcd) rfl hbind hcell hloc (fun h₁ hns hk₁ => ?_) hco hgen hk
  exact h _ s.heap.objs.size h₁ _ FG ⟨((funext fun y => by rw [hbl, lookup_mapOf] : (fun y => binds.reverse.lookup y) = fun y => mapOf bl y) ▸ hns), fun b o e => hk₁ b o (of_hideAll _ e), Nat.le_of_eq (hideAll_size _ _)⟩
    (fun p hp => ⟨hk₁ _ _ (N p hp).1, Nat.ne_of_lt (Heap.lt_size (N p hp).1), hideAll_none _ (List.mem_map_of_mem hp)⟩) BG (X₀.keeps st) (T.keeps st)

/-- back from a callee whose ground has turned -/
theorem turn_back {g g' h' : Heap} {L' : Addr} {m' : Str → Option Value} {news' : List (Addr × Obj)} (B : Below A₀ base outer h₀) (FG : Fr h₀ L g m) (hf : env.frame = some L)
    (T' : KtsTurn ((env :: outer).filterMap (·.frame)) g g') (F' : Fr g' L' h' m') (N' : News g' L' h' news') :
    ∃ h₁, KtsTurn (outer.filterMap (·.frame)) h₀ h₁ ∧ Fr h₁ L h' m ∧ News h₁ L h' news' ∧ Below A₀ base outer h₁ := by
  have nL₀ : h₀.get? L = none := kts_self FG
  obtain ⟨oL, es, ep, hLg, hLd, hLk, hLf⟩ := FG.ns
  have mem : ∀ b, b ∈ (env :: outer).filterMap (·.frame) → b = L ∨ b ∈ outer.filterMap (·.frame) := fun b hb => by
    obtain ⟨e, he, hfe⟩ := List.mem_filterMap.mp hb
    rcases List.mem_cons.mp he with rfl | he
    · exact .inl (Option.some.inj (hfe.symm.trans hf))
    · exact .inr (List.mem_filterMap.mpr ⟨e, he, hfe⟩)
  obtain ⟨sl, hs⟩ := T'.up hLg
  obtain ⟨T₁, S₁⟩ := kts_turn_at (h := h') (fs := outer.filterMap (·.frame)) (g := h₀)
    (fun b hb => by
      obtain ⟨_, o, ho', _⟩ := B.frames.mem hb
      exact ⟨o, ho'⟩)
    (fun b o e nmem => F'.keep b o (T'.other b o (FG.keep b o e) (fun q => by
      rcases mem b q with z | z
      · rw [z, nL₀] at e
        cases e
      · exact nmem z)))
    (fun b o e hm => by
      obtain ⟨sl', hs'⟩ := T'.up (FG.keep b o e)
      exact ⟨sl', F'.keep _ _ hs'⟩)
  have B₃ : Below A₀ base outer (ktsHeap h' (outer.filterMap (·.frame)) h₀) := ⟨B.stack, fun b o e => T₁.other b o (B.stays b o e) (fun hm => by
    rw [(B.frames.mem hm).1] at e
    cases e), B.frames.of_keeps fun b o e _ => by
    obtain ⟨sl', hs'⟩ := T₁.up e
    exact ⟨_, hs', rfl⟩⟩
  refine ⟨_, T₁, ⟨⟨_, es, ep, F'.keep _ _ hs, hLd, hLk, hLf⟩, S₁, by rw [T₁.size]; exact FG.above⟩, (fun p hp => ⟨(N' p hp).1, fun q => ?_, ?_⟩), B₃⟩
  · have := (N' p hp).2.2; rw [q, hs] at this; cases this
  · refine T₁.none_ _ ?_
    cases q : h₀.get? p.1 with
    | none => rfl
    | some o =>
      obtain ⟨sl', hs'⟩ := T'.up (FG.keep _ _ q)
      have := (N' p hp).2.2
      rw [hs'] at this
      cases this

theorem dicts_up {g : Heap} (D : KtsDicts (outer.filterMap (·.frame)) h₀) (FG : Fr h₀ L g m) (hf : env.frame = some L) : KtsDicts ((env :: outer).filterMap (·.frame)) g := fun b hb => by
  obtain ⟨e, he, hfe⟩ := List.mem_filterMap.mp hb
  rcases List.mem_cons.mp he with rfl | he
  · rw [hf] at hfe
    cases hfe
    obtain ⟨oL, es, ep, hLg, hLd, _⟩ := FG.ns
    exact ⟨oL, es, ep, hLg, hLd⟩
  · obtain ⟨o, es, n, ho, hd⟩ := D b (List.mem_filterMap.mpr ⟨e, he, hfe⟩)
    exact ⟨o, es, n, FG.keep _ _ ho, hd⟩
end

/-- what _law_told hands back -/
def Told1 (ks : List Int) (news : List (Addr × Obj)) (v : Value) (nw : List (Addr × Obj)) : Prop :=
  (HeadBad ks ∧ v = .none ∧ nw = news) ∨ ∃ (ts : List Int) (e : Int) (vs : List Value) (c : Nat) (T D : Addr) (t2 : Tok), HeadOk ks ts e ∧ IntsAre vs ts ∧ v = .ref T ∧
    nw = (T, tupObj [.ref D, .int e t2]) :: (D, listOf vs.toArray c) :: news ∧ (∀ p ∈ news, p.1 < D) ∧ D < T

section
variable {w : World} {E : Value → Shared → Prop} {s : Shared} {base h₀ : Heap} {outer : List Env} {env : Env} {L : Addr} {m mg mb : Str → Option Value} {mean : ExcName → Option Value} {news : List (Addr × Obj)} {A₀ A : Around}

local macro_rules | `(tactic| walk_at "hr") => `(tactic| (simp only [depth_deeper]; omega))
local macro_rules | `(tactic| walk_at "hu") => `(tactic| (simp only [units_deeper]; omega))
local macro_rules | `(tactic| walk_at "noteFrame ref") => `(tactic| (k_here; k_dflt (refine' caught_SO0 (g₀ := _) ?R ?F ?K ?U ?XB ?TB ?D KtsTurn.refl ?ex ?q ?_; (case R => assumption); (case F => assumption); (case K => assumption); (case U => assumption); (case XB => assumption); (case TB => assumption); (case D => assumption); (case ex => k_is); (case q => kts_isx); k_whole); intro h' g' n₂ T' F' N₂ G' N' K' X' P' D'))
local macro_rules | `(tactic| walk_at "call ref") => `(tactic| (k_here; k_dflt (refine' head_of_spec (by k_asm) (by k_asm) (by k_asm) (by k_asm) (by k_asm) (by rfl) (by rfl) (by rfl) (by rfl) (by walk_at "hr") (by walk_at "hu") ?hsz ?_ ?_; (case hsz => assumption); (intro ks' e' vs' c' T' D' t2' h' tk' ho' hi' F' N' l1' l2'; (try k_fold)); rotate_left; (intro e' t' vs' g' h' tk' hb' F' R' U'; (try dsimp only)); rotate_right)))

set_option maxHeartbeats 8000000 in
theorem told_spec {bs : Array UInt8} {tb : Tok} {Q : Value → Shared → Prop} (B : Below A₀ base outer h₀) (F : Fr h₀ L s.heap m) (X : (hd.heap_39 w.params).In h₀)
    (N : News h₀ L s.heap news) (T : Top hd.view_39 (looseW hd.view_39 [Str.ofString "WORD"]) mean mg mb h₀) (XB : (hd.heap_39 w.params).In base) (TB : Top hd.view_39 (looseW hd.view_39 [Str.ofString "WORD"]) mean mg mb base) (D : KtsDicts (outer.filterMap (·.frame)) h₀)
    (hA : A.frames = some (env :: outer)) (hf : env.frame = some L) (hke : env.scope.kind = .function) (hh : A.handled = none) (hroom : A.depth + 40 < recursionLimit) (hun : A.units + 400 < cLine)
    (hsz : bs.size ≤ 1000)
    (ret : ∀ v h₁ nw h' tk', Told1 (bInts bs) news v nw → KtsTurn (outer.filterMap (·.frame)) h₀ h₁ → Fr h₁ L h' m → News h₁ L h' nw → Below A₀ base outer h₁ → Q v { s with heap := h', toks := tk' }) :
    wpAny (model PySem.Challenge.rw_xm0746_01.row.prog w) A (call (.ref 109) [.bytes bs tb]) Q E s := by
  revert X; k_fill; intro X
  obtain ⟨hd', dp, fr, gd, un⟩ := A
  dsimp only at hA hh hroom hun
  subst hA hh
  have kMk := kstMark
  refine wpAny_call ?_
  refine' code_raw [(Str.ofString "octets", .bytes bs tb)] B F X N T rfl hf hke ?k6 ?k7 ?k8 ?k9 ?kl ?kB ?_ ?c2 ?c3 ?c4 ?c5
  case k6 => k_is
  case k7 => k_is
  case k8 => show dp < _; omega
  case k9 => exact BindsTo.of_eq rfl
  case kl => exact rfl
  case kB => exact locs rfl
  case c2 => exact rfl
  case c3 => exact rfl
  case c4 => exact rfl
  case c5 => decide
  intro g' L' h' tk' FG' F' N' B' X' T'
  dsimp only [mapOf] at F'
  have D' := dicts_up D FG' hf
  have fin : ∀ v g2 h2 m2 nw tk2, Told1 (bInts bs) news v nw → KtsTurn ((env :: outer).filterMap (·.frame)) g' g2 → Fr g2 L' h2 m2 → News g2 L' h2 nw → Q v { s with heap := h2, toks := tk2 } := by
    intro v g2 h2 m2 nw tk2 h1 h2 h3 h4
    obtain ⟨h₁, T1, F1, N1, B1⟩ := turn_back B FG' hf h2 h3 h4
    exact ret _ _ _ _ _ h1 T1 F1 N1 B1
  try dsimp only
  (try k_fold)
  k_steps
  · refine fin _ _ _ _ _ _ (.inr ⟨_, _, _, _, _, _, _, by with_reducible assumption, by with_reducible assumption, rfl, rfl, by with_reducible assumption, by with_reducible assumption⟩) KtsTurn.refl (by assumption) (by assumption)
  · dsimp only
    refine fin _ _ _ _ news _ (.inl ⟨by with_reducible assumption, rfl, rfl⟩) (by assumption) (by assumption) (by assumption)
end
end Mine

namespace Mine
theorem fresh8 {M : Model} {A : Around} {E : Value → Shared → Prop} {s : Shared} {Q : Value → Shared → Prop} (h : wpAny M A (call (.ref 1) []) Q E s) : wpAny M A (call (.ref 1) []) Q E s := by
  w_top off
  k_with_none
  first | (walk1; fail) | exact h
end Mine

namespace Mine
open PySem.Spec PySem.Calls Builtin Builtin.ObjectAttr PySem.W.KBw

/-- so many octets put_varint writes -/
def PutLen (n : Int) (l : Nat) : Prop := 1 ≤ l ∧ l ≤ 8 ∧ n < 128 ^ l ∧ (l = 1 ∨ (128 : Int) ^ (l - 1) ≤ n)

def Pv (n rest : Int) (found : List Int) : Prop := (1 ≤ found.length ∧ found.length ≤ 8) ∧ rest = n / 128 ^ found.length ∧ (found.length = 1 ∨ (128 : Int) ^ (found.length - 1) ≤ n) ∧ KBa.In found
theorem or128 {r : Int} : Builtin.bitOr (Builtin.bitAnd r 127) 128 = r % 128 + 128 := by
  have h1 := Int.emod_nonneg r (show (128 : Int) ≠ 0 by decide)
  have h2 := Int.emod_lt_of_pos r (show (0 : Int) < 128 by decide)
  rw [low7, PyProof.Rows.bitOr_comm]
  have := or_low (n := 1) (k := 7) (by decide) h1 h2
  rw [show (1 : Int) * 2 ^ 7 = 128 by decide] at this
  omega
theorem fdiv7 {r : Int} : r.fdiv (2 ^ (7 : Int).toNat) = r / 128 := by
  show r.fdiv 128 = r / 128
  rw [Int.fdiv_eq_ediv_of_nonneg _ (by decide)]

theorem pow_up : ∀ l : Nat, l ≤ 8 → (128 : Int) ^ l ≤ 72057594037927936 := by decide
theorem pow_lo : ∀ l : Nat, l ≤ 8 → 5 < l → (34359738368 : Int) < 128 ^ l := by decide
theorem p128_pos (l : Nat) : (0 : Int) < 128 ^ l := pow_pos_of (by decide) l
theorem pv_p {n r : Int} {f : List Int} (h0 : 0 ≤ n) (h1 : n < 34359738368) (hp : Pv n r f) : (0 ≤ r ∧ r < 68719476736 ∧ f.length ≤ 8) ∧ Pv n r f := by
  obtain ⟨⟨ha, hb⟩, hc, hd⟩ := hp
  have := p128_pos f.length
  have h2 : 0 ≤ r := by rw [hc]; exact Int.ediv_nonneg h0 (Int.le_of_lt this)
  have h3 : r ≤ n := by rw [hc]; exact Int.ediv_le_self _ h0
  exact ⟨⟨h2, by omega, hb⟩, ⟨ha, hb⟩, hc, hd⟩
theorem pv_start {n : Int} : Pv n (n.fdiv (2 ^ (7 : Int).toNat)) [Builtin.bitAnd n 127] := by
  refine ⟨⟨Nat.le_refl _, Nat.le_of_ble_eq_true rfl⟩, ?_, .inl rfl, ?_⟩
  · rw [fdiv7]; rfl
  · intro x hx
    rw [List.mem_singleton.mp hx, low7]
    have h1 := Int.emod_nonneg n (show (128 : Int) ≠ 0 by decide)
    have h2 := Int.emod_lt_of_pos n (show (0 : Int) < 128 by decide)
    omega
theorem pv_turn {n r : Int} {f : List Int} (h0 : 0 ≤ n) (h1 : n < 34359738368) (hp : Pv n r f) (hr : 0 < r) : Pv n (r.fdiv (2 ^ (7 : Int).toNat)) (f ++ [Builtin.bitOr (Builtin.bitAnd r 127) 128]) := by
  obtain ⟨⟨ha, hb⟩, hc, hd, he⟩ := hp
  have hpos := p128_pos f.length
  have hge : 128 ^ f.length ≤ n := by
    apply Decidable.byContradiction
    intro hn
    rw [Int.ediv_eq_zero_of_lt h0 (by omega)] at hc
    omega
  have hl : f.length ≤ 5 := by
    apply Decidable.byContradiction
    intro hn
    have := pow_lo f.length hb (by omega)
    omega
  refine ⟨⟨by rw [List.length_append, List.length_singleton]; omega, by rw [List.length_append, List.length_singleton]; omega⟩, ?_, .inr ?_, ?_⟩
  · rw [fdiv7, hc, List.length_append, List.length_singleton, Int.pow_succ, Int.ediv_ediv_of_nonneg (Int.le_of_lt hpos)]
  · rw [List.length_append, List.length_singleton, Nat.add_sub_cancel]
    exact hge
  · intro x hx
    rcases List.mem_append.mp hx with hx | hx
    · exact he x hx
    · rw [List.mem_singleton.mp hx, or128]
      have h1 := Int.emod_nonneg r (show (128 : Int) ≠ 0 by decide)
      have h2 := Int.emod_lt_of_pos r (show (0 : Int) < 128 by decide)
      omega
theorem pv_less {r : Int} (hr : 0 < r) : (r.fdiv (2 ^ (7 : Int).toNat)).toNat < r.toNat := by
  rw [fdiv7]
  omega
theorem pv_end {n r : Int} {f : List Int} (h0 : 0 ≤ n) (hp : Pv n r f) (hr : ¬ 0 < r) : PutLen n f.length := by
  obtain ⟨⟨ha, hb⟩, hc, hd, he⟩ := hp
  have hpos := p128_pos f.length
  refine ⟨ha, hb, ?_, hd⟩
  have h2 : 0 ≤ r := by rw [hc]; exact Int.ediv_nonneg h0 (Int.le_of_lt hpos)
  have h3 : n / 128 ^ f.length = 0 := by omega
  have h4 := Int.emod_lt_of_pos n hpos
  have h5 := Int.emod_def n (128 ^ f.length)
  rw [h3, Int.mul_zero] at h5
  omega
theorem ints_rev {vs : List Value} {ns : List Int} (h : IntsAre vs ns) : IntsAre vs.reverse ns.reverse := by
  induction h with
  | nil => exact .nil
  | cons i t h ih =>
    rw [List.reverse_cons, List.reverse_cons]
    exact IntsAre.append ih (.cons _ _ .nil)
theorem in_rev {ns : List Int} (h : KBa.In ns) : KBa.In ns.reverse := fun n hn => h n (List.mem_reverse.mp hn)
section
variable {prog : Program} {w : World} {A : Around} {E : Value → Shared → Prop} {s : Shared} {a b c : Int} {t u : Tok} {Q : Value → Shared → Prop}
theorem mod_known (hb : b ≠ 0) (e : a.fmod b = c) (h : Q (.int c s.toks) { s with toks := s.toks + 1 }) : wpAny (model prog w) A (binaryOp .Mod (.int a t) (.int b u)) Q E s := by
  subst e
  exact mod_int' hb h
theorem pow_known (h0 : 0 ≤ b) (hsz : b ≤ 1000) (ha : a.natAbs < 2 ^ 64) (e : a ^ b.toNat = c) (h : Q (.int c s.toks) { s with toks := s.toks + 1 }) : wpAny (model prog w) A (binaryOp .Pow (.int a t) (.int b u)) Q E s := by
  subst e
  exact pow_int_small h0 (by omega) ha h
end
section
variable {prog : Program} {w : World} {A : Around} {E : Value → Shared → Prop} {s : Shared} {h₀ : Heap} {L D : Addr} {m : Str → Option Value} {news : List (Addr × Obj)} {vs : List Value} {ns : List Int} {k : Nat} {Q : Value → Shared → Prop}
theorem rev_K (F : Fr h₀ L s.heap m) (N : News h₀ L s.heap ((D, listOf vs.toArray k) :: news)) (hne : ∀ p ∈ news, p.1 ≠ D) (hi : IntsAre vs ns) (hz : vs.length ≤ 1000)
    (h : ∀ h', Fr h₀ L h' m → News h₀ L h' ((D, listOf vs.reverse.toArray k) :: news) → IntsAre vs.reverse ns.reverse → Q .none { s with heap := h' }) : wpAny (model prog w) A (call (.builtin "list.reverse") [.ref D]) Q E s :=
  kl_reverse (l := vs.reverse) F N (by simp) (Upd.head hne) (by rw [PySem.sizeLine_eq]; simp; omega) fun h' F' N' => h h' F' N' (ints_rev hi)
theorem bytes_K (F : Fr h₀ L s.heap m) (N : News h₀ L s.heap ((D, listOf vs.toArray k) :: news)) (hh : A.handled = none) (hi : IntsAre vs ns) (hr : KBa.In ns) (hn : ns.length ≤ 1000)
    (h : ∀ b t' k' h', bInts b = ns → b.size = ns.length → Fr h₀ L h' m → News h₀ L h' ((D, listOf vs.toArray k) :: news) → Q (.bytes b t') { s with heap := h', toks := k' }) : wpAny (model prog w) A (call (.type "bytes") [.ref D]) Q E s :=
  KBa.make_K F N hh (News.isList N (.head _)) hi hr (by omega) fun h' t' k' F' N' _ => h _ t' k' h' (KBa.ints_make hr) (by rw [← ints_length, KBa.ints_make hr]) F' N'
end
theorem News.get2 {h₀ h : Heap} {L : Addr} {x : Addr × Obj} {r : List (Addr × Obj)} (N : News h₀ L h (x :: r)) : News h₀ L h r := fun p hp => N p (.tail _ hp)
section
variable {w : World} {E : Value → Shared → Prop} {s : Shared} {base h₀ : Heap} {outer : List Env} {env : Env} {L : Addr} {m mg mb : Str → Option Value} {mean : ExcName → Option Value} {news : List (Addr × Obj)} {A₀ A : Around}

local macro_rules | `(tactic| walk_at "binaryOp Mod int int") => `(tactic| (refine mod_known (by decide) (by with_reducible assumption) ?_))
local macro_rules | `(tactic| walk_at "binaryOp Pow int int") => `(tactic| (refine pow_known (c := 72057594037927936) (by decide) (by decide) (by decide) (by decide) ?_))
local macro_rules | `(tactic| kst_facts1) => `(tactic| first | with_reducible exact IntsAre.nil | with_reducible exact IntsAre.cons _ _ IntsAre.nil)
local macro_rules | `(tactic| walk_at "call builtin:list.reverse") => `(tactic| (k_here; k_dflt (refine' rev_K ?F ?N ?h1 ?h2 ?h3 ?_; (case F => k_asm); (case N => k_asm); (case h1 => k_all); (case h2 => with_reducible assumption); (case h3 => omega)); intro h' F' N' hi'))
local macro_rules | `(tactic| walk_at "call type:bytes") => `(tactic| (k_here; k_dflt (refine' bytes_K ?F ?N ?h1 ?h2 ?h3 ?h4 ?_; (case F => k_asm); (case N => k_asm); (case h1 => rfl); (case h2 => with_reducible assumption); (case h3 => (rename Pv _ _ _ => hpv; exact in_rev hpv.2.2.2)); (case h4 => (simp only [List.length_reverse]; omega))); intro b' t' k' h' hb' hs' F' N'))
set_option maxHeartbeats 8000000 in
theorem put_varint_spec {n : Int} {tn : Tok} {Q : Value → Shared → Prop} (B : Below A₀ base outer h₀) (F : Fr h₀ L s.heap m) (X : (hd.heap_39 w.params).In h₀)
    (N : News h₀ L s.heap news) (T : Top hd.view_39 (looseW hd.view_39 [Str.ofString "WORD"]) mean mg mb h₀)
    (hA : A.frames = some (env :: outer)) (hf : env.frame = some L) (hke : env.scope.kind = .function) (hh : A.handled = none) (hroom : A.depth + 20 < recursionLimit) (hun : A.units + 200 < cLine)
    (h0 : 0 ≤ n) (h1 : n < 34359738368)
    (ret : ∀ bs t h' tk', PutLen n bs.size → Fr h₀ L h' m → News h₀ L h' news → Q (.bytes bs t) { s with heap := h', toks := tk' }) :
    wpAny (model PySem.Challenge.rw_xm0746_01.row.prog w) A (call (.ref 53) [.int n tn]) Q E s := by
  revert X; k_fill; intro X
  obtain ⟨hd', dp, fr, gd, un⟩ := A
  dsimp only at hA hh hroom hun
  subst hA hh
  have kMk := kstMark
  have hmod : Int.fmod n 18446744073709551616 = n := by rw [Int.fmod_eq_emod_of_nonneg _ (by decide)]; omega
  refine wpAny_call ?_
  refine' code_tidy [(Str.ofString "n", .int n tn)] B F X N T rfl hf hke ?k6 ?k7 ?k8 ?k9 ?kl ?kB ?_ ?c2 ?c3 ?c4 ?c5
  case k6 => k_is
  case k7 => k_is
  case k8 => show dp < _; omega
  case k9 => exact BindsTo.of_eq rfl
  case kl => exact rfl
  case kB => exact locs rfl
  case c2 => exact rfl
  case c3 => exact rfl
  case c4 => exact rfl
  case c5 => decide
  intro g' L' h' tk' FG' F' N' B' X' T'
  dsimp only [mapOf] at F'
  try dsimp only
  (try k_fold)
  k_with "exec While Compare cons nil" => ((simp only [List.push_toArray, List.nil_append] at *); k_while (fun _ r found => (0 ≤ r ∧ r < 68719476736 ∧ found.length ≤ 8) ∧ Pv n r found) (fun _ r _ => r.toNat) "rest" "found")
  k_with "state" => first | exact pv_p h0 h1 pv_start | exact pv_p h0 h1 (pv_turn h0 h1 (by with_reducible assumption) (by with_reducible assumption))
  k_with "measure" => exact pv_less (by with_reducible assumption)
  k_steps
  rename Pv _ _ _ => hpv
  refine ret _ _ _ _ ?_ (by assumption) (fun p hp => News.get2 (by assumption) p hp)
  rename Array.size _ = _ => hsz
  rw [hsz, List.length_reverse]
  exact pv_end h0 hpv (by with_reducible assumption)
end
end Mine

namespace Mine
theorem fresh9 {M : Model} {A : Around} {E : Value → Shared → Prop} {s : Shared} {Q : Value → Shared → Prop} (h : wpAny M A (call (.ref 1) []) Q E s) : wpAny M A (call (.ref 1) []) Q E s := by
  w_top off
  k_with_none
  first | (walk1; fail) | exact h
end Mine

namespace Mine
open PySem.Spec PySem.Calls Builtin Builtin.ObjectAttr PySem.W.KBw

def Lj (many own : Int) : Prop := 1 ≤ own ∧ own ≤ 5 ∧ ∀ j : Nat, 1 ≤ j → (j : Int) < own → (128 : Int) ^ j ≤ many + j
/-- the least number of octets that tells the size of many octets and of itself -/
def IsL (many own : Int) : Prop := Lj many own ∧ many + own < 128 ^ own.toNat

theorem put_fits {n : Int} {l : Nat} (h : PutLen n l) : l ≤ 1099511627776 := Nat.le_trans h.2.1 (by decide)
theorem pow_mono {a b : Nat} (h : a ≤ b) : (128 : Int) ^ a ≤ 128 ^ b := by
  obtain ⟨c, rfl⟩ := Nat.exists_eq_add_of_le h
  rw [Int.pow_add]
  have h1 := p128_pos a
  have h2 := p128_pos c
  have : (128 : Int) ^ a * 1 ≤ 128 ^ a * 128 ^ c := Int.mul_le_mul_of_nonneg_left (by omega) (Int.le_of_lt h1)
  omega
theorem lj_start {many : Int} : Lj many 1 := ⟨Int.le_refl _, by decide, fun j h1 h2 => by omega⟩
theorem lj_next {many own : Int} (hm : many ≤ 536870912) (h : Lj many own) (hge : (128 : Int) ^ own.toNat ≤ many + own) : Lj many (own + 1) := by
  obtain ⟨h1, h2, h3⟩ := h
  refine ⟨by omega, ?_, fun j j1 j2 => ?_⟩
  · apply Decidable.byContradiction
    intro hn
    have e : own = 5 := by omega
    subst e
    have : (128 : Int) ^ (5 : Int).toNat = 34359738368 := by decide
    omega
  · by_cases e : (j : Int) < own
    · exact h3 j j1 e
    · have : own.toNat = j := by omega
      rw [this] at hge
      omega
theorem lj_put {many own : Int} {l : Nat} (hm : many ≤ 536870912) (h : Lj many own) (hp : PutLen (many + own) l) (hne : (l : Int) ≠ own) : Lj many (own + 1) := by
  refine lj_next hm h ?_
  obtain ⟨h1, h2, h3⟩ := h
  obtain ⟨p1, p2, p3, p4⟩ := hp
  by_cases hlt : (l : Int) < own
  · have q := h3 (own.toNat - 1)
    by_cases h1' : own = 1
    · omega
    have q' := q (by omega) (by omega)
    have := pow_mono (a := l) (b := own.toNat - 1) (by omega)
    omega
  · have := pow_mono (a := own.toNat) (b := l - 1) (by omega)
    rcases p4 with p4 | p4
    · omega
    · omega
theorem isl_put {many own : Int} {l : Nat} (h : Lj many own) (hp : PutLen (many + own) l) (he : (l : Int) = own) : IsL many own := by
  refine ⟨h, ?_⟩
  have : own.toNat = l := by omega
  rw [this]
  exact hp.2.2.1
theorem lj_p {many own : Int} (h : Lj many own) : (1 ≤ own ∧ own ≤ 5) ∧ Lj many own := ⟨⟨h.1, h.2.1⟩, h⟩
theorem lj_less {own : Int} (h : own ≤ 5) (h' : own + 1 ≤ 5) : (6 - (own + 1)).toNat < (6 - own).toNat := by omega
theorem isl_eq {many a b : Int} (ha : IsL many a) (hb : IsL many b) : a = b := by
  obtain ⟨⟨a1, a2, a3⟩, a4⟩ := ha
  obtain ⟨⟨b1, b2, b3⟩, b4⟩ := hb
  apply Decidable.byContradiction
  intro hne
  by_cases hlt : a < b
  · have := b3 a.toNat (by omega) (by omega)
    omega
  · have := a3 b.toNat (by omega) (by omega)
    omega

section
variable {w : World} {E : Value → Shared → Prop} {s : Shared} {base h₀ : Heap} {outer : List Env} {env : Env} {L : Addr} {m mg mb : Str → Option Value} {mean : ExcName → Option Value} {news : List (Addr × Obj)} {A₀ A : Around}

local macro_rules | `(tactic| walk_at "hr") => `(tactic| (simp only [depth_deeper]; omega))
local macro_rules | `(tactic| walk_at "hu") => `(tactic| (simp only [units_deeper]; omega))
local macro_rules | `(tactic| walk_at "call ref") => `(tactic| (k_here; k_dflt (refine' put_varint_spec (by k_asm) (by k_asm) (by k_asm) (by k_asm) (by k_asm) (by rfl) (by rfl) (by rfl) (by rfl) (by walk_at "hr") (by walk_at "hu") ?h0 ?h1 ?_; (case h0 => omega); (case h1 => omega); (intro b' t' h' tk' hp' F' N'; (try k_fold)))))


set_option maxHeartbeats 8000000 in
theorem least_spec {many : Int} {tn : Tok} {Q : Value → Shared → Prop} (B : Below A₀ base outer h₀) (F : Fr h₀ L s.heap m) (X : (hd.heap_39 w.params).In h₀)
    (N : News h₀ L s.heap news) (T : Top hd.view_39 (looseW hd.view_39 [Str.ofString "WORD"]) mean mg mb h₀)
    (hA : A.frames = some (env :: outer)) (hf : env.frame = some L) (hke : env.scope.kind = .function) (hh : A.handled = none) (hroom : A.depth + 20 < recursionLimit) (hun : A.units + 200 < cLine)
    (h0 : 0 ≤ many) (h1 : many ≤ 536870912)
    (ret : ∀ own t h' tk', IsL many own → Fr h₀ L h' m → News h₀ L h' news → Q (.int (many + own) t) { s with heap := h', toks := tk' }) :
    wpAny (model PySem.Challenge.rw_xm0746_01.row.prog w) A (call (.ref 121) [.int many tn]) Q E s := by
  revert X; k_fill; intro X
  obtain ⟨hd', dp, fr, gd, un⟩ := A
  dsimp only at hA hh hroom hun
  subst hA hh
  have kMk := kstMark
  refine wpAny_call ?_
  refine' code_tidy [(Str.ofString "many", .int many tn)] B F X N T rfl hf hke ?k6 ?k7 ?k8 ?k9 ?kl ?kB ?_ ?c2 ?c3 ?c4 ?c5
  case k6 => k_is
  case k7 => k_is
  case k8 => show dp < _; omega
  case k9 => exact BindsTo.of_eq rfl
  case kl => exact rfl
  case kB => exact locs rfl
  case c2 => exact rfl
  case c3 => exact rfl
  case c4 => exact rfl
  case c5 => decide
  intro g' L' h' tk' FG' F' N' B' X' T'
  dsimp only [mapOf] at F'
  try dsimp only
  (try k_fold)
  k_with "exec While Compare cons nil" => k_while (fun _ own => (1 ≤ own ∧ own ≤ 5) ∧ Lj many own) (fun _ own => (6 - own).toNat) "own"
  k_with "state" => first | exact lj_p lj_start | exact lj_p (lj_next h1 (by with_reducible assumption) (by with_reducible assumption))
  k_with "measure" => omega
  k_steps
  exact ret _ _ _ _ ⟨by with_reducible assumption, Int.not_le.mp (by with_reducible assumption)⟩ (by assumption) (by assumption)

local macro_rules | `(tactic| walk_at "call builtin:len") => `(tactic| (k_here; (with_reducible show wpAny _ _ (call (Value.builtin "len") [Value.bytes _ _]) _ _ _); (refine len_bytes (put_fits (by with_reducible assumption)) ?_)))
set_option maxHeartbeats 8000000 in
theorem head_size_spec {many : Int} {tn : Tok} {Q : Value → Shared → Prop} (B : Below A₀ base outer h₀) (F : Fr h₀ L s.heap m) (X : (hd.heap_39 w.params).In h₀)
    (N : News h₀ L s.heap news) (T : Top hd.view_39 (looseW hd.view_39 [Str.ofString "WORD"]) mean mg mb h₀)
    (hA : A.frames = some (env :: outer)) (hf : env.frame = some L) (hke : env.scope.kind = .function) (hh : A.handled = none) (hroom : A.depth + 30 < recursionLimit) (hun : A.units + 300 < cLine)
    (h0 : 0 ≤ many) (h1 : many ≤ 536870912)
    (ret : ∀ own t h' tk', IsL many own → Fr h₀ L h' m → News h₀ L h' news → Q (.int (many + own) t) { s with heap := h', toks := tk' }) :
    wpAny (model PySem.Challenge.rw_xm0746_01.row.prog w) A (call (.ref 67) [.int many tn]) Q E s := by
  revert X; k_fill; intro X
  obtain ⟨hd', dp, fr, gd, un⟩ := A
  dsimp only at hA hh hroom hun
  subst hA hh
  have kMk := kstMark
  refine wpAny_call ?_
  refine' code_tidy [(Str.ofString "many", .int many tn)] B F X N T rfl hf hke ?k6 ?k7 ?k8 ?k9 ?kl ?kB ?_ ?c2 ?c3 ?c4 ?c5
  case k6 => k_is
  case k7 => k_is
  case k8 => show dp < _; omega
  case k9 => exact BindsTo.of_eq rfl
  case kl => exact rfl
  case kB => exact locs rfl
  case c2 => exact rfl
  case c3 => exact rfl
  case c4 => exact rfl
  case c5 => decide
  intro g' L' h' tk' FG' F' N' B' X' T'
  dsimp only [mapOf] at F'
  try dsimp only
  (try k_fold)
  k_with "exec While Compare cons nil" => k_while (fun _ own => (1 ≤ own ∧ own ≤ 5) ∧ Lj many own) (fun _ own => (6 - own).toNat) "own"
  k_with "state" => first | exact lj_p lj_start | exact lj_p (lj_put h1 (by with_reducible assumption) (by with_reducible assumption) (by with_reducible assumption))
  k_with "measure" => omega
  k_steps
  exact ret _ _ _ _ (isl_put (by with_reducible assumption) (by with_reducible assumption) (by with_reducible assumption)) (by assumption) (by assumption)
end
end Mine

namespace Mine
theorem fresh10 {M : Model} {A : Around} {E : Value → Shared → Prop} {s : Shared} {Q : Value → Shared → Prop} (h : wpAny M A (call (.ref 1) []) Q E s) : wpAny M A (call (.ref 1) []) Q E s := by
  w_top off
  k_with_none
  first | (walk1; fail) | exact h
end Mine

namespace Mine
open PySem.Spec PySem.Calls Builtin Builtin.ObjectAttr PySem.W.KBw

/-- the two numbers that a source of digits holds -/
def Src (a b : Int) : Prop := 0 ≤ a ∧ 0 ≤ b ∧ b < 2147483647
abbrev srcObj (a b : Int) (t u : Tok) (c : Nat) : Obj := listOf [Value.int a t, Value.int b u].toArray c

section
variable {prog : Program} {w : World} {A : Around} {E : Value → Shared → Prop} {s : Shared} {h₀ : Heap} {L D : Addr} {m : Str → Option Value} {news : List (Addr × Obj)} {vs : List Value} {k a b : Int} {n : Nat} {u t : Tok} {x : Value} {value slice : PySem.Expr} {Q : Value → Shared → Prop}
/-- an item of a list at a written place -/
theorem item_lit (N : News h₀ L s.heap news) (hm : (D, listOf vs.toArray n) ∈ news) (h0 : 0 ≤ k) (hfit : k < 2 ^ 63) (hx : vs[k.toNat]? = some x) (h : Q x s)
    (hs : subscripted slice false (.ref D) (.int k u) = operate [.ref D, .int k u] (getItem (.ref D) (.int k u)) := by with_unfolding_all rfl) : wpAny (model prog w) A (subscriptTail value slice (.ref D) (.int k u)) Q E s :=
  have hl := News.isList N hm
  tail_any hl.typeIs slot_list_getitem.lookup (wpAny_getItem_list hl h0 hfit (by simpa using hx) h) hs
theorem getItem_lit (N : News h₀ L s.heap news) (hm : (D, listOf vs.toArray n) ∈ news) (h0 : 0 ≤ k) (hfit : k < 2 ^ 63) (hx : vs[k.toNat]? = some x) (h : Q x s) : wpAny (model prog w) A (getItem (.ref D) (.int k u)) Q E s :=
  wpAny_getItem_list (News.isList N hm) h0 hfit (by simpa using hx) h
/-- a rest, as a letter -/
theorem mod_letter (hb : 0 < b) (h : ∀ r t', 0 ≤ r → r < b → r = a.fmod b → Q (.int r t') { s with toks := s.toks + 1 }) : wpAny (model prog w) A (binaryOp .Mod (.int a t) (.int b u)) Q E s :=
  mod_int' (by omega) (h _ _ (fmod_lo _ hb) (fmod_hi _ hb) rfl)
theorem mul_small (ha : -18446744073709551616 < a) (ha' : a < 18446744073709551616) (h : Q (.int (a * b) s.toks) { s with toks := s.toks + 1 }) : wpAny (model prog w) A (binaryOp .Mult (.int a t) (.int b u)) Q E s :=
  mul_int h (IntMulOk.of_left (intBits_le_64 (by omega) (by omega)))
end
section
variable {w : World} {E : Value → Shared → Prop} {s : Shared} {base h₀ : Heap} {outer : List Env} {env : Env} {L : Addr} {m mg mb : Str → Option Value} {mean : ExcName → Option Value} {news : List (Addr × Obj)} {A₀ A : Around}

local macro_rules | `(tactic| walk_at "subscriptTail Name Constant ref int") => `(tactic| (k_here; (with_reducible show wpAny _ _ (subscriptTail _ _ (Value.ref _) (Value.int _ _)) _ _ _); k_dflt (refine' item_lit ?N ?hm ?h0 ?h1 ?hx ?_ ?hs; (case N => k_asm); (case hm => k_mem); (case h0 => decide); (case h1 => decide); (case hx => rfl); (case hs => with_unfolding_all rfl))))
local macro_rules | `(tactic| walk_at "binaryOp Mod int int") => `(tactic| (k_here; refine mod_letter (by first | decide | omega) ?_; intro r' t' hlo' hhi' hr'))
local macro_rules | `(tactic| walk_at "binaryOp Mult int int") => `(tactic| (k_here; refine mul_small (by omega) (by omega) ?_))
local macro_rules | `(tactic| k_all) => `(tactic| with_reducible assumption)
set_option maxHeartbeats 8000000 in
theorem take_spec {S : Addr} {a b top : Int} {t u tt : Tok} {c : Nat} {Q : Value → Shared → Prop} (B : Below A₀ base outer h₀) (F : Fr h₀ L s.heap m) (X : (hd.heap_39 w.params).In h₀)
    (N : News h₀ L s.heap ((S, srcObj a b t u c) :: news)) (T : Top hd.view_39 (looseW hd.view_39 [Str.ofString "WORD"]) mean mg mb h₀)
    (hA : A.frames = some (env :: outer)) (hf : env.frame = some L) (hke : env.scope.kind = .function) (hh : A.handled = none) (hroom : A.depth + 20 < recursionLimit) (hun : A.units + 200 < cLine)
    (hS : ∀ p ∈ news, p.1 ≠ S) (hsrc : Src a b) (htop : 0 < top) (htop2 : top ≤ 1000)
    (ret : ∀ d a' b' td t' u' c' h' tk', 0 ≤ d → d < top → Src a' b' → Fr h₀ L h' m → News h₀ L h' ((S, srcObj a' b' t' u' c') :: news) → Q (.int d td) { s with heap := h', toks := tk' }) :
    wpAny (model PySem.Challenge.rw_xm0746_01.row.prog w) A (call (.ref 88) [.ref S, .int top tt]) Q E s := by
  revert X; k_fill; intro X
  obtain ⟨hd', dp, fr, gd, un⟩ := A
  dsimp only at hA hh hroom hun
  subst hA hh
  have kMk := kstMark
  obtain ⟨ha, hb, hb2⟩ := hsrc
  refine wpAny_call ?_
  refine' code_tidy [(Str.ofString "top", .int top tt), (Str.ofString "source", .ref S)] B F X N T rfl hf hke ?k6 ?k7 ?k8 ?k9 ?kl ?kB ?_ ?c2 ?c3 ?c4 ?c5
  case k6 => k_is
  case k7 => k_is
  case k8 => show dp < _; omega
  case k9 => exact BindsTo.of_eq rfl
  case kl => exact rfl
  case kB => exact locs rfl
  case c2 => exact rfl
  case c3 => exact rfl
  case c4 => exact rfl
  case c5 => decide
  intro g' L' h' tk' FG' F' N' B' X' T'
  dsimp only [mapOf] at F'
  try dsimp only
  (try k_fold)
  k_steps
  · refine ret _ _ _ _ _ _ _ _ _ (by with_reducible assumption) (by with_reducible assumption) ?_ (by assumption) (by assumption)
    refine ⟨?_, hb, hb2⟩
    rw [Int.fdiv_eq_ediv_of_nonneg _ (by omega)]
    exact Int.ediv_nonneg ha (by omega)
  · refine ret _ _ _ _ _ _ _ _ _ (by with_reducible assumption) (by with_reducible assumption) ?_ (by assumption) (by assumption)
    exact ⟨ha, by with_reducible assumption, by with_reducible assumption⟩
end
end Mine

namespace Mine
theorem fresh11 {M : Model} {A : Around} {E : Value → Shared → Prop} {s : Shared} {Q : Value → Shared → Prop} (h : wpAny M A (call (.ref 1) []) Q E s) : wpAny M A (call (.ref 1) []) Q E s := by
  w_top off
  k_with_none
  first | (walk1; fail) | exact h
end Mine

namespace Mine
open PySem.Spec PySem.Calls Builtin Builtin.ObjectAttr PySem.W.KBw

section
variable {prog : Program} {w : World} {A : Around} {E : Value → Shared → Prop} {s : Shared} {a b : Int} {u t : Tok} {Q : Value → Shared → Prop}
theorem mod_let (hb : 0 < b) (h : ∀ r t', 0 ≤ r → r < b → r = a % b → Q (.int r t') { s with toks := s.toks + 1 }) : wpAny (model prog w) A (binaryOp .Mod (.int a t) (.int b u)) Q E s :=
  mod_int' (by omega) (h _ _ (fmod_lo _ hb) (fmod_hi _ hb) (Int.fmod_eq_emod_of_nonneg _ (Int.le_of_lt hb)))
end
theorem getD_mem {ns : List Int} {i : Nat} (h : i < ns.length) : ns.getD i 0 ∈ ns := by
  rw [List.getD_eq_getElem?_getD, List.getElem?_eq_getElem h]
  exact List.getElem_mem h
section
variable {w : World} {E : Value → Shared → Prop} {s : Shared} {base h₀ : Heap} {outer : List Env} {env : Env} {L : Addr} {m mg mb : Str → Option Value} {mean : ExcName → Option Value} {news : List (Addr × Obj)} {A₀ A : Around}

local macro_rules | `(tactic| walk_at "hr") => `(tactic| (simp only [depth_deeper]; omega))
local macro_rules | `(tactic| walk_at "hu") => `(tactic| (simp only [units_deeper]; omega))
local macro_rules | `(tactic| walk_at "binaryOp Mod int int") => `(tactic| (k_here; refine mod_let (by first | decide | omega) ?_; intro r' t' hlo' hhi' hr'))
set_option maxHeartbeats 8000000 in
theorem pool_spec {l : Addr} {vs : List Value} {ns : List Int} {k : Int} {tk : Tok} {Q : Value → Shared → Prop} (B : Below A₀ base outer h₀) (F : Fr h₀ L s.heap m) (X : (hd.heap_39 w.params).In h₀)
    (N : News h₀ L s.heap news) (T : Top hd.view_39 (looseW hd.view_39 [Str.ofString "WORD"]) mean mg mb h₀)
    (hA : A.frames = some (env :: outer)) (hf : env.frame = some L) (hke : env.scope.kind = .function) (hh : A.handled = none) (hroom : A.depth + 20 < recursionLimit) (hun : A.units + 200 < cLine)
    (hl : h₀.IsList l vs.toArray) (hi : IntsAre vs ns) (hn : ns.length ≤ 63) (h0 : 0 ≤ k) (h1 : k ≤ 1)
    (ret : ∀ D a b t u c h' tk', Src a b → Fr h₀ L h' m → News h₀ L h' ((D, srcObj a b t u c) :: news) → (∀ p ∈ news, p.1 < D) → Q (.ref D) { s with heap := h', toks := tk' }) :
    wpAny (model PySem.Challenge.rw_xm0746_01.row.prog w) A (call (.ref 81) [.ref l, .int k tk]) Q E s := by
  revert X; k_fill; intro X
  obtain ⟨hd', dp, fr, gd, un⟩ := A
  dsimp only at hA hh hroom hun
  subst hA hh
  have kMk := kstMark
  refine wpAny_call ?_
  refine' code_tidy [(Str.ofString "k", .int k tk), (Str.ofString "script", .ref l)] B F X N T rfl hf hke ?k6 ?k7 ?k8 ?k9 ?kl ?kB ?_ ?c2 ?c3 ?c4 ?c5
  case k6 => k_is
  case k7 => k_is
  case k8 => show dp < _; omega
  case k9 => exact BindsTo.of_eq rfl
  case kl => exact rfl
  case kB => exact locs rfl
  case c2 => exact rfl
  case c3 => exact rfl
  case c4 => exact rfl
  case c5 => decide
  intro g' L' h' tk' FG' F' N' B' X' T'
  dsimp only [mapOf] at F'
  have hlg : g'.IsList l vs.toArray := hl.at fun o e => FG'.keep l o e
  try dsimp only
  (try k_fold)
  k_steps
  all_goals (
    refine ret _ _ _ _ _ _ _ _ ?_ (by assumption) (by assumption) (by with_reducible assumption)
    refine ⟨Int.mul_nonneg ?_ ?_, by with_reducible assumption, by with_reducible assumption⟩)
  all_goals (split <;> omega)

local macro_rules | `(tactic| walk_at "call ref") => `(tactic| (k_here; k_dflt (refine' take_spec (by k_asm) (by k_asm) (by k_asm) (by k_asm) (by k_asm) (by rfl) (by rfl) (by rfl) (by rfl) (by walk_at "hr") (by walk_at "hu") ?hS ?hs ?h0 ?h1 ?_; (case hS => assumption); (case hs => assumption); (case h0 => omega); (case h1 => omega); (intro d' a' b' td' t' u' c' h' tk' hlo' hhi' hsrc' F' N'; (try k_fold)))))
set_option maxHeartbeats 8000000 in
theorem one_spec {S D : Addr} {a b : Int} {t u : Tok} {c k : Nat} {vs : List Value} {ns : List Int} {Q : Value → Shared → Prop} (B : Below A₀ base outer h₀) (F : Fr h₀ L s.heap m) (X : (hd.heap_39 w.params).In h₀)
    (N : News h₀ L s.heap ((S, srcObj a b t u c) :: (D, listOf vs.toArray k) :: news)) (T : Top hd.view_39 (looseW hd.view_39 [Str.ofString "WORD"]) mean mg mb h₀)
    (hA : A.frames = some (env :: outer)) (hf : env.frame = some L) (hke : env.scope.kind = .function) (hh : A.handled = none) (hroom : A.depth + 30 < recursionLimit) (hun : A.units + 300 < cLine)
    (hS : ∀ p ∈ (D, listOf vs.toArray k) :: news, p.1 ≠ S) (hsrc : Src a b) (hi : IntsAre vs ns) (hn : 0 < ns.length) (hn2 : ns.length ≤ 1000)
    (ret : ∀ x a' b' td t' u' c' h' tk', x ∈ ns → Src a' b' → Fr h₀ L h' m → News h₀ L h' ((S, srcObj a' b' t' u' c') :: (D, listOf vs.toArray k) :: news) → Q (.int x td) { s with heap := h', toks := tk' }) :
    wpAny (model PySem.Challenge.rw_xm0746_01.row.prog w) A (call (.ref 95) [.ref S, .ref D]) Q E s := by
  revert X; k_fill; intro X
  obtain ⟨hd', dp, fr, gd, un⟩ := A
  dsimp only at hA hh hroom hun
  subst hA hh
  have kMk := kstMark
  have hlen := hi.length
  refine wpAny_call ?_
  refine' code_tidy [(Str.ofString "things", .ref D), (Str.ofString "source", .ref S)] B F X N T rfl hf hke ?k6 ?k7 ?k8 ?k9 ?kl ?kB ?_ ?c2 ?c3 ?c4 ?c5
  case k6 => k_is
  case k7 => k_is
  case k8 => show dp < _; omega
  case k9 => exact BindsTo.of_eq rfl
  case kl => exact rfl
  case kB => exact locs rfl
  case c2 => exact rfl
  case c3 => exact rfl
  case c4 => exact rfl
  case c5 => decide
  intro g' L' h' tk' FG' F' N' B' X' T'
  dsimp only [mapOf] at F'
  try dsimp only
  (try k_fold)
  k_steps
  refine ret _ _ _ _ _ _ _ _ _ (getD_mem (by omega)) (by with_reducible assumption) (by assumption) (by assumption)
end
end Mine

namespace Mine
theorem fresh12 {M : Model} {A : Around} {E : Value → Shared → Prop} {s : Shared} {Q : Value → Shared → Prop} (h : wpAny M A (call (.ref 1) []) Q E s) : wpAny M A (call (.ref 1) []) Q E s := by
  w_top off
  k_with_none
  first | (walk1; fail) | exact h
end Mine

namespace Mine
open PySem.Spec PySem.Calls Builtin Builtin.ObjectAttr PySem.W.KBw

theorem news_pull {h₀ h : Heap} {L : Addr} {x : Addr × Obj} {pre post : List (Addr × Obj)} (N : News h₀ L h (pre ++ x :: post)) : News h₀ L h (x :: (pre ++ post)) := fun p hp => N p (by
  rcases List.mem_cons.mp hp with rfl | hp
  · simp
  · rcases List.mem_append.mp hp with hp | hp <;> simp [hp])
theorem news_push {h₀ h : Heap} {L : Addr} {x : Addr × Obj} {pre post : List (Addr × Obj)} (N : News h₀ L h (x :: (pre ++ post))) : News h₀ L h (pre ++ x :: post) := fun p hp => N p (by
  rcases List.mem_append.mp hp with hp | hp
  · simp [hp]
  · rcases List.mem_cons.mp hp with rfl | hp
    · simp
    · simp [hp])

section
variable {w : World} {E : Value → Shared → Prop} {s : Shared} {base h₀ : Heap} {outer : List Env} {env : Env} {L : Addr} {m mg mb : Str → Option Value} {mean : ExcName → Option Value} {pre post : List (Addr × Obj)} {A₀ A : Around}

theorem take_at {S : Addr} {a b top : Int} {t u tt : Tok} {c : Nat} {Q : Value → Shared → Prop} (pre : List (Addr × Obj)) (B : Below A₀ base outer h₀) (F : Fr h₀ L s.heap m) (X : (hd.heap_39 w.params).In h₀)
    (N : News h₀ L s.heap (pre ++ (S, srcObj a b t u c) :: post)) (T : Top hd.view_39 (looseW hd.view_39 [Str.ofString "WORD"]) mean mg mb h₀)
    (hA : A.frames = some (env :: outer)) (hf : env.frame = some L) (hke : env.scope.kind = .function) (hh : A.handled = none) (hroom : A.depth + 20 < recursionLimit) (hun : A.units + 200 < cLine)
    (hS : ∀ p ∈ pre ++ post, p.1 ≠ S) (hsrc : Src a b) (htop : 0 < top) (htop2 : top ≤ 1000)
    (ret : ∀ d a' b' td t' u' c' h' tk', 0 ≤ d → d < top → Src a' b' → Fr h₀ L h' m → News h₀ L h' (pre ++ (S, srcObj a' b' t' u' c') :: post) → Q (.int d td) { s with heap := h', toks := tk' }) :
    wpAny (model PySem.Challenge.rw_xm0746_01.row.prog w) A (call (.ref 88) [.ref S, .int top tt]) Q E s :=
  take_spec B F X (news_pull N) T hA hf hke hh hroom hun hS hsrc htop htop2 fun d a' b' td t' u' c' h' tk' h1 h2 h3 F' N' => ret d a' b' td t' u' c' h' tk' h1 h2 h3 F' (news_push N')

theorem take3_at {S : Addr} {a b : Int} {t u tt : Tok} {c : Nat} {Q : Value → Shared → Prop} (pre : List (Addr × Obj)) (B : Below A₀ base outer h₀) (F : Fr h₀ L s.heap m) (X : (hd.heap_39 w.params).In h₀)
    (N : News h₀ L s.heap (pre ++ (S, srcObj a b t u c) :: post)) (T : Top hd.view_39 (looseW hd.view_39 [Str.ofString "WORD"]) mean mg mb h₀)
    (hA : A.frames = some (env :: outer)) (hf : env.frame = some L) (hke : env.scope.kind = .function) (hh : A.handled = none) (hroom : A.depth + 20 < recursionLimit) (hun : A.units + 200 < cLine)
    (hS : ∀ p ∈ pre ++ post, p.1 ≠ S) (hsrc : Src a b)
    (ret : ∀ d a' b' td t' u' c' h' tk', (d = 0 ∨ d = 1 ∨ d = 2) → Src a' b' → Fr h₀ L h' m → News h₀ L h' (pre ++ (S, srcObj a' b' t' u' c') :: post) → Q (.int d td) { s with heap := h', toks := tk' }) :
    wpAny (model PySem.Challenge.rw_xm0746_01.row.prog w) A (call (.ref 88) [.ref S, .int 3 tt]) Q E s :=
  take_at pre B F X N T hA hf hke hh hroom hun hS hsrc (by decide) (by decide) fun d a' b' td t' u' c' h' tk' h1 h2 h3 F' N' => ret d a' b' td t' u' c' h' tk' (by omega) h3 F' N'

theorem one_at {S D : Addr} {a b : Int} {t u : Tok} {c k : Nat} {vs : List Value} {ns : List Int} {Q : Value → Shared → Prop} (pre : List (Addr × Obj)) (B : Below A₀ base outer h₀) (F : Fr h₀ L s.heap m) (X : (hd.heap_39 w.params).In h₀)
    (N : News h₀ L s.heap ((D, listOf vs.toArray k) :: (pre ++ (S, srcObj a b t u c) :: post))) (T : Top hd.view_39 (looseW hd.view_39 [Str.ofString "WORD"]) mean mg mb h₀)
    (hA : A.frames = some (env :: outer)) (hf : env.frame = some L) (hke : env.scope.kind = .function) (hh : A.handled = none) (hroom : A.depth + 30 < recursionLimit) (hun : A.units + 300 < cLine)
    (hS : ∀ p ∈ (D, listOf vs.toArray k) :: (pre ++ post), p.1 ≠ S) (hsrc : Src a b) (hi : IntsAre vs ns) (hn : 0 < ns.length) (hn2 : ns.length ≤ 1000)
    (ret : ∀ x a' b' td t' u' c' h' tk', x ∈ ns → Src a' b' → Fr h₀ L h' m → News h₀ L h' ((D, listOf vs.toArray k) :: (pre ++ (S, srcObj a' b' t' u' c') :: post)) → Q (.int x td) { s with heap := h', toks := tk' }) :
    wpAny (model PySem.Challenge.rw_xm0746_01.row.prog w) A (call (.ref 95) [.ref S, .ref D]) Q E s := by
  have N1 : News h₀ L s.heap ((S, srcObj a b t u c) :: (D, listOf vs.toArray k) :: (pre ++ post)) := news_pull (pre := (D, listOf vs.toArray k) :: pre) N
  exact one_spec B F X N1 T hA hf hke hh hroom hun hS hsrc hi hn hn2 fun x a' b' td t' u' c' h' tk' h1 h2 F' N' => ret x a' b' td t' u' c' h' tk' h1 h2 F' (news_push (pre := (D, listOf vs.toArray k) :: pre) N')
end
/-- the ints of written items -/
def intV : Value → Int
  | .int n _ => n
  | _ => 0
def intsV : List Value → List Int
  | [] => []
  | v :: r => intV v :: intsV r
section
variable {w : World} {E : Value → Shared → Prop} {s : Shared} {base h₀ : Heap} {outer : List Env} {env : Env} {L : Addr} {m mg mb : Str → Option Value} {mean : ExcName → Option Value} {pre post : List (Addr × Obj)} {A₀ A : Around}
theorem one_lit {S D : Addr} {a b : Int} {t u : Tok} {c k : Nat} {vs : List Value} {Q : Value → Shared → Prop} (pre : List (Addr × Obj)) (B : Below A₀ base outer h₀) (F : Fr h₀ L s.heap m) (X : (hd.heap_39 w.params).In h₀)
    (N : News h₀ L s.heap ((D, listOf vs.toArray k) :: (pre ++ (S, srcObj a b t u c) :: post))) (T : Top hd.view_39 (looseW hd.view_39 [Str.ofString "WORD"]) mean mg mb h₀)
    (hA : A.frames = some (env :: outer)) (hf : env.frame = some L) (hke : env.scope.kind = .function) (hh : A.handled = none) (hroom : A.depth + 30 < recursionLimit) (hun : A.units + 300 < cLine)
    (hS : ∀ p ∈ (D, listOf vs.toArray k) :: (pre ++ post), p.1 ≠ S) (hsrc : Src a b) (hi : IntsAre vs (intsV vs)) (hn : 0 < (intsV vs).length) (hn2 : (intsV vs).length ≤ 1000)
    (ret : ∀ x a' b' td t' u' c' h' tk', x ∈ intsV vs → Src a' b' → Fr h₀ L h' m → News h₀ L h' ((D, listOf vs.toArray k) :: (pre ++ (S, srcObj a' b' t' u' c') :: post)) → Q (.int x td) { s with heap := h', toks := tk' }) :
    wpAny (model PySem.Challenge.rw_xm0746_01.row.prog w) A (call (.ref 95) [.ref S, .ref D]) Q E s :=
  one_at pre B F X N T hA hf hke hh hroom hun hS hsrc hi hn hn2 ret
end
section
variable {prog : Program} {w : World} {A : Around} {E : Value → Shared → Prop} {s : Shared} {h₀ : Heap} {L D : Addr} {m : Str → Option Value} {news : List (Addr × Obj)} {vs : List Value} {k : Nat} {Q : Value → Shared → Prop}
theorem bytes_lit (F : Fr h₀ L s.heap m) (N : News h₀ L s.heap ((D, listOf vs.toArray k) :: news)) (hh : A.handled = none) (hi : IntsAre vs (intsV vs)) (hr : KBa.In (intsV vs)) (hn : (intsV vs).length ≤ 1000)
    (h : ∀ b t' k' h', bInts b = intsV vs → b.size = (intsV vs).length → Fr h₀ L h' m → News h₀ L h' ((D, listOf vs.toArray k) :: news) → Q (.bytes b t') { s with heap := h', toks := k' }) : wpAny (model prog w) A (call (.type "bytes") [.ref D]) Q E s := bytes_K F N hh hi hr hn h
end
section
variable {prog : Program} {w : World} {A : Around} {E : Value → Shared → Prop} {s : Shared} {a b : Int} {u t : Tok} {Q : Value → Shared → Prop}
theorem div_let (hb : 0 < b) (hb2 : b < 1073741824) (h : ∀ q t', q = a / b → Q (.int q t') { s with toks := s.toks + 1 }) : wpAny (model prog w) A (binaryOp .FloorDiv (.int a t) (.int b u)) Q E s :=
  floordiv_int (by omega) (h _ _ (Int.fdiv_eq_ediv_of_nonneg _ (Int.le_of_lt hb))) (.inl (PyProof.noPylong_small (by omega)))
theorem whl_if {b : Bool} {T F : Prop} (h1 : b = true → T) (h2 : b = false → F) : WhlIf b T F := by
  cases b with
  | true => exact WhlIf.yes rfl (h1 rfl)
  | false => exact WhlIf.no rfl (h2 rfl)
end
end Mine

namespace Mine
theorem fresh13 {M : Model} {A : Around} {E : Value → Shared → Prop} {s : Shared} {Q : Value → Shared → Prop} (h : wpAny M A (call (.ref 1) []) Q E s) : wpAny M A (call (.ref 1) []) Q E s := by
  w_top off
  k_with_none
  first | (walk1; fail) | exact h
end Mine

namespace Mine
open PySem.Spec PySem.Calls Builtin Builtin.ObjectAttr PySem.W.KBw

/-- a number read off the head of a list of octets -/
def gvl : Nat → Int → List Int → Option (Int × List Int)
  | 0, _, _ => none
  | _ + 1, _, [] => none
  | k + 1, n, o :: r => if k = 0 then some (n * 256 + o, r) else if o < 128 then some (n * 128 + o, r) else gvl k (n * 128 + o % 128) r
/-- octets that read as v behind whatever came, seven bits each -/
def Oct (v : Int) (os : List Int) : Prop := ∀ (k : Nat) (n : Int) (tail : List Int), os.length < k → gvl k n (os ++ tail) = some (n * 128 ^ os.length + v, tail)
/-- octets that are a number's -/
def Enc (n : Int) (ks : List Int) : Prop := KBa.In ks ∧ 1 ≤ ks.length ∧ ks.length ≤ 9 ∧ ∀ tail, gvl 9 0 (ks ++ tail) = some (n, tail)

theorem oct_one {d : Int} (h : d < 128) : Oct d [d] := fun k n tail hk => by
  obtain ⟨j, rfl⟩ : ∃ j, k = j + 2 := ⟨k - 2, by simp at hk; omega⟩
  simp [gvl, h]
theorem oct_cons {v o : Int} {os : List Int} (h : Oct v os) (ho : ¬ o < 128) (hl : 0 < os.length) : Oct (o % 128 * 128 ^ os.length + v) (o :: os) := fun k n tail hk => by
  obtain ⟨j, rfl⟩ : ∃ j, k = j + 1 := ⟨k - 1, by simp at hk; omega⟩
  have hj : os.length < j := by simpa using hk
  have : j ≠ 0 := by omega
  simp only [List.cons_append, gvl, if_neg this, if_neg ho]
  rw [h j _ tail hj, List.length_cons, Int.pow_succ]
  congr 2
  rw [Int.add_mul, Int.mul_comm (128 ^ os.length) 128, ← Int.mul_assoc]
  omega
theorem enc_oct {v : Int} {os : List Int} (h : Oct v os) (hi : KBa.In os) (h1 : 1 ≤ os.length) (h8 : os.length ≤ 8) : Enc v os :=
  ⟨hi, h1, by omega, fun tail => by
    have := h 9 0 tail (by omega)
    rw [this]
    simp⟩
theorem enc_nine {d : Int} (h0 : 0 ≤ d) (h1 : d < 256) : Enc (18446744073709551360 + d) [255, 255, 255, 255, 255, 255, 255, 255, d] := by
  refine ⟨fun x hx => ?_, by simp, by simp, fun tail => ?_⟩
  · simp only [List.mem_cons, List.not_mem_nil, or_false] at hx
    omega
  · simp [gvl]

theorem oct_pad {v : Int} {os : List Int} (h : Oct v os) (hl : 0 < os.length) : Oct v (128 :: os) := by
  have := oct_cons h (o := 128) (by decide) hl
  have e : (128 : Int) % 128 * 128 ^ os.length + v = v := by
    rw [show (128 : Int) % 128 = 0 by decide, Int.zero_mul, Int.zero_add]
  rw [e] at this
  exact this
theorem oct1 {x d : Int} (hd : d < 128) (e : x = d) : Oct x [d] := by
  subst e
  exact oct_one hd
theorem oct2 {x r d : Int} (h0 : 0 ≤ r) (h1 : r < 128) (hd : d < 128) (e : x = r * 128 + d) : Oct x [128 + r, d] := by
  have := oct_cons (oct_one hd) (o := 128 + r) (by omega) (by simp)
  have e2 : (128 + r) % 128 * 128 ^ [d].length + d = x := by
    have e3 : (128 : Int) ^ [d].length = 128 := by simp
    have e4 : (128 + r) % 128 = r := by omega
    rw [e3, e4]
    omega
  rw [e2] at this
  exact this
theorem oct3 {x q r d : Int} (h0 : 0 ≤ r) (h1 : r < 128) (g0 : 0 ≤ q) (g1 : q < 128) (hd : d < 128) (e : x = (q * 128 + r) * 128 + d) : Oct x [128 + q, 128 + r, d] := by
  have := oct_cons (oct2 h0 h1 hd rfl) (o := 128 + q) (by omega) (by simp)
  have e2 : (128 + q) % 128 * 128 ^ [128 + r, d].length + (r * 128 + d) = x := by
    have e3 : (128 : Int) ^ [128 + r, d].length = 16384 := by simp
    have e4 : (128 + q) % 128 = q := by omega
    rw [e3, e4]
    omega
  rw [e2] at this
  exact this
theorem big64 : (2 : Int) ^ (64 : Int).toNat - 256 = 18446744073709551360 := by decide
/-- gv reads at a place what gvl reads off the rest -/
theorem gv_gvl {bs : List Int} : ∀ {k : Nat} {n : Int} {a : Nat} {v : Int} {r : List Int}, gvl k n (bs.drop a) = some (v, r) → gv bs k n a = some (v, bs.length - r.length) ∧ r = bs.drop (bs.length - r.length)
  | 0, _, _, _, _, h => by cases h
  | k + 1, n, a, v, r, h => by
    cases hd : bs.drop a with
    | nil => rw [hd] at h; cases h
    | cons o r' =>
      have ha : a < bs.length := by
        apply Decidable.byContradiction
        intro hn
        rw [List.drop_of_length_le (by omega)] at hd
        cases hd
      have hcons := List.drop_eq_getElem_cons ha
      rw [hd] at hcons
      obtain ⟨rfl, rfl⟩ := List.cons.inj hcons
      have hget : bs[a]? = some bs[a] := List.getElem?_eq_getElem ha
      have hlen : (bs.drop (a + 1)).length = bs.length - (a + 1) := List.length_drop
      rw [hd] at h
      unfold gvl at h
      unfold gv
      rw [hget]
      dsimp only
      split at h
      · rename_i hk
        cases h
        rw [if_pos hk, hlen]
        have e : bs.length - (bs.length - (a + 1)) = a + 1 := by omega
        rw [e]
        exact ⟨rfl, rfl⟩
      · rename_i hk
        rw [if_neg hk]
        split at h
        · rename_i ho
          cases h
          rw [if_pos ho, hlen]
          have e : bs.length - (bs.length - (a + 1)) = a + 1 := by omega
          rw [e]
          exact ⟨rfl, rfl⟩
        · rename_i ho
          rw [if_neg ho]
          exact gv_gvl h

theorem one_b {x d : Int} (h : x = 0 ∨ x = 1 ∨ x = 9 ∨ x = 12 ∨ x = 127 ∨ x = 128 ∨ x = 129 ∨ x = 16383 ∨ x = 16384 ∨ x = 2097151 ∨ x = d) (h0 : 0 ≤ d) (h1 : d < 128) : 0 ≤ x ∧ x ≤ 2097151 := by
  omega
section
variable {w : World} {E : Value → Shared → Prop} {s : Shared} {base h₀ : Heap} {outer : List Env} {env : Env} {L : Addr} {m mg mb : Str → Option Value} {mean : ExcName → Option Value} {news : List (Addr × Obj)} {A₀ A : Around}

local macro_rules | `(tactic| walk_at "hr") => `(tactic| (simp only [depth_deeper]; omega))
local macro_rules | `(tactic| walk_at "hu") => `(tactic| (simp only [units_deeper]; omega))
local macro_rules | `(tactic| walk_at "binaryOp Mod int int") => `(tactic| (k_here; refine mod_let (by first | decide | omega) ?_; intro r' t' hlo' hhi' hr'))
local macro_rules | `(tactic| walk_at "binaryOp FloorDiv int int") => `(tactic| (k_here; refine div_let (by decide) (by decide) ?_; intro q' t' hq'))
local macro_rules | `(tactic| walk_at "exec While Compare cons nil") => `(tactic| (k_here; k_dflt (refine whl_start 5 ?_)))
local macro_rules | `(tactic| walk_at "WhlIf") => `(tactic| ((refine whl_if ?_ ?_ <;> (intro hw'; first | replace hw' := of_decide_eq_true hw' | replace hw' := of_decide_eq_false hw')) <;> (try (exfalso; omega))))
local macro_rules | `(tactic| walk_at "call type:bytes") => `(tactic| (k_here; k_dflt (refine' bytes_lit ?F ?N ?h1 ?h2 ?h3 ?h4 ?_; (case F => k_asm); (case N => k_asm); (case h1 => rfl); (case h2 => repeat (first | exact IntsAre.nil | refine IntsAre.cons _ _ ?_)); (case h3 => (intro x hx; simp only [intsV, intV, List.mem_cons, List.not_mem_nil, or_false] at hx; omega)); (case h4 => exact Nat.le_of_ble_eq_true rfl)); intro b' t' k' h' hb' hs' F' N'))
local macro_rules | `(tactic| k_all) => `(tactic| with_reducible assumption)
local macro_rules | `(tactic| walk_at "call ref") => `(tactic| (k_here; k_dflt ((first
  | (refine' one_lit [] (by k_asm) (by k_asm) (by k_asm) (by k_asm) (by k_asm) (by rfl) (by rfl) (by rfl) (by rfl) (by walk_at "hr") (by walk_at "hu") ?hS ?hs ?hi ?h0 ?h1 ?_)); (case hS => k_all); (case hs => assumption); (case hi => repeat (first | exact IntsAre.nil | refine IntsAre.cons _ _ ?_)); (case h0 => exact Nat.succ_pos _); (case h1 => exact Nat.le_of_ble_eq_true rfl); (intro x' a' b' td' t' u' c' h' tk' hx' hsrc' F' N'; (try dsimp only [List.nil_append, List.cons_append] at N'); (simp only [intsV, intV, List.mem_cons, List.not_mem_nil, or_false] at hx'); (replace hx' := one_b hx' (by with_reducible assumption) (by with_reducible assumption)); (try k_fold)))))
local macro_rules | `(tactic| walk_at "call ref") => `(tactic| (k_here; k_dflt ((first
  | (refine' take_at [] (by k_asm) (by k_asm) (by k_asm) (by k_asm) (by k_asm) (by rfl) (by rfl) (by rfl) (by rfl) (by walk_at "hr") (by walk_at "hu") ?hS ?hs ?h0 ?h1 ?_)); (case hS => k_all); (case hs => assumption); (case h0 => decide); (case h1 => decide); (intro d' a' b' td' t' u' c' h' tk' hlo' hhi' hsrc' F' N'; (try dsimp only [List.nil_append, List.cons_append] at N'); (try k_fold)))))
local macro_rules | `(tactic| walk_at "call ref") => `(tactic| (k_here; k_dflt ((first
  | (refine' take3_at [_, _, _] (by k_asm) (by k_asm) (by k_asm) (by k_asm) (by k_asm) (by rfl) (by rfl) (by rfl) (by rfl) (by walk_at "hr") (by walk_at "hu") ?hS ?hs ?_)
  | (refine' take3_at [_, _, _, _, _] (by k_asm) (by k_asm) (by k_asm) (by k_asm) (by k_asm) (by rfl) (by rfl) (by rfl) (by rfl) (by walk_at "hr") (by walk_at "hu") ?hS ?hs ?_)
  | (refine' take3_at [_, _, _, _, _, _, _] (by k_asm) (by k_asm) (by k_asm) (by k_asm) (by k_asm) (by rfl) (by rfl) (by rfl) (by rfl) (by walk_at "hr") (by walk_at "hu") ?hS ?hs ?_)
  | (refine' take3_at [_, _, _, _, _, _, _, _, _] (by k_asm) (by k_asm) (by k_asm) (by k_asm) (by k_asm) (by rfl) (by rfl) (by rfl) (by rfl) (by walk_at "hr") (by walk_at "hu") ?hS ?hs ?_)); (case hS => k_all); (case hs => assumption); (intro d' a' b' td' t' u' c' h' tk' hd3' hsrc' F' N'; (try dsimp only [List.nil_append, List.cons_append] at N'); (rcases hd3' with hd3' | hd3' | hd3') <;> (subst hd3'; (try k_fold))))))
set_option maxHeartbeats 8000000 in
theorem varint_spec {S : Addr} {a b : Int} {t u : Tok} {c : Nat} {Q : Value → Shared → Prop} (B : Below A₀ base outer h₀) (F : Fr h₀ L s.heap m) (X : (hd.heap_39 w.params).In h₀)
    (N : News h₀ L s.heap ((S, srcObj a b t u c) :: news)) (T : Top hd.view_39 (looseW hd.view_39 [Str.ofString "WORD"]) mean mg mb h₀)
    (hA : A.frames = some (env :: outer)) (hf : env.frame = some L) (hke : env.scope.kind = .function) (hh : A.handled = none) (hroom : A.depth + 40 < recursionLimit) (hun : A.units + 400 < cLine)
    (hS : ∀ p ∈ news, p.1 ≠ S) (hsrc : Src a b)
    (ret : ∀ n bs T tn tb a' b' t' u' c' h' tk', Enc n (bInts bs) → Src a' b' → Fr h₀ L h' m → News h₀ L h' ((T, tupObj [.int n tn, .bytes bs tb]) :: (S, srcObj a' b' t' u' c') :: news) → (∀ p ∈ news, p.1 < T) → S < T → Q (.ref T) { s with heap := h', toks := tk' }) :
    wpAny (model PySem.Challenge.rw_xm0746_01.row.prog w) A (call (.ref 102) [.ref S]) Q E s := by
  revert X; k_fill; intro X
  obtain ⟨hd', dp, fr, gd, un⟩ := A
  dsimp only at hA hh hroom hun
  subst hA hh
  have kMk := kstMark
  refine wpAny_call ?_
  refine' code_tidy [(Str.ofString "source", .ref S)] B F X N T rfl hf hke ?k6 ?k7 ?k8 ?k9 ?kl ?kB ?_ ?c2 ?c3 ?c4 ?c5
  case k6 => k_is
  case k7 => k_is
  case k8 => show dp < _; omega
  case k9 => exact BindsTo.of_eq rfl
  case kl => exact rfl
  case kB => exact locs rfl
  case c2 => exact rfl
  case c3 => exact rfl
  case c4 => exact rfl
  case c5 => decide
  intro g' L' h' tk' FG' F' N' B' X' T'
  dsimp only [mapOf] at F'
  try dsimp only
  (try k_fold)
  k_steps
  all_goals (
    rename (_ < _ ∧ _) => hl
    have hl2 := hl
    repeat (replace hl2 := hl2.2)
    refine ret _ _ _ _ _ _ _ _ _ _ _ _ ?_ ?_ (by assumption) (cb_drop (by assumption) (List.forall_mem_cons.mpr ⟨by k_mem, List.forall_mem_cons.mpr ⟨by k_mem, fun p hp => by repeat (first | exact hp | refine List.Mem.tail _ ?_)⟩⟩)) (of_allLt hl2) (ltN (by omega))
    rotate_left
    · with_reducible assumption
    rename bInts _ = _ => hb
    rw [hb]
    simp only [intsV, intV])
  · rw [big64]
    exact enc_nine (by with_reducible assumption) (by with_reducible assumption)
  all_goals (refine enc_oct ?_ (by intro z hz; simp only [List.mem_cons, List.not_mem_nil, or_false] at hz; omega) (by simp) (by simp))
  all_goals (repeat (refine oct_pad ?_ (by simp)))
  all_goals first
    | exact oct3 (by omega) (by omega) (by omega) (by omega) (by omega) (by omega)
    | exact oct2 (by omega) (by omega) (by omega) (by omega)
    | exact oct1 (by omega) (by omega)
end
end Mine

namespace Mine
theorem fresh14 {M : Model} {A : Around} {E : Value → Shared → Prop} {s : Shared} {Q : Value → Shared → Prop} (h : wpAny M A (call (.ref 1) []) Q E s) : wpAny M A (call (.ref 1) []) Q E s := by
  w_top off
  k_with_none
  first | (walk1; fail) | exact h
end Mine

namespace Mine
open PySem.Spec PySem.Calls Builtin Builtin.ObjectAttr PySem.W.KBw

theorem kf_hit {k a : Int} {u : Tok} {r : List Value} (h : k = a) : kf_at k (.int a u :: r) = some 0 := by
  subst h
  simp [kf_at, isInt]
theorem kf_miss {k a : Int} {u : Tok} {r : List Value} {j : Nat} (h : k ≠ a) (h2 : kf_at k r = some j) : kf_at k (.int a u :: r) = some (j + 1) := by
  have : (a == k) = false := by simpa using Ne.symm h
  simp [kf_at, isInt, this, h2]
theorem any_hit {k a : Int} {u : Tok} {r : List Value} (h : k = a) : (Value.int a u :: r).any (isInt k) = true := by
  subst h
  simp [isInt]
theorem any_past {k a : Int} {u : Tok} {r : List Value} (h : r.any (isInt k) = true) : (Value.int a u :: r).any (isInt k) = true := by
  simp only [List.any_cons, h, Bool.or_true]
theorem any_miss {k a : Int} {u : Tok} {r : List Value} (h : k ≠ a) (h2 : r.any (isInt k) = false) : (Value.int a u :: r).any (isInt k) = false := by
  have : (a == k) = false := by simpa using Ne.symm h
  simp [isInt, this, h2]

/-- what must come back of a size and the octets behind it -/
def Verdict (cat : List Int) (z : Int) : Option (List Int) → Prop
  | some us => (∀ ts e, HeadOk (z :: cat) ts e → ts = us ∧ e = z) ∧ ¬ HeadBad (z :: cat)
  | none => ∀ ts e, ¬ HeadOk (z :: cat) ts e

section
variable {prog : Program} {w : World} {A : Around} {E : Value → Shared → Prop} {s : Shared} {env : Env}
/-- a counted loop whose ground turns in each turn -/
theorem range_turn {g : Heap} {r : Addr} {b₀ : Int} {t₀ u₀ v₀ : Tok} {n : Nat} {m₀ : Str → Option Value} {led : List (Addr × Obj)} {x d : Str} {px : Pos} {body : List Stmt} {R : Result → Shared → Prop} (Gd : Heap → Prop)
    (hh : A.handled = none) (hr : IsRange s.heap r 0 b₀ 1 t₀ u₀ v₀) (hsmall : Builtin.Range.small 0 b₀ 1 = true) (hn : Builtin.Range.rangeSize 0 b₀ 1 = (n : Int)) (hx : env.kindOf x = some .local)
    (hp : (env.scope.kind == .class || (env.scope.kind == .module && env.locals != env.globals)) = false)
    (G : Gd g) (F : Fr g env.locals s.heap m₀) (N : News g env.locals s.heap led) {E' : Value → Shared → Prop} (hE : ∀ e s', E' e s' → notedBy (model prog w) A env (fun e s' => R (.error e) s') e s')
    (turn : ∀ z t u I o g₁ h tk, 0 ≤ z → z < (n : Int) → (∀ p ∈ led, p.1 < I) → Gd g₁ → Fr g₁ env.locals h (fun y => if y = x then some (.int z t) else if y = d then u else m₀ y) → News g₁ env.locals h ((I, o) :: led) →
      wpAny (model prog w) A (execs body env) (fun f s₃ => match f with
        | .next => ∃ g₂ h₂ tk₂ u₂ v₂, s₃ = { s with heap := h₂, toks := tk₂ } ∧ Gd g₂ ∧ Fr g₂ env.locals h₂ (fun y => if y = x then v₂ else if y = d then u₂ else m₀ y) ∧ News g₂ env.locals h₂ ((I, o) :: led)
        | .ret v => R (.ok (.ret v)) s₃
        | _ => False) E' { s with heap := h, toks := tk })
    (done : ∀ g₁ h tk u v, Gd g₁ → Fr g₁ env.locals h (fun y => if y = x then v else if y = d then u else m₀ y) → News g₁ env.locals h led → R (.ok .next) { s with heap := h, toks := tk }) :
    wpAny (model prog w) A (pyIter (.ref r)) (fun it s₂ => codeAny (model prog w) A (.forLoop (.Name x px) it body [] env) R s₂) E s := by
  refine wpAny_pyIter_range hr hsmall ?_
  generalize hI : s.heap.objs.size = I
  have hlt : ∀ p ∈ led, p.1 < I := fun p hp => hI ▸ Heap.lt_size (N p hp).1
  have hL : I ≠ env.locals := fun e => absurd F.ns.lt (by rw [← e, ← hI]; exact Nat.lt_irrefl _)
  have W := Walks.range (prog := prog) (w := w) (A := A) hh I 0 1 n
  refine codeAny_forLoop (fun k s' => ∃ i : Nat, ∃ (g₁ h : Heap) (tk : Nat) (u v : Option Value), s' = { s with heap := h, toks := tk } ∧ Gd g₁ ∧ IsRangeIter h I (0 + (i : Int) * 1) ((n : Int) - (i : Nat)) 1 ∧ Fr g₁ env.locals h (fun y => if y = x then v else if y = d then u else m₀ y) ∧ News g₁ env.locals h led ∧ g₁.get? I = none ∧ i ≤ n ∧ k = n + 1 - i) ?_ (n + 1) ?_
  · rintro k s' ⟨i, g₁, h, tk, u, v, rfl, hG, hst, F₁, N₁, hgI, hi, rfl⟩
    have next : ∀ h₁ : Heap, (∀ b o, b ∉ [I] → h.get? b = some o → h₁.get? b = some o) → Fr g₁ env.locals h₁ (fun y => if y = x then v else if y = d then u else m₀ y) ∧ News g₁ env.locals h₁ led := fun h₁ hk₁ =>
      ⟨⟨F₁.ns.at' fun o e => hk₁ _ o (by simpa using hL.symm) e, fun b o e => hk₁ b o (by
          intro hb
          rw [List.mem_singleton.mp hb, hgI] at e
          cases e) (F₁.keep b o e), F₁.above⟩, fun p hp => ⟨hk₁ _ _ (by
          intro hb
          exact absurd (hlt p hp) (by rw [List.mem_singleton.mp hb]; exact Nat.lt_irrefl _)) (N₁ p hp).1, (N₁ p hp).2⟩⟩
    by_cases hin : i < n
    · refine W.item i { s with heap := h, toks := tk } _ _ hin hst fun v' h₁ tk₁ hP hst₁ hk₁ => ?_
      obtain ⟨t, rfl⟩ := hP
      obtain ⟨F₂, N₂⟩ := next h₁ hk₁
      refine wpAny_assign_Name (wpAny_storeName_local hx F₂.ns (fun h₂ hn₂ hs₂ => ?_) hp)
      have F₃ := F₂.set hn₂ hs₂
      have N₃ := N₂.set hs₂
      have e : (fun y => if y = x then some (Value.int (0 + (i : Int) * 1) t) else (fun y => if y = x then v else if y = d then u else m₀ y) y) = fun y => if y = x then some (.int (0 + (i : Int) * 1) t) else if y = d then u else m₀ y := by
        funext y
        by_cases q : y = x <;> simp [q]
      rw [e] at F₃
      have hst₂ := W.frame _ _ h₂ hst₁ fun b hb o e => (hs₂.2 b fun q => by
        rw [List.mem_singleton.mp hb] at q
        exact hL q).trans e
      have N₄ : News g₁ env.locals h₂ ((I, _) :: led) := fun p hp => by
        rcases List.mem_cons.mp hp with rfl | hp
        · exact ⟨hst₂, hL, hgI⟩
        · exact N₃ p hp
      have T := turn (0 + (i : Int) * 1) t u I _ g₁ h₂ (tk₁ + 1) (by omega) (by omega) hlt hG F₃ N₄
      refine wpAny_mono T (fun f s₃ p => ?_) hE
      cases f with
      | next =>
        obtain ⟨g₂, h₂, tk₂, u₂, v₂, rfl, hG₂, F₅, N₅⟩ := p
        exact ⟨n + 1 - (i + 1), by omega, i + 1, g₂, h₂, tk₂, u₂, v₂, rfl, hG₂, (N₅ _ (.head _)).1, F₅, fun p hp => N₅ p (.tail _ hp), (N₅ _ (.head _)).2.2, hin, rfl⟩
      | ret v => exact p
      | cont => exact p.elim
      | brk => exact p.elim
    · have : i = n := by omega
      subst this
      refine W.done { s with heap := h, toks := tk } _ _ hst fun h₁ tk₁ hk₁ => wpAny_execs_nil ?_
      obtain ⟨F₂, N₂⟩ := next h₁ hk₁
      exact done g₁ h₁ tk₁ u v hG F₂ N₂
  · refine ⟨0, g, _, s.toks, m₀ d, m₀ x, rfl, G, ?_, ?_, ?_, ?_, Nat.zero_le _, rfl⟩
    · have := Heap.get?_push_size s.heap (o := { cls := .type "range_iterator", data := .fields #[rawInt 0, rawInt (Builtin.Range.rangeSize 0 b₀ 1), rawInt 1] }) rfl
      rw [hI, hn] at this
      simpa [hn] using this
    · have e : (fun y => if y = x then m₀ x else if y = d then m₀ d else m₀ y) = m₀ := by
        funext y
        by_cases q : y = x
        · simp [q]
        · by_cases q2 : y = d
          · rw [if_neg q, if_pos q2, q2]
          · rw [if_neg q, if_neg q2]
      rw [e]
      exact F.push _
    · exact fun p hp => ⟨Heap.get?_push_of_some _ (N p hp).1, (N p hp).2⟩
    · rw [← hI]
      exact next_is_new F
end

section
variable {prog : Program} {w : World} {A : Around} {E : Value → Shared → Prop} {s : Shared} {h₀ : Heap} {L : Addr} {m : Str → Option Value} {news : List (Addr × Obj)}
theorem ne_pair {T D U C : Addr} {e z : Int} {t t' : Tok} {vs ws : List Value} {c c' : Nat} {us : List Int} {Q : Value → Shared → Prop} (N : News h₀ L s.heap news) (hT : (T, tupObj [.ref D, .int e t]) ∈ news) (hD : (D, listOf vs.toArray c) ∈ news)
    (hU : (U, tupObj [.ref C, .int z t']) ∈ news) (hC : (C, listOf ws.toArray c') ∈ news) (hv : IntsAre vs us) (hw : IntsAre ws us) (he : e = z) (hu : A.units + 64 < cLine) (h : Q (.bool false) s) : wpAny (model prog w) A (compareOp .NotEq (.ref T) (.ref U)) Q E s := by
  subst he
  have sh : SeqAt.shaped (.tuple [.list (us.map PyData.int), .int e]) = true := by
    simp [SeqAt.shaped, PyData.canLay0, PyData.canLayAll0, PyData.depth, PyData.depthAll, ke_canLayAll0, ke_depthAll]
  refine ne_dataH (reads_tuple_at (News.get N hT) rfl rfl (ReadsAll.cons (reads_newData (PySem.IsL.isList (N _ hD).1) (ke_carried hv)) (ReadsAll.cons (Reads.int e t) ReadsAll.nil)))
    (reads_tuple_at (News.get N hU) rfl rfl (ReadsAll.cons (reads_newData (PySem.IsL.isList (N _ hC).1) (ke_carried hw)) (ReadsAll.cons (Reads.int e t') ReadsAll.nil))) sh sh hu ?_
  · have : PyData.eqv (.tuple [.list (us.map PyData.int), .int e]) (.tuple [.list (us.map PyData.int), .int e]) = true := by
      simp [PyData.eqv, PyData.eqvAll, ked_eqvAll]
    rw [this]
    exact h
end
end Mine

namespace Mine
theorem fresh15 {M : Model} {A : Around} {E : Value → Shared → Prop} {s : Shared} {Q : Value → Shared → Prop} (h : wpAny M A (call (.ref 1) []) Q E s) : wpAny M A (call (.ref 1) []) Q E s := by
  w_top off
  k_with_none
  first | (walk1; fail) | exact h
end Mine

namespace Mine
open PySem.Spec PySem.Calls Builtin Builtin.ObjectAttr PySem.W.KBw
section
variable {w : World} {E : Value → Shared → Prop} {s : Shared} {base h₀ : Heap} {outer : List Env} {env : Env} {L : Addr} {m mg mb : Str → Option Value} {mean : ExcName → Option Value} {news : List (Addr × Obj)} {A₀ A : Around}
theorem told_some {b ob : Array UInt8} {tb : Tok} {z : Int} {us : List Int} {Q : Value → Shared → Prop} (B : Below A₀ base outer h₀) (F : Fr h₀ L s.heap m) (X : (hd.heap_39 w.params).In h₀)
    (N : News h₀ L s.heap news) (T : Top hd.view_39 (looseW hd.view_39 [Str.ofString "WORD"]) mean mg mb h₀) (XB : (hd.heap_39 w.params).In base) (TB : Top hd.view_39 (looseW hd.view_39 [Str.ofString "WORD"]) mean mg mb base) (D : KtsDicts (outer.filterMap (·.frame)) h₀)
    (hA : A.frames = some (env :: outer)) (hf : env.frame = some L) (hke : env.scope.kind = .function) (hh : A.handled = none) (hroom : A.depth + 40 < recursionLimit) (hun : A.units + 400 < cLine)
    (hv : Verdict (bInts ob) z (some us)) (hb : bInts b = [z]) (hs : b.size = 1) (hz : ob.size ≤ 900)
    (ret : ∀ T' D' t2 c vs h₁ h' tk', IntsAre vs us → KtsTurn (outer.filterMap (·.frame)) h₀ h₁ → Fr h₁ L h' m → News h₁ L h' ((T', tupObj [.ref D', .int z t2]) :: (D', listOf vs.toArray c) :: news) → (∀ p ∈ news, p.1 < D') → @LT.lt Nat _ D' T' → Below A₀ base outer h₁ → Q (.ref T') { s with heap := h', toks := tk' }) :
    wpAny (model PySem.Challenge.rw_xm0746_01.row.prog w) A (call (.ref 109) [.bytes (b ++ ob) tb]) Q E s := by
  have e : bInts (b ++ ob) = z :: bInts ob := by
    have : bInts (b ++ ob) = bInts b ++ bInts ob := by simp [bInts]
    rw [this, hb]; rfl
  refine told_spec B F X N T XB TB D hA hf hke hh hroom hun (by rw [Array.size_append]; omega) ?_
  intro v h₁ nw h' tk' hT KT F' N' B'
  rw [e] at hT
  rcases hT with ⟨hbad, _, _⟩ | ⟨ts, e', vs, c, T', D', t2, hok, hi, rfl, rfl, l1, l2⟩
  · exact absurd hbad hv.2
  · obtain ⟨rfl, rfl⟩ := hv.1 _ _ hok
    exact ret _ _ _ _ _ _ _ _ hi KT F' N' l1 l2 B'
theorem told_no {b ob : Array UInt8} {tb : Tok} {z : Int} {Q : Value → Shared → Prop} (B : Below A₀ base outer h₀) (F : Fr h₀ L s.heap m) (X : (hd.heap_39 w.params).In h₀)
    (N : News h₀ L s.heap news) (T : Top hd.view_39 (looseW hd.view_39 [Str.ofString "WORD"]) mean mg mb h₀) (XB : (hd.heap_39 w.params).In base) (TB : Top hd.view_39 (looseW hd.view_39 [Str.ofString "WORD"]) mean mg mb base) (D : KtsDicts (outer.filterMap (·.frame)) h₀)
    (hA : A.frames = some (env :: outer)) (hf : env.frame = some L) (hke : env.scope.kind = .function) (hh : A.handled = none) (hroom : A.depth + 40 < recursionLimit) (hun : A.units + 400 < cLine)
    (hv : Verdict (bInts ob) z none) (hb : bInts b = [z]) (hs : b.size = 1) (hz : ob.size ≤ 900)
    (ret : ∀ h₁ h' tk', KtsTurn (outer.filterMap (·.frame)) h₀ h₁ → Fr h₁ L h' m → News h₁ L h' news → Below A₀ base outer h₁ → Q .none { s with heap := h', toks := tk' }) :
    wpAny (model PySem.Challenge.rw_xm0746_01.row.prog w) A (call (.ref 109) [.bytes (b ++ ob) tb]) Q E s := by
  have e : bInts (b ++ ob) = z :: bInts ob := by
    have : bInts (b ++ ob) = bInts b ++ bInts ob := by simp [bInts]
    rw [this, hb]; rfl
  refine told_spec B F X N T XB TB D hA hf hke hh hroom hun (by rw [Array.size_append]; omega) ?_
  intro v h₁ nw h' tk' hT KT F' N' B'
  rw [e] at hT
  rcases hT with ⟨hbad, rfl, rfl⟩ | ⟨ts, e', vs, c, T', D', t2, hok, _⟩
  · exact ret _ _ _ KT F' N' B'
  · exact absurd hok (hv _ _)
end

theorem range_stop {prog : Program} {w : World} {A : Around} {E : Value → Shared → Prop} {s : Shared} {env : Env} {r : Addr} {x : Str} {px : Pos} {body : List Stmt} {R : Result → Shared → Prop}
    (h : Stop (wpAny (model prog w) A (pyIter (.ref r)) (fun it s₂ => codeAny (model prog w) A (.forLoop (.Name x px) it body [] env) R s₂) E s)) :
    wpAny (model prog w) A (pyIter (.ref r)) (fun it s₂ => codeAny (model prog w) A (.forLoop (.Name x px) it body [] env) R s₂) E s := h
theorem fr_due {g : Heap} {L : Addr} {h : Heap} {m m' : Str → Option Value} (F : Fr g L h m) (e : ∀ y, m y = m' y) : Fr g L h m' := (funext e : m = m') ▸ F
theorem fr_due1 {g : Heap} {L : Addr} {h : Heap} {x d : Str} {V v u : Option Value} {m₀ : Str → Option Value} (F : Fr g L h (fun y => if y = d then V else if y = x then v else if y = d then u else m₀ y)) (e : x ≠ d) : Fr g L h (fun y => if y = x then v else if y = d then V else m₀ y) := by
  refine fr_due F fun y => ?_
  by_cases h1 : y = d
  · subst h1
    simp [Ne.symm e]
  · simp [h1]
theorem fr_due2 {g : Heap} {L : Addr} {h : Heap} {x d : Str} {V W v u : Option Value} {m₀ : Str → Option Value} (F : Fr g L h (fun y => if y = d then V else if y = d then W else if y = x then v else if y = d then u else m₀ y)) (e : x ≠ d) : Fr g L h (fun y => if y = x then v else if y = d then V else m₀ y) := by
  refine fr_due F fun y => ?_
  by_cases h1 : y = d
  · subst h1
    simp [Ne.symm e]
  · simp [h1]
theorem mem_skip {α : Type} {y : α} {l l' : List α} (h : ∀ p ∈ l', p ∈ l) : ∀ p ∈ l', p ∈ y :: l := fun p hp => .tail _ (h p hp)
theorem mem_whole {α : Type} {l : List α} : ∀ p ∈ l, p ∈ l := fun _ h => h
theorem off_I {I C D a : Addr} {o : Obj} {l : List (Addr × Obj)} (h : LCg.Off3 I C D l) (m : (a, o) ∈ l) : a ≠ I := (LCg.Off3.mem h _ m).1
theorem off_C {I C D a : Addr} {o : Obj} {l : List (Addr × Obj)} (h : LCg.Off3 I C D l) (m : (a, o) ∈ l) : a ≠ C := (LCg.Off3.mem h _ m).2.1
theorem off_D {I C D a : Addr} {o : Obj} {l : List (Addr × Obj)} (h : LCg.Off3 I C D l) (m : (a, o) ∈ l) : a ≠ D := (LCg.Off3.mem h _ m).2.2
theorem off_1 {D a : Addr} {o : Obj} : ∀ {l : List (Addr × Obj)}, LCg.Off1 D l → (a, o) ∈ l → a ≠ D
  | [], _, h => nomatch h
  | _ :: _, h, m => by
    rcases List.mem_cons.mp m with e | m
    · subst e
      exact h.1
    · exact off_1 h.2 m
end Mine

namespace Mine
theorem fresh16 {M : Model} {A : Around} {E : Value → Shared → Prop} {s : Shared} {Q : Value → Shared → Prop} (h : wpAny M A (call (.ref 1) []) Q E s) : wpAny M A (call (.ref 1) []) Q E s := by
  w_top off
  k_with_none
  first | (walk1; fail) | exact h
end Mine

namespace Mine
open PySem.Spec PySem.Calls Builtin Builtin.ObjectAttr PySem.W.KBw

/-- the numbers' octets, one behind the other -/
def catOf (vs : List (Int × List Int)) : List Int := (vs.map (·.2)).flatten
/-- where the i-th number ends, behind the size's own octet -/
def endAt (vs : List (Int × List Int)) (i : Nat) : Nat := 1 + (catOf (vs.take i)).length
def Encs (vs : List (Int × List Int)) : Prop := ∀ p ∈ vs, Enc p.1 p.2

theorem endAt_zero {vs : List (Int × List Int)} : endAt vs 0 = 1 := by simp [endAt, catOf]
theorem catOf_app {vs us : List (Int × List Int)} : catOf (vs ++ us) = catOf vs ++ catOf us := by simp [catOf]
theorem take_next {vs : List (Int × List Int)} {i : Nat} (h : i < vs.length) : vs.take (i + 1) = vs.take i ++ [vs[i]] := by simp
theorem endAt_next {vs : List (Int × List Int)} {i : Nat} (h : i < vs.length) : endAt vs (i + 1) = endAt vs i + vs[i].2.length := by
  unfold endAt
  rw [take_next h, catOf_app, List.length_append]
  simp [catOf]
  omega
theorem endAt_step {vs : List (Int × List Int)} (hE : Encs vs) {i : Nat} (h : i < vs.length) : endAt vs i < endAt vs (i + 1) := by
  rw [endAt_next h]
  have := (hE _ (List.getElem_mem h)).2.1
  omega
theorem endAt_lt {vs : List (Int × List Int)} (hE : Encs vs) {i : Nat} : ∀ {j : Nat}, i < j → j ≤ vs.length → endAt vs i < endAt vs j
  | 0, h, _ => absurd h (Nat.not_lt_zero _)
  | j + 1, h, hj => by
    have s := endAt_step hE (i := j) (by omega)
    by_cases q : i = j
    · rw [q]; exact s
    · have := endAt_lt hE (i := i) (j := j) (by omega) (by omega)
      omega
theorem endAt_inj {vs : List (Int × List Int)} (hE : Encs vs) {i j : Nat} (hi : i ≤ vs.length) (hj : j ≤ vs.length) (h : endAt vs i = endAt vs j) : i = j := by
  by_cases a : i < j
  · have := endAt_lt hE a hj
    omega
  · by_cases b : j < i
    · have := endAt_lt hE b hi
      omega
    · omega
theorem endAt_all {vs : List (Int × List Int)} {z : Int} : endAt vs vs.length = (z :: catOf vs).length := by
  simp [endAt]
  omega
theorem drop_end {vs : List (Int × List Int)} {z : Int} {i : Nat} (h : i < vs.length) : (z :: catOf vs).drop (endAt vs i) = vs[i].2 ++ catOf (vs.drop (i + 1)) := by
  have e : catOf vs = catOf (vs.take i) ++ (vs[i].2 ++ catOf (vs.drop (i + 1))) := by
    have e2 : vs = vs.take i ++ ([vs[i]] ++ vs.drop (i + 1)) := by
      have := List.take_append_drop i vs
      rw [List.drop_eq_getElem_cons h] at this
      exact this.symm
    have e3 : catOf vs = catOf (vs.take i) ++ (catOf [vs[i]] ++ catOf (vs.drop (i + 1))) := by
      rw [← catOf_app, ← catOf_app, ← e2]
    rw [e3]
    simp [catOf]
  unfold endAt
  rw [Nat.add_comm, List.drop_succ_cons]
  conv => lhs; rw [e]
  rw [List.drop_left]
theorem gv_at {vs : List (Int × List Int)} (hE : Encs vs) {z : Int} {i : Nat} (h : i < vs.length) : gv (z :: catOf vs) 9 0 (endAt vs i) = some (vs[i].1, endAt vs (i + 1)) := by
  have g : gvl 9 0 ((z :: catOf vs).drop (endAt vs i)) = some (vs[i].1, catOf (vs.drop (i + 1))) := by
    rw [drop_end h]
    exact (hE _ (List.getElem_mem h)).2.2.2 _
  have hlen : ((z :: catOf vs).drop (endAt vs i)).length = vs[i].2.length + (catOf (vs.drop (i + 1))).length := by
    rw [drop_end h, List.length_append]
  rw [List.length_drop] at hlen
  have hle : endAt vs i < (z :: catOf vs).length := by
    have := endAt_lt hE h (Nat.le_refl _)
    rwa [endAt_all (z := z)] at this
  obtain ⟨g1, _⟩ := gv_gvl g
  rw [g1, endAt_next h]
  congr 2
  omega
theorem gv_zero {z : Int} {cat : List Int} (h1 : z < 128) : gv (z :: cat) 9 0 0 = some (z, 1) := by
  simp [gv, h1]
theorem rd_at {vs : List (Int × List Int)} (hE : Encs vs) {z e : Int} {a b : Nat} {ts : List Int} (h : Rd (z :: catOf vs) e a ts b) (ha : a = 1) : ∃ i, i ≤ vs.length ∧ ts = (vs.take i).map (·.1) ∧ b = endAt vs i ∧ (i ≠ 0 → (endAt vs (i - 1) : Int) < e) := by
  induction h with
  | nil =>
    subst ha
    exact ⟨0, Nat.zero_le _, by simp, endAt_zero.symm, fun h => absurd rfl h⟩
  | snoc hr hlt hg ih =>
    obtain ⟨i, hi, rfl, rfl, _⟩ := ih
    by_cases q : i < vs.length
    · rw [gv_at hE q] at hg
      cases hg
      refine ⟨i + 1, q, ?_, rfl, fun _ => by simpa using hlt⟩
      rw [take_next q, List.map_append]
      rfl
    · have hi' : i = vs.length := by omega
      subst hi'
      have b := gv_bound hg
      rw [endAt_all (z := z)] at b
      omega
theorem ok_at {vs : List (Int × List Int)} (hE : Encs vs) {z e : Int} {ts : List Int} (h1 : z < 128) (h : HeadOk (z :: catOf vs) ts e) : e = z ∧ ∃ i, i ≤ vs.length ∧ ts = (vs.take i).map (·.1) ∧ z.toNat = endAt vs i ∧ 1 ≤ z := by
  obtain ⟨a, g, h2, h3, h4⟩ := h
  rw [gv_zero h1] at g
  cases g
  obtain ⟨i, hi, ht, hb, _⟩ := rd_at hE h4 rfl
  exact ⟨rfl, i, hi, ht, hb, h3⟩
theorem verdict_no {vs : List (Int × List Int)} {cat : List Int} {z : Int} (hE : Encs vs) (hc : cat = catOf vs) (h1 : z < 128) (hn : ∀ i, i ≤ vs.length → z ≠ endAt vs i) : Verdict cat z none := by
  subst hc
  intro ts e h
  obtain ⟨_, i, hi, _, hz, h0⟩ := ok_at hE h1 h
  exact hn i hi (by omega)
theorem verdict_yes {vs : List (Int × List Int)} {cat us : List Int} {z : Int} (i : Nat) (hE : Encs vs) (hc : cat = catOf vs) (h1 : z < 128) (hi : i ≤ vs.length) (hz : z = endAt vs i) (hu : us = (vs.take i).map (·.1)) : Verdict cat z (some us) := by
  subst hc
  have mono : ∀ a b, a ≤ b → b ≤ vs.length → endAt vs a ≤ endAt vs b := fun a b hab hb => by
    by_cases q : a = b
    · rw [q]; exact Nat.le_refl _
    · exact Nat.le_of_lt (endAt_lt hE (by omega) hb)
  have one : 1 ≤ endAt vs i := by unfold endAt; omega
  have top : endAt vs i ≤ (z :: catOf vs).length := by
    rw [← endAt_all (z := z)]
    exact mono _ _ hi (Nat.le_refl _)
  refine ⟨fun ts e h => ?_, fun h => ?_⟩
  · obtain ⟨he, j, hj, ht, hz', _⟩ := ok_at hE h1 h
    have : j = i := endAt_inj hE hj hi (by omega)
    subst this
    exact ⟨ht.trans hu.symm, he⟩
  · rcases h with h | ⟨e, a, g, h⟩
    · rw [gv_zero h1] at h
      cases h
    · rw [gv_zero h1] at g
      cases g
      rcases h with h | h | ⟨ks, b, hr, hb, hg⟩ | ⟨ks, b, hr, hb⟩
      · omega
      · omega
      · obtain ⟨j, hj, _, rfl, _⟩ := rd_at hE hr rfl
        have hjl : j < vs.length := by
          apply Decidable.byContradiction
          intro q
          have : j = vs.length := by omega
          subst this
          have := mono i vs.length hi (Nat.le_refl _)
          omega
        rw [gv_at hE hjl] at hg
        cases hg
      · obtain ⟨j, hj, _, rfl, hp⟩ := rd_at hE hr rfl
        have hij : i < j := by
          apply Decidable.byContradiction
          intro q
          have := mono j i (by omega) hi
          omega
        have := hp (by omega)
        have := mono i (j - 1) (by omega) (by omega)
        omega
end Mine

namespace Mine
theorem fresh17 {M : Model} {A : Around} {E : Value → Shared → Prop} {s : Shared} {Q : Value → Shared → Prop} (h : wpAny M A (call (.ref 1) []) Q E s) : wpAny M A (call (.ref 1) []) Q E s := by
  w_top off
  k_with_none
  first | (walk1; fail) | exact h
end Mine

namespace Mine
open PySem.Spec PySem.Calls Builtin Builtin.ObjectAttr PySem.W.KBw

def Verd (ks : List Int) : Option (List Int × Int) → Prop
  | some r => (∀ ts e, HeadOk ks ts e → ts = r.1 ∧ e = r.2) ∧ ¬ HeadBad ks
  | none => ∀ ts e, ¬ HeadOk ks ts e
theorem rd_mono {bs : List Int} {e : Int} {a b : Nat} {ks : List Int} (h : Rd bs e a ks b) : a ≤ b ∧ (a = b → ks = []) ∧ ∀ k c, gv bs 9 0 a = some (k, c) → a < b → c ≤ b ∧ (c = b → ks = [k]) := by
  induction h with
  | nil => exact ⟨Nat.le_refl _, fun _ => rfl, fun _ _ _ h => absurd h (Nat.lt_irrefl _)⟩
  | snoc hr hlt hg ih =>
    rename_i b₉ c₉ _ _
    have hb := gv_bound hg
    obtain ⟨i1, i2, i3⟩ := ih
    refine ⟨by omega, fun h => by omega, fun k c hk _ => ?_⟩
    by_cases q : a = b₉
    · have e1 := i2 q
      subst e1
      rw [← q, hk] at hg
      cases hg
      exact ⟨Nat.le_refl _, fun _ => rfl⟩
    · have := (i3 k c hk (by omega)).1
      exact ⟨by omega, fun h => by omega⟩
theorem verd_cons {z : Int} {cat : List Int} (h : Verdict cat z none) : Verd (z :: cat) none := h
theorem verd_some {z : Int} {cat us : List Int} (h : Verdict cat z (some us)) : Verd (z :: cat) (some (us, z)) := h
theorem enc129 : Encs [(128, [129, 0])] := fun p hp => by
  rw [List.mem_singleton.mp hp]
  refine enc_oct ?_ (fun x hx => ?_) (by simp) (by simp)
  · have := oct2 (x := 128) (r := 1) (d := 0) (by decide) (by decide) (by decide) (by decide)
    exact this
  · simp only [List.mem_cons, List.not_mem_nil, or_false] at hx
    omega
theorem v_a : Verd [2, 129, 0] none := by
  refine verdict_no (vs := [(128, [129, 0])]) enc129 rfl (by decide) fun i hi => ?_
  match i, hi with
  | 0, _ => decide
  | 1, _ => decide
theorem v_b : Verd [3, 129, 0] (some ([128], 3)) := verdict_yes (vs := [(128, [129, 0])]) 1 enc129 rfl (by decide) (by decide) (by decide) (by decide)
theorem v_c : Verd [] none := fun ts e h => by
  obtain ⟨a, g, _⟩ := h
  cases g
theorem v_d : Verd [255] none := fun ts e h => by
  obtain ⟨a, g, _⟩ := h
  simp [gv] at g
theorem v_e : Verd [128, 3, 7, 9] (some ([7], 3)) := by
  have g0 : gv [128, 3, 7, 9] 9 0 0 = some (3, 2) := by decide
  have g2 : gv [128, 3, 7, 9] 9 0 2 = some (7, 3) := by decide
  refine ⟨fun ts e h => ?_, fun h => ?_⟩
  · obtain ⟨a, g, h1, h2, h3⟩ := h
    rw [g0] at g
    cases g
    obtain ⟨_, _, i3⟩ := rd_mono h3
    exact ⟨(i3 7 3 g2 (by decide)).2 rfl, rfl⟩
  · rcases h with h | ⟨e, a, g, h⟩
    · rw [g0] at h; cases h
    · rw [g0] at g
      cases g
      rcases h with h | h | ⟨ks, b, hr, hb, hg⟩ | ⟨ks, b, hr, hb⟩
      · simp at h
      · omega
      · obtain ⟨i1, _, _⟩ := rd_mono hr
        have : b = 2 := by omega
        subst this
        rw [g2] at hg
        cases hg
      · cases hr with
        | nil => omega
        | snoc hr' hlt hg =>
          rename_i b' _ _
          obtain ⟨i1, _, _⟩ := rd_mono hr'
          have : b' = 2 := by omega
          subst this
          rw [g2] at hg
          cases hg
          omega

theorem fr_same {h₀ h₁ h : Heap} {L : Addr} {m : Str → Option Value} (T : KtsTurn [] h₀ h₁) (F : Fr h₁ L h m) : Fr h₀ L h m :=
  ⟨F.ns, fun b o e => F.keep b o (T.other b o e (fun h => nomatch h)), by rw [← T.size]; exact F.above⟩
theorem news_same {h₀ h₁ h : Heap} {L : Addr} {news : List (Addr × Obj)} (T : KtsTurn [] h₀ h₁) (N : News h₁ L h news) : News h₀ L h news := fun p hp =>
  ⟨(N p hp).1, (N p hp).2.1, kts_none (fun b o e => T.other b o e (fun h => nomatch h)) (N p hp).2.2⟩

section
variable {w : World} {E : Value → Shared → Prop} {s : Shared} {h₀ : Heap} {env : Env} {L : Addr} {m mg mb : Str → Option Value} {mean : ExcName → Option Value} {news : List (Addr × Obj)} {A₀ A : Around}
theorem flat_some {bs : Array UInt8} {tb : Tok} {ks us : List Int} {z : Int} {Q : Value → Shared → Prop} (B : Below A₀ h₀ [] h₀) (F : Fr h₀ L s.heap m) (X : (hd.heap_39 w.params).In h₀)
    (N : News h₀ L s.heap news) (T : Top hd.view_39 (looseW hd.view_39 [Str.ofString "WORD"]) mean mg mb h₀)
    (hA : A.frames = some (env :: [])) (hf : env.frame = some L) (hke : env.scope.kind = .function) (hh : A.handled = none) (hroom : A.depth + 40 < recursionLimit) (hun : A.units + 400 < cLine)
    (hv : Verd ks (some (us, z))) (hb : bInts bs = ks) (hz : ks.length ≤ 900)
    (ret : ∀ T' D' t2 c vs h' tk', IntsAre vs us → Fr h₀ L h' m → News h₀ L h' ((T', tupObj [.ref D', .int z t2]) :: (D', listOf vs.toArray c) :: news) → (∀ p ∈ news, p.1 < D') → @LT.lt Nat _ D' T' → Q (.ref T') { s with heap := h', toks := tk' }) :
    wpAny (model PySem.Challenge.rw_xm0746_01.row.prog w) A (call (.ref 109) [.bytes bs tb]) Q E s := by
  subst hb
  refine told_spec B F X N T X T ktsDicts_nil hA hf hke hh hroom hun (by rw [ints_length] at hz; omega) ?_
  intro v h₁ nw h' tk' hT KT F' N' B'
  rcases hT with ⟨hbad, _, _⟩ | ⟨ts, e', vs, c, T', D', t2, hok, hi, rfl, rfl, l1, l2⟩
  · exact absurd hbad hv.2
  · obtain ⟨rfl, rfl⟩ := hv.1 _ _ hok
    exact ret _ _ _ _ _ _ _ hi (fr_same KT F') (news_same KT N') l1 l2
theorem flat_no {bs : Array UInt8} {tb : Tok} {ks : List Int} {Q : Value → Shared → Prop} (B : Below A₀ h₀ [] h₀) (F : Fr h₀ L s.heap m) (X : (hd.heap_39 w.params).In h₀)
    (N : News h₀ L s.heap news) (T : Top hd.view_39 (looseW hd.view_39 [Str.ofString "WORD"]) mean mg mb h₀)
    (hA : A.frames = some (env :: [])) (hf : env.frame = some L) (hke : env.scope.kind = .function) (hh : A.handled = none) (hroom : A.depth + 40 < recursionLimit) (hun : A.units + 400 < cLine)
    (hv : Verd ks none) (hb : bInts bs = ks) (hz : ks.length ≤ 900)
    (ret : ∀ h' tk', Fr h₀ L h' m → News h₀ L h' news → Q .none { s with heap := h', toks := tk' }) :
    wpAny (model PySem.Challenge.rw_xm0746_01.row.prog w) A (call (.ref 109) [.bytes bs tb]) Q E s := by
  subst hb
  refine told_spec B F X N T X T ktsDicts_nil hA hf hke hh hroom hun (by rw [ints_length] at hz; omega) ?_
  intro v h₁ nw h' tk' hT KT F' N' B'
  rcases hT with ⟨hbad, rfl, rfl⟩ | ⟨ts, e', vs, c, T', D', t2, hok, _⟩
  · exact ret _ _ (fr_same KT F') (news_same KT N')
  · exact absurd hok (hv _ _)
end
end Mine

namespace Mine
theorem fresh18 {M : Model} {A : Around} {E : Value → Shared → Prop} {s : Shared} {Q : Value → Shared → Prop} (h : wpAny M A (call (.ref 1) []) Q E s) : wpAny M A (call (.ref 1) []) Q E s := by
  w_top off
  k_with_none
  first | (walk1; fail) | exact h
end Mine

namespace Mine
open PySem.Spec PySem.Calls Builtin Builtin.ObjectAttr PySem.W.KBw
section
variable {w : World} {E : Value → Shared → Prop} {s : Shared} {base h₀ : Heap} {outer : List Env} {env : Env} {L : Addr} {m mg mb : Str → Option Value} {mean : ExcName → Option Value} {news post : List (Addr × Obj)} {A₀ A : Around}
theorem varint_at {S : Addr} {a b : Int} {t u : Tok} {c : Nat} {Q : Value → Shared → Prop} (pre : List (Addr × Obj)) (B : Below A₀ base outer h₀) (F : Fr h₀ L s.heap m) (X : (hd.heap_39 w.params).In h₀)
    (N : News h₀ L s.heap (pre ++ (S, srcObj a b t u c) :: post)) (T : Top hd.view_39 (looseW hd.view_39 [Str.ofString "WORD"]) mean mg mb h₀)
    (hA : A.frames = some (env :: outer)) (hf : env.frame = some L) (hke : env.scope.kind = .function) (hh : A.handled = none) (hroom : A.depth + 40 < recursionLimit) (hun : A.units + 400 < cLine)
    (hS : ∀ p ∈ pre ++ post, p.1 ≠ S) (hsrc : Src a b)
    (ret : ∀ n bs T tn tb a' b' t' u' c' h' tk', Enc n (bInts bs) → Src a' b' → Fr h₀ L h' m → News h₀ L h' ((T, tupObj [.int n tn, .bytes bs tb]) :: (pre ++ (S, srcObj a' b' t' u' c') :: post)) → (∀ p ∈ pre ++ (S, srcObj a' b' t' u' c') :: post, p.1 < T) → Q (.ref T) { s with heap := h', toks := tk' }) :
    wpAny (model PySem.Challenge.rw_xm0746_01.row.prog w) A (call (.ref 102) [.ref S]) Q E s :=
  varint_spec B F X (news_pull N) T hA hf hke hh hroom hun hS hsrc fun n bs T' tn tb a' b' t' u' c' h' tk' h1 h2 F' N' h3 h4 => ret n bs T' tn tb a' b' t' u' c' h' tk' h1 h2 F' (news_push (pre := (T', tupObj [.int n tn, .bytes bs tb]) :: pre) (fun p hp => N' p (by
    simp only [List.mem_cons, List.mem_append, List.cons_append] at hp ⊢
    grind))) fun p hp => by
      rcases List.mem_append.mp hp with hp | hp
      · exact h3 p (List.mem_append_left _ hp)
      · rcases List.mem_cons.mp hp with rfl | hp
        · exact h4
        · exact h3 p (List.mem_append_right _ hp)
theorem take5_at {S : Addr} {a b : Int} {t u tt : Tok} {c : Nat} {Q : Value → Shared → Prop} (pre : List (Addr × Obj)) (B : Below A₀ base outer h₀) (F : Fr h₀ L s.heap m) (X : (hd.heap_39 w.params).In h₀)
    (N : News h₀ L s.heap (pre ++ (S, srcObj a b t u c) :: post)) (T : Top hd.view_39 (looseW hd.view_39 [Str.ofString "WORD"]) mean mg mb h₀)
    (hA : A.frames = some (env :: outer)) (hf : env.frame = some L) (hke : env.scope.kind = .function) (hh : A.handled = none) (hroom : A.depth + 20 < recursionLimit) (hun : A.units + 200 < cLine)
    (hS : ∀ p ∈ pre ++ post, p.1 ≠ S) (hsrc : Src a b)
    (ret : ∀ d a' b' td t' u' c' h' tk', (d = 0 ∨ d = 1 ∨ d = 2 ∨ d = 3 ∨ d = 4) → Src a' b' → Fr h₀ L h' m → News h₀ L h' (pre ++ (S, srcObj a' b' t' u' c') :: post) → Q (.int d td) { s with heap := h', toks := tk' }) :
    wpAny (model PySem.Challenge.rw_xm0746_01.row.prog w) A (call (.ref 88) [.ref S, .int 5 tt]) Q E s :=
  take_at pre B F X N T hA hf hke hh hroom hun hS hsrc (by decide) (by decide) fun d a' b' td t' u' c' h' tk' h1 h2 h3 F' N' => ret d a' b' td t' u' c' h' tk' (by omega) h3 F' N'
theorem least_same {many own : Int} {tn : Tok} {Q : Value → Shared → Prop} (B : Below A₀ base outer h₀) (F : Fr h₀ L s.heap m) (X : (hd.heap_39 w.params).In h₀)
    (N : News h₀ L s.heap news) (T : Top hd.view_39 (looseW hd.view_39 [Str.ofString "WORD"]) mean mg mb h₀)
    (hA : A.frames = some (env :: outer)) (hf : env.frame = some L) (hke : env.scope.kind = .function) (hh : A.handled = none) (hroom : A.depth + 20 < recursionLimit) (hun : A.units + 200 < cLine)
    (h0 : 0 ≤ many) (h1 : many ≤ 536870912) (hp : IsL many own)
    (ret : ∀ t h' tk', Fr h₀ L h' m → News h₀ L h' news → Q (.int (many + own) t) { s with heap := h', toks := tk' }) :
    wpAny (model PySem.Challenge.rw_xm0746_01.row.prog w) A (call (.ref 121) [.int many tn]) Q E s :=
  least_spec B F X N T hA hf hke hh hroom hun h0 h1 fun own' t h' tk' hq F' N' => by
    have := isl_eq hp hq
    subst this
    exact ret t h' tk' F' N'
end
section
variable {prog : Program} {w : World} {A : Around} {E : Value → Shared → Prop} {s : Shared} {env : Env}
/-- the law's loop: its variables change, a cell's content changes, all else that was made is forgotten -/
theorem range_law {g : Heap} {r : Addr} {b₀ : Int} {t₀ u₀ v₀ : Tok} {n : Nat} {m₀ : Str → Option Value} {C : Addr} {o₀ : Obj} {w₀ : Option Value} {x : Str} (stored : List Str) {px : Pos} {body : List Stmt} {R : Result → Shared → Prop}
    (hh : A.handled = none) (hr : IsRange s.heap r 0 b₀ 1 t₀ u₀ v₀) (hsmall : Builtin.Range.small 0 b₀ 1 = true) (hn : Builtin.Range.rangeSize 0 b₀ 1 = (n : Int)) (hx : env.kindOf x = some .local)
    (hp : (env.scope.kind == .class || (env.scope.kind == .module && env.locals != env.globals)) = false)
    (F : Fr g env.locals s.heap m₀) (N : News g env.locals s.heap [(C, o₀)]) (ho₀ : o₀.data = .cell w₀) {E' : Value → Shared → Prop} (hE : ∀ e s', E' e s' → notedBy (model prog w) A env (fun e s' => R (.error e) s') e s')
    (turn : ∀ z t (u : Str → Option Value) I oI o v h tk, 0 ≤ z → z < (n : Int) → @LT.lt Nat _ C I → o.data = .cell v → Fr g env.locals h (fun y => if y = x then some (.int z t) else if stored.contains y then u y else m₀ y) → News g env.locals h [(I, oI), (C, o)] →
      wpAny (model prog w) A (execs body env) (fun f s₃ => match f with
        | .next => ∃ h₂ tk₂ u₂ o₂ v₂, s₃ = { s with heap := h₂, toks := tk₂ } ∧ o₂.data = .cell v₂ ∧ Fr g env.locals h₂ u₂ ∧ (∀ y, y ≠ x → stored.contains y = false → u₂ y = m₀ y) ∧ News g env.locals h₂ [(I, oI), (C, o₂)]
        | .ret v => R (.ok (.ret v)) s₃
        | _ => False) E' { s with heap := h, toks := tk })
    (done : ∀ h tk u o, Fr g env.locals h u → News g env.locals h [(C, o)] → R (.ok .next) { s with heap := h, toks := tk }) :
    wpAny (model prog w) A (pyIter (.ref r)) (fun it s₂ => codeAny (model prog w) A (.forLoop (.Name x px) it body [] env) R s₂) E s := by
  refine wpAny_pyIter_range hr hsmall ?_
  generalize hI : s.heap.objs.size = I
  have hlt : C < I := hI ▸ Heap.lt_size (N _ (.head _)).1
  have hL : I ≠ env.locals := fun e => absurd F.ns.lt (by rw [← e, ← hI]; exact Nat.lt_irrefl _)
  have W := Walks.range (prog := prog) (w := w) (A := A) hh I 0 1 n
  have hCL : C ≠ env.locals := (N _ (.head _)).2.1
  have hgC : g.get? C = none := (N _ (.head _)).2.2
  refine codeAny_forLoop (fun k s' => ∃ i : Nat, ∃ (h : Heap) (tk : Nat) (u : Str → Option Value) (o : Obj) (v : Option Value), s' = { s with heap := h, toks := tk } ∧ o.data = .cell v ∧ IsRangeIter h I (0 + (i : Int) * 1) ((n : Int) - (i : Nat)) 1 ∧ Fr g env.locals h u ∧ (∀ y, y ≠ x → stored.contains y = false → u y = m₀ y) ∧ News g env.locals h [(C, o)] ∧ g.get? I = none ∧ i ≤ n ∧ k = n + 1 - i) ?_ (n + 1) ?_
  · rintro k s' ⟨i, h, tk, u, o, v, rfl, hov, hst, F₁, hu, N₁, hgI, hi, rfl⟩
    have next : ∀ h₁ : Heap, (∀ b o, b ∉ [I] → h.get? b = some o → h₁.get? b = some o) → Fr g env.locals h₁ u ∧ News g env.locals h₁ [(C, o)] := fun h₁ hk₁ =>
      ⟨⟨F₁.ns.at' fun o e => hk₁ _ o (by simpa using hL.symm) e, fun b o e => hk₁ b o (by
          intro hb
          rw [List.mem_singleton.mp hb, hgI] at e
          cases e) (F₁.keep b o e), F₁.above⟩, fun p hp => ⟨hk₁ _ _ (by
          intro hb
          have hpc : p.1 = C := by rw [List.mem_singleton.mp hp]
          rw [hpc] at hb
          exact absurd hlt (by rw [List.mem_singleton.mp hb]; exact Nat.lt_irrefl _)) (N₁ p hp).1, (N₁ p hp).2⟩⟩
    by_cases hin : i < n
    · refine W.item i { s with heap := h, toks := tk } _ _ hin hst fun v' h₁ tk₁ hP hst₁ hk₁ => ?_
      obtain ⟨t, rfl⟩ := hP
      obtain ⟨F₂, N₂⟩ := next h₁ hk₁
      refine wpAny_assign_Name (wpAny_storeName_local hx F₂.ns (fun h₂ hn₂ hs₂ => ?_) hp)
      have F₃ := F₂.set hn₂ hs₂
      have N₃ := N₂.set hs₂
      have e : (fun y => if y = x then some (Value.int (0 + (i : Int) * 1) t) else u y) = fun y => if y = x then some (.int (0 + (i : Int) * 1) t) else if stored.contains y then u y else m₀ y := by
        funext y
        by_cases q : y = x
        · rw [if_pos q, if_pos q]
        · rw [if_neg q, if_neg q]
          cases q2 : stored.contains y with
          | true => rw [if_pos rfl]
          | false =>
            rw [if_neg (by decide)]
            exact hu y q q2
      rw [e] at F₃
      have hst₂ := W.frame _ _ h₂ hst₁ fun b hb o e => (hs₂.2 b fun q => by
        rw [List.mem_singleton.mp hb] at q
        exact hL q).trans e
      have N₄ : News g env.locals h₂ ((I, _) :: [(C, o)]) := fun p hp => by
        rcases List.mem_cons.mp hp with rfl | hp
        · exact ⟨hst₂, hL, hgI⟩
        · exact N₃ p hp
      have T := turn (0 + (i : Int) * 1) t u I _ o v h₂ (tk₁ + 1) (by omega) (by omega) hlt hov F₃ N₄
      refine wpAny_mono T (fun f s₃ p => ?_) hE
      cases f with
      | next =>
        obtain ⟨h₂, tk₂, u₂, o₂, v₂, rfl, hv₂, F₅, hu₂, N₅⟩ := p
        exact ⟨n + 1 - (i + 1), by omega, i + 1, h₂, tk₂, u₂, o₂, v₂, rfl, hv₂, (N₅ _ (.head _)).1, F₅, hu₂, fun p hp => N₅ p (.tail _ hp), hgI, hin, rfl⟩
      | ret v => exact p
      | cont => exact p.elim
      | brk => exact p.elim
    · have : i = n := by omega
      subst this
      refine W.done { s with heap := h, toks := tk } _ _ hst fun h₁ tk₁ hk₁ => wpAny_execs_nil ?_
      obtain ⟨F₂, N₂⟩ := next h₁ hk₁
      exact done h₁ tk₁ u o F₂ N₂
  · refine ⟨0, _, s.toks, m₀, o₀, w₀, rfl, ho₀, ?_, F.push _, fun _ _ _ => rfl, fun p hp => ⟨Heap.get?_push_of_some _ (N p hp).1, (N p hp).2⟩, ?_, Nat.zero_le _, rfl⟩
    · have := Heap.get?_push_size s.heap (o := { cls := .type "range_iterator", data := .fields #[rawInt 0, rawInt (Builtin.Range.rangeSize 0 b₀ 1), rawInt 1] }) rfl
      rw [hI, hn] at this
      simpa [hn] using this
    · rw [← hI]
      exact next_is_new F
end
end Mine

namespace Mine
theorem fresh19 {M : Model} {A : Around} {E : Value → Shared → Prop} {s : Shared} {Q : Value → Shared → Prop} (h : wpAny M A (call (.ref 1) []) Q E s) : wpAny M A (call (.ref 1) []) Q E s := by
  w_top off
  k_with_none
  first | (walk1; fail) | exact h
end Mine

namespace Mine
open PySem.Spec PySem.Calls Builtin Builtin.ObjectAttr PySem.W.KBw

section
variable {prog : Program} {w : World} {A : Around} {E : Value → Shared → Prop} {s : Shared} {base h₀ : Heap} {outer : List Env} {env : Env} {L : Addr} {m mg mb : Str → Option Value} {mean : ExcName → Option Value} {news : List (Addr × Obj)} {A₀ : Around}
  {K : Frag} {p : Program} {loose : List Str} {R : Result → Shared → Prop} {name qual : Str} {params : Arguments} {body : List Stmt} {scope : Scope} {dV kV doc pm cdv ct oc : Value} {an od : Option Addr} {osl : Array (Option Value)} {f : Addr} {args : Args} {binds : List (Str × Value)}

/-- a def entered; what lies in the ledger of the caller and is not named goes into the ground -/
theorem code_park (bl : List (Str × Value)) (B : Below A₀ base outer h₀) (F : Fr h₀ L s.heap m) (X₀ : K.In h₀) (N : News h₀ L s.heap news) (T : Top p loose mean mg mb h₀) (hA : A.frames = some (env :: outer)) (hf : env.frame = some L) (hke : env.scope.kind = .function)
    (ho : K.lookup f = some ⟨oc, od, .func (fnOf name qual params body scope dV kV doc pm an cdv ct), osl⟩) (hcd : codeIn K cdv qual = true) (hroom : A.depth < recursionLimit)
    (hbind : BindsTo s (fnOf name qual params body scope dV kV doc pm an cdv ct) args binds) (hbl : binds.reverse = bl) (hloc : ∀ y ∈ binds, scope.names.lookup y.1 = some .local)
    (h : ∀ g L' h₁ tk, Fr h₀ L g m → Fr g L' h₁ (fun y => mapOf bl y) → News g L' h₁ news → Below A base (env :: outer) g → K.In g → Top p loose mean mg mb g →
      (∀ b o, s.heap.get? b = some o → b ∉ news.map (·.1) → g.get? b = some o) →
      wpAny (model prog w) (A.deeper (envOf qual scope L' f cdv)) (execs body (envOf qual scope L' f cdv))
        (fun fl s' => R (.ok (.ret (match fl with | .ret v => v | _ => .none))) s')
        (fun e s' => wpAny (model prog w) (A.deeper (envOf qual scope L' f cdv)) (leaving (envOf qual scope L' f cdv) e) (fun _ s'' => R (.error e) s'') (fun e' s'' => R (.error e') s'') s')
        { s with heap := h₁, toks := tk })
    (hco : scope.isCoroutine = false) (hgen : scope.isGenerator = false) (hk : scope.kind = .function)
    (hcell : ∀ x ∈ scope.names, x.2 ≠ .cell) : codeAny (model prog w) A (.call (.ref f) args) R s := by
  obtain ⟨FG, BG, st, lv⟩ := groundX (R := R) B F N hA hf hke
  have X := X₀.keeps F.keep
  refine codeAny_call_def (fd := fnOf name qual params body scope dV kV doc pm an cdv ct) (body := body) (binds := binds) hroom (X _ _ ho) rfl (T.nolimit.keeps F.keep) (codeRec_of X hcd) rfl hbind hcell hloc (fun h₁ hns hk₁ => ?_) hco hgen hk
  exact h _ s.heap.objs.size h₁ _ FG ⟨((funext fun y => by rw [hbl, lookup_mapOf] : (fun y => binds.reverse.lookup y) = fun y => mapOf bl y) ▸ hns), fun b o e => hk₁ b o (of_hideAll _ e), Nat.le_of_eq (hideAll_size _ _)⟩
    (fun p hp => ⟨hk₁ _ _ (N p hp).1, Nat.ne_of_lt (Heap.lt_size (N p hp).1), hideAll_none _ (List.mem_map_of_mem hp)⟩) BG (X₀.keeps st) (T.keeps st) (fun b o e hb => hideAll_get _ e hb)

/-- back from a callee whose ground has turned, the parked objects with it -/
theorem park_back {g g' h' : Heap} {L' : Addr} {m' : Str → Option Value} {sub : List (Addr × Obj)} (B : Below A₀ base outer h₀) (FG : Fr h₀ L g m) (hf : env.frame = some L) (N : News h₀ L s.heap news) (hs : ∀ p ∈ sub, p ∈ news)
    (hp : ∀ b o, s.heap.get? b = some o → b ∉ sub.map (·.1) → g.get? b = some o)
    (T' : KtsTurn ((env :: outer).filterMap (·.frame)) g g') (F' : Fr g' L' h' m') (N' : News g' L' h' sub) :
    ∃ h₁, KtsTurn (outer.filterMap (·.frame)) h₀ h₁ ∧ Fr h₁ L h' m ∧ News h₁ L h' news ∧ Below A₀ base outer h₁ := by
  obtain ⟨h₁, T1, F1, N1, B1⟩ := turn_back B FG hf T' F' N'
  refine ⟨h₁, T1, F1, fun q hq => ⟨?_, (N q hq).2.1, T1.none_ _ (N q hq).2.2⟩, B1⟩
  by_cases hm : q.1 ∈ sub.map (·.1)
  · obtain ⟨r, hr, e⟩ := List.mem_map.mp hm
    have e1 := (N' r hr).1
    have e2 := (N r (hs r hr)).1
    rw [e, (N q hq).1] at e2
    have e3 := Option.some.inj e2
    rw [e, ← e3] at e1
    exact e1
  · have e1 := hp _ _ (N q hq).1 hm
    refine F'.keep _ _ (T'.other _ _ e1 (fun hb => ?_))
    obtain ⟨en, he, hfe⟩ := List.mem_filterMap.mp hb
    rcases List.mem_cons.mp he with rfl | he
    · rw [hf] at hfe
      exact (N q hq).2.1 (Option.some.inj hfe).symm
    · obtain ⟨_, o, ho', _⟩ := B.frames.mem (List.mem_filterMap.mpr ⟨en, he, hfe⟩)
      rw [(N q hq).2.2] at ho'
      cases ho'
end
end Mine

namespace Mine
theorem fresh20 {M : Model} {A : Around} {E : Value → Shared → Prop} {s : Shared} {Q : Value → Shared → Prop} (h : wpAny M A (call (.ref 1) []) Q E s) : wpAny M A (call (.ref 1) []) Q E s := by
  w_top off
  k_with_none
  first | (walk1; fail) | exact h
end Mine

namespace Mine
open PySem.Spec PySem.Calls Builtin Builtin.ObjectAttr PySem.W.KBw

theorem slot_join : Slot "bytes" "join" "bytes.join" :=
  .of (owner := "bytes") (n := "join") (by rw [typeLookup_type, builtinLookup_eq_fast]; kernel_rfl) (by decide +kernel) (by decide +kernel) (by decide +kernel)
    (by first | exact .inl (by decide +kernel) | exact .inr (by decide +kernel)) (by rw [isSubtype_type]; kernel_rfl)
theorem type_join : typeOf (.builtin "bytes.join") = pure (.type "method_descriptor") := by show builtinType _ = _; rw [builtinType_eq_fast]; kernel_rfl
theorem entry_join : entryFor table "bytes.join" = some Builtin.«bytes.join» := entryFor_of_tree (by kernel_rfl)
theorem args_join (a b : Value) : argsOk "bytes.join" ⟨[a, b], []⟩ := by
  unfold argsOk; rw [signature?_of (id := "bytes.join") (n := ['n', 'i', 'o', 'j']) (o := ['s', 'e', 't', 'y', 'b']) (by kernel_rfl) FB.owner_bytes]; kernel_rfl
theorem join_method {M : Model} {A : Around} {E : Value → Shared → Prop} {s : Shared} {t : Tok} {b : Array UInt8} {pl : Sem Bool} {Q : Value × List Value → Shared → Prop} (h : Q (.builtin "bytes.join", [.bytes b t]) s) : wpAny M A (getMethod (.bytes b t) (Str.ofString "join") pl) Q E s := by
  with_reducible exact KBd.method_of (.bytes b t) (typeIs_bytes _ _ _) slot_join type_join KBd.noRef h
theorem forIn_inv {β : Type} {M : Model} {A : Around} {E : Value → Shared → Prop} {s : Shared} {f : Nat → β → Sem (ForInStep β)} {n : Nat} {Q : β → Shared → Prop} (I : Nat → β → Prop)
    (step : ∀ i b, i < n → I i b → wpAny M A (f i b) (fun r s' => s' = s ∧ ∃ b', r = .yield b' ∧ I (i + 1) b') E s) (fin : ∀ b, I n b → Q b s) : ∀ (j i : Nat) (b : β), i + j = n → I i b → wpAny M A (forIn (List.range' i j 1) b f) Q E s
  | 0, i, b, h, hI => by
    have : i = n := by omega
    subst this
    simp only [List.range'_zero, List.forIn_nil]
    exact wpAny_pure (fin b hI)
  | j + 1, i, b, h, hI => by
    rw [List.range'_succ, List.forIn_cons]
    refine wpAny_bind (wpAny_mono (step i b (by omega) hI) (fun r s' hr => ?_) fun _ _ e => e)
    obtain ⟨rfl, b', rfl, hI'⟩ := hr
    exact forIn_inv I step fin j (i + 1) b' (by omega) hI'
def bvals (l : List (Array UInt8 × Tok)) : List Value := l.map fun p => .bytes p.1 p.2
def bcat (l : List (Array UInt8 × Tok)) : Array UInt8 := l.foldl (fun a p => a ++ p.1) #[]
theorem take_eq {id : String} {b : Array UInt8} {t : Tok} {M : Model} {A : Around} {E : Value → Shared → Prop} {s : Shared} {Q : Option (Array UInt8 × Option Value) → Shared → Prop} (h : Q (some (b, none)) s) : wpAny M A (Bytes.takeBufferQuiet? id (.bytes b t) 0) Q E s := by
  unfold Bytes.takeBufferQuiet?
  refine wpAny_bind (wpAny_attempt ?_)
  unfold Bytes.takeBuffer?
  rw [KBy.special_eq KBy.look_buffer, KBy.own_buffer]
  show wpAny M A (Bytes.buffer? id (.bytes b t) >>= _) _ _ s
  refine wpAny_bind (wpAny_of_eq KBy.buffer_eq ?_)
  exact wpAny_pure (wpAny_pure h)
theorem joinLetGo_eq {M : Model} {A : Around} {E : Value → Shared → Prop} {s : Shared} {keep : List Value} {Q : Unit → Shared → Prop} (h : Q () s) : ∀ (l : List (Value × Option Value)), (∀ p ∈ l, p.2 = none) → wpAny M A (Bytes.joinLetGo l keep) Q E s
  | [], _ => by
    unfold Bytes.joinLetGo
    exact wpAny_pure h
  | (x, w) :: rest, hn => by
    have : w = none := hn _ (.head _)
    subst this
    unfold Bytes.joinLetGo
    refine wpAny_bind (wpAny_letGo ?_)
    exact joinLetGo_eq h rest fun p hp => hn p (.tail _ hp)
theorem foldl_app (l : List (Array UInt8)) : ∀ (a : Array UInt8), l.foldl (fun a p => a ++ p) a = a ++ l.foldl (fun a p => a ++ p) #[] := by
  induction l with
  | nil => intro a; simp
  | cons p r ih =>
    intro a
    rw [List.foldl_cons, ih, List.foldl_cons, ih (#[] ++ p)]
    simp
theorem joined_gen (l : List (Array UInt8)) : ∀ (k : Nat) (a : Array UInt8), (l.zipIdx k).foldl (fun out (x : Array UInt8 × Nat) => (if x.2 > 0 then out ++ #[] else out) ++ x.1) a = l.foldl (fun a p => a ++ p) a := by
  induction l with
  | nil => intro k a; simp
  | cons p r ih =>
    intro k a
    rw [List.zipIdx_cons, List.foldl_cons, List.foldl_cons, ih]
    congr 1
    split <;> simp
theorem bcat_eq (l : List (Array UInt8 × Tok)) : bcat l = (l.map (·.1)).foldl (fun a p => a ++ p) #[] := by
  unfold bcat
  rw [List.foldl_map]
theorem joined_eq (l : List (Array UInt8 × Tok)) : Bytes.joined #[] (l.map (·.1)) = bcat l := by
  rw [bcat_eq]
  exact joined_gen _ 0 _
theorem sum_eq (l : List (Array UInt8)) : ∀ (k : Nat) (a : Array UInt8), a.size = k → l.foldl (fun x1 x2 => x1 + x2.size) k = (l.foldl (fun a p => a ++ p) a).size := by
  induction l with
  | nil => intro k a h; simpa using h.symm
  | cons p r ih =>
    intro k a h
    rw [List.foldl_cons, List.foldl_cons]
    exact ih _ _ (by simp [h])
theorem bvals_getD {l : List (Array UInt8 × Tok)} {i : Nat} (h : i < l.length) : (bvals l).toArray.getD i .none = .bytes l[i].1 l[i].2 := by
  simp [bvals, Array.getD, h]
def taken (l : List (Array UInt8 × Tok)) : List (Value × Option Value) := l.map fun p => (.bytes p.1 p.2, none)
theorem taken_heap (l : List (Array UInt8 × Tok)) : ((taken l).any fun x => x.1.onHeap) = false := by
  induction l with
  | nil => rfl
  | cons p r ih =>
    show (Value.onHeap (.bytes p.1 p.2) || (taken r).any fun x => x.1.onHeap) = false
    rw [ih]
    rfl
theorem taken_none (l : List (Array UInt8 × Tok)) : ∀ p ∈ taken l, p.2 = none := fun p hp => by
  obtain ⟨q, _, rfl⟩ := List.mem_map.mp hp
  rfl
theorem step_eq {l : List (Array UInt8 × Tok)} {i : Nat} (hi : i < l.length) : (((l.take i).map (·.1)).toArray.push l[i].1, taken (l.take i) ++ [(Value.bytes l[i].1 l[i].2, none)]) = (((l.take (i + 1)).map (·.1)).toArray, taken (l.take (i + 1))) := by
  have e : l.take (i + 1) = l.take i ++ [l[i]] := by simp
  rw [e]
  simp only [taken, List.map_append, List.map_cons, List.map_nil, List.push_toArray]
theorem join_short {l : List (Array UInt8 × Tok)} (h : (bcat l).size ≤ sizeLine) : ¬ (Bytes.tooLong (Array.foldl (fun x1 x2 => x1 + x2.size) ((#[] : Array UInt8).size * ((l.map (·.1)).toArray.size - 1)) (l.map (·.1)).toArray) = true) := by
  have e : Array.foldl (fun x1 x2 => x1 + x2.size) ((#[] : Array UInt8).size * ((l.map (·.1)).toArray.size - 1)) (l.map (·.1)).toArray = (bcat l).size := by
    rw [List.foldl_toArray', bcat_eq]
    · have : (#[] : Array UInt8).size * ((l.map (·.1)).toArray.size - 1) = 0 := by simp
      rw [this]
      exact sum_eq _ 0 #[] rfl
    · rfl
  rw [e]
  unfold Bytes.tooLong
  simpa using h
theorem meets_join {t : Tok} {a : Addr} {l : List (Array UInt8 × Tok)} :
    Meets («bytes.join» ⟨[.bytes #[] t, .ref a], []⟩) (fun _ R s => s.heap.IsList a (bvals l).toArray ∧ (bcat l).size ≤ sizeLine ∧ ∀ t' k, R (.ok (.ret (.bytes (bcat l) t'))) { s with toks := k }) := by
  refine .of_wp fun prog w A R s hS => ?_
  obtain ⟨⟨o, ho, hc, k, hd⟩, hsz, h⟩ := hS
  have hT : s.TypeIs (.ref a) "list" := ⟨o, ho, hc⟩
  unfold Builtin.«bytes.join» Bytes.joinM
  refine wpAny_bind (wpAny_of_eq (a := (Value.bytes #[] t, Value.ref a)) rfl ?_)
  show wpAny _ _ (Bytes.joinItems (.ref a) >>= _) _ _ s
  refine wpAny_bind ?_
  unfold Bytes.joinItems
  refine wpAny_bind (wpAny_typeOf hT ?_)
  refine wpAny_ite ?_
  rw [if_pos (by decide +kernel)]
  refine wpAny_pure ?_
  dsimp only
  refine wpAny_bind (wpAny_seqItems ho hd ?_)
  dsimp only
  rw [if_pos (by rfl)]
  have main : ∀ Q : PySem.Fin → Shared → Prop, True → True := fun _ h => h
  match l, hd, hsz, h with
  | [p], hd, hsz, h =>
    show wpAny _ _ (typeOf (.bytes p.1 p.2) >>= _) _ _ s
    refine wpAny_bind (wpAny_typeOf (typeIs_bytes s p.1 p.2) ?_)
    refine wpAny_ite ?_
    rw [if_pos (by decide +kernel)]
    refine wpAny_bind (wpAny_rule (wpAny_pure ⟨_, rfl, ?_⟩))
    have := h p.2 s.toks
    have e : bcat [p] = p.1 := by simp [bcat]
    rw [e] at this
    exact this
  | [], hd, hsz, h =>
    change wpAny _ _ ((forIn (m := Sem) [0:(bvals []).toArray.size] ((#[] : Array (Array UInt8)), ([] : List (Value × Option Value))) _) >>= _) _ _ s
    refine wpAny_bind ?_
    rw [Std.Legacy.Range.forIn_eq_forIn_range']
    have es : List.range' (Std.Legacy.Range.mk 0 (bvals ([] : List (Array UInt8 × Tok))).toArray.size 1 (by decide)).start (Std.Legacy.Range.mk 0 (bvals ([] : List (Array UInt8 × Tok))).toArray.size 1 (by decide)).size (Std.Legacy.Range.mk 0 (bvals ([] : List (Array UInt8 × Tok))).toArray.size 1 (by decide)).step = List.range' 0 (([] : List (Array UInt8 × Tok))).length 1 := by
      simp [Std.Legacy.Range.size, bvals]
    rw [es]
    refine forIn_inv (n := (([] : List (Array UInt8 × Tok))).length) (fun i b => b = ((((([] : List (Array UInt8 × Tok))).take i).map (·.1)).toArray, taken ((([] : List (Array UInt8 × Tok))).take i))) ?_ ?_ (([] : List (Array UInt8 × Tok))).length 0 _ (Nat.zero_add _ ▸ rfl) (by simp [taken])
    · rintro i b hi rfl
      refine wpAny_bind (wpAny_seqItems ho hd ?_)
      dsimp only
      refine wpAny_ite ?_
      rw [if_neg (by rw [taken_heap]; decide)]
      rw [bvals_getD hi]
      refine wpAny_bind (wpAny_holding (take_eq ?_))
      dsimp only
      refine wpAny_bind (wpAny_seqItems ho hd ?_)
      dsimp only
      refine wpAny_ite ?_
      rw [if_neg (by simp)]
      exact wpAny_pure ⟨rfl, _, rfl, step_eq hi⟩
    · rintro b rfl
      rw [List.take_length]
      refine wpAny_bind (wpAny_of_eq (a := #[]) rfl ?_)
      dsimp only
      refine wpAny_ite ?_
      have hj := joined_eq (([] : List (Array UInt8 × Tok)))
      rw [if_neg (join_short hsz)]
      refine wpAny_bind ?_
      show wpAny _ _ (mkBytes _) _ _ _
      refine wpAny_mkBytes ?_ (by rw [hj]; exact hsz)
      refine wpAny_bind (wpAny_holding (wpAny_point ?_))
      refine wpAny_bind (joinLetGo_eq ?_ _ (taken_none _))
      rw [hj]
      exact wpAny_pure ⟨_, rfl, h _ _⟩
  | p :: q :: r, hd, hsz, h =>
    change wpAny _ _ ((forIn (m := Sem) [0:(bvals (p :: q :: r)).toArray.size] ((#[] : Array (Array UInt8)), ([] : List (Value × Option Value))) _) >>= _) _ _ s
    refine wpAny_bind ?_
    rw [Std.Legacy.Range.forIn_eq_forIn_range']
    have es : List.range' (Std.Legacy.Range.mk 0 (bvals (p :: q :: r)).toArray.size 1 (by decide)).start (Std.Legacy.Range.mk 0 (bvals (p :: q :: r)).toArray.size 1 (by decide)).size (Std.Legacy.Range.mk 0 (bvals (p :: q :: r)).toArray.size 1 (by decide)).step = List.range' 0 ((p :: q :: r)).length 1 := by
      simp [Std.Legacy.Range.size, bvals]
    rw [es]
    refine forIn_inv (n := ((p :: q :: r)).length) (fun i b => b = (((((p :: q :: r)).take i).map (·.1)).toArray, taken (((p :: q :: r)).take i))) ?_ ?_ ((p :: q :: r)).length 0 _ (Nat.zero_add _ ▸ rfl) (by simp [taken])
    · rintro i b hi rfl
      refine wpAny_bind (wpAny_seqItems ho hd ?_)
      dsimp only
      refine wpAny_ite ?_
      rw [if_neg (by rw [taken_heap]; decide)]
      rw [bvals_getD hi]
      refine wpAny_bind (wpAny_holding (take_eq ?_))
      dsimp only
      refine wpAny_bind (wpAny_seqItems ho hd ?_)
      dsimp only
      refine wpAny_ite ?_
      rw [if_neg (by simp)]
      exact wpAny_pure ⟨rfl, _, rfl, step_eq hi⟩
    · rintro b rfl
      rw [List.take_length]
      refine wpAny_bind (wpAny_of_eq (a := #[]) rfl ?_)
      dsimp only
      refine wpAny_ite ?_
      have hj := joined_eq ((p :: q :: r))
      rw [if_neg (join_short hsz)]
      refine wpAny_bind ?_
      show wpAny _ _ (mkBytes _) _ _ _
      refine wpAny_mkBytes ?_ (by rw [hj]; exact hsz)
      refine wpAny_bind (wpAny_holding (wpAny_point ?_))
      refine wpAny_bind (joinLetGo_eq ?_ _ (taken_none _))
      rw [hj]
      exact wpAny_pure ⟨_, rfl, h _ _⟩

section
variable {prog : Program} {w : World} {A : Around} {E : Value → Shared → Prop} {s : Shared} {h₀ : Heap} {L : Addr} {m : Str → Option Value} {news : List (Addr × Obj)}
theorem join_call {D : Addr} {c : Nat} {t : Tok} {l : List (Array UInt8 × Tok)} {Q : Value → Shared → Prop} (N : News h₀ L s.heap news) (hm : (D, listOf (bvals l).toArray c) ∈ news) (hsz : (bcat l).size ≤ 1000) (h : ∀ t' k, Q (.bytes (bcat l) t') { s with toks := k }) :
    wpAny (model prog w) A (call (.builtin "bytes.join") [.bytes #[] t, .ref D]) Q E s :=
  call_meets slot_join (typeIs_bytes _ _ _) entry_join (args_join _ _) meets_join ⟨PySem.IsL.isList (N _ hm).1, by rw [sizeLine_eq]; omega, h⟩
end
theorem bcat_ints (l : List (Array UInt8 × Tok)) : bInts (bcat l) = (l.map (fun p => bInts p.1)).flatten := by
  have key : ∀ (l : List (Array UInt8 × Tok)) (a : Array UInt8), bInts (l.foldl (fun a p => a ++ p.1) a) = bInts a ++ (l.map (fun p => bInts p.1)).flatten := by
    intro l
    induction l with
    | nil => intro a; simp
    | cons p r ih =>
      intro a
      rw [List.foldl_cons, ih]
      have : bInts (a ++ p.1) = bInts a ++ bInts p.1 := by simp [bInts]
      rw [this]
      simp
  have := key l #[]
  simpa [bcat, bInts] using this
end Mine

namespace Mine
theorem fresh21 {M : Model} {A : Around} {E : Value → Shared → Prop} {s : Shared} {Q : Value → Shared → Prop} (h : wpAny M A (call (.ref 1) []) Q E s) : wpAny M A (call (.ref 1) []) Q E s := by
  w_top off
  k_with_none
  first | (walk1; fail) | exact h
end Mine

namespace Mine
open PySem.Spec PySem.Calls Builtin Builtin.ObjectAttr PySem.W.KBw

/-- a pair (number, octets) that the ledger bears -/
structure Vr where
  T : Addr
  n : Int
  u : Tok
  k : Array UInt8
  v : Tok
def Vr.ent (r : Vr) : Addr × Obj := (r.T, tupObj [.int r.n r.u, .bytes r.k r.v])
def Vr.pair (r : Vr) : Int × List Int := (r.n, bInts r.k)
def Vr.ref (r : Vr) : Value := .ref r.T
def Vr.num (r : Vr) : Value := .int r.n r.u
def Vr.oct (r : Vr) : Value := .bytes r.k r.v
def Vr.raw (r : Vr) : Array UInt8 × Tok := (r.k, r.v)

theorem ints_of {es : List Value} {us : List Int} (h : IntsAre es us) : kf_ints es = true := by
  induction h with
  | nil => rfl
  | cons n t _ ih => exact ih
theorem ints_snoc {es : List Value} {us : List Int} {x : Int} {t : Tok} (h : IntsAre es us) : IntsAre (es ++ [.int x t]) (us ++ [x]) := by
  induction h with
  | nil => exact .cons _ _ .nil
  | cons n t _ ih => exact .cons _ _ ih
theorem ints_any {es : List Value} {us : List Int} {k : Int} (h : IntsAre es us) : es.any (isInt k) = us.any (· == k) := by
  induction h with
  | nil => rfl
  | cons n t _ ih => simp [isInt, ih]
theorem ints_at {es : List Value} {us : List Int} {k : Int} (h : IntsAre es us) : ∀ {i : Nat} (hi : i < us.length), us[i] = k → (∀ j (hj : j < us.length), j < i → us[j] ≠ k) → kf_at k es = some i := by
  induction h with
  | nil => intro i hi; exact absurd hi (Nat.not_lt_zero _)
  | cons n t _ ih =>
    intro i hi e ne
    cases i with
    | zero => exact kf_hit e.symm
    | succ i =>
      have h0 := ne 0 (Nat.zero_lt_succ _) (Nat.zero_lt_succ _)
      refine kf_miss (Ne.symm h0) (ih (Nat.lt_of_succ_lt_succ hi) e fun j hj hlt => ne (j + 1) (Nat.succ_lt_succ hj) (Nat.succ_lt_succ hlt))
theorem ints_len {es : List Value} {us : List Int} (h : IntsAre es us) : es.length = us.length := by
  induction h with
  | nil => rfl
  | cons n t _ ih => simp [ih]
theorem ints_nums (rs : List Vr) : IntsAre (rs.map Vr.num) (rs.map (·.n)) := by
  induction rs with
  | nil => exact .nil
  | cons r rs ih => exact .cons _ _ ih

/-- the ends ahead of which the sizes lie -/
def endsTo (ps : List (Int × List Int)) (j : Nat) : List Int := (List.range (j + 1)).map fun i => (endAt ps i : Int)
theorem endsTo_len {ps : List (Int × List Int)} {j : Nat} : (endsTo ps j).length = j + 1 := by simp [endsTo]
theorem endsTo_zero {ps : List (Int × List Int)} : endsTo ps 0 = [1] := by simp [endsTo, endAt_zero]
theorem endsTo_succ {ps : List (Int × List Int)} {j : Nat} : endsTo ps (j + 1) = endsTo ps j ++ [(endAt ps (j + 1) : Int)] := by
  unfold endsTo
  rw [List.range_succ, List.map_append]
  rfl
theorem ends_hit {ps : List (Int × List Int)} (hE : Encs ps) {es : List Value} (h : IntsAre es (endsTo ps ps.length)) {i : Nat} (hi : i ≤ ps.length) {z : Int} (hz : z = endAt ps i) : kf_at z es = some i := by
  refine ints_at h (by rw [endsTo_len]; omega) (by simp [endsTo, hz]) fun j hj hlt e => ?_
  rw [endsTo_len] at hj
  simp only [endsTo, List.getElem_map, List.getElem_range, hz] at e
  have := endAt_lt hE hlt hi
  omega
theorem ends_in {ps : List (Int × List Int)} {es : List Value} (h : IntsAre es (endsTo ps ps.length)) {i : Nat} (hi : i ≤ ps.length) {z : Int} (hz : z = endAt ps i) : es.any (isInt z) = true := by
  rw [ints_any h, List.any_eq_true]
  exact ⟨_, List.mem_map.mpr ⟨i, List.mem_range.mpr (by omega), rfl⟩, by simp [hz]⟩
theorem ends_out {ps : List (Int × List Int)} {es : List Value} (h : IntsAre es (endsTo ps ps.length)) {z : Int} (hz : ∀ i, i ≤ ps.length → z ≠ endAt ps i) : es.any (isInt z) = false := by
  rw [ints_any h, List.any_eq_false]
  intro x hx
  obtain ⟨i, hi, rfl⟩ := List.mem_map.mp hx
  have := hz i (by have := List.mem_range.mp hi; omega)
  simpa using Ne.symm this

theorem pick_to {l : List Value} {j : Nat} : kms_pick l none (some (j : Int)) = l.take j := by
  have h0 : ¬ ((j : Int) < 0) := by omega
  simp [kms_pick, kms_lo, kms_hi, h0]
theorem pick_refs {vs : List Vr} {j : Nat} : kms_pick (vs.map Vr.ref).toArray.toList none (some (j : Int)) = (vs.take j).map Vr.ref := by
  rw [pick_to, List.map_take]

theorem all_of_lt {d : Nat} : ∀ {l : List (Addr × Obj)}, AllLt d l → ∀ p ∈ l, p.1 ≠ d
  | [], _, _, h => nomatch h
  | _ :: _, x, p, h => by
    rcases List.mem_cons.mp h with rfl | h
    · exact Nat.ne_of_lt x.1
    · exact all_of_lt x.2 p h

section
variable {prog : Program} {w : World} {A : Around} {E : Value → Shared → Prop} {s : Shared} {env : Env} {h₀ : Heap} {target : Expr} {body : List Stmt} {Q : Flow → Shared → Prop}
/-- a loop over a list of the ledger, by what holds ahead of each turn -/
theorem items_ind {α : Type} {I : Addr} {keep : Addr × Obj} (f : α → Value) (Inv : List α → List α → (Str → Option Value) → List (Addr × Obj) → Prop)
    (zero : ∀ m news pre, Inv pre [] m news → ∀ h tk, Fr h₀ env.locals h m → News h₀ env.locals h news → Q .next { s with heap := h, toks := tk })
    (step : ∀ pre a r m news h tk it, Inv pre (a :: r) m news → Fr h₀ env.locals h m → News h₀ env.locals h ((I, it) :: news) →
      wpAny (model prog w) A (assign target env (f a)) (fun _ s₂ => wpAny (model prog w) A (execs body env) (fun fl s₃ => match fl with
        | .next => ∃ h' tk' m' news', s₃ = { s with heap := h', toks := tk' } ∧ Fr h₀ env.locals h' m' ∧ News h₀ env.locals h' ((I, it) :: news') ∧ (∀ p ∈ news', p.1 ≠ I) ∧ keep ∈ news' ∧ Inv (pre ++ [a]) r m' news'
        | _ => False) E s₂) E { s with heap := h, toks := tk }) :
    ∀ (xs pre : List α) (m : Str → Option Value) (news : List (Addr × Obj)), Inv pre xs m news →
    ItemsRest prog w A E h₀ env target body Q s [(I, "list_iterator")] [keep] ((xs.map f).map .val) m news
  | [], pre, m, news, h => ItemsRest.zero (zero m news pre h)
  | a :: r, pre, m, news, h => by
    refine ItemsRest.val fun hp tk F => ?_
    refine AllObj.cons fun it _ => AllObj.nil fun N => ?_
    refine wpAny_mono (step pre a r m news hp tk it h F N) (fun _ s₂ h₂ => wpAny_mono h₂ (fun fl s₃ h₃ => ?_) fun _ _ e => e) fun _ _ e => e
    cases fl with
    | next =>
      obtain ⟨h', tk', m', news', rfl, F', N', off, hk, hI⟩ := h₃
      exact ⟨h', tk', m', news', rfl, F', N', fun p hp q hq => by rw [List.mem_singleton.mp hq]; exact off p hp, ⟨hk, trivial⟩, items_ind f Inv zero step r (pre ++ [a]) m' news' hI⟩
    | _ => exact h₃.elim
end

section
variable {prog : Program} {w : World} {A : Around} {s : Shared} {h₀ : Heap} {L : Addr} {m : Str → Option Value} {env : Env} {x x₂ y : Str} {pos : Pos} {scope : Scope} {cl : List (Str × Addr)} {S : List (Addr × Obj) → Prop} {P : Nat → Value → Prop}
  {Fin : List Value → List (Addr × Obj) → Prop} {news : List (Addr × Obj)}
/-- a comprehension over pairs of the ledger that takes the one part -/
theorem comp_pairs (pj : Vr → Value) (hk : (relabel scope env).kind = .function) (hl : ∀ C, (compEnvC scope cl C env).kindOf y = some .local) (hd : (y == ("__debug__" : Str)) = false)
    (hy : ∀ (r : Vr) (m₂ : Str → Option Value), m₂ x = some (.int r.n r.u) → m₂ x₂ = some (.bytes r.k r.v) → m₂ y = some (pj r)) (hS : S news) :
    ∀ (vs : List Vr) (i : Nat) (ys : List Value), (∀ r ∈ vs, r.ent ∈ news) → (∀ j (h : j < vs.length) u, P (i + j) u → u = vs[j].ref) → Fin (ys ++ vs.map pj) news →
    LCp.CompRestP prog w A h₀ L m env (.Name y pos) x x₂ scope cl s S P Fin vs.length i ys news
  | [], i, ys, _, _, h => LCp.CompRestP.zero (by simpa using h)
  | r :: vs, i, ys, hm, hP, h => by
    refine LCp.CompRestP.succ fun u hu => ?_
    have e := hP 0 (Nat.zero_lt_succ _) u hu
    refine ⟨r.T, r.ent.2, _, _, _, e, hm r (.head _), rfl, rfl, ?_⟩
    intro I oI C oC D m₂ hp tk E' hC h1 h2 F N off ne
    refine LCgL.ld_own N (.tail _ (.head _)) hC (hy r m₂ h1 h2) ?_ hk (hl C) hd
    refine LCg.CompEnd.intro F N news (fun p hp => hp) off hS ?_
    exact comp_pairs pj hk hl hd hy hS vs (i + 1) _ (fun q hq => hm q (.tail _ hq)) (fun j hj u hu => by
      have := hP (j + 1) (Nat.succ_lt_succ hj) u (by rw [show i + (j + 1) = i + 1 + j by omega]; exact hu)
      simpa using this) (by simpa using h)
/-- the comprehension over a list of the ledger -/
theorem comp_at {vs : List Vr} {n : Nat} (pj : Vr → Value) (hn : n = vs.length) (hk : (relabel scope env).kind = .function) (hl : ∀ C, (compEnvC scope cl C env).kindOf y = some .local) (hd : (y == ("__debug__" : Str)) = false)
    (hy : ∀ (r : Vr) (m₂ : Str → Option Value), m₂ x = some (.int r.n r.u) → m₂ x₂ = some (.bytes r.k r.v) → m₂ y = some (pj r)) (hS : S news)
    (hm : ∀ r ∈ vs, r.ent ∈ news) (hP : ∀ j (h : j < vs.length) u, P j u → u = vs[j].ref) (h : Fin (vs.map pj) news) :
    LCp.CompRestP prog w A h₀ L m env (.Name y pos) x x₂ scope cl s S P Fin n 0 [] news := by
  subst hn
  exact comp_pairs pj hk hl hd hy hS vs 0 [] hm (fun j hj u hu => hP j hj u (by rw [Nat.zero_add] at hu; exact hu)) (by simpa using h)
theorem src_at {vs : List Vr} : ∀ j (h : j < vs.length) u, (vs.map Vr.ref).toArray[j]? = some u → u = vs[j].ref := by
  intro j h u hu
  simp [h] at hu
  exact hu.symm
end
end Mine

namespace Mine
theorem fresh22 {M : Model} {A : Around} {E : Value → Shared → Prop} {s : Shared} {Q : Value → Shared → Prop} (h : wpAny M A (call (.ref 1) []) Q E s) : wpAny M A (call (.ref 1) []) Q E s := by
  w_top off
  k_with_none
  first | (walk1; fail) | exact h
end Mine

namespace Mine
open PySem.Spec PySem.Calls Builtin Builtin.ObjectAttr PySem.W.KBw
section
variable {w : World} {E : Value → Shared → Prop} {s : Shared} {base h₀ : Heap} {outer : List Env} {env : Env} {L : Addr} {m mg mb : Str → Option Value} {mean : ExcName → Option Value} {news : List (Addr × Obj)} {A₀ A : Around}

local macro_rules | `(tactic| walk_at "hr") => `(tactic| (simp only [depth_deeper]; omega))
local macro_rules | `(tactic| walk_at "hu") => `(tactic| (simp only [units_deeper]; omega))
local macro_rules | `(tactic| k_ne) => `(tactic| (refine PySem.W.neN ?_; (try dsimp only); first | with_reducible assumption | exact Ne.symm (by with_reducible assumption) | exact (off_I (by with_reducible assumption) (by k_mem)) | exact Ne.symm (off_I (by with_reducible assumption) (by k_mem)) | exact (off_C (by with_reducible assumption) (by k_mem)) | exact Ne.symm (off_C (by with_reducible assumption) (by k_mem)) | exact (off_D (by with_reducible assumption) (by k_mem)) | exact Ne.symm (off_D (by with_reducible assumption) (by k_mem)) | exact (off_1 (by with_reducible assumption) (by k_mem)) | exact Ne.symm (off_1 (by with_reducible assumption) (by k_mem)) | omega))
local macro_rules | `(tactic| walk_at "FinE") => `(tactic| ((unfold LCg.FinE); intro D' h' tk' F' N' o1'; (try simp only [List.nil_append, List.cons_append] at N'); (try dsimp only)))
local macro_rules | `(tactic| walk_at "FinA") => `(tactic| ((unfold LCg.FinA); intro D' h' tk' F' N' o1'; (try simp only [List.nil_append, List.cons_append] at N'); (try dsimp only)))
local macro_rules | `(tactic| walk_at "exec For Name Call cons nil") => `(tactic| (refine stop ?_))
local macro_rules | `(tactic| walk_at "Exists") => `(tactic| (refine stop ?_))
local macro_rules | `(tactic| walk_at "pyIter ref") => `(tactic| (k_here; (with_reducible refine range_stop ?_)))
local macro_rules | `(tactic| walk_at "compareOp In int ref") => `(tactic| (refine stop ?_))
local macro_rules | `(tactic| walk_at "call type:bytes") => `(tactic| (k_here; k_dflt (refine' bytes_lit (by k_asm) (by k_asm) (by rfl) ?h2 ?h3 (Nat.le_of_ble_eq_true rfl) ?_; (case h2 => repeat (first | exact IntsAre.nil | refine IntsAre.cons _ _ ?_)); (case h3 => (intro x hx; simp only [intsV, intV, List.mem_cons, List.not_mem_nil, or_false] at hx; omega))); intro b' t' k' h' hb' hs' F' N'; (replace hs' : _ = 1 := hs')))
local macro_rules | `(tactic| walk_at "binaryOp Add bytes bytes") => `(tactic| (k_here; (refine KBy.add_bytes (by omega) ?_); intro t' k'))
local macro_rules | `(tactic| walk_at "call ref") => `(tactic| (k_here; k_dflt (first
  | (refine' told_some ?B ?F ?X ?N ?T ?XB ?TB ?D (by rfl) (by rfl) (by rfl) (by rfl) (by walk_at "hr") (by walk_at "hu") ?hv ?hb ?hs ?hz ?_; (case hv => with_reducible assumption); (case B => k_asm); (case F => k_asm); (case X => k_asm); (case N => k_asm); (case T => k_asm); (case XB => k_asm); (case TB => k_asm); (case D => assumption); (case hb => assumption); (case hs => assumption); (case hz => omega); (intro T' D' t2' c' vs' g' h' tk' hi' KT' F' N' l1' l2' B'; (try k_lt l1'); (try k_fold)))
  | (refine' told_no ?B ?F ?X ?N ?T ?XB ?TB ?D (by rfl) (by rfl) (by rfl) (by rfl) (by walk_at "hr") (by walk_at "hu") ?hv ?hb ?hs ?hz ?_; (case hv => with_reducible assumption); (case B => k_asm); (case F => k_asm); (case X => k_asm); (case N => k_asm); (case T => k_asm); (case XB => k_asm); (case TB => k_asm); (case D => assumption); (case hb => assumption); (case hs => assumption); (case hz => omega); (intro g' h' tk' KT' F' N' B'; (try k_fold))))))
local macro_rules | `(tactic| walk_at "compareOp NotEq ref ref") => `(tactic| (k_here; k_dflt (refine' ne_pair (by k_asm) (by k_mem) (by k_mem) (by k_mem) (by k_mem) (by with_reducible assumption) (ints_nums _) (by rfl) ?hu ?_; (case hu => (simp only [units_deeper]; omega)))))

local macro_rules | `(tactic| k_all) => `(tactic| first | with_reducible assumption | exact all_of_lt (by with_reducible assumption) | exact all_of_lt (And.right (by with_reducible assumption)) | exact all_of_lt (And.right (And.right (by with_reducible assumption))))
local macro_rules | `(tactic| walk_at "exec For Tuple Name cons nil") => `(tactic| (refine stop ?_))
theorem news_tail2 {h₀ h : Heap} {L : Addr} {x y : Addr × Obj} {r : List (Addr × Obj)} (N : News h₀ L h (x :: y :: r)) : News h₀ L h (y :: r) := fun p hp => N p (.tail _ hp)
theorem news_drop4 {h₀ h : Heap} {L : Addr} {a b c d : Addr × Obj} {l : List (Addr × Obj)} (N : News h₀ L h (a :: b :: c :: d :: l)) : News h₀ L h (a :: b :: c :: l) := fun p hp => N p (by
  simp only [List.mem_cons] at hp ⊢
  rcases hp with h | h | h | h
  · exact .inl h
  · exact .inr (.inl h)
  · exact .inr (.inr (.inl h))
  · exact .inr (.inr (.inr (.inr h))))
theorem all_lt {d : Nat} : ∀ {l : List (Addr × Obj)}, AllLt d l → ∀ p ∈ l, p.1 < d
  | [], _, _, h => nomatch h
  | _ :: _, x, p, h => by
    rcases List.mem_cons.mp h with rfl | h
    · exact x.1
    · exact all_lt x.2 p h
theorem endAt_top {ps : List (Int × List Int)} (hE : Encs ps) : ∀ {i : Nat}, i ≤ ps.length → endAt ps i ≤ 1 + 9 * i
  | 0, _ => by rw [endAt_zero]; omega
  | i + 1, h => by
    have := endAt_top hE (i := i) (by omega)
    have h2 := (hE _ (List.getElem_mem (show i < ps.length from h))).2.2.1
    rw [endAt_next (show i < ps.length from h)]
    omega
theorem map_start {a wr n e : Str} {x z : Option Value} {m : Str → Option Value} (h1 : a ≠ e) (h2 : wr ≠ e) (h3 : n ≠ e) (h4 : wr ≠ a) (h5 : n ≠ a) (m1 : m wr = none) (m2 : m n = none) :
    (fun y => if y = e then z else if y = a then x else m y) = fun y => if y = a then x else if y = wr then none else if y = n then none else if y = e then z else m y := by
  funext y
  by_cases q1 : y = a
  · simp [q1, h1]
  by_cases q2 : y = wr
  · simp [q2, h2, h4, m1]
  by_cases q3 : y = n
  · simp [q3, h3, h5, m2]
  simp [q1, q2, q3]
theorem map_turn {a wr n : Str} {x x₀ v1 v2 u1 u2 : Option Value} {m : Str → Option Value} (h1 : wr ≠ a) (h2 : n ≠ a) (h3 : n ≠ wr) :
    (fun y => if y = a then x else if y = wr then v1 else if y = n then v2 else if y = a then x₀ else if y = wr then u1 else if y = n then u2 else m y) = fun y => if y = a then x else if y = wr then v1 else if y = n then v2 else m y := by
  funext y
  by_cases q1 : y = a
  · simp [q1]
  by_cases q2 : y = wr
  · simp [q2, h1]
  by_cases q3 : y = n
  · simp [q3, h3, h2]
  simp [q1, q2, q3]
local macro_rules | `(tactic| walk_at "call builtin:list.append") => `(tactic| (k_here; k_dflt (refine' append_K ?k1 ?k2 ?k3 ?_ ?z; (case k1 => k_asm); (case k2 => k_asm); (case k3 => k_upd); (case z => with_reducible assumption)); intro h' F' N'; (try dsimp only at F')))
local macro_rules | `(tactic| walk_at "call builtin:list.index") => `(tactic| (k_here; k_dflt (refine' kf_index (by k_asm) (by k_mem) (ints_of (by with_reducible assumption)) (by with_reducible assumption) rfl (by with_reducible assumption) ?_)))
local macro_rules | `(tactic| walk_at "subscriptTail Name Slice ref ref") => `(tactic| (k_here; (with_reducible show wpAny _ _ (subscriptTail _ (PySem.Expr.Slice _ _ none _) (Value.ref _) (Value.ref _)) _ _ _); k_dflt (refine' kms_slice_lit (by k_asm) (by k_asm) (by kmk_list) (by kmk_part) (by kmk_part) pick_refs ?_ (by with_unfolding_all rfl) (by kmk_pure) (by with_reducible assumption)); intro D' h' F' N' l1; (try k_lt l1)))
local macro_rules | `(tactic| walk_at "SrcLP") => `(tactic| (k_here; k_dflt (refine LCp.SrcLP.ledger (by rfl) (by k_asm) (by k_asm) (by k_mem) (by with_reducible assumption) ?_; intro g'; refine comp_at Vr.num (by simp) (by rfl) (fun _ => rfl) (by decide) (fun _ _ h _ => h) (by lcg_src) (fun r hr => (by have hr2 := List.mem_map_of_mem (f := Vr.ent) (List.mem_of_mem_take hr); repeat (first | exact hr2 | refine List.Mem.tail _ ?_))) src_at ?_)))
set_option maxHeartbeats 8000000 in
theorem sizes_spec {V : Addr} {c : Nat} {vs : List Vr} {ob : Array UInt8} {tb : Tok} {Q : Value → Shared → Prop} (B : Below A₀ base outer h₀) (F : Fr h₀ L s.heap m) (X : (hd.heap_39 w.params).In h₀)
    (N : News h₀ L s.heap news) (T : Top hd.view_39 (looseW hd.view_39 [Str.ofString "WORD"]) mean mg mb h₀)
    (XB : (hd.heap_39 w.params).In base) (TB : Top hd.view_39 (looseW hd.view_39 [Str.ofString "WORD"]) mean mg mb base) (D : KtsDicts (outer.filterMap (·.frame)) h₀)
    (hA : A.frames = some (env :: outer)) (hf : env.frame = some L) (hke : env.scope.kind = .function) (hh : A.handled = none) (hroom : A.depth + 60 < recursionLimit) (hun : A.units + 600 < cLine)
    (hV : (V, listOf (vs.map Vr.ref).toArray c) ∈ news) (hm : ∀ r ∈ vs, r.ent ∈ news) (hE : Encs (vs.map Vr.pair)) (hl : vs.length ≤ 8) (hz : ob.size ≤ 72)
    (hob : bInts ob = catOf (vs.map Vr.pair))
    (ret : ∀ h₁ h' tk', KtsTurn (outer.filterMap (·.frame)) h₀ h₁ → Fr h₁ L h' m → News h₁ L h' news → Below A₀ base outer h₁ → Q (.bool true) { s with heap := h', toks := tk' }) :
    wpAny (model PySem.Challenge.rw_xm0746_01.row.prog w) A (call (.ref 114) [.ref V, .bytes ob tb]) Q E s := by
  have hsub : ∀ p ∈ ((V, listOf (vs.map Vr.ref).toArray c) :: vs.map Vr.ent : List (Addr × Obj)), p ∈ news := List.forall_mem_cons.mpr ⟨hV, fun p hp => by
    obtain ⟨r, hr, rfl⟩ := List.mem_map.mp hp
    exact hm r hr⟩
  revert X; k_fill; intro X
  obtain ⟨hd', dp, fr, gd, un⟩ := A
  dsimp only at hA hh hroom hun
  subst hA hh
  have kMk := kstMark
  refine wpAny_call ?_
  refine' code_park [(Str.ofString "octets", .bytes ob tb), (Str.ofString "varints", .ref V)] (news := (V, listOf (vs.map Vr.ref).toArray c) :: vs.map Vr.ent) B F X (fun p hp => N p (hsub p hp)) T rfl hf hke ?k6 ?k7 ?k8 ?k9 ?kl ?kB ?_ ?c2 ?c3 ?c4 ?c5
  case k6 => k_is
  case k7 => k_is
  case k8 => show dp < _; omega
  case k9 => exact BindsTo.of_eq rfl
  case kl => exact rfl
  case kB => exact locs rfl
  case c2 => exact rfl
  case c3 => exact rfl
  case c4 => exact rfl
  case c5 => decide
  intro g' L' h' tk' FG' F' N' B' X' T' hpk
  dsimp only [mapOf] at F'
  have D' := dicts_up D FG' hf
  have fin : ∀ v g2 h2 m2 nw tk2, v = .bool true → KtsTurn ((env :: outer).filterMap (·.frame)) g' g2 → Fr g2 L' h2 m2 → News g2 L' h2 nw → (∀ p ∈ ((V, listOf (vs.map Vr.ref).toArray c) :: vs.map Vr.ent : List (Addr × Obj)), p ∈ nw) → Q v { s with heap := h2, toks := tk2 } := by
    intro v g2 h2 m2 nw tk2 h1 h2 h3 h4 h5
    obtain ⟨h₁, T1, F1, N1, B1⟩ := park_back B FG' hf N hsub hpk h2 h3 (kst_newsOf h4 h5)
    subst h1
    exact ret _ _ _ T1 F1 N1 B1
  clear hpk N hsub
  try dsimp only
  (try k_fold)
  k_steps
  unfold Stop
  refine For_turns (by assumption) ?_
  k_steps
  rename (_ < _ ∧ _ < _ ∧ AllLt _ _) => lT
  rename (_ < _ ∧ AllLt _ _) => lD
  rename News _ _ _ _ => N9
  rename Fr _ _ _ _ => F9
  replace N9 := news_tail2 N9
  clear lT
  revert F9 N9
  (repeat (rename Fr g' _ _ _ => z9; clear z9))
  (repeat (rename News g' _ _ _ => z9; clear z9))
  intro F0 N9
  rename_i De _ _ _ _ _ _
  refine iter_listTurns (vs := vs.map Vr.ref) rfl F0 N9 (by k_mem) rfl rfl (fun I hI => ?_)
  k_lt hI
  refine items_ind (α := Vr) Vr.ref (fun pre r m news => ∃ (es : List Value) (ce : Nat) (ta : Tok) (v1 v2 : Option Value), vs = pre ++ r ∧ IntsAre es (endsTo (vs.map Vr.pair) pre.length) ∧
    m = (fun y => if y = Str.ofString "at" then some (.int (endAt (vs.map Vr.pair) pre.length) ta) else if y = Str.ofString "written" then v1 else if y = Str.ofString "number" then v2 else if y = Str.ofString "ends" then some (.ref De) else if y = Str.ofString "octets" then some (.bytes ob tb) else if y = Str.ofString "varints" then some (.ref V) else none) ∧
    news = (De, listOf es.toArray ce) :: (V, listOf (vs.map Vr.ref).toArray c) :: vs.map Vr.ent) ?zero ?step vs [] _ _ ?start
  case start =>
    refine ⟨[.int 1 tk'], 0, tk' + 1, none, none, rfl, ?_, ?_, rfl⟩
    · rw [List.length_nil, endsTo_zero]
      exact .cons _ _ .nil
    · rw [List.length_nil, endAt_zero]
      exact map_start (by decide) (by decide) (by decide) (by decide) (by decide) rfl rfl
  case step =>
    rintro pre r0 r m9 news9 h₁ tk₁ it ⟨es, ce, ta, v1, v2, hpre, hes, rfl, rfl⟩ F9 N9
    replace F9 : Fr g' L' _ _ := F9
    replace N9 : News g' L' _ ((I, it) :: (De, listOf es.toArray ce) :: (V, listOf (vs.map Vr.ref).toArray c) :: (r0.T, tupObj [.int r0.n r0.u, .bytes r0.k r0.v]) :: vs.map Vr.ent) := fun p hp => N9 p (by
      rcases List.mem_cons.mp hp with rfl | hp
      · exact .head _
      rcases List.mem_cons.mp hp with rfl | hp
      · exact .tail _ (.head _)
      rcases List.mem_cons.mp hp with rfl | hp
      · exact .tail _ (.tail _ (.head _))
      rcases List.mem_cons.mp hp with rfl | hp
      · exact .tail _ (.tail _ (.tail _ (List.mem_map.mpr ⟨r0, by rw [hpre]; simp, rfl⟩)))
      · exact .tail _ (.tail _ (.tail _ hp)))
    clear F0 fin ret
    have hr0 : r0 ∈ vs := by rw [hpre]; simp
    have hz1 : 1 ≤ r0.k.size ∧ r0.k.size ≤ 9 := by
      have e1 := hE _ (List.mem_map_of_mem hr0)
      have h1 := e1.2.1
      have h2 := e1.2.2.1
      have e3 : r0.pair.2 = bInts r0.k := rfl
      rw [e3, ints_length] at h1 h2
      exact ⟨h1, h2⟩
    have hi1 : pre.length < (vs.map Vr.pair).length := by rw [hpre]; simp
    have hn := endAt_next hi1
    have ht := endAt_top hE (Nat.le_of_lt hi1)
    have he0 : (vs.map Vr.pair)[pre.length].2.length = r0.k.size := by
      rw [← ints_length]
      simp [hpre, Vr.pair]
    rw [he0] at hn
    have lT : @LT.lt Nat _ r0.T De := all_lt lD.2 _ (List.mem_map_of_mem (f := Vr.ent) hr0)
    have hel : es.length = pre.length + 1 := by rw [ints_len hes, endsTo_len]
    have hl2 : pre.length < 8 := by
      have := congrArg List.length hpre
      simp at this
      omega
    have hsz : es.toArray.size ≤ sizeLine := by
      rw [List.size_toArray, sizeLine_eq]
      omega
    generalize endAt (vs.map Vr.pair) pre.length = e0 at *
    show wpAny _ _ (assign _ _ (.ref r0.T)) _ _ _
    try dsimp only
    k_steps
    unfold Stop
    dsimp only
    rename Fr _ _ _ _ => F8
    rename News _ _ _ _ => N8
    replace N8 := news_drop4 N8
    refine ⟨_, _, _, _, rfl, F8, N8, ?_, .tail _ (.head _), ?_⟩
    · exact List.forall_mem_cons.mpr ⟨Nat.ne_of_lt hI.1, List.forall_mem_cons.mpr ⟨Nat.ne_of_lt hI.2.1, all_of_lt hI.2.2⟩⟩
    · refine ⟨es ++ [.int (e0 + r0.k.size) ?tt], ce + 1, ?tt, some (.bytes r0.k r0.v), some (.int r0.n r0.u), by rw [hpre]; simp, ?g1, ?g2, ?g3⟩
      case g2 =>
        rw [List.length_append, List.length_singleton, hn]
        exact map_turn (a := Str.ofString "at") (wr := Str.ofString "written") (n := Str.ofString "number") (by decide) (by decide) (by decide)
      case g1 =>
        rw [List.length_append, List.length_singleton, endsTo_succ, hn]
        exact ints_snoc hes
      case g3 => rw [List.push_toArray]
  case zero =>
    rintro m9 news9 pre ⟨es, ce, ta, v1, v2, hpre, hes, rfl, rfl⟩ h₁ tk₁ F9 N9
    replace F9 : Fr g' L' _ _ := F9
    replace N9 : News g' L' _ _ := N9
    dsimp only
    have hpl : pre.length = (vs.map Vr.pair).length := by rw [hpre]; simp
    rw [hpl] at hes
    clear hpre hpl F0
    generalize hv0 : endAt (vs.map Vr.pair) pre.length = e0 at *
    k_steps
    unfold Stop
    refine wpAny_For ?_ ?_
    rotate_left
    · intro _; rfl
    k_steps
    unfold Stop
    refine range_turn (g := g') (d := Str.ofString "due") (n := ob.size + 3) (E' := fun _ _ => False) (fun g₂ => KtsTurn ((env :: outer).filterMap (·.frame)) g' g₂ ∧ Below _ base (env :: outer) g₂) rfl (by assumption) (small_one (by omega) (by omega) (by omega) (by omega)) ?_ rfl rfl ⟨KtsTurn.refl, B'⟩ (by assumption) (by assumption) (fun _ _ h => h.elim) ?_ ?_
    · rw [rangeSize_nat]
      omega
    · intro z t u I o g₁ h₁ tk₁ z0 z1 hI ⟨KT, B1⟩ F1 N1
      have X1 := XB.keeps B1.stays
      have TT1 := TB.keeps B1.stays
      have D1 := D'.turn KT
      clear ret fin
      (repeat (rename Fr g' _ _ _ => z9; clear z9))
      (repeat (rename News g' _ _ _ => z9; clear z9))
      clear B' X' T' FG' B F X T
      (try k_lt hI)
      try dsimp only
      (try k_fold)
      k_steps
      unfold Stop
      have hszV : (vs.map Vr.ref).toArray.size ≤ sizeLine := by
        rw [List.size_toArray, List.length_map, sizeLine_eq]
        omega
      have hszE : es.toArray.toList.length ≤ sizeLine := by
        show es.length ≤ _
        rw [ints_len hes, endsTo_len, List.length_map, sizeLine_eq]
        omega
      by_cases hit : ∃ i, i ≤ (vs.map Vr.pair).length ∧ z = endAt (vs.map Vr.pair) i
      · obtain ⟨i, hi, hzi⟩ := hit
        have hv9 := verdict_yes (us := (vs.take i).map (·.n)) i hE hob (by omega) hi hzi (by simp [← List.map_take, Vr.pair])
        have hat : kf_at z es.toArray.toList = some i := ends_hit hE hes hi hzi
        have hszS : ((vs.take i).map Vr.ref).toArray.size ≤ sizeLine := by
          rw [List.size_toArray, List.length_map, List.length_take, sizeLine_eq]
          omega
        refine kf_in (b := true) (by k_asm) (by k_mem) (ints_of hes) (ends_in hes hi hzi) ?_
        clear hi hzi
        k_steps
        (unfold Stop; (rename Fr _ _ _ _ => F9); (rename News _ _ _ _ => N9); (rename KtsTurn _ _ _ => K9); (rename Below _ _ _ _ => B9); refine ⟨_, _, _, _, _, rfl, ⟨KtsTurn.trans KT K9, B9⟩, (by first | exact fr_due2 F9 (by decide) | exact fr_due1 F9 (by decide)), kst_newsOf N9 ?_⟩; repeat (first | with_reducible exact mem_whole | refine mem_skip ?_))
      · have hv9 := verdict_no hE hob (by omega) (fun i hi h => hit ⟨i, hi, h⟩)
        refine kf_in (b := false) (by k_asm) (by k_mem) (ints_of hes) (ends_out hes (fun i hi h => hit ⟨i, hi, h⟩)) ?_
        clear hit
        k_steps
        (unfold Stop; (rename Fr _ _ _ _ => F9); (rename News _ _ _ _ => N9); (rename KtsTurn _ _ _ => K9); (rename Below _ _ _ _ => B9); refine ⟨_, _, _, _, _, rfl, ⟨KtsTurn.trans KT K9, B9⟩, (by first | exact fr_due2 F9 (by decide) | exact fr_due1 F9 (by decide)), kst_newsOf N9 ?_⟩; repeat (first | with_reducible exact mem_whole | refine mem_skip ?_))
    · intro g₁ h₁ tk₁ u v ⟨KT, B1⟩ F1 N1
      dsimp only
      have X1 := XB.keeps B1.stays
      have TT1 := TB.keeps B1.stays
      (repeat (rename Fr g' _ _ _ => z9; clear z9))
      (repeat (rename News g' _ _ _ => z9; clear z9))
      clear B' X' T' FG' B F X T
      k_steps
      refine fin _ _ _ _ _ _ rfl KT F1 N1 ?_
      repeat (first | with_reducible exact mem_whole | refine mem_skip ?_)
end
end Mine

namespace Mine
theorem fresh23 {M : Model} {A : Around} {E : Value → Shared → Prop} {s : Shared} {Q : Value → Shared → Prop} (h : wpAny M A (call (.ref 1) []) Q E s) : wpAny M A (call (.ref 1) []) Q E s := by
  w_top off
  k_with_none
  first | (walk1; fail) | exact h
end Mine

namespace Mine
open PySem.Spec PySem.Calls Builtin Builtin.ObjectAttr PySem.W.KBw

section
variable {prog : Program} {w : World} {A : Around} {s : Shared} {h₀ : Heap} {L : Addr} {m : Str → Option Value} {env : Env} {elt : Expr} {x : Str} {scope : Scope} {cl : List (Str × Addr)} {S : List (Addr × Obj) → Prop} {P : Nat → Value → Prop}
  {Fin : List Value → List (Addr × Obj) → Prop} {news : List (Addr × Obj)}
/-- a comprehension, by what holds ahead of each turn -/
theorem comp_ind {n : Nat} (Inv : Nat → List Value → List (Addr × Obj) → Prop) (h0 : Inv 0 [] news)
    (step : ∀ i ys news v I oI C oC D m₂ h tk (E' : Value → Shared → Prop), Inv i ys news → i < n → P i v → LCg.NsObj oC m₂ → m₂ x = some v → Fr h₀ L h m → News h₀ L h ((I, oI) :: (C, oC) :: (D, LCg.lst ys) :: news) → LCg.Off3 I C D news → ((@Ne Nat I C) ∧ (@Ne Nat I D) ∧ (@Ne Nat C D)) →
      wpAny (model prog w) A (eval elt (compEnvC scope cl C env)) (LCg.CompEnd h₀ L m { s with heap := h, toks := tk } I oI C oC D (LCg.lst ys) S (fun y news' => Inv (i + 1) (ys ++ [y]) news')) E' { s with heap := h, toks := tk })
    (fin : ∀ ys news, Inv n ys news → Fin ys news) : LCg.CompRest prog w A h₀ L m env elt x scope cl s S P Fin n 0 [] news := by
  have key : ∀ (k i : Nat) (ys : List Value) (news : List (Addr × Obj)), i + k = n → Inv i ys news → LCg.CompRest prog w A h₀ L m env elt x scope cl s S P Fin k i ys news := by
    intro k
    induction k with
    | zero =>
      intro i ys news e h
      obtain rfl : i = n := e
      exact LCg.CompRest.zero (fin ys news h)
    | succ k ih =>
      intro i ys news e h
      refine LCg.CompRest.succ fun v I oI C oC D m₂ hp tk E' hP hC hx F N off ne => ?_
      refine wpAny_mono (step i ys news v I oI C oC D m₂ hp tk E' h (by omega) hP hC hx F N off ne) (fun y s₂ h₂ => ?_) fun _ _ e => e
      obtain ⟨h', tk', news', e1, F', N', off', hS', r⟩ := h₂
      exact ⟨h', tk', news', e1, F', N', off', hS', ih (i + 1) _ _ (by omega) r⟩
  exact key n 0 [] news (Nat.zero_add n) h0

/-- what the law's own numbers are so far -/
def LawInv (S : Addr) (post : List (Addr × Obj)) (i : Nat) (ys : List Value) (news : List (Addr × Obj)) : Prop :=
  ∃ (vs : List Vr) (a b : Int) (t u : Tok) (c : Nat), ys = vs.map Vr.ref ∧ vs.length = i ∧ Encs (vs.map Vr.pair) ∧ (∀ p ∈ vs.reverse.map Vr.ent, p.1 ≠ S) ∧ Src a b ∧ news = (S, srcObj a b t u c) :: (post ++ vs.reverse.map Vr.ent)
theorem law_start {S : Addr} {post : List (Addr × Obj)} {a b : Int} {t u : Tok} {c : Nat} (h : Src a b) : LawInv S post 0 [] ((S, srcObj a b t u c) :: post) :=
  ⟨[], a, b, t, u, c, rfl, rfl, (fun p hp => nomatch hp), (fun p hp => nomatch hp), h, by simp⟩
theorem encs_snoc {vs : List Vr} {r : Vr} (h : Encs (vs.map Vr.pair)) (e : Enc r.n (bInts r.k)) : Encs ((vs ++ [r]).map Vr.pair) := by
  intro p hp
  rw [List.map_append] at hp
  rcases List.mem_append.mp hp with hp | hp
  · exact h p hp
  · rw [List.map_singleton, List.mem_singleton] at hp
    rw [hp]
    exact e
theorem law_end {S I C D T : Addr} {oI oC dl : Obj} {i : Nat} {vs : List Vr} {post : List (Addr × Obj)} {a b a' b' n : Int} {t u t' u' tn tb : Tok} {c c' : Nat} {bs : Array UInt8} {h' : Heap} {tk : Nat} {s₁ : Shared}
    (F : Fr h₀ L h' m) (N : News h₀ L h' ((T, tupObj [.int n tn, .bytes bs tb]) :: (I, oI) :: (C, oC) :: (D, dl) :: (S, srcObj a' b' t' u' c') :: (post ++ vs.reverse.map Vr.ent)))
    (off : LCg.Off3 I C D ((S, srcObj a b t u c) :: (post ++ vs.reverse.map Vr.ent))) (lI : @LT.lt Nat _ I T) (lC : @LT.lt Nat _ C T) (lD : @LT.lt Nat _ D T) (lS : @LT.lt Nat _ S T)
    (hl : vs.length = i) (hE : Encs (vs.map Vr.pair)) (hne : ∀ p ∈ vs.reverse.map Vr.ent, p.1 ≠ S) (he : Enc n (bInts bs)) (hs : Src a' b') :
    LCg.CompEnd h₀ L m s₁ I oI C oC D dl (fun _ => True) (fun y news' => LawInv S post (i + 1) (vs.map Vr.ref ++ [y]) news') (.ref T) { s₁ with heap := h', toks := tk } := by
  have em : (vs ++ [(⟨T, n, tn, bs, tb⟩ : Vr)]).reverse.map Vr.ent = (T, tupObj [.int n tn, .bytes bs tb]) :: vs.reverse.map Vr.ent := by simp [Vr.ent]
  refine LCg.CompEnd.intro F N ((S, srcObj a' b' t' u' c') :: (post ++ (vs ++ [(⟨T, n, tn, bs, tb⟩ : Vr)]).reverse.map Vr.ent)) ?_ (LCg.Off3.of ?_) trivial ?_
  · intro p hp
    rw [em] at hp
    simp only [List.mem_cons, List.mem_append] at hp ⊢
    rcases hp with h | h | h | h | h | h | h
    · exact .inr (.inl h)
    · exact .inr (.inr (.inl h))
    · exact .inr (.inr (.inr (.inl h)))
    · exact .inr (.inr (.inr (.inr (.inl h))))
    · exact .inr (.inr (.inr (.inr (.inr (.inl h)))))
    · exact .inl h
    · exact .inr (.inr (.inr (.inr (.inr (.inr h)))))
  · intro p hp
    rw [em] at hp
    have o := LCg.Off3.mem off
    rcases List.mem_cons.mp hp with rfl | hp
    · exact o (S, srcObj a b t u c) (.head _)
    rcases List.mem_append.mp hp with hp | hp
    · exact o p (.tail _ (List.mem_append_left _ hp))
    rcases List.mem_cons.mp hp with rfl | hp
    · exact ⟨Ne.symm (Nat.ne_of_lt lI), Ne.symm (Nat.ne_of_lt lC), Ne.symm (Nat.ne_of_lt lD)⟩
    · exact o p (.tail _ (List.mem_append_right _ hp))
  · refine ⟨vs ++ [⟨T, n, tn, bs, tb⟩], a', b', t', u', c', by simp [Vr.ref], by simp [hl], encs_snoc hE he, ?_, hs, rfl⟩
    rw [em]
    exact List.forall_mem_cons.mpr ⟨Ne.symm (Nat.ne_of_lt lS), hne⟩
end

theorem bvals_raw (vs : List Vr) : bvals (vs.map Vr.raw) = vs.map Vr.oct := by
  simp [bvals, Vr.raw, Vr.oct]
theorem bcat_raw {vs : List Vr} (hE : Encs (vs.map Vr.pair)) : (bcat (vs.map Vr.raw)).size ≤ 9 * vs.length := by
  have key : ∀ (vs : List Vr) (a : Array UInt8), Encs (vs.map Vr.pair) → ((vs.map Vr.raw).foldl (fun a p => a ++ p.1) a).size ≤ a.size + 9 * vs.length := by
    intro vs
    induction vs with
    | nil => intro a _; simp
    | cons p r ih =>
      intro a h
      rw [List.map_cons, List.foldl_cons]
      have h1 := ih (a ++ p.k) fun q hq => h q (.tail _ hq)
      have h2 := (h p.pair (.head _)).2.2.1
      have e3 : p.pair.2 = bInts p.k := rfl
      rw [e3, ints_length] at h2
      rw [Array.size_append] at h1
      rw [List.length_cons]
      have e4 : p.raw.1 = p.k := rfl
      rw [e4]
      omega
  have := key vs #[] hE
  unfold bcat
  simpa using this
theorem bcat_cat (vs : List Vr) : bInts (bcat (vs.map Vr.raw)) = catOf (vs.map Vr.pair) := by
  rw [bcat_ints]
  unfold catOf
  simp only [List.map_map]
  rfl
section
variable {prog : Program} {w : World} {A : Around} {E : Value → Shared → Prop} {s : Shared} {h₀ : Heap} {L : Addr} {news : List (Addr × Obj)}
theorem join_vrs {D : Addr} {c : Nat} {t : Tok} {vs : List Vr} {Q : Value → Shared → Prop} (N : News h₀ L s.heap news) (hm : (D, listOf (vs.map Vr.oct).toArray c) ∈ news) (hE : Encs (vs.map Vr.pair)) (hl : vs.length ≤ 8) (h : ∀ t' k, Q (.bytes (bcat (vs.map Vr.raw)) t') { s with toks := k }) :
    wpAny (model prog w) A (call (.builtin "bytes.join") [.bytes #[] t, .ref D]) Q E s :=
  join_call (l := vs.map Vr.raw) N (by rw [bvals_raw]; exact hm) (by have := bcat_raw hE; omega) h
end
section
variable {w : World} {E : Value → Shared → Prop} {s : Shared} {h₀ : Heap} {env : Env} {L : Addr} {m mg mb : Str → Option Value} {mean : ExcName → Option Value} {news : List (Addr × Obj)} {A₀ A : Around}
theorem flat_sizes {V : Addr} {c : Nat} {vs : List Vr} {tb : Tok} {Q : Value → Shared → Prop} (B : Below A₀ h₀ [] h₀) (F : Fr h₀ L s.heap m) (X : (hd.heap_39 w.params).In h₀)
    (N : News h₀ L s.heap news) (T : Top hd.view_39 (looseW hd.view_39 [Str.ofString "WORD"]) mean mg mb h₀)
    (hA : A.frames = some (env :: [])) (hf : env.frame = some L) (hke : env.scope.kind = .function) (hh : A.handled = none) (hroom : A.depth + 60 < recursionLimit) (hun : A.units + 600 < cLine)
    (hV : (V, listOf (vs.map Vr.ref).toArray c) ∈ news) (hm : ∀ r ∈ vs, r.ent ∈ news) (hE : Encs (vs.map Vr.pair)) (hl : vs.length ≤ 8)
    (ret : ∀ h' tk', Fr h₀ L h' m → News h₀ L h' news → Q (.bool true) { s with heap := h', toks := tk' }) :
    wpAny (model PySem.Challenge.rw_xm0746_01.row.prog w) A (call (.ref 114) [.ref V, .bytes (bcat (vs.map Vr.raw)) tb]) Q E s :=
  sizes_spec B F X N T X T ktsDicts_nil hA hf hke hh hroom hun hV hm hE hl (by have := bcat_raw hE; omega) (bcat_cat vs) fun h₁ h' tk' KT F' N' B' => ret h' tk' (fr_same KT F') (news_same KT N')
end
theorem news_mid {h₀ h : Heap} {L : Addr} {x y a b c : Addr × Obj} {l : List (Addr × Obj)} (N : News h₀ L h (x :: y :: a :: b :: c :: l)) : News h₀ L h [a, b, c] := fun p hp => N p (by
  simp only [List.mem_cons, List.not_mem_nil, or_false] at hp ⊢
  rcases hp with h | h | h
  · exact .inr (.inr (.inl h))
  · exact .inr (.inr (.inr (.inl h)))
  · exact .inr (.inr (.inr (.inr (.inl h)))))
theorem near_b {x : Int} (h : x = 127 ∨ x = 128 ∨ x = 16383 ∨ x = 16384 ∨ x = 2097152 ∨ x = 268435456) : 127 ≤ x ∧ x ≤ 268435456 := by
  omega
theorem ents_in {vs : List Vr} {l : List (Addr × Obj)} (h : ∀ p ∈ vs.reverse.map Vr.ent, p ∈ l) : ∀ r ∈ vs, r.ent ∈ l := fun r hr => h _ (List.mem_map_of_mem (List.mem_reverse.mpr hr))
end Mine

namespace Mine
theorem fresh24 {M : Model} {A : Around} {E : Value → Shared → Prop} {s : Shared} {Q : Value → Shared → Prop} (h : wpAny M A (call (.ref 1) []) Q E s) : wpAny M A (call (.ref 1) []) Q E s := by
  w_top off
  k_with_none
  first | (walk1; fail) | exact h
end Mine

namespace Mine
open PySem.Spec PySem.Calls Builtin Builtin.ObjectAttr PySem.W.KBw
local macro_rules | `(tactic| walk_at "hr") => `(tactic| (simp only [depth_deeper]; decide))
local macro_rules | `(tactic| walk_at "hu") => `(tactic| (simp only [units_deeper]; decide))
local macro_rules | `(tactic| k_ne) => `(tactic| (refine PySem.W.neN ?_; (try dsimp only); first | with_reducible assumption | exact Ne.symm (by with_reducible assumption) | exact (off_I (by with_reducible assumption) (by k_mem)) | exact Ne.symm (off_I (by with_reducible assumption) (by k_mem)) | exact (off_C (by with_reducible assumption) (by k_mem)) | exact Ne.symm (off_C (by with_reducible assumption) (by k_mem)) | exact (off_D (by with_reducible assumption) (by k_mem)) | exact Ne.symm (off_D (by with_reducible assumption) (by k_mem)) | exact (off_1 (by with_reducible assumption) (by k_mem)) | exact Ne.symm (off_1 (by with_reducible assumption) (by k_mem)) | omega))
local macro_rules | `(tactic| walk_at "FinE") => `(tactic| ((unfold LCg.FinE); intro D' h' tk' F' N' o1'; (try simp only [List.nil_append, List.cons_append] at N'); (try dsimp only)))
local macro_rules | `(tactic| walk_at "FinA") => `(tactic| ((unfold LCg.FinA); intro D' h' tk' F' N' o1'; (try simp only [List.nil_append, List.cons_append] at N'); (try dsimp only)))
local macro_rules | `(tactic| walk_at "CompSrc") => `(tactic| (refine stop ?_))
theorem big28 : (2 : Int) ^ Int.toNat 28 = 268435456 := by decide
local macro_rules | `(tactic| k_all) => `(tactic| with_reducible assumption)
local macro_rules | `(tactic| walk_at "exec For Name Call cons nil") => `(tactic| (refine stop ?_))
local macro_rules | `(tactic| walk_at "Exists") => `(tactic| (refine stop ?_))
local macro_rules | `(tactic| walk_at "pyIter ref") => `(tactic| (k_here; (with_reducible refine range_stop ?_)))
local macro_rules | `(tactic| walk_at "call ref") => `(tactic| (refine stop ?_))
local macro_rules | `(tactic| walk_at "call type:bytes") => `(tactic| (k_here; k_dflt (refine' bytes_lit ?F ?N ?h1 ?h2 ?h3 ?h4 ?_; (case F => k_asm); (case N => k_asm); (case h1 => rfl); (case h2 => repeat (first | exact IntsAre.nil | refine IntsAre.cons _ _ ?_)); (case h3 => (intro x hx; revert x hx; simp only [intsV, intV]; decide)); (case h4 => exact Nat.le_of_ble_eq_true rfl)); intro b' t' k' h' hb' hs' F' N'; (simp only [intsV, intV] at hb')))
local macro_rules | `(tactic| walk_at "compareOp NotEq ref ref") => `(tactic| (k_here; k_dflt (refine' ne_pair ?N ?hT ?hD ?hU ?hC ?hv ?hw ?he ?hu ?_; (case N => k_asm); (case hT => k_mem); (case hD => k_mem); (case hU => k_mem); (case hC => k_mem); (case hv => with_reducible assumption); (case hw => repeat (first | exact IntsAre.nil | refine IntsAre.cons _ _ ?_)); (case he => rfl); (case hu => (simp only [units_deeper]; omega)))))
local macro_rules | `(tactic| walk_at "call ref") => `(tactic| (k_here; k_dflt (first
  | (refine' flat_some (us := _) (z := _) (by k_asm) (by k_asm) (by k_asm) (by k_asm) (by k_asm) (by rfl) (by rfl) (by rfl) (by rfl) (by walk_at "hr") (by walk_at "hu") ?hv ?hb ?hz ?_; (case hb => first | with_reducible assumption | exact (rfl : bInts (#[] : Array UInt8) = [])); (case hv => first | exact v_b | exact v_e); (case hz => decide); (intro T' D' t2' c' vs' h' tk' hi' F' N' l1' l2'; (try k_lt l1'); (try k_fold)))
  | (refine' flat_no (by k_asm) (by k_asm) (by k_asm) (by k_asm) (by k_asm) (by rfl) (by rfl) (by rfl) (by rfl) (by walk_at "hr") (by walk_at "hu") ?hv ?hb ?hz ?_; (case hb => first | with_reducible assumption | exact (rfl : bInts (#[] : Array UInt8) = [])); (case hv => first | exact v_a | exact v_c | exact v_d); (case hz => decide); (intro h' tk' F' N'; (try k_fold))))))
local macro_rules | `(tactic| walk_at "call ref") => `(tactic| (k_here; k_dflt ((first
  | (refine' one_lit [] (by k_asm) (by k_asm) (by k_asm) (by k_asm) (by k_asm) (by rfl) (by rfl) (by rfl) (by rfl) (by walk_at "hr") (by walk_at "hu") ?hS ?hs ?hi ?h0 ?h1 ?_)); (case hS => k_all); (case hs => assumption); (case hi => repeat (first | exact IntsAre.nil | refine IntsAre.cons _ _ ?_)); (case h0 => exact Nat.succ_pos _); (case h1 => exact Nat.le_of_ble_eq_true rfl); (intro x' a' b' td' t' u' c' h' tk' hx' hsrc' F' N'; (try dsimp only [List.nil_append, List.cons_append] at N'); (simp only [intsV, intV, List.mem_cons, List.not_mem_nil, or_false] at hx'); (simp only [big28] at hx'); (replace hx' := near_b hx'); (try k_fold)))))
local macro_rules | `(tactic| walk_at "call ref") => `(tactic| (k_here; k_dflt ((first
  | (refine' take_at [] (by k_asm) (by k_asm) (by k_asm) (by k_asm) (by k_asm) (by rfl) (by rfl) (by rfl) (by rfl) (by walk_at "hr") (by walk_at "hu") ?hS ?hs ?h0 ?h1 ?_)
  | (refine' take_at [_] (by k_asm) (by k_asm) (by k_asm) (by k_asm) (by k_asm) (by rfl) (by rfl) (by rfl) (by rfl) (by walk_at "hr") (by walk_at "hu") ?hS ?hs ?h0 ?h1 ?_)); (case hS => k_all); (case hs => assumption); (case h0 => decide); (case h1 => decide); (intro d' a' b' td' t' u' c' h' tk' hlo' hhi' hsrc' F' N'; (try dsimp only [List.nil_append, List.cons_append] at N'); (try k_fold)))))
local macro_rules | `(tactic| walk_at "call ref") => `(tactic| (k_here; k_dflt ((first
  | (refine' varint_at [_, _, _] (by k_asm) (by k_asm) (by k_asm) (by k_asm) (by k_asm) (by rfl) (by rfl) (by rfl) (by rfl) (by walk_at "hr") (by walk_at "hu") ?hS ?hs ?_)); (case hS => k_all); (case hs => assumption); (intro n' bs' T' tn' tb' a' b' t' u' c' h' tk' he' hsrc' F' N' l1'; (try dsimp only [List.nil_append, List.cons_append] at N'); (try dsimp only [List.nil_append, List.cons_append] at l1'); (try k_lt l1'); (repeat (have z9' := And.left l1'; replace l1' := And.right l1')); (try k_fold)))))
local macro_rules | `(tactic| walk_at "call ref") => `(tactic| (k_here; k_dflt (refine' pool_spec (by k_asm) (by k_asm) (by k_asm) (by k_asm) (by k_asm) (by rfl) (by rfl) (by rfl) (by rfl) (by walk_at "hr") (by walk_at "hu") ?hl ?hi ?hn ?h0 ?h1 ?_; (case hl => assumption); (case hi => assumption); (case hn => omega); (case h0 => omega); (case h1 => omega); (intro D' a' b' t' u' c' h' tk' hsrc' F' N' l1'; (try k_lt l1'); (try k_fold)))))
local macro_rules | `(tactic| walk_at "call ref") => `(tactic| (k_here; k_dflt (refine' head_size_spec (by k_asm) (by k_asm) (by k_asm) (by k_asm) (by k_asm) (by rfl) (by rfl) (by rfl) (by rfl) (by walk_at "hr") (by walk_at "hu") ?h0 ?h1 ?_; (case h0 => omega); (case h1 => omega); (intro own' t' h' tk' hp' F' N'; (try k_fold)))))
local macro_rules | `(tactic| walk_at "call ref") => `(tactic| (k_here; k_dflt (refine' least_same (by k_asm) (by k_asm) (by k_asm) (by k_asm) (by k_asm) (by rfl) (by rfl) (by rfl) (by rfl) (by walk_at "hr") (by walk_at "hu") ?h0 ?h1 ?hp ?_; (case hp => with_reducible assumption); (case h0 => omega); (case h1 => omega); (intro t' h' tk' F' N'; (try k_fold)))))
theorem law_low (x : Int) : -(2 ^ 62) ≤ (if (if x < 2 then x else 2) > 1 then if x < 2 then x else 2 else 1) := by
  split <;> (try split) <;> omega
theorem law_high (x : Int) : (if (if x < 2 then x else 2) > 1 then if x < 2 then x else 2 else 1) < 2 ^ 62 := by
  split <;> (try split) <;> omega
theorem law_turn {z : Int} (x : Int) (h0 : 0 ≤ z) (h : z < (((if (if x < 2 then x else 2) > 1 then if x < 2 then x else 2 else 1) - 0 : Int).toNat : Int)) : z ≤ 1 := by
  have : (if (if x < 2 then x else 2) > 1 then if x < 2 then x else 2 else 1) ≤ 2 := by
    split <;> (try split) <;> omega
  omega
local macro_rules | `(tactic| walk_at "getMethod bytes") => `(tactic| (k_here; (with_reducible refine join_method ?_)))
theorem law_keep {u₂ u m₀ : Str → Option Value} {a b c k : Option Value}
    (e : u₂ = fun y => if y = Str.ofString "few" then a else if y = Str.ofString "near" then b else if y = Str.ofString "varints" then c else if y = Str.ofString "k" then k else if [Str.ofString "varints", Str.ofString "near", Str.ofString "few"].contains y then u y else m₀ y) :
    ∀ y, y ≠ Str.ofString "k" → [Str.ofString "varints", Str.ofString "near", Str.ofString "few"].contains y = false → u₂ y = m₀ y := by
  intro y h1 h2
  have a1 : y ≠ Str.ofString "few" := fun q => by
    rw [q] at h2
    exact absurd h2 (by decide)
  have a2 : y ≠ Str.ofString "near" := fun q => by
    rw [q] at h2
    exact absurd h2 (by decide)
  have a3 : y ≠ Str.ofString "varints" := fun q => by
    rw [q] at h2
    exact absurd h2 (by decide)
  rw [e]
  simp only [if_neg a1, if_neg a2, if_neg a3, if_neg h1, h2, Bool.false_eq_true, if_false]
local macro_rules | `(tactic| walk_at "CompEnd") => `(tactic| (refine stop ?_))
local macro_rules | `(tactic| walk_at "SrcLP") => `(tactic| (k_here; k_dflt (refine LCp.SrcLP.ledger (by rfl) (by k_asm) (by k_asm) (by k_mem) (by with_reducible assumption) ?_; intro g'; refine comp_at Vr.oct (by simp) (by rfl) (fun _ => rfl) (by decide) (fun _ _ _ h => h) (by lcg_src) (ents_in (by repeat (first | exact fun _ h => h | refine mem_skip ?_))) src_at ?_)))
local macro_rules | `(tactic| walk_at "call builtin:bytes.join") => `(tactic| (k_here; k_dflt (refine' join_vrs ?N ?m ?e ?l ?_; (case N => k_asm); (case m => k_mem); (case e => with_reducible assumption); (case l => with_reducible assumption)); intro t' k'))
local macro_rules | `(tactic| walk_at "call ref") => `(tactic| (k_here; k_dflt (refine' flat_sizes (by k_asm) (by k_asm) (by k_asm) (by k_asm) (by k_asm) (by rfl) (by rfl) (by rfl) (by rfl) (by walk_at "hr") (by walk_at "hu") ?hV ?hm ?hE ?hl ?_; (case hV => k_mem); (case hm => exact ents_in (by repeat (first | exact fun _ h => h | refine mem_skip ?_))); (case hE => with_reducible assumption); (case hl => with_reducible assumption); (intro h' tk' F' N'; (try replace N' := news_mid N'); (try k_fold)))))
set_option maxHeartbeats 8000000 in
theorem trial : PySem.Challenge.rw_xm0746_01.Holds := hd (by
  k_go0
  rename Fr _ _ _ _ => F0
  replace F0 : Fr _ _ _ (fun y => if y = Str.ofString "script" then some (.ref _) else none) := F0
  rename (Obj.data _ = Data.cell _) => hw0
  replace hw0 : _ = Data.cell none := hw0
  rename CellsAre _ _ _ => hcells
  clear hcells
  (all_goals try k_fold)
  all_goals k_steps
  unfold Stop
  refine wpAny_For ?_ ?_
  rotate_left
  · intro _; rfl
  k_steps
  unfold Stop
  (rename News _ _ _ _ => N8)
  repeat (replace N8 := news_tail2 N8)
  refine range_law (stored := [Str.ofString "varints", Str.ofString "near", Str.ofString "few"]) (E' := fun _ _ => False) rfl (by assumption) (small_one (by omega) (by omega) (law_low _) (law_high _)) (rangeSize_nat _ _) rfl rfl (by assumption) N8 (by assumption) (fun _ _ h => h.elim) ?_ ?_
  · intro z t u I oI o v h tk z0 z1 hCI hov F1 N1
    have z2 := law_turn _ z0 z1
    clear z1
    revert F1 N1
    (repeat (rename Fr _ _ _ _ => z9; clear z9))
    (repeat (rename News _ _ _ _ => z9; clear z9))
    intro F1 N1
    try dsimp only
    (try k_fold)
    k_steps
    unfold Stop
    rename (_ < (5 : Int)) => d5
    refine LCg.CompSrc.range rfl (by assumption) (by assumption) (by assumption) (small_one (by omega) (by omega) (by omega) (by omega)) (rangeSize_nat _ _) (by rw [sizeLine_eq]; omega) fun g' => ?_
    refine comp_ind (LawInv _ _) (law_start (by assumption)) ?_ ?_
    · rintro i ys news v2 I2 oI2 C2 oC2 D2 m2 h2 tk2 E2 ⟨vs, a2, b2, t2, u2, c2, rfl, hl2, hE2, hne2, hs2, rfl⟩ hlt _ hC hx F2 N2 off2 ne2
      revert F2 N2
      (repeat (rename Fr _ _ _ _ => z9; clear z9))
      (repeat (rename News _ _ _ _ => z9; clear z9))
      intro F2 N2
      dsimp only [List.cons_append, List.nil_append] at N2 off2
      try dsimp only
      k_steps
      unfold Stop
      exact law_end (post := [_, _]) (by assumption) (by assumption) off2 (by omega) (by omega) (by omega) (by omega) hl2 hE2 hne2 (by assumption) (by assumption)
    · rintro ys news ⟨vs, a2, b2, t2, u2, c2, rfl, hl2, hE2, hne2, hs2, rfl⟩
      have hl8 : vs.length ≤ 8 := by omega
      have hszV : (vs.map Vr.ref).toArray.size ≤ sizeLine := by
        rw [List.size_toArray, List.length_map, sizeLine_eq]
        omega
      clear hl2 hne2
      (repeat (rename Fr _ _ _ _ => z9; clear z9))
      (repeat (rename News _ _ _ _ => z9; clear z9))
      try dsimp only
      k_steps
      all_goals (unfold Stop; (rename Fr _ _ _ _ => F9); (rename News _ _ _ _ => N9); refine' ⟨_, _, _, _, _, rfl, ?hc9, F9, law_keep rfl, kst_newsOf N9 ?hn9⟩; (case hn9 => repeat (first | with_reducible exact mem_whole | refine mem_skip ?_)); (case hc9 => assumption))
  · intro h tk u o F1 N1
    revert F1 N1
    (repeat (rename Fr _ _ _ _ => z9; clear z9))
    (repeat (rename News _ _ _ _ => z9; clear z9))
    intro F1 N1
    dsimp only
    k_steps)
end Mine

set_option maxHeartbeats 8000000 in
theorem PySem.Challenge.cw_xm0746_01_holds : PySem.Challenge.rw_xm0746_01.Holds := by
  exact Mine.trial
