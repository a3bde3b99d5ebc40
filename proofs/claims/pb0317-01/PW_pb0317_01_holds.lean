import PyProof.Rows.All
import Wide.All
import OpenK.AllK
import Wide.FinOn
import PySem.Challenge.RW_pb0317_01
open PySem PySem.W PyProof.Rows PySem.Calls
set_option Elab.async false
set_option maxRecDepth 100000
set_option maxHeartbeats 8000000

namespace Mine
open_top hd for PySem.Challenge.rw_pb0317_01
end Mine

namespace Mine
open Sem (wp)

theorem fill : Challenge.rw_pb0317_01.prog = Challenge.rw_pb0317_01.prog ∧ hd.heap_39 = hd.heap_39 := by
  w_top off
  k_fill
  exact ⟨rfl, rfl⟩

theorem nsMap_some {K : Frag} {h : Heap} {N : Addr} {x : Str} {v : Value} (X : K.In h) (q : nsOkIn K N = true) (e : nsIn K N x = some (some v)) : h.nsMap N x = some v := by
  obtain ⟨o, es, ep, ho, hdd, _, hf⟩ := Heap.Ns.of_isNs (isNs_of_in X q)
  unfold nsIn at e
  split at e
  · rename_i c d es' n' sl q'
    have := X _ _ q'
    rw [ho] at this
    cases this
    cases hdd
    split at e
    · rename_i en he
      cases e
      rw [← hf]
      unfold nsFind findBy
      rw [← Array.find?_toList, he]
      rfl
    · split at e <;> cases e
  · cases e

section
variable {prog : Program} {w : World} {A : Around} {E : Value → Shared → Prop} {h : Heap} {g : Array GenState} {d : Drawn} {t : Nat} {os : OsState}
variable {nm q : Str} {C N : Addr} {bs bm bmB : List Value} {hdct : Bool} {sn : List Str} {sub : List Value} {ab : Bool} {col : Option Bool} {dd : Option Addr} {k0 k1 k2 k3 k5 : Option Value} {B newId initId : String}

/-- a call of an own exception class that has an own class above it and an own __init__: up to the call of the __init__ -/
theorem made_init0 (F : ExcBaseFacts B newId initId bmB) (T : OwnTail h bmB bm) {mN : Str → Option Value} {rest : List Value} {fI : Addr} {oI : Obj} {Q : Fin → Shared → Prop}
    (hC : h.get? C = some (excClassObj nm q C N bs bm hdct sn sub ab col dd k0 k1 k2 k3 k5 newId)) (hn : h.Ns N mN) (hi : mN "__init__" = some (.ref fI))
    (hfI : h.get? fI = some oI) (hfc : oI.cls = .type "function")
    (hq : ∀ h' e, Heap.MadeExcOf h h' e (.ref C) rest → h'.objs.size = h.objs.size + 2 → e = h.objs.size + 1 →
      wpAny (model prog w) A (call (.ref fI) (.ref e :: rest)) (fun r s' => r = .none ∧ Q (.done (.ret (.ref e))) s') E ⟨h', g, d, t, os⟩) (hrest : rest.length ≤ sizeLine := by size_fits) :
    wpAny (model prog w) A (Builtin.«type.__call__» ⟨.ref C :: rest, []⟩) Q E ⟨h, g, d, t, os⟩ := by
  repeat (first | with_reducible refine wpAny_loadPart_at hC ?_ | with_reducible refine wpAny_madeBy_exc hC ?_ | wp_step)
  refine codeAny_call_builtin_code (Code.quiet_builtin _ F.quiet) (wpAny_check_new_subT F T hC ?_)
  refine codeAny_exc_new_subT F T hC ?_ hrest
  show wpAny _ _ _ _ _ _
  have kp : ∀ b o, h.get? b = some o → ((h.push { cls := .type "tuple", data := .seq rest.toArray }).push { cls := .ref C, data := .fields #[.ref h.objs.size, .none, .none, .none, .bool false, .none] }).get? b = some o :=
    fun b o e => Heap.get?_push_of_some _ (Heap.get?_push_of_some _ e)
  have hC₁ := kp _ _ hC
  have hfI₁ := kp _ _ hfI
  have hn₁ := hn.keeps kp
  have T₁ := T.keeps kp
  have hget : ((h.push { cls := .type "tuple", data := .seq rest.toArray }).push
      { cls := .ref C, data := .fields #[.ref h.objs.size, .none, .none, .none, .bool false, .none] }).get? (h.objs.size + 1) = some
      { cls := .ref C, data := .fields #[.ref h.objs.size, .none, .none, .none, .bool false, .none] } := by heap_get
  have hcC : (Value.ref C :: bm).contains (.ref C) = true := by simp
  unfold isInstance
  repeat (first | with_reducible refine wpAny_loadPart_at hget ?_ | (with_reducible refine wpAny_isSubtype_exc hC₁ ?_; rw [hcC]) | wp_step)
  show wpAny _ _ (typeLookup (.ref C) _) _ _ _
  refine wpAny_typeLookup_tail hC₁ hn₁ T₁ F.mroIs F.init.lookup ?_
  rw [hi]
  refine wpAny_holding (wpAny_bind ?_)
  unfold bindSpecial
  refine wpAny_bind (wpAny_typeOf (T := "function") ⟨_, hfI₁, hfc⟩ ?_)
  rw [if_pos (by decide)]
  refine wpAny_pure (wpAny_bind (wpAny_mono (hq _ (h.objs.size + 1) ⟨kp, Heap.get?_none_of_le (Nat.le_succ _), h.objs.size, hget, Heap.get?_none_of_le (Nat.le_refl _), ?_⟩ (by simp only [Heap.size_push]) rfl) (fun r s' hr => ?_) fun _ _ x => x))
  · exact Heap.get?_push_of_some _ (Heap.get?_push_at rfl rfl)
  · obtain ⟨rfl, hQ⟩ := hr
    wp_walk
    exact hQ

theorem made_init (F : ExcBaseFacts B newId initId bmB) (T : OwnTail h bmB bm) {mN : Str → Option Value} {rest : List Value} {fI : Addr} {oI : Obj} {Q : Value → Shared → Prop}
    (hC : h.get? C = some (excClassObj nm q C N bs bm hdct sn sub ab col dd k0 k1 k2 k3 k5 newId)) (hn : h.Ns N mN) (hi : mN "__init__" = some (.ref fI))
    (hfI : h.get? fI = some oI) (hfc : oI.cls = .type "function")
    (hq : ∀ h' e, Heap.MadeExcOf h h' e (.ref C) rest → h'.objs.size = h.objs.size + 2 → e = h.objs.size + 1 →
      wpAny (model prog w) (A.under (.builtin "type.__call__" ⟨.ref C :: rest, []⟩)) (call (.ref fI) (.ref e :: rest)) (fun r s' => r = .none ∧ Q (.ref e) s') E ⟨h', g, d, t, os⟩) (hrest : rest.length ≤ sizeLine := by size_fits) :
    wpAny (model prog w) A (call (.ref C) rest) Q E ⟨h, g, d, t, os⟩ := by
  have f1 := tc_lookup
  have f2 := tc_bind (.ref C)
  have hT : (⟨h, g, d, t, os⟩ : Shared).TypeIs (.ref C) "type" := ⟨_, hC, rfl⟩
  refine wpAny_call (codeAny_of_tree ?_)
  show wpAny _ _ (callAny (.ref C) _) _ _ _
  repeat (any_goals (first | assumption | with_reducible refine wpAny_loadPart_at hC ?_ | wp_step))
  refine ⟨rfl, ?_⟩
  exact codeAny_call_builtin_at (Code.quiet_builtin _ (by decide +kernel)) entry_typeCall (wpAny_check_type_call_sub hC (made_init0 (hrest := hrest) F T hC hn hi hfI hfc fun h' e hm h2 h3 => hq h' e hm h2 h3))
end

theorem K44 (w : World) : ∃ a b c d e f g h i j k, (hd.heap_39 w.params).lookup 44 = some (excClassObj a b 44 43 c [.ref 24, .type "Exception", .type "BaseException", .type "object"] true d e false f g h i j k (some (.bool true)) "Exception.__new__") := by
  exact ⟨_, _, _, _, _, _, _, _, _, _, _, by k_is⟩
end Mine

namespace Mine
open Builtin Builtin.ObjectAttr

abbrev fr (l : List Env) : List Addr := l.filterMap (·.frame)

/-- what a call finds: the base, the frames below, the few objects that it is told of -/
structure At (K : Frag) (p : Program) (loose : List Str) (mean : ExcName → Option Value) (mg mb : Str → Option Value) (base h : Heap) (l : List Env) (news : List (Addr × Obj)) : Prop where
  stays : base.StaysIn h
  frames : h.FunFrames base l
  X : K.In base
  T : Top p loose mean mg mb base
  news : ∀ q ∈ news, h.get? q.1 = some q.2 ∧ base.get? q.1 = none ∧ q.1 ∉ fr l

section
variable {K : Frag} {p : Program} {loose : List Str} {mean : ExcName → Option Value} {mg mb : Str → Option Value} {base h g : Heap} {l outer : List Env} {news small : List (Addr × Obj)} {A A₀ : Around} {L a : Addr} {m : Str → Option Value}
  {cn : Str} {cs : Scope} {ccd : Value}

theorem none_base {base g : Heap} (k : base.StaysIn g) {b : Addr} (e : g.get? b = none) : base.get? b = none := by
  cases q : base.get? b with
  | none => rfl
  | some o => have := k b o q; rw [e] at this; cases this

theorem At.of {env : Env} (B : Below A₀ base outer g) (F : Fr g L h m) (N : News g L h news) (X : K.In base) (T : Top p loose mean mg mb base) (hs : ∀ q ∈ small, q ∈ news) (hf : env.frame = some L) (hk : env.scope.kind = .function) :
    At K p loose mean mg mb base h (env :: outer) small := by
  have B₁ := pushX B F hf hk
  refine ⟨B₁.stays, B₁.frames, X, T, fun q hq => ?_⟩
  have n := N q (hs q hq)
  refine ⟨n.1, none_base B.stays n.2.2, fun hm => ?_⟩
  obtain ⟨env', he, hf'⟩ := List.mem_filterMap.mp hm
  rcases List.mem_cons.mp he with rfl | he
  · exact n.2.1 (Option.some.inj (hf.symm.trans hf')).symm
  · obtain ⟨o, ho, _⟩ := (B.frames.mem (List.mem_filterMap.mpr ⟨env', he, hf'⟩)).2
    rw [n.2.2] at ho; cases ho

theorem none_at {h : Heap} : h.get? h.objs.size = none := Heap.get?_none_of_le (Nat.le_refl _)

variable {prog : Program} {w : World} {s : Shared} {R : Result → Shared → Prop} {name qual : Str} {params : Arguments} {body : List Stmt} {scope : Scope} {dV kV doc pm cdv ct oc : Value} {an od : Option Addr} {osl : Array (Option Value)} {f : Addr} {args : Args} {binds : List (Str × Value)}

theorem enter (H : At K p loose mean mg mb base s.heap l news) (hA : A.frames = some l)
    (ho : K.lookup f = some ⟨oc, od, .func (fnOf name qual params body scope dV kV doc pm an cdv ct), osl⟩) (hcd : codeIn K cdv qual = true) (hroom : A.depth < recursionLimit)
    (hbind : BindsTo s (fnOf name qual params body scope dV kV doc pm an cdv ct) args binds) (hloc : ∀ y ∈ binds, scope.names.lookup y.1 = some .local)
    (h : ∀ g L' h₁, g = hideAll s.heap (news.map (·.1)) → L' = s.heap.objs.size → Fr g L' h₁ (fun y => binds.reverse.lookup y) → News g L' h₁ news → Below A base l g → K.In g → Top p loose mean mg mb g →
      wpAny (model prog w) (A.deeper (envOf qual scope L' f cdv)) (execs body (envOf qual scope L' f cdv))
        (fun fl s' => R (.ok (.ret (match fl with | .ret v => v | _ => .none))) s')
        (fun e s' => wpAny (model prog w) (A.deeper (envOf qual scope L' f cdv)) (leaving (envOf qual scope L' f cdv) e) (fun _ s'' => R (.error e) s'') (fun e' s'' => R (.error e') s'') s')
        { s with heap := h₁, toks := s.toks + binds.length })
    (hco : scope.isCoroutine = false) (hgen : scope.isGenerator = false) (hk : scope.kind = .function)
    (hcell : ∀ x ∈ scope.names, x.2 ≠ .cell) : codeAny (model prog w) A (.call (.ref f) args) R s := by
  have X := H.X.keeps H.stays
  have T := H.T.keeps H.stays
  refine codeAny_call_def (fd := fnOf name qual params body scope dV kV doc pm an cdv ct) (body := body) (binds := binds) hroom (X _ _ ho) rfl T.nolimit (codeRec_of X hcd) rfl hbind hcell hloc (fun h₁ hns hk₁ => ?_) hco hgen hk
  have st : base.StaysIn (hideAll s.heap (news.map (·.1))) := fun b o e => hideAll_get _ (H.stays b o e) fun q => by
    obtain ⟨y, hy, rfl⟩ := List.mem_map.mp q
    rw [(H.news y hy).2.1] at e; cases e
  refine h _ _ h₁ rfl rfl ⟨hns, fun b o e => hk₁ b o (of_hideAll _ e), Nat.le_of_eq (hideAll_size _ _)⟩
    (fun y hy => ⟨hk₁ _ _ (H.news y hy).1, Nat.ne_of_lt (Heap.lt_size (H.news y hy).1), hideAll_none _ (List.mem_map_of_mem hy)⟩)
    ⟨hA, st, funFrames_hideAll H.frames fun env he b hb hf => ?_⟩ (H.X.keeps st) (H.T.keeps st)
  obtain ⟨y, hy, rfl⟩ := List.mem_map.mp hb
  exact (H.news y hy).2.2 (List.mem_filterMap.mpr ⟨env, he, hf⟩)

/-- what the callee kept is kept of what the caller had -/
theorem hidden_keep {h h' : Heap} {as : List Addr} (k : ∀ b o, (hideAll h as).get? b = some o → h'.get? b = some o) {b : Addr} {o : Obj} (e : h.get? b = some o) (n : b ∉ as) : h'.get? b = some o :=
  k b o (hideAll_get _ e n)

/-- the caller's frame and ledger behind a call -/
theorem back {h' : Heap} {news' : List (Addr × Obj)} {S : List Addr} (F : Fr g L h m) (N : News g L h news) (k : ∀ b o, h.get? b = some o → b ∉ S → h'.get? b = some o) (hS : ∀ b ∈ S, ∃ o, (b, o) ∈ news)
    (hn : ∀ q ∈ news', h'.get? q.1 = some q.2 ∧ ((∃ o, (q.1, o) ∈ news) ∨ h.get? q.1 = none)) : Fr g L h' m ∧ News g L h' news' := by
  have nS : ∀ b, b ∈ S → b ≠ L ∧ g.get? b = none := fun b hb => by
    obtain ⟨o, ho⟩ := hS b hb
    exact (N _ ho).2
  obtain ⟨oL, es, ep, hL, r⟩ := F.ns
  have hL' := k L oL hL fun q => (nS L q).1 rfl
  refine ⟨⟨⟨oL, es, ep, hL', r⟩, fun b o e => k b o (F.keep b o e) fun q => ?_, F.above⟩, fun q hq => ⟨(hn q hq).1, ?_⟩⟩
  · have := (nS b q).2; rw [e] at this; cases this
  · rcases (hn q hq).2 with ⟨o, ho⟩ | e
    · exact (N _ ho).2
    · refine ⟨fun z => ?_, ?_⟩
      · rw [z, hL] at e; cases e
      · cases q' : g.get? q.1 with
        | none => rfl
        | some o' => have := F.keep _ _ q'; rw [e] at this; cases this
end

/-! ### a value stored on an exception of an own class -/
abbrev exc0 (t : Addr) : Obj := { cls := .ref 44, data := .fields #[.ref t, .none, .none, .none, .bool false, .none] }
abbrev exc1 (t d : Addr) : Obj := { cls := .ref 44, dict := some d, data := .fields #[.ref t, .none, .none, .none, .bool false, .none] }

section
variable {prog : Program} {w : World} {A : Around} {E : Value → Shared → Prop} {s : Shared} {dx : Addr} {es es' : List DictEntry} {n n' : Nat} {name : Str} {v : Value} {tk : Tok}
theorem store_raw {Q : Fin → Shared → Prop} (D : s.heap.get? dx = some (dictOf es n)) (hl : (getL name es).isSome = true)
    (e : (putL name (PyData.keyHash w.params name) (.str name s.toks) v es, putN name es n) = (es', n')) (hz : es'.length ≤ 1000)
    (h : ∀ h', h'.get? dx = some (dictOf es' n') → (∀ b, b ≠ dx → h'.get? b = s.heap.get? b) → h'.objs.size = s.heap.objs.size → Q (.done (.ret .none)) { s with heap := h', toks := s.toks + 1 }) :
    wpAny (model prog w) A (storeInDict dx (.str name tk) name v) Q E s := by
  obtain ⟨e1, e2⟩ := Prod.mk.inj e
  have ep : Obj.putName name (PyData.keyHash w.params name) (.str name s.toks) v (dictOf es n) = dictOf es' n' := by rw [putName_dict, e1, e2]
  have D' : (s.heap.update dx (Obj.putName name (PyData.keyHash w.params name) (.str name s.toks) v)).get? dx = some (dictOf es' n') := by
    rw [Heap.get?_update_self _ D (by rw [ep]; rfl), ep]
  unfold storeInDict newKeyGuard
  refine wpAny_bind (wpAny_pure (wpAny_bind ?_))
  unfold nsSet
  refine wpAny_bind (wpAny_bind (wpAny_askSetting (wpAny_pure (wpAny_bind (wpAny_mkText (wpAny_bind (wpAny_loadPart D ?_)))))))
  dsimp only
  have hl' : (lookIn name (dictOf es n)).isSome = true := by rw [lookIn_dict]; exact hl
  have c : aRefKeyMayBeTheName name es.toArray = false := by
    rw [aRefKeyMayBeTheName_at, ← Array.any_toList, ← Array.any_toList]
    unfold getL at hl
    split at hl
    · rename_i en he
      rw [List.any_eq_true.mpr ⟨en, List.mem_of_find?_eq_some he, List.find?_some he⟩]; rfl
    · split at hl
      · cases hl
      · rename_i z; rw [Bool.not_eq_true] at z; rw [z, Bool.and_false]
  rw [c]
  refine wpAny_updatePart D ?_
  refine wpAny_bind (wpAny_lookBehind D' (pastItsLine_dict (by rw [List.size_toArray, sizeLine_eq]; omega)) ?_)
  exact wpAny_pure (h _ D' (fun b hb => Heap.get?_update_ne _ _ _ _ hb) (Heap.size_after_update ..))
end
end Mine

namespace Mine
open Builtin Builtin.ObjectAttr

section
variable {prog : Program} {w : World} {A : Around} {E : Value → Shared → Prop} {s : Shared} {x : Addr} {ox : Obj} {od : Option Obj} {name : Str} {v : Value} {tk : Tok} {R : Result → Shared → Prop} {K : Frag} {C : Addr}

def excMro : List Value := [.ref 44, .ref 24, .type "Exception", .type "BaseException", .type "object"]

theorem osa_exc (X : K.In s.heap) (I : InstAt s.heap x ox C od) (hc : (clsIn K C).any (fun cd => cd.mro == excMro) = true) (ht : takerIn K C name = some none)
    (h : ∀ b, wpAny (model prog w) A.in1 (storeInOwnDict (.ref x) (.ref C) (.str name tk) name v b)
      (fun fin s' => match fin with | .done f => R (.ok f) s' | .again c' => c'.quiet = true ∧ codeAny (model prog w) A c' R s') (fun e s' => R (.error e) s') s) :
    codeAny (model prog w) A (.call (.builtin "object.__setattr__") ⟨[.ref x, .str name tk, v], []⟩) R s := by
  have SF := PySem.F.store_object
  obtain ⟨cd, hc, hm⟩ := any_some hc
  have hm := beq_iff_eq.mp hm
  have sub : Looks (model prog w) s.heap (isInstance (.ref x) (.type "object")) true := I.type.andThen (looks_mroIn X (by unfold mroIn; rw [hc, Option.bind_some, hm]; rfl))
  refine codeAny_call_builtin SF.slot.plain SF.entry (@check_slot (model prog w) _ _ s "object.__setattr__" "object" "__setattr__" (.ref x) [.str name tk, v] [] _ SF.kind SF.split sub (SF.args (.ref x) (.str name tk) v) ?_)
  obtain ⟨attr, ha, hr⟩ := Option.bind_eq_some_iff.mp ht
  have hm' : Looks (model prog w) s.heap (mroOf (.ref C)) cd.mro := (looks_clsIn X hc).andThen .now
  have L3 : Looks (model prog w) s.heap (storeTaker? attr) none := by
    cases attr with
    | none => exact .now
    | some a =>
      obtain ⟨b, hb, hb'⟩ := Option.map_eq_some_iff.mp hr
      refine (looks_takesIn X hb).andThen ?_
      cases b with
      | true => cases hb'
      | false => exact .now
  rw [osa_eq, refuse_eq]
  refine wpAny_bind (wpAny_bind (I.type.here (wpAny_bind (hm'.here ?_))))
  rw [hm]
  unfold excMro
  rw [refuseLoop_ref, refuseLoop_ref, PySem.F.store_Exception.passes]
  refine wpAny_pure (wpAny_bind (I.type.here (wpAny_bind ((looks_findIn X ha).here (wpAny_bind (L3.here ?_))))))
  exact h _

variable {h₀ : Heap} {L t d : Addr} {m : Str → Option Value} {news news' : List (Addr × Obj)} {es es' : List DictEntry} {n n' : Nat} {Q : Unit → Shared → Prop}

theorem set_exc1 (F : Fr h₀ L s.heap m) (X₀ : K.In h₀) (N : News h₀ L s.heap news) (hx : (x, exc1 t d) ∈ news) (hd : (d, dictOf es n) ∈ news)
    (hs : findIn K (.ref 44) "__setattr__" = some (some (.builtin "object.__setattr__"))) (hc : (clsIn K 44).any (fun cd => cd.mro == excMro) = true) (hh : hasDictIn K 44 = true) (ht : takerIn K 44 name = some none)
    (hl : (getL name es).isSome = true)
    (e : (putL name (PyData.keyHash w.params name) (.str name (s.toks + 1)) v es, putN name es n) = (es', n')) (U : Upd d (dictOf es n) (dictOf es' n') news news') (hz : es'.length ≤ 1000)
    (h : ∀ h', Fr h₀ L h' m → News h₀ L h' news' → Q () { s with heap := h', toks := s.toks + 2 }) :
    wpAny (model prog w) A (setAttr (.ref x) name v) Q E s := by
  obtain ⟨cd, hcd, hd'⟩ := any_some hh
  have X := X₀.keeps F.keep
  have I : InstAt s.heap x (exc1 t d) 44 (some (dictOf es n)) := ⟨(N _ hx).1, rfl, rfl, (N _ hd).1⟩
  refine set_plain X I hs (osa_exc (s := { s with toks := s.toks + 1 }) X I hc ht fun b => ?_)
  unfold storeInOwnDict ownStreamTells
  refine wpAny_bind (wpAny_pure ?_)
  refine wpAny_bind (wpAny_bind (wpAny_loadPart (N _ hx).1 ?_))
  have LC : Looks (model prog w) ({ s with toks := s.toks + 1 } : Shared).heap (classData 44) cd := looks_clsIn X hcd
  refine wpAny_bind (LC.here ?_)
  rw [hd']
  refine wpAny_pure ?_
  refine store_raw (s := { s with toks := s.toks + 1 }) (N _ hd).1 hl e hz fun h' q1 q2 _ => ?_
  obtain ⟨pre, post, rfl, rfl, a, b⟩ := U.split
  have fin := back (news' := pre ++ (d, dictOf es' n') :: post) (S := [d]) F N (h' := h') (fun b o e nb => (q2 b fun z => nb (by rw [z]; exact .head _)).trans e) (fun b hb => by obtain rfl := List.mem_singleton.mp hb; exact ⟨_, hd⟩) (fun y hy => by
    rcases List.mem_append.mp hy with z | z
    · exact ⟨(q2 y.1 (a y z)).trans (N _ (List.mem_append_left _ z)).1, .inl ⟨_, List.mem_append_left _ z⟩⟩
    · rcases List.mem_cons.mp z with rfl | z
      · exact ⟨q1, .inl ⟨_, hd⟩⟩
      · exact ⟨(q2 y.1 (b y z)).trans (N _ (List.mem_append_right _ (.tail _ z))).1, .inl ⟨_, List.mem_append_right _ (.tail _ z)⟩⟩)
  exact h h' fin.1 fin.2

theorem set_exc0 {news₁ : Addr → List (Addr × Obj)} (F : Fr h₀ L s.heap m) (X₀ : K.In h₀) (N : News h₀ L s.heap news) (hx : (x, exc0 t) ∈ news)
    (hs : findIn K (.ref 44) "__setattr__" = some (some (.builtin "object.__setattr__"))) (hc : (clsIn K 44).any (fun cd => cd.mro == excMro) = true) (hh : hasDictIn K 44 = true) (ht : takerIn K 44 name = some none)
    (e : (putL name (PyData.keyHash w.params name) (.str name (s.toks + 1)) v [], putN name [] 0) = (es', n')) (U : ∀ d, Upd x (exc0 t) (exc1 t d) news (news₁ d)) (hz : es'.length ≤ 1000)
    (h : ∀ d h', Fr h₀ L h' m → News h₀ L h' ((d, dictOf es' n') :: news₁ d) → (∀ p ∈ news, p.1 < d) → L < d → Q () { s with heap := h', toks := s.toks + 2 }) :
    wpAny (model prog w) A (setAttr (.ref x) name v) Q E s := by
  obtain ⟨cd, hcd, hd'⟩ := any_some hh
  have X := X₀.keeps F.keep
  have hxe := (N _ hx).1
  have I : InstAt s.heap x (exc0 t) 44 none := ⟨hxe, rfl, rfl, trivial⟩
  refine set_plain X I hs (osa_exc (s := { s with toks := s.toks + 1 }) X I hc ht fun b => ?_)
  unfold storeInOwnDict ownStreamTells
  refine wpAny_bind (wpAny_pure ?_)
  refine wpAny_bind (wpAny_bind (wpAny_loadPart hxe ?_))
  have LC : Looks (model prog w) ({ s with toks := s.toks + 1 } : Shared).heap (classData 44) cd := looks_clsIn X hcd
  refine wpAny_bind (LC.here ?_)
  rw [hd']
  have hxs : x ≠ s.heap.objs.size := Nat.ne_of_lt (Heap.lt_size hxe)
  have hx₁ : (s.heap.push { cls := .type "dict", data := .dict #[] }).get? x = some (exc0 t) := Heap.get?_push_of_some _ hxe
  refine wpAny_bind (wpAny_alloc' ?_)
  refine wpAny_bind (wpAny_update' hx₁ ?_)
  refine wpAny_pure ?_
  have g1 : ((s.heap.push { cls := .type "dict", data := .dict #[] }).update x fun o => { cls := o.cls, dict := some s.heap.objs.size, data := o.data, slots := o.slots }).get? s.heap.objs.size = some (dictOf [] 0) :=
    (Heap.get?_update_ne _ _ _ _ hxs.symm).trans (Heap.get?_push_at rfl rfl)
  have g2 : ((s.heap.push { cls := .type "dict", data := .dict #[] }).update x fun o => { cls := o.cls, dict := some s.heap.objs.size, data := o.data, slots := o.slots }).get? x = some (exc1 t s.heap.objs.size) :=
    Heap.get?_update_self _ hx₁ rfl
  refine store_raw (n := 0) (es := []) g1 rfl e hz fun h' q1 q2 _ => ?_
  obtain ⟨pre, post, e1, e2, a, b⟩ := (U s.heap.objs.size).split
  have old : ∀ b o, s.heap.get? b = some o → b ≠ x → h'.get? b = some o := fun b o e nb =>
    (q2 b (Nat.ne_of_lt (Heap.lt_size e))).trans ((Heap.get?_update_ne _ _ _ _ nb).trans (Heap.get?_push_of_some _ e))
  have fin := back (news' := (s.heap.objs.size, dictOf es' n') :: news₁ s.heap.objs.size) (S := [x]) F N (h' := h') (fun b o e nb => old b o e fun z => nb (by rw [z]; exact .head _)) (fun b hb => by obtain rfl := List.mem_singleton.mp hb; exact ⟨_, hx⟩) (fun y hy => by
    rcases List.mem_cons.mp hy with rfl | hy
    · exact ⟨q1, .inr none_at⟩
    · rw [e2] at hy
      rcases List.mem_append.mp hy with z | z
      · have hm : y ∈ news := by rw [e1]; exact List.mem_append_left _ z
        exact ⟨old _ _ (N _ hm).1 (a y z), .inl ⟨_, hm⟩⟩
      · rcases List.mem_cons.mp z with rfl | z
        · exact ⟨(q2 x hxs).trans g2, .inl ⟨_, hx⟩⟩
        · have hm : y ∈ news := by rw [e1]; exact List.mem_append_right _ (.tail _ z)
          exact ⟨old _ _ (N _ hm).1 (b y z), .inl ⟨_, hm⟩⟩)
  exact h _ h' fin.1 fin.2 (fun q hq => Heap.lt_size (N q hq).1) F.ns.lt
end
end Mine

namespace Mine

/-! ### an exception with a dict of its own, in flight -/
structure Fly (B : Heap) (l : List Env) (e d : Addr) (fl : Value) (h : Heap) : Prop where
  stays : B.StaysIn h
  new : B.get? e = none
  frames : h.FunFrames B l
  traced : ∃ oe vs T oT ts, h.get? e = some oe ∧ oe.cls = .ref 44 ∧ oe.dict = some d ∧ oe.data = .fields vs ∧ vs[1]? = some (.ref T) ∧ B.get? T = none ∧ T ≠ e ∧ h.get? T = some oT ∧ oT.data = .fields ts ∧ ts[3]? = some fl

theorem mapFields_dict (f : Array Value → Array Value) (o : Obj) : (Obj.mapFields f o).dict = o.dict := by
  obtain ⟨_, _, dt, _⟩ := o
  cases dt <;> rfl

/-- one field of a record rewritten: what is there afterwards -/
theorem field_set {h : Heap} {a : Addr} {o : Obj} {vs : Array Value} (i : Nat) (x : Value) (ho : h.get? a = some o) (hd : o.data = .fields vs) (hi : i < vs.size) :
    ∃ o' vs', (h.update a (Obj.mapFields (·.setIfInBounds i x))).get? a = some o' ∧ o'.cls = o.cls ∧ o'.dict = o.dict ∧ o'.data = .fields vs' ∧ vs'[i]? = some x ∧ vs'.size = vs.size ∧ ∀ j, j ≠ i → vs'[j]? = vs[j]? :=
  ⟨_, _, Heap.get?_update_self _ ho (Obj.isFreed_of_fields (Obj.data_mapFields hd _)), Obj.cls_mapFields _ _, mapFields_dict _ _, Obj.data_mapFields hd _, by simp [Array.getElem?_setIfInBounds, hi], by simp,
    fun j hj => by rw [Array.getElem?_setIfInBounds_ne (Ne.symm hj)]⟩

section
variable {M : Model} {A : Around} {E : Value → Shared → Prop} {s : Shared} {B : Heap} {env : Env} {outer l : List Env} {L e d : Addr} {Q : Unit → Shared → Prop}

theorem not_rec {h : Heap} {a b : Addr} {o o' : Obj} {vs : Array Value} (ha : h.get? a = some o) (hd : o.data = .fields vs) (hb : h.get? b = some o') (hn : ∀ ws, o'.data ≠ .fields ws) : b ≠ a := by
  rintro rfl
  rw [ha] at hb; cases hb
  exact hn _ hd

theorem fly_entry {oe : Obj} {vs : Array Value} {head : Value} {had : Bool} (hfr : A.frames = some (env :: outer)) (hl : s.heap.FunFrames B (env :: outer)) (hf : env.frame = some L)
    (he : s.heap.get? e = some oe) (hc : oe.cls = .ref 44) (hdd : oe.dict = some d) (hd : oe.data = .fields vs) (hsz : 1 < vs.size) (hk : B.StaysIn s.heap) (hen : B.get? e = none)
    (h : ∀ h', Fly B (env :: outer) e d (rawInt L) h' → s.heap.UpToSlots h' → Q () { s with heap := h' }) :
    wpAny M A (do let a ← frameOf env; let pl ← entryPlaceOf L had; let b ← EntryCells.newEntry head a .none (rawInt L) .none pl; setField (.ref e) 1 b) Q E s := by
  refine wpAny_bind (wpAny_frameOf_fun hfr hl hf fun h₁ ⟨_, so, sl⟩ => wpAny_bind (wpAny_entryPlaceOf fun pl hpl => ?_))
  unfold EntryCells.newEntry newFields
  refine wpAny_bind (wpAny_newObj_type ?_ (hpl.sizeOk5 _ _ _ _ _))
  have off : e ∉ (env :: outer).filterMap (·.frame) := fun hm => by
    obtain ⟨_, o, ho, hn⟩ := hl.mem hm
    exact not_rec he hd ho hn rfl
  have he₁ := (so e off).trans he
  have hk₁ : B.StaysIn h₁ := fun b o q => (so b fun hm => by rw [(hl.mem hm).1] at q; cases q).trans (hk b o q)
  generalize hts : ([head, Value.ref L, Value.none, rawInt L, Value.none] ++ (if pl.isEmpty then List.replicate 6 Value.none else pl)).toArray = ts
  have h3 : ts[3]? = some (rawInt L) := by subst hts; simp
  have hT := Heap.get?_push_size h₁ (o := { cls := .type "traceback", dict := none, data := .fields ts }) rfl
  have he₂ := Heap.get?_push_of_some { cls := .type "traceback", dict := none, data := .fields ts } he₁
  have hne : h₁.objs.size ≠ e := Nat.ne_of_gt (Heap.lt_size he₁)
  refine wpAny_setField he₂ hd hsz (h _ ?_ ?_)
  · obtain ⟨o', vs', g1, g2, g3, g4, g5, _, _⟩ := field_set 1 (.ref h₁.objs.size) he₂ hd hsz
    refine ⟨fun b o q => (Heap.get?_update_ne _ _ _ _ ?_).trans (Heap.get?_push_of_some _ (hk₁ b o q)), hen, hl.of_keeps fun b o q hn => ?_, ?_⟩
    · rintro rfl; rw [hen] at q; cases q
    · obtain ⟨z, hz⟩ := sl b o q
      exact ⟨_, (Heap.get?_update_ne _ _ _ _ (not_rec he hd q hn)).trans (Heap.get?_push_of_some _ hz), rfl⟩
    · exact ⟨o', vs', _, _, ts, g1, g2.trans hc, g3.trans hdd, g4, g5, hk₁.fresh, hne, (Heap.get?_update_ne _ _ _ _ hne).trans hT, rfl, h3⟩
  · intro b o q hn
    obtain ⟨z, hz⟩ := sl b o q
    exact ⟨z, (Heap.get?_update_ne _ _ _ _ (not_rec he hd q hn)).trans (Heap.get?_push_of_some _ hz)⟩

theorem fly_land {fl : Value} (hh : Fly B l e d fl s.heap) (hQ : ∀ h', Fly B l e d .none h' → s.heap.UpToSlots h' → Q () { s with heap := h' }) : wpAny M A (setFlight (.ref e) none) Q E s := by
  obtain ⟨k1, k2, k3, oe, vs, T, oT, ts, he, hc, hdd, hd, h1, hnT, hTe, hT, hdT, h3⟩ := hh
  have hsz := (Array.getElem?_eq_some_iff.mp h3).1
  unfold setFlight
  refine wpAny_bind (wpAny_field he hd h1 ?_)
  rw [if_pos (show (Value.ref T != Value.none) = true from by simp)]
  obtain ⟨o', ts', g1, _, _, g4, g5, _, _⟩ := field_set 3 Value.none hT hdT hsz
  refine wpAny_setField hT hdT hsz (hQ _ ⟨fun b o q => (Heap.get?_update_ne _ _ _ _ ?_).trans (k1 b o q), k2, k3.of_keeps fun b o q hn => ?_, ?_⟩ fun b o q hn => ?_)
  · rintro rfl; rw [hnT] at q; cases q
  · exact ⟨o, (Heap.get?_update_ne _ _ _ _ (not_rec hT hdT q hn)).trans q, rfl⟩
  · exact ⟨oe, vs, T, o', ts', (Heap.get?_update_ne _ _ _ _ (Ne.symm hTe)).trans he, hc, hdd, hd, h1, hnT, hTe, g1, g4, g5⟩
  · exact ⟨o.slots, (Heap.get?_update_ne _ _ _ _ (not_rec hT hdT q hn)).trans q⟩

theorem fly_set {fl : Value} {f : Option Addr} (hh : Fly B l e d fl s.heap) (hQ : ∀ h' fl', Fly B l e d fl' h' → s.heap.UpToSlots h' → Q () { s with heap := h' }) : wpAny M A (setFlight (.ref e) f) Q E s := by
  obtain ⟨k1, k2, k3, oe, vs, T, oT, ts, he, hc, hdd, hd, h1, hnT, hTe, hT, hdT, h3⟩ := hh
  have hsz := (Array.getElem?_eq_some_iff.mp h3).1
  unfold setFlight
  refine wpAny_bind (wpAny_field he hd h1 ?_)
  rw [if_pos (show (Value.ref T != Value.none) = true from by simp)]
  obtain ⟨o', ts', g1, _, _, g4, g5, _, _⟩ := field_set 3 (f.elim Value.none fun f => rawInt f) hT hdT hsz
  refine wpAny_setField hT hdT hsz (hQ _ (f.elim Value.none fun f => rawInt f) ⟨fun b o q => (Heap.get?_update_ne _ _ _ _ ?_).trans (k1 b o q), k2, k3.of_keeps fun b o q hn => ?_, ?_⟩ fun b o q hn => ?_)
  · rintro rfl; rw [hnT] at q; cases q
  · exact ⟨o, (Heap.get?_update_ne _ _ _ _ (not_rec hT hdT q hn)).trans q, rfl⟩
  · exact ⟨oe, vs, T, o', ts', (Heap.get?_update_ne _ _ _ _ (Ne.symm hTe)).trans he, hc, hdd, hd, h1, hnT, hTe, g1, g4, g5⟩
  · exact ⟨o.slots, (Heap.get?_update_ne _ _ _ _ (not_rec hT hdT q hn)).trans q⟩

theorem fly_pass {α : Type} {Q : α → Shared → Prop} {what : String} {fl : Value} {env : Env} (hh : Fly B l e d fl s.heap) (hE : ∀ h' fl', Fly B l e d fl' h' → s.heap.UpToSlots h' → E (.ref e) { s with heap := h' }) :
    wpAny M A (PySem.passOn what (.ref e) env : Sem α) Q E s := by
  obtain ⟨oe, vs, T, _, _, he, _, _, hd, h1, _⟩ := hh.traced
  unfold PySem.passOn
  refine wpAny_bind (wpAny_field he hd h1 ?_)
  rw [if_neg (show ¬ ((Value.ref T == Value.none) = true) from by simp)]
  exact wpAny_bind (fly_set hh fun h' fl' x y => wpAny_throw (hE h' fl' x y))

theorem fly_note {fl : Value} (hfr : A.frames = some (env :: outer)) (hf : env.frame = some L) (hh : Fly B (env :: outer) e d fl s.heap)
    (hQ : ∀ h', Fly B (env :: outer) e d (rawInt L) h' → s.heap.UpToSlots h' → Q () { s with heap := h' }) : wpAny M A (noteFrame (.ref e) env) Q E s := by
  have hh' := hh
  obtain ⟨k1, k2, k3, oe, vs, T, oT, ts, he, hc, hdd, hd, h1, hnT, hTe, hT, hdT, h3⟩ := hh
  have hsz := (Array.getElem?_eq_some_iff.mp h3).1
  unfold noteFrame
  simp only [hf]
  refine wpAny_bind (wpAny_field he hd h1 ?_)
  rw [if_pos (show (Value.ref T != Value.none) = true from by simp)]
  refine wpAny_bind (wpAny_field hT hdT h3 ?_)
  by_cases hfl : (fl == rawInt L) = true
  · rw [if_pos hfl]
    obtain rfl := beq_iff_eq.mp hfl
    exact wpAny_pure (hQ s.heap hh' (Heap.UpToSlots.refl _))
  rw [if_neg hfl]
  refine wpAny_bind (wpAny_setField hT hdT hsz ?_)
  refine fly_entry hfr (k3.of_keeps fun b o q hn => ⟨o, (Heap.get?_update_ne _ _ _ _ (not_rec hT hdT q hn)).trans q, rfl⟩) hf ((Heap.get?_update_ne _ _ _ _ (Ne.symm hTe)).trans he) hc hdd hd (Array.getElem?_eq_some_iff.mp h1).1
    (fun b o q => (Heap.get?_update_ne _ _ _ _ ?_).trans (k1 b o q)) k2 fun h' x y => hQ h' x fun b o q hn => y b o ((Heap.get?_update_ne _ _ _ _ (not_rec hT hdT q hn)).trans q) hn
  rintro rfl; rw [hnT] at q; cases q

theorem Fly.pop {fl : Value} {h : Heap} (x : Fly B (env :: outer) e d fl h) : Fly B outer e d fl h := ⟨x.stays, x.new, x.frames.2.2, x.traced⟩

theorem fly_leave {fl : Value} (hfr : A.frames = some (env :: outer)) (hf : env.frame = some L) (hh : Fly B (env :: outer) e d fl s.heap)
    (hQ : ∀ h', Fly B outer e d .none h' → s.heap.UpToSlots h' → Q () { s with heap := h' }) : wpAny M A (leaving env (.ref e)) Q E s := by
  unfold leaving
  exact wpAny_bind (fly_note hfr hf hh fun h₁ x₁ y₁ => fly_land x₁ fun h₂ x₂ y₂ => hQ h₂ x₂.pop (y₁.trans y₂))

theorem fly_leave_first {oe : Obj} {vs : Array Value} (hfr : A.frames = some (env :: outer)) (hl : s.heap.FunFrames B (env :: outer)) (hf : env.frame = some L)
    (he : s.heap.get? e = some oe) (hc : oe.cls = .ref 44) (hdd : oe.dict = some d) (hd : oe.data = .fields vs) (h1 : vs[1]? = some .none) (hk : B.StaysIn s.heap) (hen : B.get? e = none)
    (hQ : ∀ h', Fly B outer e d .none h' → s.heap.UpToSlots h' → Q () { s with heap := h' }) : wpAny M A (leaving env (.ref e)) Q E s := by
  unfold leaving noteFrame
  simp only [hf]
  refine wpAny_bind (wpAny_bind (wpAny_field he hd h1 ?_))
  rw [if_neg (by decide)]
  exact fly_entry hfr hl hf he hc hdd hd (Array.getElem?_eq_some_iff.mp h1).1 hk hen fun h₁ x₁ y₁ => fly_land x₁ fun h₂ x₂ y₂ => hQ h₂ x₂.pop (y₁.trans y₂)

/-- the raise of an exception that has a dict already -/
theorem raise_d {nm q : Str} {C N : Addr} {bs bm : List Value} {hdct : Bool} {sn : List Str} {sub : List Value} {ab : Bool} {col : Option Bool} {dd : Option Addr} {k0 k1 k2 k3 k5 : Option Value} {newId : String} {x : Sem Value} {Q : Flow → Shared → Prop}
    (hbase : bm.contains (.type "BaseException") = true) (hh : A.handled = none)
    (h : wpAny M A x (fun v s₁ => ∃ e t d, v = .ref e ∧ s₁.heap.get? C = some (excClassObj nm q C N bs bm hdct sn sub ab col dd k0 k1 k2 k3 k5 newId) ∧
      s₁.heap.get? e = some { cls := .ref C, dict := some d, data := .fields #[.ref t, .none, .none, .none, .bool false, .none] } ∧ E (.ref e) s₁) E s) :
    wpAny M A (raiseStmt env (some x) none) Q E s := by
  have hcB : (Value.ref C :: bm).contains (.type "BaseException") = true := by rw [List.contains_cons, hbase, Bool.or_true]
  unfold raiseStmt
  refine wpAny_bind (wpAny_mono h (fun v s₁ h₁ => ?_) fun _ _ x => x)
  obtain ⟨e, t, d, rfl, hC, he, hE⟩ := h₁
  obtain ⟨hp, g, d, tk, os⟩ := s₁
  repeat (first | with_reducible refine wpAny_loadPart_at he ?_ | with_reducible refine wpAny_loadPart_at hC ?_ | (with_reducible refine wpAny_isSubtype_exc hC ?_; rw [hcB]) | wp_step)
  exact wpAny_raiseNew_none hh hE
end
end Mine

namespace Mine

abbrev Ar (k : Nat) (l : List Env) : Around := { depth := 400 + 10 * k, frames := some l, guards := some [], units := 1000 + 100 * k }

theorem Ctx_weaken {k : Nat} {l : List Env} {A : Around} {Γ : Ctx} (h : Γ.Below A) (h1 : A.handled = none) (h2 : A.depth ≤ 400 + 10 * k) (h3 : A.frames = some l) (h4 : A.guards = some []) (h5 : A.units ≤ 1000 + 100 * k) : Γ.Below (Ar k l) :=
  ⟨h.1.trans h1, Nat.le_trans h.2.1 h2, fun l' e => h.2.2.1 l' (h3.trans e), fun g e => h.2.2.2.1 g (h4.trans e), Nat.le_trans h.2.2.2.2 h5⟩

theorem code_in {M : Model} {k : Nat} {l : List Env} {A : Around} {c : Code} {R : Result → Shared → Prop} {s : Shared} (h : codeAny M (Ar k l) c R s)
    (h1 : A.handled = none) (h2 : A.depth ≤ 400 + 10 * k) (h3 : A.frames = some l) (h4 : A.guards = some []) (h5 : A.units ≤ 1000 + 100 * k) : codeAny M A c R s :=
  fun Γ p hc hΓ => h Γ p hc (Ctx_weaken hΓ h1 h2 h3 h4 h5)

/-! ### what a callee keeps, seen from its end -/
section
variable {K : Frag} {p : Program} {loose : List Str} {mean : ExcName → Option Value} {mg mb : Str → Option Value} {base h g h' : Heap} {l outer : List Env} {told news' : List (Addr × Obj)} {L a : Addr} {m : Str → Option Value} {ch : List Addr}

theorem kept_end (H : At K p loose mean mg mb base h l told) (eg : g = hideAll h (told.map (·.1))) (F : Fr g L h' m) (N : News g L h' news') (hn : ∀ q ∈ told, q.1 ∈ ch ∨ q ∈ news') :
    ∀ b o, h.get? b = some o → b ∉ ch → h'.get? b = some o := by
  subst eg
  intro b o e nb
  by_cases hm : b ∈ told.map (·.1)
  · obtain ⟨q, hq, rfl⟩ := List.mem_map.mp hm
    rw [(H.news q hq).1] at e; cases e
    rcases hn q hq with z | z
    · exact absurd z nb
    · exact (N q z).1
  · exact F.keep b o (hideAll_get _ e hm)

theorem fresh_of_ge {h : Heap} {b : Addr} (e : h.objs.size ≤ b) : h.get? b = none := by
  cases q : h.get? b with
  | none => rfl
  | some o => exact absurd (Nat.lt_of_lt_of_le (Heap.lt_size q) e) (Nat.lt_irrefl _)

abbrev fe (P : Params) (t1 t2 t3 t4 : Tok) (wd : Str) (i : Int) : List DictEntry :=
  [⟨PyData.keyHash P (Str.ofString "what"), .str (Str.ofString "what") t1, .str wd t2⟩, ⟨PyData.keyHash P (Str.ofString "at"), .str (Str.ofString "at") t3, .int i t4⟩]

/-- an exception on its way: of what h held all is kept but the frames' slots and the objects ch -/
structure Flown (P : Params) (base h : Heap) (ch : List Addr) (l : List Env) (e : Addr) (wd : Str) (i : Int) (h' : Heap) : Prop where
  out : ∃ B d t1 t2 t3 t4, base.StaysIn B ∧ (∀ b o, h.get? b = some o → b ∉ fr l → b ∉ ch → B.get? b = some o) ∧ h.get? d = none ∧ B.get? d = some (dictOf (fe P t1 t2 t3 t4 wd i) 2) ∧ ∃ fl, Fly B l e d fl h'
  slots : ∀ b o, h.get? b = some o → b ∈ fr l → ∃ sl, h'.get? b = some { o with slots := sl }

theorem frames_stay {base h h' : Heap} {l : List Env} (F : h.FunFrames base l) (k : ∀ b ∈ fr l, ∀ o, h.get? b = some o → ∃ o', h'.get? b = some o' ∧ o'.data = o.data) : h'.FunFrames base l := by
  induction l with
  | nil => trivial
  | cons env l ih =>
    obtain ⟨hk, ⟨L, o, hf, hn, ho, hd⟩, hr⟩ := F
    have hm : L ∈ fr (env :: l) := List.mem_filterMap.mpr ⟨env, .head _, hf⟩
    obtain ⟨o', e1, e2⟩ := k L hm o ho
    refine ⟨hk, ⟨L, o', hf, hn, e1, fun vs => by rw [e2]; exact hd vs⟩, ih hr fun b hb => k b ?_⟩
    obtain ⟨env', h1, h2⟩ := List.mem_filterMap.mp hb
    exact List.mem_filterMap.mpr ⟨env', .tail _ h1, h2⟩

theorem frames_new {B h : Heap} {base : Heap} {l : List Env} (F : h.FunFrames base l) (k : ∀ b ∈ fr l, B.get? b = none) : h.FunFrames B l := by
  induction l with
  | nil => trivial
  | cons env l ih =>
    obtain ⟨hk, ⟨L, o, hf, _, ho, hd⟩, hr⟩ := F
    refine ⟨hk, ⟨L, o, hf, k L (List.mem_filterMap.mpr ⟨env, .head _, hf⟩), ho, hd⟩, ih hr fun b hb => k b ?_⟩
    obtain ⟨env', h1, h2⟩ := List.mem_filterMap.mp hb
    exact List.mem_filterMap.mpr ⟨env', .tail _ h1, h2⟩

theorem fr_cons {env : Env} {b : Addr} (hf : env.frame = some L) (hb : b ∈ fr (env :: l)) : b = L ∨ b ∈ fr l := by
  obtain ⟨env', he, hf'⟩ := List.mem_filterMap.mp hb
  rcases List.mem_cons.mp he with rfl | he
  · exact .inl (Option.some.inj (hf.symm.trans hf')).symm
  · exact .inr (List.mem_filterMap.mpr ⟨env', he, hf'⟩)
theorem fr_tail {env : Env} {b : Addr} (hb : b ∈ fr l) : b ∈ fr (env :: l) := by
  obtain ⟨env', h1, h2⟩ := List.mem_filterMap.mp hb
  exact List.mem_filterMap.mpr ⟨env', .tail _ h1, h2⟩

variable {M : Model} {A : Around} {E : Value → Shared → Prop} {s' : Shared} {e d t : Addr} {env : Env} {Q : Unit → Shared → Prop} {P : Params} {wd : Str} {i : Int} {h₀ : Heap} {t1 t2 t3 t4 : Tok}

/-- the frame that raised is left -/
theorem leave_first (K : Below A base outer g) (F : Fr g L s'.heap m) (N : News g L s'.heap news') (he : (e, exc1 t d) ∈ news') (hd : (d, dictOf (fe P t1 t2 t3 t4 wd i) 2) ∈ news')
    (he0 : h₀.get? e = none) (hd0 : h₀.get? d = none) (hL0 : h₀.get? L = none) (hk : ∀ b o, h₀.get? b = some o → b ∉ ch → s'.heap.get? b = some o) (hch : ∀ b ∈ ch, b ∉ fr outer)
    (hQ : ∀ h', Flown P base h₀ ch outer e wd i h' → Q () { s' with heap := h' }) (hf : env.frame = some L) (hk' : env.scope.kind = .function) :
    wpAny M (A.deeper env) (leaving env (.ref e)) Q E s' := by
  have K' := pushX K F hf hk'
  have nf : ∀ q ∈ news', q.1 ∉ fr (env :: outer) := fun q hq hm => by
    rcases fr_cons hf hm with z | z
    · exact (N q hq).2.1 z
    · obtain ⟨o, ho, _⟩ := (K.frames.mem z).2
      rw [(N q hq).2.2] at ho; cases ho
  have hid : ∀ b o, s'.heap.get? b = some o → b ∉ fr (env :: outer) → b ≠ e → (hideAll s'.heap (e :: fr (env :: outer))).get? b = some o := fun b o q n1 n2 => hideAll_get _ q fun hm => by
    rcases List.mem_cons.mp hm with z | z
    · exact n2 z
    · exact n1 z
  have de : d ≠ e := by
    rintro rfl
    have z := (N _ hd).1
    rw [(N _ he).1] at z; cases z
  have ne : ∀ q, base.get? q = none → (g.get? q = none → base.get? q = none) := fun _ z _ => z
  have be : base.get? e = none := none_base K.stays (N _ he).2.2
  refine fly_leave_first (B := hideAll s'.heap (e :: fr (env :: outer))) (d := d) K'.stack (frames_new K'.frames fun b hb => hideAll_none _ (.tail _ hb)) hf (N _ he).1 rfl rfl rfl rfl (fun b o q => of_hideAll _ q) (hideAll_none _ (.head _)) fun h' x y => hQ h' ⟨⟨_, d, t1, t2, t3, t4, fun b o q => ?_, fun b o q n1 n2 => ?_, hd0, hid d _ (N _ hd).1 (nf _ hd) de, _, x⟩, fun b o q hb => ?_⟩
  · refine hid b o (K'.stays b o q) (fun hm => ?_) (fun z => ?_)
    · rw [(K'.frames.mem hm).1] at q; cases q
    · rw [z, be] at q; cases q
  · refine hid b o (hk b o q n2) (fun hm => ?_) (fun z => ?_)
    · rcases fr_cons hf hm with z | z
      · rw [z, hL0] at q; cases q
      · exact n1 z
    · rw [z, he0] at q; cases q
  · have q' := hk b o q fun z => hch b z hb
    refine y b o q' fun vs z => ?_
    obtain ⟨_, o', ho', hn'⟩ := K'.frames.mem (fr_tail hb)
    rw [q'] at ho'; cases ho'
    exact hn' vs z

/-- a frame above is left -/
theorem leave_next {G : Heap} {ch' : List Addr} (K : Below A base outer g) (X : Flown P base G ch' (env :: outer) e wd i s'.heap)
    (hL0 : h₀.get? L = none) (hk : ∀ b o, h₀.get? b = some o → b ∉ ch → G.get? b = some o ∧ b ∉ ch') (hch : ∀ b ∈ ch, b ∉ fr outer) (hd0 : ∀ d, G.get? d = none → h₀.get? d = none)
    (hQ : ∀ h', Flown P base h₀ ch outer e wd i h' → Q () { s' with heap := h' }) (hf : env.frame = some L) :
    wpAny M (A.deeper env) (leaving env (.ref e)) Q E s' := by
  obtain ⟨⟨B, d, t1, t2, t3, t4, x1, x2, x3, x4, _, x5⟩, x6⟩ := X
  refine fly_leave (Around.frames_deeper K.stack) hf x5 fun h' y z => hQ h' ⟨⟨B, d, t1, t2, t3, t4, x1, fun b o q n1 n2 => ?_, hd0 d x3, x4, _, y⟩, fun b o q hb => ?_⟩
  · refine x2 b o (hk b o q n2).1 (fun hm => ?_) (hk b o q n2).2
    rcases fr_cons hf hm with z | z
    · rw [z, hL0] at q; cases q
    · exact n1 z
  · obtain ⟨sl, q'⟩ := x6 b o (hk b o q fun z => hch b z hb).1 (fr_tail hb)
    obtain ⟨sl', q''⟩ := z b _ q' fun vs w => by
      obtain ⟨_, o', ho', hn'⟩ := x5.frames.mem (fr_tail (env := env) hb)
      rw [q'] at ho'; cases ho'
      exact hn' vs w
    exact ⟨sl', q''⟩
end
end Mine

namespace Mine

theorem fill6 : Challenge.rw_pb0317_01.prog = Challenge.rw_pb0317_01.prog ∧ hd.heap_39 = hd.heap_39 := by
  k_fill
  exact ⟨rfl, rfl⟩

abbrev rdr (P : Params) (t1 t2 t3 : Tok) (da : Addr) (i : Int) : List DictEntry :=
  [⟨PyData.keyHash P (Str.ofString "data"), .str (Str.ofString "data") t1, .ref da⟩, ⟨PyData.keyHash P (Str.ofString "at"), .str (Str.ofString "at") t2, .int i t3⟩]

theorem mro44 (w : World) : (clsIn (hd.heap_39 w.params) 44).any (fun cd => cd.mro == excMro) = true := by
  obtain ⟨_, _, _, _, _, _, _, _, _, _, _, h⟩ := K44 w
  unfold clsIn
  rw [h]
  rfl

section
variable {K : Frag} {p : Program} {loose : List Str} {mean : ExcName → Option Value} {mg mb : Str → Option Value} {base h g h' : Heap} {l outer : List Env} {told news' : List (Addr × Obj)} {L a : Addr} {m : Str → Option Value} {ch : List Addr}
variable {prog : Program} {w : World} {s : Shared} {R : Result → Shared → Prop} {e t : Addr} {wd : Str} {i : Int} {t1 t2 t3 t4 : Tok}

theorem upd_head {x : Addr} {o o' : Obj} {news : List (Addr × Obj)} (h : ∀ p ∈ news, p.1 ≠ x) : Upd x o o' ((x, o) :: news) ((x, o') :: news) := Upd.head h

local macro_rules | `(tactic| walk_at "setAttr ref") => `(tactic| (k_here; k_dflt (first
  | (refine' set_exc0 (K := hd.heap_39 _) ?k1 ?k2 ?k3 ?k4 ?k5 ?k6 ?k7 ?k8 ?k9 ?k10 ?k11 ?_; (case k1 => k_asm); (case k2 => k_asm); (case k3 => k_asm); (case k4 => exact List.Mem.head _); (case k5 => k_is); (case k6 => exact mro44 _); (case k7 => k_is); (case k8 => k_is); (case k9 => k_put); (case k10 => exact fun _ => Upd.head (List.forall_mem_nil _)); (case k11 => exact Nat.le_of_ble_eq_true rfl); intro d' h' F' N' l1 l2; (try dsimp only at N'); (try k_lt l1); (try k_lt2 l2); (try k_sweep))
  | (refine' set_exc1 (K := hd.heap_39 _) ?k1 ?k2 ?k3 ?k4 ?k5 ?k6 ?k7 ?k8 ?k9 ?k10 ?k11 ?k12 ?k13 ?_; (case k1 => k_asm); (case k2 => k_asm); (case k3 => k_asm); (case k4 => exact List.Mem.tail _ (List.Mem.head _)); (case k5 => exact List.Mem.head _); (case k6 => k_is); (case k7 => exact mro44 _); (case k8 => k_is); (case k9 => k_is); (case k10 => exact rfl); (case k11 => k_put); (case k12 => k_upd); (case k13 => exact Nat.le_of_ble_eq_true rfl); intro h' F' N'; (try dsimp only at N'); (try k_sweep)))))

theorem c_init (H : At (hd.heap_39 w.params) p loose mean mg mb base s.heap l [(e, exc0 t)])
   (ok : ∀ h' tk d t1 t3, (∀ b o, s.heap.get? b = some o → b ≠ e → h'.get? b = some o) → h'.get? e = some (exc1 t d) → h'.get? d = some (dictOf (fe w.params t1 t2 t3 t4 wd i) 2) → s.heap.objs.size ≤ d → d ≠ e → R (.ok (.ret .none)) { s with heap := h', toks := tk }) :
   codeAny (model prog w) (Ar 9 l) (.call (.ref 41) ⟨[.ref e, .str wd t2, .int i t4], []⟩) R s := by
  refine' enter H rfl ?k6 ?k7 ?k8 ?k9 ?kB ?_ ?c2 ?c3 ?c4 ?c5
  case k6 => k_is
  case k7 => k_is
  case k8 => show (490 : Nat) < recursionLimit; decide
  case k9 => first | exact BindsTo.of_eq rfl | exact binds_K (by k_in) rfl (by k_is) rfl rfl rfl
  case c5 => decide
  case kB => exact locs rfl
  case c2 => exact rfl
  case c3 => exact rfl
  case c4 => exact rfl
  intro g' L' h' eg eL F' N' B' X' T'
  dsimp only
  k_fold
  change Fr g' L' h' (fun y => List.lookup y [(Str.ofString "at", .int i t4), (Str.ofString "what", .str wd t2), (Str.ofString "self", .ref e)]) at F'
  k_steps
  (rename Fr _ _ _ _ => F9); (rename News _ _ _ _ => N9); (rename _ < _ => l9)
  have k := kept_end (ch := [e]) H eg F9 N9 (List.forall_mem_cons.mpr ⟨.inl (.head _), List.forall_mem_nil _⟩)
  refine ok _ _ _ _ _ (fun b o q n => k b o q (by simpa using n)) (N9 _ (.tail _ (.head _))).1 (N9 _ (.head _)).1 ?_ ?_
  · omega
  · k_ne

theorem raise_K {M : Model} {A : Around} {E : Value → Shared → Prop} {env : Env} {x : Sem Value} {Q : Flow → Shared → Prop} {P : World} (hh : A.handled = none)
    (h : wpAny M A x (fun v s₁ => ∃ e t d, v = .ref e ∧ (hd.heap_39 P.params).In s₁.heap ∧ s₁.heap.get? e = some (exc1 t d) ∧ E (.ref e) s₁) E s) :
    wpAny M A (raiseStmt env (some x) none) Q E s := by
  obtain ⟨_, _, _, _, _, _, _, _, _, _, _, h44⟩ := K44 P
  exact raise_d (C := 44) (by rfl) hh (wpAny_mono h (fun v s₁ ⟨e, t, d, h1, h2, h3, h4⟩ => ⟨e, t, d, h1, h2 _ _ h44, h3, h4⟩) fun _ _ y => y)

theorem call44 {A : Around} {E : Value → Shared → Prop} {rest : List Value} {Q : Value → Shared → Prop} (X : (hd.heap_39 w.params).In s.heap)
    (hq : ∀ h' e, Heap.MadeExcOf s.heap h' e (.ref 44) rest → h'.objs.size = s.heap.objs.size + 2 → e = s.heap.objs.size + 1 →
      wpAny (model prog w) (A.under (.builtin "type.__call__" ⟨.ref 44 :: rest, []⟩)) (call (.ref 41) (.ref e :: rest)) (fun r s' => r = .none ∧ Q (.ref e) s') E { s with heap := h' }) (hrest : rest.length ≤ sizeLine := by size_fits) :
    wpAny (model prog w) A (call (.ref 44) rest) Q E s := by
  obtain ⟨_, _, _, _, _, _, _, _, _, _, _, h44⟩ := K44 w
  obtain ⟨h, g, d, t, os⟩ := s
  have q43 : nsOkIn (hd.heap_39 w.params) 43 = true := by kernel_rfl
  have i43 : nsIn (hd.heap_39 w.params) 43 "__init__" = some (some (.ref 41)) := by k_is
  obtain ⟨_, _, _, f41⟩ : ∃ a b c, (hd.heap_39 w.params).lookup 41 = some ⟨.type "function", a, b, c⟩ := ⟨_, _, _, by k_is⟩
  have tl : tailIn (hd.heap_39 w.params) [.type "Exception", .type "BaseException", .type "object"] [.ref 24, .type "Exception", .type "BaseException", .type "object"] = true := by kernel_rfl
  exact made_init PySem.F.excBase_Exception (tail_of_in X tl) (X _ _ h44) (Heap.Ns.of_isNs (isNs_of_in X q43)) (nsMap_some X q43 i43) (X _ _ f41) rfl hq hrest

theorem new_err {k : Nat} {s₀ : Heap} {l₀ : List Env} {told₀ : List (Addr × Obj)} {A₀ : Around} {E : Value → Shared → Prop} {Q : Value → Shared → Prop} {env : Env} {news : List (Addr × Obj)}
    (H : At (hd.heap_39 w.params) p loose mean mg mb base s₀ l₀ told₀) (B : Below A₀ base outer g) (F : Fr g L s.heap m) (N : News g L s.heap news)
    (h2 : Nat.ble k 8 = true) (hf : env.frame = some L) (hk : env.scope.kind = .function)
    (h : ∀ e d t t1 t3 h' tk, Fr g L h' m → News g L h' ((e, exc1 t d) :: (d, dictOf (fe w.params t1 t2 t3 t4 wd i) 2) :: news) → L < e → L < d → Q (.ref e) { s with heap := h', toks := tk }) :
    wpAny (model prog w) ((Ar k outer).deeper env) (call (.ref 44) [.str wd t2, .int i t4]) Q E s := by
  have h2 := Nat.le_of_ble_eq_true h2
  refine call44 (H.X.keeps fun b o q => F.keep b o (B.stays b o q)) fun h₁ e me ms ee => ?_
  obtain ⟨t, ge, gt, _⟩ := me.there
  have le : L < e := by have := F.ns.lt; rw [ee]; exact Nat.lt_succ_of_lt this
  have b₁ := back (news' := (e, exc0 t) :: news) (S := []) F N (h' := h₁) (fun b o q _ => me.keeps b o q) (fun _ z => nomatch z) (fun q hq => by
    rcases List.mem_cons.mp hq with rfl | hq
    · exact ⟨ge, .inr me.new⟩
    · exact ⟨me.keeps _ _ (N q hq).1, .inl ⟨_, hq⟩⟩)
  have H₁ := At.of (small := [(e, exc0 t)]) (env := env) B b₁.1 b₁.2 H.X H.T (fun q hq => by rw [List.mem_singleton.mp hq]; exact .head _) hf hk
  refine wpAny_call (code_in (k := 9) (c_init H₁ fun h' tk d t1 t3 kp g1 g2 g3 g4 => ⟨rfl, ?_⟩) rfl ?_ rfl rfl ?_)
  · have ld : L < d := Nat.lt_of_lt_of_le b₁.1.ns.lt g3
    have b₂ := back (news' := (e, exc1 t d) :: (d, dictOf (fe w.params t1 t2 t3 t4 wd i) 2) :: news) (S := [e]) b₁.1 b₁.2 (h' := h') (fun b o q n => kp b o q (by simpa using n)) (fun b z => ⟨exc0 t, by rw [List.mem_singleton.mp z]; exact .head _⟩) (fun q hq => by
      rcases List.mem_cons.mp hq with rfl | hq
      · exact ⟨g1, .inl ⟨_, .head _⟩⟩
      · rcases List.mem_cons.mp hq with rfl | hq
        · exact ⟨g2, .inr (fresh_of_ge g3)⟩
        · refine ⟨kp _ _ (b₁.2 q (.tail _ hq)).1 fun z => ?_, .inl ⟨_, .tail _ hq⟩⟩
          have := (N q hq).1
          rw [z, me.new] at this; cases this)
    exact h e d t t1 t3 h' tk b₂.1 b₂.2 le ld
  · show 400 + 10 * k + 1 + 1 ≤ 490; omega
  · show 1000 + 100 * k + 3 + 1 ≤ 1900; omega

local macro_rules | `(tactic| walk_at "exec Raise some none") => `(tactic| (k_here; (rw [arm_exec_Raise]); (simp only [evalOpt, Option.map]); (refine wpAny_bind (wpAny_standAt (raise_K (P := w) rfl (wpAny_bind ?_))))))

local macro_rules | `(tactic| walk_at "call ref") => `(tactic| (k_here; (with_reducible show wpAny _ _ (call (Value.ref 44) _) _ _ _); (refine' new_err ?k0 ?k1 ?k2 ?k3 ?k4 ?kf ?k5 ?_; (case k0 => assumption); (case k1 => assumption); (case k2 => k_asm); (case k3 => k_asm); (case k4 => exact rfl); (case kf => exact rfl); (case k5 => exact rfl)); intro e' d' t' t1' t3' h' tk' F' N' l1 l2; (try dsimp only); (try k_sweep)))

theorem c_fail {x dx da : Addr} {tw : Tok} (H : At (hd.heap_39 w.params) p loose mean mg mb base s.heap l [(x, instObj 159 dx), (dx, dictOf (rdr w.params t1 t2 t3 da i) 2)])
   (bad : ∀ h' tk e, Flown w.params base s.heap [] l e wd i h' → R (.error (.ref e)) { s with heap := h', toks := tk }) :
   codeAny (model prog w) (Ar 8 l) (.call (.ref 116) ⟨[.ref x, .str wd tw], []⟩) R s := by
  refine' enter H rfl ?k6 ?k7 ?k8 ?k9 ?kB ?_ ?c2 ?c3 ?c4 ?c5
  case k6 => k_is
  case k7 => k_is
  case k8 => show (480 : Nat) < recursionLimit; decide
  case k9 => first | exact BindsTo.of_eq rfl | exact binds_K (by k_in) rfl (by k_is) rfl rfl rfl
  case c5 => decide
  case kB => exact locs rfl
  case c2 => exact rfl
  case c3 => exact rfl
  case c4 => exact rfl
  intro g' L' h' eg eL F' N' B' X' T'
  dsimp only
  k_fold
  change Fr g' L' h' (fun y => List.lookup y [(Str.ofString "what", .str wd tw), (Str.ofString "self", .ref x)]) at F'
  k_steps
  rename_i e1 d1 x1 x2 x3 h1 tk1 F1 N1 la lb
  refine wpAny_bind (wpAny_standAt (wpAny_pure ⟨e1, _, _, rfl, X'.keeps F1.keep, (N1 _ (.head _)).1, ?_⟩))
  k_unfold
  exact leave_first (ch := []) (h₀ := s.heap) B' F1 N1 (.head _) (.tail _ (.head _)) (fresh_of_ge (eL ▸ Nat.le_of_lt la)) (fresh_of_ge (eL ▸ Nat.le_of_lt lb)) (fresh_of_ge (Nat.le_of_eq eL.symm)) (kept_end H eg F1 N1 (by repeat (first | exact List.forall_mem_nil _ | refine List.forall_mem_cons.mpr ⟨by first | exact .inr (by k_mem) | exact .inl (by k_mem), ?_⟩))) (fun _ z => nomatch z) (fun h' X => bad _ _ _ X) rfl rfl
end
end Mine

namespace Mine

/-! ### plain: one byte, one number -/
inductive Rd where
  | ok (v : Int) (j : Nat)
  | bad (j : Nat) (wd : Str)
abbrev cutOff : Str := Str.ofString "cut_off"
abbrev badByte : Str := Str.ofString "bad_byte"
abbrev longNumber : Str := Str.ofString "long_number"
def byteAt (ns : List Int) (k : Nat) : Rd := match ns[k]? with
  | none => .bad k cutOff
  | some v => if v < 0 ∨ 255 < v then .bad k badByte else .ok v (k + 1)
theorem byteAt_lt {ns : List Int} {k : Nat} {v : Int} {j : Nat} (h : byteAt ns k = .ok v j) : k < ns.length ∧ j = k + 1 ∧ 0 ≤ v ∧ v ≤ 255 := by
  unfold byteAt at h
  split at h
  · cases h
  · rename_i x hx
    split at h
    · cases h
    · rename_i hn
      cases h
      exact ⟨(List.getElem?_eq_some_iff.mp hx).1, rfl, by omega, by omega⟩
def zig (n : Int) : Int := if n % 2 = 1 then -(n + 1) / 2 else n / 2
def rest (ns : List Int) (total weight group : Int) (k : Nat) : Rd :=
  if 127 < group then
    (match h : byteAt ns k with
    | .bad j wd => .bad j wd
    | .ok v j => rest ns (total + (group - 128) * weight) (weight * 128) v j)
  else if group = 0 ∧ 1 < weight then .bad k longNumber
  else .ok (zig (total + group * weight)) k
termination_by ns.length - k
decreasing_by have := byteAt_lt h; omega
def num (ns : List Int) (k : Nat) : Rd := match byteAt ns k with
  | .bad j wd => .bad j wd
  | .ok v j => rest ns 0 1 v j

theorem fill7 : Challenge.rw_pb0317_01.prog = Challenge.rw_pb0317_01.prog ∧ hd.heap_39 = hd.heap_39 := by
  k_fill
  exact ⟨rfl, rfl⟩

section
variable {K : Frag} {p : Program} {loose : List Str} {mean : ExcName → Option Value} {mg mb : Str → Option Value} {base h g h' : Heap} {l outer : List Env} {told news news' : List (Addr × Obj)} {L a : Addr} {m : Str → Option Value} {ch : List Addr}

theorem back0 (F : Fr g L h m) (N : News g L h news) (k : ∀ b o, h.get? b = some o → h'.get? b = some o) : Fr g L h' m ∧ News g L h' news :=
  back (S := []) F N (fun b o e _ => k b o e) (fun _ z => nomatch z) fun q hq => ⟨k _ _ (N q hq).1, .inl ⟨_, hq⟩⟩
theorem back1 {d : Addr} {o o' : Obj} (F : Fr g L h m) (N : News g L h news) (U : Upd d o o' news news') (k : ∀ b o, h.get? b = some o → b ≠ d → h'.get? b = some o) (e : h'.get? d = some o') : Fr g L h' m ∧ News g L h' news' := by
  obtain ⟨pre, post, rfl, rfl, n1, n2⟩ := U.split
  refine back (S := [d]) F N (fun b o e nb => k b o e (by simpa using nb)) (fun b z => ⟨o, by rw [List.mem_singleton.mp z]; simp⟩) fun q hq => ?_
  rcases List.mem_append.mp hq with z | z
  · exact ⟨k _ _ (N q (List.mem_append_left _ z)).1 (n1 q z), .inl ⟨_, List.mem_append_left _ z⟩⟩
  · rcases List.mem_cons.mp z with rfl | z
    · exact ⟨e, .inl ⟨o, by simp⟩⟩
    · exact ⟨k _ _ (N q (List.mem_append_right _ (.tail _ z))).1 (n2 q z), .inl ⟨_, List.mem_append_right _ (.tail _ z)⟩⟩
def okind : Obj → Nat
  | ⟨_, _, .plain, _⟩ => 0
  | ⟨_, _, .dict .., _⟩ => 1
  | ⟨_, _, .seq .., _⟩ => 2
  | ⟨_, _, .fields .., _⟩ => 3
  | _ => 4
theorem ne_news {b : Addr} {o o' : Obj} (N : News g L h news) (h1 : (a, o) ∈ news) (h2 : (b, o') ∈ news) (hk : okind o ≠ okind o') : @Ne Nat a b := by
  rintro rfl
  have := (N _ h1).1
  rw [(N _ h2).1] at this; cases this
  exact hk rfl

/-- an exception leaves the frame of a def whose contract was told 'told' and may change 'ch' -/
theorem end_next {M : Model} {A : Around} {E : Value → Shared → Prop} {s : Heap} {s' : Shared} {G : Heap} {ch' : List Addr} {e : Addr} {env : Env} {Q : Unit → Shared → Prop} {P : Params} {wd : Str} {i : Int}
    (X : Flown P base G ch' (env :: l) e wd i s'.heap) (H : At K p loose mean mg mb base s l told) (eg : g = hideAll s (told.map (·.1))) (eL : L = s.objs.size) (B : Below A base l g) (F : Fr g L G m) (N : News g L G news)
    (h1 : ∀ q ∈ told, q ∈ news ∨ q.1 ∈ ch) (h2 : ∀ b ∈ ch, b ∈ news.map (·.1)) (h3 : ∀ b ∈ ch', b ∈ ch ∨ @LE.le Nat _ L b)
    (hQ : ∀ h', Flown P base s ch l e wd i h' → Q () { s' with heap := h' }) (hf : env.frame = some L) :
    wpAny M (A.deeper env) (leaving env (.ref e)) Q E s' := by
  have kp := kept_end H eg F N fun q hq => (h1 q hq).symm
  refine leave_next B X (fresh_of_ge (Nat.le_of_eq eL.symm)) (fun b o q n => ⟨kp b o q n, fun z => (h3 b z).elim n fun y => ?_⟩) (fun b hb hm => ?_) (fun d hd => ?_) hQ hf
  · rw [fresh_of_ge (h := s) (eL ▸ y)] at q; cases q
  · obtain ⟨q, hq, rfl⟩ := List.mem_map.mp (h2 b hb)
    obtain ⟨o, ho, _⟩ := (B.frames.mem hm).2
    rw [(N q hq).2.2] at ho; cases ho
  · cases q : s.get? d with
    | none => rfl
    | some o =>
      by_cases hc : d ∈ ch
      · obtain ⟨q', hq', rfl⟩ := List.mem_map.mp (h2 d hc)
        rw [(N q' hq').1] at hd; cases hd
      · rw [kp d o q hc] at hd; cases hd

variable {prog : Program} {w : World} {s : Shared} {R : Result → Shared → Prop} {x dx da : Addr} {t1 t2 t3 : Tok} {k n : Nat} {vs : List Value} {ns : List Int}

theorem intsAre_len {vs : List Value} {ns : List Int} (h : IntsAre vs ns) : vs.length = ns.length := h.length.symm ▸ rfl

theorem len_list_at {A : Around} {E : Value → Shared → Prop} {l : Addr} {vs : List Value} {n : Nat} {Q : Value → Shared → Prop} (F : Fr g L s.heap m) (N : News g L s.heap news) (hm : (l, listOf vs.toArray n) ∈ news) (hv : IntsAre vs ns) (hf : ns.length ≤ 1000)
    (h : Q (.int ns.length (s.toks + 1)) { s with toks := s.toks + 1 + 1 }) : wpAny (model prog w) A (call (.builtin "len") [.ref l]) Q E s := by
  have e : vs.length = ns.length := intsAre_len hv
  refine call_len_list (items := vs.toArray) ⟨_, (N _ hm).1, rfl, n, rfl⟩ ?_ ?_
  · rw [List.size_toArray]; omega
  · rw [List.size_toArray, e]; exact h
end
end Mine

namespace Mine

theorem fill8 : Challenge.rw_pb0317_01.prog = Challenge.rw_pb0317_01.prog ∧ hd.heap_39 = hd.heap_39 := by
  k_fill
  exact ⟨rfl, rfl⟩

def Back (Q : Value → Shared → Prop) (E : Value → Shared → Prop) (r : Result) (s' : Shared) : Prop := match r with
  | .ok (.ret v) => Q v s'
  | .ok _ => False
  | .error e => E e s'

section
variable {K : Frag} {p : Program} {loose : List Str} {mean : ExcName → Option Value} {mg mb : Str → Option Value} {base g h' : Heap} {l outer : List Env} {told news news' : List (Addr × Obj)} {L a : Addr} {m : Str → Option Value} {ch : List Addr}
variable {prog : Program} {w : World} {s : Shared} {R : Result → Shared → Prop} {x dx da : Addr} {t1 t2 t3 : Tok} {k n : Nat} {i : Int} {vs : List Value} {ns : List Int}
variable {k₀ : Nat} {s₀ : Heap} {l₀ : List Env} {told₀ : List (Addr × Obj)} {A₀ : Around} {E Q : Value → Shared → Prop} {env : Env}

theorem use {kc : Nat} {small : List (Addr × Obj)} {f : Value} {pos : List Value} {kw : List (Str × Value)} (H₀ : At K p loose mean mg mb base s₀ l₀ told₀) (B : Below A₀ base outer g) (F : Fr g L s.heap m) (N : News g L s.heap news)
    (hs : ∀ q ∈ small, q ∈ news) (h2 : Nat.ble (k₀ + 1) kc = true) (hf : env.frame = some L) (hk : env.scope.kind = .function)
    (h : At K p loose mean mg mb base s.heap (env :: outer) small → codeAny (model prog w) (Ar kc (env :: outer)) (.call f ⟨pos, kw⟩) (Back Q E) s) :
    wpAny (model prog w) ((Ar k₀ outer).deeper env) (call f pos kw) Q E s := by
  have h2 := Nat.le_of_ble_eq_true h2
  refine wpAny_call (code_in (k := kc) (codeAny_mono (h (At.of B F N H₀.X H₀.T hs hf hk)) fun r s' y => y) rfl ?_ rfl rfl ?_)
  · show 400 + 10 * k₀ + 1 ≤ 400 + 10 * kc; omega
  · show 1000 + 100 * k₀ + 3 ≤ 1000 + 100 * kc; omega

theorem use_fail {wd : Str} {tw : Tok} (H₀ : At (hd.heap_39 w.params) p loose mean mg mb base s₀ l₀ told₀) (B : Below A₀ base outer g) (F : Fr g L s.heap m) (N : News g L s.heap news)
    (m1 : (x, instObj 159 dx) ∈ news) (m2 : (dx, dictOf (rdr w.params t1 t2 t3 da i) 2) ∈ news) (h2 : Nat.ble (k₀ + 1) 8 = true) (hf : env.frame = some L) (hk : env.scope.kind = .function)
    (bad : ∀ h' tk e, Flown w.params base s.heap [] (env :: outer) e wd i h' → E (.ref e) { s with heap := h', toks := tk }) :
    wpAny (model prog w) ((Ar k₀ outer).deeper env) (call (.ref 116) [.ref x, .str wd tw]) Q E s :=
  use (kc := 8) (small := [(x, instObj 159 dx), (dx, dictOf (rdr w.params t1 t2 t3 da i) 2)]) H₀ B F N (List.forall_mem_cons.mpr ⟨m1, List.forall_mem_cons.mpr ⟨m2, List.forall_mem_nil _⟩⟩) h2 hf hk fun H => c_fail H bad

local macro_rules | `(tactic| walk_at "call builtin:len") => `(tactic| (k_here; (with_reducible show wpAny _ _ (call (Value.builtin "len") [Value.ref _]) _ _ _); k_dflt (refine' len_list_at ?F ?N ?m ?v ?f ?_; (case F => k_asm); (case N => k_asm); (case m => k_mem); (case v => assumption); (case f => assumption))))

theorem c_done (H : At (hd.heap_39 w.params) p loose mean mg mb base s.heap l [(x, instObj 159 dx), (dx, dictOf (rdr w.params t1 t2 t3 da i) 2), (da, listOf vs.toArray n)])
   (hi : IntsAre vs ns) (hlen : ns.length ≤ 1000)
   (ok : ∀ h' tk, (∀ b o, s.heap.get? b = some o → h'.get? b = some o) → R (.ok (.ret (.bool (decide ((ns.length : Int) ≤ i))))) { s with heap := h', toks := tk }) :
   codeAny (model prog w) (Ar 7 l) (.call (.ref 123) ⟨[.ref x], []⟩) R s := by
  refine' enter H rfl ?k6 ?k7 ?k8 ?k9 ?kB ?_ ?c2 ?c3 ?c4 ?c5
  case k6 => k_is
  case k7 => k_is
  case k8 => show (470 : Nat) < recursionLimit; decide
  case k9 => first | exact BindsTo.of_eq rfl | exact binds_K (by k_in) rfl (by k_is) rfl rfl rfl
  case c5 => decide
  case kB => exact locs rfl
  case c2 => exact rfl
  case c3 => exact rfl
  case c4 => exact rfl
  intro g' L' h' eg eL F' N' B' X' T'
  dsimp only
  k_fold
  change Fr g' L' h' (fun y => List.lookup y [(Str.ofString "self", .ref x)]) at F'
  k_steps
  exact ok _ _ (fun b o q => kept_end (ch := []) H eg F' N' (by repeat (first | exact List.forall_mem_nil _ | refine List.forall_mem_cons.mpr ⟨by first | exact .inr (by k_mem) | exact .inl (by k_mem), ?_⟩)) b o q (List.not_mem_nil))

theorem use_done (H₀ : At (hd.heap_39 w.params) p loose mean mg mb base s₀ l₀ told₀) (B : Below A₀ base outer g) (F : Fr g L s.heap m) (N : News g L s.heap news)
    (m1 : (x, instObj 159 dx) ∈ news) (m2 : (dx, dictOf (rdr w.params t1 t2 t3 da i) 2) ∈ news) (m3 : (da, listOf vs.toArray n) ∈ news) (h2 : Nat.ble (k₀ + 1) 7 = true) (hf : env.frame = some L) (hk : env.scope.kind = .function)
    (hi : IntsAre vs ns) (hlen : ns.length ≤ 1000) (ok : ∀ h' tk, Fr g L h' m → News g L h' news → Q (.bool (decide ((ns.length : Int) ≤ i))) { s with heap := h', toks := tk }) :
    wpAny (model prog w) ((Ar k₀ outer).deeper env) (call (.ref 123) [.ref x]) Q E s :=
  use (kc := 7) (small := [(x, instObj 159 dx), (dx, dictOf (rdr w.params t1 t2 t3 da i) 2), (da, listOf vs.toArray n)]) H₀ B F N (List.forall_mem_cons.mpr ⟨m1, List.forall_mem_cons.mpr ⟨m2, List.forall_mem_cons.mpr ⟨m3, List.forall_mem_nil _⟩⟩⟩) h2 hf hk
    fun H => c_done H hi hlen fun h' tk kp => (fun z => ok h' tk z.1 z.2) (back0 F N kp)

theorem item_at {A : Around} {value slice : PySem.Expr} {l : Addr} {vs : List Value} {n : Nat} {u : Tok} {v : Int} {Q : Value → Shared → Prop} (F : Fr g L s.heap m) (N : News g L s.heap news) (hm : (l, listOf vs.toArray n) ∈ news) (hv : IntsAre vs ns) (hf : ns.length ≤ 1000)
    (hx : ns[k]? = some v) (h : ∀ t, Q (.int v t) s)
    (hs : subscripted slice false (.ref l) (.int (k : Int) u) = operate [.ref l, .int (k : Int) u] (getItem (.ref l) (.int (k : Int) u))) :
    wpAny (model prog w) A (subscriptTail value slice (.ref l) (.int (k : Int) u)) Q E s := by
  obtain ⟨t, ht⟩ := hv.get k v hx
  have hlt := (List.getElem?_eq_some_iff.mp hx).1
  have hL : s.heap.IsList l vs.toArray := ⟨_, (N _ hm).1, rfl, n, rfl⟩
  exact tail_any hL.typeIs slot_list_getitem.lookup (wpAny_getItem_list hL (by omega) (by omega) (by simpa using ht) (h t)) hs

local macro_rules | `(tactic| walk_at "subscriptTail") => `(tactic| (k_here; (with_reducible show wpAny _ _ (subscriptTail _ _ (Value.ref _) (Value.int _ _)) _ _ _); (with_unfolding_all refine' item_at ?F ?N ?m ?v ?f ?x ?_ ?s; (case F => k_asm); (case N => k_asm); (case m => k_mem); (case v => assumption); (case f => assumption); (case x => assumption); (case s => with_unfolding_all rfl)); intro u'))

theorem c_byte (H : At (hd.heap_39 w.params) p loose mean mg mb base s.heap l [(x, instObj 159 dx), (dx, dictOf (rdr w.params t1 t2 t3 da (k : Int)) 2), (da, listOf vs.toArray n)])
   (hi : IntsAre vs ns) (hlen : ns.length ≤ 1000)
   (ok : ∀ h' tk v j u1 u2, byteAt ns k = .ok v j → (∀ b o, s.heap.get? b = some o → b ≠ dx → h'.get? b = some o) → h'.get? dx = some (dictOf (rdr w.params t1 t2 u1 da (j : Int)) 2) → R (.ok (.ret (.int v u2))) { s with heap := h', toks := tk })
   (bad : ∀ h' tk e j wd, byteAt ns k = .bad j wd → Flown w.params base s.heap [dx] l e wd j h' → R (.error (.ref e)) { s with heap := h', toks := tk }) :
   codeAny (model prog w) (Ar 6 l) (.call (.ref 130) ⟨[.ref x], []⟩) R s := by
  refine' enter H rfl ?k6 ?k7 ?k8 ?k9 ?kB ?_ ?c2 ?c3 ?c4 ?c5
  case k6 => k_is
  case k7 => k_is
  case k8 => show (460 : Nat) < recursionLimit; decide
  case k9 => first | exact BindsTo.of_eq rfl | exact binds_K (by k_in) rfl (by k_is) rfl rfl rfl
  case c5 => decide
  case kB => exact locs rfl
  case c2 => exact rfl
  case c3 => exact rfl
  case c4 => exact rfl
  intro g' L' h' eg eL F' N' B' X' T'
  dsimp only
  k_fold
  change Fr g' L' h' (fun y => List.lookup y [(Str.ofString "self", .ref x)]) at F'
  have d1 : @Ne Nat x dx := ne_news N' (by k_mem) (by k_mem) (by simp [okind])
  have d2 : @Ne Nat da dx := ne_news N' (by k_mem) (by k_mem) (by simp [okind])
  rcases hx : ns[k]? with _ | v
  · have hge : (ns.length : Int) ≤ k := by have := List.getElem?_eq_none_iff.mp hx; omega
    repeat' (first
    | ((with_reducible show wpAny _ _ (call (Value.ref 116) _) _ _ _); (try dsimp only [List.cons_append, List.nil_append]); (refine' use_fail ?k0 ?k1 ?k2 ?k3 ?m1 ?m2 ?k4 ?kf ?k5 ?_; (case k0 => assumption); (case k1 => assumption); (case k2 => k_asm); (case k3 => k_asm); (case m1 => k_mem); (case m2 => k_mem); (case k4 => exact rfl); (case kf => exact rfl); (case k5 => exact rfl)); intro h' tk' e' XF; (try dsimp only))
    | ((with_reducible show wpAny _ _ (call (Value.ref 123) _) _ _ _); (try dsimp only [List.cons_append, List.nil_append]); (refine' use_done ?k0 ?k1 ?k2 ?k3 ?m1 ?m2 ?m3 ?k4 ?kf ?k5 ?k6 ?k7 ?_; (case k0 => assumption); (case k1 => assumption); (case k2 => k_asm); (case k3 => k_asm); (case m1 => k_mem); (case m2 => k_mem); (case m3 => k_mem); (case k4 => exact rfl); (case kf => exact rfl); (case k5 => exact rfl); (case k6 => assumption); (case k7 => assumption)); intro h' tk' F' N'; (try dsimp only); (try k_sweep))
    | ((fail_if_success (with_reducible show wpAny _ _ (call (Value.ref _) _) _ _ _)); (fail_if_success (with_reducible show wpAny _ _ (exec (Stmt.While _ _ _ _) _) _ _ _)); (fail_if_success (with_reducible show wpAny _ _ (exec (Stmt.For _ _ _ _ _) _) _ _ _)); (fail_if_success (with_reducible show wpAny _ _ (pyIter (Value.ref _)) _ _ _)); (fail_if_success (with_reducible show wpAny _ _ (compareOp CmpOp.NotEq (Value.ref _) (Value.ref _)) _ _ _)); (fail_if_success (with_reducible show wpAny _ _ (eval (Expr.ListComp _ _ _ _) _) _ _ _)); (fail_if_success (with_reducible show wpAny _ _ (exec (Stmt.Try _ _ _ _ _) _) _ _ _)); (first | (k_unfold; (try dsimp only)) | walk1 | (dsimp only; walk1) | (dsimp only; k_unfold; (try dsimp only)) | (leave1; walk_say "STEP leave1"; try dsimp only)))
    | fail "no step")
    refine end_next (ch := [dx]) XF H eg eL B' (by k_asm) (by k_asm) (by repeat (first | exact List.forall_mem_nil _ | refine List.forall_mem_cons.mpr ⟨by first | exact .inr (by k_mem) | exact .inl (by k_mem), ?_⟩)) (List.forall_mem_cons.mpr ⟨by k_mem, List.forall_mem_nil _⟩) (by first | exact fun _ z => .inl z | exact fun _ z => nomatch z) (fun h'' Fl => ?_) rfl
    exact bad _ _ _ _ _ (by unfold byteAt; rw [hx]) Fl
  · have hlt : (k : Int) < ns.length := by have := (List.getElem?_eq_some_iff.mp hx).1; omega
    repeat' (first
    | ((with_reducible show wpAny _ _ (call (Value.ref 116) _) _ _ _); (try dsimp only [List.cons_append, List.nil_append]); (refine' use_fail ?k0 ?k1 ?k2 ?k3 ?m1 ?m2 ?k4 ?kf ?k5 ?_; (case k0 => assumption); (case k1 => assumption); (case k2 => k_asm); (case k3 => k_asm); (case m1 => k_mem); (case m2 => k_mem); (case k4 => exact rfl); (case kf => exact rfl); (case k5 => exact rfl)); intro h' tk' e' XF; (try dsimp only))
    | ((with_reducible show wpAny _ _ (call (Value.ref 123) _) _ _ _); (try dsimp only [List.cons_append, List.nil_append]); (refine' use_done ?k0 ?k1 ?k2 ?k3 ?m1 ?m2 ?m3 ?k4 ?kf ?k5 ?k6 ?k7 ?_; (case k0 => assumption); (case k1 => assumption); (case k2 => k_asm); (case k3 => k_asm); (case m1 => k_mem); (case m2 => k_mem); (case m3 => k_mem); (case k4 => exact rfl); (case kf => exact rfl); (case k5 => exact rfl); (case k6 => assumption); (case k7 => assumption)); intro h' tk' F' N'; (try dsimp only); (try k_sweep))
    | ((fail_if_success (with_reducible show wpAny _ _ (call (Value.ref _) _) _ _ _)); (fail_if_success (with_reducible show wpAny _ _ (exec (Stmt.While _ _ _ _) _) _ _ _)); (fail_if_success (with_reducible show wpAny _ _ (exec (Stmt.For _ _ _ _ _) _) _ _ _)); (fail_if_success (with_reducible show wpAny _ _ (pyIter (Value.ref _)) _ _ _)); (fail_if_success (with_reducible show wpAny _ _ (compareOp CmpOp.NotEq (Value.ref _) (Value.ref _)) _ _ _)); (fail_if_success (with_reducible show wpAny _ _ (eval (Expr.ListComp _ _ _ _) _) _ _ _)); (fail_if_success (with_reducible show wpAny _ _ (exec (Stmt.Try _ _ _ _ _) _) _ _ _)); (first | (k_unfold; (try dsimp only)) | walk1 | (dsimp only; walk1) | (dsimp only; k_unfold; (try dsimp only)) | (leave1; walk_say "STEP leave1"; try dsimp only)))
    | fail "no step")
    · refine end_next (ch := [dx]) XF H eg eL B' (by k_asm) (by k_asm) (by repeat (first | exact List.forall_mem_nil _ | refine List.forall_mem_cons.mpr ⟨by first | exact .inr (by k_mem) | exact .inl (by k_mem), ?_⟩)) (List.forall_mem_cons.mpr ⟨by k_mem, List.forall_mem_nil _⟩) (by first | exact fun _ z => .inl z | exact fun _ z => nomatch z) (fun h'' Fl => ?_) rfl
      exact bad _ _ _ _ _ (by unfold byteAt; rw [hx]; dsimp only; rw [if_pos (by omega)]) Fl
    · refine end_next (ch := [dx]) XF H eg eL B' (by k_asm) (by k_asm) (by repeat (first | exact List.forall_mem_nil _ | refine List.forall_mem_cons.mpr ⟨by first | exact .inr (by k_mem) | exact .inl (by k_mem), ?_⟩)) (List.forall_mem_cons.mpr ⟨by k_mem, List.forall_mem_nil _⟩) (by first | exact fun _ z => .inl z | exact fun _ z => nomatch z) (fun h'' Fl => ?_) rfl
      exact bad _ _ _ _ _ (by unfold byteAt; rw [hx]; dsimp only; rw [if_pos (by omega)]) Fl
    · (rename Fr _ _ _ _ => F9); (rename News _ _ _ _ => N9)
      refine ok _ _ v (k + 1) ?u1 _ (by unfold byteAt; rw [hx]; dsimp only; rw [if_neg (by omega)]) (fun b o q z => kept_end (ch := [dx]) H eg F9 N9 (by repeat (first | exact List.forall_mem_nil _ | refine List.forall_mem_cons.mpr ⟨by first | exact .inr (by k_mem) | exact .inl (by k_mem), ?_⟩)) b o q (by simpa using z)) ?g1
      case g1 => exact (N9 _ (.tail _ (.head _))).1

theorem use_byte (H₀ : At (hd.heap_39 w.params) p loose mean mg mb base s₀ l₀ told₀) (B : Below A₀ base outer g) (F : Fr g L s.heap m) (N : News g L s.heap news)
    (m1 : (x, instObj 159 dx) ∈ news) (m2 : (dx, dictOf (rdr w.params t1 t2 t3 da (k : Int)) 2) ∈ news) (m3 : (da, listOf vs.toArray n) ∈ news) (h2 : Nat.ble (k₀ + 1) 6 = true) (hf : env.frame = some L) (hk : env.scope.kind = .function)
    (hi : IntsAre vs ns) (hlen : ns.length ≤ 1000) (nw : Tok → Nat → List (Addr × Obj)) (U : ∀ (t : Tok) (j : Nat), Upd dx (dictOf (rdr w.params t1 t2 t3 da (k : Int)) 2) (dictOf (rdr w.params t1 t2 t da (j : Int)) 2) news (nw t j))
    (ok : ∀ h' tk v j u1 u2, byteAt ns k = .ok v j → Fr g L h' m → News g L h' (nw u1 j) → Q (.int v u2) { s with heap := h', toks := tk })
    (bad : ∀ h' tk e j wd, byteAt ns k = .bad j wd → Flown w.params base s.heap [dx] (env :: outer) e wd j h' → E (.ref e) { s with heap := h', toks := tk }) :
    wpAny (model prog w) ((Ar k₀ outer).deeper env) (call (.ref 130) [.ref x]) Q E s :=
  use (kc := 6) (small := [(x, instObj 159 dx), (dx, dictOf (rdr w.params t1 t2 t3 da (k : Int)) 2), (da, listOf vs.toArray n)]) H₀ B F N (List.forall_mem_cons.mpr ⟨m1, List.forall_mem_cons.mpr ⟨m2, List.forall_mem_cons.mpr ⟨m3, List.forall_mem_nil _⟩⟩⟩) h2 hf hk
    fun H => c_byte H hi hlen (fun h' tk v j u1 u2 e kp g1 => (fun z => ok h' tk v j u1 u2 e z.1 z.2) (back1 F N (U u1 j) kp g1)) bad
end
end Mine

namespace Mine

theorem fill9 : Challenge.rw_pb0317_01.prog = Challenge.rw_pb0317_01.prog ∧ hd.heap_39 = hd.heap_39 := by
  k_fill
  exact ⟨rfl, rfl⟩

/-! ### a while by its state -/
def WhEnd {σ : Type} (g : Heap) (L : Addr) (s : Shared) (ps : σ → List (Str × Value)) (led : σ → List (Addr × Obj)) (P : σ → Prop) (μ : σ → Nat) (Q : Flow → Shared → Prop) (c : σ) (f : Flow) (s₂ : Shared) : Prop :=
  match f with
  | .ret v => Q (.ret v) s₂
  | .brk => Q .next s₂
  | _ => ∃ c' h' tk m' news', s₂ = { s with heap := h', toks := tk } ∧ Fr g L h' m' ∧ News g L h' news' ∧ (∀ q ∈ led c', q ∈ news') ∧ (∀ q ∈ ps c', m' q.1 = some q.2) ∧ P c' ∧ μ c' < μ c

theorem known {g h : Heap} {L : Addr} {m : Str → Option Value} {ps : List (Str × Value)} (F : Fr g L h m) (hk : ∀ q ∈ ps, m q.1 = some q.2) : Fr g L h (kstB m ps) := by
  have e : kstB m ps = m := funext fun z => kstB_eq hk fun _ => rfl
  rw [e]; exact F

section
variable {prog : Program} {w : World} {A : Around} {E : Value → Shared → Prop} {Q : Flow → Shared → Prop} {s : Shared} {env : Env} {g : Heap} {L : Addr}
theorem wh {σ : Type} {test : Expr} {body : List Stmt} {pos : Pos} {m₀ : Str → Option Value} {news₀ : List (Addr × Obj)} (ps : σ → List (Str × Value)) (led : σ → List (Addr × Obj)) (P : σ → Prop) (μ : σ → Nat) (c₀ : σ)
    (F : Fr g L s.heap m₀) (N : News g L s.heap news₀) (hn : ∀ q ∈ led c₀, q ∈ news₀) (hk : ∀ q ∈ ps c₀, m₀ q.1 = some q.2) (hp : P c₀)
    (turn : ∀ (c : σ) (u : Str → Option Value) h tk, P c → Fr g L h (kstB u (ps c)) → News g L h (led c) →
      wpAny (model prog w) A (isTrue test env (eval test env)) (fun b s₂ =>
        if b = true then wpAny (model prog w) A (execs body env) (WhEnd g L s ps led P μ Q c) E s₂ else Q .next s₂) E { s with heap := h, toks := tk })
    (hE : PassesOwn (model prog w) A env E) :
    wpAny (model prog w) A (exec (.While test body [] pos) env) Q E s := by
  refine While_inv2 (fun n m nx => ∃ c : σ, μ c = n ∧ (∀ q ∈ led c, q ∈ nx) ∧ (∀ q ∈ ps c, m q.1 = some q.2) ∧ P c) F N ⟨c₀, rfl, hn, hk, hp⟩ ?_ hE
  rintro n m₁ nx h tk F₁ N₁ ⟨c, rfl, h1, h2, h3⟩
  refine wpAny_mono (turn c m₁ h tk h3 (known F₁ h2) (fun q hq => N₁ q (h1 q hq))) (fun b s₂ p => ?_) fun _ _ x => x
  cases b with
  | false => simpa using p
  | true =>
    simp only [if_true] at p ⊢
    refine wpAny_mono p (fun f s₃ q => ?_) fun _ _ x => x
    cases f with
    | ret v => exact q
    | brk => exact q
    | next => obtain ⟨c', h', tk', m', news', rfl, F', N', y1, y2, y3, y4⟩ := q; exact ⟨h', tk', m', news', μ c', rfl, F', N', y4, c', rfl, y1, y2, y3⟩
    | cont => obtain ⟨c', h', tk', m', news', rfl, F', N', y1, y2, y3, y4⟩ := q; exact ⟨h', tk', m', news', μ c', rfl, F', N', y4, c', rfl, y1, y2, y3⟩
end

theorem rest_more {ns : List Int} {total weight group : Int} {k j : Nat} {v : Int} (h : 127 < group) (e : byteAt ns k = .ok v j) : rest ns total weight group k = rest ns (total + (group - 128) * weight) (weight * 128) v j := by
  rw [rest, if_pos h]
  split
  · rename_i e'; rw [e] at e'; cases e'
  · rename_i e'; rw [e] at e'; cases e'; rfl
theorem rest_bad {ns : List Int} {total weight group : Int} {k j : Nat} {wd : Str} (h : 127 < group) (e : byteAt ns k = .bad j wd) : rest ns total weight group k = .bad j wd := by
  rw [rest, if_pos h]
  split
  · rename_i e'; rw [e] at e'; cases e'; rfl
  · rename_i e'; rw [e] at e'; cases e'

theorem rest_long {ns : List Int} {total weight group : Int} {k : Nat} (h : ¬ 127 < group) (h0 : group = 0) (h1 : 1 < weight) : rest ns total weight group k = .bad k longNumber := by
  rw [rest, if_neg h, if_pos ⟨h0, h1⟩]
theorem rest_end {ns : List Int} {total weight group v : Int} {k : Nat} (h : ¬ 127 < group) (h0 : ¬ (group = 0 ∧ 1 < weight)) (e : zig (total + group * weight) = v) : rest ns total weight group k = .ok v k := by
  rw [rest, if_neg h, if_neg h0, e]
theorem zig_odd {n : Int} (h : n.fmod 2 = 1) : zig n = (-(n + 1)).fdiv 2 := by
  rw [Int.fmod_eq_emod_of_nonneg _ (by decide)] at h
  unfold zig
  rw [if_pos h, Int.fdiv_eq_ediv_of_nonneg _ (by decide)]
theorem zig_even {n : Int} (h : ¬ n.fmod 2 = 1) : zig n = n.fdiv 2 := by
  rw [Int.fmod_eq_emod_of_nonneg _ (by decide)] at h
  unfold zig
  rw [if_neg h, Int.fdiv_eq_ediv_of_nonneg _ (by decide)]

structure NSt where
  total : Int
  weight : Int
  group : Int
  j : Nat
  a : Tok
  b : Tok
  c : Tok
  u : Tok

section
variable {K : Frag} {p : Program} {loose : List Str} {mean : ExcName → Option Value} {mg mb : Str → Option Value} {base g h' : Heap} {l outer : List Env} {told news news' : List (Addr × Obj)} {L a : Addr} {m : Str → Option Value} {ch : List Addr}
variable {prog : Program} {w : World} {s : Shared} {R : Result → Shared → Prop} {x dx da : Addr} {t1 t2 t3 : Tok} {k n : Nat} {i : Int} {vs : List Value} {ns : List Int}
variable {k₀ : Nat} {s₀ : Heap} {l₀ : List Env} {told₀ : List (Addr × Obj)} {A₀ : Around} {E Q : Value → Shared → Prop} {env : Env}

theorem c_number (H : At (hd.heap_39 w.params) p loose mean mg mb base s.heap l [(x, instObj 159 dx), (dx, dictOf (rdr w.params t1 t2 t3 da (k : Int)) 2), (da, listOf vs.toArray n)])
   (hi : IntsAre vs ns) (hlen : ns.length ≤ 1000)
   (ok : ∀ h' tk v j u1 u2, num ns k = .ok v j → (∀ b o, s.heap.get? b = some o → b ≠ dx → h'.get? b = some o) → h'.get? dx = some (dictOf (rdr w.params t1 t2 u1 da (j : Int)) 2) → R (.ok (.ret (.int v u2))) { s with heap := h', toks := tk })
   (bad : ∀ h' tk e j wd, num ns k = .bad j wd → Flown w.params base s.heap [dx] l e wd j h' → R (.error (.ref e)) { s with heap := h', toks := tk }) :
   codeAny (model prog w) (Ar 5 l) (.call (.ref 137) ⟨[.ref x], []⟩) R s := by
  refine' enter H rfl ?k6 ?k7 ?k8 ?k9 ?kB ?_ ?c2 ?c3 ?c4 ?c5
  case k6 => k_is
  case k7 => k_is
  case k8 => show (450 : Nat) < recursionLimit; decide
  case k9 => first | exact BindsTo.of_eq rfl | exact binds_K (by k_in) rfl (by k_is) rfl rfl rfl
  case c5 => decide
  case kB => exact locs rfl
  case c2 => exact rfl
  case c3 => exact rfl
  case c4 => exact rfl
  intro g' L' h' eg eL F' N' B' X' T'
  dsimp only
  k_fold
  change Fr g' L' h' (fun y => List.lookup y [(Str.ofString "self", .ref x)]) at F'
  have d1 : @Ne Nat x dx := ne_news N' (by k_mem) (by k_mem) (by simp [okind])
  have d2 : @Ne Nat da dx := ne_news N' (by k_mem) (by k_mem) (by simp [okind])
  repeat' (first
    | ((with_reducible show wpAny _ _ (call (Value.ref 130) _) _ _ _); (try dsimp only [List.cons_append, List.nil_append]); (refine' use_byte ?k0 ?k1 ?k2 ?k3 ?m1 ?m2 ?m3 ?k4 ?kf ?k5 ?k6 ?k7 _ ?k8 (fun h' tk' v' j' u1' u2' eb' F' N' => ?_) (fun h' tk' e' j' wd' eb' XF => ?_); (case k0 => assumption); (case k1 => assumption); (case k2 => k_asm); (case k3 => k_asm); (case m1 => k_mem); (case m2 => k_mem); (case m3 => k_mem); (case k4 => exact rfl); (case kf => exact rfl); (case k5 => exact rfl); (case k6 => assumption); (case k7 => assumption); (case k8 => exact fun _ _ => by k_upd)); (all_goals ((try dsimp only); (try k_sweep))))
    | ((fail_if_success (with_reducible show wpAny _ _ (call (Value.ref _) _) _ _ _)); (fail_if_success (with_reducible show wpAny _ _ (exec (Stmt.While _ _ _ _) _) _ _ _)); (fail_if_success (with_reducible show wpAny _ _ (exec (Stmt.For _ _ _ _ _) _) _ _ _)); (fail_if_success (with_reducible show wpAny _ _ (pyIter (Value.ref _)) _ _ _)); (fail_if_success (with_reducible show wpAny _ _ (compareOp CmpOp.NotEq (Value.ref _) (Value.ref _)) _ _ _)); (fail_if_success (with_reducible show wpAny _ _ (eval (Expr.ListComp _ _ _ _) _) _ _ _)); (fail_if_success (with_reducible show wpAny _ _ (exec (Stmt.Try _ _ _ _ _) _) _ _ _)); (first | (k_unfold; (try dsimp only)) | walk1 | (dsimp only; walk1) | (dsimp only; k_unfold; (try dsimp only)) | (leave1; walk_say "STEP leave1"; try dsimp only)))
    | fail "no step")
  · (rename Fr _ _ _ _ => F9); (rename News _ _ _ _ => N9)
    have hb := byteAt_lt eb'
    refine wh (σ := NSt) (fun c => [(Str.ofString "self", .ref x), (Str.ofString "total", .int c.total c.a), (Str.ofString "weight", .int c.weight c.b), (Str.ofString "group", .int c.group c.c)])
      (fun c => [(x, instObj 159 dx), (dx, dictOf (rdr w.params t1 t2 c.u da (c.j : Int)) 2), (da, listOf vs.toArray n)])
      (fun c => num ns k = rest ns c.total c.weight c.group c.j ∧ 0 ≤ c.group ∧ c.group ≤ 255 ∧ c.j ≤ ns.length) (fun c => ns.length - c.j) ⟨0, 1, v', j', _, _, _, u1'⟩ F9 N9 (by repeat (first | exact List.forall_mem_nil _ | refine List.forall_mem_cons.mpr ⟨by first | k_mem | rfl, ?_⟩)) (by repeat (first | exact List.forall_mem_nil _ | refine List.forall_mem_cons.mpr ⟨by first | k_mem | rfl, ?_⟩)) ⟨by unfold num; rw [eb'], hb.2.2.1, hb.2.2.2, show j' ≤ ns.length from by omega⟩ ?_ (by passes_own)
    rintro ⟨total, weight, group, j, a, b, c, u⟩ u₀ h₁ tk₁ ⟨q1, q2, q3, q4⟩ F1 N1
    dsimp only at q1 q2 q3 q4 F1 N1
    repeat' (first
    | ((with_reducible show wpAny _ _ (call (Value.ref 130) _) _ _ _); (try dsimp only [List.cons_append, List.nil_append]); (refine' use_byte ?k0 ?k1 ?k2 ?k3 ?m1 ?m2 ?m3 ?k4 ?kf ?k5 ?k6 ?k7 _ ?k8 (fun h' tk' v' j' u1' u2' eb' F' N' => ?_) (fun h' tk' e' j' wd' eb' XF => ?_); (case k0 => assumption); (case k1 => assumption); (case k2 => k_asm); (case k3 => k_asm); (case m1 => k_mem); (case m2 => k_mem); (case m3 => k_mem); (case k4 => exact rfl); (case kf => exact rfl); (case k5 => exact rfl); (case k6 => assumption); (case k7 => assumption); (case k8 => exact fun _ _ => by k_upd)); (all_goals ((try dsimp only); (try k_sweep))))
    | ((with_reducible show wpAny _ _ (call (Value.ref 116) _) _ _ _); (try dsimp only [List.cons_append, List.nil_append]); (refine' use_fail ?k0 ?k1 ?k2 ?k3 ?m1 ?m2 ?k4 ?kf ?k5 ?_; (case k0 => assumption); (case k1 => assumption); (case k2 => k_asm); (case k3 => k_asm); (case m1 => k_mem); (case m2 => k_mem); (case k4 => exact rfl); (case kf => exact rfl); (case k5 => exact rfl)); intro h' tk' e' XF; (try dsimp only))
    | ((fail_if_success (with_reducible show wpAny _ _ (call (Value.ref _) _) _ _ _)); (fail_if_success (with_reducible show wpAny _ _ (exec (Stmt.While _ _ _ _) _) _ _ _)); (fail_if_success (with_reducible show wpAny _ _ (exec (Stmt.For _ _ _ _ _) _) _ _ _)); (fail_if_success (with_reducible show wpAny _ _ (pyIter (Value.ref _)) _ _ _)); (fail_if_success (with_reducible show wpAny _ _ (compareOp CmpOp.NotEq (Value.ref _) (Value.ref _)) _ _ _)); (fail_if_success (with_reducible show wpAny _ _ (eval (Expr.ListComp _ _ _ _) _) _ _ _)); (fail_if_success (with_reducible show wpAny _ _ (exec (Stmt.Try _ _ _ _ _) _) _ _ _)); (first | (k_unfold; (try dsimp only)) | walk1 | (dsimp only; walk1) | (dsimp only; k_unfold; (try dsimp only)) | (leave1; walk_say "STEP leave1"; try dsimp only)))
    | fail "no step")
    · (rename Fr _ _ _ _ => F9); (rename News _ _ _ _ => N9)
      have hb' := byteAt_lt eb'
      exact ⟨⟨total + (group - 128) * weight, weight * 128, v', j', _, _, _, _⟩, _, _, _, _, rfl, F9, N9, (by repeat (first | exact List.forall_mem_nil _ | refine List.forall_mem_cons.mpr ⟨by first | k_mem | rfl, ?_⟩)), (by repeat (first | exact List.forall_mem_nil _ | refine List.forall_mem_cons.mpr ⟨by first | k_mem | rfl, ?_⟩)), ⟨q1.trans (rest_more (by assumption) eb'), hb'.2.2.1, hb'.2.2.2, show j' ≤ ns.length from by omega⟩, show ns.length - j' < ns.length - j from by omega⟩
    · refine end_next (ch := [dx]) XF H eg eL B' (by k_asm) (by k_asm) (by repeat (first | exact List.forall_mem_nil _ | refine List.forall_mem_cons.mpr ⟨by first | exact .inr (by k_mem) | exact .inl (by k_mem), ?_⟩)) (List.forall_mem_cons.mpr ⟨by k_mem, List.forall_mem_nil _⟩) (by first | exact fun _ z => .inl z | exact fun _ z => nomatch z) (fun h'' Fl => ?_) rfl
      exact bad _ _ _ _ _ (q1.trans (rest_bad (by assumption) eb')) Fl
    · refine end_next (ch := [dx]) XF H eg eL B' (by k_asm) (by k_asm) (by repeat (first | exact List.forall_mem_nil _ | refine List.forall_mem_cons.mpr ⟨by first | exact .inr (by k_mem) | exact .inl (by k_mem), ?_⟩)) (List.forall_mem_cons.mpr ⟨by k_mem, List.forall_mem_nil _⟩) (by first | exact fun _ z => .inl z | exact fun _ z => nomatch z) (fun h'' Fl => ?_) rfl
      exact bad _ _ _ _ _ (q1.trans (rest_long (by assumption) (by assumption) (by assumption))) Fl
    all_goals ((rename Fr _ _ _ _ => F9); (rename News _ _ _ _ => N9); exact ok _ _ _ j _ _ (q1.trans (rest_end (by assumption) (by omega) (by first | exact zig_odd (by assumption) | exact zig_even (by assumption)))) (fun b o q z => kept_end (ch := [dx]) H eg F9 N9 (by repeat (first | exact List.forall_mem_nil _ | refine List.forall_mem_cons.mpr ⟨by first | exact .inr (by k_mem) | exact .inl (by k_mem), ?_⟩)) b o q (by simpa using z)) (N9 _ (.tail _ (.head _))).1)
  · refine end_next (ch := [dx]) XF H eg eL B' (by k_asm) (by k_asm) (by repeat (first | exact List.forall_mem_nil _ | refine List.forall_mem_cons.mpr ⟨by first | exact .inr (by k_mem) | exact .inl (by k_mem), ?_⟩)) (List.forall_mem_cons.mpr ⟨by k_mem, List.forall_mem_nil _⟩) (by first | exact fun _ z => .inl z | exact fun _ z => nomatch z) (fun h'' Fl => ?_) rfl
    exact bad _ _ _ _ _ (by unfold num; rw [eb']) Fl

theorem use_number (H₀ : At (hd.heap_39 w.params) p loose mean mg mb base s₀ l₀ told₀) (B : Below A₀ base outer g) (F : Fr g L s.heap m) (N : News g L s.heap news)
    (m1 : (x, instObj 159 dx) ∈ news) (m2 : (dx, dictOf (rdr w.params t1 t2 t3 da (k : Int)) 2) ∈ news) (m3 : (da, listOf vs.toArray n) ∈ news) (h2 : Nat.ble (k₀ + 1) 5 = true) (hf : env.frame = some L) (hk : env.scope.kind = .function)
    (hi : IntsAre vs ns) (hlen : ns.length ≤ 1000) (nw : Tok → Nat → List (Addr × Obj)) (U : ∀ (t : Tok) (j : Nat), Upd dx (dictOf (rdr w.params t1 t2 t3 da (k : Int)) 2) (dictOf (rdr w.params t1 t2 t da (j : Int)) 2) news (nw t j))
    (ok : ∀ h' tk v j u1 u2, num ns k = .ok v j → Fr g L h' m → News g L h' (nw u1 j) → Q (.int v u2) { s with heap := h', toks := tk })
    (bad : ∀ h' tk e j wd, num ns k = .bad j wd → Flown w.params base s.heap [dx] (env :: outer) e wd j h' → E (.ref e) { s with heap := h', toks := tk }) :
    wpAny (model prog w) ((Ar k₀ outer).deeper env) (call (.ref 137) [.ref x]) Q E s :=
  use (kc := 5) (small := [(x, instObj 159 dx), (dx, dictOf (rdr w.params t1 t2 t3 da (k : Int)) 2), (da, listOf vs.toArray n)]) H₀ B F N (List.forall_mem_cons.mpr ⟨m1, List.forall_mem_cons.mpr ⟨m2, List.forall_mem_cons.mpr ⟨m3, List.forall_mem_nil _⟩⟩⟩) h2 hf hk
    fun H => c_number H hi hlen (fun h' tk v j u1 u2 e kp g1 => (fun z => ok h' tk v j u1 u2 e z.1 z.2) (back1 F N (U u1 j) kp g1)) bad
end
end Mine

namespace Mine

theorem fill10 : Challenge.rw_pb0317_01.prog = Challenge.rw_pb0317_01.prog ∧ hd.heap_39 = hd.heap_39 := by
  k_fill
  exact ⟨rfl, rfl⟩

/-! ### a for over a range, by its state -/
def FoEnd {σ : Type} (g : Heap) (L : Addr) (s : Shared) (ps : σ → List (Str × Value)) (led : σ → List (Addr × Obj)) (P : σ → Prop) (I : Addr) (oI : Obj) (Q : Flow → Shared → Prop) (f : Flow) (s₂ : Shared) : Prop :=
  match f with
  | .ret v => Q (.ret v) s₂
  | .brk => Q .next s₂
  | _ => ∃ c' h' tk m' news', s₂ = { s with heap := h', toks := tk } ∧ Fr g L h' m' ∧ News g L h' news' ∧ (∀ q ∈ (I, oI) :: led c', q ∈ news') ∧ (∀ q ∈ ps c', m' q.1 = some q.2) ∧ P c'

section
variable {prog : Program} {w : World} {A : Around} {E : Value → Shared → Prop} {Q : Flow → Shared → Prop} {s : Shared} {env : Env} {g : Heap} {x : Str} {body : List Stmt}

theorem for_walks {σ : Type} {m₀ : Str → Option Value} {news₀ : List (Addr × Obj)} {I : Addr} {n : Nat} {Pv : Nat → Value → Prop} {St : Nat → Heap → Prop} (iobj : Nat → Obj) (ps : σ → List (Str × Value)) (led : σ → List (Addr × Obj)) (P : Nat → σ → Prop) (c₀ : σ)
    (W : Walks prog w A I [I] [I] n Pv St) (hst : St 0 s.heap) (hso : ∀ i h, St i h → h.get? I = some (iobj i))
    (F : Fr g env.locals s.heap m₀) (N : News g env.locals s.heap news₀) (hL : env.locals ≠ I) (hI : g.get? I = none) (hadr : ∀ c, (led c).map (·.1) = (led c₀).map (·.1)) (hlt : ∀ q ∈ led c₀, @LT.lt Nat _ q.1 I)
    (hn : ∀ q ∈ led c₀, q ∈ news₀) (hk : ∀ q ∈ ps c₀, m₀ q.1 = some q.2) (hp : P 0 c₀)
    (turn : ∀ i v (c : σ) (u : Str → Option Value) h tk, i < n → Pv i v → P i c → Fr g env.locals h (kstB u ((x, v) :: ps c)) → News g env.locals h ((I, iobj (i + 1)) :: led c) → (∀ q ∈ led c, @LT.lt Nat _ q.1 I) →
      wpAny (model prog w) A (execs body env) (FoEnd g env.locals { s with heap := h, toks := tk } ps led (P (i + 1)) I (iobj (i + 1)) Q) E { s with heap := h, toks := tk })
    (done : ∀ (c : σ) (u : Str → Option Value) h tk, P n c → Fr g env.locals h (kstB u (ps c)) → News g env.locals h (led c) → Q .next { s with heap := h, toks := tk }) :
    LoopAtV prog w A g env x body Q E (.ref I) s := by
  have hltc : ∀ c, ∀ q ∈ led c, @LT.lt Nat _ q.1 I := fun c q hq => by
    have h1 : q.1 ∈ (led c₀).map (·.1) := by rw [← hadr c]; exact List.mem_map_of_mem hq
    obtain ⟨q', hq', e⟩ := List.mem_map.mp h1
    rw [← e]; exact hlt q' hq'
  have hne : ∀ c, ∀ q ∈ led c, q.1 ∉ [I] := fun c q hq hm => Nat.ne_of_lt (hltc c q hq) (List.mem_singleton.mp hm)
  refine ⟨I, [I], [I], n, Pv, St, m₀, led c₀, fun i m nx => ∃ c, nx = led c ∧ (∀ q ∈ ps c, m q.1 = some q.2) ∧ P i c, rfl, W, fun hm => hL (List.mem_singleton.mp hm), fun b hb => by rw [List.mem_singleton.mp hb]; exact hI, hne c₀, hst, F, fun q hq => N q (hn q hq), ⟨c₀, rfl, hk, hp⟩, ?_, ?_⟩
  · rintro i v m₁ _ s₁ own ⟨h, tk, rfl⟩ hi hv ⟨c, rfl, hk₁, hp₁⟩ _ hown hget hall hst₁ F₁ N₁
    have go := hso _ _ hst₁
    have hmem := hall I (List.mem_singleton.mpr rfl) hI _ go
    have F₂ : Fr g env.locals h (kstB m₁ ((x, v) :: ps c)) := by
      have e : kstB m₁ ((x, v) :: ps c) = fun y => if y = x then some v else m₁ y := by
        have e2 : kstB m₁ (ps c) = m₁ := funext fun z => kstB_eq hk₁ fun _ => rfl
        show (fun z => if z = x then some v else kstB m₁ (ps c) z) = _
        rw [e2]
      rw [e]; exact F₁
    refine wpAny_mono (turn i v c m₁ h tk hi hv hp₁ F₂ (fun q hq => ?_) (hltc c)) (fun f s₂ p => ?_) fun _ _ y => y
    · rcases List.mem_cons.mp hq with rfl | hq
      · exact N₁ _ (List.mem_append_left _ hmem)
      · exact N₁ _ (List.mem_append_right _ hq)
    · have fin : (∃ c' h' tk' m' news', s₂ = { s with heap := h', toks := tk' } ∧ Fr g env.locals h' m' ∧ News g env.locals h' news' ∧ (∀ q ∈ (I, iobj (i + 1)) :: led c', q ∈ news') ∧ (∀ q ∈ ps c', m' q.1 = some q.2) ∧ P (i + 1) c') →
          LoopStepU g env.locals [I] own (fun m nx => ∃ c, nx = led c ∧ (∀ q ∈ ps c, m q.1 = some q.2) ∧ P (i + 1) c) { s with heap := h, toks := tk } .next s₂ := by
        rintro ⟨c', h', tk', m', news', rfl, F', N', y1, y2, y3⟩
        refine ⟨rfl, h', tk', m', led c', rfl, F', fun q hq => ?_, hne c', c', rfl, y2, y3⟩
        rcases List.mem_append.mp hq with z | z
        · have e1 : q.1 = I := List.mem_singleton.mp (hown q z)
          have e2 := hget q z
          rw [e1] at e2
          have e3 : h.get? I = some q.2 := e2
          rw [go] at e3
          have e4 : q = (I, iobj (i + 1)) := Prod.ext e1 (Option.some.inj e3).symm
          rw [e4]
          exact N' _ (y1 _ (.head _))
        · exact N' _ (y1 _ (.tail _ z))
      cases f with
      | ret v => exact .ret p
      | brk => exact .brk p
      | next => exact .next (fin p)
      | cont => exact .cont (fin p)
  · rintro h tk m' _ F' N' _ ⟨c, rfl, hk', hp'⟩
    exact done c m' h tk hp' (known F' hk') N'

theorem for_range {σ : Type} {r : Addr} {b₀ : Int} {t₀ u₀ v₀ : Tok} {n : Nat} {m₀ : Str → Option Value} {news₀ : List (Addr × Obj)} (ps : σ → List (Str × Value)) (led : σ → List (Addr × Obj)) (P : Nat → σ → Prop) (c₀ : σ)
    (hh : A.handled = none) (hr : IsRange s.heap r 0 b₀ 1 t₀ u₀ v₀) (hsmall : Builtin.Range.small 0 b₀ 1 = true) (hsz : Builtin.Range.rangeSize 0 b₀ 1 = (n : Int))
    (F : Fr g env.locals s.heap m₀) (N : News g env.locals s.heap news₀) (hadr : ∀ c, (led c).map (·.1) = (led c₀).map (·.1)) (hn : ∀ q ∈ led c₀, q ∈ news₀) (hk : ∀ q ∈ ps c₀, m₀ q.1 = some q.2) (hp : P 0 c₀)
    (turn : ∀ i t I oI (c : σ) (u : Str → Option Value) h tk, i < n → P i c → Fr g env.locals h (kstB u ((x, .int (i : Int) t) :: ps c)) → News g env.locals h ((I, oI) :: led c) → (∀ q ∈ led c, @LT.lt Nat _ q.1 I) →
      wpAny (model prog w) A (execs body env) (FoEnd g env.locals { s with heap := h, toks := tk } ps led (P (i + 1)) I oI Q) E { s with heap := h, toks := tk })
    (done : ∀ (c : σ) (u : Str → Option Value) h tk, P n c → Fr g env.locals h (kstB u (ps c)) → News g env.locals h (led c) → Q .next { s with heap := h, toks := tk }) :
    wpAny (model prog w) A (pyIter (.ref r)) (fun it s₂ => LoopAtV prog w A g env x body Q E it s₂) E s := by
  refine wpAny_pyIter_range hr hsmall ?_
  have W : Walks prog w A s.heap.objs.size [s.heap.objs.size] [s.heap.objs.size] n (fun i v => i < n ∧ ∃ t, v = .int (0 + i * 1) t)
      (fun i h => IsRangeIter h s.heap.objs.size (0 + (i : Nat) * 1) ((n : Int) - (i : Nat)) 1) := (Walks.range hh _ 0 1 n).bound
  refine for_walks (s := { s with heap := _ }) (fun i => { cls := .type "range_iterator", data := .fields #[rawInt (0 + ((i : Nat) : Int) * 1), rawInt ((n : Int) - (i : Nat)), rawInt 1] }) ps led P c₀ W (by show IsRangeIter _ _ _ _ _; rw [hsz]; simpa using Heap.get?_push_size _ rfl) (fun i h q => q) (F.push _)
    (fun p hp => ⟨Heap.get?_push_of_some _ (N p hp).1, (N p hp).2⟩) (Nat.ne_of_lt F.ns.lt) (next_is_new F) hadr (fun q hq => Heap.lt_size (N q (hn q hq)).1) hn hk hp ?_ done
  rintro i v c u h tk hi ⟨_, t, rfl⟩ hp₁ F₁ N₁ hlt
  rw [show (0 : Int) + (i : Int) * 1 = (i : Int) by omega] at F₁
  exact turn i t _ _ c u h tk hi hp₁ F₁ N₁ hlt
end

/-! ### the counts -/
abbrev badCount : Str := Str.ofString "bad_count"
abbrev badChar : Str := Str.ofString "bad_char"
def cnt (ns : List Int) (k : Nat) : Rd := match num ns k with
  | .bad j wd => .bad j wd
  | .ok v j => if v < 0 ∨ (ns.length : Int) - j < v then .bad j badCount else .ok v j

section
variable {K : Frag} {p : Program} {loose : List Str} {mean : ExcName → Option Value} {mg mb : Str → Option Value} {base g h' : Heap} {l outer : List Env} {told news news' : List (Addr × Obj)} {L a : Addr} {m : Str → Option Value} {ch : List Addr}
variable {prog : Program} {w : World} {s : Shared} {R : Result → Shared → Prop} {x dx da : Addr} {t1 t2 t3 : Tok} {k n : Nat} {i : Int} {vs : List Value} {ns : List Int}
variable {k₀ : Nat} {s₀ : Heap} {l₀ : List Env} {told₀ : List (Addr × Obj)} {A₀ : Around} {E Q : Value → Shared → Prop} {env : Env}

local macro_rules | `(tactic| walk_at "call builtin:len") => `(tactic| (k_here; (with_reducible show wpAny _ _ (call (Value.builtin "len") [Value.ref _]) _ _ _); k_dflt (refine' len_list_at ?F ?N ?m ?v ?f ?_; (case F => k_asm); (case N => k_asm); (case m => k_mem); (case v => assumption); (case f => assumption))))

theorem c_count (H : At (hd.heap_39 w.params) p loose mean mg mb base s.heap l [(x, instObj 159 dx), (dx, dictOf (rdr w.params t1 t2 t3 da (k : Int)) 2), (da, listOf vs.toArray n)])
   (hi : IntsAre vs ns) (hlen : ns.length ≤ 1000)
   (ok : ∀ h' tk v j u1 u2, cnt ns k = .ok v j → (∀ b o, s.heap.get? b = some o → b ≠ dx → h'.get? b = some o) → h'.get? dx = some (dictOf (rdr w.params t1 t2 u1 da (j : Int)) 2) → R (.ok (.ret (.int v u2))) { s with heap := h', toks := tk })
   (bad : ∀ h' tk e j wd, cnt ns k = .bad j wd → Flown w.params base s.heap [dx] l e wd j h' → R (.error (.ref e)) { s with heap := h', toks := tk }) :
   codeAny (model prog w) (Ar 4 l) (.call (.ref 144) ⟨[.ref x], []⟩) R s := by
  refine' enter H rfl ?k6 ?k7 ?k8 ?k9 ?kB ?_ ?c2 ?c3 ?c4 ?c5
  case k6 => k_is
  case k7 => k_is
  case k8 => show (440 : Nat) < recursionLimit; decide
  case k9 => first | exact BindsTo.of_eq rfl | exact binds_K (by k_in) rfl (by k_is) rfl rfl rfl
  case c5 => decide
  case kB => exact locs rfl
  case c2 => exact rfl
  case c3 => exact rfl
  case c4 => exact rfl
  intro g' L' h' eg eL F' N' B' X' T'
  dsimp only
  k_fold
  change Fr g' L' h' (fun y => List.lookup y [(Str.ofString "self", .ref x)]) at F'
  have d1 : @Ne Nat x dx := ne_news N' (by k_mem) (by k_mem) (by simp [okind])
  have d2 : @Ne Nat da dx := ne_news N' (by k_mem) (by k_mem) (by simp [okind])
  repeat' (first
    | ((with_reducible show wpAny _ _ (call (Value.ref 137) _) _ _ _); (try dsimp only [List.cons_append, List.nil_append]); (refine' use_number ?k0 ?k1 ?k2 ?k3 ?m1 ?m2 ?m3 ?k4 ?kf ?k5 ?k6 ?k7 _ ?k8 (fun h' tk' v' j' u1' u2' eb' F' N' => ?_) (fun h' tk' e' j' wd' eb' XF => ?_); (case k0 => assumption); (case k1 => assumption); (case k2 => k_asm); (case k3 => k_asm); (case m1 => k_mem); (case m2 => k_mem); (case m3 => k_mem); (case k4 => exact rfl); (case kf => exact rfl); (case k5 => exact rfl); (case k6 => assumption); (case k7 => assumption); (case k8 => exact fun _ _ => by k_upd)); (all_goals ((try dsimp only); (try k_sweep))))
    | ((with_reducible show wpAny _ _ (call (Value.ref 116) _) _ _ _); (try dsimp only [List.cons_append, List.nil_append]); (refine' use_fail ?k0 ?k1 ?k2 ?k3 ?m1 ?m2 ?k4 ?kf ?k5 ?_; (case k0 => assumption); (case k1 => assumption); (case k2 => k_asm); (case k3 => k_asm); (case m1 => k_mem); (case m2 => k_mem); (case k4 => exact rfl); (case kf => exact rfl); (case k5 => exact rfl)); intro h' tk' e' XF; (try dsimp only))
    | ((fail_if_success (with_reducible show wpAny _ _ (call (Value.ref _) _) _ _ _)); (fail_if_success (with_reducible show wpAny _ _ (exec (Stmt.While _ _ _ _) _) _ _ _)); (fail_if_success (with_reducible show wpAny _ _ (exec (Stmt.For _ _ _ _ _) _) _ _ _)); (fail_if_success (with_reducible show wpAny _ _ (pyIter (Value.ref _)) _ _ _)); (fail_if_success (with_reducible show wpAny _ _ (compareOp CmpOp.NotEq (Value.ref _) (Value.ref _)) _ _ _)); (fail_if_success (with_reducible show wpAny _ _ (eval (Expr.ListComp _ _ _ _) _) _ _ _)); (fail_if_success (with_reducible show wpAny _ _ (exec (Stmt.Try _ _ _ _ _) _) _ _ _)); (first | (k_unfold; (try dsimp only)) | walk1 | (dsimp only; walk1) | (dsimp only; k_unfold; (try dsimp only)) | (leave1; walk_say "STEP leave1"; try dsimp only)))
    | fail "no step")
  · refine end_next (ch := [dx]) XF H eg eL B' (by k_asm) (by k_asm) (by repeat (first | exact List.forall_mem_nil _ | refine List.forall_mem_cons.mpr ⟨by first | exact .inr (by k_mem) | exact .inl (by k_mem), ?_⟩)) (List.forall_mem_cons.mpr ⟨by k_mem, List.forall_mem_nil _⟩) (by first | exact fun _ z => .inl z | exact fun _ z => nomatch z) (fun h'' Fl => ?_) rfl
    exact bad _ _ _ _ _ (by unfold cnt; rw [eb']; dsimp only; rw [if_pos (by omega)]) Fl
  · refine end_next (ch := [dx]) XF H eg eL B' (by k_asm) (by k_asm) (by repeat (first | exact List.forall_mem_nil _ | refine List.forall_mem_cons.mpr ⟨by first | exact .inr (by k_mem) | exact .inl (by k_mem), ?_⟩)) (List.forall_mem_cons.mpr ⟨by k_mem, List.forall_mem_nil _⟩) (by first | exact fun _ z => .inl z | exact fun _ z => nomatch z) (fun h'' Fl => ?_) rfl
    exact bad _ _ _ _ _ (by unfold cnt; rw [eb']; dsimp only; rw [if_pos (by omega)]) Fl
  · (rename Fr _ _ _ _ => F9); (rename News _ _ _ _ => N9)
    exact ok _ _ v' j' _ _ (by unfold cnt; rw [eb']; dsimp only; rw [if_neg (by omega)]) (fun b o q z => kept_end (ch := [dx]) H eg F9 N9 (by repeat (first | exact List.forall_mem_nil _ | refine List.forall_mem_cons.mpr ⟨by first | exact .inr (by k_mem) | exact .inl (by k_mem), ?_⟩)) b o q (by simpa using z)) (N9 _ (.tail _ (.head _))).1
  · refine end_next (ch := [dx]) XF H eg eL B' (by k_asm) (by k_asm) (by repeat (first | exact List.forall_mem_nil _ | refine List.forall_mem_cons.mpr ⟨by first | exact .inr (by k_mem) | exact .inl (by k_mem), ?_⟩)) (List.forall_mem_cons.mpr ⟨by k_mem, List.forall_mem_nil _⟩) (by first | exact fun _ z => .inl z | exact fun _ z => nomatch z) (fun h'' Fl => ?_) rfl
    exact bad _ _ _ _ _ (by unfold cnt; rw [eb']) Fl

theorem use_count (H₀ : At (hd.heap_39 w.params) p loose mean mg mb base s₀ l₀ told₀) (B : Below A₀ base outer g) (F : Fr g L s.heap m) (N : News g L s.heap news)
    (m1 : (x, instObj 159 dx) ∈ news) (m2 : (dx, dictOf (rdr w.params t1 t2 t3 da (k : Int)) 2) ∈ news) (m3 : (da, listOf vs.toArray n) ∈ news) (h2 : Nat.ble (k₀ + 1) 4 = true) (hf : env.frame = some L) (hk : env.scope.kind = .function)
    (hi : IntsAre vs ns) (hlen : ns.length ≤ 1000) (nw : Tok → Nat → List (Addr × Obj)) (U : ∀ (t : Tok) (j : Nat), Upd dx (dictOf (rdr w.params t1 t2 t3 da (k : Int)) 2) (dictOf (rdr w.params t1 t2 t da (j : Int)) 2) news (nw t j))
    (ok : ∀ h' tk v j u1 u2, cnt ns k = .ok v j → Fr g L h' m → News g L h' (nw u1 j) → Q (.int v u2) { s with heap := h', toks := tk })
    (bad : ∀ h' tk e j wd, cnt ns k = .bad j wd → Flown w.params base s.heap [dx] (env :: outer) e wd j h' → E (.ref e) { s with heap := h', toks := tk }) :
    wpAny (model prog w) ((Ar k₀ outer).deeper env) (call (.ref 144) [.ref x]) Q E s :=
  use (kc := 4) (small := [(x, instObj 159 dx), (dx, dictOf (rdr w.params t1 t2 t3 da (k : Int)) 2), (da, listOf vs.toArray n)]) H₀ B F N (List.forall_mem_cons.mpr ⟨m1, List.forall_mem_cons.mpr ⟨m2, List.forall_mem_cons.mpr ⟨m3, List.forall_mem_nil _⟩⟩⟩) h2 hf hk
    fun H => c_count H hi hlen (fun h' tk v j u1 u2 e kp g1 => (fun z => ok h' tk v j u1 u2 e z.1 z.2) (back1 F N (U u1 j) kp g1)) bad
end
end Mine

namespace Mine

theorem fill11 : Challenge.rw_pb0317_01.prog = Challenge.rw_pb0317_01.prog ∧ hd.heap_39 = hd.heap_39 := by
  k_fill
  exact ⟨rfl, rfl⟩

inductive RdL where
  | ok (vs : List Int) (j : Nat)
  | bad (j : Nat) (wd : Str)
def lap (chk : Bool) (ns : List Int) : Nat → Nat → RdL
  | 0, k => .ok [] k
  | c + 1, k => match num ns k with
    | .bad j wd => .bad j wd
    | .ok v j => if chk = true ∧ (v < 0 ∨ 1114111 < v) then .bad j badChar else match lap chk ns c j with
      | .bad j' wd => .bad j' wd
      | .ok vs j' => .ok (v :: vs) j'
def many (chk : Bool) (ns : List Int) (k : Nat) : RdL := match cnt ns k with
  | .bad j wd => .bad j wd
  | .ok v j => lap chk ns v.toNat j
def after (acc : List Int) : RdL → RdL
  | .bad j wd => .bad j wd
  | .ok vs j => .ok (acc ++ vs) j
abbrev chrOf (v : Int) : Str := ⟨#[v.toNat]⟩
theorem cnt_ok {ns : List Int} {k : Nat} {v : Int} {j : Nat} (h : cnt ns k = .ok v j) : 0 ≤ v ∧ v ≤ ns.length := by
  unfold cnt at h
  split at h
  · cases h
  · split at h
    · cases h
    · cases h; omega
theorem lap_bad {chk : Bool} {ns acc : List Int} {c k j : Nat} {wd : Str} (e : num ns k = .bad j wd) : after acc (lap chk ns (c + 1) k) = .bad j wd := by
  show after acc (match num ns k with | .bad j wd => _ | .ok v j => _) = _
  rw [e]; rfl
theorem lap_char {ns acc : List Int} {c k j : Nat} {v : Int} (e : num ns k = .ok v j) (hv : v < 0 ∨ 1114111 < v) : after acc (lap true ns (c + 1) k) = .bad j badChar := by
  show after acc (match num ns k with | .bad j wd => _ | .ok v j => _) = _
  rw [e]; dsimp only; rw [if_pos ⟨rfl, hv⟩]; rfl
theorem lap_ok {chk : Bool} {ns acc : List Int} {c k j : Nat} {v : Int} (e : num ns k = .ok v j) (hv : chk = true → ¬ (v < 0 ∨ 1114111 < v)) : after acc (lap chk ns (c + 1) k) = after (acc ++ [v]) (lap chk ns c j) := by
  show after acc (match num ns k with | .bad j wd => _ | .ok v j => _) = _
  rw [e]; dsimp only; rw [if_neg fun z => hv z.1 z.2]
  cases lap chk ns c j <;> simp [after]
theorem after_nil (r : RdL) : after [] r = r := by cases r <;> rfl

theorem rangeSize_nat {b : Int} (h : 0 ≤ b) : Builtin.Range.rangeSize 0 b 1 = (b.toNat : Int) := by
  unfold Builtin.Range.rangeSize
  rw [if_pos (by decide)]
  split <;> omega

theorem strs_push {items : Array Value} {ys : List Str} {y : Str} {t : Tok} (h : StrsAre items.toList ys) : StrsAre (items.push (.str y t)).toList (ys ++ [y]) := by
  rw [Array.toList_push]
  generalize items.toList = l at h
  induction h with
  | nil => exact .cons _ _ .nil
  | cons z u _ ih => exact .cons _ _ ih
theorem chr_lens (cs : List Int) : ((cs.map chrOf).map (·.length)).sum = cs.length := by
  induction cs with
  | nil => rfl
  | cons c r ih => rw [List.map_cons, List.map_cons, List.sum_cons, ih, List.length_cons, Nat.add_comm]; rfl

structure TSt where
  done : List Int
  j : Nat
  u : Tok
  items : Array Value
  c : Nat

section
variable {K : Frag} {p : Program} {loose : List Str} {mean : ExcName → Option Value} {mg mb : Str → Option Value} {base g h' : Heap} {l outer : List Env} {told news news' : List (Addr × Obj)} {L a : Addr} {m : Str → Option Value} {ch : List Addr}
variable {prog : Program} {w : World} {s : Shared} {R : Result → Shared → Prop} {x dx da : Addr} {t1 t2 t3 : Tok} {k n : Nat} {i : Int} {vs : List Value} {ns : List Int}
variable {k₀ : Nat} {s₀ : Heap} {l₀ : List Env} {told₀ : List (Addr × Obj)} {A₀ : Around} {E Q : Value → Shared → Prop} {env : Env}

theorem c_text (H : At (hd.heap_39 w.params) p loose mean mg mb base s.heap l [(x, instObj 159 dx), (dx, dictOf (rdr w.params t1 t2 t3 da (k : Int)) 2), (da, listOf vs.toArray n)])
   (hi : IntsAre vs ns) (hlen : ns.length ≤ 1000)
   (ok : ∀ h' tk cs j u1 u2, many true ns k = .ok cs j → (∀ b o, s.heap.get? b = some o → b ≠ dx → h'.get? b = some o) → h'.get? dx = some (dictOf (rdr w.params t1 t2 u1 da (j : Int)) 2) → R (.ok (.ret (.str (Txt.join (Str.ofString "") (cs.map chrOf)) u2))) { s with heap := h', toks := tk })
   (bad : ∀ h' tk e j wd, many true ns k = .bad j wd → Flown w.params base s.heap [dx] l e wd j h' → R (.error (.ref e)) { s with heap := h', toks := tk }) :
   codeAny (model prog w) (Ar 3 l) (.call (.ref 151) ⟨[.ref x], []⟩) R s := by
  refine' enter H rfl ?k6 ?k7 ?k8 ?k9 ?kB ?_ ?c2 ?c3 ?c4 ?c5
  case k6 => k_is
  case k7 => k_is
  case k8 => show (430 : Nat) < recursionLimit; decide
  case k9 => first | exact BindsTo.of_eq rfl | exact binds_K (by k_in) rfl (by k_is) rfl rfl rfl
  case c5 => decide
  case kB => exact locs rfl
  case c2 => exact rfl
  case c3 => exact rfl
  case c4 => exact rfl
  intro g' L' h' eg eL F' N' B' X' T'
  dsimp only
  k_fold
  change Fr g' L' h' (fun y => List.lookup y [(Str.ofString "self", .ref x)]) at F'
  have d1 : @Ne Nat x dx := ne_news N' (by k_mem) (by k_mem) (by simp [okind])
  have d2 : @Ne Nat da dx := ne_news N' (by k_mem) (by k_mem) (by simp [okind])
  repeat' (first
    | ((with_reducible show wpAny _ _ (newList _) _ _ _); (refine' newList_K ?k1 ?k2 ?_; (case k1 => k_asm); (case k2 => k_asm)); intro D h' F' N' lD; (try k_lt lD); (try dsimp only); (try k_sweep))
    | ((fail_if_success (with_reducible show wpAny _ _ (call (Value.ref _) _) _ _ _)); (fail_if_success (with_reducible show wpAny _ _ (exec (Stmt.While _ _ _ _) _) _ _ _)); (fail_if_success (with_reducible show wpAny _ _ (exec (Stmt.For _ _ _ _ _) _) _ _ _)); (fail_if_success (with_reducible show wpAny _ _ (pyIter (Value.ref _)) _ _ _)); (fail_if_success (with_reducible show wpAny _ _ (compareOp CmpOp.NotEq (Value.ref _) (Value.ref _)) _ _ _)); (fail_if_success (with_reducible show wpAny _ _ (eval (Expr.ListComp _ _ _ _) _) _ _ _)); (fail_if_success (with_reducible show wpAny _ _ (exec (Stmt.Try _ _ _ _ _) _) _ _ _)); (first | (k_unfold; (try dsimp only)) | walk1 | (dsimp only; walk1) | (dsimp only; k_unfold; (try dsimp only)) | (leave1; walk_say "STEP leave1"; try dsimp only)))
    | fail "no step")
  refine For_invV g' rfl rfl ?_ (by intro _; rfl) (by passes_own)
  repeat' (first
    | ((with_reducible show wpAny _ _ (call (Value.ref 144) _) _ _ _); (try dsimp only [List.cons_append, List.nil_append]); (refine' use_count ?k0 ?k1 ?k2 ?k3 ?m1 ?m2 ?m3 ?k4 ?kf ?k5 ?k6 ?k7 _ ?k8 (fun h' tk' v' j' u1' u2' eb' F' N' => ?_) (fun h' tk' e' j' wd' eb' XF => ?_); (case k0 => assumption); (case k1 => assumption); (case k2 => k_asm); (case k3 => k_asm); (case m1 => k_mem); (case m2 => k_mem); (case m3 => k_mem); (case k4 => exact rfl); (case kf => exact rfl); (case k5 => exact rfl); (case k6 => assumption); (case k7 => assumption); (case k8 => exact fun _ _ => by k_upd)); (all_goals ((try dsimp only); (try k_sweep))))
    | ((fail_if_success (with_reducible show wpAny _ _ (call (Value.ref _) _) _ _ _)); (fail_if_success (with_reducible show wpAny _ _ (exec (Stmt.While _ _ _ _) _) _ _ _)); (fail_if_success (with_reducible show wpAny _ _ (exec (Stmt.For _ _ _ _ _) _) _ _ _)); (fail_if_success (with_reducible show wpAny _ _ (pyIter (Value.ref _)) _ _ _)); (fail_if_success (with_reducible show wpAny _ _ (compareOp CmpOp.NotEq (Value.ref _) (Value.ref _)) _ _ _)); (fail_if_success (with_reducible show wpAny _ _ (eval (Expr.ListComp _ _ _ _) _) _ _ _)); (fail_if_success (with_reducible show wpAny _ _ (exec (Stmt.Try _ _ _ _ _) _) _ _ _)); (first | (k_unfold; (try dsimp only)) | walk1 | (dsimp only; walk1) | (dsimp only; k_unfold; (try dsimp only)) | (leave1; walk_say "STEP leave1"; try dsimp only)))
    | fail "no step")
  · have hc := cnt_ok eb'
    obtain ⟨T, hT⟩ : ∃ T, v'.toNat = T := ⟨_, rfl⟩
    (rename Fr _ _ _ _ => F9); (rename News _ _ _ _ => N9); (rename IsRange _ _ _ _ _ _ _ _ => hr9)
    refine for_range (σ := TSt) (n := T) (fun _ => [(Str.ofString "self", .ref x), (Str.ofString "letters", .ref D)])
      (fun c => [(D, listOf c.items c.c), (x, instObj 159 dx), (dx, dictOf (rdr w.params t1 t2 c.u da (c.j : Int)) 2), (da, listOf vs.toArray n)])
      (fun i c => many true ns k = after c.done (lap true ns (T - i) c.j) ∧ StrsAre c.items.toList (c.done.map chrOf) ∧ c.done.length = i) ⟨[], j', u1', #[], 0⟩ rfl hr9 (small_one (by decide) (by decide) (by omega) (by omega)) (hT ▸ rangeSize_nat hc.1) F9 N9 (fun _ => rfl) (by repeat (first | exact List.forall_mem_nil _ | refine List.forall_mem_cons.mpr ⟨by first | k_mem | rfl, ?_⟩)) (by repeat (first | exact List.forall_mem_nil _ | refine List.forall_mem_cons.mpr ⟨by first | k_mem | rfl, ?_⟩))
      ⟨by unfold many; rw [eb', after_nil, ← hT]; rfl, .nil, rfl⟩ ?_ ?_
    · rintro i t I oI ⟨done, j, u, items, c⟩ u₀ h₁ tk₁ hi9 ⟨q1, q2, q3⟩ F1 N1 l9
      dsimp only at q1 q2 q3 F1 N1 l9
      (replace l9 := allLt_of l9); (simp only [AllLt, and_true] at l9)
      rw [show T - i = (T - (i + 1)) + 1 by omega] at q1
      have hz : items.size ≤ 1000 := by have := StrsAre.len_eq q2; rw [List.length_map, q3, Array.length_toList] at this; omega
      repeat' (first
    | ((with_reducible show wpAny _ _ (call (Value.ref 137) _) _ _ _); (try dsimp only [List.cons_append, List.nil_append]); (refine' use_number ?k0 ?k1 ?k2 ?k3 ?m1 ?m2 ?m3 ?k4 ?kf ?k5 ?k6 ?k7 _ ?k8 (fun h' tk' v' j' u1' u2' eb' F' N' => ?_) (fun h' tk' e' j' wd' eb' XF => ?_); (case k0 => assumption); (case k1 => assumption); (case k2 => k_asm); (case k3 => k_asm); (case m1 => k_mem); (case m2 => k_mem); (case m3 => k_mem); (case k4 => exact rfl); (case kf => exact rfl); (case k5 => exact rfl); (case k6 => assumption); (case k7 => assumption); (case k8 => exact fun _ _ => by k_upd)); (all_goals ((try dsimp only); (try k_sweep))))
    | ((with_reducible show wpAny _ _ (call (Value.ref 116) _) _ _ _); (try dsimp only [List.cons_append, List.nil_append]); (refine' use_fail ?k0 ?k1 ?k2 ?k3 ?m1 ?m2 ?k4 ?kf ?k5 ?_; (case k0 => assumption); (case k1 => assumption); (case k2 => k_asm); (case k3 => k_asm); (case m1 => k_mem); (case m2 => k_mem); (case k4 => exact rfl); (case kf => exact rfl); (case k5 => exact rfl)); intro h' tk' e' XF; (try dsimp only))
    | ((fail_if_success (with_reducible show wpAny _ _ (call (Value.ref _) _) _ _ _)); (fail_if_success (with_reducible show wpAny _ _ (exec (Stmt.While _ _ _ _) _) _ _ _)); (fail_if_success (with_reducible show wpAny _ _ (exec (Stmt.For _ _ _ _ _) _) _ _ _)); (fail_if_success (with_reducible show wpAny _ _ (pyIter (Value.ref _)) _ _ _)); (fail_if_success (with_reducible show wpAny _ _ (compareOp CmpOp.NotEq (Value.ref _) (Value.ref _)) _ _ _)); (fail_if_success (with_reducible show wpAny _ _ (eval (Expr.ListComp _ _ _ _) _) _ _ _)); (fail_if_success (with_reducible show wpAny _ _ (exec (Stmt.Try _ _ _ _ _) _) _ _ _)); (first | (k_unfold; (try dsimp only)) | walk1 | (dsimp only; walk1) | (dsimp only; k_unfold; (try dsimp only)) | (leave1; walk_say "STEP leave1"; try dsimp only)))
    | fail "no step")
      · refine end_next (ch := [dx]) XF H eg eL B' (by k_asm) (by k_asm) (by repeat (first | exact List.forall_mem_nil _ | refine List.forall_mem_cons.mpr ⟨by first | exact .inr (by k_mem) | exact .inl (by k_mem), ?_⟩)) (List.forall_mem_cons.mpr ⟨by k_mem, List.forall_mem_nil _⟩) (by first | exact fun _ z => .inl z | exact fun _ z => nomatch z) (fun h'' Fl => ?_) rfl
        exact bad _ _ _ _ _ (q1.trans (lap_char eb' (by omega))) Fl
      · refine end_next (ch := [dx]) XF H eg eL B' (by k_asm) (by k_asm) (by repeat (first | exact List.forall_mem_nil _ | refine List.forall_mem_cons.mpr ⟨by first | exact .inr (by k_mem) | exact .inl (by k_mem), ?_⟩)) (List.forall_mem_cons.mpr ⟨by k_mem, List.forall_mem_nil _⟩) (by first | exact fun _ z => .inl z | exact fun _ z => nomatch z) (fun h'' Fl => ?_) rfl
        exact bad _ _ _ _ _ (q1.trans (lap_char eb' (by omega))) Fl
      · (rename Fr _ _ _ _ => F9); (rename News _ _ _ _ => N9)
        exact ⟨⟨done ++ [v'], j', u1', _, _⟩, _, _, _, _, rfl, F9, N9, (by repeat (first | exact List.forall_mem_nil _ | refine List.forall_mem_cons.mpr ⟨by first | k_mem | rfl, ?_⟩)), (by repeat (first | exact List.forall_mem_nil _ | refine List.forall_mem_cons.mpr ⟨by first | k_mem | rfl, ?_⟩)), q1.trans (lap_ok eb' fun _ => by omega), by rw [List.map_append]; exact strs_push q2, by rw [List.length_append, q3]; rfl⟩
      · refine end_next (ch := [dx]) XF H eg eL B' (by k_asm) (by k_asm) (by repeat (first | exact List.forall_mem_nil _ | refine List.forall_mem_cons.mpr ⟨by first | exact .inr (by k_mem) | exact .inl (by k_mem), ?_⟩)) (List.forall_mem_cons.mpr ⟨by k_mem, List.forall_mem_nil _⟩) (by first | exact fun _ z => .inl z | exact fun _ z => nomatch z) (fun h'' Fl => ?_) rfl
        exact bad _ _ _ _ _ (q1.trans (lap_bad eb')) Fl
    · rintro ⟨done, j, u, items, c⟩ u₀ h₁ tk₁ ⟨q1, q2, q3⟩ F1 N1
      dsimp only at q1 q2 q3 F1 N1
      rw [Nat.sub_self] at q1
      repeat' (first
    | ((fail_if_success (with_reducible show wpAny _ _ (call (Value.ref _) _) _ _ _)); (fail_if_success (with_reducible show wpAny _ _ (exec (Stmt.While _ _ _ _) _) _ _ _)); (fail_if_success (with_reducible show wpAny _ _ (exec (Stmt.For _ _ _ _ _) _) _ _ _)); (fail_if_success (with_reducible show wpAny _ _ (pyIter (Value.ref _)) _ _ _)); (fail_if_success (with_reducible show wpAny _ _ (compareOp CmpOp.NotEq (Value.ref _) (Value.ref _)) _ _ _)); (fail_if_success (with_reducible show wpAny _ _ (eval (Expr.ListComp _ _ _ _) _) _ _ _)); (fail_if_success (with_reducible show wpAny _ _ (exec (Stmt.Try _ _ _ _ _) _) _ _ _)); (first | (k_unfold; (try dsimp only)) | walk1 | (dsimp only; walk1) | (dsimp only; k_unfold; (try dsimp only)) | (leave1; walk_say "STEP leave1"; try dsimp only)))
    | fail "no step")
      refine join_listW (items := items) ⟨_, (N1 _ (.head _)).1, rfl, _, rfl⟩ q2 (by decide) (by rw [chr_lens, List.length_map, q3]; omega) ?_
      intro t' k'
      k_unfold
      exact ok _ _ done j _ _ (q1.trans (by show RdL.ok (done ++ []) j = _; rw [List.append_nil])) (fun b o q z => kept_end (ch := [dx]) H eg F1 N1 (by repeat (first | exact List.forall_mem_nil _ | refine List.forall_mem_cons.mpr ⟨by first | exact .inr (by k_mem) | exact .inl (by k_mem), ?_⟩)) b o q (by simpa using z)) (N1 _ (.tail _ (.tail _ (.head _)))).1
  · refine end_next (ch := [dx]) XF H eg eL B' (by k_asm) (by k_asm) (by repeat (first | exact List.forall_mem_nil _ | refine List.forall_mem_cons.mpr ⟨by first | exact .inr (by k_mem) | exact .inl (by k_mem), ?_⟩)) (List.forall_mem_cons.mpr ⟨by k_mem, List.forall_mem_nil _⟩) (by first | exact fun _ z => .inl z | exact fun _ z => nomatch z) (fun h'' Fl => ?_) rfl
    exact bad _ _ _ _ _ (by unfold many; rw [eb']) Fl
end
end Mine

namespace Mine
open LCg

/-! ### a comprehension by its state; its element may raise our exception -/
def EltEnd {σ : Type} (g : Heap) (L : Addr) (m : Str → Option Value) (s : Shared) (led : σ → List (Addr × Obj)) (keep : List (Addr × Obj)) (P : Value → σ → Prop) (y : Value) (s₄ : Shared) : Prop :=
  ∃ c' h' tk news', s₄ = { s with heap := h', toks := tk } ∧ Fr g L h' m ∧ News g L h' news' ∧ (∀ q ∈ keep ++ led c', q ∈ news') ∧ P y c'
def EltBad (P : Params) (A : Around) (env : Env) (s : Shared) (E : Value → Shared → Prop) (C : Addr) (oC : Obj) (x : Value) (s₄ : Shared) : Prop :=
  ∃ e base G ch l wd i h' tk, x = .ref e ∧ s₄ = { s with heap := h', toks := tk } ∧ A.frames = some (env :: l) ∧ Flown P base G ch (env :: l) e wd i h' ∧ base.get? C = none ∧ G.get? C = some oC ∧ C ∉ ch ∧ C ∉ fr (env :: l) ∧
    ∀ h'', Flown P base G (C :: ch) (env :: l) e wd i h'' → E (.ref e) { s with heap := h'', toks := tk }

def CompAt (prog : Program) (w : World) (A : Around) (g : Heap) (L : Addr) (env : Env) (elt : Expr) (x : Str) (scope : Scope) (cl : List (Str × Addr)) (Q E : Value → Shared → Prop) (it : Value) (s : Shared) : Prop :=
  ∃ (I : Addr) (fp : List Addr) (n : Nat) (Pv : Nat → Value → Prop) (St : Nat → Heap → Prop) (σ : Type) (led : σ → List (Addr × Obj)) (P : Nat → List Value → σ → Prop) (c₀ : σ) (m : Str → Option Value) (news₀ : List (Addr × Obj)),
    it = .ref I ∧ Walks prog w A I fp [I] n Pv St ∧ St 0 s.heap ∧ (∀ i h, St i h → ∃ o, h.get? I = some o) ∧ (∀ b ∈ fp, b < s.heap.objs.size) ∧
    (∀ i h h' o c, St i h → h.get? I = some o → h'.get? I = some o → (∀ b o, g.get? b = some o → h'.get? b = some o) → (∀ q ∈ led c, h'.get? q.1 = some q.2) → St i h') ∧
    n ≤ sizeLine ∧ Fr g L s.heap m ∧ News g L s.heap news₀ ∧ (∀ q ∈ led c₀, q ∈ news₀) ∧ L ≠ I ∧ g.get? I = none ∧ (∀ c, (led c).map (·.1) = (led c₀).map (·.1)) ∧ (∀ q ∈ led c₀, @LT.lt Nat _ q.1 I) ∧ P 0 [] c₀ ∧
    (∀ i v ys c oI C D oC m₂ h tk, i < n → Pv i v → ys.length = i → P i ys c → NsObj oC m₂ → m₂ x = some v → Fr g L h m → News g L h ((I, oI) :: (C, oC) :: (D, lst ys) :: led c) → (∀ q ∈ led c, @LT.lt Nat _ q.1 I) → @LT.lt Nat _ I D → @LT.lt Nat _ D C →
      wpAny (model prog w) A (eval elt (compEnvC scope cl C env)) (EltEnd g L m { s with heap := h, toks := tk } led [(I, oI), (C, oC), (D, lst ys)] fun y c' => P (i + 1) (ys ++ [y]) c') (EltBad w.params A env { s with heap := h, toks := tk } E C oC) { s with heap := h, toks := tk }) ∧
    ∀ ys c D h tk, P n ys c → Fr g L h m → News g L h ((D, lst ys) :: led c) → (∀ q ∈ led c, @LT.lt Nat _ q.1 D) → Q (.ref D) { s with heap := h, toks := tk }

section
variable {prog : Program} {w : World} {A : Around} {E : Value → Shared → Prop} {s : Shared} {env : Env} {g : Heap} {L : Addr}

theorem comp_bad {C : Addr} {oC : Obj} {cenv : Env} {m₂ : Str → Option Value} {acc x : Value} {s₀ s₄ : Shared} {Q : Value → Shared → Prop} (X : EltBad w.params A env s₀ E C oC x s₄) (hf : env.frame = some L) (hcf : cenv.frame = env.frame) (hoC : NsObj oC m₂) :
    notedBy (model prog w) A cenv (fun e s' => compPost (model prog w) A E none Q acc C (.error e) s') x s₄ := by
  obtain ⟨e, base, G, ch, l, wd, i, h', tk, rfl, rfl, hA, X, hbC, hGC, hch, hfr, k⟩ := X
  obtain ⟨⟨B, d, t1, t2, t3, t4, x1, x2, x3, x4, fl, x5⟩, x6⟩ := X
  have hBC : B.get? C = some oC := x2 C oC hGC hfr hch
  unfold notedBy
  have hne : noteFrame (.ref e) cenv = noteFrame (.ref e) env := by
    unfold noteFrame PySem.frameOf
    rw [hcf]
  rw [hne]
  refine fly_note hA hf x5 fun h₁ y₁ z₁ => ?_
  have hC₁ : h₁.get? C = some oC := y₁.stays _ _ hBC
  refine ⟨m₂, hoC.ns hC₁, fun h₂ hs cenv' hc' => ?_⟩
  have hdC : d ≠ C := by rintro rfl; rw [x3] at hGC; cases hGC
  have st : (B.hide C).StaysIn h₂ := fun b o q => by
    have hb : b ≠ C := by rintro rfl; rw [Heap.hide_self] at q; cases q
    exact (hs.2 b hb).trans (y₁.stays b o (Heap.of_hide q))
  have sl : ∀ b o, h₁.get? b = some o → b ∈ fr (env :: l) → h₂.get? b = some o := fun b o q hb => (hs.2 b fun z => hfr (z ▸ hb)).trans q
  refine fly_pass (B := B.hide C) (l := env :: l) (d := d) (fl := rawInt L) (s := { s₀ with heap := h₂, toks := tk }) ⟨st, ?_, ?_, ?_⟩ fun h₃ fl' y₃ z₃ => k h₃ ⟨⟨B.hide C, d, t1, t2, t3, t4, fun b o q => ?_, fun b o q n1 n2 => ?_, x3, ?_, fl', y₃⟩, fun b o q hb => ?_⟩
  · cases q : (B.hide C).get? e with
    | none => rfl
    | some o => have := Heap.of_hide q; rw [y₁.new] at this; cases this
  · refine frames_new (frames_stay y₁.frames fun b hb o q => ⟨o, sl b o q hb, rfl⟩) fun b hb => ?_
    cases q : (B.hide C).get? b with
    | none => rfl
    | some o => have := Heap.of_hide q; rw [(y₁.frames.mem hb).1] at this; cases this
  · obtain ⟨oe, vs, T, oT, ts, he, hc, hdd, hd, h1, hnT, hTe, hT, hdT, h3⟩ := y₁.traced
    have nC : ∀ b o, h₁.get? b = some o → (∃ ws, o.data = .fields ws) → b ≠ C := fun b o q ⟨ws, hw⟩ z => by
      rw [z, hC₁] at q; cases q
      obtain ⟨_, _, hdt, _⟩ := hoC
      rw [hdt] at hw; cases hw
    refine ⟨oe, vs, T, oT, ts, (hs.2 _ (nC e oe he ⟨_, hd⟩)).trans he, hc, hdd, hd, h1, ?_, hTe, (hs.2 _ (nC T oT hT ⟨_, hdT⟩)).trans hT, hdT, h3⟩
    cases q : (B.hide C).get? T with
    | none => rfl
    | some o => have := Heap.of_hide q; rw [hnT] at this; cases this
  · refine (Heap.hide_ne B fun z => ?_).trans (x1 b o q)
    rw [z, hbC] at q; cases q
  · exact (Heap.hide_ne B fun (z : b = C) => n2 (by rw [z]; exact .head _)).trans (x2 b o q n1 fun z => n2 (.tail _ z))
  · exact (Heap.hide_ne B hdC).trans x4
  · obtain ⟨s1, q1⟩ := x6 b o q hb
    obtain ⟨_, o', ho', hn'⟩ := x5.frames.mem hb
    rw [q1] at ho'; cases ho'
    obtain ⟨s2, q2⟩ := z₁ b _ q1 hn'
    obtain ⟨s3, q3⟩ := z₃ b _ (sl b _ q2 hb) hn'
    exact ⟨s3, q3⟩

theorem comp_rule {elt iter : Expr} {x : Str} {px : Pos} {scope : Scope} {cl : List (Str × Addr)} {pos : Pos} {Q : Value → Shared → Prop} (hf : env.frame = some L)
    (hclos : closureFor scope env = pure cl) (hcell : ∀ y ∈ scope.names, y.2 ≠ .cell) (hkind : scope.kind = .function)
    (hnames : ∀ y ∈ scope.names, y.2 = .local → scope.names.lookup y.1 = some .local) (hx : scope.names.lookup x = some .local)
    (h : wpAny (model prog w) A (eval iter env) (fun xv s₁ => wpAny (model prog w) A (pyIter xv) (fun it s₂ => CompAt prog w A g L env elt x scope cl Q E it s₂) E s₁) E s)
    (hs : ∀ x, foldedSetIterable iter env x = pure x := by intro _; rfl) :
    wpAny (model prog w) A (eval (.ListComp elt [⟨.Name x px, iter, [], 0⟩] scope pos) env) Q E s := by
  rw [eval_ListComp]
  refine wpAny_comprehension_free (use := none) rfl hs hclos hkind hnames (wpAny_mono h (fun xv s₁ h₁ => wpAny_mono h₁ (fun it s₂ h₂ => ?_) fun _ _ e => e) fun _ _ e => e)
  obtain ⟨I, fp, n, Pv, St, σ, led, P, c₀, m, news₀, rfl, W, hst, hso, hfp, hSt, hsz, F, N, hn, hIL, hI, hadr, hlt, hp, turn, done⟩ := h₂
  refine wpAny_newObj_type (wpAny_newFunctionEnv hcell (by intro y hy; simp at hy) (fun h₁ hns₁ hsb₁ => ?_) hkind)
  dsimp only at hns₁ hsb₁ ⊢
  generalize hH2 : s₂.heap.push { cls := .type "list", dict := none, data := .seq ([] : List Value).toArray } = H2 at hns₁ hsb₁ ⊢
  have hC : H2.objs.size = s₂.heap.objs.size + 1 := by rw [← hH2, Heap.size_push]
  obtain ⟨D, hD⟩ : ∃ D, D = s₂.heap.objs.size := ⟨_, rfl⟩
  obtain ⟨C, hCe⟩ : ∃ C, C = H2.objs.size := ⟨_, rfl⟩
  rw [← hCe] at hns₁ hsb₁ hC ⊢
  rw [← hD] at hC ⊢
  have hIf : I ∈ fp := W.sub I (List.mem_singleton.mpr rfl)
  have hIlt : @LT.lt Nat _ I D := hD ▸ hfp I hIf
  have hDC : @LT.lt Nat _ D C := by rw [hC]; exact Nat.lt_succ_self _
  have hltc : ∀ c, ∀ q ∈ led c, @LT.lt Nat _ q.1 I := fun c q hq => by
    have z : q.1 ∈ (led c₀).map (·.1) := by rw [← hadr c]; exact List.mem_map_of_mem hq
    obtain ⟨q', hq', e⟩ := List.mem_map.mp z
    rw [← e]; exact hlt q' hq'
  have neI : ∀ c, ∀ q ∈ led c, @Ne Nat q.1 I := fun c q hq => Nat.ne_of_lt (hltc c q hq)
  have neD : ∀ c, ∀ q ∈ led c, @Ne Nat q.1 D := fun c q hq => Nat.ne_of_lt (Nat.lt_trans (hltc c q hq) hIlt)
  have neC : ∀ c, ∀ q ∈ led c, @Ne Nat q.1 C := fun c q hq => Nat.ne_of_lt (Nat.lt_trans (Nat.lt_trans (hltc c q hq) hIlt) hDC)
  have hIC : @Ne Nat I C := Nat.ne_of_lt (Nat.lt_trans hIlt hDC)
  have hID : @Ne Nat I D := Nat.ne_of_lt hIlt
  have hLD : @LT.lt Nat _ L D := hD ▸ F.ns.lt
  have hLC : @LT.lt Nat _ L C := Nat.lt_trans hLD hDC
  have old : ∀ b o, s₂.heap.get? b = some o → h₁.get? b = some o := fun b o e => hsb₁.extBut b o (Nat.ne_of_lt (Nat.lt_trans (hD ▸ Heap.lt_size e) hDC)) (Heap.get?_push_of_some _ (hH2 ▸ Heap.get?_push_of_some _ e))
  have hacc : h₁.get? D = some (lst []) := hsb₁.extBut _ _ (Nat.ne_of_lt hDC) (Heap.get?_push_of_some _ (hH2 ▸ hD ▸ Heap.get?_push_size _ rfl))
  have g₀ : ∀ a, D ≤ a → g.get? a = none := fun a ha => by
    cases e : g.get? a with
    | none => rfl
    | some o' => exact absurd (Heap.lt_size (F.keep a o' e)) (Nat.not_lt.mpr (hD ▸ ha))
  have hD₀ := g₀ D (Nat.le_refl _)
  have hC₀ := g₀ C (Nat.le_of_lt hDC)
  have hDf : D ∉ fp := fun hm => Nat.lt_irrefl _ (hD ▸ hfp _ hm)
  have hCf : C ∉ fp := fun hm => by have q := hfp _ hm; rw [← hD] at q; exact Nat.lt_irrefl _ (Nat.lt_trans q hDC)
  have news_ne : ∀ {h h' : Heap} {b : Addr} {c : σ}, News g L h (led c) → (∀ q ∈ led c, q.1 ≠ b) → (∀ a o, a ≠ b → h.get? a = some o → h'.get? a = some o) → News g L h' (led c) := fun N' hb k q hq => ⟨k _ _ (hb q hq) (N' q hq).1, (N' q hq).2⟩
  have loop : ∀ s₃ : Shared, s₃ = { s₂ with heap := h₁, toks := s₂.toks + ([] : List (Str × Value)).length } →
      codeAny (model prog w) A (.compLoop (.ListComp elt [⟨.Name x px, iter, [], 0⟩] scope pos) 0 (.ref I) (.ref D) (compEnvC scope cl C env))
        (compPost (model prog w) A E none Q (.ref D) C) s₃ := by
    rintro s₃ rfl
    refine codeAny_compLoop_tests
      (fun k s' => ∃ h' tk i ys m' c, s' = { s₂ with heap := h', toks := tk } ∧ i ≤ n ∧ k = n + 1 - i ∧ ys.length = i ∧ St i h' ∧ Fr g L h' m ∧ h'.Ns C m' ∧ h'.get? D = some (lst ys) ∧ News g L h' (led c) ∧ P i ys c) ?_ (n + 1)
      ⟨h₁, _, 0, [], _, c₀, rfl, Nat.zero_le _, rfl, rfl, W.frame _ _ _ hst fun b _ o e => old b o e, F.keeps old, hns₁, hacc, fun q hq => ⟨old _ _ (N q (hn q hq)).1, (N q (hn q hq)).2⟩, hp⟩
    rintro k s' ⟨h', tk, i, ys, m', c, rfl, hi, rfl, hyl, hst', F', hn', gD, N', hp'⟩
    have next : ∀ h₂ : Heap, (∀ b o, b ∉ [I] → h'.get? b = some o → h₂.get? b = some o) → Fr g L h₂ m ∧ News g L h₂ (led c) ∧ h₂.Ns C m' ∧ h₂.get? D = some (lst ys) := fun h₂ hk₂ =>
      ⟨fr_but F' hk₂ hIL hI, news_ne N' (neI c) fun a o ha e => hk₂ a o (by simpa using ha) e, hn'.at' fun o e => hk₂ _ o (by simpa using Ne.symm hIC) e, hk₂ _ _ (by simpa using Ne.symm hID) gD⟩
    by_cases hin : i < n
    · refine W.item i _ _ _ hin hst' fun v h₂ tk₂ hPv hst₂ hk₂ => ?_
      obtain ⟨F₂, N₂, hn₂, gD₂⟩ := next h₂ hk₂
      refine wpAny_assign_Name (wpAny_storeName_local (lookup_relabel_local hx) hn₂ (fun h₃ hn₃ hs₃ => ?_) (by simp [compEnvC, relabel, hkind]))
      refine wpAny_tests_nil ?_
      simp only [if_true]
      have hst₃ : St (i + 1) h₃ := W.frame _ _ _ hst₂ fun b hb o e => hs₃.extBut b o (fun q => hCf (by have q' : b = C := q; rw [← q']; exact hb)) e
      obtain ⟨oI, heI⟩ := hso _ _ hst₃
      obtain ⟨oC, heC, hoC⟩ := ns_obj hn₃
      have F₃ : Fr g L h₃ m := F₂.change hs₃ (Ne.symm (Nat.ne_of_lt hLC)) hC₀
      have N₃ : News g L h₃ (led c) := news_ne N₂ (neC c) fun a o ha e => hs₃.extBut a o ha e
      have gD₃ : h₃.get? D = some (lst ys) := hs₃.extBut _ _ (Nat.ne_of_lt hDC) gD₂
      have NN : News g L h₃ ((I, oI) :: (C, oC) :: (D, lst ys) :: led c) := fun q hq => by
        rcases List.mem_cons.mp hq with rfl | hq
        · exact ⟨heI, Ne.symm hIL, hI⟩
        · rcases List.mem_cons.mp hq with rfl | hq
          · exact ⟨heC, Ne.symm (Nat.ne_of_lt hLC), hC₀⟩
          · rcases List.mem_cons.mp hq with rfl | hq
            · exact ⟨gD₃, Ne.symm (Nat.ne_of_lt hLD), hD₀⟩
            · exact N₃ q hq
      refine wpAny_mono (turn i v ys c oI C D oC _ h₃ _ hin hPv hyl hp' hoC (by simp) F₃ NN (hltc c) hIlt hDC) (fun y s₄ h₄ => ?_) fun x s₄ h₄ => comp_bad h₄ hf rfl hoC
      obtain ⟨c', h₄, tk₄, news₄, rfl, F₄, N₄, k₄, p₄⟩ := h₄
      have zI := (N₄ _ (k₄ (I, oI) (.head _))).1
      have zC := (N₄ _ (k₄ (C, oC) (.tail _ (.head _)))).1
      have zD := (N₄ _ (k₄ (D, lst ys) (.tail _ (.tail _ (.head _))))).1
      have N₄' : News g L h₄ (led c') := fun q hq => N₄ q (k₄ q (List.mem_append_right _ hq))
      have hst₄ : St (i + 1) h₄ := hSt _ _ _ oI c' hst₃ heI zI F₄.keep fun q hq => (N₄' q hq).1
      refine append_at (hsz := by show ys.toArray.size ≤ sizeLine; rw [List.size_toArray, hyl]; exact Nat.le_trans hi hsz) zD fun h₅ hs₅ hD₅ => ?_
      exact ⟨n + 1 - (i + 1), by omega, h₅, tk₄, i + 1, ys ++ [y], _, c', rfl, hin, rfl, by rw [List.length_append, List.length_singleton, hyl], W.frame _ _ _ hst₄ fun b hb o e => hs₅.extBut b o (fun q => hDf (q ▸ hb)) e,
        F₄.change hs₅ (Ne.symm (Nat.ne_of_lt hLD)) hD₀, (hoC.ns zC).sameBut hs₅ (Ne.symm (Nat.ne_of_lt hDC)), hD₅.trans (congrArg some (lst_snoc ys y)), news_ne N₄' (neD c') fun a o ha e => hs₅.extBut a o ha e, p₄⟩
    · obtain rfl : i = n := Nat.le_antisymm hi (Nat.not_lt.mp hin)
      refine W.done _ _ _ hst' fun h₂ tk₂ hk₂ => ?_
      obtain ⟨F₂, N₂, hn₂, gD₂⟩ := next h₂ hk₂
      refine ⟨m', hn₂, fun h₃ hs₃ => done ys c D h₃ tk₂ hp' (F₂.change hs₃ (Ne.symm (Nat.ne_of_lt hLC)) hC₀) (fun q hq => ?_) fun q hq => Nat.lt_trans (hltc c q hq) hIlt⟩
      rcases List.mem_cons.mp hq with rfl | hq
      · exact ⟨hs₃.extBut _ _ (Nat.ne_of_lt hDC) gD₂, Ne.symm (Nat.ne_of_lt hLD), hD₀⟩
      · exact news_ne N₂ (neC c) (fun a o ha e => hs₃.extBut a o ha e) q hq
  exact codeAny_compStart_list (loop _ rfl) (W.self 0 _ _ _ (W.frame _ _ _ hst fun b _ o e => old b o e) (loop _ rfl))
end
end Mine

namespace Mine

open LCg
theorem fill13 : Challenge.rw_pb0317_01.prog = Challenge.rw_pb0317_01.prog ∧ hd.heap_39 = hd.heap_39 := by
  k_fill
  exact ⟨rfl, rfl⟩

structure CSt where
  done : List Int
  j : Nat
  u : Tok

section
variable {prog : Program} {w : World} {A : Around} {E : Value → Shared → Prop} {s : Shared} {env : Env} {g : Heap} {L : Addr}
theorem comp_range {σ : Type} {elt : Expr} {x : Str} {scope : Scope} {cl : List (Str × Addr)} {Q : Value → Shared → Prop} {r : Addr} {b₀ : Int} {t₀ u₀ v₀ : Tok} {n : Nat} {m : Str → Option Value} {news₀ : List (Addr × Obj)}
    (led : σ → List (Addr × Obj)) (P : Nat → List Value → σ → Prop) (c₀ : σ)
    (hh : A.handled = none) (hr : IsRange s.heap r 0 b₀ 1 t₀ u₀ v₀) (hsmall : Builtin.Range.small 0 b₀ 1 = true) (hsz : Builtin.Range.rangeSize 0 b₀ 1 = (n : Int)) (hle : n ≤ sizeLine)
    (F : Fr g L s.heap m) (N : News g L s.heap news₀) (hadr : ∀ c, (led c).map (·.1) = (led c₀).map (·.1)) (hn : ∀ q ∈ led c₀, q ∈ news₀) (hp : P 0 [] c₀)
    (turn : ∀ i t ys c I oI C oC D m₂ h tk, i < n → ys.length = i → P i ys c → NsObj oC m₂ → m₂ x = some (.int (i : Int) t) → Fr g L h m → News g L h ((I, oI) :: (C, oC) :: (D, lst ys) :: led c) → (∀ q ∈ led c, @LT.lt Nat _ q.1 I) → @LT.lt Nat _ I D → @LT.lt Nat _ D C →
      wpAny (model prog w) A (eval elt (compEnvC scope cl C env)) (EltEnd g L m { s with heap := h, toks := tk } led [(I, oI), (C, oC), (D, lst ys)] fun y c' => P (i + 1) (ys ++ [y]) c') (EltBad w.params A env { s with heap := h, toks := tk } E C oC) { s with heap := h, toks := tk })
    (done : ∀ ys c D h tk, P n ys c → Fr g L h m → News g L h ((D, lst ys) :: led c) → (∀ q ∈ led c, @LT.lt Nat _ q.1 D) → Q (.ref D) { s with heap := h, toks := tk }) :
    wpAny (model prog w) A (pyIter (.ref r)) (fun it s₂ => CompAt prog w A g L env elt x scope cl Q E it s₂) E s := by
  refine wpAny_pyIter_range hr hsmall ?_
  refine ⟨s.heap.objs.size, [s.heap.objs.size], n, _, _, σ, led, P, c₀, m, news₀, rfl, range_walks hh 0 n,
    (by show IsRangeIter _ _ _ _ _; rw [hsz]; simpa using Heap.get?_push_size _ rfl), fun i h q => ⟨_, q⟩, fun b hb => ?_, fun i h h' o c q e q' _ _ => ((q' : h'.get? _ = _).trans (e.symm.trans q)), hle, F.push _, fun q hq => ⟨Heap.get?_push_of_some _ (N q hq).1, (N q hq).2⟩, hn, Nat.ne_of_lt F.ns.lt, next_is_new F, hadr,
    fun q hq => Heap.lt_size (N q (hn q hq)).1, hp, ?_, done⟩
  · rw [List.mem_singleton.mp hb]
    show s.heap.objs.size < (s.heap.push _).objs.size
    rw [Heap.size_push]; exact Nat.lt_succ_self _
  · rintro i v ys c oI C D oC m₂ h tk hi ⟨t, rfl⟩ hy hp' hoC hx F' N' l1 l2 l3
    exact turn i t ys c _ oI C oC D m₂ h tk hi hy hp' hoC (by rw [hx]; simp) F' N' l1 l2 l3

theorem comp_str {σ : Type} {elt : Expr} {x : Str} {scope : Scope} {cl : List (Str × Addr)} {Q : Value → Shared → Prop} {tx : Str} {t : Tok} {m : Str → Option Value} {news₀ : List (Addr × Obj)}
    (led : σ → List (Addr × Obj)) (P : Nat → List Value → σ → Prop) (c₀ : σ)
    (hh : A.handled = none) (hle : tx.length ≤ sizeLine)
    (F : Fr g L s.heap m) (N : News g L s.heap news₀) (hadr : ∀ c, (led c).map (·.1) = (led c₀).map (·.1)) (hn : ∀ q ∈ led c₀, q ∈ news₀) (hp : P 0 [] c₀)
    (turn : ∀ i t ys c I oI C oC D m₂ h tk ch, tx.cps[i]? = some ch → ys.length = i → P i ys c → NsObj oC m₂ → m₂ x = some (.str ⟨#[ch]⟩ t) → Fr g L h m → News g L h ((I, oI) :: (C, oC) :: (D, lst ys) :: led c) → (∀ q ∈ led c, @LT.lt Nat _ q.1 I) → @LT.lt Nat _ I D → @LT.lt Nat _ D C →
      wpAny (model prog w) A (eval elt (compEnvC scope cl C env)) (EltEnd g L m { s with heap := h, toks := tk } led [(I, oI), (C, oC), (D, lst ys)] fun y c' => P (i + 1) (ys ++ [y]) c') (EltBad w.params A env { s with heap := h, toks := tk } E C oC) { s with heap := h, toks := tk })
    (done : ∀ ys c D h tk, P tx.length ys c → Fr g L h m → News g L h ((D, lst ys) :: led c) → (∀ q ∈ led c, @LT.lt Nat _ q.1 D) → Q (.ref D) { s with heap := h, toks := tk }) :
    wpAny (model prog w) A (pyIter (.str tx t)) (fun it s₂ => CompAt prog w A g L env elt x scope cl Q E it s₂) E s := by
  have go : ∀ (T : String) (o : Obj), Walks prog w A s.heap.objs.size [s.heap.objs.size] [s.heap.objs.size] tx.cps.size (SignAt tx) (fun i h => h.IsStrIter s.heap.objs.size T tx t i) →
      (s.heap.push o).IsStrIter s.heap.objs.size T tx t 0 → CompAt prog w A g L env elt x scope cl Q E (.ref s.heap.objs.size) { s with heap := s.heap.push o } := by
    intro T o W hst
    refine ⟨s.heap.objs.size, [s.heap.objs.size], tx.cps.size, _, _, σ, led, P, c₀, m, news₀, rfl, W,
      hst, fun i h q => ⟨_, q.choose_spec.1⟩, fun b hb => ?_, fun i h h' o c q e q' _ _ => ?_, hle, F.push _, fun q hq => ⟨Heap.get?_push_of_some _ (N q hq).1, (N q hq).2⟩, hn, Nat.ne_of_lt F.ns.lt, next_is_new F, hadr,
      fun q hq => Heap.lt_size (N q (hn q hq)).1, hp, ?_, fun ys c D h tk hP => done ys c D h tk hP⟩
    · rw [List.mem_singleton.mp hb]
      show s.heap.objs.size < (s.heap.push _).objs.size
      rw [Heap.size_push]; exact Nat.lt_succ_self _
    · obtain ⟨o', h1, h2⟩ := q
      rw [e] at h1; cases h1
      exact ⟨o, q', h2⟩
    · rintro i v ys c oI C D oC m₂ h tk hi ⟨ch, u, he, rfl⟩ hy hp' hoC hx F' N' l1 l2 l3
      exact turn i u ys c _ oI C oC D m₂ h tk ch he hy hp' hoC hx F' N' l1 l2 l3
  cases ha : tx.cps.all (· < 128)
  · exact wpAny_pyIter_wide ha (go "str_iterator" _ (Walks.strWide hh _ tx t) ⟨_, Heap.get?_push_size _ rfl, rfl, rfl⟩)
  · exact wpAny_pyIter_ascii ha (go "str_ascii_iterator" _ (Walks.strAscii hh _ tx t) ⟨_, Heap.get?_push_size _ rfl, rfl, rfl⟩)
end

section
variable {K : Frag} {p : Program} {loose : List Str} {mean : ExcName → Option Value} {mg mb : Str → Option Value} {base : Heap} {l : List Env} {news : List (Addr × Obj)} {A : Around}
variable {prog : Program} {w : World} {s : Shared} {R : Result → Shared → Prop} {name qual : Str} {params : Arguments} {body : List Stmt} {scope : Scope} {dV kV doc pm cdv ct oc : Value} {an od : Option Addr} {osl : Array (Option Value)} {f : Addr} {args : Args} {binds : List (Str × Value)}

/-- the entry of a def some of whose names are cells -/
theorem enterC (H : At K p loose mean mg mb base s.heap l news) (hA : A.frames = some l)
    (ho : K.lookup f = some ⟨oc, od, .func (fnOf name qual params body scope dV kV doc pm an cdv ct), osl⟩) (hcd : codeIn K cdv qual = true) (hroom : A.depth < recursionLimit)
    (hbind : BindsTo s (fnOf name qual params body scope dV kV doc pm an cdv ct) args binds) (hkind : (binds.all fun y => scope.names.lookup y.1 == some .local || scope.names.lookup y.1 == some .cell) = true)
    (hnd : ((cellsFrom 0 scope.names []).map (·.1)).Nodup)
    (h : ∀ g L' h₁ tk cells, g = hideAll s.heap (news.map (·.1)) → L' = s.heap.objs.size → Fr g L' h₁ (bindL (envOfC qual scope L' f cdv).kindOf binds fun _ => none) → News g L' h₁ (cells ++ news) →
      CellsAre (bindC (envOfC qual scope L' f cdv).kindOf binds fun _ => none) (cellsFrom (L' + 1) scope.names []) cells → Below A base l g → K.In g → Top p loose mean mg mb g → (∀ q ∈ news, q.1 < L') →
      wpAny (model prog w) (A.deeper (envOfC qual scope L' f cdv)) (execs body (envOfC qual scope L' f cdv))
        (fun fl s' => R (.ok (.ret (match fl with | .ret v => v | _ => .none))) s')
        (fun e s' => wpAny (model prog w) (A.deeper (envOfC qual scope L' f cdv)) (leaving (envOfC qual scope L' f cdv) e) (fun _ s'' => R (.error e) s'') (fun e' s'' => R (.error e') s'') s')
        { s with heap := h₁, toks := tk })
    (hco : scope.isCoroutine = false) (hgen : scope.isGenerator = false) (hk : scope.kind = .function) : codeAny (model prog w) A (.call (.ref f) args) R s := by
  have X := H.X.keeps H.stays
  have T := H.T.keeps H.stays
  refine codeAny_call_function hroom (X _ _ ho) rfl hco hgen rfl (codeRec_of X hcd) (hbind _ _ _ _ ?_)
  refine wpAny_newFunctionEnv_cells hk (kindsX hkind _) fun env' he s' x => ?_
  subst he
  refine ⟨T.nolimit.keeps x.toInCall.keep, codeAny_func ?_⟩
  obtain ⟨h₁, tk, rfl, _⟩ := x.done
  have hk₁ := x.toInCall.keep
  obtain ⟨cells, NC, Y⟩ := Cl.news (h₀ := s.heap) (Nat.le_refl _) fun n c hm => ⟨x.cell n c (lookup_of_mem_nodup (cellsFrom_names scope.names 0 (s.heap.objs.size + 1) [] [] rfl ▸ hnd) hm), x.above n c hm⟩
  have st : base.StaysIn (hideAll s.heap (news.map (·.1))) := fun b o e => hideAll_get _ (H.stays b o e) fun q => by
    obtain ⟨y, hy, rfl⟩ := List.mem_map.mp q
    rw [(H.news y hy).2.1] at e; cases e
  refine h _ s.heap.objs.size h₁ tk cells rfl rfl ⟨x.toInCall.ns, fun b o e => hk₁ b o (of_hideAll _ e), Nat.le_of_eq (hideAll_size _ _)⟩ (fun p hp => ?_) Y
    ⟨hA, st, funFrames_hideAll H.frames fun env he b hb hf => ?_⟩ (H.X.keeps st) (H.T.keeps st) (fun p hp => Heap.lt_size (H.news p hp).1)
  · rcases List.mem_append.mp hp with hp | hp
    · refine ⟨(NC p hp).1, (NC p hp).2.1, ?_⟩
      cases q : (hideAll s.heap (news.map (·.1))).get? p.1 with
      | none => rfl
      | some o => have := of_hideAll _ q; rw [(NC p hp).2.2] at this; cases this
    · exact ⟨hk₁ _ _ (H.news p hp).1, Nat.ne_of_lt (Heap.lt_size (H.news p hp).1), hideAll_none _ (List.mem_map_of_mem hp)⟩
  · obtain ⟨y, hy, rfl⟩ := List.mem_map.mp hb
    exact (H.news y hy).2.2 (List.mem_filterMap.mpr ⟨env, he, hf⟩)
end

section
variable {K : Frag} {p : Program} {loose : List Str} {mean : ExcName → Option Value} {mg mb : Str → Option Value} {base g h' : Heap} {l outer : List Env} {told news news' : List (Addr × Obj)} {L a : Addr} {m : Str → Option Value} {ch : List Addr}
variable {prog : Program} {w : World} {s : Shared} {R : Result → Shared → Prop} {x dx da : Addr} {t1 t2 t3 : Tok} {k n : Nat} {i : Int} {vs : List Value} {ns : List Int}
variable {k₀ : Nat} {s₀ : Heap} {l₀ : List Env} {told₀ : List (Addr × Obj)} {A₀ : Around} {E Q : Value → Shared → Prop} {env : Env}

theorem c_numbers (H : At (hd.heap_39 w.params) p loose mean mg mb base s.heap l [(x, instObj 159 dx), (dx, dictOf (rdr w.params t1 t2 t3 da (k : Int)) 2), (da, listOf vs.toArray n)])
   (hi : IntsAre vs ns) (hlen : ns.length ≤ 1000)
   (ok : ∀ h' tk cs j u1 D ws nD, many false ns k = .ok cs j → (∀ b o, s.heap.get? b = some o → b ≠ dx → h'.get? b = some o) → h'.get? dx = some (dictOf (rdr w.params t1 t2 u1 da (j : Int)) 2) → h'.get? D = some (listOf ws.toArray nD) → IntsAre ws cs → s.heap.objs.size ≤ D → R (.ok (.ret (.ref D))) { s with heap := h', toks := tk })
   (bad : ∀ h' tk e j wd, many false ns k = .bad j wd → Flown w.params base s.heap [dx] l e wd j h' → R (.error (.ref e)) { s with heap := h', toks := tk }) :
   codeAny (model prog w) (Ar 3 l) (.call (.ref 156) ⟨[.ref x], []⟩) R s := by
  refine' enterC H rfl ?k6 ?k7 ?k8 ?k9 ?kB ?kD ?_ ?c2 ?c3 ?c4
  case k6 => k_is
  case k7 => k_is
  case k8 => show (430 : Nat) < recursionLimit; decide
  case k9 => first | exact BindsTo.of_eq rfl | exact binds_K (by k_in) rfl (by k_is) rfl rfl rfl
  case kB => exact rfl
  case kD => decide +kernel
  case c2 => exact rfl
  case c3 => exact rfl
  case c4 => exact rfl
  intro g' L' h' tk' cells' eg eL F' N' Y' B' X' T' lc'
  try dsimp only
  k_fold
  obtain ⟨oC, rfl, dC⟩ := CellsAre.one Y'
  clear Y'
  replace dC : oC.data = .cell (some (.ref x)) := dC
  simp only [List.cons_append, List.nil_append] at N'
  change Fr g' L' h' (fun _ => none) at F'
  (replace lc' := allLt_of lc'); (simp only [AllLt, and_true] at lc')
  have d1 : @Ne Nat x dx := ne_news N' (by k_mem) (by k_mem) (by simp [okind])
  have d2 : @Ne Nat da dx := ne_news N' (by k_mem) (by k_mem) (by simp [okind])
  repeat' (first
    | ((fail_if_success (with_reducible show wpAny _ _ (call (Value.ref _) _) _ _ _)); (fail_if_success (with_reducible show wpAny _ _ (exec (Stmt.While _ _ _ _) _) _ _ _)); (fail_if_success (with_reducible show wpAny _ _ (exec (Stmt.For _ _ _ _ _) _) _ _ _)); (fail_if_success (with_reducible show wpAny _ _ (pyIter (Value.ref _)) _ _ _)); (fail_if_success (with_reducible show wpAny _ _ (compareOp CmpOp.NotEq (Value.ref _) (Value.ref _)) _ _ _)); (fail_if_success (with_reducible show wpAny _ _ (eval (Expr.ListComp _ _ _ _) _) _ _ _)); (fail_if_success (with_reducible show wpAny _ _ (exec (Stmt.Try _ _ _ _ _) _) _ _ _)); (first | (k_unfold; (try dsimp only)) | walk1 | (dsimp only; walk1) | (dsimp only; k_unfold; (try dsimp only)) | (leave1; walk_say "STEP leave1"; try dsimp only)))
    | fail "no step")
  refine comp_rule (g := g') (L := L') (cl := [(Str.ofString "self", L' + 1)]) rfl ?hclos (by decide) rfl (by decide) rfl ?_ (by intro _; rfl)
  case hclos => rfl
  repeat' (first
    | ((with_reducible show wpAny _ _ (call (Value.ref 144) _) _ _ _); (try dsimp only [List.cons_append, List.nil_append]); (refine' use_count ?k0 ?k1 ?k2 ?k3 ?m1 ?m2 ?m3 ?k4 ?kf ?k5 ?k6 ?k7 _ ?k8 (fun h' tk' v' j' u1' u2' eb' F' N' => ?_) (fun h' tk' e' j' wd' eb' XF => ?_); (case k0 => assumption); (case k1 => assumption); (case k2 => k_asm); (case k3 => k_asm); (case m1 => k_mem); (case m2 => k_mem); (case m3 => k_mem); (case k4 => exact rfl); (case kf => exact rfl); (case k5 => exact rfl); (case k6 => assumption); (case k7 => assumption); (case k8 => exact fun _ _ => by k_upd)); (all_goals ((try dsimp only); (try k_sweep))))
    | ((fail_if_success (with_reducible show wpAny _ _ (call (Value.ref _) _) _ _ _)); (fail_if_success (with_reducible show wpAny _ _ (exec (Stmt.While _ _ _ _) _) _ _ _)); (fail_if_success (with_reducible show wpAny _ _ (exec (Stmt.For _ _ _ _ _) _) _ _ _)); (fail_if_success (with_reducible show wpAny _ _ (pyIter (Value.ref _)) _ _ _)); (fail_if_success (with_reducible show wpAny _ _ (compareOp CmpOp.NotEq (Value.ref _) (Value.ref _)) _ _ _)); (fail_if_success (with_reducible show wpAny _ _ (eval (Expr.ListComp _ _ _ _) _) _ _ _)); (fail_if_success (with_reducible show wpAny _ _ (exec (Stmt.Try _ _ _ _ _) _) _ _ _)); (first | (k_unfold; (try dsimp only)) | walk1 | (dsimp only; walk1) | (dsimp only; k_unfold; (try dsimp only)) | (leave1; walk_say "STEP leave1"; try dsimp only)))
    | fail "no step")
  · have hc := cnt_ok eb'
    obtain ⟨T, hT⟩ : ∃ T, v'.toNat = T := ⟨_, rfl⟩
    (rename Fr _ _ _ _ => F9); (rename News _ _ _ _ => N9); (rename IsRange _ _ _ _ _ _ _ _ => hr9)
    refine comp_range (σ := CSt) (n := T) (fun c => [(L' + 1, oC), (x, instObj 159 dx), (dx, dictOf (rdr w.params t1 t2 c.u da (c.j : Int)) 2), (da, listOf vs.toArray n)])
      (fun i ys c => many false ns k = after c.done (lap false ns (T - i) c.j) ∧ IntsAre ys c.done) ⟨[], j', u1'⟩ rfl hr9 (small_one (by decide) (by decide) (by omega) (by omega)) (hT ▸ rangeSize_nat hc.1) (by rw [sizeLine_eq]; omega) F9 N9 (fun _ => rfl) (by repeat (first | exact List.forall_mem_nil _ | refine List.forall_mem_cons.mpr ⟨by first | k_mem | rfl, ?_⟩))
      ⟨by unfold many; rw [eb', after_nil, ← hT]; rfl, .nil⟩ ?_ ?_
    · rintro i t ys ⟨done, j, u⟩ I oI M oM D m₂ h₁ tk₁ hi9 hy9 ⟨q1, q2⟩ hM hm₂ F1 N1 l9 l10 l11
      dsimp only at q1 q2 F1 N1 l9
      (replace l9 := allLt_of l9); (simp only [AllLt, and_true] at l9)
      rw [show T - i = (T - (i + 1)) + 1 by omega] at q1
      repeat' (first
    | ((with_reducible show wpAny _ _ (call (Value.ref 137) _) _ _ _); (try dsimp only [List.cons_append, List.nil_append]); (refine' use_number ?k0 ?k1 ?k2 ?k3 ?m1 ?m2 ?m3 ?k4 ?kf ?k5 ?k6 ?k7 _ ?k8 (fun h' tk' v' j' u1' u2' eb' F' N' => ?_) (fun h' tk' e' j' wd' eb' XF => ?_); (case k0 => assumption); (case k1 => assumption); (case k2 => k_asm); (case k3 => k_asm); (case m1 => k_mem); (case m2 => k_mem); (case m3 => k_mem); (case k4 => exact rfl); (case kf => exact rfl); (case k5 => exact rfl); (case k6 => assumption); (case k7 => assumption); (case k8 => exact fun _ _ => by k_upd)); (all_goals ((try dsimp only); (try k_sweep))))
    | ((fail_if_success (with_reducible show wpAny _ _ (call (Value.ref _) _) _ _ _)); (fail_if_success (with_reducible show wpAny _ _ (exec (Stmt.While _ _ _ _) _) _ _ _)); (fail_if_success (with_reducible show wpAny _ _ (exec (Stmt.For _ _ _ _ _) _) _ _ _)); (fail_if_success (with_reducible show wpAny _ _ (pyIter (Value.ref _)) _ _ _)); (fail_if_success (with_reducible show wpAny _ _ (compareOp CmpOp.NotEq (Value.ref _) (Value.ref _)) _ _ _)); (fail_if_success (with_reducible show wpAny _ _ (eval (Expr.ListComp _ _ _ _) _) _ _ _)); (fail_if_success (with_reducible show wpAny _ _ (exec (Stmt.Try _ _ _ _ _) _) _ _ _)); (first | (k_unfold; (try dsimp only)) | walk1 | (dsimp only; walk1) | (dsimp only; k_unfold; (try dsimp only)) | (leave1; walk_say "STEP leave1"; try dsimp only)))
    | fail "no step")
      · (rename Fr _ _ _ _ => F9); (rename News _ _ _ _ => N9)
        exact ⟨⟨done ++ [v'], j', u1'⟩, _, _, _, rfl, F9, N9, (by repeat (first | exact List.forall_mem_nil _ | refine List.forall_mem_cons.mpr ⟨by first | k_mem | rfl, ?_⟩)), q1.trans (lap_ok eb' fun z => by cases z), q2.append (.cons v' u2' .nil)⟩
      · (rename Fr _ _ _ _ => F9); (rename News _ _ _ _ => N9)
        have nM := N9 (M, oM) (by k_mem)
        refine ⟨e', base, _, [dx], l, wd', j', h', tk', rfl, rfl, rfl, XF, none_base B'.stays nM.2.2, nM.1, fun z => ?_, fun z => ?_, fun h'' Fl => ?_⟩
        · have := List.mem_singleton.mp z
          have l12 : @LT.lt Nat _ dx M := by omega
          rw [← this] at l12; exact Nat.lt_irrefl _ l12
        · rcases fr_cons (L := L') rfl z with z | z
          · exact nM.2.1 z
          · obtain ⟨o, ho, _⟩ := (B'.frames.mem z).2
            rw [nM.2.2] at ho; cases ho
        · k_unfold
          refine end_next (ch := [dx]) Fl H eg eL B' F9 N9 (by repeat (first | exact List.forall_mem_nil _ | refine List.forall_mem_cons.mpr ⟨by first | exact .inr (by k_mem) | exact .inl (by k_mem), ?_⟩)) (List.forall_mem_cons.mpr ⟨by k_mem, List.forall_mem_nil _⟩) (List.forall_mem_cons.mpr ⟨.inr (by omega), List.forall_mem_cons.mpr ⟨.inl (.head _), List.forall_mem_nil _⟩⟩) (fun h'' Fl => ?_) rfl
          exact bad _ _ _ _ _ (q1.trans (lap_bad eb')) Fl
    · rintro ys ⟨done, j, u⟩ D h₁ tk₁ ⟨q1, q2⟩ F1 N1 l9
      dsimp only at q1 q2 F1 N1 l9
      rw [Nat.sub_self] at q1
      (replace l9 := allLt_of l9); (simp only [AllLt, and_true] at l9)
      repeat' (first
    | ((fail_if_success (with_reducible show wpAny _ _ (call (Value.ref _) _) _ _ _)); (fail_if_success (with_reducible show wpAny _ _ (exec (Stmt.While _ _ _ _) _) _ _ _)); (fail_if_success (with_reducible show wpAny _ _ (exec (Stmt.For _ _ _ _ _) _) _ _ _)); (fail_if_success (with_reducible show wpAny _ _ (pyIter (Value.ref _)) _ _ _)); (fail_if_success (with_reducible show wpAny _ _ (compareOp CmpOp.NotEq (Value.ref _) (Value.ref _)) _ _ _)); (fail_if_success (with_reducible show wpAny _ _ (eval (Expr.ListComp _ _ _ _) _) _ _ _)); (fail_if_success (with_reducible show wpAny _ _ (exec (Stmt.Try _ _ _ _ _) _) _ _ _)); (first | (k_unfold; (try dsimp only)) | walk1 | (dsimp only; walk1) | (dsimp only; k_unfold; (try dsimp only)) | (leave1; walk_say "STEP leave1"; try dsimp only)))
    | fail "no step")
      exact ok _ _ done j _ D ys _ (q1.trans (by show RdL.ok (done ++ []) j = _; rw [List.append_nil])) (fun b o q z => kept_end (ch := [dx]) H eg F1 N1 (by repeat (first | exact List.forall_mem_nil _ | refine List.forall_mem_cons.mpr ⟨by first | exact .inr (by k_mem) | exact .inl (by k_mem), ?_⟩)) b o q (by simpa using z)) (N1 _ (.tail _ (.tail _ (.tail _ (.head _))))).1 (N1 _ (.head _)).1 q2 (by rw [← eL]; omega)
  · refine end_next (ch := [dx]) XF H eg eL B' (by k_asm) (by k_asm) (by repeat (first | exact List.forall_mem_nil _ | refine List.forall_mem_cons.mpr ⟨by first | exact .inr (by k_mem) | exact .inl (by k_mem), ?_⟩)) (List.forall_mem_cons.mpr ⟨by k_mem, List.forall_mem_nil _⟩) (by first | exact fun _ z => .inl z | exact fun _ z => nomatch z) (fun h'' Fl => ?_) rfl
    exact bad _ _ _ _ _ (by unfold many; rw [eb']) Fl
end
end Mine

namespace Mine

theorem fill14 : Challenge.rw_pb0317_01.prog = Challenge.rw_pb0317_01.prog ∧ hd.heap_39 = hd.heap_39 := by
  k_fill
  exact ⟨rfl, rfl⟩

def zag (n : Int) : Int := if 0 ≤ n then 2 * n else -2 * n - 1
def wr (rest : Int) : List Int := if 127 < rest then (128 + rest % 128) :: wr (rest / 128) else [rest]
termination_by rest.toNat
decreasing_by omega
theorem wr_more {rest : Int} (h : 127 < rest) : wr rest = (128 + rest % 128) :: wr (rest / 128) := by rw [wr, if_pos h]
theorem wr_end {rest : Int} (h : ¬ 127 < rest) : wr rest = [rest] := by rw [wr, if_neg h]

abbrev wtr (P : Params) (t1 : Tok) (lo : Addr) : List DictEntry := [⟨PyData.keyHash P (Str.ofString "out"), .str (Str.ofString "out") t1, .ref lo⟩]

theorem wr_step {rest : Int} {done : List Int} (h : 127 < rest) : done ++ wr rest = (done ++ [128 + rest.fmod 128]) ++ wr (rest.fdiv 128) := by
  rw [wr_more h, Int.fmod_eq_emod_of_nonneg _ (by decide), Int.fdiv_eq_ediv_of_nonneg _ (by decide), List.append_assoc]; rfl
theorem wr_less {rest : Int} (h : 127 < rest) : (rest.fdiv 128).toNat < rest.toNat := by
  rw [Int.fdiv_eq_ediv_of_nonneg _ (by decide)]; omega
theorem ints_push {items : Array Value} {ns : List Int} {v : Int} {t : Tok} (h : IntsAre items.toList ns) : IntsAre (items.push (.int v t)).toList (ns ++ [v]) := by
  rw [Array.toList_push]
  exact h.append (.cons v t .nil)

structure WSt where
  rest : Int
  done : List Int
  items : Array Value
  c : Nat
  t : Tok

section
variable {K : Frag} {p : Program} {loose : List Str} {mean : ExcName → Option Value} {mg mb : Str → Option Value} {base g h' : Heap} {l outer : List Env} {told news news' : List (Addr × Obj)} {L a : Addr} {m : Str → Option Value} {ch : List Addr}
variable {prog : Program} {w : World} {s : Shared} {R : Result → Shared → Prop} {y dy lo : Addr} {t1 t2 t3 tn : Tok} {k n : Nat} {i : Int} {vs : List Value} {ns : List Int}
variable {k₀ : Nat} {s₀ : Heap} {l₀ : List Env} {told₀ : List (Addr × Obj)} {A₀ : Around} {E Q : Value → Shared → Prop} {env : Env}

theorem c_write (H : At (hd.heap_39 w.params) p loose mean mg mb base s.heap l [(y, instObj 91 dy), (dy, dictOf (wtr w.params t1 lo) 1), (lo, listOf #[] n)])
   (hb : (wr (zag i)).length ≤ 1000)
   (ok : ∀ h' tk ws c, (∀ b o, s.heap.get? b = some o → b ≠ lo → h'.get? b = some o) → h'.get? lo = some (listOf ws c) → IntsAre ws.toList (wr (zag i)) → R (.ok (.ret .none)) { s with heap := h', toks := tk }) :
   codeAny (model prog w) (Ar 5 l) (.call (.ref 74) ⟨[.ref y, .int i tn], []⟩) R s := by
  refine' enter H rfl ?k6 ?k7 ?k8 ?k9 ?kB ?_ ?c2 ?c3 ?c4 ?c5
  case k6 => k_is
  case k7 => k_is
  case k8 => show (450 : Nat) < recursionLimit; decide
  case k9 => first | exact BindsTo.of_eq rfl | exact binds_K (by k_in) rfl (by k_is) rfl rfl rfl
  case c5 => decide
  case kB => exact locs rfl
  case c2 => exact rfl
  case c3 => exact rfl
  case c4 => exact rfl
  intro g' L' h' eg eL F' N' B' X' T'
  dsimp only
  k_fold
  change Fr g' L' h' (fun z => List.lookup z [(Str.ofString "n", .int i tn), (Str.ofString "self", .ref y)]) at F'
  have d1 : @Ne Nat y lo := ne_news N' (by k_mem) (by k_mem) (by simp [okind])
  have d2 : @Ne Nat dy lo := ne_news N' (by k_mem) (by k_mem) (by simp [okind])
  repeat' (first
    | ((fail_if_success (with_reducible show wpAny _ _ (call (Value.ref _) _) _ _ _)); (fail_if_success (with_reducible show wpAny _ _ (exec (Stmt.While _ _ _ _) _) _ _ _)); (fail_if_success (with_reducible show wpAny _ _ (exec (Stmt.For _ _ _ _ _) _) _ _ _)); (fail_if_success (with_reducible show wpAny _ _ (pyIter (Value.ref _)) _ _ _)); (fail_if_success (with_reducible show wpAny _ _ (compareOp CmpOp.NotEq (Value.ref _) (Value.ref _)) _ _ _)); (fail_if_success (with_reducible show wpAny _ _ (eval (Expr.ListComp _ _ _ _) _) _ _ _)); (fail_if_success (with_reducible show wpAny _ _ (exec (Stmt.Try _ _ _ _ _) _) _ _ _)); (first | (k_unfold; (try dsimp only)) | walk1 | (dsimp only; walk1) | (dsimp only; k_unfold; (try dsimp only)) | (leave1; walk_say "STEP leave1"; try dsimp only)))
    | fail "no step")
  · (rename Fr _ _ _ _ => F9); (rename News _ _ _ _ => N9)
    have hz : zag i = 2 * i := by unfold zag; split <;> omega
    refine wh (σ := WSt) (fun c => [(Str.ofString "self", .ref y), (Str.ofString "rest", .int c.rest c.t)])
      (fun c => [(y, instObj 91 dy), (dy, dictOf (wtr w.params t1 lo) 1), (lo, listOf c.items c.c)])
      (fun c => wr (zag i) = c.done ++ wr c.rest ∧ IntsAre c.items.toList c.done) (fun c => c.rest.toNat) ⟨2 * i, [], #[], n, _⟩ F9 N9 (by repeat (first | exact List.forall_mem_nil _ | refine List.forall_mem_cons.mpr ⟨by first | k_mem | rfl, ?_⟩)) (by repeat (first | exact List.forall_mem_nil _ | refine List.forall_mem_cons.mpr ⟨by first | k_mem | rfl, ?_⟩)) ⟨by rw [hz]; rfl, .nil⟩ ?_ (by passes_own)
    rintro ⟨rest, done, items, c, t⟩ u₀ h₁ tk₁ ⟨q1, q2⟩ F1 N1
    dsimp only at q1 q2 F1 N1
    have hsz : items.size ≤ 1000 := by have e1 := intsAre_len q2; have e2 := congrArg List.length q1; rw [List.length_append] at e2; rw [Array.length_toList] at e1; omega
    repeat' (first
    | ((fail_if_success (with_reducible show wpAny _ _ (call (Value.ref _) _) _ _ _)); (fail_if_success (with_reducible show wpAny _ _ (exec (Stmt.While _ _ _ _) _) _ _ _)); (fail_if_success (with_reducible show wpAny _ _ (exec (Stmt.For _ _ _ _ _) _) _ _ _)); (fail_if_success (with_reducible show wpAny _ _ (pyIter (Value.ref _)) _ _ _)); (fail_if_success (with_reducible show wpAny _ _ (compareOp CmpOp.NotEq (Value.ref _) (Value.ref _)) _ _ _)); (fail_if_success (with_reducible show wpAny _ _ (eval (Expr.ListComp _ _ _ _) _) _ _ _)); (fail_if_success (with_reducible show wpAny _ _ (exec (Stmt.Try _ _ _ _ _) _) _ _ _)); (first | (k_unfold; (try dsimp only)) | walk1 | (dsimp only; walk1) | (dsimp only; k_unfold; (try dsimp only)) | (leave1; walk_say "STEP leave1"; try dsimp only)))
    | fail "no step")
    · (rename Fr _ _ _ _ => F9); (rename News _ _ _ _ => N9); (rename _ < _ => l9)
      exact ⟨⟨rest.fdiv 128, done ++ [128 + rest.fmod 128], _, _, _⟩, _, _, _, _, rfl, F9, N9, (by repeat (first | exact List.forall_mem_nil _ | refine List.forall_mem_cons.mpr ⟨by first | k_mem | rfl, ?_⟩)), (by repeat (first | exact List.forall_mem_nil _ | refine List.forall_mem_cons.mpr ⟨by first | k_mem | rfl, ?_⟩)), ⟨q1.trans (wr_step l9), ints_push q2⟩, wr_less l9⟩
    · (rename Fr _ _ _ _ => F9); (rename News _ _ _ _ => N9); (rename ¬ _ => l9)
      exact ok _ _ _ _ (fun b o q z => kept_end (ch := [lo]) H eg F9 N9 (by repeat (first | exact List.forall_mem_nil _ | refine List.forall_mem_cons.mpr ⟨by first | exact .inr (by k_mem) | exact .inl (by k_mem), ?_⟩)) b o q (by simpa using z)) (N9 _ (.tail _ (.tail _ (.head _)))).1 (by rw [q1, wr_end l9]; exact ints_push q2)
  · (rename Fr _ _ _ _ => F9); (rename News _ _ _ _ => N9)
    have hz : zag i = -2 * i - 1 := by unfold zag; split <;> omega
    refine wh (σ := WSt) (fun c => [(Str.ofString "self", .ref y), (Str.ofString "rest", .int c.rest c.t)])
      (fun c => [(y, instObj 91 dy), (dy, dictOf (wtr w.params t1 lo) 1), (lo, listOf c.items c.c)])
      (fun c => wr (zag i) = c.done ++ wr c.rest ∧ IntsAre c.items.toList c.done) (fun c => c.rest.toNat) ⟨-2 * i - 1, [], #[], n, _⟩ F9 N9 (by repeat (first | exact List.forall_mem_nil _ | refine List.forall_mem_cons.mpr ⟨by first | k_mem | rfl, ?_⟩)) (by repeat (first | exact List.forall_mem_nil _ | refine List.forall_mem_cons.mpr ⟨by first | k_mem | rfl, ?_⟩)) ⟨by rw [hz]; rfl, .nil⟩ ?_ (by passes_own)
    rintro ⟨rest, done, items, c, t⟩ u₀ h₁ tk₁ ⟨q1, q2⟩ F1 N1
    dsimp only at q1 q2 F1 N1
    have hsz : items.size ≤ 1000 := by have e1 := intsAre_len q2; have e2 := congrArg List.length q1; rw [List.length_append] at e2; rw [Array.length_toList] at e1; omega
    repeat' (first
    | ((fail_if_success (with_reducible show wpAny _ _ (call (Value.ref _) _) _ _ _)); (fail_if_success (with_reducible show wpAny _ _ (exec (Stmt.While _ _ _ _) _) _ _ _)); (fail_if_success (with_reducible show wpAny _ _ (exec (Stmt.For _ _ _ _ _) _) _ _ _)); (fail_if_success (with_reducible show wpAny _ _ (pyIter (Value.ref _)) _ _ _)); (fail_if_success (with_reducible show wpAny _ _ (compareOp CmpOp.NotEq (Value.ref _) (Value.ref _)) _ _ _)); (fail_if_success (with_reducible show wpAny _ _ (eval (Expr.ListComp _ _ _ _) _) _ _ _)); (fail_if_success (with_reducible show wpAny _ _ (exec (Stmt.Try _ _ _ _ _) _) _ _ _)); (first | (k_unfold; (try dsimp only)) | walk1 | (dsimp only; walk1) | (dsimp only; k_unfold; (try dsimp only)) | (leave1; walk_say "STEP leave1"; try dsimp only)))
    | fail "no step")
    · (rename Fr _ _ _ _ => F9); (rename News _ _ _ _ => N9); (rename _ < _ => l9)
      exact ⟨⟨rest.fdiv 128, done ++ [128 + rest.fmod 128], _, _, _⟩, _, _, _, _, rfl, F9, N9, (by repeat (first | exact List.forall_mem_nil _ | refine List.forall_mem_cons.mpr ⟨by first | k_mem | rfl, ?_⟩)), (by repeat (first | exact List.forall_mem_nil _ | refine List.forall_mem_cons.mpr ⟨by first | k_mem | rfl, ?_⟩)), ⟨q1.trans (wr_step l9), ints_push q2⟩, wr_less l9⟩
    · (rename Fr _ _ _ _ => F9); (rename News _ _ _ _ => N9); (rename ¬ _ => l9)
      exact ok _ _ _ _ (fun b o q z => kept_end (ch := [lo]) H eg F9 N9 (by repeat (first | exact List.forall_mem_nil _ | refine List.forall_mem_cons.mpr ⟨by first | exact .inr (by k_mem) | exact .inl (by k_mem), ?_⟩)) b o q (by simpa using z)) (N9 _ (.tail _ (.tail _ (.head _)))).1 (by rw [q1, wr_end l9]; exact ints_push q2)

theorem use_write (H₀ : At (hd.heap_39 w.params) p loose mean mg mb base s₀ l₀ told₀) (B : Below A₀ base outer g) (F : Fr g L s.heap m) (N : News g L s.heap news)
    (m1 : (y, instObj 91 dy) ∈ news) (m2 : (dy, dictOf (wtr w.params t1 lo) 1) ∈ news) (m3 : (lo, listOf #[] n) ∈ news) (h2 : Nat.ble (k₀ + 1) 5 = true) (hf : env.frame = some L) (hk : env.scope.kind = .function)
    (hb : (wr (zag i)).length ≤ 1000) (nw : Array Value → Nat → List (Addr × Obj)) (U : ∀ (ws : Array Value) (c : Nat), Upd lo (listOf #[] n) (listOf ws c) news (nw ws c))
    (ok : ∀ h' tk ws c, IntsAre ws.toList (wr (zag i)) → Fr g L h' m → News g L h' (nw ws c) → Q .none { s with heap := h', toks := tk }) :
    wpAny (model prog w) ((Ar k₀ outer).deeper env) (call (.ref 74) [.ref y, .int i tn]) Q E s :=
  use (kc := 5) (small := [(y, instObj 91 dy), (dy, dictOf (wtr w.params t1 lo) 1), (lo, listOf #[] n)]) H₀ B F N (List.forall_mem_cons.mpr ⟨m1, List.forall_mem_cons.mpr ⟨m2, List.forall_mem_cons.mpr ⟨m3, List.forall_mem_nil _⟩⟩⟩) h2 hf hk
    fun H => c_write H hb fun h' tk ws c kp g1 e => (fun z => ok h' tk ws c e z.1 z.2) (back1 F N (U ws c) kp g1)
end
end Mine

namespace Mine

theorem fill15 : Challenge.rw_pb0317_01.prog = Challenge.rw_pb0317_01.prog ∧ hd.heap_39 = hd.heap_39 := by
  k_fill
  exact ⟨rfl, rfl⟩

/-! ### the law's own reading of one number -/
def gsum (gs : List Int) : Int := gs.foldl (fun r g => r * 128 + g.fmod 128) 0
def unz (raw : Int) : Int := if raw.fmod 2 = 0 then raw.fdiv 2 else -1 - raw.fdiv 2
def fin (gs : List Int) (k : Nat) : Rd := if gs.headD 0 = 0 ∧ 1 < gs.length then .bad k longNumber else .ok (unz (gsum gs)) k
def lone (gs ns : List Int) (k : Nat) : Rd :=
  match h : byteAt ns k with
  | .bad j wd => .bad j wd
  | .ok v j => if v < 128 then fin (v :: gs) j else lone (v :: gs) ns j
termination_by ns.length - k
decreasing_by have := byteAt_lt h; omega
theorem lone_bad {gs ns : List Int} {k j : Nat} {wd : Str} (e : byteAt ns k = .bad j wd) : lone gs ns k = .bad j wd := by
  rw [lone]
  split
  · rename_i e'; rw [e] at e'; cases e'; rfl
  · rename_i e'; rw [e] at e'; cases e'
theorem lone_ok {gs ns : List Int} {k j : Nat} {v : Int} (e : byteAt ns k = .ok v j) : lone gs ns k = if v < 128 then fin (v :: gs) j else lone (v :: gs) ns j := by
  rw [lone]
  split
  · rename_i e'; rw [e] at e'; cases e'
  · rename_i e'; rw [e] at e'; cases e'; rfl

theorem fin_long {gs : List Int} {v : Int} {k : Nat} (h : v = 0) (h1 : 1 < ((v :: gs).length : Int)) : fin (v :: gs) k = .bad k longNumber := by
  unfold fin
  rw [if_pos ⟨h, by omega⟩]
theorem fin_end {gs : List Int} {v r : Int} {k : Nat} (h : ¬ (v = 0 ∧ 1 < (v :: gs).length)) (e : unz (gsum (v :: gs)) = r) : fin (v :: gs) k = .ok r k := by
  unfold fin
  rw [if_neg (show ¬ ((v :: gs).headD 0 = 0 ∧ 1 < (v :: gs).length) from h), e]
theorem unz_even {raw : Int} (h : raw.fmod 2 = 0) : unz raw = raw.fdiv 2 := if_pos h
theorem unz_odd {raw : Int} (h : ¬ raw.fmod 2 = 0) : unz raw = -1 - raw.fdiv 2 := if_neg h

abbrev tupOf (vs : List Value) : Obj := { cls := .type "tuple", data := .seq vs.toArray }
def resVals (r : Rd) (t1 t2 t3 : Tok) : List Value := match r with
  | .ok v j => [.int v t1, .int (j : Int) t2, .str (Str.ofString "") t3]
  | .bad j wd => [.none, .int (j : Int) t2, .str wd t3]

structure OSt where
  gs : List Int
  items : List Value
  c : Nat
  k : Nat
  t : Tok

section
variable {K : Frag} {p : Program} {loose : List Str} {mean : ExcName → Option Value} {mg mb : Str → Option Value} {base g h' : Heap} {l outer : List Env} {told news news' : List (Addr × Obj)} {L a : Addr} {m : Str → Option Value} {ch : List Addr}
variable {prog : Program} {w : World} {s : Shared} {R : Result → Shared → Prop} {x dx da : Addr} {t1 t2 t3 : Tok} {k n : Nat} {i : Int} {vs : List Value} {ns : List Int}
variable {k₀ : Nat} {s₀ : Heap} {l₀ : List Env} {told₀ : List (Addr × Obj)} {A₀ : Around} {E Q : Value → Shared → Prop} {env : Env}

local macro_rules | `(tactic| walk_at "call builtin:len") => `(tactic| (k_here; (with_reducible show wpAny _ _ (call (Value.builtin "len") [Value.ref _]) _ _ _); k_dflt (refine' len_list_at ?F ?N ?m ?v ?f ?_; (case F => k_asm); (case N => k_asm); (case m => k_mem); (case v => assumption); (case f => assumption))))

theorem fresh_end {s h' : Heap} {T : Addr} {o : Obj} (eg : g = hideAll s (told.map (·.1))) (N : News g L h' news) (hm : (T, o) ∈ news) (hne : ∀ q ∈ told, q.1 ≠ T) : s.get? T = none := by
  subst eg
  cases q : s.get? T with
  | none => rfl
  | some o' =>
    have e := hideAll_get (told.map (·.1)) q fun z => by
      obtain ⟨y, hy, rfl⟩ := List.mem_map.mp z
      exact hne y hy rfl
    rw [(N _ hm).2.2] at e; cases e

theorem kl_ins0 (l : List Value) (y : Value) : kl_ins l 0 y = y :: l := by cases l <;> rfl
theorem item_zero {A : Around} {value slice : PySem.Expr} {l : Addr} {v : Value} {vs : List Value} {n : Nat} {u : Tok} {Q : Value → Shared → Prop} (F : Fr g L s.heap m) (N : News g L s.heap news) (hm : (l, listOf (v :: vs).toArray n) ∈ news) (h : Q v s)
    (hs : subscripted slice false (.ref l) (.int 0 u) = operate [.ref l, .int 0 u] (getItem (.ref l) (.int 0 u))) :
    wpAny (model prog w) A (subscriptTail value slice (.ref l) (.int 0 u)) Q E s := by
  have hL : s.heap.IsList l (v :: vs).toArray := ⟨_, (N _ hm).1, rfl, n, rfl⟩
  exact tail_any hL.typeIs slot_list_getitem.lookup (wpAny_getItem_list hL (by decide) (by decide) rfl h) hs

theorem c_one (H : At (hd.heap_39 w.params) p loose mean mg mb base s.heap l [(da, listOf vs.toArray n)])
   (hi : IntsAre vs ns) (hlen : ns.length ≤ 1000)
   (ok : ∀ h' tk T t1 t2 t3 r, lone [] ns k = r → (∀ b o, s.heap.get? b = some o → h'.get? b = some o) → h'.get? T = some (tupOf (resVals r t1 t2 t3)) → s.heap.get? T = none → R (.ok (.ret (.ref T))) { s with heap := h', toks := tk }) :
   codeAny (model prog w) (Ar 5 l) (.call (.ref 170) ⟨[.ref da, .int (k : Int) t1], []⟩) R s := by
  refine' enter H rfl ?k6 ?k7 ?k8 ?k9 ?kB ?_ ?c2 ?c3 ?c4 ?c5
  case k6 => k_is
  case k7 => k_is
  case k8 => show (450 : Nat) < recursionLimit; decide
  case k9 => first | exact BindsTo.of_eq rfl | exact binds_K (by k_in) rfl (by k_is) rfl rfl rfl
  case c5 => decide
  case kB => exact locs rfl
  case c2 => exact rfl
  case c3 => exact rfl
  case c4 => exact rfl
  intro g' L' h' eg eL F' N' B' X' T'
  dsimp only
  k_fold
  change Fr g' L' h' (fun y => List.lookup y [(Str.ofString "at", .int (k : Int) t1), (Str.ofString "data", .ref da)]) at F'
  repeat' (first
    | ((with_reducible show wpAny _ _ (newList _) _ _ _); (refine' newList_K ?k1 ?k2 ?_; (case k1 => k_asm); (case k2 => k_asm)); intro D h' F' N' lD; (try k_lt lD); (try dsimp only); (try k_sweep))
    | ((fail_if_success (with_reducible show wpAny _ _ (call (Value.ref _) _) _ _ _)); (fail_if_success (with_reducible show wpAny _ _ (exec (Stmt.While _ _ _ _) _) _ _ _)); (fail_if_success (with_reducible show wpAny _ _ (exec (Stmt.For _ _ _ _ _) _) _ _ _)); (fail_if_success (with_reducible show wpAny _ _ (pyIter (Value.ref _)) _ _ _)); (fail_if_success (with_reducible show wpAny _ _ (compareOp CmpOp.NotEq (Value.ref _) (Value.ref _)) _ _ _)); (fail_if_success (with_reducible show wpAny _ _ (eval (Expr.ListComp _ _ _ _) _) _ _ _)); (fail_if_success (with_reducible show wpAny _ _ (exec (Stmt.Try _ _ _ _ _) _) _ _ _)); (first | (k_unfold; (try dsimp only)) | walk1 | (dsimp only; walk1) | (dsimp only; k_unfold; (try dsimp only)) | (leave1; walk_say "STEP leave1"; try dsimp only)))
    | fail "no step")
  refine wh (σ := OSt) (fun c => [(Str.ofString "data", .ref da), (Str.ofString "at", .int (c.k : Int) c.t), (Str.ofString "groups", .ref D)])
    (fun c => [(D, listOf c.items.toArray c.c), (da, listOf vs.toArray n)]) (fun c => lone [] ns k = lone c.gs ns c.k ∧ IntsAre c.items c.gs ∧ c.gs.length ≤ ns.length ∧ c.gs.length + k = c.k) (fun c => ns.length - c.k) ⟨[], [], 0, k, t1⟩ (by with_reducible assumption) (by with_reducible assumption) (by repeat (first | exact List.forall_mem_nil _ | refine List.forall_mem_cons.mpr ⟨by first | k_mem | rfl, ?_⟩)) (by repeat (first | exact List.forall_mem_nil _ | refine List.forall_mem_cons.mpr ⟨by first | k_mem | rfl, ?_⟩)) ⟨rfl, .nil, Nat.zero_le _, Nat.zero_add _⟩ ?_ (by passes_own)
  rintro ⟨gs, items, c, kk, t⟩ u₀ h₁ tk₁ ⟨q1, q2, q3, q4⟩ F1 N1
  dsimp only at q1 q2 q3 q4 F1 N1
  rcases hx : ns[kk]? with _ | v
  · have hge : (ns.length : Int) ≤ kk := by have := List.getElem?_eq_none_iff.mp hx; omega
    repeat' (first
    | ((fail_if_success (with_reducible show wpAny _ _ (call (Value.ref _) _) _ _ _)); (fail_if_success (with_reducible show wpAny _ _ (exec (Stmt.While _ _ _ _) _) _ _ _)); (fail_if_success (with_reducible show wpAny _ _ (exec (Stmt.For _ _ _ _ _) _) _ _ _)); (fail_if_success (with_reducible show wpAny _ _ (pyIter (Value.ref _)) _ _ _)); (fail_if_success (with_reducible show wpAny _ _ (compareOp CmpOp.NotEq (Value.ref _) (Value.ref _)) _ _ _)); (fail_if_success (with_reducible show wpAny _ _ (eval (Expr.ListComp _ _ _ _) _) _ _ _)); (fail_if_success (with_reducible show wpAny _ _ (exec (Stmt.Try _ _ _ _ _) _) _ _ _)); (first | (k_unfold; (try dsimp only)) | walk1 | (dsimp only; walk1) | (dsimp only; k_unfold; (try dsimp only)) | (leave1; walk_say "STEP leave1"; try dsimp only)))
    | fail "no step")
    (rename Fr _ _ _ _ => F9); (rename News _ _ _ _ => N9)
    exact ok _ _ _ 0 _ _ (.bad kk cutOff) (q1.trans (lone_bad (by unfold byteAt; rw [hx]))) (fun b o q => kept_end (ch := []) H eg F9 N9 (by repeat (first | exact List.forall_mem_nil _ | refine List.forall_mem_cons.mpr ⟨by first | exact .inr (by k_mem) | exact .inl (by k_mem), ?_⟩)) b o q (List.not_mem_nil)) (N9 _ (.head _)).1 (fresh_end eg N9 (.head _) (by k_all))
  · have hlt : (kk : Int) < ns.length := by have := (List.getElem?_eq_some_iff.mp hx).1; omega
    have hz : items.length ≤ sizeLine := by have := intsAre_len q2; rw [sizeLine_eq]; omega
    repeat' (first
    | ((with_reducible show wpAny _ _ (call (Value.builtin "list.insert") [Value.ref _, Value.int _ _, _]) _ _ _); (refine' kl_insert ?F ?N ?f ?e ?U ?z ?_; (case F => k_asm); (case N => k_asm); (case U => k_upd); (case f => rfl); (case e => exact kl_ins0 _ _); (case z => assumption)); intro h' F' N'; (try dsimp only); (try k_sweep))
    | ((with_reducible show wpAny _ _ (subscriptTail _ _ (Value.ref _) (Value.int 0 _)) _ _ _); (with_unfolding_all refine' item_zero ?F ?N ?m ?_ ?s; (case F => k_asm); (case N => k_asm); (case m => k_mem); (case s => with_unfolding_all rfl)))
    | ((with_reducible show wpAny _ _ (subscriptTail _ _ (Value.ref _) (Value.int _ _)) _ _ _); (with_unfolding_all refine' item_at ?F ?N ?m ?v ?f ?x ?_ ?s; (case F => k_asm); (case N => k_asm); (case m => k_mem); (case v => assumption); (case f => assumption); (case x => assumption); (case s => with_unfolding_all rfl)); intro u')
    | ((fail_if_success (with_reducible show wpAny _ _ (call (Value.ref _) _) _ _ _)); (fail_if_success (with_reducible show wpAny _ _ (exec (Stmt.While _ _ _ _) _) _ _ _)); (fail_if_success (with_reducible show wpAny _ _ (exec (Stmt.For _ _ _ _ _) _) _ _ _)); (fail_if_success (with_reducible show wpAny _ _ (pyIter (Value.ref _)) _ _ _)); (fail_if_success (with_reducible show wpAny _ _ (compareOp CmpOp.NotEq (Value.ref _) (Value.ref _)) _ _ _)); (fail_if_success (with_reducible show wpAny _ _ (eval (Expr.ListComp _ _ _ _) _) _ _ _)); (fail_if_success (with_reducible show wpAny _ _ (exec (Stmt.Try _ _ _ _ _) _) _ _ _)); (first | (k_unfold; (try dsimp only)) | walk1 | (dsimp only; walk1) | (dsimp only; k_unfold; (try dsimp only)) | (leave1; walk_say "STEP leave1"; try dsimp only)))
    | fail "no step")
    · have hq := IntsAre.cons v u' q2
      have hq1 : (v :: gs).length ≤ 1000 := by rw [List.length_cons]; omega
      have hb : lone [] ns k = fin (v :: gs) (kk + 1) := q1.trans ((lone_ok (by unfold byteAt; rw [hx]; dsimp only; rw [if_neg (by omega)])).trans (if_pos (by assumption)))
      have hg : (v :: gs).getD (Int.toNat 0) 0 = v := rfl
      dsimp only
      unfold WhEnd
      dsimp only
      k_steps
      all_goals ((try k_unfold); (try dsimp only); (rename Fr _ _ _ _ => F9); (rename News _ _ _ _ => N9))
      · exact ok _ _ _ 0 _ _ (.bad (kk + 1) longNumber) (hb.trans (fin_long (by assumption) (by assumption))) (fun b o q => kept_end (ch := []) H eg F9 N9 (by repeat (first | exact List.forall_mem_nil _ | refine List.forall_mem_cons.mpr ⟨by first | exact .inr (by k_mem) | exact .inl (by k_mem), ?_⟩)) b o q (List.not_mem_nil)) (N9 _ (.head _)).1 (fresh_end eg N9 (.head _) (by k_all))
      all_goals exact ok _ _ _ _ _ _ (.ok _ (kk + 1)) (hb.trans (fin_end (by omega) (by first | exact unz_even (by assumption) | exact unz_odd (by assumption)))) (fun b o q => kept_end (ch := []) H eg F9 N9 (by repeat (first | exact List.forall_mem_nil _ | refine List.forall_mem_cons.mpr ⟨by first | exact .inr (by k_mem) | exact .inl (by k_mem), ?_⟩)) b o q (List.not_mem_nil)) (N9 _ (.head _)).1 (fresh_end eg N9 (.head _) (by k_all))
    · (rename Fr _ _ _ _ => F9); (rename News _ _ _ _ => N9)
      have hb : lone [] ns k = lone (v :: gs) ns (kk + 1) := q1.trans ((lone_ok (by unfold byteAt; rw [hx]; dsimp only; rw [if_neg (by omega)])).trans (if_neg (by assumption)))
      exact ⟨⟨v :: gs, _, _, kk + 1, _⟩, _, _, _, _, rfl, F9, N9, (by repeat (first | exact List.forall_mem_nil _ | refine List.forall_mem_cons.mpr ⟨by first | k_mem | rfl, ?_⟩)), (by repeat (first | exact List.forall_mem_nil _ | refine List.forall_mem_cons.mpr ⟨by first | k_mem | rfl, ?_⟩)), ⟨hb, IntsAre.cons v u' q2, by simp only [List.length_cons]; omega, by simp only [List.length_cons]; omega⟩, show ns.length - (kk + 1) < ns.length - kk from by omega⟩
    all_goals ((rename Fr _ _ _ _ => F9); (rename News _ _ _ _ => N9); exact ok _ _ _ 0 _ _ (.bad kk badByte) (q1.trans (lone_bad (by unfold byteAt; rw [hx]; dsimp only; rw [if_pos (by omega)]))) (fun b o q => kept_end (ch := []) H eg F9 N9 (by repeat (first | exact List.forall_mem_nil _ | refine List.forall_mem_cons.mpr ⟨by first | exact .inr (by k_mem) | exact .inl (by k_mem), ?_⟩)) b o q (List.not_mem_nil)) (N9 _ (.head _)).1 (fresh_end eg N9 (.head _) (by k_all)))
end
end Mine

namespace Mine

/-! ### plain: the two readings of a number are one -/
def val : List Int → Int
  | [] => 0
  | g :: gs => val gs + (g - 128) * 128 ^ gs.length
theorem gsum_val (gs : List Int) (h : ∀ g ∈ gs, 128 ≤ g ∧ g ≤ 255) (r : Int) : gs.foldl (fun r g => r * 128 + g.fmod 128) r = r * 128 ^ gs.length + val gs := by
  induction gs generalizing r with
  | nil => simp [val]
  | cons g gs ih =>
    have hg := h g List.mem_cons_self
    rw [List.foldl_cons, ih (fun x hx => h x (List.mem_cons_of_mem _ hx)), Int.fmod_eq_emod_of_nonneg _ (by decide), show g % 128 = g - 128 by omega, List.length_cons, val, Int.pow_succ, Int.add_mul, Int.mul_assoc r 128, Int.mul_comm 128 (128 ^ gs.length), Int.add_assoc, Int.add_comm (val gs)]
theorem zig_unz (n : Int) : zig n = unz n := by
  unfold zig unz
  rw [Int.fmod_eq_emod_of_nonneg _ (by decide), Int.fdiv_eq_ediv_of_nonneg _ (by decide)]
  split <;> split <;> omega
theorem pow_one_lt (n : Nat) : (1 : Int) < 128 ^ n ↔ 1 ≤ n := by
  constructor
  · intro h
    cases n with
    | zero => simp at h
    | succ n => omega
  · intro h
    obtain ⟨k, rfl⟩ : ∃ k, n = k + 1 := ⟨n - 1, by omega⟩
    have : (0 : Int) < 128 ^ k := Int.pow_pos (by decide)
    rw [Int.pow_succ]; omega
theorem lone_rest (ns : List Int) : ∀ (n k : Nat) (gs : List Int), ns.length - k = n → (∀ g ∈ gs, 128 ≤ g ∧ g ≤ 255) →
    lone gs ns k = match byteAt ns k with | .bad j wd => .bad j wd | .ok v j => rest ns (val gs) (128 ^ gs.length) v j := by
  intro n
  induction n using Nat.strongRecOn with
  | ind n ih =>
    intro k gs hn hg
    cases hb : byteAt ns k with
    | bad j wd => exact lone_bad hb
    | ok v j =>
      have hl := byteAt_lt hb
      rw [lone_ok hb]
      dsimp only
      by_cases hv : 127 < v
      · rw [if_neg (by omega), ih (ns.length - j) (by omega) j (v :: gs) rfl (by
          intro g hm
          rcases List.mem_cons.mp hm with rfl | hm
          · exact ⟨by omega, by omega⟩
          · exact hg g hm)]
        cases hb' : byteAt ns j with
        | bad j' wd => exact (rest_bad hv hb').symm
        | ok v' j' =>
          rw [rest_more hv hb', List.length_cons, Int.pow_succ]
          rfl
      · rw [if_pos (by omega), rest, if_neg hv]
        by_cases h0 : v = 0 ∧ (1 : Int) < 128 ^ gs.length
        · rw [if_pos h0]
          have := (pow_one_lt _).mp h0.2
          unfold fin
          rw [if_pos ⟨h0.1, by rw [List.length_cons]; omega⟩]
        · rw [if_neg h0]
          unfold fin
          rw [if_neg (fun z => h0 ⟨z.1, (pow_one_lt _).mpr (by have := z.2; rw [List.length_cons] at this; omega)⟩), zig_unz]
          unfold gsum
          rw [List.foldl_cons, gsum_val gs hg, Int.fmod_eq_emod_of_nonneg _ (by decide), show (0 : Int) * 128 + v % 128 = v by omega, Int.add_comm]
theorem num_lone (ns : List Int) (k : Nat) : lone [] ns k = num ns k := by
  rw [lone_rest ns _ k [] rfl (fun _ h => nomatch h)]
  unfold num
  cases byteAt ns k <;> rfl

/-! ### plain: what is written again -/
def raw : List Int → Int
  | [] => 0
  | [v] => v
  | g :: gs => (g - 128) + 128 * raw gs
theorem raw_cons {g : Int} {gs : List Int} (h : gs ≠ []) : raw (g :: gs) = (g - 128) + 128 * raw gs := by
  cases gs with
  | nil => exact absurd rfl h
  | cons a l => rfl
/-- groups as they are read: all but the last carry on, the last is no nought unless it stands alone -/
def Chain : List Int → Prop
  | [] => False
  | [v] => 0 ≤ v ∧ v ≤ 127
  | g :: gs => (128 ≤ g ∧ g ≤ 255) ∧ Chain gs ∧ 1 ≤ raw gs
theorem chain_cons {g : Int} {gs : List Int} (hg : 128 ≤ g ∧ g ≤ 255) (hc : Chain gs) (hr : 1 ≤ raw gs) : Chain (g :: gs) := by
  cases gs with
  | nil => exact hc.elim
  | cons a l => exact ⟨hg, hc, hr⟩
theorem chain_nonneg : ∀ {l : List Int}, Chain l → 0 ≤ raw l
  | [], h => h.elim
  | [_], h => h.1
  | g :: a :: l, h => by
    have h1 := h.1
    have h2 := h.2.2
    rw [raw_cons (by simp)]
    omega
theorem wr_raw : ∀ {l : List Int}, Chain l → wr (raw l) = l
  | [], h => h.elim
  | [v], h => by
    have h2 := h.2
    rw [show raw [v] = v from rfl, wr_end (by omega)]
  | g :: a :: l, h => by
    have h1 := h.1
    have h2 := h.2.2
    have ih := wr_raw h.2.1
    rw [raw_cons (by simp), wr_more (by omega), show 128 + (g - 128 + 128 * raw (a :: l)) % 128 = g by omega, show (g - 128 + 128 * raw (a :: l)) / 128 = raw (a :: l) by omega, ih]
theorem zag_zig {n : Int} (h : 0 ≤ n) : zag (zig n) = n := by
  unfold zag zig
  split <;> split <;> omega

theorem rest_bytes (ns : List Int) : ∀ (n k j : Nat) (total weight group v : Int), ns.length - k = n → 1 ≤ weight → 0 ≤ group → group ≤ 255 → k ≤ ns.length → rest ns total weight group k = .ok v j →
    k ≤ j ∧ j ≤ ns.length ∧ v = zig (total + raw (group :: (ns.drop k).take (j - k)) * weight) ∧ Chain (group :: (ns.drop k).take (j - k)) ∧ (1 < weight → 1 ≤ raw (group :: (ns.drop k).take (j - k))) := by
  intro n
  induction n using Nat.strongRecOn with
  | ind n ih =>
    intro k j total weight group v hn hw h0 h1 hk e
    by_cases hg : 127 < group
    · cases hb : byteAt ns k with
      | bad j' wd => rw [rest_bad hg hb] at e; cases e
      | ok v' j' =>
        rw [rest_more hg hb] at e
        have hl := byteAt_lt hb
        obtain ⟨a1, a2, a3, a4, a5⟩ := ih (ns.length - j') (by omega) j' j _ _ _ _ rfl (by omega) hl.2.2.1 hl.2.2.2 (by omega) e
        have hx : ns[k]? = some v' := by
          unfold byteAt at hb
          split at hb
          · cases hb
          · split at hb
            · cases hb
            · rename_i hx _; cases hb; exact hx
        have hd : (ns.drop k).take (j - k) = v' :: (ns.drop j').take (j - j') := by
          obtain ⟨hlt, hv⟩ := List.getElem?_eq_some_iff.mp hx
          rw [List.drop_eq_getElem_cons hlt, hv, show j - k = (j - j') + 1 by omega, List.take_succ_cons, hl.2.1]
        rw [hd]
        have a6 := a5 (by omega)
        refine ⟨by omega, a2, ?_, chain_cons ⟨by omega, h1⟩ a4 a6, fun _ => ?_⟩
        · rw [a3, raw_cons (g := group) (gs := v' :: (ns.drop j').take (j - j')) (List.cons_ne_nil _ _)]
          congr 1
          generalize raw (v' :: (ns.drop j').take (j - j')) = r
          rw [Int.add_mul, Int.mul_comm weight 128, ← Int.mul_assoc, Int.mul_comm r 128]
          omega
        · rw [raw_cons (g := group) (gs := v' :: (ns.drop j').take (j - j')) (List.cons_ne_nil _ _)]; omega
    · rw [rest, if_neg hg] at e
      split at e
      · cases e
      · rename_i hz
        cases e
        rw [Nat.sub_self, List.take_zero]
        exact ⟨Nat.le_refl _, hk, by rw [show raw [group] = group from rfl], ⟨h0, by omega⟩, fun hw' => by
          show 1 ≤ group
          by_cases g0 : group = 0
          · exact absurd ⟨g0, hw'⟩ hz
          · omega⟩

theorem num_bytes {ns : List Int} {k j : Nat} {v : Int} (e : num ns k = .ok v j) : k < j ∧ j ≤ ns.length ∧ wr (zag v) = (ns.drop k).take (j - k) := by
  unfold num at e
  cases hb : byteAt ns k with
  | bad j' wd => rw [hb] at e; cases e
  | ok v' j' =>
    rw [hb] at e
    dsimp only at e
    have hl := byteAt_lt hb
    obtain ⟨a1, a2, a3, a4, -⟩ := rest_bytes ns _ j' j 0 1 v' v rfl (by decide) hl.2.2.1 hl.2.2.2 (by omega) e
    have hx : ns[k]? = some v' := by
      unfold byteAt at hb
      split at hb
      · cases hb
      · split at hb
        · cases hb
        · rename_i hx _; cases hb; exact hx
    have hd : (ns.drop k).take (j - k) = v' :: (ns.drop j').take (j - j') := by
      obtain ⟨hlt, hv⟩ := List.getElem?_eq_some_iff.mp hx
      rw [List.drop_eq_getElem_cons hlt, hv, show j - k = (j - j') + 1 by omega, List.take_succ_cons, hl.2.1]
    rw [Int.zero_add, Int.mul_one, ← hd] at a3
    rw [← hd] at a4
    exact ⟨by omega, a2, by rw [a3, zag_zig (chain_nonneg a4), wr_raw a4]⟩
theorem num_bad {ns : List Int} {k j : Nat} {wd : Str} (e : lone [] ns k = .bad j wd) : (wd != Str.ofString "") = true ∧ wd.length ≤ 20 := by
  have fin_w : ∀ gs j' , fin gs j' = .bad j wd → (wd != Str.ofString "") = true ∧ wd.length ≤ 20 := by
    intro gs j' h
    unfold fin at h
    split at h
    · cases h; decide
    · cases h
  have go : ∀ (n k : Nat) (gs : List Int), ns.length - k = n → lone gs ns k = .bad j wd → (wd != Str.ofString "") = true ∧ wd.length ≤ 20 := by
    intro n
    induction n using Nat.strongRecOn with
    | ind n ih =>
      intro k gs hn h
      cases hb : byteAt ns k with
      | bad j' wd' =>
        rw [lone_bad hb] at h
        cases h
        unfold byteAt at hb
        split at hb
        · cases hb; decide
        · split at hb
          · cases hb; decide
          · cases hb
      | ok v j' =>
        have hl := byteAt_lt hb
        rw [lone_ok hb] at h
        split at h
        · exact fin_w _ _ h
        · exact ih (ns.length - j') (by omega) j' _ rfl h
  exact go _ k [] rfl e
end Mine

namespace Mine

theorem fill17 : Challenge.rw_pb0317_01.prog = Challenge.rw_pb0317_01.prog ∧ hd.heap_39 = hd.heap_39 := by
  k_fill
  exact ⟨rfl, rfl⟩

theorem many_bad {chk : Bool} {ns : List Int} {k j : Nat} {wd : Str} (e : cnt ns k = .bad j wd) : many chk ns k = .bad j wd := by unfold many; rw [e]
theorem cnt_num {ns : List Int} {k j : Nat} {wd : Str} (e : num ns k = .bad j wd) : cnt ns k = .bad j wd := by unfold cnt; rw [e]
theorem cnt_bad {ns : List Int} {k j : Nat} {v : Int} (e : num ns k = .ok v j) (h : v < 0 ∨ (ns.length : Int) - j < v) : cnt ns k = .bad j badCount := by unfold cnt; rw [e]; exact if_pos h
theorem cnt_good {ns : List Int} {k j : Nat} {v : Int} (e : num ns k = .ok v j) (h : ¬ (v < 0 ∨ (ns.length : Int) - j < v)) : cnt ns k = .ok v j := by unfold cnt; rw [e]; exact if_neg h

theorem lap_char' {chk : Bool} {ns acc : List Int} {c k j : Nat} {v : Int} (hc : chk = true) (e : num ns k = .ok v j) (hv : v < 0 ∨ 1114111 < v) : after acc (lap chk ns (c + 1) k) = .bad j badChar := by
  subst hc; exact lap_char e hv

structure MSt where
  done : List Int
  j : Nat
  t : Tok
  items : Array Value
  c : Nat

section
variable {K : Frag} {p : Program} {loose : List Str} {mean : ExcName → Option Value} {mg mb : Str → Option Value} {base g h' : Heap} {l outer : List Env} {told news news' : List (Addr × Obj)} {L a : Addr} {m : Str → Option Value} {ch : List Addr}
variable {prog : Program} {w : World} {s : Shared} {R : Result → Shared → Prop} {x dx da : Addr} {t1 t2 t3 : Tok} {k n : Nat} {i : Int} {vs : List Value} {ns : List Int}
variable {k₀ : Nat} {s₀ : Heap} {l₀ : List Env} {told₀ : List (Addr × Obj)} {A₀ : Around} {E Q : Value → Shared → Prop} {env : Env}

theorem fresh_ne {h : Heap} {T : Addr} (N : News g L h news) (e : h.get? T = none) : ∀ q ∈ news, @Ne Nat q.1 T := fun q hq z => by
  have := (N q hq).1
  rw [z, e] at this; cases this
theorem back_new {T : Addr} {o : Obj} {h : Heap} (F : Fr g L h m) (N : News g L h news) (k : ∀ b o, h.get? b = some o → h'.get? b = some o) (e : h'.get? T = some o) (f : h.get? T = none) : Fr g L h' m ∧ News g L h' ((T, o) :: news) :=
  back (S := []) F N (fun b o e _ => k b o e) (fun _ z => nomatch z) fun q hq => by
    rcases List.mem_cons.mp hq with rfl | hq
    · exact ⟨e, .inr f⟩
    · exact ⟨k _ _ (N q hq).1, .inl ⟨_, hq⟩⟩

theorem use_one (H₀ : At (hd.heap_39 w.params) p loose mean mg mb base s₀ l₀ told₀) (B : Below A₀ base outer g) (F : Fr g L s.heap m) (N : News g L s.heap news)
    (m1 : (da, listOf vs.toArray n) ∈ news) (h2 : Nat.ble (k₀ + 1) 5 = true) (hf : env.frame = some L) (hk : env.scope.kind = .function) (hi : IntsAre vs ns) (hlen : ns.length ≤ 1000) (he : i = (k : Int))
    (okV : ∀ h' tk T v j u1 u2 u3, num ns k = .ok v j → Fr g L h' m → News g L h' ((T, tupOf [.int v u1, .int (j : Int) u2, .str (Str.ofString "") u3]) :: news) → (∀ q ∈ news, @Ne Nat q.1 T) → Q (.ref T) { s with heap := h', toks := tk })
    (okB : ∀ h' tk T j wd u2 u3, num ns k = .bad j wd → (wd != Str.ofString "") = true → Fr g L h' m → News g L h' ((T, tupOf [.none, .int (j : Int) u2, .str wd u3]) :: news) → (∀ q ∈ news, @Ne Nat q.1 T) → Q (.ref T) { s with heap := h', toks := tk }) :
    wpAny (model prog w) ((Ar k₀ outer).deeper env) (call (.ref 170) [.ref da, .int i t1]) Q E s := by
  subst he
  refine use (kc := 5) (small := [(da, listOf vs.toArray n)]) H₀ B F N (List.forall_mem_cons.mpr ⟨m1, List.forall_mem_nil _⟩) h2 hf hk fun H => c_one H hi hlen fun h' tk T u1 u2 u3 r e kp g1 g2 => ?_
  have z := back_new F N kp g1 g2
  have lT := fresh_ne N g2
  cases r with
  | ok v j => exact okV h' tk T v j u1 u2 u3 ((num_lone ns k).symm.trans e) z.1 z.2 lT
  | bad j wd => exact okB h' tk T j wd u2 u3 ((num_lone ns k).symm.trans e) (num_bad e).1 z.1 z.2 lT

theorem c_many {chk : Bool} (H : At (hd.heap_39 w.params) p loose mean mg mb base s.heap l [(da, listOf vs.toArray n)])
   (hi : IntsAre vs ns) (hlen : ns.length ≤ 1000)
   (okV : ∀ h' tk T D cs j ws nD u2 u3, many chk ns 0 = .ok cs j → (∀ b o, s.heap.get? b = some o → h'.get? b = some o) → h'.get? T = some (tupOf [.ref D, .int (j : Int) u2, .str (Str.ofString "") u3]) → h'.get? D = some (listOf ws nD) → IntsAre ws.toList cs → s.heap.get? T = none → s.heap.get? D = none → D ≠ T → R (.ok (.ret (.ref T))) { s with heap := h', toks := tk })
   (okB : ∀ h' tk T j wd u2 u3, many chk ns 0 = .bad j wd → (∀ b o, s.heap.get? b = some o → h'.get? b = some o) → h'.get? T = some (tupOf [.none, .int (j : Int) u2, .str wd u3]) → s.heap.get? T = none → R (.ok (.ret (.ref T))) { s with heap := h', toks := tk }) :
   codeAny (model prog w) (Ar 4 l) (.call (.ref 177) ⟨[.ref da, .bool chk], []⟩) R s := by
  refine' enter H rfl ?k6 ?k7 ?k8 ?k9 ?kB ?_ ?c2 ?c3 ?c4 ?c5
  case k6 => k_is
  case k7 => k_is
  case k8 => show (440 : Nat) < recursionLimit; decide
  case k9 => first | exact BindsTo.of_eq rfl | exact binds_K (by k_in) rfl (by k_is) rfl rfl rfl
  case c5 => decide
  case kB => exact locs rfl
  case c2 => exact rfl
  case c3 => exact rfl
  case c4 => exact rfl
  intro g' L' h' eg eL F' N' B' X' T'
  dsimp only
  k_fold
  change Fr g' L' h' (fun y => List.lookup y [(Str.ofString "for_letters", .bool chk), (Str.ofString "data", .ref da)]) at F'
  repeat' (first
    | ((with_reducible show wpAny _ _ (newList _) _ _ _); (refine' newList_K ?k1 ?k2 ?_; (case k1 => k_asm); (case k2 => k_asm)); intro D h' F' N' lD; (try k_lt lD); (try dsimp only); (try k_sweep))
    | ((with_reducible show wpAny _ _ (call (Value.ref 170) _) _ _ _); (try dsimp only [List.cons_append, List.nil_append]); (refine' use_one ?k0 ?k1 ?k2 ?k3 ?m1 ?k4 ?kf ?k5 ?k6 ?k7 ?ke (fun h' tk' T' v' j' u1' u2' u3' eb' F' N' lT => ?_) (fun h' tk' T' j' wd' u2' u3' eb' hw' F' N' lT => ?_); (case k0 => assumption); (case k1 => assumption); (case k2 => k_asm); (case k3 => k_asm); (case m1 => k_mem); (case k4 => exact rfl); (case kf => exact rfl); (case k5 => exact rfl); (case k6 => assumption); (case k7 => assumption); (case ke => first | exact rfl | exact (rfl : (0 : Int) = ((0 : Nat) : Int)))); (all_goals ((simp only [List.forall_mem_cons] at lT); (try dsimp only); (try k_sweep))))
    | ((fail_if_success (with_reducible show wpAny _ _ (call (Value.ref _) _) _ _ _)); (fail_if_success (with_reducible show wpAny _ _ (exec (Stmt.While _ _ _ _) _) _ _ _)); (fail_if_success (with_reducible show wpAny _ _ (exec (Stmt.For _ _ _ _ _) _) _ _ _)); (fail_if_success (with_reducible show wpAny _ _ (pyIter (Value.ref _)) _ _ _)); (fail_if_success (with_reducible show wpAny _ _ (compareOp CmpOp.NotEq (Value.ref _) (Value.ref _)) _ _ _)); (fail_if_success (with_reducible show wpAny _ _ (eval (Expr.ListComp _ _ _ _) _) _ _ _)); (fail_if_success (with_reducible show wpAny _ _ (exec (Stmt.Try _ _ _ _ _) _) _ _ _)); (first | (k_unfold; (try dsimp only)) | walk1 | (dsimp only; walk1) | (dsimp only; k_unfold; (try dsimp only)) | (leave1; walk_say "STEP leave1"; try dsimp only)))
    | fail "no step")
  · (rename Fr _ _ _ _ => F9); (rename News _ _ _ _ => N9)
    exact okB _ _ _ _ badCount _ _ (many_bad (cnt_bad eb' (by omega))) (fun b o q => kept_end (ch := []) H eg F9 N9 (by repeat (first | exact List.forall_mem_nil _ | refine List.forall_mem_cons.mpr ⟨by first | exact .inr (by k_mem) | exact .inl (by k_mem), ?_⟩)) b o q (List.not_mem_nil)) (N9 _ (.head _)).1 (fresh_end eg N9 (.head _) (by k_all))
  · (rename Fr _ _ _ _ => F9); (rename News _ _ _ _ => N9)
    exact okB _ _ _ _ badCount _ _ (many_bad (cnt_bad eb' (by omega))) (fun b o q => kept_end (ch := []) H eg F9 N9 (by repeat (first | exact List.forall_mem_nil _ | refine List.forall_mem_cons.mpr ⟨by first | exact .inr (by k_mem) | exact .inl (by k_mem), ?_⟩)) b o q (List.not_mem_nil)) (N9 _ (.head _)).1 (fresh_end eg N9 (.head _) (by k_all))
  · have ec : cnt ns 0 = .ok v' j' := cnt_good eb' (by omega)
    have hc := cnt_ok ec
    obtain ⟨T, hT⟩ : ∃ T, v'.toNat = T := ⟨_, rfl⟩
    refine For_invV g' rfl rfl ?_ (by intro _; rfl) (by passes_own)
    repeat' (first
    | ((fail_if_success (with_reducible show wpAny _ _ (call (Value.ref _) _) _ _ _)); (fail_if_success (with_reducible show wpAny _ _ (exec (Stmt.While _ _ _ _) _) _ _ _)); (fail_if_success (with_reducible show wpAny _ _ (exec (Stmt.For _ _ _ _ _) _) _ _ _)); (fail_if_success (with_reducible show wpAny _ _ (pyIter (Value.ref _)) _ _ _)); (fail_if_success (with_reducible show wpAny _ _ (compareOp CmpOp.NotEq (Value.ref _) (Value.ref _)) _ _ _)); (fail_if_success (with_reducible show wpAny _ _ (eval (Expr.ListComp _ _ _ _) _) _ _ _)); (fail_if_success (with_reducible show wpAny _ _ (exec (Stmt.Try _ _ _ _ _) _) _ _ _)); (first | (k_unfold; (try dsimp only)) | walk1 | (dsimp only; walk1) | (dsimp only; k_unfold; (try dsimp only)) | (leave1; walk_say "STEP leave1"; try dsimp only)))
    | fail "no step")
    (rename Fr _ _ _ _ => F9); (rename News _ _ _ _ => N9); (rename IsRange _ _ _ _ _ _ _ _ => hr9)
    refine for_range (σ := MSt) (n := T) (fun c => [(Str.ofString "data", .ref da), (Str.ofString "for_letters", .bool chk), (Str.ofString "at", .int (c.j : Int) c.t), (Str.ofString "found", .ref D)])
      (fun c => [(D, listOf c.items c.c), (da, listOf vs.toArray n)])
      (fun i c => many chk ns 0 = after c.done (lap chk ns (T - i) c.j) ∧ IntsAre c.items.toList c.done ∧ c.done.length = i) ⟨[], j', u2', #[], 0⟩ rfl hr9 (small_one (by decide) (by decide) (by omega) (by omega)) (hT ▸ rangeSize_nat hc.1) F9 N9 (fun _ => rfl) (by repeat (first | exact List.forall_mem_nil _ | refine List.forall_mem_cons.mpr ⟨by first | k_mem | rfl, ?_⟩)) (by repeat (first | exact List.forall_mem_nil _ | refine List.forall_mem_cons.mpr ⟨by first | k_mem | rfl, ?_⟩))
      ⟨by unfold many; rw [ec, after_nil, ← hT]; rfl, .nil, rfl⟩ ?_ ?_
    · rintro i t I oI ⟨done, j, tj, items, c⟩ u₀ h₁ tk₁ hi9 ⟨q1, q2, q3⟩ F1 N1 l9
      dsimp only at q1 q2 q3 F1 N1 l9
      (replace l9 := allLt_of l9); (simp only [AllLt, and_true] at l9)
      rw [show T - i = (T - (i + 1)) + 1 by omega] at q1
      have hz : items.size ≤ 1000 := by have := intsAre_len q2; rw [q3, Array.length_toList] at this; omega
      repeat' (first
    | ((with_reducible show wpAny _ _ (call (Value.ref 170) _) _ _ _); (try dsimp only [List.cons_append, List.nil_append]); (refine' use_one ?k0 ?k1 ?k2 ?k3 ?m1 ?k4 ?kf ?k5 ?k6 ?k7 ?ke (fun h' tk' T' v' j' u1' u2' u3' eb' F' N' lT => ?_) (fun h' tk' T' j' wd' u2' u3' eb' hw' F' N' lT => ?_); (case k0 => assumption); (case k1 => assumption); (case k2 => k_asm); (case k3 => k_asm); (case m1 => k_mem); (case k4 => exact rfl); (case kf => exact rfl); (case k5 => exact rfl); (case k6 => assumption); (case k7 => assumption); (case ke => first | exact rfl | exact (rfl : (0 : Int) = ((0 : Nat) : Int)))); (all_goals ((simp only [List.forall_mem_cons] at lT); (try dsimp only); (try k_sweep))))
    | ((fail_if_success (with_reducible show wpAny _ _ (call (Value.ref _) _) _ _ _)); (fail_if_success (with_reducible show wpAny _ _ (exec (Stmt.While _ _ _ _) _) _ _ _)); (fail_if_success (with_reducible show wpAny _ _ (exec (Stmt.For _ _ _ _ _) _) _ _ _)); (fail_if_success (with_reducible show wpAny _ _ (pyIter (Value.ref _)) _ _ _)); (fail_if_success (with_reducible show wpAny _ _ (compareOp CmpOp.NotEq (Value.ref _) (Value.ref _)) _ _ _)); (fail_if_success (with_reducible show wpAny _ _ (eval (Expr.ListComp _ _ _ _) _) _ _ _)); (fail_if_success (with_reducible show wpAny _ _ (exec (Stmt.Try _ _ _ _ _) _) _ _ _)); (first | (k_unfold; (try dsimp only)) | walk1 | (dsimp only; walk1) | (dsimp only; k_unfold; (try dsimp only)) | (leave1; walk_say "STEP leave1"; try dsimp only)))
    | fail "no step")
      · (rename Fr _ _ _ _ => F9); (rename News _ _ _ _ => N9)
        exact ⟨⟨done ++ [v'], j', u2', _, _⟩, _, _, _, _, rfl, F9, N9, (by repeat (first | exact List.forall_mem_nil _ | refine List.forall_mem_cons.mpr ⟨by first | k_mem | rfl, ?_⟩)), (by repeat (first | exact List.forall_mem_nil _ | refine List.forall_mem_cons.mpr ⟨by first | k_mem | rfl, ?_⟩)), q1.trans (lap_ok eb' fun _ => by omega), ints_push q2, by rw [List.length_append, q3]; rfl⟩
      · (rename Fr _ _ _ _ => F9); (rename News _ _ _ _ => N9)
        exact okB _ _ _ _ badChar _ _ (q1.trans (lap_char' (by assumption) eb' (by omega))) (fun b o q => kept_end (ch := []) H eg F9 N9 (by repeat (first | exact List.forall_mem_nil _ | refine List.forall_mem_cons.mpr ⟨by first | exact .inr (by k_mem) | exact .inl (by k_mem), ?_⟩)) b o q (List.not_mem_nil)) (N9 _ (.head _)).1 (fresh_end eg N9 (.head _) (by k_all))
      · (rename Fr _ _ _ _ => F9); (rename News _ _ _ _ => N9)
        exact okB _ _ _ _ badChar _ _ (q1.trans (lap_char' (by assumption) eb' (by omega))) (fun b o q => kept_end (ch := []) H eg F9 N9 (by repeat (first | exact List.forall_mem_nil _ | refine List.forall_mem_cons.mpr ⟨by first | exact .inr (by k_mem) | exact .inl (by k_mem), ?_⟩)) b o q (List.not_mem_nil)) (N9 _ (.head _)).1 (fresh_end eg N9 (.head _) (by k_all))
      · (rename Fr _ _ _ _ => F9); (rename News _ _ _ _ => N9)
        exact ⟨⟨done ++ [v'], j', u2', _, _⟩, _, _, _, _, rfl, F9, N9, (by repeat (first | exact List.forall_mem_nil _ | refine List.forall_mem_cons.mpr ⟨by first | k_mem | rfl, ?_⟩)), (by repeat (first | exact List.forall_mem_nil _ | refine List.forall_mem_cons.mpr ⟨by first | k_mem | rfl, ?_⟩)), q1.trans (lap_ok eb' fun z => by first | exact absurd z (by assumption) | (have y9 : chk = false := by assumption); rw [y9] at z; cases z), ints_push q2, by rw [List.length_append, q3]; rfl⟩
      · (rename Fr _ _ _ _ => F9); (rename News _ _ _ _ => N9)
        exact okB _ _ _ _ _ _ _ (q1.trans (lap_bad eb')) (fun b o q => kept_end (ch := []) H eg F9 N9 (by repeat (first | exact List.forall_mem_nil _ | refine List.forall_mem_cons.mpr ⟨by first | exact .inr (by k_mem) | exact .inl (by k_mem), ?_⟩)) b o q (List.not_mem_nil)) (N9 _ (.head _)).1 (fresh_end eg N9 (.head _) (by k_all))
    · rintro ⟨done, j, tj, items, c⟩ u₀ h₁ tk₁ ⟨q1, q2, q3⟩ F1 N1
      dsimp only at q1 q2 q3 F1 N1
      rw [Nat.sub_self] at q1
      repeat' (first
    | ((fail_if_success (with_reducible show wpAny _ _ (call (Value.ref _) _) _ _ _)); (fail_if_success (with_reducible show wpAny _ _ (exec (Stmt.While _ _ _ _) _) _ _ _)); (fail_if_success (with_reducible show wpAny _ _ (exec (Stmt.For _ _ _ _ _) _) _ _ _)); (fail_if_success (with_reducible show wpAny _ _ (pyIter (Value.ref _)) _ _ _)); (fail_if_success (with_reducible show wpAny _ _ (compareOp CmpOp.NotEq (Value.ref _) (Value.ref _)) _ _ _)); (fail_if_success (with_reducible show wpAny _ _ (eval (Expr.ListComp _ _ _ _) _) _ _ _)); (fail_if_success (with_reducible show wpAny _ _ (exec (Stmt.Try _ _ _ _ _) _) _ _ _)); (first | (k_unfold; (try dsimp only)) | walk1 | (dsimp only; walk1) | (dsimp only; k_unfold; (try dsimp only)) | (leave1; walk_say "STEP leave1"; try dsimp only)))
    | fail "no step")
      (rename Fr _ _ _ _ => F9); (rename News _ _ _ _ => N9)
      exact okV _ _ _ D done j _ _ _ _ (q1.trans (by show RdL.ok (done ++ []) j = _; rw [List.append_nil])) (fun b o q => kept_end (ch := []) H eg F9 N9 (by repeat (first | exact List.forall_mem_nil _ | refine List.forall_mem_cons.mpr ⟨by first | exact .inr (by k_mem) | exact .inl (by k_mem), ?_⟩)) b o q (List.not_mem_nil)) (N9 _ (.head _)).1 (N9 _ (.tail _ (.head _))).1 q2 (fresh_end eg N9 (.head _) (by k_all)) (fresh_end eg N9 (.tail _ (.head _)) (by k_all)) (by k_ne)
  · (rename Fr _ _ _ _ => F9); (rename News _ _ _ _ => N9)
    exact okB _ _ _ _ _ _ _ (many_bad (cnt_num eb')) (fun b o q => kept_end (ch := []) H eg F9 N9 (by repeat (first | exact List.forall_mem_nil _ | refine List.forall_mem_cons.mpr ⟨by first | exact .inr (by k_mem) | exact .inl (by k_mem), ?_⟩)) b o q (List.not_mem_nil)) (N9 _ (.head _)).1 (fresh_end eg N9 (.head _) (by k_all))
end
end Mine

namespace Mine
open Builtin Builtin.ObjectAttr

/-! ### a value read off an exception that has a dict of its own -/
section
variable {prog : Program} {w : World} {A : Around} {E : Value → Shared → Prop} {s : Shared} {K : Frag} {x C : Addr} {ox : Obj} {od : Option Obj} {name : Str} {expr : Bool} {Q : Value → Shared → Prop} {v : Value}

theorem get_exc (X : K.In s.heap) (I : InstAt s.heap x ox C od) (hga : findIn K (.ref C) "__getattribute__" = some (some (.builtin "BaseException.__getattribute__")))
    (hk : findIn K (.ref C) "__getattr__" = some none) (hb : mroIn K C (.type "BaseException") = some true) (hf : findObj K C od name = some (.value v)) (hh : handedIn v = true)
    (h : Q v { s with toks := s.toks + 1 }) : wpAny (model prog w) A (getAttr (.ref x) name expr) Q E s := by
  obtain ⟨hp, g, d, t, os⟩ := s
  have q1 : (expr && onTheHeap (Value.builtin "BaseException.__getattribute__")) = false := by cases expr <;> rfl
  have q2 : (Value.builtin "BaseException.__getattribute__" == Value.builtin "object.__getattribute__") = false := by decide +kernel
  have q3 : (onTheHeap (Value.ref C) && Value.builtin "BaseException.__getattribute__" == Value.builtin "object.__getattribute__") = false := by rw [q2]; rfl
  have hbind : bindSpecial (.builtin "BaseException.__getattribute__") (.ref x) = pure (.builtin "BaseException.__getattribute__", [.ref x]) := (PySem.F.attr_Exception).ga.bind (.ref x)
  have L0 := I.type (M := model prog w)
  have L1 := looks_findIn (M := model prog w) X hga
  have L2 := looks_findIn (M := model prog w) X hk
  have L3 := looks_find (M := model prog w) X I hf
  have L4 : Looks (model prog w) hp (isInstance (.ref x) (.type "BaseException")) true := L0.andThen (looks_mroIn X hb)
  unfold getAttr getAttrBy
  refine wpAny_bind (wpAny_mkText (wpAny_holding (wpAny_bind (L0.at (wpAny_bind (L1.at ?_))))))
  dsimp only
  rw [q3, if_neg (by decide)]
  refine wpAny_bind (L2.at (wpAny_bind (wpAny_attempt (wpAny_holding ?_))))
  unfold callGetattribute
  rw [q1, if_neg (by decide)]
  unfold boundAndCalled
  rw [hbind]
  refine wpAny_bind (wpAny_pure ?_)
  show wpAny _ _ (call (.builtin "BaseException.__getattribute__") [.ref x, .str name t]) _ _ _
  refine wpAny_call (codeAny_call_builtin (PySem.F.attr_Exception).ga.plain F.entry_bexc_ga ?_)
  refine @check_slot (model prog w) _ _ ⟨hp, g, d, t + 1, os⟩ "BaseException.__getattribute__" "BaseException" "__getattribute__" (.ref x) [.str name t] [] _ (by decide +kernel) (by decide +kernel) L4 (F.args_bexc_ga (.ref x) (.str name t)) ?_
  refine wpAny_bind (wpAny_pure (wpAny_bind (wpAny_pure (wpAny_bind (L0.at (wpAny_bind (L3.at ?_)))))))
  refine wpAny_pure ?_
  show wpAny _ _ (handedOut v) _ _ _
  rw [handedOut_of hh]; exact wpAny_pure h
end
end Mine

namespace Mine

section
variable {prog : Program} {w : World} {A₀ : Around} {E : Value → Shared → Prop} {s' : Shared} {base g h₀ : Heap} {outer : List Env} {L a e : Addr} {m : Str → Option Value} {name : Str} {scope : Scope} {cd : Value}
  {n : Str} {b₀ : Stmt} {suite : List Stmt} {pos np : Pos} {rest : List ExceptHandler} {Q : Flow → Shared → Prop} {news keep : List (Addr × Obj)} {KF : Frag}
  {p : Program} {loose : List Str} {mean : ExcName → Option Value} {mg mb : Str → Option Value} {x : Str} {P : Params} {ch : List Addr} {wd : Str} {i : Int}
  {nm qn : Str} {N44 : Addr} {bs bm : List Value} {hdct : Bool} {sn : List Str} {sub : List Value} {ab : Bool} {col : Option Bool} {dd : Option Addr} {k0 k1 k2 k3 k5 : Option Value} {newId : String}

/-- what is there of the exception behind the catch -/
structure Caught (P : Params) (e d : Addr) (oe : Obj) (wd : Str) (i : Int) (es : List DictEntry) : Prop where
  cls : oe.cls = .ref 44
  no : notCls oe = true
  dict : oe.dict = some d
  fld : ∃ vs, oe.data = .fields vs
  ents : ∃ t1 t2 t3 t4, es = fe P t1 t2 t3 t4 wd i

theorem caught (K : Below A₀ base outer g) (F : Fr g L h₀ m) (N : News g L h₀ news) (X : Flown P base h₀ ch (envOf name scope L a cd :: outer) e wd i s'.heap)
    (XB : KF.In base) (TB : Top p loose mean mg mb base) (hch : ∀ b ∈ ch, ∃ o, (b, o) ∈ news) (hkp : ∀ q ∈ keep, q ∈ news ∧ q.1 ∉ ch)
    (hC : KF.lookup 44 = some (excClassObj nm qn 44 N44 bs bm hdct sn sub ab col dd k0 k1 k2 k3 k5 newId)) (hbase : bm.contains (.type "BaseException") = true)
    (ex : nsIn KF mainGlobals x = some (some (.ref 44)))
    (k : ∀ h' g' tk d oe es, Caught P e d oe wd i es → KtsTurn (fr outer) g g' → Fr g' L h' (fun y => if y = n then some (.ref e) else m y) → News g' L h' ((e, oe) :: (d, dictOf es 2) :: keep) → Below A₀ base outer g' → KF.In g' → Top p loose mean mg mb g' → @Ne Nat e d → (∀ q ∈ keep, @Ne Nat q.1 e ∧ @Ne Nat q.1 d) →
      wpAny (model prog w) ((A₀.deeper (envOf name scope L a cd)).mark (some (.ref e))) (execs (b₀ :: suite) (envOf name scope L a cd))
        (fun f s₄ => wpAny (model prog w) (A₀.deeper (envOf name scope L a cd)) (do bindName (envOf name scope L a cd) n .none; unbindBehindTheSuite (envOf name scope L a cd) n pos) (fun _ s₅ => Q f s₅) E s₄)
        (AsSuiteRaised (model prog w) ((A₀.deeper (envOf name scope L a cd)).mark (some (.ref e))) (envOf name scope L a cd) n pos (notedBy (model prog w) ((A₀.deeper (envOf name scope L a cd)).mark (some (.ref e))) (envOf name scope L a cd) (cameBackBy (model prog w) (A₀.deeper (envOf name scope L a cd)) (envOf name scope L a cd) E)))
        { s' with heap := h', toks := tk })
    (hk : scope.kind = .function := by rfl) (hlo : (envOf name scope L a cd).kindOf n = some .local := by rfl) (hx : (envOf name scope L a cd).kindOf x = some .globalImplicit := by rfl) (hd : (x == ("__debug__" : Str)) = false := by decide) :
    wpAny (model prog w) (A₀.deeper (envOf name scope L a cd)) (noteFrame (.ref e) (envOf name scope L a cd))
      (fun _ s₂ => wpAny (model prog w) (A₀.deeper (envOf name scope L a cd)) (setFlight (.ref e) none) (fun _ s₃ =>
        wpAny (model prog w) (A₀.deeper (envOf name scope L a cd)) (handleBy (.ref e) (envOf name scope L a cd) (.ExceptHandler (some (.Name x np)) (some n) (b₀ :: suite) pos :: rest)) Q E s₃) E s₂) E s' := by
  obtain ⟨⟨B, d, t1, t2, t3, t4, hB, hk0, hd0, hdB, fl, hfl⟩, hsl⟩ := X
  have FF := hfl.frames
  obtain ⟨_, ⟨L', _, hf, hLB, _⟩, _⟩ := hfl.frames
  obtain rfl : L = L' := Option.some.inj hf
  -- what the frame stood on, without what the callee changed
  have nL : L ∉ ch := fun z => by obtain ⟨o, ho⟩ := hch _ z; exact (N _ ho).2.1 rfl
  have nfr : ∀ q ∈ news, q.1 ∉ fr (envOf name scope L a cd :: outer) := fun q hq hm => by
    rcases kts_mem hm with z | z
    · exact (N q hq).2.1 z
    · obtain ⟨_, o, ho, _⟩ := K.frames.mem z
      rw [(N q hq).2.2] at ho; cases ho
  have FG : Fr g L (hideAll h₀ ch) m := by
    obtain ⟨oL, es, ep, hL, r⟩ := F.ns
    refine ⟨⟨oL, es, ep, hideAll_get _ hL nL, r⟩, fun b o q => hideAll_get _ (F.keep b o q) fun z => ?_, F.above⟩
    obtain ⟨o', ho'⟩ := hch _ z
    rw [(N _ ho').2.2] at q; cases q
  have hBG : ∀ b o, (hideAll h₀ ch).get? b = some o → b ∉ (envOf name scope L a cd :: outer).filterMap (·.frame) → B.get? b = some o := fun b o q nm => by
    refine hk0 b o (of_hideAll _ q) nm fun z => ?_
    rw [hideAll_none _ z] at q; cases q
  have hsm : (hideAll h₀ ch).UpToSlots s'.heap := fun b o q hn => by
    by_cases hm : b ∈ fr (envOf name scope L a cd :: outer)
    · exact hsl b o (of_hideAll _ q) hm
    · exact ⟨o.slots, hfl.stays b o (hBG b o q hm)⟩
  refine fly_note (Around.frames_deeper K.stack) rfl hfl fun h₄ fl₄ sm₄ => ?_
  refine fly_land (s := { s' with heap := h₄ }) fl₄ fun h₅ fl₅ sm₅ => ?_
  have hsm₅ := hsm.trans (sm₄.trans sm₅)
  obtain ⟨g₅, T₅, F₅, K₅⟩ := kts_ground K FG hBG fl₅.stays hsm₅
  have X₅ : KF.In g₅ := XB.keeps K₅.stays
  have P₅ : TopRead p loose mg mb g₅ := topRead_of (TB.keeps K₅.stays)
  obtain ⟨ob, _, _, _, _, hob, hobc, _⟩ := fl₅.traced
  have hC₅ := F₅.keep _ _ (X₅ _ _ hC)
  refine wpAny_handleBy_cons (codeAny_handlers_test (name_K F₅ X₅ P₅ ex ?_ hk hx hd)) (by intro q; cases q)
  refine wpAny_excMatches_sub_self hC₅ hob hobc hbase (codeAny_handlers_suite_as ?_)
  refine fly_land (s := { s' with heap := h₅ }) fl₅ fun h₆ fl₆ sm₆ => ?_
  have hsm₆ := hsm₅.trans sm₆
  obtain ⟨g₆, T₆, F₆, K₆⟩ := kts_ground K FG hBG fl₆.stays hsm₆
  obtain ⟨oe, vs, T, oT, ts, he, hc, hdd, hdat, _⟩ := fl₆.traced
  have ne₆ : g₆.get? e = none := T₆.none_ _ (kts_fresh FG hBG fl₆.new fun o ho m => by
    obtain ⟨_, o', ho', hd⟩ := K.frames.mem m
    rw [ho] at ho'; cases ho'
    obtain ⟨sl, hs⟩ := hsm₆ _ _ (FG.keep _ _ ho) hd
    rw [he] at hs; cases hs
    exact hd _ hdat)
  have nd₆ : g₆.get? d = none := T₆.none_ _ (kts_none F.keep hd0)
  have hd₆ := fl₆.stays _ _ hdB
  have dL : @Ne Nat d L := fun z => by rw [z, hLB] at hdB; cases hdB
  have eL : @Ne Nat e L := fun z => by
    obtain ⟨_, ⟨L', o, hf, _, ho, hn⟩, _⟩ := fl₆.frames
    obtain rfl : L = L' := Option.some.inj hf
    rw [← z, he] at ho; cases ho
    exact hn _ hdat
  have ed : @Ne Nat e d := fun z => by rw [z, hd₆] at he; cases he; cases hdat
  have Nk : News g₆ L h₆ keep := fun q hq => by
    obtain ⟨h1, h2⟩ := hkp q hq
    exact ⟨fl₆.stays _ _ (hk0 _ _ (N q h1).1 (nfr q h1) h2), (N q h1).2.1, T₆.none_ _ (N q h1).2.2⟩
  have N₆ : News g₆ L h₆ ((e, oe) :: (d, dictOf (fe P t1 t2 t3 t4 wd i) 2) :: keep) := fun q hq => by
    rcases List.mem_cons.mp hq with rfl | hq
    · exact ⟨he, eL, ne₆⟩
    · rcases List.mem_cons.mp hq with rfl | hq
      · exact ⟨hd₆, dL, nd₆⟩
      · exact Nk q hq
  have hno : notCls oe = true := by unfold notCls; rw [hdat]
  have lk : ∀ q ∈ keep, @Ne Nat q.1 e ∧ @Ne Nat q.1 d := fun q hq => by
    obtain ⟨h1, h2⟩ := hkp q hq
    have hBq := hk0 _ _ (N q h1).1 (nfr q h1) h2
    refine ⟨fun z => ?_, fun z => ?_⟩
    · rw [z, fl₆.new] at hBq; cases hBq
    · have := (N q h1).1; rw [z, hd0] at this; cases this
  refine stN (s := { s' with heap := h₆ }) F₆ N₆ (fun h₇ F₇ N₇ => ?_) hk hlo
  exact k h₇ g₆ _ d oe _ ⟨hc, hno, hdd, ⟨_, hdat⟩, t1, t2, t3, t4, rfl⟩ T₆ F₇ N₇ K₆ (XB.keeps K₆.stays) (TB.keeps K₆.stays) ed lk
end
end Mine

namespace Mine

theorem fill20 : Challenge.rw_pb0317_01.prog = Challenge.rw_pb0317_01.prog ∧ hd.heap_39 = hd.heap_39 := by
  k_fill
  exact ⟨rfl, rfl⟩

section
variable {K : Frag} {p : Program} {loose : List Str} {mean : ExcName → Option Value} {mg mb : Str → Option Value} {base g h' : Heap} {l outer : List Env} {told news news' : List (Addr × Obj)} {L a : Addr} {m : Str → Option Value} {ch : List Addr}
variable {prog : Program} {w : World} {s : Shared} {R : Result → Shared → Prop} {x dx da : Addr} {t1 t2 t3 : Tok} {k n : Nat} {i : Int} {vs : List Value} {ns : List Int}
variable {k₀ : Nat} {s₀ : Heap} {l₀ : List Env} {told₀ : List (Addr × Obj)} {A₀ : Around} {E Q : Value → Shared → Prop} {env : Env}

theorem use_text (H₀ : At (hd.heap_39 w.params) p loose mean mg mb base s₀ l₀ told₀) (B : Below A₀ base outer g) (F : Fr g L s.heap m) (N : News g L s.heap news)
    (m1 : (x, instObj 159 dx) ∈ news) (m2 : (dx, dictOf (rdr w.params t1 t2 t3 da (k : Int)) 2) ∈ news) (m3 : (da, listOf vs.toArray n) ∈ news) (h2 : Nat.ble (k₀ + 1) 3 = true) (hf : env.frame = some L) (hk : env.scope.kind = .function)
    (hi : IntsAre vs ns) (hlen : ns.length ≤ 1000) (nw : Tok → Nat → List (Addr × Obj)) (U : ∀ (t : Tok) (j : Nat), Upd dx (dictOf (rdr w.params t1 t2 t3 da (k : Int)) 2) (dictOf (rdr w.params t1 t2 t da (j : Int)) 2) news (nw t j))
    (ok : ∀ h' tk cs j u1 u2, many true ns k = .ok cs j → Fr g L h' m → News g L h' (nw u1 j) → Q (.str (Txt.join (Str.ofString "") (cs.map chrOf)) u2) { s with heap := h', toks := tk })
    (bad : ∀ h' tk e j wd, many true ns k = .bad j wd → Flown w.params base s.heap [dx] (env :: outer) e wd j h' → E (.ref e) { s with heap := h', toks := tk }) :
    wpAny (model prog w) ((Ar k₀ outer).deeper env) (call (.ref 151) [.ref x]) Q E s :=
  use (kc := 3) (small := [(x, instObj 159 dx), (dx, dictOf (rdr w.params t1 t2 t3 da (k : Int)) 2), (da, listOf vs.toArray n)]) H₀ B F N (List.forall_mem_cons.mpr ⟨m1, List.forall_mem_cons.mpr ⟨m2, List.forall_mem_cons.mpr ⟨m3, List.forall_mem_nil _⟩⟩⟩) h2 hf hk
    fun H => c_text H hi hlen (fun h' tk cs j u1 u2 e kp g1 => (fun z => ok h' tk cs j u1 u2 e z.1 z.2) (back1 F N (U u1 j) kp g1)) bad

theorem use_numbers (H₀ : At (hd.heap_39 w.params) p loose mean mg mb base s₀ l₀ told₀) (B : Below A₀ base outer g) (F : Fr g L s.heap m) (N : News g L s.heap news)
    (m1 : (x, instObj 159 dx) ∈ news) (m2 : (dx, dictOf (rdr w.params t1 t2 t3 da (k : Int)) 2) ∈ news) (m3 : (da, listOf vs.toArray n) ∈ news) (h2 : Nat.ble (k₀ + 1) 3 = true) (hf : env.frame = some L) (hk : env.scope.kind = .function)
    (hi : IntsAre vs ns) (hlen : ns.length ≤ 1000) (nw : Tok → Nat → List (Addr × Obj)) (U : ∀ (t : Tok) (j : Nat), Upd dx (dictOf (rdr w.params t1 t2 t3 da (k : Int)) 2) (dictOf (rdr w.params t1 t2 t da (j : Int)) 2) news (nw t j))
    (ok : ∀ h' tk cs j u1 D ws nD, many false ns k = .ok cs j → IntsAre ws cs → Fr g L h' m → News g L h' ((D, listOf ws.toArray nD) :: nw u1 j) → (∀ q ∈ news, @LT.lt Nat _ q.1 D) → Q (.ref D) { s with heap := h', toks := tk })
    (bad : ∀ h' tk e j wd, many false ns k = .bad j wd → Flown w.params base s.heap [dx] (env :: outer) e wd j h' → E (.ref e) { s with heap := h', toks := tk }) :
    wpAny (model prog w) ((Ar k₀ outer).deeper env) (call (.ref 156) [.ref x]) Q E s :=
  use (kc := 3) (small := [(x, instObj 159 dx), (dx, dictOf (rdr w.params t1 t2 t3 da (k : Int)) 2), (da, listOf vs.toArray n)]) H₀ B F N (List.forall_mem_cons.mpr ⟨m1, List.forall_mem_cons.mpr ⟨m2, List.forall_mem_cons.mpr ⟨m3, List.forall_mem_nil _⟩⟩⟩) h2 hf hk
    fun H => c_numbers H hi hlen (fun h' tk cs j u1 D ws nD e kp g1 g2 hw lD => (fun z => ok h' tk cs j u1 D ws nD e hw z.1 z.2 fun q hq => Nat.lt_of_lt_of_le (Heap.lt_size (N q hq).1) lD) (back (S := [dx]) F N (fun b o e nb => kp b o e (by simpa using nb)) (fun b z => by
      rw [List.mem_singleton.mp z]; exact ⟨_, m2⟩) fun q hq => by
        rcases List.mem_cons.mp hq with rfl | hq
        · exact ⟨g2, .inr (fresh_of_ge lD)⟩
        · obtain ⟨pre, post, e1, e2, n1, n2⟩ := (U u1 j).split
          rw [e2] at hq
          have inb : ∀ q, q ∈ pre ∨ q ∈ post → (q, q) = (q, q) → q ∈ news := fun q hq _ => by
            rw [e1]; rcases hq with z | z
            · exact List.mem_append_left _ z
            · exact List.mem_append_right _ (.tail _ z)
          rcases List.mem_append.mp hq with z | z
          · exact ⟨kp _ _ (N q (inb q (.inl z) rfl)).1 (n1 q z), .inl ⟨_, inb q (.inl z) rfl⟩⟩
          · rcases List.mem_cons.mp z with rfl | z
            · exact ⟨g1, .inl ⟨_, m2⟩⟩
            · exact ⟨kp _ _ (N q (inb q (.inr z) rfl)).1 (n2 q z), .inl ⟨_, inb q (.inr z) rfl⟩⟩)) bad

theorem get_at {A : Around} {E : Value → Shared → Prop} {Q : Value → Shared → Prop} {e d : Addr} {oe : Obj} {wd : Str} {t4 : Tok} {expr : Bool} (F : Fr g L s.heap m) (X : Frag.In (hd.heap_39 w.params) g) (N : News g L s.heap news) (m1 : (e, oe) ∈ news) (m2 : (d, dictOf (fe w.params t1 t2 t3 t4 wd i) 2) ∈ news)
    (o1 : oe.cls = .ref 44) (o2 : notCls oe = true) (o3 : oe.dict = some d) (h : Q (.int i t4) { s with toks := s.toks + 1 }) :
    wpAny (model prog w) A (getAttr (.ref e) (Str.ofString "at") expr) Q E s := by
  have I : InstAt s.heap e oe 44 (some (dictOf (fe w.params t1 t2 t3 t4 wd i) 2)) := ⟨(N _ m1).1, o1, o2, by rw [o3]; exact (N _ m2).1⟩
  exact get_exc (K := hd.heap_39 w.params) (X.keeps F.keep) I (by k_is) (by k_is) (by k_is) (findObj_own (attr := none) (by k_is) (by k_is) rfl (by rfl)) rfl h
theorem get_what {A : Around} {E : Value → Shared → Prop} {Q : Value → Shared → Prop} {e d : Addr} {oe : Obj} {wd : Str} {t4 : Tok} {expr : Bool} (F : Fr g L s.heap m) (X : Frag.In (hd.heap_39 w.params) g) (N : News g L s.heap news) (m1 : (e, oe) ∈ news) (m2 : (d, dictOf (fe w.params t1 t2 t3 t4 wd i) 2) ∈ news)
    (o1 : oe.cls = .ref 44) (o2 : notCls oe = true) (o3 : oe.dict = some d) (h : Q (.str wd t2) { s with toks := s.toks + 1 }) :
    wpAny (model prog w) A (getAttr (.ref e) (Str.ofString "what") expr) Q E s := by
  have I : InstAt s.heap e oe 44 (some (dictOf (fe w.params t1 t2 t3 t4 wd i) 2)) := ⟨(N _ m1).1, o1, o2, by rw [o3]; exact (N _ m2).1⟩
  exact get_exc (K := hd.heap_39 w.params) (X.keeps F.keep) I (by k_is) (by k_is) (by k_is) (findObj_own (attr := none) (by k_is) (by k_is) rfl (by rfl)) rfl h

theorem lap_len {chk : Bool} {ns : List Int} : ∀ {c k j : Nat} {cs : List Int}, lap chk ns c k = .ok cs j → cs.length = c
  | 0, _, _, _, h => by cases h; rfl
  | c + 1, k, j, cs, h => by
    unfold lap at h
    split at h
    · cases h
    · split at h
      · cases h
      · split at h
        · cases h
        · rename_i e; cases h
          rw [List.length_cons, lap_len e]
theorem lap_rng {ns : List Int} : ∀ {c k j : Nat} {cs : List Int}, lap true ns c k = .ok cs j → ∀ v ∈ cs, 0 ≤ v
  | 0, _, _, _, h => by cases h; exact fun _ z => nomatch z
  | c + 1, k, j, cs, h => by
    unfold lap at h
    split at h
    · cases h
    · split at h
      · cases h
      · split at h
        · cases h
        · rename_i hv _ _ _ e; cases h
          intro v hm
          rcases List.mem_cons.mp hm with rfl | hm
          · exact Int.not_lt.mp fun z => hv ⟨rfl, .inl z⟩
          · exact lap_rng e v hm
theorem many_len {chk : Bool} {ns cs : List Int} {k j : Nat} (h : many chk ns k = .ok cs j) : cs.length ≤ ns.length := by
  unfold many at h
  split at h
  · cases h
  · rename_i e
    have := cnt_ok e
    rw [lap_len h]; omega
theorem many_rng {ns cs : List Int} {k j : Nat} (h : many true ns k = .ok cs j) : ∀ v ∈ cs, 0 ≤ v := by
  unfold many at h
  split at h
  · cases h
  · exact lap_rng h
theorem text_of (cs : List Int) : Txt.join (Str.ofString "") (cs.map chrOf) = ⟨(cs.map Int.toNat).toArray⟩ := by
  unfold Txt.join
  rw [StrLaws.glued_eq_join]
  have := join_nil_signs ⟨(cs.map Int.toNat).toArray⟩
  rw [show signs ⟨(cs.map Int.toNat).toArray⟩ = cs.map chrOf from by unfold signs; rw [List.map_map]; rfl] at this
  exact this
theorem sign_at {cs : List Int} {i ch : Nat} (h0 : ∀ v ∈ cs, 0 ≤ v) (h : (Str.mk (cs.map Int.toNat).toArray).cps[i]? = some ch) : cs.take (i + 1) = cs.take i ++ [(ch : Int)] := by
  have h : (cs.map Int.toNat).toArray[i]? = some ch := h
  rw [List.getElem?_toArray, List.getElem?_map] at h
  obtain ⟨v, hv, rfl⟩ := Option.map_eq_some_iff.mp h
  obtain ⟨hi, e⟩ := List.getElem?_eq_some_iff.mp hv
  rw [List.take_succ, hv, Int.toNat_of_nonneg (h0 v (List.mem_of_getElem? hv))]
  rfl

theorem kept_turn {g₁ : Heap} (H : At K p loose mean mg mb base h l told) (eg : g = hideAll h (told.map (·.1))) (T : KtsTurn (fr l) g g₁) (F : Fr g₁ L h' m) (N : News g₁ L h' news') (hn : ∀ q ∈ told, q ∈ news' ∨ q.1 ∈ ch) :
    (∀ b o, h.get? b = some o → b ∉ ch → b ∉ fr l → h'.get? b = some o) ∧ ∀ b o, h.get? b = some o → b ∈ fr l → ∃ sl, h'.get? b = some { o with slots := sl } := by
  subst eg
  refine ⟨fun b o e nb nf => ?_, fun b o e hf => ?_⟩
  · by_cases hm : b ∈ told.map (·.1)
    · obtain ⟨q, hq, rfl⟩ := List.mem_map.mp hm
      rw [(H.news q hq).1] at e; cases e
      rcases hn q hq with z | z
      · exact (N q z).1
      · exact absurd z nb
    · exact F.keep b o (T.other b o (hideAll_get _ e hm) nf)
  · obtain ⟨sl, hs⟩ := T.frame b o (hideAll_get _ e fun hm => by
      obtain ⟨q, hq, rfl⟩ := List.mem_map.mp hm
      exact (H.news q hq).2.2 hf) hf
    exact ⟨sl, F.keep _ _ hs⟩
theorem turn_none {g₁ : Heap} {fs : List Addr} {b : Addr} (T : KtsTurn fs g g₁) (e : g₁.get? b = none) : g.get? b = none := by
  cases q : g.get? b with
  | none => rfl
  | some o =>
    obtain ⟨sl, hs⟩ := T.up q
    rw [e] at hs; cases hs
theorem fresh_turn {g₁ h : Heap} {T : Addr} {o : Obj} {fs : List Addr} (eg : g = hideAll h (told.map (·.1))) (Tn : KtsTurn fs g g₁) (N : News g₁ L h' news) (hm : (T, o) ∈ news) (hne : ∀ q ∈ told, q.1 ≠ T ∨ q.1 = dx) : ∀ o', h.get? T = some o' → T = dx := by
  subst eg
  intro o' q
  by_cases z : T ∈ told.map (·.1)
  · obtain ⟨y, hy, rfl⟩ := List.mem_map.mp z
    rcases hne y hy with z | z
    · exact absurd rfl z
    · exact z
  · have e := hideAll_get (told.map (·.1)) q z
    rw [turn_none Tn (N _ hm).2.2] at e; cases e

/-- what _law_told leaves of what it found -/
structure Left (h h' : Heap) (dx : Addr) (l : List Env) : Prop where
  keep : ∀ b o, h.get? b = some o → b ∉ [dx] → b ∉ fr l → h'.get? b = some o
  slots : ∀ b o, h.get? b = some o → b ∈ fr l → ∃ sl, h'.get? b = some { o with slots := sl }

theorem left_end (H : At K p loose mean mg mb base h l told) (eg : g = hideAll h (told.map (·.1))) (F : Fr g L h' m) (N : News g L h' news') (hn : ∀ q ∈ told, q ∈ news' ∨ q.1 ∈ [dx]) (hd : ∃ o, (dx, o) ∈ told) : Left h h' dx l :=
  ⟨fun b o q n1 _ => kept_end (ch := [dx]) H eg F N (fun q hq => (hn q hq).symm) b o q n1, fun b o q hb => ⟨o.slots, kept_end (ch := [dx]) H eg F N (fun q hq => (hn q hq).symm) b o q fun z => by
    obtain ⟨o', ho'⟩ := hd
    exact (H.news _ ho').2.2 (List.mem_singleton.mp z ▸ hb)⟩⟩

theorem c_told {chk : Bool} (H : At (hd.heap_39 w.params) p loose mean mg mb base s.heap l [(x, instObj 159 dx), (dx, dictOf (rdr w.params t1 t2 t3 da 0) 2), (da, listOf vs.toArray n)])
   (hi : IntsAre vs ns) (hlen : ns.length ≤ 1000)
   (okV : ∀ h' tk T D cs j ws nD u2 u3, many chk ns 0 = .ok cs j → Left s.heap h' dx l → h'.get? T = some (tupOf [.ref D, .int (j : Int) u2, .str (Str.ofString "") u3]) → h'.get? D = some (listOf ws nD) → IntsAre ws.toList cs → s.heap.get? T = none → s.heap.get? D = none → D ≠ T → R (.ok (.ret (.ref T))) { s with heap := h', toks := tk })
   (okB : ∀ h' tk T j wd u2 u3, many chk ns 0 = .bad j wd → Left s.heap h' dx l → h'.get? T = some (tupOf [.none, .int (j : Int) u2, .str wd u3]) → (∀ o, s.heap.get? T = some o → T = dx) → R (.ok (.ret (.ref T))) { s with heap := h', toks := tk }) :
   codeAny (model prog w) (Ar 2 l) (.call (.ref 182) ⟨[.ref x, .bool chk], []⟩) R s := by
  obtain ⟨_, _, _, _, _, _, _, _, _, _, _, h44⟩ := K44 w
  refine' enter H rfl ?k6 ?k7 ?k8 ?k9 ?kB ?_ ?c2 ?c3 ?c4 ?c5
  case k6 => k_is
  case k7 => k_is
  case k8 => show (420 : Nat) < recursionLimit; decide
  case k9 => first | exact BindsTo.of_eq rfl | exact binds_K (by k_in) rfl (by k_is) rfl rfl rfl
  case c5 => decide
  case kB => exact locs rfl
  case c2 => exact rfl
  case c3 => exact rfl
  case c4 => exact rfl
  intro g' L' h' eg eL F' N' B' X' T'
  dsimp only
  k_fold
  change Fr g' L' h' (fun y => List.lookup y [(Str.ofString "for_letters", .bool chk), (Str.ofString "reading", .ref x)]) at F'
  have d1 : @Ne Nat x dx := ne_news N' (by k_mem) (by k_mem) (by simp [okind])
  have d2 : @Ne Nat da dx := ne_news N' (by k_mem) (by k_mem) (by simp [okind])
  refine wpAny_execs_cons ?_
  refine wpAny_Try_except ?_
  rw [show (0 : Int) = ((0 : Nat) : Int) from rfl] at N'
  repeat' (first
    | ((with_reducible show wpAny _ _ (call (Value.ref 151) _) _ _ _); (try dsimp only [List.cons_append, List.nil_append]); (refine' use_text ?k0 ?k1 ?k2 ?k3 ?m1 ?m2 ?m3 ?k4 ?kf ?k5 ?k6 ?k7 _ ?k8 (fun h' tk' cs' j' u1' u2' eb' F' N' => ?_) (fun h' tk' e' j' wd' eb' XF => ?_); (case k0 => assumption); (case k1 => assumption); (case k2 => k_asm); (case k3 => k_asm); (case m1 => k_mem); (case m2 => k_mem); (case m3 => k_mem); (case k4 => exact rfl); (case kf => exact rfl); (case k5 => exact rfl); (case k6 => assumption); (case k7 => assumption); (case k8 => exact fun _ _ => by k_upd)); (all_goals ((try dsimp only); (try k_sweep))))
    | ((with_reducible show wpAny _ _ (call (Value.ref 156) _) _ _ _); (try dsimp only [List.cons_append, List.nil_append]); (refine' use_numbers ?k0 ?k1 ?k2 ?k3 ?m1 ?m2 ?m3 ?k4 ?kf ?k5 ?k6 ?k7 _ ?k8 (fun h' tk' cs' j' u1' D' ws' nD' eb' hw' F' N' lD' => ?_) (fun h' tk' e' j' wd' eb' XF => ?_); (case k0 => assumption); (case k1 => assumption); (case k2 => k_asm); (case k3 => k_asm); (case m1 => k_mem); (case m2 => k_mem); (case m3 => k_mem); (case k4 => exact rfl); (case kf => exact rfl); (case k5 => exact rfl); (case k6 => assumption); (case k7 => assumption); (case k8 => exact fun _ _ => by k_upd)); (all_goals ((try simp only [List.forall_mem_cons] at lD'); (try dsimp only); (try k_sweep))))
    | ((fail_if_success (with_reducible show wpAny _ _ (call (Value.ref _) _) _ _ _)); (fail_if_success (with_reducible show wpAny _ _ (exec (Stmt.While _ _ _ _) _) _ _ _)); (fail_if_success (with_reducible show wpAny _ _ (exec (Stmt.For _ _ _ _ _) _) _ _ _)); (fail_if_success (with_reducible show wpAny _ _ (pyIter (Value.ref _)) _ _ _)); (fail_if_success (with_reducible show wpAny _ _ (compareOp CmpOp.NotEq (Value.ref _) (Value.ref _)) _ _ _)); (fail_if_success (with_reducible show wpAny _ _ (eval (Expr.ListComp _ _ _ _) _) _ _ _)); (fail_if_success (with_reducible show wpAny _ _ (exec (Stmt.Try _ _ _ _ _) _) _ _ _)); (first | (k_unfold; (try dsimp only)) | walk1 | (dsimp only; walk1) | (dsimp only; k_unfold; (try dsimp only)) | (leave1; walk_say "STEP leave1"; try dsimp only)))
    | fail "no step")
  · refine comp_rule (g := g') (L := L') (cl := []) rfl ?hclos (by decide) rfl (by decide) rfl ?_ (by intro _; rfl)
    case hclos => rfl
    repeat' (first
    | ((fail_if_success (with_reducible show wpAny _ _ (call (Value.ref _) _) _ _ _)); (fail_if_success (with_reducible show wpAny _ _ (exec (Stmt.While _ _ _ _) _) _ _ _)); (fail_if_success (with_reducible show wpAny _ _ (exec (Stmt.For _ _ _ _ _) _) _ _ _)); (fail_if_success (with_reducible show wpAny _ _ (pyIter (Value.ref _)) _ _ _)); (fail_if_success (with_reducible show wpAny _ _ (compareOp CmpOp.NotEq (Value.ref _) (Value.ref _)) _ _ _)); (fail_if_success (with_reducible show wpAny _ _ (eval (Expr.ListComp _ _ _ _) _) _ _ _)); (fail_if_success (with_reducible show wpAny _ _ (exec (Stmt.Try _ _ _ _ _) _) _ _ _)); (first | (k_unfold; (try dsimp only)) | walk1 | (dsimp only; walk1) | (dsimp only; k_unfold; (try dsimp only)) | (leave1; walk_say "STEP leave1"; try dsimp only)))
    | fail "no step")
    (rename Fr _ _ _ _ => F9); (rename News _ _ _ _ => N9)
    have hr9 := many_rng eb'
    have hl9 : (Str.mk (cs'.map Int.toNat).toArray).length ≤ 1000 := by
      show (cs'.map Int.toNat).toArray.size ≤ 1000
      rw [List.size_toArray, List.length_map]; exact Nat.le_trans (many_len eb') hlen
    rw [text_of]
    refine comp_str (σ := Unit) (fun _ => [(x, instObj 159 dx), (dx, dictOf (rdr w.params t1 t2 u1' da (j' : Int)) 2), (da, listOf vs.toArray n)])
      (fun i ys _ => IntsAre ys (cs'.take i)) () rfl ?hle F9 N9 (fun _ => rfl) (by repeat (first | exact List.forall_mem_nil _ | refine List.forall_mem_cons.mpr ⟨by first | k_mem | rfl, ?_⟩)) .nil ?_ ?_
    case hle => rw [sizeLine_eq]; exact Nat.le_trans hl9 (by omega)
    · rintro i t ys _ I oI C oC D m₂ h₁ tk₁ ch9 e9 hy9 q1 hM hm₂ F1 N1 l9 l10 l11
      try dsimp only at q1 F1 N1 l9
      (replace l9 := allLt_of l9); (simp only [AllLt, and_true] at l9)
      repeat' (first
    | ((fail_if_success (with_reducible show wpAny _ _ (call (Value.ref _) _) _ _ _)); (fail_if_success (with_reducible show wpAny _ _ (exec (Stmt.While _ _ _ _) _) _ _ _)); (fail_if_success (with_reducible show wpAny _ _ (exec (Stmt.For _ _ _ _ _) _) _ _ _)); (fail_if_success (with_reducible show wpAny _ _ (pyIter (Value.ref _)) _ _ _)); (fail_if_success (with_reducible show wpAny _ _ (compareOp CmpOp.NotEq (Value.ref _) (Value.ref _)) _ _ _)); (fail_if_success (with_reducible show wpAny _ _ (eval (Expr.ListComp _ _ _ _) _) _ _ _)); (fail_if_success (with_reducible show wpAny _ _ (exec (Stmt.Try _ _ _ _ _) _) _ _ _)); (first | (k_unfold; (try dsimp only)) | walk1 | (dsimp only; walk1) | (dsimp only; k_unfold; (try dsimp only)) | (leave1; walk_say "STEP leave1"; try dsimp only)))
    | fail "no step")
      (rename Fr _ _ _ _ => F9); (rename News _ _ _ _ => N9)
      exact ⟨(), _, _, _, rfl, F9, N9, (by repeat (first | exact List.forall_mem_nil _ | refine List.forall_mem_cons.mpr ⟨by first | k_mem | rfl, ?_⟩)), by rw [sign_at hr9 e9]; exact q1.append (.cons _ _ .nil)⟩
    · rintro ys _ D h₁ tk₁ q1 F1 N1 l9
      try dsimp only at q1 F1 N1 l9
      (replace l9 := allLt_of l9); (simp only [AllLt, and_true] at l9)
      repeat' (first
    | ((fail_if_success (with_reducible show wpAny _ _ (call (Value.ref _) _) _ _ _)); (fail_if_success (with_reducible show wpAny _ _ (exec (Stmt.While _ _ _ _) _) _ _ _)); (fail_if_success (with_reducible show wpAny _ _ (exec (Stmt.For _ _ _ _ _) _) _ _ _)); (fail_if_success (with_reducible show wpAny _ _ (pyIter (Value.ref _)) _ _ _)); (fail_if_success (with_reducible show wpAny _ _ (compareOp CmpOp.NotEq (Value.ref _) (Value.ref _)) _ _ _)); (fail_if_success (with_reducible show wpAny _ _ (eval (Expr.ListComp _ _ _ _) _) _ _ _)); (fail_if_success (with_reducible show wpAny _ _ (exec (Stmt.Try _ _ _ _ _) _) _ _ _)); (first | (k_unfold; (try dsimp only)) | walk1 | (dsimp only; walk1) | (dsimp only; k_unfold; (try dsimp only)) | (leave1; walk_say "STEP leave1"; try dsimp only)))
    | fail "no step")
      (rename Fr _ _ _ _ => F9); (rename News _ _ _ _ => N9)
      rw [show (Str.mk (cs'.map Int.toNat).toArray).length = cs'.length from by show (cs'.map Int.toNat).toArray.size = _; rw [List.size_toArray, List.length_map], List.take_length] at q1
      exact okV _ _ _ D cs' j' ys.toArray _ _ _ (by rw [show chk = true from by assumption]; exact eb') (left_end H eg F9 N9 (by repeat (first | exact List.forall_mem_nil _ | refine List.forall_mem_cons.mpr ⟨by first | exact .inl (by k_mem) | exact .inr (by k_mem), ?_⟩)) ⟨_, .tail _ (.head _)⟩) (N9 _ (.head _)).1 (N9 _ (.tail _ (.head _))).1 q1 (fresh_end eg N9 (.head _) (by k_all)) (fresh_end eg N9 (.tail _ (.head _)) (by k_all)) (by k_ne)
  · (rename Fr _ _ _ _ => F9); (rename News _ _ _ _ => N9)
    refine' caught (keep := [(x, instObj 159 dx), (da, listOf vs.toArray n)]) (P := w.params) B' F9 N9 XF H.X H.T ?c1 ?c2 h44 rfl ?c4 ?_
    case c1 => exact fun b z => by rw [List.mem_singleton.mp z]; exact ⟨_, .tail _ (.head _)⟩
    case c2 => exact List.forall_mem_cons.mpr ⟨⟨.head _, fun z => absurd (List.mem_singleton.mp z) d1⟩, List.forall_mem_cons.mpr ⟨⟨.tail _ (.tail _ (.head _)), fun z => absurd (List.mem_singleton.mp z) d2⟩, List.forall_mem_nil _⟩⟩
    case c4 => k_is
    rintro h₉ g₉ tk₉ d oe es ⟨o1, o2, o3, o4, t4, t5, t6, t7, rfl⟩ T9 F8 N8 B8 X8 T8 ed lk
    simp only [List.forall_mem_cons] at lk
    clear F9 N9
    repeat' (first
    | ((with_reducible show wpAny _ _ (getAttr (Value.ref _) (Str.ofString "at") _) _ _ _); refine' get_at ?F ?X ?N ?m1 ?m2 ?o1 ?o2 ?o3 ?_; (case F => k_asm); (case X => k_asm); (case N => k_asm); (case m1 => k_mem); (case m2 => k_mem); (case o1 => assumption); (case o2 => assumption); (case o3 => assumption); (try dsimp only))
    | ((with_reducible show wpAny _ _ (getAttr (Value.ref _) (Str.ofString "what") _) _ _ _); refine' get_what ?F ?X ?N ?m1 ?m2 ?o1 ?o2 ?o3 ?_; (case F => k_asm); (case X => k_asm); (case N => k_asm); (case m1 => k_mem); (case m2 => k_mem); (case o1 => assumption); (case o2 => assumption); (case o3 => assumption); (try dsimp only))
    | ((fail_if_success (with_reducible show wpAny _ _ (call (Value.ref _) _) _ _ _)); (fail_if_success (with_reducible show wpAny _ _ (exec (Stmt.While _ _ _ _) _) _ _ _)); (fail_if_success (with_reducible show wpAny _ _ (exec (Stmt.For _ _ _ _ _) _) _ _ _)); (fail_if_success (with_reducible show wpAny _ _ (pyIter (Value.ref _)) _ _ _)); (fail_if_success (with_reducible show wpAny _ _ (compareOp CmpOp.NotEq (Value.ref _) (Value.ref _)) _ _ _)); (fail_if_success (with_reducible show wpAny _ _ (eval (Expr.ListComp _ _ _ _) _) _ _ _)); (fail_if_success (with_reducible show wpAny _ _ (exec (Stmt.Try _ _ _ _ _) _) _ _ _)); (first | (k_unfold; (try dsimp only)) | walk1 | (dsimp only; walk1) | (dsimp only; k_unfold; (try dsimp only)) | (leave1; walk_say "STEP leave1"; try dsimp only)))
    | fail "no step")
    (rename Fr _ _ _ _ => F9); (rename News _ _ _ _ => N9)
    have z := kept_turn (ch := [dx]) H eg T9 F9 N9 (by repeat (first | exact List.forall_mem_nil _ | refine List.forall_mem_cons.mpr ⟨by first | exact .inl (by k_mem) | exact .inr (by k_mem), ?_⟩))
    exact okB _ _ _ _ _ _ _ (by rw [show chk = true from by assumption]; exact eb') ⟨z.1, z.2⟩ (N9 _ (.head _)).1 (fresh_turn eg T9 N9 (.head _) (List.forall_mem_cons.mpr ⟨.inl (by k_ne), List.forall_mem_cons.mpr ⟨.inr rfl, List.forall_mem_cons.mpr ⟨.inl (by k_ne), List.forall_mem_nil _⟩⟩⟩))
  · (rename Fr _ _ _ _ => F9); (rename News _ _ _ _ => N9)
    exact okV _ _ _ D' cs' j' _ _ _ _ (by rw [show chk = false from by assumption]; exact eb') (left_end H eg F9 N9 (by repeat (first | exact List.forall_mem_nil _ | refine List.forall_mem_cons.mpr ⟨by first | exact .inl (by k_mem) | exact .inr (by k_mem), ?_⟩)) ⟨_, .tail _ (.head _)⟩) (N9 _ (.head _)).1 (N9 _ (.tail _ (.head _))).1 hw' (fresh_end eg N9 (.head _) (by k_all)) (fresh_end eg N9 (.tail _ (.head _)) (by k_all)) (by k_ne)
  · (rename Fr _ _ _ _ => F9); (rename News _ _ _ _ => N9)
    refine' caught (keep := [(x, instObj 159 dx), (da, listOf vs.toArray n)]) (P := w.params) B' F9 N9 XF H.X H.T ?c1 ?c2 h44 rfl ?c4 ?_
    case c1 => exact fun b z => by rw [List.mem_singleton.mp z]; exact ⟨_, .tail _ (.head _)⟩
    case c2 => exact List.forall_mem_cons.mpr ⟨⟨.head _, fun z => absurd (List.mem_singleton.mp z) d1⟩, List.forall_mem_cons.mpr ⟨⟨.tail _ (.tail _ (.head _)), fun z => absurd (List.mem_singleton.mp z) d2⟩, List.forall_mem_nil _⟩⟩
    case c4 => k_is
    rintro h₉ g₉ tk₉ d oe es ⟨o1, o2, o3, o4, t4, t5, t6, t7, rfl⟩ T9 F8 N8 B8 X8 T8 ed lk
    simp only [List.forall_mem_cons] at lk
    clear F9 N9
    repeat' (first
    | ((with_reducible show wpAny _ _ (getAttr (Value.ref _) (Str.ofString "at") _) _ _ _); refine' get_at ?F ?X ?N ?m1 ?m2 ?o1 ?o2 ?o3 ?_; (case F => k_asm); (case X => k_asm); (case N => k_asm); (case m1 => k_mem); (case m2 => k_mem); (case o1 => assumption); (case o2 => assumption); (case o3 => assumption); (try dsimp only))
    | ((with_reducible show wpAny _ _ (getAttr (Value.ref _) (Str.ofString "what") _) _ _ _); refine' get_what ?F ?X ?N ?m1 ?m2 ?o1 ?o2 ?o3 ?_; (case F => k_asm); (case X => k_asm); (case N => k_asm); (case m1 => k_mem); (case m2 => k_mem); (case o1 => assumption); (case o2 => assumption); (case o3 => assumption); (try dsimp only))
    | ((fail_if_success (with_reducible show wpAny _ _ (call (Value.ref _) _) _ _ _)); (fail_if_success (with_reducible show wpAny _ _ (exec (Stmt.While _ _ _ _) _) _ _ _)); (fail_if_success (with_reducible show wpAny _ _ (exec (Stmt.For _ _ _ _ _) _) _ _ _)); (fail_if_success (with_reducible show wpAny _ _ (pyIter (Value.ref _)) _ _ _)); (fail_if_success (with_reducible show wpAny _ _ (compareOp CmpOp.NotEq (Value.ref _) (Value.ref _)) _ _ _)); (fail_if_success (with_reducible show wpAny _ _ (eval (Expr.ListComp _ _ _ _) _) _ _ _)); (fail_if_success (with_reducible show wpAny _ _ (exec (Stmt.Try _ _ _ _ _) _) _ _ _)); (first | (k_unfold; (try dsimp only)) | walk1 | (dsimp only; walk1) | (dsimp only; k_unfold; (try dsimp only)) | (leave1; walk_say "STEP leave1"; try dsimp only)))
    | fail "no step")
    (rename Fr _ _ _ _ => F9); (rename News _ _ _ _ => N9)
    have z := kept_turn (ch := [dx]) H eg T9 F9 N9 (by repeat (first | exact List.forall_mem_nil _ | refine List.forall_mem_cons.mpr ⟨by first | exact .inl (by k_mem) | exact .inr (by k_mem), ?_⟩))
    exact okB _ _ _ _ _ _ _ (by rw [show chk = false from by assumption]; exact eb') ⟨z.1, z.2⟩ (N9 _ (.head _)).1 (fresh_turn eg T9 N9 (.head _) (List.forall_mem_cons.mpr ⟨.inl (by k_ne), List.forall_mem_cons.mpr ⟨.inr rfl, List.forall_mem_cons.mpr ⟨.inl (by k_ne), List.forall_mem_nil _⟩⟩⟩))
end
end Mine

namespace Mine

theorem fill21 : Challenge.rw_pb0317_01.prog = Challenge.rw_pb0317_01.prog ∧ hd.heap_39 = hd.heap_39 := by
  k_fill
  exact ⟨rfl, rfl⟩

section
variable {K : Frag} {p : Program} {loose : List Str} {mean : ExcName → Option Value} {mg mb : Str → Option Value} {base g h' : Heap} {l outer : List Env} {told news news' keep : List (Addr × Obj)} {L a : Addr} {m : Str → Option Value} {ch : List Addr}
variable {prog : Program} {w : World} {s : Shared} {R : Result → Shared → Prop} {x dx da : Addr} {t1 t2 t3 : Tok} {k n : Nat} {i : Int} {vs : List Value} {ns : List Int}
variable {k₀ : Nat} {s₀ : Heap} {l₀ : List Env} {told₀ : List (Addr × Obj)} {A₀ : Around} {E Q : Value → Shared → Prop} {env : Env}

theorem left_frame {h : Heap} (F : Fr g L h m) (N : News g L h news) (X : Left h h' dx [env]) (hf : env.frame = some L) (md : ∃ o, (dx, o) ∈ news) (hkp : ∀ q ∈ keep, q ∈ news ∧ @Ne Nat q.1 dx) :
    Fr g L h' m ∧ News g L h' keep := by
  obtain ⟨o, md⟩ := md
  have nd := (N _ md).2
  have nf : ∀ b, b ≠ L → b ∉ fr [env] := fun b hb z => by
    rcases fr_cons hf z with z | z
    · exact hb z
    · cases z
  have mL : L ∈ fr [env] := List.mem_filterMap.mpr ⟨env, .head _, hf⟩
  refine ⟨?_, fun q hq => ?_⟩
  · obtain ⟨oL, es, ep, hL, r⟩ := F.ns
    obtain ⟨sl, hs⟩ := X.slots L oL hL mL
    refine ⟨⟨_, es, ep, hs, r⟩, fun b o q => X.keep b o (F.keep b o q) (fun z => ?_) (nf b fun z => ?_), F.above⟩
    · rw [List.mem_singleton.mp z, nd.2] at q; cases q
    · rw [z] at q
      exact absurd (Nat.lt_of_lt_of_le (Heap.lt_size q) F.above) (Nat.lt_irrefl _)
  · obtain ⟨h1, h2⟩ := hkp q hq
    exact ⟨X.keep _ _ (N q h1).1 (fun z => h2 (List.mem_singleton.mp z)) (nf _ (N q h1).2.1), (N q h1).2⟩

theorem use_told {chk : Bool} (H₀ : At (hd.heap_39 w.params) p loose mean mg mb base s₀ l₀ told₀) (B : Below A₀ base [] g) (F : Fr g L s.heap m) (N : News g L s.heap news)
    (m1 : (x, instObj 159 dx) ∈ news) (m2 : (dx, dictOf (rdr w.params t1 t2 t3 da 0) 2) ∈ news) (m3 : (da, listOf vs.toArray n) ∈ news) (h2 : Nat.ble (k₀ + 1) 2 = true) (hf : env.frame = some L) (hk : env.scope.kind = .function)
    (hi : IntsAre vs ns) (hlen : ns.length ≤ 1000) (keep : List (Addr × Obj)) (hkp : ∀ q ∈ keep, q ∈ news ∧ @Ne Nat q.1 dx)
    (okV : ∀ h' tk T D cs j ws nD u2 u3, many chk ns 0 = .ok cs j → IntsAre ws.toList cs → Fr g L h' m → News g L h' ((T, tupOf [.ref D, .int (j : Int) u2, .str (Str.ofString "") u3]) :: (D, listOf ws nD) :: keep) → (∀ q ∈ keep, @Ne Nat q.1 T ∧ @Ne Nat q.1 D) → @Ne Nat D T → Q (.ref T) { s with heap := h', toks := tk })
    (okB : ∀ h' tk T j wd u2 u3, many chk ns 0 = .bad j wd → Fr g L h' m → News g L h' ((T, tupOf [.none, .int (j : Int) u2, .str wd u3]) :: keep) → (∀ q ∈ keep, @Ne Nat q.1 T) → Q (.ref T) { s with heap := h', toks := tk }) :
    wpAny (model prog w) ((Ar k₀ []).deeper env) (call (.ref 182) [.ref x, .bool chk]) Q E s := by
  have fresh : ∀ T, (∀ o, s.heap.get? T = some o → T = dx) → T ≠ L ∧ g.get? T = none ∧ ∀ q ∈ keep, @Ne Nat q.1 T := fun T fT => by
    refine ⟨fun z => ?_, ?_, fun q hq z => ?_⟩
    · obtain ⟨oL, _, _, hL, _⟩ := F.ns
      exact (N _ m2).2.1 ((fT oL (z ▸ hL)).symm.trans z)
    · cases q : g.get? T with
      | none => rfl
      | some o =>
        have := fT o (F.keep _ _ q)
        rw [this, (N _ m2).2.2] at q; cases q
    · obtain ⟨h1, h2⟩ := hkp q hq
      exact h2 (z.trans (fT q.2 (z ▸ (N q h1).1)))
  refine use (kc := 2) (small := [(x, instObj 159 dx), (dx, dictOf (rdr w.params t1 t2 t3 da 0) 2), (da, listOf vs.toArray n)]) H₀ B F N (List.forall_mem_cons.mpr ⟨m1, List.forall_mem_cons.mpr ⟨m2, List.forall_mem_cons.mpr ⟨m3, List.forall_mem_nil _⟩⟩⟩) h2 hf hk
    fun H => c_told H hi hlen (fun h' tk T D cs j ws nD u2 u3 e X g1 g2 hw fT fD hDT => ?_) fun h' tk T j wd u2 u3 e X g1 fT => ?_
  · have z := left_frame F N X hf ⟨_, m2⟩ hkp
    obtain ⟨a1, a2, a3⟩ := fresh T fun o q => by rw [fT] at q; cases q
    obtain ⟨b1, b2, b3⟩ := fresh D fun o q => by rw [fD] at q; cases q
    exact okV h' tk T D cs j ws nD u2 u3 e hw z.1 (List.forall_mem_cons.mpr ⟨⟨g1, a1, a2⟩, List.forall_mem_cons.mpr ⟨⟨g2, b1, b2⟩, z.2⟩⟩) (fun q hq => ⟨a3 q hq, b3 q hq⟩) hDT
  · have z := left_frame F N X hf ⟨_, m2⟩ hkp
    obtain ⟨a1, a2, a3⟩ := fresh T fT
    exact okB h' tk T j wd u2 u3 e z.1 (List.forall_mem_cons.mpr ⟨⟨g1, a1, a2⟩, z.2⟩) a3

theorem use_many {chk : Bool} (H₀ : At (hd.heap_39 w.params) p loose mean mg mb base s₀ l₀ told₀) (B : Below A₀ base outer g) (F : Fr g L s.heap m) (N : News g L s.heap news)
    (m1 : (da, listOf vs.toArray n) ∈ news) (h2 : Nat.ble (k₀ + 1) 4 = true) (hf : env.frame = some L) (hk : env.scope.kind = .function) (hi : IntsAre vs ns) (hlen : ns.length ≤ 1000)
    (okV : ∀ h' tk T D cs j ws nD u2 u3, many chk ns 0 = .ok cs j → IntsAre ws.toList cs → Fr g L h' m → News g L h' ((T, tupOf [.ref D, .int (j : Int) u2, .str (Str.ofString "") u3]) :: (D, listOf ws nD) :: news) → (∀ q ∈ news, @Ne Nat q.1 T ∧ @Ne Nat q.1 D) → @Ne Nat D T → Q (.ref T) { s with heap := h', toks := tk })
    (okB : ∀ h' tk T j wd u2 u3, many chk ns 0 = .bad j wd → Fr g L h' m → News g L h' ((T, tupOf [.none, .int (j : Int) u2, .str wd u3]) :: news) → (∀ q ∈ news, @Ne Nat q.1 T) → Q (.ref T) { s with heap := h', toks := tk }) :
    wpAny (model prog w) ((Ar k₀ outer).deeper env) (call (.ref 177) [.ref da, .bool chk]) Q E s :=
  use (kc := 4) (small := [(da, listOf vs.toArray n)]) H₀ B F N (List.forall_mem_cons.mpr ⟨m1, List.forall_mem_nil _⟩) h2 hf hk
    fun H => c_many H hi hlen (fun h' tk T D cs j ws nD u2 u3 e kp g1 g2 hw fT fD hDT => by
      have z := back (news' := (T, _) :: (D, _) :: news) (S := []) F N (fun b o e _ => kp b o e) (fun _ z => nomatch z) fun q hq => by
        rcases List.mem_cons.mp hq with rfl | hq
        · exact ⟨g1, .inr fT⟩
        · rcases List.mem_cons.mp hq with rfl | hq
          · exact ⟨g2, .inr fD⟩
          · exact ⟨kp _ _ (N q hq).1, .inl ⟨_, hq⟩⟩
      exact okV h' tk T D cs j ws nD u2 u3 e hw z.1 z.2 (fun q hq => ⟨fresh_ne N fT q hq, fresh_ne N fD q hq⟩) hDT)
      fun h' tk T j wd u2 u3 e kp g1 fT => (fun z => okB h' tk T j wd u2 u3 e z.1 z.2 (fresh_ne N fT)) (back_new F N kp g1 fT)
end
end Mine

namespace Mine

open PySem.SeqAt PySem.Spec
theorem any_in {M : Model} {A A' : Around} {α : Type} {x : Sem α} {Q : α → Shared → Prop} {E : Value → Shared → Prop} {s : Shared} (h : wpAny M A' x Q E s) (h1 : A.handled = A'.handled) (h2 : A.depth ≤ A'.depth) (h3 : A.frames = A'.frames) (h4 : A.guards = A'.guards) (h5 : A.units ≤ A'.units) : wpAny M A x Q E s :=
  fun Γ p i => h Γ p ⟨i.1.trans h1, Nat.le_trans i.2.1 h2, fun l e => i.2.2.1 l (h3.trans e), fun g e => i.2.2.2.1 g (h4.trans e), Nat.le_trans i.2.2.2.2 h5⟩

/-! ### the words -/
theorem num_strOk {ns : List Int} {k j : Nat} {wd : Str} (e : num ns k = .bad j wd) : PyData.strOk wd = true := by
  rw [← num_lone] at e
  have fin_w : ∀ gs j' , fin gs j' = .bad j wd → PyData.strOk wd = true := by
    intro gs j' h
    unfold fin at h
    split at h
    · cases h; decide +kernel
    · cases h
  have go : ∀ (n k : Nat) (gs : List Int), ns.length - k = n → lone gs ns k = .bad j wd → PyData.strOk wd = true := by
    intro n
    induction n using Nat.strongRecOn with
    | ind n ih =>
      intro k gs hn h
      cases hb : byteAt ns k with
      | bad j' wd' =>
        rw [lone_bad hb] at h
        cases h
        unfold byteAt at hb
        split at hb
        · cases hb; decide +kernel
        · split at hb
          · cases hb; decide +kernel
          · cases hb
      | ok v j' =>
        have hl := byteAt_lt hb
        rw [lone_ok hb] at h
        split at h
        · exact fin_w _ _ h
        · exact ih (ns.length - j') (by omega) j' _ rfl h
  exact go _ k [] rfl e
theorem cnt_strOk {ns : List Int} {k j : Nat} {wd : Str} (e : cnt ns k = .bad j wd) : PyData.strOk wd = true := by
  unfold cnt at e
  split at e
  · rename_i h; cases e; exact num_strOk h
  · split at e
    · cases e; decide +kernel
    · cases e
theorem lap_strOk {chk : Bool} {ns : List Int} {wd : Str} : ∀ {c k j : Nat}, lap chk ns c k = .bad j wd → PyData.strOk wd = true
  | 0, _, _, h => by cases h
  | c + 1, k, j, h => by
    unfold lap at h
    split at h
    · rename_i e; cases h; exact num_strOk e
    · split at h
      · cases h; decide +kernel
      · split at h
        · rename_i e; cases h; exact lap_strOk e
        · cases h
theorem many_strOk {chk : Bool} {ns : List Int} {k j : Nat} {wd : Str} (e : many chk ns k = .bad j wd) : PyData.strOk wd = true := by
  unfold many at e
  split at e
  · rename_i h; cases e; exact cnt_strOk h
  · exact lap_strOk e

section
variable {K : Frag} {p : Program} {loose : List Str} {mean : ExcName → Option Value} {mg mb : Str → Option Value} {base g h' : Heap} {l outer : List Env} {told news news' keep : List (Addr × Obj)} {L a : Addr} {m : Str → Option Value} {ch : List Addr}
variable {prog : Program} {w : World} {s : Shared} {R : Result → Shared → Prop} {x dx da : Addr} {t1 t2 t3 : Tok} {k n : Nat} {i : Int} {vs : List Value} {ns : List Int}
variable {k₀ : Nat} {s₀ : Heap} {l₀ : List Env} {told₀ : List (Addr × Obj)} {A : Around} {E Q : Value → Shared → Prop} {env : Env}

/-- two tuples that hold the same data are not unlike -/
theorem ne_same {a b : Value} {d : PyData} {as bs : List Addr} (h1 : Reads s.heap a d as) (h2 : Reads s.heap b d bs) (hs : shaped d = true) (hu : A.units + 64 < cLine) (h : Q (.bool false) s) :
    wpAny (model prog w) A (compareOp .NotEq a b) Q E s :=
  ne_dataH h1 h2 hs hs hu (by
    have hc : d.canLay0 = true := (Bool.and_eq_true_iff.mp hs).1
    rw [PySem.SeqAt.eqv_refl d hc]; exact h)

theorem reads_none {h : Heap} {T : Addr} {j : Nat} {wd : Str} {u2 u3 : Tok} (g : h.get? T = some (tupOf [.none, .int (j : Int) u2, .str wd u3])) : Reads h (.ref T) (.tuple [.none, .int j, .str wd]) [] :=
  reads_tuple_at g rfl rfl (.cons .none (.cons (.int _ _) (.cons (.str _ _) .nil)))
theorem reads_many {h : Heap} {T D : Addr} {j n : Nat} {wd : Str} {u2 u3 : Tok} {ws : Array Value} {cs : List Int} (g : h.get? T = some (tupOf [.ref D, .int (j : Int) u2, .str wd u3])) (g2 : h.get? D = some (listOf ws n)) (hi : IntsAre ws.toList cs) :
    ∃ as, Reads h (.ref T) (.tuple [.list (cs.map PyData.int), .int j, .str wd]) as :=
  ⟨_, reads_tuple_at g rfl rfl (.cons (reads_list_at g2 rfl rfl (readsAll_of_ints hi)) (.cons (.int _ _) (.cons (.str _ _) .nil)))⟩
theorem shaped_none {j : Int} {wd : Str} (h : PyData.strOk wd = true) : shaped (.tuple [.none, .int j, .str wd]) = true := by
  simp [shaped, PyData.canLay0, PyData.canLayAll0, PyData.depth, PyData.depthAll, h]
theorem shaped_many {j : Int} {cs : List Int} : shaped (.tuple [.list (cs.map PyData.int), .int j, .str (Str.ofString "")]) = true := by
  have h1 := PySem.W.depthAll_ints cs
  have h2 : PyData.strOk (Str.ofString "") = true := by decide +kernel
  refine Bool.and_eq_true_iff.mpr ⟨?_, decide_eq_true ?_⟩
  · simp only [PyData.canLay0, PyData.canLayAll0, h2, PySem.W.canLayAll0_ints, Bool.and_true]
  · simp only [PyData.depth, PyData.depthAll]; omega

theorem ne_lists {a b : Addr} {ws us : Array Value} {k l : Nat} {cs : List Int} (g1 : s.heap.get? a = some (listOf ws k)) (g2 : s.heap.get? b = some (listOf us l)) (h1 : IntsAre ws.toList cs) (h2 : IntsAre us.toList cs) (hu : A.units + 64 < cLine) (h : Q (.bool false) s) :
    wpAny (model prog w) A (compareOp .NotEq (.ref a) (.ref b)) Q E s :=
  ne_same (reads_list_at g1 rfl rfl (readsAll_of_ints h1)) (reads_list_at g2 rfl rfl (readsAll_of_ints h2)) (PySem.W.shaped_ints cs) hu h
theorem done_same {j n : Nat} (h : j ≤ n) : (decide ((n : Int) ≤ (j : Int)) != ((j : Int) == (n : Int))) = false := by
  have e : decide ((n : Int) ≤ (j : Int)) = ((j : Int) == (n : Int)) := by rw [Bool.eq_iff_iff]; simp only [decide_eq_true_eq, beq_iff_eq]; omega
  rw [e]; simp

/-- a for over the list [False, True] -/
theorem for_bools {ax : Addr} {lo : Obj} {x : Str} {body : List Stmt} {Q : Flow → Shared → Prop} {m₀ : Str → Option Value} (ps : List (Str × Value)) (led : List (Addr × Obj)) (hh : A.handled = none) (F : Fr g env.locals s.heap m₀) (N : News g env.locals s.heap news)
    (hm : (ax, lo) ∈ led) (hc : lo.cls = .type "list") (hd : lo.data = .seq [Value.bool false, Value.bool true].toArray n) (hn : ∀ q ∈ led, q ∈ news) (hk : ∀ q ∈ ps, m₀ q.1 = some q.2) (hps : ps.all (fun q => q.1 != x) = true)
    (turn : ∀ chk I it (u : Str → Option Value) h tk, Fr g env.locals h (kstB u ((x, .bool chk) :: ps)) → News g env.locals h ((I, it) :: led) → (∀ q ∈ led, @LT.lt Nat _ q.1 I) →
      wpAny (model prog w) A (execs body env) (FoEnd g env.locals { s with heap := h, toks := tk } (fun _ : Unit => ps) (fun _ => led) (fun _ => True) I it Q) E { s with heap := h, toks := tk })
    (done : ∀ (u : Str → Option Value) h tk, Fr g env.locals h (kstB u ps) → News g env.locals h led → Q .next { s with heap := h, toks := tk }) :
    wpAny (model prog w) A (pyIter (.ref ax)) (fun it s₂ => LoopAtV prog w A g env x body Q E it s₂) E s := by
  refine iter_listUnr (vs := [.bool false, .bool true]) (news := led) hh F (fun q hq => N q (hn q hq)) hm hc hd fun I hI => ?_
  have step : ∀ (chk : Bool) (r : List Value) (m₁ : Str → Option Value), (∀ q ∈ ps, m₁ q.1 = some q.2) → (∀ m₂ : Str → Option Value, (∀ q ∈ ps, m₂ q.1 = some q.2) → ListRest prog w A E g env x body Q s I (ax, lo) r m₂ led) →
      ListRest prog w A E g env x body Q s I (ax, lo) (.bool chk :: r) m₁ led := by
    intro chk r m₁ hk₁ next it h tk hit F₁ N₁
    have hx : ∀ q ∈ (x, Value.bool chk) :: ps, (fun y => if y = x then some (Value.bool chk) else m₁ y) q.1 = some q.2 := List.forall_mem_cons.mpr ⟨if_pos rfl, fun q hq => by
      have := List.all_eq_true.mp hps q hq
      have hne : q.1 ≠ x := by simpa using this
      dsimp only
      rw [if_neg hne]; exact hk₁ q hq⟩
    refine wpAny_mono (turn chk I it _ h tk (known F₁ hx) N₁ hI) (fun f s₂ p => ?_) fun _ _ e => e
    have fin : (∃ (c' : Unit) (h' : Heap) (tk' : Nat) (m' : Str → Option Value) (news' : List (Addr × Obj)), s₂ = { s with heap := h', toks := tk' } ∧ Fr g env.locals h' m' ∧ News g env.locals h' news' ∧ (∀ q ∈ (I, it) :: led, q ∈ news') ∧ (∀ q ∈ ps, m' q.1 = some q.2) ∧ True) →
        UnrEnd g env.locals { s with heap := h, toks := tk } I it (fun m' n' => (ax, lo) ∈ n' ∧ ListRest prog w A E g env x body Q s I (ax, lo) r m' n') s₂ := by
      rintro ⟨_, h', tk', m', news', rfl, F', N', y1, y2, _⟩
      exact ⟨h', tk', m', led, rfl, F', fun q hq => N' q (y1 q hq), fun q hq => Nat.ne_of_lt (hI q hq), hm, next m' y2⟩
    cases f with
    | ret v => exact p
    | brk => exact p
    | next => exact fin p
    | cont => exact fin p
  exact step false _ _ hk fun m₂ hk₂ => step true _ _ hk₂ fun m₃ hk₃ h tk F' N' => done m₃ h tk (known F' hk₃) N'
end
end Mine

namespace Mine

structure LSt where
  k : Nat
  t : Tok
  u : Tok
  tw : Tok

theorem cw : Challenge.rw_pb0317_01.Holds := hd (by
  k_go0
  all_goals try k_fold
  (rename Fr _ _ _ _ => F9); (rename News _ _ _ _ => N9); (rename Below _ _ _ _ => K9); (rename Frag.In _ _ => X9); (rename Top _ _ _ _ _ _ => T9); (rename IntsAre _ _ => I9); (rename Heap.IsList _ _ _ => L9)
  (rename Shared => s9)
  have H₀ := At.mk (K := hd.heap_39 _) (l := []) (news := []) (fun _ _ e => e) trivial X9 T9 (fun _ z => nomatch z)
  have B9 : Below (Ar 0 []) _ [] _ := ⟨rfl, K9.stays, K9.frames⟩
  clear K9
  refine wpAny_mono (E := fun _ _ => False) (any_in (A' := (Ar 0 []).deeper _) ?_ rfl (Nat.le_of_ble_eq_true rfl) rfl rfl (Nat.le_of_ble_eq_true rfl)) (fun _ _ h => h) (fun _ _ h => h.elim)
  repeat' (first
    | ((fail_if_success (with_reducible show wpAny _ _ (call (Value.ref _) _) _ _ _)); (fail_if_success (with_reducible show wpAny _ _ (exec (Stmt.While _ _ _ _) _) _ _ _)); (fail_if_success (with_reducible show wpAny _ _ (exec (Stmt.For _ _ _ _ _) _) _ _ _)); (fail_if_success (with_reducible show wpAny _ _ (pyIter (Value.ref _)) _ _ _)); (fail_if_success (with_reducible show wpAny _ _ (compareOp CmpOp.NotEq (Value.ref _) (Value.ref _)) _ _ _)); (fail_if_success (with_reducible show wpAny _ _ (eval (Expr.ListComp _ _ _ _) _) _ _ _)); (fail_if_success (with_reducible show wpAny _ _ (exec (Stmt.Try _ _ _ _ _) _) _ _ _)); (first | (k_unfold; (try dsimp only)) | walk1 | (dsimp only; walk1) | (dsimp only; k_unfold; (try dsimp only)) | (leave1; walk_say "STEP leave1"; try dsimp only)))
    | fail "no step")
  rename_i I9 hL8 D9 h9 tk9 F9 N9 o9
  (rename List Int => xs9)
  obtain ⟨ns, hns⟩ : ∃ ns, ns = List.map (fun k' : Int => k'.fmod 259 - 1) (List.take 30 xs9) := ⟨_, rfl⟩
  have hl30 : ns.length ≤ 30 := by rw [hns, List.length_map]; exact List.length_take_le 30 _
  have hlen : ns.length ≤ 1000 := by omega
  rw [← hns] at I9
  refine For_invV s9.heap rfl rfl ?_ (by intro _; rfl) (fun _ _ h => h.elim)
  repeat' (first
    | ((with_reducible show wpAny _ _ (newList _) _ _ _); (refine' newList_K ?k1 ?k2 ?_; (case k1 => k_asm); (case k2 => k_asm)); intro D h' F' N' lD; (try k_lt lD); (try dsimp only); (try k_sweep))
    | ((fail_if_success (with_reducible show wpAny _ _ (call (Value.ref _) _) _ _ _)); (fail_if_success (with_reducible show wpAny _ _ (exec (Stmt.While _ _ _ _) _) _ _ _)); (fail_if_success (with_reducible show wpAny _ _ (exec (Stmt.For _ _ _ _ _) _) _ _ _)); (fail_if_success (with_reducible show wpAny _ _ (pyIter (Value.ref _)) _ _ _)); (fail_if_success (with_reducible show wpAny _ _ (compareOp CmpOp.NotEq (Value.ref _) (Value.ref _)) _ _ _)); (fail_if_success (with_reducible show wpAny _ _ (eval (Expr.ListComp _ _ _ _) _) _ _ _)); (fail_if_success (with_reducible show wpAny _ _ (exec (Stmt.Try _ _ _ _ _) _) _ _ _)); (first | (k_unfold; (try dsimp only)) | walk1 | (dsimp only; walk1) | (dsimp only; k_unfold; (try dsimp only)) | (leave1; walk_say "STEP leave1"; try dsimp only)))
    | fail "no step")
  (rename Fr _ _ _ _ => F9); (rename News _ _ _ _ => N9)
  refine for_bools [(Str.ofString "data", .ref D9)] [(D, listOf _ _), (D9, listOf ys.toArray _)] rfl F9 N9 (.head _) rfl rfl (by repeat (first | exact List.forall_mem_nil _ | refine List.forall_mem_cons.mpr ⟨by first | k_mem | rfl, ?_⟩)) (by repeat (first | exact List.forall_mem_nil _ | refine List.forall_mem_cons.mpr ⟨by first | k_mem | rfl, ?_⟩)) rfl ?_ ?_
  · intro chk I it u h₁ tk₁ F1 N1 l1
    try dsimp only at F1 N1 l1
    (replace l1 := allLt_of l1); (simp only [AllLt, and_true] at l1)
    repeat' (first
    | ((with_reducible show wpAny _ _ (call (Value.ref 159) _) _ _ _); walk1)
    | ((with_reducible show wpAny _ _ (call (Value.ref 177) _) _ _ _); (try dsimp only [List.cons_append, List.nil_append]); (refine' use_many ?k0 ?k1 ?k2 ?k3 ?m1 ?k4 ?kf ?k5 ?k6 ?k7 (fun h' tk' T' D' cs' j' ws' nD' u2' u3' eb' hw' F' N' lT hDT => ?_) (fun h' tk' T' j' wd' u2' u3' eb' F' N' lT => ?_); (case k0 => assumption); (case k1 => assumption); (case k2 => k_asm); (case k3 => k_asm); (case m1 => k_mem); (case k4 => exact rfl); (case kf => exact rfl); (case k5 => exact rfl); (case k6 => assumption); (case k7 => assumption)); (all_goals ((simp only [List.forall_mem_cons] at lT); (try dsimp only); (try k_sweep))))
    | ((fail_if_success (with_reducible show wpAny _ _ (call (Value.ref _) _) _ _ _)); (fail_if_success (with_reducible show wpAny _ _ (exec (Stmt.While _ _ _ _) _) _ _ _)); (fail_if_success (with_reducible show wpAny _ _ (exec (Stmt.For _ _ _ _ _) _) _ _ _)); (fail_if_success (with_reducible show wpAny _ _ (pyIter (Value.ref _)) _ _ _)); (fail_if_success (with_reducible show wpAny _ _ (compareOp CmpOp.NotEq (Value.ref _) (Value.ref _)) _ _ _)); (fail_if_success (with_reducible show wpAny _ _ (eval (Expr.ListComp _ _ _ _) _) _ _ _)); (fail_if_success (with_reducible show wpAny _ _ (exec (Stmt.Try _ _ _ _ _) _) _ _ _)); (first | (k_unfold; (try dsimp only)) | walk1 | (dsimp only; walk1) | (dsimp only; k_unfold; (try dsimp only)) | (leave1; walk_say "STEP leave1"; try dsimp only)))
    | fail "no step")
    refine' use_told H₀ B9 ?F ?N ?m1 ?m2 ?m3 rfl rfl rfl I9 hlen [(I, it), (D, listOf _ _), (D9, listOf ys.toArray _)] ?hkp (fun h' tk' T' D' cs' j' ws' nD' u2' u3' eb1 hw1 F' N' lT1 hDT1 => ?_) (fun h' tk' T' j' wd' u2' u3' eb1 F' N' lT1 => ?_)
    case F => k_asm
    case N => k_asm
    case m1 => k_mem
    case m2 => k_mem
    case m3 => k_mem
    case hkp => exact List.forall_mem_cons.mpr ⟨⟨by k_mem, by k_ne⟩, List.forall_mem_cons.mpr ⟨⟨by k_mem, by k_ne⟩, List.forall_mem_cons.mpr ⟨⟨by k_mem, by k_ne⟩, List.forall_mem_nil _⟩⟩⟩
    all_goals (simp only [List.forall_mem_cons] at lT1)
    all_goals try dsimp only
    all_goals try k_sweep
    · repeat' (first
    | ((with_reducible show wpAny _ _ (call (Value.ref 159) _) _ _ _); walk1)
    | ((with_reducible show wpAny _ _ (call (Value.ref 177) _) _ _ _); (try dsimp only [List.cons_append, List.nil_append]); (refine' use_many ?k0 ?k1 ?k2 ?k3 ?m1 ?k4 ?kf ?k5 ?k6 ?k7 (fun h' tk' T' D' cs' j' ws' nD' u2' u3' eb' hw' F' N' lT hDT => ?_) (fun h' tk' T' j' wd' u2' u3' eb' F' N' lT => ?_); (case k0 => assumption); (case k1 => assumption); (case k2 => k_asm); (case k3 => k_asm); (case m1 => k_mem); (case k4 => exact rfl); (case kf => exact rfl); (case k5 => exact rfl); (case k6 => assumption); (case k7 => assumption)); (all_goals ((simp only [List.forall_mem_cons] at lT); (try dsimp only); (try k_sweep))))
    | ((fail_if_success (with_reducible show wpAny _ _ (call (Value.ref _) _) _ _ _)); (fail_if_success (with_reducible show wpAny _ _ (exec (Stmt.While _ _ _ _) _) _ _ _)); (fail_if_success (with_reducible show wpAny _ _ (exec (Stmt.For _ _ _ _ _) _) _ _ _)); (fail_if_success (with_reducible show wpAny _ _ (pyIter (Value.ref _)) _ _ _)); (fail_if_success (with_reducible show wpAny _ _ (compareOp CmpOp.NotEq (Value.ref _) (Value.ref _)) _ _ _)); (fail_if_success (with_reducible show wpAny _ _ (eval (Expr.ListComp _ _ _ _) _) _ _ _)); (fail_if_success (with_reducible show wpAny _ _ (exec (Stmt.Try _ _ _ _ _) _) _ _ _)); (first | (k_unfold; (try dsimp only)) | walk1 | (dsimp only; walk1) | (dsimp only; k_unfold; (try dsimp only)) | (leave1; walk_say "STEP leave1"; try dsimp only)))
    | fail "no step")
      · (rename Fr _ _ _ _ => F9); (rename News _ _ _ _ => N9)
        cases eb1.symm.trans eb'
        obtain ⟨_, r1⟩ := reads_many (N9 _ (.tail _ (.tail _ (.head _)))).1 (N9 _ (.tail _ (.tail _ (.tail _ (.head _))))).1 hw1
        obtain ⟨_, r2⟩ := reads_many (N9 _ (.head _)).1 (N9 _ (.tail _ (.head _))).1 hw'
        refine ne_same r1 r2 shaped_many (Nat.le_of_ble_eq_true rfl) ?_
        clear r1 r2
        repeat' (first
    | ((fail_if_success (with_reducible show wpAny _ _ (call (Value.ref _) _) _ _ _)); (fail_if_success (with_reducible show wpAny _ _ (exec (Stmt.While _ _ _ _) _) _ _ _)); (fail_if_success (with_reducible show wpAny _ _ (exec (Stmt.For _ _ _ _ _) _) _ _ _)); (fail_if_success (with_reducible show wpAny _ _ (pyIter (Value.ref _)) _ _ _)); (fail_if_success (with_reducible show wpAny _ _ (compareOp CmpOp.NotEq (Value.ref _) (Value.ref _)) _ _ _)); (fail_if_success (with_reducible show wpAny _ _ (eval (Expr.ListComp _ _ _ _) _) _ _ _)); (fail_if_success (with_reducible show wpAny _ _ (exec (Stmt.Try _ _ _ _ _) _) _ _ _)); (first | (k_unfold; (try dsimp only)) | walk1 | (dsimp only; walk1) | (dsimp only; k_unfold; (try dsimp only)) | (leave1; walk_say "STEP leave1"; try dsimp only)))
    | fail "no step")
        (rename Fr _ _ _ _ => F9); (rename News _ _ _ _ => N9)
        exact ⟨(), _, _, _, _, rfl, F9, N9, (by repeat (first | exact List.forall_mem_nil _ | refine List.forall_mem_cons.mpr ⟨by first | k_mem | rfl, ?_⟩)), (by repeat (first | exact List.forall_mem_nil _ | refine List.forall_mem_cons.mpr ⟨by first | k_mem | rfl, ?_⟩)), trivial⟩
      · cases eb1.symm.trans eb'
    · repeat' (first
    | ((with_reducible show wpAny _ _ (call (Value.ref 159) _) _ _ _); walk1)
    | ((with_reducible show wpAny _ _ (call (Value.ref 177) _) _ _ _); (try dsimp only [List.cons_append, List.nil_append]); (refine' use_many ?k0 ?k1 ?k2 ?k3 ?m1 ?k4 ?kf ?k5 ?k6 ?k7 (fun h' tk' T' D' cs' j' ws' nD' u2' u3' eb' hw' F' N' lT hDT => ?_) (fun h' tk' T' j' wd' u2' u3' eb' F' N' lT => ?_); (case k0 => assumption); (case k1 => assumption); (case k2 => k_asm); (case k3 => k_asm); (case m1 => k_mem); (case k4 => exact rfl); (case kf => exact rfl); (case k5 => exact rfl); (case k6 => assumption); (case k7 => assumption)); (all_goals ((simp only [List.forall_mem_cons] at lT); (try dsimp only); (try k_sweep))))
    | ((fail_if_success (with_reducible show wpAny _ _ (call (Value.ref _) _) _ _ _)); (fail_if_success (with_reducible show wpAny _ _ (exec (Stmt.While _ _ _ _) _) _ _ _)); (fail_if_success (with_reducible show wpAny _ _ (exec (Stmt.For _ _ _ _ _) _) _ _ _)); (fail_if_success (with_reducible show wpAny _ _ (pyIter (Value.ref _)) _ _ _)); (fail_if_success (with_reducible show wpAny _ _ (compareOp CmpOp.NotEq (Value.ref _) (Value.ref _)) _ _ _)); (fail_if_success (with_reducible show wpAny _ _ (eval (Expr.ListComp _ _ _ _) _) _ _ _)); (fail_if_success (with_reducible show wpAny _ _ (exec (Stmt.Try _ _ _ _ _) _) _ _ _)); (first | (k_unfold; (try dsimp only)) | walk1 | (dsimp only; walk1) | (dsimp only; k_unfold; (try dsimp only)) | (leave1; walk_say "STEP leave1"; try dsimp only)))
    | fail "no step")
      · cases eb1.symm.trans eb'
      · (rename Fr _ _ _ _ => F9); (rename News _ _ _ _ => N9)
        cases eb1.symm.trans eb'
        refine ne_same (reads_none (N9 _ (.tail _ (.head _))).1) (reads_none (N9 _ (.head _)).1) (shaped_none (many_strOk eb')) (Nat.le_of_ble_eq_true rfl) ?_
        repeat' (first
    | ((fail_if_success (with_reducible show wpAny _ _ (call (Value.ref _) _) _ _ _)); (fail_if_success (with_reducible show wpAny _ _ (exec (Stmt.While _ _ _ _) _) _ _ _)); (fail_if_success (with_reducible show wpAny _ _ (exec (Stmt.For _ _ _ _ _) _) _ _ _)); (fail_if_success (with_reducible show wpAny _ _ (pyIter (Value.ref _)) _ _ _)); (fail_if_success (with_reducible show wpAny _ _ (compareOp CmpOp.NotEq (Value.ref _) (Value.ref _)) _ _ _)); (fail_if_success (with_reducible show wpAny _ _ (eval (Expr.ListComp _ _ _ _) _) _ _ _)); (fail_if_success (with_reducible show wpAny _ _ (exec (Stmt.Try _ _ _ _ _) _) _ _ _)); (first | (k_unfold; (try dsimp only)) | walk1 | (dsimp only; walk1) | (dsimp only; k_unfold; (try dsimp only)) | (leave1; walk_say "STEP leave1"; try dsimp only)))
    | fail "no step")
        (rename Fr _ _ _ _ => F9); (rename News _ _ _ _ => N9)
        exact ⟨(), _, _, _, _, rfl, F9, N9, (by repeat (first | exact List.forall_mem_nil _ | refine List.forall_mem_cons.mpr ⟨by first | k_mem | rfl, ?_⟩)), (by repeat (first | exact List.forall_mem_nil _ | refine List.forall_mem_cons.mpr ⟨by first | k_mem | rfl, ?_⟩)), trivial⟩
  · intro u h₁ tk₁ F1 N1
    repeat' (first
    | ((with_reducible show wpAny _ _ (call (Value.ref 159) _) _ _ _); walk1)
    | ((fail_if_success (with_reducible show wpAny _ _ (call (Value.ref _) _) _ _ _)); (fail_if_success (with_reducible show wpAny _ _ (exec (Stmt.While _ _ _ _) _) _ _ _)); (fail_if_success (with_reducible show wpAny _ _ (exec (Stmt.For _ _ _ _ _) _) _ _ _)); (fail_if_success (with_reducible show wpAny _ _ (pyIter (Value.ref _)) _ _ _)); (fail_if_success (with_reducible show wpAny _ _ (compareOp CmpOp.NotEq (Value.ref _) (Value.ref _)) _ _ _)); (fail_if_success (with_reducible show wpAny _ _ (eval (Expr.ListComp _ _ _ _) _) _ _ _)); (fail_if_success (with_reducible show wpAny _ _ (exec (Stmt.Try _ _ _ _ _) _) _ _ _)); (first | (k_unfold; (try dsimp only)) | walk1 | (dsimp only; walk1) | (dsimp only; k_unfold; (try dsimp only)) | (leave1; walk_say "STEP leave1"; try dsimp only)))
    | fail "no step")
    (rename Fr _ _ _ _ => F9); (rename News _ _ _ _ => N9)
    obtain ⟨x9, d9, ta, tb, tc, ua, tw0, F8, N8⟩ : ∃ x9 d9 ta tb tc ua tw0, Fr s9.heap s9.heap.objs.size _ (kstB u [(Str.ofString "word", .str (Str.ofString "") tw0), (Str.ofString "at", .int ((0 : Nat) : Int) ua), (Str.ofString "reading", .ref x9), (Str.ofString "data", .ref D9)]) ∧
        News s9.heap s9.heap.objs.size _ [(x9, instObj 159 d9), (d9, dictOf (rdr _ ta tb tc D9 ((0 : Nat) : Int)) 2), (D9, listOf ys.toArray ys.length)] :=
      ⟨_, _, _, _, _, _, _, F9, fun q hq => N9 q (((by repeat (first | exact List.forall_mem_nil _ | refine List.forall_mem_cons.mpr ⟨by first | k_mem | rfl, ?_⟩)) : ∀ q ∈ _, q ∈ _) q hq)⟩
    clear F9 N9
    have d1 : @Ne Nat x9 d9 := ne_news N8 (by k_mem) (by k_mem) (by simp [okind])
    have d2 : @Ne Nat D9 d9 := ne_news N8 (by k_mem) (by k_mem) (by simp [okind])
    refine wh (σ := LSt) (fun c => [(Str.ofString "word", .str (Str.ofString "") c.tw), (Str.ofString "at", .int (c.k : Int) c.u), (Str.ofString "reading", .ref x9), (Str.ofString "data", .ref D9)])
      (fun c => [(x9, instObj 159 d9), (d9, dictOf (rdr _ ta tb c.t D9 (c.k : Int)) 2), (D9, listOf ys.toArray ys.length)])
      (fun _ => True) (fun c => ns.length - c.k) ⟨0, tc, ua, tw0⟩ F8 N8 (fun _ h => h) (by repeat (first | exact List.forall_mem_nil _ | refine List.forall_mem_cons.mpr ⟨by first | k_mem | rfl, ?_⟩)) trivial ?_ (fun _ _ h => h.elim)
    clear F8 N8
    rintro ⟨k, t3, u1, tw⟩ u₀ h₁ tk₁ _ F1 N1
    dsimp only at F1 N1
    repeat' (first
    | ((with_reducible show wpAny _ _ (call (Value.ref 170) _) _ _ _); (try dsimp only [List.cons_append, List.nil_append]); (refine' use_one ?k0 ?k1 ?k2 ?k3 ?m1 ?k4 ?kf ?k5 ?k6 ?k7 ?ke (fun h' tk' T' v' j' u1' u2' u3' eb' F' N' lT => ?_) (fun h' tk' T' j' wd' u2' u3' eb' hw' F' N' lT => ?_); (case k0 => assumption); (case k1 => assumption); (case k2 => k_asm); (case k3 => k_asm); (case m1 => k_mem); (case k4 => exact rfl); (case kf => exact rfl); (case k5 => exact rfl); (case k6 => assumption); (case k7 => assumption); (case ke => first | exact rfl | exact (rfl : (0 : Int) = ((0 : Nat) : Int)))); (all_goals ((simp only [List.forall_mem_cons] at lT); (try dsimp only); (try k_sweep))))
    | ((fail_if_success (with_reducible show wpAny _ _ (call (Value.ref _) _) _ _ _)); (fail_if_success (with_reducible show wpAny _ _ (exec (Stmt.While _ _ _ _) _) _ _ _)); (fail_if_success (with_reducible show wpAny _ _ (exec (Stmt.For _ _ _ _ _) _) _ _ _)); (fail_if_success (with_reducible show wpAny _ _ (pyIter (Value.ref _)) _ _ _)); (fail_if_success (with_reducible show wpAny _ _ (compareOp CmpOp.NotEq (Value.ref _) (Value.ref _)) _ _ _)); (fail_if_success (with_reducible show wpAny _ _ (eval (Expr.ListComp _ _ _ _) _) _ _ _)); (fail_if_success (with_reducible show wpAny _ _ (exec (Stmt.Try _ _ _ _ _) _) _ _ _)); (first | (k_unfold; (try dsimp only)) | walk1 | (dsimp only; walk1) | (dsimp only; k_unfold; (try dsimp only)) | (leave1; walk_say "STEP leave1"; try dsimp only)))
    | fail "no step")
    · have nb := num_bytes eb'
      refine wpAny_Try_except ?_
      repeat' (first
    | ((fail_if_success (with_reducible show wpAny _ _ (call (Value.ref _) _) _ _ _)); (fail_if_success (with_reducible show wpAny _ _ (exec (Stmt.While _ _ _ _) _) _ _ _)); (fail_if_success (with_reducible show wpAny _ _ (exec (Stmt.For _ _ _ _ _) _) _ _ _)); (fail_if_success (with_reducible show wpAny _ _ (pyIter (Value.ref _)) _ _ _)); (fail_if_success (with_reducible show wpAny _ _ (compareOp CmpOp.NotEq (Value.ref _) (Value.ref _)) _ _ _)); (fail_if_success (with_reducible show wpAny _ _ (eval (Expr.ListComp _ _ _ _) _) _ _ _)); (fail_if_success (with_reducible show wpAny _ _ (exec (Stmt.Try _ _ _ _ _) _) _ _ _)); (first | (k_unfold; (try dsimp only)) | walk1 | (dsimp only; walk1) | (dsimp only; k_unfold; (try dsimp only)) | (leave1; walk_say "STEP leave1"; try dsimp only)))
    | fail "no step")
      (try dsimp only [List.cons_append, List.nil_append])
      refine' use_number H₀ B9 ?k2 ?k3 ?m1 ?m2 ?m3 rfl rfl rfl I9 hlen _ ?k8 (fun h' tk' v1 j1 u1' u2' eb1 F' N' => ?_) (fun h' tk' e' j1 wd1 eb1 XF => ?_)
      case k2 => k_asm
      case k3 => k_asm
      case m1 => k_mem
      case m2 => k_mem
      case m3 => k_mem
      case k8 => exact fun _ _ => by k_upd
      all_goals try dsimp only
      · cases eb'.symm.trans eb1
        try k_sweep
        have hwl : (wr (zag v')).length ≤ 1000 := by rw [nb.2.2, List.length_take]; omega
        repeat' (first
    | ((with_reducible show wpAny _ _ (call (Value.ref 123) _) _ _ _); (try dsimp only [List.cons_append, List.nil_append]); (refine' use_done ?k0 ?k1 ?k2 ?k3 ?m1 ?m2 ?m3 ?k4 ?kf ?k5 ?k6 ?k7 ?_; (case k0 => assumption); (case k1 => assumption); (case k2 => k_asm); (case k3 => k_asm); (case m1 => k_mem); (case m2 => k_mem); (case m3 => k_mem); (case k4 => exact rfl); (case kf => exact rfl); (case k5 => exact rfl); (case k6 => assumption); (case k7 => assumption)); intro h' tk' F' N'; (try dsimp only); (try k_sweep))
    | ((with_reducible show wpAny _ _ (call (Value.ref 91) _) _ _ _); walk1)
    | ((with_reducible show wpAny _ _ (call (Value.ref 74) _) _ _ _); (try dsimp only [List.cons_append, List.nil_append]); (refine' use_write ?k0 ?k1 ?k2 ?k3 ?m1 ?m2 ?m3 ?k4 ?kf ?k5 ?kb _ ?k8 (fun h' tk' ws' c' eb' F' N' => ?_); (case k0 => assumption); (case k1 => assumption); (case k2 => k_asm); (case k3 => k_asm); (case m1 => k_mem); (case m2 => k_mem); (case m3 => k_mem); (case k4 => exact rfl); (case kf => exact rfl); (case k5 => exact rfl); (case kb => assumption); (case k8 => exact fun _ _ => by k_upd)); (try dsimp only); (try k_sweep))
    | ((fail_if_success (with_reducible show wpAny _ _ (call (Value.ref _) _) _ _ _)); (fail_if_success (with_reducible show wpAny _ _ (exec (Stmt.While _ _ _ _) _) _ _ _)); (fail_if_success (with_reducible show wpAny _ _ (exec (Stmt.For _ _ _ _ _) _) _ _ _)); (fail_if_success (with_reducible show wpAny _ _ (pyIter (Value.ref _)) _ _ _)); (fail_if_success (with_reducible show wpAny _ _ (compareOp CmpOp.NotEq (Value.ref _) (Value.ref _)) _ _ _)); (fail_if_success (with_reducible show wpAny _ _ (eval (Expr.ListComp _ _ _ _) _) _ _ _)); (fail_if_success (with_reducible show wpAny _ _ (exec (Stmt.Try _ _ _ _ _) _) _ _ _)); (first | (k_unfold; (try dsimp only)) | walk1 | (dsimp only; walk1) | (dsimp only; k_unfold; (try dsimp only)) | (leave1; walk_say "STEP leave1"; try dsimp only)))
    | fail "no step")
        · exact absurd rfl (by assumption)
        · exact absurd rfl (by assumption)
        · (rename _ = true => h9)
          rw [done_same nb.2.1] at h9
          cases h9
        · (rename Fr _ _ _ _ => F9); (rename News _ _ _ _ => N9); (rename IntsAre _ (List.take _ _) => hI9)
          have e9 : List.take (min (j' : Int).toNat ns.length - (k : Int).toNat) (List.drop (k : Int).toNat ns) = wr (zag v') := by
            rw [nb.2.2, Int.toNat_natCast, Int.toNat_natCast, Nat.min_eq_left nb.2.1]
          rw [e9] at hI9
          refine ne_lists (N9 _ (.tail _ (.head _))).1 (N9 _ (.head _)).1 eb' hI9 (Nat.le_of_ble_eq_true rfl) ?_
          repeat' (first
    | ((fail_if_success (with_reducible show wpAny _ _ (call (Value.ref _) _) _ _ _)); (fail_if_success (with_reducible show wpAny _ _ (exec (Stmt.While _ _ _ _) _) _ _ _)); (fail_if_success (with_reducible show wpAny _ _ (exec (Stmt.For _ _ _ _ _) _) _ _ _)); (fail_if_success (with_reducible show wpAny _ _ (pyIter (Value.ref _)) _ _ _)); (fail_if_success (with_reducible show wpAny _ _ (compareOp CmpOp.NotEq (Value.ref _) (Value.ref _)) _ _ _)); (fail_if_success (with_reducible show wpAny _ _ (eval (Expr.ListComp _ _ _ _) _) _ _ _)); (fail_if_success (with_reducible show wpAny _ _ (exec (Stmt.Try _ _ _ _ _) _) _ _ _)); (first | (k_unfold; (try dsimp only)) | walk1 | (dsimp only; walk1) | (dsimp only; k_unfold; (try dsimp only)) | (leave1; walk_say "STEP leave1"; try dsimp only)))
    | fail "no step")
          (rename Fr _ _ _ _ => F9); (rename News _ _ _ _ => N9)
          exact ⟨⟨j', _, _, _⟩, _, _, _, _, rfl, F9, N9, (by repeat (first | exact List.forall_mem_nil _ | refine List.forall_mem_cons.mpr ⟨by first | k_mem | rfl, ?_⟩)), (by repeat (first | exact List.forall_mem_nil _ | refine List.forall_mem_cons.mpr ⟨by first | k_mem | rfl, ?_⟩)), trivial, show ns.length - j' < ns.length - k from by omega⟩
      · cases eb'.symm.trans eb1
    · refine wpAny_Try_except ?_
      repeat' (first
    | ((fail_if_success (with_reducible show wpAny _ _ (call (Value.ref _) _) _ _ _)); (fail_if_success (with_reducible show wpAny _ _ (exec (Stmt.While _ _ _ _) _) _ _ _)); (fail_if_success (with_reducible show wpAny _ _ (exec (Stmt.For _ _ _ _ _) _) _ _ _)); (fail_if_success (with_reducible show wpAny _ _ (pyIter (Value.ref _)) _ _ _)); (fail_if_success (with_reducible show wpAny _ _ (compareOp CmpOp.NotEq (Value.ref _) (Value.ref _)) _ _ _)); (fail_if_success (with_reducible show wpAny _ _ (eval (Expr.ListComp _ _ _ _) _) _ _ _)); (fail_if_success (with_reducible show wpAny _ _ (exec (Stmt.Try _ _ _ _ _) _) _ _ _)); (first | (k_unfold; (try dsimp only)) | walk1 | (dsimp only; walk1) | (dsimp only; k_unfold; (try dsimp only)) | (leave1; walk_say "STEP leave1"; try dsimp only)))
    | fail "no step")
      (try dsimp only [List.cons_append, List.nil_append])
      refine' use_number H₀ B9 ?k2 ?k3 ?m1 ?m2 ?m3 rfl rfl rfl I9 hlen _ ?k8 (fun h' tk' v1 j1 u1' u2' eb1 F' N' => ?_) (fun h' tk' e' j1 wd1 eb1 XF => ?_)
      case k2 => k_asm
      case k3 => k_asm
      case m1 => k_mem
      case m2 => k_mem
      case m3 => k_mem
      case k8 => exact fun _ _ => by k_upd
      all_goals try dsimp only
      · cases eb'.symm.trans eb1
      · cases eb'.symm.trans eb1
        (rename Fr _ _ _ _ => F9); (rename News _ _ _ _ => N9)
        obtain ⟨_, _, _, _, _, _, _, _, _, _, _, h44⟩ := K44 _
        refine' caught (keep := [(D9, listOf ys.toArray ys.length)]) B9 F9 N9 XF H₀.X H₀.T ?c1 ?c2 h44 rfl ?c4 ?_
        case c1 => exact fun b z => by rw [List.mem_singleton.mp z]; exact ⟨_, .tail _ (.tail _ (.head _))⟩
        case c2 => exact List.forall_mem_cons.mpr ⟨⟨by k_mem, fun z => absurd (List.mem_singleton.mp z) d2⟩, List.forall_mem_nil _⟩
        case c4 => k_is
        rintro h₉ g₉ tk₉ d oe es ⟨o1, o2, o3, o4, t4, t5, t6, t7, rfl⟩ T8 F8 N8 B8 X8 T7 ed lk
        simp only [List.forall_mem_cons] at lk
        clear F9 N9
        repeat' (first
    | ((with_reducible show wpAny _ _ (getAttr (Value.ref _) (Str.ofString "at") _) _ _ _); refine' get_at ?F ?X ?N ?m1 ?m2 ?o1 ?o2 ?o3 ?_; (case F => k_asm); (case X => k_asm); (case N => k_asm); (case m1 => k_mem); (case m2 => k_mem); (case o1 => assumption); (case o2 => assumption); (case o3 => assumption); (try dsimp only))
    | ((with_reducible show wpAny _ _ (getAttr (Value.ref _) (Str.ofString "what") _) _ _ _); refine' get_what ?F ?X ?N ?m1 ?m2 ?o1 ?o2 ?o3 ?_; (case F => k_asm); (case X => k_asm); (case N => k_asm); (case m1 => k_mem); (case m2 => k_mem); (case o1 => assumption); (case o2 => assumption); (case o3 => assumption); (try dsimp only))
    | ((fail_if_success (with_reducible show wpAny _ _ (call (Value.ref _) _) _ _ _)); (fail_if_success (with_reducible show wpAny _ _ (exec (Stmt.While _ _ _ _) _) _ _ _)); (fail_if_success (with_reducible show wpAny _ _ (exec (Stmt.For _ _ _ _ _) _) _ _ _)); (fail_if_success (with_reducible show wpAny _ _ (pyIter (Value.ref _)) _ _ _)); (fail_if_success (with_reducible show wpAny _ _ (compareOp CmpOp.NotEq (Value.ref _) (Value.ref _)) _ _ _)); (fail_if_success (with_reducible show wpAny _ _ (eval (Expr.ListComp _ _ _ _) _) _ _ _)); (fail_if_success (with_reducible show wpAny _ _ (exec (Stmt.Try _ _ _ _ _) _) _ _ _)); (first | (k_unfold; (try dsimp only)) | walk1 | (dsimp only; walk1) | (dsimp only; k_unfold; (try dsimp only)) | (leave1; walk_say "STEP leave1"; try dsimp only)))
    | fail "no step")
        · simp only [WhEnd]
          (rename Fr _ _ _ _ => F7)
          have F6 : Fr s9.heap _ _ _ := ⟨F7.ns, fun b o q => F7.keep b o (T8.other b o q (List.not_mem_nil)), T8.size ▸ F7.above⟩
          rw [beq_self_eq_true]
          refine goodW_bool F6 (by assumption) (raisesW_false ?_) ?_
          · wrow_none_raised
          · wrow_post
        · (rename _ = false => h9)
          rw [beq_self_eq_true] at h9
          cases h9)
end Mine

theorem PySem.Challenge.cw_pb0317_01_holds : PySem.Challenge.rw_pb0317_01.Holds :=
  Mine.cw
