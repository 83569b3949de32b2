import PyProof.Rows.All
import Wide.All
import OpenK.AllK
import Wide.FinOn
import Lean
import PySem.Challenge.RW_sq0024_01
set_option Elab.async false
namespace Mine
open PySem PySem.W PyProof.Rows
set_option maxRecDepth 100000 in
set_option maxHeartbeats 8000000 in
open_top hd for PySem.Challenge.rw_sq0024_01
end Mine

section
open PySem PySem.W PyProof.Rows PySem.Spec PySem.Calls
set_option maxRecDepth 100000
namespace Mine
open PySem.Builtin PySem.Builtin.ObjectAttr

section
variable {prog : Program} {w : World} {A : Around} {E : Value → Shared → Prop} {K : Frag} {C e : Addr} {s : Shared}

theorem osa_exc {oe : Obj} {cd : ClassData} {name : Str} {tk : Tok} {v : Value} {R : Result → Shared → Prop}
    (X : K.In s.heap) (he : s.heap.get? e = some oe) (hc : oe.cls = .ref C) (hdn : oe.dict = none) (hnc : ∀ c, oe.data ≠ .cls c)
    (hcd : clsIn K C = some cd) (hh : cd.hasDict = true) (hmo : mroIn K C (.type "object") = some true)
    (hp : ∀ self, refuseLoop self "__setattr__" cd.mro = pure ()) (ht : findIn K (.ref C) name = some none)
    (hq : ∀ h' tk' d, (∀ b o, b ≠ e → s.heap.get? b = some o → h'.get? b = some o) → h'.get? e = some { oe with dict := some d } → R (.ok (.ret .none)) { s with heap := h', toks := tk' }) :
    codeAny (model prog w) A (.call (.builtin "object.__setattr__") ⟨[.ref e, .str name tk, v], []⟩) R s := by
  have SF := PySem.F.store_object
  have hm : Looks (model prog w) s.heap (mroOf (.ref C)) cd.mro := (looks_clsIn X hcd).andThen .now
  have ty : Looks (model prog w) s.heap (typeOf (.ref e)) (.ref C) := by
    have := (Looks.ld (M := model prog w) (part := some headPart) he)
    rw [← hc]
    exact this.andThen .now
  have sub : Looks (model prog w) s.heap (isInstance (.ref e) (.type "object")) true := ty.andThen (looks_mroIn X hmo)
  refine codeAny_call_builtin SF.slot.plain SF.entry (@check_slot (model prog w) _ _ s "object.__setattr__" "object" "__setattr__" (.ref e) [.str name tk, v] [] _ SF.kind SF.split sub (SF.args (.ref e) (.str name tk) v) ?_)
  rw [osa_eq, refuse_eq]
  refine wpAny_bind (wpAny_bind (ty.here (wpAny_bind (hm.here ?_))))
  rw [hp]
  refine wpAny_pure (wpAny_bind (ty.here (wpAny_bind ((looks_findIn X ht).here (wpAny_bind ?_)))))
  refine wpAny_pure (a := none) ?_
  show wpAny _ _ (storeInOwnDict (.ref e) (.ref C) (.str name tk) name v false) _ _ _
  unfold storeInOwnDict ownStreamTells
  refine wpAny_bind (wpAny_pure ?_)
  rw [if_neg (by intro q; simp at q)]
  unfold ownDictForStores instanceDict
  obtain ⟨h, g, d, t, os⟩ := s
  obtain ⟨oc, od, odt, osl⟩ := oe
  dsimp only at hc hdn
  subst hc hdn
  refine wpAny_bind (wpAny_bind (wpAny_loadPart he (wpAny_bind ((looks_clsIn X hcd).here ?_))))
  rw [hh]
  rw [if_neg (by decide)]
  split
  · rename_i hcd'
    cases hcd'
  rw [if_neg (by simp [typeHasDict])]
  dsimp only
  split
  · rename_i c _
    exact absurd rfl (hnc c)
  · have hx₁ : (h.push { cls := .type "dict", data := .dict #[] }).get? e = some { cls := .ref C, dict := none, data := odt, slots := osl } := Heap.get?_push_of_some _ he
    have hxs : e ≠ h.objs.size := Nat.ne_of_lt (Heap.lt_size he)
    refine wpAny_bind (wpAny_alloc' ?_)
    refine wpAny_bind (wpAny_update' hx₁ ?_)
    refine wpAny_pure ?_
    have hgd : ((h.push { cls := .type "dict", data := .dict #[] }).update e fun o => { cls := o.cls, dict := some h.objs.size, data := o.data, slots := o.slots }).get? h.objs.size
        = some { cls := .type "dict", data := .dict #[] } :=
      (Heap.get?_update_ne _ _ _ _ hxs.symm).trans (Heap.get?_push_at rfl rfl)
    have hnd : ((h.push { cls := .type "dict", data := .dict #[] }).update e fun o => { cls := o.cls, dict := some h.objs.size, data := o.data, slots := o.slots }).Ns h.objs.size (fun _ => none) :=
      ⟨_, #[], _, hgd, rfl, fun e he => absurd he (by simp), fun _ => rfl⟩
    show wpAny _ _ (storeInDict h.objs.size (.str name tk) name v) _ _ _
    unfold storeInDict newKeyGuard
    refine wpAny_bind (wpAny_pure (wpAny_bind (wpAny_nsSet1 (Heap.Ns1.of_empty hnd) fun h' hn' hs => ?_)))
    obtain ⟨oD, esD, epD, hoD, hdD, hcD⟩ := hn'.count (Within.cons name v Within.nil)
    refine wpAny_bind (wpAny_lookBehind hoD (by rw [hdD]; exact pastItsLine_dict (Nat.le_trans hcD (by rw [List.length_cons, List.length_nil, sizeLine_eq]; omega))) ?_)
    refine wpAny_pure (hq _ _ h.objs.size (fun b ob hbx hb => ?_) ?_)
    · exact (hs.2 b (Nat.ne_of_lt (Heap.lt_size hb))).trans ((Heap.get?_update_ne _ _ _ _ hbx).trans (Heap.get?_push_of_some _ hb))
    · refine (hs.2 e hxs).trans (Heap.get?_update_self _ hx₁ ?_)
      have hfr := (Heap.get?_some_iff.mp he).2
      cases odt <;> first | rfl | exact hfr

theorem set_exc {oe : Obj} {cd : ClassData} {name : Str} {v : Value} {Q : Unit → Shared → Prop}
    (X : K.In s.heap) (he : s.heap.get? e = some oe) (hc : oe.cls = .ref C) (hdn : oe.dict = none) (hnc : ∀ c, oe.data ≠ .cls c) (hno : notCls oe = true)
    (hs : findIn K (.ref C) "__setattr__" = some (some (.builtin "object.__setattr__"))) (hcd : clsIn K C = some cd) (hh : cd.hasDict = true) (hmo : mroIn K C (.type "object") = some true)
    (hp : ∀ self, refuseLoop self "__setattr__" cd.mro = pure ()) (ht : findIn K (.ref C) name = some none)
    (h : ∀ h' tk' d, (∀ b o, b ≠ e → s.heap.get? b = some o → h'.get? b = some o) → h'.get? e = some { oe with dict := some d } → Q () { s with heap := h', toks := tk' }) :
    wpAny (model prog w) A (setAttr (.ref e) name v) Q E s :=
  set_plain X (od := none) ⟨he, hc, hno, by rw [hdn]; trivial⟩ hs (osa_exc (s := { s with toks := s.toks + 1 }) X he hc hdn hnc hcd hh hmo hp ht fun h' tk' d k1 k2 => h h' tk' d k1 k2)
end
end Mine
end

section
open PySem PySem.W PyProof.Rows PySem.Spec PySem.Calls
set_option maxRecDepth 100000
namespace Mine

section
variable {prog : Program} {w : World} {A : Around} {K : Frag} {h : Heap} {g : Array GenState} {d : Drawn} {t : Nat} {os : OsState}
variable {nm q : Str} {C N : Addr} {bs bm bmB : List Value} {hdct : Bool} {sn : List Str} {sub : List Value} {ab : Bool} {col : Option Bool} {dd : Option Addr} {k0 k1 k2 k3 k5 : Option Value} {B newId initId : String}

/-- the class's road of bases, as far as a new exception asks it -/
structure Bases (C : Addr) (bm : List Value) (B : String) : Prop where
  b : (Value.ref C :: bm).contains (.type B) = true
  a : (Value.ref C :: bm).contains (.type "AttributeError") = false
  n : (Value.ref C :: bm).contains (.type "NameError") = false
  e : (Value.ref C :: bm).contains (.type "BaseException") = true

theorem new_checked (F : ExcBaseFacts B newId initId bmB) (Y : Bases C bm B) {M : Model} {E : Value → Shared → Prop} {rest : List Value} {Q : Unit → Shared → Prop}
    (hC : h.get? C = some (excClassObj nm q C N bs bm hdct sn sub ab col dd k0 k1 k2 k3 k5 newId)) (hq : Q () ⟨h, g, d, t, os⟩) : wpAny M A (checkBuiltinCall newId ⟨.ref C :: rest, []⟩) Q E ⟨h, g, d, t, os⟩ := by
  have hb := Y.b
  have hstar := F.noStar
  simp only [checkBuiltinCall, F.newKind, F.newSplit, F.newRow]
  repeat (first | refine wpAny_loadPart_at hC ?_ | (refine wpAny_isSubtype_exc hC ?_; rw [hb]) | refine wpAny_staticBase_exc hC ?_ | refine wpAny_madeBy_exc hC ?_ | simp only [bne_self_eq_false, Bool.false_eq_true, if_false] | wp_step)
  exact hq

theorem new_made (F : ExcBaseFacts B newId initId bmB) (Y : Bases C bm B) {R : Result → Shared → Prop} {rest : List Value}
    (hC : h.get? C = some (excClassObj nm q C N bs bm hdct sn sub ab col dd k0 k1 k2 k3 k5 newId))
    (hq : R (.ok (.ret (.ref (h.objs.size + 1)))) ⟨(h.push { cls := .type "tuple", data := .seq rest.toArray }).push { cls := .ref C, data := .fields #[.ref h.objs.size, .none, .none, .none, .bool false, .none] }, g, d, t, os⟩)
    (hrest : rest.length ≤ sizeLine) : codeAny (model prog w) A (.builtin newId ⟨.ref C :: rest, []⟩) R ⟨h, g, d, t, os⟩ := by
  have hends := F.ends
  have h1 := Y.b
  have h2 := Y.a
  have h3 := Y.n
  refine codeAny_builtinAt F.entry ?_
  unfold Builtin.«BaseException.__new__»
  refine PySem.wpAt_bind ?_
  show PySem.wpAt _ _ _ (stack >>= _) _ _ _
  refine PySem.wpAt_bind (PySem.wpAt_stack fun p below => PySem.wpAt_of_wpAny ?_)
  wp_walk
  refine PySem.wpAt_of_wpAny ?_
  rw [F.owner]
  repeat (first | with_reducible refine wpAny_madeHere_exc F.canon hC ?_ | with_reducible refine wpAny_loadPart_at hC ?_ | (with_reducible refine wpAny_isSubtype_exc hC ?_; first | rw [h1] | rw [h2] | rw [h3]) | wp_step)
  show R _ _
  rw [Heap.size_push]
  exact hq

theorem made_by_call (F : ExcBaseFacts B newId initId bmB) (Y : Bases C bm B) (X : K.In h) {E : Value → Shared → Prop} {rest : List Value} {fI : Addr} {Q : Value → Shared → Prop}
    (hC : h.get? C = some (excClassObj nm q C N bs bm hdct sn sub ab col dd k0 k1 k2 k3 k5 newId))
    (hi : findIn K (.ref C) "__init__" = some (some (.ref fI))) (hf : typeIn K (.ref fI) = some (.type "function"))
    (hq : ∀ h' e, Heap.MadeExcOf h h' e (.ref C) rest → h.objs.size ≤ h'.objs.size →
      wpAny (model prog w) (A.under (.builtin "type.__call__" ⟨.ref C :: rest, []⟩)) (call (.ref fI) (.ref e :: rest)) (fun r s' => r = .none ∧ Q (.ref e) s') E ⟨h', g, d, t, os⟩) (hrest : rest.length ≤ sizeLine) :
    wpAny (model prog w) A (call (.ref C) rest) Q E ⟨h, g, d, t, os⟩ := by
  have f1 := tc_lookup
  have f2 := tc_bind (.ref C)
  have hT : (⟨h, g, d, t, os⟩ : Shared).TypeIs (.ref C) "type" := ⟨_, hC, rfl⟩
  refine wpAny_call (codeAny_of_tree ?_)
  show wpAny _ _ (callAny (.ref C) _) _ _ _
  repeat (any_goals (first | assumption | with_reducible refine wpAny_loadPart_at hC ?_ | wp_step))
  refine ⟨rfl, ?_⟩
  refine codeAny_call_builtin_at (Code.quiet_builtin _ (by decide +kernel)) entry_typeCall (wpAny_check_type_call_sub hC ?_)
  repeat (first | with_reducible refine wpAny_loadPart_at hC ?_ | with_reducible refine wpAny_madeBy_exc hC ?_ | wp_step)
  refine codeAny_call_builtin_code (Code.quiet_builtin _ F.quiet) (new_checked F Y hC (new_made F Y hC ?_ hrest))
  show wpAny _ _ _ _ _ _
  have up : ∀ b o, h.get? b = some o → ((h.push { cls := .type "tuple", data := .seq rest.toArray }).push { cls := .ref C, data := .fields #[.ref h.objs.size, .none, .none, .none, .bool false, .none] }).get? b = some o :=
    fun b o z => Heap.get?_push_of_some _ (Heap.get?_push_of_some _ z)
  have hC₁ := up _ _ hC
  have hget : ((h.push { cls := .type "tuple", data := .seq rest.toArray }).push
      { cls := .ref C, data := .fields #[.ref h.objs.size, .none, .none, .none, .bool false, .none] }).get? (h.objs.size + 1) = some
      { cls := .ref C, data := .fields #[.ref h.objs.size, .none, .none, .none, .bool false, .none] } := by heap_get
  have hcC : (Value.ref C :: bm).contains (.ref C) = true := by simp
  unfold isInstance
  repeat (first | with_reducible refine wpAny_loadPart_at hget ?_ | (refine wpAny_isSubtype_exc hC₁ ?_; rw [hcC]) | wp_step)
  show wpAny _ _ (typeLookup (.ref C) _) _ _ _
  refine ((looks_findIn X hi).keeps up).here ?_
  refine wpAny_holding (wpAny_bind (((bind_fn X _ hf).keeps up).here ?_))
  refine wpAny_bind (wpAny_mono (hq _ (h.objs.size + 1) ⟨up, Heap.get?_none_of_le (Nat.le_succ _), h.objs.size, hget, Heap.get?_none_of_le (Nat.le_refl _), ?_⟩ (by simp only [Heap.size_push]; omega)) (fun r s' hr => ?_) fun _ _ x => x)
  · exact Heap.get?_push_of_some _ (Heap.get?_push_at rfl rfl)
  · obtain ⟨rfl, hQ⟩ := hr
    wp_walk
    exact hQ
end
end Mine
end

section
open PySem PySem.W PyProof.Rows PySem.Spec PySem.Calls
set_option maxRecDepth 100000
namespace Mine

abbrev excObj (C t : Addr) (dd : Option Addr) : Obj := { cls := .ref C, dict := dd, data := .fields #[.ref t, .none, .none, .none, .bool false, .none] }

/-- an exception of the text's own class, just made (with a dict or without one) -/
structure MadeX (h h' : Heap) (e : Addr) (C : Addr) (args : List Value) : Prop where
  keeps : ∀ b o, h.get? b = some o → h'.get? b = some o
  new : h.get? e = none
  there : ∃ t dd, h'.get? e = some (excObj C t dd) ∧ h.get? t = none ∧ h'.get? t = some { cls := .type "tuple", data := .seq args.toArray }

section
variable {prog : Program} {w : World} {A : Around} {K : Frag} {E : Value → Shared → Prop} {s : Shared} {env : Env}
variable {nm q : Str} {C N : Addr} {bs bm bmB : List Value} {hdct : Bool} {sn : List Str} {sub : List Value} {ab : Bool} {col : Option Bool} {dd : Option Addr} {k0 k1 k2 k3 k5 : Option Value} {B newId initId : String}

theorem raise_made {M : Model} {x : Sem Value} {Q : Flow → Shared → Prop} (Y : Bases C bm B) (hh : A.handled = none)
    (h : wpAny M A x (fun v s₁ => ∃ e t dd', v = .ref e ∧ s₁.heap.get? C = some (excClassObj nm q C N bs bm hdct sn sub ab col dd k0 k1 k2 k3 k5 newId) ∧ s₁.heap.get? e = some (excObj C t dd') ∧ E (.ref e) s₁) E s) :
    wpAny M A (raiseStmt env (some x) none) Q E s := by
  have hb := Y.e
  unfold raiseStmt
  refine wpAny_bind (wpAny_mono h (fun v s₁ h₁ => ?_) fun _ _ x => x)
  obtain ⟨e, t, dd', rfl, hC, he, hE⟩ := h₁
  obtain ⟨hp, g, d, tk, os⟩ := s₁
  repeat (first | with_reducible refine wpAny_loadPart_at he ?_ | with_reducible refine wpAny_loadPart_at hC ?_ | (refine wpAny_isSubtype_exc hC ?_; rw [hb]) | wp_step)
  exact wpAny_raiseNew_none hh hE

theorem raise_exc (F : ExcBaseFacts B newId initId bmB) (Y : Bases C bm B) {x : Str} {np cpos pos : Pos} {args : List Expr} {Q : Flow → Shared → Prop} {fI : Addr}
    (hK : K.lookup C = some (excClassObj nm q C N bs bm hdct sn sub ab col dd k0 k1 k2 k3 k5 newId))
    (hi : findIn K (.ref C) "__init__" = some (some (.ref fI))) (hf : typeIn K (.ref fI) = some (.type "function"))
    (hh : A.handled = none) (hplain : (backTo cpos (starEach args env)).any (·.1) = false)
    (h : wpAny (model prog w) A (eval (.Name x np) env) (fun f s₁ => f = .ref C ∧ wpAny (model prog w) A (evalArgs (.ref C) true (backTo cpos (starEach args env)) [])
      (fun a s₂ => a.kw = [] ∧ a.pos.length ≤ sizeLine ∧ K.In s₂.heap ∧ ∀ h' e, Heap.MadeExcOf s₂.heap h' e (.ref C) a.pos → s₂.heap.objs.size ≤ h'.objs.size →
        wpAny (model prog w) (A.under (.builtin "type.__call__" ⟨.ref C :: a.pos, []⟩)) (call (.ref fI) (.ref e :: a.pos)) (fun r s' => r = .none ∧ (∃ t dd', s'.heap.get? e = some (excObj C t dd')) ∧ K.In s'.heap ∧ E (.ref e) s') E { s₂ with heap := h' }) E s₁) E s) :
    wpAny (model prog w) A (exec (.Raise (some (.Call (.Name x np) args [] cpos)) none pos) env) Q E s := by
  rw [arm_exec_Raise]
  first
    | refine wpAny_bind (wpAny_standAt (raise_made (nm := nm) (q := q) (C := C) (N := N) (bs := bs) (hdct := hdct) (sn := sn) (sub := sub) (ab := ab) (col := col) (dd := dd) (k0 := k0) (k1 := k1) (k2 := k2) (k3 := k3) (k5 := k5) (newId := newId) Y hh ?_))
    | (simp only [evalOpt, Option.map]; refine wpAny_bind (wpAny_standAt (raise_made (nm := nm) (q := q) (C := C) (N := N) (bs := bs) (hdct := hdct) (sn := sn) (sub := sub) (ab := ab) (col := col) (dd := dd) (k0 := k0) (k1 := k1) (k2 := k2) (k3 := k3) (k5 := k5) (newId := newId) Y hh ?_)))
  refine wpAny_bind (wpAny_mono (wpAny_Call_ofName (wpAny_mono h (fun f s₁ h₁ => ?_) fun _ _ x => x)) (fun v s₃ h₃ => wpAny_bind (wpAny_standAt (wpAny_pure h₃))) fun _ _ x => x)
  obtain ⟨rfl, h₁⟩ := h₁
  unfold callWith
  refine wpAny_bind (wpAny_holding (wpAny_mono h₁ (fun a s₂ h₂ => wpAny_bind (wpAny_standAt ?_)) fun _ _ x => x))
  obtain ⟨apos, akw⟩ := a
  obtain ⟨hkw, hlen, X, h₂⟩ := h₂
  obtain rfl : akw = [] := hkw
  obtain ⟨hp, g, d, tk, os⟩ := s₂
  simp only [hplain]
  have hC := X _ _ hK
  refine wpAny_bind (wpAny_keeperOf_exc hC ?_)
  refine wpAny_bind (made_by_call F Y X hC hi hf (fun h' e hm hz => ?_) hlen)
  refine wpAny_mono (h₂ h' e hm hz) (fun r s' z => ?_) fun _ _ x => x
  obtain ⟨hr, ⟨t, dd', ht⟩, X', hE⟩ := z
  exact ⟨hr, wpAny_bind (wpAny_holding (wpAny_point (wpAny_pure ⟨e, t, dd', rfl, X' _ _ hK, ht, hE⟩)))⟩
end
end Mine
end

section
open PySem PySem.W PyProof.Rows PySem.Spec PySem.Calls
set_option maxRecDepth 100000
namespace Mine
noncomputable abbrev LZ : List Str := looseW hd.view_39 [Str.ofString "PageError", Str.ofString "FIX"]

theorem enter_K {prog : Program} {w : World} {A : Around} {s : Shared} {K : Frag} {R : Result → Shared → Prop} {name qual : Str} {params : Arguments} {body : List Stmt} {scope : Scope} {dV kV doc pm cdv ct oc : Value} {an od : Option Addr} {osl : Array (Option Value)} {f : Addr} {args : Args} {binds : List (Str × Value)}
    (X : K.In s.heap) (T : s.heap.NoLimit) (ho : K.lookup f = some ⟨oc, od, .func (fnOf name qual params body scope dV kV doc pm an cdv ct), osl⟩) (hcd : codeIn K cdv qual = true) (hroom : A.depth < recursionLimit)
    (hbind : BindsTo s (fnOf name qual params body scope dV kV doc pm an cdv ct) args binds) (hloc : ∀ y ∈ binds, scope.names.lookup y.1 = some .local)
    (h : ∀ h₁, h₁.Ns s.heap.objs.size (fun y => binds.reverse.lookup y) → (∀ b o, s.heap.get? b = some o → h₁.get? b = some o) →
      wpAny (model prog w) (A.deeper (envOf qual scope s.heap.objs.size f cdv)) (execs body (envOf qual scope s.heap.objs.size f cdv))
        (fun fl s' => R (.ok (.ret (match fl with | .ret v => v | _ => .none))) s')
        (fun e s' => wpAny (model prog w) (A.deeper (envOf qual scope s.heap.objs.size f cdv)) (leaving (envOf qual scope s.heap.objs.size f cdv) e) (fun _ s'' => R (.error e) s'') (fun e' s'' => R (.error e') s'') s')
        { s with heap := h₁, toks := s.toks + binds.length })
    (hco : scope.isCoroutine = false) (hgen : scope.isGenerator = false) (hk : scope.kind = .function)
    (hcell : ∀ x ∈ scope.names, x.2 ≠ .cell) : codeAny (model prog w) A (.call (.ref f) args) R s :=
  codeAny_call_def (fd := fnOf name qual params body scope dV kV doc pm an cdv ct) (body := body) (binds := binds) hroom (X _ _ ho) rfl T (codeRec_of X hcd) rfl hbind hcell hloc h hco hgen hk

theorem refuse_bf : ∀ self, refuseLoop self "__setattr__" [Value.ref 45, Value.ref 32, Value.type "ValueError", Value.type "Exception", Value.type "BaseException", Value.type "object"] = pure () := by
  intro self
  rw [refuseLoop_ref, refuseLoop_ref]
  kernel_rfl

set_option maxHeartbeats 8000000 in
theorem init_bf {w : World} {A : Around} {mean : ExcName → Option Value} {mg mb : Str → Option Value} {E : Value → Shared → Prop} {P : Shared → Prop} {s : Shared} {h' : Heap} {e : Addr} {x : Str} {tk : Tok}
    (X : (hd.heap_39 w.params).In s.heap) (T : Top hd.view_39 LZ mean mg mb s.heap) (hm : Heap.MadeExcOf s.heap h' e (.ref 45) [.str x tk]) (hz : s.heap.objs.size ≤ h'.objs.size) (hroom : A.depth < recursionLimit)
    (hE : ∀ h₂ tk₂, MadeX s.heap h₂ e 45 [.str x tk] → P { s with heap := h₂, toks := tk₂ })
    (mk : Challenge.rw_sq0024_01.name = Challenge.rw_sq0024_01.name := rfl) :
    wpAny (model Challenge.rw_sq0024_01.row.prog w) A (call (.ref 29) [.ref e, .str x tk]) (fun r s' => r = .none ∧ (∃ t dd', s'.heap.get? e = some (excObj 45 t dd')) ∧ (hd.heap_39 w.params).In s'.heap ∧ P s') E { s with heap := h' } := by
  w_on
  k_fill
  have X' : (hd.heap_39 w.params).In h' := X.keeps hm.keeps
  refine wpAny_call ?_
  refine' enter_K X' (T.nolimit.keeps hm.keeps) ?k6 ?k7 hroom ?k9 ?kl ?_ ?c2 ?c3 ?c4 ?c5
  case k6 => k_is
  case k7 => k_is
  case k9 => first | exact BindsTo.of_eq rfl | exact binds_K X' rfl (by k_is) rfl rfl rfl
  case kl => exact locs rfl
  case c2 => exact rfl
  case c3 => exact rfl
  case c4 => exact rfl
  case c5 => decide
  intro h₁ hns hk₁
  obtain ⟨t, ht, htn, htt⟩ := hm.there
  have F : Fr s.heap h'.objs.size h₁ _ := ⟨hns, fun b o z => hk₁ b o (hm.keeps b o z), hz⟩
  have hee := hk₁ _ _ ht
  have N : News s.heap h'.objs.size h₁ [(e, excObj 45 t none)] := fun p hp => by
    rw [List.mem_singleton.mp hp]
    exact ⟨hee, fun q => absurd (Heap.lt_size ht) (by rw [show e = h'.objs.size from q]; exact Nat.lt_irrefl _), hm.new⟩
  try dsimp only
  k_steps
  have X₁ : (hd.heap_39 w.params).In h₁ := X'.keeps hk₁
  refine' set_exc (C := 45) X₁ hee rfl rfl (fun c q => by cases q) rfl ?s1 ?s2 ?sh ?s3 ?sr ?s4 ?_
  case s1 => k_is
  case s2 => k_is
  case sh => exact rfl
  case sr => exact refuse_bf
  case s3 => k_is
  case s4 => k_is
  intro h₂ tk₂ d k1 k2
  have F₂ : Fr s.heap h'.objs.size h₂ _ := F.of_stays (fun b o z => k1 b o (fun q => by rw [q, hm.new] at z; cases z) (F.keep b o z)) (Heap.UpToSlots.trans (Heap.UpToSlots.refl _) (fun b o z hn => ⟨o.slots, k1 b o (fun q => by rw [q, hee] at z; cases z; exact hn _ rfl) z⟩))
  k_steps
  refine hE h₂ _ ⟨fun b o z => k1 b o (fun q => by rw [q, hm.new] at z; cases z) (F.keep b o z), hm.new, t, some d, k2, htn, k1 t _ (fun q => ?_) (hk₁ _ _ htt)⟩
  rw [q, ht] at htt
  cases htt

section
variable {w : World} {A : Around} {mean : ExcName → Option Value} {mg mb : Str → Option Value} {E : Value → Shared → Prop} {Q : Flow → Shared → Prop} {s : Shared} {h₀ : Heap} {L a : Addr} {m : Str → Option Value} {name : Str} {scope : Scope} {cd : Value}
set_option maxHeartbeats 8000000 in
theorem raise_bf {np cpos pos cp : Pos} {kk : Nat} {msg : Str} (F : Fr h₀ L s.heap m) (X : (hd.heap_39 w.params).In h₀) (T : Top hd.view_39 LZ mean mg mb h₀) (hh : A.handled = none) (hroom : A.depth + 1 < recursionLimit)
    (h : ∀ h' e tk' t, MadeX s.heap h' e 45 [.str msg t] → E (.ref e) { s with heap := h', toks := tk' }) (hmsg : msg.length ≤ sizeLine)
    (hk : scope.kind = .function := by rfl) (hx : (envOf name scope L a cd).kindOf (Str.ofString "BadFont") = some .globalImplicit := by rfl)
    (mk : Challenge.rw_sq0024_01.name = Challenge.rw_sq0024_01.name := rfl) :
    wpAny (model Challenge.rw_sq0024_01.row.prog w) A (exec (.Raise (some (.Call (.Name (Str.ofString "BadFont") np) [.Constant (.str msg) kk cp] [] cpos)) none pos) (envOf name scope L a cd)) Q E s := by
  w_on
  k_fill
  refine' raise_exc PySem.F.excBase_ValueError ?Y (C := 45) (K := hd.heap_39 w.params) ?hK ?hi ?hf hh ?hpl (name_K F X (topRead_of T) ?e ⟨rfl, ?_⟩ hk hx (by decide))
  case hK => k_is
  case Y => exact ⟨by rfl, by rfl, by rfl, by rfl⟩
  case hi => k_is
  case hf => k_is
  case hpl => rfl
  case e => k_is
  refine Calls.evalArgs_plain (spliced_more (e := .Constant (.str msg) kk cp) (rest := []) (env := envOf name scope L a cd) (pos := cpos) ?_ rfl)
  k_steps
  rename_i h' e hm hz
  refine init_bf (s := { s with toks := s.toks + 1 }) (P := fun s' => E (.ref e) s') (X.keeps F.keep) (T.keeps F.keep) hm hz ?_ fun h₂ tk₂ M => ?_
  · rw [depth_under_kw]; exact hroom
  · exact h h₂ e tk₂ _ M
end
end Mine
end

section
open PySem PySem.W PyProof.Rows PySem.Spec PySem.Calls
set_option maxRecDepth 100000
namespace Mine
section
variable {M : Model} {A : Around} {E : Value → Shared → Prop} {s' : Shared} {base g h : Heap} {outer : List Env} {L a e C : Addr} {m : Str → Option Value} {name : Str} {scope : Scope} {cd : Value} {Q : Unit → Shared → Prop} {news : List (Addr × Obj)} {vs : List Value}
theorem leaves_madeX {env : Env} (hfr : A.frames = some (env :: outer)) (hf : env.frame = some L) (hkb : base.StaysIn h) (hl : h.FunFrames base (env :: outer)) (hx : MadeX h s'.heap e C vs)
    (hQ : ∀ h' t, Heap.FlyingW base outer e (.ref C) (.ref t) h' → h'.TupAt t vs → base.get? t = none → s'.heap.UpToSlots h' → Q () { s' with heap := h' }) : wpAny M A (leaving env (.ref e)) Q E s' := by
  obtain ⟨t, dd, he, htn, ht⟩ := hx.there
  have fresh : ∀ b, h.get? b = none → base.get? b = none := fun b hb => by
    cases hq : base.get? b with
    | none => rfl
    | some o' => have := hkb b o' hq; rw [hb] at this; cases this
  refine wpAny_leaving_firstW (a0 := .ref t) hfr (hl.of_keeps fun b o hb _ => ⟨o, hx.keeps b o hb, rfl⟩) hf he (fun b o hb => hx.keeps b o (hkb b o hb)) (fresh e hx.new) rfl rfl rfl fun h' hL => ?_
  obtain ⟨k1, ⟨_, _, k2⟩, k3, k4⟩ := hL
  exact hQ h' t ⟨k1, fresh e hx.new, k2, k3⟩ (Heap.TupAt.of_slots ⟨_, _, ht, rfl, rfl⟩ k4) (fresh t htn) k4

theorem leave_raiseX (K : Below A base outer g) (hx : MadeX h s'.heap e C vs) (F : Fr g L h m) (N : News g L h news)
    (hQ : ∀ h' t, RaisedS base g outer e (.ref C) t vs news h' → RaisedK base outer e (.ref C) t vs news h' → g.UpToSlots h' → Q () { s' with heap := h' }) (hk : scope.kind = .function := by rfl) :
    wpAny M (A.deeper (envOf name scope L a cd)) (leaving (envOf name scope L a cd) (.ref e)) Q E s' := by
  have K' := K.push (name := name) (a := a) (cd := cd) F hk
  have mine : ∀ b, b ∈ (envOf name scope L a cd :: outer).filterMap (·.frame) → g.get? b = none ∨ b ∈ outer.filterMap (·.frame) := fun b hm => (kts_mem hm).imp (fun z => by rw [z]; exact kts_self F) id
  have st : base.StaysIn (hideAll h ((envOf name scope L a cd :: outer).filterMap (·.frame))) := fun b o q => hideAll_get _ (K'.stays b o q) fun hm => by
    rw [(K'.frames.mem hm).1] at q; cases q
  have sg : ∀ b o, g.get? b = some o → b ∉ outer.filterMap (·.frame) → (hideAll h ((envOf name scope L a cd :: outer).filterMap (·.frame))).get? b = some o := fun b o q nm => hideAll_get _ (F.keep b o q) fun hm => by
    rcases mine b hm with z | z
    · rw [q] at z; cases z
    · exact nm z
  have hl : ∀ q ∈ news, (hideAll h ((envOf name scope L a cd :: outer).filterMap (·.frame))).get? q.1 = some q.2 ∧ g.get? q.1 = none ∧ base.get? q.1 = none := fun q hq => by
    refine ⟨hideAll_get _ (N q hq).1 fun hm => ?_, (N q hq).2.2, fresh_of_stays K.stays (N q hq).2.2⟩
    rcases kts_mem hm with z | z
    · exact (N q hq).2.1 z
    · obtain ⟨o, ho, _⟩ := (K.frames.mem z).2
      rw [(N q hq).2.2] at ho; cases ho
  refine leaves_madeX K'.stack rfl (fun b o q => of_hideAll _ q) (funFrames_hide K'.frames fun env he b hb => List.mem_filterMap.mpr ⟨env, he, hb⟩) hx fun h' t x1 x2 x3 x4 => ?_
  have R : RaisedS base g outer e (.ref C) t vs news h' := ⟨⟨_, st, sg, hl, x1, x3⟩, x2⟩
  exact hQ h' t R R.toK (((Heap.UpToSlots.of_keeps F.keep).trans (Heap.UpToSlots.of_keeps hx.keeps)).trans x4)
end
end Mine
end

section
open PySem PySem.W PyProof.Rows PySem.Spec PySem.Calls
set_option maxRecDepth 100000
namespace Mine
abbrev bagL (b0 b1 b2 : Int) (t0 t1 t2 : Tok) (n : Nat) : Obj := listOf ([Value.int b0 t0, Value.int b1 t1, Value.int b2 t2].toArray) n

/-- what a call of the def at f gives back to a caller's frame (no exception leaves it) -/
def Gives (w : World) (mean : ExcName → Option Value) (mg mb : Str → Option Value) (f : Addr) (need : Nat) (args : List Value) (pre : Heap → Prop) (news : List (Addr × Obj)) (post : Value → List (Addr × Obj) → Prop) : Prop :=
  ∀ (dp un : Nat) (gd : Option (List Code)) (cn : Str) (cs : Scope) (a : Addr) (ccd : Value) (cl : List (Str × Addr)) (outer : List Env) (A₀ : Around) (base h₀ : Heap) (L : Addr) (m : Str → Option Value) (s : Shared) (Q E : Value → Shared → Prop),
    Below A₀ base outer h₀ → Fr h₀ L s.heap m → (hd.heap_39 w.params).In h₀ → News h₀ L s.heap news → Top hd.view_39 LZ mean mg mb h₀ → cs.kind = .function → pre base → dp + need < recursionLimit → un + 8 * need < cLine →
    (∀ (v : Value) (news' : List (Addr × Obj)) (h' : Heap) (tk' : Nat), post v news' → Fr h₀ L h' m → News h₀ L h' news' → Q v { s with heap := h', toks := tk' }) →
    wpAny (model Challenge.rw_sq0024_01.row.prog w) (ktrTop dp un gd cn cs L a ccd cl outer) (call (.ref f) args) Q E s

theorem Gives.use {w : World} {mean : ExcName → Option Value} {mg mb : Str → Option Value} {f : Addr} {need : Nat} {args : List Value} {pre : Heap → Prop} {news : List (Addr × Obj)} {post : Value → List (Addr × Obj) → Prop} (C : Gives w mean mg mb f need args pre news post)
    {dp un : Nat} {gd : Option (List Code)} {cn : Str} {cs : Scope} {a : Addr} {ccd : Value} {cl : List (Str × Addr)} {outer : List Env} {A₀ : Around} {base h₀ : Heap} {L : Addr} {m : Str → Option Value} {s : Shared} {Q E : Value → Shared → Prop} {news₀ : List (Addr × Obj)}
    (B : Below A₀ base outer h₀) (F : Fr h₀ L s.heap m) (X : (hd.heap_39 w.params).In h₀) (N : News h₀ L s.heap news₀) (T : Top hd.view_39 LZ mean mg mb h₀) (hk : cs.kind = .function) (hp : pre base) (hd' : dp + need < recursionLimit) (hu : un + 8 * need < cLine) (hsub : ∀ p ∈ news, p ∈ news₀)
    (ret : ∀ (v : Value) (news' : List (Addr × Obj)) (h' : Heap) (tk' : Nat), post v news' → Fr h₀ L h' m → News h₀ L h' news' → Q v { s with heap := h', toks := tk' }) :
    wpAny (model Challenge.rw_sq0024_01.row.prog w) (ktrTop dp un gd cn cs L a ccd cl outer) (call (.ref f) args) Q E s := C _ _ _ _ _ _ _ _ _ _ _ _ _ _ _ _ _ B F X (cb_drop N hsub) T hk hp hd' hu ret

theorem Gives.end_ {h₀ h' : Heap} {L : Addr} {m : Str → Option Value} {s : Shared} {Q : Value → Shared → Prop} {post : Value → List (Addr × Obj) → Prop} {v : Value} {news' news₂ : List (Addr × Obj)} {tk' : Nat}
    (hret : ∀ (v : Value) (news' : List (Addr × Obj)) (h' : Heap) (tk' : Nat), post v news' → Fr h₀ L h' m → News h₀ L h' news' → Q v { s with heap := h', toks := tk' }) (F : Fr h₀ L h' m) (N : News h₀ L h' news₂) (hs : ∀ p ∈ news', p ∈ news₂) (hp : post v news') :
    Q v { s with heap := h', toks := tk' } := hret v news' h' tk' hp F (cb_drop N hs)

local macro_rules | `(tactic| walk_at "g end") => `(tactic| (refine' Gives.end_ ?eR ?eF ?eN ?eS ?eP; (case eR => assumption); (case eF => k_asm); (case eN => k_asm); (case eP => walk_at "g post"); (case eS => kcj_all)))
local macro_rules | `(tactic| walk_at "g post") => `(tactic| ((try dsimp only); k_extra "post"))
set_option maxHeartbeats 8000000 in
theorem cell_c (w : World) (mean : ExcName → Option Value) (mg mb : Str → Option Value) (l : Addr) (vs : List Value) (ns : List Int) (k : Int) (tk : Tok) (news : List (Addr × Obj)) (h63 : ns.length ≤ 63) (h0 : 0 ≤ k) (hk9 : k ≤ 100) (hi : IntsAre vs ns) :
    Gives w mean mg mb 89 1 [.ref l, .int k tk] (fun base => base.IsList l vs.toArray) news (fun v news' => ∃ c t, v = .int c t ∧ 0 ≤ c ∧ news' = news) := by
  w_on
  unfold Gives
  k_fill
  intro dp un gd cn cs a ccd cl outer A₀ base h₀ L m s Q E B F X N T hk hl hdp hu hret
  refine wpAny_call ?_
  k_dflt cell_enter
  k_steps
  k_with "post" => ((refine ⟨_, _, rfl, ?_, rfl⟩); first | (split <;> omega) | ((have hz := Int.fmod_nonneg_of_pos (if (List.take 1 ns).sum < 0 then -(List.take 1 ns).sum else (List.take 1 ns).sum) (show (0:Int) < 1000003 by decide)); omega))
  all_goals walk_at "g end"
end Mine
end

section
open PySem PySem.W PyProof.Rows PySem.Spec PySem.Calls
set_option maxRecDepth 100000
namespace Mine
theorem Gives.end1 {h₀ h' : Heap} {L : Addr} {m : Str → Option Value} {s : Shared} {Q : Value → Shared → Prop} {post : Value → List (Addr × Obj) → Prop} {v : Value} {news' : List (Addr × Obj)} {tk' : Nat}
    (hret : ∀ (v : Value) (news' : List (Addr × Obj)) (h' : Heap) (tk' : Nat), post v news' → Fr h₀ L h' m → News h₀ L h' news' → Q v { s with heap := h', toks := tk' }) (F : Fr h₀ L h' m) (N : News h₀ L h' news') (hp : post v news') :
    Q v { s with heap := h', toks := tk' } := hret v news' h' tk' hp F N
local macro_rules | `(tactic| walk_at "g end") => `(tactic| (refine' Gives.end_ ?eR ?eF ?eN ?eS ?eP; (case eR => assumption); (case eF => k_asm); (case eN => k_asm); (case eP => walk_at "g post"); (case eS => kcj_all)))
local macro_rules | `(tactic| walk_at "g end") => `(tactic| (refine' Gives.end1 ?eR ?eF ?eN ?eP; (case eR => assumption); (case eF => k_asm); (case eN => k_asm); (case eP => walk_at "g post")))
local macro_rules | `(tactic| walk_at "g post") => `(tactic| ((try dsimp only); k_extra "post"))
local macro_rules | `(tactic| walk_at "g go") => `(tactic| ((refine wpAny_call ?_); (k_dflt cell_enter); k_steps; all_goals walk_at "g end"))
local macro_rules | `(tactic| k_all) => `(tactic| assumption)
/-- the bag of the law: what is drawn from is hidden -/
def bagOk (o : Obj) (k : Nat) : Prop := ∃ b0 b1 b2 t0 t1 t2 n, o = bagL b0 b1 b2 t0 t1 t2 n ∧ 0 ≤ b0 ∧ 0 ≤ b1 ∧ b1 < 2147483629 ∧ 0 ≤ b2 ∧ b2 ≤ (k : Int)

theorem np40 {b : Int} (h0 : 0 < b) (h : b < 2 ^ 40) : b.natAbs.log2 < 9000 := by
  have h1 : b.natAbs < 2 ^ 40 := by omega
  have h2 : b.natAbs ≠ 0 := by omega
  have := (Nat.log2_lt h2).mpr h1
  omega

set_option maxHeartbeats 8000000 in
theorem draw_c (w : World) (mean : ExcName → Option Value) (mg mb : Str → Option Value) (l : Addr) (o : Obj) (k : Nat) (rest : List (Addr × Obj)) (many : Int) (tk : Tok) (hb : bagOk o k) (hk9 : k < 1000) (hne : ∀ p ∈ rest, p.1 ≠ l) (hm : 0 < many) (hm' : many < 2 ^ 40) :
    Gives w mean mg mb 103 1 [.ref l, .int many tk] (fun _ => True) ((l, o) :: rest) (fun v news' => ∃ d t o', v = .int d t ∧ 0 ≤ d ∧ d < many ∧ bagOk o' (k + 1) ∧ news' = (l, o') :: rest) := by
  w_on
  obtain ⟨b0, b1, b2, t0, t1, t2, n, rfl, hb0, hb1, hb1', hb2, hb2'⟩ := hb
  unfold Gives
  k_fill
  intro dp un gd cn cs a ccd cl outer A₀ base h₀ L m s Q E B F X N T hk hl hdp hu hret
  k_with "binaryOp FloorDiv int int" => refine floordiv_int (by omega) ?_ (Or.inl (PyProof.noPylong_of_log2 (np40 (by assumption) (by assumption))))
  k_with "binaryOp Pow int int" => ((refine pow_int_small (by decide) (by decide) ?_ ?_); ((simp only [Int.reduceToNat, List.getD_cons_zero, List.getD_cons_succ]); first | omega | ((have hz := Int.fmod_lt_of_pos ((b1 + 40961 * (b2 + 1) + 577) ^ 5) (show (0:Int) < 2147483647 by decide)); (have hz' := Int.fmod_nonneg_of_pos ((b1 + 40961 * (b2 + 1) + 577) ^ 5) (show (0:Int) < 2147483647 by decide)); omega)))
  refine wpAny_call ?_
  k_dflt cell_enter
  k_steps
  all_goals (try simp only [Int.reduceToNat, List.getD_cons_zero, List.getD_cons_succ] at *)
  k_with "post" => ((refine ⟨_, _, _, rfl, Int.fmod_nonneg_of_pos _ hm, Int.fmod_lt_of_pos _ hm, ?_, rfl⟩); exact ⟨_, _, _, _, _, _, _, rfl, (by first | assumption | exact Int.fdiv_nonneg hb0 (by omega)), (by assumption), (by assumption), (by omega), (by omega)⟩)
  all_goals walk_at "g end"

/-- a ledger without one of its entries -/
inductive Takes (l : Addr) (o : Obj) : List (Addr × Obj) → List (Addr × Obj) → Prop
  | head {r} : Takes l o ((l, o) :: r) r
  | tail {p r r'} : Takes l o r r' → Takes l o (p :: r) (p :: r')
theorem Takes.sub {l : Addr} {o : Obj} : ∀ {r r' : List (Addr × Obj)}, Takes l o r r' → ∀ p ∈ (l, o) :: r', p ∈ r
  | _, _, .head, _, h => h
  | _, _, .tail t, p, h => by
    rcases List.mem_cons.mp h with rfl | h
    · exact .tail _ (t.sub _ (.head _))
    · rcases List.mem_cons.mp h with rfl | h
      · exact .head _
      · exact .tail _ (t.sub _ (.tail _ h))

section
variable {w : World} {mean : ExcName → Option Value} {mg mb : Str → Option Value} {dp un : Nat} {gd : Option (List Code)} {cn : Str} {cs : Scope} {a : Addr} {ccd : Value} {cl : List (Str × Addr)} {outer : List Env} {A₀ : Around} {base h₀ : Heap} {L : Addr} {m : Str → Option Value} {s : Shared} {Q E : Value → Shared → Prop} {news₀ : List (Addr × Obj)}
theorem draw_use {l : Addr} {o : Obj} {k : Nat} {rest : List (Addr × Obj)} {many : Int} {tk : Tok} (B : Below A₀ base outer h₀) (F : Fr h₀ L s.heap m) (X : (hd.heap_39 w.params).In h₀) (N : News h₀ L s.heap news₀) (T : Top hd.view_39 LZ mean mg mb h₀) (hk : cs.kind = .function)
    (ht : Takes l o news₀ rest) (hb : bagOk o k) (hk9 : k < 1000) (hne : ∀ p ∈ rest, p.1 ≠ l) (hm : 0 < many) (hm' : many < 2 ^ 40) (hdp : dp + 1 < recursionLimit) (hu : un + 8 * 1 < cLine)
    (ret : ∀ (d : Int) (t : Tok) (o' : Obj) (h' : Heap) (tk' : Nat), 0 ≤ d → d < many → bagOk o' (k + 1) → Fr h₀ L h' m → News h₀ L h' ((l, o') :: rest) → Q (.int d t) { s with heap := h', toks := tk' }) :
    wpAny (model Challenge.rw_sq0024_01.row.prog w) (ktrTop dp un gd cn cs L a ccd cl outer) (call (.ref 103) [.ref l, .int many tk]) Q E s :=
  (draw_c w mean mg mb l o k rest many tk hb hk9 hne hm hm').use B F X N T hk trivial hdp hu ht.sub fun v news' h' tk' hp F' N' => by
    obtain ⟨d, t, o', rfl, h1, h2, h3, rfl⟩ := hp
    exact ret d t o' h' tk' h1 h2 h3 F' N'
end
end Mine
end

section
open PySem PySem.W PyProof.Rows PySem.Spec PySem.Calls
set_option maxRecDepth 100000
namespace Mine
local macro_rules | `(tactic| walk_at "g end") => `(tactic| (first | (refine' Gives.end1 ?eR ?eF ?eN ?eP; (case eR => assumption); (case eF => k_asm); (case eN => k_asm); (case eP => walk_at "g post")) | (refine' Gives.end_ ?eR ?eF ?eN ?eS ?eP; (case eR => assumption); (case eF => k_asm); (case eN => k_asm); (case eP => walk_at "g post"); (case eS => kcj_all)) | fail "g end"))
local macro_rules | `(tactic| walk_at "g post") => `(tactic| ((try dsimp only); k_extra "post"))
local macro_rules | `(tactic| walk_at "g go") => `(tactic| ((refine wpAny_call ?_); (k_dflt cell_enter); k_steps; all_goals walk_at "g end"))
local macro_rules | `(tactic| k_all) => `(tactic| assumption)
local macro_rules | `(tactic| walk_at "call ref") => `(tactic| ((with_reducible show wpAny _ _ (call (Value.ref 103) _) _ _ _); (k_dflt (refine' draw_use ?B ?F ?X ?N ?T ?hk ?ht ?hb ?k9 ?ne ?m1 ?m2 ?dp ?un ?_; (case B => k_asm); (case F => k_asm); (case X => k_asm); (case N => k_asm); (case T => k_asm); (case hk => first | exact rfl | assumption); (case ht => first | exact Takes.head | exact Takes.tail (Takes.head) | exact Takes.tail (Takes.tail (Takes.head)) | exact Takes.tail (Takes.tail (Takes.tail (Takes.head))) | exact Takes.tail (Takes.tail (Takes.tail (Takes.tail (Takes.head)))) | exact Takes.tail (Takes.tail (Takes.tail (Takes.tail (Takes.tail (Takes.head))))) | exact Takes.tail (Takes.tail (Takes.tail (Takes.tail (Takes.tail (Takes.tail (Takes.head)))))) | exact Takes.tail (Takes.tail (Takes.tail (Takes.tail (Takes.tail (Takes.tail (Takes.tail (Takes.head))))))) | exact Takes.tail (Takes.tail (Takes.tail (Takes.tail (Takes.tail (Takes.tail (Takes.tail (Takes.tail (Takes.head))))))))); (case hb => assumption); (case k9 => omega); (case ne => k_all); (case m1 => first | decide | omega); (case m2 => first | decide | omega); (case dp => ktr_room); (case un => ktr_units))); intro d9 t9 o9 h9 tk9 h91 h92 hb9 F9 N9; (try k_sweep); (try dsimp only); (try k_fold)))

local macro_rules | `(tactic| walk_at "g enter") => `(tactic| ((refine wpAny_call ?_); k_dflt (refine' code_def ?k1 ?k2 ?k3 ?k4 ?k5 ?kA ?kF ?kK ?k6 ?k7 ?k8 ?k9 ?kB ?_ ?c2 ?c3 ?c4 ?c5; (case kA => exact rfl); (case kF => exact rfl); (case kK => first | exact rfl | assumption); (case k1 => k_asm); (case k2 => k_asm); (case k3 => k_asm); (case k4 => k_asm); (case k5 => k_asm); (case k6 => k_is); (case k7 => k_is); (case k8 => ktr_room); (case k9 => exact BindsTo.of_eq rfl); (case c5 => decide); (case kB => exact locs rfl); (case c2 => exact rfl); (case c3 => exact rfl); (case c4 => exact rfl); k_whole; intro g' L' h' FG' F' N' B' X' T'; (try dsimp only); (try k_lift B'); (try k_fold))))
local macro_rules | `(tactic| walk_at "call ref") => `(tactic| ((with_reducible show wpAny _ _ (call (Value.ref 82) _) _ _ _); walk_at "g enter"))

theorem bagOk.mono {o : Obj} {k k' : Nat} (h : bagOk o k) (hk : k ≤ k') : bagOk o k' := by
  obtain ⟨b0, b1, b2, t0, t1, t2, n, e, h0, h1, h2, h3, h4⟩ := h
  exact ⟨b0, b1, b2, t0, t1, t2, n, e, h0, h1, h2, h3, by omega⟩

theorem oct2 {d : Int} (h0 : 0 ≤ d) (h1 : d < 2) : 0 ≤ [(0:Int), 255].getD d.toNat 0 ∧ [(0:Int), 255].getD d.toNat 0 < 256 := by
  rcases (show d = 0 ∨ d = 1 by omega) with rfl | rfl <;> decide

set_option maxHeartbeats 8000000 in
theorem octet_c (w : World) (mean : ExcName → Option Value) (mg mb : Str → Option Value) (l : Addr) (o : Obj) (k : Nat) (rest : List (Addr × Obj)) (hb : bagOk o k) (hk9 : k < 900) (hne : ∀ p ∈ rest, p.1 ≠ l) :
    Gives w mean mg mb 124 2 [.ref l] (fun _ => True) ((l, o) :: rest) (fun v news' => ∃ d t o', v = .int d t ∧ 0 ≤ d ∧ d < 256 ∧ bagOk o' (k + 2) ∧ news' = (l, o') :: rest) := by
  w_on
  unfold Gives
  k_fill
  intro dp un gd cn cs a ccd cl outer A₀ base h₀ L m s Q E B F X N T hk hl hdp hu hret
  k_with "post" => ((refine ⟨_, _, _, rfl, ?_, ?_, bagOk.mono (by assumption) (by omega), rfl⟩) <;> first | omega | exact (oct2 (by omega) (by omega)).1 | exact (oct2 (by omega) (by omega)).2)
  (refine wpAny_call ?_); (k_dflt cell_enter); k_steps
  all_goals walk_at "g end"

section
variable {w : World} {mean : ExcName → Option Value} {mg mb : Str → Option Value} {dp un : Nat} {gd : Option (List Code)} {cn : Str} {cs : Scope} {a : Addr} {ccd : Value} {cl : List (Str × Addr)} {outer : List Env} {A₀ : Around} {base h₀ : Heap} {L : Addr} {m : Str → Option Value} {s : Shared} {Q E : Value → Shared → Prop} {news₀ : List (Addr × Obj)}
theorem octet_use {l : Addr} {o : Obj} {k : Nat} {rest : List (Addr × Obj)} (B : Below A₀ base outer h₀) (F : Fr h₀ L s.heap m) (X : (hd.heap_39 w.params).In h₀) (N : News h₀ L s.heap news₀) (T : Top hd.view_39 LZ mean mg mb h₀) (hk : cs.kind = .function)
    (ht : Takes l o news₀ rest) (hb : bagOk o k) (hk9 : k < 900) (hne : ∀ p ∈ rest, p.1 ≠ l) (hdp : dp + 2 < recursionLimit) (hu : un + 8 * 2 < cLine)
    (ret : ∀ (d : Int) (t : Tok) (o' : Obj) (h' : Heap) (tk' : Nat), 0 ≤ d → d < 256 → bagOk o' (k + 2) → Fr h₀ L h' m → News h₀ L h' ((l, o') :: rest) → Q (.int d t) { s with heap := h', toks := tk' }) :
    wpAny (model Challenge.rw_sq0024_01.row.prog w) (ktrTop dp un gd cn cs L a ccd cl outer) (call (.ref 124) [.ref l]) Q E s :=
  (octet_c w mean mg mb l o k rest hb hk9 hne).use B F X N T hk trivial hdp hu ht.sub fun v news' h' tk' hp F' N' => by
    obtain ⟨d, t, o', rfl, h1, h2, h3, rfl⟩ := hp
    exact ret d t o' h' tk' h1 h2 h3 F' N'
end

end Mine
end

section
open PySem PySem.W PyProof.Rows PySem.Spec PySem.Calls
set_option maxRecDepth 100000
namespace Mine
local macro_rules | `(tactic| walk_at "g end") => `(tactic| (first | (refine' Gives.end1 ?eR ?eF ?eN ?eP; (case eR => assumption); (case eF => k_asm); (case eN => k_asm); (case eP => walk_at "g post")) | (refine' Gives.end_ ?eR ?eF ?eN ?eS ?eP; (case eR => assumption); (case eF => k_asm); (case eN => k_asm); (case eP => walk_at "g post"); (case eS => kcj_all)) | fail "g end"))
local macro_rules | `(tactic| walk_at "g post") => `(tactic| ((try dsimp only); k_extra "post"))
local macro_rules | `(tactic| walk_at "g go") => `(tactic| ((refine wpAny_call ?_); (k_dflt cell_enter); k_steps; all_goals walk_at "g end"))
local macro_rules | `(tactic| k_all) => `(tactic| assumption)
local macro_rules | `(tactic| walk_at "call ref") => `(tactic| ((with_reducible show wpAny _ _ (call (Value.ref 103) _) _ _ _); (k_dflt (refine' draw_use ?B ?F ?X ?N ?T ?hk ?ht ?hb ?k9 ?ne ?m1 ?m2 ?dp ?un ?_; (case B => k_asm); (case F => k_asm); (case X => k_asm); (case N => k_asm); (case T => k_asm); (case hk => first | exact rfl | assumption); (case ht => first | exact Takes.head | exact Takes.tail (Takes.head) | exact Takes.tail (Takes.tail (Takes.head)) | exact Takes.tail (Takes.tail (Takes.tail (Takes.head))) | exact Takes.tail (Takes.tail (Takes.tail (Takes.tail (Takes.head)))) | exact Takes.tail (Takes.tail (Takes.tail (Takes.tail (Takes.tail (Takes.head))))) | exact Takes.tail (Takes.tail (Takes.tail (Takes.tail (Takes.tail (Takes.tail (Takes.head)))))) | exact Takes.tail (Takes.tail (Takes.tail (Takes.tail (Takes.tail (Takes.tail (Takes.tail (Takes.head))))))) | exact Takes.tail (Takes.tail (Takes.tail (Takes.tail (Takes.tail (Takes.tail (Takes.tail (Takes.tail (Takes.head))))))))); (case hb => assumption); (case k9 => omega); (case ne => k_all); (case m1 => first | decide | omega); (case m2 => first | decide | omega); (case dp => ktr_room); (case un => ktr_units))); intro d9 t9 o9 h9 tk9 h91 h92 hb9 F9 N9; (try k_sweep); (try dsimp only); (try k_fold)))

local macro_rules | `(tactic| walk_at "g enter") => `(tactic| ((refine wpAny_call ?_); k_dflt (refine' code_def ?k1 ?k2 ?k3 ?k4 ?k5 ?kA ?kF ?kK ?k6 ?k7 ?k8 ?k9 ?kB ?_ ?c2 ?c3 ?c4 ?c5; (case kA => exact rfl); (case kF => exact rfl); (case kK => first | exact rfl | assumption); (case k1 => k_asm); (case k2 => k_asm); (case k3 => k_asm); (case k4 => k_asm); (case k5 => k_asm); (case k6 => k_is); (case k7 => k_is); (case k8 => ktr_room); (case k9 => exact BindsTo.of_eq rfl); (case c5 => decide); (case kB => exact locs rfl); (case c2 => exact rfl); (case c3 => exact rfl); (case c4 => exact rfl); k_whole; intro g' L' h' FG' F' N' B' X' T'; (try dsimp only); (try k_lift B'); (try k_fold))))
local macro_rules | `(tactic| walk_at "call ref") => `(tactic| ((with_reducible show wpAny _ _ (call (Value.ref 82) _) _ _ _); walk_at "g enter"))


section
variable {prog : Program} {w : World} {A : Around} {E : Value → Shared → Prop} {Q : Value → Shared → Prop} {s : Shared} {t u : Tok}
theorem pow_val {a n c : Int} (hn : 0 ≤ n) (hn2 : n ≤ 1000000) (ha : a.natAbs < 2 ^ 64) (hc : a ^ n.toNat = c) (h : Q (.int c s.toks) { s with toks := s.toks + 1 }) : wpAny (model prog w) A (binaryOp .Pow (.int a t) (.int n u)) Q E s := pow_int_small hn hn2 ha (by rw [hc]; exact h)
theorem pow20 (h : Q (.int 1048576 s.toks) { s with toks := s.toks + 1 }) : wpAny (model prog w) A (binaryOp .Pow (.int 2 t) (.int 20 u)) Q E s := pow_val (by decide) (by decide) (by decide) (by decide +kernel) h
theorem pow23 (h : Q (.int 8388608 s.toks) { s with toks := s.toks + 1 }) : wpAny (model prog w) A (binaryOp .Pow (.int 2 t) (.int 23 u)) Q E s := pow_val (by decide) (by decide) (by decide) (by decide +kernel) h
theorem pow24 (h : Q (.int 16777216 s.toks) { s with toks := s.toks + 1 }) : wpAny (model prog w) A (binaryOp .Pow (.int 2 t) (.int 24 u)) Q E s := pow_val (by decide) (by decide) (by decide) (by decide +kernel) h
theorem pow27 (h : Q (.int 134217728 s.toks) { s with toks := s.toks + 1 }) : wpAny (model prog w) A (binaryOp .Pow (.int 2 t) (.int 27 u)) Q E s := pow_val (by decide) (by decide) (by decide) (by decide +kernel) h
theorem pow30 (h : Q (.int 1073741824 s.toks) { s with toks := s.toks + 1 }) : wpAny (model prog w) A (binaryOp .Pow (.int 2 t) (.int 30 u)) Q E s := pow_val (by decide) (by decide) (by decide) (by decide +kernel) h
theorem pow31 (h : Q (.int 2147483648 s.toks) { s with toks := s.toks + 1 }) : wpAny (model prog w) A (binaryOp .Pow (.int 2 t) (.int 31 u)) Q E s := pow_val (by decide) (by decide) (by decide) (by decide +kernel) h
theorem pow32 (h : Q (.int 4294967296 s.toks) { s with toks := s.toks + 1 }) : wpAny (model prog w) A (binaryOp .Pow (.int 2 t) (.int 32 u)) Q E s := pow_val (by decide) (by decide) (by decide) (by decide +kernel) h
end
local macro_rules | `(tactic| walk_at "binaryOp Pow int int") => `(tactic| (with_reducible first | refine pow20 ?_ | refine pow23 ?_ | refine pow24 ?_ | refine pow27 ?_ | refine pow30 ?_ | refine pow31 ?_ | refine pow32 ?_))

/-- the eight sizes at the bounds -/
theorem bounds8 {d : Int} (h0 : 0 ≤ d) (h1 : d < 8) : 1 ≤ [(1:Int), 1048576, 1048577, 8388607, 8388608, 16777215, 16777217, 134217727].getD d.toNat 0 ∧ [(1:Int), 1048576, 1048577, 8388607, 8388608, 16777215, 16777217, 134217727].getD d.toNat 0 < 134217728 := by
  rcases (show d = 0 ∨ d = 1 ∨ d = 2 ∨ d = 3 ∨ d = 4 ∨ d = 5 ∨ d = 6 ∨ d = 7 by omega) with rfl | rfl | rfl | rfl | rfl | rfl | rfl | rfl <;> decide

set_option maxHeartbeats 4000000 in
theorem size_c (w : World) (mean : ExcName → Option Value) (mg mb : Str → Option Value) (l : Addr) (o : Obj) (k : Nat) (rest : List (Addr × Obj)) (hb : bagOk o k) (hk9 : k < 900) (hne : ∀ p ∈ rest, p.1 ≠ l) :
    Gives w mean mg mb 110 2 [.ref l] (fun _ => True) ((l, o) :: rest) (fun v news' => ∃ d t o', v = .int d t ∧ 1 ≤ d ∧ d < 134217728 ∧ bagOk o' (k + 2) ∧ news' = (l, o') :: rest) := by
  w_on
  unfold Gives
  k_fill
  intro dp un gd cn cs a ccd cl outer A₀ base h₀ L m s Q E B F X N T hk hl hdp hu hret
  (refine wpAny_call ?_); (k_dflt cell_enter); k_steps
  k_with "post" => ((refine ⟨_, _, _, rfl, ?_, ?_, bagOk.mono (by assumption) (by omega), rfl⟩) <;> first | omega | exact (bounds8 (by omega) (by omega)).1 | exact (bounds8 (by omega) (by omega)).2)

  all_goals walk_at "g end"
end Mine
end

section
open PySem PySem.W PyProof.Rows PySem.Spec PySem.Calls
set_option maxRecDepth 100000
namespace Mine
local macro_rules | `(tactic| walk_at "g end") => `(tactic| (first | (refine' Gives.end1 ?eR ?eF ?eN ?eP; (case eR => assumption); (case eF => k_asm); (case eN => k_asm); (case eP => walk_at "g post")) | (refine' Gives.end_ ?eR ?eF ?eN ?eS ?eP; (case eR => assumption); (case eF => k_asm); (case eN => k_asm); (case eP => walk_at "g post"); (case eS => kcj_all)) | fail "g end"))
local macro_rules | `(tactic| walk_at "g post") => `(tactic| ((try dsimp only); k_extra "post"))
local macro_rules | `(tactic| walk_at "g go") => `(tactic| ((refine wpAny_call ?_); (k_dflt cell_enter); k_steps; all_goals walk_at "g end"))
local macro_rules | `(tactic| k_all) => `(tactic| assumption)
local macro_rules | `(tactic| walk_at "call ref") => `(tactic| ((with_reducible show wpAny _ _ (call (Value.ref 103) _) _ _ _); (k_dflt (refine' draw_use ?B ?F ?X ?N ?T ?hk ?ht ?hb ?k9 ?ne ?m1 ?m2 ?dp ?un ?_; (case B => k_asm); (case F => k_asm); (case X => k_asm); (case N => k_asm); (case T => k_asm); (case hk => first | exact rfl | assumption); (case ht => first | exact Takes.head | exact Takes.tail (Takes.head) | exact Takes.tail (Takes.tail (Takes.head)) | exact Takes.tail (Takes.tail (Takes.tail (Takes.head))) | exact Takes.tail (Takes.tail (Takes.tail (Takes.tail (Takes.head)))) | exact Takes.tail (Takes.tail (Takes.tail (Takes.tail (Takes.tail (Takes.head))))) | exact Takes.tail (Takes.tail (Takes.tail (Takes.tail (Takes.tail (Takes.tail (Takes.head)))))) | exact Takes.tail (Takes.tail (Takes.tail (Takes.tail (Takes.tail (Takes.tail (Takes.tail (Takes.head))))))) | exact Takes.tail (Takes.tail (Takes.tail (Takes.tail (Takes.tail (Takes.tail (Takes.tail (Takes.tail (Takes.head))))))))); (case hb => assumption); (case k9 => omega); (case ne => k_all); (case m1 => first | decide | omega); (case m2 => first | decide | omega); (case dp => ktr_room); (case un => ktr_units))); intro d9 t9 o9 h9 tk9 h91 h92 hb9 F9 N9; (try k_sweep); (try dsimp only); (try k_fold)))

local macro_rules | `(tactic| walk_at "g enter") => `(tactic| ((refine wpAny_call ?_); k_dflt (refine' code_def ?k1 ?k2 ?k3 ?k4 ?k5 ?kA ?kF ?kK ?k6 ?k7 ?k8 ?k9 ?kB ?_ ?c2 ?c3 ?c4 ?c5; (case kA => exact rfl); (case kF => exact rfl); (case kK => first | exact rfl | assumption); (case k1 => k_asm); (case k2 => k_asm); (case k3 => k_asm); (case k4 => k_asm); (case k5 => k_asm); (case k6 => k_is); (case k7 => k_is); (case k8 => ktr_room); (case k9 => exact BindsTo.of_eq rfl); (case c5 => decide); (case kB => exact locs rfl); (case c2 => exact rfl); (case c3 => exact rfl); (case c4 => exact rfl); k_whole; intro g' L' h' FG' F' N' B' X' T'; (try dsimp only); (try k_lift B'); (try k_fold))))
local macro_rules | `(tactic| walk_at "call ref") => `(tactic| ((with_reducible show wpAny _ _ (call (Value.ref 82) _) _ _ _); walk_at "g enter"))

local macro_rules | `(tactic| walk_at "binaryOp Pow int int") => `(tactic| (with_reducible first | refine pow20 ?_ | refine pow23 ?_ | refine pow24 ?_ | refine pow27 ?_ | refine pow30 ?_ | refine pow31 ?_ | refine pow32 ?_))


/-- the size without its last bits -/
def unitOf (z : Int) : Int := if z < 8388608 then z else if z < 16777216 then 2 * (z / 2) else if z < 33554432 then 4 * (z / 4) else if z < 67108864 then 8 * (z / 8) else 16 * (z / 16)

theorem unit_val {z n : Int} (hz : z < 134217728) (hn : 0 ≤ n)
    (hP : Passed (fun j => decide ((accUp (fun (_ : Int) (σ : St) => ({ zs := [2 * σ.zs.headD 0], bs := [], ss := [] } : St)) 0 { zs := [1], bs := [], ss := [] } j).zs.headD 0 * 8388608 ≤ z)) (fun _ => false) n)
    (he : z < (accUp (fun (_ : Int) (σ : St) => ({ zs := [2 * σ.zs.headD 0], bs := [], ss := [] } : St)) 0 { zs := [1], bs := [], ss := [] } n).zs.headD 0 * 8388608) :
    z - z.fmod ((accUp (fun (_ : Int) (σ : St) => ({ zs := [2 * σ.zs.headD 0], bs := [], ss := [] } : St)) 0 { zs := [1], bs := [], ss := [] } n).zs.headD 0) = unitOf z := by
  have a0 : (accUp (fun (_ : Int) (σ : St) => ({ zs := [2 * σ.zs.headD 0], bs := [], ss := [] } : St)) 0 { zs := [1], bs := [], ss := [] } 0).zs.headD 0 = 1 := by decide +kernel
  have a1 : (accUp (fun (_ : Int) (σ : St) => ({ zs := [2 * σ.zs.headD 0], bs := [], ss := [] } : St)) 0 { zs := [1], bs := [], ss := [] } 1).zs.headD 0 = 2 := by decide +kernel
  have a2 : (accUp (fun (_ : Int) (σ : St) => ({ zs := [2 * σ.zs.headD 0], bs := [], ss := [] } : St)) 0 { zs := [1], bs := [], ss := [] } 2).zs.headD 0 = 4 := by decide +kernel
  have a3 : (accUp (fun (_ : Int) (σ : St) => ({ zs := [2 * σ.zs.headD 0], bs := [], ss := [] } : St)) 0 { zs := [1], bs := [], ss := [] } 3).zs.headD 0 = 8 := by decide +kernel
  have a4 : (accUp (fun (_ : Int) (σ : St) => ({ zs := [2 * σ.zs.headD 0], bs := [], ss := [] } : St)) 0 { zs := [1], bs := [], ss := [] } 4).zs.headD 0 = 16 := by decide +kernel
  have up : ∀ j, 0 ≤ j → j < n → (accUp (fun (_ : Int) (σ : St) => ({ zs := [2 * σ.zs.headD 0], bs := [], ss := [] } : St)) 0 { zs := [1], bs := [], ss := [] } j).zs.headD 0 * 8388608 ≤ z := fun j h0 h1 => of_decide_eq_true (hP j h0 h1).1
  have h4 : n ≤ 4 := by
    rcases Int.lt_or_le 4 n with q | q
    · have := up 4 (by omega) q
      rw [a4] at this
      omega
    · exact q
  unfold unitOf
  rcases (show n = 0 ∨ n = 1 ∨ n = 2 ∨ n = 3 ∨ n = 4 by omega) with rfl | rfl | rfl | rfl | rfl
  · rw [a0] at he ⊢
    rw [if_pos (by omega), Int.fmod_eq_emod_of_nonneg _ (by decide)]
    omega
  · have := up 0 (by omega) (by omega)
    rw [a0] at this
    rw [a1] at he ⊢
    rw [if_neg (by omega), if_pos (by omega), Int.fmod_eq_emod_of_nonneg _ (by decide)]
    omega
  · have := up 1 (by omega) (by omega)
    rw [a1] at this
    rw [a2] at he ⊢
    rw [if_neg (by omega), if_neg (by omega), if_pos (by omega), Int.fmod_eq_emod_of_nonneg _ (by decide)]
    omega
  · have := up 2 (by omega) (by omega)
    rw [a2] at this
    rw [a3] at he ⊢
    rw [if_neg (by omega), if_neg (by omega), if_neg (by omega), if_pos (by omega), Int.fmod_eq_emod_of_nonneg _ (by decide)]
    omega
  · have := up 3 (by omega) (by omega)
    rw [a3] at this
    rw [a4] at he ⊢
    rw [if_neg (by omega), if_neg (by omega), if_neg (by omega), if_neg (by omega), Int.fmod_eq_emod_of_nonneg _ (by decide)]
    omega

set_option maxHeartbeats 4000000 in
theorem unit_c (w : World) (mean : ExcName → Option Value) (mg mb : Str → Option Value) (z : Int) (tk : Tok) (news : List (Addr × Obj)) (h0 : 1 ≤ z) (h1 : z < 134217728) :
    Gives w mean mg mb 117 1 [.int z tk] (fun _ => True) news (fun v news' => ∃ t, v = .int (unitOf z) t ∧ news' = news) := by
  w_on
  unfold Gives
  k_fill
  intro dp un gd cn cs a ccd cl outer A₀ base h₀ L m s Q E B F X N T hk hl hdp hu hret
  k_with "post" => exact ⟨_, congrArg (fun q => Value.int q _) (unit_val h1 (by assumption) (by assumption) (by assumption)), rfl⟩
  (refine wpAny_call ?_); (k_dflt cell_enter); k_steps
  all_goals walk_at "g end"

/-- size_parts' two numbers -/
def redOf (z : Int) : Int := if z < 8388608 then z else if z < 16777216 then z / 2 else if z < 33554432 then z / 4 else if z < 67108864 then z / 8 else z / 16
def facOf (z : Int) : Int := if z < 8388608 then 16 else if z < 16777216 then 32 else if z < 33554432 then 64 else if z < 67108864 then 128 else 256

theorem parts_up {z k : Int} (hk : 0 ≤ k) : accUp (fun (_ : Int) (σ : St) => ({ zs := [(σ.zs.headD 0).fdiv 2, 2 * σ.zs.tail.headD 0], bs := [], ss := [] } : St)) 0 { zs := [z, 16], bs := [], ss := [] } k = ({ zs := [z / 2 ^ k.toNat, 16 * 2 ^ k.toNat], bs := [], ss := [] } : St) := by
  refine accUp_eq (P := fun k => ({ zs := [z / 2 ^ k.toNat, 16 * 2 ^ k.toNat], bs := [], ss := [] } : St)) hk (by simp) fun j h0 _ => ?_
  have e : (j + 1).toNat = j.toNat + 1 := by omega
  have e1 : z / (2 ^ j.toNat * 2) = z / 2 ^ j.toNat / 2 := (Int.ediv_ediv_of_nonneg (Int.pow_nonneg (by decide))).symm
  simp only [e, Int.pow_succ, List.headD_cons, List.tail_cons, e1, Int.fdiv_eq_ediv_of_nonneg _ (show (0:Int) ≤ 2 by decide)]
  congr 2
  rw [← Int.mul_assoc, Int.mul_comm]

theorem parts_val {z n : Int} (h1 : 1 ≤ z) (hz : z < 134217728) (hn : 0 ≤ n)
    (hP : Passed (fun j => decide (8388608 ≤ (accUp (fun (_ : Int) (σ : St) => ({ zs := [(σ.zs.headD 0).fdiv 2, 2 * σ.zs.tail.headD 0], bs := [], ss := [] } : St)) 0 { zs := [z, 16], bs := [], ss := [] } j).zs.headD 0)) (fun _ => false) n)
    (he : (accUp (fun (_ : Int) (σ : St) => ({ zs := [(σ.zs.headD 0).fdiv 2, 2 * σ.zs.tail.headD 0], bs := [], ss := [] } : St)) 0 { zs := [z, 16], bs := [], ss := [] } n).zs.headD 0 < 8388608) :
    (accUp (fun (_ : Int) (σ : St) => ({ zs := [(σ.zs.headD 0).fdiv 2, 2 * σ.zs.tail.headD 0], bs := [], ss := [] } : St)) 0 { zs := [z, 16], bs := [], ss := [] } n).zs.headD 0 = redOf z ∧ (accUp (fun (_ : Int) (σ : St) => ({ zs := [(σ.zs.headD 0).fdiv 2, 2 * σ.zs.tail.headD 0], bs := [], ss := [] } : St)) 0 { zs := [z, 16], bs := [], ss := [] } n).zs.tail.headD 0 = facOf z := by
  have up : ∀ j, 0 ≤ j → j < n → 8388608 ≤ z / 2 ^ j.toNat := fun j h0 h1 => by
    have := of_decide_eq_true (hP j h0 h1).1
    rw [parts_up h0] at this
    exact this
  rw [parts_up hn] at he ⊢
  simp only [List.headD_cons, List.tail_cons] at he ⊢
  have h4 : n ≤ 4 := by
    rcases Int.lt_or_le 4 n with q | q
    · have := up 4 (by omega) q
      rw [show (4:Int).toNat = 4 from rfl] at this
      simp only [Int.reducePow] at this
      omega
    · exact q
  unfold redOf facOf
  rcases (show n = 0 ∨ n = 1 ∨ n = 2 ∨ n = 3 ∨ n = 4 by omega) with rfl | rfl | rfl | rfl | rfl
  · simp only [Int.reduceToNat, Int.reducePow] at he ⊢
    rw [if_pos (by omega), if_pos (by omega)]
    omega
  · have := up 0 (by omega) (by omega)
    simp only [Int.reduceToNat, Int.reducePow] at this he ⊢
    rw [if_neg (by omega), if_pos (by omega), if_neg (by omega), if_pos (by omega)]
    omega
  · have := up 1 (by omega) (by omega)
    simp only [Int.reduceToNat, Int.reducePow] at this he ⊢
    rw [if_neg (by omega), if_neg (by omega), if_pos (by omega), if_neg (by omega), if_neg (by omega), if_pos (by omega)]
    omega
  · have := up 2 (by omega) (by omega)
    simp only [Int.reduceToNat, Int.reducePow] at this he ⊢
    rw [if_neg (by omega), if_neg (by omega), if_neg (by omega), if_pos (by omega), if_neg (by omega), if_neg (by omega), if_neg (by omega), if_pos (by omega)]
    omega
  · have := up 3 (by omega) (by omega)
    simp only [Int.reduceToNat, Int.reducePow] at this he ⊢
    rw [if_neg (by omega), if_neg (by omega), if_neg (by omega), if_neg (by omega), if_neg (by omega), if_neg (by omega), if_neg (by omega), if_neg (by omega)]
    omega

theorem drop2 (p q : Addr × Obj) (r : List (Addr × Obj)) : ∀ x ∈ p :: r, x ∈ p :: q :: r := fun x hx => by
  rcases List.mem_cons.mp hx with rfl | hx
  · exact .head _
  · exact .tail _ (.tail _ hx)
abbrev tup2 (x y : Int) (t u : Tok) : Obj := { cls := .type "tuple", data := .seq #[.int x t, .int y u] }
set_option maxHeartbeats 4000000 in
theorem parts_c (w : World) (mean : ExcName → Option Value) (mg mb : Str → Option Value) (z : Int) (tk : Tok) (news : List (Addr × Obj)) (h0 : 1 ≤ z) (h1 : z < 134217728) :
    Gives w mean mg mb 54 1 [.int z tk] (fun _ => True) news (fun v news' => ∃ tp x y t u, v = .ref tp ∧ x = redOf z ∧ y = facOf z ∧ AllLt tp news ∧ news' = (tp, tup2 x y t u) :: news) := by
  w_on
  unfold Gives
  k_fill
  intro dp un gd cn cs a ccd cl outer A₀ base h₀ L m s Q E B F X N T hk hl hdp hu hret
  (refine wpAny_call ?_); (k_dflt cell_enter); k_steps
  all_goals (refine' Gives.end1 hret ?eF (cb_drop ?eN (drop2 _ _ _)) ?eP; (case eF => k_asm); (case eN => k_asm); (case eP => (try dsimp only); exact ⟨_, _, _, _, _, rfl, (parts_val h0 h1 (by assumption) (by assumption) (by assumption)).1, (parts_val h0 h1 (by assumption) (by assumption) (by assumption)).2, (And.right (by assumption)), rfl⟩))

section
variable {w : World} {mean : ExcName → Option Value} {mg mb : Str → Option Value} {dp un : Nat} {gd : Option (List Code)} {cn : Str} {cs : Scope} {a : Addr} {ccd : Value} {cl : List (Str × Addr)} {outer : List Env} {A₀ : Around} {base h₀ : Heap} {L : Addr} {m : Str → Option Value} {s : Shared} {Q E : Value → Shared → Prop} {news₀ : List (Addr × Obj)}
theorem unit_use {z : Int} {tk : Tok} (B : Below A₀ base outer h₀) (F : Fr h₀ L s.heap m) (X : (hd.heap_39 w.params).In h₀) (N : News h₀ L s.heap news₀) (T : Top hd.view_39 LZ mean mg mb h₀) (hk : cs.kind = .function)
    (h0 : 1 ≤ z) (h1 : z < 134217728) (hdp : dp + 1 < recursionLimit) (hu : un + 8 * 1 < cLine)
    (ret : ∀ (t : Tok) (h' : Heap) (tk' : Nat), Fr h₀ L h' m → News h₀ L h' news₀ → Q (.int (unitOf z) t) { s with heap := h', toks := tk' }) :
    wpAny (model Challenge.rw_sq0024_01.row.prog w) (ktrTop dp un gd cn cs L a ccd cl outer) (call (.ref 117) [.int z tk]) Q E s :=
  (unit_c w mean mg mb z tk news₀ h0 h1).use B F X N T hk trivial hdp hu (fun _ h => h) fun v news' h' tk' hp F' N' => by
    obtain ⟨t, rfl, rfl⟩ := hp
    exact ret t h' tk' F' N'
theorem parts_use {z : Int} {tk : Tok} (B : Below A₀ base outer h₀) (F : Fr h₀ L s.heap m) (X : (hd.heap_39 w.params).In h₀) (N : News h₀ L s.heap news₀) (T : Top hd.view_39 LZ mean mg mb h₀) (hk : cs.kind = .function)
    (h0 : 1 ≤ z) (h1 : z < 134217728) (hdp : dp + 1 < recursionLimit) (hu : un + 8 * 1 < cLine)
    (ret : ∀ (tp : Addr) (t u : Tok) (h' : Heap) (tk' : Nat), Fr h₀ L h' m → News h₀ L h' ((tp, tup2 (redOf z) (facOf z) t u) :: news₀) → AllLt tp news₀ → Q (.ref tp) { s with heap := h', toks := tk' }) :
    wpAny (model Challenge.rw_sq0024_01.row.prog w) (ktrTop dp un gd cn cs L a ccd cl outer) (call (.ref 54) [.int z tk]) Q E s :=
  (parts_c w mean mg mb z tk news₀ h0 h1).use B F X N T hk trivial hdp hu (fun _ h => h) fun v news' h' tk' hp F' N' => by
    obtain ⟨tp, x, y, t, u, rfl, rfl, rfl, hl, rfl⟩ := hp
    exact ret tp t u h' tk' F' N' hl
end
end Mine
end

section
open PySem PySem.W PyProof.Rows PySem.Spec PySem.Calls
set_option maxRecDepth 100000
namespace Mine
local macro_rules | `(tactic| walk_at "g end") => `(tactic| (first | (refine' Gives.end1 ?eR ?eF ?eN ?eP; (case eR => assumption); (case eF => k_asm); (case eN => k_asm); (case eP => walk_at "g post")) | (refine' Gives.end_ ?eR ?eF ?eN ?eS ?eP; (case eR => assumption); (case eF => k_asm); (case eN => k_asm); (case eP => walk_at "g post"); (case eS => kcj_all)) | fail "g end"))
local macro_rules | `(tactic| walk_at "g post") => `(tactic| ((try dsimp only); k_extra "post"))
local macro_rules | `(tactic| walk_at "g go") => `(tactic| ((refine wpAny_call ?_); (k_dflt cell_enter); k_steps; all_goals walk_at "g end"))
local macro_rules | `(tactic| k_all) => `(tactic| assumption)
local macro_rules | `(tactic| walk_at "call ref") => `(tactic| ((with_reducible show wpAny _ _ (call (Value.ref 103) _) _ _ _); (k_dflt (refine' draw_use ?B ?F ?X ?N ?T ?hk ?ht ?hb ?k9 ?ne ?m1 ?m2 ?dp ?un ?_; (case B => k_asm); (case F => k_asm); (case X => k_asm); (case N => k_asm); (case T => k_asm); (case hk => first | exact rfl | assumption); (case ht => first | exact Takes.head | exact Takes.tail (Takes.head) | exact Takes.tail (Takes.tail (Takes.head)) | exact Takes.tail (Takes.tail (Takes.tail (Takes.head))) | exact Takes.tail (Takes.tail (Takes.tail (Takes.tail (Takes.head)))) | exact Takes.tail (Takes.tail (Takes.tail (Takes.tail (Takes.tail (Takes.head))))) | exact Takes.tail (Takes.tail (Takes.tail (Takes.tail (Takes.tail (Takes.tail (Takes.head)))))) | exact Takes.tail (Takes.tail (Takes.tail (Takes.tail (Takes.tail (Takes.tail (Takes.tail (Takes.head))))))) | exact Takes.tail (Takes.tail (Takes.tail (Takes.tail (Takes.tail (Takes.tail (Takes.tail (Takes.tail (Takes.head))))))))); (case hb => assumption); (case k9 => omega); (case ne => k_all); (case m1 => first | decide | omega); (case m2 => first | decide | omega); (case dp => ktr_room); (case un => ktr_units))); intro d9 t9 o9 h9 tk9 h91 h92 hb9 F9 N9; (try k_sweep); (try dsimp only); (try k_fold)))

local macro_rules | `(tactic| walk_at "g enter") => `(tactic| ((refine wpAny_call ?_); k_dflt (refine' code_def ?k1 ?k2 ?k3 ?k4 ?k5 ?kA ?kF ?kK ?k6 ?k7 ?k8 ?k9 ?kB ?_ ?c2 ?c3 ?c4 ?c5; (case kA => exact rfl); (case kF => exact rfl); (case kK => first | exact rfl | assumption); (case k1 => k_asm); (case k2 => k_asm); (case k3 => k_asm); (case k4 => k_asm); (case k5 => k_asm); (case k6 => k_is); (case k7 => k_is); (case k8 => ktr_room); (case k9 => exact BindsTo.of_eq rfl); (case c5 => decide); (case kB => exact locs rfl); (case c2 => exact rfl); (case c3 => exact rfl); (case c4 => exact rfl); k_whole; intro g' L' h' FG' F' N' B' X' T'; (try dsimp only); (try k_lift B'); (try k_fold))))
local macro_rules | `(tactic| walk_at "call ref") => `(tactic| ((with_reducible show wpAny _ _ (call (Value.ref 82) _) _ _ _); walk_at "g enter"))

local macro_rules | `(tactic| walk_at "binaryOp Pow int int") => `(tactic| (with_reducible first | refine pow20 ?_ | refine pow23 ?_ | refine pow24 ?_ | refine pow27 ?_ | refine pow30 ?_ | refine pow31 ?_ | refine pow32 ?_))


section
variable {prog : Program} {w : World} {A : Around} {E : Value → Shared → Prop} {Q : Value → Shared → Prop} {s : Shared} {t u : Tok}
theorem pow10_18 (h : Q (.int 1000000000000000000 s.toks) { s with toks := s.toks + 1 }) : wpAny (model prog w) A (binaryOp .Pow (.int 10 t) (.int 18 u)) Q E s := pow_val (by decide) (by decide) (by decide) (by decide +kernel) h
theorem pow10_90 (h : Q (.int 1000000000000000000000000000000000000000000000000000000000000000000000000000000000000000000 s.toks) { s with toks := s.toks + 1 }) : wpAny (model prog w) A (binaryOp .Pow (.int 10 t) (.int 90 u)) Q E s := pow_val (by decide) (by decide) (by decide) (by decide +kernel) h
end
local macro_rules | `(tactic| walk_at "binaryOp Pow int int") => `(tactic| (with_reducible first | refine pow10_18 ?_ | refine pow10_90 ?_))
set_option maxHeartbeats 4000000 in
theorem bag_c (w : World) (mean : ExcName → Option Value) (mg mb : Str → Option Value) (c : Int) (tk : Tok) (news : List (Addr × Obj)) :
    Gives w mean mg mb 96 1 [.int c tk] (fun _ => True) news (fun v news' => ∃ l o, v = .ref l ∧ bagOk o 0 ∧ AllLt l news ∧ news' = (l, o) :: news) := by
  w_on
  unfold Gives
  k_fill
  intro dp un gd cn cs a ccd cl outer A₀ base h₀ L m s Q E B F X N T hk hl hdp hu hret
  (refine wpAny_call ?_); (k_dflt cell_enter); k_steps
  all_goals (refine' Gives.end1 hret ?eF ?eN ?eP; (case eF => k_asm); (case eN => k_asm); (case eP => (try dsimp only); exact ⟨_, _, rfl, ⟨_, _, _, _, _, _, _, rfl, Int.fmod_nonneg_of_pos _ (by decide), Int.fmod_nonneg_of_pos _ (by decide), Int.fmod_lt_of_pos _ (by decide), by decide, by decide⟩, allLt_of (by assumption), rfl⟩))

section
variable {w : World} {mean : ExcName → Option Value} {mg mb : Str → Option Value} {dp un : Nat} {gd : Option (List Code)} {cn : Str} {cs : Scope} {a : Addr} {ccd : Value} {cl : List (Str × Addr)} {outer : List Env} {A₀ : Around} {base h₀ : Heap} {L : Addr} {m : Str → Option Value} {s : Shared} {Q E : Value → Shared → Prop} {news₀ : List (Addr × Obj)}
theorem bag_use {c : Int} {tk : Tok} (B : Below A₀ base outer h₀) (F : Fr h₀ L s.heap m) (X : (hd.heap_39 w.params).In h₀) (N : News h₀ L s.heap news₀) (T : Top hd.view_39 LZ mean mg mb h₀) (hk : cs.kind = .function)
    (hdp : dp + 1 < recursionLimit) (hu : un + 8 * 1 < cLine)
    (ret : ∀ (l : Addr) (o : Obj) (h' : Heap) (tk' : Nat), bagOk o 0 → AllLt l news₀ → Fr h₀ L h' m → News h₀ L h' ((l, o) :: news₀) → Q (.ref l) { s with heap := h', toks := tk' }) :
    wpAny (model Challenge.rw_sq0024_01.row.prog w) (ktrTop dp un gd cn cs L a ccd cl outer) (call (.ref 96) [.int c tk]) Q E s :=
  (bag_c w mean mg mb c tk news₀).use B F X N T hk trivial hdp hu (fun _ h => h) fun v news' h' tk' hp F' N' => by
    obtain ⟨l, o, rfl, h1, h2, rfl⟩ := hp
    exact ret l o h' tk' h1 h2 F' N'
theorem cell_use {l : Addr} {vs : List Value} {ns : List Int} {k : Int} {tk : Tok} (B : Below A₀ base outer h₀) (F : Fr h₀ L s.heap m) (X : (hd.heap_39 w.params).In h₀) (N : News h₀ L s.heap news₀) (T : Top hd.view_39 LZ mean mg mb h₀) (hk : cs.kind = .function)
    (hl : base.IsList l vs.toArray) (hi : IntsAre vs ns) (h63 : ns.length ≤ 63) (h0 : 0 ≤ k) (hk9 : k ≤ 100) (hdp : dp + 1 < recursionLimit) (hu : un + 8 * 1 < cLine)
    (ret : ∀ (c : Int) (t : Tok) (h' : Heap) (tk' : Nat), 0 ≤ c → Fr h₀ L h' m → News h₀ L h' news₀ → Q (.int c t) { s with heap := h', toks := tk' }) :
    wpAny (model Challenge.rw_sq0024_01.row.prog w) (ktrTop dp un gd cn cs L a ccd cl outer) (call (.ref 89) [.ref l, .int k tk]) Q E s :=
  (cell_c w mean mg mb l vs ns k tk news₀ h63 h0 hk9 hi).use B F X N T hk hl hdp hu (fun _ h => h) fun v news' h' tk' hp F' N' => by
    obtain ⟨c, t, rfl, h1, rfl⟩ := hp
    exact ret c t h' tk' h1 F' N'
end
end Mine
end

section
open PySem PySem.W PyProof.Rows PySem.Spec PySem.Calls
set_option maxRecDepth 100000
namespace Mine
local macro_rules | `(tactic| walk_at "g end") => `(tactic| (first | (refine' Gives.end1 ?eR ?eF ?eN ?eP; (case eR => assumption); (case eF => k_asm); (case eN => k_asm); (case eP => walk_at "g post")) | (refine' Gives.end_ ?eR ?eF ?eN ?eS ?eP; (case eR => assumption); (case eF => k_asm); (case eN => k_asm); (case eP => walk_at "g post"); (case eS => kcj_all)) | fail "g end"))
local macro_rules | `(tactic| walk_at "g post") => `(tactic| ((try dsimp only); k_extra "post"))
local macro_rules | `(tactic| walk_at "g go") => `(tactic| ((refine wpAny_call ?_); (k_dflt cell_enter); k_steps; all_goals walk_at "g end"))
local macro_rules | `(tactic| k_all) => `(tactic| assumption)
local macro_rules | `(tactic| walk_at "call ref") => `(tactic| ((with_reducible show wpAny _ _ (call (Value.ref 103) _) _ _ _); (k_dflt (refine' draw_use ?B ?F ?X ?N ?T ?hk ?ht ?hb ?k9 ?ne ?m1 ?m2 ?dp ?un ?_; (case B => k_asm); (case F => k_asm); (case X => k_asm); (case N => k_asm); (case T => k_asm); (case hk => first | exact rfl | assumption); (case ht => first | exact Takes.head | exact Takes.tail (Takes.head) | exact Takes.tail (Takes.tail (Takes.head)) | exact Takes.tail (Takes.tail (Takes.tail (Takes.head))) | exact Takes.tail (Takes.tail (Takes.tail (Takes.tail (Takes.head)))) | exact Takes.tail (Takes.tail (Takes.tail (Takes.tail (Takes.tail (Takes.head))))) | exact Takes.tail (Takes.tail (Takes.tail (Takes.tail (Takes.tail (Takes.tail (Takes.head)))))) | exact Takes.tail (Takes.tail (Takes.tail (Takes.tail (Takes.tail (Takes.tail (Takes.tail (Takes.head))))))) | exact Takes.tail (Takes.tail (Takes.tail (Takes.tail (Takes.tail (Takes.tail (Takes.tail (Takes.tail (Takes.head))))))))); (case hb => assumption); (case k9 => omega); (case ne => k_all); (case m1 => first | decide | omega); (case m2 => first | decide | omega); (case dp => ktr_room); (case un => ktr_units))); intro d9 t9 o9 h9 tk9 h91 h92 hb9 F9 N9; (try k_sweep); (try dsimp only); (try k_fold)))

local macro_rules | `(tactic| walk_at "g enter") => `(tactic| ((refine wpAny_call ?_); k_dflt (refine' code_def ?k1 ?k2 ?k3 ?k4 ?k5 ?kA ?kF ?kK ?k6 ?k7 ?k8 ?k9 ?kB ?_ ?c2 ?c3 ?c4 ?c5; (case kA => exact rfl); (case kF => exact rfl); (case kK => first | exact rfl | assumption); (case k1 => k_asm); (case k2 => k_asm); (case k3 => k_asm); (case k4 => k_asm); (case k5 => k_asm); (case k6 => k_is); (case k7 => k_is); (case k8 => ktr_room); (case k9 => exact BindsTo.of_eq rfl); (case c5 => decide); (case kB => exact locs rfl); (case c2 => exact rfl); (case c3 => exact rfl); (case c4 => exact rfl); k_whole; intro g' L' h' FG' F' N' B' X' T'; (try dsimp only); (try k_lift B'); (try k_fold))))
local macro_rules | `(tactic| walk_at "call ref") => `(tactic| ((with_reducible show wpAny _ _ (call (Value.ref 82) _) _ _ _); walk_at "g enter"))

local macro_rules | `(tactic| walk_at "binaryOp Pow int int") => `(tactic| (with_reducible first | refine pow20 ?_ | refine pow23 ?_ | refine pow24 ?_ | refine pow27 ?_ | refine pow30 ?_ | refine pow31 ?_ | refine pow32 ?_))



theorem allNe_of {I : Addr} {news : List (Addr × Obj)} (h : ∀ p ∈ news, p.1 < I) : ∀ p ∈ news, p.1 ≠ I := fun p hp => Nat.ne_of_lt (h p hp)
theorem allNe_of' {I : Addr} {news : List (Addr × Obj)} (h : AllLt I news) : ∀ p ∈ news, p.1 ≠ I := fun p hp => Nat.ne_of_lt (ktn_ltOf h p hp)
theorem unr_end {h₀ h' : Heap} {L I : Addr} {it : Obj} {rest : (Str → Option Value) → List (Addr × Obj) → Prop} {s₁ : Shared} {tk : Nat} {m' : Str → Option Value} {news' : List (Addr × Obj)} (F : Fr h₀ L h' m') (N : News h₀ L h' ((I, it) :: news')) (off : ∀ p ∈ news', p.1 ≠ I) (r : rest m' news') :
    UnrEnd h₀ L s₁ I it rest { s₁ with heap := h', toks := tk } := ⟨h', tk, m', news', rfl, F, N, off, r⟩
local macro_rules | `(tactic| k_all) => `(tactic| first | assumption | exact allNe_of (by assumption) | exact allNe_of' (by assumption) | exact allNe_of' (And.right (by assumption)) | exact allNe_of' (And.right (And.right (by assumption))) | exact allNe_of' (And.right (And.right (And.right (by assumption)))))
local macro_rules | `(tactic| walk_at "UnrEnd") => `(tactic| (refine' unr_end ?eF ?eN ?eO ?_; (case eF => k_asm); (case eN => k_asm); (case eO => k_all)))
local macro_rules | `(tactic| walk_at "pyIter bytes") => `(tactic| k_bytesUnr)

theorem drop1 (p : Addr × Obj) (r : List (Addr × Obj)) : ∀ x ∈ r, x ∈ p :: r := fun _ h => .tail _ h
/-- a word's number, from its four octets -/
def wordOf (x0 x1 x2 x3 : Int) : Int := if 127 < x0 then 16777216 * x0 + 65536 * x1 + 256 * x2 + x3 - 4294967296 else 16777216 * x0 + 65536 * x1 + 256 * x2 + x3

set_option maxHeartbeats 4000000 in
theorem word_c (w : World) (mean : ExcName → Option Value) (mg mb : Str → Option Value) (a0 a1 a2 a3 : UInt8) (tk : Tok) (news : List (Addr × Obj)) :
    Gives w mean mg mb 131 1 [.bytes #[a0, a1, a2, a3] tk] (fun _ => True) news (fun v news' => ∃ c t, v = .int c t ∧ c = wordOf a0.toNat a1.toNat a2.toNat a3.toNat ∧ news' = news) := by
  w_on
  unfold Gives
  k_fill
  intro dp un gd cn cs a ccd cl outer A₀ base h₀ L m s Q E B F X N T hk hl hdp hu hret
  have hB0 : KBw.bInts #[a0, a1, a2, a3] = [(a0.toNat : Int), (a1.toNat : Int), (a2.toNat : Int), (a3.toNat : Int)] := rfl
  (refine wpAny_call ?_); (k_dflt cell_enter); k_steps
  all_goals (refine' Gives.end1 hret ?eF ?eN ?eP; (case eF => k_asm); (case eN => k_asm); (case eP => (try dsimp only); (refine ⟨_, _, rfl, ?_, rfl⟩); unfold wordOf; (try simp only [Int.reduceToNat, List.getD_cons_zero] at *); split <;> omega))

set_option maxHeartbeats 4000000 in
theorem octets_c (w : World) (mean : ExcName → Option Value) (mg mb : Str → Option Value) (z : Int) (tk : Tok) (news : List (Addr × Obj)) :
    Gives w mean mg mb 68 1 [.int z tk] (fun _ => True) news (fun v news' => ∃ a0 a1 a2 a3 t, v = .bytes #[a0, a1, a2, a3] t ∧ (a0.toNat : Int) = (z.fdiv 16777216).fmod 256 ∧ (a1.toNat : Int) = (z.fdiv 65536).fmod 256 ∧ (a2.toNat : Int) = (z.fdiv 256).fmod 256 ∧ (a3.toNat : Int) = z.fmod 256 ∧ news' = news) := by
  w_on
  unfold Gives
  k_fill
  intro dp un gd cn cs a ccd cl outer A₀ base h₀ L m s Q E B F X N T hk hl hdp hu hret
  (refine wpAny_call ?_); (k_dflt cell_enter); k_steps
  all_goals (refine' Gives.end1 hret ?eF (cb_drop ?eN (drop1 _ _)) ?eP; (case eF => k_asm); (case eN => k_asm); (case eP => (try dsimp only); exact ⟨_, _, _, _, _, rfl, by assumption, by assumption, by assumption, by assumption, rfl⟩))

section
variable {w : World} {mean : ExcName → Option Value} {mg mb : Str → Option Value} {dp un : Nat} {gd : Option (List Code)} {cn : Str} {cs : Scope} {a : Addr} {ccd : Value} {cl : List (Str × Addr)} {outer : List Env} {A₀ : Around} {base h₀ : Heap} {L : Addr} {m : Str → Option Value} {s : Shared} {Q E : Value → Shared → Prop} {news₀ : List (Addr × Obj)}
theorem word_use {a0 a1 a2 a3 : UInt8} {tk : Tok} (B : Below A₀ base outer h₀) (F : Fr h₀ L s.heap m) (X : (hd.heap_39 w.params).In h₀) (N : News h₀ L s.heap news₀) (T : Top hd.view_39 LZ mean mg mb h₀) (hk : cs.kind = .function)
    (hdp : dp + 1 < recursionLimit) (hu : un + 8 * 1 < cLine)
    (ret : ∀ (t : Tok) (h' : Heap) (tk' : Nat), Fr h₀ L h' m → News h₀ L h' news₀ → Q (.int (wordOf a0.toNat a1.toNat a2.toNat a3.toNat) t) { s with heap := h', toks := tk' }) :
    wpAny (model Challenge.rw_sq0024_01.row.prog w) (ktrTop dp un gd cn cs L a ccd cl outer) (call (.ref 131) [.bytes #[a0, a1, a2, a3] tk]) Q E s :=
  (word_c w mean mg mb a0 a1 a2 a3 tk news₀).use B F X N T hk trivial hdp hu (fun _ h => h) fun v news' h' tk' hp F' N' => by
    obtain ⟨c, t, rfl, rfl, rfl⟩ := hp
    exact ret t h' tk' F' N'
theorem octets_use {z : Int} {tk : Tok} (B : Below A₀ base outer h₀) (F : Fr h₀ L s.heap m) (X : (hd.heap_39 w.params).In h₀) (N : News h₀ L s.heap news₀) (T : Top hd.view_39 LZ mean mg mb h₀) (hk : cs.kind = .function)
    (hdp : dp + 1 < recursionLimit) (hu : un + 8 * 1 < cLine)
    (ret : ∀ (a0 a1 a2 a3 : UInt8) (t : Tok) (h' : Heap) (tk' : Nat), (a0.toNat : Int) = (z.fdiv 16777216).fmod 256 → (a1.toNat : Int) = (z.fdiv 65536).fmod 256 → (a2.toNat : Int) = (z.fdiv 256).fmod 256 → (a3.toNat : Int) = z.fmod 256 →
      Fr h₀ L h' m → News h₀ L h' news₀ → Q (.bytes #[a0, a1, a2, a3] t) { s with heap := h', toks := tk' }) :
    wpAny (model Challenge.rw_sq0024_01.row.prog w) (ktrTop dp un gd cn cs L a ccd cl outer) (call (.ref 68) [.int z tk]) Q E s :=
  (octets_c w mean mg mb z tk news₀).use B F X N T hk trivial hdp hu (fun _ h => h) fun v news' h' tk' hp F' N' => by
    obtain ⟨a0, a1, a2, a3, t, rfl, e0, e1, e2, e3, rfl⟩ := hp
    exact ret a0 a1 a2 a3 t h' tk' e0 e1 e2 e3 F' N'
end
end Mine
end

section
open PySem PySem.W PyProof.Rows PySem.Spec PySem.Calls
set_option maxRecDepth 100000
namespace Mine
local macro_rules | `(tactic| walk_at "g end") => `(tactic| (first | (refine' Gives.end1 ?eR ?eF ?eN ?eP; (case eR => assumption); (case eF => k_asm); (case eN => k_asm); (case eP => walk_at "g post")) | (refine' Gives.end_ ?eR ?eF ?eN ?eS ?eP; (case eR => assumption); (case eF => k_asm); (case eN => k_asm); (case eP => walk_at "g post"); (case eS => kcj_all)) | fail "g end"))
local macro_rules | `(tactic| walk_at "g post") => `(tactic| ((try dsimp only); k_extra "post"))
local macro_rules | `(tactic| walk_at "g go") => `(tactic| ((refine wpAny_call ?_); (k_dflt cell_enter); k_steps; all_goals walk_at "g end"))
local macro_rules | `(tactic| k_all) => `(tactic| assumption)
local macro_rules | `(tactic| walk_at "call ref") => `(tactic| ((with_reducible show wpAny _ _ (call (Value.ref 103) _) _ _ _); (k_dflt (refine' draw_use ?B ?F ?X ?N ?T ?hk ?ht ?hb ?k9 ?ne ?m1 ?m2 ?dp ?un ?_; (case B => k_asm); (case F => k_asm); (case X => k_asm); (case N => k_asm); (case T => k_asm); (case hk => first | exact rfl | assumption); (case ht => first | exact Takes.head | exact Takes.tail (Takes.head) | exact Takes.tail (Takes.tail (Takes.head)) | exact Takes.tail (Takes.tail (Takes.tail (Takes.head))) | exact Takes.tail (Takes.tail (Takes.tail (Takes.tail (Takes.head)))) | exact Takes.tail (Takes.tail (Takes.tail (Takes.tail (Takes.tail (Takes.head))))) | exact Takes.tail (Takes.tail (Takes.tail (Takes.tail (Takes.tail (Takes.tail (Takes.head)))))) | exact Takes.tail (Takes.tail (Takes.tail (Takes.tail (Takes.tail (Takes.tail (Takes.tail (Takes.head))))))) | exact Takes.tail (Takes.tail (Takes.tail (Takes.tail (Takes.tail (Takes.tail (Takes.tail (Takes.tail (Takes.head))))))))); (case hb => assumption); (case k9 => omega); (case ne => k_all); (case m1 => first | decide | omega); (case m2 => first | decide | omega); (case dp => ktr_room); (case un => ktr_units))); intro d9 t9 o9 h9 tk9 h91 h92 hb9 F9 N9; (try k_sweep); (try dsimp only); (try k_fold)))

local macro_rules | `(tactic| walk_at "g enter") => `(tactic| ((refine wpAny_call ?_); k_dflt (refine' code_def ?k1 ?k2 ?k3 ?k4 ?k5 ?kA ?kF ?kK ?k6 ?k7 ?k8 ?k9 ?kB ?_ ?c2 ?c3 ?c4 ?c5; (case kA => exact rfl); (case kF => exact rfl); (case kK => first | exact rfl | assumption); (case k1 => k_asm); (case k2 => k_asm); (case k3 => k_asm); (case k4 => k_asm); (case k5 => k_asm); (case k6 => k_is); (case k7 => k_is); (case k8 => ktr_room); (case k9 => exact BindsTo.of_eq rfl); (case c5 => decide); (case kB => exact locs rfl); (case c2 => exact rfl); (case c3 => exact rfl); (case c4 => exact rfl); k_whole; intro g' L' h' FG' F' N' B' X' T'; (try dsimp only); (try k_lift B'); (try k_fold))))
local macro_rules | `(tactic| walk_at "call ref") => `(tactic| ((with_reducible show wpAny _ _ (call (Value.ref 82) _) _ _ _); walk_at "g enter"))

local macro_rules | `(tactic| walk_at "binaryOp Pow int int") => `(tactic| (with_reducible first | refine pow20 ?_ | refine pow23 ?_ | refine pow24 ?_ | refine pow27 ?_ | refine pow30 ?_ | refine pow31 ?_ | refine pow32 ?_))
local macro_rules | `(tactic| k_all) => `(tactic| first | assumption | exact allNe_of (by assumption) | exact allNe_of' (by assumption) | exact allNe_of' (And.right (by assumption)) | exact allNe_of' (And.right (And.right (by assumption))) | exact allNe_of' (And.right (And.right (And.right (by assumption)))))
local macro_rules | `(tactic| walk_at "UnrEnd") => `(tactic| (refine' unr_end ?eF ?eN ?eO ?_; (case eF => k_asm); (case eN => k_asm); (case eO => k_all)))
local macro_rules | `(tactic| walk_at "pyIter bytes") => `(tactic| k_bytesUnr)


section
variable {prog : Program} {w : World} {A : Around} {E : Value → Shared → Prop} {s : Shared} {env : Env} {h₀ : Heap} {L : Addr} {m : Str → Option Value} {news : List (Addr × Obj)} {b : Array UInt8} {t : Tok} {it : Addr}
theorem draw_bytes : ∀ (n i : Nat) (s : Shared) (Q : List Value → Shared → Prop), KBw.IsBytesIter s.heap it b t i → i + n ≤ b.size →
    (∀ h' tk' vs, KBw.IsBytesIter h' it b t (i + n) → Heap.SameBut it s.heap h' → IntsAre vs (((b.toList.drop i).take n).map fun c => (c.toNat : Int)) → Q vs { s with heap := h', toks := tk' }) → wpAny (model prog w) A (draw (.ref it) n) Q E s
  | 0, i, s, Q, hit, _, hQ => by
    show wpAny _ _ (pure []) Q E s
    exact wpAny_pure (hQ s.heap s.toks [] hit (Heap.SameBut.refl ..) (by rw [List.take_zero]; exact .nil))
  | n + 1, i, s, Q, hit, hle, hQ => by
    have hlt : i < b.size := by omega
    show wpAny _ _ (pyNext (.ref it) >>= _) Q E s
    refine wpAny_bind (KBw.next_item hit (c := b[i]) (by simp [hlt]) fun h₁ hit₁ hs₁ => ?_)
    refine wpAny_bind (wpAny_holding (draw_bytes n (i + 1) _ _ hit₁ (by omega) fun h₂ tk₂ vs hit₂ hs₂ hv => wpAny_pure ?_))
    have hd : b.toList.drop i = b[i] :: b.toList.drop (i + 1) := by simp [List.drop_eq_getElem_cons, hlt]
    refine hQ h₂ tk₂ _ (by rw [show i + (n + 1) = i + 1 + n by omega]; exact hit₂) (hs₁.trans hs₂) ?_
    rw [hd, List.take_succ_cons, List.map_cons]
    exact .cons _ _ hv

theorem unpack4 {a0 a1 a2 a3 : UInt8} {elts : List Expr} {k} {pos : Pos} {Q : Unit → Shared → Prop} (F : Fr h₀ L s.heap m) (N : News h₀ L s.heap news) (hh : A.handled = none)
    (hn : (assignEach elts env).length = 4) (hstar : (assignEach elts env).findIdx? (·.1) = none)
    (h : ∀ (u0 u1 u2 u3 : Tok) h' tk', Fr h₀ L h' m → News h₀ L h' news → wpAny (model prog w) A (assignInOrder ((assignEach elts env).map (·.2)) [.int (a0.toNat : Int) u0, .int (a1.toNat : Int) u1, .int (a2.toNat : Int) u2, .int (a3.toNat : Int) u3]) Q E { s with heap := h', toks := tk' }) :
    wpAny (model prog w) A (assign (.Tuple elts k pos) env (.bytes #[a0, a1, a2, a3] t)) Q E s := by
  rw [PyProof.Rows.assign_Tuple]
  refine wpAny_bind (wpAny_standAt ?_)
  unfold unpack
  rw [hn, hstar]
  refine wpAny_bind (wpAny_holding ?_)
  unfold unpackItems
  refine wpAny_bind ?_
  unfold notIterableAtAll
  refine wpAny_bind (wpAny_specialOf (typeIs_bytes s _ t) FB.slot_bytes_iter.lookup ?_)
  refine wpAny_pure ?_
  simp only [Bool.false_eq_true, if_false]
  refine wpAny_bind (wpAny_holding (KBw.pyIter_bytes ?_))
  refine wpAny_bind (wpAny_holding (draw_bytes 4 0 _ _ ⟨_, Heap.get?_push_size _ rfl, rfl, rfl⟩ (Nat.le_refl 4) fun h₁ tk₁ vs hit₁ hs₁ hv => ?_))
  obtain ⟨u0, u1, u2, u3, rfl⟩ : ∃ u0 u1 u2 u3, vs = [.int (a0.toNat : Int) u0, .int (a1.toNat : Int) u1, .int (a2.toNat : Int) u2, .int (a3.toNat : Int) u3] := by
    have hv' : IntsAre vs [(a0.toNat : Int), (a1.toNat : Int), (a2.toNat : Int), (a3.toNat : Int)] := hv
    cases hv' with
    | cons _ _ hv' => cases hv' with
      | cons _ _ hv' => cases hv' with
        | cons _ _ hv' => cases hv' with
          | cons _ _ hv' => cases hv'; exact ⟨_, _, _, _, rfl⟩
  rw [if_neg (by simp)]
  refine wpAny_bind (wpAny_holding (KBw.next_end hh hit₁ (by rfl) fun h₂ he₂ => ?_))
  simp only [Option.isSome_none, Bool.false_eq_true, if_false]
  have he : Heap.ExtBut s.heap.objs.size s.heap h₂ := fun b o hb e => he₂ b o hb (hs₁.extBut b o hb (Heap.get?_push_of_some _ e))
  exact wpAny_pure (h u0 u1 u2 u3 h₂ tk₁ (F.extBut he (Nat.le_refl _)) (N.extBut he (Nat.le_refl _)))
end
local macro_rules | `(tactic| walk_at "assign Tuple") => `(tactic| (k_here; (with_reducible show wpAny _ _ (assign (Expr.Tuple _ _ _) _ (Value.bytes _ _)) _ _ _); k_dflt (refine' unpack4 ?k1 ?k2 ?k4 ?k5 ?k6 ?_; (case k1 => k_asm); (case k2 => k_asm); (case k4 => exact rfl); (case k5 => exact rfl); (case k6 => exact rfl); k_whole); intro _ _ _ _ h' tk' F' N'; (try k_sweep)))


theorem prod_val {x0 x1 x2 x3 r f : Int} (hf : f = 16 ∨ f = 32 ∨ f = 64 ∨ f = 128 ∨ f = 256) (h0 : x0 = 0) :
    (((x3 * r).fdiv 256 + x2 * r).fdiv 256 + x1 * r).fdiv (Int.fdiv 256 f) = (wordOf x0 x1 x2 x3 * (r * (f / 16))) / 1048576 := by
  subst h0
  have hw : wordOf 0 x1 x2 x3 = 65536 * x1 + 256 * x2 + x3 := by unfold wordOf; rw [if_neg (by decide)]; omega
  have e : ∀ k : Int, (65536 * x1 + 256 * x2 + x3) * (r * k) = k * (65536 * (x1 * r) + 256 * (x2 * r) + x3 * r) := fun k => by grind
  rw [hw, e, Int.fdiv_eq_ediv_of_nonneg _ (show (0:Int) ≤ 256 by decide), Int.fdiv_eq_ediv_of_nonneg _ (show (0:Int) ≤ 256 by decide)]
  generalize x1 * r = C
  generalize x2 * r = B
  generalize x3 * r = A
  rcases hf with rfl | rfl | rfl | rfl | rfl
  · rw [show Int.fdiv 256 16 = 16 by decide, Int.fdiv_eq_ediv_of_nonneg _ (by decide), show (16:Int) / 16 = 1 by decide]; omega
  · rw [show Int.fdiv 256 32 = 8 by decide, Int.fdiv_eq_ediv_of_nonneg _ (by decide), show (32:Int) / 16 = 2 by decide]; omega
  · rw [show Int.fdiv 256 64 = 4 by decide, Int.fdiv_eq_ediv_of_nonneg _ (by decide), show (64:Int) / 16 = 4 by decide]; omega
  · rw [show Int.fdiv 256 128 = 2 by decide, Int.fdiv_eq_ediv_of_nonneg _ (by decide), show (128:Int) / 16 = 8 by decide]; omega
  · rw [show Int.fdiv 256 256 = 1 by decide, Int.fdiv_eq_ediv_of_nonneg _ (by decide), show (256:Int) / 16 = 16 by decide]; omega

theorem prod_val' {x0 x1 x2 x3 r f : Int} (hf : f = 16 ∨ f = 32 ∨ f = 64 ∨ f = 128 ∨ f = 256) (h0 : x0 = 255) :
    (((x3 * r).fdiv 256 + x2 * r).fdiv 256 + x1 * r).fdiv (Int.fdiv 256 f) - f * r = (wordOf x0 x1 x2 x3 * (r * (f / 16))) / 1048576 := by
  subst h0
  have hw : wordOf 255 x1 x2 x3 = 65536 * x1 + 256 * x2 + x3 - 16777216 := by unfold wordOf; rw [if_pos (by decide)]; omega
  have e : ∀ k : Int, (65536 * x1 + 256 * x2 + x3 - 16777216) * (r * k) = k * (65536 * (x1 * r) + 256 * (x2 * r) + x3 * r) - 16777216 * (k * r) := fun k => by grind
  rw [hw, e, Int.fdiv_eq_ediv_of_nonneg _ (show (0:Int) ≤ 256 by decide), Int.fdiv_eq_ediv_of_nonneg _ (show (0:Int) ≤ 256 by decide)]
  generalize x1 * r = C
  generalize x2 * r = B
  generalize x3 * r = A
  rcases hf with rfl | rfl | rfl | rfl | rfl
  · rw [show Int.fdiv 256 16 = 16 by decide, Int.fdiv_eq_ediv_of_nonneg _ (by decide), show (16:Int) / 16 = 1 by decide]; omega
  · rw [show Int.fdiv 256 32 = 8 by decide, Int.fdiv_eq_ediv_of_nonneg _ (by decide), show (32:Int) / 16 = 2 by decide]; omega
  · rw [show Int.fdiv 256 64 = 4 by decide, Int.fdiv_eq_ediv_of_nonneg _ (by decide), show (64:Int) / 16 = 4 by decide]; omega
  · rw [show Int.fdiv 256 128 = 2 by decide, Int.fdiv_eq_ediv_of_nonneg _ (by decide), show (128:Int) / 16 = 8 by decide]; omega
  · rw [show Int.fdiv 256 256 = 1 by decide, Int.fdiv_eq_ediv_of_nonneg _ (by decide), show (256:Int) / 16 = 16 by decide]; omega

set_option maxHeartbeats 4000000 in
theorem scaled_c (w : World) (mean : ExcName → Option Value) (mg mb : Str → Option Value) (a0 a1 a2 a3 : UInt8) (r f : Int) (tk t1 t2 : Tok) (news : List (Addr × Obj)) (hr : 0 ≤ r) (hr' : r < 8388608) (hf : f = 16 ∨ f = 32 ∨ f = 64 ∨ f = 128 ∨ f = 256) (ha : (a0.toNat : Int) = 0 ∨ (a0.toNat : Int) = 255) :
    Gives w mean mg mb 61 1 [.bytes #[a0, a1, a2, a3] tk, .int r t1, .int f t2] (fun _ => True) news (fun v news' => ∃ c t, v = .int c t ∧ c = (wordOf a0.toNat a1.toNat a2.toNat a3.toNat * (r * (f / 16))) / 1048576 ∧ news' = news) := by
  w_on
  unfold Gives
  k_fill
  intro dp un gd cn cs a ccd cl outer A₀ base h₀ L m s Q E B F X N T hk hl hdp hu hret
  have hB0 : KBw.bInts #[a0, a1, a2, a3] = [(a0.toNat : Int), (a1.toNat : Int), (a2.toNat : Int), (a3.toNat : Int)] := rfl
  have hf0 : Int.fdiv 256 f ≠ 0 := by rcases hf with rfl | rfl | rfl | rfl | rfl <;> decide
  have hf1 : (Int.fdiv 256 f).natAbs < 1073741824 := by rcases hf with rfl | rfl | rfl | rfl | rfl <;> decide
  k_with "binaryOp FloorDiv int int" => refine floordiv_int (by assumption) ?_ (Or.inl (PyProof.noPylong_small (by assumption)))
  (refine wpAny_call ?_); (k_dflt cell_enter); k_steps
  all_goals first
    | (exfalso; omega)
    | (refine' Gives.end1 hret ?eF ?eN ?eP; (case eF => k_asm); (case eN => k_asm); (case eP => (try dsimp only); exact ⟨_, _, rfl, by first | exact prod_val hf (by assumption) | exact prod_val' hf (by assumption), rfl⟩))
end Mine
end

section
open PySem PySem.W PyProof.Rows PySem.Spec PySem.Calls
set_option maxRecDepth 100000
namespace Mine
local macro_rules | `(tactic| walk_at "g end") => `(tactic| (first | (refine' Gives.end1 ?eR ?eF ?eN ?eP; (case eR => assumption); (case eF => k_asm); (case eN => k_asm); (case eP => walk_at "g post")) | (refine' Gives.end_ ?eR ?eF ?eN ?eS ?eP; (case eR => assumption); (case eF => k_asm); (case eN => k_asm); (case eP => walk_at "g post"); (case eS => kcj_all)) | fail "g end"))
local macro_rules | `(tactic| walk_at "g post") => `(tactic| ((try dsimp only); k_extra "post"))
local macro_rules | `(tactic| walk_at "g go") => `(tactic| ((refine wpAny_call ?_); (k_dflt cell_enter); k_steps; all_goals walk_at "g end"))
local macro_rules | `(tactic| k_all) => `(tactic| assumption)
local macro_rules | `(tactic| walk_at "call ref") => `(tactic| ((with_reducible show wpAny _ _ (call (Value.ref 103) _) _ _ _); (k_dflt (refine' draw_use ?B ?F ?X ?N ?T ?hk ?ht ?hb ?k9 ?ne ?m1 ?m2 ?dp ?un ?_; (case B => k_asm); (case F => k_asm); (case X => k_asm); (case N => k_asm); (case T => k_asm); (case hk => first | exact rfl | assumption); (case ht => first | exact Takes.head | exact Takes.tail (Takes.head) | exact Takes.tail (Takes.tail (Takes.head)) | exact Takes.tail (Takes.tail (Takes.tail (Takes.head))) | exact Takes.tail (Takes.tail (Takes.tail (Takes.tail (Takes.head)))) | exact Takes.tail (Takes.tail (Takes.tail (Takes.tail (Takes.tail (Takes.head))))) | exact Takes.tail (Takes.tail (Takes.tail (Takes.tail (Takes.tail (Takes.tail (Takes.head)))))) | exact Takes.tail (Takes.tail (Takes.tail (Takes.tail (Takes.tail (Takes.tail (Takes.tail (Takes.head))))))) | exact Takes.tail (Takes.tail (Takes.tail (Takes.tail (Takes.tail (Takes.tail (Takes.tail (Takes.tail (Takes.head))))))))); (case hb => assumption); (case k9 => omega); (case ne => k_all); (case m1 => first | decide | omega); (case m2 => first | decide | omega); (case dp => ktr_room); (case un => ktr_units))); intro d9 t9 o9 h9 tk9 h91 h92 hb9 F9 N9; (try k_sweep); (try dsimp only); (try k_fold)))

local macro_rules | `(tactic| walk_at "g enter") => `(tactic| ((refine wpAny_call ?_); k_dflt (refine' code_def ?k1 ?k2 ?k3 ?k4 ?k5 ?kA ?kF ?kK ?k6 ?k7 ?k8 ?k9 ?kB ?_ ?c2 ?c3 ?c4 ?c5; (case kA => exact rfl); (case kF => exact rfl); (case kK => first | exact rfl | assumption); (case k1 => k_asm); (case k2 => k_asm); (case k3 => k_asm); (case k4 => k_asm); (case k5 => k_asm); (case k6 => k_is); (case k7 => k_is); (case k8 => ktr_room); (case k9 => exact BindsTo.of_eq rfl); (case c5 => decide); (case kB => exact locs rfl); (case c2 => exact rfl); (case c3 => exact rfl); (case c4 => exact rfl); k_whole; intro g' L' h' FG' F' N' B' X' T'; (try dsimp only); (try k_lift B'); (try k_fold))))
local macro_rules | `(tactic| walk_at "call ref") => `(tactic| ((with_reducible show wpAny _ _ (call (Value.ref 82) _) _ _ _); walk_at "g enter"))

local macro_rules | `(tactic| walk_at "binaryOp Pow int int") => `(tactic| (with_reducible first | refine pow20 ?_ | refine pow23 ?_ | refine pow24 ?_ | refine pow27 ?_ | refine pow30 ?_ | refine pow31 ?_ | refine pow32 ?_))
local macro_rules | `(tactic| k_all) => `(tactic| first | assumption | exact allNe_of (by assumption) | exact allNe_of' (by assumption) | exact allNe_of' (And.right (by assumption)) | exact allNe_of' (And.right (And.right (by assumption))) | exact allNe_of' (And.right (And.right (And.right (by assumption)))))
local macro_rules | `(tactic| walk_at "UnrEnd") => `(tactic| (refine' unr_end ?eF ?eN ?eO ?_; (case eF => k_asm); (case eN => k_asm); (case eO => k_all)))
local macro_rules | `(tactic| walk_at "pyIter bytes") => `(tactic| k_bytesUnr)


section
variable {w : World} {mean : ExcName → Option Value} {mg mb : Str → Option Value} {dp un : Nat} {gd : Option (List Code)} {cn : Str} {cs : Scope} {a : Addr} {ccd : Value} {cl : List (Str × Addr)} {outer : List Env} {A₀ : Around} {base h₀ : Heap} {L : Addr} {m : Str → Option Value} {s : Shared} {Q E : Value → Shared → Prop} {news₀ : List (Addr × Obj)}
theorem scaled_use {a0 a1 a2 a3 : UInt8} {r f : Int} {tk t1 t2 : Tok} (B : Below A₀ base outer h₀) (F : Fr h₀ L s.heap m) (X : (hd.heap_39 w.params).In h₀) (N : News h₀ L s.heap news₀) (T : Top hd.view_39 LZ mean mg mb h₀) (hk : cs.kind = .function)
    (hr : 0 ≤ r) (hr' : r < 8388608) (hf : f = 16 ∨ f = 32 ∨ f = 64 ∨ f = 128 ∨ f = 256) (ha : (a0.toNat : Int) = 0 ∨ (a0.toNat : Int) = 255) (hdp : dp + 1 < recursionLimit) (hu : un + 8 * 1 < cLine)
    (ret : ∀ (t : Tok) (h' : Heap) (tk' : Nat), Fr h₀ L h' m → News h₀ L h' news₀ → Q (.int ((wordOf a0.toNat a1.toNat a2.toNat a3.toNat * (r * (f / 16))) / 1048576) t) { s with heap := h', toks := tk' }) :
    wpAny (model Challenge.rw_sq0024_01.row.prog w) (ktrTop dp un gd cn cs L a ccd cl outer) (call (.ref 61) [.bytes #[a0, a1, a2, a3] tk, .int r t1, .int f t2]) Q E s :=
  (scaled_c w mean mg mb a0 a1 a2 a3 r f tk t1 t2 news₀ hr hr' hf ha).use B F X N T hk trivial hdp hu (fun _ h => h) fun v news' h' tk' hp F' N' => by
    obtain ⟨c, t, rfl, rfl, rfl⟩ := hp
    exact ret t h' tk' F' N'
end
local macro_rules | `(tactic| walk_at "assign Tuple") => `(tactic| (k_here; (with_reducible show wpAny _ _ (assign (Expr.Tuple _ _ _) _ (Value.bytes _ _)) _ _ _); k_dflt (refine' unpack4 ?k1 ?k2 ?k4 ?k5 ?k6 ?_; (case k1 => k_asm); (case k2 => k_asm); (case k4 => exact rfl); (case k5 => exact rfl); (case k6 => exact rfl); k_whole); intro _ _ _ _ h' tk' F' N'; (try k_sweep)))
local macro_rules | `(tactic| walk_at "call ref") => `(tactic| ((with_reducible show wpAny _ _ (call (Value.ref 117) _) _ _ _); (k_dflt (refine' unit_use ?B ?F ?X ?N ?T ?hk ?z0 ?z1 ?dp ?un ?_; (case B => k_asm); (case F => k_asm); (case X => k_asm); (case N => k_asm); (case T => k_asm); (case hk => first | exact rfl | assumption); (case z0 => first | assumption | omega); (case z1 => first | assumption | omega); (case dp => ktr_room); (case un => ktr_units))); intro t9 h9 tk9 F9 N9; (try k_sweep); (try dsimp only); (try k_fold)))
local macro_rules | `(tactic| walk_at "call ref") => `(tactic| ((with_reducible show wpAny _ _ (call (Value.ref 54) _) _ _ _); (k_dflt (refine' parts_use ?B ?F ?X ?N ?T ?hk ?z0 ?z1 ?dp ?un ?_; (case B => k_asm); (case F => k_asm); (case X => k_asm); (case N => k_asm); (case T => k_asm); (case hk => first | exact rfl | assumption); (case z0 => first | assumption | omega); (case z1 => first | assumption | omega); (case dp => ktr_room); (case un => ktr_units))); intro tp9 t9 u9 h9 tk9 F9 N9 l9; (try simp only [AllLt, and_true] at l9); (try k_sweep); (try dsimp only); (try k_fold)))
local macro_rules | `(tactic| walk_at "call ref") => `(tactic| ((with_reducible show wpAny _ _ (call (Value.ref 131) _) _ _ _); (k_dflt (refine' word_use ?B ?F ?X ?N ?T ?hk ?dp ?un ?_; (case B => k_asm); (case F => k_asm); (case X => k_asm); (case N => k_asm); (case T => k_asm); (case hk => first | exact rfl | assumption); (case dp => ktr_room); (case un => ktr_units))); intro t9 h9 tk9 F9 N9; (try k_sweep); (try dsimp only); (try k_fold)))
local macro_rules | `(tactic| walk_at "call ref") => `(tactic| ((with_reducible show wpAny _ _ (call (Value.ref 68) _) _ _ _); (k_dflt (refine' octets_use ?B ?F ?X ?N ?T ?hk ?dp ?un ?_; (case B => k_asm); (case F => k_asm); (case X => k_asm); (case N => k_asm); (case T => k_asm); (case hk => first | exact rfl | assumption); (case dp => ktr_room); (case un => ktr_units))); intro a9 b9 c9 d9 t9 h9 tk9 e91 e92 e93 e94 F9 N9; (try k_sweep); (try dsimp only); (try k_fold)))
local macro_rules | `(tactic| walk_at "call ref") => `(tactic| ((with_reducible show wpAny _ _ (call (Value.ref 96) _) _ _ _); (k_dflt (refine' bag_use ?B ?F ?X ?N ?T ?hk ?dp ?un ?_; (case B => k_asm); (case F => k_asm); (case X => k_asm); (case N => k_asm); (case T => k_asm); (case hk => first | exact rfl | assumption); (case dp => ktr_room); (case un => ktr_units))); intro l9 o9 h9 tk9 hb9 lt9 F9 N9; (try simp only [AllLt, and_true] at lt9); (try k_sweep); (try dsimp only); (try k_fold)))
local macro_rules | `(tactic| walk_at "call ref") => `(tactic| ((with_reducible show wpAny _ _ (call (Value.ref 61) _) _ _ _); (k_dflt (refine' scaled_use ?B ?F ?X ?N ?T ?hk ?r0 ?r1 ?f0 ?a0 ?dp ?un ?_; (case B => k_asm); (case F => k_asm); (case X => k_asm); (case N => k_asm); (case T => k_asm); (case hk => first | exact rfl | assumption); (case r0 => assumption); (case r1 => assumption); (case f0 => assumption); (case a0 => assumption); (case dp => ktr_room); (case un => ktr_units))); intro t9 h9 tk9 F9 N9; (try k_sweep); (try dsimp only); (try k_fold)))

theorem red_lo {z : Int} (h0 : 1 ≤ z) : 0 ≤ redOf z := by unfold redOf; (repeat' split) <;> omega
theorem red_hi {z : Int} (h1 : z < 134217728) : redOf z < 8388608 := by unfold redOf; (repeat' split) <;> omega
theorem fac_in (z : Int) : facOf z = 16 ∨ facOf z = 32 ∨ facOf z = 64 ∨ facOf z = 128 ∨ facOf z = 256 := by unfold facOf; (repeat' split) <;> simp
theorem red_fac (z : Int) : redOf z * (facOf z / 16) = unitOf z := by
  unfold redOf facOf unitOf
  (repeat' split) <;> first | omega | (simp only [show (16:Int) / 16 = 1 by decide, show (32:Int) / 16 = 2 by decide, show (64:Int) / 16 = 4 by decide, show (128:Int) / 16 = 8 by decide, show (256:Int) / 16 = 16 by decide]; omega)

/-- what a call of the def at f gives back; an exception may be raised and caught within (the frames below it may turn their slots) -/
def GivesS (w : World) (mean : ExcName → Option Value) (mg mb : Str → Option Value) (f : Addr) (need : Nat) (args : List Value) (news : List (Addr × Obj)) (post : Value → List (Addr × Obj) → Prop) : Prop :=
  ∀ (dp un : Nat) (gd : Option (List Code)) (cn : Str) (cs : Scope) (a : Addr) (ccd : Value) (outer : List Env) (A₀ : Around) (base h₀ : Heap) (L : Addr) (m : Str → Option Value) (s : Shared) (Q E : Value → Shared → Prop),
    Below A₀ base outer h₀ → Fr h₀ L s.heap m → (hd.heap_39 w.params).In h₀ → News h₀ L s.heap news → Top hd.view_39 LZ mean mg mb h₀ → cs.kind = .function →
    (hd.heap_39 w.params).In base → Top hd.view_39 LZ mean mg mb base → KtsDicts (outer.filterMap (·.frame)) h₀ → dp + need < recursionLimit → un + 8 * need < cLine →
    (∀ (v : Value) (news' : List (Addr × Obj)) (h' : Heap) (tk' : Nat) (h₀' : Heap), KtsTurn (outer.filterMap (·.frame)) h₀ h₀' → post v news' → Fr h₀' L h' m → News h₀' L h' news' → Below A₀ base outer h₀' → (hd.heap_39 w.params).In h₀' → Top hd.view_39 LZ mean mg mb h₀' → KtsDicts (outer.filterMap (·.frame)) h₀' →
      Q v { s with heap := h', toks := tk' }) →
    wpAny (model Challenge.rw_sq0024_01.row.prog w) (ktrTop dp un gd cn cs L a ccd [] outer) (call (.ref f) args) Q E s

theorem GivesS.end1 {w : World} {mean : ExcName → Option Value} {mg mb : Str → Option Value} {outer : List Env} {A₀ : Around} {base h₀ h₀' h' : Heap} {L : Addr} {m : Str → Option Value} {s : Shared} {Q : Value → Shared → Prop} {post : Value → List (Addr × Obj) → Prop} {v : Value} {news' : List (Addr × Obj)} {tk' : Nat}
    (hret : ∀ (v : Value) (news' : List (Addr × Obj)) (h' : Heap) (tk' : Nat) (h₀' : Heap), KtsTurn (outer.filterMap (·.frame)) h₀ h₀' → post v news' → Fr h₀' L h' m → News h₀' L h' news' → Below A₀ base outer h₀' → (hd.heap_39 w.params).In h₀' → Top hd.view_39 LZ mean mg mb h₀' → KtsDicts (outer.filterMap (·.frame)) h₀' →
      Q v { s with heap := h', toks := tk' }) (F : Fr h₀' L h' m) (N : News h₀' L h' news') (hp : post v news') (K : KtsTurn (outer.filterMap (·.frame)) h₀ h₀') (B : Below A₀ base outer h₀') (X : (hd.heap_39 w.params).In h₀') (T : Top hd.view_39 LZ mean mg mb h₀') (D : KtsDicts (outer.filterMap (·.frame)) h₀') :
    Q v { s with heap := h', toks := tk' } := hret v news' h' tk' h₀' K hp F N B X T D

local macro_rules | `(tactic| walk_at "g enterS") => `(tactic| ((refine wpAny_call ?_); k_dflt (refine' code_defS (cn := ?cn) (cs := ?cs) (L := ?L) (a := ?a) (ccd := ?ccd) ?k1 ?k2 ?k3 ?k4 ?k5 ?XB ?TB ?D ?T0 ?kA ?k6 ?k7 ?k8 ?k9 ?kB ?_ ?cK ?c2 ?c3 ?c4 ?c5; (case kA => exact rfl); (case k2 => k_asm); (case k1 => k_asm); (case XB => assumption); (case TB => assumption); (case D => assumption); (case T0 => first | assumption | exact KtsTurn.refl); (case k3 => k_asm); (case k4 => k_asm); (case k5 => k_asm); (case k6 => k_is); (case k7 => k_is); (case k8 => ktr_room); (case k9 => exact BindsTo.of_eq rfl); (case kB => exact locs rfl); (case cK => first | exact rfl | assumption); (case c2 => exact rfl); (case c3 => exact rfl); (case c4 => exact rfl); (case c5 => decide); k_whole; intro g' L' h' FG' F' N' B' X' T' D'; (try dsimp only); (try k_lift B'); (try k_fold))))

set_option maxHeartbeats 4000000 in
theorem product_c (w : World) (mean : ExcName → Option Value) (mg mb : Str → Option Value) (a0 a1 a2 a3 : UInt8) (z : Int) (tk t1 : Tok) (news : List (Addr × Obj)) (h0 : 1 ≤ z) (h1 : z < 134217728) (ha : (a0.toNat : Int) = 0 ∨ (a0.toNat : Int) = 255) :
    GivesS w mean mg mb 138 3 [.bytes #[a0, a1, a2, a3] tk, .int z t1] news (fun v news' => ∃ t, v = .int ((wordOf a0.toNat a1.toNat a2.toNat a3.toNat * unitOf z) / 1048576) t ∧ news' = news) := by
  w_on
  unfold GivesS
  k_fill
  intro dp un gd cn cs a ccd outer A₀ base h₀ L m s Q E B F X N T hk XB TB D hdp hu hret
  have hr0 := red_lo h0
  have hr1 := red_hi h1
  have hf0 := fac_in z
  walk_at "g enterS"
  k_steps
  all_goals (refine' GivesS.end1 hret ?eF (cb_drop ?eN (drop1 _ _)) ?eP KtsTurn.refl B X T D; (case eF => k_asm); (case eN => k_asm); (case eP => (try dsimp only); exact ⟨_, by rw [red_fac], rfl⟩))

local macro_rules | `(tactic| walk_at "call ref") => `(tactic| ((with_reducible show wpAny _ _ (call (Value.ref 61) _) _ _ _); (with_reducible rename ((_ : Int) ≠ 255) => hno9); walk_at "g enter"))
local macro_rules | `(tactic| walk_at "exec Raise some none") => `(tactic| (k_here; k_dflt (refine' raise_bf ?F ?X ?T ?hh ?ro ?_ ?ms ?hk ?hx; (case F => k_asm); (case X => k_asm); (case T => k_asm); (case hh => exact rfl); (case ro => ktr_room); (case ms => decide +kernel); (case hk => exact rfl); (case hx => exact rfl)); intro h' e' tk' t' MX'; (try dsimp only)))
local macro_rules | `(tactic| walk_at "leaving ref") => `(tactic| (k_here; (refine' leave_raiseX ?k1 ?k0 ?k2 ?k3 ?_; (case k0 => assumption); (case k2 => assumption); (case k1 => assumption); (case k3 => k_asm); k_whole; intro h' t' S' R' U'; (try dsimp only at S' R' U' ⊢))))

set_option maxHeartbeats 4000000 in
theorem product_r (w : World) (mean : ExcName → Option Value) (mg mb : Str → Option Value) (a0 a1 a2 a3 : UInt8) (z : Int) (tk t1 : Tok) (news : List (Addr × Obj)) (h0 : 1 ≤ z) (h1 : z < 134217728) (ha0 : (a0.toNat : Int) ≠ 0) (ha1 : (a0.toNat : Int) ≠ 255) :
    GivesS w mean mg mb 138 4 [.bytes #[a0, a1, a2, a3] tk, .int z t1] news (fun v news' => v = .none ∧ news' = news) := by
  w_on
  unfold GivesS
  k_fill
  intro dp un gd cn cs a ccd outer A₀ base h₀ L m s Q E B F X N T hk XB TB D hdp hu hret
  have hr0 := red_lo h0
  have hr1 := red_hi h1
  have hf0 := fac_in z
  have hfa : Int.fdiv 256 (facOf z) ≠ 0 := by rcases hf0 with e | e | e | e | e <;> rw [e] <;> decide
  have hfb : (Int.fdiv 256 (facOf z)).natAbs < 1073741824 := by rcases hf0 with e | e | e | e | e <;> rw [e] <;> decide
  k_with "binaryOp FloorDiv int int" => refine floordiv_int (by assumption) ?_ (Or.inl (PyProof.noPylong_small (by assumption)))
  have hB0 : KBw.bInts #[a0, a1, a2, a3] = [(a0.toNat : Int), (a1.toNat : Int), (a2.toNat : Int), (a3.toNat : Int)] := rfl
  walk_at "g enterS"
  k_steps
  all_goals first
    | (exfalso; omega)
    | (refine' GivesS.end1 hret ?eF (cb_drop ?eN (drop1 _ _)) ⟨rfl, rfl⟩ ?eK ?eB ?eX ?eT ?eD; (case eF => k_asm); (case eN => k_asm); (case eK => assumption); (case eB => assumption); (case eX => assumption); (case eT => assumption); (case eD => assumption))
end Mine
end

section
namespace Mine
theorem cdiv_facts {v u : Int} (hu : 1 ≤ u) : v * 1048576 ≤ (-((-v * 1048576).fdiv u)) * u ∧ (-((-v * 1048576).fdiv u) - 1) * u < v * 1048576 := by
  rw [Int.fdiv_eq_ediv_of_nonneg _ (show (0:Int) ≤ u by omega)]
  have h1 := Int.ediv_mul_le (-v * 1048576) (show u ≠ 0 by omega)
  have h2 := Int.lt_ediv_add_one_mul_self (-v * 1048576) (show (0:Int) < u by omega)
  rw [Int.add_mul] at h2
  rw [Int.sub_mul, Int.neg_mul]
  omega

theorem told_yes {v u W : Int} (hu : 1 ≤ u) (hW : W = -((-v * 1048576).fdiv u)) (c2 : W < 16777216) (c1 : -16777216 ≤ W) (c3 : W * u / 1048576 = v) :
    -16777216 ≤ (if ((v + 1) * 1048576 - 1).fdiv u < 16777216 - 1 then ((v + 1) * 1048576 - 1).fdiv u else 16777216 - 1) ∧
    ((if ((v + 1) * 1048576 - 1).fdiv u < 16777216 - 1 then ((v + 1) * 1048576 - 1).fdiv u else 16777216 - 1) * u).fdiv 1048576 = v ∧
    W ≤ (if ((v + 1) * 1048576 - 1).fdiv u < 16777216 - 1 then ((v + 1) * 1048576 - 1).fdiv u else 16777216 - 1) ∧ (W * u).fdiv 1048576 = v ∧ ((W - 1) * u).fdiv 1048576 < v := by
  obtain ⟨w1, w2⟩ := cdiv_facts (v := v) hu
  rw [← hW] at w1 w2
  rw [Int.fdiv_eq_ediv_of_nonneg _ (show (0:Int) ≤ u by omega)]
  have g1 := Int.ediv_mul_le ((v + 1) * 1048576 - 1) (show u ≠ 0 by omega)
  have g2 := Int.lt_ediv_add_one_mul_self ((v + 1) * 1048576 - 1) (show (0:Int) < u by omega)
  generalize ((v + 1) * 1048576 - 1) / u = G at g1 g2
  have hlt : W < G + 1 := Int.lt_of_mul_lt_mul_right (a := u) (by omega) (by omega)
  have hm : W * u ≤ G * u := Int.mul_le_mul_of_nonneg_right (by omega) (by omega)
  have hm2 : W * u ≤ 16777215 * u := Int.mul_le_mul_of_nonneg_right (by omega) (by omega)
  refine ⟨?_, ?_, ?_, ?_, ?_⟩
  · split <;> omega
  · rw [Int.fdiv_eq_ediv_of_nonneg _ (show (0:Int) ≤ 1048576 by decide)]
    split
    · omega
    · have hm3 : 16777215 * u ≤ G * u := Int.mul_le_mul_of_nonneg_right (by omega) (by omega)
      omega
  · split <;> omega
  · rw [Int.fdiv_eq_ediv_of_nonneg _ (show (0:Int) ≤ 1048576 by decide)]
    exact c3
  · rw [Int.fdiv_eq_ediv_of_nonneg _ (show (0:Int) ≤ 1048576 by decide)]
    omega

theorem told_no {v u W : Int} (hu : 1 ≤ u) (hW : W = -((-v * 1048576).fdiv u)) (h : ¬ (-16777216 ≤ W ∧ W < 16777216 ∧ W * u / 1048576 = v)) :
    -16777216 ≤ (if ((v + 1) * 1048576 - 1).fdiv u < 16777216 - 1 then ((v + 1) * 1048576 - 1).fdiv u else 16777216 - 1) →
    ((if ((v + 1) * 1048576 - 1).fdiv u < 16777216 - 1 then ((v + 1) * 1048576 - 1).fdiv u else 16777216 - 1) * u).fdiv 1048576 ≠ v := by
  obtain ⟨w1, w2⟩ := cdiv_facts (v := v) hu
  rw [← hW] at w1 w2
  rw [Int.fdiv_eq_ediv_of_nonneg _ (show (0:Int) ≤ u by omega), Int.fdiv_eq_ediv_of_nonneg _ (show (0:Int) ≤ 1048576 by decide)]
  have hG : (if ((v + 1) * 1048576 - 1) / u < 16777216 - 1 then ((v + 1) * 1048576 - 1) / u else 16777216 - 1) ≤ 16777215 := by split <;> omega
  revert hG
  generalize (if ((v + 1) * 1048576 - 1) / u < 16777216 - 1 then ((v + 1) * 1048576 - 1) / u else 16777216 - 1) = G
  intro hG g1 g2
  have hlt : W - 1 < G := Int.lt_of_mul_lt_mul_right (a := u) (by omega) (by omega)
  have hm : W * u ≤ G * u := Int.mul_le_mul_of_nonneg_right (by omega) (by omega)
  have hm2 : -16777216 * u ≤ G * u := Int.mul_le_mul_of_nonneg_right (by omega) (by omega)
  apply h
  refine ⟨?_, by omega, by omega⟩
  rcases Int.lt_or_le W (-16777216) with q | q
  · exfalso
    have hm3 : W * u ≤ -16777217 * u := Int.mul_le_mul_of_nonneg_right (by omega) (by omega)
    omega
  · exact q
end Mine
end

section
open PySem PySem.W PyProof.Rows PySem.Spec PySem.Calls
set_option maxRecDepth 100000
namespace Mine

theorem oct0 {w x : Int} (e : x = (w.fdiv 16777216).fmod 256) (h1 : -16777216 ≤ w) (h2 : w < 16777216) : x = 0 ∨ x = 255 := by
  rw [Int.fdiv_eq_ediv_of_nonneg _ (show (0:Int) ≤ 16777216 by decide), Int.fmod_eq_emod_of_nonneg _ (show (0:Int) ≤ 256 by decide)] at e
  omega
local macro_rules | `(tactic| walk_at "g end") => `(tactic| (first | (refine' Gives.end1 ?eR ?eF ?eN ?eP; (case eR => assumption); (case eF => k_asm); (case eN => k_asm); (case eP => walk_at "g post")) | (refine' Gives.end_ ?eR ?eF ?eN ?eS ?eP; (case eR => assumption); (case eF => k_asm); (case eN => k_asm); (case eP => walk_at "g post"); (case eS => kcj_all)) | fail "g end"))
local macro_rules | `(tactic| walk_at "g post") => `(tactic| ((try dsimp only); k_extra "post"))
local macro_rules | `(tactic| walk_at "g go") => `(tactic| ((refine wpAny_call ?_); (k_dflt cell_enter); k_steps; all_goals walk_at "g end"))
local macro_rules | `(tactic| k_all) => `(tactic| assumption)
local macro_rules | `(tactic| walk_at "call ref") => `(tactic| ((with_reducible show wpAny _ _ (call (Value.ref 103) _) _ _ _); (k_dflt (refine' draw_use ?B ?F ?X ?N ?T ?hk ?ht ?hb ?k9 ?ne ?m1 ?m2 ?dp ?un ?_; (case B => k_asm); (case F => k_asm); (case X => k_asm); (case N => k_asm); (case T => k_asm); (case hk => first | exact rfl | assumption); (case ht => first | exact Takes.head | exact Takes.tail (Takes.head) | exact Takes.tail (Takes.tail (Takes.head)) | exact Takes.tail (Takes.tail (Takes.tail (Takes.head))) | exact Takes.tail (Takes.tail (Takes.tail (Takes.tail (Takes.head)))) | exact Takes.tail (Takes.tail (Takes.tail (Takes.tail (Takes.tail (Takes.head))))) | exact Takes.tail (Takes.tail (Takes.tail (Takes.tail (Takes.tail (Takes.tail (Takes.head)))))) | exact Takes.tail (Takes.tail (Takes.tail (Takes.tail (Takes.tail (Takes.tail (Takes.tail (Takes.head))))))) | exact Takes.tail (Takes.tail (Takes.tail (Takes.tail (Takes.tail (Takes.tail (Takes.tail (Takes.tail (Takes.head))))))))); (case hb => assumption); (case k9 => omega); (case ne => k_all); (case m1 => first | decide | omega); (case m2 => first | decide | omega); (case dp => ktr_room); (case un => ktr_units))); intro d9 t9 o9 h9 tk9 h91 h92 hb9 F9 N9; (try k_sweep); (try dsimp only); (try k_fold)))

local macro_rules | `(tactic| walk_at "g enter") => `(tactic| ((refine wpAny_call ?_); k_dflt (refine' code_def ?k1 ?k2 ?k3 ?k4 ?k5 ?kA ?kF ?kK ?k6 ?k7 ?k8 ?k9 ?kB ?_ ?c2 ?c3 ?c4 ?c5; (case kA => exact rfl); (case kF => exact rfl); (case kK => first | exact rfl | assumption); (case k1 => k_asm); (case k2 => k_asm); (case k3 => k_asm); (case k4 => k_asm); (case k5 => k_asm); (case k6 => k_is); (case k7 => k_is); (case k8 => ktr_room); (case k9 => exact BindsTo.of_eq rfl); (case c5 => decide); (case kB => exact locs rfl); (case c2 => exact rfl); (case c3 => exact rfl); (case c4 => exact rfl); k_whole; intro g' L' h' FG' F' N' B' X' T'; (try dsimp only); (try k_lift B'); (try k_fold))))
local macro_rules | `(tactic| walk_at "call ref") => `(tactic| ((with_reducible show wpAny _ _ (call (Value.ref 82) _) _ _ _); walk_at "g enter"))

local macro_rules | `(tactic| walk_at "binaryOp Pow int int") => `(tactic| (with_reducible first | refine pow20 ?_ | refine pow23 ?_ | refine pow24 ?_ | refine pow27 ?_ | refine pow30 ?_ | refine pow31 ?_ | refine pow32 ?_))
local macro_rules | `(tactic| k_all) => `(tactic| first | assumption | exact allNe_of (by assumption) | exact allNe_of' (by assumption) | exact allNe_of' (And.right (by assumption)) | exact allNe_of' (And.right (And.right (by assumption))) | exact allNe_of' (And.right (And.right (And.right (by assumption)))))
local macro_rules | `(tactic| walk_at "UnrEnd") => `(tactic| (refine' unr_end ?eF ?eN ?eO ?_; (case eF => k_asm); (case eN => k_asm); (case eO => k_all)))
local macro_rules | `(tactic| walk_at "pyIter bytes") => `(tactic| k_bytesUnr)

local macro_rules | `(tactic| walk_at "assign Tuple") => `(tactic| (k_here; (with_reducible show wpAny _ _ (assign (Expr.Tuple _ _ _) _ (Value.bytes _ _)) _ _ _); k_dflt (refine' unpack4 ?k1 ?k2 ?k4 ?k5 ?k6 ?_; (case k1 => k_asm); (case k2 => k_asm); (case k4 => exact rfl); (case k5 => exact rfl); (case k6 => exact rfl); k_whole); intro _ _ _ _ h' tk' F' N'; (try k_sweep)))
local macro_rules | `(tactic| walk_at "call ref") => `(tactic| ((with_reducible show wpAny _ _ (call (Value.ref 117) _) _ _ _); (k_dflt (refine' unit_use ?B ?F ?X ?N ?T ?hk ?z0 ?z1 ?dp ?un ?_; (case B => k_asm); (case F => k_asm); (case X => k_asm); (case N => k_asm); (case T => k_asm); (case hk => first | exact rfl | assumption); (case z0 => first | assumption | omega); (case z1 => first | assumption | omega); (case dp => ktr_room); (case un => ktr_units))); intro t9 h9 tk9 F9 N9; (try k_sweep); (try dsimp only); (try k_fold)))
local macro_rules | `(tactic| walk_at "call ref") => `(tactic| ((with_reducible show wpAny _ _ (call (Value.ref 54) _) _ _ _); (k_dflt (refine' parts_use ?B ?F ?X ?N ?T ?hk ?z0 ?z1 ?dp ?un ?_; (case B => k_asm); (case F => k_asm); (case X => k_asm); (case N => k_asm); (case T => k_asm); (case hk => first | exact rfl | assumption); (case z0 => first | assumption | omega); (case z1 => first | assumption | omega); (case dp => ktr_room); (case un => ktr_units))); intro tp9 t9 u9 h9 tk9 F9 N9 l9; (try simp only [AllLt, and_true] at l9); (try k_sweep); (try dsimp only); (try k_fold)))
local macro_rules | `(tactic| walk_at "call ref") => `(tactic| ((with_reducible show wpAny _ _ (call (Value.ref 131) _) _ _ _); (k_dflt (refine' word_use ?B ?F ?X ?N ?T ?hk ?dp ?un ?_; (case B => k_asm); (case F => k_asm); (case X => k_asm); (case N => k_asm); (case T => k_asm); (case hk => first | exact rfl | assumption); (case dp => ktr_room); (case un => ktr_units))); intro t9 h9 tk9 F9 N9; (try k_sweep); (try dsimp only); (try k_fold)))
local macro_rules | `(tactic| walk_at "call ref") => `(tactic| ((with_reducible show wpAny _ _ (call (Value.ref 68) _) _ _ _); (k_dflt (refine' octets_use ?B ?F ?X ?N ?T ?hk ?dp ?un ?_; (case B => k_asm); (case F => k_asm); (case X => k_asm); (case N => k_asm); (case T => k_asm); (case hk => first | exact rfl | assumption); (case dp => ktr_room); (case un => ktr_units))); intro a9 b9 c9 d9 t9 h9 tk9 e91 e92 e93 e94 F9 N9; (try k_sweep); (try dsimp only); (try k_fold)))
local macro_rules | `(tactic| walk_at "call ref") => `(tactic| ((with_reducible show wpAny _ _ (call (Value.ref 96) _) _ _ _); (k_dflt (refine' bag_use ?B ?F ?X ?N ?T ?hk ?dp ?un ?_; (case B => k_asm); (case F => k_asm); (case X => k_asm); (case N => k_asm); (case T => k_asm); (case hk => first | exact rfl | assumption); (case dp => ktr_room); (case un => ktr_units))); intro l9 o9 h9 tk9 hb9 lt9 F9 N9; (try simp only [AllLt, and_true] at lt9); (try k_sweep); (try dsimp only); (try k_fold)))
local macro_rules | `(tactic| walk_at "call ref") => `(tactic| ((with_reducible show wpAny _ _ (call (Value.ref 61) _) _ _ _); (k_dflt (refine' scaled_use ?B ?F ?X ?N ?T ?hk ?r0 ?r1 ?f0 ?a0 ?dp ?un ?_; (case B => k_asm); (case F => k_asm); (case X => k_asm); (case N => k_asm); (case T => k_asm); (case hk => first | exact rfl | assumption); (case r0 => assumption); (case r1 => assumption); (case f0 => assumption); (case a0 => first | assumption | exact oct0 (by assumption) (by omega) (by omega)); (case dp => ktr_room); (case un => ktr_units))); intro t9 h9 tk9 F9 N9; (try k_sweep); (try dsimp only); (try k_fold)))
local macro_rules | `(tactic| walk_at "g enterS") => `(tactic| ((refine wpAny_call ?_); k_dflt (refine' code_defS (cn := ?cn) (cs := ?cs) (L := ?L) (a := ?a) (ccd := ?ccd) ?k1 ?k2 ?k3 ?k4 ?k5 ?XB ?TB ?D ?T0 ?kA ?k6 ?k7 ?k8 ?k9 ?kB ?_ ?cK ?c2 ?c3 ?c4 ?c5; (case kA => exact rfl); (case k2 => k_asm); (case k1 => k_asm); (case XB => assumption); (case TB => assumption); (case D => assumption); (case T0 => first | assumption | exact KtsTurn.refl); (case k3 => k_asm); (case k4 => k_asm); (case k5 => k_asm); (case k6 => k_is); (case k7 => k_is); (case k8 => ktr_room); (case k9 => exact BindsTo.of_eq rfl); (case kB => exact locs rfl); (case cK => first | exact rfl | assumption); (case c2 => exact rfl); (case c3 => exact rfl); (case c4 => exact rfl); (case c5 => decide); k_whole; intro g' L' h' FG' F' N' B' X' T' D'; (try dsimp only); (try k_lift B'); (try k_fold))))
local macro_rules | `(tactic| walk_at "exec Raise some none") => `(tactic| (k_here; k_dflt (refine' raise_bf ?F ?X ?T ?hh ?ro ?_ ?ms ?hk ?hx; (case F => k_asm); (case X => k_asm); (case T => k_asm); (case hh => exact rfl); (case ro => ktr_room); (case ms => decide +kernel); (case hk => exact rfl); (case hx => exact rfl)); intro h' e' tk' t' MX'; (try dsimp only)))
local macro_rules | `(tactic| walk_at "leaving ref") => `(tactic| (k_here; (refine' leave_raiseX ?k1 ?k0 ?k2 ?k3 ?_; (case k0 => assumption); (case k2 => assumption); (case k1 => assumption); (case k3 => k_asm); k_whole; intro h' t' S' R' U'; (try dsimp only at S' R' U' ⊢))))

local macro_rules | `(tactic| walk_at "call ref") => `(tactic| ((with_reducible show wpAny _ _ (call (Value.ref 75) _) _ _ _); walk_at "g enter"))
/-- the least word that tells v at the size z, wherever it lies -/
def wdOf (v z : Int) : Int := -(-v * 1048576).fdiv (unitOf z)
/-- fix_octets' answer: a word's octets, or none -/
def Octs (v z : Int) (r : Value) : Prop :=
  (∃ (a0 a1 a2 a3 : UInt8) (t : Tok), r = .bytes #[a0, a1, a2, a3] t ∧ ((a0.toNat : Int) = 0 ∨ (a0.toNat : Int) = 255) ∧ wordOf a0.toNat a1.toNat a2.toNat a3.toNat = wdOf v z ∧ -16777216 ≤ wdOf v z ∧ wdOf v z < 16777216 ∧ wdOf v z * unitOf z / 1048576 = v) ∨
  (r = .none ∧ ¬ (-16777216 ≤ wdOf v z ∧ wdOf v z < 16777216 ∧ wdOf v z * unitOf z / 1048576 = v))
theorem oct_word {w x0 x1 x2 x3 : Int} (e0 : x0 = (w.fdiv 16777216).fmod 256) (e1 : x1 = (w.fdiv 65536).fmod 256) (e2 : x2 = (w.fdiv 256).fmod 256) (e3 : x3 = w.fmod 256) (h1 : -16777216 ≤ w) (h2 : w < 16777216) : wordOf x0 x1 x2 x3 = w := by
  rw [Int.fdiv_eq_ediv_of_nonneg _ (show (0:Int) ≤ 16777216 by decide), Int.fmod_eq_emod_of_nonneg _ (show (0:Int) ≤ 256 by decide)] at e0
  rw [Int.fdiv_eq_ediv_of_nonneg _ (show (0:Int) ≤ 65536 by decide), Int.fmod_eq_emod_of_nonneg _ (show (0:Int) ≤ 256 by decide)] at e1
  rw [Int.fdiv_eq_ediv_of_nonneg _ (show (0:Int) ≤ 256 by decide), Int.fmod_eq_emod_of_nonneg _ (show (0:Int) ≤ 256 by decide)] at e2
  rw [Int.fmod_eq_emod_of_nonneg _ (show (0:Int) ≤ 256 by decide)] at e3
  unfold wordOf
  split <;> omega
theorem unit_lo {z : Int} (h0 : 1 ≤ z) : 1 ≤ unitOf z := by unfold unitOf; (repeat' split) <;> omega
theorem unit_hi {z : Int} (h1 : z < 134217728) : unitOf z < 134217728 := by unfold unitOf; (repeat' split) <;> omega
local macro_rules | `(tactic| walk_at "binaryOp FloorDiv int int") => `(tactic| (k_here; (with_reducible refine' floordiv_int ?e ?_ (Or.inl (PyProof.noPylong_small ?p))); (case e => omega); (case p => omega)))
set_option maxHeartbeats 4000000 in
theorem octs_c (w : World) (mean : ExcName → Option Value) (mg mb : Str → Option Value) (v z : Int) (t0 t1 : Tok) (news : List (Addr × Obj)) (h0 : 1 ≤ z) (h1 : z < 134217728) (hv0 : -1099511627776 < v) (hv1 : v < 1099511627776) :
    GivesS w mean mg mb 145 5 [.int v t0, .int z t1] news (fun r news' => Octs v z r ∧ news' = news) := by
  w_on
  unfold GivesS
  k_fill
  intro dp un gd cn cs a ccd outer A₀ base h₀ L m s Q E B F X N T hk XB TB D hdp hu hret
  have hr0 := red_lo h0
  have hr1 := red_hi h1
  have hf0 := fac_in z
  have hqe : redOf z * (facOf z).fdiv 16 = unitOf z := by rw [Int.fdiv_eq_ediv_of_nonneg _ (show (0:Int) ≤ 16 by decide)]; exact red_fac z
  have hwe : -(-v * 1048576).fdiv (redOf z * (facOf z).fdiv 16) = wdOf v z := by rw [hqe]; rfl
  have hq0 := unit_lo h0
  have hq2 := unit_hi h1
  walk_at "g enterS"
  k_steps
  all_goals first
    | (refine' GivesS.end1 hret ?eF (cb_drop ?eN (drop1 _ _)) ?eP ?eK ?eB ?eX ?eT ?eD; (case eF => k_asm); (case eN => k_asm); (case eP => (try dsimp only); (refine ⟨.inr ⟨rfl, fun q => ?_⟩, rfl⟩); first | omega | ((have hw1 := oct_word (by assumption) (by assumption) (by assumption) (by assumption) (by omega) (by omega)); exact absurd q.2.2 (by rw [← hwe, ← hw1, ← red_fac z]; assumption))); (case eK => assumption); (case eB => assumption); (case eX => assumption); (case eT => assumption); (case eD => assumption))
    | (refine' GivesS.end1 hret ?eF (cb_drop ?eN (drop1 _ _)) ?eP KtsTurn.refl B X T D; (case eF => k_asm); (case eN => k_asm); (case eP => (try dsimp only); (have hw1 := oct_word (by assumption) (by assumption) (by assumption) (by assumption) (by omega) (by omega)); exact ⟨.inl ⟨_, _, _, _, _, rfl, oct0 (by assumption) (by omega) (by omega), hw1.trans hwe, by omega, by omega, by rw [← hwe, ← hw1, ← red_fac z]; assumption⟩, rfl⟩))
end Mine
end

section
open PySem PySem.W PyProof.Rows PySem.Spec PySem.Calls
set_option maxRecDepth 100000
namespace Mine
local macro_rules | `(tactic| walk_at "g end") => `(tactic| (first | (refine' Gives.end1 ?eR ?eF ?eN ?eP; (case eR => assumption); (case eF => k_asm); (case eN => k_asm); (case eP => walk_at "g post")) | (refine' Gives.end_ ?eR ?eF ?eN ?eS ?eP; (case eR => assumption); (case eF => k_asm); (case eN => k_asm); (case eP => walk_at "g post"); (case eS => kcj_all)) | fail "g end"))
local macro_rules | `(tactic| walk_at "g post") => `(tactic| ((try dsimp only); k_extra "post"))
local macro_rules | `(tactic| walk_at "g go") => `(tactic| ((refine wpAny_call ?_); (k_dflt cell_enter); k_steps; all_goals walk_at "g end"))
local macro_rules | `(tactic| k_all) => `(tactic| assumption)
local macro_rules | `(tactic| walk_at "call ref") => `(tactic| ((with_reducible show wpAny _ _ (call (Value.ref 103) _) _ _ _); (k_dflt (refine' draw_use ?B ?F ?X ?N ?T ?hk ?ht ?hb ?k9 ?ne ?m1 ?m2 ?dp ?un ?_; (case B => k_asm); (case F => k_asm); (case X => k_asm); (case N => k_asm); (case T => k_asm); (case hk => first | exact rfl | assumption); (case ht => first | exact Takes.head | exact Takes.tail (Takes.head) | exact Takes.tail (Takes.tail (Takes.head)) | exact Takes.tail (Takes.tail (Takes.tail (Takes.head))) | exact Takes.tail (Takes.tail (Takes.tail (Takes.tail (Takes.head)))) | exact Takes.tail (Takes.tail (Takes.tail (Takes.tail (Takes.tail (Takes.head))))) | exact Takes.tail (Takes.tail (Takes.tail (Takes.tail (Takes.tail (Takes.tail (Takes.head)))))) | exact Takes.tail (Takes.tail (Takes.tail (Takes.tail (Takes.tail (Takes.tail (Takes.tail (Takes.head))))))) | exact Takes.tail (Takes.tail (Takes.tail (Takes.tail (Takes.tail (Takes.tail (Takes.tail (Takes.tail (Takes.head))))))))); (case hb => assumption); (case k9 => omega); (case ne => k_all); (case m1 => first | decide | omega); (case m2 => first | decide | omega); (case dp => ktr_room); (case un => ktr_units))); intro d9 t9 o9 h9 tk9 h91 h92 hb9 F9 N9; (try k_sweep); (try dsimp only); (try k_fold)))

local macro_rules | `(tactic| walk_at "g enter") => `(tactic| ((refine wpAny_call ?_); k_dflt (refine' code_def ?k1 ?k2 ?k3 ?k4 ?k5 ?kA ?kF ?kK ?k6 ?k7 ?k8 ?k9 ?kB ?_ ?c2 ?c3 ?c4 ?c5; (case kA => exact rfl); (case kF => exact rfl); (case kK => first | exact rfl | assumption); (case k1 => k_asm); (case k2 => k_asm); (case k3 => k_asm); (case k4 => k_asm); (case k5 => k_asm); (case k6 => k_is); (case k7 => k_is); (case k8 => ktr_room); (case k9 => exact BindsTo.of_eq rfl); (case c5 => decide); (case kB => exact locs rfl); (case c2 => exact rfl); (case c3 => exact rfl); (case c4 => exact rfl); k_whole; intro g' L' h' FG' F' N' B' X' T'; (try dsimp only); (try k_lift B'); (try k_fold))))
local macro_rules | `(tactic| walk_at "call ref") => `(tactic| ((with_reducible show wpAny _ _ (call (Value.ref 82) _) _ _ _); walk_at "g enter"))

local macro_rules | `(tactic| walk_at "binaryOp Pow int int") => `(tactic| (with_reducible first | refine pow20 ?_ | refine pow23 ?_ | refine pow24 ?_ | refine pow27 ?_ | refine pow30 ?_ | refine pow31 ?_ | refine pow32 ?_))
local macro_rules | `(tactic| k_all) => `(tactic| first | assumption | exact allNe_of (by assumption) | exact allNe_of' (by assumption) | exact allNe_of' (And.right (by assumption)) | exact allNe_of' (And.right (And.right (by assumption))) | exact allNe_of' (And.right (And.right (And.right (by assumption)))))
local macro_rules | `(tactic| walk_at "UnrEnd") => `(tactic| (refine' unr_end ?eF ?eN ?eO ?_; (case eF => k_asm); (case eN => k_asm); (case eO => k_all)))
local macro_rules | `(tactic| walk_at "pyIter bytes") => `(tactic| k_bytesUnr)

local macro_rules | `(tactic| walk_at "assign Tuple") => `(tactic| (k_here; (with_reducible show wpAny _ _ (assign (Expr.Tuple _ _ _) _ (Value.bytes _ _)) _ _ _); k_dflt (refine' unpack4 ?k1 ?k2 ?k4 ?k5 ?k6 ?_; (case k1 => k_asm); (case k2 => k_asm); (case k4 => exact rfl); (case k5 => exact rfl); (case k6 => exact rfl); k_whole); intro _ _ _ _ h' tk' F' N'; (try k_sweep)))
local macro_rules | `(tactic| walk_at "call ref") => `(tactic| ((with_reducible show wpAny _ _ (call (Value.ref 117) _) _ _ _); (k_dflt (refine' unit_use ?B ?F ?X ?N ?T ?hk ?z0 ?z1 ?dp ?un ?_; (case B => k_asm); (case F => k_asm); (case X => k_asm); (case N => k_asm); (case T => k_asm); (case hk => first | exact rfl | assumption); (case z0 => first | assumption | omega); (case z1 => first | assumption | omega); (case dp => ktr_room); (case un => ktr_units))); intro t9 h9 tk9 F9 N9; (try k_sweep); (try dsimp only); (try k_fold)))
local macro_rules | `(tactic| walk_at "call ref") => `(tactic| ((with_reducible show wpAny _ _ (call (Value.ref 54) _) _ _ _); (k_dflt (refine' parts_use ?B ?F ?X ?N ?T ?hk ?z0 ?z1 ?dp ?un ?_; (case B => k_asm); (case F => k_asm); (case X => k_asm); (case N => k_asm); (case T => k_asm); (case hk => first | exact rfl | assumption); (case z0 => first | assumption | omega); (case z1 => first | assumption | omega); (case dp => ktr_room); (case un => ktr_units))); intro tp9 t9 u9 h9 tk9 F9 N9 l9; (try simp only [AllLt, and_true] at l9); (try k_sweep); (try dsimp only); (try k_fold)))
local macro_rules | `(tactic| walk_at "call ref") => `(tactic| ((with_reducible show wpAny _ _ (call (Value.ref 131) _) _ _ _); (k_dflt (refine' word_use ?B ?F ?X ?N ?T ?hk ?dp ?un ?_; (case B => k_asm); (case F => k_asm); (case X => k_asm); (case N => k_asm); (case T => k_asm); (case hk => first | exact rfl | assumption); (case dp => ktr_room); (case un => ktr_units))); intro t9 h9 tk9 F9 N9; (try k_sweep); (try dsimp only); (try k_fold)))
local macro_rules | `(tactic| walk_at "call ref") => `(tactic| ((with_reducible show wpAny _ _ (call (Value.ref 68) _) _ _ _); (k_dflt (refine' octets_use ?B ?F ?X ?N ?T ?hk ?dp ?un ?_; (case B => k_asm); (case F => k_asm); (case X => k_asm); (case N => k_asm); (case T => k_asm); (case hk => first | exact rfl | assumption); (case dp => ktr_room); (case un => ktr_units))); intro a9 b9 c9 d9 t9 h9 tk9 e91 e92 e93 e94 F9 N9; (try k_sweep); (try dsimp only); (try k_fold)))
local macro_rules | `(tactic| walk_at "call ref") => `(tactic| ((with_reducible show wpAny _ _ (call (Value.ref 96) _) _ _ _); (k_dflt (refine' bag_use ?B ?F ?X ?N ?T ?hk ?dp ?un ?_; (case B => k_asm); (case F => k_asm); (case X => k_asm); (case N => k_asm); (case T => k_asm); (case hk => first | exact rfl | assumption); (case dp => ktr_room); (case un => ktr_units))); intro l9 o9 h9 tk9 hb9 lt9 F9 N9; (try simp only [AllLt, and_true] at lt9); (try k_sweep); (try dsimp only); (try k_fold)))
local macro_rules | `(tactic| walk_at "call ref") => `(tactic| ((with_reducible show wpAny _ _ (call (Value.ref 61) _) _ _ _); (k_dflt (refine' scaled_use ?B ?F ?X ?N ?T ?hk ?r0 ?r1 ?f0 ?a0 ?dp ?un ?_; (case B => k_asm); (case F => k_asm); (case X => k_asm); (case N => k_asm); (case T => k_asm); (case hk => first | exact rfl | assumption); (case r0 => assumption); (case r1 => assumption); (case f0 => assumption); (case a0 => first | assumption | exact oct0 (by assumption) (by omega) (by omega)); (case dp => ktr_room); (case un => ktr_units))); intro t9 h9 tk9 F9 N9; (try k_sweep); (try dsimp only); (try k_fold)))
local macro_rules | `(tactic| walk_at "g enterS") => `(tactic| ((refine wpAny_call ?_); k_dflt (refine' code_defS (cn := ?cn) (cs := ?cs) (L := ?L) (a := ?a) (ccd := ?ccd) ?k1 ?k2 ?k3 ?k4 ?k5 ?XB ?TB ?D ?T0 ?kA ?k6 ?k7 ?k8 ?k9 ?kB ?_ ?cK ?c2 ?c3 ?c4 ?c5; (case kA => exact rfl); (case k2 => k_asm); (case k1 => k_asm); (case XB => assumption); (case TB => assumption); (case D => assumption); (case T0 => first | assumption | exact KtsTurn.refl); (case k3 => k_asm); (case k4 => k_asm); (case k5 => k_asm); (case k6 => k_is); (case k7 => k_is); (case k8 => ktr_room); (case k9 => exact BindsTo.of_eq rfl); (case kB => exact locs rfl); (case cK => first | exact rfl | assumption); (case c2 => exact rfl); (case c3 => exact rfl); (case c4 => exact rfl); (case c5 => decide); k_whole; intro g' L' h' FG' F' N' B' X' T' D'; (try dsimp only); (try k_lift B'); (try k_fold))))
local macro_rules | `(tactic| walk_at "exec Raise some none") => `(tactic| (k_here; k_dflt (refine' raise_bf ?F ?X ?T ?hh ?ro ?_ ?ms ?hk ?hx; (case F => k_asm); (case X => k_asm); (case T => k_asm); (case hh => exact rfl); (case ro => ktr_room); (case ms => decide +kernel); (case hk => exact rfl); (case hx => exact rfl)); intro h' e' tk' t' MX'; (try dsimp only)))
local macro_rules | `(tactic| walk_at "leaving ref") => `(tactic| (k_here; (refine' leave_raiseX ?k1 ?k0 ?k2 ?k3 ?_; (case k0 => assumption); (case k2 => assumption); (case k1 => assumption); (case k3 => k_asm); k_whole; intro h' t' S' R' U'; (try dsimp only at S' R' U' ⊢))))
local macro_rules | `(tactic| walk_at "binaryOp FloorDiv int int") => `(tactic| (k_here; (with_reducible refine' floordiv_int ?e ?_ (Or.inl (PyProof.noPylong_small ?p))); (case e => omega); (case p => omega)))

section
variable {w : World} {mean : ExcName → Option Value} {mg mb : Str → Option Value} {dp un : Nat} {gd : Option (List Code)} {cn : Str} {cs : Scope} {a : Addr} {ccd : Value} {outer : List Env} {A₀ : Around} {base h₀ g₀ : Heap} {L : Addr} {m : Str → Option Value} {s : Shared} {Q E : Value → Shared → Prop} {news₀ : List (Addr × Obj)}
theorem octs_use {v z : Int} {t0 t1 : Tok} (B : Below A₀ base outer h₀) (F : Fr h₀ L s.heap m) (X : (hd.heap_39 w.params).In h₀) (N : News h₀ L s.heap news₀) (T : Top hd.view_39 LZ mean mg mb h₀) (hk : cs.kind = .function)
    (XB : (hd.heap_39 w.params).In base) (TB : Top hd.view_39 LZ mean mg mb base) (D : KtsDicts (outer.filterMap (·.frame)) h₀) (T0 : KtsTurn (outer.filterMap (·.frame)) g₀ h₀) (hdp : dp + 5 < recursionLimit) (hu : un + 8 * 5 < cLine)
    (h0 : 1 ≤ z) (h1 : z < 134217728) (hv0 : -1099511627776 < v) (hv1 : v < 1099511627776)
    (ret1 : ∀ (a0 a1 a2 a3 : UInt8) (t : Tok) (h' : Heap) (tk' : Nat) (h₀' : Heap), KtsTurn (outer.filterMap (·.frame)) g₀ h₀' → ((a0.toNat : Int) = 0 ∨ (a0.toNat : Int) = 255) → wordOf a0.toNat a1.toNat a2.toNat a3.toNat = wdOf v z → -16777216 ≤ wdOf v z → wdOf v z < 16777216 → wdOf v z * unitOf z / 1048576 = v →
      Fr h₀' L h' m → News h₀' L h' news₀ → Below A₀ base outer h₀' → (hd.heap_39 w.params).In h₀' → Top hd.view_39 LZ mean mg mb h₀' → KtsDicts (outer.filterMap (·.frame)) h₀' → Q (.bytes #[a0, a1, a2, a3] t) { s with heap := h', toks := tk' })
    (ret2 : ∀ (h' : Heap) (tk' : Nat) (h₀' : Heap), KtsTurn (outer.filterMap (·.frame)) g₀ h₀' → ¬ (-16777216 ≤ wdOf v z ∧ wdOf v z < 16777216 ∧ wdOf v z * unitOf z / 1048576 = v) →
      Fr h₀' L h' m → News h₀' L h' news₀ → Below A₀ base outer h₀' → (hd.heap_39 w.params).In h₀' → Top hd.view_39 LZ mean mg mb h₀' → KtsDicts (outer.filterMap (·.frame)) h₀' → Q .none { s with heap := h', toks := tk' }) :
    wpAny (model Challenge.rw_sq0024_01.row.prog w) (ktrTop dp un gd cn cs L a ccd [] outer) (call (.ref 145) [.int v t0, .int z t1]) Q E s :=
  octs_c w mean mg mb v z t0 t1 news₀ h0 h1 hv0 hv1 _ _ _ _ _ _ _ _ _ _ _ _ _ _ _ _ B F X N T hk XB TB D hdp hu fun r news' h' tk' h₀' K hp F' N' B' X' T' D' => by
    obtain ⟨hp, rfl⟩ := hp
    rcases hp with ⟨a0, a1, a2, a3, t, rfl, q1, q2, q3, q4, q5⟩ | ⟨rfl, q⟩
    · exact ret1 a0 a1 a2 a3 t h' tk' h₀' (T0.trans K) q1 q2 q3 q4 q5 F' N' B' X' T' D'
    · exact ret2 h' tk' h₀' (T0.trans K) q F' N' B' X' T' D'
theorem product_use {a0 a1 a2 a3 : UInt8} {z : Int} {t0 t1 : Tok} (B : Below A₀ base outer h₀) (F : Fr h₀ L s.heap m) (X : (hd.heap_39 w.params).In h₀) (N : News h₀ L s.heap news₀) (T : Top hd.view_39 LZ mean mg mb h₀) (hk : cs.kind = .function)
    (XB : (hd.heap_39 w.params).In base) (TB : Top hd.view_39 LZ mean mg mb base) (D : KtsDicts (outer.filterMap (·.frame)) h₀) (T0 : KtsTurn (outer.filterMap (·.frame)) g₀ h₀) (hdp : dp + 5 < recursionLimit) (hu : un + 8 * 5 < cLine)
    (h0 : 1 ≤ z) (h1 : z < 134217728) (ha : (a0.toNat : Int) = 0 ∨ (a0.toNat : Int) = 255)
    (ret : ∀ (t : Tok) (h' : Heap) (tk' : Nat) (h₀' : Heap), KtsTurn (outer.filterMap (·.frame)) g₀ h₀' →
      Fr h₀' L h' m → News h₀' L h' news₀ → Below A₀ base outer h₀' → (hd.heap_39 w.params).In h₀' → Top hd.view_39 LZ mean mg mb h₀' → KtsDicts (outer.filterMap (·.frame)) h₀' → Q (.int ((wordOf a0.toNat a1.toNat a2.toNat a3.toNat * unitOf z) / 1048576) t) { s with heap := h', toks := tk' }) :
    wpAny (model Challenge.rw_sq0024_01.row.prog w) (ktrTop dp un gd cn cs L a ccd [] outer) (call (.ref 138) [.bytes #[a0, a1, a2, a3] t0, .int z t1]) Q E s :=
  product_c w mean mg mb a0 a1 a2 a3 z t0 t1 news₀ h0 h1 ha _ _ _ _ _ _ _ _ _ _ _ _ _ _ _ _ B F X N T hk XB TB D (by omega) (by omega) fun r news' h' tk' h₀' K hp F' N' B' X' T' D' => by
    obtain ⟨t, rfl, rfl⟩ := hp
    exact ret t h' tk' h₀' (T0.trans K) F' N' B' X' T' D'
theorem product_useR {a0 a1 a2 a3 : UInt8} {z : Int} {t0 t1 : Tok} (B : Below A₀ base outer h₀) (F : Fr h₀ L s.heap m) (X : (hd.heap_39 w.params).In h₀) (N : News h₀ L s.heap news₀) (T : Top hd.view_39 LZ mean mg mb h₀) (hk : cs.kind = .function)
    (XB : (hd.heap_39 w.params).In base) (TB : Top hd.view_39 LZ mean mg mb base) (D : KtsDicts (outer.filterMap (·.frame)) h₀) (T0 : KtsTurn (outer.filterMap (·.frame)) g₀ h₀) (hdp : dp + 5 < recursionLimit) (hu : un + 8 * 5 < cLine)
    (h0 : 1 ≤ z) (h1 : z < 134217728) (ha0 : (a0.toNat : Int) ≠ 0) (ha1 : (a0.toNat : Int) ≠ 255)
    (ret : ∀ (h' : Heap) (tk' : Nat) (h₀' : Heap), KtsTurn (outer.filterMap (·.frame)) g₀ h₀' →
      Fr h₀' L h' m → News h₀' L h' news₀ → Below A₀ base outer h₀' → (hd.heap_39 w.params).In h₀' → Top hd.view_39 LZ mean mg mb h₀' → KtsDicts (outer.filterMap (·.frame)) h₀' → Q .none { s with heap := h', toks := tk' }) :
    wpAny (model Challenge.rw_sq0024_01.row.prog w) (ktrTop dp un gd cn cs L a ccd [] outer) (call (.ref 138) [.bytes #[a0, a1, a2, a3] t0, .int z t1]) Q E s :=
  product_r w mean mg mb a0 a1 a2 a3 z t0 t1 news₀ h0 h1 ha0 ha1 _ _ _ _ _ _ _ _ _ _ _ _ _ _ _ _ B F X N T hk XB TB D (by omega) (by omega) fun r news' h' tk' h₀' K hp F' N' B' X' T' D' => by
    obtain ⟨rfl, rfl⟩ := hp
    exact ret h' tk' h₀' (T0.trans K) F' N' B' X' T' D'
end
local macro_rules | `(tactic| walk_at "call ref") => `(tactic| ((with_reducible show wpAny _ _ (call (Value.ref 145) _) _ _ _); (k_dflt (refine' octs_use ?B ?F ?X ?N ?T ?hk ?XB ?TB ?D ?T0 ?dp ?un ?z0 ?z1 ?v0 ?v1 ?_ ?_; (case B => k_asm); (case F => k_asm); (case X => k_asm); (case N => k_asm); (case T => k_asm); (case hk => first | exact rfl | assumption); (case XB => assumption); (case TB => assumption); (case D => assumption); (case T0 => first | assumption | exact KtsTurn.refl); (case dp => ktr_room); (case un => ktr_units); (case z0 => assumption); (case z1 => assumption); (case v0 => first | assumption | omega); (case v1 => first | assumption | omega))); rotate_left; (intro h9 tk9 g9 K9 q9 F9 N9 B9 X9 T9 D9; (try k_sweep); (try dsimp only); (try k_fold)); rotate_left; (intro a9 b9 c9 d9 t9 h9 tk9 g9 K9 q91 q92 q93 q94 q95 F9 N9 B9 X9 T9 D9; (try k_sweep); (try dsimp only); (try k_fold))))
local macro_rules | `(tactic| walk_at "call ref") => `(tactic| ((with_reducible show wpAny _ _ (call (Value.ref 138) _) _ _ _); (k_dflt (refine' product_use ?B ?F ?X ?N ?T ?hk ?XB ?TB ?D ?T0 ?dp ?un ?z0 ?z1 ?a0 ?_; (case B => k_asm); (case F => k_asm); (case X => k_asm); (case N => k_asm); (case T => k_asm); (case hk => first | exact rfl | assumption); (case XB => assumption); (case TB => assumption); (case D => assumption); (case T0 => first | assumption | exact KtsTurn.refl); (case dp => ktr_room); (case un => ktr_units); (case z0 => assumption); (case z1 => assumption); (case a0 => assumption))); (intro t9 h9 tk9 g9 K9 F9 N9 B9 X9 T9 D9; (try k_sweep); (try dsimp only); (try k_fold))))
local macro_rules | `(tactic| walk_at "g enterS0") => `(tactic| ((refine wpAny_call ?_); k_dflt (refine' code_defS0 (cn := ?cn) (cs := ?cs) (L := ?L) (a := ?a) (ccd := ?ccd) ?k1 ?k2 ?k3 ?k4 ?k5 ?kA ?k6 ?k7 ?k8 ?k9 ?kB ?_ ?cK ?c2 ?c3 ?c4 ?c5; (case kA => exact rfl); (case k2 => k_asm); (case k1 => k_asm); (case k3 => k_asm); (case k4 => k_asm); (case k5 => k_asm); (case k6 => k_is); (case k7 => k_is); (case k8 => ktr_room); (case k9 => exact BindsTo.of_eq rfl); (case kB => exact locs rfl); (case cK => first | exact rfl | assumption); (case c2 => exact rfl); (case c3 => exact rfl); (case c4 => exact rfl); (case c5 => decide); k_whole; intro g' L' h' FG' F' N' B' X' T' D'; (try dsimp only); (try k_lift B'); (try k_fold))))

theorem true_end {h₀ h' : Heap} {L : Addr} {m : Str → Option Value} {s : Shared} {Q : Value → Shared → Prop} {b : Bool} {news news₂ : List (Addr × Obj)} {tk' : Nat}
    (hret : ∀ (h' : Heap) (tk' : Nat), Fr h₀ L h' m → News h₀ L h' news → Q (.bool true) { s with heap := h', toks := tk' }) (F : Fr h₀ L h' m) (N : News h₀ L h' news₂) (hs : ∀ p ∈ news, p ∈ news₂) (hb : b = true) :
    Q (.bool b) { s with heap := h', toks := tk' } := by subst hb; exact hret h' tk' F (cb_drop N hs)
local macro_rules | `(tactic| walk_at "ite") => `(tactic| (k_here; k_openite; first | (refine ite_pos (by with_reducible assumption) ?_) | (refine ite_neg (by with_reducible assumption) ?_) | (with_reducible refine split_ine ?_ ?_ <;> intro _) | (with_reducible refine split_ieq ?_ ?_ <;> intro _) | (with_reducible refine split_not ?_) | (refine split_dec ?_ ?_ <;> intro _)))
set_option maxHeartbeats 2000000 in
theorem told_c (w : World) (mean : ExcName → Option Value) (mg mb : Str → Option Value) (v z : Int) (t0 t1 t2 : Tok) (news : List (Addr × Obj)) (h0 : 1 ≤ z) (h1 : z < 134217728) (hv0 : -1099511627776 < v) (hv1 : v < 1099511627776) :
   ∀ (dp un : Nat) (gd : Option (List Code)) (cn : Str) (cs : Scope) (a : Addr) (ccd : Value) (A₀ : Around) (base h₀ : Heap) (L : Addr) (m : Str → Option Value) (s : Shared) (Q E : Value → Shared → Prop),
    Below A₀ base [] h₀ → Fr h₀ L s.heap m → (hd.heap_39 w.params).In h₀ → News h₀ L s.heap news → Top hd.view_39 LZ mean mg mb h₀ → cs.kind = .function →
    (hd.heap_39 w.params).In base → Top hd.view_39 LZ mean mg mb base → dp + 7 < recursionLimit → un + 8 * 7 < cLine →
    (∀ (h' : Heap) (tk' : Nat), Fr h₀ L h' m → News h₀ L h' news → Q (.bool true) { s with heap := h', toks := tk' }) →
    wpAny (model Challenge.rw_sq0024_01.row.prog w) (ktrTop dp un gd cn cs L a ccd [] []) (call (.ref 152) [.int v t0, .int z t1, .int (unitOf z) t2]) Q E s := by
  w_on
  k_fill
  intro dp un gd cn cs a ccd A₀ base h₀ L m s Q E B F X N T hk XB TB hdp hu hret
  have hq0 := unit_lo h0
  have hq2 := unit_hi h1
  walk_at "g enterS0"
  repeat' (first | (k_unfold; (try dsimp only)) | walk1 | (dsimp only; walk1) | fail "no step")
  all_goals (refine' true_end hret ?eF ?eN ?eS ?eB; (case eF => k_asm); (case eN => k_asm); (case eS => first | exact fun _ h => h | kcj_all); (case eB => first
    | ((with_reducible rename (wordOf _ _ _ _ = wdOf v z) => hW9); have hM9 := told_yes hq0 (show wdOf v z = -((-v * 1048576).fdiv (unitOf z)) from rfl) (by assumption) (by assumption) (by assumption); simp only [hW9, beq_iff_eq, decide_eq_true_eq, ne_eq] at *; omega)
    | ((have hM9 := told_no hq0 (show wdOf v z = -((-v * 1048576).fdiv (unitOf z)) from rfl) (by assumption)); simp only [beq_iff_eq, decide_eq_true_eq, ne_eq, Bool.not_eq_true', beq_eq_false_iff_ne, decide_eq_false_iff_not]; omega)
    | exact absurd rfl (by assumption)))
end Mine
end

section
open PySem PySem.W PyProof.Rows PySem.Spec PySem.Calls
set_option maxRecDepth 100000
namespace Mine
local macro_rules | `(tactic| walk_at "g end") => `(tactic| (first | (refine' Gives.end1 ?eR ?eF ?eN ?eP; (case eR => assumption); (case eF => k_asm); (case eN => k_asm); (case eP => walk_at "g post")) | (refine' Gives.end_ ?eR ?eF ?eN ?eS ?eP; (case eR => assumption); (case eF => k_asm); (case eN => k_asm); (case eP => walk_at "g post"); (case eS => kcj_all)) | fail "g end"))
local macro_rules | `(tactic| walk_at "g post") => `(tactic| ((try dsimp only); k_extra "post"))
local macro_rules | `(tactic| walk_at "g go") => `(tactic| ((refine wpAny_call ?_); (k_dflt cell_enter); k_steps; all_goals walk_at "g end"))
local macro_rules | `(tactic| k_all) => `(tactic| assumption)
local macro_rules | `(tactic| walk_at "call ref") => `(tactic| ((with_reducible show wpAny _ _ (call (Value.ref 103) _) _ _ _); (k_dflt (refine' draw_use ?B ?F ?X ?N ?T ?hk ?ht ?hb ?k9 ?ne ?m1 ?m2 ?dp ?un ?_; (case B => k_asm); (case F => k_asm); (case X => k_asm); (case N => k_asm); (case T => k_asm); (case hk => first | exact rfl | assumption); (case ht => first | exact Takes.head | exact Takes.tail (Takes.head) | exact Takes.tail (Takes.tail (Takes.head)) | exact Takes.tail (Takes.tail (Takes.tail (Takes.head))) | exact Takes.tail (Takes.tail (Takes.tail (Takes.tail (Takes.head)))) | exact Takes.tail (Takes.tail (Takes.tail (Takes.tail (Takes.tail (Takes.head))))) | exact Takes.tail (Takes.tail (Takes.tail (Takes.tail (Takes.tail (Takes.tail (Takes.head)))))) | exact Takes.tail (Takes.tail (Takes.tail (Takes.tail (Takes.tail (Takes.tail (Takes.tail (Takes.head))))))) | exact Takes.tail (Takes.tail (Takes.tail (Takes.tail (Takes.tail (Takes.tail (Takes.tail (Takes.tail (Takes.head))))))))); (case hb => assumption); (case k9 => omega); (case ne => k_all); (case m1 => first | decide | omega); (case m2 => first | decide | omega); (case dp => ktr_room); (case un => ktr_units))); intro d9 t9 o9 h9 tk9 h91 h92 hb9 F9 N9; (try k_sweep); (try dsimp only); (try k_fold)))

local macro_rules | `(tactic| walk_at "g enter") => `(tactic| ((refine wpAny_call ?_); k_dflt (refine' code_def ?k1 ?k2 ?k3 ?k4 ?k5 ?kA ?kF ?kK ?k6 ?k7 ?k8 ?k9 ?kB ?_ ?c2 ?c3 ?c4 ?c5; (case kA => exact rfl); (case kF => exact rfl); (case kK => first | exact rfl | assumption); (case k1 => k_asm); (case k2 => k_asm); (case k3 => k_asm); (case k4 => k_asm); (case k5 => k_asm); (case k6 => k_is); (case k7 => k_is); (case k8 => ktr_room); (case k9 => exact BindsTo.of_eq rfl); (case c5 => decide); (case kB => exact locs rfl); (case c2 => exact rfl); (case c3 => exact rfl); (case c4 => exact rfl); k_whole; intro g' L' h' FG' F' N' B' X' T'; (try dsimp only); (try k_lift B'); (try k_fold))))
local macro_rules | `(tactic| walk_at "call ref") => `(tactic| ((with_reducible show wpAny _ _ (call (Value.ref 82) _) _ _ _); walk_at "g enter"))

local macro_rules | `(tactic| walk_at "binaryOp Pow int int") => `(tactic| (with_reducible first | refine pow20 ?_ | refine pow23 ?_ | refine pow24 ?_ | refine pow27 ?_ | refine pow30 ?_ | refine pow31 ?_ | refine pow32 ?_))
local macro_rules | `(tactic| k_all) => `(tactic| first | assumption | exact allNe_of (by assumption) | exact allNe_of' (by assumption) | exact allNe_of' (And.right (by assumption)) | exact allNe_of' (And.right (And.right (by assumption))) | exact allNe_of' (And.right (And.right (And.right (by assumption)))))
local macro_rules | `(tactic| walk_at "UnrEnd") => `(tactic| (refine' unr_end ?eF ?eN ?eO ?_; (case eF => k_asm); (case eN => k_asm); (case eO => k_all)))
local macro_rules | `(tactic| walk_at "pyIter bytes") => `(tactic| k_bytesUnr)


theorem kts_nilF {h₀ h₀' h : Heap} {L : Addr} {m : Str → Option Value} (K : KtsTurn (List.filterMap (fun x : Env => x.frame) []) h₀ h₀') (F : Fr h₀' L h m) : Fr h₀ L h m :=
  ⟨F.ns, fun b o e => F.keep b o (K.other b o e (fun q => nomatch q)), by rw [← K.size]; exact F.above⟩
theorem kts_nilN {h₀ h₀' h : Heap} {L : Addr} {news : List (Addr × Obj)} (K : KtsTurn (List.filterMap (fun x : Env => x.frame) []) h₀ h₀') (N : News h₀' L h news) : News h₀ L h news := fun p hp => ⟨(N p hp).1, (N p hp).2.1, by
  cases q : h₀.get? p.1 with
  | none => rfl
  | some o => have := K.other _ _ q (fun q => nomatch q); rw [(N p hp).2.2] at this; cases this⟩

theorem word_lo {x0 x1 x2 x3 : UInt8} : -2147483648 ≤ wordOf x0.toNat x1.toNat x2.toNat x3.toNat ∧ wordOf x0.toNat x1.toNat x2.toNat x3.toNat < 2147483648 := by
  have h0 := x0.toNat_lt
  have h1 := x1.toNat_lt
  have h2 := x2.toNat_lt
  have h3 := x3.toNat_lt
  unfold wordOf
  split <;> omega
theorem exact_in {W u : Int} (h1 : -2147483648 ≤ W) (h2 : W < 2147483648) (h3 : 1 ≤ u) (h4 : u < 134217728) : -274877906944 ≤ (W * u).fdiv 1048576 ∧ (W * u).fdiv 1048576 < 274877906944 := by
  rw [Int.fdiv_eq_ediv_of_nonneg _ (show (0:Int) ≤ 1048576 by decide)]
  have a1 : -2147483648 * u ≤ W * u := Int.mul_le_mul_of_nonneg_right h1 (by omega)
  have a2 : W * u ≤ 2147483647 * u := Int.mul_le_mul_of_nonneg_right (by omega) (by omega)
  omega
theorem red_full (z : Int) : redOf z * facOf z = 16 * unitOf z := by
  unfold redOf facOf unitOf
  (repeat' split) <;> omega

section
variable {w : World} {mean : ExcName → Option Value} {mg mb : Str → Option Value} {dp un : Nat} {gd : Option (List Code)} {cn : Str} {cs : Scope} {a : Addr} {ccd : Value} {A₀ : Around} {base h₀ : Heap} {L : Addr} {m : Str → Option Value} {s : Shared} {Q E : Value → Shared → Prop} {news₀ : List (Addr × Obj)}
theorem product_any {a0 a1 a2 a3 : UInt8} {z : Int} {t0 t1 : Tok} (B : Below A₀ base [] h₀) (F : Fr h₀ L s.heap m) (X : (hd.heap_39 w.params).In h₀) (N : News h₀ L s.heap news₀) (T : Top hd.view_39 LZ mean mg mb h₀) (hk : cs.kind = .function)
    (XB : (hd.heap_39 w.params).In base) (TB : Top hd.view_39 LZ mean mg mb base) (hdp : dp + 5 < recursionLimit) (hu : un + 8 * 5 < cLine)
    (h0 : 1 ≤ z) (h1 : z < 134217728)
    (ret1 : ∀ (t : Tok) (h' : Heap) (tk' : Nat), ((a0.toNat : Int) = 0 ∨ (a0.toNat : Int) = 255) → -274877906944 ≤ (wordOf a0.toNat a1.toNat a2.toNat a3.toNat * unitOf z).fdiv 1048576 → (wordOf a0.toNat a1.toNat a2.toNat a3.toNat * unitOf z).fdiv 1048576 < 274877906944 →
      Fr h₀ L h' m → News h₀ L h' news₀ → Q (.int ((wordOf a0.toNat a1.toNat a2.toNat a3.toNat * unitOf z).fdiv 1048576) t) { s with heap := h', toks := tk' })
    (ret2 : ∀ (h' : Heap) (tk' : Nat), (a0.toNat : Int) ≠ 0 → (a0.toNat : Int) ≠ 255 → -274877906944 ≤ (wordOf a0.toNat a1.toNat a2.toNat a3.toNat * unitOf z).fdiv 1048576 → (wordOf a0.toNat a1.toNat a2.toNat a3.toNat * unitOf z).fdiv 1048576 < 274877906944 →
      Fr h₀ L h' m → News h₀ L h' news₀ → Q .none { s with heap := h', toks := tk' }) :
    wpAny (model Challenge.rw_sq0024_01.row.prog w) (ktrTop dp un gd cn cs L a ccd [] []) (call (.ref 138) [.bytes #[a0, a1, a2, a3] t0, .int z t1]) Q E s := by
  obtain ⟨b1, b2⟩ := exact_in (W := wordOf a0.toNat a1.toNat a2.toNat a3.toNat) word_lo.1 word_lo.2 (unit_lo h0) (unit_hi h1)
  by_cases ha : (a0.toNat : Int) = 0 ∨ (a0.toNat : Int) = 255
  · refine product_use B F X N T hk XB TB ktsDicts_nil KtsTurn.refl hdp hu h0 h1 ha fun t h' tk' h₀' K F' N' _ _ _ _ => ?_
    rw [← Int.fdiv_eq_ediv_of_nonneg _ (show (0:Int) ≤ 1048576 by decide)]
    exact ret1 t h' tk' ha b1 b2 (kts_nilF K F') (kts_nilN K N')
  · exact product_useR B F X N T hk XB TB ktsDicts_nil KtsTurn.refl hdp hu h0 h1 (fun q => ha (.inl q)) (fun q => ha (.inr q)) fun h' tk' h₀' K F' N' _ _ _ _ => ret2 h' tk' (fun q => ha (.inl q)) (fun q => ha (.inr q)) b1 b2 (kts_nilF K F') (kts_nilN K N')
theorem told_use {v z : Int} {t0 t1 t2 : Tok} (B : Below A₀ base [] h₀) (F : Fr h₀ L s.heap m) (X : (hd.heap_39 w.params).In h₀) (N : News h₀ L s.heap news₀) (T : Top hd.view_39 LZ mean mg mb h₀) (hk : cs.kind = .function)
    (XB : (hd.heap_39 w.params).In base) (TB : Top hd.view_39 LZ mean mg mb base) (hdp : dp + 7 < recursionLimit) (hu : un + 8 * 7 < cLine) (h0 : 1 ≤ z) (h1 : z < 134217728) (hv0 : -1099511627776 < v) (hv1 : v < 1099511627776)
    (ret : ∀ (h' : Heap) (tk' : Nat), Fr h₀ L h' m → News h₀ L h' news₀ → Q (.bool true) { s with heap := h', toks := tk' }) :
    wpAny (model Challenge.rw_sq0024_01.row.prog w) (ktrTop dp un gd cn cs L a ccd [] []) (call (.ref 152) [.int v t0, .int z t1, .int (unitOf z) t2]) Q E s :=
  told_c w mean mg mb v z t0 t1 t2 news₀ h0 h1 hv0 hv1 dp un gd cn cs a ccd A₀ base h₀ L m s Q E B F X N T hk XB TB hdp hu ret
theorem unit_use2 {z : Int} {tk : Tok} {cl : List (Str × Addr)} {outer : List Env} (B : Below A₀ base outer h₀) (F : Fr h₀ L s.heap m) (X : (hd.heap_39 w.params).In h₀) (N : News h₀ L s.heap news₀) (T : Top hd.view_39 LZ mean mg mb h₀) (hk : cs.kind = .function)
    (h0 : 1 ≤ z) (h1 : z < 134217728) (hdp : dp + 1 < recursionLimit) (hu : un + 8 * 1 < cLine)
    (ret : ∀ (t : Tok) (h' : Heap) (tk' : Nat), 1 ≤ unitOf z → unitOf z < 134217728 → Fr h₀ L h' m → News h₀ L h' news₀ → Q (.int (unitOf z) t) { s with heap := h', toks := tk' }) :
    wpAny (model Challenge.rw_sq0024_01.row.prog w) (ktrTop dp un gd cn cs L a ccd cl outer) (call (.ref 117) [.int z tk]) Q E s :=
  unit_use B F X N T hk h0 h1 hdp hu fun t h' tk' F' N' => ret t h' tk' (unit_lo h0) (unit_hi h1) F' N'
theorem parts_use2 {z : Int} {tk : Tok} {cl : List (Str × Addr)} {outer : List Env} (B : Below A₀ base outer h₀) (F : Fr h₀ L s.heap m) (X : (hd.heap_39 w.params).In h₀) (N : News h₀ L s.heap news₀) (T : Top hd.view_39 LZ mean mg mb h₀) (hk : cs.kind = .function)
    (h0 : 1 ≤ z) (h1 : z < 134217728) (hdp : dp + 1 < recursionLimit) (hu : un + 8 * 1 < cLine)
    (ret : ∀ (tp : Addr) (t u : Tok) (h' : Heap) (tk' : Nat), redOf z * facOf z = 16 * unitOf z → redOf z < 8388608 → 0 ≤ redOf z → 16 ≤ facOf z → facOf z ≤ 256 → Fr h₀ L h' m → News h₀ L h' ((tp, tup2 (redOf z) (facOf z) t u) :: news₀) → AllLt tp news₀ → Q (.ref tp) { s with heap := h', toks := tk' }) :
    wpAny (model Challenge.rw_sq0024_01.row.prog w) (ktrTop dp un gd cn cs L a ccd cl outer) (call (.ref 54) [.int z tk]) Q E s :=
  parts_use B F X N T hk h0 h1 hdp hu fun tp t u h' tk' F' N' hl => ret tp t u h' tk' (red_full z) (red_hi h1) (red_lo h0) (by rcases fac_in z with e | e | e | e | e <;> omega) (by rcases fac_in z with e | e | e | e | e <;> omega) F' N' hl
theorem size_use {l : Addr} {o : Obj} {k : Nat} {rest : List (Addr × Obj)} {cl : List (Str × Addr)} {outer : List Env} (B : Below A₀ base outer h₀) (F : Fr h₀ L s.heap m) (X : (hd.heap_39 w.params).In h₀) (N : News h₀ L s.heap news₀) (T : Top hd.view_39 LZ mean mg mb h₀) (hk : cs.kind = .function)
    (ht : Takes l o news₀ rest) (hb : bagOk o k) (hk9 : k < 900) (hne : ∀ p ∈ rest, p.1 ≠ l) (hdp : dp + 2 < recursionLimit) (hu : un + 8 * 2 < cLine)
    (ret : ∀ (d : Int) (t : Tok) (o' : Obj) (h' : Heap) (tk' : Nat), 1 ≤ d → d < 134217728 → bagOk o' (k + 2) → Fr h₀ L h' m → News h₀ L h' ((l, o') :: rest) → Q (.int d t) { s with heap := h', toks := tk' }) :
    wpAny (model Challenge.rw_sq0024_01.row.prog w) (ktrTop dp un gd cn cs L a ccd cl outer) (call (.ref 110) [.ref l]) Q E s :=
  (size_c w mean mg mb l o k rest hb hk9 hne).use B F X N T hk trivial hdp hu ht.sub fun v news' h' tk' hp F' N' => by
    obtain ⟨d, t, o', rfl, h1, h2, h3, rfl⟩ := hp
    exact ret d t o' h' tk' h1 h2 h3 F' N'
end
end Mine
end

open PySem PySem.W PyProof.Rows PySem.Spec PySem.Calls
set_option maxRecDepth 100000
open Mine

theorem Mine.menu8_in {d : Int} (h0 : 0 ≤ d) (h1 : d < 8) : 0 ≤ [(0:Int), 255, 0, 255, 1, 254, 127, 128].getD d.toNat 0 ∧ [(0:Int), 255, 0, 255, 1, 254, 127, 128].getD d.toNat 0 < 256 := by
  rcases (show d = 0 ∨ d = 1 ∨ d = 2 ∨ d = 3 ∨ d = 4 ∨ d = 5 ∨ d = 6 ∨ d = 7 by omega) with rfl | rfl | rfl | rfl | rfl | rfl | rfl | rfl <;> decide
theorem Mine.menu4_in {d u : Int} (h0 : 0 ≤ d) (h1 : d < 4) (h2 : 1 ≤ u) (h3 : u < 134217728) : -1099511627776 < [16 * u - 1, 16 * u, -16 * u, -16 * u - 1].getD d.toNat 0 ∧ [16 * u - 1, 16 * u, -16 * u, -16 * u - 1].getD d.toNat 0 < 1099511627776 := by
  rcases (show d = 0 ∨ d = 1 ∨ d = 2 ∨ d = 3 by omega) with rfl | rfl | rfl | rfl <;> simp <;> omega
theorem Mine.in4 {a b c d : Int} (h1 : 0 ≤ a ∧ a < 256) (h2 : 0 ≤ b ∧ b < 256) (h3 : 0 ≤ c ∧ c < 256) (h4 : 0 ≤ d ∧ d < 256) : ∀ n ∈ [a, b, c, d], 0 ≤ n ∧ n < 256 := by
  intro n hn
  simp only [List.mem_cons, List.not_mem_nil, or_false] at hn
  rcases hn with rfl | rfl | rfl | rfl <;> assumption
local macro_rules | `(tactic| walk_at "g end") => `(tactic| (first | (refine' Gives.end1 ?eR ?eF ?eN ?eP; (case eR => assumption); (case eF => k_asm); (case eN => k_asm); (case eP => walk_at "g post")) | (refine' Gives.end_ ?eR ?eF ?eN ?eS ?eP; (case eR => assumption); (case eF => k_asm); (case eN => k_asm); (case eP => walk_at "g post"); (case eS => kcj_all)) | fail "g end"))
local macro_rules | `(tactic| walk_at "g post") => `(tactic| ((try dsimp only); k_extra "post"))
local macro_rules | `(tactic| walk_at "g go") => `(tactic| ((refine wpAny_call ?_); (k_dflt cell_enter); k_steps; all_goals walk_at "g end"))
local macro_rules | `(tactic| k_all) => `(tactic| assumption)
local macro_rules | `(tactic| walk_at "call ref") => `(tactic| ((with_reducible show wpAny _ _ (call (Value.ref 103) _) _ _ _); (k_dflt (refine' draw_use ?B ?F ?X ?N ?T ?hk ?ht ?hb ?k9 ?ne ?m1 ?m2 ?dp ?un ?_; (case B => k_asm); (case F => k_asm); (case X => k_asm); (case N => k_asm); (case T => k_asm); (case hk => first | exact rfl | assumption); (case ht => first | exact Takes.head | exact Takes.tail (Takes.head) | exact Takes.tail (Takes.tail (Takes.head)) | exact Takes.tail (Takes.tail (Takes.tail (Takes.head))) | exact Takes.tail (Takes.tail (Takes.tail (Takes.tail (Takes.head)))) | exact Takes.tail (Takes.tail (Takes.tail (Takes.tail (Takes.tail (Takes.head))))) | exact Takes.tail (Takes.tail (Takes.tail (Takes.tail (Takes.tail (Takes.tail (Takes.head)))))) | exact Takes.tail (Takes.tail (Takes.tail (Takes.tail (Takes.tail (Takes.tail (Takes.tail (Takes.head))))))) | exact Takes.tail (Takes.tail (Takes.tail (Takes.tail (Takes.tail (Takes.tail (Takes.tail (Takes.tail (Takes.head))))))))); (case hb => assumption); (case k9 => omega); (case ne => k_all); (case m1 => first | decide | omega); (case m2 => first | decide | omega); (case dp => first | decide | ktr_room); (case un => first | (rw [cLine_is]; decide) | ktr_units))); intro d9 t9 o9 h9 tk9 h91 h92 hb9 F9 N9; (try k_sweep); (try dsimp only); (try k_fold)))

local macro_rules | `(tactic| walk_at "g enter") => `(tactic| ((refine wpAny_call ?_); k_dflt (refine' code_def ?k1 ?k2 ?k3 ?k4 ?k5 ?kA ?kF ?kK ?k6 ?k7 ?k8 ?k9 ?kB ?_ ?c2 ?c3 ?c4 ?c5; (case kA => exact rfl); (case kF => exact rfl); (case kK => first | exact rfl | assumption); (case k1 => k_asm); (case k2 => k_asm); (case k3 => k_asm); (case k4 => k_asm); (case k5 => k_asm); (case k6 => k_is); (case k7 => k_is); (case k8 => ktr_room); (case k9 => exact BindsTo.of_eq rfl); (case c5 => decide); (case kB => exact locs rfl); (case c2 => exact rfl); (case c3 => exact rfl); (case c4 => exact rfl); k_whole; intro g' L' h' FG' F' N' B' X' T'; (try dsimp only); (try k_lift B'); (try k_fold))))
local macro_rules | `(tactic| walk_at "call ref") => `(tactic| ((with_reducible show wpAny _ _ (call (Value.ref 82) _) _ _ _); walk_at "g enter"))

local macro_rules | `(tactic| walk_at "binaryOp Pow int int") => `(tactic| (with_reducible first | refine pow20 ?_ | refine pow23 ?_ | refine pow24 ?_ | refine pow27 ?_ | refine pow30 ?_ | refine pow31 ?_ | refine pow32 ?_))
local macro_rules | `(tactic| k_all) => `(tactic| first | assumption | exact allNe_of (by assumption) | exact allNe_of' (by assumption) | exact allNe_of' (And.right (by assumption)) | exact allNe_of' (And.right (And.right (by assumption))) | exact allNe_of' (And.right (And.right (And.right (by assumption)))))
local macro_rules | `(tactic| walk_at "UnrEnd") => `(tactic| (refine' unr_end ?eF ?eN ?eO ?_; (case eF => k_asm); (case eN => k_asm); (case eO => k_all)))
local macro_rules | `(tactic| walk_at "pyIter bytes") => `(tactic| k_bytesUnr)

local macro_rules | `(tactic| walk_at "call ref") => `(tactic| ((with_reducible show wpAny _ _ (call (Value.ref 124) _) _ _ _); (k_dflt (refine' octet_use ?B ?F ?X ?N ?T ?hk ?ht ?hb ?k9 ?ne ?dp ?un ?_; (case B => k_asm); (case F => k_asm); (case X => k_asm); (case N => k_asm); (case T => k_asm); (case hk => first | exact rfl | assumption); (case dp => decide); (case un => rw [cLine_is]; decide); (case ht => first | exact Takes.head | exact Takes.tail (Takes.head) | exact Takes.tail (Takes.tail (Takes.head)) | exact Takes.tail (Takes.tail (Takes.tail (Takes.head))) | exact Takes.tail (Takes.tail (Takes.tail (Takes.tail (Takes.head)))) | exact Takes.tail (Takes.tail (Takes.tail (Takes.tail (Takes.tail (Takes.head))))) | exact Takes.tail (Takes.tail (Takes.tail (Takes.tail (Takes.tail (Takes.tail (Takes.head)))))) | exact Takes.tail (Takes.tail (Takes.tail (Takes.tail (Takes.tail (Takes.tail (Takes.tail (Takes.head))))))) | exact Takes.tail (Takes.tail (Takes.tail (Takes.tail (Takes.tail (Takes.tail (Takes.tail (Takes.tail (Takes.head))))))))); (case hb => assumption); (case k9 => omega); (case ne => k_all))); intro d9 t9 o9 h9 tk9 h91 h92 hb9 F9 N9; (try k_sweep); (try dsimp only); (try k_fold)))
local macro_rules | `(tactic| walk_at "call ref") => `(tactic| ((with_reducible show wpAny _ _ (call (Value.ref 110) _) _ _ _); (k_dflt (refine' size_use ?B ?F ?X ?N ?T ?hk ?ht ?hb ?k9 ?ne ?dp ?un ?_; (case B => k_asm); (case F => k_asm); (case X => k_asm); (case N => k_asm); (case T => k_asm); (case hk => first | exact rfl | assumption); (case dp => decide); (case un => rw [cLine_is]; decide); (case ht => first | exact Takes.head | exact Takes.tail (Takes.head) | exact Takes.tail (Takes.tail (Takes.head)) | exact Takes.tail (Takes.tail (Takes.tail (Takes.head))) | exact Takes.tail (Takes.tail (Takes.tail (Takes.tail (Takes.head)))) | exact Takes.tail (Takes.tail (Takes.tail (Takes.tail (Takes.tail (Takes.head))))) | exact Takes.tail (Takes.tail (Takes.tail (Takes.tail (Takes.tail (Takes.tail (Takes.head)))))) | exact Takes.tail (Takes.tail (Takes.tail (Takes.tail (Takes.tail (Takes.tail (Takes.tail (Takes.head))))))) | exact Takes.tail (Takes.tail (Takes.tail (Takes.tail (Takes.tail (Takes.tail (Takes.tail (Takes.tail (Takes.head))))))))); (case hb => assumption); (case k9 => omega); (case ne => k_all))); intro d9 t9 o9 h9 tk9 h91 h92 hb9 F9 N9; (try k_sweep); (try dsimp only); (try k_fold)))
local macro_rules | `(tactic| walk_at "call ref") => `(tactic| ((with_reducible show wpAny _ _ (call (Value.ref 117) _) _ _ _); (k_dflt (refine' unit_use2 ?B ?F ?X ?N ?T ?hk ?z0 ?z1 ?dp ?un ?_; (case B => k_asm); (case F => k_asm); (case X => k_asm); (case N => k_asm); (case T => k_asm); (case hk => first | exact rfl | assumption); (case dp => decide); (case un => rw [cLine_is]; decide); (case z0 => first | assumption | omega); (case z1 => first | assumption | omega))); intro t9 h9 tk9 u91 u92 F9 N9; (try k_sweep); (try dsimp only); (try k_fold)))
local macro_rules | `(tactic| walk_at "call ref") => `(tactic| ((with_reducible show wpAny _ _ (call (Value.ref 54) _) _ _ _); (k_dflt (refine' parts_use2 ?B ?F ?X ?N ?T ?hk ?z0 ?z1 ?dp ?un ?_; (case B => k_asm); (case F => k_asm); (case X => k_asm); (case N => k_asm); (case T => k_asm); (case hk => first | exact rfl | assumption); (case dp => decide); (case un => rw [cLine_is]; decide); (case z0 => first | assumption | omega); (case z1 => first | assumption | omega))); intro tp9 t9 u9 h9 tk9 r91 r92 r93 r94 r95 F9 N9 l9; (try simp only [AllLt, and_true] at l9); (try k_sweep); (try dsimp only); (try k_fold)))
local macro_rules | `(tactic| walk_at "call ref") => `(tactic| ((with_reducible show wpAny _ _ (call (Value.ref 131) _) _ _ _); (k_dflt (refine' word_use ?B ?F ?X ?N ?T ?hk ?dp ?un ?_; (case B => k_asm); (case F => k_asm); (case X => k_asm); (case N => k_asm); (case T => k_asm); (case hk => first | exact rfl | assumption); (case dp => decide); (case un => rw [cLine_is]; decide))); intro t9 h9 tk9 F9 N9; (try k_sweep); (try dsimp only); (try k_fold)))
local macro_rules | `(tactic| walk_at "call ref") => `(tactic| ((with_reducible show wpAny _ _ (call (Value.ref 96) _) _ _ _); (k_dflt (refine' bag_use ?B ?F ?X ?N ?T ?hk ?dp ?un ?_; (case B => k_asm); (case F => k_asm); (case X => k_asm); (case N => k_asm); (case T => k_asm); (case hk => first | exact rfl | assumption); (case dp => decide); (case un => rw [cLine_is]; decide))); intro l9 o9 h9 tk9 hb9 lt9 F9 N9; (try simp only [AllLt, and_true] at lt9); (try k_sweep); (try dsimp only); (try k_fold)))
local macro_rules | `(tactic| walk_at "call ref") => `(tactic| ((with_reducible show wpAny _ _ (call (Value.ref 89) _) _ _ _); (k_dflt (refine' cell_use ?B ?F ?X ?N ?T ?hk ?hl ?hi ?h63 ?k0 ?k9 ?dp ?un ?_; (case B => k_asm); (case F => k_asm); (case X => k_asm); (case N => k_asm); (case T => k_asm); (case hk => first | exact rfl | assumption); (case dp => decide); (case un => rw [cLine_is]; decide); (case hl => assumption); (case hi => assumption); (case h63 => omega); (case k0 => omega); (case k9 => omega))); intro c9 t9 h9 tk9 c91 F9 N9; (try k_sweep); (try dsimp only); (try k_fold)))
local macro_rules | `(tactic| walk_at "call ref") => `(tactic| ((with_reducible show wpAny _ _ (call (Value.ref 138) _) _ _ _); (k_dflt (refine' product_any ?B ?F ?X ?N ?T ?hk ?XB ?TB ?dp ?un ?z0 ?z1 ?_ ?_; (case B => k_asm); (case F => k_asm); (case X => k_asm); (case N => k_asm); (case T => k_asm); (case hk => first | exact rfl | assumption); (case dp => decide); (case un => rw [cLine_is]; decide); (case XB => assumption); (case TB => assumption); (case z0 => first | assumption | omega); (case z1 => first | assumption | omega))); rotate_left; (intro h9 tk9 a91 a92 b91 b92 F9 N9; (try k_sweep); (try dsimp only); (try k_fold)); rotate_left; (intro t9 h9 tk9 a91 b91 b92 F9 N9; (try k_sweep); (try dsimp only); (try k_fold))))
local macro_rules | `(tactic| walk_at "call ref") => `(tactic| ((with_reducible show wpAny _ _ (call (Value.ref 152) _) _ _ _); (k_dflt (refine' told_use ?B ?F ?X ?N ?T ?hk ?XB ?TB ?dp ?un ?z0 ?z1 ?v0 ?v1 ?_; (case B => k_asm); (case F => k_asm); (case X => k_asm); (case N => k_asm); (case T => k_asm); (case hk => first | exact rfl | assumption); (case dp => decide); (case un => rw [cLine_is]; decide); (case XB => assumption); (case TB => assumption); (case z0 => first | assumption | omega); (case z1 => first | assumption | omega); (case v0 => first | omega | exact (menu4_in (by omega) (by omega) (by omega) (by omega)).1); (case v1 => first | omega | exact (menu4_in (by omega) (by omega) (by omega) (by omega)).2))); intro h9 tk9 F9 N9; (try k_sweep); (try dsimp only); (try k_fold)))

local macro_rules | `(tactic| by_in) => `(tactic| exact in4 (menu8_in (by omega) (by omega)) ⟨by omega, by omega⟩ ⟨by omega, by omega⟩ ⟨by omega, by omega⟩)
set_option maxRecDepth 100000 in
set_option maxHeartbeats 4000000 in
theorem PySem.Challenge.cw_sq0024_01_holds : PySem.Challenge.rw_sq0024_01.Holds := by
  refine Mine.hd ?_
  k_with "pyIter ref" => k_search (fun _ => True)
  w_strict (k_go0; (all_goals try k_fold); k_steps)
