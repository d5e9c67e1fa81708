import PyProof.Rows.All
import Wide.All
import OpenK.AllK
import Wide.FinOn
import PySem.Challenge.RW_nn0047_01
open PySem PySem.W PyProof.Rows
set_option Elab.async false

namespace Mine
set_option maxRecDepth 100000 in
set_option maxHeartbeats 8000000 in
open_top hd for PySem.Challenge.rw_nn0047_01
end Mine

namespace Mine
open PySem PySem.W PyProof.Rows PySem.Calls PySem.Spec
set_option maxRecDepth 100000
/-- where a call stands, seen from the caller's frame; a level is a lid on the depth and on the C units -/
abbrev lev (n : Nat) (env : Env) (outer : List Env) : Around :=
  { handled := none, depth := 300 + n, frames := some (env :: outer), guards := none, units := 100 + 10 * n }

theorem wpAny_le {α : Type} {M : Model} {A A' : Around} {t : Sem α} {Q : α → Shared → Prop} {E : Value → Shared → Prop} {s : Shared}
    (h : wpAny M A' t Q E s) (hh : A.handled = A'.handled) (hd : A.depth ≤ A'.depth) (hf : A'.frames = A.frames) (hg : A'.guards = none) (hu : A.units ≤ A'.units) : wpAny M A t Q E s :=
  fun Γ p hΓ => h Γ p ⟨hΓ.1.trans hh, Nat.le_trans hΓ.2.1 hd, fun l hl => hΓ.2.2.1 l (hf ▸ hl), fun g hg' => absurd hg' (by rw [hg]; exact fun q => nomatch q), Nat.le_trans hΓ.2.2.2.2 hu⟩

/-- the contract of a call that keeps all that stands -/
def Tri (prog : Program) (w : World) (loose : List PySem.Str) (mean : ExcName → Option Value) (mg mb : PySem.Str → Option Value) (n : Nat) (f : PySem.Addr) (vs : List Value) (H : Heap)
    (ok : Heap → Value → Prop) (bad : PySem.Addr → Prop) : Prop :=
  ∀ (env : Env) (outer : List Env) (A₀ : Around) (base h₀ : Heap) (L : PySem.Addr) (m : PySem.Str → Option Value) (s : Shared) (Q E : Value → Shared → Prop),
    s.heap = H → Below A₀ base outer h₀ → Fr h₀ L s.heap m → (hd.heap_39 w.params).In h₀ → Top hd.view_39 loose mean mg mb h₀ → env.frame = some L → env.scope.kind = .function →
    (∀ v h' tk', H.StaysIn h' → ok h' v → Q v { s with heap := h', toks := tk' }) →
    (∀ C e h' tk', bad C → RaisedSN base H (env :: outer) e (.ref C) [] h' → H.UpToSlots h' → E (.ref e) { s with heap := h', toks := tk' }) →
    wpAny (model prog w) (lev n env outer) (call (.ref f) vs) Q E s

section
variable {prog : Program} {w : World} {A₀ A : Around} {s : Shared} {base h₀ : Heap} {outer : List Env} {L : PySem.Addr} {m : PySem.Str → Option Value} {env : Env}
  {K : Frag} {p : Program} {loose : List PySem.Str} {mean : ExcName → Option Value} {mg mb : PySem.Str → Option Value}

theorem stays_refl (h : Heap) : h.StaysIn h := fun _ _ e => e

/-- a def is entered; all that stands is the callee's ground -/
theorem enter {R : Result → Shared → Prop} {name qual : PySem.Str} {params : Arguments} {body : List Stmt} {scope : PySem.Scope} {dV kV doc pm cdv ct oc : Value} {an od : Option PySem.Addr} {osl : Array (Option Value)} {f : PySem.Addr} {args : Args}
    {binds : List (PySem.Str × Value)}
    (B : Below A₀ base outer h₀) (F : Fr h₀ L s.heap m) (X₀ : K.In h₀) (T : Top p loose mean mg mb h₀) (hf : env.frame = some L) (hck : env.scope.kind = .function) (hA : A.frames = some (env :: outer))
    (ho : K.lookup f = some ⟨oc, od, .func (fnOf name qual params body scope dV kV doc pm an cdv ct), osl⟩) (hcd : codeIn K cdv qual = true) (hroom : A.depth < recursionLimit)
    (hbind : BindsTo s (fnOf name qual params body scope dV kV doc pm an cdv ct) args binds) (hloc : ∀ y ∈ binds, scope.names.lookup y.1 = some .local)
    (h : ∀ g L' h₁, g = s.heap → Fr g L' h₁ (fun y => binds.reverse.lookup y) → News g L' h₁ [] → Below A base (env :: outer) g → K.In g → Top p loose mean mg mb g →
      wpAny (model prog w) (A.deeper (envOf qual scope L' f cdv)) (execs body (envOf qual scope L' f cdv))
        (fun fl s' => R (.ok (.ret (match fl with | .ret v => v | _ => .none))) s')
        (fun e s' => wpAny (model prog w) (A.deeper (envOf qual scope L' f cdv)) (leaving (envOf qual scope L' f cdv) e) (fun _ s'' => R (.error e) s'') (fun e' s'' => R (.error e') s'') s')
        { s with heap := h₁, toks := s.toks + binds.length })
    (hco : scope.isCoroutine = false) (hgen : scope.isGenerator = false) (hk : scope.kind = .function)
    (hcell : ∀ x ∈ scope.names, x.2 ≠ .cell) : codeAny (model prog w) A (.call (.ref f) args) R s := by
  have X := X₀.keeps F.keep
  have B₁ := pushX B F hf hck
  refine codeAny_call_def (fd := fnOf name qual params body scope dV kV doc pm an cdv ct) (body := body) (binds := binds) hroom (X _ _ ho) rfl (T.nolimit.keeps F.keep) (codeRec_of X hcd) rfl hbind hcell hloc (fun h₁ hns hk₁ => ?_) hco hgen hk
  exact h _ s.heap.objs.size h₁ rfl ⟨hns, hk₁, Nat.le_refl _⟩ News.nil ⟨hA, B₁.stays, B₁.frames⟩ X (T.keeps F.keep)

/-- a new exception of an own class, with whatever in its dict -/
structure NewO (h h' : Heap) (e : PySem.Addr) (cls : Value) : Prop where
  keeps : ∀ b o, h.get? b = some o → h'.get? b = some o
  new : h.get? e = none
  there : ∃ ob tp, h'.get? e = some ob ∧ ob.cls = cls ∧ ob.data = .fields #[tp, .none, .none, .none, .bool false, .none]
end

section
variable {M : Model} {A : Around} {E : Value → Shared → Prop} {s' : Shared} {base g g₂ h : Heap} {outer : List Env} {L a e : PySem.Addr} {m : PySem.Str → Option Value} {name : PySem.Str} {scope : PySem.Scope} {cd : Value} {Q : Unit → Shared → Prop} {news : List (PySem.Addr × Obj)}
theorem leave_newO {cls : Value} (K : Below A base outer g) (hx : NewO h s'.heap e cls) (F : Fr g L h m)
    (hQ : ∀ h', RaisedSN base g outer e cls [] h' → g.UpToSlots h' → Q () { s' with heap := h' }) (hk : scope.kind = .function := by rfl) :
    wpAny M (A.deeper (envOf name scope L a cd)) (leaving (envOf name scope L a cd) (.ref e)) Q E s' := by
  have K' := K.push (name := name) (a := a) (cd := cd) F hk
  have hin : ∀ env ∈ (envOf name scope L a cd :: outer), ∀ b, env.frame = some b → b ∈ (envOf name scope L a cd :: outer).filterMap (·.frame) := fun env he b hb => List.mem_filterMap.mpr ⟨env, he, hb⟩
  have st : base.StaysIn (hideAll h ((envOf name scope L a cd :: outer).filterMap (·.frame))) := fun b o q => hideAll_get _ (K'.stays b o q) fun hm => by
    rw [(K'.frames.mem hm).1] at q; cases q
  have sg : ∀ b o, g.get? b = some o → b ∉ outer.filterMap (·.frame) → (hideAll h ((envOf name scope L a cd :: outer).filterMap (·.frame))).get? b = some o := fun b o q nm => hideAll_get _ (F.keep b o q) fun hm => by
    rcases kts_mem hm with z | z
    · rw [z, kts_self F] at q
      cases q
    · exact nm z
  obtain ⟨ob, tp, he, hcls, hd⟩ := hx.there
  have hen : (hideAll h ((envOf name scope L a cd :: outer).filterMap (·.frame))).get? e = none := by
    cases q : (hideAll h ((envOf name scope L a cd :: outer).filterMap (·.frame))).get? e with
    | none => rfl
    | some o => have := of_hideAll _ q; rw [hx.new] at this; cases this
  refine wpAny_leaving_firstW (a0 := tp) K'.stack ((funFrames_hide K'.frames hin).of_keeps fun b o hb _ => ⟨o, hx.keeps b o hb, rfl⟩) rfl he (fun b o hb => hx.keeps b o (of_hideAll _ hb)) hen hd rfl rfl fun h' hL => ?_
  obtain ⟨k1, ⟨_, _, k2⟩, k3, k4⟩ := hL
  exact hQ h' ⟨_, tp, st, sg, (fun q hq => nomatch hq), k1, hen, k2, by rw [← hcls]; exact k3⟩ (((Heap.UpToSlots.of_keeps F.keep).trans (Heap.UpToSlots.of_keeps hx.keeps)).trans k4)
end
end Mine

namespace Mine
open PySem PySem.W PyProof.Rows PySem.Calls PySem.Spec
set_option maxRecDepth 100000
section
variable {prog : Program} {w : World} {A : Around} {E : Value → Shared → Prop} {h : Heap} {g : Array GenState} {d : Drawn} {t : Nat} {os : OsState}
variable {nm q : PySem.Str} {C N : PySem.Addr} {bs bm : List Value} {hdct : Bool} {sn : List PySem.Str} {sub : List Value} {ab : Bool} {col : Option Bool} {dd : Option PySem.Addr} {k0 k1 k2 k3 k5 : Option Value}

/-- what the tail of an own exception class's mro says -/
structure TailIs (bm : List Value) : Prop where
  exc : bm.contains (.type "Exception") = true
  base : bm.contains (.type "BaseException") = true
  noA : bm.contains (.type "AttributeError") = false
  noN : bm.contains (.type "NameError") = false

theorem check_newO (T : TailIs bm) {M : Model} {rest : List Value} {Q : Unit → Shared → Prop} (hC : h.get? C = some (excClassObj nm q C N bs bm hdct sn sub ab col dd k0 k1 k2 k3 k5 "Exception.__new__"))
    (hq : Q () ⟨h, g, d, t, os⟩) : wpAny M A (checkBuiltinCall "Exception.__new__" ⟨.ref C :: rest, []⟩) Q E ⟨h, g, d, t, os⟩ := by
  have F := PySem.F.excBase_Exception
  have hcont : (Value.ref C :: bm).contains (.type "Exception") = true := by rw [List.contains_cons, T.exc, Bool.or_true]
  have hstar := F.noStar
  simp only [checkBuiltinCall, F.newKind, F.newSplit, F.newRow]
  repeat (first | refine wpAny_loadPart_at hC ?_ | (refine wpAny_isSubtype_exc hC ?_; rw [hcont]) | refine wpAny_staticBase_exc hC ?_ | refine wpAny_madeBy_exc hC ?_ | simp only [bne_self_eq_false, Bool.false_eq_true, if_false] | wp_step)
  exact hq

theorem code_newO (T : TailIs bm) {R : Result → Shared → Prop} {rest : List Value} (hC : h.get? C = some (excClassObj nm q C N bs bm hdct sn sub ab col dd k0 k1 k2 k3 k5 "Exception.__new__"))
    (hq : R (.ok (.ret (.ref (h.objs.size + 1)))) ⟨(h.push { cls := .type "tuple", data := .seq rest.toArray }).push
      { cls := .ref C, data := .fields #[.ref h.objs.size, .none, .none, .none, .bool false, .none] }, g, d, t, os⟩) (hrest : rest.length ≤ sizeLine) :
    codeAny (model prog w) A (.builtin "Exception.__new__" ⟨.ref C :: rest, []⟩) R ⟨h, g, d, t, os⟩ := by
  have F := PySem.F.excBase_Exception
  have hends := F.ends
  have hcB : (Value.ref C :: bm).contains (.type "Exception") = true := by rw [List.contains_cons, T.exc, Bool.or_true]
  have hcA : (Value.ref C :: bm).contains (.type "AttributeError") = false := by rw [List.contains_cons, T.noA]; rfl
  have hcN : (Value.ref C :: bm).contains (.type "NameError") = false := by rw [List.contains_cons, T.noN]; rfl
  refine codeAny_builtinAt F.entry ?_
  unfold Builtin.«BaseException.__new__»
  refine PySem.wpAt_bind ?_
  show PySem.wpAt _ _ _ (stack >>= _) _ _ _
  refine PySem.wpAt_bind (PySem.wpAt_stack fun p below => PySem.wpAt_of_wpAny ?_)
  wp_walk
  refine PySem.wpAt_of_wpAny ?_
  rw [F.owner]
  repeat (first | with_reducible refine wpAny_madeHere_exc F.canon hC ?_ | with_reducible refine wpAny_loadPart_at hC ?_ | (with_reducible refine wpAny_isSubtype_exc hC ?_; first | rw [hcB] | rw [hcA] | rw [hcN]) | wp_step)
  show R _ _
  rw [Heap.size_push]
  exact hq

theorem type_callO (T : TailIs bm) {rest : List Value} {fI : PySem.Addr} {Q : Fin → Shared → Prop}
    (hC : h.get? C = some (excClassObj nm q C N bs bm hdct sn sub ab col dd k0 k1 k2 k3 k5 "Exception.__new__"))
    (hi : Looks (model prog w) h (typeLookup (.ref C) "__init__") (some (.ref fI))) (hfI : Looks (model prog w) h (typeOf (.ref fI)) (.type "function"))
    (hq : ∀ h' e, Heap.MadeExcOf h h' e (.ref C) rest →
      wpAny (model prog w) A (call (.ref fI) (.ref e :: rest)) (fun r s' => r = .none ∧ Q (.done (.ret (.ref e))) s') E ⟨h', g, d, t, os⟩) (hrest : rest.length ≤ sizeLine) :
    wpAny (model prog w) A (Builtin.«type.__call__» ⟨.ref C :: rest, []⟩) Q E ⟨h, g, d, t, os⟩ := by
  have F := PySem.F.excBase_Exception
  repeat (first | with_reducible refine wpAny_loadPart_at hC ?_ | with_reducible refine wpAny_madeBy_exc hC ?_ | wp_step)
  refine codeAny_call_builtin_code (Code.quiet_builtin _ F.quiet) (check_newO T hC ?_)
  refine code_newO T hC ?_ hrest
  show wpAny _ _ _ _ _ _
  have keep : ∀ b o, h.get? b = some o → ((h.push { cls := .type "tuple", data := .seq rest.toArray }).push
      { cls := .ref C, data := .fields #[.ref h.objs.size, .none, .none, .none, .bool false, .none] }).get? b = some o := fun b o e => Heap.get?_push_of_some _ (Heap.get?_push_of_some _ e)
  have hC₁ := keep _ _ hC
  have hget : ((h.push { cls := .type "tuple", data := .seq rest.toArray }).push
      { cls := .ref C, data := .fields #[.ref h.objs.size, .none, .none, .none, .bool false, .none] }).get? (h.objs.size + 1) = some
      { cls := .ref C, data := .fields #[.ref h.objs.size, .none, .none, .none, .bool false, .none] } := by heap_get
  have hcC : (Value.ref C :: bm).contains (.ref C) = true := by simp
  unfold isInstance
  repeat (first | with_reducible refine wpAny_loadPart_at hget ?_ | (with_reducible refine wpAny_isSubtype_exc hC₁ ?_; rw [hcC]) | wp_step)
  show wpAny _ _ (typeLookup (.ref C) _) _ _ _
  refine (hi.keeps keep).here ?_
  dsimp only
  refine wpAny_holding (wpAny_bind ?_)
  unfold bindSpecial
  refine wpAny_bind ((hfI.keeps keep).here ?_)
  rw [if_pos (by decide)]
  refine wpAny_pure (wpAny_bind (wpAny_mono (hq _ (h.objs.size + 1) ⟨keep, Heap.get?_none_of_le (Nat.le_succ _), h.objs.size, hget, Heap.get?_none_of_le (Nat.le_refl _), ?_⟩) (fun r s' hr => ?_) fun _ _ x => x))
  · exact Heap.get?_push_of_some _ (Heap.get?_push_at rfl rfl)
  · obtain ⟨rfl, hQ⟩ := hr
    wp_walk
    exact hQ

theorem call_excO (T : TailIs bm) {rest : List Value} {fI : PySem.Addr} {Q : Value → Shared → Prop}
    (hC : h.get? C = some (excClassObj nm q C N bs bm hdct sn sub ab col dd k0 k1 k2 k3 k5 "Exception.__new__"))
    (hi : Looks (model prog w) h (typeLookup (.ref C) "__init__") (some (.ref fI))) (hfI : Looks (model prog w) h (typeOf (.ref fI)) (.type "function"))
    (hq : ∀ h' e, Heap.MadeExcOf h h' e (.ref C) rest →
      wpAny (model prog w) (A.under (.builtin "type.__call__" ⟨.ref C :: rest, []⟩)) (call (.ref fI) (.ref e :: rest)) (fun r s' => r = .none ∧ Q (.ref e) s') E ⟨h', g, d, t, os⟩) (hrest : rest.length ≤ sizeLine) :
    wpAny (model prog w) A (call (.ref C) rest) Q E ⟨h, g, d, t, os⟩ := by
  have f1 := tc_lookup
  have f2 := tc_bind (.ref C)
  have hT : (⟨h, g, d, t, os⟩ : Shared).TypeIs (.ref C) "type" := ⟨_, hC, rfl⟩
  refine wpAny_call (codeAny_of_tree ?_)
  show wpAny _ _ (callAny (.ref C) _) _ _ _
  repeat (any_goals (first | assumption | with_reducible refine wpAny_loadPart_at hC ?_ | wp_step))
  refine ⟨rfl, ?_⟩
  refine codeAny_call_builtin_at (Code.quiet_builtin _ (by decide +kernel)) entry_typeCall (wpAny_check_type_call_sub hC (type_callO T hC hi hfI (fun h' e hm => ?_) hrest))
  exact hq h' e hm

/-- the raise of an own exception that a call makes -/
theorem raise_instO {M : Model} {env : Env} {s : Shared} {x : Sem Value} {Q : Flow → Shared → Prop} (T : TailIs bm) (hh : A.handled = none)
    (hx : wpAny M A x (fun v s₁ => ∃ e ob tp, v = .ref e ∧ s₁.heap.get? C = some (excClassObj nm q C N bs bm hdct sn sub ab col dd k0 k1 k2 k3 k5 "Exception.__new__") ∧
      s₁.heap.get? e = some ob ∧ ob.cls = .ref C ∧ ob.data = .fields #[.ref tp, .none, .none, .none, .bool false, .none] ∧ E (.ref e) s₁) E s) :
    wpAny M A (raiseStmt env (some x) none) Q E s := by
  have hcB : (Value.ref C :: bm).contains (.type "BaseException") = true := by rw [List.contains_cons, T.base, Bool.or_true]
  unfold raiseStmt
  refine wpAny_bind (wpAny_mono hx (fun v s₁ h₁ => ?_) fun _ _ x => x)
  obtain ⟨e, ob, tp, rfl, hC, he, hc, hd, hE⟩ := h₁
  obtain ⟨hp, g, d, tk, os⟩ := s₁
  obtain ⟨oc, od, oda, osl⟩ := ob
  dsimp only at hc hd
  subst hc hd
  repeat (first | with_reducible refine wpAny_loadPart_at he ?_ | with_reducible refine wpAny_loadPart_at hC ?_ | (with_reducible refine wpAny_isSubtype_exc hC ?_; rw [hcB]) | wp_step)
  exact wpAny_raiseNew_none hh hE
end
end Mine

namespace Mine
open PySem PySem.W PyProof.Rows PySem.Calls PySem.Spec
set_option maxRecDepth 100000
theorem typeOf_Exception : typeOf (.type "Exception") = pure (.type "type") := by
  show pure (Value.type ((Manifest.find? "Exception").elim "type" fun x => x.metatype)) = _
  rw [show ((Manifest.find? "Exception").elim "type" fun x => x.metatype) = "type" from by decide +kernel]
section
variable {h : Heap} {g : Array GenState} {d : Drawn} {t : Nat} {os : OsState}
variable {nm q : PySem.Str} {C N : PySem.Addr} {bs bm : List Value} {hdct : Bool} {sn : List PySem.Str} {sub : List Value} {ab : Bool} {col : Option Bool} {dd : Option PySem.Addr} {k0 k1 k2 k3 k5 : Option Value} {nid : String}
theorem check_initO {M : Model} {A : Around} {E : Value → Shared → Prop} {e : PySem.Addr} {oe : Obj} {rest : List Value} {Q : Unit → Shared → Prop} (T : TailIs bm)
    (hC : h.get? C = some (excClassObj nm q C N bs bm hdct sn sub ab col dd k0 k1 k2 k3 k5 nid)) (he : h.get? e = some oe) (hcls : oe.cls = .ref C) (hq : Q () ⟨h, g, d, t, os⟩) :
    wpAny M A (checkBuiltinCall "Exception.__init__" ⟨.ref e :: rest, []⟩) Q E ⟨h, g, d, t, os⟩ := by
  have F := PySem.F.excBase_Exception
  have hcB : (Value.ref C :: bm).contains (.type "Exception") = true := by rw [List.contains_cons, T.exc, Bool.or_true]
  have hshort := F.noStar
  simp only [checkBuiltinCall, F.initKind, F.initSplit, F.initRow]
  repeat (first | (with_reducible refine wpAny_loadPart_at he ?_; rw [hcls]) | with_reducible refine wpAny_loadPart_at hC ?_ | (with_reducible refine wpAny_isSubtype_exc hC ?_; rw [hcB]) | wp_step)
  refine wpAny_onRaise ?_
  rw [show ∀ (a b : String) (n : Nat), Bind.check ⟨.positional, "*", "Exception", .self, [⟨"args", .varPos, false⟩]⟩ a b n (List.map (fun x => x.fst) ({ pos := Value.ref e :: rest } : Args).kw) = pure () from
    fun a b n => check_star_args _ _ _ _ _ _]
  exact wpAny_pure hq
end

abbrev exObj (C : PySem.Addr) (od : Option PySem.Addr) (t : PySem.Addr) : Obj := { cls := .ref C, dict := od, data := .fields #[.ref t, .none, .none, .none, .bool false, .none] }
theorem exc_init_call {prog : Program} {w : World} {A : Around} {s : Shared} {h₀ : Heap} {L e t C : PySem.Addr} {m : PySem.Str → Option Value} {od : Option PySem.Addr} {a : Value} {Q E : Value → Shared → Prop}
    {nm q : PySem.Str} {Nn : PySem.Addr} {bs bm : List Value} {hdct : Bool} {sn : List PySem.Str} {sub : List Value} {ab : Bool} {col : Option Bool} {dd : Option PySem.Addr} {k0 k1 k2 k3 k5 : Option Value} {nid : String}
    (F : Fr h₀ L s.heap m) (N : News h₀ L s.heap [(e, exObj C od t)]) (T : TailIs bm) (hC : h₀.get? C = some (excClassObj nm q C Nn bs bm hdct sn sub ab col dd k0 k1 k2 k3 k5 nid))
    (h : ∀ h' tp, Fr h₀ L h' m → News h₀ L h' [(e, exObj C od tp)] → Q .none { s with heap := h' }) :
    wpAny (model prog w) A (call (.builtin "Exception.__init__") [.ref e, a]) Q E s := by
  have FB := PySem.F.excBase_Exception
  obtain ⟨hh, g, d, tk, os⟩ := s
  refine wpAny_call (codeAny_call_builtin FB.init.plain FB.initEntry (check_initO T (F.keep _ _ hC) (N _ (List.Mem.head _)).1 rfl ?_))
  have he := (N (e, exObj C od t) (by simp)).1
  unfold Builtin.«BaseException.__init__»
  wp_walk
  have F₁ := F.push { cls := .type "tuple", data := .seq #[a] }
  have N₁ : News h₀ L (hh.push { cls := .type "tuple", data := .seq #[a] }) [(e, exObj C od t)] := fun p hp => (News.push F N { cls := .type "tuple", data := .seq #[a] }) p (List.mem_cons_of_mem _ hp)
  obtain ⟨U1, U2⟩ := news_upd (pre := []) (post := []) (d := e) (o' := exObj C od hh.objs.size) (f := Obj.mapFields fun x => x.setIfInBounds 0 (.ref hh.objs.size)) F₁ N₁ (fun _ h => nomatch h) (fun _ h => nomatch h) rfl rfl
  exact h _ _ U1 U2
end Mine

namespace Mine
open PySem PySem.W PyProof.Rows PySem.Calls PySem.Spec Builtin.ObjectAttr
set_option maxRecDepth 100000
section
variable {prog : Program} {w : World} {A : Around} {E : Value → Shared → Prop} {s : Shared} {K : Frag} {x C L dx : PySem.Addr} {h₀ : Heap} {m : PySem.Str → Option Value} {name : PySem.Str} {tk : Tok} {v : Value}

theorem store_in_dict {pre post : List (PySem.Addr × Obj)} {es : List DictEntry} {n : Nat} {Q : PySem.Fin → Shared → Prop} (F : Fr h₀ L s.heap m) (N : News h₀ L s.heap (pre ++ (dx, dictOf es n) :: post))
    (h1 : ∀ p ∈ pre, p.1 ≠ dx) (h2 : ∀ p ∈ post, p.1 ≠ dx) (hl : (getL name es).isSome = true) (hz : (putL name (PyData.keyHash w.params name) (.str name s.toks) v es).length ≤ 1000)
    (h : ∀ h', Fr h₀ L h' m → News h₀ L h' (pre ++ (dx, dictOf (putL name (PyData.keyHash w.params name) (.str name s.toks) v es) (putN name es n)) :: post) → Q (.done (.ret .none)) { s with heap := h', toks := s.toks + 1 }) :
    wpAny (model prog w) A (storeInDict dx (.str name tk) name v) Q E s := by
  obtain ⟨U1, U2⟩ := news_upd (f := Obj.putName name (PyData.keyHash w.params name) (.str name s.toks) v) F N h1 h2 (putName_dict ..) rfl
  have D := (N (dx, dictOf es n) (by simp)).1
  have D' := (U2 (dx, dictOf (putL name (PyData.keyHash w.params name) (.str name s.toks) v es) (putN name es n)) (by simp)).1
  refine wpAny_bind (wpAny_pure (wpAny_bind ?_))
  unfold nsSet
  refine wpAny_bind (wpAny_bind (wpAny_askSetting (wpAny_pure (wpAny_bind (wpAny_mkText (wpAny_bind (wpAny_loadPart D ?_)))))))
  unfold getL at hl
  have c : (!es.any (·.key.isStr name) && es.any (·.refKey)) = false := by
    split at hl
    · rename_i en he
      rw [List.any_eq_true.mpr ⟨en, List.mem_of_find?_eq_some he, List.find?_some he⟩]; rfl
    · split at hl
      · cases hl
      · rename_i z; rw [Bool.not_eq_true] at z; rw [z, Bool.and_false]
  dsimp only
  rw [aRefKeyMayBeTheName_at, List.any_toArray, List.any_toArray, c]
  refine wpAny_updatePart D ?_
  refine wpAny_bind (wpAny_lookBehind D' (by exact pastItsLine_dict (by rw [List.size_toArray, sizeLine_eq]; omega)) ?_)
  exact wpAny_pure (h _ U1 U2)

theorem store_exc0 {t : PySem.Addr} {cd : ClassData} {b : Bool} {Q : PySem.Fin → Shared → Prop} (F : Fr h₀ L s.heap m) (N : News h₀ L s.heap [(x, exObj C none t)]) (X : K.In s.heap) (hc : clsIn K C = some cd) (hd : cd.hasDict = true)
    (h : ∀ h' dx tk', Fr h₀ L h' m → x ≠ dx → News h₀ L h' [(x, exObj C (some dx) t), (dx, dictOf [⟨PyData.keyHash w.params name, .str name tk', v⟩] 1)] → Q (.done (.ret .none)) { s with heap := h', toks := s.toks + 1 }) :
    wpAny (model prog w) A (storeInOwnDict (.ref x) (.ref C) (.str name tk) name v b) Q E s := by
  have hx := (N _ (List.Mem.head _)).1
  have N₁ := News.push F N emptyDict
  have F₁ := F.push emptyDict
  have ne : x ≠ s.heap.objs.size := Nat.ne_of_lt (Heap.lt_size hx)
  obtain ⟨F₂, N₂⟩ := news_upd (pre := [(s.heap.objs.size, emptyDict)]) (post := []) (d := x) (o' := exObj C (some s.heap.objs.size) t) (f := fun o => { o with dict := some s.heap.objs.size }) F₁ N₁ (fun p hp => by rw [List.mem_singleton.mp hp]; exact Ne.symm ne) (fun _ h => nomatch h) rfl rfl
  have N₃ : News h₀ L ((s.heap.push emptyDict).update x fun o => { o with dict := some s.heap.objs.size }) ([(x, exObj C (some s.heap.objs.size) t)] ++ (s.heap.objs.size, dictOf [] 0) :: []) := fun p hp => N₂ p (by
    rcases List.mem_cons.mp hp with rfl | hp
    · exact List.Mem.tail _ (List.Mem.head _)
    · rcases List.mem_cons.mp hp with rfl | hp
      · exact List.Mem.head _
      · cases hp)
  unfold storeInOwnDict
  refine wpAny_bind (wpAny_pure ?_)
  refine wpAny_bind ?_
  show wpAny _ _ (instanceDict x true) _ _ _
  unfold instanceDict
  refine wpAny_bind (wpAny_loadPart hx ?_)
  refine wpAny_bind ((looks_clsIn X hc).here ?_)
  rw [hd]
  refine wpAny_bind (wpAny_alloc ?_)
  refine wpAny_bind (wpAny_update (o := exObj C none t) (Heap.get?_push_of_some _ hx) ?_)
  refine wpAny_pure (a := some s.heap.objs.size) ?_
  refine store_in_dict (s := { s with heap := _ }) F₂ N₃ (fun p hp => by rw [List.mem_singleton.mp hp]; exact ne) (fun _ h => nomatch h) rfl (Nat.le_of_ble_eq_true rfl) fun h' F' N' => ?_
  exact h h' _ _ F' ne N'

theorem store_exc1 {t : PySem.Addr} {es : List DictEntry} {n : Nat} {cd : ClassData} {b : Bool} {Q : PySem.Fin → Shared → Prop} (F : Fr h₀ L s.heap m) (N : News h₀ L s.heap [(x, exObj C (some dx) t), (dx, dictOf es n)]) (ne : x ≠ dx) (X : K.In s.heap) (hc : clsIn K C = some cd) (hd : cd.hasDict = true)
    (hl : (getL name es).isSome = true) (hz : (putL name (PyData.keyHash w.params name) (.str name s.toks) v es).length ≤ 1000)
    (h : ∀ h', Fr h₀ L h' m → News h₀ L h' [(x, exObj C (some dx) t), (dx, dictOf (putL name (PyData.keyHash w.params name) (.str name s.toks) v es) (putN name es n))] → Q (.done (.ret .none)) { s with heap := h', toks := s.toks + 1 }) :
    wpAny (model prog w) A (storeInOwnDict (.ref x) (.ref C) (.str name tk) name v b) Q E s := by
  have hx := (N _ (List.Mem.head _)).1
  unfold storeInOwnDict
  refine wpAny_bind (wpAny_pure ?_)
  refine wpAny_bind ?_
  show wpAny _ _ (instanceDict x true) _ _ _
  unfold instanceDict
  refine wpAny_bind (wpAny_loadPart hx ?_)
  refine wpAny_bind ((looks_clsIn X hc).here ?_)
  rw [hd]
  refine wpAny_pure (a := some dx) ?_
  exact store_in_dict (pre := [(x, exObj C (some dx) t)]) (post := []) F N (fun p hp => by rw [List.mem_singleton.mp hp]; exact ne) (fun _ h => nomatch h) hl hz h

/-- a store into an own exception's field -/
theorem set_exc {od : Option PySem.Addr} {t : PySem.Addr} {cd : ClassData} {Q : Unit → Shared → Prop} (hx : s.heap.get? x = some (exObj C od t)) (X : K.In s.heap) (hc : clsIn K C = some cd) (hm : cd.mro = [.ref C, .ref 46, .type "Exception", .type "BaseException", .type "object"])
    (hs : findIn K (.ref C) "__setattr__" = some (some (.builtin "object.__setattr__"))) (ht : takerIn K C name = some none) (hsub : subIn K (.ref C) (.type "object") = some true)
    (h : ∀ b A, wpAny (model prog w) A (storeInOwnDict (.ref x) (.ref C) (.str name s.toks) name v b) (fun fin s' => ∃ v, fin = .done (.ret v) ∧ Q () s') (fun e s' => E e s') { s with toks := s.toks + 1 }) :
    wpAny (model prog w) A (setAttr (.ref x) name v) Q E s := by
  have SF := PySem.F.store_object
  have I : Looks (model prog w) s.heap (typeOf (.ref x)) (.ref C) := (Looks.ld hx).andThen .now
  have hmr : Looks (model prog w) s.heap (mroOf (.ref C)) cd.mro := (looks_clsIn X hc).andThen .now
  refine wpAny_bind (wpAny_mkText (wpAny_bind (wpAny_bind (wpAny_bind (I _ _ _ _ (fun _ _ e => e) (looks_findIn X hs _ _ _ _ (fun _ _ e => e) (wpAny_holding ?_)))))))
  rw [PySem.F.store_object.slot.bind]
  refine wpAny_bind (wpAny_pure (wpAny_bind (wpAny_call ?_)))
  refine codeAny_call_builtin SF.slot.plain SF.entry (@check_slot (model prog w) _ _ _ "object.__setattr__" "object" "__setattr__" (.ref x) [.str name s.toks, v] [] _ SF.kind SF.split (I.andThen (looks_subIn X hsub)) (SF.args (.ref x) (.str name s.toks) v) ?_)
  obtain ⟨attr, ha, hr⟩ := Option.bind_eq_some_iff.mp ht
  have L3 : Looks (model prog w) s.heap (storeTaker? attr) none := by
    cases attr with
    | none => exact .now
    | some a =>
      obtain ⟨b, hb, hbn⟩ := Option.map_eq_some_iff.mp hr
      cases b with
      | true => cases hbn
      | false => exact (looks_takesIn X hb).andThen .now
  show wpAny _ _ (Builtin.«object.__setattr__» ⟨[.ref x, .str name s.toks, v], []⟩) _ _ _
  rw [osa_eq, refuse_eq]
  have L2 := looks_findIn (M := model prog w) X ha
  obtain ⟨hh, gg, dd, tt, oo⟩ := s
  dsimp only at I hmr L2 L3
  refine wpAny_bind (wpAny_bind (I.at (wpAny_bind (hmr.at ?_))))
  rw [hm, refuseLoop_ref, refuseLoop_ref, PySem.F.store_Exception.passes]
  refine wpAny_pure (wpAny_bind (I.at (wpAny_bind (L2.at (wpAny_bind (L3.at ?_))))))
  refine wpAny_mono (h _ _) (fun fin s' z => ?_) fun _ _ z => z
  obtain ⟨v, rfl, hQ⟩ := z
  exact wpAny_pure (wpAny_pure hQ)
end
end Mine

namespace Mine
open PySem PySem.W PyProof.Rows PySem.Calls PySem.Spec
set_option maxRecDepth 100000
structure OwnExc (w : World) (C : PySem.Addr) : Prop where
  obj : ∃ nm q N bs bm hdct sn sub ab col dd k0 k1 k2 k3 k5, (hd.heap_39 w.params).lookup C = some (excClassObj nm q C N bs bm hdct sn sub ab col dd k0 k1 k2 k3 k5 "Exception.__new__") ∧ TailIs bm
  cls : ∃ cd, clsIn (hd.heap_39 w.params) C = some cd ∧ cd.hasDict = true ∧ cd.mro = [.ref C, .ref 46, .type "Exception", .type "BaseException", .type "object"]
  init : findIn (hd.heap_39 w.params) (.ref C) "__init__" = some (some (.ref 36))
  set : findIn (hd.heap_39 w.params) (.ref C) "__setattr__" = some (some (.builtin "object.__setattr__"))
  what : takerIn (hd.heap_39 w.params) C "what" = some none
  «at» : takerIn (hd.heap_39 w.params) C "at" = some none
  top : subIn (hd.heap_39 w.params) (.ref C) (.type "object") = some true
theorem tail_is : TailIs [.ref 46, .type "Exception", .type "BaseException", .type "object"] := ⟨by decide, by decide, by decide, by decide⟩
theorem own_59 (w : World) : OwnExc w 59 where
  obj := ⟨_, _, _, _, _, _, _, _, _, _, _, _, _, _, _, _, by k_is, tail_is⟩
  cls := ⟨_, by k_is, rfl, rfl⟩
  init := by k_is
  set := by k_is
  what := by k_is
  «at» := by k_is
  top := by k_is
theorem own_71 (w : World) : OwnExc w 71 where
  obj := ⟨_, _, _, _, _, _, _, _, _, _, _, _, _, _, _, _, by k_is, tail_is⟩
  cls := ⟨_, by k_is, rfl, rfl⟩
  init := by k_is
  set := by k_is
  what := by k_is
  «at» := by k_is
  top := by k_is
section
variable {prog : Program} {w : World} {A : Around} {s : Shared} {h : Heap}
  {K : Frag} {p : Program} {loose : List PySem.Str} {mean : ExcName → Option Value} {mg mb : PySem.Str → Option Value}
/-- a def is entered upon a ground that lacks what was just made -/
theorem enterN {R : Result → Shared → Prop} {name qual : PySem.Str} {params : Arguments} {body : List Stmt} {scope : PySem.Scope} {dV kV doc pm cdv ct oc : Value} {an od : Option PySem.Addr} {osl : Array (Option Value)} {f : PySem.Addr} {args : Args}
    {binds : List (PySem.Str × Value)} (news : List (PySem.Addr × Obj))
    (S : h.StaysIn s.heap) (N : ∀ q ∈ news, s.heap.get? q.1 = some q.2 ∧ h.get? q.1 = none) (X₀ : K.In h) (T : Top p loose mean mg mb h)
    (ho : K.lookup f = some ⟨oc, od, .func (fnOf name qual params body scope dV kV doc pm an cdv ct), osl⟩) (hcd : codeIn K cdv qual = true) (hroom : A.depth < recursionLimit)
    (hbind : BindsTo s (fnOf name qual params body scope dV kV doc pm an cdv ct) args binds) (hloc : ∀ y ∈ binds, scope.names.lookup y.1 = some .local)
    (hh : ∀ g L' h₁, (∀ b o, s.heap.get? b = some o → b ∉ news.map (·.1) → g.get? b = some o) → Fr g L' h₁ (fun y => binds.reverse.lookup y) → News g L' h₁ news → K.In g → Top p loose mean mg mb g →
      wpAny (model prog w) (A.deeper (envOf qual scope L' f cdv)) (execs body (envOf qual scope L' f cdv))
        (fun fl s' => R (.ok (.ret (match fl with | .ret v => v | _ => .none))) s')
        (fun e s' => wpAny (model prog w) (A.deeper (envOf qual scope L' f cdv)) (leaving (envOf qual scope L' f cdv) e) (fun _ s'' => R (.error e) s'') (fun e' s'' => R (.error e') s'') s')
        { s with heap := h₁, toks := s.toks + binds.length })
    (hco : scope.isCoroutine = false) (hgen : scope.isGenerator = false) (hk : scope.kind = .function)
    (hcell : ∀ x ∈ scope.names, x.2 ≠ .cell) : codeAny (model prog w) A (.call (.ref f) args) R s := by
  have X := X₀.keeps S
  have nm : ∀ b o, h.get? b = some o → b ∉ news.map (·.1) := fun b o e q => by
    obtain ⟨p, hp, rfl⟩ := List.mem_map.mp q
    rw [(N p hp).2] at e; cases e
  have st : h.StaysIn (hideAll s.heap (news.map (·.1))) := fun b o e => hideAll_get _ (S b o e) (nm b o e)
  refine codeAny_call_def (fd := fnOf name qual params body scope dV kV doc pm an cdv ct) (body := body) (binds := binds) hroom (X _ _ ho) rfl (T.nolimit.keeps S) (codeRec_of X hcd) rfl hbind hcell hloc (fun h₁ hns hk₁ => ?_) hco hgen hk
  exact hh _ s.heap.objs.size h₁ (fun b o e q => hideAll_get _ e q) ⟨hns, fun b o e => hk₁ b o (of_hideAll _ e), Nat.le_of_eq (hideAll_size _ _)⟩
    (fun q hq => ⟨hk₁ _ _ (N q hq).1, Nat.ne_of_lt (Heap.lt_size (N q hq).1), hideAll_none _ (List.mem_map_of_mem hq)⟩) (X₀.keeps st) (T.keeps st)
end
end Mine

namespace Mine
open PySem PySem.W PyProof.Rows PySem.Calls PySem.Spec
set_option maxRecDepth 100000
theorem isStub_Exception : Manifest.isStub "Exception" = false := by decide +kernel
set_option maxHeartbeats 4000000 in
theorem init_excO {prog : Program} {w : World} {A : Around} {s : Shared} {h : Heap} {loose : List PySem.Str} {mean : ExcName → Option Value} {mg mb : PySem.Str → Option Value}
    {C e t : PySem.Addr} {x : PySem.Str} {tk : Tok} {Q E : Value → Shared → Prop} (O : OwnExc w C) (hA : A.depth + 1 < recursionLimit)
    (S : h.StaysIn s.heap) (X₀ : (hd.heap_39 w.params).In h) (T : Top hd.view_39 loose mean mg mb h)
    (he : s.heap.get? e = some (exObj C none t)) (hen : h.get? e = none)
    (hQ : ∀ h' tk' dx tp, h.StaysIn h' → h'.get? e = some (exObj C (some dx) tp) → Q .none { s with heap := h', toks := tk' }) :
    wpAny (model prog w) A (call (.ref 36) [.ref e, .str x tk]) Q E s := by
  w_on
  w_top on
  refine wpAny_call ?_
  k_dflt (refine' enterN [(e, exObj C none t)] S ?kN X₀ T ?k6 ?k7 ?k8 ?k9 ?kB ?_ ?c2 ?c3 ?c4 ?c5)
  case kN =>
    intro q hq
    obtain rfl := List.mem_singleton.mp hq
    exact ⟨he, hen⟩
  case k6 => k_is
  case k7 => k_is
  case k8 => exact Nat.lt_of_succ_lt hA
  case k9 => exact binds_K (X₀.keeps S) rfl (by k_is) rfl rfl rfl
  case kB => exact locs rfl
  case c2 => rfl
  case c3 => rfl
  case c4 => rfl
  case c5 => decide
  intro g L' h₁ keep F N X' T'
  replace F : Fr g L' h₁ (fun y => List.lookup y [(PySem.Str.ofString "at", .none), (PySem.Str.ofString "what", .str x tk), (PySem.Str.ofString "self", .ref e)]) := F
  obtain ⟨nm, q, Nn, bs, bm, hdct, sn, sub, ab, col, dd, k0, k1, k2, k3, k5, hCl, hT⟩ := O.obj
  have hC := X' _ _ hCl
  obtain ⟨cd, hc, hcd, hcm⟩ := O.cls
  have back : ∀ h', Fr g L' h' (fun y => List.lookup y [(PySem.Str.ofString "at", .none), (PySem.Str.ofString "what", .str x tk), (PySem.Str.ofString "self", .ref e)]) → h.StaysIn h' := fun h' F' b o q => F'.keep b o (keep b o (S b o q) (fun hm => by
    obtain rfl := List.mem_singleton.mp hm
    rw [hen] at q; cases q))
  dsimp only
  k_steps
  have hfc : findCls (hd.heap_39 w.params) (.type "Exception") (.type "type") "__init__" = some (.val (.builtin "Exception.__init__")) := by k_dflt k_is
  refine method_type (T := "Exception") (v := .builtin "Exception.__init__") F X' typeOf_Exception isStub_Exception hfc rfl ?_
  k_steps
  refine exc_init_call F N hT hC fun h₂ tp F₂ N₂ => ?_
  clear F N
  dsimp only
  k_steps
  refine set_exc (N₂ _ (List.Mem.head _)).1 (X'.keeps F₂.keep) hc hcm O.set O.what O.top fun b A' => ?_
  refine store_exc0 F₂ N₂ (X'.keeps F₂.keep) hc hcd fun h₃ dx tk₃ F₃ ne N₃ => ⟨_, rfl, ?_⟩
  clear F₂ N₂
  dsimp only
  k_steps
  refine set_exc (N₃ _ (List.Mem.head _)).1 (X'.keeps F₃.keep) hc hcm O.set O.«at» O.top fun b A' => ?_
  refine store_exc1 F₃ N₃ ne (X'.keeps F₃.keep) hc hcd (by with_unfolding_all rfl) (Nat.le_of_ble_eq_true (by with_unfolding_all rfl)) fun h₄ F₄ N₄ => ⟨_, rfl, ?_⟩
  dsimp only
  k_steps
  exact hQ _ _ _ _ (back _ F₄) (N₄ _ (List.Mem.head _)).1
end Mine

namespace Mine
open PySem PySem.W PyProof.Rows PySem.Calls PySem.Spec
set_option maxRecDepth 100000
section
variable {prog : Program} {w : World} {A : Around} {s : Shared} {loose : List PySem.Str} {mean : ExcName → Option Value} {mg mb : PySem.Str → Option Value} {C : PySem.Addr} {x : PySem.Str} {tk : Tok}
theorem make_exc {Q E : Value → Shared → Prop} (O : OwnExc w C) (hA : A.depth + 9 < recursionLimit) (X : (hd.heap_39 w.params).In s.heap) (T : Top hd.view_39 loose mean mg mb s.heap)
    (hQ : ∀ h' tk' e dx tp, s.heap.StaysIn h' → s.heap.get? e = none → h'.get? e = some (exObj C (some dx) tp) → Q (.ref e) { s with heap := h', toks := tk' }) :
    wpAny (model prog w) A (call (.ref C) [.str x tk]) Q E s := by
  obtain ⟨nm, q, Nn, bs, bm, hdct, sn, sub, ab, col, dd, k0, k1, k2, k3, k5, hCl, hT⟩ := O.obj
  obtain ⟨hh, g, d, t, os⟩ := s
  refine call_excO hT (X _ _ hCl) (looks_findIn X O.init) (looks_typeIn X (by k_is)) (fun h' e hm => ?_) (Nat.le_of_ble_eq_true rfl)
  obtain ⟨t', he, ht', -⟩ := hm.there
  refine init_excO O ?_ hm.keeps X T he hm.new fun h'' tk' dx tp S he' => ⟨rfl, hQ _ _ _ _ _ S hm.new he'⟩
  rw [depth_under_make]
  omega

theorem raise_exc {h₀ : Heap} {L a : PySem.Addr} {m : PySem.Str → Option Value} {name : PySem.Str} {scope : PySem.Scope} {cd : Value} {np cpos pos p2 : Pos} {kk : Nat} {z : PySem.Str} {Q : Flow → Shared → Prop} {E : Value → Shared → Prop}
    (F : Fr h₀ L s.heap m) (X : (hd.heap_39 w.params).In h₀) (T : Top hd.view_39 loose mean mg mb h₀) (O : OwnExc w C) (hx : nsIn (hd.heap_39 w.params) mainGlobals x = some (some (.ref C))) (hkp : keepIn (hd.heap_39 w.params) (.ref C) = true)
    (hA : A.depth + 9 < recursionLimit) (hh : A.handled = none) (hk : scope.kind = .function) (hkx : (envOf name scope L a cd).kindOf x = some .globalImplicit) (hd' : (x == ("__debug__" : PySem.Str)) = false)
    (h : ∀ h' e tk', NewO s.heap h' e (.ref C) → E (.ref e) { s with heap := h', toks := tk' }) :
    wpAny (model prog w) A (exec (.Raise (some (.Call (.Name x np) [.Constant (.str z) kk p2] [] cpos)) none pos) (envOf name scope L a cd)) Q E s := by
  obtain ⟨nm, q, Nn, bs, bm, hdct, sn, sub, ab, col, dd, k0, k1, k2, k3, k5, hCl, hT⟩ := O.obj
  rw [arm_exec_Raise]
  refine wpAny_bind (wpAny_standAt ?_)
  simp only [evalOpt, Option.map]
  refine raise_instO (C := C) (nm := nm) (q := q) (N := Nn) (bs := bs) (bm := bm) (hdct := hdct) (sn := sn) (sub := sub) (ab := ab) (col := col) (dd := dd) (k0 := k0) (k1 := k1) (k2 := k2) (k3 := k3) (k5 := k5) hT hh ?_
  refine wpAny_bind ?_
  refine wpAny_Call_ofName (name_K F X (topRead_of T) hx ?_ hk hkx hd')
  refine callWith_K (h₀ := h₀) X hkp ?_
  refine spliced_more ?_
  refine wpAny_Constant_str ?_
  refine spliced_none ⟨X.keeps F.keep, ?_⟩
  refine make_exc (s := { s with toks := s.toks + 1 }) O hA (X.keeps F.keep) (T.keeps F.keep) fun h' tk' e dx tp S hn he => ?_
  refine wpAny_bind (wpAny_standAt (wpAny_pure ?_))
  exact ⟨e, _, tp, rfl, S _ _ (X.keeps F.keep _ _ hCl), he, rfl, rfl, h _ _ _ ⟨S, hn, _, _, he, rfl, rfl⟩⟩
end
end Mine

namespace Mine
open PySem PySem.W PyProof.Rows PySem.Calls PySem.Spec
set_option maxRecDepth 100000
section
variable {prog : Program} {w : World} {A₀ A : Around} {s : Shared} {base h₀ : Heap} {outer : List Env} {L : PySem.Addr} {m : PySem.Str → Option Value} {env : Env}
  {loose : List PySem.Str} {mean : ExcName → Option Value} {mg mb : PySem.Str → Option Value} {n : Nat} {f : PySem.Addr} {vs : List Value} {ok : Heap → Value → Prop} {bad : PySem.Addr → Prop} {news : List (PySem.Addr × Obj)} {Q E : Value → Shared → Prop}
theorem stays_news {h h' : Heap} (S : h.StaysIn h') (N : News h₀ L h news) : News h₀ L h' news := fun p hp => ⟨S _ _ (N p hp).1, (N p hp).2⟩
theorem stays_fr {h h' : Heap} (S : h.StaysIn h') (F : Fr h₀ L h m) : Fr h₀ L h' m := ⟨F.ns.keeps S, fun b o e => S b o (F.keep b o e), F.above⟩
theorem tri_use (C : Tri prog w loose mean mg mb n f vs s.heap ok bad) (B : Below A₀ base outer h₀) (F : Fr h₀ L s.heap m) (X : (hd.heap_39 w.params).In h₀) (T : Top hd.view_39 loose mean mg mb h₀) (N : News h₀ L s.heap news) (hf : env.frame = some L) (hck : env.scope.kind = .function)
    (hA : A.frames = some (env :: outer)) (hh : A.handled = none) (hd : A.depth ≤ 300 + n) (hu : A.units ≤ 100 + 10 * n)
    (ret : ∀ v h' tk', Fr h₀ L h' m → News h₀ L h' news → s.heap.StaysIn h' → ok h' v → Q v { s with heap := h', toks := tk' })
    (rais : ∀ C e h' tk', bad C → RaisedSN base s.heap (env :: outer) e (.ref C) [] h' → s.heap.UpToSlots h' → E (.ref e) { s with heap := h', toks := tk' }) :
    wpAny (model prog w) A (call (.ref f) vs) Q E s :=
  wpAny_le (C env outer A₀ base h₀ L m s Q E rfl B F X T hf hck (fun v h' tk' S o => ret v h' tk' (stays_fr S F) (stays_news S N) S o) rais) hh hd hA.symm rfl hu
end

/-- a place where the walk stands still until it is told how to go on -/
def Stop (P : Prop) : Prop := P
theorem stop_here {P : Prop} (h : Stop P) : P := h
theorem Stop.go {P : Prop} (h : P) : Stop P := h
theorem keep_59 (w : World) : keepIn (hd.heap_39 w.params) (.ref 59) = true := by k_is
theorem keep_71 (w : World) : keepIn (hd.heap_39 w.params) (.ref 71) = true := by k_is
theorem name_59 (w : World) : nsIn (hd.heap_39 w.params) mainGlobals (PySem.Str.ofString "EncodeError") = some (some (.ref 59)) := by k_is
theorem name_71 (w : World) : nsIn (hd.heap_39 w.params) mainGlobals (PySem.Str.ofString "DecodeError") = some (some (.ref 71)) := by k_is
end Mine

namespace Mine
open PySem PySem.W PyProof.Rows PySem.Calls PySem.Spec
set_option maxRecDepth 100000
section
variable {prog : Program} {w : World} {A₀ A : Around} {s : Shared} {base h₀ : Heap} {outer : List Env} {L : PySem.Addr} {m : PySem.Str → Option Value} {env : Env}
  {K : Frag} {p : Program} {loose : List PySem.Str} {mean : ExcName → Option Value} {mg mb : PySem.Str → Option Value}
/-- a def with cells is entered; all that stands is the callee's ground -/
theorem enterC {R : Result → Shared → Prop} {name qual : PySem.Str} {params : Arguments} {body : List Stmt} {scope : PySem.Scope} {dV kV doc pm cdv ct oc : Value} {an od : Option PySem.Addr} {osl : Array (Option Value)} {f : PySem.Addr} {args : Args}
    {binds : List (PySem.Str × Value)}
    (B : Below A₀ base outer h₀) (F : Fr h₀ L s.heap m) (X₀ : K.In h₀) (T : Top p loose mean mg mb h₀) (hf : env.frame = some L) (hck : env.scope.kind = .function) (hA : A.frames = some (env :: outer))
    (ho : K.lookup f = some ⟨oc, od, .func (fnOf name qual params body scope dV kV doc pm an cdv ct), osl⟩) (hcd : codeIn K cdv qual = true) (hroom : A.depth < recursionLimit)
    (hbind : BindsTo s (fnOf name qual params body scope dV kV doc pm an cdv ct) args binds)
    (hkind : (binds.all fun y => scope.names.lookup y.1 == some .local || scope.names.lookup y.1 == some .cell) = true)
    (hnd : ((cellsFrom 0 scope.names []).map (·.1)).Nodup)
    (h : ∀ g L' h₁ tk cells, g = s.heap → Fr g L' h₁ (bindL (envOfC qual scope L' f cdv).kindOf binds fun _ => none) → News g L' h₁ cells →
      CellsAre (bindC (envOfC qual scope L' f cdv).kindOf binds fun _ => none) (cellsFrom (L' + 1) scope.names []) cells → Below A base (env :: outer) g → K.In g → Top p loose mean mg mb g →
      wpAny (model prog w) (A.deeper (envOfC qual scope L' f cdv)) (execs body (envOfC qual scope L' f cdv))
        (fun fl s' => R (.ok (.ret (match fl with | .ret v => v | _ => .none))) s')
        (fun e s' => wpAny (model prog w) (A.deeper (envOfC qual scope L' f cdv)) (leaving (envOfC qual scope L' f cdv) e) (fun _ s'' => R (.error e) s'') (fun e' s'' => R (.error e') s'') s')
        { s with heap := h₁, toks := tk })
    (hco : scope.isCoroutine = false) (hgen : scope.isGenerator = false) (hk : scope.kind = .function) : codeAny (model prog w) A (.call (.ref f) args) R s := by
  have X := X₀.keeps F.keep
  have B₁ := pushX B F hf hck
  refine codeAny_call_function hroom (X _ _ ho) rfl hco hgen rfl (codeRec_of X hcd) (hbind _ _ _ _ ?_)
  refine wpAny_newFunctionEnv_cells hk (kindsX hkind _) fun env' he s' x => ?_
  subst he
  refine ⟨(T.nolimit.keeps F.keep).keeps x.toInCall.keep, codeAny_func ?_⟩
  obtain ⟨h₁, tk, rfl, _⟩ := x.done
  obtain ⟨cells, NC, Y⟩ := Cl.news (h₀ := s.heap) (Nat.le_refl _) fun n c hm => ⟨x.cell n c (lookup_of_mem_nodup (cellsFrom_names scope.names 0 (s.heap.objs.size + 1) [] [] rfl ▸ hnd) hm), x.above n c hm⟩
  exact h _ s.heap.objs.size h₁ tk cells rfl ⟨x.toInCall.ns, x.toInCall.keep, Nat.le_refl _⟩ NC Y ⟨hA, B₁.stays, B₁.frames⟩ X (T.keeps F.keep)
end
end Mine

namespace Mine
open PySem PySem.W PyProof.Rows PySem.Calls PySem.Spec
set_option maxRecDepth 100000
/-- the contract of a call that may turn the slots of the frames below it -/
def TriT (prog : Program) (w : World) (loose : List PySem.Str) (mean : ExcName → Option Value) (mg mb : PySem.Str → Option Value) (n : Nat) (f : PySem.Addr) (vs : List Value) (H : Heap)
    (ok : Heap → Value → Prop) : Prop :=
  ∀ (env : Env) (outer : List Env) (A₀ : Around) (base h₀ : Heap) (L : PySem.Addr) (m : PySem.Str → Option Value) (s : Shared) (Q E : Value → Shared → Prop),
    s.heap = H → Below A₀ base outer h₀ → Fr h₀ L s.heap m → (hd.heap_39 w.params).In h₀ → Top hd.view_39 loose mean mg mb h₀ → env.frame = some L → env.scope.kind = .function →
    (hd.heap_39 w.params).In base → Top hd.view_39 loose mean mg mb base → KtsDicts (outer.filterMap (·.frame)) h₀ →
    (∀ v h₀' h' tk', KtsTurn (outer.filterMap (·.frame)) h₀ h₀' → Fr h₀' L h' m → (∀ b o, H.get? b = some o → b ∉ (env :: outer).filterMap (·.frame) → h'.get? b = some o) →
      Below A₀ base outer h₀' → (hd.heap_39 w.params).In h₀' → Top hd.view_39 loose mean mg mb h₀' → KtsDicts (outer.filterMap (·.frame)) h₀' → ok h' v → Q v { s with heap := h', toks := tk' }) →
    wpAny (model prog w) (lev n env outer) (call (.ref f) vs) Q E s
section
variable {prog : Program} {w : World} {A₀ A : Around} {s : Shared} {base h₀ g₀ H g' h' : Heap} {outer : List Env} {L : PySem.Addr} {m : PySem.Str → Option Value} {env : Env}
  {K : Frag} {p : Program} {loose : List PySem.Str} {mean : ExcName → Option Value} {mg mb : PySem.Str → Option Value} {n : Nat} {f : PySem.Addr} {vs : List Value} {ok : Heap → Value → Prop} {news : List (PySem.Addr × Obj)} {Q E : Value → Shared → Prop}
theorem mem_frames {b : PySem.Addr} (hf : env.frame = some L) (hm : b ∈ (env :: outer).filterMap (·.frame)) : b = L ∨ b ∈ outer.filterMap (·.frame) := by
  obtain ⟨env', he, hf'⟩ := List.mem_filterMap.mp hm
  rcases List.mem_cons.mp he with rfl | he
  · exact .inl (Option.some.inj (hf'.symm.trans hf))
  · exact .inr (List.mem_filterMap.mpr ⟨env', he, hf'⟩)
/-- what stood in the caller's ledger still stands -/
theorem news_turn (B : Below A₀ base outer h₀) (hf : env.frame = some L) (T : KtsTurn (outer.filterMap (·.frame)) h₀ g') (S : ∀ b o, H.get? b = some o → b ∉ (env :: outer).filterMap (·.frame) → h'.get? b = some o)
    (N : News h₀ L H news) : News g' L h' news := fun p hp => by
  refine ⟨S _ _ (N p hp).1 fun hm => ?_, (N p hp).2.1, T.none_ _ (N p hp).2.2⟩
  rcases mem_frames hf hm with z | z
  · exact (N p hp).2.1 z
  · obtain ⟨_, o, ho, _⟩ := B.frames.mem z
    rw [(N p hp).2.2] at ho; cases ho
theorem trit_use (C : TriT prog w loose mean mg mb n f vs s.heap ok) (B : Below A₀ base outer h₀) (F : Fr h₀ L s.heap m) (X : (hd.heap_39 w.params).In h₀) (T : Top hd.view_39 loose mean mg mb h₀) (N : News h₀ L s.heap news)
    (XB : (hd.heap_39 w.params).In base) (TB : Top hd.view_39 loose mean mg mb base) (D : KtsDicts (outer.filterMap (·.frame)) h₀) (hf : env.frame = some L) (hck : env.scope.kind = .function)
    (hA : A.frames = some (env :: outer)) (hh : A.handled = none) (hdp : A.depth ≤ 300 + n) (hu : A.units ≤ 100 + 10 * n)
    (ret : ∀ v h₀' h' tk', KtsTurn (outer.filterMap (·.frame)) h₀ h₀' → Fr h₀' L h' m → News h₀' L h' news → (∀ b o, s.heap.get? b = some o → b ∉ (env :: outer).filterMap (·.frame) → h'.get? b = some o) →
      Below A₀ base outer h₀' → (hd.heap_39 w.params).In h₀' → Top hd.view_39 loose mean mg mb h₀' → KtsDicts (outer.filterMap (·.frame)) h₀' → ok h' v → Q v { s with heap := h', toks := tk' }) :
    wpAny (model prog w) A (call (.ref f) vs) Q E s :=
  wpAny_le (C env outer A₀ base h₀ L m s Q E rfl B F X T hf hck XB TB D (fun v h₀' h' tk' T' F' S B' X' P' D' o => ret v h₀' h' tk' T' F' (news_turn B hf T' S N) S B' X' P' D' o)) hh hdp hA.symm rfl hu
/-- a callee's turned ground, seen from its caller -/
theorem back_turn (B : Below A₀ base outer h₀) (F : Fr h₀ L H m) (hf : env.frame = some L) (T' : KtsTurn ((env :: outer).filterMap (·.frame)) H g') (S : ∀ b o, g'.get? b = some o → h'.get? b = some o)
    (XB : K.In base) (TB : Top p loose mean mg mb base) (D : KtsDicts (outer.filterMap (·.frame)) h₀) :
    ∃ h₀', KtsTurn (outer.filterMap (·.frame)) h₀ h₀' ∧ Fr h₀' L h' m ∧ (∀ b o, H.get? b = some o → b ∉ (env :: outer).filterMap (·.frame) → h'.get? b = some o) ∧ Below A₀ base outer h₀' ∧ K.In h₀' ∧ Top p loose mean mg mb h₀' ∧ KtsDicts (outer.filterMap (·.frame)) h₀' := by
  have nL₀ : h₀.get? L = none := kts_self F
  obtain ⟨oL, es, ep, hLg, hLd, hLk, hLf⟩ := F.ns
  obtain ⟨sl, hs⟩ := T'.up hLg
  obtain ⟨T₁, S₁⟩ := kts_turn_at (h := h') (fs := outer.filterMap (·.frame)) (g := h₀)
    (fun b hb => by
      obtain ⟨_, o, ho', _⟩ := B.frames.mem hb
      exact ⟨o, ho'⟩)
    (fun b o e nmem => S b o (T'.other b o (F.keep b o e) (fun q => by
      rcases mem_frames hf q with z | z
      · rw [z, nL₀] at e
        cases e
      · exact nmem z)))
    (fun b o e hm => by
      obtain ⟨sl', hs'⟩ := T'.up (F.keep b o e)
      exact ⟨sl', S _ _ hs'⟩)
  have B₃ : Below A₀ base outer (ktsHeap h' (outer.filterMap (·.frame)) h₀) := ⟨B.stack, fun b o e => T₁.other b o (B.stays b o e) (fun hm => by
    rw [(B.frames.mem hm).1] at e
    cases e), B.frames.of_keeps fun b o e _ => by
    obtain ⟨sl', hs'⟩ := T₁.up e
    exact ⟨_, hs', rfl⟩⟩
  exact ⟨_, T₁, ⟨⟨_, es, ep, S _ _ hs, hLd, hLk, hLf⟩, S₁, by rw [T₁.size]; exact F.above⟩, fun b o e nm => S _ _ (T'.other b o e nm), B₃, XB.keeps B₃.stays, TB.keeps B₃.stays, D.turn T₁⟩
theorem dicts_push (F : Fr h₀ L H m) (hf : env.frame = some L) (D : KtsDicts (outer.filterMap (·.frame)) h₀) : KtsDicts ((env :: outer).filterMap (·.frame)) H := fun b hb => by
  rcases mem_frames hf hb with rfl | hb
  · obtain ⟨oL, es, ep, hLg, hLd, _⟩ := F.ns
    exact ⟨oL, es, ep, hLg, hLd⟩
  · obtain ⟨o, es', n', ho', hd'⟩ := D b hb
    exact ⟨o, es', n', F.keep b o ho', hd'⟩
/-- the same, where nothing was turned -/
theorem back_still (B : Below A₀ base outer h₀) (F : Fr h₀ L H m) (S : H.StaysIn h') (X : K.In h₀) (T : Top p loose mean mg mb h₀) (D : KtsDicts (outer.filterMap (·.frame)) h₀) :
    ∃ h₀', KtsTurn (outer.filterMap (·.frame)) h₀ h₀' ∧ Fr h₀' L h' m ∧ (∀ b o, H.get? b = some o → b ∉ (env :: outer).filterMap (·.frame) → h'.get? b = some o) ∧ Below A₀ base outer h₀' ∧ K.In h₀' ∧ Top p loose mean mg mb h₀' ∧ KtsDicts (outer.filterMap (·.frame)) h₀' :=
  ⟨h₀, KtsTurn.refl, stays_fr S F, fun b o e _ => S b o e, B, X, T, D⟩
end
end Mine

namespace Mine
open PySem PySem.W PyProof.Rows PySem.Calls PySem.Spec
set_option maxRecDepth 100000
local macro_rules | `(tactic| walk_at "call ref") => `(tactic| refine stop_here ?_)
set_option maxHeartbeats 4000000 in
theorem lread_trit {prog : Program} {w : World} {loose : List PySem.Str} {mean : ExcName → Option Value} {mg mb : PySem.Str → Option Value} {H : Heap} {f : PySem.Addr} {va vb : Value} {okf : Heap → Heap → Value → Prop} {bad : PySem.Addr → Prop}
    (C : ∀ H', Tri prog w loose mean mg mb 30 f [va, vb] H' (okf H') bad) (hbad : ∀ C, bad C → C = 71) (hkf : keepIn (hd.heap_39 w.params) (.ref f) = true) :
    TriT prog w loose mean mg mb 20 179 [.ref f, va, vb] H (fun h' v => (∃ H', H.StaysIn H' ∧ okf H' h' v) ∨ (v = .none ∧ ∃ C, bad C)) := by
  intro env outer A₀ base h₀ L m s Q E hs B F X T hfr hck XB TB D hret
  w_on
  w_top on
  obtain ⟨hh, gens, dr, tk, os⟩ := s
  dsimp only at hs
  subst hs
  refine wpAny_call ?_
  k_dflt (refine' enter B F X T hfr hck ?kA ?k6 ?k7 ?k8 ?k9 ?kB ?_ ?c2 ?c3 ?c4 ?c5)
  case kA => rfl
  case k6 => k_is
  case k7 => k_is
  case k8 => exact Nat.le_of_ble_eq_true rfl
  case k9 => exact BindsTo.of_eq rfl
  case kB => exact locs rfl
  case c2 => rfl
  case c3 => rfl
  case c4 => rfl
  case c5 => decide
  intro g L' h₁ hgg F' N' B' X' T'
  dsimp only at hgg
  subst hgg
  have D' := dicts_push F hfr D
  replace D' : KtsDicts (List.filterMap (fun x => x.frame) (env :: outer)) g := D'
  replace F' : Fr g L' h₁ (fun y => List.lookup y [(PySem.Str.ofString "at", vb), (PySem.Str.ofString "octets", va), (PySem.Str.ofString "work", .ref f)]) := F'
  dsimp only
  k_steps
  refine callWith_K (h₀ := g) X' hkf ?_
  k_steps
  refine Stop.go ?_
  rename Fr g L' _ _ => FX
  rename News g L' _ _ => NX
  have st := FX.keep
  refine tri_use (C _) B' FX X' T' NX rfl rfl rfl rfl (Nat.le_of_ble_eq_true rfl) (Nat.le_of_ble_eq_true rfl) (fun v h' tk' F₃ N₃ S o => ?_) (fun C e h' tk' hb R UT => ?_)
  · dsimp only
    k_steps
    try dsimp only
    obtain ⟨_, T1, F1, S1, B1, X1, P1, D1⟩ := back_still (env := env) B F (Fr.keep F₃) X T D
    exact hret _ _ _ _ T1 F1 S1 B1 X1 P1 D1 (.inl ⟨_, st, o⟩)
  · have hb' := hb
    obtain rfl := hbad _ hb
    dsimp only
    k_steps
    try dsimp only
    rename KtsTurn _ g _ => TT
    rename Fr _ L' _ _ => FZ
    obtain ⟨_, T1, F1, S1, B1, X1, P1, D1⟩ := back_turn B F hfr TT (Fr.keep FZ) XB TB D
    exact hret _ _ _ _ T1 F1 S1 B1 X1 P1 D1 (.inr ⟨rfl, _, hb'⟩)
set_option maxHeartbeats 4000000 in
theorem lwritten_trit {prog : Program} {w : World} {loose : List PySem.Str} {mean : ExcName → Option Value} {mg mb : PySem.Str → Option Value} {H : Heap} {f : PySem.Addr} {va : Value} {okf : Heap → Heap → Value → Prop} {bad : PySem.Addr → Prop}
    (C : ∀ H', Tri prog w loose mean mg mb 50 f [va] H' (okf H') bad) (hbad : ∀ C, bad C → C = 59) (hkf : keepIn (hd.heap_39 w.params) (.ref f) = true) :
    TriT prog w loose mean mg mb 20 172 [.ref f, va] H (fun h' v => (∃ H', H.StaysIn H' ∧ okf H' h' v) ∨ (v = .none ∧ ∃ C, bad C)) := by
  intro env outer A₀ base h₀ L m s Q E hs B F X T hfr hck XB TB D hret
  w_on
  w_top on
  obtain ⟨hh, gens, dr, tk, os⟩ := s
  dsimp only at hs
  subst hs
  refine wpAny_call ?_
  k_dflt (refine' enter B F X T hfr hck ?kA ?k6 ?k7 ?k8 ?k9 ?kB ?_ ?c2 ?c3 ?c4 ?c5)
  case kA => rfl
  case k6 => k_is
  case k7 => k_is
  case k8 => exact Nat.le_of_ble_eq_true rfl
  case k9 => exact BindsTo.of_eq rfl
  case kB => exact locs rfl
  case c2 => rfl
  case c3 => rfl
  case c4 => rfl
  case c5 => decide
  intro g L' h₁ hgg F' N' B' X' T'
  dsimp only at hgg
  subst hgg
  have D' := dicts_push F hfr D
  replace D' : KtsDicts (List.filterMap (fun x => x.frame) (env :: outer)) g := D'
  replace F' : Fr g L' h₁ (fun y => List.lookup y [(PySem.Str.ofString "worth", va), (PySem.Str.ofString "work", .ref f)]) := F'
  dsimp only
  k_steps
  refine callWith_K (h₀ := g) X' hkf ?_
  k_steps
  refine Stop.go ?_
  rename Fr g L' _ _ => FX
  rename News g L' _ _ => NX
  have st := FX.keep
  refine tri_use (C _) B' FX X' T' NX rfl rfl rfl rfl (Nat.le_of_ble_eq_true rfl) (Nat.le_of_ble_eq_true rfl) (fun v h' tk' F₃ N₃ S o => ?_) (fun C e h' tk' hb R UT => ?_)
  · dsimp only
    k_steps
    try dsimp only
    obtain ⟨_, T1, F1, S1, B1, X1, P1, D1⟩ := back_still (env := env) B F (Fr.keep F₃) X T D
    exact hret _ _ _ _ T1 F1 S1 B1 X1 P1 D1 (.inl ⟨_, st, o⟩)
  · have hb' := hb
    obtain rfl := hbad _ hb
    dsimp only
    k_steps
    try dsimp only
    rename KtsTurn _ g _ => TT
    rename Fr _ L' _ _ => FZ
    obtain ⟨_, T1, F1, S1, B1, X1, P1, D1⟩ := back_turn B F hfr TT (Fr.keep FZ) XB TB D
    exact hret _ _ _ _ T1 F1 S1 B1 X1 P1 D1 (.inr ⟨rfl, _, hb'⟩)
end Mine

namespace Mine
open PySem PySem.W PyProof.Rows PySem.Calls PySem.Spec
set_option maxRecDepth 100000
/-- the ground a frame stands on, as it was turned since g -/
structure Gr (w : World) (loose : List PySem.Str) (mean : ExcName → Option Value) (mg mb : PySem.Str → Option Value) (A₀ : Around) (base : Heap) (outer : List Env) (g g' : Heap) : Prop where
  turn : KtsTurn (outer.filterMap (·.frame)) g g'
  below : Below A₀ base outer g'
  ins : (hd.heap_39 w.params).In g'
  top : Top hd.view_39 loose mean mg mb g'
  dicts : KtsDicts (outer.filterMap (·.frame)) g'
section
variable {prog : Program} {w : World} {A₀ A : Around} {s : Shared} {base h₀ g₀ g₁ H g g' h' : Heap} {outer : List Env} {L : PySem.Addr} {m : PySem.Str → Option Value} {env : Env}
  {K : Frag} {p : Program} {loose : List PySem.Str} {mean : ExcName → Option Value} {mg mb : PySem.Str → Option Value} {n : Nat} {f : PySem.Addr} {vs : List Value} {ok : Heap → Value → Prop} {news : List (PySem.Addr × Obj)} {Q E : Value → Shared → Prop}
theorem Gr.isList {l : PySem.Addr} {xs : Array Value} (G : Gr w loose mean mg mb A₀ base outer g g') (hl : g.IsList l xs) : g'.IsList l xs := by
  obtain ⟨o, ho, hc, k, hd⟩ := hl
  refine ⟨o, G.turn.other l o ho fun hm => ?_, hc, k, hd⟩
  obtain ⟨sl, hs⟩ := G.turn.up ho
  obtain ⟨o', es, n', ho', hd'⟩ := G.dicts l hm
  rw [hs] at ho'
  obtain rfl := Option.some.inj ho'
  rw [show o.data = _ from hd'] at hd
  cases hd
theorem stays_none {r : PySem.Addr} (S : H.StaysIn h') (hn : h'.get? r = none) : H.get? r = none := by
  cases e : H.get? r with
  | none => rfl
  | some o => rw [S _ _ e] at hn; cases hn
theorem trit_gr (C : TriT prog w loose mean mg mb n f vs s.heap ok) (G : Gr w loose mean mg mb A₀ base outer g₀ h₀) (F : Fr h₀ L s.heap m) (N : News h₀ L s.heap news)
    (XB : (hd.heap_39 w.params).In base) (TB : Top hd.view_39 loose mean mg mb base) (hf : env.frame = some L) (hck : env.scope.kind = .function)
    (hA : A.frames = some (env :: outer)) (hh : A.handled = none) (hdp : A.depth ≤ 300 + n) (hu : A.units ≤ 100 + 10 * n)
    (ret : ∀ v h₀' h' tk', Gr w loose mean mg mb A₀ base outer g₀ h₀' → Fr h₀' L h' m → News h₀' L h' news → (∀ r o, h'.get? r = some o → s.heap.get? r = none → News h₀' L h' ((r, o) :: news)) → ok h' v → Q v { s with heap := h', toks := tk' }) :
    wpAny (model prog w) A (call (.ref f) vs) Q E s :=
  trit_use C G.below F G.ins G.top N XB TB G.dicts hf hck hA hh hdp hu fun v h₀' h' tk' T' F' N' S B' X' P' D' o =>
    ret v h₀' h' tk' ⟨G.turn.trans T', B', X', P', D'⟩ F' N' (fun r o' hr hn p hp => by
      rcases List.mem_cons.mp hp with rfl | hp
      · refine ⟨hr, fun q => ?_, T'.none_ _ (stays_none F.keep hn)⟩
        obtain ⟨oL, _, _, hL, _⟩ := F.ns
        rw [← q] at hL
        rw [hn] at hL; cases hL
      · exact N' p hp) o
theorem Gr.start (B : Below A₀ base outer g) (X : (hd.heap_39 w.params).In g) (T : Top hd.view_39 loose mean mg mb g) (D : KtsDicts (outer.filterMap (·.frame)) g) : Gr w loose mean mg mb A₀ base outer g g := ⟨KtsTurn.refl, B, X, T, D⟩
end
theorem Tri.weaken {prog : Program} {w : World} {loose : List PySem.Str} {mean : ExcName → Option Value} {mg mb : PySem.Str → Option Value} {n : Nat} {f : PySem.Addr} {vs : List Value} {H : Heap} {ok ok' : Heap → Value → Prop} {bad bad' : PySem.Addr → Prop}
    (C : Tri prog w loose mean mg mb n f vs H ok bad) (h1 : ∀ h v, ok h v → ok' h v) (h2 : ∀ C, bad C → bad' C) : Tri prog w loose mean mg mb n f vs H ok' bad' :=
  fun env outer A₀ base h₀ L m s Q E hs B F X T hfr hck hret hraise => C env outer A₀ base h₀ L m s Q E hs B F X T hfr hck (fun v h' tk' S o => hret v h' tk' S (h1 _ _ o)) fun C e h' tk' hb => hraise C e h' tk' (h2 _ hb)
end Mine

namespace Mine
open PySem PySem.W PyProof.Rows PySem.Calls PySem.Spec
set_option maxRecDepth 100000
/-- the octets of some groups of seven bits -/
def enc (gs : List Int) : List Int := gs.dropLast.map (fun g => 128 + g) ++ [gs.getLast?.getD 0]
theorem enc_length {gs : List Int} (h : 0 < gs.length) : (enc gs).length = gs.length := by
  unfold enc
  simp only [List.length_append, List.length_map, List.length_dropLast, List.length_cons, List.length_nil]
  omega
theorem enc_in {gs : List Int} (hg : ∀ g ∈ gs, 0 ≤ g ∧ g < 128) : ∀ k ∈ enc gs, 0 ≤ k ∧ k < 256 := by
  intro k hk
  unfold enc at hk
  rcases List.mem_append.mp hk with h | h
  · obtain ⟨g, hm, rfl⟩ := List.mem_map.mp h
    have := hg g ((List.dropLast_sublist gs).subset hm)
    omega
  · obtain rfl := List.mem_singleton.mp h
    cases e : gs.getLast? with
    | none => simp
    | some g =>
      have := hg g (List.mem_of_getLast? e)
      simp only [Option.getD_some]
      omega
theorem set_enc {gs : List Int} (h : 0 < gs.length) : (gs.map (fun g => 128 + g)).set (gs.length - 1) (gs.getD (gs.length - 1) 0) = enc gs := by
  have hne : gs ≠ [] := by intro q; subst q; simp at h
  obtain ⟨a, l, rfl⟩ : ∃ a l, gs = l ++ [a] := ⟨gs.getLast hne, gs.dropLast, (List.dropLast_concat_getLast hne).symm⟩
  unfold enc
  simp

section
variable {prog : Program} {w : World} {A : Around} {E : Value → Shared → Prop} {s : Shared} {h₀ : Heap} {L D : PySem.Addr} {m : PySem.Str → Option Value} {vs : List Value} {ns : List Int} {n : Nat} {x : Int} {t u : Tok}
theorem set_last {Q : Unit → Shared → Prop} (F : Fr h₀ L s.heap m) (N : News h₀ L s.heap [(D, listOf vs.toArray n)]) (hi : IntsAre vs ns) (h0 : 0 < ns.length)
    (h : ∀ h' vs' n', Fr h₀ L h' m → News h₀ L h' [(D, listOf vs'.toArray n')] → IntsAre vs' (ns.set (ns.length - 1) x) → Q () { s with heap := h' }) :
    wpAny (model prog w) A (setItem (.ref D) (.int (-1) t) (.int x u)) Q E s := by
  have hl : vs.length = ns.length := hi.length
  have hsz : vs.toArray.size = ns.length := by rw [List.size_toArray]; exact hl
  have z := N _ (List.Mem.head _)
  refine ki_setBack z.1 (by decide) (by omega) (by decide) ?_
  have hj : (-1 + (vs.toArray.size : Int)).toNat = ns.length - 1 := by omega
  rw [hj]
  have e : vs.toArray.setIfInBounds (ns.length - 1) (.int x u) = (vs.set (ns.length - 1) (.int x u)).toArray := by
    apply Array.toList_inj.mp
    simp
  obtain ⟨U1, U2⟩ := news_upd (pre := []) (post := []) (o' := listOf (vs.set (ns.length - 1) (.int x u)).toArray n) F N (fun _ h => nomatch h) (fun _ h => nomatch h) (f := Obj.mapSeq (·.setIfInBounds (ns.length - 1) (.int x u))) (by
    show Obj.mapSeq _ (listOf vs.toArray n) = _
    unfold Obj.mapSeq
    simp [e]) rfl
  exact h _ _ _ U1 U2 (ints_set hi _)
end

local macro_rules | `(tactic| walk_at "exec Raise some none") => `(tactic| (k_here; k_dflt (first
  | (refine' raise_exc ?F ?X ?T (own_59 _) (name_59 _) (keep_59 _) ?hA ?hh ?hk ?hkx ?hd ?_; (case F => k_asm); (case X => k_asm); (case T => k_asm); (case hA => exact Nat.le_of_ble_eq_true rfl); (case hh => exact rfl); (case hk => exact rfl); (case hkx => exact rfl); (case hd => decide); k_whole)
  | (refine' raise_exc ?F ?X ?T (own_71 _) (name_71 _) (keep_71 _) ?hA ?hh ?hk ?hkx ?hd ?_; (case F => k_asm); (case X => k_asm); (case T => k_asm); (case hA => exact Nat.le_of_ble_eq_true rfl); (case hh => exact rfl); (case hk => exact rfl); (case hkx => exact rfl); (case hd => decide); k_whole)); intro h' e' tk' hO'))
local macro_rules | `(tactic| walk_at "leaving ref") => `(tactic| (k_here; (with_reducible rename NewO _ _ _ _ => hO9); (refine' leave_newO ?k1 hO9 ?k2 ?_; (case k1 => assumption); (case k2 => assumption); k_whole); intro h' R' U'))

set_option maxHeartbeats 4000000 in
theorem leb_octets_tri {prog : Program} {w : World} {loose : List PySem.Str} {mean : ExcName → Option Value} {mg mb : PySem.Str → Option Value} {H : Heap} {l : PySem.Addr} {vs : List Value} {gs : List Int}
    (hl : H.IsList l vs.toArray) (hi : IntsAre vs gs) (hg : ∀ g ∈ gs, 0 ≤ g ∧ g < 128) (h0 : 0 < gs.length) (h11 : gs.length ≤ 11) :
    Tri prog w loose mean mg mb 60 99 [.ref l] H (fun _ v => gs.length ≤ 10 ∧ ∃ b t, v = .bytes b t ∧ KBw.bInts b = enc gs) (fun C => C = 59 ∧ 10 < gs.length) := by
  intro env outer A₀ base h₀ L m s Q E hs B F X T hfr hck hret hraise
  w_on
  w_top on
  obtain ⟨hh, gens, dr, tk, os⟩ := s
  dsimp only at hs
  subst hs
  refine wpAny_call ?_
  k_dflt (refine' enter B F X T hfr hck ?kA ?k6 ?k7 ?k8 ?k9 ?kB ?_ ?c2 ?c3 ?c4 ?c5)
  case kA => rfl
  case k6 => k_is
  case k7 => k_is
  case k8 => exact Nat.le_of_ble_eq_true rfl
  case k9 => exact BindsTo.of_eq rfl
  case kB => exact locs rfl
  case c2 => rfl
  case c3 => rfl
  case c4 => rfl
  case c5 => decide
  intro g L' h₁ hgg F' N' B' X' T'
  dsimp only at hgg
  subst hgg
  clear F
  replace F' : Fr g L' h₁ (fun y => List.lookup y [(PySem.Str.ofString "groups", .ref l)]) := F'
  dsimp only
  skip
  k_steps
  · exact hraise _ _ _ _ ⟨rfl, by omega⟩ (by assumption) (by assumption)
  · rename Fr g L' _ _ => FX
    rename News g L' _ [(_, _)] => NX
    rename IntsAre _ (List.map _ _) => iX
    have hlen : 0 < (gs.map (fun g => 128 + g)).length := by simpa using h0
    refine set_last (ns := gs.map (fun g => 128 + g)) FX NX (by rw [filter_tt] at iX; exact iX) hlen fun h' vs' n' F₃ N₃ i₃ => ?_
    have e3 : (-1 + (gs.length : Int)).toNat = gs.length - 1 := by omega
    rw [List.length_map, e3, set_enc h0] at i₃
    clear FX NX iX
    have hin := enc_in hg
    have hle := enc_length h0
    dsimp only
    k_steps
    exact hret _ _ _ (Fr.keep (by assumption)) ⟨by omega, _, _, rfl, KBa.ints_make hin⟩
end Mine

namespace Mine
open PySem PySem.W PyProof.Rows PySem.Calls PySem.Spec
set_option maxRecDepth 100000
/-- the lowest figures to base 128 -/
def digs (x : Int) (n : Nat) : List Int := (List.range n).map fun i => x / 128 ^ i % 128
theorem digs_length (x : Int) (n : Nat) : (digs x n).length = n := by simp [digs]
theorem digs_succ (x : Int) (n : Nat) : digs x (n + 1) = digs x n ++ [x / 128 ^ n % 128] := by simp [digs, List.range_succ]
theorem digs_in (x : Int) (n : Nat) : ∀ g ∈ digs x n, 0 ≤ g ∧ g < 128 := by
  intro g hg
  obtain ⟨i, -, rfl⟩ := List.mem_map.mp hg
  omega
theorem div_pow_succ (x : Int) (n : Nat) : x / 128 ^ n / 128 = x / 128 ^ (n + 1) := by
  rw [Int.ediv_ediv_of_nonneg (Int.le_of_lt (Int.pow_pos (by decide))), ← Int.pow_succ]
theorem sh7 (x : Int) : x.fdiv (2 ^ Int.toNat 7) = x / 128 := by
  show x.fdiv 128 = x / 128
  exact Int.fdiv_eq_ediv_of_nonneg x (by decide)
theorem and7 (x : Int) : Builtin.bitAnd x 127 = x % 128 := bitAnd_m7 x

structure UInv (x : Int) (gs : List Int) (rest : Int) : Prop where
  le : gs.length ≤ 11
  ge : 1 ≤ gs.length
  eq : gs = digs x gs.length
  rest : rest = x / 128 ^ gs.length
  pos : ∀ j, 1 ≤ j → j < gs.length → 0 < x / 128 ^ j
theorem UInv.start (x : Int) : UInv x [Builtin.bitAnd x 127] (x.fdiv (2 ^ Int.toNat 7)) := by
  rw [sh7, and7]
  refine ⟨by simp, by simp, ?_, by simp, fun j h1 h2 => ?_⟩
  · simp [digs]
  · simp at h2; omega
theorem UInv.step {x : Int} {gs : List Int} {rest : Int} (U : UInv x gs rest) (h : 0 < rest) (hl : gs.length ≤ 10) : UInv x (gs ++ [Builtin.bitAnd rest 127]) (rest.fdiv (2 ^ Int.toNat 7)) := by
  rw [sh7, and7]
  have e : (gs ++ [rest % 128]).length = gs.length + 1 := by simp
  refine ⟨by omega, by omega, ?_, ?_, fun j h1 h2 => ?_⟩
  · rw [e, digs_succ, ← U.rest, ← U.eq]
  · rw [e, U.rest, div_pow_succ]
  · by_cases hj : j < gs.length
    · exact U.pos j h1 hj
    · have : j = gs.length := by omega
      rw [this, ← U.rest]; exact h

/-- what uleb writes, and when -/
structure UOut (x : Int) (gs : List Int) : Prop where
  ge : 1 ≤ gs.length
  le : gs.length ≤ 11
  eq : gs = digs x gs.length
  pos : ∀ j, 1 ≤ j → j < gs.length → 0 < x / 128 ^ j
  fin : x / 128 ^ gs.length = 0 ∨ gs.length = 11
theorem UInv.out {x : Int} {gs : List Int} {rest : Int} (U : UInv x gs rest) (h0 : 0 ≤ x) (h : ¬ 0 < rest ∨ ¬ gs.length ≤ 10) : UOut x gs := by
  refine ⟨U.ge, U.le, U.eq, U.pos, ?_⟩
  have := U.rest
  have h1 : 0 ≤ x / 128 ^ gs.length := Int.ediv_nonneg h0 (Int.le_of_lt (Int.pow_pos (by decide)))
  have := U.le
  omega
theorem div0_iff {x b : Int} (h0 : 0 ≤ x) (hb : 0 < b) : x / b = 0 ↔ x < b := by
  constructor
  · intro h
    have := Int.lt_ediv_add_one_mul_self x hb
    rw [h] at this; simpa using this
  · intro h; exact Int.ediv_eq_zero_of_lt h0 h
theorem UOut.big {x : Int} {gs : List Int} (U : UOut x gs) (h0 : 0 ≤ x) : gs.length = 11 ↔ 128 ^ 10 ≤ x := by
  constructor
  · intro h
    have h1 := U.pos 10 (by decide) (by omega)
    have hb : (0 : Int) < 128 ^ 10 := by decide
    by_cases hx : x < 128 ^ 10
    · rw [(div0_iff h0 hb).mpr hx] at h1; omega
    · omega
  · intro h
    rcases U.fin with h1 | h1
    · have hb : (0 : Int) < 128 ^ gs.length := Int.pow_pos (by decide)
      have hx := (div0_iff h0 hb).mp h1
      by_cases hl : gs.length = 11
      · exact hl
      · exfalso
        have hle : gs.length ≤ 10 := by have := U.le; omega
        have : (128 : Int) ^ gs.length ≤ 128 ^ 10 := by
          have hn : (128 : Nat) ^ gs.length ≤ 128 ^ 10 := Nat.pow_le_pow_right (by decide) hle
          exact_mod_cast hn
        omega
    · exact h1
end Mine

namespace Mine
open PySem PySem.W PyProof.Rows PySem.Calls PySem.Spec
set_option maxRecDepth 100000
/-- a frame's names, some of them anew -/
def over (m : PySem.Str → Option Value) : List (PySem.Str × Option Value) → PySem.Str → Option Value
  | [] => m
  | p :: r => fun z => if z = p.1 then p.2 else over m r z
theorem over_self {m : PySem.Str → Option Value} : ∀ {ps : List (PySem.Str × Option Value)}, (∀ p ∈ ps, m p.1 = p.2) → over m ps = m
  | [], _ => rfl
  | p :: r, h => by
    funext z
    unfold over
    rw [over_self fun q hq => h q (List.mem_cons_of_mem _ hq)]
    by_cases hz : z = p.1
    · rw [if_pos hz, hz]; exact (h p (List.mem_cons_self ..)).symm
    · rw [if_neg hz]
theorem over_again {m : PySem.Str → Option Value} {y : PySem.Str} {v v' : Value} : (fun z => if z = y then some v' else if z = y then some v else m z) = over m [(y, some v')] := by
  funext z
  show _ = if z = y then some v' else m z
  by_cases hz : z = y
  · rw [if_pos hz, if_pos hz]
  · rw [if_neg hz, if_neg hz, if_neg hz]
section
variable {prog : Program} {w : World} {A : Around} {E : Value → Shared → Prop} {Q : Flow → Shared → Prop} {s : Shared} {env : Env} {h₀ : Heap} {L : PySem.Addr}
/-- the end of a turn of a while that turns one list of ints and some names -/
def GrEnd {τ : Type} (h₀ : Heap) (L : PySem.Addr) (s : Shared) (m₀ : PySem.Str → Option Value) (ys : τ → List (PySem.Str × Option Value)) (l : PySem.Addr) (P : List Int → τ → Prop) (μ : List Int → Nat) (gs : List Int) (s₂ : Shared) : Prop :=
  ∃ (vs' : List Value) (gs' : List Int) (n' : Nat) (c' : τ) (m' : PySem.Str → Option Value) (h' : Heap) (tk' : Nat), s₂ = { s with heap := h', toks := tk' } ∧ Fr h₀ L h' m' ∧ m' = over m₀ (ys c') ∧ News h₀ L h' [(l, listOf vs'.toArray n')] ∧ IntsAre vs' gs' ∧ P gs' c' ∧ μ gs' < μ gs
def GrPost {τ : Type} (h₀ : Heap) (L : PySem.Addr) (s : Shared) (m₀ : PySem.Str → Option Value) (ys : τ → List (PySem.Str × Option Value)) (l : PySem.Addr) (P : List Int → τ → Prop) (μ : List Int → Nat) (Q : Flow → Shared → Prop) (gs : List Int) (f : Flow) (s₂ : Shared) : Prop :=
  match f with
  | .ret v => Q (.ret v) s₂
  | .brk => Q .next s₂
  | _ => GrEnd h₀ L s m₀ ys l P μ gs s₂
theorem while_gr {τ : Type} {test : PySem.Expr} {body : List Stmt} {pos : Pos} {m₀ : PySem.Str → Option Value} {l : PySem.Addr} {vs₀ : List Value} {gs₀ : List Int} {n₀ : Nat} (ys : τ → List (PySem.Str × Option Value)) (P : List Int → τ → Prop) (μ : List Int → Nat) (c₀ : τ)
    (F : Fr h₀ L s.heap m₀) (N : News h₀ L s.heap [(l, listOf vs₀.toArray n₀)]) (hi : IntsAre vs₀ gs₀) (hm : ∀ p ∈ ys c₀, m₀ p.1 = p.2) (hp : P gs₀ c₀)
    (turn : ∀ vs gs n c h tk, IntsAre vs gs → P gs c → Fr h₀ L h (over m₀ (ys c)) → News h₀ L h [(l, listOf vs.toArray n)] →
      wpAny (model prog w) A (isTrue test env (eval test env)) (fun b s₂ =>
        if b = true then wpAny (model prog w) A (execs body env) (GrPost h₀ L s m₀ ys l P μ Q gs) E s₂ else Q .next s₂) E { s with heap := h, toks := tk })
    (hE : PassesOwn (model prog w) A env E) :
    wpAny (model prog w) A (exec (.While test body [] pos) env) Q E s := by
  refine While_inv2 (fun k m nx => ∃ vs gs n c, m = over m₀ (ys c) ∧ nx = [(l, listOf vs.toArray n)] ∧ μ gs = k ∧ IntsAre vs gs ∧ P gs c) F N ⟨vs₀, gs₀, n₀, c₀, (over_self hm).symm, rfl, rfl, hi, hp⟩ ?_ hE
  rintro k m₁ nx h tk F₁ N₁ ⟨vs, gs, n, c, rfl, rfl, rfl, hi', hp'⟩
  refine wpAny_mono (turn vs gs n c h tk hi' hp' F₁ N₁) (fun b s₂ p => ?_) fun _ _ x => x
  cases b with
  | false => simpa using p
  | true =>
    simp only [if_true] at p ⊢
    refine wpAny_mono p (fun f s₃ q => ?_) fun _ _ x => x
    have fin : GrEnd h₀ L s m₀ ys l P μ gs s₃ → ∃ h' tk m₂ news₂ n', s₃ = { s with heap := h', toks := tk } ∧ Fr h₀ L h' m₂ ∧ News h₀ L h' news₂ ∧ n' < μ gs ∧ ∃ vs gs n c, m₂ = over m₀ (ys c) ∧ news₂ = [(l, listOf vs.toArray n)] ∧ μ gs = n' ∧ IntsAre vs gs ∧ P gs c := by
      rintro ⟨vs', gs', n', c', m', h', tk', rfl, F', rfl, N', hi', hp', hm'⟩
      exact ⟨h', tk', _, _, _, rfl, F', N', hm', vs', gs', n', c', rfl, rfl, rfl, hi', hp'⟩
    cases f with
    | ret v => exact q
    | brk => exact q
    | next => exact fin q
    | cont => exact fin q
end
end Mine

namespace Mine
open PySem PySem.W PyProof.Rows PySem.Calls PySem.Spec
set_option maxRecDepth 100000
local macro_rules | `(tactic| walk_at "exec Raise some none") => `(tactic| (k_here; k_dflt (first
  | (refine' raise_exc ?F ?X ?T (own_59 _) (name_59 _) (keep_59 _) ?hA ?hh ?hk ?hkx ?hd ?_; (case F => k_asm); (case X => k_asm); (case T => k_asm); (case hA => exact Nat.le_of_ble_eq_true rfl); (case hh => exact rfl); (case hk => exact rfl); (case hkx => exact rfl); (case hd => decide); k_whole)
  | (refine' raise_exc ?F ?X ?T (own_71 _) (name_71 _) (keep_71 _) ?hA ?hh ?hk ?hkx ?hd ?_; (case F => k_asm); (case X => k_asm); (case T => k_asm); (case hA => exact Nat.le_of_ble_eq_true rfl); (case hh => exact rfl); (case hk => exact rfl); (case hkx => exact rfl); (case hd => decide); k_whole)); intro h' e' tk' hO'))
local macro_rules | `(tactic| walk_at "leaving ref") => `(tactic| (k_here; (with_reducible rename NewO _ _ _ _ => hO9); (refine' leave_newO ?k1 hO9 ?k2 ?_; (case k1 => assumption); (case k2 => assumption); k_whole); intro h' R' U'))
local macro_rules | `(tactic| walk_at "exec While") => `(tactic| refine stop_here ?_)
local macro_rules | `(tactic| walk_at "exec While BoolOp") => `(tactic| refine stop_here ?_)
local macro_rules | `(tactic| walk_at "call ref") => `(tactic| refine stop_here ?_)
set_option maxHeartbeats 4000000 in
theorem uleb_tri {prog : Program} {w : World} {loose : List PySem.Str} {mean : ExcName → Option Value} {mg mb : PySem.Str → Option Value} {H : Heap} {x : Int} {xt : Tok} :
    Tri prog w loose mean mg mb 50 106 [.int x xt] H (fun _ v => 0 ≤ x ∧ x < 128 ^ 10 ∧ ∃ gs b t, UOut x gs ∧ v = .bytes b t ∧ KBw.bInts b = enc gs) (fun C => C = 59 ∧ (x < 0 ∨ 128 ^ 10 ≤ x)) := by
  intro env outer A₀ base h₀ L m s Q E hs B F X T hfr hck hret hraise
  w_on
  w_top on
  obtain ⟨hh, gens, dr, tk, os⟩ := s
  dsimp only at hs
  subst hs
  refine wpAny_call ?_
  k_dflt (refine' enter B F X T hfr hck ?kA ?k6 ?k7 ?k8 ?k9 ?kB ?_ ?c2 ?c3 ?c4 ?c5)
  case kA => rfl
  case k6 => k_is
  case k7 => k_is
  case k8 => exact Nat.le_of_ble_eq_true rfl
  case k9 => exact BindsTo.of_eq rfl
  case kB => exact locs rfl
  case c2 => rfl
  case c3 => rfl
  case c4 => rfl
  case c5 => decide
  intro g L' h₁ hgg F' N' B' X' T'
  dsimp only at hgg
  subst hgg
  clear F
  replace F' : Fr g L' h₁ (fun y => List.lookup y [(PySem.Str.ofString "worth", .int x xt)]) := F'
  dsimp only
  k_steps
  · exact hraise _ _ _ _ ⟨rfl, by omega⟩ (by assumption) (by assumption)
  · refine Stop.go ?_
    rename Fr g L' _ _ => FX
    rename News g L' _ [(_, _)] => NX
    refine while_gr (τ := Int × Nat) (fun c => [(PySem.Str.ofString "rest", some (.int c.1 c.2))]) (fun gs c => UInv x gs c.1) (fun gs => 12 - gs.length) (_, _) FX NX (by l_ints) (fun p hp => by rw [List.mem_singleton.mp hp]; rfl) (UInv.start _) ?_ (by passes_own)
    clear FX NX
    rintro vs gs n ⟨rest, rt⟩ h tk' hi U FX NX
    have hle := U.le
    dsimp only [over] at FX U ⊢
    k_steps
    · rename Fr g L' _ _ => FY
      rename News g L' _ [(_, _)] => NY
      simp only [List.push_toArray] at NY
      refine ⟨_, gs ++ [Builtin.bitAnd rest 127], _, (_, _), _, _, _, rfl, FY, over_again, NY, IntsAre.append hi (IntsAre.cons _ _ IntsAre.nil), U.step (by assumption) (by omega), ?_⟩
      simp only [List.length_append, List.length_cons, List.length_nil]
      omega
    · refine Stop.go ?_
      have U' := U.out (by omega) (.inr (by omega))
      refine tri_use (leb_octets_tri (PySem.IsL.isList (NX _ (.head _)).1) hi (by rw [U.eq]; exact digs_in _ _) U'.ge U'.le) B' FX X' T' NX rfl rfl rfl rfl (Nat.le_of_ble_eq_true rfl) (Nat.le_of_ble_eq_true rfl) (fun v h' tk' F₃ N₃ S o => ?_) (fun C e h' tk' hb R UT => ?_)
      · obtain ⟨h10, b, t, rfl, hb⟩ := o
        exact absurd h10 (by omega)
      · refine leave_onSN B' FX R UT fun h'' R' _ U'' => ?_
        exact hraise _ _ _ _ ⟨hb.1, .inr ((U'.big (by omega)).mp (by omega))⟩ R' U''
    · refine Stop.go ?_
      have U' := U.out (by omega) (.inl (by assumption))
      refine tri_use (leb_octets_tri (PySem.IsL.isList (NX _ (.head _)).1) hi (by rw [U.eq]; exact digs_in _ _) U'.ge U'.le) B' FX X' T' NX rfl rfl rfl rfl (Nat.le_of_ble_eq_true rfl) (Nat.le_of_ble_eq_true rfl) (fun v h' tk' F₃ N₃ S o => ?_) (fun C e h' tk' hb R UT => ?_)
      · obtain ⟨h10, b, t, rfl, hb⟩ := o
        have hsmall : x < 128 ^ 10 := by
          have := (U'.big (by omega))
          by_cases hx : x < 128 ^ 10
          · exact hx
          · have := this.mpr (by omega); omega
        exact hret _ _ _ F₃.keep ⟨by omega, hsmall, gs, b, t, U', rfl, hb⟩
      · refine leave_onSN B' FX R UT fun h'' R' _ U'' => ?_
        exact hraise _ _ _ _ ⟨hb.1, .inr ((U'.big (by omega)).mp (by omega))⟩ R' U''
end Mine

namespace Mine
open PySem PySem.W PyProof.Rows PySem.Calls PySem.Spec
set_option maxRecDepth 100000
abbrev Fits7 (r : Int) : Prop := -64 ≤ r ∧ r < 64
structure SInv (x : Int) (gs : List Int) (rest : Int) : Prop where
  le : gs.length ≤ 11
  ge : 1 ≤ gs.length
  eq : gs = digs x gs.length
  rest : rest = x / 128 ^ (gs.length - 1)
  pos : ∀ j, j + 1 < gs.length → ¬ Fits7 (x / 128 ^ j)
theorem SInv.start (x : Int) : SInv x [Builtin.bitAnd x 127] x := by
  rw [and7]
  refine ⟨by simp, by simp, ?_, by simp, fun j h1 => ?_⟩
  · simp [digs]
  · simp at h1
theorem SInv.step {x : Int} {gs : List Int} {rest : Int} (U : SInv x gs rest) (h : ¬ Fits7 rest) (hl : gs.length ≤ 10) : SInv x (gs ++ [Builtin.bitAnd (rest.fdiv (2 ^ Int.toNat 7)) 127]) (rest.fdiv (2 ^ Int.toNat 7)) := by
  rw [sh7, and7]
  have e : (gs ++ [rest / 128 % 128]).length = gs.length + 1 := by simp
  have hg := U.ge
  have er : rest / 128 = x / 128 ^ gs.length := by
    rw [U.rest, div_pow_succ]
    congr 2
    omega
  refine ⟨by omega, by omega, ?_, ?_, fun j h1 => ?_⟩
  · rw [e, digs_succ, ← er, ← U.eq]
  · rw [e, er]; rfl
  · by_cases hj : j + 1 < gs.length
    · exact U.pos j hj
    · have : j = gs.length - 1 := by omega
      rw [this, ← U.rest]; exact h
/-- what sleb writes, and when -/
structure SOut (x : Int) (gs : List Int) : Prop where
  ge : 1 ≤ gs.length
  le : gs.length ≤ 11
  eq : gs = digs x gs.length
  pos : ∀ j, j + 1 < gs.length → ¬ Fits7 (x / 128 ^ j)
  fin : Fits7 (x / 128 ^ (gs.length - 1)) ∨ gs.length = 11
theorem SInv.out {x : Int} {gs : List Int} {rest : Int} (U : SInv x gs rest) (h : Fits7 rest ∨ ¬ gs.length ≤ 10) : SOut x gs := by
  refine ⟨U.ge, U.le, U.eq, U.pos, ?_⟩
  rw [← U.rest]
  have := U.le
  rcases h with h | h
  · exact .inl h
  · exact .inr (by omega)
theorem fits_iff {x b : Int} (hb : 0 < b) : Fits7 (x / b) ↔ -(64 * b) ≤ x ∧ x < 64 * b := by
  unfold Fits7
  have h1 := Int.mul_ediv_add_emod x b
  have h2 := Int.emod_nonneg x (Int.ne_of_gt hb)
  have h3 := Int.emod_lt_of_pos x hb
  generalize hq : x / b = q at *
  generalize hr : x % b = r at *
  constructor
  · rintro ⟨h4, h5⟩
    have a1 : b * (-64) ≤ b * q := Int.mul_le_mul_of_nonneg_left h4 (Int.le_of_lt hb)
    have a2 : b * q ≤ b * 63 := Int.mul_le_mul_of_nonneg_left (by omega) (Int.le_of_lt hb)
    omega
  · rintro ⟨h4, h5⟩
    constructor
    · false_or_by_contra
      have a1 : b * q ≤ b * (-65) := Int.mul_le_mul_of_nonneg_left (by omega) (Int.le_of_lt hb)
      omega
    · false_or_by_contra
      have a1 : b * 64 ≤ b * q := Int.mul_le_mul_of_nonneg_left (by omega) (Int.le_of_lt hb)
      omega
theorem SOut.big {x : Int} {gs : List Int} (U : SOut x gs) : gs.length ≤ 10 ↔ Fits7 (x / 128 ^ 9) := by
  have hge := U.ge
  constructor
  · intro h
    rcases U.fin with h1 | h1
    · have h2 := (fits_iff (Int.pow_pos (by decide))).mp h1
      rw [fits_iff (by decide)]
      have : (128 : Int) ^ (gs.length - 1) ≤ 128 ^ 9 := by
        have hn : (128 : Nat) ^ (gs.length - 1) ≤ 128 ^ 9 := Nat.pow_le_pow_right (by decide) (by omega)
        exact_mod_cast hn
      omega
    · omega
  · intro h
    false_or_by_contra
    exact U.pos 9 (by have := U.le; omega) h
end Mine

namespace Mine
open PySem PySem.W PyProof.Rows PySem.Calls PySem.Spec
set_option maxRecDepth 100000
local macro_rules | `(tactic| walk_at "exec Raise some none") => `(tactic| (k_here; k_dflt (first
  | (refine' raise_exc ?F ?X ?T (own_59 _) (name_59 _) (keep_59 _) ?hA ?hh ?hk ?hkx ?hd ?_; (case F => k_asm); (case X => k_asm); (case T => k_asm); (case hA => exact Nat.le_of_ble_eq_true rfl); (case hh => exact rfl); (case hk => exact rfl); (case hkx => exact rfl); (case hd => decide); k_whole)
  | (refine' raise_exc ?F ?X ?T (own_71 _) (name_71 _) (keep_71 _) ?hA ?hh ?hk ?hkx ?hd ?_; (case F => k_asm); (case X => k_asm); (case T => k_asm); (case hA => exact Nat.le_of_ble_eq_true rfl); (case hh => exact rfl); (case hk => exact rfl); (case hkx => exact rfl); (case hd => decide); k_whole)); intro h' e' tk' hO'))
local macro_rules | `(tactic| walk_at "leaving ref") => `(tactic| (k_here; (with_reducible rename NewO _ _ _ _ => hO9); (refine' leave_newO ?k1 hO9 ?k2 ?_; (case k1 => assumption); (case k2 => assumption); k_whole); intro h' R' U'))
local macro_rules | `(tactic| walk_at "exec While") => `(tactic| refine stop_here ?_)
local macro_rules | `(tactic| walk_at "exec While BoolOp") => `(tactic| refine stop_here ?_)
local macro_rules | `(tactic| walk_at "call ref") => `(tactic| refine stop_here ?_)
set_option maxHeartbeats 4000000 in
theorem sleb_tri {prog : Program} {w : World} {loose : List PySem.Str} {mean : ExcName → Option Value} {mg mb : PySem.Str → Option Value} {H : Heap} {x : Int} {xt : Tok} :
    Tri prog w loose mean mg mb 50 113 [.int x xt] H (fun _ v => Fits7 (x / 128 ^ 9) ∧ ∃ gs b t, SOut x gs ∧ v = .bytes b t ∧ KBw.bInts b = enc gs) (fun C => C = 59 ∧ ¬ Fits7 (x / 128 ^ 9)) := by
  intro env outer A₀ base h₀ L m s Q E hs B F X T hfr hck hret hraise
  w_on
  w_top on
  obtain ⟨hh, gens, dr, tk, os⟩ := s
  dsimp only at hs
  subst hs
  refine wpAny_call ?_
  k_dflt (refine' enter B F X T hfr hck ?kA ?k6 ?k7 ?k8 ?k9 ?kB ?_ ?c2 ?c3 ?c4 ?c5)
  case kA => rfl
  case k6 => k_is
  case k7 => k_is
  case k8 => exact Nat.le_of_ble_eq_true rfl
  case k9 => exact BindsTo.of_eq rfl
  case kB => exact locs rfl
  case c2 => rfl
  case c3 => rfl
  case c4 => rfl
  case c5 => decide
  intro g L' h₁ hgg F' N' B' X' T'
  dsimp only at hgg
  subst hgg
  clear F
  replace F' : Fr g L' h₁ (fun y => List.lookup y [(PySem.Str.ofString "worth", .int x xt)]) := F'
  dsimp only
  k_steps
  refine Stop.go ?_
  rename Fr g L' _ _ => FX
  rename News g L' _ [(_, _)] => NX
  refine while_gr (τ := Int × Nat) (fun c => [(PySem.Str.ofString "rest", some (.int c.1 c.2))]) (fun gs c => SInv x gs c.1) (fun gs => 12 - gs.length) (_, _) FX NX (by l_ints) (fun p hp => by rw [List.mem_singleton.mp hp]; rfl) (SInv.start _) ?_ (by passes_own)
  clear FX NX
  rintro vs gs n ⟨rest, rt⟩ h tk' hi U FX NX
  have hle := U.le
  dsimp only [over] at FX U ⊢
  have fin : ∀ (k : Bool), (k = true → Fits7 rest) → (k = false → ¬ gs.length ≤ 10) → SOut x gs := fun k h1 h2 => U.out (by cases k; exact .inr (h2 rfl); exact .inl (h1 rfl))
  k_steps
  all_goals first
    | (rename Fr g L' _ _ => FY
       rename News g L' _ [(_, _)] => NY
       simp only [List.push_toArray] at NY
       refine ⟨_, gs ++ [Builtin.bitAnd (rest.fdiv (2 ^ Int.toNat 7)) 127], _, (_, _), _, _, _, rfl, FY, over_again, NY, IntsAre.append hi (IntsAre.cons _ _ IntsAre.nil), U.step (fun q => by unfold Fits7 at q; omega) (by omega), ?_⟩
       simp only [List.length_append, List.length_cons, List.length_nil]
       omega)
    | (refine Stop.go ?_
       have U' : SOut x gs := by
         by_cases hf : Fits7 rest
         · exact fin true (fun _ => hf) (fun q => nomatch q)
         · exact fin false (fun q => nomatch q) (fun _ => by unfold Fits7 at hf; omega)
       refine tri_use (leb_octets_tri (PySem.IsL.isList (NX _ (.head _)).1) hi (by rw [U.eq]; exact digs_in _ _) U'.ge U'.le) B' FX X' T' NX rfl rfl rfl rfl (Nat.le_of_ble_eq_true rfl) (Nat.le_of_ble_eq_true rfl) (fun v h' tk' F₃ N₃ S o => ?_) (fun C e h' tk' hb R UT => ?_)
       · obtain ⟨h10, b, t, rfl, hb⟩ := o
         exact hret _ _ _ F₃.keep ⟨U'.big.mp h10, gs, b, t, U', rfl, hb⟩
       · refine leave_onSN B' FX R UT fun h'' R' _ U'' => ?_
         exact hraise _ _ _ _ ⟨hb.1, fun q => absurd (U'.big.mpr q) (by omega)⟩ R' U'')
end Mine

namespace Mine
open PySem PySem.W PyProof.Rows PySem.Calls PySem.Spec
set_option maxRecDepth 100000
/-- what a reader finds: the groups, at most so many -/
def rgo : Nat → List Int → Option (List Int)
  | _, [] => none
  | 0, _ :: _ => none
  | n + 1, k :: r => if k < 128 then some [k % 128] else (rgo n r).map (k % 128 :: ·)
theorem rgo_cons (n : Nat) (k : Int) (r : List Int) : rgo (n + 1) (k :: r) = if k < 128 then some [k % 128] else (rgo n r).map (k % 128 :: ·) := rfl
structure RInv (ks : List Int) (a : Nat) (gs : List Int) (spot : Int) (over : Bool) : Prop where
  le : gs.length ≤ 10
  spot : spot = (a : Int) + gs.length
  go : over = false → rgo 10 (ks.drop a) = (rgo (10 - gs.length) (ks.drop (a + gs.length))).map (gs ++ ·)
  fin : over = true → rgo 10 (ks.drop a) = some gs
theorem RInv.start (ks : List Int) (a : Nat) : RInv ks a [] (a : Int) false := by
  refine ⟨by simp, by simp, fun _ => ?_, fun h => nomatch h⟩
  simp
theorem RInv.none_end {ks : List Int} {a : Nat} {gs : List Int} {spot : Int} (U : RInv ks a gs spot false) (h : (ks.length : Int) ≤ spot) : rgo 10 (ks.drop a) = none := by
  rw [U.go rfl]
  have hs := U.spot
  have : ks.drop (a + gs.length) = [] := List.drop_eq_nil_of_le (by omega)
  rw [this]
  cases 10 - gs.length <;> rfl
theorem RInv.none_ten {ks : List Int} {a : Nat} {gs : List Int} {spot : Int} (U : RInv ks a gs spot false) (h : gs.length = 10) : rgo 10 (ks.drop a) = none := by
  rw [U.go rfl, h]
  cases ks.drop (a + 10) <;> rfl
theorem RInv.step {ks : List Int} {a : Nat} {gs : List Int} {spot : Int} (U : RInv ks a gs spot false) (h1 : spot < ks.length) (h2 : gs.length ≠ 10) :
    RInv ks a (gs ++ [Builtin.bitAnd (ks.getD spot.toNat 0) 127]) (spot + 1) (decide (ks.getD spot.toNat 0 < 128)) := by
  have hs := U.spot
  have hle := U.le
  have hn : spot.toNat = a + gs.length := by omega
  have hlt : a + gs.length < ks.length := by omega
  have hd : ks.drop (a + gs.length) = ks.getD spot.toNat 0 :: ks.drop (a + gs.length + 1) := by
    rw [List.drop_eq_getElem_cons hlt, hn]
    congr 1
    simp [List.getD, hlt]
  have e10 : 10 - gs.length = (9 - gs.length) + 1 := by omega
  have el : (gs ++ [Builtin.bitAnd (ks.getD spot.toNat 0) 127]).length = gs.length + 1 := by simp
  have hgo := U.go rfl
  rw [hd, e10] at hgo
  rw [rgo_cons] at hgo
  rw [and7] at *
  refine ⟨by omega, by omega, fun hf => ?_, fun hf => ?_⟩
  · have : ¬ ks.getD spot.toNat 0 < 128 := of_decide_eq_false hf
    rw [if_neg this] at hgo
    rw [hgo, el]
    have e9 : 10 - (gs.length + 1) = 9 - gs.length := by omega
    rw [e9, Option.map_map]
    have e2 : a + (gs.length + 1) = a + gs.length + 1 := by omega
    rw [e2]
    congr 1
    funext l
    simp
  · have : ks.getD spot.toNat 0 < 128 := of_decide_eq_true hf
    rw [if_pos this] at hgo
    rw [hgo]
    rfl
theorem over_again2 {m : PySem.Str → Option Value} {y1 y2 : PySem.Str} {v1 v1' v2 v2' : Value} :
    (fun z => if z = y1 then some v1' else if z = y2 then some v2' else if z = y1 then some v1 else if z = y2 then some v2 else m z) = fun z => if z = y1 then some v1' else if z = y2 then some v2' else m z := by
  funext z
  by_cases h1 : z = y1
  · rw [if_pos h1, if_pos h1]
  · rw [if_neg h1, if_neg h1, if_neg h1]
    by_cases h2 : z = y2
    · rw [if_pos h2, if_pos h2]
    · rw [if_neg h2, if_neg h2, if_neg h2]
end Mine

namespace Mine
open PySem PySem.W PyProof.Rows PySem.Calls PySem.Spec
set_option maxRecDepth 100000
local macro_rules | `(tactic| walk_at "exec Raise some none") => `(tactic| (k_here; k_dflt (first
  | (refine' raise_exc ?F ?X ?T (own_59 _) (name_59 _) (keep_59 _) ?hA ?hh ?hk ?hkx ?hd ?_; (case F => k_asm); (case X => k_asm); (case T => k_asm); (case hA => exact Nat.le_of_ble_eq_true rfl); (case hh => exact rfl); (case hk => exact rfl); (case hkx => exact rfl); (case hd => decide); k_whole)
  | (refine' raise_exc ?F ?X ?T (own_71 _) (name_71 _) (keep_71 _) ?hA ?hh ?hk ?hkx ?hd ?_; (case F => k_asm); (case X => k_asm); (case T => k_asm); (case hA => exact Nat.le_of_ble_eq_true rfl); (case hh => exact rfl); (case hk => exact rfl); (case hkx => exact rfl); (case hd => decide); k_whole)); intro h' e' tk' hO'))
local macro_rules | `(tactic| walk_at "leaving ref") => `(tactic| (k_here; (with_reducible rename NewO _ _ _ _ => hO9); (refine' leave_newO ?k1 hO9 ?k2 ?_; (case k1 => assumption); (case k2 => assumption); k_whole); intro h' R' U'))
local macro_rules | `(tactic| walk_at "exec While") => `(tactic| refine stop_here ?_)
local macro_rules | `(tactic| walk_at "exec While BoolOp") => `(tactic| refine stop_here ?_)
local macro_rules | `(tactic| walk_at "exec While UnaryOp") => `(tactic| refine stop_here ?_)
local macro_rules | `(tactic| walk_at "call ref") => `(tactic| refine stop_here ?_)
set_option maxHeartbeats 4000000 in
theorem read_groups_tri {prog : Program} {w : World} {loose : List PySem.Str} {mean : ExcName → Option Value} {mg mb : PySem.Str → Option Value} {H : Heap} {b : Array UInt8} {bt : Tok} {ks : List Int} {a₀ : Nat} {xt : Tok}
    (hk : KBw.bInts b = ks) (hkl : ks.length ≤ 1000000) :
    Tri prog w loose mean mg mb 40 120 [.bytes b bt, .int (a₀ : Int) xt] H (fun h' v => ∃ gs r vs n, rgo 10 (ks.drop a₀) = some gs ∧ v = .ref r ∧ h'.get? r = some (listOf vs.toArray n) ∧ H.get? r = none ∧ IntsAre vs gs) (fun C => C = 71 ∧ rgo 10 (ks.drop a₀) = none) := by
  intro env outer A₀ base h₀ L m s Q E hs B F X T hfr hck hret hraise
  w_on
  w_top on
  obtain ⟨hh, gens, dr, tk, os⟩ := s
  dsimp only at hs
  subst hs
  refine wpAny_call ?_
  k_dflt (refine' enter B F X T hfr hck ?kA ?k6 ?k7 ?k8 ?k9 ?kB ?_ ?c2 ?c3 ?c4 ?c5)
  case kA => rfl
  case k6 => k_is
  case k7 => k_is
  case k8 => exact Nat.le_of_ble_eq_true rfl
  case k9 => exact BindsTo.of_eq rfl
  case kB => exact locs rfl
  case c2 => rfl
  case c3 => rfl
  case c4 => rfl
  case c5 => decide
  intro g L' h₁ hgg F' N' B' X' T'
  dsimp only at hgg
  subst hgg
  clear F
  replace F' : Fr g L' h₁ (fun y => List.lookup y [(PySem.Str.ofString "at", .int (a₀ : Int) xt), (PySem.Str.ofString "octets", .bytes b bt)]) := F'
  dsimp only
  k_steps
  refine Stop.go ?_
  rename Fr g L' _ _ => FX
  rename News g L' _ [(_, _)] => NX
  refine while_gr (τ := Int × Nat × Bool) (vs₀ := []) (gs₀ := []) (fun c => [(PySem.Str.ofString "spot", some (.int c.1 c.2.1)), (PySem.Str.ofString "is_over", some (.bool c.2.2))]) (fun gs c => RInv ks a₀ gs c.1 c.2.2) (fun gs => 11 - gs.length) ((a₀ : Int), xt, false) FX NX IntsAre.nil ?hm (RInv.start ks a₀) ?_ (by passes_own)
  case hm =>
    intro p hp
    rcases List.mem_cons.mp hp with rfl | hp
    · rfl
    · rw [List.mem_singleton.mp hp]; rfl
  clear FX NX
  rintro vs gs n ⟨spot, st, over⟩ h tk' hi U FX NX
  have hle := U.le
  have hsp := U.spot
  dsimp only [Mine.over] at FX U hsp ⊢
  k_steps
  · exact hret _ _ _ FX.keep ⟨gs, _, vs, n, U.fin (by assumption), rfl, (NX _ (.head _)).1, (NX _ (.head _)).2.2, hi⟩
  · have hov : over = false := by assumption
    subst hov
    exact hraise _ _ _ _ ⟨rfl, U.none_end (by assumption)⟩ (by assumption) (by assumption)
  · have hov : over = false := by assumption
    subst hov
    exact hraise _ _ _ _ ⟨rfl, U.none_ten (by omega)⟩ (by assumption) (by assumption)
  · have hov : over = false := by assumption
    subst hov
    rename Fr g L' _ _ => FY
    rename News g L' _ [(_, _)] => NY
    simp only [List.push_toArray] at NY
    refine ⟨_, gs ++ [Builtin.bitAnd (ks.getD spot.toNat 0) 127], _, (_, _, _), _, _, _, rfl, FY, over_again2, NY, IntsAre.append hi (IntsAre.cons _ _ IntsAre.nil), U.step (by omega) (by omega), ?_⟩
    simp only [List.length_append, List.length_cons, List.length_nil]
    omega
end Mine

namespace Mine
open PySem PySem.W PyProof.Rows PySem.Calls PySem.Spec
set_option maxRecDepth 100000
/-- the number of some groups, the lowest one first -/
def val : List Int → Int
  | [] => 0
  | g :: r => g + 128 * val r
theorem or_add {T g : Int} {k : Nat} (h0 : 0 ≤ T) (h1 : T < 2 ^ k) (hg : 0 ≤ g) : Builtin.bitOr T (g * 2 ^ k) = T + g * 2 ^ k := by
  have hp : (0 : Int) < 2 ^ k := Int.pow_pos (by decide)
  have hy : 0 ≤ g * 2 ^ k := Int.mul_nonneg hg (Int.le_of_lt hp)
  have hz : Builtin.bitAnd T (g * 2 ^ k) = 0 := by
    rw [bitAnd_pp h0 hy]
    have e : (g * 2 ^ k).toNat = g.toNat * 2 ^ k := by
      rw [Int.toNat_mul hg (Int.le_of_lt hp)]
      congr 1
    have ht : T.toNat < 2 ^ k := by
      have : ((T.toNat : Nat) : Int) < ((2 ^ k : Nat) : Int) := by
        rw [Int.toNat_of_nonneg h0]
        exact_mod_cast h1
      exact_mod_cast this
    rw [e]
    have : T.toNat &&& g.toNat * 2 ^ k = 0 := by
      apply Nat.eq_of_testBit_eq
      intro i
      rw [Nat.testBit_and, Nat.testBit_mul_two_pow, Nat.zero_testBit]
      by_cases hi : k ≤ i
      · have : T.toNat.testBit i = false := Nat.testBit_lt_two_pow (Nat.lt_of_lt_of_le ht (Nat.pow_le_pow_right (by decide) hi))
        simp [this]
      · simp [hi]
    rw [this]
    rfl
  rw [bitOr_and, hz]
  omega
theorem joined_go : ∀ (gs : List Int) (i : Nat) (T : Int), (∀ g ∈ gs, 0 ≤ g ∧ g < 128) → 0 ≤ T → T < 2 ^ (7 * i) →
    (gs.zipIdx i).foldl (fun T p => Builtin.bitOr T (p.1 * 2 ^ (7 * (p.2 : Int)).toNat)) T = T + 2 ^ (7 * i) * val gs
  | [], i, T, _, _, _ => by simp [val]
  | g :: r, i, T, hg, h0, h1 => by
    have hgg := hg g (List.mem_cons_self ..)
    rw [List.zipIdx_cons, List.foldl_cons]
    have e : (7 * ((i : Nat) : Int)).toNat = 7 * i := by omega
    dsimp only
    rw [e, or_add h0 h1 hgg.1]
    have hp : (0 : Int) < 2 ^ (7 * i) := Int.pow_pos (by decide)
    have e2 : (2 : Int) ^ (7 * (i + 1)) = 2 ^ (7 * i) * 128 := by
      rw [Nat.mul_add, Int.pow_add]; rfl
    have hlt : T + g * 2 ^ (7 * i) < 2 ^ (7 * (i + 1)) := by
      rw [e2]
      have : g * 2 ^ (7 * i) ≤ 127 * 2 ^ (7 * i) := Int.mul_le_mul_of_nonneg_right (by omega) (Int.le_of_lt hp)
      omega
    have hnn : 0 ≤ T + g * 2 ^ (7 * i) := Int.add_nonneg h0 (Int.mul_nonneg hgg.1 (Int.le_of_lt hp))
    rw [joined_go r (i + 1) _ (fun k hk => hg k (List.mem_cons_of_mem _ hk)) hnn hlt, e2]
    show _ = T + 2 ^ (7 * i) * (g + 128 * val r)
    rw [Int.mul_add, Int.mul_assoc, Int.mul_comm g]
    omega
theorem joined_val {gs : List Int} (hg : ∀ g ∈ gs, 0 ≤ g ∧ g < 128) : gs.zipIdx.foldl (fun T p => Builtin.bitOr T (p.1 * 2 ^ (7 * (p.2 : Int)).toNat)) 0 = val gs := by
  have := joined_go gs 0 0 hg (Int.le_refl _) (by decide)
  simpa using this
theorem val_bound : ∀ {gs : List Int}, (∀ g ∈ gs, 0 ≤ g ∧ g < 128) → 0 ≤ val gs ∧ val gs < 128 ^ gs.length
  | [], _ => by simp [val]
  | g :: r, h => by
    have h1 := h g (List.mem_cons_self ..)
    have h2 := val_bound (gs := r) fun k hk => h k (List.mem_cons_of_mem _ hk)
    have e : (128 : Int) ^ (g :: r).length = 128 ^ r.length * 128 := by rw [List.length_cons, Int.pow_succ]
    rw [e]
    show 0 ≤ g + 128 * val r ∧ g + 128 * val r < _
    omega
theorem sh_n {gs : List Int} {i : Nat} {a : Int} (hx : gs[i]? = some a) (h11 : gs.length ≤ 11) : 0 ≤ 7 * (i : Int) ∧ 7 * (i : Int) ≤ 1000000 := by
  obtain ⟨h, -⟩ := List.getElem?_eq_some_iff.mp hx
  omega
theorem sh_a {gs : List Int} {i : Nat} {a : Int} (hx : gs[i]? = some a) (hg : ∀ g ∈ gs, 0 ≤ g ∧ g < 128) : a.natAbs < 2 ^ 64 := by
  have := hg a (List.mem_of_getElem? hx)
  omega
end Mine

namespace Mine
open PySem PySem.W PyProof.Rows PySem.Calls PySem.Spec
set_option maxRecDepth 100000
local macro_rules | `(tactic| walk_at "exec Raise some none") => `(tactic| (k_here; k_dflt (first
  | (refine' raise_exc ?F ?X ?T (own_59 _) (name_59 _) (keep_59 _) ?hA ?hh ?hk ?hkx ?hd ?_; (case F => k_asm); (case X => k_asm); (case T => k_asm); (case hA => exact Nat.le_of_ble_eq_true rfl); (case hh => exact rfl); (case hk => exact rfl); (case hkx => exact rfl); (case hd => decide); k_whole)
  | (refine' raise_exc ?F ?X ?T (own_71 _) (name_71 _) (keep_71 _) ?hA ?hh ?hk ?hkx ?hd ?_; (case F => k_asm); (case X => k_asm); (case T => k_asm); (case hA => exact Nat.le_of_ble_eq_true rfl); (case hh => exact rfl); (case hk => exact rfl); (case hkx => exact rfl); (case hd => decide); k_whole)); intro h' e' tk' hO'))
local macro_rules | `(tactic| walk_at "leaving ref") => `(tactic| (k_here; (with_reducible rename NewO _ _ _ _ => hO9); (refine' leave_newO ?k1 hO9 ?k2 ?_; (case k1 => assumption); (case k2 => assumption); k_whole); intro h' R' U'))
local macro_rules | `(tactic| walk_at "exec While") => `(tactic| refine stop_here ?_)
local macro_rules | `(tactic| walk_at "exec While BoolOp") => `(tactic| refine stop_here ?_)
local macro_rules | `(tactic| walk_at "exec While UnaryOp") => `(tactic| refine stop_here ?_)
local macro_rules | `(tactic| walk_at "binaryOp LShift int int") => `(tactic| ((rename (_ : Option Int) = some _ => hx9); (refine lshift_int_small (sh_n hx9 (by assumption)).1 (sh_n hx9 (by assumption)).2 (sh_a hx9 (by assumption)) ?_)))
set_option maxHeartbeats 4000000 in
theorem joined_tri {prog : Program} {w : World} {loose : List PySem.Str} {mean : ExcName → Option Value} {mg mb : PySem.Str → Option Value} {H : Heap} {l : PySem.Addr} {vs : List Value} {gs : List Int}
    (hl : H.IsList l vs.toArray) (hi : IntsAre vs gs) (hg : ∀ g ∈ gs, 0 ≤ g ∧ g < 128) (h11 : gs.length ≤ 11) :
    Tri prog w loose mean mg mb 60 127 [.ref l] H (fun _ v => ∃ t, v = .int (val gs) t) (fun _ => False) := by
  intro env outer A₀ base h₀ L m s Q E hs B F X T hfr hck hret hraise
  w_on
  w_top on
  obtain ⟨hh, gens, dr, tk, os⟩ := s
  dsimp only at hs
  subst hs
  refine wpAny_call ?_
  k_dflt (refine' enter B F X T hfr hck ?kA ?k6 ?k7 ?k8 ?k9 ?kB ?_ ?c2 ?c3 ?c4 ?c5)
  case kA => rfl
  case k6 => k_is
  case k7 => k_is
  case k8 => exact Nat.le_of_ble_eq_true rfl
  case k9 => exact BindsTo.of_eq rfl
  case kB => exact locs rfl
  case c2 => rfl
  case c3 => rfl
  case c4 => rfl
  case c5 => decide
  intro g L' h₁ hgg F' N' B' X' T'
  dsimp only at hgg
  subst hgg
  clear F
  replace F' : Fr g L' h₁ (fun y => List.lookup y [(PySem.Str.ofString "groups", .ref l)]) := F'
  dsimp only
  k_steps
  dsimp only
  rw [joined_val hg]
  exact hret _ _ _ (Fr.keep (by assumption)) ⟨_, rfl⟩
end Mine

namespace Mine
open PySem PySem.W PyProof.Rows PySem.Calls PySem.Spec
set_option maxRecDepth 100000
local macro_rules | `(tactic| walk_at "exec Raise some none") => `(tactic| (k_here; k_dflt (first
  | (refine' raise_exc ?F ?X ?T (own_59 _) (name_59 _) (keep_59 _) ?hA ?hh ?hk ?hkx ?hd ?_; (case F => k_asm); (case X => k_asm); (case T => k_asm); (case hA => exact Nat.le_of_ble_eq_true rfl); (case hh => exact rfl); (case hk => exact rfl); (case hkx => exact rfl); (case hd => decide); k_whole)
  | (refine' raise_exc ?F ?X ?T (own_71 _) (name_71 _) (keep_71 _) ?hA ?hh ?hk ?hkx ?hd ?_; (case F => k_asm); (case X => k_asm); (case T => k_asm); (case hA => exact Nat.le_of_ble_eq_true rfl); (case hh => exact rfl); (case hk => exact rfl); (case hkx => exact rfl); (case hd => decide); k_whole)); intro h' e' tk' hO'))
local macro_rules | `(tactic| walk_at "leaving ref") => `(tactic| (k_here; (with_reducible rename NewO _ _ _ _ => hO9); (refine' leave_newO ?k1 hO9 ?k2 ?_; (case k1 => assumption); (case k2 => assumption); k_whole); intro h' R' U'))
local macro_rules | `(tactic| walk_at "exec While") => `(tactic| refine stop_here ?_)
local macro_rules | `(tactic| walk_at "exec While BoolOp") => `(tactic| refine stop_here ?_)
local macro_rules | `(tactic| walk_at "exec While UnaryOp") => `(tactic| refine stop_here ?_)
local macro_rules | `(tactic| walk_at "call ref") => `(tactic| refine stop_here ?_)
theorem top_bit {x : Int} {n : Nat} (h0 : 0 ≤ x) (hx : x < 2 ^ n) (hn1 : 1 ≤ n) : x.fdiv (2 ^ ((n : Int) - 1).toNat) = 1 ↔ 2 ^ (n - 1) ≤ x := by
  have e : ((n : Int) - 1).toNat = n - 1 := by omega
  have hp : (0 : Int) < 2 ^ (n - 1) := Int.pow_pos (by decide)
  have e2 : (2 : Int) ^ n = 2 ^ (n - 1) * 2 := by
    rw [← Int.pow_succ]; congr 1; omega
  rw [e, Int.fdiv_eq_ediv_of_nonneg x (Int.le_of_lt hp)]
  rw [e2] at hx
  generalize (2 : Int) ^ (n - 1) = p at *
  have h1 := Int.mul_ediv_add_emod x p
  have h2 := Int.emod_nonneg x (Int.ne_of_gt hp)
  have h3 := Int.emod_lt_of_pos x hp
  have hq0 : 0 ≤ x / p := Int.ediv_nonneg h0 (Int.le_of_lt hp)
  have hq2 : x / p < 2 := Int.ediv_lt_of_lt_mul hp (by rw [Int.mul_comm]; exact hx)
  constructor
  · intro h; rw [h] at h1; omega
  · intro h
    by_cases hz : x / p = 0
    · rw [hz] at h1; omega
    · omega
set_option maxHeartbeats 4000000 in
theorem mask_tri {prog : Program} {w : World} {loose : List PySem.Str} {mean : ExcName → Option Value} {mg mb : PySem.Str → Option Value} {H : Heap} {n : Nat} {xt : Tok} (hn : n ≤ 1000) :
    Tri prog w loose mean mg mb 80 80 [.int (n : Int) xt] H (fun _ v => ∃ t, v = .int (2 ^ n - 1) t) (fun _ => False) := by
  intro env outer A₀ base h₀ L m s Q E hs B F X T hfr hck hret hraise
  w_on
  w_top on
  obtain ⟨hh, gens, dr, tk, os⟩ := s
  dsimp only at hs
  subst hs
  refine wpAny_call ?_
  k_dflt (refine' enter B F X T hfr hck ?kA ?k6 ?k7 ?k8 ?k9 ?kB ?_ ?c2 ?c3 ?c4 ?c5)
  case kA => rfl
  case k6 => k_is
  case k7 => k_is
  case k8 => exact Nat.le_of_ble_eq_true rfl
  case k9 => exact BindsTo.of_eq rfl
  case kB => exact locs rfl
  case c2 => rfl
  case c3 => rfl
  case c4 => rfl
  case c5 => decide
  intro g L' h₁ hgg F' N' B' X' T'
  dsimp only at hgg
  subst hgg
  clear F
  replace F' : Fr g L' h₁ (fun y => List.lookup y [(PySem.Str.ofString "size", .int (n : Int) xt)]) := F'
  dsimp only
  k_steps
  dsimp only
  have e : (1 * 2 ^ ((n : Int)).toNat - 1 : Int) = 2 ^ n - 1 := by simp
  exact hret _ _ _ (Fr.keep (by assumption)) ⟨_, by rw [e]⟩
set_option maxHeartbeats 4000000 in
theorem wrap_tri {prog : Program} {w : World} {loose : List PySem.Str} {mean : ExcName → Option Value} {mg mb : PySem.Str → Option Value} {H : Heap} {x : Int} {n : Nat} {xt xt' : Tok} (hn : n ≤ 1000) :
    Tri prog w loose mean mg mb 70 87 [.int x xt, .int (n : Int) xt'] H (fun _ v => ∃ t, v = .int (x % 2 ^ n) t) (fun _ => False) := by
  intro env outer A₀ base h₀ L m s Q E hs B F X T hfr hck hret hraise
  w_on
  w_top on
  obtain ⟨hh, gens, dr, tk, os⟩ := s
  dsimp only at hs
  subst hs
  refine wpAny_call ?_
  k_dflt (refine' enter B F X T hfr hck ?kA ?k6 ?k7 ?k8 ?k9 ?kB ?_ ?c2 ?c3 ?c4 ?c5)
  case kA => rfl
  case k6 => k_is
  case k7 => k_is
  case k8 => exact Nat.le_of_ble_eq_true rfl
  case k9 => exact BindsTo.of_eq rfl
  case kB => exact locs rfl
  case c2 => rfl
  case c3 => rfl
  case c4 => rfl
  case c5 => decide
  intro g L' h₁ hgg F' N' B' X' T'
  dsimp only at hgg
  subst hgg
  clear F
  replace F' : Fr g L' h₁ (fun y => List.lookup y [(PySem.Str.ofString "size", .int (n : Int) xt'), (PySem.Str.ofString "worth", .int x xt)]) := F'
  dsimp only
  k_steps
  refine Stop.go ?_
  refine tri_use (mask_tri hn) B' F' X' T' N' rfl rfl rfl rfl (Nat.le_of_ble_eq_true rfl) (Nat.le_of_ble_eq_true rfl) (fun v h' tk' F₃ N₃ S o => ?_) (fun C e h' tk' hb R UT => hb.elim)
  obtain ⟨t, rfl⟩ := o
  dsimp only
  k_steps
  exact hret _ _ _ (Fr.keep (by assumption)) ⟨_, by rw [kbt_mask]⟩
set_option maxHeartbeats 4000000 in
theorem signed_tri {prog : Program} {w : World} {loose : List PySem.Str} {mean : ExcName → Option Value} {mg mb : PySem.Str → Option Value} {H : Heap} {x : Int} {n : Nat} {xt xt' : Tok} (h0 : 0 ≤ x) (hx : x < 2 ^ n) (hn1 : 1 ≤ n) (hn : n ≤ 1000) :
    Tri prog w loose mean mg mb 60 94 [.int x xt, .int (n : Int) xt'] H (fun _ v => ∃ t, v = .int (if 2 ^ (n - 1) ≤ x then x - 2 ^ n else x) t) (fun _ => False) := by
  intro env outer A₀ base h₀ L m s Q E hs B F X T hfr hck hret hraise
  w_on
  w_top on
  obtain ⟨hh, gens, dr, tk, os⟩ := s
  dsimp only at hs
  subst hs
  refine wpAny_call ?_
  k_dflt (refine' enter B F X T hfr hck ?kA ?k6 ?k7 ?k8 ?k9 ?kB ?_ ?c2 ?c3 ?c4 ?c5)
  case kA => rfl
  case k6 => k_is
  case k7 => k_is
  case k8 => exact Nat.le_of_ble_eq_true rfl
  case k9 => exact BindsTo.of_eq rfl
  case kB => exact locs rfl
  case c2 => rfl
  case c3 => rfl
  case c4 => rfl
  case c5 => decide
  intro g L' h₁ hgg F' N' B' X' T'
  dsimp only at hgg
  subst hgg
  clear F
  replace F' : Fr g L' h₁ (fun y => List.lookup y [(PySem.Str.ofString "size", .int (n : Int) xt'), (PySem.Str.ofString "worth", .int x xt)]) := F'
  dsimp only
  k_steps
  refine Stop.go ?_
  refine tri_use (wrap_tri hn) B' F' X' T' N' rfl rfl rfl rfl (Nat.le_of_ble_eq_true rfl) (Nat.le_of_ble_eq_true rfl) (fun v h' tk' F₃ N₃ S o => ?_) (fun C e h' tk' hb R UT => hb.elim)
  obtain ⟨t, rfl⟩ := o
  rw [Int.emod_eq_of_lt h0 hx]
  dsimp only
  k_steps
  · dsimp only
    have e : (x - 1 * 2 ^ ((n : Int)).toNat : Int) = x - 2 ^ n := by simp
    exact hret _ _ _ (Fr.keep (by assumption)) ⟨_, by rw [e, if_pos ((top_bit h0 hx hn1).mp (by assumption))]⟩
  · dsimp only
    exact hret _ _ _ (Fr.keep (by assumption)) ⟨_, by rw [if_neg (fun q => absurd ((top_bit h0 hx hn1).mpr q) (by assumption))]⟩
end Mine

namespace Mine
open PySem PySem.W PyProof.Rows PySem.Calls PySem.Spec
set_option maxRecDepth 100000
local macro_rules | `(tactic| walk_at "exec Raise some none") => `(tactic| (k_here; k_dflt (first
  | (refine' raise_exc ?F ?X ?T (own_59 _) (name_59 _) (keep_59 _) ?hA ?hh ?hk ?hkx ?hd ?_; (case F => k_asm); (case X => k_asm); (case T => k_asm); (case hA => exact Nat.le_of_ble_eq_true rfl); (case hh => exact rfl); (case hk => exact rfl); (case hkx => exact rfl); (case hd => decide); k_whole)
  | (refine' raise_exc ?F ?X ?T (own_71 _) (name_71 _) (keep_71 _) ?hA ?hh ?hk ?hkx ?hd ?_; (case F => k_asm); (case X => k_asm); (case T => k_asm); (case hA => exact Nat.le_of_ble_eq_true rfl); (case hh => exact rfl); (case hk => exact rfl); (case hkx => exact rfl); (case hd => decide); k_whole)); intro h' e' tk' hO'))
local macro_rules | `(tactic| walk_at "leaving ref") => `(tactic| (k_here; (with_reducible rename NewO _ _ _ _ => hO9); (refine' leave_newO ?k1 hO9 ?k2 ?_; (case k1 => assumption); (case k2 => assumption); k_whole); intro h' R' U'))
local macro_rules | `(tactic| walk_at "exec While") => `(tactic| refine stop_here ?_)
local macro_rules | `(tactic| walk_at "exec While BoolOp") => `(tactic| refine stop_here ?_)
local macro_rules | `(tactic| walk_at "exec While UnaryOp") => `(tactic| refine stop_here ?_)
local macro_rules | `(tactic| walk_at "call ref") => `(tactic| refine stop_here ?_)
theorem rgo_in : ∀ {n : Nat} {ks gs : List Int}, rgo n ks = some gs → (∀ g ∈ gs, 0 ≤ g ∧ g < 128) ∧ gs.length ≤ n ∧ 1 ≤ gs.length
  | n, [], gs, h => by cases n <;> cases h
  | 0, k :: r, gs, h => by cases h
  | n + 1, k :: r, gs, h => by
    rw [rgo_cons] at h
    split at h
    · obtain rfl := Option.some.inj h
      refine ⟨fun g hg => ?_, by simp, by simp⟩
      rw [List.mem_singleton.mp hg]; omega
    · obtain ⟨l, hl, rfl⟩ := Option.map_eq_some_iff.mp h
      obtain ⟨h1, h2, h3⟩ := rgo_in hl
      refine ⟨fun g hg => ?_, by simp; omega, by simp⟩
      rcases List.mem_cons.mp hg with rfl | hg
      · omega
      · exact h1 g hg
theorem news_add {h₀ H h' : Heap} {L r : PySem.Addr} {m : PySem.Str → Option Value} {o : Obj} {news : List (PySem.Addr × Obj)} (F : Fr h₀ L H m) (N : News h₀ L h' news) (hr : h'.get? r = some o) (hn : H.get? r = none) : News h₀ L h' ((r, o) :: news) := by
  intro p hp
  rcases List.mem_cons.mp hp with rfl | hp
  · refine ⟨hr, fun q => ?_, ?_⟩
    · obtain ⟨oL, _, _, hL, _⟩ := F.ns
      rw [← q] at hL
      rw [hn] at hL; cases hL
    · cases e : h₀.get? r with
      | none => rfl
      | some o' => have := F.keep _ _ e; rw [hn] at this; cases this
  · exact N p hp
/-- the signed number of some groups -/
def sval (gs : List Int) : Int := if 2 ^ (7 * gs.length - 1) ≤ val gs then val gs - 2 ^ (7 * gs.length) else val gs
set_option maxHeartbeats 4000000 in
theorem read_uleb_tri {prog : Program} {w : World} {loose : List PySem.Str} {mean : ExcName → Option Value} {mg mb : PySem.Str → Option Value} {H : Heap} {b : Array UInt8} {bt : Tok} {ks : List Int} {a₀ : Nat} {xt : Tok} (hk : KBw.bInts b = ks) (hkl : ks.length ≤ 1000000) :
    Tri prog w loose mean mg mb 30 134 [.bytes b bt, .int (a₀ : Int) xt] H (fun h' v => ∃ gs r t1 t2 n, rgo 10 (ks.drop a₀) = some gs ∧ v = .ref r ∧ h'.get? r = some ({ cls := .type "tuple", data := .seq [Value.int (val gs) t1, .int ((a₀ : Int) + gs.length) t2].toArray n } : Obj) ∧ H.get? r = none) (fun C => C = 71 ∧ rgo 10 (ks.drop a₀) = none) := by
  intro env outer A₀ base h₀ L m s Q E hs B F X T hfr hck hret hraise
  w_on
  w_top on
  obtain ⟨hh, gens, dr, tk, os⟩ := s
  dsimp only at hs
  subst hs
  refine wpAny_call ?_
  k_dflt (refine' enter B F X T hfr hck ?kA ?k6 ?k7 ?k8 ?k9 ?kB ?_ ?c2 ?c3 ?c4 ?c5)
  case kA => rfl
  case k6 => k_is
  case k7 => k_is
  case k8 => exact Nat.le_of_ble_eq_true rfl
  case k9 => exact BindsTo.of_eq rfl
  case kB => exact locs rfl
  case c2 => rfl
  case c3 => rfl
  case c4 => rfl
  case c5 => decide
  intro g L' h₁ hgg F' N' B' X' T'
  dsimp only at hgg
  subst hgg
  clear F
  replace F' : Fr g L' h₁ (fun y => List.lookup y [(PySem.Str.ofString "at", .int (a₀ : Int) xt), (PySem.Str.ofString "octets", .bytes b bt)]) := F'
  dsimp only
  k_steps
  refine Stop.go ?_
  refine tri_use (read_groups_tri hk hkl) B' F' X' T' N' rfl rfl rfl rfl (Nat.le_of_ble_eq_true rfl) (Nat.le_of_ble_eq_true rfl) (fun v h' tk' F₃ N₃ S o => ?_) (fun C e h' tk' hb R UT => ?_)
  · obtain ⟨gs, r, vs, n, hgo, rfl, hr, hn, hi⟩ := o
    have N₄ := news_add F' N₃ hr hn
    obtain ⟨hgi, hl1, hl2⟩ := rgo_in hgo
    clear N₃ F'
    dsimp only
    k_steps
    refine Stop.go ?_
    rename Fr g L' _ _ => FX
    rename News g L' _ [(_, _)] => NX
    refine tri_use (joined_tri (PySem.IsL.isList (NX _ (.head _)).1) hi hgi (by omega)) B' FX X' T' NX rfl rfl rfl rfl (Nat.le_of_ble_eq_true rfl) (Nat.le_of_ble_eq_true rfl) (fun v h' tk' F₃ N₃ S o => ?_) (fun C e h' tk' hb R UT => hb.elim)
    obtain ⟨t, rfl⟩ := o
    dsimp only
    k_steps
    rename News g L' _ [(_, _), (_, _)] => NY
    exact hret _ _ _ (Fr.keep (by assumption)) ⟨gs, _, _, _, _, hgo, rfl, (NY _ (.head _)).1, (NY _ (.head _)).2.2⟩
  · refine leave_onSN B' F' R UT fun h'' R' _ U'' => ?_
    exact hraise _ _ _ _ hb R' U''
set_option maxHeartbeats 4000000 in
theorem read_sleb_tri {prog : Program} {w : World} {loose : List PySem.Str} {mean : ExcName → Option Value} {mg mb : PySem.Str → Option Value} {H : Heap} {b : Array UInt8} {bt : Tok} {ks : List Int} {a₀ : Nat} {xt : Tok} (hk : KBw.bInts b = ks) (hkl : ks.length ≤ 1000000) :
    Tri prog w loose mean mg mb 30 141 [.bytes b bt, .int (a₀ : Int) xt] H (fun h' v => ∃ gs r t1 t2 n, rgo 10 (ks.drop a₀) = some gs ∧ v = .ref r ∧ h'.get? r = some ({ cls := .type "tuple", data := .seq [Value.int (sval gs) t1, .int ((a₀ : Int) + gs.length) t2].toArray n } : Obj) ∧ H.get? r = none) (fun C => C = 71 ∧ rgo 10 (ks.drop a₀) = none) := by
  intro env outer A₀ base h₀ L m s Q E hs B F X T hfr hck hret hraise
  w_on
  w_top on
  obtain ⟨hh, gens, dr, tk, os⟩ := s
  dsimp only at hs
  subst hs
  refine wpAny_call ?_
  k_dflt (refine' enter B F X T hfr hck ?kA ?k6 ?k7 ?k8 ?k9 ?kB ?_ ?c2 ?c3 ?c4 ?c5)
  case kA => rfl
  case k6 => k_is
  case k7 => k_is
  case k8 => exact Nat.le_of_ble_eq_true rfl
  case k9 => exact BindsTo.of_eq rfl
  case kB => exact locs rfl
  case c2 => rfl
  case c3 => rfl
  case c4 => rfl
  case c5 => decide
  intro g L' h₁ hgg F' N' B' X' T'
  dsimp only at hgg
  subst hgg
  clear F
  replace F' : Fr g L' h₁ (fun y => List.lookup y [(PySem.Str.ofString "at", .int (a₀ : Int) xt), (PySem.Str.ofString "octets", .bytes b bt)]) := F'
  dsimp only
  k_steps
  refine Stop.go ?_
  refine tri_use (read_groups_tri hk hkl) B' F' X' T' N' rfl rfl rfl rfl (Nat.le_of_ble_eq_true rfl) (Nat.le_of_ble_eq_true rfl) (fun v h' tk' F₃ N₃ S o => ?_) (fun C e h' tk' hb R UT => ?_)
  · obtain ⟨gs, r, vs, n, hgo, rfl, hr, hn, hi⟩ := o
    have N₄ := news_add F' N₃ hr hn
    obtain ⟨hgi, hl1, hl2⟩ := rgo_in hgo
    clear N₃ F'
    dsimp only
    k_steps
    refine Stop.go ?_
    rename Fr g L' _ _ => FX
    rename News g L' _ [(_, _)] => NX
    refine tri_use (joined_tri (PySem.IsL.isList (NX _ (.head _)).1) hi hgi (by omega)) B' FX X' T' NX rfl rfl rfl rfl (Nat.le_of_ble_eq_true rfl) (Nat.le_of_ble_eq_true rfl) (fun v h' tk' F₃ N₃ S o => ?_) (fun C e h' tk' hb R UT => hb.elim)
    obtain ⟨t, rfl⟩ := o
    dsimp only
    k_steps
    refine Stop.go ?_
    clear FX NX
    rename Fr g L' _ _ => FX
    rename News g L' _ [(_, _)] => NX
    have e7 : 7 * (gs.length : Int) = ((7 * gs.length : Nat) : Int) := by omega
    have hvb := val_bound hgi
    have hv2 : val gs < 2 ^ (7 * gs.length) := by
      have e : (2 : Int) ^ (7 * gs.length) = 128 ^ gs.length := by rw [Int.pow_mul]; rfl
      rw [e]; exact hvb.2
    rw [e7]
    refine tri_use (signed_tri hvb.1 hv2 (by omega) (by omega)) B' FX X' T' NX rfl rfl rfl rfl (Nat.le_of_ble_eq_true rfl) (Nat.le_of_ble_eq_true rfl) (fun v h' tk' F₃ N₃ S o => ?_) (fun C e h' tk' hb R UT => hb.elim)
    obtain ⟨t, rfl⟩ := o
    dsimp only
    k_steps
    rename News g L' _ [(_, _), (_, _)] => NY
    exact hret _ _ _ (Fr.keep (by assumption)) ⟨gs, _, _, _, _, hgo, rfl, (NY _ (.head _)).1, (NY _ (.head _)).2.2⟩
  · refine leave_onSN B' F' R UT fun h'' R' _ U'' => ?_
    exact hraise _ _ _ _ hb R' U''
end Mine

namespace Mine
open PySem PySem.W PyProof.Rows PySem.Calls PySem.Spec
set_option maxRecDepth 100000
theorem over_rng {m : PySem.Str → Option Value} {x y : PySem.Str} {v v' : Value} {u : Option Value} : ∀ z, z ≠ x → (fun z => if z = y then some v' else if z = x then u else if z = y then some v else m z) z = over m [(y, some v')] z := by
  intro z hz
  show (if z = y then some v' else if z = x then u else if z = y then some v else m z) = if z = y then some v' else m z
  by_cases hy : z = y
  · rw [if_pos hy, if_pos hy]
  · rw [if_neg hy, if_neg hy, if_neg hz, if_neg hy]
section
variable {prog : Program} {w : World} {A : Around} {E : Value → Shared → Prop} {Q : Flow → Shared → Prop} {s : Shared} {env : Env}
/-- the end of a turn of a for over a range, upon a ground that may turn -/
def RnEnd {τ : Type} (L : PySem.Addr) (x : PySem.Str) (Cg : Heap → Prop) (m₀ : PySem.Str → Option Value) (ys : τ → List (PySem.Str × Option Value)) (Led : τ → List (PySem.Addr × Obj)) (P : Nat → τ → Prop) (io : PySem.Addr × Obj) (i : Nat) (s s₂ : Shared) : Prop :=
  ∃ (c' : τ) (g' : Heap) (m' : PySem.Str → Option Value) (h' : Heap) (tk' : Nat), s₂ = { s with heap := h', toks := tk' } ∧ Cg g' ∧ Fr g' L h' m' ∧ (∀ z, z ≠ x → m' z = over m₀ (ys c') z) ∧ News g' L h' (Led c') ∧ News g' L h' [io] ∧ P (i + 1) c'
def RnPost {τ : Type} (L : PySem.Addr) (x : PySem.Str) (Cg : Heap → Prop) (m₀ : PySem.Str → Option Value) (ys : τ → List (PySem.Str × Option Value)) (Led : τ → List (PySem.Addr × Obj)) (P : Nat → τ → Prop) (io : PySem.Addr × Obj) (i : Nat) (Q : Flow → Shared → Prop) (s : Shared) (f : Flow) (s₂ : Shared) : Prop :=
  match f with
  | .ret v => Q (.ret v) s₂
  | .brk => Q .next s₂
  | _ => RnEnd L x Cg m₀ ys Led P io i s s₂

theorem iter_rng {τ : Type} {x : PySem.Str} {px : Pos} {body : List Stmt} {r : PySem.Addr} {a₀ b₀ : Int} {t₀ u₀ v₀ : Tok} {n : Nat} {g : Heap} {m₀ : PySem.Str → Option Value} (Cg : Heap → Prop) (ys : τ → List (PySem.Str × Option Value)) (Led : τ → List (PySem.Addr × Obj)) (P : Nat → τ → Prop) (c₀ : τ)
    (hh : A.handled = none) (hr : IsRange s.heap r a₀ b₀ 1 t₀ u₀ v₀) (hsmall : Builtin.Range.small a₀ b₀ 1 = true) (hn : Builtin.Range.rangeSize a₀ b₀ 1 = (n : Int))
    (hC : Cg g) (F : Fr g env.locals s.heap m₀) (N : News g env.locals s.heap (Led c₀)) (hys : ∀ p ∈ ys c₀, m₀ p.1 = p.2) (hp : P 0 c₀)
    (hadr : ∀ c, (Led c).map (·.1) = (Led c₀).map (·.1))
    (hx : env.kindOf x = some .local) (hcls : (env.scope.kind == .class || (env.scope.kind == .module && env.locals != env.globals)) = false)
    (turn : ∀ (i : Nat) (c : τ) (g' h : Heap) (tk : Nat) (t : Tok) (io : PySem.Addr × Obj), i < n → P i c → Cg g' → Fr g' env.locals h (fun z => if z = x then some (.int (a₀ + i) t) else over m₀ (ys c) z) → News g' env.locals h (Led c) → News g' env.locals h [io] → (∀ p ∈ Led c₀, p.1 < io.1) →
      wpAny (model prog w) A (execs body env) (RnPost env.locals x Cg m₀ ys Led P io i Q { s with heap := h, toks := tk }) E { s with heap := h, toks := tk })
    (done : ∀ (c : τ) (g' h : Heap) (tk : Nat) (u : Option Value), P n c → Cg g' → Fr g' env.locals h (fun z => if z = x then u else over m₀ (ys c) z) → News g' env.locals h (Led c) → Q .next { s with heap := h, toks := tk })
    (hE : PassesOwn (model prog w) A env E) :
    wpAny (model prog w) A (pyIter (.ref r)) (fun it s₂ => codeAny (model prog w) A (.forLoop (.Name x px) it body [] env) (fun r s' => match r with | .ok f => Q f s' | .error e => cameBackBy (model prog w) A env E e s') s₂) E s := by
  refine wpAny_pyIter_range hr hsmall ?_
  have W : Walks prog w A s.heap.objs.size [s.heap.objs.size] [s.heap.objs.size] n (fun i v => ∃ t, v = .int (a₀ + i * 1) t)
      (fun i h => IsRangeIter h s.heap.objs.size (a₀ + (i : Nat) * 1) ((n : Int) - (i : Nat)) 1) := Walks.range hh _ a₀ 1 n
  have hnL : env.locals ≠ s.heap.objs.size := Nat.ne_of_lt F.ns.lt
  have hnl : ∀ p ∈ Led c₀, p.1 < s.heap.objs.size := fun p hp => Heap.lt_size (N p hp).1
  have hne : ∀ c, ∀ p ∈ Led c, p.1 ≠ s.heap.objs.size := fun c p hp => by
    have : p.1 ∈ (Led c₀).map (·.1) := hadr c ▸ List.mem_map_of_mem hp
    obtain ⟨q, hq, e⟩ := List.mem_map.mp this
    rw [← e]
    exact Nat.ne_of_lt (hnl q hq)
  have fresh : g.get? s.heap.objs.size = none := next_is_new F
  refine codeAny_forLoop (fun k s' => ∃ i c g' m' h' tk', s' = { s with heap := h', toks := tk' } ∧ k = n - i ∧ i ≤ n ∧ P i c ∧ Cg g' ∧ Fr g' env.locals h' m' ∧ (∀ z, z ≠ x → m' z = over m₀ (ys c) z) ∧ News g' env.locals h' (Led c) ∧
      IsRangeIter h' s.heap.objs.size (a₀ + (i : Nat) * 1) ((n : Int) - (i : Nat)) 1 ∧ g'.get? s.heap.objs.size = none) ?_ (n - 0)
    ⟨0, c₀, g, m₀, _, s.toks, rfl, rfl, Nat.zero_le _, hp, hC, F.push _, fun z _ => by rw [over_self hys], fun p hp => ⟨Heap.get?_push_of_some _ (N p hp).1, (N p hp).2⟩, by show IsRangeIter _ _ _ _ _; rw [hn]; simpa using Heap.get?_push_size _ rfl, fresh⟩
  rintro k s' ⟨i, c, g', m', h', tk', rfl, rfl, hi, hP, hCg, F', hm', N', hit, hg'⟩
  have next : ∀ h₁ : Heap, (∀ b o, b ∉ [s.heap.objs.size] → h'.get? b = some o → h₁.get? b = some o) → Fr g' env.locals h₁ m' ∧ News g' env.locals h₁ (Led c) := fun h₁ hk₁ =>
    ⟨⟨F'.ns.at' fun o e => hk₁ _ o (by simpa using hnL) e, fun b o e => hk₁ b o (fun hb => by rw [List.mem_singleton.mp hb, hg'] at e; cases e) (F'.keep b o e), F'.above⟩,
      fun p hp => ⟨hk₁ _ _ (by simpa using hne c p hp) (N' p hp).1, (N' p hp).2⟩⟩
  by_cases hlt : i < n
  · refine W.item i _ _ _ hlt hit fun v h₁ tk₁ hPv hst₁ hk₁ => ?_
    obtain ⟨t, rfl⟩ := hPv
    have e1 : a₀ + (i : Int) * 1 = a₀ + (i : Int) := by omega
    rw [e1]
    obtain ⟨F₁, N₁⟩ := next h₁ hk₁
    refine wpAny_assign_Name (wpAny_storeName_local hx F₁.ns (fun h₂ hn₂ hs₂ => ?_) hcls)
    have F₂ := F₁.set hn₂ hs₂
    have N₂ := N₁.set hs₂
    have em : (fun y => if y = x then some (Value.int (a₀ + (i : Int)) t) else m' y) = fun z => if z = x then some (Value.int (a₀ + (i : Int)) t) else over m₀ (ys c) z := by
      funext z
      by_cases hz : z = x
      · rw [if_pos hz, if_pos hz]
      · rw [if_neg hz, if_neg hz, hm' z hz]
    rw [em] at F₂
    have hit₂ : h₂.get? s.heap.objs.size = _ := (hs₂.2 _ (Ne.symm hnL)).trans hst₁
    refine wpAny_passesOwn hE ?_
    refine wpAny_mono (turn i c g' h₂ _ t (s.heap.objs.size, _) hlt hP hCg F₂ N₂ (fun p hp => by rw [List.mem_singleton.mp hp]; exact ⟨hit₂, Ne.symm hnL, hg'⟩) (fun p hp => hnl p hp)) (fun f s₃ h₃ => ?_) fun _ _ e => e
    cases f with
    | ret v => exact h₃
    | brk => exact h₃
    | next =>
      obtain ⟨c', g₃, m₃, h₃', tk₃, rfl, hCg₃, F₃, hm₃, N₃, NI, hP₃⟩ := h₃
      exact ⟨n - (i + 1), by omega, i + 1, c', g₃, m₃, h₃', tk₃, rfl, rfl, hlt, hP₃, hCg₃, F₃, hm₃, N₃, (NI _ (List.Mem.head _)).1, (NI _ (List.Mem.head _)).2.2⟩
    | cont =>
      obtain ⟨c', g₃, m₃, h₃', tk₃, rfl, hCg₃, F₃, hm₃, N₃, NI, hP₃⟩ := h₃
      exact ⟨n - (i + 1), by omega, i + 1, c', g₃, m₃, h₃', tk₃, rfl, rfl, hlt, hP₃, hCg₃, F₃, hm₃, N₃, (NI _ (List.Mem.head _)).1, (NI _ (List.Mem.head _)).2.2⟩
  · have hin : i = n := by omega
    subst hin
    refine W.done _ _ _ hit fun h₁ tk₁ hk₁ => wpAny_execs_nil ?_
    obtain ⟨F₁, N₁⟩ := next h₁ hk₁
    have em : m' = fun z => if z = x then m' x else over m₀ (ys c) z := by
      funext z
      by_cases hz : z = x
      · rw [if_pos hz, hz]
      · rw [if_neg hz, hm' z hz]
    rw [em] at F₁
    exact done c g' h₁ tk₁ _ hP hCg F₁ N₁
/-- the same, where one list of ints is turned, and some names -/
theorem iter_rng1 {τ : Type} {x : PySem.Str} {px : Pos} {body : List Stmt} {r l : PySem.Addr} {a₀ b₀ : Int} {t₀ u₀ v₀ : Tok} {n n₀ : Nat} {vs₀ : List Value} {gs₀ : List Int} {g : Heap} {m₀ : PySem.Str → Option Value} (Cg : Heap → Prop) (ys : τ → List (PySem.Str × Option Value)) (P : Nat → List Int → τ → Prop) (c₀ : τ)
    (hh : A.handled = none) (hr : IsRange s.heap r a₀ b₀ 1 t₀ u₀ v₀) (hsmall : Builtin.Range.small a₀ b₀ 1 = true) (hn : Builtin.Range.rangeSize a₀ b₀ 1 = (n : Int))
    (hC : Cg g) (F : Fr g env.locals s.heap m₀) (N : News g env.locals s.heap [(l, listOf vs₀.toArray n₀)]) (hi : IntsAre vs₀ gs₀) (hys : ∀ p ∈ ys c₀, m₀ p.1 = p.2) (hp : P 0 gs₀ c₀)
    (hx : env.kindOf x = some .local) (hcls : (env.scope.kind == .class || (env.scope.kind == .module && env.locals != env.globals)) = false)
    (turn : ∀ (i : Nat) (vs : List Value) (gs : List Int) (k : Nat) (c : τ) (g' h : Heap) (tk : Nat) (t : Tok) (ia : PySem.Addr) (io : Obj), i < n → IntsAre vs gs → P i gs c → Cg g' → Fr g' env.locals h (fun z => if z = x then some (.int (a₀ + i) t) else over m₀ (ys c) z) → News g' env.locals h [(ia, io), (l, listOf vs.toArray k)] → l < ia →
      wpAny (model prog w) A (execs body env) (RnPost (τ := List Value × List Int × Nat × τ) env.locals x Cg m₀ (fun σ => ys σ.2.2.2) (fun σ => [(l, listOf σ.1.toArray σ.2.2.1)]) (fun i σ => IntsAre σ.1 σ.2.1 ∧ P i σ.2.1 σ.2.2.2) (ia, io) i Q { s with heap := h, toks := tk }) E { s with heap := h, toks := tk })
    (done : ∀ (vs : List Value) (gs : List Int) (k : Nat) (c : τ) (g' h : Heap) (tk : Nat) (u : Option Value), IntsAre vs gs → P n gs c → Cg g' → Fr g' env.locals h (fun z => if z = x then u else over m₀ (ys c) z) → News g' env.locals h [(l, listOf vs.toArray k)] → Q .next { s with heap := h, toks := tk })
    (hE : PassesOwn (model prog w) A env E) :
    wpAny (model prog w) A (pyIter (.ref r)) (fun it s₂ => codeAny (model prog w) A (.forLoop (.Name x px) it body [] env) (fun r s' => match r with | .ok f => Q f s' | .error e => cameBackBy (model prog w) A env E e s') s₂) E s := by
  refine iter_rng (τ := List Value × List Int × Nat × τ) Cg (fun σ => ys σ.2.2.2) (fun σ => [(l, listOf σ.1.toArray σ.2.2.1)]) (fun i σ => IntsAre σ.1 σ.2.1 ∧ P i σ.2.1 σ.2.2.2) (vs₀, gs₀, n₀, c₀) hh hr hsmall hn hC F N hys ⟨hi, hp⟩ (fun _ => rfl) hx hcls ?_ ?_ hE
  · rintro i ⟨vs, gs, k, c⟩ g' h tk t ⟨ia, io⟩ hlt ⟨hi', hp'⟩ hC' F' N' NI hl
    exact turn i vs gs k c g' h tk t ia io hlt hi' hp' hC' F' (fun p hp => by
      rcases List.mem_cons.mp hp with rfl | hp
      · exact NI _ (List.Mem.head _)
      · exact N' p hp) (hl _ (List.Mem.head _))
  · rintro ⟨vs, gs, k, c⟩ g' h tk u ⟨hi', hp'⟩ hC' F' N'
    exact done vs gs k c g' h tk u hi' hp' hC' F' N'
end
end Mine

namespace Mine
open PySem PySem.W PyProof.Rows PySem.Calls PySem.Spec
set_option maxRecDepth 100000
local macro_rules | `(tactic| walk_at "exec Raise some none") => `(tactic| (k_here; k_dflt (first
  | (refine' raise_exc ?F ?X ?T (own_59 _) (name_59 _) (keep_59 _) ?hA ?hh ?hk ?hkx ?hd ?_; (case F => k_asm); (case X => k_asm); (case T => k_asm); (case hA => exact Nat.le_of_ble_eq_true rfl); (case hh => exact rfl); (case hk => exact rfl); (case hkx => exact rfl); (case hd => decide); k_whole)
  | (refine' raise_exc ?F ?X ?T (own_71 _) (name_71 _) (keep_71 _) ?hA ?hh ?hk ?hkx ?hd ?_; (case F => k_asm); (case X => k_asm); (case T => k_asm); (case hA => exact Nat.le_of_ble_eq_true rfl); (case hh => exact rfl); (case hk => exact rfl); (case hkx => exact rfl); (case hd => decide); k_whole)); intro h' e' tk' hO'))
local macro_rules | `(tactic| walk_at "leaving ref") => `(tactic| (k_here; (with_reducible rename NewO _ _ _ _ => hO9); (refine' leave_newO ?k1 hO9 ?k2 ?_; (case k1 => assumption); (case k2 => assumption); k_whole); intro h' R' U'))
local macro_rules | `(tactic| walk_at "exec While") => `(tactic| refine stop_here ?_)
local macro_rules | `(tactic| walk_at "exec While BoolOp") => `(tactic| refine stop_here ?_)
local macro_rules | `(tactic| walk_at "exec While UnaryOp") => `(tactic| refine stop_here ?_)
local macro_rules | `(tactic| walk_at "call ref") => `(tactic| refine stop_here ?_)
local macro_rules | `(tactic| walk_at "exec For Name") => `(tactic| refine stop_here ?_)
local macro_rules | `(tactic| walk_at "exec For Name Call cons nil") => `(tactic| refine stop_here ?_)
local macro_rules | `(tactic| walk_at "exec For Name Name cons nil") => `(tactic| refine stop_here ?_)
local macro_rules | `(tactic| walk_at "pyIter ref") => `(tactic| refine stop_here ?_)
set_option maxHeartbeats 4000000 in
theorem drawn_tri {prog : Program} {w : World} {loose : List PySem.Str} {mean : ExcName → Option Value} {mg mb : PySem.Str → Option Value} {H : Heap} {x : Int} {xt : Tok} :
    Tri prog w loose mean mg mb 60 148 [.int x xt] H (fun _ v => ∃ y t, v = .int y t) (fun _ => False) := by
  intro env outer A₀ base h₀ L m s Q E hs B F X T hfr hck hret hraise
  w_on
  w_top on
  obtain ⟨hh, gens, dr, tk, os⟩ := s
  dsimp only at hs
  subst hs
  refine wpAny_call ?_
  k_dflt (refine' enter B F X T hfr hck ?kA ?k6 ?k7 ?k8 ?k9 ?kB ?_ ?c2 ?c3 ?c4 ?c5)
  case kA => rfl
  case k6 => k_is
  case k7 => k_is
  case k8 => exact Nat.le_of_ble_eq_true rfl
  case k9 => exact BindsTo.of_eq rfl
  case kB => exact locs rfl
  case c2 => rfl
  case c3 => rfl
  case c4 => rfl
  case c5 => decide
  intro g L' h₁ hgg F' N' B' X' T'
  dsimp only at hgg
  subst hgg
  clear F
  replace F' : Fr g L' h₁ (fun y => List.lookup y [(PySem.Str.ofString "cell", .int x xt)]) := F'
  dsimp only
  k_steps
  all_goals exact hret _ _ _ (Fr.keep (by assumption)) ⟨_, _, rfl⟩

end Mine

namespace Mine
open PySem PySem.W PyProof.Rows PySem.Calls PySem.Spec
set_option maxRecDepth 100000
theorem fm7 (r : Int) : Int.fmod r 128 = r % 128 := Int.fmod_eq_emod_of_nonneg r (by decide)
theorem fd7 (r : Int) : Int.fdiv r 128 = r / 128 := Int.fdiv_eq_ediv_of_nonneg r (by decide)
structure FInv (x : Int) (i : Nat) (gs : List Int) (rest : Int) : Prop where
  eq : gs = digs x i
  rest : rest = x / 128 ^ i
  pos : ∀ j, 1 ≤ j → j ≤ i → 0 < x / 128 ^ j
theorem FInv.start (x : Int) : FInv x 0 [] x := ⟨rfl, by simp, fun j h1 h2 => by omega⟩
theorem FInv.len {x : Int} {i : Nat} {gs : List Int} {rest : Int} (U : FInv x i gs rest) : gs.length = i := by rw [U.eq, digs_length]
theorem FInv.step {x : Int} {i : Nat} {gs : List Int} {rest : Int} (U : FInv x i gs rest) (h0 : 0 ≤ x) (h : Int.fdiv rest 128 ≠ 0) : FInv x (i + 1) (gs ++ [Int.fmod rest 128]) (Int.fdiv rest 128) := by
  rw [fd7] at *
  rw [fm7]
  have e : rest / 128 = x / 128 ^ (i + 1) := by rw [U.rest, div_pow_succ]
  have hnn : 0 ≤ x / 128 ^ (i + 1) := Int.ediv_nonneg h0 (Int.le_of_lt (Int.pow_pos (by decide)))
  refine ⟨?_, e, fun j h1 h2 => ?_⟩
  · rw [digs_succ, ← U.rest, ← U.eq]
  · by_cases hj : j ≤ i
    · exact U.pos j h1 hj
    · have : j = i + 1 := by omega
      rw [this]; omega
theorem FInv.brk {x : Int} {i : Nat} {gs : List Int} {rest : Int} (U : FInv x i gs rest) (hi : i < 10) (h : Int.fdiv rest 128 = 0) : UOut x (gs ++ [Int.fmod rest 128]) := by
  rw [fd7] at *
  rw [fm7]
  have e : rest / 128 = x / 128 ^ (i + 1) := by rw [U.rest, div_pow_succ]
  have hl := U.len
  have hl' : (gs ++ [rest % 128]).length = i + 1 := by simp [hl]
  refine ⟨by omega, by omega, ?_, fun j h1 h2 => U.pos j h1 (by omega), .inl ?_⟩
  · rw [hl', digs_succ, ← U.rest, ← U.eq]
  · rw [hl', ← e]; exact h
theorem FInv.not_ten {x : Int} {gs : List Int} {rest : Int} (U : FInv x 10 gs rest) (h0 : 0 ≤ x) (hx : x < 128 ^ 10) : False := by
  have := U.pos 10 (by decide) (by decide)
  rw [(div0_iff h0 (by decide)).mpr hx] at this
  omega
/-- the groups are told by the number -/
theorem UOut.same {x : Int} {gs gs' : List Int} (U : UOut x gs) (V : UOut x gs') : gs = gs' := by
  have : gs.length = gs'.length := by
    rcases Nat.lt_trichotomy gs.length gs'.length with h | h | h
    · exfalso
      rcases U.fin with f | f
      · have := V.pos _ U.ge h; omega
      · have := V.le; omega
    · exact h
    · exfalso
      rcases V.fin with f | f
      · have := U.pos _ V.ge h; omega
      · have := U.le; omega
  rw [U.eq, V.eq, this]
end Mine

namespace Mine
open PySem PySem.W PyProof.Rows PySem.Calls PySem.Spec
set_option maxRecDepth 100000
theorem py128n : ∀ n : Fin 12, ((128 : Int) ^ n.val).natAbs.log2 < 9000 := by decide +kernel
theorem py128 {k : Int} (h0 : 0 ≤ k) (h : k < 12) : ((128 : Int) ^ k.toNat).natAbs.log2 < 9000 := py128n ⟨k.toNat, by omega⟩
theorem sdig_one {x : Int} {i j : Nat} (hj : j ≤ i) : (x + 2 * (64 * 128 ^ i)) / 128 ^ j % 128 = x / 128 ^ j % 128 := by
  have hp : (0 : Int) < 128 ^ j := Int.pow_pos (by decide)
  obtain ⟨d, rfl⟩ : ∃ d, i = j + d := ⟨i - j, by omega⟩
  have e : 2 * (64 * (128 : Int) ^ (j + d)) = 128 ^ j * (128 * 128 ^ d) := by
    rw [Int.pow_add]
    have : 2 * (64 * ((128 : Int) ^ j * 128 ^ d)) = 128 * (128 ^ j * 128 ^ d) := by omega
    rw [this, Int.mul_left_comm]
  rw [e, Int.add_mul_ediv_left _ _ (Int.ne_of_gt hp), Int.add_mul_emod_self_left]
theorem sdigs {x rest : Int} {i : Nat} (h : rest = x ∨ rest = x + 2 * (64 * 128 ^ i)) : (rangeKs 0 (1 + (i : Int) - 0).toNat).map (fun k => (rest.fdiv (128 ^ k.toNat)).fmod 128) = digs x (i + 1) := by
  have e : (1 + (i : Int) - 0).toNat = i + 1 := by omega
  rw [e]
  unfold rangeKs digs
  rw [List.map_map]
  refine List.map_congr_left fun j hj => ?_
  have hj' := List.mem_range.mp hj
  have e2 : ((0 : Int) + (j : Int)).toNat = j := by omega
  show ((rest.fdiv (128 ^ ((0 : Int) + (j : Int)).toNat)).fmod 128) = _
  rw [e2, fm7, Int.fdiv_eq_ediv_of_nonneg rest (Int.le_of_lt (Int.pow_pos (by decide)))]
  rcases h with rfl | rfl
  · rfl
  · exact sdig_one (by omega)
theorem fits_at {x : Int} {j : Nat} : Fits7 (x / 128 ^ j) ↔ -(64 * 128 ^ j) ≤ x ∧ x < 64 * 128 ^ j := fits_iff (Int.pow_pos (by decide))
theorem signed_out {x : Int} {i : Nat} (hi : i < 10) (h : -(64 * 128 ^ i) ≤ x ∧ x < 64 * 128 ^ i) (hn : ∀ j, j < i → ¬ (-(64 * 128 ^ j) ≤ x ∧ x < 64 * 128 ^ j)) : SOut x (digs x (i + 1)) := by
  have el := digs_length x (i + 1)
  refine ⟨by omega, by omega, by rw [el], fun j hj => ?_, .inl ?_⟩
  · rw [fits_at]; exact hn j (by omega)
  · rw [el, fits_at]; exact h
theorem signed_none {x : Int} (hn : ∀ j, j < 10 → ¬ (-(64 * 128 ^ j) ≤ x ∧ x < 64 * 128 ^ j)) : ¬ Fits7 (x / 128 ^ 9) := by
  rw [fits_at]; exact hn 9 (by decide)
theorem SOut.same {x : Int} {gs gs' : List Int} (U : SOut x gs) (V : SOut x gs') : gs = gs' := by
  have : gs.length = gs'.length := by
    have h1 := U.ge
    have h2 := V.ge
    have h3 := U.le
    have h4 := V.le
    rcases Nat.lt_trichotomy gs.length gs'.length with h | h | h
    · exfalso
      rcases U.fin with f | f
      · exact V.pos _ (by omega) f
      · omega
    · exact h
    · exfalso
      rcases V.fin with f | f
      · exact U.pos _ (by omega) f
      · omega
  rw [U.eq, V.eq, this]
end Mine

namespace Mine
open PySem PySem.W PyProof.Rows PySem.Calls PySem.Spec
set_option maxRecDepth 100000
local macro_rules | `(tactic| walk_at "exec Raise some none") => `(tactic| (k_here; k_dflt (first
  | (refine' raise_exc ?F ?X ?T (own_59 _) (name_59 _) (keep_59 _) ?hA ?hh ?hk ?hkx ?hd ?_; (case F => k_asm); (case X => k_asm); (case T => k_asm); (case hA => exact Nat.le_of_ble_eq_true rfl); (case hh => exact rfl); (case hk => exact rfl); (case hkx => exact rfl); (case hd => decide); k_whole)
  | (refine' raise_exc ?F ?X ?T (own_71 _) (name_71 _) (keep_71 _) ?hA ?hh ?hk ?hkx ?hd ?_; (case F => k_asm); (case X => k_asm); (case T => k_asm); (case hA => exact Nat.le_of_ble_eq_true rfl); (case hh => exact rfl); (case hk => exact rfl); (case hkx => exact rfl); (case hd => decide); k_whole)); intro h' e' tk' hO'))
local macro_rules | `(tactic| walk_at "leaving ref") => `(tactic| (k_here; (with_reducible rename NewO _ _ _ _ => hO9); (refine' leave_newO ?k1 hO9 ?k2 ?_; (case k1 => assumption); (case k2 => assumption); k_whole); intro h' R' U'))
local macro_rules | `(tactic| walk_at "exec While") => `(tactic| refine stop_here ?_)
local macro_rules | `(tactic| walk_at "exec While BoolOp") => `(tactic| refine stop_here ?_)
local macro_rules | `(tactic| walk_at "exec While UnaryOp") => `(tactic| refine stop_here ?_)
local macro_rules | `(tactic| walk_at "call ref") => `(tactic| refine stop_here ?_)
local macro_rules | `(tactic| walk_at "exec For Name") => `(tactic| refine stop_here ?_)
local macro_rules | `(tactic| walk_at "exec For Name Call cons nil") => `(tactic| refine stop_here ?_)
local macro_rules | `(tactic| walk_at "exec For Name Name cons nil") => `(tactic| refine stop_here ?_)
local macro_rules | `(tactic| walk_at "pyIter ref") => `(tactic| refine stop_here ?_)
set_option maxHeartbeats 4000000 in
theorem unsigned_tri {prog : Program} {w : World} {loose : List PySem.Str} {mean : ExcName → Option Value} {mg mb : PySem.Str → Option Value} {H : Heap} {x : Int} {xt : Tok} :
    Tri prog w loose mean mg mb 60 155 [.int x xt] H (fun h' v => (¬ (0 ≤ x ∧ x < 128 ^ 10) ∧ v = .none) ∨ (0 ≤ x ∧ x < 128 ^ 10 ∧ ∃ gs r vs n, UOut x gs ∧ v = .ref r ∧ h'.get? r = some (listOf vs.toArray n) ∧ H.get? r = none ∧ IntsAre vs gs)) (fun _ => False) := by
  intro env outer A₀ base h₀ L m s Q E hs B F X T hfr hck hret hraise
  w_on
  w_top on
  obtain ⟨hh, gens, dr, tk, os⟩ := s
  dsimp only at hs
  subst hs
  refine wpAny_call ?_
  k_dflt (refine' enter B F X T hfr hck ?kA ?k6 ?k7 ?k8 ?k9 ?kB ?_ ?c2 ?c3 ?c4 ?c5)
  case kA => rfl
  case k6 => k_is
  case k7 => k_is
  case k8 => exact Nat.le_of_ble_eq_true rfl
  case k9 => exact BindsTo.of_eq rfl
  case kB => exact locs rfl
  case c2 => rfl
  case c3 => rfl
  case c4 => rfl
  case c5 => decide
  intro g L' h₁ hgg F' N' B' X' T'
  dsimp only at hgg
  subst hgg
  clear F
  replace F' : Fr g L' h₁ (fun y => List.lookup y [(PySem.Str.ofString "worth", .int x xt)]) := F'
  dsimp only
  k_steps
  · refine Stop.go ?_
    rename (x < _) => hx10
    have hx' : x < 128 ^ 10 := hx10
    refine wpAny_For ?_ (by intro _; rfl)
    k_steps
    refine Stop.go ?_
    rename News g L' _ [(_, _), (_, _)] => NX
    have NZ := fun p hp => NX p (List.mem_cons_of_mem _ hp)
    clear NX
    refine iter_rng1 (τ := Int × Nat) (vs₀ := []) (gs₀ := []) (n := 10) (fun g' => g' = g) (fun c => [(PySem.Str.ofString "rest", some (.int c.1 c.2))]) (fun i gs c => FInv x i gs c.1) (x, xt) rfl (by assumption) (by decide) (by decide) rfl (by assumption) NZ IntsAre.nil (fun p hp => by rw [List.mem_singleton.mp hp]; rfl) (FInv.start x) rfl rfl ?_ ?_ (by passes_own)
    · clear NZ
      rintro i vs gs k ⟨rest, rt⟩ g' h tk' t ia io hi10 hi U rfl FX NX hlt
      have hl := U.len
      have hvl := hi.length
      have hvz : vs.toArray.size ≤ 20 := by rw [List.size_toArray]; omega
      dsimp only [over] at FX U ⊢
      change Fr g' L' _ _ at FX
      change News g' L' _ _ at NX
      k_steps
      dsimp only [List.cons_append, List.nil_append]
      refine append_K FX NX (.tail (Nat.ne_of_gt hlt) (.head (fun _ h => nomatch h))) (fun h' F' N' => ?_) (by rw [sizeLine_eq]; omega)
      clear FX NX
      dsimp only
      k_steps
      · have V := U.brk hi10 (by assumption)
        rename News g' L' _ [_, _] => NY
        dsimp only [RnPost]
        k_steps
        have NZ := NY _ (List.mem_cons_of_mem _ (List.mem_cons_self ..))
        rw [List.push_toArray] at NZ
        exact hret _ _ _ (Fr.keep (by assumption)) (.inr ⟨by assumption, hx', _, _, _, _, V, rfl, NZ.1, NZ.2.2, IntsAre.append hi (IntsAre.cons _ _ IntsAre.nil)⟩)
      · rename Fr g' L' _ _ => FY
        rename News g' L' _ [_, _] => NY
        simp only [List.push_toArray] at NY
        exact ⟨(_, gs ++ [Int.fmod rest 128], _, (_, _)), _, _, _, _, rfl, rfl, FY, over_rng, (fun p hp => NY p (List.mem_cons_of_mem _ hp)), (fun p hp => NY p (by rw [List.mem_singleton.mp hp]; exact List.Mem.head _)), IntsAre.append hi (IntsAre.cons _ _ IntsAre.nil), U.step (by assumption) (by assumption)⟩
    · rintro vs gs k ⟨rest, rt⟩ g' h tk' u hi U rfl FX NX
      exact (U.not_ten (by assumption) hx').elim
  all_goals exact hret _ _ _ (Fr.keep (by assumption)) (.inl ⟨by (intro q; first | exact absurd q.2 (by assumption) | exact absurd q.1 (by assumption)), rfl⟩)
end Mine

namespace Mine
open PySem PySem.W PyProof.Rows PySem.Calls PySem.Spec
set_option maxRecDepth 100000
local macro_rules | `(tactic| walk_at "exec While") => `(tactic| refine stop_here ?_)
local macro_rules | `(tactic| walk_at "call ref") => `(tactic| refine stop_here ?_)
local macro_rules | `(tactic| walk_at "exec For Name") => `(tactic| refine stop_here ?_)
local macro_rules | `(tactic| walk_at "exec For Name Call cons nil") => `(tactic| refine stop_here ?_)
local macro_rules | `(tactic| walk_at "exec For Name Name cons nil") => `(tactic| refine stop_here ?_)
local macro_rules | `(tactic| walk_at "pyIter ref") => `(tactic| refine stop_here ?_)
local macro_rules | `(tactic| walk_at "binaryOp FloorDiv int int") => `(tactic| (k_here; (with_reducible refine floordiv_int (Int.ne_of_gt (Int.pow_pos (by decide))) ?_ (Or.inl (PyProof.noPylong_of_log2 ?kbp))); (case kbp => exact py128 (by omega) (by omega))))
theorem over_rngO {m : PySem.Str → Option Value} {x y : PySem.Str} {v v' u : Option Value} : ∀ z, z ≠ x → (fun z => if z = y then v' else if z = x then u else if z = y then v else m z) z = over m [(y, v')] z := by
  intro z hz
  show (if z = y then v' else if z = x then u else if z = y then v else m z) = if z = y then v' else m z
  by_cases hy : z = y
  · rw [if_pos hy, if_pos hy]
  · rw [if_neg hy, if_neg hz, if_neg hy, if_neg hy]
set_option maxHeartbeats 4000000 in
theorem lsigned_tri {prog : Program} {w : World} {loose : List PySem.Str} {mean : ExcName → Option Value} {mg mb : PySem.Str → Option Value} {H : Heap} {x : Int} {xt : Tok} :
    Tri prog w loose mean mg mb 60 160 [.int x xt] H (fun h' v => (¬ Fits7 (x / 128 ^ 9) ∧ v = .none) ∨ (Fits7 (x / 128 ^ 9) ∧ ∃ gs r vs n, SOut x gs ∧ v = .ref r ∧ h'.get? r = some (listOf vs.toArray n) ∧ H.get? r = none ∧ IntsAre vs gs)) (fun _ => False) := by
  intro env outer A₀ base h₀ L m s Q E hs B F X T hfr hck hret hraise
  w_on
  w_top on
  obtain ⟨hh, gens, dr, tk, os⟩ := s
  dsimp only at hs
  subst hs
  refine wpAny_call ?_
  k_dflt (refine' enterC B F X T hfr hck ?kA ?k6 ?k7 ?k8 ?k9 ?kB ?kD ?_ ?c2 ?c3 ?c4)
  case kA => rfl
  case k6 => k_is
  case k7 => k_is
  case k8 => exact Nat.le_of_ble_eq_true rfl
  case k9 => exact BindsTo.of_eq rfl
  case kB => rfl
  case kD => decide +kernel
  case c2 => rfl
  case c3 => rfl
  case c4 => rfl
  intro g L' h₁ tk' cells' hgg F' N' Y' B' X' T'
  dsimp only at hgg
  subst hgg
  clear F
  have hY := PyProof.Rows.CellsAre.one Y'
  obtain ⟨o', hE', d1'⟩ := hY
  subst hE'
  clear Y'
  replace d1' : o'.data = .cell none := d1'
  replace F' : Fr g L' h₁ (fun y => if y = PySem.Str.ofString "worth" then some (.int x xt) else none) := F'
  dsimp only
  k_steps
  refine Stop.go ?_
  refine wpAny_For ?_ (by intro _; rfl)
  k_steps
  refine Stop.go ?_
  refine iter_rng (τ := Option Value) (n := 10) (fun g' => g' = g) (fun c => [(PySem.Str.ofString "half", c)]) (fun _ => [(L' + 1, o')]) (fun i _ => ∀ j, j < i → ¬ (-(64 * 128 ^ j) ≤ x ∧ x < 64 * 128 ^ j)) none rfl (by assumption) (by decide) (by decide) rfl (by assumption) (by assumption) (fun p hp => by rw [List.mem_singleton.mp hp]; rfl) (fun j h => by omega) (fun _ => rfl) rfl rfl ?_ ?_ (by passes_own)
  · rintro i c g' h tk' t ⟨ia, io⟩ hi10 U rfl FX NC NI hlt
    have hlt' := ltN (hlt _ (.head _))
    clear hlt
    dsimp only at hlt'
    dsimp only [over] at FX ⊢
    change Fr g' L' _ _ at FX
    have NX : News g' L' h [(ia, io), (L' + 1, o')] := fun p hp => by
      rcases List.mem_cons.mp hp with rfl | hp
      · exact NI _ (.head _)
      · exact NC _ hp
    clear NC NI
    have e64 : (64 : Int) * 128 ^ (1 + (i : Int) - 1).toNat = 64 * 128 ^ i := by
      congr 2; omega
    k_steps
    · rename (0 - _ ≤ x) => h1
      rename (x < _) => h2
      rename IntsAre _ _ => iX
      rename News g' L' _ [_, _, _] => NY
      rw [e64] at h1 h2
      rw [sdigs (x := x) (i := i) (.inl rfl)] at iX
      have V := signed_out hi10 ⟨by omega, h2⟩ U
      have hf : Fits7 (x / 128 ^ 9) := V.big.mp (by rw [digs_length]; omega)
      dsimp only [RnPost]
      k_steps
      exact hret _ _ _ (Fr.keep (by assumption)) (.inr ⟨hf, _, _, _, _, V, rfl, (NY _ (.head _)).1, (NY _ (.head _)).2.2, iX⟩)
    · rename (0 - _ ≤ x) => h1
      rename (x < _) => h2
      rename IntsAre _ _ => iX
      rename News g' L' _ [_, _, _] => NY
      rw [e64] at h1 h2 iX
      rw [sdigs (x := x) (i := i) (.inr rfl)] at iX
      have V := signed_out hi10 ⟨by omega, h2⟩ U
      have hf : Fits7 (x / 128 ^ 9) := V.big.mp (by rw [digs_length]; omega)
      dsimp only [RnPost]
      k_steps
      exact hret _ _ _ (Fr.keep (by assumption)) (.inr ⟨hf, _, _, _, _, V, rfl, (NY _ (.head _)).1, (NY _ (.head _)).2.2, iX⟩)
    all_goals
      rename Fr g' L' _ _ => FY
      rename News g' L' _ [_, _] => NY
      rw [e64] at *
      exact ⟨some _, _, _, _, _, rfl, rfl, FY, over_rngO, (fun p hp => NY p (List.mem_cons_of_mem _ hp)), (fun p hp => NY p (by rw [List.mem_singleton.mp hp]; exact List.Mem.head _)), fun j hj => by
        by_cases hji : j < i
        · exact U j hji
        · have : j = i := by omega
          subst this
          omega⟩
  · rintro c g' h tk' u U rfl FX NC
    dsimp only [over] at FX ⊢
    k_steps
    try dsimp only
    exact hret _ _ _ (Fr.keep (by assumption)) (.inl ⟨signed_none U, rfl⟩)
end Mine

namespace Mine
open PySem PySem.W PyProof.Rows PySem.Calls PySem.Spec
set_option maxRecDepth 100000
theorem oct_enc {gs : List Int} (h : 0 < gs.length) : (gs.take (gs.length - 1)).map (fun k' => k' + 128) ++ gs.drop (gs.length - 1) = enc gs := by
  have hne : gs ≠ [] := by intro q; subst q; simp at h
  obtain ⟨a, l, rfl⟩ : ∃ a l, gs = l ++ [a] := ⟨gs.getLast hne, gs.dropLast, (List.dropLast_concat_getLast hne).symm⟩
  unfold enc
  simp [Int.add_comm]
local macro_rules | `(tactic| walk_at "call ref") => `(tactic| refine stop_here ?_)
set_option maxHeartbeats 4000000 in
theorem loctets_tri {prog : Program} {w : World} {loose : List PySem.Str} {mean : ExcName → Option Value} {mg mb : PySem.Str → Option Value} {H : Heap} {l : PySem.Addr} {vs : List Value} {gs : List Int}
    (hl : H.IsList l vs.toArray) (hi : IntsAre vs gs) (hg : ∀ g ∈ gs, 0 ≤ g ∧ g < 128) (h0 : 0 < gs.length) (h11 : gs.length ≤ 11) :
    Tri prog w loose mean mg mb 60 165 [.ref l] H (fun _ v => ∃ b t, v = .bytes b t ∧ KBw.bInts b = enc gs) (fun _ => False) := by
  intro env outer A₀ base h₀ L m s Q E hs B F X T hfr hck hret hraise
  w_on
  w_top on
  obtain ⟨hh, gens, dr, tk, os⟩ := s
  dsimp only at hs
  subst hs
  refine wpAny_call ?_
  k_dflt (refine' enter B F X T hfr hck ?kA ?k6 ?k7 ?k8 ?k9 ?kB ?_ ?c2 ?c3 ?c4 ?c5)
  case kA => rfl
  case k6 => k_is
  case k7 => k_is
  case k8 => exact Nat.le_of_ble_eq_true rfl
  case k9 => exact BindsTo.of_eq rfl
  case kB => exact locs rfl
  case c2 => rfl
  case c3 => rfl
  case c4 => rfl
  case c5 => decide
  intro g L' h₁ hgg F' N' B' X' T'
  dsimp only at hgg
  subst hgg
  clear F
  replace F' : Fr g L' h₁ (fun y => List.lookup y [(PySem.Str.ofString "figures", .ref l)]) := F'
  dsimp only
  k_steps
  rename IntsAre _ (_ ++ _) => iX
  rw [oct_enc h0] at iX
  have hin := enc_in hg
  have hle := enc_length h0
  k_steps
  exact hret _ _ _ (Fr.keep (by assumption)) ⟨_, _, rfl, KBa.ints_make hin⟩
end Mine

namespace Mine
open PySem PySem.W PyProof.Rows PySem.Calls PySem.Spec
set_option maxRecDepth 100000
theorem enc_one (g : Int) : enc [g] = [g] := rfl
theorem enc_cons (g h : Int) (r : List Int) : enc (g :: h :: r) = (128 + g) :: enc (h :: r) := by
  unfold enc
  simp [List.dropLast, List.getLast?_cons_cons]
theorem rgo_enc : ∀ {gs : List Int} {n : Nat} {tail : List Int}, 0 < gs.length → gs.length ≤ n → (∀ g ∈ gs, 0 ≤ g ∧ g < 128) → rgo n (enc gs ++ tail) = some gs
  | [], _, _, h, _, _ => nomatch h
  | [g], n, tail, _, hn, hg => by
    obtain ⟨k, rfl⟩ : ∃ k, n = k + 1 := ⟨n - 1, by simp at hn; omega⟩
    have := hg g (List.mem_cons_self ..)
    rw [enc_one, List.singleton_append, rgo_cons, if_pos this.2]
    congr 2
    omega
  | g :: h :: r, n, tail, _, hn, hg => by
    obtain ⟨k, rfl⟩ : ∃ k, n = k + 1 := ⟨n - 1, by simp at hn; omega⟩
    have := hg g (List.mem_cons_self ..)
    rw [enc_cons, List.cons_append, rgo_cons, if_neg (by omega), rgo_enc (by simp) (by simpa using hn) fun k hk => hg k (List.mem_cons_of_mem _ hk)]
    simp only [Option.map_some]
    congr 2
    omega
theorem rgo_cut : ∀ {gs : List Int} {n cut : Nat}, cut < gs.length → (∀ g ∈ gs, 0 ≤ g ∧ g < 128) → rgo n ((enc gs).take cut) = none
  | [], _, _, h, _ => by simp at h
  | [g], n, cut, h, _ => by
    have : cut = 0 := by simp at h; omega
    subst this
    cases n <;> rfl
  | g :: h :: r, n, cut, hc, hg => by
    cases cut with
    | zero => cases n <;> rfl
    | succ c =>
      rw [enc_cons, List.take_succ_cons]
      cases n with
      | zero => rfl
      | succ n =>
        have := hg g (List.mem_cons_self ..)
        rw [rgo_cons, if_neg (by omega), rgo_cut (by simpa using hc) fun k hk => hg k (List.mem_cons_of_mem _ hk)]
        rfl
theorem rgo_long : ∀ {gs : List Int} {n : Nat}, n < gs.length → (∀ g ∈ gs, 0 ≤ g ∧ g < 128) → rgo n (enc gs) = none
  | [], _, h, _ => by simp at h
  | [g], n, h, _ => by
    have : n = 0 := by simp at h; omega
    subst this
    rfl
  | g :: h :: r, n, hc, hg => by
    rw [enc_cons]
    cases n with
    | zero => rfl
    | succ n =>
      have := hg g (List.mem_cons_self ..)
      rw [rgo_cons, if_neg (by omega), rgo_long (by simpa using hc) fun k hk => hg k (List.mem_cons_of_mem _ hk)]
      rfl
theorem digs_cons (x : Int) (n : Nat) : digs x (n + 1) = x % 128 :: digs (x / 128) n := by
  unfold digs
  rw [List.range_succ_eq_map, List.map_cons, List.map_map]
  congr 1
  · simp
  · refine List.map_congr_left fun i _ => ?_
    show x / 128 ^ (i + 1) % 128 = x / 128 / 128 ^ i % 128
    rw [Int.ediv_ediv_of_nonneg (by decide), Int.pow_succ, Int.mul_comm]
theorem val_digs : ∀ (n : Nat) (x : Int), val (digs x n) = x % 128 ^ n
  | 0, x => by simp [digs, val, Int.emod_one]
  | n + 1, x => by
    rw [digs_cons]
    show x % 128 + 128 * val (digs (x / 128) n) = _
    rw [val_digs n]
    have hp : (0 : Int) < 128 ^ n := Int.pow_pos (by decide)
    have h1 := Int.mul_ediv_add_emod x 128
    have h2 := Int.mul_ediv_add_emod (x / 128) (128 ^ n)
    have h3 := Int.emod_nonneg (x / 128) (Int.ne_of_gt hp)
    have h4 := Int.emod_lt_of_pos (x / 128) hp
    have h5 : (128 : Int) ^ (n + 1) = 128 * 128 ^ n := by rw [Int.pow_succ, Int.mul_comm]
    rw [h5]
    generalize hq : x / 128 / 128 ^ n = q at *
    generalize hr : (x / 128) % 128 ^ n = r at *
    generalize hp' : (128 : Int) ^ n = p at *
    have e : x = (x % 128 + 128 * r) + (128 * p) * q := by
      have : 128 * p * q = 128 * (p * q) := Int.mul_assoc ..
      omega
    have hlt : 0 ≤ x % 128 + 128 * r ∧ x % 128 + 128 * r < 128 * p := by omega
    rw [← Int.emod_eq_of_lt hlt.1 hlt.2]
    conv => rhs; rw [e]
    rw [Int.add_mul_emod_self_left]
theorem digs_more {x : Int} {n : Nat} {f : Int} (h : ∀ j, n ≤ j → x / 128 ^ j % 128 = f) : ∀ k, digs x n ++ List.replicate k f = digs x (n + k)
  | 0 => by simp
  | k + 1 => by
    have ih := digs_more h k
    rw [show n + (k + 1) = n + k + 1 from rfl, digs_succ, ← ih, h _ (Nat.le_add_right ..), List.append_assoc, List.replicate_succ']
theorem pow_up {n m : Nat} (h : n ≤ m) : (128 : Int) ^ n ≤ 128 ^ m := by
  have hn : (128 : Nat) ^ n ≤ 128 ^ m := Nat.pow_le_pow_right (by decide) h
  exact_mod_cast hn
theorem UOut.val {x : Int} {gs : List Int} (U : UOut x gs) (h0 : 0 ≤ x) (h10 : gs.length ≤ 10) (k : Nat) : val (gs ++ List.replicate k 0) = x := by
  have hz : x / 128 ^ gs.length = 0 := by
    rcases U.fin with f | f
    · exact f
    · omega
  have hx := (div0_iff h0 (Int.pow_pos (by decide))).mp hz
  have hm : ∀ j, gs.length ≤ j → x / 128 ^ j % 128 = 0 := fun j hj => by
    rw [(div0_iff h0 (Int.pow_pos (by decide))).mpr (Int.lt_of_lt_of_le hx (pow_up hj))]; rfl
  rw [U.eq, digs_length] at *
  rw [digs_more hm, val_digs]
  exact Int.emod_eq_of_lt h0 (Int.lt_of_lt_of_le hx (pow_up (Nat.le_add_right ..)))
theorem sval_digs {x : Int} {n : Nat} (h : -(64 * 128 ^ n) ≤ x ∧ x < 64 * 128 ^ n) : sval (digs x (n + 1)) = x := by
  unfold sval
  rw [digs_length, val_digs]
  have e1 : (2 : Int) ^ (7 * (n + 1) - 1) = 64 * 128 ^ n := by
    rw [show 7 * (n + 1) - 1 = 7 * n + 6 by omega, Int.pow_add, Int.pow_mul, Int.mul_comm]; rfl
  have e2 : (2 : Int) ^ (7 * (n + 1)) = 128 * 128 ^ n := by
    rw [show 7 * (n + 1) = 7 * n + 7 by omega, Int.pow_add, Int.pow_mul, Int.mul_comm]; rfl
  have e3 : (128 : Int) ^ (n + 1) = 128 * 128 ^ n := by rw [Int.pow_succ, Int.mul_comm]
  rw [e1, e2, e3]
  generalize hp : (128 : Int) ^ n = p at *
  by_cases hx : 0 ≤ x
  · rw [Int.emod_eq_of_lt hx (by omega), if_neg (by omega)]
  · have : x % (128 * p) = x + 128 * p := by
      rw [← Int.add_emod_right, Int.emod_eq_of_lt (by omega) (by omega)]
    rw [this, if_pos (by omega)]
    omega
theorem SOut.sval {x : Int} {gs : List Int} (U : SOut x gs) (h10 : gs.length ≤ 10) (k : Nat) : sval (gs ++ List.replicate k (if x < 0 then 127 else 0)) = x := by
  have hge := U.ge
  have hz : Fits7 (x / 128 ^ (gs.length - 1)) := by
    rcases U.fin with f | f
    · exact f
    · omega
  have hx := fits_at.mp hz
  obtain ⟨n, hn⟩ : ∃ n, gs.length = n + 1 := ⟨gs.length - 1, by omega⟩
  have hn' : gs.length - 1 = n := by omega
  rw [hn'] at hx
  have hm : ∀ j, gs.length ≤ j → x / 128 ^ j % 128 = if x < 0 then 127 else 0 := fun j hj => by
    have hp := pow_up (show n + 1 ≤ j by omega)
    have e3 : (128 : Int) ^ (n + 1) = 128 * 128 ^ n := by rw [Int.pow_succ, Int.mul_comm]
    have hpp : (0 : Int) < 128 ^ n := Int.pow_pos (by decide)
    have hpj : (0 : Int) < 128 ^ j := Int.pow_pos (by decide)
    rw [e3] at hp
    generalize hp' : (128 : Int) ^ n = p at *
    generalize hq' : (128 : Int) ^ j = q at *
    by_cases h0 : x < 0
    · rw [if_pos h0]
      have : x / q = -1 := by
        have e : x = (x + q) + (-1) * q := by omega
        rw [e, Int.add_mul_ediv_right _ _ (Int.ne_of_gt hpj), Int.ediv_eq_zero_of_lt (by omega) (by omega)]
        rfl
      rw [this]; rfl
    · rw [if_neg h0, Int.ediv_eq_zero_of_lt (by omega) (by omega)]; rfl
  have hb : -(64 * 128 ^ (n + k)) ≤ x ∧ x < 64 * 128 ^ (n + k) := by
    have := pow_up (Nat.le_add_right n k)
    omega
  have eg := U.eq
  rw [hn] at eg hm
  rw [eg, digs_more hm, show n + 1 + k = n + k + 1 by omega]
  exact sval_digs hb
end Mine

namespace Mine
open PySem PySem.W PyProof.Rows PySem.Calls PySem.Spec
set_option maxRecDepth 100000
local macro_rules | `(tactic| walk_at "exec While") => `(tactic| refine stop_here ?_)
local macro_rules | `(tactic| walk_at "call ref") => `(tactic| refine stop_here ?_)
local macro_rules | `(tactic| walk_at "exec For Name") => `(tactic| refine stop_here ?_)
local macro_rules | `(tactic| walk_at "exec For Name Call cons nil") => `(tactic| refine stop_here ?_)
local macro_rules | `(tactic| walk_at "exec For Name Name cons nil") => `(tactic| refine stop_here ?_)
local macro_rules | `(tactic| walk_at "pyIter ref") => `(tactic| refine stop_here ?_)
set_option maxHeartbeats 8000000 in
theorem rows_none {prog : Program} {w : World} {loose : List PySem.Str} {mean : ExcName → Option Value} {mg mb : PySem.Str → Option Value} {H : Heap} {wr rd : PySem.Addr} {x fill : Int} {xt ft : Tok}
    (hkw : keepIn (hd.heap_39 w.params) (.ref wr) = true) (hkr : keepIn (hd.heap_39 w.params) (.ref rd) = true)
    (Cw : ∀ H', Tri prog w loose mean mg mb 50 wr [.int x xt] H' (fun _ _ => False) (fun C => C = 59)) :
    TriT prog w loose mean mg mb 10 184 [.int x xt, .none, .int fill ft, .ref wr, .ref rd] H (fun _ v => v = .bool true) := by
  intro env outer A₀ base h₀ L m s Q E hs B F X T hfr hck XB TB D hret
  w_on
  w_top on
  obtain ⟨hh, gens, dr, tk, os⟩ := s
  dsimp only at hs
  subst hs
  refine wpAny_call ?_
  k_dflt (refine' enterC B F X T hfr hck ?kA ?k6 ?k7 ?k8 ?k9 ?kB ?kD ?_ ?c2 ?c3 ?c4)
  case kA => rfl
  case k6 => k_is
  case k7 => k_is
  case k8 => exact Nat.le_of_ble_eq_true rfl
  case k9 => exact BindsTo.of_eq rfl
  case kB => rfl
  case kD => decide +kernel
  case c2 => rfl
  case c3 => rfl
  case c4 => rfl
  intro g L' h₁ tk' cells' hgg F' N' Y' B' X' T'
  dsimp only at hgg
  subst hgg
  have hY := PyProof.Rows.CellsAre.one Y'
  obtain ⟨o', hE', d1'⟩ := hY
  subst hE'
  clear Y'
  replace d1' : o'.data = .cell (some (.int x xt)) := d1'
  replace F' : Fr g L' h₁ (fun y => if y = PySem.Str.ofString "read" then some (.ref rd) else if y = PySem.Str.ofString "write" then some (.ref wr) else if y = PySem.Str.ofString "fill" then some (.int fill ft) else if y = PySem.Str.ofString "figures" then some .none else none) := F'
  have D' := dicts_push F hfr D
  have G₀ := Gr.start B' X' T' D'
  dsimp only
  k_steps
  refine Stop.go ?_
  rename Fr g L' _ _ => FX
  rename News g L' _ _ => NX
  refine trit_gr (lwritten_trit (Cw) (fun _ q => q) hkw) G₀ FX NX XB TB rfl rfl rfl rfl (Nat.le_of_ble_eq_true rfl) (Nat.le_of_ble_eq_true rfl) (fun v h₀' h' tk' G F₃ N₃ _ o => ?_)
  obtain ⟨_, -, o⟩ | ⟨rfl, -⟩ := o
  · exact o.elim
  clear FX NX
  dsimp only
  k_steps
  obtain ⟨_, T1, F1, S1, B1, X1, P1, D1⟩ := back_turn B F hfr G.turn (Fr.keep (by assumption)) XB TB D
  exact hret _ _ _ _ T1 F1 S1 B1 X1 P1 D1 rfl
end Mine

namespace Mine
open PySem PySem.W PyProof.Rows PySem.Calls PySem.Spec
set_option maxRecDepth 100000
theorem list_stays {h h' : Heap} {l : PySem.Addr} {xs : Array Value} (S : h.StaysIn h') (hl : h.IsList l xs) : h'.IsList l xs := by
  obtain ⟨o, ho, r⟩ := hl
  exact ⟨o, S _ _ ho, r⟩
theorem rng_small : ∀ n : Nat, n ≤ 11 → Builtin.Range.small 0 (n : Int) 1 = true ∧ Builtin.Range.rangeSize 0 (n : Int) 1 = (n : Int) := by
  have h : ∀ n : Fin 12, Builtin.Range.small 0 ((n.val : Nat) : Int) 1 = true ∧ Builtin.Range.rangeSize 0 ((n.val : Nat) : Int) 1 = ((n.val : Nat) : Int) := by decide +kernel
  exact fun n hn => h ⟨n, by omega⟩
theorem cut_drop {as es ts : List Int} {cut : Nat} (h : cut ≤ es.length) : ((as ++ es ++ ts).take (clipAt (as ++ es ++ ts).length ((as.length : Int) + (0 + (cut : Int))))).drop as.length = es.take cut := by
  have e : (as.length : Int) + (0 + (cut : Int)) = ((as.length + cut : Nat) : Int) := by omega
  rw [e, clipAt_nat]
  have e2 : min (as.length + cut) (as ++ es ++ ts).length = as.length + cut := by
    simp only [List.length_append]
    omega
  rw [e2, List.append_assoc, List.take_append, List.take_of_length_le (by omega), List.drop_left, Nat.add_sub_cancel_left, List.take_append_of_le_length h]
theorem addr_of {a b : PySem.Addr} (_ : a < b) : ∃ c, c = b := ⟨b, rfl⟩
theorem news_split {g h : Heap} {L : PySem.Addr} {p q r : PySem.Addr × Obj} (N : News g L h [p, q, r]) : News g L h [p, r] ∧ News g L h [q] :=
  ⟨fun a ha => by
    rcases List.mem_cons.mp ha with rfl | ha
    · exact N _ (.head _)
    · exact N _ (.tail _ (.tail _ ha)), fun a ha => by rw [List.mem_singleton.mp ha]; exact N _ (.tail _ (.head _))⟩
theorem bints_inj {b c : Array UInt8} (h : KBw.bInts b = KBw.bInts c) : b = c := by
  apply Array.toList_inj.mp
  have hf : ∀ (l r : List UInt8), (l.map fun c => (c.toNat : Int)) = r.map (fun c => (c.toNat : Int)) → l = r := by
    intro l
    induction l with
    | nil => intro r h; cases r with
      | nil => rfl
      | cons => simp at h
    | cons a l ih => intro r h; cases r with
      | nil => simp at h
      | cons d r =>
        simp only [List.map_cons, List.cons.injEq] at h
        have h1 : a.toNat = d.toNat := by omega
        rw [UInt8.toNat_inj.mp h1, ih r h.2]
  exact hf _ _ h
local macro_rules | `(tactic| walk_at "exec While") => `(tactic| refine stop_here ?_)
local macro_rules | `(tactic| walk_at "call ref") => `(tactic| refine stop_here ?_)
local macro_rules | `(tactic| walk_at "exec For Name") => `(tactic| refine stop_here ?_)
local macro_rules | `(tactic| walk_at "exec For Name Call cons nil") => `(tactic| refine stop_here ?_)
local macro_rules | `(tactic| walk_at "exec For Name Name cons nil") => `(tactic| refine stop_here ?_)
local macro_rules | `(tactic| walk_at "pyIter ref") => `(tactic| refine stop_here ?_)
set_option maxHeartbeats 8000000 in
theorem rows_some {prog : Program} {w : World} {loose : List PySem.Str} {mean : ExcName → Option Value} {mg mb : PySem.Str → Option Value} {H : Heap} {wr rd l : PySem.Addr} {vs : List Value} {gs : List Int} {V : List Int → Int} {x fill : Int} {xt ft : Tok}
    (hkw : keepIn (hd.heap_39 w.params) (.ref wr) = true) (hkr : keepIn (hd.heap_39 w.params) (.ref rd) = true)
    (hl : H.IsList l vs.toArray) (hi : IntsAre vs gs) (hg : ∀ g ∈ gs, 0 ≤ g ∧ g < 128) (h0 : 0 < gs.length) (h10 : gs.length ≤ 10) (hf0 : 0 ≤ fill) (hf1 : fill < 128)
    (hV : ∀ k, gs.length + k ≤ 10 → V (gs ++ List.replicate k fill) = x)
    (Cw : ∀ H', Tri prog w loose mean mg mb 50 wr [.int x xt] H' (fun _ v => ∃ b t, v = .bytes b t ∧ KBw.bInts b = enc gs) (fun _ => False))
    (Cr : ∀ (b : Array UInt8) (bt : Tok) (ks : List Int) (a₀ : Nat) (t₀ : Tok) (H' : Heap), KBw.bInts b = ks → ks.length ≤ 1000000 → Tri prog w loose mean mg mb 30 rd [.bytes b bt, .int (a₀ : Int) t₀] H' (fun h' v => ∃ gs r t1 t2 n, rgo 10 (ks.drop a₀) = some gs ∧ v = .ref r ∧ h'.get? r = some ({ cls := .type "tuple", data := .seq [Value.int (V gs) t1, .int ((a₀ : Int) + gs.length) t2].toArray n } : Obj) ∧ H'.get? r = none) (fun C => C = 71 ∧ rgo 10 (ks.drop a₀) = none)) :
    TriT prog w loose mean mg mb 10 184 [.int x xt, .ref l, .int fill ft, .ref wr, .ref rd] H (fun _ v => v = .bool true) := by
  intro env outer A₀ base h₀ L m s Q E hs B F X T hfr hck XB TB D hret
  w_on
  w_top on
  obtain ⟨hh, gens, dr, tk, os⟩ := s
  dsimp only at hs
  subst hs
  refine wpAny_call ?_
  k_dflt (refine' enterC B F X T hfr hck ?kA ?k6 ?k7 ?k8 ?k9 ?kB ?kD ?_ ?c2 ?c3 ?c4)
  case kA => rfl
  case k6 => k_is
  case k7 => k_is
  case k8 => exact Nat.le_of_ble_eq_true rfl
  case k9 => exact BindsTo.of_eq rfl
  case kB => rfl
  case kD => decide +kernel
  case c2 => rfl
  case c3 => rfl
  case c4 => rfl
  intro g L' h₁ tk' cells' hgg F' N' Y' B' X' T'
  dsimp only at hgg
  subst hgg
  have hY := PyProof.Rows.CellsAre.one Y'
  obtain ⟨o', hE', d1'⟩ := hY
  subst hE'
  clear Y'
  replace d1' : o'.data = .cell (some (.int x xt)) := d1'
  replace F' : Fr g L' h₁ (fun y => if y = PySem.Str.ofString "read" then some (.ref rd) else if y = PySem.Str.ofString "write" then some (.ref wr) else if y = PySem.Str.ofString "fill" then some (.int fill ft) else if y = PySem.Str.ofString "figures" then some (.ref l) else none) := F'
  have D' := dicts_push F hfr D
  have G₀ := Gr.start B' X' T' D'
  dsimp only
  k_steps
  refine Stop.go ?_
  rename Fr g L' _ _ => FX
  rename News g L' _ _ => NX
  refine tri_use (loctets_tri (list_stays FX.keep hl) hi hg h0 (by omega)) B' FX X' T' NX rfl rfl rfl rfl (Nat.le_of_ble_eq_true rfl) (Nat.le_of_ble_eq_true rfl) (fun v h' tk' F₃ N₃ S o => ?_) (fun C e h' tk' hb R UT => hb.elim)
  obtain ⟨rb, rt, rfl, hrb⟩ := o
  clear FX NX
  dsimp only
  k_steps
  refine Stop.go ?_
  rename Fr g L' _ _ => FX
  rename News g L' _ _ => NX
  refine trit_gr (lwritten_trit Cw (fun _ q => q.elim) hkw) G₀ FX NX XB TB rfl rfl rfl rfl (Nat.le_of_ble_eq_true rfl) (Nat.le_of_ble_eq_true rfl) (fun v g₁ h' tk' G₁ F₃ N₃ _ o => ?_)
  obtain ⟨H', -, wb, wt, rfl, hwb⟩ | ⟨-, _, hb⟩ := o
  case inr => exact hb.elim
  clear FX NX
  have hl₁ := G₁.isList hl
  have ⟨_, B₁, X₁, T₁, D₁⟩ := G₁
  clear B' X' T' D'
  dsimp only
  obtain rfl := bints_inj (hwb.trans hrb.symm)
  have hle := enc_length h0
  have hin2 : KBa.In [200, x.fmod 128] := by
    intro k hk
    simp only [List.mem_cons, List.not_mem_nil, or_false] at hk
    rcases hk with rfl | rfl
    · omega
    · rw [fm7]; omega
  k_steps
  · rename (_ != _) = true => hne
    simp at hne
  refine Stop.go ?_
  rename Fr g₁ L' _ _ => FX
  rename News g₁ L' _ _ => NX
  rename KBw.bInts (_ ++ _ ++ _) = _ => hoct
  have hA4 : (x.fmod 4 - 0).toNat ≤ 3 := by omega
  generalize hA : List.map (fun k' => (x + 37 * k').fmod 256) (rangeKs 0 (x.fmod 4 - 0).toNat) = as at *
  have hAl : as.length = (x.fmod 4 - 0).toNat := by rw [← hA, List.length_map, rangeKs_length]
  have hab : KBw.bInts (byteArr as) = as := KBa.ints_make (by assumption)
  have hdrop : (as ++ enc gs ++ [200, x.fmod 128]).drop (x.fmod 4 - 0).toNat = enc gs ++ [200, x.fmod 128] := by
    rw [← hAl, List.append_assoc, List.drop_left]
  generalize (x.fmod 4 - 0).toNat = a₀ at *
  generalize byteArr as ++ wb ++ byteArr [200, x.fmod 128] = ob at *
  generalize byteArr as = ab at *
  have NC : News g₁ L' _ [(L' + 1, o')] := fun p hp => NX p (.tail _ (.tail _ hp))
  clear NX
  have Cr₁ := fun t₀ bt H' => Cr ob bt _ a₀ t₀ H' hoct (by simp only [List.length_append, hle, hAl, List.length_cons, List.length_nil]; omega)
  rw [hdrop, rgo_enc h0 h10 hg] at Cr₁
  have hV0 : V gs = x := by
    have := hV 0 (by omega)
    simpa using this
  refine trit_gr (lread_trit (Cr₁ _ _) (fun _ q => q.1) hkr) G₁ FX NC XB TB rfl rfl rfl rfl (Nat.le_of_ble_eq_true rfl) (Nat.le_of_ble_eq_true rfl) (fun v g₂ h' tk' G₂ F₃ N₃ add o => ?_)
  obtain ⟨H', st, gs', r, t1, t2, k, eg, rfl, hr, hn⟩ | ⟨-, _, -, hb⟩ := o
  case inr => cases hb
  obtain rfl := Option.some.inj eg
  have N₄ := add _ _ hr (stays_none st hn)
  rw [hV0] at N₄
  clear N₃ add FX NC Cr₁
  have hl₂ := G₂.isList hl
  have ⟨_, B₂, X₂, T₂, D₂⟩ := G₂
  clear B₁ X₁ T₁ D₁ hl₁
  dsimp only
  k_steps
  all_goals first
    | (exfalso; rename _ ≠ _ => hne; omega)
    | skip
  refine Stop.go ?_
  refine wpAny_For ?_ (by intro _; rfl)
  k_steps
  refine Stop.go ?_
  rename Fr g₂ L' _ _ => FX
  rename News g₂ L' _ _ => NX
  have NC : News g₂ L' _ [(L' + 1, o')] := fun p hp => NX p (.tail _ (.tail _ hp))
  clear NX
  rename IsRange _ _ _ _ _ _ _ _ => hR
  have ⟨rs1, rs2⟩ := rng_small (enc gs).length (by omega)
  refine iter_rng (τ := Unit) (n := (enc gs).length) (fun g' => Gr w loose mean mg mb (lev 10 env outer) base (env :: outer) g g') (fun _ => []) (fun _ => [(L' + 1, o')]) (fun _ _ => True) () rfl hR rs1 rs2 G₂ FX NC (fun p hp => nomatch hp) trivial (fun _ => rfl) rfl rfl ?_ ?_ (by passes_own)
  · clear FX NC G₂ B₂ X₂ T₂ D₂ hl₂
    rintro cut ⟨⟩ g₃ h tk t ⟨ia, io⟩ hcut _ G₃ FX NC NI hlt
    have hlt' := ltN (hlt _ (.head _))
    clear hlt
    dsimp only at hlt'
    dsimp only [over] at FX ⊢
    change Fr g₃ L' _ _ at FX
    have NX : News g₃ L' h [(ia, io), (L' + 1, o')] := fun p hp => by
      rcases List.mem_cons.mp hp with rfl | hp
      · exact NI _ (.head _)
      · exact NC _ hp
    clear NC NI
    have hl₃ := G₃.isList hl
    have ⟨_, B₃, X₃, T₃, D₃⟩ := G₃
    k_steps
    refine Stop.go ?_
    rename Fr g₃ L' _ _ => FX
    rename News g₃ L' _ _ => NX
    rename KBw.bInts (KBy.picked _ _ _) = _ => hpk
    generalize KBy.picked ob none _ = pb at *
    have hdc := cut_drop (as := as) (es := enc gs) (ts := [200, x.fmod 128]) (cut := cut) (Nat.le_of_lt hcut)
    rw [hAl] at hdc hpk
    have Cr₂ := fun t₀ bt H' => Cr pb bt _ a₀ t₀ H' hpk (by simp only [List.length_take, List.length_append, hle, hAl, List.length_cons, List.length_nil]; omega)
    rw [hdc, rgo_cut (by omega) hg] at Cr₂
    rw [hAl]
    refine trit_gr (lread_trit (Cr₂ _ _) (fun _ q => q.1) hkr) G₃ FX NX XB TB rfl rfl rfl rfl (Nat.le_of_ble_eq_true rfl) (Nat.le_of_ble_eq_true rfl) (fun v g₄ h' tk' G₄ F₃ N₃ _ o => ?_)
    obtain ⟨H', st, gs', r, t1, t2, k, eg, -⟩ | ⟨rfl, -⟩ := o
    case inl => cases eg
    clear FX NX Cr₂ G₃ B₃ X₃ T₃ D₃ hl₃
    have hl₄ := G₄.isList hl
    have ⟨_, B₄, X₄, T₄, D₄⟩ := G₄
    dsimp only
    k_steps
    rename Fr g₄ L' _ _ => FX
    rename News g₄ L' _ _ => NX
    exact ⟨(), _, _, _, _, rfl, G₄, FX, fun z hz => if_neg hz, fun p hp => NX p (.tail _ hp), fun p hp => NX p (by rw [List.mem_singleton.mp hp]; exact .head _), trivial⟩
  · clear FX NC G₂ B₂ X₂ T₂ D₂ hl₂
    rintro ⟨⟩ g₃ h tk u _ G₃ FX NC
    dsimp only [over] at FX ⊢
    change Fr g₃ L' _ _ at FX
    change News g₃ L' _ _ at NC
    have hl₃ := G₃.isList hl
    have ⟨_, B₃, X₃, T₃, D₃⟩ := G₃
    k_steps
    refine Stop.go ?_
    refine wpAny_For ?_ (by intro _; rfl)
    k_steps
    refine Stop.go ?_
    rename Fr g₃ L' _ _ => FX
    rename News g₃ L' _ [(_, _), (_, _)] => NX
    rename IsRange _ _ _ _ _ _ _ _ => hR
    rename L' + 1 < _ => hD
    obtain ⟨lg, hlg⟩ := addr_of hD
    subst hlg
    have eb : (11 : Int) - gs.length = ((11 - gs.length : Nat) : Int) := by omega
    rw [eb] at hR
    have ⟨rs1, rs2⟩ := rng_small (11 - gs.length) (by omega)
    refine iter_rng (τ := List Value × Nat × Option Value) (n := 11 - gs.length) (fun g' => Gr w loose mean mg mb (lev 10 env outer) base (env :: outer) g g') (fun c => [(PySem.Str.ofString "due", c.2.2)]) (fun c => [(lg, listOf c.1.toArray c.2.1), (L' + 1, o')]) (fun i c => IntsAre c.1 (gs ++ List.replicate i fill)) (vs, _, none) rfl hR rs1 rs2 G₃ FX NX (fun p hp => by rw [List.mem_singleton.mp hp]; rfl) (show IntsAre vs (gs ++ []) by rw [List.append_nil]; assumption) (fun _ => rfl) rfl rfl ?_ ?_ (by passes_own)
    · clear FX NX G₃ B₃ X₃ T₃ D₃ hl₃
      rintro i ⟨ws, k, du⟩ g₄ h tk t ⟨ia, io⟩ hi11 hws G₄ FX NC NI hlt
      have hl1 := ltN (hlt _ (.head _))
      have hl2 := ltN (hlt _ (.tail _ (.head _)))
      clear hlt
      dsimp only at hl1 hl2 hws
      dsimp only [over] at FX ⊢
      change Fr g₄ L' _ _ at FX
      change News g₄ L' _ _ at NC
      change News g₄ L' _ _ at NI
      have NX : News g₄ L' h [(lg, listOf ws.toArray k), (ia, io), (L' + 1, o')] := fun p hp => by
        rcases List.mem_cons.mp hp with rfl | hp
        · exact NC _ (.head _)
        rcases List.mem_cons.mp hp with rfl | hp
        · exact NI _ (.head _)
        · exact NC _ (.tail _ hp)
      clear NC NI
      have hl₄ := G₄.isList hl
      have ⟨_, B₄, X₄, T₄, D₄⟩ := G₄
      have hwl := hws.length
      rw [List.length_append, List.length_replicate] at hwl
      have hwz : ws.toArray.size ≤ 20 := by rw [List.size_toArray]; omega
      k_steps
      dsimp only [List.cons_append, List.nil_append]
      refine append_K FX NX (.head (fun p hp => by
        simp only [List.mem_cons, List.not_mem_nil, or_false] at hp
        rcases hp with rfl | rfl
        · exact Nat.ne_of_gt hl1
        · exact Nat.ne_of_lt hD)) (fun h' F' N' => ?_) (by rw [sizeLine_eq]; omega)
      clear FX NX
      rw [List.push_toArray] at N'
      have hws' : IntsAre (ws ++ [.int fill ft]) (gs ++ List.replicate (i + 1) fill) := by
        rw [List.replicate_succ', ← List.append_assoc]
        exact IntsAre.append hws (IntsAre.cons _ _ IntsAre.nil)
      have hgl : (gs ++ List.replicate (i + 1) fill).length = gs.length + i + 1 := by
        rw [List.length_append, List.length_replicate]; omega
      generalize ws ++ [.int fill ft] = ws' at *
      generalize hgs' : gs ++ List.replicate (i + 1) fill = gs' at *
      clear hws hwl hwz
      have hwl := hws'.length
      dsimp only
      have hg' : ∀ g ∈ gs', 0 ≤ g ∧ g < 128 := by
        intro y hy
        rw [← hgs'] at hy
        rcases List.mem_append.mp hy with h | h
        · exact hg y h
        · rw [(List.mem_replicate.mp h).2]; exact ⟨hf0, hf1⟩
      have hle' := enc_length (gs := gs') (by omega)
      k_steps
      · refine Stop.go ?_
        rename Fr g₄ L' _ _ => FX
        rename News g₄ L' _ _ => NX
        rename (gs'.length : Int) < 11 => h11
        refine tri_use (loctets_tri (PySem.IsL.isList (NX _ (.tail _ (.tail _ (.head _)))).1) hws' hg' (by omega) (by omega)) B₄ FX X₄ T₄ NX rfl rfl rfl rfl (Nat.le_of_ble_eq_true rfl) (Nat.le_of_ble_eq_true rfl) (fun v h' tk' F₃ N₃ S o => ?_) (fun C e h' tk' hb R UT => hb.elim)
        obtain ⟨qb, qt, rfl, hqb⟩ := o
        clear FX NX
        dsimp only
        k_steps
        refine Stop.go ?_
        rename Fr g₄ L' _ _ => FX
        rename News g₄ L' _ _ => NX
        have Cr₃ := fun t₀ bt H' => Cr qb bt _ 0 t₀ H' hqb (by omega)
        rw [List.drop_zero, show enc gs' = enc gs' ++ [] by rw [List.append_nil], rgo_enc (by omega) (by omega) hg'] at Cr₃
        have hV1 : V gs' = x := by rw [← hgs']; exact hV (i + 1) (by omega)
        refine trit_gr (lread_trit (Cr₃ _ _) (fun _ q => q.1) hkr) G₄ FX NX XB TB rfl rfl rfl rfl (Nat.le_of_ble_eq_true rfl) (Nat.le_of_ble_eq_true rfl) (fun v g₅ h' tk' G₅ F₃ N₃ add o => ?_)
        obtain ⟨H', st, gs₂, r, t1, t2, k, eg, rfl, hr, hn⟩ | ⟨-, _, -, hb⟩ := o
        case inr => cases hb
        obtain rfl := Option.some.inj eg
        have N₄ := add _ _ hr (stays_none st hn)
        rw [hV1] at N₄
        clear N₃ add FX NX Cr₃ G₄ B₄ X₄ T₄ D₄ hl₄
        have hl₅ := G₅.isList hl
        have ⟨_, B₅, X₅, T₅, D₅⟩ := G₅
        dsimp only
        k_steps
        · rename Fr g₅ L' _ _ => FX
          have ⟨NL, NI⟩ := news_split (fun p hp => N₄ p (.tail _ (.tail _ (.tail _ hp))))
          exact ⟨(ws', _, some _), _, _, _, _, rfl, G₅, FX, over_rngO, NL, NI, by dsimp only; rw [hgs']; exact hws'⟩
        · exfalso
          rename _ ≠ _ => hne
          exact hne (by omega)
      · refine Stop.go ?_
        rename Fr g₄ L' _ _ => FX
        rename News g₄ L' _ _ => NX
        rename ¬ (gs'.length : Int) < 11 => h11
        refine tri_use (loctets_tri (PySem.IsL.isList (NX _ (.tail _ (.head _))).1) hws' hg' (by omega) (by omega)) B₄ FX X₄ T₄ NX rfl rfl rfl rfl (Nat.le_of_ble_eq_true rfl) (Nat.le_of_ble_eq_true rfl) (fun v h' tk' F₃ N₃ S o => ?_) (fun C e h' tk' hb R UT => hb.elim)
        obtain ⟨qb, qt, rfl, hqb⟩ := o
        clear FX NX
        dsimp only
        k_steps
        refine Stop.go ?_
        rename Fr g₄ L' _ _ => FX
        rename News g₄ L' _ _ => NX
        have Cr₃ := fun t₀ bt H' => Cr qb bt _ 0 t₀ H' hqb (by omega)
        rw [List.drop_zero, rgo_long (by omega) hg'] at Cr₃
        refine trit_gr (lread_trit (Cr₃ _ _) (fun _ q => q.1) hkr) G₄ FX NX XB TB rfl rfl rfl rfl (Nat.le_of_ble_eq_true rfl) (Nat.le_of_ble_eq_true rfl) (fun v g₅ h' tk' G₅ F₃ N₃ add o => ?_)
        obtain ⟨H', st, gs₂, r, t1, t2, k, eg, -⟩ | ⟨rfl, -⟩ := o
        case inl => cases eg
        clear add FX NX Cr₃ G₄ B₄ X₄ T₄ D₄ hl₄
        have hl₅ := G₅.isList hl
        have ⟨_, B₅, X₅, T₅, D₅⟩ := G₅
        dsimp only
        k_steps
        rename Fr g₅ L' _ _ => FX
        rename News g₅ L' _ _ => NX
        have ⟨NL, NI⟩ := news_split (fun p hp => NX p (.tail _ hp))
        exact ⟨(ws', _, some _), _, _, _, _, rfl, G₅, FX, over_rngO, NL, NI, by dsimp only; rw [hgs']; exact hws'⟩
      · rename Fr g₄ L' _ _ => FX
        rename News g₄ L' _ _ => NX
        have ⟨NL, NI⟩ := news_split (fun p hp => NX p (.tail _ hp))
        exact ⟨(ws', _, du), _, _, _, _, rfl, G₄, FX, fun z hz => if_neg hz, NL, NI, by dsimp only; rw [hgs']; exact hws'⟩
    · clear FX NX G₃ B₃ X₃ T₃ D₃ hl₃
      rintro ⟨ws, k, du⟩ g₄ h tk u' hws G₄ FX NC
      dsimp only [over] at FX ⊢
      change Fr g₄ L' _ _ at FX
      change News g₄ L' _ _ at NC
      have hl₄ := G₄.isList hl
      have ⟨_, B₄, X₄, T₄, D₄⟩ := G₄
      k_steps
      obtain ⟨_, T1, F1, S1, B1, X1, P1, D1⟩ := back_turn B F hfr G₄.turn (Fr.keep (by assumption)) XB TB D
      exact hret _ _ _ _ T1 F1 S1 B1 X1 P1 D1 rfl
end Mine

namespace Mine
open PySem PySem.W PyProof.Rows PySem.Calls PySem.Spec
set_option maxRecDepth 100000
section
variable {prog : Program} {w : World} {A : Around} {E : Value → Shared → Prop} {Q : Flow → Shared → Prop} {s : Shared} {env : Env}
/-- a for over a list of ints, upon a ground that may turn -/
theorem iter_ints {τ : Type} {x : PySem.Str} {px : Pos} {body : List Stmt} {l : PySem.Addr} {vs : List Value} {ks : List Int} {g : Heap} {m₀ : PySem.Str → Option Value} (Cg : Heap → Prop) (ys : τ → List (PySem.Str × Option Value)) (Led : τ → List (PySem.Addr × Obj)) (P : Nat → τ → Prop) (c₀ : τ)
    (hh : A.handled = none) (hl : ∀ c g' h m', Cg g' → Fr g' env.locals h m' → News g' env.locals h (Led c) → h.IsList l vs.toArray) (hi : IntsAre vs ks)
    (hC : Cg g) (F : Fr g env.locals s.heap m₀) (N : News g env.locals s.heap (Led c₀)) (hys : ∀ p ∈ ys c₀, m₀ p.1 = p.2) (hp : P 0 c₀)
    (hadr : ∀ c, (Led c).map (·.1) = (Led c₀).map (·.1))
    (hx : env.kindOf x = some .local) (hcls : (env.scope.kind == .class || (env.scope.kind == .module && env.locals != env.globals)) = false)
    (turn : ∀ (i : Nat) (k : Int) (c : τ) (g' h : Heap) (tk : Nat) (t : Tok) (io : PySem.Addr × Obj), ks[i]? = some k → P i c → Cg g' → Fr g' env.locals h (fun z => if z = x then some (.int k t) else over m₀ (ys c) z) → News g' env.locals h (Led c) → News g' env.locals h [io] → (∀ p ∈ Led c₀, p.1 < io.1) →
      wpAny (model prog w) A (execs body env) (RnPost env.locals x Cg m₀ ys Led P io i Q { s with heap := h, toks := tk }) E { s with heap := h, toks := tk })
    (done : ∀ (c : τ) (g' h : Heap) (tk : Nat) (u : Option Value), P ks.length c → Cg g' → Fr g' env.locals h (fun z => if z = x then u else over m₀ (ys c) z) → News g' env.locals h (Led c) → Q .next { s with heap := h, toks := tk })
    (hE : PassesOwn (model prog w) A env E) :
    wpAny (model prog w) A (pyIter (.ref l)) (fun it s₂ => codeAny (model prog w) A (.forLoop (.Name x px) it body [] env) (fun r s' => match r with | .ok f => Q f s' | .error e => cameBackBy (model prog w) A env E e s') s₂) E s := by
  have hl₀ := hl c₀ g s.heap m₀ hC F N
  refine wpAny_pyIter_list hl₀ ?_
  have hne : l ≠ s.heap.objs.size := by
    obtain ⟨o, ho, _⟩ := hl₀
    exact Nat.ne_of_lt (Heap.lt_size ho)
  have W : Walks prog w A s.heap.objs.size [s.heap.objs.size, l] [s.heap.objs.size] vs.toArray.size (fun i v => vs.toArray[i]? = some v) (fun i h => h.IsListIter s.heap.objs.size l i ∧ h.IsList l vs.toArray) := Walks.list hh _ l hne vs.toArray
  have hsz : vs.toArray.size = ks.length := by rw [List.size_toArray]; exact hi.length
  rw [hsz] at W
  have hnL : env.locals ≠ s.heap.objs.size := Nat.ne_of_lt F.ns.lt
  have hnl : ∀ p ∈ Led c₀, p.1 < s.heap.objs.size := fun p hp => Heap.lt_size (N p hp).1
  have hne2 : ∀ c, ∀ p ∈ Led c, p.1 ≠ s.heap.objs.size := fun c p hp => by
    have : p.1 ∈ (Led c₀).map (·.1) := hadr c ▸ List.mem_map_of_mem hp
    obtain ⟨q, hq, e⟩ := List.mem_map.mp this
    rw [← e]
    exact Nat.ne_of_lt (hnl q hq)
  have fresh : g.get? s.heap.objs.size = none := next_is_new F
  refine codeAny_forLoop (fun k s' => ∃ i c g' m' h' tk', s' = { s with heap := h', toks := tk' } ∧ k = ks.length - i ∧ i ≤ ks.length ∧ P i c ∧ Cg g' ∧ Fr g' env.locals h' m' ∧ (∀ z, z ≠ x → m' z = over m₀ (ys c) z) ∧ News g' env.locals h' (Led c) ∧
      h'.IsListIter s.heap.objs.size l i ∧ g'.get? s.heap.objs.size = none) ?_ (ks.length - 0)
    ⟨0, c₀, g, m₀, _, s.toks, rfl, rfl, Nat.zero_le _, hp, hC, F.push _, fun z _ => by rw [over_self hys], fun p hp => ⟨Heap.get?_push_of_some _ (N p hp).1, (N p hp).2⟩, ⟨_, Heap.get?_push_size _ rfl, rfl, rfl⟩, fresh⟩
  rintro k s' ⟨i, c, g', m', h', tk', rfl, rfl, hi', hP, hCg, F', hm', N', hit, hg'⟩
  have next : ∀ h₁ : Heap, (∀ b o, b ∉ [s.heap.objs.size] → h'.get? b = some o → h₁.get? b = some o) → Fr g' env.locals h₁ m' ∧ News g' env.locals h₁ (Led c) := fun h₁ hk₁ =>
    ⟨⟨F'.ns.at' fun o e => hk₁ _ o (by simpa using hnL) e, fun b o e => hk₁ b o (fun hb => by rw [List.mem_singleton.mp hb, hg'] at e; cases e) (F'.keep b o e), F'.above⟩,
      fun p hp => ⟨hk₁ _ _ (by simpa using hne2 c p hp) (N' p hp).1, (N' p hp).2⟩⟩
  by_cases hlt : i < ks.length
  · refine W.item i _ _ _ hlt ⟨hit, hl c g' h' m' hCg F' N'⟩ fun v h₁ tk₁ hPv hst₁ hk₁ => ?_
    obtain ⟨t, hx'⟩ := hi.get i ks[i] (by simp [hlt])
    have hv : v = .int ks[i] t := by
      have hP' : vs[i]? = some v := by simpa using hPv
      rw [hx'] at hP'
      exact (Option.some.inj hP').symm
    subst hv
    obtain ⟨F₁, N₁⟩ := next h₁ hk₁
    refine wpAny_assign_Name (wpAny_storeName_local hx F₁.ns (fun h₂ hn₂ hs₂ => ?_) hcls)
    have F₂ := F₁.set hn₂ hs₂
    have N₂ := N₁.set hs₂
    have em : (fun y => if y = x then some (Value.int ks[i] t) else m' y) = fun z => if z = x then some (Value.int ks[i] t) else over m₀ (ys c) z := by
      funext z
      by_cases hz : z = x
      · rw [if_pos hz, if_pos hz]
      · rw [if_neg hz, if_neg hz, hm' z hz]
    rw [em] at F₂
    obtain ⟨⟨oi, hoi, hci, hdi⟩, _⟩ := hst₁
    have hit₂ : h₂.get? s.heap.objs.size = some oi := (hs₂.2 _ (Ne.symm hnL)).trans hoi
    refine wpAny_passesOwn hE ?_
    refine wpAny_mono (turn i ks[i] c g' h₂ _ t (s.heap.objs.size, oi) (by simp [hlt]) hP hCg F₂ N₂ (fun p hp => by rw [List.mem_singleton.mp hp]; exact ⟨hit₂, Ne.symm hnL, hg'⟩) (fun p hp => hnl p hp)) (fun f s₃ h₃ => ?_) fun _ _ e => e
    cases f with
    | ret v => exact h₃
    | brk => exact h₃
    | next =>
      obtain ⟨c', g₃, m₃, h₃', tk₃, rfl, hCg₃, F₃, hm₃, N₃, NI, hP₃⟩ := h₃
      exact ⟨ks.length - (i + 1), by omega, i + 1, c', g₃, m₃, h₃', tk₃, rfl, rfl, hlt, hP₃, hCg₃, F₃, hm₃, N₃, ⟨oi, (NI _ (List.Mem.head _)).1, hci, hdi⟩, (NI _ (List.Mem.head _)).2.2⟩
    | cont =>
      obtain ⟨c', g₃, m₃, h₃', tk₃, rfl, hCg₃, F₃, hm₃, N₃, NI, hP₃⟩ := h₃
      exact ⟨ks.length - (i + 1), by omega, i + 1, c', g₃, m₃, h₃', tk₃, rfl, rfl, hlt, hP₃, hCg₃, F₃, hm₃, N₃, ⟨oi, (NI _ (List.Mem.head _)).1, hci, hdi⟩, (NI _ (List.Mem.head _)).2.2⟩
  · have hin : i = ks.length := by omega
    subst hin
    refine W.done _ _ _ ⟨hit, hl c g' h' m' hCg F' N'⟩ fun h₁ tk₁ hk₁ => wpAny_execs_nil ?_
    obtain ⟨F₁, N₁⟩ := next h₁ hk₁
    have em : m' = fun z => if z = x then m' x else over m₀ (ys c) z := by
      funext z
      by_cases hz : z = x
      · rw [if_pos hz, hz]
      · rw [if_neg hz, hm' z hz]
    rw [em] at F₁
    exact done c g' h₁ tk₁ _ hP hCg F₁ N₁
end
end Mine

namespace Mine
open PySem PySem.W PyProof.Rows PySem.Calls PySem.Spec
set_option maxRecDepth 100000
open Classical in
/-- the groups of a number without a sign -/
noncomputable def ug (x : Int) : List Int := if h : ∃ gs, UOut x gs then choose h else []
open Classical in
/-- the groups of a number with a sign -/
noncomputable def sg (x : Int) : List Int := if h : ∃ gs, SOut x gs then choose h else []
theorem UOut.ug {x : Int} {gs : List Int} (U : UOut x gs) : ug x = gs := by
  unfold Mine.ug
  rw [dif_pos ⟨gs, U⟩]
  exact (Classical.choose_spec (⟨gs, U⟩ : ∃ gs, UOut x gs)).same U
theorem SOut.sg {x : Int} {gs : List Int} (U : SOut x gs) : sg x = gs := by
  unfold Mine.sg
  rw [dif_pos ⟨gs, U⟩]
  exact (Classical.choose_spec (⟨gs, U⟩ : ∃ gs, SOut x gs)).same U
def uv (k : Int) : Int := (if k < 0 then -k else k).fmod (128 ^ Int.toNat 10)
def sv (k : Int) : Int := k.fmod (64 ^ Int.toNat 8) - 32 * 64 ^ Int.toNat 7
theorem uv_in (k : Int) : 0 ≤ uv k ∧ uv k < 128 ^ 10 := by
  unfold uv
  rw [Int.fmod_eq_emod_of_nonneg _ (by decide)]
  exact ⟨Int.emod_nonneg _ (by decide), Int.emod_lt_of_pos _ (by decide)⟩
theorem sv_in (k : Int) : -(2 ^ 47) ≤ sv k ∧ sv k < 2 ^ 47 := by
  unfold sv
  rw [Int.fmod_eq_emod_of_nonneg _ (by decide)]
  have h1 := Int.emod_nonneg k (show (64 : Int) ^ Int.toNat 8 ≠ 0 by decide)
  have h2 := Int.emod_lt_of_pos k (show (0 : Int) < 64 ^ Int.toNat 8 by decide)
  have e1 : (64 : Int) ^ Int.toNat 8 = 281474976710656 := by decide
  have e2 : 32 * (64 : Int) ^ Int.toNat 7 = 140737488355328 := by decide
  have e3 : (2 : Int) ^ 47 = 140737488355328 := by decide
  rw [e2, e3]
  rw [e1] at *
  omega
theorem sv_fits (k : Int) : Fits7 (sv k / 128 ^ 9) := by
  rw [fits_at]
  have := sv_in k
  have e1 : (64 : Int) * 128 ^ 9 = 590295810358705651712 := by decide
  have e3 : (2 : Int) ^ 47 = 140737488355328 := by decide
  rw [e1]
  rw [e3] at this
  omega
structure Good (k : Int) : Prop where
  u : UOut (uv k) (ug (uv k))
  s : SOut (sv k) (sg (sv k))
theorem Good.ul {k : Int} (G : Good k) : (ug (uv k)).length ≤ 10 := by
  have := G.u.big (uv_in k).1
  have := G.u.le
  have := (uv_in k).2
  omega
theorem Good.sl {k : Int} (G : Good k) : (sg (sv k)).length ≤ 10 := G.s.big.mpr (sv_fits k)
theorem UOut.groups {x : Int} {gs : List Int} (U : UOut x gs) : ∀ g ∈ gs, 0 ≤ g ∧ g < 128 := by rw [U.eq]; exact digs_in _ _
theorem SOut.groups {x : Int} {gs : List Int} (U : SOut x gs) : ∀ g ∈ gs, 0 ≤ g ∧ g < 128 := by rw [U.eq]; exact digs_in _ _
noncomputable def enc2 (k : Int) : List Int := enc (ug (uv k)) ++ enc (sg (sv k))
noncomputable def stream (ks : List Int) : List Int := ks.flatMap enc2
theorem Good.len {k : Int} (G : Good k) : (enc2 k).length ≤ 20 := by
  unfold enc2
  rw [List.length_append, enc_length G.u.ge, enc_length G.s.ge]
  have := G.ul
  have := G.sl
  omega
theorem stream_len : ∀ {ks : List Int}, (∀ k ∈ ks, Good k) → (stream ks).length ≤ 20 * ks.length
  | [], _ => by simp [stream]
  | k :: r, h => by
    have h1 := (h k (List.mem_cons_self ..)).len
    have h2 := stream_len (ks := r) fun j hj => h j (List.mem_cons_of_mem _ hj)
    unfold stream at *
    rw [List.flatMap_cons, List.length_append, List.length_cons]
    omega
theorem take_one {ks : List Int} {i : Nat} {k : Int} (h : ks[i]? = some k) : ks.take (i + 1) = ks.take i ++ [k] := by
  rw [List.take_add_one, h]; rfl
theorem stream_one {ks : List Int} {i : Nat} {k : Int} (h : ks[i]? = some k) : stream (ks.take (i + 1)) = stream (ks.take i) ++ enc2 k := by
  rw [take_one h]
  unfold stream
  simp
theorem stream_at {ks : List Int} {i : Nat} {k : Int} (h : ks[i]? = some k) : stream ks = stream (ks.take i) ++ (enc (ug (uv k)) ++ (enc (sg (sv k)) ++ stream (ks.drop (i + 1)))) := by
  have e : stream ks = stream (ks.take (i + 1)) ++ stream (ks.drop (i + 1)) := by
    unfold stream
    rw [← List.flatMap_append, List.take_append_drop]
  rw [e, stream_one h]
  unfold enc2
  simp
theorem good_one {ks : List Int} {i : Nat} {k : Int} (h : ks[i]? = some k) (G : ∀ j ∈ ks.take i, Good j) (g : Good k) : ∀ j ∈ ks.take (i + 1), Good j := by
  intro j hj
  rw [take_one h] at hj
  rcases List.mem_append.mp hj with hj | hj
  · exact G j hj
  · rw [List.mem_singleton.mp hj]; exact g
theorem uv_val {k : Int} (G : Good k) : val (ug (uv k)) = uv k := by
  have := G.u.val (uv_in k).1 G.ul 0
  simpa using this
theorem sv_val {k : Int} (G : Good k) : sval (sg (sv k)) = sv k := by
  have := G.s.sval G.sl 0
  simpa using this
theorem stream_drop1 {ks : List Int} {i : Nat} {k : Int} (h : ks[i]? = some k) (G : Good k) : rgo 10 ((stream ks).drop (stream (ks.take i)).length) = some (ug (uv k)) := by
  rw [stream_at h, List.drop_left]
  exact rgo_enc G.u.ge G.ul G.u.groups
theorem stream_drop2 {ks : List Int} {i : Nat} {k : Int} (h : ks[i]? = some k) (G : Good k) : rgo 10 ((stream ks).drop ((stream (ks.take i)).length + (ug (uv k)).length)) = some (sg (sv k)) := by
  rw [stream_at h, ← List.append_assoc, ← enc_length G.u.ge, ← List.length_append, List.drop_left]
  exact rgo_enc G.s.ge G.sl G.s.groups
theorem stream_next {ks : List Int} {i : Nat} {k : Int} (h : ks[i]? = some k) (G : Good k) : (stream (ks.take (i + 1))).length = (stream (ks.take i)).length + (ug (uv k)).length + (sg (sv k)).length := by
  rw [stream_one h, enc2, List.length_append, List.length_append, enc_length G.u.ge, enc_length G.s.ge]
  omega
theorem stream_end (ks : List Int) : rgo 10 ((stream ks).drop (stream ks).length) = none := by
  rw [List.drop_length]; rfl
theorem over_run {m : PySem.Str → Option Value} {w y1 y2 y3 : PySem.Str} {a a' a1 b b' c c' u : Option Value} : ∀ z, z ≠ w → (fun z => if z = y1 then a' else if z = y2 then b' else if z = y1 then a1 else if z = y3 then c' else if z = w then u else if z = y1 then a else if z = y2 then b else if z = y3 then c else m z) z = over m [(y1, a'), (y2, b'), (y3, c')] z := by
  intro z hz
  show _ = if z = y1 then a' else if z = y2 then b' else if z = y3 then c' else m z
  by_cases h1 : z = y1
  · simp only [if_pos h1]
  · by_cases h2 : z = y2
    · simp only [if_neg h1, if_pos h2]
    · by_cases h3 : z = y3
      · simp only [if_neg h1, if_neg h2, if_pos h3]
      · simp only [if_neg h1, if_neg h2, if_neg h3, if_neg hz]
end Mine

namespace Mine
open PySem PySem.W PyProof.Rows PySem.Calls PySem.Spec
set_option maxRecDepth 100000
local macro_rules | `(tactic| walk_at "exec While") => `(tactic| refine stop_here ?_)
local macro_rules | `(tactic| walk_at "call ref") => `(tactic| refine stop_here ?_)
local macro_rules | `(tactic| walk_at "exec For Name") => `(tactic| refine stop_here ?_)
local macro_rules | `(tactic| walk_at "exec For Name Call cons nil") => `(tactic| refine stop_here ?_)
local macro_rules | `(tactic| walk_at "exec For Name Name cons nil") => `(tactic| refine stop_here ?_)
local macro_rules | `(tactic| walk_at "pyIter ref") => `(tactic| refine stop_here ?_)
theorem keep_134 (w : World) : keepIn (hd.heap_39 w.params) (.ref 134) = true := by k_is
theorem keep_141 (w : World) : keepIn (hd.heap_39 w.params) (.ref 141) = true := by k_is
theorem keep_106 (w : World) : keepIn (hd.heap_39 w.params) (.ref 106) = true := by k_is
theorem keep_113 (w : World) : keepIn (hd.heap_39 w.params) (.ref 113) = true := by k_is
theorem news_nil {g h : Heap} {L : PySem.Addr} {news : List (PySem.Addr × Obj)} (_ : News g L h news) : News g L h [] := fun p hp => nomatch hp
set_option maxHeartbeats 8000000 in
theorem run_right {prog : Program} {w : World} {loose : List PySem.Str} {mean : ExcName → Option Value} {mg mb : PySem.Str → Option Value} {H : Heap} {l : PySem.Addr} {vs : List Value} {ks : List Int} (hl : H.IsList l vs.toArray) (hi : IntsAre vs ks) (h6 : ks.length ≤ 6) :
    TriT prog w loose mean mg mb 10 191 [.ref l] H (fun _ v => v = .bool true) := by
  intro env outer A₀ base h₀ L m s Q E hs B F X T hfr hck XB TB D hret
  w_on
  w_top on
  obtain ⟨hh, gens, dr, tk, os⟩ := s
  dsimp only at hs
  subst hs
  refine wpAny_call ?_
  k_dflt (refine' enter B F X T hfr hck ?kA ?k6 ?k7 ?k8 ?k9 ?kB ?_ ?c2 ?c3 ?c4 ?c5)
  case kA => rfl
  case k6 => k_is
  case k7 => k_is
  case k8 => exact Nat.le_of_ble_eq_true rfl
  case k9 => exact BindsTo.of_eq rfl
  case kB => exact locs rfl
  case c2 => rfl
  case c3 => rfl
  case c4 => rfl
  case c5 => decide
  intro g L' h₁ hgg F' N' B' X' T'
  dsimp only at hgg
  subst hgg
  have D' := dicts_push F hfr D
  have G₀ := Gr.start B' X' T' D'
  replace F' : Fr g L' h₁ (fun y => List.lookup y [(PySem.Str.ofString "worths", .ref l)]) := F'
  dsimp only
  k_steps
  refine Stop.go ?_
  refine wpAny_For ?_ (by intro _; rfl)
  k_steps
  refine Stop.go ?_
  rename Fr g L' _ _ => FX
  rename News g L' _ _ => NX
  have NC := news_nil NX
  clear NX
  have hl' : g.IsList l vs.toArray := by assumption
  refine iter_ints (τ := Array UInt8 × Tok) (fun g' => g' = g) (fun c => [(PySem.Str.ofString "octets", some (.bytes c.1 c.2))]) (fun _ => []) (fun i c => KBw.bInts c.1 = stream (ks.take i) ∧ ∀ k ∈ ks.take i, Good k) (_, _) rfl (fun c g' h m' e F' N' => list_stays F'.keep (by rw [e]; exact hl')) (by assumption) rfl FX NC (fun p hp => by rw [List.mem_singleton.mp hp]; rfl) ⟨rfl, fun j hj => nomatch hj⟩ (fun _ => rfl) rfl rfl ?_ ?_ (by passes_own)
  · clear FX NC
    rintro i k ⟨ob, ot⟩ g' h tk t ⟨ia, io⟩ hik ⟨hob, hgd⟩ rfl FX NC NI hlt
    dsimp only [over] at FX hob ⊢
    change Fr g' L' _ _ at FX
    change News g' L' _ _ at NI
    have hi6 := (List.getElem?_eq_some_iff.mp hik).1
    have hsl := stream_len hgd
    rw [List.length_take] at hsl
    have hsl' : (stream (ks.take i)).length ≤ 120 := by omega
    clear hsl NC
    k_steps
    refine Stop.go ?_
    rename Fr g' L' _ _ => FX
    rename News g' L' _ _ => NX
    change wpAny _ _ (call (.ref 106) [Value.int (uv k) _]) _ _ _
    refine tri_use uleb_tri B' FX X' T' NX rfl rfl rfl rfl (Nat.le_of_ble_eq_true rfl) (Nat.le_of_ble_eq_true rfl) (fun v h' tk' F₃ N₃ S o => ?_) (fun C e h' tk' hb R UT => by have := uv_in k; have := hb.2; omega)
    obtain ⟨-, -, gu, ub, ut, hU, rfl, hub⟩ := o
    clear FX NX
    have hlu := enc_length hU.ge
    have hul : gu.length ≤ 10 := by
      have := hU.big (uv_in k).1
      have := hU.le
      have := (uv_in k).2
      omega
    dsimp only
    k_steps
    refine Stop.go ?_
    rename Fr g' L' _ _ => FX
    rename News g' L' _ _ => NX
    change wpAny _ _ (call (.ref 113) [Value.int (sv k) _]) _ _ _
    refine tri_use sleb_tri B' FX X' T' NX rfl rfl rfl rfl (Nat.le_of_ble_eq_true rfl) (Nat.le_of_ble_eq_true rfl) (fun v h' tk' F₃ N₃ S o => ?_) (fun C e h' tk' hb R UT => absurd (sv_fits k) hb.2)
    obtain ⟨-, gs, sb, st, hS, rfl, hsb⟩ := o
    clear FX NX
    have hls := enc_length hS.ge
    have hsl : gs.length ≤ 10 := hS.big.mpr (sv_fits k)
    dsimp only
    k_steps
    rename Fr g' L' _ _ => FX
    rename News g' L' _ _ => NX
    rename KBw.bInts (_ ++ _ ++ _) = _ => hout
    have hgood : Good k := ⟨by rw [hU.ug]; exact hU, by rw [hS.sg]; exact hS⟩
    exact ⟨(_, _), _, _, _, _, rfl, rfl, FX, over_rng, (fun p hp => nomatch hp), NX, by dsimp only; rw [hout, stream_one hik, enc2, hU.ug, hS.sg, List.append_assoc], good_one hik hgd hgood⟩
  · clear FX NC
    rintro ⟨ob, ot⟩ g' h tk u ⟨hob, hgd⟩ rfl FX NC
    rw [List.take_length] at hob hgd
    dsimp only [over] at FX hob ⊢
    change Fr g' L' _ _ at FX
    change News g' L' _ _ at NC
    have hsl := stream_len hgd
    have hsl' : (stream ks).length ≤ 120 := by omega
    clear hsl
    k_steps
    refine Stop.go ?_
    refine wpAny_For ?_ (by intro _; rfl)
    k_steps
    refine Stop.go ?_
    rename Fr g' L' _ _ => FX
    rename News g' L' _ _ => NX
    have NC := news_nil NX
    clear NX
    refine iter_ints (τ := Option Value × Option Value × Int × Tok) (fun g₁ => g₁ = g') (fun c => [(PySem.Str.ofString "at", some (.int c.2.2.1 c.2.2.2)), (PySem.Str.ofString "two", c.2.1), (PySem.Str.ofString "one", c.1)]) (fun _ => []) (fun i c => c.2.2.1 = ((stream (ks.take i)).length : Int)) (none, none, 0, _) rfl (fun c g' h m' e F' N' => list_stays F'.keep (by rw [e]; exact hl')) (by assumption) rfl FX NC (fun p hp => by
      simp only [List.mem_cons, List.not_mem_nil, or_false] at hp
      rcases hp with rfl | rfl | rfl <;> rfl) rfl (fun _ => rfl) rfl rfl ?_ ?_ (by passes_own)
    · clear FX NC
      rintro i k ⟨one, two, at', att⟩ g' h tk t ⟨ia, io⟩ hik hat rfl FX NC NI hlt
      dsimp only [over] at FX hat ⊢
      subst hat
      change Fr g' L' _ _ at FX
      change News g' L' _ _ at NI
      have hgk : Good k := hgd k (List.mem_of_getElem? hik)
      have hp1 := stream_drop1 hik hgk
      have hp2 := stream_drop2 hik hgk
      have hpn := stream_next hik hgk
      have huv := uv_val hgk
      have hsv := sv_val hgk
      clear NC
      k_steps
      refine Stop.go ?_
      rename Fr g' L' _ _ => FX
      rename News g' L' _ _ => NX
      refine tri_use (read_uleb_tri (a₀ := (stream (ks.take i)).length) hob (by omega)) B' FX X' T' NX rfl rfl rfl rfl (Nat.le_of_ble_eq_true rfl) (Nat.le_of_ble_eq_true rfl) (fun v h' tk' F₃ N₃ S o => ?_) (fun C e h' tk' hb R UT => by rw [hp1] at hb; cases hb.2)
      obtain ⟨gs₁, r₁, t₁, t₂, n₁, e₁, rfl, hr, hn⟩ := o
      rw [hp1] at e₁
      obtain rfl := Option.some.inj e₁
      have N₄ := news_add FX N₃ hr hn
      rw [huv, ← Int.natCast_add] at N₄
      clear FX NX N₃
      dsimp only
      k_steps
      refine Stop.go ?_
      rename Fr g' L' _ _ => FX
      rename News g' L' _ _ => NX
      refine tri_use (read_sleb_tri (a₀ := (stream (ks.take i)).length + (ug (uv k)).length) hob (by omega)) B' FX X' T' NX rfl rfl rfl rfl (Nat.le_of_ble_eq_true rfl) (Nat.le_of_ble_eq_true rfl) (fun v h' tk' F₃ N₃ S o => ?_) (fun C e h' tk' hb R UT => by rw [hp2] at hb; cases hb.2)
      obtain ⟨gs₁, r₁, t₁, t₂, n₁, e₁, rfl, hr, hn⟩ := o
      rw [hp2] at e₁
      obtain rfl := Option.some.inj e₁
      have N₄ := news_add FX N₃ hr hn
      rw [hsv, ← Int.natCast_add, ← hpn] at N₄
      clear FX NX N₃
      dsimp only
      obtain ⟨u1, hu1⟩ : ∃ u1, u1 = uv k := ⟨_, rfl⟩
      obtain ⟨u2, hu2⟩ : ∃ u2, u2 = sv k := ⟨_, rfl⟩
      rename Fr g' L' _ _ => FY
      rw [← hu1] at FY
      rw [← hu2, ← hu1] at N₄
      repeat' (first | (k_unfold; (try dsimp only)) | (k_end; wrow_close) | (dsimp only; walk1) | walk1 | (leave1; walk_say "STEP leave1"; try dsimp only))
      · exfalso
        rename u1 ≠ _ => hne
        exact hne hu1
      · exfalso
        rename u2 ≠ _ => hne
        exact hne hu2
      rename Fr g' L' _ _ => FX
      rename News g' L' _ _ => NX
      exact ⟨(_, _, _, _), _, _, _, _, rfl, rfl, FX, over_run, (fun p hp => nomatch hp), (fun p hp => NX p (.tail _ (.tail _ hp))), rfl⟩
    · clear FX NC
      rintro ⟨one, two, at', att⟩ g' h tk u hat rfl FX NC
      rw [List.take_length] at hat
      dsimp only [over] at FX hat ⊢
      subst hat
      change Fr g' L' _ _ at FX
      change News g' L' _ _ at NC
      repeat' (first | (k_unfold; (try dsimp only)) | (k_end; wrow_close) | (dsimp only; walk1) | walk1 | (leave1; walk_say "STEP leave1"; try dsimp only))
      · refine Stop.go ?_
        rename Fr g' L' _ _ => FX
        rename News g' L' _ _ => NX
        have Cr := fun H' => read_uleb_tri (prog := prog) (w := w) (loose := loose) (mean := mean) (mg := mg) (mb := mb) (H := H') (b := ob) (bt := ot) (a₀ := (stream ks).length) (xt := att) hob (by omega)
        rw [stream_end] at Cr
        refine trit_gr (lread_trit Cr (fun _ q => q.1) (keep_134 w)) G₀ FX NX XB TB rfl rfl rfl rfl (Nat.le_of_ble_eq_true rfl) (Nat.le_of_ble_eq_true rfl) (fun v g₁ h' tk' G₁ F₃ N₃ add o => ?_)
        obtain ⟨H', st, gs₂, r, t1, t2, k, eg, -⟩ | ⟨rfl, -⟩ := o
        case inl => cases eg
        clear add FX NX Cr B' X' T' D' G₀ hl hl'
        have ⟨_, B₁, X₁, T₁, D₁⟩ := G₁
        dsimp only
        repeat' (first | (k_unfold; (try dsimp only)) | (k_end; wrow_close) | (dsimp only; walk1) | walk1 | (leave1; walk_say "STEP leave1"; try dsimp only))
        refine Stop.go ?_
        rename Fr g₁ L' _ _ => FX
        rename News g₁ L' _ _ => NX
        have Cr := fun H' => read_sleb_tri (prog := prog) (w := w) (loose := loose) (mean := mean) (mg := mg) (mb := mb) (H := H') (b := ob) (bt := ot) (a₀ := (stream ks).length) (xt := att) hob (by omega)
        rw [stream_end] at Cr
        refine trit_gr (lread_trit Cr (fun _ q => q.1) (keep_141 w)) G₁ FX NX XB TB rfl rfl rfl rfl (Nat.le_of_ble_eq_true rfl) (Nat.le_of_ble_eq_true rfl) (fun v g₂ h' tk' G₂ F₃ N₃ add o => ?_)
        obtain ⟨H', st, gs₂, r, t1, t2, k, eg, -⟩ | ⟨rfl, -⟩ := o
        case inl => cases eg
        clear add FX NX Cr B₁ X₁ T₁ D₁
        have ⟨_, B₂, X₂, T₂, D₂⟩ := G₂
        dsimp only
        repeat' (first | (k_unfold; (try dsimp only)) | (k_end; wrow_close) | (dsimp only; walk1) | walk1 | (leave1; walk_say "STEP leave1"; try dsimp only))
        obtain ⟨_, T1, F1, S1, B1, X1, P1, D1⟩ := back_turn B F hfr G₂.turn (Fr.keep (by assumption)) XB TB D
        exact hret _ _ _ _ T1 F1 S1 B1 X1 P1 D1 rfl
      · exfalso
        rename _ ≠ _ => hne
        exact hne rfl
end Mine

namespace Mine
open PySem PySem.W PyProof.Rows PySem.Calls PySem.Spec
set_option maxRecDepth 100000
theorem paired_ints {p : Value → Bool} {ys : List Value} {vs : List Value} (h : Paired (fun _ r => ∃ (y : Int) (t : Tok), r = Value.int y t) vs ys) : ∃ ns, IntsAre ys ns ∧ ns.length = vs.length := by
  induction h with
  | nil => exact ⟨[], IntsAre.nil, rfl⟩
  | cons hab _ ih =>
    obtain ⟨y, t, rfl⟩ := hab
    obtain ⟨ns, h1, h2⟩ := ih
    exact ⟨y :: ns, IntsAre.cons y t h1, by simp [h2]⟩
section
variable {prog : Program} {w : World} {A : Around} {E : Value → Shared → Prop} {s : Shared} {env : Env}
/-- a comprehension over a list of ints, whose elements are ints that a quiet call makes -/
theorem Assign_comp {elt iter : PySem.Expr} {x y : PySem.Str} {px py : Pos} {scope : PySem.Scope} {pos spos : Pos} {Q : Flow → Shared → Prop} {h₀ : Heap}
    (hsw : swapsWith (.ListComp elt [⟨.Name x px, iter, [], 0⟩] scope pos) (some (.Name y py)) spos.line env = pure true)
    (hfree : ∀ z ∈ scope.names, z.2 ≠ .free) (hcell : ∀ z ∈ scope.names, z.2 ≠ .cell) (hkind : scope.kind = .function)
    (hnames : ∀ z ∈ scope.names, z.2 = .local → scope.names.lookup z.1 = some .local) (hx : scope.names.lookup x = some .local)
    (hy : env.kindOf y = some .local) (hp : (env.scope.kind == .class || (env.scope.kind == .module && env.locals != env.globals)) = false) (hh : A.handled = none) {m₀ : PySem.Str → Option Value} (hF0 : Fr h₀ env.locals s.heap m₀)
    (h : wpAny (model prog w) A (eval iter env) (fun xv s₁ => Stop (∃ l vs ks k m news, xv = .ref l ∧ Fr h₀ env.locals s₁.heap m ∧ News h₀ env.locals s₁.heap ((l, listOf vs.toArray k) :: news) ∧ IntsAre vs ks ∧ ks.length ≤ 1000 ∧
      (∀ C j t s₃ m₃ E', Fr h₀ env.locals s₃.heap m → s₃.heap.Ns C m₃ → m₃ x = some (.int j t) → wpAny (model prog w) A (eval elt (compEnv scope C env)) (fun r s₄ => (∃ u t, r = .int u t) ∧ Keeps s₃ s₄) E' s₃) ∧
      (∀ D ys ns n h' tk, Fr h₀ env.locals h' (fun z => if z = y then some (.ref D) else m z) → News h₀ env.locals h' [(D, listOf ys.toArray n)] → IntsAre ys ns → ns.length = ks.length → Q .next { s₁ with heap := h', toks := tk }))) E s)
    (hs : ∀ x, foldedSetIterable iter env x = pure x := by intro _; rfl) :
    wpAny (model prog w) A (exec (.Assign [.Name y py] (.ListComp elt [⟨.Name x px, iter, [], 0⟩] scope pos) spos) env) Q E s := by
  refine wpAny_Assign_ListComp_walk (fun _ => true) (fun _ r => ∃ (y : Int) (t : Tok), r = Value.int y t) hsw hfree hcell hkind hnames hx hy hp (wpAny_mono h (fun xv s₁ h₁ => ?_) fun _ _ e => e) hs
  obtain ⟨l, vs, ks, k, m, news, rfl, F, N, hi, hk, helt, hfin⟩ := h₁
  have hl : s₁.heap.IsList l vs.toArray := PySem.IsL.isList (N _ (.head _)).1
  have hlt : l < s₁.heap.objs.size := Heap.lt_size (N _ (.head _)).1
  have hsz : vs.toArray.size = ks.length := by rw [List.size_toArray]; exact hi.length
  have up : ∀ (s₃ : Shared), (∀ b o, b ∉ [s₁.heap.objs.size] → (s₁.heap.push { cls := .type "list_iterator", data := .fields #[.ref l, .int 0 0] }).get? b = some o → s₃.heap.get? b = some o) → ∀ b o, s₁.heap.get? b = some o → s₃.heap.get? b = some o :=
    fun s₃ hk b o e => hk b o (fun hm => by rcases List.mem_cons.mp hm with rfl | hm; exact Nat.lt_irrefl _ (Heap.lt_size e); cases hm) (Heap.get?_push_of_some _ e)
  refine wpAny_pyIter_list hl ⟨s₁.heap.objs.size, [s₁.heap.objs.size, l], [s₁.heap.objs.size], vs.toArray.size, _, _, m, rfl, Walks.list hh _ _ (Nat.ne_of_lt hlt) vs.toArray, (by rw [hsz, sizeLine_eq]; omega), ⟨⟨_, Heap.get?_push_size _ rfl, rfl, rfl⟩, hl.push _⟩, ?_, ?_, F.ns.push _, ⟨?_, ?_⟩, ?_⟩
  · intro b hb
    show b < (s₁.heap.push _).objs.size
    rw [Heap.size_push]
    rcases List.mem_cons.mp hb with rfl | hb
    · exact Nat.lt_succ_self _
    · rw [List.mem_singleton.mp hb]; exact Nat.lt_succ_of_lt hlt
  · intro hm
    exact absurd F.ns.lt ((List.mem_singleton.mp hm) ▸ Nat.lt_irrefl _)
  · intro C i v s₃ m₃ E' hP hn hm hkp htk
    exact wpAny_pure ⟨rfl, s₃.heap, s₃.toks, rfl, fun _ _ e => e⟩
  · intro C i v s₃ m₃ E' hP _ hn hm hkp htk
    obtain ⟨hlt', hv⟩ : ∃ (hlt' : i < vs.length), vs[i] = v := by
      have : vs[i]? = some v := by simpa using hP
      exact List.getElem?_eq_some_iff.mp this
    have hik : i < ks.length := by rw [← hi.length]; exact hlt'
    obtain ⟨t, hx'⟩ := hi.get i ks[i] (by simp [hik])
    have hv' : v = .int ks[i] t := by
      have hP' : vs[i]? = some v := by simpa using hP
      rw [hx'] at hP'
      exact (Option.some.inj hP').symm
    subst hv'
    have F₃ : Fr h₀ env.locals s₃.heap m := ⟨F.ns.at' fun o e => up s₃ hkp _ o e, fun b o e => up s₃ hkp b o (F.keep b o e), F.above⟩
    exact helt C ks[i] t s₃ m₃ E' F₃ hn hm
  · intro D h' tk ys vs' hD hlD hpl hlen hPv hF hn hkp
    have hDL : D ≠ env.locals := by
      rintro rfl
      obtain ⟨o, _, _, ho, _⟩ := F.ns
      rw [show (s₁.heap.push _).get? env.locals = some o from Heap.get?_push_of_some _ ho] at hD
      cases hD
    have hD₀ : h₀.get? D = none := by
      cases e : h₀.get? D with
      | none => rfl
      | some o =>
        rw [show (s₁.heap.push _).get? D = some o from Heap.get?_push_of_some _ (F.keep _ _ e)] at hD
        cases hD
    obtain ⟨ns, hns, hnl⟩ := paired_ints (p := fun _ => true) hF
    have hfl : vs'.filter (fun _ => true) = vs' := List.filter_eq_self.mpr fun _ _ => rfl
    rw [hfl, hlen, hsz] at hnl
    obtain ⟨n, hpn⟩ := hpl
    refine hfin D ys.toList ns n h' tk ⟨hn, fun b o e => ?_, F.above⟩ (fun p hp => ?_) hns hnl
    · refine hkp b o ?_ ?_ (Heap.get?_push_of_some _ (F.keep b o e))
      · rintro rfl
        rw [kts_self F] at e
        cases e
      · intro hm
        have e' := F.keep b o e
        rw [List.mem_singleton.mp hm] at e'
        exact Nat.lt_irrefl _ (Heap.lt_size e')
    · rw [List.mem_singleton.mp hp]
      exact ⟨by rw [Array.toArray_toList]; exact hpn, hDL, hD₀⟩
end
end Mine

namespace Mine
open PySem PySem.W PyProof.Rows PySem.Calls PySem.Spec
set_option maxRecDepth 100000
local macro_rules | `(tactic| walk_at "call ref") => `(tactic| refine stop_here ?_)
local macro_rules | `(tactic| walk_at "exec Assign cons ListComp") => `(tactic| refine stop_here ?_)
local macro_rules | `(tactic| walk_at "exec For Name") => `(tactic| refine stop_here ?_)
local macro_rules | `(tactic| walk_at "exec For Name Name cons nil") => `(tactic| refine stop_here ?_)
local macro_rules | `(tactic| walk_at "pyIter ref") => `(tactic| refine stop_here ?_)
theorem news_two {g h : Heap} {L : PySem.Addr} {p : PySem.Addr × Obj} {r : List (PySem.Addr × Obj)} (N : News g L h [p]) (N' : News g L h r) : News g L h (p :: r) := fun a ha => by
  rcases List.mem_cons.mp ha with rfl | ha
  · exact N _ (.head _)
  · exact N' _ ha
theorem fr_base {w : World} {loose : List PySem.Str} {mean : ExcName → Option Value} {mg mb : PySem.Str → Option Value} {A₀ : Around} {base g h : Heap} {L : PySem.Addr} {m : PySem.Str → Option Value} (G : Gr w loose mean mg mb A₀ base [] base g) (F : Fr g L h m) : Fr base L h m :=
  ⟨F.ns, fun b o e => F.keep b o (G.turn.other b o e fun hm => nomatch hm), by rw [← G.turn.size]; exact F.above⟩
theorem news_none {g h : Heap} {L : PySem.Addr} : News g L h [] := fun p hp => nomatch hp
/-- the rows of a number, of whatever figures the first def found -/
theorem rows_u {prog : Program} {w : World} {loose : List PySem.Str} {mean : ExcName → Option Value} {mg mb : PySem.Str → Option Value} {H H₀ : Heap} {x : Int} {xt ft : Tok} {v : Value}
    (o : (¬ (0 ≤ x ∧ x < 128 ^ 10) ∧ v = .none) ∨ (0 ≤ x ∧ x < 128 ^ 10 ∧ ∃ gs r vs n, UOut x gs ∧ v = .ref r ∧ H.get? r = some (listOf vs.toArray n) ∧ H₀.get? r = none ∧ IntsAre vs gs)) :
    TriT prog w loose mean mg mb 10 184 [.int x xt, v, .int 0 ft, .ref 106, .ref 134] H (fun _ v => v = .bool true) := by
  rcases o with ⟨hn, rfl⟩ | ⟨h0, h1, gs, r, vs, n, U, rfl, hr, -, hi⟩
  · exact rows_none (keep_106 w) (keep_134 w) fun H' => uleb_tri.weaken (fun _ _ q => hn ⟨q.1, q.2.1⟩) fun _ q => q.1
  · have hl : gs.length ≤ 10 := by
      have := U.big h0
      have := U.le
      omega
    exact rows_some (V := val) (keep_106 w) (keep_134 w) ⟨_, hr, rfl, n, rfl⟩ hi U.groups U.ge hl (by decide) (by decide) (fun k _ => U.val h0 hl k)
      (fun H' => uleb_tri.weaken (fun _ _ q => by
        obtain ⟨-, -, gs', b, t, U', rfl, hb⟩ := q
        exact ⟨b, t, rfl, by rw [hb, U'.same U]⟩) fun _ q => by
        have := q.2
        omega)
      (fun b bt ks a₀ t₀ H' hk hl => read_uleb_tri hk hl)
theorem rows_s {prog : Program} {w : World} {loose : List PySem.Str} {mean : ExcName → Option Value} {mg mb : PySem.Str → Option Value} {H H₀ : Heap} {x f : Int} {xt ft : Tok} {v : Value} (hf : f = if x < 0 then 127 else 0)
    (o : (¬ Fits7 (x / 128 ^ 9) ∧ v = .none) ∨ (Fits7 (x / 128 ^ 9) ∧ ∃ gs r vs n, SOut x gs ∧ v = .ref r ∧ H.get? r = some (listOf vs.toArray n) ∧ H₀.get? r = none ∧ IntsAre vs gs)) :
    TriT prog w loose mean mg mb 10 184 [.int x xt, v, .int f ft, .ref 113, .ref 141] H (fun _ v => v = .bool true) := by
  subst hf
  rcases o with ⟨hn, rfl⟩ | ⟨h0, gs, r, vs, n, U, rfl, hr, -, hi⟩
  · exact rows_none (keep_113 w) (keep_141 w) fun H' => sleb_tri.weaken (fun _ _ q => hn q.1) fun _ q => q.1
  · have hl : gs.length ≤ 10 := U.big.mpr h0
    exact rows_some (V := sval) (keep_113 w) (keep_141 w) ⟨_, hr, rfl, n, rfl⟩ hi U.groups U.ge hl (by split <;> decide) (by split <;> decide) (fun k _ => U.sval hl k)
      (fun H' => sleb_tri.weaken (fun _ _ q => by
        obtain ⟨-, gs', b, t, U', rfl, hb⟩ := q
        exact ⟨b, t, rfl, by rw [hb, U'.same U]⟩) fun _ q => q.2 h0)
      (fun b bt ks a₀ t₀ H' hk hl => read_sleb_tri hk hl)
set_option maxHeartbeats 8000000 in
theorem law_holds : PySem.Challenge.rw_nn0047_01.Holds := hd (by
  w_on
  k_go0
  dsimp only
  k_steps
  refine Stop.go ?_
  rename Fr _ _ _ _ => FX
  refine Assign_comp ?hsw ?hfree ?hcell ?hkind ?hnames ?hx ?hy ?hp rfl FX ?h ?hs
  case hsw => with_unfolding_all rfl
  case hfree => decide
  case hcell => decide
  case hkind => with_unfolding_all rfl
  case hnames => decide
  case hx => with_unfolding_all rfl
  case hy => with_unfolding_all rfl
  case hp => with_unfolding_all rfl
  case hs => intro _; rfl
  k_steps
  refine Stop.go ?_
  rename Fr _ _ _ _ => FX
  rename News _ _ _ (_ :: _) => NX
  rename IntsAre _ (_ ++ _) => iX
  rename Below _ _ _ _ => BX
  rename Top _ _ _ _ _ _ => TX
  rename Frag.In _ _ => KX
  refine ⟨_, _, _, _, _, _, rfl, FX, NX, iX, ?_, ?_, ?_⟩
  · simp only [List.length_append, List.length_take, List.length_cons, List.length_nil]
    omega
  · intro C j t s₃ m₃ E' F₃ hn hm
    clear FX NX
    k_steps
    refine Stop.go ?_
    rename Fr _ _ _ _ => FY
    exact tri_use (drawn_tri (x := j) (xt := t)) BX FY KX TX news_none rfl rfl rfl rfl (Nat.le_of_ble_eq_true rfl) (Nat.le_of_ble_eq_true rfl) (fun v h' tk' F₄ N₄ S o => ⟨o, h', tk', rfl, S⟩) (fun C e h' tk' hb R UT => hb.elim)
  · intro D ys ns n h' tk' FY NY iY hlen
    have hlen6 : ns.length ≤ 6 := by
      rw [hlen]
      simp only [List.length_append, List.length_take, List.length_cons, List.length_nil]
      omega
    clear hlen FX NX iX
    have G₀ := Gr.start BX KX TX ktsDicts_nil
    k_steps
    refine Stop.go ?_
    refine wpAny_For ?_ (by intro _; rfl)
    k_steps
    refine Stop.go ?_
    rename Fr _ _ _ _ => FX
    rename News _ _ _ _ => NX
    refine iter_ints (τ := Unit) (fun g' => Gr _ _ _ _ _ _ _ _ _ g') (fun _ => []) (fun _ => [(D, listOf ys.toArray n)]) (fun _ _ => True) () rfl (fun c g' h m' _ _ N' => PySem.IsL.isList (N' _ (.head _)).1) iY G₀ FX NX (fun p hp => nomatch hp) trivial (fun _ => rfl) rfl rfl ?_ ?_ (by passes_own)
    · clear FX NX
      rintro i k ⟨⟩ g₁ h tk t ⟨ia, io⟩ hik _ G₁ FX NC NI hlt
      have hl1 := ltN (hlt _ (.head _))
      clear hlt
      dsimp only at hl1
      dsimp only [over, envOf] at FX NC NI ⊢
      have NX := news_two NI NC
      clear NI NC
      have ⟨_, B₁, X₁, T₁, D₁⟩ := G₁
      k_steps
      refine Stop.go ?_
      rename Fr g₁ _ _ _ => FX
      rename News g₁ _ _ _ => NX
      refine tri_use (unsigned_tri (x := k) (xt := t)) B₁ FX X₁ T₁ NX rfl rfl rfl rfl (Nat.le_of_ble_eq_true rfl) (Nat.le_of_ble_eq_true rfl) (fun v h' tk' F₃ N₃ S o => ?_) (fun C e h' tk' hb R UT => hb.elim)
      clear FX NX
      dsimp only
      k_steps
      refine Stop.go ?_
      rename Fr g₁ _ _ _ => FX
      rename News g₁ _ _ _ => NX
      refine trit_gr (rows_u o) G₁ FX NX KX TX rfl rfl rfl rfl (Nat.le_of_ble_eq_true rfl) (Nat.le_of_ble_eq_true rfl) (fun v g₂ h' tk' G₂ F₃ N₃ _ e => ?_)
      subst e
      clear FX NX B₁ X₁ T₁ D₁ G₁ o S
      have ⟨_, B₂, X₂, T₂, D₂⟩ := G₂
      dsimp only
      k_steps
      refine Stop.go ?_
      rename Fr g₂ _ _ _ => FX
      rename News g₂ _ _ _ => NX
      refine tri_use (lsigned_tri (x := k) (xt := t)) B₂ FX X₂ T₂ NX rfl rfl rfl rfl (Nat.le_of_ble_eq_true rfl) (Nat.le_of_ble_eq_true rfl) (fun v h' tk' F₃ N₃ S o => ?_) (fun C e h' tk' hb R UT => hb.elim)
      clear FX NX
      dsimp only
      k_steps
      all_goals
        refine Stop.go ?_
        rename Fr g₂ _ _ _ => FX
        rename News g₂ _ _ _ => NX
        refine trit_gr (rows_s (by first | (rw [if_pos (by assumption)]; done) | (rw [if_neg (by assumption)]; done)) o) G₂ FX NX KX TX rfl rfl rfl rfl (Nat.le_of_ble_eq_true rfl) (Nat.le_of_ble_eq_true rfl) (fun v g₃ h' tk' G₃ F₃ N₃ _ e => ?_)
        subst e
        clear FX NX B₂ X₂ T₂ D₂ G₂ o S
        have ⟨_, B₃, X₃, T₃, D₃⟩ := G₃
        dsimp only
        k_steps
        rename Fr g₃ _ _ _ => FX
        rename News g₃ _ _ _ => NX
        exact ⟨(), _, _, _, _, rfl, G₃, FX, fun z hz => if_neg hz, fun p hp => NX p (.tail _ hp), fun p hp => NX p (by rw [List.mem_singleton.mp hp]; exact .head _), trivial⟩
    · clear FX NX
      rintro ⟨⟩ g₁ h tk u _ G₁ FX NC
      dsimp only [over, envOf] at FX NC ⊢
      have ⟨_, B₁, X₁, T₁, D₁⟩ := G₁
      k_steps
      refine Stop.go ?_
      rename Fr g₁ _ _ _ => FX
      rename News g₁ _ _ _ => NX
      refine trit_gr (run_right (PySem.IsL.isList (NX _ (.head _)).1) iY hlen6) G₁ FX NX KX TX rfl rfl rfl rfl (Nat.le_of_ble_eq_true rfl) (Nat.le_of_ble_eq_true rfl) (fun v g₂ h' tk' G₂ F₃ N₃ _ e => ?_)
      subst e
      clear FX NX B₁ X₁ T₁ D₁ G₁
      have ⟨_, B₂, X₂, T₂, D₂⟩ := G₂
      have FB := fr_base G₂ F₃
      clear F₃ N₃
      dsimp only [PyProof.Rows.Top.heap] at FB
      dsimp only
      k_steps)
end Mine

set_option maxRecDepth 100000 in
theorem PySem.Challenge.cw_nn0047_01_holds : PySem.Challenge.rw_nn0047_01.Holds := by
  exact Mine.law_holds
