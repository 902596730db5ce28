import PyProof.Rows.All
import Wide.All
import OpenK.AllK
import Wide.FinOn
import Lean
import PySem.Challenge.RW_nz0287_01
open PySem PySem.W PyProof.Rows
set_option Elab.async false

section
/-! part NzTop -/
open PySem PySem.W PyProof.Rows
namespace Mine
set_option maxRecDepth 100000 in
set_option maxHeartbeats 8000000 in
open_top hd for PySem.Challenge.rw_nz0287_01
end Mine
end

section
/-! part NzBase -/
open PySem PySem.W PyProof.Rows
namespace Mine
set_option maxRecDepth 100000

/-- what a def of the text hands back, called at any plain frame: R of the value and the ledger; X: it may raise a WordFault -/
noncomputable def Tell (w : World) (f : Addr) (D U : Nat) (vs : List Value) (news : List (Addr × Obj)) (R : Value → List (Addr × Obj) → Prop) (X : Prop) : Prop :=
  ∀ (mean : ExcName → Option Value) (mg mb : Str → Option Value) (dp un : Nat) (gd : Option (List Code)) (cn : Str) (cs : Scope) (a : Addr) (ccd : Value) (cl : List (Str × Addr)) (outer : List Env) (A₀ : Around) (base h₀ : Heap) (L : Addr) (m : Str → Option Value) (s : Shared) (Q E : Value → Shared → Prop),
    Below A₀ base outer h₀ → Fr h₀ L s.heap m → (hd.heap_39 w.params).In h₀ → News h₀ L s.heap news → Top hd.view_39 (looseW hd.view_39 [Str.ofString "PostError"]) mean mg mb h₀ → cs.kind = .function → dp + D < recursionLimit → un + U < cLine →
    (∀ v news' h' tk', R v news' → Fr h₀ L h' m → News h₀ L h' news' → Q v { s with heap := h', toks := tk' }) →
    (X → ∀ e h' tk' g, Fr h₀ L g m → RaisedN base (envX cn cs L a ccd cl :: outer) e (.ref 59) news h' → g.UpToSlots h' → E (.ref e) { s with heap := h', toks := tk' }) →
    wpAny (model PySem.Challenge.rw_nz0287_01.row.prog w) (ktrTop dp un gd cn cs L a ccd cl outer) (call (.ref f) vs) Q E s

theorem tell_use {w : World} {f : Addr} {D U : Nat} {vs : List Value} {news : List (Addr × Obj)} {R : Value → List (Addr × Obj) → Prop} {X : Prop} {mean : ExcName → Option Value} {mg mb : Str → Option Value} {dp un : Nat} {gd : Option (List Code)} {cn : Str} {cs : Scope} {a : Addr} {ccd : Value} {cl : List (Str × Addr)} {outer : List Env} {A₀ : Around} {base h₀ : Heap} {L : Addr} {m : Str → Option Value} {s : Shared} {Q E : Value → Shared → Prop}
    (C : Tell w f D U vs news R X)
    (B : Below A₀ base outer h₀) (F : Fr h₀ L s.heap m) (K : (hd.heap_39 w.params).In h₀) (N : News h₀ L s.heap news) (T : Top hd.view_39 (looseW hd.view_39 [Str.ofString "PostError"]) mean mg mb h₀) (hk : cs.kind = .function) (hd : dp + D < recursionLimit) (hu : un + U < cLine)
    (ret : ∀ v news' h' tk', R v news' → Fr h₀ L h' m → News h₀ L h' news' → Q v { s with heap := h', toks := tk' })
    (exc : X → ∀ e h' tk' g, Fr h₀ L g m → RaisedN base (envX cn cs L a ccd cl :: outer) e (.ref 59) news h' → g.UpToSlots h' → E (.ref e) { s with heap := h', toks := tk' }) :
    wpAny (model PySem.Challenge.rw_nz0287_01.row.prog w) (ktrTop dp un gd cn cs L a ccd cl outer) (call (.ref f) vs) Q E s := C _ _ _ _ _ _ _ _ _ _ _ _ _ _ _ _ _ _ _ _ B F K N T hk hd hu ret exc

/-- fills the library's table of the written part -/
theorem fill_it : (fun (_ : OpenLaw) (_ : Params → Frag) => True) PySem.Challenge.rw_nz0287_01 hd.heap_39 := by k_fill; trivial
end Mine
end

section
/-! part NzX -/
open PySem PySem.W PyProof.Rows
namespace Mine
set_option maxRecDepth 100000
open PySem.Calls Builtin Builtin.ObjectAttr

/-! an own exception whose base has an own __init__ -/
section
variable {prog : Program} {w : World} {A : Around} {E : Value → Shared → Prop} {h : Heap} {g : Array GenState} {d : Drawn} {t : Nat} {os : OsState} {R : Result → Shared → Prop}
variable {nm q : Str} {C N : Addr} {bs bm : List Value} {hdct : Bool} {sn : List Str} {sub : List Value} {ab : Bool} {col : Option Bool} {dd : Option Addr} {k0 k1 k2 k3 k5 : Option Value}

theorem check_new_W {M : Model} {rest : List Value} {Q : Unit → Shared → Prop} (hC : h.get? C = some (excClassObj nm q C N bs bm hdct sn sub ab col dd k0 k1 k2 k3 k5 "Exception.__new__"))
    (hcont : (Value.ref C :: bm).contains (.type "Exception") = true) (hq : Q () ⟨h, g, d, t, os⟩) : wpAny M A (checkBuiltinCall "Exception.__new__" ⟨.ref C :: rest, []⟩) Q E ⟨h, g, d, t, os⟩ := by
  have Fn := PySem.F.excBase_Exception
  have hstar := Fn.noStar
  simp only [checkBuiltinCall, Fn.newKind, Fn.newSplit, Fn.newRow]
  repeat (first | refine wpAny_loadPart_at hC ?_ | (refine wpAny_isSubtype_exc hC ?_; rw [hcont]) | refine wpAny_staticBase_exc hC ?_ | refine wpAny_madeBy_exc hC ?_ | simp only [bne_self_eq_false, Bool.false_eq_true, if_false] | wp_step)
  exact hq

theorem exc_new_W {rest : List Value} (hC : h.get? C = some (excClassObj nm q C N bs bm hdct sn sub ab col dd k0 k1 k2 k3 k5 "Exception.__new__"))
    (hcB : (Value.ref C :: bm).contains (.type "Exception") = true) (hcA : (Value.ref C :: bm).contains (.type "AttributeError") = false) (hcN : (Value.ref C :: bm).contains (.type "NameError") = false)
    (hq : R (.ok (.ret (.ref (h.objs.size + 1)))) ⟨(h.push { cls := .type "tuple", data := .seq rest.toArray }).push
      { cls := .ref C, data := .fields #[.ref h.objs.size, .none, .none, .none, .bool false, .none] }, g, d, t, os⟩) (hrest : rest.length ≤ sizeLine) :
    codeAny (model prog w) A (.builtin "Exception.__new__" ⟨.ref C :: rest, []⟩) R ⟨h, g, d, t, os⟩ := by
  have Fn := PySem.F.excBase_Exception
  have hends := Fn.ends
  refine codeAny_builtinAt Fn.entry ?_
  unfold Builtin.«BaseException.__new__»
  refine PySem.wpAt_bind ?_
  show PySem.wpAt _ _ _ (stack >>= _) _ _ _
  refine PySem.wpAt_bind (PySem.wpAt_stack fun p below => PySem.wpAt_of_wpAny ?_)
  wp_walk
  refine PySem.wpAt_of_wpAny ?_
  rw [Fn.owner]
  repeat (first | with_reducible refine wpAny_madeHere_exc Fn.canon hC ?_ | with_reducible refine wpAny_loadPart_at hC ?_ | (with_reducible refine wpAny_isSubtype_exc hC ?_; first | rw [hcB] | rw [hcA] | rw [hcN]) | wp_step)
  show R _ _
  rw [Heap.size_push]
  exact hq

theorem type_call_W {K : Frag} {fI : Addr} {rest : List Value} {Q : Fin → Shared → Prop} (X : K.In h) (hi : findIn K (.ref C) "__init__" = some (some (.ref fI))) (hf : typeIn K (.ref fI) = some (.type "function"))
    (hC : h.get? C = some (excClassObj nm q C N bs bm hdct sn sub ab col dd k0 k1 k2 k3 k5 "Exception.__new__"))
    (hcB : (Value.ref C :: bm).contains (.type "Exception") = true) (hcA : (Value.ref C :: bm).contains (.type "AttributeError") = false) (hcN : (Value.ref C :: bm).contains (.type "NameError") = false)
    (hq : ∀ h' e, Heap.MadeExcOf h h' e (.ref C) rest → h' = (h.push { cls := .type "tuple", data := .seq rest.toArray }).push { cls := .ref C, data := .fields #[.ref h.objs.size, .none, .none, .none, .bool false, .none] } → e = h.objs.size + 1 →
      wpAny (model prog w) A (call (.ref fI) (.ref e :: rest)) (fun r s' => r = .none ∧ Q (.done (.ret (.ref e))) s') E ⟨h', g, d, t, os⟩) (hrest : rest.length ≤ sizeLine) :
    wpAny (model prog w) A (Builtin.«type.__call__» ⟨.ref C :: rest, []⟩) Q E ⟨h, g, d, t, os⟩ := by
  repeat (first | with_reducible refine wpAny_loadPart_at hC ?_ | with_reducible refine wpAny_madeBy_exc hC ?_ | wp_step)
  refine codeAny_call_builtin_code (Code.quiet_builtin _ PySem.F.excBase_Exception.quiet) (check_new_W hC hcB ?_)
  refine exc_new_W hC hcB hcA hcN ?_ hrest
  show wpAny _ _ _ _ _ _
  have kp : ∀ b o, h.get? b = some o → ((h.push { cls := .type "tuple", data := .seq rest.toArray }).push { cls := .ref C, data := .fields #[.ref h.objs.size, .none, .none, .none, .bool false, .none] }).get? b = some o :=
    fun b o e => Heap.get?_push_of_some _ (Heap.get?_push_of_some _ e)
  have hC₁ := kp _ _ hC
  have X₁ := X.keeps kp
  have hget : ((h.push { cls := .type "tuple", data := .seq rest.toArray }).push
      { cls := .ref C, data := .fields #[.ref h.objs.size, .none, .none, .none, .bool false, .none] }).get? (h.objs.size + 1) = some
      { cls := .ref C, data := .fields #[.ref h.objs.size, .none, .none, .none, .bool false, .none] } := by heap_get
  have hcC : (Value.ref C :: bm).contains (.ref C) = true := by simp
  unfold isInstance
  repeat (first | with_reducible refine wpAny_loadPart_at hget ?_ | (with_reducible refine wpAny_isSubtype_exc hC₁ ?_; rw [hcC]) | wp_step)
  show wpAny _ _ (typeLookup (.ref C) _) _ _ _
  refine (looks_findIn X₁ hi).here ?_
  refine wpAny_holding (wpAny_bind ((bind_fn X₁ _ hf).here ?_))
  refine wpAny_bind (wpAny_mono (hq _ (h.objs.size + 1) ⟨kp, Heap.get?_none_of_le (Nat.le_succ _), h.objs.size, hget, Heap.get?_none_of_le (Nat.le_refl _), ?_⟩ rfl rfl) (fun r s' hr => ?_) fun _ _ x => x)
  · exact Heap.get?_push_of_some _ (Heap.get?_push_at rfl rfl)
  · obtain ⟨rfl, hQ⟩ := hr
    wp_walk
    exact hQ

theorem call_W {K : Frag} {fI : Addr} {rest : List Value} {Q : Value → Shared → Prop} (X : K.In h) (hi : findIn K (.ref C) "__init__" = some (some (.ref fI))) (hf : typeIn K (.ref fI) = some (.type "function"))
    (hC : h.get? C = some (excClassObj nm q C N bs bm hdct sn sub ab col dd k0 k1 k2 k3 k5 "Exception.__new__"))
    (hcB : (Value.ref C :: bm).contains (.type "Exception") = true) (hcA : (Value.ref C :: bm).contains (.type "AttributeError") = false) (hcN : (Value.ref C :: bm).contains (.type "NameError") = false)
    (hq : ∀ h' e, Heap.MadeExcOf h h' e (.ref C) rest → h' = (h.push { cls := .type "tuple", data := .seq rest.toArray }).push { cls := .ref C, data := .fields #[.ref h.objs.size, .none, .none, .none, .bool false, .none] } → e = h.objs.size + 1 →
      wpAny (model prog w) (A.under (.builtin "type.__call__" ⟨.ref C :: rest, []⟩)) (call (.ref fI) (.ref e :: rest)) (fun r s' => r = .none ∧ Q (.ref e) s') E ⟨h', g, d, t, os⟩) (hrest : rest.length ≤ sizeLine) :
    wpAny (model prog w) A (call (.ref C) rest) Q E ⟨h, g, d, t, os⟩ := by
  have f1 := tc_lookup
  have f2 := tc_bind (.ref C)
  have hT : (⟨h, g, d, t, os⟩ : Shared).TypeIs (.ref C) "type" := ⟨_, hC, rfl⟩
  refine wpAny_call (codeAny_of_tree ?_)
  show wpAny _ _ (callAny (.ref C) _) _ _ _
  repeat (any_goals (first | assumption | with_reducible refine wpAny_loadPart_at hC ?_ | wp_step))
  refine ⟨rfl, ?_⟩
  refine codeAny_call_builtin_at (Code.quiet_builtin _ (by decide +kernel)) entry_typeCall (wpAny_check_type_call_sub hC (type_call_W X hi hf hC hcB hcA hcN (fun h' e hm e1 e2 => ?_) hrest))
  exact hq h' e hm e1 e2
end

/-- the exception's own object: its tuple of arguments, its dict -/
noncomputable abbrev excObj (C t : Addr) (dd : Option Addr) : Obj := { cls := .ref C, dict := dd, data := .fields #[.ref t, .none, .none, .none, .bool false, .none] }

section
variable {prog : Program} {w : World} {A : Around} {E : Value → Shared → Prop} {s : Shared} {K : Frag} {C L e t : Addr} {h₀ : Heap} {m : Str → Option Value} {pre post : List (Addr × Obj)} {name : Str} {v : Value}


theorem check_init_W {nm q : Str} {N : Addr} {bs bm : List Value} {hdct : Bool} {sn : List Str} {sub : List Value} {ab : Bool} {col : Option Bool} {dd : Option Addr} {k0 k1 k2 k3 k5 : Option Value} {M : Model} {E : Value → Shared → Prop} {h : Heap} {g : Array GenState} {d : Drawn} {t : Nat} {os : OsState} {oe : Obj} {rest : List Value} {Q : Unit → Shared → Prop}
    (hC : h.get? C = some (excClassObj nm q C N bs bm hdct sn sub ab col dd k0 k1 k2 k3 k5 "Exception.__new__")) (he : h.get? e = some oe) (hcls : oe.cls = .ref C) (hcB : (Value.ref C :: bm).contains (.type "Exception") = true) (hq : Q () ⟨h, g, d, t, os⟩) :
    wpAny M A (checkBuiltinCall "Exception.__init__" ⟨.ref e :: rest, []⟩) Q E ⟨h, g, d, t, os⟩ := by
  have F := PySem.F.excBase_Exception
  have hshort := F.noStar
  simp only [checkBuiltinCall, F.initKind, F.initSplit, F.initRow]
  repeat (first | (with_reducible refine wpAny_loadPart_at he ?_; rw [hcls]) | with_reducible refine wpAny_loadPart_at hC ?_ | (with_reducible refine wpAny_isSubtype_exc hC ?_; rw [hcB]) | wp_step)
  refine wpAny_onRaise ?_
  rw [show ∀ (a b : String) (n : Nat), Bind.check ⟨.positional, "*", "Exception", .self, [⟨"args", .varPos, false⟩]⟩ a b n (List.map (fun x => x.fst) ({ pos := Value.ref e :: rest } : Args).kw) = pure () from
    fun a b n => check_star_args _ _ _ _ _ _]
  exact wpAny_pure hq

/-- Exception.__init__(self, v) -/
theorem exc_init_K {Q : Value → Shared → Prop} (F : Fr h₀ L s.heap m) (X₀ : K.In h₀) (N : News h₀ L s.heap (pre ++ (e, excObj C t none) :: post)) (h1 : ∀ p ∈ pre, p.1 ≠ e) (h2 : ∀ p ∈ post, p.1 ≠ e)
    {nm q : Str} {Nn : Addr} {bs bm : List Value} {hdct : Bool} {sn : List Str} {sub : List Value} {ab : Bool} {col : Option Bool} {dd : Option Addr} {k0 k1 k2 k3 k5 : Option Value}
    (hC : K.lookup C = some (excClassObj nm q C Nn bs bm hdct sn sub ab col dd k0 k1 k2 k3 k5 "Exception.__new__")) (hcB : (Value.ref C :: bm).contains (.type "Exception") = true)
    (h : ∀ t' h', Fr h₀ L h' m → News h₀ L h' ((t', { cls := .type "tuple", data := .seq #[v] }) :: (pre ++ (e, excObj C t' none) :: post)) → (∀ p ∈ pre ++ (e, excObj C t none) :: post, p.1 < t') → Q .none { s with heap := h' }) :
    wpAny (model prog w) A (call (.builtin "Exception.__init__") [.ref e, v]) Q E s := by
  have Fi := PySem.F.excBase_Exception
  have X := X₀.keeps F.keep
  have he := (N (e, excObj C t none) (by simp)).1
  refine wpAny_call (codeAny_call_builtin Fi.init.plain Fi.initEntry (check_init_W (X _ _ hC) he rfl hcB ?_))
  unfold Builtin.«BaseException.__init__»
  dsimp only
  rw [if_neg (by decide)]
  refine wpAny_bind ?_
  unfold newTuple
  have N1 := N.push F { cls := .type "tuple", data := .seq [v].toArray }
  have F1 := F.push { cls := .type "tuple", data := .seq [v].toArray }
  refine wpAny_newObj_type ?_ (by show ([v].toArray).size ≤ sizeLine; rw [sizeLine_eq]; exact Nat.le_of_ble_eq_true rfl)
  have he1 := (N1 (e, excObj C t none) (by simp)).1
  have hlt : ∀ p ∈ pre ++ (e, excObj C t none) :: post, p.1 < s.heap.objs.size := fun p hp => Heap.lt_size (N p hp).1
  refine wpAny_bind ?_
  unfold Builtin.BaseException.bexcPut
  refine wpAny_bind (wpAny_field he1 rfl rfl ?_)
  refine wpAny_bind (wpAny_setField he1 rfl (Nat.le_of_ble_eq_true rfl) ?_)
  refine wpAny_letGo ?_
  refine wpAny_pure ?_
  obtain ⟨U1, U2⟩ := news_upd (pre := (s.heap.objs.size, { cls := .type "tuple", data := .seq [v].toArray }) :: pre) (post := post) (d := e) (o := excObj C t none) (o' := excObj C s.heap.objs.size none) (f := Obj.mapFields (·.setIfInBounds 0 (.ref s.heap.objs.size))) F1 N1
    (fun p hp => by
      rcases List.mem_cons.mp hp with rfl | hp
      · exact Nat.ne_of_gt (hlt (e, excObj C t none) (by simp))
      · exact h1 p hp) h2 rfl rfl
  exact h _ _ U1 U2 hlt
end

theorem refuse_W (self : Value) : refuseLoop self "__setattr__" [.ref 59, .ref 46, .type "Exception", .type "BaseException", .type "object"] = pure () := by
  rw [refuseLoop_ref, refuseLoop_ref]
  kernel_rfl

section
variable {prog : Program} {w : World} {A : Around} {E : Value → Shared → Prop} {R : Result → Shared → Prop} {s : Shared} {K : Frag} {C L e t x : Addr} {h₀ : Heap} {m : Str → Option Value} {pre post : List (Addr × Obj)} {name : Str} {v : Value}
theorem osa_open_W {ox : Obj} {od : Option Obj} {tk : Tok} {cd : ClassData} (X : K.In s.heap) (I : InstAt s.heap x ox C od) (hc : clsIn K C = some cd) (ho : refuseLoop (.ref x) "__setattr__" cd.mro = pure ()) (hsub : subIn K (.ref C) (.type "object") = some true) (ht : takerIn K C name = some none)
    (h : ∀ b, wpAny (model prog w) A.in1 (storeInOwnDict (.ref x) (.ref C) (.str name tk) name v b)
      (fun fin s' => match fin with | .done f => R (.ok f) s' | .again c' => c'.quiet = true ∧ codeAny (model prog w) A c' R s') (fun e s' => R (.error e) s') s) :
    codeAny (model prog w) A (.call (.builtin "object.__setattr__") ⟨[.ref x, .str name tk, v], []⟩) R s := by
  have SF := PySem.F.store_object
  have sub : Looks (model prog w) s.heap (isInstance (.ref x) (.type "object")) true := I.type.andThen (looks_subIn X hsub)
  refine codeAny_call_builtin SF.slot.plain SF.entry (@check_slot (model prog w) _ _ s "object.__setattr__" "object" "__setattr__" (.ref x) [.str name tk, v] [] _ SF.kind SF.split sub (SF.args (.ref x) (.str name tk) v) ?_)
  obtain ⟨attr, ha, hr⟩ := Option.bind_eq_some_iff.mp ht
  have hm : Looks (model prog w) s.heap (mroOf (.ref C)) cd.mro := (looks_clsIn X hc).andThen .now
  have L3 : Looks (model prog w) s.heap (storeTaker? attr) none := by
    cases attr with
    | none => exact .now
    | some a =>
      obtain ⟨b, hb, e⟩ := Option.map_eq_some_iff.mp hr
      refine (looks_takesIn X hb).andThen ?_
      cases b
      · exact .now
      · cases e
  rw [osa_eq, refuse_eq]
  refine wpAny_bind (wpAny_bind (I.type.here (wpAny_bind (hm.here ?_))))
  rw [ho]
  refine wpAny_pure (wpAny_bind (I.type.here (wpAny_bind ((looks_findIn X ha).here (wpAny_bind (L3.here ?_))))))
  exact h _

/-- a name stored into a dict of the ledger -/
theorem storeInDict_W {E' : Value → Shared → Prop} {Q : Fin → Shared → Prop} {es : List DictEntry} {n : Nat} {dx : Addr} {tk : Tok} (F : Fr h₀ L s.heap m) (N : News h₀ L s.heap (pre ++ (dx, dictOf es n) :: post)) (h1 : ∀ p ∈ pre, p.1 ≠ dx) (h2 : ∀ p ∈ post, p.1 ≠ dx)
    (hl : (getL name es).isSome = true) (hz : es.length ≤ 100)
    (h : ∀ h', Fr h₀ L h' m → News h₀ L h' (pre ++ (dx, dictOf (putL name (PyData.keyHash w.params name) (.str name s.toks) v es) (putN name es n)) :: post) → Q (.done (.ret .none)) { s with heap := h', toks := s.toks + 1 }) :
    wpAny (model prog w) A (storeInDict dx (.str name tk) name v) Q E' s := by
  have e := putName_dict name (PyData.keyHash w.params name) (.str name s.toks) v es n
  obtain ⟨U1, U2⟩ := news_upd (f := Obj.putName name (PyData.keyHash w.params name) (.str name s.toks) v) F N h1 h2 e rfl
  have D := (N (dx, dictOf es n) (by simp)).1
  have D' := (U2 (dx, dictOf (putL name (PyData.keyHash w.params name) (.str name s.toks) v es) (putN name es n)) (by simp)).1
  have hlen : ∀ (l : List DictEntry), (putL name (PyData.keyHash w.params name) (.str name s.toks) v l).length ≤ l.length + 1 := by
    intro l
    induction l with
    | nil => simp [putL]
    | cons e r ih =>
      unfold putL
      split
      · simp
      · simpa using ih
  unfold storeInDict
  refine wpAny_bind (wpAny_pure (wpAny_bind ?_))
  unfold nsSet
  refine wpAny_bind (wpAny_bind (wpAny_askSetting (wpAny_pure (wpAny_bind (wpAny_mkText (wpAny_bind (wpAny_loadPart D ?_)))))))
  have c : (!es.toArray.any (·.key.isStr name) && es.toArray.any (·.refKey)) = false := by
    rw [← Array.any_toList, ← Array.any_toList]
    unfold getL at hl
    split at hl
    · rename_i en he
      rw [List.any_eq_true.mpr ⟨en, List.mem_of_find?_eq_some he, List.find?_some he⟩]; rfl
    · split at hl
      · cases hl
      · rename_i z; rw [Bool.not_eq_true] at z
        show (_ && List.any es _) = false
        rw [z, Bool.and_false]
  dsimp only
  rw [aRefKeyMayBeTheName_at, c]
  refine wpAny_updatePart D ?_
  refine wpAny_bind (wpAny_lookBehind D' (pastItsLine_dict (by rw [List.size_toArray, sizeLine_eq]; have := hlen es; omega)) ?_)
  exact wpAny_pure (h _ U1 U2)

/-- self.name = v of the exception, its dict made here -/
theorem set_W0 {Q : Unit → Shared → Prop} {cd : ClassData} (F : Fr h₀ L s.heap m) (X₀ : K.In h₀) (N : News h₀ L s.heap (pre ++ (e, excObj C t none) :: post)) (h1 : ∀ p ∈ pre, p.1 ≠ e) (h2 : ∀ p ∈ post, p.1 ≠ e)
    (hs : findIn K (.ref C) "__setattr__" = some (some (.builtin "object.__setattr__"))) (hc : clsIn K C = some cd) (hd : cd.hasDict = true) (ho : refuseLoop (.ref e) "__setattr__" cd.mro = pure ()) (hsub : subIn K (.ref C) (.type "object") = some true) (ht : takerIn K C name = some none)
    (h : ∀ h' dx hsh tk n', Fr h₀ L h' m → News h₀ L h' ((dx, dictOf [⟨hsh, .str name tk, v⟩] n') :: (pre ++ (e, excObj C t (some dx)) :: post)) → (∀ p ∈ pre ++ (e, excObj C t none) :: post, p.1 < dx) → Q () { s with heap := h', toks := s.toks + 2 }) :
    wpAny (model prog w) A (setAttr (.ref e) name v) Q E s := by
  have X := X₀.keeps F.keep
  have he := (N (e, excObj C t none) (by simp)).1
  have I : InstAt s.heap e (excObj C t none) C none := ⟨he, rfl, rfl, True.intro⟩
  have hlt : ∀ p ∈ pre ++ (e, excObj C t none) :: post, p.1 < s.heap.objs.size := fun p hp => Heap.lt_size (N p hp).1
  refine set_plain X I hs (osa_open_W (s := { s with toks := s.toks + 1 }) X I hc ho hsub ht fun b => ?_)
  unfold storeInOwnDict
  refine wpAny_bind (wpAny_pure ?_)
  rw [if_neg (show ¬ ((Value.ref C == Value.type "module") = true) from Bool.false_ne_true)]
  refine wpAny_bind ?_
  unfold ownDictForStores instanceDict
  refine wpAny_bind (wpAny_loadPart he ?_)
  dsimp only
  refine wpAny_bind (looks_clsIn X hc _ _ _ _ (fun _ _ e => e) ?_)
  rw [hd]
  rw [if_neg (show ¬ ((!true) = true) from Bool.false_ne_true)]
  rw [if_neg (show ¬ ((!true || !typeHasDict (Value.ref C)) = true) from Bool.false_ne_true)]
  have N1 := N.push F (dictOf [] 0)
  have F1 := F.push (dictOf [] 0)
  have U := news_upd (pre := (s.heap.objs.size, dictOf [] 0) :: pre) (post := post) (d := e) (o := excObj C t none) (o' := excObj C t (some s.heap.objs.size)) (f := fun o => { o with dict := some s.heap.objs.size }) F1 N1
    (fun p hp => by
      rcases List.mem_cons.mp hp with rfl | hp
      · exact Nat.ne_of_gt (hlt (e, excObj C t none) (by simp))
      · exact h1 p hp) h2 rfl rfl
  obtain ⟨U1, U2⟩ := U
  have he1 := (N1 (e, excObj C t none) (by simp)).1
  refine wpAny_bind (wpAny_alloc ?_)
  refine wpAny_bind (wpAny_update he1 ?_)
  refine wpAny_pure ?_
  dsimp only
  refine storeInDict_W (pre := []) (es := []) (n := 0) U1 U2 (fun _ hp => nomatch hp) ?_ rfl (by simp) (fun h' F' N' => ?_)
  · intro p hp
    refine Nat.ne_of_lt ?_
    rcases List.mem_append.mp hp with hp | hp
    · exact hlt p (List.mem_append_left _ hp)
    · rcases List.mem_cons.mp hp with rfl | hp
      · exact hlt (e, excObj C t none) (by simp)
      · exact hlt p (List.mem_append_right _ (.tail _ hp))
  · exact h h' s.heap.objs.size _ _ _ F' N' hlt

/-- self.name = v of the exception, its dict there -/
theorem set_W1 {Q : Unit → Shared → Prop} {cd : ClassData} {dx : Addr} {es : List DictEntry} {n : Nat} (F : Fr h₀ L s.heap m) (X₀ : K.In h₀) (N : News h₀ L s.heap (pre ++ (dx, dictOf es n) :: post)) (h1 : ∀ p ∈ pre, p.1 ≠ dx) (h2 : ∀ p ∈ post, p.1 ≠ dx) (hx : (e, excObj C t (some dx)) ∈ pre ++ (dx, dictOf es n) :: post)
    (hs : findIn K (.ref C) "__setattr__" = some (some (.builtin "object.__setattr__"))) (hc : clsIn K C = some cd) (hd : cd.hasDict = true) (ho : refuseLoop (.ref e) "__setattr__" cd.mro = pure ()) (hsub : subIn K (.ref C) (.type "object") = some true) (ht : takerIn K C name = some none)
    (hl : (getL name es).isSome = true) (hz : es.length ≤ 100)
    (h : ∀ h' es' n', Fr h₀ L h' m → News h₀ L h' (pre ++ (dx, dictOf es' n') :: post) → Q () { s with heap := h', toks := s.toks + 2 }) :
    wpAny (model prog w) A (setAttr (.ref e) name v) Q E s := by
  have X := X₀.keeps F.keep
  have he := (N (e, excObj C t (some dx)) hx).1
  have hdx := (N (dx, dictOf es n) (by simp)).1
  have I : InstAt s.heap e (excObj C t (some dx)) C (some (dictOf es n)) := ⟨he, rfl, rfl, hdx⟩
  refine set_plain X I hs (osa_open_W (s := { s with toks := s.toks + 1 }) X I hc ho hsub ht fun b => ?_)
  unfold storeInOwnDict
  refine wpAny_bind (wpAny_pure ?_)
  rw [if_neg (show ¬ ((Value.ref C == Value.type "module") = true) from Bool.false_ne_true)]
  refine wpAny_bind ?_
  unfold ownDictForStores instanceDict
  refine wpAny_bind (wpAny_loadPart he ?_)
  dsimp only
  refine wpAny_bind (looks_clsIn X hc _ _ _ _ (fun _ _ e => e) ?_)
  rw [hd]
  rw [if_neg (show ¬ ((!true) = true) from Bool.false_ne_true)]
  refine wpAny_pure ?_
  dsimp only
  exact storeInDict_W (s := { s with toks := s.toks + 1 }) F N h1 h2 hl hz (fun h' F' N' => h h' _ _ F' N')
end
end Mine
end

local macro_rules | `(tactic| walk_at $s:str) => `(tactic| k_extra $s)

section
/-! part NzX2 -/
open PySem PySem.W PyProof.Rows
namespace Mine
set_option maxRecDepth 100000
theorem meta_Exception : typeOf (.type "Exception") = pure (.type "type") := by kernel_rfl
theorem one_ne {t e : Addr} {o : Obj} (h : e < t) : ∀ p ∈ [(t, o)], p.1 ≠ e := fun p hp => by
  rw [List.mem_singleton.mp hp]; exact Nat.ne_of_gt h
theorem all_ne {d : Addr} {l : List (Addr × Obj)} (h : ∀ p ∈ l, p.1 < d) : ∀ p ∈ l, p.1 ≠ d := fun p hp => Nat.ne_of_lt (h p hp)
theorem head_lt0 {e d : Addr} {o : Obj} {post : List (Addr × Obj)} (h : ∀ p ∈ [] ++ (e, o) :: post, p.1 < d) : e < d := h (e, o) (by simp)
theorem swap_lt {e dx : Addr} {o o' : Obj} {pre post : List (Addr × Obj)} (h : ∀ p ∈ pre ++ (e, o) :: post, p.1 < dx) : ∀ p ∈ pre ++ (e, o') :: post, p.1 < dx := fun p hp => by
  rcases List.mem_append.mp hp with hp | hp
  · exact h p (List.mem_append_left _ hp)
  · rcases List.mem_cons.mp hp with rfl | hp
    · exact h (e, o) (by simp)
    · exact h p (List.mem_append_right _ (.tail _ hp))
theorem sub5 {h₀ h : Heap} {L : Addr} {a b c d : Addr × Obj} {news : List (Addr × Obj)} (N : News h₀ L h ([] ++ a :: ([b] ++ c :: (d :: news)))) : News h₀ L h (c :: news) := fun p hp => N p (by
  rcases List.mem_cons.mp hp with rfl | hp
  · exact .tail _ (.tail _ (.head _))
  · exact .tail _ (.tail _ (.tail _ (.tail _ hp))))
set_option maxHeartbeats 8000000 in
theorem wf_make {w : World} {A A₀ : Around} {E Q : Value → Shared → Prop} {s : Shared} {base h₀ : Heap} {L : Addr} {m mg mb : Str → Option Value} {mean : ExcName → Option Value} {news : List (Addr × Obj)} {env : Env} {outer : List Env} {x : Str} {tx : Tok} {i : Int} {ti : Tok}
    (B : Below A₀ base outer h₀) (F : Fr h₀ L s.heap m) (X : (hd.heap_39 w.params).In h₀) (N : News h₀ L s.heap news) (T : Top hd.view_39 (looseW hd.view_39 [Str.ofString "PostError"]) mean mg mb h₀)
    (hA : A.frames = some (env :: outer)) (hf : env.frame = some L) (hke : env.scope.kind = .function) (hroom : A.depth + 1 < recursionLimit)
    (h : ∀ e t dx h' tk', Fr h₀ L h' m → News h₀ L h' ((e, excObj 59 t (some dx)) :: news) → (∀ p ∈ news, p.1 < e) → Q (.ref e) { s with heap := h', toks := tk' }) :
    wpAny (model PySem.Challenge.rw_nz0287_01.row.prog w) A (call (.ref 59) [.str x tx, .int i ti]) Q E s := by
  k_with_none
  k_with "getMethod type:Exception" => (k_here; refine' method_type (by k_asm) (by k_asm) (by exact meta_Exception) (by decide +kernel) (by k_dflt k_is) (by k_handed) ?_)
  k_with "call builtin:Exception.__init__" => (k_here; (refine exc_init_K (K := hd.heap_39 _) (C := 59) (pre := []) (by assumption) (by assumption) (by assumption) (fun _ hp => nomatch hp) (by assumption) (by assumption) rfl ?_); intro t' h' F' N' l'; (replace l' := head_lt0 l'); (try k_sweep))
  k_with "setAttr ref" => (k_here; (refine set_W1 (K := hd.heap_39 _) (C := 59) (pre := []) (by assumption) (by assumption) (by assumption) (fun _ hp => nomatch hp) (all_ne (swap_lt (by assumption))) (by exact List.Mem.tail _ (List.Mem.tail _ (List.Mem.head _))) (by k_is) (by k_is) rfl (refuse_W _) (by k_is) (by k_is) rfl (by simp) ?_); intro h' es' n' F' N'; (try k_sweep))
  k_with "setAttr ref" => (k_here; (refine set_W0 (K := hd.heap_39 _) (C := 59) (pre := [(_, _)]) (by assumption) (by assumption) (by assumption) (one_ne (by assumption)) (by assumption) (by k_is) (by k_is) rfl (refuse_W _) (by k_is) (by k_is) ?_); intro h' dx' hs' tk' n' F' N' l'; (try k_sweep))
  w_top off
  obtain ⟨hp, gg, dr, tk, os⟩ := s
  have X1 : (hd.heap_39 w.params).In hp := X.keeps F.keep
  have hC : (hd.heap_39 w.params).lookup 59 = some (excClassObj "WordFault" "WordFault" 59 58 [.ref 46] [.ref 46, .type "Exception", .type "BaseException", .type "object"] true [] [] false none none (some (.ref 50)) none (some (.str "WordFault" 236)) (some (.str "WordFault" 244)) (some (.bool true)) "Exception.__new__") := by rfl
  refine call_W (K := hd.heap_39 w.params) (C := 59) (fI := 36) X1 (by k_is) (by k_is) (X1 _ _ hC) rfl rfl rfl (fun h' e hm e1 e2 => ?_) (by rw [PySem.sizeLine_eq]; exact Nat.le_of_ble_eq_true rfl)
  subst e1 e2
  have N2 := (N.push F { cls := .type "tuple", data := .seq [Value.str x tx, Value.int i ti].toArray }).push (F.push _) (excObj 59 hp.objs.size none)
  rw [Heap.size_push] at N2
  have F2 := (F.push { cls := .type "tuple", data := .seq [Value.str x tx, Value.int i ti].toArray }).push (excObj 59 hp.objs.size none)
  have hlt : ∀ p ∈ news, p.1 < hp.objs.size := fun p hp' => Heap.lt_size (N p hp').1
  have hA' : (A.under (Code.builtin "type.__call__" { pos := [Value.ref 59, Value.str x tx, Value.int i ti] })).frames = some (env :: outer) := hA
  have hroom' : (A.under (Code.builtin "type.__call__" { pos := [Value.ref 59, Value.str x tx, Value.int i ti] })).depth < recursionLimit := by rw [depth_under_make]; exact hroom
  generalize hA2 : A.under (Code.builtin "type.__call__" { pos := [Value.ref 59, Value.str x tx, Value.int i ti] }) = A2 at *
  have hne : hp.objs.size ≠ hp.objs.size + 1 := Nat.ne_of_lt (Nat.lt_succ_self _)
  have hlt2 : ∀ p ∈ news, p.1 ≠ hp.objs.size + 1 := fun p hp' => Nat.ne_of_lt (Nat.lt_succ_of_lt (hlt p hp'))
  have hlt3 : ∀ p ∈ news, p.1 < hp.objs.size + 1 := fun p hp' => Nat.lt_succ_of_lt (hlt p hp')
  dsimp only at F N F2 N2 h
  change wpAny _ _ _ _ _ { heap := (hp.push { cls := .type "tuple", data := .seq [Value.str x tx, Value.int i ti].toArray }).push (excObj 59 hp.objs.size none), gens := gg, drawn := dr, toks := tk, os := os }
  generalize ((hp.push { cls := .type "tuple", data := .seq [Value.str x tx, Value.int i ti].toArray }).push (excObj 59 hp.objs.size none)) = H at *
  generalize hp.objs.size + 1 = e at *
  generalize hp.objs.size = t at *
  have hpost : ∀ p ∈ ((t, ({ cls := .type "tuple", data := .seq [Value.str x tx, Value.int i ti].toArray } : Obj)) :: news), p.1 ≠ e := by
    intro p hp
    rcases List.mem_cons.mp hp with rfl | hp
    · exact hne
    · exact hlt2 p hp
  clear hm X1 F N hlt hA2
  refine wpAny_call ?_
  k_dflt (refine' code_def ?k1 ?k2 ?k3 ?k4 ?k5 ?kA ?kF ?kK ?k6 ?k7 ?k8 ?k9 ?kB ?_ ?c2 ?c3 ?c4 ?c5; (case kA => assumption); (case kF => assumption); (case kK => assumption); (case k1 => k_asm); (case k2 => k_asm); (case k3 => k_asm); (case k4 => k_asm); (case k5 => k_asm); (case k6 => k_is); (case k7 => k_is); (case k8 => assumption); (case k9 => first | exact BindsTo.of_eq rfl | exact binds_K (by k_in) rfl (by k_is) rfl rfl rfl); (case c5 => decide); (case kB => exact locs rfl); (case c2 => exact rfl); (case c3 => exact rfl); (case c4 => exact rfl); k_whole; intro g' L' h' FG' F' N' B' X' T'; (try dsimp only); (try k_fold))
  k_steps
  exact h _ _ _ _ _ (by assumption) (sub5 (by assumption)) hlt3
end Mine
end

section
/-! part NzX4 -/
open PySem PySem.W PyProof.Rows
namespace Mine
set_option maxRecDepth 100000
theorem wf_cls (P : Params) : (hd.heap_39 P).lookup 59 = some (excClassObj "WordFault" "WordFault" 59 58 [.ref 46] [.ref 46, .type "Exception", .type "BaseException", .type "object"] true [] [] false none none (some (.ref 50)) none (some (.str "WordFault" 236)) (some (.str "WordFault" 244)) (some (.bool true)) "Exception.__new__") := by rfl

/-- what stands when a WordFault has been made: its object, no handled exception -/
noncomputable def WfMade (w : World) (e : Addr) (h : Heap) : Prop := (hd.heap_39 w.params).In h ∧ ∃ t dx, h.get? e = some (excObj 59 t (some dx))

theorem raise_made {M : Model} {w : World} {A : Around} {E : Value → Shared → Prop} {s : Shared} {env : Env} {x : Sem Value} {Q : Flow → Shared → Prop} (hh : A.handled = none)
    (h : wpAny M A x (fun v s₁ => ∃ e, v = .ref e ∧ WfMade w e s₁.heap ∧ E (.ref e) s₁) E s) :
    wpAny M A (raiseStmt env (some x) none) Q E s := by
  unfold raiseStmt
  refine wpAny_bind (wpAny_mono h (fun v s₁ h₁ => ?_) fun _ _ x => x)
  obtain ⟨e, rfl, ⟨X, t, dx, he⟩, hE⟩ := h₁
  obtain ⟨hp, g, d, tk, os⟩ := s₁
  have hC := X _ _ (wf_cls w.params)
  have hcB : (Value.ref 59 :: [Value.ref 46, .type "Exception", .type "BaseException", .type "object"]).contains (.type "BaseException") = true := rfl
  repeat (first | with_reducible refine wpAny_loadPart_at he ?_ | with_reducible refine wpAny_loadPart_at hC ?_ | (with_reducible refine wpAny_isSubtype_exc hC ?_; rw [hcB]) | wp_step)
  exact wpAny_raiseNew_none hh hE

theorem Raise_wf {prog : Program} {w : World} {A : Around} {E : Value → Shared → Prop} {s : Shared} {env : Env} {x : Expr} {pos : Pos} {Q : Flow → Shared → Prop} (hh : A.handled = none)
    (h : wpAny (model prog w) A (eval x env) (fun v s₁ => ∃ e, v = .ref e ∧ WfMade w e s₁.heap ∧ E (.ref e) s₁) E s) :
    wpAny (model prog w) A (exec (.Raise (some x) none pos) env) Q E s := by
  rw [arm_exec_Raise]
  refine wpAny_bind (wpAny_standAt (raise_made (w := w) hh ?_))
  exact wpAny_bind (wpAny_mono h (fun v s₃ h₃ => wpAny_bind (wpAny_standAt (wpAny_pure h₃))) fun _ _ x => x)

theorem leave_wf {M : Model} {A : Around} {E : Value → Shared → Prop} {s' : Shared} {base g : Heap} {outer : List Env} {L a e t dx C : Addr} {m : Str → Option Value} {name : Str} {scope : Scope} {cd : Value} {Q : Unit → Shared → Prop} {news : List (Addr × Obj)}
    (K : Below A base outer g) (F : Fr g L s'.heap m) (N : News g L s'.heap ((e, excObj C t (some dx)) :: news)) (hlt : ∀ p ∈ news, p.1 < e)
    (hQ : ∀ h', RaisedN base outer e (.ref C) news h' → g.UpToSlots h' → Q () { s' with heap := h' }) (hk : scope.kind = .function := by rfl) :
    wpAny M (A.deeper (envOf name scope L a cd)) (leaving (envOf name scope L a cd) (.ref e)) Q E s' := by
  have K' := K.push (name := name) (a := a) (cd := cd) F hk
  have ne := N (e, excObj C t (some dx)) (.head _)
  have hbe : base.get? e = none := fresh_of_stays K.stays ne.2.2
  have hin : ∀ env ∈ (envOf name scope L a cd :: outer), ∀ b, env.frame = some b → b ∈ e :: (envOf name scope L a cd :: outer).filterMap (·.frame) := fun env he b hb => .tail _ (List.mem_filterMap.mpr ⟨env, he, hb⟩)
  have st : base.StaysIn (hideAll s'.heap (e :: (envOf name scope L a cd :: outer).filterMap (·.frame))) := fun b o q => hideAll_get _ (K'.stays b o q) fun hm => by
    rcases List.mem_cons.mp hm with rfl | hm
    · rw [hbe] at q; cases q
    · rw [(K'.frames.mem hm).1] at q; cases q
  have hl : ∀ q ∈ news, (hideAll s'.heap (e :: (envOf name scope L a cd :: outer).filterMap (·.frame))).get? q.1 = some q.2 ∧ base.get? q.1 = none := fun q hq => by
    have Nq := N q (.tail _ hq)
    refine ⟨hideAll_get _ Nq.1 fun hm => ?_, fresh_of_stays K.stays Nq.2.2⟩
    rcases List.mem_cons.mp hm with h1 | hm
    · exact absurd (hlt q hq) (by rw [h1]; exact Nat.lt_irrefl _)
    obtain ⟨env, he, hf⟩ := List.mem_filterMap.mp hm
    rcases List.mem_cons.mp he with rfl | he
    · exact Nq.2.1 (Option.some.inj hf).symm
    · obtain ⟨o, ho, _⟩ := (K.frames.mem (List.mem_filterMap.mpr ⟨env, he, hf⟩)).2
      rw [Nq.2.2] at ho; cases ho
  have hen : (hideAll s'.heap (e :: (envOf name scope L a cd :: outer).filterMap (·.frame))).get? e = none := hideAll_none _ (.head _)
  refine wpAny_leaving_firstW (a0 := .ref t) K'.stack (funFrames_hide K'.frames hin) rfl ne.1 (fun b o hb => of_hideAll _ hb) hen rfl rfl rfl fun h' hL => ?_
  obtain ⟨k1, ⟨_, _, k2⟩, k3, k4⟩ := hL
  exact hQ h' ⟨_, .ref t, st, hl, k1, hen, k2, k3⟩ ((Heap.UpToSlots.of_keeps F.keep).trans k4)
end Mine
end

section
/-! part NzR -/
open PySem PySem.W PyProof.Rows
namespace Mine
set_option maxRecDepth 100000
open PySem.Calls Builtin

/-! rules of built-ins over bytes -/
theorem contains_ints (b : Array UInt8) {i : Int} (h0 : 0 ≤ i) (h1 : i < 256) : b.contains i.toNat.toUInt8 = (KBw.bInts b).contains i := by
  have e : ((i.toNat.toUInt8).toNat : Int) = i := by
    have h2 : (i.toNat.toUInt8).toNat = i.toNat := by
      show (UInt8.ofNat i.toNat).toNat = i.toNat
      rw [UInt8.toNat_ofNat']; exact Nat.mod_eq_of_lt ((Int.toNat_lt h0).2 h1)
    rw [h2]; omega
  rw [Bool.eq_iff_iff]
  simp only [Array.contains_iff_mem, List.contains_iff_mem]
  unfold KBw.bInts
  rw [List.mem_map]
  constructor
  · intro h
    exact ⟨_, by simpa using h, e⟩
  · rintro ⟨c, hc, hce⟩
    have : c = i.toNat.toUInt8 := by
      apply UInt8.toNat_inj.mp
      have := hce.trans e.symm
      omega
    rw [← this]; simpa using hc

theorem gives_contains_int (b : Array UInt8) (i : Int) (t u : Tok) (h0 : 0 ≤ i) (h1 : i < 256) :
    Gives («bytes.__contains__» ⟨[.bytes b t, .int i u], []⟩) (.val (.bool (b.contains i.toNat.toUInt8))) := by
  refine .of_wp fun M A E s Q hq => ?_
  show wpAny M A (Bytes.containsIn "bytes.__contains__" (.bytes b t) (.int i u) >>= fun r => _) _ E s
  refine wpAny_bind ?_
  unfold Bytes.containsIn
  refine wpAny_bind (wpAny_attempt (wpAny_of_eq (rfl : asIndex (.int i u) = pure i) ?_))
  refine wpAny_bind (wpAny_of_eq KBy.buffer_eq ?_)
  show wpAny M A (if (i < 0 || i ≥ 256) = true then _ else _) _ E s
  rw [if_neg (by simp only [Bool.or_eq_true, decide_eq_true_eq]; omega)]
  exact wpAny_pure (wpAny_pure ⟨_, rfl, hq⟩)

section
variable {prog : Program} {w : World} {A : Around} {E : Value → Shared → Prop} {s : Shared}
theorem in_bytes_int {i : Int} {u t : Tok} {b : Array UInt8} {ks : List Int} {Q : Value → Shared → Prop} (hk : KBw.bInts b = ks) (h0 : 0 ≤ i) (h1 : i < 256)
    (h : Q (.bool (ks.contains i)) s) : wpAny (model prog w) A (compareOp .In (.int i u) (.bytes b t)) Q E s :=
  in_gives (typeIs_bytes s b t) FB.slot_bytes_contains FB.entry_bytes_contains (FB.args_bytes_contains_2 _ _) (gives_contains_int b i t u h0 h1) (by rw [contains_ints b h0 h1, hk]; exact h)

theorem typeName_bytes : typeName (.type "bytes") = pure "bytes" := by unfold typeName; rw [find?_eq_fast]; kernel_rfl
theorem wpAny_typeNameOfCut_bytes {n : Nat} {c : Array UInt8} {t : Tok} {Q : String → Shared → Prop} (h : Q "bytes" s) : wpAny (model prog w) A (typeNameOfCut n (.bytes c t)) Q E s := by
  unfold typeNameOfCut shownTypeOf
  refine wpAny_bind (wpAny_bind (wpAny_typeOf (typeIs_bytes _ c t) ?_))
  simp only [show (Value.type "bytes" == Value.type "builtin_function_or_method") = false by decide, Bool.false_eq_true, if_false]
  refine wpAny_pure ?_
  rw [show typeNameCut n (.type "bytes") = typeName (.type "bytes") from rfl, typeName_bytes]; exact wpAny_pure h
theorem no_index_bytes : typeLookup (.type "bytes") "__index__" = pure none := by rw [typeLookup_type, builtinLookup_eq_fast]; kernel_rfl
theorem meets_contains_bytes (b c : Array UInt8) (t u : Tok) :
    Meets («bytes.__contains__» ⟨[.bytes b t, .bytes c u], []⟩) (fun A R s => A.handled = none ∧ ∀ h' tk, (∀ a o, s.heap.get? a = some o → h'.get? a = some o) → R (.ok (.ret (.bool (Bytes.find? b c 0 b.size).isSome))) { s with heap := h', toks := tk }) := by
  refine .of_wp fun prog w A R s hS => ?_
  obtain ⟨hh, h⟩ := hS
  show wpAny _ _ (Bytes.containsIn "bytes.__contains__" (.bytes b t) (.bytes c u) >>= fun r => _) _ _ s
  refine wpAny_bind ?_
  unfold Bytes.containsIn
  refine wpAny_bind (wpAny_attempt ?_)
  unfold asIndex
  refine wpAny_bind (wpAny_of_eq (rfl : asInt? (.bytes c u) = pure none) ?_)
  refine wpAny_bind (wpAny_callSpecial?_none (typeIs_bytes s c u) no_index_bytes ?_)
  dsimp only
  refine wpAny_bind (wpAny_typeNameOfCut_bytes ?_)
  refine wpAny_raiseErrorWords plainExc_TypeError hh fun h' tk e hx => ?_
  refine wpAny_bind (wpAny_of_eq KBy.buffer_eq ?_)
  dsimp only
  refine wpAny_bind (wpAny_of_eq KBy.buffer_eq ?_)
  dsimp only
  refine wpAny_bind (wpAny_rule (wpAny_pure (wpAny_pure ⟨_, rfl, h h' tk fun a o e => hx.keeps a o e⟩)))
theorem in_bytes_bytes {u t : Tok} {b c : Array UInt8} {Q : Value → Shared → Prop} {h₀ : Heap} {L : Addr} {m : Str → Option Value} {news : List (Addr × Obj)} (F : Fr h₀ L s.heap m) (N : News h₀ L s.heap news) (hh : A.handled = none)
    (h : ∀ h' tk, Fr h₀ L h' m → News h₀ L h' news → Q (.bool (Bytes.find? b c 0 b.size).isSome) { s with heap := h', toks := tk }) : wpAny (model prog w) A (compareOp .In (.bytes c u) (.bytes b t)) Q E s :=
  SeqRoads2.in_meets (typeIs_bytes s b t) FB.slot_bytes_contains FB.entry_bytes_contains (FB.args_bytes_contains_2 _ _) (meets_contains_bytes b c t u) ⟨hh, fun h' tk hk => ⟨_, rfl, h h' tk (F.keptAll hk) (N.grown hk)⟩⟩
end

/-! bytes.split, bytes.join -/
theorem slot_bytes_split : Slot "bytes" "split" "bytes.split" :=
  .of (owner := "bytes") (n := "split") (by rw [typeLookup_type, builtinLookup_eq_fast]; kernel_rfl) (by decide +kernel) (by decide +kernel) (by decide +kernel)
    (by first | exact .inl (by decide +kernel) | exact .inr (by decide +kernel)) (by rw [isSubtype_type]; kernel_rfl)
theorem type_bytes_split : typeOf (.builtin "bytes.split") = pure (.type "method_descriptor") := by show builtinType _ = _; rw [builtinType_eq_fast]; kernel_rfl
theorem entry_bytes_split : entryFor table "bytes.split" = some Builtin.«bytes.split» := entryFor_of_tree (by kernel_rfl)
theorem args_bytes_split_2 (a b : Value) : argsOk "bytes.split" ⟨[a, b], []⟩ := by
  unfold argsOk; rw [signature?_of (id := "bytes.split") (n := ['t', 'i', 'l', 'p', 's']) (o := ['s', 'e', 't', 'y', 'b']) (by kernel_rfl) FB.owner_bytes]; kernel_rfl
theorem bind_split (v : Value) : Bytes.bindOptional "bytes.split" "split" ["sep", "maxsplit"] [v] [] = pure [some v, none] := by kernel_rfl
theorem slot_bytes_join : Slot "bytes" "join" "bytes.join" :=
  .of (owner := "bytes") (n := "join") (by rw [typeLookup_type, builtinLookup_eq_fast]; kernel_rfl) (by decide +kernel) (by decide +kernel) (by decide +kernel)
    (by first | exact .inl (by decide +kernel) | exact .inr (by decide +kernel)) (by rw [isSubtype_type]; kernel_rfl)
theorem type_bytes_join : typeOf (.builtin "bytes.join") = pure (.type "method_descriptor") := by show builtinType _ = _; rw [builtinType_eq_fast]; kernel_rfl
theorem entry_bytes_join : entryFor table "bytes.join" = some Builtin.«bytes.join» := entryFor_of_tree (by kernel_rfl)
theorem args_bytes_join_2 (a b : Value) : argsOk "bytes.join" ⟨[a, b], []⟩ := by
  unfold argsOk; rw [signature?_of (id := "bytes.join") (n := ['n', 'i', 'o', 'j']) (o := ['s', 'e', 't', 'y', 'b']) (by kernel_rfl) FB.owner_bytes]; kernel_rfl

/-- values that are these bytes -/
inductive BytesAre : List Value → List (Array UInt8) → Prop where
  | nil : BytesAre [] []
  | cons (b : Array UInt8) (t : Tok) {vs : List Value} {bs : List (Array UInt8)} : BytesAre vs bs → BytesAre (.bytes b t :: vs) (b :: bs)
theorem BytesAre.length {vs : List Value} {bs : List (Array UInt8)} (h : BytesAre vs bs) : vs.length = bs.length := by
  induction h with
  | nil => rfl
  | cons b t _ ih => simp [ih]
theorem BytesAre.append {vs us : List Value} {bs cs : List (Array UInt8)} (h : BytesAre vs bs) (k : BytesAre us cs) : BytesAre (vs ++ us) (bs ++ cs) := by
  induction h with
  | nil => exact k
  | cons b t _ ih => exact .cons b t ih
theorem BytesAre.at {vs : List Value} {bs : List (Array UInt8)} (h : BytesAre vs bs) : ∀ {i : Nat} {v : Value}, vs[i]? = some v → ∃ b t, v = .bytes b t ∧ bs[i]? = some b := by
  induction h with
  | nil => intro i v e; simp at e
  | cons b t _ ih =>
    intro i v e
    cases i with
    | zero => simp at e; exact ⟨b, t, e.symm, rfl⟩
    | succ i => simp at e; simpa using ih e

section
variable {M : Model} {A : Around} {E : Value → Shared → Prop}
theorem wpAny_mapM_new : ∀ (bs : List (Array UInt8)) (s : Shared) {Q : List Value → Shared → Prop}, (∀ b ∈ bs, b.size ≤ sizeLine) →
    (∀ vs tk, BytesAre vs bs → Q vs { s with toks := tk }) → wpAny M A (bs.mapM Bytes.Kind.bytes.new) Q E s
  | [], s, Q, _, h => by
    rw [List.mapM_nil]
    exact wpAny_pure (h [] s.toks .nil)
  | b :: bs, s, Q, hz, h => by
    rw [List.mapM_cons]
    refine wpAny_bind ?_
    show wpAny M A (mkBytes b) _ E s
    refine wpAny_mkBytes ?_ (hz b (.head _))
    refine wpAny_bind (wpAny_mapM_new bs _ (fun c hc => hz c (.tail _ hc)) fun vs tk hv => wpAny_pure ?_)
    exact h _ tk (.cons b _ hv)
end

noncomputable def splitParts (b c : Array UInt8) : List (Array UInt8) :=
  if ((Bytes.occurrences b c 0 b.size).take (b.size + 1)).isEmpty then [b] else Bytes.between b c.size ((Bytes.occurrences b c 0 b.size).take (b.size + 1))

theorem meets_split (b c : Array UInt8) (t u : Tok) (hc : c.isEmpty = false) (hz : ∀ x ∈ splitParts b c, x.size ≤ sizeLine) (hl : (splitParts b c).length ≤ sizeLine) :
    Meets («bytes.split» ⟨[.bytes b t, .bytes c u], []⟩) (fun _ R s => ∀ vs tk, BytesAre vs (splitParts b c) → R (.ok (.ret (.ref s.heap.objs.size))) { s with heap := s.heap.push { cls := .type "list", data := .seq vs.toArray }, toks := tk }) := by
  refine .of_wp fun prog w A R s hS => ?_
  show wpAny _ _ (Bytes.bindOptional "bytes.split" "split" ["sep", "maxsplit"] [.bytes c u] [] >>= _) _ _ s
  refine wpAny_bind (wpAny_of_eq (bind_split _) ?_)
  dsimp only
  refine wpAny_bind (wpAny_pure ?_)
  refine wpAny_bind (wpAny_of_eq (rfl : Bytes.payload (.bytes b t) = pure b) ?_)
  refine wpAny_bind (wpAny_of_eq KBd.like_eq ?_)
  rw [hc]
  simp only [Bool.false_eq_true, if_false]
  rw [show (if ((-1 : Int) < 0) then b.size + 1 else Int.toNat (-1)) = b.size + 1 from if_pos (by decide)]
  unfold splitParts at hS hz hl
  cases hp : ((Bytes.occurrences b c 0 b.size).take (b.size + 1)).isEmpty with
  | true =>
    rw [hp] at hS hz hl
    simp only [if_true] at hS hz hl ⊢
    refine wpAny_bind (wpAny_rule ?_)
    refine wpAny_bind (wpAny_of_eq (show Bytes.Kind.bytes.same (.bytes b t) = pure (.bytes b t) by kernel_rfl) ?_)
    refine wpAny_bind ?_
    unfold newList
    refine wpAny_newObj_type (wpAny_pure ⟨_, rfl, hS [.bytes b t] s.toks (.cons b t .nil)⟩) ?_
    show (#[Value.bytes b t]).size ≤ sizeLine
    rw [sizeLine_eq]; exact Nat.le_of_ble_eq_true rfl
  | false =>
    rw [hp] at hS hz hl
    simp only [Bool.false_eq_true, if_false] at hS hz hl ⊢
    refine wpAny_bind (wpAny_mapM_new _ _ hz fun vs tk hv => ?_)
    refine wpAny_bind ?_
    unfold newList
    refine wpAny_newObj_type (wpAny_pure ⟨_, rfl, hS vs tk hv⟩) ?_
    show vs.toArray.size ≤ sizeLine
    rw [List.size_toArray, hv.length]; exact hl

section
variable {prog : Program} {w : World} {A : Around} {E : Value → Shared → Prop} {s : Shared} {h₀ : Heap} {L : Addr} {m : Str → Option Value} {news : List (Addr × Obj)} {t u : Tok} {b c : Array UInt8}
theorem call_split {Q : Value → Shared → Prop} (F : Fr h₀ L s.heap m) (N : News h₀ L s.heap news) (hc : c.isEmpty = false) (hz : ∀ x ∈ splitParts b c, x.size ≤ sizeLine) (hl : (splitParts b c).length ≤ sizeLine)
    (h : ∀ D vs h' tk, BytesAre vs (splitParts b c) → Fr h₀ L h' m → News h₀ L h' ((D, { cls := .type "list", data := .seq vs.toArray }) :: news) → (∀ p ∈ news, p.1 < D) → Q (.ref D) { s with heap := h', toks := tk }) :
    wpAny (model prog w) A (call (.builtin "bytes.split") [.bytes b t, .bytes c u]) Q E s :=
  call_meets slot_bytes_split (typeIs_bytes _ _ _) entry_bytes_split (args_bytes_split_2 _ _) (meets_split b c t u hc hz hl) fun vs tk hv => h _ vs _ tk hv (F.push _) (N.push F _) fun p hp => Heap.lt_size (N p hp).1
theorem method_split {M : Model} {pl : Sem Bool} {Q : Value × List Value → Shared → Prop} (h : Q (.builtin "bytes.split", [.bytes b t]) s) : wpAny M A (getMethod (.bytes b t) "split" pl) Q E s := by
  with_reducible exact KBd.method_of (.bytes b t) (typeIs_bytes _ _ _) slot_bytes_split type_bytes_split KBd.noRef h
theorem method_join {M : Model} {pl : Sem Bool} {Q : Value × List Value → Shared → Prop} (h : Q (.builtin "bytes.join", [.bytes b t]) s) : wpAny M A (getMethod (.bytes b t) "join" pl) Q E s := by
  with_reducible exact KBd.method_of (.bytes b t) (typeIs_bytes _ _ _) slot_bytes_join type_bytes_join KBd.noRef h
end

theorem take_eq {id : String} {b : Array UInt8} {t : Tok} {f : Int} : Bytes.takeBufferQuiet? id (.bytes b t) f = pure (some (b, none)) := by
  unfold Bytes.takeBufferQuiet? Bytes.takeBuffer?
  rw [KBy.special_eq KBy.look_buffer, KBy.own_buffer]
  kernel_rfl
theorem wpAny_forRange {M : Model} {A : Around} {E : Value → Shared → Prop} {β : Type} {n : Nat} {f : Nat → β → Sem (ForInStep β)} (I : Nat → β → Shared → Prop) {Q : β → Shared → Prop} {b : β} {s : Shared}
    (h : I 0 b s) (step : ∀ i b s, i < n → I i b s → wpAny M A (f i b) (fun r s' => ∃ b', r = .yield b' ∧ I (i + 1) b' s') E s) (done : ∀ b s, I n b s → Q b s) :
    wpAny M A (forIn [:n] b f) Q E s := by
  rw [Std.Legacy.Range.forIn_eq_forIn_range']
  have hsz : ([:n] : Std.Legacy.Range).size = n := by simp [Std.Legacy.Range.size]
  show wpAny M A (forIn (List.range' 0 ([:n] : Std.Legacy.Range).size 1) b f) Q E s
  rw [hsz]
  refine wpAny_forIn_list f (fun l c st => ∃ i, i ≤ n ∧ l = List.range' i (n - i) 1 ∧ I i c st) Q ?_ ?_ _ b ⟨0, Nat.zero_le _, by simp, h⟩
  · rintro x rest c st ⟨i, hi, hl, hI⟩
    have hlt : i < n := by
      rcases Nat.lt_or_ge i n with h' | h'
      · exact h'
      · rw [show n - i = 0 by omega] at hl; simp at hl
    obtain ⟨k, hk⟩ : ∃ k, n - i = k + 1 := ⟨n - i - 1, (Nat.sub_one_add_one (Nat.sub_ne_zero_of_lt (by assumption))).symm⟩
    rw [hk, List.range'_succ] at hl
    obtain ⟨rfl, rfl⟩ := List.cons.inj hl
    refine wpAny_mono (step x c st hlt hI) (fun r st' h' => ?_) fun _ _ e => e
    obtain ⟨b', rfl, h''⟩ := h'
    exact ⟨x + 1, hlt, by rw [← Nat.sub_sub, hk, Nat.add_sub_cancel], h''⟩
  · rintro c st ⟨i, hi, hl, hI⟩
    have : i = n := by
      rcases Nat.lt_or_ge i n with h' | h'
      · obtain ⟨k, hk⟩ : ∃ k, n - i = k + 1 := ⟨n - i - 1, (Nat.sub_one_add_one (Nat.sub_ne_zero_of_lt (by assumption))).symm⟩
        rw [hk, List.range'_succ] at hl; simp at hl
      · omega
    subst this; exact done _ _ hI

theorem wpAny_joinLetGo {M : Model} {A : Around} {E : Value → Shared → Prop} : ∀ (vs : List Value) (keep : List Value) {s : Shared} {Q : Unit → Shared → Prop}, Q () s → wpAny M A (Bytes.joinLetGo (vs.map fun v => (v, none)) keep) Q E s
  | [], _, _, _, h => by unfold Bytes.joinLetGo; exact wpAny_pure h
  | v :: vs, keep, s, Q, h => by
    rw [List.map_cons]
    unfold Bytes.joinLetGo
    dsimp only
    exact wpAny_bind (wpAny_letGo (wpAny_joinLetGo vs keep h))

theorem joined_empty (bs : List (Array UInt8)) : Bytes.joined #[] bs = bs.foldl (· ++ ·) #[] := by
  unfold Bytes.joined
  have key : ∀ (l : List (Array UInt8)) (k : Nat) (acc : Array UInt8), (l.zipIdx k).foldl (fun out (x : Array UInt8 × Nat) => (if x.2 > 0 then out ++ #[] else out) ++ x.1) acc = l.foldl (· ++ ·) acc := by
    intro l
    induction l with
    | nil => intro k acc; rfl
    | cons x l ih =>
      intro k acc
      rw [List.zipIdx_cons, List.foldl_cons, List.foldl_cons, ih]
      congr 1
      simp
  exact key bs 0 #[]

theorem meets_join (b : Array UInt8) (t : Tok) (l : Addr) (vs : List Value) (bs : List (Array UInt8)) (hv : BytesAre vs bs) (hb : b = #[]) (hz : (bs.map (·.size)).sum ≤ 16777216) :
    Meets («bytes.join» ⟨[.bytes b t, .ref l], []⟩) (fun A R s => s.heap.IsList l vs.toArray ∧ ∀ u tk, R (.ok (.ret (.bytes (bs.foldl (· ++ ·) #[]) u))) { s with toks := tk }) := by
  refine .of_wp fun prog w A R s hS => ?_
  obtain ⟨hl, h⟩ := hS
  obtain ⟨o, ho, hoc, n, hod⟩ := id hl
  subst hb
  have hlen := hv.length
  unfold «bytes.join» Bytes.joinM
  refine wpAny_bind (wpAny_pure ?_)
  dsimp only
  rw [if_pos (show (Bytes.Kind.bytes == Bytes.Kind.bytes) = true from rfl)]
  refine wpAny_bind ?_
  unfold Bytes.joinItems
  refine wpAny_bind (wpAny_typeOf hl.typeIs ?_)
  rw [if_pos (show (Value.type "list" == Value.type "list" || Value.type "list" == Value.type "tuple") = true from rfl)]
  refine wpAny_pure ?_
  refine wpAny_bind (wpAny_seqItems ho hod ?_)
  dsimp only
  rw [if_pos (show (Bytes.Kind.bytes == Bytes.Kind.bytes) = true from rfl)]
  have one : ∀ (v : Value), vs.toArray = #[v] → ∃ c u, v = .bytes c u ∧ bs.foldl (· ++ ·) #[] = c := by
    intro v e
    have e' : vs = [v] := by simpa using congrArg Array.toList e
    subst e'
    cases hv with
    | cons c u r => cases r; exact ⟨c, u, rfl, by simp⟩
  generalize hI : vs.toArray = items at hl hod ⊢
  have hsz : items.size = vs.length := by rw [← hI]; simp
  obtain ⟨its⟩ := items
  have hIv : vs = its := by simpa using congrArg Array.toList hI
  subst hIv
  clear hI
  rcases hcase : vs with _ | ⟨v, _ | ⟨v', r⟩⟩
  case cons.nil =>
    subst hcase
    obtain ⟨c, u, rfl, hc⟩ := one v rfl
    show wpAny _ _ (typeOf _ >>= _) _ _ _
    refine wpAny_bind (wpAny_typeOf (typeIs_bytes s c u) ?_)
    rw [if_pos (show (Value.type "bytes" == Value.type "bytes") = true from rfl)]
    refine wpAny_bind (wpAny_rule (wpAny_pure ⟨_, rfl, ?_⟩))
    rw [← hc]
    exact h u s.toks
  case nil =>
    subst hcase
    show wpAny _ _ (forIn _ _ _ >>= _) _ _ _
    cases hv
    refine wpAny_bind (wpAny_forRange (fun i st s' => s' = s ∧ st = (#[], [])) ⟨rfl, rfl⟩ (fun i st s' hi => absurd hi (by simp)) ?_)
    rintro st s' ⟨rfl, rfl⟩
    dsimp only
    refine wpAny_bind (wpAny_of_eq (rfl : Bytes.payload (.bytes #[] t) = pure #[]) ?_)
    rw [if_neg (by decide)]
    refine wpAny_bind ?_
    show wpAny _ _ (mkBytes (Bytes.joined #[] (#[] : Array (Array UInt8)).toList)) _ _ _
    refine wpAny_mkBytes ?_ (by decide)
    refine wpAny_bind (wpAny_holding (wpAny_point ?_))
    refine wpAny_bind (wpAny_joinLetGo [] _ ?_)
    exact wpAny_pure ⟨_, rfl, h _ _⟩
  case cons.cons =>
    subst hcase
    show wpAny _ _ (forIn _ _ _ >>= _) _ _ _
    generalize hvs : (v :: v' :: r) = vs at *
    refine wpAny_bind (wpAny_forRange (fun i st s' => s' = s ∧ st = ((bs.take i).toArray, (vs.take i).map fun v => (v, none))) ⟨rfl, by simp⟩ ?_ ?_)
    · rintro i st s' hi ⟨rfl, rfl⟩
      have hi' : i < vs.length := by simpa using hi
      dsimp only
      refine wpAny_bind (wpAny_seqItems ho hod ?_)
      dsimp only
      obtain ⟨x, hv1⟩ : ∃ v, vs[i]? = some v := ⟨_, List.getElem?_eq_getElem hi'⟩
      obtain ⟨c, u, rfl, hc⟩ := hv.at hv1
      have eg : vs.toArray.getD i .none = .bytes c u := by simp [Array.getD_eq_getD_getElem?, hv1]
      rw [eg]
      have noheap : (List.map (fun v : Value => (v, (none : Option Value))) (List.take i vs)).any (fun x => x.1.onHeap) = false := by
        rw [List.any_eq_false]
        intro x hx
        obtain ⟨y, hy, rfl⟩ := List.mem_map.1 hx
        obtain ⟨j, hj⟩ := List.mem_iff_getElem?.1 (List.mem_of_mem_take hy)
        obtain ⟨c, u, rfl, _⟩ := hv.at hj
        exact Bool.false_ne_true
      rw [noheap]
      rw [if_neg (show ¬ ((Bytes.Kind.bytes == Bytes.Kind.bytearray || false) = true) from by decide)]
      refine wpAny_bind (wpAny_holding (wpAny_of_eq take_eq ?_))
      dsimp only
      refine wpAny_bind (wpAny_seqItems ho hod ?_)
      dsimp only
      rw [if_neg (by simp)]
      refine wpAny_pure ⟨_, rfl, rfl, ?_⟩
      rw [List.take_add_one, List.take_add_one, hv1, hc]
      simp
    · rintro st s' ⟨rfl, rfl⟩
      dsimp only
      refine wpAny_bind (wpAny_of_eq (rfl : Bytes.payload (.bytes #[] t) = pure #[]) ?_)
      rw [show bs.take vs.toArray.size = bs by rw [List.size_toArray, hlen, List.take_length], show vs.take vs.toArray.size = vs by rw [List.size_toArray, List.take_length]]
      have hsum : ∀ (l : List (Array UInt8)) (a : Nat), l.foldl (fun n (x : Array UInt8) => n + x.size) a = a + (l.map (·.size)).sum := by
        intro l
        induction l with
        | nil => intro a; simp
        | cons x l ih => intro a; rw [List.foldl_cons, ih]; simp; omega
      have hcat : ∀ (l : List (Array UInt8)) (a : Array UInt8), (l.foldl (· ++ ·) a).size = a.size + (l.map (·.size)).sum := by
        intro l
        induction l with
        | nil => intro a; simp
        | cons x l ih => intro a; rw [List.foldl_cons, ih]; simp; omega
      rw [if_neg (by
        rw [KBy.tooLong_not]
        · decide
        · rw [← Array.foldl_toList]
          show List.foldl _ _ bs ≤ _
          rw [hsum]; simp; exact hz)]
      refine wpAny_bind ?_
      show wpAny _ _ (mkBytes (Bytes.joined #[] bs)) _ _ _
      rw [joined_empty]
      refine wpAny_mkBytes ?_ (by rw [hcat, sizeLine_eq]; simpa using hz)
      refine wpAny_bind (wpAny_holding (wpAny_point ?_))
      refine wpAny_bind (wpAny_joinLetGo _ _ ?_)
      exact wpAny_pure ⟨_, rfl, h _ _⟩

theorem call_join {prog : Program} {w : World} {A : Around} {E : Value → Shared → Prop} {s : Shared} {l : Addr} {t : Tok} {vs : List Value} {bs : List (Array UInt8)} {Q : Value → Shared → Prop} (hl : s.heap.IsList l vs.toArray) (hv : BytesAre vs bs) (hz : (bs.map (·.size)).sum ≤ 16777216)
    (h : ∀ u tk, Q (.bytes (bs.foldl (· ++ ·) #[]) u) { s with toks := tk }) : wpAny (model prog w) A (call (.builtin "bytes.join") [.bytes #[] t, .ref l]) Q E s :=
  call_meets slot_bytes_join (typeIs_bytes _ _ _) entry_bytes_join (args_bytes_join_2 _ _) (meets_join #[] t l vs bs hv rfl hz) ⟨hl, h⟩
end Mine
end

section
/-! part Nz01 -/
open PySem PySem.W PyProof.Rows
namespace Mine
set_option maxRecDepth 100000

noncomputable def atomSigns : List Int := [33, 35, 36, 37, 38, 39, 42, 43, 45, 47, 61, 63, 94, 95, 96, 123, 124, 125, 126]
noncomputable def atomC (c : Int) : Bool := decide (48 ≤ c ∧ c ≤ 57) || decide (65 ≤ c ∧ c ≤ 90) || decide (97 ≤ c ∧ c ≤ 122) || decide (127 < c) || atomSigns.contains c

theorem atom_yes {c : Int} (h : (48 ≤ c ∧ c ≤ 57) ∨ (65 ≤ c ∧ c ≤ 90) ∨ (97 ≤ c ∧ c ≤ 122) ∨ 127 < c) : atomC c = true := by
  unfold atomC
  rcases h with h | h | h | h <;> rw [decide_eq_true h] <;> simp
theorem atom_no {c : Int} (h1 : ¬(48 ≤ c ∧ c ≤ 57)) (h2 : ¬(65 ≤ c ∧ c ≤ 90)) (h3 : ¬(97 ≤ c ∧ c ≤ 122)) (h4 : ¬127 < c) : atomC c = atomSigns.contains c := by
  unfold atomC
  rw [decide_eq_false h1, decide_eq_false h2, decide_eq_false h3, decide_eq_false h4]
  rfl
section
set_option maxHeartbeats 8000000 in
theorem is_atom_code_ok (w : World) (c : Int) (t : Tok) (news : List (Addr × Obj)) (h0 : 0 ≤ c) (h1 : c < 256) : Tell w 69 2 20 [.int c t] news (fun v n => n = news ∧ v = .bool (atomC c)) False := by
  k_with_none
  k_with "compareOp In int bytes" => (k_here; (refine in_bytes_int (ks := atomSigns) (by rfl) (by omega) (by omega) ?_))
  w_top off
  unfold Tell
  intro mean mg mb dp un gd cn cs a ccd cl outer A₀ base h₀ L m s Q E B F X N T hk hd hu hret hexc
  refine wpAny_call ?_
  k_dflt cell_enter
  k_steps
  all_goals (refine hret _ _ _ _ ⟨rfl, congrArg Value.bool ?_⟩ (by assumption) (by assumption))
  all_goals first
    | exact (decide_eq_true (by assumption)).trans (atom_yes (.inl ⟨by assumption, by assumption⟩)).symm
    | exact (decide_eq_true (by assumption)).trans (atom_yes (.inr (.inl ⟨by assumption, by assumption⟩))).symm
    | exact (decide_eq_true (by assumption)).trans (atom_yes (.inr (.inr (.inl ⟨by assumption, by assumption⟩)))).symm
    | exact (decide_eq_true (by assumption)).trans (atom_yes (.inr (.inr (.inr (by assumption))))).symm
    | exact (atom_no (by first | exact fun h => absurd h.1 (by assumption) | exact fun h => absurd h.2 (by assumption) | omega) (by first | exact fun h => absurd h.1 (by assumption) | exact fun h => absurd h.2 (by assumption) | omega) (by first | exact fun h => absurd h.1 (by assumption) | exact fun h => absurd h.2 (by assumption) | omega) (by first | assumption | omega)).symm
end
end Mine
end

section
/-! part Nz02 -/
open PySem PySem.W PyProof.Rows
namespace Mine
set_option maxRecDepth 100000

theorem eq_ints {b c : Array UInt8} (h : (b.toList == c.toList) = true) : KBw.bInts b = KBw.bInts c := by
  have e : b.toList = c.toList := eq_of_beq h
  unfold KBw.bInts; rw [e]
theorem ne_ints {b c : Array UInt8} (h : (b.toList == c.toList) = false) : KBw.bInts b ≠ KBw.bInts c := by
  intro e
  have e' : b.toList = c.toList := by
    unfold KBw.bInts at e
    have inj : ∀ (l l' : List UInt8), l.map (fun c => (c.toNat : Int)) = l'.map (fun c => (c.toNat : Int)) → l = l' := by
      intro l
      induction l with
      | nil => intro l' h; cases l' with | nil => rfl | cons x r => simp at h
      | cons x r ih =>
        intro l' h
        cases l' with
        | nil => simp at h
        | cons y r' =>
          simp only [List.map_cons, List.cons.injEq] at h
          have h1 : x.toNat = y.toNat := by have := h.1; omega
          rw [UInt8.toNat_inj.mp h1, ih r' h.2]
    exact inj _ _ e
  rw [e'] at h
  simp at h
theorem mem_cut {ks : List Int} {n m : Nat} {x : Int} {r : List Int} (e : List.take n (List.drop m ks) = x :: r) : x ∈ ks :=
  List.mem_of_mem_drop (List.mem_of_mem_take (e ▸ List.mem_cons_self))

section
set_option maxHeartbeats 8000000 in
theorem line_end_ok (w : World) (b : Array UInt8) (tb : Tok) (ks : List Int) (at' : Int) (ta : Tok) (news : List (Addr × Obj)) (hk : KBw.bInts b = ks) (hz : ks.length ≤ 1000) (h0 : 0 ≤ at') (h1 : at' ≤ 1000) (hno : ∀ k ∈ ks, k ≠ 10 ∧ k ≠ 13) :
    Tell w 76 2 20 [.bytes b tb, .int at' ta] news (fun v n => n = news ∧ ∃ t, v = .int (-1) t) False := by
  k_with_none
  w_top off
  unfold Tell
  intro mean mg mb dp un gd cn cs a ccd cl outer A₀ base h₀ L m s Q E B F X N T hkk hd hu hret hexc
  refine wpAny_call ?_
  k_dflt cell_enter
  k_steps
  all_goals first
    | exact hret _ _ _ _ ⟨rfl, _, rfl⟩ (by assumption) (by assumption)
    | (exfalso; (rename KBw.bInts _ = _ => hK); (rename (_ == _) = true => hE); rw [eq_ints hE] at hK; have hm := hno _ (mem_cut hK.symm); first | exact hm.1 rfl | exact hm.2 rfl)
end
end Mine
end

section
/-! part Nz03 -/
open PySem PySem.W PyProof.Rows
namespace Mine
set_option maxRecDepth 100000

theorem clip_in {n : Nat} {i : Int} (h0 : 0 ≤ i) (h1 : i ≤ n) : clipAt n i = i.toNat := by
  unfold clipAt
  rw [if_neg (Int.not_lt.2 h0), Int.min_eq_left h1, Int.max_eq_right h0]
theorem cut_one {ks : List Int} {i i' : Int} (h0 : 0 ≤ i) (h1 : i < ks.length) (e : i' = i + 1) : List.take (clipAt ks.length i' - clipAt ks.length i) (List.drop (clipAt ks.length i) ks) = [ks.getD i.toNat 0] := by
  subst e
  rw [clip_in h0 (by omega), clip_in (by omega) (by omega)]
  have h : i.toNat < ks.length := by omega
  rw [show (i + 1).toNat - i.toNat = 1 by omega, List.getD_eq_getElem?_getD, List.getElem?_eq_getElem h, List.drop_eq_getElem_cons h]
  rfl

/-- a pair that a def made and hands back -/
noncomputable def PairBack (news : List (Addr × Obj)) (ks : List Int) (j : Int) (v : Value) (n : List (Addr × Obj)) : Prop :=
  ∃ (d : Addr) (b : Array UInt8) (t u : Tok), v = .ref d ∧ KBw.bInts b = ks ∧ n = (d, ({ cls := .type "tuple", data := .seq #[.bytes b t, .int j u] } : Obj)) :: news ∧ ∀ p ∈ news, p.1 < d

noncomputable def insideKs (ks : List Int) (i : Int) : List Int := if ks.getD i.toNat 0 = 92 then [ks.getD (i + 1).toNat 0] else [ks.getD i.toNat 0]
noncomputable def insideTo (ks : List Int) (i : Int) : Int := if ks.getD i.toNat 0 = 92 then i + 2 else i + 1

theorem in_never {w : World} {A : Around} {E : Value → Shared → Prop} {s : Shared} {c : Int} {t : Tok} {h₀ : Heap} {L : Addr} {m : Str → Option Value} {Q : Value → Shared → Prop} (F : Fr h₀ L s.heap m) (X : (hd.heap_39 w.params).In h₀)
    (h : Q (.bool (decide (c = 0 ∨ c = 10 ∨ c = 13))) s) : wpAny (model PySem.Challenge.rw_nz0287_01.row.prog w) A (compareOp .In (.int c t) (.ref 62)) Q E s :=
  in_tuple_ints (ns := [0, 10, 13]) (tupK (K := hd.heap_39 w.params) (l := [.int 0 260, .int 10 261, .int 13 262]) (X.keeps F.keep) (by rfl)) (.cons _ _ (.cons _ _ (.cons _ _ .nil))) (by
    have e : ([0, 10, 13].any fun x : Int => x == c) = decide (c = 0 ∨ c = 10 ∨ c = 13) := by
      rw [Bool.eq_iff_iff]
      simp only [List.any_cons, List.any_nil, Bool.or_false, Bool.or_eq_true, beq_iff_eq, decide_eq_true_eq]
      exact ⟨Or.imp Eq.symm (Or.imp Eq.symm Eq.symm), Or.imp Eq.symm (Or.imp Eq.symm Eq.symm)⟩
    rw [e]; exact h)
theorem getD_mem {ks : List Int} {i : Int} (h0 : 0 ≤ i) (h1 : i < ks.length) : ks.getD i.toNat 0 ∈ ks := by
  have h : i.toNat < ks.length := by omega
  rw [List.getD_eq_getElem?_getD, List.getElem?_eq_getElem h]
  exact List.getElem_mem h

/-- a fact that the walk's arithmetic is not to see -/
noncomputable def Hid (P : Prop) : Prop := P
theorem raise_no {c : Int} (h0 : Hid (c ≠ 0)) (h1 : c ≠ 10 ∧ c ≠ 13) (h : c = 0 ∨ c = 10 ∨ c = 13) : False := h.elim h0 fun h => h.elim h1.1 h1.2
theorem raise_no2 {n i c : Int} (hb : Hid (n ≤ i + 1 ∨ c ≠ 0 ∧ c ≠ 10 ∧ c ≠ 13)) (h1 : i < n) (h2 : i + 1 ≠ n) (h : c = 0 ∨ c = 10 ∨ c = 13) : False := by
  rcases (show n ≤ i + 1 ∨ c ≠ 0 ∧ c ≠ 10 ∧ c ≠ 13 from hb) with hb | hb
  · omega
  · exact h.elim hb.1 fun h => h.elim hb.2.1 hb.2.2
section
set_option maxHeartbeats 8000000 in
theorem inside_at_ok (w : World) (b : Array UInt8) (tb : Tok) (ks : List Int) (at' : Int) (ta : Tok) (be : Int) (te : Tok) (news : List (Addr × Obj)) (hk : KBw.bInts b = ks) (hz : ks.length ≤ 1000) (h0 : 0 ≤ at') (h1 : at' < ks.length)
    (hno : ∀ k ∈ ks, k ≠ 10 ∧ k ≠ 13) (hno0 : ∀ k ∈ ks, k ≠ 0) (hesc : ks.getD at'.toNat 0 = 92 → at' + 1 < ks.length) :
    Tell w 83 3 40 [.bytes b tb, .int at' ta, .int be te] news (PairBack news (insideKs ks at') (insideTo ks at')) False := by
  k_with_none
  k_with "compareOp In int ref" => (k_here; (with_reducible show wpAny _ _ (compareOp CmpOp.In (Value.int _ _) (Value.ref 62)) _ _ _); refine in_never (by assumption) (by assumption) ?_)
  k_with "exec Raise some none" => (exfalso; first | contradiction | exact raise_no (by assumption) (by assumption) (by assumption) | exact raise_no2 (by assumption) (by assumption) (by assumption) (by assumption) | omega)
  k_with "call ref" => (k_here; (with_reducible show wpAny _ _ (call (Value.ref 76) [Value.bytes _ _, Value.int _ _]) _ _ _); k_dflt (refine' tell_use (line_end_ok _ _ _ _ _ _ _ (by assumption) (by assumption) (by omega) (by omega) (by assumption)) (by k_asm) (by k_asm) (by k_asm) (by k_asm) (by k_asm) (by first | exact rfl | assumption) (by ktr_room) (by ktr_units) ?_ (fun hx => hx.elim)); intro v' n' h' tk' hv' F' N'; (obtain ⟨e1', t', e2'⟩ := hv'); subst e1' e2')
  w_top off
  unfold Tell
  intro mean mg mb dp un gd cn cs a ccd cl outer A₀ base h₀ L m s Q E B F X N T hkk hd hu hret hexc
  have hA0 : Hid (ks.getD at'.toNat 0 ≠ 0) := hno0 _ (getD_mem h0 h1)
  have hA1 := hno _ (getD_mem h0 h1)
  have hB : Hid ((ks.length : Int) ≤ at' + 1 ∨ (ks.getD (at' + 1).toNat 0 ≠ 0 ∧ ks.getD (at' + 1).toNat 0 ≠ 10 ∧ ks.getD (at' + 1).toNat 0 ≠ 13)) := by
    show (ks.length : Int) ≤ at' + 1 ∨ _
    rcases Int.lt_or_le (at' + 1) ks.length with h | h
    · have hm := getD_mem (ks := ks) (i := at' + 1) (by omega) h
      exact .inr ⟨hno0 _ hm, (hno _ hm).1, (hno _ hm).2⟩
    · exact .inl h
  have hE : ks.getD at'.toNat 0 ≠ 92 ∨ at' + 1 < ks.length := by
    by_cases h : ks.getD at'.toNat 0 = 92
    · exact .inr (hesc h)
    · exact .inl h
  refine wpAny_call ?_
  k_dflt cell_enter
  k_steps
  all_goals
    unfold PairBack insideKs insideTo at hret
    first
      | rw [if_pos (by assumption), if_pos (by assumption)] at hret
      | rw [if_neg (by assumption), if_neg (by assumption)] at hret
    refine hret _ _ _ _ ⟨_, _, _, _, rfl, ?_, rfl, by assumption⟩ (by assumption) (by assumption)
    rename KBw.bInts (KBy.picked _ _ _) = _ => hK
    rw [hK]
    exact cut_one (by omega) (by omega) (by omega)
end
end Mine
end

section
/-! part NzT -/
open PySem PySem.W PyProof.Rows
namespace Mine
set_option maxRecDepth 100000

/-- a halt of the walk -/
noncomputable def AtStop (P : Prop) : Prop := P
theorem AtStop.of {P : Prop} (h : AtStop P) : P := h

theorem news_list {h₀ h : Heap} {L D : Addr} {vs : Array Value} {n : Nat} {news : List (Addr × Obj)} (N : News h₀ L h news) (hm : (D, listOf vs n) ∈ news) : h.IsList D vs := ⟨_, (N _ hm).1, rfl, n, rfl⟩
theorem upd_two {d D : Addr} {o o₁ o₂ : Obj} {news : List (Addr × Obj)} (hl : ∀ p ∈ (D, o₁) :: news, p.1 < d) (hD : ∀ p ∈ news, p.1 < D) : Upd D o₁ o₂ ((d, o) :: (D, o₁) :: news) ((d, o) :: (D, o₂) :: news) :=
  .tail (Nat.ne_of_gt (hl (D, o₁) (.head _))) (.head (all_ne hD))
theorem drop_news {h₀ h : Heap} {L : Addr} {x y : Addr × Obj} {r : List (Addr × Obj)} (N : News h₀ L h (x :: y :: r)) : News h₀ L h (x :: r) := fun p hp => by
  rcases List.mem_cons.1 hp with rfl | hp
  · exact N _ (List.Mem.head _)
  · exact N p (List.mem_cons_of_mem _ (List.mem_cons_of_mem _ hp))
theorem upd_one {D : Addr} {o₁ o₂ : Obj} {news : List (Addr × Obj)} (hD : ∀ p ∈ news, p.1 < D) : Upd D o₁ o₂ ((D, o₁) :: news) ((D, o₂) :: news) := .head (all_ne hD)
theorem cut_nat {ks : List Int} {p : Nat} (h : p < ks.length) : List.take (clipAt ks.length ((p : Int) + 1) - min p ks.length) (List.drop (min p ks.length) ks) = [ks.getD p 0] := by
  rw [clip_in (by omega) (by omega), Nat.min_eq_left (Nat.le_of_lt h), show ((p : Int) + 1).toNat - p = 1 by omega, List.getD_eq_getElem?_getD, List.getElem?_eq_getElem h, List.drop_eq_getElem_cons h]
  rfl
theorem ints_of {b c : Array UInt8} (h : KBw.bInts b = KBw.bInts c) : b = c := by
  have h1 : b.toList.map (fun x => (x.toNat : Int)) = c.toList.map (fun x => (x.toNat : Int)) := h
  have h2 := List.map_inj_right (f := fun x : UInt8 => (x.toNat : Int)) (by
    intro x y e
    exact UInt8.toNat_inj.1 (Int.ofNat_inj.1 e)) |>.1 h1
  exact Array.toList_inj.1 h2
theorem stop_absurd {x y : Array UInt8} {ks : List Int} {p : Nat} {c : Int} (h : KBw.bInts x = List.take (clipAt ks.length ((p : Int) + 1) - min p ks.length) (List.drop (min p ks.length) ks)) (a : (x.toList != y.toList) = true) (hp : p < ks.length) (h2 : ks.getD p 0 = c) (hy : KBw.bInts y = [c]) : False := by
  rw [cut_nat hp, h2, ← hy] at h
  rw [ints_of h] at a
  simp at a
theorem go_absurd {x y : Array UInt8} {ks : List Int} {p : Nat} {c : Int} (h : KBw.bInts x = List.take (clipAt ks.length ((p : Int) + 1) - min p ks.length) (List.drop (min p ks.length) ks)) (a : (x.toList != y.toList) = false) (hp : p < ks.length) (h2 : ks.getD p 0 ≠ c) (hy : KBw.bInts y = [c]) : False := by
  have e : x.toList = y.toList := by simpa using a
  rw [cut_nat hp, Array.toList_inj.1 e, hy] at h
  exact h2 (List.cons.inj h).1.symm
theorem ints_append (b c : Array UInt8) : KBw.bInts (b ++ c) = KBw.bInts b ++ KBw.bInts c := by
  simp [KBw.bInts]
theorem ints_nil : KBw.bInts #[] = [] := rfl
theorem ints_fold (bs : List (Array UInt8)) (b : Array UInt8) : KBw.bInts (bs.foldl (· ++ ·) b) = KBw.bInts b ++ (bs.map KBw.bInts).flatten := by
  induction bs generalizing b with
  | nil => simp
  | cons c r ih => rw [List.foldl_cons, ih, ints_append, List.map_cons, List.flatten_cons, List.append_assoc]
theorem ints_len (b : Array UInt8) : (KBw.bInts b).length = b.size := by simp [KBw.bInts]
theorem sum_size (bs : List (Array UInt8)) : (bs.map (·.size)).sum = (bs.map KBw.bInts).flatten.length := by
  induction bs with
  | nil => rfl
  | cons c r ih => rw [List.map_cons, List.sum_cons, List.map_cons, List.flatten_cons, List.length_append, ih, ints_len]
theorem flatten_ones (xs : List Int) : (xs.map fun x => [x]).flatten = xs := by
  induction xs with
  | nil => rfl
  | cons c r ih => rw [List.map_cons, List.flatten_cons, ih]; rfl
theorem allLt_mem {d : Addr} : ∀ {l : List (Addr × Obj)}, AllLt d l → ∀ p ∈ l, p.1 < d
  | [], _, _, hp => nomatch hp
  | _ :: _, h, p, hp => by
    rcases List.mem_cons.1 hp with rfl | hp
    · exact h.1
    · exact allLt_mem h.2 p hp
/-- a statement that falls through, what it leaves told by a state -/
noncomputable def NextSt {σ : Type} (h₀ : Heap) (L : Addr) (m : Str → Option Value) (led : σ → List (Addr × Obj)) (P : σ → Prop) (s : Shared) (f : Flow) (s' : Shared) : Prop :=
  f = .next ∧ ∃ c h' tk', s' = { s with heap := h', toks := tk' } ∧ Fr h₀ L h' m ∧ News h₀ L h' (led c) ∧ P c
theorem NextSt.intro {σ : Type} {h₀ h' : Heap} {L : Addr} {m : Str → Option Value} {led : σ → List (Addr × Obj)} {P : σ → Prop} {s : Shared} {tk' : Nat} (c : σ) (F : Fr h₀ L h' m) (N : News h₀ L h' (led c)) (hp : P c) : NextSt h₀ L m led P s .next { s with heap := h', toks := tk' } :=
  ⟨rfl, c, h', tk', rfl, F, N, hp⟩
theorem wp_join {M : Model} {A : Around} {E : Value → Shared → Prop} {s : Shared} {x : Sem Flow} {Q : Flow → Shared → Prop} {h₀ : Heap} {L : Addr} {m : Str → Option Value} {σ : Type} (led : σ → List (Addr × Obj)) (P : σ → Prop) (_ : Fr h₀ L s.heap m)
    (h1 : wpAny M A x (NextSt h₀ L m led P s) E s) (h2 : ∀ c h' tk', Fr h₀ L h' m → News h₀ L h' (led c) → P c → Q .next { s with heap := h', toks := tk' }) : wpAny M A x Q E s :=
  wpAny_mono h1 (fun f s' hx => by
    obtain ⟨rfl, c, h', tk', rfl, F', N', hp⟩ := hx
    exact h2 c h' tk' F' N' hp) fun _ _ e => e
theorem wp_keep {M : Model} {A : Around} {E : Value → Shared → Prop} {s : Shared} {x : Sem Flow} {Q : Flow → Shared → Prop} {h₀ : Heap} {L : Addr} {m : Str → Option Value} {news : List (Addr × Obj)} (F : Fr h₀ L s.heap m) (_ : News h₀ L s.heap news)
    (h1 : wpAny M A x (NextSt (σ := Unit) h₀ L m (fun _ => news) (fun _ => True) s) E s) (h2 : ∀ h' tk', Fr h₀ L h' m → News h₀ L h' news → Q .next { s with heap := h', toks := tk' }) : wpAny M A x Q E s :=
  wp_join _ _ F h1 fun _ h' tk' F' N' _ => h2 h' tk' F' N'
/-! ends of a destructuring under a long goal: the goal is copied once, not once a part -/
theorem eq_and_elim {α : Type} {a n : α} {X : Prop} {G : α → Prop} (h : a = n ∧ X) (k : X → G a) : G n := by
  obtain ⟨rfl, x⟩ := h
  exact k x
theorem bytes_elim {news n : List (Addr × Obj)} {v : Value} {ks : List Int} {G : Value → List (Addr × Obj) → Prop} (h : n = news ∧ ∃ b t, v = .bytes b t ∧ KBw.bInts b = ks) (k : ∀ b t, KBw.bInts b = ks → G (.bytes b t) news) : G v n := by
  obtain ⟨rfl, b, t, rfl, hb⟩ := h
  exact k b t hb
theorem bool_elim {news n : List (Addr × Obj)} {v : Value} {c : Bool} {G : Value → List (Addr × Obj) → Prop} (h : n = news ∧ v = .bool c) (k : G (.bool c) news) : G v n := by
  obtain ⟨rfl, rfl⟩ := h
  exact k
theorem int_elim {news n : List (Addr × Obj)} {v : Value} {j : Int} {G : Value → List (Addr × Obj) → Prop} (h : n = news ∧ ∃ t, v = .int j t) (k : ∀ t, G (.int j t) news) : G v n := by
  obtain ⟨rfl, t, rfl⟩ := h
  exact k t
theorem sign_elim {x : Str} {i : Nat} {v : Value} {G : Value → Prop} (h : SignAt x i v) (k : ∀ c u, x.cps[i]? = some c → G (.str ⟨#[c]⟩ u)) : G v := by
  obtain ⟨c, u, hc, rfl⟩ := h
  exact k c u hc
theorem fact_bytes_elim {news n : List (Addr × Obj)} {v : Value} {ks : List Int} {X : Prop} {G : Value → List (Addr × Obj) → Prop} (h : n = news ∧ X ∧ ∃ b t, v = .bytes b t ∧ KBw.bInts b = ks) (k : ∀ b t, X → KBw.bInts b = ks → G (.bytes b t) news) : G v n := by
  obtain ⟨rfl, x, b, t, rfl, hb⟩ := h
  exact k b t x hb
theorem PairBack.elim {news n : List (Addr × Obj)} {ks : List Int} {j : Int} {v : Value} {G : Value → List (Addr × Obj) → Prop} (h : PairBack news ks j v n)
    (k : ∀ d b t u, KBw.bInts b = ks → (∀ p ∈ news, p.1 < d) → G (.ref d) ((d, { cls := .type "tuple", data := .seq #[.bytes b t, .int j u] }) :: news)) : G v n := by
  obtain ⟨d, b, t, u, rfl, hb, rfl, hl⟩ := h
  exact k d b t u hb hl
theorem two_facts {A B G : Prop} (h : A ∧ B) (k : A → B → G) : G := k h.1 h.2
theorem four_facts {A B C D G : Prop} (h : A ∧ B ∧ C ∧ D) (k : A → B → C → D → G) : G := k h.1 h.2.1 h.2.2.1 h.2.2.2
theorem five_facts {A B C D E G : Prop} (h : A ∧ B ∧ C ∧ D ∧ E) (k : A → B → C → D → E → G) : G := k h.1 h.2.1 h.2.2.1 h.2.2.2.1 h.2.2.2.2
theorem inv_elim {β : Type} {A B : Prop} {X Y : β → Prop} {G : Prop} (h : A ∧ B ∧ ∃ b, X b ∧ Y b) (k : A → B → ∀ b, X b → Y b → G) : G := by
  obtain ⟨a, b, c, d, e⟩ := h
  exact k a b c d e
theorem seven_elim {α β γ δ ε ζ η : Type} {G : α × β × γ × δ × ε × ζ × η → Prop} (k : ∀ a b c d e f g, G (a, b, c, d, e, f, g)) (x : α × β × γ × δ × ε × ζ × η) : G x := k x.1 x.2.1 x.2.2.1 x.2.2.2.1 x.2.2.2.2.1 x.2.2.2.2.2.1 x.2.2.2.2.2.2
theorem three_facts {A B C G : Prop} (h : A ∧ B ∧ C) (k : A → B → C → G) : G := k h.1 h.2.1 h.2.2
theorem both_elim {α β : Type} {y y₀ : α} {n n₀ : β} {G : α → β → Prop} (h : y = y₀ ∧ n₀ = n) (k : G y₀ n₀) : G y n := by
  obtain ⟨rfl, rfl⟩ := h
  exact k
theorem two_elim {α β : Type} {G : α × β → Prop} (k : ∀ a b, G (a, b)) (c : α × β) : G c := k c.1 c.2
theorem four_elim {α β γ δ : Type} {G : α × β × γ × δ → Prop} (k : ∀ a b c d, G (a, b, c, d)) (c : α × β × γ × δ) : G c := k c.1 c.2.1 c.2.2.1 c.2.2.2
theorem three_elim {α β γ : Type} {G : α × β × γ → Prop} (k : ∀ a b c, G (a, b, c)) (c : α × β × γ) : G c := k c.1 c.2.1 c.2.2
end Mine
end

section
/-! part Nz04 -/
open PySem PySem.W PyProof.Rows
namespace Mine
set_option maxRecDepth 100000

noncomputable def escs (xs : List Int) : List Int := xs.flatMap fun c => if c = 34 ∨ c = 92 then [92, c] else [c]

/-- the octets' place of the k-th sign -/
noncomputable def escP (xs : List Int) (k : Nat) : Nat := 1 + (escs (xs.take k)).length
theorem esc_drop (xs : List Int) (k : Nat) (_hk : k ≤ xs.length) : (34 :: (escs xs ++ [34])).drop (escP xs k) = escs (xs.drop k) ++ [34] := by
  unfold escP
  rw [Nat.add_comm, List.drop_succ_cons]
  have e : escs xs = escs (xs.take k) ++ escs (xs.drop k) := by
    unfold escs; rw [← List.flatMap_append, List.take_append_drop]
  conv => lhs; rw [e]
  rw [List.append_assoc, List.drop_append_of_le_length (Nat.le_refl _), List.drop_length, List.nil_append]
theorem getD_drop {ks : List Int} {p : Nat} {c : Int} {r : List Int} (h : ks.drop p = c :: r) : p < ks.length ∧ ks.getD p 0 = c := by
  have hp : p < ks.length := by
    rcases Nat.lt_or_ge p ks.length with h1 | h1
    · exact h1
    · rw [List.drop_eq_nil_of_le h1] at h; cases h
  refine ⟨hp, ?_⟩
  rw [List.getD_eq_getElem?_getD, List.getElem?_eq_getElem hp]
  rw [List.drop_eq_getElem_cons hp] at h
  exact (List.cons.inj h).1
theorem drop_succ_of {ks : List Int} {p : Nat} {c : Int} {r : List Int} (h : ks.drop p = c :: r) : ks.drop (p + 1) = r := by
  rw [← List.drop_drop, h]; rfl
structure EscAt (xs ks : List Int) (k : Nat) (c : Int) : Prop where
  lt : escP xs k < ks.length
  in1 : insideKs ks (escP xs k : Nat) = [c]
  to1 : insideTo ks (escP xs k : Nat) = (escP xs (k + 1) : Nat)
  ne : ks.getD (escP xs k) 0 ≠ 34
  ok : ks.getD (escP xs k) 0 = 92 → (escP xs k : Int) + 1 < ks.length
theorem escP_succ (xs : List Int) (k : Nat) (c : Int) (h : xs[k]? = some c) : escP xs (k + 1) = escP xs k + (if c = 34 ∨ c = 92 then 2 else 1) := by
  unfold escP
  rw [List.take_add_one, h]
  unfold escs
  rw [List.flatMap_append, List.length_append]
  simp only [Option.toList_some, List.flatMap_cons, List.flatMap_nil, List.append_nil]
  split <;> simp <;> omega
theorem esc_at (xs : List Int) (k : Nat) (c : Int) (h : xs[k]? = some c) : EscAt xs (34 :: (escs xs ++ [34])) k c := by
  have hk : k < xs.length := by
    rcases Nat.lt_or_ge k xs.length with h1 | h1
    · exact h1
    · rw [List.getElem?_eq_none h1] at h; cases h
  have hd := esc_drop xs k (Nat.le_of_lt hk)
  have hx : xs.drop k = c :: xs.drop (k + 1) := by
    rw [List.drop_eq_getElem_cons hk]
    rw [List.getElem?_eq_getElem hk] at h
    rw [Option.some.inj h]
  rw [hx] at hd
  have hs := escP_succ xs k c h
  generalize (34 :: (escs xs ++ [34])) = ks at *
  by_cases hc : c = 34 ∨ c = 92
  · rw [if_pos hc] at hs
    have hd' : ks.drop (escP xs k) = 92 :: c :: (escs (xs.drop (k + 1)) ++ [34]) := by
      rw [hd]; unfold escs; simp [hc]
    obtain ⟨h1, h2⟩ := getD_drop hd'
    obtain ⟨h3, h4⟩ := getD_drop (drop_succ_of hd')
    refine ⟨h1, ?_, ?_, by omega, fun _ => by omega⟩
    · unfold insideKs
      rw [Int.toNat_natCast, h2, if_pos rfl]
      rw [show ((escP xs k : Nat) : Int) + 1 = ((escP xs k + 1 : Nat) : Int) by omega, Int.toNat_natCast, h4]
    · unfold insideTo
      rw [Int.toNat_natCast, h2, if_pos rfl]
      omega
  · rw [if_neg hc] at hs
    have hd' : ks.drop (escP xs k) = c :: (escs (xs.drop (k + 1)) ++ [34]) := by
      rw [hd]; unfold escs; simp [hc]
    obtain ⟨h1, h2⟩ := getD_drop hd'
    refine ⟨h1, ?_, ?_, by omega, fun _ => by omega⟩
    · unfold insideKs
      rw [Int.toNat_natCast, h2, if_neg (fun e => hc (.inr e))]
    · unfold insideTo
      rw [Int.toNat_natCast, h2, if_neg (fun e => hc (.inr e))]
      omega
theorem escP_end (xs : List Int) : escP xs xs.length = 1 + (escs xs).length := by unfold escP; rw [List.take_length]
theorem escs_mem {xs : List Int} {k : Int} (h : k ∈ escs xs) : k ∈ xs ∨ k = 92 := by
  unfold escs at h
  obtain ⟨c, hc, hk⟩ := List.mem_flatMap.1 h
  split at hk
  · rcases List.mem_cons.1 hk with rfl | hk
    · exact .inr rfl
    · rw [List.mem_singleton.1 hk]; exact .inl hc
  · rw [List.mem_singleton.1 hk]; exact .inl hc
theorem escs_len (xs : List Int) : (escs xs).length ≤ 2 * xs.length := by
  induction xs with
  | nil => simp [escs]
  | cons c r ih =>
    have : escs (c :: r) = (if c = 34 ∨ c = 92 then [92, c] else [c]) ++ escs r := by unfold escs; simp
    rw [this, List.length_append, List.length_cons]
    split <;> simp <;> omega

theorem escs_no {xs : List Int} (hno : ∀ k ∈ xs, k ≠ 0 ∧ k ≠ 10 ∧ k ≠ 13) : ∀ k ∈ (34 :: (escs xs ++ [34]) : List Int), k ≠ 0 ∧ k ≠ 10 ∧ k ≠ 13 := by
  intro k hk
  rcases List.mem_cons.1 hk with rfl | hk
  · decide
  rcases List.mem_append.1 hk with hk | hk
  · rcases escs_mem hk with hk | rfl
    · exact hno _ hk
    · decide
  · rw [List.mem_singleton.1 hk]; decide

section
set_option maxHeartbeats 8000000 in
theorem closed_at_ok (w : World) (b : Array UInt8) (tb : Tok) (xs : List Int) (t0 tc tr : Tok) (news : List (Addr × Obj)) (hk : KBw.bInts b = 34 :: (escs xs ++ [34])) (hz : xs.length ≤ 100)
    (hno : ∀ k ∈ xs, k ≠ 0 ∧ k ≠ 10 ∧ k ≠ 13) :
    Tell w 90 5 60 [.bytes b tb, .int 0 t0, .bytes #[34] tc, .bytes #[] tr] news (PairBack news xs ((escs xs).length + 2)) False := by
  k_with_none
  k_with "compareOp In int bytes" => (k_here; refine in_bytes_int (ks := []) (by with_unfolding_all rfl) (by omega) (by omega) ?_)
  k_with "exec Raise some none" => (exfalso; simp_all; done)
  k_with "call ref" => (k_here; (with_reducible show wpAny _ _ (call (Value.ref 83) [Value.bytes _ _, Value.int _ _, Value.int _ _]) _ _ _); k_dflt (refine' tell_use (inside_at_ok _ _ _ _ _ _ _ _ _ (by assumption) (by omega) (by omega) (by omega) (by assumption) (by assumption) (by assumption)) (by k_asm) (by k_asm) (by k_asm) (by k_asm) (by k_asm) (by first | exact rfl | assumption) (by ktr_room) (by ktr_units) ?_ (fun hx => hx.elim)); intro v' n' h' tk' hv'; apply PairBack.elim hv'; clear hv'; intro d' b' t1' t2' hb' hl' F' N')
  k_with "call builtin:list.append" => (k_here; (with_reducible show wpAny _ _ (call (Value.builtin _) [Value.ref _, _]) _ _ _); k_dflt (refine' append_K (by k_asm) (by k_asm) (by exact upd_two (by assumption) (by assumption)) ?_ (by (rw [sizeLine_eq, List.size_toArray]; omega)); k_whole); intro h' F' N'; (try k_sweep))
  k_with "exec If" => (exfalso; exact stop_absurd (by assumption) (by assumption) (by assumption) (by assumption) rfl)
  k_with "getMethod bytes" => (k_here; refine method_join ?_)
  k_with "getMethod bytes" => (exfalso; exact go_absurd (by assumption) (by assumption) (by assumption) (by assumption) rfl)
  k_with "call builtin:bytes.join" => (k_here; refine call_join (news_list (by assumption) (List.Mem.head _)) (by assumption) (by assumption) ?_; intro u' tk')
  k_with "KswEnd" => (refine AtStop.of ?_)
  k_with "exec While Compare" => (k_here; refine AtStop.of ?_)
  k_with "exec While Compare cons nil" => (k_here; refine AtStop.of ?_)
  w_top off
  unfold Tell
  intro mean mg mb dp un gd cn cs a ccd cl outer A₀ base h₀ L m s Q E B F X N T hkk hd hu hret hexc
  refine wpAny_call ?_
  k_dflt cell_enter
  k_steps
  unfold AtStop
  rename_i D h1 hD h2 h3 F1 N1
  have hlen := escs_len xs
  have hno' := escs_no hno
  obtain ⟨ks, hks⟩ : ∃ ks, ks = 34 :: (escs xs ++ [34]) := ⟨_, rfl⟩
  rw [← hks] at hk hno'
  have hks0 : ∀ k ∈ ks, k ≠ 0 := fun k h => (hno' k h).1
  have hks1 : ∀ k ∈ ks, k ≠ 10 ∧ k ≠ 13 := fun k h => (hno' k h).2
  have hkl : ks.length = (escs xs).length + 2 := by rw [hks]; simp
  refine' ksw_while (σ := Nat × Tok × List Value × Nat) (fun c => (D, listOf c.2.2.1.toArray c.2.2.2) :: news) (fun c => [("at", .int (escP xs c.1 : Nat) c.2.1), ("parts", .ref D)]) (fun _ => True) ["octets"]
    (fun c => c.1 ≤ xs.length ∧ c.2.2.1.length = c.1 ∧ ∃ bs, BytesAre c.2.2.1 bs ∧ bs.map KBw.bInts = (xs.take c.1).map fun x => [x]) (fun c => xs.length - c.1) (0, ?tk0, [], 0) F1 N1 trivial ?hk ?hp ?turn
  case hk => kst_all
  case hp => exact ⟨Nat.zero_le _, rfl, [], .nil, rfl⟩
  refine four_elim ?_
  intro k t9 vs nn u h9 tk9 hz9 hp9
  clear hz9
  refine inv_elim hp9 ?_
  clear hp9
  intro hle hvl bs hB hM F9 N9
  dsimp only [kstB] at hle hvl hB hM F9 N9 ⊢
  have hsum : (bs.map (·.size)).sum ≤ 16777216 := by
    rw [sum_size, hM, flatten_ones, List.length_take]; omega
  rcases Nat.lt_or_ge k xs.length with hlt | hge
  · obtain ⟨e1, e2, e3, e4, e5⟩ := esc_at xs k _ (List.getElem?_eq_getElem hlt)
    rw [← hks] at e1 e2 e3 e4 e5
    generalize hp : escP xs k = p at *
    have mark9 := True.intro
    k_steps
    unfold AtStop
    rename KBw.bInts _ = insideKs _ _ => hb5
    rename Fr _ _ _ _ => F5
    rename News _ _ _ _ => N5
    rw [e2] at hb5
    rw [e3] at F5
    simp only [List.push_toArray] at N5
    refine ksw_end (k + 1, _, vs ++ [_], nn + 1) F5 N5 (by kst_in) trivial (by kst_all) (by ksw_same) ?_ ?_
    · refine ⟨hlt, by simp [hvl], bs ++ [_], hB.append (.cons _ _ .nil), ?_⟩
      rw [List.map_append, hM, List.map_singleton, hb5, List.take_add_one, List.getElem?_eq_getElem hlt, List.map_append]
      rfl
    · show xs.length - (k + 1) < xs.length - k
      omega
  · have hkn : k = xs.length := by omega
    subst hkn
    have hdr := esc_drop xs xs.length hle
    rw [List.drop_length, ← hks] at hdr
    have hpe := escP_end xs
    refine two_facts (getD_drop (c := 34) (r := []) hdr) ?_
    intro e1 e4
    generalize hp : escP xs xs.length = p at *
    have mark9 := True.intro
    k_steps
    rename _ ∧ AllLt _ _ => hA
    rename News _ _ _ _ => N5
    rename Fr _ _ _ _ => F5
    rw [show (p : Int) + 1 = ((escs xs).length : Int) + 2 by omega] at N5
    refine hret _ _ _ _ ⟨_, _, _, _, rfl, ?_, rfl, allLt_mem hA.2⟩ F5 (drop_news N5)
    rw [ints_fold, ints_nil, List.nil_append, hM, flatten_ones, List.take_length]
end
end Mine
end

section
/-! part NzL -/
open PySem PySem.Spec PySem.Calls PySem.W PyProof.Rows PyProof.V
namespace Mine
set_option maxRecDepth 100000
set_option maxHeartbeats 2000000

section
variable {prog : Program} {w : World} {A : Around} {E : Value → Shared → Prop} {s : Shared} {env : Env} {h₀ : Heap} {target : Expr} {body : List Stmt} {Q : Flow → Shared → Prop}

theorem letGo_name {x : Str} {px : Pos} {I v : Value} {Q' : Unit → Shared → Prop} {s' : Shared} (h : Q' () s') : wpAny (model prog w) A (letOwnedTupleGo (.Name x px) I v) Q' E s' := by
  rw [show letOwnedTupleGo (.Name x px) I v = pure () from rfl]
  exact wpAny_pure h

theorem iter_strTurns {x : Str} {px : Pos} {tx : Str} {t : Tok} {m₀ : Str → Option Value} {news : List (Addr × Obj)}
    (hh : A.handled = none) (F : Fr h₀ env.locals s.heap m₀) (N : News h₀ env.locals s.heap news)
    (rest₀ : ∀ (I : Addr) (ty : String), (∀ p ∈ news, p.1 < I) → ItemsRest prog w A E h₀ env (.Name x px) body Q s [(I, ty)] [] (tx.cps.toList.map fun c => .tok fun u => .str ⟨#[c]⟩ u) m₀ news) :
    wpAny (model prog w) A (pyIter (.str tx t)) (fun it s₂ => TurnsAt prog w A h₀ env (.Name x px) body Q E it s₂) E s := by
  have key : ∀ (ty : String) (W : Walks prog w A s.heap.objs.size [s.heap.objs.size] [s.heap.objs.size] tx.cps.size (SignAt tx) (fun i h => h.IsStrIter s.heap.objs.size ty tx t i)),
      TurnsAt prog w A h₀ env (.Name x px) body Q E (.ref s.heap.objs.size) { s with heap := s.heap.push { cls := .type ty, data := .fields #[.str tx t, .int 0 0] }, toks := s.toks } := by
    intro ty W
    refine ktu_core (tk0 := s.toks) (keep := []) (KTurns.ofWalks W fun i v s' Q' E' st q => letGo_name q) (by simp) (fun i v h hp => ?_) (fun i h st => ?_) (fun b hb => ?_) (fun b hb => by simpa using hb) (fun b hb => .inl (by simpa using hb)) ?_ (fun p hp hI => ?_) ?_ (F.push _) (fun p hp => ⟨Heap.get?_push_of_some _ (N p hp).1, (N p hp).2⟩) trivial (rest₀ _ ty fun p hp => Heap.lt_size (N p hp).1)
    · obtain ⟨c, u, hc, e⟩ := hp
      refine ⟨.tok fun u => .str ⟨#[c]⟩ u, ?_, u, e⟩
      rw [List.getElem?_map, Array.getElem?_toList, hc]
      rfl
    · obtain ⟨it, hit, hic, _⟩ := st
      exact ⟨[(s.heap.objs.size, it)], ⟨⟨rfl, hic⟩, trivial⟩, fun p hp => by rw [List.mem_singleton.mp hp]; exact hit⟩
    · have hb' : b = s.heap.objs.size := by simpa using hb
      rw [hb']
      exact ⟨List.mem_cons_self .., next_is_new F⟩
    · intro hI
      exact absurd F.ns.lt ((List.mem_singleton.mp hI) ▸ Nat.lt_irrefl _)
    · exact absurd (Heap.lt_size (N p hp).1) ((List.mem_singleton.mp hI) ▸ Nat.lt_irrefl _)
    · exact ⟨_, Heap.get?_push_size _ rfl, rfl, rfl⟩
  cases ha : tx.cps.all (· < 128)
  · exact wpAny_pyIter_wide ha (key _ (Walks.strWide hh _ tx t))
  · exact wpAny_pyIter_ascii ha (key _ (Walks.strAscii hh _ tx t))

theorem range_walks2 {I : Addr} (hh : A.handled = none) (a : Int) (n : Nat) : Walks prog w A I [I] [I] n (fun i v => i < n ∧ ∃ t, v = .int (a + (i : Int)) t) (fun i h => IsRangeIter h I (a + (i : Nat) * 1) ((n : Int) - (i : Nat)) 1) where
  sub := (LCg.range_walks (prog := prog) (w := w) (I := I) hh a n).sub
  frame := (LCg.range_walks (prog := prog) (w := w) (I := I) hh a n).frame
  item := fun i s Q E hi st hQ => (LCg.range_walks hh a n).item i s Q E hi st fun v h' tk hP st' hk => hQ v h' tk ⟨hi, hP⟩ st' hk
  done := (LCg.range_walks hh a n).done
  self := (LCg.range_walks hh a n).self
theorem iter_rangeTurns {x : Str} {px : Pos} {r : Addr} {a b : Int} {n : Nat} {t u v : Tok} {m₀ : Str → Option Value} {news : List (Addr × Obj)}
    (hh : A.handled = none) (F : Fr h₀ env.locals s.heap m₀) (N : News h₀ env.locals s.heap news) (hr : IsRange s.heap r a b 1 t u v) (hsm : Builtin.Range.small a b 1 = true) (hn : Builtin.Range.rangeSize a b 1 = ((n : Nat) : Int))
    (rest₀ : ∀ (I : Addr), (∀ p ∈ news, p.1 < I) → ItemsRest prog w A E h₀ env (.Name x px) body Q s [(I, "range_iterator")] [] ((List.range n).map fun (i : Nat) => .tok fun u => .int (a + (i : Int)) u) m₀ news) :
    wpAny (model prog w) A (pyIter (.ref r)) (fun it s₂ => TurnsAt prog w A h₀ env (.Name x px) body Q E it s₂) E s := by
  refine wpAny_pyIter_range hr hsm ?_
  refine ktu_core (tk0 := s.toks) (keep := []) (KTurns.ofWalks (range_walks2 hh a n) fun i v s' Q' E' st q => letGo_name q) (by simp) (fun i v h hp => ?_) (fun i h st => ?_) (fun b hb => ?_) (fun b hb => by simpa using hb) (fun b hb => .inl (by simpa using hb)) ?_ (fun p hp hI => ?_) ?_ (F.push _) (fun p hp => ⟨Heap.get?_push_of_some _ (N p hp).1, (N p hp).2⟩) trivial (rest₀ _ fun p hp => Heap.lt_size (N p hp).1)
  · obtain ⟨u, e⟩ := hp.2
    refine ⟨.tok fun u => .int (a + (i : Int)) u, ?_, u, e⟩
    rw [List.getElem?_map, List.getElem?_range hp.1]
    rfl
  · exact ⟨[(s.heap.objs.size, _)], ⟨⟨rfl, rfl⟩, trivial⟩, fun p hp => by rw [List.mem_singleton.mp hp]; exact st⟩
  · have hb' : b = s.heap.objs.size := by simpa using hb
    rw [hb']
    exact ⟨List.mem_cons_self .., next_is_new F⟩
  · intro hI
    exact absurd F.ns.lt ((List.mem_singleton.mp hI) ▸ Nat.lt_irrefl _)
  · exact absurd (Heap.lt_size (N p hp).1) ((List.mem_singleton.mp hI) ▸ Nat.lt_irrefl _)
  · show IsRangeIter _ _ _ _ _
    rw [hn]
    simpa using Heap.get?_push_size _ rfl

/-- a for's turns, by a state -/
theorem items_ind {wi : Addr × String} {keep : List (Addr × Obj)} {xs : List Itm} (J : Nat → (Str → Option Value) → List (Addr × Obj) → Prop)
    (fin : ∀ m news h tk, J xs.length m news → Fr h₀ env.locals h m → News h₀ env.locals h news → Q .next { s with heap := h, toks := tk })
    (turn : ∀ i a m news, xs[i]? = some a → J i m news → ∀ v h tk o, a.Is v h → Fr h₀ env.locals h m → o.cls = .type wi.2 → News h₀ env.locals h ((wi.1, o) :: news) →
      wpAny (model prog w) A (assign target env v) (fun _ s₂ => wpAny (model prog w) A (execs body env) (UnrPostW h₀ env.locals { s with heap := h, toks := tk } [(wi.1, o)] (fun m' n' => SubL keep n' ∧ J (i + 1) m' n') Q) E s₂) E { s with heap := h, toks := tk }) :
    ∀ (r : List Itm) (i : Nat), r = xs.drop i → i ≤ xs.length → ∀ m news, J i m news → ItemsRest prog w A E h₀ env target body Q s [wi] keep r m news
  | [], i, e, hi, m, news, hJ => by
    have : i = xs.length := by
      have := congrArg List.length e
      simp at this
      omega
    subst this
    exact fun h tk F N => fin m news h tk hJ F N
  | a :: r, i, e, hi, m, news, hJ => by
    have hlt : i < xs.length := by
      rcases Nat.lt_or_ge i xs.length with h | h
      · exact h
      · rw [List.drop_eq_nil_of_le h] at e; cases e
    rw [List.drop_eq_getElem_cons hlt] at e
    obtain ⟨e1, e2⟩ := List.cons.inj e
    intro v h tk hv F o ho N
    refine wpAny_mono (turn i a m news (by rw [List.getElem?_eq_getElem hlt, e1]) hJ v h tk o hv F ho N) (fun _ s₂ q => wpAny_mono q (fun f s₃ q₃ => ?_) fun _ _ e => e) fun _ _ e => e
    have go : UnrEndW h₀ env.locals { s with heap := h, toks := tk } [(wi.1, o)] (fun m' n' => SubL keep n' ∧ J (i + 1) m' n') s₃ → UnrEndW h₀ env.locals { s with heap := h, toks := tk } [(wi.1, o)] (fun m' n' => SubL keep n' ∧ ItemsRest prog w A E h₀ env target body Q s [wi] keep r m' n') s₃ := by
      rintro ⟨h', tk', m', n', e3, F', N', off, hk, hJ'⟩
      exact ⟨h', tk', m', n', e3, F', N', off, hk, items_ind J fin turn r (i + 1) e2 hlt m' n' hJ'⟩
    cases f with
    | ret v => exact q₃
    | brk => exact q₃
    | next => exact go q₃
    | cont => exact go q₃

noncomputable def ItEnd {σ : Type} (h₀ : Heap) (L : Addr) (s₁ : Shared) (wo : Addr × Obj) (keep : List (Addr × Obj)) (Led : σ → List (Addr × Obj)) (ps : σ → List (Str × Value)) (stored : List Str) (m₀ : Str → Option Value) (P : σ → Prop) (s₂ : Shared) : Prop :=
  ∃ (c : σ) (h' : Heap) (tk : Nat) (m' : Str → Option Value), s₂ = { s₁ with heap := h', toks := tk } ∧ Fr h₀ L h' m' ∧ News h₀ L h' (wo :: Led c) ∧ (∀ p ∈ Led c, p.1 ≠ wo.1) ∧ SubL keep (Led c) ∧
    (∀ p ∈ ps c, m' p.1 = some p.2) ∧ (∀ z, (∀ p ∈ ps c, z ≠ p.1) → stored.contains z = false → m' z = m₀ z) ∧ P c
noncomputable def ItPost {σ : Type} (h₀ : Heap) (L : Addr) (s₁ : Shared) (wo : Addr × Obj) (keep : List (Addr × Obj)) (Led : σ → List (Addr × Obj)) (ps : σ → List (Str × Value)) (stored : List Str) (m₀ : Str → Option Value) (P : σ → Prop) (Q : Flow → Shared → Prop) (f : Flow) (s₂ : Shared) : Prop :=
  match f with
  | .ret v => Q (.ret v) s₂
  | .brk => Q .next s₂
  | _ => ItEnd h₀ L s₁ wo keep Led ps stored m₀ P s₂
theorem ItEnd.intro {σ : Type} {L : Addr} {s₁ : Shared} {wo : Addr × Obj} {keep : List (Addr × Obj)} {Led : σ → List (Addr × Obj)} {ps : σ → List (Str × Value)} {stored : List Str} {m₀ m' : Str → Option Value} {P : σ → Prop} {h' : Heap} {tk : Nat} {all : List (Addr × Obj)} (c : σ)
    (F : Fr h₀ L h' m') (N : News h₀ L h' all) (hn : ∀ p ∈ wo :: Led c, p ∈ all) (off : ∀ p ∈ Led c, p.1 ≠ wo.1) (hkp : SubL keep (Led c)) (hk : ∀ p ∈ ps c, m' p.1 = some p.2)
    (hr : ∀ z, (∀ p ∈ ps c, z ≠ p.1) → stored.contains z = false → m' z = m₀ z) (hp : P c) : ItEnd h₀ L s₁ wo keep Led ps stored m₀ P { s₁ with heap := h', toks := tk } :=
  ⟨c, h', tk, m', rfl, F, fun p hp => N p (hn p hp), off, hkp, hk, hr, hp⟩

theorem items_state {σ : Type} {wi : Addr × String} {keep : List (Addr × Obj)} {xs : List Itm} {m₀ : Str → Option Value} (Led : σ → List (Addr × Obj)) (ps : σ → List (Str × Value)) (stored : List Str) (P : Nat → σ → Prop) (c₀ : σ)
    (hk : ∀ p ∈ ps c₀, m₀ p.1 = some p.2) (hp : P 0 c₀)
    (fin : ∀ (c : σ) (u : Str → Option Value) h tk, P xs.length c → Fr h₀ env.locals h (kstB (fun z => if stored.contains z then u z else m₀ z) (ps c)) → News h₀ env.locals h (Led c) → Q .next { s with heap := h, toks := tk })
    (turn : ∀ i a (c : σ) (u : Str → Option Value) v h tk o, xs[i]? = some a → P i c → a.Is v h → Fr h₀ env.locals h (kstB (fun z => if stored.contains z then u z else m₀ z) (ps c)) → o.cls = .type wi.2 → News h₀ env.locals h ((wi.1, o) :: Led c) →
      wpAny (model prog w) A (assign target env v) (fun _ s₂ => wpAny (model prog w) A (execs body env) (ItPost h₀ env.locals { s with heap := h, toks := tk } (wi.1, o) keep Led ps stored m₀ (P (i + 1)) Q) E s₂) E { s with heap := h, toks := tk }) :
    ItemsRest prog w A E h₀ env target body Q s [wi] keep xs m₀ (Led c₀) := by
  refine items_ind (fun i m nx => ∃ c : σ, nx = Led c ∧ (∀ p ∈ ps c, m p.1 = some p.2) ∧ (∀ z, (∀ p ∈ ps c, z ≠ p.1) → stored.contains z = false → m z = m₀ z) ∧ P i c) ?_ ?_ xs 0 rfl (Nat.zero_le _) m₀ _ ⟨c₀, rfl, hk, fun _ _ _ => rfl, hp⟩
  · rintro m nx h tk ⟨c, rfl, h1, h2, hc⟩ F N
    exact fin c m h tk hc (ksw_fr h1 h2 F) N
  · rintro i a m nx ha ⟨c, rfl, h1, h2, hc⟩ v h tk o hv F ho N
    refine wpAny_mono (turn i a c m v h tk o ha hc hv (ksw_fr h1 h2 F) ho N) (fun _ s₂ q => wpAny_mono q (fun f s₃ q₃ => ?_) fun _ _ e => e) fun _ _ e => e
    have go : ItEnd h₀ env.locals { s with heap := h, toks := tk } (wi.1, o) keep Led ps stored m₀ (P (i + 1)) s₃ → UnrEndW h₀ env.locals { s with heap := h, toks := tk } [(wi.1, o)] (fun m' n' => SubL keep n' ∧ ∃ c : σ, n' = Led c ∧ (∀ p ∈ ps c, m' p.1 = some p.2) ∧ (∀ z, (∀ p ∈ ps c, z ≠ p.1) → stored.contains z = false → m' z = m₀ z) ∧ P (i + 1) c) s₃ := by
      rintro ⟨c', h', tk', m', e3, F', N', off, hkp, hk', hr', hp'⟩
      refine ⟨h', tk', m', Led c', e3, F', N', fun p hp q hq => ?_, hkp, c', rfl, hk', hr', hp'⟩
      rw [List.mem_singleton.1 hq]
      exact off p hp
    cases f with
    | ret v => exact q₃
    | brk => exact q₃
    | next => exact go q₃
    | cont => exact go q₃
end
end Mine
end

section
/-! part Nz11 -/
open PySem PySem.W PyProof.Rows PySem.Builtin
namespace Mine
set_option maxRecDepth 100000

theorem raisedN_sub {base : Heap} {l : List Env} {e : Addr} {cls : Value} {news news' : List (Addr × Obj)} {h : Heap} (R : RaisedN base l e cls news h) (hs : ∀ p ∈ news', p ∈ news) : RaisedN base l e cls news' h := by
  obtain ⟨B, a0, h1, h2, h3⟩ := R
  exact ⟨B, a0, h1, fun q hq => h2 q (hs q hq), h3⟩
theorem upd_w {I P : Addr} {oI o₁ o₂ : Obj} {news : List (Addr × Obj)} (h1 : P < I) (h2 : ∀ p ∈ news, p.1 < P) : Upd P o₁ o₂ ((I, oI) :: (P, o₁) :: news) ((I, oI) :: (P, o₂) :: news) := .tail (Nat.ne_of_gt h1) (.head (all_ne h2))
theorem never_mem {ks : List Int} {i : Nat} (h : i < ks.length) (hn : decide (ks.getD i 0 = 0 ∨ ks.getD i 0 = 10 ∨ ks.getD i 0 = 13) = true) : ∃ k ∈ ks, k = 0 ∨ k = 10 ∨ k = 13 :=
  ⟨_, by have := getD_mem (ks := ks) (i := (i : Int)) (by omega) (by omega); rwa [Int.toNat_natCast] at this, of_decide_eq_true hn⟩
theorem take_next {ks : List Int} {i : Nat} (h : i < ks.length) : ks.take (i + 1) = ks.take i ++ [ks.getD i 0] := by
  rw [List.take_add_one, List.getD_eq_getElem?_getD, List.getElem?_eq_getElem h]
  rfl
theorem escs_snoc (xs : List Int) (c : Int) : escs (xs ++ [c]) = escs xs ++ (if c = 34 ∨ c = 92 then [92, c] else [c]) := by
  unfold escs
  rw [List.flatMap_append]
  simp
theorem never_next {ks : List Int} {i : Nat} (h : i < ks.length) (hp : ∀ k ∈ ks.take i, k ≠ 0 ∧ k ≠ 10 ∧ k ≠ 13) (hn : ¬ (ks.getD i 0 = 0 ∨ ks.getD i 0 = 10 ∨ ks.getD i 0 = 13)) : ∀ k ∈ ks.take (i + 1), k ≠ 0 ∧ k ≠ 10 ∧ k ≠ 13 := by
  rw [take_next h]
  intro k hk
  rcases List.mem_append.1 hk with hk | hk
  · exact hp k hk
  · rw [List.mem_singleton.1 hk]
    exact ⟨fun e => hn (.inl e), fun e => hn (.inr (.inl e)), fun e => hn (.inr (.inr e))⟩
section
set_option maxHeartbeats 8000000 in
theorem escaped_ok (w : World) (b : Array UInt8) (tb : Tok) (ks : List Int) (ts : Tok) (news : List (Addr × Obj)) (hk : KBw.bInts b = ks) (hz : ks.length ≤ 100) :
    Tell w 144 8 100 [.bytes b tb, .bytes #[34, 92] ts] news (fun v n => n = news ∧ (∀ k ∈ ks, k ≠ 0 ∧ k ≠ 10 ∧ k ≠ 13) ∧ ∃ b' t, v = .bytes b' t ∧ KBw.bInts b' = escs ks) (∃ k ∈ ks, k = 0 ∨ k = 10 ∨ k = 13) := by
  k_with_none
  k_with "call builtin:list.append" => (k_here; (with_reducible show wpAny _ _ (call (Value.builtin _) [Value.ref _, _]) _ _ _); k_dflt (refine' append_K (by k_asm) (by k_asm) (by exact upd_w (by assumption) (by assumption)) ?_ (by (rw [sizeLine_eq]; (try simp only [Array.size_push, List.size_toArray]); omega)); k_whole); intro h' F' N'; (try k_sweep))
  k_with "compareOp In int ref" => (k_here; (with_reducible show wpAny _ _ (compareOp CmpOp.In (Value.int _ _) (Value.ref 62)) _ _ _); refine in_never (by assumption) (by assumption) ?_)
  k_with "compareOp In int bytes" => (k_here; refine in_bytes_int (ks := [34, 92]) (by with_unfolding_all rfl) (by omega) (by omega) ?_)
  k_with "ItEnd" => (refine AtStop.of ?_)
  k_with "ItPost" => (dsimp only [ItPost])
  k_with "getMethod bytes" => (k_here; refine method_join ?_)
  k_with "call builtin:bytes.join" => (k_here; refine call_join (news_list (by assumption) (List.Mem.head _)) (by assumption) (by assumption) ?_; intro u' tk')
  k_with "exec Raise some none" => (k_here; k_dflt (refine Raise_wf (by rfl) ?_))
  k_with "call ref" => (k_here; (with_reducible show wpAny _ _ (call (Value.ref 59) [Value.str _ _, Value.int _ _]) _ _ _); refine' wf_make (by assumption) (by assumption) (by assumption) (by assumption) (by assumption) (by exact rfl) (by exact rfl) (by exact rfl) (by ktr_room) ?_; intro e' t' dx' h' tk' F' N' hl'; refine AtStop.of ?_)
  k_with "exec For Name Call cons nil" => (k_here; (rename Fr _ _ _ _ => lF'); (with_unfolding_all refine' For_turns lF' ?_); k_whole)
  k_with "pyIter ref" => (k_here; refine AtStop.of ?_)
  w_top off
  unfold Tell
  intro mean mg mb dp un gd cn cs a ccd cl outer A₀ base h₀ L m s Q E B F X N T hkk hd hu hret hexc
  refine wpAny_call ?_
  k_dflt cell_enter
  k_steps
  unfold AtStop
  rename_i P h1 hP h2 F1 N1 tk1 h3 t1 u1 v1 hr F2 N2 hkeep
  refine iter_rangeTurns (n := ks.length) (by rfl) F2 N2 hr (small_one (by omega) (by omega) (by omega) (by omega)) (by rw [rangeSize_nat]; simp) ?_
  intro I hI
  have hPI : P < I := hI (P, _) (.head _)
  have hnI : ∀ p ∈ news, p.1 < I := fun p hp => hI p (.tail _ hp)
  refine' items_state (σ := List Value × Nat) (fun c => (P, listOf c.1.toArray c.2) :: news) (fun c => [("parts", .ref P)]) ["at"]
    (fun i c => c.1.length ≤ 2 * i ∧ (∀ k ∈ ks.take i, k ≠ 0 ∧ k ≠ 10 ∧ k ≠ 13) ∧ ∃ bs, BytesAre c.1 bs ∧ (bs.map KBw.bInts).flatten = escs (ks.take i)) ([], 0) ?hk ?hp ?fin ?turn
  case hk => kst_all
  case hp => exact ⟨Nat.zero_le _, (fun _ h => nomatch h), [], .nil, rfl⟩
  case fin =>
    refine two_elim ?_
    intro ps n u h9 tk9 hp9
    refine inv_elim hp9 ?_
    clear hp9
    intro hp1 hp2 bs hp3 hp4 F9 N9
    dsimp only [kstB] at hp1 hp2 hp3 hp4 F9 N9 ⊢
    rw [List.length_map, List.length_range, List.take_length] at hp2 hp4
    have hsum : (bs.map (·.size)).sum ≤ 16777216 := by
      have := escs_len ks
      rw [sum_size, hp4]; omega
    k_steps
    rename News _ _ _ _ => N5
    rename Fr _ _ _ _ => F5
    exact hret _ _ _ _ ⟨rfl, hp2, _, _, rfl, by rw [ints_fold, ints_nil, List.nil_append, hp4]⟩ F5 (fun p hp => N5 p (.tail _ hp))
  case turn =>
    intro i a9
    refine two_elim ?_
    intro ps n u v h9 tk9 o ha hp9
    refine inv_elim hp9 ?_
    clear hp9
    intro hp1 hp2 bs hp3 hp4 hv F9 ho N9
    dsimp only [kstB] at hp1 hp2 hp3 hp4 F9 N9 ⊢
    have hil : i < ks.length := by
      rcases Nat.lt_or_ge i ks.length with h | h
      · exact h
      · rw [List.getElem?_eq_none (by simpa using h)] at ha; cases ha
    have e9 : a9 = .tok fun u => .int (0 + (i : Int)) u := by
      rw [List.getElem?_map, List.getElem?_range hil] at ha
      exact (Option.some.inj ha).symm
    subst e9
    obtain ⟨t9, rfl⟩ := hv
    rw [Int.zero_add]
    have hoff : ∀ o' : Obj, ∀ p ∈ (P, o') :: news, p.1 ≠ I := by
      intro o' p hp
      rcases List.mem_cons.1 hp with rfl | hp
      · exact Nat.ne_of_lt hPI
      · exact Nat.ne_of_lt (hnI p hp)
    have htk := take_next hil
    have mark9 := True.intro
    k_steps
    · unfold AtStop
      rename News _ _ _ _ => N5
      rename Fr _ _ _ _ => F5
      rename ∀ p ∈ (I, o) :: _, _ < _ => hl5
      rename _ ∨ _ ∨ _ => hn5
      rw [Int.toNat_natCast] at hn5
      refine ⟨_, rfl, ⟨Frag.In.keeps (by assumption) F5.keep, _, _, (N5 _ (.head _)).1⟩, ?_⟩
      refine leave_wf (by assumption) F5 N5 hl5 fun h' hR hU => ?_
      exact hexc (never_mem hil (decide_eq_true hn5)) _ _ _ _ (by assumption) (raisedN_sub hR (fun p hp => .tail _ (.tail _ hp))) hU
    · unfold AtStop
      rename News _ _ _ _ => N5
      rename Fr _ _ _ _ => F5
      rename KBw.bInts (KBy.picked _ _ _) = _ => hK
      rename ¬ _ => hn5
      rename List.contains _ _ = true => hc5
      rw [Int.toNat_natCast] at hn5 hc5
      rw [cut_nat hil] at hK
      simp only [List.push_toArray] at N5
      refine ItEnd.intro ((ps ++ [_]) ++ [_], n + 1 + 1) F5 N5 (fun p hp => hp) (hoff _) trivial (by kst_all) (by ksw_same) ⟨?_, ?_, (bs ++ [_]) ++ [_], (hp3.append (.cons _ _ .nil)).append (.cons _ _ .nil), ?_⟩
      · simp only [List.length_append, List.length_singleton]; omega
      · exact never_next hil hp2 hn5
      · rw [List.map_append, List.map_append, List.map_singleton, List.map_singleton, List.flatten_append, List.flatten_append, hp4, hK, htk, escs_snoc, if_pos (by simpa using hc5), show KBw.bInts #[92] = [92] from rfl]
        simp
    · unfold AtStop
      rename News _ _ _ _ => N5
      rename Fr _ _ _ _ => F5
      rename KBw.bInts (KBy.picked _ _ _) = _ => hK
      rename ¬ _ => hn5
      rename List.contains _ _ = false => hc5
      rw [Int.toNat_natCast] at hn5 hc5
      rw [cut_nat hil] at hK
      simp only [List.push_toArray] at N5
      refine ItEnd.intro (ps ++ [_], n + 1) F5 N5 (fun p hp => hp) (hoff _) trivial (by kst_all) (by ksw_same) ⟨?_, ?_, bs ++ [_], hp3.append (.cons _ _ .nil), ?_⟩
      · simp only [List.length_append, List.length_singleton]; omega
      · exact never_next hil hp2 hn5
      · rw [List.map_append, List.map_singleton, List.flatten_append, hp4, hK, htk, escs_snoc, if_neg (by simpa using hc5)]
        simp
end
end Mine
end

section
/-! part Nz12 -/
open PySem PySem.W PyProof.Rows PySem.Builtin
namespace Mine
set_option maxRecDepth 100000

section
set_option maxHeartbeats 8000000 in
theorem quoted_ok (w : World) (b : Array UInt8) (tb : Tok) (ks : List Int) (news : List (Addr × Obj)) (hk : KBw.bInts b = ks) (hz : ks.length ≤ 100) :
    Tell w 151 10 120 [.bytes b tb] news (fun v n => n = news ∧ (∀ k ∈ ks, k ≠ 0 ∧ k ≠ 10 ∧ k ≠ 13) ∧ ∃ b' t, v = .bytes b' t ∧ KBw.bInts b' = 34 :: (escs ks ++ [34])) (∃ k ∈ ks, k = 0 ∨ k = 10 ∨ k = 13) := by
  k_with_none
  k_with "binaryOp Add bytes bytes" => (k_here; (with_reducible show wpAny _ _ (binaryOp Operator.Add (Value.bytes _ _) (Value.bytes _ _)) _ _ _); k_dflt (refine KBa.add_K (by first | assumption | exact rfl) (by first | assumption | exact rfl) (by ((try simp only [List.length_cons, List.length_append, List.length_nil]); omega)) ?_); intro _ _ kbaApp)
  k_with "call ref" => (k_here; (with_reducible show wpAny _ _ (call (Value.ref 144) [Value.bytes _ _, Value.bytes _ _]) _ _ _); k_dflt (refine' tell_use (escaped_ok _ _ _ _ _ _ (by assumption) (by omega)) (by k_asm) (by k_asm) (by k_asm) (by k_asm) (by k_asm) (by first | exact rfl | assumption) (by ktr_room) (by ktr_units) ?_ ?_); first | (intro v' n' h' tk' hv'; apply fact_bytes_elim hv'; clear hv'; intro b' t' hn' hb' F' N') | (intro hx' e' h' tk' g' F' R' U'; dsimp only))
  w_top off
  unfold Tell
  intro mean mg mb dp un gd cn cs a ccd cl outer A₀ base h₀ L m s Q E B F X N T hkk hd hu hret hexc
  have hlen := escs_len ks
  refine wpAny_call ?_
  k_dflt cell_enter
  k_steps
  · rename News _ _ _ _ => N5
    rename Fr _ _ _ _ => F5
    rename ∀ k ∈ ks, _ => hn5
    rename KBw.bInts _ = _ => hb5
    exact hret _ _ _ _ ⟨rfl, hn5, _, _, rfl, hb5⟩ F5 N5
  · rename RaisedN _ _ _ _ _ _ => R5
    rename Heap.UpToSlots _ _ => U5
    exact hexc (by assumption) _ _ _ _ (by assumption) R5 U5
end
end Mine
end

section
/-! part NzC -/
open PySem PySem.Spec PySem.Calls PySem.W PyProof.Rows
open PyProof.Rows.LCg PyProof.Rows.LCt
namespace Mine
set_option maxRecDepth 100000
set_option maxHeartbeats 2000000

theorem str_st {h₀ : Heap} {L I : Addr} {ty : String} {x : Str} {t : Tok} : ∀ i (h h' : Heap) (o : Obj) (nw : List (Addr × Obj)), h.IsStrIter I ty x t i → h.get? I = some o → h'.get? I = some o → (∀ b o, h₀.get? b = some o → h'.get? b = some o) → News h₀ L h' nw → True → h'.IsStrIter I ty x t i :=
  fun i h h' o nw st e e' _ _ _ => by obtain ⟨o', q, r⟩ := st; rw [e] at q; cases q; exact ⟨o, e', r⟩

noncomputable def CompStrT (prog : Program) (w : World) (A : Around) (h₀ : Heap) (L : Addr) (m : Str → Option Value) (env : Env) (ct elt : Expr) (x : Str) (scope : Scope) (cl : List (Str × Addr)) (Fin : Shared → List Value → List (Addr × Obj) → Prop) (xv : Value) (s₁ : Shared) : Prop :=
  ∃ tx t news, xv = .str tx t ∧ A.handled = none ∧ Fr h₀ L s₁.heap m ∧ News h₀ L s₁.heap news ∧ tx.cps.size ≤ sizeLine ∧
    ∀ g, CompRestT prog w A h₀ L m env ct elt x scope cl { s₁ with heap := g } (fun _ => True) (SignAt tx) (Fin { s₁ with heap := g }) tx.cps.size 0 [] news
noncomputable def CompStrU (prog : Program) (w : World) (A : Around) (h₀ : Heap) (L : Addr) (m : Str → Option Value) (env : Env) (elt : Expr) (x : Str) (scope : Scope) (cl : List (Str × Addr)) (Fin : Shared → List Value → List (Addr × Obj) → Prop) (xv : Value) (s₁ : Shared) : Prop :=
  ∃ tx t news, xv = .str tx t ∧ A.handled = none ∧ Fr h₀ L s₁.heap m ∧ News h₀ L s₁.heap news ∧ tx.cps.size ≤ sizeLine ∧
    ∀ g, CompRest prog w A h₀ L m env elt x scope cl { s₁ with heap := g } (fun _ => True) (SignAt tx) (Fin { s₁ with heap := g }) tx.cps.size 0 [] news

section
variable {prog : Program} {w : World} {A : Around} {E : Value → Shared → Prop} {s : Shared} {h₀ : Heap} {L : Addr} {m : Str → Option Value} {env : Env}
theorem CompStrT.intro {ct elt : Expr} {x : Str} {scope : Scope} {cl : List (Str × Addr)} {Fin : Shared → List Value → List (Addr × Obj) → Prop} {tx : Str} {t : Tok} {news : List (Addr × Obj)} {s₁ : Shared}
    (hh : A.handled = none) (F : Fr h₀ L s₁.heap m) (N : News h₀ L s₁.heap news) (hsz : tx.cps.size ≤ sizeLine)
    (h : ∀ g, CompRestT prog w A h₀ L m env ct elt x scope cl { s₁ with heap := g } (fun _ => True) (SignAt tx) (Fin { s₁ with heap := g }) tx.cps.size 0 [] news) :
    CompStrT prog w A h₀ L m env ct elt x scope cl Fin (.str tx t) s₁ := ⟨tx, t, news, rfl, hh, F, N, hsz, h⟩
theorem CompStrU.intro {elt : Expr} {x : Str} {scope : Scope} {cl : List (Str × Addr)} {Fin : Shared → List Value → List (Addr × Obj) → Prop} {tx : Str} {t : Tok} {news : List (Addr × Obj)} {s₁ : Shared}
    (hh : A.handled = none) (F : Fr h₀ L s₁.heap m) (N : News h₀ L s₁.heap news) (hsz : tx.cps.size ≤ sizeLine)
    (h : ∀ g, CompRest prog w A h₀ L m env elt x scope cl { s₁ with heap := g } (fun _ => True) (SignAt tx) (Fin { s₁ with heap := g }) tx.cps.size 0 [] news) :
    CompStrU prog w A h₀ L m env elt x scope cl Fin (.str tx t) s₁ := ⟨tx, t, news, rfl, hh, F, N, hsz, h⟩

theorem ListComp_strT {ct elt iter : Expr} {x : Str} {px : Pos} {scope : Scope} {cl : List (Str × Addr)} {pos : Pos} {Q : Value → Shared → Prop} (F₀ : Fr h₀ L s.heap m)
    (hclos : closureFor scope env = pure cl) (hcell : ∀ y ∈ scope.names, y.2 ≠ .cell) (hkind : scope.kind = .function)
    (hnames : ∀ y ∈ scope.names, y.2 = .local → scope.names.lookup y.1 = some .local) (hx : scope.names.lookup x = some .local)
    (h : wpAny (model prog w) A (eval iter env) (CompStrT prog w A h₀ L m env ct elt x scope cl (fun s₂ => FinE h₀ L m s₂ Q)) E s)
    (hs : ∀ x, foldedSetIterable iter env x = pure x := by intro _; rfl) :
    wpAny (model prog w) A (eval (.ListComp elt [⟨.Name x px, iter, [ct], 0⟩] scope pos) env) Q E s := by
  rw [eval_ListComp]
  refine wpAny_comprehension_free (use := none) rfl hs hclos hkind hnames (wpAny_mono h (fun xv s₁ h₁ => ?_) fun _ _ e => e)
  obtain ⟨tx, t, news, rfl, hh, F, N, hsz, R⟩ := h₁
  have fin : ∀ (g : Heap) (D C : Addr) (h : Heap) (tk : Nat) (m' : Str → Option Value) (ys : List Value) (news' : List (Addr × Obj)), Fr h₀ L h m → News h₀ L h ((D, lst ys) :: news') → Off1 D news' → h.Ns C m' → h₀.get? C = none → h₀.get? D = none → C ≠ L → D ≠ L → C ≠ D → (∀ p ∈ news', p.1 ≠ C) → FinE h₀ L m { s₁ with heap := g } Q ys news' →
      ∃ m', h.Ns C m' ∧ ∀ h'' : Heap, Heap.SameBut C h h'' → Q (.ref D) { s₁ with heap := h'', toks := tk } := by
    intro g D C h tk m' ys news' F' N' o1 hn hC₀ hD₀ hCL hDL hCD offC fin
    refine ⟨m', hn, fun h'' hs'' => fin D h'' tk (F'.change hs'' hCL hC₀) (fun p hp => ?_) o1⟩
    refine ⟨hs''.extBut _ _ ?_ (N' p hp).1, (N' p hp).2⟩
    rcases List.mem_cons.mp hp with rfl | hp
    · exact Ne.symm hCD
    · exact offC p hp
  have fpOk : ∀ o : Obj, ∀ b ∈ [s₁.heap.objs.size], b < (s₁.heap.push o).objs.size := fun o b hb => by
    rw [List.mem_singleton.mp hb, Heap.size_push]; exact Nat.lt_succ_self _
  cases ha : tx.cps.all (· < 128)
  · refine wpAny_pyIter_wide ha ?_
    refine block_T (Walks.strWide hh s₁.heap.objs.size tx t) hsz (fun i h st => by obtain ⟨o, e, _⟩ := st; exact ⟨o, e⟩) str_st hcell hkind hx ⟨_, Heap.get?_push_size _ rfl, rfl, rfl⟩ (fpOk _)
      (F.keeps fun _ _ e => Heap.get?_push_of_some _ e) (N.grown fun _ _ e => Heap.get?_push_of_some _ e) (Nat.ne_of_lt F.ns.lt) (next_is_new F) (fun p hp => Nat.ne_of_lt (Heap.lt_size (N p hp).1)) trivial (R _) ?_
    exact fun D C h tk m' ys news' F' N' o1 hn hC₀ hD₀ hCL hDL hCD offC f => fin _ D C h tk m' ys news' F' N' o1 hn hC₀ hD₀ hCL hDL hCD offC f
  · refine wpAny_pyIter_ascii ha ?_
    refine block_T (Walks.strAscii hh s₁.heap.objs.size tx t) hsz (fun i h st => by obtain ⟨o, e, _⟩ := st; exact ⟨o, e⟩) str_st hcell hkind hx ⟨_, Heap.get?_push_size _ rfl, rfl, rfl⟩ (fpOk _)
      (F.keeps fun _ _ e => Heap.get?_push_of_some _ e) (N.grown fun _ _ e => Heap.get?_push_of_some _ e) (Nat.ne_of_lt F.ns.lt) (next_is_new F) (fun p hp => Nat.ne_of_lt (Heap.lt_size (N p hp).1)) trivial (R _) ?_
    exact fun D C h tk m' ys news' F' N' o1 hn hC₀ hD₀ hCL hDL hCD offC f => fin _ D C h tk m' ys news' F' N' o1 hn hC₀ hD₀ hCL hDL hCD offC f

theorem ListComp_strU {elt iter : Expr} {x : Str} {px : Pos} {scope : Scope} {cl : List (Str × Addr)} {pos : Pos} {Q : Value → Shared → Prop} (F₀ : Fr h₀ L s.heap m)
    (hclos : closureFor scope env = pure cl) (hcell : ∀ y ∈ scope.names, y.2 ≠ .cell) (hkind : scope.kind = .function)
    (hnames : ∀ y ∈ scope.names, y.2 = .local → scope.names.lookup y.1 = some .local) (hx : scope.names.lookup x = some .local)
    (h : wpAny (model prog w) A (eval iter env) (CompStrU prog w A h₀ L m env elt x scope cl (fun s₂ => FinE h₀ L m s₂ Q)) E s)
    (hs : ∀ x, foldedSetIterable iter env x = pure x := by intro _; rfl) :
    wpAny (model prog w) A (eval (.ListComp elt [⟨.Name x px, iter, [], 0⟩] scope pos) env) Q E s := by
  rw [eval_ListComp]
  refine wpAny_comprehension_free (use := none) rfl hs hclos hkind hnames (wpAny_mono h (fun xv s₁ h₁ => ?_) fun _ _ e => e)
  obtain ⟨tx, t, news, rfl, hh, F, N, hsz, R⟩ := h₁
  have fin : ∀ (g : Heap) (D C : Addr) (h : Heap) (tk : Nat) (m' : Str → Option Value) (ys : List Value) (news' : List (Addr × Obj)), Fr h₀ L h m → News h₀ L h ((D, lst ys) :: news') → Off1 D news' → h.Ns C m' → h₀.get? C = none → h₀.get? D = none → C ≠ L → D ≠ L → C ≠ D → (∀ p ∈ news', p.1 ≠ C) → FinE h₀ L m { s₁ with heap := g } Q ys news' →
      ∃ m', h.Ns C m' ∧ ∀ h'' : Heap, Heap.SameBut C h h'' → Q (.ref D) { s₁ with heap := h'', toks := tk } := by
    intro g D C h tk m' ys news' F' N' o1 hn hC₀ hD₀ hCL hDL hCD offC fin
    refine ⟨m', hn, fun h'' hs'' => fin D h'' tk (F'.change hs'' hCL hC₀) (fun p hp => ?_) o1⟩
    refine ⟨hs''.extBut _ _ ?_ (N' p hp).1, (N' p hp).2⟩
    rcases List.mem_cons.mp hp with rfl | hp
    · exact Ne.symm hCD
    · exact offC p hp
  have fpOk : ∀ o : Obj, ∀ b ∈ [s₁.heap.objs.size], b < (s₁.heap.push o).objs.size := fun o b hb => by
    rw [List.mem_singleton.mp hb, Heap.size_push]; exact Nat.lt_succ_self _
  cases ha : tx.cps.all (· < 128)
  · refine wpAny_pyIter_wide ha ?_
    refine block_U (Walks.strWide hh s₁.heap.objs.size tx t) hsz (fun i h st => by obtain ⟨o, e, _⟩ := st; exact ⟨o, e⟩) str_st hcell hkind hx ⟨_, Heap.get?_push_size _ rfl, rfl, rfl⟩ (fpOk _)
      (F.keeps fun _ _ e => Heap.get?_push_of_some _ e) (N.grown fun _ _ e => Heap.get?_push_of_some _ e) (Nat.ne_of_lt F.ns.lt) (next_is_new F) (fun p hp => Nat.ne_of_lt (Heap.lt_size (N p hp).1)) trivial (R _) ?_
    exact fun D C h tk m' ys news' F' N' o1 hn hC₀ hD₀ hCL hDL hCD offC f => fin _ D C h tk m' ys news' F' N' o1 hn hC₀ hD₀ hCL hDL hCD offC f
  · refine wpAny_pyIter_ascii ha ?_
    refine block_U (Walks.strAscii hh s₁.heap.objs.size tx t) hsz (fun i h st => by obtain ⟨o, e, _⟩ := st; exact ⟨o, e⟩) str_st hcell hkind hx ⟨_, Heap.get?_push_size _ rfl, rfl, rfl⟩ (fpOk _)
      (F.keeps fun _ _ e => Heap.get?_push_of_some _ e) (N.grown fun _ _ e => Heap.get?_push_of_some _ e) (Nat.ne_of_lt F.ns.lt) (next_is_new F) (fun p hp => Nat.ne_of_lt (Heap.lt_size (N p hp).1)) trivial (R _) ?_
    exact fun D C h tk m' ys news' F' N' o1 hn hC₀ hD₀ hCL hDL hCD offC f => fin _ D C h tk m' ys news' F' N' o1 hn hC₀ hD₀ hCL hDL hCD offC f

theorem restT_ind {ct elt : Expr} {x : Str} {scope : Scope} {cl : List (Str × Addr)} {S : List (Addr × Obj) → Prop} {P : Nat → Value → Prop} {Fin : List Value → List (Addr × Obj) → Prop} {n : Nat} (Y : Nat → List Value → List (Addr × Obj) → Prop)
    (fin : ∀ ys news, Y n ys news → Fin ys news)
    (turn : ∀ i ys news, i < n → Y i ys news → ∀ v I oI C oC D m₂ h tk (E' : Value → Shared → Prop), P i v → NsObj oC m₂ → m₂ x = some v → Fr h₀ L h m → News h₀ L h ((I, oI) :: (C, oC) :: (D, lst ys) :: news) → Off3 I C D news → ((@Ne Nat I C) ∧ (@Ne Nat I D) ∧ (@Ne Nat C D)) →
      wpAny (model prog w) A (isTrue ct (compEnvC scope cl C env) (eval ct (compEnvC scope cl C env))) (fun ok s' => if ok = true then
        wpAny (model prog w) A (eval elt (compEnvC scope cl C env)) (CompEnd h₀ L m { s with heap := h, toks := tk } I oI C oC D (lst ys) S (fun y news' => Y (i + 1) (ys ++ [y]) news')) E' s'
        else CompEnd h₀ L m { s with heap := h, toks := tk } I oI C oC D (lst ys) S (fun _ news' => Y (i + 1) ys news') Value.none s') E' { s with heap := h, toks := tk }) :
    ∀ k i ys news, i + k = n → Y i ys news → CompRestT prog w A h₀ L m env ct elt x scope cl s S P Fin k i ys news
  | 0, i, ys, news, e, y => fin ys news (by rw [Nat.add_zero] at e; rwa [e] at y)
  | k + 1, i, ys, news, e, y => fun v I oI C oC D m₂ h tk E' hP hC hx F N off ne =>
    wpAny_mono (turn i ys news (by omega) y v I oI C oC D m₂ h tk E' hP hC hx F N off ne) (fun ok s' q => by
      cases ok with
      | true =>
        simp only [if_true] at q ⊢
        refine wpAny_mono q (fun y' s₅ ⟨h', tk', news', e1, F', N', off', hS, r⟩ => ⟨h', tk', news', e1, F', N', off', hS, ?_⟩) fun _ _ e => e
        exact restT_ind Y fin turn k (i + 1) _ _ (by omega) r
      | false =>
        simp only [Bool.false_eq_true, if_false] at q ⊢
        obtain ⟨h', tk', news', e1, F', N', off', hS, r⟩ := q
        exact ⟨h', tk', news', e1, F', N', off', hS, restT_ind Y fin turn k (i + 1) _ _ (by omega) r⟩) fun _ _ e => e

theorem restU_ind {elt : Expr} {x : Str} {scope : Scope} {cl : List (Str × Addr)} {S : List (Addr × Obj) → Prop} {P : Nat → Value → Prop} {Fin : List Value → List (Addr × Obj) → Prop} {n : Nat} (Y : Nat → List Value → List (Addr × Obj) → Prop)
    (fin : ∀ ys news, Y n ys news → Fin ys news)
    (turn : ∀ i ys news, i < n → Y i ys news → ∀ v I oI C oC D m₂ h tk (E' : Value → Shared → Prop), P i v → NsObj oC m₂ → m₂ x = some v → Fr h₀ L h m → News h₀ L h ((I, oI) :: (C, oC) :: (D, lst ys) :: news) → Off3 I C D news → ((@Ne Nat I C) ∧ (@Ne Nat I D) ∧ (@Ne Nat C D)) →
      wpAny (model prog w) A (eval elt (compEnvC scope cl C env)) (CompEnd h₀ L m { s with heap := h, toks := tk } I oI C oC D (lst ys) S (fun y news' => Y (i + 1) (ys ++ [y]) news')) E' { s with heap := h, toks := tk }) :
    ∀ k i ys news, i + k = n → Y i ys news → CompRest prog w A h₀ L m env elt x scope cl s S P Fin k i ys news
  | 0, i, ys, news, e, y => fin ys news (by rw [Nat.add_zero] at e; rwa [e] at y)
  | k + 1, i, ys, news, e, y => fun v I oI C oC D m₂ h tk E' hP hC hx F N off ne =>
    wpAny_mono (turn i ys news (by omega) y v I oI C oC D m₂ h tk E' hP hC hx F N off ne) (fun y' s₅ ⟨h', tk', news', e1, F', N', off', hS, r⟩ => ⟨h', tk', news', e1, F', N', off', hS, restU_ind Y fin turn k (i + 1) _ _ (by omega) r⟩) fun _ _ e => e
end
end Mine
end

section
/-! part Nz13 -/
open PySem PySem.W PyProof.Rows PySem.Builtin
namespace Mine
set_option maxRecDepth 100000

/-- a text's code points -/
noncomputable def codes (x : Str) : List Int := x.cps.toList.map Int.ofNat
theorem codes_len (x : Str) : (codes x).length = x.cps.size := by simp [codes]

theorem str_at {prog : Program} {w : World} {A : Around} {E : Value → Shared → Prop} {s : Shared} {value slice : PySem.Expr} {x : PySem.Str} {t u : Tok} {n c : Nat} {Q : Value → Shared → Prop} (hc : x.cps[n]? = some c) (hz : x.cps.size ≤ 100)
    (h : Q (.str ⟨#[c]⟩ s.toks) { s with toks := s.toks + 1 })
    (hs : subscripted slice false (.str x t) (.int n u) = operate [.str x t, .int n u] (getItem (.str x t) (.int n u)) := by with_unfolding_all rfl)
    (ht : ∀ r, letTemporaryGo value (.str x t) r = pure () := by intro _; with_unfolding_all rfl) :
    wpAny (model prog w) A (subscriptTail value slice (.str x t) (.int n u)) Q E s := by
  have hn : n < x.cps.size := by
    rcases Nat.lt_or_ge n x.cps.size with h | h
    · exact h
    · rw [Array.getElem?_eq_none h] at hc; cases hc
  have hl : x.length = x.cps.size := rfl
  refine KXi.item (n := x.length) rfl (by omega) (by omega) (by omega) (fun _ => ?_) hs ht
  rw [item_meets (x := x) (i := (n : Int)) (by omega) (by rw [Int.toNat_natCast]; exact hc)]
  exact h
theorem codes_at {x : Str} {i : Nat} (h : i < x.cps.size) : ∃ c, x.cps[i]? = some c ∧ (codes x)[i]? = some (c : Int) :=
  ⟨x.cps[i], Array.getElem?_eq_getElem h, by unfold codes; rw [List.getElem?_map, Array.getElem?_toList, Array.getElem?_eq_getElem h]; rfl⟩
theorem codes_elim {x : Str} {i : Nat} {G : Prop} (h : i < x.cps.size) (k : ∀ c : Nat, x.cps[i]? = some c → (codes x)[i]? = some (c : Int) → G) : G := by
  obtain ⟨c, h1, h2⟩ := codes_at h
  exact k c h1 h2
section
set_option maxHeartbeats 8000000 in
theorem sign_octets_ok (w : World) (x : Str) (tx : Tok) (news : List (Addr × Obj)) (hz : x.cps.size ≤ 100) :
    Tell w 163 8 100 [.str x tx] news (fun v n => n = news ∧ (∀ c ∈ codes x, c ≤ 255) ∧ ∃ b t, v = .bytes b t ∧ KBw.bInts b = codes x) (∃ c ∈ codes x, 255 < c) := by
  k_with_none
  k_with "call builtin:len" => (k_here; (with_reducible show wpAny _ _ (call (Value.builtin _) [Value.str _ _]) _ _ _); k_dflt (refine PySem.P.len_str (by show ¬ ((Str.cps _).size : Int) ≥ 2 ^ 63; omega) ?_))
  k_with "call builtin:ord" => (k_here; (with_reducible show wpAny _ _ (call (Value.builtin _) [Value.str _ _]) _ _ _); k_dflt (refine PySem.P.ord_of_char ?_))
  k_with "subscriptTail" => (k_here; (with_reducible show wpAny _ _ (subscriptTail _ _ (Value.str _ _) (Value.int _ _)) _ _ _); k_dflt (refine str_at (by assumption) (by assumption) ?_))
  k_with "exec For Name Call cons nil" => (k_here; (rename Fr _ _ _ _ => lF'); (with_unfolding_all refine' For_turns lF' ?_); k_whole)
  k_with "pyIter ref" => (k_here; refine AtStop.of ?_)
  k_with "ItEnd" => (refine AtStop.of ?_)
  k_with "ItPost" => (dsimp only [ItPost])
  k_with "exec Raise some none" => (k_here; k_dflt (refine Raise_wf (by rfl) ?_))
  k_with "call ref" => (k_here; (with_reducible show wpAny _ _ (call (Value.ref 59) [Value.str _ _, Value.int _ _]) _ _ _); refine' wf_make (by assumption) (by assumption) (by assumption) (by assumption) (by assumption) (by exact rfl) (by exact rfl) (by exact rfl) (by ktr_room) ?_; intro e' t' dx' h' tk' F' N' hl'; refine AtStop.of ?_)
  k_with "eval ListComp" => (k_here; k_dflt (refine ListComp_strU (F₀ := by k_asm) (by with_unfolding_all rfl) (by decide) (by rfl) (by decide) (by rfl) ?_))
  k_with "CompStrU" => (k_here; k_dflt (refine CompStrU.intro (by rfl) (by k_asm) (by k_asm) (by rw [sizeLine_eq]; omega) ?_); intro g'; refine AtStop.of ?_)
  k_with "call type:bytes" => (k_here; (with_reducible show wpAny _ _ (call (Value.type _) [Value.ref _]) _ _ _); k_dflt (refine' KBa.make_K (by k_asm) (by k_asm) (by exact rfl) (news_list (by k_asm) (.head _)) (by assumption) (by assumption) (by (rw [codes_len]; omega)) ?_); intro h' t' k' F' N' hI')
  k_with "CompEnd" => (refine AtStop.of ?_)
  w_top off
  unfold Tell
  intro mean mg mb dp un gd cn cs a ccd cl outer A₀ base h₀ L m s Q E B F X N T hkk hd hu hret hexc
  refine wpAny_call ?_
  k_dflt cell_enter
  k_steps
  unfold AtStop
  rename_i h3 t1 u1 v1 hr F2 N2 hkeep
  refine iter_rangeTurns (n := x.cps.size) (by rfl) F2 N2 hr (small_one (by omega) (by omega) (by omega) (by show (x.cps.size : Int) < 2 ^ 62; omega)) (by rw [rangeSize_nat]; show (((x.cps.size : Int) - 0).toNat : Int) = _; omega) ?_
  intro I hI
  refine' items_state (σ := Unit) (fun c => news) (fun c => []) ["at"] (fun i c => ∀ k ∈ (codes x).take i, k ≤ 255) () ?hk ?hp ?fin ?turn
  case hk => exact List.forall_mem_nil _
  case hp => exact fun _ h => nomatch h
  case fin =>
    rintro c u h9 tk9 hp F9 N9
    dsimp only [kstB] at hp F9 N9 ⊢
    rw [List.length_map, List.length_range, ← codes_len, List.take_length] at hp
    have hin : KBa.In (codes x) := by
      intro k hk
      refine ⟨?_, by have := hp k hk; omega⟩
      unfold codes at hk
      obtain ⟨c, _, rfl⟩ := List.mem_map.1 hk
      exact Int.natCast_nonneg c
    have mark9 := True.intro
    k_steps
    unfold AtStop
    refine restU_ind (fun i ys n => news = n ∧ IntsAre ys ((codes x).take i)) ?_ ?_ _ _ _ _ (Nat.zero_add _) ⟨rfl, .nil⟩
    · intro ys n hY
      apply eq_and_elim hY
      clear hY
      intro hys
      rw [← codes_len, List.take_length] at hys
      intro D2 h2 tk2 F2 N2 O2
      k_steps
      rename News _ _ _ _ => N5
      rename Fr _ _ _ _ => F5
      rename KBa.In _ => hI5
      exact hret _ _ _ _ ⟨rfl, hp, _, _, rfl, KBa.ints_make hI5⟩ F5 (fun p hp => N5 p (.tail _ hp))
    · intro i ys n hi hY
      apply eq_and_elim hY
      clear hY
      intro hys v I2 oI C oC D2 m₂ h tk E' hP
      apply sign_elim hP
      clear hP
      intro c u2 hc hC hx F2 N2 off ne
      k_steps
      unfold AtStop
      obtain ⟨c', hc', hk'⟩ := codes_at hi
      rw [hc] at hc'
      obtain rfl := Option.some.inj hc'
      exact LCg.CompEnd.intro F2 N2 news (fun p hp => hp) off trivial ⟨rfl, by rw [List.take_add_one, hk']; exact hys.append (.cons _ _ .nil)⟩
  case turn =>
    rintro i a9 c u v h9 tk9 o ha hp hv F9 ho N9
    dsimp only [kstB] at hp F9 N9 ⊢
    have hil : i < x.cps.size := by
      rcases Nat.lt_or_ge i x.cps.size with h | h
      · exact h
      · rw [List.getElem?_eq_none (by simpa using h)] at ha; cases ha
    have e9 : a9 = .tok fun u => .int (0 + (i : Int)) u := by
      rw [List.getElem?_map, List.getElem?_range hil] at ha
      exact (Option.some.inj ha).symm
    subst e9
    obtain ⟨t9, rfl⟩ := hv
    rw [Int.zero_add]
    refine codes_elim hil ?_
    intro c9 hc9 hk9
    have hch : (((Txt.charAt x (i : Int)).getD 0 : Nat) : Int) = c9 := by
      have e1 := item_meets (x := x) (i := (i : Int)) (by omega) (by rw [Int.toNat_natCast]; exact hc9)
      have e2 : (#[(Txt.charAt x (i : Int)).getD 0] : Array Nat) = #[c9] := congrArg Str.cps e1
      have e3 : (Txt.charAt x (i : Int)).getD 0 = c9 := by simpa using e2
      rw [e3]
    have hxl : x.length = x.cps.size := rfl
    k_steps
    · unfold AtStop
      rename News _ _ _ _ => N5
      rename Fr _ _ _ _ => F5
      rename ∀ p ∈ (I, o) :: _, _ < _ => hl5
      rename 255 < (_ : Int) => hn5
      rw [hch] at hn5
      refine ⟨_, rfl, ⟨Frag.In.keeps (by assumption) F5.keep, _, _, (N5 _ (.head _)).1⟩, ?_⟩
      refine leave_wf (by assumption) F5 N5 hl5 fun h' hR hU => ?_
      exact hexc ⟨_, List.mem_of_getElem? hk9, hn5⟩ _ _ _ _ (by assumption) (raisedN_sub hR (fun p hp => .tail _ hp)) hU
    · unfold AtStop
      rename News _ _ _ _ => N5
      rename Fr _ _ _ _ => F5
      rename ¬ _ => hn5
      rw [hch] at hn5
      refine ItEnd.intro () F5 N5 (fun p hp => hp) (fun p hp => Nat.ne_of_lt (hI p hp)) trivial (List.forall_mem_nil _) (by ksw_same) ?_
      intro k hk
      rw [List.take_add_one, hk9] at hk
      rcases List.mem_append.1 hk with hk | hk
      · exact hp k hk
      · have : k = c9 := by simpa using hk
        omega
end
end Mine
end

section
/-! part Nz05 -/
open PySem PySem.W PyProof.Rows
namespace Mine
set_option maxRecDepth 100000

noncomputable def atomRun (ks : List Int) (n : Nat) : List Int := (ks.drop n).takeWhile atomC
theorem takeWhile_len {l : List Int} {p : Int → Bool} : (l.takeWhile p).length ≤ l.length := (List.takeWhile_sublist p).length_le
theorem run_len {ks : List Int} {n : Nat} (h : n ≤ ks.length) : n + (atomRun ks n).length ≤ ks.length := by
  have := takeWhile_len (l := ks.drop n) (p := atomC)
  rw [List.length_drop] at this
  unfold atomRun
  omega
theorem takeWhile_get {p : Int → Bool} : ∀ {l : List Int} {k : Nat}, k < (l.takeWhile p).length → k < l.length ∧ p (l.getD k 0) = true
  | [], k, h => by simp at h
  | c :: r, k, h => by
    rw [List.takeWhile_cons] at h
    split at h
    · cases k with
      | zero => exact ⟨by simp, by assumption⟩
      | succ k =>
        have := takeWhile_get (p := p) (l := r) (k := k) (by simpa using h)
        exact ⟨by simp [this.1], by simpa using this.2⟩
    · simp at h
theorem takeWhile_stop {p : Int → Bool} : ∀ {l : List Int}, (l.takeWhile p).length < l.length → p (l.getD (l.takeWhile p).length 0) = false
  | [], h => by simp at h
  | c :: r, h => by
    rw [List.takeWhile_cons] at h ⊢
    split at h
    · rename_i hc
      rw [if_pos hc]
      have := takeWhile_stop (p := p) (l := r) (by simpa using h)
      simpa using this
    · rename_i hc
      rw [if_neg hc]
      simpa using hc
theorem getD_dropn (ks : List Int) (n k : Nat) : (ks.drop n).getD k 0 = ks.getD (n + k) 0 := by
  rw [List.getD_eq_getElem?_getD, List.getD_eq_getElem?_getD, List.getElem?_drop]
theorem run_at {ks : List Int} {n k : Nat} (h : k < (atomRun ks n).length) : n + k < ks.length ∧ atomC (ks.getD (n + k) 0) = true := by
  have := takeWhile_get h
  rw [List.length_drop, getD_dropn] at this
  exact ⟨by omega, this.2⟩
theorem run_stop {ks : List Int} {n : Nat} (h : n + (atomRun ks n).length < ks.length) : atomC (ks.getD (n + (atomRun ks n).length) 0) = false := by
  have := takeWhile_stop (p := atomC) (l := ks.drop n) (by rw [List.length_drop]; unfold atomRun at h; omega)
  rw [getD_dropn] at this
  exact this
theorem takeWhile_take {p : Int → Bool} (l : List Int) : l.take (l.takeWhile p).length = l.takeWhile p := by
  have := List.takeWhile_prefix (l := l) p
  exact (List.prefix_iff_eq_take.1 this).symm
theorem run_cut {ks : List Int} {n : Nat} (h : n ≤ ks.length) : List.take (min (n + (atomRun ks n).length) ks.length - min n ks.length) (List.drop (min n ks.length) ks) = atomRun ks n := by
  rw [Nat.min_eq_left h, Nat.min_eq_left (run_len h), Nat.add_sub_cancel_left]
  exact takeWhile_take _

section
set_option maxHeartbeats 8000000 in
theorem atom_at_ok (w : World) (b : Array UInt8) (tb : Tok) (ks : List Int) (i : Int) (n : Nat) (ti : Tok) (news : List (Addr × Obj)) (hk : KBw.bInts b = ks) (hz : ks.length ≤ 1000) (hi : i = n) (hn : n ≤ ks.length) :
    Tell w 104 4 50 [.bytes b tb, .int i ti] news (PairBack news (atomRun ks n) (n + (atomRun ks n).length : Nat)) False := by
  k_with_none
  k_with "call ref" => (k_here; (with_reducible show wpAny _ _ (call (Value.ref 69) [Value.int _ _]) _ _ _); k_dflt (refine' tell_use (is_atom_code_ok _ _ _ _ (by omega) (by omega)) (by k_asm) (by k_asm) (by k_asm) (by k_asm) (by k_asm) (by first | exact rfl | assumption) (by ktr_room) (by ktr_units) ?_ (fun hx => hx.elim)); intro v' n' h' tk' hv'; apply bool_elim hv'; clear hv'; intro F' N')
  k_with "KswEnd" => (refine AtStop.of ?_)
  k_with "exec While BoolOp" => (k_here; refine AtStop.of ?_)
  k_with "exec While BoolOp cons nil" => (k_here; refine AtStop.of ?_)
  w_top off
  unfold Tell
  intro mean mg mb dp un gd cn cs a ccd cl outer A₀ base h₀ L m s Q E B F X N T hkk hd hu hret hexc
  subst hi
  refine wpAny_call ?_
  k_dflt cell_enter
  k_steps
  unfold AtStop
  rename Fr _ _ _ _ => F1
  rename News _ _ _ _ => N1
  have hrl := run_len hn
  have hcut := run_cut hn
  have hrun := fun k => @run_at ks n k
  have hstop := @run_stop ks n
  generalize hR : atomRun ks n = R at *
  refine' ksw_while (σ := Nat × Tok) (fun c => news) (fun c => [("end", .int (n + c.1 : Nat) c.2)]) (fun _ => True) []
    (fun c => c.1 ≤ R.length) (fun c => R.length - c.1) (0, ?tk0) F1 N1 trivial ?hk ?hp ?turn
  case hk => kst_all
  case hp => exact Nat.zero_le _
  refine two_elim ?_
  intro k t9 u h9 tk9 hz9
  clear hz9
  intro hle F9 N9
  dsimp only [kstB] at hle F9 N9 ⊢
  rcases Nat.lt_or_ge k R.length with hlt | hge
  · refine two_facts (hrun k hlt) ?_
    intro e1 e2
    generalize hp : n + k = p at *
    have mark9 := True.intro
    k_steps
    · unfold AtStop
      rename Fr _ _ _ _ => F5
      rename News _ _ _ _ => N5
      rw [show (p : Int) + 1 = (n + (k + 1) : Nat) by omega] at F5
      refine ksw_end (k + 1, _) F5 N5 (fun _ h => h) trivial (by kst_all) (by ksw_same) hlt ?_
      show R.length - (k + 1) < R.length - k
      omega
    · exfalso
      rename atomC _ = false => h
      rw [Int.toNat_natCast, e2] at h
      exact Bool.noConfusion h
  · have hkn : k = R.length := by omega
    subst hkn
    have e4 : ks.length ≤ n + R.length ∨ atomC (ks.getD (n + R.length) 0) = false := by
      rcases Nat.lt_or_ge (n + R.length) ks.length with h | h
      · exact .inr (hstop h)
      · exact .inl h
    have hp' : n + R.length = n + R.length := rfl
    generalize hp : n + R.length = p at *
    have mark9 := True.intro
    k_steps
    all_goals try
      rename News _ _ _ _ => N5
      rename Fr _ _ _ _ => F5
      rename KBw.bInts (KBy.picked _ _ _) = _ => hK
      refine hret _ _ _ _ ⟨_, _, _, _, rfl, ?_, rfl, by assumption⟩ F5 N5
      exact hK.trans hcut
      done
    exfalso
    rename atomC _ = true => h
    rw [Int.toNat_natCast] at h
    rcases e4 with e4 | e4
    · omega
    · rw [h] at e4
      exact Bool.noConfusion e4

noncomputable def atomW (ks : List Int) : Bool := !ks.isEmpty && ks.all atomC
theorem takeWhile_all {p : Int → Bool} : ∀ {l : List Int}, (∀ x ∈ l, p x = true) → l.takeWhile p = l
  | [], _ => rfl
  | c :: r, h => by
    rw [List.takeWhile_cons, if_pos (h c (.head _)), takeWhile_all fun x hx => h x (.tail _ hx)]
theorem run_full {ks : List Int} : (atomRun ks 0).length = ks.length ↔ ks.all atomC = true := by
  unfold atomRun
  rw [List.drop_zero]
  constructor
  · intro h
    have h1 := (List.takeWhile_prefix (l := ks) atomC).eq_of_length h
    have h2 := List.all_takeWhile (p := atomC) (l := ks)
    rw [h1] at h2
    exact h2
  · intro h
    rw [takeWhile_all (List.all_eq_true.1 h)]
theorem is_atom_yes {ks : List Int} (h : 0 < (ks.length : Int)) : (((0 + (atomRun ks 0).length : Nat) : Int) == (ks.length : Int)) = atomW ks := by
  have hne : ks ≠ [] := by intro e; rw [e] at h; exact absurd h (by decide)
  unfold atomW
  rw [Bool.eq_iff_iff, beq_iff_eq, Nat.zero_add, Int.ofNat_inj, run_full]
  simp [hne]
theorem is_atom_no {ks : List Int} (h : ¬ 0 < (ks.length : Int)) : decide (0 < (ks.length : Int)) = atomW ks := by
  have hne : ks = [] := by
    cases ks with
    | nil => rfl
    | cons c r => rw [List.length_cons] at h; omega
  subst hne
  rfl
set_option maxHeartbeats 8000000 in
theorem is_atom_ok (w : World) (b : Array UInt8) (tb : Tok) (ks : List Int) (news : List (Addr × Obj)) (hk : KBw.bInts b = ks) (hz : ks.length ≤ 1000) :
    Tell w 158 6 60 [.bytes b tb] news (fun v n => n = news ∧ v = .bool (atomW ks)) False := by
  k_with_none
  k_with "call ref" => (k_here; (with_reducible show wpAny _ _ (call (Value.ref 69) [Value.int _ _]) _ _ _); k_dflt (refine' tell_use (is_atom_code_ok _ _ _ _ (by omega) (by omega)) (by k_asm) (by k_asm) (by k_asm) (by k_asm) (by k_asm) (by first | exact rfl | assumption) (by ktr_room) (by ktr_units) ?_ (fun hx => hx.elim)); intro v' n' h' tk' hv'; apply bool_elim hv'; clear hv'; intro F' N')
  k_with "KswEnd" => (refine AtStop.of ?_)
  k_with "exec While BoolOp" => (k_here; refine AtStop.of ?_)
  k_with "exec While BoolOp cons nil" => (k_here; refine AtStop.of ?_)
  k_with "call ref" => (k_here; (with_reducible show wpAny _ _ (call (Value.ref 104) [Value.bytes _ _, Value.int _ _]) _ _ _); k_dflt (refine' tell_use (atom_at_ok _ _ _ _ _ 0 _ _ (by assumption) (by omega) rfl (Nat.zero_le _)) (by k_asm) (by k_asm) (by k_asm) (by k_asm) (by k_asm) (by first | exact rfl | assumption) (by ktr_room) (by ktr_units) ?_ (fun hx => hx.elim)); intro v' n' h' tk' hv'; apply PairBack.elim hv'; clear hv'; intro d' b' t1' t2' hb' hl' F' N')
  w_top off
  unfold Tell
  intro mean mg mb dp un gd cn cs a ccd cl outer A₀ base h₀ L m s Q E B F X N T hkk hd hu hret hexc
  refine wpAny_call ?_
  k_dflt cell_enter
  k_steps
  · rename News _ _ _ _ => N5
    rename Fr _ _ _ _ => F5
    rename _ < (_ : Int) => h
    exact hret _ _ _ _ ⟨rfl, congrArg Value.bool (is_atom_yes h)⟩ F5 (fun p hp => N5 p (.tail _ hp))
  · rename News _ _ _ _ => N5
    rename Fr _ _ _ _ => F5
    rename ¬ _ => h
    exact hret _ _ _ _ ⟨rfl, congrArg Value.bool (is_atom_no h)⟩ F5 N5
end
end Mine
end

section
/-! part NzP -/
open PySem PySem.W PyProof.Rows PySem.Builtin
namespace Mine
set_option maxRecDepth 100000

noncomputable def splitGo : List Int → List Int → List (List Int)
  | cur, [] => [cur]
  | cur, c :: r => if c = 32 then cur :: splitGo [] r else splitGo (cur ++ [c]) r
noncomputable def splitK (ks : List Int) : List (List Int) := splitGo [] ks

theorem ints_extract2 (b : Array UInt8) (i j : Nat) : KBw.bInts (b.extract i j) = ((KBw.bInts b).drop i).take (j - i) := by
  unfold KBw.bInts
  rw [Array.toList_extract, List.extract_eq_take_drop, List.map_take, List.map_drop]
theorem occ_go (p : Nat → Bool) : ∀ (n k : Nat) (acc : List Nat) (l : Nat), l ≤ k →
    ((List.range' k n).foldl (fun (a : List Nat × Nat) i => if i ≥ a.2 && p i then (i :: a.1, i + 1) else a) (acc, l)).1.reverse = acc.reverse ++ (List.range' k n).filter p
  | 0, _, _, _, _ => by simp
  | n + 1, k, acc, l, h => by
    rw [List.range'_succ, List.foldl_cons, List.filter_cons]
    cases hp : p k with
    | true =>
      rw [show (k ≥ l && true) = true by simpa using h]
      simp only [if_true]
      rw [occ_go p n (k + 1) (k :: acc) (k + 1) (Nat.le_refl _), List.reverse_cons, List.append_assoc]
      rfl
    | false =>
      simp only [Bool.and_false, Bool.false_eq_true, if_false]
      exact occ_go p n (k + 1) acc l (by omega)
theorem occ_eq (b : Array UInt8) : Bytes.occurrences b #[32] 0 b.size = (List.range' 0 b.size).filter fun i => b.extract i (i + 1) == #[32] := by
  unfold Bytes.occurrences
  have e : (List.range (b.size + 1 - (0 + (#[32] : Array UInt8).size))).map (· + 0) = List.range' 0 b.size := by
    rw [show b.size + 1 - (0 + (#[32] : Array UInt8).size) = b.size by simp, List.range_eq_range']
    simp
  rw [e]
  exact occ_go (fun i => b.extract i (i + 1) == #[32]) b.size 0 [] 0 (Nat.le_refl _)
theorem split_go (b : Array UInt8) (f : Array (Array UInt8) × Nat → Nat → Array (Array UInt8) × Nat) (hf : ∀ a p, f a p = (a.1.push (b.extract a.2 p), p + 1)) : ∀ (n k : Nat) (parts : Array (Array UInt8)) (l : Nat), l ≤ k → k + n = b.size →
    ((((List.range' k n).filter fun i => b.extract i (i + 1) == #[32]).foldl f (parts, l)).1.push (b.extract (((List.range' k n).filter fun i => b.extract i (i + 1) == #[32]).foldl f (parts, l)).2 b.size)).toList.map KBw.bInts
      = parts.toList.map KBw.bInts ++ splitGo (((KBw.bInts b).drop l).take (k - l)) ((KBw.bInts b).drop k)
  | 0, k, parts, l, h, e => by
    have hl : (KBw.bInts b).length = b.size := ints_len b
    rw [show (KBw.bInts b).drop k = [] from List.drop_eq_nil_of_le (by omega)]
    simp only [List.range'_zero, List.filter_nil, List.foldl_nil, splitGo]
    rw [Array.toList_push, List.map_append, List.map_singleton, ints_extract2, show b.size - l = k - l by rw [← e, Nat.add_zero]]
  | n + 1, k, parts, l, h, e => by
    have hl : (KBw.bInts b).length = b.size := ints_len b
    have hk : k < (KBw.bInts b).length := by omega
    have hd : (KBw.bInts b).drop k = (KBw.bInts b)[k] :: (KBw.bInts b).drop (k + 1) := List.drop_eq_getElem_cons hk
    have hx : KBw.bInts (b.extract k (k + 1)) = [(KBw.bInts b)[k]] := by
      rw [ints_extract2, hd, Nat.add_sub_cancel_left]
      rfl
    rw [List.range'_succ, List.filter_cons]
    by_cases hc : (KBw.bInts b)[k] = 32
    · have hp : (b.extract k (k + 1) == #[32]) = true := by
        rw [beq_iff_eq]
        refine ints_of ?_
        rw [hx, hc]
        rfl
      rw [if_pos hp, List.foldl_cons, hf]
      rw [split_go b f hf n (k + 1) _ (k + 1) (Nat.le_refl _) (by omega), hd, splitGo, if_pos hc, Array.toList_push, List.map_append, List.map_singleton, ints_extract2, Nat.sub_self, List.take_zero, List.append_assoc]
      rfl
    · have hp : (b.extract k (k + 1) == #[32]) = false := by
        rw [beq_eq_false_iff_ne]
        intro e2
        rw [e2] at hx
        exact hc (List.cons.inj hx).1.symm
      rw [if_neg (by rw [hp]; decide), split_go b f hf n (k + 1) parts l (by omega) (by omega), hd, splitGo, if_neg hc]
      have e3 : ((KBw.bInts b).drop l).take (k + 1 - l) = ((KBw.bInts b).drop l).take (k - l) ++ [(KBw.bInts b)[k]] := by
        rw [show k + 1 - l = (k - l) + 1 from Nat.succ_sub h, List.take_add_one, List.getElem?_drop, show l + (k - l) = k from Nat.add_sub_cancel' h, List.getElem?_eq_getElem hk]
        rfl
      rw [e3]
theorem split_ints (b : Array UInt8) : (splitParts b #[32]).map KBw.bInts = splitK (KBw.bInts b) := by
  have h := split_go b (fun (parts, last) p => (parts.push (b.extract last p), p + 1)) (fun a p => rfl) b.size 0 #[] 0 (Nat.le_refl _) (Nat.zero_add _)
  unfold splitParts
  have hlen : (Bytes.occurrences b #[32] 0 b.size).take (b.size + 1) = Bytes.occurrences b #[32] 0 b.size := by
    refine List.take_of_length_le ?_
    rw [occ_eq]
    exact Nat.le_trans (List.length_filter_le _ _) (by simp)
  rw [hlen]
  split
  · rename_i he
    rw [occ_eq, List.isEmpty_iff] at he
    rw [he] at h
    rw [List.map_singleton]
    have h2 : [KBw.bInts (b.extract 0 b.size)] = splitGo [] (KBw.bInts b) := h
    rw [ints_extract2] at h2
    have hl : (KBw.bInts b).length = b.size := ints_len b
    rw [List.drop_zero, Nat.sub_zero, ← hl, List.take_length] at h2
    exact h2
  · unfold Bytes.between
    rw [occ_eq]
    exact h
end Mine
end

section
/-! part Nz14 -/
open PySem PySem.W PyProof.Rows PySem.Builtin
namespace Mine
set_option maxRecDepth 100000

theorem splitGo_len : ∀ (r cur : List Int), (splitGo cur r).length ≤ r.length + 1
  | [], _ => by simp [splitGo]
  | c :: r, cur => by
    rw [splitGo]
    split
    · have := splitGo_len r []
      simp only [List.length_cons]; omega
    · have := splitGo_len r (cur ++ [c])
      simp only [List.length_cons]; omega
theorem splitGo_mem : ∀ (r cur : List Int) {w : List Int}, w ∈ splitGo cur r → w.length ≤ cur.length + r.length
  | [], cur, w, h => by
    rw [splitGo] at h
    rw [List.mem_singleton.1 h]; simp
  | c :: r, cur, w, h => by
    rw [splitGo] at h
    split at h
    · rcases List.mem_cons.1 h with rfl | h
      · omega
      · have := splitGo_mem r [] h
        simp only [List.length_cons, List.length_nil] at *; omega
    · have := splitGo_mem r _ h
      simp only [List.length_append, List.length_cons, List.length_nil] at *; omega
theorem split_size {b : Array UInt8} (hz : b.size ≤ 1000) : (∀ x ∈ splitParts b #[32], x.size ≤ sizeLine) ∧ (splitParts b #[32]).length ≤ 1001 := by
  have h := split_ints b
  constructor
  · intro x hx
    have hm : KBw.bInts x ∈ splitK (KBw.bInts b) := by rw [← h]; exact List.mem_map_of_mem hx
    have := splitGo_mem _ _ hm
    rw [ints_len, ints_len] at this
    rw [sizeLine_eq]
    simp only [List.length_nil] at this
    omega
  · have h2 := congrArg List.length h
    rw [List.length_map] at h2
    have := splitGo_len (KBw.bInts b) []
    rw [ints_len] at this
    unfold splitK at h2
    omega
noncomputable def bareK (ks : List Int) : Bool := (splitK ks).all atomW

section
variable {prog : Program} {w : World} {A : Around} {E : Value → Shared → Prop} {s : Shared} {h₀ : Heap} {L D D0 : Addr} {news : List (Addr × Obj)}
theorem eq_nil {ys : List Value} {n n0 : Nat} {Q : Value → Shared → Prop} (N : News h₀ L s.heap news) (h1 : (D, listOf ys.toArray n) ∈ news) (h2 : (D0, listOf #[] n0) ∈ news) (hu : A.units < cLine)
    (h : Q (.bool ys.isEmpty) s) : wpAny (model prog w) A (compareOp .Eq (.ref D) (.ref D0)) Q E s := by
  cases ys with
  | nil => exact PySem.SeqAt.eq_listAt (e := fun _ => true) (news_list N h1) (news_list N h2) rfl hu (fun j h1 _ => absurd h1 (Nat.not_lt_zero j)) h
  | cons y r => exact PySem.SeqAt.eq_list_lengthsAt (news_list N h1) (news_list N h2) (by simp) hu h
end

section
set_option maxHeartbeats 8000000 in
theorem phrase_octets_ok (w : World) (x : Str) (tx : Tok) (news : List (Addr × Obj)) (hz : x.cps.size ≤ 100) :
    Tell w 168 12 200 [.str x tx] news (fun v n => n = news ∧ (∀ c ∈ codes x, c ≤ 255) ∧ ∃ b t, v = .bytes b t ∧ ((bareK (codes x) = true ∧ KBw.bInts b = codes x) ∨ (bareK (codes x) = false ∧ (∀ k ∈ codes x, k ≠ 0 ∧ k ≠ 10 ∧ k ≠ 13) ∧ KBw.bInts b = 34 :: (escs (codes x) ++ [34]))))
      ((∃ c ∈ codes x, 255 < c) ∨ (bareK (codes x) = false ∧ ∃ k ∈ codes x, k = 0 ∨ k = 10 ∨ k = 13)) := by
  k_with_none
  k_with "call ref" => (k_here; (with_reducible show wpAny _ _ (call (Value.ref 163) [Value.str _ _]) _ _ _); k_dflt (refine' tell_use (sign_octets_ok _ _ _ _ (by omega)) (by k_asm) (by k_asm) (by k_asm) (by k_asm) (by k_asm) (by first | exact rfl | assumption) (by ktr_room) (by ktr_units) ?_ ?_); first | (intro v' n' h' tk' hv'; apply fact_bytes_elim hv'; clear hv'; intro b' t' hn' hb' F' N') | (intro hx' e' h' tk' g' F' R' U'; dsimp only))
  k_with "call ref" => (k_here; (with_reducible show wpAny _ _ (call (Value.ref 158) [Value.bytes _ _]) _ _ _); k_dflt (refine' tell_use (is_atom_ok _ _ _ _ _ (by assumption) (by omega)) (by k_asm) (by k_asm) (by k_asm) (by k_asm) (by k_asm) (by first | exact rfl | assumption) (by ktr_room) (by ktr_units) ?_ (fun hx => hx.elim)); intro v' n' h' tk' hv'; apply bool_elim hv'; clear hv'; intro F' N')
  k_with "call ref" => (k_here; (with_reducible show wpAny _ _ (call (Value.ref 151) [Value.bytes _ _]) _ _ _); k_dflt (refine' tell_use (quoted_ok _ _ _ _ _ (by assumption) (by (rw [codes_len]; omega))) (by k_asm) (by k_asm) (by k_asm) (by k_asm) (by k_asm) (by first | exact rfl | assumption) (by ktr_room) (by ktr_units) ?_ ?_); first | (intro v' n' h' tk' hv'; apply fact_bytes_elim hv'; clear hv'; intro b' t' hn' hb' F' N') | (intro hx' e' h' tk' g' F' R' U'; dsimp only))
  k_with "getMethod bytes" => (k_here; refine method_split ?_)
  k_with "call builtin:bytes.split" => (k_here; refine AtStop.of ?_)
  k_with "eval ListComp" => (k_here; k_dflt (refine LCt.ListComp_T (F₀ := by k_asm) (by with_unfolding_all rfl) (by decide) (by rfl) (by decide) (by rfl) ?_))
  k_with "CompSrcT" => (k_here; refine AtStop.of ?_)
  k_with "CompEnd" => (refine AtStop.of ?_)
  k_with "compareOp Eq ref ref" => (k_here; refine AtStop.of ?_)
  w_top off
  unfold Tell
  intro mean mg mb dp un gd cn cs a ccd cl outer A₀ base h₀ L m s Q E B F X N T hkk hd hu hret hexc
  refine wpAny_call ?_
  k_dflt cell_enter
  k_steps
  · unfold AtStop
    rename KBw.bInts _ = codes x => hb5
    rename News _ _ _ _ => N5
    rename Fr _ _ _ _ => F5
    rename Array UInt8 => b5
    have hbz : b5.size ≤ 1000 := by rw [← ints_len, hb5, codes_len]; omega
    refine two_facts (split_size hbz) ?_
    intro hz1 hz2
    have hsp := split_ints b5
    rw [hb5] at hsp
    refine call_split F5 N5 rfl hz1 (by rw [sizeLine_eq]; omega) ?_
    intro D vs h2 tk2 hvs F2 N2 hD
    have hvl := hvs.length
    k_steps
    unfold AtStop
    refine LCt.CompSrcT.ledger (by rfl) F2 N2 (.head _) (by rw [sizeLine_eq, List.size_toArray]; omega) ?_
    intro g2
    refine restT_ind (fun i ys n => (D, { cls := .type "list", data := .seq vs.toArray }) :: news = n ∧ ys.isEmpty = (((splitParts b5 #[32]).map KBw.bInts).take i).all atomW) ?_ ?_ _ _ _ _ (Nat.zero_add _) ⟨rfl, rfl⟩
    · intro ys n hY
      apply eq_and_elim hY
      clear hY
      intro hys
      rw [List.size_toArray, hvl, ← List.length_map (f := KBw.bInts), List.take_length, hsp] at hys
      intro D2 h3 tk3 F3 N3 O3
      k_steps
      unfold AtStop
      rename News _ _ _ _ => N5
      refine eq_nil N5 (.tail _ (.head _)) (.head _) (by ktr_units) ?_
      rw [hys]
      show _
      cases hbare : bareK (codes x) with
      | true =>
        rw [show (splitK (codes x)).all atomW = true from hbare]
        k_steps
        rename News _ _ _ _ => N6
        rename Fr _ _ _ _ => F6
        exact hret _ _ _ _ ⟨rfl, by assumption, _, _, rfl, .inl ⟨hbare, hb5⟩⟩ F6 (fun p hp => N6 p (.tail _ (.tail _ (.tail _ hp))))
      | false =>
        rw [show (splitK (codes x)).all atomW = false from hbare]
        k_steps
        · rename News _ _ _ _ => N6
          rename Fr _ _ _ _ => F6
          rename KBw.bInts _ = _ :: _ => hb6
          rename ∀ k ∈ codes x, k ≠ 0 ∧ _ => hn6
          exact hret _ _ _ _ ⟨rfl, by assumption, _, _, rfl, .inr ⟨hbare, hn6, hb6⟩⟩ F6 (fun p hp => N6 p (.tail _ (.tail _ (.tail _ hp))))
        · rename RaisedN _ _ _ _ _ _ => R5
          rename Heap.UpToSlots _ _ => U5
          exact hexc (.inr ⟨hbare, by assumption⟩) _ _ _ _ (by assumption) (raisedN_sub R5 (fun p hp => .tail _ (.tail _ (.tail _ hp)))) U5
    · intro i ys n hi hY
      apply eq_and_elim hY
      clear hY
      intro hys v I oI C oC D2 m₂ h tk E' hP hC hx F3 N3 off ne
      have hv : vs[i]? = some v := by simpa using hP
      obtain ⟨wb, wt, rfl, hwb⟩ := hvs.at hv
      obtain ⟨kw, hkw⟩ : ∃ kw, KBw.bInts wb = kw := ⟨_, rfl⟩
      have hmw : kw ∈ splitK (codes x) := by rw [← hsp, ← hkw]; exact List.mem_map_of_mem (List.mem_of_getElem? hwb)
      have hlw := splitGo_mem _ _ hmw
      rw [codes_len, List.length_nil] at hlw
      have hat : ((splitParts b5 #[32]).map KBw.bInts).take (i + 1) = ((splitParts b5 #[32]).map KBw.bInts).take i ++ [kw] := by
        rw [List.take_add_one, List.getElem?_map, hwb, ← hkw]
        rfl
      k_steps
      · unfold AtStop
        rename News _ _ _ _ => N5
        rename Fr _ _ _ _ => F5
        rename atomW kw = true => ha
        exact LCg.CompEnd.intro F5 N5 _ (fun p hp => hp) off (.inr ⟨_, .head _, rfl, _, rfl⟩) ⟨rfl, by rw [hat, List.all_append, hys]; simp [ha]⟩
      · unfold AtStop
        rename News _ _ _ _ => N5
        rename Fr _ _ _ _ => F5
        rename atomW kw = false => ha
        exact LCg.CompEnd.intro F5 N5 _ (fun p hp => hp) off (.inr ⟨_, .head _, rfl, _, rfl⟩) ⟨rfl, by rw [hat, List.all_append]; simp [ha]⟩
  · rename RaisedN _ _ _ _ _ _ => R5
    rename Heap.UpToSlots _ _ => U5
    exact hexc (.inl (by assumption)) _ _ _ _ (by assumption) R5 U5
end
end Mine
end

section
/-! part Nz15 -/
open PySem PySem.W PyProof.Rows PySem.Builtin
namespace Mine
set_option maxRecDepth 100000

noncomputable def lawSigns : Str := Str.ofString "abcdefghijklmnopqrstuvwxyzABCDEFGHIJKLMNOPQRSTUVWXYZ0123456789!#$%&'*+-/=?^_`{|}~"
theorem sign_atom_small : ∀ c : Fin 128, (!decide (c.val ∈ lawSigns.cps.toList)) = !atomC (c.val : Int) := by decide +kernel
theorem sign_atom {c : Nat} (h : (c : Int) < 128) : (!decide (c ∈ lawSigns.cps.toList)) = !atomC (c : Int) := sign_atom_small ⟨c, by omega⟩
theorem sign_in {c : Nat} (h : (!decide (c ∈ lawSigns.cps.toList)) = false) : atomC (c : Int) = true := by
  rcases Nat.lt_or_ge c 128 with hc | hc
  · rw [sign_atom (by omega)] at h
    simpa using h
  · exfalso
    have h1 : c ∈ lawSigns.cps.toList := by simpa using h
    have h2 := List.all_eq_true.1 (show lawSigns.cps.toList.all (fun c => decide (c < 128)) = true by decide +kernel) c h1
    have h3 := of_decide_eq_true h2
    omega
theorem sign_big {c : Nat} (h : ¬ (c : Int) < 128) : atomC (c : Int) = true := by
  unfold atomC
  have : decide (127 < (c : Int)) = true := decide_eq_true (by omega)
  rw [this]
  simp
theorem str_empty {x : Str} (h : (x != Str.ofString "") = false) : codes x = [] := by
  have : x = Str.ofString "" := by simpa using h
  rw [this]
  rfl
theorem str_some {x : Str} (h : (x != Str.ofString "") = true) : (codes x).isEmpty = false := by
  have h1 : x ≠ Str.ofString "" := by simpa using h
  cases e : codes x with
  | cons => rfl
  | nil =>
    exfalso
    apply h1
    unfold codes at e
    have e2 : x.cps.toList = [] := by simpa using e
    obtain ⟨cps⟩ := x
    have e3 : cps = #[] := by simpa using e2
    rw [e3]
    rfl
theorem codes_next {x : Str} {i c : Nat} (h : x.cps[i]? = some c) : (codes x).take (i + 1) = (codes x).take i ++ [(c : Int)] := by
  have hi : i < x.cps.size := by
    rcases Nat.lt_or_ge i x.cps.size with h1 | h1
    · exact h1
    · rw [Array.getElem?_eq_none h1] at h; cases h
  obtain ⟨c', h1, h2⟩ := codes_at hi
  rw [h] at h1
  rw [List.take_add_one, h2, ← Option.some.inj h1]
  rfl
section
set_option maxHeartbeats 8000000 in
theorem law_is_atom_ok (w : World) (x : Str) (tx : Tok) (news : List (Addr × Obj)) (hz : x.cps.size ≤ 100) :
    Tell w 186 4 50 [.str x tx] news (fun v n => n = news ∧ v = .bool (atomW (codes x))) False := by
  k_with_none
  k_with "call builtin:ord" => (k_here; (with_reducible show wpAny _ _ (call (Value.builtin _) [Value.str _ _]) _ _ _); k_dflt (refine PySem.P.ord_of_char ?_))
  k_with "compareOp NotIn str str" => (k_here; k_dflt (refine PySem.P.notIn_str ?_); rw [PySem.StrLaws.found_one])
  k_with "eval ListComp" => (k_here; k_dflt (refine ListComp_strT (F₀ := by k_asm) (by with_unfolding_all rfl) (by decide) (by rfl) (by decide) (by rfl) ?_))
  k_with "CompStrT" => (k_here; k_dflt (refine CompStrT.intro (by rfl) (by k_asm) (by k_asm) (by rw [sizeLine_eq]; omega) ?_); intro g'; refine AtStop.of ?_)
  k_with "CompEnd" => (refine AtStop.of ?_)
  k_with "compareOp Eq ref ref" => (k_here; refine AtStop.of ?_)
  w_top off
  unfold Tell
  intro mean mg mb dp un gd cn cs a ccd cl outer A₀ base h₀ L m s Q E B F X N T hkk hd hu hret hexc
  refine wpAny_call ?_
  k_dflt cell_enter
  k_steps
  · unfold AtStop
    rename (_ != _) = true => hne
    refine restT_ind (fun i ys n => news = n ∧ ys.isEmpty = ((codes x).take i).all atomC) ?_ ?_ _ _ _ _ (Nat.zero_add _) ⟨rfl, rfl⟩
    · intro ys n hY
      apply eq_and_elim hY
      clear hY
      intro hys
      rw [← codes_len, List.take_length] at hys
      intro D2 h3 tk3 F3 N3 O3
      k_steps
      unfold AtStop
      rename News _ _ _ _ => N5
      refine eq_nil N5 (.tail _ (.head _)) (.head _) (by ktr_units) ?_
      k_steps
      rename News _ _ _ _ => N6
      rename Fr _ _ _ _ => F6
      exact hret _ _ _ _ ⟨rfl, congrArg Value.bool (by unfold atomW; rw [str_some hne, hys]; rfl)⟩ F6 (fun p hp => N6 p (.tail _ (.tail _ hp)))
    · intro i ys n hi hY
      apply eq_and_elim hY
      clear hY
      intro hys v I oI C oC D2 m₂ h tk E' hP
      apply sign_elim hP
      clear hP
      intro c u2 hc hC hx F3 N3 off ne
      have hat := codes_next hc
      k_steps
      · unfold AtStop
        rename c ∈ _ => hm
        have ha : atomC (c : Int) = true := sign_in (by rw [Bool.not_eq_false', decide_eq_true_eq]; exact hm)
        exact LCg.CompEnd.intro F3 N3 _ (fun p hp => hp) off trivial ⟨rfl, by rw [hat, List.all_append, hys]; simp [ha]⟩
      · unfold AtStop
        rename (c : Int) < 128 => hlt
        rename ¬ _ => hm
        have ha : atomC (c : Int) = false := by
          have := sign_atom hlt
          rw [show decide (c ∈ lawSigns.cps.toList) = false from decide_eq_false hm] at this
          simpa using this.symm
        exact LCg.CompEnd.intro F3 N3 _ (fun p hp => hp) off trivial ⟨rfl, by rw [hat, List.all_append]; simp [ha]⟩
      · unfold AtStop
        rename ¬ (c : Int) < 128 => hge
        have ha : atomC (c : Int) = true := sign_big hge
        exact LCg.CompEnd.intro F3 N3 _ (fun p hp => hp) off trivial ⟨rfl, by rw [hat, List.all_append, hys]; simp [ha]⟩
  · rename News _ _ _ _ => N6
    rename Fr _ _ _ _ => F6
    rename (_ != _) = false => hne
    exact hret _ _ _ _ ⟨rfl, congrArg Value.bool (by rw [hne, str_empty hne]; rfl)⟩ F6 N6
end
end Mine
end

section
/-! part Nz16 -/
open PySem PySem.W PyProof.Rows PySem.Builtin
namespace Mine
set_option maxRecDepth 100000

theorem nat_is (c n : Nat) : c = n ↔ (c : Int) = (n : Int) := Int.ofNat_inj.symm
theorem quote_mem (c : Nat) : c ∈ (Str.ofString "\"\\").cps.toList ↔ ((c : Int) = 34 ∨ (c : Int) = 92) := by
  have e : (Str.ofString "\"\\").cps.toList = [34, 92] := by decide +kernel
  rw [e]
  simp only [List.mem_cons, List.not_mem_nil, or_false]
  exact or_congr (nat_is c 34) (nat_is c 92)
theorem quote_yes {xs : List Int} {c : Nat} {k : UInt8} (h : c ∈ (Str.ofString "\"\\").cps.toList) (hk : ((k.toNat : Nat) : Int) = c) :
    34 :: escs xs ++ List.map (fun c : UInt8 => (c.toNat : Int)) [92] ++ List.map (fun c : UInt8 => (c.toNat : Int)) [k] = 34 :: escs (xs ++ [(c : Int)]) := by
  rw [escs_snoc, if_pos ((quote_mem c).1 h)]
  simp [hk]
theorem quote_no {xs : List Int} {c : Nat} {k : UInt8} (h : ¬ c ∈ (Str.ofString "\"\\").cps.toList) (hk : ((k.toNat : Nat) : Int) = c) :
    34 :: escs xs ++ List.map (fun c : UInt8 => (c.toNat : Int)) [] ++ List.map (fun c : UInt8 => (c.toNat : Int)) [k] = 34 :: escs (xs ++ [(c : Int)]) := by
  rw [escs_snoc, if_neg (fun e => h ((quote_mem c).2 e))]
  simp [hk]
section
set_option maxHeartbeats 8000000 in
theorem law_quoted_ok (w : World) (x : Str) (tx : Tok) (news : List (Addr × Obj)) (hz : x.cps.size ≤ 100) (hb : ∀ c ∈ codes x, c ≤ 255) :
    Tell w 193 4 50 [.str x tx] news (fun v n => n = news ∧ ∃ b t, v = .bytes b t ∧ KBw.bInts b = 34 :: (escs (codes x) ++ [34])) False := by
  k_with_none
  k_with "exec For Name Name cons nil" => (k_here; (rename Fr _ _ _ _ => lF'); (with_unfolding_all refine' For_turns lF' ?_); k_whole)
  k_with "pyIter str" => (k_here; refine AtStop.of ?_)
  k_with "ItEnd" => (refine AtStop.of ?_)
  k_with "ItPost" => (dsimp only [ItPost])
  k_with "call builtin:ord" => (k_here; (with_reducible show wpAny _ _ (call (Value.builtin _) [Value.str _ _]) _ _ _); k_dflt (refine PySem.P.ord_of_char ?_))
  k_with "compareOp In str str" => (k_here; k_dflt (refine PySem.P.in_str ?_); rw [PySem.StrLaws.found_one])
  k_with "binaryOp Add bytes bytes" => (k_here; (with_reducible show wpAny _ _ (binaryOp Operator.Add (Value.bytes _ _) (Value.bytes _ _)) _ _ _); k_dflt (refine KBa.add_K (by first | assumption | exact rfl) (by first | assumption | exact rfl) (by ((try simp only [List.length_cons, List.length_append, List.length_nil]); omega)) ?_); intro _ _ kbaApp)
  w_top off
  unfold Tell
  intro mean mg mb dp un gd cn cs a ccd cl outer A₀ base h₀ L m s Q E B F X N T hkk hd hu hret hexc
  refine wpAny_call ?_
  k_dflt cell_enter
  k_steps
  unfold AtStop
  rename News _ _ _ _ => N1
  rename Fr _ _ _ _ => F1
  refine iter_strTurns (by rfl) F1 N1 ?_
  intro I ty hI
  refine' items_state (σ := Array UInt8 × Tok) (fun c => news) (fun c => [("found", .bytes c.1 c.2)]) ["sign"] (fun i c => KBw.bInts c.1 = 34 :: escs ((codes x).take i)) (#[34], ?tk0) ?hk ?hp ?fin ?turn
  case hk => kst_all
  case hp => exact rfl
  case fin =>
    refine two_elim ?_
    intro b t9 u h9 tk9 hp F9 N9
    dsimp only [kstB] at hp F9 N9 ⊢
    rw [List.length_map, Array.length_toList, ← codes_len, List.take_length] at hp
    have hlen := escs_len (codes x)
    rw [codes_len] at hlen
    k_steps
    rename News _ _ _ _ => N6
    rename Fr _ _ _ _ => F6
    rename KBw.bInts (_ ++ _) = _ => hb6
    exact hret _ _ _ _ ⟨rfl, _, _, rfl, hb6⟩ F6 N6
  case turn =>
    intro i a9
    refine two_elim ?_
    intro b t9 u v h9 tk9 o ha hp hv F9 ho N9
    dsimp only [kstB] at hp F9 N9 ⊢
    have mark9 := True.intro
    have hil : i < x.cps.size := by
      rcases Nat.lt_or_ge i x.cps.size with h | h
      · exact h
      · rw [List.getElem?_eq_none (by simpa using h)] at ha; cases ha
    refine codes_elim hil ?_
    intro c hc hk
    have e9 : a9 = .tok fun u => .str ⟨#[c]⟩ u := by
      rw [List.getElem?_map, Array.getElem?_toList, hc] at ha
      exact (Option.some.inj ha).symm
    subst e9
    obtain ⟨t8, rfl⟩ := hv
    have hc255 := hb _ (List.mem_of_getElem? hk)
    have hc0 : 0 ≤ (c : Int) := Int.natCast_nonneg c
    have hlen := escs_len ((codes x).take i)
    rw [List.length_take, codes_len] at hlen
    replace hlen : (escs ((codes x).take i)).length ≤ 200 := Nat.le_trans hlen (Nat.mul_le_mul_left 2 (Nat.le_trans (Nat.min_le_right _ _) hz))
    have hcn := codes_next hc
    k_steps
    all_goals unfold AtStop
    · rename News _ _ _ _ => N5
      rename Fr _ _ _ _ => F5
      rename KBw.bInts (_ ++ _) = _ => hb6
      rename c ∈ _ => hm
      rename _ = (c : Int) => hk6
      exact ItEnd.intro (_, _) F5 N5 (fun p hp => .tail _ hp) (fun p hp => Nat.ne_of_lt (hI p hp)) trivial (by kst_all) (by ksw_same) (by rw [hcn]; exact hb6.trans (quote_yes hm hk6))
    · rename News _ _ _ _ => N5
      rename Fr _ _ _ _ => F5
      rename KBw.bInts (_ ++ _) = _ => hb6
      rename ¬ _ => hm
      rename _ = (c : Int) => hk6
      exact ItEnd.intro (_, _) F5 N5 (fun p hp => .tail _ hp) (fun p hp => Nat.ne_of_lt (hI p hp)) trivial (by kst_all) (by ksw_same) (by rw [hcn]; exact hb6.trans (quote_no hm hk6))
end
end Mine
end

section
/-! part Nz06 -/
open PySem PySem.W PyProof.Rows
namespace Mine
set_option maxRecDepth 100000

noncomputable def whiteC (c : Int) : Bool := decide (c = 9 ∨ c = 32)
noncomputable def whiteRun (ks : List Int) (n : Nat) : List Int := (ks.drop n).takeWhile whiteC
theorem whites_len {ks : List Int} {n : Nat} (h : n ≤ ks.length) : n + (whiteRun ks n).length ≤ ks.length := by
  have := takeWhile_len (l := ks.drop n) (p := whiteC)
  rw [List.length_drop] at this
  unfold whiteRun
  omega
theorem whites_at {ks : List Int} {n k : Nat} (h : k < (whiteRun ks n).length) : n + k < ks.length ∧ (ks.getD (n + k) 0 = 9 ∨ ks.getD (n + k) 0 = 32) := by
  have := takeWhile_get h
  rw [List.length_drop, getD_dropn] at this
  exact ⟨by omega, of_decide_eq_true this.2⟩
theorem whites_stop {ks : List Int} {n : Nat} (h : n + (whiteRun ks n).length < ks.length) : ks.getD (n + (whiteRun ks n).length) 0 ≠ 9 ∧ ks.getD (n + (whiteRun ks n).length) 0 ≠ 32 := by
  have := takeWhile_stop (p := whiteC) (l := ks.drop n) (by rw [List.length_drop]; unfold whiteRun at h; omega)
  rw [getD_dropn] at this
  have h2 := of_decide_eq_false this
  exact ⟨fun e => h2 (.inl e), fun e => h2 (.inr e)⟩

theorem any_white (c : Int) : ([9, 32].any fun x => x == c) = decide (c = 9 ∨ c = 32) := by
  rw [Bool.eq_iff_iff]
  simp only [List.any_cons, List.any_nil, Bool.or_false, Bool.or_eq_true, beq_iff_eq, decide_eq_true_eq]
  exact ⟨Or.imp Eq.symm Eq.symm, Or.imp Eq.symm Eq.symm⟩
section
set_option maxHeartbeats 8000000 in
theorem past_white_ok (w : World) (b : Array UInt8) (tb : Tok) (ks : List Int) (i : Int) (n : Nat) (ti : Tok) (news : List (Addr × Obj)) (hk : KBw.bInts b = ks) (hz : ks.length ≤ 1000) (hi : i = n) (hn : n ≤ ks.length)
    (hno : ∀ k ∈ ks, k ≠ 10 ∧ k ≠ 13) :
    Tell w 118 4 50 [.bytes b tb, .int i ti] news (fun v n' => n' = news ∧ ∃ t, v = .int (n + (whiteRun ks n).length : Nat) t) False := by
  k_with_none
  k_with "call ref" => (k_here; (with_reducible show wpAny _ _ (call (Value.ref 76) [Value.bytes _ _, Value.int _ _]) _ _ _); k_dflt (refine' tell_use (line_end_ok _ _ _ _ _ _ _ (by assumption) (by assumption) (by omega) (by omega) (by assumption)) (by k_asm) (by k_asm) (by k_asm) (by k_asm) (by k_asm) (by first | exact rfl | assumption) (by ktr_room) (by ktr_units) ?_ (fun hx => hx.elim)); intro v' n' h' tk' hv'; apply int_elim hv'; clear hv'; intro t' F' N')
  k_with "KswEnd" => (refine AtStop.of ?_)
  k_with "exec While Compare" => (k_here; refine AtStop.of ?_)
  k_with "exec While Compare cons nil" => (k_here; refine AtStop.of ?_)
  w_top off
  unfold Tell
  intro mean mg mb dp un gd cn cs a ccd cl outer A₀ base h₀ L m s Q E B F X N T hkk hd hu hret hexc
  subst hi
  refine wpAny_call ?_
  k_dflt cell_enter
  k_steps
  unfold AtStop
  rename Fr _ _ _ _ => F1
  rename News _ _ _ _ => N1
  have hrl := whites_len hn
  have hrun := fun k => @whites_at ks n k
  have hstop := @whites_stop ks n
  generalize hR : whiteRun ks n = R at *
  refine' ksw_while (σ := Nat × Tok) (fun c => news) (fun c => [("at", .int (n + c.1 : Nat) c.2)]) (fun _ => True) ["behind"]
    (fun c => c.1 ≤ R.length) (fun c => R.length - c.1) (0, ?tk0) F1 N1 trivial ?hk ?hp ?turn
  case hk => kst_all
  case hp => exact Nat.zero_le _
  refine two_elim ?_
  intro k t9 u h9 tk9 hz9
  clear hz9
  intro hle F9 N9
  dsimp only [kstB] at hle F9 N9 ⊢
  rcases Nat.lt_or_ge k R.length with hlt | hge
  · refine two_facts (hrun k hlt) ?_
    intro e1 e2
    generalize hp : n + k = p at *
    k_steps
    · unfold AtStop
      rename Fr _ _ _ _ => F5
      rename News _ _ _ _ => N5
      rw [show (p : Int) + 1 = (n + (k + 1) : Nat) by omega] at F5
      refine ksw_end (k + 1, _) F5 N5 (fun _ h => .tail _ h) trivial (by kst_all) (by ksw_same) hlt ?_
      show R.length - (k + 1) < R.length - k
      omega
    · exfalso
      rename List.any _ _ = false => h
      rw [Int.toNat_natCast, any_white] at h
      exact of_decide_eq_false h e2
  · have hkn : k = R.length := by omega
    subst hkn
    have e4 : ks.length ≤ n + R.length ∨ (ks.getD (n + R.length) 0 ≠ 9 ∧ ks.getD (n + R.length) 0 ≠ 32) := by
      rcases Nat.lt_or_ge (n + R.length) ks.length with h | h
      · exact .inr (hstop h)
      · exact .inl h
    generalize hp : n + R.length = p at *
    k_steps
    all_goals try
      rename News _ _ _ _ => N5
      rename Fr _ _ _ _ => F5
      first
        | exact hret _ _ _ _ ⟨rfl, _, rfl⟩ F5 N5
        | exact hret _ _ _ _ ⟨rfl, _, rfl⟩ F5 (fun p hp => N5 p (.tail _ hp))
    exfalso
    rename List.any _ _ = true => h
    rw [Int.toNat_natCast, any_white] at h
    have := of_decide_eq_true h
    omega
end
end Mine
end

section
/-! part Nz07 -/
open PySem PySem.W PyProof.Rows PySem.Builtin
namespace Mine
set_option maxRecDepth 100000

theorem ints_extract (b : Array UInt8) (i j : Nat) : KBw.bInts (b.extract i j) = ((KBw.bInts b).drop i).take (j - i) := by
  unfold KBw.bInts
  rw [Array.toList_extract, List.extract_eq_take_drop, List.map_take, List.map_drop]
theorem find_none {b c : Array UInt8} {k : Int} (hc : KBw.bInts c = [k]) (h : k ∉ KBw.bInts b) : (Bytes.find? b c 0 b.size).isSome = false := by
  unfold Bytes.find?
  rw [Option.isSome_eq_false_iff, Option.isNone_iff_eq_none, List.find?_eq_none]
  intro i _ e
  have e2 := eq_of_beq e
  have e3 := ints_extract b i (i + c.size)
  rw [e2, hc] at e3
  exact h (mem_cut e3.symm)
theorem sign_no {x : Array UInt8} {ks : List Int} {p : Nat} (h : KBw.bInts x = List.take (clipAt ks.length ((p : Int) + 1) - min p ks.length) (List.drop (min p ks.length) ks)) (hp : p < ks.length) (ha : atomC (ks.getD p 0) = true) :
    (Bytes.find? #[60, 62, 64, 44, 59, 58, 46, 92] x 0 (#[60, 62, 64, 44, 59, 58, 46, 92] : Array UInt8).size).isSome = false := by
  rw [cut_nat hp] at h
  refine find_none h fun hm => ?_
  have e : KBw.bInts #[60, 62, 64, 44, 59, 58, 46, 92] = [60, 62, 64, 44, 59, 58, 46, 92] := by rfl
  rw [e] at hm
  generalize ks.getD p 0 = c at *
  have := List.all_eq_true.1 (show ([60, 62, 64, 44, 59, 58, 46, 92] : List Int).all (fun c => !atomC c) = true by decide) c hm
  simp [ha] at this
theorem eq_absurd {x y : Array UInt8} {ks : List Int} {p : Nat} {c : Int} (h : KBw.bInts x = List.take (clipAt ks.length ((p : Int) + 1) - min p ks.length) (List.drop (min p ks.length) ks)) (a : (x.toList == y.toList) = true) (hp : p < ks.length) (hy : KBw.bInts y = [c]) (h2 : ks.getD p 0 ≠ c) : False := by
  rw [cut_nat hp, eq_ints a, hy] at h
  exact h2 (List.cons.inj h).1.symm

theorem cut0 {c : Int} {r : List Int} : List.take (clipAt (c :: r).length (0 + 1) - clipAt (c :: r).length 0) (List.drop (clipAt (c :: r).length 0) (c :: r)) = [c] := by
  rw [clip_in (by omega) (by rw [List.length_cons]; omega), clip_in (by omega) (by omega)]
  rfl
theorem quote_absurd {x y : Array UInt8} {c : Int} {r : List Int} (h : KBw.bInts x = List.take (clipAt (c :: r).length (0 + 1) - clipAt (c :: r).length 0) (List.drop (clipAt (c :: r).length 0) (c :: r))) (a : (x.toList == y.toList) = false) (hy : KBw.bInts y = [c]) : False := by
  rw [cut0, ← hy] at h
  rw [ints_of h] at a
  simp at a
theorem drop3_news {h₀ h : Heap} {L : Addr} {x y z : Addr × Obj} {r : List (Addr × Obj)} (N : News h₀ L h (x :: y :: z :: r)) : News h₀ L h (x :: y :: r) := fun p hp => by
  rcases List.mem_cons.1 hp with rfl | hp
  · exact N _ (.head _)
  rcases List.mem_cons.1 hp with rfl | hp
  · exact N _ (.tail _ (.head _))
  · exact N p (.tail _ (.tail _ (.tail _ hp)))

/-- a token that a def made and hands back, with the place behind it -/
noncomputable def TokBack (news : List (Addr × Obj)) (kind : Str) (ks : List Int) (at' behind : Int) (v : Value) (n : List (Addr × Obj)) : Prop :=
  ∃ (d d2 : Addr) (b : Array UInt8) (t u x y : Tok), v = .ref d ∧ KBw.bInts b = ks ∧ n = (d, ({ cls := .type "tuple", data := .seq #[.ref d2, .int behind y] } : Obj)) :: (d2, ({ cls := .type "tuple", data := .seq #[.str kind x, .bytes b t, .int at' u] } : Obj)) :: news ∧ d2 < d ∧ ∀ p ∈ news, p.1 < d2
theorem TokBack.elim {news n : List (Addr × Obj)} {kind : Str} {ks : List Int} {at' behind : Int} {v : Value} {G : Value → List (Addr × Obj) → Prop} (h : TokBack news kind ks at' behind v n)
    (k : ∀ d d2 b t u x y, KBw.bInts b = ks → d2 < d → (∀ p ∈ news, p.1 < d2) → G (.ref d) ((d, { cls := .type "tuple", data := .seq #[.ref d2, .int behind y] }) :: (d2, { cls := .type "tuple", data := .seq #[.str kind x, .bytes b t, .int at' u] }) :: news)) : G v n := by
  obtain ⟨d, d2, b, t, u, x, y, rfl, hb, rfl, h1, h2⟩ := h
  exact k d d2 b t u x y hb h1 h2

section
set_option maxHeartbeats 8000000 in
theorem token_atom_ok (w : World) (b : Array UInt8) (tb : Tok) (ks : List Int) (i : Int) (n : Nat) (ti : Tok) (news : List (Addr × Obj)) (hk : KBw.bInts b = ks) (hz : ks.length ≤ 1000) (hi : i = n) (hn : n < ks.length) (ha : atomC (ks.getD n 0) = true) :
    Tell w 111 6 60 [.bytes b tb, .int i ti] news (TokBack news "atom" (atomRun ks n) n (n + (atomRun ks n).length : Nat)) False := by
  k_with_none
  k_with "compareOp In bytes bytes" => (k_here; k_dflt (refine' in_bytes_bytes (by k_asm) (by k_asm) (by exact rfl) ?_); intro h' tk' F' N'; rw [sign_no (by assumption) (by assumption) (by assumption)])
  k_with "call ref" => (exfalso; exact eq_absurd (by assumption) (by assumption) (by assumption) (by rfl) (by assumption))
  k_with "call ref" => (k_here; (with_reducible show wpAny _ _ (call (Value.ref 69) [Value.int _ _]) _ _ _); k_dflt (refine' tell_use (is_atom_code_ok _ _ _ _ (by omega) (by omega)) (by k_asm) (by k_asm) (by k_asm) (by k_asm) (by k_asm) (by first | exact rfl | assumption) (by ktr_room) (by ktr_units) ?_ (fun hx => hx.elim)); intro v' n' h' tk' hv'; apply bool_elim hv'; clear hv'; intro F' N')
  k_with "call ref" => (k_here; (with_reducible show wpAny _ _ (call (Value.ref 104) [Value.bytes _ _, Value.int _ _]) _ _ _); k_dflt (refine' tell_use (atom_at_ok _ _ _ _ _ _ _ _ (by assumption) (by omega) rfl (by omega)) (by k_asm) (by k_asm) (by k_asm) (by k_asm) (by k_asm) (by first | exact rfl | assumption) (by ktr_room) (by ktr_units) ?_ (fun hx => hx.elim)); intro v' n' h' tk' hv'; apply PairBack.elim hv'; clear hv'; intro d' b' t1' t2' hb' hl' F' N')
  k_with "exec Raise some none" => (exfalso; simp_all; done)
  w_top off
  unfold Tell
  intro mean mg mb dp un gd cn cs a ccd cl outer A₀ base h₀ L m s Q E B F X N T hkk hd hu hret hexc
  subst hi
  have hn1 : ks.getD n 0 ≠ 34 := by intro e; rw [e] at ha; revert ha; decide
  have hn2 : ks.getD n 0 ≠ 91 := by intro e; rw [e] at ha; revert ha; decide
  have hn3 : ks.getD n 0 ≠ 40 := by intro e; rw [e] at ha; revert ha; decide
  refine wpAny_call ?_
  k_dflt cell_enter
  have mark9 := True.intro
  k_steps
  rename News _ _ _ _ => N5
  rename Fr _ _ _ _ => F5
  rename _ ∧ _ ∧ AllLt _ _ => l2
  rename _ ∧ AllLt _ _ => l3
  rename KBw.bInts _ = atomRun _ _ => hb5
  exact hret _ _ _ _ ⟨_, _, _, _, _, _, _, rfl, hb5, rfl, l2.1, allLt_mem l3.2⟩ F5 (drop3_news N5)
end
section
set_option maxHeartbeats 8000000 in
theorem token_quoted_ok (w : World) (b : Array UInt8) (tb : Tok) (xs : List Int) (i : Int) (ti : Tok) (news : List (Addr × Obj)) (hk : KBw.bInts b = 34 :: (escs xs ++ [34])) (hz : xs.length ≤ 100)
    (hno : ∀ k ∈ xs, k ≠ 0 ∧ k ≠ 10 ∧ k ≠ 13) (hi : i = 0) :
    Tell w 111 8 80 [.bytes b tb, .int i ti] news (TokBack news "quoted" xs 0 ((escs xs).length + 2)) False := by
  k_with_none
  k_with "call ref" => (k_here; (with_reducible show wpAny _ _ (call (Value.ref 90) [Value.bytes _ _, Value.int _ _, Value.bytes _ _, Value.bytes _ _]) _ _ _); k_dflt (refine' tell_use (closed_at_ok _ _ _ _ _ _ _ _ (by assumption) (by omega) (by assumption)) (by k_asm) (by k_asm) (by k_asm) (by k_asm) (by k_asm) (by first | exact rfl | assumption) (by ktr_room) (by ktr_units) ?_ (fun hx => hx.elim)); intro v' n' h' tk' hv'; apply PairBack.elim hv'; clear hv'; intro d' b' t1' t2' hb' hl' F' N')
  w_top off
  unfold Tell
  intro mean mg mb dp un gd cn cs a ccd cl outer A₀ base h₀ L m s Q E B F X N T hkk hd hu hret hexc
  subst hi
  obtain ⟨ks, hks⟩ : ∃ ks, ks = 34 :: (escs xs ++ [34]) := ⟨_, rfl⟩
  have hlen := escs_len xs
  have hkl : ks.length = (escs xs).length + 2 := by rw [hks]; simp
  have hk0 : ks.getD 0 0 = 34 := by rw [hks]; rfl
  have hk' := hk
  rw [← hks] at hk
  refine wpAny_call ?_
  k_dflt cell_enter
  have mark9 := True.intro
  k_steps
  · rename News _ _ _ _ => N5
    rename Fr _ _ _ _ => F5
    rename _ ∧ _ ∧ AllLt _ _ => l2
    rename _ ∧ AllLt _ _ => l3
    rename KBw.bInts _ = xs => hb5
    exact hret _ _ _ _ ⟨_, _, _, _, _, _, _, rfl, hb5, rfl, l2.1, allLt_mem l3.2⟩ F5 (drop3_news N5)
  all_goals exact (quote_absurd (y := #[34]) (by assumption) (by assumption) (by rfl)).elim
end
end Mine
end

section
/-! part Nz08 -/
open PySem PySem.W PyProof.Rows PySem.Builtin
namespace Mine
set_option maxRecDepth 100000

/-- tokens that a list on the ledger holds -/
inductive TokAre : List Value → List (Str × List Int × Int) → List (Addr × Obj) → Prop where
  | nil : TokAre [] [] []
  | snoc (d : Addr) (kind : Str) (b : Array UInt8) (at' : Int) (x t u : Tok) {vs : List Value} {ts : List (Str × List Int × Int)} {led : List (Addr × Obj)} : TokAre vs ts led →
      TokAre (vs ++ [.ref d]) (ts ++ [(kind, KBw.bInts b, at')]) ((d, ({ cls := .type "tuple", data := .seq #[.str kind x, .bytes b t, .int at' u] } : Obj)) :: led)
theorem TokAre.len {vs : List Value} {ts : List (Str × List Int × Int)} {led : List (Addr × Obj)} (h : TokAre vs ts led) : vs.length = ts.length := by
  induction h with
  | nil => rfl
  | snoc d kind b at' x t u _ ih => simp [ih]

noncomputable def TokHere (w : World) (b : Array UInt8) (tb : Tok) (q : Nat) (kind : Str) (xs : List Int) (behind : Nat) : Prop :=
  ∀ (ti : Tok) (news : List (Addr × Obj)), Tell w 111 8 80 [.bytes b tb, .int (q : Nat) ti] news (TokBack news kind xs (q : Nat) (behind : Nat)) False
theorem TokHere.use {w : World} {b : Array UInt8} {tb : Tok} {q : Nat} {kind : Str} {xs : List Int} {behind : Nat} (h : TokHere w b tb q kind xs behind) (ti : Tok) (news : List (Addr × Obj)) :
    Tell w 111 8 80 [.bytes b tb, .int (q : Nat) ti] news (TokBack news kind xs (q : Nat) (behind : Nat)) False := h ti news
/-- the scan's steps, as its parts tell them -/
inductive Scan (w : World) (b : Array UInt8) (tb : Tok) (ks : List Int) : Nat → List (Str × List Int × Int) → Prop where
  | done (p : Nat) : p ≤ ks.length → p + (whiteRun ks p).length = ks.length → Scan w b tb ks p []
  | step (p : Nat) (kind : Str) (xs : List Int) (behind : Nat) {rest : List (Str × List Int × Int)} : p ≤ ks.length → p + (whiteRun ks p).length < ks.length → behind ≤ ks.length →
      TokHere w b tb (p + (whiteRun ks p).length) kind xs behind →
      Scan w b tb ks behind rest → Scan w b tb ks p ((kind, xs, ((p + (whiteRun ks p).length : Nat) : Int)) :: rest)
theorem Scan.le {w : World} {b : Array UInt8} {tb : Tok} {ks : List Int} {p : Nat} {ts : List (Str × List Int × Int)} (h : Scan w b tb ks p ts) : p ≤ ks.length := by
  cases h <;> assumption

/-- the list of tokens that a def made and hands back -/
noncomputable def ToksBack (news : List (Addr × Obj)) (ts : List (Str × List Int × Int)) (v : Value) (n : List (Addr × Obj)) : Prop :=
  ∃ (D : Addr) (vs : List Value) (nn : Nat) (led : List (Addr × Obj)), v = .ref D ∧ n = led ++ (D, listOf vs.toArray nn) :: news ∧ TokAre vs ts led ∧ (∀ p ∈ news, p.1 < D) ∧ ∀ p ∈ led, D < p.1
theorem upd_app {D : Addr} {o₁ o₂ : Obj} {news : List (Addr × Obj)} : ∀ {pre : List (Addr × Obj)}, (∀ p ∈ pre, p.1 ≠ D) → (∀ p ∈ news, p.1 ≠ D) → Upd D o₁ o₂ (pre ++ (D, o₁) :: news) (pre ++ (D, o₂) :: news)
  | [], _, h => .head h
  | p :: _, h1, h2 => .tail (h1 p (.head _)) (upd_app (fun q hq => h1 q (.tail _ hq)) h2)
theorem upd_tok {d d2 D : Addr} {oa ob o₁ o₂ : Obj} {led news : List (Addr × Obj)} (h1 : d2 < d) (h2 : ∀ p ∈ led ++ (D, o₁) :: news, p.1 < d2) (h3 : ∀ p ∈ led, D < p.1) (h4 : ∀ p ∈ news, p.1 < D) :
    Upd D o₁ o₂ ((d, oa) :: (d2, ob) :: (led ++ (D, o₁) :: news)) ((d, oa) :: (d2, ob) :: (led ++ (D, o₂) :: news)) := by
  have hD : D < d2 := h2 (D, o₁) (List.mem_append_right _ (.head _))
  exact .tail (Nat.ne_of_gt (Nat.lt_trans hD h1)) (.tail (Nat.ne_of_gt hD) (upd_app (fun p hp => Nat.ne_of_gt (h3 p hp)) (all_ne h4)))

theorem app_method {M : Model} {A : Around} {E : Value → Shared → Prop} {s : Shared} {h₀ : Heap} {L D : Addr} {news : List (Addr × Obj)} {vs : Array Value} {n : Nat} {pl : Sem Bool} {Q : Value × List Value → Shared → Prop} (N : News h₀ L s.heap news) (hm : (D, listOf vs n) ∈ news)
    (h : Q (.builtin "list.append", [.ref D]) s) : wpAny M A (getMethod (.ref D) "append" pl) Q E s := PySem.Calls.getMethod_list_append (N _ hm).1 rfl rfl h

section
set_option maxHeartbeats 8000000 in
theorem tokens_of_ok (w : World) (b : Array UInt8) (tb : Tok) (ks : List Int) (ts : List (Str × List Int × Int)) (news : List (Addr × Obj)) (hk : KBw.bInts b = ks) (hz : ks.length ≤ 1000) (hts : ts.length ≤ 100)
    (hno : ∀ k ∈ ks, k ≠ 10 ∧ k ≠ 13) (hS : Scan w b tb ks 0 ts) :
    Tell w 125 10 100 [.bytes b tb] news (ToksBack news ts) False := by
  k_with_none
  k_with "getMethod ref" => (k_here; (with_reducible show wpAny _ _ (getMethod (Value.ref _) (PySem.Str.ofString "append") _) _ _ _); refine' app_method (by assumption) (by exact .tail _ (.tail _ (List.mem_append_right _ (.head _)))) ?_)
  k_with "call ref" => (k_here; (with_reducible show wpAny _ _ (call (Value.ref 118) [Value.bytes _ _, Value.int _ _]) _ _ _); k_dflt (refine' tell_use (past_white_ok _ _ _ _ _ _ _ _ (by assumption) (by omega) (by exact rfl) (by first | assumption | exact Nat.zero_le _) (by assumption)) (by k_asm) (by k_asm) (by k_asm) (by k_asm) (by k_asm) (by first | exact rfl | assumption) (by ktr_room) (by ktr_units) ?_ (fun hx => hx.elim)); intro v' n' h' tk' hv'; apply int_elim hv'; clear hv'; intro t' F' N')
  k_with "call ref" => (k_here; (with_reducible show wpAny _ _ (call (Value.ref 111) [Value.bytes _ _, Value.int _ _]) _ _ _); k_dflt (refine' tell_use (TokHere.use (by assumption) _ _) (by k_asm) (by k_asm) (by k_asm) (by k_asm) (by k_asm) (by first | exact rfl | assumption) (by ktr_room) (by ktr_units) ?_ (fun hx => hx.elim)); intro v' n' h' tk' hv'; apply TokBack.elim hv'; clear hv'; intro d' d2' b' t1' t2' t3' t4' hb' hl1' hl2' F' N')
  k_with "call builtin:list.append" => (k_here; (with_reducible show wpAny _ _ (call (Value.builtin _) [Value.ref _, _]) _ _ _); k_dflt (refine' append_K (by k_asm) (by k_asm) (by exact upd_tok (by assumption) (by assumption) (by assumption) (by assumption)) ?_ (by (rw [sizeLine_eq, List.size_toArray]; omega)); k_whole); intro h' F' N'; (try k_sweep))
  k_with "KswEnd" => (refine AtStop.of ?_)
  k_with "exec While Compare" => (k_here; refine AtStop.of ?_)
  k_with "exec While Compare cons nil" => (k_here; refine AtStop.of ?_)
  w_top off
  unfold Tell
  intro mean mg mb dp un gd cn cs a ccd cl outer A₀ base h₀ L m s Q E B F X N T hkk hd hu hret hexc
  refine wpAny_call ?_
  k_dflt cell_enter
  k_steps
  unfold AtStop
  rename_i D h1 hD h2 tk1 h4 F1 N1
  refine' ksw_while (σ := List (Str × List Int × Int) × List (Str × List Int × Int) × Nat × Tok × List Value × Nat × List (Addr × Obj)) (fun c => c.2.2.2.2.2.2 ++ (D, listOf c.2.2.2.2.1.toArray c.2.2.2.2.2.1) :: news) (fun c => [("found", .ref D), ("at", .int (c.2.2.1 + (whiteRun ks c.2.2.1).length : Nat) c.2.2.2.1)]) (fun _ => True) ["token"]
    (fun c => c.1 ++ c.2.1 = ts ∧ Scan w b tb ks c.2.2.1 c.2.1 ∧ TokAre c.2.2.2.2.1 c.1 c.2.2.2.2.2.2 ∧ ∀ p ∈ c.2.2.2.2.2.2, D < p.1) (fun c => c.2.1.length) ([], ts, 0, ?tk0, [], 0, []) F1 N1 trivial ?hk ?hp ?turn
  case hk => kst_all
  case hp => exact ⟨rfl, hS, .nil, fun _ h => nomatch h⟩
  refine seven_elim ?_
  intro dn rest p t9 vs nn led u h9 tk9 hz9 hp9
  clear hz9
  refine four_facts hp9 ?_
  clear hp9
  intro hts9 hS9 hT9 hled F9 N9
  dsimp only [kstB] at hts9 hS9 hT9 hled F9 N9 ⊢
  have hvl := hT9.len
  have hlen9 : dn.length + rest.length ≤ 100 := by rw [← List.length_append, hts9]; exact hts
  have hple := hS9.le
  cases hS9 with
  | done _ hp1 hp2 =>
    generalize hq : p + (whiteRun ks p).length = q at *
    have mark9 := True.intro
    k_steps
    rename News _ _ _ _ => N5
    rename Fr _ _ _ _ => F5
    rw [List.append_nil] at hts9
    subst hts9
    exact hret _ _ _ _ ⟨_, _, _, _, rfl, rfl, hT9, hD, hled⟩ F5 N5
  | step _ kind xs behind hp1 hp2 hb2 htok hrest =>
    generalize hq : p + (whiteRun ks p).length = q at *
    have hvl2 : vs.length ≤ 100 := by omega
    have mark9 := True.intro
    k_steps
    unfold AtStop
    rename News _ _ _ _ => N5
    rename Fr _ _ _ _ => F5
    rename KBw.bInts _ = _ => hb5
    subst hb5
    rename ∀ p ∈ led ++ _, _ => hl5
    simp only [List.push_toArray] at N5
    have hD2 := hl5 (D, _) (List.mem_append_right _ (.head _))
    refine ksw_end (dn ++ [(kind, _, (q : Int))], _, behind, _, vs ++ [_], nn + 1, (_, _) :: led) F5 N5 (fun p hp => .tail _ hp) trivial (by kst_all) (by ksw_same) ⟨?_, hrest, .snoc _ _ _ _ _ _ _ hT9, ?_⟩ ?_
    · rw [← hts9, List.append_assoc]; rfl
    · intro p hp
      rcases List.mem_cons.1 hp with rfl | hp
      · exact hD2
      · exact hled p hp
    · show List.length _ < List.length _
      simp
end
end Mine
end

section
/-! part Nz09 -/
open PySem PySem.W PyProof.Rows PySem.Builtin
open PyProof.Rows.LCg PyProof.Rows.LCt
namespace Mine
set_option maxRecDepth 100000

noncomputable def tokObj (kind : Str) (x : Tok) (b : Array UInt8) (t : Tok) (at' : Int) (u : Tok) : Obj := { cls := .type "tuple", data := .seq #[.str kind x, .bytes b t, .int at' u] }
/-- v is a token on the ledger -/
noncomputable def TokIn (news : List (Addr × Obj)) (v : Value) (k : Str × List Int × Int) : Prop :=
  ∃ (d : Addr) (x t u : Tok) (b : Array UInt8), v = .ref d ∧ (d, tokObj k.1 x b t k.2.2 u) ∈ news ∧ KBw.bInts b = k.2.1
theorem TokAre.at {vs : List Value} {ts : List (Str × List Int × Int)} {led : List (Addr × Obj)} (h : TokAre vs ts led) : ∀ {i : Nat} {v : Value}, vs[i]? = some v → ∃ k, ts[i]? = some k ∧ TokIn led v k := by
  induction h with
  | nil => intro i v h; simp at h
  | @snoc d kind b at' x t u vs ts led hp ih =>
    intro i v h
    rcases Nat.lt_or_ge i vs.length with hlt | hge
    · rw [List.getElem?_append_left hlt] at h
      obtain ⟨k, e, d', x', t', u', b', r1, r2, r3⟩ := ih h
      exact ⟨k, by rw [List.getElem?_append_left (by rw [← hp.len]; exact hlt)]; exact e, d', x', t', u', b', r1, .tail _ r2, r3⟩
    · rw [List.getElem?_append_right hge] at h
      have hi : i = vs.length := by
        rcases Nat.lt_or_ge vs.length i with h1 | h1
        · rw [show i - vs.length = (i - vs.length - 1) + 1 from (Nat.sub_one_add_one (Nat.sub_ne_zero_of_lt h1)).symm] at h
          simp at h
        · omega
      subst hi
      rw [Nat.sub_self] at h
      have hv : v = .ref d := by simpa using h.symm
      refine ⟨(kind, KBw.bInts b, at'), ?_, d, x, t, u, b, hv, .head _, rfl⟩
      rw [hp.len, List.getElem?_append_right (Nat.le_refl _), Nat.sub_self]
      rfl
theorem TokIn.mono {news news' : List (Addr × Obj)} {v : Value} {k : Str × List Int × Int} (h : TokIn news v k) (hs : ∀ p ∈ news, p ∈ news') : TokIn news' v k := by
  obtain ⟨d, x, t, u, b, r1, r2, r3⟩ := h
  exact ⟨d, x, t, u, b, r1, hs _ r2, r3⟩
theorem tok_elim {ts : List (Str × List Int × Int)} {news : List (Addr × Obj)} {vs : List Value} {i : Nat} {v : Value} {G : Value → Prop} (h : ∃ k, ts[i]? = some k ∧ TokIn news v k) (hv : vs[i]? = some v)
    (k : ∀ kind xs at' d x t u b, ts[i]? = some (kind, xs, at') → (d, tokObj kind x b t at' u) ∈ news → KBw.bInts b = xs → vs[i]? = some (.ref d) → G (.ref d)) : G v := by
  obtain ⟨⟨kind, xs, at'⟩, hk, d, x, t, u, b, rfl, hm, hb⟩ := h
  exact k kind xs at' d x t u b hk hm hb hv
theorem news_more {h₀ h : Heap} {L : Addr} {x : Addr × Obj} {r : List (Addr × Obj)} (N : News h₀ L h r) (hx : x ∈ r) : News h₀ L h (x :: r) := fun p hp => by
  rcases List.mem_cons.1 hp with rfl | hp
  · exact N _ hx
  · exact N p hp

theorem off1_mem {D : Addr} : ∀ {l : List (Addr × Obj)}, Off1 D l → ∀ p ∈ l, p.1 ≠ D
  | [], _, _, hp => nomatch hp
  | _ :: _, h, p, hp => by
    rcases List.mem_cons.1 hp with rfl | hp
    · exact h.1
    · exact off1_mem h.2 p hp
section
set_option maxHeartbeats 8000000 in
theorem without_ok (w : World) (D : Addr) (vs : List Value) (nn : Nat) (ts : List (Str × List Int × Int)) (news : List (Addr × Obj)) (hm : (D, listOf vs.toArray nn) ∈ news) (hz : vs.length ≤ 1000)
    (ht : ∀ (i : Nat) (v : Value), vs[i]? = some v → ∃ k, ts[i]? = some k ∧ TokIn news v k) (hc : ∀ k ∈ ts, k.1 ≠ "comment") :
    Tell w 130 5 50 [.ref D] news (fun v n => ∃ D2, v = .ref D2 ∧ n = (D2, lst vs) :: news ∧ ∀ p ∈ news, p.1 ≠ D2) False := by
  k_with_none
  k_with "CompSrcT" => (k_here; refine LCt.CompSrcT.ledger (by rfl) (by k_asm) (by k_asm) (by assumption) (by (rw [sizeLine_eq, List.size_toArray]; omega)) ?_; intro g'; refine AtStop.of ?_)
  k_with "CompEnd" => (refine AtStop.of ?_)
  w_top off
  unfold Tell
  intro mean mg mb dp un gd cn cs a ccd cl outer A₀ base h₀ L m s Q E B F X N T hkk hd hu hret hexc
  refine wpAny_call ?_
  k_dflt cell_enter
  k_steps
  unfold AtStop
  refine restT_ind (fun i ys n => ys = vs.take i ∧ news = n) ?_ ?_ _ _ _ _ (Nat.zero_add _) ⟨rfl, rfl⟩
  · intro ys n hY
    apply both_elim hY
    clear hY
    rw [List.size_toArray, List.take_length]
    intro D2 h2 tk2 F2 N2 O2
    k_steps
    rename News _ _ _ _ => N5
    rename Fr _ _ _ _ => F5
    exact hret _ _ _ _ ⟨_, rfl, rfl, off1_mem O2⟩ F5 N5
  · intro i ys n hi hY
    apply both_elim hY
    clear hY
    intro v I oI C oC D2 m₂ h tk E' hP
    have hv : vs[i]? = some v := by simpa using hP
    clear hP
    apply tok_elim (ht i v hv) hv
    clear hv
    intro kind xs at' d x t u b hk hmem hb hv hC hx F2 N2 off ne
    have hne := hc _ (List.mem_of_getElem? hk)
    dsimp only at hne
    have N3 := news_more N2 (.tail _ (.tail _ (.tail _ hmem)))
    clear N2
    unfold tokObj at N3
    have mark9 := True.intro
    k_steps
    · unfold AtStop
      exact CompEnd.intro F2 N3 news (fun p hp => .tail _ hp) off (.inr ⟨_, hm, rfl, _, rfl⟩) ⟨by rw [List.take_add_one, hv]; rfl, rfl⟩
    · exfalso
      rename (kind != _) = false => hk9
      simp at hk9
      exact hne hk9
end
end Mine
end

section
/-! part Nz10 -/
open PySem PySem.W PyProof.Rows PySem.Builtin
namespace Mine
set_option maxRecDepth 100000

noncomputable def joinKs : List (List Int) → List Int
  | [] => []
  | w :: r => w ++ r.flatMap fun x => 32 :: x
theorem joinKs_snoc (ws : List (List Int)) (w : List Int) : joinKs (ws ++ [w]) = joinKs ws ++ (if ws = [] then w else 32 :: w) := by
  cases ws with
  | nil => simp [joinKs]
  | cons a r => simp [joinKs, List.flatMap_append]

theorem toks_cons {vs : List Value} {ts : List (Str × List Int × Int)} {news : List (Addr × Obj)} (x : Addr × Obj) (ht : ∀ (i : Nat) (v : Value), vs[i]? = some v → ∃ k, ts[i]? = some k ∧ TokIn news v k) :
    ∀ (i : Nat) (v : Value), vs[i]? = some v → ∃ k, ts[i]? = some k ∧ TokIn (x :: news) v k := fun i v h => by
  obtain ⟨k, e, r⟩ := ht i v h
  exact ⟨k, e, r.mono fun p hp => .tail _ hp⟩
theorem upd4 {d I D2 P : Addr} {od oI o2 o₁ o₂ : Obj} {news : List (Addr × Obj)} (h1 : d ≠ P) (h2 : P < I) (h3 : P ≠ D2) (h4 : ∀ p ∈ news, p.1 < P) :
    Upd P o₁ o₂ ((d, od) :: (I, oI) :: (D2, o2) :: (P, o₁) :: news) ((d, od) :: (I, oI) :: (D2, o2) :: (P, o₂) :: news) :=
  .tail h1 (.tail (Nat.ne_of_gt h2) (.tail (Ne.symm h3) (.head (all_ne h4))))
theorem len_news {prog : Program} {w : World} {A : Around} {E : Value → Shared → Prop} {s : Shared} {h₀ : Heap} {L D : Addr} {vs : Array Value} {n : Nat} {news : List (Addr × Obj)} {Q : Value → Shared → Prop} (N : News h₀ L s.heap news) (hm : (D, listOf vs n) ∈ news) (hz : vs.size ≤ 1000)
    (h : Q (.int vs.size (s.toks + 1)) { s with toks := s.toks + 1 + 1 }) : wpAny (model prog w) A (call (.builtin "len") [.ref D]) Q E s :=
  len_list (news_list N hm) (by omega) h
theorem join_first {ts : List (Str × List Int × Int)} {kind : Str} {xs : List Int} {at' : Int} (hk : ts[0]? = some (kind, xs, at')) : xs = joinKs ((ts.take (0 + 1)).map (·.2.1)) := by
  cases ts with
  | nil => simp at hk
  | cons k r =>
    have e : k = (kind, xs, at') := by simpa using hk
    rw [e]
    simp [joinKs]
theorem join_next {ts : List (Str × List Int × Int)} {kind : Str} {xs : List Int} {at' : Int} {i : Nat} (hk : ts[i]? = some (kind, xs, at')) (hi : 0 < i) : joinKs ((ts.take i).map (·.2.1)) ++ 32 :: xs = joinKs ((ts.take (i + 1)).map (·.2.1)) := by
  rw [List.take_add_one, hk, List.map_append]
  have hne : (ts.take i).map (·.2.1) ≠ [] := by
    intro e
    have := congrArg List.length e
    simp at this
    rcases this with h | h
    · omega
    · rw [h] at hk; simp at hk
  rw [show List.map (fun x => x.2.1) (some (kind, xs, at')).toList = [xs] from rfl, joinKs_snoc, if_neg hne]
theorem without_elim {news n : List (Addr × Obj)} {v : Value} {o : Obj} {G : Value → List (Addr × Obj) → Prop} (h : ∃ D2, v = .ref D2 ∧ n = (D2, o) :: news ∧ ∀ p ∈ news, p.1 ≠ D2) (k : ∀ D2, (∀ p ∈ news, p.1 ≠ D2) → G (.ref D2) ((D2, o) :: news)) : G v n := by
  obtain ⟨D2, rfl, rfl, hl⟩ := h
  exact k D2 hl
theorem tell_last {w : World} {f : Addr} {D U : Nat} {vs : List Value} {news : List (Addr × Obj)} {R : Value → List (Addr × Obj) → Prop} {X : Prop} {mean : ExcName → Option Value} {mg mb : Str → Option Value} {dp un : Nat} {gd : Option (List Code)} {cn : Str} {cs : Scope} {a : Addr} {ccd : Value} {cl : List (Str × Addr)} {outer : List Env} {A₀ : Around} {base h₀ : Heap} {L : Addr} {m : Str → Option Value} {s : Shared} {Q E : Value → Shared → Prop}
    (B : Below A₀ base outer h₀) (F : Fr h₀ L s.heap m) (K : (hd.heap_39 w.params).In h₀) (N : News h₀ L s.heap news) (T : Top hd.view_39 (looseW hd.view_39 [Str.ofString "PostError"]) mean mg mb h₀) (C : Tell w f D U vs news R X) (hk : cs.kind = .function) (hd : dp + D < recursionLimit) (hu : un + U < cLine)
    (ret : ∀ v news' h' tk', R v news' → Fr h₀ L h' m → News h₀ L h' news' → Q v { s with heap := h', toks := tk' })
    (exc : X → ∀ e h' tk' g, Fr h₀ L g m → RaisedN base (envX cn cs L a ccd cl :: outer) e (.ref 59) news h' → g.UpToSlots h' → E (.ref e) { s with heap := h', toks := tk' }) :
    wpAny (model PySem.Challenge.rw_nz0287_01.row.prog w) (ktrTop dp un gd cn cs L a ccd cl outer) (call (.ref f) vs) Q E s := tell_use C B F K N T hk hd hu ret exc
section
set_option maxHeartbeats 8000000 in
theorem phrase_of_ok (w : World) (D : Addr) (vs : List Value) (nn : Nat) (ts : List (Str × List Int × Int)) (news : List (Addr × Obj)) (hm : (D, listOf vs.toArray nn) ∈ news) (hz : vs.length ≤ 100)
    (ht : ∀ (i : Nat) (v : Value), vs[i]? = some v → ∃ k, ts[i]? = some k ∧ TokIn news v k) (hc : ∀ k ∈ ts, (k.1 = "atom" ∨ k.1 = "quoted") ∧ 0 ≤ k.2.2) (hl : vs.length = ts.length) (hsz : (joinKs (ts.map (·.2.1))).length ≤ 10000) :
    Tell w 137 8 80 [.ref D] news (fun v n => n = news ∧ ∃ b t, v = .bytes b t ∧ KBw.bInts b = joinKs (ts.map (·.2.1))) False := by
  k_with_none
  k_with "call ref" => (k_here; (with_reducible show wpAny _ _ (call (Value.ref 130) [Value.ref _]) _ _ _); k_dflt (refine' tell_last (by k_asm) (by k_asm) (by k_asm) (by k_asm) (by k_asm) (without_ok _ _ _ _ _ _ (by exact .tail _ (by assumption)) (by omega) (by exact toks_cons _ (by assumption)) (by assumption)) (by first | exact rfl | assumption) (by ktr_room) (by ktr_units) ?_ (fun hx => hx.elim)); intro v' n' h' tk' hv'; apply without_elim hv'; clear hv'; intro d' hl' F' N')
  k_with "exec For Tuple Call cons nil" => (k_here; (rename Fr _ _ _ _ => lF'); (with_unfolding_all refine' For_turns lF' ?_); k_whole)
  k_with "call builtin:list.append" => (k_here; (with_reducible show wpAny _ _ (call (Value.builtin _) [Value.ref _, _]) _ _ _); k_dflt (refine' append_K (by k_asm) (by k_asm) (by exact upd4 (by assumption) (by assumption) (by assumption) (by assumption)) ?_ (by (rw [sizeLine_eq]; (try simp only [Array.size_push, List.size_toArray, List.length_nil]); omega)); k_whole); intro h' F' N'; (try k_sweep))
  k_with "call builtin:len" => (k_here; (with_reducible show wpAny _ _ (call (Value.builtin _) [Value.ref _]) _ _ _); k_dflt (refine' len_news (by k_asm) (.tail _ (.tail _ (.tail _ (.head _)))) (by (rw [List.size_toArray]; omega)) ?_); (try simp only [List.size_toArray]))
  k_with "call builtin:bytes.join" => (k_here; refine call_join (news_list (by assumption) (List.Mem.tail _ (List.Mem.head _))) (by assumption) (by assumption) ?_; intro u' tk')
  k_with "exec If" => (k_here; refine AtStop.of ?_)
  k_with "ItEnd" => (refine AtStop.of ?_)
  k_with "ItPost" => (dsimp only [ItPost])
  k_with "getMethod bytes" => (k_here; refine method_join ?_)
  k_with "pyIter ref" => (k_here; refine AtStop.of ?_)
  w_top off
  unfold Tell
  intro mean mg mb dp un gd cn cs a ccd cl outer A₀ base h₀ L m s Q E B F X N T hkk hd hu hret hexc
  have hc2 : ∀ k ∈ ts, k.1 ≠ "comment" := fun k hk => by
    rcases (hc k hk).1 with e | e <;> rw [e] <;> decide
  refine wpAny_call ?_
  k_dflt cell_enter
  k_steps
  unfold AtStop
  rename_i P h1 hP h2 h3 N1
  rename News _ _ _ _ => N2
  rename Fr _ _ _ _ => F2
  rename Addr => D2
  have hD2 := hl'
  refine iter_listTurns (by rfl) F2 N2 (.head _) rfl rfl ?_
  intro I hI
  have hPI : P < I := hI (P, _) (.tail _ (.head _))
  have hDI : D2 < I := hI (D2, _) (.head _)
  have hnI : ∀ p ∈ news, p.1 < I := fun p hp => hI p (.tail _ (.tail _ hp))
  have hDP : P ≠ D2 := hD2 (P, _) (.head _)
  refine' items_state (σ := List Value × Nat × Int × Tok) (fun c => (D2, LCg.lst vs) :: (P, listOf c.1.toArray c.2.1) :: news) (fun c => [("parts", .ref P), ("glued", .int c.2.2.1 c.2.2.2)]) ["kind", "worth", "at", "is_point"]
    (fun i c => c.1.length ≤ 2 * i ∧ ((i = 0 ∧ c.2.2.1 = 0 ∧ c.1 = []) ∨ (0 < i ∧ c.2.2.1 = -1 ∧ 0 < c.1.length)) ∧ ∃ bs, BytesAre c.1 bs ∧ (bs.map KBw.bInts).flatten = joinKs ((ts.take i).map (·.2.1))) ([], 0, 0, ?tk0) ?hk ?hp ?fin ?turn
  case hk => kst_all
  case hp => exact ⟨Nat.zero_le _, .inl ⟨rfl, rfl, rfl⟩, [], .nil, rfl⟩
  case fin =>
    refine four_elim ?_
    intro ps n g t9 u h9 tk9 hp9
    refine inv_elim hp9 ?_
    clear hp9
    intro hp1 hp2 bs hp3 hp4 F9 N9
    dsimp only [kstB] at hp1 hp2 hp3 hp4 F9 N9 ⊢
    rw [List.length_map, hl, List.take_length] at hp4
    have hsum : (bs.map (·.size)).sum ≤ 16777216 := by
      rw [sum_size, hp4]; omega
    k_steps
    rename News _ _ _ _ => N5
    rename Fr _ _ _ _ => F5
    exact hret _ _ _ _ ⟨rfl, _, _, rfl, by rw [ints_fold, ints_nil, List.nil_append, hp4]⟩ F5 (fun p hp => N5 p (.tail _ (.tail _ hp)))
  case turn =>
    intro i a9
    refine four_elim ?_
    intro ps n g t9 u v h9 tk9 o ha hp9
    refine inv_elim hp9 ?_
    clear hp9
    intro hp1 hp2 bs hp3 hp4 hv F9 ho N9
    dsimp only [kstB] at hp1 hp2 hp3 hp4 F9 N9 ⊢
    have hi : vs[i]? = some v := by
      rw [List.getElem?_map] at ha
      cases e : vs[i]? with
      | none => rw [e] at ha; cases ha
      | some v' =>
        rw [e] at ha
        have e2 : Itm.val v' = a9 := Option.some.inj ha
        subst e2
        have e3 : v = v' := hv
        rw [e3]
    have hil : i < vs.length := by
      rcases Nat.lt_or_ge i vs.length with h | h
      · exact h
      · rw [List.getElem?_eq_none h] at hi; cases hi
    apply tok_elim (ht i v hi) hi
    clear hi
    intro kind xs at' d x t ub b hk hmem hb hi
    refine two_facts (hc _ (List.mem_of_getElem? hk)) ?_
    intro hkind hat
    dsimp only at hkind hat
    have hdP : d ≠ P := Nat.ne_of_lt (hP _ hmem)
    have N3 := news_more N9 (.tail _ (.tail _ (.tail _ hmem)))
    clear N9
    unfold tokObj at N3
    have hat2 : at' ≠ -1 := by omega
    have hoff : ∀ o' : Obj, ∀ p ∈ (D2, LCg.lst vs) :: (P, o') :: news, p.1 ≠ I := by
      intro o' p hp
      rcases List.mem_cons.1 hp with rfl | hp
      · exact Nat.ne_of_lt hDI
      rcases List.mem_cons.1 hp with rfl | hp
      · exact Nat.ne_of_lt hPI
      · exact Nat.ne_of_lt (hnI p hp)
    have hks : (kind == Str.ofString "sign") = false := by rcases hkind with rfl | rfl <;> decide
    have mark9 := True.intro
    k_steps
    unfold AtStop
    rename News _ _ _ _ => N4
    rename Fr _ _ _ _ => F4
    refine wp_keep F4 N4 ?_ ?_
    · rcases hkind with rfl | rfl
      · refine wpAny_If ?_
        k_steps
        rename News _ _ _ _ => N5
        rename Fr _ _ _ _ => F5
        exact NextSt.intro () F5 (fun p hp => N5 p (.tail _ hp)) trivial
      · refine wpAny_If ?_
        k_steps
        rename News _ _ _ _ => N5
        rename Fr _ _ _ _ => F5
        exact NextSt.intro () F5 (fun p hp => N5 p (.tail _ hp)) trivial
    clear F4 N4
    intro h6 tk6 F6 N6
    k_steps
    unfold AtStop
    refine wp_join (σ := List Value × Nat × List (Array UInt8)) (fun c => (d, tokObj kind x b t at' ub) :: (I, o) :: (D2, LCg.lst vs) :: (P, listOf c.1.toArray c.2.1) :: news)
      (fun c => c.1.length ≤ 2 * i + 1 ∧ BytesAre c.1 c.2.2 ∧ (c.2.2.map KBw.bInts).flatten ++ xs = joinKs ((ts.take (i + 1)).map (·.2.1))) F6 ?_ ?_
    · rcases hp2 with ⟨hi0, rfl, rfl⟩ | ⟨hi0, rfl, hps⟩
      · refine wpAny_If ?_
        subst hi0
        k_steps
        rename News _ _ _ _ => N7
        rename Fr _ _ _ _ => F7
        cases hp3
        exact NextSt.intro ([], n, []) F7 N7 ⟨Nat.zero_le _, .nil, join_first hk⟩
      · refine wpAny_If ?_
        k_steps
        · rename News _ _ _ _ => N7
          rename Fr _ _ _ _ => F7
          simp only [List.push_toArray] at N7
          refine NextSt.intro (ps ++ [_], n + 1, bs ++ [_]) F7 N7 ⟨?_, hp3.append (.cons _ _ .nil), ?_⟩
          · simp only [List.length_append, List.length_singleton]; omega
          · rw [List.map_append, List.map_singleton, ← join_next hk hi0, List.flatten_append, hp4, List.append_assoc, show KBw.bInts #[32] = [32] from rfl]
            simp
        · exfalso; omega
    clear F6 N6 hp1 hp2 hp3 hp4
    refine three_elim ?_
    intro ps2 n2 bs2 h8 tk8 F8 N8 hq9
    refine three_facts hq9 ?_
    clear hq9
    intro hq1 hq3 hq4
    dsimp only at hq1 hq3 hq4 N8
    unfold tokObj at N8
    k_steps
    unfold AtStop
    rename News _ _ _ _ => N5
    rename Fr _ _ _ _ => F5
    simp only [List.push_toArray] at N5
    refine ItEnd.intro (ps2 ++ [_], n2 + 1, _, _) F5 N5 (fun p hp => .tail _ hp) (hoff _) ⟨.head _, trivial⟩ (by kst_all) (by ksw_same) ⟨?_, .inr ⟨Nat.succ_pos _, rfl, ?_⟩, bs2 ++ [_], hq3.append (.cons _ _ .nil), ?_⟩
    · simp only [List.length_append, List.length_singleton]; omega
    · simp only [List.length_append, List.length_singleton]; omega
    · rw [List.map_append, List.map_singleton, hb, ← hq4, List.flatten_append]
      simp
end
end Mine
end

section
/-! part NzQ -/
open PySem PySem.W PyProof.Rows PySem.Builtin
namespace Mine
set_option maxRecDepth 100000

theorem splitGo_app : ∀ (w cur r : List Int), (32 : Int) ∉ w → splitGo cur (w ++ r) = splitGo (cur ++ w) r
  | [], cur, r, _ => by simp
  | c :: w, cur, r, h => by
    have hc : c ≠ 32 := fun e => h (by rw [e]; exact .head _)
    rw [List.cons_append, splitGo, if_neg hc, splitGo_app w (cur ++ [c]) r (fun hm => h (.tail _ hm)), List.append_assoc]
    rfl
theorem splitGo_join : ∀ (rs : List (List Int)) (cur : List Int), (∀ w ∈ rs, (32 : Int) ∉ w) → splitGo cur (rs.flatMap fun x => 32 :: x) = cur :: rs
  | [], cur, _ => rfl
  | a :: r, cur, h => by
    rw [List.flatMap_cons, List.cons_append, splitGo, if_pos rfl, splitGo_app a [] _ (h a (.head _)), List.nil_append, splitGo_join r a fun w hw => h w (.tail _ hw)]
theorem split_join {ws : List (List Int)} (hne : ws ≠ []) (h : ∀ w ∈ ws, (32 : Int) ∉ w) : splitK (joinKs ws) = ws := by
  cases ws with
  | nil => exact absurd rfl hne
  | cons w r =>
    unfold splitK joinKs
    rw [splitGo_app w [] _ (h w (.head _)), List.nil_append, splitGo_join r w fun x hx => h x (.tail _ hx)]
theorem join_split : ∀ (r cur : List Int), joinKs (splitGo cur r) = cur ++ r
  | [], cur => by simp [splitGo, joinKs]
  | c :: r, cur => by
    rw [splitGo]
    split
    · rename_i hc
      have ih := join_split r []
      rw [List.nil_append] at ih
      subst hc
      show cur ++ (splitGo [] r).flatMap (fun x => 32 :: x) = cur ++ 32 :: r
      congr 1
      cases hs : splitGo [] r with
      | nil => 
        exfalso
        have hpos : ∀ (l c : List Int), splitGo c l ≠ [] := by
          intro l
          induction l with
          | nil => intro c; simp [splitGo]
          | cons a l ih => intro c; rw [splitGo]; split <;> simp [ih]
        exact hpos r [] hs
      | cons a l =>
        rw [hs] at ih
        rw [List.flatMap_cons, List.cons_append]
        exact congrArg (List.cons 32) ih
    · rw [join_split r (cur ++ [c]), List.append_assoc]
      rfl
theorem codes_append (x y : Str) : codes (x ++ y) = codes x ++ codes y := by
  show codes (Str.append x y) = _
  unfold codes Str.append
  simp
theorem codes_join : ∀ (l : List Str), codes (Str.join ⟨#[32]⟩ l) = joinKs (l.map codes)
  | [] => rfl
  | [a] => by
    show codes a = joinKs [codes a]
    simp [joinKs]
  | a :: b :: r => by
    have ih := codes_join (b :: r)
    show codes (a ++ ⟨#[32]⟩ ++ Str.join ⟨#[32]⟩ (b :: r)) = _
    rw [codes_append, codes_append, ih]
    simp [joinKs, codes]
theorem split_codes (x : Str) : (Txt.split x ⟨#[32]⟩).map codes = splitK (codes x) := by
  have h1 := PySem.StrLaws.join_split x ⟨#[32]⟩
  have h2 := PySem.StrLaws.split_free x 32
  have h3 : joinKs ((Txt.split x ⟨#[32]⟩).map codes) = codes x := by rw [← codes_join, h1]
  rw [← h3, split_join]
  · intro e
    have h4 := split_pos x ⟨#[32]⟩
    have h5 := congrArg List.length e
    rw [List.length_map, List.length_nil] at h5
    omega
  · intro w hw hm
    obtain ⟨p, hp, rfl⟩ := List.mem_map.1 hw
    unfold codes at hm
    obtain ⟨c, hc, e⟩ := List.mem_map.1 hm
    have : c = 32 := by
      have e' : (c : Int) = 32 := e
      omega
    rw [this] at hc
    exact h2 p hp hc
theorem join_small {xs : List Str} {n : Nat} (h : ∀ x ∈ xs, x.cps.size ≤ 5) (hn : xs.length ≤ n) : (Txt.join (Str.ofString "") xs).cps.size ≤ 5 * n ∧ (xs.map (·.length)).sum ≤ 5 * n := by
  have hs : ∀ ys : List Str, (∀ x ∈ ys, x.cps.size ≤ 5) → (ys.map (·.length)).sum ≤ 5 * ys.length := by
    intro ys
    induction ys with
    | nil => intro _; simp
    | cons a r ih =>
      intro hy
      have h1 := ih fun x hx => hy x (.tail _ hx)
      have h2 : a.length ≤ 5 := hy a (.head _)
      simp only [List.map_cons, List.sum_cons, List.length_cons]
      omega
  have h1 := hs xs h
  refine ⟨?_, by omega⟩
  show (Builtin.Str.glued (Str.ofString "") xs).length ≤ _
  rw [StrLaws.glued_eq_join]
  cases xs with
  | nil => exact Nat.zero_le _
  | cons a r =>
    have z : (Str.ofString "").length = 0 := by decide
    rw [len_join_cons, z]
    omega
end Mine
end

section
/-! part NzS -/
open PySem PySem.W PyProof.Rows PySem.Builtin
namespace Mine
set_option maxRecDepth 100000

theorem tell_mono {w : World} {f : Addr} {D U D' U' : Nat} {vs : List Value} {news : List (Addr × Obj)} {R : Value → List (Addr × Obj) → Prop} {X : Prop} (h : Tell w f D U vs news R X) (hD : D ≤ D') (hU : U ≤ U') : Tell w f D' U' vs news R X := by
  unfold Tell at h ⊢
  intro mean mg mb dp un gd cn cs a ccd cl outer A₀ base h₀ L m s Q E B F K N T hk hd hu ret exc
  exact h mean mg mb dp un gd cn cs a ccd cl outer A₀ base h₀ L m s Q E B F K N T hk (by omega) (by omega) ret exc
theorem scan_step {w : World} {b : Array UInt8} {tb : Tok} {ks : List Int} {p q behind : Nat} {kind : Str} {xs : List Int} {rest : List (Str × List Int × Int)} (hp : p ≤ ks.length) (hq : p + (whiteRun ks p).length = q) (hl : q < ks.length) (hb : behind ≤ ks.length)
    (ht : TokHere w b tb q kind xs behind) (hr : Scan w b tb ks behind rest) : Scan w b tb ks p ((kind, xs, (q : Int)) :: rest) := by
  subst hq
  exact Scan.step p kind xs behind hp hl hb ht hr
theorem atom_not_white {c : Int} (h : atomC c = true) : whiteC c = false := by
  unfold whiteC
  refine decide_eq_false fun e => ?_
  rcases e with rfl | rfl <;> exact absurd h (by decide)
theorem atomW_head {a : List Int} (h : atomW a = true) : ∃ c r, a = c :: r ∧ atomC c = true := by
  unfold atomW at h
  cases a with
  | nil => simp at h
  | cons c r =>
    simp only [List.isEmpty_cons, Bool.not_false, Bool.true_and, List.all_cons, Bool.and_eq_true] at h
    exact ⟨c, r, rfl, h.1⟩
theorem atomW_all {a : List Int} (h : atomW a = true) : ∀ c ∈ a, atomC c = true := by
  unfold atomW at h
  rw [Bool.and_eq_true] at h
  exact List.all_eq_true.1 h.2
theorem takeWhile_app {p : Int → Bool} : ∀ {a r : List Int}, (∀ c ∈ a, p c = true) → (r = [] ∨ ∃ c t, r = c :: t ∧ p c = false) → (a ++ r).takeWhile p = a
  | [], r, _, hr => by
    rcases hr with rfl | ⟨c, t, rfl, hc⟩
    · rfl
    · rw [List.nil_append, List.takeWhile_cons, hc]; rfl
  | c :: a, r, h, hr => by
    rw [List.cons_append, List.takeWhile_cons, if_pos (h c (.head _)), takeWhile_app (fun x hx => h x (.tail _ hx)) hr]
theorem flat_head (rs : List (List Int)) : (rs.flatMap fun x => (32 : Int) :: x) = [] ∨ ∃ c t, (rs.flatMap fun x => (32 : Int) :: x) = c :: t ∧ atomC c = false := by
  cases rs with
  | nil => exact .inl rfl
  | cons a r => exact .inr ⟨32, _, by rw [List.flatMap_cons]; rfl, by decide⟩
noncomputable def toksAfter : Nat → List (List Int) → List (Str × List Int × Int)
  | _, [] => []
  | p, a :: r => ("atom", a, ((p + 1 : Nat) : Int)) :: toksAfter (p + 1 + a.length) r
theorem tok_atom {w : World} {b : Array UInt8} {tb : Tok} {ks a : List Int} {q : Nat} {rs : List (List Int)} (hk : KBw.bInts b = ks) (hz : ks.length ≤ 1000) (ha : atomW a = true) (hd : ks.drop q = a ++ rs.flatMap fun x => 32 :: x) :
    q < ks.length ∧ whiteRun ks q = [] ∧ q + a.length ≤ ks.length ∧ TokHere w b tb q "atom" a (q + a.length) := by
  obtain ⟨c, r, hc, hac⟩ := atomW_head ha
  have hrun : atomRun ks q = a := by
    unfold atomRun
    rw [hd]
    exact takeWhile_app (atomW_all ha) (flat_head rs)
  have hd2 : ks.drop q = c :: (r ++ rs.flatMap fun x => 32 :: x) := by rw [hd, hc]; rfl
  obtain ⟨h1, h2⟩ := getD_drop hd2
  have hw : whiteRun ks q = [] := by
    unfold whiteRun
    rw [hd2, List.takeWhile_cons, atom_not_white hac]
    rfl
  have hle : q + a.length ≤ ks.length := by
    have := congrArg List.length hd
    rw [List.length_drop, List.length_append] at this
    omega
  refine ⟨h1, hw, hle, fun ti news => ?_⟩
  have := token_atom_ok w b tb ks (q : Int) q ti news hk hz rfl h1 (by rw [h2]; exact hac)
  rw [hrun] at this
  exact tell_mono this (by omega) (by omega)
theorem scan_after {w : World} {b : Array UInt8} {tb : Tok} {ks : List Int} (hk : KBw.bInts b = ks) (hz : ks.length ≤ 1000) : ∀ (rs : List (List Int)) (p : Nat), p ≤ ks.length → (∀ a ∈ rs, atomW a = true) → (ks.drop p = rs.flatMap fun x => 32 :: x) → Scan w b tb ks p (toksAfter p rs)
  | [], p, hp, _, hd => by
    have hl := congrArg List.length hd
    rw [List.length_drop] at hl
    simp at hl
    refine Scan.done p hp ?_
    have : whiteRun ks p = [] := by unfold whiteRun; rw [hd]; rfl
    rw [this, List.length_nil]
    omega
  | a :: r, p, hp, h, hd => by
    have ha := h a (.head _)
    have hd2 : ks.drop p = 32 :: (a ++ r.flatMap fun x => 32 :: x) := by rw [hd, List.flatMap_cons]; rfl
    have hd3 := drop_succ_of hd2
    obtain ⟨h1, h2, h3, h4⟩ := tok_atom (w := w) (tb := tb) hk hz ha hd3
    have hw : p + (whiteRun ks p).length = p + 1 := by
      have : whiteRun ks p = [32] := by
        unfold whiteRun at h2 ⊢
        rw [hd2, List.takeWhile_cons, show whiteC 32 = true by decide]
        rw [hd3] at h2
        rw [h2]
        rfl
      rw [this]
      rfl
    refine scan_step hp hw h1 h3 h4 ?_
    refine scan_after hk hz r _ h3 (fun x hx => h x (.tail _ hx)) ?_
    rw [← List.drop_drop, hd3, List.drop_left]
theorem toksAfter_map : ∀ (rs : List (List Int)) (p : Nat), (toksAfter p rs).map (·.2.1) = rs
  | [], _ => rfl
  | a :: r, p => by rw [toksAfter, List.map_cons, toksAfter_map r]
theorem toksAfter_kind : ∀ (rs : List (List Int)) (p : Nat), ∀ k ∈ toksAfter p rs, (k.1 = "atom" ∨ k.1 = "quoted") ∧ 0 ≤ k.2.2
  | [], _, k, h => nomatch h
  | a :: r, p, k, h => by
    rw [toksAfter] at h
    rcases List.mem_cons.1 h with rfl | h
    · exact ⟨.inl rfl, Int.natCast_nonneg _⟩
    · exact toksAfter_kind r _ k h
/-- what the reader needs: tokens whose words, joined, are the text -/
structure ReadBack (w : World) (b : Array UInt8) (tb : Tok) (ks xs : List Int) (ts : List (Str × List Int × Int)) : Prop where
  scan : Scan w b tb ks 0 ts
  kinds : ∀ k ∈ ts, (k.1 = "atom" ∨ k.1 = "quoted") ∧ 0 ≤ k.2.2
  words : joinKs (ts.map (·.2.1)) = xs
  few : ts.length ≤ 100
  no : ∀ k ∈ ks, k ≠ 10 ∧ k ≠ 13
theorem bare_chars {ks : List Int} (h : bareK ks = true) : ∀ k ∈ ks, atomC k = true ∨ k = 32 := by
  have h1 := join_split ks []
  rw [List.nil_append] at h1
  intro k hk
  have h2 : k ∈ joinKs (splitK ks) := by unfold splitK; rw [h1]; exact hk
  have hall := List.all_eq_true.1 (show (splitK ks).all atomW = true from h)
  have hj : ∀ ws : List (List Int), (∀ a ∈ ws, atomW a = true) → ∀ k ∈ joinKs ws, atomC k = true ∨ k = 32 := by
    intro ws hws k hk
    cases ws with
    | nil => exact nomatch hk
    | cons a r =>
      rcases List.mem_append.1 hk with hk | hk
      · exact .inl (atomW_all (hws a (.head _)) k hk)
      · obtain ⟨y, hy, hk⟩ := List.mem_flatMap.1 hk
        rcases List.mem_cons.1 hk with rfl | hk
        · exact .inr rfl
        · exact .inl (atomW_all (hws y (.tail _ hy)) k hk)
  exact hj _ hall k h2
theorem bare_no {ks : List Int} (h : bareK ks = true) : ∀ k ∈ ks, k ≠ 0 ∧ k ≠ 10 ∧ k ≠ 13 := by
  intro k hk
  rcases bare_chars h k hk with h1 | h1
  · refine ⟨?_, ?_, ?_⟩ <;> (rintro rfl; revert h1; decide)
  · subst h1; decide
theorem read_bare {w : World} {b : Array UInt8} {tb : Tok} {ks : List Int} (hk : KBw.bInts b = ks) (hz : ks.length ≤ 90) (h : bareK ks = true) : ∃ ts, ReadBack w b tb ks ks ts := by
  have h1 := join_split ks []
  rw [List.nil_append] at h1
  have h1' : joinKs (splitK ks) = ks := h1
  have hall := List.all_eq_true.1 (show (splitK ks).all atomW = true from h)
  have hlen := splitGo_len ks []
  cases hs : splitK ks with
  | nil =>
    exfalso
    rw [hs] at h1'
    have h2 : ks = [] := h1'.symm
    rw [h2] at hs
    exact absurd hs (by decide)
  | cons a r =>
    rw [hs] at hall h1'
    have hlen2 : (a :: r).length ≤ ks.length + 1 := by rw [← hs]; exact hlen
    have hd : ks.drop 0 = a ++ r.flatMap fun x => 32 :: x := by rw [List.drop_zero]; exact h1'.symm
    obtain ⟨h2, h3, h4, h5⟩ := tok_atom (w := w) (tb := tb) hk (by omega) (hall a (.head _)) hd
    refine ⟨("atom", a, ((0 : Nat) : Int)) :: toksAfter (0 + a.length) r, ?_, ?_, ?_, ?_, fun k hk => (bare_no h k hk).2⟩
    · refine scan_step (Nat.zero_le _) (by rw [h3]; rfl) h2 h4 h5 ?_
      refine scan_after hk (by omega) r _ h4 (fun x hx => hall x (.tail _ hx)) ?_
      rw [Nat.zero_add]
      have : ks.drop a.length = (ks.drop 0).drop a.length := by rw [List.drop_zero]
      rw [this, hd, List.drop_left]
    · intro k hk
      rcases List.mem_cons.1 hk with rfl | hk
      · exact ⟨.inl rfl, Int.natCast_nonneg _⟩
      · exact toksAfter_kind r _ k hk
    · rw [List.map_cons, toksAfter_map]
      exact h1'
    · have e : (toksAfter (0 + a.length) r).length = r.length := by
        have := congrArg List.length (toksAfter_map r (0 + a.length))
        rwa [List.length_map] at this
      simp only [List.length_cons] at hlen2 ⊢
      omega
theorem read_quoted {w : World} {b : Array UInt8} {tb : Tok} {xs : List Int} (hk : KBw.bInts b = 34 :: (escs xs ++ [34])) (hz : xs.length ≤ 90) (hno : ∀ k ∈ xs, k ≠ 0 ∧ k ≠ 10 ∧ k ≠ 13) : ∃ ts, ReadBack w b tb (34 :: (escs xs ++ [34])) xs ts := by
  have hl : (34 :: (escs xs ++ [34])).length = (escs xs).length + 2 := by simp
  refine ⟨[("quoted", xs, ((0 : Nat) : Int))], ?_, ?_, ?_, by simp, fun k hk => (escs_no hno k hk).2⟩
  · refine scan_step (behind := (escs xs).length + 2) (Nat.zero_le _) (by rfl) (by rw [hl]; omega) (by rw [hl]; omega) (fun ti news => ?_) ?_
    · exact token_quoted_ok w b tb xs _ ti news hk (by omega) hno rfl
    · refine Scan.done _ (by rw [hl]; omega) ?_
      have : whiteRun (34 :: (escs xs ++ [34])) ((escs xs).length + 2) = [] := by
        unfold whiteRun
        rw [List.drop_eq_nil_of_le (by rw [hl]; omega)]
        rfl
      rw [this, hl]
      rfl
  · intro k hk
    rw [List.mem_singleton.1 hk]
    exact ⟨.inr rfl, Int.natCast_nonneg _⟩
  · simp [joinKs]
end Mine
end

section
/-! part NzCatch -/
open PySem PySem.W PySem.Calls PySem.Spec PyProof.Rows PyProof.V
namespace Mine
set_option maxRecDepth 100000
section
variable {prog : Program} {w : World} {A₀ : Around} {E : Value → Shared → Prop} {s' : Shared} {h₀ h : Heap} {outer : List Env} {L a e : Addr} {m : Str → Option Value} {name : Str} {scope : Scope} {cd : Value} {cells : List (Str × Addr)}
  {news : List (Addr × Obj)} {x : Str} {np pos : Pos} {b₀ : Stmt} {suite : List Stmt} {rest : List ExceptHandler} {Q : Flow → Shared → Prop}
theorem caught_wf (K : Below A₀ h₀ outer h₀) (F : Fr h₀ L h m) (hsm : h.UpToSlots s'.heap) (R : RaisedN h₀ (envX name scope L a cd cells :: outer) e (.ref 59) news s'.heap)
    (X : (hd.heap_39 w.params).In h₀)
    (hn : ∀ (s₁ : Shared) (Q₁ E₁ : Value → Shared → Prop), Fr h₀ L s₁.heap m → Q₁ (.ref 59) s₁ → wpAny (model prog w) ((A₀.deeper (envX name scope L a cd cells)).mark (some (.ref e))) (eval (.Name x np) (envX name scope L a cd cells)) Q₁ E₁ s₁)
    (k : ∀ h', Fr h₀ L h' m → News h₀ L h' news →
      wpAny (model prog w) ((A₀.deeper (envX name scope L a cd cells)).mark (some (.ref e))) (execs (b₀ :: suite) (envX name scope L a cd cells)) Q E { s' with heap := h' })
    (hE : PassesOwnAt (model prog w) ((A₀.deeper (envX name scope L a cd cells)).mark (some (.ref e))) (A₀.deeper (envX name scope L a cd cells)) (envX name scope L a cd cells) E := by passes_own) :
    wpAny (model prog w) (A₀.deeper (envX name scope L a cd cells)) (noteFrame (.ref e) (envX name scope L a cd cells))
      (fun _ s₂ => wpAny (model prog w) (A₀.deeper (envX name scope L a cd cells)) (setFlight (.ref e) none) (fun _ s₃ =>
        wpAny (model prog w) (A₀.deeper (envX name scope L a cd cells)) (handleBy (.ref e) (envX name scope L a cd cells) (.ExceptHandler (some (.Name x np)) none (b₀ :: suite) pos :: rest)) Q E s₃) E s₂) E s' := by
  obtain ⟨B, a0, hB, hl, hfl⟩ := R
  have hL : B.get? L = none := by
    obtain ⟨_, ⟨L', _, hf, hn', _⟩, _⟩ := hfl.2.2.1
    obtain rfl : L = L' := Option.some.inj hf
    exact hn'
  refine wpAny_looks_onW (Around.frames_deeper K.stack) rfl hfl fun h₄ hheld₄ hsm₄ => ?_
  refine wpAny_landsW hheld₄ fun h₅ hheld hsm₅' => ?_
  have hsm₅ := hsm₄.trans hsm₅'
  have hheld' := flyingW_base hB hheld
  have F₅ := F.of_stays hheld'.1 (hsm.trans hsm₅)
  obtain ⟨ob, hob, hobc⟩ := hheld'.there
  refine wpAny_handleBy_cons (codeAny_handlers_test (hn _ _ _ F₅ ?_)) (by intro q; cases q)
  have hC := (X.keeps F₅.keep) _ _ (wf_cls w.params)
  refine wpAny_excMatches_sub_self hC hob hobc rfl (codeAny_handlers_suite ?_)
  refine lands_againW hheld fun h₆ hfl₆ hsm₆ => ?_
  have F₆ := F.of_stays (flyingW_base hB hfl₆).1 ((hsm.trans hsm₅).trans hsm₆)
  exact wpAny_passesOwnAt hE (k h₆ F₆ fun q hq => ⟨hfl₆.1 _ _ (hl q hq).1, (fun z => by have := (hl q hq).1; rw [z, hL] at this; cases this), (hl q hq).2⟩)
end
end Mine
end

section
/-! part Nz17 -/
open PySem PySem.W PyProof.Rows PySem.Builtin
namespace Mine
set_option maxRecDepth 100000

theorem ints_at : ∀ {vs : List Value} {ns : List Int}, IntsAre vs ns → ∀ {i : Nat} {v : Value}, vs[i]? = some v → ∃ k u, v = .int k u ∧ ns[i]? = some k
  | _, _, .nil, i, v, h => by simp at h
  | _, _, .cons n t r, 0, v, h => ⟨n, t, (by simpa using h.symm), rfl⟩
  | _, _, .cons n t r, i + 1, v, h => by
    obtain ⟨k, u, e1, e2⟩ := ints_at r (i := i) (v := v) (by simpa using h)
    exact ⟨k, u, e1, by simpa using e2⟩
theorem ints_elim {vs : List Value} {ns : List Int} {i : Nat} {v : Value} {G : Value → Prop} (h : IntsAre vs ns) (hv : vs[i]? = some v) (k : ∀ n u, ns[i]? = some n → G (.int n u)) : G v := by
  obtain ⟨n, u, rfl, hn⟩ := ints_at h hv
  exact k n u hn
theorem drop3b {h₀ h : Heap} {L : Addr} {x y z : Addr × Obj} {r : List (Addr × Obj)} (N : News h₀ L h (x :: y :: z :: r)) : News h₀ L h (x :: y :: r) := fun p hp => by
  rcases List.mem_cons.1 hp with rfl | hp
  · exact N _ (.head _)
  rcases List.mem_cons.1 hp with rfl | hp
  · exact N _ (.tail _ (.head _))
  · exact N p (.tail _ (.tail _ (.tail _ hp)))
noncomputable def NextInt (h₀ : Heap) (L : Addr) (m : Str → Option Value) (x : Str) (news : List (Addr × Obj)) (P : Int → Prop) (s : Shared) (f : Flow) (s' : Shared) : Prop :=
  f = .next ∧ ∃ (g : Int) (t : Tok) (h' : Heap) (tk' : Nat) (m' : Str → Option Value), s' = { s with heap := h', toks := tk' } ∧ Fr h₀ L h' m' ∧ News h₀ L h' news ∧ (∀ p ∈ [(x, Value.int g t)], m' p.1 = some p.2) ∧ (∀ z, (∀ p ∈ [(x, Value.int g t)], z ≠ p.1) → ([] : List Str).contains z = false → m' z = m z) ∧ P g
theorem NextInt.intro {h₀ h' : Heap} {L : Addr} {m m' : Str → Option Value} {x : Str} {news : List (Addr × Obj)} {P : Int → Prop} {s : Shared} {tk' : Nat} (g : Int) (t : Tok) (F : Fr h₀ L h' m') (N : News h₀ L h' news)
    (h1 : ∀ p ∈ [(x, Value.int g t)], m' p.1 = some p.2) (h2 : ∀ z, (∀ p ∈ [(x, Value.int g t)], z ≠ p.1) → ([] : List Str).contains z = false → m' z = m z) (hp : P g) : NextInt h₀ L m x news P s .next { s with heap := h', toks := tk' } :=
  ⟨rfl, g, t, h', tk', m', rfl, F, N, h1, h2, hp⟩
theorem wp_join1 {M : Model} {A : Around} {E : Value → Shared → Prop} {s : Shared} {c : Sem Flow} {Q : Flow → Shared → Prop} {h₀ : Heap} {L : Addr} {m : Str → Option Value} {news : List (Addr × Obj)} (x : Str) (P : Int → Prop) (_ : Fr h₀ L s.heap m)
    (h1 : wpAny M A c (NextInt h₀ L m x news P s) E s) (h2 : ∀ g t h' tk', Fr h₀ L h' (kstB m [(x, .int g t)]) → News h₀ L h' news → P g → Q .next { s with heap := h', toks := tk' }) : wpAny M A c Q E s :=
  wpAny_mono h1 (fun f s' hx => by
    obtain ⟨rfl, g, t, h', tk', m', rfl, F', N', k1, k2, hp⟩ := hx
    exact h2 g t h' tk' (ksw_fr (stored := []) k1 k2 F') N' hp) fun _ _ e => e
section
set_option maxHeartbeats 8000000 in
theorem law_box_ok (w : World) (S : Addr) (ws : List Value) (ns : List Int) (hI : IntsAre ws ns) (hlen : ns.length ≤ 63) (news : List (Addr × Obj)) {mean : ExcName → Option Value} {mg mb : Str → Option Value} {dp un : Nat} {gd : Option (List Code)} {cn : Str} {cs : Scope} {a : Addr} {ccd : Value} {cl : List (Str × Addr)} {outer : List Env} {A₀ : Around} {base h₀ : Heap} {L : Addr} {m : Str → Option Value} {s : Shared} {Q E : Value → Shared → Prop}
    (B : Below A₀ base outer h₀) (F : Fr h₀ L s.heap m) (X : (hd.heap_39 w.params).In h₀) (N : News h₀ L s.heap news) (T : Top hd.view_39 (looseW hd.view_39 [Str.ofString "PostError"]) mean mg mb h₀) (hkk : cs.kind = .function) (hd : dp + 5 < recursionLimit) (hu : un + 60 < cLine)
    (hS : h₀.IsList S ws.toArray)
    (hret : ∀ D C cells n9 great state t1 t2 t3 k1 k2 h' tk', IntsAre cells n9 → n9.length ≤ 40 → 0 ≤ great → great < 10 ^ 200 → 0 ≤ state → state < 2147483647 → C < D → (∀ p ∈ news, p.1 < D) → Fr h₀ L h' m →
      News h₀ L h' ((D, listOf #[.ref C, .int great t1, .int state t2, .int 0 t3] k1) :: (C, listOf cells.toArray k2) :: news) → Q (.ref D) { s with heap := h', toks := tk' }) :
    wpAny (model PySem.Challenge.rw_nz0287_01.row.prog w) (ktrTop dp un gd cn cs L a ccd cl outer) (call (.ref 174) [.ref S]) Q E s := by
  k_with_none
  k_with "exec If" => (k_here; refine AtStop.of ?_)
  k_with "exec Assign cons ListComp" => (k_here; k_dflt (refine LCg.Assign_ListComp_U (F₀ := by k_asm) (by rfl) (by with_unfolding_all rfl) (by with_unfolding_all rfl) (by decide) (by rfl) (by decide) (by rfl) (by rfl) (by rfl) ?_))
  k_with "CompSrc" => (k_here; refine AtStop.of ?_)
  k_with "CompEnd" => (refine AtStop.of ?_)
  k_with "exec For Name Name cons nil" => (k_here; (rename Fr _ _ _ _ => lF'); (with_unfolding_all refine' For_turns lF' ?_); k_whole)
  k_with "pyIter ref" => (k_here; refine AtStop.of ?_)
  k_with "ItEnd" => (refine AtStop.of ?_)
  k_with "ItPost" => (dsimp only [ItPost])
  w_top off
  refine wpAny_call ?_
  k_dflt cell_enter
  obtain ⟨o9, ho9, hr9⟩ := hS
  rename Fr h₀ _ _ m => FG
  have hS2 : Heap.IsList _ S ws.toArray := ⟨o9, FG.keep _ _ ho9, hr9⟩
  k_steps
  unfold AtStop
  rename_i D1 vs1 h1 F1 N1 hD1 hI1 hc1 hl1
  have hv1 := hI1.length
  refine LCg.CompSrc.ledger (by rfl) F1 N1 (.head _) (by rw [sizeLine_eq, List.size_toArray]; omega) ?_
  intro g2
  refine restU_ind (fun i ys n => (D1, listOf vs1.toArray 0) :: news = n ∧ IntsAre ys ((ns.take 40).take i)) ?_ ?_ _ _ _ _ (Nat.zero_add _) ⟨rfl, .nil⟩
  · intro ys n hY
    apply eq_and_elim hY
    clear hY
    intro hys
    rw [List.size_toArray, hv1, List.take_length] at hys
    intro D2 h3 tk3 F3 N3 O3
    have hyl := hys.length
    k_steps
    unfold AtStop
    rename News _ _ _ _ => N4
    rename Fr _ _ _ _ => F4
    refine wp_join1 (news := (D2, LCg.lst ys) :: (D1, listOf vs1.toArray 0) :: news) (Str.ofString "great") (fun g => 0 ≤ g ∧ g < 10 ^ 200) F4 ?_ ?_
    · refine wpAny_If ?_
      k_steps
      all_goals
        rename News _ _ _ _ => N5
        rename Fr _ _ _ _ => F5
        exact NextInt.intro _ _ F5 N5 (by kst_all) (by ksw_same) ⟨by first | exact fmod_lo _ (by decide) | decide, by first | exact fmod_hi _ (by decide) | decide⟩
    · clear F4 N4
      intro g tg h4 tk4 F4 N4 hg
      dsimp only [kstB] at F4
      k_steps
      unfold AtStop
      rename News _ _ _ _ => N5
      rename Fr _ _ _ _ => F5
      refine iter_listTurns (by rfl) F5 N5 (.head _) rfl rfl ?_
      intro I hI
      refine' items_state (σ := Int × Tok) (fun c => (D2, LCg.lst ys) :: (D1, listOf vs1.toArray 0) :: news) (fun c => [("state", .int c.1 c.2)]) ["cell"] (fun i c => 0 ≤ c.1 ∧ c.1 < 2147483647) (7, _) ?hk ?hp ?fin ?turn
      case hk => kst_all
      case hp => exact ⟨by show (0 : Int) ≤ 7; decide, by show (7 : Int) < 2147483647; decide⟩
      case turn =>
        intro i a9
        refine two_elim ?_
        intro st t9 u v h9 tk9 o ha hp9
        refine two_facts hp9 ?_
        clear hp9
        intro hp1 hp2 hv F9 ho N9
        dsimp only [kstB] at hp1 hp2 F9 N9 ⊢
        have hi : ys[i]? = some v := by
          rw [List.getElem?_map] at ha
          cases e : ys[i]? with
          | none => rw [e] at ha; cases ha
          | some v' =>
            rw [e] at ha
            have e2 : Itm.val v' = a9 := Option.some.inj ha
            subst e2
            have e3 : v = v' := hv
            rw [e3]
        apply ints_elim hys hi
        clear hi
        intro k u9 hk
        k_steps
        unfold AtStop
        rename News _ _ _ _ => N6
        rename Fr _ _ _ _ => F6
        refine ItEnd.intro (_, _) F6 N6 (fun p hp => hp) (fun p hp => Nat.ne_of_lt (hI p hp)) ⟨.head _, trivial⟩ (by kst_all) (by ksw_same) ⟨fmod_lo _ (by decide), fmod_hi _ (by decide)⟩
      case fin =>
        refine two_elim ?_
        intro st t9 u h9 tk9 hp9
        refine two_facts hp9 ?_
        clear hp9
        intro hp1 hp2 F9 N9
        dsimp only [kstB] at hp1 hp2 F9 N9 ⊢
        k_steps
        rename News _ _ _ _ => N6
        rename Fr _ _ _ _ => F6
        rename _ ∧ _ ∧ AllLt _ _ => l2
        exact hret _ _ _ _ _ _ _ _ _ _ _ _ _ hys (by rw [List.length_take]; omega) hg.1 hg.2 hp1 hp2 l2.1 (allLt_mem l2.2.2) F6 (drop3b N6)
  · intro i ys n hi hY
    apply eq_and_elim hY
    clear hY
    intro hys v I oI C oC D2 m₂ h tk E' hP
    have hv : vs1[i]? = some v := by simpa using hP
    clear hP
    apply ints_elim hI1 hv
    clear hv
    intro k u9 hk hC hx F3 N3 off ne
    k_steps
    unfold AtStop
    exact LCg.CompEnd.intro F3 N3 _ (fun p hp => hp) off (.inr ⟨_, .head _, rfl, _, rfl⟩) ⟨rfl, by rw [List.take_add_one, hk]; exact hys.append (.cons _ _ .nil)⟩
end
end Mine
end

section
/-! part Nz18 -/
open PySem PySem.W PyProof.Rows PySem.Builtin
namespace Mine
set_option maxRecDepth 100000

noncomputable def poolObj (C : Addr) (great state place : Int) (t1 t2 t3 : Tok) (k : Nat) : Obj := listOf #[.ref C, .int great t1, .int state t2, .int place t3] k
noncomputable def DrawBack (D C : Addr) (cells : List Value) (k2 : Nat) (rest : List (Addr × Obj)) (place most : Int) (v : Value) (n : List (Addr × Obj)) : Prop :=
  ∃ r t great state t1 t2 t3 k1, v = .int r t ∧ 0 ≤ r ∧ r < most ∧ 0 ≤ great ∧ great < 10 ^ 200 ∧ 0 ≤ state ∧ state < 2147483647 ∧ n = (D, poolObj C great state (place + 1) t1 t2 t3 k1) :: (C, listOf cells.toArray k2) :: rest

theorem pool_off {C D : Addr} {o : Obj} {rest : List (Addr × Obj)} (hDC : C ≠ D) (hDr : ∀ p ∈ rest, p.1 ≠ D) : ∀ p ∈ (C, o) :: rest, p.1 ≠ D := fun p hp => by
  rcases List.mem_cons.1 hp with rfl | hp
  · exact hDC
  · exact hDr p hp
theorem pool_set {prog : Program} {w : World} {A : Around} {E : Value → Shared → Prop} {s : Shared} {h₀ : Heap} {L D : Addr} {m : Str → Option Value} {news news' : List (Addr × Obj)} {its : Array Value} {n : Nat} {k : Int} {t : Tok} {v : Value} {q : List Value} {Q : Unit → Shared → Prop}
    (F : Fr h₀ L s.heap m) (N : News h₀ L s.heap news) (U : Upd D (listOf its n) (listOf q.toArray n) news news') (h0 : 0 ≤ k) (hfit : k < 2 ^ 63) (e : ki_setL its.toList k.toNat v = some q)
    (h : ∀ h', Fr h₀ L h' m → News h₀ L h' news' → Q () { s with heap := h' }) : wpAny (model prog w) A (setItem (.ref D) (.int k t) v) Q E s := ki_set F N h0 hfit e U h
section
set_option maxHeartbeats 8000000 in
theorem law_draw_ok (w : World) (D C : Addr) (cells : List Value) (ns : List Int) (hI : IntsAre cells ns) (hlen : ns.length ≤ 40) (great state place most : Int) (t1 t2 t3 tm : Tok) (k1 k2 : Nat) (rest : List (Addr × Obj))
    (hg0 : 0 ≤ great) (hg1 : great < 10 ^ 200) (hs0 : 0 ≤ state) (hs1 : state < 2147483647) (hp0 : 0 ≤ place) (hp1 : place ≤ 1000) (hm0 : 1 ≤ most) (hm1 : most ≤ 16) (hDC : C ≠ D) (hDr : ∀ p ∈ rest, p.1 ≠ D) :
    Tell w 181 4 50 [.ref D, .int most tm] ((D, listOf #[.ref C, .int great t1, .int state t2, .int place t3] k1) :: (C, listOf cells.toArray k2) :: rest) (DrawBack D C cells k2 rest place most) False := by
  k_with_none
  k_with "setItem ref int" => (k_here; k_dflt (refine' pool_set (by k_asm) (by k_asm) (by exact .head (pool_off (by assumption) (by assumption))) (by decide) (by decide) (by rfl) ?_); intro h' F' N')
  w_top off
  unfold Tell
  intro mean mg mb dp un gd cn cs a ccd cl outer A₀ base h₀ L m s Q E B F X N T hkk hd hu hret hexc
  have hcl := hI.length
  refine wpAny_call ?_
  k_dflt cell_enter
  have hf0 : 0 ≤ great.fdiv most := by
    rw [Int.fdiv_eq_ediv_of_nonneg _ (by omega)]
    exact Int.ediv_nonneg hg0 (by omega)
  have hf1 : great.fdiv most < 10 ^ 200 := by
    rw [Int.fdiv_eq_ediv_of_nonneg _ (by omega)]
    exact Int.lt_of_le_of_lt (Int.ediv_le_self _ hg0) hg1
  k_steps
  all_goals
    rename News _ _ _ _ => N5
    rename Fr _ _ _ _ => F5
    first
      | exact hret _ _ _ _ ⟨_, _, _, _, _, _, _, _, rfl, fmod_lo _ (by omega), fmod_hi _ (by omega), hf0, hf1, hs0, hs1, rfl⟩ F5 N5
      | exact hret _ _ _ _ ⟨_, _, _, _, _, _, _, _, rfl, fmod_lo _ (by omega), fmod_hi _ (by omega), hg0, hg1, fmod_lo _ (by decide), fmod_hi _ (by decide), rfl⟩ F5 N5
end
end Mine
end

section
/-! part NzLaw -/
open PySem PySem.W PyProof.Rows
namespace Mine
set_option maxRecDepth 100000
theorem one_lt {a D : Addr} {o o' : Obj} (h : ∀ p ∈ [(a, o)], p.1 < D) : ∀ p ∈ [(a, o')], p.1 < D := fun p hp => by
  rw [List.mem_singleton.1 hp]
  exact h (a, o) (.head _)
theorem snoc_small {xs : List Str} {y : Str} (h : ∀ x ∈ xs, x.cps.size ≤ 5) (hy : y.cps.size ≤ 5) : ∀ x ∈ xs ++ [y], x.cps.size ≤ 5 := fun x hx => by
  rcases List.mem_append.1 hx with hx | hx
  · exact h x hx
  · rw [List.mem_singleton.1 hx]; exact hy
theorem strs_at : ∀ {vs : List Value} {ns : List Str}, StrsAre vs ns → ∀ {i : Nat} {v : Value}, vs[i]? = some v → ∃ k u, v = .str k u ∧ ns[i]? = some k
  | _, _, .nil, i, v, h => by simp at h
  | _, _, .cons n t r, 0, v, h => ⟨n, t, (by simpa using h.symm), rfl⟩
  | _, _, .cons n t r, i + 1, v, h => by
    obtain ⟨k, u, e1, e2⟩ := strs_at r (i := i) (v := v) (by simpa using h)
    exact ⟨k, u, e1, by simpa using e2⟩
theorem strs_elim {vs : List Value} {ns : List Str} {i : Nat} {v : Value} {G : Value → Prop} (h : StrsAre vs ns) (hv : vs[i]? = some v) (k : ∀ x u, ns[i]? = some x → G (.str x u)) : G v := by
  obtain ⟨x, u, rfl, hx⟩ := strs_at h hv
  exact k x u hx
theorem strs_len : ∀ {vs : List Value} {ns : List Str}, StrsAre vs ns → vs.length = ns.length
  | _, _, .nil => rfl
  | _, _, .cons _ _ r => congrArg (· + 1) (strs_len r)
theorem ne_nil {prog : Program} {w : World} {A : Around} {E : Value → Shared → Prop} {s : Shared} {h₀ : Heap} {L D D0 : Addr} {news : List (Addr × Obj)} {ys : List Value} {n n0 : Nat} {Q : Value → Shared → Prop} (N : News h₀ L s.heap news) (h1 : (D, listOf ys.toArray n) ∈ news) (h2 : (D0, listOf #[] n0) ∈ news) (hu : A.units < cLine)
    (h : Q (.bool (!ys.isEmpty)) s) : wpAny (model prog w) A (compareOp .NotEq (.ref D) (.ref D0)) Q E s := by
  cases ys with
  | nil => exact (SeqAt.RcNeAt.lists (e := fun _ => true) (news_list N h1) (news_list N h2) rfl hu (fun j h1 _ => absurd h1 (Nat.not_lt_zero j))) prog w E Q h
  | cons y r => exact (SeqAt.RcNeAt.lists_lengths (news_list N h1) (news_list N h2) (by simp) hu) prog w E Q h
noncomputable def badC (c : Int) : Bool := decide (255 < c) || decide (c = 10 ∨ c = 0 ∨ c = 13)
theorem bad_mem (c : Nat) : c ∈ (Str.ofString "\n\x00\r").cps.toList ↔ ((c : Int) = 10 ∨ (c : Int) = 0 ∨ (c : Int) = 13) := by
  have e : (Str.ofString "\n\x00\r").cps.toList = [10, 0, 13] := by decide +kernel
  rw [e]
  simp only [List.mem_cons, List.not_mem_nil, or_false]
  exact or_congr (nat_is c 10) (or_congr (nat_is c 0) (nat_is c 13))
theorem split_codes2 (x : Str) : (Txt.split x (Str.ofString " ")).map codes = splitK (codes x) := by
  have e : Str.ofString " " = ⟨#[32]⟩ := by decide +kernel
  rw [e]
  exact split_codes x
theorem bad_next {x : Str} {i c : Nat} {b : Bool} (hat : (codes x).take (i + 1) = (codes x).take i ++ [(c : Int)]) (hb : badC c = b) : ((codes x).take (i + 1)).any badC = (((codes x).take i).any badC || b) := by
  rw [hat, List.any_append, List.any_cons, List.any_nil, Bool.or_false, hb]
theorem codes_in {x : Str} (h : ∀ c ∈ codes x, c ≤ 255) : KBa.In (codes x) := by
  intro k hk
  refine ⟨?_, by have := h k hk; omega⟩
  unfold codes at hk
  obtain ⟨c, _, rfl⟩ := List.mem_map.1 hk
  exact Int.natCast_nonneg c
theorem not_bad {x : Str} (h1 : ∀ c ∈ codes x, c ≤ 255) (h2 : ∀ k ∈ codes x, k ≠ 0 ∧ k ≠ 10 ∧ k ≠ 13) : (codes x).any badC = false := by
  rw [List.any_eq_false]
  intro c hc
  have a := h1 c hc
  have b := h2 c hc
  unfold badC
  rw [decide_eq_false (Int.not_lt.2 a), decide_eq_false fun h => h.elim b.2.1 fun h => h.elim b.1 b.2.2]
  decide
theorem is_bad {x : Str} (h : (∃ c ∈ codes x, 255 < c) ∨ ∃ k ∈ codes x, k = 0 ∨ k = 10 ∨ k = 13) : (codes x).any badC = true := by
  rw [List.any_eq_true]
  rcases h with ⟨c, hc, h⟩ | ⟨c, hc, h⟩
  · exact ⟨c, hc, by unfold badC; rw [decide_eq_true h]; rfl⟩
  · refine ⟨c, hc, ?_⟩
    unfold badC
    rw [decide_eq_true (p := c = 10 ∨ c = 0 ∨ c = 13) (h.elim (fun h => .inr (.inl h)) fun h => h.elim .inl fun h => .inr (.inr h)), Bool.or_true]
theorem same_ne {b c : Array UInt8} {ks : List Int} (h1 : KBw.bInts b = ks) (h2 : KBw.bInts c = ks) : (b.toList != c.toList) = false := by
  rw [ints_of (h1.trans h2.symm)]
  simp
theorem same_eq {b c : Array UInt8} {ks : List Int} (h1 : KBw.bInts b = ks) (h2 : KBw.bInts c = ks) : (b.toList == c.toList) = true := by
  rw [ints_of (h1.trans h2.symm)]
  simp
theorem draw_off {I C9 D6 C D A : Addr} {oI oC oD o1 o2 o3 : Obj} (off : LCg.Off3 I C9 D6 [(D, o1), (C, o2), (A, o3)]) (h : A ≠ D) : ∀ p ∈ [(I, oI), (C9, oC), (D6, oD), (A, o3)], p.1 ≠ D := by
  intro p hp
  simp only [LCg.Off3, and_true] at off
  simp only [List.mem_cons, List.not_mem_nil, or_false] at hp
  rcases hp with rfl | rfl | rfl | rfl
  · exact fun e => off.1.1 e.symm
  · exact fun e => off.1.2.1 e.symm
  · exact fun e => off.1.2.2 e.symm
  · exact h
theorem strs_snoc : ∀ {vs : List Value} {ns : List Str}, StrsAre vs ns → ∀ (x : Str) (t : Tok), StrsAre (vs ++ [.str x t]) (ns ++ [x])
  | _, _, .nil, x, t => .cons x t .nil
  | _, _, .cons y u r, x, t => .cons y u (strs_snoc r x t)
theorem toks_led {vs : List Value} {ts : List (Str × List Int × Int)} {led r : List (Addr × Obj)} (h : TokAre vs ts led) :
    ∀ (i : Nat) (v : Value), vs[i]? = some v → ∃ k, ts[i]? = some k ∧ TokIn (led ++ r) v k := fun i v e => by
  obtain ⟨k, e1, e2⟩ := h.at e
  exact ⟨k, e1, e2.mono fun p hp => List.mem_append_left _ hp⟩
theorem idx_small {i : Nat} {r : Int} (h : i < r.toNat) (h1 : r < 10) : (i : Int) + 1 ≤ 1000 := by omega
theorem draw_sub {I C9 D6 C D A : Addr} {oI oC oD o1 o2 o3 : Obj} : ∀ p ∈ [(I, oI), (C9, oC), (D6, oD), (D, o1), (C, o2), (A, o3)], p ∈ [(D, o1), (C, o2), (I, oI), (C9, oC), (D6, oD), (A, o3)] := by
  intro p hp
  simp only [List.mem_cons, List.not_mem_nil, or_false] at hp ⊢
  rcases hp with h | h | h | h | h | h <;> simp [h]
theorem signs_small : ∀ k < 16, (([Str.ofString "a", Str.ofString "Z9", Str.ofString " ", Str.ofString ".", Str.ofString "\"", Str.ofString "\\", Str.ofString "é", Str.ofString "(", Str.ofString "'x", Str.ofString "\t", Str.ofString "<", Str.ofString "=?b?=", Str.ofString "\n", Str.ofString "\x00", Str.ofString "Ā", Str.ofString "@"] : List Str).getD k Str.empty).cps.size ≤ 5 := by decide +kernel
theorem DrawBack.elim {D C : Addr} {cells : List Value} {k2 : Nat} {rest n : List (Addr × Obj)} {place most : Int} {v : Value} {G : Value → List (Addr × Obj) → Prop} (h : DrawBack D C cells k2 rest place most v n)
    (k : ∀ r t great state t1 t2 t3 k1, 0 ≤ r → r < most → 0 ≤ great → great < 10 ^ 200 → 0 ≤ state → state < 2147483647 → G (.int r t) ((D, poolObj C great state (place + 1) t1 t2 t3 k1) :: (C, listOf cells.toArray k2) :: rest)) : G v n := by
  obtain ⟨r, t, great, state, t1, t2, t3, k1, rfl, a, b, c, d, e, f, rfl⟩ := h
  exact k r t great state t1 t2 t3 k1 a b c d e f
noncomputable def PoolY (D C A : Addr) (cells : List Value) (k2 : Nat) (oA : Obj) (i : Nat) (ys : List Value) (n : List (Addr × Obj)) : Prop :=
  ∃ great state t1 t2 t3 k xs, n = [(D, poolObj C great state ((i : Int) + 1) t1 t2 t3 k), (C, listOf cells.toArray k2), (A, oA)] ∧ 0 ≤ great ∧ great < 10 ^ 200 ∧ 0 ≤ state ∧ state < 2147483647 ∧ StrsAre ys xs ∧ (∀ x ∈ xs, x.cps.size ≤ 5) ∧ ys.length = i
theorem PoolY.elim {D C A : Addr} {cells : List Value} {k2 : Nat} {oA : Obj} {i : Nat} {ys : List Value} {n : List (Addr × Obj)} {G : List (Addr × Obj) → Prop} (h : PoolY D C A cells k2 oA i ys n)
    (k : ∀ great state t1 t2 t3 k1 xs, 0 ≤ great → great < 10 ^ 200 → 0 ≤ state → state < 2147483647 → StrsAre ys xs → (∀ x ∈ xs, x.cps.size ≤ 5) → ys.length = i → G [(D, poolObj C great state ((i : Int) + 1) t1 t2 t3 k1), (C, listOf cells.toArray k2), (A, oA)]) : G n := by
  obtain ⟨great, state, t1, t2, t3, k1, xs, rfl, a, b, c, d, e, f, g⟩ := h
  exact k great state t1 t2 t3 k1 xs a b c d e f g
theorem ToksBack.elim {news n : List (Addr × Obj)} {ts : List (Str × List Int × Int)} {v : Value} {G : Value → List (Addr × Obj) → Prop} (h : ToksBack news ts v n)
    (k : ∀ D vs nn led, TokAre vs ts led → G (.ref D) (led ++ (D, listOf vs.toArray nn) :: news)) : G v n := by
  obtain ⟨D, vs, nn, led, rfl, rfl, a, _, _⟩ := h
  exact k D vs nn led a
/-- what phrase_octets hands back, with how it is read back -/
theorem phrase_elim {w : World} {x : Str} {news n : List (Addr × Obj)} {v : Value} {G : Value → List (Addr × Obj) → Prop} (hx : x.cps.size ≤ 45)
    (h : n = news ∧ (∀ c ∈ codes x, c ≤ 255) ∧ ∃ b t, v = .bytes b t ∧ ((bareK (codes x) = true ∧ KBw.bInts b = codes x) ∨ (bareK (codes x) = false ∧ (∀ k ∈ codes x, k ≠ 0 ∧ k ≠ 10 ∧ k ≠ 13) ∧ KBw.bInts b = 34 :: (escs (codes x) ++ [34]))))
    (k : ∀ b t ks ts, KBa.In (codes x) → (∀ c ∈ codes x, c ≤ 255) → ((bareK (codes x) = true ∧ KBw.bInts b = codes x) ∨ (bareK (codes x) = false ∧ KBw.bInts b = 34 :: (escs (codes x) ++ [34]))) → KBw.bInts b = ks → ReadBack w b t ks (codes x) ts → ks.length ≤ 1000 → (codes x).any badC = false → G (.bytes b t) news) : G v n := by
  obtain ⟨rfl, hle, b, t, rfl, hc⟩ := h
  rcases hc with ⟨hbt, hk⟩ | ⟨hbf, hno, hk⟩
  · obtain ⟨ts, RB⟩ := read_bare (w := w) (tb := t) hk (by rw [codes_len]; omega) hbt
    exact k b t _ ts (codes_in hle) hle (.inl ⟨hbt, hk⟩) hk RB (by rw [codes_len]; omega) (not_bad hle (bare_no hbt))
  · obtain ⟨ts, RB⟩ := read_quoted (w := w) (tb := t) hk (by rw [codes_len]; omega) hno
    have hel := escs_len (codes x)
    rw [codes_len] at hel
    exact k b t _ ts (codes_in hle) hle (.inr ⟨hbf, hk⟩) hk RB (by simp only [List.length_cons, List.length_append, List.length_nil]; omega) (not_bad hle hno)
section
set_option maxHeartbeats 80000000 in
theorem law_holds : PySem.Challenge.rw_nz0287_01.Holds := hd (by
  k_with_none
  k_with "exec If" => (k_here; refine AtStop.of ?_)
  k_with "CompStrU" => (k_here; k_dflt (refine CompStrU.intro (by rfl) (by k_asm) (by k_asm) (by rw [sizeLine_eq]; omega) ?_); intro g'; refine AtStop.of ?_)
  k_with "call type:bytes" => (k_here; (with_reducible show wpAny _ _ (call (Value.type _) [Value.ref _]) _ _ _); k_dflt (refine' KBa.make_K (by k_asm) (by k_asm) (by exact rfl) (news_list (by k_asm) (.head _)) (by assumption) (by assumption) (by (rw [codes_len]; omega)) ?_); intro h' t' k' F' N' hI')
  k_with "call ref" => (k_here; (with_reducible show wpAny _ _ (call (Value.ref 193) [Value.str _ _]) _ _ _); k_dflt (refine' tell_use (law_quoted_ok _ _ _ _ (by omega) (by assumption)) (by k_asm) (by k_asm) (by k_asm) (by k_asm) (by k_asm) (by first | exact rfl | assumption) (by ktr_room) (by ktr_units) ?_ (fun hx => hx.elim)); intro v' n' h' tk' hv'; apply bytes_elim hv'; clear hv'; intro b' t' hb' F' N')
  k_with "call ref" => (k_here; (with_reducible show wpAny _ _ (call (Value.ref 125) [Value.bytes _ _]) _ _ _); refine AtStop.of ?_)
  k_with "call ref" => (k_here; (with_reducible show wpAny _ _ (call (Value.ref 137) [Value.ref _]) _ _ _); refine AtStop.of ?_)
  k_with "compareOp NotEq bytes bytes" => (k_here; refine AtStop.of ?_)
  k_with "compareOp Eq bytes bytes" => (k_here; refine AtStop.of ?_)
  k_with "exec Try" => (k_here; k_dflt (refine wpAny_Try_except ?_))
  k_with "call ref" => (k_here; (with_reducible show wpAny _ _ (call (Value.ref 168) [Value.str _ _]) _ _ _); refine AtStop.of ?_)
  k_with "call ref" => (k_here; (with_reducible show wpAny _ _ (call (Value.ref 186) [Value.str _ _]) _ _ _); k_dflt (refine' tell_use (law_is_atom_ok _ _ _ _ (by omega)) (by k_asm) (by k_asm) (by k_asm) (by k_asm) (by k_asm) (by first | exact rfl | assumption) (by ktr_room) (by ktr_units) ?_ (fun hx => hx.elim)); intro v' n' h' tk' hv'; apply bool_elim hv'; clear hv'; intro F' N')
  k_with "compareOp Eq ref ref" => (k_here; refine AtStop.of ?_)
  k_with "compareOp NotEq ref ref" => (k_here; refine AtStop.of ?_)
  k_with "compareOp In str str" => (k_here; k_dflt (refine PySem.P.in_str ?_); rw [PySem.StrLaws.found_one])
  k_with "call builtin:ord" => (k_here; (with_reducible show wpAny _ _ (call (Value.builtin _) [Value.str _ _]) _ _ _); k_dflt (refine PySem.P.ord_of_char ?_))
  k_with "CompStrT" => (k_here; k_dflt (refine CompStrT.intro (by rfl) (by k_asm) (by k_asm) (by rw [sizeLine_eq]; omega) ?_); intro g'; refine AtStop.of ?_)
  k_with "CompSrcT" => (k_here; refine AtStop.of ?_)
  k_with "call builtin:str.join" => (k_here; refine AtStop.of ?_)
  k_with "call builtin:str.split" => (k_here; refine AtStop.of ?_)
  k_with "eval ListComp" => (k_here; (with_reducible show wpAny _ _ (eval (Expr.ListComp _ [⟨_, Expr.Call _ _ _ _, [_], 0⟩] _ _) _) _ _ _); k_dflt (refine LCt.ListComp_T (F₀ := by k_asm) (by with_unfolding_all rfl) (by decide) (by rfl) (by decide) (by rfl) ?_))
  k_with "eval ListComp" => (k_here; (with_reducible show wpAny _ _ (eval (Expr.ListComp _ [⟨_, Expr.Name _ _, [_], 0⟩] _ _) _) _ _ _); k_dflt (refine ListComp_strT (F₀ := by k_asm) (by with_unfolding_all rfl) (by decide) (by rfl) (by decide) (by rfl) ?_))
  k_with "eval ListComp" => (k_here; (with_reducible show wpAny _ _ (eval (Expr.ListComp _ [⟨_, Expr.Name _ _, [], 0⟩] _ _) _) _ _ _); k_dflt (refine ListComp_strU (F₀ := by k_asm) (by with_unfolding_all rfl) (by decide) (by rfl) (by decide) (by rfl) ?_))
  k_with "CompSrc" => (k_here; refine AtStop.of ?_)
  k_with "CompEnd" => (refine AtStop.of ?_)
  k_with "call ref" => (k_here; (with_reducible show wpAny _ _ (call (Value.ref 181) [Value.ref _, Value.int _ _]) _ _ _); refine AtStop.of ?_)
  k_with "call ref" => (k_here; (with_reducible show wpAny _ _ (call (Value.ref 174) [Value.ref _]) _ _ _); refine AtStop.of ?_)
  k_go0
  rename Shared => s1
  rename World => w0
  all_goals try k_fold
  k_steps
  unfold AtStop
  rename News _ _ _ _ => N1
  rename Fr _ _ _ _ => F1
  rename Below _ _ _ _ => B1
  rename IntsAre _ _ => I1
  rename Frag.In _ _ => X1
  rename Top _ _ _ _ _ _ => T1
  rename Heap.IsList _ _ _ => L1
  k_dflt (refine' law_box_ok _ _ _ _ I1 ?h1 _ B1 F1 X1 N1 T1 ?h2 ?h3 ?h4 L1 ?_)
  case h1 => omega
  case h2 => exact rfl
  case h3 => ktr_room
  case h4 => ktr_units
  intro D C cells n9 great state t1 t2 t3 k1 k2 h2 tk2 hI9 hl9 hg0 hg1 hs0 hs1 hCD hDn F2 N2
  k_steps
  unfold AtStop
  rename News _ _ _ _ => N3
  rename Fr _ _ _ _ => F3
  rename Below _ _ _ _ => B3
  rename Frag.In _ _ => X3
  rename Top _ _ _ _ _ _ => T3
  rename_i oCell hCell
  simp only [List.cons_append, List.nil_append] at N3
  k_dflt (refine' tell_use (law_draw_ok _ D C cells n9 hI9 hl9 great state 0 10 t1 t2 t3 _ k1 k2 _ hg0 hg1 hs0 hs1 (by decide) (by decide) (by decide) (by decide) (Nat.ne_of_lt hCD) (all_ne (one_lt hDn))) B3 F3 X3 N3 T3 rfl ?kd ?ku ?_ (fun hx => hx.elim))
  case kd => ktr_room
  case ku => ktr_units
  intro v4 n4 h4 tk4 hv4
  apply DrawBack.elim hv4
  clear hv4
  intro r tr great4 state4 ta tb tc kp hr0 hr1 hg4 hg5 hs4 hs5 F4 N4
  k_steps
  unfold AtStop
  rename News _ _ _ _ => N5
  rename Fr _ _ _ _ => F5
  rename IsRange _ _ _ _ _ _ _ _ => R5
  refine LCg.CompSrc.range (n := r.toNat) (by rfl) F5 N5 R5 (small_one (by omega) (by omega) (by omega) (by omega)) (by rw [rangeSize_nat, Int.sub_zero]) (by rw [sizeLine_eq]; omega) ?_
  intro g2
  refine restU_ind (PoolY D C (s1.heap.objs.size + 1) cells k2 oCell) ?_ ?_ _ _ _ _ (Nat.zero_add _) ⟨_, _, _, _, _, _, [], rfl, hg4, hg5, hs4, hs5, .nil, (fun _ h => nomatch h), rfl⟩
  · intro ys' n hY
    apply PoolY.elim hY
    clear hY
    intro great6 state6 t16 t26 t36 k6 xs _ _ _ _ hxs hx5 hyl D6 h6 tk6 F6 N6 O6
    have hxl := hxs.length
    refine two_facts (join_small (n := 9) hx5 (by omega)) ?_
    intro hj1 hj2
    k_steps
    unfold AtStop
    rename News _ _ _ _ => N7
    refine join_listW (news_list N7 (.head _)) (by simpa using hxs) (by decide) (by omega) ?_
    intro tx kx
    generalize Txt.join (Str.ofString "") xs = x at *
    k_steps
    unfold AtStop
    rename News _ _ _ _ => N8
    rename Fr _ _ _ _ => F8
    refine KSpl.split1 F8 N8 (by decide) ?_ (by rw [sizeLine_eq]; show x.cps.size + 2 ≤ _; omega)
    intro D9 l h9 k9 hl hS9 F9 N9 hD9
    have hsp : (l.map (·.1)).map codes = splitK (codes x) := by rw [hl]; exact split_codes2 x
    have hsl := strs_len hS9
    have hsn : (l.map (·.1)).length ≤ x.length + 2 := by rw [hl]; exact split_le _ _
    have hxl : x.length = x.cps.size := rfl
    refine LCt.CompSrcT.ledger (by rfl) F9 N9 (.head _) (by rw [sizeLine_eq, List.size_toArray]; omega) ?_
    intro g9
    refine restT_ind (fun i ys n => (D9, listOf (strValues l).toArray 0) :: [(D6, LCg.lst ys'), (D, poolObj C great6 state6 (r.toNat + 1) t16 t26 t36 k6), (C, listOf cells.toArray k2), (s1.heap.objs.size + 1, oCell)] = n ∧ ys.isEmpty = (((l.map (·.1)).map codes).take i).all atomW) ?_ ?_ _ _ _ _ (Nat.zero_add _) ⟨rfl, rfl⟩
    · intro ys9 n9' hY
      apply eq_and_elim hY
      clear hY
      intro hys9
      rw [List.size_toArray, hsl, ← List.length_map (f := codes), List.take_length, hsp] at hys9
      intro D10 h10 tk10 F10 N10 O10
      k_steps
      unfold AtStop
      rename News _ _ _ _ => N11
      refine eq_nil N11 (.tail _ (.head _)) (.head _) (by ktr_units) ?_
      rw [hys9]
      have hbare : (splitK (codes x)).all atomW = bareK (codes x) := rfl
      rw [hbare]
      generalize hbk : bareK (codes x) = bk at *
      have N12 : News _ _ _ [((s1.heap.objs.size + 1 : Nat), oCell)] := fun p hp => N11 p (.tail _ (.tail _ (.tail _ (.tail _ (.tail _ (.tail _ hp))))))
      clear N11
      k_steps
      unfold AtStop
      refine restT_ind (fun i ys n => [((s1.heap.objs.size + 1 : Nat), oCell)] = n ∧ ys.isEmpty = !((codes x).take i).any badC) ?_ ?_ _ _ _ _ (Nat.zero_add _) ⟨rfl, rfl⟩
      · intro ysb nb hY
        apply eq_and_elim hY
        clear hY
        intro hysb
        rw [← codes_len, List.take_length] at hysb
        intro D13 h13 tk13 F13 N13 O13
        k_steps
        unfold AtStop
        rename News _ _ _ _ => N14
        refine ne_nil N14 (.tail _ (.head _)) (.head _) (by ktr_units) ?_
        have N15 : News _ _ _ [((s1.heap.objs.size + 1 : Nat), oCell)] := fun p hp => N14 p (.tail _ (.tail _ hp))
        clear N14
        rw [show (!ysb.isEmpty) = (codes x).any badC by rw [hysb, Bool.not_not]]
        generalize hbd : (codes x).any badC = bd at *
        k_steps
        unfold AtStop
        rename News _ _ _ _ => N16
        rename Fr _ _ _ _ => F16
        k_dflt (refine' tell_use (phrase_octets_ok _ x tx _ ?q1) B3 F16 X3 N16 T3 rfl ?kd ?ku ?_ ?_)
        case q1 => omega
        case kd => ktr_room
        case ku => ktr_units
        · intro v17 n17 h17 tk17 hv17
          apply phrase_elim (w := w0) hj1 hv17
          clear hv17
          intro b17 t17 ks17 ts hin hle17 hc17 hk18 RB hkl hbd2 F17 N17
          rw [hbd] at hbd2
          subst hbd2
          k_steps
          unfold AtStop
          rename Fr _ _ _ _ => F18
          rename News _ _ _ _ => N18
          refine wp_keep F18 N18 ?_ ?_
          · rcases hc17 with ⟨hbt, hk17⟩ | ⟨hbf, hk17⟩
            · rw [hbk] at hbt
              subst hbt
              refine wpAny_If ?_
              k_steps
              unfold AtStop
              refine restU_ind (fun i ys n => [((s1.heap.objs.size + 1 : Nat), oCell)] = n ∧ IntsAre ys ((codes x).take i)) ?_ ?_ _ _ _ _ (Nat.zero_add _) ⟨rfl, .nil⟩
              · intro ysi ni hY
                apply eq_and_elim hY
                clear hY
                intro hysi
                rw [← codes_len, List.take_length] at hysi
                intro D20 h20 tk20 F20 N20 O20
                k_steps
                unfold AtStop
                rename KBa.In _ => hI20
                refine ne_bytes ?_
                rw [same_ne hk17 (KBa.ints_make hI20)]
                k_steps
                rename Fr _ _ _ _ => F21
                rename News _ _ _ _ => N21
                exact NextSt.intro () F21 (fun p hp => N21 p (.tail _ hp)) trivial
              · intro i ysi ni hii hY
                apply eq_and_elim hY
                clear hY
                intro hysi v I oI C9 oC D20 m₂ h tk E' hP
                apply sign_elim hP
                clear hP
                intro c u2 hc hC hx F20 N20 off ne
                have hat := codes_next hc
                k_steps
                unfold AtStop
                exact LCg.CompEnd.intro F20 N20 _ (fun p hp => hp) off trivial ⟨rfl, by rw [hat]; exact hysi.append (.cons _ _ .nil)⟩
            · rw [hbk] at hbf
              subst hbf
              have hel := escs_len (codes x)
              rw [codes_len] at hel
              refine wpAny_If ?_
              k_steps
              unfold AtStop
              rename KBw.bInts _ = 34 :: _ => hq20
              refine ne_bytes ?_
              rw [same_ne hk17 hq20]
              k_steps
              rename Fr _ _ _ _ => F21
              rename News _ _ _ _ => N21
              exact NextSt.intro () F21 N21 trivial
          · clear F18 N18
            intro h19 tk19 F19 N19
            k_steps
            unfold AtStop
            rename News _ _ _ _ => N30
            rename Fr _ _ _ _ => F30
            k_dflt (refine' tell_use (tokens_of_ok w0 b17 t17 _ ts _ hk18 ?qz1 RB.few RB.no RB.scan) B3 F30 X3 N30 T3 rfl ?kd ?ku ?_ (fun hx => hx.elim))
            case qz1 => exact hkl
            case kd => ktr_room
            case ku => ktr_units
            (intro v31 n31 h31 tk31 hv31; apply ToksBack.elim hv31; clear hv31; intro D31 vs31 nn31 led31 hT31 F31 N31)
            k_steps
            unfold AtStop
            rename News _ _ _ _ => N32
            rename Fr _ _ _ _ => F32
            k_dflt (refine' tell_use (phrase_of_ok w0 D31 vs31 nn31 ts _ (List.mem_append_right _ (.head _)) ?qz2 ?qz3 RB.kinds hT31.len ?qz4) B3 F32 X3 N32 T3 rfl ?kd ?ku ?_ (fun hx => hx.elim))
            case qz2 => (rw [hT31.len]; exact RB.few)
            case qz3 => exact toks_led hT31
            case qz4 => (rw [RB.words, codes_len]; omega)
            case kd => ktr_room
            case ku => ktr_units
            (intro v33 n33 h33 tk33 hv33; apply bytes_elim hv33; clear hv33; intro b33 t33 hb33 F33 N33)
            rw [RB.words] at hb33
            have N34 : News _ _ _ [((s1.heap.objs.size + 1 : Nat), oCell)] := fun p hp => N33 p (List.mem_append_right _ (.tail _ hp))
            clear N33
            k_steps
            unfold AtStop
            refine restU_ind (fun i ys n => [((s1.heap.objs.size + 1 : Nat), oCell)] = n ∧ IntsAre ys ((codes x).take i)) ?_ ?_ _ _ _ _ (Nat.zero_add _) ⟨rfl, .nil⟩
            · intro ysi4 ni4 hY
              apply eq_and_elim hY
              clear hY
              intro hysi4
              rw [← codes_len, List.take_length] at hysi4
              intro D24 h24 tk24 F24 N24 O24
              k_steps
              unfold AtStop
              rename KBa.In _ => hI24
              refine eq_bytes ?_
              rw [same_eq hb33 (KBa.ints_make hI24)]
              k_steps
            · intro i ysi4 ni4 hii4 hY
              apply eq_and_elim hY
              clear hY
              intro hysi4 v I oI C9 oC D24 m₂ h tk E' hP
              apply sign_elim hP
              clear hP
              intro c u2 hc hC hx F24 N24 off ne
              have hat := codes_next hc
              k_steps
              unfold AtStop
              exact LCg.CompEnd.intro F24 N24 _ (fun p hp => hp) off trivial ⟨rfl, by rw [hat]; exact hysi4.append (.cons _ _ .nil)⟩
        · intro hx17 e17 h17 tk17 g17 F17 R17 U17
          have hbd2 := is_bad (hx17.imp id fun h => h.2)
          rw [hbd] at hbd2
          subst hbd2
          refine caught_wf B3 F17 U17 R17 X3 ?_ ?_
          · intro s₁ Q₁ E₁ F₁ hq
            k_steps
            exact hq
          · intro h18 F18 N18
            k_steps
            all_goals first | done | (dsimp only; k_steps)
      · intro i ysb nb hib hY
        apply eq_and_elim hY
        clear hY
        intro hysb v I oI C9 oC D13 m₂ h tk E' hP
        apply sign_elim hP
        clear hP
        intro c u2 hc hC hx F13 N13 off ne
        have hat := codes_next hc
        k_steps
        · unfold AtStop
          rename 255 < (_ : Int) => hbig
          have hb : badC c = true := by unfold badC; rw [decide_eq_true hbig]; rfl
          exact LCg.CompEnd.intro F13 N13 _ (fun p hp => hp) off trivial ⟨rfl, by rw [bad_next hat hb]; simp⟩
        · unfold AtStop
          rename c ∈ _ => hm
          have hb : badC c = true := by unfold badC; rw [decide_eq_true ((bad_mem c).1 hm), Bool.or_true]
          exact LCg.CompEnd.intro F13 N13 _ (fun p hp => hp) off trivial ⟨rfl, by rw [bad_next hat hb]; simp⟩
        · unfold AtStop
          rename ¬ c ∈ _ => hm
          rename ¬ 255 < (_ : Int) => hbig
          have hb : badC c = false := by unfold badC; rw [decide_eq_false hbig, decide_eq_false (fun e => hm ((bad_mem c).2 e))]; rfl
          exact LCg.CompEnd.intro F13 N13 _ (fun p hp => hp) off trivial ⟨rfl, by rw [bad_next hat hb, Bool.or_false]; exact hysb⟩
    · intro i ys9 n9' hi9 hY
      apply eq_and_elim hY
      clear hY
      intro hys9 v I oI C9 oC D10 m₂ h tk E' hP
      have hv : (strValues l)[i]? = some v := by simpa using hP
      clear hP
      apply strs_elim hS9 hv
      clear hv
      intro wy wt hwy hC hx F10 N10 off ne
      have hwl : wy.cps.size ≤ x.cps.size := part_short (x := x) (y := Str.ofString " ") (a := wy) (by rw [← hl]; exact List.mem_of_getElem? hwy)
      have hat : ((l.map (·.1)).map codes).take (i + 1) = ((l.map (·.1)).map codes).take i ++ [codes wy] := by
        rw [List.take_add_one, List.getElem?_map, hwy]
        rfl
      k_steps
      · unfold AtStop
        rename News _ _ _ _ => N5
        rename Fr _ _ _ _ => F5
        rename atomW _ = true => ha
        exact LCg.CompEnd.intro F5 N5 _ (fun p hp => hp) off (.inr ⟨_, .head _, rfl, _, rfl⟩) ⟨rfl, by rw [hat, List.all_append, hys9]; simp [ha]⟩
      · unfold AtStop
        rename News _ _ _ _ => N5
        rename Fr _ _ _ _ => F5
        rename atomW _ = false => ha
        exact LCg.CompEnd.intro F5 N5 _ (fun p hp => hp) off (.inr ⟨_, .head _, rfl, _, rfl⟩) ⟨rfl, by rw [hat, List.all_append]; simp [ha]⟩
  · intro i ys' n hir hY
    apply PoolY.elim hY
    clear hY
    intro great6 state6 t16 t26 t36 k6 xs hga hgb hsa hsb hxs hx5 hyl v I oI C9 oC D6 m₂ h6 tk6 E' hP hC hx F6 N6 off ne
    obtain ⟨t77, rfl⟩ := hP
    k_steps
    unfold AtStop
    rename News _ _ _ _ => N7
    rename Fr _ _ _ _ => F7
    have N8 : News _ _ _ ((D, poolObj C great6 state6 ((i : Int) + 1) t16 t26 t36 k6) :: (C, listOf cells.toArray k2) :: [(I, oI), (C9, oC), (D6, LCg.lst ys'), (s1.heap.objs.size + 1, oCell)]) := fun p hp => N7 p (by
      simp only [List.mem_cons, List.not_mem_nil, or_false] at hp ⊢
      rcases hp with h | h | h | h | h | h <;> simp [h])
    clear N7
    k_dflt (refine' tell_use (law_draw_ok w0 D C cells n9 hI9 hl9 great6 state6 ((i : Int) + 1) 16 t16 t26 t36 _ k6 k2 _ hga hgb hsa hsb ?qa ?qb (by decide) (by decide) (Nat.ne_of_lt hCD) ?qc) B3 F7 X3 N8 T3 rfl ?kd ?ku ?_ (fun hx => hx.elim))
    case qa => omega
    case qb => exact idx_small hir hr1
    case qc => exact draw_off off (Nat.ne_of_lt (hDn _ (.head _)))
    case kd => ktr_room
    case ku => ktr_units
    intro v8 n8 h8 tk8 hv8
    apply DrawBack.elim hv8
    clear hv8
    intro r8 tr8 great8 state8 ta8 tb8 tc8 kp8 hr80 hr81 hg8 hg9 hs8 hs9 F8 N8
    k_steps
    unfold AtStop
    rename News _ _ _ _ => N9
    rename Fr _ _ _ _ => F9
    rename Int.toNat _ < _ => hr9
    exact LCg.CompEnd.intro F9 N9 [(D, poolObj C great8 state8 (((i + 1 : Nat) : Int) + 1) ta8 tb8 tc8 kp8), (C, listOf cells.toArray k2), ((s1.heap.objs.size + 1 : Nat), oCell)] (draw_sub (o1 := poolObj C great8 state8 (((i + 1 : Nat) : Int) + 1) ta8 tb8 tc8 kp8)) off trivial ⟨great8, state8, ta8, tb8, tc8, kp8, _, rfl, hg8, hg9, hs8, hs9, strs_snoc hxs _ _, snoc_small hx5 (signs_small _ hr9), by rw [List.length_append, hyl]; rfl⟩)
end
end Mine
end

theorem PySem.Challenge.cw_nz0287_01_holds : PySem.Challenge.rw_nz0287_01.Holds := by
  exact Mine.law_holds
