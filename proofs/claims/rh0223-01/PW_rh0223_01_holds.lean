import PyProof.Rows.All
import Wide.All
import OpenK.AllK
import Wide.FinOn
import Lean
import PySem.Challenge.RW_rh0223_01
set_option Elab.async false
set_option maxRecDepth 100000
set_option maxHeartbeats 0
namespace Mine
open PySem PySem.W PyProof.Rows
open_top hd for PySem.Challenge.rw_rh0223_01
end Mine
namespace Mine
open PySem PySem.W PySem.W.X PyProof.Rows
abbrev mwObj (e : Addr) : Obj := { cls := .type "method-wrapper", data := .fields #[.builtin "Exception.__init__", .ref e] }
def MwMade (h : Heap) (e q : Addr) (h' : Heap) : Prop :=
  (∀ b o, h.get? b = some o → h'.get? b = some o) ∧ h.get? q = none ∧ h'.get? q = some (mwObj e)
theorem mw_close {h h' : Heap} {e q : Addr} {oq : Obj} (D : Mem h h' [] [(q, oq)]) (he : oq = mwObj e) : MwMade h e q h' := by
  subst he
  have Dq := D.nw (q, mwObj e) (List.Mem.head _)
  exact ⟨fun b o z => D.keep b o z (by simp [away]), Dq.2, Dq.1⟩
theorem mw_use {h h' : Heap} {e q : Addr} {g : Array GenState} {d : Drawn} {os : OsState} {tk : Nat} {Q : Value → Shared → Prop}
    (hQ : ∀ q h' tk, MwMade h e q h' → Q (.ref q) ⟨h', g, d, tk, os⟩) (x : MwMade h e q h') : Q (.ref q) ⟨h', g, d, tk, os⟩ := hQ _ _ _ x
local macro_rules | `(tactic| x_close) => `(tactic| (refine mw_use (by assumption) (mw_close (by assumption) rfl)))
theorem mw_make0 (w : World) (h : Heap) (g : Array GenState) (d : Drawn) (t : Nat) (os : OsState) (X : (hd.heap_39 w.params).In h) (A : Around) (e tp : Addr) (he : h.get? e = some { cls := .ref 34, data := .fields #[.ref tp, .none, .none, .none, .bool false, .none] }) (Q E : Value → Shared → Prop)
   (hQ : ∀ q h' tk, MwMade h e q h' → Q (.ref q) ⟨h', g, d, tk, os⟩) : wpAny (model PySem.Challenge.rw_rh0223_01.row.prog w) A (call (.builtin "wrapper_descriptor.__get__") [.builtin "Exception.__init__", .ref e, .ref 34]) Q E ⟨h, g, d, t, os⟩ := by
  k_fill
  x_run

section
variable {prog : Program} {w : World} {A : Around} {E : Value → Shared → Prop} {h : Heap} {g : Array GenState} {d : Drawn} {t : Nat} {os : OsState}
theorem slot_wd_get : Slot "wrapper_descriptor" "__get__" "wrapper_descriptor.__get__" := .of (owner := "wrapper_descriptor") (n := "__get__") (by rw [typeLookup_type, builtinLookup_eq_fast]; kernel_rfl) (by decide +kernel) (by decide +kernel) (by decide +kernel)
    (by first | exact .inl (by decide +kernel) | exact .inr (by decide +kernel)) (by rw [isSubtype_type]; kernel_rfl)
theorem type_exc_init : typeOf (.builtin "Exception.__init__") = pure (.type "wrapper_descriptor") := by kernel_rfl
theorem super_ga {so x C D : Addr} {l₀ l : List Value} {K : Frag} {name : Str} {tk : Tok} {Q : Fin → Shared → Prop}
    (hso : h.get? so = some { cls := .type "super", dict := none, data := .fields #[.ref D, .ref x, .ref C], slots := #[] }) (hno : Looks (model prog w) h (opaqueClassAbove (.ref C)) none)
    (hC : Looks (model prog w) h (mroOf (.ref C)) l₀) (hl : (l₀.dropWhile (· != .ref D)).drop 1 = l) (X : K.In h)
    (hf : alongIn K name l = some (some (.builtin "Exception.__init__"))) (hxC : x ≠ C) (hn : (name == ("__class__" : Str)) = false)
    (hcall : ∀ (A : Around) (Q E : Value → Shared → Prop), (∀ q h' tk, MwMade h x q h' → Q (.ref q) ⟨h', g, d, tk, os⟩) → wpAny (model prog w) A (call (.builtin "wrapper_descriptor.__get__") [.builtin "Exception.__init__", .ref x, .ref C]) Q E ⟨h, g, d, t, os⟩)
    (hq : ∀ q h' tk, MwMade h x q h' → Q (.done (.ret (.ref q))) ⟨h', g, d, tk, os⟩) :
    wpAny (model prog w) A (Builtin.«super.__getattribute__» ⟨[.ref so, .str name tk], []⟩) Q E ⟨h, g, d, t, os⟩ := by
  have hlk := slot_wd_get.lookup
  have hne : (Value.ref x == Value.ref C) = false := by simp [hxC]
  have hT : (⟨h, g, d, t, os⟩ : Shared).TypeIs (.builtin "Exception.__init__") "wrapper_descriptor" := type_exc_init
  have hdt : ({ cls := .type "super", dict := none, data := .fields #[.ref D, .ref x, .ref C], slots := #[] } : Obj).data = .fields #[.ref D, .ref x, .ref C] := rfl
  have f0 : (#[.ref D, .ref x, .ref C] : Array Value)[0]? = some (.ref D) := rfl
  have f1 : (#[.ref D, .ref x, .ref C] : Array Value)[1]? = some (.ref x) := rfl
  have f2 : (#[.ref D, .ref x, .ref C] : Array Value)[2]? = some (.ref C) := rfl
  unfold Builtin.«super.__getattribute__»
  repeat (first
    | (with_reducible refine wpAny_field hso hdt f0 ?_) | (with_reducible refine wpAny_field hso hdt f1 ?_) | (with_reducible refine wpAny_field hso hdt f2 ?_)
    | (with_reducible refine ks_wpAny_notOpaque hno ?_)
    | (with_reducible refine Looks.at hC ?_; rw [hl])
    | (refine ks_forIn_along X (fun _ _ => rfl) rfl ?_ hf)
    | (with_reducible refine wpAny_typeOf hT ?_)
    | (refine hcall _ _ _ fun q h' tk hm => ?_)
    | (simp only [hn, hne, Bool.or_false, Bool.false_eq_true, if_false])
    | wp_step
    | dsimp only)
  all_goals exact hq _ _ _ hm
theorem super_gm {so x C D : Addr} {l₀ l : List Value} {K : Frag} {name : Str} {pl : Sem Bool} {Q : Value × List Value → Shared → Prop}
    (hso : h.get? so = some { cls := .type "super", dict := none, data := .fields #[.ref D, .ref x, .ref C], slots := #[] }) (hno : Looks (model prog w) h (opaqueClassAbove (.ref C)) none)
    (hC : Looks (model prog w) h (mroOf (.ref C)) l₀) (hl : (l₀.dropWhile (· != .ref D)).drop 1 = l) (X : K.In h)
    (hf : alongIn K name l = some (some (.builtin "Exception.__init__"))) (hxC : x ≠ C) (hn : (name == ("__class__" : Str)) = false)
    (hcall : ∀ (A : Around) (Q E : Value → Shared → Prop), (∀ q h' tk, MwMade h x q h' → Q (.ref q) ⟨h', g, d, tk, os⟩) → wpAny (model prog w) A (call (.builtin "wrapper_descriptor.__get__") [.builtin "Exception.__init__", .ref x, .ref C]) Q E ⟨h, g, d, t + 1, os⟩)
    (hq : ∀ q h' tk, MwMade h x q h' → Q (.ref q, []) ⟨h', g, d, tk, os⟩) :
    wpAny (model prog w) A (getMethod (.ref so) name pl) Q E ⟨h, g, d, t, os⟩ := by
  have hlk := F.ks_slot_super_ga.lookup
  have hcan := F.ks_canon_super_ga
  have hT : ∀ t', (⟨h, g, d, t', os⟩ : Shared).TypeIs (.ref so) "super" := fun _ => ⟨_, hso, rfl⟩
  unfold getMethod
  refine wpAny_bind (wpAny_specialOf (hT _) hlk ?_)
  show wpAny _ _ (if (Manifest.canonical "super.__getattribute__" != "object.__getattribute__") = true then _ else _) _ _ _
  rw [if_pos hcan]
  unfold getAttr getAttrBy
  refine wpAny_bind (wpAny_bind (wpAny_mkText (wpAny_holding (wpAny_bind (wpAny_typeOf (hT _) (wpAny_bind (wpAny_of_eq hlk ?_)))))))
  show wpAny _ _ (getAttrByItsOwn (.ref so) (.str name t) (.type "super") (.builtin "super.__getattribute__") true false) _ _ _
  unfold getAttrByItsOwn hookBefore callGetattribute boundAndCalled
  refine wpAny_bind (wpAny_of_eq (show (if onTheHeap (.type "super") then typeLookup (.type "super") "__getattr__" else pure none) = pure none from rfl) ?_)
  refine wpAny_bind (wpAny_attempt (wpAny_holding ?_))
  show wpAny _ _ (bindSpecial (.builtin "super.__getattribute__") (.ref so) >>= _) _ _ _
  refine wpAny_bind (wpAny_of_eq (F.ks_slot_super_ga.bind _) ?_)
  refine wpAny_mono (Q := fun v s' => ∃ q h' tk, v = .ref q ∧ s' = ⟨h', g, d, tk, os⟩ ∧ MwMade h x q h') (E := fun _ _ => False)
    (wpAny_call_entry F.ks_slot_super_ga (hT _) F.ks_entry_super_ga (super_ga hso hno hC hl X hf hxC hn hcall (fun q h' tk hm => ⟨_, rfl, q, h', tk, rfl, rfl, hm⟩)) (F.ks_gaArgs_super _ _)) (fun v s' hv => ?_) fun _ _ z => z.elim
  obtain ⟨q, h', tk, rfl, rfl, hm⟩ := hv
  exact wpAny_pure (wpAny_pure (hq _ _ _ hm))
end
abbrev excRaw (t : Addr) : Obj := { cls := .ref 34, data := .fields #[.ref t, .none, .none, .none, .bool false, .none] }
abbrev excObj (t dx : Addr) : Obj := { cls := .ref 34, dict := some dx, data := .fields #[.ref t, .none, .none, .none, .bool false, .none] }
abbrev tupObj (vs : List Value) : Obj := { cls := .type "tuple", data := .seq vs.toArray }
theorem news_made {h₀ h h' : Heap} {L q : Addr} {o : Obj} {m : Str → Option Value} {news : List (Addr × Obj)} (F : Fr h₀ L h m) (N : News h₀ L h news) (kp : ∀ b o, h.get? b = some o → h'.get? b = some o) (nw : h.get? q = none) (ho : h'.get? q = some o) :
    Fr h₀ L h' m ∧ News h₀ L h' ((q, o) :: news) ∧ ∀ p ∈ news, p.1 ≠ q := by
  obtain ⟨oL, es, ep, hL, r⟩ := F.ns
  refine ⟨⟨⟨oL, es, ep, kp _ _ hL, r⟩, fun b o q => kp _ _ (F.keep b o q), F.above⟩, fun p hp => ?_, fun p hp z => ?_⟩
  · rcases List.mem_cons.mp hp with rfl | hp
    · refine ⟨ho, ?_, ?_⟩
      · rintro rfl
        rw [nw] at hL; cases hL
      · cases z : h₀.get? q with
        | none => rfl
        | some o => have := F.keep _ o z; rw [nw] at this; cases this
    · exact ⟨kp _ _ (N p hp).1, (N p hp).2⟩
  · have := (N p hp).1; rw [z, nw] at this; cases this
theorem exc_method (w : World) {A : Around} {E : Value → Shared → Prop} {s : Shared} {h₀ : Heap} {L so e tp : Addr} {m : Str → Option Value} {news : List (Addr × Obj)} {pl : Sem Bool} {Q : Value × List Value → Shared → Prop}
    (F : Fr h₀ L s.heap m) (X₀ : (hd.heap_39 w.params).In h₀) (N : News h₀ L s.heap news) (hso : (so, ks_superObj 34 e 34) ∈ news) (he : (e, excRaw tp) ∈ news)
    (h : ∀ q h' tk, Fr h₀ L h' m → News h₀ L h' ((q, mwObj e) :: news) → (∀ p ∈ news, p.1 ≠ q) → Q (.ref q, []) { s with heap := h', toks := tk }) :
    wpAny (model PySem.Challenge.rw_rh0223_01.row.prog w) A (getMethod (.ref so) (Str.ofString "__init__") pl) Q E s := by
  k_fill
  have X := X₀.keeps F.keep
  obtain ⟨hh, g, d, t, os⟩ := s
  have ho : nsIn (hd.heap_39 w.params) cStatics "thirdparty.any" = some none := by kernel_rfl
  have hm0 : (clsIn (hd.heap_39 w.params) 34).map (·.mro) = some [.ref 34, .type "Exception", .type "BaseException", .type "object"] := by kernel_rfl
  obtain ⟨cd, hc, hmro⟩ := Option.map_eq_some_iff.mp hm0
  have I : InstAt hh e (excRaw tp) 34 none := ⟨(N _ he).1, rfl, rfl, trivial⟩
  refine super_gm (D := 34) (N _ hso).1 (looks_opaque X ho) (l₀ := cd.mro) ?_ (l := [.type "Exception", .type "BaseException", .type "object"]) (by rw [hmro]; decide +kernel) X (by kernel_rfl) (ks_ne X I hc) (by decide) (fun A Q E hQ => mw_make0 w hh g d _ os X A e tp (N _ he).1 Q E hQ) (fun q h' tk hm => ?_)
  · exact fun A Q E s k q => wpAny_bind ((looks_clsIn X hc) A _ E s k (wpAny_pure q))
  · obtain ⟨F', N', l'⟩ := news_made F N hm.1 hm.2.1 hm.2.2
    exact h _ _ _ F' N' l'
theorem check_exc_bound {B newId initId : String} {bm : List Value} (F : ExcBaseFacts B newId initId bm) {M : Model} {A : Around} {E : Value → Shared → Prop} {h : Heap} {g : Array GenState} {d : Drawn} {t : Nat} {os : OsState} {nm q : Str} {C N : Addr} {bs : List Value} {hdct : Bool} {sn : List Str} {sub : List Value} {ab : Bool} {col : Option Bool} {dd : Option Addr} {k0 k1 k2 k3 k5 : Option Value}
    {e : Addr} {oe : Obj} {rest : List Value} {Q : Unit → Shared → Prop}
    (hC : h.get? C = some (excClassObj nm q C N bs bm hdct sn sub ab col dd k0 k1 k2 k3 k5 newId)) (he : h.get? e = some oe) (hcls : oe.cls = .ref C) (hq : Q () ⟨h, g, d, t, os⟩) :
    wpAny M A (checkBoundCall initId ⟨.ref e :: rest, []⟩) Q E ⟨h, g, d, t, os⟩ := by
  have hcB : (Value.ref C :: bm).contains (.type B) = true := by rw [List.contains_cons, F.hasB, Bool.or_true]
  have hshort := F.noStar
  simp only [checkBoundCall, F.initKind, F.initRow]
  repeat (first | (with_reducible refine wpAny_loadPart_at he ?_; rw [hcls]) | with_reducible refine wpAny_loadPart_at hC ?_ | (with_reducible refine wpAny_isSubtype_exc hC ?_; rw [hcB]) | wp_step)
  refine wpAny_onRaise ?_
  rw [show ∀ (a b : String) (n : Nat), Bind.check ⟨.positional, "*", B, .self, [⟨"args", .varPos, false⟩]⟩ a b n (List.map (fun x => x.fst) ({ pos := Value.ref e :: rest } : Args).kw) = pure () from
    fun a b n => check_star_args _ _ _ _ _ _]
  exact wpAny_pure hq
theorem exc_init {prog : Program} {w : World} {A : Around} {E : Value → Shared → Prop} {s : Shared} {h₀ : Heap} {L q e tp : Addr} {m : Str → Option Value} {news : List (Addr × Obj)} {gn : Obj → List (Addr × Obj)} {x : Str} {t : Tok} {Q : Value → Shared → Prop} {nm qn : Str} {NS : Addr} {bs : List Value} {hdct : Bool} {sn : List Str} {sub : List Value} {ab : Bool} {col : Option Bool} {dd : Option Addr} {k0 k1 k2 k3 k5 : Option Value}
    (F : Fr h₀ L s.heap m) (hC : h₀.get? 34 = some (excClassObj nm qn 34 NS bs [.type "Exception", .type "BaseException", .type "object"] hdct sn sub ab col dd k0 k1 k2 k3 k5 "Exception.__new__")) (N : News h₀ L s.heap news) (hq : (q, mwObj e) ∈ news) (U : UpdF e (excRaw tp) news gn)
    (h : ∀ t1 h' tk, Fr h₀ L h' m → News h₀ L h' ((t1, tupObj [.str x t]) :: gn (excRaw t1)) → (∀ p ∈ news, p.1 ≠ t1) → Q .none { s with heap := h', toks := tk }) :
    wpAny (model prog w) A (call (.ref q) [.str x t]) Q E s := by
  obtain ⟨hh, g, d, tk, os⟩ := s
  obtain ⟨pre, post, rfl, hg, a, b⟩ := U.split
  have he := (N (e, excRaw tp) (by simp)).1
  have hqq := (N _ hq).1
  obtain ⟨F1, N1, l1⟩ := news_made (h' := hh.push (tupObj [.str x t])) F N (fun _ _ z => Heap.get?_push_of_some _ z) (Heap.get?_none_of_le (Nat.le_refl _)) (Heap.get?_push_at rfl rfl)
  obtain ⟨F2, N2⟩ := news_upd (pre := (hh.objs.size, tupObj [.str x t]) :: pre) (f := Obj.mapFields (·.setIfInBounds 0 (.ref hh.objs.size))) (o' := excRaw hh.objs.size) F1 N1 (fun p hp => by
    rcases List.mem_cons.mp hp with rfl | hp
    · exact Ne.symm (l1 (e, excRaw tp) (by simp))
    · exact a p hp) b rfl rfl
  refine wpAny_call (codeAny_of_tree ?_)
  show wpAny _ A.in1 (callAny (.ref q) _) _ _ _
  unfold callAny
  refine wpAny_bind (wpAny_load hqq ?_)
  dsimp only
  rw [if_pos (by decide +kernel)]
  show wpAny _ _ (checkBoundCall "Exception.__init__" ⟨[.ref e, .str x t], []⟩ >>= fun _ => again (.builtin "Exception.__init__" ⟨[.ref e, .str x t], []⟩)) _ _ _
  refine wpAny_bind (check_exc_bound PySem.F.excBase_Exception (F.keep _ _ hC) he rfl (wpAny_pure ⟨Code.quiet_builtin _ (by decide +kernel), codeAny_builtin PySem.F.excBase_Exception.initEntry ?_⟩))
  wp_walk
  exact h _ _ _ F2 (by rw [hg]; exact N2) l1
end Mine
namespace Mine
open PySem PySem.W PySem.Spec PySem.Calls PyProof.Rows PySem.Builtin PySem.Builtin.ObjectAttr
abbrev mroE : List Value := [.ref 34, .type "Exception", .type "BaseException", .type "object"]
theorem refuse_exc (self : Value) : refuseLoop self "__setattr__" mroE = pure () := by
  rw [refuseLoop_ref]
  kernel_rfl
theorem inst_raw {h₀ h : Heap} {L x t : Addr} {news : List (Addr × Obj)} (N : News h₀ L h news) (h1 : (x, excRaw t) ∈ news) : InstAt h x (excRaw t) 34 none := ⟨(N _ h1).1, rfl, rfl, trivial⟩
theorem inst_exc {h₀ h : Heap} {L x t dx : Addr} {od : Obj} {news : List (Addr × Obj)} (N : News h₀ L h news) (h1 : (x, excObj t dx) ∈ news) (h2 : (dx, od) ∈ news) : InstAt h x (excObj t dx) 34 (some od) := ⟨(N _ h1).1, rfl, rfl, (N _ h2).1⟩
section
variable {prog : Program} {w : World} {A : Around} {E : Value → Shared → Prop} {s : Shared} {K : Frag} {x L : Addr} {h₀ : Heap} {m : Str → Option Value} {news : List (Addr × Obj)} {R : Result → Shared → Prop}
theorem exc_open {ox : Obj} {od : Option Obj} {name : Str} {tk : Tok} {v : Value} {cd : ClassData} (X : K.In s.heap) (I : InstAt s.heap x ox 34 od) (hc : clsIn K 34 = some cd) (hmro : cd.mro = mroE) (ht : takerIn K 34 name = some none)
    (h : ∀ b, wpAny (model prog w) A.in1 (storeInOwnDict (.ref x) (.ref 34) (.str name tk) name v b)
      (fun fin s' => match fin with | .done f => R (.ok f) s' | .again c' => c'.quiet = true ∧ codeAny (model prog w) A c' R s') (fun e s' => R (.error e) s') s) :
    codeAny (model prog w) A (.call (.builtin "object.__setattr__") ⟨[.ref x, .str name tk, v], []⟩) R s := by
  have SF := PySem.F.store_object
  have sub : Looks (model prog w) s.heap (isInstance (.ref x) (.type "object")) true := I.type.andThen (looks_mroIn X (by unfold mroIn; rw [hc, Option.bind_some, hmro]; rfl))
  refine codeAny_call_builtin SF.slot.plain SF.entry (@check_slot (model prog w) _ _ s "object.__setattr__" "object" "__setattr__" (.ref x) [.str name tk, v] [] _ SF.kind SF.split sub (SF.args (.ref x) (.str name tk) v) ?_)
  obtain ⟨attr, ha, hr⟩ := Option.bind_eq_some_iff.mp ht
  have hm : Looks (model prog w) s.heap (mroOf (.ref 34)) mroE := hmro ▸ (looks_clsIn X hc).andThen .now
  have L3 : Looks (model prog w) s.heap (storeTaker? attr) none := by
    cases attr with
    | none => exact .now
    | some a =>
      obtain ⟨b, hb, hb'⟩ := Option.map_eq_some_iff.mp hr
      cases b with
      | true => cases hb'
      | false => exact (looks_takesIn X hb).andThen .now
  rw [osa_eq, refuse_eq]
  refine wpAny_bind (wpAny_bind (I.type.here (wpAny_bind (hm.here ?_))))
  rw [refuse_exc]
  refine wpAny_pure (wpAny_bind (I.type.here (wpAny_bind ((looks_findIn X ha).here (wpAny_bind (L3.here ?_))))))
  exact h _
theorem exc_set2 {dx tp : Addr} {name : Str} {v : Value} {es es' : List DictEntry} {n n' : Nat} {cd : ClassData} {Q : Unit → Shared → Prop} (F : Fr h₀ L s.heap m) (X₀ : K.In h₀) (N : News h₀ L s.heap news) (he : (x, excObj tp dx) ∈ news)
    (hc : clsIn K 34 = some cd) (hmro : cd.mro = mroE) (hd' : cd.hasDict = true) (ht : takerIn K 34 name = some none)
    (hs : findIn K (.ref 34) "__setattr__" = some (some (.builtin "object.__setattr__"))) (hl : es.any (·.refKey) = false)
    (e : (putL name (PyData.keyHash w.params name) (.str name (s.toks + 1)) v es, putN name es n) = (es', n')) {gn : List (Addr × Obj)} (U : Upd dx (dictOf es n) (dictOf es' n') news gn) (hz : es'.length ≤ 1000)
    (h : ∀ h', Fr h₀ L h' m → News h₀ L h' gn → Q () { s with heap := h', toks := s.toks + 2 }) :
    wpAny (model prog w) A (setAttr (.ref x) name v) Q E s := by
  obtain ⟨pre, post, rfl, rfl, a, b⟩ := U.split
  obtain ⟨e1, e2⟩ := Prod.mk.inj e
  have I := inst_exc N he (show (dx, dictOf es n) ∈ _ by simp)
  have X := X₀.keeps F.keep
  obtain ⟨hh, g, dw, tk, os⟩ := s
  refine set_plain X I hs (exc_open (s := ⟨hh, g, dw, tk + 1, os⟩) X I hc hmro ht fun b => ?_)
  have ep : Obj.putName name (PyData.keyHash w.params name) (.str name (tk + 1)) v (dictOf es n) = dictOf es' n' := by rw [putName_dict, e1, e2]
  obtain ⟨U1, U2⟩ := news_upd (f := Obj.putName name (PyData.keyHash w.params name) (.str name (tk + 1)) v) F N a (by assumption) ep rfl
  have D := (N (dx, dictOf es n) (by simp)).1
  have D' := (U2 (dx, dictOf es' n') (by simp)).1
  have hx := I.at_
  refine wpAny_bind (wpAny_pure (wpAny_bind (wpAny_bind (wpAny_loadPart hx (wpAny_bind (Looks.at (looks_clsIn (h := hh) X hc) ?_))))))
  rw [hd']
  refine wpAny_pure (a := some dx) (wpAny_bind (wpAny_pure (wpAny_bind ?_)))
  unfold nsSet
  refine wpAny_bind (wpAny_bind (wpAny_askSetting (wpAny_pure (wpAny_bind (wpAny_mkText (wpAny_bind (wpAny_loadPart D ?_)))))))
  dsimp only
  have c : (!es.toArray.any (·.key.isStr name) && es.toArray.any (·.refKey)) = false := by
    rw [List.any_toArray (p := fun (e : DictEntry) => e.refKey), hl, Bool.and_false]
  rw [aRefKeyMayBeTheName_at, c]
  refine wpAny_updatePart D ?_
  refine wpAny_bind (wpAny_lookBehind D' (by exact pastItsLine_dict (by rw [List.size_toArray, sizeLine_eq]; omega)) ?_)
  exact wpAny_pure (h _ U1 U2)
theorem exc_set1 {tp : Addr} {name : Str} {v : Value} {cd : ClassData} {Q : Unit → Shared → Prop} (F : Fr h₀ L s.heap m) (X₀ : K.In h₀) (N : News h₀ L s.heap news)
    (hc : clsIn K 34 = some cd) (hmro : cd.mro = mroE) (hd' : cd.hasDict = true) (ht : takerIn K 34 name = some none)
    (hs : findIn K (.ref 34) "__setattr__" = some (some (.builtin "object.__setattr__")))
    {gn : Obj → List (Addr × Obj)} (U : UpdF x (excRaw tp) news gn)
    (h : ∀ dx h', Fr h₀ L h' m → News h₀ L h' ((dx, dictOf [⟨PyData.keyHash w.params name, .str name (s.toks + 1), v⟩] 1) :: gn (excObj tp dx)) → (∀ p ∈ news, p.1 ≠ dx) → Q () { s with heap := h', toks := s.toks + 2 }) :
    wpAny (model prog w) A (setAttr (.ref x) name v) Q E s := by
  obtain ⟨pre, post, rfl, hg, a, b⟩ := U.split
  have he : (x, excRaw tp) ∈ pre ++ (x, excRaw tp) :: post := by simp
  have I := inst_raw N he
  have X := X₀.keeps F.keep
  obtain ⟨hh, g, dw, tk, os⟩ := s
  refine set_plain X I hs (exc_open (s := ⟨hh, g, dw, tk + 1, os⟩) X I hc hmro ht fun b => ?_)
  have hx := I.at_
  obtain ⟨F1, N1, l1⟩ := news_made (h' := hh.push (dictOf [] 0)) F N (fun _ _ z => Heap.get?_push_of_some _ z) (Heap.get?_none_of_le (Nat.le_refl _)) (Heap.get?_push_at rfl rfl)
  obtain ⟨F2, N2⟩ := news_upd (pre := (hh.objs.size, dictOf [] 0) :: pre) (f := fun o => { o with dict := some hh.objs.size }) (o' := excObj tp hh.objs.size) F1 N1 (fun p hp => by
    rcases List.mem_cons.mp hp with rfl | hp
    · exact Ne.symm (l1 (x, excRaw tp) (by simp))
    · exact a p hp) (by assumption) rfl rfl
  have ep : Obj.putName name (PyData.keyHash w.params name) (.str name (tk + 1)) v (dictOf [] 0) = dictOf [⟨PyData.keyHash w.params name, .str name (tk + 1), v⟩] 1 := by rw [putName_dict]; rfl
  obtain ⟨U1, U2⟩ := news_upd (pre := []) (f := Obj.putName name (PyData.keyHash w.params name) (.str name (tk + 1)) v) F2 N2 (fun _ hp => (nomatch hp)) (fun p hp q => by
    rcases List.mem_append.mp hp with hp | hp
    · exact l1 p (by simp [hp]) q
    · rcases List.mem_cons.mp hp with rfl | hp
      · exact l1 (x, excRaw tp) (by simp) q
      · exact l1 p (by simp [hp]) q) ep rfl
  have D := (N2 (hh.objs.size, dictOf [] 0) (by simp)).1
  have D' := (U2 (hh.objs.size, dictOf [⟨PyData.keyHash w.params name, .str name (tk + 1), v⟩] 1) (by simp)).1
  have hx1 := Heap.get?_push_of_some (dictOf [] 0) hx
  refine wpAny_bind (wpAny_pure (wpAny_bind (wpAny_bind (wpAny_loadPart hx (wpAny_bind (Looks.at (looks_clsIn (h := hh) X hc) ?_))))))
  rw [hd']
  dsimp only
  rw [if_neg (by decide), if_neg (by decide)]
  refine wpAny_bind (wpAny_alloc (wpAny_bind (wpAny_update hx1 (wpAny_pure (wpAny_bind (wpAny_pure (wpAny_bind ?_)))))))
  unfold nsSet
  refine wpAny_bind (wpAny_bind (wpAny_askSetting (wpAny_pure (wpAny_bind (wpAny_mkText (wpAny_bind (wpAny_loadPart D ?_)))))))
  dsimp only
  refine wpAny_updatePart D ?_
  refine wpAny_bind (wpAny_lookBehind D' (by exact pastItsLine_dict (by rw [List.size_toArray, sizeLine_eq]; simp)) ?_)
  exact wpAny_pure (h _ _ U1 (by rw [hg]; exact U2) l1)
end
theorem put_two (h1 h2 : Int) (k1 k2 : Tok) (v1 v2 : Value) : (putL (Str.ofString "told") h2 (.str (Str.ofString "told") k2) v2 [⟨h1, .str (Str.ofString "number") k1, v1⟩], putN (Str.ofString "told") [⟨h1, .str (Str.ofString "number") k1, v1⟩] 1) = ([⟨h1, .str (Str.ofString "number") k1, v1⟩, ⟨h2, .str (Str.ofString "told") k2, v2⟩], 2) := by kernel_rfl
theorem exc_told {prog : Program} {w : World} {A : Around} {E : Value → Shared → Prop} {s : Shared} {K : Frag} {x L : Addr} {h₀ : Heap} {m : Str → Option Value} {news : List (Addr × Obj)} {dx tp : Addr} {h1 : Int} {k1 : Tok} {v1 v : Value} {cd : ClassData} {Q : Unit → Shared → Prop} (F : Fr h₀ L s.heap m) (X₀ : K.In h₀) (N : News h₀ L s.heap ((dx, dictOf [⟨h1, .str (Str.ofString "number") k1, v1⟩] 1) :: news)) (he : (x, excObj tp dx) ∈ (dx, dictOf [⟨h1, .str (Str.ofString "number") k1, v1⟩] 1) :: news)
    (hc : clsIn K 34 = some cd) (hmro : cd.mro = mroE) (hd' : cd.hasDict = true) (ht : takerIn K 34 (Str.ofString "told") = some none)
    (hs : findIn K (.ref 34) "__setattr__" = some (some (.builtin "object.__setattr__"))) (hne : ∀ p ∈ news, p.1 ≠ dx)
    (h : ∀ h' k2, Fr h₀ L h' m → News h₀ L h' ((dx, dictOf [⟨h1, .str (Str.ofString "number") k1, v1⟩, ⟨PyData.keyHash w.params (Str.ofString "told"), .str (Str.ofString "told") k2, v⟩] 2) :: news) → Q () { s with heap := h', toks := s.toks + 2 }) :
    wpAny (model prog w) A (setAttr (.ref x) (Str.ofString "told") v) Q E s :=
  exc_set2 F X₀ N he hc hmro hd' ht hs rfl (put_two _ _ _ _ _ _) (.head hne) (Nat.le_of_ble_eq_true rfl) (fun h' F' N' => h h' _ F' N')
theorem keeper_mw {M : Model} {h : Heap} {q e : Addr} (hp : h.get? q = some (mwObj e)) : Looks M h (keeperOf (.ref q)) .machine := by
  intro A Q E s k z
  unfold keeperOf
  refine wpAny_bind (wpAny_load (k _ _ hp) ?_)
  simp only [show (Value.type "method-wrapper" != Value.type "method") = true by decide, show (Value.type "method-wrapper" == Value.type "builtin_function_or_method" || Value.type "method-wrapper" == Value.type "method-wrapper") = true by decide, if_true]
  exact wpAny_pure z
theorem callWith_mw {M : Model} {A : Around} {E : Value → Shared → Prop} {s : Shared} {pos : Pos} {q ex : Addr} {first : List Value} {env : Env} {e : Expr} {rest : List Expr} {Q : Value → Shared → Prop}
    (h : wpAny M A (spliced (backTo pos (starEach (e :: rest) env))) (fun vs s₁ => s₁.heap.get? q = some (mwObj ex) ∧ wpAny M A (call (.ref q) (first ++ vs)) Q E s₁) E s)
    (he : starEach (e :: rest) env = (false, eval e env) :: starEach rest env := by rfl) (hplain : (backTo pos (starEach rest env)).any (·.1) = false := by rfl) :
    wpAny M A (callWith pos (.ref q) first (backTo pos (starEach (e :: rest) env)) []) Q E s := by
  rw [he] at h ⊢
  refine callWith_of (P := fun h => h.get? q = some (mwObj ex)) (by show (false || (backTo pos (starEach rest env)).any (·.1) || false) = false; rw [hplain]; rfl) (fun h hp => ⟨.machine, .inr (.inl rfl), keeper_mw hp⟩) ?_
  exact evalArgs_plain h
end Mine
namespace Mine
open PySem PySem.W PyProof.Rows
theorem ns_some_of {K : Frag} {h : Heap} {N : Addr} {mg : Str → Option Value} {n : Str} {v : Value} (X : K.In h) (G : h.Ns N mg) (e : nsIn K N n = some (some v)) : mg n = some v := by
  obtain ⟨o, es, ep, ho, hd, _, hf⟩ := G
  unfold nsIn at e
  split at e
  · rename_i c d es' n' sl q
    have := X _ _ q
    rw [ho] at this
    cases this
    cases hd
    split at e
    · rename_i en he
      rw [← hf]
      unfold nsFind findBy
      rw [← Array.find?_toList, he]
      injection e with e
    · split at e <;> cases e
  · cases e
theorem made_news {h₀ h h' : Heap} {L e : Addr} {m : Str → Option Value} {news : List (Addr × Obj)} {cls : Value} {args : List Value} (F : Fr h₀ L h m) (N : News h₀ L h news) (M : Heap.MadeExcOf h h' e cls args) :
    ∃ t, Fr h₀ L h' m ∧ News h₀ L h' ((e, { cls := cls, data := .fields #[.ref t, .none, .none, .none, .bool false, .none] }) :: (t, tupObj args) :: news) ∧ (∀ p ∈ news, p.1 ≠ e) ∧ (∀ p ∈ news, p.1 ≠ t) ∧ (@Ne Nat e t) := by
  obtain ⟨kp, nw, t, he, ht, htt⟩ := M
  have F' : Fr h₀ L h' m := by
    obtain ⟨oL, es, ep, hL, r⟩ := F.ns
    exact ⟨⟨oL, es, ep, kp _ _ hL, r⟩, fun b o q => kp _ _ (F.keep b o q), F.above⟩
  have n0 : ∀ b, h.get? b = none → h₀.get? b = none ∧ b ≠ L := fun b hb => by
    constructor
    · cases q : h₀.get? b with
      | none => rfl
      | some o => have := F.keep b o q; rw [hb] at this; cases this
    · rintro rfl
      obtain ⟨oL, es, ep, hL, r⟩ := F.ns
      rw [hb] at hL; cases hL
  refine ⟨t, F', fun p hp => ?_, fun p hp q => ?_, fun p hp q => ?_, fun q => ?_⟩
  · rcases List.mem_cons.mp hp with rfl | hp
    · exact ⟨he, (n0 _ nw).2, (n0 _ nw).1⟩
    · rcases List.mem_cons.mp hp with rfl | hp
      · exact ⟨htt, (n0 _ ht).2, (n0 _ ht).1⟩
      · exact ⟨kp _ _ (N p hp).1, (N p hp).2⟩
  · have := (N p hp).1; rw [q, nw] at this; cases this
  · have := (N p hp).1; rw [q, ht] at this; cases this
  · subst q
    rw [he] at htt; cases htt
theorem under_tc_depth (A : Around) (v w : Value) : (A.under (.builtin "type.__call__" ⟨[.ref 34, v, w], []⟩)).depth ≤ A.depth + 1 := by
  show A.depth + _ ≤ _
  exact Nat.add_le_add_left (Nat.le_of_ble_eq_true (by kernel_rfl)) _
local macro_rules | `(tactic| k_inst) => `(tactic| first | (refine' inst_raw ?N ?h1; (case N => k_asm); (case h1 => k_mem)) | (refine' inst_exc ?N ?h1 ?h2; (case N => k_asm); (case h1 => k_mem); (case h2 => k_mem)))
local macro_rules | `(tactic| k_room) => `(tactic| ktr_room)
theorem cb_exc {h₀ h : Heap} {L : Addr} {news : List (Addr × Obj)} {a1 a2 a3 a4 a5 a6 : Addr × Obj} (N : News h₀ L h (a1 :: a2 :: a3 :: a4 :: a5 :: a6 :: news)) : News h₀ L h (a5 :: a1 :: a2 :: news) := fun p hp => N p (by
  simp only [List.mem_cons] at hp ⊢
  rcases hp with rfl | rfl | rfl | hp
  · exact .inr (.inr (.inr (.inr (.inl rfl))))
  · exact .inl rfl
  · exact .inr (.inl rfl)
  · exact .inr (.inr (.inr (.inr (.inr (.inr hp))))))
set_option pp.deepTerms false in
set_option pp.maxSteps 4000 in
theorem make_exc (w : World) (mean : ExcName → Option Value) (mg mb : Str → Option Value) : ∀ (dp un : Nat) (gd : Option (List Code)) (cn : Str) (cs : Scope) (a : Addr) (ccd : Value) (cl : List (Str × Addr)) (outer : List Env) (A₀ : Around) (base h₀ : Heap) (L : Addr) (m : Str → Option Value) (news : List (Addr × Obj)) (s : Shared) (t1 t2 : Tok) (k : Str)
    (Q E : Value → Shared → Prop) (_ : Below A₀ base outer h₀) (_ : Fr h₀ L s.heap m) (_ : (hd.heap_39 w.params).In h₀) (_ : News h₀ L s.heap news) (_ : Top hd.view_39 (looseW hd.view_39 [Str.ofString "SnobolError"]) mean mg mb h₀) (_ : cs.kind = .function) (_ : dp + 8 < recursionLimit) (_ : un + 64 < cLine)
    (_ : ∀ e dx t h1 h2 k1 k2 v1 n h' tk', Fr h₀ L h' m → News h₀ L h' ((e, excObj t dx) :: (dx, dictOf [⟨h1, .str (Str.ofString "number") k1, .int 1 t1⟩, ⟨h2, .str (Str.ofString "told") k2, .str k t2⟩] n) :: (t, tupObj [v1]) :: news) → (∀ p ∈ news, p.1 ≠ e ∧ p.1 ≠ t) → Q (.ref e) { s with heap := h', toks := tk' }),
    wpAny (model PySem.Challenge.rw_rh0223_01.row.prog w) (ktrTop dp un gd cn cs L a ccd cl outer) (call (.ref 34) [.int 1 t1, .str k t2]) Q E s := by
  k_fill
  intro dp un gd cn cs a ccd cl outer A₀ base h₀ L m news s t1 t2 k Q E B F X N T hk hdp hu hret
  have XX := X.keeps F.keep
  have hisns : s.heap.isNs 33 = true := isNs_of_in XX (by kernel_rfl)
  obtain ⟨h, g, d, t, os⟩ := s
  refine wpAny_call_exc_init PySem.F.excBase_Exception (XX 34 _ (by k_is)) (.of_isNs hisns) (ns_some_of XX (.of_isNs hisns) (v := .ref 31) (by k_is)) (XX 31 _ (by k_is)) rfl (fun h' e hm => ?_)
  obtain ⟨tp, F', N', n1, n2, n3⟩ := made_news F N hm
  clear hm XX hisns F N
  refine wpAny_call ?_
  k_dflt (refine' ks_code_super ?k1 ?k2 ?k3 ?k4 ?k5 ?kA ?kF ?kK ?k6 ?k7 ?k8 ?k9 ?kB ?_ ?c1 ?c2 ?c3 ?c4; (case kA => exact rfl); (case kF => exact rfl); (case kK => assumption); (case k1 => k_asm); (case k2 => k_asm); (case k3 => k_asm); (case k4 => k_asm); (case k5 => k_asm); (case k6 => k_is); (case k7 => k_is); (case k8 => exact Nat.lt_of_le_of_lt (under_tc_depth _ _ _) (by dsimp only [ktrTop]; omega)); (case k9 => exact binds_K (by k_in) rfl (by k_is) rfl rfl rfl); (case kB => exact locs rfl); (case c1 => decide); (case c2 => exact rfl); (case c3 => exact rfl); (case c4 => exact rfl); intro g' L' h' FG' F' N' B' X' T' l1; (try k_lt l1); (try dsimp only); (try k_lift B'))
  k_steps
  refine exc_method w (by k_asm) (by k_asm) (by k_asm) (by k_mem) (by k_mem) (fun q h2 tk2 F2 N2 l2 => ?_)
  refine callWith_mw (ex := e) ?_
  k_steps
  · exact (N2 (q, mwObj e) (by simp)).1
  obtain ⟨cd, hc, hmro⟩ := Option.map_eq_some_iff.mp (show (clsIn (hd.heap_39 w.params) 34).map (·.mro) = some mroE by kernel_rfl)
  have hhd : cd.hasDict = true := by
    have := (show (clsIn (hd.heap_39 w.params) 34).map (·.hasDict) = some true by kernel_rfl)
    rw [hc] at this; exact Option.some.inj this
  have hX34 := X 34 _ (by k_is)
  rename_i so _ l0
  refine exc_init (by k_asm) ((by assumption : (hd.heap_39 w.params).In _) 34 _ (by k_is)) (by k_asm) (List.mem_cons_self) (.tail (Ne.symm (l2 (e, excRaw tp) (by simp))) (.tail (Nat.ne_of_gt l0.1) (.head (fun p hp => by rcases List.mem_cons.mp hp with rfl | hp; exact n3.symm; exact n1 p hp)))) (fun tx h3 tk3 F3 N3 l3 => ?_)
  k_steps
  have ne0 : e ≠ tx := l3 (e, excRaw tp) (by simp)
  have ne1 : e ≠ q := l2 (e, excRaw tp) (by simp)
  have ne2 : e ≠ _ := Nat.ne_of_lt l0.1
  refine exc_set1 (by k_asm) (by assumption) (by k_asm) hc hmro hhd (by kernel_rfl) (by kernel_rfl) (.tail (Ne.symm ne0) (.tail (Ne.symm ne1) (.tail (Ne.symm ne2) (.head (fun p hp => by rcases List.mem_cons.mp hp with rfl | hp; exact n3.symm; exact n1 p hp))))) (fun dx h4 F4 N4 l4 => ?_)
  k_steps
  refine exc_told (by k_asm) (by assumption) (by k_asm) (show (e, excObj tx dx) ∈ _ by simp) hc hmro hhd (by kernel_rfl) (by kernel_rfl) (fun p hp => by
    simp only [List.mem_cons] at hp
    rcases hp with rfl | rfl | rfl | rfl | rfl | hp
    · exact l4 _ (.head _)
    · exact l4 _ (.tail _ (.head _))
    · exact l4 _ (.tail _ (.tail _ (.head _)))
    · exact l4 (e, excRaw tx) (by simp)
    · exact l4 (tp, _) (.tail _ (.tail _ (.tail _ (.tail _ (.head _)))))
    · exact l4 p (.tail _ (.tail _ (.tail _ (.tail _ (.tail _ hp)))))) (fun h5 k5 F5 N5 => ?_)
  k_steps
  rename News _ _ h5 _ => kN5
  rename Fr h₀ L h5 m => kF5
  first
    | exact hret e dx tx _ _ _ _ _ _ h5 _ kF5 (cb_exc kN5) (fun p hp => ⟨n1 p hp, l3 p (.tail _ (.tail _ (.tail _ (.tail _ hp))))⟩)
    | exact hret e dx tx _ _ _ _ _ _ h5 _ kF5 (cb_exc (by k_asm)) (fun p hp => ⟨n1 p hp, l3 p (.tail _ (.tail _ (.tail _ (.tail _ hp))))⟩)
end Mine
namespace Mine
open PySem PySem.W
def DK (h h' : Heap) : Prop := ∀ b o, h.get? b = some o → ∃ o', h'.get? b = some o' ∧ o'.dict = o.dict
theorem DK.refl (h : Heap) : DK h h := fun _ o e => ⟨o, e, rfl⟩
theorem DK.trans {h h₁ h₂ : Heap} (x : DK h h₁) (y : DK h₁ h₂) : DK h h₂ := fun b o e => by
  obtain ⟨o1, e1, d1⟩ := x b o e
  obtain ⟨o2, e2, d2⟩ := y b o1 e1
  exact ⟨o2, e2, d2.trans d1⟩
def Keeps {α : Type} (t : Sem α) : Prop := ∀ (M : Model) (Γ : Ctx) (Q : α → Pos → Shared → Prop) (E : Value → Pos → Shared → Prop) (p : Pos) (s : Shared),
  Sem.wp M Γ t Q E p s → Sem.wp M Γ t (fun a p' s' => Q a p' s' ∧ DK s.heap s'.heap) (fun e p' s' => E e p' s' ∧ DK s.heap s'.heap) p s
section
variable {α β : Type}
theorem keeps_pure (a : α) : Keeps (pure a : Sem α) := fun M Γ Q E p s h => by
  rw [Sem.wp_pure'] at h ⊢
  exact ⟨h, .refl _⟩
theorem keeps_bind {m : Sem α} {f : α → Sem β} (hm : Keeps m) (hf : ∀ a, Keeps (f a)) : Keeps (m >>= f) := fun M Γ Q E p s h => by
  rw [Sem.wp_bind'] at h ⊢
  refine Sem.wp_mono M Γ m (fun a p' s' h' => ?_) (fun _ _ _ h' => h') p s (hm M Γ _ _ p s h)
  exact Sem.wp_mono M Γ (f a) (fun b p2 s2 h2 => ⟨h2.1, h'.2.trans h2.2⟩) (fun b p2 s2 h2 => ⟨h2.1, h'.2.trans h2.2⟩) p' s' (hf a M Γ _ _ p' s' h'.1)
theorem keeps_load (a : Addr) : Keeps (load a) := fun M Γ Q E p s h => by
  rw [Sem.wp_cmd_load] at h ⊢
  obtain ⟨o, e, q⟩ := h
  exact ⟨o, e, q, .refl _⟩
theorem dk_update {h : Heap} {a : Addr} {f : Obj → Obj} (hf : ∀ o, (f o).dict = o.dict ∧ (o.isFreed = false → (f o).isFreed = false)) : DK h (h.update a f) := fun b o e => by
  by_cases q : a = b
  · subst q
    have hn := (Heap.get?_some_iff.mp e).2
    exact ⟨f o, Heap.get?_update_self f e ((hf o).2 hn), (hf o).1⟩
  · exact ⟨o, (Heap.get?_update_other _ _ q).trans e, rfl⟩
theorem keeps_update {a : Addr} {f : Obj → Obj} (hf : ∀ o, (f o).dict = o.dict ∧ (o.isFreed = false → (f o).isFreed = false)) : Keeps (update a f) := fun M Γ Q E p s h => by
  rw [Sem.wp_cmd_update] at h ⊢
  exact ⟨h.1, h.2, dk_update hf⟩
theorem keeps_alloc (o : Obj) : Keeps (alloc o) := fun M Γ Q E p s h => by
  rw [Sem.wp_cmd_alloc] at h ⊢
  exact ⟨h, fun b o e => ⟨o, Heap.get?_push_of_some _ e, rfl⟩⟩
theorem keeps_unsupported (w : String) : Keeps (unsupported w : Sem α) := fun M Γ Q E p s h => by
  rw [Sem.wp_cmd_unsupported] at h
  exact h.elim
theorem keeps_stack : Keeps stack := fun M Γ Q E p s h => ⟨h, .refl _⟩
theorem freed_fields (o : Obj) (f : Array Value → Array Value) : (Obj.mapFields f o).dict = o.dict ∧ (o.isFreed = false → (Obj.mapFields f o).isFreed = false) := by
  obtain ⟨_, _, dt, _⟩ := o
  cases dt <;> exact ⟨rfl, fun h => h⟩
theorem freed_slots (o : Obj) (sl : Array (Option Value)) : ({ o with slots := sl } : Obj).dict = o.dict ∧ (o.isFreed = false → ({ o with slots := sl } : Obj).isFreed = false) := ⟨rfl, fun h => by rw [kts_isFreed]; exact h⟩
end
theorem keeps_fieldsOf (v : Value) : Keeps (fieldsOf v) := by
  unfold fieldsOf
  split
  · refine keeps_bind (keeps_load _) fun o => ?_
    split
    · exact keeps_pure _
    · exact keeps_unsupported _
  · exact keeps_unsupported _
theorem keeps_field (v : Value) (i : Nat) : Keeps (field v i) := by
  unfold field
  refine keeps_bind (keeps_fieldsOf _) fun o => ?_
  split
  · exact keeps_pure _
  · exact keeps_unsupported _
theorem keeps_setField (v : Value) (i : Nat) (x : Value) : Keeps (setField v i x) := by
  unfold setField
  split
  · unfold updateField
    refine keeps_bind (keeps_load _) fun o => ?_
    split
    · split
      · exact keeps_update fun o => freed_fields o _
      · exact keeps_unsupported _
    · exact keeps_unsupported _
  · exact keeps_unsupported _
theorem keeps_setFlight (e : Value) (f : Option Addr) : Keeps (setFlight e f) := by
  unfold setFlight
  refine keeps_bind (keeps_field _ _) fun tb => ?_
  split
  · exact keeps_setField _ _ _
  · exact keeps_pure _
theorem keeps_keptBack (env : Env) (b : Bool) (l : List Env) : Keeps (keptBack env b l) := by
  unfold keptBack
  split
  · split
    · exact keeps_pure _
    · unfold underTheClaimsCaller
      exact keeps_bind (keeps_bind keeps_stack fun _ => keeps_pure _) fun _ => keeps_pure _
  · exact keeps_pure _
theorem keeps_behind (env : Env) (l : List Env) : Keeps (behindIsImport env l) := by
  unfold behindIsImport
  repeat' (first | exact keeps_pure _ | exact keeps_field _ _ | refine keeps_bind ?_ fun _ => ?_ | split)
theorem keeps_ready : ∀ l, Keeps (readyFrames l)
  | [] => keeps_pure _
  | env :: outer => by
    unfold readyFrames
    split
    · refine keeps_bind (keeps_load _) fun o => ?_
      split
      · exact keeps_pure _
      · refine keeps_bind (keeps_behind _ _) fun i => keeps_bind (keeps_keptBack _ _ _) fun b => keeps_bind (keeps_update fun o => freed_slots o _) fun _ => keeps_ready outer
    · exact keeps_unsupported _
theorem keeps_frameOf (env : Env) : Keeps (frameOf env) := by
  unfold frameOf frameEnvs
  refine keeps_bind (keeps_bind keeps_stack fun _ => keeps_pure _) fun l => keeps_bind ?_ fun r => ?_
  · unfold frameObject
    split
    · exact keeps_pure _
    · exact keeps_bind (keeps_ready _) fun _ => keeps_pure _
  · split
    · exact keeps_pure _
    · exact keeps_unsupported _
theorem keeps_entryPlace (f : Addr) (b : Bool) : Keeps (entryPlaceOf f b) := by
  unfold entryPlaceOf
  refine keeps_bind keeps_stack fun l => ?_
  split <;> exact keeps_pure _
theorem keeps_newEntry (a b c d e : Value) (l : List Value) : Keeps (EntryCells.newEntry a b c d e l) := by
  unfold EntryCells.newEntry newFields newObj newObjAsIs
  dsimp only
  repeat' (first | exact keeps_pure _ | exact keeps_unsupported _ | exact keeps_alloc _ | refine keeps_bind ?_ fun _ => ?_ | split)
theorem keeps_noteFrame (e : Value) (env : Env) : Keeps (noteFrame e env) := by
  unfold noteFrame
  split
  · refine keeps_bind (keeps_field _ _) fun hd => ?_
    split
    · refine keeps_bind (keeps_field _ _) fun x => ?_
      split
      · exact keeps_pure _
      · refine keeps_bind (keeps_setField _ _ _) fun _ => ?_
        repeat' (first | exact keeps_pure _ | exact keeps_newEntry _ _ _ _ _ _ | exact keeps_frameOf _ | exact keeps_entryPlace _ _ | exact keeps_setField _ _ _ | refine keeps_bind ?_ fun _ => ?_)
    · repeat' (first | exact keeps_pure _ | exact keeps_newEntry _ _ _ _ _ _ | exact keeps_frameOf _ | exact keeps_entryPlace _ _ | exact keeps_setField _ _ _ | refine keeps_bind ?_ fun _ => ?_)
  · exact keeps_unsupported _
theorem keeps_leaving (env : Env) (e : Value) : Keeps (leaving env e) := by
  unfold leaving
  exact keeps_bind (keeps_noteFrame _ _) fun _ => keeps_setFlight _ _
theorem Keeps.any {α : Type} {t : Sem α} (k : Keeps t) {M : Model} {A : Around} {Q : α → Shared → Prop} {E : Value → Shared → Prop} {s : Shared} (h : wpAny M A t Q E s) : wpAny M A t (fun a s' => Q a s' ∧ DK s.heap s'.heap) E s :=
  fun Γ p hΓ => Sem.wp_mono M Γ t (fun _ _ _ h => h) (fun _ _ _ h => h.1) p s (k M Γ _ _ p s (h Γ p hΓ))
end Mine
namespace Mine
open PySem PySem.W PyProof.Rows
def HasDict (h : Heap) (e dx : Addr) : Prop := ∃ oe, h.get? e = some oe ∧ oe.dict = some dx
theorem HasDict.on {h h' : Heap} {e dx : Addr} (x : HasDict h e dx) (k : DK h h') : HasDict h' e dx := by
  obtain ⟨o, ho, hd⟩ := x
  obtain ⟨o', ho', hd'⟩ := k _ _ ho
  exact ⟨o', ho', hd'.trans hd⟩
section
variable {M : Model} {A : Around} {E : Value → Shared → Prop} {s' : Shared} {base g h : Heap} {outer : List Env} {L a e t dx : Addr} {m : Str → Option Value} {name : Str} {scope : Scope} {cd : Value} {Q : Unit → Shared → Prop} {news : List (Addr × Obj)} {vs : List Value}
theorem leave_excS (K : Below A base outer g) (F : Fr g L s'.heap m) (he : s'.heap.get? e = some (excObj t dx)) (ge : g.get? e = none) (ht : s'.heap.get? t = some (tupObj vs)) (gt : g.get? t = none) (N : News g L s'.heap news) (nn : ∀ p ∈ news, p.1 ≠ e ∧ p.1 ≠ t)
    (hQ : ∀ h', RaisedS base g outer e (.ref 34) t vs news h' → RaisedK base outer e (.ref 34) t vs news h' → g.UpToSlots h' → HasDict h' e dx → Q () { s' with heap := h' }) (hk : scope.kind = .function := by rfl) :
    wpAny M (A.deeper (envOf name scope L a cd)) (leaving (envOf name scope L a cd) (.ref e)) Q E s' := by
  have K' := K.push (name := name) (a := a) (cd := cd) F hk
  have be : base.get? e = none := fresh_of_stays K.stays ge
  have bt : base.get? t = none := fresh_of_stays K.stays gt
  have hfm : ∀ b, b ∈ e :: t :: (envOf name scope L a cd :: outer).filterMap (·.frame) → b = e ∨ b = t ∨ b ∈ (envOf name scope L a cd :: outer).filterMap (·.frame) := fun b hb => by
    rcases List.mem_cons.mp hb with q | hb
    · exact .inl q
    · rcases List.mem_cons.mp hb with q | hb
      · exact .inr (.inl q)
      · exact .inr (.inr hb)
  have hin : ∀ env ∈ (envOf name scope L a cd :: outer), ∀ b, env.frame = some b → b ∈ e :: t :: (envOf name scope L a cd :: outer).filterMap (·.frame) := fun env he b hb => .tail _ (.tail _ (List.mem_filterMap.mpr ⟨env, he, hb⟩))
  have st : base.StaysIn (hideAll s'.heap (e :: t :: (envOf name scope L a cd :: outer).filterMap (·.frame))) := fun b o q => hideAll_get _ (K'.stays b o q) fun hm => by
    rcases hfm b hm with rfl | rfl | hm
    · rw [be] at q; cases q
    · rw [bt] at q; cases q
    · rw [(K'.frames.mem hm).1] at q; cases q
  have sg : ∀ b o, g.get? b = some o → b ∉ outer.filterMap (·.frame) → (hideAll s'.heap (e :: t :: (envOf name scope L a cd :: outer).filterMap (·.frame))).get? b = some o := fun b o q nm => hideAll_get _ (F.keep b o q) fun hm => by
    rcases hfm b hm with rfl | rfl | hm
    · rw [ge] at q; cases q
    · rw [gt] at q; cases q
    · rcases kts_mem hm with z | z
      · rw [z, kts_self F] at q
        cases q
      · exact nm z
  have hl : ∀ q ∈ news, (hideAll s'.heap (e :: t :: (envOf name scope L a cd :: outer).filterMap (·.frame))).get? q.1 = some q.2 ∧ g.get? q.1 = none ∧ base.get? q.1 = none := fun q hq => by
    refine ⟨hideAll_get _ (N q hq).1 fun hm => ?_, (N q hq).2.2, fresh_of_stays K.stays (N q hq).2.2⟩
    rcases hfm q.1 hm with z | z | hm
    · exact (nn q hq).1 z
    · exact (nn q hq).2 z
    · obtain ⟨env, he, hf⟩ := List.mem_filterMap.mp hm
      rcases List.mem_cons.mp he with rfl | he
      · exact (N q hq).2.1 (Option.some.inj hf).symm
      · obtain ⟨o, ho, _⟩ := (K.frames.mem (List.mem_filterMap.mpr ⟨env, he, hf⟩)).2
        rw [(N q hq).2.2] at ho; cases ho
  have hen : (hideAll s'.heap (e :: t :: (envOf name scope L a cd :: outer).filterMap (·.frame))).get? e = none := hideAll_none _ (.head _)
  have htn : (hideAll s'.heap (e :: t :: (envOf name scope L a cd :: outer).filterMap (·.frame))).get? t = none := hideAll_none _ (.tail _ (.head _))
  refine wpAny_mono ((keeps_leaving _ _).any (wpAny_leaving_firstW (Q := fun _ s₁ => ∃ h', s₁ = { s' with heap := h' } ∧ RaisedS base g outer e (.ref 34) t vs news h' ∧ g.UpToSlots h') (a0 := .ref t) K'.stack (funFrames_hide K'.frames hin) rfl he (fun b o q => of_hideAll _ q) hen rfl rfl rfl fun h' hL => ?_)) (fun _ s₁ hs => ?_) fun _ _ z => z
  · obtain ⟨k1, ⟨_, _, k2⟩, k3, k4⟩ := hL
    refine ⟨h', rfl, ⟨⟨_, st, sg, hl, ⟨k1, hen, k2, k3⟩, htn⟩, Heap.TupAt.of_slots ⟨_, _, ht, rfl, rfl⟩ k4⟩, (Heap.UpToSlots.of_keeps F.keep).trans k4⟩
  · obtain ⟨⟨h', rfl, R, U⟩, D⟩ := hs
    exact hQ h' R R.toK U (HasDict.on ⟨_, he, rfl⟩ D)
end
end Mine
namespace Mine
open PySem PySem.W PySem.Calls PyProof.Rows
section
variable {prog : Program} {w : World} {A₀ : Around} {E : Value → Shared → Prop} {s' : Shared} {base g g₀ G : Heap} {outer : List Env} {L a e t dx : Addr} {m : Str → Option Value} {name : Str} {scope : Scope} {cd : Value}
  {vs : List Value} {n : Str} {b₀ : Stmt} {suite : List Stmt} {pos : Pos} {rest : List ExceptHandler} {Q : Flow → Shared → Prop} {news : List (Addr × Obj)} {KF : Frag} {tt : Expr}
  {p : Program} {loose : List Str} {mean : ExcName → Option Value} {mg mb : Str → Option Value}
theorem catch_exc (R : RaisedS base G (envOf name scope L a cd :: outer) e (.ref 34) t vs news s'.heap) (HD : HasDict s'.heap e dx) (F : Fr g L G m) (K : Below A₀ base outer g) (hsm : G.UpToSlots s'.heap) (XB : KF.In base) (TB : Top p loose mean mg mb base)
    (D : KtsDicts (outer.filterMap (·.frame)) g) (T0 : KtsTurn (outer.filterMap (·.frame)) g₀ g) (T : KtsTest prog w KF p loose mg mb name scope L a cd (.ref 34) tt true)
    (k : ∀ h' g' oe ot ws nt tk, KtsTurn (outer.filterMap (·.frame)) g₀ g' → Fr g' L h' (fun y => if y = n then some (.ref e) else m y) → News g' L h' ((e, oe) :: (t, ot) :: news) → oe.cls = .ref 34 → oe.dict = some dx → oe.data = .fields ws → ot.data = .seq vs.toArray nt → Below A₀ base outer g' → KF.In g' → Top p loose mean mg mb g' → KtsDicts (outer.filterMap (·.frame)) g' →
      wpAny (model prog w) ((A₀.deeper (envOf name scope L a cd)).mark (some (.ref e))) (execs (b₀ :: suite) (envOf name scope L a cd))
        (fun f s₄ => wpAny (model prog w) (A₀.deeper (envOf name scope L a cd)) (do bindName (envOf name scope L a cd) n .none; unbindBehindTheSuite (envOf name scope L a cd) n pos) (fun _ s₅ => Q f s₅) E s₄)
        (AsSuiteRaised (model prog w) ((A₀.deeper (envOf name scope L a cd)).mark (some (.ref e))) (envOf name scope L a cd) n pos (notedBy (model prog w) ((A₀.deeper (envOf name scope L a cd)).mark (some (.ref e))) (envOf name scope L a cd) (cameBackBy (model prog w) (A₀.deeper (envOf name scope L a cd)) (envOf name scope L a cd) E)))
        { s' with heap := h', toks := tk })
    (hk : scope.kind = .function := by rfl) (hlo : (envOf name scope L a cd).kindOf n = some .local := by rfl) :
    wpAny (model prog w) (A₀.deeper (envOf name scope L a cd)) (noteFrame (.ref e) (envOf name scope L a cd))
      (fun _ s₂ => wpAny (model prog w) (A₀.deeper (envOf name scope L a cd)) (setFlight (.ref e) none) (fun _ s₃ =>
        wpAny (model prog w) (A₀.deeper (envOf name scope L a cd)) (handleBy (.ref e) (envOf name scope L a cd) (.ExceptHandler (some tt) (some n) (b₀ :: suite) pos :: rest)) Q E s₃) E s₂) E s' := by
  obtain ⟨⟨B, hB, hBG, hl, hfl, hnew⟩, htup⟩ := R
  have hL : B.get? L = none := by
    obtain ⟨_, ⟨L', _, hf, hn', _⟩, _⟩ := hfl.2.2.1
    obtain rfl : L = L' := Option.some.inj hf
    exact hn'
  refine wpAny_mono ((keeps_noteFrame _ _).any (wpAny_looks_onW (Q := fun _ s₁ => ∃ h₄, s₁ = { s' with heap := h₄ } ∧ Heap.HeldW B (envOf name scope L a cd :: outer) e (.ref 34) (.ref t) L h₄ ∧ s'.heap.UpToSlots h₄) (Around.frames_deeper K.stack) rfl hfl fun h₄ x y => ⟨h₄, rfl, x, y⟩)) (fun _ s₁ hs => ?_) fun _ _ z => z
  obtain ⟨⟨h₄, rfl, hheld₄, hsm₄⟩, D4⟩ := hs
  refine wpAny_mono ((keeps_setFlight _ _).any (wpAny_landsW (Q := fun _ s₁ => ∃ h₅, s₁ = { s' with heap := h₅ } ∧ Heap.FlyingW B (envOf name scope L a cd :: outer) e (.ref 34) (.ref t) h₅ ∧ h₄.UpToSlots h₅) hheld₄ fun h₅ x y => ⟨h₅, rfl, x, y⟩)) (fun _ s₁ hs => ?_) fun _ _ z => z
  obtain ⟨⟨h₅, rfl, hheld, hsm₅'⟩, D5⟩ := hs
  have HD5 : HasDict h₅ e dx := (HD.on D4).on D5
  have hsmA : s'.heap.UpToSlots h₅ := hsm₄.trans hsm₅'
  have htup5 : h₅.TupAt t vs := htup.of_slots hsmA
  have R5 : RaisedS base G (envOf name scope L a cd :: outer) e (.ref 34) t vs news h₅ := ⟨⟨B, hB, hBG, hl, hheld, hnew⟩, htup5⟩
  obtain ⟨g₅, T₅, F₅, K₅⟩ := kts_ground K F hBG hheld.1 (hsm.trans hsmA)
  refine wpAny_handleBy_cons (codeAny_handlers_test (T _ _ _ _ g₅ e m F₅ (XB.keeps K₅.stays) (topRead_of (TB.keeps K₅.stays)) R5.toSN.ty fun h₆ kp => ?_)) (by intro q; cases q)
  have hsm₆ : G.UpToSlots h₆ := (hsm.trans hsmA).trans (Heap.UpToSlots.of_keeps kp)
  have HD6 : HasDict h₆ e dx := by
    obtain ⟨o, ho, hd⟩ := HD5
    exact ⟨o, kp _ _ ho, hd⟩
  have hfl6 : Heap.FlyingW B (envOf name scope L a cd :: outer) e (.ref 34) (.ref t) h₆ := flying_keeps hheld kp
  have htup6 : h₆.TupAt t vs := htup5.keeps kp
  refine codeAny_handlers_suite_as ?_
  refine wpAny_mono ((keeps_setFlight _ _).any (lands_againW (Q := fun _ s₁ => ∃ h₇, s₁ = { s' with heap := h₇ } ∧ Heap.FlyingW B (envOf name scope L a cd :: outer) e (.ref 34) (.ref t) h₇ ∧ h₆.UpToSlots h₇) hfl6 fun h₇ x y => ⟨h₇, rfl, x, y⟩)) (fun _ s₁ hs => ?_) fun _ _ z => z
  obtain ⟨⟨h₇, rfl, hfl₇, hsm₇⟩, D7⟩ := hs
  obtain ⟨oe, hoe, hdd⟩ : HasDict h₇ e dx := HD6.on D7
  obtain ⟨g₇, T₇, F₇, K₇⟩ := kts_ground K F hBG hfl₇.1 (hsm₆.trans hsm₇)
  obtain ⟨oe', ws, hoe', hoec, hoed, hoe0⟩ := hfl₇.first
  obtain rfl : oe = oe' := Option.some.inj (hoe.symm.trans hoe')
  obtain ⟨ot, nt, hot, hotc, hotd⟩ := htup6.of_slots hsm₇
  have ne₇ : g₇.get? e = none := T₇.none_ _ (kts_fresh F hBG hfl₇.2.1 fun o ho m => by
    obtain ⟨_, o', ho', hd⟩ := K.frames.mem m
    rw [ho] at ho'
    cases ho'
    obtain ⟨sl, hs⟩ := (hsm₆.trans hsm₇) _ _ (F.keep _ _ ho) hd
    rw [hoe] at hs
    cases hs
    exact hd _ hoed)
  have nt₇ : g₇.get? t = none := T₇.none_ _ (kts_fresh F hBG hnew fun o ho m => by
    obtain ⟨o', es, n', ho', hd⟩ := D _ m
    rw [ho] at ho'
    cases ho'
    obtain ⟨sl, hs⟩ := (hsm₆.trans hsm₇) _ _ (F.keep _ _ ho) (fun vs q => by rw [hd] at q; cases q)
    rw [hot] at hs
    cases hs
    have z := hd.symm.trans hotd
    cases z)
  have N₇ := News.more F₇ (News.more F₇ News.nil hot (fun es n q => by rw [hotd] at q; cases q) nt₇) hoe (fun es n q => by rw [hoed] at q; cases q) ne₇
  have Nl : News g₇ L h₇ news := fun q hq => ⟨hfl₇.1 _ _ (hl q hq).1, (fun z => by have := (hl q hq).1; rw [z, hL] at this; cases this), T₇.none_ _ (kts_none F.keep (hl q hq).2.1)⟩
  have X₇ : KF.In g₇ := XB.keeps K₇.stays
  have P₇ : Top p loose mean mg mb g₇ := TB.keeps K₇.stays
  have D₇ : KtsDicts (outer.filterMap (·.frame)) g₇ := D.turn T₇
  refine stN F₇ (news := (e, oe) :: (t, ot) :: news) (fun q hq => by
    rcases List.mem_cons.mp hq with rfl | hq
    · exact N₇ _ (.head _)
    · rcases List.mem_cons.mp hq with rfl | hq
      · exact N₇ _ (.tail _ (.head _))
      · exact Nl q hq) (fun h₈ F₈ N₈ => ?_) hk hlo
  exact k h₈ g₇ oe ot ws nt _ (T0.trans T₇) F₈ N₈ hoec hdd hoed hotd K₇ X₇ P₇ D₇
end
end Mine
namespace Mine
open PySem PySem.W PySem.W.X PyProof.Rows
theorem num_use {h : Heap} {g : Array GenState} {d : Drawn} {os : OsState} {v : Value} {Q : Value → Shared → Prop} (hQ : ∀ tk, Q v ⟨h, g, d, tk, os⟩) {tk : Nat} : Q v ⟨h, g, d, tk, os⟩ := hQ tk
section
local macro_rules | `(tactic| x_close) => `(tactic| (refine num_use (by assumption)))
theorem exc_number0 (w : World) (h : Heap) (g : Array GenState) (d : Drawn) (t : Nat) (os : OsState) (X : (hd.heap_39 w.params).In h) (A : Around) (e dx : Addr) (ws : Array Value) (sl : Array (Option Value)) (h1 h2 : Int) (k1 k2 t1 t2 tk : Tok) (k : Str) (n : Nat)
   (he : h.get? e = some ⟨.ref 34, some dx, .fields ws, sl⟩) (hd1 : h.get? dx = some ⟨.type "dict", none, .dict #[⟨h1, .str (Str.ofString "number") k1, .int 1 t1⟩, ⟨h2, .str (Str.ofString "told") k2, .str k t2⟩] n, #[]⟩) (Q E : Value → Shared → Prop)
   (hQ : ∀ tk, Q (.int 1 t1) ⟨h, g, d, tk, os⟩) : wpAny (model PySem.Challenge.rw_rh0223_01.row.prog w) A (call (.builtin "BaseException.__getattribute__") [.ref e, .str (Str.ofString "number") tk]) Q E ⟨h, g, d, t, os⟩ := by
  k_fill
  x_run
end
theorem exc_number (w : World) {A : Around} {E : Value → Shared → Prop} {s : Shared} {e dx : Addr} {oe : Obj} {ws : Array Value} {h1 h2 : Int} {k1 k2 t1 t2 : Tok} {k : Str} {n : Nat} {expr : Bool} {Q : Value → Shared → Prop}
    (X : (hd.heap_39 w.params).In s.heap) (he : s.heap.get? e = some oe) (hc : oe.cls = .ref 34) (hdd : oe.dict = some dx) (hdt : oe.data = .fields ws)
    (hd1 : s.heap.get? dx = some (dictOf [⟨h1, .str (Str.ofString "number") k1, .int 1 t1⟩, ⟨h2, .str (Str.ofString "told") k2, .str k t2⟩] n)) (h : ∀ tk, Q (.int 1 t1) { s with toks := tk }) :
    wpAny (model PySem.Challenge.rw_rh0223_01.row.prog w) A (getAttr (.ref e) (Str.ofString "number") expr) Q E s := by
  obtain ⟨oc, od, oda, sl⟩ := oe
  dsimp only at hc hdd hdt
  subst hc hdd hdt
  obtain ⟨hh, g, d, t, os⟩ := s
  have ga : findIn (hd.heap_39 w.params) (.ref 34) "__getattribute__" = some (some (.builtin "BaseException.__getattribute__")) := by kernel_rfl
  have gb : findIn (hd.heap_39 w.params) (.ref 34) "__getattr__" = some none := by kernel_rfl
  unfold getAttr getAttrBy
  refine wpAny_bind (wpAny_mkText (wpAny_holding (wpAny_bind ?_)))
  show wpAny _ _ (load e >>= fun o => pure o.cls) _ _ _
  refine wpAny_bind (wpAny_load he (wpAny_pure (wpAny_bind (Looks.at (looks_findIn X ga) ?_))))
  dsimp only
  rw [if_neg (by decide +kernel)]
  unfold getAttrByItsOwn hookBefore callGetattribute boundAndCalled
  simp only [show onTheHeap (Value.ref 34) = true from rfl, show onTheHeap (Value.builtin "BaseException.__getattribute__") = false from rfl, Bool.and_false, if_true, Bool.false_eq_true, if_false]
  refine wpAny_bind (Looks.at (looks_findIn X gb) ?_)
  refine wpAny_bind (wpAny_attempt (wpAny_holding ?_))
  refine wpAny_bind (wpAny_of_eq (a := (.builtin "BaseException.__getattribute__", [.ref e])) (by kernel_rfl) ?_)
  exact exc_number0 w hh g d _ os X A e dx ws sl h1 h2 k1 k2 t1 t2 _ k n he hd1 _ _ (fun tk => wpAny_pure (h tk))
end Mine
namespace Mine
open PySem PySem.W PySem.Calls PyProof.Rows
section
variable {prog : Program} {w : World} {A₀ A : Around} {s : Shared} {base h₀ : Heap} {L : Addr} {m : Str → Option Value} {env : Env} {news : List (Addr × Obj)} {K : Frag} {p : Program} {loose : List Str} {mean : ExcName → Option Value} {mg mb : Str → Option Value}
    {R : Result → Shared → Prop} {name qual : Str} {params : Arguments} {body : List Stmt} {scope : Scope} {dV kV doc pm cdv ct oc : Value} {an od : Option Addr} {osl : Array (Option Value)} {f : Addr} {args : Args} {binds : List (Str × Value)}
theorem env_mem {b : Addr} (hf : env.frame = some L) (q : b ∈ [env].filterMap (·.frame)) : b = L := by
  obtain ⟨env', he, hb⟩ := List.mem_filterMap.mp q
  rw [List.mem_singleton.mp he, hf] at hb
  exact (Option.some.inj hb).symm
theorem code_defS0X (B : Below A₀ base [] h₀) (F : Fr h₀ L s.heap m) (X₀ : K.In h₀) (N : News h₀ L s.heap news) (T : Top p loose mean mg mb h₀) (hA : A.frames = some [env]) (hf : env.frame = some L) (hke : env.scope.kind = .function)
    (ho : K.lookup f = some ⟨oc, od, .func (fnOf name qual params body scope dV kV doc pm an cdv ct), osl⟩) (hcd : codeIn K cdv qual = true) (hroom : A.depth < recursionLimit)
    (hbind : BindsTo s (fnOf name qual params body scope dV kV doc pm an cdv ct) args binds) (hloc : ∀ y ∈ binds, scope.names.lookup y.1 = some .local)
    (h : ∀ g L' h₁, Fr h₀ L g m → Fr g L' h₁ (fun y => binds.reverse.lookup y) → News g L' h₁ news → Below A base [env] g → K.In g → Top p loose mean mg mb g → KtsDicts ([env].filterMap (·.frame)) g →
      wpAny (model prog w) (A.deeper (envOf qual scope L' f cdv)) (execs body (envOf qual scope L' f cdv))
        (fun fl s' => LeaveS0 ([env].filterMap (·.frame)) h₀ L m g R (match fl with | .ret v => v | _ => .none) s')
        (fun e s' => wpAny (model prog w) (A.deeper (envOf qual scope L' f cdv)) (leaving (envOf qual scope L' f cdv) e) (fun _ s'' => R (.error e) s'') (fun e' s'' => R (.error e') s'') s')
        { s with heap := h₁, toks := s.toks + binds.length })
    (hco : scope.isCoroutine = false) (hgen : scope.isGenerator = false) (hk : scope.kind = .function)
    (hcell : ∀ x ∈ scope.names, x.2 ≠ .cell) : codeAny (model prog w) A (.call (.ref f) args) R s := by
  have X := X₀.keeps F.keep
  obtain ⟨FG, BG, st, _⟩ := groundX (R := R) B F N hA hf hke
  refine codeAny_call_def (fd := fnOf name qual params body scope dV kV doc pm an cdv ct) (body := body) (binds := binds) hroom (X _ _ ho) rfl (T.nolimit.keeps F.keep) (codeRec_of X hcd) rfl hbind hcell hloc (fun h₁ hns hk₁ => ?_) hco hgen hk
  obtain ⟨oL, es, ep, hLg, hLd, hLk, hLf⟩ := FG.ns
  refine wpAny_mono (h _ s.heap.objs.size h₁ FG ⟨hns, fun b o e => hk₁ b o (of_hideAll _ e), Nat.le_of_eq (hideAll_size _ _)⟩
    (fun p hp => ⟨hk₁ _ _ (N p hp).1, Nat.ne_of_lt (Heap.lt_size (N p hp).1), hideAll_none _ (List.mem_map_of_mem hp)⟩) BG (X₀.keeps st) (T.keeps st) (fun b hb => by
      obtain rfl := env_mem hf hb
      exact ⟨oL, es, ep, hLg, hLd⟩)) (fun fl s' hl => ?_) fun _ _ y => y
  obtain ⟨g', L', m', news', T', F', N', k⟩ := hl
  have nL₀ : h₀.get? L = none := kts_self F
  obtain ⟨sl, hs⟩ := T'.up hLg
  refine k ⟨⟨_, es, ep, F'.keep _ _ hs, hLd, hLk, hLf⟩, fun b o e => F'.keep b o (T'.other b o (st b o e) (fun q => by
    rw [env_mem hf q, nL₀] at e
    cases e)), F.above⟩ fun p hp => ⟨(N' p hp).1, fun q => ?_, ?_⟩
  · have := (N' p hp).2.2; rw [q, hs] at this; cases this
  · cases q : h₀.get? p.1 with
    | none => rfl
    | some o =>
      obtain ⟨sl', hs'⟩ := T'.up (st _ _ q)
      have := (N' p hp).2.2
      rw [hs'] at this
      cases this
end
def ExcClsAt (h : Heap) : Prop := ∃ nm q N bs hdct sn sub ab col dd k0 k1 k2 k3 k5, h.get? 34 = some (excClassObj nm q 34 N bs [.type "Exception", .type "BaseException", .type "object"] hdct sn sub ab col dd k0 k1 k2 k3 k5 "Exception.__new__")
theorem excCls_in (w : World) {h : Heap} (X : (hd.heap_39 w.params).In h) : ExcClsAt h := by
  exact ⟨Str.ofString "SnobolError", Str.ofString "SnobolError", 33, [.type "Exception"], true, [], [], false, none, none, some (.ref 15), none, some (.str (Str.ofString "SnobolError") 189), some (.str (Str.ofString "SnobolError") 197), some (.bool true), X 34 _ (by kernel_rfl)⟩
def RaiseOk (E : Value → Shared → Prop) (v : Value) (s : Shared) : Prop := ∃ e t dx, v = .ref e ∧ ExcClsAt s.heap ∧ s.heap.get? e = some (excObj t dx) ∧ E (.ref e) s
section
variable {M : Model} {A : Around} {E : Value → Shared → Prop} {s : Shared} {env : Env} {Q : Flow → Shared → Prop}
theorem raise_ok {e t dx : Addr} (hc : ExcClsAt s.heap) (he : s.heap.get? e = some (excObj t dx)) (h : E (.ref e) s) : RaiseOk E (.ref e) s := ⟨e, t, dx, rfl, hc, he, h⟩
theorem raise_made {x : Sem Value} (hh : A.handled = none) (h : wpAny M A x (RaiseOk E) E s) : wpAny M A (raiseStmt env (some x) none) Q E s := by
  have hcB : (Value.ref 34 :: [Value.type "Exception", .type "BaseException", .type "object"]).contains (.type "BaseException") = true := by decide
  unfold raiseStmt
  refine wpAny_bind (wpAny_mono h (fun v s₁ h₁ => ?_) fun _ _ x => x)
  obtain ⟨e, t, dx, rfl, ⟨nm, q, N, bs, hdct, sn, sub, ab, col, dd, k0, k1, k2, k3, k5, hC⟩, he, hE⟩ := h₁
  obtain ⟨hp, g, d, tk, os⟩ := s₁
  repeat (first | with_reducible refine wpAny_loadPart_at he ?_ | with_reducible refine wpAny_loadPart_at hC ?_ | (with_reducible refine wpAny_isSubtype_exc hC ?_; rw [hcB]) | wp_step)
  exact wpAny_raiseNew_none hh hE
theorem raise_here {x : Expr} {pos : Pos} (hh : A.handled = none) (h : wpAny M A (eval x env) (RaiseOk E) E s) : wpAny M A (exec (.Raise (some x) none pos) env) Q E s := by
  show wpAny M A (do standAt pos; raiseStmt env (some (do let v ← eval x env; standAt pos; pure v)) none) Q E s
  exact wpAny_bind (wpAny_standAt (raise_made hh (wpAny_bind (wpAny_mono h (fun v s₁ h₁ => wpAny_bind (wpAny_standAt (wpAny_pure h₁))) fun _ _ x => x))))
end
section
variable {M : Model} {A : Around} {E : Value → Shared → Prop} {s' : Shared} {base g : Heap} {outer : List Env} {L a e t dx : Addr} {m : Str → Option Value} {name : Str} {scope : Scope} {cd : Value} {Q : Unit → Shared → Prop} {news : List (Addr × Obj)} {vs : List Value} {es : List DictEntry} {n : Nat}
theorem leave_exc (K : Below A base outer g) (F : Fr g L s'.heap m) (N : News g L s'.heap ((e, excObj t dx) :: (dx, dictOf es n) :: (t, tupObj vs) :: news)) (nn : ∀ p ∈ news, p.1 ≠ e ∧ p.1 ≠ t)
    (hQ : ∀ h', RaisedS base g outer e (.ref 34) t vs ((dx, dictOf es n) :: news) h' → g.UpToSlots h' → HasDict h' e dx → Q () { s' with heap := h' }) (hk : scope.kind = .function := by rfl) :
    wpAny M (A.deeper (envOf name scope L a cd)) (leaving (envOf name scope L a cd) (.ref e)) Q E s' := by
  have he := N (e, excObj t dx) (.head _)
  have hd := N (dx, dictOf es n) (.tail _ (.head _))
  have ht := N (t, tupObj vs) (.tail _ (.tail _ (.head _)))
  refine leave_excS K F he.1 he.2.2 ht.1 ht.2.2 (news := (dx, dictOf es n) :: news) (fun p hp => N p (by
    rcases List.mem_cons.mp hp with rfl | hp
    · exact .tail _ (.head _)
    · exact .tail _ (.tail _ (.tail _ hp)))) (fun p hp => ?_) (fun h' R _ U H => hQ h' R U H) hk
  rcases List.mem_cons.mp hp with rfl | hp
  · refine ⟨fun q => ?_, fun q => ?_⟩
    · have := hd.1; rw [show (dx, dictOf es n).1 = e from q, he.1] at this; cases this
    · have := hd.1; rw [show (dx, dictOf es n).1 = t from q, ht.1] at this; exact absurd (Value.type.inj (congrArg Obj.cls (Option.some.inj this))) (by decide)
  · exact nn p hp
end
end Mine
namespace Mine
open PySem PySem.W PyProof.Rows

inductive Thing where
  | str (x : Str)
  | int (i : Int)
  | pat (d : Dat)
  | ref (x : Str)
  | delayed (d : Dat)
  | code (d : Dat)
  | holder (w : Str) (n : Int)

inductive ThingIn (news : List (Addr × Obj)) : Value → Thing → Prop where
  | str (x : Str) (t : Tok) : ThingIn news (.str x t) (.str x)
  | int (i : Int) (t : Tok) : ThingIn news (.int i t) (.int i)
  | pat {a da t : Addr} {h : Int} {k : Tok} {n : Nat} {d : Dat} : (a, instObj 54 da) ∈ news → (da, dictOf [⟨h, .str (Str.ofString "node") k, .ref t⟩] n) ∈ news → DatIn news (.ref t) d → ThingIn news (.ref a) (.pat d)
  | ref {a da : Addr} {h1 h2 h3 : Int} {k1 k2 k3 t1 t3 : Tok} {n : Nat} {x : Str} : (a, instObj 117 da) ∈ news →
      (da, dictOf [⟨h1, .str (Str.ofString "kind") k1, .str (Str.ofString "var") t1⟩, ⟨h2, .str (Str.ofString "owner") k2, .none⟩, ⟨h3, .str (Str.ofString "key") k3, .str x t3⟩] n) ∈ news → ThingIn news (.ref a) (.ref x)
  | delayed {a da t : Addr} {h : Int} {k : Tok} {n : Nat} {d : Dat} : (a, instObj 75 da) ∈ news → (da, dictOf [⟨h, .str (Str.ofString "tree") k, .ref t⟩] n) ∈ news → DatIn news (.ref t) d → ThingIn news (.ref a) (.delayed d)
  | code {a da t : Addr} {h : Int} {k : Tok} {n : Nat} {d : Dat} : (a, instObj 96 da) ∈ news → (da, dictOf [⟨h, .str (Str.ofString "begin") k, .ref t⟩] n) ∈ news → DatIn news (.ref t) d → ThingIn news (.ref a) (.code d)
  | holder {a da : Addr} {h1 h2 h3 : Int} {k1 k2 k3 t1 t2 t3 : Tok} {n : Nat} {w : Str} {i : Int} : (a, instObj 138 da) ∈ news →
      (da, dictOf [⟨h1, .str (Str.ofString "word") k1, .str w t1⟩, ⟨h2, .str (Str.ofString "number") k2, .int i t2⟩, ⟨h3, .str (Str.ofString "mark") k3, .int 0 t3⟩] n) ∈ news → ThingIn news (.ref a) (.holder w i)

def kindOf : Thing → Str
  | .str _ => Str.ofString "STRING"
  | .int _ => Str.ofString "INTEGER"
  | .pat _ => Str.ofString "PATTERN"
  | .ref _ => Str.ofString "NAME"
  | .delayed _ => Str.ofString "EXPRESSION"
  | .code _ => Str.ofString "CODE"
  | .holder w _ => w

abbrev kindT : ToldN Thing where
  Rel := fun news vs d => ∃ v, vs = [v] ∧ ThingIn news v d
  Ok := fun _ => True
  size := fun _ => 2
  Tl := fun tl => tl = []
  Out := fun _ r d => ∃ t, r = .str (kindOf d) t

local macro_rules | `(tactic| k_room) => `(tactic| ktr_room)
local macro_rules | `(tactic| k_mem) => `(tactic| ((with_reducible (repeat' (first | exact List.mem_cons_self | assumption | refine List.mem_cons_of_mem _ ?_ | (refine List.mem_append.mpr (Or.inl ?_); assumption) | refine List.mem_append.mpr (Or.inr ?_)))); done))
local macro_rules | `(tactic| kqd_sub) => `(tactic| (intro p9 h9; (repeat (first | exact h9 | refine List.mem_cons_of_mem _ ?_)); done))
local macro_rules | `(tactic| k_all) => `(tactic| assumption)

theorem ThingIn.mono {news news' : List (Addr × Obj)} (hs : ∀ p ∈ news, p ∈ news') {v : Value} {d : Thing} (h : ThingIn news v d) : ThingIn news' v d := by
  cases h with
  | str x t => exact .str x t
  | int i t => exact .int i t
  | pat a b c => exact .pat (hs _ a) (hs _ b) (c.mono hs)
  | ref a b => exact .ref (hs _ a) (hs _ b)
  | delayed a b c => exact .delayed (hs _ a) (hs _ b) (c.mono hs)
  | code a b c => exact .code (hs _ a) (hs _ b) (c.mono hs)
  | holder a b => exact .holder (hs _ a) (hs _ b)

def typeT : Thing → Value
  | .str _ => .type "str"
  | .int _ => .type "int"
  | .pat _ => .ref 54
  | .ref _ => .ref 117
  | .delayed _ => .ref 75
  | .code _ => .ref 96
  | .holder _ _ => .ref 138
def isHolder : Thing → Bool
  | .holder _ _ => true
  | _ => false
def isRef : Thing → Bool
  | .ref _ => true
  | _ => false
def isPat : Thing → Bool
  | .pat _ => true
  | _ => false
def isDelayed : Thing → Bool
  | .delayed _ => true
  | _ => false
def isCode : Thing → Bool
  | .code _ => true
  | _ => false
def isStr : Thing → Bool
  | .str _ => true
  | _ => false
def isInt : Thing → Bool
  | .int _ => true
  | _ => false
def isPlain : Thing → Bool
  | .str _ => true
  | .int _ => true
  | _ => false

theorem thing_kit (w : World) {news : List (Addr × Obj)} {v : Value} {d : Thing} (hT : ThingIn news v d) :
    ∃ H : Heap → Prop, KitX (hd.heap_39 w.params) v (typeT d) H ∧ ∀ h₀ L h, News h₀ L h news → H h := by
  have q : PySem.Challenge.rw_rh0223_01 = PySem.Challenge.rw_rh0223_01 := rfl
  revert q
  k_fill
  intro _
  cases hT
  case str => exact ⟨_, kitx_str, fun _ _ _ _ => trivial⟩
  case int => exact ⟨_, kitx_int, fun _ _ _ _ => trivial⟩
  all_goals (
    refine ⟨_, kitx_own ?k4 ?k5 ?k6 ?k7 ?k8 ?k9, fun h₀ L h N => InstAt.of_news N (by assumption) (by assumption)⟩
    case k4 => k_dflt k_is
    case k5 => k_dflt k_is
    case k6 => k_dflt k_is
    case k7 => k_dflt k_is
    case k8 => k_dflt k_is
    case k9 => k_dflt k_is)
theorem kit_holder (w : World) (d : Thing) : kitOne (hd.heap_39 w.params) (typeT d) (.ref 138) = some (isHolder d) := by
  cases d <;> (unfold typeT isHolder; kit_is)
theorem kit_ref (w : World) (d : Thing) : kitOne (hd.heap_39 w.params) (typeT d) (.ref 117) = some (isRef d) := by
  cases d <;> (unfold typeT isRef; kit_is)
theorem kit_pat (w : World) (d : Thing) : kitOne (hd.heap_39 w.params) (typeT d) (.ref 54) = some (isPat d) := by
  cases d <;> (unfold typeT isPat; kit_is)
theorem kit_delayed (w : World) (d : Thing) : kitOne (hd.heap_39 w.params) (typeT d) (.ref 75) = some (isDelayed d) := by
  cases d <;> (unfold typeT isDelayed; kit_is)
theorem kit_code (w : World) (d : Thing) : kitOne (hd.heap_39 w.params) (typeT d) (.ref 96) = some (isCode d) := by
  cases d <;> (unfold typeT isCode; kit_is)
theorem kit_str (w : World) (d : Thing) : kitOne (hd.heap_39 w.params) (typeT d) (.type "str") = some (isStr d) := by
  cases d <;> (unfold typeT isStr; kit_is)
theorem kit_int (w : World) (d : Thing) : kitOne (hd.heap_39 w.params) (typeT d) (.type "int") = some (isInt d) := by
  cases d <;> (unfold typeT isInt; kit_is)
theorem kit_plain (w : World) (d : Thing) : kitAny (hd.heap_39 w.params) (typeT d) [.type "str", .type "int"] = some (isPlain d) := by
  cases d <;> (unfold typeT isPlain; kit_is)

section
variable {prog : Program} {w : World} {A : Around} {E : Value → Shared → Prop} {s : Shared} {h₀ : Heap} {L a b : Addr} {news news' : List (Addr × Obj)} {v : Value} {d : Thing} {b : Bool} {c : Value} {Q : Value → Shared → Prop}
theorem thing_is (N : News h₀ L s.heap news') (X : (hd.heap_39 w.params).In s.heap) (hT : ThingIn news v d) (hs : ∀ p ∈ news, p ∈ news') (e : kitOne (hd.heap_39 w.params) (typeT d) c = some b)
    (h : ∀ tk, Q (.bool b) { s with toks := tk }) : wpAny (model prog w) A (call (.builtin "isinstance") [v, c]) Q E s := by
  obtain ⟨H, Z, hH⟩ := thing_kit w (hT.mono hs)
  exact kia_one Z X (hH _ _ _ N) e (by cases hT <;> (intro q; cases q)) h
theorem thing_is2 {tp : Addr} (N : News h₀ L s.heap news') (X : (hd.heap_39 w.params).In s.heap) (hT : ThingIn news v d) (hs : ∀ p ∈ news, p ∈ news')
    (hm : (tp, ({ cls := .type "tuple", data := .seq [Value.type "str", Value.type "int"].toArray } : Obj)) ∈ news')
    (h : ∀ tk, Q (.bool (isPlain d)) { s with toks := tk }) : wpAny (model prog w) A (call (.builtin "isinstance") [v, .ref tp]) Q E s := by
  obtain ⟨H, Z, hH⟩ := thing_kit w (hT.mono hs)
  exact kia_tup Z X (hH _ _ _ N) (N.get hm) (kit_plain w d) (by cases hT <;> (intro q; cases q)) h
end
section

theorem kind_by (d : Thing) : (isStr d = true → kindOf d = Str.ofString "STRING") ∧ (isInt d = true → kindOf d = Str.ofString "INTEGER") ∧ (isPat d = true → kindOf d = Str.ofString "PATTERN") ∧
    (isRef d = true → kindOf d = Str.ofString "NAME") ∧ (isDelayed d = true → kindOf d = Str.ofString "EXPRESSION") ∧ (isCode d = true → kindOf d = Str.ofString "CODE") := by
  cases d <;> (refine ⟨?_, ?_, ?_, ?_, ?_, ?_⟩ <;> intro h <;> first | rfl | cases h)
theorem kind_none {d : Thing} (h1 : isStr d = false) (h2 : isInt d = false) (h3 : isPat d = false) (h4 : isRef d = false) (h5 : isDelayed d = false) (h6 : isCode d = false) (h7 : isHolder d = false) : False := by
  cases d <;> first | exact absurd h1 (by decide) | exact absurd h2 (by decide) | exact absurd h3 (by decide) | exact absurd h4 (by decide) | exact absurd h5 (by decide) | exact absurd h6 (by decide) | exact absurd h7 (by decide) | (simp [isStr, isInt, isPat, isRef, isDelayed, isCode, isHolder] at h1 h2 h3 h4 h5 h6 h7)
theorem inv_holder {news : List (Addr × Obj)} {v : Value} {d : Thing} (h : ThingIn news v d) (e : isHolder d = true) : ∃ (a da : Addr) (h1 h2 h3 : Int) (k1 k2 k3 t1 t2 t3 : Tok) (n : Nat) (w : Str) (i : Int), v = .ref a ∧ d = .holder w i ∧ (a, instObj 138 da) ∈ news ∧
      (da, dictOf [⟨h1, .str (Str.ofString "word") k1, .str w t1⟩, ⟨h2, .str (Str.ofString "number") k2, .int i t2⟩, ⟨h3, .str (Str.ofString "mark") k3, .int 0 t3⟩] n) ∈ news := by
  cases h <;> first | (exact ⟨_, _, _, _, _, _, _, _, _, _, _, _, _, _, rfl, rfl, by assumption, by assumption⟩) | (simp [isHolder] at e; done)
set_option pp.deepTerms false in
set_option pp.maxSteps 4000 in
theorem kind_of_tells (w : World) (mean : ExcName → Option Value) (mg mb : Str → Option Value) (d : Thing) :
    TellsN PySem.Challenge.rw_rh0223_01.row.prog w (hd.heap_39 w.params) hd.view_39 (looseW hd.view_39 [Str.ofString "SnobolError"]) mean mg mb 149 kindT d := by
  k_fill
  unfold TellsN
  intro dp un gd cn cs a ccd cl outer A₀ base h₀ L m news s vs Q E B F X N T hk hR hok hdp hu hret
  obtain ⟨v, rfl, hT⟩ := hR
  dsimp only [kindT] at hok hdp hu hret
  refine wpAny_call ?_
  k_dflt ktr_enter
  repeat' (first | (k_unfold; (try dsimp only)) | (k_end; kc_close) | ((with_reducible show wpAny _ _ (call (Value.builtin "isinstance") _) _ _ _); k_dflt (first | (refine' thing_is ?N ?X ?T ?S ?K ?_; (case N => k_asm); (case X => k_in); (case T => assumption); (case S => kqd_sub); (case K => first | exact kit_str _ _ | exact kit_int _ _ | exact kit_holder _ _ | exact kit_ref _ _ | exact kit_pat _ _ | exact kit_delayed _ _ | exact kit_code _ _); k_whole) | (refine' thing_is2 ?N ?X ?T ?S ?M ?_; (case N => k_asm); (case X => k_in); (case T => assumption); (case S => kqd_sub); (case M => k_mem); k_whole)); intro tk') | ((with_reducible show wpAny _ _ (compareOp CmpOp.Eq (Value.ref _) (Value.ref _)) _ _ _); k_dflt (refine' dat_eq ?zN ?za ?zb ?zc ?zd ?ze ?_; (case zN => k_asm); (case za => first | assumption | exact DatIn.mono (by kqd_sub) (by assumption)); (case zb => first | assumption | exact DatIn.mono (by kqd_sub) (by assumption)); (case zc => assumption); (case zd => assumption); (case ze => ktr_units); k_whole)) | walk1 | (dsimp only; walk1) | (leave1; walk_say "STEP leave1"; (try dsimp only)) | fail "no step")
  all_goals first
    | (rename (isStr _ = true) => hh9; refine hret _ [] _ _ (by k_asm) (ktn_tl0 (cb_drop (by k_asm) (by kqd_sub))) ktn_ord0 rfl ⟨_, by rw [(kind_by _).1 hh9]⟩; done)
    | (rename (isInt _ = true) => hh9; refine hret _ [] _ _ (by k_asm) (ktn_tl0 (cb_drop (by k_asm) (by kqd_sub))) ktn_ord0 rfl ⟨_, by rw [(kind_by _).2.1 hh9]⟩; done)
    | (rename (isPat _ = true) => hh9; refine hret _ [] _ _ (by k_asm) (ktn_tl0 (cb_drop (by k_asm) (by kqd_sub))) ktn_ord0 rfl ⟨_, by rw [(kind_by _).2.2.1 hh9]⟩; done)
    | (rename (isRef _ = true) => hh9; refine hret _ [] _ _ (by k_asm) (ktn_tl0 (cb_drop (by k_asm) (by kqd_sub))) ktn_ord0 rfl ⟨_, by rw [(kind_by _).2.2.2.1 hh9]⟩; done)
    | (rename (isDelayed _ = true) => hh9; refine hret _ [] _ _ (by k_asm) (ktn_tl0 (cb_drop (by k_asm) (by kqd_sub))) ktn_ord0 rfl ⟨_, by rw [(kind_by _).2.2.2.2.1 hh9]⟩; done)
    | (rename (isCode _ = true) => hh9; refine hret _ [] _ _ (by k_asm) (ktn_tl0 (cb_drop (by k_asm) (by kqd_sub))) ktn_ord0 rfl ⟨_, by rw [(kind_by _).2.2.2.2.2 hh9]⟩; done)
    | (exfalso; exact kind_none (by assumption) (by assumption) (by assumption) (by assumption) (by assumption) (by assumption) (by assumption); done)
    | skip
  · rename (isHolder _ = true) => hh9
    obtain ⟨a1, b1, h11, h12, h13, k11, k12, k13, t11, t12, t13, n1, w1, i1, rfl, rfl, p1, q1⟩ := inv_holder hT hh9
    repeat' (first | (k_unfold; (try dsimp only)) | (k_end; kc_close) | ((with_reducible show wpAny _ _ (call (Value.builtin "isinstance") _) _ _ _); k_dflt (first | (refine' thing_is ?N ?X ?T ?S ?K ?_; (case N => k_asm); (case X => k_in); (case T => assumption); (case S => kqd_sub); (case K => first | exact kit_str _ _ | exact kit_int _ _ | exact kit_holder _ _ | exact kit_ref _ _ | exact kit_pat _ _ | exact kit_delayed _ _ | exact kit_code _ _); k_whole) | (refine' thing_is2 ?N ?X ?T ?S ?M ?_; (case N => k_asm); (case X => k_in); (case T => assumption); (case S => kqd_sub); (case M => k_mem); k_whole)); intro tk') | ((with_reducible show wpAny _ _ (compareOp CmpOp.Eq (Value.ref _) (Value.ref _)) _ _ _); k_dflt (refine' dat_eq ?zN ?za ?zb ?zc ?zd ?ze ?_; (case zN => k_asm); (case za => first | assumption | exact DatIn.mono (by kqd_sub) (by assumption)); (case zb => first | assumption | exact DatIn.mono (by kqd_sub) (by assumption)); (case zc => assumption); (case zd => assumption); (case ze => ktr_units); k_whole)) | walk1 | (dsimp only; walk1) | (leave1; walk_say "STEP leave1"; (try dsimp only)) | fail "no step")
    first | ktn_end hret

abbrev plainT : ToldN Thing where
  Rel := fun news vs d => ∃ v, vs = [v] ∧ ThingIn news v d
  Ok := fun _ => True
  size := fun _ => 2
  Tl := fun tl => tl = []
  Out := fun _ r d => ∃ _ : Unit, r = .bool (isPlain d)

set_option pp.deepTerms false in
set_option pp.maxSteps 4000 in
theorem is_plain_tells (w : World) (mean : ExcName → Option Value) (mg mb : Str → Option Value) (d : Thing) :
    TellsN PySem.Challenge.rw_rh0223_01.row.prog w (hd.heap_39 w.params) hd.view_39 (looseW hd.view_39 [Str.ofString "SnobolError"]) mean mg mb 156 plainT d := by
  k_fill
  unfold TellsN
  intro dp un gd cn cs a ccd cl outer A₀ base h₀ L m news s vs Q E B F X N T hk hR hok hdp hu hret
  obtain ⟨v, rfl, hT⟩ := hR
  dsimp only [plainT] at hok hdp hu hret
  refine wpAny_call ?_
  k_dflt ktr_enter
  repeat' (first | (k_unfold; (try dsimp only)) | (k_end; kc_close) | ((with_reducible show wpAny _ _ (call (Value.builtin "isinstance") _) _ _ _); k_dflt (first | (refine' thing_is ?N ?X ?T ?S ?K ?_; (case N => k_asm); (case X => k_in); (case T => assumption); (case S => kqd_sub); (case K => first | exact kit_str _ _ | exact kit_int _ _ | exact kit_holder _ _ | exact kit_ref _ _ | exact kit_pat _ _ | exact kit_delayed _ _ | exact kit_code _ _); k_whole) | (refine' thing_is2 ?N ?X ?T ?S ?M ?_; (case N => k_asm); (case X => k_in); (case T => assumption); (case S => kqd_sub); (case M => k_mem); k_whole)); intro tk') | ((with_reducible show wpAny _ _ (compareOp CmpOp.Eq (Value.ref _) (Value.ref _)) _ _ _); k_dflt (refine' dat_eq ?zN ?za ?zb ?zc ?zd ?ze ?_; (case zN => k_asm); (case za => first | assumption | exact DatIn.mono (by kqd_sub) (by assumption)); (case zb => first | assumption | exact DatIn.mono (by kqd_sub) (by assumption)); (case zc => assumption); (case zd => assumption); (case ze => ktr_units); k_whole)) | walk1 | (dsimp only; walk1) | (leave1; walk_say "STEP leave1"; (try dsimp only)) | fail "no step")
  all_goals first
      | (refine hret _ [] _ _ (by k_asm) (ktn_tl0 (cb_drop (by k_asm) (by kqd_sub))) ktn_ord0 rfl ⟨(), rfl⟩; done)

section
variable {prog : Program} {w : World} {A : Around} {E : Value → Shared → Prop} {s : Shared} {h₀ : Heap} {L a b : Addr} {news : List (Addr × Obj)} {d e : Dat} {Q : Value → Shared → Prop}
open Classical in
theorem dat_eq (N : News h₀ L s.heap news) (Da : DatIn news (.ref a) d) (Db : DatIn news (.ref b) e) (ha : kqdOk 8 d = true) (hb : kqdOk 8 e = true) (hu : A.units + 64 < cLine)
    (h : Q (.bool (decide (d = e))) s) : wpAny (model prog w) A (compareOp .Eq (.ref a) (.ref b)) Q E s := by
  obtain ⟨as, ra⟩ := kqd_in N 8 Da ha
  obtain ⟨bs, rb⟩ := kqd_in N 8 Db hb
  have la := kqd_lay 8 d ha
  have lb := kqd_lay 8 e hb
  have q : PyData.eqv (kqdP d) (kqdP e) = decide (d = e) := by
    have z := kqd_eqv 8 d e 8 ha hb
    by_cases hq : d = e
    · rw [decide_eq_true hq]; exact z.mpr hq
    · rw [decide_eq_false hq]; exact Bool.eq_false_iff.mpr fun x => hq (z.mp x)
  refine eq_dataH ra rb ?_ ?_ hu (by rw [q]; exact h)
  · unfold SeqAt.shaped; rw [la.1, Bool.true_and]; exact decide_eq_true (Nat.le_trans la.2 (by decide))
  · unfold SeqAt.shaped; rw [lb.1, Bool.true_and]; exact decide_eq_true (Nat.le_trans lb.2 (by decide))
open Classical in
theorem dat_ne (N : News h₀ L s.heap news) (Da : DatIn news (.ref a) d) (Db : DatIn news (.ref b) e) (ha : kqdOk 8 d = true) (hb : kqdOk 8 e = true) (hu : A.units + 64 < cLine)
    (h : Q (.bool (!decide (d = e))) s) : wpAny (model prog w) A (compareOp .NotEq (.ref a) (.ref b)) Q E s := by
  obtain ⟨as, ra⟩ := kqd_in N 8 Da ha
  obtain ⟨bs, rb⟩ := kqd_in N 8 Db hb
  have la := kqd_lay 8 d ha
  have lb := kqd_lay 8 e hb
  have q : PyData.eqv (kqdP d) (kqdP e) = decide (d = e) := by
    have z := kqd_eqv 8 d e 8 ha hb
    by_cases hq : d = e
    · rw [decide_eq_true hq]; exact z.mpr hq
    · rw [decide_eq_false hq]; exact Bool.eq_false_iff.mpr fun x => hq (z.mp x)
  refine ne_dataH ra rb ?_ ?_ hu (by rw [q]; exact h)
  · unfold SeqAt.shaped; rw [la.1, Bool.true_and]; exact decide_eq_true (Nat.le_trans la.2 (by decide))
  · unfold SeqAt.shaped; rw [lb.1, Bool.true_and]; exact decide_eq_true (Nat.le_trans lb.2 (by decide))
end

abbrev refT : ToldN (Str × Str) where
  Rel := fun news vs d => ∃ v u, vs = [v, u] ∧ ThingIn news v (.ref d.1) ∧ ThingIn news u (.ref d.2)
  Ok := fun _ => True
  size := fun _ => 2
  Tl := fun tl => tl = []
  Out := fun _ r d => ∃ b, r = .bool b ∧ (b = true ↔ d.1 = d.2)

set_option pp.deepTerms false in
set_option pp.maxSteps 4000 in
theorem same_ref_tells (w : World) (mean : ExcName → Option Value) (mg mb : Str → Option Value) (d : Str × Str) :
    TellsN PySem.Challenge.rw_rh0223_01.row.prog w (hd.heap_39 w.params) hd.view_39 (looseW hd.view_39 [Str.ofString "SnobolError"]) mean mg mb 163 refT d := by
  k_fill
  unfold TellsN
  intro dp un gd cn cs a ccd cl outer A₀ base h₀ L m news s vs Q E B F X N T hk hR hok hdp hu hret
  obtain ⟨x, y⟩ := d
  obtain ⟨v, u, rfl, hT, hU⟩ := hR
  dsimp only [refT] at hok hdp hu hret hT hU
  cases hT
  cases hU
  refine wpAny_call ?_
  k_dflt ktr_enter
  repeat' (first | (k_unfold; (try dsimp only)) | (k_end; kc_close) | ((with_reducible show wpAny _ _ (call (Value.builtin "isinstance") _) _ _ _); k_dflt (first | (refine' thing_is ?N ?X ?T ?S ?K ?_; (case N => k_asm); (case X => k_in); (case T => assumption); (case S => kqd_sub); (case K => first | exact kit_str _ _ | exact kit_int _ _ | exact kit_holder _ _ | exact kit_ref _ _ | exact kit_pat _ _ | exact kit_delayed _ _ | exact kit_code _ _); k_whole) | (refine' thing_is2 ?N ?X ?T ?S ?M ?_; (case N => k_asm); (case X => k_in); (case T => assumption); (case S => kqd_sub); (case M => k_mem); k_whole)); intro tk') | ((with_reducible show wpAny _ _ (compareOp CmpOp.Eq (Value.ref _) (Value.ref _)) _ _ _); k_dflt (refine' dat_eq ?zN ?za ?zb ?zc ?zd ?ze ?_; (case zN => k_asm); (case za => first | assumption | exact DatIn.mono (by kqd_sub) (by assumption)); (case zb => first | assumption | exact DatIn.mono (by kqd_sub) (by assumption)); (case zc => assumption); (case zd => assumption); (case ze => ktr_units); k_whole)) | walk1 | (dsimp only; walk1) | (leave1; walk_say "STEP leave1"; (try dsimp only)) | fail "no step")
  all_goals first
      | (refine hret _ [] _ _ (by k_asm) (ktn_tl0 (cb_drop (by k_asm) (by kqd_sub))) ktn_ord0 rfl ⟨_, rfl, ?_⟩; simp_all; done)
local macro_rules | `(tactic| ktr_rel) => `(tactic| first
  | (refine ⟨_, rfl, ?_⟩; first | assumption | exact ThingIn.mono (by kqd_sub) (by assumption))
  | (refine ⟨_, _, rfl, ?_, ?_⟩; (first | assumption | exact ThingIn.mono (by kqd_sub) (by assumption)); (first | assumption | exact ThingIn.mono (by kqd_sub) (by assumption))))
local macro_rules | `(tactic| ktr_unf) => `(tactic| (try dsimp only [kindT, plainT, refT] at *))

def SameP : Thing → Thing → Prop
  | .str x, .str y => x = y
  | .int i, .int j => i = j
  | .pat d, .pat e => d = e
  | .ref x, .ref y => x = y
  | .delayed d, .delayed e => d = e
  | .code d, .code e => d = e
  | .holder w n, .holder v k => w = v ∧ n = k
  | _, _ => False
def ThingOk : Thing → Prop
  | .pat d => kqdOk 8 d = true
  | .delayed d => kqdOk 8 d = true
  | .code d => kqdOk 8 d = true
  | _ => True

theorem same_kind {d e : Thing} (h : SameP d e) : kindOf d = kindOf e ∧ isHolder d = isHolder e := by
  cases d <;> cases e <;> simp_all [SameP, kindOf, isHolder]

abbrev sameT : ToldN (Thing × Thing) where
  Rel := fun news vs d => ∃ v u, vs = [v, u] ∧ ThingIn news v d.1 ∧ ThingIn news u d.2
  Ok := fun d => ThingOk d.1 ∧ ThingOk d.2
  size := fun _ => 16
  Tl := fun tl => tl = []
  Out := fun _ r d => ∃ b, r = .bool b ∧ (b = true ↔ SameP d.1 d.2)

set_option pp.deepTerms false in
set_option pp.maxSteps 4000 in
theorem same_value_tells (w : World) (mean : ExcName → Option Value) (mg mb : Str → Option Value) (d : Thing × Thing) :
    TellsN PySem.Challenge.rw_rh0223_01.row.prog w (hd.heap_39 w.params) hd.view_39 (looseW hd.view_39 [Str.ofString "SnobolError"]) mean mg mb 170 sameT d := by
  k_fill
  have C1 := kind_of_tells w mean mg mb
  have C2 := is_plain_tells w mean mg mb
  have C3 := same_ref_tells w mean mg mb
  unfold TellsN
  intro dp un gd cn cs a ccd cl outer A₀ base h₀ L m news s vs Q E B F X N T hk hR hok hdp hu hret
  obtain ⟨d1, d2⟩ := d
  obtain ⟨v, u, rfl, hT, hU⟩ := hR
  dsimp only [sameT] at hok hdp hu hret hT hU
  obtain ⟨ok1, ok2⟩ := hok
  refine wpAny_call ?_
  k_dflt ktr_enter
  repeat' (first | (k_unfold; (try dsimp only)) | (k_end; kc_close) | ((with_reducible show wpAny _ _ (call (Value.builtin "isinstance") _) _ _ _); k_dflt (first | (refine' thing_is ?N ?X ?T ?S ?K ?_; (case N => k_asm); (case X => k_in); (case T => assumption); (case S => kqd_sub); (case K => first | exact kit_str _ _ | exact kit_int _ _ | exact kit_holder _ _ | exact kit_ref _ _ | exact kit_pat _ _ | exact kit_delayed _ _ | exact kit_code _ _); k_whole) | (refine' thing_is2 ?N ?X ?T ?S ?M ?_; (case N => k_asm); (case X => k_in); (case T => assumption); (case S => kqd_sub); (case M => k_mem); k_whole)); intro tk') | ((with_reducible show wpAny _ _ (compareOp CmpOp.Eq (Value.ref _) (Value.ref _)) _ _ _); k_dflt (refine' dat_eq ?zN ?za ?zb ?zc ?zd ?ze ?_; (case zN => k_asm); (case za => first | assumption | exact DatIn.mono (by kqd_sub) (by assumption)); (case zb => first | assumption | exact DatIn.mono (by kqd_sub) (by assumption)); (case zc => assumption); (case zd => assumption); (case ze => ktr_units); k_whole)) | ((with_reducible show wpAny _ _ (call (Value.ref _) _) _ _ _); first | ktn_call (Str.ofString "kind_of") kindT | ktn_call (Str.ofString "is_plain") plainT | ktn_call (Str.ofString "same_ref") refT) | walk1 | (dsimp only; walk1) | (leave1; walk_say "STEP leave1"; (try dsimp only)) | fail "no step")
  all_goals first
    | (refine hret _ [] _ _ (by k_asm) (ktn_tl0 (cb_drop (by k_asm) (by kqd_sub))) ktn_ord0 rfl ⟨_, rfl, ?_⟩
       rename ((kindOf _ != kindOf _) = true) => hkk
       exact ⟨fun h => (nomatch h), fun hs => absurd (same_kind hs).1 (by simpa using hkk)⟩)
    | (refine hret _ [] _ _ (by k_asm) (ktn_tl0 (cb_drop (by k_asm) (by kqd_sub))) ktn_ord0 rfl ⟨_, rfl, ?_⟩
       rename ((isHolder _ != isHolder _) = true) => hkk
       exact ⟨fun h => (nomatch h), fun hs => absurd (same_kind hs).2 (by simpa using hkk)⟩)
    | skip
  all_goals cases hT
  all_goals first
    | (exfalso; rename (isPlain _ = _) => hkk; simp only [isPlain] at hkk; cases hkk; done)
    | (exfalso; rename (isHolder _ = _) => hkk; simp only [isHolder] at hkk; cases hkk; done)
    | (exfalso; rename (isRef _ = _) => hkk; simp only [isRef] at hkk; cases hkk; done)
    | (exfalso; rename (isPat _ = _) => hkk; simp only [isPat] at hkk; cases hkk; done)
    | (exfalso; rename (isDelayed _ = _) => hkk; simp only [isDelayed] at hkk; cases hkk; done)
    | (exfalso; rename (isCode _ = _) => hkk; simp only [isCode] at hkk; cases hkk; done)
    | skip
  all_goals cases hU
  all_goals first
    | (exfalso; rename ((kindOf _ != kindOf _) = false) => hkk; simp only [kindOf] at hkk; exact absurd hkk (by decide))
    | (exfalso; rename ((isHolder _ != isHolder _) = false) => hkk; simp only [isHolder] at hkk; exact absurd hkk (by decide))
    | skip
  all_goals try unfold ThingOk at ok1
  all_goals try unfold ThingOk at ok2
  all_goals repeat' (first | (k_unfold; (try dsimp only)) | (k_end; kc_close) | ((with_reducible show wpAny _ _ (call (Value.builtin "isinstance") _) _ _ _); k_dflt (first | (refine' thing_is ?N ?X ?T ?S ?K ?_; (case N => k_asm); (case X => k_in); (case T => assumption); (case S => kqd_sub); (case K => first | exact kit_str _ _ | exact kit_int _ _ | exact kit_holder _ _ | exact kit_ref _ _ | exact kit_pat _ _ | exact kit_delayed _ _ | exact kit_code _ _); k_whole) | (refine' thing_is2 ?N ?X ?T ?S ?M ?_; (case N => k_asm); (case X => k_in); (case T => assumption); (case S => kqd_sub); (case M => k_mem); k_whole)); intro tk') | ((with_reducible show wpAny _ _ (compareOp CmpOp.Eq (Value.ref _) (Value.ref _)) _ _ _); k_dflt (refine' dat_eq ?zN ?za ?zb ?zc ?zd ?ze ?_; (case zN => k_asm); (case za => first | assumption | exact DatIn.mono (by kqd_sub) (by assumption)); (case zb => first | assumption | exact DatIn.mono (by kqd_sub) (by assumption)); (case zc => assumption); (case zd => assumption); (case ze => ktr_units); k_whole)) | ((with_reducible show wpAny _ _ (call (Value.ref _) _) _ _ _); first | ktn_call (Str.ofString "kind_of") kindT | ktn_call (Str.ofString "is_plain") plainT | ktn_call (Str.ofString "same_ref") refT) | walk1 | (dsimp only; walk1) | (leave1; walk_say "STEP leave1"; (try dsimp only)) | fail "no step")
  all_goals first
    | (refine hret _ [] _ _ (by k_asm) (ktn_tl0 (cb_drop (by k_asm) (by kqd_sub))) ktn_ord0 rfl ⟨_, rfl, ?_⟩; simp_all [SameP, kindOf]; done)
def keyD : Thing → Dat
  | .str x => .tuple [.str (Str.ofString "key"), .tuple [.str (Str.ofString "STRING"), .str x]]
  | .int i => .tuple [.str (Str.ofString "key"), .tuple [.str (Str.ofString "INTEGER"), .int i]]
  | .holder _ n => .tuple [.str (Str.ofString "key"), .tuple [.str (Str.ofString "HOLDER"), .int n]]
  | .ref x => .tuple [.str (Str.ofString "key"), .tuple [.str (Str.ofString "NAME"), .str (Str.ofString "var"), .int 0, .str x]]
  | _ => .tuple [.str (Str.ofString "error"), .int 1]
def KeyTells (w : World) (mean : ExcName → Option Value) (mg mb : Str → Option Value) : Prop :=
  ∀ (dp un : Nat) (gd : Option (List Code)) (cn : Str) (cs : Scope) (a : Addr) (ccd : Value) (cl : List (Str × Addr)) (A₀ : Around) (h₀ : Heap) (L : Addr) (m : Str → Option Value) (s : Shared) (Q E : Value → Shared → Prop)
    (news : List (Addr × Obj)) (v : Value) (d : Thing),
    Below A₀ h₀ [] h₀ → Fr h₀ L s.heap m → (hd.heap_39 w.params).In h₀ → News h₀ L s.heap news →
    Top hd.view_39 (looseW hd.view_39 [Str.ofString "SnobolError"]) mean mg mb h₀ → cs.kind = .function → ThingIn news v d → dp + 16 < recursionLimit → un + 128 < cLine →
    (∀ (r : Addr) (tl : List (Addr × Obj)) (h' : Heap) (tk' : Nat), Fr h₀ L h' m → News h₀ L h' (tl ++ news) → DatIn tl (.ref r) (keyD d) → Q (.ref r) { s with heap := h', toks := tk' }) →
    wpAny (model PySem.Challenge.rw_rh0223_01.row.prog w) (ktrTop dp un gd cn cs L a ccd cl []) (call (.ref 205) [v]) Q E s
section
open PySem.Calls
set_option pp.deepTerms false in
set_option pp.maxSteps 4000 in
theorem law_key_tells (w : World) (mean : ExcName → Option Value) (mg mb : Str → Option Value) : KeyTells w mean mg mb := by
  unfold KeyTells
  k_fill
  have C1 := kind_of_tells w mean mg mb
  have C2 := is_plain_tells w mean mg mb
  intro dp un gd cn cs a ccd cl A₀ h₀ L m s Q E news v d B F X N T hk hT hdp hu hret
  refine wpAny_call ?_
  k_dflt (refine' code_defS0X ?k1 ?k2 ?k3 ?k4 ?k5 ?kA ?kF ?kK ?k6 ?k7 ?k8 ?k9 ?kB ?_ ?c2 ?c3 ?c4 ?c5; (case kA => exact rfl); (case kF => exact rfl); (case kK => assumption); (case k1 => k_asm); (case k2 => k_asm); (case k3 => k_asm); (case k4 => k_asm); (case k5 => k_asm); (case k6 => k_is); (case k7 => k_is); (case k8 => ktr_room); (case k9 => exact BindsTo.of_eq rfl); (case c5 => decide); (case kB => exact locs rfl); (case c2 => exact rfl); (case c3 => exact rfl); (case c4 => exact rfl); k_whole; intro g' L' h' FG' F' N' B' X' T' D'; (try dsimp only); (try k_fold))
  repeat' (first | (k_unfold; (try dsimp only)) | (k_end; kc_close) | ((with_reducible show wpAny _ _ (call (Value.builtin "isinstance") _) _ _ _); k_dflt (first | (refine' thing_is ?N ?X ?T ?S ?K ?_; (case N => k_asm); (case X => k_in); (case T => assumption); (case S => kqd_sub); (case K => first | exact kit_str _ _ | exact kit_int _ _ | exact kit_holder _ _ | exact kit_ref _ _ | exact kit_pat _ _ | exact kit_delayed _ _ | exact kit_code _ _); k_whole) | (refine' thing_is2 ?N ?X ?T ?S ?M ?_; (case N => k_asm); (case X => k_in); (case T => assumption); (case S => kqd_sub); (case M => k_mem); k_whole)); intro tk') | ((with_reducible show wpAny _ _ (call (Value.ref _) _) _ _ _); first | ktn_call (Str.ofString "kind_of") kindT | ktn_call (Str.ofString "is_plain") plainT) | ((with_reducible show wpAny _ _ (exec (Stmt.Raise (some _) none _) _) _ _ _); k_dflt (refine' raise_here ?hh ?_; (case hh => rfl); k_whole)) | walk1 | (dsimp only; walk1) | (leave1; walk_say "STEP leave1"; (try dsimp only)) | fail "no step")
  · cases hT
    all_goals first
      | (exfalso; rename (isPlain _ = _) => hkk; simp only [isPlain] at hkk; cases hkk; done)
      | (refine' hret _ [_, _] _ _ ?e1 ?e2 ?e3
         case e1 => k_asm
         case e2 => k_asm
         case e3 => exact DatIn.tuple (by k_mem) (DatAll.cons (DatIn.str _ _) (DatAll.cons (DatIn.tuple (by k_mem) (DatAll.cons (DatIn.str _ _) (DatAll.cons (by first | exact DatIn.str _ _ | exact DatIn.int _ _) DatAll.nil))) DatAll.nil)))
  · cases hT
    all_goals first
      | (exfalso; rename (isHolder _ = _) => hkk; simp only [isHolder] at hkk; cases hkk; done)
      | skip
    repeat' (first | (k_unfold; (try dsimp only)) | (k_end; kc_close) | ((with_reducible show wpAny _ _ (call (Value.builtin "isinstance") _) _ _ _); k_dflt (first | (refine' thing_is ?N ?X ?T ?S ?K ?_; (case N => k_asm); (case X => k_in); (case T => assumption); (case S => kqd_sub); (case K => first | exact kit_str _ _ | exact kit_int _ _ | exact kit_holder _ _ | exact kit_ref _ _ | exact kit_pat _ _ | exact kit_delayed _ _ | exact kit_code _ _); k_whole) | (refine' thing_is2 ?N ?X ?T ?S ?M ?_; (case N => k_asm); (case X => k_in); (case T => assumption); (case S => kqd_sub); (case M => k_mem); k_whole)); intro tk') | ((with_reducible show wpAny _ _ (call (Value.ref _) _) _ _ _); first | ktn_call (Str.ofString "kind_of") kindT | ktn_call (Str.ofString "is_plain") plainT) | ((with_reducible show wpAny _ _ (exec (Stmt.Raise (some _) none _) _) _ _ _); k_dflt (refine' raise_here ?hh ?_; (case hh => rfl); k_whole)) | walk1 | (dsimp only; walk1) | (leave1; walk_say "STEP leave1"; (try dsimp only)) | fail "no step")
    all_goals first
      | (refine' hret _ [_, _] _ _ ?e1 ?e2 ?e3
         case e1 => k_asm
         case e2 => k_asm
         case e3 => exact DatIn.tuple (by k_mem) (DatAll.cons (DatIn.str _ _) (DatAll.cons (DatIn.tuple (by k_mem) (DatAll.cons (DatIn.str _ _) (DatAll.cons (by first | exact DatIn.str _ _ | exact DatIn.int _ _) DatAll.nil))) DatAll.nil)))
  · cases hT
    all_goals first
      | (exfalso; rename (isRef _ = _) => hkk; simp only [isRef] at hkk; cases hkk; done)
      | skip
    repeat' (first | (k_unfold; (try dsimp only)) | (k_end; kc_close) | ((with_reducible show wpAny _ _ (call (Value.builtin "isinstance") _) _ _ _); k_dflt (first | (refine' thing_is ?N ?X ?T ?S ?K ?_; (case N => k_asm); (case X => k_in); (case T => assumption); (case S => kqd_sub); (case K => first | exact kit_str _ _ | exact kit_int _ _ | exact kit_holder _ _ | exact kit_ref _ _ | exact kit_pat _ _ | exact kit_delayed _ _ | exact kit_code _ _); k_whole) | (refine' thing_is2 ?N ?X ?T ?S ?M ?_; (case N => k_asm); (case X => k_in); (case T => assumption); (case S => kqd_sub); (case M => k_mem); k_whole)); intro tk') | ((with_reducible show wpAny _ _ (call (Value.ref _) _) _ _ _); first | ktn_call (Str.ofString "kind_of") kindT | ktn_call (Str.ofString "is_plain") plainT) | ((with_reducible show wpAny _ _ (exec (Stmt.Raise (some _) none _) _) _ _ _); k_dflt (refine' raise_here ?hh ?_; (case hh => rfl); k_whole)) | walk1 | (dsimp only; walk1) | (leave1; walk_say "STEP leave1"; (try dsimp only)) | fail "no step")
    all_goals first
      | (refine' hret _ [_, _] _ _ ?e1 ?e2 ?e3
         case e1 => k_asm
         case e2 => k_asm
         case e3 => exact DatIn.tuple (by k_mem) (DatAll.cons (DatIn.str _ _) (DatAll.cons (DatIn.tuple (by k_mem) (DatAll.cons (DatIn.str _ _) (DatAll.cons (DatIn.str _ _) (DatAll.cons (DatIn.int _ _) (DatAll.cons (DatIn.str _ _) DatAll.nil))))) DatAll.nil)))
  · k_dflt (refine' (make_exc w mean mg mb) _ _ _ _ _ _ _ _ _ _ _ _ _ _ _ _ _ _ _ _ _ ?k1 ?k2 ?k3 ?k4 ?k5 ?k6 ?k7 ?k8 ?_; (case k1 => k_asm); (case k2 => k_asm); (case k3 => k_asm); (case k4 => k_asm); (case k5 => k_asm); (case k6 => exact rfl); (case k7 => ktr_room); (case k8 => ktr_units); k_whole; intro e9 dx9 t9 h19 h29 k19 k29 v9 n9 h9 tk9 F9 N9 nn9)
    refine raise_ok (excCls_in w (by k_in)) (N9 _ (.head _)).1 ?_
    k_unfold
    k_dflt (refine' leave_exc ?k1 ?k2 ?k3 ?k4 ?_; (case k3 => exact N9); (case k2 => exact F9); (case k1 => assumption); (case k4 => exact nn9); k_whole; intro h10 R10 U10 D10)
    (try dsimp only at R10 U10 D10 ⊢)
    k_dflt (refine' catch_exc (g₀ := g') R10 D10 ?k1 ?k2 U10 X T D' KtsTurn.refl ?k3 ?_; (case k1 => assumption); (case k2 => assumption); (case k3 => (refine' test_name ?n ?x ?hk ?hx ?hd; (case n => kts_nm); (case x => kts_exm); (case hk => exact rfl); (case hx => exact rfl); (case hd => decide))); k_whole; intro h11 g11 oe11 ot11 ws11 nt11 tk11 T11 F11 N11 hc11 hd11 hf11 hs11 K11 X11 P11 D11)
    repeat' (first | (k_unfold; (try dsimp only)) | (k_end; kc_close) | ((with_reducible show wpAny _ _ (call (Value.builtin "isinstance") _) _ _ _); k_dflt (first | (refine' thing_is ?N ?X ?T ?S ?K ?_; (case N => k_asm); (case X => k_in); (case T => assumption); (case S => kqd_sub); (case K => first | exact kit_str _ _ | exact kit_int _ _ | exact kit_holder _ _ | exact kit_ref _ _ | exact kit_pat _ _ | exact kit_delayed _ _ | exact kit_code _ _); k_whole) | (refine' thing_is2 ?N ?X ?T ?S ?M ?_; (case N => k_asm); (case X => k_in); (case T => assumption); (case S => kqd_sub); (case M => k_mem); k_whole)); intro tk') | ((with_reducible show wpAny _ _ (call (Value.ref _) _) _ _ _); first | ktn_call (Str.ofString "kind_of") kindT | ktn_call (Str.ofString "is_plain") plainT) | ((with_reducible show wpAny _ _ (exec (Stmt.Raise (some _) none _) _) _ _ _); k_dflt (refine' raise_here ?hh ?_; (case hh => rfl); k_whole)) | walk1 | (dsimp only; walk1) | (leave1; walk_say "STEP leave1"; (try dsimp only)) | fail "no step")
    refine exc_number w (X11.keeps F11.keep) (N11 (e9, oe11) (.head _)).1 hc11 hd11 hf11 (N11 _ (.tail _ (.tail _ (.head _)))).1 (fun tk12 => ?_)
    repeat' (first | (k_unfold; (try dsimp only)) | (k_end; kc_close) | ((with_reducible show wpAny _ _ (call (Value.builtin "isinstance") _) _ _ _); k_dflt (first | (refine' thing_is ?N ?X ?T ?S ?K ?_; (case N => k_asm); (case X => k_in); (case T => assumption); (case S => kqd_sub); (case K => first | exact kit_str _ _ | exact kit_int _ _ | exact kit_holder _ _ | exact kit_ref _ _ | exact kit_pat _ _ | exact kit_delayed _ _ | exact kit_code _ _); k_whole) | (refine' thing_is2 ?N ?X ?T ?S ?M ?_; (case N => k_asm); (case X => k_in); (case T => assumption); (case S => kqd_sub); (case M => k_mem); k_whole)); intro tk') | ((with_reducible show wpAny _ _ (call (Value.ref _) _) _ _ _); first | ktn_call (Str.ofString "kind_of") kindT | ktn_call (Str.ofString "is_plain") plainT) | ((with_reducible show wpAny _ _ (exec (Stmt.Raise (some _) none _) _) _ _ _); k_dflt (refine' raise_here ?hh ?_; (case hh => rfl); k_whole)) | walk1 | (dsimp only; walk1) | (leave1; walk_say "STEP leave1"; (try dsimp only)) | fail "no step")
    cases hT
    all_goals first
      | (exfalso; rename (isPlain _ = _) => hkk; simp only [isPlain] at hkk; cases hkk; done)
      | (exfalso; rename (isHolder _ = _) => hkk; simp only [isHolder] at hkk; cases hkk; done)
      | (exfalso; rename (isRef _ = _) => hkk; simp only [isRef] at hkk; cases hkk; done)
      | (refine' hret _ [_, _, _, _] _ _ ?e1 ?e2 ?e3
         case e1 => k_asm
         case e2 => k_asm
         case e3 => exact DatIn.tuple (by k_mem) (DatAll.cons (DatIn.str _ _) (DatAll.cons (DatIn.int _ _) DatAll.nil)))
end
end

abbrev feedOf (cells : Addr) (t : Int) (tk : Tok) : Obj := W.listOf #[Value.ref cells, Value.int t tk] 0

def NextTells (w : World) (mean : ExcName → Option Value) (mg mb : Str → Option Value) (many : Int) : Prop :=
  ∀ (dp un : Nat) (gd : Option (List Code)) (cn : Str) (cs : Scope) (a : Addr) (ccd : Value) (cl : List (Str × Addr)) (outer : List Env) (A₀ : Around) (base h₀ : Heap) (L : Addr) (m : Str → Option Value) (s : Shared) (Q E : Value → Shared → Prop)
    (feed cells : Addr) (t : Int) (tk0 tkm : Tok) (ws : List Value) (ns : List Int) (rest : List (Addr × Obj)),
    Below A₀ base outer h₀ → Fr h₀ L s.heap m → (hd.heap_39 w.params).In h₀ → News h₀ L s.heap ((feed, feedOf cells t tk0) :: (cells, W.listOf ws.toArray 0) :: rest) →
    Top hd.view_39 (looseW hd.view_39 [Str.ofString "SnobolError"]) mean mg mb h₀ → cs.kind = .function → IntsAre ws ns → ns.length ≤ 24 → 0 ≤ t → t ≤ 100 → cells ≠ feed → (∀ p ∈ rest, p.1 ≠ feed) → dp + 4 < recursionLimit → un + 32 < cLine →
    (∀ (r : Int) (t1 tk1 : Tok) (h' : Heap) (tk' : Nat), Fr h₀ L h' m → News h₀ L h' ((feed, feedOf cells (t + 1) tk1) :: (cells, W.listOf ws.toArray 0) :: rest) → 0 ≤ r → r < many → Q (.int r t1) { s with heap := h', toks := tk' }) →
    wpAny (model PySem.Challenge.rw_rh0223_01.row.prog w) (ktrTop dp un gd cn cs L a ccd cl outer) (call (.ref 191) [.ref feed, .int many tkm]) Q E s

set_option pp.deepTerms false in
set_option pp.maxSteps 4000 in
theorem law_next_tells (w : World) (mean : ExcName → Option Value) (mg mb : Str → Option Value) (many : Int) (hmany : 0 < many) : NextTells w mean mg mb many := by
  unfold NextTells
  k_fill
  intro dp un gd cn cs a ccd cl outer A₀ base h₀ L m s Q E feed cells t tk0 tkm ws ns rest B F X N T hk hi hn ht0 ht1 hne hoff hdp hu hret
  refine wpAny_call ?_
  k_dflt ktr_enter
  k_steps
  all_goals first
    | exact hret _ _ _ _ _ (by k_asm) (by k_asm) (Int.fmod_nonneg_of_pos _ hmany) (Int.fmod_lt_of_pos _ hmany)
section

structure Item where
  thing : Thing
  word : Str
  tag : Str
  num : Int
def meanD (it : Item) : Dat := .tuple [.str it.tag, .int it.num]
def wordsL : List Str := [Str.ofString "STRING", Str.ofString "INTEGER", Str.ofString "PATTERN", Str.ofString "NAME", Str.ofString "EXPRESSION", Str.ofString "CODE", Str.ofString "ARRAY", Str.ofString "NODE"]
inductive Good : Item → Prop where
  | text0 : Good ⟨.str (Str.ofString "x"), Str.ofString "STRING", Str.ofString "text", 0⟩
  | text1 : Good ⟨.str (Str.ofString "5"), Str.ofString "STRING", Str.ofString "text", 1⟩
  | whole (t : Int) : Good ⟨.int (5 + t), Str.ofString "INTEGER", Str.ofString "whole", t⟩
  | pat (t : Int) : Good ⟨.pat (.tuple [.str (Str.ofString "len"), .int t]), Str.ofString "PATTERN", Str.ofString "pattern", t⟩
  | name (t : Int) : 0 ≤ t → t < 2 → Good ⟨.ref (Txt.item (Str.ofString "XY") t), Str.ofString "NAME", Str.ofString "name", t⟩
  | delayed (t : Int) : 0 ≤ t → t < 2 → Good ⟨.delayed (.tuple [.str (Str.ofString "name"), .str (Txt.item (Str.ofString "XY") t)]), Str.ofString "EXPRESSION", Str.ofString "delayed", t⟩
  | code (t : Int) : Good ⟨.code (.tuple [.str (Str.ofString "unit"), .int t]), Str.ofString "CODE", Str.ofString "code", t⟩
  | thing (k n : Int) (w : Str) : wordsL[k.toNat]? = some w → 0 ≤ k → 0 ≤ n → n < 3 → Good ⟨.holder w (10 * k + n), w, Str.ofString "thing", 10 * k + n⟩

inductive RowIn (news : List (Addr × Obj)) : Value → Item → Prop where
  | mk {r mr : Addr} {x : Value} {tk : Tok} {it : Item} : (r, ({ cls := .type "tuple", data := .seq [x, .str it.word tk, .ref mr].toArray } : Obj)) ∈ news → ThingIn news x it.thing → DatIn news (.ref mr) (meanD it) → RowIn news (.ref r) it

def Above (feed cells : Addr) (rest : List (Addr × Obj)) (a : Addr) : Prop := @LT.lt Nat _ feed a ∧ @LT.lt Nat _ cells a ∧ AllLt a rest
theorem news_turn {h₀ h : Heap} {L : Addr} {f c : Addr × Obj} {tl rest : List (Addr × Obj)} (N : News h₀ L h (tl ++ (f :: c :: rest))) : News h₀ L h (f :: c :: (tl ++ rest)) := fun p hp => N p (by
  simp only [List.mem_cons, List.mem_append] at hp ⊢
  rcases hp with h | h | h | h <;> simp [h])
theorem split8 {r : Int} (h : r < 8) (h0 : 0 ≤ r) : r = 0 ∨ r = 1 ∨ r = 2 ∨ r = 3 ∨ r = 4 ∨ r = 5 ∨ r = 6 ∨ r = 7 := by omega
theorem split2 {r : Int} (h : r < 2) (h0 : 0 ≤ r) : r = 0 ∨ r = 1 := by omega

theorem words_some {k : Int} (h : k < 8) (h0 : 0 ≤ k) : ∃ x, wordsL[k.toNat]? = some x := by
  rcases split8 h h0 with rfl | rfl | rfl | rfl | rfl | rfl | rfl | rfl <;> exact ⟨_, rfl⟩
theorem words_tok {k : Int} (h : k < 8) (h0 : 0 ≤ k) {x : Str} (hx : wordsL[k.toNat]? = some x) (t0 t1 t2 t3 t4 t5 t6 t7 : Tok) :
    ∃ t, [Value.str (Str.ofString "STRING") t0, .str (Str.ofString "INTEGER") t1, .str (Str.ofString "PATTERN") t2, .str (Str.ofString "NAME") t3, .str (Str.ofString "EXPRESSION") t4, .str (Str.ofString "CODE") t5, .str (Str.ofString "ARRAY") t6, .str (Str.ofString "NODE") t7][k.toNat]? = some (.str x t) := by
  rcases split8 h h0 with rfl | rfl | rfl | rfl | rfl | rfl | rfl | rfl <;> (have := Option.some.inj hx; subst this; exact ⟨_, rfl⟩)
theorem word_item {prog : Program} {w : World} {A : Around} {E : Value → Shared → Prop} {s : Shared} {value slice : PySem.Expr} {l : Addr} {k : Int} {u : Tok} {x : Str} {t0 t1 t2 t3 t4 t5 t6 t7 : Tok} {Q : Value → Shared → Prop}
    (hl : s.heap.IsList l [Value.str (Str.ofString "STRING") t0, .str (Str.ofString "INTEGER") t1, .str (Str.ofString "PATTERN") t2, .str (Str.ofString "NAME") t3, .str (Str.ofString "EXPRESSION") t4, .str (Str.ofString "CODE") t5, .str (Str.ofString "ARRAY") t6, .str (Str.ofString "NODE") t7].toArray)
    (h0 : 0 ≤ k) (h8 : k < 8) (hx : wordsL[k.toNat]? = some x) (h : ∀ t, Q (.str x t) s)
    (hs : subscripted slice false (.ref l) (.int k u) = operate [.ref l, .int k u] (getItem (.ref l) (.int k u)) := by with_unfolding_all rfl) :
    wpAny (model prog w) A (subscriptTail value slice (.ref l) (.int k u)) Q E s := by
  obtain ⟨t, ht⟩ := words_tok h8 h0 hx t0 t1 t2 t3 t4 t5 t6 t7
  exact item_litK hl h0 (by omega) ht (h t) hs

theorem RowIn.mk' {news : List (Addr × Obj)} {r mr : Addr} {x : Value} {tk : Tok} {th : Thing} {word tag : Str} {num : Int} (h1 : (r, ({ cls := .type "tuple", data := .seq [x, .str word tk, .ref mr].toArray } : Obj)) ∈ news) (h2 : ThingIn news x th)
    (h3 : DatIn news (.ref mr) (.tuple [.str tag, .int num])) : RowIn news (.ref r) ⟨th, word, tag, num⟩ := .mk h1 h2 h3

def ValueTells (w : World) (mean : ExcName → Option Value) (mg mb : Str → Option Value) : Prop :=
  ∀ (dp un : Nat) (gd : Option (List Code)) (cn : Str) (cs : Scope) (a : Addr) (ccd : Value) (cl : List (Str × Addr)) (outer : List Env) (A₀ : Around) (base h₀ : Heap) (L : Addr) (m : Str → Option Value) (s : Shared) (Q E : Value → Shared → Prop)
    (feed cells : Addr) (t : Int) (tk0 : Tok) (ws : List Value) (ns : List Int) (rest : List (Addr × Obj)),
    Below A₀ base outer h₀ → Fr h₀ L s.heap m → (hd.heap_39 w.params).In h₀ → News h₀ L s.heap ((feed, feedOf cells t tk0) :: (cells, W.listOf ws.toArray 0) :: rest) →
    Top hd.view_39 (looseW hd.view_39 [Str.ofString "SnobolError"]) mean mg mb h₀ → cs.kind = .function → IntsAre ws ns → ns.length ≤ 24 → 0 ≤ t → t ≤ 80 → cells ≠ feed → (∀ p ∈ rest, p.1 ≠ feed) → dp + 8 < recursionLimit → un + 64 < cLine →
    (∀ (r : Value) (t' : Int) (tk1 : Tok) (tl : List (Addr × Obj)) (it : Item) (h' : Heap) (tk' : Nat), Fr h₀ L h' m → News h₀ L h' ((feed, feedOf cells t' tk1) :: (cells, W.listOf ws.toArray 0) :: (tl ++ rest)) → t ≤ t' → t' ≤ t + 3 →
      (∀ p ∈ tl, Above feed cells rest p.1) → Good it → RowIn tl r it → Q r { s with heap := h', toks := tk' }) →
    wpAny (model PySem.Challenge.rw_rh0223_01.row.prog w) (ktrTop dp un gd cn cs L a ccd cl outer) (call (.ref 198) [.ref feed]) Q E s


set_option pp.deepTerms false in
set_option pp.maxSteps 4000 in
theorem law_value_tells (w : World) (mean : ExcName → Option Value) (mg mb : Str → Option Value) : ValueTells w mean mg mb := by
  unfold ValueTells
  k_fill
  intro dp un gd cn cs a ccd cl outer A₀ base h₀ L m s Q E feed cells t tk0 ws ns rest B F X N T hk hi hn ht0 ht1 hne hoff hdp hu hret
  refine wpAny_call ?_
  k_dflt ktr_enter
  repeat' (first | (k_unfold; (try dsimp only)) | (k_end; kc_close) | ((with_reducible show wpAny _ _ (call (Value.ref _) [Value.ref _, Value.int _ _]) _ _ _); k_dflt (refine' (law_next_tells _ _ _ _ _ ?hm) _ _ _ _ _ _ _ _ _ _ _ _ _ _ _ _ _ _ _ _ _ _ _ _ _ ?k1 ?k2 ?k3 ?k4 ?k5 ?k6 ?k7 ?k8 ?k9 ?k10 ?k11 ?k12 ?k13 ?k14 ?_; (case k1 => k_asm); (case k2 => k_asm); (case k3 => k_asm); (case k4 => k_asm); (case k5 => k_asm); (case k6 => first | exact rfl | assumption); (case k7 => assumption); (case k8 => first | assumption | omega); (case k9 => omega); (case k10 => omega); (case k11 => first | assumption | k_ne); (case k12 => k_all); (case k13 => ktr_room); (case k14 => ktr_units); (case hm => omega); k_whole; intro r9 t9 tk9 h9 tk9' F9 N9 lo9 hi9; (try dsimp only); (try k_fold))) | ((with_reducible show wpAny _ _ (subscriptTail _ _ (Value.ref _) (Value.int _ _)) _ _ _); (with_unfolding_all refine' word_item ?k1 ?k2 ?k3 ?k4 ?_ ?k6; (case k4 => assumption); (case k1 => is_list); (case k2 => assumption); (case k3 => assumption); (case k6 => with_unfolding_all rfl); k_whole); intro tw9) | walk1 | (dsimp only; walk1) | (leave1; walk_say "STEP leave1"; (try dsimp only)) | fail "no step")
  · rename ((_ : Int) < 8) => h8
    obtain ⟨w8, hw8⟩ := words_some h8 (by assumption)
    repeat' (first | (k_unfold; (try dsimp only)) | (k_end; kc_close) | ((with_reducible show wpAny _ _ (call (Value.ref _) [Value.ref _, Value.int _ _]) _ _ _); k_dflt (refine' (law_next_tells _ _ _ _ _ ?hm) _ _ _ _ _ _ _ _ _ _ _ _ _ _ _ _ _ _ _ _ _ _ _ _ _ ?k1 ?k2 ?k3 ?k4 ?k5 ?k6 ?k7 ?k8 ?k9 ?k10 ?k11 ?k12 ?k13 ?k14 ?_; (case k1 => k_asm); (case k2 => k_asm); (case k3 => k_asm); (case k4 => k_asm); (case k5 => k_asm); (case k6 => first | exact rfl | assumption); (case k7 => assumption); (case k8 => first | assumption | omega); (case k9 => omega); (case k10 => omega); (case k11 => first | assumption | k_ne); (case k12 => k_all); (case k13 => ktr_room); (case k14 => ktr_units); (case hm => omega); k_whole; intro r9 t9 tk9 h9 tk9' F9 N9 lo9 hi9; (try dsimp only); (try k_fold))) | ((with_reducible show wpAny _ _ (subscriptTail _ _ (Value.ref _) (Value.int _ _)) _ _ _); (with_unfolding_all refine' word_item ?k1 ?k2 ?k3 ?k4 ?_ ?k6; (case k4 => assumption); (case k1 => is_list); (case k2 => assumption); (case k3 => assumption); (case k6 => with_unfolding_all rfl); k_whole); intro tw9) | walk1 | (dsimp only; walk1) | (leave1; walk_say "STEP leave1"; (try dsimp only)) | fail "no step")
    all_goals (
      refine' hret _ _ _ [_, _, _, _, _, _, _] _ _ _ (by k_asm) (news_turn (by k_asm)) (by omega) (by omega) ?qab ?qgo ?qri
      case qri => (refine' RowIn.mk' ?q1 ?q2 ?q3; (case q1 => k_mem); (case q2 => (refine' ThingIn.holder ?q6 ?q7; (case q6 => k_mem); (case q7 => k_mem))); (case q3 => (refine' DatIn.tuple ?q4 ?q5; (case q4 => k_mem); (case q5 => exact (DatAll.cons (DatIn.str _ _) (DatAll.cons (DatIn.int _ _) DatAll.nil))))))
      case qab => (repeat' (first | exact List.forall_mem_nil _ | refine List.forall_mem_cons.mpr ⟨?_, ?_⟩)) <;> exact ⟨by omega, by omega, by first | tbn_find | (refine' tbn_up ?qh9 ?qk9; (case qk9 => tbn_find); (case qh9 => omega))⟩
      case qgo => exact Good.thing _ _ _ hw8 (by assumption) (by assumption) (by assumption))
  · rename ((_ : Int) < 2) => h2
    rcases split2 h2 (by assumption) with h | h <;> subst h
    all_goals repeat' (first | (k_unfold; (try dsimp only)) | (k_end; kc_close) | ((with_reducible show wpAny _ _ (call (Value.ref _) [Value.ref _, Value.int _ _]) _ _ _); k_dflt (refine' (law_next_tells _ _ _ _ _ ?hm) _ _ _ _ _ _ _ _ _ _ _ _ _ _ _ _ _ _ _ _ _ _ _ _ _ ?k1 ?k2 ?k3 ?k4 ?k5 ?k6 ?k7 ?k8 ?k9 ?k10 ?k11 ?k12 ?k13 ?k14 ?_; (case k1 => k_asm); (case k2 => k_asm); (case k3 => k_asm); (case k4 => k_asm); (case k5 => k_asm); (case k6 => first | exact rfl | assumption); (case k7 => assumption); (case k8 => first | assumption | omega); (case k9 => omega); (case k10 => omega); (case k11 => first | assumption | k_ne); (case k12 => k_all); (case k13 => ktr_room); (case k14 => ktr_units); (case hm => omega); k_whole; intro r9 t9 tk9 h9 tk9' F9 N9 lo9 hi9; (try dsimp only); (try k_fold))) | ((with_reducible show wpAny _ _ (subscriptTail _ _ (Value.ref _) (Value.int _ _)) _ _ _); (with_unfolding_all refine' word_item ?k1 ?k2 ?k3 ?k4 ?_ ?k6; (case k4 => assumption); (case k1 => is_list); (case k2 => assumption); (case k3 => assumption); (case k6 => with_unfolding_all rfl); k_whole); intro tw9) | walk1 | (dsimp only; walk1) | (leave1; walk_say "STEP leave1"; (try dsimp only)) | fail "no step")
    all_goals (
      refine' hret _ _ _ [_, _, _] _ _ _ (by k_asm) (news_turn (by k_asm)) (by omega) (by omega) ?qab ?qgo ?qri
      case qri => (refine' RowIn.mk' ?q1 ?q2 ?q3; (case q1 => k_mem); (case q2 => exact ThingIn.str _ _); (case q3 => (refine' DatIn.tuple ?q4 ?q5; (case q4 => k_mem); (case q5 => exact (DatAll.cons (DatIn.str _ _) (DatAll.cons (DatIn.int _ _) DatAll.nil))))))
      case qab => (repeat' (first | exact List.forall_mem_nil _ | refine List.forall_mem_cons.mpr ⟨?_, ?_⟩)) <;> exact ⟨by omega, by omega, by first | tbn_find | (refine' tbn_up ?qh9 ?qk9; (case qk9 => tbn_find); (case qh9 => omega))⟩
      case qgo => first | exact Good.text0 | exact Good.text1)
  · refine' hret _ _ _ [_, _] _ _ _ (by k_asm) (news_turn (by k_asm)) (by omega) (by omega) ?qab ?qgo ?qri
    case qri => (refine' RowIn.mk' ?q1 ?q2 ?q3; (case q1 => k_mem); (case q2 => exact ThingIn.int _ _); (case q3 => (refine' DatIn.tuple ?q4 ?q5; (case q4 => k_mem); (case q5 => exact (DatAll.cons (DatIn.str _ _) (DatAll.cons (DatIn.int _ _) DatAll.nil))))))
    case qab => (repeat' (first | exact List.forall_mem_nil _ | refine List.forall_mem_cons.mpr ⟨?_, ?_⟩)) <;> exact ⟨by omega, by omega, by first | tbn_find | (refine' tbn_up ?qh9 ?qk9; (case qk9 => tbn_find); (case qh9 => omega))⟩
    case qgo => exact Good.whole _
  · refine' hret _ _ _ [_, _, _, _, _] _ _ _ (by k_asm) (news_turn (by k_asm)) (by omega) (by omega) ?qab ?qgo ?qri
    case qri => (refine' RowIn.mk' ?q1 ?q2 ?q3; (case q1 => k_mem); (case q2 => (refine' ThingIn.pat ?q6 ?q7 ?q8; (case q6 => k_mem); (case q7 => k_mem); (case q8 => (refine' DatIn.tuple ?q9 ?q10; (case q9 => k_mem); (case q10 => exact (DatAll.cons (DatIn.str _ _) (DatAll.cons (DatIn.int _ _) DatAll.nil))))))); (case q3 => (refine' DatIn.tuple ?q4 ?q5; (case q4 => k_mem); (case q5 => exact (DatAll.cons (DatIn.str _ _) (DatAll.cons (DatIn.int _ _) DatAll.nil))))))
    case qab => (repeat' (first | exact List.forall_mem_nil _ | refine List.forall_mem_cons.mpr ⟨?_, ?_⟩)) <;> exact ⟨by omega, by omega, by first | tbn_find | (refine' tbn_up ?qh9 ?qk9; (case qk9 => tbn_find); (case qh9 => omega))⟩
    case qgo => exact Good.pat _
  · refine' hret _ _ _ [_, _, _, _] _ _ _ (by k_asm) (news_turn (by k_asm)) (by omega) (by omega) ?qab ?qgo ?qri
    case qri => (refine' RowIn.mk' ?q1 ?q2 ?q3; (case q1 => k_mem); (case q2 => (refine' ThingIn.ref ?q6 ?q7; (case q6 => k_mem); (case q7 => k_mem))); (case q3 => (refine' DatIn.tuple ?q4 ?q5; (case q4 => k_mem); (case q5 => exact (DatAll.cons (DatIn.str _ _) (DatAll.cons (DatIn.int _ _) DatAll.nil))))))
    case qab => (repeat' (first | exact List.forall_mem_nil _ | refine List.forall_mem_cons.mpr ⟨?_, ?_⟩)) <;> exact ⟨by omega, by omega, by first | tbn_find | (refine' tbn_up ?qh9 ?qk9; (case qk9 => tbn_find); (case qh9 => omega))⟩
    case qgo => exact Good.name _ (by assumption) (by assumption)
  · refine' hret _ _ _ [_, _, _, _, _] _ _ _ (by k_asm) (news_turn (by k_asm)) (by omega) (by omega) ?qab ?qgo ?qri
    case qri => (refine' RowIn.mk' ?q1 ?q2 ?q3; (case q1 => k_mem); (case q2 => (refine' ThingIn.delayed ?q6 ?q7 ?q8; (case q6 => k_mem); (case q7 => k_mem); (case q8 => (refine' DatIn.tuple ?q9 ?q10; (case q9 => k_mem); (case q10 => exact (DatAll.cons (DatIn.str _ _) (DatAll.cons (DatIn.str _ _) DatAll.nil))))))); (case q3 => (refine' DatIn.tuple ?q4 ?q5; (case q4 => k_mem); (case q5 => exact (DatAll.cons (DatIn.str _ _) (DatAll.cons (DatIn.int _ _) DatAll.nil))))))
    case qab => (repeat' (first | exact List.forall_mem_nil _ | refine List.forall_mem_cons.mpr ⟨?_, ?_⟩)) <;> exact ⟨by omega, by omega, by first | tbn_find | (refine' tbn_up ?qh9 ?qk9; (case qk9 => tbn_find); (case qh9 => omega))⟩
    case qgo => exact Good.delayed _ (by assumption) (by assumption)
  · refine' hret _ _ _ [_, _, _, _, _] _ _ _ (by k_asm) (news_turn (by k_asm)) (by omega) (by omega) ?qab ?qgo ?qri
    case qri => (refine' RowIn.mk' ?q1 ?q2 ?q3; (case q1 => k_mem); (case q2 => (refine' ThingIn.code ?q6 ?q7 ?q8; (case q6 => k_mem); (case q7 => k_mem); (case q8 => (refine' DatIn.tuple ?q9 ?q10; (case q9 => k_mem); (case q10 => exact (DatAll.cons (DatIn.str _ _) (DatAll.cons (DatIn.int _ _) DatAll.nil))))))); (case q3 => (refine' DatIn.tuple ?q4 ?q5; (case q4 => k_mem); (case q5 => exact (DatAll.cons (DatIn.str _ _) (DatAll.cons (DatIn.int _ _) DatAll.nil))))))
    case qab => (repeat' (first | exact List.forall_mem_nil _ | refine List.forall_mem_cons.mpr ⟨?_, ?_⟩)) <;> exact ⟨by omega, by omega, by first | tbn_find | (refine' tbn_up ?qh9 ?qk9; (case qk9 => tbn_find); (case qh9 => omega))⟩
    case qgo => exact Good.code _
end
section
open PySem.Spec

def TurnEnd (h₀ : Heap) (L : Addr) (J : (Str → Option Value) → Prop) (all : List (Addr × Obj)) (s : Shared) (f : Flow) (s₂ : Shared) : Prop :=
  f = .next ∧ ∃ h' tk m' news', s₂ = { s with heap := h', toks := tk } ∧ Fr h₀ L h' m' ∧ News h₀ L h' news' ∧ (∀ p ∈ all, p ∈ news') ∧ J m'

section
variable {prog : Program} {w : World} {A : Around} {E : Value → Shared → Prop} {s : Shared} {env : Env} {h₀ : Heap} {target : Expr} {body : List Stmt} {Q : Flow → Shared → Prop}
theorem iter_turns {l : Addr} {vs : List Value} {nn : Nat} {m₀ : Str → Option Value} {news : List (Addr × Obj)} (J : (Str → Option Value) → Prop)
    (hh : A.handled = none) (hl : (l, W.listOf vs.toArray nn) ∈ news) (F : Fr h₀ env.locals s.heap m₀) (N : News h₀ env.locals s.heap news) (hj : J m₀)
    (turn : ∀ v m₁ s₁ all, v ∈ vs → J m₁ → (∀ p ∈ news, p ∈ all) → Fr h₀ env.locals s₁.heap m₁ → News h₀ env.locals s₁.heap all →
      wpAny (model prog w) A (assign target env v) (fun _ s₃ => wpAny (model prog w) A (execs body env) (TurnEnd h₀ env.locals J all s₁) E s₃) E s₁)
    (done : ∀ m₁ h tk, J m₁ → Fr h₀ env.locals h m₁ → News h₀ env.locals h news → Q .next { s with heap := h, toks := tk }) :
    wpAny (model prog w) A (pyIter (.ref l)) (fun it s₂ => LoopAtT prog w A h₀ env target body Q E it s₂) E s := by
  have hol : s.heap.get? l = some (W.listOf vs.toArray nn) := (N _ hl).1
  have hls : s.heap.IsList l vs.toArray := ⟨_, hol, rfl, nn, rfl⟩
  have hne : l ≠ s.heap.objs.size := Nat.ne_of_lt (Heap.lt_size hol)
  refine wpAny_pyIter_list hls ?_
  have W := Walks.list (prog := prog) (w := w) hh s.heap.objs.size l hne vs.toArray
  have hlen : vs.toArray.size = vs.length := by simp
  rw [hlen] at W
  refine ⟨_, _, _, vs.length, _, _, m₀, news, (fun _ m nx => nx = news ∧ J m), rfl, W, ?_, ?_, ?_, ⟨⟨_, Heap.get?_push_size _ rfl, rfl, rfl⟩, hls.at fun o e => Heap.get?_push_of_some _ e⟩, F.push _, (fun p hp => ⟨Heap.get?_push_of_some _ (N p hp).1, (N p hp).2⟩), (fun i s' v Q' st hQ' => letGo_listiter st.1 hQ'), ⟨rfl, hj⟩, ?_, ?_⟩
  · intro hm
    rcases List.mem_cons.mp hm with e | hm
    · exact absurd F.ns.lt (e ▸ Nat.lt_irrefl _)
    · exact (N _ hl).2.1 ((List.mem_singleton.mp hm).symm)
  · intro b hb
    rw [List.mem_singleton.mp hb]
    exact next_is_new F
  · intro p hp hI
    exact absurd (Heap.lt_size (N p hp).1) ((List.mem_singleton.mp hI) ▸ Nat.lt_irrefl _)
  · rintro i v m₁ news₁ s₁ own hin hP ⟨rfl, hJ⟩ hoff hown hget hfp hst F₁ N₁
    have hv : v ∈ vs := List.mem_of_getElem? (i := i) (by simpa using hP)
    refine wpAny_mono (turn v m₁ s₁ (own ++ news₁) hv hJ (fun p hp => List.mem_append.mpr (.inr hp)) F₁ N₁) (fun _ s₃ h₃ => wpAny_mono h₃ (fun f s₂ h₂ => ?_) fun _ _ e => e) fun _ _ e => e
    obtain ⟨rfl, h', tk, m', news', e, F', N', hs, hJ'⟩ := h₂
    exact ⟨rfl, h', tk, m', news₁, e, F', fun p hp => N' p (hs p hp), hoff, rfl, hJ'⟩
  · rintro h' tk m' news' F' N' hw ⟨rfl, hJ⟩
    exact done m' h' tk hJ F' N'
theorem fr_norm1 {m : Str → Option Value} {x : Str} {v : Value} (h : m x = some v) : m = fun z => if z = x then some v else m z := by
  funext z
  by_cases q : z = x
  · rw [if_pos q, q, h]
  · rw [if_neg q]
theorem fr_cons {m m' : Str → Option Value} {x : Str} {v : Value} (h : m x = some v) (e : m = m') : m = fun z => if z = x then some v else m' z := by
  subst e
  exact fr_norm1 h
theorem iter_turns1 (x : Str) {l : Addr} {vs : List Value} {nn : Nat} {m₀ : Str → Option Value} {news : List (Addr × Obj)}
    (hh : A.handled = none) (hl : (l, W.listOf vs.toArray nn) ∈ news) (F : Fr h₀ env.locals s.heap m₀) (N : News h₀ env.locals s.heap news) (hj : m₀ x = some (.ref l))
    (turn : ∀ v (u : Str → Option Value) s₁ all, v ∈ vs → (∀ p ∈ news, p ∈ all) → Fr h₀ env.locals s₁.heap (fun z => if z = x then some (.ref l) else u z) → News h₀ env.locals s₁.heap all →
      wpAny (model prog w) A (assign target env v) (fun _ s₃ => wpAny (model prog w) A (execs body env) (TurnEnd h₀ env.locals (fun m => m x = some (.ref l)) all s₁) E s₃) E s₁)
    (done : ∀ (u : Str → Option Value) h tk, Fr h₀ env.locals h (fun z => if z = x then some (.ref l) else u z) → News h₀ env.locals h news → Q .next { s with heap := h, toks := tk }) :
    wpAny (model prog w) A (pyIter (.ref l)) (fun it s₂ => LoopAtT prog w A h₀ env target body Q E it s₂) E s := by
  refine iter_turns (fun m => m x = some (.ref l)) hh hl F N hj (fun v m₁ s₁ all hv hJ hs F₁ N₁ => ?_) (fun m₁ h tk hJ F₁ N₁ => ?_)
  · rw [fr_norm1 hJ] at F₁
    exact turn v _ s₁ all hv hs F₁ N₁
  · rw [fr_norm1 hJ] at F₁
    exact done _ h tk F₁ N₁
theorem iter_turns4 (x y1 y2 y3 : Str) {l : Addr} {w1 w2 w3 : Value} {vs : List Value} {nn : Nat} {m₀ : Str → Option Value} {news : List (Addr × Obj)}
    (hh : A.handled = none) (hl : (l, W.listOf vs.toArray nn) ∈ news) (F : Fr h₀ env.locals s.heap m₀) (N : News h₀ env.locals s.heap news) (hj : m₀ x = some (.ref l)) (h1 : m₀ y1 = some w1) (h2 : m₀ y2 = some w2) (h3 : m₀ y3 = some w3)
    (turn : ∀ v (u : Str → Option Value) s₁ all, v ∈ vs → (∀ p ∈ news, p ∈ all) → Fr h₀ env.locals s₁.heap (fun z => if z = x then some (.ref l) else if z = y1 then some w1 else if z = y2 then some w2 else if z = y3 then some w3 else u z) → News h₀ env.locals s₁.heap all →
      wpAny (model prog w) A (assign target env v) (fun _ s₃ => wpAny (model prog w) A (execs body env) (TurnEnd h₀ env.locals (fun m => m x = some (.ref l) ∧ m y1 = some w1 ∧ m y2 = some w2 ∧ m y3 = some w3) all s₁) E s₃) E s₁)
    (done : ∀ (u : Str → Option Value) h tk, Fr h₀ env.locals h (fun z => if z = x then some (.ref l) else if z = y1 then some w1 else if z = y2 then some w2 else if z = y3 then some w3 else u z) → News h₀ env.locals h news → Q .next { s with heap := h, toks := tk }) :
    wpAny (model prog w) A (pyIter (.ref l)) (fun it s₂ => LoopAtT prog w A h₀ env target body Q E it s₂) E s := by
  refine iter_turns (fun m => m x = some (.ref l) ∧ m y1 = some w1 ∧ m y2 = some w2 ∧ m y3 = some w3) hh hl F N ⟨hj, h1, h2, h3⟩ (fun v m₁ s₁ all hv hJ hs F₁ N₁ => ?_) (fun m₁ h tk hJ F₁ N₁ => ?_)
  · obtain ⟨a, b, c, d⟩ := hJ
    rw [fr_cons a (fr_cons b (fr_cons c (fr_norm1 d)))] at F₁
    exact turn v _ s₁ all hv hs F₁ N₁
  · obtain ⟨a, b, c, d⟩ := hJ
    rw [fr_cons a (fr_cons b (fr_cons c (fr_norm1 d)))] at F₁
    exact done _ h tk F₁ N₁
end
end
theorem RowIn.mono {news news' : List (Addr × Obj)} (hs : ∀ p ∈ news, p ∈ news') {v : Value} {it : Item} (h : RowIn news v it) : RowIn news' v it := by
  cases h with
  | mk a b c => exact .mk (hs _ a) (b.mono hs) (c.mono hs)

section
open LCg
variable {prog : Program} {w : World} {A : Around} {E : Value → Shared → Prop} {s : Shared} {h₀ : Heap} {L : Addr} {m : Str → Option Value} {env : Env} {elt : Expr} {x : Str} {scope : Scope} {cl : List (Str × Addr)} {S : List (Addr × Obj) → Prop} {P : Nat → Value → Prop} {Fin : List Value → List (Addr × Obj) → Prop} {n : Nat}
theorem comp_ind (Inv : Nat → List Value → List (Addr × Obj) → Prop)
    (step : ∀ i ys news, i < n → Inv i ys news → ∀ v I oI C oC D m₂ h tk (E' : Value → Shared → Prop), P i v → NsObj oC m₂ → m₂ x = some v → Fr h₀ L h m → News h₀ L h ((I, oI) :: (C, oC) :: (D, lst ys) :: news) → Off3 I C D news → ((@Ne Nat I C) ∧ (@Ne Nat I D) ∧ (@Ne Nat C D)) →
      wpAny (model prog w) A (eval elt (compEnvC scope cl C env)) (CompEnd h₀ L m { s with heap := h, toks := tk } I oI C oC D (lst ys) S (fun y news' => Inv (i + 1) (ys ++ [y]) news')) E' { s with heap := h, toks := tk })
    (fin : ∀ ys news, Inv n ys news → Fin ys news) : ∀ k i ys news, i + k = n → Inv i ys news → CompRest prog w A h₀ L m env elt x scope cl s S P Fin k i ys news := by
  intro k
  induction k with
  | zero =>
    intro i ys news hi hI
    obtain rfl : i = n := by omega
    exact .zero (fin ys news hI)
  | succ k ih =>
    intro i ys news hi hI
    refine .succ fun v I oI C oC D m₂ h tk E' hP hC hx F N off ne => ?_
    refine wpAny_mono (step i ys news (by omega) hI v I oI C oC D m₂ h tk E' hP hC hx F N off ne) (fun y s₂ e => ?_) fun _ _ e => e
    obtain ⟨h', tk', news', rfl, F', N', off', hS, r⟩ := e
    exact ⟨h', tk', news', rfl, F', N', off', hS, ih _ _ _ (by omega) r⟩
end
def CompInv (feed cells : Addr) (wsl : List Value) (cell : Addr) (ob : Obj) (i : Nat) (ys : List Value) (news : List (Addr × Obj)) : Prop :=
  ∃ (t : Int) (tk : Tok) (tl : List (Addr × Obj)), news = (feed, feedOf cells t tk) :: (cells, W.listOf wsl.toArray 0) :: (tl ++ [(cell, ob)]) ∧ 0 ≤ t ∧ t ≤ 1 + 3 * (i : Int) ∧ ys.length = i ∧ (∀ p ∈ tl, p.1 ≠ feed) ∧ ∀ v ∈ ys, ∃ it, Good it ∧ RowIn tl v it

theorem allLt_mem {a : Addr} : ∀ {l : List (Addr × Obj)}, AllLt a l → ∀ p ∈ l, @LT.lt Nat _ p.1 a := fun h p hp => ktn_ltOf h p hp

theorem comp_close {h₀ : Heap} {L : Addr} {m : Str → Option Value} {s : Shared} {h : Heap} {tk9 : Nat} {feed cells cell I C D : Addr} {wsl : List Value} {ob oI oC : Obj} {t t' : Int} {tk tk' : Tok} {tl tl9 : List (Addr × Obj)} {ys : List Value} {i : Nat} {r : Value} {it : Item}
    (F : Fr h₀ L h m) (N : News h₀ L h ((feed, feedOf cells t' tk') :: (cells, W.listOf wsl.toArray 0) :: (tl9 ++ ((I, oI) :: (C, oC) :: (D, LCg.lst ys) :: (tl ++ [(cell, ob)])))))
    (off : LCg.Off3 I C D ((feed, feedOf cells t tk) :: (cells, W.listOf wsl.toArray 0) :: (tl ++ [(cell, ob)]))) (hl : ys.length = i) (htl : ∀ p ∈ tl, p.1 ≠ feed) (hrows : ∀ v ∈ ys, ∃ it, Good it ∧ RowIn tl v it)
    (ht0 : 0 ≤ t) (ht1 : t ≤ 1 + 3 * (i : Int)) (lo : t ≤ t') (hi : t' ≤ t + 3) (ab : ∀ p ∈ tl9, Above feed cells ((I, oI) :: (C, oC) :: (D, LCg.lst ys) :: (tl ++ [(cell, ob)])) p.1) (go : Good it) (ri : RowIn tl9 r it) :
    LCg.CompEnd h₀ L m s I oI C oC D (LCg.lst ys) (fun _ => True) (fun y news' => CompInv feed cells wsl cell ob (i + 1) (ys ++ [y]) news') r { s with heap := h, toks := tk9 } := by
  refine LCg.CompEnd.intro F N ((feed, feedOf cells t' tk') :: (cells, W.listOf wsl.toArray 0) :: ((tl9 ++ tl) ++ [(cell, ob)])) ?_ ?_ trivial ?_
  · intro p hp
    simp only [List.mem_cons, List.mem_append, List.not_mem_nil, or_false] at hp ⊢
    rcases hp with h | h | h | h | h | (h | h) | h <;> simp [h]
  · refine LCg.Off3.of fun p hp => ?_
    have o := off.mem
    simp only [List.mem_cons, List.mem_append, List.not_mem_nil, or_false] at hp
    rcases hp with rfl | rfl | (hp | hp) | rfl
    · exact o (feed, feedOf cells t tk) List.mem_cons_self
    · exact o (cells, W.listOf wsl.toArray 0) (List.mem_cons_of_mem _ List.mem_cons_self)
    · obtain ⟨_, _, a1, a2, a3, _⟩ := ab p hp
      exact ⟨Nat.ne_of_gt a1, Nat.ne_of_gt a2, Nat.ne_of_gt a3⟩
    · exact o p (by simp [hp])
    · exact o (cell, ob) (by simp)
  · refine ⟨t', tk', tl9 ++ tl, rfl, by omega, by push_cast; omega, by rw [List.length_append, List.length_singleton, hl], ?_, ?_⟩
    · intro p hp
      rcases List.mem_append.mp hp with hp | hp
      · exact Nat.ne_of_gt (ab p hp).1
      · exact htl p hp
    · intro v hv
      rcases List.mem_append.mp hv with hv | hv
      · obtain ⟨it', g', r'⟩ := hrows v hv
        exact ⟨it', g', r'.mono fun p hp => List.mem_append.mpr (.inr hp)⟩
      · rw [List.mem_singleton.mp hv]
        exact ⟨it, go, ri.mono fun p hp => List.mem_append.mpr (.inl hp)⟩
theorem item0 : Txt.item (Str.ofString "XY") 0 = Str.ofString "X" := by decide +kernel
theorem item1 : Txt.item (Str.ofString "XY") 1 = Str.ofString "Y" := by decide +kernel
theorem good_kind {it : Item} (h : Good it) : kindOf it.thing = it.word := by
  cases h <;> rfl
theorem words_at {k : Int} {w : Str} (h : wordsL[k.toNat]? = some w) (h0 : 0 ≤ k) : k = 0 ∧ w = Str.ofString "STRING" ∨ k = 1 ∧ w = Str.ofString "INTEGER" ∨ k = 2 ∧ w = Str.ofString "PATTERN" ∨ k = 3 ∧ w = Str.ofString "NAME" ∨ k = 4 ∧ w = Str.ofString "EXPRESSION" ∨ k = 5 ∧ w = Str.ofString "CODE" ∨ k = 6 ∧ w = Str.ofString "ARRAY" ∨ k = 7 ∧ w = Str.ofString "NODE" := by
  obtain ⟨n, rfl⟩ := Int.eq_ofNat_of_zero_le h0
  have hn : n < 8 := by
    obtain ⟨hl, _⟩ := List.getElem?_eq_some_iff.mp h
    simpa [wordsL] using hl
  have c : n = 0 ∨ n = 1 ∨ n = 2 ∨ n = 3 ∨ n = 4 ∨ n = 5 ∨ n = 6 ∨ n = 7 := by omega
  rcases c with rfl | rfl | rfl | rfl | rfl | rfl | rfl | rfl <;> (have := Option.some.inj h; subst this; simp)
theorem words_inj {k j : Int} {w v : Str} (h : wordsL[k.toNat]? = some w) (h0 : 0 ≤ k) (h' : wordsL[j.toNat]? = some v) (h0' : 0 ≤ j) : w = v ↔ k = j := by
  constructor
  · intro e
    subst e
    rcases words_at h h0 with ⟨rfl, e⟩ | ⟨rfl, e⟩ | ⟨rfl, e⟩ | ⟨rfl, e⟩ | ⟨rfl, e⟩ | ⟨rfl, e⟩ | ⟨rfl, e⟩ | ⟨rfl, e⟩ <;> subst e <;>
    rcases words_at h' h0' with ⟨rfl, e⟩ | ⟨rfl, e⟩ | ⟨rfl, e⟩ | ⟨rfl, e⟩ | ⟨rfl, e⟩ | ⟨rfl, e⟩ | ⟨rfl, e⟩ | ⟨rfl, e⟩ <;>
    first | rfl | exact absurd e (by decide +kernel)
  · intro e
    subst e
    rw [h] at h'
    exact Option.some.inj h'
theorem xy_inj {t u : Int} (a : 0 ≤ t) (b : t < 2) (c : 0 ≤ u) (d : u < 2) : Txt.item (Str.ofString "XY") t = Txt.item (Str.ofString "XY") u ↔ t = u := by
  have ct : t = 0 ∨ t = 1 := by omega
  have cu : u = 0 ∨ u = 1 := by omega
  rcases ct with rfl | rfl <;> rcases cu with rfl | rfl
  · simp
  · rw [item0, item1]; exact ⟨fun e => absurd e (by decide +kernel), fun e => absurd e (by decide)⟩
  · rw [item0, item1]; exact ⟨fun e => absurd e (by decide +kernel), fun e => absurd e (by decide)⟩
  · simp
theorem t_ne {a b : String} (h : (Str.ofString a == Str.ofString b) = false) : Str.ofString a ≠ Str.ofString b := fun e => by rw [e] at h; simp at h
theorem mean_iff {a b : Item} : meanD a = meanD b ↔ a.tag = b.tag ∧ a.num = b.num := by
  simp [meanD]
theorem good_same {a b : Item} (ha : Good a) (hb : Good b) : SameP a.thing b.thing ↔ meanD a = meanD b := by
  rw [mean_iff]
  cases ha with
  | text0 => cases hb <;> simp only [SameP] <;> first | (constructor <;> intro h <;> first | exact absurd h.1 (by decide +kernel) | exact absurd h.2 (by decide +kernel) | exact absurd h (by decide +kernel) | exact h.elim | trivial) | simp
  | text1 => cases hb <;> simp only [SameP] <;> first | (constructor <;> intro h <;> first | exact absurd h.1 (by decide +kernel) | exact absurd h.2 (by decide +kernel) | exact absurd h (by decide +kernel) | exact h.elim | trivial) | simp
  | whole t => cases hb <;> simp only [SameP] <;> first | (constructor <;> intro h <;> first | exact absurd h.1 (by decide +kernel) | exact h.elim) | (constructor <;> intro h <;> first | exact ⟨trivial, by omega⟩ | exact ⟨rfl, by omega⟩ | (have := h.2; omega))
  | pat t => cases hb <;> simp only [SameP] <;> first | (constructor <;> intro h <;> first | exact absurd h.1 (by decide +kernel) | exact h.elim) | simp
  | name t a b =>
    cases hb with
    | name u c d => simp only [SameP]; rw [xy_inj a b c d]; simp
    | _ => simp only [SameP] <;> (constructor <;> intro h <;> first | exact absurd h.1 (by decide +kernel) | exact h.elim)
  | delayed t a b =>
    cases hb with
    | delayed u c d => simp only [SameP, Dat.tuple.injEq, List.cons.injEq, Dat.str.injEq, and_true, true_and]; rw [xy_inj a b c d]
    | _ => simp only [SameP] <;> (constructor <;> intro h <;> first | exact absurd h.1 (by decide +kernel) | exact h.elim)
  | code t => cases hb <;> simp only [SameP] <;> first | (constructor <;> intro h <;> first | exact absurd h.1 (by decide +kernel) | exact h.elim) | simp
  | thing k n w hw k0 n0 n3 =>
    cases hb with
    | thing j m v hv j0 m0 m3 =>
      simp only [SameP, true_and]
      rw [words_inj hw k0 hv j0]
      constructor
      · rintro ⟨_, e⟩; exact e
      · intro e; exact ⟨by omega, e⟩
    | _ => simp only [SameP] <;> (constructor <;> intro h <;> first | exact absurd h.1 (by decide +kernel) | exact h.elim)
theorem xy_ok {t : Int} (a : 0 ≤ t) (b : t < 2) : PyData.strOk (Txt.item (Str.ofString "XY") t) = true := by
  have ct : t = 0 ∨ t = 1 := by omega
  rcases ct with rfl | rfl
  · rw [item0]; decide +kernel
  · rw [item1]; decide +kernel
theorem good_ok {it : Item} (h : Good it) : ThingOk it.thing := by
  cases h with
  | pat t =>
    show kqdOk 8 _ = true
    have q : PyData.strOk (Str.ofString "len") = true := by decide +kernel
    simp [kqdOk, q]
  | code t =>
    show kqdOk 8 _ = true
    have q : PyData.strOk (Str.ofString "unit") = true := by decide +kernel
    simp [kqdOk, q]
  | delayed t a b =>
    show kqdOk 8 _ = true
    have := xy_ok a b
    have q : PyData.strOk (Str.ofString "name") = true := by decide +kernel
    simp [kqdOk, this, q]
  | _ => exact trivial
theorem mean_ok {it : Item} (h : Good it) : kqdOk 8 (meanD it) = true := by
  have q : ∀ {x : Str} {n : Int}, PyData.strOk x = true → kqdOk 8 (.tuple [.str x, .int n]) = true := by
    intro x n hx
    simp [kqdOk, hx]
  cases h <;> (unfold meanD; dsimp only; exact q (by decide +kernel))
theorem key_ok {it : Item} (h : Good it) : kqdOk 8 (keyD it.thing) = true := by
  cases h with
  | text0 => decide +kernel
  | text1 => decide +kernel
  | whole t =>
    have q1 : PyData.strOk (Str.ofString "key") = true := by decide +kernel
    have q2 : PyData.strOk (Str.ofString "INTEGER") = true := by decide +kernel
    simp [keyD, kqdOk, q1, q2]
  | name t a b =>
    have := xy_ok a b
    have q1 : PyData.strOk (Str.ofString "key") = true := by decide +kernel
    have q2 : PyData.strOk (Str.ofString "NAME") = true := by decide +kernel
    have q3 : PyData.strOk (Str.ofString "var") = true := by decide +kernel
    simp [keyD, kqdOk, q1, q2, q3, this]
  | thing k n w hw k0 n0 n3 =>
    have q1 : PyData.strOk (Str.ofString "key") = true := by decide +kernel
    have q2 : PyData.strOk (Str.ofString "HOLDER") = true := by decide +kernel
    simp [keyD, kqdOk, q1, q2]
  | _ =>
    have q1 : PyData.strOk (Str.ofString "error") = true := by decide +kernel
    simp [keyD, kqdOk, q1]
def noKey (x : Str) : Prop := x = Str.ofString "pattern" ∨ x = Str.ofString "delayed" ∨ x = Str.ofString "code"
def errD : Dat := .tuple [.str (Str.ofString "error"), .int 1]
theorem err_ok : kqdOk 8 errD = true := by decide +kernel
theorem good_nokey {it : Item} (h : Good it) (k : noKey it.tag) : keyD it.thing = errD := by
  cases h <;> dsimp only [noKey] at k <;> first | rfl | (rcases k with e | e | e <;> exact absurd e (by decide +kernel))
theorem good_keys {a b : Item} (ha : Good a) (hb : Good b) (ka : ¬ noKey a.tag) (kb : ¬ noKey b.tag) : keyD a.thing = keyD b.thing ↔ meanD a = meanD b := by
  rw [← good_same ha hb]
  cases ha with
  | text0 => cases hb <;> simp only [keyD, SameP, Dat.tuple.injEq, List.cons.injEq, Dat.str.injEq, and_true, true_and] <;> first | (exfalso; exact kb (by dsimp only [noKey]; simp)) | (constructor <;> intro h <;> first | exact absurd h.1 (by decide +kernel) | exact h.elim | exact absurd h (by decide +kernel) | trivial) | simp
  | text1 => cases hb <;> simp only [keyD, SameP, Dat.tuple.injEq, List.cons.injEq, Dat.str.injEq, and_true, true_and] <;> first | (exfalso; exact kb (by dsimp only [noKey]; simp)) | (constructor <;> intro h <;> first | exact absurd h.1 (by decide +kernel) | exact h.elim | exact absurd h (by decide +kernel) | trivial) | simp
  | whole t => cases hb <;> simp only [keyD, SameP, Dat.tuple.injEq, List.cons.injEq, Dat.str.injEq, Dat.int.injEq, and_true, true_and] <;> first | (exfalso; exact kb (by dsimp only [noKey]; simp)) | (constructor <;> intro h <;> first | exact absurd h.1 (by decide +kernel) | exact h.elim | trivial) | simp
  | name t a b => cases hb <;> simp only [keyD, SameP, Dat.tuple.injEq, List.cons.injEq, Dat.str.injEq, Dat.int.injEq, and_true, true_and] <;> first | (exfalso; exact kb (by dsimp only [noKey]; simp)) | (constructor <;> intro h <;> first | exact absurd h.1 (by decide +kernel) | exact h.elim | trivial) | simp
  | thing k n w hw k0 n0 n3 =>
    cases hb with
    | thing j m v hv j0 m0 m3 =>
      simp only [keyD, SameP, Dat.tuple.injEq, List.cons.injEq, Dat.int.injEq, and_true, true_and]
      rw [words_inj hw k0 hv j0]
      constructor
      · intro e; exact ⟨by omega, e⟩
      · rintro ⟨_, e⟩; exact e
    | _ => simp only [keyD, SameP, Dat.tuple.injEq, List.cons.injEq, Dat.str.injEq, Dat.int.injEq, and_true, true_and] <;> first | (exfalso; exact kb (by dsimp only [noKey]; simp)) | (constructor <;> intro h <;> first | exact absurd h.1 (by decide +kernel) | exact h.elim | trivial)
  | _ => exact absurd (by dsimp only [noKey]; simp) ka

-- the contracts, said of items
abbrev kindI : ToldN Item where
  Rel := fun news vs it => ∃ v, vs = [v] ∧ ThingIn news v it.thing
  Ok := fun it => Good it
  size := fun _ => 2
  Tl := fun tl => tl = []
  Out := fun _ r it => ∃ t, r = .str it.word t
theorem kind_of_item (w : World) (mean : ExcName → Option Value) (mg mb : Str → Option Value) (it : Item) :
    TellsN PySem.Challenge.rw_rh0223_01.row.prog w (hd.heap_39 w.params) hd.view_39 (looseW hd.view_39 [Str.ofString "SnobolError"]) mean mg mb 149 kindI it := by
  intro dp un gd cn cs a ccd cl outer A₀ base h₀ L m news s vs Q E B F X N T hk hR hok hdp hu hret
  exact kind_of_tells w mean mg mb it.thing dp un gd cn cs a ccd cl outer A₀ base h₀ L m news s vs Q E B F X N T hk hR trivial hdp hu
    fun r tl h' tk' F' N' o ht hO => hret r tl h' tk' F' N' o ht (by obtain ⟨t, e⟩ := hO; exact ⟨t, by rw [e, good_kind hok]⟩)
open Classical in
noncomputable def sameB (d e : Dat) : Bool := decide (d = e)
section
variable {prog : Program} {w : World} {A : Around} {E : Value → Shared → Prop} {s : Shared} {h₀ : Heap} {L a b : Addr} {news : List (Addr × Obj)} {d e : Dat} {Q : Value → Shared → Prop}
theorem dat_eqB (N : News h₀ L s.heap news) (Da : DatIn news (.ref a) d) (Db : DatIn news (.ref b) e) (ha : kqdOk 8 d = true) (hb : kqdOk 8 e = true) (hu : A.units + 64 < cLine)
    (h : Q (.bool (sameB d e)) s) : wpAny (model prog w) A (compareOp .Eq (.ref a) (.ref b)) Q E s := dat_eq N Da Db ha hb hu h
theorem dat_neB (N : News h₀ L s.heap news) (Da : DatIn news (.ref a) d) (Db : DatIn news (.ref b) e) (ha : kqdOk 8 d = true) (hb : kqdOk 8 e = true) (hu : A.units + 64 < cLine)
    (h : Q (.bool (!sameB d e)) s) : wpAny (model prog w) A (compareOp .NotEq (.ref a) (.ref b)) Q E s := dat_ne N Da Db ha hb hu h
end
abbrev sameI : ToldN (Item × Item) where
  Rel := fun news vs d => ∃ v u, vs = [v, u] ∧ ThingIn news v d.1.thing ∧ ThingIn news u d.2.thing
  Ok := fun d => Good d.1 ∧ Good d.2
  size := fun _ => 16
  Tl := fun tl => tl = []
  Out := fun _ r d => ∃ _ : Unit, r = .bool (sameB (meanD d.1) (meanD d.2))
theorem same_value_item (w : World) (mean : ExcName → Option Value) (mg mb : Str → Option Value) (d : Item × Item) :
    TellsN PySem.Challenge.rw_rh0223_01.row.prog w (hd.heap_39 w.params) hd.view_39 (looseW hd.view_39 [Str.ofString "SnobolError"]) mean mg mb 170 sameI d := by
  intro dp un gd cn cs a ccd cl outer A₀ base h₀ L m news s vs Q E B F X N T hk hR hok hdp hu hret
  exact same_value_tells w mean mg mb (d.1.thing, d.2.thing) dp un gd cn cs a ccd cl outer A₀ base h₀ L m news s vs Q E B F X N T hk hR ⟨good_ok hok.1, good_ok hok.2⟩ hdp hu
    fun r tl h' tk' F' N' o ht hO => hret r tl h' tk' F' N' o ht (by
      obtain ⟨b, e, hb⟩ := hO
      refine ⟨(), ?_⟩
      rw [e]
      have z := hb.trans (good_same hok.1 hok.2)
      unfold sameB
      by_cases q : meanD d.1 = meanD d.2
      · rw [z.mpr q]; simp [q]
      · rw [Bool.eq_false_iff.mpr fun x => q (z.mp x)]; simp [q])
theorem good_X : Good ⟨.ref (Str.ofString "X"), Str.ofString "NAME", Str.ofString "name", 0⟩ := by
  have h := Good.name 0 (by decide) (by decide)
  rw [item0] at h
  exact h
theorem good_5 : Good ⟨.int 5, Str.ofString "INTEGER", Str.ofString "whole", 0⟩ := Good.whole 0
theorem rows_all {ys : List Value} {r1 r2 r3 v : Value} {all tl : List (Addr × Obj)} (hs : ∀ p ∈ tl, p ∈ all) (hy : ∀ v ∈ ys, ∃ it, Good it ∧ RowIn tl v it) (h1 : ∃ it, Good it ∧ RowIn all r1 it) (h2 : ∃ it, Good it ∧ RowIn all r2 it) (h3 : ∃ it, Good it ∧ RowIn all r3 it)
    (_hv : v ∈ ys ++ [r1, r2, r3]) : ∀ v' ∈ ys ++ [r1, r2, r3], ∃ it, Good it ∧ RowIn all v' it := by
  intro v' h
  rcases List.mem_append.mp h with h | h
  · obtain ⟨it, g, r⟩ := hy v' h
    exact ⟨it, g, r.mono hs⟩
  · simp only [List.mem_cons, List.not_mem_nil, or_false] at h
    rcases h with rfl | rfl | rfl
    · exact h1
    · exact h2
    · exact h3
theorem dat_two {all : List (Addr × Obj)} {a : Addr} {tag : Str} {num : Int} (h : DatIn all (.ref a) (.tuple [.str tag, .int num])) :
    ∃ t1 t2 n, (a, ({ cls := .type "tuple", data := .seq [Value.str tag t1, Value.int num t2].toArray n } : Obj)) ∈ all := by
  cases h with
  | tuple hm hd =>
    cases hd with
    | cons h1 hd =>
      cases hd with
      | cons h2 hd =>
        cases hd
        cases h1
        cases h2
        exact ⟨_, _, _, hm⟩
theorem row_open {all : List (Addr × Obj)} {v : Value} {it : Item} (h : RowIn all v it) : ∃ (r mr : Addr) (x : Value) (tk t1 t2 : Tok) (n : Nat), v = .ref r ∧ (r, ({ cls := .type "tuple", data := .seq [x, .str it.word tk, .ref mr].toArray } : Obj)) ∈ all ∧ ThingIn all x it.thing ∧
    DatIn all (.ref mr) (meanD it) ∧ (mr, ({ cls := .type "tuple", data := .seq [Value.str it.tag t1, Value.int it.num t2].toArray n } : Obj)) ∈ all := by
  cases h with
  | mk h1 h2 h3 =>
    obtain ⟨t1, t2, n, h4⟩ := dat_two h3
    exact ⟨_, _, _, _, t1, t2, n, rfl, h1, h2, h3, h4⟩
theorem sameB_iff {d e d' e' : Dat} (h : d = e ↔ d' = e') : sameB d e = sameB d' e' := by
  unfold sameB
  by_cases q : d' = e'
  · simp [h.mpr q, q]
  · have q' : ¬ d = e := fun x => q (h.mp x)
    simp [q, q']
theorem nokey_of {x : Str} (h : ([Str.ofString "pattern", Str.ofString "delayed", Str.ofString "code"].any fun y => y == x) = true) : noKey x := by
  simp only [List.any_cons, List.any_nil, Bool.or_false, Bool.or_eq_true, beq_iff_eq] at h
  rcases h with h | h | h
  · exact .inl h.symm
  · exact .inr (.inl h.symm)
  · exact .inr (.inr h.symm)
theorem key_of {x : Str} (h : ([Str.ofString "pattern", Str.ofString "delayed", Str.ofString "code"].any fun y => y == x) = false) : ¬ noKey x := by
  intro k
  simp only [List.any_cons, List.any_nil, Bool.or_false, Bool.or_eq_false_iff, beq_eq_false_iff_ne, ne_eq] at h
  rcases k with rfl | rfl | rfl
  · exact h.1 rfl
  · exact h.2.1 rfl
  · exact h.2.2 rfl
theorem end_same {b : Bool} (h : (b != b) = true) : False := by
  rw [bne_self_eq_false] at h
  cases h
theorem end_err {it : Item} (g : Good it) (h : ([Str.ofString "pattern", Str.ofString "delayed", Str.ofString "code"].any fun y => y == it.tag) = true) (k : sameB (keyD it.thing) errD = false) : False := by
  rw [good_nokey g (nokey_of h)] at k
  simp [sameB] at k
theorem end_keys {a b : Item} (ga : Good a) (gb : Good b) (ha : ([Str.ofString "pattern", Str.ofString "delayed", Str.ofString "code"].any fun y => y == a.tag) = false)
    (hb : ([Str.ofString "pattern", Str.ofString "delayed", Str.ofString "code"].any fun y => y == b.tag) = false) (h : (sameB (keyD a.thing) (keyD b.thing) != sameB (meanD a) (meanD b)) = true) : False := by
  rw [sameB_iff (good_keys ga gb (key_of ha) (key_of hb))] at h
  exact end_same h
local macro_rules | `(tactic| kqd_sub) => `(tactic| (intro p9 h9; first | ((repeat (first | exact h9 | refine List.mem_cons_of_mem _ ?_)); done) | (simp only [List.mem_append, List.mem_cons]; simp only [h9, true_or, or_true]; done)))

theorem pick3 {h₀ h : Heap} {L f cl c : Addr} {t : Int} {tk : Tok} {ws : List Value} {o : Obj} (_N : News h₀ L h [(f, feedOf cl t tk), (cl, W.listOf ws.toArray 0), (c, o)]) :
    ∃ (f' cl' : Addr) (tk' : Tok) (ws' : List Value) (o' : Obj) (c' : Addr), f' = f ∧ cl' = cl ∧ tk' = tk ∧ ws' = ws ∧ o' = o ∧ c' = c := ⟨_, _, _, _, _, _, rfl, rfl, rfl, rfl, rfl, rfl⟩

set_option pp.deepTerms false in
set_option pp.maxSteps 4000 in
theorem main : PySem.Challenge.rw_rh0223_01.Holds := hd (by
  k_go0
  all_goals try k_fold
  repeat' ((fail_if_success (with_reducible show LCg.CompSrc _ _ _ _ _ _ _ _ _ _ _ _ _ _)); (first | (k_unfold; (try dsimp only)) | (k_end; wrow_close) | ((with_reducible show wpAny _ _ (call (Value.ref _) [Value.ref _, Value.int _ _]) _ _ _); k_dflt (refine' (law_next_tells _ _ _ _ _ ?hm) _ _ _ _ _ _ _ _ _ _ _ _ _ _ _ _ _ _ _ _ _ _ _ _ _ ?k1 ?k2 ?k3 ?k4 ?k5 ?k6 ?k7 ?k8 ?k9 ?k10 ?k11 ?k12 ?k13 ?k14 ?_; (case k1 => k_asm); (case k2 => k_asm); (case k3 => k_asm); (case k4 => k_asm); (case k5 => k_asm); (case k6 => first | exact rfl | assumption); (case k7 => assumption); (case k8 => first | assumption | omega); (case k9 => omega); (case k10 => omega); (case k11 => first | assumption | k_ne); (case k12 => k_all); (case k13 => ktr_room); (case k14 => ktr_units); (case hm => omega); k_whole; intro r9 t9 tk9 h9 tk9' F9 N9 lo9 hi9; (try dsimp only); (try k_fold))) | walk1 | (dsimp only; walk1) | (leave1; walk_say "STEP leave1"; try dsimp only) | fail "no step"))
  refine' LCg.CompSrc.range (by rfl) (by k_asm) (by k_asm) (by assumption) ?hsm ?hn ?hsz ?hc
  case hsm => exact small_one (by l_bnd) (by l_bnd) (by l_bnd) (by l_bnd)
  case hn => exact rangeSize_nat _ _
  case hsz => rw [sizeLine_eq]; omega
  case hc =>
    intro g'
    rename (News _ _ _ [_, _, _]) => hN
    obtain ⟨feed, cells, tk5, wsl, ob, cell, e1, e2, e3, e4, e5, e6⟩ := pick3 hN
    subst e1 e2 e3 e4 e5
    rename (IntsAre wsl _) => hInts
    rename (_ = Data.cell _) => hcell
    have hcf : @Ne Nat cells feed := by omega
    refine comp_ind (CompInv feed cells wsl cell ob) ?step ?fin _ 0 [] _ (Nat.zero_add _) ?init
    case init => subst e6; exact ⟨_, _, [], rfl, (by show (0:Int) ≤ 0 + 1; omega), (by show (0:Int) + 1 ≤ _; omega), rfl, fun _ h => (nomatch h), fun _ h => (nomatch h)⟩
    case step =>
      rintro i ys news hi ⟨t, tk, tl, rfl, ht0, ht1, hl, htl, hrows⟩ v I oI C oC D m₂ h tk' E' hP hC hx F N off ne
      have hne : (∀ p ∈ (I, oI) :: (C, oC) :: (D, LCg.lst ys) :: (tl ++ [(cell, ob)]), p.1 ≠ feed) := by
        intro p hp
        have o1 := off.mem (feed, feedOf cells t tk) (List.mem_cons_self)
        simp only [List.mem_cons, List.mem_append, List.not_mem_nil, or_false] at hp
        rcases hp with rfl | rfl | rfl | hp | rfl
        · exact o1.1.symm
        · exact o1.2.1.symm
        · exact o1.2.2.symm
        · exact htl p hp
        · have e7 : @Eq Nat cell _ := e6
          show @Ne Nat _ _
          omega
      have hmem : (cell, ob) ∈ tl ++ [(cell, ob)] := List.mem_append.mpr (.inr List.mem_cons_self)
      have N2 : News _ _ h ((feed, feedOf cells t tk) :: (cells, W.listOf wsl.toArray 0) :: ((I, oI) :: (C, oC) :: (D, LCg.lst ys) :: (tl ++ [(cell, ob)]))) := fun p hp => N p (by
        simp only [List.mem_cons] at hp ⊢
        rcases hp with h | h | h | h | h | h <;> simp [h])
      clear N hN
      subst e6
      have ht8 : t ≤ 80 := by omega
      repeat' ((fail_if_success (with_reducible show LCg.CompEnd _ _ _ _ _ _ _ _ _ _ _ _ _ _)); (first | ((with_reducible show wpAny _ _ (call (Value.ref 198) [Value.ref _]) _ _ _); k_dflt (refine' (law_value_tells _ _ _ _) _ _ _ _ _ _ _ _ _ _ _ _ _ _ _ _ _ _ _ _ _ _ _ _ ?k1 ?k2 ?k3 ?k4 ?k5 ?k6 ?k7 ?k8 ?k9 ?k10 ?k11 ?k12 ?k13 ?k14 ?_; (case k1 => k_asm); (case k2 => k_asm); (case k3 => k_asm); (case k4 => k_asm); (case k5 => k_asm); (case k6 => first | exact rfl | assumption); (case k7 => assumption); (case k8 => first | assumption | omega); (case k9 => omega); (case k10 => omega); (case k11 => first | assumption | k_ne); (case k12 => k_all); (case k13 => ktr_room); (case k14 => ktr_units); k_whole; intro r9 t9 tk9 tl9 it9 h9 tk9' F9 N9 lo9 hi9 ab9 go9 ri9; (try dsimp only))) | walk1 | (dsimp only; walk1)))
      k_unfold
      dsimp only
      exact comp_close (by k_asm) (by k_asm) off hl htl hrows ht0 ht1 (by assumption) (by assumption) (by assumption) (by assumption) (by assumption)
    case fin =>
      rintro ys news ⟨t, tk, tl, rfl, ht0, ht1, hl, htl, hrows⟩
      clear hN hcf hInts
      unfold LCg.FinA
      intro D h' tk' F' N' o1'
      dsimp only
      repeat' ((fail_if_success (with_reducible show wpAny _ _ (binaryOp _ (Value.ref _) (Value.ref _)) _ _ _)); (first | (k_unfold; (try dsimp only)) | (k_end; wrow_close) | walk1 | (dsimp only; walk1) | (leave1; walk_say "STEP leave1"; try dsimp only) | fail "no step"))
      rename (News _ _ _ ((_, W.listOf _ 0) :: _)) => hN
      refine add_lists (vs := ys) (ws := [_, _, _]) (by k_asm) hN ⟨_, hN.get (by k_mem), rfl, _, rfl⟩ ⟨_, hN.get (by k_mem), rfl, _, rfl⟩ (fun h8 F8 N8 => ?_) (by rw [sizeLine_eq]; simp only [List.length_cons, List.length_nil]; omega)
      clear hN
      repeat' ((fail_if_success (with_reducible show wpAny _ _ (exec (Stmt.For _ _ _ _ _) _) _ _ _)); (first | (k_unfold; (try dsimp only)) | walk1 | (dsimp only; walk1) | fail "no step"))
      refine' For_invTF (by k_asm) ?qb (by intro _; with_unfolding_all rfl)
      case qb =>
        walk1
        refine' iter_turns1 (Str.ofString "some") (by rfl) ?q1 ?q2 ?q3 ?q4 ?qturn ?qdone
        case q2 => k_asm
        case q3 => k_asm
        case q1 => first | k_mem | exact List.mem_cons_self
        case q4 => with_unfolding_all rfl
        case qdone =>
          intro u h tk F N
          k_steps
          all_goals fail
        case qturn =>
          intro v u s₂ all hv hs F N
          have hall := rows_all (all := all) (fun p hp => hs p (by k_mem)) hrows
            (by refine ⟨_, Good.text0, RowIn.mono hs ?_⟩; (refine' RowIn.mk' ?q1 ?q2 ?q3; (case q1 => k_mem); (case q2 => exact ThingIn.str _ _); (case q3 => (refine' DatIn.tuple ?q4 ?q5; (case q4 => k_mem); (case q5 => exact (DatAll.cons (DatIn.str _ _) (DatAll.cons (DatIn.int _ _) DatAll.nil)))))))
            (by refine ⟨_, good_5, RowIn.mono hs ?_⟩; (refine' RowIn.mk' ?q1 ?q2 ?q3; (case q1 => k_mem); (case q2 => exact ThingIn.int _ _); (case q3 => (refine' DatIn.tuple ?q4 ?q5; (case q4 => k_mem); (case q5 => exact (DatAll.cons (DatIn.str _ _) (DatAll.cons (DatIn.int _ _) DatAll.nil)))))))
            (by refine ⟨_, good_X, RowIn.mono hs ?_⟩; (refine' RowIn.mk' ?q1 ?q2 ?q3; (case q1 => k_mem); (case q2 => (refine' ThingIn.ref ?q6 ?q7; (case q6 => k_mem); (case q7 => k_mem))); (case q3 => (refine' DatIn.tuple ?q4 ?q5; (case q4 => k_mem); (case q5 => exact (DatAll.cons (DatIn.str _ _) (DatAll.cons (DatIn.int _ _) DatAll.nil)))))))
            hv
          have hS := hs _ List.mem_cons_self
          obtain ⟨it, go, ri⟩ := hall v hv
          obtain ⟨r, mr, x, tkw, tk1, tk2, nn, rfl, hr1, hth, hmn, hm1⟩ := row_open ri
          clear ri hv hs hrows htl o1'
          repeat' ((fail_if_success (with_reducible show wpAny _ _ (exec (Stmt.For _ _ _ _ _) _) _ _ _)); (first | (k_unfold; (try dsimp only)) | ((with_reducible show wpAny _ _ (call (Value.ref 149) _) _ _ _); k_dflt (refine' (kind_of_item _ _ _ _ _) _ _ _ _ _ _ _ _ _ _ _ _ _ _ _ _ _ _ _ ?k1 ?k2 ?k3 ?k4 ?k5 ?k6 ⟨_, rfl, ?k7⟩ ?k8 ?k9 ?k10 ?_; (case k1 => k_asm); (case k2 => k_asm); (case k3 => k_asm); (case k4 => k_asm); (case k5 => k_asm); (case k6 => first | exact rfl | assumption); (case k7 => first | assumption | (refine' ThingIn.mono ?ms ?mt; (case mt => assumption); (case ms => kqd_sub))); (case k8 => assumption); (case k9 => ktr_room); (case k10 => ktr_units); k_whole; intro r9 tl9 h9 tk9 F9 N9 o9 ht9 ho9; subst ht9; simp only [List.append_nil] at N9; clear o9; obtain ⟨t9, e9⟩ := ho9; subst e9; (try dsimp only))) | walk1 | (dsimp only; walk1) | fail "no step"))
          · exfalso
            rename ((_ != _) = true) => hb
            simp only [bne_self_eq_false] at hb
            cases hb
          refine' For_invTF (by k_asm) ?qb2 (by intro _; with_unfolding_all rfl)
          case qb2 =>
            walk1
            refine' iter_turns4 (Str.ofString "some") (Str.ofString "one") (Str.ofString "word") (Str.ofString "meaning") (by rfl) ?q1 ?q2 ?q3 ?q4 ?q5 ?q6 ?q7 ?qturn ?qdone
            case q2 => k_asm
            case q3 => k_asm
            case q1 => exact hS
            case q4 => with_unfolding_all rfl
            case q5 => with_unfolding_all rfl
            case q6 => with_unfolding_all rfl
            case q7 => with_unfolding_all rfl
            case qdone =>
              intro u2 h tk' F2 N2
              k_steps
              exact ⟨rfl, _, _, _, _, rfl, by k_asm, by k_asm, fun p hp => hp, by with_unfolding_all rfl⟩
            case qturn =>
              intro v2 u2 s₃ all2 hv2 hs2 F2 N2
              obtain ⟨it2, go2, ri2⟩ := hall v2 hv2
              obtain ⟨r2, mr2, x2, tkw2, tk21, tk22, nn2, rfl, hr12, hth2, hmn2, hm12⟩ := row_open (ri2.mono hs2)
              replace hth := hth.mono hs2
              replace hmn := hmn.mono hs2
              replace hm1 := hs2 _ hm1
              clear ri2 hv2 hs2 hall hS hr1
              repeat' (first | (k_unfold; (try dsimp only)) | ((with_reducible show wpAny _ _ (call (Value.ref 170) _) _ _ _); k_dflt (refine' (same_value_item _ _ _ _ (_, _)) _ _ _ _ _ _ _ _ _ _ _ _ _ _ _ _ _ _ _ ?k1 ?k2 ?k3 ?k4 ?k5 ?k6 ⟨_, _, rfl, ?k7, ?k7b⟩ ⟨?k8, ?k8b⟩ ?k9 ?k10 ?_; (case k1 => k_asm); (case k2 => k_asm); (case k3 => k_asm); (case k4 => k_asm); (case k5 => k_asm); (case k6 => first | exact rfl | assumption); (case k7 => first | assumption | (refine' ThingIn.mono ?ms ?mt; (case mt => assumption); (case ms => kqd_sub))); (case k7b => first | assumption | (refine' ThingIn.mono ?ms ?mt; (case mt => assumption); (case ms => kqd_sub))); (case k8 => assumption); (case k8b => assumption); (case k9 => ktr_room); (case k10 => ktr_units); k_whole; intro r9 tl9 h9 tk9 F9 N9 o9 ht9 ho9; subst ht9; simp only [List.append_nil] at N9; clear o9; obtain ⟨t9, e9⟩ := ho9; subst e9; (try dsimp only))) | ((with_reducible show wpAny _ _ (call (Value.ref 205) _) _ _ _); k_dflt (refine' (law_key_tells _ _ _ _) _ _ _ _ _ _ _ _ _ _ _ _ _ _ _ _ _ _ ?k1 ?k2 ?k3 ?k4 ?k5 ?k6 ?k7 ?k9 ?k10 ?_; (case k1 => k_asm); (case k2 => k_asm); (case k3 => k_asm); (case k4 => k_asm); (case k5 => k_asm); (case k6 => first | exact rfl | assumption); (case k7 => first | assumption | (refine' ThingIn.mono ?ms ?mt; (case mt => assumption); (case ms => kqd_sub))); (case k9 => ktr_room); (case k10 => ktr_units); k_whole; intro r9 tl9 h9 tk9 F9 N9 dk9; (try dsimp only))) | ((with_reducible show wpAny _ _ (compareOp CmpOp.Eq (Value.ref _) (Value.ref _)) _ _ _); k_dflt (refine' dat_eqB ?zN ?za ?zb ?zc ?zd ?ze ?_; (case zN => k_asm); (case za => first | assumption | (refine' DatIn.mono ?ms ?mt; (case mt => assumption); (case ms => kqd_sub))); (case zb => first | assumption | (refine' DatIn.mono ?ms ?mt; (case mt => assumption); (case ms => kqd_sub))); (case zc => first | assumption | exact mean_ok (by assumption) | exact key_ok (by assumption)); (case zd => first | assumption | exact mean_ok (by assumption) | exact key_ok (by assumption)); (case ze => ktr_units); k_whole)) | ((with_reducible show wpAny _ _ (compareOp CmpOp.NotEq (Value.ref _) (Value.ref _)) _ _ _); k_dflt (refine' dat_neB ?zN ?za ?zb ?zc err_ok ?ze ?_; (case zN => k_asm); (case za => first | assumption | (refine' DatIn.mono ?ms ?mt; (case mt => assumption); (case ms => kqd_sub))); (case zb => (refine' DatIn.tuple ?q4 ?q5; (case q4 => k_mem); (case q5 => exact (DatAll.cons (DatIn.str _ _) (DatAll.cons (DatIn.int _ _) DatAll.nil))))); (case zc => exact key_ok (by assumption)); (case ze => ktr_units); k_whole)) | walk1 | (dsimp only; walk1) | fail "no step")
              all_goals first
                | exact ⟨rfl, _, _, _, _, rfl, by k_asm, by k_asm, by kqd_sub, by with_unfolding_all rfl, by with_unfolding_all rfl, by with_unfolding_all rfl, by with_unfolding_all rfl⟩
                | exact (end_same (by assumption)).elim
                | exact (end_err go (by assumption) (by assumption)).elim
                | exact (end_keys go go2 (by assumption) (by assumption) (by assumption)).elim)
end Mine
open PySem PySem.W PyProof.Rows
theorem PySem.Challenge.cw_rh0223_01_holds : PySem.Challenge.rw_rh0223_01.Holds := by
  exact Mine.main
