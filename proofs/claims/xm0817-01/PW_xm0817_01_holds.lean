import PyProof.Rows.All
import Wide.All
import OpenK.AllK
import Wide.FinOn
import PyProof.InstStoreFacts
import PySem.Challenge.RW_xm0817_01
open PySem PySem.W PyProof.Rows PySem.Calls PySem.Spec PySem.Builtin PySem.Builtin.ObjectAttr
set_option Elab.async false
namespace Mine
set_option maxRecDepth 100000 in
set_option maxHeartbeats 8000000 in
open_top hd for PySem.Challenge.rw_xm0817_01
theorem allLt_ne {d x : Nat} {l : List (Addr × Obj)} (h : AllLt d l) (e : d ≤ x) : ∀ p ∈ l, p.1 ≠ x := by
  induction l with
  | nil => intro p hp; cases hp
  | cons a r ih =>
    obtain ⟨h1, h2⟩ := h
    intro p hp
    rcases List.mem_cons.mp hp with rfl | hp
    · exact Nat.ne_of_lt (Nat.lt_of_lt_of_le h1 e)
    · exact ih h2 p hp
/-- a goal that the walker shall leave as it stands -/
def Hold (P : Prop) : Prop := P
theorem hold {P : Prop} (h : Hold P) : P := h
theorem allNe_cons {q : Addr × Obj} {r : List (Addr × Obj)} {d : Addr} (h : q.1 ≠ d) (h' : ∀ p ∈ r, p.1 ≠ d) : ∀ p ∈ q :: r, p.1 ≠ d := List.forall_mem_cons.mpr ⟨h, h'⟩
local macro_rules | `(tactic| k_all) => `(tactic| with_reducible assumption)
local macro_rules | `(tactic| k_mem) => `(tactic| first | (with_reducible assumption) | ((show (_ : Addr × Obj) ∈ (_ : List (Addr × Obj))); with_reducible assumption))
local macro_rules | `(tactic| k_room) => `(tactic| ((try simp only [depth_mark, depth_under_make, depth_under_kw, depth_in1, depth_deeper] at *); omega))
local macro_rules | `(tactic| k_enter) => `(tactic|
  (refine' code_def ?k1 ?k2 ?k3 ?k4 ?k5 ?kA ?kF ?kK ?k6 ?k7 ?k8 ?k9 ?kB ?_ ?c2 ?c3 ?c4 ?c5; (case k1 => k_asm); (case kA => first | exact rfl | assumption | exact Around.frames_deeper (Below.stack (by assumption))); (case kF => first | exact rfl | assumption); (case kK => first | exact rfl | assumption); (case k2 | k3 => k_asm); (case k4 | k5 => k_asm); (case k6 | k7 => k_is); (case k8 => k_room); (case k9 => first | exact BindsTo.of_eq rfl | exact binds_K (by k_in) rfl (by k_is) rfl rfl rfl | fail "k_enter: no rule for these arguments"); (case c5 => decide); (case kB => exact locs rfl); (case c2 | c3 | c4 => exact rfl); k_whole; intro g' L' h' FG' F' N' B' X' T'; (try dsimp only); (try k_lift B'); (try k_fold)))
section
abbrev excObj (C t : Addr) (d : Option Addr) : Obj := { cls := .ref C, dict := d, data := .fields #[.ref t, .none, .none, .none, .bool false, .none] }
abbrev tupOf (its : Array Value) (n : Nat) : Obj := { cls := .type "tuple", data := .seq its n }
section
variable {prog : Program} {w : World} {A : Around} {E : Value → Shared → Prop} {h : Heap} {g : Array GenState} {d : Drawn} {t : Nat} {os : OsState}
variable {nm q : Str} {C N : Addr} {bs bm bmB : List Value} {hdct : Bool} {sn : List Str} {sub : List Value} {ab : Bool} {col : Option Bool} {dd : Option Addr} {k0 k1 k2 k3 k5 : Option Value} {B newId initId : String}
set_option maxRecDepth 100000 in
theorem check_init (F : ExcBaseFacts B newId initId bmB) (hbm : bm.contains (.type B) = true) {M : Model} {e : Addr} {oe : Obj} {rest : List Value} {Q : Unit → Shared → Prop}
    (hC : h.get? C = some (excClassObj nm q C N bs bm hdct sn sub ab col dd k0 k1 k2 k3 k5 newId)) (he : h.get? e = some oe) (hcls : oe.cls = .ref C) (hq : Q () ⟨h, g, d, t, os⟩) :
    wpAny M A (checkBuiltinCall initId ⟨.ref e :: rest, []⟩) Q E ⟨h, g, d, t, os⟩ := by
  have own : (Value.ref C :: bm).contains (.type B) = true := by rw [List.contains_cons, hbm, Bool.or_true]
  have star := F.noStar
  simp only [checkBuiltinCall, F.initKind, F.initSplit, F.initRow]
  repeat (first | (with_reducible refine wpAny_loadPart_at he ?_; rw [hcls]) | with_reducible refine wpAny_loadPart_at hC ?_ | (with_reducible refine wpAny_isSubtype_exc hC ?_; rw [own]) | wp_step)
  refine wpAny_onRaise ?_
  rw [show ∀ (a b : String) (n : Nat), Bind.check ⟨.positional, "*", B, .self, [⟨"args", .varPos, false⟩]⟩ a b n (List.map (fun x => x.fst) ({ pos := Value.ref e :: rest } : Args).kw) = pure () from
    fun a b n => check_star_args _ _ _ _ _ _]
  exact wpAny_pure hq
set_option maxRecDepth 100000 in
theorem exc_init_call (F : ExcBaseFacts B newId initId bmB) (hbm : bm.contains (.type B) = true) {e t₀ : Addr} {rest : List Value} {Q : Value → Shared → Prop}
    (hC : h.get? C = some (excClassObj nm q C N bs bm hdct sn sub ab col dd k0 k1 k2 k3 k5 newId)) (he : h.get? e = some (excObj C t₀ none)) (hrest : rest.length ≤ sizeLine)
    (hq : ∀ h' t', h'.get? e = some (excObj C t' none) → (∀ b o, b ≠ e → h.get? b = some o → h'.get? b = some o) → Q .none ⟨h', g, d, t, os⟩) :
    wpAny (model prog w) A (call (.builtin initId) (.ref e :: rest)) Q E ⟨h, g, d, t, os⟩ := by
  refine wpAny_call (codeAny_call_builtin F.init.plain F.initEntry (check_init F hbm hC he rfl ?_))
  wp_walk
  refine hq _ h.objs.size ?_ ?_
  · exact Heap.get?_update_self _ (Heap.get?_push_of_some _ he) rfl
  · intro b o hb ho
    exact (Heap.get?_update_other _ _ (Ne.symm hb)).trans (Heap.get?_push_of_some _ ho)
end
section
variable {prog : Program} {w : World} {A : Around} {E : Value → Shared → Prop} {s : Shared} {K : Frag} {C e t : Addr} {name : Str} {v : Value}
/-- a first attribute stored on a fresh exception object: its dict comes to be -/
theorem exc_set {Q : Unit → Shared → Prop} (X : K.In s.heap) (he : s.heap.get? e = some (excObj C t none)) (hs : findIn K (.ref C) "__setattr__" = some (some (.builtin "object.__setattr__")))
    (hn : findIn K (.ref C) name = some none) (hm : mroIn K C (.type "object") = some true) {C' : Addr} (hcd : (clsIn K C).map (fun cd => (cd.mro, cd.hasDict)) = some ([.ref C, .ref C', .type "Exception", .type "BaseException", .type "object"], true))
    (hq : ∀ h' tk' dx, h'.get? e = some (excObj C t (some dx)) → (∀ b o, b ≠ e → s.heap.get? b = some o → h'.get? b = some o) → Q () { s with heap := h', toks := tk' }) :
    wpAny (model prog w) A (setAttr (.ref e) name v) Q E s := by
  obtain ⟨hp, gg, dr, tk, os⟩ := s
  dsimp only at X he
  have I : InstAt hp e (excObj C t none) C none := ⟨he, rfl, rfl, trivial⟩
  refine set_plain (s := ⟨hp, gg, dr, tk, os⟩) X I hs ?_
  obtain ⟨cd, hc, hpr⟩ := Option.map_eq_some_iff.mp hcd
  obtain ⟨hmro, hdict⟩ := Prod.mk.injEq .. ▸ hpr
  have SF := PySem.F.store_object
  have sub : Looks (model prog w) hp (isInstance (.ref e) (.type "object")) true := I.type.andThen (looks_mroIn X hm)
  refine codeAny_call_builtin SF.slot.plain SF.entry (@check_slot (model prog w) _ _ ⟨hp, gg, dr, tk + 1, os⟩ "object.__setattr__" "object" "__setattr__" (.ref e) [.str name tk, v] [] _ SF.kind SF.split sub (SF.args (.ref e) (.str name tk) v) ?_)
  have hmr : Looks (model prog w) hp (mroOf (.ref C)) cd.mro := (looks_clsIn X hc).andThen .now
  rw [osa_eq, refuse_eq]
  refine wpAny_bind (wpAny_bind (I.type.at (wpAny_bind (hmr.at ?_))))
  rw [hmro, refuseLoop_ref, refuseLoop_ref, PySem.F.store_Exception.passes]
  refine wpAny_pure (wpAny_bind (I.type.at (wpAny_bind ((looks_findIn X hn).at (wpAny_bind ?_)))))
  refine wpAny_pure ?_
  show wpAny _ _ (storeInOwnDict (.ref e) (.ref C) (.str name tk) name v false) _ _ _
  refine wpAny_bind (wpAny_pure (wpAny_bind (wpAny_bind (wpAny_loadPart he (wpAny_bind ((looks_clsIn X hc).at ?_))))))
  rw [hdict]
  have hd1 : typeHasDict (.ref C) = true := rfl
  show wpAny _ _ (do let d ← alloc { cls := .type "dict", data := .dict #[] }; update e fun o => { cls := o.cls, dict := some d, data := o.data, slots := o.slots }; dictMade (.ref C) e d) _ _ _
  have he1 : (hp.push { cls := .type "dict", data := .dict #[] }).get? e = some (excObj C t none) := Heap.get?_push_of_some _ he
  have hlt := Heap.lt_size he
  have hes : e ≠ hp.objs.size := Nat.ne_of_lt hlt
  refine wpAny_bind (wpAny_alloc' (wpAny_bind (wpAny_update' he1 (wpAny_pure ?_))))
  generalize hH : ((hp.push { cls := .type "dict", data := .dict #[] }).update e fun o => { cls := o.cls, dict := some hp.objs.size, data := o.data, slots := o.slots }) = H
  have gd : H.get? hp.objs.size = some { cls := .type "dict", data := .dict #[] } := by
    rw [← hH]; exact (Heap.get?_update_ne _ _ _ _ hes.symm).trans (Heap.get?_push_at rfl rfl)
  have ge : H.get? e = some (excObj C t (some hp.objs.size)) := by
    rw [← hH]; exact Heap.get?_update_self _ he1 rfl
  have go : ∀ b o, b ≠ e → hp.get? b = some o → H.get? b = some o := fun b o hb ho => by
    rw [← hH]; exact (Heap.get?_update_ne _ _ _ _ hb).trans (Heap.get?_push_of_some _ ho)
  have hnd : H.Ns hp.objs.size (fun _ => none) := ⟨_, #[], _, gd, rfl, fun e he => absurd he (by simp), fun _ => rfl⟩
  show wpAny _ _ (storeInDict hp.objs.size (.str name tk) name v) _ _ _
  unfold storeInDict newKeyGuard
  refine wpAny_bind (wpAny_pure (wpAny_bind (wpAny_nsSet1 (Heap.Ns1.of_empty hnd) fun h' hn' hs' => ?_)))
  obtain ⟨oD, esD, epD, hoD, hdD, hcD⟩ := hn'.count (Within.cons name v Within.nil)
  refine wpAny_bind (wpAny_lookBehind hoD (by rw [hdD]; exact pastItsLine_dict (Nat.le_trans hcD (by rw [List.length_cons, List.length_nil, sizeLine_eq]; omega))) ?_)
  exact wpAny_pure (hq h' _ hp.objs.size ((hs'.2 e hes).trans ge) fun b o hb ho => (hs'.2 b (Nat.ne_of_lt (Heap.lt_size ho))).trans (go b o hb ho))
end
end
section
section
variable {prog : Program} {w : World} {A : Around} {h : Heap} {g : Array GenState} {d : Drawn} {t : Nat} {os : OsState}
variable {nm q : Str} {C N : Addr} {bs bm bmB : List Value} {hdct : Bool} {sn : List Str} {sub : List Value} {ab : Bool} {col : Option Bool} {dd : Option Addr} {k0 k1 k2 k3 k5 : Option Value} {B newId initId : String}
set_option maxRecDepth 100000 in
theorem exc_new (F : ExcBaseFacts B newId initId bmB) (hb : bm.contains (.type B) = true) (hbA : bm.contains (.type "AttributeError") = false) (hbN : bm.contains (.type "NameError") = false) {R : Result → Shared → Prop} {rest : List Value}
    (hC : h.get? C = some (excClassObj nm q C N bs bm hdct sn sub ab col dd k0 k1 k2 k3 k5 newId))
    (hq : R (.ok (.ret (.ref (h.objs.size + 1)))) ⟨(h.push (tupOf rest.toArray 0)).push (excObj C h.objs.size none), g, d, t, os⟩) (hrest : rest.length ≤ sizeLine) :
    codeAny (model prog w) A (.builtin newId ⟨.ref C :: rest, []⟩) R ⟨h, g, d, t, os⟩ := by
  have ends := F.ends
  have cB : (Value.ref C :: bm).contains (.type B) = true := by rw [List.contains_cons, hb, Bool.or_true]
  have cA : (Value.ref C :: bm).contains (.type "AttributeError") = false := by rw [List.contains_cons, hbA]; rfl
  have cN : (Value.ref C :: bm).contains (.type "NameError") = false := by rw [List.contains_cons, hbN]; rfl
  refine codeAny_builtinAt F.entry ?_
  unfold Builtin.«BaseException.__new__»
  refine PySem.wpAt_bind ?_
  show PySem.wpAt _ _ _ (stack >>= _) _ _ _
  refine PySem.wpAt_bind (PySem.wpAt_stack fun p below => PySem.wpAt_of_wpAny ?_)
  wp_walk
  refine PySem.wpAt_of_wpAny ?_
  rw [F.owner]
  repeat (first | with_reducible refine wpAny_madeHere_exc F.canon hC ?_ | with_reducible refine wpAny_loadPart_at hC ?_ | (with_reducible refine wpAny_isSubtype_exc hC ?_; first | rw [cB] | rw [cA] | rw [cN]) | wp_step)
  show R _ _
  rw [Heap.size_push]
  exact hq
set_option maxRecDepth 100000 in
theorem check_new (F : ExcBaseFacts B newId initId bmB) (hb : bm.contains (.type B) = true) {M : Model} {E : Value → Shared → Prop} {rest : List Value} {Q : Unit → Shared → Prop} (hC : h.get? C = some (excClassObj nm q C N bs bm hdct sn sub ab col dd k0 k1 k2 k3 k5 newId))
    (hq : Q () ⟨h, g, d, t, os⟩) : wpAny M A (checkBuiltinCall newId ⟨.ref C :: rest, []⟩) Q E ⟨h, g, d, t, os⟩ := by
  have cB : (Value.ref C :: bm).contains (.type B) = true := by rw [List.contains_cons, hb, Bool.or_true]
  have star := F.noStar
  simp only [checkBuiltinCall, F.newKind, F.newSplit, F.newRow]
  repeat (first | refine wpAny_loadPart_at hC ?_ | (refine wpAny_isSubtype_exc hC ?_; rw [cB]) | refine wpAny_staticBase_exc hC ?_ | refine wpAny_madeBy_exc hC ?_ | simp only [bne_self_eq_false, Bool.false_eq_true, if_false] | wp_step)
  exact hq
set_option maxRecDepth 100000 in
/-- an exception class with an __init__ of its own (a def), called -/
theorem exc_call (F : ExcBaseFacts B newId initId bmB) (hb : bm.contains (.type B) = true) (hbA : bm.contains (.type "AttributeError") = false) (hbN : bm.contains (.type "NameError") = false)
    {K : Frag} {fI : Addr} {rest : List Value} {R : Result → Shared → Prop} (X : K.In h)
    (hC : h.get? C = some (excClassObj nm q C N bs bm hdct sn sub ab col dd k0 k1 k2 k3 k5 newId)) (hi : findIn K (.ref C) "__init__" = some (some (.ref fI))) (hf : typeIn K (.ref fI) = some (.type "function")) (hrest : rest.length ≤ sizeLine)
    (hq : codeAny (model prog w) (A.under (.builtin "type.__call__" ⟨.ref C :: rest, []⟩)) (.call (.ref fI) ⟨.ref (h.objs.size + 1) :: rest, []⟩) (InitBack (h.objs.size + 1) R) ⟨(h.push (tupOf rest.toArray 0)).push (excObj C h.objs.size none), g, d, t, os⟩) :
    codeAny (model prog w) A (.call (.ref C) ⟨rest, []⟩) R ⟨h, g, d, t, os⟩ := by
  have f1 := tc_lookup
  have f2 := tc_bind (.ref C)
  have hT : (⟨h, g, d, t, os⟩ : Shared).TypeIs (.ref C) "type" := ⟨_, hC, rfl⟩
  refine codeAny_of_tree ?_
  show wpAny _ _ (callAny (.ref C) _) _ _ _
  repeat (any_goals (first | assumption | with_reducible refine wpAny_loadPart_at hC ?_ | wp_step))
  refine ⟨rfl, ?_⟩
  refine codeAny_call_builtin_at (Code.quiet_builtin _ (by decide +kernel)) entry_typeCall (wpAny_check_type_call_sub hC ?_)
  repeat (first | with_reducible refine wpAny_loadPart_at hC ?_ | with_reducible refine wpAny_madeBy_exc hC ?_ | wp_step)
  refine codeAny_call_builtin_code (Code.quiet_builtin _ F.quiet) (check_new F hb hC ?_)
  refine exc_new F hb hbA hbN hC ?_ hrest
  show wpAny _ _ _ _ _ ⟨(h.push (tupOf rest.toArray 0)).push (excObj C h.objs.size none), g, d, t, os⟩
  have hk : ∀ b o, h.get? b = some o → ((h.push (tupOf rest.toArray 0)).push (excObj C h.objs.size none)).get? b = some o := fun b o e => Heap.get?_push_of_some _ (Heap.get?_push_of_some _ e)
  have hC1 := hk _ _ hC
  have X1 : K.In ((h.push (tupOf rest.toArray 0)).push (excObj C h.objs.size none)) := X.keeps hk
  have hget : ((h.push (tupOf rest.toArray 0)).push (excObj C h.objs.size none)).get? (h.objs.size + 1) = some (excObj C h.objs.size none) := Heap.get?_push_at (by simp only [Heap.size_push]) rfl
  have cC : (Value.ref C :: bm).contains (.ref C) = true := by simp
  unfold isInstance
  repeat (first | with_reducible refine wpAny_loadPart_at hget ?_ | (with_reducible refine wpAny_isSubtype_exc hC1 ?_; rw [cC]) | wp_step)
  show wpAny _ _ (typeLookup (.ref C) _) _ _ _
  refine (looks_findIn X1 hi).at ?_
  refine wpAny_holding (wpAny_bind ((bind_fn X1 _ hf).at ?_))
  show wpAny _ _ (call (.ref fI) (.ref (h.objs.size + 1) :: rest) [] >>= fun r => pure (some r)) _ _ _
  refine wpAny_bind (wpAny_call (codeAny_mono hq fun r s' z => ?_))
  rcases r with e | (v | _ | _ | _)
  · exact z
  · exact z.elim
  · exact z.elim
  · exact z.elim
  · obtain ⟨rfl, z⟩ := z
    exact wpAny_pure (wpAny_pure z)
end
end
section
section
variable {prog : Program} {w : World} {A : Around} {E : Value → Shared → Prop} {s : Shared} {h₀ : Heap} {L e t : Addr} {m : Str → Option Value} {rest : List (Addr × Obj)} {K : Frag}
variable {nm q : Str} {C N : Addr} {bs bm bmB : List Value} {hdct : Bool} {sn : List Str} {sub : List Value} {ab : Bool} {col : Option Bool} {dd : Option Addr} {k0 k1 k2 k3 k5 : Option Value} {B newId initId : String}
theorem fr_other {h h' : Heap} (F : Fr h₀ L h m) (he : e ≠ L) (hn : h₀.get? e = none) (hk : ∀ b o, b ≠ e → h.get? b = some o → h'.get? b = some o) : Fr h₀ L h' m :=
  ⟨F.ns.at' fun o q => hk L o (Ne.symm he) q, fun b o q => hk b o (fun z => by rw [z, hn] at q; cases q) (F.keep b o q), F.above⟩
theorem exc_init_N (FB : ExcBaseFacts B newId initId bmB) (F : Fr h₀ L s.heap m) (X : K.In h₀) (Nw : News h₀ L s.heap ((e, excObj C t none) :: rest)) (hC : K.lookup C = some (excClassObj nm q C N bs bm hdct sn sub ab col dd k0 k1 k2 k3 k5 newId))
    (hb : bm.contains (.type B) = true) (off : ∀ q ∈ rest, q.1 ≠ e) {vs : List Value} (hv : vs.length ≤ sizeLine) {Q : Value → Shared → Prop}
    (h : ∀ t' h', Fr h₀ L h' m → News h₀ L h' ((e, excObj C t' none) :: rest) → Q .none { s with heap := h' }) :
    wpAny (model prog w) A (call (.builtin initId) (.ref e :: vs)) Q E s := by
  obtain ⟨hp, g, d, tk, os⟩ := s
  have z := Nw _ (.head _)
  refine exc_init_call FB hb (F.keep _ _ (X _ _ hC)) z.1 hv fun h' t' he hk => h t' h' (fr_other F z.2.1 z.2.2 hk) fun p hp => ?_
  rcases List.mem_cons.mp hp with rfl | hp
  · exact ⟨he, z.2⟩
  · exact ⟨hk _ _ (off p hp) (Nw p (.tail _ hp)).1, (Nw p (.tail _ hp)).2⟩
theorem exc_set_N (F : Fr h₀ L s.heap m) (X : K.In h₀) (Nw : News h₀ L s.heap ((e, excObj C t none) :: rest)) {name : Str} {v : Value} (hs : findIn K (.ref C) "__setattr__" = some (some (.builtin "object.__setattr__")))
    (hn : findIn K (.ref C) name = some none) (hm : mroIn K C (.type "object") = some true) {C' : Addr} {cd : ClassData} (hc : clsIn K C = some cd) (hcd : (cd.mro, cd.hasDict) = ([.ref C, .ref C', .type "Exception", .type "BaseException", .type "object"], true))
    (off : ∀ q ∈ rest, q.1 ≠ e) {Q : Unit → Shared → Prop}
    (h : ∀ dx h' tk, Fr h₀ L h' m → News h₀ L h' ((e, excObj C t (some dx)) :: rest) → Q () { s with heap := h', toks := tk }) :
    wpAny (model prog w) A (setAttr (.ref e) name v) Q E s := by
  have z := Nw _ (.head _)
  refine exc_set (X.keeps F.keep) z.1 hs hn hm (C' := C') (by rw [hc]; exact congrArg some hcd) fun h' tk dx he hk => h dx h' tk (fr_other F z.2.1 z.2.2 hk) fun p hp => ?_
  rcases List.mem_cons.mp hp with rfl | hp
  · exact ⟨he, z.2⟩
  · exact ⟨hk _ _ (off p hp) (Nw p (.tail _ hp)).1, (Nw p (.tail _ hp)).2⟩
end
theorem meta_exc : typeOf (.type "Exception") = pure (.type "type") := by with_unfolding_all rfl
local macro_rules | `(tactic| k_all) => `(tactic| with_reducible assumption)
local macro_rules | `(tactic| walk_at "getMethod type:Exception") => `(tactic| (refine hold ?_))
local macro_rules | `(tactic| walk_at "call builtin:Exception.__init__") => `(tactic| (refine hold ?_))
local macro_rules | `(tactic| walk_at "setAttr ref") => `(tactic| (refine hold ?_))
set_option maxRecDepth 100000 in
set_option maxHeartbeats 8000000 in
theorem err_init {w : World} {A₀ A : Around} {env : Env} {outer : List Env} {base h₀ : Heap} {p : Program} {loose : List Str} {mean : ExcName → Option Value} {mg mb : Str → Option Value}
    {L e t : Addr} {m : Str → Option Value} {rest : List (Addr × Obj)} {x : Str} {tx : Nat} {s : Shared} {R : Result → Shared → Prop}
    (B : Below A₀ base outer h₀) (F : Fr h₀ L s.heap m) (KX : (hd.heap_39 w.params).In h₀) (N : News h₀ L s.heap ((e, excObj 51 t none) :: rest))
    (T : Top p loose mean mg mb h₀) (hA : A.frames = some (env :: outer)) (hf : env.frame = some L) (hke : env.scope.kind = .function) (hroom : A.depth < recursionLimit) (off : ∀ q ∈ rest, q.1 ≠ e)
    (h : ∀ (d t' tk : Nat) (h' : Heap), Fr h₀ L h' m → News h₀ L h' ((e, excObj 51 t' (some d)) :: rest) → R (.ok (.ret .none)) { s with heap := h', toks := tk }) :
    codeAny (model PySem.Challenge.rw_xm0817_01.row.prog w) A (.call (.ref 35) ⟨[.ref e, .str x tx], []⟩) R s := by
  w_top off
  revert KX; k_fill; intro KX
  refine' code_def B F KX N T hA hf hke ?k6 ?k7 hroom ?k9 ?kB ?_ ?c2 ?c3 ?c4 ?c5
  case k6 => k_is
  case k7 => k_is
  case k9 => exact BindsTo.of_eq rfl
  case kB => exact locs rfl
  case c2 => rfl
  case c3 => rfl
  case c4 => rfl
  case c5 => decide
  intro g L' h' FG' F' N' B' X' T'
  dsimp only
  k_steps
  unfold Hold
  refine' method_type ?F ?X ?m (by decide +kernel) ?e ?h ?_; (case F | X => k_asm); (case m => exact meta_exc); (case e => k_dflt k_is); (case h => k_handed)
  k_steps
  unfold Hold
  k_dflt (refine' exc_init_N PySem.F.excBase_Exception ?F ?X ?N ?l ?b ?o ?v ?_; (case F | X | N => k_asm); (case l => k_is); (case b => rfl); (case o => with_reducible assumption); (case v => size_fits); k_whole; intro t' h' F' N'; (try k_sweep))
  k_steps
  unfold Hold
  k_dflt (refine' exc_set_N ?F ?X ?N ?s ?n ?m ?c ?d ?o ?_; (case F | X | N => k_asm); (case s | n => k_is); (case m | c => k_is); (case d => rfl); (case o => with_reducible assumption); k_whole; intro d' h' tk' F' N'; (try k_sweep))
  k_steps
  exact h _ _ _ _ (by assumption) (by assumption)
local macro_rules | `(tactic| walk_at "no such key") => `(tactic| fail "no such key")
set_option maxRecDepth 100000 in
theorem err_call {w : World} {A₀ A : Around} {env : Env} {outer : List Env} {base h₀ : Heap} {p : Program} {loose : List Str} {mean : ExcName → Option Value} {mg mb : Str → Option Value}
    {L : Addr} {m : Str → Option Value} {news : List (Addr × Obj)} {x : Str} {tx : Nat} {E : Value → Shared → Prop} {s : Shared} {Q : Value → Shared → Prop}
    (B : Below A₀ base outer h₀) (F : Fr h₀ L s.heap m) (KX : (hd.heap_39 w.params).In h₀) (N : News h₀ L s.heap news)
    (T : Top p loose mean mg mb h₀) (hA : A.frames = some (env :: outer)) (hf : env.frame = some L) (hke : env.scope.kind = .function) (hroom : A.depth + 1 < recursionLimit)
    (h : ∀ (e d t' tk : Nat) (h' : Heap), Fr h₀ L h' m → News h₀ L h' ((e, excObj 51 t' (some d)) :: news) → (∀ q ∈ news, q.1 ≠ e) → Q (.ref e) { s with heap := h', toks := tk }) :
    wpAny (model PySem.Challenge.rw_xm0817_01.row.prog w) A (call (.ref 51) [.str x tx] []) Q E s := by
  w_top off
  revert KX; k_fill; intro KX
  refine wpAny_call ?_
  obtain ⟨hp, gg, dr, tk, os⟩ := s
  have hlt : ∀ q ∈ news, q.1 < hp.objs.size := fun q hq => Heap.lt_size (N q hq).1
  refine' exc_call PySem.F.excBase_Exception ?b ?bA ?bN (KX.keeps F.keep) ((KX.keeps F.keep) _ _ ?l) ?i ?f ?r ?_
  case l => k_is
  case b => rfl
  case bA => rfl
  case bN => rfl
  case i => k_is
  case f => k_is
  case r => size_fits
  have N1 : News h₀ L ((hp.push (tupOf [Value.str x tx].toArray 0)).push (excObj 51 hp.objs.size none)) ((hp.objs.size + 1, excObj 51 hp.objs.size none) :: (hp.objs.size, tupOf [Value.str x tx].toArray 0) :: news) := by
    have := (N.push F (tupOf [Value.str x tx].toArray 0)).push (F.push _) (excObj 51 hp.objs.size none)
    rwa [Heap.size_push] at this
  refine err_init (s := ⟨(hp.push (tupOf [Value.str x tx].toArray 0)).push (excObj 51 hp.objs.size none), gg, dr, tk, os⟩) B ((F.push _).push _) KX N1 T (by exact hA) hf hke ?_ ?_ fun d t' tk' h' F' N' => ?_
  · exact hroom
  · intro q hq
    rcases List.mem_cons.mp hq with rfl | hq
    · exact Nat.ne_of_lt (Nat.lt_succ_self _)
    · exact Nat.ne_of_lt (Nat.lt_succ_of_lt (hlt q hq))
  · refine ⟨rfl, h (hp.objs.size + 1) d t' tk' h' F' (fun q hq => N' q ?_) fun q hq => Nat.ne_of_lt (Nat.lt_succ_of_lt (hlt q hq))⟩
    rcases List.mem_cons.mp hq with rfl | hq
    · exact .head _
    · exact .tail _ (.tail _ hq)
end
section
section
variable {M : Model} {A : Around} {E : Value → Shared → Prop} {s : Shared} {env : Env}
variable {nm q : Str} {C N : Addr} {bs bm : List Value} {hdct : Bool} {sn : List Str} {sub : List Value} {ab : Bool} {col : Option Bool} {dd : Option Addr} {k0 k1 k2 k3 k5 : Option Value} {newId : String}
def RaiseAt (h₀ : Heap) (C : Addr) (E : Value → Shared → Prop) (v : Value) (s₁ : Shared) : Prop := ∃ e t d, v = .ref e ∧ h₀.StaysIn s₁.heap ∧ s₁.heap.get? e = some (excObj C t d) ∧ E v s₁
theorem RaiseAt.intro {h₀ : Heap} {C e t : Addr} {d : Option Addr} {s₁ : Shared} (h1 : h₀.StaysIn s₁.heap) (h2 : s₁.heap.get? e = some (excObj C t d)) (h3 : E (.ref e) s₁) : RaiseAt h₀ C E (.ref e) s₁ := ⟨e, t, d, rfl, h1, h2, h3⟩
set_option maxRecDepth 100000 in
theorem raise_open {K : Frag} {h₀ : Heap} {exc : Expr} {pos : Pos} {Q : Flow → Shared → Prop} (X : K.In h₀) (hC : K.lookup C = some (excClassObj nm q C N bs bm hdct sn sub ab col dd k0 k1 k2 k3 k5 newId)) (hbase : bm.contains (.type "BaseException") = true) (hh : A.handled = none)
    (h : wpAny M A (eval exc env) (RaiseAt h₀ C E) E s) :
    wpAny M A (exec (.Raise (some exc) none pos) env) Q E s := by
  have own : (Value.ref C :: bm).contains (.type "BaseException") = true := by rw [List.contains_cons, hbase, Bool.or_true]
  rw [arm_exec_Raise]
  simp only [evalOpt, Option.map]
  refine wpAny_bind (wpAny_standAt ?_)
  unfold raiseStmt
  refine wpAny_bind (wpAny_bind (wpAny_mono h (fun v s₁ h₁ => wpAny_bind (wpAny_standAt (wpAny_pure ?_))) fun _ _ x => x))
  obtain ⟨e, t, d, rfl, hk, he, hE⟩ := h₁
  have hC1 := hk _ _ (X _ _ hC)
  obtain ⟨hp, g, dr, tk, os⟩ := s₁
  repeat (first | with_reducible refine wpAny_loadPart_at he ?_ | with_reducible refine wpAny_loadPart_at hC1 ?_ | (with_reducible refine wpAny_isSubtype_exc hC1 ?_; rw [own]) | wp_step)
  exact wpAny_raiseNew_none hh hE
end
section
variable {M : Model} {A : Around} {E : Value → Shared → Prop} {s' : Shared} {base g h : Heap} {outer : List Env} {L a e t C : Addr} {d : Option Addr} {m : Str → Option Value} {name : Str} {scope : Scope} {cd : Value} {Q : Unit → Shared → Prop} {news : List (Addr × Obj)}
theorem leave_errK (K : Below A base outer g) (F : Fr g L s'.heap m) (N : News g L s'.heap ((e, excObj C t d) :: news)) (off : ∀ q ∈ news, q.1 ≠ e)
    (hQ : ∀ h', RaisedN base outer e (.ref C) news h' → g.UpToSlots h' → Q () { s' with heap := h' }) (hk : scope.kind = .function := by rfl) :
    wpAny M (A.deeper (envOf name scope L a cd)) (leaving (envOf name scope L a cd) (.ref e)) Q E s' := by
  have K' := K.push (name := name) (a := a) (cd := cd) F hk
  have ze := N _ (.head _)
  generalize hfs : (envOf name scope L a cd :: outer).filterMap (·.frame) = fs
  have hin : ∀ env ∈ (envOf name scope L a cd :: outer), ∀ b, env.frame = some b → b ∈ e :: fs := fun env he b hb => .tail _ (hfs ▸ List.mem_filterMap.mpr ⟨env, he, hb⟩)
  have offB : ∀ b o, base.get? b = some o → b ∉ e :: fs := fun b o q hm => by
    rcases List.mem_cons.mp hm with rfl | hm
    · rw [fresh_of_stays K.stays ze.2.2] at q; cases q
    · rw [(K'.frames.mem (hfs.symm ▸ hm)).1] at q; cases q
  have st : base.StaysIn (hideAll s'.heap (e :: fs)) := fun b o q => hideAll_get _ (K'.stays b o q) (offB b o q)
  have hl : ∀ q ∈ news, (hideAll s'.heap (e :: fs)).get? q.1 = some q.2 ∧ base.get? q.1 = none := fun q hq => by
    have zq := N q (.tail _ hq)
    refine ⟨hideAll_get _ zq.1 fun hm => ?_, fresh_of_stays K.stays zq.2.2⟩
    rcases List.mem_cons.mp hm with h1 | hm
    · exact off q hq h1
    · rw [← hfs] at hm
      obtain ⟨env, he, hf⟩ := List.mem_filterMap.mp hm
      rcases List.mem_cons.mp he with rfl | he
      · exact zq.2.1 (Option.some.inj hf).symm
      · obtain ⟨o, ho, _⟩ := (K.frames.mem (List.mem_filterMap.mpr ⟨env, he, hf⟩)).2
        rw [zq.2.2] at ho; cases ho
  refine wpAny_leaving_firstW (a0 := .ref t) K'.stack (funFrames_hide K'.frames hin) rfl ze.1 (fun b o hb => of_hideAll _ hb) (hideAll_none _ (.head _)) rfl rfl rfl fun h' hL => ?_
  obtain ⟨k1, ⟨_, _, k2⟩, k3, k4⟩ := hL
  exact hQ h' ⟨_, .ref t, st, hl, k1, hideAll_none _ (.head _), k2, k3⟩ ((Heap.UpToSlots.of_keeps F.keep).trans k4)
end
section
variable {prog : Program} {w : World} {A₀ : Around} {E : Value → Shared → Prop} {s' : Shared} {h₀ h : Heap} {outer : List Env} {L a e C : Addr} {m : Str → Option Value} {name : Str} {scope : Scope} {cd : Value}
  {b₀ : Stmt} {suite : List Stmt} {pos np : Pos} {rest : List ExceptHandler} {Q : Flow → Shared → Prop} {news : List (Addr × Obj)} {KF : Frag}
  {p : Program} {loose : List Str} {mg mb : Str → Option Value} {x : Str}
variable {nm q : Str} {N : Addr} {bs bm : List Value} {hdct : Bool} {sn : List Str} {sub : List Value} {ab : Bool} {col : Option Bool} {dd : Option Addr} {k0 k1 k2 k3 k5 : Option Value} {newId : String}
/-- an exception of an own class, caught by the clause that names the class, in a frame that may stand on others -/
theorem caught_err (K : A₀.frames = some outer) (F : Fr h₀ L h m) (hsm : h.UpToSlots s'.heap) (R : RaisedN h₀ (envOf name scope L a cd :: outer) e (.ref C) news s'.heap)
    (X : KF.In h₀) (T : TopRead p loose mg mb h₀) (ex : nsIn KF mainGlobals x = some (some (.ref C))) (hC : KF.lookup C = some (excClassObj nm q C N bs bm hdct sn sub ab col dd k0 k1 k2 k3 k5 newId)) (hbase : bm.contains (.type "BaseException") = true)
    (k : ∀ h', Fr h₀ L h' m → News h₀ L h' news → h.UpToSlots h' →
      wpAny (model prog w) ((A₀.deeper (envOf name scope L a cd)).mark (some (.ref e))) (execs (b₀ :: suite) (envOf name scope L a cd)) Q E { s' with heap := h' })
    (hk : scope.kind = .function := by rfl) (hx : (envOf name scope L a cd).kindOf x = some .globalImplicit := by rfl) (hd : (x == ("__debug__" : Str)) = false := by decide)
    (hE : PassesOwnAt (model prog w) ((A₀.deeper (envOf name scope L a cd)).mark (some (.ref e))) (A₀.deeper (envOf name scope L a cd)) (envOf name scope L a cd) E := by passes_own) :
    wpAny (model prog w) (A₀.deeper (envOf name scope L a cd)) (noteFrame (.ref e) (envOf name scope L a cd))
      (fun _ s₂ => wpAny (model prog w) (A₀.deeper (envOf name scope L a cd)) (setFlight (.ref e) none) (fun _ s₃ =>
        wpAny (model prog w) (A₀.deeper (envOf name scope L a cd)) (handleBy (.ref e) (envOf name scope L a cd) (.ExceptHandler (some (.Name x np)) none (b₀ :: suite) pos :: rest)) Q E s₃) E s₂) E s' := by
  obtain ⟨B, a0, hB, hl, hfl⟩ := R
  have hL : B.get? L = none := by
    obtain ⟨_, ⟨L', _, hf, hn', _⟩, _⟩ := hfl.2.2.1
    obtain rfl : L = L' := Option.some.inj hf
    exact hn'
  refine wpAny_looks_onW (Around.frames_deeper K) rfl hfl fun h₄ held₄ sm₄ => ?_
  refine wpAny_landsW held₄ fun h₅ held sm₅' => ?_
  have sm₅ := sm₄.trans sm₅'
  have held' := flyingW_base hB held
  have F₅ := F.of_stays held'.1 (hsm.trans sm₅)
  obtain ⟨ob, hob, hobc⟩ := held'.there
  refine wpAny_handleBy_cons (codeAny_handlers_test (name_K F₅ X T ex ?_ hk hx hd)) (by intro q; cases q)
  refine wpAny_excMatches_sub_self (F₅.keep _ _ (X _ _ hC)) hob hobc hbase (codeAny_handlers_suite ?_)
  refine lands_againW held fun h₆ fl₆ sm₆ => ?_
  have F₆ := F.of_stays (flyingW_base hB fl₆).1 ((hsm.trans sm₅).trans sm₆)
  exact wpAny_passesOwnAt hE (k h₆ F₆ (fun q hq => ⟨fl₆.1 _ _ (hl q hq).1, (fun z => by have := (hl q hq).1; rw [z, hL] at this; cases this), (hl q hq).2⟩) ((hsm.trans sm₅).trans sm₆))
end
end
section
theorem fm_lo {a b : Int} (_ : 0 ≤ a) (hb : 0 < b) : 0 ≤ a.fmod b := by rw [Int.fmod_eq_emod_of_nonneg _ (by omega)]; exact Int.emod_nonneg _ (by omega)
theorem fm_hi {a b : Int} (hb : 0 < b) : a.fmod b < b := by rw [Int.fmod_eq_emod_of_nonneg _ (by omega)]; exact Int.emod_lt_of_pos _ hb
theorem fd_lo {a b : Int} (ha : 0 ≤ a) (hb : 0 < b) : 0 ≤ a.fdiv b := by rw [Int.fdiv_eq_ediv_of_nonneg _ (by omega)]; exact Int.ediv_nonneg ha (by omega)
set_option maxRecDepth 100000 in
set_option maxHeartbeats 8000000 in
theorem voice_call {w : World} {A₀ A : Around} {env : Env} {outer : List Env} {base h₀ : Heap} {p : Program} {loose : List Str} {mean : ExcName → Option Value} {mg mb : Str → Option Value}
    {L c : Addr} {m : Str → Option Value} {rest : List (Addr × Obj)} {c0 c1 many : Int} {t0 t1 tm n0 : Nat} {E : Value → Shared → Prop} {s : Shared} {Q : Value → Shared → Prop}
    (B : Below A₀ base outer h₀) (F : Fr h₀ L s.heap m) (KX : (hd.heap_39 w.params).In h₀) (N : News h₀ L s.heap ((c, listOf #[.int c0 t0, .int c1 t1] n0) :: rest))
    (T : Top p loose mean mg mb h₀) (hA : A.frames = some (env :: outer)) (hf : env.frame = some L) (hke : env.scope.kind = .function) (hroom : A.depth < recursionLimit)
    (off : ∀ q ∈ rest, q.1 ≠ c) (h0 : 0 ≤ c0) (h1 : 0 ≤ c1) (h1' : c1 < 1000000) (hm : 1 < many) (hm' : many < 9)
    (h : ∀ (r c0' c1' : Int) (tr t0' t1' n0' tk : Nat) (h' : Heap), 0 ≤ r → r < many → 0 ≤ c0' → 0 ≤ c1' → c1' < 1000000 → Fr h₀ L h' m → News h₀ L h' ((c, listOf #[.int c0' t0', .int c1' t1'] n0') :: rest) →
      Q (.int r tr) { s with heap := h', toks := tk }) :
    wpAny (model PySem.Challenge.rw_xm0817_01.row.prog w) A (call (.ref 208) [.ref c, .int many tm] []) Q E s := by
  w_top off
  revert KX; k_fill; intro KX
  refine wpAny_call ?_
  refine' code_def B F KX N T hA hf hke ?k6 ?k7 hroom ?k9 ?kB ?_ ?c2 ?c3 ?c4 ?c5
  case k6 => k_is
  case k7 => k_is
  case k9 => exact BindsTo.of_eq rfl
  case kB => exact locs rfl
  case c2 => rfl
  case c3 => rfl
  case c4 => rfl
  case c5 => decide
  intro g L' h' FG' F' N' B' X' T'
  dsimp only
  k_steps
  all_goals (refine h _ _ _ _ _ _ _ _ _ ?_ ?_ ?_ ?_ ?_ (by assumption) (by assumption))
  all_goals (try simp only [Int.toNat_zero, List.getD_cons_zero])
  all_goals (try (show (0 : Int) ≤ c1; assumption))
  all_goals (try (show c1 < 1000000; assumption))
  · exact fm_lo h0 (by omega)
  · exact fm_hi (by omega)
  · exact fd_lo h0 (by omega)
  · exact fm_lo (fd_lo (fm_lo (by show (0 : Int) ≤ c1 * 113 + 4877; omega) (by decide)) (by decide)) (by omega)
  · exact fm_hi (by omega)
  · exact h0
  · exact fm_lo (by show (0 : Int) ≤ c1 * 113 + 4877; omega) (by decide)
  · exact Int.lt_of_lt_of_le (fm_hi (by decide)) (by decide)
end
section
/-- an object of the ledger whose own dict bears name ↦ v -/
structure AttrAt (news : List (Addr × Obj)) (x C : Addr) (name : Str) (v : Value) : Prop where
  got : ∃ dx es n, (x, instObj C dx) ∈ news ∧ (dx, dictOf es n) ∈ news ∧ getL name es = some (some v)
structure BareOf (news : List (Addr × Obj)) (x C : Addr) (name : Str) : Prop where
  got : ∃ dx es n, (x, instObj C dx) ∈ news ∧ (dx, dictOf es n) ∈ news ∧ getL name es = some none
theorem AttrAt.mono {news news' : List (Addr × Obj)} {x C : Addr} {name : Str} {v : Value} (a : AttrAt news x C name v) (h : ∀ p ∈ news, p ∈ news') : AttrAt news' x C name v :=
  let ⟨dx, es, n, h1, h2, h3⟩ := a.got; ⟨⟨dx, es, n, h _ h1, h _ h2, h3⟩⟩
theorem AttrAt.cons {news : List (Addr × Obj)} {p : Addr × Obj} {x C : Addr} {name : Str} {v : Value} (a : AttrAt news x C name v) : AttrAt (p :: news) x C name v := a.mono fun _ h => .tail _ h
theorem AttrAt.left {news own : List (Addr × Obj)} {x C : Addr} {name : Str} {v : Value} (a : AttrAt news x C name v) : AttrAt (news ++ own) x C name v := a.mono fun _ h => List.mem_append_left _ h
theorem BareOf.mono {news news' : List (Addr × Obj)} {x C : Addr} {name : Str} (a : BareOf news x C name) (h : ∀ p ∈ news, p ∈ news') : BareOf news' x C name :=
  let ⟨dx, es, n, h1, h2, h3⟩ := a.got; ⟨⟨dx, es, n, h _ h1, h _ h2, h3⟩⟩
theorem BareOf.cons {news : List (Addr × Obj)} {p : Addr × Obj} {x C : Addr} {name : Str} (a : BareOf news x C name) : BareOf (p :: news) x C name := a.mono fun _ h => .tail _ h
theorem BareOf.left {news own : List (Addr × Obj)} {x C : Addr} {name : Str} (a : BareOf news x C name) : BareOf (news ++ own) x C name := a.mono fun _ h => List.mem_append_left _ h
section
variable {prog : Program} {w : World} {A : Around} {E : Value → Shared → Prop} {s : Shared} {h₀ : Heap} {L x C : Addr} {m : Str → Option Value} {news : List (Addr × Obj)} {K : Frag} {name : Str}
theorem get_attrAt {expr : Bool} {v : Value} {Q : Value → Shared → Prop} {attr : Option Value} (F : Fr h₀ L s.heap m) (X : K.In h₀) (N : News h₀ L s.heap news) (a : AttrAt news x C name v) (hg : plainGet K C name = true) (hh : hasDictIn K C = true)
    (ha : findIn K (.ref C) name = some attr) (hn : noGet K attr = true) (hv : handedIn v = true) (h : Q v { s with toks := s.toks + 1 }) : wpAny (model prog w) A (getAttr (.ref x) name expr) Q E s :=
  let ⟨_, _, _, h1, h2, h3⟩ := a.got
  get_own F X (InstAt.of_news N h1 h2) hg hh ha hn h3 hv h
theorem method_at {pl : Sem Bool} {Q : Value × List Value → Shared → Prop} {f : Addr} (F : Fr h₀ L s.heap m) (X : K.In h₀) (N : News h₀ L s.heap news) (a : BareOf news x C name) (hg : plainGet K C name = true)
    (hf : findIn K (.ref C) name = some (some (.ref f))) (ht : isFn K (.ref f) = true) (h : Q (.ref f, [.ref x]) s) : wpAny (model prog w) A (getMethod (.ref x) name pl) Q E s :=
  let ⟨_, _, _, h1, h2, h3⟩ := a.got
  method_inst F X (InstAt.of_news N h1 h2) hg hf ht h3 h
theorem item_at {value slice : PySem.Expr} {l : Addr} {vs : List Value} {n : Nat} {k : Int} {u : Tok} {v : Value} {Q : Value → Shared → Prop} (N : News h₀ L s.heap news) (hm : (l, listOf vs.toArray n) ∈ news) (h0 : 0 ≤ k) (hfit : k < 2 ^ 63) (hx : vs[k.toNat]? = some v)
    (h : Q v s) (hs : subscripted slice false (.ref l) (.int k u) = operate [.ref l, .int k u] (getItem (.ref l) (.int k u)) := by with_unfolding_all rfl) :
    wpAny (model prog w) A (subscriptTail value slice (.ref l) (.int k u)) Q E s :=
  have hl : s.heap.IsList l vs.toArray := ⟨_, (N _ hm).1, rfl, n, rfl⟩
  tail_any hl.typeIs slot_list_getitem.lookup (wpAny_getItem_list hl h0 hfit (by simpa using hx) h) hs
end
theorem drop1 {h₀ h : Heap} {L : Addr} {p : Addr × Obj} {news : List (Addr × Obj)} (N : News h₀ L h (p :: news)) : News h₀ L h news := fun q hq => N q (.tail _ hq)
theorem drop3 {h₀ h : Heap} {L : Addr} {p q r : Addr × Obj} {news : List (Addr × Obj)} (N : News h₀ L h (p :: q :: r :: news)) : News h₀ L h news := drop1 (drop1 (drop1 N))
section
variable {prog : Program} {w : World} {A : Around} {E : Value → Shared → Prop} {s : Shared} {env : Env} {h₀ : Heap} {x : Str} {body : List Stmt} {Q : Flow → Shared → Prop}
/-- a for over a list of ints of the ledger that stores one int name, by a relation between the turn's number and that int -/
theorem iter_rel {l : Addr} {vs : List Value} {ns : List Int} {nn : Nat} {m₀ : Str → Option Value} {news : List (Addr × Obj)} {y : Str} (I : Nat → Int → Prop) (_hyx : y ≠ x)
    (hh : A.handled = none) (hl : (l, listOf vs.toArray nn) ∈ news) (hi : IntsAre vs ns) (F : Fr h₀ env.locals s.heap m₀) (N : News h₀ env.locals s.heap news) (h0 : ∃ a t, m₀ y = some (.int a t) ∧ I 0 a)
    (turn : ∀ i n t a ta h tk own, ns[i]? = some n → I i a → OwnOff own (news.map (·.1)) → Fr h₀ env.locals h (fun z => if z = x then some (.int n t) else if z = y then some (.int a ta) else m₀ z) → News h₀ env.locals h (news ++ own) →
      wpAny (model prog w) A (execs body env) (InvPostN h₀ env.locals (fun m' nx => nx = news ∧ (∃ a' t', m' y = some (.int a' t') ∧ I (i + 1) a') ∧ ∀ z, z ≠ x → z ≠ y → m' z = m₀ z) own (news.map (·.1)) { s with heap := h, toks := tk } Q) E { s with heap := h, toks := tk })
    (done : ∀ (u : Str → Option Value) a t h tk, I ns.length a → Fr h₀ env.locals h (fun z => if z = x then u z else if z = y then some (.int a t) else m₀ z) → News h₀ env.locals h news → Q .next { s with heap := h, toks := tk }) :
    wpAny (model prog w) A (pyIter (.ref l)) (fun it s₂ => LoopAtV prog w A h₀ env x body Q E it s₂) E s := by
  refine iter_invNL (fun i m nx => nx = news ∧ (∃ a t, m y = some (.int a t) ∧ I i a) ∧ ∀ z, z ≠ x → z ≠ y → m z = m₀ z) hh hl hi F N ⟨rfl, h0, fun _ _ _ => rfl⟩ ?_ ?_
  · rintro i n t m₁ nx h tk own hn _ hoff _ ⟨rfl, ⟨a, ta, hm, hI⟩, ho⟩ F₁ N₁
    have e : (fun z => if z = x then some (Value.int n t) else m₁ z) = fun z => if z = x then some (Value.int n t) else if z = y then some (Value.int a ta) else m₀ z := by
      funext z
      by_cases h1 : z = x
      · simp only [if_pos h1]
      · by_cases h2 : z = y
        · simp only [if_neg h1, if_pos h2]; rw [h2]; exact hm
        · simp only [if_neg h1, if_neg h2]; exact ho z h1 h2
    rw [e] at F₁
    refine wpAny_mono (turn i n t a ta h tk own hn hI hoff F₁ N₁) (fun f s₂ q => ?_) fun _ _ z => z
    have up : InvEndN h₀ env.locals (fun m' nx' => nx' = nx ∧ (∃ a' t', m' y = some (.int a' t') ∧ I (i + 1) a') ∧ ∀ z, z ≠ x → z ≠ y → m' z = m₀ z) own (nx.map (·.1)) { s with heap := h, toks := tk } s₂ →
        InvEndN h₀ env.locals (fun m' nx' => (l, listOf vs.toArray nn) ∈ nx' ∧ nx' = nx ∧ (∃ a t, m' y = some (.int a t) ∧ I (i + 1) a) ∧ ∀ z, z ≠ x → z ≠ y → m' z = m₀ z) own (nx.map (·.1)) { s with heap := h, toks := tk } s₂ := by
      rintro ⟨h', tk', m', news', nx', e1, F', N', c1, c2, c3, rfl, c4, c5⟩
      exact ⟨h', tk', m', news', nx', e1, F', N', c1, c2, c3, hl, rfl, c4, c5⟩
    cases f with
    | ret v => exact q
    | brk => exact q
    | next => exact up q
    | cont => exact up q
  · rintro m₁ nx h tk _ ⟨rfl, ⟨a, t, hm, hI⟩, ho⟩ F₁ N₁
    refine done m₁ a t h tk hI ?_ N₁
    have e : (fun z => if z = x then m₁ z else if z = y then some (Value.int a t) else m₀ z) = m₁ := by
      funext z
      by_cases h1 : z = x
      · simp only [if_pos h1]
      · by_cases h2 : z = y
        · simp only [if_neg h1, if_pos h2]; rw [h2]; exact hm.symm
        · simp only [if_neg h1, if_neg h2]; exact (ho z h1 h2).symm
    rw [e]; exact F₁
end
/-- the rest of a comprehension's turns by an invariant over the turn's number, the items so far and the ledger -/
theorem compRest_inv {prog : Program} {w : World} {A : Around} {h₀ : Heap} {L : Addr} {m : Str → Option Value} {env : Env} {elt : Expr} {x : Str} {scope : Scope} {cl : List (Str × Addr)} {s : Shared} {S : List (Addr × Obj) → Prop} {P : Nat → Value → Prop}
    {Fin : List Value → List (Addr × Obj) → Prop} (n : Nat) (J : Nat → List Value → List (Addr × Obj) → Prop)
    (turn : ∀ i ys news, i < n → J i ys news → ∀ v I oI C oC D m₂ h tk (E' : Value → Shared → Prop), P i v → LCg.NsObj oC m₂ → m₂ x = some v → Fr h₀ L h m → News h₀ L h ((I, oI) :: (C, oC) :: (D, LCg.lst ys) :: news) → LCg.Off3 I C D news → ((@Ne Nat I C) ∧ (@Ne Nat I D) ∧ (@Ne Nat C D)) →
      wpAny (model prog w) A (eval elt (compEnvC scope cl C env)) (LCg.CompEnd h₀ L m { s with heap := h, toks := tk } I oI C oC D (LCg.lst ys) S (fun y news' => J (i + 1) (ys ++ [y]) news')) E' { s with heap := h, toks := tk })
    (fin : ∀ ys news, J n ys news → Fin ys news) : ∀ k i ys news, i + k = n → J i ys news → LCg.CompRest prog w A h₀ L m env elt x scope cl s S P Fin k i ys news
  | 0, i, ys, news, e, j => LCg.CompRest.zero (fin ys news (by rw [Nat.add_zero] at e; exact e ▸ j))
  | k + 1, i, ys, news, e, j => LCg.CompRest.succ fun v I oI C oC D m₂ h tk E' hp hns hx F N off ne =>
      wpAny_mono (turn i ys news (by omega) j v I oI C oC D m₂ h tk E' hp hns hx F N off ne)
        (fun y s' z => let ⟨h', tk', news', e1, F', N', off', hS, r⟩ := z; ⟨h', tk', news', e1, F', N', off', hS, compRest_inv n J turn fin k (i + 1) (ys ++ [y]) news' (by omega) r⟩) fun _ _ z => z
theorem compRestT_inv {prog : Program} {w : World} {A : Around} {h₀ : Heap} {L : Addr} {m : Str → Option Value} {env : Env} {ct elt : Expr} {x : Str} {scope : Scope} {cl : List (Str × Addr)} {s : Shared} {S : List (Addr × Obj) → Prop} {P : Nat → Value → Prop}
    {Fin : List Value → List (Addr × Obj) → Prop} (n : Nat) (J : Nat → List Value → List (Addr × Obj) → Prop)
    (turn : ∀ i ys news, i < n → J i ys news → ∀ v I oI C oC D m₂ h tk (E' : Value → Shared → Prop), P i v → LCg.NsObj oC m₂ → m₂ x = some v → Fr h₀ L h m → News h₀ L h ((I, oI) :: (C, oC) :: (D, LCg.lst ys) :: news) → LCg.Off3 I C D news → ((@Ne Nat I C) ∧ (@Ne Nat I D) ∧ (@Ne Nat C D)) →
      wpAny (model prog w) A (isTrue ct (compEnvC scope cl C env) (eval ct (compEnvC scope cl C env))) (fun ok s' => if ok = true then
        wpAny (model prog w) A (eval elt (compEnvC scope cl C env)) (LCg.CompEnd h₀ L m { s with heap := h, toks := tk } I oI C oC D (LCg.lst ys) S (fun y news' => J (i + 1) (ys ++ [y]) news')) E' s'
        else LCg.CompEnd h₀ L m { s with heap := h, toks := tk } I oI C oC D (LCg.lst ys) S (fun _ news' => J (i + 1) ys news') Value.none s') E' { s with heap := h, toks := tk })
    (fin : ∀ ys news, J n ys news → Fin ys news) : ∀ k i ys news, i + k = n → J i ys news → LCt.CompRestT prog w A h₀ L m env ct elt x scope cl s S P Fin k i ys news
  | 0, i, ys, news, e, j => LCt.CompRestT.zero (fin ys news (by rw [Nat.add_zero] at e; exact e ▸ j))
  | k + 1, i, ys, news, e, j => LCt.CompRestT.succ fun v I oI C oC D m₂ h tk E' hp hns hx F N off ne =>
      wpAny_mono (turn i ys news (by omega) j v I oI C oC D m₂ h tk E' hp hns hx F N off ne) (fun ok s' z => by
        have lift : ∀ y ys' s'', LCg.CompEnd h₀ L m { s with heap := h, toks := tk } I oI C oC D (LCg.lst ys) S (fun y news' => J (i + 1) ys' news') y s'' →
            LCg.CompEnd h₀ L m { s with heap := h, toks := tk } I oI C oC D (LCg.lst ys) S (fun _ news' => LCt.CompRestT prog w A h₀ L m env ct elt x scope cl s S P Fin k (i + 1) ys' news') y s'' := fun y ys' s'' z =>
          let ⟨h', tk', news', e1, F', N', off', hS, r⟩ := z; ⟨h', tk', news', e1, F', N', off', hS, compRestT_inv n J turn fin k (i + 1) ys' news' (by omega) r⟩
        cases ok with
        | true =>
          simp only [if_true] at z ⊢
          refine wpAny_mono z (fun y s'' zz => ?_) fun _ _ z => z
          obtain ⟨h', tk', news', e1, F', N', off', hS, r⟩ := zz
          exact ⟨h', tk', news', e1, F', N', off', hS, compRestT_inv n J turn fin k (i + 1) (ys ++ [y]) news' (by omega) r⟩
        | false =>
          simp only [Bool.false_eq_true, if_false] at z ⊢
          exact lift _ _ _ z) fun _ _ z => z
end
local macro_rules | `(tactic| k_mem) => `(tactic| first | (with_reducible assumption) | exact AttrAt.cons (by k_mem) | exact BareOf.cons (by k_mem))
local macro_rules | `(tactic| walk_at "own mem") => `(tactic| first | assumption | exact List.mem_cons_self | (refine List.mem_cons_of_mem _ ?_; walk_at "own mem"))
local macro_rules | `(tactic| k_mem) => `(tactic| ((with_reducible show (_ : Addr × Obj) ∈ (_ : List (Addr × Obj))); with_reducible walk_at "own mem"))
local macro_rules | `(tactic| walk_at "call builtin:len") => `(tactic| (k_here; (with_reducible show wpAny _ _ (call (Value.builtin "len") [Value.ref _]) _ _ _); k_dflt (refine' kst_len ?k1 ?k2 ?k3 ?k4 ?_; (case k1 => k_asm); (case k2 => k_mem); (case k3 => first | exact IntsAre.length (by assumption) | assumption); (case k4 => omega); k_whole)))
local macro_rules | `(tactic| walk_at "CompSrc") => `(tactic| (refine hold ?_))
local macro_rules | `(tactic| walk_at "CompSrcT") => `(tactic| (refine hold ?_))
local macro_rules | `(tactic| walk_at "own comp") => `(tactic| (k_here; k_dflt (refine LCg.ListComp_U (F₀ := by k_asm) (by with_unfolding_all rfl) (by decide) (by rfl) (by decide) (by rfl) ?_); k_dflt lcg_toSrc))
local macro_rules | `(tactic| walk_at "own compT") => `(tactic| (k_here; (with_reducible show wpAny _ _ (eval (Expr.ListComp _ [⟨_, _, [_], _⟩] _ _) _) _ _ _); k_dflt (refine LCt.ListComp_T (F₀ := by k_asm) (by with_unfolding_all rfl) (by decide) (by rfl) (by decide) (by rfl) ?_); k_dflt lct_toSrc))
local macro_rules | `(tactic| walk_at "own all") => `(tactic| exact allNe_cons (by first | with_reducible assumption | exact Ne.symm (by with_reducible assumption) | k_ne) (by with_reducible assumption))
local macro_rules | `(tactic| walk_at "own attr") => `(tactic| (k_here; k_dflt (refine' get_attrAt ?F ?X ?N ?a ?g ?h ?f ?n ?v ?_; (case F | X | N => k_asm); (case a => first | with_reducible assumption | k_mem); (case g | h => k_is); (case f | n => k_is); (case v => k_handed); k_whole)))
local macro_rules | `(tactic| walk_at "own name") => `(tactic| (k_here; k_dflt (refine' nameX_L ?F ?v ?_ ?a ?b; (case F => k_asm); (case a | b => rfl); (case v => first | with_reducible assumption | assumption); k_whole)))
section
/-- the sides as the components bear them -/
def CompsAre (news : List (Addr × Obj)) (cl : Addr) (S : List (Int × Int)) : Prop := ∃ cvs ck, (cl, listOf (List.toArray cvs) ck) ∈ news ∧ cvs.length = S.length ∧
  ∀ (i : Nat) (q : Int × Int), S[i]? = some q → ∃ c tx ty, cvs[i]? = some (.ref c) ∧ AttrAt news c 89 "across" (.int q.1 tx) ∧ AttrAt news c 89 "down" (.int q.2 ty)
theorem CompsAre.mono {news news' : List (Addr × Obj)} {cl : Addr} {S : List (Int × Int)} (x : CompsAre news cl S) (h : ∀ p ∈ news, p ∈ news') : CompsAre news' cl S :=
  let ⟨cvs, ck, h1, h2, h3⟩ := x
  ⟨cvs, ck, h _ h1, h2, fun i q e => let ⟨c, tx, ty, a, b, d⟩ := h3 i q e; ⟨c, tx, ty, a, b.mono h, d.mono h⟩⟩
def Small (S : List (Int × Int)) : Prop := ∀ q ∈ S, (1 ≤ q.1 ∧ q.1 ≤ 4) ∧ (1 ≤ q.2 ∧ q.2 ≤ 4)
def area (S : List (Int × Int)) (p : Int) : Int := (S.getD p.toNat (0, 0)).1 * (S.getD p.toNat (0, 0)).2
theorem ints_snoc {vs : List Value} {ns : List Int} {a b : Int} {t : Tok} (h : IntsAre vs ns) (e : b = a) : IntsAre (vs ++ [.int a t]) (ns ++ [b]) := by
  subst e
  induction h with
  | nil => exact .cons _ _ .nil
  | cons n u _ ih => exact .cons n u ih
local macro_rules | `(tactic| walk_at "getAttr ref") => `(tactic| walk_at "own attr")
local macro_rules | `(tactic| walk_at "getMethod ref") => `(tactic| (k_here; k_dflt (refine' method_at ?F ?X ?N ?a ?g ?f ?t ?_; (case F | X | N => k_asm); (case a => k_mem); (case g | f | t => k_is); k_whole)))
local macro_rules | `(tactic| walk_at "subscriptTail") => `(tactic| (k_here; (with_reducible show wpAny _ _ (subscriptTail _ _ (Value.ref _) (Value.int _ _)) _ _ _); (with_unfolding_all refine' item_at ?k1 ?k2 ?k3 ?k4 ?k5 ?_ ?k6; (case k1 => k_asm); (case k2 => k_mem); (case k3 | k4 => omega); (case k5 => with_reducible assumption); (case k6 => with_unfolding_all rfl); k_whole)))
local macro_rules | `(tactic| walk_at "eval ListComp") => `(tactic| walk_at "own comp")
set_option maxRecDepth 100000 in
set_option maxHeartbeats 8000000 in
theorem units_call {w : World} {A₀ A : Around} {env : Env} {outer : List Env} {base h₀ : Heap} {p : Program} {loose : List Str} {mean : ExcName → Option Value} {mg mb : Str → Option Value}
    {L fr sc cl pl : Addr} {m : Str → Option Value} {news : List (Addr × Obj)} {S : List (Int × Int)} {P : List Int} {pvs : List Value} {pk : Nat} {E : Value → Shared → Prop} {s : Shared} {Q : Value → Shared → Prop}
    (B : Below A₀ base outer h₀) (F : Fr h₀ L s.heap m) (KX : (hd.heap_39 w.params).In h₀) (N : News h₀ L s.heap news)
    (T : Top p loose mean mg mb h₀) (hA : A.frames = some (env :: outer)) (hf : env.frame = some L) (hke : env.scope.kind = .function) (hroom : A.depth + 1 < recursionLimit) (hh : A.handled = none)
    (a1 : AttrAt news fr 155 "components" (.ref cl)) (a2 : CompsAre news cl S) (a3 : AttrAt news sc 190 "places" (.ref pl)) (a4 : BareOf news sc 190 "is_alone") (a5 : (pl, listOf pvs.toArray pk) ∈ news) (a6 : IntsAre pvs P)
    (b1 : Small S) (b4 : S.length ≤ 5) (b2 : P.length ≤ 4) (b3 : ∀ p ∈ P, 0 ≤ p ∧ p < S.length)
    (h : ∀ (tr tk : Nat) (h' : Heap), Fr h₀ L h' m → News h₀ L h' news → Q (.int (if P.length = 1 then 1 else (P.map (area S)).sum) tr) { s with heap := h', toks := tk }) :
    wpAny (model PySem.Challenge.rw_xm0817_01.row.prog w) A (call (.ref 58) [.ref fr, .ref sc] []) Q E s := by
  w_top off
  revert KX; k_fill; intro KX
  refine wpAny_call ?_
  refine' code_defC B F KX N T hA hf hke ?k6 ?k7 ?k8 ?k9 ?kB ?kD ?_ ?c2 ?c3 ?c4
  case k6 => k_is
  case k7 => k_is
  case k8 => omega
  case k9 => exact BindsTo.of_eq rfl
  case kB => exact rfl
  case kD => decide +kernel
  case c2 => rfl
  case c3 => rfl
  case c4 => rfl
  intro g L' h' tk' cells' FG' F' N' Y' B' X' T' l1
  k_cells Y'
  simp only [List.cons_append, List.nil_append] at N'
  dsimp only
  k_steps
  · have e : P.length = 1 := by omega
    simp only [e, if_true] at h
    exact h _ _ _ (by assumption) (drop1 (by assumption))
  · unfold Hold
    obtain ⟨cvs, ck, c1, c2, c3⟩ := a2
    refine LCg.CompSrc.ledger (by exact hh) (by k_asm) (by k_asm) (its := pvs.toArray) (k := pk) (by k_mem) (by rw [List.size_toArray, a6.length, sizeLine_eq]; omega) ?_
    intro g'
    rw [List.size_toArray, a6.length]
    refine compRest_inv P.length (fun i ys nw => nw = (_ :: news) ∧ IntsAre ys ((P.take i).map (area S))) ?_ ?_ P.length 0 [] _ (by omega) ⟨rfl, .nil⟩
    · rintro i ys nw hi ⟨rfl, hys⟩ v' I' oI' C' oC' D' m' h' tk' E' hv' hC' hx' F' N' off' ne'
      have hpi : P[i]? = some P[i] := List.getElem?_eq_getElem hi
      obtain ⟨tv, hg⟩ := a6.get i _ hpi
      have hv2 : pvs[i]? = some v' := by simpa using hv'
      rw [hg] at hv2
      obtain rfl := Option.some.inj hv2
      obtain ⟨p0, p1⟩ := b3 P[i] (List.getElem_mem hi)
      have hk : P[i].toNat < S.length := by omega
      obtain ⟨c, tx, ty, e1, e2, e3⟩ := c3 P[i].toNat _ (List.getElem?_eq_getElem hk)
      obtain ⟨⟨q1, q2⟩, q3, q4⟩ := b1 _ (List.getElem_mem hk)
      have har : area S P[i] = S[P[i].toNat].1 * S[P[i].toNat].2 := by unfold area; rw [List.getD_eq_getElem?_getD, List.getElem?_eq_getElem hk]; rfl
      generalize S[P[i].toNat].1 = sx at e2 q1 q2 har
      generalize S[P[i].toNat].2 = sy at e3 q3 q4 har
      generalize hpp : P[i] = pp at *
      k_steps
      refine LCg.CompEnd.intro F' N' _ (fun p hp => hp) off' (Or.inr ⟨_, .tail _ a5, rfl, _, rfl⟩) ⟨rfl, ?_⟩
      rw [List.take_add_one, hpi, List.map_append]
      refine ints_snoc hys ?_
      exact har
    · rintro ys nw ⟨rfl, hys⟩
      rw [List.take_length] at hys
      k_steps
      refine sumK (by exact hh) (by k_asm) (by k_asm) (by assumption) hys ?_
      intro h2 tk2 t2 F2 N2
      k_steps
      have e : ¬ P.length = 1 := by omega
      simp only [e, if_false] at h
      exact h _ _ _ (by assumption) (drop1 (drop1 (by assumption)))
end
section
/-- the places of a scan, one by one, as the code reads them -/
noncomputable def OkFrom (n : Int) : Int → List Int → Prop
  | _, [] => True
  | a, p :: r => (0 ≤ p ∧ p < n) ∧ a < p ∧ OkFrom n p r
def Good (S : List (Int × Int)) (P : List Int) : Prop := (1 ≤ P.length ∧ P.length ≤ 4) ∧ OkFrom S.length (-1) P ∧ (P.length = 1 ∨ (P.map (area S)).sum ≤ 10)
theorem okFrom_cons {n a p : Int} {r : List Int} : OkFrom n a (p :: r) ↔ (0 ≤ p ∧ p < n) ∧ a < p ∧ OkFrom n p r := Iff.rfl
theorem OkFrom.bounds {n : Int} : ∀ {l : List Int} {a : Int}, OkFrom n a l → ∀ p ∈ l, 0 ≤ p ∧ p < n
  | _ :: _, _, ⟨h, _, r⟩, p, hp => by
    rcases List.mem_cons.mp hp with rfl | hp
    · exact h
    · exact OkFrom.bounds r p hp
theorem raisedN_left {base h : Heap} {l : List Env} {e : Addr} {cls : Value} {news own : List (Addr × Obj)} (R : RaisedN base l e cls (news ++ own) h) : RaisedN base l e cls news h :=
  let ⟨B, a0, h1, h2, h3⟩ := R
  ⟨B, a0, h1, fun q hq => h2 q (List.mem_append_left _ hq), h3⟩
local macro_rules | `(tactic| walk_at "getAttr ref") => `(tactic| walk_at "own attr")
local macro_rules | `(tactic| walk_at "pyIter ref") => `(tactic| (refine hold ?_))
local macro_rules | `(tactic| walk_at "InvEndN") => `(tactic| (refine hold ?_))
local macro_rules | `(tactic| walk_at "exec Raise some none") => `(tactic| (k_here; k_dflt (refine' raise_open (C := 51) ?X ?l ?b ?h ?_; (case X => k_asm); (case l => k_is); (case b => rfl); (case h => assumption); k_whole)))
local macro_rules | `(tactic| walk_at "RaiseAt") => `(tactic| (k_here; (refine' RaiseAt.intro ?F ?N ?_; (case F => exact Fr.keep (by k_asm)); (case N => exact News.get (by k_asm) (List.Mem.head _)); k_whole)))
local macro_rules | `(tactic| walk_at "call ref") => `(tactic| (k_here; (with_reducible show wpAny _ _ (call (Value.ref 51) [Value.str _ _] _) _ _ _); k_dflt (refine' err_call ?k1 ?k2 ?k3 ?k4 ?k5 ?kA ?kF ?kK ?k8 ?_; (case k1 => k_asm); (case kA => exact Around.frames_deeper (Below.stack (by assumption))); (case kF | kK => exact rfl); (case k2 | k3 => k_asm); (case k4 | k5 => k_asm); (case k8 => k_room); k_whole; intro e' d' t' tk' h' F' N' o')))
local macro_rules | `(tactic| walk_at "call ref") => `(tactic| (k_here; (with_reducible show wpAny _ _ (call (Value.ref 58) _ _) _ _ _); refine hold ?_))
local macro_rules | `(tactic| walk_at "leaving ref") => `(tactic| (k_here; (refine' leave_errK ?k1 ?k2 ?k3 ?k4 ?_; (case k1 | k2 => assumption); (case k3 => k_asm); (case k4 => assumption); k_whole; intro h' R' U'; (try dsimp only at R' U' ⊢))))
set_option maxRecDepth 100000 in
set_option maxHeartbeats 8000000 in
theorem check_call {w : World} {A₀ A : Around} {env : Env} {outer : List Env} {base h₀ : Heap} {p : Program} {loose : List Str} {mean : ExcName → Option Value} {mg mb : Str → Option Value}
    {L fr sc cl pl : Addr} {m : Str → Option Value} {news : List (Addr × Obj)} {S : List (Int × Int)} {P : List Int} {pvs : List Value} {pk : Nat} {s : Shared} {R : Result → Shared → Prop}
    (B : Below A₀ base outer h₀) (F : Fr h₀ L s.heap m) (KX : (hd.heap_39 w.params).In h₀) (N : News h₀ L s.heap news)
    (T : Top p loose mean mg mb h₀) (hA : A.frames = some (env :: outer)) (hf : env.frame = some L) (hke : env.scope.kind = .function) (hroom : A.depth + 4 < recursionLimit) (hh : A.handled = none)
    (a1 : AttrAt news fr 155 "components" (.ref cl)) (a2 : CompsAre news cl S) (a3 : AttrAt news sc 190 "places" (.ref pl)) (a4 : BareOf news sc 190 "is_alone") (a5 : (pl, listOf pvs.toArray pk) ∈ news) (a6 : IntsAre pvs P)
    (b1 : Small S) (b4 : S.length ≤ 5) (b2 : P.length ≤ 100)
    (hok : Good S P → ∀ (tk : Nat) (h' : Heap), Fr h₀ L h' m → News h₀ L h' news → R (.ok (.ret .none)) { s with heap := h', toks := tk })
    (herr : ¬ Good S P → ∀ (e tk : Nat) (g h' : Heap), Fr h₀ L g m → g.UpToSlots h' → RaisedN base (env :: outer) e (.ref 51) news h' → R (.error (.ref e)) { s with heap := h', toks := tk }) :
    codeAny (model PySem.Challenge.rw_xm0817_01.row.prog w) A (.call (.ref 65) ⟨[.ref fr, .ref sc], []⟩) R s := by
  w_top off
  revert KX; k_fill; intro KX
  refine' code_def B F KX N T hA hf hke ?k6 ?k7 ?k8 ?k9 ?kB ?_ ?c2 ?c3 ?c4 ?c5
  case k6 => k_is
  case k7 => k_is
  case k8 => omega
  case k9 => exact BindsTo.of_eq rfl
  case kB => exact locs rfl
  case c2 => rfl
  case c3 => rfl
  case c4 => rfl
  case c5 => decide
  intro g L' h' FG' F' N' B' X' T'
  dsimp only
  obtain ⟨cvs, ck, c1, c2, c3⟩ := id a2
  k_steps
  · unfold Hold
    refine iter_rel (y := "ahead") (fun i a => OkFrom S.length (-1) P ↔ OkFrom S.length a (P.drop i)) (by decide) (by exact hh) a5 a6 (by assumption) (by assumption) ⟨_, _, rfl, by simp⟩ ?_ ?_
    · intro i n t a ta h3 tk3 own hn hI hoff F3 N3
      have hdr : P.drop i = n :: P.drop (i + 1) := by
        obtain ⟨hlt, rfl⟩ := List.getElem?_eq_some_iff.mp hn
        exact List.drop_eq_getElem_cons hlt
      rw [hdr] at hI
      rw [okFrom_cons] at hI
      have lf1 := AttrAt.left (own := own) a1
      have lf2 := List.mem_append_left own c1
      k_steps
      all_goals first
        | (refine herr (fun G => ?_) _ _ g _ (by assumption) (by assumption) (raisedN_left (by assumption)); obtain ⟨⟨p1, p2⟩, p3, _⟩ := hI.mp G.2.1; omega)
        | (unfold Hold; refine InvEndN.intro (by assumption) (by assumption) ⟨rfl, ⟨_, _, rfl, hI.trans ⟨fun z => z.2.2, fun z => ⟨⟨by omega, by omega⟩, by omega, z⟩⟩⟩, by (intro z h1 h2; simp only [if_neg h1, if_neg h2])⟩ rfl (fun p hp => List.mem_append_left _ hp) (fun p hp => List.mem_append_right _ hp))
    · intro u a t h3 tk3 hI F3 N3
      have hO : OkFrom S.length (-1) P := hI.mpr (by rw [List.drop_length]; exact True.intro)
      have hb := hO.bounds
      k_steps
      unfold Hold
      k_dflt (refine' units_call ?k1 ?k2 ?k3 ?k4 ?k5 ?kA ?kF ?kK ?k8 ?hh ?a1 ?a2 ?a3 ?a4 ?a5 ?a6 ?b1 ?b4 ?b2 ?b3 ?_; (case k1 => k_asm); (case kA => exact Around.frames_deeper (Below.stack (by assumption))); (case kF | kK => exact rfl); (case k2 | k3 => k_asm); (case k4 | k5 => k_asm); (case k8 => k_room); (case hh => assumption); (case a1 => k_mem); (case a2 => assumption); (case a3 | a4 | a5 => k_mem); (case a6 | b1 | b4 => assumption); (case b2 => omega); (case b3 => assumption); k_whole; intro t' tk' h' F' N'; (try k_sweep))
      k_steps
      · refine herr (fun G => ?_) _ _ g _ (by assumption) (by assumption) (by assumption)
        have := G.2.2
        split at * <;> omega
      · refine hok ⟨⟨by omega, by omega⟩, hO, ?_⟩ _ _ (by assumption) (by assumption)
        split at * <;> omega
  · refine herr (fun G => ?_) _ _ g _ (by assumption) (by assumption) (by assumption)
    obtain ⟨⟨g1, g2⟩, _⟩ := G
    omega
  · refine herr (fun G => ?_) _ _ g _ (by assumption) (by assumption) (by assumption)
    obtain ⟨⟨g1, g2⟩, _⟩ := G
    omega
end
section
section
variable {prog : Program} {w : World} {A A₀ : Around} {s : Shared} {K : Frag} {L : Addr} {h₀ base : Heap} {m mg mb : Str → Option Value} {news : List (Addr × Obj)} {p : Program} {loose : List Str} {mean : ExcName → Option Value}
/-- a def entered, its end read as the caller's state; the frame's own laying-down is handed on beside -/
theorem code_raw {env : Env} {outer : List Env} {R : Result → Shared → Prop} {name qual : Str} {params : Arguments} {body : List Stmt} {scope : Scope} {dV kV doc pm cdv ct oc : Value} {an od : Option Addr} {osl : Array (Option Value)} {f : Addr} {args : Args} {binds : List (Str × Value)}
    (B : Below A₀ base outer h₀) (F : Fr h₀ L s.heap m) (X₀ : K.In h₀) (N : News h₀ L s.heap news) (T : Top p loose mean mg mb h₀) (hA : A.frames = some (env :: outer)) (hf : env.frame = some L) (hke : env.scope.kind = .function)
    (ho : K.lookup f = some ⟨oc, od, .func (fnOf name qual params body scope dV kV doc pm an cdv ct), osl⟩) (hcd : codeIn K cdv qual = true) (hroom : A.depth < recursionLimit)
    (hbind : BindsTo s (fnOf name qual params body scope dV kV doc pm an cdv ct) args binds) (hloc : ∀ y ∈ binds, scope.names.lookup y.1 = some .local)
    (h : ∀ g L' h₁, Fr h₀ L g m → Fr g L' h₁ (fun y => binds.reverse.lookup y) → News g L' h₁ news → Below A base (env :: outer) g → K.In g → Top p loose mean mg mb g → h₀.StaysIn g → (∀ v s', LeaveK h₀ L m g R v s' → R (.ok (.ret v)) s') →
      wpAny (model prog w) (A.deeper (envOf qual scope L' f cdv)) (execs body (envOf qual scope L' f cdv))
        (fun fl s' => R (.ok (.ret (match fl with | .ret v => v | _ => .none))) s')
        (fun e s' => wpAny (model prog w) (A.deeper (envOf qual scope L' f cdv)) (leaving (envOf qual scope L' f cdv) e) (fun _ s'' => R (.error e) s'') (fun e' s'' => R (.error e') s'') s')
        { s with heap := h₁, toks := s.toks + binds.length })
    (hco : scope.isCoroutine = false) (hgen : scope.isGenerator = false) (hk : scope.kind = .function)
    (hcell : ∀ x ∈ scope.names, x.2 ≠ .cell) : codeAny (model prog w) A (.call (.ref f) args) R s := by
  obtain ⟨FG, BG, st, lv⟩ := groundX (R := R) B F N hA hf hke
  refine codeAny_call_def (fd := fnX name qual params body scope [] dV kV doc pm an cdv ct) (body := body) (binds := binds) hroom ((X₀.keeps F.keep) _ _ ho) rfl (T.nolimit.keeps F.keep) (codeRec_of (X₀.keeps F.keep) hcd) rfl hbind hcell hloc (fun h₁ hns hk₁ => ?_) hco hgen hk
  exact h _ s.heap.objs.size h₁ FG ⟨hns, fun b o e => hk₁ b o (of_hideAll _ e), Nat.le_of_eq (hideAll_size _ _)⟩
    (fun q hq => ⟨hk₁ _ _ (N q hq).1, Nat.ne_of_lt (Heap.lt_size (N q hq).1), hideAll_none _ (List.mem_map_of_mem hq)⟩) BG (X₀.keeps st) (T.keeps st) st lv
end
theorem fr_down {h₀ g h : Heap} {L L' : Addr} {m m' : Str → Option Value} (F : Fr h₀ L g m) (F' : Fr g L' h m') : Fr h₀ L' h m' :=
  ⟨F'.ns, fun b o e => F'.keep b o (F.keep b o e), Nat.le_trans F.above (Nat.le_trans (Nat.le_of_lt F.ns.lt) F'.above)⟩
local macro_rules | `(tactic| walk_at "call ref") => `(tactic| (refine hold ?_))
set_option maxRecDepth 100000 in
set_option maxHeartbeats 8000000 in
theorem told_call {w : World} {A₀ A : Around} {env : Env} {outer : List Env} {h₀ : Heap} {p : Program} {loose : List Str} {mean : ExcName → Option Value} {mg mb : Str → Option Value}
    {L fr sc cl pl : Addr} {m : Str → Option Value} {news : List (Addr × Obj)} {S : List (Int × Int)} {P : List Int} {pvs : List Value} {pk : Nat} {E : Value → Shared → Prop} {s : Shared} {Q : Value → Shared → Prop}
    (B : Below A₀ h₀ outer h₀) (F : Fr h₀ L s.heap m) (KX : (hd.heap_39 w.params).In h₀) (N : News h₀ L s.heap news)
    (T : Top p loose mean mg mb h₀) (hA : A.frames = some (env :: outer)) (hf : env.frame = some L) (hke : env.scope.kind = .function) (hroom : A.depth + 5 < recursionLimit) (hh : A.handled = none)
    (a1 : AttrAt news fr 155 "components" (.ref cl)) (a2 : CompsAre news cl S) (a3 : AttrAt news sc 190 "places" (.ref pl)) (a4 : BareOf news sc 190 "is_alone") (a5 : (pl, listOf pvs.toArray pk) ∈ news) (a6 : IntsAre pvs P)
    (b1 : Small S) (b4 : S.length ≤ 5) (b2 : P.length ≤ 100)
    (h : ∀ (b : Bool) (tk : Nat) (h' : Heap), (b = true ↔ Good S P) → Fr h₀ L h' m → News h₀ L h' news → Q (.bool b) { s with heap := h', toks := tk }) :
    wpAny (model PySem.Challenge.rw_xm0817_01.row.prog w) A (call (.ref 215) [.ref fr, .ref sc] []) Q E s := by
  w_top off
  revert KX; k_fill; intro KX
  refine wpAny_call ?_
  refine' code_raw B F KX N T hA hf hke ?k6 ?k7 ?k8 ?k9 ?kB ?_ ?c2 ?c3 ?c4 ?c5
  case k6 => k_is
  case k7 => k_is
  case k8 => omega
  case k9 => exact BindsTo.of_eq rfl
  case kB => exact locs rfl
  case c2 => rfl
  case c3 => rfl
  case c4 => rfl
  case c5 => decide
  intro g L' h' FG' F' N' B' X' T' st lv
  dsimp only
  k_steps
  unfold Hold
  k_dflt (refine' wpAny_call (check_call ?k1 ?k2 ?k3 ?k4 ?k5 ?kA ?kF ?kK ?k8 ?hh ?a1 ?a2 ?a3 ?a4 ?a5 ?a6 ?b1 ?b4 ?b2 ?o1 ?o2); (case k1 => k_asm); (case kA => exact Around.frames_deeper (Below.stack (by assumption))); (case kF | kK => exact rfl); (case k2 | k3 => k_asm); (case k4 | k5 => k_asm); (case k8 => k_room); (case hh => assumption); (case a1 => k_mem); (case a2 => assumption); (case a3 | a4 | a5 => k_mem); (case a6 | b1 | b4 => assumption); (case b2 => omega); (case' o1 => (intro hG' tk' h' F' N')); (case' o2 => (intro hG' e' tk' g' h' F' U' R')))
  all_goals k_steps
  · rename ¬ Good S P => hG
    rename Heap.UpToSlots _ _ => U2
    rename RaisedN _ _ _ _ _ _ => R2
    rename Fr g L' _ _ => F2
    have F3 := fr_down FG' F2
    refine caught_err hA F3 U2 R2 KX (topRead_of T) (by k_is) (by k_is) (by rfl) ?_
    intro h4 F4 N4 U4
    k_steps
    refine h false _ _ ⟨fun z => (Bool.false_ne_true z).elim, fun z => (hG z).elim⟩ ⟨U4.ns (FG'.ns.keeps F2.keep), F4.keep, F.above⟩ fun q hq => ⟨(N4 q hq).1, (N q hq).2.1, (N4 q hq).2.2⟩
  · rename Good S P => hG
    exact lv (.bool true) _ ⟨_, _, _, by assumption, by assumption, fun F2 N2 => h true _ _ ⟨fun _ => hG, fun _ => rfl⟩ F2 N2⟩
end
section
theorem voice_callF {w : World} {A₀ A : Around} {env : Env} {outer : List Env} {base h₀ : Heap} {p : Program} {loose : List Str} {mean : ExcName → Option Value} {mg mb : Str → Option Value}
    {L c : Addr} {m : Str → Option Value} {news : List (Addr × Obj)} {gn : Obj → List (Addr × Obj)} {c0 c1 many : Int} {t0 t1 tm n0 : Nat} {E : Value → Shared → Prop} {s : Shared} {Q : Value → Shared → Prop}
    (B : Below A₀ base outer h₀) (F : Fr h₀ L s.heap m) (KX : (hd.heap_39 w.params).In h₀) (N : News h₀ L s.heap news) (U : UpdF c (listOf #[.int c0 t0, .int c1 t1] n0) news gn)
    (T : Top p loose mean mg mb h₀) (hA : A.frames = some (env :: outer)) (hf : env.frame = some L) (hke : env.scope.kind = .function) (hroom : A.depth < recursionLimit)
    (h0 : 0 ≤ c0) (h1 : 0 ≤ c1) (h1' : c1 < 1000000) (hm : 1 < many) (hm' : many < 9)
    (h : ∀ (r c0' c1' : Int) (tr t0' t1' n0' tk : Nat) (h' : Heap), 0 ≤ r → r < many → 0 ≤ c0' → 0 ≤ c1' → c1' < 1000000 → Fr h₀ L h' m → News h₀ L h' (gn (listOf #[.int c0' t0', .int c1' t1'] n0')) →
      Q (.int r tr) { s with heap := h', toks := tk }) :
    wpAny (model PySem.Challenge.rw_xm0817_01.row.prog w) A (call (.ref 208) [.ref c, .int many tm] []) Q E s := by
  obtain ⟨pre, post, rfl, hg, o1, o2⟩ := U.split
  refine voice_call (rest := pre ++ post) (t0 := t0) (t1 := t1) (n0 := n0) B F KX (fun q hq => ?_) T hA hf hke hroom (fun q hq => ?_) h0 h1 h1' hm hm' fun r c0' c1' tr t0' t1' n0' tk h' r1 r2 r3 r4 r5 F' N' => h r c0' c1' tr t0' t1' n0' tk h' r1 r2 r3 r4 r5 F' ?_
  · rcases List.mem_cons.mp hq with rfl | hq
    · exact N _ (List.mem_append_right _ (.head _))
    · rcases List.mem_append.mp hq with hq | hq
      · exact N _ (List.mem_append_left _ hq)
      · exact N _ (List.mem_append_right _ (.tail _ hq))
  · rcases List.mem_append.mp hq with hq | hq
    · exact o1 q hq
    · exact o2 q hq
  · intro q hq
    rw [hg] at hq
    rcases List.mem_append.mp hq with hq | hq
    · exact N' q (.tail _ (List.mem_append_left _ hq))
    · rcases List.mem_cons.mp hq with rfl | hq
      · exact N' _ (.head _)
      · exact N' q (.tail _ (List.mem_append_right _ hq))
end
section
theorem choir_lo (x : Int) : 0 ≤ (x.fmod 999359 * 97).fmod 65129 + 149 := by
  have : 0 ≤ (x.fmod 999359 * 97).fmod 65129 := by rw [Int.fmod_eq_emod_of_nonneg _ (by decide)]; exact Int.emod_nonneg _ (by decide)
  omega
theorem choir_hi (x : Int) : (x.fmod 999359 * 97).fmod 65129 + 149 < 1000000 := by
  have : (x.fmod 999359 * 97).fmod 65129 < 65129 := fm_hi (by decide)
  omega
theorem len_base {prog : Program} {w : World} {A : Around} {E : Value → Shared → Prop} {s : Shared} {h₀ : Heap} {L l : Addr} {m : Str → Option Value} {vs : List Value} {ns : List Int} {Q : Value → Shared → Prop}
    (F : Fr h₀ L s.heap m) (hl : h₀.IsList l vs.toArray) (hi : IntsAre vs ns) (hz : ns.length ≤ 100) (h : Q (.int ns.length (s.toks + 1)) { s with toks := s.toks + 1 + 1 }) :
    wpAny (model prog w) A (call (.builtin "len") [.ref l]) Q E s := by
  have e : vs.toArray.size = ns.length := by rw [List.size_toArray]; exact hi.length
  exact len_list (stays_list F.keep hl) (by rw [e]; omega) (by rw [e]; exact h)
local macro_rules | `(tactic| walk_at "call builtin:len") => `(tactic| (refine hold ?_))
local macro_rules | `(tactic| walk_at "newList") => `(tactic| (k_here; k_dflt (refine' newList_K (hsz := Nat.le_of_ble_eq_true rfl) ?k1 ?k2 ?_; (case k1 | k2 => k_asm); k_whole); intro l' h' F' N' l1; (try k_sweep)))
set_option maxRecDepth 100000 in
set_option maxHeartbeats 8000000 in
theorem choir_call {w : World} {A₀ A : Around} {env : Env} {outer : List Env} {base h₀ : Heap} {p : Program} {loose : List Str} {mean : ExcName → Option Value} {mg mb : Str → Option Value}
    {L sl : Addr} {m : Str → Option Value} {news : List (Addr × Obj)} {vs : List Value} {ns : List Int} {E : Value → Shared → Prop} {s : Shared} {Q : Value → Shared → Prop}
    (B : Below A₀ base outer h₀) (F : Fr h₀ L s.heap m) (KX : (hd.heap_39 w.params).In h₀) (N : News h₀ L s.heap news)
    (T : Top p loose mean mg mb h₀) (hA : A.frames = some (env :: outer)) (hf : env.frame = some L) (hke : env.scope.kind = .function) (hroom : A.depth < recursionLimit) (hh : A.handled = none)
    (hl : base.IsList sl vs.toArray) (hi : IntsAre vs ns) (hn : ns.length ≤ 63)
    (h : ∀ (c0 c1 : Int) (c t0 t1 n0 tk : Nat) (h' : Heap), 0 ≤ c0 → 0 ≤ c1 → c1 < 1000000 → Fr h₀ L h' m → News h₀ L h' ((c, listOf #[.int c0 t0, .int c1 t1] n0) :: news) → (∀ q ∈ news, q.1 < c) →
      Q (.ref c) { s with heap := h', toks := tk }) :
    wpAny (model PySem.Challenge.rw_xm0817_01.row.prog w) A (call (.ref 201) [.ref sl] []) Q E s := by
  w_top off
  revert KX; k_fill; intro KX
  refine wpAny_call ?_
  refine' code_def B F KX N T hA hf hke ?k6 ?k7 ?k8 ?k9 ?kB ?_ ?c2 ?c3 ?c4 ?c5
  case k6 => k_is
  case k7 => k_is
  case k8 => exact hroom
  case k9 => exact BindsTo.of_eq rfl
  case kB => exact locs rfl
  case c2 => rfl
  case c3 => rfl
  case c4 => rfl
  case c5 => decide
  intro g L' h' FG' F' N' B' X' T'
  dsimp only
  have hlg : g.IsList sl vs.toArray := stays_list B'.stays hl
  k_steps
  unfold Hold
  k_dflt (refine' len_base ?k1 ?k2 ?k3 ?k4 ?_; (case k1 => k_asm); (case k2 | k3 => with_reducible assumption); (case k4 => omega); k_whole)
  k_steps
  all_goals (refine h _ _ _ _ _ _ _ _ ?_ (choir_lo _) (choir_hi _) (by assumption) (by assumption) (by assumption))
  all_goals omega
end
section
set_option maxRecDepth 100000 in
set_option maxHeartbeats 8000000 in
theorem scan_call {w : World} {A₀ A : Around} {env : Env} {outer : List Env} {base h₀ : Heap} {p : Program} {loose : List Str} {mean : ExcName → Option Value} {mg mb : Str → Option Value}
    {L a1 a2 a3 : Addr} {t1 t2 t3 t4 : Tok} {m : Str → Option Value} {news : List (Addr × Obj)} {E : Value → Shared → Prop} {s : Shared} {Q : Value → Shared → Prop}
    (B : Below A₀ base outer h₀) (F : Fr h₀ L s.heap m) (KX : (hd.heap_39 w.params).In h₀) (N : News h₀ L s.heap news)
    (T : Top p loose mean mg mb h₀) (hA : A.frames = some (env :: outer)) (hf : env.frame = some L) (hke : env.scope.kind = .function) (hroom : A.depth + 5 < recursionLimit) (hh : A.handled = none)
    (h : ∀ x dx es n h' tk, Fr h₀ L h' m → News h₀ L h' ((x, instObj 190 dx) :: (dx, dictOf es n) :: news) → getL "places" es = some (some (.ref a1)) → getL "is_alone" es = some none → Q (.ref x) { s with heap := h', toks := tk }) :
    wpAny (model PySem.Challenge.rw_xm0817_01.row.prog w) A (call (.ref 190) [.ref a1, .ref a2, .ref a3, .int 0 t1, .int 3 t2, .int 0 t3, .int 0 t4]) Q E s := by
  w_top off
  revert KX; k_fill; intro KX
  k_steps
  exact h _ _ _ _ _ _ (by assumption) (by assumption) rfl rfl
end
section
local macro_rules | `(tactic| walk_at "no such key") => `(tactic| fail "no such key")
set_option maxRecDepth 100000 in
set_option maxHeartbeats 8000000 in
theorem component_call {w : World} {A₀ A : Around} {env : Env} {outer : List Env} {base h₀ : Heap} {p : Program} {loose : List Str} {mean : ExcName → Option Value} {mg mb : Str → Option Value}
    {L : Addr} {k x y z : Int} {t1 t2 t3 t4 : Tok} {m : Str → Option Value} {news : List (Addr × Obj)} {E : Value → Shared → Prop} {s : Shared} {Q : Value → Shared → Prop}
    (B : Below A₀ base outer h₀) (F : Fr h₀ L s.heap m) (KX : (hd.heap_39 w.params).In h₀) (N : News h₀ L s.heap news)
    (T : Top p loose mean mg mb h₀) (hA : A.frames = some (env :: outer)) (hf : env.frame = some L) (hke : env.scope.kind = .function) (hroom : A.depth + 5 < recursionLimit) (hh : A.handled = none)
    (h : ∀ c dx es n h' tk, Fr h₀ L h' m → News h₀ L h' ((c, instObj 89 dx) :: (dx, dictOf es n) :: news) → (∀ q ∈ news, q.1 < c) → (∀ q ∈ news, q.1 < dx) → getL "across" es = some (some (.int x t2)) → getL "down" es = some (some (.int y t3)) → Q (.ref c) { s with heap := h', toks := tk }) :
    wpAny (model PySem.Challenge.rw_xm0817_01.row.prog w) A (call (.ref 89) [.int k t1, .int x t2, .int y t3, .int z t4]) Q E s := by
  w_top off
  revert KX; k_fill; intro KX
  k_steps
  rename ∀ (p : Addr × Obj), p ∈ news → p.1 < _ => l1
  rename _ < _ => l2
  exact h _ _ _ _ _ _ (by assumption) (by assumption) (fun q hq => Nat.lt_trans (l1 q hq) l2) l1 rfl rfl
local macro_rules | `(tactic| walk_at "no such key") => `(tactic| fail "no such key")
set_option maxRecDepth 100000 in
set_option maxHeartbeats 8000000 in
theorem frame_call {w : World} {A₀ A : Around} {env : Env} {outer : List Env} {base h₀ : Heap} {p : Program} {loose : List Str} {mean : ExcName → Option Value} {mg mb : Str → Option Value}
    {L cl : Addr} {kk : Str} {x y z v : Int} {t0 t1 t2 t3 t4 : Tok} {m : Str → Option Value} {news : List (Addr × Obj)} {E : Value → Shared → Prop} {s : Shared} {Q : Value → Shared → Prop}
    (B : Below A₀ base outer h₀) (F : Fr h₀ L s.heap m) (KX : (hd.heap_39 w.params).In h₀) (N : News h₀ L s.heap news)
    (T : Top p loose mean mg mb h₀) (hA : A.frames = some (env :: outer)) (hf : env.frame = some L) (hke : env.scope.kind = .function) (hroom : A.depth + 5 < recursionLimit) (hh : A.handled = none)
    (h : ∀ c dx es n h' tk, Fr h₀ L h' m → News h₀ L h' ((c, instObj 155 dx) :: (dx, dictOf es n) :: news) → (∀ q ∈ news, q.1 < c) → (∀ q ∈ news, q.1 < dx) → getL "components" es = some (some (.ref cl)) → Q (.ref c) { s with heap := h', toks := tk }) :
    wpAny (model PySem.Challenge.rw_xm0817_01.row.prog w) A (call (.ref 155) [.str kk t0, .int x t1, .int y t2, .int z t3, .ref cl, .int v t4]) Q E s := by
  w_top off
  revert KX; k_fill; intro KX
  k_steps
  rename ∀ (p : Addr × Obj), p ∈ news → p.1 < _ => l1
  rename _ < _ => l2
  exact h _ _ _ _ _ _ (by assumption) (by assumption) (fun q hq => Nat.lt_trans (l1 q hq) l2) l1 rfl
end
local macro_rules | `(tactic| walk_at "own voice") => `(tactic| (k_here; (with_reducible show wpAny _ _ (call (Value.ref 208) [Value.ref _, Value.int _ _] _) _ _ _); k_dflt (refine' voice_callF ?k1 ?k2 ?k3 ?k4 ?kU ?k5 ?kA ?kF ?kK ?k8 ?h0 ?h1 ?h2 ?hm ?hm2 ?_; (case k1 => k_asm); (case kA => exact Around.frames_deeper (Below.stack (by assumption))); (case kF | kK => exact rfl); (case k2 | k3 | k4 => k_asm); (case kU => k_updF); (case k5 => k_asm); (case k8 => k_room); (case h0 | h1 | h2 => omega); (case hm | hm2 => decide); k_whole); intro r' c0' c1' tr' t0' t1' n0' tk' h' r1' r2' r3' r4' r5' F' N'; (try dsimp only at N'); (try k_sweep)))
local macro_rules | `(tactic| walk_at "own tup") => `(tactic| (k_here; (with_reducible show wpAny _ _ (subscriptTail _ _ (Value.ref _) (Value.int _ _)) _ _ _); k_dflt (refine' item_tupleT ?t ?a ?b ?c ?d ?_; (case t => exact News.isTup (by k_asm) (by k_mem)); (case a | b => decide); (case c | d => rfl); k_whole)))
local macro_rules | `(tactic| walk_at "own item") => `(tactic| (k_here; (with_reducible show wpAny _ _ (subscriptTail _ _ (Value.ref _) (Value.int _ _)) _ _ _); k_dflt (refine' item_at ?k1 ?k2 ?k3 ?k4 ?k5 ?_ ?k6; (case k1 => k_asm); (case k2 => k_mem); (case k3 | k4 => omega); (case k5 => with_reducible assumption); (case k6 => with_unfolding_all rfl); k_whole)))
section
/-- all stands that does not lie at one of these addresses -/
def Keeps (X : List Addr) (h h' : Heap) : Prop := ∀ b o, b ∉ X → h.get? b = some o → h'.get? b = some o
theorem Keeps.rfl' {X : List Addr} {h : Heap} : Keeps X h h := fun _ _ _ e => e
theorem Keeps.tr {X : List Addr} {h h' h'' : Heap} (a : Keeps X h h') (b : Keeps X h' h'') : Keeps X h h'' := fun c o n e => b c o n (a c o n e)
theorem Keeps.up {X Y : List Addr} {h h' : Heap} (a : Keeps X h h') (s : ∀ b ∈ X, b ∈ Y) : Keeps Y h h' := fun b o n e => a b o (fun m => n (s b m)) e
theorem Keeps.same {a : Addr} {h h' : Heap} (s : Heap.SameBut a h h') : Keeps [a] h h' := fun b _ n e => (s.2 b (fun q => n (q ▸ .head _))).trans e
/-- an address that is none of the frame's, the base's or the ledger's -/
structure Seat (h₀ : Heap) (L : Addr) (news : List (Addr × Obj)) (a : Addr) : Prop where
  frame : a ≠ L
  base : h₀.get? a = none
  led : ∀ p ∈ news, p.1 ≠ a
/-- a comprehension under way: its own names at C, its list at D -/
structure CS (h₀ : Heap) (L : Addr) (m : Str → Option Value) (news : List (Addr × Obj)) (C D : Addr) (h : Heap) (m₂ : Str → Option Value) (k : Nat) : Prop where
  fr : Fr h₀ L h m
  nw : News h₀ L h news
  ns : h.Ns C m₂
  acc : ∃ ys : List Value, h.get? D = some (LCg.lst ys) ∧ ys.length = k
section
variable {h₀ h h' : Heap} {L C D a : Addr} {m m₂ : Str → Option Value} {news : List (Addr × Obj)} {k : Nat}
theorem CS.keeps (x : CS h₀ L m news C D h m₂ k) (K : Keeps [a] h h') (s : Seat h₀ L news a) (hC : a ≠ C) (hD : a ≠ D) : CS h₀ L m news C D h' m₂ k where
  fr := LCg.fr_but x.fr K (Ne.symm s.frame) s.base
  nw := LCg.news_but x.nw K s.led
  ns := x.ns.at' fun o e => K C o (fun q => hC (List.mem_singleton.mp q).symm) e
  acc := let ⟨ys, e, n⟩ := x.acc; ⟨ys, K D _ (fun q => hD (List.mem_singleton.mp q).symm) e, n⟩
theorem CS.bind {m₃ : Str → Option Value} (x : CS h₀ L m news C D h m₂ k) (s : Heap.SameBut C h h') (hn : h'.Ns C m₃) (t : Seat h₀ L news C) (hD : C ≠ D) : CS h₀ L m news C D h' m₃ k where
  fr := LCg.fr_but x.fr (Keeps.same s) (Ne.symm t.frame) t.base
  nw := LCg.news_but x.nw (Keeps.same s) t.led
  ns := hn
  acc := let ⟨ys, e, n⟩ := x.acc; ⟨ys, Keeps.same s D _ (fun q => hD (List.mem_singleton.mp q).symm) e, n⟩
theorem CS.push {ys : List Value} (x : CS h₀ L m news C D h m₂ k) (s : Heap.SameBut D h h') (t : Seat h₀ L news D) (hC : C ≠ D) (e : h'.get? D = some (LCg.lst ys)) : CS h₀ L m news C D h' m₂ ys.length where
  fr := LCg.fr_but x.fr (Keeps.same s) (Ne.symm t.frame) t.base
  nw := LCg.news_but x.nw (Keeps.same s) t.led
  ns := x.ns.at' fun o q => Keeps.same s C o (fun z => hC (List.mem_singleton.mp z)) q
  acc := ⟨ys, e, rfl⟩
theorem CS.grown (x : CS h₀ L m news C D h m₂ k) (K : ∀ b o, h.get? b = some o → h'.get? b = some o) : CS h₀ L m news C D h' m₂ k where
  fr := x.fr.keeps K
  nw := x.nw.grown K
  ns := x.ns.at' fun o e => K C o e
  acc := let ⟨ys, e, n⟩ := x.acc; ⟨ys, K D _ e, n⟩
end
noncomputable def tot (cnt : Nat → Nat) : Nat → Nat
  | 0 => 0
  | i + 1 => tot cnt i + cnt i
def upd (x : Str) (v : Value) (m : Str → Option Value) : Str → Option Value := fun y => if y = x then some v else m y
section
variable {prog : Program} {w : World} {A : Around} {s : Shared} {h₀ : Heap} {L C D It : Addr} {m : Str → Option Value} {news : List (Addr × Obj)} {R : Result → Shared → Prop}
/-- one clause's loop: what a turn adds to the list's length, added up -/
theorem comp_level {elt : Expr} {gens : List Comprehension} {scope : Scope} {pos : Pos} {d : Nat} {x : Str} {px : Pos} {cenv : Env} {rest : Sem Fin} {p : Pos} {n : Nat} {P : Nat → Value → Prop} {St : Nat → Heap → Prop} {fp : List Addr}
    (V : (Str → Option Value) → Prop) (Out : Heap → Prop) (cnt : Nat → Nat) (m₀ : Str → Option Value) (k₀ : Nat)
    (hturn : compTurn (.ListComp elt gens scope pos) d (.ref It) (.ref D) cenv = (standAt p >>= fun _ => pyNext (.ref It) >>= fun r => match r with
      | none => pure (.done .next)
      | some v => letOwnedTupleGo (.Name x px) (.ref It) v >>= fun _ => assign (.Name x px) cenv v >>= fun _ => rest))
    (hlc : cenv.locals = C) (hx : cenv.kindOf x = some .local) (hp : (cenv.scope.kind == .class || (cenv.scope.kind == .module && cenv.locals != cenv.globals)) = false)
    (W : Walks prog w A It fp [It] n P St) (hfp : ∀ b ∈ fp, b ≠ C) (sC : Seat h₀ L news C) (sI : Seat h₀ L news It) (hCD : C ≠ D) (hIC : It ≠ C) (hID : It ≠ D)
    (hV : ∀ m₂ v, V m₂ → V (upd x v m₂)) (hO : ∀ h h', Keeps [C, It] h h' → Out h → Out h') (v0 : V m₀) (o0 : Out s.heap) (c0 : CS h₀ L m news C D s.heap m₀ k₀) (st0 : St 0 s.heap)
    (hinner : ∀ i v h tk m₂ (E' : Value → Shared → Prop), i < n → P i v → m₂ x = some v → V m₂ → Out h → St (i + 1) h → CS h₀ L m news C D h m₂ (k₀ + tot cnt i) →
      wpAny (model prog w) A rest (fun fin s' => fin = .again (.compLoop (.ListComp elt gens scope pos) d (.ref It) (.ref D) cenv) ∧ ∃ h' tk' m₃, s' = { s with heap := h', toks := tk' } ∧ St (i + 1) h' ∧ Out h' ∧ CS h₀ L m news C D h' m₃ (k₀ + tot cnt i + cnt i) ∧ V m₃) E' { s with heap := h, toks := tk })
    (fin : ∀ h' tk m₃, Out h' → CS h₀ L m news C D h' m₃ (k₀ + tot cnt n) → V m₃ → R (.ok .next) { s with heap := h', toks := tk }) :
    codeAny (model prog w) A (.compLoop (.ListComp elt gens scope pos) d (.ref It) (.ref D) cenv) R s := by
  subst hlc
  refine codeAny_loop rfl (fun k s' => ∃ i h tk m₂, s' = { s with heap := h, toks := tk } ∧ i ≤ n ∧ k = n - i ∧ St i h ∧ CS h₀ L m news cenv.locals D h m₂ (k₀ + tot cnt i) ∧ V m₂ ∧ Out h) ?_ n
    ⟨0, s.heap, s.toks, m₀, rfl, Nat.zero_le _, rfl, st0, c0, v0, o0⟩
  rintro k s' ⟨i, h, tk, m₂, rfl, hi, rfl, hst, hcs, hv, ho⟩
  show wpAny _ _ ((compTurn (.ListComp elt gens scope pos) d (.ref It) (.ref D) cenv).onRaise (fun x => do noteFrame x cenv; theTreesLotGoes x)) _ _ _
  refine wpAny_noted ?_
  rw [hturn]
  refine wpAny_bind (wpAny_standAt (wpAny_bind ?_))
  have kI : ∀ {h h' : Heap}, (∀ b o, b ∉ [It] → h.get? b = some o → h'.get? b = some o) → Keeps [cenv.locals, It] h h' := fun q => Keeps.up (X := [It]) q (by intro b hb; rw [List.mem_singleton.mp hb]; exact .tail _ (.head _))
  by_cases hlt : i < n
  · refine W.item i _ _ _ hlt hst fun v h₂ tk₂ hPv hst₂ hk₂ => ?_
    have cs₂ := hcs.keeps hk₂ sI hIC hID
    refine wpAny_bind (wpAny_of_eq (show letOwnedTupleGo (.Name x px) (.ref It) v = pure () from rfl) (wpAny_bind (wpAny_assign_Name (wpAny_storeName_local hx cs₂.ns (fun h₃ hn₃ hs₃ => ?_) hp))))
    have cs₃ := cs₂.bind hs₃ hn₃ sC hCD
    have st₃ : St (i + 1) h₃ := W.frame _ _ _ hst₂ fun b hb o e => Keeps.same hs₃ b o (fun z => hfp b hb (List.mem_singleton.mp z)) e
    have o₃ : Out h₃ := hO _ _ ((kI hk₂).tr ((Keeps.same hs₃).up (by intro b hb; rw [List.mem_singleton.mp hb]; exact .head _))) ho
    refine wpAny_mono (hinner i v h₃ _ (upd x v m₂) _ hlt hPv (if_pos rfl) (hV _ v hv) o₃ st₃ cs₃) (fun fin s₄ z => ?_) fun _ _ z => z
    obtain ⟨rfl, h₄, tk₄, m₃, rfl, st₄, o₄, cs₄, hv₄⟩ := z
    refine ⟨rfl, n - (i + 1), by omega, i + 1, h₄, tk₄, m₃, rfl, hlt, rfl, st₄, ?_, hv₄, o₄⟩
    rw [show k₀ + tot cnt (i + 1) = k₀ + tot cnt i + cnt i from (Nat.add_assoc _ _ _).symm]; exact cs₄
  · obtain rfl : i = n := Nat.le_antisymm hi (Nat.not_lt.mp hlt)
    refine W.done _ _ _ hst fun h₂ tk₂ hk₂ => wpAny_pure ?_
    exact fin h₂ tk₂ m₂ (hO _ _ (kI hk₂) ho) (hcs.keeps hk₂ sI hIC hID) hv
/-- the start of a clause's loop -/
theorem comp_start {elt : Expr} {gens : List Comprehension} {scope : Scope} {pos : Pos} {d : Nat} {cenv : Env} {g : Comprehension} (hg : gens[d]? = some g) (hga : g.is_async = 0)
    (h0 : codeAny (model prog w) A (.compLoop (.ListComp elt gens scope pos) d (.ref It) (.ref D) cenv) R s)
    (hs : ∀ (Q : Value → Shared → Prop) (E : Value → Shared → Prop), Q (.ref It) s → wpAny (model prog w) A (pyIter (.ref It)) Q E s) :
    codeAny (model prog w) A (.compStart (.ListComp elt gens scope pos) d (.ref It) (.ref D) cenv) R s := by
  refine codeAny_of_tree ?_
  show wpAny _ _ ((compStart (.ListComp elt gens scope pos) d (.ref It) (.ref D) cenv).onRaise (fun x => do noteFrame x cenv; standAt theWindowsPlace)) _ _ s
  refine wpAny_notedAt ?_
  have e1 : (clausesOf (.ListComp elt gens scope pos))[d]? = some g := hg
  unfold compStart
  rw [e1]
  simp only [Option.elim, hga, bne_self_eq_false, Bool.false_eq_true, if_false]
  refine wpAny_bind (wpAny_askSetting (wpAny_ite ?_))
  split
  · exact wpAny_bind (wpAny_pure (wpAny_pure (And.intro rfl h0)))
  · refine wpAny_bind (wpAny_rule (wpAny_bind (wpAny_standAt (wpAny_bind (hs _ _ (wpAny_pure (And.intro rfl h0))))))) 
section
variable (elt : Expr) (x y z : Str) (px py pz : Pos) (it0 it1 it2 : Expr) (scope : Scope) (pos : Pos) (it acc : Value) (env : Env)
abbrev gens3 : List Comprehension := [⟨.Name x px, it0, [], 0⟩, ⟨.Name y py, it1, [], 0⟩, ⟨.Name z pz, it2, [], 0⟩]
abbrev lc3 : Expr := .ListComp elt (gens3 x y z px py pz it0 it1 it2) scope pos
/-- what a turn does that has a clause within it -/
def downTo (e : Expr) (d : Nat) (iter : Expr) (it acc : Value) (env : Env) : Sem Fin :=
  eval iter env >>= fun xv => standAt iter.pos >>= fun _ => foldedSetIterable iter env xv >>= fun xv => holding [xv] (pyIter xv) >>= fun it' => runOwn (.compStart e (d + 1) it' acc env) env >>= fun _ => again (.compLoop e d it acc env)
theorem turn3_0 : compTurn (lc3 elt x y z px py pz it0 it1 it2 scope pos) 0 it acc env = (standAt it0.pos >>= fun _ => pyNext it >>= fun v => match v with
      | none => pure (.done .next)
      | some v => letOwnedTupleGo (.Name x px) it v >>= fun _ => assign (.Name x px) env v >>= fun _ => downTo (lc3 elt x y z px py pz it0 it1 it2 scope pos) 0 it1 it acc env) := by rfl
theorem turn3_1 : compTurn (lc3 elt x y z px py pz it0 it1 it2 scope pos) 1 it acc env = (standAt it1.pos >>= fun _ => pyNext it >>= fun v => match v with
      | none => pure (.done .next)
      | some v => letOwnedTupleGo (.Name y py) it v >>= fun _ => assign (.Name y py) env v >>= fun _ => downTo (lc3 elt x y z px py pz it0 it1 it2 scope pos) 1 it2 it acc env) := by rfl
theorem turn3_2 : compTurn (lc3 elt x y z px py pz it0 it1 it2 scope pos) 2 it acc env = (standAt it2.pos >>= fun _ => pyNext it >>= fun v => match v with
      | none => pure (.done .next)
      | some v => letOwnedTupleGo (.Name z pz) it v >>= fun _ => assign (.Name z pz) env v >>= fun _ =>
        ((eval elt env >>= fun xv => call (.builtin "list.append") [acc, xv] >>= fun _ => pure ()) >>= fun _ => again (.compLoop (lc3 elt x y z px py pz it0 it1 it2 scope pos) 2 it acc env))) := by rfl
end
end
end
section
def RangeOut (h₀ : Heap) (L : Addr) (m : Str → Option Value) (led : List (Addr × Obj)) (s₁ : Shared) (k : Nat) (xv : Value) (s' : Shared) : Prop :=
  ∃ h' tk' r t u v, s' = { s₁ with heap := h', toks := tk' } ∧ xv = .ref r ∧ Fr h₀ L h' m ∧ News h₀ L h' led ∧ IsRange h' r 0 (k : Int) 1 t u v
theorem RangeOut.intro {h₀ h' : Heap} {L r : Addr} {m : Str → Option Value} {led all : List (Addr × Obj)} {s₁ : Shared} {k : Nat} {tk' t u v : Tok} {b : Int} (F : Fr h₀ L h' m) (N : News h₀ L h' all) (sub : ∀ p ∈ led, p ∈ all) (R : IsRange h' r 0 b 1 t u v) (e : b = k) :
    RangeOut h₀ L m led s₁ k (.ref r) { s₁ with heap := h', toks := tk' } := ⟨h', tk', r, t, u, v, rfl, rfl, F, fun p hp => N p (sub p hp), e ▸ R⟩
section
variable (prog : Program) (w : World) (A : Around) (h₀ : Heap) (L : Addr) (m : Str → Option Value) (env : Env) (scope : Scope) (cl : List (Str × Addr))
def Iter3 (news : List (Addr × Obj)) (x : Str) (s : Shared) (it : Expr) (k : Int → Nat) (P : List Int) : Prop := ∀ p ∈ P, ∀ (own : List (Addr × Obj)) (C : Addr) (oC : Obj) (D : Addr) (ys : List Value) (m₂ : Str → Option Value) (h : Heap) (tk t : Tok) (E' : Value → Shared → Prop),
  LCg.NsObj oC m₂ → m₂ x = some (.int p t) → Fr h₀ L h m → News h₀ L h ((C, oC) :: (D, LCg.lst ys) :: (news ++ own)) →
    wpAny (model prog w) A (eval it (compEnvC scope cl C env)) (RangeOut h₀ L m ((C, oC) :: (D, LCg.lst ys) :: (news ++ own)) { s with heap := h, toks := tk } (k p)) E' { s with heap := h, toks := tk }
def Src3 (x : Str) (it1 it2 : Expr) (Q : Value → Shared → Prop) (xv : Value) (s₁ : Shared) : Prop := ∃ ax its kk P news k1 k2, xv = .ref ax ∧ A.handled = none ∧ Fr h₀ L s₁.heap m ∧ News h₀ L s₁.heap news ∧ (ax, listOf (List.toArray its) kk) ∈ news ∧ IntsAre its P ∧ P.length ≤ 100 ∧
  (∀ p ∈ P, k1 p ≤ 10 ∧ k2 p ≤ 10) ∧ Iter3 prog w A h₀ L m env scope cl news x s₁ it1 k1 P ∧ Iter3 prog w A h₀ L m env scope cl news x s₁ it2 k2 P ∧
  ∀ D ys h tk, Fr h₀ L h m → News h₀ L h ((D, LCg.lst ys) :: news) → ys.length = (P.map fun p => k1 p * k2 p).sum → Q (.ref D) { s₁ with heap := h, toks := tk }
end
theorem tot_const (k n : Nat) : tot (fun _ => k) n = n * k := by
  induction n with
  | zero => simp [tot]
  | succ n ih => rw [tot, ih, Nat.succ_mul]
theorem tot_list (f : Int → Nat) : ∀ P : List Int, tot (fun i => f (P.getD i 0)) P.length = (P.map f).sum := by
  have step : ∀ (P : List Int) n, n ≤ P.length → tot (fun i => f (P.getD i 0)) n = ((P.take n).map f).sum := by
    intro P n
    induction n with
    | zero => intro _; simp [tot]
    | succ n ih =>
      intro hn
      rw [tot, ih (by omega), List.take_add_one, List.map_append, List.sum_append, List.getElem?_eq_getElem (by omega), List.getD_eq_getElem?_getD, List.getElem?_eq_getElem (by omega)]
      simp
  intro P
  rw [step P _ (Nat.le_refl _), List.take_length]
theorem tot_le {cnt : Nat → Nat} {b : Nat} : ∀ n, (∀ i, i < n → cnt i ≤ b) → tot cnt n ≤ n * b
  | 0, _ => by simp [tot]
  | n + 1, h => by
    rw [tot, Nat.succ_mul]
    have := h n (Nat.lt_succ_self _)
    have := tot_le n fun i hi => h i (Nat.lt_succ_of_lt hi)
    omega
theorem range_small {k : Nat} (hk : k ≤ 10) : Builtin.Range.small 0 (k : Int) 1 = true ∧ Builtin.Range.rangeSize 0 (k : Int) 1 = ((k : Nat) : Int) := by
  exact ⟨small_one (by omega) (by omega) (by omega) (by omega), (rangeSize_nat 0 (k : Int)).trans (by omega)⟩
section
variable {prog : Program} {w : World} {A : Around} {E : Value → Shared → Prop} {s : Shared} {h₀ : Heap} {L : Addr} {m : Str → Option Value} {env : Env}
theorem cs_led {news own : List (Addr × Obj)} {C D : Addr} {h : Heap} {m₂ : Str → Option Value} {k : Nat} (x : CS h₀ L m news C D h m₂ k) (sC : Seat h₀ L news C) (sD : Seat h₀ L news D) (ho : ∀ p ∈ own, h.get? p.1 = some p.2 ∧ p.1 ≠ L ∧ h₀.get? p.1 = none) :
    ∃ oC ys, LCg.NsObj oC m₂ ∧ ys.length = k ∧ h.get? C = some oC ∧ News h₀ L h ((C, oC) :: (D, LCg.lst ys) :: (news ++ own)) := by
  obtain ⟨oC, e, n⟩ := LCg.ns_obj x.ns
  obtain ⟨ys, e', n'⟩ := x.acc
  refine ⟨oC, ys, n, n', e, fun p hp => ?_⟩
  rcases List.mem_cons.mp hp with rfl | hp
  · exact ⟨e, sC.frame, sC.base⟩
  rcases List.mem_cons.mp hp with rfl | hp
  · exact ⟨e', sD.frame, sD.base⟩
  rcases List.mem_append.mp hp with hp | hp
  · exact x.nw p hp
  · exact ho p hp
theorem cs_of {news own : List (Addr × Obj)} {C D : Addr} {h : Heap} {m₂ : Str → Option Value} {oC : Obj} {ys : List Value} (F : Fr h₀ L h m) (N : News h₀ L h ((C, oC) :: (D, LCg.lst ys) :: (news ++ own))) (n : LCg.NsObj oC m₂) :
    CS h₀ L m news C D h m₂ ys.length where
  fr := F
  nw := fun p hp => N p (.tail _ (.tail _ (List.mem_append_left _ hp)))
  ns := n.ns (N _ (.head _)).1
  acc := ⟨ys, (N _ (.tail _ (.head _))).1, rfl⟩
/-- the step from one clause into the next: the inner source is a range of k ints -/
theorem comp_down {elt : Expr} {gens : List Comprehension} {scope : Scope} {pos : Pos} {d : Nat} {it' : Expr} {It C D : Addr} {cenv : Env} {news own : List (Addr × Obj)} {m₂ : Str → Option Value} {h : Heap} {tk k kk : Nat} {oC : Obj} {ys : List Value} {g : Comprehension} {E' : Value → Shared → Prop} {Q : PySem.Fin → Shared → Prop}
    (hg : gens[d + 1]? = some g) (hga : g.is_async = 0) (hs : ∀ v, foldedSetIterable it' cenv v = pure v) (hk : k ≤ 10) (hn : LCg.NsObj oC m₂) (hy : ys.length = kk)
    (hI : wpAny (model prog w) A (eval it' cenv) (RangeOut h₀ L m ((C, oC) :: (D, LCg.lst ys) :: (news ++ own)) { s with heap := h, toks := tk } k) E' { s with heap := h, toks := tk })
    (hloop : ∀ I' h' tk', CS h₀ L m news C D h' m₂ kk → (∀ p ∈ own, h'.get? p.1 = some p.2) → IsRangeIter h' I' 0 k 1 → Seat h₀ L news I' → (∀ p ∈ own, p.1 ≠ I') → I' ≠ C → I' ≠ D →
      codeAny (model prog w) A (.compLoop (.ListComp elt gens scope pos) (d + 1) (.ref I') (.ref D) cenv) (fun r s' => r = .ok .next ∧ wpAny (model prog w) A (again (.compLoop (.ListComp elt gens scope pos) d (.ref It) (.ref D) cenv)) Q E' s') { s with heap := h', toks := tk' })
    (hself : ∀ I' h' tk' (Q : Value → Shared → Prop) (E : Value → Shared → Prop), IsRangeIter h' I' 0 k 1 → Q (.ref I') { s with heap := h', toks := tk' } → wpAny (model prog w) A (pyIter (.ref I')) Q E { s with heap := h', toks := tk' }) :
    wpAny (model prog w) A (downTo (.ListComp elt gens scope pos) d it' (.ref It) (.ref D) cenv) Q E' { s with heap := h, toks := tk } := by
  unfold downTo
  refine wpAny_bind (wpAny_mono hI (fun xv s₂ z => ?_) fun _ _ z => z)
  obtain ⟨h₂, tk₂, r, t, u, v, rfl, rfl, F₂, N₂, R₂⟩ := z
  obtain ⟨q1, q2⟩ := range_small hk
  refine wpAny_bind (wpAny_standAt (wpAny_bind (wpAny_of_eq (hs _) (wpAny_bind (wpAny_holding ?_)))))
  refine wpAny_pyIter_range R₂ q1 (wpAny_bind (wpAny_onRaise (wpAny_run ?_)))
  have up : ∀ b o, h₂.get? b = some o → (h₂.push { cls := .type "range_iterator", data := .fields #[rawInt 0, rawInt (Builtin.Range.rangeSize 0 (k : Int) 1), rawInt 1] }).get? b = some o := fun b o e => Heap.get?_push_of_some _ e
  have hIt : IsRangeIter (h₂.push { cls := .type "range_iterator", data := .fields #[rawInt 0, rawInt (Builtin.Range.rangeSize 0 (k : Int) 1), rawInt 1] }) h₂.objs.size 0 k 1 := by
    show _ = _
    rw [q2]; exact Heap.get?_push_size _ rfl
  have cs := (cs_of (own := own) F₂ N₂ hn).grown up
  have lt : ∀ p ∈ ((C, oC) :: (D, LCg.lst ys) :: (news ++ own)), p.1 < h₂.objs.size := fun p hp => Heap.lt_size (N₂ p hp).1
  have fresh : h₀.get? h₂.objs.size = none := by
    cases q : h₀.get? h₂.objs.size with
    | none => rfl
    | some o => exact absurd (Heap.lt_size (F₂.keep _ _ q)) (Nat.lt_irrefl _)
  have st : Seat h₀ L news h₂.objs.size := ⟨Nat.ne_of_gt F₂.ns.lt, fresh, fun p hp => Nat.ne_of_lt (lt p (.tail _ (.tail _ (List.mem_append_left _ hp))))⟩
  refine codeAny_mono (R := fun r s' => r = .ok .next ∧ wpAny (model prog w) A (again (.compLoop (.ListComp elt gens scope pos) d (.ref It) (.ref D) cenv)) Q E' s') ?_ (fun r s' z => by obtain ⟨rfl, z⟩ := z; exact z)
  show codeAny (model prog w) A _ _ _
  refine comp_start (d := d + 1) hg hga (hloop h₂.objs.size _ _ (hy ▸ cs) (fun p hp => up _ _ (N₂ p (.tail _ (.tail _ (List.mem_append_right _ hp)))).1) hIt st
    (fun p hp => Nat.ne_of_lt (lt p (.tail _ (.tail _ (List.mem_append_right _ hp))))) (Nat.ne_of_gt (lt _ (.head _))) (Nat.ne_of_gt (lt _ (.tail _ (.head _))))) fun Q E q => hself _ _ _ Q E hIt q
end
end
section
variable {prog : Program} {w : World} {A : Around} {E : Value → Shared → Prop} {s : Shared} {h₀ : Heap} {L : Addr} {m : Str → Option Value} {env : Env}
theorem not2 {a b c : Addr} (h1 : a ≠ b) (h2 : a ≠ c) : a ∉ [b, c] := fun z => by
  rcases List.mem_cons.mp z with z | z
  · exact h1 z
  · exact h2 (List.mem_singleton.mp z)
theorem ListComp3 {elt : Expr} {x y z : Str} {px py pz : Pos} {it0 it1 it2 : Expr} {scope : Scope} {cl : List (Str × Addr)} {pos : Pos} {Q : Value → Shared → Prop}
    (hclos : closureFor scope env = pure cl) (hcell : ∀ y ∈ scope.names, y.2 ≠ .cell) (hkind : scope.kind = .function)
    (hnames : ∀ y ∈ scope.names, y.2 = .local → scope.names.lookup y.1 = some .local) (hx : scope.names.lookup x = some .local) (hy : scope.names.lookup y = some .local) (hz : scope.names.lookup z = some .local)
    (hyx : x ≠ y) (hzx : x ≠ z)
    (helt : ∀ (C : Addr) (Q : Value → Shared → Prop) (E : Value → Shared → Prop) (s : Shared), (∀ v tk, Q v { s with toks := tk }) → wpAny (model prog w) A (eval elt (compEnvC scope cl C env)) Q E s)
    (h : wpAny (model prog w) A (eval it0 env) (Src3 prog w A h₀ L m env scope cl x it1 it2 Q) E s)
    (hs0 : ∀ v, foldedSetIterable it0 env v = pure v := by intro _; rfl) (hs1 : ∀ e v, foldedSetIterable it1 e v = pure v := by intro _ _; rfl) (hs2 : ∀ e v, foldedSetIterable it2 e v = pure v := by intro _ _; rfl) :
    wpAny (model prog w) A (eval (lc3 elt x y z px py pz it0 it1 it2 scope pos) env) Q E s := by
  rw [eval_ListComp]
  refine wpAny_comprehension_free (use := none) rfl hs0 hclos hkind hnames (wpAny_mono h (fun xv s₁ h₁ => ?_) fun _ _ e => e)
  obtain ⟨ax, its, kk, P, news, k1, k2, rfl, hh, F, N, hm, hi, hlen, hk, hI1, hI2, hQ⟩ := h₁
  have hl : s₁.heap.IsList ax its.toArray := ⟨_, (N _ hm).1, rfl, kk, rfl⟩
  have hax : ax < s₁.heap.objs.size := Heap.lt_size (N _ hm).1
  refine wpAny_pyIter_list hl ?_
  generalize hH1 : s₁.heap.push { cls := .type "list_iterator", data := .fields #[.ref ax, .int 0 0] } = H1
  have z1 : H1.objs.size = s₁.heap.objs.size + 1 := by rw [← hH1, Heap.size_push]
  have u1 : ∀ b o, s₁.heap.get? b = some o → H1.get? b = some o := fun b o e => by rw [← hH1]; exact Heap.get?_push_of_some _ e
  have g1 : H1.get? s₁.heap.objs.size = some { cls := .type "list_iterator", data := .fields #[.ref ax, .int 0 0] } := by rw [← hH1]; exact Heap.get?_push_size _ rfl
  refine wpAny_newObj_type (wpAny_newFunctionEnv hcell (by intro y hy; simp at hy) (fun h₁ hns₁ hsb₁ => ?_) hkind)
  dsimp only at hns₁ hsb₁ ⊢
  generalize hH2 : H1.push { cls := .type "list", dict := none, data := .seq ([] : List Value).toArray } = H2 at hns₁ hsb₁ ⊢
  have z2 : H2.objs.size = s₁.heap.objs.size + 2 := by rw [← hH2, Heap.size_push, z1]
  generalize hCe : H2.objs.size = C at hns₁ hsb₁ ⊢
  have hDe : H1.objs.size = s₁.heap.objs.size + 1 := z1
  generalize hDD : H1.objs.size = D at hDe
  generalize hI0 : s₁.heap.objs.size = I0 at *
  have nCD : C ≠ D := by rw [← hCe, hDe, z2]; exact Nat.ne_of_gt (Nat.lt_succ_self _)
  have nIC : I0 ≠ C := by rw [← hCe, z2]; exact Nat.ne_of_lt (Nat.lt_succ_of_lt (Nat.lt_succ_self _))
  have nID : I0 ≠ D := by rw [hDe]; exact Nat.ne_of_lt (Nat.lt_succ_self _)
  have below : ∀ b, b < I0 → b ≠ C ∧ b ≠ D ∧ b ≠ I0 := fun b hb => ⟨by rw [← hCe, z2]; exact Nat.ne_of_lt (Nat.lt_succ_of_lt (Nat.lt_succ_of_lt hb)), by rw [hDe]; exact Nat.ne_of_lt (Nat.lt_succ_of_lt hb), Nat.ne_of_lt hb⟩
  have old : ∀ b o, b ≠ C → H2.get? b = some o → h₁.get? b = some o := fun b o n e => hsb₁.extBut b o n (Heap.get?_push_of_some _ e)
  have up2 : ∀ b o, H1.get? b = some o → H2.get? b = some o := fun b o e => by rw [← hH2]; exact Heap.get?_push_of_some _ e
  have gD : h₁.get? D = some (LCg.lst []) := old _ _ (Ne.symm nCD) (by rw [← hH2, ← hDD]; exact Heap.get?_push_size _ rfl)
  have up : ∀ b o, s₁.heap.get? b = some o → h₁.get? b = some o := fun b o e => old b o (below b (hI0 ▸ Heap.lt_size e)).1 (up2 _ _ (u1 _ _ e))
  have gI : h₁.get? I0 = some { cls := .type "list_iterator", data := .fields #[.ref ax, .int 0 0] } := old _ _ nIC (up2 _ _ g1)
  have fresh : ∀ a, I0 ≤ a → h₀.get? a = none := fun a ha => by
    cases e : h₀.get? a with
    | none => rfl
    | some o' => exact absurd (hI0 ▸ Heap.lt_size (F.keep _ _ e)) (Nat.not_lt.mpr ha)
  have hLlt : L < I0 := hI0 ▸ F.ns.lt
  have ltN : ∀ p ∈ news, p.1 < I0 := fun p hp => hI0 ▸ Heap.lt_size (N p hp).1
  have sI : Seat h₀ L news I0 := ⟨Ne.symm (below L hLlt).2.2, fresh _ (Nat.le_refl _), fun p hp => (below _ (ltN p hp)).2.2⟩
  have sC : Seat h₀ L news C := ⟨Ne.symm (below L hLlt).1, fresh _ (by rw [← hCe, z2]; exact Nat.le_add_right _ _), fun p hp => (below _ (ltN p hp)).1⟩
  have sD : Seat h₀ L news D := ⟨Ne.symm (below L hLlt).2.1, fresh _ (by rw [hDe]; exact Nat.le_add_right _ _), fun p hp => (below _ (ltN p hp)).2.1⟩
  have c0 : CS h₀ L m news C D h₁ (fun y => List.lookup y ([] : List (Str × Value)).reverse) 0 := ⟨F.keeps up, N.grown up, hns₁, ⟨[], gD, rfl⟩⟩
  have W0 := Walks.list (prog := prog) (w := w) hh I0 ax (Nat.ne_of_lt hax) its.toArray
  have e0 : its.toArray.size = P.length := by rw [List.size_toArray]; exact hi.length
  rw [e0] at W0
  have hside : ∀ C', ((compEnvC scope cl C' env).scope.kind == .class || ((compEnvC scope cl C' env).scope.kind == .module && (compEnvC scope cl C' env).locals != (compEnvC scope cl C' env).globals)) = false := fun C' => by simp [compEnvC, relabel, hkind]
  have hself : ∀ (k : Nat) (I' : Addr) (h' : Heap) (tk' : Nat) (Q : Value → Shared → Prop) (E : Value → Shared → Prop), IsRangeIter h' I' 0 k 1 → Q (.ref I') { s₁ with heap := h', toks := tk' } → wpAny (model prog w) A (pyIter (.ref I')) Q E { s₁ with heap := h', toks := tk' } :=
    fun k I' h' tk' Q E hI q => (LCg.range_walks (prog := prog) (w := w) (I := I') hh 0 k).self 0 _ Q E (by simpa using hI) q
  have key : codeAny (model prog w) A (.compLoop (lc3 elt x y z px py pz it0 it1 it2 scope pos) 0 (.ref I0) (.ref D) (compEnvC scope cl C env)) (compPost (model prog w) A E none Q (.ref D) C) { s₁ with heap := h₁, toks := s₁.toks + ([] : List (Str × Value)).length } := by
    refine comp_level (fun _ => True) (fun _ => True) (fun i => (fun p => k1 p * k2 p) (P.getD i 0)) _ 0 (turn3_0 ..) rfl (lookup_relabel_local hx) (hside C) W0
      (fun b hb => by rcases List.mem_cons.mp hb with rfl | hb
                      · exact nIC
                      · rw [List.mem_singleton.mp hb]; exact (below _ (hI0 ▸ hax)).1) sC sI nCD nIC nID (fun _ _ _ => trivial) (fun _ _ _ _ => trivial) trivial trivial c0 ⟨⟨_, gI, rfl, rfl⟩, hl.at fun o e => up _ _ e⟩ ?_ ?_
    · rintro i v h tk m₂ E' hlt hPv hxm _ _ hst hcs
      have hpi : P[i]? = some P[i] := List.getElem?_eq_getElem hlt
      obtain ⟨t, hg⟩ := hi.get i _ hpi
      have hv2 : its[i]? = some v := by simpa using hPv
      rw [hg] at hv2
      obtain rfl := Option.some.inj hv2
      have hp : P[i] ∈ P := List.getElem_mem hlt
      have hcnt : (fun i => (fun p => k1 p * k2 p) (P.getD i 0)) i = k1 P[i] * k2 P[i] := by
        show (fun p => k1 p * k2 p) (P.getD i 0) = _
        rw [List.getD_eq_getElem?_getD, hpi]; rfl
      rw [hcnt]
      generalize P[i] = q at hp hxm hcnt
      obtain ⟨hk1, hk2⟩ := hk q hp
      obtain ⟨⟨oI, eI, rI⟩, lI⟩ := hst
      have hLI : ∀ h' : Heap, Fr h₀ L h' m → News h₀ L h' news → h'.get? I0 = some oI → h'.IsListIter I0 ax (i + 1) ∧ h'.IsList ax its.toArray := fun h' F' N' e => ⟨⟨oI, e, rI⟩, ⟨_, (N' _ hm).1, rfl, kk, rfl⟩⟩
      obtain ⟨oC, ys, hn, hyl, eC, NL⟩ := cs_led (own := [(I0, oI)]) hcs sC sD (fun p hp => by rw [List.mem_singleton.mp hp]; exact ⟨eI, sI.frame, sI.base⟩)
      refine comp_down (own := [(I0, oI)]) (s := s₁) (d := 0) (g := ⟨.Name y py, it1, [], 0⟩) rfl rfl (hs1 _) hk1 hn hyl (hI1 q hp [(I0, oI)] C oC D ys m₂ h tk t E' hn hxm hcs.fr NL) ?_ (hself _)
      intro I1 h1 tk1 cs1 ho1 st1 seat1 off1 n1C n1D
      have n10 : I0 ≠ I1 := off1 _ (.head _)
      refine comp_level (s := { s₁ with heap := h1, toks := tk1 }) (fun mm => mm x = some (.int q t)) (fun hh' => hh'.get? I0 = some oI) (fun _ => k2 q) m₂ _ (turn3_1 ..) rfl (lookup_relabel_local hy) (hside C) (LCg.range_walks hh 0 (k1 q))
        (fun b hb => by rw [List.mem_singleton.mp hb]; exact n1C) sC seat1 nCD n1C n1D (fun mm v hv => by show (if x = y then _ else mm x) = _; rw [if_neg hyx]; exact hv)
        (fun a b K e => K _ _ (not2 nIC n10) e) hxm (ho1 _ (.head _)) cs1 (by simpa using st1) ?_ ?_
      · rintro j v2 h2 tk2 m2 E2 hj _ _ hv2 o2 st2 cs2
        obtain ⟨oC2, ys2, hn2, hyl2, eC2, NL2⟩ := cs_led (own := [(I1, _), (I0, oI)]) cs2 sC sD (fun p hp => by
          rcases List.mem_cons.mp hp with rfl | hp
          · exact ⟨st2, seat1.frame, seat1.base⟩
          · rw [List.mem_singleton.mp hp]; exact ⟨o2, sI.frame, sI.base⟩)
        refine comp_down (own := [(I1, _), (I0, oI)]) (s := s₁) (d := 1) (g := ⟨.Name z pz, it2, [], 0⟩) rfl rfl (hs2 _) hk2 hn2 hyl2 (hI2 q hp _ C oC2 D ys2 m2 h2 tk2 t E2 hn2 hv2 cs2.fr NL2) ?_ (hself _)
        intro I2 h3 tk3 cs3 ho3 st3 seat3 off3 n3C n3D
        have n31 : I1 ≠ I2 := off3 _ (.head _)
        have n30 : I0 ≠ I2 := off3 _ (.tail _ (.head _))
        refine comp_level (s := { s₁ with heap := h3, toks := tk3 }) (fun mm => mm x = some (.int q t)) (fun hh' => hh'.get? I1 = some _ ∧ hh'.get? I0 = some oI) (fun _ => 1) m2 _ (turn3_2 ..) rfl (lookup_relabel_local hz) (hside C) (LCg.range_walks hh 0 (k2 q))
          (fun b hb => by rw [List.mem_singleton.mp hb]; exact n3C) sC seat3 nCD n3C n3D (fun mm v hv => by show (if x = z then _ else mm x) = _; rw [if_neg hzx]; exact hv)
          (fun a b K e => ⟨K _ _ (not2 n1C n31) e.1, K _ _ (not2 nIC n30) e.2⟩) hv2 ⟨ho3 _ (.head _), ho3 _ (.tail _ (.head _))⟩ cs3 (by simpa using st3) ?_ ?_
        · rintro l v3 h4 tk4 m4 E4 hl4 _ _ hv4 o4 st4 cs4
          obtain ⟨ys4, eD4, hyl4⟩ := cs4.acc
          refine wpAny_bind (wpAny_bind (helt C _ _ _ fun ev tk5 => wpAny_bind (append_at (hsz := ?_) eD4 fun h5 hs5 hD5 => wpAny_pure (wpAny_pure ?_))))
          · have K5 := Keeps.same hs5
            rw [LCg.lst_snoc] at hD5
            have cs5 := cs4.push hs5 sD nCD hD5
            refine ⟨rfl, h5, tk5, m4, rfl, K5 _ _ (fun z => n3D (List.mem_singleton.mp z)) st4, ⟨K5 _ _ (fun z => n1D (List.mem_singleton.mp z)) o4.1, K5 _ _ (fun z => nID (List.mem_singleton.mp z)) o4.2⟩, ?_, hv4⟩
            rw [List.length_append, hyl4] at cs5
            exact cs5
          · rw [List.size_toArray, hyl4]
            have b1 : tot (fun i => (fun p => k1 p * k2 p) (P.getD i 0)) i ≤ i * 100 := tot_le i fun a ha => by
              have hm : P.getD a 0 ∈ P := by
                rw [List.getD_eq_getElem?_getD, List.getElem?_eq_getElem (Nat.lt_trans ha hlt)]
                exact List.getElem_mem _
              obtain ⟨u1, u2⟩ := hk _ hm
              exact Nat.mul_le_mul u1 u2
            have b2 : j * k2 q ≤ 10 * 10 := Nat.mul_le_mul (Nat.le_of_lt (Nat.lt_of_lt_of_le hj hk1)) hk2
            simp only [tot_const] at b1 ⊢
            rw [sizeLine_eq]
            omega
        · intro h4 tk4 m4 o4 cs4 hv4
          refine ⟨rfl, wpAny_pure ⟨rfl, h4, tk4, m4, rfl, o4.1, o4.2, ?_, hv4⟩⟩
          simp only [tot_const, Nat.mul_one] at cs4 ⊢
          exact cs4
      · intro h2 tk2 m2 o2 cs2 hv2
        refine ⟨rfl, wpAny_pure ⟨rfl, h2, tk2, m2, rfl, hLI h2 cs2.fr cs2.nw o2, trivial, ?_, trivial⟩⟩
        simp only [tot_const] at cs2 ⊢
        exact cs2
    · intro h' tk m₃ _ cs _
      refine ⟨m₃, cs.ns, fun h'' hs'' => ?_⟩
      obtain ⟨ys, eD, hyl⟩ := cs.acc
      have K := Keeps.same hs''
      refine hQ D ys h'' tk (LCg.fr_but cs.fr K (Ne.symm sC.frame) sC.base) (fun p hp => ?_) (by rw [hyl, tot_list (fun p => k1 p * k2 p)]; simp)
      rcases List.mem_cons.mp hp with rfl | hp
      · exact ⟨K _ _ (fun q => nCD (List.mem_singleton.mp q).symm) eD, sD.frame, sD.base⟩
      · exact LCg.news_but cs.nw K sC.led p hp
  exact comp_start (d := 0) (g := ⟨.Name x px, it0, [], 0⟩) rfl rfl key fun Q E q => W0.self 0 _ Q E ⟨⟨_, gI, rfl, rfl⟩, hl.at fun o e => up _ _ e⟩ q
end
section
/-- the body of the one for of the law's five statements -/
def forBody (body : List Stmt) : List Stmt := match body with
  | [_, _, _, .For _ _ b _ _, _] => b
  | _ => []
section
variable {prog : Program} {w : World} {A : Around} {E : Value → Shared → Prop} {s : Shared} {h₀ : Heap} {L l : Addr} {m : Str → Option Value} {news : List (Addr × Obj)} {vs : List Value} {ns : List Int} {n : Nat}
theorem news_sub {small : List (Addr × Obj)} {h : Heap} (N : News h₀ L h news) (hs : ∀ q ∈ small, q ∈ news) : News h₀ L h small := fun q hq => N q (hs q hq)
theorem list_ints {Q : Value → Shared → Prop} (F : Fr h₀ L s.heap m) (N : News h₀ L s.heap news) (hl : (l, listOf vs.toArray n) ∈ news) (hi : IntsAre vs ns) (hz : ns.length ≤ 100)
    (h : ∀ D c h', Fr h₀ L h' m → News h₀ L h' ((D, listOf vs.toArray c) :: news) → (∀ q ∈ news, q.1 < D) → Q (.ref D) { s with heap := h' }) : wpAny (model prog w) A (call (.type "list") [.ref l]) Q E s := by
  refine list_copyK F N (N.isList hl) h ?_
  rw [List.size_toArray, hi.length]
  exact Nat.le_trans hz (by decide)
end
local macro_rules | `(tactic| walk_at "call type:list") => `(tactic| (k_here; (with_reducible show wpAny _ _ (call (Value.type "list") [Value.ref _]) _ _ _); k_dflt (refine' list_ints ?F ?N ?b ?i ?z ?_; (case F | N => k_asm); (case b | i => with_reducible assumption); (case z => omega)); intro D' c' h' F' N' l1; (try k_lt l1); (try k_sweep)))
local macro_rules | `(tactic| walk_at "eval Name") => `(tactic| walk_at "own name")
local macro_rules | `(tactic| walk_at "call ref") => `(tactic| (refine hold ?_))
local macro_rules | `(tactic| walk_at "getAttr ref") => `(tactic| (k_here; k_dflt (refine' get_attrAt ?F ?X ?N ?a ?g ?h ?f ?n ?v ?_; (case F | X | N => k_asm); (case a => exact ⟨_, _, _, by k_mem, by k_mem, by assumption⟩); (case g | h => k_is); (case f | n => k_is); (case v => k_handed); k_whole)))
local macro_rules | `(tactic| walk_at "compareOp NotEq ref ref") => `(tactic| (refine hold ?_))
set_option maxRecDepth 100000 in
set_option maxHeartbeats 8000000 in
theorem turn_c {w : World} {h₀ : Heap} {p : Program} {loose : List Str} {mean : ExcName → Option Value} {mg mb : Str → Option Value}
    {name qual : Str} {params : Arguments} {body : List Stmt} {scope : Scope} {dV kV doc pm cdv ct oc : Value} {an od : Option Addr} {osl : Array (Option Value)}
    (hK : (hd.heap_39 w.params).lookup 220 = some ⟨oc, od, .func (fnOf name qual params body scope dV kV doc pm an cdv ct), osl⟩)
    {L fa fr cl ls : Addr} {cd : Value} {m : Str → Option Value} {news : List (Addr × Obj)} {S : List (Int × Int)} {P : List Int} {lvs : List Value} {lk : Nat} {oS : Obj} {b : Bool} {E : Value → Shared → Prop} {s : Shared} {Q : Flow → Shared → Prop}
    (B : Below callerA h₀ [] h₀) (F : Fr h₀ L s.heap m) (KX : (hd.heap_39 w.params).In h₀) (N : News h₀ L s.heap news) (zS : (L + 1 + 1 + 1, oS) ∈ news)
    (T : Top p loose mean mg mb h₀) (dS : oS.data = Data.cell (some (.ref ls)))
    (hfr : m "frame" = some (.ref fr)) (a0 : (ls, listOf lvs.toArray lk) ∈ news) (a6 : IntsAre lvs P) (b2 : P.length ≤ 50)
    (a1 : AttrAt news fr 155 "components" (.ref cl)) (a2 : CompsAre news cl S) (b1 : Small S) (b4 : S.length ≤ 5) (hdue : m "due" = some (.bool b)) (hb : b = true ↔ Good S P)
    (h : ∀ (m' : Str → Option Value) (tk : Nat) (h' : Heap), (∀ z : Str, z ≠ "whole" → z ≠ "due" → z ≠ "scan" → m' z = m z) → Fr h₀ L h' m' → News h₀ L h' news → Q .next { s with heap := h', toks := tk }) :
    wpAny (model PySem.Challenge.rw_xm0817_01.row.prog w) (callerA.deeper (envOfC qual scope L fa cd)) (execs ((forBody body).drop 8) (envOfC qual scope L fa cd)) Q E s := by
  w_top off
  revert KX; k_fill; intro KX
  have hK2 := hK.symm.trans (show _ = some _ from by k_is)
  clear hK
  cases hK2
  dsimp only [forBody, List.drop]
  k_steps
  unfold Hold
  k_dflt (refine' scan_call ?k1 ?k2 ?k3 ?k4 ?k5 ?kA ?kF ?kK ?k8 ?hh ?_; (case k1 => k_asm); (case kA => exact Around.frames_deeper (Below.stack (by assumption))); (case kF | kK => exact rfl); (case k2 | k3 => k_asm); (case k4 | k5 => k_asm); (case k8 => k_room); (case hh => first | assumption | rfl); k_whole); intro x' d' es' n' h' tk' F' N' g1' g2'; (try k_sweep)
  k_steps
  unfold Hold
  k_dflt (refine' told_call ?k1 ?k2 ?k3 ?k4 ?k5 ?kA ?kF ?kK ?k8 ?hh ?a1 ?a2 ?a3 ?a4 ?a5 ?a6 ?b1 ?b4 ?b2 ?_; (case k1 => k_asm); (case kA => exact Around.frames_deeper (Below.stack (by assumption))); (case kF | kK => exact rfl); (case k2 | k3 => k_asm); (case k4 | k5 => k_asm); (case k8 => k_room); (case hh => first | assumption | rfl); (case a1 => k_mem); (case a2 => exact CompsAre.mono (by assumption) fun _ h => by k_mem); (case a3 => exact ⟨_, _, _, by k_mem, by k_mem, by assumption⟩); (case a4 => exact ⟨_, _, _, by k_mem, by k_mem, by assumption⟩); (case a5 => k_mem); (case a6 | b1 | b4 => assumption); (case b2 => omega); k_whole); intro b' tk' h' hb' F' N'
  k_steps
  · rename (_ != _) = true => hx
    simp only [bne_iff_ne, ne_eq] at hx
    exact absurd (Bool.eq_iff_iff.mpr (Iff.trans (by with_reducible assumption) hb.symm)) hx
  · unfold Hold
    k_dflt (refine' ne_intsK ?k1 ?k2 ?k3 ?k4 ?k5 ?_; (case k1 => exact News.isList (by k_asm) (by k_mem)); (case k2 => with_reducible assumption); (case k3 => exact News.isList (by k_asm) (by k_mem)); (case k4 => with_reducible assumption); (case k5 => units_room); k_whole)
    (try simp only [decide_true, Bool.not_true])
    k_steps
    exact h _ _ _ (fun z _ _ h3 => if_neg h3) (by with_reducible assumption) (news_sub (by with_reducible assumption) (fun q hq => by k_mem))
end
section
theorem sorted_ext : ∀ {l m : List Int}, l.Pairwise (· < ·) → m.Pairwise (· < ·) → (∀ x, x ∈ l ↔ x ∈ m) → l = m
  | [], [], _, _, _ => rfl
  | [], b :: m, _, _, h => absurd ((h b).mpr (.head _)) List.not_mem_nil
  | a :: l, [], _, _, h => absurd ((h a).mp (.head _)) List.not_mem_nil
  | a :: l, b :: m, hl, hm, h => by
    obtain ⟨l1, l2⟩ := List.pairwise_cons.mp hl
    obtain ⟨m1, m2⟩ := List.pairwise_cons.mp hm
    have e : a = b := by
      rcases List.mem_cons.mp ((h a).mp (.head _)) with e | e
      · exact e
      · rcases List.mem_cons.mp ((h b).mpr (.head _)) with f | f
        · exact f.symm
        · have := m1 _ e
          have := l1 _ f
          omega
    subst e
    refine congrArg (a :: ·) (sorted_ext l2 m2 fun x => ⟨fun hx => ?_, fun hx => ?_⟩)
    · rcases List.mem_cons.mp ((h x).mp (.tail _ hx)) with e | e
      · have := l1 _ hx
        omega
      · exact e
    · rcases List.mem_cons.mp ((h x).mpr (.tail _ hx)) with e | e
      · have := m1 _ hx
        omega
      · exact e
theorem okFrom_iff {n : Int} : ∀ {P : List Int} {a : Int}, OkFrom n a P ↔ P.Pairwise (· < ·) ∧ ∀ x ∈ P, a < x ∧ 0 ≤ x ∧ x < n
  | [], a => ⟨fun _ => ⟨.nil, fun x h => absurd h List.not_mem_nil⟩, fun _ => trivial⟩
  | p :: r, a => by
    rw [okFrom_cons, okFrom_iff (P := r) (a := p), List.pairwise_cons]
    constructor
    · rintro ⟨⟨h1, h2⟩, h3, h4, h5⟩
      refine ⟨⟨fun x hx => (h5 x hx).1, h4⟩, fun x hx => ?_⟩
      rcases List.mem_cons.mp hx with rfl | hx
      · exact ⟨h3, h1, h2⟩
      · obtain ⟨q1, q2, q3⟩ := h5 x hx
        exact ⟨by omega, q2, q3⟩
    · rintro ⟨⟨h1, h2⟩, h3⟩
      obtain ⟨q1, q2, q3⟩ := h3 p (.head _)
      exact ⟨⟨q2, q3⟩, q1, h2, fun x hx => ⟨h1 x hx, (h3 x (.tail _ hx)).2⟩⟩
theorem rangeKs_sorted (n : Nat) : (rangeKs 0 n).Pairwise (· < ·) := by
  unfold rangeKs
  refine List.Pairwise.map _ (fun a b h => ?_) (List.pairwise_lt_range (n := n))
  omega
theorem mem_rangeKs0 {n : Nat} {x : Int} : x ∈ rangeKs 0 n ↔ 0 ≤ x ∧ x < n := by
  refine ⟨fun h => ⟨(mem_rangeKs h).1, by have := (mem_rangeKs h).2; omega⟩, fun h => List.mem_map.mpr ⟨x.toNat, List.mem_range.mpr (by omega), by omega⟩⟩
/-- the places are a row of places, ascending, each once, just if they are the whole's places that are among them -/
theorem okFrom_filter {n : Nat} {P : List Int} : P = (rangeKs 0 n).filter (fun k => P.any (· == k)) ↔ OkFrom n (-1) P := by
  have hm : ∀ x, x ∈ (rangeKs 0 n).filter (fun k => P.any (· == k)) ↔ (0 ≤ x ∧ x < n) ∧ x ∈ P := fun x => by
    rw [List.mem_filter, mem_rangeKs0]
    simp
  rw [okFrom_iff]
  constructor
  · intro e
    have s : P.Pairwise (· < ·) := by
      rw [e]
      exact (rangeKs_sorted n).filter _
    refine ⟨s, fun x hx => ?_⟩
    rw [e] at hx
    have := ((hm x).mp hx).1
    omega
  · rintro ⟨s, h⟩
    refine sorted_ext s ((rangeKs_sorted n).filter _) fun x => ?_
    rw [hm]
    refine ⟨fun hx => ⟨?_, hx⟩, fun hx => hx.2⟩
    have := h x hx
    omega
theorem blocks_sum {S : List (Int × Int)} (b1 : Small S) : ∀ P : List Int, (∀ p ∈ P, 0 ≤ p ∧ p < S.length) →
    (((P.map fun p => (S.getD p.toNat (0, 0)).2.toNat * (S.getD p.toNat (0, 0)).1.toNat).sum : Nat) : Int) = (P.map (area S)).sum
  | [], _ => rfl
  | p :: r, h => by
    have ih := blocks_sum b1 r fun x hx => h x (.tail _ hx)
    obtain ⟨h1, h2⟩ := h p (.head _)
    have hk : p.toNat < S.length := by omega
    have e : S.getD p.toNat (0, 0) = S[p.toNat] := by rw [List.getD_eq_getElem?_getD, List.getElem?_eq_getElem hk]; rfl
    obtain ⟨⟨q1, q2⟩, q3, q4⟩ := b1 _ (List.getElem_mem hk)
    simp only [List.map_cons, List.sum_cons, Int.natCast_add, Int.natCast_mul, ih, area, e]
    rw [Int.toNat_of_nonneg (by omega), Int.toNat_of_nonneg (by omega), Int.mul_comm]
theorem sum_cap (f : Int → Nat) (c : Nat) : ∀ P : List Int, (∀ p ∈ P, f p ≤ c) → (P.map f).sum ≤ P.length * c
  | [], _ => Nat.zero_le _
  | p :: r, h => by
    have h1 := sum_cap f c r fun x hx => h x (.tail _ hx)
    have h2 := h p (.head _)
    rw [List.map_cons, List.sum_cons, List.length_cons, Nat.succ_mul]
    omega
end
section
/-- the sides' list, as the ledger bears it: tuples of two ints -/
def PairsAre (news : List (Addr × Obj)) (vs : List Value) (S : List (Int × Int)) : Prop := vs.length = S.length ∧
  ∀ (i : Nat) (q : Int × Int), S[i]? = some q → ∃ a tx ty n, vs[i]? = some (.ref a) ∧ (a, tupOf #[.int q.1 tx, .int q.2 ty] n) ∈ news
def SidesAre (news : List (Addr × Obj)) (sl : Addr) (S : List (Int × Int)) : Prop := ∃ vs k, (sl, listOf (List.toArray vs) k) ∈ news ∧ PairsAre news vs S
theorem PairsAre.mono {news news' : List (Addr × Obj)} {vs : List Value} {S : List (Int × Int)} (x : PairsAre news vs S) (h : ∀ p ∈ news, p ∈ news') : PairsAre news' vs S :=
  ⟨x.1, fun i q e => let ⟨a, tx, ty, n, h1, h2⟩ := x.2 i q e; ⟨a, tx, ty, n, h1, h _ h2⟩⟩
theorem SidesAre.mono {news news' : List (Addr × Obj)} {sl : Addr} {S : List (Int × Int)} (x : SidesAre news sl S) (h : ∀ p ∈ news, p ∈ news') : SidesAre news' sl S :=
  let ⟨vs, k, h1, h2⟩ := x; ⟨vs, k, h _ h1, h2.mono h⟩
section
variable {prog : Program} {w : World} {A : Around} {E : Value → Shared → Prop} {s : Shared} {h₀ : Heap} {L : Addr} {m : Str → Option Value} {env : Env}
theorem ListComp3F {elt : Expr} {x y z : Str} {px py pz : Pos} {it0 it1 it2 : Expr} {scope : Scope} {cl : List (Str × Addr)} {pos : Pos} {Q : Value → Shared → Prop} (_F₀ : Fr h₀ L s.heap m)
    (hclos : closureFor scope env = pure cl) (hcell : ∀ y ∈ scope.names, y.2 ≠ .cell) (hkind : scope.kind = .function)
    (hnames : ∀ y ∈ scope.names, y.2 = .local → scope.names.lookup y.1 = some .local) (hx : scope.names.lookup x = some .local) (hy : scope.names.lookup y = some .local) (hz : scope.names.lookup z = some .local)
    (hyx : x ≠ y) (hzx : x ≠ z)
    (helt : ∀ (C : Addr) (Q : Value → Shared → Prop) (E : Value → Shared → Prop) (s : Shared), (∀ v tk, Q v { s with toks := tk }) → wpAny (model prog w) A (eval elt (compEnvC scope cl C env)) Q E s)
    (h : wpAny (model prog w) A (eval it0 env) (Src3 prog w A h₀ L m env scope cl x it1 it2 Q) E s)
    (hs0 : ∀ v, foldedSetIterable it0 env v = pure v := by intro _; rfl) (hs1 : ∀ e v, foldedSetIterable it1 e v = pure v := by intro _ _; rfl) (hs2 : ∀ e v, foldedSetIterable it2 e v = pure v := by intro _ _; rfl) :
    wpAny (model prog w) A (eval (lc3 elt x y z px py pz it0 it1 it2 scope pos) env) Q E s := ListComp3 hclos hcell hkind hnames hx hy hz hyx hzx helt h hs0 hs1 hs2
end
local macro_rules | `(tactic| walk_at "eval Name") => `(tactic| walk_at "own name")
local macro_rules | `(tactic| walk_at "compareOp Eq ref ref") => `(tactic| (refine hold ?_))
local macro_rules | `(tactic| walk_at "subscriptTail Subscript Name Name Constant ref int") => `(tactic| walk_at "own tup")
local macro_rules | `(tactic| walk_at "subscriptTail Name Name ref int") => `(tactic| walk_at "own item")
local macro_rules | `(tactic| walk_at "compareOp In int ref") => `(tactic| (refine hold ?_))
local macro_rules | `(tactic| walk_at "eval ListComp") => `(tactic| walk_at "own compT")
local macro_rules | `(tactic| walk_at "eval ListComp") => `(tactic| (k_here; (with_reducible show wpAny _ _ (eval (Expr.ListComp _ [_, _, _] _ _) _) _ _ _); refine hold ?_))
local macro_rules | `(tactic| walk_at "execs cons") => `(tactic| (k_here; (with_reducible show wpAny _ _ (execs (Stmt.Assign [Expr.Name "scan" _] _ _ :: _) _) _ _ _); refine hold ?_))
set_option maxRecDepth 100000 in
set_option maxHeartbeats 8000000 in
theorem turn_b {w : World} {h₀ : Heap} {p : Program} {loose : List Str} {mean : ExcName → Option Value} {mg mb : Str → Option Value}
    {name qual : Str} {params : Arguments} {body : List Stmt} {scope : Scope} {dV kV doc pm cdv ct oc : Value} {an od : Option Addr} {osl : Array (Option Value)}
    (hK : (hd.heap_39 w.params).lookup 220 = some ⟨oc, od, .func (fnOf name qual params body scope dV kV doc pm an cdv ct), osl⟩)
    {L fa fr cl ls sl : Addr} {cd : Value} {m : Str → Option Value} {news : List (Addr × Obj)} {S : List (Int × Int)} {P : List Int} {lvs : List Value} {lk : Nat} {oS oB : Obj} {E : Value → Shared → Prop} {s : Shared} {Q : Flow → Shared → Prop}
    (B : Below callerA h₀ [] h₀) (F : Fr h₀ L s.heap m) (KX : (hd.heap_39 w.params).In h₀) (N : News h₀ L s.heap news) (zS : (L + 1 + 1 + 1, oS) ∈ news) (zB : (L + 1 + 1, oB) ∈ news)
    (T : Top p loose mean mg mb h₀) (dS : oS.data = Data.cell (some (.ref ls))) (dB : oB.data = Data.cell (some (.ref sl)))
    (hfr : m "frame" = some (.ref fr)) (a0 : (ls, listOf lvs.toArray lk) ∈ news) (a6 : IntsAre lvs P) (b2 : P.length ≤ 50)
    (a1 : AttrAt news fr 155 "components" (.ref cl)) (a2 : CompsAre news cl S) (a3 : SidesAre news sl S) (b1 : Small S) (b4 : S.length ≤ 5)
    (h : ∀ (m' : Str → Option Value) (tk : Nat) (h' : Heap), (∀ z : Str, z ≠ "whole" → z ≠ "due" → z ≠ "scan" → m' z = m z) → Fr h₀ L h' m' → News h₀ L h' news → Q .next { s with heap := h', toks := tk }) :
    wpAny (model PySem.Challenge.rw_xm0817_01.row.prog w) (callerA.deeper (envOfC qual scope L fa cd)) (execs ((forBody body).drop 5) (envOfC qual scope L fa cd)) Q E s := by
  w_top off
  revert KX; k_fill; intro KX
  have hK2 := hK.symm.trans (show _ = some _ from by k_is)
  have hT := @turn_c w h₀ p loose mean mg mb _ _ _ _ _ _ _ _ _ _ _ _ _ _ _ hK
  clear hK
  cases hK2
  dsimp only [forBody, List.drop] at hT ⊢
  obtain ⟨svs, sk, c1, c2⟩ := a3
  have c3 := c2.1
  have hn0 : (↑S.length - 0 : Int).toNat = S.length := by omega
  k_steps
  · unfold Hold
    refine LCt.CompSrcT.ledger (by exact rfl) (by k_asm) (by k_asm) (List.mem_cons_self) (by rw [List.size_toArray, IntsAre.length (by assumption), rangeKs_length, sizeLine_eq]; omega) ?_
    intro g'
    rw [List.size_toArray, IntsAre.length (by assumption), rangeKs_length]
    refine compRestT_inv (Int.toNat (↑S.length - 0)) (fun i ys nw => nw = (_ :: news) ∧ IntsAre ys (((rangeKs 0 (Int.toNat (↑S.length - 0))).take i).filter (fun k => P.any (· == k)))) ?_ ?_ _ 0 [] _ (by omega) ⟨rfl, .nil⟩
    · rintro i ys nw hi ⟨rfl, hys⟩ v' I' oI' C' oC' D' m' h' tk' E' hv' hC' hx' F' N' off' ne'
      rename IntsAre _ (rangeKs 0 _) => hI
      have hlen : i < (rangeKs 0 (Int.toNat (↑S.length - 0))).length := by rw [rangeKs_length]; exact hi
      have hpi := List.getElem?_eq_getElem hlen
      obtain ⟨tv, hg⟩ := hI.get i _ hpi
      generalize (rangeKs 0 (Int.toNat (↑S.length - 0)))[i] = pp at *
      rw [List.getElem?_toArray, hg] at hv'
      obtain rfl := Option.some.inj hv'
      k_steps
      unfold Hold
      k_dflt (refine' in_list_ints ?k1 ?k2 ?_; (case k1 => exact News.isList (by k_asm) (by k_mem)); (case k2 => with_reducible assumption); k_whole)
      k_steps
      · rename List.any _ _ = true => hq
        refine LCg.CompEnd.intro F' N' _ (fun p hp => hp) off' (Or.inr ⟨_, List.mem_cons_self, rfl, _, rfl⟩) ⟨rfl, ?_⟩
        rw [List.take_add_one, hpi, List.filter_append]
        simp only [Option.toList_some, List.filter_cons, hq, if_true, List.filter_nil]
        exact ints_snoc hys rfl
      · rename List.any _ _ = false => hq
        refine LCg.CompEnd.intro F' N' _ (fun p hp => hp) off' (Or.inr ⟨_, List.mem_cons_self, rfl, _, rfl⟩) ⟨rfl, ?_⟩
        rw [List.take_add_one, hpi, List.filter_append]
        simp only [Option.toList_some, List.filter_cons, hq, Bool.false_eq_true, if_false, List.filter_nil, List.append_nil]
        exact hys
    · rintro ys nw ⟨rfl, hys⟩
      rw [List.take_of_length_le (by rw [rangeKs_length]; exact Nat.le_refl _)] at hys
      k_steps
      unfold Hold
      k_dflt (refine' eq_intsK ?k1 ?k2 ?k3 ?k4 ?k5 ?_; (case k1 => exact News.isList (by k_asm) (by k_mem)); (case k2 => with_reducible assumption); (case k3 => exact News.isList (by k_asm) (by k_mem)); (case k4 => with_reducible assumption); (case k5 => units_room); k_whole)
      k_steps
      · rename P = _ => hP
        rw [hn0] at hP
        have hOk := okFrom_filter.mp hP
        have hbd := hOk.bounds
        unfold Hold
        rename Fr h₀ L _ _ => F2
        refine ListComp3F F2 (by with_unfolding_all rfl) (by decide) (by rfl) (by decide) (by rfl) (by rfl) (by rfl) (by decide) (by decide) ?ee ?ss
        case ee =>
          intro C' Q' E' s' hq
          k_steps
          exact hq _ _
        case ss =>
          k_steps
          rename News h₀ L _ _ => N2
          obtain ⟨led, N5, sub5⟩ : ∃ led, News h₀ L _ led ∧ ∀ z ∈ news, z ∈ led := ⟨_, N2, fun z hz => .tail _ (.tail _ hz)⟩
          clear N2
          refine ⟨ls, lvs, lk, P, _, fun p => (S.getD p.toNat (0, 0)).2.toNat, fun p => (S.getD p.toNat (0, 0)).1.toNat, rfl, rfl, by with_reducible assumption, N5, sub5 _ a0, a6, by omega, ?_, ?_, ?_, ?_⟩
          · intro q hq
            obtain ⟨q1, q2⟩ := hbd q hq
            have hk : q.toNat < S.length := by omega
            have e : S.getD q.toNat (0, 0) = S[q.toNat] := by rw [List.getD_eq_getElem?_getD, List.getElem?_eq_getElem hk]; rfl
            obtain ⟨⟨r1, r2⟩, r3, r4⟩ := b1 _ (List.getElem_mem hk)
            dsimp only
            rw [e]
            constructor <;> omega
          · intro q hq own C oC D ys m₂ h3 tk3 t3 E' hC hx F3 N3
            obtain ⟨q1, q2⟩ := hbd q hq
            have hk : q.toNat < S.length := by omega
            have e : S.getD q.toNat (0, 0) = S[q.toNat] := by rw [List.getD_eq_getElem?_getD, List.getElem?_eq_getElem hk]; rfl
            obtain ⟨⟨r1, r2⟩, r3, r4⟩ := b1 _ (List.getElem_mem hk)
            obtain ⟨ta, tx, ty, tn, u1, u2⟩ := c2.2 _ _ (List.getElem?_eq_getElem hk)
            dsimp only
            rw [e]
            generalize S[q.toNat].1 = sx at *
            generalize S[q.toNat].2 = sy at *
            have v1 : (L + 1 + 1, oB) ∈ led ++ own := List.mem_append_left _ (sub5 _ zB)
            have v2 : (sl, listOf svs.toArray sk) ∈ led ++ own := List.mem_append_left _ (sub5 _ c1)
            have v3 := List.mem_append_left own (sub5 _ u2)
            k_steps
            exact RangeOut.intro (by with_reducible assumption) (by with_reducible assumption) (fun q hq => hq) (by with_reducible assumption) (Int.toNat_of_nonneg (by omega)).symm
          · intro q hq own C oC D ys m₂ h3 tk3 t3 E' hC hx F3 N3
            obtain ⟨q1, q2⟩ := hbd q hq
            have hk : q.toNat < S.length := by omega
            have e : S.getD q.toNat (0, 0) = S[q.toNat] := by rw [List.getD_eq_getElem?_getD, List.getElem?_eq_getElem hk]; rfl
            obtain ⟨⟨r1, r2⟩, r3, r4⟩ := b1 _ (List.getElem_mem hk)
            obtain ⟨ta, tx, ty, tn, u1, u2⟩ := c2.2 _ _ (List.getElem?_eq_getElem hk)
            dsimp only
            rw [e]
            generalize S[q.toNat].1 = sx at *
            generalize S[q.toNat].2 = sy at *
            have v1 : (L + 1 + 1, oB) ∈ led ++ own := List.mem_append_left _ (sub5 _ zB)
            have v2 : (sl, listOf svs.toArray sk) ∈ led ++ own := List.mem_append_left _ (sub5 _ c1)
            have v3 := List.mem_append_left own (sub5 _ u2)
            k_steps
            exact RangeOut.intro (by with_reducible assumption) (by with_reducible assumption) (fun q hq => hq) (by with_reducible assumption) (Int.toNat_of_nonneg (by omega)).symm
          · intro D ys h3 tk3 F3 N3 hl
            have N4 : News h₀ L h3 ((D, listOf ys.toArray ys.length) :: led) := N3
            clear N3
            have hsum := blocks_sum b1 P hbd
            have hcap := sum_cap (fun p => (S.getD p.toNat (0, 0)).2.toNat * (S.getD p.toNat (0, 0)).1.toNat) 16 P (fun q hq => by
              obtain ⟨q1, q2⟩ := hbd q hq
              have hk : q.toNat < S.length := by omega
              have e : S.getD q.toNat (0, 0) = S[q.toNat] := by rw [List.getD_eq_getElem?_getD, List.getElem?_eq_getElem hk]; rfl
              obtain ⟨⟨r1, r2⟩, r3, r4⟩ := b1 _ (List.getElem_mem hk)
              rw [e]
              exact Nat.mul_le_mul (show S[q.toNat].2.toNat ≤ 4 by omega) (show S[q.toNat].1.toNat ≤ 4 by omega))
            generalize (P.map fun p => (S.getD p.toNat (0, 0)).2.toNat * (S.getD p.toNat (0, 0)).1.toNat).sum = cnt at hl hsum hcap
            have hcap2 : cnt ≤ 800 := Nat.le_trans hcap (Nat.mul_le_mul_right 16 b2)
            k_steps
            unfold Hold
            refine hT B (by with_reducible assumption) KX (by with_reducible assumption) (.tail _ (sub5 _ zS)) T dS (by exact hfr) (.tail _ (sub5 _ a0)) a6 b2 (AttrAt.cons (a1.mono sub5)) (CompsAre.mono a2 (fun _ h => .tail _ (sub5 _ h))) b1 b4 rfl ?_ ?_
            · exact ⟨fun z => ⟨⟨by omega, by omega⟩, hOk, .inr (by have := of_decide_eq_true z; omega)⟩, fun g => decide_eq_true (by have := g.2.2; omega)⟩
            · intro m2 tk2 h2 e2 F2 N2
              exact h _ _ _ (fun z z1 z2 z3 => (e2 z z1 z2 z3).trans ((if_neg z2).trans ((if_neg z2).trans (if_neg z1)))) F2 (news_sub N2 (fun q hq => .tail _ (sub5 _ hq)))
      · rename P = _ => hP
        have hP2 := hP
        rw [hn0] at hP2
        refine hT B (by with_reducible assumption) KX (by with_reducible assumption) (by k_mem) T dS (by exact hfr) (by k_mem) a6 b2 (by k_mem) (CompsAre.mono a2 (fun _ h => by k_mem)) b1 b4 rfl ?_ ?_
        · exact ⟨fun _ => ⟨⟨by omega, by omega⟩, okFrom_filter.mp hP2, .inl (by omega)⟩, fun _ => decide_eq_true hP⟩
        · intro m2 tk2 h2 e2 F2 N2
          exact h _ _ _ (fun z z1 z2 z3 => (e2 z z1 z2 z3).trans ((if_neg z2).trans (if_neg z1))) F2 (news_sub N2 (fun q hq => by k_mem))
      · rename ¬ P = _ => hP
        have hP2 := hP
        rw [hn0] at hP2
        refine hT B (by with_reducible assumption) KX (by with_reducible assumption) (by k_mem) T dS (by exact hfr) (by k_mem) a6 b2 (by k_mem) (CompsAre.mono a2 (fun _ h => by k_mem)) b1 b4 rfl ?_ ?_
        · exact ⟨fun z => absurd (of_decide_eq_true z) hP, fun g => absurd (okFrom_filter.mpr g.2.1) hP2⟩
        · intro m2 tk2 h2 e2 F2 N2
          exact h _ _ _ (fun z z1 z2 z3 => (e2 z z1 z2 z3).trans ((if_neg z2).trans (if_neg z1))) F2 (news_sub N2 (fun q hq => by k_mem))
  all_goals
    unfold Hold
    refine hT B (by with_reducible assumption) KX (by with_reducible assumption) (by k_mem) T dS (by exact hfr) (by k_mem) a6 b2 (by k_mem) (CompsAre.mono a2 (fun _ h => by k_mem)) b1 b4 rfl ?_ ?_
    · exact ⟨fun z => absurd (of_decide_eq_true z) (by assumption), fun g => by have := g.1; omega⟩
    · intro m2 tk2 h2 e2 F2 N2
      exact h _ _ _ (fun z z1 z2 z3 => (e2 z z1 z2 z3).trans ((if_neg z2).trans (if_neg z1))) F2 (news_sub N2 (fun q hq => by k_mem))
end
section
local macro_rules | `(tactic| k_all) => `(tactic| walk_at "own all")
theorem news_three {h₀ h : Heap} {L : Addr} {big rest : List (Addr × Obj)} {x y : Addr × Obj} (N : News h₀ L h big) (hx : x ∈ big) (hy : y ∈ big) (hr : ∀ q ∈ rest, q ∈ big) : News h₀ L h (x :: y :: rest) := fun q hq => by
  rcases List.mem_cons.mp hq with rfl | hq
  · exact N _ hx
  · rcases List.mem_cons.mp hq with rfl | hq
    · exact N _ hy
    · exact N _ (hr _ hq)
theorem two_at {prog : Program} {w : World} {A : Around} {E : Value → Shared → Prop} {s : Shared} {h₀ : Heap} {L : Addr} {news : List (Addr × Obj)} {value slice : PySem.Expr} {l : Addr} {v0 v1 : Value} {n : Nat} {k : Int} {u : Tok} {Q : Value → Shared → Prop} (N : News h₀ L s.heap news) (hm : (l, listOf #[v0, v1] n) ∈ news)
    (h0 : 0 ≤ k) (h1 : k < 2) (q0 : Q v0 s) (q1 : Q v1 s) (hs : subscripted slice false (.ref l) (.int k u) = operate [.ref l, .int k u] (getItem (.ref l) (.int k u)) := by with_unfolding_all rfl) :
    wpAny (model prog w) A (subscriptTail value slice (.ref l) (.int k u)) Q E s := by
  rcases (show k = 0 ∨ k = 1 by omega) with rfl | rfl
  · exact item_at (vs := [v0, v1]) N hm (by omega) (by omega) rfl q0 hs
  · exact item_at (vs := [v0, v1]) N hm (by omega) (by omega) rfl q1 hs
local macro_rules | `(tactic| walk_at "subscriptTail") => `(tactic| (k_here; (with_reducible show wpAny _ _ (subscriptTail _ _ (Value.ref _) (Value.int _ _)) _ _ _); k_dflt (refine' two_at ?k1 ?k2 ?k3 ?k4 ?_ ?_ ?k6; (case k1 => k_asm); (case k2 => k_mem); (case k3 | k4 => omega); (case k6 => with_unfolding_all rfl))))
local macro_rules | `(tactic| walk_at "call ref") => `(tactic| walk_at "own voice")
local macro_rules | `(tactic| walk_at "eval ListComp") => `(tactic| walk_at "own compT")
local macro_rules | `(tactic| walk_at "ite") => `(tactic| (k_dflt (first | refine ite_neg (by simp only [beq_iff_eq, decide_eq_true_eq]; omega) ?_ | refine ite_pos (by simp only [beq_iff_eq, decide_eq_true_eq]; omega) ?_)))
local macro_rules | `(tactic| walk_at "execs cons") => `(tactic| (k_here; (with_reducible show wpAny _ _ (execs (Stmt.Assign [Expr.Name "whole" _] _ _ :: _) _) _ _ _); refine hold ?_))
set_option maxRecDepth 100000 in
set_option maxHeartbeats 8000000 in
theorem turn_a {w : World} {h₀ : Heap} {p : Program} {loose : List Str} {mean : ExcName → Option Value} {mg mb : Str → Option Value}
    {name qual : Str} {params : Arguments} {body : List Stmt} {scope : Scope} {dV kV doc pm cdv ct oc : Value} {an od : Option Addr} {osl : Array (Option Value)}
    (hK : (hd.heap_39 w.params).lookup 220 = some ⟨oc, od, .func (fnOf name qual params body scope dV kV doc pm an cdv ct), osl⟩)
    {L fa fr cl ch sl : Addr} {cd : Value} {m : Str → Option Value} {rest : List (Addr × Obj)} {S : List (Int × Int)} {oS oB oC : Obj} {vS : Option Value} {c0 c1 : Int} {t0 t1 n0 : Nat} {E : Value → Shared → Prop} {s : Shared} {Q : Flow → Shared → Prop}
    (B : Below callerA h₀ [] h₀) (F : Fr h₀ L s.heap m) (KX : (hd.heap_39 w.params).In h₀) (N : News h₀ L s.heap ((L + 1 + 1 + 1, oS) :: (ch, listOf #[.int c0 t0, .int c1 t1] n0) :: rest))
    (zB : (L + 1 + 1, oB) ∈ rest) (zC : (L + 1, oC) ∈ rest)
    (T : Top p loose mean mg mb h₀) (dS : oS.data = Data.cell vS) (dB : oB.data = Data.cell (some (.ref sl))) (dC : oC.data = Data.cell (some (.ref ch)))
    (hne1 : (L + 1 + 1 + 1 : Nat) ≠ ch) (hne2 : ∀ q ∈ rest, q.1 ≠ ch) (hne3 : ∀ q ∈ rest, q.1 ≠ L + 1 + 1 + 1) (g0 : 0 ≤ c0) (g1 : 0 ≤ c1) (g2 : c1 < 1000000)
    (hfr : m "frame" = some (.ref fr)) (a1 : AttrAt rest fr 155 "components" (.ref cl)) (a2 : CompsAre rest cl S) (a3 : SidesAre rest sl S) (b1 : Small S) (b4 : S.length ≤ 5)
    (h : ∀ (m' : Str → Option Value) (tk : Nat) (h' : Heap) (oS' : Obj) (vS' : Option Value) (c0' c1' : Int) (t0' t1' n0' : Nat), (∀ z : Str, z ≠ "way" → z ≠ "spot" → z ≠ "whole" → z ≠ "due" → z ≠ "scan" → m' z = m z) → oS'.data = Data.cell vS' → 0 ≤ c0' → 0 ≤ c1' → c1' < 1000000 →
      Fr h₀ L h' m' → News h₀ L h' ((L + 1 + 1 + 1, oS') :: (ch, listOf #[.int c0' t0', .int c1' t1'] n0') :: rest) → Q .next { s with heap := h', toks := tk }) :
    wpAny (model PySem.Challenge.rw_xm0817_01.row.prog w) (callerA.deeper (envOfC qual scope L fa cd)) (execs (forBody body) (envOfC qual scope L fa cd)) Q E s := by
  w_top off
  revert KX; k_fill; intro KX
  have hK2 := hK.symm.trans (show _ = some _ from by k_is)
  have hT := @turn_b w h₀ p loose mean mg mb _ _ _ _ _ _ _ _ _ _ _ _ _ _ _ hK
  clear hK
  cases hK2
  dsimp only [forBody, List.drop] at hT ⊢
  obtain ⟨svs, sk, e1, e2⟩ := id a3
  have e3 := e2.1
  k_steps
  unfold Hold
  refine LCt.CompSrcT.range (n := S.length) (by exact rfl) (by k_asm) (by k_asm) (by with_reducible assumption) ?hsm ?hn (by rw [sizeLine_eq]; omega) ?_
  case hsm => exact small_one (by omega) (by omega) (by omega) (by omega)
  case hn => exact (rangeSize_nat 0 (S.length : Int)).trans (by omega)
  intro g'
  refine compRestT_inv S.length (fun i ys nw => ∃ c0 c1 t0 t1 n0 ns, nw = (L + 1 + 1 + 1, oS) :: (ch, listOf #[.int c0 t0, .int c1 t1] n0) :: rest ∧ 0 ≤ c0 ∧ 0 ≤ c1 ∧ c1 < 1000000 ∧ IntsAre ys ns ∧ ns.length ≤ i) ?_ ?_ _ 0 [] _ (by omega) ⟨_, _, _, _, _, [], rfl, g0, g1, g2, .nil, Nat.le_refl _⟩
  · rintro i ys nw hi ⟨d0, d1, u0, u1, k0, ns, rfl, f0, f1, f2, hys, hlen⟩ v' I' oI' C' oC' D' m' h' tk' E' ⟨tv, rfl⟩ hC' hx' F' N' off' ne'
    have off2 := off'
    obtain ⟨⟨o1, o2, o3⟩, ⟨o4, o5, o6⟩, o7⟩ := off2
    dsimp only at o1 o2 o3 o4 o5 o6
    clear g0 g1 g2
    k_steps
    · refine LCg.CompEnd.intro (by with_reducible assumption) (by with_reducible assumption) _ (fun p hp => hp) ?off trivial ⟨_, _, _, _, _, _, rfl, by with_reducible assumption, by with_reducible assumption, by with_reducible assumption, ints_snoc hys rfl, ?_⟩
      case off => exact ⟨⟨o1, o2, o3⟩, ⟨o4, o5, o6⟩, o7⟩
      rw [List.length_append, List.length_singleton]
      omega
    · refine LCg.CompEnd.intro (by with_reducible assumption) (by with_reducible assumption) _ (fun p hp => hp) ?off trivial ⟨_, _, _, _, _, _, rfl, by with_reducible assumption, by with_reducible assumption, by with_reducible assumption, hys, ?_⟩
      case off => exact ⟨⟨o1, o2, o3⟩, ⟨o4, o5, o6⟩, o7⟩
      omega
  · rintro ys nw ⟨d0, d1, u0, u1, k0, ns, rfl, f0, f1, f2, hys, hlen⟩
    clear g0 g1 g2
    k_steps
    all_goals first
      | (exfalso; omega)
      | (unfold Hold
         refine hT (oB := oB) B (by with_reducible assumption) KX (by with_reducible assumption) (by k_mem) (by k_mem) T (by with_reducible assumption) dB (by exact hfr) (by k_mem) (by with_reducible assumption) ?_ (AttrAt.mono a1 (fun q hq => by k_mem)) (CompsAre.mono a2 (fun q hq => by k_mem)) (SidesAre.mono a3 (fun q hq => by k_mem)) b1 b4 ?_
         · first | omega | (simp only [List.length_append, List.length_reverse, List.length_take, List.length_drop, List.length_cons, List.length_nil]; omega)
         · intro m2 tk2 h2 e2 F2 N2
           refine h m2 _ _ _ _ _ _ _ _ _ (fun z z1 z2 z3 z4 z5 => (e2 z z3 z4 z5).trans ((if_neg z1).trans (if_neg z2))) (by with_reducible assumption) ?_ ?_ ?_ F2 (news_three N2 (by k_mem) (by k_mem) (fun q hq => by k_mem))
           · first | with_reducible assumption | omega
           · first | with_reducible assumption | omega
           · first | with_reducible assumption | omega)
end
section
def pairsD (S : List (Int × Int)) : List PyData := S.map fun q => .tuple [.int q.1, .int q.2]
theorem pairs_reads {h₀ h : Heap} {L : Addr} {led : List (Addr × Obj)} (N : News h₀ L h led) : ∀ {S : List (Int × Int)} {vs : List Value}, PairsAre led vs S → ReadsAll h vs (pairsD S) []
  | [], [], _ => .nil
  | [], _ :: _, x => nomatch x.1
  | _ :: _, [], x => nomatch x.1
  | q :: S, v :: vs, x => by
    obtain ⟨a, tx, ty, n, e1, e2⟩ := x.2 0 q rfl
    obtain rfl := Option.some.inj e1
    have r : PairsAre led vs S := ⟨Nat.succ.inj x.1, fun i q e => x.2 (i + 1) q e⟩
    have h1 : ReadsAll h [Value.int q.1 tx, Value.int q.2 ty] [.int q.1, .int q.2] ([] ++ ([] ++ [])) := .cons (.int _ _) (.cons (.int _ _) .nil)
    have h2 : Reads h (.ref a) (.tuple [.int q.1, .int q.2]) [] := .tuple (N _ e2).1 rfl rfl h1
    have := ReadsAll.cons h2 (pairs_reads N r)
    simpa [pairsD] using this
theorem pairs_lay : ∀ S : List (Int × Int), PyData.canLayAll0 (pairsD S) = true
  | [] => by simp [pairsD, PyData.canLayAll0]
  | q :: S => by
    have := pairs_lay S
    simp only [pairsD] at this
    simp [pairsD, PyData.canLayAll0, PyData.canLay0, this]
theorem pairs_depth : ∀ S : List (Int × Int), PyData.depthAll (pairsD S) ≤ 4
  | [] => by simp [pairsD, PyData.depthAll]
  | q :: S => by
    have := pairs_depth S
    simp only [pairsD] at this ⊢
    simp only [List.map_cons, PyData.depthAll, PyData.depth]
    omega
theorem pairs_shaped (S : List (Int × Int)) : SeqAt.shaped (.list (pairsD S)) = true := by
  have h1 := pairs_depth S
  have h2 : PyData.depth (.list (pairsD S)) ≤ 64 := by simp only [PyData.depth]; omega
  show (PyData.canLay0 (.list (pairsD S)) && decide (PyData.depth (.list (pairsD S)) ≤ 64)) = true
  rw [Bool.and_eq_true]
  exact ⟨by simp only [PyData.canLay0]; exact pairs_lay S, decide_eq_true h2⟩
theorem pairs_noMix : ∀ S : List (Int × Int), SeqAt.noMixAll (pairsD S) (pairsD S) = true
  | [] => by simp [pairsD, SeqAt.noMixAll]
  | q :: S => by
    have := pairs_noMix S
    simp only [pairsD] at this
    simp [pairsD, SeqAt.noMixAll, SeqAt.noMix, this]
theorem pairs_same : ∀ S : List (Int × Int), PySem.Spec.sameAll (pairsD S) (pairsD S) = true
  | [] => by simp [pairsD, PySem.Spec.sameAll]
  | q :: S => by
    have := pairs_same S
    simp only [pairsD] at this
    simp [pairsD, PySem.Spec.sameAll, PySem.Spec.same, this]
theorem eq_pairs {prog : Program} {w : World} {A : Around} {E : Value → Shared → Prop} {s : Shared} {Q : Value → Shared → Prop} {h₀ : Heap} {L a b : Addr} {led : List (Addr × Obj)} {S : List (Int × Int)} {vs us : List Value} {k l : Nat}
    (N : News h₀ L s.heap led) (ha : (a, listOf vs.toArray k) ∈ led) (hb : (b, listOf us.toArray l) ∈ led) (x : PairsAre led vs S) (y : PairsAre led us S) (hu : A.units + 64 < cLine) (h : Q (.bool true) s) :
    wpAny (model prog w) A (compareOp .Eq (.ref a) (.ref b)) Q E s := by
  refine PyProof.Rows.eq_dataH_same (Reads.list (N _ ha).1 rfl rfl (pairs_reads N x)) (Reads.list (N _ hb).1 rfl rfl (pairs_reads N y)) (pairs_shaped S) (pairs_shaped S) hu ?_ ?_
  · simp only [SeqAt.noMix]; exact pairs_noMix S
  · simp only [PySem.Spec.same]; rw [pairs_same]; exact h
end
section
theorem pairs_snoc {led : List (Addr × Obj)} {ys : List Value} {S : List (Int × Int)} {a : Addr} {q : Int × Int} {tx ty : Tok} {n : Nat} (x : PairsAre led ys S) (hm : (a, tupOf #[.int q.1 tx, .int q.2 ty] n) ∈ led) : PairsAre led (ys ++ [.ref a]) (S ++ [q]) := by
  refine ⟨by rw [List.length_append, List.length_append, x.1, List.length_singleton, List.length_singleton], fun i q' e => ?_⟩
  by_cases hi : i < S.length
  · rw [List.getElem?_append_left hi] at e
    obtain ⟨b, t1, t2, k, e1, e2⟩ := x.2 i q' e
    exact ⟨b, t1, t2, k, by rw [List.getElem?_append_left (by rw [x.1]; exact hi)]; exact e1, e2⟩
  · rw [List.getElem?_append_right (Nat.not_lt.mp hi)] at e
    have h0 : i - S.length = 0 := by
      cases hj : i - S.length with
      | zero => rfl
      | succ j => rw [hj] at e; simp at e
    rw [h0] at e
    obtain rfl := Option.some.inj e
    exact ⟨a, tx, ty, n, by rw [List.getElem?_append_right (by rw [x.1]; exact Nat.not_lt.mp hi), x.1, h0]; rfl, hm⟩
local macro_rules | `(tactic| walk_at "getAttr ref") => `(tactic| walk_at "own attr")
local macro_rules | `(tactic| walk_at "eval Name") => `(tactic| walk_at "own name")
local macro_rules | `(tactic| walk_at "compareOp Eq ref ref") => `(tactic| (refine hold ?_))
local macro_rules | `(tactic| walk_at "eval ListComp") => `(tactic| walk_at "own comp")
set_option maxRecDepth 100000 in
set_option maxHeartbeats 8000000 in
theorem law5 {w : World} {h₀ : Heap} {p : Program} {loose : List Str} {mean : ExcName → Option Value} {mg mb : Str → Option Value}
    {name qual : Str} {params : Arguments} {body : List Stmt} {scope : Scope} {dV kV doc pm cdv ct oc : Value} {an od : Option Addr} {osl : Array (Option Value)}
    (hK : (hd.heap_39 w.params).lookup 220 = some ⟨oc, od, .func (fnOf name qual params body scope dV kV doc pm an cdv ct), osl⟩)
    {L fa fr cl sl : Addr} {cd : Value} {m : Str → Option Value} {news : List (Addr × Obj)} {S : List (Int × Int)} {oB : Obj} {E : Value → Shared → Prop} {s : Shared} {Q : Flow → Shared → Prop}
    (B : Below callerA h₀ [] h₀) (F : Fr h₀ L s.heap m) (KX : (hd.heap_39 w.params).In h₀) (N : News h₀ L s.heap news) (zB : (L + 1 + 1, oB) ∈ news)
    (T : Top p loose mean mg mb h₀) (dB : oB.data = Data.cell (some (.ref sl)))
    (hfr : m "frame" = some (.ref fr)) (a1 : AttrAt news fr 155 "components" (.ref cl)) (a2 : CompsAre news cl S) (a3 : SidesAre news sl S) (b1 : Small S) (b4 : S.length ≤ 5)
    (h : ∀ (m' : Str → Option Value) (tk : Nat) (h' : Heap), Fr h₀ L h' m' → Q (.ret (.bool true)) { s with heap := h', toks := tk }) :
    wpAny (model PySem.Challenge.rw_xm0817_01.row.prog w) (callerA.deeper (envOfC qual scope L fa cd)) (execs (body.drop 4) (envOfC qual scope L fa cd)) Q E s := by
  w_top off
  revert KX; k_fill; intro KX
  have hK2 := hK.symm.trans (show _ = some _ from by k_is)
  clear hK
  cases hK2
  dsimp only [List.drop]
  obtain ⟨svs, sk, c1, c2⟩ := id a3
  obtain ⟨cvs, ck, d1, d2, d3⟩ := id a2
  k_steps
  unfold Hold
  refine LCg.CompSrc.ledger (by exact rfl) (by k_asm) (by k_asm) d1 (by rw [List.size_toArray, d2, sizeLine_eq]; omega) ?_
  intro g'
  rw [List.size_toArray, d2]
  refine compRest_inv S.length (fun i ys nw => (∀ q ∈ news, q ∈ nw) ∧ PairsAre nw ys (S.take i)) ?_ ?_ _ 0 [] _ (by omega) ⟨fun _ h => h, rfl, fun i q e => by simp at e⟩
  · rintro i ys nw hi ⟨hsub, hys⟩ v' I' oI' C' oC' D' m' h' tk' E' hv' hC' hx' F' N' off' ne'
    have hsi : S[i]? = some S[i] := List.getElem?_eq_getElem hi
    obtain ⟨c, tx, ty, e1, e2, e3⟩ := d3 i _ hsi
    rw [List.getElem?_toArray, e1] at hv'
    obtain rfl := Option.some.inj hv'
    have e2 := e2.mono (news' := (I', oI') :: (C', oC') :: (D', LCg.lst ys) :: nw) fun q hq => .tail _ (.tail _ (.tail _ (hsub _ hq)))
    have e3 := e3.mono (news' := (I', oI') :: (C', oC') :: (D', LCg.lst ys) :: nw) fun q hq => .tail _ (.tail _ (.tail _ (hsub _ hq)))
    k_steps
    rename_i Dn hn Fn Nn ln
    refine LCg.CompEnd.intro Fn Nn ((Dn, tupOf #[.int S[i].1 tx, .int S[i].2 ty] 0) :: nw) (fun p hp => ?_) ?_ (Or.inr ⟨_, .tail _ (hsub _ d1), rfl, _, rfl⟩) ⟨fun q hq => .tail _ (hsub _ hq), ?_⟩
    · simp only [List.mem_cons] at hp ⊢
      rcases hp with hp | hp | hp | hp | hp <;> simp [hp]
    · refine ⟨?_, off'⟩
      refine ⟨?_, ?_, ?_⟩ <;> (dsimp only; omega)
    · rw [List.take_add_one, hsi]
      exact pairs_snoc (hys.mono fun _ h => .tail _ h) (List.mem_cons_self)
  · rintro ys nw ⟨hsub, hys⟩
    rw [List.take_length] at hys
    have w1 := hsub _ zB
    have w2 := hsub _ c1
    have w3 := c2.mono hsub
    k_steps
    unfold Hold
    k_dflt (refine' eq_pairs ?k1 ?k2 ?k3 ?k4 ?k5 ?k6 ?_; (case k1 => k_asm); (case k2 | k3 => k_mem); (case k4 => exact PairsAre.mono (by with_reducible assumption) fun _ h => .tail _ h); (case k5 => exact PairsAre.mono (by with_reducible assumption) fun _ h => .tail _ h); (case k6 => units_room); k_whole)
    k_steps
    exact h _ _ _ (by with_reducible assumption)
end
section
local macro_rules | `(tactic| k_all) => `(tactic| walk_at "own all")
local macro_rules | `(tactic| walk_at "execs cons") => `(tactic| (k_here; (with_reducible show wpAny _ _ (execs (Stmt.Assign [Expr.Name "some" _] _ _ :: _) _) _ _ _); refine hold ?_))
local macro_rules | `(tactic| walk_at "execs cons") => `(tactic| (k_here; (with_reducible show wpAny _ _ (execs (Stmt.Return _ _ :: _) _) _ _ _); refine hold ?_))
local macro_rules | `(tactic| walk_at "pyIter ref") => `(tactic| (refine hold ?_))
local macro_rules | `(tactic| walk_at "exec For Name Call cons nil") => `(tactic| (refine hold ?_))
local macro_rules | `(tactic| walk_at "no such key") => `(tactic| fail "no such key")
set_option maxRecDepth 100000 in
set_option maxHeartbeats 8000000 in
theorem law4 {w : World} {h₀ : Heap} {p : Program} {loose : List Str} {mean : ExcName → Option Value} {mg mb : Str → Option Value}
    {name qual : Str} {params : Arguments} {body : List Stmt} {scope : Scope} {dV kV doc pm cdv ct oc : Value} {an od : Option Addr} {osl : Array (Option Value)}
    (hK : (hd.heap_39 w.params).lookup 220 = some ⟨oc, od, .func (fnOf name qual params body scope dV kV doc pm an cdv ct), osl⟩)
    {L fa fr cl ch sl : Addr} {cd : Value} {m : Str → Option Value} {rest : List (Addr × Obj)} {S : List (Int × Int)} {oS oB oC : Obj} {vS : Option Value} {c0 c1 : Int} {t0 t1 n0 : Nat} {E : Value → Shared → Prop} {s : Shared} {Q : Flow → Shared → Prop}
    (B : Below callerA h₀ [] h₀) (F : Fr h₀ L s.heap m) (KX : (hd.heap_39 w.params).In h₀) (N : News h₀ L s.heap ((L + 1 + 1 + 1, oS) :: (ch, listOf #[.int c0 t0, .int c1 t1] n0) :: rest))
    (zB : (L + 1 + 1, oB) ∈ rest) (zC : (L + 1, oC) ∈ rest)
    (T : Top p loose mean mg mb h₀) (dS : oS.data = Data.cell vS) (dB : oB.data = Data.cell (some (.ref sl))) (dC : oC.data = Data.cell (some (.ref ch)))
    (hne1 : (L + 1 + 1 + 1 : Nat) ≠ ch) (hne2 : ∀ q ∈ rest, q.1 ≠ ch) (hne3 : ∀ q ∈ rest, q.1 ≠ L + 1 + 1 + 1) (g0 : 0 ≤ c0) (g1 : 0 ≤ c1) (g2 : c1 < 1000000)
    (hfr : m "frame" = some (.ref fr)) (a1 : AttrAt rest fr 155 "components" (.ref cl)) (a2 : CompsAre rest cl S) (a3 : SidesAre rest sl S) (b1 : Small S) (b4 : S.length ≤ 5)
    (hE : PassesOwn (model PySem.Challenge.rw_xm0817_01.row.prog w) (callerA.deeper (envOfC qual scope L fa cd)) (envOfC qual scope L fa cd) E)
    (h : ∀ (m' : Str → Option Value) (tk : Nat) (h' : Heap), Fr h₀ L h' m' → Q (.ret (.bool true)) { s with heap := h', toks := tk }) :
    wpAny (model PySem.Challenge.rw_xm0817_01.row.prog w) (callerA.deeper (envOfC qual scope L fa cd)) (execs (body.drop 3) (envOfC qual scope L fa cd)) Q E s := by
  w_top off
  revert KX; k_fill; intro KX
  have hK2 := hK.symm.trans (show _ = some _ from by k_is)
  have hT := @turn_a w h₀ p loose mean mg mb _ _ _ _ _ _ _ _ _ _ _ _ _ _ _ hK
  have hR := @law5 w h₀ p loose mean mg mb _ _ _ _ _ _ _ _ _ _ _ _ _ _ _ hK
  clear hK
  cases hK2
  dsimp only [forBody, List.drop] at hT hR ⊢
  k_steps
  unfold Hold
  refine For_invVF F rfl rfl ?_ (hE := hE)
  k_steps
  unfold Hold
  refine iter_rangeS (σ := Unit) (fun _ m1 nx => m1 "frame" = some (.ref fr) ∧ ∃ oS' vS' c0' c1' t0' t1' n0', nx = (L + 1 + 1 + 1, oS') :: (ch, listOf #[.int c0' t0', .int c1' t1'] n0') :: rest ∧ oS'.data = Data.cell vS' ∧ 0 ≤ c0' ∧ 0 ≤ c1' ∧ c1' < 1000000) (fun _ _ => ()) () (by exact rfl) (by with_reducible assumption) (by decide) (show _ = ((4 : Nat) : Int) by rfl) (by assumption) (by assumption) ⟨hfr, oS, vS, c0, c1, t0, t1, n0, rfl, dS, g0, g1, g2⟩ ?_ ?_
  · rintro k t a m1 nx h3 tk3 own hk hoff ⟨hfr1, oS1, vS1, d0, d1, u0, u1, n1, rfl, dS1, f0, f1, f2⟩ F3 N3
    have o1 := hoff.ne (b := L + 1 + 1 + 1) (by simp)
    have o2 := hoff.ne (b := ch) (by simp)
    have N4 : News h₀ L h3 ((L + 1 + 1 + 1, oS1) :: (ch, listOf #[.int d0 u0, .int d1 u1] n1) :: (rest ++ own)) := N3
    refine hT (rest := rest ++ own) B F3 KX N4 (List.mem_append_left _ zB) (List.mem_append_left _ zC) T dS1 dB dC hne1 ?_ ?_ f0 f1 f2 ?_ (a1.mono fun q hq => List.mem_append_left _ hq) (a2.mono fun q hq => List.mem_append_left _ hq) (a3.mono fun q hq => List.mem_append_left _ hq) b1 b4 ?_
    · intro q hq
      rcases List.mem_append.mp hq with hq | hq
      · exact hne2 q hq
      · exact o2 q hq
    · intro q hq
      rcases List.mem_append.mp hq with hq | hq
      · exact hne3 q hq
      · exact o1 q hq
    · exact hfr1
    · intro m' tk' h' oS' vS' c0' c1' t0' t1' n0' hm dS' e0 e1 e2 F' N'
      refine ⟨h', tk', m', _, (L + 1 + 1 + 1, oS') :: (ch, listOf #[.int c0' t0', .int c1' t1'] n0') :: rest, rfl, F', N', fun q hq => ?_, fun q hq => .tail _ (.tail _ (List.mem_append_right _ hq)), rfl, ?_, oS', vS', c0', c1', t0', t1', n0', rfl, dS', e0, e1, e2⟩
      · rcases List.mem_cons.mp hq with rfl | hq
        · exact .head _
        · rcases List.mem_cons.mp hq with rfl | hq
          · exact .tail _ (.head _)
          · exact .tail _ (.tail _ (List.mem_append_left _ hq))
      · exact (hm "frame" (by decide) (by decide) (by decide) (by decide) (by decide)).trans hfr1
  · rintro m1 nx h3 tk3 ⟨hfr1, oS1, vS1, d0, d1, u0, u1, n1, rfl, dS1, f0, f1, f2⟩ F3 N3
    k_steps
    unfold Hold
    exact hR B F3 KX N3 (.tail _ (.tail _ zB)) T dB hfr1 (a1.mono fun q hq => .tail _ (.tail _ hq)) (a2.mono fun q hq => .tail _ (.tail _ hq)) (a3.mono fun q hq => .tail _ (.tail _ hq)) b1 b4 fun m' tk h' Fe => h _ _ _ Fe
end
section
def CompsPart (r : List (Addr × Obj)) (ys : List Value) (S : List (Int × Int)) : Prop := ys.length = S.length ∧
  ∀ (i : Nat) (q : Int × Int), S[i]? = some q → ∃ c tx ty, ys[i]? = some (.ref c) ∧ AttrAt r c 89 "across" (.int q.1 tx) ∧ AttrAt r c 89 "down" (.int q.2 ty)
theorem CompsPart.mono {r r' : List (Addr × Obj)} {ys : List Value} {S : List (Int × Int)} (x : CompsPart r ys S) (h : ∀ p ∈ r, p ∈ r') : CompsPart r' ys S :=
  ⟨x.1, fun i q e => let ⟨c, tx, ty, a, b, d⟩ := x.2 i q e; ⟨c, tx, ty, a, b.mono h, d.mono h⟩⟩
theorem comps_snoc {r : List (Addr × Obj)} {ys : List Value} {S : List (Int × Int)} {c : Addr} {q : Int × Int} {tx ty : Tok} (x : CompsPart r ys S) (h1 : AttrAt r c 89 "across" (.int q.1 tx)) (h2 : AttrAt r c 89 "down" (.int q.2 ty)) :
    CompsPart r (ys ++ [.ref c]) (S ++ [q]) := by
  refine ⟨by rw [List.length_append, List.length_append, x.1, List.length_singleton, List.length_singleton], fun i q' e => ?_⟩
  by_cases hi : i < S.length
  · rw [List.getElem?_append_left hi] at e
    obtain ⟨b, t1, t2, e1, e2, e3⟩ := x.2 i q' e
    exact ⟨b, t1, t2, by rw [List.getElem?_append_left (by rw [x.1]; exact hi)]; exact e1, e2, e3⟩
  · rw [List.getElem?_append_right (Nat.not_lt.mp hi)] at e
    have h0 : i - S.length = 0 := by
      cases hj : i - S.length with
      | zero => rfl
      | succ j => rw [hj] at e; simp at e
    rw [h0] at e
    obtain rfl := Option.some.inj e
    exact ⟨c, tx, ty, by rw [List.getElem?_append_right (by rw [x.1]; exact Nat.not_lt.mp hi), x.1, h0]; rfl, h1, h2⟩
local macro_rules | `(tactic| k_all) => `(tactic| walk_at "own all")
local macro_rules | `(tactic| walk_at "call ref") => `(tactic| (refine hold ?_))
local macro_rules | `(tactic| walk_at "subscriptTail Subscript Name Name Constant ref int") => `(tactic| walk_at "own tup")
local macro_rules | `(tactic| walk_at "subscriptTail Name Name ref int") => `(tactic| walk_at "own item")
local macro_rules | `(tactic| walk_at "eval ListComp") => `(tactic| walk_at "own comp")
local macro_rules | `(tactic| walk_at "execs cons") => `(tactic| (k_here; (with_reducible show wpAny _ _ (execs (Stmt.For _ _ _ _ _ :: _) _) _ _ _); refine hold ?_))
local macro_rules | `(tactic| walk_at "no such key") => `(tactic| fail "no such key")
set_option maxRecDepth 100000 in
set_option maxHeartbeats 8000000 in
theorem law3 {w : World} {h₀ : Heap} {p : Program} {loose : List Str} {mean : ExcName → Option Value} {mg mb : Str → Option Value}
    {name qual : Str} {params : Arguments} {body : List Stmt} {scope : Scope} {dV kV doc pm cdv ct oc : Value} {an od : Option Addr} {osl : Array (Option Value)}
    (hK : (hd.heap_39 w.params).lookup 220 = some ⟨oc, od, .func (fnOf name qual params body scope dV kV doc pm an cdv ct), osl⟩)
    {L fa ch sl : Addr} {cd : Value} {m : Str → Option Value} {rest : List (Addr × Obj)} {S : List (Int × Int)} {oS oB oC : Obj} {vS : Option Value} {c0 c1 : Int} {t0 t1 n0 : Nat} {E : Value → Shared → Prop} {s : Shared} {Q : Flow → Shared → Prop}
    (B : Below callerA h₀ [] h₀) (F : Fr h₀ L s.heap m) (KX : (hd.heap_39 w.params).In h₀) (N : News h₀ L s.heap ((L + 1 + 1 + 1, oS) :: (ch, listOf #[.int c0 t0, .int c1 t1] n0) :: rest))
    (zB : (L + 1 + 1, oB) ∈ rest) (zC : (L + 1, oC) ∈ rest)
    (T : Top p loose mean mg mb h₀) (dS : oS.data = Data.cell vS) (dB : oB.data = Data.cell (some (.ref sl))) (dC : oC.data = Data.cell (some (.ref ch)))
    (hne1 : (L + 1 + 1 + 1 : Nat) ≠ ch) (hne2 : ∀ q ∈ rest, q.1 ≠ ch) (hne3 : ∀ q ∈ rest, q.1 ≠ L + 1 + 1 + 1) (g0 : 0 ≤ c0) (g1 : 0 ≤ c1) (g2 : c1 < 1000000)
    (a3 : SidesAre rest sl S) (b1 : Small S) (b4 : S.length ≤ 5)
    (hE : PassesOwn (model PySem.Challenge.rw_xm0817_01.row.prog w) (callerA.deeper (envOfC qual scope L fa cd)) (envOfC qual scope L fa cd) E)
    (h : ∀ (m' : Str → Option Value) (tk : Nat) (h' : Heap), Fr h₀ L h' m' → Q (.ret (.bool true)) { s with heap := h', toks := tk }) :
    wpAny (model PySem.Challenge.rw_xm0817_01.row.prog w) (callerA.deeper (envOfC qual scope L fa cd)) (execs (body.drop 2) (envOfC qual scope L fa cd)) Q E s := by
  w_top off
  revert KX; k_fill; intro KX
  have hK2 := hK.symm.trans (show _ = some _ from by k_is)
  have hT := @law4 w h₀ p loose mean mg mb _ _ _ _ _ _ _ _ _ _ _ _ _ _ _ hK
  clear hK
  cases hK2
  dsimp only [List.drop] at hT ⊢
  obtain ⟨svs, sk, e1, e2⟩ := id a3
  have e3 := e2.1
  k_steps
  unfold Hold
  have hn1 : Builtin.Range.rangeSize 0 (↑S.length) 1 = ((S.length : Nat) : Int) := (rangeSize_nat 0 (S.length : Int)).trans (by omega)
  refine LCg.CompSrc.range (n := S.length) (by exact rfl) (by k_asm) (by k_asm) (by with_reducible assumption) (small_one (by omega) (by omega) (by omega) (by omega)) hn1 (by rw [sizeLine_eq]; omega) ?_
  intro g'
  refine compRest_inv S.length (fun i ys nw => ∃ r, nw = (L + 1 + 1 + 1, oS) :: (ch, listOf #[.int c0 t0, .int c1 t1] n0) :: r ∧ (∀ q ∈ rest, q ∈ r) ∧ (∀ q ∈ r, q.1 ≠ ch) ∧ (∀ q ∈ r, q.1 ≠ L + 1 + 1 + 1) ∧ CompsPart r ys (S.take i)) ?_ ?_ _ 0 [] _ (by omega) ⟨rest, rfl, fun _ h => h, hne2, hne3, rfl, fun i q e => by simp at e⟩
  · rintro i ys nw hi ⟨r, rfl, hsub, hr1, hr2, hys⟩ v' I' oI' C' oC' D' m' h' tk' E' ⟨tv, rfl⟩ hC' hx' F' N' off' ne'
    have hsi : S[i]? = some S[i] := List.getElem?_eq_getElem hi
    obtain ⟨ta, tx, ty, tn, u1, u2⟩ := e2.2 i _ hsi
    have u3 : svs[(0 + (i : Int)).toNat]? = some (.ref ta) := by rw [show (0 + (i : Int)).toNat = i by omega]; exact u1
    have w1 := hsub _ zB
    have w2 := hsub _ e1
    have w3 := hsub _ u2
    k_steps
    unfold Hold
    refine component_call B F' KX N' T (Around.frames_deeper (Below.stack B)) rfl rfl (by k_room) rfl ?_
    intro c dx es n h4 tk4 F4 N4 l1 l2 y1 y2
    obtain ⟨p1, p2, p3⟩ := off'
    have k1 := l1 _ (.head _)
    have k2 := l1 _ (.tail _ (.head _))
    have k3 := l1 _ (.tail _ (.tail _ (.head _)))
    have k4 := l1 _ (.tail _ (.tail _ (.tail _ (.head _))))
    have k5 := l1 _ (.tail _ (.tail _ (.tail _ (.tail _ (.head _)))))
    have j1 := l2 _ (.head _)
    have j2 := l2 _ (.tail _ (.head _))
    have j3 := l2 _ (.tail _ (.tail _ (.head _)))
    have j4 := l2 _ (.tail _ (.tail _ (.tail _ (.head _))))
    have j5 := l2 _ (.tail _ (.tail _ (.tail _ (.tail _ (.head _)))))
    refine LCg.CompEnd.intro F4 N4 ((L + 1 + 1 + 1, oS) :: (ch, listOf #[.int c0 t0, .int c1 t1] n0) :: (c, instObj 89 dx) :: (dx, dictOf es n) :: r) (fun q hq => ?_) ⟨p1, p2, ⟨Nat.ne_of_gt k1, Nat.ne_of_gt k2, Nat.ne_of_gt k3⟩, ⟨Nat.ne_of_gt j1, Nat.ne_of_gt j2, Nat.ne_of_gt j3⟩, p3⟩ trivial ⟨_, rfl, fun q hq => .tail _ (.tail _ (hsub _ hq)), ?_, ?_, ?_⟩
    · simp only [List.mem_cons] at hq ⊢
      rcases hq with hq | hq | hq | hq | hq | hq | hq | hq <;> simp [hq]
    · exact allNe_cons (Nat.ne_of_gt k5) (allNe_cons (Nat.ne_of_gt j5) hr1)
    · exact allNe_cons (Nat.ne_of_gt k4) (allNe_cons (Nat.ne_of_gt j4) hr2)
    · rw [List.take_add_one, hsi]
      exact comps_snoc (hys.mono fun _ h => .tail _ (.tail _ h)) ⟨⟨_, _, _, .head _, .tail _ (.head _), y1⟩⟩ ⟨⟨_, _, _, .head _, .tail _ (.head _), y2⟩⟩
  · rintro ys nw ⟨r, rfl, hsub, hr1, hr2, hys⟩
    rw [List.take_length] at hys
    k_steps
    unfold Hold
    rename_i Dn hn tkn Fn Nn on
    refine frame_call B Fn KX Nn T (Around.frames_deeper (Below.stack B)) rfl rfl (by k_room) rfl ?_
    intro c dx es n h4 tk4 F4 N4 l1 l2 y1
    have k1 := l1 _ (.tail _ (.head _))
    have k2 := l1 _ (.tail _ (.tail _ (.head _)))
    have j1 := l2 _ (.tail _ (.head _))
    have j2 := l2 _ (.tail _ (.tail _ (.head _)))
    k_steps
    unfold Hold
    refine hT (t0 := t0) (t1 := t1) (n0 := n0) (rest := (c, instObj 155 dx) :: (dx, dictOf es n) :: (Dn, LCg.lst ys) :: r) B (by with_reducible assumption) KX (news_sub (by with_reducible assumption) (fun q hq => ?_)) (.tail _ (.tail _ (.tail _ (hsub _ zB)))) (.tail _ (.tail _ (.tail _ (hsub _ zC)))) T dS dB dC hne1 ?_ ?_ g0 g1 g2 rfl ⟨⟨_, _, _, .head _, .tail _ (.head _), y1⟩⟩ ⟨ys, ys.length, .tail _ (.tail _ (.head _)), hys.1, (hys.mono fun _ h => .tail _ (.tail _ (.tail _ h))).2⟩ (a3.mono fun _ h => .tail _ (.tail _ (.tail _ (hsub _ h)))) b1 b4 hE ?_
    · simp only [List.mem_cons] at hq ⊢
      rcases hq with hq | hq | hq | hq | hq | hq <;> simp [hq]
    · exact allNe_cons (Nat.ne_of_gt k2) (allNe_cons (Nat.ne_of_gt j2) (allNe_cons (Ne.symm on.2.1) hr1))
    · exact allNe_cons (Nat.ne_of_gt k1) (allNe_cons (Nat.ne_of_gt j1) (allNe_cons (Ne.symm on.1) hr2))
    · exact fun m' tk h' Fe => h _ _ _ Fe
end
section
theorem five_at {prog : Program} {w : World} {A : Around} {E : Value → Shared → Prop} {s : Shared} {h₀ : Heap} {L : Addr} {news : List (Addr × Obj)} {value slice : PySem.Expr} {l : Addr} {v0 v1 v2 v3 v4 : Value} {n : Nat} {k : Int} {u : Tok} {Q : Value → Shared → Prop} (N : News h₀ L s.heap news) (hm : (l, tupOf #[v0, v1, v2, v3, v4] n) ∈ news)
    (h0 : 0 ≤ k) (h1 : k < 5) (q0 : Q v0 s) (q1 : Q v1 s) (q2 : Q v2 s) (q3 : Q v3 s) (q4 : Q v4 s) (hs : subscripted slice false (.ref l) (.int k u) = operate [.ref l, .int k u] (getItem (.ref l) (.int k u)) := by with_unfolding_all rfl) :
    wpAny (model prog w) A (subscriptTail value slice (.ref l) (.int k u)) Q E s := by
  have ht : IsTup s.heap l (List.toArray [v0, v1, v2, v3, v4]) := News.isTup N hm
  rcases (show k = 0 ∨ k = 1 ∨ k = 2 ∨ k = 3 ∨ k = 4 by omega) with rfl | rfl | rfl | rfl | rfl
  · exact item_tupleT ht (by decide) (by decide) (j := 0) rfl rfl q0 hs
  · exact item_tupleT ht (by decide) (by decide) (j := 1) rfl rfl q1 hs
  · exact item_tupleT ht (by decide) (by decide) (j := 2) rfl rfl q2 hs
  · exact item_tupleT ht (by decide) (by decide) (j := 3) rfl rfl q3 hs
  · exact item_tupleT ht (by decide) (by decide) (j := 4) rfl rfl q4 hs
/-- the sides so far: the choir's list, the own tuples above it, the rest of the ledger as it stood -/
def SInv (ch : Addr) (r0 : List (Addr × Obj)) (i : Nat) (ys : List Value) (nw : List (Addr × Obj)) : Prop :=
  ∃ c0 c1 t0 t1 n0 own S, nw = (ch, listOf #[.int c0 t0, .int c1 t1] n0) :: (own ++ r0) ∧ (∀ q ∈ own, ch < q.1) ∧ 0 ≤ c0 ∧ 0 ≤ c1 ∧ c1 < 1000000 ∧ PairsAre own ys S ∧ Small S ∧ S.length = i
theorem side_end {h₀ : Heap} {L I C D ch a : Addr} {m : Str → Option Value} {s₁ : Shared} {oI oC oD : Obj} {h' : Heap} {tk i : Nat} {all own r0 r1 : List (Addr × Obj)} {ys : List Value} {S : List (Int × Int)} {c0 c1 x y : Int} {t0 t1 tx ty n0 n : Nat}
    (F : Fr h₀ L h' m) (N : News h₀ L h' all) (hr1 : r1 = own ++ r0) (hI : (I, oI) ∈ all) (hC : (C, oC) ∈ all) (hD : (D, oD) ∈ all) (hc : (ch, listOf #[.int c0 t0, .int c1 t1] n0) ∈ all) (ha : (a, tupOf #[.int x tx, .int y ty] n) ∈ all) (hr : ∀ q ∈ r1, q ∈ all)
    (la : (@LT.lt Nat _ ch a ∧ @LT.lt Nat _ I a) ∧ @LT.lt Nat _ C a ∧ @LT.lt Nat _ D a) (off : (ch ≠ I ∧ ch ≠ C ∧ ch ≠ D) ∧ LCg.Off3 I C D r1) (hown : ∀ q ∈ own, ch < q.1) (f0 : 0 ≤ c0) (f1 : 0 ≤ c1) (f2 : c1 < 1000000) (hys : PairsAre own ys S) (hS : Small S) (hlen : S.length = i)
    (hxy : (1 ≤ x ∧ x ≤ 4) ∧ (1 ≤ y ∧ y ≤ 4)) :
    LCg.CompEnd h₀ L m s₁ I oI C oC D oD (fun _ => True) (fun v nw => SInv ch r0 (i + 1) (ys ++ [v]) nw) (.ref a) { s₁ with heap := h', toks := tk } := by
  subst hr1
  refine LCg.CompEnd.intro F N ((ch, listOf #[.int c0 t0, .int c1 t1] n0) :: ((a, tupOf #[.int x tx, .int y ty] n) :: own ++ r0)) (fun q hq => ?_) ⟨off.1, ⟨Nat.ne_of_gt la.1.2, Nat.ne_of_gt la.2.1, Nat.ne_of_gt la.2.2⟩, off.2⟩ trivial
    ⟨c0, c1, t0, t1, n0, (a, tupOf #[.int x tx, .int y ty] n) :: own, S ++ [(x, y)], rfl, fun q hq => ?_, f0, f1, f2, pairs_snoc (hys.mono fun _ h => .tail _ h) (.head _), fun q hq => ?_, by rw [List.length_append, List.length_singleton, hlen]⟩
  · rcases List.mem_cons.mp hq with rfl | hq
    · exact hI
    rcases List.mem_cons.mp hq with rfl | hq
    · exact hC
    rcases List.mem_cons.mp hq with rfl | hq
    · exact hD
    rcases List.mem_cons.mp hq with rfl | hq
    · exact hc
    rcases List.mem_cons.mp hq with rfl | hq
    · exact ha
    · exact hr _ hq
  · rcases List.mem_cons.mp hq with rfl | hq
    · exact la.1.1
    · exact hown q hq
  · rcases List.mem_append.mp hq with hq | hq
    · exact hS q hq
    · rw [List.mem_singleton.mp hq]; exact hxy
theorem off1_mem {D : Addr} : ∀ {l : List (Addr × Obj)}, LCg.Off1 D l → ∀ p ∈ l, p.1 ≠ D
  | [], _, _, h => nomatch h
  | _ :: _, x, p, h => by
    rcases List.mem_cons.mp h with rfl | h
    · exact x.1
    · exact off1_mem x.2 p h
local macro_rules | `(tactic| k_all) => `(tactic| with_reducible assumption)
local macro_rules | `(tactic| walk_at "call ref") => `(tactic| walk_at "own voice")
local macro_rules | `(tactic| walk_at "eval ListComp") => `(tactic| (k_here; k_dflt (refine LCg.ListComp_U (F₀ := by k_asm) (by with_unfolding_all rfl) (by decide) (by rfl) (by decide) (by rfl) ?_); refine hold ?_))
local macro_rules | `(tactic| walk_at "subscriptTail") => `(tactic| (refine hold ?_))
local macro_rules | `(tactic| walk_at "execs cons") => `(tactic| (k_here; (with_reducible show wpAny _ _ (execs (Stmt.Assign [Expr.Name "frame" _] _ _ :: _) _) _ _ _); refine hold ?_))
set_option maxRecDepth 100000 in
set_option maxHeartbeats 8000000 in
theorem law2 {w : World} {h₀ : Heap} {p : Program} {loose : List Str} {mean : ExcName → Option Value} {mg mb : Str → Option Value}
    {name qual : Str} {params : Arguments} {body : List Stmt} {scope : Scope} {dV kV doc pm cdv ct oc : Value} {an od : Option Addr} {osl : Array (Option Value)}
    (hK : (hd.heap_39 w.params).lookup 220 = some ⟨oc, od, .func (fnOf name qual params body scope dV kV doc pm an cdv ct), osl⟩)
    {L fa ch : Addr} {cd : Value} {m : Str → Option Value} {oS oB oC : Obj} {vS vB : Option Value} {c0 c1 : Int} {t0 t1 n0 : Nat} {E : Value → Shared → Prop} {s : Shared} {Q : Flow → Shared → Prop}
    (B : Below callerA h₀ [] h₀) (F : Fr h₀ L s.heap m) (KX : (hd.heap_39 w.params).In h₀) (N : News h₀ L s.heap [(ch, listOf #[.int c0 t0, .int c1 t1] n0), (L + 1 + 1 + 1, oS), (L + 1 + 1, oB), (L + 1, oC)])
    (T : Top p loose mean mg mb h₀) (dS : oS.data = Data.cell vS) (dB : oB.data = Data.cell vB) (dC : oC.data = Data.cell (some (.ref ch)))
    (hne1 : L + 1 + 1 + 1 < ch) (g0 : 0 ≤ c0) (g1 : 0 ≤ c1) (g2 : c1 < 1000000)
    (hE : PassesOwn (model PySem.Challenge.rw_xm0817_01.row.prog w) (callerA.deeper (envOfC qual scope L fa cd)) (envOfC qual scope L fa cd) E)
    (h : ∀ (m' : Str → Option Value) (tk : Nat) (h' : Heap), Fr h₀ L h' m' → Q (.ret (.bool true)) { s with heap := h', toks := tk }) :
    wpAny (model PySem.Challenge.rw_xm0817_01.row.prog w) (callerA.deeper (envOfC qual scope L fa cd)) (execs (body.drop 1) (envOfC qual scope L fa cd)) Q E s := by
  w_top off
  revert KX; k_fill; intro KX
  have hK2 := hK.symm.trans (show _ = some _ from by k_is)
  have hT := @law3 w h₀ p loose mean mg mb _ _ _ _ _ _ _ _ _ _ _ _ _ _ _ hK
  clear hK
  cases hK2
  dsimp only [List.drop] at hT ⊢
  obtain ⟨r0, hr0⟩ : ∃ r, r = [(L + 1 + 1 + 1, oS), (L + 1 + 1, oB), (L + 1, oC)] := ⟨_, rfl⟩
  have zC : (L + 1, oC) ∈ r0 := hr0 ▸ .tail _ (.tail _ (.head _))
  have hne2 : ∀ q ∈ r0, q.1 ≠ ch := by
    rw [hr0]
    exact allNe_cons (Nat.ne_of_lt hne1) (allNe_cons (Nat.ne_of_lt (Nat.lt_trans (Nat.lt_succ_self _) hne1)) (allNe_cons (Nat.ne_of_lt (Nat.lt_trans (Nat.lt_succ_of_lt (Nat.lt_succ_self _)) hne1)) fun _ h => nomatch h))
  rw [← hr0] at N
  k_steps
  unfold Hold
  k_steps
  unfold Hold
  rename_i r' c0' c1' tr' t0' t1' n0' tk' h1' p1 p2 p3 p4 p5 F1 N1 h2' tk2 u1 u2 u3 R2 F2 N2 st2
  have hn1 : Builtin.Range.rangeSize 0 (1 + r') 1 = (((1 + r').toNat : Nat) : Int) := (rangeSize_nat 0 (1 + r')).trans (by omega)
  refine LCg.CompSrc.range (n := (1 + r').toNat) (by exact rfl) (by k_asm) (by k_asm) (by with_reducible assumption) (small_one (by omega) (by omega) (by omega) (by omega)) hn1 (by rw [sizeLine_eq]; omega) ?_
  intro g'
  refine compRest_inv (1 + r').toNat (SInv ch r0) ?_ ?_ _ 0 [] _ (by omega) ⟨_, _, _, _, _, [], [], rfl, (fun _ h => nomatch h), p3, p4, p5, ⟨rfl, fun i q e => by simp at e⟩, (fun _ h => nomatch h), rfl⟩
  · rintro i ys nw hi ⟨d0, d1, u0, u1, k0, own, S, rfl, hown, f0, f1, f2, hys, hS, hlen⟩ v' I' oI' C' oC' D' m' h' tk' E' ⟨tv, rfl⟩ hC' hx' F' N' off' ne'
    have off2 := off'
    obtain ⟨⟨o1, o2, o3⟩, o7⟩ := off2
    dsimp only at o1 o2 o3
    have hne3 : ∀ q ∈ own ++ r0, q.1 ≠ ch := fun q hq => by
      rcases List.mem_append.mp hq with hq | hq
      · exact Nat.ne_of_gt (hown q hq)
      · exact hne2 q hq
    have zC3 : (L + 1, oC) ∈ own ++ r0 := List.mem_append_right _ zC
    obtain ⟨r1, hr1⟩ : ∃ r1, r1 = own ++ r0 := ⟨_, rfl⟩
    rw [← hr1] at off' o7 hne3 zC3 N'
    clear hne2 zC F1 N1 F2 N2 st2 R2
    k_steps
    unfold Hold
    rename @LT.lt Nat _ I' _ ∧ _ => y0
    have z0 := And.intro (And.intro y0.2.2.2.1 y0.1) (And.intro y0.2.1 y0.2.2.1)
    rename _ ∧ @LT.lt Nat _ I' _ ∧ _ => y1
    have z1 := And.intro (And.intro y1.2.2.2.2.1 y1.2.1) (And.intro y1.2.2.1 y1.2.2.2.1)
    rename _ ∧ _ ∧ @LT.lt Nat _ I' _ ∧ _ => y2
    have z2 := And.intro (And.intro y2.2.2.2.2.2.1 y2.2.2.1) (And.intro y2.2.2.2.1 y2.2.2.2.2.1)
    rename _ ∧ _ ∧ _ ∧ @LT.lt Nat _ I' _ ∧ _ => y3
    have z3 := And.intro (And.intro y3.2.2.2.2.2.2.1 y3.2.2.2.1) (And.intro y3.2.2.2.2.1 y3.2.2.2.2.2.1)
    rename _ ∧ _ ∧ _ ∧ _ ∧ @LT.lt Nat _ I' _ ∧ _ => y4
    have z4 := And.intro (And.intro y4.2.2.2.2.2.2.2.1 y4.2.2.2.2.1) (And.intro y4.2.2.2.2.2.1 y4.2.2.2.2.2.2.1)
    refine five_at (by k_asm) (by k_mem) (by with_reducible assumption) (by with_reducible assumption) ?_ ?_ ?_ ?_ ?_ (by with_unfolding_all rfl)
    all_goals
      k_steps
      refine side_end (by with_reducible assumption) (by with_reducible assumption) hr1 (by k_mem) (by k_mem) (by k_mem) (by k_mem) (by k_mem) (fun q hq => by k_mem) (by with_reducible assumption) off' hown (by with_reducible assumption) (by with_reducible assumption) (by with_reducible assumption) hys hS hlen (by first | decide | exact ⟨⟨by omega, by omega⟩, by omega, by omega⟩)
  · rintro ys nw ⟨d0, d1, u0, u1, k0, own, S, rfl, hown, f0, f1, f2, hys, hS, hlen⟩
    intro Dn hn tkn Fn Nn on
    have off := off1_mem on
    have z1 : (L + 1 + 1 + 1, oS) ∈ own ++ r0 := List.mem_append_right _ (hr0 ▸ .head _)
    have z2 : (L + 1 + 1, oB) ∈ own ++ r0 := List.mem_append_right _ (hr0 ▸ .tail _ (.head _))
    have e1 := off _ (.tail _ z1)
    have e2 := off _ (.tail _ z2)
    have e4 := off _ (.head _)
    have e5 : ∀ q ∈ own, q.1 ≠ Dn := fun q hq => off _ (.tail _ (List.mem_append_left _ hq))
    have l2 : @LT.lt Nat _ (L + 1 + 1) ch := Nat.lt_trans (Nat.lt_succ_self _) hne1
    have hne3 : ∀ q ∈ own, q.1 ≠ L + 1 + 1 + 1 := fun q hq => Nat.ne_of_gt (Nat.lt_trans hne1 (hown q hq))
    have hB : ∀ p ∈ (L + 1 + 1 + 1, oS) :: (L + 1, oC) :: (Dn, LCg.lst ys) :: (ch, listOf #[.int d0 u0, .int d1 u1] k0) :: own, p.1 ≠ L + 1 + 1 :=
      allNe_cons (Nat.ne_of_gt (Nat.lt_succ_self _)) (allNe_cons (Nat.ne_of_lt (Nat.lt_succ_self _)) (allNe_cons (Ne.symm e2) (allNe_cons (Nat.ne_of_gt l2) fun q hq => Nat.ne_of_gt (Nat.lt_trans l2 (hown q hq)))))
    have N5 : News h₀ L hn ((L + 1 + 1, oB) :: (L + 1 + 1 + 1, oS) :: (L + 1, oC) :: (Dn, LCg.lst ys) :: (ch, listOf #[.int d0 u0, .int d1 u1] k0) :: own) := news_sub Nn fun q hq => by
      rcases List.mem_cons.mp hq with rfl | hq
      · exact .tail _ (.tail _ z2)
      rcases List.mem_cons.mp hq with rfl | hq
      · exact .tail _ (.tail _ z1)
      rcases List.mem_cons.mp hq with rfl | hq
      · exact .tail _ (.tail _ (List.mem_append_right _ zC))
      rcases List.mem_cons.mp hq with rfl | hq
      · exact .head _
      rcases List.mem_cons.mp hq with rfl | hq
      · exact .tail _ (.head _)
      · exact .tail _ (.tail _ (List.mem_append_left _ hq))
    clear Nn on off z1 z2 F1 N1 F2 N2 st2 R2
    k_steps
    unfold Hold
    rename_i h4 o4 F4 N4 d4
    refine hT (S := S) (sl := Dn) (oB := o4) (t0 := u0) (t1 := u1) (n0 := k0) (rest := (L + 1 + 1, o4) :: (L + 1, oC) :: (Dn, LCg.lst ys) :: own) B (by with_reducible assumption) KX (news_sub (by with_reducible assumption) (fun q hq => ?_)) (.head _) (.tail _ (.head _)) T dS d4 dC (Nat.ne_of_lt hne1) ?_ ?_ f0 f1 f2 ⟨ys, ys.length, .tail _ (.tail _ (.head _)), (hys.mono fun _ h => .tail _ (.tail _ (.tail _ h)))⟩ hS (by omega) hE ?_
    · simp only [List.mem_cons] at hq ⊢
      rcases hq with hq | hq | hq | hq | hq | hq <;> simp [hq]
    · exact allNe_cons (Nat.ne_of_lt l2) (allNe_cons (Nat.ne_of_lt (Nat.lt_trans (Nat.lt_succ_self _) l2)) (allNe_cons (Ne.symm e4) fun q hq => Nat.ne_of_gt (hown q hq)))
    · exact allNe_cons (Nat.ne_of_lt (Nat.lt_succ_self _)) (allNe_cons (Nat.ne_of_lt (Nat.lt_succ_of_lt (Nat.lt_succ_self _))) (allNe_cons (Ne.symm e1) hne3))
    · exact fun m' tk h' Fe => h _ _ _ Fe
end
section
local macro_rules | `(tactic| k_all) => `(tactic| with_reducible assumption)
local macro_rules | `(tactic| walk_at "eval Name") => `(tactic| walk_at "own name")
local macro_rules | `(tactic| walk_at "call ref") => `(tactic| (refine hold ?_))
local macro_rules | `(tactic| walk_at "execs cons") => `(tactic| (k_here; (with_reducible show wpAny _ _ (execs (Stmt.Assign [Expr.Name "sides" _] _ _ :: _) _) _ _ _); refine hold ?_))
set_option maxRecDepth 100000 in
set_option maxHeartbeats 8000000 in
theorem law1 {w : World} {h₀ : Heap} {p : Program} {loose : List Str} {mean : ExcName → Option Value} {mg mb : Str → Option Value}
    {name qual : Str} {params : Arguments} {body : List Stmt} {scope : Scope} {dV kV doc pm cdv ct oc : Value} {an od : Option Addr} {osl : Array (Option Value)}
    (hK : (hd.heap_39 w.params).lookup 220 = some ⟨oc, od, .func (fnOf name qual params body scope dV kV doc pm an cdv ct), osl⟩)
    {L fa sl : Addr} {cd : Value} {m : Str → Option Value} {oS oB oC : Obj} {vS vB vC : Option Value} {vs : List Value} {ns : List Int} {E : Value → Shared → Prop} {s : Shared} {Q : Flow → Shared → Prop}
    (B : Below callerA h₀ [] h₀) (F : Fr h₀ L s.heap m) (KX : (hd.heap_39 w.params).In h₀) (N : News h₀ L s.heap [(L + 1 + 1 + 1, oS), (L + 1 + 1, oB), (L + 1, oC)])
    (T : Top p loose mean mg mb h₀) (dS : oS.data = Data.cell vS) (dB : oB.data = Data.cell vB) (dC : oC.data = Data.cell vC)
    (hm : m "script" = some (.ref sl)) (hl : h₀.IsList sl vs.toArray) (hi : IntsAre vs ns) (hn : ns.length ≤ 63)
    (hE : PassesOwn (model PySem.Challenge.rw_xm0817_01.row.prog w) (callerA.deeper (envOfC qual scope L fa cd)) (envOfC qual scope L fa cd) E)
    (h : ∀ (m' : Str → Option Value) (tk : Nat) (h' : Heap), Fr h₀ L h' m' → Q (.ret (.bool true)) { s with heap := h', toks := tk }) :
    wpAny (model PySem.Challenge.rw_xm0817_01.row.prog w) (callerA.deeper (envOfC qual scope L fa cd)) (execs body (envOfC qual scope L fa cd)) Q E s := by
  w_top off
  revert KX; k_fill; intro KX
  have hK2 := hK.symm.trans (show _ = some _ from by k_is)
  have hT := @law2 w h₀ p loose mean mg mb _ _ _ _ _ _ _ _ _ _ _ _ _ _ _ hK
  clear hK
  cases hK2
  dsimp only [List.drop] at hT ⊢
  k_steps
  unfold Hold
  refine choir_call B (by with_reducible assumption) KX (by with_reducible assumption) T (Around.frames_deeper (Below.stack B)) rfl rfl (by k_room) rfl hl hi hn ?_
  intro c0 c1 c t0 t1 n0 tk h4 g0 g1 g2 F4 N4 l4
  have k1 : @LT.lt Nat _ (L + 1 + 1 + 1) c := l4 _ (.head _)
  have N5 : News h₀ L h4 ((L + 1, oC) :: (c, listOf #[.int c0 t0, .int c1 t1] n0) :: (L + 1 + 1 + 1, oS) :: (L + 1 + 1, oB) :: []) := news_sub N4 fun q hq => by
    simp only [List.mem_cons, List.not_mem_nil, or_false] at hq ⊢
    rcases hq with hq | hq | hq | hq <;> simp [hq]
  have hB : ∀ p ∈ (c, listOf #[.int c0 t0, .int c1 t1] n0) :: (L + 1 + 1 + 1, oS) :: (L + 1 + 1, oB) :: [], p.1 ≠ L + 1 :=
    allNe_cons (Nat.ne_of_gt (Nat.lt_trans (Nat.lt_succ_of_lt (Nat.lt_succ_self _)) k1)) (allNe_cons (Nat.ne_of_gt (Nat.lt_succ_of_lt (Nat.lt_succ_self _))) (allNe_cons (Nat.ne_of_gt (Nat.lt_succ_self _)) fun _ h => nomatch h))
  clear N4 l4
  k_steps
  unfold Hold
  rename_i h5 o5 F5 N6 d5
  refine hT (t0 := t0) (t1 := t1) (n0 := n0) (ch := c) (oC := o5) B (by with_reducible assumption) KX (news_sub (by with_reducible assumption) (fun q hq => ?_)) T dS dB d5 k1 g0 g1 g2 hE ?_
  · simp only [List.mem_cons, List.not_mem_nil, or_false] at hq ⊢
    rcases hq with hq | hq | hq | hq <;> simp [hq]
  · exact fun m' tk h' Fe => h _ _ _ Fe
end
end Mine
set_option maxRecDepth 100000 in
set_option maxHeartbeats 8000000 in
theorem PySem.Challenge.cw_xm0817_01_holds : PySem.Challenge.rw_xm0817_01.Holds := by
  refine Mine.hd ?_
  k_go0
  rename Fr _ _ _ _ => F1
  rename News _ _ _ _ => N1
  rename Below _ _ _ _ => B1
  rename Frag.In _ _ => KX1
  rename Top _ _ _ _ _ _ => T1
  rename IntsAre _ _ => hi1
  rename ¬ _ < _ => hc1
  rename World => w1
  have hK0 := (show (Mine.hd.heap_39 w1.params).lookup 220 = some _ from by k_is)
  refine Mine.law1 (fa := _) (cd := _) hK0 B1 F1 KX1 N1 T1 (by with_reducible assumption) (by with_reducible assumption) (by with_reducible assumption) ?hm (by assumption) hi1 (by omega) ?hE ?h
  case hm => exact rfl
  case hE => with_unfolding_all passes_own
  case h =>
    intro m' tk h' Fe
    dsimp only
    clear F1 N1
    wrow_close
