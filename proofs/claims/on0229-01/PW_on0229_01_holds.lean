import PyProof.Rows.All
import Wide.All
import OpenK.AllK
import Wide.FinOn
import PySem.Challenge.RW_on0229_01
set_option Elab.async false
section
open PySem PySem.W PyProof.Rows
set_option Elab.async false
set_option maxRecDepth 100000
set_option maxHeartbeats 8000000
namespace Mine
section
theorem left_boot {p q : Program} {loose : List PySem.Str} {Xt : Shared → Bool} {α : Type} {Yf : Shared → α} {Ya : World → α} {N : Nat}
    (e : opening p = plainProg p.main.scope.names) (hN : Nat.ble 600 N = true) (f : ∀ s, fenceModules? p s = some s)
    (h : ∀ (w : World) (os : OsState), (topFrom treeTable p w N ⟨boot_heap w.params, Array.mk [], boot_drawn, boot_toks, os⟩).map (fun s => (openSeen q loose (importedModules p.main.body) Xt true s, Yf s)) = some (openGood q loose, Ya w)) :
    LeftO p q loose Xt Yf Ya N := fun w => by
  obtain ⟨s, h0, hv⟩ := Option.map_eq_some_iff.mp (boot_open e hN f w)
  obtain ⟨hp, g, d, k, os⟩ := s
  cases hv
  unfold openEnds
  rw [h0]
  exact h w os
local macro_rules | `(tactic| refine $e:term) => `(tactic| (refine' $e; (try (case hl => (refine' left_boot ?_ ?_ ?_ ?_; (case _ => kernel_rfl); (case _ => exact rfl); (case _ => exact fun _ => rfl); (intro w os; unfold topFrom; rw [PySem.W.Fast.te14082659384304107361, PySem.W.Fast.te14364793385576792824, PySem.W.Fast.te4187177175401517315]; kernel_rfl))))))
open_top hd for PySem.Challenge.rw_on0229_01
end
end Mine
end
section
open PySem PySem.W PyProof.Rows
set_option Elab.async false
set_option maxRecDepth 100000
set_option maxHeartbeats 8000000
namespace Mine
/-- what a call of a def gives back: told of its arguments and of the ledger -/
def Spec (w : World) (k : Nat) (f : Addr) (vs : List Value) (news : List (Addr × Obj)) (Post : Value → List (Addr × Obj) → Prop) : Prop :=
  ∀ (mg mb : Str → Option Value) (mean : ExcName → Option Value) (dp un : Nat) (gd : Option (List Code)) (cn : Str) (cs : Scope) (ad : Addr) (ccd : Value) (cl : List (Str × Addr)) (outer : List Env) (A₀ : Around) (base h₀ : Heap) (L : Addr) (m : Str → Option Value) (s : Shared) (Q E : Value → Shared → Prop),
  Below A₀ base outer h₀ → Fr h₀ L s.heap m → (hd.heap_39 w.params).In h₀ → News h₀ L s.heap news → Top hd.view_39 (looseW hd.view_39 []) mean mg mb h₀ → cs.kind = .function → dp + k < recursionLimit → un + 8 * k < cLine →
  (∀ (v : Value) (news' : List (Addr × Obj)) (h' : Heap) (tk' : Nat), Post v news' → Fr h₀ L h' m → News h₀ L h' news' → Q v { s with heap := h', toks := tk' }) →
  wpAny (model (PySem.Challenge.rw_on0229_01).prog w) (ktrTop dp un gd cn cs L ad ccd cl outer) (call (.ref f) vs) Q E s
/-- the bare goal that a Spec opens to -/
theorem Spec.to {w : World} {k : Nat} {f : Addr} {vs : List Value} {news : List (Addr × Obj)} {Post : Value → List (Addr × Obj) → Prop} (S : Spec w k f vs news Post)
    {mg mb : Str → Option Value} {mean : ExcName → Option Value} {dp un : Nat} {gd : Option (List Code)} {cn : Str} {cs : Scope} {ad : Addr} {ccd : Value} {cl : List (Str × Addr)} {outer : List Env} {A₀ : Around} {base h₀ : Heap} {L : Addr} {m : Str → Option Value} {s : Shared} {Q E : Value → Shared → Prop} {led : List (Addr × Obj)}
    (B : Below A₀ base outer h₀) (F : Fr h₀ L s.heap m) (X : (hd.heap_39 w.params).In h₀) (N : News h₀ L s.heap led) (T : Top hd.view_39 (looseW hd.view_39 []) mean mg mb h₀) (hk : cs.kind = .function) (hsub : ∀ p ∈ news, p ∈ led) (hd : dp + k < recursionLimit) (hu : un + 8 * k < cLine)
    (ret : ∀ (v : Value) (news' : List (Addr × Obj)) (h' : Heap) (tk' : Nat), Post v news' → Fr h₀ L h' m → News h₀ L h' news' → Q v { s with heap := h', toks := tk' }) :
    wpAny (model (PySem.Challenge.rw_on0229_01).prog w) (ktrTop dp un gd cn cs L ad ccd cl outer) (call (.ref f) vs) Q E s :=
  S mg mb mean dp un gd cn cs ad ccd cl outer A₀ base h₀ L m s Q E B F X (fun p hp => N p (hsub p hp)) T hk hd hu ret
/-- one entry of a ledger, and the rest -/
inductive Pick (d : Addr) (o : Obj) : List (Addr × Obj) → List (Addr × Obj) → Prop
  | head {r} : Pick d o ((d, o) :: r) r
  | tail {p r r'} : Pick d o r r' → Pick d o (p :: r) (p :: r')
theorem Pick.sub {d : Addr} {o : Obj} {l r : List (Addr × Obj)} (h : Pick d o l r) : ∀ p ∈ (d, o) :: r, p ∈ l := by
  induction h with
  | head => exact fun p hp => hp
  | tail _ ih =>
    intro p hp
    rcases List.mem_cons.mp hp with e | hp
    · exact .tail _ (ih p (e ▸ .head _))
    · rcases List.mem_cons.mp hp with e | hp
      · exact e ▸ .head _
      · exact .tail _ (ih p (.tail _ hp))
theorem Pick.sub2 {d d' : Addr} {o o' : Obj} {l r r' : List (Addr × Obj)} (h : Pick d o l r) (h' : Pick d' o' r r') : ∀ p ∈ (d, o) :: (d', o') :: r', p ∈ l := fun p hp => h.sub p (by
  rcases List.mem_cons.mp hp with e | hp
  · exact e ▸ .head _
  · exact .tail _ (h'.sub p hp))
theorem allLt_ne {d : Addr} {r : List (Addr × Obj)} (h : AllLt d r) : ∀ p ∈ r, p.1 ≠ d := by
  induction r with
  | nil => exact fun p hp => nomatch hp
  | cons q r ih =>
    have h1 : @LT.lt Nat _ q.1 d ∧ AllLt d r := h
    intro p hp
    rcases List.mem_cons.mp hp with e | hp
    · rw [e]; exact Nat.ne_of_lt h1.1
    · exact ih h1.2 p hp
theorem ledger_sub {news led : List (Addr × Obj)} {h₀ h : Heap} {L : Addr} (N : News h₀ L h led) (hs : ∀ p ∈ news, p ∈ led) : News h₀ L h news := fun p hp => N p (hs p hp)
end Mine
end
section
open PySem PySem.W PyProof.Rows PySem.Spec PySem.Calls
set_option Elab.async false
set_option maxRecDepth 100000
set_option maxHeartbeats 8000000
namespace Mine
open Sem (wp)
section
variable {M : Model} {prog : Program} {w : World} {A : Around} {E : Value → Shared → Prop} {R : Result → Shared → Prop} {h : Heap} {g : Array GenState} {d : Drawn} {t : Nat} {os : OsState}
variable {nm q : Str} {C N : Addr} {bs bm bmB : List Value} {hdct : Bool} {sn : List Str} {sub : List Value} {ab : Bool} {col : Option Bool} {dd : Option Addr} {k0 k1 k2 k3 k5 : Option Value} {B newId initId : String}

theorem x_check_new (F : ExcBaseFacts B newId initId bmB) (hB : bm.contains (.type B) = true) {rest : List Value} {Q : Unit → Shared → Prop} (hC : h.get? C = some (excClassObj nm q C N bs bm hdct sn sub ab col dd k0 k1 k2 k3 k5 newId))
    (hq : Q () ⟨h, g, d, t, os⟩) : wpAny M A (checkBuiltinCall newId ⟨.ref C :: rest, []⟩) Q E ⟨h, g, d, t, os⟩ := by
  have hcont : (Value.ref C :: bm).contains (.type B) = true := by rw [List.contains_cons, hB, Bool.or_true]
  have hstar := F.noStar
  simp only [checkBuiltinCall, F.newKind, F.newSplit, F.newRow]
  repeat (first | refine wpAny_loadPart_at hC ?_ | (refine wpAny_isSubtype_exc hC ?_; rw [hcont]) | refine wpAny_staticBase_exc hC ?_ | refine wpAny_madeBy_exc hC ?_ | simp only [bne_self_eq_false, Bool.false_eq_true, if_false] | wp_step)
  exact hq

theorem x_new (F : ExcBaseFacts B newId initId bmB) (hB : bm.contains (.type B) = true) (hA' : bm.contains (.type "AttributeError") = false) (hN' : bm.contains (.type "NameError") = false) {rest : List Value} (hC : h.get? C = some (excClassObj nm q C N bs bm hdct sn sub ab col dd k0 k1 k2 k3 k5 newId))
    (hq : R (.ok (.ret (.ref (h.objs.size + 1)))) ⟨(h.push { cls := .type "tuple", data := .seq rest.toArray }).push
      { cls := .ref C, data := .fields #[.ref h.objs.size, .none, .none, .none, .bool false, .none] }, g, d, t, os⟩) (hrest : rest.length ≤ sizeLine := by size_fits) :
    codeAny (model prog w) A (.builtin newId ⟨.ref C :: rest, []⟩) R ⟨h, g, d, t, os⟩ := by
  have hends := F.ends
  have hcB : (Value.ref C :: bm).contains (.type B) = true := by rw [List.contains_cons, hB, Bool.or_true]
  have hcA : (Value.ref C :: bm).contains (.type "AttributeError") = false := by rw [List.contains_cons, hA']; rfl
  have hcN : (Value.ref C :: bm).contains (.type "NameError") = false := by rw [List.contains_cons, hN']; rfl
  refine codeAny_builtinAt F.entry ?_
  unfold Builtin.«BaseException.__new__»
  refine PySem.wpAt_bind ?_
  show PySem.wpAt _ _ _ (stack >>= _) _ _ _
  refine PySem.wpAt_bind (PySem.wpAt_stack fun p below => PySem.wpAt_of_wpAny ?_)
  wp_walk
  refine PySem.wpAt_of_wpAny ?_
  rw [F.owner]
  repeat (first | with_reducible refine wpAny_madeHere_exc F.canon hC ?_ | with_reducible refine wpAny_loadPart_at hC ?_ | (with_reducible refine wpAny_isSubtype_exc hC ?_; first | rw [hcB] | rw [hcA] | rw [hcN]) | wp_step)
  show R _ _
  rw [Heap.size_push]
  exact hq

theorem x_type_call (F : ExcBaseFacts B newId initId bmB) (hB : bm.contains (.type B) = true) (hA' : bm.contains (.type "AttributeError") = false) (hN' : bm.contains (.type "NameError") = false) {rest : List Value} {fI : Addr} {oI : Obj} {Q : Fin → Shared → Prop}
    (hC : h.get? C = some (excClassObj nm q C N bs bm hdct sn sub ab col dd k0 k1 k2 k3 k5 newId)) (hlk : Looks (model prog w) h (typeLookup (.ref C) "__init__") (some (.ref fI)))
    (hfI : h.get? fI = some oI) (hfc : oI.cls = .type "function")
    (hq : ∀ h' e, Heap.MadeExcOf h h' e (.ref C) rest →
      wpAny (model prog w) A (call (.ref fI) (.ref e :: rest)) (fun r s' => r = .none ∧ Q (.done (.ret (.ref e))) s') E ⟨h', g, d, t, os⟩) (hrest : rest.length ≤ sizeLine := by size_fits) :
    wpAny (model prog w) A (Builtin.«type.__call__» ⟨.ref C :: rest, []⟩) Q E ⟨h, g, d, t, os⟩ := by
  repeat (first | with_reducible refine wpAny_loadPart_at hC ?_ | with_reducible refine wpAny_madeBy_exc hC ?_ | wp_step)
  refine codeAny_call_builtin_code (Code.quiet_builtin _ F.quiet) (x_check_new F hB hC ?_)
  refine x_new F hB hA' hN' hC ?_ hrest
  show wpAny _ _ _ _ _ _
  have hC₁ := Heap.get?_push_of_some { cls := .ref C, data := .fields #[.ref h.objs.size, .none, .none, .none, .bool false, .none] }
    (Heap.get?_push_of_some { cls := .type "tuple", data := .seq rest.toArray } hC)
  have hfI₁ := Heap.get?_push_of_some { cls := .ref C, data := .fields #[.ref h.objs.size, .none, .none, .none, .bool false, .none] }
    (Heap.get?_push_of_some { cls := .type "tuple", data := .seq rest.toArray } hfI)
  have hget : ((h.push { cls := .type "tuple", data := .seq rest.toArray }).push
      { cls := .ref C, data := .fields #[.ref h.objs.size, .none, .none, .none, .bool false, .none] }).get? (h.objs.size + 1) = some
      { cls := .ref C, data := .fields #[.ref h.objs.size, .none, .none, .none, .bool false, .none] } := by heap_get
  have hcC : (Value.ref C :: bm).contains (.ref C) = true := by simp
  have hlk₁ := hlk.keeps (h' := (h.push { cls := .type "tuple", data := .seq rest.toArray }).push { cls := .ref C, data := .fields #[.ref h.objs.size, .none, .none, .none, .bool false, .none] })
    fun b o e => Heap.get?_push_of_some _ (Heap.get?_push_of_some _ e)
  unfold isInstance
  repeat (first | with_reducible refine wpAny_loadPart_at hget ?_ | (with_reducible refine wpAny_isSubtype_exc hC₁ ?_; rw [hcC]) | wp_step)
  show wpAny _ _ (typeLookup (.ref C) _) _ _ _
  refine hlk₁.at ?_
  refine wpAny_holding (wpAny_bind ?_)
  unfold bindSpecial
  refine wpAny_bind (wpAny_typeOf (T := "function") ⟨_, hfI₁, hfc⟩ ?_)
  rw [if_pos (by decide)]
  refine wpAny_pure (wpAny_bind (wpAny_mono (hq _ (h.objs.size + 1) ⟨fun b o hb => Heap.get?_push_of_some _ (Heap.get?_push_of_some _ hb), Heap.get?_none_of_le (Nat.le_succ _), h.objs.size, hget, Heap.get?_none_of_le (Nat.le_refl _), ?_⟩) (fun r s' hr => ?_) fun _ _ x => x))
  · exact Heap.get?_push_of_some _ (Heap.get?_push_at rfl rfl)
  · obtain ⟨rfl, hQ⟩ := hr
    wp_walk
    exact hQ

theorem x_call (F : ExcBaseFacts B newId initId bmB) (hB : bm.contains (.type B) = true) (hA' : bm.contains (.type "AttributeError") = false) (hN' : bm.contains (.type "NameError") = false) {rest : List Value} {fI : Addr} {oI : Obj} {Q : Value → Shared → Prop}
    (hC : h.get? C = some (excClassObj nm q C N bs bm hdct sn sub ab col dd k0 k1 k2 k3 k5 newId)) (hlk : Looks (model prog w) h (typeLookup (.ref C) "__init__") (some (.ref fI)))
    (hfI : h.get? fI = some oI) (hfc : oI.cls = .type "function")
    (hq : ∀ h' e, Heap.MadeExcOf h h' e (.ref C) rest →
      wpAny (model prog w) (A.under (.builtin "type.__call__" ⟨.ref C :: rest, []⟩)) (call (.ref fI) (.ref e :: rest)) (fun r s' => r = .none ∧ Q (.ref e) s') E ⟨h', g, d, t, os⟩) (hrest : rest.length ≤ sizeLine := by size_fits) :
    wpAny (model prog w) A (call (.ref C) rest) Q E ⟨h, g, d, t, os⟩ := by
  have f1 := tc_lookup
  have f2 := tc_bind (.ref C)
  have hT : (⟨h, g, d, t, os⟩ : Shared).TypeIs (.ref C) "type" := ⟨_, hC, rfl⟩
  refine wpAny_call (codeAny_of_tree ?_)
  show wpAny _ _ (callAny (.ref C) _) _ _ _
  repeat (any_goals (first | assumption | with_reducible refine wpAny_loadPart_at hC ?_ | wp_step))
  refine ⟨rfl, ?_⟩
  refine codeAny_call_builtin_at (Code.quiet_builtin _ (by decide +kernel)) entry_typeCall (wpAny_check_type_call_sub hC (x_type_call (hrest := hrest) F hB hA' hN' hC hlk hfI hfc fun h' e hm => ?_))
  exact hq h' e hm
end
end Mine
end
section
open PySem PySem.W PyProof.Rows PySem.Spec PySem.Calls Builtin Builtin.ObjectAttr
set_option Elab.async false
set_option maxRecDepth 100000
set_option maxHeartbeats 8000000
namespace Mine
section
variable {prog : Program} {w : World} {A : Around} {R : Result → Shared → Prop} {E : Value → Shared → Prop} {K : Frag} {C e : Addr} {oe : Obj} {cd : ClassData} {name : Str} {v : Value} {vs : Array Value}

theorem x_refuse (self : Value) : refuseLoop self "__setattr__" [.ref 44, .ref 31, .type "Exception", .type "BaseException", .type "object"] = pure () := by
  rw [refuseLoop_ref, refuseLoop_ref]
  exact PySem.F.store_Exception.passes self

/-- an attribute stored upon an object without a dict -/
theorem x_set {h : Heap} {g : Array GenState} {d : Drawn} {t : Nat} {os : OsState} {Q : Unit → Shared → Prop} (X : K.In h) (hcd : clsIn K C = some cd) (hdict : cd.hasDict = true) (hne : cd.mro.isEmpty = false) (hobj : cd.mro.contains (.type "object") = true)
    (hpass : ∀ self, refuseLoop self "__setattr__" cd.mro = pure ()) (hs : findIn K (.ref C) "__setattr__" = some (some (.builtin "object.__setattr__"))) (ht : findIn K (.ref C) name = some none)
    (he : h.get? e = some oe) (hc : oe.cls = .ref C) (hd : oe.dict = none) (hv : oe.data = .fields vs)
    (hq : ∀ h' dx tk', (∀ b o, b ≠ e → h.get? b = some o → h'.get? b = some o) → h'.get? e = some { cls := oe.cls, dict := some dx, data := oe.data, slots := oe.slots } → Q () ⟨h', g, d, tk', os⟩) :
    wpAny (model prog w) A (setAttr (.ref e) name v) Q E ⟨h, g, d, t, os⟩ := by
  have SF := PySem.F.store_object
  have I : InstAt h e oe C none := ⟨he, hc, by unfold notCls; rw [hv], by rw [hd]; exact True.intro⟩
  refine set_plain (s := ⟨h, g, d, t, os⟩) X I hs ?_
  have sub : Looks (model prog w) h (isInstance (.ref e) (.type "object")) true := I.type.andThen (looks_mroIn X (by unfold mroIn; rw [hcd, Option.bind_some, if_neg (by rw [hne]; decide), hobj]))
  refine codeAny_call_builtin SF.slot.plain SF.entry (@check_slot (model prog w) _ _ _ "object.__setattr__" "object" "__setattr__" (.ref e) [.str name t, v] [] _ SF.kind SF.split sub (SF.args (.ref e) (.str name t) v) ?_)
  have hm : Looks (model prog w) h (mroOf (.ref C)) cd.mro := (looks_clsIn X hcd).andThen .now
  rw [osa_eq, refuse_eq]
  refine wpAny_bind (wpAny_bind (I.type.at (wpAny_bind (hm.at ?_))))
  rw [hpass]
  refine wpAny_pure (wpAny_bind (I.type.at (wpAny_bind ((looks_findIn X ht).at (wpAny_bind (wpAny_pure ?_))))))
  obtain ⟨oc, odi, oda, osl⟩ := oe
  dsimp only at hc hd hv
  subst hc hd hv
  have hx₁ : (h.push { cls := .type "dict", data := .dict #[] }).get? e = some ⟨.ref C, none, .fields vs, osl⟩ := Heap.get?_push_of_some _ he
  have hxs : e ≠ h.objs.size := Nat.ne_of_lt (Heap.lt_size he)
  show wpAny _ _ (storeInOwnDict (.ref e) (.ref C) (.str name t) name v false) _ _ _
  unfold storeInOwnDict
  refine wpAny_bind (wpAny_pure (wpAny_bind (wpAny_bind (wpAny_loadPart he (wpAny_bind ((looks_clsIn X hcd).at ?_))))))
  rw [hdict]
  refine wpAny_bind (wpAny_alloc' ?_)
  refine wpAny_bind (wpAny_update' hx₁ ?_)
  have hgd : ((h.push { cls := .type "dict", data := .dict #[] }).update e fun o => { cls := o.cls, dict := some h.objs.size, data := o.data, slots := o.slots }).get? h.objs.size
      = some { cls := .type "dict", data := .dict #[] } := (Heap.get?_update_ne _ _ _ _ hxs.symm).trans (Heap.get?_push_at rfl rfl)
  have hnd : ((h.push { cls := .type "dict", data := .dict #[] }).update e fun o => { cls := o.cls, dict := some h.objs.size, data := o.data, slots := o.slots }).Ns h.objs.size (fun _ => none) :=
    ⟨_, #[], _, hgd, rfl, fun e he => absurd he (by simp), fun _ => rfl⟩
  refine wpAny_pure (a := some h.objs.size) ?_
  show wpAny _ _ (storeInDict h.objs.size (.str name t) name v) _ _ _
  unfold storeInDict newKeyGuard
  refine wpAny_bind (wpAny_pure (wpAny_bind (wpAny_nsSet1 (Heap.Ns1.of_empty hnd) fun h' hn' hs => ?_)))
  obtain ⟨oD, esD, epD, hoD, hdD, hcD⟩ := hn'.count (Within.cons name v Within.nil)
  refine wpAny_bind (wpAny_lookBehind hoD (by rw [hdD]; exact pastItsLine_dict (Nat.le_trans hcD (by rw [List.length_cons, List.length_nil, sizeLine_eq]; omega))) ?_)
  refine wpAny_pure ?_
  refine hq h' h.objs.size _ (fun b ob hbx hb => ?_) ?_
  · exact (hs.2 b (Nat.ne_of_lt (Heap.lt_size hb))).trans ((Heap.get?_update_ne _ _ _ _ hbx).trans (Heap.get?_push_of_some _ hb))
  · exact (hs.2 e hxs).trans (Heap.get?_update_self _ hx₁ rfl)
theorem x_set_N {s : Shared} {h₀ : Heap} {L : Addr} {m : Str → Option Value} {rest : List (Addr × Obj)} {Q : Unit → Shared → Prop} (F : Fr h₀ L s.heap m) (N : News h₀ L s.heap ((e, oe) :: rest)) (hr : ∀ p ∈ rest, p.1 ≠ e) (X₀ : K.In h₀) (hcd : clsIn K C = some cd) (hdict : cd.hasDict = true) (hne : cd.mro.isEmpty = false) (hobj : cd.mro.contains (.type "object") = true)
    (hpass : ∀ self, refuseLoop self "__setattr__" cd.mro = pure ()) (hs : findIn K (.ref C) "__setattr__" = some (some (.builtin "object.__setattr__"))) (ht : findIn K (.ref C) name = some none)
    (hc : oe.cls = .ref C) (hd : oe.dict = none) (hv : oe.data = .fields vs)
    (hq : ∀ h' dx tk', Fr h₀ L h' m → News h₀ L h' ((e, { cls := oe.cls, dict := some dx, data := oe.data, slots := oe.slots }) :: rest) → Q () { s with heap := h', toks := tk' }) :
    wpAny (model prog w) A (setAttr (.ref e) name v) Q E s := by
  have Ne := N (e, oe) (.head _)
  refine x_set (X₀.keeps F.keep) hcd hdict hne hobj hpass hs ht Ne.1 hc hd hv fun h' dx tk' hk he' => hq h' dx tk' ?_ ?_
  · obtain ⟨oL, es, ep, hL, r⟩ := F.ns
    exact ⟨⟨oL, es, ep, hk L oL (fun q => Ne.2.1 q.symm) hL, r⟩, fun b o hb => hk b o (fun q => by rw [q, Ne.2.2] at hb; cases hb) (F.keep b o hb), F.above⟩
  · intro p hp
    rcases List.mem_cons.mp hp with rfl | hp
    · exact ⟨he', Ne.2⟩
    · exact ⟨hk _ _ (hr p hp) (N p (.tail _ hp)).1, (N p (.tail _ hp)).2⟩
end
end Mine
end
section
open PySem PySem.W PyProof.Rows
theorem Mine.anew1 {p : Program} {w : World} {A : Around} {env : Env} {Q : Flow → Shared → Prop} {E : Value → Shared → Prop} {s : Shared} (h : Q .next s) : wpAny (model p w) A (execs [] env) Q E s := by
  walk1
  assumption
end
section
open PySem PySem.W PyProof.Rows
set_option Elab.async false
set_option maxRecDepth 100000
set_option maxHeartbeats 8000000
namespace Mine
section
local macro_rules | `(tactic| k_all) => `(tactic| first | assumption | (refine allLt_ne ?_; first | assumption | (simp only [*]; done)))
local macro_rules | `(tactic| walk_at "my pick") => `(tactic| first | exact Pick.head | (refine' Pick.tail ?pk; (case pk => walk_at "my pick")))
local macro_rules | `(tactic| walk_at "my ints") => `(tactic| first | assumption | exact IntsAre.nil | (refine' IntsAre.cons _ _ ?ic; (case ic => walk_at "my ints")))
local macro_rules | `(tactic| walk_at "my room") => `(tactic| first | omega | ktr_room)
local macro_rules | `(tactic| walk_at "my arith") => `(tactic| first | assumption | omega | l_fact)
local macro_rules | `(tactic| walk_at "my ctx") => `(tactic| ((case B => k_asm); (case F => k_asm); (case X => k_asm); (case T => k_asm); (case N => k_asm); (case hk => first | exact rfl | assumption); (case hd => walk_at "my room"); (case hu => ktr_units)))
local macro_rules | `(tactic| walk_at "my len") => `(tactic| first | omega | (simp only [List.length_append, List.length_cons, List.length_nil] at *; omega) | l_fact)
local macro_rules | `(tactic| walk_at "setAttr ref") => `(tactic| (k_here; k_dflt (
  refine' x_set_N (C := 44) ?F ?N ?hr ?X ?k1 ?k2 ?k3 ?k4 ?kr ?k5 ?k6 ?k7 ?k8 ?k9 ?_
  (case F => k_asm); (case N => k_asm); (case hr => k_all); (case X => k_asm); (case k1 => exact rfl); (case k2 => exact rfl); (case k3 => exact rfl); (case k4 => exact rfl); (case kr => exact x_refuse)
  (case k5 => k_is); (case k6 => k_is); (case k7 => exact rfl); (case k8 => exact rfl); (case k9 => exact rfl)
  k_whole
  intro h' dx' tk' F' N'
  (try dsimp only)
  (try k_fold))))
/-- the exception's own making: it keeps its message -/
theorem init_ok (w : World) (e : Addr) (vs : Array Value) (msg : Str) (tm : Tok) (rest : List (Addr × Obj)) (hne : ∀ p ∈ rest, p.1 ≠ e) :
    Spec w 3 28 [.ref e, .str msg tm] ((e, { cls := .ref 44, data := .fields vs }) :: rest) (fun v news' => ∃ dx, v = .none ∧ news' = (e, { cls := .ref 44, dict := some dx, data := .fields vs }) :: rest) := by
  unfold Spec
  k_fill
  intro mg mb mean dp un gd cn cs ad ccd cl outer A₀ base h₀ L m s Q E B F X N T hk hdp hun hret
  refine wpAny_call ?_
  k_dflt cell_enter
  k_steps
  exact hret _ _ _ _ ⟨_, rfl, rfl⟩ (by assumption) (by assumption)
end
end Mine
end
section
open PySem PySem.W PyProof.Rows PySem.Spec PySem.Calls
set_option Elab.async false
set_option maxRecDepth 100000
set_option maxHeartbeats 8000000
namespace Mine
section
variable {M : Model} {A : Around} {E : Value → Shared → Prop} {env : Env}
variable {nm q : Str} {C N : Addr} {bs bm bmB : List Value} {hdct : Bool} {sn : List Str} {sub : List Value} {ab : Bool} {col : Option Bool} {dd : Option Addr} {k0 k1 k2 k3 k5 : Option Value} {B newId initId : String}
theorem x_raiseStmt {s : Shared} {x : Sem Value} {Q : Flow → Shared → Prop} (hbase : bm.contains (.type "BaseException") = true) (hh : A.handled = none)
    (h : wpAny M A x (fun v s₁ => ∃ e t dx, v = .ref e ∧ s₁.heap.get? C = some (excClassObj nm q C N bs bm hdct sn sub ab col dd k0 k1 k2 k3 k5 newId) ∧
      s₁.heap.get? e = some { cls := .ref C, dict := dx, data := .fields #[.ref t, .none, .none, .none, .bool false, .none] } ∧ E (.ref e) s₁) E s) :
    wpAny M A (raiseStmt env (some x) none) Q E s := by
  have hcB : (Value.ref C :: bm).contains (.type "BaseException") = true := by rw [List.contains_cons, hbase, Bool.or_true]
  unfold raiseStmt
  refine wpAny_bind (wpAny_mono h (fun v s₁ h₁ => ?_) fun _ _ x => x)
  obtain ⟨e, t, dx, rfl, hC, he, hE⟩ := h₁
  obtain ⟨hp, g, d, tk, os⟩ := s₁
  repeat (first | with_reducible refine wpAny_loadPart_at he ?_ | with_reducible refine wpAny_loadPart_at hC ?_ | (with_reducible refine wpAny_isSubtype_exc hC ?_; rw [hcB]) | wp_step)
  exact wpAny_raiseNew_none hh hE
end
section
variable {prog : Program} {w : World} {A : Around} {E : Value → Shared → Prop} {s : Shared} {env : Env}
variable {nm q : Str} {C N : Addr} {bs bm bmB : List Value} {hdct : Bool} {sn : List Str} {sub : List Value} {ab : Bool} {col : Option Bool} {dd : Option Addr} {k0 k1 k2 k3 k5 : Option Value} {B newId initId : String}
/-- an object of a class, standing where its __init__ has left it -/
def Left (C : Addr) (co : Obj) (E : Value → Shared → Prop) (e : Addr) (r : Value) (s' : Shared) : Prop :=
  r = .none ∧ ∃ t dx, s'.heap.get? C = some co ∧ s'.heap.get? e = some { cls := .ref C, dict := dx, data := .fields #[.ref t, .none, .none, .none, .bool false, .none] } ∧ E (.ref e) s'
theorem x_Raise (F : ExcBaseFacts B newId initId bmB) (hB : bm.contains (.type B) = true) (hA' : bm.contains (.type "AttributeError") = false) (hN' : bm.contains (.type "NameError") = false)
    {x : Str} {np cpos pos : Pos} {args : List Expr} {Q : Flow → Shared → Prop} {fI : Addr} {oI : Obj}
    (hbase : bm.contains (.type "BaseException") = true) (hh : A.handled = none) (hplain : (backTo cpos (starEach args env)).any (·.1) = false)
    (h : wpAny (model prog w) A (eval (.Name x np) env) (fun f s₁ => f = .ref C ∧ wpAny (model prog w) A (evalArgs (.ref C) true (backTo cpos (starEach args env)) [])
      (fun a s₂ => a.kw = [] ∧ a.pos.length ≤ sizeLine ∧ s₂.heap.get? C = some (excClassObj nm q C N bs bm hdct sn sub ab col dd k0 k1 k2 k3 k5 newId) ∧ Looks (model prog w) s₂.heap (typeLookup (.ref C) "__init__") (some (.ref fI)) ∧ s₂.heap.get? fI = some oI ∧ oI.cls = .type "function" ∧
        ∀ h' e, Heap.MadeExcOf s₂.heap h' e (.ref C) a.pos → wpAny (model prog w) (A.under (.builtin "type.__call__" ⟨.ref C :: a.pos, []⟩)) (call (.ref fI) (.ref e :: a.pos)) (Left C (excClassObj nm q C N bs bm hdct sn sub ab col dd k0 k1 k2 k3 k5 newId) E e) E { s₂ with heap := h' }) E s₁) E s) :
    wpAny (model prog w) A (exec (.Raise (some (.Call (.Name x np) args [] cpos)) none pos) env) Q E s := by
  rw [arm_exec_Raise]
  first
    | refine wpAny_bind (wpAny_standAt (x_raiseStmt (C := C) (nm := nm) (q := q) (N := N) (bs := bs) (bm := bm) (hdct := hdct) (sn := sn) (sub := sub) (ab := ab) (col := col) (dd := dd) (k0 := k0) (k1 := k1) (k2 := k2) (k3 := k3) (k5 := k5) (newId := newId) hbase hh (wpAny_bind (wpAny_mono (wpAny_Call_ofName (wpAny_mono h (fun f s₁ h₁ => ?_) fun _ _ x => x)) (fun v s₃ h₃ => wpAny_bind (wpAny_standAt (wpAny_pure h₃))) fun _ _ x => x))))
    | (simp only [evalOpt, Option.map]; refine wpAny_bind (wpAny_standAt (x_raiseStmt (C := C) (nm := nm) (q := q) (N := N) (bs := bs) (bm := bm) (hdct := hdct) (sn := sn) (sub := sub) (ab := ab) (col := col) (dd := dd) (k0 := k0) (k1 := k1) (k2 := k2) (k3 := k3) (k5 := k5) (newId := newId) hbase hh (wpAny_bind (wpAny_mono (wpAny_Call_ofName (wpAny_mono h (fun f s₁ h₁ => ?_) fun _ _ x => x)) (fun v s₃ h₃ => wpAny_bind (wpAny_standAt (wpAny_pure h₃))) fun _ _ x => x)))))
    | (refine wpAny_bind (wpAny_standAt (x_raiseStmt (C := C) (nm := nm) (q := q) (N := N) (bs := bs) (bm := bm) (hdct := hdct) (sn := sn) (sub := sub) (ab := ab) (col := col) (dd := dd) (k0 := k0) (k1 := k1) (k2 := k2) (k3 := k3) (k5 := k5) (newId := newId) hbase hh ?_)); refine wpAny_bind (wpAny_mono (wpAny_Call_ofName (wpAny_mono h (fun f s₁ h₁ => ?_) fun _ _ x => x)) (fun v s₃ h₃ => wpAny_bind (wpAny_standAt (wpAny_pure h₃))) fun _ _ x => x))
  obtain ⟨rfl, h₁⟩ := h₁
  unfold callWith
  refine wpAny_bind (wpAny_holding (wpAny_mono h₁ (fun a s₂ h₂ => wpAny_bind (wpAny_standAt ?_)) fun _ _ x => x))
  obtain ⟨apos, akw⟩ := a
  obtain ⟨hkw, hlen, hC, hlk, hfI, hfc, h₂⟩ := h₂
  obtain rfl : akw = [] := hkw
  obtain ⟨hp, g, d, tk, os⟩ := s₂
  simp only [hplain]
  refine wpAny_bind (wpAny_keeperOf_exc hC ?_)
  refine wpAny_bind (x_call (hrest := hlen) F hB hA' hN' hC hlk hfI hfc fun h' e hm => wpAny_mono (h₂ h' e hm) (fun r s' hr => ?_) fun _ _ y => y)
  obtain ⟨hr0, t, dx, h1, h2, h3⟩ := hr
  exact ⟨hr0, wpAny_bind (wpAny_holding (wpAny_point (wpAny_pure ⟨e, t, dx, rfl, h1, h2, h3⟩)))⟩
end
section
variable {prog : Program} {w : World} {A : Around} {E : Value → Shared → Prop} {s : Shared} {name : Str} {scope : Scope} {L a : Addr} {cd : Value} {h₀ : Heap} {m mg mb : Str → Option Value} {p : Program} {loose : List Str} {K : Frag} {news : List (Addr × Obj)}
variable {nm q : Str} {C N : Addr} {bs bm bmB : List Value} {hdct : Bool} {sn : List Str} {sub : List Value} {ab : Bool} {col : Option Bool} {dd : Option Addr} {k0 k1 k2 k3 k5 : Option Value} {B newId initId : String}
theorem x_Raise_K (FB : ExcBaseFacts B newId initId bmB) {x : Str} {np cpos pos : Pos} {e₀ : Expr} {Q : Flow → Shared → Prop} {fI : Addr} {oI : Obj}
    (F : Fr h₀ L s.heap m) (X : K.In h₀) (T : TopRead p loose mg mb h₀) (hx : nsIn K mainGlobals x = some (some (.ref C))) (hC : K.lookup C = some (excClassObj nm q C N bs bm hdct sn sub ab col dd k0 k1 k2 k3 k5 newId)) (hi : findIn K (.ref C) "__init__" = some (some (.ref fI))) (hfI : K.lookup fI = some oI) (hfc : oI.cls = .type "function")
    (hB : bm.contains (.type B) = true) (hA' : bm.contains (.type "AttributeError") = false) (hN' : bm.contains (.type "NameError") = false) (hbase : bm.contains (.type "BaseException") = true) (hh : A.handled = none)
    (h : wpAny (model prog w) A (eval e₀ (envOf name scope L a cd)) (fun v s₂ => Fr h₀ L s₂.heap m ∧
      ∀ h' e, Heap.MadeExcOf s₂.heap h' e (.ref C) [v] → wpAny (model prog w) (A.under (.builtin "type.__call__" ⟨[.ref C, v], []⟩)) (call (.ref fI) [.ref e, v]) (Left C (excClassObj nm q C N bs bm hdct sn sub ab col dd k0 k1 k2 k3 k5 newId) E e) E { s₂ with heap := h' }) E s)
    (he : starEach [e₀] (envOf name scope L a cd) = [(false, eval e₀ (envOf name scope L a cd))] := by rfl)
    (hk : scope.kind = .function := by rfl) (hg : (envOf name scope L a cd).kindOf x = some .globalImplicit := by rfl) (hd : (x == ("__debug__" : Str)) = false := by decide) :
    wpAny (model prog w) A (exec (.Raise (some (.Call (.Name x np) [e₀] [] cpos)) none pos) (envOf name scope L a cd)) Q E s := by
  refine x_Raise (C := C) (nm := nm) (q := q) (N := N) (bs := bs) (bm := bm) (hdct := hdct) (sn := sn) (sub := sub) (ab := ab) (col := col) (dd := dd) (k0 := k0) (k1 := k1) (k2 := k2) (k3 := k3) (k5 := k5) (newId := newId) (fI := fI) (oI := oI)
    FB hB hA' hN' hbase hh (by rw [he]; rfl) (nameX_K (cl := []) F X T hx ⟨rfl, ?_⟩ hk hg hd)
  rw [he]
  refine Calls.evalArgs_plain ?_
  refine Calls.spliced_cons (wpAny_mono h (fun v s₂ h₂ => Calls.spliced_nil ?_) fun _ _ y => y)
  obtain ⟨F₂, h₂⟩ := h₂
  exact ⟨rfl, (by show 1 ≤ sizeLine; decide), X.keeps F₂.keep _ _ hC, looks_findIn (X.keeps F₂.keep) hi, X.keeps F₂.keep _ _ hfI, hfc, h₂⟩
end
end Mine
end
section
open PySem PySem.W PyProof.Rows PySem.Spec PySem.Calls
set_option Elab.async false
set_option maxRecDepth 100000
set_option maxHeartbeats 8000000
namespace Mine
section
variable {M : Model} {A : Around} {E : Value → Shared → Prop} {s' : Shared} {base g : Heap} {outer : List Env} {L a e t : Addr} {m : Str → Option Value} {name : Str} {scope : Scope} {cd : Value} {Q : Unit → Shared → Prop} {news : List (Addr × Obj)}
theorem x_leave {cls : Value} {vs : List Value} {eo to : Obj} {n : Nat} (K : Below A base outer g) (F : Fr g L s'.heap m) (N : News g L s'.heap ((e, eo) :: (t, to) :: news)) (hne : ∀ q ∈ news, q.1 ≠ e) (hnt : ∀ q ∈ news, q.1 ≠ t)
    (hc : eo.cls = cls) (hd : eo.data = .fields #[.ref t, .none, .none, .none, .bool false, .none]) (htc : to.cls = .type "tuple") (htd : to.data = .seq vs.toArray n)
    (hQ : ∀ h', RaisedS base g outer e cls t vs news h' → g.UpToSlots h' → Q () { s' with heap := h' }) (hk : scope.kind = .function := by rfl) :
    wpAny M (A.deeper (envOf name scope L a cd)) (leaving (envOf name scope L a cd) (.ref e)) Q E s' := by
  have K' := K.push (name := name) (a := a) (cd := cd) F hk
  have Ne := N (e, eo) (.head _)
  have Nt := N (t, to) (.tail _ (.head _))
  have hin : ∀ env ∈ (envOf name scope L a cd :: outer), ∀ b, env.frame = some b → b ∈ e :: t :: (envOf name scope L a cd :: outer).filterMap (·.frame) := fun env he b hb => .tail _ (.tail _ (List.mem_filterMap.mpr ⟨env, he, hb⟩))
  have bne : ∀ b o, base.get? b = some o → b ≠ e ∧ b ≠ t := fun b o q => by
    have h1 := K.stays b o q
    constructor
    · intro z; rw [z, Ne.2.2] at h1; cases h1
    · intro z; rw [z, Nt.2.2] at h1; cases h1
  have st : base.StaysIn (hideAll s'.heap (e :: t :: (envOf name scope L a cd :: outer).filterMap (·.frame))) := fun b o q => hideAll_get _ (K'.stays b o q) fun hm => by
    rcases List.mem_cons.mp hm with z | hm
    · exact (bne b o q).1 z
    · rcases List.mem_cons.mp hm with z | hm
      · exact (bne b o q).2 z
      · rw [(K'.frames.mem hm).1] at q; cases q
  have sg : ∀ b o, g.get? b = some o → b ∉ outer.filterMap (·.frame) → (hideAll s'.heap (e :: t :: (envOf name scope L a cd :: outer).filterMap (·.frame))).get? b = some o := fun b o q nm => hideAll_get _ (F.keep b o q) fun hm => by
    rcases List.mem_cons.mp hm with z | hm
    · rw [z, Ne.2.2] at q; cases q
    · rcases List.mem_cons.mp hm with z | hm
      · rw [z, Nt.2.2] at q; cases q
      · rcases kts_mem hm with z | z
        · rw [z, kts_self F] at q; cases q
        · exact nm z
  have hl : ∀ q ∈ news, (hideAll s'.heap (e :: t :: (envOf name scope L a cd :: outer).filterMap (·.frame))).get? q.1 = some q.2 ∧ g.get? q.1 = none ∧ base.get? q.1 = none := fun q hq => by
    have Nq := N q (.tail _ (.tail _ hq))
    refine ⟨hideAll_get _ Nq.1 fun hm => ?_, Nq.2.2, fresh_of_stays K.stays Nq.2.2⟩
    rcases List.mem_cons.mp hm with z | hm
    · exact hne q hq z
    · rcases List.mem_cons.mp hm with z | hm
      · exact hnt q hq z
      · obtain ⟨env, he, hf⟩ := List.mem_filterMap.mp hm
        rcases List.mem_cons.mp he with rfl | he
        · exact Nq.2.1 (Option.some.inj hf).symm
        · obtain ⟨o, ho, _⟩ := (K.frames.mem (List.mem_filterMap.mpr ⟨env, he, hf⟩)).2
          rw [Nq.2.2] at ho; cases ho
  refine wpAny_leaving_firstW (base := hideAll s'.heap (e :: t :: (envOf name scope L a cd :: outer).filterMap (·.frame))) (a0 := .ref t) K'.stack (funFrames_hide K'.frames hin) rfl Ne.1 (fun b o q => of_hideAll _ q) (hideAll_none _ (.head _)) hd rfl rfl fun h' hL => ?_
  obtain ⟨k1, ⟨_, _, k2⟩, k3, k4⟩ := hL
  rw [hc] at k3
  exact hQ h' ⟨⟨_, st, sg, hl, ⟨k1, hideAll_none _ (.head _), k2, k3⟩, hideAll_none _ (.tail _ (.head _))⟩, Heap.TupAt.of_slots ⟨to, n, Nt.1, htc, htd⟩ k4⟩ ((Heap.UpToSlots.of_keeps F.keep).trans k4)
end
end Mine
end
section
open PySem PySem.W PyProof.Rows PySem.Spec PySem.Calls
set_option Elab.async false
set_option maxRecDepth 100000
set_option maxHeartbeats 8000000
namespace Mine
/-- a call that ends in the exception of the text's own -/
def Raiz (w : World) (k : Nat) (f : Addr) (args : List Value) : Prop :=
  ∀ (mg mb : Str → Option Value) (mean : ExcName → Option Value) (dp un : Nat) (gd : Option (List Code)) (cn : Str) (cs : Scope) (ad : Addr) (ccd : Value) (outer : List Env) (A₀ : Around) (base h₀ : Heap) (L : Addr) (m : Str → Option Value) (s : Shared) (Q E : Value → Shared → Prop) (news : List (Addr × Obj)),
  Below A₀ base outer h₀ → Fr h₀ L s.heap m → (hd.heap_39 w.params).In h₀ → News h₀ L s.heap news → Top hd.view_39 (looseW hd.view_39 []) mean mg mb h₀ → cs.kind = .function → dp + k < recursionLimit → un + 8 * k < cLine →
  (∀ (G : Heap) (e t : Addr) (vs : List Value) (h' : Heap) (tk' : Nat), RaisedS base G (envOf cn cs L ad ccd :: outer) e (.ref 44) t vs news h' → Fr h₀ L G m → G.UpToSlots h' → E (.ref e) { s with heap := h', toks := tk' }) →
  wpAny (model (PySem.Challenge.rw_on0229_01).prog w) (ktrTop dp un gd cn cs L ad ccd [] outer) (call (.ref f) args) Q E s
theorem under_units (A : Around) (C : Addr) (vals : List Value) : (A.under (.builtin "type.__call__" ⟨.ref C :: vals, []⟩)).units = A.units + 1 := by
  first | rfl | simp [Around.under, Code.cUnits, Code.frames, Code.isFrame]
theorem weight_make (C : Addr) (vals : List Value) : (Code.builtin "type.__call__" ⟨.ref C :: vals, []⟩).weight = 1 := rfl
theorem made_news {g h h' : Heap} {L e C : Addr} {m : Str → Option Value} {news : List (Addr × Obj)} {vs : List Value} (F : Fr g L h m) (N : News g L h news) (hm : Heap.MadeExcOf h h' e (.ref C) vs) :
    ∃ t, Fr g L h' m ∧ News g L h' ((e, { cls := .ref C, data := .fields #[.ref t, .none, .none, .none, .bool false, .none] }) :: (t, { cls := .type "tuple", data := .seq vs.toArray }) :: news) ∧ (∀ q ∈ (t, ({ cls := .type "tuple", data := .seq vs.toArray } : Obj)) :: news, q.1 ≠ e) ∧ (∀ q ∈ news, q.1 ≠ t) := by
  obtain ⟨t, he, ht, htt⟩ := hm.there
  have hL : ∃ o, h.get? L = some o := by obtain ⟨oL, es, ep, hL, r⟩ := F.ns; exact ⟨oL, hL⟩
  obtain ⟨oL, hL⟩ := hL
  have nL : ∀ b, h.get? b = none → b ≠ L ∧ g.get? b = none := by
    intro b hb
    refine ⟨fun z => by (rw [z, hL] at hb; exact nomatch hb), ?_⟩
    cases hq : g.get? b with
    | none => rfl
    | some o => have := F.keep b o hq; rw [hb] at this; cases this
  refine ⟨t, F.keeps hm.keeps, ?_, ?_, ?_⟩
  · intro p hp
    rcases List.mem_cons.mp hp with rfl | hp
    · exact ⟨he, nL _ hm.new⟩
    · rcases List.mem_cons.mp hp with rfl | hp
      · exact ⟨htt, nL _ ht⟩
      · exact ⟨hm.keeps _ _ (N p hp).1, (N p hp).2⟩
  · intro q hq z
    rcases List.mem_cons.mp hq with rfl | hq
    · have z' : t = e := z
      rw [z', he] at htt
      cases htt
    · have h1 := (N q hq).1
      rw [z, hm.new] at h1; cases h1
  · intro q hq z
    have h1 := (N q hq).1
    rw [z, ht] at h1; cases h1
theorem raised_sub {base G : Heap} {l : List Env} {e t : Addr} {cls : Value} {vs : List Value} {news news' : List (Addr × Obj)} {h : Heap} (R : RaisedS base G l e cls t vs news' h) (hs : ∀ q ∈ news, q ∈ news') : RaisedS base G l e cls t vs news h := by
  obtain ⟨⟨B, hB, hBG, hl, hfl, hnew⟩, htup⟩ := R
  exact ⟨⟨B, hB, hBG, fun q hq => hl q (hs q hq), hfl, hnew⟩, htup⟩
end Mine
end
section
open PySem PySem.W PyProof.Rows PySem.Spec PySem.Calls
set_option Elab.async false
set_option maxRecDepth 100000
set_option maxHeartbeats 8000000
namespace Mine
section
variable {prog : Program} {w : World} {A₀ A : Around} {s : Shared} {base h₀ g₀ : Heap} {outer : List Env} {L : Addr} {m : Str → Option Value} {env : Env} {news : List (Addr × Obj)} {K : Frag} {p : Program} {loose : List Str} {mean : ExcName → Option Value} {mg mb : Str → Option Value}
    {R : Result → Shared → Prop} {name qual : Str} {params : Arguments} {body : List Stmt} {scope : Scope} {dV kV doc pm cdv ct oc : Value} {an od : Option Addr} {osl : Array (Option Value)} {f : Addr} {args : Args} {binds : List (Str × Value)}
theorem frames_mem {b : Addr} (hf : env.frame = some L) (hm : b ∈ (env :: outer).filterMap (·.frame)) : b = L ∨ b ∈ outer.filterMap (·.frame) := by
  obtain ⟨env', he, hf'⟩ := List.mem_filterMap.mp hm
  rcases List.mem_cons.mp he with rfl | he
  · exact .inl (Option.some.inj (hf'.symm.trans hf))
  · exact .inr (List.mem_filterMap.mpr ⟨env', he, hf'⟩)
/-- the ground of a call within which an exception is caught -/
theorem groundS (B : Below A₀ base outer h₀) (F : Fr h₀ L s.heap m) (N : News h₀ L s.heap news) (XB : K.In base) (TB : Top p loose mean mg mb base) (D : KtsDicts (outer.filterMap (·.frame)) h₀)
    (T0 : KtsTurn (outer.filterMap (·.frame)) g₀ h₀) (hA : A.frames = some (env :: outer)) (hf : env.frame = some L) (hke : env.scope.kind = .function) :
    Fr h₀ L (hideAll s.heap (news.map (·.1))) m ∧ Below A base (env :: outer) (hideAll s.heap (news.map (·.1))) ∧ h₀.StaysIn (hideAll s.heap (news.map (·.1))) ∧ KtsDicts ((env :: outer).filterMap (·.frame)) (hideAll s.heap (news.map (·.1))) ∧
      ∀ v s', LeaveS ((env :: outer).filterMap (·.frame)) A₀ base outer K p loose mean mg mb g₀ h₀ L m (hideAll s.heap (news.map (·.1))) R v s' → R (.ok (.ret v)) s' := by
  obtain ⟨FG, BG, st, lv⟩ := groundX (R := R) B F N hA hf hke
  obtain ⟨oL, es, ep, hLg, hLd, hLk, hLf⟩ := FG.ns
  refine ⟨FG, BG, st, fun b hb => ?_, fun v s' hl => ?_⟩
  · rcases frames_mem hf hb with rfl | hb
    · exact ⟨oL, es, ep, hLg, hLd⟩
    · obtain ⟨o, es', n', ho', hd'⟩ := D b hb
      exact ⟨o, es', n', st b o ho', hd'⟩
  have nL₀ : h₀.get? L = none := kts_self F
  rcases hl with hl | ⟨g', L', m', news', T', F', N', k⟩
  · exact lv v s' hl
  obtain ⟨sl, hs⟩ := T'.up hLg
  obtain ⟨T₁, S₁⟩ := kts_turn_at (h := s'.heap) (fs := outer.filterMap (·.frame)) (g := h₀)
    (fun b hb => by
      obtain ⟨_, o, ho', _⟩ := B.frames.mem hb
      exact ⟨o, ho'⟩)
    (fun b o e nmem => F'.keep b o (T'.other b o (st b o e) (fun q => by
      rcases frames_mem hf q with z | z
      · rw [z, nL₀] at e
        cases e
      · exact nmem z)))
    (fun b o e hm => by
      obtain ⟨sl', hs'⟩ := T'.up (st b o e)
      exact ⟨sl', F'.keep _ _ hs'⟩)
  have B₃ : Below A₀ base outer (ktsHeap s'.heap (outer.filterMap (·.frame)) h₀) := ⟨B.stack, fun b o e => T₁.other b o (B.stays b o e) (fun hm => by
    rw [(B.frames.mem hm).1] at e
    cases e), B.frames.of_keeps fun b o e _ => by
    obtain ⟨sl', hs'⟩ := T₁.up e
    exact ⟨_, hs', rfl⟩⟩
  refine k _ (T0.trans T₁) ⟨⟨_, es, ep, F'.keep _ _ hs, hLd, hLk, hLf⟩, S₁, by rw [T₁.size]; exact F.above⟩ (fun p hp => ⟨(N' p hp).1, fun q => ?_, ?_⟩) B₃ (XB.keeps B₃.stays) (TB.keeps B₃.stays) (D.turn T₁)
  · have := (N' p hp).2.2; rw [q, hs] at this; cases this
  · refine T₁.none_ _ ?_
    cases q : h₀.get? p.1 with
    | none => rfl
    | some o =>
      obtain ⟨sl', hs'⟩ := T'.up (st _ _ q)
      have := (N' p hp).2.2
      rw [hs'] at this
      cases this

theorem code_defSX (B : Below A₀ base outer h₀) (F : Fr h₀ L s.heap m) (X₀ : K.In h₀) (N : News h₀ L s.heap news) (T : Top p loose mean mg mb h₀) (XB : K.In base) (TB : Top p loose mean mg mb base) (D : KtsDicts (outer.filterMap (·.frame)) h₀)
    (T0 : KtsTurn (outer.filterMap (·.frame)) g₀ h₀) (hA : A.frames = some (env :: outer)) (hf : env.frame = some L) (hke : env.scope.kind = .function)
    (ho : K.lookup f = some ⟨oc, od, .func (fnOf name qual params body scope dV kV doc pm an cdv ct), osl⟩) (hcd : codeIn K cdv qual = true) (hroom : A.depth < recursionLimit)
    (hbind : BindsTo s (fnOf name qual params body scope dV kV doc pm an cdv ct) args binds) (hloc : ∀ y ∈ binds, scope.names.lookup y.1 = some .local)
    (h : ∀ g L' h₁, Fr h₀ L g m → Fr g L' h₁ (fun y => binds.reverse.lookup y) → News g L' h₁ news → Below A base (env :: outer) g → K.In g → Top p loose mean mg mb g → KtsDicts ((env :: outer).filterMap (·.frame)) g → (∀ p ∈ news, p.1 < L') →
      wpAny (model prog w) (A.deeper (envOf qual scope L' f cdv)) (execs body (envOf qual scope L' f cdv))
        (fun fl s' => LeaveS ((env :: outer).filterMap (·.frame)) A₀ base outer K p loose mean mg mb g₀ h₀ L m g R (match fl with | .ret v => v | _ => .none) s')
        (fun e s' => wpAny (model prog w) (A.deeper (envOf qual scope L' f cdv)) (leaving (envOf qual scope L' f cdv) e) (fun _ s'' => R (.error e) s'') (fun e' s'' => R (.error e') s'') s')
        { s with heap := h₁, toks := s.toks + binds.length })
    (hco : scope.isCoroutine = false) (hgen : scope.isGenerator = false) (hk : scope.kind = .function)
    (hcell : ∀ x ∈ scope.names, x.2 ≠ .cell) : codeAny (model prog w) A (.call (.ref f) args) R s := by
  have X := X₀.keeps F.keep
  obtain ⟨FG, BG, st, DG, lv⟩ := groundS (K := K) (R := R) B F N XB TB D T0 hA hf hke
  refine codeAny_call_def (fd := fnOf name qual params body scope dV kV doc pm an cdv ct) (body := body) (binds := binds) hroom (X _ _ ho) rfl (T.nolimit.keeps F.keep) (codeRec_of X hcd) rfl hbind hcell hloc (fun h₁ hns hk₁ => ?_) hco hgen hk
  exact wpAny_mono (h _ s.heap.objs.size h₁ FG ⟨hns, fun b o e => hk₁ b o (of_hideAll _ e), Nat.le_of_eq (hideAll_size _ _)⟩
    (fun p hp => ⟨hk₁ _ _ (N p hp).1, Nat.ne_of_lt (Heap.lt_size (N p hp).1), hideAll_none _ (List.mem_map_of_mem hp)⟩) BG (X₀.keeps st) (T.keeps st) DG (fun p hp => Heap.lt_size (N p hp).1)) (fun fl s' hl => lv _ _ hl) fun _ _ y => y

theorem code_defSC (B : Below A₀ base outer h₀) (F : Fr h₀ L s.heap m) (X₀ : K.In h₀) (N : News h₀ L s.heap news) (T : Top p loose mean mg mb h₀) (XB : K.In base) (TB : Top p loose mean mg mb base) (D : KtsDicts (outer.filterMap (·.frame)) h₀)
    (T0 : KtsTurn (outer.filterMap (·.frame)) g₀ h₀) (hA : A.frames = some (env :: outer)) (hf : env.frame = some L) (hke : env.scope.kind = .function)
    (ho : K.lookup f = some ⟨oc, od, .func (fnOf name qual params body scope dV kV doc pm an cdv ct), osl⟩) (hcd : codeIn K cdv qual = true) (hroom : A.depth < recursionLimit)
    (hbind : BindsTo s (fnOf name qual params body scope dV kV doc pm an cdv ct) args binds) (hkind : (binds.all fun y => scope.names.lookup y.1 == some .local || scope.names.lookup y.1 == some .cell) = true)
    (hnd : ((cellsFrom 0 scope.names []).map (·.1)).Nodup)
    (h : ∀ g L' h₁ tk cells, Fr h₀ L g m → Fr g L' h₁ (bindL (envOfC qual scope L' f cdv).kindOf binds fun _ => none) → News g L' h₁ (cells ++ news) →
      CellsAre (bindC (envOfC qual scope L' f cdv).kindOf binds fun _ => none) (cellsFrom (L' + 1) scope.names []) cells → Below A base (env :: outer) g → K.In g → Top p loose mean mg mb g → KtsDicts ((env :: outer).filterMap (·.frame)) g → (∀ p ∈ news, p.1 < L') →
      wpAny (model prog w) (A.deeper (envOfC qual scope L' f cdv)) (execs body (envOfC qual scope L' f cdv))
        (fun fl s' => LeaveS ((env :: outer).filterMap (·.frame)) A₀ base outer K p loose mean mg mb g₀ h₀ L m g R (match fl with | .ret v => v | _ => .none) s')
        (fun e s' => wpAny (model prog w) (A.deeper (envOfC qual scope L' f cdv)) (leaving (envOfC qual scope L' f cdv) e) (fun _ s'' => R (.error e) s'') (fun e' s'' => R (.error e') s'') s')
        { s with heap := h₁, toks := tk })
    (hco : scope.isCoroutine = false) (hgen : scope.isGenerator = false) (hk : scope.kind = .function) : codeAny (model prog w) A (.call (.ref f) args) R s := by
  have X := X₀.keeps F.keep
  obtain ⟨FG, BG, st, DG, lv⟩ := groundS (K := K) (R := R) B F N XB TB D T0 hA hf hke
  refine codeAny_call_function hroom (X _ _ ho) rfl hco hgen rfl (codeRec_of X hcd) (hbind _ _ _ _ ?_)
  refine wpAny_newFunctionEnv_cells hk (kindsX hkind _) fun env' he s' x => ?_
  subst he
  refine ⟨(T.nolimit.keeps F.keep).keeps x.toInCall.keep, codeAny_func ?_⟩
  obtain ⟨h₁, tk, rfl, _⟩ := x.done
  have hk₁ := x.toInCall.keep
  obtain ⟨cells, NC, Y⟩ := Cl.news (h₀ := s.heap) (Nat.le_refl _) fun n c hm => ⟨x.cell n c (lookup_of_mem_nodup (cellsFrom_names scope.names 0 (s.heap.objs.size + 1) [] [] rfl ▸ hnd) hm), x.above n c hm⟩
  refine wpAny_mono (h _ s.heap.objs.size h₁ tk cells FG ⟨x.toInCall.ns, fun b o e => hk₁ b o (of_hideAll _ e), Nat.le_of_eq (hideAll_size _ _)⟩ (fun p hp => ?_) Y BG (X₀.keeps st) (T.keeps st) DG (fun p hp => Heap.lt_size (N p hp).1)) (fun fl s' hl => lv _ _ hl) fun _ _ y => y
  rcases List.mem_append.mp hp with hp | hp
  · refine ⟨(NC p hp).1, (NC p hp).2.1, ?_⟩
    cases q : (hideAll s.heap (news.map (·.1))).get? p.1 with
    | none => rfl
    | some o => have := of_hideAll _ q; rw [(NC p hp).2.2] at this; cases this
  · exact ⟨hk₁ _ _ (N p hp).1, Nat.ne_of_lt (Heap.lt_size (N p hp).1), hideAll_none _ (List.mem_map_of_mem hp)⟩
end
/-- a call within which an exception is caught: the ground turns (the frames' slots below) -/
def SpecT (w : World) (k : Nat) (f : Addr) (vs : List Value) (news : List (Addr × Obj)) (Post : Value → List (Addr × Obj) → Prop) : Prop :=
  ∀ (mg mb : Str → Option Value) (mean : ExcName → Option Value) (dp un : Nat) (gd : Option (List Code)) (cn : Str) (cs : Scope) (ad : Addr) (ccd : Value) (cl : List (Str × Addr)) (outer : List Env) (A₀ : Around) (base h₀ : Heap) (L : Addr) (m : Str → Option Value) (s : Shared) (Q E : Value → Shared → Prop),
  Below A₀ base outer h₀ → Fr h₀ L s.heap m → (hd.heap_39 w.params).In h₀ → News h₀ L s.heap news → Top hd.view_39 (looseW hd.view_39 []) mean mg mb h₀ → cs.kind = .function →
  (hd.heap_39 w.params).In base → Top hd.view_39 (looseW hd.view_39 []) mean mg mb base → KtsDicts (outer.filterMap (·.frame)) h₀ → dp + k < recursionLimit → un + 8 * k < cLine →
  (∀ (v : Value) (news' : List (Addr × Obj)) (h₀' h' : Heap) (tk' : Nat), Post v news' → KtsTurn (outer.filterMap (·.frame)) h₀ h₀' → Fr h₀' L h' m → News h₀' L h' news' → Below A₀ base outer h₀' → (hd.heap_39 w.params).In h₀' → Top hd.view_39 (looseW hd.view_39 []) mean mg mb h₀' → KtsDicts (outer.filterMap (·.frame)) h₀' → Q v { s with heap := h', toks := tk' }) →
  wpAny (model (PySem.Challenge.rw_on0229_01).prog w) (ktrTop dp un gd cn cs L ad ccd cl outer) (call (.ref f) vs) Q E s
end Mine
end
section
open PySem PySem.W PyProof.Rows
theorem Mine.anew2 {p : Program} {w : World} {A : Around} {env : Env} {Q : Flow → Shared → Prop} {E : Value → Shared → Prop} {s : Shared} (h : Q .next s) : wpAny (model p w) A (execs [] env) Q E s := by
  walk1
  assumption
end
section
open PySem PySem.W PyProof.Rows
set_option Elab.async false
set_option maxRecDepth 100000
set_option maxHeartbeats 8000000
namespace Mine
section
local macro_rules | `(tactic| k_all) => `(tactic| first | assumption | (refine allLt_ne ?_; first | assumption | (simp only [*]; done)))
local macro_rules | `(tactic| walk_at "my pick") => `(tactic| first | exact Pick.head | (refine' Pick.tail ?pk; (case pk => walk_at "my pick")))
local macro_rules | `(tactic| walk_at "my ints") => `(tactic| first | assumption | exact IntsAre.nil | (refine' IntsAre.cons _ _ ?ic; (case ic => walk_at "my ints")))
local macro_rules | `(tactic| walk_at "my room") => `(tactic| first | omega | ktr_room)
local macro_rules | `(tactic| walk_at "my arith") => `(tactic| first | assumption | omega | l_fact)
local macro_rules | `(tactic| walk_at "my ctx") => `(tactic| ((case B => k_asm); (case F => k_asm); (case X => k_asm); (case T => k_asm); (case N => k_asm); (case hk => first | exact rfl | assumption); (case hd => walk_at "my room"); (case hu => ktr_units)))
local macro_rules | `(tactic| walk_at "my len") => `(tactic| first | omega | (simp only [List.length_append, List.length_cons, List.length_nil] at *; omega) | l_fact)
local macro_rules | `(tactic| walk_at "call ref") => `(tactic| (k_here; (with_reducible show wpAny _ _ (call (Value.ref _) [Value.bytes _ _]) _ _ _); k_dflt (
  (with_reducible rename Raiz _ _ _ _ => hfall)
  refine' hfall _ _ _ _ _ _ _ _ _ _ _ _ _ _ _ _ _ _ _ _ ?B ?F ?X ?N ?T ?hk ?hd ?hu ?_
  walk_at "my ctx"
  k_whole
  intro G' e' t' vs' h' tk' R' FG' U'
  (try dsimp only)
  (try k_unfold)
  (try dsimp only))))
theorem fell_count (w : World) (arr : Array UInt8) (tb : Tok) (rest : List (Addr × Obj)) (hfall : Raiz w 10 131 [.bytes arr tb]) : SpecT w 14 222 [.ref 131, .bytes arr tb] rest (fun v news' => v = .bool true ∧ news' = rest) := by
  unfold SpecT
  k_fill
  intro mg mb mean dp un gd cn cs ad ccd cl outer A₀ base h₀ L m s Q E B F X N T hk XB TB D hdp hun hret
  refine wpAny_call ?_
  k_dflt (refine' code_defSX (g₀ := h₀) ?k1 ?k2 ?k3 ?k4 ?k5 ?XB ?TB ?D ?T0 ?kA ?kF ?cK ?k6 ?k7 ?k8 ?k9 ?kB ?_ ?c2 ?c3 ?c4 ?c5; (case kA => exact rfl); (case kF => exact rfl); (case cK => assumption); (case k2 => k_asm); (case k1 => k_asm); (case XB => assumption); (case TB => assumption); (case D => assumption); (case T0 => exact KtsTurn.refl); (case k3 => k_asm); (case k4 => k_asm); (case k5 => k_asm); (case k6 => k_is); (case k7 => k_is); (case k8 => ktr_room); (case k9 => first | exact BindsTo.of_eq rfl | exact binds_K (by k_in) rfl (by k_is) rfl rfl rfl); (case kB => exact locs rfl); (case c2 => exact rfl); (case c3 => exact rfl); (case c4 => exact rfl); (case c5 => decide); k_whole; intro g' L' h' FG' F' N' B' X' T' D' l1'; clear l1'; (try dsimp only); (try k_lift B'); (try k_fold))
  k_steps
  exact hret _ rest _ _ _ ⟨rfl, rfl⟩ (by assumption) (by assumption) (ledger_sub (by assumption) (by kcf_all)) (by assumption) (by assumption) (by assumption) (by assumption)
theorem fell_lines (w : World) (arr : Array UInt8) (tb : Tok) (rest : List (Addr × Obj)) (hfall : Raiz w 10 173 [.bytes arr tb]) : SpecT w 14 222 [.ref 173, .bytes arr tb] rest (fun v news' => v = .bool true ∧ news' = rest) := by
  unfold SpecT
  k_fill
  intro mg mb mean dp un gd cn cs ad ccd cl outer A₀ base h₀ L m s Q E B F X N T hk XB TB D hdp hun hret
  refine wpAny_call ?_
  k_dflt (refine' code_defSX (g₀ := h₀) ?k1 ?k2 ?k3 ?k4 ?k5 ?XB ?TB ?D ?T0 ?kA ?kF ?cK ?k6 ?k7 ?k8 ?k9 ?kB ?_ ?c2 ?c3 ?c4 ?c5; (case kA => exact rfl); (case kF => exact rfl); (case cK => assumption); (case k2 => k_asm); (case k1 => k_asm); (case XB => assumption); (case TB => assumption); (case D => assumption); (case T0 => exact KtsTurn.refl); (case k3 => k_asm); (case k4 => k_asm); (case k5 => k_asm); (case k6 => k_is); (case k7 => k_is); (case k8 => ktr_room); (case k9 => first | exact BindsTo.of_eq rfl | exact binds_K (by k_in) rfl (by k_is) rfl rfl rfl); (case kB => exact locs rfl); (case c2 => exact rfl); (case c3 => exact rfl); (case c4 => exact rfl); (case c5 => decide); k_whole; intro g' L' h' FG' F' N' B' X' T' D' l1'; clear l1'; (try dsimp only); (try k_lift B'); (try k_fold))
  k_steps
  exact hret _ rest _ _ _ ⟨rfl, rfl⟩ (by assumption) (by assumption) (ledger_sub (by assumption) (by kcf_all)) (by assumption) (by assumption) (by assumption) (by assumption)
theorem fell_head (w : World) (arr : Array UInt8) (tb : Tok) (rest : List (Addr × Obj)) (hfall : Raiz w 10 117 [.bytes arr tb]) : SpecT w 14 222 [.ref 117, .bytes arr tb] rest (fun v news' => v = .bool true ∧ news' = rest) := by
  unfold SpecT
  k_fill
  intro mg mb mean dp un gd cn cs ad ccd cl outer A₀ base h₀ L m s Q E B F X N T hk XB TB D hdp hun hret
  refine wpAny_call ?_
  k_dflt (refine' code_defSX (g₀ := h₀) ?k1 ?k2 ?k3 ?k4 ?k5 ?XB ?TB ?D ?T0 ?kA ?kF ?cK ?k6 ?k7 ?k8 ?k9 ?kB ?_ ?c2 ?c3 ?c4 ?c5; (case kA => exact rfl); (case kF => exact rfl); (case cK => assumption); (case k2 => k_asm); (case k1 => k_asm); (case XB => assumption); (case TB => assumption); (case D => assumption); (case T0 => exact KtsTurn.refl); (case k3 => k_asm); (case k4 => k_asm); (case k5 => k_asm); (case k6 => k_is); (case k7 => k_is); (case k8 => ktr_room); (case k9 => first | exact BindsTo.of_eq rfl | exact binds_K (by k_in) rfl (by k_is) rfl rfl rfl); (case kB => exact locs rfl); (case c2 => exact rfl); (case c3 => exact rfl); (case c4 => exact rfl); (case c5 => decide); k_whole; intro g' L' h' FG' F' N' B' X' T' D' l1'; clear l1'; (try dsimp only); (try k_lift B'); (try k_fold))
  k_steps
  exact hret _ rest _ _ _ ⟨rfl, rfl⟩ (by assumption) (by assumption) (ledger_sub (by assumption) (by kcf_all)) (by assumption) (by assumption) (by assumption) (by assumption)
end
end Mine
end
section
open PySem PySem.W PyProof.Rows PySem.Spec PySem.Calls
set_option Elab.async false
set_option maxRecDepth 100000
set_option maxHeartbeats 8000000
namespace Mine
/-- a draw within a comprehension -/
def Drew (src : Addr) (rest : List (Addr × Obj)) (P : Int → Prop) (y : Value) (news' : List (Addr × Obj)) : Prop :=
  ∃ (z a b : Int) (t ta tb : Tok) (n : Nat), y = .int z t ∧ P z ∧ news' = (src, listOf #[.int a ta, .int b tb] n) :: rest ∧ 0 ≤ a ∧ 0 ≤ b ∧ b < 2147483647
section
variable {prog : Program} {w : World} {A : Around} {h₀ : Heap} {L : Addr} {m : Str → Option Value} {env : Env} {elt : Expr} {x : Str} {scope : Scope} {cl : List (Str × Addr)} {s : Shared} {S : List (Addr × Obj) → Prop} {Pv : Nat → Value → Prop} {Fin : List Value → List (Addr × Obj) → Prop}
theorem comp_draws {n : Nat} (src : Addr) (rest : List (Addr × Obj)) (P : Int → Prop) {a₀ b₀ : Int} {ta₀ tb₀ : Tok} {n₀ : Nat} (ha₀ : 0 ≤ a₀) (hb₀ : 0 ≤ b₀) (hb₀' : b₀ < 2147483647)
    (turn : ∀ v I oI C oC D m₂ ys a b ta tb nn h tk (E' : Value → Shared → Prop), LCg.NsObj oC m₂ → m₂ x = some v → Fr h₀ L h m → News h₀ L h ((I, oI) :: (C, oC) :: (D, LCg.lst ys) :: (src, listOf #[.int a ta, .int b tb] nn) :: rest) → LCg.Off3 I C D ((src, listOf #[.int a ta, .int b tb] nn) :: rest) → ((@Ne Nat I C) ∧ (@Ne Nat I D) ∧ (@Ne Nat C D)) → 0 ≤ a → 0 ≤ b → b < 2147483647 →
      wpAny (model prog w) A (eval elt (compEnvC scope cl C env)) (LCg.CompEnd h₀ L m { s with heap := h, toks := tk } I oI C oC D (LCg.lst ys) S (fun y news' => Drew src rest P y news')) E' { s with heap := h, toks := tk })
    (fin : ∀ ys zs a b ta tb nn, zs.length = n → IntsAre ys zs → (∀ z ∈ zs, P z) → 0 ≤ a → 0 ≤ b → b < 2147483647 → Fin ys ((src, listOf #[.int a ta, .int b tb] nn) :: rest)) :
    LCg.CompRest prog w A h₀ L m env elt x scope cl s S Pv Fin n 0 [] ((src, listOf #[.int a₀ ta₀, .int b₀ tb₀] n₀) :: rest) := by
  have key : ∀ (j i : Nat) (ys : List Value) (zs : List Int) (a b : Int) (ta tb : Tok) (nn : Nat), zs.length + j = n → IntsAre ys zs → (∀ z ∈ zs, P z) → 0 ≤ a → 0 ≤ b → b < 2147483647 → LCg.CompRest prog w A h₀ L m env elt x scope cl s S Pv Fin j i ys ((src, listOf #[.int a ta, .int b tb] nn) :: rest) := by
    intro j
    induction j with
    | zero =>
      intro i ys zs a b ta tb nn hl hy hz ha hb hb'
      exact LCg.CompRest.zero (fin ys zs a b ta tb nn hl hy hz ha hb hb')
    | succ j ih =>
      intro i ys zs a b ta tb nn hl hy hz ha hb hb'
      refine LCg.CompRest.succ ?_
      intro v I oI C oC D m₂ h tk E' hv hC hx F N off ne
      refine wpAny_mono (turn v I oI C oC D m₂ ys a b ta tb nn h tk E' hC hx F N off ne ha hb hb') (fun y s₂ hq => ?_) fun _ _ e => e
      obtain ⟨h', tk', nw, e, F', N', off', hS, z, a', b', t, ta', tb', n', hy', hPz, hn, ha', hb₁, hb₂⟩ := hq
      rw [hn] at N' off' hS
      refine ⟨h', tk', _, e, F', N', off', hS, ?_⟩
      rw [hy']
      refine ih (i + 1) _ (zs ++ [z]) a' b' ta' tb' n' (by rw [List.length_append, List.length_singleton]; omega) ?_ ?_ ha' hb₁ hb₂
      · exact IntsAre.append hy (.cons z t .nil)
      · intro q hq
        rcases List.mem_append.mp hq with hq | hq
        · exact hz q hq
        · rw [List.mem_singleton.mp hq]; exact hPz
  exact key n 0 [] [] a₀ b₀ ta₀ tb₀ n₀ (by simp) .nil (fun _ h => nomatch h) ha₀ hb₀ hb₀'
end
theorem four_ints {ys : List Value} {zs : List Int} {n : Nat} (hl : zs.length = n) (hn : n = 4) (h : IntsAre ys zs) : ∃ a b c d ta tb tc td, zs = [a, b, c, d] ∧ ys = [.int a ta, .int b tb, .int c tc, .int d td] := by
  subst hn
  cases h with
  | nil => cases hl
  | cons a ta h => cases h with
    | nil => cases hl
    | cons b tb h => cases h with
      | nil => cases hl
      | cons c tc h => cases h with
        | nil => cases hl
        | cons d td h => cases h with
          | nil => exact ⟨a, b, c, d, ta, tb, tc, td, rfl, rfl⟩
          | cons e te h => simp at hl
theorem three_ints {ys : List Value} {zs : List Int} {n : Nat} (hl : zs.length = n) (hn : n = 3) (h : IntsAre ys zs) : ∃ a b c ta tb tc, zs = [a, b, c] ∧ ys = [.int a ta, .int b tb, .int c tc] := by
  subst hn
  cases h with
  | nil => cases hl
  | cons a ta h => cases h with
    | nil => cases hl
    | cons b tb h => cases h with
      | nil => cases hl
      | cons c tc h => cases h with
        | nil => exact ⟨a, b, c, ta, tb, tc, rfl, rfl⟩
        | cons d td h => simp at hl
end Mine
end
section
open PySem PySem.W PyProof.Rows PySem.Spec PySem.Calls
set_option Elab.async false
set_option maxRecDepth 100000
set_option maxHeartbeats 8000000
namespace Mine
theorem bInts_inj {b c : Array UInt8} (h : KBw.bInts b = KBw.bInts c) : b = c := by
  have e : b.toList = c.toList := by
    unfold KBw.bInts at h
    generalize b.toList = x at h
    generalize c.toList = y at h
    induction x generalizing y with
    | nil => cases y with
      | nil => rfl
      | cons q r => simp at h
    | cons p s ih => cases y with
      | nil => simp at h
      | cons q r =>
        simp only [List.map_cons, List.cons.injEq] at h
        have h1 : p.toNat = q.toNat := by omega
        rw [UInt8.toNat_inj.mp h1, ih r h.2]
  rw [← Array.toArray_toList (xs := b), ← Array.toArray_toList (xs := c), e]
theorem ne_same {prog : Program} {w : World} {A : Around} {E : Value → Shared → Prop} {s : Shared} {b c : Array UInt8} {ks ls : List Int} {t u : Tok} {Q : Value → Shared → Prop} (hb : KBw.bInts b = ks) (hc : KBw.bInts c = ls) (e : ks = ls) (h : Q (.bool false) s) :
    wpAny (model prog w) A (compareOp .NotEq (.bytes b t) (.bytes c u)) Q E s := by
  refine ne_bytes ?_
  have e' : b = c := bInts_inj (hb.trans (e.trans hc.symm))
  subst e'
  simpa using h
theorem lit_item {prog : Program} {w : World} {A : Around} {E : Value → Shared → Prop} {s : Shared} {value slice : PySem.Expr} {l : Addr} {vs : List Value} {k : Int} {u : Tok} {v : Value} {Q : Value → Shared → Prop}
    (hl : s.heap.IsList l vs.toArray) (h0 : 0 ≤ k) (hhi : k < 2 ^ 63) (hx : vs[k.toNat]? = some v) (h : Q v s)
    (hs : subscripted slice false (.ref l) (.int k u) = operate [.ref l, .int k u] (getItem (.ref l) (.int k u))) :
    wpAny (model prog w) A (subscriptTail value slice (.ref l) (.int k u)) Q E s :=
  tail_any hl.typeIs slot_list_getitem.lookup (wpAny_getItem_list hl h0 hhi (by simpa using hx) h) hs
theorem lit_item_N {prog : Program} {w : World} {A : Around} {E : Value → Shared → Prop} {s : Shared} {value slice : PySem.Expr} {l : Addr} {vs : List Value} {k : Int} {u : Tok} {v : Value} {Q : Value → Shared → Prop} {h₀ : Heap} {L : Addr} {news : List (Addr × Obj)} {o : Obj} {n : Nat}
    (N : News h₀ L s.heap news) (hm : (l, o) ∈ news) (hc : o.cls = .type "list") (hd : o.data = .seq vs.toArray n) (h0 : 0 ≤ k) (hhi : k < 2 ^ 63) (hx : vs[k.toNat]? = some v)
    (hs : subscripted slice false (.ref l) (.int k u) = operate [.ref l, .int k u] (getItem (.ref l) (.int k u))) (h : Q v s) :
    wpAny (model prog w) A (subscriptTail value slice (.ref l) (.int k u)) Q E s := lit_item ⟨o, (N _ hm).1, hc, n, hd⟩ h0 hhi hx h hs
theorem Raiz.mono {w : World} {k k' : Nat} {f : Addr} {args : List Value} (h : Raiz w k f args) (hk : k ≤ k') : Raiz w k' f args := by
  intro mg mb mean dp un gd cn cs ad ccd outer A₀ base h₀ L m s Q E news B F X N T hk' hdp hun hret
  exact h mg mb mean dp un gd cn cs ad ccd outer A₀ base h₀ L m s Q E news B F X N T hk' (by omega) (by omega) hret
theorem SpecT.to {w : World} {k : Nat} {f : Addr} {vs : List Value} {news : List (Addr × Obj)} {Post : Value → List (Addr × Obj) → Prop} (S : SpecT w k f vs news Post)
    {mg mb : Str → Option Value} {mean : ExcName → Option Value} {dp un : Nat} {gd : Option (List Code)} {cn : Str} {cs : Scope} {ad : Addr} {ccd : Value} {cl : List (Str × Addr)} {outer : List Env} {A₀ : Around} {base h₀ : Heap} {L : Addr} {m : Str → Option Value} {s : Shared} {Q E : Value → Shared → Prop} {led : List (Addr × Obj)}
    (B : Below A₀ base outer h₀) (F : Fr h₀ L s.heap m) (X : (hd.heap_39 w.params).In h₀) (N : News h₀ L s.heap led) (T : Top hd.view_39 (looseW hd.view_39 []) mean mg mb h₀) (hk : cs.kind = .function)
    (XB : (hd.heap_39 w.params).In base) (TB : Top hd.view_39 (looseW hd.view_39 []) mean mg mb base) (D : KtsDicts (outer.filterMap (·.frame)) h₀) (hsub : ∀ p ∈ news, p ∈ led) (hdp : dp + k < recursionLimit) (hun : un + 8 * k < cLine)
    (ret : ∀ (v : Value) (news' : List (Addr × Obj)) (h₀' h' : Heap) (tk' : Nat), Post v news' → KtsTurn (outer.filterMap (·.frame)) h₀ h₀' → Fr h₀' L h' m → News h₀' L h' news' → Below A₀ base outer h₀' → (hd.heap_39 w.params).In h₀' → Top hd.view_39 (looseW hd.view_39 []) mean mg mb h₀' → KtsDicts (outer.filterMap (·.frame)) h₀' → Q v { s with heap := h', toks := tk' }) :
    wpAny (model (PySem.Challenge.rw_on0229_01).prog w) (ktrTop dp un gd cn cs L ad ccd cl outer) (call (.ref f) vs) Q E s :=
  S mg mb mean dp un gd cn cs ad ccd cl outer A₀ base h₀ L m s Q E B F X (fun p hp => N p (hsub p hp)) T hk XB TB D hdp hun ret
end Mine
end
section
open PySem PySem.W PyProof.Rows PySem.Spec PySem.Calls
set_option Elab.async false
set_option maxRecDepth 100000
set_option maxHeartbeats 4000000
namespace Mine
/-- where a walk stands: the ground may have turned -/
structure Grd (outer : List Env) (A₀ : Around) (base : Heap) (K : Frag) (p : Program) (loose : List Str) (mean : ExcName → Option Value) (mg mb : Str → Option Value) (L : Addr) (m : Str → Option Value) (news : List (Addr × Obj)) (g₀ g h : Heap) : Prop where
  T : KtsTurn (outer.filterMap (·.frame)) g₀ g
  F : Fr g L h m
  N : News g L h news
  B : Below A₀ base outer g
  X : K.In g
  P : Top p loose mean mg mb g
  D : KtsDicts (outer.filterMap (·.frame)) g
section
variable {prog : Program} {w : World} {A A₀ : Around} {E : Value → Shared → Prop} {s : Shared} {base h₀ g₀ : Heap} {outer : List Env} {L : Addr} {m : Str → Option Value} {env : Env} {K : Frag} {p : Program} {loose : List Str} {mean : ExcName → Option Value} {mg mb : Str → Option Value}
/-- the ground stays, the heap grows beside the frame and the ledger -/
theorem Grd.but {news news' : List (Addr × Obj)} {g h h' : Heap} {I : Addr} (G : Grd outer A₀ base K p loose mean mg mb L m news g₀ g h) (hk : ∀ (b : Addr) (o : Obj), b ∉ [I] → h.get? b = some o → h'.get? b = some o) (hL : L ≠ I) (hI : g.get? I = none) (N' : News g L h' news') :
    Grd outer A₀ base K p loose mean mg mb L m news' g₀ g h' := ⟨G.T, LCg.fr_but G.F hk hL hI, N', G.B, G.X, G.P, G.D⟩
/-- what the test of a turn leaves -/
def TestNo (outer : List Env) (A₀ : Around) (base : Heap) (K : Frag) (p : Program) (loose : List Str) (mean : ExcName → Option Value) (mg mb : Str → Option Value) (L : Addr) (m : Str → Option Value) (g₀ : Heap) (s : Shared) (news : List (Addr × Obj)) (b : Bool) (s' : Shared) : Prop :=
  b = false ∧ ∃ g' h' tk', s' = { s with heap := h', toks := tk' } ∧ Grd outer A₀ base K p loose mean mg mb L m news g₀ g' h'
/-- a made list of octets at each of which a reader raises -/
noncomputable def AllFall (w : World) (k : Nat) (f : Addr) : List Value → Prop
  | [] => True
  | v :: r => (∃ arr t, v = .bytes arr t ∧ Raiz w k f [.bytes arr t]) ∧ AllFall w k f r
theorem AllFall.get {w : World} {k : Nat} {f : Addr} : ∀ {vs : List Value}, AllFall w k f vs → ∀ {i : Nat} {v : Value}, vs[i]? = some v → ∃ arr t, v = .bytes arr t ∧ Raiz w k f [.bytes arr t]
  | [], _, i, v, h => by simp at h
  | u :: r, H, 0, v, h => by
    simp only [List.getElem?_cons_zero, Option.some.injEq] at h
    exact h ▸ H.1
  | u :: r, H, i + 1, v, h => AllFall.get H.2 (by simpa using h)
theorem AllFall.nil {w : World} {k : Nat} {f : Addr} : AllFall w k f [] := True.intro
theorem AllFall.cons {w : World} {k : Nat} {f : Addr} {arr : Array UInt8} {t : Tok} {r : List Value} (h : Raiz w k f [.bytes arr t]) (H : AllFall w k f r) : AllFall w k f (.bytes arr t :: r) := ⟨⟨arr, t, rfl, h⟩, H⟩
/-- the list of a comprehension with a test, and its turns -/
def NoSrc (prog : Program) (w : World) (A : Around) (outer : List Env) (A₀ : Around) (base : Heap) (K : Frag) (p : Program) (loose : List Str) (mean : ExcName → Option Value) (mg mb : Str → Option Value) (L : Addr) (m : Str → Option Value) (g₀ : Heap) (env : Env) (scope : Scope) (cl : List (Str × Addr)) (c : Expr) (x : Str) (Q : Value → Shared → Prop) (xv : Value) (s₁ : Shared) : Prop :=
  ∃ ax its kx g₁ news, xv = .ref ax ∧ Grd outer A₀ base K p loose mean mg mb L m news g₀ g₁ s₁.heap ∧ (ax, ({ cls := .type "list", data := .seq its kx } : Obj)) ∈ news ∧
      (∀ (i : Nat) (v : Value) (I : Addr) (oI : Obj) (C : Addr) (oC : Obj) (D : Addr) m₂ g h tk E', its[i]? = some v → LCg.NsObj oC m₂ → m₂ x = some v → Grd outer A₀ base K p loose mean mg mb L m ((I, oI) :: (C, oC) :: (D, LCg.lst []) :: news) g₀ g h →
        wpAny (model prog w) A (isTrue c (compEnvC scope cl C env) (eval c (compEnvC scope cl C env)))
          (TestNo outer A₀ base K p loose mean mg mb L m g₀ { s₁ with heap := h, toks := tk } ((I, oI) :: (C, oC) :: (D, LCg.lst []) :: news)) E' { s₁ with heap := h, toks := tk }) ∧
      (∀ D g h tk, Grd outer A₀ base K p loose mean mg mb L m ((D, LCg.lst []) :: news) g₀ g h → LCg.Off1 D news → Q (.ref D) { s₁ with heap := h, toks := tk })
theorem NoSrc.intro {scope : Scope} {cl : List (Str × Addr)} {c : Expr} {x : Str} {Q : Value → Shared → Prop} {s₁ : Shared} {g₁ : Heap} {ax : Addr} {its : Array Value} {vs : List Value} {kx k : Nat} {f : Addr} {news : List (Addr × Obj)} {fs : List Addr} (hfs : outer.filterMap (·.frame) = fs) (hf : AllFall w k f vs)
    (T : KtsTurn fs g₀ g₁) (F : Fr g₁ L s₁.heap m) (N : News g₁ L s₁.heap news) (B : Below A₀ base outer g₁) (X : K.In g₁) (P : Top p loose mean mg mb g₁) (D : KtsDicts fs g₁) (hm : (ax, listOf its kx) ∈ news) (hv : its = vs.toArray)
    (turn : ∀ (arr : Array UInt8) (t : Tok) (I : Addr) (oI : Obj) (C : Addr) (oC : Obj) (D : Addr) m₂ g h tk (E' : Value → Shared → Prop), Raiz w k f [.bytes arr t] → LCg.NsObj oC m₂ → m₂ x = some (.bytes arr t) → KtsTurn fs g₀ g → Fr g L h m → News g L h ((I, oI) :: (C, oC) :: (D, LCg.lst []) :: news) → Below A₀ base outer g → K.In g → Top p loose mean mg mb g → KtsDicts fs g →
      wpAny (model prog w) A (isTrue c (compEnvC scope cl C env) (eval c (compEnvC scope cl C env)))
          (TestNo outer A₀ base K p loose mean mg mb L m g₀ { s₁ with heap := h, toks := tk } ((I, oI) :: (C, oC) :: (D, LCg.lst []) :: news)) E' { s₁ with heap := h, toks := tk })
    (fin : ∀ D g h tk, KtsTurn fs g₀ g → Fr g L h m → News g L h ((D, LCg.lst []) :: news) → Below A₀ base outer g → K.In g → Top p loose mean mg mb g → KtsDicts fs g → LCg.Off1 D news → Q (.ref D) { s₁ with heap := h, toks := tk }) :
    NoSrc prog w A outer A₀ base K p loose mean mg mb L m g₀ env scope cl c x Q (.ref ax) s₁ := by
  subst hfs hv
  refine ⟨ax, vs.toArray, kx, g₁, news, rfl, ⟨T, F, N, B, X, P, D⟩, hm, fun i v I oI C oC D m₂ g h tk E' hv hC hx G => ?_, fun D g h tk G o => fin D g h tk G.T G.F G.N G.B G.X G.P G.D o⟩
  obtain ⟨arr, t, rfl, hr⟩ := hf.get (i := i) (by simpa using hv)
  exact turn arr t I oI C oC D m₂ g h tk E' hr hC hx G.T G.F G.N G.B G.X G.P G.D
theorem TestNo.intro {s : Shared} {news all : List (Addr × Obj)} {g h : Heap} {tk : Nat} {fs : List Addr} (hfs : outer.filterMap (·.frame) = fs) (T : KtsTurn fs g₀ g) (F : Fr g L h m) (N : News g L h all) (hs : ∀ q ∈ news, q ∈ all) (B : Below A₀ base outer g) (X : K.In g) (P : Top p loose mean mg mb g) (D : KtsDicts fs g) :
    TestNo outer A₀ base K p loose mean mg mb L m g₀ s news false { s with heap := h, toks := tk } := by
  subst hfs
  exact ⟨rfl, g, h, tk, rfl, T, F, fun q hq => N q (hs q hq), B, X, P, D⟩
/-- a comprehension over a made list whose test lets nothing through; the ground may turn at each test -/
theorem ListComp_no {elt iter c : Expr} {x : Str} {px : Pos} {scope : Scope} {cl : List (Str × Addr)} {pos : Pos} {Q : Value → Shared → Prop}
    (hclos : closureFor scope env = pure cl) (hcell : ∀ y ∈ scope.names, y.2 ≠ .cell) (hkind : scope.kind = .function)
    (hnames : ∀ y ∈ scope.names, y.2 = .local → scope.names.lookup y.1 = some .local) (hx : scope.names.lookup x = some .local) (hh : A.handled = none)
    (h : wpAny (model prog w) A (eval iter env) (NoSrc prog w A outer A₀ base K p loose mean mg mb L m g₀ env scope cl c x Q) E s)
    (hs : ∀ x, foldedSetIterable iter env x = pure x := by intro _; rfl) :
    wpAny (model prog w) A (eval (.ListComp elt [⟨.Name x px, iter, [c], 0⟩] scope pos) env) Q E s := by
  rw [eval_ListComp]
  refine wpAny_comprehension_free (use := none) rfl hs hclos hkind hnames (wpAny_mono h (fun xv s₁ h₁ => ?_) fun _ _ e => e)
  obtain ⟨ax, its, kx, g₁, news, rfl, G₁, hmem, turn, fin⟩ := h₁
  have hl : s₁.heap.IsList ax its := ⟨_, (G₁.N _ hmem).1, rfl, kx, rfl⟩
  have hlt : ax < s₁.heap.objs.size := Heap.lt_size (G₁.N _ hmem).1
  refine wpAny_pyIter_list hl ?_
  -- the iterator
  have up : ∀ b o, s₁.heap.get? b = some o → (s₁.heap.push { cls := .type "list_iterator", data := .fields #[.ref ax, .int 0 0] }).get? b = some o := fun b o e => Heap.get?_push_of_some _ e
  have hIsz : (s₁.heap.push { cls := .type "list_iterator", data := .fields #[.ref ax, .int 0 0] }).objs.size = s₁.heap.objs.size + 1 := Heap.size_push _ _
  have hIat : (s₁.heap.push { cls := .type "list_iterator", data := .fields #[.ref ax, .int 0 0] }).get? s₁.heap.objs.size = some { cls := .type "list_iterator", data := .fields #[.ref ax, .int 0 0] } := Heap.get?_push_size _ rfl
  generalize hH1 : s₁.heap.push { cls := .type "list_iterator", data := .fields #[.ref ax, .int 0 0] } = H1 at up hIsz hIat ⊢
  refine wpAny_newObj_type (wpAny_newFunctionEnv hcell (by intro y hy; simp at hy) (fun h₁ hns₁ hsb₁ => ?_) hkind)
  dsimp only at hns₁ hsb₁ ⊢
  have up2 : ∀ b o, H1.get? b = some o → (H1.push { cls := .type "list", dict := none, data := .seq ([] : List Value).toArray }).get? b = some o := fun b o e => Heap.get?_push_of_some _ e
  have hDat : (H1.push { cls := .type "list", dict := none, data := .seq ([] : List Value).toArray }).get? H1.objs.size = some (LCg.lst []) := Heap.get?_push_size _ rfl
  have hDsz : (H1.push { cls := .type "list", dict := none, data := .seq ([] : List Value).toArray }).objs.size = H1.objs.size + 1 := Heap.size_push _ _
  generalize hH2 : H1.push { cls := .type "list", dict := none, data := .seq ([] : List Value).toArray } = H2 at up2 hDat hDsz hns₁ hsb₁ ⊢
  have hID : s₁.heap.objs.size ≠ H1.objs.size := by rw [hIsz]; exact Nat.ne_of_lt (Nat.lt_succ_self _)
  have hDC : H1.objs.size ≠ H2.objs.size := by rw [hDsz]; exact Nat.ne_of_lt (Nat.lt_succ_self _)
  have hIC : s₁.heap.objs.size ≠ H2.objs.size := by rw [hDsz, hIsz]; exact Nat.ne_of_lt (Nat.lt_succ_of_lt (Nat.lt_succ_self _))
  have old : ∀ b o, s₁.heap.get? b = some o → h₁.get? b = some o := fun b o e => hsb₁.extBut b o (by have := Heap.lt_size e; rw [hDsz, hIsz]; exact Nat.ne_of_lt (Nat.lt_succ_of_lt (Nat.lt_succ_of_lt this))) (Heap.get?_push_of_some _ (up2 _ _ (up _ _ e)))
  have hI1 : h₁.get? s₁.heap.objs.size = some { cls := .type "list_iterator", data := .fields #[.ref ax, .int 0 0] } := hsb₁.extBut _ _ hIC (Heap.get?_push_of_some _ (up2 _ _ hIat))
  have hD1 : h₁.get? H1.objs.size = some (LCg.lst []) := hsb₁.extBut _ _ hDC (Heap.get?_push_of_some _ hDat)
  have fresh : ∀ a, s₁.heap.objs.size ≤ a → g₁.get? a = none := fun a ha => Heap.get?_none_of_le (Nat.le_trans (Nat.le_of_lt (Nat.lt_of_le_of_lt G₁.F.above G₁.F.ns.lt)) ha)
  have hLlt : L < s₁.heap.objs.size := G₁.F.ns.lt
  have off : ∀ p ∈ news, p.1 ≠ s₁.heap.objs.size ∧ p.1 ≠ H2.objs.size ∧ p.1 ≠ H1.objs.size := fun p hp => by
    have := Heap.lt_size (G₁.N p hp).1
    rw [hDsz, hIsz]
    exact ⟨Nat.ne_of_lt this, Nat.ne_of_lt (Nat.lt_succ_of_lt (Nat.lt_succ_of_lt this)), Nat.ne_of_lt (Nat.lt_succ_of_lt this)⟩
  obtain ⟨oC₁, heC₁, hoC₁⟩ := LCg.ns_obj hns₁
  have hLI : L ≠ s₁.heap.objs.size := Nat.ne_of_lt hLlt
  have hLD : L ≠ H1.objs.size := by rw [hIsz]; exact Nat.ne_of_lt (Nat.lt_succ_of_lt hLlt)
  have hLC : L ≠ H2.objs.size := by rw [hDsz, hIsz]; exact Nat.ne_of_lt (Nat.lt_succ_of_lt (Nat.lt_succ_of_lt hLlt))
  have haxI : ax ≠ s₁.heap.objs.size := Nat.ne_of_lt hlt
  have W := Walks.list (prog := prog) (w := w) hh s₁.heap.objs.size ax haxI its
  have loop : ∀ s₃ : Shared, s₃ = { s₁ with heap := h₁, toks := s₁.toks + ([] : List (Str × Value)).length } →
      codeAny (model prog w) A (.compLoop (.ListComp elt [⟨.Name x px, iter, [c], 0⟩] scope pos) 0 (.ref s₁.heap.objs.size) (.ref H1.objs.size) (compEnvC scope cl H2.objs.size env))
        (compPost (model prog w) A E none Q (.ref H1.objs.size) H2.objs.size) s₃ := by
    rintro s₃ rfl
    refine codeAny_compLoop_tests
      (fun k s' => ∃ h' tk i oI oC m' g', s' = { s₁ with heap := h', toks := tk } ∧ i ≤ its.size ∧ k = its.size + 1 - i ∧ h'.IsListIter s₁.heap.objs.size ax i ∧ LCg.NsObj oC m' ∧ Grd outer A₀ base K p loose mean mg mb L m ((s₁.heap.objs.size, oI) :: (H2.objs.size, oC) :: (H1.objs.size, LCg.lst []) :: news) g₀ g' h') ?_ (its.size + 1)
      ⟨h₁, _, 0, { cls := .type "list_iterator", data := .fields #[.ref ax, .int 0 0] }, oC₁, _, g₁, rfl, Nat.zero_le _, rfl, ⟨_, hI1, rfl, rfl⟩, hoC₁, ⟨G₁.T, G₁.F.keeps old, ?_, G₁.B, G₁.X, G₁.P, G₁.D⟩⟩
    · rintro k s' ⟨h', tk, i, oI, oC, m', g', rfl, hi, rfl, hit, hoC, G'⟩
      have zI := G'.N (s₁.heap.objs.size, oI) (.head _)
      have zC := G'.N (H2.objs.size, oC) (.tail _ (.head _))
      have zD := G'.N (H1.objs.size, LCg.lst []) (.tail _ (.tail _ (.head _)))
      have zR : ∀ p ∈ news, h'.get? p.1 = some p.2 ∧ p.1 ≠ L ∧ g'.get? p.1 = none := fun p hp => G'.N p (.tail _ (.tail _ (.tail _ hp)))
      have hls : h'.IsList ax its := ⟨_, (zR _ hmem).1, rfl, kx, rfl⟩
      by_cases hlt' : i < its.size
      · refine W.item i _ _ _ hlt' ⟨hit, hls⟩ fun v h₂ tk₂ hPv hst₂ hk₂ => ?_
        have hn₂ : h₂.Ns H2.objs.size m' := (hoC.ns zC.1).at' fun o e => hk₂ _ o (by simpa using Ne.symm hIC) e
        refine wpAny_assign_Name (wpAny_storeName_local (lookup_relabel_local hx) hn₂ (fun h₃ hn₃ hs₃ => ?_) (by simp [compEnvC, relabel, hkind]))
        obtain ⟨oC₃, heC₃, hoC₃⟩ := LCg.ns_obj hn₃
        obtain ⟨⟨oI₂, heI₂, hcI₂⟩, _⟩ := hst₂
        have F₂ : Fr g' L h₂ m := LCg.fr_but G'.F hk₂ hLI zI.2.2
        have F₃ : Fr g' L h₃ m := F₂.change hs₃ (Ne.symm hLC) zC.2.2
        have N₃ : News g' L h₃ ((s₁.heap.objs.size, oI₂) :: (H2.objs.size, oC₃) :: (H1.objs.size, LCg.lst []) :: news) := by
          intro q hq
          rcases List.mem_cons.mp hq with rfl | hq
          · exact ⟨hs₃.extBut _ _ hIC heI₂, zI.2⟩
          rcases List.mem_cons.mp hq with rfl | hq
          · exact ⟨heC₃, zC.2⟩
          rcases List.mem_cons.mp hq with rfl | hq
          · exact ⟨hs₃.extBut _ _ hDC (hk₂ _ _ (by simpa using Ne.symm hID) zD.1), zD.2⟩
          · have z := zR q hq
            exact ⟨hs₃.extBut _ _ (off q hq).2.1 (hk₂ _ _ (by simpa using (off q hq).1) z.1), z.2⟩
        have hit₃ : h₃.IsListIter s₁.heap.objs.size ax (i + 1) := ⟨oI₂, (N₃ _ (.head _)).1, hcI₂⟩
        refine wpAny_tests_one ?_
        refine wpAny_mono (turn i v s₁.heap.objs.size oI₂ H2.objs.size oC₃ H1.objs.size _ g' h₃ _ _ hPv hoC₃ (by simp) ⟨G'.T, F₃, N₃, G'.B, G'.X, G'.P, G'.D⟩) (fun b s₄ hb => ?_) fun _ _ e => e
        obtain ⟨rfl, g₄, h₄, tk₄, rfl, G₄⟩ := hb
        rw [if_neg (by decide)]
        refine ⟨its.size + 1 - (i + 1), by omega, h₄, tk₄, i + 1, oI₂, oC₃, _, g₄, rfl, hlt', rfl, ⟨oI₂, (G₄.N _ (.head _)).1, hcI₂⟩, hoC₃, G₄⟩
      · obtain rfl : i = its.size := Nat.le_antisymm hi (Nat.not_lt.mp hlt')
        refine W.done _ _ _ ⟨hit, hls⟩ fun h₂ tk₂ hk₂ => ?_
        have hn₂ : h₂.Ns H2.objs.size m' := (hoC.ns zC.1).at' fun o e => hk₂ _ o (by simpa using Ne.symm hIC) e
        refine ⟨m', hn₂, fun h'' hs'' => fin H1.objs.size g' h'' tk₂ ⟨G'.T, (LCg.fr_but G'.F hk₂ hLI zI.2.2).change hs'' (Ne.symm hLC) zC.2.2, ?_, G'.B, G'.X, G'.P, G'.D⟩ ?_⟩
        · intro q hq
          rcases List.mem_cons.mp hq with rfl | hq
          · exact ⟨hs''.extBut _ _ hDC (hk₂ _ _ (by simpa using Ne.symm hID) zD.1), zD.2⟩
          · have z := zR q hq
            exact ⟨hs''.extBut _ _ (off q hq).2.1 (hk₂ _ _ (by simpa using (off q hq).1) z.1), z.2⟩
        · exact (LCg.Off3.of (I := s₁.heap.objs.size) (C := H2.objs.size) off).one
    · intro q hq
      rcases List.mem_cons.mp hq with rfl | hq
      · exact ⟨hI1, Ne.symm hLI, fresh _ (Nat.le_refl _)⟩
      rcases List.mem_cons.mp hq with rfl | hq
      · exact ⟨heC₁, Ne.symm hLC, fresh _ (by rw [hDsz, hIsz]; exact Nat.le_succ_of_le (Nat.le_succ _))⟩
      rcases List.mem_cons.mp hq with rfl | hq
      · exact ⟨hD1, Ne.symm hLD, fresh _ (by rw [hIsz]; exact Nat.le_succ _)⟩
      · exact ⟨old _ _ (G₁.N q hq).1, (G₁.N q hq).2⟩
  exact codeAny_compStart_list (loop _ rfl) (W.self 0 _ _ _ ⟨⟨_, hI1, rfl, rfl⟩, ⟨_, old _ _ (G₁.N _ hmem).1, rfl, kx, rfl⟩⟩ (loop _ rfl))
end
end Mine
end
section
open PySem PySem.W PyProof.Rows PySem.Spec PySem.Calls
set_option Elab.async false
set_option maxRecDepth 100000
set_option maxHeartbeats 8000000
namespace Mine
def lowOf (n : Int) : Int := if 0 ≤ n then n else 65536 + n
/-- numbers as words of two octets -/
noncomputable def wordsOf : List Int → List Int
  | [] => []
  | n :: r => (lowOf n).fdiv 256 :: (lowOf n).fmod 256 :: wordsOf r
theorem wordsOf_append (a b : List Int) : wordsOf (a ++ b) = wordsOf a ++ wordsOf b := by
  induction a with
  | nil => rfl
  | cons n r ih => simp only [List.cons_append, wordsOf, ih]
theorem wordsOf_length (a : List Int) : (wordsOf a).length = 2 * a.length := by
  induction a with
  | nil => rfl
  | cons n r ih => simp only [wordsOf, List.length_cons, ih]; omega

/-- a list of ints that a loop over a made list grows by a new list at each turn -/
def GrewTo (h₀ : Heap) (L : Addr) (m₀ : Str → Option Value) (x y z : Str) (l : Addr) (lo : Obj) (rest : List (Addr × Obj)) (a : List Int) (s₁ s₂ : Shared) : Prop :=
  ∃ (h' : Heap) (tk : Nat) (m' : Str → Option Value) (d : Addr) (ds : List Value) (kd : Nat), s₂ = { s₁ with heap := h', toks := tk } ∧ Fr h₀ L h' m' ∧ News h₀ L h' ((d, listOf ds.toArray kd) :: (l, lo) :: rest) ∧ IntsAre ds a ∧ m' y = some (.ref d) ∧ (∀ u, u ≠ x → u ≠ y → u ≠ z → m' u = m₀ u) ∧ (∀ p ∈ (l, lo) :: rest, p.1 ≠ d)
def GrewPost (h₀ : Heap) (L : Addr) (m₀ : Str → Option Value) (x y z : Str) (l : Addr) (lo : Obj) (rest : List (Addr × Obj)) (a : List Int) (s₁ : Shared) (f : Flow) (s₂ : Shared) : Prop :=
  match f with
  | .ret _ => False
  | .brk => False
  | _ => GrewTo h₀ L m₀ x y z l lo rest a s₁ s₂
section
variable {prog : Program} {w : World} {A : Around} {E : Value → Shared → Prop} {s : Shared} {env : Env} {h₀ : Heap} {x y z : Str} {body : List Stmt} {Q : Flow → Shared → Prop}
theorem grow_loop {l d : Addr} {vs us : List Value} {ns : List Int} {nl kd : Nat} {m₀ : Str → Option Value} {rest : List (Addr × Obj)} (g : Int → List Int) {R : List Int} (hg : ns.flatMap g = R) (hB : R.length ≤ 1000)
    (hh : A.handled = none) (hxy : x ≠ y) (hzy : z ≠ y) (F : Fr h₀ env.locals s.heap m₀) (N : News h₀ env.locals s.heap ((d, listOf us.toArray kd) :: (l, listOf vs.toArray nl) :: rest)) (hi : IntsAre vs ns) (hu : IntsAre us []) (hy : m₀ y = some (.ref d)) (hdl : ∀ p ∈ (l, listOf vs.toArray nl) :: rest, p.1 ≠ d)
    (turn : ∀ n t a (u : Str → Option Value) ds d kd h tk rest', n ∈ ns → IntsAre ds a → a.length ≤ 1000 → (∀ p ∈ rest', p.1 ≠ d) → l ≠ d → Fr h₀ env.locals h (fun q => if q = x then some (.int n t) else if q = y then some (.ref d) else if q = z then u z else m₀ q) → News h₀ env.locals h ((d, listOf ds.toArray kd) :: (l, listOf vs.toArray nl) :: rest') →
      wpAny (model prog w) A (execs body env) (GrewPost h₀ env.locals m₀ x y z l (listOf vs.toArray nl) rest' (a ++ g n) { s with heap := h, toks := tk }) E { s with heap := h, toks := tk })
    (done : ∀ (u : Str → Option Value) ds d kd h tk, IntsAre ds R → Fr h₀ env.locals h (fun q => if q = x then u x else if q = y then some (.ref d) else if q = z then u z else m₀ q) → News h₀ env.locals h ((d, listOf ds.toArray kd) :: (l, listOf vs.toArray nl) :: rest) → Q .next { s with heap := h, toks := tk }) :
    wpAny (model prog w) A (pyIter (.ref l)) (fun it s₂ => LoopAtV prog w A h₀ env x body Q E it s₂) E s := by
  have Nl := N (l, listOf vs.toArray nl) (.tail _ (.head _))
  have hls : s.heap.IsList l vs.toArray := ⟨_, Nl.1, rfl, nl, rfl⟩
  have hlt : l < s.heap.objs.size := Heap.lt_size Nl.1
  have hne : l ≠ s.heap.objs.size := Nat.ne_of_lt hlt
  refine wpAny_pyIter_list hls ?_
  have W := Walks.list (prog := prog) (w := w) hh s.heap.objs.size l hne vs.toArray
  have hlen : vs.toArray.size = ns.length := by simp [hi.length]
  rw [hlen] at W
  let J : Nat → (Str → Option Value) → List (Addr × Obj) → Prop := fun i m₁ news₁ => ∃ (d : Addr) (ds : List Value) (kd : Nat), news₁ = (d, listOf ds.toArray kd) :: (l, listOf vs.toArray nl) :: rest ∧ IntsAre ds ((ns.take i).flatMap g) ∧ m₁ y = some (.ref d) ∧ (∀ u, u ≠ x → u ≠ y → u ≠ z → m₁ u = m₀ u) ∧ (∀ p ∈ (l, listOf vs.toArray nl) :: rest, p.1 ≠ d)
  have off : ∀ p ∈ (l, listOf vs.toArray nl) :: rest, p.1 ≠ s.heap.objs.size := fun p hp => Nat.ne_of_lt (Heap.lt_size (N p (.tail _ hp)).1)
  refine ⟨_, _, _, ns.length, _, _, m₀, _, J, rfl, W, ?_, ?_, ?_, ⟨⟨_, Heap.get?_push_size _ rfl, rfl, rfl⟩, hls.at fun o e => Heap.get?_push_of_some _ e⟩, F.push _, (fun p hp => ⟨Heap.get?_push_of_some _ (N p hp).1, (N p hp).2⟩), ⟨d, us, kd, rfl, by simpa using hu, hy, fun _ _ _ _ => rfl, hdl⟩, ?_, ?_⟩
  · intro hm
    rcases List.mem_cons.mp hm with e | hm
    · exact absurd F.ns.lt (e ▸ Nat.lt_irrefl _)
    · exact Nl.2.1 (List.mem_singleton.mp hm).symm
  · intro b hb
    rw [List.mem_singleton.mp hb]
    exact next_is_new F
  · intro p hp hI
    exact absurd (Heap.lt_size (N p hp).1) ((List.mem_singleton.mp hI) ▸ Nat.lt_irrefl _)
  · rintro i v m₁ news₁ s₁ own ⟨hh', tk', rfl⟩ hin hP ⟨d₁, ds, kd₁, rfl, hds, hm₁, hm, hoffd⟩ hoff hown hownat hall hst F₁ N₁
    have hin' : i < ns.length := hin
    obtain ⟨t, hx⟩ := hi.get i ns[i] (by simp [hin'])
    have hv : v = .int ns[i] t := by
      have hP' : vs[i]? = some v := by simpa using hP
      rw [hx] at hP'; exact (Option.some.inj hP').symm
    subst hv
    -- the iterator is among what the loop owns
    obtain ⟨⟨oI, hoI, _⟩, _⟩ := hst
    have hIown : (s.heap.objs.size, oI) ∈ own := hall _ (by simp) (next_is_new F) oI hoI
    have hdf : ∀ p ∈ own, p.1 ≠ d₁ := by
      intro p hp e
      rcases List.mem_cons.mp (hown p hp) with h1 | h1
      · have h2 := hoff (d₁, listOf ds.toArray kd₁) (.head _)
        exact h2 (by rw [← e, h1]; exact List.mem_singleton.mpr rfl)
      · have h2 := List.mem_singleton.mp h1
        exact hoffd (l, listOf vs.toArray nl) (.head _) (by rw [← e, h2])
    have N₂ : News h₀ env.locals hh' ((d₁, listOf ds.toArray kd₁) :: (l, listOf vs.toArray nl) :: (rest ++ own)) := fun p hp => N₁ p (by
      rcases List.mem_cons.mp hp with e | hp
      · exact List.mem_append_right _ (e ▸ .head _)
      · rcases List.mem_cons.mp hp with e | hp
        · exact List.mem_append_right _ (e ▸ .tail _ (.head _))
        · rcases List.mem_append.mp hp with hp | hp
          · exact List.mem_append_right _ (.tail _ (.tail _ hp))
          · exact List.mem_append_left _ hp)
    have hmem : ns[i] ∈ ns := List.getElem_mem hin'
    have htake : ns.take (i + 1) = ns.take i ++ [ns[i]] := by rw [List.take_add_one]; simp [hin']
    have hfm : (ns.take (i + 1)).flatMap g = (ns.take i).flatMap g ++ g ns[i] := by rw [htake, List.flatMap_append]; simp
    have hle : ((ns.take i).flatMap g).length ≤ (ns.flatMap g).length := by
      have h1 : ns.flatMap g = (ns.take i).flatMap g ++ (ns.drop i).flatMap g := by rw [← List.flatMap_append, List.take_append_drop]
      rw [h1, List.length_append]; exact Nat.le_add_right _ _
    have e : (fun q => if q = x then some (Value.int ns[i] t) else m₁ q) = fun q => if q = x then some (Value.int ns[i] t) else if q = y then some (Value.ref d₁) else if q = z then m₁ z else m₀ q := by
      funext q
      by_cases h1 : q = x
      · simp [h1]
      · simp only [if_neg h1]
        by_cases h2 : q = y
        · subst h2; simp [hm₁]
        · simp only [if_neg h2]
          by_cases h3 : q = z
          · subst h3; simp
          · simp only [if_neg h3]; exact hm q h1 h2 h3
    rw [e] at F₁
    refine wpAny_mono (turn ns[i] t _ m₁ ds d₁ kd₁ hh' tk' (rest ++ own) hmem hds (Nat.le_trans hle (hg ▸ hB)) (fun p hp => ?_) (hoffd _ (.head _)) F₁ N₂) (fun f s₂ p => ?_) fun _ _ e => e
    · rcases List.mem_append.mp hp with hp | hp
      · exact hoffd p (.tail _ hp)
      · exact hdf p hp
    have fin : GrewTo h₀ env.locals m₀ x y z l (listOf vs.toArray nl) (rest ++ own) ((ns.take i).flatMap g ++ g ns[i]) { s with heap := hh', toks := tk' } s₂ → LoopStepU h₀ env.locals [s.heap.objs.size] own (J (i + 1)) { s with heap := hh', toks := tk' } .next s₂ := by
      rintro ⟨h', tk, m', d', ds', kd', e, F', N', hi', hy', hm', hoff'⟩
      refine ⟨rfl, h', tk, m', _, e, F', fun p hp => N' p ?_, fun p hp => ?_, d', ds', kd', rfl, by rw [hfm]; exact hi', hy', hm', fun p hp => hoff' p ?_⟩
      · rcases List.mem_append.mp hp with hp | hp
        · exact .tail _ (.tail _ (List.mem_append_right _ hp))
        · rcases List.mem_cons.mp hp with e | hp
          · exact e ▸ .head _
          · rcases List.mem_cons.mp hp with e | hp
            · exact e ▸ .tail _ (.head _)
            · exact .tail _ (.tail _ (List.mem_append_left _ hp))
      · rcases List.mem_cons.mp hp with rfl | hp
        · intro hq
          exact hoff' _ (.tail _ (List.mem_append_right _ hIown)) (List.mem_singleton.mp hq).symm
        · intro hq
          exact off p hp (List.mem_singleton.mp hq)
      · rcases List.mem_cons.mp hp with e | hp
        · exact e ▸ .head _
        · exact .tail _ (List.mem_append_left _ hp)
    cases f with
    | ret v => exact p.elim
    | brk => exact p.elim
    | next => exact .next (fin p)
    | cont => exact .cont (fin p)
  · rintro h' tk m' news' F' N' _ ⟨d₁, ds, kd₁, rfl, hds, hm₁, hm, hoffd⟩
    rw [List.take_length, hg] at hds
    refine done m' ds d₁ kd₁ h' tk hds ?_ N'
    have e : (fun q => if q = x then m' x else if q = y then some (Value.ref d₁) else if q = z then m' z else m₀ q) = m' := by
      funext q
      by_cases h1 : q = x
      · simp [h1]
      · simp only [if_neg h1]
        by_cases h2 : q = y
        · subst h2; simp [hm₁]
        · simp only [if_neg h2]
          by_cases h3 : q = z
          · subst h3; simp
          · simp only [if_neg h3]; exact (hm q h1 h2 h3).symm
    rw [e]; exact F'
end
theorem fdiv_fmod_facts' {x : Int} (h0 : 0 ≤ x) (h1 : x < 65536) : 0 ≤ x.fdiv 256 ∧ x.fdiv 256 < 256 := by
  rw [Int.fdiv_eq_ediv_of_nonneg x (by decide)]
  omega
theorem wordsOf_flat (ns : List Int) : (ns.flatMap fun n => [(lowOf n).fdiv 256, (lowOf n).fmod 256]) = wordsOf ns := by
  induction ns with
  | nil => rfl
  | cons n r ih => rw [List.flatMap_cons, ih]; rfl
theorem wordsOf_in {ns : List Int} (hr : ∀ n ∈ ns, -65536 ≤ n ∧ n < 65536) : KBa.In (wordsOf ns) := by
  induction ns with
  | nil => exact fun n hn => nomatch hn
  | cons n r ih =>
    have h1 := hr n List.mem_cons_self
    have h2 : 0 ≤ lowOf n ∧ lowOf n < 65536 := by unfold lowOf; split <;> omega
    have h3 := ih fun m hm => hr m (List.mem_cons_of_mem _ hm)
    have h4 := fmod_lo (lowOf n) (n := 256) (by decide)
    have h5 := fmod_hi (lowOf n) (n := 256) (by decide)
    have h6 := fdiv_fmod_facts' h2.1 h2.2
    intro k hk
    rcases List.mem_cons.mp hk with rfl | hk
    · exact h6
    · rcases List.mem_cons.mp hk with rfl | hk
      · exact ⟨h4, h5⟩
      · exact h3 k hk
end Mine
end
section
open PySem PySem.W PyProof.Rows
set_option Elab.async false
namespace Mine
theorem words_put {x : Int} (r : List Int) (h0 : 0 ≤ x) (h1 : x < 65536) : wordsOf (x :: r) = (x.fdiv 256).fmod 256 :: x.fmod 256 :: wordsOf r := by
  have h2 : lowOf x = x := if_pos h0
  have h3 : (x.fdiv 256).fmod 256 = x.fdiv 256 := by
    rw [Int.fdiv_eq_ediv_of_nonneg x (by decide), Int.fmod_eq_emod_of_nonneg _ (by decide)]
    omega
  simp only [wordsOf, h2, h3]
theorem words_neg {x : Int} (r : List Int) (h0 : -65536 ≤ x) (h1 : x < 65536) : wordsOf (x :: r) = (x.fdiv 256).fmod 256 :: x.fmod 256 :: wordsOf r := by
  by_cases h : 0 ≤ x
  · exact words_put r h h1
  · have h2 : lowOf x = 65536 + x := if_neg h
    have h3 : (65536 + x).fdiv 256 = (x.fdiv 256).fmod 256 := by
      rw [Int.fdiv_eq_ediv_of_nonneg x (by decide), Int.fdiv_eq_ediv_of_nonneg _ (by decide), Int.fmod_eq_emod_of_nonneg _ (by decide)]
      omega
    have h4 : (65536 + x).fmod 256 = x.fmod 256 := by
      rw [Int.fmod_eq_emod_of_nonneg _ (by decide), Int.fmod_eq_emod_of_nonneg _ (by decide)]
      omega
    simp only [wordsOf, h2, h3, h4]
theorem word_eq {ks : List Int} {i j : Nat} {x : Int} (h1 : ks.getD i 0 = (lowOf x).fdiv 256) (h2 : ks.getD j 0 = (lowOf x).fmod 256) : ks.getD i 0 * 256 + ks.getD j 0 = lowOf x := by
  rw [h1, h2, Int.mul_comm]
  exact Int.mul_fdiv_add_fmod (lowOf x) 256
theorem lowOf_pos {x : Int} (h : 0 ≤ x) : lowOf x = x := if_pos h
theorem word_at {ks : List Int} {i j : Nat} {x : Int} (h1 : ks.getD i 0 = (lowOf x).fdiv 256) (h2 : ks.getD j 0 = (lowOf x).fmod 256) (h : 0 ≤ x) : ks.getD i 0 * 256 + ks.getD j 0 = x := (word_eq h1 h2).trans (lowOf_pos h)
theorem word_neg {ks : List Int} {i j : Nat} {x : Int} (h1 : ks.getD i 0 = (lowOf x).fdiv 256) (h2 : ks.getD j 0 = (lowOf x).fmod 256) (h : -32768 ≤ x) (h' : x ≤ 32767) : (ks.getD i 0 * 256 + ks.getD j 0 = x ∧ 0 ≤ x) ∨ (ks.getD i 0 * 256 + ks.getD j 0 = 65536 + x ∧ x < 0) := by
  rw [word_eq h1 h2]
  unfold lowOf
  split
  · exact .inl ⟨rfl, by assumption⟩
  · exact .inr ⟨rfl, by omega⟩
theorem take_lt {ks : List Int} {n k : Nat} {t : Int} (h0 : 0 ≤ t) (h1 : t < (k : Int)) : (List.take (clipAt n t) ks).length < k := by
  obtain ⟨j, rfl⟩ : ∃ j : Nat, t = (j : Int) := ⟨t.toNat, by omega⟩
  rw [clipAt_nat, List.length_take]
  omega
end Mine
end
section
open PySem PySem.W PyProof.Rows
set_option Elab.async false
namespace Mine
theorem Pick.sub3 {d d' d'' : Addr} {o o' o'' : Obj} {l r r' r'' : List (Addr × Obj)} (h : Pick d o l r) (h' : Pick d' o' r r') (h'' : Pick d'' o'' r' r'') : ∀ p ∈ (d, o) :: (d', o') :: (d'', o'') :: r'', p ∈ l := fun p hp => h.sub p (by
  rcases List.mem_cons.mp hp with e | hp
  · exact e ▸ .head _
  · exact .tail _ (h'.sub2 h'' p hp))
theorem sub_tail {e : Addr × Obj} {r l : List (Addr × Obj)} (h : ∀ p ∈ r, p ∈ l) : ∀ p ∈ r, p ∈ e :: l := fun p hp => .tail _ (h p hp)
theorem sub_cons {e : Addr × Obj} {r l : List (Addr × Obj)} (h : e ∈ l) (h' : ∀ p ∈ r, p ∈ l) : ∀ p ∈ e :: r, p ∈ l := fun p hp => by
  rcases List.mem_cons.mp hp with q | hp
  · exact q ▸ h
  · exact h' p hp
/-- of a ledger: one entry, two more told by their addresses, and what was there before -/
theorem Pick.keep {d a b : Addr} {o oa ob : Obj} {l r ra rb rest : List (Addr × Obj)} (_h : a ≠ b) (_hr : ∀ p ∈ rest, p.1 ≠ b) (h : Pick d o l r) (h' : Pick a oa r ra) (h'' : Pick b ob r rb) (hs : ∀ p ∈ rest, p ∈ l) : ∀ p ∈ (d, o) :: (b, ob) :: (a, oa) :: rest, p ∈ l :=
  sub_cons (h.sub _ (.head _)) (sub_cons (h.sub _ (.tail _ (h''.sub _ (.head _)))) (sub_cons (h.sub _ (.tail _ (h'.sub _ (.head _)))) hs))
theorem word_low {A x : Int} (h : A = lowOf x) : (A = x ∧ 0 ≤ x) ∨ (A = 65536 + x ∧ x < 0) := by
  rw [h]
  unfold lowOf
  split
  · exact .inl ⟨rfl, by assumption⟩
  · exact .inr ⟨rfl, by omega⟩
theorem tuple_same_N {prog : Program} {w : World} {A : Around} {E : Value → Shared → Prop} {s : Shared} {t : Addr} {Q : Value → Shared → Prop} {h₀ : Heap} {L : Addr} {news : List (Addr × Obj)} {o : Obj} {items : Array Value} {n : Nat}
    (N : News h₀ L s.heap news) (hm : (t, o) ∈ news) (hc : o.cls = .type "tuple") (hd : o.data = .seq items n) (h : Q (.ref t) s) : wpAny (model prog w) A (call (.type "tuple") [.ref t]) Q E s :=
  call_tuple_same ⟨o, (N _ hm).1, hc, n, hd⟩ h
end Mine
end
section
open PySem PySem.W PyProof.Rows
set_option Elab.async false
namespace Mine
/-- the contract of a call that is handed a list of the ground -/
def SpecL (w : World) (k : Nat) (f sl : Addr) (items : Array Value) (vs : List Value) (news : List (Addr × Obj)) (Post : (Value → List (Addr × Obj) → Prop) → Prop) : Prop :=
  ∀ (mg mb : Str → Option Value) (mean : ExcName → Option Value) (dp un : Nat) (gd : Option (List Code)) (cn : Str) (cs : Scope) (ad : Addr) (ccd : Value) (cl : List (Str × Addr)) (outer : List Env) (A₀ : Around) (base h₀ : Heap) (L : Addr) (m : Str → Option Value) (s : Shared) (Q E : Value → Shared → Prop),
  Below A₀ base outer h₀ → Fr h₀ L s.heap m → (hd.heap_39 w.params).In h₀ → News h₀ L s.heap news → base.IsList sl items → Top hd.view_39 (looseW hd.view_39 []) mean mg mb h₀ → cs.kind = .function → dp + k < recursionLimit → un + 8 * k < cLine →
  Post (fun v news' => ∀ (h' : Heap) (tk' : Nat), Fr h₀ L h' m → News h₀ L h' news' → Q v { s with heap := h', toks := tk' }) →
  wpAny (model (PySem.Challenge.rw_on0229_01).prog w) (ktrTop dp un gd cn cs L ad ccd cl outer) (call (.ref f) vs) Q E s
theorem SpecL.to {w : World} {k : Nat} {f sl : Addr} {items : Array Value} {vs : List Value} {news : List (Addr × Obj)} {Post : (Value → List (Addr × Obj) → Prop) → Prop} (S : SpecL w k f sl items vs news Post)
    {mg mb : Str → Option Value} {mean : ExcName → Option Value} {dp un : Nat} {gd : Option (List Code)} {cn : Str} {cs : Scope} {ad : Addr} {ccd : Value} {cl : List (Str × Addr)} {outer : List Env} {A₀ : Around} {base h₀ : Heap} {L : Addr} {m : Str → Option Value} {s : Shared} {Q E : Value → Shared → Prop} {led : List (Addr × Obj)}
    (B : Below A₀ base outer h₀) (F : Fr h₀ L s.heap m) (X : (hd.heap_39 w.params).In h₀) (N : News h₀ L s.heap led) (I : base.IsList sl items) (T : Top hd.view_39 (looseW hd.view_39 []) mean mg mb h₀) (hk : cs.kind = .function) (hsub : ∀ p ∈ news, p ∈ led) (hd : dp + k < recursionLimit) (hu : un + 8 * k < cLine)
    (ret : Post (fun v news' => ∀ (h' : Heap) (tk' : Nat), Fr h₀ L h' m → News h₀ L h' news' → Q v { s with heap := h', toks := tk' })) :
    wpAny (model (PySem.Challenge.rw_on0229_01).prog w) (ktrTop dp un gd cn cs L ad ccd cl outer) (call (.ref f) vs) Q E s :=
  S mg mb mean dp un gd cn cs ad ccd cl outer A₀ base h₀ L m s Q E B F X (fun p hp => N p (hsub p hp)) I T hk hd hu ret
end Mine
end
section
open PySem PySem.W PyProof.Rows
set_option Elab.async false
namespace Mine
/-- a contract told by what comes after it -/
def SpecC (w : World) (k : Nat) (f : Addr) (vs : List Value) (led : List (Addr × Obj)) (Post : (Value → List (Addr × Obj) → Prop) → Prop) : Prop :=
  ∀ (mg mb : Str → Option Value) (mean : ExcName → Option Value) (dp un : Nat) (gd : Option (List Code)) (cn : Str) (cs : Scope) (ad : Addr) (ccd : Value) (cl : List (Str × Addr)) (outer : List Env) (A₀ : Around) (base h₀ : Heap) (L : Addr) (m : Str → Option Value) (s : Shared) (Q E : Value → Shared → Prop),
  Below A₀ base outer h₀ → Fr h₀ L s.heap m → (hd.heap_39 w.params).In h₀ → News h₀ L s.heap led → Top hd.view_39 (looseW hd.view_39 []) mean mg mb h₀ → cs.kind = .function → dp + k < recursionLimit → un + 8 * k < cLine →
  Post (fun v news' => ∀ (h' : Heap) (tk' : Nat), Fr h₀ L h' m → News h₀ L h' news' → Q v { s with heap := h', toks := tk' }) →
  wpAny (model (PySem.Challenge.rw_on0229_01).prog w) (ktrTop dp un gd cn cs L ad ccd cl outer) (call (.ref f) vs) Q E s
theorem Spec.c {w : World} {k : Nat} {f : Addr} {vs : List Value} {news led : List (Addr × Obj)} {Post : Value → List (Addr × Obj) → Prop} {PostC : (Value → List (Addr × Obj) → Prop) → Prop} (S : Spec w k f vs news Post) (hsub : ∀ p ∈ news, p ∈ led) (h : ∀ K, PostC K → ∀ v n, Post v n → ∃ n', K v n' ∧ ∀ p ∈ n', p ∈ n) : SpecC w k f vs led PostC := by
  intro mg mb mean dp un gd cn cs ad ccd cl outer A₀ base h₀ L m s Q E B F X N T hk hd hu ret
  refine S mg mb mean dp un gd cn cs ad ccd cl outer A₀ base h₀ L m s Q E B F X (fun p hp => N p (hsub p hp)) T hk hd hu fun v news' h' tk' hP F' N' => ?_
  obtain ⟨n', hK, hn⟩ := h _ ret v news' hP
  exact hK h' tk' F' fun p hp => N' p (hn p hp)
theorem SpecC.to {w : World} {k : Nat} {f : Addr} {vs : List Value} {led : List (Addr × Obj)} {Post : (Value → List (Addr × Obj) → Prop) → Prop} (S : SpecC w k f vs led Post)
    {mg mb : Str → Option Value} {mean : ExcName → Option Value} {dp un : Nat} {gd : Option (List Code)} {cn : Str} {cs : Scope} {ad : Addr} {ccd : Value} {cl : List (Str × Addr)} {outer : List Env} {A₀ : Around} {base h₀ : Heap} {L : Addr} {m : Str → Option Value} {s : Shared} {Q E : Value → Shared → Prop}
    (B : Below A₀ base outer h₀) (F : Fr h₀ L s.heap m) (X : (hd.heap_39 w.params).In h₀) (N : News h₀ L s.heap led) (T : Top hd.view_39 (looseW hd.view_39 []) mean mg mb h₀) (hk : cs.kind = .function) (hd : dp + k < recursionLimit) (hu : un + 8 * k < cLine)
    (ret : Post (fun v news' => ∀ (h' : Heap) (tk' : Nat), Fr h₀ L h' m → News h₀ L h' news' → Q v { s with heap := h', toks := tk' })) :
    wpAny (model (PySem.Challenge.rw_on0229_01).prog w) (ktrTop dp un gd cn cs L ad ccd cl outer) (call (.ref f) vs) Q E s :=
  S mg mb mean dp un gd cn cs ad ccd cl outer A₀ base h₀ L m s Q E B F X N T hk hd hu ret
theorem room_d {d k K l : Nat} (h : d + K < l) (hk : k ≤ K) : d + k < l := Nat.lt_of_le_of_lt (Nat.add_le_add_left hk d) h
theorem room_u {u k K l : Nat} (h : u + 8 * K < l) (hk : k ≤ K) : u + 8 * k < l := Nat.lt_of_le_of_lt (Nat.add_le_add_left (Nat.mul_le_mul_left 8 hk) u) h
theorem room_0 {d K l : Nat} (h : d + K < l) : d < l := Nat.lt_of_le_of_lt (Nat.le_add_right d K) h
theorem room_in {d k l : Nat} (h : d + (k + 1) < l) : d + 1 + k < l := by omega
theorem lt_ne {d : Addr} {r : List (Addr × Obj)} (h : ∀ p ∈ r, p.1 < d) : ∀ p ∈ r, p.1 ≠ d := fun p hp => Nat.ne_of_lt (h p hp)
theorem ne_all {d x : Addr} {o : Obj} {r : List (Addr × Obj)} (h : ∀ p ∈ r, p.1 < d) (hm : (x, o) ∈ r) : x ≠ d := Nat.ne_of_lt (h _ hm)
theorem ne_all' {d x : Addr} {o : Obj} {r : List (Addr × Obj)} (h : ∀ p ∈ r, p.1 < d) (hm : (x, o) ∈ r) : d ≠ x := Nat.ne_of_gt (h _ hm)
theorem units_in {u k : Nat} (h : u + 8 * (k + 1) < cLine) : u + 3 + 8 * k < cLine := by omega
theorem callWith_F {K : Frag} {prog : Program} {w : World} {A : Around} {E Q : Value → Shared → Prop} {s : Shared} {h₀ : Heap} {L : Addr} {m : Str → Option Value} {f : Value} {first : List Value} {pos : Pos} {env : Env} (F : Fr h₀ L s.heap m) (X : K.In h₀) (hk : keepIn K f = true) (h : wpAny (model prog w) A (call f (first ++ [])) Q E s) : wpAny (model prog w) A (callWith pos f first (backTo pos (starEach [] env)) []) Q E s :=
  callWith_K0 (X.keeps F.keep) hk h
theorem and2 {a b : Prop} (h : a) (h' : b) : a ∧ b := ⟨h, h'⟩
end Mine
end
section
open PySem PySem.W PyProof.Rows
theorem Mine.anew3 {p : Program} {w : World} {A : Around} {env : Env} {Q : Flow → Shared → Prop} {E : Value → Shared → Prop} {s : Shared} (h : Q .next s) : wpAny (model p w) A (execs [] env) Q E s := by
  walk1
  assumption
end
section
open PySem PySem.W PyProof.Rows
set_option Elab.async false
set_option maxRecDepth 100000
set_option maxHeartbeats 8000000
namespace Mine
section
local macro_rules | `(tactic| k_all) => `(tactic| assumption)
def srcObj (a b : Int) (ta tb : Tok) (n : Nat) : Obj := listOf #[.int a ta, .int b tb] n
/-- a draw: a number below the top; the source goes on -/
theorem take_ok (w : World) (src : Addr) (a b top : Int) (ta tb tt : Tok) (n : Nat) (rest : List (Addr × Obj)) (hne : ∀ p ∈ rest, p.1 ≠ src) (ha : 0 ≤ a) (hb : 0 ≤ b) (hb2 : b < 2147483647) (ht1 : 1 ≤ top) (ht2 : top ≤ 65536) :
    Spec w 2 194 [.ref src, .int top tt] ((src, listOf #[.int a ta, .int b tb] n) :: rest) (fun v news' => ∃ (r a' b' : Int) (t ta' tb' : Tok) (n' : Nat), v = .int r t ∧ news' = (src, listOf #[.int a' ta', .int b' tb'] n') :: rest ∧ 0 ≤ r ∧ r < top ∧ 0 ≤ a' ∧ 0 ≤ b' ∧ b' < 2147483647) := by
  unfold Spec
  k_fill
  intro mg mb mean dp un gd cn cs ad ccd cl outer A₀ base h₀ L m s Q E B F X N T hk hdp hun hret
  refine wpAny_call ?_
  k_dflt cell_enter
  k_steps
  · refine hret _ _ _ _ ⟨_, _, _, _, _, _, _, rfl, rfl, ?_, ?_, ?_, ?_, ?_⟩ (by assumption) (by assumption)
    · exact fmod_lo _ (by omega)
    · exact fmod_hi _ (by omega)
    · show 0 ≤ a.fdiv top
      exact Int.fdiv_nonneg ha (by omega)
    · exact hb
    · exact hb2
  · refine hret _ _ _ _ ⟨_, _, _, _, _, _, _, rfl, rfl, ?_, ?_, ?_, ?_, ?_⟩ (by assumption) (by assumption)
    · exact fmod_lo _ (by omega)
    · exact fmod_hi _ (by omega)
    · exact ha
    · exact fmod_lo _ (by decide)
    · exact fmod_hi _ (by decide)
end
end Mine
end
section
open PySem PySem.W PyProof.Rows
theorem Mine.anew4 {p : Program} {w : World} {A : Around} {env : Env} {Q : Flow → Shared → Prop} {E : Value → Shared → Prop} {s : Shared} (h : Q .next s) : wpAny (model p w) A (execs [] env) Q E s := by
  walk1
  assumption
end
section
open PySem PySem.W PyProof.Rows
set_option Elab.async false
set_option maxRecDepth 100000
set_option maxHeartbeats 8000000
namespace Mine
section
local macro_rules | `(tactic| k_all) => `(tactic| assumption)
local macro_rules | `(tactic| walk_at "my pick") => `(tactic| first | exact Pick.head | (refine' Pick.tail ?pk; (case pk => walk_at "my pick")))
local macro_rules | `(tactic| walk_at "my room") => `(tactic| first | omega | ktr_room)
local macro_rules | `(tactic| walk_at "call ref") => `(tactic| (k_here; (with_reducible show wpAny _ _ (call (Value.ref 194) _) _ _ _); k_dflt (
  refine' Spec.to (take_ok _ _ _ _ _ _ _ _ _ _ ?hne ?ha ?hb ?hb2 ?ht1 ?ht2) ?B ?F ?X ?N ?T ?hk (Pick.sub ?P) ?hd ?hu ?_
  (case B => k_asm); (case F => k_asm); (case X => k_asm); (case T => k_asm); (case N => k_asm)
  (case hk => first | exact rfl | assumption)
  (case P => walk_at "my pick")
  (case hd => walk_at "my room"); (case hu => ktr_units)
  (case ha => first | assumption | omega); (case hb => first | assumption | omega); (case hb2 => first | assumption | omega)
  (case ht1 => first | assumption | omega | l_fact); (case ht2 => first | assumption | omega | l_fact)
  (case hne => k_all)
  k_whole
  intro v' news' h' tk' hP F' N'
  obtain ⟨_, _, _, _, _, _, _, hv', hn', _, _, _, _, _⟩ := hP
  subst hv'
  subst hn'
  (try dsimp only)
  (try k_fold))))
theorem getD_in {ns : List Int} {r : Int} (h0 : 0 ≤ r) (h1 : r < (ns.length : Int)) : ns.getD r.toNat 0 ∈ ns := by
  have h : r.toNat < ns.length := by omega
  rw [List.getD_eq_getElem?_getD, List.getElem?_eq_getElem h]
  exact List.getElem_mem h
/-- one of a list's ints -/
theorem one_ok (w : World) (src l : Addr) (a b : Int) (ta tb : Tok) (n nl : Nat) (vs : List Value) (ns : List Int) (rest : List (Addr × Obj)) (hi : IntsAre vs ns) (hlen : 1 ≤ ns.length) (hlen2 : ns.length ≤ 64) (hl : l ≠ src) (hne : ∀ p ∈ rest, p.1 ≠ src) (ha : 0 ≤ a) (hb : 0 ≤ b) (hb2 : b < 2147483647) :
    Spec w 4 201 [.ref src, .ref l] ((src, listOf #[.int a ta, .int b tb] n) :: (l, listOf vs.toArray nl) :: rest) (fun v news' => ∃ (r a' b' : Int) (t ta' tb' : Tok) (n' : Nat), v = .int r t ∧ news' = (src, listOf #[.int a' ta', .int b' tb'] n') :: (l, listOf vs.toArray nl) :: rest ∧ r ∈ ns ∧ 0 ≤ a' ∧ 0 ≤ b' ∧ b' < 2147483647) := by
  unfold Spec
  k_fill
  intro mg mb mean dp un gd cn cs ad ccd cl outer A₀ base h₀ L m s Q E B F X N T hk hdp hun hret
  refine wpAny_call ?_
  k_dflt cell_enter
  k_steps
  refine hret _ _ _ _ ⟨_, _, _, _, _, _, _, rfl, rfl, getD_in (by omega) (by omega), ?_, ?_, ?_⟩ (by assumption) (by assumption) <;> assumption
end
end Mine
end
section
open PySem PySem.W PyProof.Rows
theorem Mine.anew5 {p : Program} {w : World} {A : Around} {env : Env} {Q : Flow → Shared → Prop} {E : Value → Shared → Prop} {s : Shared} (h : Q .next s) : wpAny (model p w) A (execs [] env) Q E s := by
  walk1
  assumption
end
section
open PySem PySem.W PyProof.Rows
set_option Elab.async false
set_option maxRecDepth 100000
set_option maxHeartbeats 8000000
namespace Mine
section
local macro_rules | `(tactic| k_all) => `(tactic| first | assumption | (refine allLt_ne ?_; first | assumption | (simp only [*]; done)))
local macro_rules | `(tactic| walk_at "my pick") => `(tactic| first | exact Pick.head | (refine' Pick.tail ?pk; (case pk => walk_at "my pick")))
local macro_rules | `(tactic| walk_at "my ints") => `(tactic| first | assumption | exact IntsAre.nil | (refine' IntsAre.cons _ _ ?ic; (case ic => walk_at "my ints")))
local macro_rules | `(tactic| walk_at "my room") => `(tactic| first | omega | ktr_room)
local macro_rules | `(tactic| walk_at "my arith") => `(tactic| first | assumption | omega | l_fact)
local macro_rules | `(tactic| walk_at "my ctx") => `(tactic| ((case B => k_asm); (case F => k_asm); (case X => k_asm); (case T => k_asm); (case N => k_asm); (case hk => first | exact rfl | assumption); (case hd => walk_at "my room"); (case hu => ktr_units)))
local macro_rules | `(tactic| walk_at "my len") => `(tactic| first | omega | (simp only [List.length_append, List.length_cons, List.length_nil] at *; omega) | l_fact)
local macro_rules | `(tactic| k_room) => `(tactic| ktr_room)

local macro_rules | `(tactic| walk_at "call ref") => `(tactic| (k_here; (with_reducible show wpAny _ _ (call (Value.ref 194) _) _ _ _); k_dflt (
  refine' Spec.to (take_ok _ _ _ _ _ _ _ _ _ _ ?hne ?ha ?hb ?hb2 ?ht1 ?ht2) ?B ?F ?X ?N ?T ?hk (Pick.sub ?P) ?hd ?hu ?_
  walk_at "my ctx"
  (case P => walk_at "my pick")
  (case ha => walk_at "my arith"); (case hb => walk_at "my arith"); (case hb2 => walk_at "my arith"); (case ht1 => walk_at "my arith"); (case ht2 => walk_at "my arith")
  (case hne => k_all)
  k_whole
  intro v' news' h' tk' hP F' N'
  obtain ⟨_, _, _, _, _, _, _, hv', hn', _, _, _, _, _⟩ := hP
  subst hv'
  rw [hn'] at N'
  clear hn'
  (try dsimp only)
  (try k_fold))))
local macro_rules | `(tactic| walk_at "call ref") => `(tactic| (k_here; (with_reducible show wpAny _ _ (call (Value.ref 201) _) _ _ _); k_dflt (
  refine' Spec.to (one_ok _ _ _ _ _ _ _ _ _ _ _ _ ?hi ?hl1 ?hl2 ?hl ?hne ?ha ?hb ?hb2) ?B ?F ?X ?N ?T ?hk (Pick.sub2 ?P ?P2) ?hd ?hu ?_
  walk_at "my ctx"
  (case P => walk_at "my pick")
  (case P2 => walk_at "my pick")
  (case hi => walk_at "my ints")
  (case hl1 => exact Nat.le_of_ble_eq_true rfl); (case hl2 => exact Nat.le_of_ble_eq_true rfl)
  (case hl => k_ne)
  (case ha => walk_at "my arith"); (case hb => walk_at "my arith"); (case hb2 => walk_at "my arith")
  (case hne => k_all)
  k_whole
  intro v' news' h' tk' hP F' N'
  obtain ⟨_, _, _, _, _, _, _, hv', hn', hm', _, _, _⟩ := hP
  simp only [List.mem_cons, List.not_mem_nil, or_false] at hm'
  subst hv'
  rw [hn'] at N'
  clear hn'
  (try dsimp only)
  (try k_fold))))
/-- a signed number of sixteen bits -/
theorem signed_ok (w : World) (src : Addr) (a b : Int) (ta tb : Tok) (n : Nat) (rest : List (Addr × Obj)) (hne : ∀ p ∈ rest, p.1 ≠ src) (ha : 0 ≤ a) (hb : 0 ≤ b) (hb2 : b < 2147483647) :
    Spec w 6 208 [.ref src] ((src, listOf #[.int a ta, .int b tb] n) :: rest) (fun v news' => ∃ (r a' b' : Int) (t ta' tb' : Tok) (n' : Nat), v = .int r t ∧ news' = (src, listOf #[.int a' ta', .int b' tb'] n') :: rest ∧ -32768 ≤ r ∧ r ≤ 32767 ∧ 0 ≤ a' ∧ 0 ≤ b' ∧ b' < 2147483647) := by
  unfold Spec
  k_fill
  intro mg mb mean dp un gd cn cs ad ccd cl outer A₀ base h₀ L m s Q E B F X N T hk hdp hun hret
  refine wpAny_call ?_
  k_dflt cell_enter
  k_steps
  refine hret _ ((src, _) :: rest) _ _ ⟨_, _, _, _, _, _, _, rfl, rfl, by omega, by omega, ?_, ?_, ?_⟩ (by assumption) (ledger_sub (by assumption) (by kcf_all)) <;> assumption
end
end Mine
end
section
open PySem PySem.W PyProof.Rows
theorem Mine.anew6 {p : Program} {w : World} {A : Around} {env : Env} {Q : Flow → Shared → Prop} {E : Value → Shared → Prop} {s : Shared} (h : Q .next s) : wpAny (model p w) A (execs [] env) Q E s := by
  walk1
  assumption
end
section
open PySem PySem.W PyProof.Rows
set_option Elab.async false
set_option maxRecDepth 100000
set_option maxHeartbeats 8000000
namespace Mine
section
local macro_rules | `(tactic| k_all) => `(tactic| first | assumption | (refine allLt_ne ?_; first | assumption | (simp only [*]; done)))
local macro_rules | `(tactic| walk_at "my pick") => `(tactic| first | exact Pick.head | (refine' Pick.tail ?pk; (case pk => walk_at "my pick")))
local macro_rules | `(tactic| walk_at "my ints") => `(tactic| first | assumption | exact IntsAre.nil | (refine' IntsAre.cons _ _ ?ic; (case ic => walk_at "my ints")))
local macro_rules | `(tactic| walk_at "my room") => `(tactic| first | omega | ktr_room)
local macro_rules | `(tactic| walk_at "my arith") => `(tactic| first | assumption | omega | l_fact)
local macro_rules | `(tactic| walk_at "my ctx") => `(tactic| ((case B => k_asm); (case F => k_asm); (case X => k_asm); (case T => k_asm); (case N => k_asm); (case hk => first | exact rfl | assumption); (case hd => walk_at "my room"); (case hu => ktr_units)))
local macro_rules | `(tactic| walk_at "my len") => `(tactic| first | omega | (simp only [List.length_append, List.length_cons, List.length_nil] at *; omega) | l_fact)
local macro_rules | `(tactic| walk_at "pyIter ref") => `(tactic| (k_here; k_dflt (
  refine' grow_loop (y := PySem.Str.ofString "found") (z := PySem.Str.ofString "low") (fun n => [(lowOf n).fdiv 256, (lowOf n).fmod 256]) (wordsOf_flat _) ?hB ?hh ?hxy ?hzy ?F ?N ?hi ?hu ?hy ?hdl ?turn ?done
  (case hB => assumption); (case hh => rfl); (case hxy => decide); (case hzy => decide); (case F => k_asm); (case N => k_asm); (case hi => assumption); (case hu => exact IntsAre.nil); (case hy => exact rfl); (case hdl => k_all)
  (case' turn => intro n' t' a' u' ds' d' kd' h' tk' rest' hn' hds' hle' hoff' hld' F' N'; (try dsimp only); (try k_fold))
  (case' done => intro u' ds' d' kd' h' tk' hds' F' N'; (try dsimp only); (try k_fold)))))
local macro_rules | `(tactic| walk_at "exec For Name Name cons nil") => `(tactic| (k_here; (rename Fr _ _ _ _ => lF'); (with_unfolding_all refine' For_invVF lF' ?k1 ?k2 ?_; (case k1 => exact rfl); (case k2 => exact rfl); k_whole)))
/-- numbers put together to octets -/
theorem words_ok (w : World) (l : Addr) (vs : List Value) (ns : List Int) (nl : Nat) (rest : List (Addr × Obj)) (hi : IntsAre vs ns) (hlen : ns.length ≤ 40) (hr : ∀ n ∈ ns, -65536 ≤ n ∧ n < 65536) (hlr : ∀ p ∈ rest, p.1 ≠ l) :
    Spec w 3 215 [.ref l] ((l, listOf vs.toArray nl) :: rest) (fun v news' => ∃ (b : Array UInt8) (t : Tok), v = .bytes b t ∧ news' = (l, listOf vs.toArray nl) :: rest ∧ KBw.bInts b = wordsOf ns) := by
  have hIn := wordsOf_in hr
  have hW : (wordsOf ns).length ≤ 1000 := by rw [wordsOf_length]; omega
  unfold Spec
  k_fill
  intro mg mb mean dp un gd cn cs ad ccd cl outer A₀ base h₀ L m s Q E B F X N T hk hdp hun hret
  refine wpAny_call ?_
  k_dflt cell_enter
  k_steps
  · exact hret _ _ _ _ ⟨_, _, rfl, rfl, KBa.ints_make hIn⟩ (by assumption) (ledger_sub (by assumption) (by kcf_all))
  · refine ⟨_, _, _, _, _, _, rfl, by assumption, ledger_sub (by assumption) (by kcf_all), ?_, rfl, ?_, ?_⟩
    · (try dsimp only)
      rw [show ∀ q : Int, 0 ≤ q → lowOf q = q from fun q hq => if_pos hq]
      · assumption
      · omega
    · intro u h1 h2 h3
      simp only [if_neg h1, if_neg h2, if_neg h3]
    · k_all
  · refine ⟨_, _, _, _, _, _, rfl, by assumption, ledger_sub (by assumption) (by kcf_all), ?_, rfl, ?_, ?_⟩
    · (try dsimp only)
      rw [show ∀ q : Int, ¬ 0 ≤ q → lowOf q = 65536 + q from fun q hq => if_neg hq]
      · assumption
      · omega
    · intro u h1 h2 h3
      simp only [if_neg h1, if_neg h2, if_neg h3]
    · k_all
end
end Mine
end
section
open PySem PySem.W PyProof.Rows
theorem Mine.anew7 {p : Program} {w : World} {A : Around} {env : Env} {Q : Flow → Shared → Prop} {E : Value → Shared → Prop} {s : Shared} (h : Q .next s) : wpAny (model p w) A (execs [] env) Q E s := by
  walk1
  assumption
end
section
open PySem PySem.W PyProof.Rows
set_option Elab.async false
set_option maxRecDepth 100000
set_option maxHeartbeats 8000000
namespace Mine
section
local macro_rules | `(tactic| k_all) => `(tactic| first | assumption | (refine allLt_ne ?_; first | assumption | (simp only [*]; done)))
local macro_rules | `(tactic| walk_at "my pick") => `(tactic| first | exact Pick.head | (refine' Pick.tail ?pk; (case pk => walk_at "my pick")))
local macro_rules | `(tactic| walk_at "my ints") => `(tactic| first | assumption | exact IntsAre.nil | (refine' IntsAre.cons _ _ ?ic; (case ic => walk_at "my ints")))
local macro_rules | `(tactic| walk_at "my room") => `(tactic| first | omega | ktr_room)
local macro_rules | `(tactic| walk_at "my arith") => `(tactic| first | assumption | omega | l_fact)
local macro_rules | `(tactic| walk_at "my ctx") => `(tactic| ((case B => k_asm); (case F => k_asm); (case X => k_asm); (case T => k_asm); (case N => k_asm); (case hk => first | exact rfl | assumption); (case hd => walk_at "my room"); (case hu => ktr_units)))
local macro_rules | `(tactic| walk_at "my len") => `(tactic| first | omega | (simp only [List.length_append, List.length_cons, List.length_nil] at *; omega) | l_fact)
local macro_rules | `(tactic| walk_at "call ref") => `(tactic| (k_here; (with_reducible show wpAny _ _ (call (Value.ref 215) _) _ _ _); k_dflt (
  refine' Spec.to (words_ok _ _ _ _ _ _ ?hi ?hlen ?hr ?hlr) ?B ?F ?X ?N ?T ?hk (Pick.sub ?P) ?hd ?hu ?_
  walk_at "my ctx"
  (case P => walk_at "my pick")
  (case hi => walk_at "my ints")
  (case hlen => walk_at "my size")
  (case hr => walk_at "my range")
  (case hlr => k_all)
  k_whole
  intro v' news' h' tk' hP F' N'
  obtain ⟨_, _, hv', hn', hb'⟩ := hP
  subst hv'
  rw [hn'] at N'
  clear hn'
  (try dsimp only)
  (try k_fold))))
local macro_rules | `(tactic| walk_at "my size") => `(tactic| first | assumption | exact Nat.le_of_ble_eq_true rfl)
local macro_rules | `(tactic| walk_at "my range") => `(tactic| first | assumption | exact List.forall_mem_nil _ | (refine List.forall_mem_cons.mpr ⟨⟨?r1, ?r2⟩, ?r3⟩; (case r1 => omega); (case r2 => omega); (case r3 => walk_at "my range")))
theorem with_cut {ks ws : List Int} {p : Int} {n : Nat} (hp : 0 ≤ p) (hw : ws.length = 2 * n) :
    List.take (clipAt ks.length p) ks ++ ws ++ List.take (ks.length - clipAt ks.length (p + (ws.length : Nat))) (List.drop (clipAt ks.length (p + (ws.length : Nat))) ks) = ks.take p.toNat ++ ws ++ ks.drop (p.toNat + 2 * n) := by
  obtain ⟨k, rfl⟩ : ∃ k : Nat, p = (k : Int) := ⟨p.toNat, by omega⟩
  have e : ((k : Int) + (ws.length : Nat)) = ((k + ws.length : Nat) : Int) := by omega
  rw [e, clipAt_nat, clipAt_nat, Int.toNat_natCast, hw]
  have h1 : List.take (min k ks.length) ks = ks.take k := by
    rw [← List.take_take, List.take_length]
  have h2 : List.take (ks.length - min (k + 2 * n) ks.length) (List.drop (min (k + 2 * n) ks.length) ks) = ks.drop (k + 2 * n) := by
    rw [List.take_of_length_le (by rw [List.length_drop]; exact Nat.le_refl _)]
    by_cases h : k + 2 * n ≤ ks.length
    · rw [Nat.min_eq_left h]
    · rw [Nat.min_eq_right (by omega), List.drop_eq_nil_of_le (Nat.le_refl _), List.drop_eq_nil_of_le (by omega)]
  rw [h1, h2]
/-- octets with words written over them -/
theorem with_ok (w : World) (arr : Array UInt8) (ks : List Int) (tb tp : Tok) (p : Int) (l : Addr) (vs : List Value) (ns : List Int) (nl : Nat) (rest : List (Addr × Obj)) (hk' : KBw.bInts arr = ks) (hkl : ks.length ≤ 100) (hp0 : 0 ≤ p) (hp1 : p ≤ 100) (hi : IntsAre vs ns) (hlen : ns.length ≤ 40) (hr : ∀ n ∈ ns, -65536 ≤ n ∧ n < 65536) (hlr : ∀ p ∈ rest, p.1 ≠ l) :
    Spec w 5 229 [.bytes arr tb, .int p tp, .ref l] ((l, listOf vs.toArray nl) :: rest) (fun v news' => ∃ (b : Array UInt8) (t : Tok), v = .bytes b t ∧ news' = (l, listOf vs.toArray nl) :: rest ∧ KBw.bInts b = ks.take p.toNat ++ wordsOf ns ++ ks.drop (p.toNat + 2 * ns.length)) := by
  have hW : (wordsOf ns).length = 2 * ns.length := wordsOf_length ns
  unfold Spec
  k_fill
  intro mg mb mean dp un gd cn cs ad ccd cl outer A₀ base h₀ L m s Q E B F X N T hk hdp hun hret
  refine wpAny_call ?_
  k_dflt cell_enter
  k_steps
  rename (KBw.bInts (_ ++ _ ++ _) = _) => hb
  exact hret _ _ _ _ ⟨_, _, rfl, rfl, hb.trans (with_cut hp0 hW)⟩ (by assumption) (by assumption)
end
end Mine
end
section
open PySem PySem.W PyProof.Rows
theorem Mine.anew8 {p : Program} {w : World} {A : Around} {env : Env} {Q : Flow → Shared → Prop} {E : Value → Shared → Prop} {s : Shared} (h : Q .next s) : wpAny (model p w) A (execs [] env) Q E s := by
  walk1
  assumption
end
section
open PySem PySem.W PyProof.Rows
set_option Elab.async false
set_option maxRecDepth 100000
set_option maxHeartbeats 8000000
namespace Mine
section
/-- a number's two octets -/
theorem put16_ok (w : World) (x : Int) (tx : Tok) (rest : List (Addr × Obj)) :
    Spec w 3 74 [.int x tx] rest (fun v news' => ∃ (b : Array UInt8) (t : Tok), v = .bytes b t ∧ news' = rest ∧ KBw.bInts b = [(x.fdiv 256).fmod 256, x.fmod 256]) := by
  unfold Spec
  k_fill
  intro mg mb mean dp un gd cn cs ad ccd cl outer A₀ base h₀ L m s Q E B F X N T hk hdp hun hret
  refine wpAny_call ?_
  k_dflt cell_enter
  k_steps
  refine hret _ rest _ _ ⟨_, _, rfl, rfl, ?_⟩ (by assumption) (ledger_sub (by assumption) (by kcf_all))
  rw [KBw.ints_list]
  simp only [List.map_cons, List.map_nil, *]
end
end Mine
end
section
open PySem PySem.W PyProof.Rows
theorem Mine.anew9 {p : Program} {w : World} {A : Around} {env : Env} {Q : Flow → Shared → Prop} {E : Value → Shared → Prop} {s : Shared} (h : Q .next s) : wpAny (model p w) A (execs [] env) Q E s := by
  walk1
  assumption
end
section
open PySem PySem.W PyProof.Rows
set_option Elab.async false
set_option maxRecDepth 100000
set_option maxHeartbeats 8000000
namespace Mine
section
local macro_rules | `(tactic| k_all) => `(tactic| assumption)
local macro_rules | `(tactic| walk_at "my pick") => `(tactic| first | exact Pick.head | (refine' Pick.tail ?pk; (case pk => walk_at "my pick")))
local macro_rules | `(tactic| walk_at "my ints") => `(tactic| first | assumption | exact IntsAre.nil | (refine' IntsAre.cons _ _ ?ic; (case ic => walk_at "my ints")))
local macro_rules | `(tactic| walk_at "my room") => `(tactic| first | omega | ktr_room)
local macro_rules | `(tactic| walk_at "my arith") => `(tactic| first | assumption | omega | l_fact)
local macro_rules | `(tactic| walk_at "my ctx") => `(tactic| ((case B => k_asm); (case F => k_asm); (case X => k_asm); (case T => k_asm); (case N => k_asm); (case hk => first | exact rfl | assumption); (case hd => walk_at "my room"); (case hu => ktr_units)))
local macro_rules | `(tactic| walk_at "call ref") => `(tactic| (k_here; (with_reducible show wpAny _ _ (call (Value.ref 74) _) _ _ _); k_dflt (
  refine' Spec.to (put16_ok _ _ _ _) ?B ?F ?X ?N ?T ?hk (fun _ h => h) ?hd ?hu ?_
  walk_at "my ctx"
  k_whole
  intro v' news' h' tk' hP F' N'
  obtain ⟨_, _, hv', hn', hb'⟩ := hP
  subst hv'
  rw [hn'] at N'
  clear hn'
  (try dsimp only)
  (try k_fold))))
/-- a number's four octets -/
theorem put32_ok (w : World) (x : Int) (tx : Tok) (rest : List (Addr × Obj)) :
    Spec w 5 81 [.int x tx] rest (fun v news' => ∃ (b : Array UInt8) (t : Tok), v = .bytes b t ∧ news' = rest ∧ KBw.bInts b = [((x.fdiv 65536).fdiv 256).fmod 256, (x.fdiv 65536).fmod 256, (x.fdiv 256).fmod 256, x.fmod 256]) := by
  unfold Spec
  k_fill
  intro mg mb mean dp un gd cn cs ad ccd cl outer A₀ base h₀ L m s Q E B F X N T hk hdp hun hret
  refine wpAny_call ?_
  k_dflt cell_enter
  k_steps
  exact hret _ _ _ _ ⟨_, _, rfl, rfl, by assumption⟩ (by assumption) (by assumption)
end
end Mine
end
section
open PySem PySem.W PyProof.Rows
theorem Mine.anew10 {p : Program} {w : World} {A : Around} {env : Env} {Q : Flow → Shared → Prop} {E : Value → Shared → Prop} {s : Shared} (h : Q .next s) : wpAny (model p w) A (execs [] env) Q E s := by
  walk1
  assumption
end
section
open PySem PySem.W PyProof.Rows
set_option Elab.async false
set_option maxRecDepth 100000
set_option maxHeartbeats 8000000
namespace Mine
section
local macro_rules | `(tactic| k_all) => `(tactic| assumption)
local macro_rules | `(tactic| walk_at "my pick") => `(tactic| first | exact Pick.head | (refine' Pick.tail ?pk; (case pk => walk_at "my pick")))
local macro_rules | `(tactic| walk_at "my ints") => `(tactic| first | assumption | exact IntsAre.nil | (refine' IntsAre.cons _ _ ?ic; (case ic => walk_at "my ints")))
local macro_rules | `(tactic| walk_at "my room") => `(tactic| first | omega | ktr_room)
local macro_rules | `(tactic| walk_at "my arith") => `(tactic| first | assumption | omega | l_fact)
local macro_rules | `(tactic| walk_at "my ctx") => `(tactic| ((case B => k_asm); (case F => k_asm); (case X => k_asm); (case T => k_asm); (case N => k_asm); (case hk => first | exact rfl | assumption); (case hd => walk_at "my room"); (case hu => ktr_units)))
/-- two octets as a number -/
theorem u16_ok (w : World) (arr : Array UInt8) (ks : List Int) (tb ta : Tok) (at' : Int) (rest : List (Addr × Obj)) (hk' : KBw.bInts arr = ks) (h0 : 0 ≤ at') (h1 : at' + 2 ≤ (ks.length : Int)) (h2 : ks.length ≤ 100) :
    Spec w 3 53 [.bytes arr tb, .int at' ta] rest (fun v news' => ∃ (r : Int) (t : Tok), v = .int r t ∧ news' = rest ∧ r = ks.getD at'.toNat 0 * 256 + ks.getD (at' + 1).toNat 0) := by
  unfold Spec
  k_fill
  intro mg mb mean dp un gd cn cs ad ccd cl outer A₀ base h₀ L m s Q E B F X N T hk hdp hun hret
  refine wpAny_call ?_
  k_dflt cell_enter
  k_steps
  exact hret _ _ _ _ ⟨_, _, rfl, rfl, rfl⟩ (by assumption) (by assumption)
end
end Mine
end
section
open PySem PySem.W PyProof.Rows
theorem Mine.anew11 {p : Program} {w : World} {A : Around} {env : Env} {Q : Flow → Shared → Prop} {E : Value → Shared → Prop} {s : Shared} (h : Q .next s) : wpAny (model p w) A (execs [] env) Q E s := by
  walk1
  assumption
end
section
open PySem PySem.W PyProof.Rows
set_option Elab.async false
set_option maxRecDepth 100000
set_option maxHeartbeats 8000000
namespace Mine
section
local macro_rules | `(tactic| k_all) => `(tactic| assumption)
local macro_rules | `(tactic| walk_at "my pick") => `(tactic| first | exact Pick.head | (refine' Pick.tail ?pk; (case pk => walk_at "my pick")))
local macro_rules | `(tactic| walk_at "my ints") => `(tactic| first | assumption | exact IntsAre.nil | (refine' IntsAre.cons _ _ ?ic; (case ic => walk_at "my ints")))
local macro_rules | `(tactic| walk_at "my room") => `(tactic| first | omega | ktr_room)
local macro_rules | `(tactic| walk_at "my arith") => `(tactic| first | assumption | omega | l_fact)
local macro_rules | `(tactic| walk_at "my ctx") => `(tactic| ((case B => k_asm); (case F => k_asm); (case X => k_asm); (case T => k_asm); (case N => k_asm); (case hk => first | exact rfl | assumption); (case hd => walk_at "my room"); (case hu => ktr_units)))
local macro_rules | `(tactic| walk_at "my len") => `(tactic| first | omega | (simp only [List.length_append, List.length_cons, List.length_nil] at *; omega) | l_fact)
local macro_rules | `(tactic| walk_at "call ref") => `(tactic| (k_here; (with_reducible show wpAny _ _ (call (Value.ref 53) _) _ _ _); k_dflt (
  refine' Spec.to (u16_ok _ _ _ _ _ _ _ ?hb ?h0 ?h1 ?h2) ?B ?F ?X ?N ?T ?hk (fun _ h => h) ?hd ?hu ?_
  walk_at "my ctx"
  (case hb => assumption)
  (case h0 => first | decide | omega); (case h1 => walk_at "my len"); (case h2 => walk_at "my len")
  k_whole
  intro v' news' h' tk' hP F' N'
  obtain ⟨_, _, hv', hn', hr'⟩ := hP
  subst hv'
  rw [hn'] at N'
  clear hn'
  (try dsimp only)
  (try k_fold))))
/-- two octets as a signed number -/
theorem s16_ok (w : World) (arr : Array UInt8) (ks : List Int) (tb ta : Tok) (at' : Int) (rest : List (Addr × Obj)) (hk' : KBw.bInts arr = ks) (h0 : 0 ≤ at') (h1 : at' + 2 ≤ (ks.length : Int)) (h2 : ks.length ≤ 100) :
    Spec w 5 60 [.bytes arr tb, .int at' ta] rest (fun v news' => ∃ (r : Int) (t : Tok), v = .int r t ∧ news' = rest ∧ ((32768 ≤ ks.getD at'.toNat 0 * 256 + ks.getD (at' + 1).toNat 0 ∧ r = ks.getD at'.toNat 0 * 256 + ks.getD (at' + 1).toNat 0 - 65536) ∨ (ks.getD at'.toNat 0 * 256 + ks.getD (at' + 1).toNat 0 < 32768 ∧ r = ks.getD at'.toNat 0 * 256 + ks.getD (at' + 1).toNat 0))) := by
  unfold Spec
  k_fill
  intro mg mb mean dp un gd cn cs ad ccd cl outer A₀ base h₀ L m s Q E B F X N T hk hdp hun hret
  refine wpAny_call ?_
  k_dflt cell_enter
  k_steps
  all_goals first
    | exact hret _ _ _ _ ⟨_, _, rfl, rfl, by omega⟩ (by assumption) (by assumption)
    | exact hret _ _ _ _ ⟨_, _, rfl, rfl, .inl ⟨by omega, by omega⟩⟩ (by assumption) (by assumption)
    | exact hret _ _ _ _ ⟨_, _, rfl, rfl, .inr ⟨by omega, by omega⟩⟩ (by assumption) (by assumption)
/-- four octets as a number -/
theorem u32_ok (w : World) (arr : Array UInt8) (ks : List Int) (tb ta : Tok) (at' : Int) (rest : List (Addr × Obj)) (hk' : KBw.bInts arr = ks) (h0 : 0 ≤ at') (h1 : at' + 4 ≤ (ks.length : Int)) (h2 : ks.length ≤ 100) :
    Spec w 5 67 [.bytes arr tb, .int at' ta] rest (fun v news' => ∃ (r : Int) (t : Tok), v = .int r t ∧ news' = rest ∧ r = (ks.getD at'.toNat 0 * 256 + ks.getD (at' + 1).toNat 0) * 65536 + (ks.getD (at' + 2).toNat 0 * 256 + ks.getD (at' + 2 + 1).toNat 0)) := by
  unfold Spec
  k_fill
  intro mg mb mean dp un gd cn cs ad ccd cl outer A₀ base h₀ L m s Q E B F X N T hk hdp hun hret
  refine wpAny_call ?_
  k_dflt cell_enter
  k_steps
  exact hret _ _ _ _ ⟨_, _, rfl, rfl, by subst_vars; rfl⟩ (by assumption) (by assumption)
end
end Mine
end
section
open PySem PySem.W PyProof.Rows
set_option Elab.async false
set_option maxRecDepth 100000
namespace Mine
theorem Spec.imp {w : World} {k : Nat} {f : Addr} {vs : List Value} {news : List (Addr × Obj)} {P P' : Value → List (Addr × Obj) → Prop} (S : Spec w k f vs news P) (h : ∀ v n, P v n → P' v n) : Spec w k f vs news P' := by
  intro mg mb mean dp un gd cn cs ad ccd cl outer A₀ base h₀ L m s Q E B F X N T hk hdp hun hret
  exact S mg mb mean dp un gd cn cs ad ccd cl outer A₀ base h₀ L m s Q E B F X N T hk hdp hun fun v news' h' tk' hP F' N' => hret v news' h' tk' (h _ _ hP) F' N'
theorem u16_at (w : World) (arr : Array UInt8) (ks : List Int) (tb ta : Tok) (at' : Int) (x : Int) (rest : List (Addr × Obj)) (hk' : KBw.bInts arr = ks) (h0 : 0 ≤ at') (h1 : at' + 2 ≤ (ks.length : Int)) (h2 : ks.length ≤ 100) (hw : ks.getD at'.toNat 0 * 256 + ks.getD (at' + 1).toNat 0 = x) :
    Spec w 3 53 [.bytes arr tb, .int at' ta] rest (fun v news' => ∃ (t : Tok), v = .int x t ∧ news' = rest) :=
  (u16_ok w arr ks tb ta at' rest hk' h0 h1 h2).imp fun v n ⟨r, t, h1, h2, h3⟩ => ⟨t, by rw [h1, h3, hw], h2⟩
theorem s16_at (w : World) (arr : Array UInt8) (ks : List Int) (tb ta : Tok) (at' : Int) (x : Int) (rest : List (Addr × Obj)) (hk' : KBw.bInts arr = ks) (h0 : 0 ≤ at') (h1 : at' + 2 ≤ (ks.length : Int)) (h2 : ks.length ≤ 100) (hlo : -32768 ≤ x) (hhi : x ≤ 32767)
    (hw : (ks.getD at'.toNat 0 * 256 + ks.getD (at' + 1).toNat 0 = x ∧ 0 ≤ x) ∨ (ks.getD at'.toNat 0 * 256 + ks.getD (at' + 1).toNat 0 = 65536 + x ∧ x < 0)) :
    Spec w 5 60 [.bytes arr tb, .int at' ta] rest (fun v news' => ∃ (t : Tok), v = .int x t ∧ news' = rest) :=
  (s16_ok w arr ks tb ta at' rest hk' h0 h1 h2).imp fun v n ⟨r, t, h1, h2, h3⟩ => ⟨t, by rw [h1, show r = x by omega], h2⟩
theorem u32_at (w : World) (arr : Array UInt8) (ks : List Int) (tb ta : Tok) (at' : Int) (x y : Int) (rest : List (Addr × Obj)) (hk' : KBw.bInts arr = ks) (h0 : 0 ≤ at') (h1 : at' + 4 ≤ (ks.length : Int)) (h2 : ks.length ≤ 100) (hw : ks.getD at'.toNat 0 * 256 + ks.getD (at' + 1).toNat 0 = x) (hw' : ks.getD (at' + 2).toNat 0 * 256 + ks.getD (at' + 2 + 1).toNat 0 = y) :
    Spec w 5 67 [.bytes arr tb, .int at' ta] rest (fun v news' => ∃ (t : Tok), v = .int (x * 65536 + y) t ∧ news' = rest) :=
  (u32_ok w arr ks tb ta at' rest hk' h0 h1 h2).imp fun v n ⟨r, t, h1, h2, h3⟩ => ⟨t, by rw [h1, h3, hw, hw'], h2⟩
end Mine
end
section
open PySem PySem.W PyProof.Rows PySem.Spec PySem.Calls
set_option Elab.async false
set_option maxRecDepth 100000
set_option maxHeartbeats 4000000
namespace Mine
theorem bi_no_bytes : typeLookup (.type "int") "__bytes__" = pure none := by rw [typeLookup_type, builtinLookup_eq_fast]; kernel_rfl
theorem bi_index : typeLookup (.type "int") "__index__" = pure (some (.builtin "int.__index__")) := by rw [typeLookup_type, builtinLookup_eq_fast]; kernel_rfl
section
variable {prog : Program} {w : World} {A : Around} {E : Value → Shared → Prop} {s : Shared}
theorem bi_new {n : Int} {ti : Tok} {Q : Value → Shared → Prop} (h0 : 0 ≤ n) (h1 : n ≤ 100) (hh : A.handled = none)
    (hQ : ∀ t k, Q (.bytes (Array.replicate n.toNat 0) t) { s with toks := k }) :
    codeAny (model prog w) A (.call (.builtin "bytes.__new__") ⟨[.type "bytes", .int n ti], []⟩) (wants Q E) s := by
  refine codeAny_of_tree ?_
  show wpAny _ A.in1 (do checkBuiltinCall "bytes.__new__" ⟨[.type "bytes", .int n ti], []⟩; again (.builtin "bytes.__new__" ⟨[.type "bytes", .int n ti], []⟩)) _ _ s
  refine wpAny_bind (wpAny_of_eq (F.bm_newCall _) (wpAny_pure ⟨plainId_quiet F.bm_plain _, codeAny_builtin F.bm_entry ?_⟩))
  rw [Around.under_plainId F.bm_plain _]
  have hT : s.TypeIs (.int n ti) "int" := typeIs_int _ _ _
  unfold Builtin.«bytes.__new__»
  refine wpAny_bind (wpAny_of_eq (a := true) rfl ?_)
  refine bm_if_false rfl ?_
  refine wpAny_bind (wpAny_of_eq F.bm_sub ?_)
  refine bm_if_false rfl ?_
  refine wpAny_bind (wpAny_of_eq (F.bm_bind _) ?_)
  refine wpAny_bind (wpAny_of_eq (a := ()) rfl ?_)
  refine wpAny_bind (wpAny_of_eq (a := ()) rfl ?_)
  refine bm_if_false rfl ?_
  refine wpAny_bind (wpAny_specialOf hT bi_no_bytes ?_)
  refine wpAny_bind (wpAny_of_eq (a := false) rfl ?_)
  refine bm_if_false rfl ?_
  refine wpAny_bind (wpAny_specialOf hT bi_index ?_)
  refine bm_if_false rfl ?_
  refine wpAny_bind (wpAny_attempt (wpAny_of_eq (rfl : asIndex (.int n ti) = pure n) ?_))
  dsimp only
  refine bm_if_false (by simp only [Builtin.Bytes.fitsIndex, Bool.not_eq_false', Bool.and_eq_true, decide_eq_true_eq]; omega) ?_
  rw [if_neg (show ¬ n < 0 by omega), if_neg (show ¬ n > 2 ^ 63 - 34 by omega)]
  refine bm_if_false (KBy.tooLong_not (by omega)) ?_
  refine wpAny_bind (wpAny_rule ?_)
  refine wpAny_bind (wpAny_mkBytes ?_ (by rw [Array.size_replicate, sizeLine_eq]; omega))
  show wpAny _ _ (if (Value.type "bytes" == Value.type "bytes") = true then _ else _) _ _ _
  refine bm_if_true (by decide) ?_
  first
    | exact wpAny_pure (hQ _ _)
    | exact wpAny_bind (wpAny_pure (wpAny_pure (hQ _ _)))
theorem bytes_int {n : Int} {ti : Tok} {Q : Value → Shared → Prop} (h0 : 0 ≤ n) (h1 : n ≤ 100) (hh : A.handled = none)
    (hQ : ∀ t k, Q (.bytes (Array.replicate n.toNat 0) t) { s with toks := k }) : wpAny (model prog w) A (call (.type "bytes") [.int n ti]) Q E s := by
  refine callType_codes (Q₁ := fun obj s₁ => s₁.TypeIs obj "bytes" ∧ Q obj s₁) F.bm_called (F.bm_typeCall _) F.entry_object_init
    (bi_new h0 h1 hh fun t k => ⟨PySem.W.typeIs_bytes _ _ _, hQ t k⟩) fun obj s₁ h₁ => ?_
  exact ⟨h₁.1, F.args_object_init_2 obj _, object_init_meets F.bm_called.init.lookup F.bm_called.made (by decide) prog w A.in1 _ s₁ ⟨h₁.1, rfl, h₁.2⟩⟩
end
theorem ints_zeros (n : Nat) : KBw.bInts (Array.replicate n 0) = List.replicate n 0 := by
  unfold KBw.bInts
  simp
theorem bytes_int_ks {prog : Program} {w : World} {A : Around} {E : Value → Shared → Prop} {s : Shared} {n : Int} {ti : Tok} {Q : Value → Shared → Prop} (h0 : 0 ≤ n) (h1 : n ≤ 100) (hh : A.handled = none)
    (hQ : ∀ b t k, KBw.bInts b = List.replicate n.toNat 0 → Q (.bytes b t) { s with toks := k }) : wpAny (model prog w) A (call (.type "bytes") [.int n ti]) Q E s :=
  bytes_int h0 h1 hh fun t k => hQ _ t k (ints_zeros _)
theorem len_at {prog : Program} {w : World} {A : Around} {E : Value → Shared → Prop} {s : Shared} {b : Array UInt8} {t : Tok} {ks : List Int} {c : Nat} {Q : Value → Shared → Prop} (hk : KBw.bInts b = ks) (e : ks.length = c) (hfit : c ≤ 1000)
    (h : ∀ u k, Q (.int (c : Nat) u) { s with toks := k }) : wpAny (model prog w) A (call (.builtin "len") [.bytes b t]) Q E s := by
  subst e
  exact KBw.len_K hk (by omega) (h _ _)
end Mine
end
section
open PySem PySem.W PyProof.Rows
set_option Elab.async false
namespace Mine
theorem put16_c (w : World) {x : Int} {tx : Tok} {led : List (Addr × Obj)} (_sd : True) :
    SpecC w 3 74 [.int x tx] led (fun K => ∀ (b : Array UInt8) (t : Tok), KBw.bInts b = [(x.fdiv 256).fmod 256, x.fmod 256] → K (.bytes b t) led) := by
  refine (put16_ok w x tx led).c (fun _ h => h) fun K h v news' hP => ?_
  obtain ⟨b, t, rfl, rfl, h1⟩ := hP
  exact ⟨_, h b t h1, fun p hp => hp⟩
theorem put32_c (w : World) {x : Int} {tx : Tok} {led : List (Addr × Obj)} (_sd : True) :
    SpecC w 5 81 [.int x tx] led (fun K => ∀ (b : Array UInt8) (t : Tok), KBw.bInts b = [((x.fdiv 65536).fdiv 256).fmod 256, (x.fdiv 65536).fmod 256, (x.fdiv 256).fmod 256, x.fmod 256] → K (.bytes b t) led) := by
  refine (put32_ok w x tx led).c (fun _ h => h) fun K h v news' hP => ?_
  obtain ⟨b, t, rfl, rfl, h1⟩ := hP
  exact ⟨_, h b t h1, fun p hp => hp⟩
theorem u16_c (w : World) {arr : Array UInt8} {ks : List Int} {tb ta : Tok} {at' : Int} {x : Int} {led : List (Addr × Obj)} (sd : KBw.bInts arr = ks ∧ 0 ≤ at' ∧ at' + 2 ≤ (ks.length : Int) ∧ ks.length ≤ 100 ∧ ks.getD at'.toNat 0 * 256 + ks.getD (at' + 1).toNat 0 = x) :
    SpecC w 3 53 [.bytes arr tb, .int at' ta] led (fun K => ∀ (t : Tok), K (.int x t) led) := by
  refine (u16_at w arr ks tb ta at' x led sd.1 sd.2.1 sd.2.2.1 sd.2.2.2.1 sd.2.2.2.2).c (fun _ h => h) fun K h v news' hP => ?_
  obtain ⟨t, rfl, rfl⟩ := hP
  exact ⟨_, h t, fun p hp => hp⟩
theorem s16_c (w : World) {arr : Array UInt8} {ks : List Int} {tb ta : Tok} {at' : Int} {x : Int} {led : List (Addr × Obj)} (sd : KBw.bInts arr = ks ∧ 0 ≤ at' ∧ at' + 2 ≤ (ks.length : Int) ∧ ks.length ≤ 100 ∧ ks.getD at'.toNat 0 * 256 + ks.getD (at' + 1).toNat 0 = lowOf x ∧ -32768 ≤ x ∧ x ≤ 32767) :
    SpecC w 5 60 [.bytes arr tb, .int at' ta] led (fun K => ∀ (t : Tok), K (.int x t) led) := by
  obtain ⟨h1, h2, h3, h4, h5, h6, h7⟩ := sd
  refine (s16_at w arr ks tb ta at' x led h1 h2 h3 h4 h6 h7 (word_low h5)).c (fun _ h => h) fun K h v news' hP => ?_
  obtain ⟨t, rfl, rfl⟩ := hP
  exact ⟨_, h t, fun p hp => hp⟩
theorem u32_c (w : World) {arr : Array UInt8} {ks : List Int} {tb ta : Tok} {at' : Int} {x y : Int} {led : List (Addr × Obj)} (sd : KBw.bInts arr = ks ∧ 0 ≤ at' ∧ at' + 4 ≤ (ks.length : Int) ∧ ks.length ≤ 100 ∧ ks.getD at'.toNat 0 * 256 + ks.getD (at' + 1).toNat 0 = x ∧ ks.getD (at' + 2).toNat 0 * 256 + ks.getD (at' + 2 + 1).toNat 0 = y) :
    SpecC w 5 67 [.bytes arr tb, .int at' ta] led (fun K => ∀ (t : Tok), K (.int (x * 65536 + y) t) led) := by
  obtain ⟨h1, h2, h3, h4, h5, h6⟩ := sd
  refine (u32_at w arr ks tb ta at' x y led h1 h2 h3 h4 h5 h6).c (fun _ h => h) fun K h v news' hP => ?_
  obtain ⟨t, rfl, rfl⟩ := hP
  exact ⟨_, h t, fun p hp => hp⟩
end Mine
end
section
open PySem PySem.W PyProof.Rows
set_option Elab.async false
namespace Mine
/-- what a head's own dict holds -/
abbrev headDict (w : World) (units : Int) (tu : Tok) (bx : Addr) (lg : Bool) (flags : Int) (tf : Tok) (style : Int) (ts k1 k2 k3 k4 k5 : Tok) : Obj :=
  dictOf [⟨PyData.keyHash w.params (Str.ofString "units"), .str (Str.ofString "units") k1, .int units tu⟩, ⟨PyData.keyHash w.params (Str.ofString "box"), .str (Str.ofString "box") k2, .ref bx⟩, ⟨PyData.keyHash w.params (Str.ofString "is_long"), .str (Str.ofString "is_long") k3, .bool lg⟩, ⟨PyData.keyHash w.params (Str.ofString "flags"), .str (Str.ofString "flags") k4, .int flags tf⟩, ⟨PyData.keyHash w.params (Str.ofString "style"), .str (Str.ofString "style") k5, .int style ts⟩] 5
abbrev tup4 (a b c d : Int) (ta tb tc td : Tok) (n : Nat) : Obj := { cls := .type "tuple", data := .seq #[.int a ta, .int b tb, .int c tc, .int d td] n }
end Mine
end
section
open PySem PySem.W PyProof.Rows
theorem Mine.anew12 {p : Program} {w : World} {A : Around} {env : Env} {Q : Flow → Shared → Prop} {E : Value → Shared → Prop} {s : Shared} (h : Q .next s) : wpAny (model p w) A (execs [] env) Q E s := by
  walk1
  assumption
end
section
open PySem PySem.W PyProof.Rows
set_option Elab.async false
set_option maxRecDepth 100000
set_option maxHeartbeats 8000000
namespace Mine
section
local macro_rules | `(tactic| k_all) => `(tactic| first | assumption | (refine allLt_ne ?_; first | assumption | (simp only [*]; done)))
local macro_rules | `(tactic| walk_at "my pick") => `(tactic| first | exact Pick.head | (refine' Pick.tail ?pk; (case pk => walk_at "my pick")))
local macro_rules | `(tactic| walk_at "my ints") => `(tactic| first | assumption | exact IntsAre.nil | (refine' IntsAre.cons _ _ ?ic; (case ic => walk_at "my ints")))
local macro_rules | `(tactic| walk_at "my room") => `(tactic| first | omega | ktr_room)
local macro_rules | `(tactic| walk_at "my arith") => `(tactic| first | assumption | omega | l_fact)
local macro_rules | `(tactic| walk_at "my ctx") => `(tactic| ((case B => k_asm); (case F => k_asm); (case X => k_asm); (case T => k_asm); (case N => k_asm); (case hk => first | exact rfl | assumption); (case hd => walk_at "my room"); (case hu => ktr_units)))
local macro_rules | `(tactic| walk_at "my len") => `(tactic| first | omega | (simp only [List.length_append, List.length_cons, List.length_nil] at *; omega) | l_fact)
local macro_rules | `(tactic| walk_at "exec Raise some none") => `(tactic| (k_here; (with_reducible rename Fr _ _ _ _ => kF); k_dflt (
  refine' x_Raise_K (C := 44) (fI := 28) PySem.F.excBase_Exception kF ?X ?T ?hx ?hC ?hi ?hfI ?hfc ?hB ?hA ?hN ?hb ?hh ?_
  (case X => k_asm); (case T => k_asm); (case hx => k_is); (case hC => k_is); (case hi => k_is); (case hfI => k_is); (case hfc => exact rfl)
  (case hB => decide +kernel); (case hA => decide +kernel); (case hN => decide +kernel); (case hb => decide +kernel); (case hh => exact rfl)
  k_whole)))
local macro_rules | `(tactic| walk_at "my raised") => `(tactic| (
  (rename Heap.MadeExcOf _ _ _ _ _ => hm)
  (obtain ⟨t', F1, N1, hne1, hnt1⟩ := made_news (by k_asm) (by k_asm) hm)
  refine' Spec.to (init_ok _ _ _ _ _ _ hne1) ?B ?F ?X ?N ?T ?hk (fun _ h => h) ?hd ?hu ?_
  (case B => k_asm); (case F => k_asm); (case X => k_asm); (case T => k_asm); (case N => k_asm); (case hk => first | exact rfl | assumption)
  (case hd => (simp only [depth_deeper, weight_make]; omega))
  (case hu => (simp [units_deeper, Code.cUnits, Code.frames, Code.isFrame] <;> omega))
  intro v' news' h' tk' hP F' N'
  obtain ⟨dx, hv', hn'⟩ := hP
  subst hv'
  rw [hn'] at N'
  clear hn'
  refine ⟨rfl, t', dx, Frag.In.keeps (by k_asm) F'.keep _ _ (by k_is), (N' _ (.head _)).1, ?_⟩
  (try k_unfold)
  (try dsimp only)
  refine' x_leave ?K F' N' (fun q hq => hne1 q (.tail _ hq)) hnt1 rfl rfl rfl rfl ?_
  (case K => k_asm)
  intro h'' R U
  (try dsimp only)))
local macro_rules | `(tactic| walk_at "And") => `(tactic| ((with_reducible show Fr _ _ _ _ ∧ _); refine ⟨by k_asm, ?_⟩))
theorem count_falls (w : World) (arr : Array UInt8) (ks : List Int) (tb : Tok) (hk' : KBw.bInts arr = ks) (h2 : ks.length < 6) : Raiz w 6 131 [.bytes arr tb] := by
  unfold Raiz
  k_fill
  intro mg mb mean dp un gd cn cs ad ccd outer A₀ base h₀ L m s Q E news B F X N T hk hdp hun hret
  refine wpAny_call ?_
  k_dflt cell_enter
  k_steps
  walk_at "my raised"
  exact hret _ _ _ _ _ _ (raised_sub (by assumption) (by kcf_all)) (by assumption) (by assumption)
theorem lines_falls (w : World) (arr : Array UInt8) (ks : List Int) (tb : Tok) (hk' : KBw.bInts arr = ks) (h2 : ks.length < 36) : Raiz w 6 173 [.bytes arr tb] := by
  unfold Raiz
  k_fill
  intro mg mb mean dp un gd cn cs ad ccd outer A₀ base h₀ L m s Q E news B F X N T hk hdp hun hret
  refine wpAny_call ?_
  k_dflt cell_enter
  k_steps
  walk_at "my raised"
  exact hret _ _ _ _ _ _ (raised_sub (by assumption) (by kcf_all)) (by assumption) (by assumption)
theorem head_falls_short (w : World) (arr : Array UInt8) (ks : List Int) (tb : Tok) (hk' : KBw.bInts arr = ks) (h2 : ks.length < 54) : Raiz w 6 117 [.bytes arr tb] := by
  unfold Raiz
  k_fill
  intro mg mb mean dp un gd cn cs ad ccd outer A₀ base h₀ L m s Q E news B F X N T hk hdp hun hret
  refine wpAny_call ?_
  k_dflt cell_enter
  k_steps
  walk_at "my raised"
  exact hret _ _ _ _ _ _ (raised_sub (by assumption) (by kcf_all)) (by assumption) (by assumption)
end
end Mine
end
section
open PySem PySem.W PyProof.Rows
theorem Mine.anew13 {p : Program} {w : World} {A : Around} {env : Env} {Q : Flow → Shared → Prop} {E : Value → Shared → Prop} {s : Shared} (h : Q .next s) : wpAny (model p w) A (execs [] env) Q E s := by
  walk1
  assumption
end
section
open PySem PySem.W PyProof.Rows
set_option Elab.async false
set_option maxRecDepth 100000
set_option maxHeartbeats 8000000
namespace Mine
section
local macro_rules | `(tactic| k_all) => `(tactic| first | assumption | (refine allLt_ne ?_; first | assumption | (simp only [*]; done)))
local macro_rules | `(tactic| walk_at "my pick") => `(tactic| first | exact Pick.head | (refine' Pick.tail ?pk; (case pk => walk_at "my pick")))
local macro_rules | `(tactic| walk_at "my ints") => `(tactic| first | assumption | exact IntsAre.nil | (refine' IntsAre.cons _ _ ?ic; (case ic => walk_at "my ints")))
local macro_rules | `(tactic| walk_at "my room") => `(tactic| first | omega | ktr_room)
local macro_rules | `(tactic| walk_at "my arith") => `(tactic| first | assumption | omega | l_fact)
local macro_rules | `(tactic| walk_at "my ctx") => `(tactic| ((case B => k_asm); (case F => k_asm); (case X => k_asm); (case T => k_asm); (case N => k_asm); (case hk => first | exact rfl | assumption); (case hd => walk_at "my room"); (case hu => ktr_units)))
local macro_rules | `(tactic| walk_at "my len") => `(tactic| first | omega | (simp only [List.length_append, List.length_cons, List.length_nil] at *; omega) | l_fact)
local macro_rules | `(tactic| walk_at "call ref") => `(tactic| (k_here; (with_reducible show wpAny _ _ (call (Value.ref 53) _) _ _ _); k_dflt (
  refine' Spec.to (u16_ok _ _ _ _ _ _ _ ?hb ?h0 ?h1 ?h2) ?B ?F ?X ?N ?T ?hk (fun _ h => h) ?hd ?hu ?_
  walk_at "my ctx"
  (case hb => assumption)
  (case h0 => first | decide | omega); (case h1 => walk_at "my len"); (case h2 => walk_at "my len")
  k_whole
  intro v' news' h' tk' hP F' N'
  obtain ⟨_, _, hv', hn', hr'⟩ := hP
  subst hv'
  rw [hn'] at N'
  clear hn'
  (try simp only [Int.reduceAdd, Int.reduceToNat] at hr')
  (try dsimp only)
  (try k_fold))))
local macro_rules | `(tactic| walk_at "call ref") => `(tactic| (k_here; (with_reducible show wpAny _ _ (call (Value.ref 60) _) _ _ _); k_dflt (
  refine' Spec.to (s16_ok _ _ _ _ _ _ _ ?hb ?h0 ?h1 ?h2) ?B ?F ?X ?N ?T ?hk (fun _ h => h) ?hd ?hu ?_
  walk_at "my ctx"
  (case hb => assumption)
  (case h0 => first | decide | omega); (case h1 => walk_at "my len"); (case h2 => walk_at "my len")
  k_whole
  intro v' news' h' tk' hP F' N'
  obtain ⟨_, _, hv', hn', hr'⟩ := hP
  subst hv'
  rw [hn'] at N'
  clear hn'
  (try simp only [Int.reduceAdd, Int.reduceToNat] at hr')
  (try dsimp only)
  (try k_fold))))
local macro_rules | `(tactic| walk_at "call ref") => `(tactic| (k_here; (with_reducible show wpAny _ _ (call (Value.ref 67) _) _ _ _); k_dflt (
  refine' Spec.to (u32_ok _ _ _ _ _ _ _ ?hb ?h0 ?h1 ?h2) ?B ?F ?X ?N ?T ?hk (fun _ h => h) ?hd ?hu ?_
  walk_at "my ctx"
  (case hb => assumption)
  (case h0 => first | decide | omega); (case h1 => walk_at "my len"); (case h2 => walk_at "my len")
  k_whole
  intro v' news' h' tk' hP F' N'
  obtain ⟨_, _, hv', hn', hr'⟩ := hP
  subst hv'
  rw [hn'] at N'
  clear hn'
  (try simp only [Int.reduceAdd, Int.reduceToNat] at hr')
  (try dsimp only)
  (try k_fold))))
local macro_rules | `(tactic| walk_at "exec Raise some none") => `(tactic| (k_here; (with_reducible rename Fr _ _ _ _ => kF); k_dflt (
  refine' x_Raise_K (C := 44) (fI := 28) PySem.F.excBase_Exception kF ?X ?T ?hx ?hC ?hi ?hfI ?hfc ?hB ?hA ?hN ?hb ?hh ?_
  (case X => k_asm); (case T => k_asm); (case hx => k_is); (case hC => k_is); (case hi => k_is); (case hfI => k_is); (case hfc => exact rfl)
  (case hB => decide +kernel); (case hA => decide +kernel); (case hN => decide +kernel); (case hb => decide +kernel); (case hh => exact rfl)
  k_whole)))
local macro_rules | `(tactic| walk_at "my raised") => `(tactic| (
  (rename Heap.MadeExcOf _ _ _ _ _ => hm)
  (obtain ⟨t', F1, N1, hne1, hnt1⟩ := made_news (by k_asm) (by k_asm) hm)
  refine' Spec.to (init_ok _ _ _ _ _ _ hne1) ?B ?F ?X ?N ?T ?hk (fun _ h => h) ?hd ?hu ?_
  (case B => k_asm); (case F => k_asm); (case X => k_asm); (case T => k_asm); (case N => k_asm); (case hk => first | exact rfl | assumption)
  (case hd => (simp only [depth_deeper, weight_make]; omega))
  (case hu => (simp [units_deeper, Code.cUnits, Code.frames, Code.isFrame] <;> omega))
  intro v' news' h' tk' hP F' N'
  obtain ⟨dx, hv', hn'⟩ := hP
  subst hv'
  rw [hn'] at N'
  clear hn'
  refine ⟨rfl, t', dx, Frag.In.keeps (by k_asm) F'.keep _ _ (by k_is), (N' _ (.head _)).1, ?_⟩
  (try k_unfold)
  (try dsimp only)
  refine' x_leave ?K F' N' (fun q hq => hne1 q (.tail _ hq)) hnt1 rfl rfl rfl rfl ?_
  (case K => k_asm)
  intro h'' R U
  (try dsimp only)))
local macro_rules | `(tactic| walk_at "And") => `(tactic| ((with_reducible show Fr _ _ _ _ ∧ _); refine ⟨by k_asm, ?_⟩))
local macro_rules | `(tactic| walk_at "my dec") => `(tactic| ((try simp only [decide_eq_true_eq, decide_eq_false_iff_not, Bool.and_eq_true, Bool.not_eq_true', Bool.not_eq_false', Bool.not_eq_true, bne_iff_ne, ne_eq, Bool.not_eq_eq_eq_not]); omega))
local macro_rules | `(tactic| walk_at "ite") => `(tactic| (k_here; k_openite; first
  | (refine ite_pos (by walk_at "my dec") ?_; walk_say "PRUNED by mine")
  | (refine ite_neg (by walk_at "my dec") ?_; walk_say "PRUNED by mine")))
theorem head_falls_magic (w : World) (arr : Array UInt8) (ks : List Int) (tb : Tok) (hk' : KBw.bInts arr = ks) (h1 : 54 ≤ ks.length) (h2 : ks.length ≤ 100) (h3 : (ks.getD 12 0 * 256 + ks.getD 13 0) * 65536 + (ks.getD 14 0 * 256 + ks.getD 15 0) ≠ 1594834165) : Raiz w 10 117 [.bytes arr tb] := by
  unfold Raiz
  k_fill
  intro mg mb mean dp un gd cn cs ad ccd outer A₀ base h₀ L m s Q E news B F X N T hk hdp hun hret
  refine wpAny_call ?_
  k_dflt cell_enter
  k_steps
  walk_at "my raised"
  exact hret _ _ _ _ _ _ (raised_sub (by assumption) (by kcf_all)) (by assumption) (by assumption)
theorem head_falls_few (w : World) (arr : Array UInt8) (ks : List Int) (tb : Tok) (hk' : KBw.bInts arr = ks) (h1 : 54 ≤ ks.length) (h2 : ks.length ≤ 100) (h3 : (ks.getD 12 0 * 256 + ks.getD 13 0) * 65536 + (ks.getD 14 0 * 256 + ks.getD 15 0) = 1594834165) (h4 : ks.getD 18 0 * 256 + ks.getD 19 0 < 16) : Raiz w 10 117 [.bytes arr tb] := by
  unfold Raiz
  k_fill
  intro mg mb mean dp un gd cn cs ad ccd outer A₀ base h₀ L m s Q E news B F X N T hk hdp hun hret
  refine wpAny_call ?_
  k_dflt cell_enter
  k_steps
  walk_at "my raised"
  exact hret _ _ _ _ _ _ (raised_sub (by assumption) (by kcf_all)) (by assumption) (by assumption)
theorem head_falls_many (w : World) (arr : Array UInt8) (ks : List Int) (tb : Tok) (hk' : KBw.bInts arr = ks) (h1 : 54 ≤ ks.length) (h2 : ks.length ≤ 100) (h3 : (ks.getD 12 0 * 256 + ks.getD 13 0) * 65536 + (ks.getD 14 0 * 256 + ks.getD 15 0) = 1594834165) (h4 : 16384 < ks.getD 18 0 * 256 + ks.getD 19 0) : Raiz w 10 117 [.bytes arr tb] := by
  unfold Raiz
  k_fill
  intro mg mb mean dp un gd cn cs ad ccd outer A₀ base h₀ L m s Q E news B F X N T hk hdp hun hret
  refine wpAny_call ?_
  k_dflt cell_enter
  k_steps
  walk_at "my raised"
  exact hret _ _ _ _ _ _ (raised_sub (by assumption) (by kcf_all)) (by assumption) (by assumption)
theorem head_falls_form (w : World) (arr : Array UInt8) (ks : List Int) (tb : Tok) (hk' : KBw.bInts arr = ks) (h1 : 54 ≤ ks.length) (h2 : ks.length ≤ 100) (h3 : (ks.getD 12 0 * 256 + ks.getD 13 0) * 65536 + (ks.getD 14 0 * 256 + ks.getD 15 0) = 1594834165) (h4 : 16 ≤ ks.getD 18 0 * 256 + ks.getD 19 0) (h5 : ks.getD 18 0 * 256 + ks.getD 19 0 ≤ 16384) (h6 : 1 < ks.getD 50 0 * 256 + ks.getD 51 0) : Raiz w 10 117 [.bytes arr tb] := by
  unfold Raiz
  k_fill
  intro mg mb mean dp un gd cn cs ad ccd outer A₀ base h₀ L m s Q E news B F X N T hk hdp hun hret
  refine wpAny_call ?_
  k_dflt cell_enter
  k_steps
  walk_at "my raised"
  exact hret _ _ _ _ _ _ (raised_sub (by assumption) (by kcf_all)) (by assumption) (by assumption)
end
end Mine
end
section
open PySem PySem.W PyProof.Rows PySem.Spec PySem.Calls
set_option Elab.async false
set_option maxRecDepth 100000
set_option maxHeartbeats 8000000
namespace Mine
/-- octets that a loop over a made list of ints grows at each turn -/
def CatTo (h₀ : Heap) (L : Addr) (m₀ : Str → Option Value) (x y : Str) (l : Addr) (lo : Obj) (rest : List (Addr × Obj)) (a : List Int) (s₁ : Shared) (f : Flow) (s₂ : Shared) : Prop :=
  f = .next ∧ ∃ (h' : Heap) (tk : Nat) (m' : Str → Option Value) (b : Array UInt8) (t : Tok), s₂ = { s₁ with heap := h', toks := tk } ∧ Fr h₀ L h' m' ∧ News h₀ L h' ((l, lo) :: rest) ∧ KBw.bInts b = a ∧ m' y = some (.bytes b t) ∧ (∀ u, u ≠ x → u ≠ y → m' u = m₀ u)
section
variable {prog : Program} {w : World} {A : Around} {E : Value → Shared → Prop} {s : Shared} {env : Env} {h₀ : Heap} {x y : Str} {body : List Stmt} {Q : Flow → Shared → Prop}
theorem cat_loop {l : Addr} {vs : List Value} {ns : List Int} {nl : Nat} {m₀ : Str → Option Value} {rest : List (Addr × Obj)} (g : Int → List Int) {acc : List Int} {b₀ : Array UInt8} {t₀ : Tok} (hB : (acc ++ ns.flatMap g).length ≤ 1000)
    (hh : A.handled = none) (hxy : x ≠ y) (F : Fr h₀ env.locals s.heap m₀) (N : News h₀ env.locals s.heap ((l, listOf vs.toArray nl) :: rest)) (hi : IntsAre vs ns) (hb : KBw.bInts b₀ = acc) (hy : m₀ y = some (.bytes b₀ t₀)) 
    (turn : ∀ n t a b tb h tk rest', n ∈ ns → KBw.bInts b = a → a.length ≤ 1000 → Fr h₀ env.locals h (fun q => if q = x then some (.int n t) else if q = y then some (.bytes b tb) else m₀ q) → News h₀ env.locals h ((l, listOf vs.toArray nl) :: rest') →
      wpAny (model prog w) A (execs body env) (CatTo h₀ env.locals m₀ x y l (listOf vs.toArray nl) rest' (a ++ g n) { s with heap := h, toks := tk }) E { s with heap := h, toks := tk })
    (done : ∀ (u : Str → Option Value) b tb h tk, KBw.bInts b = acc ++ ns.flatMap g → Fr h₀ env.locals h (fun q => if q = x then u x else if q = y then some (.bytes b tb) else m₀ q) → News h₀ env.locals h ((l, listOf vs.toArray nl) :: rest) → Q .next { s with heap := h, toks := tk }) :
    wpAny (model prog w) A (pyIter (.ref l)) (fun it s₂ => LoopAtV prog w A h₀ env x body Q E it s₂) E s := by
  have Nl := N (l, listOf vs.toArray nl) (.head _)
  have hls : s.heap.IsList l vs.toArray := ⟨_, Nl.1, rfl, nl, rfl⟩
  have hlt : l < s.heap.objs.size := Heap.lt_size Nl.1
  have hne : l ≠ s.heap.objs.size := Nat.ne_of_lt hlt
  refine wpAny_pyIter_list hls ?_
  have W := Walks.list (prog := prog) (w := w) hh s.heap.objs.size l hne vs.toArray
  rw [show vs.toArray.size = ns.length by simp [hi.length]] at W
  let J : Nat → (Str → Option Value) → List (Addr × Obj) → Prop := fun i m₁ news₁ => ∃ (b : Array UInt8) (t : Tok), news₁ = (l, listOf vs.toArray nl) :: rest ∧ KBw.bInts b = acc ++ (ns.take i).flatMap g ∧ m₁ y = some (.bytes b t) ∧ (∀ u, u ≠ x → u ≠ y → m₁ u = m₀ u)
  refine ⟨_, _, _, ns.length, _, _, m₀, _, J, rfl, W, ?_, ?_, ?_, ⟨⟨_, Heap.get?_push_size _ rfl, rfl, rfl⟩, hls.at fun o e => Heap.get?_push_of_some _ e⟩, F.push _, (fun p hp => ⟨Heap.get?_push_of_some _ (N p hp).1, (N p hp).2⟩), ⟨b₀, t₀, rfl, by simpa using hb, hy, fun _ _ _ => rfl⟩, ?_, ?_⟩
  · intro hm
    rcases List.mem_cons.mp hm with e | hm
    · exact absurd F.ns.lt (e ▸ Nat.lt_irrefl _)
    · exact Nl.2.1 (List.mem_singleton.mp hm).symm
  · intro b hb
    rw [List.mem_singleton.mp hb]
    exact next_is_new F
  · intro p hp hI
    exact absurd (Heap.lt_size (N p hp).1) ((List.mem_singleton.mp hI) ▸ Nat.lt_irrefl _)
  · rintro i v m₁ news₁ s₁ own ⟨hh', tk', rfl⟩ hin hP ⟨b₁, t₁, rfl, hb₁, hm₁, hm⟩ hoff hown hownat hall hst F₁ N₁
    have hin' : i < ns.length := hin
    obtain ⟨t, hx⟩ := hi.get i ns[i] (by simp [hin'])
    have hv : v = .int ns[i] t := by
      have hP' : vs[i]? = some v := by simpa using hP
      rw [hx] at hP'; exact (Option.some.inj hP').symm
    subst hv
    have N₂ : News h₀ env.locals hh' ((l, listOf vs.toArray nl) :: (rest ++ own)) := fun p hp => N₁ p (by
      rcases List.mem_cons.mp hp with e | hp
      · exact List.mem_append_right _ (e ▸ .head _)
      · rcases List.mem_append.mp hp with hp | hp
        · exact List.mem_append_right _ (.tail _ hp)
        · exact List.mem_append_left _ hp)
    have hfm : acc ++ (ns.take (i + 1)).flatMap g = (acc ++ (ns.take i).flatMap g) ++ g ns[i] := by
      have htake : ns.take (i + 1) = ns.take i ++ [ns[i]] := by rw [List.take_add_one]; simp [hin']
      rw [htake, List.flatMap_append]; simp
    have hle : (acc ++ (ns.take i).flatMap g).length ≤ (acc ++ ns.flatMap g).length := by
      have h1 : ns.flatMap g = (ns.take i).flatMap g ++ (ns.drop i).flatMap g := by rw [← List.flatMap_append, List.take_append_drop]
      rw [h1, ← List.append_assoc, List.length_append (bs := (ns.drop i).flatMap g)]; exact Nat.le_add_right _ _
    have e : (fun q => if q = x then some (Value.int ns[i] t) else m₁ q) = fun q => if q = x then some (Value.int ns[i] t) else if q = y then some (Value.bytes b₁ t₁) else m₀ q := by
      funext q
      by_cases h1 : q = x
      · simp [h1]
      · by_cases h2 : q = y
        · subst h2; simp [h1, hm₁]
        · simp only [if_neg h1, if_neg h2]; exact hm q h1 h2
    rw [e] at F₁
    refine wpAny_mono (turn ns[i] t _ b₁ t₁ hh' tk' (rest ++ own) (List.getElem_mem hin') hb₁ (Nat.le_trans hle hB) F₁ N₂) (fun f s₂ p => ?_) fun _ _ e => e
    obtain ⟨rfl, h', tk, m', b', t', e, F', N', hb', hy', hm'⟩ := p
    refine .next ⟨rfl, h', tk, m', _, e, F', fun p hp => N' p ?_, fun p hp => ?_, b', t', rfl, by rw [hfm]; exact hb', hy', hm'⟩
    · rcases List.mem_append.mp hp with hp | hp
      · exact .tail _ (List.mem_append_right _ hp)
      · rcases List.mem_cons.mp hp with e | hp
        · exact e ▸ .head _
        · exact .tail _ (List.mem_append_left _ hp)
    · intro hq
      exact absurd (Heap.lt_size (N p hp).1) ((List.mem_singleton.mp hq) ▸ Nat.lt_irrefl _)
  · rintro h' tk m' news' F' N' _ ⟨b₁, t₁, rfl, hb₁, hm₁, hm⟩
    rw [List.take_length] at hb₁
    refine done m' b₁ t₁ h' tk hb₁ ?_ N'
    have e : (fun q => if q = x then m' x else if q = y then some (Value.bytes b₁ t₁) else m₀ q) = m' := by
      funext q
      by_cases h1 : q = x
      · simp [h1]
      · by_cases h2 : q = y
        · subst h2; simp [h1, hm₁]
        · simp only [if_neg h1, if_neg h2]; exact (hm q h1 h2).symm
    rw [e]; exact F'
end
end Mine
end
section
open PySem PySem.W PyProof.Rows
theorem Mine.anew14 {p : Program} {w : World} {A : Around} {env : Env} {Q : Flow → Shared → Prop} {E : Value → Shared → Prop} {s : Shared} (h : Q .next s) : wpAny (model p w) A (execs [] env) Q E s := by
  walk1
  assumption
end
section
open PySem PySem.W PyProof.Rows
set_option Elab.async false
set_option maxRecDepth 100000
set_option maxHeartbeats 8000000
namespace Mine
section
local macro_rules | `(tactic| walk_at "my arith") => `(tactic| k_extra "my arith")
local macro_rules | `(tactic| walk_at "my ctx") => `(tactic| k_extra "my ctx")
local macro_rules | `(tactic| walk_at "my len") => `(tactic| k_extra "my len")
local macro_rules | `(tactic| k_all) => `(tactic| first | assumption | (refine allLt_ne ?_; first | assumption | (simp only [*]; done)))
local macro_rules | `(tactic| walk_at "my pick") => `(tactic| first | exact Pick.head | (refine' Pick.tail ?pk; (case pk => walk_at "my pick")))
local macro_rules | `(tactic| walk_at "my ints") => `(tactic| first | assumption | exact IntsAre.nil | (refine' IntsAre.cons _ _ ?ic; (case ic => walk_at "my ints")))
local macro_rules | `(tactic| k_room) => `(tactic| ktr_room)
theorem lines_P0 : True := by
  k_with_none
  k_with "my room" => first | omega | ktr_room
  k_with "my arith" => first | assumption | omega | l_fact
  k_with "my ctx" => ((case B => k_asm); (case F => k_asm); (case X => k_asm); (case T => k_asm); (case N => k_asm); (case hk => first | exact rfl | assumption); (case hd => walk_at "my room"); (case hu => ktr_units))
  k_with "my len" => first | omega | (simp only [List.length_append, List.length_cons, List.length_nil] at *; omega) | l_fact
  trivial
theorem big_ok (x : Int) : 0 ≤ (if -1 - x > x then -1 - x else x) := by split <;> omega
theorem bit_ok (c : Prop) [Decidable c] : (0 : Int) ≤ (if c then 1 else 0) := by split <;> decide
/-- the pool that a script gives -/
theorem pool_ok (w : World) (sl : Addr) (vs : List Value) (ns : List Int) (rest : List (Addr × Obj)) (hI : IntsAre vs ns) (hlen : ns.length ≤ 63) :
    SpecL w 4 187 sl vs.toArray [.ref sl] rest (fun K => ∀ (d : Addr) (a b : Int) (ta tb : Tok) (n : Nat), 0 ≤ a → 0 ≤ b → b < 2147483647 → AllLt d rest → K (.ref d) ((d, listOf #[.int a ta, .int b tb] n) :: rest)) := by
  unfold SpecL
  k_fill
  intro mg mb mean dp un gd cn cs ad ccd cl outer A₀ base h₀ L m s Q E B F X N hL T hk hdp hun hret
  have hdp1 : dp + 1 + 3 < recursionLimit := hdp
  refine wpAny_call ?_
  k_dflt (refine' code_def ?k1 ?k2 ?k3 ?k4 ?k5 ?kA ?kF ?kK ?k6 ?k7 ?k8 ?k9 ?kB ?_ ?c2 ?c3 ?c4 ?c5; (case kA => exact rfl); (case kF => exact rfl); (case kK => assumption); (case k1 => k_asm); (case k2 => k_asm); (case k3 => k_asm); (case k4 => k_asm); (case k5 => k_asm); (case k6 => k_is); (case k7 => k_is); (case k8 => exact Nat.lt_of_le_of_lt (Nat.le_add_right _ _) hdp); (case k9 => exact BindsTo.of_eq rfl); (case c5 => decide); (case kB => exact locs rfl); (case c2 => exact rfl); (case c3 => exact rfl); (case c4 => exact rfl); k_whole; intro g' L' h' FG' F' N' B' X' T'; (try dsimp only); (try k_lift B'); (try k_fold))
  k_steps
  all_goals
    refine' hret _ _ _ _ _ _ ?o1 ?o2 ?o3 ?o4 _ _ ?kF ?kN
    (case kF => assumption)
    (case kN => assumption)
    (case o1 => exact Int.mul_nonneg (big_ok _) (bit_ok _))
    (case o2 => exact fmod_lo _ (by decide))
    (case o3 => exact fmod_hi _ (by decide))
    (case o4 => exact allLt_of (by assumption))
end
end Mine
end
section
open PySem PySem.W PyProof.Rows
namespace Mine
local macro_rules | `(tactic| walk_at "ite") => `(tactic| k_extra "ite")
local macro_rules | `(tactic| walk_at "compareOp NotEq bytes bytes") => `(tactic| k_extra "compareOp NotEq bytes bytes")
local macro_rules | `(tactic| walk_at "call type:bytes") => `(tactic| k_extra "call type:bytes")
local macro_rules | `(tactic| walk_at "subscriptTail Name Constant ref int") => `(tactic| k_extra "subscriptTail Name Constant ref int")
local macro_rules | `(tactic| walk_at "binaryOp Add bytes bytes") => `(tactic| k_extra "binaryOp Add bytes bytes")
local macro_rules | `(tactic| walk_at "call builtin:len") => `(tactic| k_extra "call builtin:len")
local macro_rules | `(tactic| walk_at "subscriptTail") => `(tactic| k_extra "subscriptTail")
local macro_rules | `(tactic| walk_at "call type:tuple") => `(tactic| k_extra "call type:tuple")
local macro_rules | `(tactic| walk_at "callWith ref") => `(tactic| k_extra "callWith ref")
local macro_rules | `(tactic| walk_at "call ref") => `(tactic| k_extra "call ref")
local macro_rules | `(tactic| ktr_call $x $c) => `(tactic| (k_here; k_dflt (
  refine' SpecC.to ($c ?sd) ?B ?F ?X ?N ?T ?hk ?hd ?hu ?_
  (case B => k_asm); (case F => k_asm); (case X => with_reducible assumption); (case T => k_asm); (case N => k_asm); (case hk => exact rfl); (case hd => walk_at "zroom"); (case hu => walk_at "zunits")
  (case sd => walk_at "side")
  k_whole)))
local macro_rules | `(tactic| k_all) => `(tactic| first | with_reducible assumption | exact List.forall_mem_nil _ | exact lt_ne (by with_reducible assumption) | (refine allLt_ne ?_; first | with_reducible assumption | (simp only [*]; done)) | (refine List.forall_mem_cons.mpr (and2 ?_ ?_) <;> first | k_ne | k_all))
local macro_rules | `(tactic| k_room) => `(tactic| first | exact room_0 (by assumption) | ktr_room)
local macro_rules | `(tactic| k_lt $h:ident) => `(tactic| (have lAll' := $h; replace $h := allLt_of $h; dsimp only [AllLt] at $h:ident))
theorem anew15 {p : Program} {w : World} {A : Around} {env : Env} {Q : Flow → Shared → Prop} {E : Value → Shared → Prop} {s : Shared} (h : Q .next s) : wpAny (model p w) A (execs [] env) Q E s := by
  walk1
  assumption
section
open PySem PySem.W PyProof.Rows
set_option Elab.async false
set_option maxRecDepth 100000
set_option maxHeartbeats 8000000
section
local macro_rules | `(tactic| walk_at "exec For Name Attribute cons nil") => `(tactic| k_extra "exec For Name Attribute cons nil")
local macro_rules | `(tactic| walk_at "pyIter ref") => `(tactic| (k_here; (with_reducible show wpAny _ _ (pyIter (Value.ref _)) (fun it s₂ => TurnsAt _ _ _ _ _ _ _ _ _ it s₂) _ _); (rename Fr _ _ _ _ => lF'); k_dflt (refine' iter_tupTurns (vs := [_, _, _, _]) ?hh lF' ?N ?m ?c ?d ?_; (case hh => rfl); (case N => k_asm); (case m => k_mem); (case c => exact rfl); (case d => exact rfl)); clear lF'; intro i' l1; (have keep' := l1); (try k_lt l1)))
local macro_rules | `(tactic| walk_at "UnrEndW") => `(tactic| (k_here; k_dflt (refine' ⟨_, _, _, _, rfl, ?F, ?N, ?ap, ?_⟩; (case F => assumption); (case N => assumption); (case ap => (rename (∀ p : Addr × Obj, _ → p.1 < _) => l2'; intro p hp q hq; rw [List.mem_singleton.mp hq]; exact Nat.ne_of_lt (l2' p hp))); refine ⟨by k_subL, ?_⟩)))
theorem lines_H3 : True := by
  k_with_none
  k_with "pick" => first | exact Pick.head | exact Pick.tail (by walk_at "pick")
  k_with "ints" => first | assumption | exact IntsAre.nil | exact IntsAre.cons _ _ (by walk_at "ints")
  k_with "range" => first | assumption | exact List.forall_mem_nil _ | decide | (refine List.forall_mem_cons.mpr (and2 ?_ ?_) <;> walk_at "range") | (refine and2 ?_ ?_ <;> walk_at "range") | omega
  k_with "restin" => first | exact fun _ h => h | (refine sub_tail ?_; walk_at "restin")
  k_with "side" => ((repeat' refine and2 ?_ ?_) <;> walk_at "side1")
  k_with "side1" => first | with_reducible assumption | ((with_reducible show Pick _ _ _ _); walk_at "pick") | ((with_reducible show IntsAre _ _); walk_at "ints") | ((with_reducible show ∀ p ∈ _, Prod.fst p ≠ _); k_all) | ((with_reducible show ∀ x ∈ _, _ ≤ x ∧ x ≤ _); walk_at "range") | ((with_reducible show ∀ p ∈ _, p ∈ _); first | walk_at "restin" | exact Pick.sub (by walk_at "pick")) | ((with_reducible show @LE.le Nat _ _ _); first | exact Nat.le_of_ble_eq_true rfl | omega) | ((with_reducible show KBw.bInts _ = _); assumption) | ((with_reducible show _ ≠ _); k_ne) | exact True.intro | assumption | decide | omega
  k_with "zroom" => (first | exact room_d (by assumption) (by decide) | (trace "ROOM"; omega) | ktr_room)
  k_with "zunits" => (first | exact room_u (by assumption) (by decide) | (trace "UNITS"; ktr_units))
  k_with "zend" => ((try dsimp only); (try k_fold))
  k_with "my len" => first | exact Nat.le_of_ble_eq_true rfl | omega | (simp only [wordsOf_length, List.length_append, List.length_take, List.length_replicate, List.length_drop, List.length_cons, List.length_nil]; omega)
  k_with "my dec" => ((try simp only [decide_eq_true_eq, decide_eq_false_iff_not, Bool.and_eq_true, Bool.not_eq_true', Bool.not_eq_false', Bool.not_eq_true, bne_iff_ne, ne_eq, Bool.not_eq_eq_eq_not, not_true_eq_false, not_false_eq_true]); first | done | omega)
  k_with "ite" => (k_here; k_openite; first | (refine ite_pos (by walk_at "my dec") ?_) | (refine ite_neg (by walk_at "my dec") ?_))
  k_with "compareOp NotEq bytes bytes" => (k_here; refine ne_same (by assumption) (by assumption) (by first | rfl | assumption | (k_dflt exact rfl)) ?_)
  k_with "call type:bytes" => (k_here; (with_reducible show wpAny _ _ (call (Value.type _) [Value.int _ _]) _ _ _); refine bytes_int_ks (by first | decide | omega) (by first | decide | omega) rfl ?_; intro b' t' k' hb'; (try simp only [Int.reduceToNat, List.reduceReplicate] at hb'))
  k_with "subscriptTail Name Constant ref int" => (k_here; (with_reducible show wpAny _ _ (subscriptTail (Expr.Name _ _) (Expr.Constant _ _ _) (Value.ref _) (Value.int _ _)) _ _ _); k_dflt (refine lit_item_N (by k_asm) (by k_mem) rfl rfl (by decide) (by decide) rfl (by with_unfolding_all rfl) ?_; k_whole))
  k_with "binaryOp Add bytes bytes" => (k_here; (with_reducible show wpAny _ _ (binaryOp _ (Value.bytes _ _) (Value.bytes _ _)) _ _ _); refine KBa.add_K (by assumption) (by assumption) (by walk_at "my len") ?_; intro t' k' kbaApp)
  k_with "call builtin:len" => (k_here; (with_reducible show wpAny _ _ (call (Value.builtin _) [Value.bytes _ _]) _ _ _); refine len_at (by assumption) (by ((try simp only [wordsOf_length, List.length_append, List.length_take, List.length_replicate, List.length_drop, List.length_cons, List.length_nil]); exact rfl)) (by omega) ?_; intro u' k')
  k_with "subscriptTail" => (k_here; (with_reducible show wpAny _ _ (subscriptTail _ (Expr.Slice _ _ none _) (Value.bytes _ _) (Value.ref _)) _ _ _); (with_reducible rename Fr _ _ _ _ => F'); (with_reducible rename News _ _ _ _ => N'); (refine KBc.slice_K (s := ⟨_, _, _, _, _⟩) F' N' (by kba_ints) (by constructor) (by constructor) (by walk_at "my len") ?_); intro _ _ _ _ _ kbcK; (try simp only [Option.elim, KBc.clip_lit, clipAt_nat, List.drop_zero, Nat.sub_zero] at kbcK))
  k_with "call type:tuple" => (k_here; (with_reducible show wpAny _ _ (call (Value.type _) [Value.ref _]) _ _ _); k_dflt (refine tuple_same_N (by k_asm) (by k_mem) rfl rfl ?_; k_whole))
  k_with "callWith ref" => (k_here; (with_reducible show wpAny _ _ (callWith _ (Prod.fst _) (Prod.snd _) _ _) _ _ _); k_dflt (refine callWith_F (by with_reducible assumption) (by with_reducible assumption) (by k_is) ?_; k_whole))
  k_with "call ref" => ((with_reducible show wpAny _ _ (call (Value.ref 74) _) _ _ _); ktr_call 74 (put16_c _); (intro _ _ _ _ _ _ _); walk_at "zend")
  k_with "call ref" => ((with_reducible show wpAny _ _ (call (Value.ref 81) _) _ _ _); ktr_call 81 (put32_c _); (intro _ _ _ _ _ _ _); walk_at "zend")
  k_with "exec For Name Attribute cons nil" => (k_here; (rename Fr _ _ _ _ => lF'); (with_unfolding_all refine' For_turns lF' ?_; k_whole))
  trivial
theorem whead_ok (w : World) (x d bx : Addr) (units b0 b1 b2 b3 flags style : Int) (lg : Bool) (tu t0 t1 t2 t3 tf ts k1 k2 k3 k4 k5 : Tok) (nb : Nat) (rest : List (Addr × Obj)) (hu : 0 ≤ units ∧ units < 65536) (h0 : -65536 ≤ b0 ∧ b0 < 65536) (h1 : -65536 ≤ b1 ∧ b1 < 65536) (h2 : -65536 ≤ b2 ∧ b2 < 65536) (h3 : -65536 ≤ b3 ∧ b3 < 65536) (hf : 0 ≤ flags ∧ flags < 65536) (hs : 0 ≤ style ∧ style < 65536) :
    Spec w 8 124 [.ref x] ((x, instObj 106 d) :: (d, headDict w units tu bx lg flags tf style ts k1 k2 k3 k4 k5) :: (bx, tup4 b0 b1 b2 b3 t0 t1 t2 t3 nb) :: rest)
      (fun v news' => ∃ (o : Array UInt8) (t : Tok), v = .bytes o t ∧ news' = (x, instObj 106 d) :: (d, headDict w units tu bx lg flags tf style ts k1 k2 k3 k4 k5) :: (bx, tup4 b0 b1 b2 b3 t0 t1 t2 t3 nb) :: rest ∧ KBw.bInts o = wordsOf [1, 0, 1, 0, 0, 0, 24335, 15605, flags, units, 0, 0, 0, 0, 0, 0, 0, 0, b0, b1, b2, b3, style, 8, 2, (if lg then 1 else 0), 0]) := by
  unfold Spec tup4 headDict
  k_fill
  intro mg mb mean dp un gd cn cs ad ccd cl outer A₀ base h₀ L m s Q E B F X N T hk hdp hun hret
  have hdp1 := room_in hdp
  have hun1 := units_in hun
  refine wpAny_call ?_
  k_dflt (refine' code_def ?k1 ?k2 ?k3 ?k4 ?k5 ?kA ?kF ?kK ?k6 ?k7 ?k8 ?k9 ?kB ?_ ?c2 ?c3 ?c4 ?c5; (case kA => exact rfl); (case kF => exact rfl); (case kK => assumption); (case k1 => k_asm); (case k2 => k_asm); (case k3 => k_asm); (case k4 => k_asm); (case k5 => k_asm); (case k6 => k_is); (case k7 => k_is); (case k8 => exact room_0 hdp); (case k9 => exact BindsTo.of_eq rfl); (case c5 => decide); (case kB => exact locs rfl); (case c2 => exact rfl); (case c3 => exact rfl); (case c4 => exact rfl); k_whole; intro g' L' h' FG' F' N' B' X' T'; (try dsimp only); (try k_lift B'); (try k_fold))
  k_steps
  all_goals
    refine hret _ _ _ _ ⟨_, _, rfl, rfl, ?_⟩ (by assumption) (ledger_sub (by assumption) (by kcf_all))
    refine Eq.trans (by assumption) ?_
    (try simp only [*, if_true, if_false, Bool.false_eq_true])
    simp (disch := omega) only [words_neg, List.cons_append, List.nil_append]
    rfl
end
end
theorem anew16 {p : Program} {w : World} {A : Around} {env : Env} {Q : Flow → Shared → Prop} {E : Value → Shared → Prop} {s : Shared} (h : Q .next s) : wpAny (model p w) A (execs [] env) Q E s := by
  walk1
  assumption
section
open PySem PySem.W PyProof.Rows
set_option Elab.async false
set_option maxRecDepth 100000
set_option maxHeartbeats 8000000
section
theorem lines_H4 : True := by
  k_with_none
  k_with "pick" => first | exact Pick.head | exact Pick.tail (by walk_at "pick")
  k_with "ints" => first | assumption | exact IntsAre.nil | exact IntsAre.cons _ _ (by walk_at "ints")
  k_with "range" => first | assumption | exact List.forall_mem_nil _ | decide | (refine List.forall_mem_cons.mpr (and2 ?_ ?_) <;> walk_at "range") | (refine and2 ?_ ?_ <;> walk_at "range") | omega
  k_with "restin" => first | exact fun _ h => h | (refine sub_tail ?_; walk_at "restin")
  k_with "side" => ((repeat' refine and2 ?_ ?_) <;> walk_at "side1")
  k_with "side1" => first | with_reducible assumption | ((with_reducible show Pick _ _ _ _); walk_at "pick") | ((with_reducible show IntsAre _ _); walk_at "ints") | ((with_reducible show ∀ p ∈ _, Prod.fst p ≠ _); k_all) | ((with_reducible show ∀ x ∈ _, _ ≤ x ∧ x ≤ _); walk_at "range") | ((with_reducible show ∀ p ∈ _, p ∈ _); first | walk_at "restin" | exact Pick.sub (by walk_at "pick")) | ((with_reducible show @LE.le Nat _ _ _); first | exact Nat.le_of_ble_eq_true rfl | omega) | ((with_reducible show KBw.bInts _ = _); assumption) | ((with_reducible show _ ≠ _); k_ne) | exact True.intro | assumption | decide | omega
  k_with "zroom" => (first | exact room_d (by assumption) (by decide) | (trace "ROOM"; omega) | ktr_room)
  k_with "zunits" => (first | exact room_u (by assumption) (by decide) | (trace "UNITS"; ktr_units))
  k_with "zend" => ((try dsimp only); (try k_fold))
  k_with "my len" => first | exact Nat.le_of_ble_eq_true rfl | omega | (simp only [wordsOf_length, List.length_append, List.length_take, List.length_replicate, List.length_drop, List.length_cons, List.length_nil]; omega)
  k_with "my dec" => ((try simp only [decide_eq_true_eq, decide_eq_false_iff_not, Bool.and_eq_true, Bool.not_eq_true', Bool.not_eq_false', Bool.not_eq_true, bne_iff_ne, ne_eq, Bool.not_eq_eq_eq_not, not_true_eq_false, not_false_eq_true]); first | done | omega)
  k_with "ite" => (k_here; k_openite; first | (refine ite_pos (by walk_at "my dec") ?_) | (refine ite_neg (by walk_at "my dec") ?_))
  k_with "compareOp NotEq bytes bytes" => (k_here; refine ne_same (by assumption) (by assumption) (by first | rfl | assumption | (k_dflt exact rfl)) ?_)
  k_with "call type:bytes" => (k_here; (with_reducible show wpAny _ _ (call (Value.type _) [Value.int _ _]) _ _ _); refine bytes_int_ks (by first | decide | omega) (by first | decide | omega) rfl ?_; intro b' t' k' hb'; (try simp only [Int.reduceToNat, List.reduceReplicate] at hb'))
  k_with "subscriptTail Name Constant ref int" => (k_here; (with_reducible show wpAny _ _ (subscriptTail (Expr.Name _ _) (Expr.Constant _ _ _) (Value.ref _) (Value.int _ _)) _ _ _); k_dflt (refine lit_item_N (by k_asm) (by k_mem) rfl rfl (by decide) (by decide) rfl (by with_unfolding_all rfl) ?_; k_whole))
  k_with "binaryOp Add bytes bytes" => (k_here; (with_reducible show wpAny _ _ (binaryOp _ (Value.bytes _ _) (Value.bytes _ _)) _ _ _); refine KBa.add_K (by assumption) (by assumption) (by walk_at "my len") ?_; intro t' k' kbaApp)
  k_with "call builtin:len" => (k_here; (with_reducible show wpAny _ _ (call (Value.builtin _) [Value.bytes _ _]) _ _ _); refine len_at (by assumption) (by ((try simp only [wordsOf_length, List.length_append, List.length_take, List.length_replicate, List.length_drop, List.length_cons, List.length_nil]); exact rfl)) (by omega) ?_; intro u' k')
  k_with "subscriptTail" => (k_here; (with_reducible show wpAny _ _ (subscriptTail _ (Expr.Slice _ _ none _) (Value.bytes _ _) (Value.ref _)) _ _ _); (with_reducible rename Fr _ _ _ _ => F'); (with_reducible rename News _ _ _ _ => N'); (refine KBc.slice_K (s := ⟨_, _, _, _, _⟩) F' N' (by kba_ints) (by constructor) (by constructor) (by walk_at "my len") ?_); intro _ _ _ _ _ kbcK; (try simp only [Option.elim, KBc.clip_lit, clipAt_nat, List.drop_zero, Nat.sub_zero] at kbcK))
  k_with "call type:tuple" => (k_here; (with_reducible show wpAny _ _ (call (Value.type _) [Value.ref _]) _ _ _); k_dflt (refine tuple_same_N (by k_asm) (by k_mem) rfl rfl ?_; k_whole))
  k_with "callWith ref" => (k_here; (with_reducible show wpAny _ _ (callWith _ (Prod.fst _) (Prod.snd _) _ _) _ _ _); k_dflt (refine callWith_F (by with_reducible assumption) (by with_reducible assumption) (by k_is) ?_; k_whole))
  k_with "call ref" => ((with_reducible show wpAny _ _ (call (Value.ref 53) _) _ _ _); ktr_call 53 (u16_c _); (intro _ _ _ _ _); walk_at "zend")
  k_with "call ref" => ((with_reducible show wpAny _ _ (call (Value.ref 60) _) _ _ _); ktr_call 60 (s16_c _); (intro _ _ _ _ _); walk_at "zend")
  k_with "call ref" => ((with_reducible show wpAny _ _ (call (Value.ref 67) _) _ _ _); ktr_call 67 (u32_c _); (intro _ _ _ _ _); walk_at "zend")
  trivial
theorem rhead_ok (w : World) (arr : Array UInt8) (ks : List Int) (tb : Tok) (units b0 b1 b2 b3 flags style form : Int) (rest : List (Addr × Obj)) (hk' : KBw.bInts arr = ks) (hl : 54 ≤ ks.length) (hl2 : ks.length ≤ 100)
    (hm1 : ks.getD 12 0 * 256 + ks.getD 13 0 = 24335) (hm2 : ks.getD 14 0 * 256 + ks.getD 15 0 = 15605) (hf : ks.getD 16 0 * 256 + ks.getD 17 0 = flags) (hu : ks.getD 18 0 * 256 + ks.getD 19 0 = units) (hu1 : 16 ≤ units) (hu2 : units ≤ 16384)
    (h0 : ks.getD 36 0 * 256 + ks.getD 37 0 = lowOf b0) (h1 : ks.getD 38 0 * 256 + ks.getD 39 0 = lowOf b1) (h2 : ks.getD 40 0 * 256 + ks.getD 41 0 = lowOf b2) (h3 : ks.getD 42 0 * 256 + ks.getD 43 0 = lowOf b3) (hs : ks.getD 44 0 * 256 + ks.getD 45 0 = style)
    (r0 : -32768 ≤ b0) (r0' : b0 ≤ 32767) (r1 : -32768 ≤ b1) (r1' : b1 ≤ 32767) (r2 : -32768 ≤ b2) (r2' : b2 ≤ 32767) (r3 : -32768 ≤ b3) (r3' : b3 ≤ 32767)
    (hg : ks.getD 50 0 * 256 + ks.getD 51 0 = form) (hg0 : 0 ≤ form) (hg1 : form ≤ 1) :
    Spec w 10 117 [.bytes arr tb] rest (fun v news' => ∃ (x d bx : Addr) (tu t0 t1 t2 t3 tf ts k1 k2 k3 k4 k5 : Tok) (nb : Nat), v = .ref x ∧ news' = (x, instObj 106 d) :: (d, headDict w units tu bx (form == 1) flags tf style ts k1 k2 k3 k4 k5) :: (bx, tup4 b0 b1 b2 b3 t0 t1 t2 t3 nb) :: rest ∧ @LT.lt Nat _ d x ∧ @LT.lt Nat _ bx d ∧ AllLt bx rest) := by
  unfold Spec
  k_fill
  intro mg mb mean dp un gd cn cs ad ccd cl outer A₀ base h₀ L m s Q E B F X N T hk hdp hun hret
  have hdp1 := room_in hdp
  have hun1 := units_in hun
  refine wpAny_call ?_
  k_dflt (refine' code_def ?k1 ?k2 ?k3 ?k4 ?k5 ?kA ?kF ?kK ?k6 ?k7 ?k8 ?k9 ?kB ?_ ?c2 ?c3 ?c4 ?c5; (case kA => exact rfl); (case kF => exact rfl); (case kK => assumption); (case k1 => k_asm); (case k2 => k_asm); (case k3 => k_asm); (case k4 => k_asm); (case k5 => k_asm); (case k6 => k_is); (case k7 => k_is); (case k8 => exact room_0 hdp); (case k9 => exact BindsTo.of_eq rfl); (case c5 => decide); (case kB => exact locs rfl); (case c2 => exact rfl); (case c3 => exact rfl); (case c4 => exact rfl); k_whole; intro g' L' h' FG' F' N' B' X' T'; (try dsimp only); (try k_lift B'); (try k_fold))
  k_steps
  refine' hret _ _ _ _ ⟨_, _, _, _, _, _, _, _, _, _, _, _, _, _, _, _, rfl, rfl, ?o1, ?o2, ?o3⟩ ?kF ?kN
  (case kF => assumption)
  (case kN => assumption)
  (case o1 => omega)
  (case o2 => omega)
  (case o3 => exact allLt_of (by assumption))
end
end
section
open PySem PySem.W PyProof.Rows
set_option Elab.async false
set_option maxRecDepth 100000
/-- a head's words -/
noncomputable abbrev headWords (flags units b0 b1 b2 b3 style : Int) (lg : Bool) : List Int :=
  wordsOf [1, 0, 1, 0, 0, 0, 24335, 15605, flags, units, 0, 0, 0, 0, 0, 0, 0, 0, b0, b1, b2, b3, style, 8, 2, (if lg then 1 else 0), 0]
theorem rhead_at (w : World) (arr : Array UInt8) (tb : Tok) (units b0 b1 b2 b3 flags style : Int) (lg : Bool) (k : Nat) (rest : List (Addr × Obj)) (hk' : KBw.bInts arr = headWords flags units b0 b1 b2 b3 style lg ++ List.replicate k 0) (hk : k ≤ 10)
    (hu1 : 16 ≤ units) (hu2 : units ≤ 16384) (hf : 0 ≤ flags) (hs : 0 ≤ style)
    (r0 : -32768 ≤ b0 ∧ b0 ≤ 32767) (r1 : -32768 ≤ b1 ∧ b1 ≤ 32767) (r2 : -32768 ≤ b2 ∧ b2 ≤ 32767) (r3 : -32768 ≤ b3 ∧ b3 ≤ 32767) :
    Spec w 10 117 [.bytes arr tb] rest (fun v news' => ∃ (x d bx : Addr) (tu t0 t1 t2 t3 tf ts k1 k2 k3 k4 k5 : Tok) (nb : Nat), v = .ref x ∧ news' = (x, instObj 106 d) :: (d, headDict w units tu bx lg flags tf style ts k1 k2 k3 k4 k5) :: (bx, tup4 b0 b1 b2 b3 t0 t1 t2 t3 nb) :: rest ∧ @LT.lt Nat _ d x ∧ @LT.lt Nat _ bx d ∧ AllLt bx rest) := by
  have hlen : (headWords flags units b0 b1 b2 b3 style lg ++ List.replicate k 0).length = 54 + k := by
    rw [List.length_append, List.length_replicate, wordsOf_length]; rfl
  have e : ((if lg then 1 else 0 : Int) == 1) = lg := by cases lg <;> rfl
  have e0 : (0 : Int) ≤ (if lg then 1 else 0) ∧ (if lg then 1 else 0 : Int) ≤ 1 := by cases lg <;> decide
  have R := rhead_ok w arr _ tb units b0 b1 b2 b3 flags style (if lg then 1 else 0) rest hk' (by omega) (by omega) rfl rfl (word_at rfl rfl hf) (word_at rfl rfl (by omega)) hu1 hu2 (word_eq rfl rfl) (word_eq rfl rfl) (word_eq rfl rfl) (word_eq rfl rfl) (word_at rfl rfl hs) r0.1 r0.2 r1.1 r1.2 r2.1 r2.2 r3.1 r3.2 (word_at rfl rfl e0.1) e0.1 e0.2
  rw [e] at R
  exact R
section
variable (w : World) (arr : Array UInt8) (tb : Tok) {units b0 b1 b2 b3 flags style : Int} {lg : Bool}
theorem fall_few (h : KBw.bInts arr = List.take (Int.toNat 18) (headWords flags units b0 b1 b2 b3 style lg) ++ wordsOf [15] ++ List.drop (Int.toNat 18 + 2 * [(15 : Int)].length) (headWords flags units b0 b1 b2 b3 style lg)) : Raiz w 10 117 [.bytes arr tb] :=
  head_falls_few w arr _ tb h (by exact Nat.le_of_ble_eq_true rfl) (by exact Nat.le_of_ble_eq_true rfl) rfl (by show (15 : Int) < 16; decide)
theorem fall_many (h : KBw.bInts arr = List.take (Int.toNat 18) (headWords flags units b0 b1 b2 b3 style lg) ++ wordsOf [16385] ++ List.drop (Int.toNat 18 + 2 * [(16385 : Int)].length) (headWords flags units b0 b1 b2 b3 style lg)) : Raiz w 10 117 [.bytes arr tb] :=
  head_falls_many w arr _ tb h (by exact Nat.le_of_ble_eq_true rfl) (by exact Nat.le_of_ble_eq_true rfl) rfl (by show (16384 : Int) < 16385; decide)
theorem fall_form (h : KBw.bInts arr = List.take (Int.toNat 50) (headWords flags units b0 b1 b2 b3 style lg) ++ wordsOf [2] ++ List.drop (Int.toNat 50 + 2 * [(2 : Int)].length) (headWords flags units b0 b1 b2 b3 style lg)) (hu1 : 16 ≤ units) (hu2 : units ≤ 16384) : Raiz w 10 117 [.bytes arr tb] := by
  have e : (List.take (Int.toNat 50) (headWords flags units b0 b1 b2 b3 style lg) ++ wordsOf [2] ++ List.drop (Int.toNat 50 + 2 * [(2 : Int)].length) (headWords flags units b0 b1 b2 b3 style lg)).getD 18 0 * 256 + (List.take (Int.toNat 50) (headWords flags units b0 b1 b2 b3 style lg) ++ wordsOf [2] ++ List.drop (Int.toNat 50 + 2 * [(2 : Int)].length) (headWords flags units b0 b1 b2 b3 style lg)).getD 19 0 = units := word_at rfl rfl (by omega)
  exact head_falls_form w arr _ tb h (by exact Nat.le_of_ble_eq_true rfl) (by exact Nat.le_of_ble_eq_true rfl) rfl (by rw [e]; exact hu1) (by rw [e]; exact hu2) (by show (1 : Int) < 2; decide)
theorem fall_short (h : KBw.bInts arr = List.take (clipAt (headWords flags units b0 b1 b2 b3 style lg).length 53) (headWords flags units b0 b1 b2 b3 style lg)) : Raiz w 10 117 [.bytes arr tb] :=
  Raiz.mono (head_falls_short w arr _ tb h (take_lt (by decide) (by decide))) (by decide)
theorem fall_magic {r : Int} (h : KBw.bInts arr = List.take (Int.toNat (12 + 2 * r)) (headWords flags units b0 b1 b2 b3 style lg) ++ wordsOf [7] ++ List.drop (Int.toNat (12 + 2 * r) + 2 * [(7 : Int)].length) (headWords flags units b0 b1 b2 b3 style lg)) (hr0 : 0 ≤ r) (hr1 : r < 2) : Raiz w 10 117 [.bytes arr tb] := by
  obtain rfl | rfl : r = 0 ∨ r = 1 := by omega
  · exact head_falls_magic w arr _ tb h (by exact Nat.le_of_ble_eq_true rfl) (by exact Nat.le_of_ble_eq_true rfl) (by show ((7 : Int) * 65536 + 15605) ≠ 1594834165; decide)
  · exact head_falls_magic w arr _ tb h (by exact Nat.le_of_ble_eq_true rfl) (by exact Nat.le_of_ble_eq_true rfl) (by show ((24335 : Int) * 65536 + 7) ≠ 1594834165; decide)
end
end
section
open PySem PySem.W PyProof.Rows
set_option Elab.async false
abbrev srcObj2 (a b : Int) (ta tb : Tok) (n : Nat) : Obj := listOf #[.int a ta, .int b tb] n
theorem take_c (w : World) {src : Addr} {a b top : Int} {ta tb tt : Tok} {n : Nat} {led rest : List (Addr × Obj)} (sd : Pick src (listOf #[.int a ta, .int b tb] n) led rest ∧ (∀ p ∈ rest, p.1 ≠ src) ∧ 0 ≤ a ∧ 0 ≤ b ∧ b < 2147483647 ∧ 1 ≤ top ∧ top ≤ 65536) :
    SpecC w 2 194 [.ref src, .int top tt] led (fun K => ∀ (r a' b' : Int) (t ta' tb' : Tok) (n' : Nat), 0 ≤ r → r < top → 0 ≤ a' → 0 ≤ b' → b' < 2147483647 → K (.int r t) ((src, listOf #[.int a' ta', .int b' tb'] n') :: rest)) := by
  obtain ⟨P, hne, ha, hb, hb2, ht1, ht2⟩ := sd
  refine (take_ok w src a b top ta tb tt n rest hne ha hb hb2 ht1 ht2).c P.sub fun K h v news' hP => ?_
  obtain ⟨r, a', b', t, ta', tb', n', rfl, rfl, h1, h2, h3, h4, h5⟩ := hP
  exact ⟨_, h r a' b' t ta' tb' n' h1 h2 h3 h4 h5, fun p hp => hp⟩
theorem one_c (w : World) (lo hi : Int) {src l : Addr} {a b : Int} {ta tb : Tok} {n nl : Nat} {vs : List Value} {ns : List Int} {led r1 rest : List (Addr × Obj)} (sd : Pick src (listOf #[.int a ta, .int b tb] n) led r1 ∧ Pick l (listOf vs.toArray nl) r1 rest ∧ IntsAre vs ns ∧ 1 ≤ ns.length ∧ ns.length ≤ 64 ∧ (∀ x ∈ ns, lo ≤ x ∧ x ≤ hi) ∧ l ≠ src ∧ (∀ p ∈ rest, p.1 ≠ src) ∧ 0 ≤ a ∧ 0 ≤ b ∧ b < 2147483647) :
    SpecC w 4 201 [.ref src, .ref l] led (fun K => ∀ (r a' b' : Int) (t ta' tb' : Tok) (n' : Nat), lo ≤ r → r ≤ hi → 0 ≤ a' → 0 ≤ b' → b' < 2147483647 → K (.int r t) ((src, listOf #[.int a' ta', .int b' tb'] n') :: rest)) := by
  obtain ⟨P, P2, hI, hlen, hlen2, hr, hl, hne, ha, hb, hb2⟩ := sd
  refine (one_ok w src l a b ta tb n nl vs ns rest hI hlen hlen2 hl hne ha hb hb2).c (P.sub2 P2) fun K h v news' hP => ?_
  obtain ⟨r, a', b', t, ta', tb', n', rfl, rfl, h1, h3, h4, h5⟩ := hP
  refine ⟨_, h r a' b' t ta' tb' n' (hr r h1).1 (hr r h1).2 h3 h4 h5, sub_cons (.head _) fun p hp => .tail _ (.tail _ hp)⟩
theorem signed_c (w : World) {src : Addr} {a b : Int} {ta tb : Tok} {n : Nat} {led rest : List (Addr × Obj)} (sd : Pick src (listOf #[.int a ta, .int b tb] n) led rest ∧ (∀ p ∈ rest, p.1 ≠ src) ∧ 0 ≤ a ∧ 0 ≤ b ∧ b < 2147483647) :
    SpecC w 6 208 [.ref src] led (fun K => ∀ (r a' b' : Int) (t ta' tb' : Tok) (n' : Nat), -32768 ≤ r → r ≤ 32767 → 0 ≤ a' → 0 ≤ b' → b' < 2147483647 → K (.int r t) ((src, listOf #[.int a' ta', .int b' tb'] n') :: rest)) := by
  obtain ⟨P, hne, ha, hb, hb2⟩ := sd
  refine (signed_ok w src a b ta tb n rest hne ha hb hb2).c P.sub fun K h v news' hP => ?_
  obtain ⟨r, a', b', t, ta', tb', n', rfl, rfl, h1, h2, h3, h4, h5⟩ := hP
  exact ⟨_, h r a' b' t ta' tb' n' h1 h2 h3 h4 h5, fun p hp => hp⟩
theorem words_c (w : World) {l : Addr} {vs : List Value} {ns : List Int} {nl : Nat} {led rest : List (Addr × Obj)} (sd : Pick l (listOf vs.toArray nl) led rest ∧ IntsAre vs ns ∧ ns.length ≤ 40 ∧ (∀ x ∈ ns, -65536 ≤ x ∧ x ≤ 65535) ∧ (∀ p ∈ rest, p.1 ≠ l)) :
    SpecC w 3 215 [.ref l] led (fun K => ∀ (b : Array UInt8) (t : Tok), KBw.bInts b = wordsOf ns → K (.bytes b t) rest) := by
  obtain ⟨P, hi, hlen, hr, hlr⟩ := sd
  refine (words_ok w l vs ns nl rest hi hlen (fun x hx => ⟨(hr x hx).1, by have := (hr x hx).2; omega⟩) hlr).c P.sub fun K h v news' hP => ?_
  obtain ⟨b, t, rfl, rfl, h1⟩ := hP
  exact ⟨_, h b t h1, fun p hp => .tail _ hp⟩
theorem with_c (w : World) {arr : Array UInt8} {ks : List Int} {tb tp : Tok} {p : Int} {l : Addr} {vs : List Value} {ns : List Int} {nl : Nat} {led rest : List (Addr × Obj)} (sd : KBw.bInts arr = ks ∧ ks.length ≤ 100 ∧ 0 ≤ p ∧ p ≤ 100 ∧ (∀ q ∈ (l, listOf vs.toArray nl) :: rest, q ∈ led) ∧ IntsAre vs ns ∧ ns.length ≤ 40 ∧ (∀ x ∈ ns, -65536 ≤ x ∧ x ≤ 65535) ∧ (∀ p ∈ rest, p.1 ≠ l)) :
    SpecC w 5 229 [.bytes arr tb, .int p tp, .ref l] led (fun K => ∀ (b : Array UInt8) (t : Tok), KBw.bInts b = ks.take p.toNat ++ wordsOf ns ++ ks.drop (p.toNat + 2 * ns.length) → K (.bytes b t) rest) := by
  obtain ⟨hk', hkl, hp0, hp1, P, hi, hlen, hr, hlr⟩ := sd
  refine (with_ok w arr ks tb tp p l vs ns nl rest hk' hkl hp0 hp1 hi hlen (fun x hx => ⟨(hr x hx).1, by have := (hr x hx).2; omega⟩) hlr).c P fun K h v news' hP => ?_
  obtain ⟨b, t, rfl, rfl, h1⟩ := hP
  exact ⟨_, h b t h1, fun p hp => .tail _ hp⟩
/-- the same, of the ledger but two entries and what was there before kept -/
theorem withk_c (w : World) {arr : Array UInt8} {ks : List Int} {tb tp : Tok} {p : Int} {l a b : Addr} {oa ob : Obj} {vs : List Value} {ns : List Int} {nl : Nat} {led r ra rb rest : List (Addr × Obj)} (sd : KBw.bInts arr = ks ∧ ks.length ≤ 100 ∧ 0 ≤ p ∧ p ≤ 100 ∧ a ≠ b ∧ (∀ p ∈ rest, p.1 ≠ b) ∧ Pick l (listOf vs.toArray nl) led r ∧ Pick a oa r ra ∧ Pick b ob r rb ∧ (∀ p ∈ rest, p ∈ led) ∧ IntsAre vs ns ∧ ns.length ≤ 40 ∧ (∀ x ∈ ns, -65536 ≤ x ∧ x ≤ 65535) ∧ (∀ p ∈ (b, ob) :: (a, oa) :: rest, p.1 ≠ l)) :
    SpecC w 5 229 [.bytes arr tb, .int p tp, .ref l] led (fun K => ∀ (o : Array UInt8) (t : Tok), KBw.bInts o = ks.take p.toNat ++ wordsOf ns ++ ks.drop (p.toNat + 2 * ns.length) → K (.bytes o t) ((b, ob) :: (a, oa) :: rest)) := by
  obtain ⟨hk', hkl, hp0, hp1, hn, hr0, P, P2, P3, hs, hi, hlen, hr, hlr⟩ := sd
  exact with_c w ⟨hk', hkl, hp0, hp1, Pick.keep hn hr0 P P2 P3 hs, hi, hlen, hr, hlr⟩
theorem whead_c (w : World) {x d bx : Addr} {units b0 b1 b2 b3 flags style : Int} {lg : Bool} {tu t0 t1 t2 t3 tf ts k1 k2 k3 k4 k5 : Tok} {nb : Nat} {led r1 r2 rest : List (Addr × Obj)} (sd : Pick x (instObj 106 d) led r1 ∧ Pick d (headDict w units tu bx lg flags tf style ts k1 k2 k3 k4 k5) r1 r2 ∧ Pick bx (tup4 b0 b1 b2 b3 t0 t1 t2 t3 nb) r2 rest ∧ 16 ≤ units ∧ units ≤ 16384 ∧ -32768 ≤ b0 ∧ b0 ≤ 32767 ∧ -32768 ≤ b1 ∧ b1 ≤ 32767 ∧ -32768 ≤ b2 ∧ b2 ≤ 32767 ∧ -32768 ≤ b3 ∧ b3 ≤ 32767 ∧ 0 ≤ flags ∧ flags < 65536 ∧ 0 ≤ style ∧ style ≤ 65535) :
    SpecC w 8 124 [.ref x] led (fun K => ∀ (o : Array UInt8) (t : Tok), KBw.bInts o = headWords flags units b0 b1 b2 b3 style lg → K (.bytes o t) ((x, instObj 106 d) :: (d, headDict w units tu bx lg flags tf style ts k1 k2 k3 k4 k5) :: (bx, tup4 b0 b1 b2 b3 t0 t1 t2 t3 nb) :: rest)) := by
  obtain ⟨P, P2, P3, hu1, hu2, h0, h0', h1, h1', h2, h2', h3, h3', hf, hf', hs, hs'⟩ := sd
  refine (whead_ok w x d bx units b0 b1 b2 b3 flags style lg tu t0 t1 t2 t3 tf ts k1 k2 k3 k4 k5 nb rest (by omega) (by omega) (by omega) (by omega) (by omega) (by omega) (by omega)).c (P.sub3 P2 P3) fun K h v news' hP => ?_
  obtain ⟨b, t, rfl, rfl, h1⟩ := hP
  exact ⟨_, h b t h1, fun p hp => hp⟩
theorem rhead_c (w : World) {arr : Array UInt8} {tb : Tok} {units b0 b1 b2 b3 flags style : Int} {lg : Bool} {k : Int} {led : List (Addr × Obj)} (sd : KBw.bInts arr = headWords flags units b0 b1 b2 b3 style lg ++ List.replicate k.toNat 0 ∧ 0 ≤ k ∧ k < 3 ∧ 16 ≤ units ∧ units ≤ 16384 ∧ 0 ≤ flags ∧ 0 ≤ style ∧ -32768 ≤ b0 ∧ b0 ≤ 32767 ∧ -32768 ≤ b1 ∧ b1 ≤ 32767 ∧ -32768 ≤ b2 ∧ b2 ≤ 32767 ∧ -32768 ≤ b3 ∧ b3 ≤ 32767) :
    SpecC w 10 117 [.bytes arr tb] led (fun K => ∀ (x d bx : Addr) (tu t0 t1 t2 t3 tf ts k1 k2 k3 k4 k5 : Tok) (nb : Nat), AllLt bx led → @LT.lt Nat _ bx d → @LT.lt Nat _ d x → K (.ref x) ((x, instObj 106 d) :: (d, headDict w units tu bx lg flags tf style ts k1 k2 k3 k4 k5) :: (bx, tup4 b0 b1 b2 b3 t0 t1 t2 t3 nb) :: led)) := by
  obtain ⟨hk', hk0, hk, hu1, hu2, hf, hs, r0, r0', r1, r1', r2, r2', r3, r3'⟩ := sd
  refine (rhead_at w arr tb units b0 b1 b2 b3 flags style lg k.toNat led hk' (by omega) hu1 hu2 hf hs ⟨r0, r0'⟩ ⟨r1, r1'⟩ ⟨r2, r2'⟩ ⟨r3, r3'⟩).c (fun _ h => h) fun K h v news' hP => ?_
  obtain ⟨x, d, bx, tu, t0, t1, t2, t3, tf, ts, k1, k2, k3, k4, k5, nb, rfl, rfl, h1, h2, h3⟩ := hP
  exact ⟨_, h x d bx tu t0 t1 t2 t3 tf ts k1 k2 k3 k4 k5 nb h3 h2 h1, fun p hp => hp⟩
end
theorem anew17 {p : Program} {w : World} {A : Around} {env : Env} {Q : Flow → Shared → Prop} {E : Value → Shared → Prop} {s : Shared} (h : Q .next s) : wpAny (model p w) A (execs [] env) Q E s := by
  walk1
  assumption
section
open PySem PySem.W PyProof.Rows
set_option Elab.async false
set_option maxRecDepth 100000
set_option maxHeartbeats 8000000
section
local macro_rules | `(tactic| k_ne) => `(tactic| first | with_reducible assumption | exact ne_all (by with_reducible assumption) (by k_mem) | exact ne_all' (by with_reducible assumption) (by k_mem) | (with_reducible exact Nat.ne_of_lt (by assumption)) | (with_reducible exact Nat.ne_of_gt (by assumption)) | (refine neN ?_; (try dsimp only); omega))
local macro_rules | `(tactic| walk_at "pyIter ref") => `(tactic| (k_here; k_dflt (
  refine' cat_loop (y := PySem.Str.ofString "found") (fun n => [(n.fdiv 256).fmod 256, n.fmod 256]) ?hB ?hh ?hxy ?F ?N ?hi ?hb ?hy ?turn ?done
  (case hh => rfl); (case hxy => decide); (case F => k_asm); (case N => k_asm); (case hi => walk_at "ints"); (case hy => exact rfl); (case hb => assumption); (case hB => exact Nat.le_of_ble_eq_true rfl)
  (case' turn => intro n' t' a' b' tb' h' tk' rest' hn' hb' hle' F' N'; (try dsimp only); (try k_fold))
  (case' done => intro u' b' tb' h' tk' hb' F' N'; (try dsimp only); (try k_fold)))))
local macro_rules | `(tactic| walk_at "exec For Name Name cons nil") => `(tactic| (k_here; (rename Fr _ _ _ _ => lF'); (with_unfolding_all refine' For_invVF lF' ?k1 ?k2 ?_; (case k1 => exact rfl); (case k2 => exact rfl); k_whole)))
theorem lines_H1 : True := by
  k_with_none
  k_with "pick" => first | exact Pick.head | exact Pick.tail (by walk_at "pick")
  k_with "ints" => first | assumption | exact IntsAre.nil | exact IntsAre.cons _ _ (by walk_at "ints")
  k_with "range" => first | assumption | exact List.forall_mem_nil _ | decide | (refine List.forall_mem_cons.mpr (and2 ?_ ?_) <;> walk_at "range") | (refine and2 ?_ ?_ <;> walk_at "range") | omega
  k_with "restin" => first | exact fun _ h => h | (refine sub_tail ?_; walk_at "restin")
  k_with "side" => ((repeat' refine and2 ?_ ?_) <;> walk_at "side1")
  k_with "side1" => first | with_reducible assumption | ((with_reducible show Pick _ _ _ _); walk_at "pick") | ((with_reducible show IntsAre _ _); walk_at "ints") | ((with_reducible show ∀ p ∈ _, Prod.fst p ≠ _); k_all) | ((with_reducible show ∀ x ∈ _, _ ≤ x ∧ x ≤ _); walk_at "range") | ((with_reducible show ∀ p ∈ _, p ∈ _); first | walk_at "restin" | exact Pick.sub (by walk_at "pick")) | ((with_reducible show @LE.le Nat _ _ _); first | exact Nat.le_of_ble_eq_true rfl | omega) | ((with_reducible show KBw.bInts _ = _); assumption) | ((with_reducible show _ ≠ _); k_ne) | exact True.intro | assumption | exact rfl | decide | omega
  k_with "zroom" => (first | exact room_d (by assumption) (by decide) | (trace "ROOM"; omega) | ktr_room)
  k_with "zunits" => (first | exact room_u (by assumption) (by decide) | (trace "UNITS"; ktr_units))
  k_with "zend" => ((try dsimp only); (try k_fold))
  k_with "my len" => first | exact Nat.le_of_ble_eq_true rfl | omega | (simp only [wordsOf_length, List.length_append, List.length_take, List.length_replicate, List.length_drop, List.length_cons, List.length_nil]; omega)
  k_with "my dec" => ((try simp only [decide_eq_true_eq, decide_eq_false_iff_not, Bool.and_eq_true, Bool.not_eq_true', Bool.not_eq_false', Bool.not_eq_true, bne_iff_ne, ne_eq, Bool.not_eq_eq_eq_not, not_true_eq_false, not_false_eq_true]); first | done | omega)
  k_with "ite" => (k_here; k_openite; first | (refine ite_pos (by walk_at "my dec") ?_) | (refine ite_neg (by walk_at "my dec") ?_))
  k_with "compareOp NotEq bytes bytes" => (k_here; refine ne_same (by assumption) (by assumption) (by first | rfl | assumption | (k_dflt exact rfl)) ?_)
  k_with "call type:bytes" => (k_here; (with_reducible show wpAny _ _ (call (Value.type _) [Value.int _ _]) _ _ _); refine bytes_int_ks (by first | decide | omega) (by first | decide | omega) rfl ?_; intro b' t' k' hb'; (try simp only [Int.reduceToNat, List.reduceReplicate] at hb'))
  k_with "subscriptTail Name Constant ref int" => (k_here; (with_reducible show wpAny _ _ (subscriptTail (Expr.Name _ _) (Expr.Constant _ _ _) (Value.ref _) (Value.int _ _)) _ _ _); k_dflt (refine lit_item_N (by k_asm) (by k_mem) rfl rfl (by decide) (by decide) rfl (by with_unfolding_all rfl) ?_; k_whole))
  k_with "binaryOp Add bytes bytes" => (k_here; (with_reducible show wpAny _ _ (binaryOp _ (Value.bytes _ _) (Value.bytes _ _)) _ _ _); refine KBa.add_K (by assumption) (by assumption) (by walk_at "my len") ?_; intro t' k' kbaApp)
  k_with "call builtin:len" => (k_here; (with_reducible show wpAny _ _ (call (Value.builtin _) [Value.bytes _ _]) _ _ _); refine len_at (by assumption) (by ((try simp only [wordsOf_length, List.length_append, List.length_take, List.length_replicate, List.length_drop, List.length_cons, List.length_nil]); exact rfl)) (by omega) ?_; intro u' k')
  k_with "subscriptTail" => (k_here; (with_reducible show wpAny _ _ (subscriptTail _ (Expr.Slice _ _ none _) (Value.bytes _ _) (Value.ref _)) _ _ _); (with_reducible rename Fr _ _ _ _ => F'); (with_reducible rename News _ _ _ _ => N'); (refine KBc.slice_K (s := ⟨_, _, _, _, _⟩) F' N' (by kba_ints) (by constructor) (by constructor) (by walk_at "my len") ?_); intro _ _ _ _ _ kbcK; (try simp only [Option.elim, KBc.clip_lit, clipAt_nat, List.drop_zero, Nat.sub_zero] at kbcK))
  k_with "call type:tuple" => (k_here; (with_reducible show wpAny _ _ (call (Value.type _) [Value.ref _]) _ _ _); k_dflt (refine tuple_same_N (by k_asm) (by k_mem) rfl rfl ?_; k_whole))
  k_with "callWith ref" => (k_here; (with_reducible show wpAny _ _ (callWith _ (Prod.fst _) (Prod.snd _) _ _) _ _ _); k_dflt (refine callWith_F (by with_reducible assumption) (by with_reducible assumption) (by k_is) ?_; k_whole))
  k_with "call ref" => ((with_reducible show wpAny _ _ (call (Value.ref 74) _) _ _ _); ktr_call 74 (put16_c _); (intro _ _ _ _ _ _ _); walk_at "zend")
  k_with "call ref" => ((with_reducible show wpAny _ _ (call (Value.ref 81) _) _ _ _); ktr_call 81 (put32_c _); (intro _ _ _ _ _ _ _); walk_at "zend")
  k_with "call ref" => ((with_reducible show wpAny _ _ (call (Value.ref 53) _) _ _ _); ktr_call 53 (u16_c _); (intro _ _ _ _ _); walk_at "zend")
  trivial
theorem read_count_ok (w : World) (arr : Array UInt8) (ks : List Int) (tb : Tok) (c : Int) (rest : List (Addr × Obj)) (hk' : KBw.bInts arr = ks) (h1 : 6 ≤ ks.length) (h2 : ks.length ≤ 100) (hw : ks.getD 4 0 * 256 + ks.getD 5 0 = c) :
    Spec w 6 131 [.bytes arr tb] rest (fun v news' => ∃ (t : Tok), v = .int c t ∧ news' = rest) := by
  unfold Spec
  k_fill
  intro mg mb mean dp un gd cn cs ad ccd cl outer A₀ base h₀ L m s Q E B F X N T hk hdp hun hret
  have hdp1 := room_in hdp
  have hun1 := units_in hun
  refine wpAny_call ?_
  k_dflt (refine' code_def ?k1 ?k2 ?k3 ?k4 ?k5 ?kA ?kF ?kK ?k6 ?k7 ?k8 ?k9 ?kB ?_ ?c2 ?c3 ?c4 ?c5; (case kA => exact rfl); (case kF => exact rfl); (case kK => assumption); (case k1 => k_asm); (case k2 => k_asm); (case k3 => k_asm); (case k4 => k_asm); (case k5 => k_asm); (case k6 => k_is); (case k7 => k_is); (case k8 => exact room_0 hdp); (case k9 => exact BindsTo.of_eq rfl); (case c5 => decide); (case kB => exact locs rfl); (case c2 => exact rfl); (case c3 => exact rfl); (case c4 => exact rfl); k_whole; intro g' L' h' FG' F' N' B' X' T'; (try dsimp only); (try k_lift B'); (try k_fold))
  k_steps
  exact hret _ _ _ _ ⟨_, by subst_vars; rfl, rfl⟩ (by assumption) (by assumption)
theorem maxp_ok (w : World) (c p k d : Int) (tc tp tk td : Tok) (rest : List (Addr × Obj)) (hc : 0 ≤ c ∧ c < 65536) (hp : 0 ≤ p ∧ p < 65536) (hk' : 0 ≤ k ∧ k < 65536) (hd' : 0 ≤ d ∧ d < 65536) :
    Spec w 8 138 [.int c tc, .int p tp, .int k tk, .int d td] rest (fun v news' => ∃ (b : Array UInt8) (t : Tok), v = .bytes b t ∧ news' = rest ∧ KBw.bInts b = wordsOf [1, 0, c, p, k, p, k, 2, 16, 64, 64, 0, 256, 0, 16, d]) := by
  unfold Spec
  k_fill
  intro mg mb mean dp un gd cn cs ad ccd cl outer A₀ base h₀ L m s Q E B F X N T hk hdp hun hret
  have hdp1 := room_in hdp
  have hun1 := units_in hun
  refine wpAny_call ?_
  k_dflt (refine' code_def ?k1 ?k2 ?k3 ?k4 ?k5 ?kA ?kF ?kK ?k6 ?k7 ?k8 ?k9 ?kB ?_ ?c2 ?c3 ?c4 ?c5; (case kA => exact rfl); (case kF => exact rfl); (case kK => assumption); (case k1 => k_asm); (case k2 => k_asm); (case k3 => k_asm); (case k4 => k_asm); (case k5 => k_asm); (case k6 => k_is); (case k7 => k_is); (case k8 => exact room_0 hdp); (case k9 => exact BindsTo.of_eq rfl); (case c5 => decide); (case kB => exact locs rfl); (case c2 => exact rfl); (case c3 => exact rfl); (case c4 => exact rfl); k_whole; intro g' L' h' FG' F' N' B' X' T'; (try dsimp only); (try k_lift B'); (try k_fold))
  k_steps
  · refine hret _ rest _ _ ⟨_, _, rfl, rfl, ?_⟩ (by assumption) (ledger_sub (by assumption) (by kcf_all))
    refine Eq.trans (by assumption) ?_
    simp (disch := omega) only [words_neg]
    rfl
  · refine ⟨rfl, _, _, _, _, _, rfl, by assumption, by assumption, by assumption, rfl, ?_⟩
    intro u h1 h2
    simp only [if_neg h1, if_neg h2]
end
end
section
open PySem PySem.W PyProof.Rows
set_option Elab.async false
/-- the words of a table maxp -/
noncomputable abbrev maxpWords (c p k d : Int) : List Int := wordsOf [1, 0, c, p, k, p, k, 2, 16, 64, 64, 0, 256, 0, 16, d]
theorem maxp_c (w : World) {c p k d : Int} {tc tp tk td : Tok} {led : List (Addr × Obj)} (sd : 0 ≤ c ∧ c ≤ 65535 ∧ 0 ≤ p ∧ p ≤ 65535 ∧ 0 ≤ k ∧ k ≤ 65535 ∧ 0 ≤ d ∧ d ≤ 65535) :
    SpecC w 8 138 [.int c tc, .int p tp, .int k tk, .int d td] led (fun K => ∀ (b : Array UInt8) (t : Tok), KBw.bInts b = maxpWords c p k d → K (.bytes b t) led) := by
  obtain ⟨h0, h0', h1, h1', h2, h2', h3, h3'⟩ := sd
  refine (maxp_ok w c p k d tc tp tk td led (by omega) (by omega) (by omega) (by omega)).c (fun _ h => h) fun K h v news' hP => ?_
  obtain ⟨b, t, rfl, rfl, h1⟩ := hP
  exact ⟨_, h b t h1, fun p hp => hp⟩
theorem read_count_c (w : World) {arr : Array UInt8} {ks : List Int} {tb : Tok} {c : Int} {led : List (Addr × Obj)} (sd : KBw.bInts arr = ks ∧ 6 ≤ ks.length ∧ ks.length ≤ 100 ∧ ks.getD 4 0 = (lowOf c).fdiv 256 ∧ ks.getD 5 0 = (lowOf c).fmod 256 ∧ 0 ≤ c) :
    SpecC w 6 131 [.bytes arr tb] led (fun K => ∀ (t : Tok), K (.int c t) led) := by
  obtain ⟨h1, h2, h3, h5, h6, h4⟩ := sd
  refine (read_count_ok w arr ks tb c led h1 h2 h3 (word_at h5 h6 h4)).c (fun _ h => h) fun K h v news' hP => ?_
  obtain ⟨t, rfl, rfl⟩ := hP
  exact ⟨_, h t, fun p hp => hp⟩
end
theorem anew18 {p : Program} {w : World} {A : Around} {env : Env} {Q : Flow → Shared → Prop} {E : Value → Shared → Prop} {s : Shared} (h : Q .next s) : wpAny (model p w) A (execs [] env) Q E s := by
  walk1
  assumption
section
open PySem PySem.W PyProof.Rows
set_option Elab.async false
set_option maxRecDepth 100000
set_option maxHeartbeats 8000000
section
local macro_rules | `(tactic| k_ne) => `(tactic| first | with_reducible assumption | exact ne_all (by with_reducible assumption) (by k_mem) | exact ne_all' (by with_reducible assumption) (by k_mem) | (with_reducible exact Nat.ne_of_lt (by assumption)) | (with_reducible exact Nat.ne_of_gt (by assumption)) | (refine neN ?_; (try dsimp only); omega))
local macro_rules | `(tactic| walk_at "call ref") => `(tactic| (k_here; (with_reducible show wpAny _ _ (call (Value.ref 222) [Value.ref 131, _]) _ _ _); k_dflt (
  refine' SpecT.to (fell_count _ _ _ _ (Raiz.mono (count_falls _ _ _ _ ?hb ?hl) (by decide))) ?B ?F ?X ?N ?T ?hk ?XB ?TB ?D (fun _ h => h) ?hd ?hu ?_
  walk_at "my ctxT"
  (case hb => assumption)
  (case hl => walk_at "my fell")
  k_whole
  intro v' news' h0' h' tk' hP T' F' N' B' X' P' D'
  obtain ⟨hv', hn'⟩ := hP
  subst hv'
  rw [hn'] at N'
  clear hn'
  (try dsimp only)
  (try k_fold))))
local macro_rules | `(tactic| walk_at "CompSrc") => `(tactic| (k_here; k_dflt (
  refine' LCg.CompSrc.range (by rfl) ?F (ledger_sub ?N (Pick.sub (o := listOf #[.int _ _, .int _ _] _) ?P)) ?hr ?sm ?rs ?sz ?_
  (case F => k_asm); (case N => k_asm); (case P => walk_at "my pick"); (case hr => assumption); (case sm => decide); (case rs => exact rangeSize_nat _ _); (case sz => exact Nat.le_of_ble_eq_true rfl)
  intro g'
  refine' comp_draws _ _ (fun z => 0 ≤ z ∧ z < 65536) ?ha ?hb ?hb2 ?turn ?fin
  (case ha => walk_at "my arith"); (case hb => walk_at "my arith"); (case hb2 => walk_at "my arith")
  (case' turn => intro v' I' oI' C' oC' D' m' ys' a' b' ta' tb' nn' h' tk' E' hC' hx' F' N' off' ne' ha' hb' hb2'; (have off2' := off'); (try simp only [LCg.Off3, and_true] at off2'); (try dsimp only); (try k_fold))
  (case' fin => intro ys' zs' a' b' ta' tb' nn' hl' hi' hz' ha' hb' hb2' D' h' tk' F' N' off'; (try simp only [LCg.Off1, and_true] at off'); (first | (obtain ⟨z1, z2, z3, z4, t1, t2, t3, t4, hzs, hys⟩ := four_ints hl' rfl hi'; subst hys; subst hzs) | (obtain ⟨z1, z2, z3, t1, t2, t3, hzs, hys⟩ := three_ints hl' rfl hi'; subst hys; subst hzs)); (try simp only [List.forall_mem_cons, List.forall_mem_nil, and_true, List.mem_cons, List.not_mem_nil, forall_eq_or_imp, or_false, forall_eq] at hz'); (try dsimp only at hz' ⊢); (try k_fold)))))
local macro_rules | `(tactic| walk_at "CompEnd") => `(tactic| (k_here; k_dflt (
  refine' LCg.CompEnd.intro ?F ?N _ ?sub ?off ?S ⟨_, _, _, _, _, _, _, rfl, ?P, rfl, ?ha, ?hb, ?hb2⟩
  (case F => assumption); (case N => assumption); (case sub => kcf_all); (case off => assumption); (case S => exact True.intro)
  (case ha => assumption); (case hb => assumption); (case hb2 => assumption); (case P => walk_at "my drawn"))))
theorem lines_J1 : True := by
  k_with_none
  k_with "pick" => first | exact Pick.head | exact Pick.tail (by walk_at "pick")
  k_with "ints" => first | assumption | exact IntsAre.nil | exact IntsAre.cons _ _ (by walk_at "ints")
  k_with "range" => first | assumption | exact List.forall_mem_nil _ | decide | (refine List.forall_mem_cons.mpr (and2 ?_ ?_) <;> walk_at "range") | (refine and2 ?_ ?_ <;> walk_at "range") | omega
  k_with "restin" => first | exact fun _ h => h | (refine sub_tail ?_; walk_at "restin")
  k_with "side" => ((repeat' refine and2 ?_ ?_) <;> walk_at "side1")
  k_with "side1" => first | with_reducible assumption | ((with_reducible show Pick _ _ _ _); walk_at "pick") | ((with_reducible show IntsAre _ _); walk_at "ints") | ((with_reducible show ∀ p ∈ _, Prod.fst p ≠ _); k_all) | ((with_reducible show ∀ x ∈ _, _ ≤ x ∧ x ≤ _); walk_at "range") | ((with_reducible show ∀ p ∈ _, p ∈ _); first | walk_at "restin" | exact Pick.sub (by walk_at "pick")) | ((with_reducible show @LE.le Nat _ _ _); first | exact Nat.le_of_ble_eq_true rfl | omega) | ((with_reducible show KBw.bInts _ = _); assumption) | ((with_reducible show _ ≠ _); k_ne) | exact True.intro | assumption | exact rfl | decide | omega
  k_with "zroom" => (first | exact room_d (by assumption) (by decide) | (trace "ROOM"; omega) | ktr_room)
  k_with "zunits" => (first | exact room_u (by assumption) (by decide) | (trace "UNITS"; ktr_units))
  k_with "zend" => ((try dsimp only); (try k_fold))
  k_with "my len" => first | exact Nat.le_of_ble_eq_true rfl | omega | (simp only [wordsOf_length, List.length_append, List.length_take, List.length_replicate, List.length_drop, List.length_cons, List.length_nil]; omega)
  k_with "my dec" => ((try simp only [decide_eq_true_eq, decide_eq_false_iff_not, Bool.and_eq_true, Bool.not_eq_true', Bool.not_eq_false', Bool.not_eq_true, bne_iff_ne, ne_eq, Bool.not_eq_eq_eq_not, not_true_eq_false, not_false_eq_true]); first | done | omega)
  k_with "ite" => (k_here; k_openite; first | (refine ite_pos (by walk_at "my dec") ?_) | (refine ite_neg (by walk_at "my dec") ?_))
  k_with "compareOp NotEq bytes bytes" => (k_here; refine ne_same (by assumption) (by assumption) (by first | rfl | assumption | (k_dflt exact rfl)) ?_)
  k_with "call type:bytes" => (k_here; (with_reducible show wpAny _ _ (call (Value.type _) [Value.int _ _]) _ _ _); refine bytes_int_ks (by first | decide | omega) (by first | decide | omega) rfl ?_; intro b' t' k' hb'; (try simp only [Int.reduceToNat, List.reduceReplicate] at hb'))
  k_with "subscriptTail Name Constant ref int" => (k_here; (with_reducible show wpAny _ _ (subscriptTail (Expr.Name _ _) (Expr.Constant _ _ _) (Value.ref _) (Value.int _ _)) _ _ _); k_dflt (refine lit_item_N (by k_asm) (by k_mem) rfl rfl (by decide) (by decide) rfl (by with_unfolding_all rfl) ?_; k_whole))
  k_with "binaryOp Add bytes bytes" => (k_here; (with_reducible show wpAny _ _ (binaryOp _ (Value.bytes _ _) (Value.bytes _ _)) _ _ _); refine KBa.add_K (by assumption) (by assumption) (by walk_at "my len") ?_; intro t' k' kbaApp)
  k_with "call builtin:len" => (k_here; (with_reducible show wpAny _ _ (call (Value.builtin _) [Value.bytes _ _]) _ _ _); refine len_at (by assumption) (by ((try simp only [wordsOf_length, List.length_append, List.length_take, List.length_replicate, List.length_drop, List.length_cons, List.length_nil]); exact rfl)) (by omega) ?_; intro u' k')
  k_with "subscriptTail" => (k_here; (with_reducible show wpAny _ _ (subscriptTail _ (Expr.Slice _ _ none _) (Value.bytes _ _) (Value.ref _)) _ _ _); (with_reducible rename Fr _ _ _ _ => F'); (with_reducible rename News _ _ _ _ => N'); (refine KBc.slice_K (s := ⟨_, _, _, _, _⟩) F' N' (by kba_ints) (by constructor) (by constructor) (by walk_at "my len") ?_); intro _ _ _ _ _ kbcK; (try simp only [Option.elim, KBc.clip_lit, clipAt_nat, List.drop_zero, Nat.sub_zero] at kbcK))
  k_with "call type:tuple" => (k_here; (with_reducible show wpAny _ _ (call (Value.type _) [Value.ref _]) _ _ _); k_dflt (refine tuple_same_N (by k_asm) (by k_mem) rfl rfl ?_; k_whole))
  k_with "callWith ref" => (k_here; (with_reducible show wpAny _ _ (callWith _ (Prod.fst _) (Prod.snd _) _ _) _ _ _); k_dflt (refine callWith_F (by with_reducible assumption) (by with_reducible assumption) (by k_is) ?_; k_whole))
  k_with "call ref" => ((with_reducible show wpAny _ _ (call (Value.ref 194) _) _ _ _); ktr_call 194 (take_c _); (intro _ _ _ _ _ _ _ _ _ _ _ _ _ _ _ _); walk_at "zend")
  k_with "call ref" => ((with_reducible show wpAny _ _ (call (Value.ref 201) _) _ _ _); ktr_call 201 (one_c _ (0) (65535)); (intro _ _ _ _ _ _ _ _ _ _ _ _ _ _ _ _); walk_at "zend")
  k_with "call ref" => ((with_reducible show wpAny _ _ (call (Value.ref 215) _) _ _ _); ktr_call 215 (words_c _); (intro _ _ _ _ _ _ _); walk_at "zend")
  k_with "call ref" => ((with_reducible show wpAny _ _ (call (Value.ref 138) _) _ _ _); ktr_call 138 (maxp_c _); (intro _ _ _ _ _ _ _); walk_at "zend")
  k_with "call ref" => ((with_reducible show wpAny _ _ (call (Value.ref 131) _) _ _ _); ktr_call 131 (read_count_c _); (intro _ _ _ _ _); walk_at "zend")
  k_with "my fell" => exact take_lt (by first | assumption | omega) (by first | assumption | omega)
  k_with "my ctxT" => ((case B => k_asm); (case F => k_asm); (case X => k_asm); (case T => k_asm); (case N => k_asm); (case hk => first | exact rfl | assumption); (case XB => assumption); (case TB => assumption); (case D => assumption); (case hd => walk_at "zroom"); (case hu => walk_at "zunits"))
  k_with "my drawn" => ((try dsimp only); first | (constructor <;> omega) | ((rename (_ : Int) ∈ _ => hm); simp only [List.mem_cons, List.not_mem_nil, or_false] at hm; constructor <;> omega))
  k_with "my pick" => walk_at "pick"
  k_with "my arith" => first | assumption | decide | omega
  trivial
theorem count_right_ok (w : World) (src : Addr) (a b : Int) (ta tb : Tok) (n : Nat) (rest : List (Addr × Obj)) (hne : ∀ p ∈ rest, p.1 ≠ src) (ha : 0 ≤ a) (hb : 0 ≤ b) (hb2 : b < 2147483647) :
    SpecT w 30 244 [.ref src] ((src, listOf #[.int a ta, .int b tb] n) :: rest) (fun v news' => v = .bool true ∧ ∃ (a' b' : Int) (ta' tb' : Tok) (n' : Nat), news' = (src, listOf #[.int a' ta', .int b' tb'] n') :: rest ∧ 0 ≤ a' ∧ 0 ≤ b' ∧ b' < 2147483647) := by
  unfold SpecT
  k_fill
  intro mg mb mean dp un gd cn cs ad ccd cl outer A₀ base h₀ L m s Q E B F X N T hk XB TB D hdp hun hret
  have hdp1 := room_in hdp
  have hdp2 := room_in hdp1
  have hun1 := units_in hun
  refine wpAny_call ?_
  k_dflt (refine' code_defSC (g₀ := h₀) ?k1 ?k2 ?k3 ?k4 ?k5 ?XB ?TB ?D ?T0 ?kA ?kF ?cK ?k6 ?k7 ?k8 ?k9 ?kB ?kD ?_ ?c2 ?c3 ?c4; (case kA => exact rfl); (case kF => exact rfl); (case cK => assumption); (case k2 => k_asm); (case k1 => k_asm); (case XB => assumption); (case TB => assumption); (case D => assumption); (case T0 => exact KtsTurn.refl); (case k3 => k_asm); (case k4 => k_asm); (case k5 => k_asm); (case k6 => k_is); (case k7 => k_is); (case k8 => exact room_0 hdp); (case k9 => first | exact BindsTo.of_eq rfl | exact binds_K (by k_in) rfl (by k_is) rfl rfl rfl); (case kB => exact rfl); (case kD => decide +kernel); (case c2 => exact rfl); (case c3 => exact rfl); (case c4 => exact rfl); k_whole; intro g' L' h' tk' cells' FG' F' N' Y' B' X' T' D' l1; (try k_lt l1); k_cells Y'; (try simp only [List.cons_append, List.nil_append] at N'); (try dsimp only); (try k_lift B'); (try k_fold))
  k_steps
  refine' hret _ ((src, listOf #[.int _ _, .int _ _] _) :: rest) _ _ _ ⟨rfl, _, _, _, _, _, rfl, ?e1, ?e2, ?e3⟩ ?kT ?kF (ledger_sub ?kN ?ks) ?kB ?kX ?kP ?kD
  (case kT => assumption); (case kF => assumption); (case kN => assumption); (case ks => kcf_all); (case kB => assumption); (case kX => assumption); (case kP => assumption); (case kD => assumption)
  (case e1 => assumption); (case e2 => assumption); (case e3 => assumption)
end
end
theorem anew19 {p : Program} {w : World} {A : Around} {env : Env} {Q : Flow → Shared → Prop} {E : Value → Shared → Prop} {s : Shared} (h : Q .next s) : wpAny (model p w) A (execs [] env) Q E s := by
  walk1
  assumption
section
open PySem PySem.W PyProof.Rows
set_option Elab.async false
set_option maxRecDepth 100000
set_option maxHeartbeats 8000000
section
theorem lines_H2 : True := by
  k_with_none
  k_with "pick" => first | exact Pick.head | exact Pick.tail (by walk_at "pick")
  k_with "ints" => first | assumption | exact IntsAre.nil | exact IntsAre.cons _ _ (by walk_at "ints")
  k_with "range" => first | assumption | exact List.forall_mem_nil _ | decide | (refine List.forall_mem_cons.mpr (and2 ?_ ?_) <;> walk_at "range") | (refine and2 ?_ ?_ <;> walk_at "range") | omega
  k_with "restin" => first | exact fun _ h => h | (refine sub_tail ?_; walk_at "restin")
  k_with "side" => ((repeat' refine and2 ?_ ?_) <;> walk_at "side1")
  k_with "side1" => first | with_reducible assumption | ((with_reducible show Pick _ _ _ _); walk_at "pick") | ((with_reducible show IntsAre _ _); walk_at "ints") | ((with_reducible show ∀ p ∈ _, Prod.fst p ≠ _); k_all) | ((with_reducible show ∀ x ∈ _, _ ≤ x ∧ x ≤ _); walk_at "range") | ((with_reducible show ∀ p ∈ _, p ∈ _); first | walk_at "restin" | exact Pick.sub (by walk_at "pick")) | ((with_reducible show @LE.le Nat _ _ _); first | exact Nat.le_of_ble_eq_true rfl | omega) | ((with_reducible show KBw.bInts _ = _); assumption) | ((with_reducible show _ ≠ _); k_ne) | exact True.intro | assumption | decide | omega
  k_with "zroom" => (first | exact room_d (by assumption) (by decide) | (trace "ROOM"; omega) | ktr_room)
  k_with "zunits" => (first | exact room_u (by assumption) (by decide) | (trace "UNITS"; ktr_units))
  k_with "zend" => ((try dsimp only); (try k_fold))
  k_with "my len" => first | exact Nat.le_of_ble_eq_true rfl | omega | (simp only [wordsOf_length, List.length_append, List.length_take, List.length_replicate, List.length_drop, List.length_cons, List.length_nil]; omega)
  k_with "my dec" => ((try simp only [decide_eq_true_eq, decide_eq_false_iff_not, Bool.and_eq_true, Bool.not_eq_true', Bool.not_eq_false', Bool.not_eq_true, bne_iff_ne, ne_eq, Bool.not_eq_eq_eq_not, not_true_eq_false, not_false_eq_true]); first | done | omega)
  k_with "ite" => (k_here; k_openite; first | (refine ite_pos (by walk_at "my dec") ?_) | (refine ite_neg (by walk_at "my dec") ?_))
  k_with "compareOp NotEq bytes bytes" => (k_here; refine ne_same (by assumption) (by assumption) (by first | rfl | assumption | (k_dflt exact rfl)) ?_)
  k_with "call type:bytes" => (k_here; (with_reducible show wpAny _ _ (call (Value.type _) [Value.int _ _]) _ _ _); refine bytes_int_ks (by first | decide | omega) (by first | decide | omega) rfl ?_; intro b' t' k' hb'; (try simp only [Int.reduceToNat, List.reduceReplicate] at hb'))
  k_with "subscriptTail Name Constant ref int" => (k_here; (with_reducible show wpAny _ _ (subscriptTail (Expr.Name _ _) (Expr.Constant _ _ _) (Value.ref _) (Value.int _ _)) _ _ _); k_dflt (refine lit_item_N (by k_asm) (by k_mem) rfl rfl (by decide) (by decide) rfl (by with_unfolding_all rfl) ?_; k_whole))
  k_with "binaryOp Add bytes bytes" => (k_here; (with_reducible show wpAny _ _ (binaryOp _ (Value.bytes _ _) (Value.bytes _ _)) _ _ _); refine KBa.add_K (by assumption) (by assumption) (by walk_at "my len") ?_; intro t' k' kbaApp)
  k_with "call builtin:len" => (k_here; (with_reducible show wpAny _ _ (call (Value.builtin _) [Value.bytes _ _]) _ _ _); refine len_at (by assumption) (by ((try simp only [wordsOf_length, List.length_append, List.length_take, List.length_replicate, List.length_drop, List.length_cons, List.length_nil]); exact rfl)) (by omega) ?_; intro u' k')
  k_with "subscriptTail" => (k_here; (with_reducible show wpAny _ _ (subscriptTail _ (Expr.Slice _ _ none _) (Value.bytes _ _) (Value.ref _)) _ _ _); (with_reducible rename Fr _ _ _ _ => F'); (with_reducible rename News _ _ _ _ => N'); (refine KBc.slice_K (s := ⟨_, _, _, _, _⟩) F' N' (by kba_ints) (by constructor) (by constructor) (by walk_at "my len") ?_); intro _ _ _ _ _ kbcK; (try simp only [Option.elim, KBc.clip_lit, clipAt_nat, List.drop_zero, Nat.sub_zero] at kbcK))
  k_with "call type:tuple" => (k_here; (with_reducible show wpAny _ _ (call (Value.type _) [Value.ref _]) _ _ _); k_dflt (refine tuple_same_N (by k_asm) (by k_mem) rfl rfl ?_; k_whole))
  k_with "callWith ref" => (k_here; (with_reducible show wpAny _ _ (callWith _ (Prod.fst _) (Prod.snd _) _ _) _ _ _); k_dflt (refine callWith_F (by with_reducible assumption) (by with_reducible assumption) (by k_is) ?_; k_whole))
  k_with "call ref" => ((with_reducible show wpAny _ _ (call (Value.ref 74) _) _ _ _); ktr_call 74 (put16_c _); (intro _ _ _ _ _ _ _); walk_at "zend")
  k_with "call ref" => ((with_reducible show wpAny _ _ (call (Value.ref 81) _) _ _ _); ktr_call 81 (put32_c _); (intro _ _ _ _ _ _ _); walk_at "zend")
  trivial
theorem wlines_ok (w : World) (x d : Addr) (a b c k wd : Int) (ta tb tc tk tw k1 k2 k3 k4 : Tok) (rest : List (Addr × Obj)) (ha : -65536 ≤ a ∧ a < 65536) (hb : -65536 ≤ b ∧ b < 65536) (hc : -65536 ≤ c ∧ c < 65536) (hk' : 0 ≤ k ∧ k < 65536) (hw : 0 ≤ wd ∧ wd < 65536) :
    Spec w 8 180 [.ref x, .int wd tw] ((x, instObj 162 d) :: (d, dictOf [⟨PyData.keyHash w.params (Str.ofString "ascender"), .str (Str.ofString "ascender") k1, .int a ta⟩, ⟨PyData.keyHash w.params (Str.ofString "descender"), .str (Str.ofString "descender") k2, .int b tb⟩, ⟨PyData.keyHash w.params (Str.ofString "gap"), .str (Str.ofString "gap") k3, .int c tc⟩, ⟨PyData.keyHash w.params (Str.ofString "count"), .str (Str.ofString "count") k4, .int k tk⟩] 4) :: rest)
      (fun v news' => ∃ (o : Array UInt8) (t : Tok), v = .bytes o t ∧ news' = (x, instObj 162 d) :: (d, dictOf [⟨PyData.keyHash w.params (Str.ofString "ascender"), .str (Str.ofString "ascender") k1, .int a ta⟩, ⟨PyData.keyHash w.params (Str.ofString "descender"), .str (Str.ofString "descender") k2, .int b tb⟩, ⟨PyData.keyHash w.params (Str.ofString "gap"), .str (Str.ofString "gap") k3, .int c tc⟩, ⟨PyData.keyHash w.params (Str.ofString "count"), .str (Str.ofString "count") k4, .int k tk⟩] 4) :: rest ∧ KBw.bInts o = wordsOf [1, 0, a, b, c, wd, 0, 0, 0, 1, 0, 0, 0, 0, 0, 0, 0, k]) := by
  unfold Spec
  k_fill
  intro mg mb mean dp un gd cn cs ad ccd cl outer A₀ base h₀ L m s Q E B F X N T hk hdp hun hret
  have hdp1 := room_in hdp
  have hun1 := units_in hun
  refine wpAny_call ?_
  k_dflt (refine' code_def ?k1 ?k2 ?k3 ?k4 ?k5 ?kA ?kF ?kK ?k6 ?k7 ?k8 ?k9 ?kB ?_ ?c2 ?c3 ?c4 ?c5; (case kA => exact rfl); (case kF => exact rfl); (case kK => assumption); (case k1 => k_asm); (case k2 => k_asm); (case k3 => k_asm); (case k4 => k_asm); (case k5 => k_asm); (case k6 => k_is); (case k7 => k_is); (case k8 => exact room_0 hdp); (case k9 => exact BindsTo.of_eq rfl); (case c5 => decide); (case kB => exact locs rfl); (case c2 => exact rfl); (case c3 => exact rfl); (case c4 => exact rfl); k_whole; intro g' L' h' FG' F' N' B' X' T'; (try dsimp only); (try k_lift B'); (try k_fold))
  k_steps
  refine hret _ _ _ _ ⟨_, _, rfl, rfl, ?_⟩ (by assumption) (ledger_sub (by assumption) (by kcf_all))
  refine Eq.trans (by assumption) ?_
  simp (disch := omega) only [words_neg, List.cons_append, List.nil_append]
  rfl
end
end
theorem anew20 {p : Program} {w : World} {A : Around} {env : Env} {Q : Flow → Shared → Prop} {E : Value → Shared → Prop} {s : Shared} (h : Q .next s) : wpAny (model p w) A (execs [] env) Q E s := by
  walk1
  assumption
section
open PySem PySem.W PyProof.Rows
set_option Elab.async false
set_option maxRecDepth 100000
set_option maxHeartbeats 8000000
section
theorem lines_H6 : True := by
  k_with_none
  k_with "pick" => first | exact Pick.head | exact Pick.tail (by walk_at "pick")
  k_with "ints" => first | assumption | exact IntsAre.nil | exact IntsAre.cons _ _ (by walk_at "ints")
  k_with "range" => first | assumption | exact List.forall_mem_nil _ | decide | (refine List.forall_mem_cons.mpr (and2 ?_ ?_) <;> walk_at "range") | (refine and2 ?_ ?_ <;> walk_at "range") | omega
  k_with "restin" => first | exact fun _ h => h | (refine sub_tail ?_; walk_at "restin")
  k_with "side" => ((repeat' refine and2 ?_ ?_) <;> walk_at "side1")
  k_with "side1" => first | with_reducible assumption | ((with_reducible show Pick _ _ _ _); walk_at "pick") | ((with_reducible show IntsAre _ _); walk_at "ints") | ((with_reducible show ∀ p ∈ _, Prod.fst p ≠ _); k_all) | ((with_reducible show ∀ x ∈ _, _ ≤ x ∧ x ≤ _); walk_at "range") | ((with_reducible show ∀ p ∈ _, p ∈ _); first | walk_at "restin" | exact Pick.sub (by walk_at "pick")) | ((with_reducible show @LE.le Nat _ _ _); first | exact Nat.le_of_ble_eq_true rfl | omega) | ((with_reducible show KBw.bInts _ = _); assumption) | ((with_reducible show _ ≠ _); k_ne) | exact True.intro | assumption | decide | omega
  k_with "zroom" => (first | exact room_d (by assumption) (by decide) | (trace "ROOM"; omega) | ktr_room)
  k_with "zunits" => (first | exact room_u (by assumption) (by decide) | (trace "UNITS"; ktr_units))
  k_with "zend" => ((try dsimp only); (try k_fold))
  k_with "my len" => first | exact Nat.le_of_ble_eq_true rfl | omega | (simp only [wordsOf_length, List.length_append, List.length_take, List.length_replicate, List.length_drop, List.length_cons, List.length_nil]; omega)
  k_with "my dec" => ((try simp only [decide_eq_true_eq, decide_eq_false_iff_not, Bool.and_eq_true, Bool.not_eq_true', Bool.not_eq_false', Bool.not_eq_true, bne_iff_ne, ne_eq, Bool.not_eq_eq_eq_not, not_true_eq_false, not_false_eq_true]); first | done | omega)
  k_with "ite" => (k_here; k_openite; first | (refine ite_pos (by walk_at "my dec") ?_) | (refine ite_neg (by walk_at "my dec") ?_))
  k_with "compareOp NotEq bytes bytes" => (k_here; refine ne_same (by assumption) (by assumption) (by first | rfl | assumption | (k_dflt exact rfl)) ?_)
  k_with "call type:bytes" => (k_here; (with_reducible show wpAny _ _ (call (Value.type _) [Value.int _ _]) _ _ _); refine bytes_int_ks (by first | decide | omega) (by first | decide | omega) rfl ?_; intro b' t' k' hb'; (try simp only [Int.reduceToNat, List.reduceReplicate] at hb'))
  k_with "subscriptTail Name Constant ref int" => (k_here; (with_reducible show wpAny _ _ (subscriptTail (Expr.Name _ _) (Expr.Constant _ _ _) (Value.ref _) (Value.int _ _)) _ _ _); k_dflt (refine lit_item_N (by k_asm) (by k_mem) rfl rfl (by decide) (by decide) rfl (by with_unfolding_all rfl) ?_; k_whole))
  k_with "binaryOp Add bytes bytes" => (k_here; (with_reducible show wpAny _ _ (binaryOp _ (Value.bytes _ _) (Value.bytes _ _)) _ _ _); refine KBa.add_K (by assumption) (by assumption) (by walk_at "my len") ?_; intro t' k' kbaApp)
  k_with "call builtin:len" => (k_here; (with_reducible show wpAny _ _ (call (Value.builtin _) [Value.bytes _ _]) _ _ _); refine len_at (by assumption) (by ((try simp only [wordsOf_length, List.length_append, List.length_take, List.length_replicate, List.length_drop, List.length_cons, List.length_nil]); exact rfl)) (by omega) ?_; intro u' k')
  k_with "subscriptTail" => (k_here; (with_reducible show wpAny _ _ (subscriptTail _ (Expr.Slice _ _ none _) (Value.bytes _ _) (Value.ref _)) _ _ _); (with_reducible rename Fr _ _ _ _ => F'); (with_reducible rename News _ _ _ _ => N'); (refine KBc.slice_K (s := ⟨_, _, _, _, _⟩) F' N' (by kba_ints) (by constructor) (by constructor) (by walk_at "my len") ?_); intro _ _ _ _ _ kbcK; (try simp only [Option.elim, KBc.clip_lit, clipAt_nat, List.drop_zero, Nat.sub_zero] at kbcK))
  k_with "call type:tuple" => (k_here; (with_reducible show wpAny _ _ (call (Value.type _) [Value.ref _]) _ _ _); k_dflt (refine tuple_same_N (by k_asm) (by k_mem) rfl rfl ?_; k_whole))
  k_with "callWith ref" => (k_here; (with_reducible show wpAny _ _ (callWith _ (Prod.fst _) (Prod.snd _) _ _) _ _ _); k_dflt (refine callWith_F (by with_reducible assumption) (by with_reducible assumption) (by k_is) ?_; k_whole))
  k_with "call ref" => ((with_reducible show wpAny _ _ (call (Value.ref 53) _) _ _ _); ktr_call 53 (u16_c _); (intro _ _ _ _ _); walk_at "zend")
  k_with "call ref" => ((with_reducible show wpAny _ _ (call (Value.ref 60) _) _ _ _); ktr_call 60 (s16_c _); (intro _ _ _ _ _); walk_at "zend")
  trivial
/-- what lines' own dict holds -/
abbrev linesDict (w : World) (a b c k : Int) (ta tb tc tk k1 k2 k3 k4 : Tok) : Obj :=
  dictOf [⟨PyData.keyHash w.params (Str.ofString "ascender"), .str (Str.ofString "ascender") k1, .int a ta⟩, ⟨PyData.keyHash w.params (Str.ofString "descender"), .str (Str.ofString "descender") k2, .int b tb⟩, ⟨PyData.keyHash w.params (Str.ofString "gap"), .str (Str.ofString "gap") k3, .int c tc⟩, ⟨PyData.keyHash w.params (Str.ofString "count"), .str (Str.ofString "count") k4, .int k tk⟩] 4
theorem rlines_ok (w : World) (arr : Array UInt8) (ks : List Int) (tb : Tok) (a b c k : Int) (rest : List (Addr × Obj)) (hk' : KBw.bInts arr = ks) (hl : 36 ≤ ks.length) (hl2 : ks.length ≤ 100)
    (ha : ks.getD 4 0 * 256 + ks.getD 5 0 = lowOf a) (hb : ks.getD 6 0 * 256 + ks.getD 7 0 = lowOf b) (hc : ks.getD 8 0 * 256 + ks.getD 9 0 = lowOf c) (hn : ks.getD 34 0 * 256 + ks.getD 35 0 = k)
    (r0 : -32768 ≤ a) (r0' : a ≤ 32767) (r1 : -32768 ≤ b) (r1' : b ≤ 32767) (r2 : -32768 ≤ c) (r2' : c ≤ 32767) :
    Spec w 10 173 [.bytes arr tb] rest (fun v news' => ∃ (x d : Addr) (ta tb tc tk k1 k2 k3 k4 : Tok), v = .ref x ∧ news' = (x, instObj 162 d) :: (d, linesDict w a b c k ta tb tc tk k1 k2 k3 k4) :: rest ∧ @LT.lt Nat _ d x ∧ AllLt d rest) := by
  unfold Spec
  k_fill
  intro mg mb mean dp un gd cn cs ad ccd cl outer A₀ base h₀ L m s Q E B F X N T hk hdp hun hret
  have hdp1 := room_in hdp
  have hun1 := units_in hun
  refine wpAny_call ?_
  k_dflt (refine' code_def ?k1 ?k2 ?k3 ?k4 ?k5 ?kA ?kF ?kK ?k6 ?k7 ?k8 ?k9 ?kB ?_ ?c2 ?c3 ?c4 ?c5; (case kA => exact rfl); (case kF => exact rfl); (case kK => assumption); (case k1 => k_asm); (case k2 => k_asm); (case k3 => k_asm); (case k4 => k_asm); (case k5 => k_asm); (case k6 => k_is); (case k7 => k_is); (case k8 => exact room_0 hdp); (case k9 => exact BindsTo.of_eq rfl); (case c5 => decide); (case kB => exact locs rfl); (case c2 => exact rfl); (case c3 => exact rfl); (case c4 => exact rfl); k_whole; intro g' L' h' FG' F' N' B' X' T'; (try dsimp only); (try k_lift B'); (try k_fold))
  k_steps
  refine' hret _ _ _ _ ⟨_, _, _, _, _, _, _, _, _, _, rfl, rfl, ?o1, ?o2⟩ ?kF ?kN
  (case kF => assumption)
  (case kN => assumption)
  (case o1 => omega)
  (case o2 => first | exact allLt_of (by assumption) | assumption)
/-- lines' words -/
noncomputable abbrev linesWords (a b c wd k : Int) : List Int := wordsOf [1, 0, a, b, c, wd, 0, 0, 0, 1, 0, 0, 0, 0, 0, 0, 0, k]
theorem rlines_c (w : World) {arr : Array UInt8} {tb : Tok} {a b c wd k : Int} {z : List Int} {led : List (Addr × Obj)} (sd : KBw.bInts arr = linesWords a b c wd k ++ z ∧ z.length ≤ 2 ∧ -32768 ≤ a ∧ a ≤ 32767 ∧ -32768 ≤ b ∧ b ≤ 32767 ∧ -32768 ≤ c ∧ c ≤ 32767 ∧ 0 ≤ k) :
    SpecC w 10 173 [.bytes arr tb] led (fun K => ∀ (x d : Addr) (ta tb tc tk k1 k2 k3 k4 : Tok), AllLt d led → @LT.lt Nat _ d x → K (.ref x) ((x, instObj 162 d) :: (d, linesDict w a b c k ta tb tc tk k1 k2 k3 k4) :: led)) := by
  obtain ⟨h, hz, r0, r0', r1, r1', r2, r2', hk⟩ := sd
  have hlen : (linesWords a b c wd k ++ z).length = 36 + z.length := by rw [List.length_append, wordsOf_length]; rfl
  refine (rlines_ok w arr _ tb a b c k led h (by omega) (by omega) (word_eq rfl rfl) (word_eq rfl rfl) (word_eq rfl rfl) (word_at rfl rfl hk) r0 r0' r1 r1' r2 r2').c (fun _ h => h) fun K h v news' hP => ?_
  obtain ⟨x, d, ta, tb, tc, tk, k1, k2, k3, k4, rfl, rfl, h1, h2⟩ := hP
  exact ⟨_, h x d ta tb tc tk k1 k2 k3 k4 h2 h1, fun p hp => hp⟩
theorem wlines_c (w : World) {x d : Addr} {a b c k wd : Int} {ta tb tc tk tw k1 k2 k3 k4 : Tok} {led r1 rest : List (Addr × Obj)} (sd : Pick x (instObj 162 d) led r1 ∧ Pick d (linesDict w a b c k ta tb tc tk k1 k2 k3 k4) r1 rest ∧ -32768 ≤ a ∧ a ≤ 32767 ∧ -32768 ≤ b ∧ b ≤ 32767 ∧ -32768 ≤ c ∧ c ≤ 32767 ∧ 0 ≤ k ∧ k ≤ 65535 ∧ 0 ≤ wd ∧ wd < 65536) :
    SpecC w 8 180 [.ref x, .int wd tw] led (fun K => ∀ (o : Array UInt8) (t : Tok), KBw.bInts o = linesWords a b c wd k → K (.bytes o t) rest) := by
  obtain ⟨P, P2, h0, h0', h1, h1', h2, h2', h3, h3', h4, h4'⟩ := sd
  refine (wlines_ok w x d a b c k wd ta tb tc tk tw k1 k2 k3 k4 rest (by omega) (by omega) (by omega) (by omega) (by omega)).c (P.sub2 P2) fun K h v news' hP => ?_
  obtain ⟨b, t, rfl, rfl, h1⟩ := hP
  exact ⟨_, h b t h1, fun p hp => .tail _ (.tail _ hp)⟩
end
end
theorem anew21 {p : Program} {w : World} {A : Around} {env : Env} {Q : Flow → Shared → Prop} {E : Value → Shared → Prop} {s : Shared} (h : Q .next s) : wpAny (model p w) A (execs [] env) Q E s := by
  walk1
  assumption
section
open PySem PySem.W PyProof.Rows
set_option Elab.async false
set_option maxRecDepth 100000
set_option maxHeartbeats 8000000
section
local macro_rules | `(tactic| k_ne) => `(tactic| first | with_reducible assumption | exact ne_all (by with_reducible assumption) (by k_mem) | exact ne_all' (by with_reducible assumption) (by k_mem) | (with_reducible exact Nat.ne_of_lt (by assumption)) | (with_reducible exact Nat.ne_of_gt (by assumption)) | (refine neN ?_; (try dsimp only); omega))
local macro_rules | `(tactic| walk_at "call ref") => `(tactic| (k_here; (with_reducible show wpAny _ _ (call (Value.ref 222) [Value.ref 173, _]) _ _ _); k_dflt (
  refine' SpecT.to (fell_lines _ _ _ _ (Raiz.mono (lines_falls _ _ _ _ ?hb ?hl) (by decide))) ?B ?F ?X ?N ?T ?hk ?XB ?TB ?D (fun _ h => h) ?hd ?hu ?_
  walk_at "my ctxT"
  (case hb => assumption)
  (case hl => walk_at "my fell")
  k_whole
  intro v' news' h0' h' tk' hP T' F' N' B' X' P' D'
  obtain ⟨hv', hn'⟩ := hP
  subst hv'
  rw [hn'] at N'
  clear hn'
  (try dsimp only)
  (try k_fold))))
local macro_rules | `(tactic| walk_at "CompSrc") => `(tactic| (k_here; k_dflt (
  refine' LCg.CompSrc.range (by rfl) ?F (ledger_sub ?N (Pick.sub (o := listOf #[.int _ _, .int _ _] _) ?P)) ?hr ?sm ?rs ?sz ?_
  (case F => k_asm); (case N => k_asm); (case P => walk_at "my pick"); (case hr => assumption); (case sm => decide); (case rs => exact rangeSize_nat _ _); (case sz => exact Nat.le_of_ble_eq_true rfl)
  intro g'
  refine' comp_draws _ _ (fun z => -32768 ≤ z ∧ z ≤ 32767) ?ha ?hb ?hb2 ?turn ?fin
  (case ha => walk_at "my arith"); (case hb => walk_at "my arith"); (case hb2 => walk_at "my arith")
  (case' turn => intro v' I' oI' C' oC' D' m' ys' a' b' ta' tb' nn' h' tk' E' hC' hx' F' N' off' ne' ha' hb' hb2'; (have off2' := off'); (try simp only [LCg.Off3, and_true] at off2'); (try dsimp only); (try k_fold))
  (case' fin => intro ys' zs' a' b' ta' tb' nn' hl' hi' hz' ha' hb' hb2' D' h' tk' F' N' off'; (try simp only [LCg.Off1, and_true] at off'); (first | (obtain ⟨z1, z2, z3, z4, t1, t2, t3, t4, hzs, hys⟩ := four_ints hl' rfl hi'; subst hys; subst hzs) | (obtain ⟨z1, z2, z3, t1, t2, t3, hzs, hys⟩ := three_ints hl' rfl hi'; subst hys; subst hzs)); (try simp only [List.forall_mem_cons, List.forall_mem_nil, and_true, List.mem_cons, List.not_mem_nil, forall_eq_or_imp, or_false, forall_eq] at hz'); (try dsimp only at hz' ⊢); (try k_fold)))))
local macro_rules | `(tactic| walk_at "CompEnd") => `(tactic| (k_here; k_dflt (
  refine' LCg.CompEnd.intro ?F ?N _ ?sub ?off ?S ⟨_, _, _, _, _, _, _, rfl, ?P, rfl, ?ha, ?hb, ?hb2⟩
  (case F => assumption); (case N => assumption); (case sub => kcf_all); (case off => assumption); (case S => exact True.intro)
  (case ha => assumption); (case hb => assumption); (case hb2 => assumption); (case P => walk_at "my drawn"))))
theorem lines_J2 : True := by
  k_with_none
  k_with "pick" => first | exact Pick.head | exact Pick.tail (by walk_at "pick")
  k_with "ints" => first | assumption | exact IntsAre.nil | exact IntsAre.cons _ _ (by walk_at "ints")
  k_with "range" => first | assumption | exact List.forall_mem_nil _ | decide | (refine List.forall_mem_cons.mpr (and2 ?_ ?_) <;> walk_at "range") | (refine and2 ?_ ?_ <;> walk_at "range") | omega
  k_with "restin" => first | exact fun _ h => h | (refine sub_tail ?_; walk_at "restin")
  k_with "side" => ((repeat' refine and2 ?_ ?_) <;> walk_at "side1")
  k_with "side1" => first | with_reducible assumption | ((with_reducible show Pick _ _ _ _); walk_at "pick") | ((with_reducible show IntsAre _ _); walk_at "ints") | ((with_reducible show ∀ p ∈ _, Prod.fst p ≠ _); k_all) | ((with_reducible show ∀ x ∈ _, _ ≤ x ∧ x ≤ _); walk_at "range") | ((with_reducible show ∀ p ∈ _, p ∈ _); first | walk_at "restin" | exact Pick.sub (by walk_at "pick")) | ((with_reducible show @LE.le Nat _ _ _); first | exact Nat.le_of_ble_eq_true rfl | omega) | ((with_reducible show KBw.bInts _ = _); assumption) | ((with_reducible show _ ≠ _); k_ne) | exact True.intro | assumption | exact rfl | decide | omega
  k_with "zroom" => (first | exact room_d (by assumption) (by decide) | (trace "ROOM"; omega) | ktr_room)
  k_with "zunits" => (first | exact room_u (by assumption) (by decide) | (trace "UNITS"; ktr_units))
  k_with "zend" => ((try dsimp only); (try k_fold))
  k_with "my len" => first | exact Nat.le_of_ble_eq_true rfl | omega | (simp only [wordsOf_length, List.length_append, List.length_take, List.length_replicate, List.length_drop, List.length_cons, List.length_nil]; omega)
  k_with "my dec" => ((try simp only [decide_eq_true_eq, decide_eq_false_iff_not, Bool.and_eq_true, Bool.not_eq_true', Bool.not_eq_false', Bool.not_eq_true, bne_iff_ne, ne_eq, Bool.not_eq_eq_eq_not, not_true_eq_false, not_false_eq_true]); first | done | omega)
  k_with "ite" => (k_here; k_openite; first | (refine ite_pos (by walk_at "my dec") ?_) | (refine ite_neg (by walk_at "my dec") ?_))
  k_with "compareOp NotEq bytes bytes" => (k_here; refine ne_same (by assumption) (by assumption) (by first | rfl | assumption | (k_dflt exact rfl)) ?_)
  k_with "call type:bytes" => (k_here; (with_reducible show wpAny _ _ (call (Value.type _) [Value.int _ _]) _ _ _); refine bytes_int_ks (by first | decide | omega) (by first | decide | omega) rfl ?_; intro b' t' k' hb'; (try simp only [Int.reduceToNat, List.reduceReplicate] at hb'))
  k_with "subscriptTail Name Constant ref int" => (k_here; (with_reducible show wpAny _ _ (subscriptTail (Expr.Name _ _) (Expr.Constant _ _ _) (Value.ref _) (Value.int _ _)) _ _ _); k_dflt (refine lit_item_N (by k_asm) (by k_mem) rfl rfl (by decide) (by decide) rfl (by with_unfolding_all rfl) ?_; k_whole))
  k_with "binaryOp Add bytes bytes" => (k_here; (with_reducible show wpAny _ _ (binaryOp _ (Value.bytes _ _) (Value.bytes _ _)) _ _ _); refine KBa.add_K (by assumption) (by assumption) (by walk_at "my len") ?_; intro t' k' kbaApp)
  k_with "call builtin:len" => (k_here; (with_reducible show wpAny _ _ (call (Value.builtin _) [Value.bytes _ _]) _ _ _); refine len_at (by assumption) (by ((try simp only [wordsOf_length, List.length_append, List.length_take, List.length_replicate, List.length_drop, List.length_cons, List.length_nil]); exact rfl)) (by omega) ?_; intro u' k')
  k_with "subscriptTail" => (k_here; (with_reducible show wpAny _ _ (subscriptTail _ (Expr.Slice _ _ none _) (Value.bytes _ _) (Value.ref _)) _ _ _); (with_reducible rename Fr _ _ _ _ => F'); (with_reducible rename News _ _ _ _ => N'); (refine KBc.slice_K (s := ⟨_, _, _, _, _⟩) F' N' (by kba_ints) (by constructor) (by constructor) (by walk_at "my len") ?_); intro _ _ _ _ _ kbcK; (try simp only [Option.elim, KBc.clip_lit, clipAt_nat, List.drop_zero, Nat.sub_zero] at kbcK))
  k_with "call type:tuple" => (k_here; (with_reducible show wpAny _ _ (call (Value.type _) [Value.ref _]) _ _ _); k_dflt (refine tuple_same_N (by k_asm) (by k_mem) rfl rfl ?_; k_whole))
  k_with "callWith ref" => (k_here; (with_reducible show wpAny _ _ (callWith _ (Prod.fst _) (Prod.snd _) _ _) _ _ _); k_dflt (refine callWith_F (by with_reducible assumption) (by with_reducible assumption) (by k_is) ?_; k_whole))
  k_with "call ref" => ((with_reducible show wpAny _ _ (call (Value.ref 194) _) _ _ _); ktr_call 194 (take_c _); (intro _ _ _ _ _ _ _ _ _ _ _ _ _ _ _ _); walk_at "zend")
  k_with "call ref" => ((with_reducible show wpAny _ _ (call (Value.ref 201) _) _ _ _); ktr_call 201 (one_c _ (0) (65535)); (intro _ _ _ _ _ _ _ _ _ _ _ _ _ _ _ _); walk_at "zend")
  k_with "call ref" => ((with_reducible show wpAny _ _ (call (Value.ref 208) _) _ _ _); ktr_call 208 (signed_c _); (intro _ _ _ _ _ _ _ _ _ _ _ _ _ _ _ _); walk_at "zend")
  k_with "call ref" => ((with_reducible show wpAny _ _ (call (Value.ref 215) _) _ _ _); ktr_call 215 (words_c _); (intro _ _ _ _ _ _ _); walk_at "zend")
  k_with "call ref" => ((with_reducible show wpAny _ _ (call (Value.ref 180) _) _ _ _); ktr_call 180 (wlines_c _); (intro _ _ _ _ _ _ _); walk_at "zend")
  k_with "call ref" => ((with_reducible show wpAny _ _ (call (Value.ref 173) _) _ _ _); ktr_call 173 (rlines_c _); (intro _ _ _ _ _ _ _ _ _ _ o3' _ _ _ _ N'); (try dsimp only [linesDict] at N'); (try dsimp only [AllLt] at o3'); walk_at "zend")
  k_with "my fell" => exact take_lt (by first | assumption | omega) (by first | assumption | omega)
  k_with "my ctxT" => ((case B => k_asm); (case F => k_asm); (case X => k_asm); (case T => k_asm); (case N => k_asm); (case hk => first | exact rfl | assumption); (case XB => assumption); (case TB => assumption); (case D => assumption); (case hd => walk_at "zroom"); (case hu => walk_at "zunits"))
  k_with "my drawn" => ((try dsimp only); first | (constructor <;> omega) | ((rename (_ : Int) ∈ _ => hm); simp only [List.mem_cons, List.not_mem_nil, or_false] at hm; constructor <;> omega))
  k_with "my pick" => walk_at "pick"
  k_with "my arith" => first | assumption | decide | omega
  trivial
theorem lines_right_ok (w : World) (src : Addr) (a b : Int) (ta tb : Tok) (n : Nat) (rest : List (Addr × Obj)) (hne : ∀ p ∈ rest, p.1 ≠ src) (ha : 0 ≤ a) (hb : 0 ≤ b) (hb2 : b < 2147483647) :
    SpecT w 30 239 [.ref src] ((src, listOf #[.int a ta, .int b tb] n) :: rest) (fun v news' => v = .bool true ∧ ∃ (a' b' : Int) (ta' tb' : Tok) (n' : Nat), news' = (src, listOf #[.int a' ta', .int b' tb'] n') :: rest ∧ 0 ≤ a' ∧ 0 ≤ b' ∧ b' < 2147483647) := by
  unfold SpecT
  k_fill
  intro mg mb mean dp un gd cn cs ad ccd cl outer A₀ base h₀ L m s Q E B F X N T hk XB TB D hdp hun hret
  have hdp1 := room_in hdp
  have hdp2 := room_in hdp1
  have hun1 := units_in hun
  refine wpAny_call ?_
  k_dflt (refine' code_defSC (g₀ := h₀) ?k1 ?k2 ?k3 ?k4 ?k5 ?XB ?TB ?D ?T0 ?kA ?kF ?cK ?k6 ?k7 ?k8 ?k9 ?kB ?kD ?_ ?c2 ?c3 ?c4; (case kA => exact rfl); (case kF => exact rfl); (case cK => assumption); (case k2 => k_asm); (case k1 => k_asm); (case XB => assumption); (case TB => assumption); (case D => assumption); (case T0 => exact KtsTurn.refl); (case k3 => k_asm); (case k4 => k_asm); (case k5 => k_asm); (case k6 => k_is); (case k7 => k_is); (case k8 => exact room_0 hdp); (case k9 => first | exact BindsTo.of_eq rfl | exact binds_K (by k_in) rfl (by k_is) rfl rfl rfl); (case kB => exact rfl); (case kD => decide +kernel); (case c2 => exact rfl); (case c3 => exact rfl); (case c4 => exact rfl); k_whole; intro g' L' h' tk' cells' FG' F' N' Y' B' X' T' D' l1; (try k_lt l1); k_cells Y'; (try simp only [List.cons_append, List.nil_append] at N'); (try dsimp only); (try k_lift B'); (try k_fold))
  k_steps
  refine' hret _ ((src, listOf #[.int _ _, .int _ _] _) :: rest) _ _ _ ⟨rfl, _, _, _, _, _, rfl, ?e1, ?e2, ?e3⟩ ?kT ?kF (ledger_sub ?kN ?ks) ?kB ?kX ?kP ?kD
  (case kT => assumption); (case kF => assumption); (case kN => assumption); (case ks => kcf_all); (case kB => assumption); (case kX => assumption); (case kP => assumption); (case kD => assumption)
  (case e1 => assumption); (case e2 => assumption); (case e3 => assumption)
end
end
theorem anew22 {p : Program} {w : World} {A : Around} {env : Env} {Q : Flow → Shared → Prop} {E : Value → Shared → Prop} {s : Shared} (h : Q .next s) : wpAny (model p w) A (execs [] env) Q E s := by
  walk1
  assumption
section
open PySem PySem.W PyProof.Rows
set_option Elab.async false
set_option maxRecDepth 100000
set_option maxHeartbeats 8000000
section
local macro_rules | `(tactic| k_ne) => `(tactic| first | with_reducible assumption | exact ne_all (by with_reducible assumption) (by k_mem) | exact ne_all' (by with_reducible assumption) (by k_mem) | (with_reducible exact Nat.ne_of_lt (by assumption)) | (with_reducible exact Nat.ne_of_gt (by assumption)) | (refine neN ?_; (try dsimp only); omega))
local macro_rules | `(tactic| walk_at "call ref") => `(tactic| (k_here; (with_reducible show wpAny _ _ (call (Value.ref 222) [Value.ref 117, _]) _ _ _); k_dflt (
  refine' SpecT.to (fell_head _ _ _ _ ?hfl) ?B ?F ?X ?N ?T ?hk ?XB ?TB ?D (fun _ h => h) ?hd ?hu ?_
  walk_at "my ctxT"
  (case hfl => assumption)
  k_whole
  intro v' news' h0' h' tk' hP T' F' N' B' X' P' D'
  obtain ⟨hv', hn'⟩ := hP
  subst hv'
  rw [hn'] at N'
  clear hn'
  (try dsimp only)
  (try k_fold))))
local macro_rules | `(tactic| walk_at "eval ListComp") => `(tactic| (k_here; k_dflt (
  refine' ListComp_no ?q1 ?q2 ?q3 ?q4 ?q5 ?q6 ?q7
  (case q1 => with_unfolding_all rfl); (case q2 => decide); (case q3 => rfl); (case q4 => decide); (case q5 => rfl); (case q6 => rfl)
  (case' q7 =>
    refine' ld ?k1 ?k2 ?k3
    (case k1 => k_asm); (case k2 => exact rfl)
    (case' k3 => refine' NoSrc.intro (k := 10) (f := 117) ?hfs ?hf ?T ?F ?N ?B ?X ?P ?D ?hm ?hv ?turn ?fin))
  (case F => k_asm); (case B => k_asm); (case N => k_asm); (case hfs => exact rfl); (case X => with_reducible assumption); (case P => k_asm); (case D => assumption); (case T => exact KtsTurn.refl)
  (case hm => k_mem); (case hv => exact List.push_toArray _ _)
  (case hf => walk_at "my wrongs")
  k_whole
  (case' turn => intro arr' t' I' oI' C' oC' D' m' g' h' tk' E' hr' hC' hx' T' F' N' B' X' P' DD'; (try dsimp only); (try k_fold))
  (case' fin => intro D' g' h' tk' T' F' N' B' X' P' DD' o1'; (try simp only [LCg.Off1, and_true] at o1'); (try dsimp only); (try k_fold)))))
local macro_rules | `(tactic| walk_at "TestNo") => `(tactic| (k_here; k_dflt (
  refine' TestNo.intro ?hfs ?T ?F ?N ?hs ?B ?X ?P ?D
  (case F => k_asm); (case B => k_asm); (case N => k_asm); (case hfs => exact rfl); (case X => with_reducible assumption); (case P => k_asm); (case D => assumption); (case T => exact KtsTurn.trans (by assumption) (by assumption))
  (case hs => kcf_all))))
theorem lines_J3 : True := by
  k_with_none
  k_with "pick" => first | exact Pick.head | exact Pick.tail (by walk_at "pick")
  k_with "ints" => first | assumption | exact IntsAre.nil | exact IntsAre.cons _ _ (by walk_at "ints")
  k_with "range" => first | assumption | exact List.forall_mem_nil _ | decide | (refine List.forall_mem_cons.mpr (and2 ?_ ?_) <;> walk_at "range") | (refine and2 ?_ ?_ <;> walk_at "range") | omega
  k_with "restin" => first | exact fun _ h => h | (refine sub_tail ?_; walk_at "restin")
  k_with "side" => ((repeat' refine and2 ?_ ?_) <;> walk_at "side1")
  k_with "side1" => first | with_reducible assumption | ((with_reducible show Pick _ _ _ _); walk_at "pick") | ((with_reducible show IntsAre _ _); walk_at "ints") | ((with_reducible show ∀ p ∈ _, Prod.fst p ≠ _); k_all) | ((with_reducible show ∀ x ∈ _, _ ≤ x ∧ x ≤ _); walk_at "range") | ((with_reducible show ∀ p ∈ _, p ∈ _); first | walk_at "restin" | exact Pick.sub (by walk_at "pick")) | ((with_reducible show @LE.le Nat _ _ _); first | exact Nat.le_of_ble_eq_true rfl | omega) | ((with_reducible show KBw.bInts _ = _); assumption) | ((with_reducible show _ ≠ _); k_ne) | exact True.intro | assumption | exact rfl | decide | omega
  k_with "zroom" => (first | exact room_d (by assumption) (by decide) | (trace "ROOM"; omega) | ktr_room)
  k_with "zunits" => (first | exact room_u (by assumption) (by decide) | (trace "UNITS"; ktr_units))
  k_with "zend" => ((try dsimp only); (try k_fold))
  k_with "my len" => first | exact Nat.le_of_ble_eq_true rfl | omega | (simp only [wordsOf_length, List.length_append, List.length_take, List.length_replicate, List.length_drop, List.length_cons, List.length_nil]; omega)
  k_with "my dec" => ((try simp only [decide_eq_true_eq, decide_eq_false_iff_not, Bool.and_eq_true, Bool.not_eq_true', Bool.not_eq_false', Bool.not_eq_true, bne_iff_ne, ne_eq, Bool.not_eq_eq_eq_not, not_true_eq_false, not_false_eq_true]); first | done | omega)
  k_with "ite" => (k_here; k_openite; first | (refine ite_pos (by walk_at "my dec") ?_) | (refine ite_neg (by walk_at "my dec") ?_))
  k_with "compareOp NotEq bytes bytes" => (k_here; refine ne_same (by assumption) (by assumption) (by first | rfl | assumption | (k_dflt exact rfl)) ?_)
  k_with "call type:bytes" => (k_here; (with_reducible show wpAny _ _ (call (Value.type _) [Value.int _ _]) _ _ _); refine bytes_int_ks (by first | decide | omega) (by first | decide | omega) rfl ?_; intro b' t' k' hb'; (try simp only [Int.reduceToNat, List.reduceReplicate] at hb'))
  k_with "subscriptTail Name Constant ref int" => (k_here; (with_reducible show wpAny _ _ (subscriptTail (Expr.Name _ _) (Expr.Constant _ _ _) (Value.ref _) (Value.int _ _)) _ _ _); k_dflt (refine lit_item_N (by k_asm) (by k_mem) rfl rfl (by decide) (by decide) rfl (by with_unfolding_all rfl) ?_; k_whole))
  k_with "binaryOp Add bytes bytes" => (k_here; (with_reducible show wpAny _ _ (binaryOp _ (Value.bytes _ _) (Value.bytes _ _)) _ _ _); refine KBa.add_K (by assumption) (by assumption) (by walk_at "my len") ?_; intro t' k' kbaApp)
  k_with "call builtin:len" => (k_here; (with_reducible show wpAny _ _ (call (Value.builtin _) [Value.bytes _ _]) _ _ _); refine len_at (by assumption) (by ((try simp only [wordsOf_length, List.length_append, List.length_take, List.length_replicate, List.length_drop, List.length_cons, List.length_nil]); exact rfl)) (by omega) ?_; intro u' k')
  k_with "subscriptTail" => (k_here; (with_reducible show wpAny _ _ (subscriptTail _ (Expr.Slice _ _ none _) (Value.bytes _ _) (Value.ref _)) _ _ _); (with_reducible rename Fr _ _ _ _ => F'); (with_reducible rename News _ _ _ _ => N'); (refine KBc.slice_K (s := ⟨_, _, _, _, _⟩) F' N' (by kba_ints) (by constructor) (by constructor) (by walk_at "my len") ?_); intro _ _ _ _ _ kbcK; (try simp only [Option.elim, KBc.clip_lit, clipAt_nat, List.drop_zero, Nat.sub_zero] at kbcK))
  k_with "call type:tuple" => (k_here; (with_reducible show wpAny _ _ (call (Value.type _) [Value.ref _]) _ _ _); k_dflt (refine tuple_same_N (by k_asm) (by k_mem) rfl rfl ?_; k_whole))
  k_with "callWith ref" => (k_here; (with_reducible show wpAny _ _ (callWith _ (Prod.fst _) (Prod.snd _) _ _) _ _ _); k_dflt (refine callWith_F (by with_reducible assumption) (by with_reducible assumption) (by k_is) ?_; k_whole))
  k_with "call ref" => ((with_reducible show wpAny _ _ (call (Value.ref 194) _) _ _ _); ktr_call 194 (take_c _); (intro _ _ _ _ _ _ _ _ _ _ _ _ _ _ _ _); walk_at "zend")
  k_with "call ref" => ((with_reducible show wpAny _ _ (call (Value.ref 201) _) _ _ _); ktr_call 201 (one_c _ (0) (65535)); (intro _ _ _ _ _ _ _ _ _ _ _ _ _ _ _ _); walk_at "zend")
  k_with "call ref" => ((with_reducible show wpAny _ _ (call (Value.ref 201) _) _ _ _); ktr_call 201 (one_c _ (16) (16384)); (intro _ _ _ _ _ _ _ _ _ _ _ _ _ _ _ _); walk_at "zend")
  k_with "call ref" => ((with_reducible show wpAny _ _ (call (Value.ref 124) _) _ _ _); ktr_call 124 (whead_c _); (intro _ _ _ _ _ _ N'); (try dsimp only [headDict, tup4] at N'); walk_at "zend")
  k_with "call ref" => ((with_reducible show wpAny _ _ (call (Value.ref 215) _) _ _ _); ktr_call 215 (words_c _); (intro _ _ _ _ _ _ _); walk_at "zend")
  k_with "call ref" => ((with_reducible show wpAny _ _ (call (Value.ref 117) _) _ _ _); ktr_call 117 (rhead_c _); (intro _ _ _ _ _ _ _ _ _ _ _ _ _ _ _ _ o3' _ _ _ _ _ N'); (try dsimp only [headDict, tup4] at N'); (try dsimp only [AllLt] at o3'); walk_at "zend")
  k_with "call ref" => ((with_reducible show wpAny _ _ (call (Value.ref 229) _) _ _ _); ktr_call 229 (with_c _); (intro _ _ _ _ _ _ _); walk_at "zend")
  k_with "call ref" => ((with_reducible show wpAny _ _ (call (Value.ref 229) [_, Value.int 18 _, _]) _ _ _); ktr_call 229 (withk_c _); (intro _ _ _ _ _ _ _); walk_at "zend")
  k_with "my ctxT" => ((case B => k_asm); (case F => k_asm); (case X => k_asm); (case T => k_asm); (case N => k_asm); (case hk => first | exact rfl | assumption); (case XB => assumption); (case TB => assumption); (case D => assumption); (case hd => walk_at "zroom"); (case hu => walk_at "zunits"))
  k_with "my wrongs" => ((show AllFall _ _ _ [_, _, _, _, _]); exact .cons (fall_few _ _ _ (by assumption)) (.cons (fall_many _ _ _ (by assumption)) (.cons (fall_form _ _ _ (by assumption) (by omega) (by omega)) (.cons (fall_short _ _ _ (by assumption)) (.cons (fall_magic _ _ _ (by assumption) (by assumption) (by assumption)) .nil)))))
  trivial
theorem head_right_ok (w : World) (src bx : Addr) (a b : Int) (ta tb : Tok) (n : Nat) (b0 b1 b2 b3 : Int) (t0 t1 t2 t3 : Tok) (nb : Nat) (rest : List (Addr × Obj)) (hne : ∀ p ∈ rest, p.1 ≠ src) (hbs : bx ≠ src) (ha : 0 ≤ a) (hb : 0 ≤ b) (hb2 : b < 2147483647)
    (h0 : -32768 ≤ b0 ∧ b0 ≤ 32767) (h1 : -32768 ≤ b1 ∧ b1 ≤ 32767) (h2 : -32768 ≤ b2 ∧ b2 ≤ 32767) (h3 : -32768 ≤ b3 ∧ b3 ≤ 32767) :
    SpecT w 30 234 [.ref src, .ref bx] ((src, listOf #[.int a ta, .int b tb] n) :: (bx, tup4 b0 b1 b2 b3 t0 t1 t2 t3 nb) :: rest) (fun v news' => v = .bool true ∧ ∃ (a' b' : Int) (ta' tb' : Tok) (n' : Nat), news' = (src, listOf #[.int a' ta', .int b' tb'] n') :: (bx, tup4 b0 b1 b2 b3 t0 t1 t2 t3 nb) :: rest ∧ 0 ≤ a' ∧ 0 ≤ b' ∧ b' < 2147483647) := by
  unfold tup4
  obtain ⟨⟨_, _⟩, ⟨_, _⟩, ⟨_, _⟩, ⟨_, _⟩⟩ := And.intro h0 (And.intro h1 (And.intro h2 h3))
  unfold SpecT
  k_fill
  intro mg mb mean dp un gd cn cs ad ccd cl outer A₀ base h₀ L m s Q E B F X N T hk XB TB D hdp hun hret
  have hdp1 : dp + 1 + 29 < recursionLimit := hdp
  have hdp2 : dp + 1 + 1 + 28 < recursionLimit := hdp
  have hun1 : un + 3 + 8 * 29 < cLine := units_in hun
  refine wpAny_call ?_
  k_dflt (refine' code_defSX (g₀ := h₀) ?k1 ?k2 ?k3 ?k4 ?k5 ?XB ?TB ?D ?T0 ?kA ?kF ?cK ?k6 ?k7 ?k8 ?k9 ?kB ?_ ?c2 ?c3 ?c4 ?c5; (case kA => exact rfl); (case kF => exact rfl); (case cK => assumption); (case k2 => k_asm); (case k1 => k_asm); (case XB => assumption); (case TB => assumption); (case D => assumption); (case T0 => exact KtsTurn.refl); (case k3 => k_asm); (case k4 => k_asm); (case k5 => k_asm); (case k6 => k_is); (case k7 => k_is); (case k8 => exact room_0 hdp); (case k9 => first | exact BindsTo.of_eq rfl | exact binds_K (by k_in) rfl (by k_is) rfl rfl rfl); (case kB => exact locs rfl); (case c2 => exact rfl); (case c3 => exact rfl); (case c4 => exact rfl); (case c5 => decide); k_whole; intro g' L' h' FG' F' N' B' X' T' D' l1'; clear l1'; (try dsimp only); (try k_lift B'); (try k_fold))
  k_steps
  refine' hret _ ((src, listOf #[.int _ _, .int _ _] _) :: (bx, tup4 b0 b1 b2 b3 t0 t1 t2 t3 nb) :: rest) _ _ _ ⟨rfl, _, _, _, _, _, rfl, ?e1, ?e2, ?e3⟩ ?kT ?kF (ledger_sub ?kN ?ks) ?kB ?kX ?kP ?kD
  (case kT => assumption); (case kF => assumption); (case kN => assumption); (case ks => kcf_all); (case kB => assumption); (case kX => assumption); (case kP => assumption); (case kD => assumption)
  (case e1 => assumption); (case e2 => assumption); (case e3 => assumption)
end
end
section
open PySem PySem.W PyProof.Rows
set_option Elab.async false
/-- a contract of a call that catches, told by what comes after it -/
def SpecTC (w : World) (k : Nat) (f : Addr) (vs : List Value) (led : List (Addr × Obj)) (Post : (Value → List (Addr × Obj) → Prop) → Prop) : Prop :=
  ∀ (mg mb : Str → Option Value) (mean : ExcName → Option Value) (dp un : Nat) (gd : Option (List Code)) (cn : Str) (cs : Scope) (ad : Addr) (ccd : Value) (cl : List (Str × Addr)) (A₀ : Around) (base h₀ : Heap) (L : Addr) (m : Str → Option Value) (s : Shared) (Q E : Value → Shared → Prop),
  Below A₀ base [] h₀ → Fr h₀ L s.heap m → (hd.heap_39 w.params).In h₀ → News h₀ L s.heap led → Top hd.view_39 (looseW hd.view_39 []) mean mg mb h₀ → cs.kind = .function →
  (hd.heap_39 w.params).In base → Top hd.view_39 (looseW hd.view_39 []) mean mg mb base → dp + k < recursionLimit → un + 8 * k < cLine →
  Post (fun v news' => ∀ (h₀' h' : Heap) (tk' : Nat), Fr h₀' L h' m → News h₀' L h' news' → Below A₀ base [] h₀' → (hd.heap_39 w.params).In h₀' → Top hd.view_39 (looseW hd.view_39 []) mean mg mb h₀' → Q v { s with heap := h', toks := tk' }) →
  wpAny (model (PySem.Challenge.rw_on0229_01).prog w) (ktrTop dp un gd cn cs L ad ccd cl []) (call (.ref f) vs) Q E s
theorem SpecT.c {w : World} {k : Nat} {f : Addr} {vs : List Value} {news led : List (Addr × Obj)} {Post : Value → List (Addr × Obj) → Prop} {PostC : (Value → List (Addr × Obj) → Prop) → Prop} (S : SpecT w k f vs news Post) (hsub : ∀ p ∈ news, p ∈ led) (h : ∀ K, PostC K → ∀ v n, Post v n → K v n) : SpecTC w k f vs led PostC := by
  intro mg mb mean dp un gd cn cs ad ccd cl A₀ base h₀ L m s Q E B F X N T hk XB TB hd hu ret
  exact S mg mb mean dp un gd cn cs ad ccd cl [] A₀ base h₀ L m s Q E B F X (fun p hp => N p (hsub p hp)) T hk XB TB ktsDicts_nil hd hu fun v news' h₀' h' tk' hP _ F' N' B' X' T' _ => h _ ret v news' hP h₀' h' tk' F' N' B' X' T'
theorem SpecTC.to {w : World} {k : Nat} {f : Addr} {vs : List Value} {led : List (Addr × Obj)} {Post : (Value → List (Addr × Obj) → Prop) → Prop} (S : SpecTC w k f vs led Post)
    {mg mb : Str → Option Value} {mean : ExcName → Option Value} {dp un : Nat} {gd : Option (List Code)} {cn : Str} {cs : Scope} {ad : Addr} {ccd : Value} {cl : List (Str × Addr)} {A₀ : Around} {base h₀ : Heap} {L : Addr} {m : Str → Option Value} {s : Shared} {Q E : Value → Shared → Prop}
    (B : Below A₀ base [] h₀) (F : Fr h₀ L s.heap m) (X : (hd.heap_39 w.params).In h₀) (N : News h₀ L s.heap led) (T : Top hd.view_39 (looseW hd.view_39 []) mean mg mb h₀) (hk : cs.kind = .function) (XB : (hd.heap_39 w.params).In base) (TB : Top hd.view_39 (looseW hd.view_39 []) mean mg mb base) (hd : dp + k < recursionLimit) (hu : un + 8 * k < cLine)
    (ret : Post (fun v news' => ∀ (h₀' h' : Heap) (tk' : Nat), Fr h₀' L h' m → News h₀' L h' news' → Below A₀ base [] h₀' → (Mine.hd.heap_39 w.params).In h₀' → Top Mine.hd.view_39 (looseW Mine.hd.view_39 []) mean mg mb h₀' → Q v { s with heap := h', toks := tk' })) :
    wpAny (model (PySem.Challenge.rw_on0229_01).prog w) (ktrTop dp un gd cn cs L ad ccd cl []) (call (.ref f) vs) Q E s :=
  S mg mb mean dp un gd cn cs ad ccd cl A₀ base h₀ L m s Q E B F X N T hk XB TB hd hu ret
/-- what a call that draws hands back -/
abbrev Drawn (src : Addr) (rest : List (Addr × Obj)) (K : Value → List (Addr × Obj) → Prop) : Prop :=
  ∀ (a' b' : Int) (ta' tb' : Tok) (n' : Nat), 0 ≤ a' → 0 ≤ b' → b' < 2147483647 → K (.bool true) ((src, listOf #[.int a' ta', .int b' tb'] n') :: rest)
theorem lines_right_c (w : World) {src : Addr} {a b : Int} {ta tb : Tok} {n : Nat} {led rest : List (Addr × Obj)} (sd : Pick src (listOf #[.int a ta, .int b tb] n) led rest ∧ (∀ p ∈ rest, p.1 ≠ src) ∧ 0 ≤ a ∧ 0 ≤ b ∧ b < 2147483647) : SpecTC w 30 239 [.ref src] led (Drawn src rest) := by
  obtain ⟨P, h1, h2, h3, h4⟩ := sd
  refine (lines_right_ok w src a b ta tb n rest h1 h2 h3 h4).c P.sub fun K h v news' hP => ?_
  obtain ⟨rfl, a', b', ta', tb', n', rfl, g1, g2, g3⟩ := hP
  exact h a' b' ta' tb' n' g1 g2 g3
theorem count_right_c (w : World) {src : Addr} {a b : Int} {ta tb : Tok} {n : Nat} {led rest : List (Addr × Obj)} (sd : Pick src (listOf #[.int a ta, .int b tb] n) led rest ∧ (∀ p ∈ rest, p.1 ≠ src) ∧ 0 ≤ a ∧ 0 ≤ b ∧ b < 2147483647) : SpecTC w 30 244 [.ref src] led (Drawn src rest) := by
  obtain ⟨P, h1, h2, h3, h4⟩ := sd
  refine (count_right_ok w src a b ta tb n rest h1 h2 h3 h4).c P.sub fun K h v news' hP => ?_
  obtain ⟨rfl, a', b', ta', tb', n', rfl, g1, g2, g3⟩ := hP
  exact h a' b' ta' tb' n' g1 g2 g3
theorem head_right_c (w : World) {src bx : Addr} {a b : Int} {ta tb : Tok} {n : Nat} {b0 b1 b2 b3 : Int} {t0 t1 t2 t3 : Tok} {nb : Nat} {led r rest : List (Addr × Obj)} (sd : Pick src (listOf #[.int a ta, .int b tb] n) led r ∧ Pick bx (tup4 b0 b1 b2 b3 t0 t1 t2 t3 nb) r rest ∧ (∀ p ∈ rest, p.1 ≠ src) ∧ bx ≠ src ∧ 0 ≤ a ∧ 0 ≤ b ∧ b < 2147483647 ∧ -32768 ≤ b0 ∧ b0 ≤ 32767 ∧ -32768 ≤ b1 ∧ b1 ≤ 32767 ∧ -32768 ≤ b2 ∧ b2 ≤ 32767 ∧ -32768 ≤ b3 ∧ b3 ≤ 32767) :
    SpecTC w 30 234 [.ref src, .ref bx] led (Drawn src ((bx, tup4 b0 b1 b2 b3 t0 t1 t2 t3 nb) :: rest)) := by
  obtain ⟨P, P2, h1, h2, h3, h4, h5, r0, r0', r1, r1', r2, r2', r3, r3'⟩ := sd
  refine (head_right_ok w src bx a b ta tb n b0 b1 b2 b3 t0 t1 t2 t3 nb rest h1 h2 h3 h4 h5 ⟨r0, r0'⟩ ⟨r1, r1'⟩ ⟨r2, r2'⟩ ⟨r3, r3'⟩).c (P.sub2 P2) fun K h v news' hP => ?_
  obtain ⟨rfl, a', b', ta', tb', n', rfl, g1, g2, g3⟩ := hP
  exact h a' b' ta' tb' n' g1 g2 g3
end
theorem anew23 {p : Program} {w : World} {A : Around} {env : Env} {Q : Flow → Shared → Prop} {E : Value → Shared → Prop} {s : Shared} (h : Q .next s) : wpAny (model p w) A (execs [] env) Q E s := by
  walk1
  assumption
section
open PySem PySem.W PyProof.Rows
set_option Elab.async false
set_option maxRecDepth 100000
set_option maxHeartbeats 8000000
section
local macro_rules | `(tactic| walk_at "eval ListComp") => `(tactic| k_extra "eval ListComp")
local macro_rules | `(tactic| walk_at "CompSrc") => `(tactic| (k_here; k_dflt (
  refine' LCg.CompSrc.range (by rfl) ?F (ledger_sub ?N (Pick.sub (o := listOf #[.int _ _, .int _ _] _) ?P)) ?hr ?sm ?rs ?sz ?_
  (case F => k_asm); (case N => k_asm); (case P => walk_at "my pick"); (case hr => assumption); (case sm => decide); (case rs => exact rangeSize_nat _ _); (case sz => exact Nat.le_of_ble_eq_true rfl)
  intro g'
  refine' comp_draws _ _ (fun z => -32768 ≤ z ∧ z ≤ 32767) ?ha ?hb ?hb2 ?turn ?fin
  (case ha => walk_at "my arith"); (case hb => walk_at "my arith"); (case hb2 => walk_at "my arith")
  (case' turn => intro v' I' oI' C' oC' D' m' ys' a' b' ta' tb' nn' h' tk' E' hC' hx' F' N' off' ne' ha' hb' hb2'; (have off2' := off'); (try simp only [LCg.Off3, and_true] at off2'); (try dsimp only); (try k_fold))
  (case' fin => intro ys' zs' a' b' ta' tb' nn' hl' hi' hz' ha' hb' hb2' D' h' tk' F' N' off'; (try simp only [LCg.Off1, and_true] at off'); (first | (obtain ⟨z1, z2, z3, z4, t1, t2, t3, t4, hzs, hys⟩ := four_ints hl' rfl hi'; subst hys; subst hzs) | (obtain ⟨z1, z2, z3, t1, t2, t3, hzs, hys⟩ := three_ints hl' rfl hi'; subst hys; subst hzs)); (try simp only [List.forall_mem_cons, List.forall_mem_nil, and_true, List.mem_cons, List.not_mem_nil, forall_eq_or_imp, or_false, forall_eq] at hz'); (try dsimp only at hz' ⊢); (try k_fold)))))
local macro_rules | `(tactic| walk_at "CompEnd") => `(tactic| (k_here; k_dflt (
  refine' LCg.CompEnd.intro ?F ?N _ ?sub ?off ?S ⟨_, _, _, _, _, _, _, rfl, ?P, rfl, ?ha, ?hb, ?hb2⟩
  (case F => assumption); (case N => assumption); (case sub => kcf_all); (case off => assumption); (case S => exact True.intro)
  (case ha => assumption); (case hb => assumption); (case hb2 => assumption); (case P => walk_at "my drawn"))))
local macro_rules | `(tactic| walk_at "call ref") => `(tactic| (k_here; (with_reducible show wpAny _ _ (call (Value.ref 187) _) _ _ _); k_dflt (
  refine' SpecL.to (pool_ok _ _ _ _ _ ?hI ?hlen) ?B ?F ?X ?N ?L ?T ?hk (fun _ h => h) ?hd ?hu ?_
  (case B => k_asm); (case F => k_asm); (case X => with_reducible assumption); (case T => k_asm); (case N => k_asm); (case hk => exact rfl); (case hd => walk_at "zroom"); (case hu => walk_at "zunits")
  (case hI => assumption)
  (case L => assumption)
  (case hlen => omega)
  k_whole
  intro _ _ _ _ _ _ _ _ _ o1' _ _ _ _
  (try dsimp only [AllLt] at o1')
  walk_at "zend")))
local macro_rules | `(tactic| ktn_call $x $c) => `(tactic| (k_here; k_dflt (
  refine' SpecTC.to ($c ?sd) ?B ?F ?X ?N ?T ?hk ?XB ?TB ?hd ?hu ?_
  (case B => k_asm); (case F => k_asm); (case X => with_reducible assumption); (case T => k_asm); (case N => k_asm); (case hk => exact rfl); (case XB => with_reducible assumption); (case TB => with_reducible assumption); (case hd => walk_at "zroom"); (case hu => walk_at "zunits")
  (case sd => walk_at "side")
  k_whole)))
theorem lines_K1 : True := by
  k_with_none
  k_with "pick" => first | exact Pick.head | exact Pick.tail (by walk_at "pick")
  k_with "ints" => first | assumption | exact IntsAre.nil | exact IntsAre.cons _ _ (by walk_at "ints")
  k_with "range" => first | assumption | exact List.forall_mem_nil _ | decide | (refine List.forall_mem_cons.mpr (and2 ?_ ?_) <;> walk_at "range") | (refine and2 ?_ ?_ <;> walk_at "range") | omega
  k_with "restin" => first | exact fun _ h => h | (refine sub_tail ?_; walk_at "restin")
  k_with "side" => ((repeat' refine and2 ?_ ?_) <;> walk_at "side1")
  k_with "side1" => first | with_reducible assumption | ((with_reducible show Pick _ _ _ _); walk_at "pick") | ((with_reducible show IntsAre _ _); walk_at "ints") | ((with_reducible show ∀ p ∈ _, Prod.fst p ≠ _); k_all) | ((with_reducible show ∀ x ∈ _, _ ≤ x ∧ x ≤ _); walk_at "range") | ((with_reducible show ∀ p ∈ _, p ∈ _); first | walk_at "restin" | exact Pick.sub (by walk_at "pick")) | ((with_reducible show @LE.le Nat _ _ _); first | exact Nat.le_of_ble_eq_true rfl | omega) | ((with_reducible show KBw.bInts _ = _); assumption) | ((with_reducible show _ ≠ _); k_ne) | exact True.intro | assumption | exact rfl | decide | omega
  k_with "zroom" => (first | exact room_d (by assumption) (by decide) | (trace "ROOM"; omega) | ktr_room)
  k_with "zunits" => (first | exact room_u (by assumption) (by decide) | (trace "UNITS"; ktr_units))
  k_with "zend" => ((try dsimp only); (try k_fold))
  k_with "my len" => first | exact Nat.le_of_ble_eq_true rfl | omega | (simp only [wordsOf_length, List.length_append, List.length_take, List.length_replicate, List.length_drop, List.length_cons, List.length_nil]; omega)
  k_with "my dec" => ((try simp only [decide_eq_true_eq, decide_eq_false_iff_not, Bool.and_eq_true, Bool.not_eq_true', Bool.not_eq_false', Bool.not_eq_true, bne_iff_ne, ne_eq, Bool.not_eq_eq_eq_not, not_true_eq_false, not_false_eq_true]); first | done | omega)
  k_with "ite" => (k_here; k_openite; first | (refine ite_pos (by walk_at "my dec") ?_) | (refine ite_neg (by walk_at "my dec") ?_))
  k_with "compareOp NotEq bytes bytes" => (k_here; refine ne_same (by assumption) (by assumption) (by first | rfl | assumption | (k_dflt exact rfl)) ?_)
  k_with "call type:bytes" => (k_here; (with_reducible show wpAny _ _ (call (Value.type _) [Value.int _ _]) _ _ _); refine bytes_int_ks (by first | decide | omega) (by first | decide | omega) rfl ?_; intro b' t' k' hb'; (try simp only [Int.reduceToNat, List.reduceReplicate] at hb'))
  k_with "subscriptTail Name Constant ref int" => (k_here; (with_reducible show wpAny _ _ (subscriptTail (Expr.Name _ _) (Expr.Constant _ _ _) (Value.ref _) (Value.int _ _)) _ _ _); k_dflt (refine lit_item_N (by k_asm) (by k_mem) rfl rfl (by decide) (by decide) rfl (by with_unfolding_all rfl) ?_; k_whole))
  k_with "binaryOp Add bytes bytes" => (k_here; (with_reducible show wpAny _ _ (binaryOp _ (Value.bytes _ _) (Value.bytes _ _)) _ _ _); refine KBa.add_K (by assumption) (by assumption) (by walk_at "my len") ?_; intro t' k' kbaApp)
  k_with "call builtin:len" => (k_here; (with_reducible show wpAny _ _ (call (Value.builtin _) [Value.bytes _ _]) _ _ _); refine len_at (by assumption) (by ((try simp only [wordsOf_length, List.length_append, List.length_take, List.length_replicate, List.length_drop, List.length_cons, List.length_nil]); exact rfl)) (by omega) ?_; intro u' k')
  k_with "subscriptTail" => (k_here; (with_reducible show wpAny _ _ (subscriptTail _ (Expr.Slice _ _ none _) (Value.bytes _ _) (Value.ref _)) _ _ _); (with_reducible rename Fr _ _ _ _ => F'); (with_reducible rename News _ _ _ _ => N'); (refine KBc.slice_K (s := ⟨_, _, _, _, _⟩) F' N' (by kba_ints) (by constructor) (by constructor) (by walk_at "my len") ?_); intro _ _ _ _ _ kbcK; (try simp only [Option.elim, KBc.clip_lit, clipAt_nat, List.drop_zero, Nat.sub_zero] at kbcK))
  k_with "call type:tuple" => (k_here; (with_reducible show wpAny _ _ (call (Value.type _) [Value.ref _]) _ _ _); k_dflt (refine tuple_same_N (by k_asm) (by k_mem) rfl rfl ?_; k_whole))
  k_with "callWith ref" => (k_here; (with_reducible show wpAny _ _ (callWith _ (Prod.fst _) (Prod.snd _) _ _) _ _ _); k_dflt (refine callWith_F (by with_reducible assumption) (by with_reducible assumption) (by k_is) ?_; k_whole))
  k_with "call ref" => ((with_reducible show wpAny _ _ (call (Value.ref 208) _) _ _ _); ktr_call 208 (signed_c _); (intro _ _ _ _ _ _ _ _ _ _ _ _ _ _ _ _); walk_at "zend")
  k_with "my drawn" => ((try dsimp only); first | (constructor <;> omega) | ((rename (_ : Int) ∈ _ => hm); simp only [List.mem_cons, List.not_mem_nil, or_false] at hm; constructor <;> omega))
  k_with "my pick" => walk_at "pick"
  k_with "my arith" => first | assumption | decide | omega
  k_with "call ref" => ((with_reducible show wpAny _ _ (call (Value.ref 234) _) _ _ _); ktn_call 234 (head_right_c _); (intro _ _ _ _ _ _ _ _ _ _ _ _ N' _ _ _); (try dsimp only [tup4] at N'); walk_at "zend")
  k_with "call ref" => ((with_reducible show wpAny _ _ (call (Value.ref 239) _) _ _ _); ktn_call 239 (lines_right_c _); (intro _ _ _ _ _ _ _ _ _ _ _ _ _ _ _ _); walk_at "zend")
  k_with "call ref" => ((with_reducible show wpAny _ _ (call (Value.ref 244) _) _ _ _); ktn_call 244 (count_right_c _); (intro _ _ _ _ _ _ _ _ _ _ _ _ _ _ _ _); walk_at "zend")
  k_with "eval ListComp" => (k_here; k_dflt (refine LCg.ListComp_U (F₀ := by k_asm) (by with_unfolding_all rfl) (by decide) (by rfl) (by decide) (by rfl) ?_))
  trivial
theorem fr_down {g h b : Heap} {L : Addr} {m : Str → Option Value} (F : Fr g L h m) (st : b.StaysIn g) (ha : b.objs.size ≤ L) : Fr b L h m := ⟨F.ns, fun a o e => F.keep a o (st a o e), ha⟩
theorem law_holds : PySem.Challenge.rw_on0229_01.Holds := hd (by
  k_go0
  (all_goals try k_fold)
  k_steps
  refine' goodW_bool (fr_down ?kF ?kS ?kL) ?kg (raisesW_false ?hn) ?hp
  (case kF => assumption)
  (case kS => exact Below.stays (by assumption))
  (case kL => exact Nat.le_refl _)
  (case kg => assumption)
  (case hn => wrow_none_raised)
  (case hp => wrow_post))
end
end
end Mine
end
set_option maxRecDepth 100000 in
set_option maxHeartbeats 8000000 in
theorem PySem.Challenge.cw_on0229_01_holds : PySem.Challenge.rw_on0229_01.Holds := by
  exact Mine.law_holds
