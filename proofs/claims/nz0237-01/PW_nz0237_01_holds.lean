import PyProof.Rows.All
import Wide.All
import OpenK.AllK
import Wide.FinOn
import PySem.Challenge.RW_nz0237_01
set_option Elab.async false
set_option maxRecDepth 100000

section
open PySem PySem.W PyProof.Rows
set_option maxHeartbeats 8000000
namespace Mine
open_top hd for PySem.Challenge.rw_nz0237_01
end Mine
end

section
open PySem PySem.W PyProof.Rows PySem.Calls
set_option maxHeartbeats 4000000
namespace Mine

section
variable {prog : Program} {w : World} {A : Around} {R : Result → Shared → Prop} {h : Heap} {g : Array GenState} {d : Drawn} {t : Nat} {os : OsState}
variable {nm q : Str} {C N : Addr} {bs bm bmB : List Value} {hdct : Bool} {sn : List Str} {sub : List Value} {ab : Bool} {col : Option Bool} {dd : Option Addr} {k0 k1 k2 k3 k5 : Option Value} {B newId initId : String}

/-- The class's line above holds the built-in base, and neither of the two that ask more room. -/
structure Under (B : String) (bm : List Value) : Prop where
  has : bm.contains (.type B) = true
  noAttr : bm.contains (.type "AttributeError") = false
  noName : bm.contains (.type "NameError") = false

theorem newCheck (F : ExcBaseFacts B newId initId bmB) (U : Under B bm) {M : Model} {E : Value → Shared → Prop} {rest : List Value} {Q : Unit → Shared → Prop} (hC : h.get? C = some (excClassObj nm q C N bs bm hdct sn sub ab col dd k0 k1 k2 k3 k5 newId))
    (hq : Q () ⟨h, g, d, t, os⟩) : wpAny M A (checkBuiltinCall newId ⟨.ref C :: rest, []⟩) Q E ⟨h, g, d, t, os⟩ := by
  have hcont : (Value.ref C :: bm).contains (.type B) = true := by rw [List.contains_cons, U.has, Bool.or_true]
  have hstar := F.noStar
  simp only [checkBuiltinCall, F.newKind, F.newSplit, F.newRow]
  repeat (first | refine wpAny_loadPart_at hC ?_ | (refine wpAny_isSubtype_exc hC ?_; rw [hcont]) | refine wpAny_staticBase_exc hC ?_ | refine wpAny_madeBy_exc hC ?_ | simp only [bne_self_eq_false, Bool.false_eq_true, if_false] | wp_step)
  exact hq

theorem newMake (F : ExcBaseFacts B newId initId bmB) (U : Under B bm) {rest : List Value} (hC : h.get? C = some (excClassObj nm q C N bs bm hdct sn sub ab col dd k0 k1 k2 k3 k5 newId))
    (hq : R (.ok (.ret (.ref (h.objs.size + 1)))) ⟨(h.push { cls := .type "tuple", data := .seq rest.toArray }).push
      { cls := .ref C, data := .fields #[.ref h.objs.size, .none, .none, .none, .bool false, .none] }, g, d, t, os⟩) (hrest : rest.length ≤ sizeLine := by size_fits) :
    codeAny (model prog w) A (.builtin newId ⟨.ref C :: rest, []⟩) R ⟨h, g, d, t, os⟩ := by
  have hends := F.ends
  have hcB : (Value.ref C :: bm).contains (.type B) = true := by rw [List.contains_cons, U.has, Bool.or_true]
  have hcA : (Value.ref C :: bm).contains (.type "AttributeError") = false := by rw [List.contains_cons, U.noAttr]; rfl
  have hcN : (Value.ref C :: bm).contains (.type "NameError") = false := by rw [List.contains_cons, U.noName]; rfl
  refine codeAny_builtinAt F.entry ?_
  unfold Builtin.«BaseException.__new__»
  refine PySem.wpAt_bind ?_
  show PySem.wpAt _ _ _ (stack >>= _) _ _ _
  refine PySem.wpAt_bind (PySem.wpAt_stack fun p below => PySem.wpAt_of_wpAny ?_)
  wp_walk
  refine PySem.wpAt_of_wpAny ?_
  rw [F.owner]
  repeat (first | with_reducible refine wpAny_madeHere_exc F.canon hC ?_ | with_reducible refine wpAny_loadPart_at hC ?_ | (with_reducible refine wpAny_isSubtype_exc hC ?_; first | rw [hcB] | rw [hcA] | rw [hcN]) | wp_step)
  show R _ _
  rw [Heap.size_push]
  exact hq

/-- The object that a call of an exception's class makes, before its __init__. -/
abbrev excNew (C tup : Addr) : Obj := { cls := .ref C, data := .fields #[.ref tup, .none, .none, .none, .bool false, .none] }
abbrev tupOf (vs : List Value) : Obj := { cls := .type "tuple", data := .seq vs.toArray }

theorem typeCall (F : ExcBaseFacts B newId initId bmB) (U : Under B bm) {E : Value → Shared → Prop} {K : Frag} {rest : List Value} {fI : Addr} {Q : Fin → Shared → Prop} (X : K.In h)
    (hC : h.get? C = some (excClassObj nm q C N bs bm hdct sn sub ab col dd k0 k1 k2 k3 k5 newId)) (hi : findIn K (.ref C) "__init__" = some (some (.ref fI))) (hf : typeIn K (.ref fI) = some (.type "function"))
    (hq : wpAny (model prog w) A (call (.ref fI) (.ref (h.objs.size + 1) :: rest)) (fun r s' => r = .none ∧ Q (.done (.ret (.ref (h.objs.size + 1)))) s') E
      ⟨(h.push (tupOf rest)).push (excNew C h.objs.size), g, d, t, os⟩) (hrest : rest.length ≤ sizeLine := by size_fits) :
    wpAny (model prog w) A (Builtin.«type.__call__» ⟨.ref C :: rest, []⟩) Q E ⟨h, g, d, t, os⟩ := by
  repeat (first | with_reducible refine wpAny_loadPart_at hC ?_ | with_reducible refine wpAny_madeBy_exc hC ?_ | wp_step)
  refine codeAny_call_builtin_code (Code.quiet_builtin _ F.quiet) (newCheck F U hC ?_)
  refine newMake F U hC ?_ hrest
  show wpAny _ _ _ _ _ _
  have kp : ∀ b o, h.get? b = some o → ((h.push (tupOf rest)).push (excNew C h.objs.size)).get? b = some o := fun b o e => Heap.get?_push_of_some _ (Heap.get?_push_of_some _ e)
  have hC₁ := kp _ _ hC
  have X₁ : K.In ((h.push (tupOf rest)).push (excNew C h.objs.size)) := X.keeps kp
  have hget : ((h.push (tupOf rest)).push (excNew C h.objs.size)).get? (h.objs.size + 1) = some (excNew C h.objs.size) := by heap_get
  have hcC : (Value.ref C :: bm).contains (.ref C) = true := by simp
  unfold isInstance
  repeat (first | with_reducible refine wpAny_loadPart_at hget ?_ | (with_reducible refine wpAny_isSubtype_exc hC₁ ?_; rw [hcC]) | wp_step)
  show wpAny _ _ (typeLookup (.ref C) _) _ _ _
  refine (looks_findIn X₁ hi).here ?_
  refine wpAny_holding (wpAny_bind ?_)
  refine (bind_fn X₁ _ hf).here ?_
  refine wpAny_bind (wpAny_mono hq (fun r s' hr => ?_) fun _ _ x => x)
  obtain ⟨rfl, hQ⟩ := hr
  wp_walk
  exact hQ

theorem callExc (F : ExcBaseFacts B newId initId bmB) (U : Under B bm) {E : Value → Shared → Prop} {K : Frag} {rest : List Value} {fI : Addr} {Q : Value → Shared → Prop} (X : K.In h)
    (hC : h.get? C = some (excClassObj nm q C N bs bm hdct sn sub ab col dd k0 k1 k2 k3 k5 newId)) (hi : findIn K (.ref C) "__init__" = some (some (.ref fI))) (hf : typeIn K (.ref fI) = some (.type "function"))
    (hq : wpAny (model prog w) (A.under (.builtin "type.__call__" ⟨.ref C :: rest, []⟩)) (call (.ref fI) (.ref (h.objs.size + 1) :: rest)) (fun r s' => r = .none ∧ Q (.ref (h.objs.size + 1)) s') E
      ⟨(h.push (tupOf rest)).push (excNew C h.objs.size), g, d, t, os⟩) (hrest : rest.length ≤ sizeLine := by size_fits) :
    wpAny (model prog w) A (call (.ref C) rest) Q E ⟨h, g, d, t, os⟩ := by
  have f1 := tc_lookup
  have f2 := tc_bind (.ref C)
  have hT : (⟨h, g, d, t, os⟩ : Shared).TypeIs (.ref C) "type" := ⟨_, hC, rfl⟩
  refine wpAny_call (codeAny_of_tree ?_)
  show wpAny _ _ (callAny (.ref C) _) _ _ _
  repeat (any_goals (first | assumption | with_reducible refine wpAny_loadPart_at hC ?_ | wp_step))
  refine ⟨rfl, ?_⟩
  refine codeAny_call_builtin_at (Code.quiet_builtin _ (by decide +kernel)) entry_typeCall (wpAny_check_type_call_sub hC (typeCall (hrest := hrest) F U X hC hi hf hq))
end
end Mine
end

section
open PySem PySem.W PyProof.Rows PySem.Calls
set_option maxHeartbeats 8000000
namespace Mine
abbrev Led := List (Addr × Obj)
section
variable {prog : Program} {w : World} {A A₀ : Around} {E : Value → Shared → Prop} {s : Shared} {K : Frag} {C L : Addr} {h₀ base : Heap} {m mg mb : Str → Option Value} {news : Led} {Q : Value → Shared → Prop}
variable {nm q : Str} {Nn : Addr} {bs bm bmB : List Value} {hdct : Bool} {sn : List Str} {sub : List Value} {ab : Bool} {col : Option Bool} {dd : Option Addr} {k0 k1 k2 k3 k5 : Option Value} {B newId initId : String}
theorem call_exc {rest : List Value} {fI : Addr} (FB : ExcBaseFacts B newId initId bmB) (F : Fr h₀ L s.heap m) (X₀ : K.In h₀) (N : News h₀ L s.heap news)
    (hC : K.lookup C = some (excClassObj nm q C Nn bs bm hdct sn sub ab col dd k0 k1 k2 k3 k5 newId)) (U : Under B bm) (hi : findIn K (.ref C) "__init__" = some (some (.ref fI))) (hf : isFn K (.ref fI) = true)
    (h : ∀ e tp h', Fr h₀ L h' m → News h₀ L h' ((e, excNew C tp) :: (tp, tupOf rest) :: news) → (∀ p ∈ news, p.1 < tp) → tp < e →
      wpAny (model prog w) (A.under (.builtin "type.__call__" ⟨.ref C :: rest, []⟩)) (call (.ref fI) (.ref e :: rest)) (fun r s' => r = .none ∧ Q (.ref e) s') E { s with heap := h' })
    (hrest : rest.length ≤ sizeLine := by size_fits) :
    wpAny (model prog w) A (call (.ref C) rest) Q E s := by
  obtain ⟨hh, g, d, t, os⟩ := s
  have X := X₀.keeps F.keep
  have N' := (N.push F (tupOf rest)).push (F.push _) (excNew C hh.objs.size)
  rw [Heap.size_push] at N'
  exact callExc FB U X (X _ _ hC) hi (beq_iff_eq.mp hf) (h _ hh.objs.size _ ((F.push _).push _) N' (fun p hp => Heap.lt_size (N p hp).1) (Nat.lt_succ_self _)) hrest
end
end Mine
end

section
open PySem PySem.W PySem.Calls
set_option maxHeartbeats 4000000
namespace Mine
open PyProof.Rows (Fr News)
section
variable {prog : Program} {w : World} {A A₀ : Around} {E : Value → Shared → Prop} {s : Shared} {K : Frag} {C L e tp : Addr} {h₀ base : Heap} {m mg mb : Str → Option Value} {news : Led} {Q : Value → Shared → Prop}
variable {nm q : Str} {Nn : Addr} {bs bm bmB : List Value} {hdct : Bool} {sn : List Str} {sub : List Value} {ab : Bool} {col : Option Bool} {dd : Option Addr} {k0 k1 k2 k3 k5 : Option Value} {B newId initId : String}

theorem initCheck {h : Heap} {g : Array GenState} {d : Drawn} {t : Nat} {os : OsState} (FB : ExcBaseFacts B newId initId bmB) (U : Under B bm) {M : Model} {oe : Obj} {rest : List Value} {Q : Unit → Shared → Prop}
    (hC : h.get? C = some (excClassObj nm q C Nn bs bm hdct sn sub ab col dd k0 k1 k2 k3 k5 newId)) (he : h.get? e = some oe) (hcls : oe.cls = .ref C) (hq : Q () ⟨h, g, d, t, os⟩) :
    wpAny M A (checkBuiltinCall initId ⟨.ref e :: rest, []⟩) Q E ⟨h, g, d, t, os⟩ := by
  have hcB : (Value.ref C :: bm).contains (.type B) = true := by rw [List.contains_cons, U.has, Bool.or_true]
  have hshort := FB.noStar
  simp only [checkBuiltinCall, FB.initKind, FB.initSplit, FB.initRow]
  repeat (first | (with_reducible refine wpAny_loadPart_at he ?_; rw [hcls]) | with_reducible refine wpAny_loadPart_at hC ?_ | (with_reducible refine wpAny_isSubtype_exc hC ?_; rw [hcB]) | wp_step)
  refine wpAny_onRaise ?_
  rw [show ∀ (a b : String) (n : Nat), Bind.check ⟨.positional, "*", B, .self, [⟨"args", .varPos, false⟩]⟩ a b n (List.map (fun x => x.fst) ({ pos := Value.ref e :: rest } : Args).kw) = pure () from
    fun a b n => check_star_args _ _ _ _ _ _]
  exact wpAny_pure hq

/-- Frame and ledger once a part of one new object has been turned. -/
theorem fr_turn {h h' : Heap} {a : Addr} (F : Fr h₀ L h m) (hL : a ≠ L) (h0 : h₀.get? a = none) (k : ∀ b o, b ≠ a → h.get? b = some o → h'.get? b = some o) : Fr h₀ L h' m := by
  obtain ⟨oL, es, ep, hl, r⟩ := F.ns
  exact ⟨⟨oL, es, ep, k _ _ (Ne.symm hL) hl, r⟩, fun b o e => k b o (fun z => by rw [z, h0] at e; cases e) (F.keep b o e), F.above⟩
theorem news_turn {h h' : Heap} {a : Addr} {o o' : Obj} (N : News h₀ L h ((a, o) :: news)) (hne : ∀ p ∈ news, p.1 ≠ a) (k : ∀ b o, b ≠ a → h.get? b = some o → h'.get? b = some o) (e : h'.get? a = some o') : News h₀ L h' ((a, o') :: news) := by
  intro p hp
  rcases List.mem_cons.mp hp with rfl | hp
  · exact ⟨e, (N _ (.head _)).2⟩
  · exact ⟨k _ _ (hne p hp) (N p (.tail _ hp)).1, (N p (.tail _ hp)).2⟩

theorem init_exc {rest : List Value} (FB : ExcBaseFacts B newId initId bmB) (U : Under B bm) (F : Fr h₀ L s.heap m) (X₀ : K.In h₀) (N : News h₀ L s.heap ((e, excNew C tp) :: news)) (hne : ∀ p ∈ news, p.1 ≠ e)
    (hC : K.lookup C = some (excClassObj nm q C Nn bs bm hdct sn sub ab col dd k0 k1 k2 k3 k5 newId))
    (h : ∀ tp' h', Fr h₀ L h' m → News h₀ L h' ((e, excNew C tp') :: news) → Q .none { s with heap := h' }) (hrest : rest.length ≤ sizeLine := by size_fits) :
    wpAny (model prog w) A (call (.builtin initId) (.ref e :: rest)) Q E s := by
  obtain ⟨hh, g, d, t, os⟩ := s
  have hC' := X₀.keeps F.keep _ _ hC
  have he := (N _ (.head _)).1
  refine wpAny_call (codeAny_call_builtin FB.init.plain FB.initEntry (initCheck FB U hC' he rfl ?_))
  wp_walk
  have ke : e ≠ hh.objs.size := Nat.ne_of_lt (Heap.lt_size he)
  have k : ∀ b o, b ≠ e → hh.get? b = some o → ((hh.push (tupOf rest)).update e (Obj.mapFields (·.setIfInBounds 0 (Value.ref hh.objs.size)))).get? b = some o := fun b o hb hq => by
    rw [Heap.get?_update_other _ _ (Ne.symm hb)]
    exact Heap.get?_push_of_some _ hq
  have e' : ((hh.push (tupOf rest)).update e (Obj.mapFields (·.setIfInBounds 0 (Value.ref hh.objs.size)))).get? e = some (excNew C hh.objs.size) :=
    Heap.get?_update_self _ (Heap.get?_push_of_some _ he) rfl
  exact h hh.objs.size _ (fr_turn F (N _ (.head _)).2.1 (N _ (.head _)).2.2 k) (news_turn N hne k e')
end
end Mine
end

section
open PySem PySem.W PySem.Calls
set_option maxHeartbeats 4000000
namespace Mine
open PyProof.Rows (Fr News)
open PySem.Builtin PySem.Builtin.ObjectAttr
section
variable {prog : Program} {w : World} {A A₀ : Around} {E : Value → Shared → Prop} {s : Shared} {K : Frag} {C L e tp : Addr} {h₀ base : Heap} {m mg mb : Str → Option Value} {news : Led} {cd : ClassData} {vs : Array Value} {sl : Array (Option Value)} {name : Str} {v : Value}

/-- An attribute stored into an object without a dict yet: its class is own, over a built-in exception. -/
theorem set_exc {Q : Unit → Shared → Prop} (F : Fr h₀ L s.heap m) (X₀ : K.In h₀) (N : News h₀ L s.heap ((e, ⟨.ref C, none, .fields vs, sl⟩) :: news)) (hne : ∀ p ∈ news, p.1 ≠ e)
    (hs : findIn K (.ref C) "__setattr__" = some (some (.builtin "object.__setattr__"))) (hc : clsIn K C = some cd) (hh : cd.hasDict = true)
    (ht : takerIn K C name = some none) (hp : ∀ self, refuseLoop self "__setattr__" cd.mro = pure ()) (hm : cd.mro.contains (.type "object") = true)
    (h : ∀ h' tk d, Fr h₀ L h' m → News h₀ L h' ((e, ⟨.ref C, some d, .fields vs, sl⟩) :: news) → Q () { s with heap := h', toks := tk }) :
    wpAny (model prog w) A (setAttr (.ref e) name v) Q E s := by
  obtain ⟨hh', g, d, t, os⟩ := s
  have X := X₀.keeps F.keep
  have he := (N _ (.head _)).1
  have I : InstAt hh' e ⟨.ref C, none, .fields vs, sl⟩ C none := ⟨he, rfl, rfl, trivial⟩
  refine set_plain (s := ⟨hh', g, d, t, os⟩) (od := none) X I hs ?_
  have SF := PySem.F.store_object
  have ne : cd.mro.isEmpty = false := by cases q : cd.mro with | nil => rw [q] at hm; cases hm | cons _ _ => rfl
  have sub : Looks (model prog w) hh' (isInstance (.ref e) (.type "object")) true := I.type.andThen (looks_mroIn X (by unfold mroIn; rw [hc, Option.bind_some, if_neg (by rw [ne]; decide), hm]))
  refine codeAny_call_builtin SF.slot.plain SF.entry (@check_slot (model prog w) _ _ _ "object.__setattr__" "object" "__setattr__" (.ref e) [.str name t, v] [] _ SF.kind SF.split sub (SF.args (.ref e) (.str name t) v) ?_)
  obtain ⟨attr, ha, hr⟩ := Option.bind_eq_some_iff.mp ht
  have hmr : Looks (model prog w) hh' (mroOf (.ref C)) cd.mro := (looks_clsIn X hc).andThen .now
  have L3 : Looks (model prog w) hh' (storeTaker? attr) none := by
    cases attr with
    | none => exact .now
    | some a =>
      obtain ⟨b, hb, hb'⟩ := Option.map_eq_some_iff.mp hr
      refine (looks_takesIn X hb).andThen ?_
      cases b <;> first | exact .now | cases hb'
  rw [osa_eq, refuse_eq]
  refine wpAny_bind (wpAny_bind (I.type.at (wpAny_bind (hmr.at ?_))))
  rw [hp]
  refine wpAny_pure (wpAny_bind (I.type.at (wpAny_bind ((looks_findIn X ha).at (wpAny_bind (L3.at ?_))))))
  show wpAny _ _ (storeInOwnDict (.ref e) (.ref C) (.str name t) name v _) _ _ _
  unfold storeInOwnDict
  refine wpAny_bind (wpAny_pure (wpAny_bind ?_))
  show wpAny _ _ (instanceDict e true) _ _ _
  unfold instanceDict
  refine wpAny_bind (wpAny_loadPart he (wpAny_bind ((looks_clsIn X hc).at ?_)))
  rw [hh]
  have hx₁ : (hh'.push { cls := .type "dict", data := .dict #[] }).get? e = some ⟨.ref C, none, .fields vs, sl⟩ := Heap.get?_push_of_some _ he
  have hxs : e ≠ hh'.objs.size := Nat.ne_of_lt (Heap.lt_size he)
  refine wpAny_bind (wpAny_alloc' ?_)
  refine wpAny_bind (wpAny_update' hx₁ ?_)
  refine wpAny_pure ?_
  have hgd : ((hh'.push { cls := .type "dict", data := .dict #[] }).update e fun o => { cls := o.cls, dict := some hh'.objs.size, data := o.data, slots := o.slots }).get? hh'.objs.size
      = some { cls := .type "dict", data := .dict #[] } :=
    (Heap.get?_update_ne _ _ _ _ hxs.symm).trans (Heap.get?_push_at rfl rfl)
  have hnd : ((hh'.push { cls := .type "dict", data := .dict #[] }).update e fun o => { cls := o.cls, dict := some hh'.objs.size, data := o.data, slots := o.slots }).Ns hh'.objs.size (fun _ => none) :=
    ⟨_, #[], _, hgd, rfl, fun e he => absurd he (by simp), fun _ => rfl⟩
  show wpAny _ _ (storeInDict hh'.objs.size (.str name t) name v) _ _ _
  unfold storeInDict newKeyGuard
  refine wpAny_bind (wpAny_pure (wpAny_bind (wpAny_nsSet1 (Heap.Ns1.of_empty hnd) fun h' hn' hs' => ?_)))
  obtain ⟨oD, esD, epD, hoD, hdD, hcD⟩ := hn'.count (Within.cons name v Within.nil)
  refine wpAny_bind (wpAny_lookBehind hoD (by rw [hdD]; exact pastItsLine_dict (Nat.le_trans hcD (by rw [List.length_cons, List.length_nil, sizeLine_eq]; omega))) ?_)
  refine wpAny_pure ?_
  have k : ∀ b o, b ≠ e → hh'.get? b = some o → h'.get? b = some o := fun b o hb hq =>
    (hs'.2 b (Nat.ne_of_lt (Heap.lt_size hq))).trans ((Heap.get?_update_ne _ _ _ _ hb).trans (Heap.get?_push_of_some _ hq))
  have hx' : h'.get? e = some ⟨.ref C, some hh'.objs.size, .fields vs, sl⟩ :=
    (hs'.2 e hxs).trans (Heap.get?_update_self _ hx₁ rfl)
  exact h h' _ hh'.objs.size (fr_turn F (N _ (.head _)).2.1 (N _ (.head _)).2.2 k) (news_turn N hne k hx')
end
end Mine
end

section
open PySem PySem.W PySem.Calls
set_option maxHeartbeats 4000000
namespace Mine
open PyProof.Rows
section
variable {K : Frag} {C L e tp : Addr} {h₀ base : Heap} {m mg mb : Str → Option Value} {news : Led}
variable {nm q : Str} {Nn : Addr} {bs bm bmB : List Value} {hdct : Bool} {sn : List Str} {sub : List Value} {ab : Bool} {col : Option Bool} {dd : Option Addr} {k0 k1 k2 k3 k5 : Option Value} {B newId initId : String}

/-- An exception of the class C as it stands behind its __init__. -/
abbrev excMade (C tp : Addr) (d : Option Addr) : Obj := { cls := .ref C, dict := d, data := .fields #[.ref tp, .none, .none, .none, .bool false, .none], slots := #[] }

def RaisesC (K : Frag) (C : Addr) (E : Value → Shared → Prop) (v : Value) (s : Shared) : Prop :=
  ∃ e t d, v = .ref e ∧ K.In s.heap ∧ s.heap.get? e = some (excMade C t d) ∧ E (.ref e) s
theorem raisesC {E : Value → Shared → Prop} {s : Shared} {t : Addr} {d : Option Addr} (F : Fr h₀ L s.heap m) (X₀ : K.In h₀) (N : News h₀ L s.heap news) (hm : (e, excMade C t d) ∈ news) (h : E (.ref e) s) : RaisesC K C E (.ref e) s :=
  ⟨e, t, d, rfl, X₀.keeps F.keep, (N _ hm).1, h⟩

theorem raiseStmt_exc {M : Model} {A : Around} {E : Value → Shared → Prop} {env : Env} {s : Shared} {x : Sem Value} {Q : Flow → Shared → Prop} (hC : K.lookup C = some (excClassObj nm q C Nn bs bm hdct sn sub ab col dd k0 k1 k2 k3 k5 newId))
    (hbase : bm.contains (.type "BaseException") = true) (hh : A.handled = none) (h : wpAny M A x (RaisesC K C E) E s) : wpAny M A (raiseStmt env (some x) none) Q E s := by
  have hcB : (Value.ref C :: bm).contains (.type "BaseException") = true := by rw [List.contains_cons, hbase, Bool.or_true]
  unfold raiseStmt
  refine wpAny_bind (wpAny_mono h (fun v s₁ h₁ => ?_) fun _ _ x => x)
  obtain ⟨e, t, d, rfl, X, he, hE⟩ := h₁
  have hC := X _ _ hC
  obtain ⟨hp, g, dr, tk, os⟩ := s₁
  repeat (first | with_reducible refine wpAny_loadPart_at he ?_ | with_reducible refine wpAny_loadPart_at hC ?_ | (with_reducible refine wpAny_isSubtype_exc hC ?_; rw [hcB]) | wp_step)
  exact wpAny_raiseNew_none hh hE
theorem raise_exc {M : Model} {A : Around} {E : Value → Shared → Prop} {env : Env} {s : Shared} {x : PySem.Expr} {pos : Pos} {Q : Flow → Shared → Prop} (_X₀ : K.In h₀) (hC : K.lookup C = some (excClassObj nm q C Nn bs bm hdct sn sub ab col dd k0 k1 k2 k3 k5 newId))
    (hbase : bm.contains (.type "BaseException") = true) (hh : A.handled = none) (h : wpAny M A (eval x env) (RaisesC K C E) E s) : wpAny M A (exec (.Raise (some x) none pos) env) Q E s := by
  rw [arm_exec_Raise]
  exact wpAny_bind (wpAny_standAt (raiseStmt_exc hC hbase hh (wpAny_bind (wpAny_mono h (fun v s₁ h₁ => wpAny_bind (wpAny_standAt (wpAny_pure h₁))) fun _ _ x => x))))
end

section
variable {M : Model} {A : Around} {E : Value → Shared → Prop} {s' : Shared} {base g : Heap} {outer : List Env} {L a e t : Addr} {m : Str → Option Value} {name : Str} {scope : Scope} {cd cls : Value} {Q : Unit → Shared → Prop} {news : Led} {d : Option Addr} {sl : Array (Option Value)}
theorem leave_exc (K : Below A base outer g) (F : Fr g L s'.heap m) (N : News g L s'.heap ((e, ⟨cls, d, .fields #[.ref t, .none, .none, .none, .bool false, .none], sl⟩) :: news)) (hne : ∀ p ∈ news, p.1 ≠ e)
    (hQ : ∀ h', RaisedSN base g outer e cls news h' → RaisedN base outer e cls news h' → g.UpToSlots h' → Q () { s' with heap := h' }) (hk : scope.kind = .function := by rfl) :
    wpAny M (A.deeper (envOf name scope L a cd)) (leaving (envOf name scope L a cd) (.ref e)) Q E s' := by
  have K' := K.push (name := name) (a := a) (cd := cd) F hk
  have hin : ∀ env ∈ (envOf name scope L a cd :: outer), ∀ b, env.frame = some b → b ∈ e :: (envOf name scope L a cd :: outer).filterMap (·.frame) := fun env he b hb => .tail _ (List.mem_filterMap.mpr ⟨env, he, hb⟩)
  have he := (N _ (.head _)).1
  have hg : g.get? e = none := (N _ (.head _)).2.2
  have hb : base.get? e = none := fresh_of_stays K.stays hg
  have st : base.StaysIn (hideAll s'.heap (e :: (envOf name scope L a cd :: outer).filterMap (·.frame))) := fun b o q => hideAll_get _ (K'.stays b o q) fun hm => by
    rcases List.mem_cons.mp hm with z | hm
    · rw [z, hb] at q; cases q
    · rw [(K'.frames.mem hm).1] at q; cases q
  have sg : ∀ b o, g.get? b = some o → b ∉ outer.filterMap (·.frame) → (hideAll s'.heap (e :: (envOf name scope L a cd :: outer).filterMap (·.frame))).get? b = some o := fun b o q nm => hideAll_get _ (F.keep b o q) fun hm => by
    rcases List.mem_cons.mp hm with z | hm
    · rw [z, hg] at q; cases q
    · rcases kts_mem hm with z | z
      · rw [z, kts_self F] at q
        cases q
      · exact nm z
  have hl : ∀ q ∈ news, (hideAll s'.heap (e :: (envOf name scope L a cd :: outer).filterMap (·.frame))).get? q.1 = some q.2 ∧ g.get? q.1 = none ∧ base.get? q.1 = none := fun q hq => by
    have Nq := N q (.tail _ hq)
    refine ⟨hideAll_get _ Nq.1 fun hm => ?_, Nq.2.2, fresh_of_stays K.stays Nq.2.2⟩
    rcases List.mem_cons.mp hm with z | hm
    · exact hne q hq z
    · obtain ⟨env, he, hf⟩ := List.mem_filterMap.mp hm
      rcases List.mem_cons.mp he with rfl | he
      · exact Nq.2.1 (Option.some.inj hf).symm
      · obtain ⟨o, ho, _⟩ := (K.frames.mem (List.mem_filterMap.mpr ⟨env, he, hf⟩)).2
        rw [Nq.2.2] at ho; cases ho
  have hen : (hideAll s'.heap (e :: (envOf name scope L a cd :: outer).filterMap (·.frame))).get? e = none := hideAll_none _ (.head _)
  refine wpAny_leaving_firstW (a0 := .ref t) K'.stack (funFrames_hide K'.frames hin) rfl he (fun b o hb => of_hideAll _ hb) hen rfl rfl rfl fun h' hL => ?_
  obtain ⟨k1, ⟨_, _, k2⟩, k3, k4⟩ := hL
  have R : RaisedSN base g outer e cls news h' := ⟨_, .ref t, st, sg, hl, k1, hen, k2, k3⟩
  exact hQ h' R R.toN ((Heap.UpToSlots.of_keeps F.keep).trans k4)
end
end Mine
end

section
open PySem PySem.W PyProof.Rows PySem.Calls
set_option maxHeartbeats 8000000
namespace Mine
/-- The contract of a call that ends: the ledger before, the arguments, and what holds of the ledger and the value behind. -/
abbrev Ends (prog : Program) (w : World) (K : Frag) (p : Program) (loose : List Str) (mean : ExcName → Option Value) (mg mb : Str → Option Value) (f : Addr) (k : Nat) (news : Led) (vs : List Value) (Post : Led → Value → Prop) : Prop :=
  ∀ (dp un : Nat) (gd : Option (List Code)) (cn : Str) (cs : Scope) (a : Addr) (ccd : Value) (cl : List (Str × Addr)) (outer : List Env) (A₀ : Around) (base h₀ : Heap) (L : Addr) (m : Str → Option Value) (s : Shared) (Q E : Value → Shared → Prop),
    Below A₀ base outer h₀ → Fr h₀ L s.heap m → K.In h₀ → News h₀ L s.heap news → Top p loose mean mg mb h₀ → cs.kind = .function → dp + k < recursionLimit → un + 8 * k < cLine →
    (∀ v news' h' tk', Fr h₀ L h' m → News h₀ L h' news' → Post news' v → Q v { s with heap := h', toks := tk' }) →
    wpAny (model prog w) (ktrTop dp un gd cn cs L a ccd cl outer) (call (.ref f) vs) Q E s
/-- The same of a def that catches, called from a frame with no other def's frame below. -/
abbrev EndsT (prog : Program) (w : World) (K : Frag) (p : Program) (loose : List Str) (mean : ExcName → Option Value) (mg mb : Str → Option Value) (f : Addr) (k : Nat) (news : Led) (vs : List Value) (Post : Led → Value → Prop) : Prop :=
  ∀ (dp un : Nat) (gd : Option (List Code)) (cn : Str) (cs : Scope) (a : Addr) (ccd : Value) (A₀ : Around) (h₀ : Heap) (L : Addr) (m : Str → Option Value) (s : Shared) (Q E : Value → Shared → Prop),
    Below A₀ h₀ [] h₀ → Fr h₀ L s.heap m → K.In h₀ → News h₀ L s.heap news → Top p loose mean mg mb h₀ → cs.kind = .function → dp + k < recursionLimit → un + 8 * k < cLine →
    (∀ v news' h' tk', Fr h₀ L h' m → News h₀ L h' news' → Post news' v → Q v { s with heap := h', toks := tk' }) →
    wpAny (model prog w) (ktrTop dp un gd cn cs L a ccd [] []) (call (.ref f) vs) Q E s
theorem allNe_of_lt {d : Addr} {r : Led} (h : AllLt d r) : ∀ p ∈ r, p.1 ≠ d := fun p hp e => absurd (ktn_ltOf h p hp) (by rw [e]; exact Nat.lt_irrefl _)
theorem allNe_of_le {d e : Addr} {r : Led} (h : AllLt d r) (hle : @LE.le Nat _ d e) : ∀ p ∈ r, p.1 ≠ e := fun p hp z => absurd (ktn_ltOf h p hp) (by rw [z]; exact Nat.not_lt.mpr hle)
theorem under44 : Under "Exception" [.ref 31, .type "Exception", .type "BaseException", .type "object"] := ⟨by decide, by decide, by decide⟩
theorem meta_Exception : typeOf (.type "Exception") = pure (.type "type") := by kernel_rfl
theorem passes44 (self : Value) : PySem.refuseLoop self "__setattr__" [.ref 44, .ref 31, .type "Exception", .type "BaseException", .type "object"] = pure () := by
  rw [PySem.refuseLoop_ref, PySem.refuseLoop_ref]; exact PySem.F.store_Exception.passes self
def kinds : List Str := [Str.ofString "baseline", Str.ofString "extended", Str.ofString "progressive", Str.ofString "arith", Str.ofString "arith progressive"]
theorem notin_kinds {prog : Program} {w : World} {A : Around} {E : Value → Shared → Prop} {s : Shared} {K : Frag} {h₀ : Heap} {L a : Addr} {m : Str → Option Value} {l : List Value} {dd : Option Addr} {sl : Array (Option Value)} {n : Nat} {x : Str} {u : Tok} {Q : Value → Shared → Prop}
    (F : Fr h₀ L s.heap m) (X₀ : K.In h₀) (hl : K.lookup a = some ⟨.type "tuple", dd, .seq l.toArray n, sl⟩) (hi : StrsAre l kinds) (h : Q (.bool (!(kinds.any (· == x)))) s) :
    wpAny (model prog w) A (compareOp .NotIn (.str x u) (.ref a)) Q E s :=
  notin_tuple_strs (items := l.toArray) ⟨_, X₀.keeps F.keep _ _ hl, rfl, n, rfl⟩ hi h
open PySem.AutoSeq1 (wpAny_loadPart') in
theorem range_has (r : Addr) (a b x : Int) (t u v tx : Tok) : Meets (Builtin.«range.__contains__» ⟨[.ref r, .int x tx], []⟩)
    (fun _ R s => IsRange s.heap r a b 1 t u v ∧ R (.ok (.ret (.bool (Builtin.Range.rangePlace? a b 1 x).isSome))) s) := by
  intro prog w A R s h
  obtain ⟨hp, g, d, tk, os⟩ := s
  obtain ⟨hl, h⟩ := h
  wp_walk using wpAny_loadPart' hl
  exact h
theorem place_one (a b x : Int) : (Builtin.Range.rangePlace? a b 1 x).isSome = decide (a ≤ x ∧ x < b) := by
  unfold Builtin.Range.rangePlace?
  by_cases h1 : a ≤ x <;> by_cases h2 : x < b <;> simp [h1, h2, Int.emod_one]
theorem in_range {prog : Program} {w : World} {A : Around} {E : Value → Shared → Prop} {s : Shared} {r : Addr} {a b x : Int} {t u v tx : Tok} {Q : Value → Shared → Prop}
    (hr : IsRange s.heap r a b 1 t u v) (h : Q (.bool (decide (a ≤ x ∧ x < b))) s) : wpAny (model prog w) A (compareOp .In (.int x tx) (.ref r)) Q E s :=
  PySem.SeqRoads2.in_meets (S := fun _ R s => IsRange s.heap r a b 1 t u v ∧ R (.ok (.ret (.bool (Builtin.Range.rangePlace? a b 1 x).isSome))) s) ⟨_, hr, rfl⟩ PySem.F.slot_range_contains PySem.F.entry_range_contains (PySem.F.args_range_contains_2 _ _) (range_has r a b x t u v tx)
    ⟨hr, _, rfl, by rw [place_one]; exact h⟩
/-- A row is taken: a kind of the five, a quality and an interval in their ranges. -/
def taken (x : Str) (q i : Int) : Bool := kinds.any (· == x) && (decide (1 ≤ q ∧ q ≤ 100) && decide (0 ≤ i ∧ i ≤ 65535))
theorem taken_yes {x : Str} {q i : Int} (h : kinds.any (· == x) = true) (h1 : 1 ≤ q) (h2 : q ≤ 100) (h3 : 0 ≤ i) (h4 : i ≤ 65535) : taken x q i = true := by simp [taken, h, h1, h2, h3, h4]
theorem taken_kind {x : Str} {q i : Int} (h : kinds.any (· == x) = false) : taken x q i = false := by simp [taken, h]
theorem taken_q {x : Str} {q i : Int} (h : ¬ (1 ≤ q ∧ q ≤ 100)) : taken x q i = false := by
  unfold taken; rw [decide_eq_false h]; simp
theorem taken_i {x : Str} {q i : Int} (h : ¬ (0 ≤ i ∧ i ≤ 65535)) : taken x q i = false := by
  unfold taken; rw [decide_eq_false h]; simp
/-- The dict of settings with these eight values. -/
abbrev setEs (w : World) (v0 v1 v2 v3 v4 v5 v6 v7 : Value) (k0 k1 k2 k3 k4 k5 k6 k7 : Tok) : List DictEntry :=
  [⟨PyData.keyHash w.params (Str.ofString "kind"), .str (Str.ofString "kind") k0, v0⟩, ⟨PyData.keyHash w.params (Str.ofString "quality"), .str (Str.ofString "quality") k1, v1⟩,
   ⟨PyData.keyHash w.params (Str.ofString "sampling"), .str (Str.ofString "sampling") k2, v2⟩, ⟨PyData.keyHash w.params (Str.ofString "interval"), .str (Str.ofString "interval") k3, v3⟩,
   ⟨PyData.keyHash w.params (Str.ofString "optimise"), .str (Str.ofString "optimise") k4, v4⟩, ⟨PyData.keyHash w.params (Str.ofString "scans"), .str (Str.ofString "scans") k5, v5⟩,
   ⟨PyData.keyHash w.params (Str.ofString "n"), .str (Str.ofString "n") k6, v6⟩, ⟨PyData.keyHash w.params (Str.ofString "model"), .str (Str.ofString "model") k7, v7⟩]
/-- What a call of the class with a row's eight values leaves: settings, if the row is taken; else nothing. -/
def MadeP (w : World) (x : Str) (q i : Int) (v0 v1 v2 v3 v4 v5 v6 v7 : Value) (news news' : Led) (v : Value) : Prop :=
  (taken x q i = true ∧ ∃ (p d : Addr) (k0 k1 k2 k3 k4 k5 k6 k7 : Tok), v = .ref p ∧ AllLt d news ∧ d < p ∧ news' = (p, instObj 65 d) :: (d, dictOf (setEs w v0 v1 v2 v3 v4 v5 v6 v7 k0 k1 k2 k3 k4 k5 k6 k7) 8) :: news)
  ∨ (taken x q i = false ∧ v = .none ∧ news' = news)
theorem madeYes {w : World} {x : Str} {q i : Int} {v0 v1 v2 v3 v4 v5 v6 v7 : Value} {news : Led} {p d : Addr} {k0 k1 k2 k3 k4 k5 k6 k7 : Tok} (ht : taken x q i = true) (hl : AllLt d news) (hp : d < p) :
    MadeP w x q i v0 v1 v2 v3 v4 v5 v6 v7 news ((p, instObj 65 d) :: (d, dictOf (setEs w v0 v1 v2 v3 v4 v5 v6 v7 k0 k1 k2 k3 k4 k5 k6 k7) 8) :: news) (.ref p) :=
  .inl ⟨ht, p, d, k0, k1, k2, k3, k4, k5, k6, k7, rfl, hl, hp, rfl⟩
theorem madeNo {w : World} {x : Str} {q i : Int} {v0 v1 v2 v3 v4 v5 v6 v7 : Value} {news : Led} (ht : taken x q i = false) : MadeP w x q i v0 v1 v2 v3 v4 v5 v6 v7 news news .none := .inr ⟨ht, rfl, rfl⟩
theorem mulOk_take (y x : Int) : IntMulOk y (x.fmod 2147483647) :=
  IntMulOk.of_right (intBits_le_64 (by have := Int.fmod_nonneg_of_pos x (b := 2147483647) (by decide); omega) (by have := Int.fmod_lt_of_pos x (b := 2147483647) (by decide); omega))
/-- What a draw leaves: a number below top; the source's two numbers turned. -/
def DrawP (l : Addr) (n : Nat) (top : Int) (rest news' : Led) (v : Value) : Prop :=
  ∃ (r a b : Int) (t ta tb : Tok), v = .int r t ∧ 0 ≤ r ∧ r < top ∧ 0 ≤ a ∧ 0 ≤ b ∧ b < 2147483647 ∧ news' = (l, listOf #[.int a ta, .int b tb] n) :: rest
theorem drawP {l : Addr} {n : Nat} {top r x a b : Int} {rest : Led} {t ta tb : Tok} (e : r = x.fmod top) (ht : 1 ≤ top) (ha : 0 ≤ a) (hb : 0 ≤ b) (hb' : b < 2147483647) :
    DrawP l n top rest ((l, listOf #[.int a ta, .int b tb] n) :: rest) (.int r t) :=
  ⟨r, a, b, t, ta, tb, rfl, by rw [e]; exact Int.fmod_nonneg_of_pos x (by omega), by rw [e]; exact Int.fmod_lt_of_pos x (by omega), ha, hb, hb', rfl⟩
theorem draw_a {x top : Int} (hx : 0 ≤ x) (ht : 1 ≤ top) : 0 ≤ x.fdiv top := Int.fdiv_nonneg hx (by omega)
theorem draw_b (x : Int) : 0 ≤ x.fmod 2147483647 := Int.fmod_nonneg_of_pos x (by decide)
theorem draw_b' (x : Int) : x.fmod 2147483647 < 2147483647 := Int.fmod_lt_of_pos x (by decide)
theorem isB (b c : Bool) (h : b = c) : Value.bool b = Value.bool c := by rw [h]
theorem is1 {x : Str} {q i : Int} (h : kinds.any (· == x) = false) : Value.bool (kinds.any (· == x)) = .bool (taken x q i) := by rw [h, taken_kind h]
theorem is2 {x : Str} {q i : Int} (h2 : ¬ (1 ≤ q ∧ q < 101)) : Value.bool (decide (1 ≤ q ∧ q < 101)) = .bool (taken x q i) := by
  rw [decide_eq_false h2, taken_q (by omega)]
theorem is3 {x : Str} {q i : Int} (h : kinds.any (· == x) = true) (h1 : 1 ≤ q) (h2 : q < 101) : Value.bool (decide (0 ≤ i ∧ i < 65536)) = .bool (taken x q i) := by
  by_cases h3 : 0 ≤ i ∧ i ≤ 65535
  · rw [taken_yes h h1 (by omega) h3.1 h3.2, decide_eq_true (by omega)]
  · rw [taken_i h3, decide_eq_false (by omega)]
end Mine
end

section
open PySem PySem.W PyProof.Rows PySem.Calls
set_option maxHeartbeats 8000000
namespace Mine
local macro_rules | `(tactic| k_all) => `(tactic| first | assumption | (tbn_letter; first | (refine allNe_of_lt ?_; first | tbn_find | exact allLt_of (by assumption)) | (refine' allNe_of_le ?h9 ?le9; (case h9 => first | tbn_find | exact allLt_of (by assumption)); (case le9 => omega))) | fail "mine_all")
local macro_rules | `(tactic| k_room) => `(tactic| ktr_room)
local macro_rules | `(tactic| walk_at "call ref") => `(tactic| (k_here; (with_reducible show wpAny _ _ (call (Value.ref 44) _) _ _ _); k_dflt (refine' call_exc PySem.F.excBase_Exception ?k1 ?k2 ?k3 ?k4 under44 ?k5 ?k6 ?_; (case k1 => k_asm); (case k2 => k_asm); (case k3 => k_asm); (case k4 => k_is); (case k5 => k_is); (case k6 => k_is); k_whole; intro e' tp' h' F' N' l1 l2; (try k_lt l1); (try k_lt2 l2); (try k_sweep))))
local macro_rules | `(tactic| walk_at "getMethod type:Exception") => `(tactic| (k_here; refine' method_type ?F ?X ?m (by decide +kernel) ?e ?h ?_; (case F => k_asm); (case X => k_asm); (case m => exact meta_Exception); (case e => k_dflt k_is); (case h => k_handed)))
local macro_rules | `(tactic| walk_at "call builtin:Exception.__init__") => `(tactic| (k_here; k_dflt (refine' init_exc PySem.F.excBase_Exception under44 ?k1 ?k2 ?k3 ?k4 ?k5 ?_; (case k1 => k_asm); (case k2 => k_asm); (case k3 => k_asm); (case k4 => k_all); (case k5 => k_is); k_whole; intro tp' h' F' N'; (try k_sweep))))
local macro_rules | `(tactic| walk_at "setAttr ref") => `(tactic| (k_here; k_dflt (refine' set_exc ?k1 ?k2 ?k3 ?k4 ?k5 ?k6 ?k7 ?k8 ?k9 ?k10 ?_; (case k1 => k_asm); (case k2 => k_asm); (case k3 => k_asm); (case k4 => k_all); (case k5 => k_is); (case k6 => k_is); (case k7 => rfl); (case k8 => k_is); (case k9 => exact passes44); (case k10 => decide); k_whole; intro h' tk' d' F' N'; (try k_sweep))))
local macro_rules | `(tactic| walk_at "exec Raise some none") => `(tactic| (k_here; k_dflt (refine' raise_exc (C := 44) ?k0 ?k1 ?k2 ?k3 ?_; (case k0 => k_asm); (case k1 => k_is); (case k2 => decide); (case k3 => rfl))))
local macro_rules | `(tactic| walk_at "RaisesC") => `(tactic| (k_here; k_dflt (refine' raisesC ?k1 ?k2 ?k3 ?k4 ?_; (case k1 => k_asm); (case k2 => k_asm); (case k3 => k_asm); (case k4 => k_mem))))
local macro_rules | `(tactic| walk_at "leaving ref") => `(tactic| (k_here; k_dflt (refine' leave_exc ?k1 ?k2 ?k3 ?k4 ?_; (case k2 => assumption); (case k1 => assumption); (case k3 => k_asm); (case k4 => k_all); k_whole; intro h' S' R' U'; (try dsimp only at S' R' U' ⊢); (try dsimp only [InitBack]))))
local macro_rules | `(tactic| walk_at "compareOp NotIn str ref") => `(tactic| (k_here; (with_reducible show wpAny _ _ (compareOp CmpOp.NotIn (Value.str _ _) (Value.ref 47)) _ _ _); k_dflt (refine' notin_kinds ?k1 ?k2 ?k3 ?k4 ?_; (case k1 => k_asm); (case k2 => k_asm); (case k3 => k_is); (case k4 => exact .cons _ _ (.cons _ _ (.cons _ _ (.cons _ _ (.cons _ _ .nil))))))))
local macro_rules | `(tactic| walk_at "compareOp In int ref") => `(tactic| (k_here; k_dflt (refine' in_range ?k1 ?_; (case k1 => assumption))))
local macro_rules | `(tactic| k_handed) => `(tactic| assumption)
local macro_rules | `(tactic| walk_at "binaryOp Mult int int") => `(tactic| (k_here; with_unfolding_all refine mul_int ?_ (hm := mulOk_take _ _)))

open PySem.Challenge
theorem made_spec (w : World) (mean : ExcName → Option Value) (mg mb : Str → Option Value) (r : Addr) (c : Nat) (x : Str) (q i n : Int) (o : Bool) (v2 v5 v7 : Value) (tx tq ti tn : Tok) (rest : Led) (hx : x.length ≤ 100) :
  EndsT rw_nz0237_01.row.prog w (hd.heap_39 w.params) hd.view_39 (looseW hd.view_39 []) mean mg mb 125 6
    ((r, listOf #[.str x tx, .int q tq, v2, .int i ti, .bool o, v5, .int n tn, v7] c) :: rest) [.ref r]
    (MadeP w x q i (.str x tx) (.int q tq) v2 (.int i ti) (.bool o) v5 (.int n tn) v7 ((r, listOf #[.str x tx, .int q tq, v2, .int i ti, .bool o, v5, .int n tn, v7] c) :: rest)) := by
  unfold EndsT
  k_fill
  intro dp un gd cn cs ad ccd A₀ h₀ L m s Q E B F X N T hk hdp hu hret
  refine wpAny_call ?_
  k_dflt (refine' code_defS0 ?k1 ?k2 ?k3 ?k4 ?k5 ?kA ?k6 ?k7 ?k8 ?k9 ?kB ?_ ?cK ?c2 ?c3 ?c4 ?c5; (case kA => exact rfl); (case k2 => k_asm); (case k1 => k_asm); (case k3 => k_asm); (case k4 => k_asm); (case k5 => k_asm); (case k6 => k_is); (case k7 => k_is); (case k8 => k_room); (case k9 => first | exact binds_K (by k_in) rfl (by k_is) rfl rfl rfl | exact BindsTo.of_eq rfl | fail "kts_go: no rule for these arguments"); (case kB => exact locs rfl); (case cK => first | assumption | exact rfl); (case c2 => exact rfl); (case c3 => exact rfl); (case c4 => exact rfl); (case c5 => decide); k_whole; intro g' L' h' FG' F' N' B' X' T' D'; (try dsimp only); (try k_lift B'); (try k_fold))
  k_steps
  all_goals first
    | exact hret _ _ _ _ (by assumption) (cb_drop (by assumption) (fun p hp => by first | exact .tail _ hp | exact .tail _ (.tail _ hp) | exact .tail _ (.tail _ (.tail _ hp)) | exact .tail _ (.tail _ (.tail _ (.tail _ hp))))) (madeNo (taken_kind (by assumption)))
    | exact hret _ _ _ _ (by assumption) (cb_drop (by assumption) (fun p hp => by first | exact .tail _ hp | exact .tail _ (.tail _ hp) | exact .tail _ (.tail _ (.tail _ hp)) | exact .tail _ (.tail _ (.tail _ (.tail _ hp))))) (madeNo (taken_q (by omega)))
    | exact hret _ _ _ _ (by assumption) (cb_drop (by assumption) (fun p hp => by first | exact .tail _ hp | exact .tail _ (.tail _ hp) | exact .tail _ (.tail _ (.tail _ hp)) | exact .tail _ (.tail _ (.tail _ (.tail _ hp))))) (madeNo (taken_i (by omega)))
    | exact hret _ _ _ _ (by assumption) (by assumption) (madeYes (taken_yes (by assumption) (by omega) (by omega) (by omega) (by omega)) (by assumption) (by assumption))
end Mine
end

section
open PySem PySem.W PyProof.Rows PySem.Calls
set_option maxHeartbeats 8000000
namespace Mine
local macro_rules | `(tactic| k_all) => `(tactic| first | assumption | (tbn_letter; first | (refine allNe_of_lt ?_; first | tbn_find | exact allLt_of (by assumption)) | (refine' allNe_of_le ?h9 ?le9; (case h9 => first | tbn_find | exact allLt_of (by assumption)); (case le9 => omega))) | fail "mine_all")
local macro_rules | `(tactic| k_room) => `(tactic| ktr_room)
local macro_rules | `(tactic| walk_at "call ref") => `(tactic| (k_here; (with_reducible show wpAny _ _ (call (Value.ref 44) _) _ _ _); k_dflt (refine' call_exc PySem.F.excBase_Exception ?k1 ?k2 ?k3 ?k4 under44 ?k5 ?k6 ?_; (case k1 => k_asm); (case k2 => k_asm); (case k3 => k_asm); (case k4 => k_is); (case k5 => k_is); (case k6 => k_is); k_whole; intro e' tp' h' F' N' l1 l2; (try k_lt l1); (try k_lt2 l2); (try k_sweep))))
local macro_rules | `(tactic| walk_at "getMethod type:Exception") => `(tactic| (k_here; refine' method_type ?F ?X ?m (by decide +kernel) ?e ?h ?_; (case F => k_asm); (case X => k_asm); (case m => exact meta_Exception); (case e => k_dflt k_is); (case h => k_handed)))
local macro_rules | `(tactic| walk_at "call builtin:Exception.__init__") => `(tactic| (k_here; k_dflt (refine' init_exc PySem.F.excBase_Exception under44 ?k1 ?k2 ?k3 ?k4 ?k5 ?_; (case k1 => k_asm); (case k2 => k_asm); (case k3 => k_asm); (case k4 => k_all); (case k5 => k_is); k_whole; intro tp' h' F' N'; (try k_sweep))))
local macro_rules | `(tactic| walk_at "setAttr ref") => `(tactic| (k_here; k_dflt (refine' set_exc ?k1 ?k2 ?k3 ?k4 ?k5 ?k6 ?k7 ?k8 ?k9 ?k10 ?_; (case k1 => k_asm); (case k2 => k_asm); (case k3 => k_asm); (case k4 => k_all); (case k5 => k_is); (case k6 => k_is); (case k7 => rfl); (case k8 => k_is); (case k9 => exact passes44); (case k10 => decide); k_whole; intro h' tk' d' F' N'; (try k_sweep))))
local macro_rules | `(tactic| walk_at "exec Raise some none") => `(tactic| (k_here; k_dflt (refine' raise_exc (C := 44) ?k0 ?k1 ?k2 ?k3 ?_; (case k0 => k_asm); (case k1 => k_is); (case k2 => decide); (case k3 => rfl))))
local macro_rules | `(tactic| walk_at "RaisesC") => `(tactic| (k_here; k_dflt (refine' raisesC ?k1 ?k2 ?k3 ?k4 ?_; (case k1 => k_asm); (case k2 => k_asm); (case k3 => k_asm); (case k4 => k_mem))))
local macro_rules | `(tactic| walk_at "leaving ref") => `(tactic| (k_here; k_dflt (refine' leave_exc ?k1 ?k2 ?k3 ?k4 ?_; (case k2 => assumption); (case k1 => assumption); (case k3 => k_asm); (case k4 => k_all); k_whole; intro h' S' R' U'; (try dsimp only at S' R' U' ⊢); (try dsimp only [InitBack]))))
local macro_rules | `(tactic| walk_at "compareOp NotIn str ref") => `(tactic| (k_here; (with_reducible show wpAny _ _ (compareOp CmpOp.NotIn (Value.str _ _) (Value.ref 47)) _ _ _); k_dflt (refine' notin_kinds ?k1 ?k2 ?k3 ?k4 ?_; (case k1 => k_asm); (case k2 => k_asm); (case k3 => k_is); (case k4 => exact .cons _ _ (.cons _ _ (.cons _ _ (.cons _ _ (.cons _ _ .nil))))))))
local macro_rules | `(tactic| walk_at "compareOp In int ref") => `(tactic| (k_here; k_dflt (refine' in_range ?k1 ?_; (case k1 => assumption))))
local macro_rules | `(tactic| k_handed) => `(tactic| assumption)

open PySem.Challenge in
theorem told_spec (w : World) (mean : ExcName → Option Value) (mg mb : Str → Option Value) (p d : Addr) (x : Str) (q i n : Int) (o : Bool) (y : Str) (v2 v5 : Value) (tx tq ti tn ty : Tok) (k0 k1 k2 k3 k4 k5 k6 k7 : Tok) (rest : Led)
    (h2 : handedIn v2 = true) (h5 : handedIn v5 = true) :
  Ends rw_nz0237_01.row.prog w (hd.heap_39 w.params) hd.view_39 (looseW hd.view_39 []) mean mg mb 118 2 ((p, instObj 65 d) :: (d, dictOf (setEs w (.str x tx) (.int q tq) v2 (.int i ti) (.bool o) v5 (.int n tn) (.str y ty) k0 k1 k2 k3 k4 k5 k6 k7) 8) :: rest) [.ref p]
    (fun news' v => ∃ (q' : Addr) (c : Nat), v = .ref q' ∧ AllLt q' rest ∧ news' = (q', listOf #[.str x tx, .int q tq, v2, .int i ti, .bool o, v5, .int n tn, .str y ty] c) :: rest) := by
  unfold Ends
  k_fill
  intro dp un gd cn cs ad ccd cl outer A₀ base h₀ L m s Q E B F X N T hk hdp hu hret
  refine wpAny_call ?_
  k_dflt ktr_enter
  k_steps
  exact hret _ _ _ _ (by assumption) (cb_drop (by assumption) (List.forall_mem_cons.mpr ⟨.head _, fun p hp => by repeat' (first | exact hp | refine List.Mem.tail _ ?_)⟩)) ⟨_, _, rfl, by tbn_find, rfl⟩
end Mine
end

section
open PySem PySem.W PyProof.Rows PySem.Calls
set_option maxHeartbeats 8000000
namespace Mine
local macro_rules | `(tactic| k_all) => `(tactic| first | assumption | (tbn_letter; first | (refine allNe_of_lt ?_; first | tbn_find | exact allLt_of (by assumption)) | (refine' allNe_of_le ?h9 ?le9; (case h9 => first | tbn_find | exact allLt_of (by assumption)); (case le9 => omega))) | fail "mine_all")
local macro_rules | `(tactic| k_room) => `(tactic| ktr_room)
local macro_rules | `(tactic| walk_at "call ref") => `(tactic| (k_here; (with_reducible show wpAny _ _ (call (Value.ref 44) _) _ _ _); k_dflt (refine' call_exc PySem.F.excBase_Exception ?k1 ?k2 ?k3 ?k4 under44 ?k5 ?k6 ?_; (case k1 => k_asm); (case k2 => k_asm); (case k3 => k_asm); (case k4 => k_is); (case k5 => k_is); (case k6 => k_is); k_whole; intro e' tp' h' F' N' l1 l2; (try k_lt l1); (try k_lt2 l2); (try k_sweep))))
local macro_rules | `(tactic| walk_at "getMethod type:Exception") => `(tactic| (k_here; refine' method_type ?F ?X ?m (by decide +kernel) ?e ?h ?_; (case F => k_asm); (case X => k_asm); (case m => exact meta_Exception); (case e => k_dflt k_is); (case h => k_handed)))
local macro_rules | `(tactic| walk_at "call builtin:Exception.__init__") => `(tactic| (k_here; k_dflt (refine' init_exc PySem.F.excBase_Exception under44 ?k1 ?k2 ?k3 ?k4 ?k5 ?_; (case k1 => k_asm); (case k2 => k_asm); (case k3 => k_asm); (case k4 => k_all); (case k5 => k_is); k_whole; intro tp' h' F' N'; (try k_sweep))))
local macro_rules | `(tactic| walk_at "setAttr ref") => `(tactic| (k_here; k_dflt (refine' set_exc ?k1 ?k2 ?k3 ?k4 ?k5 ?k6 ?k7 ?k8 ?k9 ?k10 ?_; (case k1 => k_asm); (case k2 => k_asm); (case k3 => k_asm); (case k4 => k_all); (case k5 => k_is); (case k6 => k_is); (case k7 => rfl); (case k8 => k_is); (case k9 => exact passes44); (case k10 => decide); k_whole; intro h' tk' d' F' N'; (try k_sweep))))
local macro_rules | `(tactic| walk_at "exec Raise some none") => `(tactic| (k_here; k_dflt (refine' raise_exc (C := 44) ?k0 ?k1 ?k2 ?k3 ?_; (case k0 => k_asm); (case k1 => k_is); (case k2 => decide); (case k3 => rfl))))
local macro_rules | `(tactic| walk_at "RaisesC") => `(tactic| (k_here; k_dflt (refine' raisesC ?k1 ?k2 ?k3 ?k4 ?_; (case k1 => k_asm); (case k2 => k_asm); (case k3 => k_asm); (case k4 => k_mem))))
local macro_rules | `(tactic| walk_at "leaving ref") => `(tactic| (k_here; k_dflt (refine' leave_exc ?k1 ?k2 ?k3 ?k4 ?_; (case k2 => assumption); (case k1 => assumption); (case k3 => k_asm); (case k4 => k_all); k_whole; intro h' S' R' U'; (try dsimp only at S' R' U' ⊢); (try dsimp only [InitBack]))))
local macro_rules | `(tactic| walk_at "compareOp NotIn str ref") => `(tactic| (k_here; (with_reducible show wpAny _ _ (compareOp CmpOp.NotIn (Value.str _ _) (Value.ref 47)) _ _ _); k_dflt (refine' notin_kinds ?k1 ?k2 ?k3 ?k4 ?_; (case k1 => k_asm); (case k2 => k_asm); (case k3 => k_is); (case k4 => exact .cons _ _ (.cons _ _ (.cons _ _ (.cons _ _ (.cons _ _ .nil))))))))
local macro_rules | `(tactic| walk_at "compareOp In int ref") => `(tactic| (k_here; k_dflt (refine' in_range ?k1 ?_; (case k1 => assumption))))
local macro_rules | `(tactic| k_handed) => `(tactic| assumption)

open PySem.Challenge in
theorem istaken_spec (w : World) (mean : ExcName → Option Value) (mg mb : Str → Option Value) (r : Addr) (c : Nat) (x : Str) (q i : Int) (tx tq ti : Tok) (v2 v4 v5 v6 v7 : Value) (rest : Led) :
  Ends rw_nz0237_01.row.prog w (hd.heap_39 w.params) hd.view_39 (looseW hd.view_39 []) mean mg mb 132 2 ((r, listOf #[.str x tx, .int q tq, v2, .int i ti, v4, v5, v6, v7] c) :: rest) [.ref r]
    (fun news' v => v = .bool (taken x q i) ∧ news' = rest) := by
  unfold Ends
  k_fill
  intro dp un gd cn cs ad ccd cl outer A₀ base h₀ L m s Q E B F X N T hk hdp hu hret
  refine wpAny_call ?_
  k_dflt ktr_enter
  k_steps
  all_goals first
    | exact hret _ _ _ _ (by assumption) (cb_drop (by assumption) (fun p hp => by repeat' (first | exact hp | refine List.Mem.tail _ ?_))) ⟨is3 (by assumption) (by omega) (by omega), rfl⟩
    | exact hret _ _ _ _ (by assumption) (cb_drop (by assumption) (fun p hp => by repeat' (first | exact hp | refine List.Mem.tail _ ?_))) ⟨is2 (by assumption), rfl⟩
    | exact hret _ _ _ _ (by assumption) (cb_drop (by assumption) (fun p hp => by repeat' (first | exact hp | refine List.Mem.tail _ ?_))) ⟨is1 (by assumption), rfl⟩
end Mine
end

section
open PySem PySem.W PyProof.Rows PySem.Calls
set_option maxHeartbeats 8000000
namespace Mine
local macro_rules | `(tactic| k_all) => `(tactic| first | assumption | (tbn_letter; first | (refine allNe_of_lt ?_; first | tbn_find | exact allLt_of (by assumption)) | (refine' allNe_of_le ?h9 ?le9; (case h9 => first | tbn_find | exact allLt_of (by assumption)); (case le9 => omega))) | fail "mine_all")
local macro_rules | `(tactic| k_room) => `(tactic| ktr_room)
local macro_rules | `(tactic| walk_at "call ref") => `(tactic| (k_here; (with_reducible show wpAny _ _ (call (Value.ref 44) _) _ _ _); k_dflt (refine' call_exc PySem.F.excBase_Exception ?k1 ?k2 ?k3 ?k4 under44 ?k5 ?k6 ?_; (case k1 => k_asm); (case k2 => k_asm); (case k3 => k_asm); (case k4 => k_is); (case k5 => k_is); (case k6 => k_is); k_whole; intro e' tp' h' F' N' l1 l2; (try k_lt l1); (try k_lt2 l2); (try k_sweep))))
local macro_rules | `(tactic| walk_at "getMethod type:Exception") => `(tactic| (k_here; refine' method_type ?F ?X ?m (by decide +kernel) ?e ?h ?_; (case F => k_asm); (case X => k_asm); (case m => exact meta_Exception); (case e => k_dflt k_is); (case h => k_handed)))
local macro_rules | `(tactic| walk_at "call builtin:Exception.__init__") => `(tactic| (k_here; k_dflt (refine' init_exc PySem.F.excBase_Exception under44 ?k1 ?k2 ?k3 ?k4 ?k5 ?_; (case k1 => k_asm); (case k2 => k_asm); (case k3 => k_asm); (case k4 => k_all); (case k5 => k_is); k_whole; intro tp' h' F' N'; (try k_sweep))))
local macro_rules | `(tactic| walk_at "setAttr ref") => `(tactic| (k_here; k_dflt (refine' set_exc ?k1 ?k2 ?k3 ?k4 ?k5 ?k6 ?k7 ?k8 ?k9 ?k10 ?_; (case k1 => k_asm); (case k2 => k_asm); (case k3 => k_asm); (case k4 => k_all); (case k5 => k_is); (case k6 => k_is); (case k7 => rfl); (case k8 => k_is); (case k9 => exact passes44); (case k10 => decide); k_whole; intro h' tk' d' F' N'; (try k_sweep))))
local macro_rules | `(tactic| walk_at "exec Raise some none") => `(tactic| (k_here; k_dflt (refine' raise_exc (C := 44) ?k0 ?k1 ?k2 ?k3 ?_; (case k0 => k_asm); (case k1 => k_is); (case k2 => decide); (case k3 => rfl))))
local macro_rules | `(tactic| walk_at "RaisesC") => `(tactic| (k_here; k_dflt (refine' raisesC ?k1 ?k2 ?k3 ?k4 ?_; (case k1 => k_asm); (case k2 => k_asm); (case k3 => k_asm); (case k4 => k_mem))))
local macro_rules | `(tactic| walk_at "leaving ref") => `(tactic| (k_here; k_dflt (refine' leave_exc ?k1 ?k2 ?k3 ?k4 ?_; (case k2 => assumption); (case k1 => assumption); (case k3 => k_asm); (case k4 => k_all); k_whole; intro h' S' R' U'; (try dsimp only at S' R' U' ⊢); (try dsimp only [InitBack]))))
local macro_rules | `(tactic| walk_at "compareOp NotIn str ref") => `(tactic| (k_here; (with_reducible show wpAny _ _ (compareOp CmpOp.NotIn (Value.str _ _) (Value.ref 47)) _ _ _); k_dflt (refine' notin_kinds ?k1 ?k2 ?k3 ?k4 ?_; (case k1 => k_asm); (case k2 => k_asm); (case k3 => k_is); (case k4 => exact .cons _ _ (.cons _ _ (.cons _ _ (.cons _ _ (.cons _ _ .nil))))))))
local macro_rules | `(tactic| walk_at "compareOp In int ref") => `(tactic| (k_here; k_dflt (refine' in_range ?k1 ?_; (case k1 => assumption))))
local macro_rules | `(tactic| k_handed) => `(tactic| assumption)
local macro_rules | `(tactic| walk_at "binaryOp Mult int int") => `(tactic| (k_here; with_unfolding_all refine mul_int ?_ (hm := mulOk_take _ _)))

open PySem.Challenge
theorem arith_spec (w : World) (mean : ExcName → Option Value) (mg mb : Str → Option Value) (x : Str) (tx : Tok) (rest : Led) :
  Ends rw_nz0237_01.row.prog w (hd.heap_39 w.params) hd.view_39 (looseW hd.view_39 []) mean mg mb 76 1 rest [.str x tx]
    (fun news' v => v = .bool (([Str.ofString "arith", Str.ofString "arith progressive"] : List Str).any (· == x)) ∧ news' = rest) := by
  unfold Ends
  k_fill
  intro dp un gd cn cs ad ccd cl outer A₀ base h₀ L m s Q E B F X N T hk hdp hu hret
  refine wpAny_call ?_
  k_dflt ktr_enter
  k_steps
  all_goals exact hret _ _ _ _ (by assumption) (cb_drop (by assumption) (fun p hp => List.Mem.tail _ hp)) ⟨rfl, rfl⟩
section
variable {w : World} {mean : ExcName → Option Value} {mg mb : Str → Option Value} {dp un : Nat} {gd : Option (List Code)} {cn : Str} {cs : Scope} {a : Addr} {ccd : Value} {cl : List (Str × Addr)} {outer : List Env} {A₀ : Around} {base h₀ : Heap} {L : Addr} {m : Str → Option Value} {s : Shared} {Q E : Value → Shared → Prop} {news : Led}
theorem arith_use {x : Str} {tx : Tok} (b : Bool) (B : Below A₀ base outer h₀) (F : Fr h₀ L s.heap m) (X : (hd.heap_39 w.params).In h₀) (N : News h₀ L s.heap news) (T : Top hd.view_39 (looseW hd.view_39 []) mean mg mb h₀)
    (hb : (([Str.ofString "arith", Str.ofString "arith progressive"] : List Str).any (· == x)) = b) (hk : cs.kind = .function) (hdp : dp + 1 < recursionLimit) (hu : un + 8 * 1 < cLine)
    (h : ∀ h' tk', Fr h₀ L h' m → News h₀ L h' news → Q (.bool b) { s with heap := h', toks := tk' }) :
    wpAny (model rw_nz0237_01.row.prog w) (ktrTop dp un gd cn cs L a ccd cl outer) (call (.ref 76) [.str x tx]) Q E s := by
  refine arith_spec w mean mg mb x tx news dp un gd cn cs a ccd cl outer A₀ base h₀ L m s Q E B F X N T hk hdp hu ?_
  rintro v news' h' tk' F' N' ⟨rfl, rfl⟩
  rw [hb]
  exact h h' tk' F' N'
end
theorem prog_spec (w : World) (mean : ExcName → Option Value) (mg mb : Str → Option Value) (x : Str) (tx : Tok) (rest : Led) :
  Ends rw_nz0237_01.row.prog w (hd.heap_39 w.params) hd.view_39 (looseW hd.view_39 []) mean mg mb 83 1 rest [.str x tx]
    (fun news' v => v = .bool (([Str.ofString "progressive", Str.ofString "arith progressive"] : List Str).any (· == x)) ∧ news' = rest) := by
  unfold Ends
  k_fill
  intro dp un gd cn cs ad ccd cl outer A₀ base h₀ L m s Q E B F X N T hk hdp hu hret
  refine wpAny_call ?_
  k_dflt ktr_enter
  k_steps
  all_goals exact hret _ _ _ _ (by assumption) (cb_drop (by assumption) (fun p hp => List.Mem.tail _ hp)) ⟨rfl, rfl⟩
section
variable {w : World} {mean : ExcName → Option Value} {mg mb : Str → Option Value} {dp un : Nat} {gd : Option (List Code)} {cn : Str} {cs : Scope} {a : Addr} {ccd : Value} {cl : List (Str × Addr)} {outer : List Env} {A₀ : Around} {base h₀ : Heap} {L : Addr} {m : Str → Option Value} {s : Shared} {Q E : Value → Shared → Prop} {news : Led}
theorem prog_use {x : Str} {tx : Tok} (b : Bool) (B : Below A₀ base outer h₀) (F : Fr h₀ L s.heap m) (X : (hd.heap_39 w.params).In h₀) (N : News h₀ L s.heap news) (T : Top hd.view_39 (looseW hd.view_39 []) mean mg mb h₀)
    (hb : (([Str.ofString "progressive", Str.ofString "arith progressive"] : List Str).any (· == x)) = b) (hk : cs.kind = .function) (hdp : dp + 1 < recursionLimit) (hu : un + 8 * 1 < cLine)
    (h : ∀ h' tk', Fr h₀ L h' m → News h₀ L h' news → Q (.bool b) { s with heap := h', toks := tk' }) :
    wpAny (model rw_nz0237_01.row.prog w) (ktrTop dp un gd cn cs L a ccd cl outer) (call (.ref 83) [.str x tx]) Q E s := by
  refine prog_spec w mean mg mb x tx news dp un gd cn cs a ccd cl outer A₀ base h₀ L m s Q E B F X N T hk hdp hu ?_
  rintro v news' h' tk' F' N' ⟨rfl, rfl⟩
  rw [hb]
  exact h h' tk' F' N'
end
end Mine
end

section
open PySem PySem.W PyProof.Rows PySem.Calls
set_option maxHeartbeats 8000000
namespace Mine
local macro_rules | `(tactic| k_all) => `(tactic| first | assumption | (tbn_letter; first | (refine allNe_of_lt ?_; first | tbn_find | exact allLt_of (by assumption)) | (refine' allNe_of_le ?h9 ?le9; (case h9 => first | tbn_find | exact allLt_of (by assumption)); (case le9 => omega))) | fail "mine_all")
local macro_rules | `(tactic| k_room) => `(tactic| ktr_room)
local macro_rules | `(tactic| walk_at "call ref") => `(tactic| (k_here; (with_reducible show wpAny _ _ (call (Value.ref 44) _) _ _ _); k_dflt (refine' call_exc PySem.F.excBase_Exception ?k1 ?k2 ?k3 ?k4 under44 ?k5 ?k6 ?_; (case k1 => k_asm); (case k2 => k_asm); (case k3 => k_asm); (case k4 => k_is); (case k5 => k_is); (case k6 => k_is); k_whole; intro e' tp' h' F' N' l1 l2; (try k_lt l1); (try k_lt2 l2); (try k_sweep))))
local macro_rules | `(tactic| walk_at "getMethod type:Exception") => `(tactic| (k_here; refine' method_type ?F ?X ?m (by decide +kernel) ?e ?h ?_; (case F => k_asm); (case X => k_asm); (case m => exact meta_Exception); (case e => k_dflt k_is); (case h => k_handed)))
local macro_rules | `(tactic| walk_at "call builtin:Exception.__init__") => `(tactic| (k_here; k_dflt (refine' init_exc PySem.F.excBase_Exception under44 ?k1 ?k2 ?k3 ?k4 ?k5 ?_; (case k1 => k_asm); (case k2 => k_asm); (case k3 => k_asm); (case k4 => k_all); (case k5 => k_is); k_whole; intro tp' h' F' N'; (try k_sweep))))
local macro_rules | `(tactic| walk_at "setAttr ref") => `(tactic| (k_here; k_dflt (refine' set_exc ?k1 ?k2 ?k3 ?k4 ?k5 ?k6 ?k7 ?k8 ?k9 ?k10 ?_; (case k1 => k_asm); (case k2 => k_asm); (case k3 => k_asm); (case k4 => k_all); (case k5 => k_is); (case k6 => k_is); (case k7 => rfl); (case k8 => k_is); (case k9 => exact passes44); (case k10 => decide); k_whole; intro h' tk' d' F' N'; (try k_sweep))))
local macro_rules | `(tactic| walk_at "exec Raise some none") => `(tactic| (k_here; k_dflt (refine' raise_exc (C := 44) ?k0 ?k1 ?k2 ?k3 ?_; (case k0 => k_asm); (case k1 => k_is); (case k2 => decide); (case k3 => rfl))))
local macro_rules | `(tactic| walk_at "RaisesC") => `(tactic| (k_here; k_dflt (refine' raisesC ?k1 ?k2 ?k3 ?k4 ?_; (case k1 => k_asm); (case k2 => k_asm); (case k3 => k_asm); (case k4 => k_mem))))
local macro_rules | `(tactic| walk_at "leaving ref") => `(tactic| (k_here; k_dflt (refine' leave_exc ?k1 ?k2 ?k3 ?k4 ?_; (case k2 => assumption); (case k1 => assumption); (case k3 => k_asm); (case k4 => k_all); k_whole; intro h' S' R' U'; (try dsimp only at S' R' U' ⊢); (try dsimp only [InitBack]))))
local macro_rules | `(tactic| walk_at "compareOp NotIn str ref") => `(tactic| (k_here; (with_reducible show wpAny _ _ (compareOp CmpOp.NotIn (Value.str _ _) (Value.ref 47)) _ _ _); k_dflt (refine' notin_kinds ?k1 ?k2 ?k3 ?k4 ?_; (case k1 => k_asm); (case k2 => k_asm); (case k3 => k_is); (case k4 => exact .cons _ _ (.cons _ _ (.cons _ _ (.cons _ _ (.cons _ _ .nil))))))))
local macro_rules | `(tactic| walk_at "compareOp In int ref") => `(tactic| (k_here; k_dflt (refine' in_range ?k1 ?_; (case k1 => assumption))))
local macro_rules | `(tactic| k_handed) => `(tactic| assumption)
local macro_rules | `(tactic| walk_at "binaryOp Mult int int") => `(tactic| (k_here; with_unfolding_all refine mul_int ?_ (hm := mulOk_take _ _)))

open PySem.Challenge in
theorem take_spec (w : World) (mean : ExcName → Option Value) (mg mb : Str → Option Value) (l : Addr) (n : Nat) (a b top : Int) (ta tb tt : Tok) (rest : Led) (hr : ∀ p ∈ rest, p.1 ≠ l) (h0 : 0 ≤ a) (hb : 0 ≤ b) (hb' : b < 2147483647) (ht : 1 ≤ top) (ht9 : top ≤ 100000) :
  Ends rw_nz0237_01.row.prog w (hd.heap_39 w.params) hd.view_39 (looseW hd.view_39 []) mean mg mb 104 1
    ((l, listOf #[.int a ta, .int b tb] n) :: rest) [.ref l, .int top tt] (DrawP l n top rest) := by
  unfold Ends
  k_fill
  intro dp un gd cn cs ad ccd cl outer A₀ base h₀ L m s Q E B F X N T hk hdp hu hret
  refine wpAny_call ?_
  k_dflt ktr_enter
  k_steps
  · exact hret _ _ _ _ (by assumption) (by assumption) (drawP rfl ht (draw_a (by exact h0) ht) hb hb')
  · exact hret _ _ _ _ (by assumption) (by assumption) (drawP rfl ht h0 (draw_b _) (draw_b' _))
end Mine
end

section
open PySem PySem.W PyProof.Rows PySem.Calls
set_option maxHeartbeats 4000000
namespace Mine
open PySem.Challenge
theorem news_front {h₀ h : Heap} {L l : Addr} {o : Obj} {pre post : Led} (N : News h₀ L h (pre ++ (l, o) :: post)) : News h₀ L h ((l, o) :: (pre ++ post)) := fun p hp => N p (by
  rcases List.mem_cons.mp hp with rfl | hp
  · exact List.mem_append.mpr (.inr (.head _))
  · rcases List.mem_append.mp hp with hp | hp
    · exact List.mem_append.mpr (.inl hp)
    · exact List.mem_append.mpr (.inr (.tail _ hp)))
theorem news_back {h₀ h : Heap} {L l : Addr} {o : Obj} {pre post : Led} (N : News h₀ L h ((l, o) :: (pre ++ post))) : News h₀ L h (pre ++ (l, o) :: post) := fun p hp => N p (by
  rcases List.mem_append.mp hp with hp | hp
  · exact .tail _ (List.mem_append.mpr (.inl hp))
  · rcases List.mem_cons.mp hp with rfl | hp
    · exact .head _
    · exact .tail _ (List.mem_append.mpr (.inr hp)))
section
variable {w : World} {mean : ExcName → Option Value} {mg mb : Str → Option Value} {dp un : Nat} {gd : Option (List Code)} {cn : Str} {cs : Scope} {a : Addr} {ccd : Value} {cl : List (Str × Addr)} {outer : List Env} {A₀ : Around} {base h₀ : Heap} {L : Addr} {m : Str → Option Value} {s : Shared} {Q E : Value → Shared → Prop} {news : Led}
theorem take_use {l : Addr} {n : Nat} {x y top : Int} {tx ty tt : Tok} {g : Obj → Led} (B : Below A₀ base outer h₀) (F : Fr h₀ L s.heap m) (X : (hd.heap_39 w.params).In h₀) (N : News h₀ L s.heap news) (T : Top hd.view_39 (looseW hd.view_39 []) mean mg mb h₀)
    (U : UpdF l (listOf #[.int x tx, .int y ty] n) news g) (hk : cs.kind = .function) (hdp : dp + 1 < recursionLimit) (hu : un + 8 * 1 < cLine) (h0 : 0 ≤ x) (hb : 0 ≤ y) (hb' : y < 2147483647) (ht : 1 ≤ top) (ht9 : top ≤ 100000)
    (h : ∀ (r x' y' : Int) (t tx' ty' : Tok) (h' : Heap) (tk' : Nat), Fr h₀ L h' m → News h₀ L h' (g (listOf #[.int x' tx', .int y' ty'] n)) → 0 ≤ r → r < top → 0 ≤ x' → 0 ≤ y' → y' < 2147483647 → Q (.int r t) { s with heap := h', toks := tk' }) :
    wpAny (model rw_nz0237_01.row.prog w) (ktrTop dp un gd cn cs L a ccd cl outer) (call (.ref 104) [.ref l, .int top tt]) Q E s := by
  obtain ⟨pre, post, rfl, hg, h1, h2⟩ := U.split
  refine take_spec w mean mg mb l n x y top tx ty tt (pre ++ post) (fun p hp => ?_) h0 hb hb' ht ht9 dp un gd cn cs a ccd cl outer A₀ base h₀ L m s Q E B F X (news_front N) T hk hdp hu ?_
  · rcases List.mem_append.mp hp with hp | hp
    · exact h1 p hp
    · exact h2 p hp
  · rintro v news' h' tk' F' N' ⟨r, x', y', t, tx', ty', rfl, e1, e2, e3, e4, e5, rfl⟩
    exact h r x' y' t tx' ty' h' tk' F' (by rw [hg]; exact news_back N') e1 e2 e3 e4 e5
end
theorem item_any {prog : Program} {w : World} {A : Around} {E : Value → Shared → Prop} {s : Shared} {value slice : PySem.Expr} {l : Addr} {vs : List Value} {k : Int} {u : Tok} {Q : Value → Shared → Prop}
    (hl : s.heap.IsList l vs.toArray) (h0 : 0 ≤ k) (h1 : k < (vs.length : Int)) (hlen : vs.length ≤ 1000) (h : ∀ v, v ∈ vs → Q v s)
    (hs : subscripted slice false (.ref l) (.int k u) = operate [.ref l, .int k u] (getItem (.ref l) (.int k u)) := by with_unfolding_all rfl) :
    wpAny (model prog w) A (subscriptTail value slice (.ref l) (.int k u)) Q E s := by
  have hlt : k.toNat < vs.length := by omega
  exact tail_any hl.typeIs PySem.F.slot_list_getitem.lookup (wpAny_getItem_list hl h0 (by omega) (by simpa using List.getElem?_eq_getElem hlt) (h _ (List.getElem_mem hlt))) hs
theorem len_any {prog : Program} {w : World} {A : Around} {E : Value → Shared → Prop} {s : Shared} {l : Addr} {vs : List Value} {Q : Value → Shared → Prop}
    (hl : s.heap.IsList l vs.toArray) (hlen : vs.length ≤ 1000) (h : Q (.int vs.length (s.toks + 1)) { s with toks := s.toks + 1 + 1 }) : wpAny (model prog w) A (call (.builtin "len") [.ref l]) Q E s := by
  have e : vs.toArray.size = vs.length := List.size_toArray
  exact call_len_list hl (by rw [e]; omega) (by rw [e]; exact h)
end Mine
end

section
open PySem PySem.W PyProof.Rows PySem.Calls
set_option maxHeartbeats 8000000
namespace Mine
local macro_rules | `(tactic| k_all) => `(tactic| first | assumption | (tbn_letter; first | (refine allNe_of_lt ?_; first | tbn_find | exact allLt_of (by assumption)) | (refine' allNe_of_le ?h9 ?le9; (case h9 => first | tbn_find | exact allLt_of (by assumption)); (case le9 => omega))) | fail "mine_all")
local macro_rules | `(tactic| k_room) => `(tactic| ktr_room)
local macro_rules | `(tactic| walk_at "call ref") => `(tactic| (k_here; (with_reducible show wpAny _ _ (call (Value.ref 44) _) _ _ _); k_dflt (refine' call_exc PySem.F.excBase_Exception ?k1 ?k2 ?k3 ?k4 under44 ?k5 ?k6 ?_; (case k1 => k_asm); (case k2 => k_asm); (case k3 => k_asm); (case k4 => k_is); (case k5 => k_is); (case k6 => k_is); k_whole; intro e' tp' h' F' N' l1 l2; (try k_lt l1); (try k_lt2 l2); (try k_sweep))))
local macro_rules | `(tactic| walk_at "getMethod type:Exception") => `(tactic| (k_here; refine' method_type ?F ?X ?m (by decide +kernel) ?e ?h ?_; (case F => k_asm); (case X => k_asm); (case m => exact meta_Exception); (case e => k_dflt k_is); (case h => k_handed)))
local macro_rules | `(tactic| walk_at "call builtin:Exception.__init__") => `(tactic| (k_here; k_dflt (refine' init_exc PySem.F.excBase_Exception under44 ?k1 ?k2 ?k3 ?k4 ?k5 ?_; (case k1 => k_asm); (case k2 => k_asm); (case k3 => k_asm); (case k4 => k_all); (case k5 => k_is); k_whole; intro tp' h' F' N'; (try k_sweep))))
local macro_rules | `(tactic| walk_at "setAttr ref") => `(tactic| (k_here; k_dflt (refine' set_exc ?k1 ?k2 ?k3 ?k4 ?k5 ?k6 ?k7 ?k8 ?k9 ?k10 ?_; (case k1 => k_asm); (case k2 => k_asm); (case k3 => k_asm); (case k4 => k_all); (case k5 => k_is); (case k6 => k_is); (case k7 => rfl); (case k8 => k_is); (case k9 => exact passes44); (case k10 => decide); k_whole; intro h' tk' d' F' N'; (try k_sweep))))
local macro_rules | `(tactic| walk_at "exec Raise some none") => `(tactic| (k_here; k_dflt (refine' raise_exc (C := 44) ?k0 ?k1 ?k2 ?k3 ?_; (case k0 => k_asm); (case k1 => k_is); (case k2 => decide); (case k3 => rfl))))
local macro_rules | `(tactic| walk_at "RaisesC") => `(tactic| (k_here; k_dflt (refine' raisesC ?k1 ?k2 ?k3 ?k4 ?_; (case k1 => k_asm); (case k2 => k_asm); (case k3 => k_asm); (case k4 => k_mem))))
local macro_rules | `(tactic| walk_at "leaving ref") => `(tactic| (k_here; k_dflt (refine' leave_exc ?k1 ?k2 ?k3 ?k4 ?_; (case k2 => assumption); (case k1 => assumption); (case k3 => k_asm); (case k4 => k_all); k_whole; intro h' S' R' U'; (try dsimp only at S' R' U' ⊢); (try dsimp only [InitBack]))))
local macro_rules | `(tactic| walk_at "compareOp NotIn str ref") => `(tactic| (k_here; (with_reducible show wpAny _ _ (compareOp CmpOp.NotIn (Value.str _ _) (Value.ref 47)) _ _ _); k_dflt (refine' notin_kinds ?k1 ?k2 ?k3 ?k4 ?_; (case k1 => k_asm); (case k2 => k_asm); (case k3 => k_is); (case k4 => exact .cons _ _ (.cons _ _ (.cons _ _ (.cons _ _ (.cons _ _ .nil))))))))
local macro_rules | `(tactic| walk_at "compareOp In int ref") => `(tactic| (k_here; k_dflt (refine' in_range ?k1 ?_; (case k1 => assumption))))
local macro_rules | `(tactic| k_handed) => `(tactic| assumption)
local macro_rules | `(tactic| walk_at "binaryOp Mult int int") => `(tactic| (k_here; with_unfolding_all refine mul_int ?_ (hm := mulOk_take _ _)))
local macro_rules | `(tactic| walk_at "call ref") => `(tactic| (k_here; (with_reducible show wpAny _ _ (call (Value.ref 104) _) _ _ _); k_dflt (refine' take_use ?k1 ?k2 ?k3 ?k4 ?k5 ?k6 ?k7 ?k8 ?k9 ?c1 ?c2 ?c3 ?c4 ?c5 ?_; (case k1 => k_asm); (case k2 => k_asm); (case k3 => k_asm); (case k4 => k_asm); (case k5 => k_asm); (case k6 => k_updF); (case k7 => first | exact rfl | assumption); (case k8 => ktr_room); (case k9 => ktr_units); (case c1 => first | assumption | omega); (case c2 => first | assumption | omega); (case c3 => first | assumption | omega); (case c4 => first | assumption | omega | (simp only [List.size_toArray]; omega)); (case c5 => first | assumption | omega | (simp only [List.size_toArray]; omega)); k_whole; intro r' x' y' t' tx' ty' h' tk' F' N' e1 e2 e3 e4 e5; (try dsimp only at N'); (try k_sweep); (try dsimp only); (try k_fold))))

open PySem.Challenge
local macro_rules | `(tactic| walk_at "subscriptTail Name Call") => `(tactic| (k_here; (with_reducible show wpAny _ _ (subscriptTail _ _ (Value.ref _) (Value.int _ _)) _ _ _); (with_unfolding_all refine' item_any ?k1 ?k2 ?k3 ?k4 ?_ ?k6; (case k1 => exact News.isList (by k_asm) (by k_mem)); (case k2 => first | assumption | omega); (case k3 => first | assumption | omega | (simp only [List.size_toArray] at *; omega)); (case k4 => first | assumption | omega); (case k6 => with_unfolding_all rfl); k_whole); intro v' hv'))
local macro_rules | `(tactic| walk_at "call builtin:len") => `(tactic| (k_here; (with_unfolding_all refine' len_any ?k1 ?k2 ?_; (case k1 => exact News.isList (by k_asm) (by k_mem)); (case k2 => first | assumption | omega); k_whole)))
theorem one_spec (w : World) (mean : ExcName → Option Value) (mg mb : Str → Option Value) (l q : Addr) (n c : Nat) (x y : Int) (tx ty : Tok) (vs : List Value) (rest : Led) (hq : q ≠ l) (hr : ∀ p ∈ rest, p.1 ≠ l) (h0 : 0 ≤ x) (hb : 0 ≤ y) (hb' : y < 2147483647) (hv : 1 ≤ vs.length) (hv9 : vs.length ≤ 100) :
  Ends rw_nz0237_01.row.prog w (hd.heap_39 w.params) hd.view_39 (looseW hd.view_39 []) mean mg mb 111 2
    ((l, listOf #[.int x tx, .int y ty] n) :: (q, listOf vs.toArray c) :: rest) [.ref l, .ref q]
    (fun news' v => v ∈ vs ∧ ∃ (x' y' : Int) (tx' ty' : Tok), 0 ≤ x' ∧ 0 ≤ y' ∧ y' < 2147483647 ∧ news' = (l, listOf #[.int x' tx', .int y' ty'] n) :: rest) := by
  unfold Ends
  k_fill
  intro dp un gd cn cs ad ccd cl outer A₀ base h₀ L m s Q E B F X N T hk hdp hu hret
  refine wpAny_call ?_
  k_dflt ktr_enter
  k_steps
  exact hret _ _ _ _ (by assumption) (cb_drop (by assumption) (List.forall_mem_cons.mpr ⟨.head _, fun p hp => by repeat' (first | exact hp | refine List.Mem.tail _ ?_)⟩)) ⟨by assumption, _, _, _, _, by assumption, by assumption, by assumption, rfl⟩
end Mine
end

section
open PySem PySem.W PyProof.Rows PySem.Calls
set_option maxHeartbeats 4000000
namespace Mine
open PySem.Challenge
section
variable {w : World} {mean : ExcName → Option Value} {mg mb : Str → Option Value} {dp un : Nat} {gd : Option (List Code)} {cn : Str} {cs : Scope} {a : Addr} {ccd : Value} {cl : List (Str × Addr)} {outer : List Env} {A₀ : Around} {base h₀ : Heap} {L : Addr} {m : Str → Option Value} {s : Shared} {Q E : Value → Shared → Prop} {news : Led}
theorem one_use {l q : Addr} {n c : Nat} {x y : Int} {tx ty : Tok} {vs : List Value} {g : Obj → Led} (B : Below A₀ base outer h₀) (F : Fr h₀ L s.heap m) (X : (hd.heap_39 w.params).In h₀) (N : News h₀ L s.heap news) (T : Top hd.view_39 (looseW hd.view_39 []) mean mg mb h₀)
    (U : UpdF l (listOf #[.int x tx, .int y ty] n) news g) (hm : (q, listOf vs.toArray c) ∈ news) (hq : q ≠ l) (hk : cs.kind = .function) (hdp : dp + 2 < recursionLimit) (hu : un + 8 * 2 < cLine) (h0 : 0 ≤ x) (hb : 0 ≤ y) (hb' : y < 2147483647) (hv : 1 ≤ vs.length) (hv9 : vs.length ≤ 100)
    (h : ∀ (v : Value) (x' y' : Int) (tx' ty' : Tok) (h' : Heap) (tk' : Nat), v ∈ vs → Fr h₀ L h' m → News h₀ L h' (g (listOf #[.int x' tx', .int y' ty'] n)) → 0 ≤ x' → 0 ≤ y' → y' < 2147483647 → Q v { s with heap := h', toks := tk' }) :
    wpAny (model rw_nz0237_01.row.prog w) (ktrTop dp un gd cn cs L a ccd cl outer) (call (.ref 111) [.ref l, .ref q]) Q E s := by
  obtain ⟨pre, post, rfl, hg, h1, h2⟩ := U.split
  have N2 : News h₀ L s.heap ((l, listOf #[.int x tx, .int y ty] n) :: (q, listOf vs.toArray c) :: (pre ++ post)) := fun p hp => by
    rcases List.mem_cons.mp hp with rfl | hp
    · exact N _ (List.mem_append.mpr (.inr (.head _)))
    · rcases List.mem_cons.mp hp with rfl | hp
      · exact N _ hm
      · exact news_front N p (.tail _ hp)
  refine one_spec w mean mg mb l q n c x y tx ty vs (pre ++ post) hq (fun p hp => ?_) h0 hb hb' hv hv9 dp un gd cn cs a ccd cl outer A₀ base h₀ L m s Q E B F X N2 T hk hdp hu ?_
  · rcases List.mem_append.mp hp with hp | hp
    · exact h1 p hp
    · exact h2 p hp
  · rintro v news' h' tk' F' N' ⟨hv, x', y', tx', ty', e3, e4, e5, rfl⟩
    exact h v x' y' tx' ty' h' tk' hv F' (by rw [hg]; exact news_back N') e3 e4 e5
end
def smallStr : Value → Bool
  | .str x _ => decide (x.length ≤ 100)
  | _ => false
def isIntV : Value → Bool
  | .int _ _ => true
  | _ => false
theorem pick_str {v : Value} {vs : List Value} (hv : v ∈ vs) (h : vs.all smallStr = true) : ∃ x t, v = .str x t ∧ x.length ≤ 100 := by
  have := List.all_eq_true.mp h v hv
  cases v <;> first | (cases this; done) | exact ⟨_, _, rfl, of_decide_eq_true this⟩
theorem pick_int {v : Value} {vs : List Value} (hv : v ∈ vs) (h : vs.all isIntV = true) : ∃ x t, v = .int x t := by
  have := List.all_eq_true.mp h v hv
  cases v <;> first | (cases this; done) | exact ⟨_, _, rfl⟩
theorem pick_any {v : Value} {vs : List Value} (hv : v ∈ vs) (h : vs.all handedIn = true) : handedIn v = true := List.all_eq_true.mp h v hv
theorem pool_a (c : Int) (p : Prop) [Decidable p] : 0 ≤ (if -1 - c > c then -1 - c else c) * (if decide p = true then (1 : Int) else 0) :=
  Int.mul_nonneg (by split <;> omega) (by split <;> decide)
/-- What the drawing of a row leaves. -/
def RowP (l : Addr) (n : Nat) (rest news' : Led) (v : Value) : Prop :=
  ∃ (r : Addr) (c : Nat) (x : Str) (q i k : Int) (o : Bool) (v2 v5 : Value) (tx tq ti tn ty : Tok) (a b : Int) (ta tb : Tok), v = .ref r ∧ x.length ≤ 100 ∧ handedIn v2 = true ∧ handedIn v5 = true ∧ l < r ∧ AllLt r rest ∧ 0 ≤ a ∧ 0 ≤ b ∧ b < 2147483647 ∧
    news' = (r, listOf #[.str x tx, .int q tq, v2, .int i ti, .bool o, v5, .int k tn, .str (Str.ofString "rgb") ty] c) :: (l, listOf #[.int a ta, .int b tb] n) :: rest
theorem rowP {l : Addr} {n : Nat} {rest : Led} {r : Addr} {c : Nat} {x : Str} {q i k : Int} {o : Bool} {v2 v5 : Value} {tx tq ti tn ty : Tok} {a b : Int} {ta tb : Tok} (hx : x.length ≤ 100) (h2 : handedIn v2 = true) (h5 : handedIn v5 = true) (hl : @LT.lt Nat _ l r) (ha : AllLt r rest)
    (h0 : 0 ≤ a) (hb : 0 ≤ b) (hb' : b < 2147483647) : RowP l n rest ((r, listOf #[.str x tx, .int q tq, v2, .int i ti, .bool o, v5, .int k tn, .str (Str.ofString "rgb") ty] c) :: (l, listOf #[.int a ta, .int b tb] n) :: rest) (.ref r) :=
  ⟨r, c, x, q, i, k, o, v2, v5, tx, tq, ti, tn, ty, a, b, ta, tb, rfl, hx, h2, h5, hl, ha, h0, hb, hb', rfl⟩
end Mine
end

section
open PySem PySem.W PyProof.Rows PySem.Calls
set_option maxHeartbeats 8000000
namespace Mine
local macro_rules | `(tactic| k_all) => `(tactic| first | assumption | (tbn_letter; first | (refine allNe_of_lt ?_; first | tbn_find | exact allLt_of (by assumption)) | (refine' allNe_of_le ?h9 ?le9; (case h9 => first | tbn_find | exact allLt_of (by assumption)); (case le9 => omega))) | fail "mine_all")
local macro_rules | `(tactic| k_room) => `(tactic| ktr_room)
local macro_rules | `(tactic| walk_at "call ref") => `(tactic| (k_here; (with_reducible show wpAny _ _ (call (Value.ref 44) _) _ _ _); k_dflt (refine' call_exc PySem.F.excBase_Exception ?k1 ?k2 ?k3 ?k4 under44 ?k5 ?k6 ?_; (case k1 => k_asm); (case k2 => k_asm); (case k3 => k_asm); (case k4 => k_is); (case k5 => k_is); (case k6 => k_is); k_whole; intro e' tp' h' F' N' l1 l2; (try k_lt l1); (try k_lt2 l2); (try k_sweep))))
local macro_rules | `(tactic| walk_at "getMethod type:Exception") => `(tactic| (k_here; refine' method_type ?F ?X ?m (by decide +kernel) ?e ?h ?_; (case F => k_asm); (case X => k_asm); (case m => exact meta_Exception); (case e => k_dflt k_is); (case h => k_handed)))
local macro_rules | `(tactic| walk_at "call builtin:Exception.__init__") => `(tactic| (k_here; k_dflt (refine' init_exc PySem.F.excBase_Exception under44 ?k1 ?k2 ?k3 ?k4 ?k5 ?_; (case k1 => k_asm); (case k2 => k_asm); (case k3 => k_asm); (case k4 => k_all); (case k5 => k_is); k_whole; intro tp' h' F' N'; (try k_sweep))))
local macro_rules | `(tactic| walk_at "setAttr ref") => `(tactic| (k_here; k_dflt (refine' set_exc ?k1 ?k2 ?k3 ?k4 ?k5 ?k6 ?k7 ?k8 ?k9 ?k10 ?_; (case k1 => k_asm); (case k2 => k_asm); (case k3 => k_asm); (case k4 => k_all); (case k5 => k_is); (case k6 => k_is); (case k7 => rfl); (case k8 => k_is); (case k9 => exact passes44); (case k10 => decide); k_whole; intro h' tk' d' F' N'; (try k_sweep))))
local macro_rules | `(tactic| walk_at "exec Raise some none") => `(tactic| (k_here; k_dflt (refine' raise_exc (C := 44) ?k0 ?k1 ?k2 ?k3 ?_; (case k0 => k_asm); (case k1 => k_is); (case k2 => decide); (case k3 => rfl))))
local macro_rules | `(tactic| walk_at "RaisesC") => `(tactic| (k_here; k_dflt (refine' raisesC ?k1 ?k2 ?k3 ?k4 ?_; (case k1 => k_asm); (case k2 => k_asm); (case k3 => k_asm); (case k4 => k_mem))))
local macro_rules | `(tactic| walk_at "leaving ref") => `(tactic| (k_here; k_dflt (refine' leave_exc ?k1 ?k2 ?k3 ?k4 ?_; (case k2 => assumption); (case k1 => assumption); (case k3 => k_asm); (case k4 => k_all); k_whole; intro h' S' R' U'; (try dsimp only at S' R' U' ⊢); (try dsimp only [InitBack]))))
local macro_rules | `(tactic| walk_at "compareOp NotIn str ref") => `(tactic| (k_here; (with_reducible show wpAny _ _ (compareOp CmpOp.NotIn (Value.str _ _) (Value.ref 47)) _ _ _); k_dflt (refine' notin_kinds ?k1 ?k2 ?k3 ?k4 ?_; (case k1 => k_asm); (case k2 => k_asm); (case k3 => k_is); (case k4 => exact .cons _ _ (.cons _ _ (.cons _ _ (.cons _ _ (.cons _ _ .nil))))))))
local macro_rules | `(tactic| walk_at "compareOp In int ref") => `(tactic| (k_here; k_dflt (refine' in_range ?k1 ?_; (case k1 => assumption))))
local macro_rules | `(tactic| k_handed) => `(tactic| assumption)
local macro_rules | `(tactic| walk_at "binaryOp Mult int int") => `(tactic| (k_here; with_unfolding_all refine mul_int ?_ (hm := mulOk_take _ _)))
local macro_rules | `(tactic| walk_at "call ref") => `(tactic| (k_here; (with_reducible show wpAny _ _ (call (Value.ref 104) _) _ _ _); k_dflt (refine' take_use ?k1 ?k2 ?k3 ?k4 ?k5 ?k6 ?k7 ?k8 ?k9 ?c1 ?c2 ?c3 ?c4 ?c5 ?_; (case k1 => k_asm); (case k2 => k_asm); (case k3 => k_asm); (case k4 => k_asm); (case k5 => k_asm); (case k6 => k_updF); (case k7 => first | exact rfl | assumption); (case k8 => ktr_room); (case k9 => ktr_units); (case c1 => first | assumption | omega); (case c2 => first | assumption | omega); (case c3 => first | assumption | omega); (case c4 => first | assumption | omega | (simp only [List.size_toArray]; omega)); (case c5 => first | assumption | omega | (simp only [List.size_toArray]; omega)); k_whole; intro r' x' y' t' tx' ty' h' tk' F' N' e1 e2 e3 e4 e5; (try dsimp only at N'); (try k_sweep); (try dsimp only); (try k_fold))))
local macro_rules | `(tactic| walk_at "call ref") => `(tactic| (k_here; (with_reducible show wpAny _ _ (call (Value.ref 111) _) _ _ _); k_dflt (refine' one_use ?k1 ?k2 ?k3 ?k4 ?k5 ?k6 ?k6b ?k6c ?k7 ?k8 ?k9 ?c1 ?c2 ?c3 ?c4 ?c5 ?_; (case k1 => k_asm); (case k2 => k_asm); (case k3 => k_asm); (case k4 => k_asm); (case k5 => k_asm); (case k6 => k_updF); (case k6b => k_mem); (case k6c => first | assumption | k_ne); (case k7 => first | exact rfl | assumption); (case k8 => ktr_room); (case k9 => ktr_units); (case c1 => first | assumption | omega); (case c2 => first | assumption | omega); (case c3 => first | assumption | omega); (case c4 => exact Nat.le_of_ble_eq_true rfl); (case c5 => exact Nat.le_of_ble_eq_true rfl); k_whole; intro v' x' y' tx' ty' h' tk' hv' F' N' e3 e4 e5; (try dsimp only at N'); (first | (have hp' := pick_str hv'; specialize hp' rfl; obtain ⟨xs', ts', ev', hl'⟩ := hp'; subst ev') | (have hp' := pick_int hv'; specialize hp' rfl; obtain ⟨xi', ti', ev'⟩ := hp'; subst ev') | (have hh' := pick_any hv'; specialize hh' rfl)); clear hv'; (try k_sweep); (try dsimp only); (try k_fold))))

open PySem.Challenge
theorem row_spec (w : World) (mean : ExcName → Option Value) (mg mb : Str → Option Value) (l : Addr) (n : Nat) (a b : Int) (ta tb : Tok) (rest : Led) (hr : ∀ p ∈ rest, p.1 ≠ l) (h0 : 0 ≤ a) (hb : 0 ≤ b) (hb' : b < 2147483647) :
  Ends rw_nz0237_01.row.prog w (hd.heap_39 w.params) hd.view_39 (looseW hd.view_39 []) mean mg mb 139 4
    ((l, listOf #[.int a ta, .int b tb] n) :: rest) [.ref l] (RowP l n rest) := by
  unfold Ends
  k_fill
  intro dp un gd cn cs ad ccd cl outer A₀ base h₀ L m s Q E B F X N T hk hdp hu hret
  refine wpAny_call ?_
  k_dflt ktr_enter
  k_steps
  all_goals exact hret _ _ _ _ (by assumption) (cb_drop (by assumption) (List.forall_mem_cons.mpr ⟨.head _, List.forall_mem_cons.mpr ⟨by k_mem, fun p hp => by repeat' (first | exact hp | refine List.Mem.tail _ ?_)⟩⟩)) (rowP (by assumption) (by assumption) (by assumption) (by omega) (by tbn_find) (by assumption) (by assumption) (by assumption))
end Mine
end

section
open PySem PySem.W PyProof.Rows PySem.Calls
set_option maxHeartbeats 8000000
namespace Mine
local macro_rules | `(tactic| k_all) => `(tactic| first | assumption | (tbn_letter; first | (refine allNe_of_lt ?_; first | tbn_find | exact allLt_of (by assumption)) | (refine' allNe_of_le ?h9 ?le9; (case h9 => first | tbn_find | exact allLt_of (by assumption)); (case le9 => omega))) | fail "mine_all")
local macro_rules | `(tactic| k_room) => `(tactic| ktr_room)
local macro_rules | `(tactic| walk_at "call ref") => `(tactic| (k_here; (with_reducible show wpAny _ _ (call (Value.ref 44) _) _ _ _); k_dflt (refine' call_exc PySem.F.excBase_Exception ?k1 ?k2 ?k3 ?k4 under44 ?k5 ?k6 ?_; (case k1 => k_asm); (case k2 => k_asm); (case k3 => k_asm); (case k4 => k_is); (case k5 => k_is); (case k6 => k_is); k_whole; intro e' tp' h' F' N' l1 l2; (try k_lt l1); (try k_lt2 l2); (try k_sweep))))
local macro_rules | `(tactic| walk_at "getMethod type:Exception") => `(tactic| (k_here; refine' method_type ?F ?X ?m (by decide +kernel) ?e ?h ?_; (case F => k_asm); (case X => k_asm); (case m => exact meta_Exception); (case e => k_dflt k_is); (case h => k_handed)))
local macro_rules | `(tactic| walk_at "call builtin:Exception.__init__") => `(tactic| (k_here; k_dflt (refine' init_exc PySem.F.excBase_Exception under44 ?k1 ?k2 ?k3 ?k4 ?k5 ?_; (case k1 => k_asm); (case k2 => k_asm); (case k3 => k_asm); (case k4 => k_all); (case k5 => k_is); k_whole; intro tp' h' F' N'; (try k_sweep))))
local macro_rules | `(tactic| walk_at "setAttr ref") => `(tactic| (k_here; k_dflt (refine' set_exc ?k1 ?k2 ?k3 ?k4 ?k5 ?k6 ?k7 ?k8 ?k9 ?k10 ?_; (case k1 => k_asm); (case k2 => k_asm); (case k3 => k_asm); (case k4 => k_all); (case k5 => k_is); (case k6 => k_is); (case k7 => rfl); (case k8 => k_is); (case k9 => exact passes44); (case k10 => decide); k_whole; intro h' tk' d' F' N'; (try k_sweep))))
local macro_rules | `(tactic| walk_at "exec Raise some none") => `(tactic| (k_here; k_dflt (refine' raise_exc (C := 44) ?k0 ?k1 ?k2 ?k3 ?_; (case k0 => k_asm); (case k1 => k_is); (case k2 => decide); (case k3 => rfl))))
local macro_rules | `(tactic| walk_at "RaisesC") => `(tactic| (k_here; k_dflt (refine' raisesC ?k1 ?k2 ?k3 ?k4 ?_; (case k1 => k_asm); (case k2 => k_asm); (case k3 => k_asm); (case k4 => k_mem))))
local macro_rules | `(tactic| walk_at "leaving ref") => `(tactic| (k_here; k_dflt (refine' leave_exc ?k1 ?k2 ?k3 ?k4 ?_; (case k2 => assumption); (case k1 => assumption); (case k3 => k_asm); (case k4 => k_all); k_whole; intro h' S' R' U'; (try dsimp only at S' R' U' ⊢); (try dsimp only [InitBack]))))
local macro_rules | `(tactic| walk_at "compareOp NotIn str ref") => `(tactic| (k_here; (with_reducible show wpAny _ _ (compareOp CmpOp.NotIn (Value.str _ _) (Value.ref 47)) _ _ _); k_dflt (refine' notin_kinds ?k1 ?k2 ?k3 ?k4 ?_; (case k1 => k_asm); (case k2 => k_asm); (case k3 => k_is); (case k4 => exact .cons _ _ (.cons _ _ (.cons _ _ (.cons _ _ (.cons _ _ .nil))))))))
local macro_rules | `(tactic| walk_at "compareOp In int ref") => `(tactic| (k_here; k_dflt (refine' in_range ?k1 ?_; (case k1 => assumption))))
local macro_rules | `(tactic| k_handed) => `(tactic| assumption)
local macro_rules | `(tactic| walk_at "binaryOp Mult int int") => `(tactic| (k_here; with_unfolding_all refine mul_int ?_ (hm := mulOk_take _ _)))
local macro_rules | `(tactic| walk_at "call ref") => `(tactic| (k_here; (with_reducible show wpAny _ _ (call (Value.ref 104) _) _ _ _); k_dflt (refine' take_use ?k1 ?k2 ?k3 ?k4 ?k5 ?k6 ?k7 ?k8 ?k9 ?c1 ?c2 ?c3 ?c4 ?c5 ?_; (case k1 => k_asm); (case k2 => k_asm); (case k3 => k_asm); (case k4 => k_asm); (case k5 => k_asm); (case k6 => k_updF); (case k7 => first | exact rfl | assumption); (case k8 => ktr_room); (case k9 => ktr_units); (case c1 => first | assumption | omega); (case c2 => first | assumption | omega); (case c3 => first | assumption | omega); (case c4 => first | assumption | omega | (simp only [List.size_toArray]; omega)); (case c5 => first | assumption | omega | (simp only [List.size_toArray]; omega)); k_whole; intro r' x' y' t' tx' ty' h' tk' F' N' e1 e2 e3 e4 e5; (try dsimp only at N'); (try k_sweep); (try dsimp only); (try k_fold))))
local macro_rules | `(tactic| walk_at "call ref") => `(tactic| (k_here; (with_reducible show wpAny _ _ (call (Value.ref 111) _) _ _ _); k_dflt (refine' one_use ?k1 ?k2 ?k3 ?k4 ?k5 ?k6 ?k6b ?k6c ?k7 ?k8 ?k9 ?c1 ?c2 ?c3 ?c4 ?c5 ?_; (case k1 => k_asm); (case k2 => k_asm); (case k3 => k_asm); (case k4 => k_asm); (case k5 => k_asm); (case k6 => k_updF); (case k6b => k_mem); (case k6c => first | assumption | k_ne); (case k7 => first | exact rfl | assumption); (case k8 => ktr_room); (case k9 => ktr_units); (case c1 => first | assumption | omega); (case c2 => first | assumption | omega); (case c3 => first | assumption | omega); (case c4 => exact Nat.le_of_ble_eq_true rfl); (case c5 => exact Nat.le_of_ble_eq_true rfl); k_whole; intro v' x' y' tx' ty' h' tk' hv' F' N' e3 e4 e5; (try dsimp only at N'); (first | (have hp' := pick_str hv'; specialize hp' rfl; obtain ⟨xs', ts', ev', hl'⟩ := hp'; subst ev') | (have hp' := pick_int hv'; specialize hp' rfl; obtain ⟨xi', ti', ev'⟩ := hp'; subst ev') | (have hh' := pick_any hv'; specialize hh' rfl)); clear hv'; (try k_sweep); (try dsimp only); (try k_fold))))

open PySem.Challenge
theorem pool_spec (w : World) (mean : ExcName → Option Value) (mg mb : Str → Option Value) (sc : Addr) (vs : List Value) (ns : List Int) (k : Int) (tk : Tok) (rest : Led) (hk0 : 0 ≤ k) (hk2 : k ≤ 2) (hi : IntsAre vs ns) (hn : ns.length ≤ 63) :
  ∀ (dp un : Nat) (gd : Option (List Code)) (cn : Str) (cs : Scope) (a : Addr) (ccd : Value) (cl : List (Str × Addr)) (outer : List Env) (A₀ : Around) (base h₀ : Heap) (L : Addr) (m : Str → Option Value) (s : Shared) (Q E : Value → Shared → Prop),
    Below A₀ base outer h₀ → Fr h₀ L s.heap m → (hd.heap_39 w.params).In h₀ → News h₀ L s.heap rest → Top hd.view_39 (looseW hd.view_39 []) mean mg mb h₀ → cs.kind = .function → dp + 2 < recursionLimit → un + 8 * 2 < cLine → base.IsList sc vs.toArray →
    (∀ (r : Addr) (c : Nat) (a b : Int) (ta tb : Tok) h' tk', Fr h₀ L h' m → News h₀ L h' ((r, listOf #[.int a ta, .int b tb] c) :: rest) → AllLt r rest → 0 ≤ a → 0 ≤ b → b < 2147483647 → Q (.ref r) { s with heap := h', toks := tk' }) →
    wpAny (model rw_nz0237_01.row.prog w) (ktrTop dp un gd cn cs L a ccd cl outer) (call (.ref 97) [.ref sc, .int k tk]) Q E s := by
  k_fill
  intro dp un gd cn cs ad ccd cl outer A₀ base h₀ L m s Q E B F X N T hk hdp hu hsc hret
  refine wpAny_call ?_
  k_dflt cell_enter
  k_steps
  all_goals exact hret _ _ _ _ _ _ _ _ (by assumption) (by assumption) (allLt_of (by assumption)) (pool_a _ _) (draw_b _) (draw_b' _)
end Mine
end

section
open PySem PySem.W PyProof.Rows PySem.Calls
set_option maxHeartbeats 4000000
namespace Mine
open PySem.Challenge
section
variable {w : World} {mean : ExcName → Option Value} {mg mb : Str → Option Value} {dp un : Nat} {gd : Option (List Code)} {cn : Str} {cs : Scope} {a : Addr} {ccd : Value} {cl : List (Str × Addr)} {outer : List Env} {A₀ : Around} {base h₀ : Heap} {L : Addr} {m : Str → Option Value} {s : Shared} {Q E : Value → Shared → Prop} {news : Led}
theorem told_use {p d : Addr} {x : Str} {q i n : Int} {o : Bool} {y : Str} {v2 v5 : Value} {tx tq ti tn ty : Tok} {k0 k1 k2 k3 k4 k5 k6 k7 : Tok} (B : Below A₀ base outer h₀) (F : Fr h₀ L s.heap m) (X : (hd.heap_39 w.params).In h₀) (N : News h₀ L s.heap news) (T : Top hd.view_39 (looseW hd.view_39 []) mean mg mb h₀)
    (hp : (p, instObj 65 d) ∈ news) (hm : (d, dictOf (setEs w (.str x tx) (.int q tq) v2 (.int i ti) (.bool o) v5 (.int n tn) (.str y ty) k0 k1 k2 k3 k4 k5 k6 k7) 8) ∈ news) (h2 : handedIn v2 = true) (h5 : handedIn v5 = true)
    (hk : cs.kind = .function) (hdp : dp + 2 < recursionLimit) (hu : un + 8 * 2 < cLine)
    (h : ∀ (q' : Addr) (c : Nat) (h' : Heap) (tk' : Nat), Fr h₀ L h' m → News h₀ L h' ((q', listOf #[.str x tx, .int q tq, v2, .int i ti, .bool o, v5, .int n tn, .str y ty] c) :: news) → AllLt q' news → Q (.ref q') { s with heap := h', toks := tk' }) :
    wpAny (model rw_nz0237_01.row.prog w) (ktrTop dp un gd cn cs L a ccd cl outer) (call (.ref 118) [.ref p]) Q E s := by
  refine told_spec w mean mg mb p d x q i n o y v2 v5 tx tq ti tn ty k0 k1 k2 k3 k4 k5 k6 k7 news h2 h5 dp un gd cn cs a ccd cl outer A₀ base h₀ L m s Q E B F X (fun z hz => ?_) T hk hdp hu ?_
  · rcases List.mem_cons.mp hz with rfl | hz
    · exact N _ hp
    · rcases List.mem_cons.mp hz with rfl | hz
      · exact N _ hm
      · exact N _ hz
  · rintro v news' h' tk' F' N' ⟨q', c, rfl, hl, rfl⟩
    exact h q' c h' tk' F' N' hl
theorem istaken_use {r : Addr} {c : Nat} {x : Str} {q i : Int} {tx tq ti : Tok} {v2 v4 v5 v6 v7 : Value} {b : Bool} (B : Below A₀ base outer h₀) (F : Fr h₀ L s.heap m) (X : (hd.heap_39 w.params).In h₀) (N : News h₀ L s.heap news) (T : Top hd.view_39 (looseW hd.view_39 []) mean mg mb h₀)
    (hm : (r, listOf #[.str x tx, .int q tq, v2, .int i ti, v4, v5, v6, v7] c) ∈ news) (hb : taken x q i = b)
    (hk : cs.kind = .function) (hdp : dp + 2 < recursionLimit) (hu : un + 8 * 2 < cLine)
    (h : ∀ (h' : Heap) (tk' : Nat), Fr h₀ L h' m → News h₀ L h' news → Q (.bool b) { s with heap := h', toks := tk' }) :
    wpAny (model rw_nz0237_01.row.prog w) (ktrTop dp un gd cn cs L a ccd cl outer) (call (.ref 132) [.ref r]) Q E s := by
  refine istaken_spec w mean mg mb r c x q i tx tq ti v2 v4 v5 v6 v7 news dp un gd cn cs a ccd cl outer A₀ base h₀ L m s Q E B F X (fun z hz => ?_) T hk hdp hu ?_
  · rcases List.mem_cons.mp hz with rfl | hz
    · exact N _ hm
    · exact N _ hz
  · rintro v news' h' tk' F' N' ⟨rfl, rfl⟩
    rw [hb]
    exact h h' tk' F' N'
end
open PySem.SeqAt in
theorem eq_same {prog : Program} {w : World} {A : Around} {E : Value → Shared → Prop} {s : Shared} {l b : Addr} {items : Array Value} {Q : Value → Shared → Prop} (hl : s.heap.IsList l items) (hb : s.heap.IsList b items) (hu : A.units < cLine)
    (h : Q (.bool true) s) : wpAny (model prog w) A (compareOp .Eq (.ref l) (.ref b)) Q E s := by
  refine eq_listAt (e := fun _ => true) hl hb rfl hu (fun j h1 h2 => EqAt.same _) ?_
  rw [show (List.range items.size).all (fun _ => true) = true from by simp]
  exact h
open PySem.SeqAt in
theorem ne_same {prog : Program} {w : World} {A : Around} {E : Value → Shared → Prop} {s : Shared} {l b : Addr} {items : Array Value} {Q : Value → Shared → Prop} (hl : s.heap.IsList l items) (hb : s.heap.IsList b items) (hu : A.units < cLine)
    (h : Q (.bool false) s) : wpAny (model prog w) A (compareOp .NotEq (.ref l) (.ref b)) Q E s := by
  refine RcNeAt.lists (e := fun _ => true) hl hb rfl hu (fun j h1 h2 => EqAt.same _) prog w E Q ?_
  rw [show (List.range items.size).all (fun _ => true) = true from by simp]
  exact h
end Mine
end

section
open PySem PySem.W PyProof.Rows PySem.Calls
set_option maxHeartbeats 8000000
namespace Mine
local macro_rules | `(tactic| k_all) => `(tactic| first | assumption | (tbn_letter; first | (refine allNe_of_lt ?_; first | tbn_find | exact allLt_of (by assumption)) | (refine' allNe_of_le ?h9 ?le9; (case h9 => first | tbn_find | exact allLt_of (by assumption)); (case le9 => omega))) | fail "mine_all")
local macro_rules | `(tactic| k_room) => `(tactic| ktr_room)
local macro_rules | `(tactic| walk_at "call ref") => `(tactic| (k_here; (with_reducible show wpAny _ _ (call (Value.ref 44) _) _ _ _); k_dflt (refine' call_exc PySem.F.excBase_Exception ?k1 ?k2 ?k3 ?k4 under44 ?k5 ?k6 ?_; (case k1 => k_asm); (case k2 => k_asm); (case k3 => k_asm); (case k4 => k_is); (case k5 => k_is); (case k6 => k_is); k_whole; intro e' tp' h' F' N' l1 l2; (try k_lt l1); (try k_lt2 l2); (try k_sweep))))
local macro_rules | `(tactic| walk_at "getMethod type:Exception") => `(tactic| (k_here; refine' method_type ?F ?X ?m (by decide +kernel) ?e ?h ?_; (case F => k_asm); (case X => k_asm); (case m => exact meta_Exception); (case e => k_dflt k_is); (case h => k_handed)))
local macro_rules | `(tactic| walk_at "call builtin:Exception.__init__") => `(tactic| (k_here; k_dflt (refine' init_exc PySem.F.excBase_Exception under44 ?k1 ?k2 ?k3 ?k4 ?k5 ?_; (case k1 => k_asm); (case k2 => k_asm); (case k3 => k_asm); (case k4 => k_all); (case k5 => k_is); k_whole; intro tp' h' F' N'; (try k_sweep))))
local macro_rules | `(tactic| walk_at "setAttr ref") => `(tactic| (k_here; k_dflt (refine' set_exc ?k1 ?k2 ?k3 ?k4 ?k5 ?k6 ?k7 ?k8 ?k9 ?k10 ?_; (case k1 => k_asm); (case k2 => k_asm); (case k3 => k_asm); (case k4 => k_all); (case k5 => k_is); (case k6 => k_is); (case k7 => rfl); (case k8 => k_is); (case k9 => exact passes44); (case k10 => decide); k_whole; intro h' tk' d' F' N'; (try k_sweep))))
local macro_rules | `(tactic| walk_at "exec Raise some none") => `(tactic| (k_here; k_dflt (refine' raise_exc (C := 44) ?k0 ?k1 ?k2 ?k3 ?_; (case k0 => k_asm); (case k1 => k_is); (case k2 => decide); (case k3 => rfl))))
local macro_rules | `(tactic| walk_at "RaisesC") => `(tactic| (k_here; k_dflt (refine' raisesC ?k1 ?k2 ?k3 ?k4 ?_; (case k1 => k_asm); (case k2 => k_asm); (case k3 => k_asm); (case k4 => k_mem))))
local macro_rules | `(tactic| walk_at "leaving ref") => `(tactic| (k_here; k_dflt (refine' leave_exc ?k1 ?k2 ?k3 ?k4 ?_; (case k2 => assumption); (case k1 => assumption); (case k3 => k_asm); (case k4 => k_all); k_whole; intro h' S' R' U'; (try dsimp only at S' R' U' ⊢); (try dsimp only [InitBack]))))
local macro_rules | `(tactic| walk_at "compareOp NotIn str ref") => `(tactic| (k_here; (with_reducible show wpAny _ _ (compareOp CmpOp.NotIn (Value.str _ _) (Value.ref 47)) _ _ _); k_dflt (refine' notin_kinds ?k1 ?k2 ?k3 ?k4 ?_; (case k1 => k_asm); (case k2 => k_asm); (case k3 => k_is); (case k4 => exact .cons _ _ (.cons _ _ (.cons _ _ (.cons _ _ (.cons _ _ .nil))))))))
local macro_rules | `(tactic| walk_at "compareOp In int ref") => `(tactic| (k_here; k_dflt (refine' in_range ?k1 ?_; (case k1 => assumption))))
local macro_rules | `(tactic| k_handed) => `(tactic| assumption)
local macro_rules | `(tactic| walk_at "binaryOp Mult int int") => `(tactic| (k_here; with_unfolding_all refine mul_int ?_ (hm := mulOk_take _ _)))
local macro_rules | `(tactic| walk_at "call ref") => `(tactic| (k_here; (with_reducible show wpAny _ _ (call (Value.ref 118) _) _ _ _); k_dflt (refine' told_use ?k1 ?k2 ?k3 ?k4 ?k5 ?k6 ?k6b ?k6c ?k6d ?k7 ?k8 ?k9 ?_; (case k1 => k_asm); (case k2 => k_asm); (case k3 => k_asm); (case k4 => k_asm); (case k5 => k_asm); (case k6 => k_mem); (case k6b => k_mem); (case k6c => first | assumption | rfl); (case k6d => first | assumption | rfl); (case k7 => first | exact rfl | assumption); (case k8 => ktr_room); (case k9 => ktr_units); k_whole; intro q' c' h' tk' F' N' l1; (try k_lt l1); (try k_sweep); (try dsimp only); (try k_fold))))
local macro_rules | `(tactic| walk_at "call ref") => `(tactic| (k_here; (with_reducible show wpAny _ _ (call (Value.ref 132) _) _ _ _); k_dflt (refine' istaken_use ?k1 ?k2 ?k3 ?k4 ?k5 ?k6 ?k6b ?k7 ?k8 ?k9 ?_; (case k1 => k_asm); (case k2 => k_asm); (case k3 => k_asm); (case k4 => k_asm); (case k5 => k_asm); (case k6 => k_mem); (case k6b => first | assumption | (refine' taken_kind ?z9; assumption) | (refine' taken_yes ?z1 ?z2 ?z3 ?z4 ?z5; all_goals first | assumption | omega)); (case k7 => first | exact rfl | assumption); (case k8 => ktr_room); (case k9 => ktr_units); k_whole; intro h' tk' F' N'; (try k_sweep); (try dsimp only); (try k_fold))))
local macro_rules | `(tactic| walk_at "compareOp Eq ref ref") => `(tactic| (k_here; (with_reducible show wpAny _ _ (compareOp CmpOp.Eq (Value.ref _) (Value.ref _)) _ _ _); k_dflt (refine' eq_same ?k1 ?k2 ?k3 ?_; (case k1 => refine' News.isList ?n1 ?n2; (case n1 => k_asm); (case n2 => k_mem)); (case k2 => refine' News.isList ?n1 ?n2; (case n1 => k_asm); (case n2 => k_mem)); (case k3 => ktr_units); k_whole)))
local macro_rules | `(tactic| walk_at "compareOp NotEq ref ref") => `(tactic| (k_here; (with_reducible show wpAny _ _ (compareOp CmpOp.NotEq (Value.ref _) (Value.ref _)) _ _ _); k_dflt (refine' ne_same ?k1 ?k2 ?k3 ?_; (case k1 => refine' News.isList ?n1 ?n2; (case n1 => k_asm); (case n2 => k_mem)); (case k2 => refine' News.isList ?n1 ?n2; (case n1 => k_asm); (case n2 => k_mem)); (case k3 => ktr_units); k_whole)))

open PySem.Challenge
theorem other_spec (w : World) (mean : ExcName → Option Value) (mg mb : Str → Option Value) (p d r : Addr) (c : Nat) (x y y7 : Str) (q i n : Int) (o : Bool) (v2 v5 : Value) (tx tq ti tn ty ty7 k0 k1 k2 k3 k4 k5 k6 k7 : Tok) (rest : Led) (hy : y.length ≤ 100) (h2 : handedIn v2 = true) (h5 : handedIn v5 = true) (hq1 : 1 ≤ q) (hq2 : q ≤ 100) (hi1 : 0 ≤ i) (hi2 : i ≤ 65535) :
  EndsT rw_nz0237_01.row.prog w (hd.heap_39 w.params) hd.view_39 (looseW hd.view_39 []) mean mg mb 146 8
    ((p, instObj 65 d) :: (d, dictOf (setEs w (.str x tx) (.int q tq) v2 (.int i ti) (.bool o) v5 (.int n tn) (.str y7 ty7) k0 k1 k2 k3 k4 k5 k6 k7) 8) :: (r, listOf #[.str x tx, .int q tq, v2, .int i ti, .bool o, v5, .int n tn, .str y7 ty7] c) :: rest)
    [.ref p, .ref r, .str y ty] (fun news' v => v = .bool true ∧ news' = rest) := by
  unfold EndsT
  k_fill
  intro dp un gd cn cs ad ccd A₀ h₀ L m s Q E B F X N T hk hdp hu hret
  refine wpAny_call ?_
  k_dflt (refine' code_defS0 ?k1 ?k2 ?k3 ?k4 ?k5 ?kA ?k6 ?k7 ?k8 ?k9 ?kB ?_ ?cK ?c2 ?c3 ?c4 ?c5; (case kA => exact rfl); (case k2 => k_asm); (case k1 => k_asm); (case k3 => k_asm); (case k4 => k_asm); (case k5 => k_asm); (case k6 => k_is); (case k7 => k_is); (case k8 => k_room); (case k9 => first | exact binds_K (by k_in) rfl (by k_is) rfl rfl rfl | exact BindsTo.of_eq rfl | fail "kts_go: no rule for these arguments"); (case kB => exact locs rfl); (case cK => first | assumption | exact rfl); (case c2 => exact rfl); (case c3 => exact rfl); (case c4 => exact rfl); (case c5 => decide); k_whole; intro g' L' h' FG' F' N' B' X' T' D'; (try dsimp only); (try k_lift B'); (try k_fold))
  k_steps
  all_goals exact hret _ _ _ _ (by assumption) (cb_drop (by assumption) (fun p hp => by repeat' (first | exact hp | refine List.Mem.tail _ ?_))) ⟨rfl, rfl⟩
end Mine
end

section
open PySem PySem.W PyProof.Rows PySem.Calls
set_option maxHeartbeats 4000000
namespace Mine
open PySem.Challenge
theorem turn_end {h₀ : Heap} {L : Addr} {x : Str} {stored : List Str} {m₀ m' : Str → Option Value} {pre : List Int} {own news' : Led} {s₁ : Shared} {h' : Heap} {tk : Nat}
    (F : Fr h₀ L h' m') (N : News h₀ L h' news') (ho : ∀ p ∈ own, p ∈ news') (hr : ∀ z, z ≠ x → (∀ p ∈ ([] : List (Str × Value)), z ≠ p.1) → stored.contains z = false → m' z = m₀ z) :
    InvEndN h₀ L (KstS (fun _ : Unit => []) (fun _ => []) (fun _ => True) x stored m₀ (fun _ _ => True) pre) own [] s₁ { s₁ with heap := h', toks := tk } :=
  kst_end () F N (fun _ h => nomatch h) ho rfl trivial (fun _ h => nomatch h) hr trivial
theorem taken_out {x : Str} {q i : Int} (h : taken x q i = true) : 1 ≤ q ∧ q ≤ 100 ∧ 0 ≤ i ∧ i ≤ 65535 := by
  unfold taken at h
  simp only [Bool.and_eq_true, decide_eq_true_eq] at h
  exact ⟨h.2.1.1, h.2.1.2, h.2.2.1, h.2.2.2⟩
section
variable {w : World} {mean : ExcName → Option Value} {mg mb : Str → Option Value} {dp un : Nat} {gd : Option (List Code)} {cn : Str} {cs : Scope} {a : Addr} {ccd : Value} {cl : List (Str × Addr)} {outer : List Env} {A₀ : Around} {base h₀ : Heap} {L : Addr} {m : Str → Option Value} {s : Shared} {Q E : Value → Shared → Prop} {news : Led}
theorem pool_use {sc : Addr} {vs : List Value} {ns : List Int} {k : Int} {tk : Tok} (B : Below A₀ base outer h₀) (F : Fr h₀ L s.heap m) (X : (hd.heap_39 w.params).In h₀) (N : News h₀ L s.heap news) (T : Top hd.view_39 (looseW hd.view_39 []) mean mg mb h₀)
    (hk0 : 0 ≤ k) (hk2 : k ≤ 2) (hs : base.IsList sc vs.toArray) (hi : IntsAre vs ns) (hn : ns.length ≤ 63) (hk : cs.kind = .function) (hdp : dp + 2 < recursionLimit) (hu : un + 8 * 2 < cLine)
    (h : ∀ (r : Addr) (c : Nat) (x y : Int) (tx ty : Tok) h' tk', Fr h₀ L h' m → News h₀ L h' ((r, listOf #[.int x tx, .int y ty] c) :: news) → AllLt r news → 0 ≤ x → 0 ≤ y → y < 2147483647 → Q (.ref r) { s with heap := h', toks := tk' }) :
    wpAny (model rw_nz0237_01.row.prog w) (ktrTop dp un gd cn cs L a ccd cl outer) (call (.ref 97) [.ref sc, .int k tk]) Q E s :=
  pool_spec w mean mg mb sc vs ns k tk news hk0 hk2 hi hn dp un gd cn cs a ccd cl outer A₀ base h₀ L m s Q E B F X N T hk hdp hu hs h
theorem row_use {l : Addr} {n : Nat} {x y : Int} {tx ty : Tok} {rest : Led} (B : Below A₀ base outer h₀) (F : Fr h₀ L s.heap m) (X : (hd.heap_39 w.params).In h₀) (N : News h₀ L s.heap ((l, listOf #[.int x tx, .int y ty] n) :: rest)) (T : Top hd.view_39 (looseW hd.view_39 []) mean mg mb h₀)
    (hr : ∀ p ∈ rest, p.1 ≠ l) (h0 : 0 ≤ x) (hb : 0 ≤ y) (hb' : y < 2147483647) (hk : cs.kind = .function) (hdp : dp + 4 < recursionLimit) (hu : un + 8 * 4 < cLine)
    (h : ∀ (r : Addr) (c : Nat) (x : Str) (q i k : Int) (o : Bool) (v2 v5 : Value) (tx tq ti tn ty : Tok) (x' y' : Int) (tx' ty' : Tok) h' tk', x.length ≤ 100 → handedIn v2 = true → handedIn v5 = true → l < r → AllLt r rest → 0 ≤ x' → 0 ≤ y' → y' < 2147483647 → Fr h₀ L h' m →
      News h₀ L h' ((r, listOf #[.str x tx, .int q tq, v2, .int i ti, .bool o, v5, .int k tn, .str (Str.ofString "rgb") ty] c) :: (l, listOf #[.int x' tx', .int y' ty'] n) :: rest) → Q (.ref r) { s with heap := h', toks := tk' }) :
    wpAny (model rw_nz0237_01.row.prog w) (ktrTop dp un gd cn cs L a ccd cl outer) (call (.ref 139) [.ref l]) Q E s := by
  refine row_spec w mean mg mb l n x y tx ty rest hr h0 hb hb' dp un gd cn cs a ccd cl outer A₀ base h₀ L m s Q E B F X N T hk hdp hu ?_
  rintro v news' h' tk' F' N' ⟨r, c, x, q, i, k, o, v2, v5, tx, tq, ti, tn, ty, x', y', tx', ty', rfl, e1, e2, e3, e4, e5, e6, e7, e8, rfl⟩
  exact h r c x q i k o v2 v5 tx tq ti tn ty x' y' tx' ty' h' tk' e1 e2 e3 e4 e5 e6 e7 e8 F' N'
theorem made_use {r : Addr} {c : Nat} {x : Str} {q i n : Int} {o : Bool} {v2 v5 v7 : Value} {tx tq ti tn : Tok} (B : Below A₀ h₀ [] h₀) (F : Fr h₀ L s.heap m) (X : (hd.heap_39 w.params).In h₀) (N : News h₀ L s.heap news) (T : Top hd.view_39 (looseW hd.view_39 []) mean mg mb h₀)
    (hm : (r, listOf #[.str x tx, .int q tq, v2, .int i ti, .bool o, v5, .int n tn, v7] c) ∈ news) (hx : x.length ≤ 100) (hk : cs.kind = .function) (hdp : dp + 6 < recursionLimit) (hu : un + 8 * 6 < cLine)
    (hyes : ∀ (p d : Addr) (k0 k1 k2 k3 k4 k5 k6 k7 : Tok) h' tk', taken x q i = true → 1 ≤ q → q ≤ 100 → 0 ≤ i → i ≤ 65535 → AllLt d news → d < p → Fr h₀ L h' m →
      News h₀ L h' ((p, instObj 65 d) :: (d, dictOf (setEs w (.str x tx) (.int q tq) v2 (.int i ti) (.bool o) v5 (.int n tn) v7 k0 k1 k2 k3 k4 k5 k6 k7) 8) :: news) → Q (.ref p) { s with heap := h', toks := tk' })
    (hno : ∀ h' tk', taken x q i = false → Fr h₀ L h' m → News h₀ L h' news → Q .none { s with heap := h', toks := tk' }) :
    wpAny (model rw_nz0237_01.row.prog w) (ktrTop dp un gd cn cs L a ccd [] []) (call (.ref 125) [.ref r]) Q E s := by
  refine made_spec w mean mg mb r c x q i n o v2 v5 v7 tx tq ti tn news hx dp un gd cn cs a ccd A₀ h₀ L m s Q E B F X (fun z hz => ?_) T hk hdp hu ?_
  · rcases List.mem_cons.mp hz with rfl | hz
    · exact N _ hm
    · exact N _ hz
  · rintro v news' h' tk' F' N' (⟨ht, p, d, k0, k1, k2, k3, k4, k5, k6, k7, rfl, hl, hp, rfl⟩ | ⟨ht, rfl, rfl⟩)
    · obtain ⟨t1, t2, t3, t4⟩ := taken_out ht
      refine hyes p d k0 k1 k2 k3 k4 k5 k6 k7 h' tk' ht t1 t2 t3 t4 hl.2 hp F' (fun z hz => N' z ?_)
      rcases List.mem_cons.mp hz with rfl | hz
      · exact .head _
      · rcases List.mem_cons.mp hz with rfl | hz
        · exact .tail _ (.head _)
        · exact .tail _ (.tail _ (.tail _ hz))
    · exact hno h' tk' ht F' fun z hz => N' z (.tail _ hz)
theorem other_use {p d r : Addr} {c : Nat} {x y y7 : Str} {q i n : Int} {o : Bool} {v2 v5 : Value} {tx tq ti tn ty ty7 k0 k1 k2 k3 k4 k5 k6 k7 : Tok} (B : Below A₀ h₀ [] h₀) (F : Fr h₀ L s.heap m) (X : (hd.heap_39 w.params).In h₀) (N : News h₀ L s.heap news) (T : Top hd.view_39 (looseW hd.view_39 []) mean mg mb h₀)
    (hm1 : (p, instObj 65 d) ∈ news) (hm2 : (d, dictOf (setEs w (.str x tx) (.int q tq) v2 (.int i ti) (.bool o) v5 (.int n tn) (.str y7 ty7) k0 k1 k2 k3 k4 k5 k6 k7) 8) ∈ news) (hm3 : (r, listOf #[.str x tx, .int q tq, v2, .int i ti, .bool o, v5, .int n tn, .str y7 ty7] c) ∈ news)
    (hy : y.length ≤ 100) (h2 : handedIn v2 = true) (h5 : handedIn v5 = true) (hq1 : 1 ≤ q) (hq2 : q ≤ 100) (hi1 : 0 ≤ i) (hi2 : i ≤ 65535) (hk : cs.kind = .function) (hdp : dp + 8 < recursionLimit) (hu : un + 8 * 8 < cLine)
    (h : ∀ h' tk', Fr h₀ L h' m → News h₀ L h' news → Q (.bool true) { s with heap := h', toks := tk' }) :
    wpAny (model rw_nz0237_01.row.prog w) (ktrTop dp un gd cn cs L a ccd [] []) (call (.ref 146) [.ref p, .ref r, .str y ty]) Q E s := by
  refine other_spec w mean mg mb p d r c x y y7 q i n o v2 v5 tx tq ti tn ty ty7 k0 k1 k2 k3 k4 k5 k6 k7 news hy h2 h5 hq1 hq2 hi1 hi2 dp un gd cn cs a ccd A₀ h₀ L m s Q E B F X (fun z hz => ?_) T hk hdp hu ?_
  · rcases List.mem_cons.mp hz with rfl | hz
    · exact N _ hm1
    · rcases List.mem_cons.mp hz with rfl | hz
      · exact N _ hm2
      · rcases List.mem_cons.mp hz with rfl | hz
        · exact N _ hm3
        · exact N _ hz
  · rintro v news' h' tk' F' N' ⟨rfl, rfl⟩
    exact h h' tk' F' N'
end
end Mine
end

section
open PySem PySem.W PyProof.Rows PySem.Calls
set_option maxHeartbeats 4000000
namespace Mine
/-- A kept word of the list that is being made, and a word left out. -/
def FiEl (news : Led) (b : Bool) (v y : Value) (news' : Led) : Prop := news' = news ∧ y = v ∧ b = true
def FiNo (news : Led) (b : Bool) (news' : Led) : Prop := news' = news ∧ b = false
theorem fi_el {news news' : Led} {b : Bool} {v y : Value} (h1 : news' = news) (h2 : y = v) (h3 : b = true) : FiEl news b v y news' := ⟨h1, h2, h3⟩
theorem fi_no {news news' : Led} {b : Bool} (h1 : news' = news) (h3 : b = false) : FiNo news b news' := ⟨h1, h3⟩
section
variable {prog : Program} {w : World} {A : Around} {h₀ : Heap} {L : Addr} {m : Str → Option Value} {env : Env} {s : Shared} {S : Led → Prop}
/-- One turn over a word. -/
def FiTurn (prog : Program) (w : World) (A : Around) (h₀ : Heap) (L : Addr) (m : Str → Option Value) (env : Env) (ct elt : Expr) (x : Str) (scope : Scope) (cl : List (Str × Addr)) (s : Shared) (S : Led → Prop) (news : Led) (p : Str → Bool) : Prop :=
  ∀ y t I oI C oC D m₂ ys h tk (E' : Value → Shared → Prop), LCg.NsObj oC m₂ → m₂ x = some (.str y t) → Fr h₀ L h m → News h₀ L h ((I, oI) :: (C, oC) :: (D, LCg.lst ys) :: news) → LCg.Off3 I C D news → ((@Ne Nat I C) ∧ (@Ne Nat I D) ∧ (@Ne Nat C D)) →
      wpAny (model prog w) A (isTrue ct (compEnvC scope cl C env) (eval ct (compEnvC scope cl C env))) (fun b s' => if b = true then wpAny (model prog w) A (eval elt (compEnvC scope cl C env)) (LCg.CompEnd h₀ L m { s with heap := h, toks := tk } I oI C oC D (LCg.lst ys) S (fun z news' => FiEl news (p y) (.str y t) z news')) E' s'
        else LCg.CompEnd h₀ L m { s with heap := h, toks := tk } I oI C oC D (LCg.lst ys) S (fun _ news' => FiNo news (p y) news') Value.none s') E' { s with heap := h, toks := tk }
theorem snoc_strs : ∀ {vs : List Value} {xs : List Str} {x : Str} {t : Tok}, StrsAre vs xs → StrsAre (vs ++ [.str x t]) (xs ++ [x])
  | _, _, _, _, .nil => .cons _ _ .nil
  | _, _, _, _, .cons y t h => .cons y t (snoc_strs h)
theorem at_strs : ∀ {vs : List Value} {xs : List Str}, StrsAre vs xs → ∀ {i : Nat} {v : Value}, vs[i]? = some v → ∃ x t, xs[i]? = some x ∧ v = .str x t
  | _, _, .cons y t _, 0, v, e => by simp at e; exact ⟨y, t, by simp, e.symm⟩
  | _, _, .cons _ _ h, i + 1, v, e => by
    obtain ⟨x, t, h1, h2⟩ := at_strs h (i := i) (v := v) (by simpa using e)
    exact ⟨x, t, by simpa using h1, h2⟩
theorem fi_rest {ct elt : Expr} {x : Str} {scope : Scope} {cl : List (Str × Addr)} {Fin : List Value → Led → Prop} {news : Led} {vs : List Value} {xs : List Str} (p : Str → Bool) (hi : StrsAre vs xs)
    (turn : FiTurn prog w A h₀ L m env ct elt x scope cl s S news p) (fin : ∀ ys, StrsAre ys (xs.filter p) → Fin ys news) :
    LCt.CompRestT prog w A h₀ L m env ct elt x scope cl s S (fun i v => vs.toArray[i]? = some v) Fin vs.toArray.size 0 [] news := by
  have hlen : vs.toArray.size = xs.length := by rw [List.size_toArray, hi.len_eq]
  have key : ∀ (j i : Nat) (ys : List Value), i + j = vs.toArray.size → StrsAre ys ((xs.take i).filter p) → LCt.CompRestT prog w A h₀ L m env ct elt x scope cl s S (fun i v => vs.toArray[i]? = some v) Fin j i ys news := by
    intro j
    induction j with
    | zero =>
      intro i ys hij hy
      have e : i = xs.length := by omega
      subst e
      rw [List.take_length] at hy
      exact LCt.CompRestT.zero (fin ys hy)
    | succ j ih =>
      intro i ys hij hy
      refine LCt.CompRestT.succ ?_
      intro v I oI C oC D m₂ h tk E' hv hC hx F N off ne
      obtain ⟨k, t, hk, rfl⟩ := at_strs hi (i := i) (v := v) (by simpa using hv)
      have hs : (xs.take (i + 1)).filter p = (xs.take i).filter p ++ (if p k = true then [k] else []) := by
        rw [List.take_add_one, hk, List.filter_append]
        simp [List.filter_cons]
      refine wpAny_mono (turn k t I oI C oC D m₂ ys h tk E' hC hx F N off ne) (fun b s₂ hq => ?_) fun _ _ e => e
      cases b with
      | true =>
        simp only [if_true] at hq ⊢
        refine wpAny_mono hq (fun y s₃ hr => ?_) fun _ _ e => e
        obtain ⟨h', tk', nw, e, F', N', off', hS, hn, hy', hp⟩ := hr
        rw [hn] at N' off' hS
        refine ⟨h', tk', news, e, F', N', off', hS, ?_⟩
        rw [hy']
        refine ih (i + 1) _ (by omega) ?_
        rw [hs, hp]
        exact snoc_strs hy
      | false =>
        simp only [Bool.false_eq_true, if_false] at hq ⊢
        obtain ⟨h', tk', nw, e, F', N', off', hS, hn, hp⟩ := hq
        rw [hn] at N' off' hS
        refine ⟨h', tk', news, e, F', N', off', hS, ih (i + 1) _ (by omega) ?_⟩
        rw [hs, hp]
        simpa using hy
  exact key vs.toArray.size 0 [] (by omega) (by simp only [List.take_zero, List.filter_nil]; exact .nil)
def words6 : List Str := [Str.ofString "baseline", Str.ofString "extended", Str.ofString "progressive", Str.ofString "arith", Str.ofString "arith progressive", Str.ofString "lossless"]
/-- The source of «the words of a written list that a test keeps», where the kept ones are two. -/
theorem fi_src {ct elt : Expr} {x : Str} {scope : Scope} {cl : List (Str × Addr)} {Fin : Shared → List Value → Led → Prop} {ax : Addr} {vs : List Value} {xs : List Str} {k : Nat} {news : Led} {a b : Str} (p : Str → Bool)
    (hp : xs.filter p = [a, b]) (hh : A.handled = none) (F : Fr h₀ L s.heap m) (N : News h₀ L s.heap news) (hm : (ax, ({ cls := .type "list", data := .seq vs.toArray k } : Obj)) ∈ news) (hi : StrsAre vs xs) (hn : xs.length ≤ 100)
    (turn : ∀ g, FiTurn prog w A h₀ L m env ct elt x scope cl { s with heap := g } (LCg.SrcAt h₀ ax vs.toArray) news p)
    (fin : ∀ g t u, Fin { s with heap := g } [.str a t, .str b u] news) :
    LCt.CompSrcT prog w A h₀ L m env ct elt x scope cl Fin (.ref ax) s := by
  refine LCt.CompSrcT.ledger hh F N hm ?_ fun g => fi_rest p hi (turn g) fun ys hy => ?_
  · rw [List.size_toArray, hi.len_eq]
    exact Nat.le_trans hn (Nat.le_of_ble_eq_true rfl)
  · rw [hp] at hy
    match ys, hy with
    | _, .cons _ t (.cons _ u .nil) => exact fin g t u
def pArith (x : Str) : Bool := ([Str.ofString "arith", Str.ofString "arith progressive"] : List Str).any (· == x)
def pProg (x : Str) : Bool := ([Str.ofString "progressive", Str.ofString "arith progressive"] : List Str).any (· == x)
theorem six_strs {t0 t1 t2 t3 t4 t5 : Tok} : StrsAre [.str (Str.ofString "baseline") t0, .str (Str.ofString "extended") t1, .str (Str.ofString "progressive") t2, .str (Str.ofString "arith") t3, .str (Str.ofString "arith progressive") t4, .str (Str.ofString "lossless") t5] words6 :=
  .cons _ _ (.cons _ _ (.cons _ _ (.cons _ _ (.cons _ _ (.cons _ _ .nil)))))
theorem fi_arith {elt : Expr} {x : Str} {p1 p2 : Pos} {as : List Expr} {ks : List Keyword} {scope : Scope} {cl : List (Str × Addr)} {Fin : Shared → List Value → Led → Prop} {ax : Addr} {k : Nat} {news : Led} {t0 t1 t2 t3 t4 t5 : Tok}
    (hh : A.handled = none) (F : Fr h₀ L s.heap m) (N : News h₀ L s.heap news) (hm : (ax, ({ cls := .type "list", data := .seq #[.str (Str.ofString "baseline") t0, .str (Str.ofString "extended") t1, .str (Str.ofString "progressive") t2, .str (Str.ofString "arith") t3, .str (Str.ofString "arith progressive") t4, .str (Str.ofString "lossless") t5] k } : Obj)) ∈ news)
    (turn : ∀ g, FiTurn prog w A h₀ L m env (.Call (.Name (Str.ofString "is_arith") p1) as ks p2) elt x scope cl { s with heap := g } (LCg.SrcAt h₀ ax #[.str (Str.ofString "baseline") t0, .str (Str.ofString "extended") t1, .str (Str.ofString "progressive") t2, .str (Str.ofString "arith") t3, .str (Str.ofString "arith progressive") t4, .str (Str.ofString "lossless") t5]) news pArith)
    (fin : ∀ g t u, Fin { s with heap := g } [.str (Str.ofString "arith") t, .str (Str.ofString "arith progressive") u] news) :
    LCt.CompSrcT prog w A h₀ L m env (.Call (.Name (Str.ofString "is_arith") p1) as ks p2) elt x scope cl Fin (.ref ax) s :=
  fi_src pArith (by decide) hh F N hm six_strs (by decide) turn fin
theorem fi_prog {elt : Expr} {x : Str} {p1 p2 : Pos} {as : List Expr} {ks : List Keyword} {scope : Scope} {cl : List (Str × Addr)} {Fin : Shared → List Value → Led → Prop} {ax : Addr} {k : Nat} {news : Led} {t0 t1 t2 t3 t4 t5 : Tok}
    (hh : A.handled = none) (F : Fr h₀ L s.heap m) (N : News h₀ L s.heap news) (hm : (ax, ({ cls := .type "list", data := .seq #[.str (Str.ofString "baseline") t0, .str (Str.ofString "extended") t1, .str (Str.ofString "progressive") t2, .str (Str.ofString "arith") t3, .str (Str.ofString "arith progressive") t4, .str (Str.ofString "lossless") t5] k } : Obj)) ∈ news)
    (turn : ∀ g, FiTurn prog w A h₀ L m env (.Call (.Name (Str.ofString "is_progressive") p1) as ks p2) elt x scope cl { s with heap := g } (LCg.SrcAt h₀ ax #[.str (Str.ofString "baseline") t0, .str (Str.ofString "extended") t1, .str (Str.ofString "progressive") t2, .str (Str.ofString "arith") t3, .str (Str.ofString "arith progressive") t4, .str (Str.ofString "lossless") t5]) news pProg)
    (fin : ∀ g t u, Fin { s with heap := g } [.str (Str.ofString "progressive") t, .str (Str.ofString "arith progressive") u] news) :
    LCt.CompSrcT prog w A h₀ L m env (.Call (.Name (Str.ofString "is_progressive") p1) as ks p2) elt x scope cl Fin (.ref ax) s :=
  fi_src pProg (by decide) hh F N hm six_strs (by decide) turn fin
end
end Mine
end

section
open PySem PySem.W PyProof.Rows PySem.Calls
set_option maxHeartbeats 4000000
namespace Mine
section
variable {prog : Program} {w : World} {A : Around} {E : Value → Shared → Prop} {s : Shared} {env : Env} {h₀ : Heap} {x : Str} {body : List Stmt} {Q : Flow → Shared → Prop}
/-- Between the turns of the loop over words: the ledger stands, and no name but the loop's own is stored. -/
def WordJ (news : Led) (x : Str) (m₀ : Str → Option Value) (m' : Str → Option Value) (nx : Led) : Prop := nx = news ∧ ∀ z, z ≠ x → m' z = m₀ z
theorem word_end {L : Addr} {m₀ m' : Str → Option Value} {news own : Led} {s₁ : Shared} {h' : Heap} {tk : Nat} (F : Fr h₀ L h' m') (N : News h₀ L h' (news ++ own)) (hr : ∀ z, z ≠ x → m' z = m₀ z) :
    InvEndN h₀ L (WordJ news x m₀) own (news.map (·.1)) s₁ { s₁ with heap := h', toks := tk } :=
  ⟨h', tk, m', news ++ own, news, rfl, F, N, fun _ h => List.mem_append.mpr (.inl h), fun _ h => List.mem_append.mpr (.inr h), rfl, rfl, hr⟩
theorem words_loop {l : Addr} {vs : List Value} {nn : Nat} {m₀ : Str → Option Value} {news : Led}
    (hh : A.handled = none) (hl : ∀ p ∈ news, p.1 ≠ l) (F : Fr h₀ env.locals s.heap m₀) (N : News h₀ env.locals s.heap ((l, listOf vs.toArray nn) :: news)) (hvs : ∀ v ∈ vs, ∃ y t, v = .str y t ∧ y.length ≤ 100)
    (turn : ∀ (y : Str) (t : Tok) h tk own, y.length ≤ 100 → OwnOff own (news.map (·.1)) → Fr h₀ env.locals h (fun z => if z = x then some (.str y t) else m₀ z) → News h₀ env.locals h (news ++ own) →
      wpAny (model prog w) A (execs body env) (InvPostN h₀ env.locals (WordJ news x m₀) own (news.map (·.1)) { s with heap := h, toks := tk } Q) E { s with heap := h, toks := tk })
    (done : ∀ u h tk, Fr h₀ env.locals h (fun y => if y = x then u else m₀ y) → News h₀ env.locals h news → Q .next { s with heap := h, toks := tk }) :
    wpAny (model prog w) A (pyIter (.ref l)) (fun it s₂ => LoopAtV prog w A h₀ env x body Q E it s₂) E s := by
  obtain ⟨hol, hL, hl₀⟩ := N (l, listOf vs.toArray nn) (.head _)
  have hls : s.heap.IsList l vs.toArray := ⟨_, hol, rfl, nn, rfl⟩
  have old : ∀ p ∈ news, p.1 ≠ s.heap.objs.size := fun p hp => Nat.ne_of_lt (Heap.lt_size (N p (.tail _ hp)).1)
  have eta : ∀ {m₁ : Str → Option Value} (v : Option Value), (∀ z, z ≠ x → m₁ z = m₀ z) → (fun y => if y = x then v else m₁ y) = fun y => if y = x then v else m₀ y := fun v h => by
    funext y
    by_cases e : y = x <;> simp [e, h]
  refine wpAny_pyIter_list hls (loop_invN (news := news) (fun _ m nx => WordJ news x m₀ m nx) (Walks.list (prog := prog) (w := w) hh s.heap.objs.size l (Nat.ne_of_lt (Heap.lt_size hol)) vs.toArray) ?_ ?_ ?_ ?_
    ⟨⟨_, Heap.get?_push_size _ rfl, rfl, rfl⟩, hls.at fun o e => Heap.get?_push_of_some _ e⟩ (F.push _) (fun p hp => ⟨Heap.get?_push_of_some _ (N p (.tail _ hp)).1, (N p (.tail _ hp)).2⟩) ⟨rfl, fun _ _ => rfl⟩ ?_ ?_)
  · simp only [List.mem_cons, List.not_mem_nil, or_false, not_or]
    exact ⟨Nat.ne_of_lt F.ns.lt, Ne.symm hL⟩
  · simpa using next_is_new F
  · simpa using old
  · intro p hp
    simp only [List.mem_cons, List.not_mem_nil, or_false, not_or]
    exact ⟨old p hp, hl p hp⟩
  · rintro i v m₁ nx h tk own _ hP _ hoff ⟨rfl, hJ⟩ F₁ N₁
    obtain ⟨y, t, rfl, hy⟩ := hvs v (List.mem_of_getElem? (i := i) (by simpa using hP))
    rw [eta _ hJ] at F₁
    exact turn y t h tk own hy hoff F₁ N₁
  · rintro m₁ nx h tk ⟨rfl, hJ⟩ F₁ N₁
    refine done (m₁ x) h tk ?_ N₁
    rw [← eta (m₁ := m₁) _ hJ]
    have e : (fun y => if y = x then m₁ x else m₁ y) = m₁ := by
      funext y
      by_cases e : y = x <;> simp [e]
    rw [e]
    exact F₁
end
theorem four_strs {a b x c : Str} {ta tb tx tc : Tok} (h : (decide (a.length ≤ 100) && decide (b.length ≤ 100) && decide (c.length ≤ 100)) = true) (hx : x.length ≤ 100) :
    ∀ v ∈ [.str a ta, .str b tb, .str x tx, .str c tc], ∃ y t, v = Value.str y t ∧ y.length ≤ 100 := by
  simp only [Bool.and_eq_true, decide_eq_true_eq] at h
  intro v hv
  simp only [List.mem_cons, List.not_mem_nil, or_false] at hv
  rcases hv with rfl | rfl | rfl | rfl
  · exact ⟨_, _, rfl, h.1.1⟩
  · exact ⟨_, _, rfl, h.1.2⟩
  · exact ⟨_, _, rfl, hx⟩
  · exact ⟨_, _, rfl, h.2⟩
end Mine
end

section
open PySem PySem.W PyProof.Rows PySem.Calls
set_option maxHeartbeats 16000000
namespace Mine
local macro_rules | `(tactic| k_all) => `(tactic| first | assumption | (tbn_letter; first | (refine allNe_of_lt ?_; first | tbn_find | exact allLt_of (by assumption)) | (refine' allNe_of_le ?h9 ?le9; (case h9 => first | tbn_find | exact allLt_of (by assumption)); (case le9 => omega))) | fail "mine_all")
local macro_rules | `(tactic| k_room) => `(tactic| ktr_room)
local macro_rules | `(tactic| walk_at "call ref") => `(tactic| (k_here; (with_reducible show wpAny _ _ (call (Value.ref 44) _) _ _ _); k_dflt (refine' call_exc PySem.F.excBase_Exception ?k1 ?k2 ?k3 ?k4 under44 ?k5 ?k6 ?_; (case k1 => k_asm); (case k2 => k_asm); (case k3 => k_asm); (case k4 => k_is); (case k5 => k_is); (case k6 => k_is); k_whole; intro e' tp' h' F' N' l1 l2; (try k_lt l1); (try k_lt2 l2); (try k_sweep))))
local macro_rules | `(tactic| walk_at "getMethod type:Exception") => `(tactic| (k_here; refine' method_type ?F ?X ?m (by decide +kernel) ?e ?h ?_; (case F => k_asm); (case X => k_asm); (case m => exact meta_Exception); (case e => k_dflt k_is); (case h => k_handed)))
local macro_rules | `(tactic| walk_at "call builtin:Exception.__init__") => `(tactic| (k_here; k_dflt (refine' init_exc PySem.F.excBase_Exception under44 ?k1 ?k2 ?k3 ?k4 ?k5 ?_; (case k1 => k_asm); (case k2 => k_asm); (case k3 => k_asm); (case k4 => k_all); (case k5 => k_is); k_whole; intro tp' h' F' N'; (try k_sweep))))
local macro_rules | `(tactic| walk_at "setAttr ref") => `(tactic| (k_here; k_dflt (refine' set_exc ?k1 ?k2 ?k3 ?k4 ?k5 ?k6 ?k7 ?k8 ?k9 ?k10 ?_; (case k1 => k_asm); (case k2 => k_asm); (case k3 => k_asm); (case k4 => k_all); (case k5 => k_is); (case k6 => k_is); (case k7 => rfl); (case k8 => k_is); (case k9 => exact passes44); (case k10 => decide); k_whole; intro h' tk' d' F' N'; (try k_sweep))))
local macro_rules | `(tactic| walk_at "exec Raise some none") => `(tactic| (k_here; k_dflt (refine' raise_exc (C := 44) ?k0 ?k1 ?k2 ?k3 ?_; (case k0 => k_asm); (case k1 => k_is); (case k2 => decide); (case k3 => rfl))))
local macro_rules | `(tactic| walk_at "RaisesC") => `(tactic| (k_here; k_dflt (refine' raisesC ?k1 ?k2 ?k3 ?k4 ?_; (case k1 => k_asm); (case k2 => k_asm); (case k3 => k_asm); (case k4 => k_mem))))
local macro_rules | `(tactic| walk_at "leaving ref") => `(tactic| (k_here; k_dflt (refine' leave_exc ?k1 ?k2 ?k3 ?k4 ?_; (case k2 => assumption); (case k1 => assumption); (case k3 => k_asm); (case k4 => k_all); k_whole; intro h' S' R' U'; (try dsimp only at S' R' U' ⊢); (try dsimp only [InitBack]))))
local macro_rules | `(tactic| walk_at "compareOp NotIn str ref") => `(tactic| (k_here; (with_reducible show wpAny _ _ (compareOp CmpOp.NotIn (Value.str _ _) (Value.ref 47)) _ _ _); k_dflt (refine' notin_kinds ?k1 ?k2 ?k3 ?k4 ?_; (case k1 => k_asm); (case k2 => k_asm); (case k3 => k_is); (case k4 => exact .cons _ _ (.cons _ _ (.cons _ _ (.cons _ _ (.cons _ _ .nil))))))))
local macro_rules | `(tactic| walk_at "compareOp In int ref") => `(tactic| (k_here; k_dflt (refine' in_range ?k1 ?_; (case k1 => assumption))))
local macro_rules | `(tactic| k_handed) => `(tactic| assumption)
local macro_rules | `(tactic| walk_at "binaryOp Mult int int") => `(tactic| (k_here; with_unfolding_all refine mul_int ?_ (hm := mulOk_take _ _)))
local macro_rules | `(tactic| walk_at "call ref") => `(tactic| (k_here; (with_reducible show wpAny _ _ (call (Value.ref 118) _) _ _ _); k_dflt (refine' told_use ?k1 ?k2 ?k3 ?k4 ?k5 ?k6 ?k6b ?k6c ?k6d ?k7 ?k8 ?k9 ?_; (case k1 => k_asm); (case k2 => k_asm); (case k3 => k_asm); (case k4 => k_asm); (case k5 => k_asm); (case k6 => k_mem); (case k6b => k_mem); (case k6c => first | assumption | rfl); (case k6d => first | assumption | rfl); (case k7 => first | exact rfl | assumption); (case k8 => ktr_room); (case k9 => ktr_units); k_whole; intro q' c' h' tk' F' N' l1; (try simp only [AllLt, and_true] at l1); (try k_sweep); (try dsimp only); (try k_fold))))
local macro_rules | `(tactic| walk_at "call ref") => `(tactic| (k_here; (with_reducible show wpAny _ _ (call (Value.ref 132) _) _ _ _); k_dflt (refine' istaken_use ?k1 ?k2 ?k3 ?k4 ?k5 ?k6 ?k6b ?k7 ?k8 ?k9 ?_; (case k1 => k_asm); (case k2 => k_asm); (case k3 => k_asm); (case k4 => k_asm); (case k5 => k_asm); (case k6 => k_mem); (case k6b => first | assumption | (refine' taken_kind ?z9; assumption) | (refine' taken_yes ?z1 ?z2 ?z3 ?z4 ?z5; all_goals first | assumption | omega)); (case k7 => first | exact rfl | assumption); (case k8 => ktr_room); (case k9 => ktr_units); k_whole; intro h' tk' F' N'; (try k_sweep); (try dsimp only); (try k_fold))))
local macro_rules | `(tactic| walk_at "compareOp Eq ref ref") => `(tactic| (k_here; (with_reducible show wpAny _ _ (compareOp CmpOp.Eq (Value.ref _) (Value.ref _)) _ _ _); k_dflt (refine' eq_same ?k1 ?k2 ?k3 ?_; (case k1 => refine' News.isList ?n1 ?n2; (case n1 => k_asm); (case n2 => k_mem)); (case k2 => refine' News.isList ?n1 ?n2; (case n1 => k_asm); (case n2 => k_mem)); (case k3 => ktr_units); k_whole)))
local macro_rules | `(tactic| walk_at "compareOp NotEq ref ref") => `(tactic| (k_here; (with_reducible show wpAny _ _ (compareOp CmpOp.NotEq (Value.ref _) (Value.ref _)) _ _ _); k_dflt (refine' ne_same ?k1 ?k2 ?k3 ?_; (case k1 => refine' News.isList ?n1 ?n2; (case n1 => k_asm); (case n2 => k_mem)); (case k2 => refine' News.isList ?n1 ?n2; (case n1 => k_asm); (case n2 => k_mem)); (case k3 => ktr_units); k_whole)))
local macro_rules | `(tactic| walk_at "call ref") => `(tactic| (k_here; (with_reducible show wpAny _ _ (call (Value.ref 111) _) _ _ _); k_dflt (refine' one_use ?k1 ?k2 ?k3 ?k4 ?k5 ?k6 ?k6b ?k6c ?k7 ?k8 ?k9 ?c1 ?c2 ?c3 ?c4 ?c5 ?_; (case k1 => k_asm); (case k2 => k_asm); (case k3 => k_asm); (case k4 => k_asm); (case k5 => k_asm); (case k6 => k_updF); (case k6b => k_mem); (case k6c => first | assumption | k_ne); (case k7 => first | exact rfl | assumption); (case k8 => ktr_room); (case k9 => ktr_units); (case c1 => first | assumption | omega); (case c2 => first | assumption | omega); (case c3 => first | assumption | omega); (case c4 => exact Nat.le_of_ble_eq_true rfl); (case c5 => exact Nat.le_of_ble_eq_true rfl); k_whole; intro v' x' y' tx' ty' h' tk' hv' F' N' e3 e4 e5; (try dsimp only at N'); (first | (have hp' := pick_str hv'; specialize hp' rfl; obtain ⟨xs', ts', ev', hl'⟩ := hp'; subst ev') | (have hp' := pick_int hv'; specialize hp' rfl; obtain ⟨xi', ti', ev'⟩ := hp'; subst ev') | (have hh' := pick_any hv'; specialize hh' rfl)); clear hv'; (try k_sweep); (try dsimp only); (try k_fold))))
local macro_rules | `(tactic| walk_at "call ref") => `(tactic| (k_here; (with_reducible show wpAny _ _ (call (Value.ref 97) _) _ _ _); k_dflt (refine' pool_use ?k1 ?k2 ?k3 ?k4 ?k5 ?c1 ?c2 ?c3 ?c4 ?c5 ?k7 ?k8 ?k9 ?_; (case k1 => k_asm); (case k2 => k_asm); (case k3 => k_asm); (case k4 => k_asm); (case k5 => k_asm); (case c3 => assumption); (case c4 => assumption); (case c1 => first | assumption | omega); (case c2 => first | assumption | omega); (case c5 => omega); (case k7 => first | exact rfl | assumption); (case k8 => ktr_room); (case k9 => ktr_units); k_whole; intro r' c' x' y' tx' ty' h' tk' F' N' l1 e3 e4 e5; (try simp only [AllLt, and_true] at l1); (try k_sweep); (try dsimp only); (try k_fold))))
local macro_rules | `(tactic| walk_at "call ref") => `(tactic| (k_here; (with_reducible show wpAny _ _ (call (Value.ref 139) _) _ _ _); k_dflt (refine' row_use ?k1 ?k2 ?k3 ?k4 ?k5 ?c0 ?c1 ?c2 ?c3 ?k7 ?k8 ?k9 ?_; (case k1 => k_asm); (case k2 => k_asm); (case k3 => k_asm); (case k4 => k_asm); (case k5 => k_asm); (case c0 => k_all); (case c1 => assumption); (case c2 => assumption); (case c3 => assumption); (case k7 => first | exact rfl | assumption); (case k8 => ktr_room); (case k9 => ktr_units); k_whole; intro r' c' x' q' i' k' o' v2' v5' tx' tq' ti' tn' ty' y1' y2' t1' t2' h' tk' hx' hh2' hh5' l1 l2 e3 e4 e5 F' N'; (try k_lt2 l1); (try k_sweep); (try dsimp only); (try k_fold))))
local macro_rules | `(tactic| walk_at "call ref") => `(tactic| (k_here; (with_reducible show wpAny _ _ (call (Value.ref 125) _) _ _ _); k_dflt (refine' made_use ?k1 ?k2 ?k3 ?k4 ?k5 ?c0 ?c1 ?k7 ?k8 ?k9 ?hy ?hn; (case k1 => k_asm); (case k2 => k_asm); (case k3 => k_asm); (case k4 => k_asm); (case k5 => k_asm); (case c0 => k_mem); (case c1 => assumption); (case k7 => first | exact rfl | assumption); (case k8 => ktr_room); (case k9 => ktr_units); (case' hy => (k_whole; intro p' d' k0' k1' k2' k3' k4' k5' k6' k7' h' tk' ht' hq1' hq2' hi1' hi2' l1 l2 F' N'; (try simp only [AllLt, and_true] at l1); (try k_lt2 l2); (try k_sweep); (try dsimp only); (try k_fold))); (case' hn => (k_whole; intro h' tk' ht' F' N'; (try k_sweep); (try dsimp only); (try k_fold))))))
local macro_rules | `(tactic| walk_at "call ref") => `(tactic| (k_here; (with_reducible show wpAny _ _ (call (Value.ref 146) _) _ _ _); k_dflt (refine' other_use ?k1 ?k2 ?k3 ?k4 ?k5 ?c0 ?c1 ?c2 ?c3 ?c4 ?c5 ?c6 ?c7 ?c8 ?c9 ?k7 ?k8 ?k9 ?_; (case k1 => k_asm); (case k2 => k_asm); (case k3 => k_asm); (case k4 => k_asm); (case k5 => k_asm); (case c0 => k_mem); (case c1 => k_mem); (case c2 => k_mem); (case c3 => first | assumption | exact Nat.le_of_ble_eq_true rfl); (case c4 => first | assumption | rfl); (case c5 => first | assumption | rfl); (case c6 => assumption); (case c7 => assumption); (case c8 => assumption); (case c9 => assumption); (case k7 => first | exact rfl | assumption); (case k8 => ktr_room); (case k9 => ktr_units); k_whole; intro h' tk' F' N'; (try k_sweep); (try dsimp only); (try k_fold))))
local macro_rules | `(tactic| walk_at "exec For Name Call cons nil") => `(tactic| (k_here; (rename Fr _ _ _ _ => lF'); (with_unfolding_all refine' For_invVF lF' ?k1 ?k2 ?_; (case k1 => exact rfl); (case k2 => exact rfl); k_whole)))
local macro_rules | `(tactic| walk_at "pyIter ref") => `(tactic| (k_here; (with_reducible show wpAny _ _ (pyIter (Value.ref _)) (fun it s₂ => LoopAtV _ _ _ _ _ _ _ _ _ it s₂) _ _); (rename Fr _ _ _ _ => lF'); (rename News _ _ _ _ => lN'); (rename IsRange _ _ _ _ _ _ _ _ => rgX); (with_unfolding_all refine' kst_range (n := 3) (fun (_ : Unit) => []) (fun _ => []) (fun _ => True) [Str.ofString "source", Str.ofString "row", Str.ofString "settings", Str.ofString "word"] (fun _ _ => True) () rfl rgX rfl rfl lF' lN' trivial (fun _ hp => nomatch hp) trivial ?tt ?dd); (clear lF' lN' rgX); (case' tt => (intro kC kPre kN kT kU kH kTk kOwn kEq kLt kOff kFacts kInv F' N'; (simp only [List.nil_append] at N'); (have kLo : 0 ≤ kN := by omega); (have kHi : kN ≤ 2 := by omega); (try dsimp only); (try k_fold))); (case' dd => (intro kC kU kH kTk kFacts kInv F' N'; (try dsimp only); (try k_fold)))))
local macro_rules | `(tactic| walk_at "CompSrcT") => `(tactic| (k_here; k_dflt (refine' fi_arith ?k1 ?k2 ?k3 ?k4 ?aturn ?af; (case k1 => rfl); (case k2 => k_asm); (case k3 => k_asm); (case k4 => k_mem); (case' aturn => (intro g'; unfold FiTurn; intro y' t' I' oI' C' oC' D' m' ys' h' tk' E' hC' hx' F' N' off' ne'; (try simp only [LCg.Off3, and_true] at off'))); (case' af => (intro g' t' u')))))
local macro_rules | `(tactic| walk_at "CompSrcT") => `(tactic| (k_here; k_dflt (refine' fi_prog ?k1 ?k2 ?k3 ?k4 ?pt ?pf; (case k1 => rfl); (case k2 => k_asm); (case k3 => k_asm); (case k4 => k_mem); (case' pt => (intro g'; unfold FiTurn; intro y' t' I' oI' C' oC' D' m' ys' h' tk' E' hC' hx' F' N' off' ne'; (try simp only [LCg.Off3, and_true] at off'))); (case' pf => (intro g' t' u')))))
local macro_rules | `(tactic| walk_at "call ref") => `(tactic| (k_here; (with_reducible show wpAny _ _ (call (Value.ref 76) _) _ _ _); k_dflt (refine' arith_use _ ?k1 ?k2 ?k3 ?k4 ?k5 ?k6 ?k7 ?k8 ?k9 ?_; (case k1 => k_asm); (case k2 => k_asm); (case k3 => k_asm); (case k4 => k_asm); (case k5 => k_asm); (case k6 => exact rfl); (case k7 => first | exact rfl | assumption); (case k8 => ktr_room); (case k9 => ktr_units); k_whole; intro h' tk' F' N'; (try k_sweep); (try dsimp only); (try k_fold))))
local macro_rules | `(tactic| walk_at "call ref") => `(tactic| (k_here; (with_reducible show wpAny _ _ (call (Value.ref 83) _) _ _ _); k_dflt (refine' prog_use _ ?k1 ?k2 ?k3 ?k4 ?k5 ?k6 ?k7 ?k8 ?k9 ?_; (case k1 => k_asm); (case k2 => k_asm); (case k3 => k_asm); (case k4 => k_asm); (case k5 => k_asm); (case k6 => exact rfl); (case k7 => first | exact rfl | assumption); (case k8 => ktr_room); (case k9 => ktr_units); k_whole; intro h' tk' F' N'; (try k_sweep); (try dsimp only); (try k_fold))))
local macro_rules | `(tactic| walk_at "FiEl") => `(tactic| (refine' fi_el ?ka ?kb ?kc; (case ka => with_unfolding_all rfl); (case kb => with_unfolding_all rfl); (case kc => assumption)))
local macro_rules | `(tactic| walk_at "FiNo") => `(tactic| (refine' fi_no ?ka ?kc; (case ka => with_unfolding_all rfl); (case kc => first | assumption | (refine eq_false_of_ne_true ?_; assumption))))
local macro_rules | `(tactic| walk_at "InvEndN") => `(tactic| (with_unfolding_all refine' turn_end ?k1 ?k2 ?k3 ?k4; (case k1 => assumption); (case k2 => assumption); (case k3 => (intro p hp; repeat' (first | exact hp | refine' List.Mem.tail _ ?_))); (case k4 => (intro z h1 h2 h3; (have h4 := h3); (simp only [List.contains_cons, List.contains_nil, Bool.or_false, Bool.or_eq_false_iff, beq_eq_false_iff_ne, ne_eq] at h4); simp [kstB, h1, h3, h4]))))
local macro_rules | `(tactic| walk_at "InvEndN") => `(tactic| (with_unfolding_all refine' word_end ?k1 ?k2 ?k4; (case k1 => assumption); (case k2 => assumption); (case k4 => (intro z h1; simp [h1]))))
local macro_rules | `(tactic| walk_at "pyIter ref") => `(tactic| (k_here; (with_reducible show wpAny _ _ (pyIter (Value.ref _)) (fun it s₂ => LoopAtV _ _ _ _ _ _ _ _ _ it s₂) _ _); (rename Fr _ _ _ _ => lF'); (rename News _ _ _ _ => lN'); (with_unfolding_all refine' words_loop ?k1 ?k2 lF' lN' ?k3 ?wt ?wd); (case k1 => exact rfl); (case k2 => k_all); (case k3 => (refine' four_strs ?q1 ?q2; (case q1 => exact rfl); (case q2 => assumption))); (case' wt => (intro y' t' h' tk' own' hy' off' F' N'; (simp only [List.cons_append] at N'); (try dsimp only); (try k_fold))); (case' wd => (intro u' h' tk' F' N'; (try dsimp only); (try k_fold)))))

open PySem.Challenge
theorem law_holds : PySem.Challenge.rw_nz0237_01.Holds := hd (by
  w_strict (k_go0; (all_goals try k_fold)
            k_steps))
end Mine
end

theorem PySem.Challenge.cw_nz0237_01_holds : PySem.Challenge.rw_nz0237_01.Holds := by
  exact Mine.law_holds
