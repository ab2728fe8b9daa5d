import PyProof.Rows.All
import Wide.All
import OpenK.AllK
import Wide.FinOn
import PySem.Challenge.RW_xm0797_01
set_option Elab.async false

section
open PySem PySem.W PyProof.Rows
namespace Mine
set_option maxRecDepth 100000 in
set_option maxHeartbeats 8000000 in
open_top hd for PySem.Challenge.rw_xm0797_01
end Mine
end

section
open PySem PySem.W PyProof.Rows PySem.Calls
set_option maxRecDepth 100000
namespace Mine

abbrev wellObj (a : Int) (ta : Tok) (b : Int) (tb : Tok) (c : Nat) : Obj := listOf [Value.int a ta, Value.int b tb].toArray c

def KeepBut (aw : Addr) (h h' : Heap) : Prop := ∀ b o, b ≠ aw → h.get? b = some o → h'.get? b = some o

theorem fr_keepBut {h₀ h h' : Heap} {L aw : Addr} {m : Str → Option Value} (F : Fr h₀ L h m) (k : KeepBut aw h h') (hL : aw ≠ L) (hn : h₀.get? aw = none) : Fr h₀ L h' m :=
  ⟨F.ns.at' fun o e => k L o (Ne.symm hL) e, fun b o e => k b o (fun q => by rw [q, hn] at e; cases e) (F.keep b o e), F.above⟩
theorem news_keepBut {h₀ h h' : Heap} {L aw : Addr} {o o' : Obj} {news : List (Addr × Obj)} {g : Obj → List (Addr × Obj)} (N : News h₀ L h news) (U : UpdF aw o news g) (k : KeepBut aw h h') (ho : h'.get? aw = some o') : News h₀ L h' (g o') := by
  obtain ⟨pre, post, rfl, hg, h1, h2⟩ := U.split
  rw [hg]
  intro p hp
  have D := N (aw, o) (by simp)
  rcases List.mem_append.mp hp with q | q
  · have P := N p (List.mem_append_left _ q); exact ⟨k _ _ (h1 p q) P.1, P.2⟩
  · rcases List.mem_cons.mp q with rfl | q
    · exact ⟨ho, D.2⟩
    · have P := N p (List.mem_append_right _ (.tail _ q)); exact ⟨k _ _ (h2 p q) P.1, P.2⟩

theorem leave_pail {h₀ g H : Heap} {L L' aw : Addr} {m m' : Str → Option Value} {o o₀ : Obj} {R : Result → Shared → Prop} {v : Value} {s' : Shared} (F' : Fr g L' s'.heap m') (N' : News g L' s'.heap [(aw, o)])
    (G : GSub H g (List.map (·.1) [(aw, o₀)])) (k : KeepBut aw H s'.heap → s'.heap.get? aw = some o → R (.ok (.ret v)) s') : LeaveK h₀ L m g R v s' :=
  leaveK_ F' N' fun _ _ => k (fun b o hb e => F'.keep b o (G b o e (by simpa using hb))) (N' _ (.head _)).1


section
local macro_rules | `(tactic| walk_at "LeaveK") => `(tactic| (refine leave_pail (by assumption) (by assumption) (by assumption) ?_; intro kE kO; (try dsimp only)))
set_option maxHeartbeats 8000000 in
theorem pail {w : World} {dp un : Nat} {gd : Option (List Code)} {cn : Str} {cs : Scope} {a : Addr} {ccd : Value} {cl : List (Str × Addr)} {outer : List Env} {A₀ : Around} {base h₀ : Heap} {L : Addr} {m : Str → Option Value} {s : Shared}
    {mean : ExcName → Option Value} {mg mb : Str → Option Value} {aw : Addr} {wa wb n : Int} {ta tb tn : Tok} {c : Nat} {Q E : Value → Shared → Prop}
    (B : Below A₀ base outer h₀) (F : Fr h₀ L s.heap m) (X : (hd.heap_39 w.params).In h₀) (N : News h₀ L s.heap [(aw, wellObj wa ta wb tb c)])
    (T : Top hd.view_39 (looseW hd.view_39 []) mean mg mb h₀) (hk : cs.kind = .function) (hdp : dp + 5 < recursionLimit) (hun : un + 50 < cLine)
    (hwa : 0 ≤ wa) (hwb : 0 ≤ wb) (hwb2 : wb < 100000) (hn : 0 < n) (hn2 : n ≤ 65536)
    (ret : ∀ told tt wa' ta' wb' tb' h' tk', 0 ≤ told → told < n → 0 ≤ wa' → 0 ≤ wb' → wb' < 100000 → KeepBut aw s.heap h' → h'.get? aw = some (wellObj wa' ta' wb' tb' c) → Q (.int told tt) { s with heap := h', toks := tk' }) :
    wpAny (model PySem.Challenge.rw_xm0797_01.row.prog w) (ktrTop dp un gd cn cs L a ccd cl outer) (call (.ref 77) [.ref aw, .int n tn]) Q E s := by
  have hI : IntsAre [Value.int wa ta, Value.int wb tb] [wa, wb] := .cons _ _ (.cons _ _ .nil)
  revert X; k_fill; intro X
  refine wpAny_call ?_
  k_dflt (refine' code_defG ?k1 ?k2 ?k3 ?k4 ?k5 ?kA ?kF ?kK ?k6 ?k7 ?k8 ?k9 ?kB ?_ ?c2 ?c3 ?c4 ?c5; (case kA => exact rfl); (case kF => exact rfl); (case kK => assumption); (case k1 => k_asm); (case k2 => k_asm); (case k3 => k_asm); (case k4 => k_asm); (case k5 => k_asm); (case k6 => k_is); (case k7 => k_is); (case k8 => ktr_room); (case k9 => exact BindsTo.of_eq rfl); (case c5 => decide); (case kB => exact locs rfl); (case c2 => exact rfl); (case c3 => exact rfl); (case c4 => exact rfl); k_whole; intro g' L' h' FG' F' N' B' X' T' kG'; (try dsimp only); (try k_fold))
  k_steps
  · refine ret _ _ _ _ _ _ _ _ ?_ ?_ ?_ ?_ ?_ (by assumption) (by assumption)
    · exact Int.fmod_nonneg_of_pos _ hn
    · exact Int.fmod_lt_of_pos _ hn
    · exact Int.fdiv_nonneg hwa (Int.le_of_lt hn)
    · exact hwb
    · exact hwb2
  · have e1 := Int.fmod_nonneg_of_pos (wb * 173 + 4957) (b := 65239) (by decide)
    have e2 := Int.fmod_lt_of_pos (wb * 173 + 4957) (b := 65239) (by decide)
    refine ret _ _ _ _ _ _ _ _ ?_ ?_ ?_ ?_ ?_ (by assumption) (by assumption)
    · exact Int.fmod_nonneg_of_pos _ hn
    · exact Int.fmod_lt_of_pos _ hn
    · exact hwa
    · exact e1
    · exact Int.lt_trans e2 (by decide)
end
end Mine
end

section
open PySem PySem.W PyProof.Rows PySem.Calls
set_option maxRecDepth 100000
namespace Mine
section
theorem add97 {x : Int} (h : x < 65239) : x + 97 < 100000 := by omega
set_option maxHeartbeats 8000000 in
theorem wellC {w : World} {dp un : Nat} {gd : Option (List Code)} {cn : Str} {cs : Scope} {a : Addr} {ccd : Value} {cl : List (Str × Addr)} {outer : List Env} {A₀ : Around} {base h₀ : Heap} {L : Addr} {m : Str → Option Value} {s : Shared}
    {mean : ExcName → Option Value} {mg mb : Str → Option Value} {news : List (Addr × Obj)} {l : Addr} {vs : List Value} {ns : List Int} {Q E : Value → Shared → Prop}
    (B : Below A₀ base outer h₀) (F : Fr h₀ L s.heap m) (X : (hd.heap_39 w.params).In h₀) (N : News h₀ L s.heap news)
    (T : Top hd.view_39 (looseW hd.view_39 []) mean mg mb h₀) (hk : cs.kind = .function) (hdp : dp + 5 < recursionLimit) (hun : un + 50 < cLine)
    (hl : base.IsList l vs.toArray) (hi : IntsAre vs ns) (hsz : ns.length ≤ 1000)
    (ret : ∀ aw wa ta wb tb h' tk', 0 ≤ wa → 0 ≤ wb → wb < 100000 → Fr h₀ L h' m → News h₀ L h' ((aw, wellObj wa ta wb tb 0) :: news) → (∀ p ∈ news, p.1 < aw) → Q (.ref aw) { s with heap := h', toks := tk' }) :
    wpAny (model PySem.Challenge.rw_xm0797_01.row.prog w) (ktrTop dp un gd cn cs L a ccd cl outer) (call (.ref 70) [.ref l]) Q E s := by
  revert X; k_fill; intro X
  refine wpAny_call ?_
  k_dflt (refine' code_def ?k1 ?k2 ?k3 ?k4 ?k5 ?kA ?kF ?kK ?k6 ?k7 ?k8 ?k9 ?kB ?_ ?c2 ?c3 ?c4 ?c5; (case kA => exact rfl); (case kF => exact rfl); (case kK => assumption); (case k1 => k_asm); (case k2 => k_asm); (case k3 => k_asm); (case k4 => k_asm); (case k5 => k_asm); (case k6 => k_is); (case k7 => k_is); (case k8 => ktr_room); (case k9 => exact BindsTo.of_eq rfl); (case c5 => decide); (case kB => exact locs rfl); (case c2 => exact rfl); (case c3 => exact rfl); (case c4 => exact rfl); k_whole; intro g' L' h' FG' F' N' B' X' T'; have hl' := stays_list B'.stays hl; (try dsimp only); (try k_fold))
  k_steps
  all_goals (
    refine ret _ _ _ _ _ _ _ ?_ ?_ ?_ (by assumption) (by assumption) (by assumption)
    · first | exact Int.le_refl 0 | assumption | omega
    · exact Int.add_nonneg (Int.fmod_nonneg_of_pos _ (by decide)) (by decide)
    · exact add97 (Int.fmod_lt_of_pos _ (by decide)))
end
end Mine
end

section
open PySem PySem.W PySem.Calls
set_option maxRecDepth 100000
namespace Mine
open PySem.Builtin PySem.Builtin.ObjectAttr
section
variable {A : Around} {E : Value → Shared → Prop} {h : Heap} {g : Array GenState} {d : Drawn} {t : Nat} {os : OsState}
variable {nm q : Str} {C N : Addr} {bs bm bmN : List Value} {hdct : Bool} {sn : List Str} {sub : List Value} {ab : Bool} {col : Option Bool} {dd : Option Addr} {k0 k1 k2 k3 k5 : Option Value} {Bn newId inN : String}

theorem check_new_I {M : Model} (Fn : ExcBaseFacts Bn newId inN bmN) (hBn : bm.contains (.type Bn) = true) {rest : List Value} {Q : Unit → Shared → Prop} (hC : h.get? C = some (excClassObj nm q C N bs bm hdct sn sub ab col dd k0 k1 k2 k3 k5 newId))
    (hq : Q () ⟨h, g, d, t, os⟩) : wpAny M A (checkBuiltinCall newId ⟨.ref C :: rest, []⟩) Q E ⟨h, g, d, t, os⟩ := by
  have hcont : (Value.ref C :: bm).contains (.type Bn) = true := by rw [List.contains_cons, hBn, Bool.or_true]
  have hstar := Fn.noStar
  simp only [checkBuiltinCall, Fn.newKind, Fn.newSplit, Fn.newRow]
  repeat (first | refine wpAny_loadPart_at hC ?_ | (refine wpAny_isSubtype_exc hC ?_; rw [hcont]) | refine wpAny_staticBase_exc hC ?_ | refine wpAny_madeBy_exc hC ?_ | simp only [bne_self_eq_false, Bool.false_eq_true, if_false] | wp_step)
  exact hq

theorem exc_new_I {prog : Program} {w : World} {R : Result → Shared → Prop} (Fn : ExcBaseFacts Bn newId inN bmN) (hBn : bm.contains (.type Bn) = true) (hnA : bm.contains (.type "AttributeError") = false) (hnN : bm.contains (.type "NameError") = false) {rest : List Value}
    (hC : h.get? C = some (excClassObj nm q C N bs bm hdct sn sub ab col dd k0 k1 k2 k3 k5 newId))
    (hq : R (.ok (.ret (.ref (h.objs.size + 1)))) ⟨(h.push { cls := .type "tuple", data := .seq rest.toArray }).push
      { cls := .ref C, data := .fields #[.ref h.objs.size, .none, .none, .none, .bool false, .none] }, g, d, t, os⟩) (hrest : rest.length ≤ sizeLine) :
    codeAny (model prog w) A (.builtin newId ⟨.ref C :: rest, []⟩) R ⟨h, g, d, t, os⟩ := by
  have hends := Fn.ends
  have hcB : (Value.ref C :: bm).contains (.type Bn) = true := by rw [List.contains_cons, hBn, Bool.or_true]
  have hcA : (Value.ref C :: bm).contains (.type "AttributeError") = false := by rw [List.contains_cons, hnA]; rfl
  have hcN : (Value.ref C :: bm).contains (.type "NameError") = false := by rw [List.contains_cons, hnN]; rfl
  refine codeAny_builtinAt Fn.entry ?_
  unfold Builtin.«BaseException.__new__»
  refine wpAt_bind ?_
  show wpAt _ _ _ (stack >>= _) _ _ _
  refine wpAt_bind (wpAt_stack fun p below => wpAt_of_wpAny ?_)
  wp_walk
  refine wpAt_of_wpAny ?_
  rw [Fn.owner]
  repeat (first | with_reducible refine wpAny_madeHere_exc Fn.canon hC ?_ | with_reducible refine wpAny_loadPart_at hC ?_ | (with_reducible refine wpAny_isSubtype_exc hC ?_; first | rw [hcB] | rw [hcA] | rw [hcN]) | wp_step)
  show R _ _
  rw [Heap.size_push]
  exact hq

theorem type_call_I {prog : Program} {w : World} (Fn : ExcBaseFacts Bn newId inN bmN) (hBn : bm.contains (.type Bn) = true) (hnA : bm.contains (.type "AttributeError") = false) (hnN : bm.contains (.type "NameError") = false) {rest : List Value} {fI : Addr} {oI : Obj} {Q : Fin → Shared → Prop}
    (hC : h.get? C = some (excClassObj nm q C N bs bm hdct sn sub ab col dd k0 k1 k2 k3 k5 newId)) (hl : Looks (model prog w) h (typeLookup (.ref C) "__init__") (some (.ref fI)))
    (hfI : h.get? fI = some oI) (hfc : oI.cls = .type "function")
    (hq : ∀ h' e, Heap.MadeExcOf h h' e (.ref C) rest →
      wpAny (model prog w) A (call (.ref fI) (.ref e :: rest)) (fun r s' => r = .none ∧ Q (.done (.ret (.ref e))) s') E ⟨h', g, d, t, os⟩) (hrest : rest.length ≤ sizeLine) :
    wpAny (model prog w) A (Builtin.«type.__call__» ⟨.ref C :: rest, []⟩) Q E ⟨h, g, d, t, os⟩ := by
  repeat (first | with_reducible refine wpAny_loadPart_at hC ?_ | with_reducible refine wpAny_madeBy_exc hC ?_ | wp_step)
  refine codeAny_call_builtin_code (Code.quiet_builtin _ Fn.quiet) (check_new_I Fn hBn hC ?_)
  refine exc_new_I Fn hBn hnA hnN hC ?_ hrest
  show wpAny _ _ _ _ _ _
  have kp : ∀ b o, h.get? b = some o → ((h.push { cls := .type "tuple", data := .seq rest.toArray }).push { cls := .ref C, data := .fields #[.ref h.objs.size, .none, .none, .none, .bool false, .none] }).get? b = some o := fun b o e => Heap.get?_push_of_some _ (Heap.get?_push_of_some _ e)
  have hC₁ := kp _ _ hC
  have hfI₁ := kp _ _ hfI
  have hl₁ := hl.keeps kp
  have hget : ((h.push { cls := .type "tuple", data := .seq rest.toArray }).push
      { cls := .ref C, data := .fields #[.ref h.objs.size, .none, .none, .none, .bool false, .none] }).get? (h.objs.size + 1) = some
      { cls := .ref C, data := .fields #[.ref h.objs.size, .none, .none, .none, .bool false, .none] } := by heap_get
  have hcC : (Value.ref C :: bm).contains (.ref C) = true := by simp
  unfold isInstance
  repeat (first | with_reducible refine wpAny_loadPart_at hget ?_ | (with_reducible refine wpAny_isSubtype_exc hC₁ ?_; rw [hcC]) | wp_step)
  show wpAny _ _ (typeLookup (.ref C) _) _ _ _
  refine hl₁.at ?_
  refine wpAny_holding (wpAny_bind ?_)
  unfold bindSpecial
  refine wpAny_bind (wpAny_typeOf (T := "function") ⟨_, hfI₁, hfc⟩ ?_)
  rw [if_pos (by decide)]
  refine wpAny_pure (wpAny_bind (wpAny_mono (hq _ (h.objs.size + 1) ⟨kp, Heap.get?_none_of_le (Nat.le_succ _), h.objs.size, hget, Heap.get?_none_of_le (Nat.le_refl _), ?_⟩) (fun r s' hr => ?_) fun _ _ x => x))
  · exact Heap.get?_push_of_some _ (Heap.get?_push_at rfl rfl)
  · obtain ⟨rfl, hQ⟩ := hr
    wp_walk
    exact hQ

theorem call_exc_I {prog : Program} {w : World} (Fn : ExcBaseFacts Bn newId inN bmN) (hBn : bm.contains (.type Bn) = true) (hnA : bm.contains (.type "AttributeError") = false) (hnN : bm.contains (.type "NameError") = false) {rest : List Value} {fI : Addr} {oI : Obj} {Q : Value → Shared → Prop}
    (hC : h.get? C = some (excClassObj nm q C N bs bm hdct sn sub ab col dd k0 k1 k2 k3 k5 newId)) (hl : Looks (model prog w) h (typeLookup (.ref C) "__init__") (some (.ref fI)))
    (hfI : h.get? fI = some oI) (hfc : oI.cls = .type "function")
    (hq : ∀ h' e, Heap.MadeExcOf h h' e (.ref C) rest →
      wpAny (model prog w) (A.under (.builtin "type.__call__" ⟨.ref C :: rest, []⟩)) (call (.ref fI) (.ref e :: rest)) (fun r s' => r = .none ∧ Q (.ref e) s') E ⟨h', g, d, t, os⟩) (hrest : rest.length ≤ sizeLine) :
    wpAny (model prog w) A (call (.ref C) rest) Q E ⟨h, g, d, t, os⟩ := by
  have f1 := tc_lookup
  have f2 := tc_bind (.ref C)
  have hT : (⟨h, g, d, t, os⟩ : Shared).TypeIs (.ref C) "type" := ⟨_, hC, rfl⟩
  refine wpAny_call (codeAny_of_tree ?_)
  show wpAny _ _ (callAny (.ref C) _) _ _ _
  repeat (any_goals (first | assumption | with_reducible refine wpAny_loadPart_at hC ?_ | wp_step))
  refine ⟨rfl, ?_⟩
  refine codeAny_call_builtin_at (Code.quiet_builtin _ (by decide +kernel)) entry_typeCall (wpAny_check_type_call_sub hC (type_call_I (hrest := hrest) Fn hBn hnA hnN hC hl hfI hfc fun h' e hm => ?_))
  exact hq h' e hm

abbrev excObj0 (C t0 : Addr) : Obj := { cls := .ref C, data := .fields #[.ref t0, .none, .none, .none, .bool false, .none] }
theorem exc_init_I {prog : Program} {w : World} {B nid initId : String} {bmB : List Value} (F : ExcBaseFacts B nid initId bmB) (hB : bm.contains (.type B) = true) {e t0 : Addr} {rest : List Value} {Q : Value → Shared → Prop}
    (hC : h.get? C = some (excClassObj nm q C N bs bm hdct sn sub ab col dd k0 k1 k2 k3 k5 newId)) (he : h.get? e = some (excObj0 C t0)) (hrest : rest.length ≤ sizeLine)
    (hq : ∀ h' tp, KeepBut e h h' → h'.get? e = some (excObj0 C tp) → Q .none ⟨h', g, d, t, os⟩) :
    wpAny (model prog w) A (call (.builtin initId) (.ref e :: rest)) Q E ⟨h, g, d, t, os⟩ := by
  have hcB : (Value.ref C :: bm).contains (.type B) = true := by rw [List.contains_cons, hB, Bool.or_true]
  have hshort := F.noStar
  refine wpAny_call (codeAny_call_builtin F.init.plain F.initEntry ?_)
  simp only [checkBuiltinCall, F.initKind, F.initSplit, F.initRow]
  repeat (first | (with_reducible refine wpAny_loadPart_at he ?_) | with_reducible refine wpAny_loadPart_at hC ?_ | (with_reducible refine wpAny_isSubtype_exc hC ?_; rw [hcB]) | wp_step)
  refine wpAny_onRaise ?_
  rw [show ∀ (a b : String) (n : Nat), Bind.check ⟨.positional, "*", B, .self, [⟨"args", .varPos, false⟩]⟩ a b n (List.map (fun x => x.fst) ({ pos := Value.ref e :: rest } : Args).kw) = pure () from
    fun a b n => check_star_args _ _ _ _ _ _]
  refine wpAny_pure ?_
  wp_walk
  have hne : e ≠ h.objs.size := Nat.ne_of_lt (Heap.lt_size he)
  refine hq _ h.objs.size (fun b o hb e1 => ?_) ?_
  · rw [Heap.get?_update_other _ _ (Ne.symm hb)]
    exact Heap.get?_push_of_some _ e1
  · rw [Heap.get?_update_self _ (Heap.get?_push_of_some _ he) rfl]
    rfl
end

section
variable {A : Around} {E : Value → Shared → Prop} {h : Heap} {g : Array GenState} {d : Drawn} {t : Nat} {os : OsState}
variable {nm q : Str} {C N : Addr} {bs bm : List Value} {sn : List Str} {sub : List Value} {ab : Bool} {col : Option Bool} {dd : Option Addr} {k0 k1 k2 k3 k5 : Option Value} {newId : String}
abbrev excObj1 (C t0 dx : Addr) : Obj := { cls := .ref C, dict := some dx, data := .fields #[.ref t0, .none, .none, .none, .bool false, .none] }
theorem set_attr_I {prog : Program} {w : World} {e t0 : Addr} {name : Str} {v : Value} {Q : Unit → Shared → Prop}
    (hC : h.get? C = some (excClassObj nm q C N bs bm true sn sub ab col dd k0 k1 k2 k3 k5 newId)) (he : h.get? e = some (excObj0 C t0))
    (Lsa : Looks (model prog w) h (typeLookup (.ref C) "__setattr__") (some (.builtin "object.__setattr__"))) (Lna : Looks (model prog w) h (typeLookup (.ref C) name) none)
    (hobj : bm.contains (.type "object") = true) (hpass : ∀ self, refuseLoop self "__setattr__" bm = pure ())
    (hq : ∀ h' tk' dx, KeepBut e h h' → h'.get? e = some (excObj1 C t0 dx) → Q () ⟨h', g, d, tk', os⟩) :
    wpAny (model prog w) A (setAttr (.ref e) name v) Q E ⟨h, g, d, t, os⟩ := by
  have SF := PySem.F.store_object
  have hcO : (Value.ref C :: bm).contains (.type "object") = true := by rw [List.contains_cons, hobj, Bool.or_true]
  have Lty : Looks (model prog w) h (typeOf (.ref e)) (.ref C) := (Looks.ld he).andThen .now
  have Lsub : Looks (model prog w) h (isSubtype (.ref C) (.type "object")) true := fun A Q E s k q => by
    obtain ⟨hh, g, d, tk, os⟩ := s
    exact wpAny_isSubtype_exc (k _ _ hC) (by rw [hcO]; exact q)
  have Lmro : Looks (model prog w) h (mroOf (.ref C)) (.ref C :: bm) := fun A Q E s k q => by
    obtain ⟨hh, g, d, tk, os⟩ := s
    exact wpAny_mroOf_exc (k _ _ hC) q
  refine wpAny_bind (wpAny_mkText (wpAny_bind (wpAny_bind (wpAny_bind (Lty.at (Lsa.at (wpAny_holding ?_)))))))
  rw [SF.slot.bind]
  refine wpAny_bind (wpAny_pure (wpAny_bind (wpAny_call ?_)))
  refine codeAny_call_builtin SF.slot.plain SF.entry (@check_slot (model prog w) _ _ _ "object.__setattr__" "object" "__setattr__" (.ref e) [.str name t, v] [] _ SF.kind SF.split (Lty.andThen Lsub) (SF.args (.ref e) (.str name t) v) ?_)
  show wpAny (model prog w) A.in1 (Builtin.«object.__setattr__» ⟨[.ref e, .str name t, v], []⟩) _ _ ⟨h, g, d, t + 1, os⟩
  rw [osa_eq, refuse_eq]
  refine wpAny_bind (wpAny_bind (Lty.at (wpAny_bind (Lmro.at ?_))))
  rw [refuseLoop_ref, hpass]
  refine wpAny_pure (wpAny_bind (Lty.at (wpAny_bind (Lna.at (wpAny_bind (wpAny_pure ?_))))))
  dsimp only
  unfold storeInOwnDict ownDictForStores instanceDict
  have Lcd : Looks (model prog w) h (classData C) { name := nm, bases := bs, mro := .ref C :: bm, ns := N, qualname := q, hasDict := true, slotNames := sn, subclasses := sub, abstract := ab, collection := col, hasDel := false } := (Looks.ld (part := none) hC).andThen .now
  refine wpAny_bind (wpAny_pure (wpAny_bind (wpAny_bind (wpAny_loadPart he (wpAny_bind (Lcd.at ?_))))))
  have hes : e ≠ h.objs.size := Nat.ne_of_lt (Heap.lt_size he)
  have he₁ : (h.push { cls := .type "dict", data := .dict #[] }).get? e = some (excObj0 C t0) := Heap.get?_push_of_some _ he
  rw [if_neg (show ¬ ((!true) = true) from Bool.false_ne_true)]
  dsimp only
  rw [if_neg (by simp [typeHasDict])]
  refine wpAny_bind (wpAny_alloc' (wpAny_bind (wpAny_update' he₁ (wpAny_pure ?_))))
  have hgd : ((h.push { cls := .type "dict", data := .dict #[] }).update e fun o => { cls := o.cls, dict := some h.objs.size, data := o.data, slots := o.slots }).get? h.objs.size
      = some { cls := .type "dict", data := .dict #[] } :=
    (Heap.get?_update_ne _ _ _ _ hes.symm).trans (Heap.get?_push_at rfl rfl)
  have hge : ((h.push { cls := .type "dict", data := .dict #[] }).update e fun o => { cls := o.cls, dict := some h.objs.size, data := o.data, slots := o.slots }).get? e = some (excObj1 C t0 h.objs.size) :=
    Heap.get?_update_self _ he₁ rfl
  have hnd : ((h.push { cls := .type "dict", data := .dict #[] }).update e fun o => { cls := o.cls, dict := some h.objs.size, data := o.data, slots := o.slots }).Ns h.objs.size (fun _ => none) :=
    ⟨_, #[], _, hgd, rfl, fun e he => absurd he (by simp), fun _ => rfl⟩
  show wpAny _ _ (storeInDict h.objs.size (.str name t) name v) _ _ _
  unfold storeInDict newKeyGuard
  refine wpAny_bind (wpAny_pure (wpAny_bind (wpAny_nsSet1 (Heap.Ns1.of_empty hnd) fun h' hn' hs => ?_)))
  obtain ⟨oD, esD, epD, hoD, hdD, hcD⟩ := hn'.count (Within.cons name v Within.nil)
  refine wpAny_bind (wpAny_lookBehind hoD (by rw [hdD]; exact pastItsLine_dict (Nat.le_trans hcD (by rw [List.length_cons, List.length_nil, sizeLine_eq]; omega))) ?_)
  wp_walk
  refine hq h' _ h.objs.size (fun b ob hbx hb => ?_) ((hs.2 e hes).trans hge)
  exact (hs.2 b (Nat.ne_of_lt (Heap.lt_size hb))).trans ((Heap.get?_update_ne _ _ _ _ hbx).trans (Heap.get?_push_of_some _ hb))
end
end Mine
end

section
open PySem PySem.W PyProof.Rows PySem.Calls
set_option maxRecDepth 100000
namespace Mine
section
abbrev exc3 : List Value := [.type "Exception", .type "BaseException", .type "object"]
abbrev bmX : List Value := .ref 31 :: exc3
/-- what is read of an own exception class that stands in the written part -/
structure ExcCls (K : Frag) (C : Addr) : Prop where
  cls : ∃ nm q N bs sn sub ab col dd k0 k1 k2 k3 k5, K.lookup C = some (excClassObj nm q C N bs bmX true sn sub ab col dd k0 k1 k2 k3 k5 "Exception.__new__")
  sa : findIn K (.ref C) "__setattr__" = some (some (.builtin "object.__setattr__"))
  na : findIn K (.ref C) "message" = some none
  ini : findIn K (.ref C) "__init__" = some (some (.ref 28))

theorem exc_pass (self : Value) : PySem.refuseLoop self "__setattr__" bmX = pure () := by
  rw [PySem.refuseLoop_ref]
  exact PySem.F.store_Exception.passes self

variable {prog : Program} {w : World} {A : Around} {E : Value → Shared → Prop} {s : Shared} {K : Frag} {h₀ : Heap} {L : Addr} {m : Str → Option Value} {C e t0 : Addr}

theorem news_one {h h' : Heap} {o o' : Obj} (N : News h₀ L h [(e, o)]) (ho : h'.get? e = some o') : News h₀ L h' [(e, o')] := fun p hp => by
  rcases List.mem_cons.mp hp with rfl | hp
  · exact ⟨ho, (N _ (.head _)).2⟩
  · exact nomatch hp
theorem init_K {rest : List Value} {Q : Value → Shared → Prop} (XC : ExcCls K C) (F : Fr h₀ L s.heap m) (X₀ : K.In h₀) (N : News h₀ L s.heap [(e, excObj0 C t0)]) (hrest : rest.length ≤ sizeLine)
    (h : ∀ t1 h', Fr h₀ L h' m → News h₀ L h' [(e, excObj0 C t1)] → Q .none { s with heap := h' }) :
    wpAny (model prog w) A (call (.builtin "Exception.__init__") (.ref e :: rest)) Q E s := by
  obtain ⟨nm, q, Nn, bs, sn, sub, ab, col, dd, k0, k1, k2, k3, k5, hl⟩ := XC.cls
  have hC := (X₀.keeps F.keep) _ _ hl
  obtain ⟨hh, g, d, t, os⟩ := s
  have n1 := N _ (.head _)
  exact exc_init_I PySem.F.excBase_Exception (by decide +kernel) hC n1.1 hrest fun h' tp kb ho => h tp h' (fr_keepBut F kb n1.2.1 n1.2.2) (news_one N ho)
theorem setattr_K {name : Str} {v : Value} {Q : Unit → Shared → Prop} (hn : name = "message") (XC : ExcCls K C) (F : Fr h₀ L s.heap m) (X₀ : K.In h₀) (N : News h₀ L s.heap [(e, excObj0 C t0)])
    (h : ∀ dx h' tk', Fr h₀ L h' m → News h₀ L h' [(e, excObj1 C t0 dx)] → Q () { s with heap := h', toks := tk' }) :
    wpAny (model prog w) A (setAttr (.ref e) name v) Q E s := by
  subst hn
  obtain ⟨nm, q, Nn, bs, sn, sub, ab, col, dd, k0, k1, k2, k3, k5, hl⟩ := XC.cls
  have X := X₀.keeps F.keep
  have hC := X _ _ hl
  obtain ⟨hh, g, d, t, os⟩ := s
  have n1 := N _ (.head _)
  exact set_attr_I hC n1.1 (looks_findIn X XC.sa) (looks_findIn X XC.na) (by decide +kernel) exc_pass fun h' tk' dx kb ho => h dx h' tk' (fr_keepBut F kb n1.2.1 n1.2.2) (news_one N ho)
end
section
local macro_rules | `(tactic| walk_at "getMethod") => `(tactic| (k_here; (with_reducible show wpAny _ _ (getMethod (Value.type "Exception") _ _) _ _ _); k_dflt (refine' method_type ?k1 ?k2 ?k3 ?k4 ?k5 ?k6 ?_; (case k1 => k_asm); (case k2 => k_asm); (case k3 => kernel_rfl); (case k4 => decide +kernel); (case k5 => k_is); (case k6 => rfl); k_whole)))
local macro_rules | `(tactic| walk_at "call builtin:Exception.__init__") => `(tactic| (k_here; k_dflt (refine' init_K ?k1 ?k2 ?k3 ?k4 ?k5 ?_; (case k1 => assumption); (case k2 => k_asm); (case k3 => k_asm); (case k4 => k_asm); (case k5 => size_fits); k_whole); intro t1' h' F' N'))
local macro_rules | `(tactic| walk_at "setAttr") => `(tactic| (k_here; k_dflt (refine' setattr_K ?k1 ?k2 ?k3 ?k4 ?k5 ?_; (case k1 => rfl); (case k2 => assumption); (case k3 => k_asm); (case k4 => k_asm); (case k5 => k_asm); k_whole); intro dx' h' tk' F' N'))
local macro_rules | `(tactic| walk_at "LeaveK") => `(tactic| (refine leave_pail (by assumption) (by assumption) (by assumption) ?_; intro kE kO; (try dsimp only)))
set_option maxHeartbeats 8000000 in
theorem pressInit {w : World} {A : Around} {env : Env} {outer : List Env} {A₀ : Around} {base h₀ : Heap} {L : Addr} {m : Str → Option Value} {s : Shared}
    {mean : ExcName → Option Value} {mg mb : Str → Option Value} {C e t0 : Addr} {x : Str} {tx : Tok} {Q E : Value → Shared → Prop} (XC : ExcCls (hd.heap_39 w.params) C)
    (B : Below A₀ base outer h₀) (F : Fr h₀ L s.heap m) (X : (hd.heap_39 w.params).In h₀) (N : News h₀ L s.heap [(e, excObj0 C t0)])
    (T : Top hd.view_39 (looseW hd.view_39 []) mean mg mb h₀) (hA : A.frames = some (env :: outer)) (hf : env.frame = some L) (hke : env.scope.kind = .function) (hdp : A.depth < recursionLimit)
    (ret : ∀ t1 dx h' tk', KeepBut e s.heap h' → h'.get? e = some (excObj1 C t1 dx) → Q .none { s with heap := h', toks := tk' }) :
    wpAny (model PySem.Challenge.rw_xm0797_01.row.prog w) A (call (.ref 28) [.ref e, .str x tx]) Q E s := by
  revert X; k_fill; intro X
  refine wpAny_call ?_
  k_dflt (refine' code_defG ?k1 ?k2 ?k3 ?k4 ?k5 ?kA ?kF ?kK ?k6 ?k7 ?k8 ?k9 ?kB ?_ ?c2 ?c3 ?c4 ?c5; (case kA => assumption); (case kF => assumption); (case kK => assumption); (case k1 => k_asm); (case k2 => k_asm); (case k3 => k_asm); (case k4 => k_asm); (case k5 => k_asm); (case k6 => k_is); (case k7 => k_is); (case k8 => assumption); (case k9 => exact BindsTo.of_eq rfl); (case c5 => decide); (case kB => exact locs rfl); (case c2 => exact rfl); (case c3 => exact rfl); (case c4 => exact rfl); k_whole; intro g' L' h' FG' F' N' B' X' T' kG'; (try dsimp only); (try k_fold))
  k_steps
  exact ret _ _ _ _ (by assumption) (by assumption)
end
section
theorem cls44 {w : World} (h : PySem.Challenge.rw_xm0797_01 = PySem.Challenge.rw_xm0797_01) : ExcCls (hd.heap_39 w.params) 44 := by
  revert h; k_fill; intro _
  exact ⟨⟨_, _, _, _, _, _, _, _, _, _, _, _, _, _, by k_is⟩, by k_is, by k_is, by k_is⟩
theorem cls56 {w : World} (h : PySem.Challenge.rw_xm0797_01 = PySem.Challenge.rw_xm0797_01) : ExcCls (hd.heap_39 w.params) 56 := by
  revert h; k_fill; intro _
  exact ⟨⟨_, _, _, _, _, _, _, _, _, _, _, _, _, _, by k_is⟩, by k_is, by k_is, by k_is⟩
end
end Mine
end

section
open PySem PySem.W PySem.Calls
set_option maxRecDepth 100000
namespace Mine
section
variable {A : Around} {E : Value → Shared → Prop} {s : Shared} {env : Env}
variable {nm q : Str} {C N : Addr} {bs bm : List Value} {hdct : Bool} {sn : List Str} {sub : List Value} {ab : Bool} {col : Option Bool} {dd : Option Addr} {k0 k1 k2 k3 k5 : Option Value} {newId : String}
theorem raiseStmt_I {M : Model} {x : Sem Value} {Q : Flow → Shared → Prop} (hbase : bm.contains (.type "BaseException") = true) (hh : A.handled = none)
    (h : wpAny M A x (fun v s₁ => ∃ e t1 dx, v = .ref e ∧ s₁.heap.get? C = some (excClassObj nm q C N bs bm hdct sn sub ab col dd k0 k1 k2 k3 k5 newId) ∧
      s₁.heap.get? e = some (excObj1 C t1 dx) ∧ E (.ref e) s₁) E s) :
    wpAny M A (raiseStmt env (some x) none) Q E s := by
  have hcB : (Value.ref C :: bm).contains (.type "BaseException") = true := by rw [List.contains_cons, hbase, Bool.or_true]
  unfold raiseStmt
  refine wpAny_bind (wpAny_mono h (fun v s₁ h₁ => ?_) fun _ _ x => x)
  obtain ⟨e, t1, dx, rfl, hC, he, hE⟩ := h₁
  obtain ⟨hp, g, d, tk, os⟩ := s₁
  repeat (first | with_reducible refine wpAny_loadPart_at he ?_ | with_reducible refine wpAny_loadPart_at hC ?_ | (with_reducible refine wpAny_isSubtype_exc hC ?_; rw [hcB]) | wp_step)
  exact wpAny_raiseNew_none hh hE
end
section
open PyProof.Rows
theorem raise_M {w : World} {A : Around} {env : Env} {outer : List Env} {A₀ : Around} {base h₀ : Heap} {L : Addr} {m : Str → Option Value} {s : Shared}
    {mean : ExcName → Option Value} {mg mb : Str → Option Value} {C : Addr} {x xs : Str} {np cpos pos : Pos} {e₀ : Expr} {Q : Flow → Shared → Prop} {E : Value → Shared → Prop} (XC : ExcCls (hd.heap_39 w.params) C)
    (B : Below A₀ base outer h₀) (F : Fr h₀ L s.heap m) (X : (hd.heap_39 w.params).In h₀)
    (T : Top hd.view_39 (looseW hd.view_39 []) mean mg mb h₀) (hA : A.frames = some (env :: outer)) (hf : env.frame = some L) (hke : env.scope.kind = .function) (hh : A.handled = none) (hdp : A.depth + 1 < recursionLimit)
    (hname : ∀ {Q' : Value → Shared → Prop}, Q' (.ref C) s → wpAny (model PySem.Challenge.rw_xm0797_01.row.prog w) A (eval (.Name x np) env) Q' E s)
    (harg : ∀ {Q' : List Value → Shared → Prop}, (∀ ts tk', Q' [.str xs ts] { s with toks := tk' }) → wpAny (model PySem.Challenge.rw_xm0797_01.row.prog w) A (spliced (backTo cpos (starEach [e₀] env))) Q' E s)
    (h : ∀ e t1 dx h' tk', (∀ b o, s.heap.get? b = some o → h'.get? b = some o) → s.heap.get? e = none → h'.get? e = some (excObj1 C t1 dx) → E (.ref e) { s with heap := h', toks := tk' })
    (he : starEach [e₀] env = [(false, eval e₀ env)]) :
    wpAny (model PySem.Challenge.rw_xm0797_01.row.prog w) A (exec (.Raise (some (.Call (.Name x np) [e₀] [] cpos)) none pos) env) Q E s := by
  obtain ⟨nm, q, Nn, bs, sn, sub, ab, col, dd, k0, k1, k2, k3, k5, hl⟩ := XC.cls
  rw [arm_exec_Raise]
  refine wpAny_bind (wpAny_standAt (raiseStmt_I (C := C) (nm := nm) (q := q) (N := Nn) (bs := bs) (bm := bmX) (hdct := true) (sn := sn) (sub := sub) (ab := ab) (col := col) (dd := dd) (k0 := k0) (k1 := k1) (k2 := k2) (k3 := k3) (k5 := k5) (newId := "Exception.__new__") (by decide +kernel) hh ?_))
  refine wpAny_bind (wpAny_mono (wpAny_Call_ofName (hname ?_)) (fun v s₃ h₃ => wpAny_bind (wpAny_standAt (wpAny_pure h₃))) fun _ _ x => x)
  unfold callWith
  refine wpAny_bind (wpAny_holding ?_)
  rw [he] at harg ⊢
  have hC := (X.keeps F.keep) _ _ hl
  refine Calls.evalArgs_plain (harg fun ts tk => ?_)
  refine wpAny_bind (wpAny_standAt ?_)
  obtain ⟨hp, g, d, tk0, os⟩ := s
  refine wpAny_bind (wpAny_keeperOf_exc hC ?_)
  have hfun : ((hd.heap_39 w.params).lookup 28).map (·.cls) = some (.type "function") := by rfl
  obtain ⟨oI, ho, hoc⟩ := Option.map_eq_some_iff.mp hfun
  refine wpAny_bind (call_exc_I (Bn := "Exception") PySem.F.excBase_Exception (by decide +kernel) (by decide +kernel) (by decide +kernel) hC (looks_findIn (X.keeps F.keep) XC.ini) ((X.keeps F.keep) _ _ ho) hoc (fun h' e hm => ?_) (by size_fits))
  obtain ⟨t0, ht, _, _⟩ := hm.there
  have eL : e ≠ L := fun q => by
    have := hm.new
    rw [q] at this
    obtain ⟨oL, _, _, hL, _⟩ := F.ns
    have hL' : hp.get? L = some oL := hL
    rw [this] at hL'
    cases hL'
  have e0 : h₀.get? e = none := by
    cases qq : h₀.get? e with
    | none => rfl
    | some o => have := F.keep _ _ qq; have hn := hm.new; rw [this] at hn; cases hn
  refine pressInit (s := ⟨h', g, d, tk, os⟩) (env := env) (outer := outer) (L := L) (m := m) (mean := mean) (mg := mg) (mb := mb) (t0 := t0) XC B (F.keeps hm.keeps) X (fun p hp => ?_) T hA hf hke ?_ (fun t1 dx h2 tk2 kb ho2 => ?_)
  · rcases List.mem_cons.mp hp with rfl | hp
    · exact ⟨ht, eL, e0⟩
    · exact nomatch hp
  · rw [depth_under_make]; exact hdp
  · have kk : ∀ b o, hp.get? b = some o → h2.get? b = some o := fun b o q => kb b o (fun z => by rw [z, hm.new] at q; cases q) (hm.keeps b o q)
    refine ⟨rfl, wpAny_bind (wpAny_holding (wpAny_point (wpAny_pure ⟨e, t1, dx, rfl, kk _ _ hC, ho2, h e t1 dx h2 tk2 kk hm.new ho2⟩)))⟩
end
end Mine
end

section
open PySem PySem.W PyProof.Rows PySem.Calls
set_option maxRecDepth 100000
namespace Mine
section
variable {M : Model} {A : Around} {E : Value → Shared → Prop} {s' : Shared} {base g h : Heap} {outer : List Env} {env : Env} {L e : Addr} {m : Str → Option Value} {Q : Unit → Shared → Prop} {news : List (Addr × Obj)}
theorem mem_frames {b : Addr} (hf : env.frame = some L) (hm : b ∈ (env :: outer).filterMap (·.frame)) : b = L ∨ b ∈ outer.filterMap (·.frame) := by
  obtain ⟨env', he, hf'⟩ := List.mem_filterMap.mp hm
  rcases List.mem_cons.mp he with rfl | he
  · rw [hf] at hf'; exact .inl (Option.some.inj hf').symm
  · exact .inr (List.mem_filterMap.mpr ⟨env', he, hf'⟩)
theorem leave_M {oe : Obj} {vs : Array Value} {a0 : Value} (K : Below A base outer g) (F : Fr g L h m) (N : News g L h news) (hf : env.frame = some L) (hke : env.scope.kind = .function)
    (kp : ∀ b o, h.get? b = some o → s'.heap.get? b = some o) (hnew : h.get? e = none) (he : s'.heap.get? e = some oe) (hd : oe.data = .fields vs) (h1 : vs[1]? = some .none) (h0 : vs[0]? = some a0)
    (hQ : ∀ h', RaisedSN base g outer e oe.cls news h' → g.UpToSlots h' → Q () { s' with heap := h' }) :
    wpAny M (A.deeper env) (leaving env (.ref e)) Q E s' := by
  have K' := pushX K F hf hke
  have hin : ∀ env' ∈ (env :: outer), ∀ b, env'.frame = some b → b ∈ (env :: outer).filterMap (·.frame) := fun env' he b hb => List.mem_filterMap.mpr ⟨env', he, hb⟩
  have st : base.StaysIn (hideAll h ((env :: outer).filterMap (·.frame))) := fun b o q => hideAll_get _ (K'.stays b o q) fun hm => by
    rw [(K'.frames.mem hm).1] at q; cases q
  have sg : ∀ b o, g.get? b = some o → b ∉ outer.filterMap (·.frame) → (hideAll h ((env :: outer).filterMap (·.frame))).get? b = some o := fun b o q nm => hideAll_get _ (F.keep b o q) fun hm => by
    rcases mem_frames hf hm with z | z
    · rw [z, kts_self F] at q
      cases q
    · exact nm z
  have hl : ∀ q ∈ news, (hideAll h ((env :: outer).filterMap (·.frame))).get? q.1 = some q.2 ∧ g.get? q.1 = none ∧ base.get? q.1 = none := fun q hq => by
    refine ⟨hideAll_get _ (N q hq).1 fun hm => ?_, (N q hq).2.2, fresh_of_stays K.stays (N q hq).2.2⟩
    rcases mem_frames hf hm with z | z
    · exact (N q hq).2.1 z
    · obtain ⟨o, ho, _⟩ := (K.frames.mem z).2
      rw [(N q hq).2.2] at ho; cases ho
  have hen : (hideAll h ((env :: outer).filterMap (·.frame))).get? e = none := by
    cases q : (hideAll h ((env :: outer).filterMap (·.frame))).get? e with
    | none => rfl
    | some o => have := of_hideAll _ q; rw [hnew] at this; cases this
  refine wpAny_leaving_firstW (a0 := a0) K'.stack ((funFrames_hide K'.frames hin).of_keeps fun b o hb _ => ⟨o, kp b o hb, rfl⟩) hf he (fun b o hb => kp b o (of_hideAll _ hb)) hen hd h1 h0 fun h' hL => ?_
  obtain ⟨k1, ⟨_, _, k2⟩, k3, k4⟩ := hL
  exact hQ h' ⟨_, a0, st, sg, hl, k1, hen, k2, k3⟩ (((Heap.UpToSlots.of_keeps F.keep).trans (Heap.UpToSlots.of_keeps kp)).trans k4)
end
section
theorem RaisedSN.sub {base G : Heap} {l : List Env} {e : Addr} {cls : Value} {news news' : List (Addr × Obj)} {h : Heap} (R : RaisedSN base G l e cls news h) (hs : ∀ p ∈ news', p ∈ news) : RaisedSN base G l e cls news' h := by
  obtain ⟨B, a0, hB, hBG, hl, hfl⟩ := R
  exact ⟨B, a0, hB, hBG, fun q hq => hl q (hs q hq), hfl⟩
end
end Mine
end

section
open PySem PySem.W PySem.Calls
set_option maxRecDepth 100000
namespace Mine
open PySem.W.KBw
section
variable {prog : Program} {w : World} {A : Around} {E : Value → Shared → Prop} {s : Shared}
abbrev ByteAt (b : Array UInt8) (i : Nat) (v : Value) : Prop := ∃ c u, b[i]? = some c ∧ v = .int (c.toNat : Int) u
theorem ext_bytes {R : Result → Shared → Prop} (hh : A.handled = none) (b : Array UInt8) (t : Tok) (S : Addr) (res : Value) (c₀ : Nat) (hS : s.heap.get? S = some { cls := .type "list", data := .seq #[] c₀ })
    (hR : ∀ h' tk acc' c', (∀ a o, a ≠ S → s.heap.get? a = some o → h'.get? a = some o) → h'.get? S = some { cls := .type "list", dict := none, data := .seq acc' c', slots := #[] } →
      ItemsOf (ByteAt b) acc' b.size → R (.ok (.ret res)) { s with heap := h', toks := tk }) (hn : b.size ≤ sizeLine) :
    wpAny (model prog w) A.in1 (Builtin.List.listExtendWith (.ref S) (.bytes b t) res)
      (fun fin s' => match fin with | .done f => R (.ok f) s' | .again c' => c'.quiet = true ∧ codeAny (model prog w) A c' R s') (fun e s' => R (.error e) s') s := by
  have hSI : S ≠ s.heap.objs.size := Nat.ne_of_lt (Heap.lt_size hS)
  have hSf : S ∉ [s.heap.objs.size] := fun hm => hSI (List.mem_singleton.mp hm)
  unfold Builtin.List.listExtendWith
  refine wpAny_bind (wpAny_typeOf (T := "bytes") (v := .bytes b t) rfl ?_)
  have h1 : Builtin.List.listSameRef (.ref S) (.bytes b t) = false := rfl
  have h2 : (Value.type "bytes" == Value.type "list") = false := by decide
  have h3 : (Value.type "bytes" == Value.type "tuple") = false := by decide
  simp only [h1, h2, h3, Bool.or_false, Bool.false_eq_true, if_false]
  refine wpAny_bind (pyIter_bytes ?_)
  have W := (walks (prog := prog) (w := w) (A := A.in1) hh s.heap.objs.size b t).toS
  refine wpAny_bind (wpAny_holding ?_)
  unfold Builtin.List.listLengthHint
  refine wpAny_bind (wpAny_specialOf (T := "bytes") (v := .bytes b t) rfl PySem.W.FB.slot_bytes_len.lookup ?_)
  wp_delta
  refine wpAny_bind (wpAny_isInstance (T := "bytes") (v := .bytes b t) (b := true) rfl (by rw [isSubtype_type]; kernel_rfl) ?_)
  show wpAny _ _ (typeOf (Value.bytes b t) >>= _) _ _ _
  refine wpAny_bind (wpAny_typeOf (T := "bytes") (v := .bytes b t) rfl ?_)
  refine wpAny_pure ?_
  have key : ∀ (h : Heap) (c₁ tk : Nat), IsBytesIter h s.heap.objs.size b t 0 → (∀ a o, a ≠ S → s.heap.get? a = some o → h.get? a = some o) →
      h.get? S = some { cls := .type "list", data := .seq #[] c₁ } → codeAny (model prog w) A (.builtin "list.extend.loop" ⟨[.ref S, .ref s.heap.objs.size, res], []⟩) R { s with heap := h, toks := tk } := by
    intro h c₁ tk hit hk hS₁
    refine codeAny_extend_loopS W hn S hSf res b.size 0 _ #[] c₁ rfl (Nat.zero_le _) hit hS₁ (ItemsOf.nil _) fun s' acc' c' hm hS' hacc => ?_
    rw [Moved.eq_with hm]
    refine hR s'.heap s'.toks acc' c' (fun b o hb e => hm.heap b o (fun hmem => ?_) (hk b o hb e)) hS' hacc
    rcases List.mem_cons.mp hmem with e' | hmem
    · exact hb e'
    · exact absurd (Heap.lt_size e) (by rw [List.mem_singleton.mp hmem]; exact Nat.lt_irrefl _)
  have hit₁ : IsBytesIter (s.heap.push { cls := .type "bytes_iterator", data := .fields #[.bytes b t, .int 0 0] }) s.heap.objs.size b t 0 := ⟨_, Heap.get?_push_size _ rfl, rfl, rfl⟩
  have hS₁ := Heap.get?_push_of_some { cls := .type "bytes_iterator", data := .fields #[.bytes b t, .int 0 0] } hS
  refine wpAny_ite_split (fun _ => ?_) (fun _ => wpAny_pure ⟨plainId_quiet F.plain_extend_loop _, key _ c₀ _ hit₁ (fun b o _ e => Heap.get?_push_of_some _ e) hS₁⟩)
  refine wpAny_bind (wpAny_rule ?_)
  refine wpAny_bind ?_
  show wpAny _ _ (updateSeq S (·.push .none) >>= fun _ => updateSeq S (·.pop)) _ _ _
  refine wpAny_bind (wpAny_updateSeq hS₁ rfl ?_)
  have hS₂ := Heap.get?_update_self (Obj.mapSeq (·.push Value.none)) hS₁ rfl
  refine wpAny_updateSeq (hz := by seq_fits) hS₂ rfl ?_
  have hS₃ := Heap.get?_update_self (Obj.mapSeq (·.pop)) hS₂ rfl
  refine wpAny_pure ⟨plainId_quiet F.plain_extend_loop _, key _ _ _ ?_ (fun b o hb e => ?_) hS₃⟩
  · obtain ⟨o, ho, r⟩ := hit₁
    exact ⟨o, (Heap.get?_update_other _ _ hSI).trans ((Heap.get?_update_other _ _ hSI).trans ho), r⟩
  · exact (Heap.get?_update_other _ _ (Ne.symm hb)).trans ((Heap.get?_update_other _ _ (Ne.symm hb)).trans (Heap.get?_push_of_some _ e))

theorem init_bytes {R : Result → Shared → Prop} (hh : A.handled = none) (b : Array UInt8) (t : Tok) (S : Addr) (hS : s.heap.get? S = some { cls := .type "list", data := .seq #[] })
    (hR : ∀ h' tk acc' c', (∀ a o, a ≠ S → s.heap.get? a = some o → h'.get? a = some o) → h'.get? S = some { cls := .type "list", dict := none, data := .seq acc' c', slots := #[] } →
      ItemsOf (ByteAt b) acc' b.size → R (.ok (.ret .none)) { s with heap := h', toks := tk }) (hn : b.size ≤ sizeLine) :
    wpAny (model prog w) A.in1 (Builtin.«list.__init__» ⟨[.ref S, .bytes b t], []⟩)
      (fun fin s' => match fin with | .done f => R (.ok f) s' | .again c' => c'.quiet = true ∧ codeAny (model prog w) A c' R s') (fun e s' => R (.error e) s') s := by
  show wpAny _ _ (do let old ← Builtin.List.listItems (.ref S); Builtin.List.listUpdate (.ref S) (fun _ => #[]); letGo old.toList.reverse; Builtin.List.listExtendWith (.ref S) (.bytes b t) .none) _ _ s
  refine wpAny_bind ?_
  unfold Builtin.List.listItems
  refine wpAny_bind (wpAny_seqItems hS rfl (wpAny_pure ?_))
  show wpAny _ _ (updateSeq S (fun _ => #[]) >>= fun _ => letGo (#[] : Array Value).toList.reverse >>= fun _ => Builtin.List.listExtendWith (.ref S) (.bytes b t) .none) _ _ s
  refine wpAny_bind (wpAny_updateSeq hS rfl ?_)
  have hS₂ := Heap.get?_update_self (Obj.mapSeq (fun _ => (#[] : Array Value))) hS rfl
  have oth : ∀ b o, b ≠ S → s.heap.get? b = some o → (s.heap.update S (Obj.mapSeq (fun _ => (#[] : Array Value)))).get? b = some o :=
    fun b o hb e => (Heap.get?_update_other _ _ (Ne.symm hb)).trans e
  refine wpAny_bind (wpAny_letGo ?_)
  refine ext_bytes (hn := hn) hh b t S .none _ hS₂ fun h' tk acc' c' hk hS' hacc => ?_
  exact hR h' tk acc' c' (fun b o hb e => hk b o hb (oth b o hb e)) hS' hacc

theorem call_list_bytes {Q : Value → Shared → Prop} (hh : A.handled = none) (b : Array UInt8) (t : Tok) (hn : b.size ≤ sizeLine)
    (hQ : ∀ h' tk acc' c', (∀ b o, s.heap.get? b = some o → h'.get? b = some o) →
      h'.get? s.heap.objs.size = some { cls := .type "list", dict := none, data := .seq acc' c', slots := #[] } → ItemsOf (ByteAt b) acc' b.size → Q (.ref s.heap.objs.size) { s with heap := h', toks := tk }) :
    wpAny (model prog w) A (call (.type "list") [.bytes b t]) Q E s := by
  refine callType_codes (Q₁ := fun obj s₁ => obj = .ref s.heap.objs.size ∧ s₁ = { s with heap := s.heap.push { cls := .type "list", data := .seq #[] } }) F.called_list (F.typeCall_list_1 _) F.entry_list_init
    (code_list_new _ ⟨rfl, rfl⟩) fun obj s₁ h₁ => ?_
  obtain ⟨rfl, rfl⟩ := h₁
  have hS : (s.heap.push { cls := .type "list", data := .seq #[] }).get? s.heap.objs.size = some { cls := .type "list", data := .seq #[] } := Heap.get?_push_size _ rfl
  refine ⟨⟨_, hS, rfl⟩, F.args_list_init_2 _ _, init_bytes (A := A.in1) hh b t _ hS (fun h' tk acc' c' hk hS' hacc => ?_) hn⟩
  exact ⟨rfl, hQ h' tk acc' c' (fun b o e => hk b o (Nat.ne_of_lt (Heap.lt_size e)) (Heap.get?_push_of_some _ e)) hS' hacc⟩
end
section
open PyProof.Rows
theorem ints_of_items {b : Array UInt8} : ∀ {acc : Array Value}, ItemsOf (ByteAt b) acc b.size → IntsAre acc.toList (bInts b) := by
  intro acc ⟨hs, hv⟩
  have gen : ∀ (vs : List Value) (ns : List Int), vs.length = ns.length → (∀ (j : Nat) (v : Value), vs[j]? = some v → ∃ n t, ns[j]? = some n ∧ v = .int n t) → IntsAre vs ns := by
    intro vs
    induction vs with
    | nil => intro ns hl _; cases ns with | nil => exact .nil | cons _ _ => cases hl
    | cons v r ih =>
      intro ns hl hx
      cases ns with
      | nil => cases hl
      | cons n ns =>
        obtain ⟨n', t, e1, rfl⟩ := hx 0 v rfl
        have e1' : n = n' := by simpa using e1
        subst e1'
        exact .cons _ _ (ih ns (by simpa using hl) fun j v hj => by simpa using hx (j + 1) v (by simpa using hj))
  refine gen _ _ (by simp [bInts, hs]) fun j v hj => ?_
  obtain ⟨c, u, hc, rfl⟩ := hv j v (by simpa using hj)
  exact ⟨_, u, ints_get hc, rfl⟩

variable {prog : Program} {w : World} {A : Around} {E : Value → Shared → Prop} {s : Shared} {h₀ : Heap} {L : Addr} {m : PySem.Str → Option Value} {news : List (Addr × Obj)} {b : Array UInt8} {t : Tok} {ks : List Int}
theorem listBytes_K {Q : Value → Shared → Prop} (F : Fr h₀ L s.heap m) (N : News h₀ L s.heap news) (hh : A.handled = none) (hk : bInts b = ks) (hfit : ks.length ≤ 16777216)
    (h : ∀ D vs c h' tk, Fr h₀ L h' m → News h₀ L h' ((D, listOf vs.toArray c) :: news) → (∀ q ∈ news, q.1 < D) → IntsAre vs ks → Q (.ref D) { s with heap := h', toks := tk }) :
    wpAny (model prog w) A (call (.type "list") [.bytes b t]) Q E s := by
  subst hk
  refine call_list_bytes hh b t (by rw [← ints_length b, sizeLine_eq]; exact hfit) fun h' tk acc' c' kp hD hacc => ?_
  refine h _ acc'.toList c' h' tk (F.keeps kp) (fun q hq => ?_) (fun q hq => Heap.lt_size (N q hq).1) (ints_of_items hacc)
  rcases List.mem_cons.mp hq with rfl | hq
  · exact ⟨hD, Nat.ne_of_gt F.ns.lt, none_at_size F⟩
  · exact ⟨kp _ _ (N q hq).1, (N q hq).2⟩
end
end Mine
end

section
open PySem PySem.W PyProof.Rows PySem.Calls
set_option maxRecDepth 100000
namespace Mine
section
variable {prog : Program} {w : World} {A : Around} {h₀ : Heap} {L : Addr} {m : Str → Option Value} {env : Env} {elt : Expr} {x : Str} {scope : Scope} {cl : List (Str × Addr)} {s : Shared} {S : List (Addr × Obj) → Prop} {P : Nat → Value → Prop} {Fin : List Value → List (Addr × Obj) → Prop} {news : List (Addr × Obj)}
/-- a comprehension by what holds of its list and of the ledger behind each turn -/
theorem rest_inv {n : Nat} (J : Nat → List Value → List (Addr × Obj) → Prop) (h0 : J 0 [] news)
    (turn : ∀ i ys nw v I oI C oC D m₂ h tk (E' : Value → Shared → Prop), i < n → J i ys nw → P i v → LCg.NsObj oC m₂ → m₂ x = some v → Fr h₀ L h m → News h₀ L h ((I, oI) :: (C, oC) :: (D, LCg.lst ys) :: nw) → LCg.Off3 I C D nw → ((@Ne Nat I C) ∧ (@Ne Nat I D) ∧ (@Ne Nat C D)) →
      wpAny (model prog w) A (eval elt (compEnvC scope cl C env)) (LCg.CompEnd h₀ L m { s with heap := h, toks := tk } I oI C oC D (LCg.lst ys) S (fun y nw' => J (i + 1) (ys ++ [y]) nw')) E' { s with heap := h, toks := tk })
    (fin : ∀ ys nw, J n ys nw → Fin ys nw) : LCg.CompRest prog w A h₀ L m env elt x scope cl s S P Fin n 0 [] news := by
  have key : ∀ (j i : Nat) (ys : List Value) (nw : List (Addr × Obj)), i + j = n → J i ys nw → LCg.CompRest prog w A h₀ L m env elt x scope cl s S P Fin j i ys nw := by
    intro j
    induction j with
    | zero =>
      intro i ys nw hi hJ
      have e : i = n := by omega
      subst e
      exact LCg.CompRest.zero (fin ys nw hJ)
    | succ j ih =>
      intro i ys nw hi hJ
      refine LCg.CompRest.succ ?_
      intro v I oI C oC D m₂ h tk E' hv hC hx F N off ne
      refine wpAny_mono (turn i ys nw v I oI C oC D m₂ h tk E' (by omega) hJ hv hC hx F N off ne) (fun y s₂ hq => ?_) fun _ _ e => e
      obtain ⟨h', tk', nw', e, F', N', off', hS, hJ'⟩ := hq
      exact ⟨h', tk', nw', e, F', N', off', hS, ih (i + 1) _ nw' (by omega) hJ'⟩
  exact key n 0 [] news (by omega) h0
end
section
variable {prog : Program} {w : World} {A : Around} {E : Value → Shared → Prop} {s : Shared} {h₀ : Heap} {L : Addr} {m : Str → Option Value} {env : Env}
/-- a comprehension over a range with any step, its list bound to a local name -/
theorem Assign_ListComp_step {elt iter : Expr} {x y : Str} {px py : Pos} {scope : Scope} {cl : List (Str × Addr)} {pos spos : Pos} {Q : Flow → Shared → Prop} {c : Int} (_F₀ : Fr h₀ L s.heap m) (hLe : env.locals = L)
    (hsw : swapsWith (.ListComp elt [⟨.Name x px, iter, [], 0⟩] scope pos) (some (.Name y py)) spos.line env = pure true)
    (hclos : closureFor scope env = pure cl) (hcell : ∀ z ∈ scope.names, z.2 ≠ .cell) (hkind : scope.kind = .function)
    (hnames : ∀ z ∈ scope.names, z.2 = .local → scope.names.lookup z.1 = some .local) (hx : scope.names.lookup x = some .local)
    (hy : env.kindOf y = some .local) (hp : (env.scope.kind == .class || (env.scope.kind == .module && env.locals != env.globals)) = false)
    (h : wpAny (model prog w) A (eval iter env) (fun xv s₁ => ∃ r a b t u v n news, xv = .ref r ∧ A.handled = none ∧ Fr h₀ L s₁.heap m ∧ News h₀ L s₁.heap news ∧ IsRange s₁.heap r a b c t u v ∧ Builtin.Range.small a b c = true ∧ Builtin.Range.rangeSize a b c = ((n : Nat) : Int) ∧ n ≤ sizeLine ∧
      ∀ g, LCg.CompRest prog w A h₀ L m env elt x scope cl { s₁ with heap := g } (fun _ => True) (fun i v => ∃ t, v = .int (a + i * c) t) (LCg.FinA h₀ L m { s₁ with heap := g } y Q) n 0 [] news) E s)
    (hs : ∀ x, foldedSetIterable iter env x = pure x := by intro _; rfl) :
    wpAny (model prog w) A (exec (.Assign [.Name y py] (.ListComp elt [⟨.Name x px, iter, [], 0⟩] scope pos) spos) env) Q E s := by
  subst hLe
  rw [exec_Assign_Name_used _ _ _ _ hsw]
  refine wpAny_bind (wpAny_standAt (wpAny_bind ?_))
  show wpAny _ A (do let _ ← comprehension (.ListComp elt [⟨.Name x px, iter, [], 0⟩] scope pos) scope env _ (newList []) false (eval iter env) (some (assign (.Name y py) env))) _ _ s
  refine wpAny_bind (wpAny_mono (wpAny_comprehension_free (use := some (assign (.Name y py) env)) (Q := fun _ s' => Q .next s') rfl hs hclos hkind hnames
    (wpAny_mono h (fun xv s₁ h₁ => ?_) fun _ _ e => e)) (fun _ s' hq => wpAny_pure (wpAny_pure hq)) fun _ _ e => e)
  obtain ⟨r, a, b, t, u, v, n, news, rfl, hh, F, N, hr, hsm, hn, hsz, R⟩ := h₁
  refine wpAny_pyIter_range hr hsm ?_
  refine LCg.block_U (Walks.range (prog := prog) (w := w) hh s₁.heap.objs.size a c n) hsz (fun i h st => ⟨_, st⟩)
    (fun i h h' o nw st e e' _ _ _ => by
      have st' : h.get? s₁.heap.objs.size = some _ := st
      show h'.get? s₁.heap.objs.size = some _
      rw [e', ← e]; exact st') hcell hkind hx (by show IsRangeIter _ _ _ _ _; rw [hn]; simpa using Heap.get?_push_size _ rfl) (fun b hb => ?_)
    (F.keeps fun _ _ e => Heap.get?_push_of_some _ e) (N.grown fun _ _ e => Heap.get?_push_of_some _ e) (Nat.ne_of_lt F.ns.lt) (next_is_new F) (fun p hp => Nat.ne_of_lt (Heap.lt_size (N p hp).1)) trivial (R _) ?_
  · rw [List.mem_singleton.mp hb]
    show s₁.heap.objs.size < (s₁.heap.push _).objs.size
    rw [Heap.size_push]; exact Nat.lt_succ_self _
  · intro D C h' tk m' ys news' F' N' o1 hn hC₀ hD₀ hCL hDL hCD offC fin
    show wpAny _ A (assign (.Name y py) env (.ref D)) _ _ _
    refine wpAny_assign_Name (wpAny_storeName_local hy F'.ns (fun h₂ hn₂ hs₂ => ?_) hp)
    have hL₀ : h₀.get? env.locals = none := Heap.get?_none_of_le F'.above
    have F₂ : Fr h₀ env.locals h₂ (fun z => if z = y then some (.ref D) else m z) := ⟨hn₂, fun b o e => hs₂.extBut b o (fun q => by rw [q, hL₀] at e; cases e) (F'.keep b o e), F'.above⟩
    refine ⟨m', hn.sameBut hs₂ hCL, fun h'' hs'' => fin D h'' _ (F₂.change hs'' hCL hC₀) (fun p hp => ?_) o1⟩
    have z : h₂.get? p.1 = some p.2 := hs₂.extBut _ _ (N' p hp).2.1 (N' p hp).1
    refine ⟨hs''.extBut _ _ ?_ z, (N' p hp).2⟩
    rcases List.mem_cons.mp hp with rfl | hp
    · exact Ne.symm hCD
    · exact offC p hp
end
section
theorem bools_snoc {q : Int → Bool} {ns : List Int} {ys : List Value} {i : Nat} {k : Int} (hb : LSm.BoolsAre ys ((ns.take i).map q)) (hk : ns[i]? = some k) : LSm.BoolsAre (ys ++ [.bool (q k)]) ((ns.take (i + 1)).map q) := by
  rw [List.take_add_one, hk]
  have gen : ∀ {ys : List Value} {bs : List Bool} {b : Bool}, LSm.BoolsAre ys bs → LSm.BoolsAre (ys ++ [.bool b]) (bs ++ [b]) := by
    intro ys bs b h
    induction h with
    | nil => exact .cons _ .nil
    | cons c _ ih => exact .cons c ih
  simpa using gen hb
theorem ints_snoc {g : Int → Int} {ns : List Int} {ys : List Value} {i : Nat} {k : Int} {t : Tok} (hb : IntsAre ys ((ns.take i).map g)) (hk : ns[i]? = some k) : IntsAre (ys ++ [.int (g k) t]) ((ns.take (i + 1)).map g) := by
  rw [List.take_add_one, hk]
  simpa using IntsAre.append hb (.cons (g k) t .nil)
end
end Mine
end

section
open PySem PySem.W PyProof.Rows PySem.Calls
set_option maxRecDepth 100000
namespace Mine
local macro_rules | `(tactic| walk_at "until comp") => `(tactic| repeat' ((fail_if_success (with_reducible show wpAny _ _ (eval (Expr.ListComp _ _ _ _) _) _ _ _)); (first | (k_unfold; (try dsimp only)) | (k_end; wrow_close) | walk1 | (dsimp only; walk1) | (leave1; walk_say "STEP leave1"; try dsimp only) | fail "no step")))
local macro_rules | `(tactic| walk_at "until call") => `(tactic| repeat' ((fail_if_success (with_reducible show wpAny _ _ (call _ _) _ _ _)); (first | (k_unfold; (try dsimp only)) | (k_end; wrow_close) | walk1 | (dsimp only; walk1) | (leave1; walk_say "STEP leave1"; try dsimp only) | fail "no step")))
local macro_rules | `(tactic| walk_at "until any") => `(tactic| repeat' ((fail_if_success (with_reducible show wpAny _ _ (call (Value.builtin "any") _) _ _ _)); (first | (k_unfold; (try dsimp only)) | (k_end; wrow_close) | walk1 | (dsimp only; walk1) | (leave1; walk_say "STEP leave1"; try dsimp only) | fail "no step")))
local macro_rules | `(tactic| walk_at "until compend") => `(tactic| repeat' ((fail_if_success (with_reducible show LCg.CompEnd _ _ _ _ _ _ _ _ _ _ _ _ _ _)); (first | (k_unfold; (try dsimp only)) | (k_end; wrow_close) | walk1 | (dsimp only; walk1) | (leave1; walk_say "STEP leave1"; try dsimp only) | fail "no step")))
section
def dec1 (ks : List Int) (a n : Int) : List Int := (ks.drop a.toNat).take n.toNat
theorem dec1_eq {ks : List Int} {a n : Int} (ha : 0 ≤ a) (hn : 0 ≤ n) (h : a + n ≤ ks.length) : List.take (clipAt ks.length (a + n) - clipAt ks.length a) (List.drop (clipAt ks.length a) ks) = dec1 ks a n := by
  obtain ⟨A, rfl⟩ := Int.eq_ofNat_of_zero_le ha
  obtain ⟨M, rfl⟩ := Int.eq_ofNat_of_zero_le hn
  have h1 : A + M ≤ ks.length := by omega
  have e : ((A : Int) + (M : Int)) = ((A + M : Nat) : Int) := by simp
  unfold dec1
  rw [e, clipAt_nat, clipAt_nat, Nat.min_eq_left h1, Nat.min_eq_left (by omega), Nat.add_sub_cancel_left]
  rfl
theorem dec1_len (ks : List Int) (a n : Int) : (dec1 ks a n).length ≤ n.toNat := by unfold dec1; rw [List.length_take]; omega
end
section
local macro_rules | `(tactic| walk_at "exec Raise some none") => `(tactic| (k_here; (with_reducible show wpAny _ _ (exec (Stmt.Raise (some (Expr.Call (Expr.Name (Str.ofString "CutError") _) _ _ _)) _ _) _) _ _ _); k_dflt (refine' raise_M (cls44 rfl) ?B ?F ?X ?T ?hA ?hf ?hke ?hh ?hdp ?hname ?harg ?_ ?he; (case B => k_asm); (case F => k_asm); (case X => k_asm); (case T => k_asm); (case hA => exact rfl); (case hf => exact rfl); (case hke => exact rfl); (case hh => exact rfl); (case hdp => ktr_room); (case hname => (intro Q' hq'; (refine' nameX_K ?F ?X ?T ?e hq' ?a ?b ?c; (case a => exact rfl); (case b => exact rfl); (case c => decide); (case F => k_asm); (case X => k_asm); (case T => k_asm); (case e => k_is)))); (case he => exact rfl); (case harg => (intro Q' hq'; k_steps; exact hq' _ _))); intro e1' t1' dx' h' tk' kk' kn' ke'))
local macro_rules | `(tactic| walk_at "exec Raise some none") => `(tactic| (k_here; (with_reducible show wpAny _ _ (exec (Stmt.Raise (some (Expr.Call (Expr.Name (Str.ofString "RangeError") _) _ _ _)) _ _) _) _ _ _); k_dflt (refine' raise_M (cls56 rfl) ?B ?F ?X ?T ?hA ?hf ?hke ?hh ?hdp ?hname ?harg ?_ ?he; (case B => k_asm); (case F => k_asm); (case X => k_asm); (case T => k_asm); (case hA => exact rfl); (case hf => exact rfl); (case hke => exact rfl); (case hh => exact rfl); (case hdp => ktr_room); (case hname => (intro Q' hq'; (refine' nameX_K ?F ?X ?T ?e hq' ?a ?b ?c; (case a => exact rfl); (case b => exact rfl); (case c => decide); (case F => k_asm); (case X => k_asm); (case T => k_asm); (case e => k_is)))); (case he => exact rfl); (case harg => (intro Q' hq'; k_steps; exact hq' _ _))); intro e1' t1' dx' h' tk' kk' kn' ke'))
local macro_rules | `(tactic| walk_at "leaving ref") => `(tactic| (k_here; (refine' leave_M (h := ?hh) ?B ?F ?N ?hf ?hke ?kp ?kn ?ke ?hd ?h1 ?h0 ?_; (case kp => assumption); (case kn => assumption); (case ke => assumption); (case B => k_asm); (case F => k_asm); (case N => k_asm); (case hf => exact rfl); (case hke => exact rfl); (case hd => exact rfl); (case h1 => exact rfl); (case h0 => exact rfl); k_whole); intro h' R' U'; (try dsimp only at R' U' ⊢)))
local macro_rules | `(tactic| walk_at "binaryOp Add int int") => `(tactic| ((with_reducible show wpAny _ _ (binaryOp Operator.Add (Value.int _ _) (Value.int (ite _ _ _) _)) _ _ _); simp only [Bool.false_eq_true, if_false, if_true]))
local macro_rules | `(tactic| walk_at "call type:int") => `(tactic| ((with_reducible show wpAny _ _ (call (Value.type "int") [Value.bool _]) _ _ _); (rename (decide _ = _) => hDq); simp only [hDq]))

local macro_rules | `(tactic| walk_at "call type:list") => `(tactic| (k_here; (with_reducible show wpAny _ _ (call (Value.type "list") [Value.bytes _ _]) _ _ _); k_dflt (refine' listBytes_K ?F ?N ?hh ?hk ?hz ?_; (case F => k_asm); (case N => k_asm); (case hh => exact rfl); (case hk => kba_ints); (case hz => kba_size); k_whole); intro D' vs' c' h' tk' F' N' l1' hi'))
set_option maxHeartbeats 8000000 in
theorem readC1 {w : World} {dp un : Nat} {gd : Option (List Code)} {cn : Str} {cs : Scope} {a : Addr} {ccd : Value} {cl : List (Str × Addr)} {outer : List Env} {A₀ : Around} {base h₀ : Heap} {L : Addr} {m : Str → Option Value} {s : Shared}
    {mean : ExcName → Option Value} {mg mb : Str → Option Value} {news : List (Addr × Obj)} {b : Array UInt8} {t : Tok} {at' many p : Int} {t1 t2 t3 : Tok} {ks : List Int} {Q E : Value → Shared → Prop}
    (B : Below A₀ base outer h₀) (F : Fr h₀ L s.heap m) (X : (hd.heap_39 w.params).In h₀) (N : News h₀ L s.heap news)
    (T : Top hd.view_39 (looseW hd.view_39 []) mean mg mb h₀) (hk : cs.kind = .function) (hdp : dp + 20 < recursionLimit) (hun : un + 100 < cLine)
    (ha0 : 0 ≤ at') (ha1 : at' ≤ 3) (hm0 : 0 ≤ many) (hm1 : many ≤ 9) (hp0 : 2 ≤ p) (hp1 : p ≤ 8) (hks : KBw.bInts b = ks) (hbz : ks.length ≤ 100) (hP : decide (8 < p) = false)
    (retCut : (ks.length : Int) < at' + many → ∀ e G h' tk', Fr h₀ L G m → RaisedSN base G (envX cn cs L a ccd cl :: outer) e (.ref 44) news h' → G.UpToSlots h' → E (.ref e) { s with heap := h', toks := tk' })
    (retBey : at' + many ≤ (ks.length : Int) → (dec1 ks at' many).any (fun v => decide (2 ^ p.toNat ≤ v)) = true → ∀ e G h' tk', Fr h₀ L G m → RaisedSN base G (envX cn cs L a ccd cl :: outer) e (.ref 56) news h' → G.UpToSlots h' → E (.ref e) { s with heap := h', toks := tk' })
    (retOk : at' + many ≤ (ks.length : Int) → (dec1 ks at' many).any (fun v => decide (2 ^ p.toNat ≤ v)) = false → ∀ D vs c h' tk', IntsAre vs (dec1 ks at' many) → Fr h₀ L h' m → News h₀ L h' ((D, listOf vs.toArray c) :: news) → (∀ q ∈ news, q.1 ≠ D) → Q (.ref D) { s with heap := h', toks := tk' }) :
    wpAny (model PySem.Challenge.rw_xm0797_01.row.prog w) (ktrTop dp un gd cn cs L a ccd cl outer) (call (.ref 63) [.bytes b t, .int at' t1, .int many t2, .int p t3]) Q E s := by
  revert X; k_fill; intro X
  refine wpAny_call ?_
  k_dflt (refine' code_defC ?k1 ?k2 ?k3 ?k4 ?k5 ?kA ?kF ?kK ?k6 ?k7 ?k8 ?k9 ?kB ?kD ?_ ?c2 ?c3 ?c4; (case kA => exact rfl); (case kF => exact rfl); (case kK => assumption); (case k1 => k_asm); (case k2 => k_asm); (case k3 => k_asm); (case k4 => k_asm); (case k5 => k_asm); (case k6 => k_is); (case k7 => k_is); (case k8 => ktr_room); (case k9 => exact BindsTo.of_eq rfl); (case kB => exact rfl); (case kD => decide +kernel); (case c2 => exact rfl); (case c3 => exact rfl); (case c4 => exact rfl); k_whole; intro g' L' h' tk' cells' FG' F' N' Y' B' X' T' l1)
  obtain ⟨o1, o2, hE, d1, d2⟩ := CellsAre.two Y'
  subst hE
  clear Y'
  simp only [List.cons_append, List.nil_append] at N'
  have F2 : Fr g' L' h' (fun y => if y = Str.ofString "many" then some (.int many t2) else if y = Str.ofString "at" then some (.int at' t1) else none) := F'
  have e1 : o1.data = .cell (some (.int p t3)) := d1
  have e2 : o2.data = .cell (some (.bytes b t)) := d2
  clear F' d1 d2
  try dsimp only
  k_unmd
  k_fold
  walk_at "until comp"
  · rename_i hcut _ _ _ _ _ _ _ _ _ R1 U1
    refine retCut (by omega) _ _ _ _ FG' (RaisedSN.sub R1 ?_) U1
    exact fun q hq => .tail _ (.tail _ hq)
  · k_dflt (refine LCg.ListComp_U (F₀ := by k_asm) (by with_unfolding_all rfl) (by decide) (by rfl) (by decide) (by rfl) ?_)
    walk1
    rename_i hcut tkA tkB hA tA kA hkp D vs c hB tkC l1D hi hC F1 N1
    have hcut' : at' + many ≤ (ks.length : Int) := by omega
    rw [dec1_eq ha0 hm0 hcut'] at hi
    have hlen := dec1_len ks at' many
    have hlv := hi.length
    refine LCg.CompSrc.ledger (by rfl) F1 N1 (by k_mem) (by rw [List.size_toArray, sizeLine_eq]; omega) ?_
    intro g2
    refine rest_inv (fun i ys nw => nw = ((D, W.listOf vs.toArray c) :: (L' + 1 + 1, o1) :: (L' + 1, o2) :: news) ∧ LSm.BoolsAre ys (((dec1 ks at' many).take i).map (fun v => decide (2 ^ p.toNat ≤ v)))) ⟨rfl, by simp only [List.take_zero, List.map_nil]; exact .nil⟩ ?_ ?_
    · rintro i ys nw v I oI C oC D2 m₂ h2 tk2 E' hin ⟨rfl, hbs⟩ hP hC2 hx F3 N3 off ne
      obtain ⟨k, t, e, hk⟩ := IntsAre.at hi i v (by simpa using hP)
      subst e
      dsimp only
      walk_at "until compend"
      refine LCg.CompEnd.intro F3 N3 _ (fun _ h => h) off ?_ ⟨rfl, ?_⟩
      · exact Or.inr ⟨_, by k_mem, rfl, _, rfl⟩
      · exact bools_snoc hbs hk
    · rintro ys nw ⟨rfl, hbs⟩
      unfold LCg.FinE
      intro D3 h3 tk3 F4 N4 o3
      have hfull : (dec1 ks at' many).take vs.toArray.size = dec1 ks at' many := by rw [List.size_toArray, hlv, List.take_length]
      rw [hfull] at hbs
      dsimp only
      walk_at "until any"
      k_unmd
      k_dflt (refine LSm.any_bools (by k_asm) (by k_asm) (by rfl) (News.isList (by k_asm) (by k_mem)) hbs ?_)
      intro h5 tk5 F5 N5
      rw [List.any_map]
      by_cases hany : (dec1 ks at' many).any (fun v => decide (2 ^ p.toNat ≤ v)) = true
      · have hany' : ((dec1 ks at' many).any (id ∘ fun v => decide (2 ^ p.toNat ≤ v))) = true := hany
        rw [hany']
        k_steps
        walk_at "leaving ref"
        rename_i R1 U1
        refine retBey hcut' hany _ _ _ _ FG' (RaisedSN.sub R1 ?_) U1
        exact fun q hq => .tail _ (.tail _ (.tail _ (.tail _ hq)))
      · have hany2 : (dec1 ks at' many).any (fun v => decide (2 ^ p.toNat ≤ v)) = false := by simpa using hany
        have hany' : ((dec1 ks at' many).any (id ∘ fun v => decide (2 ^ p.toNat ≤ v))) = false := hany2
        rw [hany']
        k_steps
        rename_i kF kN _ _
        exact retOk hcut' hany2 D vs c _ _ hi kF (fun q hq => kN q (by
          rcases List.mem_cons.mp hq with rfl | hq
          · exact .tail _ (.head _)
          · exact .tail _ (.tail _ (.tail _ (.tail _ hq))))) (fun q hq => Nat.ne_of_lt (l1D q (.tail _ (.tail _ hq))))
end
end Mine
end

section
open PySem PySem.W PyProof.Rows PySem.Calls
set_option maxRecDepth 100000
namespace Mine
local macro_rules | `(tactic| walk_at "until comp") => `(tactic| repeat' ((fail_if_success (with_reducible show wpAny _ _ (eval (Expr.ListComp _ _ _ _) _) _ _ _)); (first | (k_unfold; (try dsimp only)) | (k_end; wrow_close) | walk1 | (dsimp only; walk1) | (leave1; walk_say "STEP leave1"; try dsimp only) | fail "no step")))
local macro_rules | `(tactic| walk_at "until call") => `(tactic| repeat' ((fail_if_success (with_reducible show wpAny _ _ (call _ _) _ _ _)); (first | (k_unfold; (try dsimp only)) | (k_end; wrow_close) | walk1 | (dsimp only; walk1) | (leave1; walk_say "STEP leave1"; try dsimp only) | fail "no step")))
local macro_rules | `(tactic| walk_at "until any") => `(tactic| repeat' ((fail_if_success (with_reducible show wpAny _ _ (call (Value.builtin "any") _) _ _ _)); (first | (k_unfold; (try dsimp only)) | (k_end; wrow_close) | walk1 | (dsimp only; walk1) | (leave1; walk_say "STEP leave1"; try dsimp only) | fail "no step")))
local macro_rules | `(tactic| walk_at "until compend") => `(tactic| repeat' ((fail_if_success (with_reducible show LCg.CompEnd _ _ _ _ _ _ _ _ _ _ _ _ _ _)); (first | (k_unfold; (try dsimp only)) | (k_end; wrow_close) | walk1 | (dsimp only; walk1) | (leave1; walk_say "STEP leave1"; try dsimp only) | fail "no step")))
section
def dec2 (ks : List Int) (a n : Int) : List Int := (List.range n.toNat).map fun i => ks.getD (a.toNat + 2 * i) 0 * 256 + ks.getD (a.toNat + 2 * i + 1) 0
theorem dec2_len (ks : List Int) (a n : Int) : (dec2 ks a n).length = n.toNat := by unfold dec2; rw [List.length_map, List.length_range]
theorem dec2_at {ks : List Int} {a n : Int} {i : Nat} (hi : i < n.toNat) (ha : 0 ≤ a) : (dec2 ks a n)[i]? = some (ks.getD (a + (i : Int) * 2).toNat 0 * 256 + ks.getD (a + (i : Int) * 2 + 1).toNat 0) := by
  unfold dec2
  rw [List.getElem?_map, List.getElem?_range hi]
  have e1 : (a + (i : Int) * 2).toNat = a.toNat + 2 * i := by omega
  have e2 : (a + (i : Int) * 2 + 1).toNat = a.toNat + 2 * i + 1 := by omega
  rw [e1, e2]; rfl
theorem ints_snoc0 {ns : List Int} {ys : List Value} {i : Nat} {k : Int} {t : Tok} (hb : IntsAre ys (ns.take i)) (hk : ns[i]? = some k) : IntsAre (ys ++ [.int k t]) (ns.take (i + 1)) := by
  rw [List.take_add_one, hk]
  exact IntsAre.append hb (.cons k t .nil)
theorem off1_ne {D : Addr} {l : List (Addr × Obj)} (h : LCg.Off1 D l) : ∀ q ∈ l, q.1 ≠ D := by
  induction l with
  | nil => intro q hq; cases hq
  | cons p r ih =>
    intro q hq
    rcases List.mem_cons.mp hq with e | hq
    · rw [e]; exact h.1
    · exact ih h.2 q hq
theorem rangeSize_two {a n : Int} (hn : 0 ≤ n) : Builtin.Range.rangeSize a (a + 2 * n) 2 = ((n.toNat : Nat) : Int) := by
  unfold Builtin.Range.rangeSize
  rw [if_pos (by decide)]
  split <;> omega
theorem small_two {a n : Int} (ha : 0 ≤ a) (ha' : a ≤ 3) (hn : 0 ≤ n) (hn' : n ≤ 9) : Builtin.Range.small a (a + 2 * n) 2 = true := by
  unfold Builtin.Range.small
  rw [rangeSize_two hn]
  simp only [Builtin.Range.rangeFitsLong, Bool.and_eq_true, Bool.or_eq_true, decide_eq_true_eq, beq_iff_eq, show (2 : Int) > 0 by decide, if_true]
  omega
end
section
local macro_rules | `(tactic| walk_at "exec Raise some none") => `(tactic| (k_here; (with_reducible show wpAny _ _ (exec (Stmt.Raise (some (Expr.Call (Expr.Name (Str.ofString "CutError") _) _ _ _)) _ _) _) _ _ _); k_dflt (refine' raise_M (cls44 rfl) ?B ?F ?X ?T ?hA ?hf ?hke ?hh ?hdp ?hname ?harg ?_ ?he; (case B => k_asm); (case F => k_asm); (case X => k_asm); (case T => k_asm); (case hA => exact rfl); (case hf => exact rfl); (case hke => exact rfl); (case hh => exact rfl); (case hdp => ktr_room); (case hname => (intro Q' hq'; (refine' nameX_K ?F ?X ?T ?e hq' ?a ?b ?c; (case a => exact rfl); (case b => exact rfl); (case c => decide); (case F => k_asm); (case X => k_asm); (case T => k_asm); (case e => k_is)))); (case he => exact rfl); (case harg => (intro Q' hq'; k_steps; exact hq' _ _))); intro e1' t1' dx' h' tk' kk' kn' ke'))
local macro_rules | `(tactic| walk_at "exec Raise some none") => `(tactic| (k_here; (with_reducible show wpAny _ _ (exec (Stmt.Raise (some (Expr.Call (Expr.Name (Str.ofString "RangeError") _) _ _ _)) _ _) _) _ _ _); k_dflt (refine' raise_M (cls56 rfl) ?B ?F ?X ?T ?hA ?hf ?hke ?hh ?hdp ?hname ?harg ?_ ?he; (case B => k_asm); (case F => k_asm); (case X => k_asm); (case T => k_asm); (case hA => exact rfl); (case hf => exact rfl); (case hke => exact rfl); (case hh => exact rfl); (case hdp => ktr_room); (case hname => (intro Q' hq'; (refine' nameX_K ?F ?X ?T ?e hq' ?a ?b ?c; (case a => exact rfl); (case b => exact rfl); (case c => decide); (case F => k_asm); (case X => k_asm); (case T => k_asm); (case e => k_is)))); (case he => exact rfl); (case harg => (intro Q' hq'; k_steps; exact hq' _ _))); intro e1' t1' dx' h' tk' kk' kn' ke'))
local macro_rules | `(tactic| walk_at "leaving ref") => `(tactic| (k_here; (refine' leave_M (h := ?hh) ?B ?F ?N ?hf ?hke ?kp ?kn ?ke ?hd ?h1 ?h0 ?_; (case kp => assumption); (case kn => assumption); (case ke => assumption); (case B => k_asm); (case F => k_asm); (case N => k_asm); (case hf => exact rfl); (case hke => exact rfl); (case hd => exact rfl); (case h1 => exact rfl); (case h0 => exact rfl); k_whole); intro h' R' U'; (try dsimp only at R' U' ⊢)))
local macro_rules | `(tactic| walk_at "binaryOp Add int int") => `(tactic| ((with_reducible show wpAny _ _ (binaryOp Operator.Add (Value.int _ _) (Value.int (ite _ _ _) _)) _ _ _); simp only [Bool.false_eq_true, if_false, if_true]))
local macro_rules | `(tactic| walk_at "call type:int") => `(tactic| ((with_reducible show wpAny _ _ (call (Value.type "int") [Value.bool _]) _ _ _); (rename (decide _ = _) => hDq); simp only [hDq]))

local macro_rules | `(tactic| walk_at "call type:list") => `(tactic| (k_here; (with_reducible show wpAny _ _ (call (Value.type "list") [Value.bytes _ _]) _ _ _); k_dflt (refine' listBytes_K ?F ?N ?hh ?hk ?hz ?_; (case F => k_asm); (case N => k_asm); (case hh => exact rfl); (case hk => kba_ints); (case hz => kba_size); k_whole); intro D' vs' c' h' tk' F' N' l1' hi'))
local macro_rules | `(tactic| walk_at "until alc") => `(tactic| repeat' ((fail_if_success (with_reducible show wpAny _ _ (exec (Stmt.Assign _ (Expr.ListComp _ _ _ _) _) _) _ _ _)); (first | (k_unfold; (try dsimp only)) | (k_end; wrow_close) | walk1 | (dsimp only; walk1) | (leave1; walk_say "STEP leave1"; try dsimp only) | fail "no step")))
set_option maxHeartbeats 8000000 in
theorem readC2 {w : World} {dp un : Nat} {gd : Option (List Code)} {cn : Str} {cs : Scope} {a : Addr} {ccd : Value} {cl : List (Str × Addr)} {outer : List Env} {A₀ : Around} {base h₀ : Heap} {L : Addr} {m : Str → Option Value} {s : Shared}
    {mean : ExcName → Option Value} {mg mb : Str → Option Value} {news : List (Addr × Obj)} {b : Array UInt8} {t : Tok} {at' many p : Int} {t1 t2 t3 : Tok} {ks : List Int} {Q E : Value → Shared → Prop}
    (B : Below A₀ base outer h₀) (F : Fr h₀ L s.heap m) (X : (hd.heap_39 w.params).In h₀) (N : News h₀ L s.heap news)
    (T : Top hd.view_39 (looseW hd.view_39 []) mean mg mb h₀) (hk : cs.kind = .function) (hdp : dp + 20 < recursionLimit) (hun : un + 100 < cLine)
    (ha0 : 0 ≤ at') (ha1 : at' ≤ 3) (hm0 : 0 ≤ many) (hm1 : many ≤ 9) (hp0 : 9 ≤ p) (hp1 : p ≤ 16) (hks : KBw.bInts b = ks) (hbz : ks.length ≤ 100) (hP : decide (8 < p) = true)
    (retCut : (ks.length : Int) < at' + many * 2 → ∀ e G h' tk', Fr h₀ L G m → RaisedSN base G (envX cn cs L a ccd cl :: outer) e (.ref 44) news h' → G.UpToSlots h' → E (.ref e) { s with heap := h', toks := tk' })
    (retBey : at' + many * 2 ≤ (ks.length : Int) → (dec2 ks at' many).any (fun v => decide (2 ^ p.toNat ≤ v)) = true → ∀ e G h' tk', Fr h₀ L G m → RaisedSN base G (envX cn cs L a ccd cl :: outer) e (.ref 56) news h' → G.UpToSlots h' → E (.ref e) { s with heap := h', toks := tk' })
    (retOk : at' + many * 2 ≤ (ks.length : Int) → (dec2 ks at' many).any (fun v => decide (2 ^ p.toNat ≤ v)) = false → ∀ D vs c h' tk', IntsAre vs (dec2 ks at' many) → Fr h₀ L h' m → News h₀ L h' ((D, listOf vs.toArray c) :: news) → (∀ q ∈ news, q.1 ≠ D) → Q (.ref D) { s with heap := h', toks := tk' }) :
    wpAny (model PySem.Challenge.rw_xm0797_01.row.prog w) (ktrTop dp un gd cn cs L a ccd cl outer) (call (.ref 63) [.bytes b t, .int at' t1, .int many t2, .int p t3]) Q E s := by
  revert X; k_fill; intro X
  refine wpAny_call ?_
  k_dflt (refine' code_defC ?k1 ?k2 ?k3 ?k4 ?k5 ?kA ?kF ?kK ?k6 ?k7 ?k8 ?k9 ?kB ?kD ?_ ?c2 ?c3 ?c4; (case kA => exact rfl); (case kF => exact rfl); (case kK => assumption); (case k1 => k_asm); (case k2 => k_asm); (case k3 => k_asm); (case k4 => k_asm); (case k5 => k_asm); (case k6 => k_is); (case k7 => k_is); (case k8 => ktr_room); (case k9 => exact BindsTo.of_eq rfl); (case kB => exact rfl); (case kD => decide +kernel); (case c2 => exact rfl); (case c3 => exact rfl); (case c4 => exact rfl); k_whole; intro g' L' h' tk' cells' FG' F' N' Y' B' X' T' l1)
  obtain ⟨o1, o2, hE, d1, d2⟩ := CellsAre.two Y'
  subst hE
  clear Y'
  simp only [List.cons_append, List.nil_append] at N'
  have F2 : Fr g' L' h' (fun y => if y = Str.ofString "many" then some (.int many t2) else if y = Str.ofString "at" then some (.int at' t1) else none) := F'
  have e1 : o1.data = .cell (some (.int p t3)) := d1
  have e2 : o2.data = .cell (some (.bytes b t)) := d2
  clear F' d1 d2
  try dsimp only
  k_unmd
  k_fold
  walk_at "until alc"
  · rename_i R1 U1
    refine retCut (by omega) _ _ _ _ FG' (RaisedSN.sub R1 ?_) U1
    exact fun q hq => .tail _ (.tail _ hq)
  k_dflt (refine Assign_ListComp_step (c := 2) (by k_asm) (by rfl) (by with_unfolding_all rfl) (by with_unfolding_all rfl) (by decide) (by rfl) (by decide) (by rfl) (by rfl) (by rfl) ?_)
  walk_at "until call"
  walk1
  try dsimp only
  rename_i a1 hcut a3 RH a4 a5 a6 a7 hr F3 N3 kg
  have hcut' : at' + many * 2 ≤ (ks.length : Int) := by omega
  have hr2 := rangeSize_two (a := at') hm0
  have hr3 := small_two ha0 ha1 hm0 hm1
  refine ⟨_, _, _, _, _, _, many.toNat, _, rfl, rfl, F3, N3, hr, hr3, hr2, by rw [sizeLine_eq]; omega, fun g2 => ?_⟩
  refine rest_inv (fun i ys nw => nw = ((L' + 1 + 1, o1) :: (L' + 1, o2) :: news) ∧ IntsAre ys ((dec2 ks at' many).take i)) ⟨rfl, by simp only [List.take_zero]; exact .nil⟩ ?_ ?_
  · rintro i ys nw v I oI C oC D2 m₂ h2 tk2 E' hin ⟨rfl, hbs⟩ ⟨t', rfl⟩ hC2 hx F3 N3 off ne
    dsimp only
    have hin' : i < many.toNat := hin
    have b0 : 0 ≤ at' + (i : Int) * 2 := by omega
    have b1 : at' + (i : Int) * 2 < (ks.length : Int) := by omega
    have b2 : 0 ≤ at' + (i : Int) * 2 + 1 := by omega
    have b3 : at' + (i : Int) * 2 + 1 < (ks.length : Int) := by omega
    walk_at "until compend"
    refine LCg.CompEnd.intro F3 N3 _ (fun _ h => h) off trivial ⟨rfl, ?_⟩
    exact ints_snoc0 hbs (dec2_at hin' ha0)
  · rintro ys nw ⟨rfl, hbs⟩
    unfold LCg.FinA
    intro D h tk F4 N4 o1'
    dsimp only
    rw [show List.take many.toNat (dec2 ks at' many) = dec2 ks at' many from by rw [← dec2_len ks at' many, List.take_length]] at hbs
    have hlv := hbs.length
    rw [dec2_len] at hlv
    walk_at "until comp"
    k_dflt (refine LCg.ListComp_U (F₀ := by k_asm) (by with_unfolding_all rfl) (by decide) (by rfl) (by decide) (by rfl) ?_)
    walk1
    rename_i hi2
    have hlen : ys.length ≤ 9 := by omega
    refine LCg.CompSrc.ledger (by rfl) F4 N4 (List.Mem.head _) (by rw [List.size_toArray, sizeLine_eq]; omega) ?_
    intro g3
    refine rest_inv (fun i zs nw => nw = ((D, LCg.lst ys) :: (L' + 1 + 1, o1) :: (L' + 1, o2) :: news) ∧ LSm.BoolsAre zs (((dec2 ks at' many).take i).map (fun v => decide (2 ^ p.toNat ≤ v)))) ⟨rfl, by simp only [List.take_zero, List.map_nil]; exact .nil⟩ ?_ ?_
    · rintro i zs nw v I oI C oC D2 m₂ h2 tk2 E' hin ⟨rfl, hbz⟩ hP hC2 hx F3 N3 off ne
      obtain ⟨k, t, e, hk⟩ := IntsAre.at hbs i v (by simpa using hP)
      subst e
      dsimp only
      walk_at "until compend"
      refine LCg.CompEnd.intro F3 N3 _ (fun _ h => h) off ?_ ⟨rfl, ?_⟩
      · exact Or.inr ⟨_, List.Mem.head _, rfl, _, rfl⟩
      · exact bools_snoc hbz hk
    · rintro zs nw ⟨rfl, hbz⟩
      unfold LCg.FinE
      intro D3 h3 tk3 F4 N4 o3
      have hfull : (dec2 ks at' many).take ys.toArray.size = dec2 ks at' many := by rw [List.size_toArray, hlv, ← dec2_len ks at' many, List.take_length]
      rw [hfull] at hbz
      dsimp only
      walk_at "until any"
      k_unmd
      k_dflt (refine LSm.any_bools (by k_asm) (by k_asm) (by rfl) (News.isList (by k_asm) (by k_mem)) hbz ?_)
      intro h5 tk5 F5 N5
      rw [List.any_map]
      by_cases hany : (dec2 ks at' many).any (fun v => decide (2 ^ p.toNat ≤ v)) = true
      · have hany' : ((dec2 ks at' many).any (id ∘ fun v => decide (2 ^ p.toNat ≤ v))) = true := hany
        rw [hany']
        k_steps
        walk_at "leaving ref"
        rename_i R1 U1
        refine retBey hcut' hany _ _ _ _ FG' (RaisedSN.sub R1 ?_) U1
        exact fun q hq => .tail _ (.tail _ (.tail _ (.tail _ hq)))
      · have hany2 : (dec2 ks at' many).any (fun v => decide (2 ^ p.toNat ≤ v)) = false := by simpa using hany
        have hany' : ((dec2 ks at' many).any (id ∘ fun v => decide (2 ^ p.toNat ≤ v))) = false := hany2
        rw [hany']
        k_steps
        rename_i kF kN _ _
        exact retOk hcut' hany2 D ys _ _ _ hbs kF (fun q hq => kN q (by
          rcases List.mem_cons.mp hq with rfl | hq
          · exact .tail _ (.head _)
          · exact .tail _ (.tail _ (.tail _ (.tail _ hq))))) (fun q hq => off1_ne o1' q (.tail _ (.tail _ hq)))
end
end Mine
end

section
open PySem PySem.W PyProof.Rows PySem.Calls
set_option maxRecDepth 100000
namespace Mine
section
variable {prog : Program} {w : World} {A₀ A : Around} {s : Shared} {base h₀ : Heap} {env : Env} {L : Addr} {m : Str → Option Value} {news : List (Addr × Obj)} {K : Frag} {p : Program} {loose : List Str} {mean : ExcName → Option Value} {mg mb : Str → Option Value}
    {R : Result → Shared → Prop} {name qual : Str} {params : Arguments} {body : List Stmt} {scope : Scope} {dV kV doc pm cdv ct oc : Value} {an od : Option Addr} {osl : Array (Option Value)} {f : Addr} {args : Args} {binds : List (Str × Value)}
/-- entering a def from a frame that may hold cells, whose slots a caught exception may change -/
theorem code_defX0 (B : Below A₀ base [] h₀) (F : Fr h₀ L s.heap m) (X₀ : K.In h₀) (N : News h₀ L s.heap news) (T : Top p loose mean mg mb h₀) (hA : A.frames = some [env]) (hf : env.frame = some L) (hke : env.scope.kind = .function)
    (ho : K.lookup f = some ⟨oc, od, .func (fnOf name qual params body scope dV kV doc pm an cdv ct), osl⟩) (hcd : codeIn K cdv qual = true) (hroom : A.depth < recursionLimit)
    (hbind : BindsTo s (fnOf name qual params body scope dV kV doc pm an cdv ct) args binds) (hloc : ∀ y ∈ binds, scope.names.lookup y.1 = some .local)
    (h : ∀ g L' h₁, Fr h₀ L g m → Fr g L' h₁ (fun y => binds.reverse.lookup y) → News g L' h₁ news → Below A base [env] g → K.In g → Top p loose mean mg mb g → KtsDicts ([env].filterMap (·.frame)) g →
      wpAny (model prog w) (A.deeper (envOf qual scope L' f cdv)) (execs body (envOf qual scope L' f cdv))
        (fun fl s' => LeaveS0 ([env].filterMap (·.frame)) h₀ L m g R (match fl with | .ret v => v | _ => .none) s')
        (fun e s' => wpAny (model prog w) (A.deeper (envOf qual scope L' f cdv)) (leaving (envOf qual scope L' f cdv) e) (fun _ s'' => R (.error e) s'') (fun e' s'' => R (.error e') s'') s')
        { s with heap := h₁, toks := s.toks + binds.length })
    (hco : scope.isCoroutine = false) (hgen : scope.isGenerator = false) (hk : scope.kind = .function)
    (hcell : ∀ x ∈ scope.names, x.2 ≠ .cell) : codeAny (model prog w) A (.call (.ref f) args) R s := by
  obtain ⟨FG, B₂, st, _⟩ := groundX (R := R) B F N hA hf hke
  obtain ⟨⟨oL, es, ep, hLg, hLd, hLk, hLf⟩, _, _⟩ := FG
  have only : ∀ b, b ∈ [env].filterMap (·.frame) → b = L := fun b hb => by
    simp only [List.filterMap_cons, hf, List.filterMap_nil, List.mem_singleton] at hb
    exact hb
  refine codeAny_call_def (fd := fnOf name qual params body scope dV kV doc pm an cdv ct) (body := body) (binds := binds) hroom ((X₀.keeps F.keep) _ _ ho) rfl (T.nolimit.keeps F.keep) (codeRec_of (X₀.keeps F.keep) hcd) rfl hbind hcell hloc (fun h₁ hns hk₁ => ?_) hco hgen hk
  refine wpAny_mono (h _ s.heap.objs.size h₁ ⟨⟨oL, es, ep, hLg, hLd, hLk, hLf⟩, st, F.above⟩ ⟨hns, fun b o e => hk₁ b o (of_hideAll _ e), Nat.le_of_eq (hideAll_size _ _)⟩
    (fun p hp => ⟨hk₁ _ _ (N p hp).1, Nat.ne_of_lt (Heap.lt_size (N p hp).1), hideAll_none _ (List.mem_map_of_mem hp)⟩) B₂ (X₀.keeps st) (T.keeps st) (fun b hb => by
      rw [only b hb]; exact ⟨oL, es, ep, hLg, hLd⟩)) (fun fl s' hl => ?_) fun _ _ y => y
  obtain ⟨g', L', m', news', T', F', N', k⟩ := hl
  have nL₀ : h₀.get? L = none := kts_self F
  obtain ⟨sl, hs⟩ := T'.up hLg
  refine k ⟨⟨_, es, ep, F'.keep _ _ hs, hLd, hLk, hLf⟩, fun b o e => F'.keep b o (T'.other b o (st b o e) (fun q => by
    rw [only b q, nL₀] at e; cases e)), F.above⟩ fun p hp => ⟨(N' p hp).1, fun q => ?_, ?_⟩
  · have := (N' p hp).2.2; rw [q, hs] at this; cases this
  · cases q : h₀.get? p.1 with
    | none => rfl
    | some o =>
      obtain ⟨sl', hs'⟩ := T'.up (st _ _ q)
      have := (N' p hp).2.2
      rw [hs'] at this
      cases this
end
end Mine
end

section
open PySem PySem.W PyProof.Rows PySem.Calls
set_option maxRecDepth 100000
namespace Mine
local macro_rules | `(tactic| walk_at "until comp") => `(tactic| repeat' ((fail_if_success (with_reducible show wpAny _ _ (eval (Expr.ListComp _ _ _ _) _) _ _ _)); (first | (k_unfold; (try dsimp only)) | (k_end; wrow_close) | walk1 | (dsimp only; walk1) | (leave1; walk_say "STEP leave1"; try dsimp only) | fail "no step")))
local macro_rules | `(tactic| walk_at "until call") => `(tactic| repeat' ((fail_if_success (with_reducible show wpAny _ _ (call _ _) _ _ _)); (first | (k_unfold; (try dsimp only)) | (k_end; wrow_close) | walk1 | (dsimp only; walk1) | (leave1; walk_say "STEP leave1"; try dsimp only) | fail "no step")))
local macro_rules | `(tactic| walk_at "until any") => `(tactic| repeat' ((fail_if_success (with_reducible show wpAny _ _ (call (Value.builtin "any") _) _ _ _)); (first | (k_unfold; (try dsimp only)) | (k_end; wrow_close) | walk1 | (dsimp only; walk1) | (leave1; walk_say "STEP leave1"; try dsimp only) | fail "no step")))
local macro_rules | `(tactic| walk_at "until compend") => `(tactic| repeat' ((fail_if_success (with_reducible show LCg.CompEnd _ _ _ _ _ _ _ _ _ _ _ _ _ _)); (first | (k_unfold; (try dsimp only)) | (k_end; wrow_close) | walk1 | (dsimp only; walk1) | (leave1; walk_say "STEP leave1"; try dsimp only) | fail "no step")))
section
def szP (p : Int) : Int := if 8 < p then 2 else 1
def decP (p : Int) (ks : List Int) (a n : Int) : List Int := if 8 < p then dec2 ks a n else dec1 ks a n
def beyP (p : Int) (l : List Int) : Bool := l.any (fun v => decide (2 ^ p.toNat ≤ v))
end
section
set_option maxHeartbeats 8000000 in
theorem told {w : World} {dp un : Nat} {gd : Option (List Code)} {cn : Str} {cs : Scope} {a : Addr} {ccd : Value} {cl : List (Str × Addr)} {A₀ : Around} {base h₀ : Heap} {L : Addr} {m : Str → Option Value} {s : Shared}
    {mean : ExcName → Option Value} {mg mb : Str → Option Value} {news : List (Addr × Obj)} {b : Array UInt8} {t : Tok} {at' many p : Int} {t1 t2 t3 : Tok} {ks : List Int} {Q E : Value → Shared → Prop}
    (B : Below A₀ base [] h₀) (F : Fr h₀ L s.heap m) (X : (hd.heap_39 w.params).In h₀) (N : News h₀ L s.heap news)
    (T : Top hd.view_39 (looseW hd.view_39 []) mean mg mb h₀) (XB : (hd.heap_39 w.params).In base) (TB : Top hd.view_39 (looseW hd.view_39 []) mean mg mb base)
    (hk : cs.kind = .function) (hdp : dp + 40 < recursionLimit) (hun : un + 200 < cLine)
    (ha0 : 0 ≤ at') (ha1 : at' ≤ 3) (hm0 : 0 ≤ many) (hm1 : many ≤ 9) (hp0 : 2 ≤ p) (hp1 : p ≤ 16) (hks : KBw.bInts b = ks) (hbz : ks.length ≤ 100)
    (retCut : (ks.length : Int) < at' + many * szP p → ∀ t h' tk', Fr h₀ L h' m → News h₀ L h' news → Q (.str (Str.ofString "cut") t) { s with heap := h', toks := tk' })
    (retBey : at' + many * szP p ≤ (ks.length : Int) → beyP p (decP p ks at' many) = true → ∀ t h' tk', Fr h₀ L h' m → News h₀ L h' news → Q (.str (Str.ofString "beyond") t) { s with heap := h', toks := tk' })
    (retOk : at' + many * szP p ≤ (ks.length : Int) → beyP p (decP p ks at' many) = false → ∀ D vs c h' tk', IntsAre vs (decP p ks at' many) → Fr h₀ L h' m → News h₀ L h' ((D, listOf vs.toArray c) :: news) → (∀ q ∈ news, q.1 ≠ D) → Q (.ref D) { s with heap := h', toks := tk' }) :
    wpAny (model PySem.Challenge.rw_xm0797_01.row.prog w) (ktrTop dp un gd cn cs L a ccd cl []) (call (.ref 84) [.bytes b t, .int at' t1, .int many t2, .int p t3]) Q E s := by
  revert X XB; k_fill; intro X XB
  refine wpAny_call ?_
  k_dflt (refine' code_defX0 ?k1 ?k2 ?k3 ?k4 ?k5 ?kA ?kF ?kK ?k6 ?k7 ?k8 ?k9 ?kB ?_ ?c2 ?c3 ?c4 ?c5; (case kA => exact rfl); (case kF => exact rfl); (case kK => assumption); (case k1 => k_asm); (case k2 => k_asm); (case k3 => k_asm); (case k4 => k_asm); (case k5 => k_asm); (case k6 => k_is); (case k7 => k_is); (case k8 => ktr_room); (case k9 => exact BindsTo.of_eq rfl); (case c5 => decide); (case kB => exact locs rfl); (case c2 => exact rfl); (case c3 => exact rfl); (case c4 => exact rfl); k_whole; intro g' L' h' FG' F' N' B' X' T' D'; (try dsimp only); (try k_fold))
  walk_at "until call"
  rcases Int.lt_or_le 8 p with h8 | h8
  · have e1 : szP p = 2 := if_pos h8
    have e2 : decP p ks at' many = dec2 ks at' many := if_pos h8
    rw [e1] at retCut
    rw [e1, e2] at retBey retOk
    
    refine readC2 (outer := [envX cn cs L a ccd cl]) (cn := Str.ofString "_law_told") (cl := []) (gd := gd) (dp := dp + 1) (un := un + 3) B' F' X' N' T' rfl (by omega) (by omega) ha0 ha1 hm0 hm1 (by omega) (by omega) hks hbz (decide_eq_true h8) ?_ ?_ ?_
    · intro hc e G h1 tk1 FG R U
      have R1 : RaisedSN base G (_ :: [envX cn cs L a ccd cl]) e (.ref 44) news h1 := R
      have ret := retCut hc
      clear F' N' retCut retBey retOk hks hbz
      dsimp only
      k_steps
      exact ret _ _ _ (by assumption) (by assumption)
    · intro hc hb e G h1 tk1 FG R U
      have R1 : RaisedSN base G (_ :: [envX cn cs L a ccd cl]) e (.ref 56) news h1 := R
      have ret := retBey hc hb
      clear F' N' retCut retBey retOk hks hbz
      dsimp only
      k_steps
      exact ret _ _ _ (by assumption) (by assumption)
    · intro hc hb D vs c h1 tk1 hi FG N1 hne
      have ret := retOk hc hb D vs c
      clear F' N' retCut retBey retOk hks hbz
      dsimp only
      k_steps
      exact ret _ _ hi (by assumption) (by assumption) hne
  · have e1 : szP p = 1 := if_neg (by omega)
    have e2 : decP p ks at' many = dec1 ks at' many := if_neg (by omega)
    rw [e1] at retCut
    rw [e1, e2] at retBey retOk
    rw [Int.mul_one] at retCut retBey retOk
    refine readC1 (outer := [envX cn cs L a ccd cl]) (cn := Str.ofString "_law_told") (cl := []) (gd := gd) (dp := dp + 1) (un := un + 3) B' F' X' N' T' rfl (by omega) (by omega) ha0 ha1 hm0 hm1 (by omega) (by omega) hks hbz (decide_eq_false (by omega)) ?_ ?_ ?_
    · intro hc e G h1 tk1 FG R U
      have R1 : RaisedSN base G (_ :: [envX cn cs L a ccd cl]) e (.ref 44) news h1 := R
      have ret := retCut hc
      clear F' N' retCut retBey retOk hks hbz
      dsimp only
      k_steps
      exact ret _ _ _ (by assumption) (by assumption)
    · intro hc hb e G h1 tk1 FG R U
      have R1 : RaisedSN base G (_ :: [envX cn cs L a ccd cl]) e (.ref 56) news h1 := R
      have ret := retBey hc hb
      clear F' N' retCut retBey retOk hks hbz
      dsimp only
      k_steps
      exact ret _ _ _ (by assumption) (by assumption)
    · intro hc hb D vs c h1 tk1 hi FG N1 hne
      have ret := retOk hc hb D vs c
      clear F' N' retCut retBey retOk hks hbz
      dsimp only
      k_steps
      exact ret _ _ hi (by assumption) (by assumption) hne
end
end Mine
end

section
open PySem PySem.W PyProof.Rows PySem.Calls
set_option maxRecDepth 100000
namespace Mine
section
theorem pailN {w : World} {dp un : Nat} {gd : Option (List Code)} {cn : Str} {cs : Scope} {a : Addr} {ccd : Value} {cl : List (Str × Addr)} {outer : List Env} {A₀ : Around} {base h₀ : Heap} {L : Addr} {m : Str → Option Value} {s : Shared}
    {mean : ExcName → Option Value} {mg mb : Str → Option Value} {aw : Addr} {wa wb n : Int} {ta tb tn : Tok} {c : Nat} {Q E : Value → Shared → Prop} {news : List (Addr × Obj)} {g : Obj → List (Addr × Obj)}
    (B : Below A₀ base outer h₀) (F : Fr h₀ L s.heap m) (X : (hd.heap_39 w.params).In h₀) (N : News h₀ L s.heap news) (U : UpdF aw (wellObj wa ta wb tb c) news g)
    (T : Top hd.view_39 (looseW hd.view_39 []) mean mg mb h₀) (hk : cs.kind = .function) (hdp : dp + 5 < recursionLimit) (hun : un + 50 < cLine)
    (hwa : 0 ≤ wa) (hwb : 0 ≤ wb) (hwb2 : wb < 100000) (hn : 0 < n) (hn2 : n ≤ 65536)
    (ret : ∀ told tt wa' ta' wb' tb' h' tk', 0 ≤ told → told < n → 0 ≤ wa' → 0 ≤ wb' → wb' < 100000 → Fr h₀ L h' m → News h₀ L h' (g (wellObj wa' ta' wb' tb' c)) → Q (.int told tt) { s with heap := h', toks := tk' }) :
    wpAny (model PySem.Challenge.rw_xm0797_01.row.prog w) (ktrTop dp un gd cn cs L a ccd cl outer) (call (.ref 77) [.ref aw, .int n tn]) Q E s := by
  obtain ⟨pre, post, e, _, _, _⟩ := U.split
  have M : (aw, wellObj wa ta wb tb c) ∈ news := by rw [e]; simp
  have D := N _ M
  refine pail B F X (fun p hp => by rw [List.mem_singleton.mp hp]; exact D) T hk hdp hun hwa hwb hwb2 hn hn2 ?_
  intro told tt wa' ta' wb' tb' h' tk' h0 h1 h2 h3 h4 k ho
  exact ret _ _ _ _ _ _ _ _ h0 h1 h2 h3 h4 (fr_keepBut F k D.2.1 D.2.2) (news_keepBut N U k ho)
end
section
variable {prog : Program} {w : World} {A : Around} {E : Value → Shared → Prop} {s : Shared} {env : Env} {h₀ : Heap} {x : Str} {body : List Stmt} {Q : Flow → Shared → Prop}
/-- a loop over a range by an invariant over the names and the ledger -/
theorem rangeRest_inv {I : Addr} {a : Int} {n : Nat} (J : (Str → Option Value) → List (Addr × Obj) → Prop)
    (turn : ∀ (i : Nat) m news t h tk it, J m news → (∀ p ∈ news, p.1 ≠ I) → Fr h₀ env.locals h (fun y => if y = x then some (.int (a + (i : Int)) t) else m y) → News h₀ env.locals h ((I, it) :: news) →
      wpAny (model prog w) A (execs body env) (UnrPost h₀ env.locals { s with heap := h, toks := tk } I it (fun m' news' => J m' news' ∧ ∀ p ∈ news', p.1 ≠ I) Q) E { s with heap := h, toks := tk })
    (fin : ∀ m news h tk, J m news → Fr h₀ env.locals h m → News h₀ env.locals h news → Q .next { s with heap := h, toks := tk })
    (k i : Nat) (m : Str → Option Value) (news : List (Addr × Obj)) (h0 : J m news) (off : ∀ p ∈ news, p.1 ≠ I) : RangeRest prog w A E h₀ env x body Q s I a n k i m news := by
  induction k generalizing i m news with
  | zero => exact RangeRest.zero fun h tk F N => fin m news h tk h0 F N
  | succ k ih =>
    refine RangeRest.succ fun t h tk F N => ?_
    refine wpAny_mono (turn i m news t h tk _ h0 off F N) (fun f s₂ p => ?_) fun _ _ e => e
    have fin' : ∀ {s₂}, UnrEnd h₀ env.locals { s with heap := h, toks := tk } I (itR (a + ((i + 1 : Nat) : Int)) ((n : Int) - ((i + 1 : Nat) : Int))) (fun m' news' => J m' news' ∧ ∀ p ∈ news', p.1 ≠ I) s₂ →
        UnrEnd h₀ env.locals { s with heap := h, toks := tk } I (itR (a + ((i + 1 : Nat) : Int)) ((n : Int) - ((i + 1 : Nat) : Int))) (RangeRest prog w A E h₀ env x body Q s I a n k (i + 1)) s₂ := by
      rintro s₂ ⟨h', tk', m', news', e, F', N', ho, hJ, hoff⟩
      exact ⟨h', tk', m', news', e, F', N', ho, ih (i + 1) m' news' hJ hoff⟩
    cases f with
    | ret v => exact p
    | brk => exact p
    | next => exact fin' p
    | cont => exact fin' p
end
end Mine
end

section
open PySem PySem.W PyProof.Rows PySem.Calls
set_option maxRecDepth 100000
namespace Mine
namespace J
open PySem.Builtin
theorem slot : Slot "bytes" "join" "bytes.join" :=
  .of (owner := "bytes") (n := "join") (by rw [typeLookup_type, builtinLookup_eq_fast]; kernel_rfl) (by decide +kernel) (by decide +kernel) (by decide +kernel)
    (by first | exact .inl (by decide +kernel) | exact .inr (by decide +kernel)) (by rw [isSubtype_type]; kernel_rfl)
theorem type_eq : typeOf (.builtin "bytes.join") = pure (.type "method_descriptor") := by show builtinType _ = _; rw [builtinType_eq_fast]; kernel_rfl
theorem entry : entryFor table "bytes.join" = some Builtin.«bytes.join» := entryFor_of_fast (by kernel_rfl)
theorem args (a b : Value) : argsOk "bytes.join" ⟨[a, b], []⟩ := by unfold argsOk; kernel_rfl
theorem method {M : Model} {A : Around} {E : Value → Shared → Prop} {s : Shared} {t : Tok} {b : Array UInt8} {pl : Sem Bool} {Q : Value × List Value → Shared → Prop} (h : Q (.builtin "bytes.join", [.bytes b t]) s) : wpAny M A (getMethod (.bytes b t) (Str.ofString "join") pl) Q E s := by
  with_reducible exact KBd.method_of (.bytes b t) (typeIs_bytes _ _ _) slot type_eq KBd.noRef h
inductive BytesAre : List Value → List (Array UInt8) → Prop
  | nil : BytesAre [] []
  | cons {b t vs bs} : BytesAre vs bs → BytesAre (.bytes b t :: vs) (b :: bs)
theorem BytesAre.snoc {vs : List Value} {bs : List (Array UInt8)} {b : Array UInt8} {t : Tok} (h : BytesAre vs bs) : BytesAre (vs ++ [.bytes b t]) (bs ++ [b]) := by
  induction h with
  | nil => exact .cons .nil
  | cons _ ih => exact .cons ih
theorem BytesAre.length {vs : List Value} {bs : List (Array UInt8)} (h : BytesAre vs bs) : vs.length = bs.length := by
  induction h with
  | nil => rfl
  | cons _ ih => simp [ih]
theorem BytesAre.at {vs : List Value} {bs : List (Array UInt8)} (h : BytesAre vs bs) {i : Nat} (hi : i < vs.length) : ∃ b t, vs[i]? = some (.bytes b t) ∧ bs[i]? = some b := by
  induction h generalizing i with
  | nil => simp at hi
  | cons _ ih =>
    cases i with
    | zero => exact ⟨_, _, rfl, rfl⟩
    | succ i => simpa using ih (by simpa using hi)
theorem take_eq {b : Array UInt8} {t : Tok} {id : String} : Bytes.takeBuffer? id (.bytes b t) 0 = pure (some (b, none)) := by
  unfold Bytes.takeBuffer?
  have e0 : ((0 : Int) == Bytes.fullReadOnly) = false := by decide +kernel
  rw [KBy.special_eq KBy.look_buffer, KBy.own_buffer, e0, KBy.buffer_eq]
  kernel_rfl
theorem quiet_eq {b : Array UInt8} {t : Tok} {id : String} : Bytes.takeBufferQuiet? id (.bytes b t) 0 = pure (some (b, none)) := by
  unfold Bytes.takeBufferQuiet?
  rw [take_eq]
  rfl
theorem joined_ints (ps : List (Array UInt8)) : KBw.bInts (Bytes.joined #[] ps) = (ps.map KBw.bInts).flatten := by
  have gen : ∀ (ps : List (Array UInt8)) (k : Nat) (out : Array UInt8), KBw.bInts ((ps.zipIdx k).foldl (fun out (x : Array UInt8 × Nat) => (if x.2 > 0 then out ++ #[] else out) ++ x.1) out) = KBw.bInts out ++ (ps.map KBw.bInts).flatten := by
    intro ps
    induction ps with
    | nil => intro k out; simp
    | cons p r ih =>
      intro k out
      rw [List.zipIdx_cons, List.foldl_cons, ih]
      have e : (if k > 0 then out ++ #[] else out) = out := by split <;> simp
      show KBw.bInts ((if k > 0 then out ++ #[] else out) ++ p) ++ _ = _
      rw [e, KBw.ints_app rfl rfl]
      simp
  have := gen ps 0 #[]
  have e0 : KBw.bInts #[] = [] := rfl
  rw [e0, List.nil_append] at this
  exact this
/-- what was taken of the list so far: bytes, no view behind them -/
inductive Taken : List Value → List (Value × Option Value) → Prop
  | nil : Taken [] []
  | cons {v vs ts} : Taken vs ts → Taken (v :: vs) ((v, none) :: ts)
theorem letgo {M : Model} {A : Around} {E : Value → Shared → Prop} {s : Shared} {Q : Unit → Shared → Prop} (h : Q () s) (ts : List (Value × Option Value)) (keep : List Value) (hn : ∀ p ∈ ts, p.2 = none) : wpAny M A (Bytes.joinLetGo ts keep) Q E s := by
  induction ts with
  | nil => exact wpAny_pure h
  | cons p r ih =>
    obtain ⟨x, w⟩ := p
    obtain rfl : w = none := hn (x, w) (.head _)
    unfold Bytes.joinLetGo
    refine wpAny_bind (wpAny_letGo ?_)
    exact ih fun q hq => hn q (.tail _ hq)
theorem isList_typeIs {s : Shared} {D : Addr} {xs : Array Value} (h : s.heap.IsList D xs) : s.TypeIs (.ref D) "list" := by
  obtain ⟨o, h1, h2, _⟩ := h
  exact ⟨o, h1, h2⟩
theorem m1 {α : Sort _} (items : Array Value) (h1 : (x : Value) → α) (h2 : (x : Array Value) → α) (hne : items.size ≠ 1) : Bytes.joinM.match_1 (motive := fun _ => α) items h1 h2 = h2 items := by
  obtain ⟨l⟩ := items
  match l, hne with
  | [], _ => rfl
  | [_], h => exact absurd rfl h
  | _ :: _ :: _, _ => rfl
section
variable {prog : Program} {w : World} {A : Around} {E : Value → Shared → Prop} {s : Shared} {D : Addr} {vs : List Value} {bs : List (Array UInt8)} {t : Tok}
theorem join_K {Q : Value → Shared → Prop} (hl : s.heap.IsList D vs.toArray) (hb : BytesAre vs bs) (hsz : (bs.map KBw.bInts).flatten.length ≤ 1000)
    (h : ∀ ob t' k, KBw.bInts ob = (bs.map KBw.bInts).flatten → Q (.bytes ob t') { s with toks := k }) :
    wpAny (model prog w) A (call (.builtin "bytes.join") [.bytes #[] t, .ref D]) Q E s := by
  refine wpAny_call_entry slot (typeIs_bytes _ _ _) entry ?_ (args _ _)
  show wpAny _ _ (Builtin.Bytes.joinM .bytes ⟨[.bytes #[] t, .ref D], []⟩) _ _ s
  unfold Builtin.Bytes.joinM
  refine wpAny_bind (wpAny_of_eq (a := (Value.bytes #[] t, Value.ref D)) rfl ?_)
  obtain ⟨oD, hD, hDc, nD, hDd⟩ := hl
  refine wpAny_ite_true (by decide) ?_
  refine wpAny_bind ?_
  unfold Bytes.joinItems
  refine wpAny_bind (wpAny_typeOf (T := "list") ⟨oD, hD, hDc⟩ ?_)
  refine wpAny_ite_true (by decide) ?_
  refine wpAny_pure ?_
  refine wpAny_bind (wpAny_seqItems hD hDd ?_)
  dsimp only
  refine wpAny_ite_true (by decide) ?_
  by_cases hone : ∃ b t, vs = [.bytes b t]
  · obtain ⟨b, t', rfl⟩ := hone
    obtain rfl : bs = [b] := by
      cases hb with | cons h' => cases h'; rfl
    change wpAny _ _ (typeOf (Value.bytes b t') >>= _) _ _ _
    refine wpAny_bind (wpAny_typeOf (typeIs_bytes _ _ _) ?_)
    refine wpAny_ite_true (by decide) ?_
    exact wpAny_bind (wpAny_rule (wpAny_pure ⟨_, rfl, h b t' s.toks (by simp)⟩))
  · have hne : vs.toArray.size ≠ 1 := by
      cases hb with
      | nil => simp
      | cons h1 =>
        cases h1 with
        | nil => exact absurd ⟨_, _, rfl⟩ hone
        | cons h2 => simp
    rw [m1 _ _ _ hne]
    refine wpAny_bind ?_
    rw [Std.Legacy.Range.forIn_eq_forIn_range']
    simp only [Std.Legacy.Range.size, Nat.sub_zero, Nat.add_sub_cancel, Nat.div_one]
    refine wpAny_forIn_list _
      (fun rest' r s' => s' = s ∧ ∃ i, rest' = List.range' i (vs.toArray.size - i) ∧ i ≤ vs.toArray.size ∧ r.1 = (bs.take i).toArray ∧ ∀ p ∈ r.2, p.2 = none ∧ p.1.onHeap = false)
      _ ?_ ?_ _ _ ⟨rfl, 0, by simp, Nat.zero_le _, rfl, fun p hp => nomatch hp⟩
    · rintro x rest' ⟨parts, taken⟩ _ ⟨rfl, i, hr, hi, hp, ht⟩
      have hp : parts = (bs.take i).toArray := hp
      have ht : ∀ p ∈ taken, p.2 = none ∧ p.1.onHeap = false := ht
      have hlt : i < vs.toArray.size := by
        rcases Nat.lt_or_ge i vs.toArray.size with h | h
        · exact h
        · rw [Nat.sub_eq_zero_of_le h] at hr; simp at hr
      obtain ⟨rfl, hrest⟩ : x = i ∧ rest' = List.range' (i + 1) (vs.toArray.size - (i + 1)) := by
        have e : vs.toArray.size - i = (vs.toArray.size - (i + 1)) + 1 := by omega
        rw [e, List.range'_succ] at hr
        injection hr with h1 h2
        exact ⟨h1, h2⟩
      refine wpAny_bind (wpAny_seqItems hD hDd ?_)
      have hany : (taken.any fun x => x.1.onHeap) = false := by
        rw [List.any_eq_false]; intro q hq; rw [(ht q hq).2]; simp
      refine wpAny_ite_false (decide_eq_false (by show ¬ ((Bytes.Kind.bytes == Bytes.Kind.bytearray || taken.any fun x => x.1.onHeap) = true); rw [hany]; decide)) ?_
      have hlv : x < vs.length := by simpa using hlt
      obtain ⟨b, tb, hv, hbx⟩ := hb.at hlv
      have hgd : vs.toArray.getD x Value.none = .bytes b tb := by simp [hv]
      rw [hgd]
      refine wpAny_bind (wpAny_holding (wpAny_of_eq quiet_eq ?_))
      refine wpAny_bind (wpAny_seqItems hD hDd ?_)
      refine wpAny_ite_false (by simp) ?_
      refine wpAny_pure ⟨rfl, x + 1, hrest, hlt, ?_, ?_⟩
      · show parts.push b = _
        rw [hp, List.take_add_one, hbx]; simp
      · intro q hq
        have hq : q ∈ taken ++ [(Value.bytes b tb, none)] := hq
        rcases List.mem_append.mp hq with hq | hq
        · exact ht q hq
        · rw [List.mem_singleton.mp hq]; exact ⟨rfl, rfl⟩
    · rintro ⟨parts, taken⟩ _ ⟨rfl, i, hr, hi, hp, ht⟩
      have hp : parts = (bs.take i).toArray := hp
      have ht : ∀ p ∈ taken, p.2 = none ∧ p.1.onHeap = false := ht
      have hn : i = vs.length := by
        have : vs.toArray.size - i = 0 := by
          cases q : vs.toArray.size - i with
          | zero => rfl
          | succ k => rw [q, List.range'_succ] at hr; cases hr
        simp at this hi; omega
      have hps : parts.toList = bs := by rw [hp, hn, hb.length, List.take_length]
      refine wpAny_bind (wpAny_of_eq (a := (#[] : Array UInt8)) rfl ?_)
      have hfold : ∀ (l : List (Array UInt8)) (a : Nat), l.foldl (fun x y => x + y.size) a = a + (l.map KBw.bInts).flatten.length := by
        intro l
        induction l with
        | nil => intro a; rfl
        | cons c r ih =>
          intro a
          rw [List.foldl_cons, ih, List.map_cons, List.flatten_cons, List.length_append, KBw.ints_length, Nat.add_assoc]
      have hl2 : Bytes.tooLong (Array.foldl (fun x y => x + y.size) ((#[] : Array UInt8).size * (parts.size - 1)) parts) = false := by
        refine KBy.tooLong_not ?_
        rw [← Array.foldl_toList, hps, hfold, show (#[] : Array UInt8).size = 0 from rfl, Nat.zero_mul, Nat.zero_add]
        omega
      refine wpAny_ite_false (decide_eq_false (by show ¬ (Bytes.tooLong (Array.foldl (fun x y => x + y.size) ((#[] : Array UInt8).size * (parts.size - 1)) parts) = true); rw [hl2]; decide)) ?_
      have hj : KBw.bInts (Bytes.joined #[] parts.toList) = (bs.map KBw.bInts).flatten := by rw [joined_ints, hps]
      refine wpAny_bind (wpAny_mkBytes ?_ (by show (Bytes.joined #[] parts.toList).size ≤ sizeLine; rw [← KBw.ints_length, hj, sizeLine_eq]; omega))
      refine wpAny_bind (wpAny_holding (wpAny_point ?_))
      refine wpAny_bind (letgo ?_ taken _ fun q hq => (ht q hq).1)
      exact wpAny_pure ⟨_, rfl, h _ _ _ hj⟩
end
section
variable {prog : Program} {w : World} {A : Around} {E : Value → Shared → Prop} {s : Shared} {D : Addr} {vs : List Value} {bs : List (Array UInt8)} {t u v : Tok} {ks : List Int} {x sz : Int} {k : Nat}
theorem join_K2 {Q : Value → Shared → Prop} (hl : s.heap.IsList D vs.toArray) (hb : BytesAre vs bs) (hks : (bs.map KBw.bInts).flatten = ks) (hsz : ks.length ≤ 1000)
    (h : ∀ ob t' k, KBw.bInts ob = ks → Q (.bytes ob t') { s with toks := k }) :
    wpAny (model prog w) A (call (.builtin "bytes.join") [.bytes #[] t, .ref D]) Q E s := by
  subst hks; exact join_K hl hb hsz h
theorem to_big2 {Q : Value → Shared → Prop} (hs : sz = (k : Int)) (hk : k ≤ 8) (h0 : 0 ≤ x) (h1 : x < (256 : Int) ^ k) (h : ∀ (b : Array UInt8) t' k', KBw.bInts b = (KTBy.little k x).reverse → Q (.bytes b t') { s with toks := k' }) :
    wpAny (model prog w) A (call (.builtin "int.to_bytes") [.int x t, .int sz u, .str (PySem.Str.ofString "big") v]) Q E s := by
  subst hs
  exact KTBy.to_big hk rfl h0 h1 fun b t' k' e _ => h b t' k' e
end
def enc (k : Nat) (v : Int) : List Int := (KTBy.little k v).reverse
theorem enc_len (k : Nat) (v : Int) : (enc k v).length = k := by unfold enc; rw [List.length_reverse, KTBy.little_length]
theorem flat_len (k : Nat) (zs : List Int) : (zs.map (enc k)).flatten.length = zs.length * k := by
  induction zs with
  | nil => simp
  | cons z r ih => rw [List.map_cons, List.flatten_cons, List.length_append, ih, enc_len, List.length_cons, Nat.succ_mul, Nat.add_comm]
theorem enc_snoc {k : Nat} {zs : List Int} {bs : List (Array UInt8)} {b : Array UInt8} {i : Nat} {v : Int} (h : bs.map KBw.bInts = (zs.take i).map (enc k)) (hv : zs[i]? = some v) (hb : KBw.bInts b = (KTBy.little k v).reverse) : (bs ++ [b]).map KBw.bInts = (zs.take (i + 1)).map (enc k) := by
  rw [List.take_add_one, hv, List.map_append, List.map_append, h]
  show _ ++ [KBw.bInts b] = _
  rw [hb]; rfl
end J
end Mine
end

section
open PySem PySem.W PyProof.Rows PySem.Calls
set_option maxRecDepth 100000
namespace Mine
theorem flat1 {zs : List Int} (h : ∀ v ∈ zs, 0 ≤ v ∧ v < 256) : (zs.map (J.enc 1)).flatten = zs := by
  induction zs with
  | nil => rfl
  | cons z r ih =>
    rw [List.map_cons, List.flatten_cons, ih fun v hv => h v (.tail _ hv)]
    have hz := h z (.head _)
    show [z % 256] ++ r = z :: r
    rw [Int.emod_eq_of_lt hz.1 hz.2]; rfl
theorem flat2 {zs tl : List Int} (h : ∀ v ∈ zs, 0 ≤ v ∧ v < 65536) (i : Nat) (v : Int) (hv : zs[i]? = some v) :
    ((zs.map (J.enc 2)).flatten ++ tl).getD (2 * i) 0 * 256 + ((zs.map (J.enc 2)).flatten ++ tl).getD (2 * i + 1) 0 = v := by
  induction zs generalizing i with
  | nil => simp at hv
  | cons z r ih =>
    have e : ((z :: r).map (J.enc 2)).flatten ++ tl = (z / 256 % 256) :: (z % 256) :: ((r.map (J.enc 2)).flatten ++ tl) := rfl
    rw [e]
    cases i with
    | zero =>
      have hz := h z (.head _)
      have e2 : z = v := by simpa using hv
      show z / 256 % 256 * 256 + z % 256 = v
      omega
    | succ i =>
      have e1 : 2 * (i + 1) = 2 * i + 1 + 1 := by omega
      rw [e1, List.getD_cons_succ, List.getD_cons_succ, List.getD_cons_succ, List.getD_cons_succ]
      exact ih (fun v hv => h v (.tail _ hv)) i (by simpa using hv)
theorem law_dec {p many : Int} {asx zs tl : List Int} (hm0 : 0 ≤ many) (hzl : zs.length = many.toNat) (hzb : ∀ v ∈ zs, 0 ≤ v ∧ v < 2 ^ (8 * szP p).toNat) :
    decP p (asx ++ (zs.map (J.enc (szP p).toNat)).flatten ++ tl) (asx.length : Int) many = zs := by
  unfold decP
  by_cases h8 : 8 < p
  · have hs : szP p = 2 := if_pos h8
    rw [hs] at hzb ⊢
    rw [if_pos h8]
    show dec2 (asx ++ (zs.map (J.enc 2)).flatten ++ tl) _ _ = _
    unfold dec2
    refine List.ext_getElem? fun i => ?_
    rw [List.getElem?_map]
    by_cases hi : i < many.toNat
    · rw [List.getElem?_range hi]
      have hv : zs[i]? = some (zs[i]'(by omega)) := List.getElem?_eq_getElem _
      rw [hv]
      have := flat2 (tl := tl) (by simpa using hzb) i _ hv
      have e0 : ∀ k, (asx ++ (zs.map (J.enc 2)).flatten ++ tl).getD (asx.length + k) 0 = ((zs.map (J.enc 2)).flatten ++ tl).getD k 0 := by
        intro k
        rw [List.append_assoc, List.getD_eq_getElem?_getD, List.getD_eq_getElem?_getD, List.getElem?_append_right (by omega), Nat.add_sub_cancel_left]
      show some (_ * 256 + _) = _
      rw [Int.toNat_natCast, Nat.add_assoc, e0, e0, this]
    · rw [List.getElem?_eq_none (by rw [List.length_range]; omega), List.getElem?_eq_none (by omega)]; rfl
  · have hs : szP p = 1 := if_neg h8
    rw [hs] at hzb ⊢
    rw [if_neg h8]
    show dec1 (asx ++ (zs.map (J.enc 1)).flatten ++ tl) _ _ = _
    rw [flat1 (by simpa using hzb)]
    unfold dec1
    rw [Int.toNat_natCast, List.append_assoc, List.drop_left, ← hzl, List.take_left]
theorem law_len {p many : Int} {asx zs : List Int} (hm0 : 0 ≤ many) (hzl : zs.length = many.toNat) : ((asx ++ (zs.map (J.enc (szP p).toNat)).flatten).length : Int) = (asx.length : Int) + many * szP p := by
  rw [List.length_append, J.flat_len, hzl]
  have h1 : ((many.toNat : Nat) : Int) = many := Int.toNat_of_nonneg hm0
  have h2 : (((szP p).toNat : Nat) : Int) = szP p := by unfold szP; split <;> rfl
  push_cast
  rw [h2, h1]
theorem szP_pos (p : Int) : 1 ≤ szP p := by unfold szP; split <;> omega
end Mine
end

section
open PySem PySem.W PyProof.Rows PySem.Calls
set_option maxRecDepth 100000
namespace Mine
def Cut (P : Shared → Prop) (f : Flow) (s' : Shared) : Prop := f = .next ∧ P s'
theorem cutS {M : Model} {A : Around} {E : Value → Shared → Prop} {s : Shared} {t : Sem Flow} {Q : Flow → Shared → Prop} (P : Shared → Prop) (h1 : wpAny M A t (Cut P) E s) (h2 : ∀ s', P s' → Q .next s') : wpAny M A t Q E s :=
  wpAny_mono h1 (fun f s' h => by obtain ⟨rfl, h⟩ := h; exact h2 s' h) fun _ _ e => e
theorem pow_pos2 (n : Nat) : (0 : Int) < 2 ^ n := by
  have h : (2 : Int) ^ n = ((2 ^ n : Nat) : Int) := by simp
  rw [h]; exact Int.ofNat_lt.mpr (Nat.pow_pos (by decide))
theorem pow_le2 {a b : Nat} (h : a ≤ b) : (2 : Int) ^ a ≤ 2 ^ b := by
  have h1 : (2 : Int) ^ a = ((2 ^ a : Nat) : Int) := by simp
  have h2 : (2 : Int) ^ b = ((2 ^ b : Nat) : Int) := by simp
  rw [h1, h2]; exact Int.ofNat_le.mpr (Nat.pow_le_pow_right (by decide) h)
theorem pow_le16 {p : Int} (h : p ≤ 16) : (2 : Int) ^ p.toNat ≤ 65536 := Int.le_trans (pow_le2 (b := 16) (by omega)) (by decide)
theorem rangeSize_one {n : Int} (hn : 0 ≤ n) : Builtin.Range.rangeSize 0 n 1 = ((n.toNat : Nat) : Int) := by
  unfold Builtin.Range.rangeSize
  rw [if_pos (by decide)]
  split <;> omega
theorem small_one' {n : Int} (hn : 0 ≤ n) (hn' : n ≤ 100) : Builtin.Range.small 0 n 1 = true := by
  unfold Builtin.Range.small
  rw [rangeSize_one hn]
  simp only [Builtin.Range.rangeFitsLong, Bool.and_eq_true, Bool.or_eq_true, decide_eq_true_eq, beq_iff_eq, show (1 : Int) > 0 by decide, if_true]
  omega
theorem dupMap {x : Str} {a b : Option Value} {m : Str → Option Value} : (fun y => if y = x then a else if y = x then b else m y) = fun y => if y = x then a else m y := by
  funext y; by_cases h : y = x
  · rw [if_pos h, if_pos h]
  · rw [if_neg h, if_neg h, if_neg h]
theorem clip_m1 (n : Nat) : clipAt n (-1) = n - 1 := by
  unfold clipAt; (try simp only []); (try split) <;> omega
def Keep (P : Prop) : Prop := P
theorem ints_end {ys : List Value} {zs : List Int} {k : Int} {t : Tok} (h : IntsAre ys zs) : IntsAre (ys ++ [.int k t]) (zs ++ [k]) := IntsAre.append h (.cons k t .nil)
theorem all_end {P : Int → Prop} {zs : List Int} {k : Int} (h : ∀ v ∈ zs, P v) (hk : P k) : ∀ v ∈ zs ++ [k], P v := by
  intro v hv
  rcases List.mem_append.mp hv with hv | hv
  · exact h v hv
  · rw [List.mem_singleton.mp hv]; exact hk
theorem szP_pow {p : Int} (h0 : 2 ≤ p) (h : p ≤ 16) : (2 : Int) ^ p.toNat ≤ 2 ^ (8 * szP p).toNat := by
  unfold szP; split
  · exact pow_le2 (by omega)
  · exact pow_le2 (by omega)
theorem szP_pow16 {p : Int} : (2 : Int) ^ (8 * szP p).toNat ≤ 65536 := by
  unfold szP; split <;> decide
theorem szP_pow_lt {p : Int} (h0 : 2 ≤ p) (h : p ≤ 16) (h8 : p ≠ 8) (h16 : p ≠ 16) : (0 : Int) < 2 ^ (8 * szP p).toNat - 2 ^ p.toNat := by
  have h1 : (2 : Int) ^ (p.toNat + 1) ≤ 2 ^ (8 * szP p).toNat := by
    unfold szP; split
    · exact pow_le2 (by omega)
    · exact pow_le2 (by omega)
  rw [Int.pow_succ] at h1
  have := pow_pos2 p.toNat
  omega
theorem any_lt {zs : List Int} {b : Int} (h : ∀ v ∈ zs, 0 ≤ v ∧ v < b) : zs.any (fun v => decide (b ≤ v)) = false := by
  rw [List.any_eq_false]; intro v hv; simp only [decide_eq_true_eq]; exact Int.not_le.mpr (h v hv).2
theorem any_set {zs : List Int} {b x : Int} {i : Nat} (hi : i < zs.length) (hx : b ≤ x) : (zs.set i x).any (fun v => decide (b ≤ v)) = true := by
  rw [List.any_eq_true]
  exact ⟨x, List.mem_set hi x, decide_eq_true hx⟩
theorem all_set {P : Int → Prop} {zs : List Int} {x : Int} {i : Nat} (h : ∀ v ∈ zs, P v) (hx : P x) : ∀ v ∈ zs.set i x, P v := by
  intro v hv
  rcases List.mem_or_eq_of_mem_set hv with hv | rfl
  · exact h v hv
  · exact hx
local macro_rules | `(tactic| walk_at "until assign") => `(tactic| repeat' ((fail_if_success (with_reducible show wpAny _ _ (exec (Stmt.Assign _ _ _) _) _ _ _)); (first | (k_unfold; (try dsimp only)) | (k_end; wrow_close) | walk1 | (dsimp only; walk1) | (leave1; walk_say "STEP leave1"; try dsimp only) | fail "no step")))
local macro_rules | `(tactic| walk_at "until if") => `(tactic| repeat' ((fail_if_success (with_reducible show wpAny _ _ (exec (Stmt.If _ _ _ _) _) _ _ _)); (first | (k_unfold; (try dsimp only)) | (k_end; wrow_close) | walk1 | (dsimp only; walk1) | (leave1; walk_say "STEP leave1"; try dsimp only) | fail "no step")))
local macro_rules | `(tactic| walk_at "until call") => `(tactic| repeat' ((fail_if_success (with_reducible show wpAny _ _ (call _ _) _ _ _)); (first | (k_unfold; (try dsimp only)) | (k_end; wrow_close) | walk1 | (dsimp only; walk1) | (leave1; walk_say "STEP leave1"; try dsimp only) | fail "no step")))
local macro_rules | `(tactic| walk_at "until for") => `(tactic| repeat' ((fail_if_success (with_reducible show wpAny _ _ (exec (Stmt.For _ _ _ _ _) _) _ _ _)); (first | (k_unfold; (try dsimp only)) | (k_end; wrow_close) | walk1 | (dsimp only; walk1) | (leave1; walk_say "STEP leave1"; try dsimp only) | fail "no step")))
local macro_rules | `(tactic| walk_at "until pyIter") => `(tactic| repeat' ((fail_if_success (with_reducible show wpAny _ _ (pyIter _) _ _ _)); (first | (k_unfold; (try dsimp only)) | (k_end; wrow_close) | walk1 | (dsimp only; walk1) | (leave1; walk_say "STEP leave1"; try dsimp only) | fail "no step")))
local macro_rules | `(tactic| walk_at "until comp") => `(tactic| repeat' ((fail_if_success (with_reducible show wpAny _ _ (eval (Expr.ListComp _ _ _ _) _) _ _ _)); (first | (k_unfold; (try dsimp only)) | (k_end; wrow_close) | walk1 | (dsimp only; walk1) | (leave1; walk_say "STEP leave1"; try dsimp only) | fail "no step")))
local macro_rules | `(tactic| walk_at "until compend") => `(tactic| repeat' ((fail_if_success (with_reducible show LCg.CompEnd _ _ _ _ _ _ _ _ _ _ _ _ _ _)); (first | (k_unfold; (try dsimp only)) | (k_end; wrow_close) | walk1 | (dsimp only; walk1) | (leave1; walk_say "STEP leave1"; try dsimp only) | fail "no step")))
local macro_rules | `(tactic| walk_at "until told") => `(tactic| repeat' ((fail_if_success (with_reducible show wpAny _ _ (call (Value.ref 84) _) _ _ _)); (first | (k_unfold; (try dsimp only)) | (k_end; wrow_close) | walk1 | (dsimp only; walk1) | (leave1; walk_say "STEP leave1"; try dsimp only) | fail "no step")))
local macro_rules | `(tactic| walk_at "until unr") => `(tactic| repeat' ((fail_if_success (with_reducible show UnrPost _ _ _ _ _ _ _ _ _)); (first | (k_unfold; (try dsimp only)) | (k_end; wrow_close) | walk1 | (dsimp only; walk1) | (leave1; walk_say "STEP leave1"; try dsimp only) | fail "no step")))
local macro_rules | `(tactic| walk_at "until range") => `(tactic| repeat' ((fail_if_success (with_reducible show wpAny _ _ (call (Value.type "range") _) _ _ _)); (first | (k_unfold; (try dsimp only)) | (k_end; wrow_close) | walk1 | (dsimp only; walk1) | (leave1; walk_say "STEP leave1"; try dsimp only) | fail "no step")))
local macro_rules | `(tactic| walk_at "until bytes") => `(tactic| repeat' ((fail_if_success (with_reducible show wpAny _ _ (call (Value.type "bytes") _) _ _ _)); (first | (k_unfold; (try dsimp only)) | (k_end; wrow_close) | walk1 | (dsimp only; walk1) | (leave1; walk_say "STEP leave1"; try dsimp only) | fail "no step")))
local macro_rules | `(tactic| walk_at "subscriptTail") => `(tactic| (k_here; (with_reducible show wpAny _ _ (subscriptTail _ (Expr.Slice _ _ none _) (Value.bytes #[_, _] _) (Value.ref _)) _ _ _); (with_reducible rename Fr _ _ _ _ => F'); (with_reducible rename News _ _ _ _ => N'); (refine KBc.slice_K (s := ⟨_, _, _, _, _⟩) (ks := [255, 255]) F' N' (by rfl) (by constructor) (by constructor) (by decide) ?_); intro _ _ _ _ _ kbcK; (try simp only [Option.elim, KBc.clip_lit, clipAt_nat, List.drop_zero, Nat.sub_zero] at kbcK)))
local macro_rules | `(tactic| walk_at "getMethod bytes") => `(tactic| (k_here; (with_reducible refine J.method ?_)))
local macro_rules | `(tactic| walk_at "call builtin:bytes.join") => `(tactic| (k_here; (refine J.join_K2 (News.isList (by k_asm) (by k_mem)) (by assumption) (by assumption) (by assumption) ?_); intro ob' tb' kb' hob'))
local macro_rules | `(tactic| walk_at "call builtin:int.to_bytes") => `(tactic| (k_here; (refine J.to_big2 (by assumption) (by assumption) (by assumption) (by assumption) ?_); intro ob' tb' kb' hob'))
local macro_rules | `(tactic| walk_at "call ref") => `(tactic| (k_here; (with_reducible show wpAny _ _ (call (Value.ref 77) [Value.ref _, Value.int _ _]) _ _ _); k_dflt (refine' pailN (outer := []) (cn := Str.ofString "law") ?B ?F ?X ?N ?U ?T ?hk ?hdp ?hun ?wa ?wb ?wc ?n1 ?n2 ?_; (case B => k_asm); (case F => k_asm); (case X => k_asm); (case N => k_asm); (case U => k_updF); (case T => k_asm); (case hk => exact rfl); (case hdp => decide); (case hun => decide +kernel); (case wa => assumption); (case wb => assumption); (case wc => assumption); (case n1 => first | decide | assumption | omega); (case n2 => first | decide | assumption | omega); k_whole); intro told tt wa' ta' wb' tb' h' tk' t0' t1' w0' w1' w2' F' N'; (try dsimp only at N' ⊢)))
set_option maxHeartbeats 8000000 in
theorem mainLaw : PySem.Challenge.rw_xm0797_01.Holds := hd (by 
  k_go0
  (all_goals try k_fold)
  walk_at "until call"
  rename_i w s0 s1 mg mb G Y fa o pm doc ho hg KX X V GL T B TE TW a12 a11 M a10 a9 hcd ns hs hlay hL1 hr1 hl2 a7 a6 ls vs a3 hL ra w1 r0 hI hr hlen htr K0 hD h1 tk1 F o1 o2 o3 d1 d2 d3 N0 X0
  clear hD hcd G Y V GL B TE TW M ra w1 r0 hr hs
  have e1 : o1.data = .cell none := d1
  have e2 : o2.data = .cell none := d2
  have e3 : o3.data = .cell none := d3
  have F2 : Fr s1.heap s1.heap.objs.size h1 (fun y => if y = Str.ofString "script" then some (.ref ls) else none) := F
  clear d1 d2 d3 X0 F
  refine wellC (outer := []) (cn := Str.ofString "law") K0 F2 KX N0 T rfl (by decide) (by decide +kernel) hL hI (by omega) ?_
  intro aw wa ta wb tb h2 tk2 hwa hwb hwb2 F3 N3 l3
  clear F2 N0
  dsimp only
  walk_at "until for"
  rename_i F4 N4 hb oW F5 N5 eW
  simp only [List.cons_append, List.nil_append] at N5
  have l4 : s1.heap.objs.size + 1 + 1 + 1 < aw := l3 _ (.head _)
  clear F4 N4
  (with_unfolding_all refine' For_invVF F5 ?k1 ?k2 ?_; (case k1 => exact rfl); (case k2 => exact rfl))
  walk_at "until pyIter"
  rename_i hc tkc u1 u2 u3 hr F6 N6 kg
  clear hI hL hlen hlay hL1 hr1 hl2 kg l3 X ho
  refine iter_rangeUnr (n := 3) rfl hr (by decide +kernel) (by decide +kernel) F6 N6 ?_
  intro I hI
  have lI1 : aw < I := hI _ (.head _)
  refine rangeRest_inv (fun _ nx => ∃ osz opr owl aw wa ta wb tb xs xp, nx = [(aw, wellObj wa ta wb tb 0), (s1.heap.objs.size + 1 + 1 + 1, osz), (s1.heap.objs.size + 1 + 1, opr), (s1.heap.objs.size + 1, owl)] ∧ osz.data = .cell xs ∧ opr.data = .cell xp ∧ owl.data = .cell (some (.ref aw)) ∧ 0 ≤ wa ∧ 0 ≤ wb ∧ wb < 100000 ∧ s1.heap.objs.size + 1 + 1 + 1 < aw ∧ aw < I) ?_ ?_ 3 0 _ _ ⟨_, _, _, _, _, _, _, _, _, _, rfl, e1, e2, eW, hwa, hwb, hwb2, l4, lI1⟩ (fun p hp => Nat.ne_of_lt (hI p hp))
  · clear hr F6 N6 hI lI1 l4 e1 e2 eW hwa hwb hwb2
    rintro i m nx t hh tkk it ⟨osz, opr, owl, aw, wa, ta, wb, tb, xs, xp, rfl, e1, e2, eW, hwa, hwb, hwb2, l4, lI⟩ _ F N
    dsimp only
    walk_at "until assign"
    walk1
    walk_at "until assign"
    rename_i told0 ttp wa0 ta0 wb0 tb0 hx0 tkx0 t00 t01 w00 w01 w02 many ttm wa ta wb tb hx1 tkx1 hm0 hm1 hwa hwb hwb2 D hx2 lD hx3 hx4 opr ePr hx5 F N
    obtain ⟨p, hp⟩ : ∃ p, p = 2 + told0 := ⟨_, rfl⟩
    rw [← hp] at ePr
    have hp2 : 2 ≤ p := by omega
    have hp16 : p ≤ 16 := by omega
    have N2 := fun q hq => N q (.tail _ hq)
    obtain ⟨m1, F2⟩ : ∃ m1 : Str → Option Value, Fr T.heap s1.heap.objs.size hx5 (fun y => if y = Str.ofString "many" then some (.int many ttm) else m1 y) := ⟨_, F⟩
    clear hp t00 t01 w00 w01 w02 N lD F
    refine cutS (fun s' => ∃ h tk osz t, s' = { heap := h, gens := s1.gens, drawn := s1.drawn, toks := tk, os := s1.os } ∧ osz.data = .cell (some (.int (szP p) t)) ∧ Fr T.heap s1.heap.objs.size h (fun y => if y = Str.ofString "many" then some (.int many ttm) else m1 y) ∧ News T.heap s1.heap.objs.size h [(I, it), (aw, wellObj wa ta wb tb 0), (s1.heap.objs.size + 1 + 1 + 1, osz), (s1.heap.objs.size + 1 + 1, opr), (s1.heap.objs.size + 1, owl)]) ?_ ?_
    · walk1
      walk_at "until assign"
      · rename_i hp9 hx6 osz F3 N3 eSz
        rw [show szP p = 1 from if_neg (by omega)]
        exact ⟨rfl, _, _, _, _, rfl, eSz, F3, N3⟩
      · rename_i hp9 hx6 osz F3 N3 eSz
        rw [show szP p = 2 from if_pos (by omega)]
        exact ⟨rfl, _, _, _, _, rfl, eSz, F3, N3⟩
    clear N2 F2 e1
    rintro _ ⟨h3, tk3, osz, tsz, rfl, eSz, F3, N3⟩
    dsimp only
    have hq0 := pow_pos2 p.toNat
    have hq1 := pow_le16 hp16
    walk_at "until assign"
    refine cutS (fun s' => ∃ h tk D vs zs wa ta wb tb, s' = { heap := h, gens := s1.gens, drawn := s1.drawn, toks := tk, os := s1.os } ∧ 0 ≤ wa ∧ 0 ≤ wb ∧ wb < 100000 ∧ IntsAre vs zs ∧ zs.length = many.toNat ∧ (∀ v ∈ zs, 0 ≤ v ∧ v < 2 ^ p.toNat) ∧
      Fr T.heap s1.heap.objs.size h (fun y => if y = Str.ofString "samples" then some (.ref D) else if y = Str.ofString "many" then some (.int many ttm) else m1 y) ∧ News T.heap s1.heap.objs.size h [(D, LCg.lst vs), (I, it), (aw, wellObj wa ta wb tb 0), (s1.heap.objs.size + 1 + 1 + 1, osz), (s1.heap.objs.size + 1 + 1, opr), (s1.heap.objs.size + 1, owl)] ∧
      LCg.Off1 D [(I, it), (aw, wellObj wa ta wb tb 0), (s1.heap.objs.size + 1 + 1 + 1, osz), (s1.heap.objs.size + 1 + 1, opr), (s1.heap.objs.size + 1, owl)]) ?_ ?_
    · k_dflt (refine Assign_ListComp_step (c := 1) (by k_asm) (by rfl) (by with_unfolding_all rfl) (by with_unfolding_all rfl) (by decide) (by rfl) (by decide) (by rfl) (by rfl) (by rfl) ?_)
      walk_at "until call"
      walk1
      dsimp only
      rename_i RH tkr u1 u2 u3 hr F3 N3 kg
      refine ⟨_, _, _, _, _, _, many.toNat, _, rfl, rfl, F3, N3, hr, small_one' hm0 (by omega), rangeSize_one hm0, by rw [sizeLine_eq]; omega, fun g2 => ?_⟩
      refine rest_inv (fun i ys nw => Keep (∃ zs wa ta wb tb, nw = [(I, it), (aw, wellObj wa ta wb tb 0), (s1.heap.objs.size + 1 + 1 + 1, osz), (s1.heap.objs.size + 1 + 1, opr), (s1.heap.objs.size + 1, owl)] ∧ 0 ≤ wa ∧ 0 ≤ wb ∧ wb < 100000 ∧ IntsAre ys zs ∧ zs.length = i ∧ (∀ v ∈ zs, 0 ≤ v ∧ v < 2 ^ p.toNat))) ⟨[], _, _, _, _, rfl, hwa, hwb, hwb2, .nil, rfl, fun v hv => nomatch hv⟩ ?_ ?_
      · clear hwa hwb hwb2 hr F3 N3 kg
        rintro i ys nw v I' oI C oC D2 m₂ h2 tk2 E' hin ⟨zs, wa, ta, wb, tb, rfl, hwa, hwb, hwb2, hz, hzl, hzb⟩ ⟨t', rfl⟩ hC2 hx F3 N3 off ne
        have off' := off
        simp only [LCg.Off3, and_true] at off'
        dsimp only
        walk_at "until compend"
        rename_i cE told tt wa2 ta2 wb2 tb2 hx6 tkx6 b0 b1 b2 b3 b4 F5 N5
        exact LCg.CompEnd.intro F5 N5 _ (fun _ h => h) off trivial ⟨zs ++ [told], _, _, _, _, rfl, b2, b3, b4, ints_end hz, by rw [List.length_append, hzl]; rfl, all_end hzb ⟨b0, b1⟩⟩
      · rintro ys nw ⟨zs, wa, ta, wb, tb, rfl, hwa, hwb, hwb2, hz, hzl, hzb⟩
        unfold LCg.FinA
        intro D h tk F4 N4 o1'
        exact ⟨rfl, _, _, _, _, _, _, _, _, _, rfl, hwa, hwb, hwb2, hz, hzl, hzb, F4, N4, o1'⟩
    clear F3 N3 hwa hwb hwb2
    rintro _ ⟨h4, tk4, D, ss, zs, wa, ta, wb, tb, rfl, hwa, hwb, hwb2, hz, hzl, hzb, F4, N4, oD⟩
    simp only [LCg.Off1, and_true] at oD
    dsimp only
    walk_at "until assign"
    refine cutS (fun s' => ∃ h tk b wa ta wb tb, s' = { heap := h, gens := s1.gens, drawn := s1.drawn, toks := tk, os := s1.os } ∧ (b = true → 0 < many ∧ p ≠ 8 ∧ p ≠ 16) ∧ 0 ≤ wa ∧ 0 ≤ wb ∧ wb < 100000 ∧
      Fr T.heap s1.heap.objs.size h (fun y => if y = Str.ofString "is_beyond" then some (.bool b) else if y = Str.ofString "samples" then some (.ref D) else if y = Str.ofString "many" then some (.int many ttm) else m1 y) ∧ News T.heap s1.heap.objs.size h [(D, LCg.lst ss), (I, it), (aw, wellObj wa ta wb tb 0), (s1.heap.objs.size + 1 + 1 + 1, osz), (s1.heap.objs.size + 1 + 1, opr), (s1.heap.objs.size + 1, owl)]) ?_ ?_
    · walk1
      walk_at "until assign"
      · rename_i c1 D' hx6 l1 c2 hx7 F' N'
        exact ⟨rfl, _, _, _, _, _, _, _, rfl, (fun hb => by rw [c2] at hb; cases hb), hwa, hwb, hwb2, F', fun q hq => N' q (.tail _ hq)⟩
      · rename_i c1 D' hx6 l1 c2 told tt wa2 ta2 wb2 tb2 hx8 tkx8 b0 b1 b2 b3 b4 hx7 F' N'
        refine ⟨rfl, _, _, _, _, _, _, _, rfl, (fun _ => ⟨c1, ?_, ?_⟩), b2, b3, b4, F', fun q hq => N' q (.tail _ hq)⟩
        · rintro rfl; simp at c2
        · rintro rfl; simp at c2
      · rename_i c1 hx7 F' N'
        exact ⟨rfl, _, _, _, _, _, _, _, rfl, (fun hb => absurd (of_decide_eq_true hb) c1), hwa, hwb, hwb2, F', N'⟩
    clear F4 N4 hwa hwb hwb2
    rintro _ ⟨h5, tk5, b, wa, ta, wb, tb, rfl, hb, hwa, hwb, hwb2, F5, N5⟩
    dsimp only
    walk_at "until if"
    refine cutS (fun s' => ∃ h tk ss zs cc wa ta wb tb, s' = { heap := h, gens := s1.gens, drawn := s1.drawn, toks := tk, os := s1.os } ∧ IntsAre ss zs ∧ zs.length = many.toNat ∧ (∀ v ∈ zs, 0 ≤ v ∧ v < 2 ^ (8 * szP p).toNat) ∧ zs.any (fun v => decide (2 ^ p.toNat ≤ v)) = b ∧ 0 ≤ wa ∧ 0 ≤ wb ∧ wb < 100000 ∧
      Fr T.heap s1.heap.objs.size h (fun y => if y = Str.ofString "is_beyond" then some (.bool b) else if y = Str.ofString "samples" then some (.ref D) else if y = Str.ofString "many" then some (.int many ttm) else m1 y) ∧ News T.heap s1.heap.objs.size h [(D, W.listOf ss.toArray cc), (I, it), (aw, wellObj wa ta wb tb 0), (s1.heap.objs.size + 1 + 1 + 1, osz), (s1.heap.objs.size + 1 + 1, opr), (s1.heap.objs.size + 1, owl)]) ?_ ?_
    · have hle := szP_pow hp2 hp16
      have hl16 := szP_pow16 (p := p)
      cases b
      · walk1
        walk_at "until assign"
        exact ⟨rfl, _, _, _, _, _, _, _, _, _, rfl, hz, hzl, fun v hv => ⟨(hzb v hv).1, Int.lt_of_lt_of_le (hzb v hv).2 hle⟩, any_lt hzb, hwa, hwb, hwb2, F5, N5⟩
      · obtain ⟨hmp, h8, h16⟩ := hb rfl
        have hlt := szP_pow_lt hp2 hp16 h8 h16
        have hm9 : many ≤ 65536 := by omega
        have hr9 : 2 ^ (8 * szP p).toNat - 2 ^ p.toNat ≤ (65536 : Int) := by omega
        have hzs : zs.length = many.toNat := hzl
        have hpw0 : 0 ≤ 8 * szP p := by unfold szP; split <;> omega
        have hpw1 : 8 * szP p ≤ 1000000 := by unfold szP; split <;> omega
        walk1
        walk_at "until assign"
        walk1
        walk_at "until assign"
        rename_i t1 tt1 wa1 ta1 wb1 tb1 hx6 tkx6 b0 b1 b2 b3 b4 t2 tt2 wa2 ta2 wb2 tb2 hx7 tkx7 d0 d1 d2 d3 d4 hx8 F6 N6 hi6 hl6 hs6
        exact ⟨rfl, _, _, _, _, _, _, _, _, _, rfl, hi6, by rw [hl6, hzl], all_set (fun v hv => ⟨(hzb v hv).1, Int.lt_of_lt_of_le (hzb v hv).2 hle⟩) ⟨by omega, by omega⟩, any_set (by omega) (by omega), d2, d3, d4, F6, N6⟩
    clear F5 N5 hwa hwb hwb2 hz hzl hzb hb
    rintro _ ⟨h6, tk6, ss, zs, cc, wa, ta, wb, tb, rfl, hz, hzl, hzb, hany, hwa, hwb, hwb2, F6, N6⟩
    dsimp only
    walk_at "until assign"
    refine cutS (fun s' => ∃ h tk ab asx way tb1 tb2 wa ta wb tb, s' = { heap := h, gens := s1.gens, drawn := s1.drawn, toks := tk, os := s1.os } ∧ KBw.bInts ab = asx ∧ asx.length ≤ 3 ∧ 0 ≤ way ∧ way < 4 ∧ 0 ≤ wa ∧ 0 ≤ wb ∧ wb < 100000 ∧
      Fr T.heap s1.heap.objs.size h (fun y => if y = Str.ofString "ahead" then some (.bytes ab tb1) else if y = Str.ofString "way" then some (.int way tb2) else if y = Str.ofString "is_beyond" then some (.bool b) else if y = Str.ofString "samples" then some (.ref D) else if y = Str.ofString "many" then some (.int many ttm) else m1 y) ∧ News T.heap s1.heap.objs.size h [(D, W.listOf ss.toArray cc), (I, it), (aw, wellObj wa ta wb tb 0), (s1.heap.objs.size + 1 + 1 + 1, osz), (s1.heap.objs.size + 1 + 1, opr), (s1.heap.objs.size + 1, owl)]) ?_ ?_
    · walk1
      walk_at "until comp"
      k_dflt (refine LCg.ListComp_U (F₀ := by k_asm) (by with_unfolding_all rfl) (by decide) (by rfl) (by decide) (by rfl) ?_)
      walk_at "until range"
      walk1
      dsimp only
      rename_i n4 tt4 wa4 ta4 wb4 tb4 hx4 tkx4 b0 b1 b2 b3 b4 F7 N7 RH tkr u1 u2 u3 hr F8 N8 kg
      refine LCg.CompSrc.range (n := n4.toNat) (by rfl) F8 N8 hr (small_one' b0 (by omega)) (rangeSize_one b0) (by rw [sizeLine_eq]; omega) ?_
      intro g2
      refine rest_inv (fun i ys nw => Keep (∃ xs wa ta wb tb, nw = [(D, W.listOf ss.toArray cc), (I, it), (aw, wellObj wa ta wb tb 0), (s1.heap.objs.size + 1 + 1 + 1, osz), (s1.heap.objs.size + 1 + 1, opr), (s1.heap.objs.size + 1, owl)] ∧ 0 ≤ wa ∧ 0 ≤ wb ∧ wb < 100000 ∧ IntsAre ys xs ∧ xs.length = i ∧ KBa.In xs)) ⟨[], _, _, _, _, rfl, b2, b3, b4, .nil, rfl, fun v hv => nomatch hv⟩ ?_ ?_
      · clear b2 b3 b4 hr F8 N8 kg F7 N7 hwa hwb hwb2
        rintro i ys nw v I' oI C oC D2 m₂ h2 tk2 E' hin ⟨xs, wa, ta, wb, tb, rfl, hwa, hwb, hwb2, hx', hxl, hxb⟩ ⟨t', rfl⟩ hC2 hx F3 N3 off ne
        have off' := off
        simp only [LCg.Off3, and_true] at off'
        dsimp only
        walk_at "until compend"
        rename_i cE told tt wa2 ta2 wb2 tb2 hx6 tkx6 b0 b1 b2 b3 b4 F5 N5
        exact LCg.CompEnd.intro F5 N5 _ (fun _ h => h) off trivial ⟨xs ++ [told], _, _, _, _, rfl, b2, b3, b4, ints_end hx', by rw [List.length_append, hxl]; rfl, all_end hxb ⟨b0, b1⟩⟩
      · clear hwa hwb hwb2 b2 b3 b4 F7 N7 F8 N8
        rintro ys nw ⟨xs, wa, ta, wb, tb, rfl, hwa, hwb, hwb2, hx', hxl, hxb⟩
        unfold LCg.FinE
        intro D2 h tk F4 N4 o1'
        simp only [LCg.Off1, and_true] at o1'
        have hxl3 : xs.length ≤ 3 := by omega
        dsimp only
        walk_at "until assign"
        rename_i hx6 tb1 kx kI kS way tb2 wa2 ta2 wb2 tbb hx7 tkx7 b0 b1 b2 b3 b4 D3 hx8 l1 hx9 hxa hxb' F5 N5
        exact ⟨rfl, _, _, _, _, _, _, _, _, _, _, _, rfl, KBa.ints_make kI, hxl3, b0, b1, b2, b3, b4, F5, fun q hq => N5 q (.tail _ (.tail _ hq))⟩
    clear F6 N6 hwa hwb hwb2
    rintro _ ⟨h7, tk7, ab, asx, way, tb1, tb2, wa, ta, wb, tb, rfl, hab, hal, hw0, hw4, hwa, hwb, hwb2, F7, N7⟩
    dsimp only
    walk_at "until assign"
    refine cutS (fun s' => ∃ h tk ob os t, s' = { heap := h, gens := s1.gens, drawn := s1.drawn, toks := tk, os := s1.os } ∧ KBw.bInts ob = os ∧ Keep (os = asx ++ (zs.map (J.enc (szP p).toNat)).flatten) ∧
      Fr T.heap s1.heap.objs.size h (fun y => if y = Str.ofString "octets" then some (.bytes ob t) else if y = Str.ofString "ahead" then some (.bytes ab tb1) else if y = Str.ofString "way" then some (.int way tb2) else if y = Str.ofString "is_beyond" then some (.bool b) else if y = Str.ofString "samples" then some (.ref D) else if y = Str.ofString "many" then some (.int many ttm) else m1 y) ∧ News T.heap s1.heap.objs.size h [(D, W.listOf ss.toArray cc), (I, it), (aw, wellObj wa ta wb tb 0), (s1.heap.objs.size + 1 + 1 + 1, osz), (s1.heap.objs.size + 1 + 1, opr), (s1.heap.objs.size + 1, owl)]) ?_ ?_
    · walk1
      walk_at "until comp"
      k_dflt (refine LCg.ListComp_U (F₀ := by k_asm) (by with_unfolding_all rfl) (by decide) (by rfl) (by decide) (by rfl) ?_)
      walk1
      dsimp only
      rename_i hzX
      have hkk : szP p = (((szP p).toNat : Nat) : Int) := by unfold szP; split <;> rfl
      have hkk8 : (szP p).toNat ≤ 8 := by unfold szP; split <;> decide
      have hpk : (2 : Int) ^ (8 * szP p).toNat = 256 ^ (szP p).toNat := by unfold szP; split <;> rfl
      have hlv := hz.length
      refine LCg.CompSrc.ledger (by rfl) F7 N7 (List.Mem.head _) (by rw [List.size_toArray, sizeLine_eq]; omega) ?_
      intro g2
      refine rest_inv (fun i ys nw => Keep (nw = [(D, W.listOf ss.toArray cc), (I, it), (aw, wellObj wa ta wb tb 0), (s1.heap.objs.size + 1 + 1 + 1, osz), (s1.heap.objs.size + 1 + 1, opr), (s1.heap.objs.size + 1, owl)] ∧ ∃ bs, J.BytesAre ys bs ∧ bs.map KBw.bInts = (zs.take i).map (J.enc (szP p).toNat))) ⟨rfl, [], .nil, by simp⟩ ?_ ?_
      · rintro i ys nw v I' oI C oC D2 m₂ h2 tk2 E' hin ⟨rfl, bs, hbs, hbm⟩ hP hC2 hx F3 N3 off ne
        have off' := off
        simp only [LCg.Off3, and_true] at off'
        obtain ⟨v, tv, rfl, hv⟩ := IntsAre.at hz i _ (by simpa using hP)
        have hvb := hzb v (List.mem_of_getElem? hv)
        have hv0 : 0 ≤ v := hvb.1
        have hv1 : v < (256 : Int) ^ (szP p).toNat := by rw [← hpk]; exact hvb.2
        dsimp only
        walk_at "until compend"
        rename_i cE ob tbo kbo hob
        exact LCg.CompEnd.intro F3 N3 _ (fun _ h => h) off (Or.inr ⟨_, .head _, rfl, _, rfl⟩) ⟨rfl, bs ++ [ob], hbs.snoc, J.enc_snoc hbm hv hob⟩
      · rintro ys nw ⟨rfl, bs, hbs, hbm⟩
        unfold LCg.FinE
        intro D2 h tk F4 N4 o1'
        simp only [LCg.Off1, and_true] at o1'
        rw [List.size_toArray, hlv, List.take_length] at hbm
        have hfl : (bs.map KBw.bInts).flatten = (zs.map (J.enc (szP p).toNat)).flatten := by rw [hbm]
        have hfn : (zs.map (J.enc (szP p).toNat)).flatten.length ≤ 1000 := by
          rw [J.flat_len, hzl]
          have h1 : many.toNat ≤ 9 := by omega
          exact Nat.le_trans (Nat.mul_le_mul h1 hkk8) (by decide)
        generalize hfe : (zs.map (J.enc (szP p).toNat)).flatten = fl at hfl hfn ⊢
        dsimp only
        walk_at "until assign"
        rename_i ob2 tbo kbo hob to k3 hap h8 F8 N8
        exact ⟨rfl, _, _, _, _, _, rfl, hap, rfl, F8, fun q hq => N8 q (.tail _ hq)⟩
    clear F7 N7
    rintro _ ⟨h8, tk8, ob, os, to, rfl, hob, hos, F8, N8⟩
    have hosl : os.length ≤ 100 := by
      have hos : os = asx ++ (zs.map (J.enc (szP p).toNat)).flatten := hos
      have h1 : many.toNat ≤ 9 := by omega
      have h2 : (szP p).toNat ≤ 2 := by unfold szP; split <;> decide
      rw [hos, List.length_append, J.flat_len, hzl]
      have := Nat.mul_le_mul h1 h2
      omega
    dsimp only
    walk_at "until assign"
    refine cutS (fun s' => ∃ h tk ob' os' t, s' = { heap := h, gens := s1.gens, drawn := s1.drawn, toks := tk, os := s1.os } ∧ KBw.bInts ob' = os' ∧ Keep (way = 0 ∧ 0 < many ∧ os' = os.take (os.length - 1) ∨ ¬ (way = 0 ∧ 0 < many) ∧ ∃ tl, os' = os ++ tl ∧ tl.length ≤ 2) ∧
      Fr T.heap s1.heap.objs.size h (fun y => if y = Str.ofString "octets" then some (.bytes ob' t) else if y = Str.ofString "ahead" then some (.bytes ab tb1) else if y = Str.ofString "way" then some (.int way tb2) else if y = Str.ofString "is_beyond" then some (.bool b) else if y = Str.ofString "samples" then some (.ref D) else if y = Str.ofString "many" then some (.int many ttm) else m1 y) ∧ News T.heap s1.heap.objs.size h [(D, W.listOf ss.toArray cc), (I, it), (aw, wellObj wa ta wb tb 0), (s1.heap.objs.size + 1 + 1 + 1, osz), (s1.heap.objs.size + 1 + 1, opr), (s1.heap.objs.size + 1, owl)]) ?_ ?_
    · walk1
      walk_at "until assign"
      · rename_i c1 c2 hx6 tp kp kb hx7 F9 N9
        rw [dupMap] at F9
        refine ⟨rfl, _, _, _, _, _, rfl, kb, .inl ⟨c1, c2, ?_⟩, F9, N9⟩
        rw [clip_m1]
      · rename_i c1 c2 l' hx5 l1 hx6 t2 k2 hb9 hb8 hB' hx7 t3 k3 kb t4 k4 kc hx8 F9 N9
        rw [dupMap] at F9
        exact ⟨rfl, _, _, _, _, _, rfl, kc, .inr ⟨fun q => c2 q.2, _, rfl, by rw [List.length_take]; exact Nat.min_le_right _ _⟩, F9, fun q hq => N9 q (.tail _ hq)⟩
      · rename_i c1 l' hx5 l1 hx6 t2 k2 hb9 hb8 hB' hx7 t3 k3 kb t4 k4 kc hx8 F9 N9
        rw [dupMap] at F9
        exact ⟨rfl, _, _, _, _, _, rfl, kc, .inr ⟨fun q => c1 q.1, _, rfl, by rw [List.length_take]; exact Nat.min_le_right _ _⟩, F9, fun q hq => N9 q (.tail _ hq)⟩
    clear F8 N8 hob
    rintro _ ⟨h9, tk9, ob, os', to, rfl, hob, hos', F9, N9⟩
    dsimp only
    walk_at "until assign"
    refine cutS (fun s' => ∃ h tk dv t, s' = { heap := h, gens := s1.gens, drawn := s1.drawn, toks := tk, os := s1.os } ∧ Keep ((way = 0 ∧ 0 < many) ∧ dv = .str (Str.ofString "cut") t ∨ ¬ (way = 0 ∧ 0 < many) ∧ (b = true ∧ dv = .str (Str.ofString "beyond") t ∨ b = false ∧ dv = .ref D)) ∧
      Fr T.heap s1.heap.objs.size h (fun y => if y = Str.ofString "due" then some dv else if y = Str.ofString "octets" then some (.bytes ob to) else if y = Str.ofString "ahead" then some (.bytes ab tb1) else if y = Str.ofString "way" then some (.int way tb2) else if y = Str.ofString "is_beyond" then some (.bool b) else if y = Str.ofString "samples" then some (.ref D) else if y = Str.ofString "many" then some (.int many ttm) else m1 y) ∧ News T.heap s1.heap.objs.size h [(D, W.listOf ss.toArray cc), (I, it), (aw, wellObj wa ta wb tb 0), (s1.heap.objs.size + 1 + 1 + 1, osz), (s1.heap.objs.size + 1 + 1, opr), (s1.heap.objs.size + 1, owl)]) ?_ ?_
    · walk1
      walk_at "until if"
      · rename_i c1 c2 hx F' N'
        exact ⟨rfl, _, _, _, _, rfl, .inl ⟨⟨c1, c2⟩, rfl⟩, F', N'⟩
      · rename_i c1 c2 c3 hx F' N'
        exact ⟨rfl, _, _, _, _, rfl, .inr ⟨fun q => c2 q.2, .inl ⟨c3, rfl⟩⟩, F', N'⟩
      · rename_i c1 c2 c3 hx F' N'
        exact ⟨rfl, _, _, _, 0, rfl, .inr ⟨fun q => c2 q.2, .inr ⟨c3, rfl⟩⟩, F', N'⟩
      · rename_i c1 c3 hx F' N'
        exact ⟨rfl, _, _, _, _, rfl, .inr ⟨fun q => c1 q.1, .inl ⟨c3, rfl⟩⟩, F', N'⟩
      · rename_i c1 c3 hx F' N'
        exact ⟨rfl, _, _, _, 0, rfl, .inr ⟨fun q => c1 q.1, .inr ⟨c3, rfl⟩⟩, F', N'⟩
    clear F9 N9
    rintro _ ⟨h10, tk10, dv, td, rfl, hdv, F10, N10⟩
    have hos2 : os = asx ++ (zs.map (J.enc (szP p).toNat)).flatten := hos
    have hLen : (os.length : Int) = (asx.length : Int) + many * szP p := by rw [hos2]; exact law_len hm0 hzl
    have hsp := szP_pos p
    have hA : way = 0 ∧ 0 < many → (os'.length : Int) < (asx.length : Int) + many * szP p := by
      intro hc
      rcases hos' with ⟨_, hmp, e⟩ | ⟨n, _⟩
      · have : 1 * 1 ≤ many * szP p := Int.mul_le_mul (by omega) hsp (by decide) hm0
        rw [e, List.length_take]; omega
      · exact absurd hc n
    have hB : ¬ (way = 0 ∧ 0 < many) → (asx.length : Int) + many * szP p ≤ (os'.length : Int) ∧ decP p os' (asx.length : Int) many = zs := by
      intro hc
      rcases hos' with ⟨c1, c2, _⟩ | ⟨n, tl, e, _⟩
      · exact absurd ⟨c1, c2⟩ hc
      · refine ⟨by rw [e, List.length_append]; omega, ?_⟩
        rw [e, hos2]; exact law_dec hm0 hzl hzb
    have hol' : os'.length ≤ 100 := by
      have hol' : os'.length ≤ os.length + 2 := by
        rcases hos' with ⟨_, _, e⟩ | ⟨n, tl, e, h2⟩
        · rw [e, List.length_take]; omega
        · rw [e, List.length_append]; omega
      have h1 : many.toNat ≤ 9 := by omega
      have h2 : (szP p).toNat ≤ 2 := by unfold szP; split <;> decide
      have h3 := Nat.mul_le_mul h1 h2
      have h4 : os.length = asx.length + many.toNat * (szP p).toNat := by rw [hos2, List.length_append, J.flat_len, hzl]
      omega
    have offI : ∀ q ∈ [(aw, wellObj wa ta wb tb 0), (s1.heap.objs.size + 1 + 1 + 1, osz), (s1.heap.objs.size + 1 + 1, opr), (s1.heap.objs.size + 1, owl)], q.1 ≠ I := by
      have k1 : s1.heap.objs.size + 1 + 1 + 1 < I := Nat.lt_trans l4 lI
      refine List.forall_mem_cons.mpr ⟨Nat.ne_of_lt lI, List.forall_mem_cons.mpr ⟨Nat.ne_of_lt k1, List.forall_mem_cons.mpr ⟨Nat.ne_of_lt (Nat.lt_trans (Nat.lt_succ_self _) k1), List.forall_mem_cons.mpr ⟨Nat.ne_of_lt (Nat.lt_trans (Nat.lt_succ_self _) (Nat.lt_trans (Nat.lt_succ_self _) k1)), List.forall_mem_nil _⟩⟩⟩⟩
    dsimp only
    walk_at "until told"
    refine told (cn := Str.ofString "law") K0 F10 KX N10 T KX T rfl (by decide) (by decide +kernel) (by omega) (by omega) hm0 (by omega) hp2 hp16 hob hol' ?_ ?_ ?_
    · intro hlt t' h11 tk11 F11 N11
      dsimp only
      rcases hdv with ⟨hc, rfl⟩ | ⟨hnc, _⟩
      · walk_at "until unr"
        exact UnrEnd.intro F11 N11 [(aw, wellObj wa ta wb tb 0), (s1.heap.objs.size + 1 + 1 + 1, osz), (s1.heap.objs.size + 1 + 1, opr), (s1.heap.objs.size + 1, owl)] (fun p hp => .tail _ hp) offI ⟨⟨osz, opr, owl, aw, wa, ta, wb, tb, _, _, rfl, eSz, ePr, eW, hwa, hwb, hwb2, l4, lI⟩, offI⟩
      · exact absurd (hB hnc).1 (Int.not_le.mpr hlt)
    · intro hle hb t' h11 tk11 F11 N11
      dsimp only
      rcases hdv with ⟨hc, _⟩ | ⟨hnc, ⟨hbt, rfl⟩ | ⟨hbf, rfl⟩⟩
      · exact absurd hle (Int.not_le.mpr (hA hc))
      · walk_at "until unr"
        exact UnrEnd.intro F11 N11 [(aw, wellObj wa ta wb tb 0), (s1.heap.objs.size + 1 + 1 + 1, osz), (s1.heap.objs.size + 1 + 1, opr), (s1.heap.objs.size + 1, owl)] (fun p hp => .tail _ hp) offI ⟨⟨osz, opr, owl, aw, wa, ta, wb, tb, _, _, rfl, eSz, ePr, eW, hwa, hwb, hwb2, l4, lI⟩, offI⟩
      · rw [(hB hnc).2] at hb
        exact absurd (hb.symm.trans (hany.trans hbf)) (by decide)
    · intro hle hb D2 vs2 c2 h11 tk11 hi2 F11 N11 hne
      dsimp only
      rcases hdv with ⟨hc, _⟩ | ⟨hnc, ⟨hbt, rfl⟩ | ⟨hbf, rfl⟩⟩
      · exact absurd hle (Int.not_le.mpr (hA hc))
      · rw [(hB hnc).2] at hb
        exact absurd (hb.symm.trans (hany.trans hbt)) (by decide)
      · rw [(hB hnc).2] at hi2
        walk_at "until unr"
        exact UnrEnd.intro F11 N11 [(aw, wellObj wa ta wb tb 0), (s1.heap.objs.size + 1 + 1 + 1, osz), (s1.heap.objs.size + 1 + 1, opr), (s1.heap.objs.size + 1, owl)] (fun p hp => .tail _ (.tail _ hp)) offI ⟨⟨osz, opr, owl, aw, wa, ta, wb, tb, _, _, rfl, eSz, ePr, eW, hwa, hwb, hwb2, l4, lI⟩, offI⟩
  · rintro m nx hh tkk ⟨osz, opr, owl, aw, wa, ta, wb, tb, xs, xp, rfl, e1, e2, eW, hwa, hwb, hwb2, l4, lI⟩ F N
    dsimp only
    k_steps)
end Mine
end

theorem PySem.Challenge.cw_xm0797_01_holds : PySem.Challenge.rw_xm0797_01.Holds :=
  Mine.mainLaw
