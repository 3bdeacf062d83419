import PyProof.Rows.All
import Wide.All
import OpenK.AllK
import Wide.FinOn
import Lean
import PySem.Challenge.RW_on0247_01
open PySem PySem.W PyProof.Rows
set_option Elab.async false
set_option maxRecDepth 100000
set_option maxHeartbeats 8000000
set_option linter.all false
set_option compiler.extract_closed false
set_option genSizeOf false
set_option genSizeOfSpec false
set_option genInjectivity false
namespace Mine
section
local macro_rules | `(tactic| o_head $_) => `(tactic| exact False.elim (by assumption))
theorem lay (hf : False) : True := by
  have : PySem.Challenge.rw_on0247_01.row.Holds := by k_head
  trivial
end
def view : Program :=
  { PySem.Challenge.rw_on0247_01.row.toRowW.prog with main := { PySem.Challenge.rw_on0247_01.row.toRowW.prog.main with
    body := ((((((PySem.Challenge.rw_on0247_01.row.toRowW.prog.main.body.eraseIdx 51).eraseIdx 48).eraseIdx 46).eraseIdx 16).eraseIdx 12).eraseIdx 4).eraseIdx 1 } }
end Mine
open PySem PySem.W PySem.Calls PyProof.Rows
namespace Mine
local macro_rules | `(tactic| k_mem) => `(tactic| k_extra "x_mem")
local macro_rules | `(tactic| k_upd) => `(tactic| k_extra "x_upd")
local macro_rules | `(tactic| k_updF) => `(tactic| k_extra "x_updF")
local macro_rules | `(tactic| k_ne) => `(tactic| k_extra "x_ne")
local macro_rules | `(tactic| ktr_units) => `(tactic| k_extra "x_units")
local macro_rules | `(tactic| k_room) => `(tactic| k_extra "x_room")
local macro_rules | `(tactic| ktr_room) => `(tactic| k_extra "x_rm")
local macro_rules | `(tactic| k_all) => `(tactic| k_extra "x_all")
local macro_rules | `(tactic| walk_at $s:str) => `(tactic| k_extra $s)
section
open PySem PySem.W PySem.Calls
section
variable {prog : Program} {w : World} {A : Around} {R : Result → Shared → Prop} {h : Heap} {g : Array GenState} {d : Drawn} {t : Nat} {os : OsState}
variable {nm q : Str} {C N : Addr} {bs bm bmB : List Value} {hdct : Bool} {sn : List Str} {sub : List Value} {ab : Bool} {col : Option Bool} {dd : Option Addr} {k0 k1 k2 k3 k5 : Option Value} {B newId initId : String}
abbrev excObj (C T : Addr) : Obj := { cls := .ref C, data := .fields #[.ref T, .none, .none, .none, .bool false, .none] }
theorem exc_check (F : ExcBaseFacts B newId initId bmB) (hb : bm.contains (.type B) = true) {M : Model} {E : Value → Shared → Prop} {rest : List Value} {Q : Unit → Shared → Prop} (hC : h.get? C = some (excClassObj nm q C N bs bm hdct sn sub ab col dd k0 k1 k2 k3 k5 newId))
    (hq : Q () ⟨h, g, d, t, os⟩) : wpAny M A (checkBuiltinCall newId ⟨.ref C :: rest, []⟩) Q E ⟨h, g, d, t, os⟩ := by
  have hcont : (Value.ref C :: bm).contains (.type B) = true := by rw [List.contains_cons, hb, Bool.or_true]
  have hstar := F.noStar
  unfold checkBuiltinCall
  rw [F.newKind, F.newSplit, F.newRow]
  dsimp only
  repeat (first | refine wpAny_loadPart_at hC ?_ | (refine wpAny_isSubtype_exc hC ?_; rw [hcont]) | refine wpAny_staticBase_exc hC ?_ | refine wpAny_madeBy_exc hC ?_ | rw [bne_self_eq_false] | rw [if_neg Bool.false_ne_true] | wp_step)
  exact hq
theorem exc_new (F : ExcBaseFacts B newId initId bmB) (hb : bm.contains (.type B) = true) (ha : bm.contains (.type "AttributeError") = false) (hn : bm.contains (.type "NameError") = false)
    {rest : List Value} (hC : h.get? C = some (excClassObj nm q C N bs bm hdct sn sub ab col dd k0 k1 k2 k3 k5 newId))
    (hq : R (.ok (.ret (.ref (h.objs.size + 1)))) ⟨(h.push { cls := .type "tuple", data := .seq rest.toArray }).push (excObj C h.objs.size), g, d, t, os⟩) (hrest : rest.length ≤ sizeLine) :
    codeAny (model prog w) A (.builtin newId ⟨.ref C :: rest, []⟩) R ⟨h, g, d, t, os⟩ := by
  have hends := F.ends
  have hcB : (Value.ref C :: bm).contains (.type B) = true := by rw [List.contains_cons, hb, Bool.or_true]
  have hcA : (Value.ref C :: bm).contains (.type "AttributeError") = false := by rw [List.contains_cons, ha]; rfl
  have hcN : (Value.ref C :: bm).contains (.type "NameError") = false := by rw [List.contains_cons, hn]; rfl
  refine codeAny_builtinAt F.entry ?_
  unfold Builtin.«BaseException.__new__»
  refine PySem.wpAt_bind ?_
  show PySem.wpAt _ _ _ (stack >>= _) _ _ _
  refine PySem.wpAt_bind (PySem.wpAt_stack fun p below => PySem.wpAt_of_wpAny ?_)
  wp_walk
  refine PySem.wpAt_of_wpAny ?_
  rw [F.owner]
  repeat (first | with_reducible refine wpAny_madeHere_exc F.canon hC ?_ | with_reducible refine wpAny_loadPart_at hC ?_ | (with_reducible refine wpAny_isSubtype_exc hC ?_; first | rw [hcB] | rw [hcA] | rw [hcN]) | wp_step)
  show R _ _
  rw [Heap.size_push]
  exact hq
theorem exc_make (F : ExcBaseFacts B newId initId bmB) (hb : bm.contains (.type B) = true) (ha : bm.contains (.type "AttributeError") = false) (hn : bm.contains (.type "NameError") = false)
    {rest : List Value} (hC : h.get? C = some (excClassObj nm q C N bs bm hdct sn sub ab col dd k0 k1 k2 k3 k5 newId)) {init : Value}
    (call : Looks (model prog w) h (specialOf (.ref C) "__call__") (some (.builtin "type.__call__"))) (typ : Looks (model prog w) h (isInstance (.ref C) (.type "type")) true)
    (hi : Looks (model prog w) h (typeLookup (.ref C) "__init__") (some init)) (hbi : ∀ self, Looks (model prog w) h (bindSpecial init self) (init, [self])) (hrest : rest.length ≤ sizeLine)
    (hq : codeAny (model prog w) (A.under (.builtin "type.__call__" ⟨.ref C :: rest, []⟩)) (.call init ⟨.ref (h.objs.size + 1) :: rest, []⟩) (InitBack (h.objs.size + 1) R)
      ⟨(h.push { cls := .type "tuple", data := .seq rest.toArray }).push (excObj C h.objs.size), g, d, t, os⟩) :
    codeAny (model prog w) A (.call (.ref C) ⟨rest, []⟩) R ⟨h, g, d, t, os⟩ := by
  refine codeAny_of_tree ?_
  show wpAny _ _ (callAny (.ref C) _) _ _ _
  refine nd_load hC ?_
  show wpAny _ _ (callAny.viaDunder (.ref C) _) _ _ _
  unfold callAny.viaDunder
  refine wpAny_bind (call.at ?_)
  dsimp only
  rw [tc_bind]
  refine wpAny_bind (wpAny_pure (wpAny_bind (wpAny_pure ?_)))
  refine wpAny_pure (a := Fin.again (.call (.builtin "type.__call__") ⟨.ref C :: rest, []⟩)) (And.intro rfl ?_)
  refine codeAny_call_builtin_at (Code.quiet_builtin _ (by decide +kernel)) entry_typeCall (check_slot tc_kind tc_split typ (tc_args _ _ _) ?_)
  unfold Builtin.«type.__call__»
  have hm : Looks (model prog w) h (mroOf (.ref C)) (.ref C :: bm) := ((Looks.ld (part := none) hC).andThen .now).andThen .now
  have made : Looks (model prog w) h (Bind.madeBy (.ref C)) (some newId) := by
    intro A Q E s k q
    obtain ⟨h1, g1, d1, t1, o1⟩ := s
    exact wpAny_madeBy_exc (k _ _ hC) q
  repeat (first | rw [if_neg Bool.false_ne_true] | with_reducible refine wpAny_call ?_ | lk)
  refine codeAny_call_builtin_code (Code.quiet_builtin _ F.quiet) (exc_check F hb hC ?_)
  refine exc_new F hb ha hn hC ?_ hrest
  have k : ∀ b o, h.get? b = some o → ((h.push { cls := .type "tuple", data := .seq rest.toArray }).push (excObj C h.objs.size)).get? b = some o := fun b o e => Heap.get?_push_of_some _ (Heap.get?_push_of_some _ e)
  have hx : ((h.push { cls := .type "tuple", data := .seq rest.toArray }).push (excObj C h.objs.size)).get? (h.objs.size + 1) = some (excObj C h.objs.size) := by heap_get
  have t1 : Looks (model prog w) ((h.push { cls := .type "tuple", data := .seq rest.toArray }).push (excObj C h.objs.size)) (typeOf (.ref (h.objs.size + 1))) (.ref C) := (Looks.ld hx).andThen .now
  have s1 : Looks (model prog w) ((h.push { cls := .type "tuple", data := .seq rest.toArray }).push (excObj C h.objs.size)) (isSubtype (.ref C) (.ref C)) true := by
    intro A Q E s k' q
    obtain ⟨h1, g1, d1, t1, o1⟩ := s
    exact wpAny_isSubtype_exc (k' _ _ (k _ _ hC)) (by rw [show (Value.ref C :: bm).contains (.ref C) = true from by simp]; exact q)
  have i1 := hi.keeps k
  have b1 := (hbi (.ref (h.objs.size + 1))).keeps k
  unfold isInstance callSpecial? specialOf
  repeat (first | with_reducible refine wpAny_call ?_ | lk)
  refine codeAny_mono hq fun r s' z => ?_
  rcases r with e | (v | _ | _ | _) <;> first | exact z | exact z.elim | skip
  obtain ⟨rfl, z⟩ := z
  exact wpAny_pure (wpAny_pure z)
end
end
section
open PySem PySem.W PySem.Calls
open PyProof.Rows (Fr News)
open Builtin Builtin.ObjectAttr
section
variable {prog : Program} {w : World} {A : Around} {E : Value → Shared → Prop} {K : Frag} {C x : Addr} {R : Result → Shared → Prop} {s : Shared}
theorem exc_store {vs : Array Value} {name : Str} {tk : Tok} {v : Value} {cd : ClassData} {attr : Option Value} (X : K.In s.heap) (hx : s.heap.get? x = some ⟨.ref C, none, .fields vs, #[]⟩)
    (hc : clsIn K C = some cd) (hd : cd.hasDict = true) (hpass : refuseLoop (.ref x) "__setattr__" cd.mro = pure ()) (hsub : mroIn K C (.type "object") = some true)
    (ha : findIn K (.ref C) name = some attr) (hr : storeTaker? attr = pure none)
    (h : ∀ h' d tk', (∀ b o, b ≠ x → s.heap.get? b = some o → h'.get? b = some o) → h'.get? x = some ⟨.ref C, some d, .fields vs, #[]⟩ → s.heap.objs.size ≤ h'.objs.size → R (.ok (.ret .none)) { s with heap := h', toks := tk' }) :
    codeAny (model prog w) A (.call (.builtin "object.__setattr__") ⟨[.ref x, .str name tk, v], []⟩) R s := by
  have SF := PySem.F.store_object
  have It : Looks (model prog w) s.heap (typeOf (.ref x)) (.ref C) := (Looks.ld (part := none) hx).andThen .now
  have sub : Looks (model prog w) s.heap (isInstance (.ref x) (.type "object")) true := It.andThen (looks_mroIn X hsub)
  refine codeAny_call_builtin SF.slot.plain SF.entry (@check_slot (model prog w) _ _ s "object.__setattr__" "object" "__setattr__" (.ref x) [.str name tk, v] [] _ SF.kind SF.split sub (SF.args (.ref x) (.str name tk) v) ?_)
  have hm : Looks (model prog w) s.heap (mroOf (.ref C)) cd.mro := (looks_clsIn X hc).andThen .now
  rw [osa_eq, refuse_eq]
  refine wpAny_bind (wpAny_bind (It.here (wpAny_bind (hm.here ?_))))
  rw [hpass]
  refine wpAny_pure (wpAny_bind (It.here (wpAny_bind ((looks_findIn X ha).here (wpAny_bind ?_)))))
  rw [hr]
  refine wpAny_pure ?_
  have hxs : x ≠ s.heap.objs.size := Nat.ne_of_lt (Heap.lt_size hx)
  have hx₁ : (s.heap.push { cls := .type "dict", data := .dict #[] }).get? x = some ⟨.ref C, none, .fields vs, #[]⟩ := Heap.get?_push_of_some _ hx
  refine wpAny_bind (wpAny_pure (wpAny_bind (wpAny_bind (wpAny_loadPart hx (wpAny_bind ((looks_clsIn X hc).here ?_))))))
  rw [hd]
  obtain ⟨hh, g, dr, t, os⟩ := s
  refine wpAny_bind (wpAny_alloc' ?_)
  refine wpAny_bind (wpAny_update' hx₁ ?_)
  refine wpAny_pure ?_
  have hgd : ((hh.push { cls := .type "dict", data := .dict #[] }).update x fun o => { cls := o.cls, dict := some hh.objs.size, data := o.data, slots := o.slots }).get? hh.objs.size
      = some { cls := .type "dict", data := .dict #[] } :=
    (Heap.get?_update_ne _ _ _ _ hxs.symm).trans (Heap.get?_push_at rfl rfl)
  have hnd : ((hh.push { cls := .type "dict", data := .dict #[] }).update x fun o => { cls := o.cls, dict := some hh.objs.size, data := o.data, slots := o.slots }).Ns hh.objs.size (fun _ => none) :=
    ⟨_, #[], _, hgd, rfl, fun e he => absurd he (by simp), fun _ => rfl⟩
  show wpAny _ _ (storeInDict hh.objs.size (.str name tk) name v) _ _ _
  unfold storeInDict newKeyGuard
  refine wpAny_bind (wpAny_pure (wpAny_bind (wpAny_nsSet1 (Heap.Ns1.of_empty hnd) fun h' hn' hs => ?_)))
  obtain ⟨oD, esD, epD, hoD, hdD, hcD⟩ := hn'.count (Within.cons name v Within.nil)
  refine wpAny_bind (wpAny_lookBehind hoD (by rw [hdD]; exact pastItsLine_dict (Nat.le_trans hcD (by rw [List.length_cons, List.length_nil, sizeLine_eq]; omega))) ?_)
  refine wpAny_pure ?_
  refine h h' hh.objs.size _ (fun b ob hbx hb => ?_) ?_ ?_
  · exact (hs.2 b (Nat.ne_of_lt (Heap.lt_size hb))).trans ((Heap.get?_update_ne _ _ _ _ hbx).trans (Heap.get?_push_of_some _ hb))
  · exact (hs.2 x hxs).trans (Heap.get?_update_self _ hx₁ rfl)
  · rw [hs.1]; simp [Heap.update, Heap.push]
end
end
section
open PySem PySem.W PySem.Calls
open PyProof.Rows (Fr News Below Top IntsAre envOf)
open Builtin Builtin.ObjectAttr
noncomputable def Thrown (C : Addr) (h h' : Heap) (e : Addr) : Prop :=
  (∀ b o, h.get? b = some o → h'.get? b = some o) ∧ h.get? e = none ∧ ∃ d T sl, h'.get? e = some ⟨.ref C, d, .fields #[.ref T, .none, .none, .none, .bool false, .none], sl⟩
section
variable {prog : Program} {w : World} {A : Around} {E : Value → Shared → Prop} {K : Frag} {C e T L : Addr} {s : Shared} {h₀ : Heap} {m : Str → Option Value} {rest : List (Addr × Obj)}
theorem exc_set {name : Str} {v : Value} {cd : ClassData} {attr : Option Value} {Q : Unit → Shared → Prop} (F : Fr h₀ L s.heap m) (X₀ : K.In h₀) (N : News h₀ L s.heap ((e, excObj C T) :: rest)) (hne : ∀ p ∈ rest, p.1 ≠ e)
    (hs : findIn K (.ref C) "__setattr__" = some (some (.builtin "object.__setattr__")))
    (hc : clsIn K C = some cd) (hd : cd.hasDict = true) (hpass : ∀ x, refuseLoop x "__setattr__" cd.mro = pure ()) (hsub : mroIn K C (.type "object") = some true)
    (ha : findIn K (.ref C) name = some attr) (hr : storeTaker? attr = pure none)
    (h : ∀ h' d tk', Fr h₀ L h' m → News h₀ L h' ((e, ⟨.ref C, some d, .fields #[.ref T, .none, .none, .none, .bool false, .none], #[]⟩) :: rest) → Q () { s with heap := h', toks := tk' }) :
    wpAny (model prog w) A (setAttr (.ref e) name v) Q E s := by
  have X := X₀.keeps F.keep
  have hx := (N _ (.head _)).1
  have hn := (N _ (.head _)).2
  refine set_plain (ox := excObj C T) (od := none) X ⟨hx, rfl, rfl, trivial⟩ hs (exc_store (s := { s with toks := s.toks + 1 }) X hx hc hd (hpass _) hsub ha hr fun h' d tk' k1 k2 k3 => ?_)
  refine h h' d tk' ⟨?_, fun b o q => k1 b o (fun z => ?_) (F.keep b o q), F.above⟩ fun p hp => ?_
  · obtain ⟨oL, es, ep, hL, r⟩ := F.ns
    exact ⟨oL, es, ep, k1 _ _ (Ne.symm hn.1) hL, r⟩
  · have := hn.2; rw [z] at q; rw [q] at this; cases this
  · rcases List.mem_cons.mp hp with rfl | hp
    · exact ⟨k2, hn⟩
    · exact ⟨k1 _ _ (hne p hp) (N p (.tail _ hp)).1, (N p (.tail _ hp)).2⟩
end
section
variable {M : Model} {A : Around} {E : Value → Shared → Prop} {s' : Shared} {base g : Heap} {outer : List Env} {L a e C : Addr} {m : Str → Option Value} {name : Str} {scope : Scope} {cd : Value} {Q : Unit → Shared → Prop} {news : List (Addr × Obj)} {oe : Obj} {T : Addr}
theorem leave_thrown {h : Heap} (K : Below A base outer g) (hx : Thrown C h s'.heap e) (F : Fr g L h m) (N : News g L h news)
    (hQ : ∀ h', RaisedN base outer e (.ref C) news h' → g.UpToSlots h' → Q () { s' with heap := h' }) (hk : scope.kind = .function := by rfl) :
    wpAny M (A.deeper (envOf name scope L a cd)) (leaving (envOf name scope L a cd) (.ref e)) Q E s' := by
  obtain ⟨hkeep, hnew, d, T, sl, he⟩ := hx
  have K' := K.push (name := name) (a := a) (cd := cd) F hk
  have hin : ∀ env ∈ (envOf name scope L a cd :: outer), ∀ b, env.frame = some b → b ∈ (envOf name scope L a cd :: outer).filterMap (·.frame) := fun env he b hb => List.mem_filterMap.mpr ⟨env, he, hb⟩
  have st : base.StaysIn (hideAll h ((envOf name scope L a cd :: outer).filterMap (·.frame))) := fun b o q => hideAll_get _ (K'.stays b o q) fun hm => by
    rw [(K'.frames.mem hm).1] at q; cases q
  have hl : ∀ q ∈ news, (hideAll h ((envOf name scope L a cd :: outer).filterMap (·.frame))).get? q.1 = some q.2 ∧ base.get? q.1 = none := fun q hq => by
    refine ⟨hideAll_get _ (N q hq).1 fun hm => ?_, fresh_of_stays K.stays (N q hq).2.2⟩
    obtain ⟨env, he, hf⟩ := List.mem_filterMap.mp hm
    rcases List.mem_cons.mp he with rfl | he
    · exact (N q hq).2.1 (Option.some.inj hf).symm
    · obtain ⟨o, ho, _⟩ := (K.frames.mem (List.mem_filterMap.mpr ⟨env, he, hf⟩)).2
      rw [(N q hq).2.2] at ho; cases ho
  have hen : (hideAll h ((envOf name scope L a cd :: outer).filterMap (·.frame))).get? e = none := by
    cases q : (hideAll h ((envOf name scope L a cd :: outer).filterMap (·.frame))).get? e with
    | none => rfl
    | some o => have := of_hideAll _ q; rw [hnew] at this; cases this
  refine wpAny_leaving_firstW (a0 := .ref T) K'.stack ((funFrames_hide K'.frames hin).of_keeps fun b o hb _ => ⟨o, hkeep b o hb, rfl⟩) rfl he (fun b o hb => hkeep b o (of_hideAll _ hb)) hen rfl rfl rfl fun h' hL => ?_
  obtain ⟨k1, ⟨_, _, k2⟩, k3, k4⟩ := hL
  exact hQ h' ⟨_, .ref T, st, hl, k1, hen, k2, k3⟩ (((Heap.UpToSlots.of_keeps F.keep).trans (Heap.UpToSlots.of_keeps hkeep)).trans k4)
end
end
section
open PySem PySem.W PySem.Calls
open PyProof.Rows (Fr News Below Top IntsAre envOf)
open Builtin Builtin.ObjectAttr
noncomputable def RaiseK (C : Addr) (h₀ : Heap) (L : Addr) (m : Str → Option Value) (E : Value → Shared → Prop) (s₂ : Shared) : Prop :=
  Fr h₀ L s₂.heap m ∧ ∀ e h' tk', Thrown C s₂.heap h' e → E (.ref e) { s₂ with heap := h', toks := tk' }
section
variable {M : Model} {A : Around} {E : Value → Shared → Prop} {env : Env}
variable {nm q : Str} {C N : Addr} {bs bm : List Value} {hdct : Bool} {sn : List Str} {sub : List Value} {ab : Bool} {col : Option Bool} {dd : Option Addr} {k0 k1 k2 k3 k5 : Option Value} {newId : String}
theorem raiseStmt_thrown {s : Shared} {x : Sem Value} {Q : Flow → Shared → Prop} (hbase : bm.contains (.type "BaseException") = true) (hh : A.handled = none)
    (h : wpAny M A x (fun v s₁ => ∃ e d T sl, v = .ref e ∧ s₁.heap.get? C = some (excClassObj nm q C N bs bm hdct sn sub ab col dd k0 k1 k2 k3 k5 newId) ∧
      s₁.heap.get? e = some ⟨.ref C, d, .fields #[.ref T, .none, .none, .none, .bool false, .none], sl⟩ ∧ E (.ref e) s₁) E s) :
    wpAny M A (raiseStmt env (some x) none) Q E s := by
  have hcB : (Value.ref C :: bm).contains (.type "BaseException") = true := by rw [List.contains_cons, hbase, Bool.or_true]
  unfold raiseStmt
  refine wpAny_bind (wpAny_mono h (fun v s₁ h₁ => ?_) fun _ _ x => x)
  obtain ⟨e, d, T, sl, rfl, hC, he, hE⟩ := h₁
  obtain ⟨hp, g, dr, tk, os⟩ := s₁
  repeat (first | with_reducible refine wpAny_loadPart_at he ?_ | with_reducible refine wpAny_loadPart_at hC ?_ | (with_reducible refine wpAny_isSubtype_exc hC ?_; rw [hcB]) | wp_step)
  exact wpAny_raiseNew_none hh hE
end
section
variable {prog : Program} {w : World} {A : Around} {E : Value → Shared → Prop} {K : Frag} {C L fI : Addr} {s : Shared} {h₀ : Heap} {m : Str → Option Value} {env : Env}
variable {nm q : Str} {N : Addr} {bs bm bmB : List Value} {hdct : Bool} {sn : List Str} {sub : List Value} {ab : Bool} {col : Option Bool} {dd : Option Addr} {k0 k1 k2 k3 k5 : Option Value} {B newId initId : String}
theorem raise_own {x : Str} {np cpos pos : Pos} {e₀ : Expr} {Q : Flow → Shared → Prop} (X₀ : K.In h₀) (FB : ExcBaseFacts B newId initId bmB)
    (hC : K.lookup C = some (excClassObj nm q C N bs bm hdct sn sub ab col dd k0 k1 k2 k3 k5 newId))
    (hb : bm.contains (.type B) = true) (ha : bm.contains (.type "AttributeError") = false) (hn : bm.contains (.type "NameError") = false) (hbase : bm.contains (.type "BaseException") = true)
    (hcall : specialIn K (.ref C) "__call__" = some (some (.builtin "type.__call__"))) (htyp : instIn K (.ref C) (.type "type") = some true)
    (hi : findIn K (.ref C) "__init__" = some (some (.ref fI))) (hf : isFn K (.ref fI) = true) (hh : A.handled = none)
    (hname : ∀ Q', Q' (.ref C) s → wpAny (model prog w) A (eval (.Name x np) env) Q' E s)
    (h : wpAny (model prog w) A (eval e₀ env) (fun v s₂ => (∀ b o, h₀.get? b = some o → s₂.heap.get? b = some o) ∧
       ∀ e hN, (∀ b o, s₂.heap.get? b = some o → hN.get? b = some o) → s₂.heap.get? e = none → (∃ T, hN.get? e = some (excObj C T)) → s₂.heap.objs.size ≤ e → e < hN.objs.size →
        codeAny (model prog w) (A.under (.builtin "type.__call__" ⟨.ref C :: [v], []⟩)) (.call (.ref fI) ⟨.ref e :: [v], []⟩)
          (InitBack e fun r s' => match r with | .ok (.ret _) => (∃ d T sl, s'.heap.get? e = some ⟨.ref C, d, .fields #[.ref T, .none, .none, .none, .bool false, .none], sl⟩) ∧ (∀ b o, h₀.get? b = some o → s'.heap.get? b = some o) ∧ E (.ref e) s' | .ok _ => False | .error e' => E e' s') { s₂ with heap := hN }) E s)
    (he : starEach [e₀] env = [(false, eval e₀ env)] := by rfl) :
    wpAny (model prog w) A (exec (.Raise (some (.Call (.Name x np) [e₀] [] cpos)) none pos) env) Q E s := by
  rw [arm_exec_Raise]
  refine wpAny_bind (wpAny_standAt (raiseStmt_thrown (C := C) (nm := nm) (q := q) (N := N) (bs := bs) (bm := bm) (hdct := hdct) (sn := sn) (sub := sub) (ab := ab) (col := col) (dd := dd) (k0 := k0) (k1 := k1) (k2 := k2) (k3 := k3) (k5 := k5) (newId := newId) hbase hh ?_))
  refine wpAny_bind (wpAny_mono (wpAny_Call_ofName (hname _ ?_)) (fun v s₃ h₃ => wpAny_bind (wpAny_standAt (wpAny_pure h₃))) fun _ _ x => x)
  unfold callWith
  have hplain : (backTo cpos (starEach [e₀] env)).any (·.1) = false := by rw [he]; rfl
  refine wpAny_bind (wpAny_holding (wpAny_mono (Q := fun a s₂ => ∃ v, a = ⟨[v], []⟩ ∧ (∀ b o, h₀.get? b = some o → s₂.heap.get? b = some o) ∧
       ∀ e hN, (∀ b o, s₂.heap.get? b = some o → hN.get? b = some o) → s₂.heap.get? e = none → (∃ T, hN.get? e = some (excObj C T)) → s₂.heap.objs.size ≤ e → e < hN.objs.size →
        codeAny (model prog w) (A.under (.builtin "type.__call__" ⟨.ref C :: [v], []⟩)) (.call (.ref fI) ⟨.ref e :: [v], []⟩)
          (InitBack e fun r s' => match r with | .ok (.ret _) => (∃ d T sl, s'.heap.get? e = some ⟨.ref C, d, .fields #[.ref T, .none, .none, .none, .bool false, .none], sl⟩) ∧ (∀ b o, h₀.get? b = some o → s'.heap.get? b = some o) ∧ E (.ref e) s' | .ok _ => False | .error e' => E e' s') { s₂ with heap := hN }) ?_ (fun a s₂ h₂ => wpAny_bind (wpAny_standAt ?_)) fun _ _ x => x))
  · rw [he]
    exact Calls.evalArgs_plain (Calls.spliced_cons (wpAny_mono h (fun v s₂ h₂ => Calls.spliced_nil ⟨v, rfl, h₂⟩) fun _ _ x => x))
  · obtain ⟨v, rfl, hk, h₂⟩ := h₂
    have X := X₀.keeps hk
    have hC2 := X _ _ hC
    obtain ⟨hp, g, dr, tk, os⟩ := s₂
    simp only [hplain]
    refine wpAny_bind (wpAny_keeperOf_exc hC2 ?_)
    refine wpAny_bind (wpAny_call (exc_make FB hb ha hn hC2 (looks_specialIn X hcall) (looks_instIn X htyp) (looks_findIn X hi) (fun self => bind_fn X self (beq_iff_eq.mp hf)) (by rw [PySem.sizeLine_eq]; simp) ?_))
    refine codeAny_mono (h₂ (hp.objs.size + 1) _ (fun b o e => Heap.get?_push_of_some _ (Heap.get?_push_of_some _ e)) (Heap.get?_none_of_le (Nat.le_succ _)) ⟨hp.objs.size, by heap_get⟩ (Nat.le_succ _) (by simp [Heap.push])) fun r s' z => ?_
    rcases r with e | (v | _ | _ | _) <;> first | exact z.elim | skip
    · exact z
    · obtain ⟨rfl, ⟨d, T, sl, he⟩, hk', hE⟩ := z
      refine ⟨rfl, wpAny_bind (wpAny_holding (wpAny_point (wpAny_pure ⟨_, d, T, sl, rfl, hk' _ _ (?_), he, hE⟩)))⟩
      exact X₀ _ _ hC
end
end
section
open PySem PySem.W PySem.Calls PyProof.Rows
open Builtin Builtin.ObjectAttr
/-- everything of h stands in h' but at the addresses S -/
noncomputable def Kept (S : List Addr) (h h' : Heap) : Prop := ∀ b o, b ∉ S → h.get? b = some o → h'.get? b = some o
theorem Kept.refl (S : List Addr) (h : Heap) : Kept S h h := fun _ _ _ e => e
theorem Kept.trans {S : List Addr} {h₁ h₂ h₃ : Heap} (x : Kept S h₁ h₂) (y : Kept S h₂ h₃) : Kept S h₁ h₃ := fun b o n e => y b o n (x b o n e)
theorem Kept.mono {S S' : List Addr} {h h' : Heap} (x : Kept S h h') (hs : ∀ a ∈ S, a ∈ S') : Kept S' h h' := fun b o n e => x b o (fun m => n (hs b m)) e
theorem fr_kept {S : List Addr} {h₀ h h' : Heap} {L : Addr} {m : Str → Option Value} (F : Fr h₀ L h m) (k : Kept S h h') (hS : ∀ a ∈ S, a ≠ L ∧ h₀.get? a = none) : Fr h₀ L h' m := by
  obtain ⟨oL, es, ep, hL, r⟩ := F.ns
  refine ⟨⟨oL, es, ep, k L oL (fun z => (hS L z).1 rfl) hL, r⟩, fun b o e => k b o (fun z => ?_) (F.keep b o e), F.above⟩
  have := (hS b z).2; rw [this] at e; cases e
theorem news_off {h₀ h : Heap} {L : Addr} {news : List (Addr × Obj)} (N : News h₀ L h news) : ∀ a ∈ news.map (·.1), a ≠ L ∧ h₀.get? a = none := fun a ha => by
  obtain ⟨p, hp, rfl⟩ := List.mem_map.mp ha
  exact (N p hp).2
theorem news_kept {S : List Addr} {h₀ h h' : Heap} {L : Addr} {news : List (Addr × Obj)} (N : News h₀ L h news) (k : Kept S h h') (hn : ∀ p ∈ news, p.1 ∉ S) : News h₀ L h' news :=
  fun p hp => ⟨k _ _ (hn p hp) (N p hp).1, (N p hp).2⟩
/-- the ledger behind a call that turned one object -/
theorem news_upd1 {h₀ h h' : Heap} {L d : Addr} {o o' : Obj} {news news' : List (Addr × Obj)} (N : News h₀ L h news) (U : Upd d o o' news news') (k : Kept [d] h h') (hd : h'.get? d = some o') : News h₀ L h' news' := by
  obtain ⟨pre, post, rfl, rfl, a, b⟩ := U.split
  intro p hp
  rcases List.mem_append.mp hp with q | q
  · have P := N p (List.mem_append_left _ q)
    exact ⟨k _ _ (fun z => a p q (List.mem_singleton.mp z)) P.1, P.2⟩
  · rcases List.mem_cons.mp q with rfl | q
    · exact ⟨hd, (N (d, o) (by simp)).2⟩
    · have P := N p (List.mem_append_right _ (.tail _ q))
      exact ⟨k _ _ (fun z => b p q (List.mem_singleton.mp z)) P.1, P.2⟩
theorem upd_mem {d : Addr} {o o' : Obj} {news news' : List (Addr × Obj)} (U : Upd d o o' news news') : (d, o) ∈ news := by
  obtain ⟨pre, post, rfl, rfl, a, b⟩ := U.split; simp
theorem fr_upd1 {h₀ h h' : Heap} {L d : Addr} {o o' : Obj} {m : Str → Option Value} {news news' : List (Addr × Obj)} (F : Fr h₀ L h m) (N : News h₀ L h news) (U : Upd d o o' news news') (k : Kept [d] h h') : Fr h₀ L h' m :=
  fr_kept F k fun a ha => by rw [List.mem_singleton.mp ha]; exact (N _ (upd_mem U)).2
noncomputable def LeaveM (g : Heap) (R : Result → Shared → Prop) (v : Value) (s' : Shared) : Prop :=
  ∃ L' m' news', Fr g L' s'.heap m' ∧ News g L' s'.heap news' ∧ (g.StaysIn s'.heap → (∀ p ∈ news', s'.heap.get? p.1 = some p.2) → R (.ok (.ret v)) s')
theorem leaveM_ {g : Heap} {L' : Addr} {m' : Str → Option Value} {news' : List (Addr × Obj)} {R : Result → Shared → Prop} {v : Value} {s' : Shared} (F' : Fr g L' s'.heap m') (N' : News g L' s'.heap news')
    (k : g.StaysIn s'.heap → (∀ p ∈ news', s'.heap.get? p.1 = some p.2) → R (.ok (.ret v)) s') : LeaveM g R v s' := ⟨L', m', news', F', N', k⟩
section
variable {prog : Program} {w : World} {A A₀ : Around} {s : Shared} {K : Frag} {L : Addr} {h₀ base : Heap} {m mg mb : Str → Option Value} {news : List (Addr × Obj)} {p : Program} {loose : List Str} {mean : ExcName → Option Value}
theorem enterM {env : Env} {outer : List Env} {R : Result → Shared → Prop} {name qual : Str} {params : Arguments} {body : List Stmt} {scope : Scope} {dV kV doc pm cdv ct oc : Value} {an od : Option Addr} {osl : Array (Option Value)} {f : Addr} {args : Args} {binds : List (Str × Value)}
    (B : Below A₀ base outer h₀) (F : Fr h₀ L s.heap m) (X₀ : K.In h₀) (N : News h₀ L s.heap news) (T : Top p loose mean mg mb h₀) (hA : A.frames = some (env :: outer)) (hf : env.frame = some L) (hke : env.scope.kind = .function)
    (ho : K.lookup f = some ⟨oc, od, .func (fnOf name qual params body scope dV kV doc pm an cdv ct), osl⟩) (hcd : codeIn K cdv qual = true) (hroom : A.depth < recursionLimit)
    (hbind : BindsTo s (fnOf name qual params body scope dV kV doc pm an cdv ct) args binds) (hloc : ∀ y ∈ binds, scope.names.lookup y.1 = some .local)
    (h : ∀ g L' h₁, Fr h₀ L g m → Fr g L' h₁ (fun y => binds.reverse.lookup y) → News g L' h₁ news → Below A base (env :: outer) g → K.In g → Top p loose mean mg mb g → (∀ p ∈ news, p.1 < L') →
      (∀ h', g.StaysIn h' → Kept (news.map (·.1)) s.heap h') → (∀ b o, g.get? b = some o → s.heap.get? b = some o ∧ b < L') →
      wpAny (model prog w) (A.deeper (envOf qual scope L' f cdv)) (execs body (envOf qual scope L' f cdv))
        (fun fl s' => LeaveM g R (match fl with | .ret v => v | _ => .none) s')
        (fun e s' => wpAny (model prog w) (A.deeper (envOf qual scope L' f cdv)) (leaving (envOf qual scope L' f cdv) e) (fun _ s'' => R (.error e) s'') (fun e' s'' => R (.error e') s'') s')
        { s with heap := h₁, toks := s.toks + binds.length })
    (hco : scope.isCoroutine = false) (hgen : scope.isGenerator = false) (hk : scope.kind = .function)
    (hcell : ∀ x ∈ scope.names, x.2 ≠ .cell) : codeAny (model prog w) A (.call (.ref f) args) R s := by
  obtain ⟨FG, BG, st, lv⟩ := groundX (R := R) B F N hA hf hke
  have X := X₀.keeps F.keep
  have XG := X₀.keeps st
  have TG := T.keeps st
  refine codeAny_call_def (fd := fnOf name qual params body scope dV kV doc pm an cdv ct) (body := body) (binds := binds) hroom (X _ _ ho) rfl (T.nolimit.keeps F.keep) (codeRec_of X hcd) rfl hbind hcell hloc (fun h₁ hns hk₁ => ?_) hco hgen hk
  refine wpAny_mono (h (hideAll s.heap (news.map (·.1))) s.heap.objs.size h₁ FG ⟨hns, fun b o e => hk₁ b o (of_hideAll _ e), Nat.le_of_eq (hideAll_size _ _)⟩
    (fun p hp => ⟨hk₁ _ _ (N p hp).1, Nat.ne_of_lt (Heap.lt_size (N p hp).1), hideAll_none _ (List.mem_map_of_mem hp)⟩) BG XG TG (fun p hp => Heap.lt_size (N p hp).1)
    (fun h' st' b o hb e => st' b o (hideAll_get _ e hb)) (fun b o e => ⟨of_hideAll _ e, Heap.lt_size (of_hideAll _ e)⟩)) (fun fl s' hl => ?_) fun _ _ y => y
  obtain ⟨L', m', news', F', N', k⟩ := hl
  exact k F'.keep fun p hp => (N' p hp).1
end
end
section
open PySem PySem.W PySem.Calls PyProof.Rows
open Builtin Builtin.ObjectAttr
abbrev excObj' (C T d : Addr) : Obj := ⟨.ref C, some d, .fields #[.ref T, .none, .none, .none, .bool false, .none], #[]⟩
theorem refuse51 (x : Value) : refuseLoop x "__setattr__" [.ref 51, .ref 38, .type "Exception", .type "BaseException", .type "object"] = pure () := by
  rw [refuseLoop_ref, refuseLoop_ref]
  exact PySem.F.store_Exception.passes x
theorem init35 {w : World} {mean : ExcName → Option Value} {mg mb : Str → Option Value} {dp un : Nat} {gd : Option (List Code)} {cn : Str} {cs : Scope} {a : Addr} {ccd : Value} {cl : List (Str × Addr)} {outer : List Env} {A₀ : Around} {base h₀ : Heap} {L : Addr} {m : Str → Option Value} {s : Shared}
   {R : Result → Shared → Prop} {e T : Addr} {v : Value}
   (B : Below A₀ base outer h₀) (F : Fr h₀ L s.heap m) (X : (lay.heap_1 w.params).In h₀)
   (N : News h₀ L s.heap [(e, excObj 51 T)])
   (T' : Top view (looseW view [Str.ofString "HintWork"]) mean mg mb h₀) (hk : cs.kind = .function)
   (hdp : dp + 1 < recursionLimit)
   (hret : ∀ h' tk' d, Kept [e] s.heap h' → h'.get? e = some (excObj' 51 T d) → R (.ok (.ret .none)) { s with heap := h', toks := tk' }) :
   codeAny (model PySem.Challenge.rw_on0247_01.row.toRowW.prog w) (ktrTop dp un gd cn cs L a ccd cl outer) (.call (.ref 35) ⟨[.ref e, v], []⟩) R s :=
  (by intro hz8; exact hz8 : (have hz8 : codeAny (model PySem.Challenge.rw_on0247_01.row.toRowW.prog w) (ktrTop dp un gd cn cs L a ccd cl outer) (.call (.ref 35) ⟨[.ref e, v], []⟩) R s := (by
  revert X; k_fill; intro X
  k_dflt (refine' enterM ?k1q7 ?k2q7 ?k3q7 ?k4q7 ?k5q7 ?kAq7 ?kFq7 ?kKq7 ?k6q7 ?k7q7 ?k8q7 ?k9q7 ?kBq7 ?_ ?c2q7 ?c3q7 ?c4q7 ?c5q7; (case kAq7 => exact rfl); (case kFq7 => exact rfl); (case kKq7 => assumption); (case k1q7 => k_asm); (case k2q7 => k_asm); (case k3q7 => k_asm); (case k4q7 => k_asm); (case k5q7 => k_asm); (case k6q7 => k_is); (case k7q7 => k_is); (case k8q7 => ktr_room); (case k9q7 => exact BindsTo.of_eq rfl); (case c5q7 => decide); (case kBq7 => exact locs rfl); (case c2q7 => exact rfl); (case c3q7 => exact rfl); (case c4q7 => exact rfl); k_whole)
  intro g' L' h' FG' F' N' B' X' T' hlt' hst' hin'
  (try k_lt hlt'); (try dsimp only); (try k_extra "x_fold")
  k_steps
  k_dflt (refine' exc_set (C := 51) ?k1q7 ?k2q7 ?k3q7 ?k4q7 ?k5q7 ?k6q7 ?k7q7 ?k8q7 ?k9q7 ?k10q7 ?k11q7 ?_; (case k1q7 => k_asm); (case k2q7 => k_asm); (case k3q7 => k_asm); (case k4q7 => exact fun _ hp => (nomatch hp)); (case k5q7 => k_is); (case k6q7 => k_is); (case k7q7 => rfl); (case k8q7 => exact refuse51); (case k9q7 => k_is); (case k10q7 => k_is); (case k11q7 => rfl); k_whole)
  intro h'' d' tk' F'' N''
  k_steps
  (k_dflt (refine' leaveM_ ?k1q7 ?k2q7 ?_; (case k1q7 => k_asm); (case k2q7 => k_asm); k_whole))
  intro kst kled
  exact hret _ _ _ (hst' _ kst) (kled _ (.head _))); codeAny (model PySem.Challenge.rw_on0247_01.row.toRowW.prog w) (ktrTop dp un gd cn cs L a ccd cl outer) (.call (.ref 35) ⟨[.ref e, v], []⟩) R s))
theorem raise_fault {w : World} {mean : ExcName → Option Value} {mg mb : Str → Option Value} {dp un : Nat} {gd : Option (List Code)} {cn : Str} {cs : Scope} {a : Addr} {ccd : Value} {cl : List (Str × Addr)} {outer : List Env} {A₀ : Around} {base h₀ : Heap} {L : Addr} {m : Str → Option Value} {s : Shared}
   {Q : Flow → Shared → Prop} {E : Value → Shared → Prop} {np cpos pos : Pos} {e₀ : Expr}
   (B : Below A₀ base outer h₀) (F : Fr h₀ L s.heap m) (X : (lay.heap_1 w.params).In h₀)
   (T' : Top view (looseW view [Str.ofString "HintWork"]) mean mg mb h₀) (hk : cs.kind = .function)
   (hdp : dp + 2 < recursionLimit) (hgl : (envX cn cs L a ccd cl).kindOf (Str.ofString "HintFault") = some .globalImplicit)
   (h : wpAny (model PySem.Challenge.rw_on0247_01.row.toRowW.prog w) (ktrTop dp un gd cn cs L a ccd cl outer) (eval e₀ (envX cn cs L a ccd cl)) (fun _ s₂ => RaiseK 51 h₀ L m E s₂) E s)
   (he : starEach [e₀] (envX cn cs L a ccd cl) = [(false, eval e₀ (envX cn cs L a ccd cl))]) :
   wpAny (model PySem.Challenge.rw_on0247_01.row.toRowW.prog w) (ktrTop dp un gd cn cs L a ccd cl outer) (exec (.Raise (some (.Call (.Name (Str.ofString "HintFault") np) [e₀] [] cpos)) none pos) (envX cn cs L a ccd cl)) Q E s := by
  revert X; k_fill; intro X
  k_dflt (refine' raise_own (h₀ := h₀) (C := 51) (fI := 35) X PySem.F.excBase_Exception ?hCq7 ?hbq7 ?haq7 ?hnq7 ?hbaseq7 ?hcallq7 ?htypq7 ?hiq7 ?hfq7 ?hhq7 ?hnameq7 ?hq7 he; (case hCq7 => k_is); (case hbq7 => decide); (case haq7 => decide); (case hnq7 => decide); (case hbaseq7 => decide); (case hcallq7 => k_is); (case htypq7 => k_is); (case hiq7 => k_is); (case hfq7 => k_is); (case hhq7 => rfl))
  · intro Q' hq
    k_dflt (exact nameX_K F X (topRead_of T') (by k_is) hq hk hgl)
  · refine wpAny_mono h (fun v s₂ h₂ => ⟨h₂.1.keep, fun e hN k1 k2 k3 k4 k5 => ?_⟩) fun _ _ x => x
    obtain ⟨T, k3⟩ := k3
    obtain ⟨F₂, hE⟩ := h₂
    obtain ⟨oL, es, ep, hL, r⟩ := F₂.ns
    have F₃ : Fr h₀ L hN m := ⟨⟨oL, es, ep, k1 _ _ hL, r⟩, fun b o q => k1 _ _ (F₂.keep _ _ q), F₂.above⟩
    have N₃ : News h₀ L hN [(e, excObj 51 T)] := fun p hp => by
      rw [List.mem_singleton.mp hp]
      refine ⟨k3, fun z => ?_, ?_⟩
      · have z' : e = L := z
        rw [z', hL] at k2; cases k2
      · cases q : h₀.get? e with
        | none => rfl
        | some o => rw [F₂.keep _ _ q] at k2; cases k2
    refine init35 (s := { s₂ with heap := hN }) (dp := dp + 1) B F₃ X N₃ T' hk hdp fun h' tk' d kk ke => ?_
    refine ⟨rfl, ⟨some d, T, #[], ke⟩, fun b o q => kk _ _ (fun z => ?_) (k1 _ _ (F₂.keep _ _ q)), hE e h' tk' ⟨fun b o q => kk _ _ (fun z => ?_) (k1 _ _ q), k2, some d, T, #[], ke⟩⟩
    · rw [List.mem_singleton.mp z] at q; rw [F₂.keep _ _ q] at k2; cases k2
    · rw [List.mem_singleton.mp z] at q; rw [q] at k2; cases k2
end
abbrev keyE (w : World) (n : String) (t : Tok) (v : Value) : DictEntry := ⟨PyData.keyHash w.params (Str.ofString n), .str (Str.ofString n) t, v⟩
abbrev StkE (w : World) (t1 t2 tm : Tok) (nl : Addr) : List DictEntry := [keyE w "most" t1 (.int 12 tm), keyE w "numbers" t2 (.ref nl)]
theorem ne_obj {h : Heap} {x y : Addr} {o o' : Obj} (e : h.get? x = some o) (e' : h.get? y = some o') (n : o.cls ≠ o'.cls) : x ≠ y := fun z => by
  subst z; rw [e] at e'; exact n (by rw [Option.some.inj e'])
theorem kept_of {S : List Addr} {h h' : Heap} {small : List (Addr × Obj)} (k : Kept (small.map (·.1)) h h') (hold : ∀ p ∈ small, h.get? p.1 = some p.2) (same : ∀ p ∈ small, p.1 ∉ S → h'.get? p.1 = some p.2) : Kept S h h' := fun b o hb e => by
  by_cases q : b ∈ small.map (·.1)
  · obtain ⟨p, hp, rfl⟩ := List.mem_map.mp q
    have := hold p hp
    rw [e] at this
    rw [Option.some.inj this]
    exact same p hp hb
  · exact k b o q e
noncomputable def SkOn : Prop := True
theorem skon : SkOn := trivial
noncomputable def SkEn : Prop := True
theorem sken : SkEn := trivial
noncomputable def CkB : Prop := True
theorem ckb : CkB := trivial
noncomputable def skq {α : Type} (n : Nonempty α) (R : α → Prop) : α := @Classical.epsilon α n (fun x => ¬ R x)
theorem skq_ok {α : Type} {R : α → Prop} {n : Nonempty α} (f : R (skq n R)) : ∀ x, R x := fun x => Classical.byContradiction fun k => (@Classical.epsilon_spec α (fun x => ¬ R x) ⟨x, k⟩) f
noncomputable def skc1 {A0 : Type} (n0 : Nonempty A0) (R : (A0 → Prop)) : A0 := skq (α := A0) n0 fun p => R p
noncomputable def sk1x0 {A0 : Type} (n0 : Nonempty A0) (R : (A0 → Prop)) : A0 := (skc1 n0 R)
theorem sk1 {A0 : Type} {R : (A0 → Prop)} (n0 : Nonempty A0) (f : R (sk1x0 n0 R)) : ∀ x0, R x0 := fun x0 => skq_ok (R := fun p : A0 => R p) f x0
noncomputable def skc2 {A0 A1 : Type} (n0 : Nonempty A0) (n1 : Nonempty A1) (R : (A0 → A1 → Prop)) : A0 × A1 := skq (α := A0 × A1) ⟨(@Classical.ofNonempty _ n0, @Classical.ofNonempty _ n1)⟩ fun p => R p.1 p.2
noncomputable def sk2x0 {A0 A1 : Type} (n0 : Nonempty A0) (n1 : Nonempty A1) (R : (A0 → A1 → Prop)) : A0 := (skc2 n0 n1 R).1
noncomputable def sk2x1 {A0 A1 : Type} (n0 : Nonempty A0) (n1 : Nonempty A1) (R : (A0 → A1 → Prop)) : A1 := (skc2 n0 n1 R).2
theorem sk2 {A0 A1 : Type} {R : (A0 → A1 → Prop)} (n0 : Nonempty A0) (n1 : Nonempty A1) (f : R (sk2x0 n0 n1 R) (sk2x1 n0 n1 R)) : ∀ x0 x1, R x0 x1 := fun x0 x1 => skq_ok (R := fun p : A0 × A1 => R p.1 p.2) f (x0, x1)
noncomputable def skc3 {A0 A1 A2 : Type} (n0 : Nonempty A0) (n1 : Nonempty A1) (n2 : Nonempty A2) (R : (A0 → A1 → A2 → Prop)) : A0 × A1 × A2 := skq (α := A0 × A1 × A2) ⟨(@Classical.ofNonempty _ n0, @Classical.ofNonempty _ n1, @Classical.ofNonempty _ n2)⟩ fun p => R p.1 p.2.1 p.2.2
noncomputable def sk3x0 {A0 A1 A2 : Type} (n0 : Nonempty A0) (n1 : Nonempty A1) (n2 : Nonempty A2) (R : (A0 → A1 → A2 → Prop)) : A0 := (skc3 n0 n1 n2 R).1
noncomputable def sk3x1 {A0 A1 A2 : Type} (n0 : Nonempty A0) (n1 : Nonempty A1) (n2 : Nonempty A2) (R : (A0 → A1 → A2 → Prop)) : A1 := (skc3 n0 n1 n2 R).2.1
noncomputable def sk3x2 {A0 A1 A2 : Type} (n0 : Nonempty A0) (n1 : Nonempty A1) (n2 : Nonempty A2) (R : (A0 → A1 → A2 → Prop)) : A2 := (skc3 n0 n1 n2 R).2.2
theorem sk3 {A0 A1 A2 : Type} {R : (A0 → A1 → A2 → Prop)} (n0 : Nonempty A0) (n1 : Nonempty A1) (n2 : Nonempty A2) (f : R (sk3x0 n0 n1 n2 R) (sk3x1 n0 n1 n2 R) (sk3x2 n0 n1 n2 R)) : ∀ x0 x1 x2, R x0 x1 x2 := fun x0 x1 x2 => skq_ok (R := fun p : A0 × A1 × A2 => R p.1 p.2.1 p.2.2) f (x0, x1, x2)
noncomputable def skc4 {A0 A1 A2 A3 : Type} (n0 : Nonempty A0) (n1 : Nonempty A1) (n2 : Nonempty A2) (n3 : Nonempty A3) (R : (A0 → A1 → A2 → A3 → Prop)) : A0 × A1 × A2 × A3 := skq (α := A0 × A1 × A2 × A3) ⟨(@Classical.ofNonempty _ n0, @Classical.ofNonempty _ n1, @Classical.ofNonempty _ n2, @Classical.ofNonempty _ n3)⟩ fun p => R p.1 p.2.1 p.2.2.1 p.2.2.2
noncomputable def sk4x0 {A0 A1 A2 A3 : Type} (n0 : Nonempty A0) (n1 : Nonempty A1) (n2 : Nonempty A2) (n3 : Nonempty A3) (R : (A0 → A1 → A2 → A3 → Prop)) : A0 := (skc4 n0 n1 n2 n3 R).1
noncomputable def sk4x1 {A0 A1 A2 A3 : Type} (n0 : Nonempty A0) (n1 : Nonempty A1) (n2 : Nonempty A2) (n3 : Nonempty A3) (R : (A0 → A1 → A2 → A3 → Prop)) : A1 := (skc4 n0 n1 n2 n3 R).2.1
noncomputable def sk4x2 {A0 A1 A2 A3 : Type} (n0 : Nonempty A0) (n1 : Nonempty A1) (n2 : Nonempty A2) (n3 : Nonempty A3) (R : (A0 → A1 → A2 → A3 → Prop)) : A2 := (skc4 n0 n1 n2 n3 R).2.2.1
noncomputable def sk4x3 {A0 A1 A2 A3 : Type} (n0 : Nonempty A0) (n1 : Nonempty A1) (n2 : Nonempty A2) (n3 : Nonempty A3) (R : (A0 → A1 → A2 → A3 → Prop)) : A3 := (skc4 n0 n1 n2 n3 R).2.2.2
theorem sk4 {A0 A1 A2 A3 : Type} {R : (A0 → A1 → A2 → A3 → Prop)} (n0 : Nonempty A0) (n1 : Nonempty A1) (n2 : Nonempty A2) (n3 : Nonempty A3) (f : R (sk4x0 n0 n1 n2 n3 R) (sk4x1 n0 n1 n2 n3 R) (sk4x2 n0 n1 n2 n3 R) (sk4x3 n0 n1 n2 n3 R)) : ∀ x0 x1 x2 x3, R x0 x1 x2 x3 := fun x0 x1 x2 x3 => skq_ok (R := fun p : A0 × A1 × A2 × A3 => R p.1 p.2.1 p.2.2.1 p.2.2.2) f (x0, x1, x2, x3)
noncomputable def skc5 {A0 A1 A2 A3 A4 : Type} (n0 : Nonempty A0) (n1 : Nonempty A1) (n2 : Nonempty A2) (n3 : Nonempty A3) (n4 : Nonempty A4) (R : (A0 → A1 → A2 → A3 → A4 → Prop)) : A0 × A1 × A2 × A3 × A4 := skq (α := A0 × A1 × A2 × A3 × A4) ⟨(@Classical.ofNonempty _ n0, @Classical.ofNonempty _ n1, @Classical.ofNonempty _ n2, @Classical.ofNonempty _ n3, @Classical.ofNonempty _ n4)⟩ fun p => R p.1 p.2.1 p.2.2.1 p.2.2.2.1 p.2.2.2.2
noncomputable def sk5x0 {A0 A1 A2 A3 A4 : Type} (n0 : Nonempty A0) (n1 : Nonempty A1) (n2 : Nonempty A2) (n3 : Nonempty A3) (n4 : Nonempty A4) (R : (A0 → A1 → A2 → A3 → A4 → Prop)) : A0 := (skc5 n0 n1 n2 n3 n4 R).1
noncomputable def sk5x1 {A0 A1 A2 A3 A4 : Type} (n0 : Nonempty A0) (n1 : Nonempty A1) (n2 : Nonempty A2) (n3 : Nonempty A3) (n4 : Nonempty A4) (R : (A0 → A1 → A2 → A3 → A4 → Prop)) : A1 := (skc5 n0 n1 n2 n3 n4 R).2.1
noncomputable def sk5x2 {A0 A1 A2 A3 A4 : Type} (n0 : Nonempty A0) (n1 : Nonempty A1) (n2 : Nonempty A2) (n3 : Nonempty A3) (n4 : Nonempty A4) (R : (A0 → A1 → A2 → A3 → A4 → Prop)) : A2 := (skc5 n0 n1 n2 n3 n4 R).2.2.1
noncomputable def sk5x3 {A0 A1 A2 A3 A4 : Type} (n0 : Nonempty A0) (n1 : Nonempty A1) (n2 : Nonempty A2) (n3 : Nonempty A3) (n4 : Nonempty A4) (R : (A0 → A1 → A2 → A3 → A4 → Prop)) : A3 := (skc5 n0 n1 n2 n3 n4 R).2.2.2.1
noncomputable def sk5x4 {A0 A1 A2 A3 A4 : Type} (n0 : Nonempty A0) (n1 : Nonempty A1) (n2 : Nonempty A2) (n3 : Nonempty A3) (n4 : Nonempty A4) (R : (A0 → A1 → A2 → A3 → A4 → Prop)) : A4 := (skc5 n0 n1 n2 n3 n4 R).2.2.2.2
theorem sk5 {A0 A1 A2 A3 A4 : Type} {R : (A0 → A1 → A2 → A3 → A4 → Prop)} (n0 : Nonempty A0) (n1 : Nonempty A1) (n2 : Nonempty A2) (n3 : Nonempty A3) (n4 : Nonempty A4) (f : R (sk5x0 n0 n1 n2 n3 n4 R) (sk5x1 n0 n1 n2 n3 n4 R) (sk5x2 n0 n1 n2 n3 n4 R) (sk5x3 n0 n1 n2 n3 n4 R) (sk5x4 n0 n1 n2 n3 n4 R)) : ∀ x0 x1 x2 x3 x4, R x0 x1 x2 x3 x4 := fun x0 x1 x2 x3 x4 => skq_ok (R := fun p : A0 × A1 × A2 × A3 × A4 => R p.1 p.2.1 p.2.2.1 p.2.2.2.1 p.2.2.2.2) f (x0, x1, x2, x3, x4)
noncomputable def skc6 {A0 A1 A2 A3 A4 A5 : Type} (n0 : Nonempty A0) (n1 : Nonempty A1) (n2 : Nonempty A2) (n3 : Nonempty A3) (n4 : Nonempty A4) (n5 : Nonempty A5) (R : (A0 → A1 → A2 → A3 → A4 → A5 → Prop)) : A0 × A1 × A2 × A3 × A4 × A5 := skq (α := A0 × A1 × A2 × A3 × A4 × A5) ⟨(@Classical.ofNonempty _ n0, @Classical.ofNonempty _ n1, @Classical.ofNonempty _ n2, @Classical.ofNonempty _ n3, @Classical.ofNonempty _ n4, @Classical.ofNonempty _ n5)⟩ fun p => R p.1 p.2.1 p.2.2.1 p.2.2.2.1 p.2.2.2.2.1 p.2.2.2.2.2
noncomputable def sk6x0 {A0 A1 A2 A3 A4 A5 : Type} (n0 : Nonempty A0) (n1 : Nonempty A1) (n2 : Nonempty A2) (n3 : Nonempty A3) (n4 : Nonempty A4) (n5 : Nonempty A5) (R : (A0 → A1 → A2 → A3 → A4 → A5 → Prop)) : A0 := (skc6 n0 n1 n2 n3 n4 n5 R).1
noncomputable def sk6x1 {A0 A1 A2 A3 A4 A5 : Type} (n0 : Nonempty A0) (n1 : Nonempty A1) (n2 : Nonempty A2) (n3 : Nonempty A3) (n4 : Nonempty A4) (n5 : Nonempty A5) (R : (A0 → A1 → A2 → A3 → A4 → A5 → Prop)) : A1 := (skc6 n0 n1 n2 n3 n4 n5 R).2.1
noncomputable def sk6x2 {A0 A1 A2 A3 A4 A5 : Type} (n0 : Nonempty A0) (n1 : Nonempty A1) (n2 : Nonempty A2) (n3 : Nonempty A3) (n4 : Nonempty A4) (n5 : Nonempty A5) (R : (A0 → A1 → A2 → A3 → A4 → A5 → Prop)) : A2 := (skc6 n0 n1 n2 n3 n4 n5 R).2.2.1
noncomputable def sk6x3 {A0 A1 A2 A3 A4 A5 : Type} (n0 : Nonempty A0) (n1 : Nonempty A1) (n2 : Nonempty A2) (n3 : Nonempty A3) (n4 : Nonempty A4) (n5 : Nonempty A5) (R : (A0 → A1 → A2 → A3 → A4 → A5 → Prop)) : A3 := (skc6 n0 n1 n2 n3 n4 n5 R).2.2.2.1
noncomputable def sk6x4 {A0 A1 A2 A3 A4 A5 : Type} (n0 : Nonempty A0) (n1 : Nonempty A1) (n2 : Nonempty A2) (n3 : Nonempty A3) (n4 : Nonempty A4) (n5 : Nonempty A5) (R : (A0 → A1 → A2 → A3 → A4 → A5 → Prop)) : A4 := (skc6 n0 n1 n2 n3 n4 n5 R).2.2.2.2.1
noncomputable def sk6x5 {A0 A1 A2 A3 A4 A5 : Type} (n0 : Nonempty A0) (n1 : Nonempty A1) (n2 : Nonempty A2) (n3 : Nonempty A3) (n4 : Nonempty A4) (n5 : Nonempty A5) (R : (A0 → A1 → A2 → A3 → A4 → A5 → Prop)) : A5 := (skc6 n0 n1 n2 n3 n4 n5 R).2.2.2.2.2
theorem sk6 {A0 A1 A2 A3 A4 A5 : Type} {R : (A0 → A1 → A2 → A3 → A4 → A5 → Prop)} (n0 : Nonempty A0) (n1 : Nonempty A1) (n2 : Nonempty A2) (n3 : Nonempty A3) (n4 : Nonempty A4) (n5 : Nonempty A5) (f : R (sk6x0 n0 n1 n2 n3 n4 n5 R) (sk6x1 n0 n1 n2 n3 n4 n5 R) (sk6x2 n0 n1 n2 n3 n4 n5 R) (sk6x3 n0 n1 n2 n3 n4 n5 R) (sk6x4 n0 n1 n2 n3 n4 n5 R) (sk6x5 n0 n1 n2 n3 n4 n5 R)) : ∀ x0 x1 x2 x3 x4 x5, R x0 x1 x2 x3 x4 x5 := fun x0 x1 x2 x3 x4 x5 => skq_ok (R := fun p : A0 × A1 × A2 × A3 × A4 × A5 => R p.1 p.2.1 p.2.2.1 p.2.2.2.1 p.2.2.2.2.1 p.2.2.2.2.2) f (x0, x1, x2, x3, x4, x5)
theorem sub_cons {α : Type _} {e : α} {l k : List α} (m : e ∈ k) (h : ∀ p ∈ l, p ∈ k) : ∀ p ∈ e :: l, p ∈ k := fun p hp => (List.mem_cons.mp hp).elim (fun q => q ▸ m) (h p)
theorem sub_mid {α : Type _} (a b : List α) (x : α) : ∀ p ∈ a ++ b, p ∈ a ++ x :: b := fun p hp => (List.mem_append.mp hp).elim (fun h => List.mem_append_left _ h) (fun h => List.mem_append_right _ (.tail _ h))
theorem mem_mid {α : Type _} (a b : List α) (x : α) : x ∈ a ++ x :: b := List.mem_append_right _ (.head _)
theorem back_mid {α : Type _} {a b l : List α} {x : α} (hx : x ∈ l) (h : ∀ p ∈ a ++ b, p ∈ l) : ∀ p ∈ a ++ x :: b, p ∈ l := fun p hp => (List.mem_append.mp hp).elim (fun q => h p (List.mem_append_left _ q)) (fun q => (List.mem_cons.mp q).elim (fun e => e ▸ hx) (fun q => h p (List.mem_append_right _ q)))
theorem off_mid {a b : List (Addr × Obj)} {d : Addr} (h1 : ∀ p ∈ a, p.1 ≠ d) (h2 : ∀ p ∈ b, p.1 ≠ d) : OwnOff (a ++ b) [d] := fun p hp c hc => by
  rw [List.mem_singleton.mp hc]; exact (List.mem_append.mp hp).elim (h1 p) (h2 p)
theorem rm0 {a k N : Nat} (h : a + k < N) : a < N := Nat.lt_of_le_of_lt (Nat.le_add_right a k) h
theorem rm1 {a k j N : Nat} (h : a + k < N) (e : Nat.ble j k = true) : a + j < N := Nat.lt_of_le_of_lt (Nat.add_le_add_left (Nat.le_of_ble_eq_true e) a) h
theorem rm2 {a k i j N : Nat} (h : a + k < N) (e : Nat.ble (i + j) k = true) : a + i + j < N := Nat.add_assoc a i j ▸ rm1 h e
theorem rm3 {a k i j l N : Nat} (h : a + k < N) (e : Nat.ble (i + j + l) k = true) : a + i + j + l < N := by have := rm1 h e; omega
theorem nec0 {x D : Nat} {P : Prop} (h : @LT.lt Nat _ x D ∧ P) : @Ne Nat D x := Nat.ne_of_gt h.1
theorem nec1 {y0 x D : Nat} {P : Prop} (h : @LT.lt Nat _ y0 D ∧ @LT.lt Nat _ x D ∧ P) : @Ne Nat D x := Nat.ne_of_gt h.2.1
theorem nec2 {y0 y1 x D : Nat} {P : Prop} (h : @LT.lt Nat _ y0 D ∧ @LT.lt Nat _ y1 D ∧ @LT.lt Nat _ x D ∧ P) : @Ne Nat D x := Nat.ne_of_gt h.2.2.1
theorem nec3 {y0 y1 y2 x D : Nat} {P : Prop} (h : @LT.lt Nat _ y0 D ∧ @LT.lt Nat _ y1 D ∧ @LT.lt Nat _ y2 D ∧ @LT.lt Nat _ x D ∧ P) : @Ne Nat D x := Nat.ne_of_gt h.2.2.2.1
theorem nec4 {y0 y1 y2 y3 x D : Nat} {P : Prop} (h : @LT.lt Nat _ y0 D ∧ @LT.lt Nat _ y1 D ∧ @LT.lt Nat _ y2 D ∧ @LT.lt Nat _ y3 D ∧ @LT.lt Nat _ x D ∧ P) : @Ne Nat D x := Nat.ne_of_gt h.2.2.2.2.1
theorem nec5 {y0 y1 y2 y3 y4 x D : Nat} {P : Prop} (h : @LT.lt Nat _ y0 D ∧ @LT.lt Nat _ y1 D ∧ @LT.lt Nat _ y2 D ∧ @LT.lt Nat _ y3 D ∧ @LT.lt Nat _ y4 D ∧ @LT.lt Nat _ x D ∧ P) : @Ne Nat D x := Nat.ne_of_gt h.2.2.2.2.2.1
theorem nec6 {y0 y1 y2 y3 y4 y5 x D : Nat} {P : Prop} (h : @LT.lt Nat _ y0 D ∧ @LT.lt Nat _ y1 D ∧ @LT.lt Nat _ y2 D ∧ @LT.lt Nat _ y3 D ∧ @LT.lt Nat _ y4 D ∧ @LT.lt Nat _ y5 D ∧ @LT.lt Nat _ x D ∧ P) : @Ne Nat D x := Nat.ne_of_gt h.2.2.2.2.2.2.1
theorem nec7 {y0 y1 y2 y3 y4 y5 y6 x D : Nat} {P : Prop} (h : @LT.lt Nat _ y0 D ∧ @LT.lt Nat _ y1 D ∧ @LT.lt Nat _ y2 D ∧ @LT.lt Nat _ y3 D ∧ @LT.lt Nat _ y4 D ∧ @LT.lt Nat _ y5 D ∧ @LT.lt Nat _ y6 D ∧ @LT.lt Nat _ x D ∧ P) : @Ne Nat D x := Nat.ne_of_gt h.2.2.2.2.2.2.2.1
theorem nec8 {y0 y1 y2 y3 y4 y5 y6 y7 x D : Nat} {P : Prop} (h : @LT.lt Nat _ y0 D ∧ @LT.lt Nat _ y1 D ∧ @LT.lt Nat _ y2 D ∧ @LT.lt Nat _ y3 D ∧ @LT.lt Nat _ y4 D ∧ @LT.lt Nat _ y5 D ∧ @LT.lt Nat _ y6 D ∧ @LT.lt Nat _ y7 D ∧ @LT.lt Nat _ x D ∧ P) : @Ne Nat D x := Nat.ne_of_gt h.2.2.2.2.2.2.2.2.1
theorem nec9 {y0 y1 y2 y3 y4 y5 y6 y7 y8 x D : Nat} {P : Prop} (h : @LT.lt Nat _ y0 D ∧ @LT.lt Nat _ y1 D ∧ @LT.lt Nat _ y2 D ∧ @LT.lt Nat _ y3 D ∧ @LT.lt Nat _ y4 D ∧ @LT.lt Nat _ y5 D ∧ @LT.lt Nat _ y6 D ∧ @LT.lt Nat _ y7 D ∧ @LT.lt Nat _ y8 D ∧ @LT.lt Nat _ x D ∧ P) : @Ne Nat D x := Nat.ne_of_gt h.2.2.2.2.2.2.2.2.2.1
theorem nec10 {y0 y1 y2 y3 y4 y5 y6 y7 y8 y9 x D : Nat} {P : Prop} (h : @LT.lt Nat _ y0 D ∧ @LT.lt Nat _ y1 D ∧ @LT.lt Nat _ y2 D ∧ @LT.lt Nat _ y3 D ∧ @LT.lt Nat _ y4 D ∧ @LT.lt Nat _ y5 D ∧ @LT.lt Nat _ y6 D ∧ @LT.lt Nat _ y7 D ∧ @LT.lt Nat _ y8 D ∧ @LT.lt Nat _ y9 D ∧ @LT.lt Nat _ x D ∧ P) : @Ne Nat D x := Nat.ne_of_gt h.2.2.2.2.2.2.2.2.2.2.1
theorem nec11 {y0 y1 y2 y3 y4 y5 y6 y7 y8 y9 y10 x D : Nat} {P : Prop} (h : @LT.lt Nat _ y0 D ∧ @LT.lt Nat _ y1 D ∧ @LT.lt Nat _ y2 D ∧ @LT.lt Nat _ y3 D ∧ @LT.lt Nat _ y4 D ∧ @LT.lt Nat _ y5 D ∧ @LT.lt Nat _ y6 D ∧ @LT.lt Nat _ y7 D ∧ @LT.lt Nat _ y8 D ∧ @LT.lt Nat _ y9 D ∧ @LT.lt Nat _ y10 D ∧ @LT.lt Nat _ x D ∧ P) : @Ne Nat D x := Nat.ne_of_gt h.2.2.2.2.2.2.2.2.2.2.2.1
theorem ints_app {vs us : List Value} {ns ms : List Int} (h : IntsAre vs ns) (h' : IntsAre us ms) : IntsAre (vs ++ us) (ns ++ ms) := by
  induction h with
  | nil => exact h'
  | cons n t _ ih => exact .cons n t ih
theorem raised_sub {base : Heap} {l : List Env} {e : Addr} {cls : Value} {news news' : List (Addr × Obj)} {h : Heap} (R : RaisedN base l e cls news h) (hs : ∀ p ∈ news', p ∈ news) : RaisedN base l e cls news' h := by
  obtain ⟨B, a0, h1, h2, h3⟩ := R
  exact ⟨B, a0, h1, fun q hq => h2 q (hs q hq), h3⟩
structure GV where
  (v : Nat → Value) (g : Nat → Tok)
structure WTok where
  (a1 a2 a3 a4 a5 a6 a7 a8 pp ps : Tok)
abbrev WrkE (w : World) (u : WTok) (G S zn cv sd sc : Addr) (ppem : Int) : List DictEntry :=
  [keyE w "state" u.a1 (.ref G), keyE w "stack" u.a2 (.ref S), keyE w "zones" u.a3 (.ref zn), keyE w "cvt" u.a4 (.ref cv), keyE w "storage" u.a5 (.ref sd), keyE w "ppem" u.a6 (.int ppem u.pp), keyE w "point_size" u.a7 (.int 700 u.ps), keyE w "scale" u.a8 (.ref sc)]
theorem ints_one {v x : Int} {t : Tok} (h : v = x) : IntsAre [Value.int v t] [x] := by subst h; exact .cons _ _ .nil
structure Bag where
  fA : Nat → Addr
  fT : Nat → Tok
  fI : Nat → Int
  fN : Nat → Nat
  fV : Nat → Value
  fO : Nat → Obj
  fVL : Nat → List Value
  fIL : Nat → List Int
  fKV : Nat → List (Int × Value)
  fKI : Nat → List (Int × Int)
  fAO : Nat → List (Addr × Obj)
  fU : Nat → WTok
  fG : Nat → GV
  fPr : Nat → Program
  fEv : Nat → Env
  fSs : Nat → List Stmt
  fEx : Nat → Expr
  fQF : Nat → Flow → Shared → Prop
  fJ : Nat → Nat → List (Addr × Obj) → Prop
  fWo : Nat → World
  fMe : Nat → ExcName → Option Value
  fM : Nat → Str → Option Value
  fGD : Nat → Option (List Code)
  fSt : Nat → Str
  fSc : Nat → Scope
  fCL : Nat → List (Str × Addr)
  fEn : Nat → List Env
  fAr : Nat → Around
  fH : Nat → Heap
  fSh : Nat → Shared
  fQ : Nat → Value → Shared → Prop
noncomputable def bag0 : Bag := ⟨fun _ => 0, fun _ => 0, fun _ => 0, fun _ => 0, fun _ => .none, fun _ => ⟨.none, none, .plain, #[]⟩, fun _ => [], fun _ => [], fun _ => [], fun _ => [], fun _ => [], fun _ => ⟨0, 0, 0, 0, 0, 0, 0, 0, 0, 0⟩, fun _ => ⟨fun _ => .none, fun _ => 0⟩, fun _ => default, fun _ => default, fun _ => [], fun _ => default, fun _ => (fun _ _ => True), fun _ => (fun _ _ => True), fun _ => ⟨fun _ n => n, { strHash := fun _ => 0, shareClass := fun _ => 0, mergeTok := id, idOf := fun _ => 0, idOfShared := fun _ _ => 0, followText := fun _ => true, idOfImm := fun _ => 0 }⟩, fun _ => (fun _ => none), fun _ => (fun _ => none), fun _ => none, fun _ => Str.ofString "x", fun _ => default, fun _ => [], fun _ => [], fun _ => {}, fun _ => {}, fun _ => {}, fun _ => (fun _ _ => True)⟩
theorem sk_ex (S : Bag → Prop) : ∃ c : Bag, S c → ∀ p, S p := (Classical.em (∃ c, ¬ S c)).elim (fun ⟨c, h⟩ => ⟨c, fun k => absurd k h⟩) (fun h => ⟨bag0, fun _ p => Classical.byContradiction fun k => h ⟨p, k⟩⟩)
noncomputable def skc (S : Bag → Prop) : Bag := Classical.choose (sk_ex S)
theorem all_nil {α : Type _} (P : α → Prop) : ∀ f ∈ ([] : List α), P f := fun _ h => nomatch h
theorem all_cons {α : Type _} {P : α → Prop} {a : α} {l : List α} (h : P a) (k : ∀ f ∈ l, P f) : ∀ f ∈ a :: l, P f := fun f hf => (List.mem_cons.mp hf).elim (fun e => e ▸ h) (k f)
theorem sk {S : Bag → Prop} (h : S (skc S)) : ∀ p, S p := Classical.choose_spec (sk_ex S) h
section
variable {prog : Program} {w : World} {M : Model} {A : Around} {E : Value → Shared → Prop} {env : Env} {hh : Heap} {gg : Array GenState} {dd : Drawn} {tt : Nat} {so : OsState} {h₀ : Heap} {L : Addr} {m : Str → Option Value} {news : List (Addr × Obj)}
theorem int_C {i : Int} {k : Nat} {pos : Pos} {Q : Value → Shared → Prop} (h : Q (.int i tt) ⟨hh, gg, dd, tt + 1, so⟩) : wpAny M A (eval (.Constant (.int i) k pos) env) Q E ⟨hh, gg, dd, tt, so⟩ := wpAny_Constant_int h
theorem str_C {x : Str} {k : Nat} {pos : Pos} {Q : Value → Shared → Prop} (h : Q (.str x tt) ⟨hh, gg, dd, tt + 1, so⟩) : wpAny M A (eval (.Constant (.str x) k pos) env) Q E ⟨hh, gg, dd, tt, so⟩ := Calls.Constant_str h
theorem neg_C {a : Int} {t : Tok} {Q : Value → Shared → Prop} (h : Q (.int (-a) tt) ⟨hh, gg, dd, tt + 1, so⟩) : wpAny (model prog w) A (unaryOp .USub (.int a t)) Q E ⟨hh, gg, dd, tt, so⟩ := neg_int h
theorem ib_C {b : Bool} {Q : Value → Shared → Prop} (h : Q (.int (if b = true then 1 else 0) tt) ⟨hh, gg, dd, tt + 1, so⟩) : wpAny (model prog w) A (call (.type "int") [.bool b]) Q E ⟨hh, gg, dd, tt, so⟩ := call_int_bool h
theorem add_C {a b : Int} {t u : Tok} {Q : Value → Shared → Prop} (h : Q (.int (a + b) tt) ⟨hh, gg, dd, tt + 1, so⟩) : wpAny (model prog w) A (binaryOp .Add (.int a t) (.int b u)) Q E ⟨hh, gg, dd, tt, so⟩ := add_int h
theorem sub_C {a b : Int} {t u : Tok} {Q : Value → Shared → Prop} (h : Q (.int (a - b) tt) ⟨hh, gg, dd, tt + 1, so⟩) : wpAny (model prog w) A (binaryOp .Sub (.int a t) (.int b u)) Q E ⟨hh, gg, dd, tt, so⟩ := sub_int h
theorem mul_C {a b : Int} {t u : Tok} {Q : Value → Shared → Prop} (h : Q (.int (a * b) tt) ⟨hh, gg, dd, tt + 1, so⟩) (hm : IntMulOk a b) : wpAny (model prog w) A (binaryOp .Mult (.int a t) (.int b u)) Q E ⟨hh, gg, dd, tt, so⟩ := mul_int h hm
theorem mod_C {a b : Int} {t u : Tok} {Q : Value → Shared → Prop} (hb : b ≠ 0) (h : Q (.int (Int.fmod a b) tt) ⟨hh, gg, dd, tt + 1, so⟩) : wpAny (model prog w) A (binaryOp .Mod (.int a t) (.int b u)) Q E ⟨hh, gg, dd, tt, so⟩ := mod_int' hb h
theorem fdiv_C {a b : Int} {t u : Tok} {Q : Value → Shared → Prop} (hb : b ≠ 0) (h : Q (.int (Int.fdiv a b) tt) ⟨hh, gg, dd, tt + 1, so⟩) (hd : Builtin.divisionGoesByPylong a b = false ∨ PylongRoom (model prog w) A ⟨hh, gg, dd, tt, so⟩) : wpAny (model prog w) A (binaryOp .FloorDiv (.int a t) (.int b u)) Q E ⟨hh, gg, dd, tt, so⟩ := floordiv_int hb h hd
theorem getown_C {K : Frag} {x C : Addr} {ox : Obj} {es : List DictEntry} {n : Nat} {name : Str} {v : Value} {expr : Bool} {attr : Option Value} {Q : Value → Shared → Prop} (F : Fr h₀ L hh m) (X : K.In h₀) (I : InstAt hh x ox C (some (dictOf es n))) (h4 : plainGet K C name = true) (h5 : hasDictIn K C = true) (h6 : findIn K (.ref C) name = some attr) (h7 : noGet K attr = true) (h8 : getL name es = some (some v)) (h9 : handedIn v = true) (h : Q v ⟨hh, gg, dd, tt + 1, so⟩) :
    wpAny (model prog w) A (getAttr (.ref x) name expr) Q E ⟨hh, gg, dd, tt, so⟩ := get_own (s := ⟨hh, gg, dd, tt, so⟩) F X I h4 h5 h6 h7 h8 h9 h
theorem store_C {a : Addr} {cn : Str} {cs : Scope} {ccd : Value} {cl : List (Str × Addr)} {x : Str} {v : Value} {Q : Unit → Shared → Prop} (F : Fr h₀ L hh m) (N : News h₀ L hh news) (h : ∀ h' : Heap, (Fr h₀ L h' fun y => if y = x then some v else m y) → News h₀ L h' news → Q () ⟨h', gg, dd, tt + 1, so⟩) (a1 : cs.kind = ScopeKind.function) (a2 : Env.kindOf (envX cn cs L a ccd cl) x = some NameKind.local) :
    wpAny M A (storeName (envX cn cs L a ccd cl) x v) Q E ⟨hh, gg, dd, tt, so⟩ := storeX_L (s := ⟨hh, gg, dd, tt, so⟩) F N h a1 a2
theorem list_C {vs : List Value} {Q : Value → Shared → Prop} (F : Fr h₀ L hh m) (N : News h₀ L hh news) (h : ∀ (l : Addr) (h' : Heap), Fr h₀ L h' m → News h₀ L h' ((l, listOf (List.toArray vs) 0) :: news) → (∀ p ∈ news, p.1 < l) → Q (.ref l) ⟨h', gg, dd, tt, so⟩) (hs : vs.length ≤ sizeLine) :
    wpAny M A (newList vs) Q E ⟨hh, gg, dd, tt, so⟩ := newList_K (s := ⟨hh, gg, dd, tt, so⟩) F N h hs
theorem tup_C {vs : List Value} {Q : Value → Shared → Prop} (F : Fr h₀ L hh m) (N : News h₀ L hh news) (h : ∀ (D : Addr) (h' : Heap), Fr h₀ L h' m → News h₀ L h' ((D, { cls := .type "tuple", data := .seq (List.toArray vs) }) :: news) → (∀ p ∈ news, p.1 < D) → Q (.ref D) ⟨h', gg, dd, tt, so⟩) (hs : vs.length ≤ sizeLine) :
    wpAny M A (newTuple vs) Q E ⟨hh, gg, dd, tt, so⟩ := kup_newTuple (s := ⟨hh, gg, dd, tt, so⟩) F N h hs
theorem len_C {l : Addr} {vs : List Value} {ns : List Int} {Q : Value → Shared → Prop} (hl : hh.IsList l (List.toArray vs)) (hi : IntsAre vs ns) (hn : ns.length < 2 ^ 62) (h : Q (.int (ns.length : Nat) (tt + 1)) ⟨hh, gg, dd, tt + 1 + 1, so⟩) :
    wpAny (model prog w) A (call (.builtin "len") [.ref l]) Q E ⟨hh, gg, dd, tt, so⟩ := len_ints_fit (s := ⟨hh, gg, dd, tt, so⟩) hl hi hn h
theorem cat_C {a b : Addr} {vs ws : List Value} {ns ms : List Int} {Q : Value → Shared → Prop} (F : Fr h₀ L hh m) (N : News h₀ L hh news) (ha : hh.IsList a (List.toArray vs)) (hb : hh.IsList b (List.toArray ws)) (hi : IntsAre vs ns) (hj : IntsAre ws ms) (h : ∀ (D : Addr) (us : List Value) (h' : Heap), Fr h₀ L h' m → News h₀ L h' ((D, listOf (List.toArray us) 0) :: news) → (∀ p ∈ news, p.1 < D) → IntsAre us (ns ++ ms) → Q (.ref D) ⟨h', gg, dd, tt, so⟩) (hz : ns.length + ms.length ≤ sizeLine) :
    wpAny (model prog w) A (binaryOp .Add (.ref a) (.ref b)) Q E ⟨hh, gg, dd, tt, so⟩ := kmk_add_ints (s := ⟨hh, gg, dd, tt, so⟩) F N ha hb hi hj h hz
theorem slice_C {l : Addr} {value slice : PySem.Expr} {vs : List Value} {ns ms : List Int} {vl vu : Value} {lo hi : Option Int} {c : Nat} {Q : Value → Shared → Prop} (F : Fr h₀ L hh m) (N : News h₀ L hh news) (hl : hh.IsList l (List.toArray vs)) (hp : IsPart vl lo) (hq : IsPart vu hi) (hv : IntsAre vs ns) (hm : IntsAre (slicePick (List.toArray vs) lo hi none).toList ms) (hc : ms.length = c)
    (hs : subscripted slice false (.ref l) (.ref hh.objs.size) = operate [.ref hh.objs.size, .ref l] (getItem (.ref l) (.ref hh.objs.size))) (ht : ∀ r, letTemporaryGo value (.ref l) r = pure ()) (hz : (List.toArray vs).size ≤ sizeLine)
    (h : ∀ (D : Addr) (ws : List Value) (h' : Heap), Fr h₀ L h' m → News h₀ L h' ((D, listOf (List.toArray ws) 0) :: news) → (∀ p ∈ news, p.1 < D) → IntsAre ws ms → ms.length = c → ms.length ≤ ns.length → Q (.ref D) ⟨h', gg, dd, tt, so⟩) :
    wpAny (model prog w) A (subscriptTail value slice (.ref l) (.ref hh.objs.size)) Q E ⟨Heap.push (Shared.heap ⟨hh, gg, dd, tt, so⟩) { cls := .type "slice", data := .fields #[vl, vu, .none] }, Shared.gens ⟨hh, gg, dd, tt, so⟩, Shared.drawn ⟨hh, gg, dd, tt, so⟩, Shared.toks ⟨hh, gg, dd, tt, so⟩, Shared.os ⟨hh, gg, dd, tt, so⟩⟩ := kmk_slice_ints (s := ⟨hh, gg, dd, tt, so⟩) F N hl hp hq hv hm hc h hs ht hz
theorem attr_C {K : Frag} {x C dx : Addr} {news' : List (Addr × Obj)} {ox : Obj} {es es' : List DictEntry} {n n' : Nat} {name : Str} {v : Value} {Q : Unit → Shared → Prop} (F : Fr h₀ L hh m) (X : K.In h₀) (N : News h₀ L hh news) (I : InstAt hh x ox C (some (dictOf es n))) (hd : ox.dict = some dx) (h6 : findIn K (.ref C) "__setattr__" = some (some (.builtin "object.__setattr__"))) (h7 : plainOver K C = true) (h8 : takerIn K C name = some none) (h9 : hasDictIn K C = true) (hg : (getL name es).isSome = true)
    (hp : (putL name (PyData.keyHash w.params name) (.str name (tt + 1)) v es, putN name es n) = (es', n')) (U : Upd dx (dictOf es n) (dictOf es' n') news news') (hl : es'.length ≤ 1000) (h : ∀ h' : Heap, Fr h₀ L h' m → News h₀ L h' news' → Q () ⟨h', gg, dd, tt + 2, so⟩) :
    wpAny (model prog w) A (setAttr (.ref x) name v) Q E ⟨hh, gg, dd, tt, so⟩ := set_dict (s := ⟨hh, gg, dd, tt, so⟩) F X N I hd h6 h7 h8 h9 hg hp U hl h
theorem ditem_C {K : Type} [inst : DecidableEq K] {knd : PySem.KeyKind prog w K} {d : Addr} {o : Obj} {kvs : List (K × Value)} {k : K} {key v : Value} {value slice : PySem.Expr} {Q : Value → Shared → Prop} (N : News h₀ L hh news) (hp : (d, o) ∈ news) (hd : o.IsDictOf knd kvs) (hk : knd.is k key = true) (hv : valueAt kvs k = some v) (h : Q v ⟨hh, gg, dd, tt + 1, so⟩)
    (h1 : subscripted slice false (.ref d) key = operate [.ref d, key] (getItem (.ref d) key) := by with_unfolding_all rfl) (h2 : ∀ r, letTemporaryGo value (.ref d) r = pure () := by intro r; first | rfl | with_unfolding_all rfl) :
    wpAny (model prog w) A (subscriptTail value slice (.ref d) key) Q E ⟨hh, gg, dd, tt, so⟩ := kda_item (s := ⟨hh, gg, dd, tt, so⟩) N hp hd hk hv h h1 h2
theorem dsetS_C {d : Addr} {g : Obj → List (Addr × Obj)} {o : Obj} {kvs : List (Str × Value)} {k : Str} {t : Tok} {v : Value} {Q : Unit → Shared → Prop} (F : Fr h₀ L hh m) (N : News h₀ L hh news) (U : UpdF d o news g) (hd : o.IsDictOf (PySem.strKind prog w) kvs) (hz : kvs.length ≤ sizeLine)
    (h : ∀ (h' : Heap) (o' : Obj), Fr h₀ L h' m → News h₀ L h' (g o') → o'.IsDictOf (PySem.strKind prog w) (stored kvs k v) → Q () ⟨h', gg, dd, tt + 1, so⟩) :
    wpAny (model prog w) A (setItem (.ref d) (.str k t) v) Q E ⟨hh, gg, dd, tt, so⟩ := kda_set (s := ⟨hh, gg, dd, tt, so⟩) (knd := PySem.strKind prog w) F N U hd (strKind_is _ _ _ _) hz h
theorem ditemS_C {d : Addr} {o : Obj} {kvs : List (Str × Value)} {k : Str} {t : Tok} {v : Value} {value slice : PySem.Expr} {Q : Value → Shared → Prop} (N : News h₀ L hh news) (hp : (d, o) ∈ news) (hd : o.IsDictOf (PySem.strKind prog w) kvs) (hv : valueAt kvs k = some v)
    (h1 : subscripted slice false (.ref d) (.str k t) = operate [.ref d, .str k t] (getItem (.ref d) (.str k t))) (h2 : ∀ r, letTemporaryGo value (.ref d) r = pure ()) (h : Q v ⟨hh, gg, dd, tt + 1, so⟩) :
    wpAny (model prog w) A (subscriptTail value slice (.ref d) (.str k t)) Q E ⟨hh, gg, dd, tt, so⟩ := kda_item (s := ⟨hh, gg, dd, tt, so⟩) (knd := PySem.strKind prog w) N hp hd (strKind_is _ _ _ _) hv h h1 h2
theorem pop_C {D : Addr} {its : Array Value} {n : Nat} {news' : List (Addr × Obj)} {p : List Value} {y : Value} {Q : Value → Shared → Prop} (F : Fr h₀ L hh m) (N : News h₀ L hh news) (U : Upd D (listOf its n) (listOf p.toArray (n + 1)) news news') (e : kl_last its.toList = some (p, y)) (hz : its.toList.length ≤ sizeLine) (h : ∀ h' : Heap, Fr h₀ L h' m → News h₀ L h' news' → Q y ⟨h', gg, dd, tt, so⟩) :
    wpAny (model prog w) A (call (.builtin "list.pop") [.ref D]) Q E ⟨hh, gg, dd, tt, so⟩ := kl_pop (s := ⟨hh, gg, dd, tt, so⟩) F N e U hz h
end
theorem sb1 {n i : Nat} (h : i < n) : n - i = n - (i + 1) + 1 := (Nat.sub_add_cancel (Nat.sub_pos_of_lt h)).symm
theorem cat_fits {a b : List Int} (h : a.length ≤ 1048576) (k : b.length ≤ 1048576) : a.length + b.length ≤ PySem.sizeLine := by rw [PySem.sizeLine_eq]; exact Nat.le_trans (Nat.add_le_add h k) (by decide)
theorem ln_take {a : List Int} {n k : Nat} (h : a.length ≤ n) : (List.take k a).length ≤ n := Nat.le_trans (List.length_take_le' _ _) h
theorem ln_drop {a : List Int} {n k : Nat} (h : a.length ≤ n) : (List.drop k a).length ≤ n := by rw [List.length_drop]; exact Nat.le_trans (Nat.sub_le _ _) h
theorem ln_app20 {a b : List Int} (h : a.length ≤ 524288) (k : b.length ≤ 524288) : (a ++ b).length ≤ 1048576 := by rw [List.length_append]; exact Nat.add_le_add h k
theorem ln_app19 {a b : List Int} (h : a.length ≤ 262144) (k : b.length ≤ 262144) : (a ++ b).length ≤ 524288 := by rw [List.length_append]; exact Nat.add_le_add h k
theorem reg1 : True := by
  (k_with "x_fold" => first | (((fail_if_success (with_reducible rename SkEn => skz9)); k_fold)) | fail "no")
  (k_with "x_ne1" => first | (first | exact ⟨(0 : Nat)⟩ | exact ⟨({} : Heap)⟩ | exact ⟨(0 : Int)⟩ | exact ⟨Value.none⟩ | exact ⟨[]⟩ | exact ⟨instObj 0 0⟩ | exact ⟨none⟩ | exact ⟨fun _ => none⟩ | exact ⟨bag0.fWo 0⟩ | exact ⟨bag0.fSh 0⟩ | exact ⟨bag0.fO 0⟩ | exact ⟨fun _ _ => True⟩ | exact ⟨ts0⟩ | exact ⟨ns0⟩ | exact ⟨hs0⟩ | exact ⟨⟨fun _ => .none, fun _ => 0⟩⟩ | exact ⟨⟨0, 0, 0, 0, 0, 0, 0, 0, 0, 0⟩⟩) | fail "no")
  (k_with "x_in1" => first | (first | ((with_reducible rename SkOn => skon9); refine sk1 (by k_extra "x_ne1") ?_; generalize sk1x0 _ _ = xz9) | intro _) | fail "no")
  (k_with "x_in2" => first | (first | ((with_reducible rename SkOn => skon9); refine sk2 (by k_extra "x_ne1") (by k_extra "x_ne1") ?_; generalize sk2x0 _ _ _ = xz9; generalize sk2x1 _ _ _ = xz9) | intro _ _) | fail "no")
  (k_with "x_en3" => first | (first | ((with_reducible rename SkEn => sken9); refine sk3 (by k_extra "x_ne1") (by k_extra "x_ne1") (by k_extra "x_ne1") ?_; generalize sk3x0 _ _ _ _ = xz9; generalize sk3x1 _ _ _ _ = xz9; generalize sk3x2 _ _ _ _ = xz9) | intro _ _ _) | fail "no")
  (k_with "x_in3" => first | (first | ((with_reducible rename SkOn => skon9); refine sk3 (by k_extra "x_ne1") (by k_extra "x_ne1") (by k_extra "x_ne1") ?_; generalize sk3x0 _ _ _ _ = xz9; generalize sk3x1 _ _ _ _ = xz9; generalize sk3x2 _ _ _ _ = xz9) | intro _ _ _) | fail "no")
  (k_with "x_in4" => first | (first | ((with_reducible rename SkOn => skon9); refine sk4 (by k_extra "x_ne1") (by k_extra "x_ne1") (by k_extra "x_ne1") (by k_extra "x_ne1") ?_; generalize sk4x0 _ _ _ _ _ = xz9; generalize sk4x1 _ _ _ _ _ = xz9; generalize sk4x2 _ _ _ _ _ = xz9; generalize sk4x3 _ _ _ _ _ = xz9) | intro _ _ _ _) | fail "no")
  (k_with "x_in5" => first | (first | ((with_reducible rename SkOn => skon9); refine sk5 (by k_extra "x_ne1") (by k_extra "x_ne1") (by k_extra "x_ne1") (by k_extra "x_ne1") (by k_extra "x_ne1") ?_; generalize sk5x0 _ _ _ _ _ _ = xz9; generalize sk5x1 _ _ _ _ _ _ = xz9; generalize sk5x2 _ _ _ _ _ _ = xz9; generalize sk5x3 _ _ _ _ _ _ = xz9; generalize sk5x4 _ _ _ _ _ _ = xz9) | intro _ _ _ _ _) | fail "no")
  (k_with "x_in6" => first | (first | ((with_reducible rename SkOn => skon9); refine sk6 (by k_extra "x_ne1") (by k_extra "x_ne1") (by k_extra "x_ne1") (by k_extra "x_ne1") (by k_extra "x_ne1") (by k_extra "x_ne1") ?_; generalize sk6x0 _ _ _ _ _ _ _ = xz9; generalize sk6x1 _ _ _ _ _ _ _ = xz9; generalize sk6x2 _ _ _ _ _ _ _ = xz9; generalize sk6x3 _ _ _ _ _ _ _ = xz9; generalize sk6x4 _ _ _ _ _ _ _ = xz9; generalize sk6x5 _ _ _ _ _ _ _ = xz9) | intro _ _ _ _ _ _) | fail "no")
  (k_with "x_enterF" => first | ((k_dflt (apply code_def; (focus (k_asm)); (focus (k_asm)); (focus (k_asm)); (focus (k_asm)); (focus (k_asm)); (focus (exact rfl)); (focus (exact rfl)); (focus (assumption)); (focus (k_is)); (focus (k_is)); (focus (ktr_room)); (focus (exact BindsTo.of_eq rfl)); (focus (exact locs rfl)); rotate_left; (focus (exact rfl)); (focus (exact rfl)); (focus (exact rfl)); (focus (decide)); k_whole); k_extra "x_en3"; intro FGz9 Fz9 Nz9 Bz9 Xz9 Tz9; (try dsimp only); (try k_lift Bz9); (try k_extra "x_fold"))) | fail "no")
  (k_with "x_ske3" => first | (first | ((with_reducible rename SkEn => sken9); refine sk3 (by k_extra "x_ne1") (by k_extra "x_ne1") (by k_extra "x_ne1") ?_; generalize sk3x0 _ _ _ _ = g'; generalize sk3x1 _ _ _ _ = L'; generalize sk3x2 _ _ _ _ = h1) | intro g' L' h1) | fail "no")
  (k_with "x_ske5" => first | (first | ((with_reducible rename SkEn => sken9); refine sk5 (by k_extra "x_ne1") (by k_extra "x_ne1") (by k_extra "x_ne1") (by k_extra "x_ne1") (by k_extra "x_ne1") ?_; generalize sk5x0 _ _ _ _ _ _ = g'; generalize sk5x1 _ _ _ _ _ _ = L'; generalize sk5x2 _ _ _ _ _ _ = h'; generalize sk5x3 _ _ _ _ _ _ = tk'; generalize sk5x4 _ _ _ _ _ _ = cells') | intro g' L' h' tk' cells') | fail "no")
  (k_with "x_ske51" => first | (first | ((with_reducible rename SkEn => sken9); refine sk5 (by k_extra "x_ne1") (by k_extra "x_ne1") (by k_extra "x_ne1") (by k_extra "x_ne1") (by k_extra "x_ne1") ?_; generalize sk5x0 _ _ _ _ _ _ = g'; generalize sk5x1 _ _ _ _ _ _ = L'; generalize sk5x2 _ _ _ _ _ _ = h1; generalize sk5x3 _ _ _ _ _ _ = tk1; generalize sk5x4 _ _ _ _ _ _ = cells) | intro g' L' h1 tk1 cells) | fail "no")
  (k_with "x_rm" => first | (first | exact rm2 (by with_reducible assumption) (by rfl) | exact rm1 (by with_reducible assumption) (by rfl) | exact rm0 (by with_reducible assumption) | exact rm3 (by with_reducible assumption) (by rfl)) | fail "no")
  (k_with "x_units" => first | (first | exact rm2 (by with_reducible assumption) (by rfl) | exact rm1 (by with_reducible assumption) (by rfl) | exact rm0 (by with_reducible assumption) | exact rm3 (by with_reducible assumption) (by rfl)) | fail "no")
  (k_with "x_ne" => first | (first | exact neN (by with_reducible assumption) | exact neN (Ne.symm (by with_reducible assumption)) | exact neN (Nat.ne_of_gt (by with_reducible assumption)) | exact neN (Nat.ne_of_lt (by with_reducible assumption)) | exact neN (nec0 (by with_reducible assumption)) | exact neN (Ne.symm (nec0 (by with_reducible assumption))) | exact neN (nec1 (by with_reducible assumption)) | exact neN (Ne.symm (nec1 (by with_reducible assumption))) | exact neN (nec2 (by with_reducible assumption)) | exact neN (Ne.symm (nec2 (by with_reducible assumption))) | exact neN (nec3 (by with_reducible assumption)) | exact neN (Ne.symm (nec3 (by with_reducible assumption))) | exact neN (nec4 (by with_reducible assumption)) | exact neN (Ne.symm (nec4 (by with_reducible assumption))) | exact neN (nec5 (by with_reducible assumption)) | exact neN (Ne.symm (nec5 (by with_reducible assumption))) | exact neN (nec6 (by with_reducible assumption)) | exact neN (Ne.symm (nec6 (by with_reducible assumption))) | exact neN (nec7 (by with_reducible assumption)) | exact neN (Ne.symm (nec7 (by with_reducible assumption))) | exact neN (nec8 (by with_reducible assumption)) | exact neN (Ne.symm (nec8 (by with_reducible assumption))) | exact neN (nec9 (by with_reducible assumption)) | exact neN (Ne.symm (nec9 (by with_reducible assumption))) | exact neN (nec10 (by with_reducible assumption)) | exact neN (Ne.symm (nec10 (by with_reducible assumption))) | exact neN (nec11 (by with_reducible assumption)) | exact neN (Ne.symm (nec11 (by with_reducible assumption)))) | fail "no")
  (k_with "RaiseK" => first | ((unfold RaiseK; refine ⟨by k_asm, ?_⟩; intro e'z9 h'z9 tk'z9 x'z9)) | fail "no")
  (k_with "exec Raise some none" => first | ((k_here; (with_reducible show wpAny _ _ (exec (Stmt.Raise (some (Expr.Call (Expr.Name _ _) [_] [] _)) none _) _) _ _ _); k_dflt (apply raise_fault; (focus (k_asm)); (focus (k_asm)); (focus (k_asm)); (focus (k_asm)); (focus (exact rfl)); (focus ((show _ + 1 + 2 < _; omega))); (focus (rfl)); rotate_left; (focus (rfl)); k_whole))) | fail "no")
  (k_with "leaving ref" => first | ((k_here; (rename Thrown _ _ _ _ => x9); (refine' leave_thrown (by assumption) x9 (by assumption) (by k_asm) ?_; k_whole; (k_extra "x_in1"; intro R'z9 U'z9); (try dsimp only at R'z9 U'z9 ⊢)))) | fail "no")
  (k_with "call builtin:list.pop" => first | ((k_here; (with_reducible show wpAny _ _ (call (Value.builtin "list.pop") [Value.ref _]) _ _ _); k_dflt (apply pop_C; (focus (k_asm)); (focus (k_asm)); (focus (k_upd)); (focus (exact kpa_last _ _)); (focus ((rw [PySem.sizeLine_eq]; simp only [List.length_append, List.length_cons, List.length_nil]; omega))); k_whole); intro h'z9 F'z9 N'z9)) | fail "no")
  (k_with "eval Constant int" => first | (refine int_C ?_) | fail "no")
  (k_with "eval Constant str" => first | (refine str_C ?_) | fail "no")
  (k_with "unaryOp USub int" => first | (with_reducible refine neg_C ?_) | fail "no")
  (k_with "call type:int" => first | (with_reducible refine ib_C ?_) | fail "no")
  (k_with "binaryOp Add int int" => first | (with_reducible refine add_C ?_) | fail "no")
  (k_with "binaryOp Sub int int" => first | (with_reducible refine sub_C ?_) | fail "no")
  (k_with "binaryOp Mult int int" => first | (with_reducible refine mul_C ?_ (by mul_fits)) | fail "no")
  (k_with "getAttr ref" => first | ((k_here; k_dflt (apply getown_C; (focus (k_asm)); (focus (k_asm)); (focus (k_inst)); (focus (k_is)); (focus (k_is)); (focus (k_is)); (focus (k_is)); (focus (k_get)); (focus (k_handed)); k_whole))) | fail "no")
  (k_with "storeName" => first | ((k_here; k_dflt (apply store_C; (focus (k_asm)); (focus (k_asm)); rotate_left; (focus (rfl)); (focus (rfl)); k_whole; intro h'z9 F'z9 N'z9; (try k_sweep)))) | fail "no")
  (k_with "newList" => first | ((k_here; k_dflt (apply list_C; (focus (k_asm)); (focus (k_asm)); rotate_left; (focus (size_fits)); k_whole); intro l'z9 h'z9 F'z9 N'z9 l1z9; (try k_lt l1z9); (try k_sweep))) | fail "no")
  (k_with "setAttr ref" => first | ((k_here; k_dflt (apply attr_C; (focus (k_asm)); (focus (k_asm)); (focus (k_asm)); (focus (k_inst)); (focus (exact rfl)); (focus (k_is)); (focus (k_is)); (focus (k_is)); (focus (k_is)); (focus (k_get)); (focus (k_put)); (focus (k_upd)); (focus (exact Nat.le_of_ble_eq_true rfl)); k_whole; intro h'z9 F'z9 N'z9; (try k_sweep)))) | fail "no")
  (k_with "call builtin:len" => first | ((k_here; (with_reducible show wpAny _ _ (call (Value.builtin "len") [Value.ref _]) _ _ _); (with_unfolding_all apply len_C; (focus (is_list)); (focus (l_ints)); (focus (l_fit)); k_whole); (try simp only [List.length_append, List.length_cons, List.length_nil, Nat.zero_add]))) | fail "no")
  (k_with "binaryOp Add ref ref" => first | ((k_here; (with_reducible show wpAny _ _ (binaryOp _ (Value.ref _) (Value.ref _)) _ _ _); k_dflt (apply cat_C; (focus (k_asm)); (focus (k_asm)); (focus (kmk_list)); (focus (kmk_list)); (focus (l_ints)); (focus (l_ints)); rotate_left; (focus (first | k_extra "m_cat" | kmk_sum))); intro D'z9 ws'z9 h'z9 F'z9 N'z9 l1z9 hI'z9; (try k_lt l1z9); (try k_sweep))) | fail "no")
  (k_with "subscriptTail Name Slice ref ref" => first | ((k_here; (with_reducible show wpAny _ _ (subscriptTail _ (PySem.Expr.Slice _ _ none _) (Value.ref _) (Value.ref _)) _ _ _); k_dflt (apply slice_C; (focus (k_asm)); (focus (k_asm)); (focus (kmk_list)); (focus (kmk_part)); (focus (kmk_part)); (focus (l_ints)); (focus (kmk_nums)); (focus (kmk_len)); (focus (with_unfolding_all rfl)); (focus (kmk_pure)); (focus (kmk_size))); intro D'z9 ws'z9 h'z9 F'z9 N'z9 l1z9 hI'z9 hC'z9 hL'z9; (try simp only [Int.reduceNeg, Int.neg_neg, Int.reduceToNat] at hI'z9 hC'z9 hL'z9); (try k_lt l1z9); (try k_sweep))) | fail "no")
  (k_with "setItem ref str" => first | ((k_here; (with_reducible show wpAny _ _ (setItem (Value.ref _) (Value.str _ _) _) _ _ _); (first | kob_here | kda_here); k_dflt (apply dsetS_C; (focus (k_asm)); (focus (k_asm)); (focus (k_updF)); (focus (k_asm)); (focus (kob_size))); intro h'z9 o'z9 F'z9 N'z9 hd'z9; (try kob_lit); (try dsimp only at N'z9))) | fail "no")
  (k_with "subscriptTail" => first | ((k_here; (with_reducible show wpAny _ _ (subscriptTail _ _ (Value.ref _) (Value.str _ _)) _ _ _); kda_here; k_dflt (apply ditemS_C; (focus (k_asm)); (focus (k_mem)); (focus (k_asm)); (focus (rfl)); (focus (with_unfolding_all rfl)); (focus ((intro _; with_unfolding_all rfl)))))) | fail "no")
  (k_with "m_cat" => first | ((refine cat_fits ?_ ?_ <;> k_extra "m_ll")) | fail "no")
  (k_with "m_ll" => first | (first | exact Nat.le_trans (by with_reducible assumption) (Nat.le_of_ble_eq_true rfl) | (refine ln_take ?_; k_extra "m_ll") | (refine ln_drop ?_; k_extra "m_ll") | (refine ln_app20 ?_ ?_ <;> k_extra "m_ll") | (refine ln_app19 ?_ ?_ <;> k_extra "m_ll") | exact Nat.le_of_ble_eq_true rfl) | fail "no")
  trivial
section
open PySem PySem.W PySem.Calls PyProof.Rows
/-- the addresses of a ledger, all apart -/
noncomputable def ND (l : List Nat) : Prop := l.Nodup
theorem upd_ix {d : Addr} {o o' : Obj} {news news' : List (Addr × Obj)} {l : List Nat} (i : Nat) (h : news[i]? = some (d, o)) (nd : ND l) (e : news.map (fun p => (p.1 : Nat)) = l) (e2 : news.set i (d, o') = news') : Upd d o o' news news' := by
  subst e e2
  induction news generalizing i with
  | nil => simp at h
  | cons p r ih =>
    have nd' : ((p.1 : Nat) :: r.map (fun p => (p.1 : Nat))).Nodup := nd
    rw [List.nodup_cons] at nd'
    cases i with
    | zero =>
      simp only [List.getElem?_cons_zero, Option.some.injEq] at h
      subst h
      exact Upd.head fun q hq e => nd'.1 (by rw [← e]; exact List.mem_map.mpr ⟨q, hq, rfl⟩)
    | succ j =>
      rw [List.getElem?_cons_succ] at h
      exact Upd.tail (fun e => nd'.1 (by rw [e]; exact List.mem_map.mpr ⟨_, List.mem_of_getElem? h, rfl⟩)) (ih j h nd'.2)
theorem updF_ix {d : Addr} {o : Obj} {news : List (Addr × Obj)} {g : Obj → List (Addr × Obj)} {l : List Nat} (i : Nat) (h : news[i]? = some (d, o)) (nd : ND l) (e : news.map (fun p => (p.1 : Nat)) = l) (e2 : (fun o' => news.set i (d, o')) = g) : UpdF d o news g := by
  subst e e2
  induction news generalizing i with
  | nil => simp at h
  | cons p r ih =>
    have nd' : ((p.1 : Nat) :: r.map (fun p => (p.1 : Nat))).Nodup := nd
    rw [List.nodup_cons] at nd'
    cases i with
    | zero =>
      simp only [List.getElem?_cons_zero, Option.some.injEq] at h
      subst h
      exact UpdF.head fun q hq e => nd'.1 (by rw [← e]; exact List.mem_map.mpr ⟨q, hq, rfl⟩)
    | succ j =>
      rw [List.getElem?_cons_succ] at h
      exact UpdF.tail (fun e => nd'.1 (by rw [e]; exact List.mem_map.mpr ⟨_, List.mem_of_getElem? h, rfl⟩)) (ih j h nd'.2)
theorem news_ix {g h : Heap} {L : Addr} {l l' : List (Addr × Obj)} (N : News g L h l) (is : List Nat) (e : is.filterMap (fun i => l[i]?) = l') : News g L h l' := fun p hp => by
  rw [← e] at hp
  obtain ⟨i, _, hi⟩ := List.mem_filterMap.mp hp
  exact N p (List.mem_of_getElem? hi)
theorem nd_ix {l l' : List Nat} (nd : ND l) (is : List Nat) (e : is.filterMap (fun i => l[i]?) = l') (hi : is.Nodup) : ND l' := by
  subst e
  unfold ND at *
  induction is with
  | nil => simp
  | cons i is ih =>
    rw [List.nodup_cons] at hi
    rw [List.filterMap_cons]
    cases q : l[i]? with
    | none => simpa [q] using ih hi.2
    | some x =>
      simp only [q]
      rw [List.nodup_cons]
      refine ⟨fun hm => ?_, ih hi.2⟩
      obtain ⟨j, hj, hx⟩ := List.mem_filterMap.mp hm
      have := ((List.getElem?_inj (List.getElem?_eq_some_iff.mp q).1 nd).mp (q.trans hx.symm))
      exact hi.1 (this ▸ hj)
theorem nd_new {news : List (Addr × Obj)} {l : List Nat} {D : Addr} (nd : ND l) (e : news.map (fun p => (p.1 : Nat)) = l) (lt : ∀ p ∈ news, @LT.lt Nat _ p.1 D) : ND ((D : Nat) :: l) := by
  subst e
  refine List.nodup_cons.mpr ⟨fun m => ?_, nd⟩
  obtain ⟨p, hp, e⟩ := List.mem_map.mp m
  exact Nat.lt_irrefl _ (e ▸ lt p hp)
theorem nd_off {news : List (Addr × Obj)} {l : List Nat} {D : Addr} (nd : ND l) (e : news.map (fun p => (p.1 : Nat)) = l) (hoff : ∀ p ∈ news, p.1 ≠ D) : ND ((D : Nat) :: l) := by
  subst e
  refine List.nodup_cons.mpr ⟨fun m => ?_, nd⟩
  obtain ⟨p, hp, e⟩ := List.mem_map.mp m
  exact hoff p hp e
theorem off_nd {news : List (Addr × Obj)} {l : List Nat} {D : Addr} (nd : ND ((D : Nat) :: l)) (e : news.map (fun p => (p.1 : Nat)) = l) : ∀ p ∈ news, p.1 ≠ D := fun p hp q => by
  subst e
  exact (List.nodup_cons.mp nd).1 (q ▸ List.mem_map.mpr ⟨p, hp, rfl⟩)
/-- the objects of led stand apart from the addresses l -/
theorem off_ix {led : List (Addr × Obj)} {l a : List Nat} (nd : ND a) (is js : List Nat) (hd : (is ++ js).Nodup) (e1 : is.filterMap (fun i => a[i]?) = led.map (fun p => (p.1 : Nat))) (e2 : js.filterMap (fun i => a[i]?) = l) : OwnOff led l := fun p hp b hb => by
  have h := nd_ix nd (is ++ js) rfl hd
  rw [List.filterMap_append, e1, e2] at h
  exact (List.nodup_append.mp h).2.2 p.1 (List.mem_map.mpr ⟨p, hp, rfl⟩) b hb
theorem ne_ix {a : List Nat} (nd : ND a) (i j : Nat) {x y : Nat} (hx : a[i]? = some x) (hy : a[j]? = some y) (hij : i ≠ j) : @Ne Nat x y := fun e => by
  subst e
  exact hij ((List.getElem?_inj (List.getElem?_eq_some_iff.mp hx).1 nd).mp (hx.trans hy.symm))
end
section
open PySem PySem.W PySem.Calls PyProof.Rows
variable {prog : Program} {w : World} {A : Around} {E : Value → Shared → Prop} {s : Shared} {env : Env} {h₀ : Heap} {target : Expr} {body : List Stmt} {Q : Flow → Shared → Prop}
noncomputable def Map3 (x y1 y2 : Str) (m₀ : Str → Option Value) (q v1 v2 : Option Value) : Str → Option Value := fun z => if z = x then q else if z = y1 then v1 else if z = y2 then v2 else m₀ z
noncomputable def LFin (h₀ : Heap) (L : Addr) (x y1 y2 : Str) (m₀ : Str → Option Value) (I : Addr) (iob : Obj) (J : List (Addr × Obj) → Prop) (s₁ s₂ : Shared) : Prop :=
  ∃ h' tk m' nx, s₂ = { s₁ with heap := h', toks := tk } ∧ Fr h₀ L h' m' ∧ (∀ z, z ≠ x → z ≠ y1 → z ≠ y2 → m' z = m₀ z) ∧ News h₀ L h' ((I, iob) :: nx) ∧ (∀ p ∈ nx, p.1 ≠ I) ∧ J nx
noncomputable def LEnd (h₀ : Heap) (L : Addr) (x y1 y2 : Str) (m₀ : Str → Option Value) (I : Addr) (iob : Obj) (J : List (Addr × Obj) → Prop) (s₁ : Shared) (Q : Flow → Shared → Prop) (f : Flow) (s₂ : Shared) : Prop :=
  match f with
  | .ret v => Q (.ret v) s₂
  | .brk => False
  | _ => LFin h₀ L x y1 y2 m₀ I iob J s₁ s₂
theorem LFin.mk {L : Addr} {x y1 y2 : Str} {m₀ m' : Str → Option Value} {I : Addr} {iob : Obj} {J : List (Addr × Obj) → Prop} {s₁ : Shared} {h' : Heap} {tk : Nat} (nx : List (Addr × Obj))
    (F : Fr h₀ L h' m') (hm : ∀ z, z ≠ x → z ≠ y1 → z ≠ y2 → m' z = m₀ z) (N : News h₀ L h' ((I, iob) :: nx)) (off : ∀ p ∈ nx, p.1 ≠ I) (j : J nx) : LFin h₀ L x y1 y2 m₀ I iob J s₁ { s₁ with heap := h', toks := tk } :=
  ⟨h', tk, m', nx, rfl, F, hm, N, off, j⟩
theorem map3_eq {x y1 y2 : Str} {m₁ m₀ : Str → Option Value} (hm : ∀ z, z ≠ x → z ≠ y1 → z ≠ y2 → m₁ z = m₀ z) :
    m₁ = fun z => if z = x then m₁ x else if z = y1 then m₁ y1 else if z = y2 then m₁ y2 else m₀ z := by
  funext z
  by_cases h1 : z = x
  · simp [h1]
  · by_cases h2 : z = y1
    · subst h2; simp [h1]
    · by_cases h3 : z = y2
      · subst h3; simp [h1, h2]
      · simp only [if_neg h1, if_neg h2, if_neg h3]; exact hm z h1 h2 h3
noncomputable def list_turns_S (prog : Program) (w : World) (A : Around) (E : Value → Shared → Prop) (s : Shared) (env : Env) (h₀ : Heap) (target : Expr) (body : List Stmt) (Q : Flow → Shared → Prop) (ax : Addr) (lo : Obj) (vs : List Value) (n : Nat) (m₀ : Str → Option Value) (news : List (Addr × Obj)) (x y1 y2 : Str) (J : Nat → List (Addr × Obj) → Prop) : Prop := ∀ (hh : A.handled = none)
  (F : Fr h₀ env.locals s.heap m₀)
  (N : News h₀ env.locals s.heap news)
  (hm : (ax, lo) ∈ news)
  (hc : lo.cls = .type "list")
  (hd : lo.data = .seq vs.toArray n)
  (keep : ∀ i nx, J i nx → (ax, lo) ∈ nx)
  (hj : J 0 news)
  (turn : ∀ i v q v1 v2 nx h tk I iob, vs[i]? = some v → J i nx → (∀ p ∈ nx, p.1 ≠ I) → Fr h₀ env.locals h (fun z => if z = x then q else if z = y1 then v1 else if z = y2 then v2 else m₀ z) → News h₀ env.locals h ((I, iob) :: nx) →
      wpAny (model prog w) A (assign target env v) (fun _ s₂ => wpAny (model prog w) A (execs body env) (LEnd h₀ env.locals x y1 y2 m₀ I iob (J (i + 1)) { s with heap := h, toks := tk } Q) E s₂) E { s with heap := h, toks := tk })
  (done : ∀ q v1 v2 nx h tk, J vs.length nx → Fr h₀ env.locals h (fun z => if z = x then q else if z = y1 then v1 else if z = y2 then v2 else m₀ z) → News h₀ env.locals h nx → Q .next { s with heap := h, toks := tk }),
  wpAny (model prog w) A (pyIter (.ref ax)) (fun it s₂ => TurnsAt prog w A h₀ env target body Q E it s₂) E s
noncomputable def Llist_turns_S (p : Bag) : Prop := (list_turns_S (p.fPr 0) (p.fWo 0) (p.fAr 0) (p.fQ 0) (p.fSh 0) (p.fEv 0) (p.fH 0) (p.fEx 0) (p.fSs 0) (p.fQF 0) (p.fA 0) (p.fO 0) (p.fVL 0) (p.fN 0) (p.fM 0) (p.fAO 0) (p.fSt 0) (p.fSt 1) (p.fSt 2) (p.fJ 0))
noncomputable def Llist_turns_c : Bag := skc Llist_turns_S
theorem list_turns_at : list_turns_S (Llist_turns_c.fPr 0) (Llist_turns_c.fWo 0) (Llist_turns_c.fAr 0) (Llist_turns_c.fQ 0) (Llist_turns_c.fSh 0) (Llist_turns_c.fEv 0) (Llist_turns_c.fH 0) (Llist_turns_c.fEx 0) (Llist_turns_c.fSs 0) (Llist_turns_c.fQF 0) (Llist_turns_c.fA 0) (Llist_turns_c.fO 0) (Llist_turns_c.fVL 0) (Llist_turns_c.fN 0) (Llist_turns_c.fM 0) (Llist_turns_c.fAO 0) (Llist_turns_c.fSt 0) (Llist_turns_c.fSt 1) (Llist_turns_c.fSt 2) (Llist_turns_c.fJ 0) := by
  refine (?layF0 : ∀ prog w A E s env h₀ target body Q ax lo vs n m₀ news x y1 y2 J, list_turns_S prog w A E s env h₀ target body Q ax lo vs n m₀ news x y1 y2 J) (Llist_turns_c.fPr 0) (Llist_turns_c.fWo 0) (Llist_turns_c.fAr 0) (Llist_turns_c.fQ 0) (Llist_turns_c.fSh 0) (Llist_turns_c.fEv 0) (Llist_turns_c.fH 0) (Llist_turns_c.fEx 0) (Llist_turns_c.fSs 0) (Llist_turns_c.fQF 0) (Llist_turns_c.fA 0) (Llist_turns_c.fO 0) (Llist_turns_c.fVL 0) (Llist_turns_c.fN 0) (Llist_turns_c.fM 0) (Llist_turns_c.fAO 0) (Llist_turns_c.fSt 0) (Llist_turns_c.fSt 1) (Llist_turns_c.fSt 2) (Llist_turns_c.fJ 0)
  intro prog w A E s env h₀ target body Q ax lo vs n m₀ news x y1 y2 J hh F N hm hc hd keep hj turn done
  have hax := N _ hm
  have hl : s.heap.IsList ax vs.toArray := ⟨lo, hax.1, hc, n, hd⟩
  have hlt : ax < s.heap.objs.size := Heap.lt_size hax.1
  have hne : ax ≠ s.heap.objs.size := Nat.ne_of_lt hlt
  have hI0 : h₀.get? s.heap.objs.size = none := next_is_new F
  refine wpAny_pyIter_list hl ?_
  refine ⟨s.heap.objs.size, _, _, _, _, _, _, m₀, news, fun i m nx => J i nx ∧ ∀ z, z ≠ x → z ≠ y1 → z ≠ y2 → m z = m₀ z, rfl, KTurns.ofWalks (Walks.list hh s.heap.objs.size ax hne vs.toArray) fun i v s Q E st q => letGo_listiter st.1 q, ?_, ?_, ?_, ?_, F.push _, (fun p hp => ⟨Heap.get?_push_of_some _ (N p hp).1, (N p hp).2⟩), ⟨hj, fun _ _ _ _ => rfl⟩, ?_, ?_⟩
  · intro hI
    rcases List.mem_cons.mp hI with e | hI
    · exact absurd F.ns.lt (e ▸ Nat.lt_irrefl _)
    · exact hax.2.1 (List.mem_singleton.mp hI).symm
  · intro b hb
    have hb' : b = s.heap.objs.size := by simpa using hb
    rw [hb']; exact hI0
  · intro p hp hI
    exact absurd (Heap.lt_size (N p hp).1) ((List.mem_singleton.mp hI) ▸ Nat.lt_irrefl _)
  · exact ⟨⟨_, Heap.get?_push_size _ rfl, rfl, rfl⟩, hl.at fun o e => Heap.get?_push_of_some _ e⟩
  · rintro i v m₁ nx h1 tk1 own hin hP ⟨hJ, hm1⟩ hoff hown hget hall hst F₁ N₁
    have hv : vs[i]? = some v := by
      have hP' : vs.toArray[i]? = some v := hP
      simpa using hP'
    obtain ⟨iob, hit, _, _⟩ := hst.1
    have hIn : (s.heap.objs.size, iob) ∈ own := hall _ (by simp) hI0 _ hit
    have hoff' : ∀ p ∈ nx, p.1 ≠ s.heap.objs.size := fun p hp e => hoff p hp (List.mem_singleton.mpr e)
    have N₂ : News h₀ env.locals h1 ((s.heap.objs.size, iob) :: nx) := fun p hp => by
      rcases List.mem_cons.mp hp with rfl | hp
      · exact N₁ _ (List.mem_append_left _ hIn)
      · exact N₁ p (List.mem_append_right _ hp)
    rw [map3_eq hm1] at F₁
    refine wpAny_mono (turn i v _ _ _ nx h1 tk1 _ iob hv hJ hoff' F₁ N₂) (fun _ s₂ h₂ => wpAny_mono h₂ (fun f s₃ p => ?_) fun _ _ e => e) fun _ _ e => e
    have fin : ∀ s₃, LFin h₀ env.locals x y1 y2 m₀ s.heap.objs.size iob (J (i + 1)) { s with heap := h1, toks := tk1 } s₃ → LoopStepU h₀ env.locals [s.heap.objs.size] own (fun m nx => J (i + 1) nx ∧ ∀ z, z ≠ x → z ≠ y1 → z ≠ y2 → m z = m₀ z) { s with heap := h1, toks := tk1 } .next s₃ := by
      rintro s₃ ⟨h', tk, m', nx', e, F', hm', N', ho, hj'⟩
      refine ⟨rfl, h', tk, m', nx', e, F', fun p hp => ?_, fun p hp hq => ho p hp (List.mem_singleton.mp hq), hj', hm'⟩
      rcases List.mem_append.mp hp with hp | hp
      · obtain ⟨pa, po⟩ := p
        have h2 : h1.get? pa = some po := hget _ hp
        have h3 : pa = s.heap.objs.size ∨ pa = ax := by simpa using hown _ hp
        rcases h3 with rfl | rfl
        · rw [hit] at h2
          cases h2
          exact N' _ (.head _)
        · have h4 := (N₁ _ (List.mem_append_right own (keep i nx hJ))).1
          rw [h4] at h2
          cases h2
          exact N' _ (.tail _ (keep (i + 1) nx' hj'))
      · exact N' p (.tail _ hp)
    cases f with
    | ret v => exact .ret p
    | brk => exact p.elim
    | next => exact .next (fin _ p)
    | cont => exact .cont (fin _ p)
  · rintro h' tk m' news' F' N' _ ⟨hJ, hm'⟩
    rw [map3_eq hm'] at F'
    exact done (m' x) (m' y1) (m' y2) news' h' tk (by simpa using hJ) F' N'
theorem Llist_turns_all : ∀ p, Llist_turns_S p := sk (list_turns_at)
noncomputable def Llist_turns_bag (prog : Program) (w : World) (A : Around) (E : Value → Shared → Prop) (s : Shared) (env : Env) (h₀ : Heap) (target : Expr) (body : List Stmt) (Q : Flow → Shared → Prop) (ax : Addr) (lo : Obj) (vs : List Value) (n : Nat) (m₀ : Str → Option Value) (news : List (Addr × Obj)) (x y1 y2 : Str) (J : Nat → List (Addr × Obj) → Prop) : Bag := ⟨fun ix9 => [ax].getD ix9 (bag0.fA 0), fun ix9 => [].getD ix9 (bag0.fT 0), fun ix9 => [].getD ix9 (bag0.fI 0), fun ix9 => [n].getD ix9 (bag0.fN 0), fun ix9 => [].getD ix9 (bag0.fV 0), fun ix9 => [lo].getD ix9 (bag0.fO 0), fun ix9 => [vs].getD ix9 (bag0.fVL 0), fun ix9 => [].getD ix9 (bag0.fIL 0), fun ix9 => [].getD ix9 (bag0.fKV 0), fun ix9 => [].getD ix9 (bag0.fKI 0), fun ix9 => [news].getD ix9 (bag0.fAO 0), fun ix9 => [].getD ix9 (bag0.fU 0), fun ix9 => [].getD ix9 (bag0.fG 0), fun ix9 => [prog].getD ix9 (bag0.fPr 0), fun ix9 => [env].getD ix9 (bag0.fEv 0), fun ix9 => [body].getD ix9 (bag0.fSs 0), fun ix9 => [target].getD ix9 (bag0.fEx 0), fun ix9 => [Q].getD ix9 (bag0.fQF 0), fun ix9 => [J].getD ix9 (bag0.fJ 0), fun ix9 => [w].getD ix9 (bag0.fWo 0), fun ix9 => [].getD ix9 (bag0.fMe 0), fun ix9 => [m₀].getD ix9 (bag0.fM 0), fun ix9 => [].getD ix9 (bag0.fGD 0), fun ix9 => [x, y1, y2].getD ix9 (bag0.fSt 0), fun ix9 => [].getD ix9 (bag0.fSc 0), fun ix9 => [].getD ix9 (bag0.fCL 0), fun ix9 => [].getD ix9 (bag0.fEn 0), fun ix9 => [A].getD ix9 (bag0.fAr 0), fun ix9 => [h₀].getD ix9 (bag0.fH 0), fun ix9 => [s].getD ix9 (bag0.fSh 0), fun ix9 => [E].getD ix9 (bag0.fQ 0)⟩
theorem list_turns {prog w A E s env h₀ target body Q ax lo vs n m₀ news} (x) (y1) (y2) (J) : list_turns_S prog w A E s env h₀ target body Q ax lo vs n m₀ news x y1 y2 J := Llist_turns_all (Llist_turns_bag prog w A E s env h₀ target body Q ax lo vs n m₀ news x y1 y2 J)
end
section
open PySem PySem.W PySem.Calls PyProof.Rows
theorem nd_ixT {p p' r : List Nat} (nd : ND (p ++ r)) (is : List Nat) (e : is.filterMap (fun i => p[i]?) = p') (hi : is.Nodup) : ND (p' ++ r) := by
  unfold ND at *
  obtain ⟨h1, h2, h3⟩ := List.nodup_append.mp nd
  have h4 : ND p' := nd_ix (l := p) h1 is e hi
  refine List.nodup_append.mpr ⟨h4, h2, fun a ha b hb => h3 a ?_ b hb⟩
  rw [← e] at ha
  obtain ⟨i, _, hi⟩ := List.mem_filterMap.mp ha
  exact List.mem_of_getElem? hi
theorem news_ixT {g h : Heap} {L : Addr} {p p' r : List (Addr × Obj)} (N : News g L h (p ++ r)) (is : List Nat) (e : is.filterMap (fun i => p[i]?) = p') : News g L h (p' ++ r) := fun q hq => by
  rcases List.mem_append.mp hq with hq | hq
  · rw [← e] at hq
    obtain ⟨i, _, hi⟩ := List.mem_filterMap.mp hq
    exact N q (List.mem_append_left _ (List.mem_of_getElem? hi))
  · exact N q (List.mem_append_right _ hq)
theorem news_fst {g h : Heap} {L : Addr} {p r : List (Addr × Obj)} (N : News g L h (p ++ r)) : News g L h p := fun q hq => N q (List.mem_append_left _ hq)
theorem nd_fst {p r : List Nat} (nd : ND (p ++ r)) : ND p := (List.nodup_append.mp nd).1
theorem q_gen {α : Type} {M : Model} {A : Around} {c : Sem α} {Q0 : α → Shared → Prop} {E : Value → Shared → Prop} {s : Shared} (h : ∀ QQ : α → Shared → Prop, (∀ v s', Q0 v s' → QQ v s') → wpAny M A c QQ E s) : wpAny M A c Q0 E s := h Q0 fun _ _ k => k
theorem q_gen2 {α β : Type} {M : Model} {A : Around} {c : Sem α} {c2 : Sem β} {Q0 : β → Shared → Prop} {E : Value → Shared → Prop} {s : Shared} (h : ∀ QQ : β → Shared → Prop, (∀ v s', Q0 v s' → QQ v s') → wpAny M A c (fun _ s₂ => wpAny M A c2 QQ E s₂) E s) : wpAny M A c (fun _ s₂ => wpAny M A c2 Q0 E s₂) E s := h Q0 fun _ _ k => k
theorem qe_gen {α : Type} {M : Model} {A : Around} {c : Sem α} {Q0 : α → Shared → Prop} {E0 : Value → Shared → Prop} {s : Shared} (h : ∀ (QF : α → Shared → Prop) (EF : Value → Shared → Prop), (∀ v s', Q0 v s' → QF v s') → (∀ v s', E0 v s' → EF v s') → wpAny M A c QF EF s) : wpAny M A c Q0 E0 s := h Q0 E0 (fun _ _ k => k) (fun _ _ k => k)
end
section
open PySem PySem.W PySem.Calls PyProof.Rows
variable {prog : Program} {w : World} {A : Around} {E : Value → Shared → Prop} {s : Shared} {env : Env} {h₀ : Heap} {body : List Stmt} {Q : Flow → Shared → Prop}
noncomputable def rng_turns_S (prog : Program) (w : World) (A : Around) (E : Value → Shared → Prop) (s : Shared) (env : Env) (h₀ : Heap) (body : List Stmt) (Q : Flow → Shared → Prop) (r : Addr) (b₀ : Int) (t₀ u₀ v₀ : Tok) (n : Nat) (m₀ : Str → Option Value) (news : List (Addr × Obj)) (x y1 y2 : Str) (J : Nat → List (Addr × Obj) → Prop) : Prop := ∀ (hh : A.handled = none)
  (hr : IsRange s.heap r 0 b₀ 1 t₀ u₀ v₀)
  (hsmall : Builtin.Range.small 0 b₀ 1 = true)
  (hn : Builtin.Range.rangeSize 0 b₀ 1 = (n : Int))
  (F : Fr h₀ env.locals s.heap m₀)
  (N : News h₀ env.locals s.heap news)
  (hj : J 0 news)
  (turn : ∀ i t v1 v2 nx h tk I iob, i < n → J i nx → (∀ p ∈ nx, p.1 ≠ I) → Fr h₀ env.locals h (fun z => if z = x then some (.int (0 + (i : Int) * 1) t) else if z = y1 then v1 else if z = y2 then v2 else m₀ z) → News h₀ env.locals h ((I, iob) :: nx) →
      wpAny (model prog w) A (execs body env) (LEnd h₀ env.locals x y1 y2 m₀ I iob (J (i + 1)) { s with heap := h, toks := tk } Q) E { s with heap := h, toks := tk })
  (done : ∀ q v1 v2 nx h tk, J n nx → Fr h₀ env.locals h (fun z => if z = x then q else if z = y1 then v1 else if z = y2 then v2 else m₀ z) → News h₀ env.locals h nx → Q .next { s with heap := h, toks := tk }),
  wpAny (model prog w) A (pyIter (.ref r)) (fun it s₂ => LoopAtV prog w A h₀ env x body Q E it s₂) E s
noncomputable def Lrng_turns_S (p : Bag) : Prop := (rng_turns_S (p.fPr 0) (p.fWo 0) (p.fAr 0) (p.fQ 0) (p.fSh 0) (p.fEv 0) (p.fH 0) (p.fSs 0) (p.fQF 0) (p.fA 0) (p.fI 0) (p.fT 0) (p.fT 1) (p.fT 2) (p.fN 0) (p.fM 0) (p.fAO 0) (p.fSt 0) (p.fSt 1) (p.fSt 2) (p.fJ 0))
noncomputable def Lrng_turns_c : Bag := skc Lrng_turns_S
theorem rng_turns_at : rng_turns_S (Lrng_turns_c.fPr 0) (Lrng_turns_c.fWo 0) (Lrng_turns_c.fAr 0) (Lrng_turns_c.fQ 0) (Lrng_turns_c.fSh 0) (Lrng_turns_c.fEv 0) (Lrng_turns_c.fH 0) (Lrng_turns_c.fSs 0) (Lrng_turns_c.fQF 0) (Lrng_turns_c.fA 0) (Lrng_turns_c.fI 0) (Lrng_turns_c.fT 0) (Lrng_turns_c.fT 1) (Lrng_turns_c.fT 2) (Lrng_turns_c.fN 0) (Lrng_turns_c.fM 0) (Lrng_turns_c.fAO 0) (Lrng_turns_c.fSt 0) (Lrng_turns_c.fSt 1) (Lrng_turns_c.fSt 2) (Lrng_turns_c.fJ 0) := by
  refine (?layF0 : ∀ prog w A E s env h₀ body Q r b₀ t₀ u₀ v₀ n m₀ news x y1 y2 J, rng_turns_S prog w A E s env h₀ body Q r b₀ t₀ u₀ v₀ n m₀ news x y1 y2 J) (Lrng_turns_c.fPr 0) (Lrng_turns_c.fWo 0) (Lrng_turns_c.fAr 0) (Lrng_turns_c.fQ 0) (Lrng_turns_c.fSh 0) (Lrng_turns_c.fEv 0) (Lrng_turns_c.fH 0) (Lrng_turns_c.fSs 0) (Lrng_turns_c.fQF 0) (Lrng_turns_c.fA 0) (Lrng_turns_c.fI 0) (Lrng_turns_c.fT 0) (Lrng_turns_c.fT 1) (Lrng_turns_c.fT 2) (Lrng_turns_c.fN 0) (Lrng_turns_c.fM 0) (Lrng_turns_c.fAO 0) (Lrng_turns_c.fSt 0) (Lrng_turns_c.fSt 1) (Lrng_turns_c.fSt 2) (Lrng_turns_c.fJ 0)
  intro prog w A E s env h₀ body Q r b₀ t₀ u₀ v₀ n m₀ news x y1 y2 J hh hr hsmall hn F N hj turn done
  refine wpAny_pyIter_range hr hsmall ?_
  have W : Walks prog w A s.heap.objs.size [s.heap.objs.size] [s.heap.objs.size] n (fun i v => i < n ∧ ∃ t, v = .int (0 + (i : Nat) * 1) t)
      (fun i h => IsRangeIter h s.heap.objs.size (0 + (i : Nat) * 1) ((n : Int) - (i : Nat)) 1) := (Walks.range hh _ 0 1 n).bound
  have hI0 : h₀.get? s.heap.objs.size = none := next_is_new F
  refine ⟨s.heap.objs.size, _, _, n, _, _, m₀, news, fun i m nx => J i nx ∧ ∀ z, z ≠ x → z ≠ y1 → z ≠ y2 → m z = m₀ z, rfl, W, ?_, ?_, ?_, ?_, F.push _, (fun p hp => ⟨Heap.get?_push_of_some _ (N p hp).1, (N p hp).2⟩), ⟨hj, fun _ _ _ _ => rfl⟩, ?_, ?_⟩
  · intro hm
    exact absurd F.ns.lt ((List.mem_singleton.mp hm) ▸ Nat.lt_irrefl _)
  · intro b hb
    rw [List.mem_singleton.mp hb]; exact hI0
  · intro p hp hI
    exact absurd (Heap.lt_size (N p hp).1) ((List.mem_singleton.mp hI) ▸ Nat.lt_irrefl _)
  · show IsRangeIter _ _ _ _ _
    rw [hn]; simpa using Heap.get?_push_size _ rfl
  · rintro i v m₁ nx s₁ own ⟨h1, tk1, rfl⟩ hin ⟨_, t, rfl⟩ ⟨hJ, hm1⟩ hoff hown hget hall hst F₁ N₁
    obtain ⟨iob, hIn⟩ : ∃ iob, (s.heap.objs.size, iob) ∈ own := ⟨_, hall _ (List.mem_singleton.mpr rfl) hI0 _ hst⟩
    have hoff' : ∀ p ∈ nx, p.1 ≠ s.heap.objs.size := fun p hp e => hoff p hp (List.mem_singleton.mpr e)
    have N₂ : News h₀ env.locals h1 ((s.heap.objs.size, iob) :: nx) := fun p hp => by
      rcases List.mem_cons.mp hp with rfl | hp
      · exact N₁ _ (List.mem_append_left _ hIn)
      · exact N₁ p (List.mem_append_right _ hp)
    have e1 : (fun z => if z = x then some (Value.int (0 + (i : Nat) * 1) t) else m₁ z) = fun z => if z = x then some (Value.int (0 + (i : Nat) * 1) t) else if z = y1 then m₁ y1 else if z = y2 then m₁ y2 else m₀ z := by
      funext z
      by_cases h1 : z = x
      · simp [h1]
      · by_cases h2 : z = y1
        · subst h2; simp [h1]
        · by_cases h3 : z = y2
          · subst h3; simp [h1, h2]
          · simp only [if_neg h1, if_neg h2, if_neg h3]; exact hm1 z h1 h2 h3
    rw [e1] at F₁
    refine wpAny_mono (turn i t _ _ nx h1 tk1 _ iob hin hJ hoff' F₁ N₂) (fun f s₂ p => ?_) fun _ _ e => e
    have fin : LFin h₀ env.locals x y1 y2 m₀ s.heap.objs.size iob (J (i + 1)) { s with heap := h1, toks := tk1 } s₂ → LoopStepU h₀ env.locals [s.heap.objs.size] own (fun m nx => J (i + 1) nx ∧ ∀ z, z ≠ x → z ≠ y1 → z ≠ y2 → m z = m₀ z) { s with heap := h1, toks := tk1 } .next s₂ := by
      rintro ⟨h', tk, m', nx', e, F', hm', N', ho, hj'⟩
      refine ⟨rfl, h', tk, m', nx', e, F', fun p hp => ?_, fun p hp hq => ho p hp (List.mem_singleton.mp hq), hj', hm'⟩
      rcases List.mem_append.mp hp with hp | hp
      · obtain ⟨pa, po⟩ := p
        have h2 : h1.get? pa = some po := hget _ hp
        have h3 : pa = s.heap.objs.size := List.mem_singleton.mp (hown _ hp)
        subst h3
        have h4 := (N₂ _ (.head _)).1
        rw [h4] at h2
        cases h2
        exact N' _ (.head _)
      · exact N' p (.tail _ hp)
    cases f with
    | ret v => exact .ret p
    | brk => exact p.elim
    | next => exact .next (fin p)
    | cont => exact .cont (fin p)
  · rintro h' tk m' news' F' N' _ ⟨hJ, hm'⟩
    rw [map3_eq hm'] at F'
    exact done (m' x) (m' y1) (m' y2) news' h' tk hJ F' N'
theorem Lrng_turns_all : ∀ p, Lrng_turns_S p := sk (rng_turns_at)
noncomputable def Lrng_turns_bag (prog : Program) (w : World) (A : Around) (E : Value → Shared → Prop) (s : Shared) (env : Env) (h₀ : Heap) (body : List Stmt) (Q : Flow → Shared → Prop) (r : Addr) (b₀ : Int) (t₀ u₀ v₀ : Tok) (n : Nat) (m₀ : Str → Option Value) (news : List (Addr × Obj)) (x y1 y2 : Str) (J : Nat → List (Addr × Obj) → Prop) : Bag := ⟨fun ix9 => [r].getD ix9 (bag0.fA 0), fun ix9 => [t₀, u₀, v₀].getD ix9 (bag0.fT 0), fun ix9 => [b₀].getD ix9 (bag0.fI 0), fun ix9 => [n].getD ix9 (bag0.fN 0), fun ix9 => [].getD ix9 (bag0.fV 0), fun ix9 => [].getD ix9 (bag0.fO 0), fun ix9 => [].getD ix9 (bag0.fVL 0), fun ix9 => [].getD ix9 (bag0.fIL 0), fun ix9 => [].getD ix9 (bag0.fKV 0), fun ix9 => [].getD ix9 (bag0.fKI 0), fun ix9 => [news].getD ix9 (bag0.fAO 0), fun ix9 => [].getD ix9 (bag0.fU 0), fun ix9 => [].getD ix9 (bag0.fG 0), fun ix9 => [prog].getD ix9 (bag0.fPr 0), fun ix9 => [env].getD ix9 (bag0.fEv 0), fun ix9 => [body].getD ix9 (bag0.fSs 0), fun ix9 => [].getD ix9 (bag0.fEx 0), fun ix9 => [Q].getD ix9 (bag0.fQF 0), fun ix9 => [J].getD ix9 (bag0.fJ 0), fun ix9 => [w].getD ix9 (bag0.fWo 0), fun ix9 => [].getD ix9 (bag0.fMe 0), fun ix9 => [m₀].getD ix9 (bag0.fM 0), fun ix9 => [].getD ix9 (bag0.fGD 0), fun ix9 => [x, y1, y2].getD ix9 (bag0.fSt 0), fun ix9 => [].getD ix9 (bag0.fSc 0), fun ix9 => [].getD ix9 (bag0.fCL 0), fun ix9 => [].getD ix9 (bag0.fEn 0), fun ix9 => [A].getD ix9 (bag0.fAr 0), fun ix9 => [h₀].getD ix9 (bag0.fH 0), fun ix9 => [s].getD ix9 (bag0.fSh 0), fun ix9 => [E].getD ix9 (bag0.fQ 0)⟩
theorem rng_turns {prog w A E s env h₀ body Q r b₀ t₀ u₀ v₀ n m₀ news x} (y1) (y2) (J) : rng_turns_S prog w A E s env h₀ body Q r b₀ t₀ u₀ v₀ n m₀ news x y1 y2 J := Lrng_turns_all (Lrng_turns_bag prog w A E s env h₀ body Q r b₀ t₀ u₀ v₀ n m₀ news x y1 y2 J)
end
section
open PySem PySem.W PySem.Calls PyProof.Rows
noncomputable def KmStop : Prop := True
theorem mem_here {a : Addr} {o o2 : Obj} {r : List (Addr × Obj)} (e : o2 = o) : (a, o2) ∈ (a, o) :: r := by rw [e]; exact .head _
theorem hoff_ne {led : List (Addr × Obj)} {I x : Addr} {o : Obj} (h : ∀ p ∈ led, p.1 ≠ I) (m : (x, o) ∈ led) : @Ne Nat x I := h _ m
theorem fresh_ne {led : List (Addr × Obj)} {d x : Addr} {o : Obj} (h : ∀ p ∈ led, @LT.lt Nat _ p.1 d) (m : (x, o) ∈ led) : @Ne Nat d x := Nat.ne_of_gt (h _ m)
theorem ints_at {ys : List Value} {ms : List Int} (h : IntsAre ys ms) : ∀ {i : Nat} {v : Value}, ys[i]? = some v → ∃ x t, v = .int x t ∧ ms[i]? = some x := by
  induction h with
  | nil => intro i v e; simp at e
  | cons n t _ ih =>
    intro i v e
    cases i with
    | zero => simp at e; exact ⟨_, _, e.symm, rfl⟩
    | succ j => rw [List.getElem?_cons_succ] at e ⊢; exact ih e
theorem take_snoc {ms : List Int} {i : Nat} {x : Int} (h : ms[i]? = some x) : ms.take (i + 1) = ms.take i ++ [x] := by rw [List.take_add_one, h]; rfl
theorem nd_tl {a : Nat} {l : List Nat} (nd : ND (a :: l)) : ND l := (List.nodup_cons.mp nd).2
theorem news_tl {g h : Heap} {L : Addr} {a : Addr × Obj} {l : List (Addr × Obj)} (N : News g L h (a :: l)) : News g L h l := fun p hp => N p (.tail _ hp)
theorem off3_1 {I C D x : Addr} {o : Obj} {nw : List (Addr × Obj)} (k : LCg.Off3 I C D nw) (h : (x, o) ∈ nw) : @Ne Nat I x ∧ @Ne Nat C x ∧ @Ne Nat D x :=
  have z := LCg.Off3.mem k _ h
  ⟨Ne.symm z.1, Ne.symm z.2.1, Ne.symm z.2.2⟩
theorem off1_1 {D x : Addr} {o : Obj} : ∀ {nw : List (Addr × Obj)}, LCg.Off1 D nw → (x, o) ∈ nw → @Ne Nat D x
  | [], _, h => nomatch h
  | p :: r, k, h => by
    rcases List.mem_cons.mp h with e | h
    · subst e; exact Ne.symm k.1
    · exact off1_1 k.2 h
end
theorem ite_skip {α : Sort _} {p : Prop} [Decidable p] {a b c : α} (h : ¬ p) (e : b = c) : (if p then a else b) = c := (if_neg h).trans e
section
open PySem PySem.W PySem.Calls PyProof.Rows
variable {prog : Program} {w : World} {A : Around} {E : Value → Shared → Prop} {s : Shared} {env : Env} {h₀ : Heap} {target : Expr} {body : List Stmt} {Q : Flow → Shared → Prop}
noncomputable def tup_turns_S (prog : Program) (w : World) (A : Around) (E : Value → Shared → Prop) (s : Shared) (env : Env) (h₀ : Heap) (target : Expr) (body : List Stmt) (Q : Flow → Shared → Prop) (ax : Addr) (lo : Obj) (vs : List Value) (n : Nat) (m₀ : Str → Option Value) (news : List (Addr × Obj)) (x y1 y2 : Str) (J : Nat → List (Addr × Obj) → Prop) : Prop := ∀ (hh : A.handled = none)
  (F : Fr h₀ env.locals s.heap m₀)
  (N : News h₀ env.locals s.heap news)
  (hm : (ax, lo) ∈ news)
  (hc : lo.cls = .type "tuple")
  (hd : lo.data = .seq vs.toArray n)
  (keep : ∀ i nx, J i nx → (ax, lo) ∈ nx)
  (hj : J 0 news)
  (turn : ∀ i v q v1 v2 nx h tk I iob, vs[i]? = some v → J i nx → (∀ p ∈ nx, p.1 ≠ I) → Fr h₀ env.locals h (fun z => if z = x then q else if z = y1 then v1 else if z = y2 then v2 else m₀ z) → News h₀ env.locals h ((I, iob) :: nx) →
      wpAny (model prog w) A (assign target env v) (fun _ s₂ => wpAny (model prog w) A (execs body env) (LEnd h₀ env.locals x y1 y2 m₀ I iob (J (i + 1)) { s with heap := h, toks := tk } Q) E s₂) E { s with heap := h, toks := tk })
  (done : ∀ q v1 v2 nx h tk, J vs.length nx → Fr h₀ env.locals h (fun z => if z = x then q else if z = y1 then v1 else if z = y2 then v2 else m₀ z) → News h₀ env.locals h nx → Q .next { s with heap := h, toks := tk }),
  wpAny (model prog w) A (pyIter (.ref ax)) (fun it s₂ => TurnsAt prog w A h₀ env target body Q E it s₂) E s
noncomputable def Ltup_turns_S (p : Bag) : Prop := (tup_turns_S (p.fPr 0) (p.fWo 0) (p.fAr 0) (p.fQ 0) (p.fSh 0) (p.fEv 0) (p.fH 0) (p.fEx 0) (p.fSs 0) (p.fQF 0) (p.fA 0) (p.fO 0) (p.fVL 0) (p.fN 0) (p.fM 0) (p.fAO 0) (p.fSt 0) (p.fSt 1) (p.fSt 2) (p.fJ 0))
noncomputable def Ltup_turns_c : Bag := skc Ltup_turns_S
theorem tup_turns_at : tup_turns_S (Ltup_turns_c.fPr 0) (Ltup_turns_c.fWo 0) (Ltup_turns_c.fAr 0) (Ltup_turns_c.fQ 0) (Ltup_turns_c.fSh 0) (Ltup_turns_c.fEv 0) (Ltup_turns_c.fH 0) (Ltup_turns_c.fEx 0) (Ltup_turns_c.fSs 0) (Ltup_turns_c.fQF 0) (Ltup_turns_c.fA 0) (Ltup_turns_c.fO 0) (Ltup_turns_c.fVL 0) (Ltup_turns_c.fN 0) (Ltup_turns_c.fM 0) (Ltup_turns_c.fAO 0) (Ltup_turns_c.fSt 0) (Ltup_turns_c.fSt 1) (Ltup_turns_c.fSt 2) (Ltup_turns_c.fJ 0) := by
  refine (?layF0 : ∀ prog w A E s env h₀ target body Q ax lo vs n m₀ news x y1 y2 J, tup_turns_S prog w A E s env h₀ target body Q ax lo vs n m₀ news x y1 y2 J) (Ltup_turns_c.fPr 0) (Ltup_turns_c.fWo 0) (Ltup_turns_c.fAr 0) (Ltup_turns_c.fQ 0) (Ltup_turns_c.fSh 0) (Ltup_turns_c.fEv 0) (Ltup_turns_c.fH 0) (Ltup_turns_c.fEx 0) (Ltup_turns_c.fSs 0) (Ltup_turns_c.fQF 0) (Ltup_turns_c.fA 0) (Ltup_turns_c.fO 0) (Ltup_turns_c.fVL 0) (Ltup_turns_c.fN 0) (Ltup_turns_c.fM 0) (Ltup_turns_c.fAO 0) (Ltup_turns_c.fSt 0) (Ltup_turns_c.fSt 1) (Ltup_turns_c.fSt 2) (Ltup_turns_c.fJ 0)
  intro prog w A E s env h₀ target body Q ax lo vs n m₀ news x y1 y2 J hh F N hm hc hd keep hj turn done
  have hax := N _ hm
  have hl : s.heap.IsTuple ax vs.toArray := ⟨lo, hax.1, hc, n, hd⟩
  have hlt : ax < s.heap.objs.size := Heap.lt_size hax.1
  have hne : ax ≠ s.heap.objs.size := Nat.ne_of_lt hlt
  have hI0 : h₀.get? s.heap.objs.size = none := next_is_new F
  refine wpAny_pyIter_tuple hl ?_
  refine ⟨s.heap.objs.size, _, _, _, _, _, _, m₀, news, fun i m nx => J i nx ∧ ∀ z, z ≠ x → z ≠ y1 → z ≠ y2 → m z = m₀ z, rfl, KTurns.ofWalks (Walks.tuple hh s.heap.objs.size ax hne vs.toArray) fun i v s Q E st q => letGo_tupleiter st.1 q, ?_, ?_, ?_, ?_, F.push _, (fun p hp => ⟨Heap.get?_push_of_some _ (N p hp).1, (N p hp).2⟩), ⟨hj, fun _ _ _ _ => rfl⟩, ?_, ?_⟩
  · intro hI
    rcases List.mem_cons.mp hI with e | hI
    · exact absurd F.ns.lt (e ▸ Nat.lt_irrefl _)
    · exact hax.2.1 (List.mem_singleton.mp hI).symm
  · intro b hb
    have hb' : b = s.heap.objs.size := by simpa using hb
    rw [hb']; exact hI0
  · intro p hp hI
    exact absurd (Heap.lt_size (N p hp).1) ((List.mem_singleton.mp hI) ▸ Nat.lt_irrefl _)
  · exact ⟨⟨_, Heap.get?_push_size _ rfl, rfl, rfl⟩, hl.at fun o e => Heap.get?_push_of_some _ e⟩
  · rintro i v m₁ nx h1 tk1 own hin hP ⟨hJ, hm1⟩ hoff hown hget hall hst F₁ N₁
    have hv : vs[i]? = some v := by
      have hP' : vs.toArray[i]? = some v := hP
      simpa using hP'
    obtain ⟨iob, hit, _, _⟩ := hst.1
    have hIn : (s.heap.objs.size, iob) ∈ own := hall _ (by simp) hI0 _ hit
    have hoff' : ∀ p ∈ nx, p.1 ≠ s.heap.objs.size := fun p hp e => hoff p hp (List.mem_singleton.mpr e)
    have N₂ : News h₀ env.locals h1 ((s.heap.objs.size, iob) :: nx) := fun p hp => by
      rcases List.mem_cons.mp hp with rfl | hp
      · exact N₁ _ (List.mem_append_left _ hIn)
      · exact N₁ p (List.mem_append_right _ hp)
    rw [map3_eq hm1] at F₁
    refine wpAny_mono (turn i v _ _ _ nx h1 tk1 _ iob hv hJ hoff' F₁ N₂) (fun _ s₂ h₂ => wpAny_mono h₂ (fun f s₃ p => ?_) fun _ _ e => e) fun _ _ e => e
    have fin : ∀ s₃, LFin h₀ env.locals x y1 y2 m₀ s.heap.objs.size iob (J (i + 1)) { s with heap := h1, toks := tk1 } s₃ → LoopStepU h₀ env.locals [s.heap.objs.size] own (fun m nx => J (i + 1) nx ∧ ∀ z, z ≠ x → z ≠ y1 → z ≠ y2 → m z = m₀ z) { s with heap := h1, toks := tk1 } .next s₃ := by
      rintro s₃ ⟨h', tk, m', nx', e, F', hm', N', ho, hj'⟩
      refine ⟨rfl, h', tk, m', nx', e, F', fun p hp => ?_, fun p hp hq => ho p hp (List.mem_singleton.mp hq), hj', hm'⟩
      rcases List.mem_append.mp hp with hp | hp
      · obtain ⟨pa, po⟩ := p
        have h2 : h1.get? pa = some po := hget _ hp
        have h3 : pa = s.heap.objs.size ∨ pa = ax := by simpa using hown _ hp
        rcases h3 with rfl | rfl
        · rw [hit] at h2
          cases h2
          exact N' _ (.head _)
        · have h4 := (N₁ _ (List.mem_append_right own (keep i nx hJ))).1
          rw [h4] at h2
          cases h2
          exact N' _ (.tail _ (keep (i + 1) nx' hj'))
      · exact N' p (.tail _ hp)
    cases f with
    | ret v => exact .ret p
    | brk => exact p.elim
    | next => exact .next (fin _ p)
    | cont => exact .cont (fin _ p)
  · rintro h' tk m' news' F' N' _ ⟨hJ, hm'⟩
    rw [map3_eq hm'] at F'
    exact done (m' x) (m' y1) (m' y2) news' h' tk (by simpa using hJ) F' N'
theorem Ltup_turns_all : ∀ p, Ltup_turns_S p := sk (tup_turns_at)
noncomputable def Ltup_turns_bag (prog : Program) (w : World) (A : Around) (E : Value → Shared → Prop) (s : Shared) (env : Env) (h₀ : Heap) (target : Expr) (body : List Stmt) (Q : Flow → Shared → Prop) (ax : Addr) (lo : Obj) (vs : List Value) (n : Nat) (m₀ : Str → Option Value) (news : List (Addr × Obj)) (x y1 y2 : Str) (J : Nat → List (Addr × Obj) → Prop) : Bag := ⟨fun ix9 => [ax].getD ix9 (bag0.fA 0), fun ix9 => [].getD ix9 (bag0.fT 0), fun ix9 => [].getD ix9 (bag0.fI 0), fun ix9 => [n].getD ix9 (bag0.fN 0), fun ix9 => [].getD ix9 (bag0.fV 0), fun ix9 => [lo].getD ix9 (bag0.fO 0), fun ix9 => [vs].getD ix9 (bag0.fVL 0), fun ix9 => [].getD ix9 (bag0.fIL 0), fun ix9 => [].getD ix9 (bag0.fKV 0), fun ix9 => [].getD ix9 (bag0.fKI 0), fun ix9 => [news].getD ix9 (bag0.fAO 0), fun ix9 => [].getD ix9 (bag0.fU 0), fun ix9 => [].getD ix9 (bag0.fG 0), fun ix9 => [prog].getD ix9 (bag0.fPr 0), fun ix9 => [env].getD ix9 (bag0.fEv 0), fun ix9 => [body].getD ix9 (bag0.fSs 0), fun ix9 => [target].getD ix9 (bag0.fEx 0), fun ix9 => [Q].getD ix9 (bag0.fQF 0), fun ix9 => [J].getD ix9 (bag0.fJ 0), fun ix9 => [w].getD ix9 (bag0.fWo 0), fun ix9 => [].getD ix9 (bag0.fMe 0), fun ix9 => [m₀].getD ix9 (bag0.fM 0), fun ix9 => [].getD ix9 (bag0.fGD 0), fun ix9 => [x, y1, y2].getD ix9 (bag0.fSt 0), fun ix9 => [].getD ix9 (bag0.fSc 0), fun ix9 => [].getD ix9 (bag0.fCL 0), fun ix9 => [].getD ix9 (bag0.fEn 0), fun ix9 => [A].getD ix9 (bag0.fAr 0), fun ix9 => [h₀].getD ix9 (bag0.fH 0), fun ix9 => [s].getD ix9 (bag0.fSh 0), fun ix9 => [E].getD ix9 (bag0.fQ 0)⟩
theorem tup_turns {prog w A E s env h₀ target body Q ax lo vs n m₀ news} (x) (y1) (y2) (J) : tup_turns_S prog w A E s env h₀ target body Q ax lo vs n m₀ news x y1 y2 J := Ltup_turns_all (Ltup_turns_bag prog w A E s env h₀ target body Q ax lo vs n m₀ news x y1 y2 J)
end
abbrev US_T := ∀ (w : World) (mean : ExcName → Option Value) (mg mb : Str → Option Value) (dp un : Nat) (gd : Option (List Code)) (cn : Str) (cs : Scope) (a : Addr) (ccd : Value) (cl : List (Str × Addr)) (outer : List Env) (A₀ : Around) (base h₀ : Heap) (L : Addr) (m : Str → Option Value) (s : Shared) (Q E : Value → Shared → Prop) (rest : List (Addr × Obj)) (S dS nl : Addr) (t1 t2 tm : Tok) (vs : List Value) (ns : List Int) (k : Nat) (x : Int) (tx : Tok) (i : Int) (ti : Tok) (W dW G zn cv sd sc : Addr) (u : WTok) (ppem : Int), Prop
noncomputable def US_at (p : Bag) (f : US_T) : Prop := f (p.fWo 0) (p.fMe 0) (p.fM 0) (p.fM 1) (p.fN 0) (p.fN 1) (p.fGD 0) (p.fSt 0) (p.fSc 0) (p.fA 0) (p.fV 0) (p.fCL 0) (p.fEn 0) (p.fAr 0) (p.fH 0) (p.fH 1) (p.fA 1) (p.fM 2) (p.fSh 0) (p.fQ 0) (p.fQ 1) (p.fAO 0) (p.fA 2) (p.fA 3) (p.fA 4) (p.fT 0) (p.fT 1) (p.fT 2) (p.fVL 0) (p.fIL 0) (p.fN 2) (p.fI 0) (p.fT 3) (p.fI 1) (p.fT 4) (p.fA 5) (p.fA 6) (p.fA 7) (p.fA 8) (p.fA 9) (p.fA 10) (p.fA 11) (p.fU 0) (p.fI 2)
noncomputable def US_all (f : US_T) : Prop := ∀ (w : World) (mean : ExcName → Option Value) (mg mb : Str → Option Value) (dp un : Nat) (gd : Option (List Code)) (cn : Str) (cs : Scope) (a : Addr) (ccd : Value) (cl : List (Str × Addr)) (outer : List Env) (A₀ : Around) (base h₀ : Heap) (L : Addr) (m : Str → Option Value) (s : Shared) (Q E : Value → Shared → Prop) (rest : List (Addr × Obj)) (S dS nl : Addr) (t1 t2 tm : Tok) (vs : List Value) (ns : List Int) (k : Nat) (x : Int) (tx : Tok) (i : Int) (ti : Tok) (W dW G zn cv sd sc : Addr) (u : WTok) (ppem : Int), f w mean mg mb dp un gd cn cs a ccd cl outer A₀ base h₀ L m s Q E rest S dS nl t1 t2 tm vs ns k x tx i ti W dW G zn cv sd sc u ppem
noncomputable def push_okF_S : US_T := fun w mean mg mb dp un gd cn cs a ccd cl outer A₀ base h₀ L m s Q E rest S dS nl t1 t2 tm vs ns k x tx i ti W dW G zn cv sd sc u ppem => ∀ (B : Below A₀ base outer h₀) (F : Fr h₀ L s.heap m) (X : (lay.heap_1 w.params).In h₀) (N : News h₀ L s.heap ((S, instObj 425 dS) :: (dS, dictOf (StkE w t1 t2 tm nl) 2) :: (nl, listOf vs.toArray k) :: rest)) (T' : Top view (looseW view [Str.ofString "HintWork"]) mean mg mb h₀) (hk : cs.kind = .function) (hdp : dp + 3 < recursionLimit) (hun : un + 104 < cLine) (off : OwnOff rest [nl]) (hi : IntsAre vs ns)
   (hlen : (ns.length : Int) < 12)
   (hret : ∀ h' tk', Fr h₀ L h' m → News h₀ L h' ((S, instObj 425 dS) :: (dS, dictOf (StkE w t1 t2 tm nl) 2) :: (nl, listOf (vs ++ [Value.int x tx]).toArray (k+1)) :: rest) → Q .none { s with heap := h', toks := tk' }),
  wpAny (model PySem.Challenge.rw_on0247_01.row.toRowW.prog w) (ktrTop dp un gd cn cs L a ccd cl outer) (call (.ref 394) [.ref S, .int x tx]) Q E s
noncomputable def push_fullF_S : US_T := fun w mean mg mb dp un gd cn cs a ccd cl outer A₀ base h₀ L m s Q E rest S dS nl t1 t2 tm vs ns k x tx i ti W dW G zn cv sd sc u ppem => ∀ (B : Below A₀ base outer h₀) (F : Fr h₀ L s.heap m) (X : (lay.heap_1 w.params).In h₀) (N : News h₀ L s.heap ((S, instObj 425 dS) :: (dS, dictOf (StkE w t1 t2 tm nl) 2) :: (nl, listOf vs.toArray k) :: rest)) (T' : Top view (looseW view [Str.ofString "HintWork"]) mean mg mb h₀) (hk : cs.kind = .function) (hdp : dp + 3 < recursionLimit) (hun : un + 104 < cLine)  (hi : IntsAre vs ns)
   (hlen : 12 ≤ (ns.length : Int))
   (hl2 : (ns.length : Int) < 100)
   (hexc : ∀ e h' tk' g₂, RaisedN base (envX cn cs L a ccd cl :: outer) e (.ref 51) ((S, instObj 425 dS) :: (dS, dictOf (StkE w t1 t2 tm nl) 2) :: (nl, listOf vs.toArray k) :: rest) h' → g₂.UpToSlots h' → Fr h₀ L g₂ m → E (.ref e) { s with heap := h', toks := tk' }),
  wpAny (model PySem.Challenge.rw_on0247_01.row.toRowW.prog w) (ktrTop dp un gd cn cs L a ccd cl outer) (call (.ref 394) [.ref S, .int x tx]) Q E s
noncomputable def pop_okF_S : US_T := fun w mean mg mb dp un gd cn cs a ccd cl outer A₀ base h₀ L m s Q E rest S dS nl t1 t2 tm vs ns k x tx i ti W dW G zn cv sd sc u ppem => ∀ (B : Below A₀ base outer h₀) (F : Fr h₀ L s.heap m) (X : (lay.heap_1 w.params).In h₀) (N : News h₀ L s.heap ((S, instObj 425 dS) :: (dS, dictOf (StkE w t1 t2 tm nl) 2) :: (nl, listOf (vs ++ [Value.int x tx]).toArray k) :: rest)) (T' : Top view (looseW view [Str.ofString "HintWork"]) mean mg mb h₀) (hk : cs.kind = .function) (hdp : dp + 3 < recursionLimit) (hun : un + 104 < cLine) (off : OwnOff rest [nl]) (hi : IntsAre vs ns)
   (hlen : (ns.length : Int) < 100)
   (hret : ∀ h' tk', Fr h₀ L h' m → News h₀ L h' ((S, instObj 425 dS) :: (dS, dictOf (StkE w t1 t2 tm nl) 2) :: (nl, listOf vs.toArray (k+1)) :: rest) → Q (.int x tx) { s with heap := h', toks := tk' }),
  wpAny (model PySem.Challenge.rw_on0247_01.row.toRowW.prog w) (ktrTop dp un gd cn cs L a ccd cl outer) (call (.ref 401) [.ref S]) Q E s
noncomputable def pop_noF_S : US_T := fun w mean mg mb dp un gd cn cs a ccd cl outer A₀ base h₀ L m s Q E rest S dS nl t1 t2 tm vs ns k x tx i ti W dW G zn cv sd sc u ppem => ∀ (B : Below A₀ base outer h₀) (F : Fr h₀ L s.heap m) (X : (lay.heap_1 w.params).In h₀) (N : News h₀ L s.heap ((S, instObj 425 dS) :: (dS, dictOf (StkE w t1 t2 tm nl) 2) :: (nl, listOf ([] : List Value).toArray k) :: rest)) (T' : Top view (looseW view [Str.ofString "HintWork"]) mean mg mb h₀) (hk : cs.kind = .function) (hdp : dp + 3 < recursionLimit) (hun : un + 104 < cLine)  
   (hexc : ∀ e h' tk' g₂, RaisedN base (envX cn cs L a ccd cl :: outer) e (.ref 51) ((S, instObj 425 dS) :: (dS, dictOf (StkE w t1 t2 tm nl) 2) :: (nl, listOf ([] : List Value).toArray k) :: rest) h' → g₂.UpToSlots h' → Fr h₀ L g₂ m → E (.ref e) { s with heap := h', toks := tk' }),
  wpAny (model PySem.Challenge.rw_on0247_01.row.toRowW.prog w) (ktrTop dp un gd cn cs L a ccd cl outer) (call (.ref 401) [.ref S]) Q E s
noncomputable def peek_okF_S : US_T := fun w mean mg mb dp un gd cn cs a ccd cl outer A₀ base h₀ L m s Q E rest S dS nl t1 t2 tm vs ns k x tx i ti W dW G zn cv sd sc u ppem => ∀ (B : Below A₀ base outer h₀) (F : Fr h₀ L s.heap m) (X : (lay.heap_1 w.params).In h₀) (N : News h₀ L s.heap ((S, instObj 425 dS) :: (dS, dictOf (StkE w t1 t2 tm nl) 2) :: (nl, listOf vs.toArray k) :: rest)) (T' : Top view (looseW view [Str.ofString "HintWork"]) mean mg mb h₀) (hk : cs.kind = .function) (hdp : dp + 3 < recursionLimit) (hun : un + 104 < cLine)  (hi : IntsAre vs ns)
   (hlen : (ns.length : Int) < 100)
   (h1 : 1 ≤ i)
   (h2 : i ≤ ns.length)
   (hret : ∀ h' tk' t', Fr h₀ L h' m → News h₀ L h' ((S, instObj 425 dS) :: (dS, dictOf (StkE w t1 t2 tm nl) 2) :: (nl, listOf vs.toArray k) :: rest) → Q (.int (ns.getD (Int.toNat (ns.length - i)) 0) t') { s with heap := h', toks := tk' }),
  wpAny (model PySem.Challenge.rw_on0247_01.row.toRowW.prog w) (ktrTop dp un gd cn cs L a ccd cl outer) (call (.ref 408) [.ref S, .int i ti]) Q E s
noncomputable def peek_noF_S : US_T := fun w mean mg mb dp un gd cn cs a ccd cl outer A₀ base h₀ L m s Q E rest S dS nl t1 t2 tm vs ns k x tx i ti W dW G zn cv sd sc u ppem => ∀ (B : Below A₀ base outer h₀) (F : Fr h₀ L s.heap m) (X : (lay.heap_1 w.params).In h₀) (N : News h₀ L s.heap ((S, instObj 425 dS) :: (dS, dictOf (StkE w t1 t2 tm nl) 2) :: (nl, listOf vs.toArray k) :: rest)) (T' : Top view (looseW view [Str.ofString "HintWork"]) mean mg mb h₀) (hk : cs.kind = .function) (hdp : dp + 3 < recursionLimit) (hun : un + 104 < cLine)  (hi : IntsAre vs ns)
   (hlen : (ns.length : Int) < 100)
   (hb : i < 10 ^ 10)
   (hb2 : -(10 ^ 10) < i)
   (h1 : ¬ (1 ≤ i ∧ i ≤ ns.length))
   (hexc : ∀ e h' tk' g₂, RaisedN base (envX cn cs L a ccd cl :: outer) e (.ref 51) ((S, instObj 425 dS) :: (dS, dictOf (StkE w t1 t2 tm nl) 2) :: (nl, listOf vs.toArray k) :: rest) h' → g₂.UpToSlots h' → Fr h₀ L g₂ m → E (.ref e) { s with heap := h', toks := tk' }),
  wpAny (model PySem.Challenge.rw_on0247_01.row.toRowW.prog w) (ktrTop dp un gd cn cs L a ccd cl outer) (call (.ref 408) [.ref S, .int i ti]) Q E s
noncomputable def depthF_S : US_T := fun w mean mg mb dp un gd cn cs a ccd cl outer A₀ base h₀ L m s Q E rest S dS nl t1 t2 tm vs ns k x tx i ti W dW G zn cv sd sc u ppem => ∀ (B : Below A₀ base outer h₀) (F : Fr h₀ L s.heap m) (X : (lay.heap_1 w.params).In h₀) (N : News h₀ L s.heap ((S, instObj 425 dS) :: (dS, dictOf (StkE w t1 t2 tm nl) 2) :: (nl, listOf vs.toArray k) :: rest)) (T' : Top view (looseW view [Str.ofString "HintWork"]) mean mg mb h₀) (hk : cs.kind = .function) (hdp : dp + 3 < recursionLimit) (hun : un + 104 < cLine)  (hi : IntsAre vs ns)
   (hlen : (ns.length : Int) < 100)
   (hret : ∀ h' tk' t', Fr h₀ L h' m → News h₀ L h' ((S, instObj 425 dS) :: (dS, dictOf (StkE w t1 t2 tm nl) 2) :: (nl, listOf vs.toArray k) :: rest) → Q (.int (ns.length : Int) t') { s with heap := h', toks := tk' }),
  wpAny (model PySem.Challenge.rw_on0247_01.row.toRowW.prog w) (ktrTop dp un gd cn cs L a ccd cl outer) (call (.ref 415) [.ref S]) Q E s
noncomputable def clearF_S : US_T := fun w mean mg mb dp un gd cn cs a ccd cl outer A₀ base h₀ L m s Q E rest S dS nl t1 t2 tm vs ns k x tx i ti W dW G zn cv sd sc u ppem => ∀ (B : Below A₀ base outer h₀) (F : Fr h₀ L s.heap m) (X : (lay.heap_1 w.params).In h₀) (N : News h₀ L s.heap ((S, instObj 425 dS) :: (dS, dictOf (StkE w t1 t2 tm nl) 2) :: (nl, listOf vs.toArray k) :: rest)) (T' : Top view (looseW view [Str.ofString "HintWork"]) mean mg mb h₀) (hk : cs.kind = .function) (hdp : dp + 3 < recursionLimit) (hun : un + 104 < cLine) (off : OwnOff rest [nl, dS]) (hret : ∀ h' tk' nl', Fr h₀ L h' m → News h₀ L h' ((nl', listOf ([] : List Value).toArray 0) :: (S, instObj 425 dS) :: (dS, dictOf (StkE w t1 t2 tm nl') 2) :: (nl, listOf vs.toArray k) :: rest) → (@LT.lt Nat _ S nl' ∧ @LT.lt Nat _ dS nl' ∧ @LT.lt Nat _ nl nl' ∧ AllLt nl' rest) → Q .none { s with heap := h', toks := tk' }),
  wpAny (model PySem.Challenge.rw_on0247_01.row.toRowW.prog w) (ktrTop dp un gd cn cs L a ccd cl outer) (call (.ref 422) [.ref S]) Q E s
noncomputable def cvt_okF_S : US_T := fun w mean mg mb dp un gd cn cs a ccd cl outer A₀ base h₀ L m s Q E rest S dS nl t1 t2 tm vs ns k x tx i ti W dW G zn cv sd sc u ppem => ∀ (B : Below A₀ base outer h₀) (F : Fr h₀ L s.heap m) (X : (lay.heap_1 w.params).In h₀) (N : News h₀ L s.heap ((W, instObj 476 dW) :: (dW, dictOf (WrkE w u G S zn cv sd sc ppem) 8) :: (cv, listOf vs.toArray k) :: rest)) (T' : Top view (looseW view [Str.ofString "HintWork"]) mean mg mb h₀) (hk : cs.kind = .function) (hdp : dp + 3 < recursionLimit) (hun : un + 104 < cLine)  (hi : IntsAre vs ns)
   (hlen : (ns.length : Int) < 100)
   (h1 : 0 ≤ i)
   (h2 : i < ns.length)
   (hret : ∀ h' tk' t', Fr h₀ L h' m → News h₀ L h' ((W, instObj 476 dW) :: (dW, dictOf (WrkE w u G S zn cv sd sc ppem) 8) :: (cv, listOf vs.toArray k) :: rest) → Q (.int (ns.getD (Int.toNat i) 0) t') { s with heap := h', toks := tk' }),
  wpAny (model PySem.Challenge.rw_on0247_01.row.toRowW.prog w) (ktrTop dp un gd cn cs L a ccd cl outer) (call (.ref 459) [.ref W, .int i ti]) Q E s
noncomputable def cvt_noF_S : US_T := fun w mean mg mb dp un gd cn cs a ccd cl outer A₀ base h₀ L m s Q E rest S dS nl t1 t2 tm vs ns k x tx i ti W dW G zn cv sd sc u ppem => ∀ (B : Below A₀ base outer h₀) (F : Fr h₀ L s.heap m) (X : (lay.heap_1 w.params).In h₀) (N : News h₀ L s.heap ((W, instObj 476 dW) :: (dW, dictOf (WrkE w u G S zn cv sd sc ppem) 8) :: (cv, listOf vs.toArray k) :: rest)) (T' : Top view (looseW view [Str.ofString "HintWork"]) mean mg mb h₀) (hk : cs.kind = .function) (hdp : dp + 3 < recursionLimit) (hun : un + 104 < cLine)  (hi : IntsAre vs ns)
   (hlen : (ns.length : Int) < 100)
   (hb : i < 10 ^ 10)
   (hb2 : -(10 ^ 10) < i)
   (h1 : ¬ (0 ≤ i ∧ i < ns.length))
   (hexc : ∀ e h' tk' g₂, RaisedN base (envX cn cs L a ccd cl :: outer) e (.ref 51) ((W, instObj 476 dW) :: (dW, dictOf (WrkE w u G S zn cv sd sc ppem) 8) :: (cv, listOf vs.toArray k) :: rest) h' → g₂.UpToSlots h' → Fr h₀ L g₂ m → E (.ref e) { s with heap := h', toks := tk' }),
  wpAny (model PySem.Challenge.rw_on0247_01.row.toRowW.prog w) (ktrTop dp un gd cn cs L a ccd cl outer) (call (.ref 459) [.ref W, .int i ti]) Q E s
noncomputable def US_l : List US_T := [push_okF_S, push_fullF_S, pop_okF_S, pop_noF_S, peek_okF_S, peek_noF_S, depthF_S, clearF_S, cvt_okF_S, cvt_noF_S]
noncomputable def US_S (p : Bag) : Prop := ∀ f ∈ US_l, US_at p f
noncomputable def US_c : Bag := skc US_S
theorem US_reg : True := by
  (k_with "lay US" => (delta US_at; refine (?layF0 : US_all _) (US_c.fWo 0) (US_c.fMe 0) (US_c.fM 0) (US_c.fM 1) (US_c.fN 0) (US_c.fN 1) (US_c.fGD 0) (US_c.fSt 0) (US_c.fSc 0) (US_c.fA 0) (US_c.fV 0) (US_c.fCL 0) (US_c.fEn 0) (US_c.fAr 0) (US_c.fH 0) (US_c.fH 1) (US_c.fA 1) (US_c.fM 2) (US_c.fSh 0) (US_c.fQ 0) (US_c.fQ 1) (US_c.fAO 0) (US_c.fA 2) (US_c.fA 3) (US_c.fA 4) (US_c.fT 0) (US_c.fT 1) (US_c.fT 2) (US_c.fVL 0) (US_c.fIL 0) (US_c.fN 2) (US_c.fI 0) (US_c.fT 3) (US_c.fI 1) (US_c.fT 4) (US_c.fA 5) (US_c.fA 6) (US_c.fA 7) (US_c.fA 8) (US_c.fA 9) (US_c.fA 10) (US_c.fA 11) (US_c.fU 0) (US_c.fI 2); intro w mean mg mb dp un gd cn cs a ccd cl outer A₀ base h₀ L m s Q E rest S dS nl t1 t2 tm vs ns k x tx i ti W dW G zn cv sd sc u ppem))
  trivial
theorem push_okF_at : US_at US_c push_okF_S :=
  (by intro hz8; exact hz8 : (have hz8 : US_at US_c push_okF_S := (by
  k_extra "lay US"
  intro B F X N T' hk hdp hun off hi hlen hret
  have sken := sken
  have skon := skon
  have ne_0_1 : @Ne Nat S dS := ne_obj (N _ (.head _)).1 (N _ (.tail _ (.head _))).1 (by simp)
  have ne_0_2 : @Ne Nat S nl := ne_obj (N _ (.head _)).1 (N _ (.tail _ (.tail _ (.head _)))).1 (by simp)
  have ne_1_2 : @Ne Nat dS nl := ne_obj (N _ (.tail _ (.head _))).1 (N _ (.tail _ (.tail _ (.head _)))).1 (by simp)
  revert X; k_fill; intro X
  refine wpAny_call ?_
  k_extra "x_enterF"
  k_steps
  all_goals (try simp only [List.push_toArray] at *)
  all_goals (first | exact hret _ _ (by k_asm) (by k_asm) | exact hret _ _ _ (by k_asm) (by k_asm) | exact hret _ _ (by k_asm) (cb_drop (by assumption) (by kcj_all)) | exact hret _ _ _ (by k_asm) (cb_drop (by assumption) (by kcj_all)))); US_at US_c push_okF_S))
theorem push_fullF_at : US_at US_c push_fullF_S :=
  (by intro hz8; exact hz8 : (have hz8 : US_at US_c push_fullF_S := (by
  k_extra "lay US"
  intro B F X N T' hk hdp hun hi hlen hl2 hexc
  have sken := sken
  have skon := skon
  have ne_0_1 : @Ne Nat S dS := ne_obj (N _ (.head _)).1 (N _ (.tail _ (.head _))).1 (by simp)
  have ne_0_2 : @Ne Nat S nl := ne_obj (N _ (.head _)).1 (N _ (.tail _ (.tail _ (.head _)))).1 (by simp)
  have ne_1_2 : @Ne Nat dS nl := ne_obj (N _ (.tail _ (.head _))).1 (N _ (.tail _ (.tail _ (.head _)))).1 (by simp)
  revert X; k_fill; intro X
  refine wpAny_call ?_
  k_extra "x_enterF"
  k_steps
  all_goals (first | exact hexc _ _ _ _ (by assumption) (by assumption) (by assumption) | exact hexc _ _ _ _ (raised_sub (by assumption) (by kcj_all)) (by assumption) (by assumption))); US_at US_c push_fullF_S))
theorem pop_okF_at : US_at US_c pop_okF_S :=
  (by intro hz8; exact hz8 : (have hz8 : US_at US_c pop_okF_S := (by
  k_extra "lay US"
  intro B F X N T' hk hdp hun off hi hlen hret
  have sken := sken
  have skon := skon
  have ne_0_1 : @Ne Nat S dS := ne_obj (N _ (.head _)).1 (N _ (.tail _ (.head _))).1 (by simp)
  have ne_0_2 : @Ne Nat S nl := ne_obj (N _ (.head _)).1 (N _ (.tail _ (.tail _ (.head _)))).1 (by simp)
  have ne_1_2 : @Ne Nat dS nl := ne_obj (N _ (.tail _ (.head _))).1 (N _ (.tail _ (.tail _ (.head _)))).1 (by simp)
  revert X; k_fill; intro X
  refine wpAny_call ?_
  k_extra "x_enterF"
  have hi2 : IntsAre (vs ++ [Value.int x tx]) (ns ++ [x]) := ints_app hi (.cons x tx .nil)
  have hne : ¬ (ns ++ [x] = []) := by simp
  have hv := hi.length
  k_steps
  all_goals (try simp only [List.push_toArray] at *)
  all_goals (first | exact hret _ _ (by k_asm) (by k_asm) | exact hret _ _ _ (by k_asm) (by k_asm) | exact hret _ _ (by k_asm) (cb_drop (by assumption) (by kcj_all)) | exact hret _ _ _ (by k_asm) (cb_drop (by assumption) (by kcj_all)))); US_at US_c pop_okF_S))
theorem pop_noF_at : US_at US_c pop_noF_S :=
  (by intro hz8; exact hz8 : (have hz8 : US_at US_c pop_noF_S := (by
  k_extra "lay US"
  intro B F X N T' hk hdp hun hexc
  have sken := sken
  have skon := skon
  have ne_0_1 : @Ne Nat S dS := ne_obj (N _ (.head _)).1 (N _ (.tail _ (.head _))).1 (by simp)
  have ne_0_2 : @Ne Nat S nl := ne_obj (N _ (.head _)).1 (N _ (.tail _ (.tail _ (.head _)))).1 (by simp)
  have ne_1_2 : @Ne Nat dS nl := ne_obj (N _ (.tail _ (.head _))).1 (N _ (.tail _ (.tail _ (.head _)))).1 (by simp)
  revert X; k_fill; intro X
  refine wpAny_call ?_
  k_extra "x_enterF"
  have hi2 : IntsAre ([] : List Value) [] := .nil
  k_steps
  all_goals (first | exact hexc _ _ _ _ (by assumption) (by assumption) (by assumption) | exact hexc _ _ _ _ (raised_sub (by assumption) (by kcj_all)) (by assumption) (by assumption))); US_at US_c pop_noF_S))
theorem peek_okF_at : US_at US_c peek_okF_S :=
  (by intro hz8; exact hz8 : (have hz8 : US_at US_c peek_okF_S := (by
  k_extra "lay US"
  intro B F X N T' hk hdp hun hi hlen h1 h2 hret
  have sken := sken
  have skon := skon
  have ne_0_1 : @Ne Nat S dS := ne_obj (N _ (.head _)).1 (N _ (.tail _ (.head _))).1 (by simp)
  have ne_0_2 : @Ne Nat S nl := ne_obj (N _ (.head _)).1 (N _ (.tail _ (.tail _ (.head _)))).1 (by simp)
  have ne_1_2 : @Ne Nat dS nl := ne_obj (N _ (.tail _ (.head _))).1 (N _ (.tail _ (.tail _ (.head _)))).1 (by simp)
  revert X; k_fill; intro X
  refine wpAny_call ?_
  k_extra "x_enterF"
  k_steps
  all_goals (try simp only [List.push_toArray] at *)
  all_goals (first | exact hret _ _ (by k_asm) (by k_asm) | exact hret _ _ _ (by k_asm) (by k_asm) | exact hret _ _ (by k_asm) (cb_drop (by assumption) (by kcj_all)) | exact hret _ _ _ (by k_asm) (cb_drop (by assumption) (by kcj_all)))); US_at US_c peek_okF_S))
theorem peek_noF_at : US_at US_c peek_noF_S :=
  (by intro hz8; exact hz8 : (have hz8 : US_at US_c peek_noF_S := (by
  k_extra "lay US"
  intro B F X N T' hk hdp hun hi hlen hb hb2 h1 hexc
  have sken := sken
  have skon := skon
  have ne_0_1 : @Ne Nat S dS := ne_obj (N _ (.head _)).1 (N _ (.tail _ (.head _))).1 (by simp)
  have ne_0_2 : @Ne Nat S nl := ne_obj (N _ (.head _)).1 (N _ (.tail _ (.tail _ (.head _)))).1 (by simp)
  have ne_1_2 : @Ne Nat dS nl := ne_obj (N _ (.tail _ (.head _))).1 (N _ (.tail _ (.tail _ (.head _)))).1 (by simp)
  revert X; k_fill; intro X
  refine wpAny_call ?_
  k_extra "x_enterF"
  k_steps
  all_goals (first | exact hexc _ _ _ _ (by assumption) (by assumption) (by assumption) | exact hexc _ _ _ _ (raised_sub (by assumption) (by kcj_all)) (by assumption) (by assumption))); US_at US_c peek_noF_S))
theorem depthF_at : US_at US_c depthF_S :=
  (by intro hz8; exact hz8 : (have hz8 : US_at US_c depthF_S := (by
  k_extra "lay US"
  intro B F X N T' hk hdp hun hi hlen hret
  have sken := sken
  have skon := skon
  have ne_0_1 : @Ne Nat S dS := ne_obj (N _ (.head _)).1 (N _ (.tail _ (.head _))).1 (by simp)
  have ne_0_2 : @Ne Nat S nl := ne_obj (N _ (.head _)).1 (N _ (.tail _ (.tail _ (.head _)))).1 (by simp)
  have ne_1_2 : @Ne Nat dS nl := ne_obj (N _ (.tail _ (.head _))).1 (N _ (.tail _ (.tail _ (.head _)))).1 (by simp)
  revert X; k_fill; intro X
  refine wpAny_call ?_
  k_extra "x_enterF"
  k_steps
  all_goals (try simp only [List.push_toArray] at *)
  all_goals (first | exact hret _ _ (by k_asm) (by k_asm) | exact hret _ _ _ (by k_asm) (by k_asm) | exact hret _ _ (by k_asm) (cb_drop (by assumption) (by kcj_all)) | exact hret _ _ _ (by k_asm) (cb_drop (by assumption) (by kcj_all)))); US_at US_c depthF_S))
theorem clearF_at : US_at US_c clearF_S :=
  (by intro hz8; exact hz8 : (have hz8 : US_at US_c clearF_S := (by
  k_extra "lay US"
  intro B F X N T' hk hdp hun off hret
  have sken := sken
  have skon := skon
  have ne_0_1 : @Ne Nat S dS := ne_obj (N _ (.head _)).1 (N _ (.tail _ (.head _))).1 (by simp)
  have ne_0_2 : @Ne Nat S nl := ne_obj (N _ (.head _)).1 (N _ (.tail _ (.tail _ (.head _)))).1 (by simp)
  have ne_1_2 : @Ne Nat dS nl := ne_obj (N _ (.tail _ (.head _))).1 (N _ (.tail _ (.tail _ (.head _)))).1 (by simp)
  revert X; k_fill; intro X
  refine wpAny_call ?_
  k_extra "x_enterF"
  k_steps
  exact hret _ _ _ (by k_asm) (by k_asm) (by k_asm)); US_at US_c clearF_S))
theorem cvt_okF_at : US_at US_c cvt_okF_S :=
  (by intro hz8; exact hz8 : (have hz8 : US_at US_c cvt_okF_S := (by
  k_extra "lay US"
  intro B F X N T' hk hdp hun hi hlen h1 h2 hret
  have sken := sken
  have skon := skon
  have ne_0_1 : @Ne Nat W dW := ne_obj (N _ (.head _)).1 (N _ (.tail _ (.head _))).1 (by simp)
  have ne_0_2 : @Ne Nat W cv := ne_obj (N _ (.head _)).1 (N _ (.tail _ (.tail _ (.head _)))).1 (by simp)
  have ne_1_2 : @Ne Nat dW cv := ne_obj (N _ (.tail _ (.head _))).1 (N _ (.tail _ (.tail _ (.head _)))).1 (by simp)
  revert X; k_fill; intro X
  refine wpAny_call ?_
  k_extra "x_enterF"
  k_steps
  all_goals (try simp only [List.push_toArray] at *)
  all_goals (first | exact hret _ _ (by k_asm) (by k_asm) | exact hret _ _ _ (by k_asm) (by k_asm) | exact hret _ _ (by k_asm) (cb_drop (by assumption) (by kcj_all)) | exact hret _ _ _ (by k_asm) (cb_drop (by assumption) (by kcj_all)))); US_at US_c cvt_okF_S))
theorem cvt_noF_at : US_at US_c cvt_noF_S :=
  (by intro hz8; exact hz8 : (have hz8 : US_at US_c cvt_noF_S := (by
  k_extra "lay US"
  intro B F X N T' hk hdp hun hi hlen hb hb2 h1 hexc
  have sken := sken
  have skon := skon
  have ne_0_1 : @Ne Nat W dW := ne_obj (N _ (.head _)).1 (N _ (.tail _ (.head _))).1 (by simp)
  have ne_0_2 : @Ne Nat W cv := ne_obj (N _ (.head _)).1 (N _ (.tail _ (.tail _ (.head _)))).1 (by simp)
  have ne_1_2 : @Ne Nat dW cv := ne_obj (N _ (.tail _ (.head _))).1 (N _ (.tail _ (.tail _ (.head _)))).1 (by simp)
  revert X; k_fill; intro X
  refine wpAny_call ?_
  k_extra "x_enterF"
  k_steps
  all_goals (first | exact hexc _ _ _ _ (by assumption) (by assumption) (by assumption) | exact hexc _ _ _ _ (raised_sub (by assumption) (by kcj_all)) (by assumption) (by assumption))); US_at US_c cvt_noF_S))
theorem US_ok : ∀ p, ∀ f ∈ US_l, US_at p f := sk (S := US_S) (all_cons push_okF_at (all_cons push_fullF_at (all_cons pop_okF_at (all_cons pop_noF_at (all_cons peek_okF_at (all_cons peek_noF_at (all_cons depthF_at (all_cons clearF_at (all_cons cvt_okF_at (all_cons cvt_noF_at (all_nil _)))))))))))
noncomputable def US_bag (w : World) (mean : ExcName → Option Value) (mg mb : Str → Option Value) (dp un : Nat) (gd : Option (List Code)) (cn : Str) (cs : Scope) (a : Addr) (ccd : Value) (cl : List (Str × Addr)) (outer : List Env) (A₀ : Around) (base h₀ : Heap) (L : Addr) (m : Str → Option Value) (s : Shared) (Q E : Value → Shared → Prop) (rest : List (Addr × Obj)) (S dS nl : Addr) (t1 t2 tm : Tok) (vs : List Value) (ns : List Int) (k : Nat) (x : Int) (tx : Tok) (i : Int) (ti : Tok) (W dW G zn cv sd sc : Addr) (u : WTok) (ppem : Int) : Bag := ⟨fun ix9 => [a, L, S, dS, nl, W, dW, G, zn, cv, sd, sc].getD ix9 (bag0.fA 0), fun ix9 => [t1, t2, tm, tx, ti].getD ix9 (bag0.fT 0), fun ix9 => [x, i, ppem].getD ix9 (bag0.fI 0), fun ix9 => [dp, un, k].getD ix9 (bag0.fN 0), fun ix9 => [ccd].getD ix9 (bag0.fV 0), fun ix9 => [].getD ix9 (bag0.fO 0), fun ix9 => [vs].getD ix9 (bag0.fVL 0), fun ix9 => [ns].getD ix9 (bag0.fIL 0), fun ix9 => [].getD ix9 (bag0.fKV 0), fun ix9 => [].getD ix9 (bag0.fKI 0), fun ix9 => [rest].getD ix9 (bag0.fAO 0), fun ix9 => [u].getD ix9 (bag0.fU 0), fun ix9 => [].getD ix9 (bag0.fG 0), fun ix9 => [].getD ix9 (bag0.fPr 0), fun ix9 => [].getD ix9 (bag0.fEv 0), fun ix9 => [].getD ix9 (bag0.fSs 0), fun ix9 => [].getD ix9 (bag0.fEx 0), fun ix9 => [].getD ix9 (bag0.fQF 0), fun ix9 => [].getD ix9 (bag0.fJ 0), fun ix9 => [w].getD ix9 (bag0.fWo 0), fun ix9 => [mean].getD ix9 (bag0.fMe 0), fun ix9 => [mg, mb, m].getD ix9 (bag0.fM 0), fun ix9 => [gd].getD ix9 (bag0.fGD 0), fun ix9 => [cn].getD ix9 (bag0.fSt 0), fun ix9 => [cs].getD ix9 (bag0.fSc 0), fun ix9 => [cl].getD ix9 (bag0.fCL 0), fun ix9 => [outer].getD ix9 (bag0.fEn 0), fun ix9 => [A₀].getD ix9 (bag0.fAr 0), fun ix9 => [base, h₀].getD ix9 (bag0.fH 0), fun ix9 => [s].getD ix9 (bag0.fSh 0), fun ix9 => [Q, E].getD ix9 (bag0.fQ 0)⟩
theorem push_okF {w mean mg mb dp un gd cn cs a ccd cl outer A₀ base h₀ L m s Q E rest S dS nl t1 t2 tm vs ns k x tx} : push_okF_S w mean mg mb dp un gd cn cs a ccd cl outer A₀ base h₀ L m s Q E rest S dS nl t1 t2 tm vs ns k x tx (bag0.fI 0) (bag0.fT 0) (bag0.fA 0) (bag0.fA 0) (bag0.fA 0) (bag0.fA 0) (bag0.fA 0) (bag0.fA 0) (bag0.fA 0) (bag0.fU 0) (bag0.fI 0) := US_ok (US_bag w mean mg mb dp un gd cn cs a ccd cl outer A₀ base h₀ L m s Q E rest S dS nl t1 t2 tm vs ns k x tx (bag0.fI 0) (bag0.fT 0) (bag0.fA 0) (bag0.fA 0) (bag0.fA 0) (bag0.fA 0) (bag0.fA 0) (bag0.fA 0) (bag0.fA 0) (bag0.fU 0) (bag0.fI 0)) _ (List.mem_of_getElem? (i := 0) rfl)
theorem push_fullF {w mean mg mb dp un gd cn cs a ccd cl outer A₀ base h₀ L m s Q E rest S dS nl t1 t2 tm vs ns k x tx} : push_fullF_S w mean mg mb dp un gd cn cs a ccd cl outer A₀ base h₀ L m s Q E rest S dS nl t1 t2 tm vs ns k x tx (bag0.fI 0) (bag0.fT 0) (bag0.fA 0) (bag0.fA 0) (bag0.fA 0) (bag0.fA 0) (bag0.fA 0) (bag0.fA 0) (bag0.fA 0) (bag0.fU 0) (bag0.fI 0) := US_ok (US_bag w mean mg mb dp un gd cn cs a ccd cl outer A₀ base h₀ L m s Q E rest S dS nl t1 t2 tm vs ns k x tx (bag0.fI 0) (bag0.fT 0) (bag0.fA 0) (bag0.fA 0) (bag0.fA 0) (bag0.fA 0) (bag0.fA 0) (bag0.fA 0) (bag0.fA 0) (bag0.fU 0) (bag0.fI 0)) _ (List.mem_of_getElem? (i := 1) rfl)
theorem pop_okF {w mean mg mb dp un gd cn cs a ccd cl outer A₀ base h₀ L m s Q E rest S dS nl t1 t2 tm vs ns k x tx} : pop_okF_S w mean mg mb dp un gd cn cs a ccd cl outer A₀ base h₀ L m s Q E rest S dS nl t1 t2 tm vs ns k x tx (bag0.fI 0) (bag0.fT 0) (bag0.fA 0) (bag0.fA 0) (bag0.fA 0) (bag0.fA 0) (bag0.fA 0) (bag0.fA 0) (bag0.fA 0) (bag0.fU 0) (bag0.fI 0) := US_ok (US_bag w mean mg mb dp un gd cn cs a ccd cl outer A₀ base h₀ L m s Q E rest S dS nl t1 t2 tm vs ns k x tx (bag0.fI 0) (bag0.fT 0) (bag0.fA 0) (bag0.fA 0) (bag0.fA 0) (bag0.fA 0) (bag0.fA 0) (bag0.fA 0) (bag0.fA 0) (bag0.fU 0) (bag0.fI 0)) _ (List.mem_of_getElem? (i := 2) rfl)
theorem pop_noF {w mean mg mb dp un gd cn cs a ccd cl outer A₀ base h₀ L m s Q E rest S dS nl t1 t2 tm k} : pop_noF_S w mean mg mb dp un gd cn cs a ccd cl outer A₀ base h₀ L m s Q E rest S dS nl t1 t2 tm (bag0.fVL 0) (bag0.fIL 0) k (bag0.fI 0) (bag0.fT 0) (bag0.fI 0) (bag0.fT 0) (bag0.fA 0) (bag0.fA 0) (bag0.fA 0) (bag0.fA 0) (bag0.fA 0) (bag0.fA 0) (bag0.fA 0) (bag0.fU 0) (bag0.fI 0) := US_ok (US_bag w mean mg mb dp un gd cn cs a ccd cl outer A₀ base h₀ L m s Q E rest S dS nl t1 t2 tm (bag0.fVL 0) (bag0.fIL 0) k (bag0.fI 0) (bag0.fT 0) (bag0.fI 0) (bag0.fT 0) (bag0.fA 0) (bag0.fA 0) (bag0.fA 0) (bag0.fA 0) (bag0.fA 0) (bag0.fA 0) (bag0.fA 0) (bag0.fU 0) (bag0.fI 0)) _ (List.mem_of_getElem? (i := 3) rfl)
theorem peek_okF {w mean mg mb dp un gd cn cs a ccd cl outer A₀ base h₀ L m s Q E rest S dS nl t1 t2 tm vs ns k i ti} : peek_okF_S w mean mg mb dp un gd cn cs a ccd cl outer A₀ base h₀ L m s Q E rest S dS nl t1 t2 tm vs ns k (bag0.fI 0) (bag0.fT 0) i ti (bag0.fA 0) (bag0.fA 0) (bag0.fA 0) (bag0.fA 0) (bag0.fA 0) (bag0.fA 0) (bag0.fA 0) (bag0.fU 0) (bag0.fI 0) := US_ok (US_bag w mean mg mb dp un gd cn cs a ccd cl outer A₀ base h₀ L m s Q E rest S dS nl t1 t2 tm vs ns k (bag0.fI 0) (bag0.fT 0) i ti (bag0.fA 0) (bag0.fA 0) (bag0.fA 0) (bag0.fA 0) (bag0.fA 0) (bag0.fA 0) (bag0.fA 0) (bag0.fU 0) (bag0.fI 0)) _ (List.mem_of_getElem? (i := 4) rfl)
theorem peek_noF {w mean mg mb dp un gd cn cs a ccd cl outer A₀ base h₀ L m s Q E rest S dS nl t1 t2 tm vs ns k i ti} : peek_noF_S w mean mg mb dp un gd cn cs a ccd cl outer A₀ base h₀ L m s Q E rest S dS nl t1 t2 tm vs ns k (bag0.fI 0) (bag0.fT 0) i ti (bag0.fA 0) (bag0.fA 0) (bag0.fA 0) (bag0.fA 0) (bag0.fA 0) (bag0.fA 0) (bag0.fA 0) (bag0.fU 0) (bag0.fI 0) := US_ok (US_bag w mean mg mb dp un gd cn cs a ccd cl outer A₀ base h₀ L m s Q E rest S dS nl t1 t2 tm vs ns k (bag0.fI 0) (bag0.fT 0) i ti (bag0.fA 0) (bag0.fA 0) (bag0.fA 0) (bag0.fA 0) (bag0.fA 0) (bag0.fA 0) (bag0.fA 0) (bag0.fU 0) (bag0.fI 0)) _ (List.mem_of_getElem? (i := 5) rfl)
theorem depthF {w mean mg mb dp un gd cn cs a ccd cl outer A₀ base h₀ L m s Q E rest S dS nl t1 t2 tm vs ns k} : depthF_S w mean mg mb dp un gd cn cs a ccd cl outer A₀ base h₀ L m s Q E rest S dS nl t1 t2 tm vs ns k (bag0.fI 0) (bag0.fT 0) (bag0.fI 0) (bag0.fT 0) (bag0.fA 0) (bag0.fA 0) (bag0.fA 0) (bag0.fA 0) (bag0.fA 0) (bag0.fA 0) (bag0.fA 0) (bag0.fU 0) (bag0.fI 0) := US_ok (US_bag w mean mg mb dp un gd cn cs a ccd cl outer A₀ base h₀ L m s Q E rest S dS nl t1 t2 tm vs ns k (bag0.fI 0) (bag0.fT 0) (bag0.fI 0) (bag0.fT 0) (bag0.fA 0) (bag0.fA 0) (bag0.fA 0) (bag0.fA 0) (bag0.fA 0) (bag0.fA 0) (bag0.fA 0) (bag0.fU 0) (bag0.fI 0)) _ (List.mem_of_getElem? (i := 6) rfl)
theorem clearF {w mean mg mb dp un gd cn cs a ccd cl outer A₀ base h₀ L m s Q E rest S dS nl t1 t2 tm vs ns k} : clearF_S w mean mg mb dp un gd cn cs a ccd cl outer A₀ base h₀ L m s Q E rest S dS nl t1 t2 tm vs ns k (bag0.fI 0) (bag0.fT 0) (bag0.fI 0) (bag0.fT 0) (bag0.fA 0) (bag0.fA 0) (bag0.fA 0) (bag0.fA 0) (bag0.fA 0) (bag0.fA 0) (bag0.fA 0) (bag0.fU 0) (bag0.fI 0) := US_ok (US_bag w mean mg mb dp un gd cn cs a ccd cl outer A₀ base h₀ L m s Q E rest S dS nl t1 t2 tm vs ns k (bag0.fI 0) (bag0.fT 0) (bag0.fI 0) (bag0.fT 0) (bag0.fA 0) (bag0.fA 0) (bag0.fA 0) (bag0.fA 0) (bag0.fA 0) (bag0.fA 0) (bag0.fA 0) (bag0.fU 0) (bag0.fI 0)) _ (List.mem_of_getElem? (i := 7) rfl)
theorem cvt_okF {w mean mg mb dp un gd cn cs a ccd cl outer A₀ base h₀ L m s Q E rest S vs ns k i ti W dW G zn cv sd sc u ppem} : cvt_okF_S w mean mg mb dp un gd cn cs a ccd cl outer A₀ base h₀ L m s Q E rest S (bag0.fA 0) (bag0.fA 0) (bag0.fT 0) (bag0.fT 0) (bag0.fT 0) vs ns k (bag0.fI 0) (bag0.fT 0) i ti W dW G zn cv sd sc u ppem := US_ok (US_bag w mean mg mb dp un gd cn cs a ccd cl outer A₀ base h₀ L m s Q E rest S (bag0.fA 0) (bag0.fA 0) (bag0.fT 0) (bag0.fT 0) (bag0.fT 0) vs ns k (bag0.fI 0) (bag0.fT 0) i ti W dW G zn cv sd sc u ppem) _ (List.mem_of_getElem? (i := 8) rfl)
theorem cvt_noF {w mean mg mb dp un gd cn cs a ccd cl outer A₀ base h₀ L m s Q E rest S vs ns k i ti W dW G zn cv sd sc u ppem} : cvt_noF_S w mean mg mb dp un gd cn cs a ccd cl outer A₀ base h₀ L m s Q E rest S (bag0.fA 0) (bag0.fA 0) (bag0.fT 0) (bag0.fT 0) (bag0.fT 0) vs ns k (bag0.fI 0) (bag0.fT 0) i ti W dW G zn cv sd sc u ppem := US_ok (US_bag w mean mg mb dp un gd cn cs a ccd cl outer A₀ base h₀ L m s Q E rest S (bag0.fA 0) (bag0.fA 0) (bag0.fT 0) (bag0.fT 0) (bag0.fT 0) vs ns k (bag0.fI 0) (bag0.fT 0) i ti W dW G zn cv sd sc u ppem) _ (List.mem_of_getElem? (i := 9) rfl)
theorem push_ok {w : World} {mean : ExcName → Option Value} {mg mb : Str → Option Value} {dp un : Nat} {gd : Option (List Code)} {cn : Str} {cs : Scope} {a : Addr} {ccd : Value} {cl : List (Str × Addr)} {outer : List Env} {A₀ : Around} {base h₀ : Heap} {L : Addr} {m : Str → Option Value} {s : Shared} {Q E : Value → Shared → Prop}
   {news news' : List (Addr × Obj)} {S dS nl : Addr} {t1 t2 tm : Tok} {vs : List Value} {ns : List Int} {k : Nat} {x : Int} {tx : Tok}
   (B : Below A₀ base outer h₀) (F : Fr h₀ L s.heap m) (X : (lay.heap_1 w.params).In h₀) (N : News h₀ L s.heap news) (T' : Top view (looseW view [Str.ofString "HintWork"]) mean mg mb h₀) (hk : cs.kind = .function) (hdp : dp + 3 < recursionLimit) (hun : un + 104 < cLine)
   (m0 : (S, instObj 425 dS) ∈ news) (m1 : (dS, dictOf (StkE w t1 t2 tm nl) 2) ∈ news) (U : Upd nl (listOf vs.toArray k) (listOf (vs ++ [Value.int x tx]).toArray (k+1)) news news')
   (hi : IntsAre vs ns)
   (hlen : (ns.length : Int) < 12)
   (hret : ∀ h' tk', Fr h₀ L h' m → News h₀ L h' news' → Q .none { s with heap := h', toks := tk' }) :
   wpAny (model PySem.Challenge.rw_on0247_01.row.toRowW.prog w) (ktrTop dp un gd cn cs L a ccd cl outer) (call (.ref 394) [.ref S, .int x tx]) Q E s := by
  obtain ⟨pre, post, rfl, rfl, a1, b1⟩ := U.split
  exact push_okF (rest := pre ++ post) (S := S) (dS := dS) (nl := nl) (t1 := t1) (t2 := t2) (tm := tm) (vs := vs) (ns := ns) (k := k) (x := x) (tx := tx) B F (fun p hp => by exact X p hp) (cb_drop N (sub_cons m0 (sub_cons m1 (sub_cons (mem_mid _ _ _) (sub_mid _ _ _))))) T' hk hdp hun (off_mid a1 b1) (by exact hi) (by exact hlen) (fun h9 tk9 F9 N9 => hret h9 tk9 F9 (cb_drop N9 (back_mid (.tail _ (.tail _ (.head _))) (fun p hp => .tail _ (.tail _ (.tail _ (hp)))))))
theorem push_full {w : World} {mean : ExcName → Option Value} {mg mb : Str → Option Value} {dp un : Nat} {gd : Option (List Code)} {cn : Str} {cs : Scope} {a : Addr} {ccd : Value} {cl : List (Str × Addr)} {outer : List Env} {A₀ : Around} {base h₀ : Heap} {L : Addr} {m : Str → Option Value} {s : Shared} {Q E : Value → Shared → Prop}
   {news  : List (Addr × Obj)} {S dS nl : Addr} {t1 t2 tm : Tok} {vs : List Value} {ns : List Int} {k : Nat} {x : Int} {tx : Tok}
   (B : Below A₀ base outer h₀) (F : Fr h₀ L s.heap m) (X : (lay.heap_1 w.params).In h₀) (N : News h₀ L s.heap news) (T' : Top view (looseW view [Str.ofString "HintWork"]) mean mg mb h₀) (hk : cs.kind = .function) (hdp : dp + 3 < recursionLimit) (hun : un + 104 < cLine)
   (m0 : (S, instObj 425 dS) ∈ news) (m1 : (dS, dictOf (StkE w t1 t2 tm nl) 2) ∈ news) (m2 : (nl, listOf vs.toArray k) ∈ news)
   (hi : IntsAre vs ns)
   (hlen : 12 ≤ (ns.length : Int))
   (hl2 : (ns.length : Int) < 100)
   (hexc : ∀ e h' tk' g₂, RaisedN base (envX cn cs L a ccd cl :: outer) e (.ref 51) news h' → g₂.UpToSlots h' → Fr h₀ L g₂ m → E (.ref e) { s with heap := h', toks := tk' }) :
   wpAny (model PySem.Challenge.rw_on0247_01.row.toRowW.prog w) (ktrTop dp un gd cn cs L a ccd cl outer) (call (.ref 394) [.ref S, .int x tx]) Q E s := by
  exact push_fullF (rest := news) (S := S) (dS := dS) (nl := nl) (t1 := t1) (t2 := t2) (tm := tm) (vs := vs) (ns := ns) (k := k) (x := x) (tx := tx) B F (fun p hp => by exact X p hp) (cb_drop N (sub_cons m0 (sub_cons m1 (sub_cons m2 (fun _ h => h))))) T' hk hdp hun (by exact hi) (by exact hlen) (by exact hl2) (fun e9 h9 tk9 g9 R9 U9 F9 => hexc e9 h9 tk9 g9 (raised_sub R9 fun p hp => .tail _ (.tail _ (.tail _ (hp)))) U9 F9)
theorem pop_ok {w : World} {mean : ExcName → Option Value} {mg mb : Str → Option Value} {dp un : Nat} {gd : Option (List Code)} {cn : Str} {cs : Scope} {a : Addr} {ccd : Value} {cl : List (Str × Addr)} {outer : List Env} {A₀ : Around} {base h₀ : Heap} {L : Addr} {m : Str → Option Value} {s : Shared} {Q E : Value → Shared → Prop}
   {news news' : List (Addr × Obj)} {S dS nl : Addr} {t1 t2 tm : Tok} {vs : List Value} {ns : List Int} {k : Nat} {x : Int} {tx : Tok}
   (B : Below A₀ base outer h₀) (F : Fr h₀ L s.heap m) (X : (lay.heap_1 w.params).In h₀) (N : News h₀ L s.heap news) (T' : Top view (looseW view [Str.ofString "HintWork"]) mean mg mb h₀) (hk : cs.kind = .function) (hdp : dp + 3 < recursionLimit) (hun : un + 104 < cLine)
   (m0 : (S, instObj 425 dS) ∈ news) (m1 : (dS, dictOf (StkE w t1 t2 tm nl) 2) ∈ news) (U : Upd nl (listOf (vs ++ [Value.int x tx]).toArray k) (listOf vs.toArray (k+1)) news news')
   (hi : IntsAre vs ns)
   (hlen : (ns.length : Int) < 100)
   (hret : ∀ h' tk', Fr h₀ L h' m → News h₀ L h' news' → Q (.int x tx) { s with heap := h', toks := tk' }) :
   wpAny (model PySem.Challenge.rw_on0247_01.row.toRowW.prog w) (ktrTop dp un gd cn cs L a ccd cl outer) (call (.ref 401) [.ref S]) Q E s := by
  obtain ⟨pre, post, rfl, rfl, a1, b1⟩ := U.split
  exact pop_okF (rest := pre ++ post) (S := S) (dS := dS) (nl := nl) (t1 := t1) (t2 := t2) (tm := tm) (vs := vs) (ns := ns) (k := k) (x := x) (tx := tx) B F (fun p hp => by exact X p hp) (cb_drop N (sub_cons m0 (sub_cons m1 (sub_cons (mem_mid _ _ _) (sub_mid _ _ _))))) T' hk hdp hun (off_mid a1 b1) (by exact hi) (by exact hlen) (fun h9 tk9 F9 N9 => hret h9 tk9 F9 (cb_drop N9 (back_mid (.tail _ (.tail _ (.head _))) (fun p hp => .tail _ (.tail _ (.tail _ (hp)))))))
theorem pop_no {w : World} {mean : ExcName → Option Value} {mg mb : Str → Option Value} {dp un : Nat} {gd : Option (List Code)} {cn : Str} {cs : Scope} {a : Addr} {ccd : Value} {cl : List (Str × Addr)} {outer : List Env} {A₀ : Around} {base h₀ : Heap} {L : Addr} {m : Str → Option Value} {s : Shared} {Q E : Value → Shared → Prop}
   {news  : List (Addr × Obj)} {S dS nl : Addr} {t1 t2 tm : Tok} {k : Nat}
   (B : Below A₀ base outer h₀) (F : Fr h₀ L s.heap m) (X : (lay.heap_1 w.params).In h₀) (N : News h₀ L s.heap news) (T' : Top view (looseW view [Str.ofString "HintWork"]) mean mg mb h₀) (hk : cs.kind = .function) (hdp : dp + 3 < recursionLimit) (hun : un + 104 < cLine)
   (m0 : (S, instObj 425 dS) ∈ news) (m1 : (dS, dictOf (StkE w t1 t2 tm nl) 2) ∈ news) (m2 : (nl, listOf ([] : List Value).toArray k) ∈ news)
   
   (hexc : ∀ e h' tk' g₂, RaisedN base (envX cn cs L a ccd cl :: outer) e (.ref 51) news h' → g₂.UpToSlots h' → Fr h₀ L g₂ m → E (.ref e) { s with heap := h', toks := tk' }) :
   wpAny (model PySem.Challenge.rw_on0247_01.row.toRowW.prog w) (ktrTop dp un gd cn cs L a ccd cl outer) (call (.ref 401) [.ref S]) Q E s := by
  exact pop_noF (rest := news) (S := S) (dS := dS) (nl := nl) (t1 := t1) (t2 := t2) (tm := tm) (k := k) B F (fun p hp => by exact X p hp) (cb_drop N (sub_cons m0 (sub_cons m1 (sub_cons m2 (fun _ h => h))))) T' hk hdp hun  (fun e9 h9 tk9 g9 R9 U9 F9 => hexc e9 h9 tk9 g9 (raised_sub R9 fun p hp => .tail _ (.tail _ (.tail _ (hp)))) U9 F9)
theorem peek_ok {w : World} {mean : ExcName → Option Value} {mg mb : Str → Option Value} {dp un : Nat} {gd : Option (List Code)} {cn : Str} {cs : Scope} {a : Addr} {ccd : Value} {cl : List (Str × Addr)} {outer : List Env} {A₀ : Around} {base h₀ : Heap} {L : Addr} {m : Str → Option Value} {s : Shared} {Q E : Value → Shared → Prop}
   {news  : List (Addr × Obj)} {S dS nl : Addr} {t1 t2 tm : Tok} {vs : List Value} {ns : List Int} {k : Nat} {i : Int} {ti : Tok}
   (B : Below A₀ base outer h₀) (F : Fr h₀ L s.heap m) (X : (lay.heap_1 w.params).In h₀) (N : News h₀ L s.heap news) (T' : Top view (looseW view [Str.ofString "HintWork"]) mean mg mb h₀) (hk : cs.kind = .function) (hdp : dp + 3 < recursionLimit) (hun : un + 104 < cLine)
   (m0 : (S, instObj 425 dS) ∈ news) (m1 : (dS, dictOf (StkE w t1 t2 tm nl) 2) ∈ news) (m2 : (nl, listOf vs.toArray k) ∈ news)
   (hi : IntsAre vs ns)
   (hlen : (ns.length : Int) < 100)
   (h1 : 1 ≤ i)
   (h2 : i ≤ ns.length)
   (hret : ∀ h' tk' t', Fr h₀ L h' m → News h₀ L h' news → Q (.int (ns.getD (Int.toNat (ns.length - i)) 0) t') { s with heap := h', toks := tk' }) :
   wpAny (model PySem.Challenge.rw_on0247_01.row.toRowW.prog w) (ktrTop dp un gd cn cs L a ccd cl outer) (call (.ref 408) [.ref S, .int i ti]) Q E s := by
  exact peek_okF (rest := news) (S := S) (dS := dS) (nl := nl) (t1 := t1) (t2 := t2) (tm := tm) (vs := vs) (ns := ns) (k := k) (i := i) (ti := ti) B F (fun p hp => by exact X p hp) (cb_drop N (sub_cons m0 (sub_cons m1 (sub_cons m2 (fun _ h => h))))) T' hk hdp hun (by exact hi) (by exact hlen) (by exact h1) (by exact h2) (fun h9 tk9 t9 F9 N9 => hret h9 tk9 t9 F9 (fun p hp => N9 p (.tail _ (.tail _ (.tail _ (hp))))))
theorem peek_no {w : World} {mean : ExcName → Option Value} {mg mb : Str → Option Value} {dp un : Nat} {gd : Option (List Code)} {cn : Str} {cs : Scope} {a : Addr} {ccd : Value} {cl : List (Str × Addr)} {outer : List Env} {A₀ : Around} {base h₀ : Heap} {L : Addr} {m : Str → Option Value} {s : Shared} {Q E : Value → Shared → Prop}
   {news  : List (Addr × Obj)} {S dS nl : Addr} {t1 t2 tm : Tok} {vs : List Value} {ns : List Int} {k : Nat} {i : Int} {ti : Tok}
   (B : Below A₀ base outer h₀) (F : Fr h₀ L s.heap m) (X : (lay.heap_1 w.params).In h₀) (N : News h₀ L s.heap news) (T' : Top view (looseW view [Str.ofString "HintWork"]) mean mg mb h₀) (hk : cs.kind = .function) (hdp : dp + 3 < recursionLimit) (hun : un + 104 < cLine)
   (m0 : (S, instObj 425 dS) ∈ news) (m1 : (dS, dictOf (StkE w t1 t2 tm nl) 2) ∈ news) (m2 : (nl, listOf vs.toArray k) ∈ news)
   (hi : IntsAre vs ns)
   (hlen : (ns.length : Int) < 100)
   (hb : i < 10 ^ 10)
   (hb2 : -(10 ^ 10) < i)
   (h1 : ¬ (1 ≤ i ∧ i ≤ ns.length))
   (hexc : ∀ e h' tk' g₂, RaisedN base (envX cn cs L a ccd cl :: outer) e (.ref 51) news h' → g₂.UpToSlots h' → Fr h₀ L g₂ m → E (.ref e) { s with heap := h', toks := tk' }) :
   wpAny (model PySem.Challenge.rw_on0247_01.row.toRowW.prog w) (ktrTop dp un gd cn cs L a ccd cl outer) (call (.ref 408) [.ref S, .int i ti]) Q E s := by
  exact peek_noF (rest := news) (S := S) (dS := dS) (nl := nl) (t1 := t1) (t2 := t2) (tm := tm) (vs := vs) (ns := ns) (k := k) (i := i) (ti := ti) B F (fun p hp => by exact X p hp) (cb_drop N (sub_cons m0 (sub_cons m1 (sub_cons m2 (fun _ h => h))))) T' hk hdp hun (by exact hi) (by exact hlen) (by exact hb) (by exact hb2) (by exact h1) (fun e9 h9 tk9 g9 R9 U9 F9 => hexc e9 h9 tk9 g9 (raised_sub R9 fun p hp => .tail _ (.tail _ (.tail _ (hp)))) U9 F9)
theorem depth {w : World} {mean : ExcName → Option Value} {mg mb : Str → Option Value} {dp un : Nat} {gd : Option (List Code)} {cn : Str} {cs : Scope} {a : Addr} {ccd : Value} {cl : List (Str × Addr)} {outer : List Env} {A₀ : Around} {base h₀ : Heap} {L : Addr} {m : Str → Option Value} {s : Shared} {Q E : Value → Shared → Prop}
   {news  : List (Addr × Obj)} {S dS nl : Addr} {t1 t2 tm : Tok} {vs : List Value} {ns : List Int} {k : Nat}
   (B : Below A₀ base outer h₀) (F : Fr h₀ L s.heap m) (X : (lay.heap_1 w.params).In h₀) (N : News h₀ L s.heap news) (T' : Top view (looseW view [Str.ofString "HintWork"]) mean mg mb h₀) (hk : cs.kind = .function) (hdp : dp + 3 < recursionLimit) (hun : un + 104 < cLine)
   (m0 : (S, instObj 425 dS) ∈ news) (m1 : (dS, dictOf (StkE w t1 t2 tm nl) 2) ∈ news) (m2 : (nl, listOf vs.toArray k) ∈ news)
   (hi : IntsAre vs ns)
   (hlen : (ns.length : Int) < 100)
   (hret : ∀ h' tk' t', Fr h₀ L h' m → News h₀ L h' news → Q (.int (ns.length : Int) t') { s with heap := h', toks := tk' }) :
   wpAny (model PySem.Challenge.rw_on0247_01.row.toRowW.prog w) (ktrTop dp un gd cn cs L a ccd cl outer) (call (.ref 415) [.ref S]) Q E s := by
  exact depthF (rest := news) (S := S) (dS := dS) (nl := nl) (t1 := t1) (t2 := t2) (tm := tm) (vs := vs) (ns := ns) (k := k) B F (fun p hp => by exact X p hp) (cb_drop N (sub_cons m0 (sub_cons m1 (sub_cons m2 (fun _ h => h))))) T' hk hdp hun (by exact hi) (by exact hlen) (fun h9 tk9 t9 F9 N9 => hret h9 tk9 t9 F9 (fun p hp => N9 p (.tail _ (.tail _ (.tail _ (hp))))))
theorem cvt_ok {w : World} {mean : ExcName → Option Value} {mg mb : Str → Option Value} {dp un : Nat} {gd : Option (List Code)} {cn : Str} {cs : Scope} {a : Addr} {ccd : Value} {cl : List (Str × Addr)} {outer : List Env} {A₀ : Around} {base h₀ : Heap} {L : Addr} {m : Str → Option Value} {s : Shared} {Q E : Value → Shared → Prop}
   {news  : List (Addr × Obj)} {W dW G S zn cv sd sc : Addr} {u : WTok} {ppem : Int} {vs : List Value} {ns : List Int} {k : Nat} {i : Int} {ti : Tok}
   (B : Below A₀ base outer h₀) (F : Fr h₀ L s.heap m) (X : (lay.heap_1 w.params).In h₀) (N : News h₀ L s.heap news) (T' : Top view (looseW view [Str.ofString "HintWork"]) mean mg mb h₀) (hk : cs.kind = .function) (hdp : dp + 3 < recursionLimit) (hun : un + 104 < cLine)
   (m0 : (W, instObj 476 dW) ∈ news) (m1 : (dW, dictOf (WrkE w u G S zn cv sd sc ppem) 8) ∈ news) (m2 : (cv, listOf vs.toArray k) ∈ news)
   (hi : IntsAre vs ns)
   (hlen : (ns.length : Int) < 100)
   (h1 : 0 ≤ i)
   (h2 : i < ns.length)
   (hret : ∀ h' tk' t', Fr h₀ L h' m → News h₀ L h' news → Q (.int (ns.getD (Int.toNat i) 0) t') { s with heap := h', toks := tk' }) :
   wpAny (model PySem.Challenge.rw_on0247_01.row.toRowW.prog w) (ktrTop dp un gd cn cs L a ccd cl outer) (call (.ref 459) [.ref W, .int i ti]) Q E s := by
  exact cvt_okF (rest := news) (W := W) (dW := dW) (G := G) (S := S) (zn := zn) (cv := cv) (sd := sd) (sc := sc) (u := u) (ppem := ppem) (vs := vs) (ns := ns) (k := k) (i := i) (ti := ti) B F (fun p hp => by exact X p hp) (cb_drop N (sub_cons m0 (sub_cons m1 (sub_cons m2 (fun _ h => h))))) T' hk hdp hun (by exact hi) (by exact hlen) (by exact h1) (by exact h2) (fun h9 tk9 t9 F9 N9 => hret h9 tk9 t9 F9 (fun p hp => N9 p (.tail _ (.tail _ (.tail _ (hp))))))
theorem cvt_no {w : World} {mean : ExcName → Option Value} {mg mb : Str → Option Value} {dp un : Nat} {gd : Option (List Code)} {cn : Str} {cs : Scope} {a : Addr} {ccd : Value} {cl : List (Str × Addr)} {outer : List Env} {A₀ : Around} {base h₀ : Heap} {L : Addr} {m : Str → Option Value} {s : Shared} {Q E : Value → Shared → Prop}
   {news  : List (Addr × Obj)} {W dW G S zn cv sd sc : Addr} {u : WTok} {ppem : Int} {vs : List Value} {ns : List Int} {k : Nat} {i : Int} {ti : Tok}
   (B : Below A₀ base outer h₀) (F : Fr h₀ L s.heap m) (X : (lay.heap_1 w.params).In h₀) (N : News h₀ L s.heap news) (T' : Top view (looseW view [Str.ofString "HintWork"]) mean mg mb h₀) (hk : cs.kind = .function) (hdp : dp + 3 < recursionLimit) (hun : un + 104 < cLine)
   (m0 : (W, instObj 476 dW) ∈ news) (m1 : (dW, dictOf (WrkE w u G S zn cv sd sc ppem) 8) ∈ news) (m2 : (cv, listOf vs.toArray k) ∈ news)
   (hi : IntsAre vs ns)
   (hlen : (ns.length : Int) < 100)
   (hb : i < 10 ^ 10)
   (hb2 : -(10 ^ 10) < i)
   (h1 : ¬ (0 ≤ i ∧ i < ns.length))
   (hexc : ∀ e h' tk' g₂, RaisedN base (envX cn cs L a ccd cl :: outer) e (.ref 51) news h' → g₂.UpToSlots h' → Fr h₀ L g₂ m → E (.ref e) { s with heap := h', toks := tk' }) :
   wpAny (model PySem.Challenge.rw_on0247_01.row.toRowW.prog w) (ktrTop dp un gd cn cs L a ccd cl outer) (call (.ref 459) [.ref W, .int i ti]) Q E s := by
  exact cvt_noF (rest := news) (W := W) (dW := dW) (G := G) (S := S) (zn := zn) (cv := cv) (sd := sd) (sc := sc) (u := u) (ppem := ppem) (vs := vs) (ns := ns) (k := k) (i := i) (ti := ti) B F (fun p hp => by exact X p hp) (cb_drop N (sub_cons m0 (sub_cons m1 (sub_cons m2 (fun _ h => h))))) T' hk hdp hun (by exact hi) (by exact hlen) (by exact hb) (by exact hb2) (by exact h1) (fun e9 h9 tk9 g9 R9 U9 F9 => hexc e9 h9 tk9 g9 (raised_sub R9 fun p hp => .tail _ (.tail _ (.tail _ (hp)))) U9 F9)
theorem reg2 : True := by
  (k_with "m_len" => first | (first | omega | (simp only [List.length_append, List.length_cons, List.length_nil] at *; omega)) | fail "no")
  (k_with "m_ints" => first | (first | with_reducible assumption | with_reducible exact IntsAre.nil | ((with_reducible apply ints_app); (focus (k_extra "m_ints")); (focus (first | with_reducible exact IntsAre.cons _ _ IntsAre.nil | (apply ints_one; (focus (k_extra "m_val"))))))) | fail "no")
  (k_with "call ref" => first | ((k_here; (with_reducible show wpAny _ _ (call (Value.ref 394) _) _ _ _); k_dflt (apply push_ok; (focus (k_asm)); (focus (k_asm)); (focus (k_asm)); (focus (k_asm)); (focus (k_asm)); (focus (first | exact rfl | assumption)); (focus (ktr_room)); (focus (ktr_units)); (focus (k_mem)); (focus (k_mem)); (focus (k_upd)); (focus (k_extra "m_ints")); (focus (k_extra "m_len")); k_whole); (k_extra "x_in2"; intro F'z9 N'z9); (try dsimp only); (try k_extra "x_fold"))) | fail "no")
  (k_with "call ref" => first | ((k_here; (with_reducible show wpAny _ _ (call (Value.ref 394) _) _ _ _); k_dflt (apply push_full; (focus (k_asm)); (focus (k_asm)); (focus (k_asm)); (focus (k_asm)); (focus (k_asm)); (focus (first | exact rfl | assumption)); (focus (ktr_room)); (focus (ktr_units)); (focus (k_mem)); (focus (k_mem)); (focus (k_mem)); (focus (k_extra "m_ints")); (focus (k_extra "m_len")); (focus (k_extra "m_len")); k_whole); (k_extra "x_in4"; intro R'z9 U'z9 F'z9); (try dsimp only); (try k_extra "x_fold"))) | fail "no")
  (k_with "call ref" => first | ((k_here; (with_reducible show wpAny _ _ (call (Value.ref 401) _) _ _ _); k_dflt (apply pop_ok; (focus (k_asm)); (focus (k_asm)); (focus (k_asm)); (focus (k_asm)); (focus (k_asm)); (focus (first | exact rfl | assumption)); (focus (ktr_room)); (focus (ktr_units)); (focus (k_mem)); (focus (k_mem)); (focus (k_upd)); (focus (k_extra "m_ints")); (focus (k_extra "m_len")); k_whole); (k_extra "x_in2"; intro F'z9 N'z9); (try dsimp only); (try k_extra "x_fold"))) | fail "no")
  (k_with "call ref" => first | ((k_here; (with_reducible show wpAny _ _ (call (Value.ref 401) _) _ _ _); k_dflt (apply pop_no; (focus (k_asm)); (focus (k_asm)); (focus (k_asm)); (focus (k_asm)); (focus (k_asm)); (focus (first | exact rfl | assumption)); (focus (ktr_room)); (focus (ktr_units)); (focus (k_mem)); (focus (k_mem)); (focus (k_mem)); k_whole); (k_extra "x_in4"; intro R'z9 U'z9 F'z9); (try dsimp only); (try k_extra "x_fold"))) | fail "no")
  (k_with "call ref" => first | ((k_here; (with_reducible show wpAny _ _ (call (Value.ref 408) _) _ _ _); k_dflt (apply peek_ok; (focus (k_asm)); (focus (k_asm)); (focus (k_asm)); (focus (k_asm)); (focus (k_asm)); (focus (first | exact rfl | assumption)); (focus (ktr_room)); (focus (ktr_units)); (focus (k_mem)); (focus (k_mem)); (focus (k_mem)); (focus (k_extra "m_ints")); (focus (k_extra "m_len")); (focus (k_extra "m_len")); (focus (k_extra "m_len")); k_whole); (k_extra "x_in3"; intro F'z9 N'z9); (try dsimp only); (try k_extra "x_fold"))) | fail "no")
  (k_with "call ref" => first | ((k_here; (with_reducible show wpAny _ _ (call (Value.ref 408) _) _ _ _); k_dflt (apply peek_no; (focus (k_asm)); (focus (k_asm)); (focus (k_asm)); (focus (k_asm)); (focus (k_asm)); (focus (first | exact rfl | assumption)); (focus (ktr_room)); (focus (ktr_units)); (focus (k_mem)); (focus (k_mem)); (focus (k_mem)); (focus (k_extra "m_ints")); (focus (k_extra "m_len")); (focus (k_extra "m_len")); (focus (k_extra "m_len")); (focus (k_extra "m_len")); k_whole); (k_extra "x_in4"; intro R'z9 U'z9 F'z9); (try dsimp only); (try k_extra "x_fold"))) | fail "no")
  (k_with "call ref" => first | ((k_here; (with_reducible show wpAny _ _ (call (Value.ref 415) _) _ _ _); k_dflt (apply depth; (focus (k_asm)); (focus (k_asm)); (focus (k_asm)); (focus (k_asm)); (focus (k_asm)); (focus (first | exact rfl | assumption)); (focus (ktr_room)); (focus (ktr_units)); (focus (k_mem)); (focus (k_mem)); (focus (k_mem)); (focus (k_extra "m_ints")); (focus (k_extra "m_len")); k_whole); (k_extra "x_in3"; intro F'z9 N'z9); (try dsimp only); (try k_extra "x_fold"))) | fail "no")
  (k_with "call ref" => first | ((k_here; (with_reducible show wpAny _ _ (call (Value.ref 459) _) _ _ _); k_dflt (apply cvt_ok; (focus (k_asm)); (focus (k_asm)); (focus (k_asm)); (focus (k_asm)); (focus (k_asm)); (focus (first | exact rfl | assumption)); (focus (ktr_room)); (focus (ktr_units)); (focus (k_mem)); (focus (k_mem)); (focus (k_mem)); (focus (k_extra "m_ints")); (focus (k_extra "m_len")); (focus (k_extra "m_len")); (focus (k_extra "m_len")); k_whole); (k_extra "x_in3"; intro F'z9 N'z9); (try dsimp only); (try k_extra "x_fold"))) | fail "no")
  (k_with "call ref" => first | ((k_here; (with_reducible show wpAny _ _ (call (Value.ref 459) _) _ _ _); k_dflt (apply cvt_no; (focus (k_asm)); (focus (k_asm)); (focus (k_asm)); (focus (k_asm)); (focus (k_asm)); (focus (first | exact rfl | assumption)); (focus (ktr_room)); (focus (ktr_units)); (focus (k_mem)); (focus (k_mem)); (focus (k_mem)); (focus (k_extra "m_ints")); (focus (k_extra "m_len")); (focus (k_extra "m_len")); (focus (k_extra "m_len")); (focus (k_extra "m_len")); k_whole); (k_extra "x_in4"; intro R'z9 U'z9 F'z9); (try dsimp only); (try k_extra "x_fold"))) | fail "no")
  trivial
theorem put_okF {w : World} {mean : ExcName → Option Value} {mg mb : Str → Option Value} {dp un : Nat} {gd : Option (List Code)} {cn : Str} {cs : Scope} {a : Addr} {ccd : Value} {cl : List (Str × Addr)} {outer : List Env} {A₀ : Around} {base h₀ : Heap} {L : Addr} {m : Str → Option Value} {s : Shared} {Q E : Value → Shared → Prop}
   {rest : List (Addr × Obj)} {W dW G S zn cv sd sc : Addr} {u : WTok} {ppem : Int} {vs : List Value} {ns : List Int} {k : Nat} {i x : Int} {ti tx : Tok}
   (B : Below A₀ base outer h₀) (F : Fr h₀ L s.heap m) (X : (lay.heap_1 w.params).In h₀) (N : News h₀ L s.heap ((W, instObj 476 dW) :: (dW, dictOf (WrkE w u G S zn cv sd sc ppem) 8) :: (cv, listOf vs.toArray k) :: rest)) (T' : Top view (looseW view [Str.ofString "HintWork"]) mean mg mb h₀) (hk : cs.kind = .function) (hdp : dp + 4 < recursionLimit) (hun : un + 112 < cLine) (off : OwnOff rest [cv])
   (hi : IntsAre vs ns) (hlen : (ns.length : Int) < 100) (h1 : 0 ≤ i) (h2 : i < ns.length)
   (hret : ∀ h' tk', Fr h₀ L h' m → News h₀ L h' ((W, instObj 476 dW) :: (dW, dictOf (WrkE w u G S zn cv sd sc ppem) 8) :: (cv, listOf (vs.set i.toNat (Value.int x tx)).toArray k) :: rest) → Q .none { s with heap := h', toks := tk' }) :
   wpAny (model PySem.Challenge.rw_on0247_01.row.toRowW.prog w) (ktrTop dp un gd cn cs L a ccd cl outer) (call (.ref 466) [.ref W, .int i ti, .int x tx]) Q E s :=
  (by intro hz8; exact hz8 : (have hz8 : wpAny (model PySem.Challenge.rw_on0247_01.row.toRowW.prog w) (ktrTop dp un gd cn cs L a ccd cl outer) (call (.ref 466) [.ref W, .int i ti, .int x tx]) Q E s := (by
  have ne_0_1 : @Ne Nat W dW := ne_obj (N _ (.head _)).1 (N _ (.tail _ (.head _))).1 (by simp)
  have ne_0_2 : @Ne Nat W cv := ne_obj (N _ (.head _)).1 (N _ (.tail _ (.tail _ (.head _)))).1 (by simp)
  have ne_1_2 : @Ne Nat dW cv := ne_obj (N _ (.tail _ (.head _))).1 (N _ (.tail _ (.tail _ (.head _)))).1 (by simp)
  revert X; k_fill; intro X
  refine wpAny_call ?_
  k_extra "x_enterF"
  k_steps
  all_goals (try simp only [List.push_toArray] at *)
  all_goals (first | exact hret _ _ (by k_asm) (by k_asm) | exact hret _ _ _ (by k_asm) (by k_asm) | exact hret _ _ (by k_asm) (cb_drop (by assumption) (by kcj_all)) | exact hret _ _ _ (by k_asm) (cb_drop (by assumption) (by kcj_all)))); wpAny (model PySem.Challenge.rw_on0247_01.row.toRowW.prog w) (ktrTop dp un gd cn cs L a ccd cl outer) (call (.ref 466) [.ref W, .int i ti, .int x tx]) Q E s))
theorem put_noF {w : World} {mean : ExcName → Option Value} {mg mb : Str → Option Value} {dp un : Nat} {gd : Option (List Code)} {cn : Str} {cs : Scope} {a : Addr} {ccd : Value} {cl : List (Str × Addr)} {outer : List Env} {A₀ : Around} {base h₀ : Heap} {L : Addr} {m : Str → Option Value} {s : Shared} {Q E : Value → Shared → Prop}
   {rest : List (Addr × Obj)} {W dW G S zn cv sd sc : Addr} {u : WTok} {ppem : Int} {vs : List Value} {ns : List Int} {k : Nat} {i x : Int} {ti tx : Tok}
   (B : Below A₀ base outer h₀) (F : Fr h₀ L s.heap m) (X : (lay.heap_1 w.params).In h₀) (N : News h₀ L s.heap ((W, instObj 476 dW) :: (dW, dictOf (WrkE w u G S zn cv sd sc ppem) 8) :: (cv, listOf vs.toArray k) :: rest)) (T' : Top view (looseW view [Str.ofString "HintWork"]) mean mg mb h₀) (hk : cs.kind = .function) (hdp : dp + 4 < recursionLimit) (hun : un + 112 < cLine) 
   (hi : IntsAre vs ns) (hlen : (ns.length : Int) < 100) (hb : i < 10 ^ 10) (hb2 : -(10 ^ 10) < i) (h1 : ¬ (0 ≤ i ∧ i < ns.length))
   (hexc : ∀ e h' tk' g₂, RaisedN base (envX cn cs L a ccd cl :: outer) e (.ref 51) ((W, instObj 476 dW) :: (dW, dictOf (WrkE w u G S zn cv sd sc ppem) 8) :: (cv, listOf vs.toArray k) :: rest) h' → g₂.UpToSlots h' → Fr h₀ L g₂ m → E (.ref e) { s with heap := h', toks := tk' }) :
   wpAny (model PySem.Challenge.rw_on0247_01.row.toRowW.prog w) (ktrTop dp un gd cn cs L a ccd cl outer) (call (.ref 466) [.ref W, .int i ti, .int x tx]) Q E s :=
  (by intro hz8; exact hz8 : (have hz8 : wpAny (model PySem.Challenge.rw_on0247_01.row.toRowW.prog w) (ktrTop dp un gd cn cs L a ccd cl outer) (call (.ref 466) [.ref W, .int i ti, .int x tx]) Q E s := (by
  have ne_0_1 : @Ne Nat W dW := ne_obj (N _ (.head _)).1 (N _ (.tail _ (.head _))).1 (by simp)
  have ne_0_2 : @Ne Nat W cv := ne_obj (N _ (.head _)).1 (N _ (.tail _ (.tail _ (.head _)))).1 (by simp)
  have ne_1_2 : @Ne Nat dW cv := ne_obj (N _ (.tail _ (.head _))).1 (N _ (.tail _ (.tail _ (.head _)))).1 (by simp)
  revert X; k_fill; intro X
  refine wpAny_call ?_
  k_extra "x_enterF"
  k_steps
  all_goals (first | exact hexc _ _ _ _ (by assumption) (by assumption) (by assumption) | exact hexc _ _ _ _ (raised_sub (by assumption) (by kcj_all)) (by assumption) (by assumption))); wpAny (model PySem.Challenge.rw_on0247_01.row.toRowW.prog w) (ktrTop dp un gd cn cs L a ccd cl outer) (call (.ref 466) [.ref W, .int i ti, .int x tx]) Q E s))
theorem put_ok {w : World} {mean : ExcName → Option Value} {mg mb : Str → Option Value} {dp un : Nat} {gd : Option (List Code)} {cn : Str} {cs : Scope} {a : Addr} {ccd : Value} {cl : List (Str × Addr)} {outer : List Env} {A₀ : Around} {base h₀ : Heap} {L : Addr} {m : Str → Option Value} {s : Shared} {Q E : Value → Shared → Prop}
   {news news' : List (Addr × Obj)} {W dW G S zn cv sd sc : Addr} {u : WTok} {ppem : Int} {vs : List Value} {ns : List Int} {k : Nat} {i x : Int} {ti tx : Tok}
   (B : Below A₀ base outer h₀) (F : Fr h₀ L s.heap m) (X : (lay.heap_1 w.params).In h₀) (N : News h₀ L s.heap news) (T' : Top view (looseW view [Str.ofString "HintWork"]) mean mg mb h₀) (hk : cs.kind = .function) (hdp : dp + 4 < recursionLimit) (hun : un + 112 < cLine)
   (m0 : (W, instObj 476 dW) ∈ news) (m1 : (dW, dictOf (WrkE w u G S zn cv sd sc ppem) 8) ∈ news) (U : Upd cv (listOf vs.toArray k) (listOf (vs.set i.toNat (Value.int x tx)).toArray k) news news')
   (hi : IntsAre vs ns) (hlen : (ns.length : Int) < 100) (h1 : 0 ≤ i) (h2 : i < ns.length)
   (hret : ∀ h' tk', Fr h₀ L h' m → News h₀ L h' news' → Q .none { s with heap := h', toks := tk' }) :
   wpAny (model PySem.Challenge.rw_on0247_01.row.toRowW.prog w) (ktrTop dp un gd cn cs L a ccd cl outer) (call (.ref 466) [.ref W, .int i ti, .int x tx]) Q E s := by
  obtain ⟨pre, post, rfl, rfl, a1, b1⟩ := U.split
  exact put_okF (rest := pre ++ post) (W := W) (dW := dW) (G := G) (S := S) (zn := zn) (cv := cv) (sd := sd) (sc := sc) (u := u) (ppem := ppem) (vs := vs) (ns := ns) (k := k) (i := i) (x := x) (ti := ti) (tx := tx) B F (fun p hp => by exact X p hp) (cb_drop N (sub_cons m0 (sub_cons m1 (sub_cons (mem_mid _ _ _) (sub_mid _ _ _))))) T' hk hdp hun (off_mid a1 b1) hi hlen h1 h2 (fun h9 tk9 F9 N9 => hret h9 tk9 F9 (cb_drop N9 (back_mid (.tail _ (.tail _ (.head _))) (fun p hp => .tail _ (.tail _ (.tail _ hp))))))
theorem put_no {w : World} {mean : ExcName → Option Value} {mg mb : Str → Option Value} {dp un : Nat} {gd : Option (List Code)} {cn : Str} {cs : Scope} {a : Addr} {ccd : Value} {cl : List (Str × Addr)} {outer : List Env} {A₀ : Around} {base h₀ : Heap} {L : Addr} {m : Str → Option Value} {s : Shared} {Q E : Value → Shared → Prop}
   {news  : List (Addr × Obj)} {W dW G S zn cv sd sc : Addr} {u : WTok} {ppem : Int} {vs : List Value} {ns : List Int} {k : Nat} {i x : Int} {ti tx : Tok}
   (B : Below A₀ base outer h₀) (F : Fr h₀ L s.heap m) (X : (lay.heap_1 w.params).In h₀) (N : News h₀ L s.heap news) (T' : Top view (looseW view [Str.ofString "HintWork"]) mean mg mb h₀) (hk : cs.kind = .function) (hdp : dp + 4 < recursionLimit) (hun : un + 112 < cLine)
   (m0 : (W, instObj 476 dW) ∈ news) (m1 : (dW, dictOf (WrkE w u G S zn cv sd sc ppem) 8) ∈ news) (m2 : (cv, listOf vs.toArray k) ∈ news)
   (hi : IntsAre vs ns) (hlen : (ns.length : Int) < 100) (hb : i < 10 ^ 10) (hb2 : -(10 ^ 10) < i) (h1 : ¬ (0 ≤ i ∧ i < ns.length))
   (hexc : ∀ e h' tk' g₂, RaisedN base (envX cn cs L a ccd cl :: outer) e (.ref 51) news h' → g₂.UpToSlots h' → Fr h₀ L g₂ m → E (.ref e) { s with heap := h', toks := tk' }) :
   wpAny (model PySem.Challenge.rw_on0247_01.row.toRowW.prog w) (ktrTop dp un gd cn cs L a ccd cl outer) (call (.ref 466) [.ref W, .int i ti, .int x tx]) Q E s := by
  exact put_noF (rest := news) (W := W) (dW := dW) (G := G) (S := S) (zn := zn) (cv := cv) (sd := sd) (sc := sc) (u := u) (ppem := ppem) (vs := vs) (ns := ns) (k := k) (i := i) (x := x) (ti := ti) (tx := tx) B F (fun p hp => by exact X p hp) (cb_drop N (sub_cons m0 (sub_cons m1 (sub_cons m2 (fun _ h => h))))) T' hk hdp hun hi hlen hb hb2 h1 (fun e9 h9 tk9 g9 R9 U9 F9 => hexc e9 h9 tk9 g9 (raised_sub R9 fun p hp => .tail _ (.tail _ (.tail _ hp))) U9 F9)
theorem reg3 : True := by
  (k_with "call ref" => first | ((k_here; (with_reducible show wpAny _ _ (call (Value.ref 466) _) _ _ _); k_dflt (apply put_ok; (focus (k_asm)); (focus (k_asm)); (focus (k_asm)); (focus (k_asm)); (focus (k_asm)); (focus (first | exact rfl | assumption)); (focus (ktr_room)); (focus (ktr_units)); (focus (k_mem)); (focus (k_mem)); (focus (k_upd)); (focus (k_extra "m_ints")); (focus (k_extra "m_len")); (focus (k_extra "m_len")); (focus (k_extra "m_len")); k_whole); (k_extra "x_in2"; intro F'z9 N'z9); (try dsimp only); (try k_extra "x_fold"))) | fail "no")
  (k_with "call ref" => first | ((k_here; (with_reducible show wpAny _ _ (call (Value.ref 466) _) _ _ _); k_dflt (apply put_no; (focus (k_asm)); (focus (k_asm)); (focus (k_asm)); (focus (k_asm)); (focus (k_asm)); (focus (first | exact rfl | assumption)); (focus (ktr_room)); (focus (ktr_units)); (focus (k_mem)); (focus (k_mem)); (focus (k_mem)); (focus (k_extra "m_ints")); (focus (k_extra "m_len")); (focus (k_extra "m_len")); (focus (k_extra "m_len")); (focus (k_extra "m_len")); k_whole); (k_extra "x_in4"; intro R'z9 U'z9 F'z9); (try dsimp only); (try k_extra "x_fold"))) | fail "no")
  (k_with "x_ne" => first | ((refine neN ?_; (try dsimp only); first | with_reducible assumption | (refine Ne.symm ?_; with_reducible assumption))) | fail "no")
  (k_with "leaving ref" => first | ((k_here; (rename RaisedN _ _ _ _ _ _ => r9); (refine' leave_onN (by assumption) (by assumption) r9 (by assumption) ?_; k_whole; (k_extra "x_in1"; intro R'z9 U'z9); (try dsimp only at R'z9 U'z9 ⊢)))) | fail "no")
  trivial
structure Apart (W dW S dS nl cv sd : Addr) : Prop where
  n_W_dW : @Ne Nat W dW
  n_W_S : @Ne Nat W S
  n_W_dS : @Ne Nat W dS
  n_W_nl : @Ne Nat W nl
  n_W_cv : @Ne Nat W cv
  n_W_sd : @Ne Nat W sd
  n_dW_S : @Ne Nat dW S
  n_dW_dS : @Ne Nat dW dS
  n_dW_nl : @Ne Nat dW nl
  n_dW_cv : @Ne Nat dW cv
  n_dW_sd : @Ne Nat dW sd
  n_S_dS : @Ne Nat S dS
  n_S_nl : @Ne Nat S nl
  n_S_cv : @Ne Nat S cv
  n_S_sd : @Ne Nat S sd
  n_dS_nl : @Ne Nat dS nl
  n_dS_cv : @Ne Nat dS cv
  n_dS_sd : @Ne Nat dS sd
  n_nl_cv : @Ne Nat nl cv
  n_nl_sd : @Ne Nat nl sd
  n_cv_sd : @Ne Nat cv sd
theorem getD_last (ns : List Int) (p : Int) : (ns ++ [p]).getD (Int.toNat (((ns ++ [p]).length : Int) - 1)) 0 = p := by
  have e : Int.toNat (((ns ++ [p]).length : Int) - 1) = ns.length := by simp
  rw [e, List.getD_eq_getElem?_getD, List.getElem?_append_right (Nat.le_refl _)]; simp
theorem reg4 : True := by
  (k_with "m_val" => first | (first | rfl | exact getD_last _ _) | fail "no")
  trivial
noncomputable def cmpB (c x y : Int) : Bool := if c = 80 then decide (x < y) else if c = 81 then decide (x ≤ y) else if c = 82 then decide (x > y) else if c = 83 then decide (x ≥ y) else if c = 84 then decide (x = y) else if c = 85 then decide (x ≠ y) else if c = 90 then decide (x ≠ 0 ∧ y ≠ 0) else decide (x ≠ 0 ∨ y ≠ 0)
noncomputable def b2i (b : Bool) : Int := if b then 1 else 0
noncomputable def comparedF_S (w : World) (mean : ExcName → Option Value) (mg mb : Str → Option Value) (dp un : Nat) (gd : Option (List Code)) (cn : Str) (cs : Scope) (a : Addr) (ccd : Value) (cl : List (Str × Addr)) (outer : List Env) (A₀ : Around) (base h₀ : Heap) (L : Addr) (m : Str → Option Value) (s : Shared) (Q E : Value → Shared → Prop) (rest : List (Addr × Obj)) (c x y : Int) (tc tx ty : Tok) : Prop := ∀ (B : Below A₀ base outer h₀) (F : Fr h₀ L s.heap m) (X : (lay.heap_1 w.params).In h₀) (N : News h₀ L s.heap (rest)) (T' : Top view (looseW view [Str.ofString "HintWork"]) mean mg mb h₀) (hk : cs.kind = .function) (hdp : dp + 2 < recursionLimit) (hun : un + 96 < cLine)  (hret : ∀ (t9 : Tok) h' tk', Fr h₀ L h' m → News h₀ L h' rest → Q (.bool (cmpB c x y)) { s with heap := h', toks := tk' }),
  wpAny (model PySem.Challenge.rw_on0247_01.row.toRowW.prog w) (ktrTop dp un gd cn cs L a ccd cl outer) (call (.ref 198) [.int c tc, .int x tx, .int y ty]) Q E s
noncomputable def LcomparedF_S (p : Bag) : Prop := (comparedF_S (p.fWo 0) (p.fMe 0) (p.fM 0) (p.fM 1) (p.fN 0) (p.fN 1) (p.fGD 0) (p.fSt 0) (p.fSc 0) (p.fA 0) (p.fV 0) (p.fCL 0) (p.fEn 0) (p.fAr 0) (p.fH 0) (p.fH 1) (p.fA 1) (p.fM 2) (p.fSh 0) (p.fQ 0) (p.fQ 1) (p.fAO 0) (p.fI 0) (p.fI 1) (p.fI 2) (p.fT 0) (p.fT 1) (p.fT 2))
noncomputable def LcomparedF_c : Bag := skc LcomparedF_S
theorem comparedF_at : comparedF_S (LcomparedF_c.fWo 0) (LcomparedF_c.fMe 0) (LcomparedF_c.fM 0) (LcomparedF_c.fM 1) (LcomparedF_c.fN 0) (LcomparedF_c.fN 1) (LcomparedF_c.fGD 0) (LcomparedF_c.fSt 0) (LcomparedF_c.fSc 0) (LcomparedF_c.fA 0) (LcomparedF_c.fV 0) (LcomparedF_c.fCL 0) (LcomparedF_c.fEn 0) (LcomparedF_c.fAr 0) (LcomparedF_c.fH 0) (LcomparedF_c.fH 1) (LcomparedF_c.fA 1) (LcomparedF_c.fM 2) (LcomparedF_c.fSh 0) (LcomparedF_c.fQ 0) (LcomparedF_c.fQ 1) (LcomparedF_c.fAO 0) (LcomparedF_c.fI 0) (LcomparedF_c.fI 1) (LcomparedF_c.fI 2) (LcomparedF_c.fT 0) (LcomparedF_c.fT 1) (LcomparedF_c.fT 2) :=
  (by intro hz8; exact hz8 : (have hz8 : comparedF_S (LcomparedF_c.fWo 0) (LcomparedF_c.fMe 0) (LcomparedF_c.fM 0) (LcomparedF_c.fM 1) (LcomparedF_c.fN 0) (LcomparedF_c.fN 1) (LcomparedF_c.fGD 0) (LcomparedF_c.fSt 0) (LcomparedF_c.fSc 0) (LcomparedF_c.fA 0) (LcomparedF_c.fV 0) (LcomparedF_c.fCL 0) (LcomparedF_c.fEn 0) (LcomparedF_c.fAr 0) (LcomparedF_c.fH 0) (LcomparedF_c.fH 1) (LcomparedF_c.fA 1) (LcomparedF_c.fM 2) (LcomparedF_c.fSh 0) (LcomparedF_c.fQ 0) (LcomparedF_c.fQ 1) (LcomparedF_c.fAO 0) (LcomparedF_c.fI 0) (LcomparedF_c.fI 1) (LcomparedF_c.fI 2) (LcomparedF_c.fT 0) (LcomparedF_c.fT 1) (LcomparedF_c.fT 2) := (by
  refine (?layF0 : ∀ w mean mg mb dp un gd cn cs a ccd cl outer A₀ base h₀ L m s Q E rest c x y tc tx ty, comparedF_S w mean mg mb dp un gd cn cs a ccd cl outer A₀ base h₀ L m s Q E rest c x y tc tx ty) (LcomparedF_c.fWo 0) (LcomparedF_c.fMe 0) (LcomparedF_c.fM 0) (LcomparedF_c.fM 1) (LcomparedF_c.fN 0) (LcomparedF_c.fN 1) (LcomparedF_c.fGD 0) (LcomparedF_c.fSt 0) (LcomparedF_c.fSc 0) (LcomparedF_c.fA 0) (LcomparedF_c.fV 0) (LcomparedF_c.fCL 0) (LcomparedF_c.fEn 0) (LcomparedF_c.fAr 0) (LcomparedF_c.fH 0) (LcomparedF_c.fH 1) (LcomparedF_c.fA 1) (LcomparedF_c.fM 2) (LcomparedF_c.fSh 0) (LcomparedF_c.fQ 0) (LcomparedF_c.fQ 1) (LcomparedF_c.fAO 0) (LcomparedF_c.fI 0) (LcomparedF_c.fI 1) (LcomparedF_c.fI 2) (LcomparedF_c.fT 0) (LcomparedF_c.fT 1) (LcomparedF_c.fT 2)
  intro w mean mg mb dp un gd cn cs a ccd cl outer A₀ base h₀ L m s Q E rest c x y tc tx ty B F X N T' hk hdp hun hret
  have sken := sken
  have skon := skon
  revert X; k_fill; intro X
  refine wpAny_call ?_
  k_extra "x_enterF"
  k_steps
  all_goals (refine cb_retB hret ?_ (by k_asm) (by k_asm); unfold cmpB; (repeat (first | rw [if_pos (by omega)] | rw [if_neg (by omega)])); all_goals first | rfl | (simp only [beq_iff_eq, bne_iff_ne, decide_eq_decide, Bool.beq_eq_decide_eq]; done) | (by_cases hx9 : x = 0 <;> by_cases hy9 : y = 0 <;> first | (simp [hx9, hy9]; done) | (exfalso; omega)) | (by_cases hx9 : x = y <;> simp [hx9]))); comparedF_S (LcomparedF_c.fWo 0) (LcomparedF_c.fMe 0) (LcomparedF_c.fM 0) (LcomparedF_c.fM 1) (LcomparedF_c.fN 0) (LcomparedF_c.fN 1) (LcomparedF_c.fGD 0) (LcomparedF_c.fSt 0) (LcomparedF_c.fSc 0) (LcomparedF_c.fA 0) (LcomparedF_c.fV 0) (LcomparedF_c.fCL 0) (LcomparedF_c.fEn 0) (LcomparedF_c.fAr 0) (LcomparedF_c.fH 0) (LcomparedF_c.fH 1) (LcomparedF_c.fA 1) (LcomparedF_c.fM 2) (LcomparedF_c.fSh 0) (LcomparedF_c.fQ 0) (LcomparedF_c.fQ 1) (LcomparedF_c.fAO 0) (LcomparedF_c.fI 0) (LcomparedF_c.fI 1) (LcomparedF_c.fI 2) (LcomparedF_c.fT 0) (LcomparedF_c.fT 1) (LcomparedF_c.fT 2)))
theorem LcomparedF_all : ∀ p, LcomparedF_S p := sk (comparedF_at)
noncomputable def LcomparedF_bag (w : World) (mean : ExcName → Option Value) (mg mb : Str → Option Value) (dp un : Nat) (gd : Option (List Code)) (cn : Str) (cs : Scope) (a : Addr) (ccd : Value) (cl : List (Str × Addr)) (outer : List Env) (A₀ : Around) (base h₀ : Heap) (L : Addr) (m : Str → Option Value) (s : Shared) (Q E : Value → Shared → Prop) (rest : List (Addr × Obj)) (c x y : Int) (tc tx ty : Tok) : Bag := ⟨fun ix9 => [a, L].getD ix9 (bag0.fA 0), fun ix9 => [tc, tx, ty].getD ix9 (bag0.fT 0), fun ix9 => [c, x, y].getD ix9 (bag0.fI 0), fun ix9 => [dp, un].getD ix9 (bag0.fN 0), fun ix9 => [ccd].getD ix9 (bag0.fV 0), fun ix9 => [].getD ix9 (bag0.fO 0), fun ix9 => [].getD ix9 (bag0.fVL 0), fun ix9 => [].getD ix9 (bag0.fIL 0), fun ix9 => [].getD ix9 (bag0.fKV 0), fun ix9 => [].getD ix9 (bag0.fKI 0), fun ix9 => [rest].getD ix9 (bag0.fAO 0), fun ix9 => [].getD ix9 (bag0.fU 0), fun ix9 => [].getD ix9 (bag0.fG 0), fun ix9 => [].getD ix9 (bag0.fPr 0), fun ix9 => [].getD ix9 (bag0.fEv 0), fun ix9 => [].getD ix9 (bag0.fSs 0), fun ix9 => [].getD ix9 (bag0.fEx 0), fun ix9 => [].getD ix9 (bag0.fQF 0), fun ix9 => [].getD ix9 (bag0.fJ 0), fun ix9 => [w].getD ix9 (bag0.fWo 0), fun ix9 => [mean].getD ix9 (bag0.fMe 0), fun ix9 => [mg, mb, m].getD ix9 (bag0.fM 0), fun ix9 => [gd].getD ix9 (bag0.fGD 0), fun ix9 => [cn].getD ix9 (bag0.fSt 0), fun ix9 => [cs].getD ix9 (bag0.fSc 0), fun ix9 => [cl].getD ix9 (bag0.fCL 0), fun ix9 => [outer].getD ix9 (bag0.fEn 0), fun ix9 => [A₀].getD ix9 (bag0.fAr 0), fun ix9 => [base, h₀].getD ix9 (bag0.fH 0), fun ix9 => [s].getD ix9 (bag0.fSh 0), fun ix9 => [Q, E].getD ix9 (bag0.fQ 0)⟩
theorem comparedF {w mean mg mb dp un gd cn cs a ccd cl outer A₀ base h₀ L m s Q E rest c x y tc tx ty} : comparedF_S w mean mg mb dp un gd cn cs a ccd cl outer A₀ base h₀ L m s Q E rest c x y tc tx ty := LcomparedF_all (LcomparedF_bag w mean mg mb dp un gd cn cs a ccd cl outer A₀ base h₀ L m s Q E rest c x y tc tx ty)
theorem reg5 : True := by
  (k_with "call ref" => first | ((k_here; (with_reducible show wpAny _ _ (call (Value.ref 198) _) _ _ _); k_dflt (apply comparedF; (focus (k_asm)); (focus (k_asm)); (focus (k_asm)); (focus (k_asm)); (focus (k_asm)); (focus (first | exact rfl | assumption)); (focus (ktr_room)); (focus (ktr_units)); k_whole); (k_extra "x_in3"; intro F'z9 N'z9); (try dsimp only); (try k_extra "x_fold"))) | fail "no")
  trivial
abbrev RndE (w : World) (r1 r2 r3 r4 r5 r6 : Tok) : List DictEntry := [keyE w "period" r1 (.int 64 r4), keyE w "phase" r2 (.int 0 r5), keyE w "threshold" r3 (.int 32 r6)]
theorem ret_eq {h₀ h' : Heap} {L : Addr} {m : Str → Option Value} {news : List (Addr × Obj)} {s : Shared} {Q : Value → Shared → Prop} {x y : Int} {t : Tok} {tk' : Nat}
   (hret : ∀ h' tk' t', Fr h₀ L h' m → News h₀ L h' news → Q (.int x t') { s with heap := h', toks := tk' }) (e : y = x) (F : Fr h₀ L h' m) (N : News h₀ L h' news) : Q (.int y t) { s with heap := h', toks := tk' } := by
  subst e; exact hret _ _ _ F N
noncomputable def rnd (p : Int) : Int := if 0 ≤ p then (p + 32) / 64 * 64 else -((-p + 32) / 64 * 64)
noncomputable def near (a : Int) (t u : Int) : Int := if 0 ≤ a then (2 * a * t + u) / (2 * u) else -((2 * (-a) * t + u) / (2 * u))
noncomputable def roundedF_S (w : World) (mean : ExcName → Option Value) (mg mb : Str → Option Value) (dp un : Nat) (gd : Option (List Code)) (cn : Str) (cs : Scope) (a : Addr) (ccd : Value) (cl : List (Str × Addr)) (outer : List Env) (A₀ : Around) (base h₀ : Heap) (L : Addr) (m : Str → Option Value) (s : Shared) (Q E : Value → Shared → Prop) (rest : List (Addr × Obj)) (R dR : Addr) (r1 r2 r3 r4 r5 r6 : Tok) (p : Int) (tp : Tok) : Prop := ∀ (B : Below A₀ base outer h₀) (F : Fr h₀ L s.heap m) (X : (lay.heap_1 w.params).In h₀) (N : News h₀ L s.heap ((R, instObj 112 dR) :: (dR, dictOf (RndE w r1 r2 r3 r4 r5 r6) 3) :: rest)) (T' : Top view (looseW view [Str.ofString "HintWork"]) mean mg mb h₀) (hk : cs.kind = .function) (hdp : dp + 2 < recursionLimit) (hun : un + 96 < cLine)  (hb : -(10 ^ 10) < p)
   (hb2 : p < 10 ^ 10)
   (hret : ∀ h' tk' t', Fr h₀ L h' m → News h₀ L h' ((R, instObj 112 dR) :: (dR, dictOf (RndE w r1 r2 r3 r4 r5 r6) 3) :: rest) → Q (.int (rnd p) t') { s with heap := h', toks := tk' }),
  wpAny (model PySem.Challenge.rw_on0247_01.row.toRowW.prog w) (ktrTop dp un gd cn cs L a ccd cl outer) (call (.ref 130) [.int p tp, .ref R]) Q E s
noncomputable def LroundedF_S (p : Bag) : Prop := (roundedF_S (p.fWo 0) (p.fMe 0) (p.fM 0) (p.fM 1) (p.fN 0) (p.fN 1) (p.fGD 0) (p.fSt 0) (p.fSc 0) (p.fA 0) (p.fV 0) (p.fCL 0) (p.fEn 0) (p.fAr 0) (p.fH 0) (p.fH 1) (p.fA 1) (p.fM 2) (p.fSh 0) (p.fQ 0) (p.fQ 1) (p.fAO 0) (p.fA 2) (p.fA 3) (p.fT 0) (p.fT 1) (p.fT 2) (p.fT 3) (p.fT 4) (p.fT 5) (p.fI 0) (p.fT 6))
noncomputable def LroundedF_c : Bag := skc LroundedF_S
theorem roundedF_at : roundedF_S (LroundedF_c.fWo 0) (LroundedF_c.fMe 0) (LroundedF_c.fM 0) (LroundedF_c.fM 1) (LroundedF_c.fN 0) (LroundedF_c.fN 1) (LroundedF_c.fGD 0) (LroundedF_c.fSt 0) (LroundedF_c.fSc 0) (LroundedF_c.fA 0) (LroundedF_c.fV 0) (LroundedF_c.fCL 0) (LroundedF_c.fEn 0) (LroundedF_c.fAr 0) (LroundedF_c.fH 0) (LroundedF_c.fH 1) (LroundedF_c.fA 1) (LroundedF_c.fM 2) (LroundedF_c.fSh 0) (LroundedF_c.fQ 0) (LroundedF_c.fQ 1) (LroundedF_c.fAO 0) (LroundedF_c.fA 2) (LroundedF_c.fA 3) (LroundedF_c.fT 0) (LroundedF_c.fT 1) (LroundedF_c.fT 2) (LroundedF_c.fT 3) (LroundedF_c.fT 4) (LroundedF_c.fT 5) (LroundedF_c.fI 0) (LroundedF_c.fT 6) :=
  (by intro hz8; exact hz8 : (have hz8 : roundedF_S (LroundedF_c.fWo 0) (LroundedF_c.fMe 0) (LroundedF_c.fM 0) (LroundedF_c.fM 1) (LroundedF_c.fN 0) (LroundedF_c.fN 1) (LroundedF_c.fGD 0) (LroundedF_c.fSt 0) (LroundedF_c.fSc 0) (LroundedF_c.fA 0) (LroundedF_c.fV 0) (LroundedF_c.fCL 0) (LroundedF_c.fEn 0) (LroundedF_c.fAr 0) (LroundedF_c.fH 0) (LroundedF_c.fH 1) (LroundedF_c.fA 1) (LroundedF_c.fM 2) (LroundedF_c.fSh 0) (LroundedF_c.fQ 0) (LroundedF_c.fQ 1) (LroundedF_c.fAO 0) (LroundedF_c.fA 2) (LroundedF_c.fA 3) (LroundedF_c.fT 0) (LroundedF_c.fT 1) (LroundedF_c.fT 2) (LroundedF_c.fT 3) (LroundedF_c.fT 4) (LroundedF_c.fT 5) (LroundedF_c.fI 0) (LroundedF_c.fT 6) := (by
  refine (?layF0 : ∀ w mean mg mb dp un gd cn cs a ccd cl outer A₀ base h₀ L m s Q E rest R dR r1 r2 r3 r4 r5 r6 p tp, roundedF_S w mean mg mb dp un gd cn cs a ccd cl outer A₀ base h₀ L m s Q E rest R dR r1 r2 r3 r4 r5 r6 p tp) (LroundedF_c.fWo 0) (LroundedF_c.fMe 0) (LroundedF_c.fM 0) (LroundedF_c.fM 1) (LroundedF_c.fN 0) (LroundedF_c.fN 1) (LroundedF_c.fGD 0) (LroundedF_c.fSt 0) (LroundedF_c.fSc 0) (LroundedF_c.fA 0) (LroundedF_c.fV 0) (LroundedF_c.fCL 0) (LroundedF_c.fEn 0) (LroundedF_c.fAr 0) (LroundedF_c.fH 0) (LroundedF_c.fH 1) (LroundedF_c.fA 1) (LroundedF_c.fM 2) (LroundedF_c.fSh 0) (LroundedF_c.fQ 0) (LroundedF_c.fQ 1) (LroundedF_c.fAO 0) (LroundedF_c.fA 2) (LroundedF_c.fA 3) (LroundedF_c.fT 0) (LroundedF_c.fT 1) (LroundedF_c.fT 2) (LroundedF_c.fT 3) (LroundedF_c.fT 4) (LroundedF_c.fT 5) (LroundedF_c.fI 0) (LroundedF_c.fT 6)
  intro w mean mg mb dp un gd cn cs a ccd cl outer A₀ base h₀ L m s Q E rest R dR r1 r2 r3 r4 r5 r6 p tp B F X N T' hk hdp hun hb hb2 hret
  have sken := sken
  have skon := skon
  have ne_0_1 : @Ne Nat R dR := ne_obj (N _ (.head _)).1 (N _ (.tail _ (.head _))).1 (by simp)
  revert X; k_fill; intro X
  refine wpAny_call ?_
  k_extra "x_enterF"
  k_steps
  all_goals ((first | refine ret_eq hret ?_ (by k_asm) (by k_asm) | refine ret_eq hret ?_ (by k_asm) (cb_drop (by assumption) (by kcj_all))); (try dsimp only); unfold rnd; (repeat (first | rw [if_pos (by omega)] | rw [if_neg (by omega)])); all_goals (try rw [Int.fdiv_eq_ediv_of_nonneg _ (by omega)]); all_goals first | rfl | omega | (split <;> omega) | (split <;> split <;> omega))); roundedF_S (LroundedF_c.fWo 0) (LroundedF_c.fMe 0) (LroundedF_c.fM 0) (LroundedF_c.fM 1) (LroundedF_c.fN 0) (LroundedF_c.fN 1) (LroundedF_c.fGD 0) (LroundedF_c.fSt 0) (LroundedF_c.fSc 0) (LroundedF_c.fA 0) (LroundedF_c.fV 0) (LroundedF_c.fCL 0) (LroundedF_c.fEn 0) (LroundedF_c.fAr 0) (LroundedF_c.fH 0) (LroundedF_c.fH 1) (LroundedF_c.fA 1) (LroundedF_c.fM 2) (LroundedF_c.fSh 0) (LroundedF_c.fQ 0) (LroundedF_c.fQ 1) (LroundedF_c.fAO 0) (LroundedF_c.fA 2) (LroundedF_c.fA 3) (LroundedF_c.fT 0) (LroundedF_c.fT 1) (LroundedF_c.fT 2) (LroundedF_c.fT 3) (LroundedF_c.fT 4) (LroundedF_c.fT 5) (LroundedF_c.fI 0) (LroundedF_c.fT 6)))
theorem LroundedF_all : ∀ p, LroundedF_S p := sk (roundedF_at)
noncomputable def LroundedF_bag (w : World) (mean : ExcName → Option Value) (mg mb : Str → Option Value) (dp un : Nat) (gd : Option (List Code)) (cn : Str) (cs : Scope) (a : Addr) (ccd : Value) (cl : List (Str × Addr)) (outer : List Env) (A₀ : Around) (base h₀ : Heap) (L : Addr) (m : Str → Option Value) (s : Shared) (Q E : Value → Shared → Prop) (rest : List (Addr × Obj)) (R dR : Addr) (r1 r2 r3 r4 r5 r6 : Tok) (p : Int) (tp : Tok) : Bag := ⟨fun ix9 => [a, L, R, dR].getD ix9 (bag0.fA 0), fun ix9 => [r1, r2, r3, r4, r5, r6, tp].getD ix9 (bag0.fT 0), fun ix9 => [p].getD ix9 (bag0.fI 0), fun ix9 => [dp, un].getD ix9 (bag0.fN 0), fun ix9 => [ccd].getD ix9 (bag0.fV 0), fun ix9 => [].getD ix9 (bag0.fO 0), fun ix9 => [].getD ix9 (bag0.fVL 0), fun ix9 => [].getD ix9 (bag0.fIL 0), fun ix9 => [].getD ix9 (bag0.fKV 0), fun ix9 => [].getD ix9 (bag0.fKI 0), fun ix9 => [rest].getD ix9 (bag0.fAO 0), fun ix9 => [].getD ix9 (bag0.fU 0), fun ix9 => [].getD ix9 (bag0.fG 0), fun ix9 => [].getD ix9 (bag0.fPr 0), fun ix9 => [].getD ix9 (bag0.fEv 0), fun ix9 => [].getD ix9 (bag0.fSs 0), fun ix9 => [].getD ix9 (bag0.fEx 0), fun ix9 => [].getD ix9 (bag0.fQF 0), fun ix9 => [].getD ix9 (bag0.fJ 0), fun ix9 => [w].getD ix9 (bag0.fWo 0), fun ix9 => [mean].getD ix9 (bag0.fMe 0), fun ix9 => [mg, mb, m].getD ix9 (bag0.fM 0), fun ix9 => [gd].getD ix9 (bag0.fGD 0), fun ix9 => [cn].getD ix9 (bag0.fSt 0), fun ix9 => [cs].getD ix9 (bag0.fSc 0), fun ix9 => [cl].getD ix9 (bag0.fCL 0), fun ix9 => [outer].getD ix9 (bag0.fEn 0), fun ix9 => [A₀].getD ix9 (bag0.fAr 0), fun ix9 => [base, h₀].getD ix9 (bag0.fH 0), fun ix9 => [s].getD ix9 (bag0.fSh 0), fun ix9 => [Q, E].getD ix9 (bag0.fQ 0)⟩
theorem roundedF {w mean mg mb dp un gd cn cs a ccd cl outer A₀ base h₀ L m s Q E rest R dR r1 r2 r3 r4 r5 r6 p tp} : roundedF_S w mean mg mb dp un gd cn cs a ccd cl outer A₀ base h₀ L m s Q E rest R dR r1 r2 r3 r4 r5 r6 p tp := LroundedF_all (LroundedF_bag w mean mg mb dp un gd cn cs a ccd cl outer A₀ base h₀ L m s Q E rest R dR r1 r2 r3 r4 r5 r6 p tp)
theorem rounded {w : World} {mean : ExcName → Option Value} {mg mb : Str → Option Value} {dp un : Nat} {gd : Option (List Code)} {cn : Str} {cs : Scope} {a : Addr} {ccd : Value} {cl : List (Str × Addr)} {outer : List Env} {A₀ : Around} {base h₀ : Heap} {L : Addr} {m : Str → Option Value} {s : Shared} {Q E : Value → Shared → Prop}
   {news  : List (Addr × Obj)} {R dR : Addr} {r1 r2 r3 r4 r5 r6 : Tok} {p : Int} {tp : Tok}
   (B : Below A₀ base outer h₀) (F : Fr h₀ L s.heap m) (X : (lay.heap_1 w.params).In h₀) (N : News h₀ L s.heap news) (T' : Top view (looseW view [Str.ofString "HintWork"]) mean mg mb h₀) (hk : cs.kind = .function) (hdp : dp + 2 < recursionLimit) (hun : un + 96 < cLine)
   (m0 : (R, instObj 112 dR) ∈ news) (m1 : (dR, dictOf (RndE w r1 r2 r3 r4 r5 r6) 3) ∈ news)
   (hb : -(10 ^ 10) < p)
   (hb2 : p < 10 ^ 10)
   (hret : ∀ h' tk' t', Fr h₀ L h' m → News h₀ L h' news → Q (.int (rnd p) t') { s with heap := h', toks := tk' }) :
   wpAny (model PySem.Challenge.rw_on0247_01.row.toRowW.prog w) (ktrTop dp un gd cn cs L a ccd cl outer) (call (.ref 130) [.int p tp, .ref R]) Q E s := by
  exact roundedF (rest := news) (R := R) (dR := dR) (r1 := r1) (r2 := r2) (r3 := r3) (r4 := r4) (r5 := r5) (r6 := r6) (p := p) (tp := tp) B F (fun p hp => by exact X p hp) (cb_drop N (sub_cons m0 (sub_cons m1 (fun _ h => h)))) T' hk hdp hun (by exact hb) (by exact hb2) (fun h9 tk9 t9 F9 N9 => hret h9 tk9 t9 F9 (fun p hp => N9 p (.tail _ (.tail _ (hp)))))
noncomputable def muldivF_S (w : World) (mean : ExcName → Option Value) (mg mb : Str → Option Value) (dp un : Nat) (gd : Option (List Code)) (cn : Str) (cs : Scope) (a : Addr) (ccd : Value) (cl : List (Str × Addr)) (outer : List Env) (A₀ : Around) (base h₀ : Heap) (L : Addr) (m : Str → Option Value) (s : Shared) (Q E : Value → Shared → Prop) (rest : List (Addr × Obj)) (a1 b1 c1 : Int) (ta tb tc : Tok) : Prop := ∀ (B : Below A₀ base outer h₀) (F : Fr h₀ L s.heap m) (X : (lay.heap_1 w.params).In h₀) (N : News h₀ L s.heap (rest)) (T' : Top view (looseW view [Str.ofString "HintWork"]) mean mg mb h₀) (hk : cs.kind = .function) (hdp : dp + 2 < recursionLimit) (hun : un + 96 < cLine)  (ha : -(10 ^ 10) < a1) (ha2 : a1 < 10 ^ 10) (hb : b1 = 3) (hc : c1 = 2) (hret : ∀ h' tk' t', Fr h₀ L h' m → News h₀ L h' rest → Q (.int (near a1 3 2) t') { s with heap := h', toks := tk' }),
  wpAny (model PySem.Challenge.rw_on0247_01.row.toRowW.prog w) (ktrTop dp un gd cn cs L a ccd cl outer) (call (.ref 60) [.int a1 ta, .int b1 tb, .int c1 tc]) Q E s
noncomputable def LmuldivF_S (p : Bag) : Prop := (muldivF_S (p.fWo 0) (p.fMe 0) (p.fM 0) (p.fM 1) (p.fN 0) (p.fN 1) (p.fGD 0) (p.fSt 0) (p.fSc 0) (p.fA 0) (p.fV 0) (p.fCL 0) (p.fEn 0) (p.fAr 0) (p.fH 0) (p.fH 1) (p.fA 1) (p.fM 2) (p.fSh 0) (p.fQ 0) (p.fQ 1) (p.fAO 0) (p.fI 0) (p.fI 1) (p.fI 2) (p.fT 0) (p.fT 1) (p.fT 2))
noncomputable def LmuldivF_c : Bag := skc LmuldivF_S
theorem muldivF_at : muldivF_S (LmuldivF_c.fWo 0) (LmuldivF_c.fMe 0) (LmuldivF_c.fM 0) (LmuldivF_c.fM 1) (LmuldivF_c.fN 0) (LmuldivF_c.fN 1) (LmuldivF_c.fGD 0) (LmuldivF_c.fSt 0) (LmuldivF_c.fSc 0) (LmuldivF_c.fA 0) (LmuldivF_c.fV 0) (LmuldivF_c.fCL 0) (LmuldivF_c.fEn 0) (LmuldivF_c.fAr 0) (LmuldivF_c.fH 0) (LmuldivF_c.fH 1) (LmuldivF_c.fA 1) (LmuldivF_c.fM 2) (LmuldivF_c.fSh 0) (LmuldivF_c.fQ 0) (LmuldivF_c.fQ 1) (LmuldivF_c.fAO 0) (LmuldivF_c.fI 0) (LmuldivF_c.fI 1) (LmuldivF_c.fI 2) (LmuldivF_c.fT 0) (LmuldivF_c.fT 1) (LmuldivF_c.fT 2) :=
  (by intro hz8; exact hz8 : (have hz8 : muldivF_S (LmuldivF_c.fWo 0) (LmuldivF_c.fMe 0) (LmuldivF_c.fM 0) (LmuldivF_c.fM 1) (LmuldivF_c.fN 0) (LmuldivF_c.fN 1) (LmuldivF_c.fGD 0) (LmuldivF_c.fSt 0) (LmuldivF_c.fSc 0) (LmuldivF_c.fA 0) (LmuldivF_c.fV 0) (LmuldivF_c.fCL 0) (LmuldivF_c.fEn 0) (LmuldivF_c.fAr 0) (LmuldivF_c.fH 0) (LmuldivF_c.fH 1) (LmuldivF_c.fA 1) (LmuldivF_c.fM 2) (LmuldivF_c.fSh 0) (LmuldivF_c.fQ 0) (LmuldivF_c.fQ 1) (LmuldivF_c.fAO 0) (LmuldivF_c.fI 0) (LmuldivF_c.fI 1) (LmuldivF_c.fI 2) (LmuldivF_c.fT 0) (LmuldivF_c.fT 1) (LmuldivF_c.fT 2) := (by
  refine (?layF0 : ∀ w mean mg mb dp un gd cn cs a ccd cl outer A₀ base h₀ L m s Q E rest a1 b1 c1 ta tb tc, muldivF_S w mean mg mb dp un gd cn cs a ccd cl outer A₀ base h₀ L m s Q E rest a1 b1 c1 ta tb tc) (LmuldivF_c.fWo 0) (LmuldivF_c.fMe 0) (LmuldivF_c.fM 0) (LmuldivF_c.fM 1) (LmuldivF_c.fN 0) (LmuldivF_c.fN 1) (LmuldivF_c.fGD 0) (LmuldivF_c.fSt 0) (LmuldivF_c.fSc 0) (LmuldivF_c.fA 0) (LmuldivF_c.fV 0) (LmuldivF_c.fCL 0) (LmuldivF_c.fEn 0) (LmuldivF_c.fAr 0) (LmuldivF_c.fH 0) (LmuldivF_c.fH 1) (LmuldivF_c.fA 1) (LmuldivF_c.fM 2) (LmuldivF_c.fSh 0) (LmuldivF_c.fQ 0) (LmuldivF_c.fQ 1) (LmuldivF_c.fAO 0) (LmuldivF_c.fI 0) (LmuldivF_c.fI 1) (LmuldivF_c.fI 2) (LmuldivF_c.fT 0) (LmuldivF_c.fT 1) (LmuldivF_c.fT 2)
  intro w mean mg mb dp un gd cn cs a ccd cl outer A₀ base h₀ L m s Q E rest a1 b1 c1 ta tb tc B F X N T' hk hdp hun ha ha2 hb hc hret
  have sken := sken
  have skon := skon
  revert X; k_fill; intro X
  refine wpAny_call ?_
  k_extra "x_enterF"
  subst hb; subst hc
  k_steps
  all_goals ((first | refine ret_eq hret ?_ (by k_asm) (by k_asm) | refine ret_eq hret ?_ (by k_asm) (cb_drop (by assumption) (by kcj_all))); (try dsimp only); unfold near; (repeat (first | rw [if_pos (by omega)] | rw [if_neg (by omega)])); all_goals (try rw [Int.fdiv_eq_ediv_of_nonneg _ (by omega)]); all_goals first | rfl | omega | (split <;> omega))); muldivF_S (LmuldivF_c.fWo 0) (LmuldivF_c.fMe 0) (LmuldivF_c.fM 0) (LmuldivF_c.fM 1) (LmuldivF_c.fN 0) (LmuldivF_c.fN 1) (LmuldivF_c.fGD 0) (LmuldivF_c.fSt 0) (LmuldivF_c.fSc 0) (LmuldivF_c.fA 0) (LmuldivF_c.fV 0) (LmuldivF_c.fCL 0) (LmuldivF_c.fEn 0) (LmuldivF_c.fAr 0) (LmuldivF_c.fH 0) (LmuldivF_c.fH 1) (LmuldivF_c.fA 1) (LmuldivF_c.fM 2) (LmuldivF_c.fSh 0) (LmuldivF_c.fQ 0) (LmuldivF_c.fQ 1) (LmuldivF_c.fAO 0) (LmuldivF_c.fI 0) (LmuldivF_c.fI 1) (LmuldivF_c.fI 2) (LmuldivF_c.fT 0) (LmuldivF_c.fT 1) (LmuldivF_c.fT 2)))
theorem LmuldivF_all : ∀ p, LmuldivF_S p := sk (muldivF_at)
noncomputable def LmuldivF_bag (w : World) (mean : ExcName → Option Value) (mg mb : Str → Option Value) (dp un : Nat) (gd : Option (List Code)) (cn : Str) (cs : Scope) (a : Addr) (ccd : Value) (cl : List (Str × Addr)) (outer : List Env) (A₀ : Around) (base h₀ : Heap) (L : Addr) (m : Str → Option Value) (s : Shared) (Q E : Value → Shared → Prop) (rest : List (Addr × Obj)) (a1 b1 c1 : Int) (ta tb tc : Tok) : Bag := ⟨fun ix9 => [a, L].getD ix9 (bag0.fA 0), fun ix9 => [ta, tb, tc].getD ix9 (bag0.fT 0), fun ix9 => [a1, b1, c1].getD ix9 (bag0.fI 0), fun ix9 => [dp, un].getD ix9 (bag0.fN 0), fun ix9 => [ccd].getD ix9 (bag0.fV 0), fun ix9 => [].getD ix9 (bag0.fO 0), fun ix9 => [].getD ix9 (bag0.fVL 0), fun ix9 => [].getD ix9 (bag0.fIL 0), fun ix9 => [].getD ix9 (bag0.fKV 0), fun ix9 => [].getD ix9 (bag0.fKI 0), fun ix9 => [rest].getD ix9 (bag0.fAO 0), fun ix9 => [].getD ix9 (bag0.fU 0), fun ix9 => [].getD ix9 (bag0.fG 0), fun ix9 => [].getD ix9 (bag0.fPr 0), fun ix9 => [].getD ix9 (bag0.fEv 0), fun ix9 => [].getD ix9 (bag0.fSs 0), fun ix9 => [].getD ix9 (bag0.fEx 0), fun ix9 => [].getD ix9 (bag0.fQF 0), fun ix9 => [].getD ix9 (bag0.fJ 0), fun ix9 => [w].getD ix9 (bag0.fWo 0), fun ix9 => [mean].getD ix9 (bag0.fMe 0), fun ix9 => [mg, mb, m].getD ix9 (bag0.fM 0), fun ix9 => [gd].getD ix9 (bag0.fGD 0), fun ix9 => [cn].getD ix9 (bag0.fSt 0), fun ix9 => [cs].getD ix9 (bag0.fSc 0), fun ix9 => [cl].getD ix9 (bag0.fCL 0), fun ix9 => [outer].getD ix9 (bag0.fEn 0), fun ix9 => [A₀].getD ix9 (bag0.fAr 0), fun ix9 => [base, h₀].getD ix9 (bag0.fH 0), fun ix9 => [s].getD ix9 (bag0.fSh 0), fun ix9 => [Q, E].getD ix9 (bag0.fQ 0)⟩
theorem muldivF {w mean mg mb dp un gd cn cs a ccd cl outer A₀ base h₀ L m s Q E rest a1 b1 c1 ta tb tc} : muldivF_S w mean mg mb dp un gd cn cs a ccd cl outer A₀ base h₀ L m s Q E rest a1 b1 c1 ta tb tc := LmuldivF_all (LmuldivF_bag w mean mg mb dp un gd cn cs a ccd cl outer A₀ base h₀ L m s Q E rest a1 b1 c1 ta tb tc)
noncomputable def lnearF_S (w : World) (mean : ExcName → Option Value) (mg mb : Str → Option Value) (dp un : Nat) (gd : Option (List Code)) (cn : Str) (cs : Scope) (a : Addr) (ccd : Value) (cl : List (Str × Addr)) (outer : List Env) (A₀ : Around) (base h₀ : Heap) (L : Addr) (m : Str → Option Value) (s : Shared) (Q E : Value → Shared → Prop) (rest : List (Addr × Obj)) (a1 b1 c1 : Int) (ta tb tc : Tok) : Prop := ∀ (B : Below A₀ base outer h₀) (F : Fr h₀ L s.heap m) (X : (lay.heap_1 w.params).In h₀) (N : News h₀ L s.heap (rest)) (T' : Top view (looseW view [Str.ofString "HintWork"]) mean mg mb h₀) (hk : cs.kind = .function) (hdp : dp + 2 < recursionLimit) (hun : un + 96 < cLine)  (ha : -(10 ^ 10) < a1) (ha2 : a1 < 10 ^ 10) (hb : b1 = 3) (hc : c1 = 2) (hret : ∀ h' tk' t', Fr h₀ L h' m → News h₀ L h' rest → Q (.int (near a1 3 2) t') { s with heap := h', toks := tk' }),
  wpAny (model PySem.Challenge.rw_on0247_01.row.toRowW.prog w) (ktrTop dp un gd cn cs L a ccd cl outer) (call (.ref 508) [.int a1 ta, .int b1 tb, .int c1 tc]) Q E s
noncomputable def LlnearF_S (p : Bag) : Prop := (lnearF_S (p.fWo 0) (p.fMe 0) (p.fM 0) (p.fM 1) (p.fN 0) (p.fN 1) (p.fGD 0) (p.fSt 0) (p.fSc 0) (p.fA 0) (p.fV 0) (p.fCL 0) (p.fEn 0) (p.fAr 0) (p.fH 0) (p.fH 1) (p.fA 1) (p.fM 2) (p.fSh 0) (p.fQ 0) (p.fQ 1) (p.fAO 0) (p.fI 0) (p.fI 1) (p.fI 2) (p.fT 0) (p.fT 1) (p.fT 2))
noncomputable def LlnearF_c : Bag := skc LlnearF_S
theorem lnearF_at : lnearF_S (LlnearF_c.fWo 0) (LlnearF_c.fMe 0) (LlnearF_c.fM 0) (LlnearF_c.fM 1) (LlnearF_c.fN 0) (LlnearF_c.fN 1) (LlnearF_c.fGD 0) (LlnearF_c.fSt 0) (LlnearF_c.fSc 0) (LlnearF_c.fA 0) (LlnearF_c.fV 0) (LlnearF_c.fCL 0) (LlnearF_c.fEn 0) (LlnearF_c.fAr 0) (LlnearF_c.fH 0) (LlnearF_c.fH 1) (LlnearF_c.fA 1) (LlnearF_c.fM 2) (LlnearF_c.fSh 0) (LlnearF_c.fQ 0) (LlnearF_c.fQ 1) (LlnearF_c.fAO 0) (LlnearF_c.fI 0) (LlnearF_c.fI 1) (LlnearF_c.fI 2) (LlnearF_c.fT 0) (LlnearF_c.fT 1) (LlnearF_c.fT 2) :=
  (by intro hz8; exact hz8 : (have hz8 : lnearF_S (LlnearF_c.fWo 0) (LlnearF_c.fMe 0) (LlnearF_c.fM 0) (LlnearF_c.fM 1) (LlnearF_c.fN 0) (LlnearF_c.fN 1) (LlnearF_c.fGD 0) (LlnearF_c.fSt 0) (LlnearF_c.fSc 0) (LlnearF_c.fA 0) (LlnearF_c.fV 0) (LlnearF_c.fCL 0) (LlnearF_c.fEn 0) (LlnearF_c.fAr 0) (LlnearF_c.fH 0) (LlnearF_c.fH 1) (LlnearF_c.fA 1) (LlnearF_c.fM 2) (LlnearF_c.fSh 0) (LlnearF_c.fQ 0) (LlnearF_c.fQ 1) (LlnearF_c.fAO 0) (LlnearF_c.fI 0) (LlnearF_c.fI 1) (LlnearF_c.fI 2) (LlnearF_c.fT 0) (LlnearF_c.fT 1) (LlnearF_c.fT 2) := (by
  refine (?layF0 : ∀ w mean mg mb dp un gd cn cs a ccd cl outer A₀ base h₀ L m s Q E rest a1 b1 c1 ta tb tc, lnearF_S w mean mg mb dp un gd cn cs a ccd cl outer A₀ base h₀ L m s Q E rest a1 b1 c1 ta tb tc) (LlnearF_c.fWo 0) (LlnearF_c.fMe 0) (LlnearF_c.fM 0) (LlnearF_c.fM 1) (LlnearF_c.fN 0) (LlnearF_c.fN 1) (LlnearF_c.fGD 0) (LlnearF_c.fSt 0) (LlnearF_c.fSc 0) (LlnearF_c.fA 0) (LlnearF_c.fV 0) (LlnearF_c.fCL 0) (LlnearF_c.fEn 0) (LlnearF_c.fAr 0) (LlnearF_c.fH 0) (LlnearF_c.fH 1) (LlnearF_c.fA 1) (LlnearF_c.fM 2) (LlnearF_c.fSh 0) (LlnearF_c.fQ 0) (LlnearF_c.fQ 1) (LlnearF_c.fAO 0) (LlnearF_c.fI 0) (LlnearF_c.fI 1) (LlnearF_c.fI 2) (LlnearF_c.fT 0) (LlnearF_c.fT 1) (LlnearF_c.fT 2)
  intro w mean mg mb dp un gd cn cs a ccd cl outer A₀ base h₀ L m s Q E rest a1 b1 c1 ta tb tc B F X N T' hk hdp hun ha ha2 hb hc hret
  have sken := sken
  have skon := skon
  revert X; k_fill; intro X
  refine wpAny_call ?_
  k_extra "x_enterF"
  subst hb; subst hc
  k_steps
  all_goals ((first | refine ret_eq hret ?_ (by k_asm) (by k_asm) | refine ret_eq hret ?_ (by k_asm) (cb_drop (by assumption) (by kcj_all))); (try dsimp only); unfold near; (repeat (first | rw [if_pos (by omega)] | rw [if_neg (by omega)])); all_goals (try rw [Int.fdiv_eq_ediv_of_nonneg _ (by omega)]); all_goals first | rfl | omega | (split <;> omega))); lnearF_S (LlnearF_c.fWo 0) (LlnearF_c.fMe 0) (LlnearF_c.fM 0) (LlnearF_c.fM 1) (LlnearF_c.fN 0) (LlnearF_c.fN 1) (LlnearF_c.fGD 0) (LlnearF_c.fSt 0) (LlnearF_c.fSc 0) (LlnearF_c.fA 0) (LlnearF_c.fV 0) (LlnearF_c.fCL 0) (LlnearF_c.fEn 0) (LlnearF_c.fAr 0) (LlnearF_c.fH 0) (LlnearF_c.fH 1) (LlnearF_c.fA 1) (LlnearF_c.fM 2) (LlnearF_c.fSh 0) (LlnearF_c.fQ 0) (LlnearF_c.fQ 1) (LlnearF_c.fAO 0) (LlnearF_c.fI 0) (LlnearF_c.fI 1) (LlnearF_c.fI 2) (LlnearF_c.fT 0) (LlnearF_c.fT 1) (LlnearF_c.fT 2)))
theorem LlnearF_all : ∀ p, LlnearF_S p := sk (lnearF_at)
noncomputable def LlnearF_bag (w : World) (mean : ExcName → Option Value) (mg mb : Str → Option Value) (dp un : Nat) (gd : Option (List Code)) (cn : Str) (cs : Scope) (a : Addr) (ccd : Value) (cl : List (Str × Addr)) (outer : List Env) (A₀ : Around) (base h₀ : Heap) (L : Addr) (m : Str → Option Value) (s : Shared) (Q E : Value → Shared → Prop) (rest : List (Addr × Obj)) (a1 b1 c1 : Int) (ta tb tc : Tok) : Bag := ⟨fun ix9 => [a, L].getD ix9 (bag0.fA 0), fun ix9 => [ta, tb, tc].getD ix9 (bag0.fT 0), fun ix9 => [a1, b1, c1].getD ix9 (bag0.fI 0), fun ix9 => [dp, un].getD ix9 (bag0.fN 0), fun ix9 => [ccd].getD ix9 (bag0.fV 0), fun ix9 => [].getD ix9 (bag0.fO 0), fun ix9 => [].getD ix9 (bag0.fVL 0), fun ix9 => [].getD ix9 (bag0.fIL 0), fun ix9 => [].getD ix9 (bag0.fKV 0), fun ix9 => [].getD ix9 (bag0.fKI 0), fun ix9 => [rest].getD ix9 (bag0.fAO 0), fun ix9 => [].getD ix9 (bag0.fU 0), fun ix9 => [].getD ix9 (bag0.fG 0), fun ix9 => [].getD ix9 (bag0.fPr 0), fun ix9 => [].getD ix9 (bag0.fEv 0), fun ix9 => [].getD ix9 (bag0.fSs 0), fun ix9 => [].getD ix9 (bag0.fEx 0), fun ix9 => [].getD ix9 (bag0.fQF 0), fun ix9 => [].getD ix9 (bag0.fJ 0), fun ix9 => [w].getD ix9 (bag0.fWo 0), fun ix9 => [mean].getD ix9 (bag0.fMe 0), fun ix9 => [mg, mb, m].getD ix9 (bag0.fM 0), fun ix9 => [gd].getD ix9 (bag0.fGD 0), fun ix9 => [cn].getD ix9 (bag0.fSt 0), fun ix9 => [cs].getD ix9 (bag0.fSc 0), fun ix9 => [cl].getD ix9 (bag0.fCL 0), fun ix9 => [outer].getD ix9 (bag0.fEn 0), fun ix9 => [A₀].getD ix9 (bag0.fAr 0), fun ix9 => [base, h₀].getD ix9 (bag0.fH 0), fun ix9 => [s].getD ix9 (bag0.fSh 0), fun ix9 => [Q, E].getD ix9 (bag0.fQ 0)⟩
theorem lnearF {w mean mg mb dp un gd cn cs a ccd cl outer A₀ base h₀ L m s Q E rest a1 b1 c1 ta tb tc} : lnearF_S w mean mg mb dp un gd cn cs a ccd cl outer A₀ base h₀ L m s Q E rest a1 b1 c1 ta tb tc := LlnearF_all (LlnearF_bag w mean mg mb dp un gd cn cs a ccd cl outer A₀ base h₀ L m s Q E rest a1 b1 c1 ta tb tc)
theorem reg6 : True := by
  (k_with "call ref" => first | ((k_here; (with_reducible show wpAny _ _ (call (Value.ref 130) _) _ _ _); k_dflt (apply rounded; (focus (k_asm)); (focus (k_asm)); (focus (k_asm)); (focus (k_asm)); (focus (k_asm)); (focus (first | exact rfl | assumption)); (focus (ktr_room)); (focus (ktr_units)); (focus (k_mem)); (focus (k_mem)); (focus (k_extra "m_len")); (focus (k_extra "m_len")); k_whole); (k_extra "x_in3"; intro F'z9 N'z9); (try dsimp only); (try k_extra "x_fold"))) | fail "no")
  (k_with "call ref" => first | ((k_here; (with_reducible show wpAny _ _ (call (Value.ref 60) _) _ _ _); k_dflt (apply muldivF; (focus (k_asm)); (focus (k_asm)); (focus (k_asm)); (focus (k_asm)); (focus (k_asm)); (focus (first | exact rfl | assumption)); (focus (ktr_room)); (focus (ktr_units)); (focus (k_extra "m_len")); (focus (k_extra "m_len")); (focus (rfl)); (focus (rfl)); k_whole); (k_extra "x_in3"; intro F'z9 N'z9); (try dsimp only); (try k_extra "x_fold"))) | fail "no")
  (k_with "call ref" => first | ((k_here; (with_reducible show wpAny _ _ (call (Value.ref 508) _) _ _ _); k_dflt (apply lnearF; (focus (k_asm)); (focus (k_asm)); (focus (k_asm)); (focus (k_asm)); (focus (k_asm)); (focus (first | exact rfl | assumption)); (focus (ktr_room)); (focus (ktr_units)); (focus (k_extra "m_len")); (focus (k_extra "m_len")); (focus (rfl)); (focus (rfl)); k_whole); (k_extra "x_in3"; intro F'z9 N'z9); (try dsimp only); (try k_extra "x_fold"))) | fail "no")
  trivial
abbrev GrE (w : World) (gv : GV) (R : Addr) : List DictEntry := [keyE w "freedom" (gv.g 1) (gv.v 1), keyE w "projection" (gv.g 2) (gv.v 2), keyE w "dual" (gv.g 3) (gv.v 3), keyE w "rp0" (gv.g 4) (gv.v 4), keyE w "rp1" (gv.g 5) (gv.v 5), keyE w "rp2" (gv.g 6) (gv.v 6), keyE w "zp0" (gv.g 7) (gv.v 7), keyE w "zp1" (gv.g 8) (gv.v 8), keyE w "zp2" (gv.g 9) (gv.v 9), keyE w "loop" (gv.g 10) (gv.v 10), keyE w "minimum" (gv.g 11) (gv.v 11), keyE w "cut_in" (gv.g 12) (gv.v 12), keyE w "single_cut_in" (gv.g 13) (gv.v 13), keyE w "single_width" (gv.g 14) (gv.v 14), keyE w "delta_base" (gv.g 15) (.int 9 (gv.g 19)), keyE w "delta_shift" (gv.g 16) (.int 3 (gv.g 20)), keyE w "auto_flip" (gv.g 17) (gv.v 17), keyE w "rounding" (gv.g 18) (.ref R)]
abbrev tupObj (l : List Value) : Obj := { cls := .type "tuple", data := .seq l.toArray }
structure Apart2 (nl cv sd dS G dG R dR sc : Addr) : Prop where
  x_G_nl : @Ne Nat G nl
  x_G_cv : @Ne Nat G cv
  x_G_sd : @Ne Nat G sd
  x_G_dS : @Ne Nat G dS
  x_dG_nl : @Ne Nat dG nl
  x_dG_cv : @Ne Nat dG cv
  x_dG_sd : @Ne Nat dG sd
  x_dG_dS : @Ne Nat dG dS
  x_R_nl : @Ne Nat R nl
  x_R_cv : @Ne Nat R cv
  x_R_sd : @Ne Nat R sd
  x_R_dS : @Ne Nat R dS
  x_dR_nl : @Ne Nat dR nl
  x_dR_cv : @Ne Nat dR cv
  x_dR_sd : @Ne Nat dR sd
  x_dR_dS : @Ne Nat dR dS
  x_sc_nl : @Ne Nat sc nl
  x_sc_cv : @Ne Nat sc cv
  x_sc_sd : @Ne Nat sc sd
  x_sc_dS : @Ne Nat sc dS
theorem reg7 : True := by
  (k_with "call builtin:dict.get" => first | ((k_here; k_dflt (show wpAny _ _ (call (Value.builtin "dict.get") [Value.ref _, Value.int _ _, Value.int _ _]) _ _ _); k_dflt (refine kdf_get2 (by k_tabat) ?_); intro _)) | fail "no")
  (k_with "m_val" => first | (first | rfl | exact getD_last _ _ | (rw [Int.fmod_eq_emod_of_nonneg _ (by decide)]; rfl) | (rw [if_pos (by assumption)]; done) | (rw [if_neg (by assumption)]; done) | (simp only [Int.fmod_eq_emod_of_nonneg _ (show (0 : Int) ≤ 2 by decide)] at *; first | (rw [if_pos (by omega)]; done) | (rw [if_neg (by omega)]; done))) | fail "no")
  trivial
abbrev UO_T := ∀ (w : World) (mean : ExcName → Option Value) (mg mb : Str → Option Value) (dp un : Nat) (gd : Option (List Code)) (cn : Str) (cs : Scope) (a : Addr) (ccd : Value) (cl : List (Str × Addr)) (outer : List Env) (A₀ : Around) (base h₀ : Heap) (L : Addr) (m : Str → Option Value) (s : Shared) (Q E : Value → Shared → Prop) (rest : List (Addr × Obj)) (W dW S dS nl cv sd G zn sc : Addr) (u : WTok) (t1 t2 tm : Tok) (ppem : Int) (vs cvs : List Value) (ns cns : List Int) (k kc : Nat) (sto : Obj) (p : Int) (tp tc : Tok) (c : Int), Prop
noncomputable def UO_at (p : Bag) (f : UO_T) : Prop := f (p.fWo 0) (p.fMe 0) (p.fM 0) (p.fM 1) (p.fN 0) (p.fN 1) (p.fGD 0) (p.fSt 0) (p.fSc 0) (p.fA 0) (p.fV 0) (p.fCL 0) (p.fEn 0) (p.fAr 0) (p.fH 0) (p.fH 1) (p.fA 1) (p.fM 2) (p.fSh 0) (p.fQ 0) (p.fQ 1) (p.fAO 0) (p.fA 2) (p.fA 3) (p.fA 4) (p.fA 5) (p.fA 6) (p.fA 7) (p.fA 8) (p.fA 9) (p.fA 10) (p.fA 11) (p.fU 0) (p.fT 0) (p.fT 1) (p.fT 2) (p.fI 0) (p.fVL 0) (p.fVL 1) (p.fIL 0) (p.fIL 1) (p.fN 2) (p.fN 3) (p.fO 0) (p.fI 1) (p.fT 3) (p.fT 4) (p.fI 2)
noncomputable def UO_all (f : UO_T) : Prop := ∀ (w : World) (mean : ExcName → Option Value) (mg mb : Str → Option Value) (dp un : Nat) (gd : Option (List Code)) (cn : Str) (cs : Scope) (a : Addr) (ccd : Value) (cl : List (Str × Addr)) (outer : List Env) (A₀ : Around) (base h₀ : Heap) (L : Addr) (m : Str → Option Value) (s : Shared) (Q E : Value → Shared → Prop) (rest : List (Addr × Obj)) (W dW S dS nl cv sd G zn sc : Addr) (u : WTok) (t1 t2 tm : Tok) (ppem : Int) (vs cvs : List Value) (ns cns : List Int) (k kc : Nat) (sto : Obj) (p : Int) (tp tc : Tok) (c : Int), f w mean mg mb dp un gd cn cs a ccd cl outer A₀ base h₀ L m s Q E rest W dW S dS nl cv sd G zn sc u t1 t2 tm ppem vs cvs ns cns k kc sto p tp tc c
noncomputable def dup_ok_S : UO_T := fun w mean mg mb dp un gd cn cs a ccd cl outer A₀ base h₀ L m s Q E rest W dW S dS nl cv sd G zn sc u t1 t2 tm ppem vs cvs ns cns k kc sto p tp tc c => ∀ (B : Below A₀ base outer h₀) (F : Fr h₀ L s.heap m) (X : (lay.heap_1 w.params).In h₀) (N : News h₀ L s.heap ((W, instObj 476 dW) :: (dW, dictOf (WrkE w u G S zn cv sd sc ppem) 8) :: (S, instObj 425 dS) :: (dS, dictOf (StkE w t1 t2 tm nl) 2) :: (nl, listOf (vs ++ [Value.int p tp]).toArray k) :: (cv, listOf cvs.toArray kc) :: (sd, sto) :: rest)) (T' : Top view (looseW view [Str.ofString "HintWork"]) mean mg mb h₀) (hk : cs.kind = .function) (hdp : dp + 5 < recursionLimit) (hun : un + 120 < cLine) (off : OwnOff rest [nl, dS, cv, sd]) (ap : Apart W dW S dS nl cv sd) (hi : IntsAre vs ns) (hlen : (ns.length : Int) < 11)
   (hret : ∀ h' tk' vs' k', Fr h₀ L h' m → News h₀ L h' ((W, instObj 476 dW) :: (dW, dictOf (WrkE w u G S zn cv sd sc ppem) 8) :: (S, instObj 425 dS) :: (dS, dictOf (StkE w t1 t2 tm nl) 2) :: (nl, listOf vs'.toArray k') :: (cv, listOf cvs.toArray kc) :: (sd, sto) :: rest) → IntsAre vs' (ns ++ [p] ++ [p]) → Q .none { s with heap := h', toks := tk' }),
  wpAny (model PySem.Challenge.rw_on0247_01.row.toRowW.prog w) (ktrTop dp un gd cn cs L a ccd cl outer) (call (.ref 137) [.ref W, .int c tc]) Q E s
noncomputable def dup_full_S : UO_T := fun w mean mg mb dp un gd cn cs a ccd cl outer A₀ base h₀ L m s Q E rest W dW S dS nl cv sd G zn sc u t1 t2 tm ppem vs cvs ns cns k kc sto p tp tc c => ∀ (B : Below A₀ base outer h₀) (F : Fr h₀ L s.heap m) (X : (lay.heap_1 w.params).In h₀) (N : News h₀ L s.heap ((W, instObj 476 dW) :: (dW, dictOf (WrkE w u G S zn cv sd sc ppem) 8) :: (S, instObj 425 dS) :: (dS, dictOf (StkE w t1 t2 tm nl) 2) :: (nl, listOf (vs ++ [Value.int p tp]).toArray k) :: (cv, listOf cvs.toArray kc) :: (sd, sto) :: rest)) (T' : Top view (looseW view [Str.ofString "HintWork"]) mean mg mb h₀) (hk : cs.kind = .function) (hdp : dp + 5 < recursionLimit) (hun : un + 120 < cLine) (off : OwnOff rest [nl, dS, cv, sd]) (ap : Apart W dW S dS nl cv sd) (hi : IntsAre vs ns) (hlen : (ns.length : Int) = 11)
   (hexc : ∀ e h' tk' g₂, RaisedN base (envX cn cs L a ccd cl :: outer) e (.ref 51) ((W, instObj 476 dW) :: (dW, dictOf (WrkE w u G S zn cv sd sc ppem) 8) :: (S, instObj 425 dS) :: (dS, dictOf (StkE w t1 t2 tm nl) 2) :: (cv, listOf cvs.toArray kc) :: (sd, sto) :: rest) h' → g₂.UpToSlots h' → Fr h₀ L g₂ m → E (.ref e) { s with heap := h', toks := tk' }),
  wpAny (model PySem.Challenge.rw_on0247_01.row.toRowW.prog w) (ktrTop dp un gd cn cs L a ccd cl outer) (call (.ref 137) [.ref W, .int c tc]) Q E s
noncomputable def dup_no_S : UO_T := fun w mean mg mb dp un gd cn cs a ccd cl outer A₀ base h₀ L m s Q E rest W dW S dS nl cv sd G zn sc u t1 t2 tm ppem vs cvs ns cns k kc sto p tp tc c => ∀ (B : Below A₀ base outer h₀) (F : Fr h₀ L s.heap m) (X : (lay.heap_1 w.params).In h₀) (N : News h₀ L s.heap ((W, instObj 476 dW) :: (dW, dictOf (WrkE w u G S zn cv sd sc ppem) 8) :: (S, instObj 425 dS) :: (dS, dictOf (StkE w t1 t2 tm nl) 2) :: (nl, listOf ([] : List Value).toArray k) :: (cv, listOf cvs.toArray kc) :: (sd, sto) :: rest)) (T' : Top view (looseW view [Str.ofString "HintWork"]) mean mg mb h₀) (hk : cs.kind = .function) (hdp : dp + 5 < recursionLimit) (hun : un + 120 < cLine) (off : OwnOff rest [nl, dS, cv, sd]) (ap : Apart W dW S dS nl cv sd) (hi : IntsAre vs ns) 
   (hexc : ∀ e h' tk' g₂, RaisedN base (envX cn cs L a ccd cl :: outer) e (.ref 51) ((W, instObj 476 dW) :: (dW, dictOf (WrkE w u G S zn cv sd sc ppem) 8) :: (S, instObj 425 dS) :: (dS, dictOf (StkE w t1 t2 tm nl) 2) :: (cv, listOf cvs.toArray kc) :: (sd, sto) :: rest) h' → g₂.UpToSlots h' → Fr h₀ L g₂ m → E (.ref e) { s with heap := h', toks := tk' }),
  wpAny (model PySem.Challenge.rw_on0247_01.row.toRowW.prog w) (ktrTop dp un gd cn cs L a ccd cl outer) (call (.ref 137) [.ref W, .int c tc]) Q E s
noncomputable def depth_ok_S : UO_T := fun w mean mg mb dp un gd cn cs a ccd cl outer A₀ base h₀ L m s Q E rest W dW S dS nl cv sd G zn sc u t1 t2 tm ppem vs cvs ns cns k kc sto p tp tc c => ∀ (B : Below A₀ base outer h₀) (F : Fr h₀ L s.heap m) (X : (lay.heap_1 w.params).In h₀) (N : News h₀ L s.heap ((W, instObj 476 dW) :: (dW, dictOf (WrkE w u G S zn cv sd sc ppem) 8) :: (S, instObj 425 dS) :: (dS, dictOf (StkE w t1 t2 tm nl) 2) :: (nl, listOf vs.toArray k) :: (cv, listOf cvs.toArray kc) :: (sd, sto) :: rest)) (T' : Top view (looseW view [Str.ofString "HintWork"]) mean mg mb h₀) (hk : cs.kind = .function) (hdp : dp + 5 < recursionLimit) (hun : un + 120 < cLine) (off : OwnOff rest [nl, dS, cv, sd]) (ap : Apart W dW S dS nl cv sd) (hi : IntsAre vs ns) (hlen : (ns.length : Int) < 12)
   (hret : ∀ h' tk' vs' k', Fr h₀ L h' m → News h₀ L h' ((W, instObj 476 dW) :: (dW, dictOf (WrkE w u G S zn cv sd sc ppem) 8) :: (S, instObj 425 dS) :: (dS, dictOf (StkE w t1 t2 tm nl) 2) :: (nl, listOf vs'.toArray k') :: (cv, listOf cvs.toArray kc) :: (sd, sto) :: rest) → IntsAre vs' (ns ++ [(ns.length : Int)]) → Q .none { s with heap := h', toks := tk' }),
  wpAny (model PySem.Challenge.rw_on0247_01.row.toRowW.prog w) (ktrTop dp un gd cn cs L a ccd cl outer) (call (.ref 165) [.ref W, .int c tc]) Q E s
noncomputable def depth_full_S : UO_T := fun w mean mg mb dp un gd cn cs a ccd cl outer A₀ base h₀ L m s Q E rest W dW S dS nl cv sd G zn sc u t1 t2 tm ppem vs cvs ns cns k kc sto p tp tc c => ∀ (B : Below A₀ base outer h₀) (F : Fr h₀ L s.heap m) (X : (lay.heap_1 w.params).In h₀) (N : News h₀ L s.heap ((W, instObj 476 dW) :: (dW, dictOf (WrkE w u G S zn cv sd sc ppem) 8) :: (S, instObj 425 dS) :: (dS, dictOf (StkE w t1 t2 tm nl) 2) :: (nl, listOf vs.toArray k) :: (cv, listOf cvs.toArray kc) :: (sd, sto) :: rest)) (T' : Top view (looseW view [Str.ofString "HintWork"]) mean mg mb h₀) (hk : cs.kind = .function) (hdp : dp + 5 < recursionLimit) (hun : un + 120 < cLine) (off : OwnOff rest [nl, dS, cv, sd]) (ap : Apart W dW S dS nl cv sd) (hi : IntsAre vs ns) (hlen : (ns.length : Int) = 12)
   (hexc : ∀ e h' tk' g₂, RaisedN base (envX cn cs L a ccd cl :: outer) e (.ref 51) ((W, instObj 476 dW) :: (dW, dictOf (WrkE w u G S zn cv sd sc ppem) 8) :: (S, instObj 425 dS) :: (dS, dictOf (StkE w t1 t2 tm nl) 2) :: (cv, listOf cvs.toArray kc) :: (sd, sto) :: rest) h' → g₂.UpToSlots h' → Fr h₀ L g₂ m → E (.ref e) { s with heap := h', toks := tk' }),
  wpAny (model PySem.Challenge.rw_on0247_01.row.toRowW.prog w) (ktrTop dp un gd cn cs L a ccd cl outer) (call (.ref 165) [.ref W, .int c tc]) Q E s
noncomputable def size_ok_S : UO_T := fun w mean mg mb dp un gd cn cs a ccd cl outer A₀ base h₀ L m s Q E rest W dW S dS nl cv sd G zn sc u t1 t2 tm ppem vs cvs ns cns k kc sto p tp tc c => ∀ (B : Below A₀ base outer h₀) (F : Fr h₀ L s.heap m) (X : (lay.heap_1 w.params).In h₀) (N : News h₀ L s.heap ((W, instObj 476 dW) :: (dW, dictOf (WrkE w u G S zn cv sd sc ppem) 8) :: (S, instObj 425 dS) :: (dS, dictOf (StkE w t1 t2 tm nl) 2) :: (nl, listOf vs.toArray k) :: (cv, listOf cvs.toArray kc) :: (sd, sto) :: rest)) (T' : Top view (looseW view [Str.ofString "HintWork"]) mean mg mb h₀) (hk : cs.kind = .function) (hdp : dp + 5 < recursionLimit) (hun : un + 120 < cLine) (off : OwnOff rest [nl, dS, cv, sd]) (ap : Apart W dW S dS nl cv sd) (hi : IntsAre vs ns) (hlen : (ns.length : Int) < 12)
   (hret : ∀ h' tk' vs' k', Fr h₀ L h' m → News h₀ L h' ((W, instObj 476 dW) :: (dW, dictOf (WrkE w u G S zn cv sd sc ppem) 8) :: (S, instObj 425 dS) :: (dS, dictOf (StkE w t1 t2 tm nl) 2) :: (nl, listOf vs'.toArray k') :: (cv, listOf cvs.toArray kc) :: (sd, sto) :: rest) → IntsAre vs' (ns ++ [if c = 75 then ppem else 700]) → Q .none { s with heap := h', toks := tk' }),
  wpAny (model PySem.Challenge.rw_on0247_01.row.toRowW.prog w) (ktrTop dp un gd cn cs L a ccd cl outer) (call (.ref 310) [.ref W, .int c tc]) Q E s
noncomputable def size_full_S : UO_T := fun w mean mg mb dp un gd cn cs a ccd cl outer A₀ base h₀ L m s Q E rest W dW S dS nl cv sd G zn sc u t1 t2 tm ppem vs cvs ns cns k kc sto p tp tc c => ∀ (B : Below A₀ base outer h₀) (F : Fr h₀ L s.heap m) (X : (lay.heap_1 w.params).In h₀) (N : News h₀ L s.heap ((W, instObj 476 dW) :: (dW, dictOf (WrkE w u G S zn cv sd sc ppem) 8) :: (S, instObj 425 dS) :: (dS, dictOf (StkE w t1 t2 tm nl) 2) :: (nl, listOf vs.toArray k) :: (cv, listOf cvs.toArray kc) :: (sd, sto) :: rest)) (T' : Top view (looseW view [Str.ofString "HintWork"]) mean mg mb h₀) (hk : cs.kind = .function) (hdp : dp + 5 < recursionLimit) (hun : un + 120 < cLine) (off : OwnOff rest [nl, dS, cv, sd]) (ap : Apart W dW S dS nl cv sd) (hi : IntsAre vs ns) (hlen : (ns.length : Int) = 12)
   (hexc : ∀ e h' tk' g₂, RaisedN base (envX cn cs L a ccd cl :: outer) e (.ref 51) ((W, instObj 476 dW) :: (dW, dictOf (WrkE w u G S zn cv sd sc ppem) 8) :: (S, instObj 425 dS) :: (dS, dictOf (StkE w t1 t2 tm nl) 2) :: (cv, listOf cvs.toArray kc) :: (sd, sto) :: rest) h' → g₂.UpToSlots h' → Fr h₀ L g₂ m → E (.ref e) { s with heap := h', toks := tk' }),
  wpAny (model PySem.Challenge.rw_on0247_01.row.toRowW.prog w) (ktrTop dp un gd cn cs L a ccd cl outer) (call (.ref 310) [.ref W, .int c tc]) Q E s
noncomputable def UO_l : List UO_T := [dup_ok_S, dup_full_S, dup_no_S, depth_ok_S, depth_full_S, size_ok_S, size_full_S]
noncomputable def UO_S (p : Bag) : Prop := ∀ f ∈ UO_l, UO_at p f
noncomputable def UO_c : Bag := skc UO_S
theorem UO_reg : True := by
  (k_with "lay UO" => (delta UO_at; refine (?layF0 : UO_all _) (UO_c.fWo 0) (UO_c.fMe 0) (UO_c.fM 0) (UO_c.fM 1) (UO_c.fN 0) (UO_c.fN 1) (UO_c.fGD 0) (UO_c.fSt 0) (UO_c.fSc 0) (UO_c.fA 0) (UO_c.fV 0) (UO_c.fCL 0) (UO_c.fEn 0) (UO_c.fAr 0) (UO_c.fH 0) (UO_c.fH 1) (UO_c.fA 1) (UO_c.fM 2) (UO_c.fSh 0) (UO_c.fQ 0) (UO_c.fQ 1) (UO_c.fAO 0) (UO_c.fA 2) (UO_c.fA 3) (UO_c.fA 4) (UO_c.fA 5) (UO_c.fA 6) (UO_c.fA 7) (UO_c.fA 8) (UO_c.fA 9) (UO_c.fA 10) (UO_c.fA 11) (UO_c.fU 0) (UO_c.fT 0) (UO_c.fT 1) (UO_c.fT 2) (UO_c.fI 0) (UO_c.fVL 0) (UO_c.fVL 1) (UO_c.fIL 0) (UO_c.fIL 1) (UO_c.fN 2) (UO_c.fN 3) (UO_c.fO 0) (UO_c.fI 1) (UO_c.fT 3) (UO_c.fT 4) (UO_c.fI 2); intro w mean mg mb dp un gd cn cs a ccd cl outer A₀ base h₀ L m s Q E rest W dW S dS nl cv sd G zn sc u t1 t2 tm ppem vs cvs ns cns k kc sto p tp tc c))
  trivial
theorem dup_ok_at : UO_at UO_c dup_ok_S :=
  (by intro hz8; exact hz8 : (have hz8 : UO_at UO_c dup_ok_S := (by
  k_extra "lay UO"
  intro B F X N T' hk hdp hun off ap hi hlen hret
  have sken := sken
  obtain ⟨n_W_dW, n_W_S, n_W_dS, n_W_nl, n_W_cv, n_W_sd, n_dW_S, n_dW_dS, n_dW_nl, n_dW_cv, n_dW_sd, n_S_dS, n_S_nl, n_S_cv, n_S_sd, n_dS_nl, n_dS_cv, n_dS_sd, n_nl_cv, n_nl_sd, n_cv_sd⟩ := ap
  have hi0 : IntsAre (vs ++ [Value.int p tp]) (ns ++ [p]) := ints_app hi (.cons _ _ .nil)
  revert X; k_fill; intro X
  refine wpAny_call ?_
  k_extra "x_enterF"
  k_steps
  all_goals (first | (refine hret _ _ _ _ (by k_asm) (by k_asm) ?_; k_extra "m_ints") | (refine hret _ _ _ _ (by k_asm) (cb_drop (by assumption) (by kcj_all)) ?_; k_extra "m_ints"))); UO_at UO_c dup_ok_S))
theorem dup_full_at : UO_at UO_c dup_full_S :=
  (by intro hz8; exact hz8 : (have hz8 : UO_at UO_c dup_full_S := (by
  k_extra "lay UO"
  intro B F X N T' hk hdp hun off ap hi hlen hexc
  have sken := sken
  obtain ⟨n_W_dW, n_W_S, n_W_dS, n_W_nl, n_W_cv, n_W_sd, n_dW_S, n_dW_dS, n_dW_nl, n_dW_cv, n_dW_sd, n_S_dS, n_S_nl, n_S_cv, n_S_sd, n_dS_nl, n_dS_cv, n_dS_sd, n_nl_cv, n_nl_sd, n_cv_sd⟩ := ap
  have hi0 : IntsAre (vs ++ [Value.int p tp]) (ns ++ [p]) := ints_app hi (.cons _ _ .nil)
  revert X; k_fill; intro X
  refine wpAny_call ?_
  k_extra "x_enterF"
  k_steps
  all_goals (first | exact hexc _ _ _ _ (raised_sub (by assumption) (by kcj_all)) (by assumption) (by assumption))); UO_at UO_c dup_full_S))
theorem dup_no_at : UO_at UO_c dup_no_S :=
  (by intro hz8; exact hz8 : (have hz8 : UO_at UO_c dup_no_S := (by
  k_extra "lay UO"
  intro B F X N T' hk hdp hun off ap hi hexc
  have sken := sken
  obtain ⟨n_W_dW, n_W_S, n_W_dS, n_W_nl, n_W_cv, n_W_sd, n_dW_S, n_dW_dS, n_dW_nl, n_dW_cv, n_dW_sd, n_S_dS, n_S_nl, n_S_cv, n_S_sd, n_dS_nl, n_dS_cv, n_dS_sd, n_nl_cv, n_nl_sd, n_cv_sd⟩ := ap
  revert X; k_fill; intro X
  refine wpAny_call ?_
  k_extra "x_enterF"
  k_steps
  all_goals (first | exact hexc _ _ _ _ (raised_sub (by assumption) (by kcj_all)) (by assumption) (by assumption))); UO_at UO_c dup_no_S))
theorem depth_ok_at : UO_at UO_c depth_ok_S :=
  (by intro hz8; exact hz8 : (have hz8 : UO_at UO_c depth_ok_S := (by
  k_extra "lay UO"
  intro B F X N T' hk hdp hun off ap hi hlen hret
  have sken := sken
  obtain ⟨n_W_dW, n_W_S, n_W_dS, n_W_nl, n_W_cv, n_W_sd, n_dW_S, n_dW_dS, n_dW_nl, n_dW_cv, n_dW_sd, n_S_dS, n_S_nl, n_S_cv, n_S_sd, n_dS_nl, n_dS_cv, n_dS_sd, n_nl_cv, n_nl_sd, n_cv_sd⟩ := ap
  revert X; k_fill; intro X
  refine wpAny_call ?_
  k_extra "x_enterF"
  k_steps
  all_goals (first | (refine hret _ _ _ _ (by k_asm) (by k_asm) ?_; k_extra "m_ints") | (refine hret _ _ _ _ (by k_asm) (cb_drop (by assumption) (by kcj_all)) ?_; k_extra "m_ints"))); UO_at UO_c depth_ok_S))
theorem depth_full_at : UO_at UO_c depth_full_S :=
  (by intro hz8; exact hz8 : (have hz8 : UO_at UO_c depth_full_S := (by
  k_extra "lay UO"
  intro B F X N T' hk hdp hun off ap hi hlen hexc
  have sken := sken
  obtain ⟨n_W_dW, n_W_S, n_W_dS, n_W_nl, n_W_cv, n_W_sd, n_dW_S, n_dW_dS, n_dW_nl, n_dW_cv, n_dW_sd, n_S_dS, n_S_nl, n_S_cv, n_S_sd, n_dS_nl, n_dS_cv, n_dS_sd, n_nl_cv, n_nl_sd, n_cv_sd⟩ := ap
  revert X; k_fill; intro X
  refine wpAny_call ?_
  k_extra "x_enterF"
  k_steps
  all_goals (first | exact hexc _ _ _ _ (raised_sub (by assumption) (by kcj_all)) (by assumption) (by assumption))); UO_at UO_c depth_full_S))
theorem size_ok_at : UO_at UO_c size_ok_S :=
  (by intro hz8; exact hz8 : (have hz8 : UO_at UO_c size_ok_S := (by
  k_extra "lay UO"
  intro B F X N T' hk hdp hun off ap hi hlen hret
  have sken := sken
  obtain ⟨n_W_dW, n_W_S, n_W_dS, n_W_nl, n_W_cv, n_W_sd, n_dW_S, n_dW_dS, n_dW_nl, n_dW_cv, n_dW_sd, n_S_dS, n_S_nl, n_S_cv, n_S_sd, n_dS_nl, n_dS_cv, n_dS_sd, n_nl_cv, n_nl_sd, n_cv_sd⟩ := ap
  revert X; k_fill; intro X
  refine wpAny_call ?_
  k_extra "x_enterF"
  k_steps
  all_goals (first | (refine hret _ _ _ _ (by k_asm) (by k_asm) ?_; k_extra "m_ints") | (refine hret _ _ _ _ (by k_asm) (cb_drop (by assumption) (by kcj_all)) ?_; k_extra "m_ints"))); UO_at UO_c size_ok_S))
theorem size_full_at : UO_at UO_c size_full_S :=
  (by intro hz8; exact hz8 : (have hz8 : UO_at UO_c size_full_S := (by
  k_extra "lay UO"
  intro B F X N T' hk hdp hun off ap hi hlen hexc
  have sken := sken
  obtain ⟨n_W_dW, n_W_S, n_W_dS, n_W_nl, n_W_cv, n_W_sd, n_dW_S, n_dW_dS, n_dW_nl, n_dW_cv, n_dW_sd, n_S_dS, n_S_nl, n_S_cv, n_S_sd, n_dS_nl, n_dS_cv, n_dS_sd, n_nl_cv, n_nl_sd, n_cv_sd⟩ := ap
  revert X; k_fill; intro X
  refine wpAny_call ?_
  k_extra "x_enterF"
  k_steps
  all_goals (first | exact hexc _ _ _ _ (raised_sub (by assumption) (by kcj_all)) (by assumption) (by assumption))); UO_at UO_c size_full_S))
theorem UO_ok : ∀ p, ∀ f ∈ UO_l, UO_at p f := sk (S := UO_S) (all_cons dup_ok_at (all_cons dup_full_at (all_cons dup_no_at (all_cons depth_ok_at (all_cons depth_full_at (all_cons size_ok_at (all_cons size_full_at (all_nil _))))))))
noncomputable def UO_bag (w : World) (mean : ExcName → Option Value) (mg mb : Str → Option Value) (dp un : Nat) (gd : Option (List Code)) (cn : Str) (cs : Scope) (a : Addr) (ccd : Value) (cl : List (Str × Addr)) (outer : List Env) (A₀ : Around) (base h₀ : Heap) (L : Addr) (m : Str → Option Value) (s : Shared) (Q E : Value → Shared → Prop) (rest : List (Addr × Obj)) (W dW S dS nl cv sd G zn sc : Addr) (u : WTok) (t1 t2 tm : Tok) (ppem : Int) (vs cvs : List Value) (ns cns : List Int) (k kc : Nat) (sto : Obj) (p : Int) (tp tc : Tok) (c : Int) : Bag := ⟨fun ix9 => [a, L, W, dW, S, dS, nl, cv, sd, G, zn, sc].getD ix9 (bag0.fA 0), fun ix9 => [t1, t2, tm, tp, tc].getD ix9 (bag0.fT 0), fun ix9 => [ppem, p, c].getD ix9 (bag0.fI 0), fun ix9 => [dp, un, k, kc].getD ix9 (bag0.fN 0), fun ix9 => [ccd].getD ix9 (bag0.fV 0), fun ix9 => [sto].getD ix9 (bag0.fO 0), fun ix9 => [vs, cvs].getD ix9 (bag0.fVL 0), fun ix9 => [ns, cns].getD ix9 (bag0.fIL 0), fun ix9 => [].getD ix9 (bag0.fKV 0), fun ix9 => [].getD ix9 (bag0.fKI 0), fun ix9 => [rest].getD ix9 (bag0.fAO 0), fun ix9 => [u].getD ix9 (bag0.fU 0), fun ix9 => [].getD ix9 (bag0.fG 0), fun ix9 => [].getD ix9 (bag0.fPr 0), fun ix9 => [].getD ix9 (bag0.fEv 0), fun ix9 => [].getD ix9 (bag0.fSs 0), fun ix9 => [].getD ix9 (bag0.fEx 0), fun ix9 => [].getD ix9 (bag0.fQF 0), fun ix9 => [].getD ix9 (bag0.fJ 0), fun ix9 => [w].getD ix9 (bag0.fWo 0), fun ix9 => [mean].getD ix9 (bag0.fMe 0), fun ix9 => [mg, mb, m].getD ix9 (bag0.fM 0), fun ix9 => [gd].getD ix9 (bag0.fGD 0), fun ix9 => [cn].getD ix9 (bag0.fSt 0), fun ix9 => [cs].getD ix9 (bag0.fSc 0), fun ix9 => [cl].getD ix9 (bag0.fCL 0), fun ix9 => [outer].getD ix9 (bag0.fEn 0), fun ix9 => [A₀].getD ix9 (bag0.fAr 0), fun ix9 => [base, h₀].getD ix9 (bag0.fH 0), fun ix9 => [s].getD ix9 (bag0.fSh 0), fun ix9 => [Q, E].getD ix9 (bag0.fQ 0)⟩
theorem dup_ok {w mean mg mb dp un gd cn cs a ccd cl outer A₀ base h₀ L m s Q E rest W dW S dS nl cv sd G zn sc u t1 t2 tm ppem vs cvs ns cns k kc sto p tp tc c} : dup_ok_S w mean mg mb dp un gd cn cs a ccd cl outer A₀ base h₀ L m s Q E rest W dW S dS nl cv sd G zn sc u t1 t2 tm ppem vs cvs ns cns k kc sto p tp tc c := UO_ok (UO_bag w mean mg mb dp un gd cn cs a ccd cl outer A₀ base h₀ L m s Q E rest W dW S dS nl cv sd G zn sc u t1 t2 tm ppem vs cvs ns cns k kc sto p tp tc c) _ (List.mem_of_getElem? (i := 0) rfl)
theorem dup_full {w mean mg mb dp un gd cn cs a ccd cl outer A₀ base h₀ L m s Q E rest W dW S dS nl cv sd G zn sc u t1 t2 tm ppem vs cvs ns cns k kc sto p tp tc c} : dup_full_S w mean mg mb dp un gd cn cs a ccd cl outer A₀ base h₀ L m s Q E rest W dW S dS nl cv sd G zn sc u t1 t2 tm ppem vs cvs ns cns k kc sto p tp tc c := UO_ok (UO_bag w mean mg mb dp un gd cn cs a ccd cl outer A₀ base h₀ L m s Q E rest W dW S dS nl cv sd G zn sc u t1 t2 tm ppem vs cvs ns cns k kc sto p tp tc c) _ (List.mem_of_getElem? (i := 1) rfl)
theorem dup_no {w mean mg mb dp un gd cn cs a ccd cl outer A₀ base h₀ L m s Q E rest W dW S dS nl cv sd G zn sc u t1 t2 tm ppem vs cvs ns cns k kc sto tc c} : dup_no_S w mean mg mb dp un gd cn cs a ccd cl outer A₀ base h₀ L m s Q E rest W dW S dS nl cv sd G zn sc u t1 t2 tm ppem vs cvs ns cns k kc sto (bag0.fI 0) (bag0.fT 0) tc c := UO_ok (UO_bag w mean mg mb dp un gd cn cs a ccd cl outer A₀ base h₀ L m s Q E rest W dW S dS nl cv sd G zn sc u t1 t2 tm ppem vs cvs ns cns k kc sto (bag0.fI 0) (bag0.fT 0) tc c) _ (List.mem_of_getElem? (i := 2) rfl)
theorem depth_ok {w mean mg mb dp un gd cn cs a ccd cl outer A₀ base h₀ L m s Q E rest W dW S dS nl cv sd G zn sc u t1 t2 tm ppem vs cvs ns cns k kc sto tc c} : depth_ok_S w mean mg mb dp un gd cn cs a ccd cl outer A₀ base h₀ L m s Q E rest W dW S dS nl cv sd G zn sc u t1 t2 tm ppem vs cvs ns cns k kc sto (bag0.fI 0) (bag0.fT 0) tc c := UO_ok (UO_bag w mean mg mb dp un gd cn cs a ccd cl outer A₀ base h₀ L m s Q E rest W dW S dS nl cv sd G zn sc u t1 t2 tm ppem vs cvs ns cns k kc sto (bag0.fI 0) (bag0.fT 0) tc c) _ (List.mem_of_getElem? (i := 3) rfl)
theorem depth_full {w mean mg mb dp un gd cn cs a ccd cl outer A₀ base h₀ L m s Q E rest W dW S dS nl cv sd G zn sc u t1 t2 tm ppem vs cvs ns cns k kc sto tc c} : depth_full_S w mean mg mb dp un gd cn cs a ccd cl outer A₀ base h₀ L m s Q E rest W dW S dS nl cv sd G zn sc u t1 t2 tm ppem vs cvs ns cns k kc sto (bag0.fI 0) (bag0.fT 0) tc c := UO_ok (UO_bag w mean mg mb dp un gd cn cs a ccd cl outer A₀ base h₀ L m s Q E rest W dW S dS nl cv sd G zn sc u t1 t2 tm ppem vs cvs ns cns k kc sto (bag0.fI 0) (bag0.fT 0) tc c) _ (List.mem_of_getElem? (i := 4) rfl)
theorem size_ok {w mean mg mb dp un gd cn cs a ccd cl outer A₀ base h₀ L m s Q E rest W dW S dS nl cv sd G zn sc u t1 t2 tm ppem vs cvs ns cns k kc sto tc c} : size_ok_S w mean mg mb dp un gd cn cs a ccd cl outer A₀ base h₀ L m s Q E rest W dW S dS nl cv sd G zn sc u t1 t2 tm ppem vs cvs ns cns k kc sto (bag0.fI 0) (bag0.fT 0) tc c := UO_ok (UO_bag w mean mg mb dp un gd cn cs a ccd cl outer A₀ base h₀ L m s Q E rest W dW S dS nl cv sd G zn sc u t1 t2 tm ppem vs cvs ns cns k kc sto (bag0.fI 0) (bag0.fT 0) tc c) _ (List.mem_of_getElem? (i := 5) rfl)
theorem size_full {w mean mg mb dp un gd cn cs a ccd cl outer A₀ base h₀ L m s Q E rest W dW S dS nl cv sd G zn sc u t1 t2 tm ppem vs cvs ns cns k kc sto tc c} : size_full_S w mean mg mb dp un gd cn cs a ccd cl outer A₀ base h₀ L m s Q E rest W dW S dS nl cv sd G zn sc u t1 t2 tm ppem vs cvs ns cns k kc sto (bag0.fI 0) (bag0.fT 0) tc c := UO_ok (UO_bag w mean mg mb dp un gd cn cs a ccd cl outer A₀ base h₀ L m s Q E rest W dW S dS nl cv sd G zn sc u t1 t2 tm ppem vs cvs ns cns k kc sto (bag0.fI 0) (bag0.fT 0) tc c) _ (List.mem_of_getElem? (i := 6) rfl)
section
local macro_rules | `(tactic| walk_at $s:str) => `(tactic| k_extra $(Lean.Syntax.mkStrLit (s.getString ++ " #P11")))
theorem reg8 : True := by
  (k_with "binaryOp Mult int int #P11" => first | ((k_here; k_dflt (refine' mul_C ?hq (PySem.IntMulOk.of_left (PySem.intBits_le_64 (by k_dflt (exact Int.lt_of_lt_of_le (by decide) (Int.fmod_nonneg_of_pos _ (by decide)))) (by k_dflt (exact Int.lt_trans (Int.fmod_lt_of_pos _ (by decide)) (by decide))))); k_whole))) | fail "no")
  trivial
noncomputable def takeF_S (w : World) (mean : ExcName → Option Value) (mg mb : Str → Option Value) (dp un : Nat) (gd : Option (List Code)) (cn : Str) (cs : Scope) (a : Addr) (ccd : Value) (cl : List (Str × Addr)) (outer : List Env) (A₀ : Around) (base h₀ : Heap) (L : Addr) (m : Str → Option Value) (s : Shared) (Q E : Value → Shared → Prop) (rest : List (Addr × Obj)) (src : Addr) (a0 b0 : Int) (ta0 tb0 : Tok) (k0 : Nat) (top : Int) (tt : Tok) : Prop := ∀ (B : Below A₀ base outer h₀) (F : Fr h₀ L s.heap m) (X : (lay.heap_1 w.params).In h₀) (N : News h₀ L s.heap ((src, listOf [Value.int a0 ta0, Value.int b0 tb0].toArray k0) :: rest)) (T' : Top view (looseW view [Str.ofString "HintWork"]) mean mg mb h₀) (hk : cs.kind = .function) (hdp : dp + 2 < recursionLimit) (hun : un + 96 < cLine) (off : OwnOff rest [src]) (ha : 0 ≤ a0) (hb : 0 ≤ b0) (hb2 : b0 < 2147483647) (ht : 1 ≤ top) (ht2 : top ≤ 64)
   (hret : ∀ h' tk' v9 tv9 a9 b9 ta9 tb9 k9, 0 ≤ v9 → v9 < top → 0 ≤ a9 → 0 ≤ b9 → b9 < 2147483647 → Fr h₀ L h' m → News h₀ L h' ((src, listOf [Value.int a9 ta9, Value.int b9 tb9].toArray k9) :: rest) → Q (.int v9 tv9) { s with heap := h', toks := tk' }),
  wpAny (model PySem.Challenge.rw_on0247_01.row.toRowW.prog w) (ktrTop dp un gd cn cs L a ccd cl outer) (call (.ref 494) [.ref src, .int top tt]) Q E s
noncomputable def LtakeF_S (p : Bag) : Prop := (takeF_S (p.fWo 0) (p.fMe 0) (p.fM 0) (p.fM 1) (p.fN 0) (p.fN 1) (p.fGD 0) (p.fSt 0) (p.fSc 0) (p.fA 0) (p.fV 0) (p.fCL 0) (p.fEn 0) (p.fAr 0) (p.fH 0) (p.fH 1) (p.fA 1) (p.fM 2) (p.fSh 0) (p.fQ 0) (p.fQ 1) (p.fAO 0) (p.fA 2) (p.fI 0) (p.fI 1) (p.fT 0) (p.fT 1) (p.fN 2) (p.fI 2) (p.fT 2))
noncomputable def LtakeF_c : Bag := skc LtakeF_S
theorem takeF_at : takeF_S (LtakeF_c.fWo 0) (LtakeF_c.fMe 0) (LtakeF_c.fM 0) (LtakeF_c.fM 1) (LtakeF_c.fN 0) (LtakeF_c.fN 1) (LtakeF_c.fGD 0) (LtakeF_c.fSt 0) (LtakeF_c.fSc 0) (LtakeF_c.fA 0) (LtakeF_c.fV 0) (LtakeF_c.fCL 0) (LtakeF_c.fEn 0) (LtakeF_c.fAr 0) (LtakeF_c.fH 0) (LtakeF_c.fH 1) (LtakeF_c.fA 1) (LtakeF_c.fM 2) (LtakeF_c.fSh 0) (LtakeF_c.fQ 0) (LtakeF_c.fQ 1) (LtakeF_c.fAO 0) (LtakeF_c.fA 2) (LtakeF_c.fI 0) (LtakeF_c.fI 1) (LtakeF_c.fT 0) (LtakeF_c.fT 1) (LtakeF_c.fN 2) (LtakeF_c.fI 2) (LtakeF_c.fT 2) :=
  (by intro hz8; exact hz8 : (have hz8 : takeF_S (LtakeF_c.fWo 0) (LtakeF_c.fMe 0) (LtakeF_c.fM 0) (LtakeF_c.fM 1) (LtakeF_c.fN 0) (LtakeF_c.fN 1) (LtakeF_c.fGD 0) (LtakeF_c.fSt 0) (LtakeF_c.fSc 0) (LtakeF_c.fA 0) (LtakeF_c.fV 0) (LtakeF_c.fCL 0) (LtakeF_c.fEn 0) (LtakeF_c.fAr 0) (LtakeF_c.fH 0) (LtakeF_c.fH 1) (LtakeF_c.fA 1) (LtakeF_c.fM 2) (LtakeF_c.fSh 0) (LtakeF_c.fQ 0) (LtakeF_c.fQ 1) (LtakeF_c.fAO 0) (LtakeF_c.fA 2) (LtakeF_c.fI 0) (LtakeF_c.fI 1) (LtakeF_c.fT 0) (LtakeF_c.fT 1) (LtakeF_c.fN 2) (LtakeF_c.fI 2) (LtakeF_c.fT 2) := (by
  refine (?layF0 : ∀ w mean mg mb dp un gd cn cs a ccd cl outer A₀ base h₀ L m s Q E rest src a0 b0 ta0 tb0 k0 top tt, takeF_S w mean mg mb dp un gd cn cs a ccd cl outer A₀ base h₀ L m s Q E rest src a0 b0 ta0 tb0 k0 top tt) (LtakeF_c.fWo 0) (LtakeF_c.fMe 0) (LtakeF_c.fM 0) (LtakeF_c.fM 1) (LtakeF_c.fN 0) (LtakeF_c.fN 1) (LtakeF_c.fGD 0) (LtakeF_c.fSt 0) (LtakeF_c.fSc 0) (LtakeF_c.fA 0) (LtakeF_c.fV 0) (LtakeF_c.fCL 0) (LtakeF_c.fEn 0) (LtakeF_c.fAr 0) (LtakeF_c.fH 0) (LtakeF_c.fH 1) (LtakeF_c.fA 1) (LtakeF_c.fM 2) (LtakeF_c.fSh 0) (LtakeF_c.fQ 0) (LtakeF_c.fQ 1) (LtakeF_c.fAO 0) (LtakeF_c.fA 2) (LtakeF_c.fI 0) (LtakeF_c.fI 1) (LtakeF_c.fT 0) (LtakeF_c.fT 1) (LtakeF_c.fN 2) (LtakeF_c.fI 2) (LtakeF_c.fT 2)
  intro w mean mg mb dp un gd cn cs a ccd cl outer A₀ base h₀ L m s Q E rest src a0 b0 ta0 tb0 k0 top tt B F X N T' hk hdp hun off ha hb hb2 ht ht2 hret
  have sken := sken
  revert X; k_fill; intro X
  refine wpAny_call ?_
  k_extra "x_enterF"
  k_steps
  all_goals ((try simp only [Int.fmod_eq_emod_of_nonneg _ (show (0 : Int) ≤ top by omega), Int.fdiv_eq_ediv_of_nonneg _ (show (0 : Int) ≤ top by omega), Int.fmod_eq_emod_of_nonneg _ (show (0 : Int) ≤ 2147483647 by decide)] at *); first | (refine hret _ _ _ _ _ _ _ _ _ ?_ ?_ ?_ ?_ ?_ (by k_asm) (by first | k_asm | (with_unfolding_all assumption)) <;> first | exact Int.emod_nonneg _ (by omega) | exact Int.emod_lt_of_pos _ (by omega) | exact Int.ediv_nonneg (by omega) (by omega) | omega))); takeF_S (LtakeF_c.fWo 0) (LtakeF_c.fMe 0) (LtakeF_c.fM 0) (LtakeF_c.fM 1) (LtakeF_c.fN 0) (LtakeF_c.fN 1) (LtakeF_c.fGD 0) (LtakeF_c.fSt 0) (LtakeF_c.fSc 0) (LtakeF_c.fA 0) (LtakeF_c.fV 0) (LtakeF_c.fCL 0) (LtakeF_c.fEn 0) (LtakeF_c.fAr 0) (LtakeF_c.fH 0) (LtakeF_c.fH 1) (LtakeF_c.fA 1) (LtakeF_c.fM 2) (LtakeF_c.fSh 0) (LtakeF_c.fQ 0) (LtakeF_c.fQ 1) (LtakeF_c.fAO 0) (LtakeF_c.fA 2) (LtakeF_c.fI 0) (LtakeF_c.fI 1) (LtakeF_c.fT 0) (LtakeF_c.fT 1) (LtakeF_c.fN 2) (LtakeF_c.fI 2) (LtakeF_c.fT 2)))
theorem LtakeF_all : ∀ p, LtakeF_S p := sk (takeF_at)
noncomputable def LtakeF_bag (w : World) (mean : ExcName → Option Value) (mg mb : Str → Option Value) (dp un : Nat) (gd : Option (List Code)) (cn : Str) (cs : Scope) (a : Addr) (ccd : Value) (cl : List (Str × Addr)) (outer : List Env) (A₀ : Around) (base h₀ : Heap) (L : Addr) (m : Str → Option Value) (s : Shared) (Q E : Value → Shared → Prop) (rest : List (Addr × Obj)) (src : Addr) (a0 b0 : Int) (ta0 tb0 : Tok) (k0 : Nat) (top : Int) (tt : Tok) : Bag := ⟨fun ix9 => [a, L, src].getD ix9 (bag0.fA 0), fun ix9 => [ta0, tb0, tt].getD ix9 (bag0.fT 0), fun ix9 => [a0, b0, top].getD ix9 (bag0.fI 0), fun ix9 => [dp, un, k0].getD ix9 (bag0.fN 0), fun ix9 => [ccd].getD ix9 (bag0.fV 0), fun ix9 => [].getD ix9 (bag0.fO 0), fun ix9 => [].getD ix9 (bag0.fVL 0), fun ix9 => [].getD ix9 (bag0.fIL 0), fun ix9 => [].getD ix9 (bag0.fKV 0), fun ix9 => [].getD ix9 (bag0.fKI 0), fun ix9 => [rest].getD ix9 (bag0.fAO 0), fun ix9 => [].getD ix9 (bag0.fU 0), fun ix9 => [].getD ix9 (bag0.fG 0), fun ix9 => [].getD ix9 (bag0.fPr 0), fun ix9 => [].getD ix9 (bag0.fEv 0), fun ix9 => [].getD ix9 (bag0.fSs 0), fun ix9 => [].getD ix9 (bag0.fEx 0), fun ix9 => [].getD ix9 (bag0.fQF 0), fun ix9 => [].getD ix9 (bag0.fJ 0), fun ix9 => [w].getD ix9 (bag0.fWo 0), fun ix9 => [mean].getD ix9 (bag0.fMe 0), fun ix9 => [mg, mb, m].getD ix9 (bag0.fM 0), fun ix9 => [gd].getD ix9 (bag0.fGD 0), fun ix9 => [cn].getD ix9 (bag0.fSt 0), fun ix9 => [cs].getD ix9 (bag0.fSc 0), fun ix9 => [cl].getD ix9 (bag0.fCL 0), fun ix9 => [outer].getD ix9 (bag0.fEn 0), fun ix9 => [A₀].getD ix9 (bag0.fAr 0), fun ix9 => [base, h₀].getD ix9 (bag0.fH 0), fun ix9 => [s].getD ix9 (bag0.fSh 0), fun ix9 => [Q, E].getD ix9 (bag0.fQ 0)⟩
theorem takeF {w mean mg mb dp un gd cn cs a ccd cl outer A₀ base h₀ L m s Q E rest src a0 b0 ta0 tb0 k0 top tt} : takeF_S w mean mg mb dp un gd cn cs a ccd cl outer A₀ base h₀ L m s Q E rest src a0 b0 ta0 tb0 k0 top tt := LtakeF_all (LtakeF_bag w mean mg mb dp un gd cn cs a ccd cl outer A₀ base h₀ L m s Q E rest src a0 b0 ta0 tb0 k0 top tt)
theorem take {w : World} {mean : ExcName → Option Value} {mg mb : Str → Option Value} {dp un : Nat} {gd : Option (List Code)} {cn : Str} {cs : Scope} {a : Addr} {ccd : Value} {cl : List (Str × Addr)} {outer : List Env} {A₀ : Around} {base h₀ : Heap} {L : Addr} {m : Str → Option Value} {s : Shared} {Q E : Value → Shared → Prop}
   {news : List (Addr × Obj)} {g : Obj → List (Addr × Obj)} {src : Addr} {a0 b0 : Int} {ta0 tb0 : Tok} {k0 : Nat} {top : Int} {tt : Tok}
   (B : Below A₀ base outer h₀) (F : Fr h₀ L s.heap m) (X : (lay.heap_1 w.params).In h₀) (N : News h₀ L s.heap news) (T' : Top view (looseW view [Str.ofString "HintWork"]) mean mg mb h₀) (hk : cs.kind = .function) (hdp : dp + 2 < recursionLimit) (hun : un + 96 < cLine)
   (U : UpdF src (listOf [Value.int a0 ta0, Value.int b0 tb0].toArray k0) news g) (ha : 0 ≤ a0) (hb : 0 ≤ b0) (hb2 : b0 < 2147483647) (ht : 1 ≤ top) (ht2 : top ≤ 64)
   (hret : ∀ h' tk' v9 tv9 a9 b9 ta9 tb9 k9, 0 ≤ v9 → v9 < top → 0 ≤ a9 → 0 ≤ b9 → b9 < 2147483647 → Fr h₀ L h' m → News h₀ L h' (g (listOf [Value.int a9 ta9, Value.int b9 tb9].toArray k9)) → Q (.int v9 tv9) { s with heap := h', toks := tk' }) :
   wpAny (model PySem.Challenge.rw_on0247_01.row.toRowW.prog w) (ktrTop dp un gd cn cs L a ccd cl outer) (call (.ref 494) [.ref src, .int top tt]) Q E s := by
  obtain ⟨pre, post, rfl, hg, a1, b1⟩ := U.split
  refine takeF (rest := pre ++ post) (src := src) (a0 := a0) (b0 := b0) (ta0 := ta0) (tb0 := tb0) (k0 := k0) (top := top) (tt := tt) B F (fun p hp => by exact X p hp) (fun p hp => N p ?_) T' hk hdp hun (fun p hp b hb => ?_) ha hb hb2 ht ht2 (fun h9 tk9 v9 tv9 a9 b9 ta9 tb9 k9 c1 c2 c3 c4 c5 F9 N9 => hret h9 tk9 v9 tv9 a9 b9 ta9 tb9 k9 c1 c2 c3 c4 c5 F9 (by rw [hg]; exact fun p hp => N9 p (by simp only [List.mem_append, List.mem_cons] at hp ⊢; rcases hp with hp | hp | hp <;> simp [hp])))
  · rcases List.mem_cons.mp hp with rfl | hp
    · simp
    rcases List.mem_append.mp hp with hp | hp <;> simp [hp]
  · rw [List.mem_singleton.mp hb]; rcases List.mem_append.mp hp with hp | hp; exact a1 p hp; exact b1 p hp
theorem reg9 : True := by
  (k_with "call ref #P11" => first | ((k_here; (with_reducible show wpAny _ _ (call (Value.ref 494) _) _ _ _); k_dflt (apply take; (focus (k_asm)); (focus (k_asm)); (focus (k_asm)); (focus (k_asm)); (focus (k_asm)); (focus (first | exact rfl | assumption)); (focus (ktr_room)); (focus (ktr_units)); (focus (k_updF)); (focus (k_extra "m_len")); (focus (k_extra "m_len")); (focus (k_extra "m_len")); (focus (k_extra "m_len")); (focus (k_extra "m_len")); k_whole); (k_extra "x_in6"; k_extra "x_in6"; k_extra "x_in2"; intro F'z9 N'z9); (try dsimp only at N'z9); (try k_extra "x_fold"))) | fail "no")
  trivial
theorem oneF {w : World} {mean : ExcName → Option Value} {mg mb : Str → Option Value} {dp un : Nat} {gd : Option (List Code)} {cn : Str} {cs : Scope} {a : Addr} {ccd : Value} {cl : List (Str × Addr)} {outer : List Env} {A₀ : Around} {base h₀ : Heap} {L : Addr} {m : Str → Option Value} {s : Shared} {Q E : Value → Shared → Prop}
   {rest : List (Addr × Obj)} {src : Addr} {a0 b0 : Int} {ta0 tb0 : Tok} {k0 : Nat} {th : Addr} {ts : List Value} {tns : List Int} {kt : Nat}
   (B : Below A₀ base outer h₀) (F : Fr h₀ L s.heap m) (X : (lay.heap_1 w.params).In h₀) (N : News h₀ L s.heap ((src, listOf [Value.int a0 ta0, Value.int b0 tb0].toArray k0) :: (th, listOf ts.toArray kt) :: rest)) (T' : Top view (looseW view [Str.ofString "HintWork"]) mean mg mb h₀) (hk : cs.kind = .function) (hdp : dp + 4 < recursionLimit) (hun : un + 112 < cLine) (off : OwnOff rest [src])
   (ha : 0 ≤ a0) (hb : 0 ≤ b0) (hb2 : b0 < 2147483647) (hti : IntsAre ts tns) (ht1 : 0 < tns.length) (ht2 : tns.length ≤ 64) (nst : @Ne Nat src th)
   (hret : ∀ h' tk' v9 tv9 a9 b9 ta9 tb9 k9, v9 ∈ tns → 0 ≤ a9 → 0 ≤ b9 → b9 < 2147483647 → Fr h₀ L h' m → News h₀ L h' ((src, listOf [Value.int a9 ta9, Value.int b9 tb9].toArray k9) :: (th, listOf ts.toArray kt) :: rest) → Q (.int v9 tv9) { s with heap := h', toks := tk' }) :
   wpAny (model PySem.Challenge.rw_on0247_01.row.toRowW.prog w) (ktrTop dp un gd cn cs L a ccd cl outer) (call (.ref 501) [.ref src, .ref th]) Q E s :=
  (by intro hz8; exact hz8 : (have hz8 : wpAny (model PySem.Challenge.rw_on0247_01.row.toRowW.prog w) (ktrTop dp un gd cn cs L a ccd cl outer) (call (.ref 501) [.ref src, .ref th]) Q E s := (by
  revert X; k_fill; intro X
  refine wpAny_call ?_
  k_extra "x_enterF"
  have hsz := hti.length
  have hbig : (tns.length : Int) ≤ 64 := by omega
  have hpos : (1 : Int) ≤ (tns.length : Int) := by omega
  k_steps
  all_goals ((refine hret _ _ _ _ _ _ _ _ _ ?_ ?_ ?_ ?_ (by k_asm) (by k_asm)); any_goals omega); all_goals (first | (rw [List.getD_eq_getElem?_getD, List.getElem?_eq_getElem (by omega)]; simp))); wpAny (model PySem.Challenge.rw_on0247_01.row.toRowW.prog w) (ktrTop dp un gd cn cs L a ccd cl outer) (call (.ref 501) [.ref src, .ref th]) Q E s))
theorem one {w : World} {mean : ExcName → Option Value} {mg mb : Str → Option Value} {dp un : Nat} {gd : Option (List Code)} {cn : Str} {cs : Scope} {a : Addr} {ccd : Value} {cl : List (Str × Addr)} {outer : List Env} {A₀ : Around} {base h₀ : Heap} {L : Addr} {m : Str → Option Value} {s : Shared} {Q E : Value → Shared → Prop}
   {news : List (Addr × Obj)} {g : Obj → List (Addr × Obj)} {src : Addr} {a0 b0 : Int} {ta0 tb0 : Tok} {k0 : Nat} {th : Addr} {ts : List Value} {tns : List Int} {kt : Nat}
   (B : Below A₀ base outer h₀) (F : Fr h₀ L s.heap m) (X : (lay.heap_1 w.params).In h₀) (N : News h₀ L s.heap news) (T' : Top view (looseW view [Str.ofString "HintWork"]) mean mg mb h₀) (hk : cs.kind = .function) (hdp : dp + 4 < recursionLimit) (hun : un + 112 < cLine)
   (U : UpdF src (listOf [Value.int a0 ta0, Value.int b0 tb0].toArray k0) news g) (mt : (th, listOf ts.toArray kt) ∈ news) (ha : 0 ≤ a0) (hb : 0 ≤ b0) (hb2 : b0 < 2147483647) (hti : IntsAre ts tns) (ht1 : 0 < tns.length) (ht2 : tns.length ≤ 64) (nst : @Ne Nat src th)
   (hret : ∀ h' tk' v9 tv9 a9 b9 ta9 tb9 k9, v9 ∈ tns → 0 ≤ a9 → 0 ≤ b9 → b9 < 2147483647 → Fr h₀ L h' m → News h₀ L h' (g (listOf [Value.int a9 ta9, Value.int b9 tb9].toArray k9)) → Q (.int v9 tv9) { s with heap := h', toks := tk' }) :
   wpAny (model PySem.Challenge.rw_on0247_01.row.toRowW.prog w) (ktrTop dp un gd cn cs L a ccd cl outer) (call (.ref 501) [.ref src, .ref th]) Q E s := by
  obtain ⟨pre, post, rfl, hg, a1, b1⟩ := U.split
  refine oneF (rest := pre ++ post) (src := src) (a0 := a0) (b0 := b0) (ta0 := ta0) (tb0 := tb0) (k0 := k0) (th := th) (ts := ts) (tns := tns) (kt := kt) B F (fun p hp => by exact X p hp) (fun p hp => N p ?_) T' hk hdp hun (fun p hp b hb => ?_) ha hb hb2 hti ht1 ht2 nst (fun h9 tk9 v9 tv9 a9 b9 ta9 tb9 k9 c1 c3 c4 c5 F9 N9 => hret h9 tk9 v9 tv9 a9 b9 ta9 tb9 k9 c1 c3 c4 c5 F9 (by rw [hg]; exact fun p hp => N9 p (by simp only [List.mem_append, List.mem_cons] at hp ⊢; rcases hp with hp | hp | hp <;> simp [hp])))
  · rcases List.mem_cons.mp hp with rfl | hp
    · simp
    rcases List.mem_cons.mp hp with rfl | hp
    · exact mt
    rcases List.mem_append.mp hp with hp | hp <;> simp [hp]
  · rw [List.mem_singleton.mp hb]; rcases List.mem_append.mp hp with hp | hp; exact a1 p hp; exact b1 p hp
end
theorem mt1 : True := by first | (walk1; done) | trivial
theorem reg10 : True := by
  (k_with "call ref" => first | ((k_here; (with_reducible show wpAny _ _ (call (Value.ref 494) _) _ _ _); k_dflt (apply take; (focus (k_asm)); (focus (k_asm)); (focus (k_asm)); (focus (k_asm)); (focus (k_asm)); (focus (first | exact rfl | assumption)); (focus (ktr_room)); (focus (ktr_units)); (focus (k_updF)); (focus (k_extra "m_len")); (focus (k_extra "m_len")); (focus (k_extra "m_len")); (focus (k_extra "m_len")); (focus (k_extra "m_len")); k_whole); (k_extra "x_in6"; k_extra "x_in6"; k_extra "x_in2"; intro F'z9 N'z9); (try dsimp only at N'z9); (try k_extra "x_fold"))) | fail "no")
  (k_with "m_lits" => first | (first | with_reducible assumption | exact IntsAre.nil | (apply IntsAre.cons; k_extra "m_lits") | (refine ints_app ?_ ?_ <;> k_extra "m_lits")) | fail "no")
  (k_with "call ref" => first | ((k_here; (with_reducible show wpAny _ _ (call (Value.ref 501) _) _ _ _); k_dflt (apply one; (focus (k_asm)); (focus (k_asm)); (focus (k_asm)); (focus (k_asm)); (focus (k_asm)); (focus (first | exact rfl | assumption)); (focus (ktr_room)); (focus (ktr_units)); (focus (k_updF)); (focus (k_mem)); (focus (k_extra "m_len")); (focus (k_extra "m_len")); (focus (k_extra "m_len")); (focus (k_extra "m_lits")); (focus (k_extra "m_len")); (focus (k_extra "m_len")); (focus (first | with_reducible assumption | (refine Ne.symm ?_; with_reducible assumption) | (refine Nat.ne_of_lt ?_; with_reducible assumption) | (refine Nat.ne_of_gt ?_; with_reducible assumption) | k_ne)); k_whole); (k_extra "x_in6"; k_extra "x_in6"; k_extra "x_in1"; intro F'z9 N'z9); (try dsimp only at N'z9); (try k_extra "x_fold"))) | fail "no")
  trivial
section
noncomputable def Stop (P : Prop) : Prop := P
theorem Stop.intro {P : Prop} (h : P) : Stop P := h
theorem Stop.out {P : Prop} (h : Stop P) : P := h
theorem unstop {P : Prop} (h : P) : Stop P := h
theorem ints_snoc {us : List Value} {ms : List Int} {y : Int} (h : IntsAre us (ms ++ [y])) : ∃ us' t, us = us' ++ [Value.int y t] ∧ IntsAre us' ms := by
  induction ms generalizing us with
  | nil => obtain ⟨t, vs', rfl, h2⟩ := PyProof.Rows.IntsAre.cons_inv h; rw [PyProof.Rows.IntsAre.nil_inv h2]; exact ⟨[], t, rfl, .nil⟩
  | cons n ms ih =>
    obtain ⟨t, vs', rfl, h2⟩ := PyProof.Rows.IntsAre.cons_inv h
    obtain ⟨us', t', rfl, h3⟩ := ih h2
    exact ⟨Value.int n t :: us', t', rfl, .cons _ _ h3⟩
theorem mx_start {avs bvs : List Value} {as bs : List Int} {x : Int} {tx : Tok} (hi1 : IntsAre ((avs ++ [Value.int x tx]) ++ bvs) ((as ++ [x]) ++ bs)) :
    IntsAre ((avs ++ [Value.int x tx]) ++ bvs) (as ++ (x :: bs).take ((x :: bs).length - 0)) ∧ IntsAre [] ((x :: bs).drop ((x :: bs).length - 0)).reverse := by
  have e : as ++ (x :: bs).take ((x :: bs).length - 0) = as ++ [x] ++ bs := by simp
  have e2 : ((x :: bs).drop ((x :: bs).length - 0)).reverse = [] := by simp
  rw [e, e2]; exact ⟨hi1, .nil⟩
theorem mx_step {us ys : List Value} {as q : List Int} {i : Nat} (hi : i < q.length) (hu : IntsAre us (as ++ q.take (q.length - i))) (hy : IntsAre ys (q.drop (q.length - i)).reverse) :
    ∃ us' y t, us = us' ++ [Value.int y t] ∧ IntsAre us' (as ++ q.take (q.length - (i + 1))) ∧ IntsAre (ys ++ [Value.int y t]) (q.drop (q.length - (i + 1))).reverse := by
  obtain ⟨j, hj2⟩ : ∃ j, q.length - (i + 1) = j := ⟨_, rfl⟩
  have hj : q.length - i = j + 1 := (sb1 hi).trans (congrArg (· + 1) hj2)
  have hjl : j < q.length := hj2 ▸ Nat.sub_lt (Nat.lt_of_le_of_lt (Nat.zero_le _) hi) (Nat.succ_pos _)
  rw [hj2]
  rw [hj] at hu hy
  rw [List.take_add_one, List.getElem?_eq_getElem hjl, Option.toList_some, ← List.append_assoc] at hu
  obtain ⟨us', t, rfl, hu'⟩ := ints_snoc hu
  refine ⟨us', q[j], t, rfl, hu', ?_⟩
  rw [List.drop_eq_getElem_cons hjl, List.reverse_cons]
  exact ints_app hy (.cons _ _ .nil)
theorem mx_end {us ys : List Value} {as bs : List Int} {x : Int} {n : Nat} (hn : n = bs.length + 1) (hu : IntsAre us (as ++ (x :: bs).take ((x :: bs).length - n))) (hy : IntsAre ys ((x :: bs).drop ((x :: bs).length - n)).reverse) :
    IntsAre us as ∧ IntsAre ys (bs.reverse ++ [x]) := by
  subst hn
  have e1 : as ++ (x :: bs).take ((x :: bs).length - (bs.length + 1)) = as := by simp
  have e2 : ((x :: bs).drop ((x :: bs).length - (bs.length + 1))).reverse = bs.reverse ++ [x] := by simp
  rw [e1] at hu; rw [e2] at hy; exact ⟨hu, hy⟩
theorem mx_len {as bs : List Int} {x : Int} {n : Nat} (h : ((as.length + bs.length : Nat) : Int) < 11) : (((as ++ (x :: bs).take n).length : Nat) : Int) < 100 := by
  simp only [List.length_append, List.length_take, List.length_cons]; omega
theorem comp_inv {prog : Program} {w : World} {A : Around} {h₀ : Heap} {L : Addr} {m : Str → Option Value} {env : Env} {elt : Expr} {x : Str} {scope : Scope} {cl : List (Str × Addr)} {s : Shared} {S : List (Addr × Obj) → Prop} {P : Nat → Value → Prop} {Fin : List Value → List (Addr × Obj) → Prop} {news : List (Addr × Obj)} {n : Nat}
    (J : Nat → List Value → List (Addr × Obj) → Prop) (h0 : J 0 [] news)
    (turn : ∀ i ys nw v I oI C oC D m₂ h tk (E' : Value → Shared → Prop), i < n → P i v → J i ys nw → LCg.NsObj oC m₂ → m₂ x = some v → Fr h₀ L h m → News h₀ L h ((I, oI) :: (C, oC) :: (D, LCg.lst ys) :: nw) → LCg.Off3 I C D nw → ((@Ne Nat I C) ∧ (@Ne Nat I D) ∧ (@Ne Nat C D)) →
      wpAny (model prog w) A (eval elt (compEnvC scope cl C env)) (LCg.CompEnd h₀ L m { s with heap := h, toks := tk } I oI C oC D (LCg.lst ys) S (fun y nw' => J (i + 1) (ys ++ [y]) nw')) E' { s with heap := h, toks := tk })
    (fin : ∀ ys nw, J n ys nw → Fin ys nw) : LCg.CompRest prog w A h₀ L m env elt x scope cl s S P Fin n 0 [] news := by
  have key : ∀ (j i : Nat) (ys : List Value) (nw : List (Addr × Obj)), i + j = n → J i ys nw → LCg.CompRest prog w A h₀ L m env elt x scope cl s S P Fin j i ys nw := by
    intro j
    induction j with
    | zero => intro i ys nw hi hJ; have e : i = n := by omega
              subst e; exact LCg.CompRest.zero (fin ys nw hJ)
    | succ j ih =>
      intro i ys nw hi hJ
      refine LCg.CompRest.succ ?_
      intro v I oI C oC D m₂ h tk E' hv hC hx F N off ne
      refine wpAny_mono (turn i ys nw v I oI C oC D m₂ h tk E' (by omega) hv hJ hC hx F N off ne) (fun y s₂ hq => ?_) fun _ _ e => e
      obtain ⟨h', tk', nw', e, F', N', off', hS, hn⟩ := hq
      exact ⟨h', tk', nw', e, F', N', off', hS, ih (i + 1) _ _ (by omega) hn⟩
  exact key n 0 [] news (by omega) h0
section
variable {M : Model} {A : Around} {E : Value → Shared → Prop} {s' : Shared} {base g g₂ : Heap} {outer : List Env} {L a e : Addr} {m : Str → Option Value} {name : Str} {scope : Scope} {cd : Value} {Q : Unit → Shared → Prop} {news : List (Addr × Obj)} {cells : List (Str × Addr)}
theorem leave_onX {cls : Value} (K : Below A base outer g) (F : Fr g L g₂ m) (R : RaisedN base (envX name scope L a cd cells :: outer) e cls news s'.heap) (hsm : g₂.UpToSlots s'.heap)
    (hQ : ∀ h', RaisedN base outer e cls news h' → g.UpToSlots h' → Q () { s' with heap := h' }) :
    wpAny M (A.deeper (envX name scope L a cd cells)) (leaving (envX name scope L a cd cells) (.ref e)) Q E s' := by
  obtain ⟨B, a0, hB, hl, hfl⟩ := R
  exact wpAny_leaves_onW (Around.frames_deeper K.stack) rfl hfl fun h' x1 x2 => hQ h' ⟨B, a0, hB, hl, x1⟩ ((Heap.UpToSlots.of_keeps F.keep).trans (hsm.trans x2))
end
theorem range_take (l : List Int) : ∀ n, (List.range n).filterMap (fun k => l[k]?) = l.take n
  | 0 => by simp
  | n + 1 => by
    rw [List.range_succ, List.filterMap_append, range_take l n, List.take_add_one]
    congr 1
theorem mx_bounds (b : Nat) : sliceBounds (some (-2)) none (some (-1)) (b + 1) = ((b : Int) - 1, -1, -1) := by
  simp [sliceBounds]
  omega
theorem mx_pick (bs : List Int) (x : Int) : pickNums (bs.reverse ++ [x]) (some (-2)) none (some (-1)) = bs := by
  unfold pickNums
  rw [show (bs.reverse ++ [x]).length = bs.length + 1 by simp, mx_bounds]
  show (sliceRange ((bs.length : Int) - 1) (-1) (-1)).filterMap ((bs.reverse ++ [x])[·]?) = _
  rw [krv_sliceRange, krv_range, List.filterMap_reverse, range_take]
  rw [List.take_append_of_le_length (by simp)]
  rw [show bs.length = bs.reverse.length by simp, List.take_length, List.reverse_reverse]
section
variable {prog : Program} {w : World} {A : Around} {E : Value → Shared → Prop} {s : Shared} {h₀ : Heap} {L l : Addr} {m : Str → Option Value} {news : List (Addr × Obj)} {value slice : PySem.Expr} {vs : List Value} {bs : List Int} {x : Int} {va vk : Value} {ops : List Value} {Q : Value → Shared → Prop}
theorem mx_slice (F : Fr h₀ L s.heap m) (N : News h₀ L s.heap news) (hl : s.heap.IsList l vs.toArray) (pa : IsPart va (some (-2))) (pk : IsPart vk (some (-1))) (hi : IntsAre vs (bs.reverse ++ [x]))
    (h : ∀ D ws h', Fr h₀ L h' m → News h₀ L h' ((D, listOf (List.toArray ws) 0) :: news) → (∀ p ∈ news, p.1 < D) → IntsAre ws bs → Q (.ref D) { s with heap := h' })
    (hs : subscripted slice false (.ref l) (.ref s.heap.objs.size) = operate ops (getItem (.ref l) (.ref s.heap.objs.size))) (ht : ∀ r, letTemporaryGo value (.ref l) r = pure ()) (hz : vs.toArray.size ≤ sizeLine) :
    wpAny (model prog w) A (subscriptTail value slice (.ref l) (.ref s.heap.objs.size)) Q E { s with heap := s.heap.push { cls := .type "slice", data := .fields #[va, .none, vk] } } := by
  refine slice_list3 F N hl pa .none pk (by decide) (fun h' F' N' => h _ (slicePick vs.toArray (some (-2)) none (some (-1))).toList h' F' N' (fun p hp => Nat.lt_succ_of_lt (Heap.lt_size (N p hp).1)) ?_) hs ht hz
  have := hi.pick (some (-2)) none (some (-1))
  rw [mx_pick] at this; exact this
end
section
variable {prog : Program} {w : World} {A : Around} {E : Value → Shared → Prop} {s : Shared} {env : Env} {h₀ : Heap} {x : Str} {body : List Stmt} {Q : Flow → Shared → Prop}
theorem iter_mx {l : Addr} {vs : List Value} {ns : List Int} {nn : Nat} {m₀ : Str → Option Value} {news : List (Addr × Obj)} (J : Nat → List (Addr × Obj) → Prop)
    (hh : A.handled = none) (hl : (l, listOf vs.toArray nn) ∈ news) (hi : IntsAre vs ns) (F : Fr h₀ env.locals s.heap m₀) (N : News h₀ env.locals s.heap news) (hj : J 0 news)
    (turn : ∀ i n t nx h tk own, ns[i]? = some n → OwnOff own (news.map (·.1)) → J i nx → Fr h₀ env.locals h (fun y => if y = x then some (.int n t) else m₀ y) → News h₀ env.locals h (nx ++ own) →
      wpAny (model prog w) A (execs body env) (InvPostN h₀ env.locals (fun m' nx' => (l, listOf vs.toArray nn) ∈ nx' ∧ J (i + 1) nx' ∧ ∀ z, z ≠ x → m' z = m₀ z) own (news.map (·.1)) { s with heap := h, toks := tk } Q) E { s with heap := h, toks := tk })
    (done : ∀ (q : Str → Option Value) nx h tk, J ns.length nx → Fr h₀ env.locals h (fun z => if z = x then q z else m₀ z) → News h₀ env.locals h nx → Q .next { s with heap := h, toks := tk }) :
    wpAny (model prog w) A (pyIter (.ref l)) (fun it s₂ => LoopAtV prog w A h₀ env x body Q E it s₂) E s := by
  refine iter_invNL (fun i m nx => J i nx ∧ ∀ z, z ≠ x → m z = m₀ z) hh hl hi F N ⟨hj, fun _ _ => rfl⟩ ?_ ?_
  · rintro i n t m₁ nx h tk own hn _ hsep hm ⟨hJ, hm1⟩ F₁ N₁
    have e : (fun z => if z = x then some (Value.int n t) else m₁ z) = fun z => if z = x then some (Value.int n t) else m₀ z := by
      funext z
      by_cases h1 : z = x
      · simp [h1]
      · simp only [if_neg h1]; exact hm1 z h1
    rw [e] at F₁
    exact turn i n t nx h tk own hn hsep hJ F₁ N₁
  · rintro m₁ nx h tk _ ⟨hJ, hm1⟩ F₁ N₁
    refine done m₁ nx h tk hJ ?_ N₁
    have e : (fun z => if z = x then m₁ z else m₀ z) = m₁ := by
      funext z
      by_cases h1 : z = x
      · simp [h1]
      · simp only [if_neg h1]; exact (hm1 z h1).symm
    rw [e]; exact F₁
end
theorem off_join {rest own : List (Addr × Obj)} {adr : List Addr} {b : List Addr} (h : OwnOff rest b) (h2 : OwnOff own adr) (hs : ∀ a ∈ b, a ∈ adr) : OwnOff (rest ++ own) b := fun p hp c hc => by
  rcases List.mem_append.mp hp with hp | hp
  · exact h p hp c hc
  · exact h2 p hp c (hs c hc)
theorem mx_take {us : List Value} {as bs : List Int} {i : Nat} {n : Int} {t : Tok} (h : IntsAre us (as ++ bs.take i)) (hn : bs[i]? = some n) : IntsAre (us ++ [Value.int n t]) (as ++ bs.take (i + 1)) := by
  rw [List.take_add_one, hn, Option.toList_some, ← List.append_assoc]
  exact ints_app h (.cons _ _ .nil)
theorem mx_val {as bs : List Int} {x p : Int} (hp : p = bs.length + 1) : (as ++ [x] ++ bs).getD (Int.toNat (((as ++ [x] ++ bs).length : Int) - p)) 0 = x := by
  have e : Int.toNat (((as ++ [x] ++ bs).length : Int) - p) = as.length := by simp only [List.length_append, List.length_cons, List.length_nil]; omega
  rw [e, List.getD_eq_getElem?_getD, List.append_assoc, List.getElem?_append_right (Nat.le_refl _)]; simp
theorem allLt_mem {d : Addr} : ∀ {l : List (Addr × Obj)}, AllLt d l → ∀ p ∈ l, p.1 < d
  | [], _, _, h => nomatch h
  | _ :: _, x, p, h => by
    rcases List.mem_cons.mp h with rfl | h
    · exact x.1
    · exact allLt_mem x.2 p h
theorem mx_len2 {as bs : List Int} {i : Nat} (h : ((as.length + bs.length : Nat) : Int) < 11) : (((as ++ bs.take i).length : Nat) : Int) < 12 := by
  simp only [List.length_append, List.length_take]; omega
local macro_rules | `(tactic| walk_at $s:str) => `(tactic| k_extra $(Lean.Syntax.mkStrLit (s.getString ++ " #P12")))
theorem reg11 : True := by
  (k_with "leaving ref #P12" => first | ((k_here; (rename RaisedN _ _ _ _ _ _ => r9); (refine' leave_onX (by assumption) (by assumption) r9 (by assumption) ?_; k_whole; (k_extra "x_in1"; intro R'z9 U'z9); (try dsimp only at R'z9 U'z9 ⊢)))) | fail "no")
  (k_with "CompSrc #P12" => first | ((k_here; refine Stop.out ?_)) | fail "no")
  (k_with "CompEnd #P12" => first | ((refine Stop.out ?_)) | fail "no")
  (k_with "exec For Name Subscript cons nil #P12" => first | ((k_here; (rename Fr _ _ _ _ => lF'); (with_unfolding_all refine' For_invVF lF' (by exact rfl) (by exact rfl) ?_; k_whole))) | fail "no")
  (k_with "subscriptTail Name Slice ref ref #P12" => first | ((k_here; refine Stop.out ?_)) | fail "no")
  (k_with "pyIter ref #P12" => first | ((k_here; (with_reducible show wpAny _ _ (pyIter (Value.ref _)) (fun it s₂ => LoopAtV _ _ _ _ _ _ _ _ _ it s₂) _ _); refine Stop.out ?_)) | fail "no")
  (k_with "InvEndN #P12" => first | ((refine Stop.out ?_)) | fail "no")
  trivial
noncomputable def mindex_ok_S (w : World) (mean : ExcName → Option Value) (mg mb : Str → Option Value) (dp un : Nat) (gd : Option (List Code)) (cn : Str) (cs : Scope) (a : Addr) (ccd : Value) (cl : List (Str × Addr)) (outer : List Env) (A₀ : Around) (base h₀ : Heap) (L : Addr) (m : Str → Option Value) (s : Shared) (Q E : Value → Shared → Prop) (rest : List (Addr × Obj)) (W dW S dS nl cv sd G zn sc : Addr) (u : WTok) (t1 t2 tm : Tok) (ppem : Int) (vs cvs : List Value) (ns cns : List Int) (k kc : Nat) (sto : Obj) (x p : Int) (tx tp tc : Tok) (avs bvs : List Value) (as bs : List Int) (c : Int) : Prop := ∀ (B : Below A₀ base outer h₀) (F : Fr h₀ L s.heap m) (X : (lay.heap_1 w.params).In h₀) (N : News h₀ L s.heap ((W, instObj 476 dW) :: (dW, dictOf (WrkE w u G S zn cv sd sc ppem) 8) :: (S, instObj 425 dS) :: (dS, dictOf (StkE w t1 t2 tm nl) 2) :: (nl, listOf (((avs ++ [Value.int x tx]) ++ bvs) ++ [Value.int p tp]).toArray k) :: (cv, listOf cvs.toArray kc) :: (sd, sto) :: rest)) (T' : Top view (looseW view [Str.ofString "HintWork"]) mean mg mb h₀) (hk : cs.kind = .function) (hdp : dp + 6 < recursionLimit) (hun : un + 128 < cLine) (off : OwnOff rest [nl, dS, cv, sd]) (ap : Apart W dW S dS nl cv sd) (ha : IntsAre avs as) (hbs : IntsAre bvs bs) (hp : p = bs.length + 1) (hlen : ((as.length + bs.length : Nat) : Int) < 11)
   (hret : ∀ h' tk' vs' k', Fr h₀ L h' m → News h₀ L h' ((W, instObj 476 dW) :: (dW, dictOf (WrkE w u G S zn cv sd sc ppem) 8) :: (S, instObj 425 dS) :: (dS, dictOf (StkE w t1 t2 tm nl) 2) :: (nl, listOf vs'.toArray k') :: (cv, listOf cvs.toArray kc) :: (sd, sto) :: rest) → IntsAre vs' (as ++ bs ++ [x]) → Q .none { s with heap := h', toks := tk' }),
  wpAny (model PySem.Challenge.rw_on0247_01.row.toRowW.prog w) (ktrTop dp un gd cn cs L a ccd cl outer) (call (.ref 177) [.ref W, .int c tc]) Q E s
noncomputable def Lmindex_ok_S (p : Bag) : Prop := (mindex_ok_S (p.fWo 0) (p.fMe 0) (p.fM 0) (p.fM 1) (p.fN 0) (p.fN 1) (p.fGD 0) (p.fSt 0) (p.fSc 0) (p.fA 0) (p.fV 0) (p.fCL 0) (p.fEn 0) (p.fAr 0) (p.fH 0) (p.fH 1) (p.fA 1) (p.fM 2) (p.fSh 0) (p.fQ 0) (p.fQ 1) (p.fAO 0) (p.fA 2) (p.fA 3) (p.fA 4) (p.fA 5) (p.fA 6) (p.fA 7) (p.fA 8) (p.fA 9) (p.fA 10) (p.fA 11) (p.fU 0) (p.fT 0) (p.fT 1) (p.fT 2) (p.fI 0) (p.fVL 0) (p.fVL 1) (p.fIL 0) (p.fIL 1) (p.fN 2) (p.fN 3) (p.fO 0) (p.fI 1) (p.fI 2) (p.fT 3) (p.fT 4) (p.fT 5) (p.fVL 2) (p.fVL 3) (p.fIL 2) (p.fIL 3) (p.fI 3))
noncomputable def Lmindex_ok_c : Bag := skc Lmindex_ok_S
theorem mindex_ok_at : mindex_ok_S (Lmindex_ok_c.fWo 0) (Lmindex_ok_c.fMe 0) (Lmindex_ok_c.fM 0) (Lmindex_ok_c.fM 1) (Lmindex_ok_c.fN 0) (Lmindex_ok_c.fN 1) (Lmindex_ok_c.fGD 0) (Lmindex_ok_c.fSt 0) (Lmindex_ok_c.fSc 0) (Lmindex_ok_c.fA 0) (Lmindex_ok_c.fV 0) (Lmindex_ok_c.fCL 0) (Lmindex_ok_c.fEn 0) (Lmindex_ok_c.fAr 0) (Lmindex_ok_c.fH 0) (Lmindex_ok_c.fH 1) (Lmindex_ok_c.fA 1) (Lmindex_ok_c.fM 2) (Lmindex_ok_c.fSh 0) (Lmindex_ok_c.fQ 0) (Lmindex_ok_c.fQ 1) (Lmindex_ok_c.fAO 0) (Lmindex_ok_c.fA 2) (Lmindex_ok_c.fA 3) (Lmindex_ok_c.fA 4) (Lmindex_ok_c.fA 5) (Lmindex_ok_c.fA 6) (Lmindex_ok_c.fA 7) (Lmindex_ok_c.fA 8) (Lmindex_ok_c.fA 9) (Lmindex_ok_c.fA 10) (Lmindex_ok_c.fA 11) (Lmindex_ok_c.fU 0) (Lmindex_ok_c.fT 0) (Lmindex_ok_c.fT 1) (Lmindex_ok_c.fT 2) (Lmindex_ok_c.fI 0) (Lmindex_ok_c.fVL 0) (Lmindex_ok_c.fVL 1) (Lmindex_ok_c.fIL 0) (Lmindex_ok_c.fIL 1) (Lmindex_ok_c.fN 2) (Lmindex_ok_c.fN 3) (Lmindex_ok_c.fO 0) (Lmindex_ok_c.fI 1) (Lmindex_ok_c.fI 2) (Lmindex_ok_c.fT 3) (Lmindex_ok_c.fT 4) (Lmindex_ok_c.fT 5) (Lmindex_ok_c.fVL 2) (Lmindex_ok_c.fVL 3) (Lmindex_ok_c.fIL 2) (Lmindex_ok_c.fIL 3) (Lmindex_ok_c.fI 3) :=
  (by intro hz8; exact hz8 : (have hz8 : mindex_ok_S (Lmindex_ok_c.fWo 0) (Lmindex_ok_c.fMe 0) (Lmindex_ok_c.fM 0) (Lmindex_ok_c.fM 1) (Lmindex_ok_c.fN 0) (Lmindex_ok_c.fN 1) (Lmindex_ok_c.fGD 0) (Lmindex_ok_c.fSt 0) (Lmindex_ok_c.fSc 0) (Lmindex_ok_c.fA 0) (Lmindex_ok_c.fV 0) (Lmindex_ok_c.fCL 0) (Lmindex_ok_c.fEn 0) (Lmindex_ok_c.fAr 0) (Lmindex_ok_c.fH 0) (Lmindex_ok_c.fH 1) (Lmindex_ok_c.fA 1) (Lmindex_ok_c.fM 2) (Lmindex_ok_c.fSh 0) (Lmindex_ok_c.fQ 0) (Lmindex_ok_c.fQ 1) (Lmindex_ok_c.fAO 0) (Lmindex_ok_c.fA 2) (Lmindex_ok_c.fA 3) (Lmindex_ok_c.fA 4) (Lmindex_ok_c.fA 5) (Lmindex_ok_c.fA 6) (Lmindex_ok_c.fA 7) (Lmindex_ok_c.fA 8) (Lmindex_ok_c.fA 9) (Lmindex_ok_c.fA 10) (Lmindex_ok_c.fA 11) (Lmindex_ok_c.fU 0) (Lmindex_ok_c.fT 0) (Lmindex_ok_c.fT 1) (Lmindex_ok_c.fT 2) (Lmindex_ok_c.fI 0) (Lmindex_ok_c.fVL 0) (Lmindex_ok_c.fVL 1) (Lmindex_ok_c.fIL 0) (Lmindex_ok_c.fIL 1) (Lmindex_ok_c.fN 2) (Lmindex_ok_c.fN 3) (Lmindex_ok_c.fO 0) (Lmindex_ok_c.fI 1) (Lmindex_ok_c.fI 2) (Lmindex_ok_c.fT 3) (Lmindex_ok_c.fT 4) (Lmindex_ok_c.fT 5) (Lmindex_ok_c.fVL 2) (Lmindex_ok_c.fVL 3) (Lmindex_ok_c.fIL 2) (Lmindex_ok_c.fIL 3) (Lmindex_ok_c.fI 3) := (by
  refine (?layF0 : ∀ w mean mg mb dp un gd cn cs a ccd cl outer A₀ base h₀ L m s Q E rest W dW S dS nl cv sd G zn sc u t1 t2 tm ppem vs cvs ns cns k kc sto x p tx tp tc avs bvs as bs c, mindex_ok_S w mean mg mb dp un gd cn cs a ccd cl outer A₀ base h₀ L m s Q E rest W dW S dS nl cv sd G zn sc u t1 t2 tm ppem vs cvs ns cns k kc sto x p tx tp tc avs bvs as bs c) (Lmindex_ok_c.fWo 0) (Lmindex_ok_c.fMe 0) (Lmindex_ok_c.fM 0) (Lmindex_ok_c.fM 1) (Lmindex_ok_c.fN 0) (Lmindex_ok_c.fN 1) (Lmindex_ok_c.fGD 0) (Lmindex_ok_c.fSt 0) (Lmindex_ok_c.fSc 0) (Lmindex_ok_c.fA 0) (Lmindex_ok_c.fV 0) (Lmindex_ok_c.fCL 0) (Lmindex_ok_c.fEn 0) (Lmindex_ok_c.fAr 0) (Lmindex_ok_c.fH 0) (Lmindex_ok_c.fH 1) (Lmindex_ok_c.fA 1) (Lmindex_ok_c.fM 2) (Lmindex_ok_c.fSh 0) (Lmindex_ok_c.fQ 0) (Lmindex_ok_c.fQ 1) (Lmindex_ok_c.fAO 0) (Lmindex_ok_c.fA 2) (Lmindex_ok_c.fA 3) (Lmindex_ok_c.fA 4) (Lmindex_ok_c.fA 5) (Lmindex_ok_c.fA 6) (Lmindex_ok_c.fA 7) (Lmindex_ok_c.fA 8) (Lmindex_ok_c.fA 9) (Lmindex_ok_c.fA 10) (Lmindex_ok_c.fA 11) (Lmindex_ok_c.fU 0) (Lmindex_ok_c.fT 0) (Lmindex_ok_c.fT 1) (Lmindex_ok_c.fT 2) (Lmindex_ok_c.fI 0) (Lmindex_ok_c.fVL 0) (Lmindex_ok_c.fVL 1) (Lmindex_ok_c.fIL 0) (Lmindex_ok_c.fIL 1) (Lmindex_ok_c.fN 2) (Lmindex_ok_c.fN 3) (Lmindex_ok_c.fO 0) (Lmindex_ok_c.fI 1) (Lmindex_ok_c.fI 2) (Lmindex_ok_c.fT 3) (Lmindex_ok_c.fT 4) (Lmindex_ok_c.fT 5) (Lmindex_ok_c.fVL 2) (Lmindex_ok_c.fVL 3) (Lmindex_ok_c.fIL 2) (Lmindex_ok_c.fIL 3) (Lmindex_ok_c.fI 3)
  intro w mean mg mb dp un gd cn cs a ccd cl outer A₀ base h₀ L m s Q E rest W dW S dS nl cv sd G zn sc u t1 t2 tm ppem vs cvs ns cns k kc sto x p tx tp tc avs bvs as bs c B F X N T' hk hdp hun off ap ha hbs hp hlen hret
  have sken := sken
  obtain ⟨n_W_dW, n_W_S, n_W_dS, n_W_nl, n_W_cv, n_W_sd, n_dW_S, n_dW_dS, n_dW_nl, n_dW_cv, n_dW_sd, n_S_dS, n_S_nl, n_S_cv, n_S_sd, n_dS_nl, n_dS_cv, n_dS_sd, n_nl_cv, n_nl_sd, n_cv_sd⟩ := ap
  have hi0 : IntsAre (avs ++ [Value.int x tx]) (as ++ [x]) := ints_app ha (.cons _ _ .nil)
  have hi1 : IntsAre ((avs ++ [Value.int x tx]) ++ bvs) ((as ++ [x]) ++ bs) := ints_app hi0 hbs
  have hi2 : IntsAre (((avs ++ [Value.int x tx]) ++ bvs) ++ [Value.int p tp]) (((as ++ [x]) ++ bs) ++ [p]) := ints_app hi1 (.cons _ _ .nil)
  revert X; k_fill; intro X
  refine wpAny_call ?_
  k_dflt (refine' code_defC ?k1q7 ?k2q7 ?k3q7 ?k4q7 ?k5q7 ?kAq7 ?kFq7 ?kKq7 ?k6q7 ?k7q7 ?k8q7 ?k9q7 ?kBq7 ?kDq7 ?_ ?c2q7 ?c3q7 ?c4q7; (case kAq7 => exact rfl); (case kFq7 => exact rfl); (case kKq7 => assumption); (case k1q7 => k_asm); (case k2q7 => k_asm); (case k3q7 => k_asm); (case k4q7 => k_asm); (case k5q7 => k_asm); (case k6q7 => k_is); (case k7q7 => k_is); (case k8q7 => ktr_room); (case k9q7 => exact BindsTo.of_eq rfl); (case kBq7 => exact rfl); (case kDq7 => decide +kernel); (case c2q7 => exact rfl); (case c3q7 => exact rfl); (case c4q7 => exact rfl); k_whole)
  k_extra "x_ske5"
  intro FG' F' N' Y' B' X' T' l1
  (try k_lt l1)
  obtain ⟨oc, hEc, d1c⟩ := PyProof.Rows.CellsAre.one Y'
  subst hEc; clear Y'
  (try simp only [List.cons_append, List.nil_append] at N')
  (try dsimp only)
  (try k_lift B')
  (try k_extra "x_fold")
  have hpl : p.toNat = bs.length + 1 := by omega
  k_steps
  refine Stop.intro ?_
  refine LCg.CompSrc.range (by rfl) (by k_asm) (by k_asm) (by assumption) (small_one (by omega) (by omega) (by omega) (by omega)) (rangeSize_nat _ _) (by rw [PySem.sizeLine_eq]; omega) ?_
  intro g1
  refine comp_inv (fun i ys nw => ∃ us k9, nw = (L' + 1, oc) :: ((W, instObj 476 dW) :: (dW, dictOf (WrkE w u G S zn cv sd sc ppem) 8) :: (S, instObj 425 dS) :: (dS, dictOf (StkE w t1 t2 tm nl) 2) :: (nl, listOf us.toArray k9) :: (cv, listOf cvs.toArray kc) :: (sd, sto) :: rest) ∧ IntsAre us (as ++ (x :: bs).take ((x :: bs).length - i)) ∧ IntsAre ys ((x :: bs).drop ((x :: bs).length - i)).reverse) ?_ ?_ ?_
  · exact ⟨_, _, rfl, mx_start hi1⟩
  · rintro i ys nw v I oI C oC D m₂ h tk9 E9 hi9 ⟨t9, rfl⟩ ⟨us, k9, rfl, hu, hy⟩ hC9 hx9 F9 N9 off9 ne9
    have off8 := off9
    have nI9 : @Ne Nat nl I := off9.2.2.2.2.2.1.1
    have nC9 : @Ne Nat nl C := off9.2.2.2.2.2.1.2.1
    have nD9 : @Ne Nat nl D := off9.2.2.2.2.2.1.2.2
    simp only [LCg.Off3, and_true] at off9
    have hi8 : i < (x :: bs).length := by have h := hi9; rw [Int.sub_zero, hpl] at h; exact h
    obtain ⟨us', y, t8, rfl, hu', hy'⟩ := mx_step hi8 hu hy
    clear hu hy hi1 hi2
    have hl9 : (((as ++ (x :: bs).take ((x :: bs).length - (i + 1))).length : Nat) : Int) < 100 := mx_len hlen
    k_steps
    refine Stop.intro ?_
    exact LCg.CompEnd.intro (by k_asm) (by k_asm) ((L' + 1, oc) :: ((W, instObj 476 dW) :: (dW, dictOf (WrkE w u G S zn cv sd sc ppem) 8) :: (S, instObj 425 dS) :: (dS, dictOf (StkE w t1 t2 tm nl) 2) :: (nl, listOf us'.toArray (k9 + 1)) :: (cv, listOf cvs.toArray kc) :: (sd, sto) :: rest)) (fun p hp => hp) off8 trivial ⟨us', _, rfl, hu', hy'⟩
  · rintro ys nw ⟨us, k9, rfl, hu, hy⟩
    unfold LCg.FinA
    intro D h tk9 F9 N9 o9
    simp only [LCg.Off1, and_true] at o9
    obtain ⟨hu', hy'⟩ := mx_end (show (p - 0).toNat = bs.length + 1 by rw [Int.sub_zero, hpl]) hu hy
    clear hu hy hi1 hi2
    show wpAny _ _ (execs _ _) _ _ _
    k_steps
    refine Stop.intro ?_
    refine mx_slice (x := x) (bs := bs) (by k_asm) (by k_asm) (by kmk_list) (by exact IsPart.int _ _) (by exact IsPart.int _ _) hy' ?_ (by with_unfolding_all rfl) (by kmk_pure) (by kmk_size)
    intro D2 ws h2 F2 N2 l2 hI2
    (try k_lt l2)
    (try k_extra "x_fold")
    refine iter_mx (fun i nx => ∃ us2 k2, nx = (D2, listOf (List.toArray ws) 0) :: (D, LCg.lst ys) :: (L' + 1, oc) :: ((W, instObj 476 dW) :: (dW, dictOf (WrkE w u G S zn cv sd sc ppem) 8) :: (S, instObj 425 dS) :: (dS, dictOf (StkE w t1 t2 tm nl) 2) :: (nl, listOf us2.toArray k2) :: (cv, listOf cvs.toArray kc) :: (sd, sto) :: rest) ∧ IntsAre us2 (as ++ bs.take i)) (by rfl) (.head _) hI2 F2 N2 ⟨_, _, rfl, by rw [List.take_zero, List.append_nil]; exact hu'⟩ ?_ ?_
    · rintro i n t nx h3 tk3 own hn hoff ⟨us2, k2, rfl, hu2⟩ F3 N3
      simp only [List.cons_append] at N3
      have off3 : OwnOff (rest ++ own) [nl, dS, cv, sd] := off_join off hoff (by simp)
      obtain ⟨rest9, hr9⟩ : ∃ r, r = rest ++ own := ⟨_, rfl⟩
      rw [← hr9] at N3 off3
      have hl3 := mx_len2 (i := i) hlen
      k_steps
      refine Stop.intro ?_
      exact ⟨_, _, _, _, (D2, listOf (List.toArray ws) 0) :: (D, LCg.lst ys) :: (L' + 1, oc) :: ((W, instObj 476 dW) :: (dW, dictOf (WrkE w u G S zn cv sd sc ppem) 8) :: (S, instObj 425 dS) :: (dS, dictOf (StkE w t1 t2 tm nl) 2) :: (nl, listOf (us2 ++ [Value.int n t]).toArray (k2 + 1)) :: (cv, listOf cvs.toArray kc) :: (sd, sto) :: rest), rfl, by k_asm, by k_asm, fun p hp => by rw [hr9]; exact List.mem_append_left own hp, fun p hp => by rw [hr9]; exact List.mem_append_right ((D2, listOf (List.toArray ws) 0) :: (D, LCg.lst ys) :: (L' + 1, oc) :: ((W, instObj 476 dW) :: (dW, dictOf (WrkE w u G S zn cv sd sc ppem) 8) :: (S, instObj 425 dS) :: (dS, dictOf (StkE w t1 t2 tm nl) 2) :: (nl, listOf (us2 ++ [Value.int n t]).toArray (k2 + 1)) :: (cv, listOf cvs.toArray kc) :: (sd, sto) :: rest)) hp, rfl, ⟨.head _, ⟨_, _, rfl, mx_take hu2 hn⟩, fun z hz => if_neg hz⟩⟩
    · rintro q nx h3 tk3 ⟨us2, k2, rfl, hu2⟩ F3 N3
      rw [List.take_length] at hu2
      k_steps
      refine hret _ _ _ _ (by k_asm) (cb_drop (by assumption) (by kcj_all)) ?_
      exact ints_app hu2 (ints_one (mx_val hp))); mindex_ok_S (Lmindex_ok_c.fWo 0) (Lmindex_ok_c.fMe 0) (Lmindex_ok_c.fM 0) (Lmindex_ok_c.fM 1) (Lmindex_ok_c.fN 0) (Lmindex_ok_c.fN 1) (Lmindex_ok_c.fGD 0) (Lmindex_ok_c.fSt 0) (Lmindex_ok_c.fSc 0) (Lmindex_ok_c.fA 0) (Lmindex_ok_c.fV 0) (Lmindex_ok_c.fCL 0) (Lmindex_ok_c.fEn 0) (Lmindex_ok_c.fAr 0) (Lmindex_ok_c.fH 0) (Lmindex_ok_c.fH 1) (Lmindex_ok_c.fA 1) (Lmindex_ok_c.fM 2) (Lmindex_ok_c.fSh 0) (Lmindex_ok_c.fQ 0) (Lmindex_ok_c.fQ 1) (Lmindex_ok_c.fAO 0) (Lmindex_ok_c.fA 2) (Lmindex_ok_c.fA 3) (Lmindex_ok_c.fA 4) (Lmindex_ok_c.fA 5) (Lmindex_ok_c.fA 6) (Lmindex_ok_c.fA 7) (Lmindex_ok_c.fA 8) (Lmindex_ok_c.fA 9) (Lmindex_ok_c.fA 10) (Lmindex_ok_c.fA 11) (Lmindex_ok_c.fU 0) (Lmindex_ok_c.fT 0) (Lmindex_ok_c.fT 1) (Lmindex_ok_c.fT 2) (Lmindex_ok_c.fI 0) (Lmindex_ok_c.fVL 0) (Lmindex_ok_c.fVL 1) (Lmindex_ok_c.fIL 0) (Lmindex_ok_c.fIL 1) (Lmindex_ok_c.fN 2) (Lmindex_ok_c.fN 3) (Lmindex_ok_c.fO 0) (Lmindex_ok_c.fI 1) (Lmindex_ok_c.fI 2) (Lmindex_ok_c.fT 3) (Lmindex_ok_c.fT 4) (Lmindex_ok_c.fT 5) (Lmindex_ok_c.fVL 2) (Lmindex_ok_c.fVL 3) (Lmindex_ok_c.fIL 2) (Lmindex_ok_c.fIL 3) (Lmindex_ok_c.fI 3)))
theorem Lmindex_ok_all : ∀ p, Lmindex_ok_S p := sk (mindex_ok_at)
noncomputable def Lmindex_ok_bag (w : World) (mean : ExcName → Option Value) (mg mb : Str → Option Value) (dp un : Nat) (gd : Option (List Code)) (cn : Str) (cs : Scope) (a : Addr) (ccd : Value) (cl : List (Str × Addr)) (outer : List Env) (A₀ : Around) (base h₀ : Heap) (L : Addr) (m : Str → Option Value) (s : Shared) (Q E : Value → Shared → Prop) (rest : List (Addr × Obj)) (W dW S dS nl cv sd G zn sc : Addr) (u : WTok) (t1 t2 tm : Tok) (ppem : Int) (vs cvs : List Value) (ns cns : List Int) (k kc : Nat) (sto : Obj) (x p : Int) (tx tp tc : Tok) (avs bvs : List Value) (as bs : List Int) (c : Int) : Bag := ⟨fun ix9 => [a, L, W, dW, S, dS, nl, cv, sd, G, zn, sc].getD ix9 (bag0.fA 0), fun ix9 => [t1, t2, tm, tx, tp, tc].getD ix9 (bag0.fT 0), fun ix9 => [ppem, x, p, c].getD ix9 (bag0.fI 0), fun ix9 => [dp, un, k, kc].getD ix9 (bag0.fN 0), fun ix9 => [ccd].getD ix9 (bag0.fV 0), fun ix9 => [sto].getD ix9 (bag0.fO 0), fun ix9 => [vs, cvs, avs, bvs].getD ix9 (bag0.fVL 0), fun ix9 => [ns, cns, as, bs].getD ix9 (bag0.fIL 0), fun ix9 => [].getD ix9 (bag0.fKV 0), fun ix9 => [].getD ix9 (bag0.fKI 0), fun ix9 => [rest].getD ix9 (bag0.fAO 0), fun ix9 => [u].getD ix9 (bag0.fU 0), fun ix9 => [].getD ix9 (bag0.fG 0), fun ix9 => [].getD ix9 (bag0.fPr 0), fun ix9 => [].getD ix9 (bag0.fEv 0), fun ix9 => [].getD ix9 (bag0.fSs 0), fun ix9 => [].getD ix9 (bag0.fEx 0), fun ix9 => [].getD ix9 (bag0.fQF 0), fun ix9 => [].getD ix9 (bag0.fJ 0), fun ix9 => [w].getD ix9 (bag0.fWo 0), fun ix9 => [mean].getD ix9 (bag0.fMe 0), fun ix9 => [mg, mb, m].getD ix9 (bag0.fM 0), fun ix9 => [gd].getD ix9 (bag0.fGD 0), fun ix9 => [cn].getD ix9 (bag0.fSt 0), fun ix9 => [cs].getD ix9 (bag0.fSc 0), fun ix9 => [cl].getD ix9 (bag0.fCL 0), fun ix9 => [outer].getD ix9 (bag0.fEn 0), fun ix9 => [A₀].getD ix9 (bag0.fAr 0), fun ix9 => [base, h₀].getD ix9 (bag0.fH 0), fun ix9 => [s].getD ix9 (bag0.fSh 0), fun ix9 => [Q, E].getD ix9 (bag0.fQ 0)⟩
theorem mindex_ok {w mean mg mb dp un gd cn cs a ccd cl outer A₀ base h₀ L m s Q E rest W dW S dS nl cv sd G zn sc u t1 t2 tm ppem vs cvs ns cns k kc sto x p tx tp tc avs bvs as bs c} : mindex_ok_S w mean mg mb dp un gd cn cs a ccd cl outer A₀ base h₀ L m s Q E rest W dW S dS nl cv sd G zn sc u t1 t2 tm ppem vs cvs ns cns k kc sto x p tx tp tc avs bvs as bs c := Lmindex_ok_all (Lmindex_ok_bag w mean mg mb dp un gd cn cs a ccd cl outer A₀ base h₀ L m s Q E rest W dW S dS nl cv sd G zn sc u t1 t2 tm ppem vs cvs ns cns k kc sto x p tx tp tc avs bvs as bs c)
noncomputable def mindex_bad_S (w : World) (mean : ExcName → Option Value) (mg mb : Str → Option Value) (dp un : Nat) (gd : Option (List Code)) (cn : Str) (cs : Scope) (a : Addr) (ccd : Value) (cl : List (Str × Addr)) (outer : List Env) (A₀ : Around) (base h₀ : Heap) (L : Addr) (m : Str → Option Value) (s : Shared) (Q E : Value → Shared → Prop) (rest : List (Addr × Obj)) (W dW S dS nl cv sd G zn sc : Addr) (u : WTok) (t1 t2 tm : Tok) (ppem : Int) (vs cvs : List Value) (ns cns : List Int) (k kc : Nat) (sto : Obj) (p : Int) (tp tc : Tok) (c : Int) : Prop := ∀ (B : Below A₀ base outer h₀) (F : Fr h₀ L s.heap m) (X : (lay.heap_1 w.params).In h₀) (N : News h₀ L s.heap ((W, instObj 476 dW) :: (dW, dictOf (WrkE w u G S zn cv sd sc ppem) 8) :: (S, instObj 425 dS) :: (dS, dictOf (StkE w t1 t2 tm nl) 2) :: (nl, listOf (vs ++ [Value.int p tp]).toArray k) :: (cv, listOf cvs.toArray kc) :: (sd, sto) :: rest)) (T' : Top view (looseW view [Str.ofString "HintWork"]) mean mg mb h₀) (hk : cs.kind = .function) (hdp : dp + 6 < recursionLimit) (hun : un + 128 < cLine) (off : OwnOff rest [nl, dS, cv, sd]) (ap : Apart W dW S dS nl cv sd) (hi : IntsAre vs ns) (hlen : (ns.length : Int) < 90) (hb : p < 10 ^ 10) (hb2 : -(10 ^ 10) < p) (h1 : ¬ (1 ≤ p ∧ p ≤ ns.length))
   (hexc : ∀ e h' tk' g₂, RaisedN base (envX cn cs L a ccd cl :: outer) e (.ref 51) ((W, instObj 476 dW) :: (dW, dictOf (WrkE w u G S zn cv sd sc ppem) 8) :: (S, instObj 425 dS) :: (dS, dictOf (StkE w t1 t2 tm nl) 2) :: (cv, listOf cvs.toArray kc) :: (sd, sto) :: rest) h' → g₂.UpToSlots h' → Fr h₀ L g₂ m → E (.ref e) { s with heap := h', toks := tk' }),
  wpAny (model PySem.Challenge.rw_on0247_01.row.toRowW.prog w) (ktrTop dp un gd cn cs L a ccd cl outer) (call (.ref 177) [.ref W, .int c tc]) Q E s
noncomputable def Lmindex_bad_S (p : Bag) : Prop := (mindex_bad_S (p.fWo 0) (p.fMe 0) (p.fM 0) (p.fM 1) (p.fN 0) (p.fN 1) (p.fGD 0) (p.fSt 0) (p.fSc 0) (p.fA 0) (p.fV 0) (p.fCL 0) (p.fEn 0) (p.fAr 0) (p.fH 0) (p.fH 1) (p.fA 1) (p.fM 2) (p.fSh 0) (p.fQ 0) (p.fQ 1) (p.fAO 0) (p.fA 2) (p.fA 3) (p.fA 4) (p.fA 5) (p.fA 6) (p.fA 7) (p.fA 8) (p.fA 9) (p.fA 10) (p.fA 11) (p.fU 0) (p.fT 0) (p.fT 1) (p.fT 2) (p.fI 0) (p.fVL 0) (p.fVL 1) (p.fIL 0) (p.fIL 1) (p.fN 2) (p.fN 3) (p.fO 0) (p.fI 1) (p.fT 3) (p.fT 4) (p.fI 2))
noncomputable def Lmindex_bad_c : Bag := skc Lmindex_bad_S
theorem mindex_bad_at : mindex_bad_S (Lmindex_bad_c.fWo 0) (Lmindex_bad_c.fMe 0) (Lmindex_bad_c.fM 0) (Lmindex_bad_c.fM 1) (Lmindex_bad_c.fN 0) (Lmindex_bad_c.fN 1) (Lmindex_bad_c.fGD 0) (Lmindex_bad_c.fSt 0) (Lmindex_bad_c.fSc 0) (Lmindex_bad_c.fA 0) (Lmindex_bad_c.fV 0) (Lmindex_bad_c.fCL 0) (Lmindex_bad_c.fEn 0) (Lmindex_bad_c.fAr 0) (Lmindex_bad_c.fH 0) (Lmindex_bad_c.fH 1) (Lmindex_bad_c.fA 1) (Lmindex_bad_c.fM 2) (Lmindex_bad_c.fSh 0) (Lmindex_bad_c.fQ 0) (Lmindex_bad_c.fQ 1) (Lmindex_bad_c.fAO 0) (Lmindex_bad_c.fA 2) (Lmindex_bad_c.fA 3) (Lmindex_bad_c.fA 4) (Lmindex_bad_c.fA 5) (Lmindex_bad_c.fA 6) (Lmindex_bad_c.fA 7) (Lmindex_bad_c.fA 8) (Lmindex_bad_c.fA 9) (Lmindex_bad_c.fA 10) (Lmindex_bad_c.fA 11) (Lmindex_bad_c.fU 0) (Lmindex_bad_c.fT 0) (Lmindex_bad_c.fT 1) (Lmindex_bad_c.fT 2) (Lmindex_bad_c.fI 0) (Lmindex_bad_c.fVL 0) (Lmindex_bad_c.fVL 1) (Lmindex_bad_c.fIL 0) (Lmindex_bad_c.fIL 1) (Lmindex_bad_c.fN 2) (Lmindex_bad_c.fN 3) (Lmindex_bad_c.fO 0) (Lmindex_bad_c.fI 1) (Lmindex_bad_c.fT 3) (Lmindex_bad_c.fT 4) (Lmindex_bad_c.fI 2) :=
  (by intro hz8; exact hz8 : (have hz8 : mindex_bad_S (Lmindex_bad_c.fWo 0) (Lmindex_bad_c.fMe 0) (Lmindex_bad_c.fM 0) (Lmindex_bad_c.fM 1) (Lmindex_bad_c.fN 0) (Lmindex_bad_c.fN 1) (Lmindex_bad_c.fGD 0) (Lmindex_bad_c.fSt 0) (Lmindex_bad_c.fSc 0) (Lmindex_bad_c.fA 0) (Lmindex_bad_c.fV 0) (Lmindex_bad_c.fCL 0) (Lmindex_bad_c.fEn 0) (Lmindex_bad_c.fAr 0) (Lmindex_bad_c.fH 0) (Lmindex_bad_c.fH 1) (Lmindex_bad_c.fA 1) (Lmindex_bad_c.fM 2) (Lmindex_bad_c.fSh 0) (Lmindex_bad_c.fQ 0) (Lmindex_bad_c.fQ 1) (Lmindex_bad_c.fAO 0) (Lmindex_bad_c.fA 2) (Lmindex_bad_c.fA 3) (Lmindex_bad_c.fA 4) (Lmindex_bad_c.fA 5) (Lmindex_bad_c.fA 6) (Lmindex_bad_c.fA 7) (Lmindex_bad_c.fA 8) (Lmindex_bad_c.fA 9) (Lmindex_bad_c.fA 10) (Lmindex_bad_c.fA 11) (Lmindex_bad_c.fU 0) (Lmindex_bad_c.fT 0) (Lmindex_bad_c.fT 1) (Lmindex_bad_c.fT 2) (Lmindex_bad_c.fI 0) (Lmindex_bad_c.fVL 0) (Lmindex_bad_c.fVL 1) (Lmindex_bad_c.fIL 0) (Lmindex_bad_c.fIL 1) (Lmindex_bad_c.fN 2) (Lmindex_bad_c.fN 3) (Lmindex_bad_c.fO 0) (Lmindex_bad_c.fI 1) (Lmindex_bad_c.fT 3) (Lmindex_bad_c.fT 4) (Lmindex_bad_c.fI 2) := (by
  refine (?layF0 : ∀ w mean mg mb dp un gd cn cs a ccd cl outer A₀ base h₀ L m s Q E rest W dW S dS nl cv sd G zn sc u t1 t2 tm ppem vs cvs ns cns k kc sto p tp tc c, mindex_bad_S w mean mg mb dp un gd cn cs a ccd cl outer A₀ base h₀ L m s Q E rest W dW S dS nl cv sd G zn sc u t1 t2 tm ppem vs cvs ns cns k kc sto p tp tc c) (Lmindex_bad_c.fWo 0) (Lmindex_bad_c.fMe 0) (Lmindex_bad_c.fM 0) (Lmindex_bad_c.fM 1) (Lmindex_bad_c.fN 0) (Lmindex_bad_c.fN 1) (Lmindex_bad_c.fGD 0) (Lmindex_bad_c.fSt 0) (Lmindex_bad_c.fSc 0) (Lmindex_bad_c.fA 0) (Lmindex_bad_c.fV 0) (Lmindex_bad_c.fCL 0) (Lmindex_bad_c.fEn 0) (Lmindex_bad_c.fAr 0) (Lmindex_bad_c.fH 0) (Lmindex_bad_c.fH 1) (Lmindex_bad_c.fA 1) (Lmindex_bad_c.fM 2) (Lmindex_bad_c.fSh 0) (Lmindex_bad_c.fQ 0) (Lmindex_bad_c.fQ 1) (Lmindex_bad_c.fAO 0) (Lmindex_bad_c.fA 2) (Lmindex_bad_c.fA 3) (Lmindex_bad_c.fA 4) (Lmindex_bad_c.fA 5) (Lmindex_bad_c.fA 6) (Lmindex_bad_c.fA 7) (Lmindex_bad_c.fA 8) (Lmindex_bad_c.fA 9) (Lmindex_bad_c.fA 10) (Lmindex_bad_c.fA 11) (Lmindex_bad_c.fU 0) (Lmindex_bad_c.fT 0) (Lmindex_bad_c.fT 1) (Lmindex_bad_c.fT 2) (Lmindex_bad_c.fI 0) (Lmindex_bad_c.fVL 0) (Lmindex_bad_c.fVL 1) (Lmindex_bad_c.fIL 0) (Lmindex_bad_c.fIL 1) (Lmindex_bad_c.fN 2) (Lmindex_bad_c.fN 3) (Lmindex_bad_c.fO 0) (Lmindex_bad_c.fI 1) (Lmindex_bad_c.fT 3) (Lmindex_bad_c.fT 4) (Lmindex_bad_c.fI 2)
  intro w mean mg mb dp un gd cn cs a ccd cl outer A₀ base h₀ L m s Q E rest W dW S dS nl cv sd G zn sc u t1 t2 tm ppem vs cvs ns cns k kc sto p tp tc c B F X N T' hk hdp hun off ap hi hlen hb hb2 h1 hexc
  have sken := sken
  obtain ⟨n_W_dW, n_W_S, n_W_dS, n_W_nl, n_W_cv, n_W_sd, n_dW_S, n_dW_dS, n_dW_nl, n_dW_cv, n_dW_sd, n_S_dS, n_S_nl, n_S_cv, n_S_sd, n_dS_nl, n_dS_cv, n_dS_sd, n_nl_cv, n_nl_sd, n_cv_sd⟩ := ap
  have hi0 : IntsAre (vs ++ [Value.int p tp]) (ns ++ [p]) := ints_app hi (.cons _ _ .nil)
  revert X; k_fill; intro X
  refine wpAny_call ?_
  k_dflt (refine' code_defC ?k1q7 ?k2q7 ?k3q7 ?k4q7 ?k5q7 ?kAq7 ?kFq7 ?kKq7 ?k6q7 ?k7q7 ?k8q7 ?k9q7 ?kBq7 ?kDq7 ?_ ?c2q7 ?c3q7 ?c4q7; (case kAq7 => exact rfl); (case kFq7 => exact rfl); (case kKq7 => assumption); (case k1q7 => k_asm); (case k2q7 => k_asm); (case k3q7 => k_asm); (case k4q7 => k_asm); (case k5q7 => k_asm); (case k6q7 => k_is); (case k7q7 => k_is); (case k8q7 => ktr_room); (case k9q7 => exact BindsTo.of_eq rfl); (case kBq7 => exact rfl); (case kDq7 => decide +kernel); (case c2q7 => exact rfl); (case c3q7 => exact rfl); (case c4q7 => exact rfl); k_whole)
  k_extra "x_ske5"
  intro FG' F' N' Y' B' X' T' l1
  (try k_lt l1)
  obtain ⟨oc, hEc, d1c⟩ := PyProof.Rows.CellsAre.one Y'
  subst hEc; clear Y'
  (try simp only [List.cons_append, List.nil_append] at N')
  (try dsimp only)
  (try k_lift B')
  (try k_extra "x_fold")
  k_steps
  all_goals (first | exact hexc _ _ _ _ (raised_sub (by assumption) (by kcj_all)) (by assumption) (by assumption))); mindex_bad_S (Lmindex_bad_c.fWo 0) (Lmindex_bad_c.fMe 0) (Lmindex_bad_c.fM 0) (Lmindex_bad_c.fM 1) (Lmindex_bad_c.fN 0) (Lmindex_bad_c.fN 1) (Lmindex_bad_c.fGD 0) (Lmindex_bad_c.fSt 0) (Lmindex_bad_c.fSc 0) (Lmindex_bad_c.fA 0) (Lmindex_bad_c.fV 0) (Lmindex_bad_c.fCL 0) (Lmindex_bad_c.fEn 0) (Lmindex_bad_c.fAr 0) (Lmindex_bad_c.fH 0) (Lmindex_bad_c.fH 1) (Lmindex_bad_c.fA 1) (Lmindex_bad_c.fM 2) (Lmindex_bad_c.fSh 0) (Lmindex_bad_c.fQ 0) (Lmindex_bad_c.fQ 1) (Lmindex_bad_c.fAO 0) (Lmindex_bad_c.fA 2) (Lmindex_bad_c.fA 3) (Lmindex_bad_c.fA 4) (Lmindex_bad_c.fA 5) (Lmindex_bad_c.fA 6) (Lmindex_bad_c.fA 7) (Lmindex_bad_c.fA 8) (Lmindex_bad_c.fA 9) (Lmindex_bad_c.fA 10) (Lmindex_bad_c.fA 11) (Lmindex_bad_c.fU 0) (Lmindex_bad_c.fT 0) (Lmindex_bad_c.fT 1) (Lmindex_bad_c.fT 2) (Lmindex_bad_c.fI 0) (Lmindex_bad_c.fVL 0) (Lmindex_bad_c.fVL 1) (Lmindex_bad_c.fIL 0) (Lmindex_bad_c.fIL 1) (Lmindex_bad_c.fN 2) (Lmindex_bad_c.fN 3) (Lmindex_bad_c.fO 0) (Lmindex_bad_c.fI 1) (Lmindex_bad_c.fT 3) (Lmindex_bad_c.fT 4) (Lmindex_bad_c.fI 2)))
theorem Lmindex_bad_all : ∀ p, Lmindex_bad_S p := sk (mindex_bad_at)
noncomputable def Lmindex_bad_bag (w : World) (mean : ExcName → Option Value) (mg mb : Str → Option Value) (dp un : Nat) (gd : Option (List Code)) (cn : Str) (cs : Scope) (a : Addr) (ccd : Value) (cl : List (Str × Addr)) (outer : List Env) (A₀ : Around) (base h₀ : Heap) (L : Addr) (m : Str → Option Value) (s : Shared) (Q E : Value → Shared → Prop) (rest : List (Addr × Obj)) (W dW S dS nl cv sd G zn sc : Addr) (u : WTok) (t1 t2 tm : Tok) (ppem : Int) (vs cvs : List Value) (ns cns : List Int) (k kc : Nat) (sto : Obj) (p : Int) (tp tc : Tok) (c : Int) : Bag := ⟨fun ix9 => [a, L, W, dW, S, dS, nl, cv, sd, G, zn, sc].getD ix9 (bag0.fA 0), fun ix9 => [t1, t2, tm, tp, tc].getD ix9 (bag0.fT 0), fun ix9 => [ppem, p, c].getD ix9 (bag0.fI 0), fun ix9 => [dp, un, k, kc].getD ix9 (bag0.fN 0), fun ix9 => [ccd].getD ix9 (bag0.fV 0), fun ix9 => [sto].getD ix9 (bag0.fO 0), fun ix9 => [vs, cvs].getD ix9 (bag0.fVL 0), fun ix9 => [ns, cns].getD ix9 (bag0.fIL 0), fun ix9 => [].getD ix9 (bag0.fKV 0), fun ix9 => [].getD ix9 (bag0.fKI 0), fun ix9 => [rest].getD ix9 (bag0.fAO 0), fun ix9 => [u].getD ix9 (bag0.fU 0), fun ix9 => [].getD ix9 (bag0.fG 0), fun ix9 => [].getD ix9 (bag0.fPr 0), fun ix9 => [].getD ix9 (bag0.fEv 0), fun ix9 => [].getD ix9 (bag0.fSs 0), fun ix9 => [].getD ix9 (bag0.fEx 0), fun ix9 => [].getD ix9 (bag0.fQF 0), fun ix9 => [].getD ix9 (bag0.fJ 0), fun ix9 => [w].getD ix9 (bag0.fWo 0), fun ix9 => [mean].getD ix9 (bag0.fMe 0), fun ix9 => [mg, mb, m].getD ix9 (bag0.fM 0), fun ix9 => [gd].getD ix9 (bag0.fGD 0), fun ix9 => [cn].getD ix9 (bag0.fSt 0), fun ix9 => [cs].getD ix9 (bag0.fSc 0), fun ix9 => [cl].getD ix9 (bag0.fCL 0), fun ix9 => [outer].getD ix9 (bag0.fEn 0), fun ix9 => [A₀].getD ix9 (bag0.fAr 0), fun ix9 => [base, h₀].getD ix9 (bag0.fH 0), fun ix9 => [s].getD ix9 (bag0.fSh 0), fun ix9 => [Q, E].getD ix9 (bag0.fQ 0)⟩
theorem mindex_bad {w mean mg mb dp un gd cn cs a ccd cl outer A₀ base h₀ L m s Q E rest W dW S dS nl cv sd G zn sc u t1 t2 tm ppem vs cvs ns cns k kc sto p tp tc c} : mindex_bad_S w mean mg mb dp un gd cn cs a ccd cl outer A₀ base h₀ L m s Q E rest W dW S dS nl cv sd G zn sc u t1 t2 tm ppem vs cvs ns cns k kc sto p tp tc c := Lmindex_bad_all (Lmindex_bad_bag w mean mg mb dp un gd cn cs a ccd cl outer A₀ base h₀ L m s Q E rest W dW S dS nl cv sd G zn sc u t1 t2 tm ppem vs cvs ns cns k kc sto p tp tc c)
theorem mindex_no {w : World} {mean : ExcName → Option Value} {mg mb : Str → Option Value} {dp un : Nat} {gd : Option (List Code)} {cn : Str} {cs : Scope} {a : Addr} {ccd : Value} {cl : List (Str × Addr)} {outer : List Env} {A₀ : Around} {base h₀ : Heap} {L : Addr} {m : Str → Option Value} {s : Shared} {Q E : Value → Shared → Prop}
   {rest : List (Addr × Obj)} {W dW S dS nl cv sd G zn sc : Addr} {u : WTok} {t1 t2 tm : Tok} {ppem : Int} {vs cvs : List Value} {ns cns : List Int} {k kc : Nat} {sto : Obj}  {tc : Tok} {c : Int}
   (B : Below A₀ base outer h₀) (F : Fr h₀ L s.heap m) (X : (lay.heap_1 w.params).In h₀) (N : News h₀ L s.heap ((W, instObj 476 dW) :: (dW, dictOf (WrkE w u G S zn cv sd sc ppem) 8) :: (S, instObj 425 dS) :: (dS, dictOf (StkE w t1 t2 tm nl) 2) :: (nl, listOf ([] : List Value).toArray k) :: (cv, listOf cvs.toArray kc) :: (sd, sto) :: rest)) (T' : Top view (looseW view [Str.ofString "HintWork"]) mean mg mb h₀) (hk : cs.kind = .function) (hdp : dp + 6 < recursionLimit) (hun : un + 128 < cLine) (off : OwnOff rest [nl, dS, cv, sd])
   (ap : Apart W dW S dS nl cv sd) (hi : IntsAre vs ns) 
   (hexc : ∀ e h' tk' g₂, RaisedN base (envX cn cs L a ccd cl :: outer) e (.ref 51) ((W, instObj 476 dW) :: (dW, dictOf (WrkE w u G S zn cv sd sc ppem) 8) :: (S, instObj 425 dS) :: (dS, dictOf (StkE w t1 t2 tm nl) 2) :: (cv, listOf cvs.toArray kc) :: (sd, sto) :: rest) h' → g₂.UpToSlots h' → Fr h₀ L g₂ m → E (.ref e) { s with heap := h', toks := tk' }) :
   wpAny (model PySem.Challenge.rw_on0247_01.row.toRowW.prog w) (ktrTop dp un gd cn cs L a ccd cl outer) (call (.ref 177) [.ref W, .int c tc]) Q E s :=
  (by intro hz8; exact hz8 : (have hz8 : wpAny (model PySem.Challenge.rw_on0247_01.row.toRowW.prog w) (ktrTop dp un gd cn cs L a ccd cl outer) (call (.ref 177) [.ref W, .int c tc]) Q E s := (by
  obtain ⟨n_W_dW, n_W_S, n_W_dS, n_W_nl, n_W_cv, n_W_sd, n_dW_S, n_dW_dS, n_dW_nl, n_dW_cv, n_dW_sd, n_S_dS, n_S_nl, n_S_cv, n_S_sd, n_dS_nl, n_dS_cv, n_dS_sd, n_nl_cv, n_nl_sd, n_cv_sd⟩ := ap
  revert X; k_fill; intro X
  refine wpAny_call ?_
  k_dflt (refine' code_defC ?k1q7 ?k2q7 ?k3q7 ?k4q7 ?k5q7 ?kAq7 ?kFq7 ?kKq7 ?k6q7 ?k7q7 ?k8q7 ?k9q7 ?kBq7 ?kDq7 ?_ ?c2q7 ?c3q7 ?c4q7; (case kAq7 => exact rfl); (case kFq7 => exact rfl); (case kKq7 => assumption); (case k1q7 => k_asm); (case k2q7 => k_asm); (case k3q7 => k_asm); (case k4q7 => k_asm); (case k5q7 => k_asm); (case k6q7 => k_is); (case k7q7 => k_is); (case k8q7 => ktr_room); (case k9q7 => exact BindsTo.of_eq rfl); (case kBq7 => exact rfl); (case kDq7 => decide +kernel); (case c2q7 => exact rfl); (case c3q7 => exact rfl); (case c4q7 => exact rfl); k_whole)
  k_extra "x_ske5"
  intro FG' F' N' Y' B' X' T' l1
  (try k_lt l1)
  obtain ⟨oc, hEc, d1c⟩ := PyProof.Rows.CellsAre.one Y'
  subst hEc; clear Y'
  (try simp only [List.cons_append, List.nil_append] at N')
  (try dsimp only)
  (try k_lift B')
  (try k_extra "x_fold")
  k_steps
  all_goals (first | exact hexc _ _ _ _ (raised_sub (by assumption) (by kcj_all)) (by assumption) (by assumption))); wpAny (model PySem.Challenge.rw_on0247_01.row.toRowW.prog w) (ktrTop dp un gd cn cs L a ccd cl outer) (call (.ref 177) [.ref W, .int c tc]) Q E s))
theorem clear2F {w : World} {mean : ExcName → Option Value} {mg mb : Str → Option Value} {dp un : Nat} {gd : Option (List Code)} {cn : Str} {cs : Scope} {a : Addr} {ccd : Value} {cl : List (Str × Addr)} {outer : List Env} {A₀ : Around} {base h₀ : Heap} {L : Addr} {m : Str → Option Value} {s : Shared} {Q E : Value → Shared → Prop}
   {rest : List (Addr × Obj)} {S dS nl : Addr} {t1 t2 tm : Tok}
   (B : Below A₀ base outer h₀) (F : Fr h₀ L s.heap m) (X : (lay.heap_1 w.params).In h₀) (N : News h₀ L s.heap ((S, instObj 425 dS) :: (dS, dictOf (StkE w t1 t2 tm nl) 2) :: rest)) (T' : Top view (looseW view [Str.ofString "HintWork"]) mean mg mb h₀) (hk : cs.kind = .function) (hdp : dp + 3 < recursionLimit) (hun : un + 104 < cLine) (off : OwnOff rest [dS])
   (nSd : @Ne Nat S dS) (hret : ∀ h' tk' nl', Fr h₀ L h' m → News h₀ L h' ((nl', listOf ([] : List Value).toArray 0) :: (S, instObj 425 dS) :: (dS, dictOf (StkE w t1 t2 tm nl') 2) :: rest) → (@LT.lt Nat _ S nl' ∧ @LT.lt Nat _ dS nl' ∧ AllLt nl' rest) → Q .none { s with heap := h', toks := tk' }) :
   wpAny (model PySem.Challenge.rw_on0247_01.row.toRowW.prog w) (ktrTop dp un gd cn cs L a ccd cl outer) (call (.ref 422) [.ref S]) Q E s :=
  (by intro hz8; exact hz8 : (have hz8 : wpAny (model PySem.Challenge.rw_on0247_01.row.toRowW.prog w) (ktrTop dp un gd cn cs L a ccd cl outer) (call (.ref 422) [.ref S]) Q E s := (by
  revert X; k_fill; intro X
  refine wpAny_call ?_
  k_extra "x_enterF"
  k_steps
  exact hret _ _ _ (by k_asm) (by k_asm) (by k_asm)); wpAny (model PySem.Challenge.rw_on0247_01.row.toRowW.prog w) (ktrTop dp un gd cn cs L a ccd cl outer) (call (.ref 422) [.ref S]) Q E s))
theorem clear2 {w : World} {mean : ExcName → Option Value} {mg mb : Str → Option Value} {dp un : Nat} {gd : Option (List Code)} {cn : Str} {cs : Scope} {a : Addr} {ccd : Value} {cl : List (Str × Addr)} {outer : List Env} {A₀ : Around} {base h₀ : Heap} {L : Addr} {m : Str → Option Value} {s : Shared} {Q E : Value → Shared → Prop}
   {news : List (Addr × Obj)} {g : Obj → List (Addr × Obj)} {S dS nl : Addr} {t1 t2 tm : Tok}
   (B : Below A₀ base outer h₀) (F : Fr h₀ L s.heap m) (X : (lay.heap_1 w.params).In h₀) (N : News h₀ L s.heap news) (T' : Top view (looseW view [Str.ofString "HintWork"]) mean mg mb h₀) (hk : cs.kind = .function) (hdp : dp + 3 < recursionLimit) (hun : un + 104 < cLine)
   (mS : (S, instObj 425 dS) ∈ news) (U : UpdF dS (dictOf (StkE w t1 t2 tm nl) 2) news g) (nSd : @Ne Nat S dS)
   (hret : ∀ h' tk' nl', Fr h₀ L h' m → News h₀ L h' ((nl', listOf ([] : List Value).toArray 0) :: g (dictOf (StkE w t1 t2 tm nl') 2)) → (∀ p ∈ news, p.1 < nl') → Q .none { s with heap := h', toks := tk' }) :
   wpAny (model PySem.Challenge.rw_on0247_01.row.toRowW.prog w) (ktrTop dp un gd cn cs L a ccd cl outer) (call (.ref 422) [.ref S]) Q E s := by
  obtain ⟨pre, post, rfl, hg, a1, b1⟩ := U.split
  refine clear2F (rest := pre ++ post) (S := S) (dS := dS) (nl := nl) (t1 := t1) (t2 := t2) (tm := tm) B F (fun p hp => by exact X p hp) (fun p hp => N p ?_) T' hk hdp hun (fun p hp b hb => ?_) nSd (fun h9 tk9 nl9 F9 N9 l9 => hret h9 tk9 nl9 F9 (by rw [hg]; exact fun p hp => N9 p (by simp only [List.mem_append, List.mem_cons] at hp ⊢; rcases hp with hp | hp | hp | hp <;> simp [hp])) ?_)
  · rcases List.mem_cons.mp hp with rfl | hp
    · exact mS
    rcases List.mem_cons.mp hp with rfl | hp
    · simp
    rcases List.mem_append.mp hp with hp | hp <;> simp [hp]
  · rw [List.mem_singleton.mp hb]; rcases List.mem_append.mp hp with hp | hp; exact a1 p hp; exact b1 p hp
  · obtain ⟨q1, q2, q3⟩ := l9
    have q4 := allLt_mem q3
    intro p hp
    rcases List.mem_append.mp hp with hp | hp
    · exact q4 p (List.mem_append_left _ hp)
    · rcases List.mem_cons.mp hp with rfl | hp
      · exact q2
      · exact q4 p (List.mem_append_right _ hp)
theorem reg12 : True := by
  (k_with "call ref #P12" => first | ((k_here; (with_reducible show wpAny _ _ (call (Value.ref 422) _) _ _ _); k_dflt (apply clear2; (focus (k_asm)); (focus (k_asm)); (focus (k_asm)); (focus (k_asm)); (focus (k_asm)); (focus (first | exact rfl | assumption)); (focus (ktr_room)); (focus (ktr_units)); (focus (k_mem)); (focus (k_updF)); (focus (first | with_reducible assumption | (refine Ne.symm ?_; with_reducible assumption))); k_whole); (k_extra "x_in3"; intro F'z9 N'z9 l1'z9); (try dsimp only at N'z9); (try k_lt l1'z9); (try k_extra "x_fold"))) | fail "no")
  trivial
theorem clear_ok {w : World} {mean : ExcName → Option Value} {mg mb : Str → Option Value} {dp un : Nat} {gd : Option (List Code)} {cn : Str} {cs : Scope} {a : Addr} {ccd : Value} {cl : List (Str × Addr)} {outer : List Env} {A₀ : Around} {base h₀ : Heap} {L : Addr} {m : Str → Option Value} {s : Shared} {Q E : Value → Shared → Prop}
   {rest : List (Addr × Obj)} {W dW S dS nl cv sd G zn sc : Addr} {u : WTok} {t1 t2 tm : Tok} {ppem : Int} {vs cvs : List Value} {ns cns : List Int} {k kc : Nat} {sto : Obj}  {tc : Tok} {c : Int}
   (B : Below A₀ base outer h₀) (F : Fr h₀ L s.heap m) (X : (lay.heap_1 w.params).In h₀) (N : News h₀ L s.heap ((W, instObj 476 dW) :: (dW, dictOf (WrkE w u G S zn cv sd sc ppem) 8) :: (S, instObj 425 dS) :: (dS, dictOf (StkE w t1 t2 tm nl) 2) :: (nl, listOf vs.toArray k) :: (cv, listOf cvs.toArray kc) :: (sd, sto) :: rest)) (T' : Top view (looseW view [Str.ofString "HintWork"]) mean mg mb h₀) (hk : cs.kind = .function) (hdp : dp + 5 < recursionLimit) (hun : un + 120 < cLine) (off : OwnOff rest [nl, dS, cv, sd])
   (ap : Apart W dW S dS nl cv sd) (hi : IntsAre vs ns) 
   (hret : ∀ h' tk' nl', Fr h₀ L h' m → News h₀ L h' ((W, instObj 476 dW) :: (dW, dictOf (WrkE w u G S zn cv sd sc ppem) 8) :: (S, instObj 425 dS) :: (dS, dictOf (StkE w t1 t2 tm nl') 2) :: (nl', listOf ([] : List Value).toArray 0) :: (cv, listOf cvs.toArray kc) :: (sd, sto) :: rest) → (@LT.lt Nat _ W nl' ∧ @LT.lt Nat _ dW nl' ∧ @LT.lt Nat _ S nl' ∧ @LT.lt Nat _ dS nl' ∧ @LT.lt Nat _ nl nl' ∧ @LT.lt Nat _ cv nl' ∧ @LT.lt Nat _ sd nl' ∧ AllLt nl' rest) → Q .none { s with heap := h', toks := tk' }) :
   wpAny (model PySem.Challenge.rw_on0247_01.row.toRowW.prog w) (ktrTop dp un gd cn cs L a ccd cl outer) (call (.ref 151) [.ref W, .int c tc]) Q E s :=
  (by intro hz8; exact hz8 : (have hz8 : wpAny (model PySem.Challenge.rw_on0247_01.row.toRowW.prog w) (ktrTop dp un gd cn cs L a ccd cl outer) (call (.ref 151) [.ref W, .int c tc]) Q E s := (by
  obtain ⟨n_W_dW, n_W_S, n_W_dS, n_W_nl, n_W_cv, n_W_sd, n_dW_S, n_dW_dS, n_dW_nl, n_dW_cv, n_dW_sd, n_S_dS, n_S_nl, n_S_cv, n_S_sd, n_dS_nl, n_dS_cv, n_dS_sd, n_nl_cv, n_nl_sd, n_cv_sd⟩ := ap
  revert X; k_fill; intro X
  refine wpAny_call ?_
  k_extra "x_enterF"
  k_steps
  all_goals (first | exact hret _ _ _ (by k_asm) (cb_drop (by assumption) (by kcj_all)) (by k_asm))); wpAny (model PySem.Challenge.rw_on0247_01.row.toRowW.prog w) (ktrTop dp un gd cn cs L a ccd cl outer) (call (.ref 151) [.ref W, .int c tc]) Q E s))
end
theorem mt2 : True := by first | (walk1; done) | trivial
theorem reg13 : True := by
  (k_with "call ref" => first | ((k_here; (with_reducible show wpAny _ _ (call (Value.ref 422) _) _ _ _); k_dflt (apply clear2; (focus (k_asm)); (focus (k_asm)); (focus (k_asm)); (focus (k_asm)); (focus (k_asm)); (focus (first | exact rfl | assumption)); (focus (ktr_room)); (focus (ktr_units)); (focus (k_mem)); (focus (k_updF)); (focus (first | with_reducible assumption | (refine Ne.symm ?_; with_reducible assumption))); k_whole); (k_extra "x_in3"; intro F'z9 N'z9 l1'z9); (try dsimp only at N'z9); (try k_lt l1'z9); (try k_extra "x_fold"))) | fail "no")
  trivial
section
theorem isodd_eq (p : Int) : (Int.fmod (Int.fdiv ((if 0 - p > p then 0 - p else p) + 32) 64) 2 == 1) = decide (rnd p % 128 = 64) := by
  rw [Int.fdiv_eq_ediv_of_nonneg _ (by decide), Int.fmod_eq_emod_of_nonneg _ (by decide)]
  unfold rnd
  split <;> split <;> (show decide _ = decide _; rw [decide_eq_decide]; omega)
theorem isoddF {w : World} {mean : ExcName → Option Value} {mg mb : Str → Option Value} {dp un : Nat} {gd : Option (List Code)} {cn : Str} {cs : Scope} {a : Addr} {ccd : Value} {cl : List (Str × Addr)} {outer : List Env} {A₀ : Around} {base h₀ : Heap} {L : Addr} {m : Str → Option Value} {s : Shared} {Q E : Value → Shared → Prop}
   {rest : List (Addr × Obj)} {p : Int} {tp : Tok}
   (B : Below A₀ base outer h₀) (F : Fr h₀ L s.heap m) (X : (lay.heap_1 w.params).In h₀) (N : News h₀ L s.heap (rest)) (T' : Top view (looseW view [Str.ofString "HintWork"]) mean mg mb h₀) (hk : cs.kind = .function) (hdp : dp + 2 < recursionLimit) (hun : un + 96 < cLine) 
   (hb : -(10 ^ 10) < p) (hb2 : p < 10 ^ 10) (hret : ∀ (t9 : Tok) h' tk', Fr h₀ L h' m → News h₀ L h' rest → Q (.bool (decide (rnd p % 128 = 64))) { s with heap := h', toks := tk' }) :
   wpAny (model PySem.Challenge.rw_on0247_01.row.toRowW.prog w) (ktrTop dp un gd cn cs L a ccd cl outer) (call (.ref 522) [.int p tp]) Q E s :=
  (by intro hz8; exact hz8 : (have hz8 : wpAny (model PySem.Challenge.rw_on0247_01.row.toRowW.prog w) (ktrTop dp un gd cn cs L a ccd cl outer) (call (.ref 522) [.int p tp]) Q E s := (by
  revert X; k_fill; intro X
  refine wpAny_call ?_
  k_extra "x_enterF"
  k_steps
  all_goals ((refine cb_retB hret ?_ (by k_asm) (by k_asm)); first | (exact isodd_eq p))); wpAny (model PySem.Challenge.rw_on0247_01.row.toRowW.prog w) (ktrTop dp un gd cn cs L a ccd cl outer) (call (.ref 522) [.int p tp]) Q E s))
section
local macro_rules | `(tactic| walk_at $s:str) => `(tactic| k_extra $(Lean.Syntax.mkStrLit (s.getString ++ " #P13")))
theorem reg14 : True := by
  (k_with "execs cons Return #P13" => first | ((k_here; first | dsimp only | refine Stop.out ?_)) | fail "no")
  trivial
theorem lc90 {x y : Int} (h : x ≠ 0) : (if (y != 0) = true then (1 : Int) else 0) = b2i (cmpB 90 x y) := by simp [b2i, cmpB, h]
theorem lc91 {x y : Int} (h : x ≠ 0) : (if (x != 0) = true then (1 : Int) else 0) = b2i (cmpB 91 x y) := by simp [b2i, cmpB, h]
theorem lc90n {x y : Int} (h : x = 0) : (if (x != 0) = true then (1 : Int) else 0) = b2i (cmpB 90 x y) := by simp [b2i, cmpB, h]
theorem lc91n {x y : Int} (h : x = 0) : (if (y != 0) = true then (1 : Int) else 0) = b2i (cmpB 91 x y) := by simp [b2i, cmpB, h]
theorem lc85 {x y : Int} : (if (x != y) = true then (1 : Int) else 0) = b2i (cmpB 85 x y) := by by_cases h : x = y <;> simp [b2i, cmpB, h]
theorem lc84 {x y : Int} : (if (x == y) = true then (1 : Int) else 0) = b2i (cmpB 84 x y) := by by_cases h : x = y <;> simp [b2i, cmpB, h]
theorem retI_eq {Q : Value → Shared → Prop} {n n' : Int} {t : Tok} {S : Shared} (h : Q (.int n t) S) (e : n' = n) : Q (.int n' t) S := e ▸ h
noncomputable def lcompF_S (w : World) (mean : ExcName → Option Value) (mg mb : Str → Option Value) (dp un : Nat) (gd : Option (List Code)) (cn : Str) (cs : Scope) (a : Addr) (ccd : Value) (cl : List (Str × Addr)) (outer : List Env) (A₀ : Around) (base h₀ : Heap) (L : Addr) (m : Str → Option Value) (s : Shared) (Q E : Value → Shared → Prop) (rest : List (Addr × Obj)) (c x y : Int) (tc tx ty : Tok) : Prop := ∀ (B : Below A₀ base outer h₀) (F : Fr h₀ L s.heap m) (X : (lay.heap_1 w.params).In h₀) (N : News h₀ L s.heap (rest)) (T' : Top view (looseW view [Str.ofString "HintWork"]) mean mg mb h₀) (hk : cs.kind = .function) (hdp : dp + 2 < recursionLimit) (hun : un + 96 < cLine)  (hc : c = 80 ∨ c = 81 ∨ c = 82 ∨ c = 83 ∨ c = 84 ∨ c = 85 ∨ c = 90 ∨ c = 91) (hret : ∀ h' tk' t', Fr h₀ L h' m → News h₀ L h' rest → Q (.int (b2i (cmpB c x y)) t') { s with heap := h', toks := tk' }),
  wpAny (model PySem.Challenge.rw_on0247_01.row.toRowW.prog w) (ktrTop dp un gd cn cs L a ccd cl outer) (call (.ref 529) [.int c tc, .int x tx, .int y ty]) Q E s
noncomputable def LlcompF_S (p : Bag) : Prop := (lcompF_S (p.fWo 0) (p.fMe 0) (p.fM 0) (p.fM 1) (p.fN 0) (p.fN 1) (p.fGD 0) (p.fSt 0) (p.fSc 0) (p.fA 0) (p.fV 0) (p.fCL 0) (p.fEn 0) (p.fAr 0) (p.fH 0) (p.fH 1) (p.fA 1) (p.fM 2) (p.fSh 0) (p.fQ 0) (p.fQ 1) (p.fAO 0) (p.fI 0) (p.fI 1) (p.fI 2) (p.fT 0) (p.fT 1) (p.fT 2))
noncomputable def LlcompF_c : Bag := skc LlcompF_S
theorem lcompF_at : lcompF_S (LlcompF_c.fWo 0) (LlcompF_c.fMe 0) (LlcompF_c.fM 0) (LlcompF_c.fM 1) (LlcompF_c.fN 0) (LlcompF_c.fN 1) (LlcompF_c.fGD 0) (LlcompF_c.fSt 0) (LlcompF_c.fSc 0) (LlcompF_c.fA 0) (LlcompF_c.fV 0) (LlcompF_c.fCL 0) (LlcompF_c.fEn 0) (LlcompF_c.fAr 0) (LlcompF_c.fH 0) (LlcompF_c.fH 1) (LlcompF_c.fA 1) (LlcompF_c.fM 2) (LlcompF_c.fSh 0) (LlcompF_c.fQ 0) (LlcompF_c.fQ 1) (LlcompF_c.fAO 0) (LlcompF_c.fI 0) (LlcompF_c.fI 1) (LlcompF_c.fI 2) (LlcompF_c.fT 0) (LlcompF_c.fT 1) (LlcompF_c.fT 2) :=
  (by intro hz8; exact hz8 : (have hz8 : lcompF_S (LlcompF_c.fWo 0) (LlcompF_c.fMe 0) (LlcompF_c.fM 0) (LlcompF_c.fM 1) (LlcompF_c.fN 0) (LlcompF_c.fN 1) (LlcompF_c.fGD 0) (LlcompF_c.fSt 0) (LlcompF_c.fSc 0) (LlcompF_c.fA 0) (LlcompF_c.fV 0) (LlcompF_c.fCL 0) (LlcompF_c.fEn 0) (LlcompF_c.fAr 0) (LlcompF_c.fH 0) (LlcompF_c.fH 1) (LlcompF_c.fA 1) (LlcompF_c.fM 2) (LlcompF_c.fSh 0) (LlcompF_c.fQ 0) (LlcompF_c.fQ 1) (LlcompF_c.fAO 0) (LlcompF_c.fI 0) (LlcompF_c.fI 1) (LlcompF_c.fI 2) (LlcompF_c.fT 0) (LlcompF_c.fT 1) (LlcompF_c.fT 2) := (by
  refine (?layF0 : ∀ w mean mg mb dp un gd cn cs a ccd cl outer A₀ base h₀ L m s Q E rest c x y tc tx ty, lcompF_S w mean mg mb dp un gd cn cs a ccd cl outer A₀ base h₀ L m s Q E rest c x y tc tx ty) (LlcompF_c.fWo 0) (LlcompF_c.fMe 0) (LlcompF_c.fM 0) (LlcompF_c.fM 1) (LlcompF_c.fN 0) (LlcompF_c.fN 1) (LlcompF_c.fGD 0) (LlcompF_c.fSt 0) (LlcompF_c.fSc 0) (LlcompF_c.fA 0) (LlcompF_c.fV 0) (LlcompF_c.fCL 0) (LlcompF_c.fEn 0) (LlcompF_c.fAr 0) (LlcompF_c.fH 0) (LlcompF_c.fH 1) (LlcompF_c.fA 1) (LlcompF_c.fM 2) (LlcompF_c.fSh 0) (LlcompF_c.fQ 0) (LlcompF_c.fQ 1) (LlcompF_c.fAO 0) (LlcompF_c.fI 0) (LlcompF_c.fI 1) (LlcompF_c.fI 2) (LlcompF_c.fT 0) (LlcompF_c.fT 1) (LlcompF_c.fT 2)
  intro w mean mg mb dp un gd cn cs a ccd cl outer A₀ base h₀ L m s Q E rest c x y tc tx ty B F X N T' hk hdp hun hc hret
  have sken := sken
  have skon := skon
  revert X; k_fill; intro X
  refine wpAny_call ?_
  k_dflt cell_enter
  k_steps
  all_goals (rcases hc with rfl | rfl | rfl | rfl | rfl | rfl | rfl | rfl)
  all_goals (refine Stop.intro ?_)
  all_goals (refine wpAny_execs_cons ?_)
  all_goals k_steps
  all_goals ((refine retI_eq (hret _ _ _ (by k_asm) (cb_drop (by with_reducible assumption) (fun p hp => .tail _ (.tail _ hp)))) ?_); first | rfl | exact lc84 | exact lc85 | exact lc90 (by with_reducible assumption) | exact lc91 (by with_reducible assumption) | exact lc90n (by with_reducible assumption) | exact lc91n (by with_reducible assumption))); lcompF_S (LlcompF_c.fWo 0) (LlcompF_c.fMe 0) (LlcompF_c.fM 0) (LlcompF_c.fM 1) (LlcompF_c.fN 0) (LlcompF_c.fN 1) (LlcompF_c.fGD 0) (LlcompF_c.fSt 0) (LlcompF_c.fSc 0) (LlcompF_c.fA 0) (LlcompF_c.fV 0) (LlcompF_c.fCL 0) (LlcompF_c.fEn 0) (LlcompF_c.fAr 0) (LlcompF_c.fH 0) (LlcompF_c.fH 1) (LlcompF_c.fA 1) (LlcompF_c.fM 2) (LlcompF_c.fSh 0) (LlcompF_c.fQ 0) (LlcompF_c.fQ 1) (LlcompF_c.fAO 0) (LlcompF_c.fI 0) (LlcompF_c.fI 1) (LlcompF_c.fI 2) (LlcompF_c.fT 0) (LlcompF_c.fT 1) (LlcompF_c.fT 2)))
end
theorem LlcompF_all : ∀ p, LlcompF_S p := sk (lcompF_at)
noncomputable def LlcompF_bag (w : World) (mean : ExcName → Option Value) (mg mb : Str → Option Value) (dp un : Nat) (gd : Option (List Code)) (cn : Str) (cs : Scope) (a : Addr) (ccd : Value) (cl : List (Str × Addr)) (outer : List Env) (A₀ : Around) (base h₀ : Heap) (L : Addr) (m : Str → Option Value) (s : Shared) (Q E : Value → Shared → Prop) (rest : List (Addr × Obj)) (c x y : Int) (tc tx ty : Tok) : Bag := ⟨fun ix9 => [a, L].getD ix9 (bag0.fA 0), fun ix9 => [tc, tx, ty].getD ix9 (bag0.fT 0), fun ix9 => [c, x, y].getD ix9 (bag0.fI 0), fun ix9 => [dp, un].getD ix9 (bag0.fN 0), fun ix9 => [ccd].getD ix9 (bag0.fV 0), fun ix9 => [].getD ix9 (bag0.fO 0), fun ix9 => [].getD ix9 (bag0.fVL 0), fun ix9 => [].getD ix9 (bag0.fIL 0), fun ix9 => [].getD ix9 (bag0.fKV 0), fun ix9 => [].getD ix9 (bag0.fKI 0), fun ix9 => [rest].getD ix9 (bag0.fAO 0), fun ix9 => [].getD ix9 (bag0.fU 0), fun ix9 => [].getD ix9 (bag0.fG 0), fun ix9 => [].getD ix9 (bag0.fPr 0), fun ix9 => [].getD ix9 (bag0.fEv 0), fun ix9 => [].getD ix9 (bag0.fSs 0), fun ix9 => [].getD ix9 (bag0.fEx 0), fun ix9 => [].getD ix9 (bag0.fQF 0), fun ix9 => [].getD ix9 (bag0.fJ 0), fun ix9 => [w].getD ix9 (bag0.fWo 0), fun ix9 => [mean].getD ix9 (bag0.fMe 0), fun ix9 => [mg, mb, m].getD ix9 (bag0.fM 0), fun ix9 => [gd].getD ix9 (bag0.fGD 0), fun ix9 => [cn].getD ix9 (bag0.fSt 0), fun ix9 => [cs].getD ix9 (bag0.fSc 0), fun ix9 => [cl].getD ix9 (bag0.fCL 0), fun ix9 => [outer].getD ix9 (bag0.fEn 0), fun ix9 => [A₀].getD ix9 (bag0.fAr 0), fun ix9 => [base, h₀].getD ix9 (bag0.fH 0), fun ix9 => [s].getD ix9 (bag0.fSh 0), fun ix9 => [Q, E].getD ix9 (bag0.fQ 0)⟩
theorem lcompF {w mean mg mb dp un gd cn cs a ccd cl outer A₀ base h₀ L m s Q E rest c x y tc tx ty} : lcompF_S w mean mg mb dp un gd cn cs a ccd cl outer A₀ base h₀ L m s Q E rest c x y tc tx ty := LlcompF_all (LlcompF_bag w mean mg mb dp un gd cn cs a ccd cl outer A₀ base h₀ L m s Q E rest c x y tc tx ty)
noncomputable def LoneCode (c : Int) : Prop := c = 32 ∨ c = 33 ∨ c = 126 ∨ c = 34 ∨ c = 35 ∨ c = 36 ∨ c = 37 ∨ c = 38 ∨ c = 138 ∨ c = 86 ∨ c = 87 ∨ c = 92 ∨ c = 80 ∨ c = 81 ∨ c = 82 ∨ c = 83 ∨ c = 84 ∨ c = 85 ∨ c = 90 ∨ c = 91
theorem and_r {a b : Prop} (h : a ∧ b) : b := h.2
theorem ncons {h₀ h : Heap} {L : Addr} {x : Addr × Obj} {led l : List (Addr × Obj)} (N : News h₀ L h led) (m : x ∈ led) (N2 : News h₀ L h l) : News h₀ L h (x :: l) := fun p hp => by
  rcases List.mem_cons.mp hp with rfl | hp
  · exact N _ m
  · exact N2 _ hp
theorem drop_head {h₀ h : Heap} {L : Addr} {x : Addr × Obj} {l l' : List (Addr × Obj)} (N : News h₀ L h (x :: l)) (hs : ∀ p ∈ l', p ∈ l) : News h₀ L h (x :: l') :=
  cb_drop N (fun p hp => by rcases List.mem_cons.mp hp with rfl | hp; exact List.mem_cons_self; exact List.mem_cons_of_mem _ (hs p hp))
theorem lenpos {ns : List Int} (e : decide (ns = []) = false) : 0 < ns.length := by
  simp at e; exact List.length_pos_iff.mpr e
theorem lcd_of {c : Int} (h : LoneCode c) (h1 : c ≠ 32) (h2 : (List.any [33, 126] fun x => x == c) = false) (h3 : c ≠ 34) (h4 : c ≠ 36) (h5 : (List.any [86, 87, 92] fun x => x == c) = false) (h6 : (List.any [37, 38] fun x => x == c) = false) (h7 : c ≠ 138) (h8 : c ≠ 35) :
    c = 80 ∨ c = 81 ∨ c = 82 ∨ c = 83 ∨ c = 84 ∨ c = 85 ∨ c = 90 ∨ c = 91 := by
  have hm : c ∈ ([32, 33, 126, 34, 35, 36, 37, 38, 138, 86, 87, 92, 80, 81, 82, 83, 84, 85, 90, 91] : List Int) := by unfold LoneCode at h; simp only [List.mem_cons, List.not_mem_nil, or_false]; exact h
  exact (show ∀ c ∈ ([32, 33, 126, 34, 35, 36, 37, 38, 138, 86, 87, 92, 80, 81, 82, 83, 84, 85, 90, 91] : List Int), c ≠ 32 → (List.any [33, 126] fun x => x == c) = false → c ≠ 34 → c ≠ 36 → (List.any [86, 87, 92] fun x => x == c) = false → (List.any [37, 38] fun x => x == c) = false → c ≠ 138 → c ≠ 35 → (c = 80 ∨ c = 81 ∨ c = 82 ∨ c = 83 ∨ c = 84 ∨ c = 85 ∨ c = 90 ∨ c = 91) by decide +kernel) c hm h1 h2 h3 h4 h5 h6 h7 h8
theorem getD_bnd {ns : List Int} (hb : ∀ x ∈ ns, -(10 ^ 10) < x ∧ x < 10 ^ 10) (i : Nat) : -(10 ^ 10) < ns.getD i 0 ∧ ns.getD i 0 < 10 ^ 10 := by
  by_cases h : i < ns.length
  · have : ns.getD i 0 = ns[i] := by simp [h]
    rw [this]; exact hb _ (List.getElem_mem h)
  · have : ns.getD i 0 = 0 := by simp [h]
    rw [this]; decide
end
theorem mt3 : True := by first | (walk1; done) | trivial
theorem reg15 : True := by
  (k_with "m_suf" => first | (first | with_reducible assumption | exact and_r (by with_reducible assumption) | exact and_r (and_r (by with_reducible assumption)) | exact and_r (and_r (and_r (by with_reducible assumption))) | exact and_r (and_r (and_r (and_r (by with_reducible assumption)))) | exact and_r (and_r (and_r (and_r (and_r (by with_reducible assumption))))) | exact and_r (and_r (and_r (and_r (and_r (and_r (by with_reducible assumption)))))) | exact and_r (and_r (and_r (and_r (and_r (and_r (and_r (by with_reducible assumption))))))) | exact and_r (and_r (and_r (and_r (and_r (and_r (and_r (and_r (by with_reducible assumption)))))))) | exact and_r (and_r (and_r (and_r (and_r (and_r (and_r (and_r (and_r (by with_reducible assumption))))))))) | exact and_r (and_r (and_r (and_r (and_r (and_r (and_r (and_r (and_r (and_r (by with_reducible assumption))))))))))) | fail "no")
  (k_with "m_at" => first | (repeat (first | with_reducible exact List.mem_cons_self | refine List.mem_cons_of_mem _ ?_)) | fail "no")
  (k_with "m_pick" => first | (((repeat (refine ncons (by with_reducible assumption) (by k_extra "m_at") ?_)); exact cb_drop (by with_reducible assumption) (by k_extra "m_drop"))) | fail "no")
  (k_with "call ref" => first | ((k_here; (with_reducible show wpAny _ _ (call (Value.ref 522) _) _ _ _); k_dflt (apply isoddF; (focus (k_asm)); (focus (k_asm)); (focus (k_asm)); (focus (k_asm)); (focus (k_asm)); (focus (first | exact rfl | assumption)); (focus (ktr_room)); (focus (ktr_units)); (focus (k_extra "m_lo")); (focus (k_extra "m_hi")); k_whole); (k_extra "x_in3"; intro F'z9 N'z9); (try dsimp only); (try k_extra "x_fold"))) | fail "no")
  (k_with "call ref" => first | ((k_here; (with_reducible show wpAny _ _ (call (Value.ref 529) _) _ _ _); k_dflt (apply lcompF; (focus (k_asm)); (focus (k_asm)); (focus (k_asm)); (focus (k_asm)); (focus (k_asm)); (focus (first | exact rfl | assumption)); (focus (ktr_room)); (focus (ktr_units)); (focus (k_extra "m_lcd")); k_whole); (k_extra "x_in3"; intro F'z9 N'z9); (try dsimp only); (try k_extra "x_fold"))) | fail "no")
  (k_with "m_lo" => first | (exact (getD_bnd (by with_reducible assumption) _).1) | fail "no")
  (k_with "m_hi" => first | (exact (getD_bnd (by with_reducible assumption) _).2) | fail "no")
  (k_with "m_lcd" => first | (exact lcd_of (by with_reducible assumption) (by with_reducible assumption) (by with_reducible assumption) (by with_reducible assumption) (by with_reducible assumption) (by with_reducible assumption) (by with_reducible assumption) (by with_reducible assumption) (by with_reducible assumption)) | fail "no")
  (k_with "m_drop" => first | ((intro pz9 hpz9; repeat (first | with_reducible exact hpz9 | refine List.mem_cons_of_mem _ ?_))) | fail "no")
  (k_with "subscriptTail" => first | ((k_here; (with_reducible rename List.length (List.drop (Int.toNat _) _) = _ => z1); (with_reducible rename List.length (List.drop (Int.toNat _) _) ≤ _ => z2); clear z1 z2)) | fail "no")
  (k_with "subscriptTail" => first | ((k_here; (fail_if_success (with_reducible rename (0 : Nat) < List.length _ => hz)); have hpos := lenpos (by with_reducible assumption))) | fail "no")
  (k_with "subscriptTail Name Slice ref ref" => first | ((k_here; (with_reducible show wpAny _ _ (subscriptTail _ (PySem.Expr.Slice (some (Expr.BinOp _ _ _ _)) _ none _) (Value.ref _) (Value.ref _)) _ _ _); k_dflt (apply slice_C; (focus (k_asm)); (focus (k_asm)); (focus (kmk_list)); (focus (kmk_part)); (focus (kmk_part)); (focus (l_ints)); (focus (refine kmk_from (by l_ints) ?_; kmk_sign)); (focus (kmk_len)); (focus (with_unfolding_all rfl)); (focus (kmk_pure)); (focus (kmk_size))); intro D'z9 ws'z9 h'z9 F'z9 N'z9 l1z9 hI'z9 hC'z9 hL'z9; (try simp only [Int.reduceNeg, Int.neg_neg, Int.reduceToNat] at hI'z9 hC'z9 hL'z9); (try k_lt l1z9); (try k_sweep))) | fail "no")
  trivial
noncomputable def loneOp (code : Int) (ns : List Int) : Option (List Int) :=
  if code = 32 then (if ns ≠ [] ∧ ns.length < 12 then some (ns ++ ns.drop (ns.length - 1)) else none)
  else if code = 33 ∨ code = 126 then (if ns ≠ [] then some ns.dropLast else none)
  else if code = 34 then some []
  else if code = 36 then (if ns.length < 12 then some (ns ++ [(ns.length : Int)]) else none)
  else match ns.reverse with
    | [] => none
    | z :: r =>
      if code = 86 ∨ code = 87 ∨ code = 92 then some (r.reverse ++ [b2i (if code = 92 then z == 0 else decide (rnd z % 128 = 64) == decide (code = 86))])
      else if code = 37 ∨ code = 38 then
        (if 1 ≤ z ∧ z ≤ r.length then
          (if code = 37 then some (r.reverse ++ [r.getD (z - 1).toNat 0])
           else some ((r.reverse.take (r.length - z.toNat)) ++ r.reverse.drop (r.length - z.toNat + 1) ++ [r.getD (z - 1).toNat 0]))
         else none)
      else match r with
        | [] => none
        | y :: q =>
          if code = 138 then (match q with | [] => none | x :: o => some (o.reverse ++ [y, z, x]))
          else if code = 35 then some (q.reverse ++ [z, y])
          else some (q.reverse ++ [b2i (cmpB code y z)])
theorem any2 {a b c : Int} (h : (List.any [a, b] fun x => x == c) = true) : c = a ∨ c = b := by
  have h2 : ((a == c) || ((b == c) || false)) = true := h
  rcases (Bool.or_eq_true _ _).mp h2 with h | h
  · exact .inl (eq_of_beq h).symm
  · exact .inr (eq_of_beq ((Bool.or_false _).symm.trans h)).symm
theorem any3 {a b d c : Int} (h : (List.any [a, b, d] fun x => x == c) = true) : c = a ∨ c = b ∨ c = d := by
  have h2 : ((a == c) || (List.any [b, d] fun x => x == c)) = true := h
  rcases (Bool.or_eq_true _ _).mp h2 with h | h
  · exact .inl (eq_of_beq h).symm
  · exact .inr (any2 h)
theorem nany2 {a b c : Int} (h : (List.any [a, b] fun x => x == c) = false) : c ≠ a ∧ c ≠ b :=
  ⟨fun e => (beq_eq_false_iff_ne.mp (Bool.or_eq_false_iff.mp (show ((a == c) || ((b == c) || false)) = false from h)).1) e.symm, fun e => (beq_eq_false_iff_ne.mp (Bool.or_eq_false_iff.mp (Bool.or_eq_false_iff.mp (show ((a == c) || ((b == c) || false)) = false from h)).2).1) e.symm⟩
theorem nany3 {a b d c : Int} (h : (List.any [a, b, d] fun x => x == c) = false) : c ≠ a ∧ c ≠ b ∧ c ≠ d := by
  have h2 : ((a == c) || (List.any [b, d] fun x => x == c)) = false := h
  obtain ⟨h3, h4⟩ := Bool.or_eq_false_iff.mp h2
  exact ⟨fun e => (beq_eq_false_iff_ne.mp h3) e.symm, nany2 h4⟩
theorem rev_cases (ns : List Int) : ns = [] ∨ ∃ r z, ns = r ++ [z] := by
  rcases List.eq_nil_or_concat ns with h | ⟨r, z, h⟩
  · exact .inl h
  · exact .inr ⟨r, z, h.trans List.concat_eq_append⟩
theorem len_1 (r : List Int) (z : Int) : (r ++ [z]).length = r.length + 1 := List.length_append
theorem toN (k n : Nat) : Int.toNat (-(k : Int) + ((n + k : Nat) : Int)) = n := by omega
theorem getD_k (r : List Int) (l : List Int) (x : Int) (k : Nat) (e : l.length + 1 = k) : (r ++ x :: l).getD (Int.toNat (-(k : Int) + ((r ++ x :: l).length : Int))) 0 = x := by
  have : Int.toNat (-(k : Int) + ((r ++ x :: l).length : Int)) = r.length := by rw [List.length_append, List.length_cons, e]; exact toN k _
  rw [this, List.getD_eq_getElem?_getD, List.getElem?_append_right (Nat.le_refl _), Nat.sub_self]; rfl
theorem getD_1 (r : List Int) (z : Int) : (r ++ [z]).getD (Int.toNat (-1 + ((r ++ [z]).length : Int))) 0 = z := getD_k r [] z 1 rfl
theorem getD_2 (r : List Int) (y z : Int) : (r ++ [y] ++ [z]).getD (Int.toNat (-2 + ((r ++ [y] ++ [z]).length : Int))) 0 = y := by
  rw [List.append_assoc]; exact getD_k r [z] y 2 rfl
theorem getD_3 (r : List Int) (x y z : Int) : (r ++ [x] ++ [y] ++ [z]).getD (Int.toNat (-3 + ((r ++ [x] ++ [y] ++ [z]).length : Int))) 0 = x := by
  rw [List.append_assoc, List.append_assoc]; exact getD_k r [y, z] x 3 rfl
theorem take_k (r l : List Int) (k : Nat) (e : l.length = k) : (r ++ l).take ((r ++ l).length - k) = r := by
  rw [List.length_append, e, Nat.add_sub_cancel, List.take_left]
theorem take_1 (r : List Int) (z : Int) : (r ++ [z]).take ((r ++ [z]).length - 1) = r := take_k r [z] 1 rfl
theorem take_2 (r : List Int) (y z : Int) : (r ++ [y] ++ [z]).take ((r ++ [y] ++ [z]).length - 2) = r := by
  rw [List.append_assoc]; exact take_k r [y, z] 2 rfl
theorem take_3 (r : List Int) (x y z : Int) : (r ++ [x] ++ [y] ++ [z]).take ((r ++ [x] ++ [y] ++ [z]).length - 3) = r := by
  rw [List.append_assoc, List.append_assoc]; exact take_k r [x, y, z] 3 rfl
theorem lnb {r : List Int} {z : Int} : (r ++ [z]).reverse = z :: r.reverse := List.reverse_append
noncomputable def loR (X : Option (List Int)) (Y : Int → List Int → Option (List Int)) (l : List Int) : Option (List Int) := match l with | [] => X | z :: r => Y z r
theorem loR_snoc {X : Option (List Int)} {Y : Int → List Int → Option (List Int)} {r : List Int} {z : Int} : loR X Y (r ++ [z]).reverse = Y z r.reverse := by rw [lnb]; rfl
theorem lo_at {c : Int} {Y : Int → List Int → Option (List Int)} (h : ∀ ns, loneOp c ns = loR none Y ns.reverse) {r : List Int} {z : Int} : loneOp c (r ++ [z]) = Y z r.reverse := (h _).trans loR_snoc
theorem lo_nil {c : Int} {Y : Int → List Int → Option (List Int)} (h : ∀ ns, loneOp c ns = loR none Y ns.reverse) : loneOp c [] = none := h []
theorem ne_snoc {r : List Int} {z : Int} : ¬ (r ++ [z] = []) := fun h => by have := congrArg List.length h; rw [len_1] at this; exact Nat.succ_ne_zero _ this
theorem dec_t {p : Prop} [Decidable p] (h : decide p = true) : p := of_decide_eq_true h
theorem dec_f {p : Prop} [Decidable p] (h : decide p = false) : ¬ p := of_decide_eq_false h
noncomputable def loYB (f : Int → Int) (z : Int) (r : List Int) : Option (List Int) := some (r.reverse ++ [f z])
noncomputable def loY37 (z : Int) (r : List Int) : Option (List Int) := if 1 ≤ z ∧ z ≤ (r.length : Int) then some (r.reverse ++ [r.getD (z - 1).toNat 0]) else none
noncomputable def loY38 (z : Int) (r : List Int) : Option (List Int) := if 1 ≤ z ∧ z ≤ (r.length : Int) then some ((r.reverse.take (r.length - z.toNat)) ++ r.reverse.drop (r.length - z.toNat + 1) ++ [r.getD (z - 1).toNat 0]) else none
theorem lo37 {ns : List Int} : loneOp 37 ns = loR none loY37 ns.reverse := by show _ = _; unfold loneOp; rfl
theorem lo38 {ns : List Int} : loneOp 38 ns = loR none loY38 ns.reverse := rfl
theorem lo92 {ns : List Int} : loneOp 92 ns = loR none (loYB fun z => b2i (z == 0)) ns.reverse := rfl
theorem lo86 {ns : List Int} : loneOp 86 ns = loR none (loYB fun z => b2i (decide (rnd z % 128 = 64) == true)) ns.reverse := rfl
theorem lo87 {ns : List Int} : loneOp 87 ns = loR none (loYB fun z => b2i (decide (rnd z % 128 = 64) == false)) ns.reverse := rfl
theorem lo138 {ns : List Int} : loneOp 138 ns = loR none (fun z => loR none fun y => loR none fun x o => some (o.reverse ++ [y, z, x])) ns.reverse := rfl
theorem lo35 {ns : List Int} : loneOp 35 ns = loR none (fun z => loR none fun y q => some (q.reverse ++ [z, y])) ns.reverse := rfl
theorem nspl {ns : List Int} (h : decide (ns = []) = false) : ∃ r z, ns = r ++ [z] := (rev_cases ns).elim (fun e => absurd e (dec_f h)) id
theorem nsp2 {ns : List Int} (h : ¬ (ns.length : Int) < 2) : ∃ r y z, ns = r ++ [y] ++ [z] := by
  rcases rev_cases ns with rfl | ⟨r, z, rfl⟩
  · exact absurd (by decide) h
  rcases rev_cases r with rfl | ⟨r, y, rfl⟩
  · exact absurd (show ((1 : Nat) : Int) < 2 by decide) h
  exact ⟨r, y, z, rfl⟩
theorem nsp3 {ns : List Int} (h : 2 < (ns.length : Int)) : ∃ r x y z, ns = r ++ [x] ++ [y] ++ [z] := by
  obtain ⟨r, y, z, rfl⟩ := nsp2 (ns := ns) (by omega)
  rcases rev_cases r with rfl | ⟨r, x, rfl⟩
  · exact absurd h (by show ¬ (2 : Int) < 2; decide)
  exact ⟨r, x, y, z, rfl⟩
theorem ln1 {code : Int} {ns : List Int} (h : code = 32) (e : decide (ns = []) = true) : loneOp code ns = none := by
  subst h; rw [dec_t e]; rfl
theorem lt_nat {n : Nat} {k : Nat} (h : ¬ (n : Int) < (k : Int)) : ¬ n < k := fun h2 => h (Int.ofNat_lt.mpr h2)
theorem ln2 {code : Int} {ns : List Int} (h : code = 32) (e : ¬ (ns.length : Int) < 12) : loneOp code ns = none := by
  subst h; exact if_neg (c := ns ≠ [] ∧ ns.length < 12) fun k => lt_nat (k := 12) e k.2
theorem ln3 {code : Int} {ns : List Int} (h : (List.any [33, 126] fun x => x == code) = true) (e : decide (ns = []) = true) : loneOp code ns = none := by
  rw [dec_t e]; rcases any2 h with rfl | rfl <;> rfl
theorem ln4 {code : Int} {ns : List Int} (h : code = 36) (e : ¬ (ns.length : Int) < 12) : loneOp code ns = none := by
  subst h; exact if_neg (lt_nat (k := 12) e)
theorem ln5 {code : Int} {ns : List Int} (h : (List.any [86, 87, 92] fun x => x == code) = true) (e : decide (ns = []) = true) : loneOp code ns = none := by
  rw [dec_t e]; rcases any3 h with rfl | rfl | rfl <;> rfl
theorem ln6 {code : Int} {ns : List Int} (h : (List.any [37, 38] fun x => x == code) = true) (e : decide (ns = []) = true) : loneOp code ns = none := by
  rw [dec_t e]; rcases any2 h with rfl | rfl <;> rfl
theorem ln8 {code : Int} {ns : List Int} (h : code = 138) (e : ¬ 2 < (ns.length : Int)) : loneOp code ns = none := by
  subst h; rcases rev_cases ns with rfl | ⟨r, z, rfl⟩
  · rfl
  rcases rev_cases r with rfl | ⟨r, y, rfl⟩
  · rfl
  rcases rev_cases r with rfl | ⟨r, x, rfl⟩
  · rfl
  · exact absurd (by simp only [List.length_append, List.length_cons, List.length_nil]; omega) e
noncomputable def loY (code z : Int) (r : List Int) : Option (List Int) :=
      if code = 86 ∨ code = 87 ∨ code = 92 then some (r.reverse ++ [b2i (if code = 92 then z == 0 else decide (rnd z % 128 = 64) == decide (code = 86))])
      else if code = 37 ∨ code = 38 then
        (if 1 ≤ z ∧ z ≤ r.length then
          (if code = 37 then some (r.reverse ++ [r.getD (z - 1).toNat 0])
           else some ((r.reverse.take (r.length - z.toNat)) ++ r.reverse.drop (r.length - z.toNat + 1) ++ [r.getD (z - 1).toNat 0]))
         else none)
      else match r with
        | [] => none
        | y :: q =>
          if code = 138 then (match q with | [] => none | x :: o => some (o.reverse ++ [y, z, x]))
          else if code = 35 then some (q.reverse ++ [z, y])
          else some (q.reverse ++ [b2i (cmpB code y z)])
theorem lo_far {c : Int} {ns : List Int} (h1 : c ≠ 32) (h2 : ¬ (c = 33 ∨ c = 126)) (h3 : c ≠ 34) (h4 : c ≠ 36) : loneOp c ns = loR none (loY c) ns.reverse := (if_neg h1).trans ((if_neg h2).trans ((if_neg h3).trans (if_neg h4)))
theorem loY_far {c z : Int} {r : List Int} (h5 : ¬ (c = 86 ∨ c = 87 ∨ c = 92)) (h6 : ¬ (c = 37 ∨ c = 38)) : loY c z r = loR none (fun y q => if c = 138 then (match q with | [] => none | x :: o => some (o.reverse ++ [y, z, x])) else if c = 35 then some (q.reverse ++ [z, y]) else some (q.reverse ++ [b2i (cmpB c y z)])) r := (if_neg h5).trans (if_neg h6)
theorem no2 {p q : Prop} (h : ¬ p ∧ ¬ q) : ¬ (p ∨ q) := not_or.mpr h
theorem no3 {p q r : Prop} (h : ¬ p ∧ ¬ q ∧ ¬ r) : ¬ (p ∨ q ∨ r) := fun k => k.elim h.1 (no2 h.2)
theorem ln9 {code : Int} {ns : List Int} (h1 : code ≠ 32) (h2 : (List.any [33, 126] fun x => x == code) = false) (h3 : code ≠ 34) (h4 : code ≠ 36) (h5 : (List.any [86, 87, 92] fun x => x == code) = false) (h6 : (List.any [37, 38] fun x => x == code) = false) (e : (ns.length : Int) < 2) : loneOp code ns = none := by
  rw [lo_far h1 (no2 (nany2 h2)) h3 h4]
  rcases rev_cases ns with rfl | ⟨r, z, rfl⟩
  · rfl
  rw [loR_snoc, loY_far (no3 (nany3 h5)) (no2 (nany2 h6))]
  rcases rev_cases r with rfl | ⟨r, y, rfl⟩
  · rfl
  exact absurd e (by simp only [List.length_append, List.length_cons, List.length_nil]; omega)
theorem ls1 {code : Int} {ns : List Int} (h : code = 32) (e : decide (ns = []) = false) (e2 : (ns.length : Int) < 12) : loneOp code ns = some (ns ++ List.drop (ns.length - 1) ns) := by
  subst h; exact if_pos (c := ns ≠ [] ∧ ns.length < 12) ⟨dec_f e, Int.ofNat_lt.mp e2⟩
theorem ls2 {code : Int} {ns : List Int} (h : (List.any [33, 126] fun x => x == code) = true) (e : decide (ns = []) = false) : loneOp code ns = some (List.take (ns.length - 1) ns) := by
  rw [← List.dropLast_eq_take]; rcases any2 h with rfl | rfl <;> exact if_pos (dec_f e)
theorem ls3 {code : Int} {ns : List Int} (h : code = 34) : loneOp code ns = some [] := by subst h; rfl
theorem ls4 {code : Int} {ns : List Int} (h : code = 36) (e2 : (ns.length : Int) < 12) : loneOp code ns = some (ns ++ [(ns.length : Int)]) := by
  subst h; exact if_pos (Int.ofNat_lt.mp e2)
theorem ls9 {code : Int} {ns : List Int} (h : code = 138) (e : 2 < (ns.length : Int)) : loneOp code ns = some (List.take (ns.length - 3) ns ++ [ns.getD (Int.toNat (-2 + (ns.length : Int))) 0, ns.getD (Int.toNat (-1 + (ns.length : Int))) 0, ns.getD (Int.toNat (-3 + (ns.length : Int))) 0]) := by
  subst h; obtain ⟨r, x, y, z, rfl⟩ := nsp3 e
  rw [getD_1, getD_2, getD_3, take_3, lo138, loR_snoc, loR_snoc, loR_snoc, List.reverse_reverse]
theorem ls10 {code : Int} {ns : List Int} (h : code = 35) (e : ¬ (ns.length : Int) < 2) : loneOp code ns = some (List.take (ns.length - 2) ns ++ [ns.getD (Int.toNat (-1 + (ns.length : Int))) 0, ns.getD (Int.toNat (-2 + (ns.length : Int))) 0]) := by
  subst h; obtain ⟨r, y, z, rfl⟩ := nsp2 e
  rw [getD_1, getD_2, take_2, lo35, loR_snoc, loR_snoc, List.reverse_reverse]
theorem ls11 {code : Int} {ns : List Int} (h1 : code ≠ 32) (h2 : (List.any [33, 126] fun x => x == code) = false) (h3 : code ≠ 34) (h4 : code ≠ 36) (h5 : (List.any [86, 87, 92] fun x => x == code) = false) (h6 : (List.any [37, 38] fun x => x == code) = false) (h7 : code ≠ 138) (h8 : code ≠ 35) (e : ¬ (ns.length : Int) < 2) :
    loneOp code ns = some (List.take (ns.length - 2) ns ++ [b2i (cmpB code (ns.getD (Int.toNat (-2 + (ns.length : Int))) 0) (ns.getD (Int.toNat (-1 + (ns.length : Int))) 0))]) := by
  obtain ⟨r, y, z, rfl⟩ := nsp2 e
  rw [getD_1, getD_2, take_2, lo_far h1 (no2 (nany2 h2)) h3 h4, loR_snoc, loY_far (no3 (nany3 h5)) (no2 (nany2 h6)), loR_snoc, if_neg h7, if_neg h8, List.reverse_reverse]
theorem ln7 {code : Int} {ns : List Int} (h : (List.any [37, 38] fun x => x == code) = true) (e : decide (ns = []) = false) (e1 : ¬ 1 ≤ ns.getD (Int.toNat (-1 + (ns.length : Int))) 0) : loneOp code ns = none := by
  obtain ⟨r, z, rfl⟩ := nspl e
  rw [getD_1] at e1
  rcases any2 h with rfl | rfl
  · rw [lo37, loR_snoc]; exact if_neg fun k => e1 k.1
  · rw [lo38, loR_snoc]; exact if_neg fun k => e1 k.1
theorem ln7b {code : Int} {ns : List Int} (h : (List.any [37, 38] fun x => x == code) = true) (e : decide (ns = []) = false) (e1 : ¬ ns.getD (Int.toNat (-1 + (ns.length : Int))) 0 ≤ ((List.take (ns.length - 1) ns).length : Int)) : loneOp code ns = none := by
  obtain ⟨r, z, rfl⟩ := nspl e
  rw [getD_1, take_1] at e1
  rcases any2 h with rfl | rfl
  · rw [lo37, loR_snoc]; exact if_neg fun k => e1 (by rw [← List.length_reverse]; exact k.2)
  · rw [lo38, loR_snoc]; exact if_neg fun k => e1 (by rw [← List.length_reverse]; exact k.2)
theorem ls5 {code : Int} {ns : List Int} (h : code = 92) (e : decide (ns = []) = false) : loneOp code ns = some (List.take (ns.length - 1) ns ++ [if (ns.getD (Int.toNat (-1 + (ns.length : Int))) 0 == 0) = true then 1 else 0]) := by
  subst h; obtain ⟨r, z, rfl⟩ := nspl e
  rw [getD_1, take_1, lo92, loR_snoc, loYB, List.reverse_reverse]; rfl
theorem ls6 {code : Int} {ns : List Int} (h : (List.any [86, 87, 92] fun x => x == code) = true) (h2 : code ≠ 92) (e : decide (ns = []) = false) :
    loneOp code ns = some (List.take (ns.length - 1) ns ++ [if (decide (rnd (ns.getD (Int.toNat (-1 + (ns.length : Int))) 0) % 128 = 64) == (code == 86)) = true then 1 else 0]) := by
  obtain ⟨r, z, rfl⟩ := nspl e
  rw [getD_1, take_1]
  rcases any3 h with rfl | rfl | rfl
  · rw [lo86, loR_snoc, loYB, List.reverse_reverse]; rfl
  · rw [lo87, loR_snoc, loYB, List.reverse_reverse]; rfl
  · exact absurd rfl h2
theorem posN {z : Int} (h1 : 1 ≤ z) : ∃ n : Nat, z = ((n + 1 : Nat) : Int) := by
  obtain ⟨m, rfl⟩ := Int.eq_ofNat_of_zero_le (Int.le_trans (by decide) h1)
  cases m with
  | zero => exact absurd h1 (by decide)
  | succ n => exact ⟨n, rfl⟩
theorem getD_at {r : List Int} {z : Int} (h1 : 1 ≤ z) (h2 : z ≤ (r.length : Int)) : r.getD (Int.toNat ((r.length : Int) - z)) 0 = r.reverse.getD (z - 1).toNat 0 := by
  obtain ⟨n, rfl⟩ := posN h1
  rw [Int.toNat_sub, show (((n + 1 : Nat) : Int) - 1).toNat = n from Int.toNat_sub (n + 1) 1, List.getD_eq_getElem?_getD, List.getD_eq_getElem?_getD, List.getElem?_reverse (Int.ofNat_le.mp h2), Nat.sub_sub, Nat.add_comm 1 n]
theorem ls7 {code : Int} {ns : List Int} (h : code = 37) (e : decide (ns = []) = false) (e1 : 1 ≤ ns.getD (Int.toNat (-1 + (ns.length : Int))) 0) (e2 : ns.getD (Int.toNat (-1 + (ns.length : Int))) 0 ≤ ((List.take (ns.length - 1) ns).length : Int)) :
    loneOp code ns = some (List.take (ns.length - 1) ns ++ [(List.take (ns.length - 1) ns).getD (Int.toNat (((List.take (ns.length - 1) ns).length : Int) - ns.getD (Int.toNat (-1 + (ns.length : Int))) 0)) 0]) := by
  subst h; obtain ⟨r, z, rfl⟩ := nspl e
  rw [getD_1] at e1; rw [getD_1, take_1] at e2
  rw [getD_1, take_1, getD_at e1 e2, lo37, loR_snoc, loY37, List.reverse_reverse, List.length_reverse]
  exact if_pos ⟨e1, e2⟩
theorem toN1 {m n : Nat} (h : n ≤ m) : Int.toNat ((m : Int) - (n : Int) + 1) = m - n + 1 := by rw [← Int.ofNat_sub h]; rfl
theorem ls8 {code : Int} {ns : List Int} (h : (List.any [37, 38] fun x => x == code) = true) (h2 : code ≠ 37) (e : decide (ns = []) = false) (e1 : 1 ≤ ns.getD (Int.toNat (-1 + (ns.length : Int))) 0) (e2 : ns.getD (Int.toNat (-1 + (ns.length : Int))) 0 ≤ ((List.take (ns.length - 1) ns).length : Int)) :
    loneOp code ns = some (List.take (Int.toNat (((List.take (ns.length - 1) ns).length : Int) - ns.getD (Int.toNat (-1 + (ns.length : Int))) 0)) (List.take (ns.length - 1) ns) ++ List.drop (Int.toNat (((List.take (ns.length - 1) ns).length : Int) - ns.getD (Int.toNat (-1 + (ns.length : Int))) 0 + 1)) (List.take (ns.length - 1) ns) ++ [(List.take (ns.length - 1) ns).getD (Int.toNat (((List.take (ns.length - 1) ns).length : Int) - ns.getD (Int.toNat (-1 + (ns.length : Int))) 0)) 0]) := by
  have hc : code = 38 := (any2 h).resolve_left h2
  subst hc; obtain ⟨r, z, rfl⟩ := nspl e
  rw [getD_1] at e1; rw [getD_1, take_1] at e2
  rw [getD_1, take_1, getD_at e1 e2, lo38, loR_snoc, loY38, List.reverse_reverse, List.length_reverse, if_pos ⟨e1, e2⟩]
  obtain ⟨n, rfl⟩ := posN e1
  rw [Int.toNat_sub, toN1 (Int.ofNat_le.mp e2)]; rfl
noncomputable def loneF_S (w : World) (mean : ExcName → Option Value) (mg mb : Str → Option Value) (dp un : Nat) (gd : Option (List Code)) (cn : Str) (cs : Scope) (a : Addr) (ccd : Value) (cl : List (Str × Addr)) (outer : List Env) (A₀ : Around) (base h₀ : Heap) (L : Addr) (m : Str → Option Value) (s : Shared) (Q E : Value → Shared → Prop) (rest : List (Addr × Obj)) (code : Int) (tc : Tok) (vs : List Value) (k : Nat) (D : Addr) (ns : List Int) : Prop := ∀ (B : Below A₀ base outer h₀) (F : Fr h₀ L s.heap m) (X : (lay.heap_1 w.params).In h₀) (N : News h₀ L s.heap ((D, listOf vs.toArray k) :: rest)) (T' : Top view (looseW view [Str.ofString "HintWork"]) mean mg mb h₀) (hk : cs.kind = .function) (hdp : dp + 6 < recursionLimit) (hun : un + 128 < cLine)  (hcd : LoneCode code) (hvs : IntsAre vs ns) (hl : ns.length ≤ 12) (hb : ∀ x ∈ ns, -(10 ^ 10) < x ∧ x < 10 ^ 10) (hnone : loneOp code ns = none → ∀ h' tk', Fr h₀ L h' m → News h₀ L h' ((D, listOf vs.toArray k) :: rest) → Q .none { s with heap := h', toks := tk' }) (hsome : ∀ l h9 tk9 D9 vs9 k9, loneOp code ns = some l → Fr h₀ L h9 m → News h₀ L h9 ((D9, listOf (List.toArray vs9) k9) :: (D, listOf (List.toArray vs) k) :: rest) → IntsAre vs9 l → (@LT.lt Nat _ D D9 ∧ AllLt D9 rest) → Q (.ref D9) { s with heap := h9, toks := tk9 }),
  wpAny (model PySem.Challenge.rw_on0247_01.row.toRowW.prog w) (ktrTop dp un gd cn cs L a ccd cl outer) (call (.ref 536) [.int code tc, .ref D]) Q E s
noncomputable def LloneF_S (p : Bag) : Prop := (loneF_S (p.fWo 0) (p.fMe 0) (p.fM 0) (p.fM 1) (p.fN 0) (p.fN 1) (p.fGD 0) (p.fSt 0) (p.fSc 0) (p.fA 0) (p.fV 0) (p.fCL 0) (p.fEn 0) (p.fAr 0) (p.fH 0) (p.fH 1) (p.fA 1) (p.fM 2) (p.fSh 0) (p.fQ 0) (p.fQ 1) (p.fAO 0) (p.fI 0) (p.fT 0) (p.fVL 0) (p.fN 2) (p.fA 2) (p.fIL 0))
noncomputable def LloneF_c : Bag := skc LloneF_S
theorem loneF_at : loneF_S (LloneF_c.fWo 0) (LloneF_c.fMe 0) (LloneF_c.fM 0) (LloneF_c.fM 1) (LloneF_c.fN 0) (LloneF_c.fN 1) (LloneF_c.fGD 0) (LloneF_c.fSt 0) (LloneF_c.fSc 0) (LloneF_c.fA 0) (LloneF_c.fV 0) (LloneF_c.fCL 0) (LloneF_c.fEn 0) (LloneF_c.fAr 0) (LloneF_c.fH 0) (LloneF_c.fH 1) (LloneF_c.fA 1) (LloneF_c.fM 2) (LloneF_c.fSh 0) (LloneF_c.fQ 0) (LloneF_c.fQ 1) (LloneF_c.fAO 0) (LloneF_c.fI 0) (LloneF_c.fT 0) (LloneF_c.fVL 0) (LloneF_c.fN 2) (LloneF_c.fA 2) (LloneF_c.fIL 0) :=
  (by intro hz8; exact hz8 : (have hz8 : loneF_S (LloneF_c.fWo 0) (LloneF_c.fMe 0) (LloneF_c.fM 0) (LloneF_c.fM 1) (LloneF_c.fN 0) (LloneF_c.fN 1) (LloneF_c.fGD 0) (LloneF_c.fSt 0) (LloneF_c.fSc 0) (LloneF_c.fA 0) (LloneF_c.fV 0) (LloneF_c.fCL 0) (LloneF_c.fEn 0) (LloneF_c.fAr 0) (LloneF_c.fH 0) (LloneF_c.fH 1) (LloneF_c.fA 1) (LloneF_c.fM 2) (LloneF_c.fSh 0) (LloneF_c.fQ 0) (LloneF_c.fQ 1) (LloneF_c.fAO 0) (LloneF_c.fI 0) (LloneF_c.fT 0) (LloneF_c.fVL 0) (LloneF_c.fN 2) (LloneF_c.fA 2) (LloneF_c.fIL 0) := (by
  refine (?layF0 : ∀ w mean mg mb dp un gd cn cs a ccd cl outer A₀ base h₀ L m s Q E rest code tc vs k D ns, loneF_S w mean mg mb dp un gd cn cs a ccd cl outer A₀ base h₀ L m s Q E rest code tc vs k D ns) (LloneF_c.fWo 0) (LloneF_c.fMe 0) (LloneF_c.fM 0) (LloneF_c.fM 1) (LloneF_c.fN 0) (LloneF_c.fN 1) (LloneF_c.fGD 0) (LloneF_c.fSt 0) (LloneF_c.fSc 0) (LloneF_c.fA 0) (LloneF_c.fV 0) (LloneF_c.fCL 0) (LloneF_c.fEn 0) (LloneF_c.fAr 0) (LloneF_c.fH 0) (LloneF_c.fH 1) (LloneF_c.fA 1) (LloneF_c.fM 2) (LloneF_c.fSh 0) (LloneF_c.fQ 0) (LloneF_c.fQ 1) (LloneF_c.fAO 0) (LloneF_c.fI 0) (LloneF_c.fT 0) (LloneF_c.fVL 0) (LloneF_c.fN 2) (LloneF_c.fA 2) (LloneF_c.fIL 0)
  intro w mean mg mb dp un gd cn cs a ccd cl outer A₀ base h₀ L m s Q E rest code tc vs k D ns B F X N T' hk hdp hun hcd hvs hl hb hnone hsome
  have sken := sken
  have skon := skon
  revert X; k_fill; intro X
  refine wpAny_call ?_
  k_extra "x_enterF"
  k_steps
  all_goals first
    | (refine hnone ?_ _ _ (by k_asm) (cb_drop (by with_reducible assumption) (by k_extra "m_drop")); first | exact ln1 (by with_reducible assumption) (by with_reducible assumption) | exact ln2 (by with_reducible assumption) (by with_reducible assumption) | exact ln3 (by with_reducible assumption) (by with_reducible assumption) | exact ln4 (by with_reducible assumption) (by with_reducible assumption) | exact ln5 (by with_reducible assumption) (by with_reducible assumption) | exact ln6 (by with_reducible assumption) (by with_reducible assumption) | exact ln8 (by with_reducible assumption) (by with_reducible assumption) | exact ln7 (by with_reducible assumption) (by with_reducible assumption) (by with_reducible assumption) | exact ln7b (by with_reducible assumption) (by with_reducible assumption) (by with_reducible assumption) | exact ln9 (by with_reducible assumption) (by with_reducible assumption) (by with_reducible assumption) (by with_reducible assumption) (by with_reducible assumption) (by with_reducible assumption) (by with_reducible assumption) )
    | (refine' hsome _ _ _ _ _ _ ?eq7 (by k_asm) (drop_head (by with_reducible assumption) (by k_extra "m_drop")) ?iq7 ?ltq7; (case eq7 => first | exact ls1 (by with_reducible assumption) (by with_reducible assumption) (by with_reducible assumption) | exact ls2 (by with_reducible assumption) (by with_reducible assumption) | exact ls3 (by with_reducible assumption) | exact ls4 (by with_reducible assumption) (by with_reducible assumption) | exact ls9 (by with_reducible assumption) (by with_reducible assumption) | exact ls5 (by with_reducible assumption) (by with_reducible assumption) | exact ls6 (by with_reducible assumption) (by with_reducible assumption) (by with_reducible assumption) | exact ls7 (by with_reducible assumption) (by with_reducible assumption) (by with_reducible assumption) (by with_reducible assumption) | exact ls8 (by with_reducible assumption) (by with_reducible assumption) (by with_reducible assumption) (by with_reducible assumption) (by with_reducible assumption) | exact ls10 (by with_reducible assumption) (by with_reducible assumption) | exact ls11 (by with_reducible assumption) (by with_reducible assumption) (by with_reducible assumption) (by with_reducible assumption) (by with_reducible assumption) (by with_reducible assumption) (by with_reducible assumption) (by with_reducible assumption) (by with_reducible assumption) ); (case iq7 => k_extra "m_ints"); (case ltq7 => k_extra "m_suf"))); loneF_S (LloneF_c.fWo 0) (LloneF_c.fMe 0) (LloneF_c.fM 0) (LloneF_c.fM 1) (LloneF_c.fN 0) (LloneF_c.fN 1) (LloneF_c.fGD 0) (LloneF_c.fSt 0) (LloneF_c.fSc 0) (LloneF_c.fA 0) (LloneF_c.fV 0) (LloneF_c.fCL 0) (LloneF_c.fEn 0) (LloneF_c.fAr 0) (LloneF_c.fH 0) (LloneF_c.fH 1) (LloneF_c.fA 1) (LloneF_c.fM 2) (LloneF_c.fSh 0) (LloneF_c.fQ 0) (LloneF_c.fQ 1) (LloneF_c.fAO 0) (LloneF_c.fI 0) (LloneF_c.fT 0) (LloneF_c.fVL 0) (LloneF_c.fN 2) (LloneF_c.fA 2) (LloneF_c.fIL 0)))
theorem LloneF_all : ∀ p, LloneF_S p := sk (loneF_at)
noncomputable def LloneF_bag (w : World) (mean : ExcName → Option Value) (mg mb : Str → Option Value) (dp un : Nat) (gd : Option (List Code)) (cn : Str) (cs : Scope) (a : Addr) (ccd : Value) (cl : List (Str × Addr)) (outer : List Env) (A₀ : Around) (base h₀ : Heap) (L : Addr) (m : Str → Option Value) (s : Shared) (Q E : Value → Shared → Prop) (rest : List (Addr × Obj)) (code : Int) (tc : Tok) (vs : List Value) (k : Nat) (D : Addr) (ns : List Int) : Bag := ⟨fun ix9 => [a, L, D].getD ix9 (bag0.fA 0), fun ix9 => [tc].getD ix9 (bag0.fT 0), fun ix9 => [code].getD ix9 (bag0.fI 0), fun ix9 => [dp, un, k].getD ix9 (bag0.fN 0), fun ix9 => [ccd].getD ix9 (bag0.fV 0), fun ix9 => [].getD ix9 (bag0.fO 0), fun ix9 => [vs].getD ix9 (bag0.fVL 0), fun ix9 => [ns].getD ix9 (bag0.fIL 0), fun ix9 => [].getD ix9 (bag0.fKV 0), fun ix9 => [].getD ix9 (bag0.fKI 0), fun ix9 => [rest].getD ix9 (bag0.fAO 0), fun ix9 => [].getD ix9 (bag0.fU 0), fun ix9 => [].getD ix9 (bag0.fG 0), fun ix9 => [].getD ix9 (bag0.fPr 0), fun ix9 => [].getD ix9 (bag0.fEv 0), fun ix9 => [].getD ix9 (bag0.fSs 0), fun ix9 => [].getD ix9 (bag0.fEx 0), fun ix9 => [].getD ix9 (bag0.fQF 0), fun ix9 => [].getD ix9 (bag0.fJ 0), fun ix9 => [w].getD ix9 (bag0.fWo 0), fun ix9 => [mean].getD ix9 (bag0.fMe 0), fun ix9 => [mg, mb, m].getD ix9 (bag0.fM 0), fun ix9 => [gd].getD ix9 (bag0.fGD 0), fun ix9 => [cn].getD ix9 (bag0.fSt 0), fun ix9 => [cs].getD ix9 (bag0.fSc 0), fun ix9 => [cl].getD ix9 (bag0.fCL 0), fun ix9 => [outer].getD ix9 (bag0.fEn 0), fun ix9 => [A₀].getD ix9 (bag0.fAr 0), fun ix9 => [base, h₀].getD ix9 (bag0.fH 0), fun ix9 => [s].getD ix9 (bag0.fSh 0), fun ix9 => [Q, E].getD ix9 (bag0.fQ 0)⟩
theorem loneF {w mean mg mb dp un gd cn cs a ccd cl outer A₀ base h₀ L m s Q E rest code tc vs k D ns} : loneF_S w mean mg mb dp un gd cn cs a ccd cl outer A₀ base h₀ L m s Q E rest code tc vs k D ns := LloneF_all (LloneF_bag w mean mg mb dp un gd cn cs a ccd cl outer A₀ base h₀ L m s Q E rest code tc vs k D ns)
theorem lone {w : World} {mean : ExcName → Option Value} {mg mb : Str → Option Value} {dp un : Nat} {gd : Option (List Code)} {cn : Str} {cs : Scope} {a : Addr} {ccd : Value} {cl : List (Str × Addr)} {outer : List Env} {A₀ : Around} {base h₀ : Heap} {L : Addr} {m : Str → Option Value} {s : Shared} {Q E : Value → Shared → Prop}
   {news : List (Addr × Obj)} {code : Int} {tc : Tok} {vs : List Value} {k : Nat} {D : Addr} {ns : List Int}
   (B : Below A₀ base outer h₀) (F : Fr h₀ L s.heap m) (X : (lay.heap_1 w.params).In h₀) (N : News h₀ L s.heap news) (T' : Top view (looseW view [Str.ofString "HintWork"]) mean mg mb h₀) (hk : cs.kind = .function) (hdp : dp + 6 < recursionLimit) (hun : un + 128 < cLine) (mD : (D, listOf vs.toArray k) ∈ news)
   (hcd : LoneCode code) (hvs : IntsAre vs ns) (hl : ns.length ≤ 12) (hb : ∀ x ∈ ns, -(10 ^ 10) < x ∧ x < 10 ^ 10)
   (hnone : ∀ h9 tk9, loneOp code ns = none → Fr h₀ L h9 m → News h₀ L h9 news → Q .none { s with heap := h9, toks := tk9 })
   (hsome : ∀ l h9 tk9 D9 vs9 k9, loneOp code ns = some l → Fr h₀ L h9 m → News h₀ L h9 ((D9, listOf (List.toArray vs9) k9) :: news) → IntsAre vs9 l → (∀ p ∈ news, @LT.lt Nat _ p.1 D9) → Q (.ref D9) { s with heap := h9, toks := tk9 }) :
   wpAny (model PySem.Challenge.rw_on0247_01.row.toRowW.prog w) (ktrTop dp un gd cn cs L a ccd cl outer) (call (.ref 536) [.int code tc, .ref D]) Q E s := by
  refine loneF (rest := news) (k := k) (vs := vs) B F X (fun p hp => N p ?_) T' hk hdp hun hcd hvs hl hb (fun e h9 tk9 F9 N9 => hnone h9 tk9 e F9 (fun p hp => N9 p (.tail _ hp))) (fun l h9 tk9 D9 vs9 k9 e F9 N9 I9 l9 => hsome l h9 tk9 D9 vs9 k9 e F9 (fun p hp => N9 p ?_) I9 (allLt_mem l9.2))
  · rcases List.mem_cons.mp hp with rfl | hp
    · exact mD
    · exact hp
  · rcases List.mem_cons.mp hp with rfl | hp
    · exact .head _
    · exact .tail _ (.tail _ hp)
theorem reg16 : True := by
  (k_with "call ref" => first | ((k_here; (with_reducible show wpAny _ _ (call (Value.ref 536) _) _ _ _); k_dflt (apply lone; (focus (k_asm)); (focus (k_asm)); (focus (k_asm)); (focus (k_asm)); (focus (k_asm)); (focus (first | exact rfl | assumption)); (focus (ktr_room)); (focus (ktr_units)); (focus (k_mem)); (focus (k_extra "m_lcode")); (focus (with_reducible assumption)); (focus (with_reducible assumption)); (focus (with_reducible assumption)); k_whole); all_goals (first | (intro l'z9 h'z9 tk'z9 D'z9 vs'z9 k'z9 e'z9 F'z9 N'z9 I'z9 l1z9; (try k_lt l1z9); (try dsimp only); (try k_extra "x_fold")) | ((k_extra "x_in3"; intro F'z9 N'z9); (try dsimp only); (try k_extra "x_fold"))))) | fail "no")
  trivial
section
theorem dsetK_C {prog : Program} {w : World} {A : Around} {E : Value → Shared → Prop} {hh : Heap} {gg : Array GenState} {dd : Drawn} {tt : Nat} {so : OsState} {h₀ : Heap} {L : Addr} {m : Str → Option Value} {news : List (Addr × Obj)} {d : Addr} {u : Obj → List (Addr × Obj)} {o : Obj} {kvs : List (Int × Value)} {c : List (Int × Int)} {k e : Int} {tk te : Tok} {Q : Unit → Shared → Prop}
    (F : Fr h₀ L hh m) (N : News h₀ L hh news) (U : UpdF d o news u) (hd : o.IsDictOf (PySem.intKind prog w) kvs) (hf : PyProof.V.FlatPairs PyData.int kvs (kdfD c)) (hc : c.length ≤ 16777216)
    (h : ∀ h' o' kvs', Fr h₀ L h' m → News h₀ L h' (u o') → o'.IsDictOf (PySem.intKind prog w) kvs' → PyProof.V.FlatPairs PyData.int kvs' (kdfD (kdfPut c k e)) → Q () ⟨h', gg, dd, tt + 1, so⟩) :
    wpAny (model prog w) A (setItem (.ref d) (.int k tk) (.int e te)) Q E ⟨hh, gg, dd, tt, so⟩ := kdf_setItem (s := ⟨hh, gg, dd, tt, so⟩) F N U hd hf hc h
structure ApartB (bk bs bc bd : Addr) : Prop where
  b_bk_bs : @Ne Nat bk bs
  b_bk_bc : @Ne Nat bk bc
  b_bk_bd : @Ne Nat bk bd
  b_bs_bc : @Ne Nat bs bc
  b_bs_bd : @Ne Nat bs bd
  b_bc_bd : @Ne Nat bc bd
noncomputable def heldOp (code : Int) (ns cns : List Int) (cst : List (Int × Int)) : Option (List Int × List Int × List (Int × Int)) :=
  if code = 75 ∨ code = 76 then (if ns.length < 12 then some (ns ++ [if code = 75 then 12 else 700], cns, cst) else none)
  else match ns.reverse with
  | [] => none
  | z :: r =>
    if code = 67 then some (r.reverse ++ [kdfLook cst z 0], cns, cst)
    else if code = 69 then (if 0 ≤ z ∧ z < 3 then some (r.reverse ++ [cns.getD z.toNat 0], cns, cst) else none)
    else if code = 136 then some (r.reverse ++ [35 * (z % 2)], cns, cst)
    else match r with
    | [] => none
    | y :: q =>
      if code = 66 then some (q.reverse, cns, kdfPut cst y z)
      else if 0 ≤ y ∧ y < 3 then some (q.reverse, cns.set y.toNat (if code = 68 then z else near z 3 2), cst)
      else none
local macro_rules | `(tactic| k_all) => `(tactic| k_extra "x_all #P15")
local macro_rules | `(tactic| k_upd) => `(tactic| k_extra "x_upd #P15")
local macro_rules | `(tactic| k_updF) => `(tactic| k_extra "x_updF #P15")
local macro_rules | `(tactic| walk_at $s:str) => `(tactic| k_extra $(Lean.Syntax.mkStrLit (s.getString ++ " #P15")))
theorem reg17 : True := by
  (k_with "m_ne" => first | (((try dsimp only); first | with_reducible assumption | (with_reducible refine Ne.symm ?_; with_reducible assumption) | exact ApartB.b_bk_bs (by with_reducible assumption) | exact Ne.symm (ApartB.b_bk_bs (by with_reducible assumption)) | exact ApartB.b_bk_bc (by with_reducible assumption) | exact Ne.symm (ApartB.b_bk_bc (by with_reducible assumption)) | exact ApartB.b_bk_bd (by with_reducible assumption) | exact Ne.symm (ApartB.b_bk_bd (by with_reducible assumption)) | exact ApartB.b_bs_bc (by with_reducible assumption) | exact Ne.symm (ApartB.b_bs_bc (by with_reducible assumption)) | exact ApartB.b_bs_bd (by with_reducible assumption) | exact Ne.symm (ApartB.b_bs_bd (by with_reducible assumption)) | exact ApartB.b_bc_bd (by with_reducible assumption) | exact Ne.symm (ApartB.b_bc_bd (by with_reducible assumption)) | k_ne)) | fail "no")
  (k_with "x_all #P15" => first | (first | exact List.forall_mem_nil _ | (refine' List.forall_mem_cons.mpr ⟨(by k_extra "m_ne"), (by k_all)⟩)| exact OwnOff.ne (by assumption) (by k_memK)) | fail "no")
  (k_with "x_upd #P15" => first | (first | (apply Upd.head; (focus (k_all))) | (apply Upd.tail; (focus (k_extra "m_ne")); (focus (k_upd)))) | fail "no")
  (k_with "x_updF #P15" => first | (first | (apply UpdF.head; (focus (k_all))) | (apply UpdF.tail; (focus (k_extra "m_ne")); (focus (k_updF)))) | fail "no")
  (k_with "setItem ref int #P15" => first | ((k_here; (with_reducible rename News _ _ _ ((Array.size _, _) :: _) => N9); replace N9 := cb_drop N9 (fun p hp => List.mem_cons_of_mem _ hp))) | fail "no")
  (k_with "setItem ref int #P15" => first | ((k_here; (fail_if_success (with_reducible rename News _ _ _ ((Array.size _, _) :: _) => N9)); kdf_here; (try dsimp only); (with_reducible show wpAny _ _ (setItem (Value.ref _) (Value.int _ _) (Value.int _ _)) _ _ _); k_dflt (apply dsetK_C; (focus (k_asm)); (focus (k_asm)); (focus (k_updF)); (focus (k_asm)); (focus (k_asm)); (focus (omega))); intro h'z9 o'z9 kvs'z9 F'z9 N'z9 hd'z9 hf'z9; (try dsimp only at N'z9))) | fail "no")
  trivial
noncomputable def loG {α : Type} (Y : Int → List Int → Option α) (l : List Int) : Option α := match l with | [] => none | z :: r => Y z r
theorem loG_snoc {α : Type} {Y : Int → List Int → Option α} {r : List Int} {z : Int} : loG Y (r ++ [z]).reverse = Y z r.reverse := by rw [lnb]; rfl
noncomputable def heZ (code : Int) (cns : List Int) (cst : List (Int × Int)) (z y : Int) (q : List Int) : Option (List Int × List Int × List (Int × Int)) :=
      if code = 66 then some (q.reverse, cns, kdfPut cst y z)
      else if 0 ≤ y ∧ y < 3 then some (q.reverse, cns.set y.toNat (if code = 68 then z else near z 3 2), cst)
      else none
noncomputable def heY (code : Int) (cns : List Int) (cst : List (Int × Int)) (z : Int) (r : List Int) : Option (List Int × List Int × List (Int × Int)) :=
    if code = 67 then some (r.reverse ++ [kdfLook cst z 0], cns, cst)
    else if code = 69 then (if 0 ≤ z ∧ z < 3 then some (r.reverse ++ [cns.getD z.toNat 0], cns, cst) else none)
    else if code = 136 then some (r.reverse ++ [35 * (z % 2)], cns, cst)
    else loG (heZ code cns cst z) r
theorem he_far {c : Int} {ns cns : List Int} {cst : List (Int × Int)} (h : ¬ (c = 75 ∨ c = 76)) : heldOp c ns cns cst = loG (heY c cns cst) ns.reverse := (if_neg h).trans rfl
theorem heY_far {c z : Int} {r cns : List Int} {cst : List (Int × Int)} (h : c ≠ 67 ∧ c ≠ 69 ∧ c ≠ 136) : heY c cns cst z r = loG (heZ c cns cst z) r := (if_neg h.1).trans ((if_neg h.2.1).trans (if_neg h.2.2))
theorem he_z {c z : Int} {r cns : List Int} {cst : List (Int × Int)} (h : ¬ (c = 75 ∨ c = 76)) : heldOp c (r ++ [z]) cns cst = heY c cns cst z r.reverse := (he_far h).trans loG_snoc
theorem he_yz {c y z : Int} {r cns : List Int} {cst : List (Int × Int)} (h : ¬ (c = 75 ∨ c = 76)) (h2 : c ≠ 67 ∧ c ≠ 69 ∧ c ≠ 136) : heldOp c (r ++ [y] ++ [z]) cns cst = heZ c cns cst z y r.reverse := (he_z h).trans ((heY_far h2).trans loG_snoc)
theorem hs1 {code : Int} {ns cns : List Int} {cst : List (Int × Int)} (h : code = 75) (e : (ns.length : Int) < 12) : heldOp code ns cns cst = some (ns ++ [12], cns, cst) := by
  subst h; exact if_pos (c := ns.length < 12) (Int.ofNat_lt.mp e)
theorem hs2 {code : Int} {ns cns : List Int} {cst : List (Int × Int)} (h : (List.any [75, 76] fun x => x == code) = true) (h2 : code ≠ 75) (e : (ns.length : Int) < 12) : heldOp code ns cns cst = some (ns ++ [700], cns, cst) := by
  obtain rfl : code = 76 := (any2 h).resolve_left h2
  exact if_pos (c := ns.length < 12) (Int.ofNat_lt.mp e)
theorem hn1 {code : Int} {ns cns : List Int} {cst : List (Int × Int)} (h : (List.any [75, 76] fun x => x == code) = true) (e : ¬ (ns.length : Int) < 12) : heldOp code ns cns cst = none := by
  rcases any2 h with rfl | rfl <;> exact if_neg (c := ns.length < 12) (lt_nat (k := 12) e)
theorem hn2 {code : Int} {ns cns : List Int} {cst : List (Int × Int)} (h : (List.any [75, 76] fun x => x == code) = false) (e : decide (ns = []) = true) : heldOp code ns cns cst = none := by
  rw [he_far (no2 (nany2 h)), dec_t e]; rfl
theorem hs3 {code : Int} {ns cns : List Int} {cst : List (Int × Int)} (h : code = 69) (e : decide (ns = []) = false) (e1 : 0 ≤ ns.getD (Int.toNat (-1 + (ns.length : Int))) 0) (e2 : ns.getD (Int.toNat (-1 + (ns.length : Int))) 0 < 3) :
    heldOp code ns cns cst = some (List.take (ns.length - 1) ns ++ [cns.getD (Int.toNat (ns.getD (Int.toNat (-1 + (ns.length : Int))) 0)) 0], cns, cst) := by
  subst h; obtain ⟨r, z, rfl⟩ := nspl e
  rw [getD_1] at e1 e2; rw [getD_1, take_1, he_z (by decide)]
  exact (if_pos (c := 0 ≤ z ∧ z < 3) ⟨e1, e2⟩).trans (by rw [List.reverse_reverse])
theorem hn3 {code : Int} {ns cns : List Int} {cst : List (Int × Int)} (h : code = 69) (e : decide (ns = []) = false) (e1 : ¬ 0 ≤ ns.getD (Int.toNat (-1 + (ns.length : Int))) 0) : heldOp code ns cns cst = none := by
  subst h; obtain ⟨r, z, rfl⟩ := nspl e
  rw [getD_1] at e1; rw [he_z (by decide)]; exact if_neg (c := 0 ≤ z ∧ z < 3) fun k => e1 k.1
theorem hn4 {code : Int} {ns cns : List Int} {cst : List (Int × Int)} (h : code = 69) (e : decide (ns = []) = false) (e1 : ¬ ns.getD (Int.toNat (-1 + (ns.length : Int))) 0 < 3) : heldOp code ns cns cst = none := by
  subst h; obtain ⟨r, z, rfl⟩ := nspl e
  rw [getD_1] at e1; rw [he_z (by decide)]; exact if_neg (c := 0 ≤ z ∧ z < 3) fun k => e1 k.2
theorem hs4 {code : Int} {ns cns : List Int} {cst : List (Int × Int)} (h : code = 67) (e : decide (ns = []) = false) :
    heldOp code ns cns cst = some (List.take (ns.length - 1) ns ++ [kdfLook cst (ns.getD (Int.toNat (-1 + (ns.length : Int))) 0) 0], cns, cst) := by
  subst h; obtain ⟨r, z, rfl⟩ := nspl e
  rw [getD_1, take_1, he_z (by decide)]; exact (if_pos rfl).trans (by rw [List.reverse_reverse])
theorem hs5 {code : Int} {ns cns : List Int} {cst : List (Int × Int)} (h : (List.any [67, 69, 136] fun x => x == code) = true) (h1 : code ≠ 67) (h2 : code ≠ 69) (e : decide (ns = []) = false) :
    heldOp code ns cns cst = some (List.take (ns.length - 1) ns ++ [35 * Int.fmod (ns.getD (Int.toNat (-1 + (ns.length : Int))) 0) 2], cns, cst) := by
  obtain rfl : code = 136 := ((any3 h).resolve_left h1).resolve_left h2
  obtain ⟨r, z, rfl⟩ := nspl e
  rw [getD_1, take_1, Int.fmod_eq_emod_of_nonneg _ (by decide), he_z (by decide)]
  show some (r.reverse.reverse ++ [35 * (z % 2)], cns, cst) = _
  rw [List.reverse_reverse]
theorem hn5 {code : Int} {ns cns : List Int} {cst : List (Int × Int)} (h1 : (List.any [75, 76] fun x => x == code) = false) (h2 : (List.any [67, 69, 136] fun x => x == code) = false) (e : (ns.length : Int) < 2) : heldOp code ns cns cst = none := by
  rcases rev_cases ns with rfl | ⟨r, z, rfl⟩
  · rw [he_far (no2 (nany2 h1))]; rfl
  rcases rev_cases r with rfl | ⟨r, y, rfl⟩
  · rw [he_z (no2 (nany2 h1)), heY_far (nany3 h2)]; rfl
  exact absurd e (by rw [len_1, len_1]; omega)
theorem hs6 {code : Int} {ns cns : List Int} {cst : List (Int × Int)} (h : code = 66) (e : ¬ (ns.length : Int) < 2) :
    heldOp code ns cns cst = some (List.take (ns.length - 2) ns, cns, kdfPut cst (ns.getD (Int.toNat (-2 + (ns.length : Int))) 0) (ns.getD (Int.toNat (-1 + (ns.length : Int))) 0)) := by
  subst h; obtain ⟨r, y, z, rfl⟩ := nsp2 e
  rw [getD_1, getD_2, take_2, he_yz (by decide) (by decide)]; exact (if_pos rfl).trans (by rw [List.reverse_reverse])
theorem hs7 {code : Int} {ns cns : List Int} {cst : List (Int × Int)} (h : code = 68) (e : ¬ (ns.length : Int) < 2) (e1 : 0 ≤ ns.getD (Int.toNat (-2 + (ns.length : Int))) 0) (e2 : ns.getD (Int.toNat (-2 + (ns.length : Int))) 0 < 3) :
    heldOp code ns cns cst = some (List.take (ns.length - 2) ns, cns.set (Int.toNat (ns.getD (Int.toNat (-2 + (ns.length : Int))) 0)) (ns.getD (Int.toNat (-1 + (ns.length : Int))) 0), cst) := by
  subst h; obtain ⟨r, y, z, rfl⟩ := nsp2 e
  rw [getD_2] at e1 e2; rw [getD_1, getD_2, take_2, he_yz (by decide) (by decide)]
  exact (if_pos (c := 0 ≤ y ∧ y < 3) ⟨e1, e2⟩).trans (by rw [List.reverse_reverse]; rfl)
theorem hs8 {code : Int} {ns cns : List Int} {cst : List (Int × Int)} (h1 : (List.any [75, 76] fun x => x == code) = false) (h2 : (List.any [67, 69, 136] fun x => x == code) = false) (h3 : code ≠ 66) (h4 : code ≠ 68) (e : ¬ (ns.length : Int) < 2) (e1 : 0 ≤ ns.getD (Int.toNat (-2 + (ns.length : Int))) 0) (e2 : ns.getD (Int.toNat (-2 + (ns.length : Int))) 0 < 3) :
    heldOp code ns cns cst = some (List.take (ns.length - 2) ns, cns.set (Int.toNat (ns.getD (Int.toNat (-2 + (ns.length : Int))) 0)) (near (ns.getD (Int.toNat (-1 + (ns.length : Int))) 0) 3 2), cst) := by
  obtain ⟨r, y, z, rfl⟩ := nsp2 e
  rw [getD_2] at e1 e2; rw [getD_1, getD_2, take_2, he_yz (no2 (nany2 h1)) (nany3 h2), heZ, if_neg h3, if_pos ⟨e1, e2⟩, if_neg h4, List.reverse_reverse]
theorem hn6 {code : Int} {ns cns : List Int} {cst : List (Int × Int)} (h1 : (List.any [75, 76] fun x => x == code) = false) (h2 : (List.any [67, 69, 136] fun x => x == code) = false) (h3 : code ≠ 66) (e : ¬ (ns.length : Int) < 2) (e1 : ¬ 0 ≤ ns.getD (Int.toNat (-2 + (ns.length : Int))) 0) : heldOp code ns cns cst = none := by
  obtain ⟨r, y, z, rfl⟩ := nsp2 e
  rw [getD_2] at e1; rw [he_yz (no2 (nany2 h1)) (nany3 h2), heZ, if_neg h3, if_neg fun k => e1 k.1]
theorem hn7 {code : Int} {ns cns : List Int} {cst : List (Int × Int)} (h1 : (List.any [75, 76] fun x => x == code) = false) (h2 : (List.any [67, 69, 136] fun x => x == code) = false) (h3 : code ≠ 66) (e : ¬ (ns.length : Int) < 2) (e1 : ¬ ns.getD (Int.toNat (-2 + (ns.length : Int))) 0 < 3) : heldOp code ns cns cst = none := by
  obtain ⟨r, y, z, rfl⟩ := nsp2 e
  rw [getD_2] at e1; rw [he_yz (no2 (nany2 h1)) (nany3 h2), heZ, if_neg h3, if_neg fun k => e1 k.2]
theorem c69a {c : Int} {P : Prop} (h : c = 69) (h2 : c = 67) : P := absurd (h.symm.trans h2) (by decide)
theorem c69b {c : Int} {P : Prop} (h : c = 69) (h2 : c ≠ 69) : P := absurd h h2
theorem c66 {c : Int} {P : Prop} (h : c = 66) (h2 : c ≠ 66) : P := absurd h h2
theorem q_dec {Q : Value → Shared → Prop} {p : Prop} [Decidable p] {S : Shared} (ht : p → Q (.bool true) S) (hf : ¬ p → Q (.bool false) S) : Q (.bool (decide p)) S := by
  by_cases h : p
  · rw [decide_eq_true h]; exact ht h
  · rw [decide_eq_false h]; exact hf h
theorem reg18 : True := by
  (k_with "m_len" => first | (first | exact (getD_bnd (by with_reducible assumption) _).1 | exact (getD_bnd (by with_reducible assumption) _).2) | fail "no")
  trivial
noncomputable def heldF_S (w : World) (mean : ExcName → Option Value) (mg mb : Str → Option Value) (dp un : Nat) (gd : Option (List Code)) (cn : Str) (cs : Scope) (a : Addr) (ccd : Value) (cl : List (Str × Addr)) (outer : List Env) (A₀ : Around) (base h₀ : Heap) (L : Addr) (m : Str → Option Value) (s : Shared) (Q E : Value → Shared → Prop) (rest : List (Addr × Obj)) (code : Int) (tc : Tok) (bk bs bc bd : Addr) (bo bdo : Obj) (vs cvs : List Value) (k kc : Nat) (ns cns : List Int) (kvs : List (Int × Value)) (cst : List (Int × Int)) : Prop := ∀ (B : Below A₀ base outer h₀) (F : Fr h₀ L s.heap m) (X : (lay.heap_1 w.params).In h₀) (N : News h₀ L s.heap ((bk, bo) :: (bs, listOf vs.toArray k) :: (bc, listOf cvs.toArray kc) :: (bd, bdo) :: rest)) (T' : Top view (looseW view [Str.ofString "HintWork"]) mean mg mb h₀) (hk : cs.kind = .function) (hdp : dp + 6 < recursionLimit) (hun : un + 128 < cLine) (off : OwnOff rest [bk, bs, bc, bd]) (hbk : bo.IsDictOf (PySem.strKind PySem.Challenge.rw_on0247_01.row.toRowW.prog w) [(Str.ofString "stack", Value.ref bs), (Str.ofString "cvt", Value.ref bc), (Str.ofString "stored", Value.ref bd)]) (lob : (bk == sysModules) = false) (hi : IntsAre vs ns) (hc : IntsAre cvs cns) (hl : ns.length ≤ 12) (hb : ∀ x ∈ ns, -(10 ^ 10) < x ∧ x < 10 ^ 10) (hcl : cns.length = 3) (lo9 : (bd == sysModules) = false) (hd9 : bdo.IsDictOf (PySem.intKind PySem.Challenge.rw_on0247_01.row.toRowW.prog w) kvs) (hf9 : PyProof.V.FlatPairs PyData.int kvs (kdfD cst)) (hc9 : cst.length ≤ 1000) (apb : ApartB bk bs bc bd)
  (htrue : ∀ nsx cnx csx h' tk' bo' D vs' k' cvs' kc' bdo' kvs', heldOp code ns cns cst = some (nsx, cnx, csx) → Fr h₀ L h' m → News h₀ L h' ((bk, bo') :: (D, listOf (List.toArray vs') k') :: (bc, listOf (List.toArray cvs') kc') :: (bd, bdo') :: rest) → bo'.IsDictOf (PySem.strKind PySem.Challenge.rw_on0247_01.row.toRowW.prog w) [(Str.ofString "stack", Value.ref D), (Str.ofString "cvt", Value.ref bc), (Str.ofString "stored", Value.ref bd)] → IntsAre vs' nsx → IntsAre cvs' cnx → bdo'.IsDictOf (PySem.intKind PySem.Challenge.rw_on0247_01.row.toRowW.prog w) kvs' → PyProof.V.FlatPairs PyData.int kvs' (kdfD csx) → (bk < D ∧ bs < D ∧ bc < D ∧ bd < D ∧ AllLt D rest) → Q (.bool true) { s with heap := h', toks := tk' })
  (hfalse : ∀ h' tk' bo', heldOp code ns cns cst = none → Fr h₀ L h' m → News h₀ L h' ((bk, bo') :: (bc, listOf cvs.toArray kc) :: (bd, bdo) :: rest) → (bo'.IsDictOf (PySem.strKind PySem.Challenge.rw_on0247_01.row.toRowW.prog w) [(Str.ofString "stack", Value.ref bs), (Str.ofString "cvt", Value.ref bc), (Str.ofString "stored", Value.ref bd)] ∨ ∃ D, bo'.IsDictOf (PySem.strKind PySem.Challenge.rw_on0247_01.row.toRowW.prog w) [(Str.ofString "stack", Value.ref D), (Str.ofString "cvt", Value.ref bc), (Str.ofString "stored", Value.ref bd)]) → Q (.bool false) { s with heap := h', toks := tk' }),
  wpAny (model PySem.Challenge.rw_on0247_01.row.toRowW.prog w) (ktrTop dp un gd cn cs L a ccd cl outer) (call (.ref 543) [.int code tc, .ref bk]) Q E s
noncomputable def LheldF_S (p : Bag) : Prop := (heldF_S (p.fWo 0) (p.fMe 0) (p.fM 0) (p.fM 1) (p.fN 0) (p.fN 1) (p.fGD 0) (p.fSt 0) (p.fSc 0) (p.fA 0) (p.fV 0) (p.fCL 0) (p.fEn 0) (p.fAr 0) (p.fH 0) (p.fH 1) (p.fA 1) (p.fM 2) (p.fSh 0) (p.fQ 0) (p.fQ 1) (p.fAO 0) (p.fI 0) (p.fT 0) (p.fA 2) (p.fA 3) (p.fA 4) (p.fA 5) (p.fO 0) (p.fO 1) (p.fVL 0) (p.fVL 1) (p.fN 2) (p.fN 3) (p.fIL 0) (p.fIL 1) (p.fKV 0) (p.fKI 0))
noncomputable def LheldF_c : Bag := skc LheldF_S
theorem heldF_at : heldF_S (LheldF_c.fWo 0) (LheldF_c.fMe 0) (LheldF_c.fM 0) (LheldF_c.fM 1) (LheldF_c.fN 0) (LheldF_c.fN 1) (LheldF_c.fGD 0) (LheldF_c.fSt 0) (LheldF_c.fSc 0) (LheldF_c.fA 0) (LheldF_c.fV 0) (LheldF_c.fCL 0) (LheldF_c.fEn 0) (LheldF_c.fAr 0) (LheldF_c.fH 0) (LheldF_c.fH 1) (LheldF_c.fA 1) (LheldF_c.fM 2) (LheldF_c.fSh 0) (LheldF_c.fQ 0) (LheldF_c.fQ 1) (LheldF_c.fAO 0) (LheldF_c.fI 0) (LheldF_c.fT 0) (LheldF_c.fA 2) (LheldF_c.fA 3) (LheldF_c.fA 4) (LheldF_c.fA 5) (LheldF_c.fO 0) (LheldF_c.fO 1) (LheldF_c.fVL 0) (LheldF_c.fVL 1) (LheldF_c.fN 2) (LheldF_c.fN 3) (LheldF_c.fIL 0) (LheldF_c.fIL 1) (LheldF_c.fKV 0) (LheldF_c.fKI 0) :=
  (by intro hz8; exact hz8 : (have hz8 : heldF_S (LheldF_c.fWo 0) (LheldF_c.fMe 0) (LheldF_c.fM 0) (LheldF_c.fM 1) (LheldF_c.fN 0) (LheldF_c.fN 1) (LheldF_c.fGD 0) (LheldF_c.fSt 0) (LheldF_c.fSc 0) (LheldF_c.fA 0) (LheldF_c.fV 0) (LheldF_c.fCL 0) (LheldF_c.fEn 0) (LheldF_c.fAr 0) (LheldF_c.fH 0) (LheldF_c.fH 1) (LheldF_c.fA 1) (LheldF_c.fM 2) (LheldF_c.fSh 0) (LheldF_c.fQ 0) (LheldF_c.fQ 1) (LheldF_c.fAO 0) (LheldF_c.fI 0) (LheldF_c.fT 0) (LheldF_c.fA 2) (LheldF_c.fA 3) (LheldF_c.fA 4) (LheldF_c.fA 5) (LheldF_c.fO 0) (LheldF_c.fO 1) (LheldF_c.fVL 0) (LheldF_c.fVL 1) (LheldF_c.fN 2) (LheldF_c.fN 3) (LheldF_c.fIL 0) (LheldF_c.fIL 1) (LheldF_c.fKV 0) (LheldF_c.fKI 0) := (by
  refine (?layF0 : ∀ w mean mg mb dp un gd cn cs a ccd cl outer A₀ base h₀ L m s Q E rest code tc bk bs bc bd bo bdo vs cvs k kc ns cns kvs cst, heldF_S w mean mg mb dp un gd cn cs a ccd cl outer A₀ base h₀ L m s Q E rest code tc bk bs bc bd bo bdo vs cvs k kc ns cns kvs cst) (LheldF_c.fWo 0) (LheldF_c.fMe 0) (LheldF_c.fM 0) (LheldF_c.fM 1) (LheldF_c.fN 0) (LheldF_c.fN 1) (LheldF_c.fGD 0) (LheldF_c.fSt 0) (LheldF_c.fSc 0) (LheldF_c.fA 0) (LheldF_c.fV 0) (LheldF_c.fCL 0) (LheldF_c.fEn 0) (LheldF_c.fAr 0) (LheldF_c.fH 0) (LheldF_c.fH 1) (LheldF_c.fA 1) (LheldF_c.fM 2) (LheldF_c.fSh 0) (LheldF_c.fQ 0) (LheldF_c.fQ 1) (LheldF_c.fAO 0) (LheldF_c.fI 0) (LheldF_c.fT 0) (LheldF_c.fA 2) (LheldF_c.fA 3) (LheldF_c.fA 4) (LheldF_c.fA 5) (LheldF_c.fO 0) (LheldF_c.fO 1) (LheldF_c.fVL 0) (LheldF_c.fVL 1) (LheldF_c.fN 2) (LheldF_c.fN 3) (LheldF_c.fIL 0) (LheldF_c.fIL 1) (LheldF_c.fKV 0) (LheldF_c.fKI 0)
  intro w mean mg mb dp un gd cn cs a ccd cl outer A₀ base h₀ L m s Q E rest code tc bk bs bc bd bo bdo vs cvs k kc ns cns kvs cst B F X N T' hk hdp hun off hbk lob hi hc hl hb hcl lo9 hd9 hf9 hc9 apb htrue hfalse
  have sken := sken
  revert X; k_fill; intro X
  refine wpAny_call ?_
  k_extra "x_enterF"
  k_steps
  all_goals (try (exact c66 (by with_reducible assumption) (by with_reducible assumption)))
  all_goals (try (exact c69a (by with_reducible assumption) (by with_reducible assumption)))
  all_goals (try (exact c69b (by with_reducible assumption) (by with_reducible assumption)))
  all_goals (try (refine q_dec (fun hq => ?_) (fun hq => ?_)))
  all_goals first
    | (refine hfalse _ _ _ ?eq7 (by k_asm) (by k_extra "m_pick") (by first | exact .inl (by with_reducible assumption) | exact .inr ⟨_, by with_reducible assumption⟩); (case eq7 => first | exact hn1 (by with_reducible assumption) (by with_reducible assumption) | exact hn2 (by with_reducible assumption) (by with_reducible assumption) | exact hn3 (by with_reducible assumption) (by with_reducible assumption) (by with_reducible assumption) | exact hn4 (by with_reducible assumption) (by with_reducible assumption) (by with_reducible assumption) | exact hn5 (by with_reducible assumption) (by with_reducible assumption) (by with_reducible assumption) | exact hn6 (by with_reducible assumption) (by with_reducible assumption) (by with_reducible assumption) (by with_reducible assumption) (by with_reducible assumption) | exact hn7 (by with_reducible assumption) (by with_reducible assumption) (by with_reducible assumption) (by with_reducible assumption) (by with_reducible assumption)))
    | (refine' htrue _ _ _ _ _ _ _ _ _ _ _ _ _ ?eq7 ?Fq7 ?nq7 ?bq7 ?iq7 ?cq7 ?dq7 ?fq7 ?lq7; (case eq7 => first | exact hs1 (by with_reducible assumption) (by with_reducible assumption) | exact hs2 (by with_reducible assumption) (by with_reducible assumption) (by with_reducible assumption) | exact hs3 (by with_reducible assumption) (by with_reducible assumption) (by with_reducible assumption) (by with_reducible assumption) | exact hs4 (by with_reducible assumption) (by with_reducible assumption) | exact hs5 (by with_reducible assumption) (by with_reducible assumption) (by with_reducible assumption) (by with_reducible assumption) | exact hs6 (by with_reducible assumption) (by with_reducible assumption) | exact hs7 (by with_reducible assumption) (by with_reducible assumption) (by with_reducible assumption) (by with_reducible assumption) | exact hs8 (by with_reducible assumption) (by with_reducible assumption) (by with_reducible assumption) (by with_reducible assumption) (by with_reducible assumption) (by with_reducible assumption) (by with_reducible assumption)); (case bq7 => with_reducible assumption); (case Fq7 => k_asm); (case nq7 => k_extra "m_pick"); (case iq7 => k_extra "m_ints"); (case cq7 => with_reducible assumption); (case dq7 => with_reducible assumption); (case fq7 => with_reducible assumption); (case lq7 => k_extra "m_suf"))); heldF_S (LheldF_c.fWo 0) (LheldF_c.fMe 0) (LheldF_c.fM 0) (LheldF_c.fM 1) (LheldF_c.fN 0) (LheldF_c.fN 1) (LheldF_c.fGD 0) (LheldF_c.fSt 0) (LheldF_c.fSc 0) (LheldF_c.fA 0) (LheldF_c.fV 0) (LheldF_c.fCL 0) (LheldF_c.fEn 0) (LheldF_c.fAr 0) (LheldF_c.fH 0) (LheldF_c.fH 1) (LheldF_c.fA 1) (LheldF_c.fM 2) (LheldF_c.fSh 0) (LheldF_c.fQ 0) (LheldF_c.fQ 1) (LheldF_c.fAO 0) (LheldF_c.fI 0) (LheldF_c.fT 0) (LheldF_c.fA 2) (LheldF_c.fA 3) (LheldF_c.fA 4) (LheldF_c.fA 5) (LheldF_c.fO 0) (LheldF_c.fO 1) (LheldF_c.fVL 0) (LheldF_c.fVL 1) (LheldF_c.fN 2) (LheldF_c.fN 3) (LheldF_c.fIL 0) (LheldF_c.fIL 1) (LheldF_c.fKV 0) (LheldF_c.fKI 0)))
theorem LheldF_all : ∀ p, LheldF_S p := sk (heldF_at)
noncomputable def LheldF_bag (w : World) (mean : ExcName → Option Value) (mg mb : Str → Option Value) (dp un : Nat) (gd : Option (List Code)) (cn : Str) (cs : Scope) (a : Addr) (ccd : Value) (cl : List (Str × Addr)) (outer : List Env) (A₀ : Around) (base h₀ : Heap) (L : Addr) (m : Str → Option Value) (s : Shared) (Q E : Value → Shared → Prop) (rest : List (Addr × Obj)) (code : Int) (tc : Tok) (bk bs bc bd : Addr) (bo bdo : Obj) (vs cvs : List Value) (k kc : Nat) (ns cns : List Int) (kvs : List (Int × Value)) (cst : List (Int × Int)) : Bag := ⟨fun ix9 => [a, L, bk, bs, bc, bd].getD ix9 (bag0.fA 0), fun ix9 => [tc].getD ix9 (bag0.fT 0), fun ix9 => [code].getD ix9 (bag0.fI 0), fun ix9 => [dp, un, k, kc].getD ix9 (bag0.fN 0), fun ix9 => [ccd].getD ix9 (bag0.fV 0), fun ix9 => [bo, bdo].getD ix9 (bag0.fO 0), fun ix9 => [vs, cvs].getD ix9 (bag0.fVL 0), fun ix9 => [ns, cns].getD ix9 (bag0.fIL 0), fun ix9 => [kvs].getD ix9 (bag0.fKV 0), fun ix9 => [cst].getD ix9 (bag0.fKI 0), fun ix9 => [rest].getD ix9 (bag0.fAO 0), fun ix9 => [].getD ix9 (bag0.fU 0), fun ix9 => [].getD ix9 (bag0.fG 0), fun ix9 => [].getD ix9 (bag0.fPr 0), fun ix9 => [].getD ix9 (bag0.fEv 0), fun ix9 => [].getD ix9 (bag0.fSs 0), fun ix9 => [].getD ix9 (bag0.fEx 0), fun ix9 => [].getD ix9 (bag0.fQF 0), fun ix9 => [].getD ix9 (bag0.fJ 0), fun ix9 => [w].getD ix9 (bag0.fWo 0), fun ix9 => [mean].getD ix9 (bag0.fMe 0), fun ix9 => [mg, mb, m].getD ix9 (bag0.fM 0), fun ix9 => [gd].getD ix9 (bag0.fGD 0), fun ix9 => [cn].getD ix9 (bag0.fSt 0), fun ix9 => [cs].getD ix9 (bag0.fSc 0), fun ix9 => [cl].getD ix9 (bag0.fCL 0), fun ix9 => [outer].getD ix9 (bag0.fEn 0), fun ix9 => [A₀].getD ix9 (bag0.fAr 0), fun ix9 => [base, h₀].getD ix9 (bag0.fH 0), fun ix9 => [s].getD ix9 (bag0.fSh 0), fun ix9 => [Q, E].getD ix9 (bag0.fQ 0)⟩
theorem heldF {w mean mg mb dp un gd cn cs a ccd cl outer A₀ base h₀ L m s Q E rest code tc bk bs bc bd bo bdo vs cvs k kc ns cns kvs cst} : heldF_S w mean mg mb dp un gd cn cs a ccd cl outer A₀ base h₀ L m s Q E rest code tc bk bs bc bd bo bdo vs cvs k kc ns cns kvs cst := LheldF_all (LheldF_bag w mean mg mb dp un gd cn cs a ccd cl outer A₀ base h₀ L m s Q E rest code tc bk bs bc bd bo bdo vs cvs k kc ns cns kvs cst)
end
theorem mt4 : True := by first | (walk1; done) | trivial
section
noncomputable def loneB (c : Int) : Bool := [32, 33, 126, 34, 35, 36, 37, 38, 138, 86, 87, 92, 80, 81, 82, 83, 84, 85, 90, 91].any (fun x => x == c)
noncomputable def opStep (c : Int) (ns cns : List Int) (cst : List (Int × Int)) : Option (List Int × List Int × List (Int × Int)) :=
  if loneB c then (loneOp c ns).map (fun l => (l, cns, cst)) else heldOp c ns cns cst
theorem off12 {dG R dR : Addr} {gv : GV} {r1 r2 r3 r4 r5 r6 q1 q2 : Tok} {nl cv sd dS G sc : Addr} {w : World} {rest : List (Addr × Obj)} (off : OwnOff rest [nl, dS, cv, sd]) (ap2 : Apart2 nl cv sd dS G dG R dR sc) : OwnOff ((G, instObj 369 dG) :: (dG, dictOf (GrE w gv R) 18) :: (R, instObj 112 dR) :: (dR, dictOf (RndE w r1 r2 r3 r4 r5 r6) 3) :: (sc, tupObj [Value.int 3 q1, Value.int 2 q2]) :: rest) [nl, dS, cv, sd] := by
  obtain ⟨x_G_nl, x_G_cv, x_G_sd, x_G_dS, x_dG_nl, x_dG_cv, x_dG_sd, x_dG_dS, x_R_nl, x_R_cv, x_R_sd, x_R_dS, x_dR_nl, x_dR_cv, x_dR_sd, x_dR_dS, x_sc_nl, x_sc_cv, x_sc_sd, x_sc_dS⟩ := ap2
  intro p hp b hb
  simp only [List.mem_cons, List.not_mem_nil, or_false] at hb
  rcases List.mem_cons.mp hp with rfl | hp
  · rcases hb with rfl | rfl | rfl | rfl <;> assumption
  rcases List.mem_cons.mp hp with rfl | hp
  · rcases hb with rfl | rfl | rfl | rfl <;> assumption
  rcases List.mem_cons.mp hp with rfl | hp
  · rcases hb with rfl | rfl | rfl | rfl <;> assumption
  rcases List.mem_cons.mp hp with rfl | hp
  · rcases hb with rfl | rfl | rfl | rfl <;> assumption
  rcases List.mem_cons.mp hp with rfl | hp
  · rcases hb with rfl | rfl | rfl | rfl <;> assumption
  exact off p hp b (by simpa using hb)
theorem snoc3 {r : List Int} (z : Int) (h1 : 1 ≤ z) (h2 : z ≤ (r.length : Int)) : ∃ as x bs, r = as ++ [x] ++ bs ∧ z = (bs.length : Int) + 1 := by
  obtain ⟨n, rfl⟩ := posN h1
  have hn : n + 1 ≤ r.length := Int.ofNat_le.mp h2
  have hlt : r.length - (n + 1) < r.length := Nat.sub_lt (Nat.lt_of_lt_of_le (Nat.succ_pos n) hn) (Nat.succ_pos _)
  refine ⟨r.take (r.length - (n + 1)), r[r.length - (n + 1)], r.drop (r.length - (n + 1) + 1), ?_, ?_⟩
  · rw [List.append_assoc, List.singleton_append, ← List.drop_eq_getElem_cons hlt, List.take_append_drop]
  · rw [List.length_drop, ← sb1 hn, Nat.sub_sub_self (Nat.le_of_lt hn)]; rfl
theorem ints_split {us : List Value} : ∀ {bs as : List Int}, IntsAre us (as ++ bs) → ∃ avs bvs, us = avs ++ bvs ∧ IntsAre avs as ∧ IntsAre bvs bs := by
  intro bs as h
  induction as generalizing us with
  | nil => exact ⟨[], us, rfl, .nil, h⟩
  | cons n as ih =>
    obtain ⟨t, vs', rfl, h2⟩ := PyProof.Rows.IntsAre.cons_inv h
    obtain ⟨avs, bvs, rfl, h3, h4⟩ := ih h2
    exact ⟨_ :: avs, bvs, rfl, .cons _ _ h3, h4⟩
theorem lone_mind {as bs : List Int} {x : Int} : loneOp 38 (as ++ [x] ++ bs ++ [(bs.length : Int) + 1]) = some (as ++ bs ++ [x]) := by
  have e3 : (as ++ [x] ++ bs).length - (bs.length + 1) = as.length := by
    rw [List.length_append, List.length_append]; show as.length + 1 + bs.length - (bs.length + 1) = as.length
    rw [Nat.add_assoc, Nat.add_comm 1, Nat.add_sub_cancel]
  have e2 : bs.length + 1 ≤ (as ++ [x] ++ bs).length := by
    rw [List.length_append, List.length_append]; show bs.length + 1 ≤ as.length + 1 + bs.length
    rw [Nat.add_assoc, Nat.add_comm 1]; exact Nat.le_add_left _ _
  have e5 : (as ++ [x] ++ bs).reverse.getD bs.length 0 = x := by
    rw [List.reverse_append, lnb, List.getD_eq_getElem?_getD, List.getElem?_append_right (by rw [List.length_reverse]; exact Nat.le_refl _), List.length_reverse, Nat.sub_self]; rfl
  have e6 : (as ++ [x] ++ bs).drop (as.length + 1) = bs := by
    rw [← len_1 as x, List.drop_left]
  have e7 : (as ++ [x] ++ bs).take as.length = as := by rw [List.append_assoc, List.take_left]
  show loneOp 38 ((as ++ [x] ++ bs) ++ [((bs.length + 1 : Nat) : Int)]) = _
  rw [lo38, loR_snoc, loY38, List.reverse_reverse, List.length_reverse, if_pos ⟨Int.ofNat_le.mpr (Nat.succ_le_succ (Nat.zero_le _)), Int.ofNat_le.mpr e2⟩, Int.toNat_natCast, e3, show (((bs.length + 1 : Nat) : Int) - 1).toNat = bs.length from Int.toNat_sub (bs.length + 1) 1, e5, e6, e7]
theorem mind_eq {as bs cns : List Int} {x : Int} {cst : List (Int × Int)} : opStep 38 (as ++ [x] ++ bs ++ [(bs.length : Int) + 1]) cns cst = some (as ++ bs ++ [x], cns, cst) := by
  show Option.map _ (loneOp 38 _) = _
  rw [lone_mind]; rfl
noncomputable def Bnd (b : Int) (l : List Int) : Prop := ∀ x ∈ l, -b ≤ x ∧ x ≤ b
noncomputable def BndP (b : Int) (l : List (Int × Int)) : Prop := ∀ p ∈ l, -b ≤ p.2 ∧ p.2 ≤ b
theorem Bnd.app {b : Int} {l l' : List Int} (h : Bnd b l) (h' : Bnd b l') : Bnd b (l ++ l') := fun x hx => (List.mem_append.mp hx).elim (h x) (h' x)
theorem Bnd.one {b x : Int} (h : -b ≤ x ∧ x ≤ b) : Bnd b [x] := fun y hy => by rw [List.mem_singleton.mp hy]; exact h
theorem Bnd.left {b : Int} {l l' : List Int} (h : Bnd b (l ++ l')) : Bnd b l := fun x hx => h x (List.mem_append_left _ hx)
theorem Bnd.last {b x : Int} {l : List Int} (h : Bnd b (l ++ [x])) : -b ≤ x ∧ x ≤ b := h x (by simp)
theorem Bnd.sub {b : Int} {l l' : List Int} (h : Bnd b l) (s : ∀ x ∈ l', x ∈ l) : Bnd b l' := fun x hx => h x (s x hx)
theorem Bnd.up {b b' : Int} {l : List Int} (h : Bnd b l) (s : b ≤ b') : Bnd b' l := fun x hx => ⟨Int.le_trans (Int.neg_le_neg s) (h x hx).1, Int.le_trans (h x hx).2 s⟩
theorem BndP.up {b b' : Int} {l : List (Int × Int)} (h : BndP b l) (s : b ≤ b') : BndP b' l := fun x hx => ⟨Int.le_trans (Int.neg_le_neg s) (h x hx).1, Int.le_trans (h x hx).2 s⟩
theorem Bnd.getD {b : Int} {l : List Int} (h : Bnd b l) (hb : 0 ≤ b) (i : Nat) : -b ≤ l.getD i 0 ∧ l.getD i 0 ≤ b := by
  by_cases hi : i < l.length
  · have : l.getD i 0 = l[i] := by simp [hi]
    rw [this]; exact h _ (List.getElem_mem hi)
  · have : l.getD i 0 = 0 := by simp [hi]
    rw [this]; omega
theorem Bnd.set {b x : Int} {l : List Int} (h : Bnd b l) (hx : -b ≤ x ∧ x ≤ b) (i : Nat) : Bnd b (l.set i x) := fun y hy => by
  rcases List.mem_or_eq_of_mem_set hy with h1 | rfl
  · exact h y h1
  · exact hx
theorem b2i_bnd {b : Int} {x : Bool} (hb : 1 ≤ b) : -b ≤ b2i x ∧ b2i x ≤ b := by unfold b2i; split <;> omega
theorem ite_imp {α : Type} {c : Prop} [Decidable c] {a b : Option α} {l : Option α} {P : Prop} (ha : c → a = l → P) (hb : ¬ c → b = l → P) : (if c then a else b) = l → P := fun h => (Decidable.em c).elim (fun q => ha q ((if_pos q).symm.trans h)) (fun q => hb q ((if_neg q).symm.trans h))
theorem ol {α : Type} {c : Prop} [Decidable c] {a l : α} (h : (if c then some a else none) = some l) : c ∧ a = l := by
  by_cases k : c
  · rw [if_pos k] at h; exact ⟨k, Option.some.inj h⟩
  · rw [if_neg k] at h; cases h
theorem sub_pred : ∀ n : Nat, n - (n - 1) ≤ 1
  | 0 => Nat.zero_le _
  | n + 1 => Nat.le_of_eq (Nat.add_sub_cancel_left (n := n) (m := 1))
theorem loY_5 {c z : Int} {r : List Int} (k5 : c = 86 ∨ c = 87 ∨ c = 92) : loY c z r = some (r.reverse ++ [b2i (if c = 92 then z == 0 else decide (rnd z % 128 = 64) == decide (c = 86))]) := if_pos k5
theorem rev_bnd {b : Int} {l : List Int} (h : Bnd b l) : Bnd b l.reverse := h.sub fun _ hx => List.mem_reverse.mp hx
theorem len_up {l : List Int} {x : Int} {n : Nat} (h : l.length ≤ n) : (l ++ [x]).length ≤ n + 1 := by rw [len_1]; exact Nat.succ_le_succ h
theorem len_dn {l : List Int} {x : Int} {n : Nat} (h : (l ++ [x]).length ≤ n + 1) : l.length ≤ n := by rw [len_1] at h; exact Nat.le_of_succ_le_succ h
theorem Bnd.two {b x y : Int} (h : -b ≤ x ∧ x ≤ b) (h' : -b ≤ y ∧ y ≤ b) : Bnd b [x, y] := fun w hw => (List.mem_cons.mp hw).elim (fun e => e ▸ h) (Bnd.one h' w)
theorem loneOp_ok {c b : Int} {ns l : List Int} (h : loneOp c ns = some l) (hl : ns.length ≤ 12) (hb : Bnd b ns) (b12 : 12 ≤ b) : l.length ≤ 12 ∧ Bnd b l := by
  have b0 : 0 ≤ b := Int.le_trans (by decide) b12
  have b1 : 1 ≤ b := Int.le_trans (by decide) b12
  by_cases k32 : c = 32
  · subst k32
    obtain ⟨⟨_, h2⟩, rfl⟩ := ol (c := ns ≠ [] ∧ ns.length < 12) h
    refine ⟨?_, hb.app (hb.sub fun x hx => List.mem_of_mem_drop hx)⟩
    rw [List.length_append, List.length_drop]; exact Nat.le_trans (Nat.add_le_add_left (sub_pred _) _) h2
  by_cases k33 : c = 33 ∨ c = 126
  · have h : (if ns ≠ [] then some ns.dropLast else none) = some l := by rcases k33 with rfl | rfl <;> exact h
    obtain ⟨_, rfl⟩ := ol h
    exact ⟨by rw [List.length_dropLast]; exact Nat.le_trans (Nat.sub_le _ _) hl, hb.sub fun x hx => (List.dropLast_sublist _).subset hx⟩
  by_cases k34 : c = 34
  · subst k34; obtain rfl : [] = l := Option.some.inj h
    exact ⟨Nat.zero_le _, fun x hx => nomatch hx⟩
  by_cases k36 : c = 36
  · subst k36
    obtain ⟨h2, rfl⟩ := ol (c := ns.length < 12) h
    exact ⟨by rw [List.length_append]; exact h2, hb.app (Bnd.one ⟨Int.le_trans (Int.neg_nonpos_of_nonneg b0) (Int.natCast_nonneg _), Int.le_trans (Int.ofNat_le.mpr hl) b12⟩)⟩
  rw [lo_far k32 k33 k34 k36] at h
  rcases rev_cases ns with rfl | ⟨r, z, rfl⟩
  · cases h
  rw [loR_snoc] at h
  have hz := hb.last; have hr := hb.left
  have hlr : r.length ≤ 11 := len_dn hl
  by_cases k5 : c = 86 ∨ c = 87 ∨ c = 92
  · rw [loY_5 k5, List.reverse_reverse] at h
    obtain rfl := Option.some.inj h
    exact ⟨len_up hlr, hr.app (Bnd.one (b2i_bnd b1))⟩
  by_cases k6 : c = 37 ∨ c = 38
  · have gz := Bnd.getD (rev_bnd hr) b0 (z - 1).toNat
    rcases k6 with rfl | rfl
    · have h : loY37 z r.reverse = some l := h
      rw [loY37, List.reverse_reverse] at h
      obtain ⟨_, rfl⟩ := ol h
      exact ⟨len_up hlr, hr.app (Bnd.one gz)⟩
    · have h : loY38 z r.reverse = some l := h
      rw [loY38, List.reverse_reverse] at h
      obtain ⟨⟨e1, e2⟩, rfl⟩ := ol h
      refine ⟨?_, ((hr.sub fun x hx => List.mem_of_mem_take hx).app (hr.sub fun x hx => List.mem_of_mem_drop hx)).app (Bnd.one gz)⟩
      refine len_up (n := 11) ?_
      rw [List.length_append, List.length_take, List.length_drop, List.length_reverse]; exact Nat.le_trans (Nat.add_le_add (Nat.min_le_left _ _) (Nat.sub_le_sub_left (Nat.le_succ _) _)) (Nat.le_trans (Nat.le_of_eq (Nat.add_sub_cancel' (Nat.sub_le _ _))) hlr)
  rw [loY_far k5 k6] at h
  rcases rev_cases r with rfl | ⟨r, y, rfl⟩
  · cases h
  rw [loR_snoc] at h
  have hy := hr.last; have hr2 := hr.left
  have hlr2 : r.length ≤ 10 := len_dn hlr
  by_cases k138 : c = 138
  · rw [if_pos k138] at h
    rcases rev_cases r with rfl | ⟨r, x, rfl⟩
    · cases h
    rw [lnb] at h
    obtain rfl := Option.some.inj h
    rw [List.reverse_reverse]
    exact ⟨by rw [List.length_append]; exact Nat.add_le_add_right (len_dn (n := 9) hlr2) 3, hr2.left.app (fun w hw => (List.mem_cons.mp hw).elim (fun e => e ▸ hy) (Bnd.two hz hr2.last w))⟩
  rw [if_neg k138] at h
  by_cases k35 : c = 35
  · rw [if_pos k35, List.reverse_reverse] at h
    obtain rfl := Option.some.inj h
    exact ⟨by rw [List.length_append]; exact Nat.add_le_add_right hlr2 2, hr2.app (Bnd.two hz hy)⟩
  · rw [if_neg k35, List.reverse_reverse] at h
    obtain rfl := Option.some.inj h
    exact ⟨Nat.le_succ_of_le (len_up hlr2), hr2.app (Bnd.one (b2i_bnd b1))⟩
theorem near_bnd {b z : Int} (h : -b ≤ z ∧ z ≤ b) (hb : 2 ≤ b) : -(2 * b) ≤ near z 3 2 ∧ near z 3 2 ≤ 2 * b := by
  unfold near; split <;> omega
theorem look_bnd {b k : Int} {c : List (Int × Int)} (h : BndP b c) (hb : 0 ≤ b) : -b ≤ kdfLook c k 0 ∧ kdfLook c k 0 ≤ b := by
  unfold kdfLook
  cases e : c.find? (fun p => decide (p.1 = k)) with
  | none => simp; omega
  | some p => simp; exact h p (List.mem_of_find?_eq_some e)
theorem put_bnd {b k v : Int} {c : List (Int × Int)} (h : BndP b c) (hv : -b ≤ v ∧ v ≤ b) : BndP b (kdfPut c k v) := by
  unfold kdfPut
  split
  · intro p hp
    obtain ⟨q, hq, rfl⟩ := List.mem_map.mp hp
    split
    · exact hv
    · exact h q hq
  · intro p hp
    rcases List.mem_append.mp hp with hp | hp
    · exact h p hp
    · rw [List.mem_singleton.mp hp]; exact hv
theorem put_keys {k v : Int} {c : List (Int × Int)} (h : (c.map (·.1)).Nodup) : ((kdfPut c k v).map (·.1)).Nodup := by
  unfold kdfPut
  split
  · have e : (c.map (fun p => if decide (p.1 = k) then (p.1, v) else p)).map (·.1) = c.map (·.1) := by
      rw [List.map_map]; apply List.map_congr_left; intro p _; simp only [Function.comp]; split <;> rfl
    rw [e]; exact h
  · rename_i hn
    rw [List.map_append, List.nodup_append]
    refine ⟨h, by simp, fun a ha b hb => ?_⟩
    simp at hb; subst hb
    intro e; subst e
    obtain ⟨p, hp, e⟩ := List.mem_map.mp ha
    exact hn (List.any_eq_true.mpr ⟨p, hp, by simpa using e⟩)
noncomputable def HP (b : Int) (cst : List (Int × Int)) (t : List Int × List Int × List (Int × Int)) : Prop := t.1.length ≤ 12 ∧ t.2.1.length = 3 ∧ t.2.2.length ≤ cst.length + 1 ∧ Bnd (2 * b) t.1 ∧ Bnd (2 * b) t.2.1 ∧ BndP (2 * b) t.2.2 ∧ (t.2.2.map (·.1)).Nodup
theorem heldOp_HP {c b : Int} {ns cns : List Int} {cst : List (Int × Int)} {t : List Int × List Int × List (Int × Int)} (h : heldOp c ns cns cst = some t) (hl : ns.length ≤ 12) (hc : cns.length = 3) (hb : Bnd b ns) (hbc : Bnd b cns) (hbs : BndP b cst) (hk : (cst.map (·.1)).Nodup) (b7 : 700 ≤ b) : HP b cst t := by
  have b0 : 0 ≤ b := Int.le_trans (by decide) b7
  have h2 : b ≤ 2 * b := by omega
  by_cases k7 : c = 75 ∨ c = 76
  · obtain ⟨h3, rfl⟩ := ol (c := ns.length < 12) ((if_pos k7).symm.trans h)
    exact ⟨Nat.le_trans (Nat.le_of_eq (len_1 _ _)) h3, hc, Nat.le_succ _, (hb.up h2).app (Bnd.one (by split <;> omega)), hbc.up h2, hbs.up h2, hk⟩
  rw [he_far k7] at h
  rcases rev_cases ns with rfl | ⟨r, z, rfl⟩
  · cases h
  rw [loG_snoc] at h
  have hz := hb.last; have hr := hb.left
  have hlr : r.length ≤ 11 := len_dn hl
  have one : ∀ {x : Int}, -b ≤ x ∧ x ≤ b → HP b cst (r.reverse.reverse ++ [x], cns, cst) := fun {x} hx => by
    rw [List.reverse_reverse]
    exact ⟨len_up hlr, hc, Nat.le_succ _, (hr.app (Bnd.one hx)).up h2, hbc.up h2, hbs.up h2, hk⟩
  by_cases k67 : c = 67
  · exact Option.some.inj ((if_pos k67).symm.trans h) ▸ one (look_bnd hbs b0)
  replace h := (if_neg k67).symm.trans h
  by_cases k69 : c = 69
  · exact (ol (c := 0 ≤ z ∧ z < 3) ((if_pos k69).symm.trans h)).2 ▸ one (hbc.getD b0 _)
  replace h := (if_neg k69).symm.trans h
  by_cases k136 : c = 136
  · exact Option.some.inj ((if_pos k136).symm.trans h) ▸ one (by omega)
  replace h := (if_neg k136).symm.trans h
  clear one
  rcases rev_cases r with rfl | ⟨r, y, rfl⟩
  · cases h
  rw [loG_snoc] at h
  have hr2 : Bnd (2 * b) r.reverse.reverse := rev_bnd (rev_bnd (hr.left.up h2))
  have hlr2 : r.reverse.reverse.length ≤ 12 := by rw [List.length_reverse, List.length_reverse]; exact Nat.le_trans (len_dn (n := 10) hlr) (by decide)
  have hz2 : -(2 * b) ≤ z ∧ z ≤ 2 * b := ⟨Int.le_trans (Int.neg_le_neg h2) hz.1, Int.le_trans hz.2 h2⟩
  by_cases k66 : c = 66
  · exact Option.some.inj ((if_pos k66).symm.trans h) ▸ ⟨hlr2, hc, kdfPut_len _ _ _, hr2, hbc.up h2, put_bnd (hbs.up h2) hz2, put_keys hk⟩
  · obtain ⟨_, rfl⟩ := ol (c := 0 ≤ y ∧ y < 3) ((if_neg k66).symm.trans h)
    refine ⟨hlr2, List.length_set.trans hc, Nat.le_succ _, hr2, (hbc.up h2).set ?_ _, hbs.up h2, hk⟩
    split
    · exact hz2
    · exact near_bnd hz (Int.le_trans (by decide) b7)
theorem heldOp_ok {c b : Int} {ns cns nsx cnx : List Int} {cst csx : List (Int × Int)} (h : heldOp c ns cns cst = some (nsx, cnx, csx)) (hl : ns.length ≤ 12) (hc : cns.length = 3) (hb : Bnd b ns) (hbc : Bnd b cns) (hbs : BndP b cst) (hk : (cst.map (·.1)).Nodup) (b7 : 700 ≤ b) :
    nsx.length ≤ 12 ∧ cnx.length = 3 ∧ csx.length ≤ cst.length + 1 ∧ Bnd (2 * b) nsx ∧ Bnd (2 * b) cnx ∧ BndP (2 * b) csx ∧ (csx.map (·.1)).Nodup := heldOp_HP h hl hc hb hbc hbs hk b7
theorem opStep_ok {c b : Int} {ns cns nsx cnx : List Int} {cst csx : List (Int × Int)} (h : opStep c ns cns cst = some (nsx, cnx, csx)) (hl : ns.length ≤ 12) (hc : cns.length = 3) (hb : Bnd b ns) (hbc : Bnd b cns) (hbs : BndP b cst) (hk : (cst.map (·.1)).Nodup) (b7 : 700 ≤ b) :
    nsx.length ≤ 12 ∧ cnx.length = 3 ∧ csx.length ≤ cst.length + 1 ∧ Bnd (2 * b) nsx ∧ Bnd (2 * b) cnx ∧ BndP (2 * b) csx ∧ (csx.map (·.1)).Nodup := by
  unfold opStep at h
  split at h
  · obtain ⟨l, e, h⟩ := Option.map_eq_some_iff.mp h
    injection h with h1 h; injection h with h3 h4; subst h1 h3 h4
    obtain ⟨a1, a2⟩ := loneOp_ok e hl hb (by omega)
    exact ⟨a1, hc, by omega, a2.up (by omega), hbc.up (by omega), hbs.up (by omega), hk⟩
  · exact heldOp_ok h hl hc hb hbc hbs hk b7
theorem cmp_c {c : Int} (hc : c = 80 ∨ c = 81 ∨ c = 82 ∨ c = 83 ∨ c = 84 ∨ c = 85 ∨ c = 90 ∨ c = 91) : loneB c = true ∧ ¬ c = 32 ∧ ¬ (c = 33 ∨ c = 126) ∧ ¬ c = 34 ∧ ¬ c = 36 ∧ ¬ (c = 86 ∨ c = 87 ∨ c = 92) ∧ ¬ (c = 37 ∨ c = 38) ∧ ¬ c = 138 ∧ ¬ c = 35 := by
  rcases hc with rfl | rfl | rfl | rfl | rfl | rfl | rfl | rfl <;> decide
theorem op_cmp0 {c : Int} {cns : List Int} {cst : List (Int × Int)} (hc : c = 80 ∨ c = 81 ∨ c = 82 ∨ c = 83 ∨ c = 84 ∨ c = 85 ∨ c = 90 ∨ c = 91) : opStep c [] cns cst = none := by
  obtain ⟨k0, k1, k2, k3, k4, k5, k6, k7, k8⟩ := cmp_c hc
  unfold opStep loneOp; rw [if_pos k0, if_neg k1, if_neg k2, if_neg k3, if_neg k4]; rfl
theorem op_cmp1 {c z : Int} {cns : List Int} {cst : List (Int × Int)} (hc : c = 80 ∨ c = 81 ∨ c = 82 ∨ c = 83 ∨ c = 84 ∨ c = 85 ∨ c = 90 ∨ c = 91) : opStep c ([] ++ [z]) cns cst = none := by
  obtain ⟨k0, k1, k2, k3, k4, k5, k6, k7, k8⟩ := cmp_c hc
  unfold opStep loneOp; rw [if_pos k0, if_neg k1, if_neg k2, if_neg k3, if_neg k4, lnb]; simp only [if_neg k5, if_neg k6]; rfl
theorem op_cmp2 {c y z : Int} {r cns : List Int} {cst : List (Int × Int)} (hc : c = 80 ∨ c = 81 ∨ c = 82 ∨ c = 83 ∨ c = 84 ∨ c = 85 ∨ c = 90 ∨ c = 91) : opStep c (r ++ [y] ++ [z]) cns cst = some (r ++ [b2i (cmpB c y z)], cns, cst) := by
  obtain ⟨k0, k1, k2, k3, k4, k5, k6, k7, k8⟩ := cmp_c hc
  unfold opStep loneOp; rw [if_pos k0, if_neg k1, if_neg k2, if_neg k3, if_neg k4, lnb, lnb]; simp only [if_neg k5, if_neg k6, if_neg k7, if_neg k8, List.reverse_reverse]; rfl
theorem nil_of {vs : List Value} {ns : List Int} (h : IntsAre vs ns) (e : ns = []) : vs = [] := by subst e; exact PyProof.Rows.IntsAre.nil_inv h
theorem snoc_of {vs : List Value} {ns r : List Int} {z : Int} (h : IntsAre vs ns) (e : ns = r ++ [z]) : ∃ ws t, vs = ws ++ [Value.int z t] ∧ IntsAre ws r := by subst e; exact ints_snoc h
theorem drop5 {α : Type} {a b c d x : α} {l : List α} : ∀ p ∈ a :: b :: c :: d :: l, p ∈ a :: b :: c :: d :: x :: l := sub_cons (.head _) (sub_cons (.tail _ (.head _)) (sub_cons (.tail _ (.tail _ (.head _))) (sub_cons (.tail _ (.tail _ (.tail _ (.head _)))) (fun p h => .tail _ (.tail _ (.tail _ (.tail _ (.tail _ h))))))))
theorem op_ref {f g : Addr} (e : f = g) {prog : Program} {w : World} {A : Around} {as : List Value} {Q E : Value → Shared → Prop} {s : Shared} (h : wpAny (model prog w) A (call (.ref g) as) Q E s) : wpAny (model prog w) A (call (.ref f) as) Q E s := e ▸ h
local macro_rules | `(tactic| k_extra "x_popok") => `(tactic| k_extra "x_popok #P16")
local macro_rules | `(tactic| k_extra "x_popno") => `(tactic| k_extra "x_popno #P16")
local macro_rules | `(tactic| walk_at $s:str) => `(tactic| k_extra $(Lean.Syntax.mkStrLit (s.getString ++ " #P16")))
theorem reg19 : True := by
  (k_with "x_popok #P16" => first | ((k_here; k_dflt (apply pop_ok; (focus (k_asm)); (focus (k_asm)); (focus (k_asm)); (focus (k_asm)); (focus (k_asm)); (focus (first | exact rfl | assumption)); (focus (ktr_room)); (focus (ktr_units)); (focus (k_mem)); (focus (k_mem)); (focus (k_upd)); (focus (k_extra "m_ints")); (focus (k_extra "m_len")); k_whole); (k_extra "x_in2"; intro F'z9 N'z9); (try dsimp only); (try k_extra "x_fold"))) | fail "no")
  (k_with "x_popno #P16" => first | ((k_here; k_dflt (apply pop_no; (focus (k_asm)); (focus (k_asm)); (focus (k_asm)); (focus (k_asm)); (focus (k_asm)); (focus (first | exact rfl | assumption)); (focus (ktr_room)); (focus (ktr_units)); (focus (k_mem)); (focus (k_mem)); (focus (k_mem)); k_whole); (k_extra "x_in4"; intro R'z9 U'z9 F'z9); (try dsimp only); (try k_extra "x_fold"))) | fail "no")
  (k_with "call ref #P16" => first | ((k_here; (with_reducible show wpAny _ _ (call (Value.ref 401) _) _ _ _); refine Stop.out ?_)) | fail "no")
  trivial
abbrev UA_T := ∀ (w : World) (mean : ExcName → Option Value) (mg mb : Str → Option Value) (dp un : Nat) (gd : Option (List Code)) (cn : Str) (cs : Scope) (a : Addr) (ccd : Value) (cl : List (Str × Addr)) (outer : List Env) (A₀ : Around) (base h₀ : Heap) (L : Addr) (m : Str → Option Value) (s : Shared) (Q E : Value → Shared → Prop) (rest : List (Addr × Obj)) (W dW S dS nl cv sd G zn sc : Addr) (u : WTok) (t1 t2 tm : Tok) (ppem : Int) (vs cvs : List Value) (ns cns : List Int) (k kc : Nat) (sto : Obj) (dG R dR : Addr) (gv : GV) (r1 r2 r3 r4 r5 r6 q1 q2 : Tok) (kvs : List (Int × Value)) (cst : List (Int × Int)) (tc : Tok) (c : Int), Prop
noncomputable def UA_at (p : Bag) (f : UA_T) : Prop := f (p.fWo 0) (p.fMe 0) (p.fM 0) (p.fM 1) (p.fN 0) (p.fN 1) (p.fGD 0) (p.fSt 0) (p.fSc 0) (p.fA 0) (p.fV 0) (p.fCL 0) (p.fEn 0) (p.fAr 0) (p.fH 0) (p.fH 1) (p.fA 1) (p.fM 2) (p.fSh 0) (p.fQ 0) (p.fQ 1) (p.fAO 0) (p.fA 2) (p.fA 3) (p.fA 4) (p.fA 5) (p.fA 6) (p.fA 7) (p.fA 8) (p.fA 9) (p.fA 10) (p.fA 11) (p.fU 0) (p.fT 0) (p.fT 1) (p.fT 2) (p.fI 0) (p.fVL 0) (p.fVL 1) (p.fIL 0) (p.fIL 1) (p.fN 2) (p.fN 3) (p.fO 0) (p.fA 12) (p.fA 13) (p.fA 14) (p.fG 0) (p.fT 3) (p.fT 4) (p.fT 5) (p.fT 6) (p.fT 7) (p.fT 8) (p.fT 9) (p.fT 10) (p.fKV 0) (p.fKI 0) (p.fT 11) (p.fI 1)
noncomputable def UA_all (f : UA_T) : Prop := ∀ (w : World) (mean : ExcName → Option Value) (mg mb : Str → Option Value) (dp un : Nat) (gd : Option (List Code)) (cn : Str) (cs : Scope) (a : Addr) (ccd : Value) (cl : List (Str × Addr)) (outer : List Env) (A₀ : Around) (base h₀ : Heap) (L : Addr) (m : Str → Option Value) (s : Shared) (Q E : Value → Shared → Prop) (rest : List (Addr × Obj)) (W dW S dS nl cv sd G zn sc : Addr) (u : WTok) (t1 t2 tm : Tok) (ppem : Int) (vs cvs : List Value) (ns cns : List Int) (k kc : Nat) (sto : Obj) (dG R dR : Addr) (gv : GV) (r1 r2 r3 r4 r5 r6 q1 q2 : Tok) (kvs : List (Int × Value)) (cst : List (Int × Int)) (tc : Tok) (c : Int), f w mean mg mb dp un gd cn cs a ccd cl outer A₀ base h₀ L m s Q E rest W dW S dS nl cv sd G zn sc u t1 t2 tm ppem vs cvs ns cns k kc sto dG R dR gv r1 r2 r3 r4 r5 r6 q1 q2 kvs cst tc c
noncomputable def any_dup_S : UA_T := fun w mean mg mb dp un gd cn cs a ccd cl outer A₀ base h₀ L m s Q E rest W dW S dS nl cv sd G zn sc u t1 t2 tm ppem vs cvs ns cns k kc sto dG R dR gv r1 r2 r3 r4 r5 r6 q1 q2 kvs cst tc c => ∀ (B : Below A₀ base outer h₀) (F : Fr h₀ L s.heap m) (X : (lay.heap_1 w.params).In h₀) (N : News h₀ L s.heap ((W, instObj 476 dW) :: (dW, dictOf (WrkE w u G S zn cv sd sc ppem) 8) :: (S, instObj 425 dS) :: (dS, dictOf (StkE w t1 t2 tm nl) 2) :: (nl, listOf vs.toArray k) :: (cv, listOf cvs.toArray kc) :: (sd, sto) :: (G, instObj 369 dG) :: (dG, dictOf (GrE w gv R) 18) :: (R, instObj 112 dR) :: (dR, dictOf (RndE w r1 r2 r3 r4 r5 r6) 3) :: (sc, tupObj [Value.int 3 q1, Value.int 2 q2]) :: rest)) (T' : Top view (looseW view [Str.ofString "HintWork"]) mean mg mb h₀) (hk : cs.kind = .function) (hdp : dp + 6 < recursionLimit) (hun : un + 128 < cLine) (off : OwnOff rest [nl, dS, cv, sd]) (hc : c = 32) (ap : Apart W dW S dS nl cv sd) (ap2 : Apart2 nl cv sd dS G dG R dR sc) (hpp : c = 75 → ppem = 12) (hi : IntsAre vs ns) (hl : ns.length ≤ 12) (hb : ∀ x ∈ ns, -(10 ^ 10) < x ∧ x < 10 ^ 10) (hcn : IntsAre cvs cns) (hcl : cns.length = 3) (lo9 : (sd == sysModules) = false) (hd9 : sto.IsDictOf (PySem.intKind PySem.Challenge.rw_on0247_01.row.toRowW.prog w) kvs) (hf9 : PyProof.V.FlatPairs PyData.int kvs (kdfD cst)) (hc9 : cst.length ≤ 1000)
   (hret : ∀ nsx cnx csx h' tk' nl' vs' k' cvs' kc' sto' kvs', opStep c ns cns cst = some (nsx, cnx, csx) → Fr h₀ L h' m → News h₀ L h' ((W, instObj 476 dW) :: (dW, dictOf (WrkE w u G S zn cv sd sc ppem) 8) :: (S, instObj 425 dS) :: (dS, dictOf (StkE w t1 t2 tm nl') 2) :: (nl', listOf (List.toArray vs') k') :: (cv, listOf (List.toArray cvs') kc') :: (sd, sto') :: (G, instObj 369 dG) :: (dG, dictOf (GrE w gv R) 18) :: (R, instObj 112 dR) :: (dR, dictOf (RndE w r1 r2 r3 r4 r5 r6) 3) :: (sc, tupObj [Value.int 3 q1, Value.int 2 q2]) :: rest) → IntsAre vs' nsx → IntsAre cvs' cnx → sto'.IsDictOf (PySem.intKind PySem.Challenge.rw_on0247_01.row.toRowW.prog w) kvs' → PyProof.V.FlatPairs PyData.int kvs' (kdfD csx) → (nl' = nl ∨ (@LT.lt Nat _ W nl' ∧ @LT.lt Nat _ dW nl' ∧ @LT.lt Nat _ S nl' ∧ @LT.lt Nat _ dS nl' ∧ @LT.lt Nat _ nl nl' ∧ @LT.lt Nat _ cv nl' ∧ @LT.lt Nat _ sd nl' ∧ AllLt nl' ((G, instObj 369 dG) :: (dG, dictOf (GrE w gv R) 18) :: (R, instObj 112 dR) :: (dR, dictOf (RndE w r1 r2 r3 r4 r5 r6) 3) :: (sc, tupObj [Value.int 3 q1, Value.int 2 q2]) :: rest))) → Q .none { s with heap := h', toks := tk' })
   (hexc : ∀ e h' tk' g₂, opStep c ns cns cst = none → RaisedN base (envX cn cs L a ccd cl :: outer) e (.ref 51) ((W, instObj 476 dW) :: (dW, dictOf (WrkE w u G S zn cv sd sc ppem) 8) :: (S, instObj 425 dS) :: (dS, dictOf (StkE w t1 t2 tm nl) 2) :: (cv, listOf (List.toArray cvs) kc) :: (sd, sto) :: (G, instObj 369 dG) :: (dG, dictOf (GrE w gv R) 18) :: (R, instObj 112 dR) :: (dR, dictOf (RndE w r1 r2 r3 r4 r5 r6) 3) :: (sc, tupObj [Value.int 3 q1, Value.int 2 q2]) :: rest) h' → g₂.UpToSlots h' → Fr h₀ L g₂ m → E (.ref e) { s with heap := h', toks := tk' }),
  wpAny (model PySem.Challenge.rw_on0247_01.row.toRowW.prog w) (ktrTop dp un gd cn cs L a ccd cl outer) (call (.ref 137) [.ref W, .int c tc]) Q E s
noncomputable def any_pop_S : UA_T := fun w mean mg mb dp un gd cn cs a ccd cl outer A₀ base h₀ L m s Q E rest W dW S dS nl cv sd G zn sc u t1 t2 tm ppem vs cvs ns cns k kc sto dG R dR gv r1 r2 r3 r4 r5 r6 q1 q2 kvs cst tc c => ∀ (B : Below A₀ base outer h₀) (F : Fr h₀ L s.heap m) (X : (lay.heap_1 w.params).In h₀) (N : News h₀ L s.heap ((W, instObj 476 dW) :: (dW, dictOf (WrkE w u G S zn cv sd sc ppem) 8) :: (S, instObj 425 dS) :: (dS, dictOf (StkE w t1 t2 tm nl) 2) :: (nl, listOf vs.toArray k) :: (cv, listOf cvs.toArray kc) :: (sd, sto) :: (G, instObj 369 dG) :: (dG, dictOf (GrE w gv R) 18) :: (R, instObj 112 dR) :: (dR, dictOf (RndE w r1 r2 r3 r4 r5 r6) 3) :: (sc, tupObj [Value.int 3 q1, Value.int 2 q2]) :: rest)) (T' : Top view (looseW view [Str.ofString "HintWork"]) mean mg mb h₀) (hk : cs.kind = .function) (hdp : dp + 6 < recursionLimit) (hun : un + 128 < cLine) (off : OwnOff rest [nl, dS, cv, sd]) (hc : c = 33 ∨ c = 126) (ap : Apart W dW S dS nl cv sd) (ap2 : Apart2 nl cv sd dS G dG R dR sc) (hpp : c = 75 → ppem = 12) (hi : IntsAre vs ns) (hl : ns.length ≤ 12) (hb : ∀ x ∈ ns, -(10 ^ 10) < x ∧ x < 10 ^ 10) (hcn : IntsAre cvs cns) (hcl : cns.length = 3) (lo9 : (sd == sysModules) = false) (hd9 : sto.IsDictOf (PySem.intKind PySem.Challenge.rw_on0247_01.row.toRowW.prog w) kvs) (hf9 : PyProof.V.FlatPairs PyData.int kvs (kdfD cst)) (hc9 : cst.length ≤ 1000)
   (hret : ∀ nsx cnx csx h' tk' nl' vs' k' cvs' kc' sto' kvs', opStep c ns cns cst = some (nsx, cnx, csx) → Fr h₀ L h' m → News h₀ L h' ((W, instObj 476 dW) :: (dW, dictOf (WrkE w u G S zn cv sd sc ppem) 8) :: (S, instObj 425 dS) :: (dS, dictOf (StkE w t1 t2 tm nl') 2) :: (nl', listOf (List.toArray vs') k') :: (cv, listOf (List.toArray cvs') kc') :: (sd, sto') :: (G, instObj 369 dG) :: (dG, dictOf (GrE w gv R) 18) :: (R, instObj 112 dR) :: (dR, dictOf (RndE w r1 r2 r3 r4 r5 r6) 3) :: (sc, tupObj [Value.int 3 q1, Value.int 2 q2]) :: rest) → IntsAre vs' nsx → IntsAre cvs' cnx → sto'.IsDictOf (PySem.intKind PySem.Challenge.rw_on0247_01.row.toRowW.prog w) kvs' → PyProof.V.FlatPairs PyData.int kvs' (kdfD csx) → (nl' = nl ∨ (@LT.lt Nat _ W nl' ∧ @LT.lt Nat _ dW nl' ∧ @LT.lt Nat _ S nl' ∧ @LT.lt Nat _ dS nl' ∧ @LT.lt Nat _ nl nl' ∧ @LT.lt Nat _ cv nl' ∧ @LT.lt Nat _ sd nl' ∧ AllLt nl' ((G, instObj 369 dG) :: (dG, dictOf (GrE w gv R) 18) :: (R, instObj 112 dR) :: (dR, dictOf (RndE w r1 r2 r3 r4 r5 r6) 3) :: (sc, tupObj [Value.int 3 q1, Value.int 2 q2]) :: rest))) → Q .none { s with heap := h', toks := tk' })
   (hexc : ∀ e h' tk' g₂, opStep c ns cns cst = none → RaisedN base (envX cn cs L a ccd cl :: outer) e (.ref 51) ((W, instObj 476 dW) :: (dW, dictOf (WrkE w u G S zn cv sd sc ppem) 8) :: (S, instObj 425 dS) :: (dS, dictOf (StkE w t1 t2 tm nl) 2) :: (cv, listOf (List.toArray cvs) kc) :: (sd, sto) :: (G, instObj 369 dG) :: (dG, dictOf (GrE w gv R) 18) :: (R, instObj 112 dR) :: (dR, dictOf (RndE w r1 r2 r3 r4 r5 r6) 3) :: (sc, tupObj [Value.int 3 q1, Value.int 2 q2]) :: rest) h' → g₂.UpToSlots h' → Fr h₀ L g₂ m → E (.ref e) { s with heap := h', toks := tk' }),
  wpAny (model PySem.Challenge.rw_on0247_01.row.toRowW.prog w) (ktrTop dp un gd cn cs L a ccd cl outer) (call (.ref 144) [.ref W, .int c tc]) Q E s
noncomputable def any_clear_S : UA_T := fun w mean mg mb dp un gd cn cs a ccd cl outer A₀ base h₀ L m s Q E rest W dW S dS nl cv sd G zn sc u t1 t2 tm ppem vs cvs ns cns k kc sto dG R dR gv r1 r2 r3 r4 r5 r6 q1 q2 kvs cst tc c => ∀ (B : Below A₀ base outer h₀) (F : Fr h₀ L s.heap m) (X : (lay.heap_1 w.params).In h₀) (N : News h₀ L s.heap ((W, instObj 476 dW) :: (dW, dictOf (WrkE w u G S zn cv sd sc ppem) 8) :: (S, instObj 425 dS) :: (dS, dictOf (StkE w t1 t2 tm nl) 2) :: (nl, listOf vs.toArray k) :: (cv, listOf cvs.toArray kc) :: (sd, sto) :: (G, instObj 369 dG) :: (dG, dictOf (GrE w gv R) 18) :: (R, instObj 112 dR) :: (dR, dictOf (RndE w r1 r2 r3 r4 r5 r6) 3) :: (sc, tupObj [Value.int 3 q1, Value.int 2 q2]) :: rest)) (T' : Top view (looseW view [Str.ofString "HintWork"]) mean mg mb h₀) (hk : cs.kind = .function) (hdp : dp + 6 < recursionLimit) (hun : un + 128 < cLine) (off : OwnOff rest [nl, dS, cv, sd]) (hc : c = 34) (ap : Apart W dW S dS nl cv sd) (ap2 : Apart2 nl cv sd dS G dG R dR sc) (hpp : c = 75 → ppem = 12) (hi : IntsAre vs ns) (hl : ns.length ≤ 12) (hb : ∀ x ∈ ns, -(10 ^ 10) < x ∧ x < 10 ^ 10) (hcn : IntsAre cvs cns) (hcl : cns.length = 3) (lo9 : (sd == sysModules) = false) (hd9 : sto.IsDictOf (PySem.intKind PySem.Challenge.rw_on0247_01.row.toRowW.prog w) kvs) (hf9 : PyProof.V.FlatPairs PyData.int kvs (kdfD cst)) (hc9 : cst.length ≤ 1000)
   (hret : ∀ nsx cnx csx h' tk' nl' vs' k' cvs' kc' sto' kvs', opStep c ns cns cst = some (nsx, cnx, csx) → Fr h₀ L h' m → News h₀ L h' ((W, instObj 476 dW) :: (dW, dictOf (WrkE w u G S zn cv sd sc ppem) 8) :: (S, instObj 425 dS) :: (dS, dictOf (StkE w t1 t2 tm nl') 2) :: (nl', listOf (List.toArray vs') k') :: (cv, listOf (List.toArray cvs') kc') :: (sd, sto') :: (G, instObj 369 dG) :: (dG, dictOf (GrE w gv R) 18) :: (R, instObj 112 dR) :: (dR, dictOf (RndE w r1 r2 r3 r4 r5 r6) 3) :: (sc, tupObj [Value.int 3 q1, Value.int 2 q2]) :: rest) → IntsAre vs' nsx → IntsAre cvs' cnx → sto'.IsDictOf (PySem.intKind PySem.Challenge.rw_on0247_01.row.toRowW.prog w) kvs' → PyProof.V.FlatPairs PyData.int kvs' (kdfD csx) → (nl' = nl ∨ (@LT.lt Nat _ W nl' ∧ @LT.lt Nat _ dW nl' ∧ @LT.lt Nat _ S nl' ∧ @LT.lt Nat _ dS nl' ∧ @LT.lt Nat _ nl nl' ∧ @LT.lt Nat _ cv nl' ∧ @LT.lt Nat _ sd nl' ∧ AllLt nl' ((G, instObj 369 dG) :: (dG, dictOf (GrE w gv R) 18) :: (R, instObj 112 dR) :: (dR, dictOf (RndE w r1 r2 r3 r4 r5 r6) 3) :: (sc, tupObj [Value.int 3 q1, Value.int 2 q2]) :: rest))) → Q .none { s with heap := h', toks := tk' })
   (hexc : ∀ e h' tk' g₂, opStep c ns cns cst = none → RaisedN base (envX cn cs L a ccd cl :: outer) e (.ref 51) ((W, instObj 476 dW) :: (dW, dictOf (WrkE w u G S zn cv sd sc ppem) 8) :: (S, instObj 425 dS) :: (dS, dictOf (StkE w t1 t2 tm nl) 2) :: (cv, listOf (List.toArray cvs) kc) :: (sd, sto) :: (G, instObj 369 dG) :: (dG, dictOf (GrE w gv R) 18) :: (R, instObj 112 dR) :: (dR, dictOf (RndE w r1 r2 r3 r4 r5 r6) 3) :: (sc, tupObj [Value.int 3 q1, Value.int 2 q2]) :: rest) h' → g₂.UpToSlots h' → Fr h₀ L g₂ m → E (.ref e) { s with heap := h', toks := tk' }),
  wpAny (model PySem.Challenge.rw_on0247_01.row.toRowW.prog w) (ktrTop dp un gd cn cs L a ccd cl outer) (call (.ref 151) [.ref W, .int c tc]) Q E s
noncomputable def any_swap_S : UA_T := fun w mean mg mb dp un gd cn cs a ccd cl outer A₀ base h₀ L m s Q E rest W dW S dS nl cv sd G zn sc u t1 t2 tm ppem vs cvs ns cns k kc sto dG R dR gv r1 r2 r3 r4 r5 r6 q1 q2 kvs cst tc c => ∀ (B : Below A₀ base outer h₀) (F : Fr h₀ L s.heap m) (X : (lay.heap_1 w.params).In h₀) (N : News h₀ L s.heap ((W, instObj 476 dW) :: (dW, dictOf (WrkE w u G S zn cv sd sc ppem) 8) :: (S, instObj 425 dS) :: (dS, dictOf (StkE w t1 t2 tm nl) 2) :: (nl, listOf vs.toArray k) :: (cv, listOf cvs.toArray kc) :: (sd, sto) :: (G, instObj 369 dG) :: (dG, dictOf (GrE w gv R) 18) :: (R, instObj 112 dR) :: (dR, dictOf (RndE w r1 r2 r3 r4 r5 r6) 3) :: (sc, tupObj [Value.int 3 q1, Value.int 2 q2]) :: rest)) (T' : Top view (looseW view [Str.ofString "HintWork"]) mean mg mb h₀) (hk : cs.kind = .function) (hdp : dp + 6 < recursionLimit) (hun : un + 128 < cLine) (off : OwnOff rest [nl, dS, cv, sd]) (hc : c = 35) (ap : Apart W dW S dS nl cv sd) (ap2 : Apart2 nl cv sd dS G dG R dR sc) (hpp : c = 75 → ppem = 12) (hi : IntsAre vs ns) (hl : ns.length ≤ 12) (hb : ∀ x ∈ ns, -(10 ^ 10) < x ∧ x < 10 ^ 10) (hcn : IntsAre cvs cns) (hcl : cns.length = 3) (lo9 : (sd == sysModules) = false) (hd9 : sto.IsDictOf (PySem.intKind PySem.Challenge.rw_on0247_01.row.toRowW.prog w) kvs) (hf9 : PyProof.V.FlatPairs PyData.int kvs (kdfD cst)) (hc9 : cst.length ≤ 1000)
   (hret : ∀ nsx cnx csx h' tk' nl' vs' k' cvs' kc' sto' kvs', opStep c ns cns cst = some (nsx, cnx, csx) → Fr h₀ L h' m → News h₀ L h' ((W, instObj 476 dW) :: (dW, dictOf (WrkE w u G S zn cv sd sc ppem) 8) :: (S, instObj 425 dS) :: (dS, dictOf (StkE w t1 t2 tm nl') 2) :: (nl', listOf (List.toArray vs') k') :: (cv, listOf (List.toArray cvs') kc') :: (sd, sto') :: (G, instObj 369 dG) :: (dG, dictOf (GrE w gv R) 18) :: (R, instObj 112 dR) :: (dR, dictOf (RndE w r1 r2 r3 r4 r5 r6) 3) :: (sc, tupObj [Value.int 3 q1, Value.int 2 q2]) :: rest) → IntsAre vs' nsx → IntsAre cvs' cnx → sto'.IsDictOf (PySem.intKind PySem.Challenge.rw_on0247_01.row.toRowW.prog w) kvs' → PyProof.V.FlatPairs PyData.int kvs' (kdfD csx) → (nl' = nl ∨ (@LT.lt Nat _ W nl' ∧ @LT.lt Nat _ dW nl' ∧ @LT.lt Nat _ S nl' ∧ @LT.lt Nat _ dS nl' ∧ @LT.lt Nat _ nl nl' ∧ @LT.lt Nat _ cv nl' ∧ @LT.lt Nat _ sd nl' ∧ AllLt nl' ((G, instObj 369 dG) :: (dG, dictOf (GrE w gv R) 18) :: (R, instObj 112 dR) :: (dR, dictOf (RndE w r1 r2 r3 r4 r5 r6) 3) :: (sc, tupObj [Value.int 3 q1, Value.int 2 q2]) :: rest))) → Q .none { s with heap := h', toks := tk' })
   (hexc : ∀ e h' tk' g₂, opStep c ns cns cst = none → RaisedN base (envX cn cs L a ccd cl :: outer) e (.ref 51) ((W, instObj 476 dW) :: (dW, dictOf (WrkE w u G S zn cv sd sc ppem) 8) :: (S, instObj 425 dS) :: (dS, dictOf (StkE w t1 t2 tm nl) 2) :: (cv, listOf (List.toArray cvs) kc) :: (sd, sto) :: (G, instObj 369 dG) :: (dG, dictOf (GrE w gv R) 18) :: (R, instObj 112 dR) :: (dR, dictOf (RndE w r1 r2 r3 r4 r5 r6) 3) :: (sc, tupObj [Value.int 3 q1, Value.int 2 q2]) :: rest) h' → g₂.UpToSlots h' → Fr h₀ L g₂ m → E (.ref e) { s with heap := h', toks := tk' }),
  wpAny (model PySem.Challenge.rw_on0247_01.row.toRowW.prog w) (ktrTop dp un gd cn cs L a ccd cl outer) (call (.ref 158) [.ref W, .int c tc]) Q E s
noncomputable def any_depth_S : UA_T := fun w mean mg mb dp un gd cn cs a ccd cl outer A₀ base h₀ L m s Q E rest W dW S dS nl cv sd G zn sc u t1 t2 tm ppem vs cvs ns cns k kc sto dG R dR gv r1 r2 r3 r4 r5 r6 q1 q2 kvs cst tc c => ∀ (B : Below A₀ base outer h₀) (F : Fr h₀ L s.heap m) (X : (lay.heap_1 w.params).In h₀) (N : News h₀ L s.heap ((W, instObj 476 dW) :: (dW, dictOf (WrkE w u G S zn cv sd sc ppem) 8) :: (S, instObj 425 dS) :: (dS, dictOf (StkE w t1 t2 tm nl) 2) :: (nl, listOf vs.toArray k) :: (cv, listOf cvs.toArray kc) :: (sd, sto) :: (G, instObj 369 dG) :: (dG, dictOf (GrE w gv R) 18) :: (R, instObj 112 dR) :: (dR, dictOf (RndE w r1 r2 r3 r4 r5 r6) 3) :: (sc, tupObj [Value.int 3 q1, Value.int 2 q2]) :: rest)) (T' : Top view (looseW view [Str.ofString "HintWork"]) mean mg mb h₀) (hk : cs.kind = .function) (hdp : dp + 6 < recursionLimit) (hun : un + 128 < cLine) (off : OwnOff rest [nl, dS, cv, sd]) (hc : c = 36) (ap : Apart W dW S dS nl cv sd) (ap2 : Apart2 nl cv sd dS G dG R dR sc) (hpp : c = 75 → ppem = 12) (hi : IntsAre vs ns) (hl : ns.length ≤ 12) (hb : ∀ x ∈ ns, -(10 ^ 10) < x ∧ x < 10 ^ 10) (hcn : IntsAre cvs cns) (hcl : cns.length = 3) (lo9 : (sd == sysModules) = false) (hd9 : sto.IsDictOf (PySem.intKind PySem.Challenge.rw_on0247_01.row.toRowW.prog w) kvs) (hf9 : PyProof.V.FlatPairs PyData.int kvs (kdfD cst)) (hc9 : cst.length ≤ 1000)
   (hret : ∀ nsx cnx csx h' tk' nl' vs' k' cvs' kc' sto' kvs', opStep c ns cns cst = some (nsx, cnx, csx) → Fr h₀ L h' m → News h₀ L h' ((W, instObj 476 dW) :: (dW, dictOf (WrkE w u G S zn cv sd sc ppem) 8) :: (S, instObj 425 dS) :: (dS, dictOf (StkE w t1 t2 tm nl') 2) :: (nl', listOf (List.toArray vs') k') :: (cv, listOf (List.toArray cvs') kc') :: (sd, sto') :: (G, instObj 369 dG) :: (dG, dictOf (GrE w gv R) 18) :: (R, instObj 112 dR) :: (dR, dictOf (RndE w r1 r2 r3 r4 r5 r6) 3) :: (sc, tupObj [Value.int 3 q1, Value.int 2 q2]) :: rest) → IntsAre vs' nsx → IntsAre cvs' cnx → sto'.IsDictOf (PySem.intKind PySem.Challenge.rw_on0247_01.row.toRowW.prog w) kvs' → PyProof.V.FlatPairs PyData.int kvs' (kdfD csx) → (nl' = nl ∨ (@LT.lt Nat _ W nl' ∧ @LT.lt Nat _ dW nl' ∧ @LT.lt Nat _ S nl' ∧ @LT.lt Nat _ dS nl' ∧ @LT.lt Nat _ nl nl' ∧ @LT.lt Nat _ cv nl' ∧ @LT.lt Nat _ sd nl' ∧ AllLt nl' ((G, instObj 369 dG) :: (dG, dictOf (GrE w gv R) 18) :: (R, instObj 112 dR) :: (dR, dictOf (RndE w r1 r2 r3 r4 r5 r6) 3) :: (sc, tupObj [Value.int 3 q1, Value.int 2 q2]) :: rest))) → Q .none { s with heap := h', toks := tk' })
   (hexc : ∀ e h' tk' g₂, opStep c ns cns cst = none → RaisedN base (envX cn cs L a ccd cl :: outer) e (.ref 51) ((W, instObj 476 dW) :: (dW, dictOf (WrkE w u G S zn cv sd sc ppem) 8) :: (S, instObj 425 dS) :: (dS, dictOf (StkE w t1 t2 tm nl) 2) :: (cv, listOf (List.toArray cvs) kc) :: (sd, sto) :: (G, instObj 369 dG) :: (dG, dictOf (GrE w gv R) 18) :: (R, instObj 112 dR) :: (dR, dictOf (RndE w r1 r2 r3 r4 r5 r6) 3) :: (sc, tupObj [Value.int 3 q1, Value.int 2 q2]) :: rest) h' → g₂.UpToSlots h' → Fr h₀ L g₂ m → E (.ref e) { s with heap := h', toks := tk' }),
  wpAny (model PySem.Challenge.rw_on0247_01.row.toRowW.prog w) (ktrTop dp un gd cn cs L a ccd cl outer) (call (.ref 165) [.ref W, .int c tc]) Q E s
noncomputable def any_cindex_S : UA_T := fun w mean mg mb dp un gd cn cs a ccd cl outer A₀ base h₀ L m s Q E rest W dW S dS nl cv sd G zn sc u t1 t2 tm ppem vs cvs ns cns k kc sto dG R dR gv r1 r2 r3 r4 r5 r6 q1 q2 kvs cst tc c => ∀ (B : Below A₀ base outer h₀) (F : Fr h₀ L s.heap m) (X : (lay.heap_1 w.params).In h₀) (N : News h₀ L s.heap ((W, instObj 476 dW) :: (dW, dictOf (WrkE w u G S zn cv sd sc ppem) 8) :: (S, instObj 425 dS) :: (dS, dictOf (StkE w t1 t2 tm nl) 2) :: (nl, listOf vs.toArray k) :: (cv, listOf cvs.toArray kc) :: (sd, sto) :: (G, instObj 369 dG) :: (dG, dictOf (GrE w gv R) 18) :: (R, instObj 112 dR) :: (dR, dictOf (RndE w r1 r2 r3 r4 r5 r6) 3) :: (sc, tupObj [Value.int 3 q1, Value.int 2 q2]) :: rest)) (T' : Top view (looseW view [Str.ofString "HintWork"]) mean mg mb h₀) (hk : cs.kind = .function) (hdp : dp + 6 < recursionLimit) (hun : un + 128 < cLine) (off : OwnOff rest [nl, dS, cv, sd]) (hc : c = 37) (ap : Apart W dW S dS nl cv sd) (ap2 : Apart2 nl cv sd dS G dG R dR sc) (hpp : c = 75 → ppem = 12) (hi : IntsAre vs ns) (hl : ns.length ≤ 12) (hb : ∀ x ∈ ns, -(10 ^ 10) < x ∧ x < 10 ^ 10) (hcn : IntsAre cvs cns) (hcl : cns.length = 3) (lo9 : (sd == sysModules) = false) (hd9 : sto.IsDictOf (PySem.intKind PySem.Challenge.rw_on0247_01.row.toRowW.prog w) kvs) (hf9 : PyProof.V.FlatPairs PyData.int kvs (kdfD cst)) (hc9 : cst.length ≤ 1000)
   (hret : ∀ nsx cnx csx h' tk' nl' vs' k' cvs' kc' sto' kvs', opStep c ns cns cst = some (nsx, cnx, csx) → Fr h₀ L h' m → News h₀ L h' ((W, instObj 476 dW) :: (dW, dictOf (WrkE w u G S zn cv sd sc ppem) 8) :: (S, instObj 425 dS) :: (dS, dictOf (StkE w t1 t2 tm nl') 2) :: (nl', listOf (List.toArray vs') k') :: (cv, listOf (List.toArray cvs') kc') :: (sd, sto') :: (G, instObj 369 dG) :: (dG, dictOf (GrE w gv R) 18) :: (R, instObj 112 dR) :: (dR, dictOf (RndE w r1 r2 r3 r4 r5 r6) 3) :: (sc, tupObj [Value.int 3 q1, Value.int 2 q2]) :: rest) → IntsAre vs' nsx → IntsAre cvs' cnx → sto'.IsDictOf (PySem.intKind PySem.Challenge.rw_on0247_01.row.toRowW.prog w) kvs' → PyProof.V.FlatPairs PyData.int kvs' (kdfD csx) → (nl' = nl ∨ (@LT.lt Nat _ W nl' ∧ @LT.lt Nat _ dW nl' ∧ @LT.lt Nat _ S nl' ∧ @LT.lt Nat _ dS nl' ∧ @LT.lt Nat _ nl nl' ∧ @LT.lt Nat _ cv nl' ∧ @LT.lt Nat _ sd nl' ∧ AllLt nl' ((G, instObj 369 dG) :: (dG, dictOf (GrE w gv R) 18) :: (R, instObj 112 dR) :: (dR, dictOf (RndE w r1 r2 r3 r4 r5 r6) 3) :: (sc, tupObj [Value.int 3 q1, Value.int 2 q2]) :: rest))) → Q .none { s with heap := h', toks := tk' })
   (hexc : ∀ e h' tk' g₂, opStep c ns cns cst = none → RaisedN base (envX cn cs L a ccd cl :: outer) e (.ref 51) ((W, instObj 476 dW) :: (dW, dictOf (WrkE w u G S zn cv sd sc ppem) 8) :: (S, instObj 425 dS) :: (dS, dictOf (StkE w t1 t2 tm nl) 2) :: (cv, listOf (List.toArray cvs) kc) :: (sd, sto) :: (G, instObj 369 dG) :: (dG, dictOf (GrE w gv R) 18) :: (R, instObj 112 dR) :: (dR, dictOf (RndE w r1 r2 r3 r4 r5 r6) 3) :: (sc, tupObj [Value.int 3 q1, Value.int 2 q2]) :: rest) h' → g₂.UpToSlots h' → Fr h₀ L g₂ m → E (.ref e) { s with heap := h', toks := tk' }),
  wpAny (model PySem.Challenge.rw_on0247_01.row.toRowW.prog w) (ktrTop dp un gd cn cs L a ccd cl outer) (call (.ref 172) [.ref W, .int c tc]) Q E s
noncomputable def any_mindex_S : UA_T := fun w mean mg mb dp un gd cn cs a ccd cl outer A₀ base h₀ L m s Q E rest W dW S dS nl cv sd G zn sc u t1 t2 tm ppem vs cvs ns cns k kc sto dG R dR gv r1 r2 r3 r4 r5 r6 q1 q2 kvs cst tc c => ∀ (B : Below A₀ base outer h₀) (F : Fr h₀ L s.heap m) (X : (lay.heap_1 w.params).In h₀) (N : News h₀ L s.heap ((W, instObj 476 dW) :: (dW, dictOf (WrkE w u G S zn cv sd sc ppem) 8) :: (S, instObj 425 dS) :: (dS, dictOf (StkE w t1 t2 tm nl) 2) :: (nl, listOf vs.toArray k) :: (cv, listOf cvs.toArray kc) :: (sd, sto) :: (G, instObj 369 dG) :: (dG, dictOf (GrE w gv R) 18) :: (R, instObj 112 dR) :: (dR, dictOf (RndE w r1 r2 r3 r4 r5 r6) 3) :: (sc, tupObj [Value.int 3 q1, Value.int 2 q2]) :: rest)) (T' : Top view (looseW view [Str.ofString "HintWork"]) mean mg mb h₀) (hk : cs.kind = .function) (hdp : dp + 6 < recursionLimit) (hun : un + 128 < cLine) (off : OwnOff rest [nl, dS, cv, sd]) (hc : c = 38) (ap : Apart W dW S dS nl cv sd) (ap2 : Apart2 nl cv sd dS G dG R dR sc) (hpp : c = 75 → ppem = 12) (hi : IntsAre vs ns) (hl : ns.length ≤ 12) (hb : ∀ x ∈ ns, -(10 ^ 10) < x ∧ x < 10 ^ 10) (hcn : IntsAre cvs cns) (hcl : cns.length = 3) (lo9 : (sd == sysModules) = false) (hd9 : sto.IsDictOf (PySem.intKind PySem.Challenge.rw_on0247_01.row.toRowW.prog w) kvs) (hf9 : PyProof.V.FlatPairs PyData.int kvs (kdfD cst)) (hc9 : cst.length ≤ 1000)
   (hret : ∀ nsx cnx csx h' tk' nl' vs' k' cvs' kc' sto' kvs', opStep c ns cns cst = some (nsx, cnx, csx) → Fr h₀ L h' m → News h₀ L h' ((W, instObj 476 dW) :: (dW, dictOf (WrkE w u G S zn cv sd sc ppem) 8) :: (S, instObj 425 dS) :: (dS, dictOf (StkE w t1 t2 tm nl') 2) :: (nl', listOf (List.toArray vs') k') :: (cv, listOf (List.toArray cvs') kc') :: (sd, sto') :: (G, instObj 369 dG) :: (dG, dictOf (GrE w gv R) 18) :: (R, instObj 112 dR) :: (dR, dictOf (RndE w r1 r2 r3 r4 r5 r6) 3) :: (sc, tupObj [Value.int 3 q1, Value.int 2 q2]) :: rest) → IntsAre vs' nsx → IntsAre cvs' cnx → sto'.IsDictOf (PySem.intKind PySem.Challenge.rw_on0247_01.row.toRowW.prog w) kvs' → PyProof.V.FlatPairs PyData.int kvs' (kdfD csx) → (nl' = nl ∨ (@LT.lt Nat _ W nl' ∧ @LT.lt Nat _ dW nl' ∧ @LT.lt Nat _ S nl' ∧ @LT.lt Nat _ dS nl' ∧ @LT.lt Nat _ nl nl' ∧ @LT.lt Nat _ cv nl' ∧ @LT.lt Nat _ sd nl' ∧ AllLt nl' ((G, instObj 369 dG) :: (dG, dictOf (GrE w gv R) 18) :: (R, instObj 112 dR) :: (dR, dictOf (RndE w r1 r2 r3 r4 r5 r6) 3) :: (sc, tupObj [Value.int 3 q1, Value.int 2 q2]) :: rest))) → Q .none { s with heap := h', toks := tk' })
   (hexc : ∀ e h' tk' g₂, opStep c ns cns cst = none → RaisedN base (envX cn cs L a ccd cl :: outer) e (.ref 51) ((W, instObj 476 dW) :: (dW, dictOf (WrkE w u G S zn cv sd sc ppem) 8) :: (S, instObj 425 dS) :: (dS, dictOf (StkE w t1 t2 tm nl) 2) :: (cv, listOf (List.toArray cvs) kc) :: (sd, sto) :: (G, instObj 369 dG) :: (dG, dictOf (GrE w gv R) 18) :: (R, instObj 112 dR) :: (dR, dictOf (RndE w r1 r2 r3 r4 r5 r6) 3) :: (sc, tupObj [Value.int 3 q1, Value.int 2 q2]) :: rest) h' → g₂.UpToSlots h' → Fr h₀ L g₂ m → E (.ref e) { s with heap := h', toks := tk' }),
  wpAny (model PySem.Challenge.rw_on0247_01.row.toRowW.prog w) (ktrTop dp un gd cn cs L a ccd cl outer) (call (.ref 177) [.ref W, .int c tc]) Q E s
noncomputable def any_roll_S : UA_T := fun w mean mg mb dp un gd cn cs a ccd cl outer A₀ base h₀ L m s Q E rest W dW S dS nl cv sd G zn sc u t1 t2 tm ppem vs cvs ns cns k kc sto dG R dR gv r1 r2 r3 r4 r5 r6 q1 q2 kvs cst tc c => ∀ (B : Below A₀ base outer h₀) (F : Fr h₀ L s.heap m) (X : (lay.heap_1 w.params).In h₀) (N : News h₀ L s.heap ((W, instObj 476 dW) :: (dW, dictOf (WrkE w u G S zn cv sd sc ppem) 8) :: (S, instObj 425 dS) :: (dS, dictOf (StkE w t1 t2 tm nl) 2) :: (nl, listOf vs.toArray k) :: (cv, listOf cvs.toArray kc) :: (sd, sto) :: (G, instObj 369 dG) :: (dG, dictOf (GrE w gv R) 18) :: (R, instObj 112 dR) :: (dR, dictOf (RndE w r1 r2 r3 r4 r5 r6) 3) :: (sc, tupObj [Value.int 3 q1, Value.int 2 q2]) :: rest)) (T' : Top view (looseW view [Str.ofString "HintWork"]) mean mg mb h₀) (hk : cs.kind = .function) (hdp : dp + 6 < recursionLimit) (hun : un + 128 < cLine) (off : OwnOff rest [nl, dS, cv, sd]) (hc : c = 138) (ap : Apart W dW S dS nl cv sd) (ap2 : Apart2 nl cv sd dS G dG R dR sc) (hpp : c = 75 → ppem = 12) (hi : IntsAre vs ns) (hl : ns.length ≤ 12) (hb : ∀ x ∈ ns, -(10 ^ 10) < x ∧ x < 10 ^ 10) (hcn : IntsAre cvs cns) (hcl : cns.length = 3) (lo9 : (sd == sysModules) = false) (hd9 : sto.IsDictOf (PySem.intKind PySem.Challenge.rw_on0247_01.row.toRowW.prog w) kvs) (hf9 : PyProof.V.FlatPairs PyData.int kvs (kdfD cst)) (hc9 : cst.length ≤ 1000)
   (hret : ∀ nsx cnx csx h' tk' nl' vs' k' cvs' kc' sto' kvs', opStep c ns cns cst = some (nsx, cnx, csx) → Fr h₀ L h' m → News h₀ L h' ((W, instObj 476 dW) :: (dW, dictOf (WrkE w u G S zn cv sd sc ppem) 8) :: (S, instObj 425 dS) :: (dS, dictOf (StkE w t1 t2 tm nl') 2) :: (nl', listOf (List.toArray vs') k') :: (cv, listOf (List.toArray cvs') kc') :: (sd, sto') :: (G, instObj 369 dG) :: (dG, dictOf (GrE w gv R) 18) :: (R, instObj 112 dR) :: (dR, dictOf (RndE w r1 r2 r3 r4 r5 r6) 3) :: (sc, tupObj [Value.int 3 q1, Value.int 2 q2]) :: rest) → IntsAre vs' nsx → IntsAre cvs' cnx → sto'.IsDictOf (PySem.intKind PySem.Challenge.rw_on0247_01.row.toRowW.prog w) kvs' → PyProof.V.FlatPairs PyData.int kvs' (kdfD csx) → (nl' = nl ∨ (@LT.lt Nat _ W nl' ∧ @LT.lt Nat _ dW nl' ∧ @LT.lt Nat _ S nl' ∧ @LT.lt Nat _ dS nl' ∧ @LT.lt Nat _ nl nl' ∧ @LT.lt Nat _ cv nl' ∧ @LT.lt Nat _ sd nl' ∧ AllLt nl' ((G, instObj 369 dG) :: (dG, dictOf (GrE w gv R) 18) :: (R, instObj 112 dR) :: (dR, dictOf (RndE w r1 r2 r3 r4 r5 r6) 3) :: (sc, tupObj [Value.int 3 q1, Value.int 2 q2]) :: rest))) → Q .none { s with heap := h', toks := tk' })
   (hexc : ∀ e h' tk' g₂, opStep c ns cns cst = none → RaisedN base (envX cn cs L a ccd cl :: outer) e (.ref 51) ((W, instObj 476 dW) :: (dW, dictOf (WrkE w u G S zn cv sd sc ppem) 8) :: (S, instObj 425 dS) :: (dS, dictOf (StkE w t1 t2 tm nl) 2) :: (cv, listOf (List.toArray cvs) kc) :: (sd, sto) :: (G, instObj 369 dG) :: (dG, dictOf (GrE w gv R) 18) :: (R, instObj 112 dR) :: (dR, dictOf (RndE w r1 r2 r3 r4 r5 r6) 3) :: (sc, tupObj [Value.int 3 q1, Value.int 2 q2]) :: rest) h' → g₂.UpToSlots h' → Fr h₀ L g₂ m → E (.ref e) { s with heap := h', toks := tk' }),
  wpAny (model PySem.Challenge.rw_on0247_01.row.toRowW.prog w) (ktrTop dp un gd cn cs L a ccd cl outer) (call (.ref 184) [.ref W, .int c tc]) Q E s
noncomputable def any_compare_S : UA_T := fun w mean mg mb dp un gd cn cs a ccd cl outer A₀ base h₀ L m s Q E rest W dW S dS nl cv sd G zn sc u t1 t2 tm ppem vs cvs ns cns k kc sto dG R dR gv r1 r2 r3 r4 r5 r6 q1 q2 kvs cst tc c => ∀ (B : Below A₀ base outer h₀) (F : Fr h₀ L s.heap m) (X : (lay.heap_1 w.params).In h₀) (N : News h₀ L s.heap ((W, instObj 476 dW) :: (dW, dictOf (WrkE w u G S zn cv sd sc ppem) 8) :: (S, instObj 425 dS) :: (dS, dictOf (StkE w t1 t2 tm nl) 2) :: (nl, listOf vs.toArray k) :: (cv, listOf cvs.toArray kc) :: (sd, sto) :: (G, instObj 369 dG) :: (dG, dictOf (GrE w gv R) 18) :: (R, instObj 112 dR) :: (dR, dictOf (RndE w r1 r2 r3 r4 r5 r6) 3) :: (sc, tupObj [Value.int 3 q1, Value.int 2 q2]) :: rest)) (T' : Top view (looseW view [Str.ofString "HintWork"]) mean mg mb h₀) (hk : cs.kind = .function) (hdp : dp + 6 < recursionLimit) (hun : un + 128 < cLine) (off : OwnOff rest [nl, dS, cv, sd]) (hc : c = 80 ∨ c = 81 ∨ c = 82 ∨ c = 83 ∨ c = 84 ∨ c = 85 ∨ c = 90 ∨ c = 91) (ap : Apart W dW S dS nl cv sd) (ap2 : Apart2 nl cv sd dS G dG R dR sc) (hpp : c = 75 → ppem = 12) (hi : IntsAre vs ns) (hl : ns.length ≤ 12) (hb : ∀ x ∈ ns, -(10 ^ 10) < x ∧ x < 10 ^ 10) (hcn : IntsAre cvs cns) (hcl : cns.length = 3) (lo9 : (sd == sysModules) = false) (hd9 : sto.IsDictOf (PySem.intKind PySem.Challenge.rw_on0247_01.row.toRowW.prog w) kvs) (hf9 : PyProof.V.FlatPairs PyData.int kvs (kdfD cst)) (hc9 : cst.length ≤ 1000)
   (hret : ∀ nsx cnx csx h' tk' nl' vs' k' cvs' kc' sto' kvs', opStep c ns cns cst = some (nsx, cnx, csx) → Fr h₀ L h' m → News h₀ L h' ((W, instObj 476 dW) :: (dW, dictOf (WrkE w u G S zn cv sd sc ppem) 8) :: (S, instObj 425 dS) :: (dS, dictOf (StkE w t1 t2 tm nl') 2) :: (nl', listOf (List.toArray vs') k') :: (cv, listOf (List.toArray cvs') kc') :: (sd, sto') :: (G, instObj 369 dG) :: (dG, dictOf (GrE w gv R) 18) :: (R, instObj 112 dR) :: (dR, dictOf (RndE w r1 r2 r3 r4 r5 r6) 3) :: (sc, tupObj [Value.int 3 q1, Value.int 2 q2]) :: rest) → IntsAre vs' nsx → IntsAre cvs' cnx → sto'.IsDictOf (PySem.intKind PySem.Challenge.rw_on0247_01.row.toRowW.prog w) kvs' → PyProof.V.FlatPairs PyData.int kvs' (kdfD csx) → (nl' = nl ∨ (@LT.lt Nat _ W nl' ∧ @LT.lt Nat _ dW nl' ∧ @LT.lt Nat _ S nl' ∧ @LT.lt Nat _ dS nl' ∧ @LT.lt Nat _ nl nl' ∧ @LT.lt Nat _ cv nl' ∧ @LT.lt Nat _ sd nl' ∧ AllLt nl' ((G, instObj 369 dG) :: (dG, dictOf (GrE w gv R) 18) :: (R, instObj 112 dR) :: (dR, dictOf (RndE w r1 r2 r3 r4 r5 r6) 3) :: (sc, tupObj [Value.int 3 q1, Value.int 2 q2]) :: rest))) → Q .none { s with heap := h', toks := tk' })
   (hexc : ∀ e h' tk' g₂, opStep c ns cns cst = none → RaisedN base (envX cn cs L a ccd cl :: outer) e (.ref 51) ((W, instObj 476 dW) :: (dW, dictOf (WrkE w u G S zn cv sd sc ppem) 8) :: (S, instObj 425 dS) :: (dS, dictOf (StkE w t1 t2 tm nl) 2) :: (cv, listOf (List.toArray cvs) kc) :: (sd, sto) :: (G, instObj 369 dG) :: (dG, dictOf (GrE w gv R) 18) :: (R, instObj 112 dR) :: (dR, dictOf (RndE w r1 r2 r3 r4 r5 r6) 3) :: (sc, tupObj [Value.int 3 q1, Value.int 2 q2]) :: rest) h' → g₂.UpToSlots h' → Fr h₀ L g₂ m → E (.ref e) { s with heap := h', toks := tk' }),
  wpAny (model PySem.Challenge.rw_on0247_01.row.toRowW.prog w) (ktrTop dp un gd cn cs L a ccd cl outer) (call (.ref 205) [.ref W, .int c tc]) Q E s
noncomputable def any_not_S : UA_T := fun w mean mg mb dp un gd cn cs a ccd cl outer A₀ base h₀ L m s Q E rest W dW S dS nl cv sd G zn sc u t1 t2 tm ppem vs cvs ns cns k kc sto dG R dR gv r1 r2 r3 r4 r5 r6 q1 q2 kvs cst tc c => ∀ (B : Below A₀ base outer h₀) (F : Fr h₀ L s.heap m) (X : (lay.heap_1 w.params).In h₀) (N : News h₀ L s.heap ((W, instObj 476 dW) :: (dW, dictOf (WrkE w u G S zn cv sd sc ppem) 8) :: (S, instObj 425 dS) :: (dS, dictOf (StkE w t1 t2 tm nl) 2) :: (nl, listOf vs.toArray k) :: (cv, listOf cvs.toArray kc) :: (sd, sto) :: (G, instObj 369 dG) :: (dG, dictOf (GrE w gv R) 18) :: (R, instObj 112 dR) :: (dR, dictOf (RndE w r1 r2 r3 r4 r5 r6) 3) :: (sc, tupObj [Value.int 3 q1, Value.int 2 q2]) :: rest)) (T' : Top view (looseW view [Str.ofString "HintWork"]) mean mg mb h₀) (hk : cs.kind = .function) (hdp : dp + 6 < recursionLimit) (hun : un + 128 < cLine) (off : OwnOff rest [nl, dS, cv, sd]) (hc : c = 92) (ap : Apart W dW S dS nl cv sd) (ap2 : Apart2 nl cv sd dS G dG R dR sc) (hpp : c = 75 → ppem = 12) (hi : IntsAre vs ns) (hl : ns.length ≤ 12) (hb : ∀ x ∈ ns, -(10 ^ 10) < x ∧ x < 10 ^ 10) (hcn : IntsAre cvs cns) (hcl : cns.length = 3) (lo9 : (sd == sysModules) = false) (hd9 : sto.IsDictOf (PySem.intKind PySem.Challenge.rw_on0247_01.row.toRowW.prog w) kvs) (hf9 : PyProof.V.FlatPairs PyData.int kvs (kdfD cst)) (hc9 : cst.length ≤ 1000)
   (hret : ∀ nsx cnx csx h' tk' nl' vs' k' cvs' kc' sto' kvs', opStep c ns cns cst = some (nsx, cnx, csx) → Fr h₀ L h' m → News h₀ L h' ((W, instObj 476 dW) :: (dW, dictOf (WrkE w u G S zn cv sd sc ppem) 8) :: (S, instObj 425 dS) :: (dS, dictOf (StkE w t1 t2 tm nl') 2) :: (nl', listOf (List.toArray vs') k') :: (cv, listOf (List.toArray cvs') kc') :: (sd, sto') :: (G, instObj 369 dG) :: (dG, dictOf (GrE w gv R) 18) :: (R, instObj 112 dR) :: (dR, dictOf (RndE w r1 r2 r3 r4 r5 r6) 3) :: (sc, tupObj [Value.int 3 q1, Value.int 2 q2]) :: rest) → IntsAre vs' nsx → IntsAre cvs' cnx → sto'.IsDictOf (PySem.intKind PySem.Challenge.rw_on0247_01.row.toRowW.prog w) kvs' → PyProof.V.FlatPairs PyData.int kvs' (kdfD csx) → (nl' = nl ∨ (@LT.lt Nat _ W nl' ∧ @LT.lt Nat _ dW nl' ∧ @LT.lt Nat _ S nl' ∧ @LT.lt Nat _ dS nl' ∧ @LT.lt Nat _ nl nl' ∧ @LT.lt Nat _ cv nl' ∧ @LT.lt Nat _ sd nl' ∧ AllLt nl' ((G, instObj 369 dG) :: (dG, dictOf (GrE w gv R) 18) :: (R, instObj 112 dR) :: (dR, dictOf (RndE w r1 r2 r3 r4 r5 r6) 3) :: (sc, tupObj [Value.int 3 q1, Value.int 2 q2]) :: rest))) → Q .none { s with heap := h', toks := tk' })
   (hexc : ∀ e h' tk' g₂, opStep c ns cns cst = none → RaisedN base (envX cn cs L a ccd cl :: outer) e (.ref 51) ((W, instObj 476 dW) :: (dW, dictOf (WrkE w u G S zn cv sd sc ppem) 8) :: (S, instObj 425 dS) :: (dS, dictOf (StkE w t1 t2 tm nl) 2) :: (cv, listOf (List.toArray cvs) kc) :: (sd, sto) :: (G, instObj 369 dG) :: (dG, dictOf (GrE w gv R) 18) :: (R, instObj 112 dR) :: (dR, dictOf (RndE w r1 r2 r3 r4 r5 r6) 3) :: (sc, tupObj [Value.int 3 q1, Value.int 2 q2]) :: rest) h' → g₂.UpToSlots h' → Fr h₀ L g₂ m → E (.ref e) { s with heap := h', toks := tk' }),
  wpAny (model PySem.Challenge.rw_on0247_01.row.toRowW.prog w) (ktrTop dp un gd cn cs L a ccd cl outer) (call (.ref 212) [.ref W, .int c tc]) Q E s
noncomputable def any_odd_S : UA_T := fun w mean mg mb dp un gd cn cs a ccd cl outer A₀ base h₀ L m s Q E rest W dW S dS nl cv sd G zn sc u t1 t2 tm ppem vs cvs ns cns k kc sto dG R dR gv r1 r2 r3 r4 r5 r6 q1 q2 kvs cst tc c => ∀ (B : Below A₀ base outer h₀) (F : Fr h₀ L s.heap m) (X : (lay.heap_1 w.params).In h₀) (N : News h₀ L s.heap ((W, instObj 476 dW) :: (dW, dictOf (WrkE w u G S zn cv sd sc ppem) 8) :: (S, instObj 425 dS) :: (dS, dictOf (StkE w t1 t2 tm nl) 2) :: (nl, listOf vs.toArray k) :: (cv, listOf cvs.toArray kc) :: (sd, sto) :: (G, instObj 369 dG) :: (dG, dictOf (GrE w gv R) 18) :: (R, instObj 112 dR) :: (dR, dictOf (RndE w r1 r2 r3 r4 r5 r6) 3) :: (sc, tupObj [Value.int 3 q1, Value.int 2 q2]) :: rest)) (T' : Top view (looseW view [Str.ofString "HintWork"]) mean mg mb h₀) (hk : cs.kind = .function) (hdp : dp + 6 < recursionLimit) (hun : un + 128 < cLine) (off : OwnOff rest [nl, dS, cv, sd]) (hc : c = 86 ∨ c = 87) (ap : Apart W dW S dS nl cv sd) (ap2 : Apart2 nl cv sd dS G dG R dR sc) (hpp : c = 75 → ppem = 12) (hi : IntsAre vs ns) (hl : ns.length ≤ 12) (hb : ∀ x ∈ ns, -(10 ^ 10) < x ∧ x < 10 ^ 10) (hcn : IntsAre cvs cns) (hcl : cns.length = 3) (lo9 : (sd == sysModules) = false) (hd9 : sto.IsDictOf (PySem.intKind PySem.Challenge.rw_on0247_01.row.toRowW.prog w) kvs) (hf9 : PyProof.V.FlatPairs PyData.int kvs (kdfD cst)) (hc9 : cst.length ≤ 1000)
   (hret : ∀ nsx cnx csx h' tk' nl' vs' k' cvs' kc' sto' kvs', opStep c ns cns cst = some (nsx, cnx, csx) → Fr h₀ L h' m → News h₀ L h' ((W, instObj 476 dW) :: (dW, dictOf (WrkE w u G S zn cv sd sc ppem) 8) :: (S, instObj 425 dS) :: (dS, dictOf (StkE w t1 t2 tm nl') 2) :: (nl', listOf (List.toArray vs') k') :: (cv, listOf (List.toArray cvs') kc') :: (sd, sto') :: (G, instObj 369 dG) :: (dG, dictOf (GrE w gv R) 18) :: (R, instObj 112 dR) :: (dR, dictOf (RndE w r1 r2 r3 r4 r5 r6) 3) :: (sc, tupObj [Value.int 3 q1, Value.int 2 q2]) :: rest) → IntsAre vs' nsx → IntsAre cvs' cnx → sto'.IsDictOf (PySem.intKind PySem.Challenge.rw_on0247_01.row.toRowW.prog w) kvs' → PyProof.V.FlatPairs PyData.int kvs' (kdfD csx) → (nl' = nl ∨ (@LT.lt Nat _ W nl' ∧ @LT.lt Nat _ dW nl' ∧ @LT.lt Nat _ S nl' ∧ @LT.lt Nat _ dS nl' ∧ @LT.lt Nat _ nl nl' ∧ @LT.lt Nat _ cv nl' ∧ @LT.lt Nat _ sd nl' ∧ AllLt nl' ((G, instObj 369 dG) :: (dG, dictOf (GrE w gv R) 18) :: (R, instObj 112 dR) :: (dR, dictOf (RndE w r1 r2 r3 r4 r5 r6) 3) :: (sc, tupObj [Value.int 3 q1, Value.int 2 q2]) :: rest))) → Q .none { s with heap := h', toks := tk' })
   (hexc : ∀ e h' tk' g₂, opStep c ns cns cst = none → RaisedN base (envX cn cs L a ccd cl :: outer) e (.ref 51) ((W, instObj 476 dW) :: (dW, dictOf (WrkE w u G S zn cv sd sc ppem) 8) :: (S, instObj 425 dS) :: (dS, dictOf (StkE w t1 t2 tm nl) 2) :: (cv, listOf (List.toArray cvs) kc) :: (sd, sto) :: (G, instObj 369 dG) :: (dG, dictOf (GrE w gv R) 18) :: (R, instObj 112 dR) :: (dR, dictOf (RndE w r1 r2 r3 r4 r5 r6) 3) :: (sc, tupObj [Value.int 3 q1, Value.int 2 q2]) :: rest) h' → g₂.UpToSlots h' → Fr h₀ L g₂ m → E (.ref e) { s with heap := h', toks := tk' }),
  wpAny (model PySem.Challenge.rw_on0247_01.row.toRowW.prog w) (ktrTop dp un gd cn cs L a ccd cl outer) (call (.ref 219) [.ref W, .int c tc]) Q E s
noncomputable def any_ws_S : UA_T := fun w mean mg mb dp un gd cn cs a ccd cl outer A₀ base h₀ L m s Q E rest W dW S dS nl cv sd G zn sc u t1 t2 tm ppem vs cvs ns cns k kc sto dG R dR gv r1 r2 r3 r4 r5 r6 q1 q2 kvs cst tc c => ∀ (B : Below A₀ base outer h₀) (F : Fr h₀ L s.heap m) (X : (lay.heap_1 w.params).In h₀) (N : News h₀ L s.heap ((W, instObj 476 dW) :: (dW, dictOf (WrkE w u G S zn cv sd sc ppem) 8) :: (S, instObj 425 dS) :: (dS, dictOf (StkE w t1 t2 tm nl) 2) :: (nl, listOf vs.toArray k) :: (cv, listOf cvs.toArray kc) :: (sd, sto) :: (G, instObj 369 dG) :: (dG, dictOf (GrE w gv R) 18) :: (R, instObj 112 dR) :: (dR, dictOf (RndE w r1 r2 r3 r4 r5 r6) 3) :: (sc, tupObj [Value.int 3 q1, Value.int 2 q2]) :: rest)) (T' : Top view (looseW view [Str.ofString "HintWork"]) mean mg mb h₀) (hk : cs.kind = .function) (hdp : dp + 6 < recursionLimit) (hun : un + 128 < cLine) (off : OwnOff rest [nl, dS, cv, sd]) (hc : c = 66) (ap : Apart W dW S dS nl cv sd) (ap2 : Apart2 nl cv sd dS G dG R dR sc) (hpp : c = 75 → ppem = 12) (hi : IntsAre vs ns) (hl : ns.length ≤ 12) (hb : ∀ x ∈ ns, -(10 ^ 10) < x ∧ x < 10 ^ 10) (hcn : IntsAre cvs cns) (hcl : cns.length = 3) (lo9 : (sd == sysModules) = false) (hd9 : sto.IsDictOf (PySem.intKind PySem.Challenge.rw_on0247_01.row.toRowW.prog w) kvs) (hf9 : PyProof.V.FlatPairs PyData.int kvs (kdfD cst)) (hc9 : cst.length ≤ 1000)
   (hret : ∀ nsx cnx csx h' tk' nl' vs' k' cvs' kc' sto' kvs', opStep c ns cns cst = some (nsx, cnx, csx) → Fr h₀ L h' m → News h₀ L h' ((W, instObj 476 dW) :: (dW, dictOf (WrkE w u G S zn cv sd sc ppem) 8) :: (S, instObj 425 dS) :: (dS, dictOf (StkE w t1 t2 tm nl') 2) :: (nl', listOf (List.toArray vs') k') :: (cv, listOf (List.toArray cvs') kc') :: (sd, sto') :: (G, instObj 369 dG) :: (dG, dictOf (GrE w gv R) 18) :: (R, instObj 112 dR) :: (dR, dictOf (RndE w r1 r2 r3 r4 r5 r6) 3) :: (sc, tupObj [Value.int 3 q1, Value.int 2 q2]) :: rest) → IntsAre vs' nsx → IntsAre cvs' cnx → sto'.IsDictOf (PySem.intKind PySem.Challenge.rw_on0247_01.row.toRowW.prog w) kvs' → PyProof.V.FlatPairs PyData.int kvs' (kdfD csx) → (nl' = nl ∨ (@LT.lt Nat _ W nl' ∧ @LT.lt Nat _ dW nl' ∧ @LT.lt Nat _ S nl' ∧ @LT.lt Nat _ dS nl' ∧ @LT.lt Nat _ nl nl' ∧ @LT.lt Nat _ cv nl' ∧ @LT.lt Nat _ sd nl' ∧ AllLt nl' ((G, instObj 369 dG) :: (dG, dictOf (GrE w gv R) 18) :: (R, instObj 112 dR) :: (dR, dictOf (RndE w r1 r2 r3 r4 r5 r6) 3) :: (sc, tupObj [Value.int 3 q1, Value.int 2 q2]) :: rest))) → Q .none { s with heap := h', toks := tk' })
   (hexc : ∀ e h' tk' g₂, opStep c ns cns cst = none → RaisedN base (envX cn cs L a ccd cl :: outer) e (.ref 51) ((W, instObj 476 dW) :: (dW, dictOf (WrkE w u G S zn cv sd sc ppem) 8) :: (S, instObj 425 dS) :: (dS, dictOf (StkE w t1 t2 tm nl) 2) :: (cv, listOf (List.toArray cvs) kc) :: (sd, sto) :: (G, instObj 369 dG) :: (dG, dictOf (GrE w gv R) 18) :: (R, instObj 112 dR) :: (dR, dictOf (RndE w r1 r2 r3 r4 r5 r6) 3) :: (sc, tupObj [Value.int 3 q1, Value.int 2 q2]) :: rest) h' → g₂.UpToSlots h' → Fr h₀ L g₂ m → E (.ref e) { s with heap := h', toks := tk' }),
  wpAny (model PySem.Challenge.rw_on0247_01.row.toRowW.prog w) (ktrTop dp un gd cn cs L a ccd cl outer) (call (.ref 261) [.ref W, .int c tc]) Q E s
noncomputable def any_rs_S : UA_T := fun w mean mg mb dp un gd cn cs a ccd cl outer A₀ base h₀ L m s Q E rest W dW S dS nl cv sd G zn sc u t1 t2 tm ppem vs cvs ns cns k kc sto dG R dR gv r1 r2 r3 r4 r5 r6 q1 q2 kvs cst tc c => ∀ (B : Below A₀ base outer h₀) (F : Fr h₀ L s.heap m) (X : (lay.heap_1 w.params).In h₀) (N : News h₀ L s.heap ((W, instObj 476 dW) :: (dW, dictOf (WrkE w u G S zn cv sd sc ppem) 8) :: (S, instObj 425 dS) :: (dS, dictOf (StkE w t1 t2 tm nl) 2) :: (nl, listOf vs.toArray k) :: (cv, listOf cvs.toArray kc) :: (sd, sto) :: (G, instObj 369 dG) :: (dG, dictOf (GrE w gv R) 18) :: (R, instObj 112 dR) :: (dR, dictOf (RndE w r1 r2 r3 r4 r5 r6) 3) :: (sc, tupObj [Value.int 3 q1, Value.int 2 q2]) :: rest)) (T' : Top view (looseW view [Str.ofString "HintWork"]) mean mg mb h₀) (hk : cs.kind = .function) (hdp : dp + 6 < recursionLimit) (hun : un + 128 < cLine) (off : OwnOff rest [nl, dS, cv, sd]) (hc : c = 67) (ap : Apart W dW S dS nl cv sd) (ap2 : Apart2 nl cv sd dS G dG R dR sc) (hpp : c = 75 → ppem = 12) (hi : IntsAre vs ns) (hl : ns.length ≤ 12) (hb : ∀ x ∈ ns, -(10 ^ 10) < x ∧ x < 10 ^ 10) (hcn : IntsAre cvs cns) (hcl : cns.length = 3) (lo9 : (sd == sysModules) = false) (hd9 : sto.IsDictOf (PySem.intKind PySem.Challenge.rw_on0247_01.row.toRowW.prog w) kvs) (hf9 : PyProof.V.FlatPairs PyData.int kvs (kdfD cst)) (hc9 : cst.length ≤ 1000)
   (hret : ∀ nsx cnx csx h' tk' nl' vs' k' cvs' kc' sto' kvs', opStep c ns cns cst = some (nsx, cnx, csx) → Fr h₀ L h' m → News h₀ L h' ((W, instObj 476 dW) :: (dW, dictOf (WrkE w u G S zn cv sd sc ppem) 8) :: (S, instObj 425 dS) :: (dS, dictOf (StkE w t1 t2 tm nl') 2) :: (nl', listOf (List.toArray vs') k') :: (cv, listOf (List.toArray cvs') kc') :: (sd, sto') :: (G, instObj 369 dG) :: (dG, dictOf (GrE w gv R) 18) :: (R, instObj 112 dR) :: (dR, dictOf (RndE w r1 r2 r3 r4 r5 r6) 3) :: (sc, tupObj [Value.int 3 q1, Value.int 2 q2]) :: rest) → IntsAre vs' nsx → IntsAre cvs' cnx → sto'.IsDictOf (PySem.intKind PySem.Challenge.rw_on0247_01.row.toRowW.prog w) kvs' → PyProof.V.FlatPairs PyData.int kvs' (kdfD csx) → (nl' = nl ∨ (@LT.lt Nat _ W nl' ∧ @LT.lt Nat _ dW nl' ∧ @LT.lt Nat _ S nl' ∧ @LT.lt Nat _ dS nl' ∧ @LT.lt Nat _ nl nl' ∧ @LT.lt Nat _ cv nl' ∧ @LT.lt Nat _ sd nl' ∧ AllLt nl' ((G, instObj 369 dG) :: (dG, dictOf (GrE w gv R) 18) :: (R, instObj 112 dR) :: (dR, dictOf (RndE w r1 r2 r3 r4 r5 r6) 3) :: (sc, tupObj [Value.int 3 q1, Value.int 2 q2]) :: rest))) → Q .none { s with heap := h', toks := tk' })
   (hexc : ∀ e h' tk' g₂, opStep c ns cns cst = none → RaisedN base (envX cn cs L a ccd cl :: outer) e (.ref 51) ((W, instObj 476 dW) :: (dW, dictOf (WrkE w u G S zn cv sd sc ppem) 8) :: (S, instObj 425 dS) :: (dS, dictOf (StkE w t1 t2 tm nl) 2) :: (cv, listOf (List.toArray cvs) kc) :: (sd, sto) :: (G, instObj 369 dG) :: (dG, dictOf (GrE w gv R) 18) :: (R, instObj 112 dR) :: (dR, dictOf (RndE w r1 r2 r3 r4 r5 r6) 3) :: (sc, tupObj [Value.int 3 q1, Value.int 2 q2]) :: rest) h' → g₂.UpToSlots h' → Fr h₀ L g₂ m → E (.ref e) { s with heap := h', toks := tk' }),
  wpAny (model PySem.Challenge.rw_on0247_01.row.toRowW.prog w) (ktrTop dp un gd cn cs L a ccd cl outer) (call (.ref 268) [.ref W, .int c tc]) Q E s
noncomputable def any_wcvtp_S : UA_T := fun w mean mg mb dp un gd cn cs a ccd cl outer A₀ base h₀ L m s Q E rest W dW S dS nl cv sd G zn sc u t1 t2 tm ppem vs cvs ns cns k kc sto dG R dR gv r1 r2 r3 r4 r5 r6 q1 q2 kvs cst tc c => ∀ (B : Below A₀ base outer h₀) (F : Fr h₀ L s.heap m) (X : (lay.heap_1 w.params).In h₀) (N : News h₀ L s.heap ((W, instObj 476 dW) :: (dW, dictOf (WrkE w u G S zn cv sd sc ppem) 8) :: (S, instObj 425 dS) :: (dS, dictOf (StkE w t1 t2 tm nl) 2) :: (nl, listOf vs.toArray k) :: (cv, listOf cvs.toArray kc) :: (sd, sto) :: (G, instObj 369 dG) :: (dG, dictOf (GrE w gv R) 18) :: (R, instObj 112 dR) :: (dR, dictOf (RndE w r1 r2 r3 r4 r5 r6) 3) :: (sc, tupObj [Value.int 3 q1, Value.int 2 q2]) :: rest)) (T' : Top view (looseW view [Str.ofString "HintWork"]) mean mg mb h₀) (hk : cs.kind = .function) (hdp : dp + 6 < recursionLimit) (hun : un + 128 < cLine) (off : OwnOff rest [nl, dS, cv, sd]) (hc : c = 68) (ap : Apart W dW S dS nl cv sd) (ap2 : Apart2 nl cv sd dS G dG R dR sc) (hpp : c = 75 → ppem = 12) (hi : IntsAre vs ns) (hl : ns.length ≤ 12) (hb : ∀ x ∈ ns, -(10 ^ 10) < x ∧ x < 10 ^ 10) (hcn : IntsAre cvs cns) (hcl : cns.length = 3) (lo9 : (sd == sysModules) = false) (hd9 : sto.IsDictOf (PySem.intKind PySem.Challenge.rw_on0247_01.row.toRowW.prog w) kvs) (hf9 : PyProof.V.FlatPairs PyData.int kvs (kdfD cst)) (hc9 : cst.length ≤ 1000)
   (hret : ∀ nsx cnx csx h' tk' nl' vs' k' cvs' kc' sto' kvs', opStep c ns cns cst = some (nsx, cnx, csx) → Fr h₀ L h' m → News h₀ L h' ((W, instObj 476 dW) :: (dW, dictOf (WrkE w u G S zn cv sd sc ppem) 8) :: (S, instObj 425 dS) :: (dS, dictOf (StkE w t1 t2 tm nl') 2) :: (nl', listOf (List.toArray vs') k') :: (cv, listOf (List.toArray cvs') kc') :: (sd, sto') :: (G, instObj 369 dG) :: (dG, dictOf (GrE w gv R) 18) :: (R, instObj 112 dR) :: (dR, dictOf (RndE w r1 r2 r3 r4 r5 r6) 3) :: (sc, tupObj [Value.int 3 q1, Value.int 2 q2]) :: rest) → IntsAre vs' nsx → IntsAre cvs' cnx → sto'.IsDictOf (PySem.intKind PySem.Challenge.rw_on0247_01.row.toRowW.prog w) kvs' → PyProof.V.FlatPairs PyData.int kvs' (kdfD csx) → (nl' = nl ∨ (@LT.lt Nat _ W nl' ∧ @LT.lt Nat _ dW nl' ∧ @LT.lt Nat _ S nl' ∧ @LT.lt Nat _ dS nl' ∧ @LT.lt Nat _ nl nl' ∧ @LT.lt Nat _ cv nl' ∧ @LT.lt Nat _ sd nl' ∧ AllLt nl' ((G, instObj 369 dG) :: (dG, dictOf (GrE w gv R) 18) :: (R, instObj 112 dR) :: (dR, dictOf (RndE w r1 r2 r3 r4 r5 r6) 3) :: (sc, tupObj [Value.int 3 q1, Value.int 2 q2]) :: rest))) → Q .none { s with heap := h', toks := tk' })
   (hexc : ∀ e h' tk' g₂, opStep c ns cns cst = none → RaisedN base (envX cn cs L a ccd cl :: outer) e (.ref 51) ((W, instObj 476 dW) :: (dW, dictOf (WrkE w u G S zn cv sd sc ppem) 8) :: (S, instObj 425 dS) :: (dS, dictOf (StkE w t1 t2 tm nl) 2) :: (cv, listOf (List.toArray cvs) kc) :: (sd, sto) :: (G, instObj 369 dG) :: (dG, dictOf (GrE w gv R) 18) :: (R, instObj 112 dR) :: (dR, dictOf (RndE w r1 r2 r3 r4 r5 r6) 3) :: (sc, tupObj [Value.int 3 q1, Value.int 2 q2]) :: rest) h' → g₂.UpToSlots h' → Fr h₀ L g₂ m → E (.ref e) { s with heap := h', toks := tk' }),
  wpAny (model PySem.Challenge.rw_on0247_01.row.toRowW.prog w) (ktrTop dp un gd cn cs L a ccd cl outer) (call (.ref 275) [.ref W, .int c tc]) Q E s
noncomputable def any_wcvtf_S : UA_T := fun w mean mg mb dp un gd cn cs a ccd cl outer A₀ base h₀ L m s Q E rest W dW S dS nl cv sd G zn sc u t1 t2 tm ppem vs cvs ns cns k kc sto dG R dR gv r1 r2 r3 r4 r5 r6 q1 q2 kvs cst tc c => ∀ (B : Below A₀ base outer h₀) (F : Fr h₀ L s.heap m) (X : (lay.heap_1 w.params).In h₀) (N : News h₀ L s.heap ((W, instObj 476 dW) :: (dW, dictOf (WrkE w u G S zn cv sd sc ppem) 8) :: (S, instObj 425 dS) :: (dS, dictOf (StkE w t1 t2 tm nl) 2) :: (nl, listOf vs.toArray k) :: (cv, listOf cvs.toArray kc) :: (sd, sto) :: (G, instObj 369 dG) :: (dG, dictOf (GrE w gv R) 18) :: (R, instObj 112 dR) :: (dR, dictOf (RndE w r1 r2 r3 r4 r5 r6) 3) :: (sc, tupObj [Value.int 3 q1, Value.int 2 q2]) :: rest)) (T' : Top view (looseW view [Str.ofString "HintWork"]) mean mg mb h₀) (hk : cs.kind = .function) (hdp : dp + 6 < recursionLimit) (hun : un + 128 < cLine) (off : OwnOff rest [nl, dS, cv, sd]) (hc : c = 112) (ap : Apart W dW S dS nl cv sd) (ap2 : Apart2 nl cv sd dS G dG R dR sc) (hpp : c = 75 → ppem = 12) (hi : IntsAre vs ns) (hl : ns.length ≤ 12) (hb : ∀ x ∈ ns, -(10 ^ 10) < x ∧ x < 10 ^ 10) (hcn : IntsAre cvs cns) (hcl : cns.length = 3) (lo9 : (sd == sysModules) = false) (hd9 : sto.IsDictOf (PySem.intKind PySem.Challenge.rw_on0247_01.row.toRowW.prog w) kvs) (hf9 : PyProof.V.FlatPairs PyData.int kvs (kdfD cst)) (hc9 : cst.length ≤ 1000)
   (hret : ∀ nsx cnx csx h' tk' nl' vs' k' cvs' kc' sto' kvs', opStep c ns cns cst = some (nsx, cnx, csx) → Fr h₀ L h' m → News h₀ L h' ((W, instObj 476 dW) :: (dW, dictOf (WrkE w u G S zn cv sd sc ppem) 8) :: (S, instObj 425 dS) :: (dS, dictOf (StkE w t1 t2 tm nl') 2) :: (nl', listOf (List.toArray vs') k') :: (cv, listOf (List.toArray cvs') kc') :: (sd, sto') :: (G, instObj 369 dG) :: (dG, dictOf (GrE w gv R) 18) :: (R, instObj 112 dR) :: (dR, dictOf (RndE w r1 r2 r3 r4 r5 r6) 3) :: (sc, tupObj [Value.int 3 q1, Value.int 2 q2]) :: rest) → IntsAre vs' nsx → IntsAre cvs' cnx → sto'.IsDictOf (PySem.intKind PySem.Challenge.rw_on0247_01.row.toRowW.prog w) kvs' → PyProof.V.FlatPairs PyData.int kvs' (kdfD csx) → (nl' = nl ∨ (@LT.lt Nat _ W nl' ∧ @LT.lt Nat _ dW nl' ∧ @LT.lt Nat _ S nl' ∧ @LT.lt Nat _ dS nl' ∧ @LT.lt Nat _ nl nl' ∧ @LT.lt Nat _ cv nl' ∧ @LT.lt Nat _ sd nl' ∧ AllLt nl' ((G, instObj 369 dG) :: (dG, dictOf (GrE w gv R) 18) :: (R, instObj 112 dR) :: (dR, dictOf (RndE w r1 r2 r3 r4 r5 r6) 3) :: (sc, tupObj [Value.int 3 q1, Value.int 2 q2]) :: rest))) → Q .none { s with heap := h', toks := tk' })
   (hexc : ∀ e h' tk' g₂, opStep c ns cns cst = none → RaisedN base (envX cn cs L a ccd cl :: outer) e (.ref 51) ((W, instObj 476 dW) :: (dW, dictOf (WrkE w u G S zn cv sd sc ppem) 8) :: (S, instObj 425 dS) :: (dS, dictOf (StkE w t1 t2 tm nl) 2) :: (cv, listOf (List.toArray cvs) kc) :: (sd, sto) :: (G, instObj 369 dG) :: (dG, dictOf (GrE w gv R) 18) :: (R, instObj 112 dR) :: (dR, dictOf (RndE w r1 r2 r3 r4 r5 r6) 3) :: (sc, tupObj [Value.int 3 q1, Value.int 2 q2]) :: rest) h' → g₂.UpToSlots h' → Fr h₀ L g₂ m → E (.ref e) { s with heap := h', toks := tk' }),
  wpAny (model PySem.Challenge.rw_on0247_01.row.toRowW.prog w) (ktrTop dp un gd cn cs L a ccd cl outer) (call (.ref 282) [.ref W, .int c tc]) Q E s
noncomputable def any_rcvt_S : UA_T := fun w mean mg mb dp un gd cn cs a ccd cl outer A₀ base h₀ L m s Q E rest W dW S dS nl cv sd G zn sc u t1 t2 tm ppem vs cvs ns cns k kc sto dG R dR gv r1 r2 r3 r4 r5 r6 q1 q2 kvs cst tc c => ∀ (B : Below A₀ base outer h₀) (F : Fr h₀ L s.heap m) (X : (lay.heap_1 w.params).In h₀) (N : News h₀ L s.heap ((W, instObj 476 dW) :: (dW, dictOf (WrkE w u G S zn cv sd sc ppem) 8) :: (S, instObj 425 dS) :: (dS, dictOf (StkE w t1 t2 tm nl) 2) :: (nl, listOf vs.toArray k) :: (cv, listOf cvs.toArray kc) :: (sd, sto) :: (G, instObj 369 dG) :: (dG, dictOf (GrE w gv R) 18) :: (R, instObj 112 dR) :: (dR, dictOf (RndE w r1 r2 r3 r4 r5 r6) 3) :: (sc, tupObj [Value.int 3 q1, Value.int 2 q2]) :: rest)) (T' : Top view (looseW view [Str.ofString "HintWork"]) mean mg mb h₀) (hk : cs.kind = .function) (hdp : dp + 6 < recursionLimit) (hun : un + 128 < cLine) (off : OwnOff rest [nl, dS, cv, sd]) (hc : c = 69) (ap : Apart W dW S dS nl cv sd) (ap2 : Apart2 nl cv sd dS G dG R dR sc) (hpp : c = 75 → ppem = 12) (hi : IntsAre vs ns) (hl : ns.length ≤ 12) (hb : ∀ x ∈ ns, -(10 ^ 10) < x ∧ x < 10 ^ 10) (hcn : IntsAre cvs cns) (hcl : cns.length = 3) (lo9 : (sd == sysModules) = false) (hd9 : sto.IsDictOf (PySem.intKind PySem.Challenge.rw_on0247_01.row.toRowW.prog w) kvs) (hf9 : PyProof.V.FlatPairs PyData.int kvs (kdfD cst)) (hc9 : cst.length ≤ 1000)
   (hret : ∀ nsx cnx csx h' tk' nl' vs' k' cvs' kc' sto' kvs', opStep c ns cns cst = some (nsx, cnx, csx) → Fr h₀ L h' m → News h₀ L h' ((W, instObj 476 dW) :: (dW, dictOf (WrkE w u G S zn cv sd sc ppem) 8) :: (S, instObj 425 dS) :: (dS, dictOf (StkE w t1 t2 tm nl') 2) :: (nl', listOf (List.toArray vs') k') :: (cv, listOf (List.toArray cvs') kc') :: (sd, sto') :: (G, instObj 369 dG) :: (dG, dictOf (GrE w gv R) 18) :: (R, instObj 112 dR) :: (dR, dictOf (RndE w r1 r2 r3 r4 r5 r6) 3) :: (sc, tupObj [Value.int 3 q1, Value.int 2 q2]) :: rest) → IntsAre vs' nsx → IntsAre cvs' cnx → sto'.IsDictOf (PySem.intKind PySem.Challenge.rw_on0247_01.row.toRowW.prog w) kvs' → PyProof.V.FlatPairs PyData.int kvs' (kdfD csx) → (nl' = nl ∨ (@LT.lt Nat _ W nl' ∧ @LT.lt Nat _ dW nl' ∧ @LT.lt Nat _ S nl' ∧ @LT.lt Nat _ dS nl' ∧ @LT.lt Nat _ nl nl' ∧ @LT.lt Nat _ cv nl' ∧ @LT.lt Nat _ sd nl' ∧ AllLt nl' ((G, instObj 369 dG) :: (dG, dictOf (GrE w gv R) 18) :: (R, instObj 112 dR) :: (dR, dictOf (RndE w r1 r2 r3 r4 r5 r6) 3) :: (sc, tupObj [Value.int 3 q1, Value.int 2 q2]) :: rest))) → Q .none { s with heap := h', toks := tk' })
   (hexc : ∀ e h' tk' g₂, opStep c ns cns cst = none → RaisedN base (envX cn cs L a ccd cl :: outer) e (.ref 51) ((W, instObj 476 dW) :: (dW, dictOf (WrkE w u G S zn cv sd sc ppem) 8) :: (S, instObj 425 dS) :: (dS, dictOf (StkE w t1 t2 tm nl) 2) :: (cv, listOf (List.toArray cvs) kc) :: (sd, sto) :: (G, instObj 369 dG) :: (dG, dictOf (GrE w gv R) 18) :: (R, instObj 112 dR) :: (dR, dictOf (RndE w r1 r2 r3 r4 r5 r6) 3) :: (sc, tupObj [Value.int 3 q1, Value.int 2 q2]) :: rest) h' → g₂.UpToSlots h' → Fr h₀ L g₂ m → E (.ref e) { s with heap := h', toks := tk' }),
  wpAny (model PySem.Challenge.rw_on0247_01.row.toRowW.prog w) (ktrTop dp un gd cn cs L a ccd cl outer) (call (.ref 289) [.ref W, .int c tc]) Q E s
noncomputable def any_size_S : UA_T := fun w mean mg mb dp un gd cn cs a ccd cl outer A₀ base h₀ L m s Q E rest W dW S dS nl cv sd G zn sc u t1 t2 tm ppem vs cvs ns cns k kc sto dG R dR gv r1 r2 r3 r4 r5 r6 q1 q2 kvs cst tc c => ∀ (B : Below A₀ base outer h₀) (F : Fr h₀ L s.heap m) (X : (lay.heap_1 w.params).In h₀) (N : News h₀ L s.heap ((W, instObj 476 dW) :: (dW, dictOf (WrkE w u G S zn cv sd sc ppem) 8) :: (S, instObj 425 dS) :: (dS, dictOf (StkE w t1 t2 tm nl) 2) :: (nl, listOf vs.toArray k) :: (cv, listOf cvs.toArray kc) :: (sd, sto) :: (G, instObj 369 dG) :: (dG, dictOf (GrE w gv R) 18) :: (R, instObj 112 dR) :: (dR, dictOf (RndE w r1 r2 r3 r4 r5 r6) 3) :: (sc, tupObj [Value.int 3 q1, Value.int 2 q2]) :: rest)) (T' : Top view (looseW view [Str.ofString "HintWork"]) mean mg mb h₀) (hk : cs.kind = .function) (hdp : dp + 6 < recursionLimit) (hun : un + 128 < cLine) (off : OwnOff rest [nl, dS, cv, sd]) (hc : c = 75 ∨ c = 76) (ap : Apart W dW S dS nl cv sd) (ap2 : Apart2 nl cv sd dS G dG R dR sc) (hpp : c = 75 → ppem = 12) (hi : IntsAre vs ns) (hl : ns.length ≤ 12) (hb : ∀ x ∈ ns, -(10 ^ 10) < x ∧ x < 10 ^ 10) (hcn : IntsAre cvs cns) (hcl : cns.length = 3) (lo9 : (sd == sysModules) = false) (hd9 : sto.IsDictOf (PySem.intKind PySem.Challenge.rw_on0247_01.row.toRowW.prog w) kvs) (hf9 : PyProof.V.FlatPairs PyData.int kvs (kdfD cst)) (hc9 : cst.length ≤ 1000)
   (hret : ∀ nsx cnx csx h' tk' nl' vs' k' cvs' kc' sto' kvs', opStep c ns cns cst = some (nsx, cnx, csx) → Fr h₀ L h' m → News h₀ L h' ((W, instObj 476 dW) :: (dW, dictOf (WrkE w u G S zn cv sd sc ppem) 8) :: (S, instObj 425 dS) :: (dS, dictOf (StkE w t1 t2 tm nl') 2) :: (nl', listOf (List.toArray vs') k') :: (cv, listOf (List.toArray cvs') kc') :: (sd, sto') :: (G, instObj 369 dG) :: (dG, dictOf (GrE w gv R) 18) :: (R, instObj 112 dR) :: (dR, dictOf (RndE w r1 r2 r3 r4 r5 r6) 3) :: (sc, tupObj [Value.int 3 q1, Value.int 2 q2]) :: rest) → IntsAre vs' nsx → IntsAre cvs' cnx → sto'.IsDictOf (PySem.intKind PySem.Challenge.rw_on0247_01.row.toRowW.prog w) kvs' → PyProof.V.FlatPairs PyData.int kvs' (kdfD csx) → (nl' = nl ∨ (@LT.lt Nat _ W nl' ∧ @LT.lt Nat _ dW nl' ∧ @LT.lt Nat _ S nl' ∧ @LT.lt Nat _ dS nl' ∧ @LT.lt Nat _ nl nl' ∧ @LT.lt Nat _ cv nl' ∧ @LT.lt Nat _ sd nl' ∧ AllLt nl' ((G, instObj 369 dG) :: (dG, dictOf (GrE w gv R) 18) :: (R, instObj 112 dR) :: (dR, dictOf (RndE w r1 r2 r3 r4 r5 r6) 3) :: (sc, tupObj [Value.int 3 q1, Value.int 2 q2]) :: rest))) → Q .none { s with heap := h', toks := tk' })
   (hexc : ∀ e h' tk' g₂, opStep c ns cns cst = none → RaisedN base (envX cn cs L a ccd cl :: outer) e (.ref 51) ((W, instObj 476 dW) :: (dW, dictOf (WrkE w u G S zn cv sd sc ppem) 8) :: (S, instObj 425 dS) :: (dS, dictOf (StkE w t1 t2 tm nl) 2) :: (cv, listOf (List.toArray cvs) kc) :: (sd, sto) :: (G, instObj 369 dG) :: (dG, dictOf (GrE w gv R) 18) :: (R, instObj 112 dR) :: (dR, dictOf (RndE w r1 r2 r3 r4 r5 r6) 3) :: (sc, tupObj [Value.int 3 q1, Value.int 2 q2]) :: rest) h' → g₂.UpToSlots h' → Fr h₀ L g₂ m → E (.ref e) { s with heap := h', toks := tk' }),
  wpAny (model PySem.Challenge.rw_on0247_01.row.toRowW.prog w) (ktrTop dp un gd cn cs L a ccd cl outer) (call (.ref 310) [.ref W, .int c tc]) Q E s
noncomputable def any_info_S : UA_T := fun w mean mg mb dp un gd cn cs a ccd cl outer A₀ base h₀ L m s Q E rest W dW S dS nl cv sd G zn sc u t1 t2 tm ppem vs cvs ns cns k kc sto dG R dR gv r1 r2 r3 r4 r5 r6 q1 q2 kvs cst tc c => ∀ (B : Below A₀ base outer h₀) (F : Fr h₀ L s.heap m) (X : (lay.heap_1 w.params).In h₀) (N : News h₀ L s.heap ((W, instObj 476 dW) :: (dW, dictOf (WrkE w u G S zn cv sd sc ppem) 8) :: (S, instObj 425 dS) :: (dS, dictOf (StkE w t1 t2 tm nl) 2) :: (nl, listOf vs.toArray k) :: (cv, listOf cvs.toArray kc) :: (sd, sto) :: (G, instObj 369 dG) :: (dG, dictOf (GrE w gv R) 18) :: (R, instObj 112 dR) :: (dR, dictOf (RndE w r1 r2 r3 r4 r5 r6) 3) :: (sc, tupObj [Value.int 3 q1, Value.int 2 q2]) :: rest)) (T' : Top view (looseW view [Str.ofString "HintWork"]) mean mg mb h₀) (hk : cs.kind = .function) (hdp : dp + 6 < recursionLimit) (hun : un + 128 < cLine) (off : OwnOff rest [nl, dS, cv, sd]) (hc : c = 136) (ap : Apart W dW S dS nl cv sd) (ap2 : Apart2 nl cv sd dS G dG R dR sc) (hpp : c = 75 → ppem = 12) (hi : IntsAre vs ns) (hl : ns.length ≤ 12) (hb : ∀ x ∈ ns, -(10 ^ 10) < x ∧ x < 10 ^ 10) (hcn : IntsAre cvs cns) (hcl : cns.length = 3) (lo9 : (sd == sysModules) = false) (hd9 : sto.IsDictOf (PySem.intKind PySem.Challenge.rw_on0247_01.row.toRowW.prog w) kvs) (hf9 : PyProof.V.FlatPairs PyData.int kvs (kdfD cst)) (hc9 : cst.length ≤ 1000)
   (hret : ∀ nsx cnx csx h' tk' nl' vs' k' cvs' kc' sto' kvs', opStep c ns cns cst = some (nsx, cnx, csx) → Fr h₀ L h' m → News h₀ L h' ((W, instObj 476 dW) :: (dW, dictOf (WrkE w u G S zn cv sd sc ppem) 8) :: (S, instObj 425 dS) :: (dS, dictOf (StkE w t1 t2 tm nl') 2) :: (nl', listOf (List.toArray vs') k') :: (cv, listOf (List.toArray cvs') kc') :: (sd, sto') :: (G, instObj 369 dG) :: (dG, dictOf (GrE w gv R) 18) :: (R, instObj 112 dR) :: (dR, dictOf (RndE w r1 r2 r3 r4 r5 r6) 3) :: (sc, tupObj [Value.int 3 q1, Value.int 2 q2]) :: rest) → IntsAre vs' nsx → IntsAre cvs' cnx → sto'.IsDictOf (PySem.intKind PySem.Challenge.rw_on0247_01.row.toRowW.prog w) kvs' → PyProof.V.FlatPairs PyData.int kvs' (kdfD csx) → (nl' = nl ∨ (@LT.lt Nat _ W nl' ∧ @LT.lt Nat _ dW nl' ∧ @LT.lt Nat _ S nl' ∧ @LT.lt Nat _ dS nl' ∧ @LT.lt Nat _ nl nl' ∧ @LT.lt Nat _ cv nl' ∧ @LT.lt Nat _ sd nl' ∧ AllLt nl' ((G, instObj 369 dG) :: (dG, dictOf (GrE w gv R) 18) :: (R, instObj 112 dR) :: (dR, dictOf (RndE w r1 r2 r3 r4 r5 r6) 3) :: (sc, tupObj [Value.int 3 q1, Value.int 2 q2]) :: rest))) → Q .none { s with heap := h', toks := tk' })
   (hexc : ∀ e h' tk' g₂, opStep c ns cns cst = none → RaisedN base (envX cn cs L a ccd cl :: outer) e (.ref 51) ((W, instObj 476 dW) :: (dW, dictOf (WrkE w u G S zn cv sd sc ppem) 8) :: (S, instObj 425 dS) :: (dS, dictOf (StkE w t1 t2 tm nl) 2) :: (cv, listOf (List.toArray cvs) kc) :: (sd, sto) :: (G, instObj 369 dG) :: (dG, dictOf (GrE w gv R) 18) :: (R, instObj 112 dR) :: (dR, dictOf (RndE w r1 r2 r3 r4 r5 r6) 3) :: (sc, tupObj [Value.int 3 q1, Value.int 2 q2]) :: rest) h' → g₂.UpToSlots h' → Fr h₀ L g₂ m → E (.ref e) { s with heap := h', toks := tk' }),
  wpAny (model PySem.Challenge.rw_on0247_01.row.toRowW.prog w) (ktrTop dp un gd cn cs L a ccd cl outer) (call (.ref 317) [.ref W, .int c tc]) Q E s
noncomputable def UA_l : List UA_T := [any_dup_S, any_pop_S, any_clear_S, any_swap_S, any_depth_S, any_cindex_S, any_mindex_S, any_roll_S, any_compare_S, any_not_S, any_odd_S, any_ws_S, any_rs_S, any_wcvtp_S, any_wcvtf_S, any_rcvt_S, any_size_S, any_info_S]
noncomputable def UA_S (p : Bag) : Prop := ∀ f ∈ UA_l, UA_at p f
noncomputable def UA_c : Bag := skc UA_S
theorem UA_reg : True := by
  (k_with "lay UA" => (delta UA_at; refine (?layF0 : UA_all _) (UA_c.fWo 0) (UA_c.fMe 0) (UA_c.fM 0) (UA_c.fM 1) (UA_c.fN 0) (UA_c.fN 1) (UA_c.fGD 0) (UA_c.fSt 0) (UA_c.fSc 0) (UA_c.fA 0) (UA_c.fV 0) (UA_c.fCL 0) (UA_c.fEn 0) (UA_c.fAr 0) (UA_c.fH 0) (UA_c.fH 1) (UA_c.fA 1) (UA_c.fM 2) (UA_c.fSh 0) (UA_c.fQ 0) (UA_c.fQ 1) (UA_c.fAO 0) (UA_c.fA 2) (UA_c.fA 3) (UA_c.fA 4) (UA_c.fA 5) (UA_c.fA 6) (UA_c.fA 7) (UA_c.fA 8) (UA_c.fA 9) (UA_c.fA 10) (UA_c.fA 11) (UA_c.fU 0) (UA_c.fT 0) (UA_c.fT 1) (UA_c.fT 2) (UA_c.fI 0) (UA_c.fVL 0) (UA_c.fVL 1) (UA_c.fIL 0) (UA_c.fIL 1) (UA_c.fN 2) (UA_c.fN 3) (UA_c.fO 0) (UA_c.fA 12) (UA_c.fA 13) (UA_c.fA 14) (UA_c.fG 0) (UA_c.fT 3) (UA_c.fT 4) (UA_c.fT 5) (UA_c.fT 6) (UA_c.fT 7) (UA_c.fT 8) (UA_c.fT 9) (UA_c.fT 10) (UA_c.fKV 0) (UA_c.fKI 0) (UA_c.fT 11) (UA_c.fI 1); intro w mean mg mb dp un gd cn cs a ccd cl outer A₀ base h₀ L m s Q E rest W dW S dS nl cv sd G zn sc u t1 t2 tm ppem vs cvs ns cns k kc sto dG R dR gv r1 r2 r3 r4 r5 r6 q1 q2 kvs cst tc c))
  trivial
theorem any_dup_at : UA_at UA_c any_dup_S := by
  k_extra "lay UA"
  intro B F X N T' hk hdp hun off hc ap ap2 hpp hi hl hb hcn hcl lo9 hd9 hf9 hc9 hret hexc
  have sken := sken
  skip
  have off7 : OwnOff ((G, instObj 369 dG) :: (dG, dictOf (GrE w gv R) 18) :: (R, instObj 112 dR) :: (dR, dictOf (RndE w r1 r2 r3 r4 r5 r6) 3) :: (sc, tupObj [Value.int 3 q1, Value.int 2 q2]) :: rest) [nl, dS, cv, sd] := off12 off ap2
  rcases rev_cases ns with rfl | ⟨r, z, rfl⟩
  · obtain rfl := PyProof.Rows.IntsAre.nil_inv hi
    exact dup_no (cns := cns) B F X N T' hk (by omega) (by omega) off7 ap .nil (fun e h' tk' g R U Fq => hexc e h' tk' g (by simp [hc, opStep, loneB, loneOp, heldOp]) R U Fq)
  obtain ⟨vs1, tz, rfl, hi1⟩ := ints_snoc hi
  have hz := hb z (by simp)
  have hlr : r.length < 12 := by simp at hl; omega
  obtain ⟨hzl, hzh⟩ := hz
  by_cases h : (r.length : Int) < 11
  · exact dup_ok (cns := cns) B F X N T' hk (by omega) (by omega) off7 ap hi1 h (fun h' tk' vs' k' F' N' I' => hret _ _ _ h' tk' nl vs' k' cvs kc sto kvs (by have : r.length < 11 := (by omega); simp [hc, opStep, loneB, loneOp, this]) F' N' I' hcn hd9 hf9 (.inl rfl))
  · exact dup_full (cns := cns) B F X N T' hk (by omega) (by omega) off7 ap hi1 (by omega) (fun e h' tk' g R U Fq => hexc e h' tk' g (by have : ¬ r.length < 11 := (by omega); simp [hc, opStep, loneB, loneOp, this] <;> omega) R U Fq)
theorem any_pop_at : UA_at UA_c any_pop_S :=
  (by intro hz8; exact hz8 : (have hz8 : UA_at UA_c any_pop_S := (by
  k_extra "lay UA"
  intro B F X N T' hk hdp hun off hc ap ap2 hpp hi hl hb hcn hcl lo9 hd9 hf9 hc9 hret hexc
  have sken := sken
  obtain ⟨n_W_dW, n_W_S, n_W_dS, n_W_nl, n_W_cv, n_W_sd, n_dW_S, n_dW_dS, n_dW_nl, n_dW_cv, n_dW_sd, n_S_dS, n_S_nl, n_S_cv, n_S_sd, n_dS_nl, n_dS_cv, n_dS_sd, n_nl_cv, n_nl_sd, n_cv_sd⟩ := ap
  obtain ⟨x_G_nl, x_G_cv, x_G_sd, x_G_dS, x_dG_nl, x_dG_cv, x_dG_sd, x_dG_dS, x_R_nl, x_R_cv, x_R_sd, x_R_dS, x_dR_nl, x_dR_cv, x_dR_sd, x_dR_dS, x_sc_nl, x_sc_cv, x_sc_sd, x_sc_dS⟩ := ap2
  revert X; k_fill; intro X
  refine wpAny_call ?_
  k_extra "x_enterF"
  k_steps
  refine Stop.intro ?_
  rcases rev_cases ns with e1 | ⟨r, z, e1⟩
  · have hv9 := nil_of hi e1
    (with_reducible rename News _ _ _ ((W, _) :: _) => Nq); rw [hv9] at Nq
    k_extra "x_popno"
    k_steps
    all_goals exact hexc _ _ _ _ (by rcases hc with hc | hc <;> (first | (rw [e1, hc]; rfl) | (rw [e1, hc]; unfold opStep loneOp; (repeat rw [lnb]); (try simp only [List.reverse_reverse]); rfl) | (rw [e1, hc]; unfold opStep heldOp; (repeat rw [lnb]); (try simp only [List.reverse_reverse]); rfl) | simp [e1, hc, opStep, loneB, loneOp, heldOp])) (raised_sub (by assumption) (by first | exact drop5 | kcj_all)) (by assumption) (by assumption)
  obtain ⟨vs1, tz, hv1, hi1⟩ := snoc_of hi e1
  (with_reducible rename News _ _ _ ((W, _) :: _) => Nq); rw [hv1] at Nq
  have hl1 : r.length < 12 := by have h9 := hl; rw [e1] at h9; simp at h9; omega
  have hzb := hb z (by rw [e1]; simp)
  obtain ⟨hzl, hzh⟩ := hzb
  k_extra "x_popok"
  k_steps
  all_goals ((refine hret r cns cst _ _ nl _ _ cvs kc sto kvs (by rcases hc with hc | hc <;> (first | (rw [e1, hc]; rfl) | (rw [e1, hc]; unfold opStep loneOp; (repeat rw [lnb]); (try simp only [List.reverse_reverse]); rfl) | (rw [e1, hc]; unfold opStep heldOp; (repeat rw [lnb]); (try simp only [List.reverse_reverse]); rfl) | simp [e1, hc, opStep, loneB, loneOp, heldOp])) (by k_asm) (by first | k_asm | exact cb_drop (by assumption) (by kcj_all)) ?_ hcn hd9 hf9 (.inl rfl)); k_extra "m_ints")); UA_at UA_c any_pop_S))
theorem any_clear_at : UA_at UA_c any_clear_S := by
  k_extra "lay UA"
  intro B F X N T' hk hdp hun off hc ap ap2 hpp hi hl hb hcn hcl lo9 hd9 hf9 hc9 hret hexc
  have sken := sken
  skip
  have off7 : OwnOff ((G, instObj 369 dG) :: (dG, dictOf (GrE w gv R) 18) :: (R, instObj 112 dR) :: (dR, dictOf (RndE w r1 r2 r3 r4 r5 r6) 3) :: (sc, tupObj [Value.int 3 q1, Value.int 2 q2]) :: rest) [nl, dS, cv, sd] := off12 off ap2
  exact clear_ok (cns := cns) B F X N T' hk (by omega) (by omega) off7 ap hi (fun h' tk' nl' F' N' l => hret [] cns cst h' tk' nl' [] 0 cvs kc sto kvs (by simp [hc, opStep, loneB, loneOp, heldOp]) F' N' .nil hcn hd9 hf9 (.inr l))
theorem any_swap_at : UA_at UA_c any_swap_S :=
  (by intro hz8; exact hz8 : (have hz8 : UA_at UA_c any_swap_S := (by
  k_extra "lay UA"
  intro B F X N T' hk hdp hun off hc ap ap2 hpp hi hl hb hcn hcl lo9 hd9 hf9 hc9 hret hexc
  have sken := sken
  obtain ⟨n_W_dW, n_W_S, n_W_dS, n_W_nl, n_W_cv, n_W_sd, n_dW_S, n_dW_dS, n_dW_nl, n_dW_cv, n_dW_sd, n_S_dS, n_S_nl, n_S_cv, n_S_sd, n_dS_nl, n_dS_cv, n_dS_sd, n_nl_cv, n_nl_sd, n_cv_sd⟩ := ap
  obtain ⟨x_G_nl, x_G_cv, x_G_sd, x_G_dS, x_dG_nl, x_dG_cv, x_dG_sd, x_dG_dS, x_R_nl, x_R_cv, x_R_sd, x_R_dS, x_dR_nl, x_dR_cv, x_dR_sd, x_dR_dS, x_sc_nl, x_sc_cv, x_sc_sd, x_sc_dS⟩ := ap2
  revert X; k_fill; intro X
  refine wpAny_call ?_
  k_extra "x_enterF"
  k_steps
  refine Stop.intro ?_
  rcases rev_cases ns with e1 | ⟨r, z, e1⟩
  · have hv9 := nil_of hi e1
    (with_reducible rename News _ _ _ ((W, _) :: _) => Nq); rw [hv9] at Nq
    k_extra "x_popno"
    k_steps
    all_goals exact hexc _ _ _ _ (by first | (rw [e1, hc]; rfl) | (rw [e1, hc]; unfold opStep loneOp; (repeat rw [lnb]); (try simp only [List.reverse_reverse]); rfl) | (rw [e1, hc]; unfold opStep heldOp; (repeat rw [lnb]); (try simp only [List.reverse_reverse]); rfl) | simp [e1, hc, opStep, loneB, loneOp, heldOp]) (raised_sub (by assumption) (by first | exact drop5 | kcj_all)) (by assumption) (by assumption)
  obtain ⟨vs1, tz, hv1, hi1⟩ := snoc_of hi e1
  (with_reducible rename News _ _ _ ((W, _) :: _) => Nq); rw [hv1] at Nq
  have hl1 : r.length < 12 := by have h9 := hl; rw [e1] at h9; simp at h9; omega
  have hzb := hb z (by rw [e1]; simp)
  obtain ⟨hzl, hzh⟩ := hzb
  k_extra "x_popok"
  k_steps
  refine Stop.intro ?_
  rcases rev_cases r with e2 | ⟨q2, y, e2⟩
  · have hv9 := nil_of hi1 e2
    (with_reducible rename News _ _ _ ((W, _) :: _) => Nq); rw [hv9] at Nq
    k_extra "x_popno"
    k_steps
    all_goals exact hexc _ _ _ _ (by first | (rw [e1, e2, hc]; rfl) | (rw [e1, e2, hc]; unfold opStep loneOp; (repeat rw [lnb]); (try simp only [List.reverse_reverse]); rfl) | (rw [e1, e2, hc]; unfold opStep heldOp; (repeat rw [lnb]); (try simp only [List.reverse_reverse]); rfl) | simp [e1, e2, hc, opStep, loneB, loneOp, heldOp]) (raised_sub (by assumption) (by first | exact drop5 | kcj_all)) (by assumption) (by assumption)
  obtain ⟨vs2, ty, hv2, hi2⟩ := snoc_of hi1 e2
  (with_reducible rename News _ _ _ ((W, _) :: _) => Nq); rw [hv2] at Nq
  have hl2 : q2.length < 11 := by have h9 := hl1; rw [e2] at h9; simp at h9; omega
  have hyb := hb y (by rw [e1, e2]; simp)
  obtain ⟨hyl, hyh⟩ := hyb
  k_extra "x_popok"
  k_steps
  all_goals ((refine hret (q2 ++ [z] ++ [y]) cns cst _ _ nl _ _ cvs kc sto kvs (by first | (rw [e1, e2, hc]; rfl) | (rw [e1, e2, hc]; unfold opStep loneOp; (repeat rw [lnb]); (try simp only [List.reverse_reverse]); rfl) | (rw [e1, e2, hc]; unfold opStep heldOp; (repeat rw [lnb]); (try simp only [List.reverse_reverse]); rfl) | simp [e1, e2, hc, opStep, loneB, loneOp, heldOp]) (by k_asm) (by first | k_asm | exact cb_drop (by assumption) (by kcj_all)) ?_ hcn hd9 hf9 (.inl rfl)); k_extra "m_ints")); UA_at UA_c any_swap_S))
theorem any_depth_at : UA_at UA_c any_depth_S := by
  k_extra "lay UA"
  intro B F X N T' hk hdp hun off hc ap ap2 hpp hi hl hb hcn hcl lo9 hd9 hf9 hc9 hret hexc
  have sken := sken
  skip
  have off7 : OwnOff ((G, instObj 369 dG) :: (dG, dictOf (GrE w gv R) 18) :: (R, instObj 112 dR) :: (dR, dictOf (RndE w r1 r2 r3 r4 r5 r6) 3) :: (sc, tupObj [Value.int 3 q1, Value.int 2 q2]) :: rest) [nl, dS, cv, sd] := off12 off ap2
  by_cases h : (ns.length : Int) < 12
  · exact depth_ok (cns := cns) B F X N T' hk (by omega) (by omega) off7 ap hi h (fun h' tk' vs' k' F' N' I' => hret _ _ _ h' tk' nl vs' k' cvs kc sto kvs (by have : ns.length < 12 := (by omega); simp [hc, opStep, loneB, loneOp, this]) F' N' I' hcn hd9 hf9 (.inl rfl))
  · exact depth_full (cns := cns) B F X N T' hk (by omega) (by omega) off7 ap hi (by omega) (fun e h' tk' g R U Fq => hexc e h' tk' g (by have : ¬ ns.length < 12 := (by omega); simp [hc, opStep, loneB, loneOp, this]) R U Fq)
theorem any_cindex_at : UA_at UA_c any_cindex_S :=
  (by intro hz8; exact hz8 : (have hz8 : UA_at UA_c any_cindex_S := (by
  k_extra "lay UA"
  intro B F X N T' hk hdp hun off hc ap ap2 hpp hi hl hb hcn hcl lo9 hd9 hf9 hc9 hret hexc
  have sken := sken
  obtain ⟨n_W_dW, n_W_S, n_W_dS, n_W_nl, n_W_cv, n_W_sd, n_dW_S, n_dW_dS, n_dW_nl, n_dW_cv, n_dW_sd, n_S_dS, n_S_nl, n_S_cv, n_S_sd, n_dS_nl, n_dS_cv, n_dS_sd, n_nl_cv, n_nl_sd, n_cv_sd⟩ := ap
  obtain ⟨x_G_nl, x_G_cv, x_G_sd, x_G_dS, x_dG_nl, x_dG_cv, x_dG_sd, x_dG_dS, x_R_nl, x_R_cv, x_R_sd, x_R_dS, x_dR_nl, x_dR_cv, x_dR_sd, x_dR_dS, x_sc_nl, x_sc_cv, x_sc_sd, x_sc_dS⟩ := ap2
  revert X; k_fill; intro X
  refine wpAny_call ?_
  k_extra "x_enterF"
  k_steps
  refine Stop.intro ?_
  rcases rev_cases ns with e1 | ⟨r, z, e1⟩
  · have hv9 := nil_of hi e1
    (with_reducible rename News _ _ _ ((W, _) :: _) => Nq); rw [hv9] at Nq
    k_extra "x_popno"
    k_steps
    all_goals exact hexc _ _ _ _ (by first | (rw [e1, hc]; rfl) | (rw [e1, hc]; unfold opStep loneOp; (repeat rw [lnb]); (try simp only [List.reverse_reverse]); rfl) | (rw [e1, hc]; unfold opStep heldOp; (repeat rw [lnb]); (try simp only [List.reverse_reverse]); rfl) | simp [e1, hc, opStep, loneB, loneOp, heldOp]) (raised_sub (by assumption) (by first | exact drop5 | kcj_all)) (by assumption) (by assumption)
  obtain ⟨vs1, tz, hv1, hi1⟩ := snoc_of hi e1
  (with_reducible rename News _ _ _ ((W, _) :: _) => Nq); rw [hv1] at Nq
  have hl1 : r.length < 12 := by have h9 := hl; rw [e1] at h9; simp at h9; omega
  have hzb := hb z (by rw [e1]; simp)
  obtain ⟨hzl, hzh⟩ := hzb
  by_cases h : 1 ≤ z ∧ z ≤ (r.length : Int)
  · skip
    k_extra "x_popok"
    k_steps
    all_goals ((refine hret (r ++ [r.getD (Int.toNat (r.length - z)) 0]) cns cst _ _ nl _ _ cvs kc sto kvs (by rw [getD_at h.1 h.2]; simp [e1, hc, opStep, loneB, loneOp, h]) (by k_asm) (by first | k_asm | exact cb_drop (by assumption) (by kcj_all)) ?_ hcn hd9 hf9 (.inl rfl)); k_extra "m_ints")
  · skip
    k_extra "x_popok"
    k_steps
    all_goals exact hexc _ _ _ _ (by simp [e1, hc, opStep, loneB, loneOp, heldOp, h]) (raised_sub (by assumption) (by first | exact drop5 | kcj_all)) (by assumption) (by assumption)); UA_at UA_c any_cindex_S))
theorem any_mindex_at : UA_at UA_c any_mindex_S := by
  k_extra "lay UA"
  intro B F X N T' hk hdp hun off hc ap ap2 hpp hi hl hb hcn hcl lo9 hd9 hf9 hc9 hret hexc
  have sken := sken
  skip
  have off7 : OwnOff ((G, instObj 369 dG) :: (dG, dictOf (GrE w gv R) 18) :: (R, instObj 112 dR) :: (dR, dictOf (RndE w r1 r2 r3 r4 r5 r6) 3) :: (sc, tupObj [Value.int 3 q1, Value.int 2 q2]) :: rest) [nl, dS, cv, sd] := off12 off ap2
  rcases rev_cases ns with rfl | ⟨r, z, rfl⟩
  · obtain rfl := PyProof.Rows.IntsAre.nil_inv hi
    exact mindex_no (cns := cns) B F X N T' hk (by omega) (by omega) off7 ap .nil (fun e h' tk' g R U Fq => hexc e h' tk' g (by simp [hc, opStep, loneB, loneOp, heldOp]) R U Fq)
  obtain ⟨vs1, tz, rfl, hi1⟩ := ints_snoc hi
  have hz := hb z (by simp)
  have hlr : r.length < 12 := by simp at hl; omega
  obtain ⟨hzl, hzh⟩ := hz
  by_cases h : 1 ≤ z ∧ z ≤ (r.length : Int)
  · obtain ⟨as, x, bs, rfl, rfl⟩ := snoc3 z h.1 h.2
    obtain ⟨axs, bvs, rfl, h3, h4⟩ := ints_split hi1
    obtain ⟨avs, tx, rfl, h5⟩ := ints_snoc h3
    exact mindex_ok (vs := []) (ns := []) (cns := cns) B F X N T' hk (by omega) (by omega) off7 ap h5 h4 rfl (by simp at hlr; omega) (fun h' tk' vs' k' F' N' I' => hret _ _ _ h' tk' nl vs' k' cvs kc sto kvs (by rw [hc]; exact mind_eq) F' N' I' hcn hd9 hf9 (.inl rfl))
  · exact mindex_bad (cns := cns) B F X N T' hk (by omega) (by omega) off7 ap hi1 (by omega) hzh hzl h (fun e h' tk' g R U Fq => hexc e h' tk' g (by simp [hc, opStep, loneB, loneOp, heldOp, h]) R U Fq)
theorem any_roll_at : UA_at UA_c any_roll_S :=
  (by intro hz8; exact hz8 : (have hz8 : UA_at UA_c any_roll_S := (by
  k_extra "lay UA"
  intro B F X N T' hk hdp hun off hc ap ap2 hpp hi hl hb hcn hcl lo9 hd9 hf9 hc9 hret hexc
  have sken := sken
  obtain ⟨n_W_dW, n_W_S, n_W_dS, n_W_nl, n_W_cv, n_W_sd, n_dW_S, n_dW_dS, n_dW_nl, n_dW_cv, n_dW_sd, n_S_dS, n_S_nl, n_S_cv, n_S_sd, n_dS_nl, n_dS_cv, n_dS_sd, n_nl_cv, n_nl_sd, n_cv_sd⟩ := ap
  obtain ⟨x_G_nl, x_G_cv, x_G_sd, x_G_dS, x_dG_nl, x_dG_cv, x_dG_sd, x_dG_dS, x_R_nl, x_R_cv, x_R_sd, x_R_dS, x_dR_nl, x_dR_cv, x_dR_sd, x_dR_dS, x_sc_nl, x_sc_cv, x_sc_sd, x_sc_dS⟩ := ap2
  revert X; k_fill; intro X
  refine wpAny_call ?_
  k_extra "x_enterF"
  k_steps
  refine Stop.intro ?_
  rcases rev_cases ns with e1 | ⟨r, z, e1⟩
  · have hv9 := nil_of hi e1
    (with_reducible rename News _ _ _ ((W, _) :: _) => Nq); rw [hv9] at Nq
    k_extra "x_popno"
    k_steps
    all_goals exact hexc _ _ _ _ (by first | (rw [e1, hc]; rfl) | (rw [e1, hc]; unfold opStep loneOp; (repeat rw [lnb]); (try simp only [List.reverse_reverse]); rfl) | (rw [e1, hc]; unfold opStep heldOp; (repeat rw [lnb]); (try simp only [List.reverse_reverse]); rfl) | simp [e1, hc, opStep, loneB, loneOp, heldOp]) (raised_sub (by assumption) (by first | exact drop5 | kcj_all)) (by assumption) (by assumption)
  obtain ⟨vs1, tz, hv1, hi1⟩ := snoc_of hi e1
  (with_reducible rename News _ _ _ ((W, _) :: _) => Nq); rw [hv1] at Nq
  have hl1 : r.length < 12 := by have h9 := hl; rw [e1] at h9; simp at h9; omega
  have hzb := hb z (by rw [e1]; simp)
  obtain ⟨hzl, hzh⟩ := hzb
  k_extra "x_popok"
  k_steps
  refine Stop.intro ?_
  rcases rev_cases r with e2 | ⟨q2, y, e2⟩
  · have hv9 := nil_of hi1 e2
    (with_reducible rename News _ _ _ ((W, _) :: _) => Nq); rw [hv9] at Nq
    k_extra "x_popno"
    k_steps
    all_goals exact hexc _ _ _ _ (by first | (rw [e1, e2, hc]; rfl) | (rw [e1, e2, hc]; unfold opStep loneOp; (repeat rw [lnb]); (try simp only [List.reverse_reverse]); rfl) | (rw [e1, e2, hc]; unfold opStep heldOp; (repeat rw [lnb]); (try simp only [List.reverse_reverse]); rfl) | simp [e1, e2, hc, opStep, loneB, loneOp, heldOp]) (raised_sub (by assumption) (by first | exact drop5 | kcj_all)) (by assumption) (by assumption)
  obtain ⟨vs2, ty, hv2, hi2⟩ := snoc_of hi1 e2
  (with_reducible rename News _ _ _ ((W, _) :: _) => Nq); rw [hv2] at Nq
  have hl2 : q2.length < 11 := by have h9 := hl1; rw [e2] at h9; simp at h9; omega
  have hyb := hb y (by rw [e1, e2]; simp)
  obtain ⟨hyl, hyh⟩ := hyb
  k_extra "x_popok"
  k_steps
  refine Stop.intro ?_
  rcases rev_cases q2 with e3 | ⟨q3, x, e3⟩
  · have hv9 := nil_of hi2 e3
    (with_reducible rename News _ _ _ ((W, _) :: _) => Nq); rw [hv9] at Nq
    k_extra "x_popno"
    k_steps
    all_goals exact hexc _ _ _ _ (by first | (rw [e1, e2, e3, hc]; rfl) | (rw [e1, e2, e3, hc]; unfold opStep loneOp; (repeat rw [lnb]); (try simp only [List.reverse_reverse]); rfl) | (rw [e1, e2, e3, hc]; unfold opStep heldOp; (repeat rw [lnb]); (try simp only [List.reverse_reverse]); rfl) | simp [e1, e2, e3, hc, opStep, loneB, loneOp, heldOp]) (raised_sub (by assumption) (by first | exact drop5 | kcj_all)) (by assumption) (by assumption)
  obtain ⟨vs3, tx, hv3, hi3⟩ := snoc_of hi2 e3
  (with_reducible rename News _ _ _ ((W, _) :: _) => Nq); rw [hv3] at Nq
  have hl3 : q3.length < 10 := by have h9 := hl2; rw [e3] at h9; simp at h9; omega
  have hxb := hb x (by rw [e1, e2, e3]; simp)
  obtain ⟨hxl, hxh⟩ := hxb
  k_extra "x_popok"
  k_steps
  all_goals ((refine hret (q3 ++ [y] ++ [z] ++ [x]) cns cst _ _ nl _ _ cvs kc sto kvs (by first | (rw [e1, e2, e3, hc]; rfl) | (rw [e1, e2, e3, hc]; unfold opStep loneOp; (repeat rw [lnb]); (try simp only [List.reverse_reverse]); rfl) | (rw [e1, e2, e3, hc]; unfold opStep heldOp; (repeat rw [lnb]); (try simp only [List.reverse_reverse]); rfl) | simp [e1, e2, e3, hc, opStep, loneB, loneOp, heldOp]) (by k_asm) (by first | k_asm | exact cb_drop (by assumption) (by kcj_all)) ?_ hcn hd9 hf9 (.inl rfl)); k_extra "m_ints")); UA_at UA_c any_roll_S))
theorem any_compare_at : UA_at UA_c any_compare_S :=
  (by intro hz8; exact hz8 : (have hz8 : UA_at UA_c any_compare_S := (by
  k_extra "lay UA"
  intro B F X N T' hk hdp hun off hc ap ap2 hpp hi hl hb hcn hcl lo9 hd9 hf9 hc9 hret hexc
  have sken := sken
  obtain ⟨n_W_dW, n_W_S, n_W_dS, n_W_nl, n_W_cv, n_W_sd, n_dW_S, n_dW_dS, n_dW_nl, n_dW_cv, n_dW_sd, n_S_dS, n_S_nl, n_S_cv, n_S_sd, n_dS_nl, n_dS_cv, n_dS_sd, n_nl_cv, n_nl_sd, n_cv_sd⟩ := ap
  obtain ⟨x_G_nl, x_G_cv, x_G_sd, x_G_dS, x_dG_nl, x_dG_cv, x_dG_sd, x_dG_dS, x_R_nl, x_R_cv, x_R_sd, x_R_dS, x_dR_nl, x_dR_cv, x_dR_sd, x_dR_dS, x_sc_nl, x_sc_cv, x_sc_sd, x_sc_dS⟩ := ap2
  revert X; k_fill; intro X
  refine wpAny_call ?_
  k_extra "x_enterF"
  k_steps
  refine Stop.intro ?_
  rcases rev_cases ns with e1 | ⟨r, z, e1⟩
  · have hv9 := nil_of hi e1
    (with_reducible rename News _ _ _ ((W, _) :: _) => Nq); rw [hv9] at Nq
    k_extra "x_popno"
    k_steps
    all_goals exact hexc _ _ _ _ (by rw [e1]; exact op_cmp0 hc) (raised_sub (by assumption) (by first | exact drop5 | kcj_all)) (by assumption) (by assumption)
  obtain ⟨vs1, tz, hv1, hi1⟩ := snoc_of hi e1
  (with_reducible rename News _ _ _ ((W, _) :: _) => Nq); rw [hv1] at Nq
  have hl1 : r.length < 12 := by have h9 := hl; rw [e1] at h9; simp at h9; omega
  have hzb := hb z (by rw [e1]; simp)
  obtain ⟨hzl, hzh⟩ := hzb
  k_extra "x_popok"
  k_steps
  refine Stop.intro ?_
  rcases rev_cases r with e2 | ⟨q2, y, e2⟩
  · have hv9 := nil_of hi1 e2
    (with_reducible rename News _ _ _ ((W, _) :: _) => Nq); rw [hv9] at Nq
    k_extra "x_popno"
    k_steps
    all_goals exact hexc _ _ _ _ (by rw [e1, e2]; exact op_cmp1 hc) (raised_sub (by assumption) (by first | exact drop5 | kcj_all)) (by assumption) (by assumption)
  obtain ⟨vs2, ty, hv2, hi2⟩ := snoc_of hi1 e2
  (with_reducible rename News _ _ _ ((W, _) :: _) => Nq); rw [hv2] at Nq
  have hl2 : q2.length < 11 := by have h9 := hl1; rw [e2] at h9; simp at h9; omega
  have hyb := hb y (by rw [e1, e2]; simp)
  obtain ⟨hyl, hyh⟩ := hyb
  k_extra "x_popok"
  k_steps
  all_goals ((refine hret (q2 ++ [b2i (cmpB c y z)]) cns cst _ _ nl _ _ cvs kc sto kvs (by rw [e1, e2]; exact op_cmp2 hc) (by k_asm) (by first | k_asm | exact cb_drop (by assumption) (by kcj_all)) ?_ hcn hd9 hf9 (.inl rfl)); k_extra "m_ints")); UA_at UA_c any_compare_S))
theorem any_not_at : UA_at UA_c any_not_S :=
  (by intro hz8; exact hz8 : (have hz8 : UA_at UA_c any_not_S := (by
  k_extra "lay UA"
  intro B F X N T' hk hdp hun off hc ap ap2 hpp hi hl hb hcn hcl lo9 hd9 hf9 hc9 hret hexc
  have sken := sken
  obtain ⟨n_W_dW, n_W_S, n_W_dS, n_W_nl, n_W_cv, n_W_sd, n_dW_S, n_dW_dS, n_dW_nl, n_dW_cv, n_dW_sd, n_S_dS, n_S_nl, n_S_cv, n_S_sd, n_dS_nl, n_dS_cv, n_dS_sd, n_nl_cv, n_nl_sd, n_cv_sd⟩ := ap
  obtain ⟨x_G_nl, x_G_cv, x_G_sd, x_G_dS, x_dG_nl, x_dG_cv, x_dG_sd, x_dG_dS, x_R_nl, x_R_cv, x_R_sd, x_R_dS, x_dR_nl, x_dR_cv, x_dR_sd, x_dR_dS, x_sc_nl, x_sc_cv, x_sc_sd, x_sc_dS⟩ := ap2
  revert X; k_fill; intro X
  refine wpAny_call ?_
  k_extra "x_enterF"
  k_steps
  refine Stop.intro ?_
  rcases rev_cases ns with e1 | ⟨r, z, e1⟩
  · have hv9 := nil_of hi e1
    (with_reducible rename News _ _ _ ((W, _) :: _) => Nq); rw [hv9] at Nq
    k_extra "x_popno"
    k_steps
    all_goals exact hexc _ _ _ _ (by first | (rw [e1, hc]; rfl) | (rw [e1, hc]; unfold opStep loneOp; (repeat rw [lnb]); (try simp only [List.reverse_reverse]); rfl) | (rw [e1, hc]; unfold opStep heldOp; (repeat rw [lnb]); (try simp only [List.reverse_reverse]); rfl) | simp [e1, hc, opStep, loneB, loneOp, heldOp]) (raised_sub (by assumption) (by first | exact drop5 | kcj_all)) (by assumption) (by assumption)
  obtain ⟨vs1, tz, hv1, hi1⟩ := snoc_of hi e1
  (with_reducible rename News _ _ _ ((W, _) :: _) => Nq); rw [hv1] at Nq
  have hl1 : r.length < 12 := by have h9 := hl; rw [e1] at h9; simp at h9; omega
  have hzb := hb z (by rw [e1]; simp)
  obtain ⟨hzl, hzh⟩ := hzb
  k_extra "x_popok"
  k_steps
  all_goals ((refine hret (r ++ [b2i (decide (z = 0))]) cns cst _ _ nl _ _ cvs kc sto kvs (by simp [e1, hc, opStep, loneB, loneOp, heldOp, b2i]) (by k_asm) (by first | k_asm | exact cb_drop (by assumption) (by kcj_all)) ?_ hcn hd9 hf9 (.inl rfl)); k_extra "m_ints")); UA_at UA_c any_not_S))
theorem any_odd_at : UA_at UA_c any_odd_S :=
  (by intro hz8; exact hz8 : (have hz8 : UA_at UA_c any_odd_S := (by
  k_extra "lay UA"
  intro B F X N T' hk hdp hun off hc ap ap2 hpp hi hl hb hcn hcl lo9 hd9 hf9 hc9 hret hexc
  have sken := sken
  obtain ⟨n_W_dW, n_W_S, n_W_dS, n_W_nl, n_W_cv, n_W_sd, n_dW_S, n_dW_dS, n_dW_nl, n_dW_cv, n_dW_sd, n_S_dS, n_S_nl, n_S_cv, n_S_sd, n_dS_nl, n_dS_cv, n_dS_sd, n_nl_cv, n_nl_sd, n_cv_sd⟩ := ap
  obtain ⟨x_G_nl, x_G_cv, x_G_sd, x_G_dS, x_dG_nl, x_dG_cv, x_dG_sd, x_dG_dS, x_R_nl, x_R_cv, x_R_sd, x_R_dS, x_dR_nl, x_dR_cv, x_dR_sd, x_dR_dS, x_sc_nl, x_sc_cv, x_sc_sd, x_sc_dS⟩ := ap2
  revert X; k_fill; intro X
  refine wpAny_call ?_
  k_extra "x_enterF"
  k_steps
  refine Stop.intro ?_
  rcases rev_cases ns with e1 | ⟨r, z, e1⟩
  · have hv9 := nil_of hi e1
    (with_reducible rename News _ _ _ ((W, _) :: _) => Nq); rw [hv9] at Nq
    k_extra "x_popno"
    k_steps
    all_goals exact hexc _ _ _ _ (by rcases hc with hc | hc <;> (first | (rw [e1, hc]; rfl) | (rw [e1, hc]; unfold opStep loneOp; (repeat rw [lnb]); (try simp only [List.reverse_reverse]); rfl) | (rw [e1, hc]; unfold opStep heldOp; (repeat rw [lnb]); (try simp only [List.reverse_reverse]); rfl) | simp [e1, hc, opStep, loneB, loneOp, heldOp])) (raised_sub (by assumption) (by first | exact drop5 | kcj_all)) (by assumption) (by assumption)
  obtain ⟨vs1, tz, hv1, hi1⟩ := snoc_of hi e1
  (with_reducible rename News _ _ _ ((W, _) :: _) => Nq); rw [hv1] at Nq
  have hl1 : r.length < 12 := by have h9 := hl; rw [e1] at h9; simp at h9; omega
  have hzb := hb z (by rw [e1]; simp)
  obtain ⟨hzl, hzh⟩ := hzb
  k_extra "x_popok"
  k_steps
  all_goals ((refine hret (r ++ [b2i (decide (rnd z % 128 = 64) == decide (c = 86))]) cns cst _ _ nl _ _ cvs kc sto kvs (by rcases hc with hc | hc <;> simp [e1, hc, opStep, loneB, loneOp]) (by k_asm) (by first | k_asm | exact cb_drop (by assumption) (by kcj_all)) ?_ hcn hd9 hf9 (.inl rfl)); k_extra "m_ints")); UA_at UA_c any_odd_S))
theorem any_ws_at : UA_at UA_c any_ws_S :=
  (by intro hz8; exact hz8 : (have hz8 : UA_at UA_c any_ws_S := (by
  k_extra "lay UA"
  intro B F X N T' hk hdp hun off hc ap ap2 hpp hi hl hb hcn hcl lo9 hd9 hf9 hc9 hret hexc
  have sken := sken
  obtain ⟨n_W_dW, n_W_S, n_W_dS, n_W_nl, n_W_cv, n_W_sd, n_dW_S, n_dW_dS, n_dW_nl, n_dW_cv, n_dW_sd, n_S_dS, n_S_nl, n_S_cv, n_S_sd, n_dS_nl, n_dS_cv, n_dS_sd, n_nl_cv, n_nl_sd, n_cv_sd⟩ := ap
  obtain ⟨x_G_nl, x_G_cv, x_G_sd, x_G_dS, x_dG_nl, x_dG_cv, x_dG_sd, x_dG_dS, x_R_nl, x_R_cv, x_R_sd, x_R_dS, x_dR_nl, x_dR_cv, x_dR_sd, x_dR_dS, x_sc_nl, x_sc_cv, x_sc_sd, x_sc_dS⟩ := ap2
  revert X; k_fill; intro X
  refine wpAny_call ?_
  k_extra "x_enterF"
  k_steps
  refine Stop.intro ?_
  rcases rev_cases ns with e1 | ⟨r, z, e1⟩
  · have hv9 := nil_of hi e1
    (with_reducible rename News _ _ _ ((W, _) :: _) => Nq); rw [hv9] at Nq
    k_extra "x_popno"
    k_steps
    all_goals exact hexc _ _ _ _ (by first | (rw [e1, hc]; rfl) | (rw [e1, hc]; unfold opStep loneOp; (repeat rw [lnb]); (try simp only [List.reverse_reverse]); rfl) | (rw [e1, hc]; unfold opStep heldOp; (repeat rw [lnb]); (try simp only [List.reverse_reverse]); rfl) | simp [e1, hc, opStep, loneB, loneOp, heldOp]) (raised_sub (by assumption) (by first | exact drop5 | kcj_all)) (by assumption) (by assumption)
  obtain ⟨vs1, tz, hv1, hi1⟩ := snoc_of hi e1
  (with_reducible rename News _ _ _ ((W, _) :: _) => Nq); rw [hv1] at Nq
  have hl1 : r.length < 12 := by have h9 := hl; rw [e1] at h9; simp at h9; omega
  have hzb := hb z (by rw [e1]; simp)
  obtain ⟨hzl, hzh⟩ := hzb
  k_extra "x_popok"
  k_steps
  refine Stop.intro ?_
  rcases rev_cases r with e2 | ⟨q2, y, e2⟩
  · have hv9 := nil_of hi1 e2
    (with_reducible rename News _ _ _ ((W, _) :: _) => Nq); rw [hv9] at Nq
    k_extra "x_popno"
    k_steps
    all_goals exact hexc _ _ _ _ (by first | (rw [e1, e2, hc]; rfl) | (rw [e1, e2, hc]; unfold opStep loneOp; (repeat rw [lnb]); (try simp only [List.reverse_reverse]); rfl) | (rw [e1, e2, hc]; unfold opStep heldOp; (repeat rw [lnb]); (try simp only [List.reverse_reverse]); rfl) | simp [e1, e2, hc, opStep, loneB, loneOp, heldOp]) (raised_sub (by assumption) (by first | exact drop5 | kcj_all)) (by assumption) (by assumption)
  obtain ⟨vs2, ty, hv2, hi2⟩ := snoc_of hi1 e2
  (with_reducible rename News _ _ _ ((W, _) :: _) => Nq); rw [hv2] at Nq
  have hl2 : q2.length < 11 := by have h9 := hl1; rw [e2] at h9; simp at h9; omega
  have hyb := hb y (by rw [e1, e2]; simp)
  obtain ⟨hyl, hyh⟩ := hyb
  k_extra "x_popok"
  k_steps
  all_goals ((refine hret q2 cns (kdfPut cst y z) _ _ nl _ _ cvs kc _ _ (by first | (rw [e1, e2, hc]; rfl) | (rw [e1, e2, hc]; unfold opStep loneOp; (repeat rw [lnb]); (try simp only [List.reverse_reverse]); rfl) | (rw [e1, e2, hc]; unfold opStep heldOp; (repeat rw [lnb]); (try simp only [List.reverse_reverse]); rfl) | simp [e1, e2, hc, opStep, loneB, loneOp, heldOp]) (by k_asm) (by first | k_asm | exact cb_drop (by assumption) (by kcj_all)) ?_ hcn (by assumption) (by assumption) (.inl rfl)); k_extra "m_ints")); UA_at UA_c any_ws_S))
theorem any_rs_at : UA_at UA_c any_rs_S :=
  (by intro hz8; exact hz8 : (have hz8 : UA_at UA_c any_rs_S := (by
  k_extra "lay UA"
  intro B F X N T' hk hdp hun off hc ap ap2 hpp hi hl hb hcn hcl lo9 hd9 hf9 hc9 hret hexc
  have sken := sken
  obtain ⟨n_W_dW, n_W_S, n_W_dS, n_W_nl, n_W_cv, n_W_sd, n_dW_S, n_dW_dS, n_dW_nl, n_dW_cv, n_dW_sd, n_S_dS, n_S_nl, n_S_cv, n_S_sd, n_dS_nl, n_dS_cv, n_dS_sd, n_nl_cv, n_nl_sd, n_cv_sd⟩ := ap
  obtain ⟨x_G_nl, x_G_cv, x_G_sd, x_G_dS, x_dG_nl, x_dG_cv, x_dG_sd, x_dG_dS, x_R_nl, x_R_cv, x_R_sd, x_R_dS, x_dR_nl, x_dR_cv, x_dR_sd, x_dR_dS, x_sc_nl, x_sc_cv, x_sc_sd, x_sc_dS⟩ := ap2
  revert X; k_fill; intro X
  refine wpAny_call ?_
  k_extra "x_enterF"
  k_steps
  refine Stop.intro ?_
  rcases rev_cases ns with e1 | ⟨r, z, e1⟩
  · have hv9 := nil_of hi e1
    (with_reducible rename News _ _ _ ((W, _) :: _) => Nq); rw [hv9] at Nq
    k_extra "x_popno"
    k_steps
    all_goals exact hexc _ _ _ _ (by first | (rw [e1, hc]; rfl) | (rw [e1, hc]; unfold opStep loneOp; (repeat rw [lnb]); (try simp only [List.reverse_reverse]); rfl) | (rw [e1, hc]; unfold opStep heldOp; (repeat rw [lnb]); (try simp only [List.reverse_reverse]); rfl) | simp [e1, hc, opStep, loneB, loneOp, heldOp]) (raised_sub (by assumption) (by first | exact drop5 | kcj_all)) (by assumption) (by assumption)
  obtain ⟨vs1, tz, hv1, hi1⟩ := snoc_of hi e1
  (with_reducible rename News _ _ _ ((W, _) :: _) => Nq); rw [hv1] at Nq
  have hl1 : r.length < 12 := by have h9 := hl; rw [e1] at h9; simp at h9; omega
  have hzb := hb z (by rw [e1]; simp)
  obtain ⟨hzl, hzh⟩ := hzb
  k_extra "x_popok"
  k_steps
  all_goals ((refine hret (r ++ [kdfLook cst z 0]) cns cst _ _ nl _ _ cvs kc sto kvs (by first | (rw [e1, hc]; rfl) | (rw [e1, hc]; unfold opStep loneOp; (repeat rw [lnb]); (try simp only [List.reverse_reverse]); rfl) | (rw [e1, hc]; unfold opStep heldOp; (repeat rw [lnb]); (try simp only [List.reverse_reverse]); rfl) | simp [e1, hc, opStep, loneB, loneOp, heldOp]) (by k_asm) (by first | k_asm | exact cb_drop (by assumption) (by kcj_all)) ?_ hcn hd9 hf9 (.inl rfl)); k_extra "m_ints")); UA_at UA_c any_rs_S))
theorem any_wcvtp_at : UA_at UA_c any_wcvtp_S :=
  (by intro hz8; exact hz8 : (have hz8 : UA_at UA_c any_wcvtp_S := (by
  k_extra "lay UA"
  intro B F X N T' hk hdp hun off hc ap ap2 hpp hi hl hb hcn hcl lo9 hd9 hf9 hc9 hret hexc
  have sken := sken
  obtain ⟨n_W_dW, n_W_S, n_W_dS, n_W_nl, n_W_cv, n_W_sd, n_dW_S, n_dW_dS, n_dW_nl, n_dW_cv, n_dW_sd, n_S_dS, n_S_nl, n_S_cv, n_S_sd, n_dS_nl, n_dS_cv, n_dS_sd, n_nl_cv, n_nl_sd, n_cv_sd⟩ := ap
  obtain ⟨x_G_nl, x_G_cv, x_G_sd, x_G_dS, x_dG_nl, x_dG_cv, x_dG_sd, x_dG_dS, x_R_nl, x_R_cv, x_R_sd, x_R_dS, x_dR_nl, x_dR_cv, x_dR_sd, x_dR_dS, x_sc_nl, x_sc_cv, x_sc_sd, x_sc_dS⟩ := ap2
  revert X; k_fill; intro X
  refine wpAny_call ?_
  k_extra "x_enterF"
  k_steps
  refine Stop.intro ?_
  rcases rev_cases ns with e1 | ⟨r, z, e1⟩
  · have hv9 := nil_of hi e1
    (with_reducible rename News _ _ _ ((W, _) :: _) => Nq); rw [hv9] at Nq
    k_extra "x_popno"
    k_steps
    all_goals exact hexc _ _ _ _ (by first | (rw [e1, hc]; rfl) | (rw [e1, hc]; unfold opStep loneOp; (repeat rw [lnb]); (try simp only [List.reverse_reverse]); rfl) | (rw [e1, hc]; unfold opStep heldOp; (repeat rw [lnb]); (try simp only [List.reverse_reverse]); rfl) | simp [e1, hc, opStep, loneB, loneOp, heldOp]) (raised_sub (by assumption) (by first | exact drop5 | kcj_all)) (by assumption) (by assumption)
  obtain ⟨vs1, tz, hv1, hi1⟩ := snoc_of hi e1
  (with_reducible rename News _ _ _ ((W, _) :: _) => Nq); rw [hv1] at Nq
  have hl1 : r.length < 12 := by have h9 := hl; rw [e1] at h9; simp at h9; omega
  have hzb := hb z (by rw [e1]; simp)
  obtain ⟨hzl, hzh⟩ := hzb
  k_extra "x_popok"
  k_steps
  refine Stop.intro ?_
  rcases rev_cases r with e2 | ⟨q2, y, e2⟩
  · have hv9 := nil_of hi1 e2
    (with_reducible rename News _ _ _ ((W, _) :: _) => Nq); rw [hv9] at Nq
    k_extra "x_popno"
    k_steps
    all_goals exact hexc _ _ _ _ (by first | (rw [e1, e2, hc]; rfl) | (rw [e1, e2, hc]; unfold opStep loneOp; (repeat rw [lnb]); (try simp only [List.reverse_reverse]); rfl) | (rw [e1, e2, hc]; unfold opStep heldOp; (repeat rw [lnb]); (try simp only [List.reverse_reverse]); rfl) | simp [e1, e2, hc, opStep, loneB, loneOp, heldOp]) (raised_sub (by assumption) (by first | exact drop5 | kcj_all)) (by assumption) (by assumption)
  obtain ⟨vs2, ty, hv2, hi2⟩ := snoc_of hi1 e2
  (with_reducible rename News _ _ _ ((W, _) :: _) => Nq); rw [hv2] at Nq
  have hl2 : q2.length < 11 := by have h9 := hl1; rw [e2] at h9; simp at h9; omega
  have hyb := hb y (by rw [e1, e2]; simp)
  obtain ⟨hyl, hyh⟩ := hyb
  by_cases h : 0 ≤ y ∧ y < (cns.length : Int)
  · have hh : y < 3 := by omega
    k_extra "x_popok"
    k_steps
    all_goals ((refine hret q2 (cns.set y.toNat z) cst _ _ nl _ _ _ _ sto kvs (by simp [e1, e2, hc, opStep, loneB, loneOp, heldOp, h.1, hh]) (by k_asm) (by first | k_asm | exact cb_drop (by assumption) (by kcj_all)) ?_ (by exact PySem.W.ints_set hcn _) hd9 hf9 (.inl rfl)); k_extra "m_ints")
  · have hh : ¬ (0 ≤ y ∧ y < 3) := by omega
    k_extra "x_popok"
    k_steps
    all_goals exact hexc _ _ _ _ (by simp [e1, e2, hc, opStep, loneB, loneOp, heldOp, hh]) (raised_sub (by assumption) (by first | exact drop5 | kcj_all)) (by assumption) (by assumption)); UA_at UA_c any_wcvtp_S))
theorem any_wcvtf_at : UA_at UA_c any_wcvtf_S :=
  (by intro hz8; exact hz8 : (have hz8 : UA_at UA_c any_wcvtf_S := (by
  k_extra "lay UA"
  intro B F X N T' hk hdp hun off hc ap ap2 hpp hi hl hb hcn hcl lo9 hd9 hf9 hc9 hret hexc
  have sken := sken
  obtain ⟨n_W_dW, n_W_S, n_W_dS, n_W_nl, n_W_cv, n_W_sd, n_dW_S, n_dW_dS, n_dW_nl, n_dW_cv, n_dW_sd, n_S_dS, n_S_nl, n_S_cv, n_S_sd, n_dS_nl, n_dS_cv, n_dS_sd, n_nl_cv, n_nl_sd, n_cv_sd⟩ := ap
  obtain ⟨x_G_nl, x_G_cv, x_G_sd, x_G_dS, x_dG_nl, x_dG_cv, x_dG_sd, x_dG_dS, x_R_nl, x_R_cv, x_R_sd, x_R_dS, x_dR_nl, x_dR_cv, x_dR_sd, x_dR_dS, x_sc_nl, x_sc_cv, x_sc_sd, x_sc_dS⟩ := ap2
  revert X; k_fill; intro X
  refine wpAny_call ?_
  k_extra "x_enterF"
  k_steps
  refine Stop.intro ?_
  rcases rev_cases ns with e1 | ⟨r, z, e1⟩
  · have hv9 := nil_of hi e1
    (with_reducible rename News _ _ _ ((W, _) :: _) => Nq); rw [hv9] at Nq
    k_extra "x_popno"
    k_steps
    all_goals exact hexc _ _ _ _ (by first | (rw [e1, hc]; rfl) | (rw [e1, hc]; unfold opStep loneOp; (repeat rw [lnb]); (try simp only [List.reverse_reverse]); rfl) | (rw [e1, hc]; unfold opStep heldOp; (repeat rw [lnb]); (try simp only [List.reverse_reverse]); rfl) | simp [e1, hc, opStep, loneB, loneOp, heldOp]) (raised_sub (by assumption) (by first | exact drop5 | kcj_all)) (by assumption) (by assumption)
  obtain ⟨vs1, tz, hv1, hi1⟩ := snoc_of hi e1
  (with_reducible rename News _ _ _ ((W, _) :: _) => Nq); rw [hv1] at Nq
  have hl1 : r.length < 12 := by have h9 := hl; rw [e1] at h9; simp at h9; omega
  have hzb := hb z (by rw [e1]; simp)
  obtain ⟨hzl, hzh⟩ := hzb
  k_extra "x_popok"
  k_steps
  refine Stop.intro ?_
  rcases rev_cases r with e2 | ⟨q2, y, e2⟩
  · have hv9 := nil_of hi1 e2
    (with_reducible rename News _ _ _ ((W, _) :: _) => Nq); rw [hv9] at Nq
    k_extra "x_popno"
    k_steps
    all_goals exact hexc _ _ _ _ (by first | (rw [e1, e2, hc]; rfl) | (rw [e1, e2, hc]; unfold opStep loneOp; (repeat rw [lnb]); (try simp only [List.reverse_reverse]); rfl) | (rw [e1, e2, hc]; unfold opStep heldOp; (repeat rw [lnb]); (try simp only [List.reverse_reverse]); rfl) | simp [e1, e2, hc, opStep, loneB, loneOp, heldOp]) (raised_sub (by assumption) (by first | exact drop5 | kcj_all)) (by assumption) (by assumption)
  obtain ⟨vs2, ty, hv2, hi2⟩ := snoc_of hi1 e2
  (with_reducible rename News _ _ _ ((W, _) :: _) => Nq); rw [hv2] at Nq
  have hl2 : q2.length < 11 := by have h9 := hl1; rw [e2] at h9; simp at h9; omega
  have hyb := hb y (by rw [e1, e2]; simp)
  obtain ⟨hyl, hyh⟩ := hyb
  by_cases h : 0 ≤ y ∧ y < (cns.length : Int)
  · have hh : y < 3 := by omega
    k_extra "x_popok"
    k_steps
    all_goals ((refine hret q2 (cns.set y.toNat (near z 3 2)) cst _ _ nl _ _ _ _ sto kvs (by simp [e1, e2, hc, opStep, loneB, loneOp, heldOp, h.1, hh]) (by k_asm) (by first | k_asm | exact cb_drop (by assumption) (by kcj_all)) ?_ (by exact PySem.W.ints_set hcn _) hd9 hf9 (.inl rfl)); k_extra "m_ints")
  · have hh : ¬ (0 ≤ y ∧ y < 3) := by omega
    k_extra "x_popok"
    k_steps
    all_goals exact hexc _ _ _ _ (by simp [e1, e2, hc, opStep, loneB, loneOp, heldOp, hh]) (raised_sub (by assumption) (by first | exact drop5 | kcj_all)) (by assumption) (by assumption)); UA_at UA_c any_wcvtf_S))
theorem any_rcvt_at : UA_at UA_c any_rcvt_S :=
  (by intro hz8; exact hz8 : (have hz8 : UA_at UA_c any_rcvt_S := (by
  k_extra "lay UA"
  intro B F X N T' hk hdp hun off hc ap ap2 hpp hi hl hb hcn hcl lo9 hd9 hf9 hc9 hret hexc
  have sken := sken
  obtain ⟨n_W_dW, n_W_S, n_W_dS, n_W_nl, n_W_cv, n_W_sd, n_dW_S, n_dW_dS, n_dW_nl, n_dW_cv, n_dW_sd, n_S_dS, n_S_nl, n_S_cv, n_S_sd, n_dS_nl, n_dS_cv, n_dS_sd, n_nl_cv, n_nl_sd, n_cv_sd⟩ := ap
  obtain ⟨x_G_nl, x_G_cv, x_G_sd, x_G_dS, x_dG_nl, x_dG_cv, x_dG_sd, x_dG_dS, x_R_nl, x_R_cv, x_R_sd, x_R_dS, x_dR_nl, x_dR_cv, x_dR_sd, x_dR_dS, x_sc_nl, x_sc_cv, x_sc_sd, x_sc_dS⟩ := ap2
  revert X; k_fill; intro X
  refine wpAny_call ?_
  k_extra "x_enterF"
  k_steps
  refine Stop.intro ?_
  rcases rev_cases ns with e1 | ⟨r, z, e1⟩
  · have hv9 := nil_of hi e1
    (with_reducible rename News _ _ _ ((W, _) :: _) => Nq); rw [hv9] at Nq
    k_extra "x_popno"
    k_steps
    all_goals exact hexc _ _ _ _ (by first | (rw [e1, hc]; rfl) | (rw [e1, hc]; unfold opStep loneOp; (repeat rw [lnb]); (try simp only [List.reverse_reverse]); rfl) | (rw [e1, hc]; unfold opStep heldOp; (repeat rw [lnb]); (try simp only [List.reverse_reverse]); rfl) | simp [e1, hc, opStep, loneB, loneOp, heldOp]) (raised_sub (by assumption) (by first | exact drop5 | kcj_all)) (by assumption) (by assumption)
  obtain ⟨vs1, tz, hv1, hi1⟩ := snoc_of hi e1
  (with_reducible rename News _ _ _ ((W, _) :: _) => Nq); rw [hv1] at Nq
  have hl1 : r.length < 12 := by have h9 := hl; rw [e1] at h9; simp at h9; omega
  have hzb := hb z (by rw [e1]; simp)
  obtain ⟨hzl, hzh⟩ := hzb
  by_cases h : 0 ≤ z ∧ z < (cns.length : Int)
  · have hh : z < 3 := by omega
    k_extra "x_popok"
    k_steps
    all_goals ((refine hret (r ++ [cns.getD z.toNat 0]) cns cst _ _ nl _ _ cvs kc sto kvs (by simp [e1, hc, opStep, loneB, loneOp, heldOp, h.1, hh]) (by k_asm) (by first | k_asm | exact cb_drop (by assumption) (by kcj_all)) ?_ hcn hd9 hf9 (.inl rfl)); k_extra "m_ints")
  · have hh : ¬ (0 ≤ z ∧ z < 3) := by omega
    k_extra "x_popok"
    k_steps
    all_goals exact hexc _ _ _ _ (by simp [e1, hc, opStep, loneB, loneOp, heldOp, hh]) (raised_sub (by assumption) (by first | exact drop5 | kcj_all)) (by assumption) (by assumption)); UA_at UA_c any_rcvt_S))
theorem any_size_at : UA_at UA_c any_size_S := by
  k_extra "lay UA"
  intro B F X N T' hk hdp hun off hc ap ap2 hpp hi hl hb hcn hcl lo9 hd9 hf9 hc9 hret hexc
  have sken := sken
  skip
  have off7 : OwnOff ((G, instObj 369 dG) :: (dG, dictOf (GrE w gv R) 18) :: (R, instObj 112 dR) :: (dR, dictOf (RndE w r1 r2 r3 r4 r5 r6) 3) :: (sc, tupObj [Value.int 3 q1, Value.int 2 q2]) :: rest) [nl, dS, cv, sd] := off12 off ap2
  by_cases h : (ns.length : Int) < 12
  · exact size_ok (cns := cns) B F X N T' hk (by omega) (by omega) off7 ap hi h (fun h' tk' vs' k' F' N' I' => hret _ _ _ h' tk' nl vs' k' cvs kc sto kvs (by have : ns.length < 12 := (by omega); rcases hc with hc | hc <;> simp [hc, opStep, loneB, heldOp, this, hpp]) F' N' I' hcn hd9 hf9 (.inl rfl))
  · exact size_full (cns := cns) B F X N T' hk (by omega) (by omega) off7 ap hi (by omega) (fun e h' tk' g R U Fq => hexc e h' tk' g (by have : ¬ ns.length < 12 := (by omega); rcases hc with hc | hc <;> simp [hc, opStep, loneB, heldOp, this]) R U Fq)
theorem any_info_at : UA_at UA_c any_info_S :=
  (by intro hz8; exact hz8 : (have hz8 : UA_at UA_c any_info_S := (by
  k_extra "lay UA"
  intro B F X N T' hk hdp hun off hc ap ap2 hpp hi hl hb hcn hcl lo9 hd9 hf9 hc9 hret hexc
  have sken := sken
  obtain ⟨n_W_dW, n_W_S, n_W_dS, n_W_nl, n_W_cv, n_W_sd, n_dW_S, n_dW_dS, n_dW_nl, n_dW_cv, n_dW_sd, n_S_dS, n_S_nl, n_S_cv, n_S_sd, n_dS_nl, n_dS_cv, n_dS_sd, n_nl_cv, n_nl_sd, n_cv_sd⟩ := ap
  obtain ⟨x_G_nl, x_G_cv, x_G_sd, x_G_dS, x_dG_nl, x_dG_cv, x_dG_sd, x_dG_dS, x_R_nl, x_R_cv, x_R_sd, x_R_dS, x_dR_nl, x_dR_cv, x_dR_sd, x_dR_dS, x_sc_nl, x_sc_cv, x_sc_sd, x_sc_dS⟩ := ap2
  revert X; k_fill; intro X
  refine wpAny_call ?_
  k_extra "x_enterF"
  k_steps
  refine Stop.intro ?_
  rcases rev_cases ns with e1 | ⟨r, z, e1⟩
  · have hv9 := nil_of hi e1
    (with_reducible rename News _ _ _ ((W, _) :: _) => Nq); rw [hv9] at Nq
    k_extra "x_popno"
    k_steps
    all_goals exact hexc _ _ _ _ (by first | (rw [e1, hc]; rfl) | (rw [e1, hc]; unfold opStep loneOp; (repeat rw [lnb]); (try simp only [List.reverse_reverse]); rfl) | (rw [e1, hc]; unfold opStep heldOp; (repeat rw [lnb]); (try simp only [List.reverse_reverse]); rfl) | simp [e1, hc, opStep, loneB, loneOp, heldOp]) (raised_sub (by assumption) (by first | exact drop5 | kcj_all)) (by assumption) (by assumption)
  obtain ⟨vs1, tz, hv1, hi1⟩ := snoc_of hi e1
  (with_reducible rename News _ _ _ ((W, _) :: _) => Nq); rw [hv1] at Nq
  have hl1 : r.length < 12 := by have h9 := hl; rw [e1] at h9; simp at h9; omega
  have hzb := hb z (by rw [e1]; simp)
  obtain ⟨hzl, hzh⟩ := hzb
  k_extra "x_popok"
  k_steps
  all_goals ((refine hret (r ++ [if z % 2 = 1 then 35 else 0]) cns cst _ _ nl _ _ cvs kc sto kvs (by have : (if z % 2 = 1 then (35 : Int) else 0) = 35 * (z % 2) := (by split <;> omega); rw [this]; simp [e1, hc, opStep, loneB, heldOp]) (by k_asm) (by first | k_asm | exact cb_drop (by assumption) (by kcj_all)) ?_ hcn hd9 hf9 (.inl rfl)); k_extra "m_ints")); UA_at UA_c any_info_S))
theorem UA_ok : ∀ p, ∀ f ∈ UA_l, UA_at p f := sk (S := UA_S) (all_cons any_dup_at (all_cons any_pop_at (all_cons any_clear_at (all_cons any_swap_at (all_cons any_depth_at (all_cons any_cindex_at (all_cons any_mindex_at (all_cons any_roll_at (all_cons any_compare_at (all_cons any_not_at (all_cons any_odd_at (all_cons any_ws_at (all_cons any_rs_at (all_cons any_wcvtp_at (all_cons any_wcvtf_at (all_cons any_rcvt_at (all_cons any_size_at (all_cons any_info_at (all_nil _)))))))))))))))))))
noncomputable def UA_bag (w : World) (mean : ExcName → Option Value) (mg mb : Str → Option Value) (dp un : Nat) (gd : Option (List Code)) (cn : Str) (cs : Scope) (a : Addr) (ccd : Value) (cl : List (Str × Addr)) (outer : List Env) (A₀ : Around) (base h₀ : Heap) (L : Addr) (m : Str → Option Value) (s : Shared) (Q E : Value → Shared → Prop) (rest : List (Addr × Obj)) (W dW S dS nl cv sd G zn sc : Addr) (u : WTok) (t1 t2 tm : Tok) (ppem : Int) (vs cvs : List Value) (ns cns : List Int) (k kc : Nat) (sto : Obj) (dG R dR : Addr) (gv : GV) (r1 r2 r3 r4 r5 r6 q1 q2 : Tok) (kvs : List (Int × Value)) (cst : List (Int × Int)) (tc : Tok) (c : Int) : Bag := ⟨fun ix9 => [a, L, W, dW, S, dS, nl, cv, sd, G, zn, sc, dG, R, dR].getD ix9 (bag0.fA 0), fun ix9 => [t1, t2, tm, r1, r2, r3, r4, r5, r6, q1, q2, tc].getD ix9 (bag0.fT 0), fun ix9 => [ppem, c].getD ix9 (bag0.fI 0), fun ix9 => [dp, un, k, kc].getD ix9 (bag0.fN 0), fun ix9 => [ccd].getD ix9 (bag0.fV 0), fun ix9 => [sto].getD ix9 (bag0.fO 0), fun ix9 => [vs, cvs].getD ix9 (bag0.fVL 0), fun ix9 => [ns, cns].getD ix9 (bag0.fIL 0), fun ix9 => [kvs].getD ix9 (bag0.fKV 0), fun ix9 => [cst].getD ix9 (bag0.fKI 0), fun ix9 => [rest].getD ix9 (bag0.fAO 0), fun ix9 => [u].getD ix9 (bag0.fU 0), fun ix9 => [gv].getD ix9 (bag0.fG 0), fun ix9 => [].getD ix9 (bag0.fPr 0), fun ix9 => [].getD ix9 (bag0.fEv 0), fun ix9 => [].getD ix9 (bag0.fSs 0), fun ix9 => [].getD ix9 (bag0.fEx 0), fun ix9 => [].getD ix9 (bag0.fQF 0), fun ix9 => [].getD ix9 (bag0.fJ 0), fun ix9 => [w].getD ix9 (bag0.fWo 0), fun ix9 => [mean].getD ix9 (bag0.fMe 0), fun ix9 => [mg, mb, m].getD ix9 (bag0.fM 0), fun ix9 => [gd].getD ix9 (bag0.fGD 0), fun ix9 => [cn].getD ix9 (bag0.fSt 0), fun ix9 => [cs].getD ix9 (bag0.fSc 0), fun ix9 => [cl].getD ix9 (bag0.fCL 0), fun ix9 => [outer].getD ix9 (bag0.fEn 0), fun ix9 => [A₀].getD ix9 (bag0.fAr 0), fun ix9 => [base, h₀].getD ix9 (bag0.fH 0), fun ix9 => [s].getD ix9 (bag0.fSh 0), fun ix9 => [Q, E].getD ix9 (bag0.fQ 0)⟩
theorem any_dup {w mean mg mb dp un gd cn cs a ccd cl outer A₀ base h₀ L m s Q E rest W dW S dS nl cv sd G zn sc u t1 t2 tm ppem vs cvs ns cns k kc sto dG R dR gv r1 r2 r3 r4 r5 r6 q1 q2 kvs cst tc c} : any_dup_S w mean mg mb dp un gd cn cs a ccd cl outer A₀ base h₀ L m s Q E rest W dW S dS nl cv sd G zn sc u t1 t2 tm ppem vs cvs ns cns k kc sto dG R dR gv r1 r2 r3 r4 r5 r6 q1 q2 kvs cst tc c := UA_ok (UA_bag w mean mg mb dp un gd cn cs a ccd cl outer A₀ base h₀ L m s Q E rest W dW S dS nl cv sd G zn sc u t1 t2 tm ppem vs cvs ns cns k kc sto dG R dR gv r1 r2 r3 r4 r5 r6 q1 q2 kvs cst tc c) _ (List.mem_of_getElem? (i := 0) rfl)
theorem any_pop {w mean mg mb dp un gd cn cs a ccd cl outer A₀ base h₀ L m s Q E rest W dW S dS nl cv sd G zn sc u t1 t2 tm ppem vs cvs ns cns k kc sto dG R dR gv r1 r2 r3 r4 r5 r6 q1 q2 kvs cst tc c} : any_pop_S w mean mg mb dp un gd cn cs a ccd cl outer A₀ base h₀ L m s Q E rest W dW S dS nl cv sd G zn sc u t1 t2 tm ppem vs cvs ns cns k kc sto dG R dR gv r1 r2 r3 r4 r5 r6 q1 q2 kvs cst tc c := UA_ok (UA_bag w mean mg mb dp un gd cn cs a ccd cl outer A₀ base h₀ L m s Q E rest W dW S dS nl cv sd G zn sc u t1 t2 tm ppem vs cvs ns cns k kc sto dG R dR gv r1 r2 r3 r4 r5 r6 q1 q2 kvs cst tc c) _ (List.mem_of_getElem? (i := 1) rfl)
theorem any_clear {w mean mg mb dp un gd cn cs a ccd cl outer A₀ base h₀ L m s Q E rest W dW S dS nl cv sd G zn sc u t1 t2 tm ppem vs cvs ns cns k kc sto dG R dR gv r1 r2 r3 r4 r5 r6 q1 q2 kvs cst tc c} : any_clear_S w mean mg mb dp un gd cn cs a ccd cl outer A₀ base h₀ L m s Q E rest W dW S dS nl cv sd G zn sc u t1 t2 tm ppem vs cvs ns cns k kc sto dG R dR gv r1 r2 r3 r4 r5 r6 q1 q2 kvs cst tc c := UA_ok (UA_bag w mean mg mb dp un gd cn cs a ccd cl outer A₀ base h₀ L m s Q E rest W dW S dS nl cv sd G zn sc u t1 t2 tm ppem vs cvs ns cns k kc sto dG R dR gv r1 r2 r3 r4 r5 r6 q1 q2 kvs cst tc c) _ (List.mem_of_getElem? (i := 2) rfl)
theorem any_swap {w mean mg mb dp un gd cn cs a ccd cl outer A₀ base h₀ L m s Q E rest W dW S dS nl cv sd G zn sc u t1 t2 tm ppem vs cvs ns cns k kc sto dG R dR gv r1 r2 r3 r4 r5 r6 q1 q2 kvs cst tc c} : any_swap_S w mean mg mb dp un gd cn cs a ccd cl outer A₀ base h₀ L m s Q E rest W dW S dS nl cv sd G zn sc u t1 t2 tm ppem vs cvs ns cns k kc sto dG R dR gv r1 r2 r3 r4 r5 r6 q1 q2 kvs cst tc c := UA_ok (UA_bag w mean mg mb dp un gd cn cs a ccd cl outer A₀ base h₀ L m s Q E rest W dW S dS nl cv sd G zn sc u t1 t2 tm ppem vs cvs ns cns k kc sto dG R dR gv r1 r2 r3 r4 r5 r6 q1 q2 kvs cst tc c) _ (List.mem_of_getElem? (i := 3) rfl)
theorem any_depth {w mean mg mb dp un gd cn cs a ccd cl outer A₀ base h₀ L m s Q E rest W dW S dS nl cv sd G zn sc u t1 t2 tm ppem vs cvs ns cns k kc sto dG R dR gv r1 r2 r3 r4 r5 r6 q1 q2 kvs cst tc c} : any_depth_S w mean mg mb dp un gd cn cs a ccd cl outer A₀ base h₀ L m s Q E rest W dW S dS nl cv sd G zn sc u t1 t2 tm ppem vs cvs ns cns k kc sto dG R dR gv r1 r2 r3 r4 r5 r6 q1 q2 kvs cst tc c := UA_ok (UA_bag w mean mg mb dp un gd cn cs a ccd cl outer A₀ base h₀ L m s Q E rest W dW S dS nl cv sd G zn sc u t1 t2 tm ppem vs cvs ns cns k kc sto dG R dR gv r1 r2 r3 r4 r5 r6 q1 q2 kvs cst tc c) _ (List.mem_of_getElem? (i := 4) rfl)
theorem any_cindex {w mean mg mb dp un gd cn cs a ccd cl outer A₀ base h₀ L m s Q E rest W dW S dS nl cv sd G zn sc u t1 t2 tm ppem vs cvs ns cns k kc sto dG R dR gv r1 r2 r3 r4 r5 r6 q1 q2 kvs cst tc c} : any_cindex_S w mean mg mb dp un gd cn cs a ccd cl outer A₀ base h₀ L m s Q E rest W dW S dS nl cv sd G zn sc u t1 t2 tm ppem vs cvs ns cns k kc sto dG R dR gv r1 r2 r3 r4 r5 r6 q1 q2 kvs cst tc c := UA_ok (UA_bag w mean mg mb dp un gd cn cs a ccd cl outer A₀ base h₀ L m s Q E rest W dW S dS nl cv sd G zn sc u t1 t2 tm ppem vs cvs ns cns k kc sto dG R dR gv r1 r2 r3 r4 r5 r6 q1 q2 kvs cst tc c) _ (List.mem_of_getElem? (i := 5) rfl)
theorem any_mindex {w mean mg mb dp un gd cn cs a ccd cl outer A₀ base h₀ L m s Q E rest W dW S dS nl cv sd G zn sc u t1 t2 tm ppem vs cvs ns cns k kc sto dG R dR gv r1 r2 r3 r4 r5 r6 q1 q2 kvs cst tc c} : any_mindex_S w mean mg mb dp un gd cn cs a ccd cl outer A₀ base h₀ L m s Q E rest W dW S dS nl cv sd G zn sc u t1 t2 tm ppem vs cvs ns cns k kc sto dG R dR gv r1 r2 r3 r4 r5 r6 q1 q2 kvs cst tc c := UA_ok (UA_bag w mean mg mb dp un gd cn cs a ccd cl outer A₀ base h₀ L m s Q E rest W dW S dS nl cv sd G zn sc u t1 t2 tm ppem vs cvs ns cns k kc sto dG R dR gv r1 r2 r3 r4 r5 r6 q1 q2 kvs cst tc c) _ (List.mem_of_getElem? (i := 6) rfl)
theorem any_roll {w mean mg mb dp un gd cn cs a ccd cl outer A₀ base h₀ L m s Q E rest W dW S dS nl cv sd G zn sc u t1 t2 tm ppem vs cvs ns cns k kc sto dG R dR gv r1 r2 r3 r4 r5 r6 q1 q2 kvs cst tc c} : any_roll_S w mean mg mb dp un gd cn cs a ccd cl outer A₀ base h₀ L m s Q E rest W dW S dS nl cv sd G zn sc u t1 t2 tm ppem vs cvs ns cns k kc sto dG R dR gv r1 r2 r3 r4 r5 r6 q1 q2 kvs cst tc c := UA_ok (UA_bag w mean mg mb dp un gd cn cs a ccd cl outer A₀ base h₀ L m s Q E rest W dW S dS nl cv sd G zn sc u t1 t2 tm ppem vs cvs ns cns k kc sto dG R dR gv r1 r2 r3 r4 r5 r6 q1 q2 kvs cst tc c) _ (List.mem_of_getElem? (i := 7) rfl)
theorem any_compare {w mean mg mb dp un gd cn cs a ccd cl outer A₀ base h₀ L m s Q E rest W dW S dS nl cv sd G zn sc u t1 t2 tm ppem vs cvs ns cns k kc sto dG R dR gv r1 r2 r3 r4 r5 r6 q1 q2 kvs cst tc c} : any_compare_S w mean mg mb dp un gd cn cs a ccd cl outer A₀ base h₀ L m s Q E rest W dW S dS nl cv sd G zn sc u t1 t2 tm ppem vs cvs ns cns k kc sto dG R dR gv r1 r2 r3 r4 r5 r6 q1 q2 kvs cst tc c := UA_ok (UA_bag w mean mg mb dp un gd cn cs a ccd cl outer A₀ base h₀ L m s Q E rest W dW S dS nl cv sd G zn sc u t1 t2 tm ppem vs cvs ns cns k kc sto dG R dR gv r1 r2 r3 r4 r5 r6 q1 q2 kvs cst tc c) _ (List.mem_of_getElem? (i := 8) rfl)
theorem any_not {w mean mg mb dp un gd cn cs a ccd cl outer A₀ base h₀ L m s Q E rest W dW S dS nl cv sd G zn sc u t1 t2 tm ppem vs cvs ns cns k kc sto dG R dR gv r1 r2 r3 r4 r5 r6 q1 q2 kvs cst tc c} : any_not_S w mean mg mb dp un gd cn cs a ccd cl outer A₀ base h₀ L m s Q E rest W dW S dS nl cv sd G zn sc u t1 t2 tm ppem vs cvs ns cns k kc sto dG R dR gv r1 r2 r3 r4 r5 r6 q1 q2 kvs cst tc c := UA_ok (UA_bag w mean mg mb dp un gd cn cs a ccd cl outer A₀ base h₀ L m s Q E rest W dW S dS nl cv sd G zn sc u t1 t2 tm ppem vs cvs ns cns k kc sto dG R dR gv r1 r2 r3 r4 r5 r6 q1 q2 kvs cst tc c) _ (List.mem_of_getElem? (i := 9) rfl)
theorem any_odd {w mean mg mb dp un gd cn cs a ccd cl outer A₀ base h₀ L m s Q E rest W dW S dS nl cv sd G zn sc u t1 t2 tm ppem vs cvs ns cns k kc sto dG R dR gv r1 r2 r3 r4 r5 r6 q1 q2 kvs cst tc c} : any_odd_S w mean mg mb dp un gd cn cs a ccd cl outer A₀ base h₀ L m s Q E rest W dW S dS nl cv sd G zn sc u t1 t2 tm ppem vs cvs ns cns k kc sto dG R dR gv r1 r2 r3 r4 r5 r6 q1 q2 kvs cst tc c := UA_ok (UA_bag w mean mg mb dp un gd cn cs a ccd cl outer A₀ base h₀ L m s Q E rest W dW S dS nl cv sd G zn sc u t1 t2 tm ppem vs cvs ns cns k kc sto dG R dR gv r1 r2 r3 r4 r5 r6 q1 q2 kvs cst tc c) _ (List.mem_of_getElem? (i := 10) rfl)
theorem any_ws {w mean mg mb dp un gd cn cs a ccd cl outer A₀ base h₀ L m s Q E rest W dW S dS nl cv sd G zn sc u t1 t2 tm ppem vs cvs ns cns k kc sto dG R dR gv r1 r2 r3 r4 r5 r6 q1 q2 kvs cst tc c} : any_ws_S w mean mg mb dp un gd cn cs a ccd cl outer A₀ base h₀ L m s Q E rest W dW S dS nl cv sd G zn sc u t1 t2 tm ppem vs cvs ns cns k kc sto dG R dR gv r1 r2 r3 r4 r5 r6 q1 q2 kvs cst tc c := UA_ok (UA_bag w mean mg mb dp un gd cn cs a ccd cl outer A₀ base h₀ L m s Q E rest W dW S dS nl cv sd G zn sc u t1 t2 tm ppem vs cvs ns cns k kc sto dG R dR gv r1 r2 r3 r4 r5 r6 q1 q2 kvs cst tc c) _ (List.mem_of_getElem? (i := 11) rfl)
theorem any_rs {w mean mg mb dp un gd cn cs a ccd cl outer A₀ base h₀ L m s Q E rest W dW S dS nl cv sd G zn sc u t1 t2 tm ppem vs cvs ns cns k kc sto dG R dR gv r1 r2 r3 r4 r5 r6 q1 q2 kvs cst tc c} : any_rs_S w mean mg mb dp un gd cn cs a ccd cl outer A₀ base h₀ L m s Q E rest W dW S dS nl cv sd G zn sc u t1 t2 tm ppem vs cvs ns cns k kc sto dG R dR gv r1 r2 r3 r4 r5 r6 q1 q2 kvs cst tc c := UA_ok (UA_bag w mean mg mb dp un gd cn cs a ccd cl outer A₀ base h₀ L m s Q E rest W dW S dS nl cv sd G zn sc u t1 t2 tm ppem vs cvs ns cns k kc sto dG R dR gv r1 r2 r3 r4 r5 r6 q1 q2 kvs cst tc c) _ (List.mem_of_getElem? (i := 12) rfl)
theorem any_wcvtp {w mean mg mb dp un gd cn cs a ccd cl outer A₀ base h₀ L m s Q E rest W dW S dS nl cv sd G zn sc u t1 t2 tm ppem vs cvs ns cns k kc sto dG R dR gv r1 r2 r3 r4 r5 r6 q1 q2 kvs cst tc c} : any_wcvtp_S w mean mg mb dp un gd cn cs a ccd cl outer A₀ base h₀ L m s Q E rest W dW S dS nl cv sd G zn sc u t1 t2 tm ppem vs cvs ns cns k kc sto dG R dR gv r1 r2 r3 r4 r5 r6 q1 q2 kvs cst tc c := UA_ok (UA_bag w mean mg mb dp un gd cn cs a ccd cl outer A₀ base h₀ L m s Q E rest W dW S dS nl cv sd G zn sc u t1 t2 tm ppem vs cvs ns cns k kc sto dG R dR gv r1 r2 r3 r4 r5 r6 q1 q2 kvs cst tc c) _ (List.mem_of_getElem? (i := 13) rfl)
theorem any_wcvtf {w mean mg mb dp un gd cn cs a ccd cl outer A₀ base h₀ L m s Q E rest W dW S dS nl cv sd G zn sc u t1 t2 tm ppem vs cvs ns cns k kc sto dG R dR gv r1 r2 r3 r4 r5 r6 q1 q2 kvs cst tc c} : any_wcvtf_S w mean mg mb dp un gd cn cs a ccd cl outer A₀ base h₀ L m s Q E rest W dW S dS nl cv sd G zn sc u t1 t2 tm ppem vs cvs ns cns k kc sto dG R dR gv r1 r2 r3 r4 r5 r6 q1 q2 kvs cst tc c := UA_ok (UA_bag w mean mg mb dp un gd cn cs a ccd cl outer A₀ base h₀ L m s Q E rest W dW S dS nl cv sd G zn sc u t1 t2 tm ppem vs cvs ns cns k kc sto dG R dR gv r1 r2 r3 r4 r5 r6 q1 q2 kvs cst tc c) _ (List.mem_of_getElem? (i := 14) rfl)
theorem any_rcvt {w mean mg mb dp un gd cn cs a ccd cl outer A₀ base h₀ L m s Q E rest W dW S dS nl cv sd G zn sc u t1 t2 tm ppem vs cvs ns cns k kc sto dG R dR gv r1 r2 r3 r4 r5 r6 q1 q2 kvs cst tc c} : any_rcvt_S w mean mg mb dp un gd cn cs a ccd cl outer A₀ base h₀ L m s Q E rest W dW S dS nl cv sd G zn sc u t1 t2 tm ppem vs cvs ns cns k kc sto dG R dR gv r1 r2 r3 r4 r5 r6 q1 q2 kvs cst tc c := UA_ok (UA_bag w mean mg mb dp un gd cn cs a ccd cl outer A₀ base h₀ L m s Q E rest W dW S dS nl cv sd G zn sc u t1 t2 tm ppem vs cvs ns cns k kc sto dG R dR gv r1 r2 r3 r4 r5 r6 q1 q2 kvs cst tc c) _ (List.mem_of_getElem? (i := 15) rfl)
theorem any_size {w mean mg mb dp un gd cn cs a ccd cl outer A₀ base h₀ L m s Q E rest W dW S dS nl cv sd G zn sc u t1 t2 tm ppem vs cvs ns cns k kc sto dG R dR gv r1 r2 r3 r4 r5 r6 q1 q2 kvs cst tc c} : any_size_S w mean mg mb dp un gd cn cs a ccd cl outer A₀ base h₀ L m s Q E rest W dW S dS nl cv sd G zn sc u t1 t2 tm ppem vs cvs ns cns k kc sto dG R dR gv r1 r2 r3 r4 r5 r6 q1 q2 kvs cst tc c := UA_ok (UA_bag w mean mg mb dp un gd cn cs a ccd cl outer A₀ base h₀ L m s Q E rest W dW S dS nl cv sd G zn sc u t1 t2 tm ppem vs cvs ns cns k kc sto dG R dR gv r1 r2 r3 r4 r5 r6 q1 q2 kvs cst tc c) _ (List.mem_of_getElem? (i := 16) rfl)
theorem any_info {w mean mg mb dp un gd cn cs a ccd cl outer A₀ base h₀ L m s Q E rest W dW S dS nl cv sd G zn sc u t1 t2 tm ppem vs cvs ns cns k kc sto dG R dR gv r1 r2 r3 r4 r5 r6 q1 q2 kvs cst tc c} : any_info_S w mean mg mb dp un gd cn cs a ccd cl outer A₀ base h₀ L m s Q E rest W dW S dS nl cv sd G zn sc u t1 t2 tm ppem vs cvs ns cns k kc sto dG R dR gv r1 r2 r3 r4 r5 r6 q1 q2 kvs cst tc c := UA_ok (UA_bag w mean mg mb dp un gd cn cs a ccd cl outer A₀ base h₀ L m s Q E rest W dW S dS nl cv sd G zn sc u t1 t2 tm ppem vs cvs ns cns k kc sto dG R dR gv r1 r2 r3 r4 r5 r6 q1 q2 kvs cst tc c) _ (List.mem_of_getElem? (i := 17) rfl)
noncomputable def OpCode (c : Int) : Prop := c = 32 ∨ c = 33 ∨ c = 126 ∨ c = 34 ∨ c = 35 ∨ c = 36 ∨ c = 37 ∨ c = 38 ∨ c = 138 ∨ c = 80 ∨ c = 81 ∨ c = 82 ∨ c = 83 ∨ c = 84 ∨ c = 85 ∨ c = 90 ∨ c = 91 ∨ c = 92 ∨ c = 86 ∨ c = 87 ∨ c = 66 ∨ c = 67 ∨ c = 68 ∨ c = 112 ∨ c = 69 ∨ c = 75 ∨ c = 76 ∨ c = 136
noncomputable def opF (c : Int) : Addr := if c = 32 then 137 else if c = 33 then 144 else if c = 126 then 144 else if c = 34 then 151 else if c = 35 then 158 else if c = 36 then 165 else if c = 37 then 172 else if c = 38 then 177 else if c = 138 then 184 else if c = 80 then 205 else if c = 81 then 205 else if c = 82 then 205 else if c = 83 then 205 else if c = 84 then 205 else if c = 85 then 205 else if c = 90 then 205 else if c = 91 then 205 else if c = 92 then 212 else if c = 86 then 219 else if c = 87 then 219 else if c = 66 then 261 else if c = 67 then 268 else if c = 68 then 275 else if c = 112 then 282 else if c = 69 then 289 else if c = 75 then 310 else if c = 76 then 310 else 317
theorem op_any {w : World} {mean : ExcName → Option Value} {mg mb : Str → Option Value} {dp un : Nat} {gd : Option (List Code)} {cn : Str} {cs : Scope} {a : Addr} {ccd : Value} {cl : List (Str × Addr)} {outer : List Env} {A₀ : Around} {base h₀ : Heap} {L : Addr} {m : Str → Option Value} {s : Shared} {Q E : Value → Shared → Prop}
   {rest : List (Addr × Obj)} {W dW S dS nl cv sd G zn sc : Addr} {u : WTok} {t1 t2 tm : Tok} {ppem : Int} {vs cvs : List Value} {ns cns : List Int} {k kc : Nat} {sto : Obj} {dG R dR : Addr} {gv : GV} {r1 r2 r3 r4 r5 r6 q1 q2 : Tok} {kvs : List (Int × Value)} {cst : List (Int × Int)} {tc : Tok} {c : Int}
   (B : Below A₀ base outer h₀) (F : Fr h₀ L s.heap m) (X : (lay.heap_1 w.params).In h₀) (N : News h₀ L s.heap ((W, instObj 476 dW) :: (dW, dictOf (WrkE w u G S zn cv sd sc ppem) 8) :: (S, instObj 425 dS) :: (dS, dictOf (StkE w t1 t2 tm nl) 2) :: (nl, listOf vs.toArray k) :: (cv, listOf cvs.toArray kc) :: (sd, sto) :: (G, instObj 369 dG) :: (dG, dictOf (GrE w gv R) 18) :: (R, instObj 112 dR) :: (dR, dictOf (RndE w r1 r2 r3 r4 r5 r6) 3) :: (sc, tupObj [Value.int 3 q1, Value.int 2 q2]) :: rest)) (T' : Top view (looseW view [Str.ofString "HintWork"]) mean mg mb h₀) (hk : cs.kind = .function) (hdp : dp + 6 < recursionLimit) (hun : un + 128 < cLine) (off : OwnOff rest [nl, dS, cv, sd])
   (hc : OpCode c) (ap : Apart W dW S dS nl cv sd) (ap2 : Apart2 nl cv sd dS G dG R dR sc) (hpp : c = 75 → ppem = 12) (hi : IntsAre vs ns) (hl : ns.length ≤ 12) (hb : ∀ x ∈ ns, -(10 ^ 10) < x ∧ x < 10 ^ 10) (hcn : IntsAre cvs cns) (hcl : cns.length = 3) (lo9 : (sd == sysModules) = false) (hd9 : sto.IsDictOf (PySem.intKind PySem.Challenge.rw_on0247_01.row.toRowW.prog w) kvs) (hf9 : PyProof.V.FlatPairs PyData.int kvs (kdfD cst)) (hc9 : cst.length ≤ 1000)
   (hret : ∀ nsx cnx csx h' tk' nl' vs' k' cvs' kc' sto' kvs', opStep c ns cns cst = some (nsx, cnx, csx) → Fr h₀ L h' m → News h₀ L h' ((W, instObj 476 dW) :: (dW, dictOf (WrkE w u G S zn cv sd sc ppem) 8) :: (S, instObj 425 dS) :: (dS, dictOf (StkE w t1 t2 tm nl') 2) :: (nl', listOf (List.toArray vs') k') :: (cv, listOf (List.toArray cvs') kc') :: (sd, sto') :: (G, instObj 369 dG) :: (dG, dictOf (GrE w gv R) 18) :: (R, instObj 112 dR) :: (dR, dictOf (RndE w r1 r2 r3 r4 r5 r6) 3) :: (sc, tupObj [Value.int 3 q1, Value.int 2 q2]) :: rest) → IntsAre vs' nsx → IntsAre cvs' cnx → sto'.IsDictOf (PySem.intKind PySem.Challenge.rw_on0247_01.row.toRowW.prog w) kvs' → PyProof.V.FlatPairs PyData.int kvs' (kdfD csx) → (nl' = nl ∨ (@LT.lt Nat _ W nl' ∧ @LT.lt Nat _ dW nl' ∧ @LT.lt Nat _ S nl' ∧ @LT.lt Nat _ dS nl' ∧ @LT.lt Nat _ nl nl' ∧ @LT.lt Nat _ cv nl' ∧ @LT.lt Nat _ sd nl' ∧ AllLt nl' ((G, instObj 369 dG) :: (dG, dictOf (GrE w gv R) 18) :: (R, instObj 112 dR) :: (dR, dictOf (RndE w r1 r2 r3 r4 r5 r6) 3) :: (sc, tupObj [Value.int 3 q1, Value.int 2 q2]) :: rest))) → Q .none { s with heap := h', toks := tk' })
   (hexc : ∀ e h' tk' g₂, opStep c ns cns cst = none → RaisedN base (envX cn cs L a ccd cl :: outer) e (.ref 51) ((W, instObj 476 dW) :: (dW, dictOf (WrkE w u G S zn cv sd sc ppem) 8) :: (S, instObj 425 dS) :: (dS, dictOf (StkE w t1 t2 tm nl) 2) :: (cv, listOf (List.toArray cvs) kc) :: (sd, sto) :: (G, instObj 369 dG) :: (dG, dictOf (GrE w gv R) 18) :: (R, instObj 112 dR) :: (dR, dictOf (RndE w r1 r2 r3 r4 r5 r6) 3) :: (sc, tupObj [Value.int 3 q1, Value.int 2 q2]) :: rest) h' → g₂.UpToSlots h' → Fr h₀ L g₂ m → E (.ref e) { s with heap := h', toks := tk' }) :
   wpAny (model PySem.Challenge.rw_on0247_01.row.toRowW.prog w) (ktrTop dp un gd cn cs L a ccd cl outer) (call (.ref (opF c)) [.ref W, .int c tc]) Q E s := by
  skip
  rcases hc with h | h | h | h | h | h | h | h | h | h | h | h | h | h | h | h | h | h | h | h | h | h | h | h | h | h | h | h
  · exact op_ref ((congrArg opF h).trans (rfl : opF 32 = 137)) (any_dup B F X N T' hk hdp hun off h ap ap2 hpp hi hl hb hcn hcl lo9 hd9 hf9 hc9 hret hexc)
  · exact op_ref ((congrArg opF h).trans (rfl : opF 33 = 144)) (any_pop B F X N T' hk hdp hun off (.inl h) ap ap2 hpp hi hl hb hcn hcl lo9 hd9 hf9 hc9 hret hexc)
  · exact op_ref ((congrArg opF h).trans (rfl : opF 126 = 144)) (any_pop B F X N T' hk hdp hun off (.inr h) ap ap2 hpp hi hl hb hcn hcl lo9 hd9 hf9 hc9 hret hexc)
  · exact op_ref ((congrArg opF h).trans (rfl : opF 34 = 151)) (any_clear B F X N T' hk hdp hun off h ap ap2 hpp hi hl hb hcn hcl lo9 hd9 hf9 hc9 hret hexc)
  · exact op_ref ((congrArg opF h).trans (rfl : opF 35 = 158)) (any_swap B F X N T' hk hdp hun off h ap ap2 hpp hi hl hb hcn hcl lo9 hd9 hf9 hc9 hret hexc)
  · exact op_ref ((congrArg opF h).trans (rfl : opF 36 = 165)) (any_depth B F X N T' hk hdp hun off h ap ap2 hpp hi hl hb hcn hcl lo9 hd9 hf9 hc9 hret hexc)
  · exact op_ref ((congrArg opF h).trans (rfl : opF 37 = 172)) (any_cindex B F X N T' hk hdp hun off h ap ap2 hpp hi hl hb hcn hcl lo9 hd9 hf9 hc9 hret hexc)
  · exact op_ref ((congrArg opF h).trans (rfl : opF 38 = 177)) (any_mindex B F X N T' hk hdp hun off h ap ap2 hpp hi hl hb hcn hcl lo9 hd9 hf9 hc9 hret hexc)
  · exact op_ref ((congrArg opF h).trans (rfl : opF 138 = 184)) (any_roll B F X N T' hk hdp hun off h ap ap2 hpp hi hl hb hcn hcl lo9 hd9 hf9 hc9 hret hexc)
  · exact op_ref ((congrArg opF h).trans (rfl : opF 80 = 205)) (any_compare B F X N T' hk hdp hun off (.inl h) ap ap2 hpp hi hl hb hcn hcl lo9 hd9 hf9 hc9 hret hexc)
  · exact op_ref ((congrArg opF h).trans (rfl : opF 81 = 205)) (any_compare B F X N T' hk hdp hun off (.inr (.inl h)) ap ap2 hpp hi hl hb hcn hcl lo9 hd9 hf9 hc9 hret hexc)
  · exact op_ref ((congrArg opF h).trans (rfl : opF 82 = 205)) (any_compare B F X N T' hk hdp hun off (.inr (.inr (.inl h))) ap ap2 hpp hi hl hb hcn hcl lo9 hd9 hf9 hc9 hret hexc)
  · exact op_ref ((congrArg opF h).trans (rfl : opF 83 = 205)) (any_compare B F X N T' hk hdp hun off (.inr (.inr (.inr (.inl h)))) ap ap2 hpp hi hl hb hcn hcl lo9 hd9 hf9 hc9 hret hexc)
  · exact op_ref ((congrArg opF h).trans (rfl : opF 84 = 205)) (any_compare B F X N T' hk hdp hun off (.inr (.inr (.inr (.inr (.inl h))))) ap ap2 hpp hi hl hb hcn hcl lo9 hd9 hf9 hc9 hret hexc)
  · exact op_ref ((congrArg opF h).trans (rfl : opF 85 = 205)) (any_compare B F X N T' hk hdp hun off (.inr (.inr (.inr (.inr (.inr (.inl h)))))) ap ap2 hpp hi hl hb hcn hcl lo9 hd9 hf9 hc9 hret hexc)
  · exact op_ref ((congrArg opF h).trans (rfl : opF 90 = 205)) (any_compare B F X N T' hk hdp hun off (.inr (.inr (.inr (.inr (.inr (.inr (.inl h))))))) ap ap2 hpp hi hl hb hcn hcl lo9 hd9 hf9 hc9 hret hexc)
  · exact op_ref ((congrArg opF h).trans (rfl : opF 91 = 205)) (any_compare B F X N T' hk hdp hun off (.inr (.inr (.inr (.inr (.inr (.inr (.inr h))))))) ap ap2 hpp hi hl hb hcn hcl lo9 hd9 hf9 hc9 hret hexc)
  · exact op_ref ((congrArg opF h).trans (rfl : opF 92 = 212)) (any_not B F X N T' hk hdp hun off h ap ap2 hpp hi hl hb hcn hcl lo9 hd9 hf9 hc9 hret hexc)
  · exact op_ref ((congrArg opF h).trans (rfl : opF 86 = 219)) (any_odd B F X N T' hk hdp hun off (.inl h) ap ap2 hpp hi hl hb hcn hcl lo9 hd9 hf9 hc9 hret hexc)
  · exact op_ref ((congrArg opF h).trans (rfl : opF 87 = 219)) (any_odd B F X N T' hk hdp hun off (.inr h) ap ap2 hpp hi hl hb hcn hcl lo9 hd9 hf9 hc9 hret hexc)
  · exact op_ref ((congrArg opF h).trans (rfl : opF 66 = 261)) (any_ws B F X N T' hk hdp hun off h ap ap2 hpp hi hl hb hcn hcl lo9 hd9 hf9 hc9 hret hexc)
  · exact op_ref ((congrArg opF h).trans (rfl : opF 67 = 268)) (any_rs B F X N T' hk hdp hun off h ap ap2 hpp hi hl hb hcn hcl lo9 hd9 hf9 hc9 hret hexc)
  · exact op_ref ((congrArg opF h).trans (rfl : opF 68 = 275)) (any_wcvtp B F X N T' hk hdp hun off h ap ap2 hpp hi hl hb hcn hcl lo9 hd9 hf9 hc9 hret hexc)
  · exact op_ref ((congrArg opF h).trans (rfl : opF 112 = 282)) (any_wcvtf B F X N T' hk hdp hun off h ap ap2 hpp hi hl hb hcn hcl lo9 hd9 hf9 hc9 hret hexc)
  · exact op_ref ((congrArg opF h).trans (rfl : opF 69 = 289)) (any_rcvt B F X N T' hk hdp hun off h ap ap2 hpp hi hl hb hcn hcl lo9 hd9 hf9 hc9 hret hexc)
  · exact op_ref ((congrArg opF h).trans (rfl : opF 75 = 310)) (any_size B F X N T' hk hdp hun off (.inl h) ap ap2 hpp hi hl hb hcn hcl lo9 hd9 hf9 hc9 hret hexc)
  · exact op_ref ((congrArg opF h).trans (rfl : opF 76 = 310)) (any_size B F X N T' hk hdp hun off (.inr h) ap ap2 hpp hi hl hb hcn hcl lo9 hd9 hf9 hc9 hret hexc)
  · exact op_ref ((congrArg opF h).trans (rfl : opF 136 = 317)) (any_info B F X N T' hk hdp hun off h ap ap2 hpp hi hl hb hcn hcl lo9 hd9 hf9 hc9 hret hexc)
end
theorem mt5 : True := by first | (walk1; done) | trivial
section
open PySem PySem.Spec PySem.W PySem.Calls PyProof.Rows
noncomputable def minL (base h : Heap) (fs : List Addr) : List Addr := (List.range h.objs.size).filter (fun b => (base.get? b).isNone && !fs.contains b)
theorem minL_mem {base h : Heap} {fs : List Addr} {b : Addr} : b ∈ minL base h fs ↔ b < h.objs.size ∧ base.get? b = none ∧ b ∉ fs := by
  unfold minL
  rw [List.mem_filter, List.mem_range]
  simp [Option.isNone_iff_eq_none]
/-- a ground that holds the base and the frames alone -/
noncomputable def MinG (base : Heap) (fs : List Addr) (g : Heap) : Prop := ∀ b o, g.get? b = some o → b ∈ fs ∨ base.get? b = some o
theorem MinG.self {base : Heap} {fs : List Addr} : MinG base fs base := fun _ _ e => .inr e
theorem MinG.turn {base g g' : Heap} {fs : List Addr} (M : MinG base fs g) (T : KtsTurn fs g g') : MinG base fs g' := fun b o e => by
  by_cases hb : b ∈ fs
  · exact .inl hb
  · cases q : g.get? b with
    | none => rw [T.none_ b q] at e; cases e
    | some o' =>
      have := T.other b o' q hb
      rw [e] at this; rw [Option.some.inj this]
      exact M b o' q
section
variable {prog : Program} {w : World} {A A₀ : Around} {s : Shared} {K : Frag} {L : Addr} {h₀ base : Heap} {m mg mb : Str → Option Value} {news : List (Addr × Obj)} {p : Program} {loose : List Str} {mean : ExcName → Option Value} {env : Env} {outer : List Env}
theorem groundM (B : Below A₀ base outer h₀) (F : Fr h₀ L s.heap m) (N : News h₀ L s.heap news) (hA : A.frames = some (env :: outer)) (hf : env.frame = some L) (hke : env.scope.kind = .function) (hm : MinG base (outer.filterMap (·.frame)) h₀) :
    ∃ g, g.objs.size = s.heap.objs.size ∧ (∀ b o, g.get? b = some o → s.heap.get? b = some o) ∧ Fr h₀ L g m ∧ Below A base (env :: outer) g ∧ MinG base (L :: outer.filterMap (·.frame)) g ∧ (∀ p ∈ news, g.get? p.1 = none) ∧ h₀.StaysIn g := by
  have nin : ∀ b o, h₀.get? b = some o → b ∉ minL base s.heap (L :: outer.filterMap (·.frame)) := fun b o e q => by
    obtain ⟨_, h1, h2⟩ := minL_mem.mp q
    rcases hm b o e with h3 | h3
    · exact h2 (List.mem_cons_of_mem _ h3)
    · rw [h1] at h3; cases h3
  have st : h₀.StaysIn (hideAll s.heap (minL base s.heap (L :: outer.filterMap (·.frame)))) := fun b o e => hideAll_get _ (F.keep b o e) (nin b o e)
  obtain ⟨oL, es, ep, hL, hLd, hLk, hLf⟩ := F.ns
  have nL : L ∉ minL base s.heap (L :: outer.filterMap (·.frame)) := fun q => (minL_mem.mp q).2.2 List.mem_cons_self
  have B₁ := pushX B F hf hke
  refine ⟨_, hideAll_size (minL base s.heap (L :: outer.filterMap (fun x : Env => x.frame))) s.heap, fun b o e => of_hideAll _ e, ⟨⟨oL, es, ep, hideAll_get _ hL nL, hLd, hLk, hLf⟩, st, F.above⟩, ⟨hA, fun b o e => st b o (B.stays b o e), funFrames_hideAll B₁.frames fun env' he b hb hf' => ?_⟩, fun b o e => ?_, fun p hp => hideAll_none _ (minL_mem.mpr ⟨Heap.lt_size (N p hp).1, ?_, ?_⟩), st⟩
  · have h2 := (minL_mem.mp hb).2.2
    cases he with
    | head => exact h2 ((Option.some.inj (hf.symm.trans hf') : L = b) ▸ List.mem_cons_self)
    | tail _ he => exact h2 (List.mem_cons_of_mem _ (List.mem_filterMap.mpr ⟨env', he, hf'⟩))
  · by_cases hb : b ∈ L :: outer.filterMap (·.frame)
    · exact .inl hb
    · have e' := of_hideAll _ e
      cases q : base.get? b with
      | none => rw [hideAll_none _ (minL_mem.mpr ⟨Heap.lt_size e', q, hb⟩)] at e; cases e
      | some o' => have := F.keep b o' (B.stays b o' q); rw [e'] at this; rw [Option.some.inj this]; exact .inr rfl
  · cases q : base.get? p.1 with
    | none => rfl
    | some o' => have := B.stays _ _ q; rw [(N p hp).2.2] at this; cases this
  · intro q
    rcases List.mem_cons.mp q with q | q
    · exact (N p hp).2.1 q
    · obtain ⟨_, o', ho', _⟩ := B.frames.mem q
      rw [(N p hp).2.2] at ho'; cases ho'
theorem enterR {R : Result → Shared → Prop} {name qual : Str} {params : Arguments} {body : List Stmt} {scope : Scope} {dV kV doc pm cdv ct oc : Value} {an od : Option Addr} {osl : Array (Option Value)} {f : Addr} {args : Args} {binds : List (Str × Value)}
    (B : Below A₀ base outer h₀) (F : Fr h₀ L s.heap m) (X₀ : K.In h₀) (N : News h₀ L s.heap news) (T : Top p loose mean mg mb h₀) (hA : A.frames = some (env :: outer)) (hf : env.frame = some L) (hke : env.scope.kind = .function)
    (ho : K.lookup f = some ⟨oc, od, .func (fnOf name qual params body scope dV kV doc pm an cdv ct), osl⟩) (hcd : codeIn K cdv qual = true) (hroom : A.depth < recursionLimit)
    (hbind : BindsTo s (fnOf name qual params body scope dV kV doc pm an cdv ct) args binds) (hloc : ∀ y ∈ binds, scope.names.lookup y.1 = some .local)
    (hm : MinG base (outer.filterMap (·.frame)) h₀)
    (h : ∀ g L' h₁, Fr h₀ L g m → MinG base (L :: outer.filterMap (·.frame)) g → Fr g L' h₁ (fun y => binds.reverse.lookup y) → News g L' h₁ news → Below A base (env :: outer) g → K.In g → Top p loose mean mg mb g → (∀ p ∈ news, p.1 < L') →
      wpAny (model prog w) (A.deeper (envOf qual scope L' f cdv)) (execs body (envOf qual scope L' f cdv))
        (fun fl s' => R (.ok (.ret (match fl with | .ret v => v | _ => .none))) s')
        (fun e s' => wpAny (model prog w) (A.deeper (envOf qual scope L' f cdv)) (leaving (envOf qual scope L' f cdv) e) (fun _ s'' => R (.error e) s'') (fun e' s'' => R (.error e') s'') s')
        { s with heap := h₁, toks := s.toks + binds.length })
    (hco : scope.isCoroutine = false) (hgen : scope.isGenerator = false) (hk : scope.kind = .function)
    (hcell : ∀ x ∈ scope.names, x.2 ≠ .cell) : codeAny (model prog w) A (.call (.ref f) args) R s := by
  obtain ⟨g, gs, gin, FG, BG, M, gn, st⟩ := groundM B F N hA hf hke hm
  have X := X₀.keeps F.keep
  have XG := X₀.keeps st
  have TG := T.keeps st
  refine codeAny_call_def (fd := fnOf name qual params body scope dV kV doc pm an cdv ct) (body := body) (binds := binds) hroom (X _ _ ho) rfl (T.nolimit.keeps F.keep) (codeRec_of X hcd) rfl hbind hcell hloc (fun h₁ hns hk₁ => ?_) hco hgen hk
  exact h g s.heap.objs.size h₁ FG M ⟨hns, fun b o e => hk₁ b o (gin b o e), Nat.le_of_eq gs⟩
    (fun p hp => ⟨hk₁ _ _ (N p hp).1, Nat.ne_of_lt (Heap.lt_size (N p hp).1), gn p hp⟩) BG XG TG (fun p hp => Heap.lt_size (N p hp).1)
theorem enterRC {R : Result → Shared → Prop} {name qual : Str} {params : Arguments} {body : List Stmt} {scope : Scope} {dV kV doc pm cdv ct oc : Value} {an od : Option Addr} {osl : Array (Option Value)} {f : Addr} {args : Args} {binds : List (Str × Value)}
    (B : Below A₀ base outer h₀) (F : Fr h₀ L s.heap m) (X₀ : K.In h₀) (N : News h₀ L s.heap news) (T : Top p loose mean mg mb h₀) (hA : A.frames = some (env :: outer)) (hf : env.frame = some L) (hke : env.scope.kind = .function)
    (ho : K.lookup f = some ⟨oc, od, .func (fnOf name qual params body scope dV kV doc pm an cdv ct), osl⟩) (hcd : codeIn K cdv qual = true) (hroom : A.depth < recursionLimit)
    (hbind : BindsTo s (fnOf name qual params body scope dV kV doc pm an cdv ct) args binds) (hkind : (binds.all fun y => scope.names.lookup y.1 == some .local || scope.names.lookup y.1 == some .cell) = true)
    (hnd : ((cellsFrom 0 scope.names []).map (·.1)).Nodup)
    (hm : MinG base (outer.filterMap (·.frame)) h₀)
    (h : ∀ g L' h₁ tk cells, Fr h₀ L g m → MinG base (L :: outer.filterMap (·.frame)) g → Fr g L' h₁ (bindL (envOfC qual scope L' f cdv).kindOf binds fun _ => none) → News g L' h₁ (cells ++ news) →
      CellsAre (bindC (envOfC qual scope L' f cdv).kindOf binds fun _ => none) (cellsFrom (L' + 1) scope.names []) cells → Below A base (env :: outer) g → K.In g → Top p loose mean mg mb g → (∀ p ∈ news, p.1 < L') →
      wpAny (model prog w) (A.deeper (envOfC qual scope L' f cdv)) (execs body (envOfC qual scope L' f cdv))
        (fun fl s' => R (.ok (.ret (match fl with | .ret v => v | _ => .none))) s')
        (fun e s' => wpAny (model prog w) (A.deeper (envOfC qual scope L' f cdv)) (leaving (envOfC qual scope L' f cdv) e) (fun _ s'' => R (.error e) s'') (fun e' s'' => R (.error e') s'') s')
        { s with heap := h₁, toks := tk })
    (hco : scope.isCoroutine = false) (hgen : scope.isGenerator = false) (hk : scope.kind = .function) : codeAny (model prog w) A (.call (.ref f) args) R s := by
  obtain ⟨g, gs, gin, FG, BG, M, gn, st⟩ := groundM B F N hA hf hke hm
  have X := X₀.keeps F.keep
  refine codeAny_call_function hroom (X _ _ ho) rfl hco hgen rfl (codeRec_of X hcd) (hbind _ _ _ _ ?_)
  refine wpAny_newFunctionEnv_cells hk (kindsX hkind _) fun env' he s' x => ?_
  subst he
  refine ⟨(T.nolimit.keeps F.keep).keeps x.toInCall.keep, codeAny_func ?_⟩
  obtain ⟨h₁, tk, rfl, _⟩ := x.done
  have hk₁ := x.toInCall.keep
  obtain ⟨cells, NC, Y⟩ := Cl.news (h₀ := s.heap) (Nat.le_refl _) fun n c hm => ⟨x.cell n c (lookup_of_mem_nodup (cellsFrom_names scope.names 0 (s.heap.objs.size + 1) [] [] rfl ▸ hnd) hm), x.above n c hm⟩
  refine h g s.heap.objs.size h₁ tk cells FG M ⟨x.toInCall.ns, fun b o e => hk₁ b o (gin b o e), Nat.le_of_eq gs⟩ (fun p hp => ?_) Y BG (X₀.keeps st) (T.keeps st) (fun p hp => Heap.lt_size (N p hp).1)
  rcases List.mem_append.mp hp with hp | hp
  · refine ⟨(NC p hp).1, (NC p hp).2.1, ?_⟩
    cases q : g.get? p.1 with
    | none => rfl
    | some o => have := gin _ _ q; rw [(NC p hp).2.2] at this; cases this
  · exact ⟨hk₁ _ _ (N p hp).1, Nat.ne_of_lt (Heap.lt_size (N p hp).1), gn p hp⟩
/-- out of the def, the ground as it was -/
theorem leaveR {g h : Heap} {L' : Addr} {m' : Str → Option Value} (FG : Fr h₀ L g m) (F' : Fr g L' h m') (N' : News g L' h news) : Fr h₀ L h m ∧ News h₀ L h news := by
  obtain ⟨oL, es, ep, hL, hLd, hLk, hLf⟩ := FG.ns
  refine ⟨⟨⟨oL, es, ep, F'.keep L oL hL, hLd, hLk, hLf⟩, fun b o e => F'.keep b o (FG.keep b o e), FG.above⟩, fun p hp => ⟨(N' p hp).1, fun q => ?_, ?_⟩⟩
  · have := (N' p hp).2.2; rw [q, hL] at this; cases this
  · cases q : h₀.get? p.1 with
    | none => rfl
    | some o => have := (N' p hp).2.2; rw [FG.keep _ _ q] at this; cases this
/-- out of the def, the frames' slots turned -/
theorem leaveT {g g' h : Heap} {L' : Addr} {m' : Str → Option Value} (B : Below A₀ base outer h₀) (FG : Fr h₀ L g m) (T' : KtsTurn (L :: outer.filterMap (·.frame)) g g') (F' : Fr g' L' h m') (N' : News g' L' h news) :
    ∃ h₀', KtsTurn (outer.filterMap (·.frame)) h₀ h₀' ∧ Fr h₀' L h m ∧ News h₀' L h news ∧ Below A₀ base outer h₀' := by
  obtain ⟨oL, es, ep, hL, hLd, hLk, hLf⟩ := FG.ns
  have nL₀ : h₀.get? L = none := kts_self FG
  obtain ⟨sl, hs⟩ := T'.up hL
  obtain ⟨T₁, S₁⟩ := kts_turn_at (h := h) (fs := outer.filterMap (·.frame)) (g := h₀)
    (fun b hb => by
      obtain ⟨_, o, ho', _⟩ := B.frames.mem hb
      exact ⟨o, ho'⟩)
    (fun b o e nmem => F'.keep b o (T'.other b o (FG.keep b o e) (fun q => by
      rcases List.mem_cons.mp q with z | z
      · rw [z, nL₀] at e
        cases e
      · exact nmem z)))
    (fun b o e hm => by
      obtain ⟨sl', hs'⟩ := T'.up (FG.keep b o e)
      exact ⟨sl', F'.keep _ _ hs'⟩)
  have B₃ : Below A₀ base outer (ktsHeap h (outer.filterMap (·.frame)) h₀) := ⟨B.stack, fun b o e => T₁.other b o (B.stays b o e) (fun hm => by
    rw [(B.frames.mem hm).1] at e
    cases e), B.frames.of_keeps fun b o e _ => by
    obtain ⟨sl', hs'⟩ := T₁.up e
    exact ⟨_, hs', rfl⟩⟩
  refine ⟨_, T₁, ⟨⟨_, es, ep, F'.keep _ _ hs, hLd, hLk, hLf⟩, S₁, by rw [T₁.size]; exact FG.above⟩, fun p hp => ⟨(N' p hp).1, fun q => ?_, ?_⟩, B₃⟩
  · have := (N' p hp).2.2; rw [q, hs] at this; cases this
  · refine T₁.none_ _ ?_
    cases q : h₀.get? p.1 with
    | none => rfl
    | some o =>
      obtain ⟨sl', hs'⟩ := T'.up (FG.keep _ _ q)
      have := (N' p hp).2.2
      rw [hs'] at this
      cases this
end
section
variable {prog : Program} {w : World} {A₀ : Around} {E : Value → Shared → Prop} {s' : Shared} {base g g₂ : Heap} {outer : List Env} {L a e C : Addr} {m : Str → Option Value} {name : Str} {scope : Scope} {cd : Value}
  {b₀ : Stmt} {suite : List Stmt} {pos np : Pos} {rest : List ExceptHandler} {Q : Flow → Shared → Prop} {news : List (Addr × Obj)} {KF : Frag}
  {p : Program} {loose : List Str} {mean : ExcName → Option Value} {mg mb : Str → Option Value} {x : Str}
theorem caught_min (R : RaisedN base (envOf name scope L a cd :: outer) e (.ref C) news s'.heap) (hsm₂ : g₂.UpToSlots s'.heap) (F₂ : Fr g L g₂ m) (K : Below A₀ base outer g) (hm : MinG base (outer.filterMap (·.frame)) g) (XB : KF.In base) (TB : Top p loose mean mg mb base)
    (ex : nsIn KF mainGlobals x = some (some (.ref C))) (q : ktsIn KF C "BaseException" = true)
    (k : ∀ h' g', KtsTurn (outer.filterMap (·.frame)) g g' → Fr g' L h' m → News g' L h' news → Below A₀ base outer g' → KF.In g' → Top p loose mean mg mb g' →
      wpAny (model prog w) ((A₀.deeper (envOf name scope L a cd)).mark (some (.ref e))) (execs (b₀ :: suite) (envOf name scope L a cd)) Q E { s' with heap := h' })
    (hk : scope.kind = .function := by rfl) (hx : (envOf name scope L a cd).kindOf x = some .globalImplicit := by rfl) (hd : (x == ("__debug__" : Str)) = false := by decide)
    (hE : PassesOwnAt (model prog w) ((A₀.deeper (envOf name scope L a cd)).mark (some (.ref e))) (A₀.deeper (envOf name scope L a cd)) (envOf name scope L a cd) E := by passes_own) :
    wpAny (model prog w) (A₀.deeper (envOf name scope L a cd)) (noteFrame (.ref e) (envOf name scope L a cd))
      (fun _ s₂ => wpAny (model prog w) (A₀.deeper (envOf name scope L a cd)) (setFlight (.ref e) none) (fun _ s₃ =>
        wpAny (model prog w) (A₀.deeper (envOf name scope L a cd)) (handleBy (.ref e) (envOf name scope L a cd) (.ExceptHandler (some (.Name x np)) none (b₀ :: suite) pos :: rest)) Q E s₃) E s₂) E s' := by
  obtain ⟨B, a0, hB, hl, hfl⟩ := R
  have hfr : ∀ b ∈ (envOf name scope L a cd :: outer).filterMap (·.frame), B.get? b = none := fun b hb => (hfl.2.2.1.mem hb).1
  have hL : B.get? L = none := hfr L (List.mem_filterMap.mpr ⟨_, List.mem_cons_self, rfl⟩)
  have hgn : ∀ b o, B.get? b = some o → base.get? b = none → g.get? b = none := fun b o e1 e2 => by
    cases z : g.get? b with
    | none => rfl
    | some o' =>
      rcases hm b o' z with h1 | h1
      · obtain ⟨env', he, hf⟩ := List.mem_filterMap.mp h1
        rw [hfr b (List.mem_filterMap.mpr ⟨env', List.mem_cons_of_mem _ he, hf⟩)] at e1; cases e1
      · rw [h1] at e2; cases e2
  -- the ground of the raise, cut down to this frame's ground and this frame
  obtain ⟨G, F, hsm, hBG⟩ : ∃ G, Fr g L G m ∧ G.UpToSlots s'.heap ∧ ∀ b o, G.get? b = some o → b ∉ (envOf name scope L a cd :: outer).filterMap (·.frame) → B.get? b = some o := by
    obtain ⟨oL, es, ep, hL2, hLd, hLk, hLf⟩ := F₂.ns
    have nin : ∀ b o, g.get? b = some o → b ∉ (List.range g₂.objs.size).filter (fun b => (g.get? b).isNone && b != L) := fun b o e1 e2 => by
      have := (List.mem_filter.mp e2).2
      rw [e1] at this; simp at this
    have nL : L ∉ (List.range g₂.objs.size).filter (fun b => (g.get? b).isNone && b != L) := fun e2 => by
      have := (List.mem_filter.mp e2).2
      simp at this
    refine ⟨hideAll g₂ ((List.range g₂.objs.size).filter (fun b => (g.get? b).isNone && b != L)), ⟨⟨oL, es, ep, hideAll_get _ hL2 nL, hLd, hLk, hLf⟩, fun b o e1 => hideAll_get _ (F₂.keep b o e1) (nin b o e1), F₂.above⟩, fun b o e1 => hsm₂ b o (of_hideAll _ e1), fun b o e1 nm => ?_⟩
    have e2 := of_hideAll _ e1
    have nb : b ≠ L := fun z => nm (List.mem_filterMap.mpr ⟨_, List.mem_cons_self, by rw [z]; rfl⟩)
    cases z : g.get? b with
    | none =>
      rw [hideAll_none _ (List.mem_filter.mpr ⟨List.mem_range.mpr (Heap.lt_size e2), by rw [z]; simp [nb]⟩)] at e1; cases e1
    | some o' =>
      have := F₂.keep b o' z
      rw [e2] at this; rw [Option.some.inj this]
      rcases hm b o' z with h1 | h1
      · obtain ⟨env', he, hf⟩ := List.mem_filterMap.mp h1
        exact (nm (List.mem_filterMap.mpr ⟨env', List.mem_cons_of_mem _ he, hf⟩)).elim
      · exact hB _ _ h1
  refine wpAny_looks_onW (Around.frames_deeper K.stack) rfl hfl fun h₄ hheld₄ hsm₄ => ?_
  refine wpAny_landsW hheld₄ fun h₅ hheld hsm₅' => ?_
  have hsm₅ := hsm₄.trans hsm₅'
  obtain ⟨g₅, T₅, F₅, K₅⟩ := kts_ground K F hBG hheld.1 (hsm.trans hsm₅)
  have X₅ : KF.In g₅ := XB.keeps K₅.stays
  have P₅ : TopRead p loose mg mb g₅ := topRead_of (TB.keeps K₅.stays)
  obtain ⟨ob, hob, hobc⟩ := hheld.there
  obtain ⟨nm, q', N, bs, bm, hdct, sn, sub, ab, col, dd, k0, k1, k2, k3, k5, newId, hC, hbase, hbT⟩ := kts_cls X₅ q
  have hC₅ := F₅.keep _ _ hC
  refine wpAny_handleBy_cons (codeAny_handlers_test (name_K F₅ X₅ P₅ ex ?_ hk hx hd)) (by intro q; cases q)
  refine wpAny_excMatches_sub_self hC₅ hob hobc hbase (codeAny_handlers_suite ?_)
  refine lands_againW hheld fun h₆ hfl₆ hsm₆ => ?_
  obtain ⟨g₆, T₆, F₆, K₆⟩ := kts_ground K F hBG hfl₆.1 ((hsm.trans hsm₅).trans hsm₆)
  have Nl : News g₆ L h₆ news := fun q hq => ⟨hfl₆.1 _ _ (hl q hq).1, (fun z => by have := (hl q hq).1; rw [z, hL] at this; cases this), T₆.none_ _ (hgn _ _ (hl q hq).1 (hl q hq).2)⟩
  have X₆ : KF.In g₆ := XB.keeps K₆.stays
  have P₆ : Top p loose mean mg mb g₆ := TB.keeps K₆.stays
  exact wpAny_passesOwnAt hE (k h₆ g₆ T₆ F₆ Nl K₆ X₆ P₆)
end
end
section
structure BaseOK (w : World) (mean : ExcName → Option Value) (mg mb : Str → Option Value) (base : Heap) : Prop where
  x : (lay.heap_1 w.params).In base
  t : Top view (looseW view [Str.ofString "HintWork"]) mean mg mb base
theorem opF_keep {c : Int} {p : Params} (hc : OpCode c) : keepIn (lay.heap_1 p) (.ref (opF c)) = true := by
  unfold OpCode at hc
  rcases hc with rfl | rfl | rfl | rfl | rfl | rfl | rfl | rfl | rfl | rfl | rfl | rfl | rfl | rfl | rfl | rfl | rfl | rfl | rfl | rfl | rfl | rfl | rfl | rfl | rfl | rfl | rfl | rfl <;> first | exact rfl | (simp [opF]; k_is)
local macro_rules | `(tactic| walk_at $s:str) => `(tactic| k_extra $(Lean.Syntax.mkStrLit (s.getString ++ " #P18")))
theorem reg20 : True := by
  (k_with "callWith ref #P18" => first | ((k_here; k_dflt (apply callWith_K; (focus (k_asm)); (focus (exact opF_keep (by with_reducible assumption))); k_whole))) | fail "no")
  (k_with "call ref #P18" => first | ((k_here; (with_reducible show wpAny _ _ (call (Value.ref (opF _)) _) _ _ _); refine Stop.out ?_)) | fail "no")
  (k_with "subscriptTail #P18" => first | ((k_here; kda_here; k_dflt (refine ditem_C (knd := PySem.intKind _ _) (by k_asm) (by k_mem) (by with_reducible assumption) (intKind_is _ _ _ _) (by with_reducible assumption) ?_))) | fail "no")
  trivial
noncomputable def heardF_S (w : World) (mean : ExcName → Option Value) (mg mb : Str → Option Value) (dp un : Nat) (gd : Option (List Code)) (cn : Str) (cs : Scope) (a : Addr) (ccd : Value) (cl : List (Str × Addr)) (outer : List Env) (A₀ : Around) (base h₀ : Heap) (L : Addr) (m : Str → Option Value) (s : Shared) (Q E : Value → Shared → Prop) (rest : List (Addr × Obj)) (W dW S dS nl cv sd G zn sc : Addr) (u : WTok) (t1 t2 tm : Tok) (ppem : Int) (vs cvs : List Value) (ns cns : List Int) (k kc : Nat) (sto : Obj) (dG R dR : Addr) (gv : GV) (r1 r2 r3 r4 r5 r6 q1 q2 : Tok) (kvs : List (Int × Value)) (cst : List (Int × Int)) (tc : Tok) (c : Int) (op : Addr) (oo : Obj) (kvsO : List (Int × Value)) : Prop := ∀ (B : Below A₀ base outer h₀) (F : Fr h₀ L s.heap m) (X : (lay.heap_1 w.params).In h₀) (N : News h₀ L s.heap ((W, instObj 476 dW) :: (dW, dictOf (WrkE w u G S zn cv sd sc ppem) 8) :: (S, instObj 425 dS) :: (dS, dictOf (StkE w t1 t2 tm nl) 2) :: (nl, listOf vs.toArray k) :: (cv, listOf cvs.toArray kc) :: (sd, sto) :: (G, instObj 369 dG) :: (dG, dictOf (GrE w gv R) 18) :: (R, instObj 112 dR) :: (dR, dictOf (RndE w r1 r2 r3 r4 r5 r6) 3) :: (sc, tupObj [Value.int 3 q1, Value.int 2 q2]) :: (op, oo) :: rest)) (T' : Top view (looseW view [Str.ofString "HintWork"]) mean mg mb h₀) (hk : cs.kind = .function) (hdp : dp + 9 < recursionLimit) (hun : un + 152 < cLine)  (hm : MinG base (outer.filterMap (fun x => x.frame)) h₀) (bok : BaseOK w mean mg mb base) (off : OwnOff ((op, oo) :: rest) [nl, dS, cv, sd]) (hc : OpCode c) (hoo : oo.IsDictOf (PySem.intKind PySem.Challenge.rw_on0247_01.row.toRowW.prog w) kvsO) (hval : PySem.valueAt kvsO c = some (Value.ref (opF c))) (ap : Apart W dW S dS nl cv sd) (ap2 : Apart2 nl cv sd dS G dG R dR sc) (hpp : c = 75 → ppem = 12) (hi : IntsAre vs ns) (hl : ns.length ≤ 12) (hb : ∀ x ∈ ns, -(10 ^ 10) < x ∧ x < 10 ^ 10) (hcn : IntsAre cvs cns) (hcl : cns.length = 3) (lo9 : (sd == sysModules) = false) (hd9 : sto.IsDictOf (PySem.intKind PySem.Challenge.rw_on0247_01.row.toRowW.prog w) kvs) (hf9 : PyProof.V.FlatPairs PyData.int kvs (kdfD cst)) (hc9 : cst.length ≤ 1000)
   (htrue : ∀ nsx cnx csx h' tk' nl' vs' k' cvs' kc' sto' kvs', opStep c ns cns cst = some (nsx, cnx, csx) → Fr h₀ L h' m → News h₀ L h' ((W, instObj 476 dW) :: (dW, dictOf (WrkE w u G S zn cv sd sc ppem) 8) :: (S, instObj 425 dS) :: (dS, dictOf (StkE w t1 t2 tm nl') 2) :: (nl', listOf (List.toArray vs') k') :: (cv, listOf (List.toArray cvs') kc') :: (sd, sto') :: (G, instObj 369 dG) :: (dG, dictOf (GrE w gv R) 18) :: (R, instObj 112 dR) :: (dR, dictOf (RndE w r1 r2 r3 r4 r5 r6) 3) :: (sc, tupObj [Value.int 3 q1, Value.int 2 q2]) :: (op, oo) :: rest) → IntsAre vs' nsx → IntsAre cvs' cnx → sto'.IsDictOf (PySem.intKind PySem.Challenge.rw_on0247_01.row.toRowW.prog w) kvs' → PyProof.V.FlatPairs PyData.int kvs' (kdfD csx) → (nl' = nl ∨ (@LT.lt Nat _ W nl' ∧ @LT.lt Nat _ dW nl' ∧ @LT.lt Nat _ S nl' ∧ @LT.lt Nat _ dS nl' ∧ @LT.lt Nat _ nl nl' ∧ @LT.lt Nat _ cv nl' ∧ @LT.lt Nat _ sd nl' ∧ AllLt nl' ((G, instObj 369 dG) :: (dG, dictOf (GrE w gv R) 18) :: (R, instObj 112 dR) :: (dR, dictOf (RndE w r1 r2 r3 r4 r5 r6) 3) :: (sc, tupObj [Value.int 3 q1, Value.int 2 q2]) :: (op, oo) :: rest))) → Q (.bool true) { s with heap := h', toks := tk' })
   (hfalse : ∀ h' tk' g₀, opStep c ns cns cst = none → KtsTurn (outer.filterMap (fun x => x.frame)) h₀ g₀ → Fr g₀ L h' m → News g₀ L h' ((W, instObj 476 dW) :: (dW, dictOf (WrkE w u G S zn cv sd sc ppem) 8) :: (S, instObj 425 dS) :: (dS, dictOf (StkE w t1 t2 tm nl) 2) :: (cv, listOf (List.toArray cvs) kc) :: (sd, sto) :: (G, instObj 369 dG) :: (dG, dictOf (GrE w gv R) 18) :: (R, instObj 112 dR) :: (dR, dictOf (RndE w r1 r2 r3 r4 r5 r6) 3) :: (sc, tupObj [Value.int 3 q1, Value.int 2 q2]) :: (op, oo) :: rest) → Below A₀ base outer g₀ → Q (.bool false) { s with heap := h', toks := tk' }),
  wpAny (model PySem.Challenge.rw_on0247_01.row.toRowW.prog w) (ktrTop dp un gd cn cs L a ccd cl outer) (call (.ref 550) [.ref W, .ref op, .int c tc]) Q E s
noncomputable def LheardF_S (p : Bag) : Prop := (heardF_S (p.fWo 0) (p.fMe 0) (p.fM 0) (p.fM 1) (p.fN 0) (p.fN 1) (p.fGD 0) (p.fSt 0) (p.fSc 0) (p.fA 0) (p.fV 0) (p.fCL 0) (p.fEn 0) (p.fAr 0) (p.fH 0) (p.fH 1) (p.fA 1) (p.fM 2) (p.fSh 0) (p.fQ 0) (p.fQ 1) (p.fAO 0) (p.fA 2) (p.fA 3) (p.fA 4) (p.fA 5) (p.fA 6) (p.fA 7) (p.fA 8) (p.fA 9) (p.fA 10) (p.fA 11) (p.fU 0) (p.fT 0) (p.fT 1) (p.fT 2) (p.fI 0) (p.fVL 0) (p.fVL 1) (p.fIL 0) (p.fIL 1) (p.fN 2) (p.fN 3) (p.fO 0) (p.fA 12) (p.fA 13) (p.fA 14) (p.fG 0) (p.fT 3) (p.fT 4) (p.fT 5) (p.fT 6) (p.fT 7) (p.fT 8) (p.fT 9) (p.fT 10) (p.fKV 0) (p.fKI 0) (p.fT 11) (p.fI 1) (p.fA 15) (p.fO 1) (p.fKV 1))
noncomputable def LheardF_c : Bag := skc LheardF_S
theorem heardF_at : heardF_S (LheardF_c.fWo 0) (LheardF_c.fMe 0) (LheardF_c.fM 0) (LheardF_c.fM 1) (LheardF_c.fN 0) (LheardF_c.fN 1) (LheardF_c.fGD 0) (LheardF_c.fSt 0) (LheardF_c.fSc 0) (LheardF_c.fA 0) (LheardF_c.fV 0) (LheardF_c.fCL 0) (LheardF_c.fEn 0) (LheardF_c.fAr 0) (LheardF_c.fH 0) (LheardF_c.fH 1) (LheardF_c.fA 1) (LheardF_c.fM 2) (LheardF_c.fSh 0) (LheardF_c.fQ 0) (LheardF_c.fQ 1) (LheardF_c.fAO 0) (LheardF_c.fA 2) (LheardF_c.fA 3) (LheardF_c.fA 4) (LheardF_c.fA 5) (LheardF_c.fA 6) (LheardF_c.fA 7) (LheardF_c.fA 8) (LheardF_c.fA 9) (LheardF_c.fA 10) (LheardF_c.fA 11) (LheardF_c.fU 0) (LheardF_c.fT 0) (LheardF_c.fT 1) (LheardF_c.fT 2) (LheardF_c.fI 0) (LheardF_c.fVL 0) (LheardF_c.fVL 1) (LheardF_c.fIL 0) (LheardF_c.fIL 1) (LheardF_c.fN 2) (LheardF_c.fN 3) (LheardF_c.fO 0) (LheardF_c.fA 12) (LheardF_c.fA 13) (LheardF_c.fA 14) (LheardF_c.fG 0) (LheardF_c.fT 3) (LheardF_c.fT 4) (LheardF_c.fT 5) (LheardF_c.fT 6) (LheardF_c.fT 7) (LheardF_c.fT 8) (LheardF_c.fT 9) (LheardF_c.fT 10) (LheardF_c.fKV 0) (LheardF_c.fKI 0) (LheardF_c.fT 11) (LheardF_c.fI 1) (LheardF_c.fA 15) (LheardF_c.fO 1) (LheardF_c.fKV 1) :=
  (by intro hz8; exact hz8 : (have hz8 : heardF_S (LheardF_c.fWo 0) (LheardF_c.fMe 0) (LheardF_c.fM 0) (LheardF_c.fM 1) (LheardF_c.fN 0) (LheardF_c.fN 1) (LheardF_c.fGD 0) (LheardF_c.fSt 0) (LheardF_c.fSc 0) (LheardF_c.fA 0) (LheardF_c.fV 0) (LheardF_c.fCL 0) (LheardF_c.fEn 0) (LheardF_c.fAr 0) (LheardF_c.fH 0) (LheardF_c.fH 1) (LheardF_c.fA 1) (LheardF_c.fM 2) (LheardF_c.fSh 0) (LheardF_c.fQ 0) (LheardF_c.fQ 1) (LheardF_c.fAO 0) (LheardF_c.fA 2) (LheardF_c.fA 3) (LheardF_c.fA 4) (LheardF_c.fA 5) (LheardF_c.fA 6) (LheardF_c.fA 7) (LheardF_c.fA 8) (LheardF_c.fA 9) (LheardF_c.fA 10) (LheardF_c.fA 11) (LheardF_c.fU 0) (LheardF_c.fT 0) (LheardF_c.fT 1) (LheardF_c.fT 2) (LheardF_c.fI 0) (LheardF_c.fVL 0) (LheardF_c.fVL 1) (LheardF_c.fIL 0) (LheardF_c.fIL 1) (LheardF_c.fN 2) (LheardF_c.fN 3) (LheardF_c.fO 0) (LheardF_c.fA 12) (LheardF_c.fA 13) (LheardF_c.fA 14) (LheardF_c.fG 0) (LheardF_c.fT 3) (LheardF_c.fT 4) (LheardF_c.fT 5) (LheardF_c.fT 6) (LheardF_c.fT 7) (LheardF_c.fT 8) (LheardF_c.fT 9) (LheardF_c.fT 10) (LheardF_c.fKV 0) (LheardF_c.fKI 0) (LheardF_c.fT 11) (LheardF_c.fI 1) (LheardF_c.fA 15) (LheardF_c.fO 1) (LheardF_c.fKV 1) := (by
  refine (?layF0 : ∀ w mean mg mb dp un gd cn cs a ccd cl outer A₀ base h₀ L m s Q E rest W dW S dS nl cv sd G zn sc u t1 t2 tm ppem vs cvs ns cns k kc sto dG R dR gv r1 r2 r3 r4 r5 r6 q1 q2 kvs cst tc c op oo kvsO, heardF_S w mean mg mb dp un gd cn cs a ccd cl outer A₀ base h₀ L m s Q E rest W dW S dS nl cv sd G zn sc u t1 t2 tm ppem vs cvs ns cns k kc sto dG R dR gv r1 r2 r3 r4 r5 r6 q1 q2 kvs cst tc c op oo kvsO) (LheardF_c.fWo 0) (LheardF_c.fMe 0) (LheardF_c.fM 0) (LheardF_c.fM 1) (LheardF_c.fN 0) (LheardF_c.fN 1) (LheardF_c.fGD 0) (LheardF_c.fSt 0) (LheardF_c.fSc 0) (LheardF_c.fA 0) (LheardF_c.fV 0) (LheardF_c.fCL 0) (LheardF_c.fEn 0) (LheardF_c.fAr 0) (LheardF_c.fH 0) (LheardF_c.fH 1) (LheardF_c.fA 1) (LheardF_c.fM 2) (LheardF_c.fSh 0) (LheardF_c.fQ 0) (LheardF_c.fQ 1) (LheardF_c.fAO 0) (LheardF_c.fA 2) (LheardF_c.fA 3) (LheardF_c.fA 4) (LheardF_c.fA 5) (LheardF_c.fA 6) (LheardF_c.fA 7) (LheardF_c.fA 8) (LheardF_c.fA 9) (LheardF_c.fA 10) (LheardF_c.fA 11) (LheardF_c.fU 0) (LheardF_c.fT 0) (LheardF_c.fT 1) (LheardF_c.fT 2) (LheardF_c.fI 0) (LheardF_c.fVL 0) (LheardF_c.fVL 1) (LheardF_c.fIL 0) (LheardF_c.fIL 1) (LheardF_c.fN 2) (LheardF_c.fN 3) (LheardF_c.fO 0) (LheardF_c.fA 12) (LheardF_c.fA 13) (LheardF_c.fA 14) (LheardF_c.fG 0) (LheardF_c.fT 3) (LheardF_c.fT 4) (LheardF_c.fT 5) (LheardF_c.fT 6) (LheardF_c.fT 7) (LheardF_c.fT 8) (LheardF_c.fT 9) (LheardF_c.fT 10) (LheardF_c.fKV 0) (LheardF_c.fKI 0) (LheardF_c.fT 11) (LheardF_c.fI 1) (LheardF_c.fA 15) (LheardF_c.fO 1) (LheardF_c.fKV 1)
  intro w mean mg mb dp un gd cn cs a ccd cl outer A₀ base h₀ L m s Q E rest W dW S dS nl cv sd G zn sc u t1 t2 tm ppem vs cvs ns cns k kc sto dG R dR gv r1 r2 r3 r4 r5 r6 q1 q2 kvs cst tc c op oo kvsO B F X N T' hk hdp hun hm bok off hc hoo hval ap ap2 hpp hi hl hb hcn hcl lo9 hd9 hf9 hc9 htrue hfalse
  have sken := sken
  revert X; k_fill; intro X
  refine wpAny_call ?_
  k_dflt (refine' enterR ?k1q7 ?k2q7 ?k3q7 ?k4q7 ?k5q7 ?kAq7 ?kFq7 ?kKq7 ?k6q7 ?k7q7 ?k8q7 ?k9q7 ?kBq7 ?kMq7 ?_ ?c2q7 ?c3q7 ?c4q7 ?c5q7; (case kAq7 => exact rfl); (case kFq7 => exact rfl); (case kKq7 => assumption); (case kMq7 => exact hm); (case k1q7 => k_asm); (case k2q7 => k_asm); (case k3q7 => k_asm); (case k4q7 => k_asm); (case k5q7 => k_asm); (case k6q7 => k_is); (case k7q7 => k_is); (case k8q7 => ktr_room); (case k9q7 => exact BindsTo.of_eq rfl); (case c5q7 => decide); (case kBq7 => exact locs rfl); (case c2q7 => exact rfl); (case c3q7 => exact rfl); (case c4q7 => exact rfl); k_whole)
  k_extra "x_ske3"
  intro FG' M' F1 N1 B' X' T1 l1
  (try k_lt l1); (try dsimp only); (try k_lift B'); (try k_extra "x_fold")
  k_steps
  refine Stop.intro ?_
  k_dflt (refine' op_any ?k1q7 ?k2q7 ?k3q7 ?k4q7 ?k5q7 ?k6q7 ?k7q7 ?k8q7 off hc ap ap2 hpp hi hl hb hcn hcl lo9 hd9 hf9 hc9 ?hrq7 ?hxq7; (case k1q7 => k_asm); (case k2q7 => k_asm); (case k3q7 => k_asm); (case k4q7 => k_asm); (case k5q7 => k_asm); (case k6q7 => first | exact rfl | assumption); (case k7q7 => ktr_room); (case k8q7 => ktr_units))
  · intro nsx cnx csx h' tk' nl' vs' k' cvs' kc' sto' kvs' e' F' N' I1 I2 d' f' l'
    k_steps
    show Q (.bool true) _
    (have Z := leaveR FG' (by k_asm) (by k_asm))
    refine htrue _ _ _ _ _ _ _ _ _ _ _ _ e' Z.1 Z.2 I1 I2 d' f' l'
  · intro e h' tk' g₂ e' R' U' F'
    k_dflt (refine' caught_min (C := 51) R' U' F' B' M' bok.x bok.t ?exq7 ?qq7 ?kq7; (case exq7 => k_is); (case qq7 => kts_isx))
    intro h2 g2 t2 F2 N2 B2 X2 T2
    clear F' N1 F1 M' X'
    k_steps
    show Q (.bool false) _
    obtain ⟨g₀, z1, z2, z3, z4⟩ := leaveT B FG' t2 (by k_asm) (by k_asm)
    exact hfalse _ _ g₀ e' z1 z2 z3 z4); heardF_S (LheardF_c.fWo 0) (LheardF_c.fMe 0) (LheardF_c.fM 0) (LheardF_c.fM 1) (LheardF_c.fN 0) (LheardF_c.fN 1) (LheardF_c.fGD 0) (LheardF_c.fSt 0) (LheardF_c.fSc 0) (LheardF_c.fA 0) (LheardF_c.fV 0) (LheardF_c.fCL 0) (LheardF_c.fEn 0) (LheardF_c.fAr 0) (LheardF_c.fH 0) (LheardF_c.fH 1) (LheardF_c.fA 1) (LheardF_c.fM 2) (LheardF_c.fSh 0) (LheardF_c.fQ 0) (LheardF_c.fQ 1) (LheardF_c.fAO 0) (LheardF_c.fA 2) (LheardF_c.fA 3) (LheardF_c.fA 4) (LheardF_c.fA 5) (LheardF_c.fA 6) (LheardF_c.fA 7) (LheardF_c.fA 8) (LheardF_c.fA 9) (LheardF_c.fA 10) (LheardF_c.fA 11) (LheardF_c.fU 0) (LheardF_c.fT 0) (LheardF_c.fT 1) (LheardF_c.fT 2) (LheardF_c.fI 0) (LheardF_c.fVL 0) (LheardF_c.fVL 1) (LheardF_c.fIL 0) (LheardF_c.fIL 1) (LheardF_c.fN 2) (LheardF_c.fN 3) (LheardF_c.fO 0) (LheardF_c.fA 12) (LheardF_c.fA 13) (LheardF_c.fA 14) (LheardF_c.fG 0) (LheardF_c.fT 3) (LheardF_c.fT 4) (LheardF_c.fT 5) (LheardF_c.fT 6) (LheardF_c.fT 7) (LheardF_c.fT 8) (LheardF_c.fT 9) (LheardF_c.fT 10) (LheardF_c.fKV 0) (LheardF_c.fKI 0) (LheardF_c.fT 11) (LheardF_c.fI 1) (LheardF_c.fA 15) (LheardF_c.fO 1) (LheardF_c.fKV 1)))
theorem LheardF_all : ∀ p, LheardF_S p := sk (heardF_at)
noncomputable def LheardF_bag (w : World) (mean : ExcName → Option Value) (mg mb : Str → Option Value) (dp un : Nat) (gd : Option (List Code)) (cn : Str) (cs : Scope) (a : Addr) (ccd : Value) (cl : List (Str × Addr)) (outer : List Env) (A₀ : Around) (base h₀ : Heap) (L : Addr) (m : Str → Option Value) (s : Shared) (Q E : Value → Shared → Prop) (rest : List (Addr × Obj)) (W dW S dS nl cv sd G zn sc : Addr) (u : WTok) (t1 t2 tm : Tok) (ppem : Int) (vs cvs : List Value) (ns cns : List Int) (k kc : Nat) (sto : Obj) (dG R dR : Addr) (gv : GV) (r1 r2 r3 r4 r5 r6 q1 q2 : Tok) (kvs : List (Int × Value)) (cst : List (Int × Int)) (tc : Tok) (c : Int) (op : Addr) (oo : Obj) (kvsO : List (Int × Value)) : Bag := ⟨fun ix9 => [a, L, W, dW, S, dS, nl, cv, sd, G, zn, sc, dG, R, dR, op].getD ix9 (bag0.fA 0), fun ix9 => [t1, t2, tm, r1, r2, r3, r4, r5, r6, q1, q2, tc].getD ix9 (bag0.fT 0), fun ix9 => [ppem, c].getD ix9 (bag0.fI 0), fun ix9 => [dp, un, k, kc].getD ix9 (bag0.fN 0), fun ix9 => [ccd].getD ix9 (bag0.fV 0), fun ix9 => [sto, oo].getD ix9 (bag0.fO 0), fun ix9 => [vs, cvs].getD ix9 (bag0.fVL 0), fun ix9 => [ns, cns].getD ix9 (bag0.fIL 0), fun ix9 => [kvs, kvsO].getD ix9 (bag0.fKV 0), fun ix9 => [cst].getD ix9 (bag0.fKI 0), fun ix9 => [rest].getD ix9 (bag0.fAO 0), fun ix9 => [u].getD ix9 (bag0.fU 0), fun ix9 => [gv].getD ix9 (bag0.fG 0), fun ix9 => [].getD ix9 (bag0.fPr 0), fun ix9 => [].getD ix9 (bag0.fEv 0), fun ix9 => [].getD ix9 (bag0.fSs 0), fun ix9 => [].getD ix9 (bag0.fEx 0), fun ix9 => [].getD ix9 (bag0.fQF 0), fun ix9 => [].getD ix9 (bag0.fJ 0), fun ix9 => [w].getD ix9 (bag0.fWo 0), fun ix9 => [mean].getD ix9 (bag0.fMe 0), fun ix9 => [mg, mb, m].getD ix9 (bag0.fM 0), fun ix9 => [gd].getD ix9 (bag0.fGD 0), fun ix9 => [cn].getD ix9 (bag0.fSt 0), fun ix9 => [cs].getD ix9 (bag0.fSc 0), fun ix9 => [cl].getD ix9 (bag0.fCL 0), fun ix9 => [outer].getD ix9 (bag0.fEn 0), fun ix9 => [A₀].getD ix9 (bag0.fAr 0), fun ix9 => [base, h₀].getD ix9 (bag0.fH 0), fun ix9 => [s].getD ix9 (bag0.fSh 0), fun ix9 => [Q, E].getD ix9 (bag0.fQ 0)⟩
theorem heardF {w mean mg mb dp un gd cn cs a ccd cl outer A₀ base h₀ L m s Q E rest W dW S dS nl cv sd G zn sc u t1 t2 tm ppem vs cvs ns cns k kc sto dG R dR gv r1 r2 r3 r4 r5 r6 q1 q2 kvs cst tc c op oo kvsO} : heardF_S w mean mg mb dp un gd cn cs a ccd cl outer A₀ base h₀ L m s Q E rest W dW S dS nl cv sd G zn sc u t1 t2 tm ppem vs cvs ns cns k kc sto dG R dR gv r1 r2 r3 r4 r5 r6 q1 q2 kvs cst tc c op oo kvsO := LheardF_all (LheardF_bag w mean mg mb dp un gd cn cs a ccd cl outer A₀ base h₀ L m s Q E rest W dW S dS nl cv sd G zn sc u t1 t2 tm ppem vs cvs ns cns k kc sto dG R dR gv r1 r2 r3 r4 r5 r6 q1 q2 kvs cst tc c op oo kvsO)
end
theorem mt6 : True := by first | (walk1; done) | trivial
noncomputable def dlt (a base size : Int) : Int := if Int.fmod (Int.fdiv a 16) 16 + base + 9 = size then (if 0 ≤ Int.fmod a 16 - 8 then 8 * (Int.fmod a 16 - 8 + 1) else 8 * (Int.fmod a 16 - 8)) else 0
theorem pow8 : (2 : Int) ^ Int.toNat (6 - 3) = 8 := by decide
theorem dlt_no {a b p : Int} (h : p ≠ Int.fmod (Int.fdiv a 16) 16 + b + 9) : 0 = dlt a b p := by unfold dlt; rw [if_neg (fun e => h e.symm)]
theorem dlt_up {a b p : Int} (h : p = Int.fmod (Int.fdiv a 16) 16 + b + 9) (h2 : 0 ≤ Int.fmod a 16 - 8) : (Int.fmod a 16 - 8 + 1) * 2 ^ Int.toNat (6 - 3) = dlt a b p := by
  rw [pow8]; unfold dlt; rw [if_pos h.symm, if_pos h2, Int.mul_comm]
theorem dlt_dn {a b p : Int} (h : p = Int.fmod (Int.fdiv a 16) 16 + b + 9) (h2 : ¬ 0 ≤ Int.fmod a 16 - 8) : (Int.fmod a 16 - 8) * 2 ^ Int.toNat (6 - 3) = dlt a b p := by
  rw [pow8]; unfold dlt; rw [if_pos h.symm, if_neg h2, Int.mul_comm]
theorem dlt_no2 {a b p : Int} (h : Int.fmod (Int.fdiv a 16) 16 + b + 9 ≠ p) : 0 = dlt a b p := by unfold dlt; rw [if_neg h]
theorem dlt_up2 {a b p : Int} (h : Int.fmod (Int.fdiv a 16) 16 + b + 9 = p) (h2 : 0 ≤ Int.fmod a 16 - 8) : 8 * (Int.fmod a 16 - 8 + 1) = dlt a b p := by
  unfold dlt; rw [if_pos h, if_pos h2]
theorem dlt_dn2 {a b p : Int} (h : Int.fmod (Int.fdiv a 16) 16 + b + 9 = p) (h2 : ¬ 0 ≤ Int.fmod a 16 - 8) : 8 * (Int.fmod a 16 - 8) = dlt a b p := by
  unfold dlt; rw [if_pos h, if_neg h2]
theorem ints_set1 {vs : List Value} {ns : List Int} {i : Nat} {x : Int} {t : Tok} (h : IntsAre vs ns) : IntsAre (vs.set i (Value.int x t)) (ns.set i x) := PySem.W.ints_set h _
noncomputable def dput (cns : List Int) (p a base size : Int) : List Int := cns.set p.toNat (cns.getD p.toNat 0 + dlt a base size)
noncomputable def deltaofF_S (w : World) (mean : ExcName → Option Value) (mg mb : Str → Option Value) (dp un : Nat) (gd : Option (List Code)) (cn : Str) (cs : Scope) (a : Addr) (ccd : Value) (cl : List (Str × Addr)) (outer : List Env) (A₀ : Around) (base h₀ : Heap) (L : Addr) (m : Str → Option Value) (s : Shared) (Q E : Value → Shared → Prop) (rest : List (Addr × Obj)) (W dW G dG R S zn cv sd sc : Addr) (u : WTok) (gv : GV) (ppem a1 b1 : Int) (ta tb : Tok) : Prop := ∀ (B : Below A₀ base outer h₀) (F : Fr h₀ L s.heap m) (X : (lay.heap_1 w.params).In h₀) (N : News h₀ L s.heap ((W, instObj 476 dW) :: (dW, dictOf (WrkE w u G S zn cv sd sc ppem) 8) :: (G, instObj 369 dG) :: (dG, dictOf (GrE w gv R) 18) :: rest)) (T' : Top view (looseW view [Str.ofString "HintWork"]) mean mg mb h₀) (hk : cs.kind = .function) (hdp : dp + 3 < recursionLimit) (hun : un + 104 < cLine)  (ha : 0 ≤ a1)
   (ha2 : a1 < 1000)
   (hb : 0 ≤ b1)
   (hb2 : b1 ≤ 100)
   (hp : 0 ≤ ppem)
   (hp2 : ppem ≤ 100)
   (hret : ∀ h' tk' t', Fr h₀ L h' m → News h₀ L h' ((W, instObj 476 dW) :: (dW, dictOf (WrkE w u G S zn cv sd sc ppem) 8) :: (G, instObj 369 dG) :: (dG, dictOf (GrE w gv R) 18) :: rest) → Q (.int (dlt a1 b1 ppem) t') { s with heap := h', toks := tk' }),
  wpAny (model PySem.Challenge.rw_on0247_01.row.toRowW.prog w) (ktrTop dp un gd cn cs L a ccd cl outer) (call (.ref 296) [.ref W, .int a1 ta, .int b1 tb]) Q E s
noncomputable def LdeltaofF_S (p : Bag) : Prop := (deltaofF_S (p.fWo 0) (p.fMe 0) (p.fM 0) (p.fM 1) (p.fN 0) (p.fN 1) (p.fGD 0) (p.fSt 0) (p.fSc 0) (p.fA 0) (p.fV 0) (p.fCL 0) (p.fEn 0) (p.fAr 0) (p.fH 0) (p.fH 1) (p.fA 1) (p.fM 2) (p.fSh 0) (p.fQ 0) (p.fQ 1) (p.fAO 0) (p.fA 2) (p.fA 3) (p.fA 4) (p.fA 5) (p.fA 6) (p.fA 7) (p.fA 8) (p.fA 9) (p.fA 10) (p.fA 11) (p.fU 0) (p.fG 0) (p.fI 0) (p.fI 1) (p.fI 2) (p.fT 0) (p.fT 1))
noncomputable def LdeltaofF_c : Bag := skc LdeltaofF_S
theorem deltaofF_at : deltaofF_S (LdeltaofF_c.fWo 0) (LdeltaofF_c.fMe 0) (LdeltaofF_c.fM 0) (LdeltaofF_c.fM 1) (LdeltaofF_c.fN 0) (LdeltaofF_c.fN 1) (LdeltaofF_c.fGD 0) (LdeltaofF_c.fSt 0) (LdeltaofF_c.fSc 0) (LdeltaofF_c.fA 0) (LdeltaofF_c.fV 0) (LdeltaofF_c.fCL 0) (LdeltaofF_c.fEn 0) (LdeltaofF_c.fAr 0) (LdeltaofF_c.fH 0) (LdeltaofF_c.fH 1) (LdeltaofF_c.fA 1) (LdeltaofF_c.fM 2) (LdeltaofF_c.fSh 0) (LdeltaofF_c.fQ 0) (LdeltaofF_c.fQ 1) (LdeltaofF_c.fAO 0) (LdeltaofF_c.fA 2) (LdeltaofF_c.fA 3) (LdeltaofF_c.fA 4) (LdeltaofF_c.fA 5) (LdeltaofF_c.fA 6) (LdeltaofF_c.fA 7) (LdeltaofF_c.fA 8) (LdeltaofF_c.fA 9) (LdeltaofF_c.fA 10) (LdeltaofF_c.fA 11) (LdeltaofF_c.fU 0) (LdeltaofF_c.fG 0) (LdeltaofF_c.fI 0) (LdeltaofF_c.fI 1) (LdeltaofF_c.fI 2) (LdeltaofF_c.fT 0) (LdeltaofF_c.fT 1) :=
  (by intro hz8; exact hz8 : (have hz8 : deltaofF_S (LdeltaofF_c.fWo 0) (LdeltaofF_c.fMe 0) (LdeltaofF_c.fM 0) (LdeltaofF_c.fM 1) (LdeltaofF_c.fN 0) (LdeltaofF_c.fN 1) (LdeltaofF_c.fGD 0) (LdeltaofF_c.fSt 0) (LdeltaofF_c.fSc 0) (LdeltaofF_c.fA 0) (LdeltaofF_c.fV 0) (LdeltaofF_c.fCL 0) (LdeltaofF_c.fEn 0) (LdeltaofF_c.fAr 0) (LdeltaofF_c.fH 0) (LdeltaofF_c.fH 1) (LdeltaofF_c.fA 1) (LdeltaofF_c.fM 2) (LdeltaofF_c.fSh 0) (LdeltaofF_c.fQ 0) (LdeltaofF_c.fQ 1) (LdeltaofF_c.fAO 0) (LdeltaofF_c.fA 2) (LdeltaofF_c.fA 3) (LdeltaofF_c.fA 4) (LdeltaofF_c.fA 5) (LdeltaofF_c.fA 6) (LdeltaofF_c.fA 7) (LdeltaofF_c.fA 8) (LdeltaofF_c.fA 9) (LdeltaofF_c.fA 10) (LdeltaofF_c.fA 11) (LdeltaofF_c.fU 0) (LdeltaofF_c.fG 0) (LdeltaofF_c.fI 0) (LdeltaofF_c.fI 1) (LdeltaofF_c.fI 2) (LdeltaofF_c.fT 0) (LdeltaofF_c.fT 1) := (by
  refine (?layF0 : ∀ w mean mg mb dp un gd cn cs a ccd cl outer A₀ base h₀ L m s Q E rest W dW G dG R S zn cv sd sc u gv ppem a1 b1 ta tb, deltaofF_S w mean mg mb dp un gd cn cs a ccd cl outer A₀ base h₀ L m s Q E rest W dW G dG R S zn cv sd sc u gv ppem a1 b1 ta tb) (LdeltaofF_c.fWo 0) (LdeltaofF_c.fMe 0) (LdeltaofF_c.fM 0) (LdeltaofF_c.fM 1) (LdeltaofF_c.fN 0) (LdeltaofF_c.fN 1) (LdeltaofF_c.fGD 0) (LdeltaofF_c.fSt 0) (LdeltaofF_c.fSc 0) (LdeltaofF_c.fA 0) (LdeltaofF_c.fV 0) (LdeltaofF_c.fCL 0) (LdeltaofF_c.fEn 0) (LdeltaofF_c.fAr 0) (LdeltaofF_c.fH 0) (LdeltaofF_c.fH 1) (LdeltaofF_c.fA 1) (LdeltaofF_c.fM 2) (LdeltaofF_c.fSh 0) (LdeltaofF_c.fQ 0) (LdeltaofF_c.fQ 1) (LdeltaofF_c.fAO 0) (LdeltaofF_c.fA 2) (LdeltaofF_c.fA 3) (LdeltaofF_c.fA 4) (LdeltaofF_c.fA 5) (LdeltaofF_c.fA 6) (LdeltaofF_c.fA 7) (LdeltaofF_c.fA 8) (LdeltaofF_c.fA 9) (LdeltaofF_c.fA 10) (LdeltaofF_c.fA 11) (LdeltaofF_c.fU 0) (LdeltaofF_c.fG 0) (LdeltaofF_c.fI 0) (LdeltaofF_c.fI 1) (LdeltaofF_c.fI 2) (LdeltaofF_c.fT 0) (LdeltaofF_c.fT 1)
  intro w mean mg mb dp un gd cn cs a ccd cl outer A₀ base h₀ L m s Q E rest W dW G dG R S zn cv sd sc u gv ppem a1 b1 ta tb B F X N T' hk hdp hun ha ha2 hb hb2 hp hp2 hret
  have sken := sken
  have ne_0_1 : @Ne Nat W dW := ne_obj (N _ (.head _)).1 (N _ (.tail _ (.head _))).1 (by simp)
  have ne_0_2 : @Ne Nat W G := ne_obj (N _ (.head _)).1 (N _ (.tail _ (.tail _ (.head _)))).1 (by simp)
  have ne_0_3 : @Ne Nat W dG := ne_obj (N _ (.head _)).1 (N _ (.tail _ (.tail _ (.tail _ (.head _))))).1 (by simp)
  have ne_1_2 : @Ne Nat dW G := ne_obj (N _ (.tail _ (.head _))).1 (N _ (.tail _ (.tail _ (.head _)))).1 (by simp)
  have ne_2_3 : @Ne Nat G dG := ne_obj (N _ (.tail _ (.tail _ (.head _)))).1 (N _ (.tail _ (.tail _ (.tail _ (.head _))))).1 (by simp)
  revert X; k_fill; intro X
  refine wpAny_call ?_
  k_extra "x_enterF"
  k_steps
  all_goals ((first | refine ret_eq hret ?_ (by k_asm) (by k_asm) | refine ret_eq hret ?_ (by k_asm) (cb_drop (by assumption) (by kcj_all))); first | with_reducible exact dlt_no (by with_reducible assumption) | with_reducible exact dlt_up (by with_reducible assumption) (by with_reducible assumption) | with_reducible exact dlt_dn (by with_reducible assumption) (by with_reducible assumption))); deltaofF_S (LdeltaofF_c.fWo 0) (LdeltaofF_c.fMe 0) (LdeltaofF_c.fM 0) (LdeltaofF_c.fM 1) (LdeltaofF_c.fN 0) (LdeltaofF_c.fN 1) (LdeltaofF_c.fGD 0) (LdeltaofF_c.fSt 0) (LdeltaofF_c.fSc 0) (LdeltaofF_c.fA 0) (LdeltaofF_c.fV 0) (LdeltaofF_c.fCL 0) (LdeltaofF_c.fEn 0) (LdeltaofF_c.fAr 0) (LdeltaofF_c.fH 0) (LdeltaofF_c.fH 1) (LdeltaofF_c.fA 1) (LdeltaofF_c.fM 2) (LdeltaofF_c.fSh 0) (LdeltaofF_c.fQ 0) (LdeltaofF_c.fQ 1) (LdeltaofF_c.fAO 0) (LdeltaofF_c.fA 2) (LdeltaofF_c.fA 3) (LdeltaofF_c.fA 4) (LdeltaofF_c.fA 5) (LdeltaofF_c.fA 6) (LdeltaofF_c.fA 7) (LdeltaofF_c.fA 8) (LdeltaofF_c.fA 9) (LdeltaofF_c.fA 10) (LdeltaofF_c.fA 11) (LdeltaofF_c.fU 0) (LdeltaofF_c.fG 0) (LdeltaofF_c.fI 0) (LdeltaofF_c.fI 1) (LdeltaofF_c.fI 2) (LdeltaofF_c.fT 0) (LdeltaofF_c.fT 1)))
theorem LdeltaofF_all : ∀ p, LdeltaofF_S p := sk (deltaofF_at)
noncomputable def LdeltaofF_bag (w : World) (mean : ExcName → Option Value) (mg mb : Str → Option Value) (dp un : Nat) (gd : Option (List Code)) (cn : Str) (cs : Scope) (a : Addr) (ccd : Value) (cl : List (Str × Addr)) (outer : List Env) (A₀ : Around) (base h₀ : Heap) (L : Addr) (m : Str → Option Value) (s : Shared) (Q E : Value → Shared → Prop) (rest : List (Addr × Obj)) (W dW G dG R S zn cv sd sc : Addr) (u : WTok) (gv : GV) (ppem a1 b1 : Int) (ta tb : Tok) : Bag := ⟨fun ix9 => [a, L, W, dW, G, dG, R, S, zn, cv, sd, sc].getD ix9 (bag0.fA 0), fun ix9 => [ta, tb].getD ix9 (bag0.fT 0), fun ix9 => [ppem, a1, b1].getD ix9 (bag0.fI 0), fun ix9 => [dp, un].getD ix9 (bag0.fN 0), fun ix9 => [ccd].getD ix9 (bag0.fV 0), fun ix9 => [].getD ix9 (bag0.fO 0), fun ix9 => [].getD ix9 (bag0.fVL 0), fun ix9 => [].getD ix9 (bag0.fIL 0), fun ix9 => [].getD ix9 (bag0.fKV 0), fun ix9 => [].getD ix9 (bag0.fKI 0), fun ix9 => [rest].getD ix9 (bag0.fAO 0), fun ix9 => [u].getD ix9 (bag0.fU 0), fun ix9 => [gv].getD ix9 (bag0.fG 0), fun ix9 => [].getD ix9 (bag0.fPr 0), fun ix9 => [].getD ix9 (bag0.fEv 0), fun ix9 => [].getD ix9 (bag0.fSs 0), fun ix9 => [].getD ix9 (bag0.fEx 0), fun ix9 => [].getD ix9 (bag0.fQF 0), fun ix9 => [].getD ix9 (bag0.fJ 0), fun ix9 => [w].getD ix9 (bag0.fWo 0), fun ix9 => [mean].getD ix9 (bag0.fMe 0), fun ix9 => [mg, mb, m].getD ix9 (bag0.fM 0), fun ix9 => [gd].getD ix9 (bag0.fGD 0), fun ix9 => [cn].getD ix9 (bag0.fSt 0), fun ix9 => [cs].getD ix9 (bag0.fSc 0), fun ix9 => [cl].getD ix9 (bag0.fCL 0), fun ix9 => [outer].getD ix9 (bag0.fEn 0), fun ix9 => [A₀].getD ix9 (bag0.fAr 0), fun ix9 => [base, h₀].getD ix9 (bag0.fH 0), fun ix9 => [s].getD ix9 (bag0.fSh 0), fun ix9 => [Q, E].getD ix9 (bag0.fQ 0)⟩
theorem deltaofF {w mean mg mb dp un gd cn cs a ccd cl outer A₀ base h₀ L m s Q E rest W dW G dG R S zn cv sd sc u gv ppem a1 b1 ta tb} : deltaofF_S w mean mg mb dp un gd cn cs a ccd cl outer A₀ base h₀ L m s Q E rest W dW G dG R S zn cv sd sc u gv ppem a1 b1 ta tb := LdeltaofF_all (LdeltaofF_bag w mean mg mb dp un gd cn cs a ccd cl outer A₀ base h₀ L m s Q E rest W dW G dG R S zn cv sd sc u gv ppem a1 b1 ta tb)
theorem deltaof {w : World} {mean : ExcName → Option Value} {mg mb : Str → Option Value} {dp un : Nat} {gd : Option (List Code)} {cn : Str} {cs : Scope} {a : Addr} {ccd : Value} {cl : List (Str × Addr)} {outer : List Env} {A₀ : Around} {base h₀ : Heap} {L : Addr} {m : Str → Option Value} {s : Shared} {Q E : Value → Shared → Prop}
   {news  : List (Addr × Obj)} {W dW G dG R S zn cv sd sc : Addr} {u : WTok} {gv : GV} {ppem : Int} {a1 b1 : Int} {ta tb : Tok}
   (B : Below A₀ base outer h₀) (F : Fr h₀ L s.heap m) (X : (lay.heap_1 w.params).In h₀) (N : News h₀ L s.heap news) (T' : Top view (looseW view [Str.ofString "HintWork"]) mean mg mb h₀) (hk : cs.kind = .function) (hdp : dp + 3 < recursionLimit) (hun : un + 104 < cLine)
   (m0 : (W, instObj 476 dW) ∈ news) (m1 : (dW, dictOf (WrkE w u G S zn cv sd sc ppem) 8) ∈ news) (m2 : (G, instObj 369 dG) ∈ news) (m3 : (dG, dictOf (GrE w gv R) 18) ∈ news)
   (ha : 0 ≤ a1)
   (ha2 : a1 < 1000)
   (hb : 0 ≤ b1)
   (hb2 : b1 ≤ 100)
   (hp : 0 ≤ ppem)
   (hp2 : ppem ≤ 100)
   (hret : ∀ h' tk' t', Fr h₀ L h' m → News h₀ L h' news → Q (.int (dlt a1 b1 ppem) t') { s with heap := h', toks := tk' }) :
   wpAny (model PySem.Challenge.rw_on0247_01.row.toRowW.prog w) (ktrTop dp un gd cn cs L a ccd cl outer) (call (.ref 296) [.ref W, .int a1 ta, .int b1 tb]) Q E s := by
  exact deltaofF (rest := news) (W := W) (dW := dW) (G := G) (dG := dG) (R := R) (S := S) (zn := zn) (cv := cv) (sd := sd) (sc := sc) (u := u) (gv := gv) (ppem := ppem) (a1 := a1) (b1 := b1) (ta := ta) (tb := tb) B F (fun p hp => by exact X p hp) (cb_drop N (sub_cons m0 (sub_cons m1 (sub_cons m2 (sub_cons m3 (fun _ h => h)))))) T' hk hdp hun (by exact ha) (by exact ha2) (by exact hb) (by exact hb2) (by exact hp) (by exact hp2) (fun h9 tk9 t9 F9 N9 => hret h9 tk9 t9 F9 (fun p hp => N9 p (.tail _ (.tail _ (.tail _ (.tail _ (hp)))))))
theorem ldeltaF {w : World} {mean : ExcName → Option Value} {mg mb : Str → Option Value} {dp un : Nat} {gd : Option (List Code)} {cn : Str} {cs : Scope} {a : Addr} {ccd : Value} {cl : List (Str × Addr)} {outer : List Env} {A₀ : Around} {base h₀ : Heap} {L : Addr} {m : Str → Option Value} {s : Shared} {Q E : Value → Shared → Prop}
   {rest : List (Addr × Obj)} {a1 b1 c1 : Int} {ta tb tc : Tok}
   (B : Below A₀ base outer h₀) (F : Fr h₀ L s.heap m) (X : (lay.heap_1 w.params).In h₀) (N : News h₀ L s.heap (rest)) (T' : Top view (looseW view [Str.ofString "HintWork"]) mean mg mb h₀) (hk : cs.kind = .function) (hdp : dp + 3 < recursionLimit) (hun : un + 104 < cLine) 
   (ha : 0 ≤ a1) (ha2 : a1 < 1000) (hb : 0 ≤ b1) (hb2 : b1 ≤ 100) (hp : 0 ≤ c1) (hp2 : c1 ≤ 100) (hret : ∀ h' tk' t', Fr h₀ L h' m → News h₀ L h' rest → Q (.int (dlt a1 b1 c1) t') { s with heap := h', toks := tk' }) :
   wpAny (model PySem.Challenge.rw_on0247_01.row.toRowW.prog w) (ktrTop dp un gd cn cs L a ccd cl outer) (call (.ref 515) [.int a1 ta, .int b1 tb, .int c1 tc]) Q E s :=
  (by intro hz8; exact hz8 : (have hz8 : wpAny (model PySem.Challenge.rw_on0247_01.row.toRowW.prog w) (ktrTop dp un gd cn cs L a ccd cl outer) (call (.ref 515) [.int a1 ta, .int b1 tb, .int c1 tc]) Q E s := (by
  revert X; k_fill; intro X
  refine wpAny_call ?_
  k_extra "x_enterF"
  k_steps
  all_goals ((first | refine ret_eq hret ?_ (by k_asm) (by k_asm) | refine ret_eq hret ?_ (by k_asm) (cb_drop (by assumption) (by kcj_all))); first | with_reducible exact dlt_no2 (by with_reducible assumption) | with_reducible exact dlt_up2 (by with_reducible assumption) (by with_reducible assumption) | with_reducible exact dlt_dn2 (by with_reducible assumption) (by with_reducible assumption))); wpAny (model PySem.Challenge.rw_on0247_01.row.toRowW.prog w) (ktrTop dp un gd cn cs L a ccd cl outer) (call (.ref 515) [.int a1 ta, .int b1 tb, .int c1 tc]) Q E s))
theorem reg21 : True := by
  (k_with "m_len" => first | (first | omega | (simp only [List.length_append, List.length_cons, List.length_nil, List.length_set]; omega)) | fail "no")
  (k_with "m_ints" => first | (first | with_reducible assumption | with_reducible exact IntsAre.nil | ((with_reducible apply ints_set1); (focus (k_extra "m_ints"))) | ((with_reducible apply ints_app); (focus (k_extra "m_ints")); (focus (first | with_reducible exact IntsAre.cons _ _ IntsAre.nil | (apply ints_one; (focus (k_extra "m_val"))))))) | fail "no")
  (k_with "call ref" => first | ((k_here; (with_reducible show wpAny _ _ (call (Value.ref 296) _) _ _ _); k_dflt (apply deltaof; (focus (k_asm)); (focus (k_asm)); (focus (k_asm)); (focus (k_asm)); (focus (k_asm)); (focus (first | exact rfl | assumption)); (focus (ktr_room)); (focus (ktr_units)); (focus (k_mem)); (focus (k_mem)); (focus (k_mem)); (focus (k_mem)); (focus (k_extra "m_len")); (focus (k_extra "m_len")); (focus (k_extra "m_len")); (focus (k_extra "m_len")); (focus (k_extra "m_len")); (focus (k_extra "m_len")); k_whole); (k_extra "x_in3"; intro F'z9 N'z9); (try dsimp only); (try k_extra "x_fold"))) | fail "no")
  (k_with "call ref" => first | ((k_here; (with_reducible show wpAny _ _ (call (Value.ref 515) _) _ _ _); k_dflt (apply ldeltaF; (focus (k_asm)); (focus (k_asm)); (focus (k_asm)); (focus (k_asm)); (focus (k_asm)); (focus (first | exact rfl | assumption)); (focus (ktr_room)); (focus (ktr_units)); (focus (k_extra "m_len")); (focus (k_extra "m_len")); (focus (k_extra "m_len")); (focus (k_extra "m_len")); (focus (k_extra "m_len")); (focus (k_extra "m_len")); k_whole); (k_extra "x_in3"; intro F'z9 N'z9); (try dsimp only); (try k_extra "x_fold"))) | fail "no")
  trivial
section
noncomputable def flatR : List (Int × Int) → List Int
  | [] => []
  | (p, a) :: r => flatR r ++ [a] ++ [p]
noncomputable def dputs (cns : List Int) (ps : List (Int × Int)) (base size : Int) : List Int := ps.foldl (fun c q => dput c q.1 q.2 base size) cns
theorem dput_len {cns : List Int} {p a b s : Int} : (dput cns p a b s).length = cns.length := by unfold dput; rw [List.length_set]
theorem dputs_len {ps : List (Int × Int)} {cns : List Int} {b s : Int} : (dputs cns ps b s).length = cns.length := by
  induction ps generalizing cns with
  | nil => rfl
  | cons q r ih => exact (ih (cns := dput cns q.1 q.2 b s)).trans dput_len
theorem dputs_snoc {ps : List (Int × Int)} {cns : List Int} {b s : Int} {i : Nat} {q : Int × Int} (h : ps[i]? = some q) : dputs cns (ps.take (i + 1)) b s = dput (dputs cns (ps.take i) b s) q.1 q.2 b s := by
  unfold dputs; rw [List.take_add_one, h]; simp
theorem flatR_drop {ps : List (Int × Int)} {i : Nat} {q : Int × Int} (h : ps[i]? = some q) : flatR (ps.drop i) = flatR (ps.drop (i + 1)) ++ [q.2] ++ [q.1] := by
  obtain ⟨hi, e⟩ := List.getElem?_eq_some_iff.mp h
  rw [List.drop_eq_getElem_cons hi, e]; rfl
theorem dc_turn {us : List Value} {ns : List Int} {ps : List (Int × Int)} {i : Nat} (hi : i < ps.length) (hu : IntsAre us (ns ++ flatR (ps.drop i))) : ∃ us' p a tp ta, ps[i]? = some (p, a) ∧ us = us' ++ [Value.int a ta] ++ [Value.int p tp] ∧ IntsAre us' (ns ++ flatR (ps.drop (i + 1))) := by
  obtain ⟨⟨p, a⟩, hq⟩ : ∃ q, ps[i]? = some q := ⟨ps[i], List.getElem?_eq_getElem hi⟩
  rw [flatR_drop hq, ← List.append_assoc, ← List.append_assoc] at hu
  obtain ⟨u1, tp, rfl, h1⟩ := ints_snoc hu
  obtain ⟨u2, ta, rfl, h2⟩ := ints_snoc h1
  exact ⟨u2, p, a, tp, ta, hq, rfl, h2⟩
theorem flatR_len {ps : List (Int × Int)} : (flatR ps).length = 2 * ps.length := by
  induction ps with
  | nil => rfl
  | cons q r ih => simp only [flatR, List.length_append, List.length_cons, List.length_nil, ih]; omega
theorem tfr {g h : Heap} {L : Addr} {x y1 y2 : Str} {m₀ : Str → Option Value} {q a1 a2 b1 b2 : Option Value} (d1 : x ≠ y1) (d2 : x ≠ y2) (d3 : y1 ≠ y2)
    (F : Fr g L h (fun z => if z = y1 then a1 else if z = y2 then a2 else if z = x then q else if z = y1 then b1 else if z = y2 then b2 else m₀ z)) : Fr g L h (fun z => if z = x then q else if z = y1 then a1 else if z = y2 then a2 else m₀ z) := by
  have e : (fun z => if z = y1 then a1 else if z = y2 then a2 else if z = x then q else if z = y1 then b1 else if z = y2 then b2 else m₀ z) = fun z => if z = x then q else if z = y1 then a1 else if z = y2 then a2 else m₀ z := by
    funext z
    by_cases h1 : z = x
    · subst h1; simp [d1, d2]
    · by_cases h2 : z = y1
      · subst h2; simp [h1, d3]
      · by_cases h3 : z = y2
        · subst h3; simp [h1, h2]
        · simp [h1, h2, h3]
  rw [e] at F; exact F
theorem off_same {nx nx' : List (Addr × Obj)} {I : Addr} (h : ∀ p ∈ nx, p.1 ≠ I) (e : nx'.map (fun p => p.1) = nx.map (fun p => p.1)) : ∀ p ∈ nx', p.1 ≠ I := fun p hp => by
  have : p.1 ∈ nx'.map (fun p => p.1) := List.mem_map.mpr ⟨p, hp, rfl⟩
  rw [e] at this
  obtain ⟨q, hq, e2⟩ := List.mem_map.mp this
  rw [← e2]; exact h q hq
theorem off_one {rest : List (Addr × Obj)} {a b c d I : Addr} {o : Obj} (h : OwnOff rest [a, b, c, d]) (n : a ≠ I ∧ b ≠ I ∧ c ≠ I ∧ d ≠ I) : OwnOff (rest ++ [(I, o)]) [a, b, c, d] := fun p hp x hx => by
  rcases List.mem_append.mp hp with hp | hp
  · exact h p hp x hx
  · rw [List.mem_singleton.mp hp]
    obtain ⟨n1, n2, n3, n4⟩ := n
    simp only [List.mem_cons, List.not_mem_nil, or_false] at hx
    rcases hx with rfl | rfl | rfl | rfl <;> exact Ne.symm (by assumption)
noncomputable def PairOK (ps : List (Int × Int)) : Prop := ∀ q ∈ ps, 0 ≤ q.1 ∧ q.1 < 3 ∧ 0 ≤ q.2 ∧ q.2 < 1000
theorem PairOK.at {ps : List (Int × Int)} {i : Nat} {p a : Int} (h : PairOK ps) (e : ps[i]? = some (p, a)) : 0 ≤ p ∧ p < 3 ∧ 0 ≤ a ∧ a < 1000 := h _ (List.mem_of_getElem? e)
theorem dc_len {ns : List Int} {ps : List (Int × Int)} {i : Nat} (h1 : (ns.length : Int) < 20) (h2 : ps.length ≤ 3) : (((ns ++ flatR (ps.drop i)).length : Nat) : Int) < 40 := by
  rw [List.length_append, flatR_len, List.length_drop]; omega
section
variable {prog : Program} {w : World} {A : Around} {E : Value → Shared → Prop} {s : Shared} {env : Env} {h₀ : Heap} {x : Str} {body : List Stmt} {Q : Flow → Shared → Prop}
noncomputable def TurnFin (h₀ : Heap) (L : Addr) (x y1 y2 : Str) (m₀ : Str → Option Value) (I : Addr) (iob : Obj) (J : List (Addr × Obj) → Prop) (s₁ s₂ : Shared) : Prop :=
  ∃ h' tk q v1 v2 nx, s₂ = { s₁ with heap := h', toks := tk } ∧ Fr h₀ L h' (fun z => if z = x then q else if z = y1 then v1 else if z = y2 then v2 else m₀ z) ∧ News h₀ L h' (nx ++ [(I, iob)]) ∧ (∀ p ∈ nx, p.1 ≠ I) ∧ J nx
noncomputable def TurnEnd (h₀ : Heap) (L : Addr) (x y1 y2 : Str) (m₀ : Str → Option Value) (I : Addr) (iob : Obj) (J : List (Addr × Obj) → Prop) (s₁ : Shared) (Q : Flow → Shared → Prop) (f : Flow) (s₂ : Shared) : Prop :=
  match f with
  | .ret v => Q (.ret v) s₂
  | .brk => False
  | _ => TurnFin h₀ L x y1 y2 m₀ I iob J s₁ s₂
theorem TurnFin.mk {L : Addr} {y1 y2 : Str} {m₀ : Str → Option Value} {I : Addr} {iob : Obj} {J : List (Addr × Obj) → Prop} {s₁ : Shared} {h' : Heap} {tk : Nat} {q v1 v2 : Option Value} (nx : List (Addr × Obj))
    (F : Fr h₀ L h' (fun z => if z = x then q else if z = y1 then v1 else if z = y2 then v2 else m₀ z)) (N : News h₀ L h' (nx ++ [(I, iob)])) (off : ∀ p ∈ nx, p.1 ≠ I) (j : J nx) : TurnFin h₀ L x y1 y2 m₀ I iob J s₁ { s₁ with heap := h', toks := tk } :=
  ⟨h', tk, q, v1, v2, nx, rfl, F, N, off, j⟩
theorem range_turns {r : Addr} {b₀ : Int} {t₀ u₀ v₀ : Tok} {n : Nat} {m₀ : Str → Option Value} {news : List (Addr × Obj)} (y1 y2 : Str) (J : Nat → List (Addr × Obj) → Prop)
    (hh : A.handled = none) (hr : IsRange s.heap r 0 b₀ 1 t₀ u₀ v₀) (hsmall : Builtin.Range.small 0 b₀ 1 = true) (hn : Builtin.Range.rangeSize 0 b₀ 1 = (n : Int)) (F : Fr h₀ env.locals s.heap m₀) (N : News h₀ env.locals s.heap news) (hj : J 0 news)
    (turn : ∀ i t v1 v2 nx h tk I iob, i < n → J i nx → (∀ p ∈ nx, p.1 ≠ I) → Fr h₀ env.locals h (fun z => if z = x then some (.int (0 + (i : Int) * 1) t) else if z = y1 then v1 else if z = y2 then v2 else m₀ z) → News h₀ env.locals h (nx ++ [(I, iob)]) →
      wpAny (model prog w) A (execs body env) (TurnEnd h₀ env.locals x y1 y2 m₀ I iob (J (i + 1)) { s with heap := h, toks := tk } Q) E { s with heap := h, toks := tk })
    (done : ∀ q v1 v2 nx h tk, J n nx → Fr h₀ env.locals h (fun z => if z = x then q else if z = y1 then v1 else if z = y2 then v2 else m₀ z) → News h₀ env.locals h nx → Q .next { s with heap := h, toks := tk }) :
    wpAny (model prog w) A (pyIter (.ref r)) (fun it s₂ => LoopAtV prog w A h₀ env x body Q E it s₂) E s := by
  refine rng_turns y1 y2 J hh hr hsmall hn F N hj (fun i t v1 v2 nx h tk I iob hi hJ hoff F9 N9 => ?_) done
  have conv : ∀ s₃, TurnFin h₀ env.locals x y1 y2 m₀ I iob (J (i + 1)) { s with heap := h, toks := tk } s₃ → LFin h₀ env.locals x y1 y2 m₀ I iob (J (i + 1)) { s with heap := h, toks := tk } s₃ := fun s₃ p => by
    obtain ⟨h', tk', q, w1, w2, nx', e, F', N', off, j⟩ := p
    exact ⟨h', tk', _, nx', e, F', fun z a b c => (if_neg a).trans ((if_neg b).trans (if_neg c)), fun p hp => N' p ((List.mem_cons.mp hp).elim (fun k => List.mem_append_right _ (k ▸ .head _)) (fun k => List.mem_append_left _ k)), off, j⟩
  refine wpAny_mono (turn i t v1 v2 nx h tk I iob hi hJ hoff F9 (fun p hp => N9 p ((List.mem_append.mp hp).elim (fun k => .tail _ k) (fun k => List.mem_singleton.mp k ▸ .head _)))) (fun f s₃ p => ?_) fun _ _ e => e
  cases f with
  | ret v => exact p
  | brk => exact p
  | next => exact conv _ p
  | cont => exact conv _ p
end
local macro_rules | `(tactic| walk_at $s:str) => `(tactic| k_extra $(Lean.Syntax.mkStrLit (s.getString ++ " #P21")))
theorem reg22 : True := by
  (k_with "InvEndN #P21" => first | ((refine Stop.out ?_)) | fail "no")
  (k_with "pyIter ref #P21" => first | ((k_here; (with_reducible show wpAny _ _ (pyIter (Value.ref _)) (fun it s₂ => LoopAtV _ _ _ _ _ _ _ _ _ it s₂) _ _); refine Stop.out ?_)) | fail "no")
  trivial
noncomputable def deltac_S (w : World) (mean : ExcName → Option Value) (mg mb : Str → Option Value) (dp un : Nat) (gd : Option (List Code)) (cn : Str) (cs : Scope) (a : Addr) (ccd : Value) (cl : List (Str × Addr)) (outer : List Env) (A₀ : Around) (base h₀ : Heap) (L : Addr) (m : Str → Option Value) (s : Shared) (Q E : Value → Shared → Prop) (rest : List (Addr × Obj)) (W dW S dS nl cv sd G zn sc : Addr) (u : WTok) (t1 t2 tm : Tok) (ppem : Int) (vs cvs : List Value) (ns cns : List Int) (k kc : Nat) (sto : Obj) (dG R dR : Addr) (gv : GV) (r1 r2 r3 r4 r5 r6 q1 q2 : Tok) (c z : Int) (tc tz : Tok) (ps : List (Int × Int)) : Prop := ∀ (B : Below A₀ base outer h₀) (F : Fr h₀ L s.heap m) (X : (lay.heap_1 w.params).In h₀) (N : News h₀ L s.heap ((W, instObj 476 dW) :: (dW, dictOf (WrkE w u G S zn cv sd sc ppem) 8) :: (S, instObj 425 dS) :: (dS, dictOf (StkE w t1 t2 tm nl) 2) :: (nl, listOf (vs ++ [Value.int z tz]).toArray k) :: (cv, listOf cvs.toArray kc) :: (sd, sto) :: (G, instObj 369 dG) :: (dG, dictOf (GrE w gv R) 18) :: (R, instObj 112 dR) :: (dR, dictOf (RndE w r1 r2 r3 r4 r5 r6) 3) :: (sc, tupObj [Value.int 3 q1, Value.int 2 q2]) :: rest)) (T' : Top view (looseW view [Str.ofString "HintWork"]) mean mg mb h₀) (hk : cs.kind = .function) (hdp : dp + 5 < recursionLimit) (hun : un + 120 < cLine) (off : OwnOff rest [nl, dS, cv, sd]) (ap : Apart W dW S dS nl cv sd) (ap2 : Apart2 nl cv sd dS G dG R dR sc) (hps : PairOK ps) (hpl : ps.length ≤ 3) (hz : z = ps.length) (hi : IntsAre vs (ns ++ flatR ps)) (hlen : (ns.length : Int) < 20) (hc : c = 115 ∨ c = 116 ∨ c = 117) (hcn : IntsAre cvs cns) (hcl : cns.length = 3) (hp : 0 ≤ ppem) (hp2 : ppem ≤ 100)
   (hret : ∀ h' tk' vs' k' cvs' kc', Fr h₀ L h' m → News h₀ L h' ((W, instObj 476 dW) :: (dW, dictOf (WrkE w u G S zn cv sd sc ppem) 8) :: (S, instObj 425 dS) :: (dS, dictOf (StkE w t1 t2 tm nl) 2) :: (nl, listOf vs'.toArray k') :: (cv, listOf cvs'.toArray kc') :: (sd, sto) :: (G, instObj 369 dG) :: (dG, dictOf (GrE w gv R) 18) :: (R, instObj 112 dR) :: (dR, dictOf (RndE w r1 r2 r3 r4 r5 r6) 3) :: (sc, tupObj [Value.int 3 q1, Value.int 2 q2]) :: rest) → IntsAre vs' ns → IntsAre cvs' (dputs cns ps (16 * (c - 115)) ppem) → Q .none { s with heap := h', toks := tk' }),
  wpAny (model PySem.Challenge.rw_on0247_01.row.toRowW.prog w) (ktrTop dp un gd cn cs L a ccd cl outer) (call (.ref 303) [.ref W, .int c tc]) Q E s
noncomputable def Ldeltac_S (p : Bag) : Prop := (deltac_S (p.fWo 0) (p.fMe 0) (p.fM 0) (p.fM 1) (p.fN 0) (p.fN 1) (p.fGD 0) (p.fSt 0) (p.fSc 0) (p.fA 0) (p.fV 0) (p.fCL 0) (p.fEn 0) (p.fAr 0) (p.fH 0) (p.fH 1) (p.fA 1) (p.fM 2) (p.fSh 0) (p.fQ 0) (p.fQ 1) (p.fAO 0) (p.fA 2) (p.fA 3) (p.fA 4) (p.fA 5) (p.fA 6) (p.fA 7) (p.fA 8) (p.fA 9) (p.fA 10) (p.fA 11) (p.fU 0) (p.fT 0) (p.fT 1) (p.fT 2) (p.fI 0) (p.fVL 0) (p.fVL 1) (p.fIL 0) (p.fIL 1) (p.fN 2) (p.fN 3) (p.fO 0) (p.fA 12) (p.fA 13) (p.fA 14) (p.fG 0) (p.fT 3) (p.fT 4) (p.fT 5) (p.fT 6) (p.fT 7) (p.fT 8) (p.fT 9) (p.fT 10) (p.fI 1) (p.fI 2) (p.fT 11) (p.fT 12) (p.fKI 0))
noncomputable def Ldeltac_c : Bag := skc Ldeltac_S
theorem deltac_at : deltac_S (Ldeltac_c.fWo 0) (Ldeltac_c.fMe 0) (Ldeltac_c.fM 0) (Ldeltac_c.fM 1) (Ldeltac_c.fN 0) (Ldeltac_c.fN 1) (Ldeltac_c.fGD 0) (Ldeltac_c.fSt 0) (Ldeltac_c.fSc 0) (Ldeltac_c.fA 0) (Ldeltac_c.fV 0) (Ldeltac_c.fCL 0) (Ldeltac_c.fEn 0) (Ldeltac_c.fAr 0) (Ldeltac_c.fH 0) (Ldeltac_c.fH 1) (Ldeltac_c.fA 1) (Ldeltac_c.fM 2) (Ldeltac_c.fSh 0) (Ldeltac_c.fQ 0) (Ldeltac_c.fQ 1) (Ldeltac_c.fAO 0) (Ldeltac_c.fA 2) (Ldeltac_c.fA 3) (Ldeltac_c.fA 4) (Ldeltac_c.fA 5) (Ldeltac_c.fA 6) (Ldeltac_c.fA 7) (Ldeltac_c.fA 8) (Ldeltac_c.fA 9) (Ldeltac_c.fA 10) (Ldeltac_c.fA 11) (Ldeltac_c.fU 0) (Ldeltac_c.fT 0) (Ldeltac_c.fT 1) (Ldeltac_c.fT 2) (Ldeltac_c.fI 0) (Ldeltac_c.fVL 0) (Ldeltac_c.fVL 1) (Ldeltac_c.fIL 0) (Ldeltac_c.fIL 1) (Ldeltac_c.fN 2) (Ldeltac_c.fN 3) (Ldeltac_c.fO 0) (Ldeltac_c.fA 12) (Ldeltac_c.fA 13) (Ldeltac_c.fA 14) (Ldeltac_c.fG 0) (Ldeltac_c.fT 3) (Ldeltac_c.fT 4) (Ldeltac_c.fT 5) (Ldeltac_c.fT 6) (Ldeltac_c.fT 7) (Ldeltac_c.fT 8) (Ldeltac_c.fT 9) (Ldeltac_c.fT 10) (Ldeltac_c.fI 1) (Ldeltac_c.fI 2) (Ldeltac_c.fT 11) (Ldeltac_c.fT 12) (Ldeltac_c.fKI 0) :=
  (by intro hz8; exact hz8 : (have hz8 : deltac_S (Ldeltac_c.fWo 0) (Ldeltac_c.fMe 0) (Ldeltac_c.fM 0) (Ldeltac_c.fM 1) (Ldeltac_c.fN 0) (Ldeltac_c.fN 1) (Ldeltac_c.fGD 0) (Ldeltac_c.fSt 0) (Ldeltac_c.fSc 0) (Ldeltac_c.fA 0) (Ldeltac_c.fV 0) (Ldeltac_c.fCL 0) (Ldeltac_c.fEn 0) (Ldeltac_c.fAr 0) (Ldeltac_c.fH 0) (Ldeltac_c.fH 1) (Ldeltac_c.fA 1) (Ldeltac_c.fM 2) (Ldeltac_c.fSh 0) (Ldeltac_c.fQ 0) (Ldeltac_c.fQ 1) (Ldeltac_c.fAO 0) (Ldeltac_c.fA 2) (Ldeltac_c.fA 3) (Ldeltac_c.fA 4) (Ldeltac_c.fA 5) (Ldeltac_c.fA 6) (Ldeltac_c.fA 7) (Ldeltac_c.fA 8) (Ldeltac_c.fA 9) (Ldeltac_c.fA 10) (Ldeltac_c.fA 11) (Ldeltac_c.fU 0) (Ldeltac_c.fT 0) (Ldeltac_c.fT 1) (Ldeltac_c.fT 2) (Ldeltac_c.fI 0) (Ldeltac_c.fVL 0) (Ldeltac_c.fVL 1) (Ldeltac_c.fIL 0) (Ldeltac_c.fIL 1) (Ldeltac_c.fN 2) (Ldeltac_c.fN 3) (Ldeltac_c.fO 0) (Ldeltac_c.fA 12) (Ldeltac_c.fA 13) (Ldeltac_c.fA 14) (Ldeltac_c.fG 0) (Ldeltac_c.fT 3) (Ldeltac_c.fT 4) (Ldeltac_c.fT 5) (Ldeltac_c.fT 6) (Ldeltac_c.fT 7) (Ldeltac_c.fT 8) (Ldeltac_c.fT 9) (Ldeltac_c.fT 10) (Ldeltac_c.fI 1) (Ldeltac_c.fI 2) (Ldeltac_c.fT 11) (Ldeltac_c.fT 12) (Ldeltac_c.fKI 0) := (by
  refine (?layF0 : ∀ w mean mg mb dp un gd cn cs a ccd cl outer A₀ base h₀ L m s Q E rest W dW S dS nl cv sd G zn sc u t1 t2 tm ppem vs cvs ns cns k kc sto dG R dR gv r1 r2 r3 r4 r5 r6 q1 q2 c z tc tz ps, deltac_S w mean mg mb dp un gd cn cs a ccd cl outer A₀ base h₀ L m s Q E rest W dW S dS nl cv sd G zn sc u t1 t2 tm ppem vs cvs ns cns k kc sto dG R dR gv r1 r2 r3 r4 r5 r6 q1 q2 c z tc tz ps) (Ldeltac_c.fWo 0) (Ldeltac_c.fMe 0) (Ldeltac_c.fM 0) (Ldeltac_c.fM 1) (Ldeltac_c.fN 0) (Ldeltac_c.fN 1) (Ldeltac_c.fGD 0) (Ldeltac_c.fSt 0) (Ldeltac_c.fSc 0) (Ldeltac_c.fA 0) (Ldeltac_c.fV 0) (Ldeltac_c.fCL 0) (Ldeltac_c.fEn 0) (Ldeltac_c.fAr 0) (Ldeltac_c.fH 0) (Ldeltac_c.fH 1) (Ldeltac_c.fA 1) (Ldeltac_c.fM 2) (Ldeltac_c.fSh 0) (Ldeltac_c.fQ 0) (Ldeltac_c.fQ 1) (Ldeltac_c.fAO 0) (Ldeltac_c.fA 2) (Ldeltac_c.fA 3) (Ldeltac_c.fA 4) (Ldeltac_c.fA 5) (Ldeltac_c.fA 6) (Ldeltac_c.fA 7) (Ldeltac_c.fA 8) (Ldeltac_c.fA 9) (Ldeltac_c.fA 10) (Ldeltac_c.fA 11) (Ldeltac_c.fU 0) (Ldeltac_c.fT 0) (Ldeltac_c.fT 1) (Ldeltac_c.fT 2) (Ldeltac_c.fI 0) (Ldeltac_c.fVL 0) (Ldeltac_c.fVL 1) (Ldeltac_c.fIL 0) (Ldeltac_c.fIL 1) (Ldeltac_c.fN 2) (Ldeltac_c.fN 3) (Ldeltac_c.fO 0) (Ldeltac_c.fA 12) (Ldeltac_c.fA 13) (Ldeltac_c.fA 14) (Ldeltac_c.fG 0) (Ldeltac_c.fT 3) (Ldeltac_c.fT 4) (Ldeltac_c.fT 5) (Ldeltac_c.fT 6) (Ldeltac_c.fT 7) (Ldeltac_c.fT 8) (Ldeltac_c.fT 9) (Ldeltac_c.fT 10) (Ldeltac_c.fI 1) (Ldeltac_c.fI 2) (Ldeltac_c.fT 11) (Ldeltac_c.fT 12) (Ldeltac_c.fKI 0)
  intro w mean mg mb dp un gd cn cs a ccd cl outer A₀ base h₀ L m s Q E rest W dW S dS nl cv sd G zn sc u t1 t2 tm ppem vs cvs ns cns k kc sto dG R dR gv r1 r2 r3 r4 r5 r6 q1 q2 c z tc tz ps B F X N T' hk hdp hun off ap ap2 hps hpl hz hi hlen hc hcn hcl hp hp2 hret
  have hb1 : 0 ≤ 16 * (c - 115) := by omega
  have hb2 : 16 * (c - 115) ≤ 100 := by omega
  have hl9 : (((ns ++ flatR ps).length : Nat) : Int) < 40 := dc_len (i := 0) hlen hpl
  clear hc
  obtain ⟨n_W_dW, n_W_S, n_W_dS, n_W_nl, n_W_cv, n_W_sd, n_dW_S, n_dW_dS, n_dW_nl, n_dW_cv, n_dW_sd, n_S_dS, n_S_nl, n_S_cv, n_S_sd, n_dS_nl, n_dS_cv, n_dS_sd, n_nl_cv, n_nl_sd, n_cv_sd⟩ := ap
  obtain ⟨x_G_nl, x_G_cv, x_G_sd, x_G_dS, x_dG_nl, x_dG_cv, x_dG_sd, x_dG_dS, x_R_nl, x_R_cv, x_R_sd, x_R_dS, x_dR_nl, x_dR_cv, x_dR_sd, x_dR_dS, x_sc_nl, x_sc_cv, x_sc_sd, x_sc_dS⟩ := ap2
  have hi2 : IntsAre (vs ++ [Value.int z tz]) ((ns ++ flatR ps) ++ [z]) := ints_app hi (.cons _ _ .nil)
  revert X; k_fill; intro X
  refine wpAny_call ?_
  k_extra "x_enterF"
  k_steps
  refine Stop.intro ?_
  (with_reducible rename IsRange _ _ _ _ _ _ _ _ => rgX)
  (with_reducible rename Fr _ _ _ _ => Fx); (with_reducible rename News _ _ _ _ => Nx)
  refine range_turns (Str.ofString "place") (Str.ofString "argument") (n := ps.length) (fun i nw => ∃ us k9 cv9 kc9, nw = ((W, instObj 476 dW) :: (dW, dictOf (WrkE w u G S zn cv sd sc ppem) 8) :: (S, instObj 425 dS) :: (dS, dictOf (StkE w t1 t2 tm nl) 2) :: (nl, listOf us.toArray k9) :: (cv, listOf cv9.toArray kc9) :: (sd, sto) :: (G, instObj 369 dG) :: (dG, dictOf (GrE w gv R) 18) :: (R, instObj 112 dR) :: (dR, dictOf (RndE w r1 r2 r3 r4 r5 r6) 3) :: (sc, tupObj [Value.int 3 q1, Value.int 2 q2]) :: rest) ∧ IntsAre us (ns ++ flatR (ps.drop i)) ∧ IntsAre cv9 (dputs cns (ps.take i) (16 * (c - 115)) ppem)) (by rfl) rgX (small_one (by omega) (by omega) (by omega) (by omega)) (by rw [hz]; exact rangeSize_nat _ _) Fx Nx ⟨_, _, _, _, rfl, hi, hcn⟩ ?_ ?_
  · rintro i t v1 v2 nx h tk I iob hin ⟨us, k9, cv9, kc9, rfl, hu, hc9⟩ hoff F9 N9
    obtain ⟨us, p, a, tp, ta, hq, rfl, hu'⟩ := dc_turn hin hu
    obtain ⟨g1, g2, g3, g4⟩ := hps.at hq
    have hcl9 : (dputs cns (ps.take i) (16 * (c - 115)) ppem).length = 3 := dputs_len.trans hcl
    have hl8 := dc_len (ns := ns) (ps := ps) (i := i + 1) hlen hpl
    simp only [List.cons_append] at N9
    have off3 : OwnOff (rest ++ [(I, iob)]) [nl, dS, cv, sd] := off_one off (by simp only [List.forall_mem_cons] at hoff; exact ⟨hoff.2.2.2.2.1, hoff.2.2.2.1, hoff.2.2.2.2.2.1, hoff.2.2.2.2.2.2.1⟩)
    obtain ⟨rest9, hr9⟩ : ∃ r, r = rest ++ [(I, iob)] := ⟨_, rfl⟩
    rw [← hr9] at N9 off3
    k_steps
    (with_reducible rename News _ _ _ (_ :: (W, _) :: _) => Nq)
    (with_reducible rename Fr _ _ _ _ => Fq)
    rw [hr9] at Nq
    show TurnFin _ _ _ _ _ _ _ _ _ _ _
    exact TurnFin.mk (((W, instObj 476 dW) :: (dW, dictOf (WrkE w u G S zn cv sd sc ppem) 8) :: (S, instObj 425 dS) :: (dS, dictOf (StkE w t1 t2 tm nl) 2) :: (nl, listOf us.toArray (k9 + 1 + 1)) :: (cv, listOf (List.set cv9 (Int.toNat p) (Value.int _ _)).toArray kc9) :: (sd, sto) :: (G, instObj 369 dG) :: (dG, dictOf (GrE w gv R) 18) :: (R, instObj 112 dR) :: (dR, dictOf (RndE w r1 r2 r3 r4 r5 r6) 3) :: (sc, tupObj [Value.int 3 q1, Value.int 2 q2]) :: rest)) (tfr (by decide) (by decide) (by decide) Fq) (cb_drop Nq (fun p hp => .tail _ hp)) (off_same hoff rfl) ⟨_, _, _, _, rfl, hu', by rw [dputs_snoc hq]; exact ints_set1 hc9⟩
  · rintro q v1 v2 nx h tk ⟨us, k9, cv9, kc9, rfl, hu, hc9⟩ F9 N9
    rw [List.drop_length] at hu
    rw [List.take_length] at hc9
    simp only [flatR, List.append_nil] at hu
    k_steps
    exact hret _ _ _ _ _ _ (by k_asm) (by k_asm) hu hc9); deltac_S (Ldeltac_c.fWo 0) (Ldeltac_c.fMe 0) (Ldeltac_c.fM 0) (Ldeltac_c.fM 1) (Ldeltac_c.fN 0) (Ldeltac_c.fN 1) (Ldeltac_c.fGD 0) (Ldeltac_c.fSt 0) (Ldeltac_c.fSc 0) (Ldeltac_c.fA 0) (Ldeltac_c.fV 0) (Ldeltac_c.fCL 0) (Ldeltac_c.fEn 0) (Ldeltac_c.fAr 0) (Ldeltac_c.fH 0) (Ldeltac_c.fH 1) (Ldeltac_c.fA 1) (Ldeltac_c.fM 2) (Ldeltac_c.fSh 0) (Ldeltac_c.fQ 0) (Ldeltac_c.fQ 1) (Ldeltac_c.fAO 0) (Ldeltac_c.fA 2) (Ldeltac_c.fA 3) (Ldeltac_c.fA 4) (Ldeltac_c.fA 5) (Ldeltac_c.fA 6) (Ldeltac_c.fA 7) (Ldeltac_c.fA 8) (Ldeltac_c.fA 9) (Ldeltac_c.fA 10) (Ldeltac_c.fA 11) (Ldeltac_c.fU 0) (Ldeltac_c.fT 0) (Ldeltac_c.fT 1) (Ldeltac_c.fT 2) (Ldeltac_c.fI 0) (Ldeltac_c.fVL 0) (Ldeltac_c.fVL 1) (Ldeltac_c.fIL 0) (Ldeltac_c.fIL 1) (Ldeltac_c.fN 2) (Ldeltac_c.fN 3) (Ldeltac_c.fO 0) (Ldeltac_c.fA 12) (Ldeltac_c.fA 13) (Ldeltac_c.fA 14) (Ldeltac_c.fG 0) (Ldeltac_c.fT 3) (Ldeltac_c.fT 4) (Ldeltac_c.fT 5) (Ldeltac_c.fT 6) (Ldeltac_c.fT 7) (Ldeltac_c.fT 8) (Ldeltac_c.fT 9) (Ldeltac_c.fT 10) (Ldeltac_c.fI 1) (Ldeltac_c.fI 2) (Ldeltac_c.fT 11) (Ldeltac_c.fT 12) (Ldeltac_c.fKI 0)))
theorem Ldeltac_all : ∀ p, Ldeltac_S p := sk (deltac_at)
noncomputable def Ldeltac_bag (w : World) (mean : ExcName → Option Value) (mg mb : Str → Option Value) (dp un : Nat) (gd : Option (List Code)) (cn : Str) (cs : Scope) (a : Addr) (ccd : Value) (cl : List (Str × Addr)) (outer : List Env) (A₀ : Around) (base h₀ : Heap) (L : Addr) (m : Str → Option Value) (s : Shared) (Q E : Value → Shared → Prop) (rest : List (Addr × Obj)) (W dW S dS nl cv sd G zn sc : Addr) (u : WTok) (t1 t2 tm : Tok) (ppem : Int) (vs cvs : List Value) (ns cns : List Int) (k kc : Nat) (sto : Obj) (dG R dR : Addr) (gv : GV) (r1 r2 r3 r4 r5 r6 q1 q2 : Tok) (c z : Int) (tc tz : Tok) (ps : List (Int × Int)) : Bag := ⟨fun ix9 => [a, L, W, dW, S, dS, nl, cv, sd, G, zn, sc, dG, R, dR].getD ix9 (bag0.fA 0), fun ix9 => [t1, t2, tm, r1, r2, r3, r4, r5, r6, q1, q2, tc, tz].getD ix9 (bag0.fT 0), fun ix9 => [ppem, c, z].getD ix9 (bag0.fI 0), fun ix9 => [dp, un, k, kc].getD ix9 (bag0.fN 0), fun ix9 => [ccd].getD ix9 (bag0.fV 0), fun ix9 => [sto].getD ix9 (bag0.fO 0), fun ix9 => [vs, cvs].getD ix9 (bag0.fVL 0), fun ix9 => [ns, cns].getD ix9 (bag0.fIL 0), fun ix9 => [].getD ix9 (bag0.fKV 0), fun ix9 => [ps].getD ix9 (bag0.fKI 0), fun ix9 => [rest].getD ix9 (bag0.fAO 0), fun ix9 => [u].getD ix9 (bag0.fU 0), fun ix9 => [gv].getD ix9 (bag0.fG 0), fun ix9 => [].getD ix9 (bag0.fPr 0), fun ix9 => [].getD ix9 (bag0.fEv 0), fun ix9 => [].getD ix9 (bag0.fSs 0), fun ix9 => [].getD ix9 (bag0.fEx 0), fun ix9 => [].getD ix9 (bag0.fQF 0), fun ix9 => [].getD ix9 (bag0.fJ 0), fun ix9 => [w].getD ix9 (bag0.fWo 0), fun ix9 => [mean].getD ix9 (bag0.fMe 0), fun ix9 => [mg, mb, m].getD ix9 (bag0.fM 0), fun ix9 => [gd].getD ix9 (bag0.fGD 0), fun ix9 => [cn].getD ix9 (bag0.fSt 0), fun ix9 => [cs].getD ix9 (bag0.fSc 0), fun ix9 => [cl].getD ix9 (bag0.fCL 0), fun ix9 => [outer].getD ix9 (bag0.fEn 0), fun ix9 => [A₀].getD ix9 (bag0.fAr 0), fun ix9 => [base, h₀].getD ix9 (bag0.fH 0), fun ix9 => [s].getD ix9 (bag0.fSh 0), fun ix9 => [Q, E].getD ix9 (bag0.fQ 0)⟩
theorem deltac {w mean mg mb dp un gd cn cs a ccd cl outer A₀ base h₀ L m s Q E rest W dW S dS nl cv sd G zn sc u t1 t2 tm ppem vs cvs ns cns k kc sto dG R dR gv r1 r2 r3 r4 r5 r6 q1 q2 c z tc tz ps} : deltac_S w mean mg mb dp un gd cn cs a ccd cl outer A₀ base h₀ L m s Q E rest W dW S dS nl cv sd G zn sc u t1 t2 tm ppem vs cvs ns cns k kc sto dG R dR gv r1 r2 r3 r4 r5 r6 q1 q2 c z tc tz ps := Ldeltac_all (Ldeltac_bag w mean mg mb dp un gd cn cs a ccd cl outer A₀ base h₀ L m s Q E rest W dW S dS nl cv sd G zn sc u t1 t2 tm ppem vs cvs ns cns k kc sto dG R dR gv r1 r2 r3 r4 r5 r6 q1 q2 c z tc tz ps)
end
theorem mt7 : True := by first | (walk1; done) | trivial
section
local macro_rules | `(tactic| walk_at $s:str) => `(tactic| k_extra $(Lean.Syntax.mkStrLit (s.getString ++ " #P22")))
theorem reg23 : True := by
  (k_with "call ref #P22" => first | ((k_here; (with_reducible show wpAny _ _ (call (Value.ref 303) _) _ _ _); refine Stop.out ?_)) | fail "no")
  (k_with "subscriptTail #P22" => first | ((k_here; kda_here; k_dflt (refine ditem_C (knd := PySem.intKind _ _) (by k_asm) (by k_mem) (by with_reducible assumption) (intKind_is _ _ _ _) (by with_reducible assumption) ?_))) | fail "no")
  trivial
theorem heardD {w : World} {mean : ExcName → Option Value} {mg mb : Str → Option Value} {dp un : Nat} {gd : Option (List Code)} {cn : Str} {cs : Scope} {a : Addr} {ccd : Value} {cl : List (Str × Addr)} {outer : List Env} {A₀ : Around} {base h₀ : Heap} {L : Addr} {m : Str → Option Value} {s : Shared} {Q E : Value → Shared → Prop}
   {rest : List (Addr × Obj)} {W dW S dS nl cv sd G zn sc : Addr} {u : WTok} {t1 t2 tm : Tok} {ppem : Int} {vs cvs : List Value} {ns cns : List Int} {k kc : Nat} {sto : Obj} {dG R dR : Addr} {gv : GV} {r1 r2 r3 r4 r5 r6 q1 q2 : Tok} {c z : Int} {tc tz : Tok} {ps : List (Int × Int)} {op : Addr} {oo : Obj} {kvsO : List (Int × Value)}
   (B : Below A₀ base outer h₀) (F : Fr h₀ L s.heap m) (X : (lay.heap_1 w.params).In h₀) (N : News h₀ L s.heap ((W, instObj 476 dW) :: (dW, dictOf (WrkE w u G S zn cv sd sc ppem) 8) :: (S, instObj 425 dS) :: (dS, dictOf (StkE w t1 t2 tm nl) 2) :: (nl, listOf (vs ++ [Value.int z tz]).toArray k) :: (cv, listOf cvs.toArray kc) :: (sd, sto) :: (G, instObj 369 dG) :: (dG, dictOf (GrE w gv R) 18) :: (R, instObj 112 dR) :: (dR, dictOf (RndE w r1 r2 r3 r4 r5 r6) 3) :: (sc, tupObj [Value.int 3 q1, Value.int 2 q2]) :: (op, oo) :: rest)) (T' : Top view (looseW view [Str.ofString "HintWork"]) mean mg mb h₀) (hk : cs.kind = .function) (hdp : dp + 7 < recursionLimit) (hun : un + 136 < cLine) 
   (ap : Apart W dW S dS nl cv sd) (ap2 : Apart2 nl cv sd dS G dG R dR sc) (off9 : OwnOff ((op, oo) :: rest) [nl, dS, cv, sd]) (hoo : oo.IsDictOf (PySem.intKind PySem.Challenge.rw_on0247_01.row.toRowW.prog w) kvsO) (hval : PySem.valueAt kvsO c = some (Value.ref 303)) (hps : PairOK ps) (hpl : ps.length ≤ 3) (hz : z = ps.length) (hi : IntsAre vs (ns ++ flatR ps)) (hlen : (ns.length : Int) < 20) (hc : c = 115 ∨ c = 116 ∨ c = 117) (hcn : IntsAre cvs cns) (hcl : cns.length = 3) (hp : 0 ≤ ppem) (hp2 : ppem ≤ 100)
   (hret : ∀ h' tk' vs' k' cvs' kc', Fr h₀ L h' m → News h₀ L h' ((W, instObj 476 dW) :: (dW, dictOf (WrkE w u G S zn cv sd sc ppem) 8) :: (S, instObj 425 dS) :: (dS, dictOf (StkE w t1 t2 tm nl) 2) :: (nl, listOf vs'.toArray k') :: (cv, listOf cvs'.toArray kc') :: (sd, sto) :: (G, instObj 369 dG) :: (dG, dictOf (GrE w gv R) 18) :: (R, instObj 112 dR) :: (dR, dictOf (RndE w r1 r2 r3 r4 r5 r6) 3) :: (sc, tupObj [Value.int 3 q1, Value.int 2 q2]) :: (op, oo) :: rest) → IntsAre vs' ns → IntsAre cvs' (dputs cns ps (16 * (c - 115)) ppem) → Q (.bool true) { s with heap := h', toks := tk' }) :
   wpAny (model PySem.Challenge.rw_on0247_01.row.toRowW.prog w) (ktrTop dp un gd cn cs L a ccd cl outer) (call (.ref 550) [.ref W, .ref op, .int c tc]) Q E s :=
  (by intro hz8; exact hz8 : (have hz8 : wpAny (model PySem.Challenge.rw_on0247_01.row.toRowW.prog w) (ktrTop dp un gd cn cs L a ccd cl outer) (call (.ref 550) [.ref W, .ref op, .int c tc]) Q E s := (by
  revert X; k_fill; intro X
  refine wpAny_call ?_
  k_extra "x_enterF"
  k_steps
  refine Stop.intro ?_
  k_dflt (refine' deltac ?k1q7 ?k2q7 ?k3q7 ?k4q7 ?k5q7 ?k6q7 ?k7q7 ?k8q7 off9 ap ap2 hps hpl hz hi hlen hc hcn hcl hp hp2 ?hrq7; (case k1q7 => k_asm); (case k2q7 => k_asm); (case k3q7 => k_asm); (case k4q7 => k_asm); (case k5q7 => k_asm); (case k6q7 => first | exact rfl | assumption); (case k7q7 => ktr_room); (case k8q7 => ktr_units))
  intro h' tk' vs' k' cvs' kc' F' N' I1 I2
  k_steps
  exact hret _ _ _ _ _ _ (by k_asm) (by k_asm) I1 I2); wpAny (model PySem.Challenge.rw_on0247_01.row.toRowW.prog w) (ktrTop dp un gd cn cs L a ccd cl outer) (call (.ref 550) [.ref W, .ref op, .int c tc]) Q E s))
end
theorem mt8 : True := by first | (walk1; done) | trivial
section
section
theorem gather_app (f : (Option (Sem Value) × Sem Value) → (Option Addr × List (Sem Value × Sem Value)) → Sem (ForInStep (Option Addr × List (Sem Value × Sem Value)))) (main : Option Addr)
    (hf : ∀ (p : Sem Value × Sem Value) (run : List (Sem Value × Sem Value)), run.length + 1 < 17 → f (some p.1, p.2) (main, run) = pure (.yield (main, run ++ [p]))) :
    ∀ (items run : List (Sem Value × Sem Value)) (tail : List (Option (Sem Value) × Sem Value)), run.length + items.length < 17 → forIn (items.map (fun p => (some p.1, p.2)) ++ tail) (main, run) f = forIn tail (main, run ++ items) f
  | [], run, tail, _ => by simp
  | p :: rest, run, tail, h => by
    rw [List.map_cons, List.cons_append, List.forIn_cons, hf p run (by simp at h; omega), pure_bind]
    have := gather_app f main hf rest (run ++ [p]) tail (by simp at h ⊢; omega)
    simpa using this
theorem display_two (q : List (Sem Value × Sem Value)) (z : Sem Value × Sem Value) (p2 : List (Sem Value × Sem Value)) (hq : q.length = 16) (h2 : p2 ≠ []) (hl : p2.length < 17) :
    dictDisplay ((q ++ (z :: p2)).map fun p => (some p.1, p.2)) = (do
      let d ← subDict (q ++ [z])
      let sub ← holding [.ref d] (subDict p2)
      (holding [.ref d, .ref sub] (mergeMapping d (.ref sub) false)).onRaise (fun x => do let _ ← holding [.ref d, x] (runValue (.builtin "proto.let_go" {})))
      pure (Value.ref d)) := by
  unfold dictDisplay
  dsimp only
  rw [List.map_append, gather_app _ none (fun p run h => by
    have hne : ((run ++ [(p.1, p.2)]).length == 17) = false := by simp; omega
    simp only [hne, Bool.false_eq_true, if_false]) q [] _ (by simp; omega)]
  rw [List.map_cons, List.forIn_cons]
  have h17 : ((q ++ [z]).length == 17) = true := by simp [hq]
  have he : (q ++ [z]).isEmpty = false := by simp
  have he2 : p2.isEmpty = false := by cases p2 <;> simp_all
  simp only [List.nil_append, Prod.eta, h17, he, if_true, Bool.false_eq_true, if_false, bind_assoc, pure_bind]
  refine bind_congr fun d => ?_
  rw [← List.append_nil (List.map _ p2), gather_app _ (some d) (fun p run h => by
    have hne : ((run ++ [(p.1, p.2)]).length == 17) = false := by simp; omega
    simp only [hne, Bool.false_eq_true, if_false]) p2 [] [] (by simpa using hl)]
  simp only [List.forIn_nil, List.nil_append, he2, Bool.false_eq_true, if_false, bind_assoc, pure_bind]
end
section
variable {prog : Program} {w : World} {K : Type} [DecidableEq K] {knd : KeyKind prog w K} {A : Around} {E : Value → Shared → Prop} {s : Shared}
theorem put_pairs {d : Addr} {kvs : List (K × Value)} {k : K} {key v : Value} {Q : Unit → Shared → Prop} (hkey : knd.is k key = true) (hm : s.heap.DictOf knd d kvs)
    (hQ : ∀ h', h'.DictOf knd d (stored kvs k v) → Heap.SameBut d s.heap h' → Q () { s with heap := h' }) (hsz : kvs.length ≤ sizeLine) :
    wpAny (model prog w) A (dictPut d (knd.hash k) key v) Q E s := by
  obtain ⟨o, es, ep, ho, hc, hd, hk, hp, hn⟩ := hm
  have hes : es.size ≤ sizeLine := by
    have e1 := hp.length; have e2 : es.toList.length = es.size := by simp
    omega
  unfold dictPut
  refine wpAny_bind (wpAny_dictFind_of hkey ho hd hk ?_)
  have hidx : (es.findIdx? fun e => knd.is k e.key) = kvs.findIdx? fun kv => decide (kv.1 = k) := by
    rw [← hp.findIdx k]; obtain ⟨l⟩ := es; simp
  cases hi : es.findIdx? fun e => knd.is k e.key with
  | some i =>
    refine wpAny_updateDict ho hd (hQ _ ⟨_, _, ep, Heap.get?_update_self _ ho (Obj.isFreed_of_dict (Obj.data_mapDict hd _)), hc.mapDict _, Obj.data_mapDict hd _, hk.modify _ _, ?_, ?_⟩ (Heap.SameBut.update ..))
    · rw [stored, if_pos (any_of_findIdx_some (hidx ▸ hi))]
      have hl : (es.toList.findIdx? fun e => knd.is k e.key) = some i := by rw [← hi]; obtain ⟨l⟩ := es; simp
      have := hp.modify hn hl v
      obtain ⟨l⟩ := es
      simpa using this
    · rw [stored, if_pos (any_of_findIdx_some (hidx ▸ hi)), keys_map_store]; exact hn
  | none =>
    have hnot : k ∉ kvs.map (·.1) := not_mem_of_findIdx_none (hidx ▸ hi)
    have hany : ¬ (kvs.any fun kv => decide (kv.1 = k)) = true := by
      rw [List.any_eq_true]; rintro ⟨kv, hkv, he⟩
      exact hnot (List.mem_map.mpr ⟨kv, hkv, of_decide_eq_true he⟩)
    refine wpAny_updateDictKeys (hz := hes) ho hd (hQ _ ⟨_, _, ep + 1, Heap.get?_update_self _ ho (Obj.isFreed_of_dict (Obj.data_mapDictKeys hd _)), hc.mapDictKeys _, Obj.data_mapDictKeys hd _, hk.push hkey _, ?_, ?_⟩ (Heap.SameBut.update ..))
    · rw [stored, if_neg hany]
      have := hp.append hkey (knd.hash k) v
      obtain ⟨l⟩ := es
      simpa using this
    · rw [stored, if_neg hany, List.map_append, List.nodup_append]
      refine ⟨hn, by simp, ?_⟩
      intro a ha b hb
      simp only [List.map_cons, List.map_nil, List.mem_singleton] at hb
      subst hb
      exact fun e => hnot (e ▸ ha)
theorem merge_map {d o : Addr} {kvs more : List (K × Value)} {Q : Unit → Shared → Prop} (hdo : d ≠ o) (hoS : (o == sysModules) = false) (h0 : kvs ≠ [])
    (hd : s.heap.DictOf knd d kvs) (ho : s.heap.DictOf knd o more)
    (hQ : ∀ h', h'.DictOf knd d (merged kvs more) → Heap.SameBut d s.heap h' → Q () { s with heap := h' })
    (hsz : kvs.length + more.length ≤ sizeLine) : wpAny (model prog w) A (mergeMapping d (.ref o) false) Q E s := by
  obtain ⟨od, esd, epd, hod, hcd, hdd, hkd, hpd, hnd⟩ := id hd
  obtain ⟨oo, eso, epo, hoo, hco, hdo', hko, hpo, hno⟩ := id ho
  have hlen : more.length = eso.size := by rw [← hpo.length]; simp
  have hne : esd.isEmpty = false := by
    cases q : esd.isEmpty with
    | false => rfl
    | true =>
      have h1 : esd = #[] := Array.isEmpty_iff.mp q
      have := hpd.length; rw [h1] at this
      exact absurd (List.length_eq_zero_iff.mp (by simpa using this.symm)) h0
  unfold mergeMapping
  refine wpAny_bind (wpAny_isInstance ho.typeIs isSubtype_dict_dict ?_)
  dsimp only
  rw [if_pos rfl]
  refine wpAny_bind (wpAny_specialOf ho.typeIs PySem.F.slot_dict_iter.lookup (wpAny_bind (wpAny_pure ?_)))
  rw [beq_self_eq_true]
  dsimp only
  rw [if_neg (by rw [hoS]; exact Bool.false_ne_true)]
  refine wpAny_bind (wpAny_dictEntries hod hdd ?_)
  rw [if_neg (by rw [hne]; exact Bool.false_ne_true)]
  refine wpAny_bind (wpAny_dictEntries hoo hdo' ?_)
  refine wpAny_bind (wpAny_dictEpoch hoo hdo' ?_)
  refine wpAny_bind ?_
  rw [List.range_eq_range']
  refine wpAny_forIn_list _
      (fun rest _ s' => ∃ h' i, s' = { s with heap := h' } ∧ rest = List.range' i (eso.size - i) ∧ i ≤ eso.size ∧ h'.DictOf knd d (merged kvs (more.take i)) ∧ h'.get? o = some oo ∧ Heap.SameBut d s.heap h')
      _ ?_ ?_ _ _ ⟨s.heap, 0, rfl, by simp, Nat.zero_le _, by simpa [merged] using hd, hoo, Heap.SameBut.refl _ _⟩
  · rintro x rest b s' ⟨h', i, rfl, hr, hi, hd', hoo', hs'⟩
    have hlt : i < eso.size := by
      rcases Nat.lt_or_ge i eso.size with h | h
      · exact h
      · rw [Nat.sub_eq_zero_of_le h] at hr; simp at hr
    obtain ⟨rfl, hrest⟩ : x = i ∧ rest = List.range' (i + 1) (eso.size - (i + 1)) := by
      have e : eso.size - i = (eso.size - (i + 1)) + 1 := by omega
      rw [e, List.range'_succ] at hr
      injection hr with h1 h2
      exact ⟨h1, h2⟩
    refine wpAny_bind (wpAny_dictEntries hoo' hdo' ?_)
    rw [Array.getElem?_eq_getElem hlt]
    obtain ⟨kv, hkv⟩ : ∃ kv, more[x]? = some kv := ⟨more[x]'(by rw [hlen]; exact hlt), List.getElem?_eq_getElem _⟩
    obtain ⟨k, v⟩ := kv
    obtain ⟨hkey, hval⟩ := hpo.get? (e := eso[x]) (by simp [hlt]) hkv
    obtain ⟨k', hkey', hhash⟩ := hko eso[x] (Array.getElem_mem hlt)
    obtain rfl : k' = k := knd.inj _ _ _ hkey' hkey
    dsimp only
    rw [if_neg Bool.false_ne_true, hhash, hval]
    have hmx : (merged kvs (more.take x)).length ≤ sizeLine := by
      have e1 := merged_length_le kvs (more.take x)
      have e2 : (more.take x).length ≤ more.length := by rw [List.length_take]; omega
      omega
    refine wpAny_bind (wpAny_holding (put_pairs hkey hd' (fun h'' hd'' hs'' => ?_) hmx))
    have hoo'' : h''.get? o = some oo := (hs''.2 o (Ne.symm hdo)).trans hoo'
    refine wpAny_bind (wpAny_dictEpoch hoo'' hdo' ?_)
    rw [if_neg (by simp)]
    exact wpAny_pure ⟨h'', x + 1, rfl, hrest, hlt, by rw [merged_take_succ kvs more x (k', v) hkv]; exact hd'', hoo'', hs'.trans hs''⟩
  · rintro b s' ⟨h', i, rfl, hr, hi, hd', hoo', hs'⟩
    have hin : i = eso.size := by
      rcases Nat.lt_or_ge i eso.size with h | h
      · have e : eso.size - i = (eso.size - (i + 1)) + 1 := by omega
        rw [e, List.range'_succ] at hr; exact nomatch hr
      · exact Nat.le_antisymm hi h
    refine wpAny_pure (hQ h' ?_ hs')
    rw [hin, ← hlen, List.take_length] at hd'; exact hd'
end
section
variable {prog : Program} {w : World} {A : Around} {E : Value → Shared → Prop} {h₀ : Heap} {L : Addr} {m : Str → Option Value} {env : Env}
/-- the pairs of a display that draw tokens alone -/
inductive PG (prog : Program) (w : World) (A : Around) (E : Value → Shared → Prop) (h₀ : Heap) (L : Addr) (m : Str → Option Value) : List (Sem Value × Sem Value) → List (Int × Value) → Prop
  | nil : PG prog w A E h₀ L m [] []
  | cons {k v : Sem Value} {r : List (Sem Value × Sem Value)} {i : Int} {x : Value} {q : List (Int × Value)}
    (hk : ∀ s Q, Fr h₀ L s.heap m → (∀ t n, Q (.int i t) { s with toks := n }) → wpAny (model prog w) A k Q E s)
    (hv : ∀ s Q, Fr h₀ L s.heap m → (∀ n, Q x { s with toks := n }) → wpAny (model prog w) A v Q E s)
    (hr : PG prog w A E h₀ L m r q) : PG prog w A E h₀ L m ((k, v) :: r) ((i, x) :: q)
theorem PG.len {p : List (Sem Value × Sem Value)} {q : List (Int × Value)} (h : PG prog w A E h₀ L m p q) : p.length = q.length := by
  induction h with
  | nil => rfl
  | cons _ _ _ ih => simp [ih]
theorem PG.split {p1 p2 : List (Sem Value × Sem Value)} {q : List (Int × Value)} (h : PG prog w A E h₀ L m (p1 ++ p2) q) : PG prog w A E h₀ L m p1 (q.take p1.length) ∧ PG prog w A E h₀ L m p2 (q.drop p1.length) := by
  induction p1 generalizing q with
  | nil => exact ⟨.nil, h⟩
  | cons x r ih =>
    cases h with
    | cons hk hv hr =>
      obtain ⟨a, b⟩ := ih hr
      exact ⟨.cons hk hv a, b⟩
theorem PG.evalPairs {p : List (Sem Value × Sem Value)} {q : List (Int × Value)} (h : PG prog w A E h₀ L m p q) : ∀ {s : Shared} {Q : List (Value × Value) → Shared → Prop}, Fr h₀ L s.heap m → (∀ vs n, Carries (PySem.intKind prog w) vs q → Q vs { s with toks := n }) → wpAny (model prog w) A (evalPairs p) Q E s := by
  induction h with
  | nil => intro s Q F hq; exact evalPairs_nil (hq [] s.toks trivial)
  | cons hk hv hr ih =>
    intro s Q F hq
    refine evalPairs_cons (hk s _ F fun t n => hv _ _ F fun n2 => ih F fun vs n3 hc => ?_)
    exact hq _ n3 ⟨intKind_is _ _ _ _, rfl, hc⟩
theorem long_loop {d : Addr} (hdL : d ≠ L) (hd0 : h₀.get? d = none) : ∀ {p : List (Sem Value × Sem Value)} {q : List (Int × Value)}, PG prog w A E h₀ L m p q → ∀ (acc : List (Int × Value)) {s : Shared} {Q : PUnit → Shared → Prop}, Fr h₀ L s.heap m →
    s.heap.DictOf (PySem.intKind prog w) d acc → acc.length + q.length ≤ 1000 → (∀ h' n, Fr h₀ L h' m → h'.DictOf (PySem.intKind prog w) d (merged acc q) → Heap.SameBut d s.heap h' → Q PUnit.unit { s with heap := h', toks := n }) →
    wpAny (model prog w) A (forIn p PUnit.unit fun (x : Sem Value × Sem Value) (_ : PUnit) => (do
      let kv ← x.1
      let vv ← holding [kv] x.2
      holding [kv, vv] (dictSet d kv vv)
      pure (ForInStep.yield PUnit.unit) : Sem (ForInStep PUnit))) Q E s := by
  intro p q h
  induction h with
  | nil =>
    intro acc s Q F hm _ hq
    rw [List.forIn_nil]
    exact wpAny_pure (hq s.heap s.toks F (by simpa [merged] using hm) (Heap.SameBut.refl _ _))
  | cons hk hv hr ih =>
    rename_i k v r i x q
    intro acc s Q F hm hl hq
    rw [List.length_cons] at hl
    rw [List.forIn_cons]
    refine wpAny_bind (wpAny_bind (hk s _ F fun t n => wpAny_bind (wpAny_holding (hv _ _ F fun n2 => wpAny_bind (wpAny_holding (wpAny_dictSet_pairs (hsz := by rw [PySem.sizeLine_eq]; omega) (intKind_is _ _ _ _) hm fun h₁ hm₁ hs₁ => wpAny_pure ?_))))))
    have F₁ : Fr h₀ L h₁ m := F.change hs₁ hdL hd0
    refine ih (stored acc i x) F₁ hm₁ (by have e := stored_length_le acc i x; omega) fun h' n3 F' hm' hs' => ?_
    exact hq h' n3 F' (by simpa [merged] using hm') (hs₁.trans hs')
theorem sub_long {p : List (Sem Value × Sem Value)} {q : List (Int × Value)} {s : Shared} {Q : Addr → Shared → Prop} (h : PG prog w A E h₀ L m p q) (F : Fr h₀ L s.heap m) (hl : 15 < p.length) (hl2 : p.length ≤ 1000)
    (hq : ∀ h' n, Fr h₀ L h' m → h'.DictOf (PySem.intKind prog w) s.heap.objs.size (merged [] q) → (∀ b o, s.heap.get? b = some o → h'.get? b = some o) → Q s.heap.objs.size { s with heap := h', toks := n }) :
    wpAny (model prog w) A (subDict p) Q E s := by
  have e := h.len
  have hd0 : h₀.get? s.heap.objs.size = none := next_is_new F
  have hdL : s.heap.objs.size ≠ L := Nat.ne_of_gt F.ns.lt
  have F₁ : Fr h₀ L (s.heap.push { cls := .type "dict", data := .dict #[] }) m := F.push _
  unfold subDict
  refine wpAny_bind (wpAny_alloc ?_)
  refine wpAny_bind (wpAny_holding ?_)
  rw [if_neg (by omega)]
  refine wpAny_bind (wpAny_rule (wpAny_bind (long_loop hdL hd0 h [] (s := { s with heap := s.heap.push { cls := .type "dict", data := .dict #[] } }) F₁ (Heap.DictOf.new _) (by simp; omega) fun h' n F' hm hs => wpAny_pure (wpAny_pure ?_))))
  exact hq h' n F' hm fun b o hb => (hs.2 b (Nat.ne_of_lt (Heap.lt_size hb))).trans (Heap.get?_push_of_some _ hb)
theorem display_long {keys : List (Option Expr)} {values : List Expr} {pos : Pos} {want : List (Int × Value)} {news : List (Addr × Obj)} {s : Shared} {Q : Value → Shared → Prop} (F : Fr h₀ L s.heap m) (N : News h₀ L s.heap news) (hbig : h₀.NoLimit)
    (hall : keys.all (·.isSome) = true) (hl : keys.length = values.length) (hk1 : 17 < keys.length) (hk2 : keys.length ≤ 32) (hp : PG prog w A E h₀ L m (pairTrees keys values env pos) want) (hn : (want.map (·.1)).Nodup)
    (h : ∀ d h' o tk', Fr h₀ L h' m → News h₀ L h' ((d, o) :: news) → (∀ p ∈ news, p.1 < d) → (d == sysModules) = false → o.IsDictOf (PySem.intKind prog w) want → Q (.ref d) { s with heap := h', toks := tk' }) :
    wpAny (model prog w) A (eval (.Dict keys values pos) env) Q E s := by
  have hlen := pairTrees_length keys values env pos hall hl
  have hw := hp.len
  rw [arm_eval_Dict, zip_pairTrees keys values env pos hall hl]
  generalize pairTrees keys values env pos = pairs at hp hlen hw ⊢
  obtain ⟨q, z, p2, e, hq⟩ : ∃ q z p2, pairs = q ++ (z :: p2) ∧ q.length = 16 := by
    refine ⟨pairs.take 16, pairs[16], pairs.drop 17, ?_, by rw [List.length_take]; omega⟩
    rw [← List.drop_eq_getElem_cons (by omega), List.take_append_drop]
  subst e
  have hl2 : p2.length ≤ 15 := by simp at hlen; omega
  have h0 : p2 ≠ [] := by intro e; subst e; simp at hlen; omega
  refine wpAny_bind (wpAny_standAt ?_)
  rw [display_two q z p2 hq h0 (by omega)]
  have hp' : PG prog w A E h₀ L m ((q ++ [z]) ++ p2) want := by rw [List.append_assoc]; exact hp
  obtain ⟨g1, g2⟩ := hp'.split
  have e17 : (q ++ [z]).length = 17 := by simp [hq]
  rw [e17] at g1 g2
  refine wpAny_bind (sub_long g1 F (by omega) (by omega) fun h1 n1 F1 hm1 k1 => ?_)
  have hd0 : h₀.get? s.heap.objs.size = none := next_is_new F
  have hlt : s.heap.objs.size < h1.objs.size := by
    obtain ⟨o, es, ep, ho, _⟩ := hm1
    exact Heap.lt_size ho
  refine wpAny_bind (wpAny_holding (wpAny_subDict (knd := PySem.intKind prog w) hl2 ?_))
  refine g2.evalPairs (F1.push _) fun vs n hc => ⟨want.drop 17, hc, Heap.DictOf.new _, fun h2 hd2 hs2 => ?_⟩
  have F2 : Fr h₀ L h2 m := (F1.push _).change hs2 (Nat.ne_of_gt F1.ns.lt) (next_is_new F1)
  have hm2 : h2.DictOf (PySem.intKind prog w) s.heap.objs.size (merged [] (want.take 17)) := (hm1.push _).sameBut hs2 (Nat.ne_of_lt hlt)
  have nd1 : ((want.take 17).map (·.1)).Nodup := by rw [List.map_take]; exact hn.sublist (List.take_sublist _ _)
  have nd2 : ((want.drop 17).map (·.1)).Nodup := by rw [List.map_drop]; exact hn.sublist (List.drop_sublist _ _)
  rw [merged_nil_of_nodup _ nd1] at hm2
  rw [merged_nil_of_nodup _ nd2] at hd2
  refine wpAny_bind (wpAny_onRaise (wpAny_holding (merge_map (Nat.ne_of_lt hlt) (F1.notModules (modules_low hbig)) ?_ hm2 hd2 (fun h3 hd3 hs3 => wpAny_pure ?_) ?_)))
  · intro e
    have := congrArg List.length e
    rw [List.length_take, List.length_nil] at this
    omega
  · rw [merged_append_of_fresh _ _ (by rw [List.take_append_drop]; exact hn), List.take_append_drop] at hd3
    obtain ⟨o, ho, hd⟩ := Heap.dictOf_iff.mp hd3
    have F3 : Fr h₀ L h3 m := F2.change hs3 (Nat.ne_of_gt F.ns.lt) hd0
    refine h _ h3 o _ F3 (news_pushed F N (fun b x e => ?_) ho rfl) (fun p hp => Heap.lt_size (N p hp).1) (F.notModules (modules_low hbig)) hd
    have e1 := k1 b x e
    have e2 := (hs2.2 b (Nat.ne_of_lt (Heap.lt_size e1))).trans (Heap.get?_push_of_some _ e1)
    exact (hs3.2 b (Nat.ne_of_lt (Heap.lt_size e))).trans e2
  · rw [PySem.sizeLine_eq, List.length_take, List.length_drop]
    simp at hlen hw; omega
end
noncomputable def opl : List (Int × Value) → Int → Option Value
  | [], _ => none
  | (k, v) :: r, c => if k = c then some v else opl r c
noncomputable def HasOps (w : World) (o : Obj) (n : Nat) (l : List (Int × Value)) : Prop := ∃ kvs, o.IsDictOf (PySem.intKind PySem.Challenge.rw_on0247_01.row.toRowW.prog w) kvs ∧ kvs.length ≤ n ∧ ∀ c, PySem.valueAt kvs c = opl l c
theorem opl_valueAt (l : List (Int × Value)) (c : Int) : PySem.valueAt l c = opl l c := by
  induction l with
  | nil => rfl
  | cons p r ih =>
    obtain ⟨k, v⟩ := p
    unfold opl
    rw [← ih]
    unfold PySem.valueAt
    rw [List.find?_cons]
    by_cases h : k = c
    · simp [h]
    · simp [h]
theorem HasOps.start {w : World} {o : Obj} {n : Nat} {l : List (Int × Value)} (h : o.IsDictOf (PySem.intKind PySem.Challenge.rw_on0247_01.row.toRowW.prog w) l) (hn : l.length ≤ n) : HasOps w o n l := ⟨l, h, hn, opl_valueAt l⟩
theorem valueAt_put (kvs : List (Int × Value)) (k c : Int) (v : Value) : PySem.valueAt (PySem.stored kvs k v) c = if k = c then some v else PySem.valueAt kvs c := by
  unfold PySem.stored
  split
  · rename_i h
    induction kvs with
    | nil => simp at h
    | cons p r ih =>
      obtain ⟨k', v'⟩ := p
      unfold PySem.valueAt at *
      rw [List.map_cons, List.find?_cons, List.find?_cons]
      by_cases h1 : k' = k
      · subst h1
        by_cases h2 : k' = c
        · simp [h2]
        · simp only [if_true, h2, decide_false, if_false]
          by_cases h3 : r.any (fun kv => decide (kv.1 = k')) = true
          · rw [ih h3, if_neg h2]
          · have : List.map (fun kv => if kv.1 = k' then (kv.1, v) else kv) r = r := by
              rw [List.map_congr_left (g := id), List.map_id]
              intro a ha
              have : ¬ a.1 = k' := fun e => h3 (List.any_eq_true.mpr ⟨a, ha, by simp [e]⟩)
              simp [this]
            rw [this]
      · have h' : r.any (fun kv => decide (kv.1 = k)) = true := by simpa [List.any_cons, h1] using h
        simp only [if_neg h1]
        by_cases h2 : k' = c
        · have : ¬ k = c := fun e => h1 (h2.trans e.symm)
          simp [h2, this]
        · simp only [h2, decide_false]; exact ih h'
  · rename_i h
    unfold PySem.valueAt
    rw [List.find?_append]
    by_cases h2 : k = c
    · subst h2
      have : List.find? (fun kv => decide (kv.1 = k)) kvs = none := by
        rw [List.find?_eq_none]
        intro a ha e
        exact h (List.any_eq_true.mpr ⟨a, ha, e⟩)
      simp [this]
    · simp [h2]
theorem set_ops {w : World} {A : Around} {E : Value → Shared → Prop} {s : Shared} {h₀ : Heap} {L d : Addr} {m : Str → Option Value} {news : List (Addr × Obj)} {o : Obj} {g : Obj → List (Addr × Obj)} {n : Nat} {l : List (Int × Value)} {k : Int} {t : Tok} {v : Value} {Q : Unit → Shared → Prop}
   (F : Fr h₀ L s.heap m) (N : News h₀ L s.heap news) (U : UpdF d o news g) (hd : HasOps w o n l) (hn : n ≤ 1000)
   (h : ∀ h' o', Fr h₀ L h' m → News h₀ L h' (g o') → HasOps w o' (n + 1) ((k, v) :: l) → Q () { s with heap := h', toks := s.toks + 1 }) : wpAny (model PySem.Challenge.rw_on0247_01.row.toRowW.prog w) A (setItem (.ref d) (.int k t) v) Q E s := by
  obtain ⟨kvs, h1, h2, h3⟩ := hd
  refine kda_set (knd := PySem.intKind _ _) F N U h1 (intKind_is _ _ _ _) (by rw [PySem.sizeLine_eq]; omega) fun h' o' F' N' hd' => h h' o' F' N' ⟨_, hd', ?_, fun c => ?_⟩
  · have := stored_length_le kvs k v; omega
  · rw [valueAt_put, h3]; rfl
structure Op4 (I T D src ce : Nat) : Prop where
  a : I ≠ D
  b : T ≠ D
  c : src ≠ D
  d : ce ≠ D
theorem op4_upd {I T D src ce : Addr} {oI oT oo osrc oce : Obj} (k : Op4 I T D src ce) : UpdF D oo ((I, oI) :: (T, oT) :: (D, oo) :: (src, osrc) :: (ce, oce) :: []) (fun o' => (I, oI) :: (T, oT) :: (D, o') :: (src, osrc) :: (ce, oce) :: []) :=
  .tail k.a (.tail k.b (.head fun q hq => by
    rcases List.mem_cons.mp hq with rfl | hq
    · exact k.c
    · rcases List.mem_cons.mp hq with rfl | hq
      · exact k.d
      · cases hq))
noncomputable def mapO (f : Addr) (l : List Int) : List (Int × Value) := (l.map fun c => (c, Value.ref f)).reverse
theorem mapO_snoc {f : Addr} {l : List Int} {c : Int} {i : Nat} {W : List (Int × Value)} (h : l[i]? = some c) : (c, Value.ref f) :: (mapO f (l.take i) ++ W) = mapO f (l.take (i + 1)) ++ W := by
  rw [take_snoc h, mapO, mapO, List.map_append, List.reverse_append]; rfl
noncomputable def rnd4 : Nat → List (Int × Value)
  | 0 => []
  | n + 1 => (108 + (0 + (n : Int) * 1), Value.ref 254) :: (104 + (0 + (n : Int) * 1), Value.ref 247) :: rnd4 n
structure OpJ (w : World) (T D src ce : Addr) (oT osrc oce : Obj) (n : Nat) (l : List (Int × Value)) (nw : List (Addr × Obj)) : Prop where
  ex : ∃ oo, nw = (T, oT) :: (D, oo) :: (src, osrc) :: (ce, oce) :: [] ∧ HasOps w oo n l
theorem OpJ.mk' {w : World} {T D src ce : Addr} {oT osrc oce oo : Obj} {n n' : Nat} {l l' : List (Int × Value)} (h : HasOps w oo n l) (e : l = l') (hn : n = n') : OpJ w T D src ce oT osrc oce n' l' ((T, oT) :: (D, oo) :: (src, osrc) :: (ce, oce) :: []) := ⟨oo, rfl, by rw [← e, ← hn]; exact h⟩
theorem op3_upd {I D src ce : Addr} {oI oo osrc oce : Obj} (k : Op4 I I D src ce) : UpdF D oo ((I, oI) :: (D, oo) :: (src, osrc) :: (ce, oce) :: []) (fun o' => (I, oI) :: (D, o') :: (src, osrc) :: (ce, oce) :: []) :=
  .tail k.a (.head fun q hq => by
    rcases List.mem_cons.mp hq with rfl | hq
    · exact k.c
    · rcases List.mem_cons.mp hq with rfl | hq
      · exact k.d
      · cases hq)
structure OpK (w : World) (D src ce : Addr) (osrc oce : Obj) (n : Nat) (l : List (Int × Value)) (nw : List (Addr × Obj)) : Prop where
  ex : ∃ oo, nw = (D, oo) :: (src, osrc) :: (ce, oce) :: [] ∧ HasOps w oo n l
theorem OpK.mk' {w : World} {D src ce : Addr} {osrc oce oo : Obj} {n n' : Nat} {l l' : List (Int × Value)} (h : HasOps w oo n l) (e : l = l') (hn : n = n') : OpK w D src ce osrc oce n' l' ((D, oo) :: (src, osrc) :: (ce, oce) :: []) := ⟨oo, rfl, by rw [← e, ← hn]; exact h⟩
theorem op3_off2 {I D src ce : Addr} {oo oo' osrc oce : Obj} (h : ∀ p ∈ ((D, oo) :: (src, osrc) :: (ce, oce) :: []), p.1 ≠ I) : ∀ p ∈ ((D, oo') :: (src, osrc) :: (ce, oce) :: []), p.1 ≠ I := fun p hp => by
  rcases List.mem_cons.mp hp with rfl | hp
  · exact h (D, oo) (.head _)
  · exact h p (.tail _ hp)
theorem op4_off {I T D src ce : Addr} {oT oo osrc oce : Obj} (h : ∀ p ∈ ((T, oT) :: (D, oo) :: (src, osrc) :: (ce, oce) :: []), p.1 ≠ I) : @Ne Nat D I := h _ (.tail _ (.head _))
theorem op4_off2 {I T D src ce : Addr} {oT oo oo' osrc oce : Obj} (h : ∀ p ∈ ((T, oT) :: (D, oo) :: (src, osrc) :: (ce, oce) :: []), p.1 ≠ I) : ∀ p ∈ ((T, oT) :: (D, oo') :: (src, osrc) :: (ce, oce) :: []), p.1 ≠ I := fun p hp => by
  rcases List.mem_cons.mp hp with rfl | hp
  · exact h (T, oT) (.head _)
  · rcases List.mem_cons.mp hp with rfl | hp
    · exact h (D, oo) (.tail _ (.head _))
    · exact h p (.tail _ (.tail _ hp))
noncomputable def WANT : List (Int × Value) := [((32 : Int), Value.ref 137), ((33 : Int), Value.ref 144), ((34 : Int), Value.ref 151), ((35 : Int), Value.ref 158), ((36 : Int), Value.ref 165), ((37 : Int), Value.ref 172), ((38 : Int), Value.ref 177), ((138 : Int), Value.ref 184), ((142 : Int), Value.ref 191), ((79 : Int), Value.ref 144), ((126 : Int), Value.ref 144), ((127 : Int), Value.ref 144), ((133 : Int), Value.ref 144), ((141 : Int), Value.ref 144), ((92 : Int), Value.ref 212), ((86 : Int), Value.ref 219), ((87 : Int), Value.ref 219), ((66 : Int), Value.ref 261), ((67 : Int), Value.ref 268), ((68 : Int), Value.ref 275), ((69 : Int), Value.ref 289), ((112 : Int), Value.ref 282), ((75 : Int), Value.ref 310), ((76 : Int), Value.ref 310), ((136 : Int), Value.ref 317)]
noncomputable def OPSL : List (Int × Value) := [((117 : Int), Value.ref 303), ((116 : Int), Value.ref 303), ((115 : Int), Value.ref 303), ((111 : Int), Value.ref 254), ((107 : Int), Value.ref 247), ((110 : Int), Value.ref 254), ((106 : Int), Value.ref 247), ((109 : Int), Value.ref 254), ((105 : Int), Value.ref 247), ((108 : Int), Value.ref 254), ((104 : Int), Value.ref 247), ((103 : Int), Value.ref 240), ((102 : Int), Value.ref 240), ((101 : Int), Value.ref 240), ((100 : Int), Value.ref 240), ((140 : Int), Value.ref 233), ((139 : Int), Value.ref 233), ((99 : Int), Value.ref 233), ((98 : Int), Value.ref 233), ((97 : Int), Value.ref 233), ((96 : Int), Value.ref 233), ((91 : Int), Value.ref 205), ((90 : Int), Value.ref 205), ((85 : Int), Value.ref 205), ((84 : Int), Value.ref 205), ((83 : Int), Value.ref 205), ((82 : Int), Value.ref 205), ((81 : Int), Value.ref 205), ((80 : Int), Value.ref 205)] ++ WANT
noncomputable def OPW1 : List (Int × Value) := mapO 205 [80, 81, 82, 83, 84, 85, 90, 91] ++ WANT
noncomputable def OPW2 : List (Int × Value) := mapO 233 [96, 97, 98, 99, 139, 140] ++ OPW1
noncomputable def OPW3 : List (Int × Value) := mapO 240 [100, 101, 102, 103] ++ OPW2
noncomputable def OPW4 : List (Int × Value) := rnd4 4 ++ OPW3
theorem ops_val {c : Int} (h : OpCode c) : opl OPSL c = some (Value.ref (opF c)) := by
  unfold OpCode at h
  rcases h with rfl | rfl | rfl | rfl | rfl | rfl | rfl | rfl | rfl | rfl | rfl | rfl | rfl | rfl | rfl | rfl | rfl | rfl | rfl | rfl | rfl | rfl | rfl | rfl | rfl | rfl | rfl | rfl <;> rfl
theorem ops_del {c : Int} (h : c = 115 ∨ c = 116 ∨ c = 117) : opl OPSL c = some (Value.ref 303) := by
  rcases h with rfl | rfl | rfl <;> rfl
local macro_rules | `(tactic| walk_at $s:str) => `(tactic| k_extra $(Lean.Syntax.mkStrLit (s.getString ++ " #P24")))
theorem reg24 : True := by
  (k_with "eval Dict #P24" => first | ((k_here; refine Stop.out ?_)) | fail "no")
  (k_with "setItem ref int #P24" => first | ((k_here; (with_reducible show wpAny _ _ (setItem (Value.ref _) (Value.int _ _) (Value.ref _)) _ _ _); k_dflt (apply set_ops; (focus (k_asm)); (focus (k_asm)); (focus (first | exact op4_upd (by with_reducible assumption) | exact op3_upd (by with_reducible assumption))); (focus (with_reducible assumption)); (focus (omega))); (k_extra "x_in2"; intro F'z9 N'z9 hd'z9); (try dsimp only at N'z9))) | fail "no")
  (k_with "exec For Name Tuple cons nil #P24" => first | ((k_here; (rename Fr _ _ _ _ => lF'); (with_unfolding_all refine' For_turns lF' ?_; k_whole))) | fail "no")
  (k_with "pyIter ref #P24" => first | ((k_here; (with_reducible show wpAny _ _ (pyIter (Value.ref _)) (fun it s₂ => TurnsAt _ _ _ _ _ _ _ _ _ it s₂) _ _); refine Stop.out ?_)) | fail "no")
  (k_with "pyIter ref #P24" => first | ((k_here; (with_reducible show wpAny _ _ (pyIter (Value.ref _)) (fun it s₂ => LoopAtV _ _ _ _ _ _ _ _ _ it s₂) _ _); refine Stop.out ?_)) | fail "no")
  (k_with "call type:range #P24" => first | ((k_here; (with_reducible show wpAny _ _ (call (Value.type "range") [_]) _ _ _); (rename Fr _ _ _ _ => F'); (rename News _ _ _ _ => N'); (with_unfolding_all refine range1_rows F' N' ?_); intro _ _ _ _ _ _ _ _ _)) | fail "no")
  trivial
noncomputable def opsF_S (w : World) (mean : ExcName → Option Value) (mg mb : Str → Option Value) (dp un : Nat) (gd : Option (List Code)) (cn : Str) (cs : Scope) (a : Addr) (ccd : Value) (cl : List (Str × Addr)) (outer : List Env) (A₀ : Around) (base h₀ : Heap) (L : Addr) (m : Str → Option Value) (s : Shared) (Q E : Value → Shared → Prop) (src ce : Addr) (osrc oce : Obj) : Prop := ∀ (B : Below A₀ base outer h₀) (F : Fr h₀ L s.heap m) (X : (lay.heap_1 w.params).In h₀) (N : News h₀ L s.heap ((src, osrc) :: (ce, oce) :: [])) (T' : Top view (looseW view [Str.ofString "HintWork"]) mean mg mb h₀) (hk : cs.kind = .function) (hdp : dp + 3 < recursionLimit) (hun : un + 104 < cLine) (hret : ∀ h' tk' D oo, Fr h₀ L h' m → News h₀ L h' ((D, oo) :: (src, osrc) :: (ce, oce) :: []) → @LT.lt Nat _ src D → @LT.lt Nat _ ce D → HasOps w oo 54 OPSL → Q (.ref D) { s with heap := h', toks := tk' }),
  wpAny (model PySem.Challenge.rw_on0247_01.row.toRowW.prog w) (ktrTop dp un gd cn cs L a ccd cl outer) (call (.ref 324) []) Q E s
noncomputable def LopsF_S (p : Bag) : Prop := (opsF_S (p.fWo 0) (p.fMe 0) (p.fM 0) (p.fM 1) (p.fN 0) (p.fN 1) (p.fGD 0) (p.fSt 0) (p.fSc 0) (p.fA 0) (p.fV 0) (p.fCL 0) (p.fEn 0) (p.fAr 0) (p.fH 0) (p.fH 1) (p.fA 1) (p.fM 2) (p.fSh 0) (p.fQ 0) (p.fQ 1) (p.fA 2) (p.fA 3) (p.fO 0) (p.fO 1))
noncomputable def LopsF_c : Bag := skc LopsF_S
theorem opsF_at : opsF_S (LopsF_c.fWo 0) (LopsF_c.fMe 0) (LopsF_c.fM 0) (LopsF_c.fM 1) (LopsF_c.fN 0) (LopsF_c.fN 1) (LopsF_c.fGD 0) (LopsF_c.fSt 0) (LopsF_c.fSc 0) (LopsF_c.fA 0) (LopsF_c.fV 0) (LopsF_c.fCL 0) (LopsF_c.fEn 0) (LopsF_c.fAr 0) (LopsF_c.fH 0) (LopsF_c.fH 1) (LopsF_c.fA 1) (LopsF_c.fM 2) (LopsF_c.fSh 0) (LopsF_c.fQ 0) (LopsF_c.fQ 1) (LopsF_c.fA 2) (LopsF_c.fA 3) (LopsF_c.fO 0) (LopsF_c.fO 1) :=
  (by intro hz8; exact hz8 : (have hz8 : opsF_S (LopsF_c.fWo 0) (LopsF_c.fMe 0) (LopsF_c.fM 0) (LopsF_c.fM 1) (LopsF_c.fN 0) (LopsF_c.fN 1) (LopsF_c.fGD 0) (LopsF_c.fSt 0) (LopsF_c.fSc 0) (LopsF_c.fA 0) (LopsF_c.fV 0) (LopsF_c.fCL 0) (LopsF_c.fEn 0) (LopsF_c.fAr 0) (LopsF_c.fH 0) (LopsF_c.fH 1) (LopsF_c.fA 1) (LopsF_c.fM 2) (LopsF_c.fSh 0) (LopsF_c.fQ 0) (LopsF_c.fQ 1) (LopsF_c.fA 2) (LopsF_c.fA 3) (LopsF_c.fO 0) (LopsF_c.fO 1) := (by
  refine (?layF0 : ∀ w mean mg mb dp un gd cn cs a ccd cl outer A₀ base h₀ L m s Q E src ce osrc oce, opsF_S w mean mg mb dp un gd cn cs a ccd cl outer A₀ base h₀ L m s Q E src ce osrc oce) (LopsF_c.fWo 0) (LopsF_c.fMe 0) (LopsF_c.fM 0) (LopsF_c.fM 1) (LopsF_c.fN 0) (LopsF_c.fN 1) (LopsF_c.fGD 0) (LopsF_c.fSt 0) (LopsF_c.fSc 0) (LopsF_c.fA 0) (LopsF_c.fV 0) (LopsF_c.fCL 0) (LopsF_c.fEn 0) (LopsF_c.fAr 0) (LopsF_c.fH 0) (LopsF_c.fH 1) (LopsF_c.fA 1) (LopsF_c.fM 2) (LopsF_c.fSh 0) (LopsF_c.fQ 0) (LopsF_c.fQ 1) (LopsF_c.fA 2) (LopsF_c.fA 3) (LopsF_c.fO 0) (LopsF_c.fO 1)
  intro w mean mg mb dp un gd cn cs a ccd cl outer A₀ base h₀ L m s Q E src ce osrc oce B F X N T' hk hdp hun hret
  revert X; k_fill; intro X
  refine wpAny_call ?_
  k_dflt (refine' code_def ?k1q7 ?k2q7 ?k3q7 ?k4q7 ?k5q7 ?kAq7 ?kFq7 ?kKq7 ?k6q7 ?k7q7 ?k8q7 ?k9q7 ?kBq7 ?_ ?c2q7 ?c3q7 ?c4q7 ?c5q7; (case kAq7 => exact rfl); (case kFq7 => exact rfl); (case kKq7 => assumption); (case k1q7 => k_asm); (case k2q7 => k_asm); (case k3q7 => k_asm); (case k4q7 => k_asm); (case k5q7 => k_asm); (case k6q7 => k_is); (case k7q7 => k_is); (case k8q7 => ktr_room); (case k9q7 => exact BindsTo.of_eq rfl); (case c5q7 => decide); (case kBq7 => exact locs rfl); (case c2q7 => exact rfl); (case c3q7 => exact rfl); (case c4q7 => exact rfl); k_whole)
  k_extra "x_ske3"; intro FG' F1 N1 B' X' T1
  (try dsimp only); (try k_lift B'); (try k_extra "x_fold")
  k_steps
  refine Stop.intro ?_
  (with_reducible rename Fr g' _ _ _ => Fq); (with_reducible rename News g' _ _ _ => Nq)
  with_reducible (refine display_long (want := WANT) Fq Nq ?hbigq7 ?hallq7 ?hlq7 ?hk1q7 ?hk2q7 ?pgq7 ?ndq7 ?_)
  case hbigq7 => exact Top.nolimit T1
  case hallq7 => exact rfl
  case hlq7 => exact rfl
  case hk1q7 => exact Nat.le_of_ble_eq_true rfl
  case hk2q7 => exact Nat.le_of_ble_eq_true rfl
  case ndq7 => decide +kernel
  case pgq7 =>
    unfold WANT
    dsimp only [pairTrees]
    repeat (first | exact PG.nil | (refine PG.cons (fun s Q F hq => wpAny_Constant_int (hq _ _)) (fun s Q F hq => wpAny_bind (name_K F X' (topRead_of T1) (by k_is) (wpAny_bind (wpAny_standAt (wpAny_pure (hq s.toks)))))) ?_))
  intro D h' oo tk' F' N' lt lo hd
  replace hd := HasOps.start hd (Nat.le_refl _)
  have lt1 : @LT.lt Nat _ src D := lt _ (.head _)
  have lt2 : @LT.lt Nat _ ce D := lt _ (.tail _ (.head _))
  clear lt
  k_steps
  refine Stop.intro ?_
  (with_reducible rename News g' _ _ _ => Nq); (with_reducible rename Fr g' _ _ _ => Fq)
  (with_reducible rename HasOps _ _ _ _ => hz)
  (with_reducible rename (@LT.lt Nat _ D _ ∧ _ ∧ _) => ltT)
  have neT := Nat.ne_of_gt ltT.1
  clear ltT
  refine tup_turns (Str.ofString "code") (Str.ofString "code") (Str.ofString "code") (fun i => OpJ w _ D src ce _ osrc oce (25 + i) (mapO 205 (([80, 81, 82, 83, 84, 85, 90, 91] : List Int).take i) ++ WANT)) (by rfl) Fq Nq (.head _) rfl rfl (fun i nx h => h.ex.elim fun _ h => h.1 ▸ .head _) (OpJ.mk' hz rfl rfl) ?_ ?_
  · clear Nq hz
    rintro i v q v1 v2 nx h9 tk9 I iob hv ⟨oo, rfl, hz⟩ hoff F9 N9
    obtain ⟨x, t, rfl, hx⟩ := ints_at (ms := [80, 81, 82, 83, 84, 85, 90, 91]) (.cons _ _ (.cons _ _ (.cons _ _ (.cons _ _ (.cons _ _ (.cons _ _ (.cons _ _ (.cons _ _ .nil)))))))) hv
    have hi : i < 8 := (List.getElem?_eq_some_iff.mp hx).1
    have k4 : Op4 I _ D src ce := ⟨Ne.symm (op4_off hoff), neT, Nat.ne_of_lt lt1, Nat.ne_of_lt lt2⟩
    clear hv
    refine q_gen2 ?_; intro QQ hqq
    (try dsimp only)
    k_steps
    (with_reducible rename News g' _ _ _ => Nq); (with_reducible rename Fr g' _ _ _ => Fq)
    (with_reducible rename HasOps _ _ _ (_ :: _) => hz)
    refine hqq _ _ ?_
    show LFin _ _ _ _ _ _ _ _ _ _ _
    exact LFin.mk _ Fq (by intro z z1 z2 z3; repeat (first | exact rfl | refine ite_skip (by assumption) ?_)) Nq (op4_off2 hoff) (OpJ.mk' hz (mapO_snoc hx) rfl)
  clear Nq hz neT
  rintro q v1 v2 nx h9 tk9 ⟨oo, rfl, hz⟩ F9 N9
  (try dsimp only)
  replace N9 := cb_drop (news := (D, _) :: (src, _) :: (ce, _) :: []) N9 (fun p hp => .tail _ hp)
  replace hz : HasOps w oo 33 OPW1 := hz
  k_steps
  refine Stop.intro ?_
  (with_reducible rename News g' _ _ _ => Nq); (with_reducible rename Fr g' _ _ _ => Fq)
  (with_reducible rename HasOps _ _ _ _ => hz)
  (with_reducible rename (@LT.lt Nat _ D _ ∧ _ ∧ _) => ltT)
  have neT := Nat.ne_of_gt ltT.1
  clear ltT
  refine tup_turns (Str.ofString "code") (Str.ofString "code") (Str.ofString "code") (fun i => OpJ w _ D src ce _ osrc oce (33 + i) (mapO 233 (([96, 97, 98, 99, 139, 140] : List Int).take i) ++ OPW1)) (by rfl) Fq Nq (.head _) rfl rfl (fun i nx h => h.ex.elim fun _ h => h.1 ▸ .head _) (OpJ.mk' hz rfl rfl) ?_ ?_
  · clear Nq hz
    rintro i v q v1 v2 nx h9 tk9 I iob hv ⟨oo, rfl, hz⟩ hoff F9 N9
    obtain ⟨x, t, rfl, hx⟩ := ints_at (ms := [96, 97, 98, 99, 139, 140]) (.cons _ _ (.cons _ _ (.cons _ _ (.cons _ _ (.cons _ _ (.cons _ _ .nil)))))) hv
    have hi : i < 6 := (List.getElem?_eq_some_iff.mp hx).1
    have k4 : Op4 I _ D src ce := ⟨Ne.symm (op4_off hoff), neT, Nat.ne_of_lt lt1, Nat.ne_of_lt lt2⟩
    clear hv
    refine q_gen2 ?_; intro QQ hqq
    (try dsimp only)
    k_steps
    (with_reducible rename News g' _ _ _ => Nq); (with_reducible rename Fr g' _ _ _ => Fq)
    (with_reducible rename HasOps _ _ _ (_ :: _) => hz)
    refine hqq _ _ ?_
    show LFin _ _ _ _ _ _ _ _ _ _ _
    exact LFin.mk _ Fq (by intro z z1 z2 z3; repeat (first | exact rfl | refine ite_skip (by assumption) ?_)) Nq (op4_off2 hoff) (OpJ.mk' hz (mapO_snoc hx) rfl)
  clear Nq hz neT
  rintro q v1 v2 nx h9 tk9 ⟨oo, rfl, hz⟩ F9 N9
  (try dsimp only)
  replace N9 := cb_drop (news := (D, _) :: (src, _) :: (ce, _) :: []) N9 (fun p hp => .tail _ hp)
  replace hz : HasOps w oo 39 OPW2 := hz
  k_steps
  refine Stop.intro ?_
  (with_reducible rename News g' _ _ _ => Nq); (with_reducible rename Fr g' _ _ _ => Fq)
  (with_reducible rename HasOps _ _ _ _ => hz)
  (with_reducible rename (@LT.lt Nat _ D _ ∧ _ ∧ _) => ltT)
  have neT := Nat.ne_of_gt ltT.1
  clear ltT
  refine tup_turns (Str.ofString "code") (Str.ofString "code") (Str.ofString "code") (fun i => OpJ w _ D src ce _ osrc oce (39 + i) (mapO 240 (([100, 101, 102, 103] : List Int).take i) ++ OPW2)) (by rfl) Fq Nq (.head _) rfl rfl (fun i nx h => h.ex.elim fun _ h => h.1 ▸ .head _) (OpJ.mk' hz rfl rfl) ?_ ?_
  · clear Nq hz
    rintro i v q v1 v2 nx h9 tk9 I iob hv ⟨oo, rfl, hz⟩ hoff F9 N9
    obtain ⟨x, t, rfl, hx⟩ := ints_at (ms := [100, 101, 102, 103]) (.cons _ _ (.cons _ _ (.cons _ _ (.cons _ _ .nil)))) hv
    have hi : i < 4 := (List.getElem?_eq_some_iff.mp hx).1
    have k4 : Op4 I _ D src ce := ⟨Ne.symm (op4_off hoff), neT, Nat.ne_of_lt lt1, Nat.ne_of_lt lt2⟩
    clear hv
    refine q_gen2 ?_; intro QQ hqq
    (try dsimp only)
    k_steps
    (with_reducible rename News g' _ _ _ => Nq); (with_reducible rename Fr g' _ _ _ => Fq)
    (with_reducible rename HasOps _ _ _ (_ :: _) => hz)
    refine hqq _ _ ?_
    show LFin _ _ _ _ _ _ _ _ _ _ _
    exact LFin.mk _ Fq (by intro z z1 z2 z3; repeat (first | exact rfl | refine ite_skip (by assumption) ?_)) Nq (op4_off2 hoff) (OpJ.mk' hz (mapO_snoc hx) rfl)
  clear Nq hz neT
  rintro q v1 v2 nx h9 tk9 ⟨oo, rfl, hz⟩ F9 N9
  (try dsimp only)
  replace N9 := cb_drop (news := (D, _) :: (src, _) :: (ce, _) :: []) N9 (fun p hp => .tail _ hp)
  replace hz : HasOps w oo 43 OPW3 := hz
  k_steps
  refine Stop.intro ?_
  (with_reducible rename News g' _ _ _ => Nq); (with_reducible rename Fr g' _ _ _ => Fq)
  (with_reducible rename HasOps _ _ _ _ => hz)
  (with_reducible rename IsRange _ _ _ _ _ _ _ _ => rgX)
  refine rng_turns (Str.ofString "code") (Str.ofString "code") (fun i => OpK w D src ce osrc oce (43 + 2 * i) (rnd4 i ++ OPW3)) (by rfl) rgX (small_one (by omega) (by omega) (by omega) (by omega)) (rangeSize_nat _ _) Fq Nq (OpK.mk' hz rfl rfl) ?_ ?_
  · clear Nq hz
    rintro i t v1 v2 nx h9 tk9 I iob hi ⟨oo, rfl, hz⟩ hoff F9 N9
    replace hi : i < 4 := hi
    have neI := hoff (D, oo) (.head _)
    have k4 : Op4 I I D src ce := ⟨Ne.symm neI, Ne.symm neI, Nat.ne_of_lt lt1, Nat.ne_of_lt lt2⟩
    refine q_gen ?_; intro QQ hqq
    (try dsimp only)
    k_steps
    (with_reducible rename News g' _ _ _ => Nq); (with_reducible rename Fr g' _ _ _ => Fq)
    (with_reducible rename HasOps _ _ _ (_ :: _ :: _) => hz)
    refine hqq _ _ ?_
    show LFin _ _ _ _ _ _ _ _ _ _ _
    exact LFin.mk _ Fq (by intro z z1 z2 z3; repeat (first | exact rfl | refine ite_skip (by assumption) ?_)) Nq (op3_off2 hoff) (OpK.mk' hz rfl rfl)
  clear Nq hz rgX
  rintro q v1 v2 nx h9 tk9 ⟨oo, rfl, hz⟩ F9 N9
  (try dsimp only)
  replace hz : HasOps w oo 51 OPW4 := hz
  k_steps
  refine Stop.intro ?_
  (with_reducible rename News g' _ _ _ => Nq); (with_reducible rename Fr g' _ _ _ => Fq)
  (with_reducible rename HasOps _ _ _ _ => hz)
  (with_reducible rename (@LT.lt Nat _ D _ ∧ _ ∧ _) => ltT)
  have neT := Nat.ne_of_gt ltT.1
  clear ltT
  refine tup_turns (Str.ofString "code") (Str.ofString "code") (Str.ofString "code") (fun i => OpJ w _ D src ce _ osrc oce (51 + i) (mapO 303 (([115, 116, 117] : List Int).take i) ++ OPW4)) (by rfl) Fq Nq (.head _) rfl rfl (fun i nx h => h.ex.elim fun _ h => h.1 ▸ .head _) (OpJ.mk' hz rfl rfl) ?_ ?_
  · clear Nq hz
    rintro i v q v1 v2 nx h9 tk9 I iob hv ⟨oo, rfl, hz⟩ hoff F9 N9
    obtain ⟨x, t, rfl, hx⟩ := ints_at (ms := [115, 116, 117]) (.cons _ _ (.cons _ _ (.cons _ _ .nil))) hv
    have hi : i < 3 := (List.getElem?_eq_some_iff.mp hx).1
    have k4 : Op4 I _ D src ce := ⟨Ne.symm (op4_off hoff), neT, Nat.ne_of_lt lt1, Nat.ne_of_lt lt2⟩
    clear hv
    refine q_gen2 ?_; intro QQ hqq
    (try dsimp only)
    k_steps
    (with_reducible rename News g' _ _ _ => Nq); (with_reducible rename Fr g' _ _ _ => Fq)
    (with_reducible rename HasOps _ _ _ (_ :: _) => hz)
    refine hqq _ _ ?_
    show LFin _ _ _ _ _ _ _ _ _ _ _
    exact LFin.mk _ Fq (by intro z z1 z2 z3; repeat (first | exact rfl | refine ite_skip (by assumption) ?_)) Nq (op4_off2 hoff) (OpJ.mk' hz (mapO_snoc hx) rfl)
  clear Nq hz neT
  rintro q v1 v2 nx h9 tk9 ⟨oo, rfl, hz⟩ F9 N9
  (try dsimp only)
  replace N9 := cb_drop (news := (D, _) :: (src, _) :: (ce, _) :: []) N9 (fun p hp => .tail _ hp)
  replace hz : HasOps w oo 54 (mapO 303 [115, 116, 117] ++ OPW4) := hz
  k_steps
  exact hret _ _ _ _ (by k_asm) (by k_asm) lt1 lt2 (by exact hz)); opsF_S (LopsF_c.fWo 0) (LopsF_c.fMe 0) (LopsF_c.fM 0) (LopsF_c.fM 1) (LopsF_c.fN 0) (LopsF_c.fN 1) (LopsF_c.fGD 0) (LopsF_c.fSt 0) (LopsF_c.fSc 0) (LopsF_c.fA 0) (LopsF_c.fV 0) (LopsF_c.fCL 0) (LopsF_c.fEn 0) (LopsF_c.fAr 0) (LopsF_c.fH 0) (LopsF_c.fH 1) (LopsF_c.fA 1) (LopsF_c.fM 2) (LopsF_c.fSh 0) (LopsF_c.fQ 0) (LopsF_c.fQ 1) (LopsF_c.fA 2) (LopsF_c.fA 3) (LopsF_c.fO 0) (LopsF_c.fO 1)))
theorem LopsF_all : ∀ p, LopsF_S p := sk (opsF_at)
noncomputable def LopsF_bag (w : World) (mean : ExcName → Option Value) (mg mb : Str → Option Value) (dp un : Nat) (gd : Option (List Code)) (cn : Str) (cs : Scope) (a : Addr) (ccd : Value) (cl : List (Str × Addr)) (outer : List Env) (A₀ : Around) (base h₀ : Heap) (L : Addr) (m : Str → Option Value) (s : Shared) (Q E : Value → Shared → Prop) (src ce : Addr) (osrc oce : Obj) : Bag := ⟨fun ix9 => [a, L, src, ce].getD ix9 (bag0.fA 0), fun ix9 => [].getD ix9 (bag0.fT 0), fun ix9 => [].getD ix9 (bag0.fI 0), fun ix9 => [dp, un].getD ix9 (bag0.fN 0), fun ix9 => [ccd].getD ix9 (bag0.fV 0), fun ix9 => [osrc, oce].getD ix9 (bag0.fO 0), fun ix9 => [].getD ix9 (bag0.fVL 0), fun ix9 => [].getD ix9 (bag0.fIL 0), fun ix9 => [].getD ix9 (bag0.fKV 0), fun ix9 => [].getD ix9 (bag0.fKI 0), fun ix9 => [].getD ix9 (bag0.fAO 0), fun ix9 => [].getD ix9 (bag0.fU 0), fun ix9 => [].getD ix9 (bag0.fG 0), fun ix9 => [].getD ix9 (bag0.fPr 0), fun ix9 => [].getD ix9 (bag0.fEv 0), fun ix9 => [].getD ix9 (bag0.fSs 0), fun ix9 => [].getD ix9 (bag0.fEx 0), fun ix9 => [].getD ix9 (bag0.fQF 0), fun ix9 => [].getD ix9 (bag0.fJ 0), fun ix9 => [w].getD ix9 (bag0.fWo 0), fun ix9 => [mean].getD ix9 (bag0.fMe 0), fun ix9 => [mg, mb, m].getD ix9 (bag0.fM 0), fun ix9 => [gd].getD ix9 (bag0.fGD 0), fun ix9 => [cn].getD ix9 (bag0.fSt 0), fun ix9 => [cs].getD ix9 (bag0.fSc 0), fun ix9 => [cl].getD ix9 (bag0.fCL 0), fun ix9 => [outer].getD ix9 (bag0.fEn 0), fun ix9 => [A₀].getD ix9 (bag0.fAr 0), fun ix9 => [base, h₀].getD ix9 (bag0.fH 0), fun ix9 => [s].getD ix9 (bag0.fSh 0), fun ix9 => [Q, E].getD ix9 (bag0.fQ 0)⟩
theorem opsF {w mean mg mb dp un gd cn cs a ccd cl outer A₀ base h₀ L m s Q E src ce osrc oce} : opsF_S w mean mg mb dp un gd cn cs a ccd cl outer A₀ base h₀ L m s Q E src ce osrc oce := LopsF_all (LopsF_bag w mean mg mb dp un gd cn cs a ccd cl outer A₀ base h₀ L m s Q E src ce osrc oce)
end
theorem mt9 : True := by first | (walk1; done) | trivial
noncomputable def poolF_S (w : World) (mean : ExcName → Option Value) (mg mb : Str → Option Value) (dp un : Nat) (gd : Option (List Code)) (cn : Str) (cs : Scope) (a : Addr) (ccd : Value) (cl : List (Str × Addr)) (outer : List Env) (A₀ : Around) (base h₀ : Heap) (L : Addr) (m : Str → Option Value) (s : Shared) (Q E : Value → Shared → Prop) (rest : List (Addr × Obj)) (scr : Addr) (vs : List Value) (ns : List Int) (t0 : Tok) : Prop := ∀ (B : Below A₀ base outer h₀) (F : Fr h₀ L s.heap m) (X : (lay.heap_1 w.params).In h₀) (N : News h₀ L s.heap (rest)) (T' : Top view (looseW view [Str.ofString "HintWork"]) mean mg mb h₀) (hk : cs.kind = .function) (hdp : dp + 3 < recursionLimit) (hun : un + 104 < cLine)  (hl : h₀.IsList scr vs.toArray) (hi : IntsAre vs ns) (hn : ns.length ≤ 63)
 (hret : ∀ h' tk' D a9 b9 ta9 tb9 k9, Fr h₀ L h' m → News h₀ L h' ((D, listOf (List.toArray [Value.int a9 ta9, Value.int b9 tb9]) k9) :: rest) → (∀ p ∈ rest, @LT.lt Nat _ p.1 D) → 0 ≤ a9 → 0 ≤ b9 → b9 < 2147483647 → Q (.ref D) { s with heap := h', toks := tk' }),
  wpAny (model PySem.Challenge.rw_on0247_01.row.toRowW.prog w) (ktrTop dp un gd cn cs L a ccd cl outer) (call (.ref 487) [.ref scr, .int 0 t0]) Q E s
noncomputable def LpoolF_S (p : Bag) : Prop := (poolF_S (p.fWo 0) (p.fMe 0) (p.fM 0) (p.fM 1) (p.fN 0) (p.fN 1) (p.fGD 0) (p.fSt 0) (p.fSc 0) (p.fA 0) (p.fV 0) (p.fCL 0) (p.fEn 0) (p.fAr 0) (p.fH 0) (p.fH 1) (p.fA 1) (p.fM 2) (p.fSh 0) (p.fQ 0) (p.fQ 1) (p.fAO 0) (p.fA 2) (p.fVL 0) (p.fIL 0) (p.fT 0))
noncomputable def LpoolF_c : Bag := skc LpoolF_S
theorem poolF_at : poolF_S (LpoolF_c.fWo 0) (LpoolF_c.fMe 0) (LpoolF_c.fM 0) (LpoolF_c.fM 1) (LpoolF_c.fN 0) (LpoolF_c.fN 1) (LpoolF_c.fGD 0) (LpoolF_c.fSt 0) (LpoolF_c.fSc 0) (LpoolF_c.fA 0) (LpoolF_c.fV 0) (LpoolF_c.fCL 0) (LpoolF_c.fEn 0) (LpoolF_c.fAr 0) (LpoolF_c.fH 0) (LpoolF_c.fH 1) (LpoolF_c.fA 1) (LpoolF_c.fM 2) (LpoolF_c.fSh 0) (LpoolF_c.fQ 0) (LpoolF_c.fQ 1) (LpoolF_c.fAO 0) (LpoolF_c.fA 2) (LpoolF_c.fVL 0) (LpoolF_c.fIL 0) (LpoolF_c.fT 0) :=
  (by intro hz8; exact hz8 : (have hz8 : poolF_S (LpoolF_c.fWo 0) (LpoolF_c.fMe 0) (LpoolF_c.fM 0) (LpoolF_c.fM 1) (LpoolF_c.fN 0) (LpoolF_c.fN 1) (LpoolF_c.fGD 0) (LpoolF_c.fSt 0) (LpoolF_c.fSc 0) (LpoolF_c.fA 0) (LpoolF_c.fV 0) (LpoolF_c.fCL 0) (LpoolF_c.fEn 0) (LpoolF_c.fAr 0) (LpoolF_c.fH 0) (LpoolF_c.fH 1) (LpoolF_c.fA 1) (LpoolF_c.fM 2) (LpoolF_c.fSh 0) (LpoolF_c.fQ 0) (LpoolF_c.fQ 1) (LpoolF_c.fAO 0) (LpoolF_c.fA 2) (LpoolF_c.fVL 0) (LpoolF_c.fIL 0) (LpoolF_c.fT 0) := (by
  refine (?layF0 : ∀ w mean mg mb dp un gd cn cs a ccd cl outer A₀ base h₀ L m s Q E rest scr vs ns t0, poolF_S w mean mg mb dp un gd cn cs a ccd cl outer A₀ base h₀ L m s Q E rest scr vs ns t0) (LpoolF_c.fWo 0) (LpoolF_c.fMe 0) (LpoolF_c.fM 0) (LpoolF_c.fM 1) (LpoolF_c.fN 0) (LpoolF_c.fN 1) (LpoolF_c.fGD 0) (LpoolF_c.fSt 0) (LpoolF_c.fSc 0) (LpoolF_c.fA 0) (LpoolF_c.fV 0) (LpoolF_c.fCL 0) (LpoolF_c.fEn 0) (LpoolF_c.fAr 0) (LpoolF_c.fH 0) (LpoolF_c.fH 1) (LpoolF_c.fA 1) (LpoolF_c.fM 2) (LpoolF_c.fSh 0) (LpoolF_c.fQ 0) (LpoolF_c.fQ 1) (LpoolF_c.fAO 0) (LpoolF_c.fA 2) (LpoolF_c.fVL 0) (LpoolF_c.fIL 0) (LpoolF_c.fT 0)
  intro w mean mg mb dp un gd cn cs a ccd cl outer A₀ base h₀ L m s Q E rest scr vs ns t0 B F X N T' hk hdp hun hl hi hn hret
  revert X; k_fill; intro X
  refine wpAny_call ?_
  k_dflt (refine' code_def ?k1q7 ?k2q7 ?k3q7 ?k4q7 ?k5q7 ?kAq7 ?kFq7 ?kKq7 ?k6q7 ?k7q7 ?k8q7 ?k9q7 ?kBq7 ?_ ?c2q7 ?c3q7 ?c4q7 ?c5q7; (case kAq7 => exact rfl); (case kFq7 => exact rfl); (case kKq7 => assumption); (case k1q7 => k_asm); (case k2q7 => k_asm); (case k3q7 => k_asm); (case k4q7 => k_asm); (case k5q7 => k_asm); (case k6q7 => k_is); (case k7q7 => k_is); (case k8q7 => ktr_room); (case k9q7 => exact BindsTo.of_eq rfl); (case c5q7 => decide); (case kBq7 => exact locs rfl); (case c2q7 => exact rfl); (case c3q7 => exact rfl); (case c4q7 => exact rfl); k_whole)
  k_extra "x_ske3"; intro FG' F1 N1 B' X' T1
  (try dsimp only); (try k_lift B'); (try k_extra "x_fold")
  have hl2 : Heap.IsList g' scr vs.toArray := by obtain ⟨o, e, r⟩ := hl; exact ⟨o, FG'.keep _ _ e, r⟩
  k_steps
  all_goals (refine hret _ _ _ _ _ _ _ _ (by k_asm) (by k_asm) (by assumption) (Int.mul_nonneg ?_ ?_) (Int.fmod_nonneg_of_pos _ (by decide)) (Int.fmod_lt_of_pos _ (by decide)) <;> split <;> omega)); poolF_S (LpoolF_c.fWo 0) (LpoolF_c.fMe 0) (LpoolF_c.fM 0) (LpoolF_c.fM 1) (LpoolF_c.fN 0) (LpoolF_c.fN 1) (LpoolF_c.fGD 0) (LpoolF_c.fSt 0) (LpoolF_c.fSc 0) (LpoolF_c.fA 0) (LpoolF_c.fV 0) (LpoolF_c.fCL 0) (LpoolF_c.fEn 0) (LpoolF_c.fAr 0) (LpoolF_c.fH 0) (LpoolF_c.fH 1) (LpoolF_c.fA 1) (LpoolF_c.fM 2) (LpoolF_c.fSh 0) (LpoolF_c.fQ 0) (LpoolF_c.fQ 1) (LpoolF_c.fAO 0) (LpoolF_c.fA 2) (LpoolF_c.fVL 0) (LpoolF_c.fIL 0) (LpoolF_c.fT 0)))
theorem LpoolF_all : ∀ p, LpoolF_S p := sk (poolF_at)
noncomputable def LpoolF_bag (w : World) (mean : ExcName → Option Value) (mg mb : Str → Option Value) (dp un : Nat) (gd : Option (List Code)) (cn : Str) (cs : Scope) (a : Addr) (ccd : Value) (cl : List (Str × Addr)) (outer : List Env) (A₀ : Around) (base h₀ : Heap) (L : Addr) (m : Str → Option Value) (s : Shared) (Q E : Value → Shared → Prop) (rest : List (Addr × Obj)) (scr : Addr) (vs : List Value) (ns : List Int) (t0 : Tok) : Bag := ⟨fun ix9 => [a, L, scr].getD ix9 (bag0.fA 0), fun ix9 => [t0].getD ix9 (bag0.fT 0), fun ix9 => [].getD ix9 (bag0.fI 0), fun ix9 => [dp, un].getD ix9 (bag0.fN 0), fun ix9 => [ccd].getD ix9 (bag0.fV 0), fun ix9 => [].getD ix9 (bag0.fO 0), fun ix9 => [vs].getD ix9 (bag0.fVL 0), fun ix9 => [ns].getD ix9 (bag0.fIL 0), fun ix9 => [].getD ix9 (bag0.fKV 0), fun ix9 => [].getD ix9 (bag0.fKI 0), fun ix9 => [rest].getD ix9 (bag0.fAO 0), fun ix9 => [].getD ix9 (bag0.fU 0), fun ix9 => [].getD ix9 (bag0.fG 0), fun ix9 => [].getD ix9 (bag0.fPr 0), fun ix9 => [].getD ix9 (bag0.fEv 0), fun ix9 => [].getD ix9 (bag0.fSs 0), fun ix9 => [].getD ix9 (bag0.fEx 0), fun ix9 => [].getD ix9 (bag0.fQF 0), fun ix9 => [].getD ix9 (bag0.fJ 0), fun ix9 => [w].getD ix9 (bag0.fWo 0), fun ix9 => [mean].getD ix9 (bag0.fMe 0), fun ix9 => [mg, mb, m].getD ix9 (bag0.fM 0), fun ix9 => [gd].getD ix9 (bag0.fGD 0), fun ix9 => [cn].getD ix9 (bag0.fSt 0), fun ix9 => [cs].getD ix9 (bag0.fSc 0), fun ix9 => [cl].getD ix9 (bag0.fCL 0), fun ix9 => [outer].getD ix9 (bag0.fEn 0), fun ix9 => [A₀].getD ix9 (bag0.fAr 0), fun ix9 => [base, h₀].getD ix9 (bag0.fH 0), fun ix9 => [s].getD ix9 (bag0.fSh 0), fun ix9 => [Q, E].getD ix9 (bag0.fQ 0)⟩
theorem poolF {w mean mg mb dp un gd cn cs a ccd cl outer A₀ base h₀ L m s Q E rest scr vs ns t0} : poolF_S w mean mg mb dp un gd cn cs a ccd cl outer A₀ base h₀ L m s Q E rest scr vs ns t0 := LpoolF_all (LpoolF_bag w mean mg mb dp un gd cn cs a ccd cl outer A₀ base h₀ L m s Q E rest scr vs ns t0)
section
local macro_rules | `(tactic| ktr_units) => `(tactic| k_extra "x_units #P26")
local macro_rules | `(tactic| k_room) => `(tactic| k_extra "x_room #P26")
local macro_rules | `(tactic| walk_at "eval Dict") => `(tactic| (k_here; k_dflt (refine' kdn_str ?q ?F ?N ?b ?a ?l ?e ?n ?_; (case q => rfl); (case F => k_asm); (case N => k_asm); (case b => exact Top.nolimit (by k_asm)); (case a => rfl); (case l => rfl); (case e => exact List.cons_ne_nil _ _); (case n => exact Nat.le_of_ble_eq_true rfl)); intro d' h' o' F' N' l1 lo' hd'; (try k_lt l1)))
theorem reg25 : True := by
  (k_with "x_units #P26" => first | ((have hcL9 := cLine_is; (simp only [units_under_make, units_in1, units_deeper, Around.mark_units, units_caller]); (try dsimp only [ktrTop]); omega)) | fail "no")
  (k_with "x_room #P26" => first | (ktr_room) | fail "no")
  trivial
theorem kcj_lt {D : Addr} {rest : List (Addr × Obj)} (h : AllLt D rest) : ∀ p ∈ rest, @LT.lt Nat _ p.1 D := fun p hp => allLt_mem h p hp
noncomputable def namedF_S (w : World) (mean : ExcName → Option Value) (mg mb : Str → Option Value) (dp un : Nat) (gd : Option (List Code)) (cn : Str) (cs : Scope) (a : Addr) (ccd : Value) (cl : List (Str × Addr)) (outer : List Env) (A₀ : Around) (base h₀ : Heap) (L : Addr) (m : Str → Option Value) (s : Shared) (Q E : Value → Shared → Prop) (rest : List (Addr × Obj)) (tg : Tok) : Prop := ∀ (B : Below A₀ base outer h₀) (F : Fr h₀ L s.heap m) (X : (lay.heap_1 w.params).In h₀) (N : News h₀ L s.heap (rest)) (T' : Top view (looseW view [Str.ofString "HintWork"]) mean mg mb h₀) (hk : cs.kind = .function) (hdp : dp + 3 < recursionLimit) (hun : un + 104 < cLine)  (hret : ∀ h' tk' R dR r1 r2 r3 r4 r5 r6, Fr h₀ L h' m → News h₀ L h' ((R, instObj 112 dR) :: (dR, dictOf (RndE w r1 r2 r3 r4 r5 r6) 3) ::  rest) → (∀ p ∈ rest, @LT.lt Nat _ p.1 dR) → @LT.lt Nat _ dR R → Q (.ref R) { s with heap := h', toks := tk' }),
  wpAny (model PySem.Challenge.rw_on0247_01.row.toRowW.prog w) (ktrTop dp un gd cn cs L a ccd cl outer) (call (.ref 123) [.str (Str.ofString "grid") tg]) Q E s
noncomputable def LnamedF_S (p : Bag) : Prop := (namedF_S (p.fWo 0) (p.fMe 0) (p.fM 0) (p.fM 1) (p.fN 0) (p.fN 1) (p.fGD 0) (p.fSt 0) (p.fSc 0) (p.fA 0) (p.fV 0) (p.fCL 0) (p.fEn 0) (p.fAr 0) (p.fH 0) (p.fH 1) (p.fA 1) (p.fM 2) (p.fSh 0) (p.fQ 0) (p.fQ 1) (p.fAO 0) (p.fT 0))
noncomputable def LnamedF_c : Bag := skc LnamedF_S
theorem namedF_at : namedF_S (LnamedF_c.fWo 0) (LnamedF_c.fMe 0) (LnamedF_c.fM 0) (LnamedF_c.fM 1) (LnamedF_c.fN 0) (LnamedF_c.fN 1) (LnamedF_c.fGD 0) (LnamedF_c.fSt 0) (LnamedF_c.fSc 0) (LnamedF_c.fA 0) (LnamedF_c.fV 0) (LnamedF_c.fCL 0) (LnamedF_c.fEn 0) (LnamedF_c.fAr 0) (LnamedF_c.fH 0) (LnamedF_c.fH 1) (LnamedF_c.fA 1) (LnamedF_c.fM 2) (LnamedF_c.fSh 0) (LnamedF_c.fQ 0) (LnamedF_c.fQ 1) (LnamedF_c.fAO 0) (LnamedF_c.fT 0) :=
  (by intro hz8; exact hz8 : (have hz8 : namedF_S (LnamedF_c.fWo 0) (LnamedF_c.fMe 0) (LnamedF_c.fM 0) (LnamedF_c.fM 1) (LnamedF_c.fN 0) (LnamedF_c.fN 1) (LnamedF_c.fGD 0) (LnamedF_c.fSt 0) (LnamedF_c.fSc 0) (LnamedF_c.fA 0) (LnamedF_c.fV 0) (LnamedF_c.fCL 0) (LnamedF_c.fEn 0) (LnamedF_c.fAr 0) (LnamedF_c.fH 0) (LnamedF_c.fH 1) (LnamedF_c.fA 1) (LnamedF_c.fM 2) (LnamedF_c.fSh 0) (LnamedF_c.fQ 0) (LnamedF_c.fQ 1) (LnamedF_c.fAO 0) (LnamedF_c.fT 0) := (by
  refine (?layF0 : ∀ w mean mg mb dp un gd cn cs a ccd cl outer A₀ base h₀ L m s Q E rest tg, namedF_S w mean mg mb dp un gd cn cs a ccd cl outer A₀ base h₀ L m s Q E rest tg) (LnamedF_c.fWo 0) (LnamedF_c.fMe 0) (LnamedF_c.fM 0) (LnamedF_c.fM 1) (LnamedF_c.fN 0) (LnamedF_c.fN 1) (LnamedF_c.fGD 0) (LnamedF_c.fSt 0) (LnamedF_c.fSc 0) (LnamedF_c.fA 0) (LnamedF_c.fV 0) (LnamedF_c.fCL 0) (LnamedF_c.fEn 0) (LnamedF_c.fAr 0) (LnamedF_c.fH 0) (LnamedF_c.fH 1) (LnamedF_c.fA 1) (LnamedF_c.fM 2) (LnamedF_c.fSh 0) (LnamedF_c.fQ 0) (LnamedF_c.fQ 1) (LnamedF_c.fAO 0) (LnamedF_c.fT 0)
  intro w mean mg mb dp un gd cn cs a ccd cl outer A₀ base h₀ L m s Q E rest tg B F X N T' hk hdp hun hret
  revert X; k_fill; intro X
  refine wpAny_call ?_
  k_dflt (refine' code_def ?k1q7 ?k2q7 ?k3q7 ?k4q7 ?k5q7 ?kAq7 ?kFq7 ?kKq7 ?k6q7 ?k7q7 ?k8q7 ?k9q7 ?kBq7 ?_ ?c2q7 ?c3q7 ?c4q7 ?c5q7; (case kAq7 => exact rfl); (case kFq7 => exact rfl); (case kKq7 => assumption); (case k1q7 => k_asm); (case k2q7 => k_asm); (case k3q7 => k_asm); (case k4q7 => k_asm); (case k5q7 => k_asm); (case k6q7 => k_is); (case k7q7 => k_is); (case k8q7 => ktr_room); (case k9q7 => first | exact BindsTo.of_eq rfl | exact binds_K (by k_in) rfl (by k_is) rfl rfl rfl); (case c5q7 => decide); (case kBq7 => exact locs rfl); (case c2q7 => exact rfl); (case c3q7 => exact rfl); (case c4q7 => exact rfl); k_whole)
  k_extra "x_ske3"; intro FG' F1 N1 B' X' T1
  (try dsimp only); (try k_lift B'); (try k_extra "x_fold")
  k_steps
  (with_reducible rename (_ ∧ _ ∧ _ ∧ _ ∧ _ ∧ _ ∧ _ ∧ AllLt _ rest) => l9)
  exact hret _ _ _ _ _ _ _ _ _ _ (by k_asm) (cb_drop (by k_asm) (by kcj_all)) (kcj_lt l9.2.2.2.2.2.2.2) (by repeat (first | assumption | refine And.intro (by omega) ?_ | omega))); namedF_S (LnamedF_c.fWo 0) (LnamedF_c.fMe 0) (LnamedF_c.fM 0) (LnamedF_c.fM 1) (LnamedF_c.fN 0) (LnamedF_c.fN 1) (LnamedF_c.fGD 0) (LnamedF_c.fSt 0) (LnamedF_c.fSc 0) (LnamedF_c.fA 0) (LnamedF_c.fV 0) (LnamedF_c.fCL 0) (LnamedF_c.fEn 0) (LnamedF_c.fAr 0) (LnamedF_c.fH 0) (LnamedF_c.fH 1) (LnamedF_c.fA 1) (LnamedF_c.fM 2) (LnamedF_c.fSh 0) (LnamedF_c.fQ 0) (LnamedF_c.fQ 1) (LnamedF_c.fAO 0) (LnamedF_c.fT 0)))
theorem LnamedF_all : ∀ p, LnamedF_S p := sk (namedF_at)
noncomputable def LnamedF_bag (w : World) (mean : ExcName → Option Value) (mg mb : Str → Option Value) (dp un : Nat) (gd : Option (List Code)) (cn : Str) (cs : Scope) (a : Addr) (ccd : Value) (cl : List (Str × Addr)) (outer : List Env) (A₀ : Around) (base h₀ : Heap) (L : Addr) (m : Str → Option Value) (s : Shared) (Q E : Value → Shared → Prop) (rest : List (Addr × Obj)) (tg : Tok) : Bag := ⟨fun ix9 => [a, L].getD ix9 (bag0.fA 0), fun ix9 => [tg].getD ix9 (bag0.fT 0), fun ix9 => [].getD ix9 (bag0.fI 0), fun ix9 => [dp, un].getD ix9 (bag0.fN 0), fun ix9 => [ccd].getD ix9 (bag0.fV 0), fun ix9 => [].getD ix9 (bag0.fO 0), fun ix9 => [].getD ix9 (bag0.fVL 0), fun ix9 => [].getD ix9 (bag0.fIL 0), fun ix9 => [].getD ix9 (bag0.fKV 0), fun ix9 => [].getD ix9 (bag0.fKI 0), fun ix9 => [rest].getD ix9 (bag0.fAO 0), fun ix9 => [].getD ix9 (bag0.fU 0), fun ix9 => [].getD ix9 (bag0.fG 0), fun ix9 => [].getD ix9 (bag0.fPr 0), fun ix9 => [].getD ix9 (bag0.fEv 0), fun ix9 => [].getD ix9 (bag0.fSs 0), fun ix9 => [].getD ix9 (bag0.fEx 0), fun ix9 => [].getD ix9 (bag0.fQF 0), fun ix9 => [].getD ix9 (bag0.fJ 0), fun ix9 => [w].getD ix9 (bag0.fWo 0), fun ix9 => [mean].getD ix9 (bag0.fMe 0), fun ix9 => [mg, mb, m].getD ix9 (bag0.fM 0), fun ix9 => [gd].getD ix9 (bag0.fGD 0), fun ix9 => [cn].getD ix9 (bag0.fSt 0), fun ix9 => [cs].getD ix9 (bag0.fSc 0), fun ix9 => [cl].getD ix9 (bag0.fCL 0), fun ix9 => [outer].getD ix9 (bag0.fEn 0), fun ix9 => [A₀].getD ix9 (bag0.fAr 0), fun ix9 => [base, h₀].getD ix9 (bag0.fH 0), fun ix9 => [s].getD ix9 (bag0.fSh 0), fun ix9 => [Q, E].getD ix9 (bag0.fQ 0)⟩
theorem namedF {w mean mg mb dp un gd cn cs a ccd cl outer A₀ base h₀ L m s Q E rest tg} : namedF_S w mean mg mb dp un gd cn cs a ccd cl outer A₀ base h₀ L m s Q E rest tg := LnamedF_all (LnamedF_bag w mean mg mb dp un gd cn cs a ccd cl outer A₀ base h₀ L m s Q E rest tg)
local macro_rules | `(tactic| walk_at $s:str) => `(tactic| k_extra $(Lean.Syntax.mkStrLit (s.getString ++ " #P26")))
theorem reg26 : True := by
  (k_with "call ref #P26" => first | ((k_here; (with_reducible show wpAny _ _ (call (Value.ref 123) _) _ _ _); k_dflt (apply namedF; (focus (k_asm)); (focus (k_asm)); (focus (k_asm)); (focus (k_asm)); (focus (k_asm)); (focus (first | exact rfl | assumption)); (focus (ktr_room)); (focus (ktr_units)); k_whole); (k_extra "x_in6"; k_extra "x_in4"; intro F'z9 N'z9 l1z9 l2z9); (try k_lt l1z9); (try dsimp only); (try k_extra "x_fold"))) | fail "no")
  trivial
noncomputable def stateF_S (w : World) (mean : ExcName → Option Value) (mg mb : Str → Option Value) (dp un : Nat) (gd : Option (List Code)) (cn : Str) (cs : Scope) (a : Addr) (ccd : Value) (cl : List (Str × Addr)) (outer : List Env) (A₀ : Around) (base h₀ : Heap) (L : Addr) (m : Str → Option Value) (s : Shared) (Q E : Value → Shared → Prop) (rest : List (Addr × Obj)) : Prop := ∀ (B : Below A₀ base outer h₀) (F : Fr h₀ L s.heap m) (X : (lay.heap_1 w.params).In h₀) (N : News h₀ L s.heap (rest)) (T' : Top view (looseW view [Str.ofString "HintWork"]) mean mg mb h₀) (hk : cs.kind = .function) (hdp : dp + 5 < recursionLimit) (hun : un + 120 < cLine)  (hret : ∀ h' tk' G dG R dR gv r1 r2 r3 r4 r5 r6, Fr h₀ L h' m → News h₀ L h' ((G, instObj 369 dG) :: (dG, dictOf (GrE w gv R) 18) :: (R, instObj 112 dR) :: (dR, dictOf (RndE w r1 r2 r3 r4 r5 r6) 3) ::  rest) → (∀ p ∈ rest, @LT.lt Nat _ p.1 dG) → @LT.lt Nat _ dG G ∧ @LT.lt Nat _ G dR ∧ @LT.lt Nat _ dR R → Q (.ref G) { s with heap := h', toks := tk' }),
  wpAny (model PySem.Challenge.rw_on0247_01.row.toRowW.prog w) (ktrTop dp un gd cn cs L a ccd cl outer) (call (.ref 369) []) Q E s
noncomputable def LstateF_S (p : Bag) : Prop := (stateF_S (p.fWo 0) (p.fMe 0) (p.fM 0) (p.fM 1) (p.fN 0) (p.fN 1) (p.fGD 0) (p.fSt 0) (p.fSc 0) (p.fA 0) (p.fV 0) (p.fCL 0) (p.fEn 0) (p.fAr 0) (p.fH 0) (p.fH 1) (p.fA 1) (p.fM 2) (p.fSh 0) (p.fQ 0) (p.fQ 1) (p.fAO 0))
noncomputable def LstateF_c : Bag := skc LstateF_S
theorem stateF_at : stateF_S (LstateF_c.fWo 0) (LstateF_c.fMe 0) (LstateF_c.fM 0) (LstateF_c.fM 1) (LstateF_c.fN 0) (LstateF_c.fN 1) (LstateF_c.fGD 0) (LstateF_c.fSt 0) (LstateF_c.fSc 0) (LstateF_c.fA 0) (LstateF_c.fV 0) (LstateF_c.fCL 0) (LstateF_c.fEn 0) (LstateF_c.fAr 0) (LstateF_c.fH 0) (LstateF_c.fH 1) (LstateF_c.fA 1) (LstateF_c.fM 2) (LstateF_c.fSh 0) (LstateF_c.fQ 0) (LstateF_c.fQ 1) (LstateF_c.fAO 0) :=
  (by intro hz8; exact hz8 : (have hz8 : stateF_S (LstateF_c.fWo 0) (LstateF_c.fMe 0) (LstateF_c.fM 0) (LstateF_c.fM 1) (LstateF_c.fN 0) (LstateF_c.fN 1) (LstateF_c.fGD 0) (LstateF_c.fSt 0) (LstateF_c.fSc 0) (LstateF_c.fA 0) (LstateF_c.fV 0) (LstateF_c.fCL 0) (LstateF_c.fEn 0) (LstateF_c.fAr 0) (LstateF_c.fH 0) (LstateF_c.fH 1) (LstateF_c.fA 1) (LstateF_c.fM 2) (LstateF_c.fSh 0) (LstateF_c.fQ 0) (LstateF_c.fQ 1) (LstateF_c.fAO 0) := (by
  refine (?layF0 : ∀ w mean mg mb dp un gd cn cs a ccd cl outer A₀ base h₀ L m s Q E rest, stateF_S w mean mg mb dp un gd cn cs a ccd cl outer A₀ base h₀ L m s Q E rest) (LstateF_c.fWo 0) (LstateF_c.fMe 0) (LstateF_c.fM 0) (LstateF_c.fM 1) (LstateF_c.fN 0) (LstateF_c.fN 1) (LstateF_c.fGD 0) (LstateF_c.fSt 0) (LstateF_c.fSc 0) (LstateF_c.fA 0) (LstateF_c.fV 0) (LstateF_c.fCL 0) (LstateF_c.fEn 0) (LstateF_c.fAr 0) (LstateF_c.fH 0) (LstateF_c.fH 1) (LstateF_c.fA 1) (LstateF_c.fM 2) (LstateF_c.fSh 0) (LstateF_c.fQ 0) (LstateF_c.fQ 1) (LstateF_c.fAO 0)
  intro w mean mg mb dp un gd cn cs a ccd cl outer A₀ base h₀ L m s Q E rest B F X N T' hk hdp hun hret
  revert X; k_fill; intro X
  k_dflt (refine' call_cls ?q1q7 ?q2q7 ?q3q7 ?q4q7 ?q5q7 ?q6q7 ?_; (case q1q7 => k_asm); (case q2q7 => k_asm); (case q3q7 => k_asm); (case q4q7 => k_is); (case q5q7 => k_is); (case q6q7 => k_is); k_whole)
  intro x' d' h' F' N' l1 l2; (try k_lt l1); (try k_lt2 l2); (try k_sweep)
  k_dflt (refine' code_def ?k1q7 ?k2q7 ?k3q7 ?k4q7 ?k5q7 ?kAq7 ?kFq7 ?kKq7 ?k6q7 ?k7q7 ?k8q7 ?k9q7 ?kBq7 ?_ ?c2q7 ?c3q7 ?c4q7 ?c5q7; (case kAq7 => exact rfl); (case kFq7 => exact rfl); (case kKq7 => assumption); (case k1q7 => k_asm); (case k2q7 => k_asm); (case k3q7 => k_asm); (case k4q7 => k_asm); (case k5q7 => k_asm); (case k6q7 => k_is); (case k7q7 => k_is); (case k8q7 => ktr_room); (case k9q7 => first | exact BindsTo.of_eq rfl | exact binds_K (by k_in) rfl (by k_is) rfl rfl rfl); (case c5q7 => decide); (case kBq7 => exact locs rfl); (case c2q7 => exact rfl); (case c3q7 => exact rfl); (case c4q7 => exact rfl); k_whole)
  k_extra "x_ske3"; intro FG' F1 N1 B' X' T1
  (try dsimp only); (try k_lift B'); (try k_extra "x_fold")
  k_steps
  exact hret _ _ _ _ _ _ (GV.mk (fun i => List.getD [.none, _, _, _, _, _, _, _, _, _, _, _, _, _, _, .none, .none, _] i .none) (fun i => List.getD [0, _, _, _, _, _, _, _, _, _, _, _, _, _, _, _, _, _, _, _, _] i 0)) _ _ _ _ _ _ (by k_asm) (cb_drop (by k_asm) (by kcj_all)) (by assumption) (by repeat (first | assumption | refine And.intro (by omega) ?_ | omega))); stateF_S (LstateF_c.fWo 0) (LstateF_c.fMe 0) (LstateF_c.fM 0) (LstateF_c.fM 1) (LstateF_c.fN 0) (LstateF_c.fN 1) (LstateF_c.fGD 0) (LstateF_c.fSt 0) (LstateF_c.fSc 0) (LstateF_c.fA 0) (LstateF_c.fV 0) (LstateF_c.fCL 0) (LstateF_c.fEn 0) (LstateF_c.fAr 0) (LstateF_c.fH 0) (LstateF_c.fH 1) (LstateF_c.fA 1) (LstateF_c.fM 2) (LstateF_c.fSh 0) (LstateF_c.fQ 0) (LstateF_c.fQ 1) (LstateF_c.fAO 0)))
theorem LstateF_all : ∀ p, LstateF_S p := sk (stateF_at)
noncomputable def LstateF_bag (w : World) (mean : ExcName → Option Value) (mg mb : Str → Option Value) (dp un : Nat) (gd : Option (List Code)) (cn : Str) (cs : Scope) (a : Addr) (ccd : Value) (cl : List (Str × Addr)) (outer : List Env) (A₀ : Around) (base h₀ : Heap) (L : Addr) (m : Str → Option Value) (s : Shared) (Q E : Value → Shared → Prop) (rest : List (Addr × Obj)) : Bag := ⟨fun ix9 => [a, L].getD ix9 (bag0.fA 0), fun ix9 => [].getD ix9 (bag0.fT 0), fun ix9 => [].getD ix9 (bag0.fI 0), fun ix9 => [dp, un].getD ix9 (bag0.fN 0), fun ix9 => [ccd].getD ix9 (bag0.fV 0), fun ix9 => [].getD ix9 (bag0.fO 0), fun ix9 => [].getD ix9 (bag0.fVL 0), fun ix9 => [].getD ix9 (bag0.fIL 0), fun ix9 => [].getD ix9 (bag0.fKV 0), fun ix9 => [].getD ix9 (bag0.fKI 0), fun ix9 => [rest].getD ix9 (bag0.fAO 0), fun ix9 => [].getD ix9 (bag0.fU 0), fun ix9 => [].getD ix9 (bag0.fG 0), fun ix9 => [].getD ix9 (bag0.fPr 0), fun ix9 => [].getD ix9 (bag0.fEv 0), fun ix9 => [].getD ix9 (bag0.fSs 0), fun ix9 => [].getD ix9 (bag0.fEx 0), fun ix9 => [].getD ix9 (bag0.fQF 0), fun ix9 => [].getD ix9 (bag0.fJ 0), fun ix9 => [w].getD ix9 (bag0.fWo 0), fun ix9 => [mean].getD ix9 (bag0.fMe 0), fun ix9 => [mg, mb, m].getD ix9 (bag0.fM 0), fun ix9 => [gd].getD ix9 (bag0.fGD 0), fun ix9 => [cn].getD ix9 (bag0.fSt 0), fun ix9 => [cs].getD ix9 (bag0.fSc 0), fun ix9 => [cl].getD ix9 (bag0.fCL 0), fun ix9 => [outer].getD ix9 (bag0.fEn 0), fun ix9 => [A₀].getD ix9 (bag0.fAr 0), fun ix9 => [base, h₀].getD ix9 (bag0.fH 0), fun ix9 => [s].getD ix9 (bag0.fSh 0), fun ix9 => [Q, E].getD ix9 (bag0.fQ 0)⟩
theorem stateF {w mean mg mb dp un gd cn cs a ccd cl outer A₀ base h₀ L m s Q E rest} : stateF_S w mean mg mb dp un gd cn cs a ccd cl outer A₀ base h₀ L m s Q E rest := LstateF_all (LstateF_bag w mean mg mb dp un gd cn cs a ccd cl outer A₀ base h₀ L m s Q E rest)
theorem reg27 : True := by
  (k_with "call ref #P26" => first | ((k_here; (with_reducible show wpAny _ _ (call (Value.ref 369) _) _ _ _); k_dflt (apply stateF; (focus (k_asm)); (focus (k_asm)); (focus (k_asm)); (focus (k_asm)); (focus (k_asm)); (focus (first | exact rfl | assumption)); (focus (ktr_room)); (focus (ktr_units)); k_whole); (k_extra "x_in6"; k_extra "x_in6"; k_extra "x_in1"; intro F'z9 N'z9 l1z9 l2z9); (try k_lt l1z9); (try dsimp only); (try k_extra "x_fold"))) | fail "no")
  trivial
theorem stackF {w : World} {mean : ExcName → Option Value} {mg mb : Str → Option Value} {dp un : Nat} {gd : Option (List Code)} {cn : Str} {cs : Scope} {a : Addr} {ccd : Value} {cl : List (Str × Addr)} {outer : List Env} {A₀ : Around} {base h₀ : Heap} {L : Addr} {m : Str → Option Value} {s : Shared} {Q E : Value → Shared → Prop}
   {rest : List (Addr × Obj)} {tg : Tok}
   (B : Below A₀ base outer h₀) (F : Fr h₀ L s.heap m) (X : (lay.heap_1 w.params).In h₀) (N : News h₀ L s.heap (rest)) (T' : Top view (looseW view [Str.ofString "HintWork"]) mean mg mb h₀) (hk : cs.kind = .function) (hdp : dp + 3 < recursionLimit) (hun : un + 104 < cLine) 
   (hret : ∀ h' tk' S dS nl t1 t2 tm, Fr h₀ L h' m → News h₀ L h' ((S, instObj 425 dS) :: (dS, dictOf (StkE w t1 t2 tm nl) 2) :: (nl, listOf (List.toArray ([] : List Value)) 0) ::  rest) → (∀ p ∈ rest, @LT.lt Nat _ p.1 dS) → @LT.lt Nat _ dS S ∧ @LT.lt Nat _ S nl → Q (.ref S) { s with heap := h', toks := tk' }) :
   wpAny (model PySem.Challenge.rw_on0247_01.row.toRowW.prog w) (ktrTop dp un gd cn cs L a ccd cl outer) (call (.ref 425) [.int 12 tg]) Q E s :=
  (by intro hz8; exact hz8 : (have hz8 : wpAny (model PySem.Challenge.rw_on0247_01.row.toRowW.prog w) (ktrTop dp un gd cn cs L a ccd cl outer) (call (.ref 425) [.int 12 tg]) Q E s := (by
  revert X; k_fill; intro X
  k_dflt (refine' call_cls ?q1q7 ?q2q7 ?q3q7 ?q4q7 ?q5q7 ?q6q7 ?_; (case q1q7 => k_asm); (case q2q7 => k_asm); (case q3q7 => k_asm); (case q4q7 => k_is); (case q5q7 => k_is); (case q6q7 => k_is); k_whole)
  intro x' d' h' F' N' l1 l2; (try k_lt l1); (try k_lt2 l2); (try k_sweep)
  k_dflt (refine' code_def ?k1q7 ?k2q7 ?k3q7 ?k4q7 ?k5q7 ?kAq7 ?kFq7 ?kKq7 ?k6q7 ?k7q7 ?k8q7 ?k9q7 ?kBq7 ?_ ?c2q7 ?c3q7 ?c4q7 ?c5q7; (case kAq7 => exact rfl); (case kFq7 => exact rfl); (case kKq7 => assumption); (case k1q7 => k_asm); (case k2q7 => k_asm); (case k3q7 => k_asm); (case k4q7 => k_asm); (case k5q7 => k_asm); (case k6q7 => k_is); (case k7q7 => k_is); (case k8q7 => ktr_room); (case k9q7 => first | exact BindsTo.of_eq rfl | exact binds_K (by k_in) rfl (by k_is) rfl rfl rfl); (case c5q7 => decide); (case kBq7 => exact locs rfl); (case c2q7 => exact rfl); (case c3q7 => exact rfl); (case c4q7 => exact rfl); k_whole)
  k_extra "x_ske3"; intro FG' F1 N1 B' X' T1
  (try dsimp only); (try k_lift B'); (try k_extra "x_fold")
  k_steps
  exact hret _ _ _ _ _ _ _ _ (by k_asm) (cb_drop (by k_asm) (by kcj_all)) (by assumption) (by repeat (first | assumption | refine And.intro (by omega) ?_ | omega))); wpAny (model PySem.Challenge.rw_on0247_01.row.toRowW.prog w) (ktrTop dp un gd cn cs L a ccd cl outer) (call (.ref 425) [.int 12 tg]) Q E s))
theorem reg28 : True := by
  (k_with "call ref #P26" => first | ((k_here; (with_reducible show wpAny _ _ (call (Value.ref 425) _) _ _ _); k_dflt (apply stackF; (focus (k_asm)); (focus (k_asm)); (focus (k_asm)); (focus (k_asm)); (focus (k_asm)); (focus (first | exact rfl | assumption)); (focus (ktr_room)); (focus (ktr_units)); k_whole); (k_extra "x_in6"; k_extra "x_in2"; intro F'z9 N'z9 l1z9 l2z9); (try k_lt l1z9); (try dsimp only); (try k_extra "x_fold"))) | fail "no")
  trivial
noncomputable def workF_S (w : World) (mean : ExcName → Option Value) (mg mb : Str → Option Value) (dp un : Nat) (gd : Option (List Code)) (cn : Str) (cs : Scope) (a : Addr) (ccd : Value) (cl : List (Str × Addr)) (outer : List Env) (A₀ : Around) (base h₀ : Heap) (L : Addr) (m : Str → Option Value) (s : Shared) (Q E : Value → Shared → Prop) (rest : List (Addr × Obj)) (zn cv sc : Addr) (ta tb tc : Tok) : Prop := ∀ (B : Below A₀ base outer h₀) (F : Fr h₀ L s.heap m) (X : (lay.heap_1 w.params).In h₀) (N : News h₀ L s.heap (rest)) (T' : Top view (looseW view [Str.ofString "HintWork"]) mean mg mb h₀) (hk : cs.kind = .function) (hdp : dp + 8 < recursionLimit) (hun : un + 144 < cLine)  (hret : ∀ h' tk' W dW S dS nl sd sto G dG R dR u t1 t2 tm gv r1 r2 r3 r4 r5 r6, Fr h₀ L h' m → News h₀ L h' ((W, instObj 476 dW) :: (dW, dictOf (WrkE w u G S zn cv sd sc 12) 8) :: (S, instObj 425 dS) :: (dS, dictOf (StkE w t1 t2 tm nl) 2) :: (nl, listOf (List.toArray ([] : List Value)) 0) :: (sd, sto) :: (G, instObj 369 dG) :: (dG, dictOf (GrE w gv R) 18) :: (R, instObj 112 dR) :: (dR, dictOf (RndE w r1 r2 r3 r4 r5 r6) 3) ::  rest) → (∀ p ∈ rest, @LT.lt Nat _ p.1 dW) → @LT.lt Nat _ dW W ∧ @LT.lt Nat _ W dG ∧ @LT.lt Nat _ dG G ∧ @LT.lt Nat _ G dR ∧ @LT.lt Nat _ dR R ∧ @LT.lt Nat _ R dS ∧ @LT.lt Nat _ dS S ∧ @LT.lt Nat _ S nl ∧ @LT.lt Nat _ nl sd → (sd == sysModules) = false → sto.IsDictOf (PySem.intKind PySem.Challenge.rw_on0247_01.row.toRowW.prog w) [] → PyProof.V.FlatPairs PyData.int [] (kdfD []) → Q (.ref W) { s with heap := h', toks := tk' }),
  wpAny (model PySem.Challenge.rw_on0247_01.row.toRowW.prog w) (ktrTop dp un gd cn cs L a ccd cl outer) (call (.ref 476) [.ref zn, .ref cv, .int 12 ta, .int 12 tb, .int 700 tc, .ref sc]) Q E s
noncomputable def LworkF_S (p : Bag) : Prop := (workF_S (p.fWo 0) (p.fMe 0) (p.fM 0) (p.fM 1) (p.fN 0) (p.fN 1) (p.fGD 0) (p.fSt 0) (p.fSc 0) (p.fA 0) (p.fV 0) (p.fCL 0) (p.fEn 0) (p.fAr 0) (p.fH 0) (p.fH 1) (p.fA 1) (p.fM 2) (p.fSh 0) (p.fQ 0) (p.fQ 1) (p.fAO 0) (p.fA 2) (p.fA 3) (p.fA 4) (p.fT 0) (p.fT 1) (p.fT 2))
noncomputable def LworkF_c : Bag := skc LworkF_S
theorem workF_at : workF_S (LworkF_c.fWo 0) (LworkF_c.fMe 0) (LworkF_c.fM 0) (LworkF_c.fM 1) (LworkF_c.fN 0) (LworkF_c.fN 1) (LworkF_c.fGD 0) (LworkF_c.fSt 0) (LworkF_c.fSc 0) (LworkF_c.fA 0) (LworkF_c.fV 0) (LworkF_c.fCL 0) (LworkF_c.fEn 0) (LworkF_c.fAr 0) (LworkF_c.fH 0) (LworkF_c.fH 1) (LworkF_c.fA 1) (LworkF_c.fM 2) (LworkF_c.fSh 0) (LworkF_c.fQ 0) (LworkF_c.fQ 1) (LworkF_c.fAO 0) (LworkF_c.fA 2) (LworkF_c.fA 3) (LworkF_c.fA 4) (LworkF_c.fT 0) (LworkF_c.fT 1) (LworkF_c.fT 2) :=
  (by intro hz8; exact hz8 : (have hz8 : workF_S (LworkF_c.fWo 0) (LworkF_c.fMe 0) (LworkF_c.fM 0) (LworkF_c.fM 1) (LworkF_c.fN 0) (LworkF_c.fN 1) (LworkF_c.fGD 0) (LworkF_c.fSt 0) (LworkF_c.fSc 0) (LworkF_c.fA 0) (LworkF_c.fV 0) (LworkF_c.fCL 0) (LworkF_c.fEn 0) (LworkF_c.fAr 0) (LworkF_c.fH 0) (LworkF_c.fH 1) (LworkF_c.fA 1) (LworkF_c.fM 2) (LworkF_c.fSh 0) (LworkF_c.fQ 0) (LworkF_c.fQ 1) (LworkF_c.fAO 0) (LworkF_c.fA 2) (LworkF_c.fA 3) (LworkF_c.fA 4) (LworkF_c.fT 0) (LworkF_c.fT 1) (LworkF_c.fT 2) := (by
  refine (?layF0 : ∀ w mean mg mb dp un gd cn cs a ccd cl outer A₀ base h₀ L m s Q E rest zn cv sc ta tb tc, workF_S w mean mg mb dp un gd cn cs a ccd cl outer A₀ base h₀ L m s Q E rest zn cv sc ta tb tc) (LworkF_c.fWo 0) (LworkF_c.fMe 0) (LworkF_c.fM 0) (LworkF_c.fM 1) (LworkF_c.fN 0) (LworkF_c.fN 1) (LworkF_c.fGD 0) (LworkF_c.fSt 0) (LworkF_c.fSc 0) (LworkF_c.fA 0) (LworkF_c.fV 0) (LworkF_c.fCL 0) (LworkF_c.fEn 0) (LworkF_c.fAr 0) (LworkF_c.fH 0) (LworkF_c.fH 1) (LworkF_c.fA 1) (LworkF_c.fM 2) (LworkF_c.fSh 0) (LworkF_c.fQ 0) (LworkF_c.fQ 1) (LworkF_c.fAO 0) (LworkF_c.fA 2) (LworkF_c.fA 3) (LworkF_c.fA 4) (LworkF_c.fT 0) (LworkF_c.fT 1) (LworkF_c.fT 2)
  intro w mean mg mb dp un gd cn cs a ccd cl outer A₀ base h₀ L m s Q E rest zn cv sc ta tb tc B F X N T' hk hdp hun hret
  revert X; k_fill; intro X
  k_dflt (refine' call_cls ?q1q7 ?q2q7 ?q3q7 ?q4q7 ?q5q7 ?q6q7 ?_; (case q1q7 => k_asm); (case q2q7 => k_asm); (case q3q7 => k_asm); (case q4q7 => k_is); (case q5q7 => k_is); (case q6q7 => k_is); k_whole)
  intro x' d' h' F' N' l1 l2; (try k_lt l1); (try k_lt2 l2); (try k_sweep)
  k_dflt (refine' code_def ?k1q7 ?k2q7 ?k3q7 ?k4q7 ?k5q7 ?kAq7 ?kFq7 ?kKq7 ?k6q7 ?k7q7 ?k8q7 ?k9q7 ?kBq7 ?_ ?c2q7 ?c3q7 ?c4q7 ?c5q7; (case kAq7 => exact rfl); (case kFq7 => exact rfl); (case kKq7 => assumption); (case k1q7 => k_asm); (case k2q7 => k_asm); (case k3q7 => k_asm); (case k4q7 => k_asm); (case k5q7 => k_asm); (case k6q7 => k_is); (case k7q7 => k_is); (case k8q7 => ktr_room); (case k9q7 => first | exact BindsTo.of_eq rfl | exact binds_K (by k_in) rfl (by k_is) rfl rfl rfl); (case c5q7 => decide); (case kBq7 => exact locs rfl); (case c2q7 => exact rfl); (case c3q7 => exact rfl); (case c4q7 => exact rfl); k_whole)
  k_extra "x_ske3"; intro FG' F1 N1 B' X' T1
  (try dsimp only); (try k_lift B'); (try k_extra "x_fold")
  k_steps
  exact hret _ _ _ _ _ _ _ _ _ _ _ _ _ (WTok.mk _ _ _ _ _ _ _ _ _ _) _ _ _ _ _ _ _ _ _ _ (by k_asm) (cb_drop (by k_asm) (by kcj_all)) (by assumption) (by repeat (first | assumption | refine And.intro (by omega) ?_ | omega)) (by assumption) (by assumption) (by assumption)); workF_S (LworkF_c.fWo 0) (LworkF_c.fMe 0) (LworkF_c.fM 0) (LworkF_c.fM 1) (LworkF_c.fN 0) (LworkF_c.fN 1) (LworkF_c.fGD 0) (LworkF_c.fSt 0) (LworkF_c.fSc 0) (LworkF_c.fA 0) (LworkF_c.fV 0) (LworkF_c.fCL 0) (LworkF_c.fEn 0) (LworkF_c.fAr 0) (LworkF_c.fH 0) (LworkF_c.fH 1) (LworkF_c.fA 1) (LworkF_c.fM 2) (LworkF_c.fSh 0) (LworkF_c.fQ 0) (LworkF_c.fQ 1) (LworkF_c.fAO 0) (LworkF_c.fA 2) (LworkF_c.fA 3) (LworkF_c.fA 4) (LworkF_c.fT 0) (LworkF_c.fT 1) (LworkF_c.fT 2)))
theorem LworkF_all : ∀ p, LworkF_S p := sk (workF_at)
noncomputable def LworkF_bag (w : World) (mean : ExcName → Option Value) (mg mb : Str → Option Value) (dp un : Nat) (gd : Option (List Code)) (cn : Str) (cs : Scope) (a : Addr) (ccd : Value) (cl : List (Str × Addr)) (outer : List Env) (A₀ : Around) (base h₀ : Heap) (L : Addr) (m : Str → Option Value) (s : Shared) (Q E : Value → Shared → Prop) (rest : List (Addr × Obj)) (zn cv sc : Addr) (ta tb tc : Tok) : Bag := ⟨fun ix9 => [a, L, zn, cv, sc].getD ix9 (bag0.fA 0), fun ix9 => [ta, tb, tc].getD ix9 (bag0.fT 0), fun ix9 => [].getD ix9 (bag0.fI 0), fun ix9 => [dp, un].getD ix9 (bag0.fN 0), fun ix9 => [ccd].getD ix9 (bag0.fV 0), fun ix9 => [].getD ix9 (bag0.fO 0), fun ix9 => [].getD ix9 (bag0.fVL 0), fun ix9 => [].getD ix9 (bag0.fIL 0), fun ix9 => [].getD ix9 (bag0.fKV 0), fun ix9 => [].getD ix9 (bag0.fKI 0), fun ix9 => [rest].getD ix9 (bag0.fAO 0), fun ix9 => [].getD ix9 (bag0.fU 0), fun ix9 => [].getD ix9 (bag0.fG 0), fun ix9 => [].getD ix9 (bag0.fPr 0), fun ix9 => [].getD ix9 (bag0.fEv 0), fun ix9 => [].getD ix9 (bag0.fSs 0), fun ix9 => [].getD ix9 (bag0.fEx 0), fun ix9 => [].getD ix9 (bag0.fQF 0), fun ix9 => [].getD ix9 (bag0.fJ 0), fun ix9 => [w].getD ix9 (bag0.fWo 0), fun ix9 => [mean].getD ix9 (bag0.fMe 0), fun ix9 => [mg, mb, m].getD ix9 (bag0.fM 0), fun ix9 => [gd].getD ix9 (bag0.fGD 0), fun ix9 => [cn].getD ix9 (bag0.fSt 0), fun ix9 => [cs].getD ix9 (bag0.fSc 0), fun ix9 => [cl].getD ix9 (bag0.fCL 0), fun ix9 => [outer].getD ix9 (bag0.fEn 0), fun ix9 => [A₀].getD ix9 (bag0.fAr 0), fun ix9 => [base, h₀].getD ix9 (bag0.fH 0), fun ix9 => [s].getD ix9 (bag0.fSh 0), fun ix9 => [Q, E].getD ix9 (bag0.fQ 0)⟩
theorem workF {w mean mg mb dp un gd cn cs a ccd cl outer A₀ base h₀ L m s Q E rest zn cv sc ta tb tc} : workF_S w mean mg mb dp un gd cn cs a ccd cl outer A₀ base h₀ L m s Q E rest zn cv sc ta tb tc := LworkF_all (LworkF_bag w mean mg mb dp un gd cn cs a ccd cl outer A₀ base h₀ L m s Q E rest zn cv sc ta tb tc)
end
theorem mt10 : True := by first | (walk1; done) | trivial
theorem reg29 : True := by
  (k_with "call ref" => first | ((k_here; (with_reducible show wpAny _ _ (call (Value.ref 476) _) _ _ _); k_dflt (apply workF; (focus (k_asm)); (focus (k_asm)); (focus (k_asm)); (focus (k_asm)); (focus (k_asm)); (focus (first | exact rfl | assumption)); (focus (ktr_room)); (focus (ktr_units)); k_whole); (k_extra "x_in6"; k_extra "x_in6"; k_extra "x_in6"; k_extra "x_in6"; intro F'z9 N'z9 l1z9 l2z9 lo9z9 hd9z9 hf9z9); (try k_lt l1z9); (try dsimp only); (try k_extra "x_fold"))) | fail "no")
  trivial
theorem off_nd2 {led xs : List (Addr × Obj)} {l : List Nat} {p : List (Addr × Obj)} (nd : ND ((l ++ p.map (fun p => (p.1 : Nat))) ++ xs.map (fun p => (p.1 : Nat)))) (e : led = p ++ xs) : OwnOff led l := by
  subst e
  intro q hq b hb
  unfold ND at nd
  rw [List.append_assoc, ← List.map_append] at nd
  exact Ne.symm ((List.nodup_append.mp nd).2.2 b hb q.1 (List.mem_map.mpr ⟨q, hq, rfl⟩))
theorem nd_lift {p xs : List Nat} {D : Nat} (nd : ND (p ++ xs)) (h : ∀ y ∈ p ++ xs, y < D) : ND (D :: (p ++ xs)) := List.nodup_cons.mpr ⟨fun m => Nat.lt_irrefl _ (h D m), nd⟩
theorem heardT {w : World} {mean : ExcName → Option Value} {mg mb : Str → Option Value} {dp un : Nat} {gd : Option (List Code)} {cn : Str} {cs : Scope} {a : Addr} {ccd : Value} {cl : List (Str × Addr)} {outer : List Env} {A₀ : Around} {base h₀ : Heap} {L : Addr} {m : Str → Option Value} {s : Shared} {Q E : Value → Shared → Prop} {W dW S dS nl cv sd op bk bs bc bd src G dG R dR sc zn : Addr} {u : WTok} {t1 t2 tm : Tok} {gv : GV} {r1 r2 r3 r4 r5 r6 q1 q2 : Tok} {oo sto bo bdo : Obj} {vs cvs vb cvb : List Value} {k kc kb kcb k0 : Nat} {ns cns : List Int} {kvs kvsO : List (Int × Value)} {cst : List (Int × Int)} {a0 b0 : Int} {ta0 tb0 tc : Tok} {c : Int} {st xs : List (Addr × Obj)}
  (B : Below A₀ base outer h₀) (F : Fr h₀ L s.heap m) (X : (lay.heap_1 w.params).In h₀) (N : News h₀ L s.heap ((W, instObj 476 dW) :: (dW, dictOf (WrkE w u G S zn cv sd sc 12) 8) :: (S, instObj 425 dS) :: (dS, dictOf (StkE w t1 t2 tm nl) 2) :: (nl, listOf (List.toArray vs) k) :: (cv, listOf (List.toArray cvs) kc) :: (sd, sto) :: (op, oo) :: (bk, bo) :: (bs, listOf (List.toArray vb) kb) :: (bc, listOf (List.toArray cvb) kcb) :: (bd, bdo) :: (src, listOf (List.toArray [Value.int a0 ta0, Value.int b0 tb0]) k0) :: st)) (T' : Top view (looseW view [Str.ofString "HintWork"]) mean mg mb h₀) (hk : cs.kind = .function) (hdp : dp + 9 < recursionLimit) (hun : un + 152 < cLine)
  (hst : st = (G, instObj 369 dG) :: (dG, dictOf (GrE w gv R) 18) :: (R, instObj 112 dR) :: (dR, dictOf (RndE w r1 r2 r3 r4 r5 r6) 3) :: (sc, tupObj [Value.int 3 q1, Value.int 2 q2]) :: xs) (nd : ND ((W : Nat) :: (dW : Nat) :: (S : Nat) :: (dS : Nat) :: (nl : Nat) :: (cv : Nat) :: (sd : Nat) :: (op : Nat) :: (bk : Nat) :: (bs : Nat) :: (bc : Nat) :: (bd : Nat) :: (src : Nat) :: List.map (fun p => (p.1 : Nat)) st)) (hm : MinG base (outer.filterMap (fun x => x.frame)) h₀) (bok : BaseOK w mean mg mb base) (hc : OpCode c) (hoo : oo.IsDictOf (PySem.intKind PySem.Challenge.rw_on0247_01.row.toRowW.prog w) kvsO) (hval : PySem.valueAt kvsO c = some (Value.ref (opF c))) (hi : IntsAre vs ns) (hl : ns.length ≤ 12) (hb : ∀ x ∈ ns, -(10 ^ 10) < x ∧ x < 10 ^ 10) (hcn : IntsAre cvs cns) (hcl : cns.length = 3) (lo9 : (sd == sysModules) = false) (hd9 : sto.IsDictOf (PySem.intKind PySem.Challenge.rw_on0247_01.row.toRowW.prog w) kvs) (hf9 : PyProof.V.FlatPairs PyData.int kvs (kdfD cst)) (hc9 : cst.length ≤ 1000)
  (htrue : ∀ nsx cnx csx h' tk' nl' vs' k' cvs' kc' sto' kvs', opStep c ns cns cst = some (nsx, cnx, csx) → Fr h₀ L h' m → News h₀ L h' ((W, instObj 476 dW) :: (dW, dictOf (WrkE w u G S zn cv sd sc 12) 8) :: (S, instObj 425 dS) :: (dS, dictOf (StkE w t1 t2 tm nl') 2) :: (nl', listOf (List.toArray vs') k') :: (cv, listOf (List.toArray cvs') kc') :: (sd, sto') :: (op, oo) :: (bk, bo) :: (bs, listOf (List.toArray vb) kb) :: (bc, listOf (List.toArray cvb) kcb) :: (bd, bdo) :: (src, listOf (List.toArray [Value.int a0 ta0, Value.int b0 tb0]) k0) :: st) → IntsAre vs' nsx → IntsAre cvs' cnx → sto'.IsDictOf (PySem.intKind PySem.Challenge.rw_on0247_01.row.toRowW.prog w) kvs' → PyProof.V.FlatPairs PyData.int kvs' (kdfD csx) → ND ((W : Nat) :: (dW : Nat) :: (S : Nat) :: (dS : Nat) :: (nl' : Nat) :: (cv : Nat) :: (sd : Nat) :: (op : Nat) :: (bk : Nat) :: (bs : Nat) :: (bc : Nat) :: (bd : Nat) :: (src : Nat) :: List.map (fun p => (p.1 : Nat)) st) → Q (.bool true) { s with heap := h', toks := tk' })
  (hfalse : ∀ h' tk' g₀, opStep c ns cns cst = none → KtsTurn (outer.filterMap (fun x => x.frame)) h₀ g₀ → Fr g₀ L h' m → News g₀ L h' ((W, instObj 476 dW) :: (dW, dictOf (WrkE w u G S zn cv sd sc 12) 8) :: (S, instObj 425 dS) :: (dS, dictOf (StkE w t1 t2 tm nl) 2) :: (cv, listOf (List.toArray cvs) kc) :: (sd, sto) :: (op, oo) :: (bk, bo) :: (bs, listOf (List.toArray vb) kb) :: (bc, listOf (List.toArray cvb) kcb) :: (bd, bdo) :: (src, listOf (List.toArray [Value.int a0 ta0, Value.int b0 tb0]) k0) :: st) → Below A₀ base outer g₀ → Q (.bool false) { s with heap := h', toks := tk' }) :
  wpAny (model PySem.Challenge.rw_on0247_01.row.toRowW.prog w) (ktrTop dp un gd cn cs L a ccd cl outer) (call (.ref 550) [.ref W, .ref op, .int c tc]) Q E s := by
  subst hst
  have ndf := nd_fst (p := [(W : Nat), dW, S, dS, nl, cv, sd, op, bk, bs, bc, bd, src, G, dG, R, dR, sc]) nd
  have N1 := news_ixT (p := [(W, _), (dW, _), (S, _), (dS, _), (nl, _), (cv, _), (sd, _), (op, _), (bk, _), (bs, _), (bc, _), (bd, _), (src, _), (G, _), (dG, _), (R, _), (dR, _), (sc, _)]) (r := xs) N [0, 1, 2, 3, 4, 5, 6, 13, 14, 15, 16, 17, 7, 8, 9, 10, 11, 12] rfl
  have apA : Apart W dW S dS nl cv sd := ⟨(ne_ix ndf 0 1 rfl rfl (by decide)), (ne_ix ndf 0 2 rfl rfl (by decide)), (ne_ix ndf 0 3 rfl rfl (by decide)), (ne_ix ndf 0 4 rfl rfl (by decide)), (ne_ix ndf 0 5 rfl rfl (by decide)), (ne_ix ndf 0 6 rfl rfl (by decide)), (ne_ix ndf 1 2 rfl rfl (by decide)), (ne_ix ndf 1 3 rfl rfl (by decide)), (ne_ix ndf 1 4 rfl rfl (by decide)), (ne_ix ndf 1 5 rfl rfl (by decide)), (ne_ix ndf 1 6 rfl rfl (by decide)), (ne_ix ndf 2 3 rfl rfl (by decide)), (ne_ix ndf 2 4 rfl rfl (by decide)), (ne_ix ndf 2 5 rfl rfl (by decide)), (ne_ix ndf 2 6 rfl rfl (by decide)), (ne_ix ndf 3 4 rfl rfl (by decide)), (ne_ix ndf 3 5 rfl rfl (by decide)), (ne_ix ndf 3 6 rfl rfl (by decide)), (ne_ix ndf 4 5 rfl rfl (by decide)), (ne_ix ndf 4 6 rfl rfl (by decide)), (ne_ix ndf 5 6 rfl rfl (by decide))⟩
  have apC : Apart2 nl cv sd dS G dG R dR sc := ⟨(ne_ix ndf 13 4 rfl rfl (by decide)), (ne_ix ndf 13 5 rfl rfl (by decide)), (ne_ix ndf 13 6 rfl rfl (by decide)), (ne_ix ndf 13 3 rfl rfl (by decide)), (ne_ix ndf 14 4 rfl rfl (by decide)), (ne_ix ndf 14 5 rfl rfl (by decide)), (ne_ix ndf 14 6 rfl rfl (by decide)), (ne_ix ndf 14 3 rfl rfl (by decide)), (ne_ix ndf 15 4 rfl rfl (by decide)), (ne_ix ndf 15 5 rfl rfl (by decide)), (ne_ix ndf 15 6 rfl rfl (by decide)), (ne_ix ndf 15 3 rfl rfl (by decide)), (ne_ix ndf 16 4 rfl rfl (by decide)), (ne_ix ndf 16 5 rfl rfl (by decide)), (ne_ix ndf 16 6 rfl rfl (by decide)), (ne_ix ndf 16 3 rfl rfl (by decide)), (ne_ix ndf 17 4 rfl rfl (by decide)), (ne_ix ndf 17 5 rfl rfl (by decide)), (ne_ix ndf 17 6 rfl rfl (by decide)), (ne_ix ndf 17 3 rfl rfl (by decide))⟩
  have hoff : OwnOff ((op, oo) :: (bk, bo) :: (bs, listOf (List.toArray vb) kb) :: (bc, listOf (List.toArray cvb) kcb) :: (bd, bdo) :: (src, listOf (List.toArray [Value.int a0 ta0, Value.int b0 tb0]) k0) :: xs) [nl, dS, cv, sd] := off_nd2 (p := [(op, _), (bk, _), (bs, _), (bc, _), (bd, _), (src, _)]) (xs := xs) (nd_ixT (p := [(W : Nat), dW, S, dS, nl, cv, sd, op, bk, bs, bc, bd, src, G, dG, R, dR, sc]) nd [4, 3, 5, 6, 7, 8, 9, 10, 11, 12] rfl (by decide)) rfl
  refine heardF (rest := (bk, bo) :: (bs, listOf (List.toArray vb) kb) :: (bc, listOf (List.toArray cvb) kcb) :: (bd, bdo) :: (src, listOf (List.toArray [Value.int a0 ta0, Value.int b0 tb0]) k0) :: xs) B F X N1 T' hk (by omega) (by omega) hm bok hoff hc hoo hval apA apC (fun _ => rfl) hi hl hb hcn hcl lo9 hd9 hf9 hc9 ?_ ?_
  · intro nsx cnx csx h' tk' nl' vs' k' cvs' kc' sto' kvs' e F' N' I1 I2 d' f' l'
    refine htrue nsx cnx csx h' tk' nl' vs' k' cvs' kc' sto' kvs' e F' (news_ixT (p := [(W, _), (dW, _), (S, _), (dS, _), (nl', _), (cv, _), (sd, _), (G, _), (dG, _), (R, _), (dR, _), (sc, _), (op, _), (bk, _), (bs, _), (bc, _), (bd, _), (src, _)]) (r := xs) N' [0, 1, 2, 3, 4, 5, 6, 12, 13, 14, 15, 16, 17, 7, 8, 9, 10, 11] rfl) I1 I2 d' f' ?_
    rcases l' with rfl | l'
    · exact nd
    · have ndn := nd_new (D := nl') (news := (W, oo) :: (dW, oo) :: (S, oo) :: (dS, oo) :: (cv, oo) :: (sd, oo) :: (G, instObj 369 dG) :: (dG, dictOf (GrE w gv R) 18) :: (R, instObj 112 dR) :: (dR, dictOf (RndE w r1 r2 r3 r4 r5 r6) 3) :: (sc, tupObj [Value.int 3 q1, Value.int 2 q2]) :: (op, oo) :: (bk, bo) :: (bs, listOf (List.toArray vb) kb) :: (bc, listOf (List.toArray cvb) kcb) :: (bd, bdo) :: (src, listOf (List.toArray [Value.int a0 ta0, Value.int b0 tb0]) k0) :: xs) (nd_ixT (p := [(W : Nat), dW, S, dS, nl, cv, sd, op, bk, bs, bc, bd, src, G, dG, R, dR, sc]) nd [0, 1, 2, 3, 5, 6, 13, 14, 15, 16, 17, 7, 8, 9, 10, 11, 12] rfl (by decide)) rfl (fun p hp => allLt_mem (l := (W, oo) :: (dW, oo) :: (S, oo) :: (dS, oo) :: (cv, oo) :: (sd, oo) :: (G, instObj 369 dG) :: (dG, dictOf (GrE w gv R) 18) :: (R, instObj 112 dR) :: (dR, dictOf (RndE w r1 r2 r3 r4 r5 r6) 3) :: (sc, tupObj [Value.int 3 q1, Value.int 2 q2]) :: (op, oo) :: (bk, bo) :: (bs, listOf (List.toArray vb) kb) :: (bc, listOf (List.toArray cvb) kcb) :: (bd, bdo) :: (src, listOf (List.toArray [Value.int a0 ta0, Value.int b0 tb0]) k0) :: xs) ⟨l'.1, l'.2.1, l'.2.2.1, l'.2.2.2.1, l'.2.2.2.2.2.1, l'.2.2.2.2.2.2.1, l'.2.2.2.2.2.2.2⟩ p hp)
      exact nd_ixT (p := [(nl' : Nat), W, dW, S, dS, cv, sd, G, dG, R, dR, sc, op, bk, bs, bc, bd, src]) ndn [1, 2, 3, 4, 0, 5, 6, 12, 13, 14, 15, 16, 17, 7, 8, 9, 10, 11] rfl (by decide)
  · intro h' tk' g₀ e t F' N' B'
    exact hfalse h' tk' g₀ e t F' (news_ixT (p := [(W, _), (dW, _), (S, _), (dS, _), (cv, _), (sd, _), (G, _), (dG, _), (R, _), (dR, _), (sc, _), (op, _), (bk, _), (bs, _), (bc, _), (bd, _), (src, _)]) (r := xs) N' [0, 1, 2, 3, 4, 5, 11, 12, 13, 14, 15, 16, 6, 7, 8, 9, 10] rfl) B'
theorem heldT {w : World} {mean : ExcName → Option Value} {mg mb : Str → Option Value} {dp un : Nat} {gd : Option (List Code)} {cn : Str} {cs : Scope} {a : Addr} {ccd : Value} {cl : List (Str × Addr)} {outer : List Env} {A₀ : Around} {base h₀ : Heap} {L : Addr} {m : Str → Option Value} {s : Shared} {Q E : Value → Shared → Prop} {K W dW S dS nl cv sd op bk bs bc bd src G sc zn : Addr} {u : WTok} {t1 t2 tm : Tok} {oo sto bo bdo : Obj} {vs cvs vb cvb : List Value} {k kc kb kcb k0 kK : Nat} {ns cns : List Int} {kvb : List (Int × Value)} {cst : List (Int × Int)} {a0 b0 : Int} {ta0 tb0 tc : Tok} {c : Int} {st : List (Addr × Obj)}
  (B : Below A₀ base outer h₀) (F : Fr h₀ L s.heap m) (X : (lay.heap_1 w.params).In h₀) (N : News h₀ L s.heap ((K, listOf (List.toArray vb) kK) :: (W, instObj 476 dW) :: (dW, dictOf (WrkE w u G S zn cv sd sc 12) 8) :: (S, instObj 425 dS) :: (dS, dictOf (StkE w t1 t2 tm nl) 2) :: (nl, listOf (List.toArray vs) k) :: (cv, listOf (List.toArray cvs) kc) :: (sd, sto) :: (op, oo) :: (bk, bo) :: (bs, listOf (List.toArray vb) kb) :: (bc, listOf (List.toArray cvb) kcb) :: (bd, bdo) :: (src, listOf (List.toArray [Value.int a0 ta0, Value.int b0 tb0]) k0) :: st)) (T' : Top view (looseW view [Str.ofString "HintWork"]) mean mg mb h₀) (hk : cs.kind = .function) (hdp : dp + 9 < recursionLimit) (hun : un + 152 < cLine)
  (nd : ND ((K : Nat) :: (W : Nat) :: (dW : Nat) :: (S : Nat) :: (dS : Nat) :: (nl : Nat) :: (cv : Nat) :: (sd : Nat) :: (op : Nat) :: (bk : Nat) :: (bs : Nat) :: (bc : Nat) :: (bd : Nat) :: (src : Nat) :: List.map (fun p => (p.1 : Nat)) st)) (hbk : bo.IsDictOf (PySem.strKind PySem.Challenge.rw_on0247_01.row.toRowW.prog w) [(Str.ofString "stack", Value.ref bs), (Str.ofString "cvt", Value.ref bc), (Str.ofString "stored", Value.ref bd)]) (lob : (bk == sysModules) = false) (hi : IntsAre vb ns) (hc : IntsAre cvb cns) (hl : ns.length ≤ 12) (hb : ∀ x ∈ ns, -(10 ^ 10) < x ∧ x < 10 ^ 10) (hcl : cns.length = 3) (lo9 : (bd == sysModules) = false) (hd9 : bdo.IsDictOf (PySem.intKind PySem.Challenge.rw_on0247_01.row.toRowW.prog w) kvb) (hf9 : PyProof.V.FlatPairs PyData.int kvb (kdfD cst)) (hc9 : cst.length ≤ 1000)
  (htrue : ∀ nsx cnx csx h' tk' bo' D vs' k' cvs' kc' bdo' kvs', heldOp c ns cns cst = some (nsx, cnx, csx) → Fr h₀ L h' m → News h₀ L h' ((W, instObj 476 dW) :: (dW, dictOf (WrkE w u G S zn cv sd sc 12) 8) :: (S, instObj 425 dS) :: (dS, dictOf (StkE w t1 t2 tm nl) 2) :: (nl, listOf (List.toArray vs) k) :: (cv, listOf (List.toArray cvs) kc) :: (sd, sto) :: (op, oo) :: (bk, bo') :: (D, listOf (List.toArray vs') k') :: (bc, listOf (List.toArray cvs') kc') :: (bd, bdo') :: (src, listOf (List.toArray [Value.int a0 ta0, Value.int b0 tb0]) k0) :: st) → bo'.IsDictOf (PySem.strKind PySem.Challenge.rw_on0247_01.row.toRowW.prog w) [(Str.ofString "stack", Value.ref D), (Str.ofString "cvt", Value.ref bc), (Str.ofString "stored", Value.ref bd)] → IntsAre vs' nsx → IntsAre cvs' cnx → bdo'.IsDictOf (PySem.intKind PySem.Challenge.rw_on0247_01.row.toRowW.prog w) kvs' → PyProof.V.FlatPairs PyData.int kvs' (kdfD csx) → ND ((W : Nat) :: (dW : Nat) :: (S : Nat) :: (dS : Nat) :: (nl : Nat) :: (cv : Nat) :: (sd : Nat) :: (op : Nat) :: (bk : Nat) :: (D : Nat) :: (bc : Nat) :: (bd : Nat) :: (src : Nat) :: List.map (fun p => (p.1 : Nat)) st) → Q (.bool true) { s with heap := h', toks := tk' })
  (hfalse : ∀ h' tk' bo' x9, heldOp c ns cns cst = none → Fr h₀ L h' m → News h₀ L h' ((K, listOf (List.toArray vb) kK) :: (W, instObj 476 dW) :: (dW, dictOf (WrkE w u G S zn cv sd sc 12) 8) :: (S, instObj 425 dS) :: (dS, dictOf (StkE w t1 t2 tm nl) 2) :: (nl, listOf (List.toArray vs) k) :: (cv, listOf (List.toArray cvs) kc) :: (sd, sto) :: (op, oo) :: (bk, bo') :: (bc, listOf (List.toArray cvb) kcb) :: (bd, bdo) :: (src, listOf (List.toArray [Value.int a0 ta0, Value.int b0 tb0]) k0) :: st) → bo'.IsDictOf (PySem.strKind PySem.Challenge.rw_on0247_01.row.toRowW.prog w) [(Str.ofString "stack", Value.ref x9), (Str.ofString "cvt", Value.ref bc), (Str.ofString "stored", Value.ref bd)] → Q (.bool false) { s with heap := h', toks := tk' }) :
  wpAny (model PySem.Challenge.rw_on0247_01.row.toRowW.prog w) (ktrTop dp un gd cn cs L a ccd cl outer) (call (.ref 543) [.int c tc, .ref bk]) Q E s := by
  have ndf := nd_fst (p := [(K : Nat), W, dW, S, dS, nl, cv, sd, op, bk, bs, bc, bd, src]) nd
  have N1 := news_ixT (p := [(K, _), (W, _), (dW, _), (S, _), (dS, _), (nl, _), (cv, _), (sd, _), (op, _), (bk, _), (bs, _), (bc, _), (bd, _), (src, _)]) (r := st) N [9, 10, 11, 12, 0, 1, 2, 3, 4, 5, 6, 7, 8, 13] rfl
  have hoff : OwnOff ((K, listOf (List.toArray vb) kK) :: (W, instObj 476 dW) :: (dW, dictOf (WrkE w u G S zn cv sd sc 12) 8) :: (S, instObj 425 dS) :: (dS, dictOf (StkE w t1 t2 tm nl) 2) :: (nl, listOf (List.toArray vs) k) :: (cv, listOf (List.toArray cvs) kc) :: (sd, sto) :: (op, oo) :: (src, listOf (List.toArray [Value.int a0 ta0, Value.int b0 tb0]) k0) :: st) [bk, bs, bc, bd] := off_nd2 (p := [(K, _), (W, _), (dW, _), (S, _), (dS, _), (nl, _), (cv, _), (sd, _), (op, _), (src, _)]) (xs := st) (nd_ixT (p := [(K : Nat), W, dW, S, dS, nl, cv, sd, op, bk, bs, bc, bd, src]) nd [9, 10, 11, 12, 0, 1, 2, 3, 4, 5, 6, 7, 8, 13] rfl (by decide)) rfl
  refine heldF (rest := (K, listOf (List.toArray vb) kK) :: (W, instObj 476 dW) :: (dW, dictOf (WrkE w u G S zn cv sd sc 12) 8) :: (S, instObj 425 dS) :: (dS, dictOf (StkE w t1 t2 tm nl) 2) :: (nl, listOf (List.toArray vs) k) :: (cv, listOf (List.toArray cvs) kc) :: (sd, sto) :: (op, oo) :: (src, listOf (List.toArray [Value.int a0 ta0, Value.int b0 tb0]) k0) :: st) B F X N1 T' hk (by omega) (by omega) hoff hbk lob hi hc hl hb hcl lo9 hd9 hf9 hc9 ⟨(ne_ix ndf 9 10 rfl rfl (by decide)), (ne_ix ndf 9 11 rfl rfl (by decide)), (ne_ix ndf 9 12 rfl rfl (by decide)), (ne_ix ndf 10 11 rfl rfl (by decide)), (ne_ix ndf 10 12 rfl rfl (by decide)), (ne_ix ndf 11 12 rfl rfl (by decide))⟩ ?_ ?_
  · intro nsx cnx csx h' tk' bo' D vs' k' cvs' kc' bdo' kvs' e F' N' hbo I1 I2 d' f' l'
    have ndn := nd_new (D := D) (news := (bk, bo) :: (bs, bo) :: (bc, bo) :: (bd, bo) :: (K, listOf (List.toArray vb) kK) :: (W, instObj 476 dW) :: (dW, dictOf (WrkE w u G S zn cv sd sc 12) 8) :: (S, instObj 425 dS) :: (dS, dictOf (StkE w t1 t2 tm nl) 2) :: (nl, listOf (List.toArray vs) k) :: (cv, listOf (List.toArray cvs) kc) :: (sd, sto) :: (op, oo) :: (src, listOf (List.toArray [Value.int a0 ta0, Value.int b0 tb0]) k0) :: st) (nd_ixT (p := [(K : Nat), W, dW, S, dS, nl, cv, sd, op, bk, bs, bc, bd, src]) nd [9, 10, 11, 12, 0, 1, 2, 3, 4, 5, 6, 7, 8, 13] rfl (by decide)) rfl (fun p hp => allLt_mem (l := (bk, bo) :: (bs, bo) :: (bc, bo) :: (bd, bo) :: (K, listOf (List.toArray vb) kK) :: (W, instObj 476 dW) :: (dW, dictOf (WrkE w u G S zn cv sd sc 12) 8) :: (S, instObj 425 dS) :: (dS, dictOf (StkE w t1 t2 tm nl) 2) :: (nl, listOf (List.toArray vs) k) :: (cv, listOf (List.toArray cvs) kc) :: (sd, sto) :: (op, oo) :: (src, listOf (List.toArray [Value.int a0 ta0, Value.int b0 tb0]) k0) :: st) l' p hp)
    exact htrue nsx cnx csx h' tk' bo' D vs' k' cvs' kc' bdo' kvs' e F' (news_ixT (p := [(bk, _), (D, _), (bc, _), (bd, _), (K, _), (W, _), (dW, _), (S, _), (dS, _), (nl, _), (cv, _), (sd, _), (op, _), (src, _)]) (r := st) N' [5, 6, 7, 8, 9, 10, 11, 12, 0, 1, 2, 3, 13] rfl) hbo I1 I2 d' f' (nd_ixT (p := [(D : Nat), bk, bs, bc, bd, K, W, dW, S, dS, nl, cv, sd, op, src]) ndn [6, 7, 8, 9, 10, 11, 12, 13, 1, 0, 3, 4, 14] rfl (by decide))
  · intro h' tk' bo' e F' N' hbo
    obtain ⟨x9, hbo⟩ : ∃ x9, bo'.IsDictOf (PySem.strKind PySem.Challenge.rw_on0247_01.row.toRowW.prog w) [(Str.ofString "stack", Value.ref x9), (Str.ofString "cvt", Value.ref bc), (Str.ofString "stored", Value.ref bd)] := by
      rcases hbo with hbo | ⟨D, hbo⟩
      · exact ⟨_, hbo⟩
      · exact ⟨_, hbo⟩
    exact hfalse h' tk' bo' x9 e F' (news_ixT (p := [(bk, _), (bc, _), (bd, _), (K, _), (W, _), (dW, _), (S, _), (dS, _), (nl, _), (cv, _), (sd, _), (op, _), (src, _)]) (r := st) N' [3, 4, 5, 6, 7, 8, 9, 10, 11, 0, 1, 2, 12] rfl) hbo
section
abbrev TT := Addr × Int × Tok × Int × Tok
noncomputable def refT (t : TT) : Value := .ref t.1
noncomputable def objT (t : TT) : Addr × Obj := (t.1, tupObj [Value.int t.2.1 t.2.2.1, Value.int t.2.2.2.1 t.2.2.2.2])
noncomputable def numT (t : TT) : Int × Int := (t.2.1, t.2.2.2.1)
theorem len_refs {prog : Program} {w : World} {A : Around} {E : Value → Shared → Prop} {s : Shared} {g : Heap} {L D : Addr} {news : List (Addr × Obj)} {ts : List TT} {k : Nat} {Q : Value → Shared → Prop} (N : News g L s.heap news) (hm : (D, listOf (List.toArray (ts.map refT)) k) ∈ news) (hl : ts.length ≤ 3) (h : Q (.int (ts.length : Nat) (s.toks + 1)) { s with toks := s.toks + 1 + 1 }) :
    wpAny (model prog w) A (call (.builtin "len") [.ref D]) Q E s := by
  refine Calls.call_len_list (News.isList N hm) (by rw [List.size_toArray, List.length_map]; omega) ?_
  rw [List.size_toArray, List.length_map]; exact h
theorem code_pp {c : Int} (h : c = 115 ∨ c = 116 ∨ c = 117) : 0 ≤ 12 + 16 * (c - 115) ∧ 12 + 16 * (c - 115) ≤ 100 := by rcases h with rfl | rfl | rfl <;> decide
theorem code_cc {c : Int} (h : c = 115 ∨ c = 116 ∨ c = 117) : 0 ≤ 16 * (c - 115) ∧ 16 * (c - 115) ≤ 100 := by rcases h with rfl | rfl | rfl <;> decide
theorem code4 {c : Int} (h : c ∈ ([115, 115, 116, 117] : List Int)) : c = 115 ∨ c = 116 ∨ c = 117 := (by decide : ∀ c ∈ ([115, 115, 116, 117] : List Int), c = 115 ∨ c = 116 ∨ c = 117) c h
theorem nd_mid {D : Nat} {x s t : List Nat} (h : ND (D :: (x ++ (s ++ t)))) : ND (x ++ (s ++ D :: t)) := by
  unfold ND at *
  rw [← List.append_assoc] at h ⊢
  exact (List.perm_middle.symm.nodup_iff).mp h
theorem news_mid {g h : Heap} {L : Addr} {d : Addr × Obj} {x s t : List (Addr × Obj)} (N : News g L h (d :: (x ++ (s ++ t)))) : News g L h (x ++ (s ++ d :: t)) := fun p hp => N p (by
  simp only [List.mem_append, List.mem_cons] at hp ⊢
  rcases hp with hp | hp | hp | hp <;> simp [hp])
theorem pick_rev (l : List Value) (h : l.length ≤ 3) : (slicePick l.toArray none none (some (-1))).toList = l.reverse := by
  have e1 : sliceRange (sliceBounds none none (some (-1)) 1).1 (sliceBounds none none (some (-1)) 1).2.1 (sliceBounds none none (some (-1)) 1).2.2 = [0] := by decide
  have e2 : sliceRange (sliceBounds none none (some (-1)) 2).1 (sliceBounds none none (some (-1)) 2).2.1 (sliceBounds none none (some (-1)) 2).2.2 = [1, 0] := by decide
  have e3 : sliceRange (sliceBounds none none (some (-1)) 3).1 (sliceBounds none none (some (-1)) 3).2.1 (sliceBounds none none (some (-1)) 3).2.2 = [2, 1, 0] := by decide
  have key : ∀ (items : Array Value) (n : Nat) (idx : List Nat), items.size = n → sliceRange (sliceBounds none none (some (-1)) n).1 (sliceBounds none none (some (-1)) n).2.1 (sliceBounds none none (some (-1)) n).2.2 = idx → (slicePick items none none (some (-1))).toList = idx.filterMap (fun x => items[x]?) := by
    rintro items _ _ rfl e
    unfold slicePick
    rw [e]
  rcases l with _ | ⟨a, _ | ⟨b, _ | ⟨c, _ | ⟨d, r⟩⟩⟩⟩
  · rfl
  · exact (key _ 1 [0] rfl e1).trans rfl
  · exact (key _ 2 [1, 0] rfl e2).trans rfl
  · exact (key _ 3 [2, 1, 0] rfl e3).trans rfl
  · simp at h
theorem rev_at {ts : List TT} {i : Nat} {v : Value} (h : (ts.map refT).reverse[i]? = some v) : ∃ t, ts[ts.length - 1 - i]? = some t ∧ v = refT t ∧ i < ts.length ∧ t ∈ ts := by
  have hi : i < ts.length := by have := (List.getElem?_eq_some_iff.mp h).1; simpa using this
  rw [List.getElem?_reverse (by simpa using hi), List.length_map, List.getElem?_map] at h
  obtain ⟨t, ht, e⟩ := Option.map_eq_some_iff.mp h
  exact ⟨t, ht, e.symm, hi, List.mem_of_getElem? ht⟩
theorem fwd_at {ts : List TT} {i : Nat} {v : Value} (h : (ts.map refT)[i]? = some v) : ∃ t, ts[i]? = some t ∧ v = refT t ∧ i < ts.length ∧ t ∈ ts := by
  rw [List.getElem?_map] at h
  obtain ⟨t, ht, e⟩ := Option.map_eq_some_iff.mp h
  exact ⟨t, ht, e.symm, (List.getElem?_eq_some_iff.mp ht).1, List.mem_of_getElem? ht⟩
theorem flat_step {ts : List TT} {i : Nat} {t : TT} (h : ts[ts.length - 1 - i]? = some t) (hi : i < ts.length) : flatR ((ts.map numT).drop (ts.length - i)) ++ [t.2.2.2.1] ++ [t.2.1] = flatR ((ts.map numT).drop (ts.length - (i + 1))) := by
  have e : ts.length - i = (ts.length - (i + 1)) + 1 := sb1 hi
  have e2 : ts.length - 1 - i = ts.length - (i + 1) := by rw [Nat.sub_sub, Nat.add_comm]
  rw [e2] at h
  rw [flatR_drop (i := ts.length - (i + 1)) (q := numT t) (by rw [List.getElem?_map, h]; rfl), ← e]; rfl
theorem flat_len {ts : List TT} {i : Nat} (h : ts.length ≤ 3) (hi : i < ts.length) : ((flatR ((ts.map numT).drop (ts.length - i))).length : Int) ≤ 4 := by
  rw [flatR_len, List.length_drop, List.length_map]; omega
theorem mem3 {t : TT} {ts : List TT} (h : PairOK (ts.map numT)) (m : t ∈ ts) : 0 ≤ t.2.1 ∧ t.2.1 < 3 ∧ 0 ≤ t.2.2.2.1 ∧ t.2.2.2.1 < 1000 := h (numT t) (List.mem_map.mpr ⟨t, m, rfl⟩)
abbrev DJ1 (w : World) (W dW S dS cv sd G sc bk bc src zn nl : Addr) (t1 t2 tm : Tok) (bo : Obj) (vs cvs cvb : List Value) (k kc kcb : Nat) (st : List (Addr × Obj)) (pr : Addr) (u2 : WTok) (c : Int) (i : Nat) (nw : List (Addr × Obj)) : Prop :=
  ∃ (ts : List TT) (tt : List (Addr × Obj)) (kp : Nat) (a9 b9 : Int) (ta9 tb9 : Tok) (k9 : Nat), nw = (pr, listOf (List.toArray (ts.map refT)) kp) :: (W, instObj 476 dW) :: (dW, dictOf (WrkE w u2 G S zn cv sd sc (12 + 16 * (c - 115))) 8) :: (S, instObj 425 dS) :: (dS, dictOf (StkE w t1 t2 tm nl) 2) :: (nl, listOf (List.toArray vs) k) :: (cv, listOf (List.toArray cvs) kc) :: (bk, bo) :: (bc, listOf (List.toArray cvb) kcb) :: (src, listOf (List.toArray [Value.int a9 ta9, Value.int b9 tb9]) k9) :: (st ++ tt) ∧ 0 ≤ a9 ∧ 0 ≤ b9 ∧ b9 < 2147483647 ∧ ts.length = i ∧ PairOK (ts.map numT) ∧ (∀ t ∈ ts, objT t ∈ tt) ∧ ND ((pr : Nat) :: (W : Nat) :: (dW : Nat) :: (S : Nat) :: (dS : Nat) :: (nl : Nat) :: (cv : Nat) :: (bk : Nat) :: (bc : Nat) :: (src : Nat) :: List.map (fun p => (p.1 : Nat)) (st ++ tt))
abbrev DJ2 (w : World) (W dW S dS cv sd G sc bk bc src zn : Addr) (t1 t2 tm : Tok) (bo : Obj) (cvs cvb : List Value) (kc kcb : Nat) (pr : Addr) (u2 : WTok) (c : Int) (ts : List TT) (kp : Nat) (a9 b9 : Int) (ta9 tb9 : Tok) (k9 : Nat) (tl9 : List (Addr × Obj)) (rp nl' : Addr) (i : Nat) (nw : List (Addr × Obj)) : Prop :=
  ∃ (us : List Value) (kn : Nat), nw = (rp, listOf (List.toArray (ts.map refT).reverse) 0) :: (pr, listOf (List.toArray (ts.map refT)) kp) :: (W, instObj 476 dW) :: (dW, dictOf (WrkE w u2 G S zn cv sd sc (12 + 16 * (c - 115))) 8) :: (S, instObj 425 dS) :: (dS, dictOf (StkE w t1 t2 tm nl') 2) :: (nl', listOf (List.toArray us) kn) :: (cv, listOf (List.toArray cvs) kc) :: (bk, bo) :: (bc, listOf (List.toArray cvb) kcb) :: (src, listOf (List.toArray [Value.int a9 ta9, Value.int b9 tb9]) k9) :: tl9 ∧ IntsAre us (flatR ((ts.map numT).drop (ts.length - i)))
abbrev DJ3 (w : World) (W dW S dS cv sd G sc bk bc src zn : Addr) (t1 t2 tm : Tok) (bo : Obj) (cvs : List Value) (kc : Nat) (cns : List Int) (pr : Addr) (u2 : WTok) (c : Int) (ts : List TT) (kp : Nat) (a9 b9 : Int) (ta9 tb9 : Tok) (k9 : Nat) (tl9 : List (Addr × Obj)) (rp nl' : Addr) (us : List Value) (zt : Tok) (kz : Nat) (i : Nat) (nw : List (Addr × Obj)) : Prop :=
  ∃ (cvx : List Value) (kx : Nat), nw = (rp, listOf (List.toArray (ts.map refT).reverse) 0) :: (pr, listOf (List.toArray (ts.map refT)) kp) :: (W, instObj 476 dW) :: (dW, dictOf (WrkE w u2 G S zn cv sd sc (12 + 16 * (c - 115))) 8) :: (S, instObj 425 dS) :: (dS, dictOf (StkE w t1 t2 tm nl') 2) :: (nl', listOf (List.toArray (us ++ [Value.int (ts.length : Int) zt])) kz) :: (cv, listOf (List.toArray cvs) kc) :: (bk, bo) :: (bc, listOf (List.toArray cvx) kx) :: (src, listOf (List.toArray [Value.int a9 ta9, Value.int b9 tb9]) k9) :: tl9 ∧ IntsAre cvx (dputs cns ((ts.map numT).take i) (16 * (c - 115)) (12 + 16 * (c - 115)))
theorem PairOK.snoc {ps : List TT} {D : Addr} {p a : Int} {tp ta : Tok} (h : PairOK (ps.map numT)) (h1 : 0 ≤ p) (h2 : p < 3) (h3 : 0 ≤ a) (h4 : a < 1000) : PairOK ((ps ++ [(D, p, tp, a, ta)]).map numT) := fun q hq => by
  rw [List.map_append] at hq
  rcases List.mem_append.mp hq with hq | hq
  · exact h q hq
  · rw [List.mem_singleton.mp hq]; exact ⟨h1, h2, h3, h4⟩
theorem objs_snoc {ts : List TT} {tt : List (Addr × Obj)} {D : Addr} {p a : Int} {tp ta : Tok} (h : ∀ t ∈ ts, objT t ∈ tt) : ∀ t ∈ ts ++ [((D, p, tp, a, ta) : TT)], objT t ∈ (D, tupObj [Value.int p tp, Value.int a ta]) :: tt := fun t ht => by
  rcases List.mem_append.mp ht with ht | ht
  · exact .tail _ (h t ht)
  · rw [List.mem_singleton.mp ht]; exact .head _
theorem dl_end {g h : Heap} {L D pr I : Addr} {iob : Obj} {p a : Int} {tp ta : Tok} {ts : List TT} {kp : Nat} {x s t : List (Addr × Obj)} {ca : List Nat}
   (N : News g L h ((D, tupObj [Value.int p tp, Value.int a ta]) :: (I, iob) :: (pr, listOf (Array.push (List.toArray (ts.map refT)) (.ref D)) kp) :: (x ++ (s ++ t))))
   (nd : ND ((D : Nat) :: I :: pr :: (ca ++ List.map (fun p => (p.1 : Nat)) (s ++ t)))) (ea : x.map (fun p => (p.1 : Nat)) = ca)
   (h1 : 0 ≤ p) (h2 : p < 3) (h3 : 0 ≤ a) (h4 : a < 1000) (hps : PairOK (ts.map numT)) (hot : ∀ q ∈ ts, objT q ∈ t) :
   ∃ ts' : List TT, News g L h ((I, iob) :: (pr, listOf (List.toArray (ts'.map refT)) kp) :: (x ++ (s ++ (D, tupObj [Value.int p tp, Value.int a ta]) :: t))) ∧
     (∀ q ∈ ((pr, listOf (List.toArray (ts'.map refT)) kp) :: (x ++ (s ++ (D, tupObj [Value.int p tp, Value.int a ta]) :: t))), q.1 ≠ I) ∧
     ND ((pr : Nat) :: (ca ++ List.map (fun p => (p.1 : Nat)) (s ++ (D, tupObj [Value.int p tp, Value.int a ta]) :: t))) ∧ ts'.length = ts.length + 1 ∧ PairOK (ts'.map numT) ∧ ∀ q ∈ ts', objT q ∈ (D, tupObj [Value.int p tp, Value.int a ta]) :: t := by
  have e : ts.map refT ++ [Value.ref D] = (ts ++ [((D, p, tp, a, ta) : TT)]).map refT := by rw [List.map_append]; rfl
  rw [List.push_toArray, e] at N
  rw [List.map_append] at nd
  have nd2 := nd_mid (x := (I : Nat) :: pr :: ca) nd
  have hm : List.map (fun p => (p.1 : Nat)) (s ++ (D, tupObj [Value.int p tp, Value.int a ta]) :: t) = List.map (fun p => (p.1 : Nat)) s ++ (D : Nat) :: List.map (fun p => (p.1 : Nat)) t := by rw [List.map_append]; rfl
  refine ⟨_, news_mid (x := (I, iob) :: (pr, _) :: x) N, off_nd nd2 ?_, ?_, by simp, hps.snoc h1 h2 h3 h4, objs_snoc hot⟩
  · have hx : List.map (fun p => (p.1 : Nat)) (x ++ (s ++ (D, tupObj [Value.int p tp, Value.int a ta]) :: t)) = ca ++ (List.map (fun p => (p.1 : Nat)) s ++ (D : Nat) :: List.map (fun p => (p.1 : Nat)) t) := by rw [List.map_append, hm, ea]
    exact congrArg (List.cons (pr : Nat)) hx
  · rw [hm]; exact (List.nodup_cons.mp nd2).2
theorem dl_pack {g h : Heap} {L : Addr} {w : World} {W dW S dS cv sd G sc bk bc src zn nl : Addr} {u : WTok} {t1 t2 tm : Tok} {bo : Obj} {vs cvs cvb : List Value} {k kc kcb k0 : Nat} {a0 b0 : Int} {ta0 tb0 : Tok} {c : Int} {t9 : Tok} {pr : Addr} {ax bx : Int} {tax tbx : Tok} {kx : Nat} {st : List (Addr × Obj)} (nd : ND ((W : Nat) :: (dW : Nat) :: (S : Nat) :: (dS : Nat) :: (nl : Nat) :: (cv : Nat) :: (bk : Nat) :: (bc : Nat) :: (src : Nat) :: List.map (fun p => (p.1 : Nat)) (st)))
   (N : News g L h ((pr, listOf (List.toArray ([] : List Value)) 0) :: (W, instObj 476 dW) :: (dW, dictOf [keyE w "state" u.a1 (.ref G), keyE w "stack" u.a2 (.ref S), keyE w "zones" u.a3 (.ref zn), keyE w "cvt" u.a4 (.ref cv), keyE w "storage" u.a5 (.ref sd), keyE w "ppem" u.a6 (.int (12 + 16 * (c - 115)) t9), keyE w "point_size" u.a7 (.int 700 u.ps), keyE w "scale" u.a8 (.ref sc)] 8) :: (S, instObj 425 dS) :: (dS, dictOf (StkE w t1 t2 tm nl) 2) :: (nl, listOf (List.toArray vs) k) :: (cv, listOf (List.toArray cvs) kc) :: (bk, bo) :: (bc, listOf (List.toArray cvb) kcb) :: (src, listOf (List.toArray [Value.int ax tax, Value.int bx tbx]) kx) :: st)) (ha : 0 ≤ ax) (hb : 0 ≤ bx) (hb2 : bx < 2147483647) (lt : ∀ p ∈ ((W, instObj 476 dW) :: (dW, dictOf (WrkE w u G S zn cv sd sc 12) 8) :: (S, instObj 425 dS) :: (dS, dictOf (StkE w t1 t2 tm nl) 2) :: (nl, listOf (List.toArray vs) k) :: (cv, listOf (List.toArray cvs) kc) :: (bk, bo) :: (bc, listOf (List.toArray cvb) kcb) :: (src, listOf (List.toArray [Value.int a0 ta0, Value.int b0 tb0]) k0) :: st), @LT.lt Nat _ p.1 pr) :
   ∃ (pr' : Addr) (u2 : WTok) (a9 b9 : Int) (ta9 tb9 : Tok) (k9 : Nat), pr' = pr ∧ News g L h ((pr', listOf (List.toArray ([] : List Value)) 0) :: (W, instObj 476 dW) :: (dW, dictOf (WrkE w u2 G S zn cv sd sc (12 + 16 * (c - 115))) 8) :: (S, instObj 425 dS) :: (dS, dictOf (StkE w t1 t2 tm nl) 2) :: (nl, listOf (List.toArray vs) k) :: (cv, listOf (List.toArray cvs) kc) :: (bk, bo) :: (bc, listOf (List.toArray cvb) kcb) :: (src, listOf (List.toArray [Value.int a9 ta9, Value.int b9 tb9]) k9) :: st) ∧ 0 ≤ a9 ∧ 0 ≤ b9 ∧ b9 < 2147483647 ∧ ND ((pr' : Nat) :: (W : Nat) :: (dW : Nat) :: (S : Nat) :: (dS : Nat) :: (nl : Nat) :: (cv : Nat) :: (bk : Nat) :: (bc : Nat) :: (src : Nat) :: List.map (fun p => (p.1 : Nat)) (st)) :=
  ⟨pr, ⟨u.a1, u.a2, u.a3, u.a4, u.a5, u.a6, u.a7, u.a8, t9, u.ps⟩, ax, bx, tax, tbx, kx, rfl, N, ha, hb, hb2, nd_new nd rfl lt⟩
theorem dl_pack2 {g h : Heap} {L : Addr} {w : World} {rp nl' pr W dW S dS nl cv bk bc src : Addr} {t1 t2 tm : Tok} {kn : Nat} {orp opr oW odW oS onl ocv obk obc osrc o1 o2 o3 o4 o5 o6 o7 o8 o9 o10 o11 o12 o13 o14 o15 o16 o17 o18 o19 o20 : Obj} {tl : List (Addr × Obj)}
   (N : News g L h ((rp, orp) :: (nl', listOf (List.toArray ([] : List Value)) kn) :: (pr, opr) :: (W, oW) :: (dW, odW) :: (S, oS) :: (dS, dictOf (StkE w t1 t2 tm nl') 2) :: (nl, onl) :: (cv, ocv) :: (bk, obk) :: (bc, obc) :: (src, osrc) :: tl))
   (nd : ND ((pr : Nat) :: W :: dW :: S :: dS :: nl :: cv :: bk :: bc :: src :: List.map (fun p => (p.1 : Nat)) tl))
   (lt1 : ∀ p ∈ ((pr, o1) :: (W, o2) :: (dW, o3) :: (S, o4) :: (dS, o5) :: (nl, o6) :: (cv, o7) :: (bk, o8) :: (bc, o9) :: (src, o10) :: tl), @LT.lt Nat _ p.1 nl')
   (lt2 : ∀ p ∈ ((nl', o20) :: (pr, o11) :: (W, o12) :: (dW, o13) :: (S, o14) :: (dS, o15) :: (nl, o16) :: (cv, o17) :: (bk, o18) :: (bc, o19) :: (src, osrc) :: tl), @LT.lt Nat _ p.1 rp) :
   ∃ (rp' nl2 : Addr) (kn' : Nat), rp' = rp ∧ nl2 = nl' ∧ News g L h ((rp', orp) :: (pr, opr) :: (W, oW) :: (dW, odW) :: (S, oS) :: (dS, dictOf (StkE w t1 t2 tm nl2) 2) :: (nl2, listOf (List.toArray ([] : List Value)) kn') :: (cv, ocv) :: (bk, obk) :: (bc, obc) :: (src, osrc) :: tl) ∧
     ND ((rp' : Nat) :: pr :: W :: dW :: S :: dS :: nl2 :: cv :: bk :: bc :: src :: List.map (fun p => (p.1 : Nat)) tl) :=
  ⟨rp, nl', kn, rfl, rfl, news_ixT (p := [(rp, _), (nl', _), (pr, _), (W, _), (dW, _), (S, _), (dS, _), (nl, _), (cv, _), (bk, _), (bc, _), (src, _)]) N [0, 2, 3, 4, 5, 6, 1, 8, 9, 10, 11] rfl,
   nd_ixT (p := [(rp : Nat), nl', pr, W, dW, S, dS, nl, cv, bk, bc, src]) (nd_new (nd_new nd rfl lt1) rfl lt2) [0, 2, 3, 4, 5, 6, 1, 8, 9, 10, 11] rfl (by decide)⟩
local macro_rules | `(tactic| k_lt $x) => `(tactic| skip)
local macro_rules | `(tactic| k_ne) => `(tactic| k_extra "x_ne #T2")
local macro_rules | `(tactic| k_mem) => `(tactic| k_extra "x_mem #T2")
local macro_rules | `(tactic| k_upd) => `(tactic| k_extra "x_upd #T2")
local macro_rules | `(tactic| k_updF) => `(tactic| k_extra "x_updF #T2")
local macro_rules | `(tactic| walk_at $s:str) => `(tactic| k_extra $(Lean.Syntax.mkStrLit (s.getString ++ " #T2")))
theorem reg30 : True := by
  (k_with "x_ne #T2" => first | (((try dsimp only); first | exact fresh_ne (by with_reducible assumption) (by k_extra "u_mem_T2") | exact Ne.symm (fresh_ne (by with_reducible assumption) (by k_extra "u_mem_T2")) | exact Ne.symm (hoff_ne (by with_reducible assumption) (by k_extra "u_mem_T2")) | exact hoff_ne (by with_reducible assumption) (by k_extra "u_mem_T2"))) | fail "no")
  (k_with "u_mem_T2" => first | (first | with_reducible assumption | with_reducible exact List.Mem.head _ | ((with_reducible refine mem_here ?_); exact rfl) | (refine List.Mem.tail _ ?_; k_extra "u_mem_T2")) | fail "no")
  (k_with "x_mem #T2" => first | (first | k_extra "u_mem_T2" | ((with_reducible rename KmStop => kst); skip)) | fail "no")
  (k_with "u_upd_T2" => first | (first | exact upd_ix 0 rfl (by with_reducible assumption) (by exact rfl) (by dsimp only [List.set]) | exact upd_ix 1 rfl (by with_reducible assumption) (by exact rfl) (by dsimp only [List.set]) | exact upd_ix 2 rfl (by with_reducible assumption) (by exact rfl) (by dsimp only [List.set]) | exact upd_ix 3 rfl (by with_reducible assumption) (by exact rfl) (by dsimp only [List.set]) | exact upd_ix 4 rfl (by with_reducible assumption) (by exact rfl) (by dsimp only [List.set]) | exact upd_ix 5 rfl (by with_reducible assumption) (by exact rfl) (by dsimp only [List.set]) | exact upd_ix 6 rfl (by with_reducible assumption) (by exact rfl) (by dsimp only [List.set]) | exact upd_ix 7 rfl (by with_reducible assumption) (by exact rfl) (by dsimp only [List.set]) | exact upd_ix 8 rfl (by with_reducible assumption) (by exact rfl) (by dsimp only [List.set]) | exact upd_ix 9 rfl (by with_reducible assumption) (by exact rfl) (by dsimp only [List.set]) | exact upd_ix 10 rfl (by with_reducible assumption) (by exact rfl) (by dsimp only [List.set]) | exact upd_ix 11 rfl (by with_reducible assumption) (by exact rfl) (by dsimp only [List.set]) | exact upd_ix 12 rfl (by with_reducible assumption) (by exact rfl) (by dsimp only [List.set]) | exact upd_ix 13 rfl (by with_reducible assumption) (by exact rfl) (by dsimp only [List.set]) | exact upd_ix 14 rfl (by with_reducible assumption) (by exact rfl) (by dsimp only [List.set]) | exact upd_ix 15 rfl (by with_reducible assumption) (by exact rfl) (by dsimp only [List.set]) | (apply Upd.tail; (focus (k_ne)); (focus (k_extra "u_upd_T2")))) | fail "no")
  (k_with "x_upd #T2" => first | (first | k_extra "u_upd_T2" | skip) | fail "no")
  (k_with "u_updF_T2" => first | (first | exact updF_ix 0 rfl (by with_reducible assumption) (by exact rfl) (by dsimp only [List.set]) | exact updF_ix 1 rfl (by with_reducible assumption) (by exact rfl) (by dsimp only [List.set]) | exact updF_ix 2 rfl (by with_reducible assumption) (by exact rfl) (by dsimp only [List.set]) | exact updF_ix 3 rfl (by with_reducible assumption) (by exact rfl) (by dsimp only [List.set]) | exact updF_ix 4 rfl (by with_reducible assumption) (by exact rfl) (by dsimp only [List.set]) | exact updF_ix 5 rfl (by with_reducible assumption) (by exact rfl) (by dsimp only [List.set]) | exact updF_ix 6 rfl (by with_reducible assumption) (by exact rfl) (by dsimp only [List.set]) | exact updF_ix 7 rfl (by with_reducible assumption) (by exact rfl) (by dsimp only [List.set]) | exact updF_ix 8 rfl (by with_reducible assumption) (by exact rfl) (by dsimp only [List.set]) | exact updF_ix 9 rfl (by with_reducible assumption) (by exact rfl) (by dsimp only [List.set]) | exact updF_ix 10 rfl (by with_reducible assumption) (by exact rfl) (by dsimp only [List.set]) | exact updF_ix 11 rfl (by with_reducible assumption) (by exact rfl) (by dsimp only [List.set]) | exact updF_ix 12 rfl (by with_reducible assumption) (by exact rfl) (by dsimp only [List.set]) | exact updF_ix 13 rfl (by with_reducible assumption) (by exact rfl) (by dsimp only [List.set]) | exact updF_ix 14 rfl (by with_reducible assumption) (by exact rfl) (by dsimp only [List.set]) | exact updF_ix 15 rfl (by with_reducible assumption) (by exact rfl) (by dsimp only [List.set]) | (apply UpdF.tail; (focus (k_ne)); (focus (k_extra "u_updF_T2")))) | fail "no")
  (k_with "x_updF #T2" => first | (first | k_extra "u_updF_T2" | skip) | fail "no")
  (k_with "exec For Tuple Subscript cons nil #T2" => first | ((k_here; (rename Fr _ _ _ _ => lF'); (with_unfolding_all refine' For_turns lF' ?_; k_whole))) | fail "no")
  (k_with "exec For Tuple Name cons nil #T2" => first | ((k_here; (rename Fr _ _ _ _ => lF'); (with_unfolding_all refine' For_turns lF' ?_; k_whole))) | fail "no")
  (k_with "call builtin:len #T2" => first | ((k_here; k_dflt (apply len_refs; (focus (k_asm)); (focus (k_mem)); (focus (with_reducible assumption))))) | fail "no")
  (k_with "call type:range #T2" => first | ((k_here; (with_reducible show wpAny _ _ (call (Value.type "range") [_]) _ _ _); (rename Fr _ _ _ _ => F'); (rename News _ _ _ _ => N'); (with_unfolding_all refine range1_rows F' N' ?_); intro _ _ _ _ _ _ _ _ _)) | fail "no")
  (k_with "pyIter ref #T2" => first | ((k_here; (with_reducible show wpAny _ _ (pyIter (Value.ref _)) (fun it s₂ => LoopAtV _ _ _ _ _ _ _ _ _ it s₂) _ _); refine Stop.out ?_)) | fail "no")
  (k_with "pyIter ref #T2" => first | ((k_here; (with_reducible show wpAny _ _ (pyIter (Value.ref _)) (fun it s₂ => TurnsAt _ _ _ _ _ _ _ _ _ it s₂) _ _); refine Stop.out ?_)) | fail "no")
  (k_with "call ref #T2" => first | ((k_here; (with_reducible show wpAny _ _ (call (Value.ref 550) _) _ _ _); refine Stop.out ?_)) | fail "no")
  (k_with "m_ints" => first | (first | with_reducible assumption | with_reducible exact IntsAre.nil | ((with_reducible apply IntsAre.cons); (focus (k_extra "m_ints"))) | ((with_reducible apply ints_set1); (focus (k_extra "m_ints"))) | ((with_reducible apply ints_app); (focus (k_extra "m_ints")); (focus (first | with_reducible exact IntsAre.cons _ _ IntsAre.nil | (apply ints_one; (focus (k_extra "m_val"))))))) | fail "no")
  (k_with "subscriptTail Name Slice ref ref #T2" => first | ((k_here; (with_reducible show wpAny _ _ (subscriptTail _ (PySem.Expr.Slice _ _ (some _) _) (Value.ref _) (Value.ref _)) _ _ _); k_dflt (apply kmk_slice3_lit; (focus (k_asm)); (focus (k_asm)); (focus (kmk_list)); (focus (kmk_part)); (focus (kmk_part)); (focus (kmk_part)); (focus (decide)); (focus (exact pick_rev _ (by rw [List.length_map]; assumption))); rotate_left; (focus (with_unfolding_all rfl)); (focus (kmk_pure)); (focus ((rw [PySem.sizeLine_eq, List.size_toArray, List.length_map]; omega)))); (k_extra "x_in2"; intro F'z9 N'z9 l1z9); (try k_sweep))) | fail "no")
  (k_with "newTuple #T2" => first | ((k_here; kup_bare; k_dflt (apply tup_C; (focus (k_asm)); (focus (k_asm)); rotate_left; (focus (kmk_size))); intro D'z9 h'z9 F'z9 N'z9 l1z9; (try k_lt l1z9); (try k_sweep))) | fail "no")
  trivial
noncomputable def deltasF_S (w : World) (mean : ExcName → Option Value) (mg mb : Str → Option Value) (dp un : Nat) (gd : Option (List Code)) (cn : Str) (cs : Scope) (a : Addr) (ccd : Value) (cl : List (Str × Addr)) (A₀ : Around) (base h₀ : Heap) (L : Addr) (m : Str → Option Value) (s : Shared) (Q E : Value → Shared → Prop) (W dW S dS cv sd G dG R dR sc op bk bc bs bd src zn nl : Addr) (u : WTok) (t1 t2 tm : Tok) (gv : GV) (r1 r2 r3 r4 r5 r6 q1 q2 : Tok) (oo sto bo : Obj) (kvsO : List (Int × Value)) (vs cvs cvb : List Value) (k kc kcb k0 : Nat) (cns : List Int) (a0 b0 : Int) (ta0 tb0 : Tok) : Prop := ∀ (B : Below A₀ base [] h₀) (F : Fr h₀ L s.heap m) (X : (lay.heap_1 w.params).In h₀) (N : News h₀ L s.heap ((W, instObj 476 dW) :: (dW, dictOf (WrkE w u G S zn cv sd sc 12) 8) :: (S, instObj 425 dS) :: (dS, dictOf (StkE w t1 t2 tm nl) 2) :: (nl, listOf (List.toArray vs) k) :: (cv, listOf (List.toArray cvs) kc) :: (bk, bo) :: (bc, listOf (List.toArray cvb) kcb) :: (src, listOf (List.toArray [Value.int a0 ta0, Value.int b0 tb0]) k0) :: (sd, sto) :: (G, instObj 369 dG) :: (dG, dictOf (GrE w gv R) 18) :: (R, instObj 112 dR) :: (dR, dictOf (RndE w r1 r2 r3 r4 r5 r6) 3) :: (sc, tupObj [Value.int 3 q1, Value.int 2 q2]) :: (op, oo) :: [])) (T' : Top view (looseW view [Str.ofString "HintWork"]) mean mg mb h₀) (hk : cs.kind = .function) (hdp : dp + 15 < recursionLimit) (hun : un + 220 < cLine)
  (nd : ND [W, dW, S, dS, nl, cv, bk, bc, src, sd, G, dG, R, dR, sc, op]) (loB : (bk == sysModules) = false) (hbk : bo.IsDictOf (PySem.strKind PySem.Challenge.rw_on0247_01.row.toRowW.prog w) [(Str.ofString "stack", Value.ref bs), (Str.ofString "cvt", Value.ref bc), (Str.ofString "stored", Value.ref bd)]) (hcn : IntsAre cvs cns) (hcb : IntsAre cvb cns) (hcl : cns.length = 3) (ha : 0 ≤ a0) (hb : 0 ≤ b0) (hb2 : b0 < 2147483647) (hoo : oo.IsDictOf (PySem.intKind PySem.Challenge.rw_on0247_01.row.toRowW.prog w) kvsO) (hopd : ∀ c, c = 115 ∨ c = 116 ∨ c = 117 → PySem.valueAt kvsO c = some (Value.ref 303))
  (hret : ∀ h' tk' u' pp' nl' vs' k' cvs' kc' cvb' kcb' cnx, Fr h₀ L h' m → News h₀ L h' ((W, instObj 476 dW) :: (dW, dictOf (WrkE w u' G S zn cv sd sc pp') 8) :: (S, instObj 425 dS) :: (dS, dictOf (StkE w t1 t2 tm nl') 2) :: (nl', listOf (List.toArray vs') k') :: (cv, listOf (List.toArray cvs') kc') :: (sd, sto) :: (G, instObj 369 dG) :: (dG, dictOf (GrE w gv R) 18) :: (R, instObj 112 dR) :: (dR, dictOf (RndE w r1 r2 r3 r4 r5 r6) 3) :: (sc, tupObj [Value.int 3 q1, Value.int 2 q2]) :: (op, oo) :: (bk, bo) :: (bc, listOf (List.toArray cvb') kcb') :: []) → IntsAre vs' [] → IntsAre cvs' cnx → IntsAre cvb' cnx → cnx.length = 3 → ND [W, dW, S, dS, nl', cv, sd, G, dG, R, dR, sc, op, bk, bc] → Q (.bool true) { s with heap := h', toks := tk' }),
  wpAny (model PySem.Challenge.rw_on0247_01.row.toRowW.prog w) (ktrTop dp un gd cn cs L a ccd cl []) (call (.ref 562) [.ref src, .ref W, .ref op, .ref bk]) Q E s
noncomputable def LD_S (p : Bag) : Prop := (deltasF_S (p.fWo 0) (p.fMe 0) (p.fM 0) (p.fM 1) (p.fN 0) (p.fN 1) (p.fGD 0) (p.fSt 0) (p.fSc 0) (p.fA 0) (p.fV 0) (p.fCL 0) (p.fAr 0) (p.fH 0) (p.fH 1) (p.fA 1) (p.fM 2) (p.fSh 0) (p.fQ 0) (p.fQ 1) (p.fA 2) (p.fA 3) (p.fA 4) (p.fA 5) (p.fA 6) (p.fA 7) (p.fA 8) (p.fA 9) (p.fA 10) (p.fA 11) (p.fA 12) (p.fA 13) (p.fA 14) (p.fA 15) (p.fA 16) (p.fA 17) (p.fA 18) (p.fA 19) (p.fA 20) (p.fU 0) (p.fT 0) (p.fT 1) (p.fT 2) (p.fG 0) (p.fT 3) (p.fT 4) (p.fT 5) (p.fT 6) (p.fT 7) (p.fT 8) (p.fT 9) (p.fT 10) (p.fO 0) (p.fO 1) (p.fO 2) (p.fKV 0) (p.fVL 0) (p.fVL 1) (p.fVL 2) (p.fN 2) (p.fN 3) (p.fN 4) (p.fN 5) (p.fIL 0) (p.fI 0) (p.fI 1) (p.fT 11) (p.fT 12))
noncomputable def LD_c : Bag := skc LD_S
theorem deltasF_at : deltasF_S (LD_c.fWo 0) (LD_c.fMe 0) (LD_c.fM 0) (LD_c.fM 1) (LD_c.fN 0) (LD_c.fN 1) (LD_c.fGD 0) (LD_c.fSt 0) (LD_c.fSc 0) (LD_c.fA 0) (LD_c.fV 0) (LD_c.fCL 0) (LD_c.fAr 0) (LD_c.fH 0) (LD_c.fH 1) (LD_c.fA 1) (LD_c.fM 2) (LD_c.fSh 0) (LD_c.fQ 0) (LD_c.fQ 1) (LD_c.fA 2) (LD_c.fA 3) (LD_c.fA 4) (LD_c.fA 5) (LD_c.fA 6) (LD_c.fA 7) (LD_c.fA 8) (LD_c.fA 9) (LD_c.fA 10) (LD_c.fA 11) (LD_c.fA 12) (LD_c.fA 13) (LD_c.fA 14) (LD_c.fA 15) (LD_c.fA 16) (LD_c.fA 17) (LD_c.fA 18) (LD_c.fA 19) (LD_c.fA 20) (LD_c.fU 0) (LD_c.fT 0) (LD_c.fT 1) (LD_c.fT 2) (LD_c.fG 0) (LD_c.fT 3) (LD_c.fT 4) (LD_c.fT 5) (LD_c.fT 6) (LD_c.fT 7) (LD_c.fT 8) (LD_c.fT 9) (LD_c.fT 10) (LD_c.fO 0) (LD_c.fO 1) (LD_c.fO 2) (LD_c.fKV 0) (LD_c.fVL 0) (LD_c.fVL 1) (LD_c.fVL 2) (LD_c.fN 2) (LD_c.fN 3) (LD_c.fN 4) (LD_c.fN 5) (LD_c.fIL 0) (LD_c.fI 0) (LD_c.fI 1) (LD_c.fT 11) (LD_c.fT 12) :=
  (by intro hz8; exact hz8 : (have hz8 : deltasF_S (LD_c.fWo 0) (LD_c.fMe 0) (LD_c.fM 0) (LD_c.fM 1) (LD_c.fN 0) (LD_c.fN 1) (LD_c.fGD 0) (LD_c.fSt 0) (LD_c.fSc 0) (LD_c.fA 0) (LD_c.fV 0) (LD_c.fCL 0) (LD_c.fAr 0) (LD_c.fH 0) (LD_c.fH 1) (LD_c.fA 1) (LD_c.fM 2) (LD_c.fSh 0) (LD_c.fQ 0) (LD_c.fQ 1) (LD_c.fA 2) (LD_c.fA 3) (LD_c.fA 4) (LD_c.fA 5) (LD_c.fA 6) (LD_c.fA 7) (LD_c.fA 8) (LD_c.fA 9) (LD_c.fA 10) (LD_c.fA 11) (LD_c.fA 12) (LD_c.fA 13) (LD_c.fA 14) (LD_c.fA 15) (LD_c.fA 16) (LD_c.fA 17) (LD_c.fA 18) (LD_c.fA 19) (LD_c.fA 20) (LD_c.fU 0) (LD_c.fT 0) (LD_c.fT 1) (LD_c.fT 2) (LD_c.fG 0) (LD_c.fT 3) (LD_c.fT 4) (LD_c.fT 5) (LD_c.fT 6) (LD_c.fT 7) (LD_c.fT 8) (LD_c.fT 9) (LD_c.fT 10) (LD_c.fO 0) (LD_c.fO 1) (LD_c.fO 2) (LD_c.fKV 0) (LD_c.fVL 0) (LD_c.fVL 1) (LD_c.fVL 2) (LD_c.fN 2) (LD_c.fN 3) (LD_c.fN 4) (LD_c.fN 5) (LD_c.fIL 0) (LD_c.fI 0) (LD_c.fI 1) (LD_c.fT 11) (LD_c.fT 12) := (by
  refine (?layF0 : ∀ w mean mg mb dp un gd cn cs a ccd cl A₀ base h₀ L m s Q E W dW S dS cv sd G dG R dR sc op bk bc bs bd src zn nl u t1 t2 tm gv r1 r2 r3 r4 r5 r6 q1 q2 oo sto bo kvsO vs cvs cvb k kc kcb k0 cns a0 b0 ta0 tb0, deltasF_S w mean mg mb dp un gd cn cs a ccd cl A₀ base h₀ L m s Q E W dW S dS cv sd G dG R dR sc op bk bc bs bd src zn nl u t1 t2 tm gv r1 r2 r3 r4 r5 r6 q1 q2 oo sto bo kvsO vs cvs cvb k kc kcb k0 cns a0 b0 ta0 tb0) (LD_c.fWo 0) (LD_c.fMe 0) (LD_c.fM 0) (LD_c.fM 1) (LD_c.fN 0) (LD_c.fN 1) (LD_c.fGD 0) (LD_c.fSt 0) (LD_c.fSc 0) (LD_c.fA 0) (LD_c.fV 0) (LD_c.fCL 0) (LD_c.fAr 0) (LD_c.fH 0) (LD_c.fH 1) (LD_c.fA 1) (LD_c.fM 2) (LD_c.fSh 0) (LD_c.fQ 0) (LD_c.fQ 1) (LD_c.fA 2) (LD_c.fA 3) (LD_c.fA 4) (LD_c.fA 5) (LD_c.fA 6) (LD_c.fA 7) (LD_c.fA 8) (LD_c.fA 9) (LD_c.fA 10) (LD_c.fA 11) (LD_c.fA 12) (LD_c.fA 13) (LD_c.fA 14) (LD_c.fA 15) (LD_c.fA 16) (LD_c.fA 17) (LD_c.fA 18) (LD_c.fA 19) (LD_c.fA 20) (LD_c.fU 0) (LD_c.fT 0) (LD_c.fT 1) (LD_c.fT 2) (LD_c.fG 0) (LD_c.fT 3) (LD_c.fT 4) (LD_c.fT 5) (LD_c.fT 6) (LD_c.fT 7) (LD_c.fT 8) (LD_c.fT 9) (LD_c.fT 10) (LD_c.fO 0) (LD_c.fO 1) (LD_c.fO 2) (LD_c.fKV 0) (LD_c.fVL 0) (LD_c.fVL 1) (LD_c.fVL 2) (LD_c.fN 2) (LD_c.fN 3) (LD_c.fN 4) (LD_c.fN 5) (LD_c.fIL 0) (LD_c.fI 0) (LD_c.fI 1) (LD_c.fT 11) (LD_c.fT 12)
  intro w mean mg mb dp un gd cn cs a ccd cl A₀ base h₀ L m s Q E W dW S dS cv sd G dG R dR sc op bk bc bs bd src zn nl u t1 t2 tm gv r1 r2 r3 r4 r5 r6 q1 q2 oo sto bo kvsO vs cvs cvb k kc kcb k0 cns a0 b0 ta0 tb0 B F X N T' hk hdp hun nd loB hbk hcn hcb hcl ha hb hb2 hoo hopd hret
  have nSd : @Ne Nat S dS := ne_ix nd 2 3 rfl rfl (by decide)
  obtain ⟨st, hst⟩ : ∃ st, st = ((sd, sto) :: (G, instObj 369 dG) :: (dG, dictOf (GrE w gv R) 18) :: (R, instObj 112 dR) :: (dR, dictOf (RndE w r1 r2 r3 r4 r5 r6) 3) :: (sc, tupObj [Value.int 3 q1, Value.int 2 q2]) :: (op, oo) :: [] : List (Addr × Obj)) := ⟨_, rfl⟩
  replace N : News h₀ L s.heap ((W, instObj 476 dW) :: (dW, dictOf (WrkE w u G S zn cv sd sc 12) 8) :: (S, instObj 425 dS) :: (dS, dictOf (StkE w t1 t2 tm nl) 2) :: (nl, listOf (List.toArray vs) k) :: (cv, listOf (List.toArray cvs) kc) :: (bk, bo) :: (bc, listOf (List.toArray cvb) kcb) :: (src, listOf (List.toArray [Value.int a0 ta0, Value.int b0 tb0]) k0) :: st) := by rw [hst]; exact N
  replace nd : ND ((W : Nat) :: (dW : Nat) :: (S : Nat) :: (dS : Nat) :: (nl : Nat) :: (cv : Nat) :: (bk : Nat) :: (bc : Nat) :: (src : Nat) :: List.map (fun p => (p.1 : Nat)) (st)) := by rw [hst]; exact nd
  revert X; k_fill; intro X
  refine wpAny_call ?_
  k_dflt (refine' code_def ?k1q7 ?k2q7 ?k3q7 ?k4q7 ?k5q7 ?kAq7 ?kFq7 ?kKq7 ?k6q7 ?k7q7 ?k8q7 ?k9q7 ?kBq7 ?_ ?c2q7 ?c3q7 ?c4q7 ?c5q7; (case kAq7 => exact rfl); (case kFq7 => exact rfl); (case kKq7 => assumption); (case k1q7 => k_asm); (case k2q7 => k_asm); (case k3q7 => k_asm); (case k4q7 => k_asm); (case k5q7 => k_asm); (case k6q7 => k_is); (case k7q7 => k_is); (case k8q7 => ktr_room); (case k9q7 => exact BindsTo.of_eq rfl); (case c5q7 => decide); (case kBq7 => exact locs rfl); (case c2q7 => exact rfl); (case c3q7 => exact rfl); (case c4q7 => exact rfl); k_whole)
  k_extra "x_ske3"; intro FG' F1 N1 B' X' T1
  (try dsimp only); (try k_lift B'); (try k_extra "x_fold")
  k_steps
  skip
  refine Stop.intro ?_
  (with_reducible rename IsRange _ _ _ _ _ _ _ _ => rgX)
  (with_reducible rename (_ : Int) ∈ (_ : List Int) => hcm)
  obtain ⟨c, ec, hc4⟩ : ∃ c : Int, c = _ ∧ (c = 115 ∨ c = 116 ∨ c = 117) := ⟨_, rfl, code4 hcm⟩
  subst ec
  (with_reducible rename Fr g' L' _ _ => Fx); (with_reducible rename News g' L' _ (_ :: _ :: _ :: (W, _) :: _) => Nx)
  obtain ⟨pr, u2, a9, b9, ta9, tb9, k9, epr, Ny, z1, z2, z3, ndp⟩ := dl_pack nd (fun p hp => Nx p (.tail _ (.tail _ hp))) (by with_reducible assumption) (by with_reducible assumption) (by with_reducible assumption) (by with_reducible assumption)
  subst epr
  clear Nx nd
  refine rng_turns (Str.ofString "size") (Str.ofString "size2") (DJ1 w W dW S dS cv sd G sc bk bc src zn nl t1 t2 tm bo vs cvs cvb k kc kcb st pr u2 c) (by rfl) rgX (small_one (by omega) (by omega) (by omega) (by omega)) (rangeSize_nat _ _) Fx Ny ⟨[], [], 0, _, _, _, _, _, by rw [List.append_nil]; rfl, z1, z2, z3, rfl, (by simp [PairOK]), (by intro p hp; simp at hp), by rw [List.append_nil]; exact ndp⟩ ?_ ?_
  · clear Ny z1 z2 z3 ndp
    rintro i t v1 v2 nx h tk I iob hin ⟨ts, tt, kp, a9, b9, ta9, tb9, k9, rfl, z1, z2, z3, hts, hps, hot, nd⟩ hoff F9 N9
    have ndI := nd_off nd rfl hoff
    clear nd hoff
    obtain ⟨tl9, htl⟩ : ∃ r, r = st ++ tt := ⟨_, rfl⟩
    rw [← htl] at N9 ndI
    refine q_gen ?_; intro QQ hqq
    (try dsimp only)
    k_steps
    all_goals
      (with_reducible rename News g' _ _ _ => Nq); replace Nq : News g' L' _ _ := Nq; (with_reducible rename Fr g' _ _ _ => Fq)
      (with_reducible rename ∀ p ∈ ((I, _) :: (pr, _) :: _), @LT.lt Nat _ p.1 _ => lt9)
      have ndD := nd_new ndI rfl lt9
      subst htl
      obtain ⟨ts', N3, e3, e4, e5, e6, e7⟩ := dl_end (x := [(W, _), (dW, _), (S, _), (dS, _), (nl, _), (cv, _), (bk, _), (bc, _), (src, _)]) (ca := [(W : Nat), dW, S, dS, nl, cv, bk, bc, src]) Nq ndD rfl (by with_reducible assumption) (by with_reducible assumption) (by omega) (by omega) hps hot
      refine hqq _ _ ?_
      show LFin _ _ _ _ _ _ _ _ _ _ _
      exact LFin.mk _ Fq (by intro z z1 z2 z3; repeat (first | exact rfl | refine ite_skip (by assumption) ?_)) N3 e3 ⟨ts', _, _, _, _, _, _, _, rfl, by with_reducible assumption, by with_reducible assumption, by with_reducible assumption, by rw [e5, hts], e6, e7, e4⟩
  · rintro q v1 v2 nx h tk ⟨ts, tt, kp, a9, b9, ta9, tb9, k9, rfl, z1, z2, z3, hts, hps, hot, nd⟩ F9 N9
    clear Fx Ny rgX ndp z1 z2 z3
    have hl1 : 1 ≤ ts.length := by omega
    have hl3 : ts.length ≤ 3 := by omega
    clear hts
    obtain ⟨tl9, htl⟩ : ∃ r, r = st ++ tt := ⟨_, rfl⟩
    rw [← htl] at N9 nd
    have hoT : ∀ t ∈ ts, objT t ∈ tl9 := fun t ht => by rw [htl]; exact List.mem_append_right _ (hot t ht)
    k_steps
    refine Stop.intro ?_
    (with_reducible rename News g' _ _ ((_, _) :: (_, _) :: (pr, _) :: _) => Nx); replace Nx : News g' L' _ _ := Nx; (with_reducible rename Fr g' _ _ _ => Fx)
    obtain ⟨rp, nl', kn, e1, e2, Ny, nd⟩ := dl_pack2 Nx nd (by with_reducible assumption) (by with_reducible assumption)
    subst e1 e2
    clear Nx N9 F9
    refine list_turns (Str.ofString "place") (Str.ofString "argument") (Str.ofString "place2") (DJ2 w W dW S dS cv sd G sc bk bc src zn t1 t2 tm bo cvs cvb kc kcb pr u2 c ts kp a9 b9 ta9 tb9 k9 tl9 rp nl') (by rfl) Fx Ny (.head _) rfl rfl (by rintro i nx ⟨us, kn, rfl, _⟩; exact .head _) ⟨[], _, rfl, by rw [Nat.sub_zero, List.drop_eq_nil_of_le (by rw [List.length_map]; exact Nat.le_refl _)]; exact .nil⟩ ?_ ?_
    · clear Fx Ny
      rintro i v q v1 v2 nx h tk I iob hv ⟨us, kn, rfl, hu⟩ hoff F9 N9
      obtain ⟨⟨P, p, tp, a, ta⟩, ht, rfl, hi, hme⟩ := rev_at hv
      have hP := hoT _ hme
      have hfl := flat_len (ts := ts) hl3 hi
      have ndI := nd_off nd rfl hoff
      dsimp only [refT, objT]
      dsimp only [objT] at hP
      have hT := News.isTup N9 (.tail _ (.tail _ (.tail _ (.tail _ (.tail _ (.tail _ (.tail _ (.tail _ (.tail _ (.tail _ (.tail _ (.tail _ (hP)))))))))))))
      refine q_gen2 ?_; intro QQ hqq
      (try dsimp only)
      k_steps
      (with_reducible rename News g' _ _ _ => Nq); replace Nq : News g' L' _ _ := Nq; (with_reducible rename Fr g' _ _ _ => Fq)
      refine hqq _ _ ?_
      show LFin _ _ _ _ _ _ _ _ _ _ _
      exact LFin.mk _ Fq (by intro z z1 z2 z3; repeat (first | exact rfl | refine ite_skip (by assumption) ?_)) Nq (off_nd ndI rfl) ⟨_, _, rfl, by rw [← flat_step ht hi]; exact ints_app (ints_app hu (.cons _ _ .nil)) (.cons _ _ .nil)⟩
    · rintro q v1 v2 nx h tk ⟨us, kn, rfl, hu⟩ F9 N9
      (try dsimp only)
      clear Fx Ny
      rw [List.length_reverse, List.length_map, Nat.sub_self, List.drop_zero] at hu
      have hfl : ((flatR (ts.map numT)).length : Int) ≤ 6 := by rw [flatR_len, List.length_map]; omega
      k_steps
      refine Stop.intro ?_
      (with_reducible rename News g' _ _ _ => Nx); replace Nx : News g' L' _ _ := Nx; (with_reducible rename Fr g' _ _ _ => Fx)
      obtain ⟨zt, kz, Ny⟩ : ∃ (zt : Tok) (kz : Nat), News g' L' _ ((rp, listOf (List.toArray (ts.map refT).reverse) 0) :: (pr, listOf (List.toArray (ts.map refT)) kp) :: (W, instObj 476 dW) :: (dW, dictOf (WrkE w u2 G S zn cv sd sc (12 + 16 * (c - 115))) 8) :: (S, instObj 425 dS) :: (dS, dictOf (StkE w t1 t2 tm nl') 2) :: (nl', listOf (List.toArray (us ++ [Value.int (ts.length : Int) zt])) kz) :: (cv, listOf (List.toArray cvs) kc) :: (bk, bo) :: (bc, listOf (List.toArray cvb) kcb) :: (src, listOf (List.toArray [Value.int a9 ta9, Value.int b9 tb9]) k9) :: tl9) := ⟨_, _, Nx⟩
      clear Nx N9 F9
      have hcc : 0 ≤ 16 * (c - 115) ∧ 16 * (c - 115) ≤ 100 := code_cc hc4
      have hpp := code_pp hc4
      refine list_turns (Str.ofString "place") (Str.ofString "argument") (Str.ofString "place2") (DJ3 w W dW S dS cv sd G sc bk bc src zn t1 t2 tm bo cvs kc cns pr u2 c ts kp a9 b9 ta9 tb9 k9 tl9 rp nl' us zt kz) (by rfl) Fx Ny (.tail _ (.head _)) rfl rfl (by rintro i nx ⟨us, kn, rfl, _⟩; exact .tail _ (.head _)) ⟨_, _, rfl, hcb⟩ ?_ ?_
      · clear Fx Ny
        rintro i v q v1 v2 nx h tk I iob hv ⟨cvx, kx, rfl, hc9⟩ hoff F9 N9
        obtain ⟨⟨P, p, tp, a, ta⟩, ht, rfl, hi, hme⟩ := fwd_at hv
        have hP := hoT _ hme
        obtain ⟨g1, g2, g3, g4⟩ := mem3 hps hme
        have hcl9 : (dputs cns ((ts.map numT).take i) (16 * (c - 115)) (12 + 16 * (c - 115))).length = 3 := dputs_len.trans hcl
        have ndI := nd_off nd rfl hoff
        dsimp only [refT, objT]
        dsimp only [objT] at hP g1 g2 g3 g4
        have hT := News.isTup N9 (.tail _ (.tail _ (.tail _ (.tail _ (.tail _ (.tail _ (.tail _ (.tail _ (.tail _ (.tail _ (.tail _ (.tail _ (hP)))))))))))))
        refine q_gen2 ?_; intro QQ hqq
        (try dsimp only)
        k_steps
        (with_reducible rename News g' _ _ _ => Nq); replace Nq : News g' L' _ _ := Nq; (with_reducible rename Fr g' _ _ _ => Fq)
        refine hqq _ _ ?_
        show LFin _ _ _ _ _ _ _ _ _ _ _
        exact LFin.mk _ Fq (by intro z z1 z2 z3; repeat (first | exact rfl | refine ite_skip (by assumption) ?_)) Nq (off_nd ndI rfl) ⟨_, _, rfl, by rw [dputs_snoc (q := (p, a)) (by rw [List.getElem?_map, ht]; rfl)]; exact ints_set1 hc9⟩
      · rintro q v1 v2 nx h tk ⟨cvx, kx, rfl, hc9⟩ F9 N9
        (try dsimp only)
        clear Fx Ny
        rw [List.length_map, List.take_of_length_le (by rw [List.length_map]; exact Nat.le_refl _)] at hc9
        k_steps
        refine Stop.intro ?_
        (with_reducible rename News g' _ _ _ => Nx); replace Nx : News g' L' _ _ := Nx
        subst htl hst
        have Nz := news_ix (news_fst (p := [(rp, _), (pr, _), (W, _), (dW, _), (S, _), (dS, _), (nl', _), (cv, _), (bk, _), (bc, _), (src, _), (sd, _), (G, _), (dG, _), (R, _), (dR, _), (sc, _), (op, _)]) Nx) [2, 3, 4, 5, 6, 7, 11, 12, 13, 14, 15, 16, 17, 8, 9] rfl
        have ndz : ND [W, dW, S, dS, nl', cv, sd, G, dG, R, dR, sc, op, bk, bc] := nd_ix (nd_fst (p := [rp, pr, W, dW, S, dS, nl', cv, bk, bc, src, sd, G, dG, R, dR, sc, op]) nd) [2, 3, 4, 5, 6, 7, 11, 12, 13, 14, 15, 16, 17, 8, 9] rfl (by decide)
        have hoff : OwnOff ((op, oo) :: (bk, bo) :: (bc, listOf (List.toArray cvx) kx) :: []) [nl', dS, cv, sd] := off_ix ndz [12, 13, 14] [4, 3, 5, 6] (by decide) rfl rfl
        have apA : Apart W dW S dS nl' cv sd := ⟨(ne_ix ndz 0 1 rfl rfl (by decide)), (ne_ix ndz 0 2 rfl rfl (by decide)), (ne_ix ndz 0 3 rfl rfl (by decide)), (ne_ix ndz 0 4 rfl rfl (by decide)), (ne_ix ndz 0 5 rfl rfl (by decide)), (ne_ix ndz 0 6 rfl rfl (by decide)), (ne_ix ndz 1 2 rfl rfl (by decide)), (ne_ix ndz 1 3 rfl rfl (by decide)), (ne_ix ndz 1 4 rfl rfl (by decide)), (ne_ix ndz 1 5 rfl rfl (by decide)), (ne_ix ndz 1 6 rfl rfl (by decide)), (ne_ix ndz 2 3 rfl rfl (by decide)), (ne_ix ndz 2 4 rfl rfl (by decide)), (ne_ix ndz 2 5 rfl rfl (by decide)), (ne_ix ndz 2 6 rfl rfl (by decide)), (ne_ix ndz 3 4 rfl rfl (by decide)), (ne_ix ndz 3 5 rfl rfl (by decide)), (ne_ix ndz 3 6 rfl rfl (by decide)), (ne_ix ndz 4 5 rfl rfl (by decide)), (ne_ix ndz 4 6 rfl rfl (by decide)), (ne_ix ndz 5 6 rfl rfl (by decide))⟩
        have apC : Apart2 nl' cv sd dS G dG R dR sc := ⟨(ne_ix ndz 7 4 rfl rfl (by decide)), (ne_ix ndz 7 5 rfl rfl (by decide)), (ne_ix ndz 7 6 rfl rfl (by decide)), (ne_ix ndz 7 3 rfl rfl (by decide)), (ne_ix ndz 8 4 rfl rfl (by decide)), (ne_ix ndz 8 5 rfl rfl (by decide)), (ne_ix ndz 8 6 rfl rfl (by decide)), (ne_ix ndz 8 3 rfl rfl (by decide)), (ne_ix ndz 9 4 rfl rfl (by decide)), (ne_ix ndz 9 5 rfl rfl (by decide)), (ne_ix ndz 9 6 rfl rfl (by decide)), (ne_ix ndz 9 3 rfl rfl (by decide)), (ne_ix ndz 10 4 rfl rfl (by decide)), (ne_ix ndz 10 5 rfl rfl (by decide)), (ne_ix ndz 10 6 rfl rfl (by decide)), (ne_ix ndz 10 3 rfl rfl (by decide)), (ne_ix ndz 11 4 rfl rfl (by decide)), (ne_ix ndz 11 5 rfl rfl (by decide)), (ne_ix ndz 11 6 rfl rfl (by decide)), (ne_ix ndz 11 3 rfl rfl (by decide))⟩
        k_dflt (refine' heardD (rest := (bk, bo) :: (bc, listOf (List.toArray cvx) kx) :: []) (ps := ts.map numT) (ns := []) (vs := us) ?q1q7 ?q2q7 ?q3q7 ?q4q7 ?q5q7 ?q6q7 ?q7q7 ?q8q7 apA apC hoff hoo (hopd c hc4) hps (by rw [List.length_map]; exact hl3) ?hzq7 (by exact hu) (by decide) hc4 hcn hcl hpp.1 hpp.2 ?hrq7; (case q1q7 => k_asm); (case q2q7 => k_asm); (case q3q7 => k_asm); (case q4q7 => exact Nz); (case q5q7 => k_asm); (case q6q7 => first | exact rfl | assumption); (case q7q7 => ktr_room); (case q8q7 => ktr_units))
        · simp
        intro h' tk' vs' k' cvs' kc' F' N' I1 I2
        obtain ⟨cnx, Y1, Y2, Y3⟩ : ∃ cnx, IntsAre cvs' cnx ∧ IntsAre cvx cnx ∧ cnx.length = 3 := ⟨_, I2, hc9, dputs_len.trans hcl⟩
        clear I2 hc9 Nz Nx
        (try dsimp only)
        k_steps
        show Q (Value.bool true) _
        exact hret _ _ u2 _ nl' vs' k' cvs' kc' cvx kx cnx (by k_asm) (by k_asm) I1 Y1 Y2 Y3 ndz); deltasF_S (LD_c.fWo 0) (LD_c.fMe 0) (LD_c.fM 0) (LD_c.fM 1) (LD_c.fN 0) (LD_c.fN 1) (LD_c.fGD 0) (LD_c.fSt 0) (LD_c.fSc 0) (LD_c.fA 0) (LD_c.fV 0) (LD_c.fCL 0) (LD_c.fAr 0) (LD_c.fH 0) (LD_c.fH 1) (LD_c.fA 1) (LD_c.fM 2) (LD_c.fSh 0) (LD_c.fQ 0) (LD_c.fQ 1) (LD_c.fA 2) (LD_c.fA 3) (LD_c.fA 4) (LD_c.fA 5) (LD_c.fA 6) (LD_c.fA 7) (LD_c.fA 8) (LD_c.fA 9) (LD_c.fA 10) (LD_c.fA 11) (LD_c.fA 12) (LD_c.fA 13) (LD_c.fA 14) (LD_c.fA 15) (LD_c.fA 16) (LD_c.fA 17) (LD_c.fA 18) (LD_c.fA 19) (LD_c.fA 20) (LD_c.fU 0) (LD_c.fT 0) (LD_c.fT 1) (LD_c.fT 2) (LD_c.fG 0) (LD_c.fT 3) (LD_c.fT 4) (LD_c.fT 5) (LD_c.fT 6) (LD_c.fT 7) (LD_c.fT 8) (LD_c.fT 9) (LD_c.fT 10) (LD_c.fO 0) (LD_c.fO 1) (LD_c.fO 2) (LD_c.fKV 0) (LD_c.fVL 0) (LD_c.fVL 1) (LD_c.fVL 2) (LD_c.fN 2) (LD_c.fN 3) (LD_c.fN 4) (LD_c.fN 5) (LD_c.fIL 0) (LD_c.fI 0) (LD_c.fI 1) (LD_c.fT 11) (LD_c.fT 12)))
theorem LD_all : ∀ p, LD_S p := sk (deltasF_at)
noncomputable def LD_bag (w : World) (mean : ExcName → Option Value) (mg mb : Str → Option Value) (dp un : Nat) (gd : Option (List Code)) (cn : Str) (cs : Scope) (a : Addr) (ccd : Value) (cl : List (Str × Addr)) (A₀ : Around) (base h₀ : Heap) (L : Addr) (m : Str → Option Value) (s : Shared) (Q E : Value → Shared → Prop) (W dW S dS cv sd G dG R dR sc op bk bc bs bd src zn nl : Addr) (u : WTok) (t1 t2 tm : Tok) (gv : GV) (r1 r2 r3 r4 r5 r6 q1 q2 : Tok) (oo sto bo : Obj) (kvsO : List (Int × Value)) (vs cvs cvb : List Value) (k kc kcb k0 : Nat) (cns : List Int) (a0 b0 : Int) (ta0 tb0 : Tok) : Bag := ⟨fun ix9 => [a, L, W, dW, S, dS, cv, sd, G, dG, R, dR, sc, op, bk, bc, bs, bd, src, zn, nl].getD ix9 (bag0.fA 0), fun ix9 => [t1, t2, tm, r1, r2, r3, r4, r5, r6, q1, q2, ta0, tb0].getD ix9 (bag0.fT 0), fun ix9 => [a0, b0].getD ix9 (bag0.fI 0), fun ix9 => [dp, un, k, kc, kcb, k0].getD ix9 (bag0.fN 0), fun ix9 => [ccd].getD ix9 (bag0.fV 0), fun ix9 => [oo, sto, bo].getD ix9 (bag0.fO 0), fun ix9 => [vs, cvs, cvb].getD ix9 (bag0.fVL 0), fun ix9 => [cns].getD ix9 (bag0.fIL 0), fun ix9 => [kvsO].getD ix9 (bag0.fKV 0), fun ix9 => [].getD ix9 (bag0.fKI 0), fun ix9 => [].getD ix9 (bag0.fAO 0), fun ix9 => [u].getD ix9 (bag0.fU 0), fun ix9 => [gv].getD ix9 (bag0.fG 0), fun ix9 => [].getD ix9 (bag0.fPr 0), fun ix9 => [].getD ix9 (bag0.fEv 0), fun ix9 => [].getD ix9 (bag0.fSs 0), fun ix9 => [].getD ix9 (bag0.fEx 0), fun ix9 => [].getD ix9 (bag0.fQF 0), fun ix9 => [].getD ix9 (bag0.fJ 0), fun ix9 => [w].getD ix9 (bag0.fWo 0), fun ix9 => [mean].getD ix9 (bag0.fMe 0), fun ix9 => [mg, mb, m].getD ix9 (bag0.fM 0), fun ix9 => [gd].getD ix9 (bag0.fGD 0), fun ix9 => [cn].getD ix9 (bag0.fSt 0), fun ix9 => [cs].getD ix9 (bag0.fSc 0), fun ix9 => [cl].getD ix9 (bag0.fCL 0), fun ix9 => [].getD ix9 (bag0.fEn 0), fun ix9 => [A₀].getD ix9 (bag0.fAr 0), fun ix9 => [base, h₀].getD ix9 (bag0.fH 0), fun ix9 => [s].getD ix9 (bag0.fSh 0), fun ix9 => [Q, E].getD ix9 (bag0.fQ 0)⟩
theorem deltasF {w mean mg mb dp un gd cn cs a ccd cl A₀ base h₀ L m s Q E W dW S dS cv sd G dG R dR sc op bk bc bs bd src zn nl u t1 t2 tm gv r1 r2 r3 r4 r5 r6 q1 q2 oo sto bo kvsO vs cvs cvb k kc kcb k0 cns a0 b0 ta0 tb0} : deltasF_S w mean mg mb dp un gd cn cs a ccd cl A₀ base h₀ L m s Q E W dW S dS cv sd G dG R dR sc op bk bc bs bd src zn nl u t1 t2 tm gv r1 r2 r3 r4 r5 r6 q1 q2 oo sto bo kvsO vs cvs cvb k kc kcb k0 cns a0 b0 ta0 tb0 := LD_all (LD_bag w mean mg mb dp un gd cn cs a ccd cl A₀ base h₀ L m s Q E W dW S dS cv sd G dG R dR sc op bk bc bs bd src zn nl u t1 t2 tm gv r1 r2 r3 r4 r5 r6 q1 q2 oo sto bo kvsO vs cvs cvb k kc kcb k0 cns a0 b0 ta0 tb0)
end
theorem mt11 : True := by first | (walk1; done) | trivial
section
theorem three {v : Int} (h : 0 ≤ v) (h2 : v < 3) : v = 0 ∨ v = 1 ∨ v = 2 := by omega
theorem mem95 {v : Int} (h : v ∈ ([1, 2, 3, 0, 64, -33, 95, 7] : List Int)) : -95 ≤ v ∧ v ≤ 95 := (by decide : ∀ v ∈ ([1, 2, 3, 0, 64, -33, 95, 7] : List Int), -95 ≤ v ∧ v ≤ 95) v h
noncomputable def MEnd (P : Prop) : Prop := P
theorem MEnd.mk {P : Prop} (h : P) : MEnd P := h
theorem merge_num {M : Model} {T : Around} {st : Stmt} {rest : List Stmt} {env : Env} {Q : Flow → Shared → Prop} {E : Value → Shared → Prop} {s₀ s₁ : Shared} {g hh : Heap} {L : Addr} {m1 : Str → Option Value} (_F : Fr g L hh m1) {J : Heap → Prop}
   (hw : wpAny M T (exec st env) (fun fl s' => MEnd (fl = Flow.next ∧ ∃ h tk vn, s' = { s₀ with heap := h, toks := tk } ∧ Fr g L h (fun y => if y = Str.ofString "number" then vn else m1 y) ∧ J h)) E s₁)
   (ht : ∀ h tk vn, Fr g L h (fun y => if y = Str.ofString "number" then vn else m1 y) → J h → wpAny M T (execs rest env) Q E { s₀ with heap := h, toks := tk }) : wpAny M T (execs (st :: rest) env) Q E s₁ := by
  refine wpAny_execs_cons (wpAny_mono hw ?_ fun _ _ y => y)
  rintro fl s' ⟨rfl, h, tk, vn, rfl, F, hj⟩
  exact ht h tk vn F hj
theorem fr_num {g h : Heap} {L : Addr} {m1 : Str → Option Value} (F : Fr g L h m1) : Fr g L h (fun y => if y = Str.ofString "number" then m1 (Str.ofString "number") else m1 y) := by
  have : (fun y => if y = Str.ofString "number" then m1 (Str.ofString "number") else m1 y) = m1 := by funext y; split <;> simp_all
  rw [this]; exact F
theorem merge_let {M : Model} {T : Around} {st : Stmt} {rest : List Stmt} {env : Env} {Q : Flow → Shared → Prop} {E : Value → Shared → Prop} {s₀ s₁ : Shared} {g hh : Heap} {L : Addr} {m1 : Str → Option Value} (_F : Fr g L hh m1) {c : Int} {lst : List Int} (_c : c ∈ lst) {J : Int → Bool → Heap → Prop}
   (hw : wpAny M T (exec st env) (fun fl s' => MEnd (fl = Flow.next ∧ ∃ h tk lt vd vk, s' = { s₀ with heap := h, toks := tk } ∧ Fr g L h (fun y => if y = Str.ofString "is_let" then some (.bool lt) else if y = Str.ofString "due" then vd else if y = Str.ofString "kept" then vk else m1 y) ∧ J c lt h)) E s₁)
   (ht : ∀ h tk lt vd vk, Fr g L h (fun y => if y = Str.ofString "is_let" then some (.bool lt) else if y = Str.ofString "due" then vd else if y = Str.ofString "kept" then vk else m1 y) → J c lt h → wpAny M T (execs rest env) Q E { s₀ with heap := h, toks := tk }) : wpAny M T (execs (st :: rest) env) Q E s₁ := by
  refine wpAny_execs_cons (wpAny_mono hw ?_ fun _ _ y => y)
  rintro fl s' ⟨rfl, h, tk, lt, vd, vk, rfl, F, hj⟩
  exact ht h tk lt vd vk F hj
theorem fr_letA {g h : Heap} {L : Addr} {m1 : Str → Option Value} {x v : Option Value} (F : Fr g L h (fun y => if y = Str.ofString "is_let" then x else if y = Str.ofString "due" then v else m1 y)) :
    Fr g L h (fun y => if y = Str.ofString "is_let" then x else if y = Str.ofString "due" then v else if y = Str.ofString "kept" then m1 (Str.ofString "kept") else m1 y) := by
  have : (fun y => if y = Str.ofString "is_let" then x else if y = Str.ofString "due" then v else if y = Str.ofString "kept" then m1 (Str.ofString "kept") else m1 y) = (fun y => if y = Str.ofString "is_let" then x else if y = Str.ofString "due" then v else m1 y) := by
    funext y; split; rfl; split; rfl; split <;> simp_all
  rw [this]; exact F
theorem fr_letB {g h : Heap} {L : Addr} {m1 : Str → Option Value} {x v : Option Value} (F : Fr g L h (fun y => if y = Str.ofString "is_let" then x else if y = Str.ofString "kept" then v else m1 y)) :
    Fr g L h (fun y => if y = Str.ofString "is_let" then x else if y = Str.ofString "due" then m1 (Str.ofString "due") else if y = Str.ofString "kept" then v else m1 y) := by
  have : (fun y => if y = Str.ofString "is_let" then x else if y = Str.ofString "due" then m1 (Str.ofString "due") else if y = Str.ofString "kept" then v else m1 y) = (fun y => if y = Str.ofString "is_let" then x else if y = Str.ofString "kept" then v else m1 y) := by
    funext y; split; rfl; split
    · rename_i hd; subst hd; rw [if_neg (by decide)]
    · rfl
  rw [this]; exact F
theorem bnd10 {b : Int} {l : List Int} (h : Bnd b l) (hb : b ≤ 10 ^ 9) : ∀ x ∈ l, -(10 ^ 10) < x ∧ x < 10 ^ 10 := fun x hx => by
  have := h x hx; omega
theorem held_lt {bk bs bc bd D : Addr} {o : Obj} {rest : List (Addr × Obj)} (h : @LT.lt Nat _ bk D ∧ @LT.lt Nat _ bs D ∧ @LT.lt Nat _ bc D ∧ @LT.lt Nat _ bd D ∧ AllLt D rest) : ∀ p ∈ ((bk, o) :: (bs, o) :: (bc, o) :: (bd, o) :: rest), @LT.lt Nat _ p.1 D := fun p hp =>
  allLt_mem (show AllLt D ((bk, o) :: (bs, o) :: (bc, o) :: (bd, o) :: rest) from h) p hp
theorem loneB_of {c : Int} (h : LoneCode c) : loneB c = true := by
  unfold LoneCode at h
  rcases h with rfl | rfl | rfl | rfl | rfl | rfl | rfl | rfl | rfl | rfl | rfl | rfl | rfl | rfl | rfl | rfl | rfl | rfl | rfl | rfl <;> decide
theorem loneB_not {c : Int} (h : (List.any [32, 33, 35, 36, 37, 38, 38, 138, 80, 81, 82, 83, 84, 85, 90, 91, 92, 86, 87, 34] fun x => x == c) = false) (h2 : c ≠ 126) : loneB c = false := by
  have h2' : ¬ (126 : Int) = c := fun e => h2 e.symm
  simp only [List.any_cons, List.any_nil, Bool.or_false, Bool.or_eq_false_iff, beq_eq_false_iff_ne, ne_eq] at h
  unfold loneB
  simp [h, h2']
theorem lone_some {c : Int} {ns l cns : List Int} {cst : List (Int × Int)} (h : LoneCode c) (e : loneOp c ns = some l) : opStep c ns cns cst = some (l, cns, cst) := by
  unfold opStep; rw [if_pos (loneB_of h), e]; rfl
theorem lone_none {c : Int} {ns cns : List Int} {cst : List (Int × Int)} (h : LoneCode c) (e : loneOp c ns = none) : opStep c ns cns cst = none := by
  unfold opStep; rw [if_pos (loneB_of h), e]; rfl
theorem held_eq {c : Int} {ns cns : List Int} {cst : List (Int × Int)} {r : Option (List Int × List Int × List (Int × Int))} (h : (List.any [32, 33, 35, 36, 37, 38, 38, 138, 80, 81, 82, 83, 84, 85, 90, 91, 92, 86, 87, 34] fun x => x == c) = false) (h2 : c ≠ 126) (e : heldOp c ns cns cst = r) : opStep c ns cns cst = r := by
  unfold opStep; rw [if_neg (by rw [loneB_not h h2]; decide), e]
theorem op_inj {o : Option (List Int × List Int × List (Int × Int))} {a a' b b' : List Int} {c c' : List (Int × Int)} (h : o = some (a, b, c)) (h' : o = some (a', b', c')) : a' = a ∧ b' = b ∧ c' = c := by
  rw [h] at h'; injection h' with h'; injection h' with h1 h'; injection h' with h2 h3; exact ⟨h1.symm, h2.symm, h3.symm⟩
theorem kdf_rows' {c d : List (Int × Int)} (h : ∀ p ∈ c, PySem.Spec.lookup (PyData.int p.1) (kdfD d) = some (PyData.int p.2)) : KeqRows (kdfD d) (kdfD c) true := by
  induction c with
  | nil => exact .nil
  | cons p c ih =>
    have e : (PyData.eqv (PyData.int p.2) (PyData.int p.2) && true) = true := by simp [PyData.eqv]
    rw [← e]
    exact KeqRows.hit (h p (.head _)) (ih fun q hq => h q (.tail _ hq))
theorem kdf_rows {c : List (Int × Int)} (h : (c.map (·.1)).Nodup) : KeqRows (kdfD c) (kdfD c) true := by
  refine kdf_rows' fun p hp => ?_
  rw [kdfD_lookup]
  have : c.find? (fun q => decide (q.1 = p.1)) = some p := by
    induction c with
    | nil => cases hp
    | cons q c ih =>
      rw [List.find?_cons]
      rcases List.mem_cons.mp hp with rfl | hp
      · simp
      · have hne : q.1 ≠ p.1 := fun e => (List.nodup_cons.mp h).1 (by show q.1 ∈ _; rw [e]; exact List.mem_map_of_mem hp)
        simp only [hne, decide_false]
        exact ih (List.nodup_cons.mp h).2 hp
  rw [this]; rfl
theorem clear_lt {W dW S dS nl cv sd D : Addr} {o : Obj} {rest : List (Addr × Obj)} (h : @LT.lt Nat _ W D ∧ @LT.lt Nat _ dW D ∧ @LT.lt Nat _ S D ∧ @LT.lt Nat _ dS D ∧ @LT.lt Nat _ nl D ∧ @LT.lt Nat _ cv D ∧ @LT.lt Nat _ sd D ∧ AllLt D rest) :
    ∀ p ∈ ((W, o) :: (dW, o) :: (S, o) :: (dS, o) :: (nl, o) :: (cv, o) :: (sd, o) :: rest), @LT.lt Nat _ p.1 D := fun p hp =>
  allLt_mem (show AllLt D ((W, o) :: (dW, o) :: (S, o) :: (dS, o) :: (nl, o) :: (cv, o) :: (sd, o) :: rest) from h) p hp
theorem same_get {fs : List Addr} {g g' : Heap} (T : KtsTurn fs g g') (e : fs = []) (b : Addr) : g'.get? b = g.get? b := by
  subst e
  cases q : g.get? b with
  | none => exact T.none_ b q
  | some o => exact T.other b o q (by simp)
theorem same_fr {g g' h : Heap} {L : Addr} {m : Str → Option Value} (T : KtsTurn ([] : List Addr) g g') (F : Fr g' L h m) : Fr g L h m :=
  ⟨F.ns, fun b o e => F.keep b o ((same_get T rfl b).trans e), by rw [← T.size]; exact F.above⟩
theorem same_news {g g' h : Heap} {L : Addr} {news : List (Addr × Obj)} (T : KtsTurn ([] : List Addr) g g') (N : News g' L h news) : News g L h news :=
  fun p hp => ⟨(N p hp).1, (N p hp).2.1, (same_get T rfl p.1).symm.trans (N p hp).2.2⟩
theorem opc_mem {c : Int} (h : c ∈ ([32, 33, 35, 36, 37, 38, 38, 138, 80, 81, 82, 83, 84, 85, 90, 91, 92, 86, 87, 34] ++ [66, 66, 67, 68, 112, 69, 75, 76, 136, 126] : List Int)) : OpCode c := by
  exact (show ∀ c ∈ ([32, 33, 35, 36, 37, 38, 38, 138, 80, 81, 82, 83, 84, 85, 90, 91, 92, 86, 87, 34] ++ [66, 66, 67, 68, 112, 69, 75, 76, 136, 126] : List Int), OpCode c by unfold OpCode; decide +kernel) c h
theorem lcode_any {c : Int} (h : (List.any [32, 33, 35, 36, 37, 38, 38, 138, 80, 81, 82, 83, 84, 85, 90, 91, 92, 86, 87, 34] fun x => x == c) = true) : LoneCode c := by
  obtain ⟨x, hx, e⟩ := List.any_eq_true.mp h
  obtain rfl := beq_iff_eq.mp e
  exact (show ∀ c ∈ ([32, 33, 35, 36, 37, 38, 38, 138, 80, 81, 82, 83, 84, 85, 90, 91, 92, 86, 87, 34] : List Int), LoneCode c by unfold LoneCode; decide +kernel) x hx
theorem lcode_126 {c : Int} (h : c = 126) : LoneCode c := by subst h; unfold LoneCode; decide +kernel
theorem fr_num2 {g h : Heap} {L : Addr} {m1 : Str → Option Value} {x y : Option Value} (F : Fr g L h (fun z => if z = Str.ofString "number" then x else if z = Str.ofString "number" then y else m1 z)) : Fr g L h (fun z => if z = Str.ofString "number" then x else m1 z) := by
  have : (fun z => if z = Str.ofString "number" then x else if z = Str.ofString "number" then y else m1 z) = fun z => if z = Str.ofString "number" then x else m1 z := by funext z; split <;> simp_all
  rw [this] at F; exact F
structure TS where
  (nl bs : Addr)
  (vs cvs vb cvb : List Value)
  (k kc kb kcb k0 : Nat)
  (sto bo bdo : Obj)
  (kvs kvb : List (Int × Value))
  (ns cns : List Int)
  (cst : List (Int × Int))
  (a0 b0 : Int)
  (ta0 tb0 : Tok)
structure GoodS (w : World) (bc bd : Addr) (b : Int) (n : Nat) (σ : TS) : Prop where
  hi : IntsAre σ.vs σ.ns
  hib : IntsAre σ.vb σ.ns
  hcn : IntsAre σ.cvs σ.cns
  hcb : IntsAre σ.cvb σ.cns
  hl : σ.ns.length ≤ 12
  hcl : σ.cns.length = 3
  b1 : Bnd b σ.ns
  b2 : Bnd b σ.cns
  b3 : BndP b σ.cst
  ck : (σ.cst.map (·.1)).Nodup
  hc9 : σ.cst.length ≤ n
  hd9 : σ.sto.IsDictOf (PySem.intKind PySem.Challenge.rw_on0247_01.row.toRowW.prog w) σ.kvs
  hf9 : PyProof.V.FlatPairs PyData.int σ.kvs (kdfD σ.cst)
  hdb : σ.bdo.IsDictOf (PySem.intKind PySem.Challenge.rw_on0247_01.row.toRowW.prog w) σ.kvb
  hfb : PyProof.V.FlatPairs PyData.int σ.kvb (kdfD σ.cst)
  hbk : σ.bo.IsDictOf (PySem.strKind PySem.Challenge.rw_on0247_01.row.toRowW.prog w) [(Str.ofString "stack", Value.ref σ.bs), (Str.ofString "cvt", Value.ref bc), (Str.ofString "stored", Value.ref bd)]
  ha : 0 ≤ σ.a0
  hb : 0 ≤ σ.b0
  hb2 : σ.b0 < 2147483647
structure TL where
  (bs : Addr)
  (vs vb : List Value)
  (k kb k0 : Nat)
  (bo : Obj)
  (ns : List Int)
  (a0 b0 : Int)
  (ta tb : Tok)
structure S1 (w : World) (bc bd : Addr) (b : Int) (τ : TL) : Prop where
  hi : IntsAre τ.vs τ.ns
  hib : IntsAre τ.vb τ.ns
  hl : τ.ns.length ≤ 12
  b1 : Bnd b τ.ns
  ha : 0 ≤ τ.a0
  hb : 0 ≤ τ.b0
  hb2 : τ.b0 < 2147483647
  hbk : τ.bo.IsDictOf (PySem.strKind PySem.Challenge.rw_on0247_01.row.toRowW.prog w) [(Str.ofString "stack", Value.ref τ.bs), (Str.ofString "cvt", Value.ref bc), (Str.ofString "stored", Value.ref bd)]
structure TB where
  (bs : Addr)
  (vb : List Value)
  (kb : Nat)
  (bo : Obj)
  (cvb : List Value)
  (kcb : Nat)
  (bdo : Obj)
  (kvb : List (Int × Value))
  (nsx cnx : List Int)
  (csx : List (Int × Int))
structure S2 (w : World) (bc bd : Addr) (c : Int) (lt : Bool) (ns cns : List Int) (cst : List (Int × Int)) (τ : TB) : Prop where
  hib : IntsAre τ.vb τ.nsx
  hcb : IntsAre τ.cvb τ.cnx
  hdb : τ.bdo.IsDictOf (PySem.intKind PySem.Challenge.rw_on0247_01.row.toRowW.prog w) τ.kvb
  hfb : PyProof.V.FlatPairs PyData.int τ.kvb (kdfD τ.csx)
  hbk : τ.bo.IsDictOf (PySem.strKind PySem.Challenge.rw_on0247_01.row.toRowW.prog w) [(Str.ofString "stack", Value.ref τ.bs), (Str.ofString "cvt", Value.ref bc), (Str.ofString "stored", Value.ref bd)]
  hlt : if lt then opStep c ns cns cst = some (τ.nsx, τ.cnx, τ.csx) else opStep c ns cns cst = none ∧ τ.nsx = ns ∧ τ.cnx = cns ∧ τ.csx = cst
abbrev TJX (w : World) (W dW S dS cv sd op bk bc bd src G sc zn : Addr) (u : WTok) (t1 t2 tm : Tok) (oo : Obj) (b : Int) (st : List (Addr × Obj)) (nl : Addr) (cvs cvb : List Value) (kc kcb : Nat) (sto bdo : Obj) (g' : Heap) (L' : Addr) (oc : Obj) (ot : Addr) (otv : List Value) (ko : Nat) (lo : Addr) (lov : List Value) (kl : Nat) (h : Heap) : Prop :=
  ∃ τ : TL, News g' L' h ((ot, listOf (List.toArray otv) ko) :: (lo, listOf (List.toArray lov) kl) :: (L' + 1, oc) :: (W, instObj 476 dW) :: (dW, dictOf (WrkE w u G S zn cv sd sc 12) 8) :: (S, instObj 425 dS) :: (dS, dictOf (StkE w t1 t2 tm nl) 2) :: (nl, listOf (List.toArray τ.vs) τ.k) :: (cv, listOf (List.toArray cvs) kc) :: (sd, sto) :: (op, oo) :: (bk, τ.bo) :: (τ.bs, listOf (List.toArray τ.vb) τ.kb) :: (bc, listOf (List.toArray cvb) kcb) :: (bd, bdo) :: (src, listOf (List.toArray [Value.int τ.a0 τ.ta, Value.int τ.b0 τ.tb]) τ.k0) :: st) ∧ ND ((ot : Nat) :: (lo : Nat) :: (L' + 1 : Nat) :: (W : Nat) :: (dW : Nat) :: (S : Nat) :: (dS : Nat) :: (nl : Nat) :: (cv : Nat) :: (sd : Nat) :: (op : Nat) :: (bk : Nat) :: (τ.bs : Nat) :: (bc : Nat) :: (bd : Nat) :: (src : Nat) :: List.map (fun p => (p.1 : Nat)) st) ∧ S1 w bc bd b τ
abbrev TJC (w : World) (W dW S dS cv sd op bk bc bd src G sc zn : Addr) (u : WTok) (t1 t2 tm : Tok) (oo : Obj) (st : List (Addr × Obj)) (nl : Addr) (cvs cvb : List Value) (kc kcb : Nat) (sto bdo : Obj) (L' : Addr) (oc : Obj) (ot : Addr) (otv : List Value) (ko : Nat) (lo : Addr) (lov : List Value) (kl : Nat) (bs : Addr) (vs vb : List Value) (k kb : Nat) (bo : Obj) (i : Nat) (ys : List Value) (nw : List (Addr × Obj)) : Prop :=
  ∃ (a9 b9 : Int) (ta9 tb9 : Tok) (k9 : Nat) (ms : List Int), nw = (ot, listOf (List.toArray otv) ko) :: (lo, listOf (List.toArray lov) kl) :: (L' + 1, oc) :: (W, instObj 476 dW) :: (dW, dictOf (WrkE w u G S zn cv sd sc 12) 8) :: (S, instObj 425 dS) :: (dS, dictOf (StkE w t1 t2 tm nl) 2) :: (nl, listOf (List.toArray vs) k) :: (cv, listOf (List.toArray cvs) kc) :: (sd, sto) :: (op, oo) :: (bk, bo) :: (bs, listOf (List.toArray vb) kb) :: (bc, listOf (List.toArray cvb) kcb) :: (bd, bdo) :: (src, listOf (List.toArray [Value.int a9 ta9, Value.int b9 tb9]) k9) :: st ∧ 0 ≤ a9 ∧ 0 ≤ b9 ∧ b9 < 2147483647 ∧ IntsAre ys ms ∧ ms.length = i ∧ Bnd 95 ms
abbrev TJ2 (w : World) (W dW S dS cv sd op bk bc bd src G sc zn : Addr) (u : WTok) (t1 t2 tm : Tok) (oo : Obj) (st : List (Addr × Obj)) (nl : Addr) (cvs cvb : List Value) (kc kcb : Nat) (sto bdo : Obj) (L' : Addr) (oc : Obj) (ot : Addr) (otv : List Value) (ko : Nat) (lo : Addr) (lov : List Value) (kl : Nat) (ns : List Int) (a9 b9 : Int) (ta9 tb9 : Tok) (k9 : Nat) (D : Addr) (ys : List Value) (ms : List Int) (i : Nat) (nw : List (Addr × Obj)) : Prop :=
  ∃ (bs' : Addr) (vs' vb' : List Value) (k' kb' : Nat) (bo' : Obj), nw = (D, LCg.lst ys) :: (ot, listOf (List.toArray otv) ko) :: (lo, listOf (List.toArray lov) kl) :: (L' + 1, oc) :: (W, instObj 476 dW) :: (dW, dictOf (WrkE w u G S zn cv sd sc 12) 8) :: (S, instObj 425 dS) :: (dS, dictOf (StkE w t1 t2 tm nl) 2) :: (nl, listOf (List.toArray vs') k') :: (cv, listOf (List.toArray cvs) kc) :: (sd, sto) :: (op, oo) :: (bk, bo') :: (bs', listOf (List.toArray vb') kb') :: (bc, listOf (List.toArray cvb) kcb) :: (bd, bdo) :: (src, listOf (List.toArray [Value.int a9 ta9, Value.int b9 tb9]) k9) :: st ∧ ND ((D : Nat) :: (ot : Nat) :: (lo : Nat) :: (L' + 1 : Nat) :: (W : Nat) :: (dW : Nat) :: (S : Nat) :: (dS : Nat) :: (nl : Nat) :: (cv : Nat) :: (sd : Nat) :: (op : Nat) :: (bk : Nat) :: (bs' : Nat) :: (bc : Nat) :: (bd : Nat) :: (src : Nat) :: List.map (fun p => (p.1 : Nat)) st) ∧ IntsAre vs' (ns ++ ms.take i) ∧ IntsAre vb' (ns ++ ms.take i) ∧ bo'.IsDictOf (PySem.strKind PySem.Challenge.rw_on0247_01.row.toRowW.prog w) [(Str.ofString "stack", Value.ref bs'), (Str.ofString "cvt", Value.ref bc), (Str.ofString "stored", Value.ref bd)]
abbrev TJL (w : World) (W dW S dS cv sd op bk bc bd src G sc zn : Addr) (u : WTok) (t1 t2 tm : Tok) (oo : Obj) (st : List (Addr × Obj)) (nl : Addr) (cvs : List Value) (kc : Nat) (sto : Obj) (cns : List Int) (cst : List (Int × Int)) (g' : Heap) (L' : Addr) (vs : List Value) (k : Nat) (ns : List Int) (a9 b9 : Int) (ta9 tb9 : Tok) (k9 : Nat) (c : Int) (lt : Bool) (h : Heap) : Prop :=
  ∃ τ : TB, News g' L' h ((W, instObj 476 dW) :: (dW, dictOf (WrkE w u G S zn cv sd sc 12) 8) :: (S, instObj 425 dS) :: (dS, dictOf (StkE w t1 t2 tm nl) 2) :: (nl, listOf (List.toArray vs) k) :: (cv, listOf (List.toArray cvs) kc) :: (sd, sto) :: (op, oo) :: (bk, τ.bo) :: (τ.bs, listOf (List.toArray τ.vb) τ.kb) :: (bc, listOf (List.toArray τ.cvb) τ.kcb) :: (bd, τ.bdo) :: (src, listOf (List.toArray [Value.int a9 ta9, Value.int b9 tb9]) k9) :: st) ∧ ND ((W : Nat) :: (dW : Nat) :: (S : Nat) :: (dS : Nat) :: (nl : Nat) :: (cv : Nat) :: (sd : Nat) :: (op : Nat) :: (bk : Nat) :: (τ.bs : Nat) :: (bc : Nat) :: (bd : Nat) :: (src : Nat) :: List.map (fun p => (p.1 : Nat)) st) ∧ S2 w bc bd c lt ns cns cst τ
theorem turn_pack {g h : Heap} {L L' : Addr} {w : World} {W dW S dS nl cv sd op bk bs bc bd src G sc zn ot lo : Addr} {u : WTok} {t1 t2 tm : Tok} {oo sto bo bdo oc : Obj} {vs cvs vb cvb otv lov : List Value} {k kc kb kcb k0 ko kl : Nat} {a0 b0 : Int} {ta0 tb0 : Tok} {st : List (Addr × Obj)} {p1 p2 : Addr × Obj} {OT LO : List Int}
   (N : News g L h ((ot, listOf otv.toArray ko) :: (lo, listOf lov.toArray kl) :: p1 :: p2 :: (L' + 1, oc) :: (W, instObj 476 dW) :: (dW, dictOf (WrkE w u G S zn cv sd sc 12) 8) :: (S, instObj 425 dS) :: (dS, dictOf (StkE w t1 t2 tm nl) 2) :: (nl, listOf (List.toArray vs) k) :: (cv, listOf (List.toArray cvs) kc) :: (sd, sto) :: (op, oo) :: (bk, bo) :: (bs, listOf (List.toArray vb) kb) :: (bc, listOf (List.toArray cvb) kcb) :: (bd, bdo) :: (src, listOf (List.toArray [Value.int a0 ta0, Value.int b0 tb0]) k0) :: st)) (io : IntsAre otv OT) (il : IntsAre lov LO) (nd : ND ((W : Nat) :: (dW : Nat) :: (S : Nat) :: (dS : Nat) :: (nl : Nat) :: (cv : Nat) :: (sd : Nat) :: (op : Nat) :: (bk : Nat) :: (bs : Nat) :: (bc : Nat) :: (bd : Nat) :: (src : Nat) :: List.map (fun p => (p.1 : Nat)) st))
   (l0 : ∀ p ∈ ((W, instObj 476 dW) :: (dW, dictOf (WrkE w u G S zn cv sd sc 12) 8) :: (S, instObj 425 dS) :: (dS, dictOf (StkE w t1 t2 tm nl) 2) :: (nl, listOf (List.toArray vs) k) :: (cv, listOf (List.toArray cvs) kc) :: (sd, sto) :: (op, oo) :: (bk, bo) :: (bs, listOf (List.toArray vb) kb) :: (bc, listOf (List.toArray cvb) kcb) :: (bd, bdo) :: (src, listOf (List.toArray [Value.int a0 ta0, Value.int b0 tb0]) k0) :: st), @LT.lt Nat _ p.1 L') (l1 : ∀ p ∈ (p1 :: p2 :: (L' + 1, oc) :: (W, instObj 476 dW) :: (dW, dictOf (WrkE w u G S zn cv sd sc 12) 8) :: (S, instObj 425 dS) :: (dS, dictOf (StkE w t1 t2 tm nl) 2) :: (nl, listOf (List.toArray vs) k) :: (cv, listOf (List.toArray cvs) kc) :: (sd, sto) :: (op, oo) :: (bk, bo) :: (bs, listOf (List.toArray vb) kb) :: (bc, listOf (List.toArray cvb) kcb) :: (bd, bdo) :: (src, listOf (List.toArray [Value.int a0 ta0, Value.int b0 tb0]) k0) :: st), @LT.lt Nat _ p.1 lo) (l2 : ∀ p ∈ ((lo, listOf lov.toArray kl) :: p1 :: p2 :: (L' + 1, oc) :: (W, instObj 476 dW) :: (dW, dictOf (WrkE w u G S zn cv sd sc 12) 8) :: (S, instObj 425 dS) :: (dS, dictOf (StkE w t1 t2 tm nl) 2) :: (nl, listOf (List.toArray vs) k) :: (cv, listOf (List.toArray cvs) kc) :: (sd, sto) :: (op, oo) :: (bk, bo) :: (bs, listOf (List.toArray vb) kb) :: (bc, listOf (List.toArray cvb) kcb) :: (bd, bdo) :: (src, listOf (List.toArray [Value.int a0 ta0, Value.int b0 tb0]) k0) :: st), @LT.lt Nat _ p.1 ot) :
   ∃ (ot' lo' : Addr) (otv' lov' : List Value) (ko' kl' : Nat), ot' = ot ∧ lo' = lo ∧ IntsAre otv' OT ∧ IntsAre lov' LO ∧ News g L h ((ot', listOf (List.toArray otv') ko') :: (lo', listOf (List.toArray lov') kl') :: (L' + 1, oc) :: (W, instObj 476 dW) :: (dW, dictOf (WrkE w u G S zn cv sd sc 12) 8) :: (S, instObj 425 dS) :: (dS, dictOf (StkE w t1 t2 tm nl) 2) :: (nl, listOf (List.toArray vs) k) :: (cv, listOf (List.toArray cvs) kc) :: (sd, sto) :: (op, oo) :: (bk, bo) :: (bs, listOf (List.toArray vb) kb) :: (bc, listOf (List.toArray cvb) kcb) :: (bd, bdo) :: (src, listOf (List.toArray [Value.int a0 ta0, Value.int b0 tb0]) k0) :: st) ∧ ND ((ot' : Nat) :: (lo' : Nat) :: (L' + 1 : Nat) :: (W : Nat) :: (dW : Nat) :: (S : Nat) :: (dS : Nat) :: (nl : Nat) :: (cv : Nat) :: (sd : Nat) :: (op : Nat) :: (bk : Nat) :: (bs : Nat) :: (bc : Nat) :: (bd : Nat) :: (src : Nat) :: List.map (fun p => (p.1 : Nat)) st) := by
  refine ⟨ot, lo, otv, lov, ko, kl, rfl, rfl, io, il, news_ixT (p := [(ot, _), (lo, _), p1, p2]) N [0, 1] rfl, ?_⟩
  have n1 := nd_new (D := L' + 1) nd rfl (fun p hp => Nat.lt_succ_of_lt (l0 p hp))
  have n2 := nd_new (D := lo) (news := (L' + 1, oc) :: (W, instObj 476 dW) :: (dW, dictOf (WrkE w u G S zn cv sd sc 12) 8) :: (S, instObj 425 dS) :: (dS, dictOf (StkE w t1 t2 tm nl) 2) :: (nl, listOf (List.toArray vs) k) :: (cv, listOf (List.toArray cvs) kc) :: (sd, sto) :: (op, oo) :: (bk, bo) :: (bs, listOf (List.toArray vb) kb) :: (bc, listOf (List.toArray cvb) kcb) :: (bd, bdo) :: (src, listOf (List.toArray [Value.int a0 ta0, Value.int b0 tb0]) k0) :: st) n1 rfl (fun p hp => l1 p (.tail _ (.tail _ hp)))
  exact nd_new (D := ot) (news := (lo, listOf lov.toArray kl) :: (L' + 1, oc) :: (W, instObj 476 dW) :: (dW, dictOf (WrkE w u G S zn cv sd sc 12) 8) :: (S, instObj 425 dS) :: (dS, dictOf (StkE w t1 t2 tm nl) 2) :: (nl, listOf (List.toArray vs) k) :: (cv, listOf (List.toArray cvs) kc) :: (sd, sto) :: (op, oo) :: (bk, bo) :: (bs, listOf (List.toArray vb) kb) :: (bc, listOf (List.toArray cvb) kcb) :: (bd, bdo) :: (src, listOf (List.toArray [Value.int a0 ta0, Value.int b0 tb0]) k0) :: st) n2 rfl (fun p hp => l2 p (by
    rcases List.mem_cons.mp hp with rfl | hp
    · exact .head _
    · exact .tail _ (.tail _ (.tail _ hp))))
theorem turn_end {g h : Heap} {L D2 I D ot lo c' W dW S dS nl cv sd op bk bs bc bd src : Addr} {w2 o0 o1 o2 o3 o4 o5 o6 o7 o8 o9 o10 o11 o12 o13 o14 o15 o16 o17 q0 q1 q2 q3 q4 q5 q6 q7 q8 q9 q10 q11 q12 q13 q14 q15 q16 q17 : Obj} {p1 p2 : Addr × Obj} {st : List (Addr × Obj)} (N : News g L h ((D2, w2) :: p1 :: (I, o0) :: (D, o1) :: (ot, o2) :: (lo, o3) :: (c', o4) :: (W, o5) :: (dW, o6) :: (S, o7) :: (dS, o8) :: (nl, o9) :: (cv, o10) :: (sd, o11) :: (op, o12) :: (bk, o13) :: (bs, o14) :: (bc, o15) :: (bd, o16) :: (src, o17) :: st)) (nd : ND ((I : Nat) :: (D : Nat) :: (ot : Nat) :: (lo : Nat) :: (c' : Nat) :: (W : Nat) :: (dW : Nat) :: (S : Nat) :: (dS : Nat) :: (nl : Nat) :: (cv : Nat) :: (sd : Nat) :: (op : Nat) :: (bk : Nat) :: (bs : Nat) :: (bc : Nat) :: (bd : Nat) :: (src : Nat) :: List.map (fun p => (p.1 : Nat)) st)) (lt : ∀ p ∈ (p2 :: (I, q0) :: (D, q1) :: (ot, q2) :: (lo, q3) :: (c', q4) :: (W, q5) :: (dW, q6) :: (S, q7) :: (dS, q8) :: (nl, q9) :: (cv, q10) :: (sd, q11) :: (op, q12) :: (bk, q13) :: (bs, q14) :: (bc, q15) :: (bd, q16) :: (src, q17) :: st), @LT.lt Nat _ p.1 D2) :
  News g L h ((I, o0) :: (D, o1) :: (ot, o2) :: (lo, o3) :: (c', o4) :: (W, o5) :: (dW, o6) :: (S, o7) :: (dS, o8) :: (nl, o9) :: (cv, o10) :: (sd, o11) :: (op, o12) :: (bk, o13) :: (D2, w2) :: (bc, o15) :: (bd, o16) :: (src, o17) :: st) ∧ ND ((I : Nat) :: (D : Nat) :: (ot : Nat) :: (lo : Nat) :: (c' : Nat) :: (W : Nat) :: (dW : Nat) :: (S : Nat) :: (dS : Nat) :: (nl : Nat) :: (cv : Nat) :: (sd : Nat) :: (op : Nat) :: (bk : Nat) :: (D2 : Nat) :: (bc : Nat) :: (bd : Nat) :: (src : Nat) :: List.map (fun p => (p.1 : Nat)) st) :=
  ⟨news_ixT (p := [(D2, _), p1, (I, _), (D, _), (ot, _), (lo, _), (c', _), (W, _), (dW, _), (S, _), (dS, _), (nl, _), (cv, _), (sd, _), (op, _), (bk, _), (bs, _), (bc, _), (bd, _), (src, _)]) N [2, 3, 4, 5, 6, 7, 8, 9, 10, 11, 12, 13, 14, 15, 0, 17, 18, 19] rfl, nd_ixT (p := [(D2 : Nat), I, D, ot, lo, c', W, dW, S, dS, nl, cv, sd, op, bk, bs, bc, bd, src]) (nd_new nd rfl (fun p hp => lt p (.tail _ hp))) [1, 2, 3, 4, 5, 6, 7, 8, 9, 10, 11, 12, 13, 14, 0, 16, 17, 18] rfl (by decide)⟩
theorem fr_num3 {g h : Heap} {L : Addr} {m1 : Str → Option Value} {x y v : Option Value} {a : Str} (F : Fr g L h (fun z => if z = a then x else if z = a then y else if z = a then v else m1 z)) : Fr g L h (fun z => if z = a then x else m1 z) := by
  have : (fun z => if z = a then x else if z = a then y else if z = a then v else m1 z) = fun z => if z = a then x else m1 z := by funext z; split <;> simp_all
  rw [this] at F; exact F
theorem turn_lone {g h : Heap} {L D2 ot lo c' W dW S dS nl cv sd op bk bs bc bd src : Addr} {w2 o0 o1 o2 o3 o4 o5 o6 o7 o8 o9 o10 o11 o12 o13 o14 o15 q0 q1 q2 q3 q4 q5 q6 q7 q8 q9 q10 q11 q12 q13 q14 q15 : Obj} {st : List (Addr × Obj)} (N : News g L h ((D2, w2) :: (ot, o0) :: (lo, o1) :: (c', o2) :: (W, o3) :: (dW, o4) :: (S, o5) :: (dS, o6) :: (nl, o7) :: (cv, o8) :: (sd, o9) :: (op, o10) :: (bk, o11) :: (bs, o12) :: (bc, o13) :: (bd, o14) :: (src, o15) :: st)) (nd : ND ((ot : Nat) :: (lo : Nat) :: (c' : Nat) :: (W : Nat) :: (dW : Nat) :: (S : Nat) :: (dS : Nat) :: (nl : Nat) :: (cv : Nat) :: (sd : Nat) :: (op : Nat) :: (bk : Nat) :: (bs : Nat) :: (bc : Nat) :: (bd : Nat) :: (src : Nat) :: List.map (fun p => (p.1 : Nat)) st)) (lt : ∀ p ∈ ((ot, q0) :: (lo, q1) :: (c', q2) :: (W, q3) :: (dW, q4) :: (S, q5) :: (dS, q6) :: (nl, q7) :: (cv, q8) :: (sd, q9) :: (op, q10) :: (bk, q11) :: (bs, q12) :: (bc, q13) :: (bd, q14) :: (src, q15) :: st), @LT.lt Nat _ p.1 D2) :
  News g L h ((W, o3) :: (dW, o4) :: (S, o5) :: (dS, o6) :: (nl, o7) :: (cv, o8) :: (sd, o9) :: (op, o10) :: (bk, o11) :: (D2, w2) :: (bc, o13) :: (bd, o14) :: (src, o15) :: st) ∧ ND ((W : Nat) :: (dW : Nat) :: (S : Nat) :: (dS : Nat) :: (nl : Nat) :: (cv : Nat) :: (sd : Nat) :: (op : Nat) :: (bk : Nat) :: (D2 : Nat) :: (bc : Nat) :: (bd : Nat) :: (src : Nat) :: List.map (fun p => (p.1 : Nat)) st) :=
  ⟨news_ixT (p := [(D2, _), (ot, _), (lo, _), (c', _), (W, _), (dW, _), (S, _), (dS, _), (nl, _), (cv, _), (sd, _), (op, _), (bk, _), (bs, _), (bc, _), (bd, _), (src, _)]) N [4, 5, 6, 7, 8, 9, 10, 11, 12, 0, 14, 15, 16] rfl, nd_ixT (p := [(D2 : Nat), ot, lo, c', W, dW, S, dS, nl, cv, sd, op, bk, bs, bc, bd, src]) (nd_new nd rfl lt) [4, 5, 6, 7, 8, 9, 10, 11, 12, 0, 14, 15, 16] rfl (by decide)⟩
theorem held_pack {g h : Heap} {L K : Addr} {oK : Obj} {a b c a' b' c' : Addr × Obj} {r : List (Addr × Obj)} {l : List Nat} (N : News g L h ((K, oK) :: a :: b :: c :: r)) (nd : ND l) (e : r.map (fun p => (p.1 : Nat)) = l) (lt : ∀ p ∈ (a' :: b' :: c' :: r), @LT.lt Nat _ p.1 K) : ∃ K', K' = K ∧ News g L h ((K', oK) :: r) ∧ ND ((K' : Nat) :: l) :=
  ⟨K, rfl, news_ixT (p := [(K, oK), a, b, c]) N [0] rfl, nd_new nd e (fun p hp => lt p (.tail _ (.tail _ (.tail _ hp))))⟩
theorem held_put {g h : Heap} {L K W dW S dS nl cv sd op bk bc bd src : Addr} {oK o0 o1 o2 o3 o4 o5 o6 o7 o8 o10 o11 o12 : Obj} {st : List (Addr × Obj)} (N : News g L h ((K, oK) :: (W, o0) :: (dW, o1) :: (S, o2) :: (dS, o3) :: (nl, o4) :: (cv, o5) :: (sd, o6) :: (op, o7) :: (bk, o8) :: (bc, o10) :: (bd, o11) :: (src, o12) :: st)) : News g L h ((W, o0) :: (dW, o1) :: (S, o2) :: (dS, o3) :: (nl, o4) :: (cv, o5) :: (sd, o6) :: (op, o7) :: (bk, o8) :: (K, oK) :: (bc, o10) :: (bd, o11) :: (src, o12) :: st) := news_ixT (p := [(K, _), (W, _), (dW, _), (S, _), (dS, _), (nl, _), (cv, _), (sd, _), (op, _), (bk, _), (bc, _), (bd, _), (src, _)]) N [1, 2, 3, 4, 5, 6, 7, 8, 9, 0, 10, 11, 12] rfl
theorem held_ndb {K W dW S dS nl cv sd op bk bs bc bd src : Nat} {l : List Nat} (nd : ND (K :: W :: dW :: S :: dS :: nl :: cv :: sd :: op :: bk :: bs :: bc :: bd :: src :: l)) : ND (K :: W :: dW :: S :: dS :: nl :: cv :: sd :: op :: bk :: bc :: bd :: src :: l) := nd_ixT (p := [K, W, dW, S, dS, nl, cv, sd, op, bk, bs, bc, bd, src]) nd [0, 1, 2, 3, 4, 5, 6, 7, 8, 9, 11, 12, 13] rfl (by decide)
theorem held_nd {K W dW S dS nl cv sd op bk bs bc bd src : Nat} {l : List Nat} (nd : ND (K :: W :: dW :: S :: dS :: nl :: cv :: sd :: op :: bk :: bs :: bc :: bd :: src :: l)) : ND (W :: dW :: S :: dS :: nl :: cv :: sd :: op :: bk :: K :: bc :: bd :: src :: l) := nd_ixT (p := [K, W, dW, S, dS, nl, cv, sd, op, bk, bs, bc, bd, src]) nd [1, 2, 3, 4, 5, 6, 7, 8, 9, 0, 11, 12, 13] rfl (by decide)
local macro_rules | `(tactic| k_lt $x) => `(tactic| skip)
local macro_rules | `(tactic| k_ne) => `(tactic| k_extra "x_ne #T5")
local macro_rules | `(tactic| k_mem) => `(tactic| k_extra "x_mem #T5")
local macro_rules | `(tactic| k_upd) => `(tactic| k_extra "x_upd #T5")
local macro_rules | `(tactic| k_updF) => `(tactic| k_extra "x_updF #T5")
local macro_rules | `(tactic| walk_at $s:str) => `(tactic| k_extra $(Lean.Syntax.mkStrLit (s.getString ++ " #T5")))
theorem reg31 : True := by
  (k_with "x_ne #T5" => first | (((try dsimp only); first | exact fresh_ne (by with_reducible assumption) (by k_extra "u_mem_T5") | exact Ne.symm (fresh_ne (by with_reducible assumption) (by k_extra "u_mem_T5")) | exact Ne.symm (hoff_ne (by with_reducible assumption) (by k_extra "u_mem_T5")) | exact hoff_ne (by with_reducible assumption) (by k_extra "u_mem_T5") | exact (off3_1 (by with_reducible assumption) (by k_extra "u_mem_T5")).1 | exact Ne.symm (off3_1 (by with_reducible assumption) (by k_extra "u_mem_T5")).1 | exact (off3_1 (by with_reducible assumption) (by k_extra "u_mem_T5")).2.1 | exact Ne.symm (off3_1 (by with_reducible assumption) (by k_extra "u_mem_T5")).2.1 | exact (off3_1 (by with_reducible assumption) (by k_extra "u_mem_T5")).2.2 | exact Ne.symm (off3_1 (by with_reducible assumption) (by k_extra "u_mem_T5")).2.2 | exact off1_1 (by with_reducible assumption) (by k_extra "u_mem_T5") | exact Ne.symm (off1_1 (by with_reducible assumption) (by k_extra "u_mem_T5")))) | fail "no")
  (k_with "u_mem_T5" => first | (first | with_reducible assumption | with_reducible exact List.Mem.head _ | ((with_reducible refine mem_here ?_); exact rfl) | (refine List.Mem.tail _ ?_; k_extra "u_mem_T5")) | fail "no")
  (k_with "x_mem #T5" => first | (first | k_extra "u_mem_T5" | ((with_reducible rename KmStop => kst); skip)) | fail "no")
  (k_with "u_upd_T5" => first | (first | exact upd_ix 0 rfl (by with_reducible assumption) (by exact rfl) (by dsimp only [List.set]) | exact upd_ix 1 rfl (by with_reducible assumption) (by exact rfl) (by dsimp only [List.set]) | exact upd_ix 2 rfl (by with_reducible assumption) (by exact rfl) (by dsimp only [List.set]) | exact upd_ix 3 rfl (by with_reducible assumption) (by exact rfl) (by dsimp only [List.set]) | exact upd_ix 4 rfl (by with_reducible assumption) (by exact rfl) (by dsimp only [List.set]) | exact upd_ix 5 rfl (by with_reducible assumption) (by exact rfl) (by dsimp only [List.set]) | exact upd_ix 6 rfl (by with_reducible assumption) (by exact rfl) (by dsimp only [List.set]) | exact upd_ix 7 rfl (by with_reducible assumption) (by exact rfl) (by dsimp only [List.set]) | exact upd_ix 8 rfl (by with_reducible assumption) (by exact rfl) (by dsimp only [List.set]) | exact upd_ix 9 rfl (by with_reducible assumption) (by exact rfl) (by dsimp only [List.set]) | exact upd_ix 10 rfl (by with_reducible assumption) (by exact rfl) (by dsimp only [List.set]) | exact upd_ix 11 rfl (by with_reducible assumption) (by exact rfl) (by dsimp only [List.set]) | exact upd_ix 12 rfl (by with_reducible assumption) (by exact rfl) (by dsimp only [List.set]) | exact upd_ix 13 rfl (by with_reducible assumption) (by exact rfl) (by dsimp only [List.set]) | exact upd_ix 14 rfl (by with_reducible assumption) (by exact rfl) (by dsimp only [List.set]) | exact upd_ix 15 rfl (by with_reducible assumption) (by exact rfl) (by dsimp only [List.set]) | (apply Upd.tail; (focus (k_ne)); (focus (k_extra "u_upd_T5")))) | fail "no")
  (k_with "x_upd #T5" => first | (first | k_extra "u_upd_T5" | skip) | fail "no")
  (k_with "u_updF_T5" => first | (first | exact updF_ix 0 rfl (by with_reducible assumption) (by exact rfl) (by dsimp only [List.set]) | exact updF_ix 1 rfl (by with_reducible assumption) (by exact rfl) (by dsimp only [List.set]) | exact updF_ix 2 rfl (by with_reducible assumption) (by exact rfl) (by dsimp only [List.set]) | exact updF_ix 3 rfl (by with_reducible assumption) (by exact rfl) (by dsimp only [List.set]) | exact updF_ix 4 rfl (by with_reducible assumption) (by exact rfl) (by dsimp only [List.set]) | exact updF_ix 5 rfl (by with_reducible assumption) (by exact rfl) (by dsimp only [List.set]) | exact updF_ix 6 rfl (by with_reducible assumption) (by exact rfl) (by dsimp only [List.set]) | exact updF_ix 7 rfl (by with_reducible assumption) (by exact rfl) (by dsimp only [List.set]) | exact updF_ix 8 rfl (by with_reducible assumption) (by exact rfl) (by dsimp only [List.set]) | exact updF_ix 9 rfl (by with_reducible assumption) (by exact rfl) (by dsimp only [List.set]) | exact updF_ix 10 rfl (by with_reducible assumption) (by exact rfl) (by dsimp only [List.set]) | exact updF_ix 11 rfl (by with_reducible assumption) (by exact rfl) (by dsimp only [List.set]) | exact updF_ix 12 rfl (by with_reducible assumption) (by exact rfl) (by dsimp only [List.set]) | exact updF_ix 13 rfl (by with_reducible assumption) (by exact rfl) (by dsimp only [List.set]) | exact updF_ix 14 rfl (by with_reducible assumption) (by exact rfl) (by dsimp only [List.set]) | exact updF_ix 15 rfl (by with_reducible assumption) (by exact rfl) (by dsimp only [List.set]) | (apply UpdF.tail; (focus (k_ne)); (focus (k_extra "u_updF_T5")))) | fail "no")
  (k_with "x_updF #T5" => first | (first | k_extra "u_updF_T5" | skip) | fail "no")
  (k_with "m_len" => first | (first | exact Nat.le_of_ble_eq_true rfl | exact (getD_bnd (by with_reducible assumption) _).1 | exact (getD_bnd (by with_reducible assumption) _).2) | fail "no")
  (k_with "execs cons If #T5" => first | ((k_here; (with_reducible show wpAny _ _ (execs (Stmt.If (Expr.Compare (Expr.Call _ _ _ _) [CmpOp.Lt] _ _) _ _ _ :: _) _) _ _ _); refine Stop.out ?_)) | fail "no")
  (k_with "execs cons If #T5" => first | ((k_here; (with_reducible show wpAny _ _ (execs (Stmt.If (Expr.BoolOp _ (Expr.Compare (Expr.Name _ _) _ _ _ :: _) _) _ _ _ :: _) _) _ _ _); refine Stop.out ?_)) | fail "no")
  (k_with "call ref #T5" => first | ((k_here; (with_reducible show wpAny _ _ (call (Value.ref 543) _) _ _ _); refine Stop.out ?_)) | fail "no")
  (k_with "call ref #T5" => first | ((k_here; (with_reducible show wpAny _ _ (call (Value.ref 550) _) _ _ _); refine Stop.out ?_)) | fail "no")
  (k_with "m_lcode" => first | (first | exact lcode_any (by with_reducible assumption) | exact lcode_126 (by with_reducible assumption)) | fail "no")
  (k_with "compareOp NotEq ref ref #T5" => first | ((k_here; (try dsimp only); (with_reducible show wpAny _ _ (compareOp CmpOp.NotEq (Value.ref _) (Value.ref _)) _ _ _); k_dflt (refine kne_tabs (knd := PySem.intKind _ _) (enc := PyData.int) PyProof.V.same_int (by k_tabat) (by k_tabat) (by rfl) (by ktr_units) (kdf_rows (by with_reducible assumption)) ?_); (try simp only [Bool.not_true]))) | fail "no")
  (k_with "CompSrc #T5" => first | ((k_here; refine Stop.out ?_)) | fail "no")
  (k_with "CompEnd #T5" => first | ((refine Stop.out ?_)) | fail "no")
  (k_with "exec For Name ListComp cons nil #T5" => first | ((k_here; (rename Fr _ _ _ _ => lF'); (with_unfolding_all refine' For_turns lF' ?_; k_whole))) | fail "no")
  (k_with "pyIter ref #T5" => first | ((k_here; (with_reducible show wpAny _ _ (pyIter (Value.ref _)) (fun it s₂ => TurnsAt _ _ _ _ _ _ _ _ _ it s₂) _ _); refine Stop.out ?_)) | fail "no")
  (k_with "compareOp Eq ref ref #T5" => first | ((k_here; (with_reducible show wpAny _ _ (compareOp CmpOp.Eq (Value.ref _) (Value.ref _)) _ _ _); k_dflt (apply ke_eq_ints; (focus (is_list)); (focus (is_list)); (focus (l_ints)); (focus (l_ints)); (focus (ke_room))); ke_norm)) | fail "no")
  (k_with "setAttr #T5" => first | ((k_here; dsimp only)) | fail "no")
  (k_with "binaryOp Add ref ref #T5" => first | ((k_here; (with_reducible show wpAny _ _ (binaryOp _ (Value.ref _) (Value.ref _)) _ _ _); k_dflt (apply kmk_add_lit; (focus (k_asm)); (focus (k_asm)); (focus (kmk_list)); (focus (kmk_list)); (focus (kl_lit)); rotate_left; (focus (kl_room))); (k_extra "x_in2"; intro F'z9 N'z9 l1z9); (try k_lt l1z9); (try k_sweep))) | fail "no")
  trivial
noncomputable def turnF_S (w : World) (mean : ExcName → Option Value) (mg mb : Str → Option Value) (dp un : Nat) (gd : Option (List Code)) (cn : Str) (cs : Scope) (a : Addr) (ccd : Value) (cl : List (Str × Addr)) (A₀ : Around) (base h₀ : Heap) (L : Addr) (m : Str → Option Value) (s : Shared) (Q E : Value → Shared → Prop) (W dW S dS cv sd op bk bc bd src G dG R dR sc zn : Addr) (u : WTok) (t1 t2 tm : Tok) (gv : GV) (r1 r2 r3 r4 r5 r6 q1 q2 : Tok) (oo : Obj) (kvsO : List (Int × Value)) (b : Int) (n : Nat) (st xs : List (Addr × Obj)) (nl bs : Addr) (vs cvs vb cvb : List Value) (k kc kb kcb k0 : Nat) (sto bo bdo : Obj) (kvs kvb : List (Int × Value)) (ns cns : List Int) (cst : List (Int × Int)) (a0 b0 : Int) (ta0 tb0 : Tok) : Prop := ∀ (B : Below A₀ base [] h₀) (F : Fr h₀ L s.heap m) (X : (lay.heap_1 w.params).In h₀) (N : News h₀ L s.heap ((W, instObj 476 dW) :: (dW, dictOf (WrkE w u G S zn cv sd sc 12) 8) :: (S, instObj 425 dS) :: (dS, dictOf (StkE w t1 t2 tm nl) 2) :: (nl, listOf (List.toArray vs) k) :: (cv, listOf (List.toArray cvs) kc) :: (sd, sto) :: (op, oo) :: (bk, bo) :: (bs, listOf (List.toArray vb) kb) :: (bc, listOf (List.toArray cvb) kcb) :: (bd, bdo) :: (src, listOf (List.toArray [Value.int a0 ta0, Value.int b0 tb0]) k0) :: st)) (T' : Top view (looseW view [Str.ofString "HintWork"]) mean mg mb h₀) (hk : cs.kind = .function) (hdp : dp + 15 < recursionLimit) (hun : un + 220 < cLine)
  (hst : st = (G, instObj 369 dG) :: (dG, dictOf (GrE w gv R) 18) :: (R, instObj 112 dR) :: (dR, dictOf (RndE w r1 r2 r3 r4 r5 r6) 3) :: (sc, tupObj [Value.int 3 q1, Value.int 2 q2]) :: xs) (hm : MinG base (([] : List Env).filterMap (fun x => x.frame)) h₀) (bok : BaseOK w mean mg mb base) (loB : (bk == sysModules) = false) (lo9 : (sd == sysModules) = false) (loD : (bd == sysModules) = false) (hoo : oo.IsDictOf (PySem.intKind PySem.Challenge.rw_on0247_01.row.toRowW.prog w) kvsO) (hops : ∀ c, OpCode c → PySem.valueAt kvsO c = some (Value.ref (opF c))) (nd : ND ((W : Nat) :: (dW : Nat) :: (S : Nat) :: (dS : Nat) :: (nl : Nat) :: (cv : Nat) :: (sd : Nat) :: (op : Nat) :: (bk : Nat) :: (bs : Nat) :: (bc : Nat) :: (bd : Nat) :: (src : Nat) :: List.map (fun p => (p.1 : Nat)) st)) (good : GoodS w bc bd b n ⟨nl, bs, vs, cvs, vb, cvb, k, kc, kb, kcb, k0, sto, bo, bdo, kvs, kvb, ns, cns, cst, a0, b0, ta0, tb0⟩) (hb0 : 1000 ≤ b) (hb9 : b ≤ 10 ^ 9) (hn : n ≤ 500)
  (hret : ∀ h' tk' σ', Fr h₀ L h' m → News h₀ L h' ((W, instObj 476 dW) :: (dW, dictOf (WrkE w u G S zn cv sd sc 12) 8) :: (S, instObj 425 dS) :: (dS, dictOf (StkE w t1 t2 tm σ'.nl) 2) :: (σ'.nl, listOf (List.toArray σ'.vs) σ'.k) :: (cv, listOf (List.toArray σ'.cvs) σ'.kc) :: (sd, σ'.sto) :: (op, oo) :: (bk, σ'.bo) :: (σ'.bs, listOf (List.toArray σ'.vb) σ'.kb) :: (bc, listOf (List.toArray σ'.cvb) σ'.kcb) :: (bd, σ'.bdo) :: (src, listOf (List.toArray [Value.int σ'.a0 σ'.ta0, Value.int σ'.b0 σ'.tb0]) σ'.k0) :: st) → ND ((W : Nat) :: (dW : Nat) :: (S : Nat) :: (dS : Nat) :: (σ'.nl : Nat) :: (cv : Nat) :: (sd : Nat) :: (op : Nat) :: (bk : Nat) :: (σ'.bs : Nat) :: (bc : Nat) :: (bd : Nat) :: (src : Nat) :: List.map (fun p => (p.1 : Nat)) st) → GoodS w bc bd (2 * b) (n + 1) σ' → Q (.bool true) { s with heap := h', toks := tk' }),
  wpAny (model PySem.Challenge.rw_on0247_01.row.toRowW.prog w) (ktrTop dp un gd cn cs L a ccd cl []) (call (.ref 555) [.ref src, .ref W, .ref op, .ref bk]) Q E s
noncomputable def LT_S (p : Bag) : Prop := (turnF_S (p.fWo 0) (p.fMe 0) (p.fM 0) (p.fM 1) (p.fN 0) (p.fN 1) (p.fGD 0) (p.fSt 0) (p.fSc 0) (p.fA 0) (p.fV 0) (p.fCL 0) (p.fAr 0) (p.fH 0) (p.fH 1) (p.fA 1) (p.fM 2) (p.fSh 0) (p.fQ 0) (p.fQ 1) (p.fA 2) (p.fA 3) (p.fA 4) (p.fA 5) (p.fA 6) (p.fA 7) (p.fA 8) (p.fA 9) (p.fA 10) (p.fA 11) (p.fA 12) (p.fA 13) (p.fA 14) (p.fA 15) (p.fA 16) (p.fA 17) (p.fA 18) (p.fU 0) (p.fT 0) (p.fT 1) (p.fT 2) (p.fG 0) (p.fT 3) (p.fT 4) (p.fT 5) (p.fT 6) (p.fT 7) (p.fT 8) (p.fT 9) (p.fT 10) (p.fO 0) (p.fKV 0) (p.fI 0) (p.fN 2) (p.fAO 0) (p.fAO 1) (p.fA 19) (p.fA 20) (p.fVL 0) (p.fVL 1) (p.fVL 2) (p.fVL 3) (p.fN 3) (p.fN 4) (p.fN 5) (p.fN 6) (p.fN 7) (p.fO 1) (p.fO 2) (p.fO 3) (p.fKV 1) (p.fKV 2) (p.fIL 0) (p.fIL 1) (p.fKI 0) (p.fI 1) (p.fI 2) (p.fT 11) (p.fT 12))
noncomputable def LT_c : Bag := skc LT_S
theorem turnF_at : turnF_S (LT_c.fWo 0) (LT_c.fMe 0) (LT_c.fM 0) (LT_c.fM 1) (LT_c.fN 0) (LT_c.fN 1) (LT_c.fGD 0) (LT_c.fSt 0) (LT_c.fSc 0) (LT_c.fA 0) (LT_c.fV 0) (LT_c.fCL 0) (LT_c.fAr 0) (LT_c.fH 0) (LT_c.fH 1) (LT_c.fA 1) (LT_c.fM 2) (LT_c.fSh 0) (LT_c.fQ 0) (LT_c.fQ 1) (LT_c.fA 2) (LT_c.fA 3) (LT_c.fA 4) (LT_c.fA 5) (LT_c.fA 6) (LT_c.fA 7) (LT_c.fA 8) (LT_c.fA 9) (LT_c.fA 10) (LT_c.fA 11) (LT_c.fA 12) (LT_c.fA 13) (LT_c.fA 14) (LT_c.fA 15) (LT_c.fA 16) (LT_c.fA 17) (LT_c.fA 18) (LT_c.fU 0) (LT_c.fT 0) (LT_c.fT 1) (LT_c.fT 2) (LT_c.fG 0) (LT_c.fT 3) (LT_c.fT 4) (LT_c.fT 5) (LT_c.fT 6) (LT_c.fT 7) (LT_c.fT 8) (LT_c.fT 9) (LT_c.fT 10) (LT_c.fO 0) (LT_c.fKV 0) (LT_c.fI 0) (LT_c.fN 2) (LT_c.fAO 0) (LT_c.fAO 1) (LT_c.fA 19) (LT_c.fA 20) (LT_c.fVL 0) (LT_c.fVL 1) (LT_c.fVL 2) (LT_c.fVL 3) (LT_c.fN 3) (LT_c.fN 4) (LT_c.fN 5) (LT_c.fN 6) (LT_c.fN 7) (LT_c.fO 1) (LT_c.fO 2) (LT_c.fO 3) (LT_c.fKV 1) (LT_c.fKV 2) (LT_c.fIL 0) (LT_c.fIL 1) (LT_c.fKI 0) (LT_c.fI 1) (LT_c.fI 2) (LT_c.fT 11) (LT_c.fT 12) :=
  (by intro hz8; exact hz8 : (have hz8 : turnF_S (LT_c.fWo 0) (LT_c.fMe 0) (LT_c.fM 0) (LT_c.fM 1) (LT_c.fN 0) (LT_c.fN 1) (LT_c.fGD 0) (LT_c.fSt 0) (LT_c.fSc 0) (LT_c.fA 0) (LT_c.fV 0) (LT_c.fCL 0) (LT_c.fAr 0) (LT_c.fH 0) (LT_c.fH 1) (LT_c.fA 1) (LT_c.fM 2) (LT_c.fSh 0) (LT_c.fQ 0) (LT_c.fQ 1) (LT_c.fA 2) (LT_c.fA 3) (LT_c.fA 4) (LT_c.fA 5) (LT_c.fA 6) (LT_c.fA 7) (LT_c.fA 8) (LT_c.fA 9) (LT_c.fA 10) (LT_c.fA 11) (LT_c.fA 12) (LT_c.fA 13) (LT_c.fA 14) (LT_c.fA 15) (LT_c.fA 16) (LT_c.fA 17) (LT_c.fA 18) (LT_c.fU 0) (LT_c.fT 0) (LT_c.fT 1) (LT_c.fT 2) (LT_c.fG 0) (LT_c.fT 3) (LT_c.fT 4) (LT_c.fT 5) (LT_c.fT 6) (LT_c.fT 7) (LT_c.fT 8) (LT_c.fT 9) (LT_c.fT 10) (LT_c.fO 0) (LT_c.fKV 0) (LT_c.fI 0) (LT_c.fN 2) (LT_c.fAO 0) (LT_c.fAO 1) (LT_c.fA 19) (LT_c.fA 20) (LT_c.fVL 0) (LT_c.fVL 1) (LT_c.fVL 2) (LT_c.fVL 3) (LT_c.fN 3) (LT_c.fN 4) (LT_c.fN 5) (LT_c.fN 6) (LT_c.fN 7) (LT_c.fO 1) (LT_c.fO 2) (LT_c.fO 3) (LT_c.fKV 1) (LT_c.fKV 2) (LT_c.fIL 0) (LT_c.fIL 1) (LT_c.fKI 0) (LT_c.fI 1) (LT_c.fI 2) (LT_c.fT 11) (LT_c.fT 12) := (by
  refine (?layF0 : ∀ w mean mg mb dp un gd cn cs a ccd cl A₀ base h₀ L m s Q E W dW S dS cv sd op bk bc bd src G dG R dR sc zn u t1 t2 tm gv r1 r2 r3 r4 r5 r6 q1 q2 oo kvsO b n st xs nl bs vs cvs vb cvb k kc kb kcb k0 sto bo bdo kvs kvb ns cns cst a0 b0 ta0 tb0, turnF_S w mean mg mb dp un gd cn cs a ccd cl A₀ base h₀ L m s Q E W dW S dS cv sd op bk bc bd src G dG R dR sc zn u t1 t2 tm gv r1 r2 r3 r4 r5 r6 q1 q2 oo kvsO b n st xs nl bs vs cvs vb cvb k kc kb kcb k0 sto bo bdo kvs kvb ns cns cst a0 b0 ta0 tb0) (LT_c.fWo 0) (LT_c.fMe 0) (LT_c.fM 0) (LT_c.fM 1) (LT_c.fN 0) (LT_c.fN 1) (LT_c.fGD 0) (LT_c.fSt 0) (LT_c.fSc 0) (LT_c.fA 0) (LT_c.fV 0) (LT_c.fCL 0) (LT_c.fAr 0) (LT_c.fH 0) (LT_c.fH 1) (LT_c.fA 1) (LT_c.fM 2) (LT_c.fSh 0) (LT_c.fQ 0) (LT_c.fQ 1) (LT_c.fA 2) (LT_c.fA 3) (LT_c.fA 4) (LT_c.fA 5) (LT_c.fA 6) (LT_c.fA 7) (LT_c.fA 8) (LT_c.fA 9) (LT_c.fA 10) (LT_c.fA 11) (LT_c.fA 12) (LT_c.fA 13) (LT_c.fA 14) (LT_c.fA 15) (LT_c.fA 16) (LT_c.fA 17) (LT_c.fA 18) (LT_c.fU 0) (LT_c.fT 0) (LT_c.fT 1) (LT_c.fT 2) (LT_c.fG 0) (LT_c.fT 3) (LT_c.fT 4) (LT_c.fT 5) (LT_c.fT 6) (LT_c.fT 7) (LT_c.fT 8) (LT_c.fT 9) (LT_c.fT 10) (LT_c.fO 0) (LT_c.fKV 0) (LT_c.fI 0) (LT_c.fN 2) (LT_c.fAO 0) (LT_c.fAO 1) (LT_c.fA 19) (LT_c.fA 20) (LT_c.fVL 0) (LT_c.fVL 1) (LT_c.fVL 2) (LT_c.fVL 3) (LT_c.fN 3) (LT_c.fN 4) (LT_c.fN 5) (LT_c.fN 6) (LT_c.fN 7) (LT_c.fO 1) (LT_c.fO 2) (LT_c.fO 3) (LT_c.fKV 1) (LT_c.fKV 2) (LT_c.fIL 0) (LT_c.fIL 1) (LT_c.fKI 0) (LT_c.fI 1) (LT_c.fI 2) (LT_c.fT 11) (LT_c.fT 12)
  intro w mean mg mb dp un gd cn cs a ccd cl A₀ base h₀ L m s Q E W dW S dS cv sd op bk bc bd src G dG R dR sc zn u t1 t2 tm gv r1 r2 r3 r4 r5 r6 q1 q2 oo kvsO b n st xs nl bs vs cvs vb cvb k kc kb kcb k0 sto bo bdo kvs kvb ns cns cst a0 b0 ta0 tb0 B F X N T' hk hdp hun hst hm bok loB lo9 loD hoo hops nd good hb0 hb9 hn hret
  obtain ⟨hi, hib, hcn, hcb, hl, hcl, b1, b2, b3, ck, hc9, hd9, hf9, hdb, hfb, hbk, ha, hb, hb2⟩ := good
  dsimp only at *
  revert X; k_fill; intro X
  refine wpAny_call ?_
  k_dflt (refine' enterRC ?k1q7 ?k2q7 ?k3q7 ?k4q7 ?k5q7 ?kAq7 ?kFq7 ?kKq7 ?k6q7 ?k7q7 ?k8q7 ?k9q7 ?kBq7 ?kDq7 ?kMq7 ?_ ?c2q7 ?c3q7 ?c4q7; (case kAq7 => exact rfl); (case kFq7 => exact rfl); (case kKq7 => assumption); (case kMq7 => exact hm); (case k1q7 => k_asm); (case k2q7 => k_asm); (case k3q7 => k_asm); (case k4q7 => k_asm); (case k5q7 => k_asm); (case k6q7 => k_is); (case k7q7 => k_is); (case k8q7 => ktr_room); (case k9q7 => exact BindsTo.of_eq rfl); (case kBq7 => exact rfl); (case kDq7 => decide +kernel); (case c2q7 => exact rfl); (case c3q7 => exact rfl); (case c4q7 => exact rfl); k_whole)
  k_extra "x_ske51"
  intro FG' M' F1 N1 Y1 B' X' T1 l1
  skip
  obtain ⟨oc, hEc, d1c⟩ := PyProof.Rows.CellsAre.one Y1
  subst hEc; clear Y1
  (try simp only [List.cons_append, List.nil_append] at N1)
  (try dsimp only)
  (try k_lift B')
  (try k_extra "x_fold")
  k_steps
  refine Stop.intro ?_
  (with_reducible rename News g' L' _ (_ :: _ :: _ :: _ :: (_, oc) :: _) => Nx)
  (with_reducible rename ∀ p ∈ ((W, _) :: _), @LT.lt Nat _ p.1 L' => l0)
  obtain ⟨ot, lo, otv, lov, ko, kl, e1, e2, io, il, Ny, nd⟩ := turn_pack (OT := [66, 66, 67, 68, 112, 69, 75, 76, 136, 126]) (LO := [32, 33, 35, 36, 37, 38, 38, 138, 80, 81, 82, 83, 84, 85, 90, 91, 92, 86, 87, 34]) Nx (by k_extra "m_lits") (by k_extra "m_lits") nd l0 (by with_reducible assumption) (by with_reducible assumption)
  clear Nx
  subst e1 e2
  with_reducible rename Fr g' L' _ (fun _ => _) => Fx
  refine merge_num (s₀ := s) Fx (J := TJX w W dW S dS cv sd op bk bc bd src G sc zn u t1 t2 tm oo b st nl cvs cvb kc kcb sto bdo g' L' oc ot otv ko lo lov kl) ?_ ?_
  · refine q_gen ?_; intro QN hqN
    k_steps
    · refine Stop.intro ?_
      refine LCg.CompSrc.range (by rfl) (by k_asm) (by k_asm) (by assumption) (small_one (by omega) (by omega) (by omega) (by omega)) (rangeSize_nat _ _) (by rw [PySem.sizeLine_eq]; omega) ?_
      intro g1
      refine comp_inv (TJC w W dW S dS cv sd op bk bc bd src G sc zn u t1 t2 tm oo st nl cvs cvb kc kcb sto bdo L' oc ot otv ko lo lov kl bs vs vb k kb bo) ?_ ?_ ?_
      · exact ⟨_, _, _, _, _, [], rfl, by assumption, by assumption, by assumption, .nil, rfl, fun _ h => nomatch h⟩
      · rintro i ys nw v I oI C oC D m₂ h tk9 E9 hi9 ⟨t9, rfl⟩ ⟨a9, b9, ta9, tb9, k9, ms, rfl, z1, z2, z3, hy, hlm, hbm⟩ hC9 hx9 F9 N9 off9 ne9
        have off8 := off9
        refine q_gen ?_; intro QQ hqq
        (try dsimp only)
        k_steps
        refine hqq _ _ ?_
        exact LCg.CompEnd.intro (by k_asm) (by k_asm) ((ot, listOf (List.toArray otv) ko) :: (lo, listOf (List.toArray lov) kl) :: (L' + 1, oc) :: (W, instObj 476 dW) :: (dW, dictOf (WrkE w u G S zn cv sd sc 12) 8) :: (S, instObj 425 dS) :: (dS, dictOf (StkE w t1 t2 tm nl) 2) :: (nl, listOf (List.toArray vs) k) :: (cv, listOf (List.toArray cvs) kc) :: (sd, sto) :: (op, oo) :: (bk, bo) :: (bs, listOf (List.toArray vb) kb) :: (bc, listOf (List.toArray cvb) kcb) :: (bd, bdo) :: (src, listOf (List.toArray [Value.int _ _, Value.int _ _]) _) :: st) (fun p hp => .tail _ hp) (by exact off8) trivial ⟨_, _, _, _, _, ms ++ [_], rfl, by with_reducible assumption, by with_reducible assumption, by with_reducible assumption, ints_app hy (.cons _ _ .nil), by rw [List.length_append, hlm]; rfl, hbm.app (Bnd.one (mem95 (by with_reducible assumption)))⟩
      · rintro ys nw ⟨a9, b9, ta9, tb9, k9, ms, rfl, z1, z2, z3, hy, hlm, hbm⟩
        unfold LCg.FinE
        intro D h tk9 F9 N9 o9
        (try dsimp only)
        have hml : ms.length ≤ 2 := by omega
        have ndD := nd_off nd rfl (fun p hp => Ne.symm (off1_1 o9 hp))
        have hlt9 : (ns.length : Int) < 10 := by with_reducible assumption
        k_steps
        refine Stop.intro ?_
        (with_reducible rename Fr g' L' _ _ => Fy); (with_reducible rename News g' L' _ ((D, _) :: _) => Ny)
        refine list_turns (Str.ofString "number") (Str.ofString "number") (Str.ofString "number") (TJ2 w W dW S dS cv sd op bk bc bd src G sc zn u t1 t2 tm oo st nl cvs cvb kc kcb sto bdo L' oc ot otv ko lo lov kl ns a9 b9 ta9 tb9 k9 D ys ms) (by rfl) Fy Ny (.head _) rfl rfl (by rintro i nx ⟨_, _, _, _, _, _, rfl, _⟩; exact .head _) ⟨bs, vs, vb, k, kb, bo, rfl, ndD, by rw [List.take_zero, List.append_nil]; exact hi, by rw [List.take_zero, List.append_nil]; exact hib, hbk⟩ ?_ ?_
        · clear Fy Ny ndD nd hi hib hbk
          rintro i v q v1 v2 nx h tk I iob hv ⟨bs, vs, vb, k, kb, bo, rfl, nd, hi, hib, hbk⟩ hoff F9 N9
          obtain ⟨x, t, rfl, hx⟩ := ints_at hy hv
          have hn12 : (((ns ++ ms.take i).length : Nat) : Int) < 12 := by rw [List.length_append, List.length_take]; omega
          have ndI := nd_off nd rfl hoff
          refine q_gen2 ?_; intro QQ hqq
          (try dsimp only)
          k_steps
          (with_reducible rename News g' _ _ _ => Nq); replace Nq : News g' L' _ _ := Nq; (with_reducible rename Fr g' _ _ _ => Fq)
          (with_reducible rename ∀ p ∈ ((_, _) :: (I, _) :: (D, _) :: _), @LT.lt Nat _ p.1 _ => lt9)
          obtain ⟨N3, nd3⟩ := turn_end Nq ndI lt9
          refine hqq _ _ ?_
          show LFin _ _ _ _ _ _ _ _ _ _ _
          exact LFin.mk _ Fq (by intro z z1 z2 z3; repeat (first | exact rfl | refine ite_skip (by assumption) ?_)) N3 (off_nd nd3 rfl) ⟨_, _, _, _, _, _, rfl, nd_tl nd3, by rw [take_snoc hx, ← List.append_assoc]; exact ints_app hi (.cons _ _ .nil), by rw [take_snoc hx, ← List.append_assoc]; with_reducible assumption, by with_reducible assumption⟩
        · clear Fy Ny
          rintro q v1 v2 nx h tk ⟨bs, vs, vb, k, kb, bo, rfl, nd, hi, hib, hbk⟩ F9 N9
          (try dsimp only)
          rw [hy.length, List.take_length] at hi hib
          replace F9 := fr_num3 F9
          replace N9 := news_tl N9
          k_steps
          refine hqN _ _ ?_; exact MEnd.mk ⟨rfl, _, _, _, rfl, by k_asm, ⟨bs, vs, vb, k, kb, k9, bo, ns ++ ms, a9, b9, ta9, tb9⟩, by k_asm, nd_tl nd, ⟨hi, hib, by rw [List.length_append]; omega, b1.app (hbm.up (by omega)), z1, z2, z3, hbk⟩⟩
    · refine hqN _ _ ?_; exact MEnd.mk ⟨rfl, _, _, _, rfl, fr_num (by k_asm), ⟨bs, vs, vb, k, kb, _, bo, ns, _, _, _, _⟩, by k_asm, nd, ⟨hi, hib, hl, b1, ha, hb, hb2, hbk⟩⟩
  · rintro h tk vn Fn ⟨τ, Nn, nd, s1⟩
    obtain ⟨bs, vs, vb, k, kb, k0, bo, ns, a0, b0, ta0, tb0⟩ := τ
    obtain ⟨hi, hib, hl, b1, ha, hb, hb2, hbk⟩ := s1
    dsimp only at Nn nd hi hib hl b1 ha hb hb2 hbk
    clear Fx Ny
    k_steps
    refine Stop.intro ?_
    (with_reducible rename News g' L' _ ((_, _) :: (ot, _) :: _) => Nx)
    obtain ⟨a9, b9, ta9, tb9, k9, Ny, z1, z2, z3⟩ : ∃ a9 b9 ta9 tb9 k9, News g' L' _ ((ot, listOf (List.toArray otv) ko) :: (lo, listOf (List.toArray lov) kl) :: (L' + 1, oc) :: (W, instObj 476 dW) :: (dW, dictOf (WrkE w u G S zn cv sd sc 12) 8) :: (S, instObj 425 dS) :: (dS, dictOf (StkE w t1 t2 tm nl) 2) :: (nl, listOf (List.toArray vs) k) :: (cv, listOf (List.toArray cvs) kc) :: (sd, sto) :: (op, oo) :: (bk, bo) :: (bs, listOf (List.toArray vb) kb) :: (bc, listOf (List.toArray cvb) kcb) :: (bd, bdo) :: (src, listOf (List.toArray [Value.int a9 ta9, Value.int b9 tb9]) k9) :: st) ∧ 0 ≤ a9 ∧ 0 ≤ b9 ∧ b9 < 2147483647 := ⟨_, _, _, _, _, news_tl Nx, by with_reducible assumption, by with_reducible assumption, by with_reducible assumption⟩
    clear Nx
    (with_reducible rename Fr g' L' _ (fun _ => _) => Fx)
    (with_reducible rename (_ : Int) ∈ (_ ++ _ : List Int) => hcm)
    have hb10 := bnd10 b1 hb9
    have kst : KmStop := trivial
    refine merge_let (s₀ := s) Fx hcm (J := TJL w W dW S dS cv sd op bk bc bd src G sc zn u t1 t2 tm oo st nl cvs kc sto cns cst g' L' vs k ns a9 b9 ta9 tb9 k9) ?_ ?_
    · refine q_gen ?_; intro QL hqL
      k_steps
      rotate_left 4
      · refine Stop.intro ?_
        (with_reducible rename News g' L' _ ((_, listOf (List.toArray vb) _) :: (ot, _) :: _) => Nq)
        obtain ⟨K, eK, Nk, ndK⟩ := held_pack Nq (nd_tl (nd_tl (nd_tl nd))) rfl (by with_reducible assumption)
        subst eK; clear Nq
        k_dflt (refine' heldT ?k1q7 ?k2q7 ?k3q7 ?k4q7 ?k5q7 ?k6q7 ?k7q7 ?k8q7 ndK hbk loB hib hcb hl hb10 hcl loD hdb hfb (by omega) ?htq7 ?hfq7; (case k1q7 => k_asm); (case k2q7 => k_asm); (case k3q7 => k_asm); (case k4q7 => exact Nk); (case k5q7 => k_asm); (case k6q7 => first | exact rfl | assumption); (case k7q7 => ktr_room); (case k8q7 => ktr_units))
        · intro nsx cnx csx h' tk' bo' D vs' k' cvs' kc' bdo' kvs' e F' N' hbo I1 I2 d' f' nd3
          (try dsimp only)
          k_steps
          (with_reducible rename News g' _ _ _ => Nq); replace Nq : News g' L' _ _ := Nq; (with_reducible rename Fr g' _ _ _ => Fq)
          refine hqL _ _ ?_; exact MEnd.mk ⟨rfl, _, _, true, _, _, rfl, fr_letB Fq, ⟨D, vs', k', _, cvs', kc', bdo', kvs', nsx, cnx, csx⟩, Nq, nd3, ⟨I1, I2, d', f', by with_reducible assumption, held_eq (by with_reducible assumption) (by with_reducible assumption) e⟩⟩
        · intro h' tk' bo' x9 e F' N' hbo
          have ndB := held_ndb ndK
          (try dsimp only)
          k_steps
          (with_reducible rename News g' _ _ _ => Nq); replace Nq : News g' L' _ _ := Nq; (with_reducible rename Fr g' _ _ _ => Fq)
          refine hqL _ _ ?_; exact MEnd.mk ⟨rfl, _, _, false, _, _, rfl, fr_letB Fq, ⟨K, vb, _, _, cvb, kcb, bdo, kvb, ns, cns, cst⟩, held_put Nq, held_nd ndK, ⟨hib, hcb, hdb, hfb, by with_reducible assumption, held_eq (by with_reducible assumption) (by with_reducible assumption) e, rfl, rfl, rfl⟩⟩
      all_goals ((with_reducible rename News g' _ _ _ => Nq); replace Nq : News g' L' _ _ := Nq; (with_reducible rename Fr g' _ _ _ => Fq))
      all_goals first
        | (obtain ⟨N3, nd3⟩ := turn_lone Nq nd (by with_reducible assumption)
           refine hqL _ _ ?_; exact MEnd.mk ⟨rfl, _, _, true, _, _, rfl, fr_letA Fq, ⟨_, _, _, _, cvb, kcb, bdo, kvb, _, cns, cst⟩, N3, nd3, ⟨by with_reducible assumption, hcb, hdb, hfb, by with_reducible assumption, lone_some (by k_extra "m_lcode") (by with_reducible assumption)⟩⟩)
        | (refine hqL _ _ ?_; exact MEnd.mk ⟨rfl, _, _, false, _, _, rfl, fr_letA Fq, ⟨bs, vb, kb, _, cvb, kcb, bdo, kvb, ns, cns, cst⟩, news_tl (news_tl (news_tl Nq)), nd_tl (nd_tl (nd_tl nd)), ⟨hib, hcb, hdb, hfb, by with_reducible assumption, lone_none (by k_extra "m_lcode") (by with_reducible assumption), rfl, rfl, rfl⟩⟩)
    · rintro h tk lt vd vk Fn ⟨τ, Nn, nd, s2⟩
      obtain ⟨bs, vb, kb, bo, cvb, kcb, bdo, kvb, nsx, cnx, csx⟩ := τ
      obtain ⟨hib, hcb, hdb, hfb, hbk, hlt⟩ := s2
      dsimp only at Nn nd hib hcb hdb hfb hbk hlt
      have hoc := opc_mem hcm
      (try dsimp only)
      k_steps
      refine Stop.intro ?_
      k_dflt (refine' heardT ?q1q7 ?q2q7 ?q3q7 ?q4q7 ?q5q7 ?q6q7 ?q7q7 ?q8q7 hst nd M' bok hoc hoo (hops _ hoc) hi hl hb10 hcn hcl lo9 hd9 hf9 (by omega) ?ht2q7 ?hf2q7; (case q1q7 => k_asm); (case q2q7 => k_asm); (case q3q7 => k_asm); (case q4q7 => exact Nn); (case q5q7 => k_asm); (case q6q7 => first | exact rfl | assumption); (case q7q7 => ktr_room); (case q8q7 => ktr_units))
      · intro nsy cny csy h' tk' nl' vs' k' cvs' kc' sto' kvs' e' F' N' I1 I2 d' f' nd3
        cases lt with
        | false => rw [hlt.1] at e'; cases e'
        | true =>
          obtain ⟨rfl, rfl, rfl⟩ := op_inj hlt e'
          obtain ⟨gl, gc, gs, gb1, gb2, gb3, gk⟩ := opStep_ok e' hl hcl b1 b2 b3 ck (by omega)
          (try dsimp only)
          k_steps
          (with_reducible rename News g' _ _ _ => Nq); replace Nq : News g' L' _ _ := Nq; (with_reducible rename Fr g' _ _ _ => Fq)
          have Z := leaveR FG' Fq Nq
          exact hret _ _ ⟨nl', bs, vs', cvs', vb, cvb, k', kc', kb, kcb, k9, sto', bo, bdo, kvs', kvb, nsy, cny, csy, a9, b9, ta9, tb9⟩ Z.1 Z.2 nd3 ⟨I1, hib, I2, hcb, gl, gc, gb1, gb2, gb3, gk, (show csy.length ≤ n + 1 by omega), d', f', hdb, hfb, hbk, z1, z2, z3⟩
      · intro h' tk' g₀ e' t0 F' N' B0
        cases lt with
        | true => rw [hlt] at e'; cases e'
        | false =>
          obtain ⟨-, rfl, rfl, rfl⟩ := hlt
          have X0 := bok.x.keeps B0.stays
          have T0 := bok.t.keeps B0.stays
          clear X' T1
          (try dsimp only)
          k_steps
          (with_reducible rename ∀ p ∈ ((W, _) :: _), @LT.lt Nat _ p.1 _ => lt9)
          have ndD := nd_new (nd_ixT (p := [(W : Nat), dW, S, dS, nl, cv, sd, op, bk, bs, bc, bd, src]) (p' := [(W : Nat), dW, S, dS, cv, sd, op, bk, bs, bc, bd, src]) nd [0, 1, 2, 3, 5, 6, 7, 8, 9, 10, 11, 12] rfl (by decide)) rfl lt9
          k_steps
          (with_reducible rename News g₀ _ _ ((_, _) :: (W, _) :: _) => Nq); replace Nq : News g₀ L' _ _ := Nq; (with_reducible rename Fr g₀ _ _ _ => Fq)
          obtain ⟨y0, y1, y2, y3, y4⟩ := leaveT B FG' t0 Fq Nq
          obtain ⟨K, kK, eK, Z3, ndK⟩ : ∃ K kK, K = _ ∧ News h₀ L _ ((K, listOf (List.toArray vb) kK) :: (W, instObj 476 dW) :: (dW, dictOf (WrkE w u G S zn cv sd sc 12) 8) :: (S, instObj 425 dS) :: (dS, dictOf (StkE w t1 t2 tm K) 2) :: (cv, listOf (List.toArray cvs) kc) :: (sd, sto) :: (op, oo) :: (bk, bo) :: (bs, listOf (List.toArray vb) kb) :: (bc, listOf (List.toArray cvb) kcb) :: (bd, bdo) :: (src, listOf (List.toArray [Value.int a9 ta9, Value.int b9 tb9]) k9) :: st) ∧ ND ((K : Nat) :: (W : Nat) :: (dW : Nat) :: (S : Nat) :: (dS : Nat) :: (cv : Nat) :: (sd : Nat) :: (op : Nat) :: (bk : Nat) :: (bs : Nat) :: (bc : Nat) :: (bd : Nat) :: (src : Nat) :: List.map (fun (p : Addr × Obj) => (p.1 : Nat)) st) := ⟨_, _, rfl, same_news y1 y3, ndD⟩
          subst eK
          exact hret _ _ ⟨K, bs, vb, cvs, vb, cvb, kK, kc, kb, kcb, k9, sto, bo, bdo, kvs, kvb, nsx, cnx, csx, a9, b9, ta9, tb9⟩ (same_fr y1 y2) (news_ixT (p := [(K, _), (W, _), (dW, _), (S, _), (dS, _), (cv, _), (sd, _), (op, _), (bk, _), (bs, _), (bc, _), (bd, _), (src, _)]) Z3 [1, 2, 3, 4, 0, 5, 6, 7, 8, 9, 10, 11, 12] rfl) (nd_ixT (p := [(K : Nat), W, dW, S, dS, cv, sd, op, bk, bs, bc, bd, src]) ndK [1, 2, 3, 4, 0, 5, 6, 7, 8, 9, 10, 11, 12] rfl (by decide)) ⟨by with_reducible assumption, by with_reducible assumption, hcn, by with_reducible assumption, hl, hcl, Bnd.up (by with_reducible assumption) (by omega), Bnd.up (by with_reducible assumption) (by omega), BndP.up (by with_reducible assumption) (by omega), by with_reducible assumption, (show csx.length ≤ n + 1 by omega), hd9, by with_reducible assumption, by with_reducible assumption, by with_reducible assumption, by with_reducible assumption, z1, z2, z3⟩); turnF_S (LT_c.fWo 0) (LT_c.fMe 0) (LT_c.fM 0) (LT_c.fM 1) (LT_c.fN 0) (LT_c.fN 1) (LT_c.fGD 0) (LT_c.fSt 0) (LT_c.fSc 0) (LT_c.fA 0) (LT_c.fV 0) (LT_c.fCL 0) (LT_c.fAr 0) (LT_c.fH 0) (LT_c.fH 1) (LT_c.fA 1) (LT_c.fM 2) (LT_c.fSh 0) (LT_c.fQ 0) (LT_c.fQ 1) (LT_c.fA 2) (LT_c.fA 3) (LT_c.fA 4) (LT_c.fA 5) (LT_c.fA 6) (LT_c.fA 7) (LT_c.fA 8) (LT_c.fA 9) (LT_c.fA 10) (LT_c.fA 11) (LT_c.fA 12) (LT_c.fA 13) (LT_c.fA 14) (LT_c.fA 15) (LT_c.fA 16) (LT_c.fA 17) (LT_c.fA 18) (LT_c.fU 0) (LT_c.fT 0) (LT_c.fT 1) (LT_c.fT 2) (LT_c.fG 0) (LT_c.fT 3) (LT_c.fT 4) (LT_c.fT 5) (LT_c.fT 6) (LT_c.fT 7) (LT_c.fT 8) (LT_c.fT 9) (LT_c.fT 10) (LT_c.fO 0) (LT_c.fKV 0) (LT_c.fI 0) (LT_c.fN 2) (LT_c.fAO 0) (LT_c.fAO 1) (LT_c.fA 19) (LT_c.fA 20) (LT_c.fVL 0) (LT_c.fVL 1) (LT_c.fVL 2) (LT_c.fVL 3) (LT_c.fN 3) (LT_c.fN 4) (LT_c.fN 5) (LT_c.fN 6) (LT_c.fN 7) (LT_c.fO 1) (LT_c.fO 2) (LT_c.fO 3) (LT_c.fKV 1) (LT_c.fKV 2) (LT_c.fIL 0) (LT_c.fIL 1) (LT_c.fKI 0) (LT_c.fI 1) (LT_c.fI 2) (LT_c.fT 11) (LT_c.fT 12)))
theorem LT_all : ∀ p, LT_S p := sk (turnF_at)
noncomputable def LT_bag (w : World) (mean : ExcName → Option Value) (mg mb : Str → Option Value) (dp un : Nat) (gd : Option (List Code)) (cn : Str) (cs : Scope) (a : Addr) (ccd : Value) (cl : List (Str × Addr)) (A₀ : Around) (base h₀ : Heap) (L : Addr) (m : Str → Option Value) (s : Shared) (Q E : Value → Shared → Prop) (W dW S dS cv sd op bk bc bd src G dG R dR sc zn : Addr) (u : WTok) (t1 t2 tm : Tok) (gv : GV) (r1 r2 r3 r4 r5 r6 q1 q2 : Tok) (oo : Obj) (kvsO : List (Int × Value)) (b : Int) (n : Nat) (st xs : List (Addr × Obj)) (nl bs : Addr) (vs cvs vb cvb : List Value) (k kc kb kcb k0 : Nat) (sto bo bdo : Obj) (kvs kvb : List (Int × Value)) (ns cns : List Int) (cst : List (Int × Int)) (a0 b0 : Int) (ta0 tb0 : Tok) : Bag := ⟨fun ix9 => [a, L, W, dW, S, dS, cv, sd, op, bk, bc, bd, src, G, dG, R, dR, sc, zn, nl, bs].getD ix9 (bag0.fA 0), fun ix9 => [t1, t2, tm, r1, r2, r3, r4, r5, r6, q1, q2, ta0, tb0].getD ix9 (bag0.fT 0), fun ix9 => [b, a0, b0].getD ix9 (bag0.fI 0), fun ix9 => [dp, un, n, k, kc, kb, kcb, k0].getD ix9 (bag0.fN 0), fun ix9 => [ccd].getD ix9 (bag0.fV 0), fun ix9 => [oo, sto, bo, bdo].getD ix9 (bag0.fO 0), fun ix9 => [vs, cvs, vb, cvb].getD ix9 (bag0.fVL 0), fun ix9 => [ns, cns].getD ix9 (bag0.fIL 0), fun ix9 => [kvsO, kvs, kvb].getD ix9 (bag0.fKV 0), fun ix9 => [cst].getD ix9 (bag0.fKI 0), fun ix9 => [st, xs].getD ix9 (bag0.fAO 0), fun ix9 => [u].getD ix9 (bag0.fU 0), fun ix9 => [gv].getD ix9 (bag0.fG 0), fun ix9 => [].getD ix9 (bag0.fPr 0), fun ix9 => [].getD ix9 (bag0.fEv 0), fun ix9 => [].getD ix9 (bag0.fSs 0), fun ix9 => [].getD ix9 (bag0.fEx 0), fun ix9 => [].getD ix9 (bag0.fQF 0), fun ix9 => [].getD ix9 (bag0.fJ 0), fun ix9 => [w].getD ix9 (bag0.fWo 0), fun ix9 => [mean].getD ix9 (bag0.fMe 0), fun ix9 => [mg, mb, m].getD ix9 (bag0.fM 0), fun ix9 => [gd].getD ix9 (bag0.fGD 0), fun ix9 => [cn].getD ix9 (bag0.fSt 0), fun ix9 => [cs].getD ix9 (bag0.fSc 0), fun ix9 => [cl].getD ix9 (bag0.fCL 0), fun ix9 => [].getD ix9 (bag0.fEn 0), fun ix9 => [A₀].getD ix9 (bag0.fAr 0), fun ix9 => [base, h₀].getD ix9 (bag0.fH 0), fun ix9 => [s].getD ix9 (bag0.fSh 0), fun ix9 => [Q, E].getD ix9 (bag0.fQ 0)⟩
theorem turnF {w mean mg mb dp un gd cn cs a ccd cl A₀ base h₀ L m s Q E W dW S dS cv sd op bk bc bd src G dG R dR sc zn u t1 t2 tm gv r1 r2 r3 r4 r5 r6 q1 q2 oo kvsO b n st xs nl bs vs cvs vb cvb k kc kb kcb k0 sto bo bdo kvs kvb ns cns cst a0 b0 ta0 tb0} : turnF_S w mean mg mb dp un gd cn cs a ccd cl A₀ base h₀ L m s Q E W dW S dS cv sd op bk bc bd src G dG R dR sc zn u t1 t2 tm gv r1 r2 r3 r4 r5 r6 q1 q2 oo kvsO b n st xs nl bs vs cvs vb cvb k kc kb kcb k0 sto bo bdo kvs kvb ns cns cst a0 b0 ta0 tb0 := LT_all (LT_bag w mean mg mb dp un gd cn cs a ccd cl A₀ base h₀ L m s Q E W dW S dS cv sd op bk bc bd src G dG R dR sc zn u t1 t2 tm gv r1 r2 r3 r4 r5 r6 q1 q2 oo kvsO b n st xs nl bs vs cvs vb cvb k kc kb kcb k0 sto bo bdo kvs kvb ns cns cst a0 b0 ta0 tb0)
end
theorem mt12 : True := by first | (walk1; done) | trivial
local macro_rules | `(tactic| k_lt $x) => `(tactic| skip)
theorem reg32 : True := by
  (k_with "call ref" => first | ((k_here; (with_reducible show wpAny _ _ (call (Value.ref 487) _) _ _ _); k_dflt (apply poolF; (focus (k_asm)); (focus (k_asm)); (focus (k_asm)); (focus (k_asm)); (focus (k_asm)); (focus (first | exact rfl | assumption)); (focus (ktr_room)); (focus (ktr_units)); (focus (with_reducible assumption)); (focus (with_reducible assumption)); (focus (omega)); k_whole); (k_extra "x_in6"; k_extra "x_in2"; intro F'z9 N'z9 l1z9 c1z9 c2z9 c3z9); (try k_lt l1z9); (try dsimp only); (try k_extra "x_fold"))) | fail "no")
  (k_with "call ref" => first | ((k_here; (with_reducible show wpAny _ _ (call (Value.ref 324) _) _ _ _); k_dflt (apply opsF; (focus (k_asm)); (focus (k_asm)); (focus (k_asm)); (focus (k_asm)); (focus (k_asm)); (focus (first | exact rfl | assumption)); (focus (ktr_room)); (focus (ktr_units)); skip; k_whole); (k_extra "x_in4"; intro F'z9 N'z9 l1z9 l2z9 hzz9); (try k_lt l1z9); (try dsimp only); (try k_extra "x_fold"))) | fail "no")
  (k_with "x_ne" => first | (((try dsimp only); first | exact fresh_ne (by with_reducible assumption) (by k_extra "u_mem_LW") | exact Ne.symm (fresh_ne (by with_reducible assumption) (by k_extra "u_mem_LW")) | exact Ne.symm (hoff_ne (by with_reducible assumption) (by k_extra "u_mem_LW")) | exact hoff_ne (by with_reducible assumption) (by k_extra "u_mem_LW") | exact (off3_1 (by with_reducible assumption) (by k_extra "u_mem_LW")).1 | exact Ne.symm (off3_1 (by with_reducible assumption) (by k_extra "u_mem_LW")).1 | exact (off3_1 (by with_reducible assumption) (by k_extra "u_mem_LW")).2.1 | exact Ne.symm (off3_1 (by with_reducible assumption) (by k_extra "u_mem_LW")).2.1 | exact (off3_1 (by with_reducible assumption) (by k_extra "u_mem_LW")).2.2 | exact Ne.symm (off3_1 (by with_reducible assumption) (by k_extra "u_mem_LW")).2.2 | exact off1_1 (by with_reducible assumption) (by k_extra "u_mem_LW") | exact Ne.symm (off1_1 (by with_reducible assumption) (by k_extra "u_mem_LW")))) | fail "no")
  (k_with "u_mem_LW" => first | (first | with_reducible assumption | with_reducible exact List.Mem.head _ | ((with_reducible refine mem_here ?_); exact rfl) | (refine List.Mem.tail _ ?_; k_extra "u_mem_LW")) | fail "no")
  (k_with "x_mem" => first | (first | k_extra "u_mem_LW" | ((with_reducible rename KmStop => kst); skip)) | fail "no")
  (k_with "u_upd_LW" => first | (first | exact upd_ix 0 rfl (by with_reducible assumption) (by exact rfl) (by dsimp only [List.set]) | exact upd_ix 1 rfl (by with_reducible assumption) (by exact rfl) (by dsimp only [List.set]) | exact upd_ix 2 rfl (by with_reducible assumption) (by exact rfl) (by dsimp only [List.set]) | exact upd_ix 3 rfl (by with_reducible assumption) (by exact rfl) (by dsimp only [List.set]) | exact upd_ix 4 rfl (by with_reducible assumption) (by exact rfl) (by dsimp only [List.set]) | exact upd_ix 5 rfl (by with_reducible assumption) (by exact rfl) (by dsimp only [List.set]) | exact upd_ix 6 rfl (by with_reducible assumption) (by exact rfl) (by dsimp only [List.set]) | exact upd_ix 7 rfl (by with_reducible assumption) (by exact rfl) (by dsimp only [List.set]) | exact upd_ix 8 rfl (by with_reducible assumption) (by exact rfl) (by dsimp only [List.set]) | exact upd_ix 9 rfl (by with_reducible assumption) (by exact rfl) (by dsimp only [List.set]) | exact upd_ix 10 rfl (by with_reducible assumption) (by exact rfl) (by dsimp only [List.set]) | exact upd_ix 11 rfl (by with_reducible assumption) (by exact rfl) (by dsimp only [List.set]) | exact upd_ix 12 rfl (by with_reducible assumption) (by exact rfl) (by dsimp only [List.set]) | exact upd_ix 13 rfl (by with_reducible assumption) (by exact rfl) (by dsimp only [List.set]) | exact upd_ix 14 rfl (by with_reducible assumption) (by exact rfl) (by dsimp only [List.set]) | exact upd_ix 15 rfl (by with_reducible assumption) (by exact rfl) (by dsimp only [List.set]) | (apply Upd.tail; (focus (k_ne)); (focus (k_extra "u_upd_LW")))) | fail "no")
  (k_with "x_upd" => first | (first | k_extra "u_upd_LW" | skip) | fail "no")
  (k_with "u_updF_LW" => first | (first | exact updF_ix 0 rfl (by with_reducible assumption) (by exact rfl) (by dsimp only [List.set]) | exact updF_ix 1 rfl (by with_reducible assumption) (by exact rfl) (by dsimp only [List.set]) | exact updF_ix 2 rfl (by with_reducible assumption) (by exact rfl) (by dsimp only [List.set]) | exact updF_ix 3 rfl (by with_reducible assumption) (by exact rfl) (by dsimp only [List.set]) | exact updF_ix 4 rfl (by with_reducible assumption) (by exact rfl) (by dsimp only [List.set]) | exact updF_ix 5 rfl (by with_reducible assumption) (by exact rfl) (by dsimp only [List.set]) | exact updF_ix 6 rfl (by with_reducible assumption) (by exact rfl) (by dsimp only [List.set]) | exact updF_ix 7 rfl (by with_reducible assumption) (by exact rfl) (by dsimp only [List.set]) | exact updF_ix 8 rfl (by with_reducible assumption) (by exact rfl) (by dsimp only [List.set]) | exact updF_ix 9 rfl (by with_reducible assumption) (by exact rfl) (by dsimp only [List.set]) | exact updF_ix 10 rfl (by with_reducible assumption) (by exact rfl) (by dsimp only [List.set]) | exact updF_ix 11 rfl (by with_reducible assumption) (by exact rfl) (by dsimp only [List.set]) | exact updF_ix 12 rfl (by with_reducible assumption) (by exact rfl) (by dsimp only [List.set]) | exact updF_ix 13 rfl (by with_reducible assumption) (by exact rfl) (by dsimp only [List.set]) | exact updF_ix 14 rfl (by with_reducible assumption) (by exact rfl) (by dsimp only [List.set]) | exact updF_ix 15 rfl (by with_reducible assumption) (by exact rfl) (by dsimp only [List.set]) | (apply UpdF.tail; (focus (k_ne)); (focus (k_extra "u_updF_LW")))) | fail "no")
  (k_with "x_updF" => first | (first | k_extra "u_updF_LW" | skip) | fail "no")
  (k_with "m_len" => first | (first | exact Nat.le_of_ble_eq_true rfl | exact (getD_bnd (by with_reducible assumption) _).1 | exact (getD_bnd (by with_reducible assumption) _).2) | fail "no")
  (k_with "execs cons If" => first | ((k_here; (with_reducible show wpAny _ _ (execs (Stmt.If (Expr.Compare (Expr.Call _ _ _ _) [CmpOp.Lt] _ _) _ _ _ :: _) _) _ _ _); refine Stop.out ?_)) | fail "no")
  (k_with "execs cons If" => first | ((k_here; (with_reducible show wpAny _ _ (execs (Stmt.If (Expr.BoolOp _ (Expr.Compare (Expr.Name _ _) _ _ _ :: _) _) _ _ _ :: _) _) _ _ _); refine Stop.out ?_)) | fail "no")
  (k_with "call ref" => first | ((k_here; (with_reducible show wpAny _ _ (call (Value.ref 543) _) _ _ _); refine Stop.out ?_)) | fail "no")
  (k_with "call ref" => first | ((k_here; (with_reducible show wpAny _ _ (call (Value.ref 550) _) _ _ _); refine Stop.out ?_)) | fail "no")
  (k_with "m_lcode" => first | (first | exact lcode_any (by with_reducible assumption) | exact lcode_126 (by with_reducible assumption)) | fail "no")
  (k_with "compareOp NotEq ref ref" => first | ((k_here; (try dsimp only); (with_reducible show wpAny _ _ (compareOp CmpOp.NotEq (Value.ref _) (Value.ref _)) _ _ _); k_dflt (refine kne_tabs (knd := PySem.intKind _ _) (enc := PyData.int) PyProof.V.same_int (by k_tabat) (by k_tabat) (by rfl) (by ktr_units) (kdf_rows (by with_reducible assumption)) ?_); (try simp only [Bool.not_true]))) | fail "no")
  (k_with "CompSrc" => first | ((k_here; refine Stop.out ?_)) | fail "no")
  (k_with "CompEnd" => first | ((refine Stop.out ?_)) | fail "no")
  (k_with "exec For Name ListComp cons nil" => first | ((k_here; (rename Fr _ _ _ _ => lF'); (with_unfolding_all refine' For_turns lF' ?_; k_whole))) | fail "no")
  (k_with "pyIter ref" => first | ((k_here; (with_reducible show wpAny _ _ (pyIter (Value.ref _)) (fun it s₂ => TurnsAt _ _ _ _ _ _ _ _ _ it s₂) _ _); refine Stop.out ?_)) | fail "no")
  (k_with "compareOp Eq ref ref" => first | ((k_here; (with_reducible show wpAny _ _ (compareOp CmpOp.Eq (Value.ref _) (Value.ref _)) _ _ _); k_dflt (apply ke_eq_ints; (focus (is_list)); (focus (is_list)); (focus (l_ints)); (focus (l_ints)); (focus (ke_room))); ke_norm)) | fail "no")
  (k_with "setAttr" => first | ((k_here; dsimp only)) | fail "no")
  (k_with "binaryOp Add ref ref" => first | ((k_here; (with_reducible show wpAny _ _ (binaryOp _ (Value.ref _) (Value.ref _)) _ _ _); k_dflt (apply kmk_add_lit; (focus (k_asm)); (focus (k_asm)); (focus (kmk_list)); (focus (kmk_list)); (focus (kl_lit)); rotate_left; (focus (kl_room))); (k_extra "x_in2"; intro F'z9 N'z9 l1z9); (try k_lt l1z9); (try k_sweep))) | fail "no")
  (k_with "u_mem_LW" => first | (first | with_reducible assumption | with_reducible exact List.Mem.head _ | exact List.Mem.head _ | (refine List.Mem.tail _ ?_; k_extra "u_mem_LW")) | fail "no")
  (k_with "subscriptTail Name" => first | ((k_here; (with_reducible show wpAny _ _ (subscriptTail _ _ (Value.ref _) (Value.str _ _)) _ _ _); k_dflt (refine ditem_C (knd := PySem.strKind _ _) (by k_asm) (by k_extra "u_mem_LW") (by with_reducible assumption) (strKind_is _ _ _ _) (by rfl) ?_))) | fail "no")
  (k_with "subscriptTail" => first | ((k_here; (with_reducible show wpAny _ _ (subscriptTail _ _ (Value.ref _) (Value.str _ _)) _ _ _); k_dflt (refine ditem_C (knd := PySem.strKind _ _) (by k_asm) (by k_extra "u_mem_LW") (by with_reducible assumption) (strKind_is _ _ _ _) (by rfl) ?_))) | fail "no")
  (k_with "x_ne" => first | (((try dsimp only); first | exact Nat.ne_of_lt (by with_reducible assumption) | exact Nat.ne_of_gt (by with_reducible assumption))) | fail "no")
  (k_with "u_upd_LW" => first | (exact Upd.head (fun _ hq => nomatch hq)) | fail "no")
  (k_with "u_updF_LW" => first | (exact UpdF.head (fun _ hq => nomatch hq)) | fail "no")
  (k_with "call ref" => first | ((k_here; (with_reducible show wpAny _ _ (call (Value.ref 555) _) _ _ _); refine Stop.out ?_)) | fail "no")
  (k_with "call ref" => first | ((k_here; (with_reducible show wpAny _ _ (call (Value.ref 476) _) _ _ _); refine Stop.out ?_)) | fail "no")
  (k_with "call ref" => first | ((k_here; (with_reducible show wpAny _ _ (call (Value.ref 562) _) _ _ _); refine Stop.out ?_)) | fail "no")
  (k_with "call type:range" => first | ((k_here; (with_reducible show wpAny _ _ (call (Value.type "range") [_]) _ _ _); (rename Fr _ _ _ _ => F'); (rename News _ _ _ _ => N'); (with_unfolding_all refine range1_rows F' N' ?_); intro _ _ _ _ _ _ _ _ _)) | fail "no")
  (k_with "pyIter ref" => first | ((k_here; (with_reducible show wpAny _ _ (pyIter (Value.ref _)) (fun it s₂ => LoopAtV _ _ _ _ _ _ _ _ _ it s₂) _ _); refine Stop.out ?_)) | fail "no")
  (k_with "exec For Name Subscript cons nil" => first | ((k_here; (rename Fr _ _ _ _ => lF'); (with_unfolding_all refine' For_turns lF' ?_; k_whole))) | fail "no")
  (k_with "exec For Name List cons nil" => first | ((k_here; (rename Fr _ _ _ _ => lF'); (with_unfolding_all refine' For_turns lF' ?_; k_whole))) | fail "no")
  trivial
theorem lawd_eq {α β : Type} {o : Option (α × β)} {x y : α} {b : β} (h : o = some (x, b)) (h2 : o = some (y, b)) : x = y := by rw [h] at h2; injection h2 with h2; injection h2
theorem law_pack1 {g h : Heap} {L d D1 op src ce : Addr} {od ot oo oc oc2 oc3 os3 : Obj} {a b : Int} {ta tb : Tok} {k : Nat}
   (N : News g L h ((d, od) :: (D1, ot) :: (op, oo) :: (src, listOf (List.toArray [Value.int a ta, Value.int b tb]) k) :: (ce, oc) :: [])) (ha : 0 ≤ a) (hb : 0 ≤ b) (hb2 : b < 2147483647)
   (l1 : @LT.lt Nat _ src op) (l2 : @LT.lt Nat _ ce op) (l3 : ∀ p ∈ [(ce, oc2)], @LT.lt Nat _ p.1 src) (l4 : ∀ p ∈ ((D1, ot) :: (op, oo) :: (src, os3) :: (ce, oc3) :: []), @LT.lt Nat _ p.1 d) :
   ∃ d' op' src' od' oo' oc' a' b' ta' tb' k', d' = d ∧ op' = op ∧ src' = src ∧ od' = od ∧ oo' = oo ∧ oc' = oc ∧ 0 ≤ a' ∧ 0 ≤ b' ∧ b' < 2147483647 ∧
   News g L h ((d', od') :: (op', oo') :: (src', listOf (List.toArray [Value.int a' ta', Value.int b' tb']) k') :: (ce, oc') :: []) ∧ ND [(d' : Nat), op', src', ce] :=
  ⟨d, op, src, od, oo, oc, a, b, ta, tb, k, rfl, rfl, rfl, rfl, rfl, rfl, ha, hb, hb2, cb_drop N (by kcj_all), by
    have h5 : @LT.lt Nat _ ce src := l3 _ (.head _)
    have h1 : @LT.lt Nat _ op d := l4 _ (.tail _ (.head _))
    refine List.nodup_cons.mpr ⟨?_, List.nodup_cons.mpr ⟨?_, List.nodup_cons.mpr ⟨?_, List.nodup_cons.mpr ⟨List.not_mem_nil, List.nodup_nil⟩⟩⟩⟩ <;> simp only [List.mem_cons, List.not_mem_nil, or_false, not_or]
    · exact ⟨by omega, by omega, by omega⟩
    · exact ⟨by omega, by omega⟩
    · omega⟩
theorem four_ints {ys : List Value} {ms : List Int} (h : IntsAre ys ms) (hl : ms.length = Int.toNat (4 - 0)) : ∃ m1 m2 m3 m4 y1 y2 y3 y4, ys = [Value.int m1 y1, Value.int m2 y2, Value.int m3 y3, Value.int m4 y4] ∧ ms = [m1, m2, m3, m4] := by
  rcases ms with _ | ⟨m1, _ | ⟨m2, _ | ⟨m3, _ | ⟨m4, _ | ⟨m5, r⟩⟩⟩⟩⟩ <;> simp at hl
  obtain ⟨y1, ys1, rfl, h1⟩ := PyProof.Rows.IntsAre.cons_inv h
  obtain ⟨y2, ys2, rfl, h2⟩ := PyProof.Rows.IntsAre.cons_inv h1
  obtain ⟨y3, ys3, rfl, h3⟩ := PyProof.Rows.IntsAre.cons_inv h2
  obtain ⟨y4, ys4, rfl, h4⟩ := PyProof.Rows.IntsAre.cons_inv h3
  obtain rfl := PyProof.Rows.IntsAre.nil_inv h4
  exact ⟨m1, m2, m3, m4, y1, y2, y3, y4, rfl, rfl⟩
abbrev JWC (bk op src ce : Addr) (od oo oc : Obj) (i : Nat) (ys : List Value) (nw : List (Addr × Obj)) : Prop :=
  ∃ (a9 b9 : Int) (ta9 tb9 : Tok) (k9 : Nat) (ms : List Int), nw = (bk, od) :: (op, oo) :: (src, listOf (List.toArray [Value.int a9 ta9, Value.int b9 tb9]) k9) :: (ce, oc) :: [] ∧ 0 ≤ a9 ∧ 0 ≤ b9 ∧ b9 < 2147483647 ∧ IntsAre ys ms ∧ ms.length = i ∧ Bnd 95 ms
abbrev JW1 (w : World) (W dW S dS nl sd G sc cv zn bd bc bs bk op src : Addr) (oo : Obj) (u : WTok) (t1 t2 tm : Tok) (sto bdo bo : Obj) (cvs cvb ys : List Value) (kc k9 : Nat) (a9 b9 : Int) (ta9 tb9 : Tok) (st : List (Addr × Obj)) (ms : List Int) (i : Nat) (nw : List (Addr × Obj)) : Prop :=
  ∃ (us : List Value) (k : Nat), nw = (W, instObj 476 dW) :: (dW, dictOf (WrkE w u G S zn cv sd sc 12) 8) :: (S, instObj 425 dS) :: (dS, dictOf (StkE w t1 t2 tm nl) 2) :: (nl, listOf (List.toArray us) k) :: (cv, listOf (List.toArray cvs) kc) :: (sd, sto) :: (op, oo) :: (bk, bo) :: (bs, listOf (List.toArray ys) ys.length) :: (bc, listOf (List.toArray cvb) 0) :: (bd, bdo) :: (src, listOf (List.toArray [Value.int a9 ta9, Value.int b9 tb9]) k9) :: st ∧ IntsAre us (ms.take i)
abbrev JW2 (w : World) (W dW S dS sd G sc cv zn bd bc bk op src : Addr) (oo : Obj) (u : WTok) (t1 t2 tm : Tok) (st : List (Addr × Obj)) (i : Nat) (nw : List (Addr × Obj)) : Prop :=
  ∃ σ : TS, nw = (W, instObj 476 dW) :: (dW, dictOf (WrkE w u G S zn cv sd sc 12) 8) :: (S, instObj 425 dS) :: (dS, dictOf (StkE w t1 t2 tm σ.nl) 2) :: (σ.nl, listOf (List.toArray σ.vs) σ.k) :: (cv, listOf (List.toArray σ.cvs) σ.kc) :: (sd, σ.sto) :: (op, oo) :: (bk, σ.bo) :: (σ.bs, listOf (List.toArray σ.vb) σ.kb) :: (bc, listOf (List.toArray σ.cvb) σ.kcb) :: (bd, σ.bdo) :: (src, listOf (List.toArray [Value.int σ.a0 σ.ta0, Value.int σ.b0 σ.tb0]) σ.k0) :: st ∧ ND ((W : Nat) :: (dW : Nat) :: (S : Nat) :: (dS : Nat) :: (σ.nl : Nat) :: (cv : Nat) :: (sd : Nat) :: (op : Nat) :: (bk : Nat) :: (σ.bs : Nat) :: (bc : Nat) :: (bd : Nat) :: (src : Nat) :: List.map (fun p => (p.1 : Nat)) st) ∧ GoodS w bc bd (1000 * 2 ^ i) i σ
abbrev JW3 (w : World) (W dW S dS sd G dG R dR sc cv zn bc bk op nl2 D4 : Addr) (oo : Obj) (u2 : WTok) (pp2 : Int) (t1 t2 tm r1 r2 r3 r4 r5 r6 q1 q2 : Tok) (gv : GV) (cvs2 cvb2 L4 : List Value) (kc2 kcb2 : Nat) (σ : TS) (i : Nat) (nw : List (Addr × Obj)) : Prop :=
  ∃ (us : List Value) (k : Nat), nw = (D4, listOf (List.toArray L4) 0) :: (W, instObj 476 dW) :: (dW, dictOf (WrkE w u2 G S zn cv sd sc pp2) 8) :: (S, instObj 425 dS) :: (dS, dictOf (StkE w t1 t2 tm nl2) 2) :: (nl2, listOf (List.toArray us) k) :: (cv, listOf (List.toArray cvs2) kc2) :: (sd, σ.sto) :: (G, instObj 369 dG) :: (dG, dictOf (GrE w gv R) 18) :: (R, instObj 112 dR) :: (dR, dictOf (RndE w r1 r2 r3 r4 r5 r6) 3) :: (sc, tupObj [Value.int 3 q1, Value.int 2 q2]) :: (op, oo) :: (bk, σ.bo) :: (bc, listOf (List.toArray cvb2) kcb2) :: [] ∧ IntsAre us (List.take i [4, 5, 6, 7, 4])
theorem law38 {cns : List Int} {cst : List (Int × Int)} : opStep 38 [4, 5, 6, 7, 4] cns cst = some ([5, 6, 7, 4], cns, cst) := mind_eq (as := []) (x := 4) (bs := [5, 6, 7])
theorem law68 {cns : List Int} {cst : List (Int × Int)} : opStep 68 ([5, 6, 7, 4] ++ [9]) cns cst = none := rfl
theorem pow_up {i : Nat} : (2 : Int) * (1000 * 2 ^ i) = 1000 * 2 ^ (i + 1) := by rw [Int.pow_succ]; omega
theorem pow_lo (i : Nat) : (1000 : Int) ≤ 1000 * 2 ^ i := by
  have : (1 : Int) ≤ 2 ^ i := by
    induction i with
    | zero => decide
    | succ n ih => rw [Int.pow_succ]; omega
  omega
theorem pow_hi {i : Nat} (h : i < 18) : (1000 : Int) * 2 ^ i ≤ 10 ^ 9 := (show ∀ j : Fin 18, (1000 : Int) * 2 ^ (j : Nat) ≤ 10 ^ 9 by decide +kernel) ⟨i, h⟩
theorem nd_up {D E : Nat} {l : List Nat} (k : ND (D :: l) ∧ ∀ y ∈ l, y < D) (e : D < E) : ND (E :: D :: l) ∧ ∀ y ∈ D :: l, y < E := by
  have h : ∀ y ∈ D :: l, y < E := fun y hy => by
    rcases List.mem_cons.mp hy with rfl | hy
    · exact e
    · exact Nat.lt_trans (k.2 y hy) e
  exact ⟨List.nodup_cons.mpr ⟨fun m => Nat.lt_irrefl _ (h E m), k.1⟩, h⟩
theorem law_pack2 {g h : Heap} {L : Addr} {w : World} {W dW S dS nl sd G dG R dR sc cv zn bd bc bs bk op src ce : Addr} {u : WTok} {t1 t2 tm r1 r2 r3 r4 r5 r6 q1 q2 c1 c2 c3 d1 d2 d3 ta0 tb0 : Tok} {gv : GV} {kc kcb k0 : Nat} {a0 b0 : Int} {ys : List Value} {sto ozn bdo bo oo oce abs abk aop asrc ace bbc bbs bbk bop bsrc bce cbd cbc cbs cbk cop csrc cce dzn dbd dbc dbs dbk dop dsrc dce ecv ezn ebd ebc ebs ebk eop esrc ece fsc fcv fzn fbd fbc fbs fbk fop fsrc fce : Obj}
  (N : News g L h ((W, instObj 476 dW) :: (dW, dictOf (WrkE w u G S zn cv sd sc 12) 8) :: (S, instObj 425 dS) :: (dS, dictOf (StkE w t1 t2 tm nl) 2) :: (nl, listOf (List.toArray ([] : List Value)) 0) :: (sd, sto) :: (G, instObj 369 dG) :: (dG, dictOf (GrE w gv R) 18) :: (R, instObj 112 dR) :: (dR, dictOf (RndE w r1 r2 r3 r4 r5 r6) 3) :: (sc, tupObj [Value.int 3 q1, Value.int 2 q2]) :: (cv, listOf (List.toArray [Value.int 70 c1, Value.int (-40) c2, Value.int 5 c3]) kc) :: (zn, ozn) :: (bd, bdo) :: (bc, listOf (List.toArray [Value.int 70 d1, Value.int (-40) d2, Value.int 5 d3]) kcb) :: (bs, LCg.lst ys) :: (bk, bo) :: (op, oo) :: (src, listOf (List.toArray [Value.int a0 ta0, Value.int b0 tb0]) k0) :: (ce, oce) :: [])) (nd : ND [(bs : Nat), bk, op, src, ce])
  (la : ∀ p ∈ ((bs, abs) :: (bk, abk) :: (op, aop) :: (src, asrc) :: (ce, ace) :: []), @LT.lt Nat _ p.1 bc)
  (lb : ∀ p ∈ ((bc, bbc) :: (bs, bbs) :: (bk, bbk) :: (op, bop) :: (src, bsrc) :: (ce, bce) :: []), @LT.lt Nat _ p.1 bd)
  (lc : ∀ p ∈ ((bd, cbd) :: (bc, cbc) :: (bs, cbs) :: (bk, cbk) :: (op, cop) :: (src, csrc) :: (ce, cce) :: []), @LT.lt Nat _ p.1 zn)
  (ld : ∀ p ∈ ((zn, dzn) :: (bd, dbd) :: (bc, dbc) :: (bs, dbs) :: (bk, dbk) :: (op, dop) :: (src, dsrc) :: (ce, dce) :: []), @LT.lt Nat _ p.1 cv)
  (le : ∀ p ∈ ((cv, ecv) :: (zn, ezn) :: (bd, ebd) :: (bc, ebc) :: (bs, ebs) :: (bk, ebk) :: (op, eop) :: (src, esrc) :: (ce, ece) :: []), @LT.lt Nat _ p.1 sc)
  (lf : ∀ p ∈ ((sc, fsc) :: (cv, fcv) :: (zn, fzn) :: (bd, fbd) :: (bc, fbc) :: (bs, fbs) :: (bk, fbk) :: (op, fop) :: (src, fsrc) :: (ce, fce) :: []), @LT.lt Nat _ p.1 dW) (c : @LT.lt Nat _ dW W ∧ @LT.lt Nat _ W dG ∧ @LT.lt Nat _ dG G ∧ @LT.lt Nat _ G dR ∧ @LT.lt Nat _ dR R ∧ @LT.lt Nat _ R dS ∧ @LT.lt Nat _ dS S ∧ @LT.lt Nat _ S nl ∧ @LT.lt Nat _ nl sd) :
  ∃ (st : List (Addr × Obj)) (cvs cvb : List Value), st = (G, instObj 369 dG) :: (dG, dictOf (GrE w gv R) 18) :: (R, instObj 112 dR) :: (dR, dictOf (RndE w r1 r2 r3 r4 r5 r6) 3) :: (sc, tupObj [Value.int 3 q1, Value.int 2 q2]) :: (ce, oce) :: [] ∧ IntsAre cvs [70, -40, 5] ∧ IntsAre cvb [70, -40, 5] ∧ News g L h ((W, instObj 476 dW) :: (dW, dictOf (WrkE w u G S zn cv sd sc 12) 8) :: (S, instObj 425 dS) :: (dS, dictOf (StkE w t1 t2 tm nl) 2) :: (nl, listOf (List.toArray ([] : List Value)) 0) :: (cv, listOf (List.toArray cvs) kc) :: (sd, sto) :: (op, oo) :: (bk, bo) :: (bs, listOf (List.toArray ys) ys.length) :: (bc, listOf (List.toArray cvb) kcb) :: (bd, bdo) :: (src, listOf (List.toArray [Value.int a0 ta0, Value.int b0 tb0]) k0) :: st) ∧ ND ((W : Nat) :: (dW : Nat) :: (S : Nat) :: (dS : Nat) :: (nl : Nat) :: (cv : Nat) :: (sd : Nat) :: (op : Nat) :: (bk : Nat) :: (bs : Nat) :: (bc : Nat) :: (bd : Nat) :: (src : Nat) :: List.map (fun p => (p.1 : Nat)) st) := by
  have n1 := nd_new nd rfl la
  have n2 := nd_new n1 rfl lb
  have n3 := nd_new n2 rfl lc
  have n4 := nd_new n3 rfl ld
  have n5 := nd_new n4 rfl le
  have k0 : ND ((dW : Nat) :: [sc, cv, zn, bd, bc, bs, bk, op, src, ce]) ∧ ∀ y ∈ [(sc : Nat), cv, zn, bd, bc, bs, bk, op, src, ce], y < (dW : Nat) := ⟨nd_new n5 rfl lf, fun y hy => by
    have hy2 : y ∈ ((sc, fsc) :: (cv, fcv) :: (zn, fzn) :: (bd, fbd) :: (bc, fbc) :: (bs, fbs) :: (bk, fbk) :: (op, fop) :: (src, fsrc) :: (ce, fce) :: ([] : List (Addr × Obj))).map (fun p => (p.1 : Nat)) := hy
    obtain ⟨p, hp, rfl⟩ := List.mem_map.mp hy2
    exact lf p hp⟩
  obtain ⟨c1, c2, c3, c4, c5, c6, c7, c8, c9⟩ := c
  have k9 := nd_up (nd_up (nd_up (nd_up (nd_up (nd_up (nd_up (nd_up (nd_up k0 c1) c2) c3) c4) c5) c6) c7) c8) c9
  exact ⟨_, _, _, rfl, .cons _ _ (.cons _ _ (.cons _ _ .nil)), .cons _ _ (.cons _ _ (.cons _ _ .nil)), news_ix N [0, 1, 2, 3, 4, 11, 5, 17, 16, 15, 14, 13, 18, 6, 7, 8, 9, 10, 19] rfl, nd_ix k9.1 [8, 9, 2, 3, 1, 11, 0, 17, 16, 15, 14, 13, 18, 6, 7, 4, 5, 10, 19] rfl (by decide)⟩
theorem law_in {g h : Heap} {L I W dW S dS nl cv sd op bk bs bc bd src G dG R dR sc ce : Addr} {iob oW odW oS odS onl ocv osd oop obk obs obc obd osrc oG odG oR odR osc oce : Obj} {st : List (Addr × Obj)} (hst : st = (G, oG) :: (dG, odG) :: (R, oR) :: (dR, odR) :: (sc, osc) :: (ce, oce) :: []) (N : News g L h ((I, iob) :: (W, oW) :: (dW, odW) :: (S, oS) :: (dS, odS) :: (nl, onl) :: (cv, ocv) :: (sd, osd) :: (op, oop) :: (bk, obk) :: (bs, obs) :: (bc, obc) :: (bd, obd) :: (src, osrc) :: st)) (nd : ND ((I : Nat) :: (W : Nat) :: (dW : Nat) :: (S : Nat) :: (dS : Nat) :: (nl : Nat) :: (cv : Nat) :: (sd : Nat) :: (op : Nat) :: (bk : Nat) :: (bs : Nat) :: (bc : Nat) :: (bd : Nat) :: (src : Nat) :: List.map (fun p => (p.1 : Nat)) (st))) :
  News g L h ((W, oW) :: (dW, odW) :: (S, oS) :: (dS, odS) :: (nl, onl) :: (cv, ocv) :: (sd, osd) :: (op, oop) :: (bk, obk) :: (bs, obs) :: (bc, obc) :: (bd, obd) :: (src, osrc) :: (G, oG) :: (dG, odG) :: (R, oR) :: (dR, odR) :: (sc, osc) :: (I, iob) :: (ce, oce) :: []) ∧ ND ((W : Nat) :: (dW : Nat) :: (S : Nat) :: (dS : Nat) :: (nl : Nat) :: (cv : Nat) :: (sd : Nat) :: (op : Nat) :: (bk : Nat) :: (bs : Nat) :: (bc : Nat) :: (bd : Nat) :: (src : Nat) :: List.map (fun p => (p.1 : Nat)) ((G, oG) :: (dG, odG) :: (R, oR) :: (dR, odR) :: (sc, osc) :: (I, iob) :: (ce, oce) :: [])) := by
  subst hst
  exact ⟨news_ix N [1, 2, 3, 4, 5, 6, 7, 8, 9, 10, 11, 12, 13, 14, 15, 16, 17, 18, 0, 19] rfl, nd_ix nd [1, 2, 3, 4, 5, 6, 7, 8, 9, 10, 11, 12, 13, 14, 15, 16, 17, 18, 0, 19] rfl (by decide)⟩
theorem law_nl {W dW S dS nl cv sd G dG R dR sc op bk bc nl2 : Addr} {oG odG oR odR osc oop obk obc : Obj} (nd : ND [(W : Nat), dW, S, dS, nl, cv, sd, G, dG, R, dR, sc, op, bk, bc]) (l : nl2 = nl ∨ (@LT.lt Nat _ W nl2 ∧ @LT.lt Nat _ dW nl2 ∧ @LT.lt Nat _ S nl2 ∧ @LT.lt Nat _ dS nl2 ∧ @LT.lt Nat _ nl nl2 ∧ @LT.lt Nat _ cv nl2 ∧ @LT.lt Nat _ sd nl2 ∧ AllLt nl2 ((G, oG) :: (dG, odG) :: (R, oR) :: (dR, odR) :: (sc, osc) :: (op, oop) :: (bk, obk) :: (bc, obc) :: []))) : ND [(W : Nat), dW, S, dS, nl2, cv, sd, G, dG, R, dR, sc, op, bk, bc] := by
  rcases l with rfl | l
  · exact nd
  · have ndn := nd_new (D := nl2) (news := (W, oG) :: (dW, oG) :: (S, oG) :: (dS, oG) :: (cv, oG) :: (sd, oG) :: (G, oG) :: (dG, odG) :: (R, oR) :: (dR, odR) :: (sc, osc) :: (op, oop) :: (bk, obk) :: (bc, obc) :: []) (nd_ix nd [0, 1, 2, 3, 5, 6, 7, 8, 9, 10, 11, 12, 13, 14] rfl (by decide)) rfl (fun p hp => allLt_mem (l := (W, oG) :: (dW, oG) :: (S, oG) :: (dS, oG) :: (cv, oG) :: (sd, oG) :: (G, oG) :: (dG, odG) :: (R, oR) :: (dR, odR) :: (sc, osc) :: (op, oop) :: (bk, obk) :: (bc, obc) :: []) ⟨l.1, l.2.1, l.2.2.1, l.2.2.2.1, l.2.2.2.2.2.1, l.2.2.2.2.2.2.1, l.2.2.2.2.2.2.2⟩ p hp)
    exact nd_ix ndn [1, 2, 3, 4, 0, 5, 6, 7, 8, 9, 10, 11, 12, 13, 14] rfl (by decide)
theorem law_del {g h : Heap} {L W dW S dS nl cv sd op bk bs bc bd src G dG R dR sc ce : Addr} {oW odW oS odS onl ocv osd oop obk obs obc obd osrc oG odG oR odR osc oce : Obj} (N : News g L h ((W, oW) :: (dW, odW) :: (S, oS) :: (dS, odS) :: (nl, onl) :: (cv, ocv) :: (sd, osd) :: (op, oop) :: (bk, obk) :: (bs, obs) :: (bc, obc) :: (bd, obd) :: (src, osrc) :: (G, oG) :: (dG, odG) :: (R, oR) :: (dR, odR) :: (sc, osc) :: (ce, oce) :: [])) (nd : ND ((W : Nat) :: (dW : Nat) :: (S : Nat) :: (dS : Nat) :: (nl : Nat) :: (cv : Nat) :: (sd : Nat) :: (op : Nat) :: (bk : Nat) :: (bs : Nat) :: (bc : Nat) :: (bd : Nat) :: (src : Nat) :: List.map (fun p => (p.1 : Nat)) ((G, oG) :: (dG, odG) :: (R, oR) :: (dR, odR) :: (sc, osc) :: (ce, oce) :: []))) :
  News g L h ((W, oW) :: (dW, odW) :: (S, oS) :: (dS, odS) :: (nl, onl) :: (cv, ocv) :: (bk, obk) :: (bc, obc) :: (src, osrc) :: (sd, osd) :: (G, oG) :: (dG, odG) :: (R, oR) :: (dR, odR) :: (sc, osc) :: (op, oop) :: []) ∧ ND [(W : Nat), dW, S, dS, nl, cv, bk, bc, src, sd, G, dG, R, dR, sc, op] := ⟨news_ix N [0, 1, 2, 3, 4, 5, 8, 10, 12, 6, 13, 14, 15, 16, 17, 7] rfl, nd_ix nd [0, 1, 2, 3, 4, 5, 8, 10, 12, 6, 13, 14, 15, 16, 17, 7] rfl (by decide)⟩
theorem law_out {g h : Heap} {L I W dW S dS nl cv sd op bk bs bc bd src G dG R dR sc ce : Addr} {iob oW odW oS odS onl ocv osd oop obk obs obc obd osrc oG odG oR odR osc oce : Obj} {st : List (Addr × Obj)} (hst : st = (G, oG) :: (dG, odG) :: (R, oR) :: (dR, odR) :: (sc, osc) :: (ce, oce) :: []) (N : News g L h ((W, oW) :: (dW, odW) :: (S, oS) :: (dS, odS) :: (nl, onl) :: (cv, ocv) :: (sd, osd) :: (op, oop) :: (bk, obk) :: (bs, obs) :: (bc, obc) :: (bd, obd) :: (src, osrc) :: (G, oG) :: (dG, odG) :: (R, oR) :: (dR, odR) :: (sc, osc) :: (I, iob) :: (ce, oce) :: [])) (nd : ND ((W : Nat) :: (dW : Nat) :: (S : Nat) :: (dS : Nat) :: (nl : Nat) :: (cv : Nat) :: (sd : Nat) :: (op : Nat) :: (bk : Nat) :: (bs : Nat) :: (bc : Nat) :: (bd : Nat) :: (src : Nat) :: List.map (fun p => (p.1 : Nat)) ((G, oG) :: (dG, odG) :: (R, oR) :: (dR, odR) :: (sc, osc) :: (I, iob) :: (ce, oce) :: []))) :
  News g L h ((I, iob) :: (W, oW) :: (dW, odW) :: (S, oS) :: (dS, odS) :: (nl, onl) :: (cv, ocv) :: (sd, osd) :: (op, oop) :: (bk, obk) :: (bs, obs) :: (bc, obc) :: (bd, obd) :: (src, osrc) :: st) ∧ ND ((I : Nat) :: (W : Nat) :: (dW : Nat) :: (S : Nat) :: (dS : Nat) :: (nl : Nat) :: (cv : Nat) :: (sd : Nat) :: (op : Nat) :: (bk : Nat) :: (bs : Nat) :: (bc : Nat) :: (bd : Nat) :: (src : Nat) :: List.map (fun p => (p.1 : Nat)) (st)) := by
  subst hst
  exact ⟨news_ix N [18, 0, 1, 2, 3, 4, 5, 6, 7, 8, 9, 10, 11, 12, 13, 14, 15, 16, 17, 19] rfl, nd_ix nd [18, 0, 1, 2, 3, 4, 5, 6, 7, 8, 9, 10, 11, 12, 13, 14, 15, 16, 17, 19] rfl (by decide)⟩
theorem walk.tw543904627247523499 : True := trivial
theorem walk.tw18315585893207836101 : True := trivial
theorem walk.tw14483651329830533851 : True := trivial
set_option Elab.async true in
theorem walk : ∀ d, defOf view (Str.ofString "law") = some (d, []) → WalkO view [Str.ofString "HintWork"] (XL view []) (InK lay.heap_1) PySem.Challenge.rw_on0247_01.row.toRowW d [] (fun f vs => PySem.call f vs) :=
  (by intro hz8; exact hz8 : (have hz8 : ∀ d, defOf view (Str.ofString "law") = some (d, []) → WalkO view [Str.ofString "HintWork"] (XL view []) (InK lay.heap_1) PySem.Challenge.rw_on0247_01.row.toRowW d [] (fun f vs => PySem.call f vs) := (by
  intro d hd0
  obtain rfl := lawd_eq hd0 (show defOf view (Str.ofString "law") = some (DefRec.mk _ _ _ _ _, []) by with_unfolding_all rfl)
  clear hd0; k_fill
  have skon := skon
  (k_extra "x_in5"; have xz9 := sken; rename_i w s₀ s₁ mg mb; clear xz9)
  intro G Y
  (k_extra "x_in6"; k_extra "x_in1"; have xz9 := sken; rename_i fa o pm cd doc dV kV; clear xz9)
  intro ho hd hcd hD hmg hg
  (k_extra "x_in3"; have xz9 := sken; rename_i args vals as; clear xz9)
  intro hpre hlay hrd hwl hlo
  clear skon9
  have KX : (lay.heap_1 w.params).In s₁.heap := Y
  w_strict (k_behind G ho hd hcd hD hmg hpre hlay hrd hwl hlo cd)
  all_goals (try k_extra "x_fold")
  k_steps
  refine Stop.intro ?_
  (with_reducible rename News _ _ _ _ => Nx)
  obtain ⟨bk, op, src, od, oo, oc, a0, b0, ta0, tb0, k0, e1, e2, e3, e4, e5, e6, z1, z2, z3, Ny, nd⟩ := law_pack1 Nx (by with_reducible assumption) (by with_reducible assumption) (by with_reducible assumption) (by with_reducible assumption) (by with_reducible assumption) (by with_reducible assumption) (by with_reducible assumption)
  subst e1 e2 e3 e4 e5 e6
  clear Nx
  (with_reducible rename IsRange _ _ _ _ _ _ _ _ => rgX)
  have kst : KmStop := trivial
  refine LCg.CompSrc.range (by rfl) (by k_asm) (by k_asm) rgX (small_one (by omega) (by omega) (by omega) (by omega)) (rangeSize_nat _ _) (by rw [PySem.sizeLine_eq]; omega) ?_
  intro g1
  refine comp_inv (JWC bk op src (Array.size (Heap.objs (Shared.heap s₁)) + 1) od oo oc) ?_ ?_ ?_
  · exact ⟨_, _, _, _, _, [], rfl, z1, z2, z3, .nil, rfl, fun _ h => nomatch h⟩
  · rintro i ys nw v I oI C oC D m₂ h tk9 E9 hi9 ⟨t9, rfl⟩ ⟨a9, b9, ta9, tb9, k9, ms, rfl, z1, z2, z3, hy, hlm, hbm⟩ hC9 hx9 F9 N9 off9 ne9
    have off8 := off9
    refine q_gen ?_; intro QQ hqq
    (try dsimp only)
    k_steps
    refine hqq _ _ ?_
    exact LCg.CompEnd.intro (by k_asm) (by k_asm) ((bk, od) :: (op, oo) :: (src, listOf (List.toArray [Value.int _ _, Value.int _ _]) _) :: ((Array.size (Heap.objs (Shared.heap s₁)) + 1), oc) :: []) (fun p hp => hp) (by exact off8) trivial ⟨_, _, _, _, _, ms ++ [_], rfl, by with_reducible assumption, by with_reducible assumption, by with_reducible assumption, ints_app hy (.cons _ _ .nil), by rw [List.length_append, hlm]; rfl, hbm.app (Bnd.one (by omega))⟩
  · rintro ys nw ⟨a9, b9, ta9, tb9, k9, ms, rfl, z1, z2, z3, hy, hlm, hbm⟩
    unfold LCg.FinE
    intro bs h tk9 F9 N9 o9
    (try dsimp only)
    have ndD := nd_off nd rfl (fun p hp => Ne.symm (off1_1 o9 hp))
    k_steps
    refine Stop.intro ?_
    have l'z9 := trivial; have h'z9 := trivial; have l1z9 := trivial; have F'z9 := trivial; have N'z9 := trivial
    rename_i bc _ _ _ lbc bd _ bdo lbd loD _ _ hdb hfb _ bo hbk _ zn _ lzn cv kc _ lcv sc _ _ _ lsc
    clear l'z9 h'z9 l1z9 F'z9 N'z9
    k_dflt (refine' workF ?k1q7 ?k2q7 ?k3q7 ?k4q7 ?k5q7 ?k6q7 ?k7q7 ?k8q7 ?_; (case k1q7 => k_asm); (case k2q7 => k_asm); (case k3q7 => k_asm); (case k4q7 => k_asm); (case k5q7 => k_asm); (case k6q7 => first | exact rfl | assumption); (case k7q7 => ktr_room); (case k8q7 => ktr_units); k_whole)
    intro h1 tk1 W dW S dS nl sd sto G dG R dR u t1 t2 tm gv r1 r2 r3 r4 r5 r6 Fw Nw lW cW lo9 hd9 hf9
    (try dsimp only); (try k_extra "x_fold")
    obtain ⟨st, cvs, cvb, hst, hcv, hcb, Nv, nd⟩ := law_pack2 Nw ndD lbc lbd lzn lcv lsc lW cW
    clear Nw lbc lbd lzn lcv lsc lW cW ndD o9
    k_steps
    refine Stop.intro ?_
    (with_reducible rename News _ _ _ ((W, _) :: _) => Nv)
    refine list_turns (Str.ofString "number") (Str.ofString "number") (Str.ofString "number") (JW1 w W dW S dS nl sd G sc cv zn bd bc bs bk op src oo u t1 t2 tm sto bdo bo cvs cvb ys kc k9 a9 b9 ta9 tb9 st ms) (by rfl) (by k_asm) Nv (by k_extra "u_mem_LW") rfl rfl (by rintro i nx ⟨us, k, rfl, _⟩; k_extra "u_mem_LW") ⟨_, _, rfl, by rw [List.take_zero]; exact .nil⟩ ?_ ?_
    · rintro i v q v1 v2 nx h tk I iob hv ⟨us, k, rfl, hu⟩ hoff F9 N9
      obtain ⟨x, t, rfl, hx⟩ := ints_at hy hv
      have hn12 : (((ms.take i).length : Nat) : Int) < 12 := by rw [List.length_take]; omega
      have ndI := nd_off nd rfl hoff
      refine q_gen2 ?_; intro QQ hqq
      (try dsimp only)
      k_steps
      (with_reducible rename News _ _ _ _ => Nq); (with_reducible rename Fr _ _ _ _ => Fq)
      refine hqq _ _ ?_
      show LFin _ _ _ _ _ _ _ _ _ _ _
      exact LFin.mk _ Fq (by intro z z1 z2 z3; repeat (first | exact rfl | refine ite_skip (by assumption) ?_)) Nq (off_nd ndI rfl) ⟨_, _, rfl, by rw [take_snoc hx]; exact ints_app hu (.cons _ _ .nil)⟩
    · rintro q v1 v2 nx h tk ⟨us, k, rfl, hu⟩ F9 N9
      (try dsimp only)
      rw [hy.length, List.take_length] at hu
      replace F9 := fr_num3 F9
      rw [hst] at N9 nd
      clear Nv
      k_steps
      refine Stop.intro ?_
      (with_reducible rename IsRange _ _ _ _ _ _ _ _ => rgY)
      (with_reducible rename Fr _ _ _ _ => Fy); (with_reducible rename News _ _ _ ((W, _) :: _) => Ny)
      rw [← hst] at Ny nd
      have hl4 : ms.length = 4 := hlm
      have hsg := sto
      obtain ⟨hops, kvsO, hoo, hopv, hopd⟩ : ∃ (_ : True) (kvsO : List (Int × Value)), oo.IsDictOf (PySem.intKind PySem.Challenge.rw_on0247_01.row.toRowW.prog w) kvsO ∧ (∀ c, OpCode c → PySem.valueAt kvsO c = some (Value.ref (opF c))) ∧ (∀ c, c = 115 ∨ c = 116 ∨ c = 117 → PySem.valueAt kvsO c = some (Value.ref 303)) := by
        (with_reducible rename HasOps _ _ _ _ => hz)
        obtain ⟨kvs, z1, z2, z3⟩ := hz
        exact ⟨trivial, kvs, z1, fun c h => (z3 c).trans (ops_val h), fun c h => (z3 c).trans (ops_del h)⟩
      have hbk2 : bo.IsDictOf (PySem.strKind PySem.Challenge.rw_on0247_01.row.toRowW.prog w) [(Str.ofString "stack", Value.ref bs), (Str.ofString "cvt", Value.ref bc), (Str.ofString "stored", Value.ref bd)] := hbk
      have bok : BaseOK w _ mg mb s₁.heap := ⟨KX, by k_asm⟩
      refine rng_turns (Str.ofString "z1") (Str.ofString "z2") (JW2 w W dW S dS sd G sc cv zn bd bc bk op src oo u t1 t2 tm st) (by rfl) rgY (small_one (by omega) (by omega) (by omega) (by omega)) (rangeSize_nat _ _) Fy Ny ⟨⟨nl, bs, us, cvs, ys, cvb, k, kc, ys.length, 0, _, sto, bo, bdo, [], [], ms, [70, -40, 5], [], _, _, _, _⟩, rfl, nd, ⟨hu, hy, hcv, hcb, (show ms.length ≤ 12 by omega), rfl, hbm.up (by decide), by intro x hx; simp only [List.mem_cons, List.not_mem_nil, or_false] at hx; omega, fun p hp => (nomatch hp), List.nodup_nil, Nat.le_refl _, hd9, hf9, hdb, hfb, hbk2, by with_reducible assumption, by with_reducible assumption, by with_reducible assumption⟩⟩ ?_ ?_
      · rintro i t v1 v2 nx h tk I iob hin ⟨σ, rfl, nd, good⟩ hoff F9 N9
        have ndI := nd_off nd rfl hoff
        have hi18 : i < 18 := by omega
        obtain ⟨Nt, ndt⟩ := law_in hst N9 ndI
        refine q_gen ?_; intro QQ hqq
        (try dsimp only)
        k_steps
        refine Stop.intro ?_
        k_dflt (refine' turnF ?q1q7 ?q2q7 ?q3q7 ?q4q7 ?q5q7 ?q6q7 ?q7q7 ?q8q7 rfl MinG.self bok (by with_reducible assumption) lo9 loD hoo hopv ndt good (pow_lo i) (pow_hi hi18) (by omega) ?hrq7; (case q1q7 => k_asm); (case q2q7 => k_asm); (case q3q7 => k_asm); (case q4q7 => exact Nt); (case q5q7 => k_asm); (case q6q7 => first | exact rfl | assumption); (case q7q7 => ktr_room); (case q8q7 => ktr_units))
        intro h' tk' σ' F' N' nd' good'
        rw [pow_up] at good'
        (try dsimp only)
        k_steps
        (with_reducible rename News _ _ _ _ => Nq); (with_reducible rename Fr _ _ _ _ => Fq)
        obtain ⟨No, ndo⟩ := law_out hst Nq nd'
        refine hqq _ _ ?_
        show LFin _ _ _ _ _ _ _ _ _ _ _
        exact LFin.mk _ Fq (by intro z z1 z2 z3; repeat (first | exact rfl | refine ite_skip (by assumption) ?_)) No (off_nd ndo rfl) ⟨σ', rfl, nd_tl ndo, good'⟩
      · rintro q v1 v2 nx h tk ⟨σ, rfl, nd, good⟩ F9 N9
        (try dsimp only)
        rw [hst] at N9 nd
        clear Ny Fy rgY
        k_steps
        refine Stop.intro ?_
        obtain ⟨Nt, ndt⟩ := law_del N9 nd
        k_dflt (refine' deltasF ?p1q7 ?p2q7 ?p3q7 ?p4q7 ?p5q7 ?p6q7 ?p7q7 ?p8q7 ndt (by with_reducible assumption) good.hbk good.hcn good.hcb good.hcl good.ha good.hb good.hb2 hoo hopd ?hsq7; (case p1q7 => k_asm); (case p2q7 => k_asm); (case p3q7 => k_asm); (case p4q7 => exact Nt); (case p5q7 => k_asm); (case p6q7 => first | exact rfl | assumption); (case p7q7 => ktr_room); (case p8q7 => ktr_units))
        intro h2 tk2 u2 pp2 nl2 vs2 k2 cvs2 kc2 cvb2 kcb2 cnx F2 N2 I0 I1 I2 hl3 nd2
        (try dsimp only)
        have hd9 := good.hd9
        have hf9 := good.hf9
        have hcst := good.hc9
        have hbk3 := good.hbk
        clear N9 Nt nd ndt F9
        k_steps
        refine Stop.intro ?_
        have hcl3 : cnx.length = 3 := hl3
        have l'z9 := trivial; have h'z9 := trivial; have F'z9 := trivial; have N'z9 := trivial; have l1z9 := trivial
        rename_i D4 _ _ N4 lD4
        clear l'z9 h'z9 F'z9 N'z9 l1z9
        obtain ⟨q1, q2, L4, hL4, N5⟩ : ∃ (q1 q2 : Tok) (L4 : List Value), IntsAre L4 [4, 5, 6, 7, 4] ∧ News _ _ _ ((D4, listOf (List.toArray L4) 0) :: (W, instObj 476 dW) :: (dW, dictOf (WrkE w u2 G S zn cv sd sc pp2) 8) :: (S, instObj 425 dS) :: (dS, dictOf (StkE w t1 t2 tm nl2) 2) :: (nl2, listOf (List.toArray vs2) k2) :: (cv, listOf (List.toArray cvs2) kc2) :: (sd, σ.sto) :: (G, instObj 369 dG) :: (dG, dictOf (GrE w gv R) 18) :: (R, instObj 112 dR) :: (dR, dictOf (RndE w r1 r2 r3 r4 r5 r6) 3) :: (sc, tupObj [Value.int 3 q1, Value.int 2 q2]) :: (op, oo) :: (bk, σ.bo) :: (bc, listOf (List.toArray cvb2) kcb2) :: []) := ⟨_, _, _, .cons _ _ (.cons _ _ (.cons _ _ (.cons _ _ (.cons _ _ .nil)))), N4⟩
        clear N4
        have nd4 := nd_new nd2 rfl lD4
        clear lD4
        refine list_turns (Str.ofString "number") (Str.ofString "number") (Str.ofString "number") (JW3 w W dW S dS sd G dG R dR sc cv zn bc bk op nl2 D4 oo u2 pp2 t1 t2 tm r1 r2 r3 r4 r5 r6 q1 q2 gv cvs2 cvb2 L4 kc2 kcb2 σ) (by rfl) (by k_asm) N5 (by k_extra "u_mem_LW") rfl rfl (by rintro i nx ⟨us, k, rfl, _⟩; k_extra "u_mem_LW") ⟨_, _, rfl, I0⟩ ?_ ?_
        · rintro i v q v1 v2 nx h tk I iob hv ⟨us, k, rfl, hu⟩ hoff F9 N9
          obtain ⟨x, t, rfl, hx⟩ := ints_at hL4 hv
          have hn12 : (((List.take i ([4, 5, 6, 7, 4] : List Int)).length : Nat) : Int) < 12 := by rw [List.length_take, show ([4, 5, 6, 7, 4] : List Int).length = 5 from rfl]; omega
          have ndI := nd_off nd4 rfl hoff
          refine q_gen2 ?_; intro QQ hqq
          (try dsimp only)
          k_steps
          (with_reducible rename News _ _ _ _ => Nq); (with_reducible rename Fr _ _ _ _ => Fq)
          refine hqq _ _ ?_
          show LFin _ _ _ _ _ _ _ _ _ _ _
          exact LFin.mk _ Fq (by intro z z1 z2 z3; repeat (first | exact rfl | refine ite_skip (by assumption) ?_)) Nq (off_nd ndI rfl) ⟨_, _, rfl, by rw [take_snoc hx]; exact ints_app hu (.cons _ _ .nil)⟩
        · rintro q v1 v2 nx h tk ⟨us, k, rfl, hu⟩ F9 N9
          (try dsimp only)
          replace hu : IntsAre us [4, 5, 6, 7, 4] := by
            have := hu; rw [hL4.length] at this; exact this
          replace F9 := fr_num3 F9
          have Nt := news_tl N9
          clear N5 N9
          k_steps
          refine Stop.intro ?_
          have ndz : ND [W, dW, S, dS, nl2, cv, sd, G, dG, R, dR, sc, op, bk, bc] := nd2
          have hoff : OwnOff ((op, oo) :: (bk, σ.bo) :: (bc, listOf (List.toArray cvb2) kcb2) :: []) [nl2, dS, cv, sd] := off_ix ndz [12, 13, 14] [4, 3, 5, 6] (by decide) rfl rfl
          have apA : Apart W dW S dS nl2 cv sd := ⟨(ne_ix ndz 0 1 rfl rfl (by decide)), (ne_ix ndz 0 2 rfl rfl (by decide)), (ne_ix ndz 0 3 rfl rfl (by decide)), (ne_ix ndz 0 4 rfl rfl (by decide)), (ne_ix ndz 0 5 rfl rfl (by decide)), (ne_ix ndz 0 6 rfl rfl (by decide)), (ne_ix ndz 1 2 rfl rfl (by decide)), (ne_ix ndz 1 3 rfl rfl (by decide)), (ne_ix ndz 1 4 rfl rfl (by decide)), (ne_ix ndz 1 5 rfl rfl (by decide)), (ne_ix ndz 1 6 rfl rfl (by decide)), (ne_ix ndz 2 3 rfl rfl (by decide)), (ne_ix ndz 2 4 rfl rfl (by decide)), (ne_ix ndz 2 5 rfl rfl (by decide)), (ne_ix ndz 2 6 rfl rfl (by decide)), (ne_ix ndz 3 4 rfl rfl (by decide)), (ne_ix ndz 3 5 rfl rfl (by decide)), (ne_ix ndz 3 6 rfl rfl (by decide)), (ne_ix ndz 4 5 rfl rfl (by decide)), (ne_ix ndz 4 6 rfl rfl (by decide)), (ne_ix ndz 5 6 rfl rfl (by decide))⟩
          have apC : Apart2 nl2 cv sd dS G dG R dR sc := ⟨(ne_ix ndz 7 4 rfl rfl (by decide)), (ne_ix ndz 7 5 rfl rfl (by decide)), (ne_ix ndz 7 6 rfl rfl (by decide)), (ne_ix ndz 7 3 rfl rfl (by decide)), (ne_ix ndz 8 4 rfl rfl (by decide)), (ne_ix ndz 8 5 rfl rfl (by decide)), (ne_ix ndz 8 6 rfl rfl (by decide)), (ne_ix ndz 8 3 rfl rfl (by decide)), (ne_ix ndz 9 4 rfl rfl (by decide)), (ne_ix ndz 9 5 rfl rfl (by decide)), (ne_ix ndz 9 6 rfl rfl (by decide)), (ne_ix ndz 9 3 rfl rfl (by decide)), (ne_ix ndz 10 4 rfl rfl (by decide)), (ne_ix ndz 10 5 rfl rfl (by decide)), (ne_ix ndz 10 6 rfl rfl (by decide)), (ne_ix ndz 10 3 rfl rfl (by decide)), (ne_ix ndz 11 4 rfl rfl (by decide)), (ne_ix ndz 11 5 rfl rfl (by decide)), (ne_ix ndz 11 6 rfl rfl (by decide)), (ne_ix ndz 11 3 rfl rfl (by decide))⟩
          k_dflt (refine' heardF (rest := (bk, σ.bo) :: (bc, listOf (List.toArray cvb2) kcb2) :: []) ?s1q7 ?s2q7 ?s3q7 ?s4q7 ?s5q7 ?s6q7 ?s7q7 ?s8q7 MinG.self bok hoff (by unfold OpCode; decide) hoo (hopv 38 (by unfold OpCode; decide)) apA apC (fun e => by cases e) hu (by decide) (by decide) I1 hcl3 lo9 hd9 hf9 (by omega) ?htq7 ?hfq7; (case s1q7 => k_asm); (case s2q7 => k_asm); (case s3q7 => k_asm); (case s4q7 => exact Nt); (case s5q7 => k_asm); (case s6q7 => first | exact rfl | assumption); (case s7q7 => ktr_room); (case s8q7 => ktr_units))
          · intro nsx cny csx h' tk' nl' vs' k' cvs' kc' sto' kvs' e F' N' J1 J2 d' f' l'
            obtain ⟨rfl, rfl, rfl⟩ := op_inj law38 e
            have nd5 := law_nl nd2 l'
            have h4l : ((([5, 6, 7, 4] : List Int).length : Nat) : Int) < 12 := by decide
            clear l'
            (try dsimp only)
            k_steps
            refine Stop.intro ?_
            (with_reducible rename News _ _ _ _ => N7)
            have Nt := news_tl N7
            clear N7
            have ndz : ND [W, dW, S, dS, nl', cv, sd, G, dG, R, dR, sc, op, bk, bc] := nd5
            have hoff2 : OwnOff ((op, oo) :: (bk, σ.bo) :: (bc, listOf (List.toArray cvb2) kcb2) :: []) [nl', dS, cv, sd] := off_ix ndz [12, 13, 14] [4, 3, 5, 6] (by decide) rfl rfl
            have apA2 : Apart W dW S dS nl' cv sd := ⟨(ne_ix ndz 0 1 rfl rfl (by decide)), (ne_ix ndz 0 2 rfl rfl (by decide)), (ne_ix ndz 0 3 rfl rfl (by decide)), (ne_ix ndz 0 4 rfl rfl (by decide)), (ne_ix ndz 0 5 rfl rfl (by decide)), (ne_ix ndz 0 6 rfl rfl (by decide)), (ne_ix ndz 1 2 rfl rfl (by decide)), (ne_ix ndz 1 3 rfl rfl (by decide)), (ne_ix ndz 1 4 rfl rfl (by decide)), (ne_ix ndz 1 5 rfl rfl (by decide)), (ne_ix ndz 1 6 rfl rfl (by decide)), (ne_ix ndz 2 3 rfl rfl (by decide)), (ne_ix ndz 2 4 rfl rfl (by decide)), (ne_ix ndz 2 5 rfl rfl (by decide)), (ne_ix ndz 2 6 rfl rfl (by decide)), (ne_ix ndz 3 4 rfl rfl (by decide)), (ne_ix ndz 3 5 rfl rfl (by decide)), (ne_ix ndz 3 6 rfl rfl (by decide)), (ne_ix ndz 4 5 rfl rfl (by decide)), (ne_ix ndz 4 6 rfl rfl (by decide)), (ne_ix ndz 5 6 rfl rfl (by decide))⟩
            have apC2 : Apart2 nl' cv sd dS G dG R dR sc := ⟨(ne_ix ndz 7 4 rfl rfl (by decide)), (ne_ix ndz 7 5 rfl rfl (by decide)), (ne_ix ndz 7 6 rfl rfl (by decide)), (ne_ix ndz 7 3 rfl rfl (by decide)), (ne_ix ndz 8 4 rfl rfl (by decide)), (ne_ix ndz 8 5 rfl rfl (by decide)), (ne_ix ndz 8 6 rfl rfl (by decide)), (ne_ix ndz 8 3 rfl rfl (by decide)), (ne_ix ndz 9 4 rfl rfl (by decide)), (ne_ix ndz 9 5 rfl rfl (by decide)), (ne_ix ndz 9 6 rfl rfl (by decide)), (ne_ix ndz 9 3 rfl rfl (by decide)), (ne_ix ndz 10 4 rfl rfl (by decide)), (ne_ix ndz 10 5 rfl rfl (by decide)), (ne_ix ndz 10 6 rfl rfl (by decide)), (ne_ix ndz 10 3 rfl rfl (by decide)), (ne_ix ndz 11 4 rfl rfl (by decide)), (ne_ix ndz 11 5 rfl rfl (by decide)), (ne_ix ndz 11 6 rfl rfl (by decide)), (ne_ix ndz 11 3 rfl rfl (by decide))⟩
            k_dflt (refine' heardF (rest := (bk, σ.bo) :: (bc, listOf (List.toArray cvb2) kcb2) :: []) ?u1q7 ?u2q7 ?u3q7 ?u4q7 ?u5q7 ?u6q7 ?u7q7 ?u8q7 MinG.self bok hoff2 (by unfold OpCode; decide) hoo (hopv 68 (by unfold OpCode; decide)) apA2 apC2 (fun e => by cases e) (ints_app J1 (.cons (9 : Int) _ .nil)) (by decide) (by decide) J2 hcl3 lo9 d' f' (by omega) ?huq7 ?hvq7; (case u1q7 => k_asm); (case u2q7 => k_asm); (case u3q7 => k_asm); (case u4q7 => exact Nt); (case u5q7 => k_asm); (case u6q7 => first | exact rfl | assumption); (case u7q7 => ktr_room); (case u8q7 => ktr_units))
            · intro nsz cnz csz h6 tk6 nl6 vs6 k6 cvs6 kc6 sto6 kvs6 e6 F6 N6 K1 K2 d6 f6 l6
              rw [law68] at e6; cases e6
            · intro h6 tk6 g₀ e6 t0 F6 N6 B0
              have X0 := bok.x.keeps B0.stays
              have T0 := bok.t.keeps B0.stays
              (try dsimp only)
              k_steps
              (with_reducible rename Fr g₀ _ _ _ => F8)
              have F9 := same_fr t0 F8
              w_end
              (show GoodW _ _ _ _ _ (.ok (.ret (.bool _))) _)
              refine goodW_bool F9 hg (raisesW_false ?_) ?_
              · wrow_none_raised
              · with_unfolding_all rfl
          · intro h' tk' g₀ e t0 F' N' B0
            rw [law38] at e; cases e); ∀ d, defOf view (Str.ofString "law") = some (d, []) → WalkO view [Str.ofString "HintWork"] (XL view []) (InK lay.heap_1) PySem.Challenge.rw_on0247_01.row.toRowW d [] (fun f vs => PySem.call f vs)))
theorem top.tw10001883323181062329 : True := trivial
theorem top.tw10005945817407372193 : True := trivial
theorem top.tw1016984595167383106 : True := trivial
theorem top.tw10187264123177260123 : True := trivial
theorem top.tw10187724287525710026 : True := trivial
theorem top.tw10195997230039290492 : True := trivial
theorem top.tw10341860258655708415 : True := trivial
theorem top.tw10399464001100048223 : True := trivial
theorem top.tw10404823597219466188 : True := trivial
theorem top.tw1040915598704419856 : True := trivial
theorem top.tw104434173382791472 : True := trivial
theorem top.tw10448899703829047738 : True := trivial
theorem top.tw105208000716104510 : True := trivial
theorem top.tw10567129059001840431 : True := trivial
theorem top.tw10617020205504526918 : True := trivial
theorem top.tw10657950659306570408 : True := trivial
theorem top.tw10665585003947065092 : True := trivial
theorem top.tw1068965626710143233 : True := trivial
theorem top.tw10773188271377071773 : True := trivial
theorem top.tw10774637447528242797 : True := trivial
theorem top.tw10783980745131425670 : True := trivial
theorem top.tw10797620697341660853 : True := trivial
theorem top.tw10861960076438210015 : True := trivial
theorem top.tw10864713392326063847 : True := trivial
theorem top.tw1088946173253831356 : True := trivial
theorem top.tw10915162052029792233 : True := trivial
theorem top.tw10936122117785486979 : True := trivial
theorem top.tw10956490626425055710 : True := trivial
theorem top.tw10987319290404115282 : True := trivial
theorem top.tw10996937224433265937 : True := trivial
theorem top.tw1108800333578037850 : True := trivial
theorem top.tw11116745826364501430 : True := trivial
theorem top.tw11133666699803404755 : True := trivial
theorem top.tw11141966352661209427 : True := trivial
theorem top.tw11199532085631943738 : True := trivial
theorem top.tw11203750815551599093 : True := trivial
theorem top.tw11240886729373846589 : True := trivial
theorem top.tw1124271682379634556 : True := trivial
theorem top.tw11279390925490393535 : True := trivial
theorem top.tw11334203419191126389 : True := trivial
theorem top.tw11334350811105764591 : True := trivial
theorem top.tw11334415319851112604 : True := trivial
theorem top.tw1139600151236580504 : True := trivial
theorem top.tw11423202765487971197 : True := trivial
theorem top.tw1142415686869020238 : True := trivial
theorem top.tw11430207588045935325 : True := trivial
theorem top.tw11443710868159068359 : True := trivial
theorem top.tw11459358961799972967 : True := trivial
theorem top.tw11466170419677230873 : True := trivial
theorem top.tw1149218181149386328 : True := trivial
theorem top.tw11520865232209809239 : True := trivial
theorem top.tw11542710104232473196 : True := trivial
theorem top.tw11546936639936008217 : True := trivial
theorem top.tw11582926029173025856 : True := trivial
theorem top.tw11613256710310857696 : True := trivial
theorem top.tw11628880297764322445 : True := trivial
theorem top.tw11760055953109336660 : True := trivial
theorem top.tw11762496359356365647 : True := trivial
theorem top.tw11809222419101719397 : True := trivial
theorem top.tw11845233108574324481 : True := trivial
theorem top.tw11858546649754279707 : True := trivial
theorem top.tw11922380849998532372 : True := trivial
theorem top.tw1195175773429642966 : True := trivial
theorem top.tw11953251759806468079 : True := trivial
theorem top.tw11960245374511038805 : True := trivial
theorem top.tw11994683656316670133 : True := trivial
theorem top.tw12012865196380796599 : True := trivial
theorem top.tw12080426169559351053 : True := trivial
theorem top.tw12094960947251128927 : True := trivial
theorem top.tw12105128591322288922 : True := trivial
theorem top.tw12256363837256957063 : True := trivial
theorem top.tw12317137736924338119 : True := trivial
theorem top.tw12318557346453588183 : True := trivial
theorem top.tw12342655685612074800 : True := trivial
theorem top.tw12376051458212225564 : True := trivial
theorem top.tw12385144161495827662 : True := trivial
theorem top.tw12392516345856041104 : True := trivial
theorem top.tw12415523145999629524 : True := trivial
theorem top.tw12427389293880184781 : True := trivial
theorem top.tw1245559373397905713 : True := trivial
theorem top.tw12535971307161669396 : True := trivial
theorem top.tw12540527436937284434 : True := trivial
theorem top.tw12545222027267286695 : True := trivial
theorem top.tw12622177474791663080 : True := trivial
theorem top.tw12643491718579748851 : True := trivial
theorem top.tw12718909917080609646 : True := trivial
theorem top.tw1275901062530889299 : True := trivial
theorem top.tw12764151676501842404 : True := trivial
theorem top.tw12819366960792805191 : True := trivial
theorem top.tw1284575025550258836 : True := trivial
theorem top.tw1291508964198565346 : True := trivial
theorem top.tw1294077662247117797 : True := trivial
theorem top.tw12958502747184954254 : True := trivial
theorem top.tw12958664272152378060 : True := trivial
theorem top.tw13001836021917841797 : True := trivial
theorem top.tw13012589842206080548 : True := trivial
theorem top.tw13068111086705522682 : True := trivial
theorem top.tw13091174067606910046 : True := trivial
theorem top.tw13120753694373217308 : True := trivial
theorem top.tw13134186033006778460 : True := trivial
theorem top.tw13160728816969591200 : True := trivial
theorem top.tw13177472732611162249 : True := trivial
theorem top.tw1321871150748368714 : True := trivial
theorem top.tw13223034962123697568 : True := trivial
theorem top.tw13264354339760550358 : True := trivial
theorem top.tw13272337422414781067 : True := trivial
theorem top.tw13290321428070320777 : True := trivial
theorem top.tw13303987763403120937 : True := trivial
theorem top.tw13307591127769906961 : True := trivial
theorem top.tw13326734554550294991 : True := trivial
theorem top.tw13345470168829271861 : True := trivial
theorem top.tw13369591340354186047 : True := trivial
theorem top.tw13370750898655102155 : True := trivial
theorem top.tw13420762306968818387 : True := trivial
theorem top.tw13501252493785611398 : True := trivial
theorem top.tw13698093540088096225 : True := trivial
theorem top.tw13706816188851595723 : True := trivial
theorem top.tw13710211086531791108 : True := trivial
theorem top.tw13799840507378627052 : True := trivial
theorem top.tw13822267516522204269 : True := trivial
theorem top.tw13889309363888878346 : True := trivial
theorem top.tw13889484949932952446 : True := trivial
theorem top.tw13896958669275611876 : True := trivial
theorem top.tw13941562825188073611 : True := trivial
theorem top.tw13968125046926948103 : True := trivial
theorem top.tw13983857475226248213 : True := trivial
theorem top.tw13994475860397038760 : True := trivial
theorem top.tw1400011881503588481 : True := trivial
theorem top.tw14168018189251442112 : True := trivial
theorem top.tw14282377253939248939 : True := trivial
theorem top.tw1430007082597545163 : True := trivial
theorem top.tw14349089067433371257 : True := trivial
theorem top.tw14371913498598963198 : True := trivial
theorem top.tw14372152842798730730 : True := trivial
theorem top.tw14390669486469195807 : True := trivial
theorem top.tw14399976873020721970 : True := trivial
theorem top.tw14402358008270493973 : True := trivial
theorem top.tw14453841093610474573 : True := trivial
theorem top.tw14459580976405569124 : True := trivial
theorem top.tw14502225709538309166 : True := trivial
theorem top.tw14537839394382259888 : True := trivial
theorem top.tw14608685727046917156 : True := trivial
theorem top.tw14632489290957082403 : True := trivial
theorem top.tw14657780768301432306 : True := trivial
theorem top.tw146815374380898660 : True := trivial
theorem top.tw14724332232928298890 : True := trivial
theorem top.tw14747140909534839006 : True := trivial
theorem top.tw14789260269991461300 : True := trivial
theorem top.tw14823308797102314842 : True := trivial
theorem top.tw14826035006057030972 : True := trivial
theorem top.tw1483126911874232274 : True := trivial
theorem top.tw14861896470697024400 : True := trivial
theorem top.tw14901070454687303710 : True := trivial
theorem top.tw14917401599646851644 : True := trivial
theorem top.tw1492452104121835379 : True := trivial
theorem top.tw14987219478266130788 : True := trivial
theorem top.tw15058813355848621054 : True := trivial
theorem top.tw15092371282622821202 : True := trivial
theorem top.tw15095372191486117680 : True := trivial
theorem top.tw1516213087968936877 : True := trivial
theorem top.tw15169761463676818070 : True := trivial
theorem top.tw15177526630643400193 : True := trivial
theorem top.tw15188630647176887538 : True := trivial
theorem top.tw15254643099363442306 : True := trivial
theorem top.tw15286249088069653756 : True := trivial
theorem top.tw15299407806266782574 : True := trivial
theorem top.tw15361541807878343388 : True := trivial
theorem top.tw15362295582089109014 : True := trivial
theorem top.tw15503665604740900718 : True := trivial
theorem top.tw15569959144833144457 : True := trivial
theorem top.tw15646934709686841381 : True := trivial
theorem top.tw15722756333993289495 : True := trivial
theorem top.tw1585457916280141200 : True := trivial
theorem top.tw15860264024139754761 : True := trivial
theorem top.tw15877122091014420850 : True := trivial
theorem top.tw15976228082101565994 : True := trivial
theorem top.tw15985961358823992270 : True := trivial
theorem top.tw16004416686337608138 : True := trivial
theorem top.tw1601500998369573665 : True := trivial
theorem top.tw16044733080236030384 : True := trivial
theorem top.tw16054190913257422852 : True := trivial
theorem top.tw16058212318047004132 : True := trivial
theorem top.tw16104615914030681952 : True := trivial
theorem top.tw16123964013534891561 : True := trivial
theorem top.tw16155163154822807229 : True := trivial
theorem top.tw1617357707322924660 : True := trivial
theorem top.tw16174758807025615021 : True := trivial
theorem top.tw16196420915677631385 : True := trivial
theorem top.tw16273406610938067001 : True := trivial
theorem top.tw16325430554902658873 : True := trivial
theorem top.tw16352630495959832749 : True := trivial
theorem top.tw1638113669730673903 : True := trivial
theorem top.tw16415559393655328363 : True := trivial
theorem top.tw16439428074185983240 : True := trivial
theorem top.tw16453443671601555132 : True := trivial
theorem top.tw16541100652227675460 : True := trivial
theorem top.tw16550210197400561554 : True := trivial
theorem top.tw1655259298481077034 : True := trivial
theorem top.tw16580785732701462914 : True := trivial
theorem top.tw16597617366809209970 : True := trivial
theorem top.tw16713831800681072344 : True := trivial
theorem top.tw16719718919923625709 : True := trivial
theorem top.tw16759092144687519636 : True := trivial
theorem top.tw1676862907878916244 : True := trivial
theorem top.tw16795567611416646642 : True := trivial
theorem top.tw16800595933775061595 : True := trivial
theorem top.tw16885616592811714743 : True := trivial
theorem top.tw16900427199656544559 : True := trivial
theorem top.tw1697544655201012999 : True := trivial
theorem top.tw1706793611546318481 : True := trivial
theorem top.tw17089494485692210459 : True := trivial
theorem top.tw17103177528636943170 : True := trivial
theorem top.tw17177869089781658578 : True := trivial
theorem top.tw17315540178315561739 : True := trivial
theorem top.tw1732150942055357024 : True := trivial
theorem top.tw17323899518341599180 : True := trivial
theorem top.tw17355269125676882429 : True := trivial
theorem top.tw1736530178072539846 : True := trivial
theorem top.tw17428532607074087071 : True := trivial
theorem top.tw17469865338272021226 : True := trivial
theorem top.tw17470836177267949868 : True := trivial
theorem top.tw17486766287000646611 : True := trivial
theorem top.tw17492772389151264855 : True := trivial
theorem top.tw17542608870123051758 : True := trivial
theorem top.tw17555251805378815213 : True := trivial
theorem top.tw17565814175750979855 : True := trivial
theorem top.tw17620759639134147866 : True := trivial
theorem top.tw17781115878593249900 : True := trivial
theorem top.tw17795014544551873601 : True := trivial
theorem top.tw17810072253543177317 : True := trivial
theorem top.tw17886615442053742456 : True := trivial
theorem top.tw17953984050398360512 : True := trivial
theorem top.tw18008055252877512497 : True := trivial
theorem top.tw18034075008235765660 : True := trivial
theorem top.tw18055947686247443638 : True := trivial
theorem top.tw18064794426631996164 : True := trivial
theorem top.tw18085771088847121727 : True := trivial
theorem top.tw18086089286151905521 : True := trivial
theorem top.tw18164388396756303480 : True := trivial
theorem top.tw18186074749648716422 : True := trivial
theorem top.tw18237780215024852062 : True := trivial
theorem top.tw18245740138792012028 : True := trivial
theorem top.tw18289109515434150305 : True := trivial
theorem top.tw18315585893207836101 : True := trivial
theorem top.tw1833847959688406909 : True := trivial
theorem top.tw18367679650794681301 : True := trivial
theorem top.tw18371284783138465269 : True := trivial
theorem top.tw1843344800811705456 : True := trivial
theorem top.tw1869187583165140508 : True := trivial
theorem top.tw196536941598035525 : True := trivial
theorem top.tw1971433849790844608 : True := trivial
theorem top.tw1988063486488863061 : True := trivial
theorem top.tw2145171640123136144 : True := trivial
theorem top.tw2220570432770164149 : True := trivial
theorem top.tw2249405535684624136 : True := trivial
theorem top.tw2369445192022557226 : True := trivial
theorem top.tw2377541652452675900 : True := trivial
theorem top.tw2405475915293451298 : True := trivial
theorem top.tw2417791160451022400 : True := trivial
theorem top.tw243287103678006315 : True := trivial
theorem top.tw2443449257678562572 : True := trivial
theorem top.tw2462062305354472974 : True := trivial
theorem top.tw2464713573024523455 : True := trivial
theorem top.tw2506305409684761478 : True := trivial
theorem top.tw2514443458684651071 : True := trivial
theorem top.tw2543606523685570607 : True := trivial
theorem top.tw2544169868661182894 : True := trivial
theorem top.tw2555065506035805374 : True := trivial
theorem top.tw2581206410525282061 : True := trivial
theorem top.tw2617719716777270872 : True := trivial
theorem top.tw2665807947273092163 : True := trivial
theorem top.tw2683898200743741643 : True := trivial
theorem top.tw2686433634493928565 : True := trivial
theorem top.tw2722852734226103192 : True := trivial
theorem top.tw2727672472851901052 : True := trivial
theorem top.tw2731995056826638727 : True := trivial
theorem top.tw2732273902793177162 : True := trivial
theorem top.tw2758071753971750899 : True := trivial
theorem top.tw2782073688633401757 : True := trivial
theorem top.tw2792943032503483283 : True := trivial
theorem top.tw2812155379371279736 : True := trivial
theorem top.tw2822501910515967889 : True := trivial
theorem top.tw283044589724301 : True := trivial
theorem top.tw2835187731363253809 : True := trivial
theorem top.tw2847958352784047137 : True := trivial
theorem top.tw2867133514656366558 : True := trivial
theorem top.tw2878843996050045342 : True := trivial
theorem top.tw2907113945770861938 : True := trivial
theorem top.tw2924597203103170677 : True := trivial
theorem top.tw297971269722091814 : True := trivial
theorem top.tw2985252069258134486 : True := trivial
theorem top.tw2988451766255067171 : True := trivial
theorem top.tw3002795768020413707 : True := trivial
theorem top.tw3176535264509419967 : True := trivial
theorem top.tw3195522803047326042 : True := trivial
theorem top.tw3207569582813703071 : True := trivial
theorem top.tw3217022616335106338 : True := trivial
theorem top.tw3254097082911018636 : True := trivial
theorem top.tw3261557481417251176 : True := trivial
theorem top.tw3315250197877816394 : True := trivial
theorem top.tw3337584539547039419 : True := trivial
theorem top.tw3378803678994701225 : True := trivial
theorem top.tw339143206060000330 : True := trivial
theorem top.tw3422688185749166683 : True := trivial
theorem top.tw3474246075231452896 : True := trivial
theorem top.tw352232786441526191 : True := trivial
theorem top.tw3584897518013459382 : True := trivial
theorem top.tw3669314199184481253 : True := trivial
theorem top.tw3696473221133414273 : True := trivial
theorem top.tw370947364307004932 : True := trivial
theorem top.tw3712731000106771831 : True := trivial
theorem top.tw3739144386018749749 : True := trivial
theorem top.tw3767615275625035234 : True := trivial
theorem top.tw3796891538752321733 : True := trivial
theorem top.tw3855276242980373810 : True := trivial
theorem top.tw3871027444623705763 : True := trivial
theorem top.tw3969286963782609292 : True := trivial
theorem top.tw3995942328266245912 : True := trivial
theorem top.tw4047667213573674445 : True := trivial
theorem top.tw4058662728301269685 : True := trivial
theorem top.tw4134505453457115739 : True := trivial
theorem top.tw4159251561096739476 : True := trivial
theorem top.tw4166218997396506358 : True := trivial
theorem top.tw4177254973167742082 : True := trivial
theorem top.tw4186445540838780016 : True := trivial
theorem top.tw4205137553216949640 : True := trivial
theorem top.tw4213018616267185653 : True := trivial
theorem top.tw427269002284569659 : True := trivial
theorem top.tw427420600052151026 : True := trivial
theorem top.tw4299629679881509495 : True := trivial
theorem top.tw4321519831107876412 : True := trivial
theorem top.tw4383139521930768336 : True := trivial
theorem top.tw4392038535549328194 : True := trivial
theorem top.tw4498253355057717688 : True := trivial
theorem top.tw4526881389914513428 : True := trivial
theorem top.tw453181688931711583 : True := trivial
theorem top.tw4551080515912023512 : True := trivial
theorem top.tw4555866861457887817 : True := trivial
theorem top.tw4571971715460732019 : True := trivial
theorem top.tw4655869559712951663 : True := trivial
theorem top.tw4656485037274611717 : True := trivial
theorem top.tw47109162367338493 : True := trivial
theorem top.tw4736427724481360342 : True := trivial
theorem top.tw4770345731304789017 : True := trivial
theorem top.tw4801916741778618903 : True := trivial
theorem top.tw4828031223510198475 : True := trivial
theorem top.tw4835499133494076262 : True := trivial
theorem top.tw4840481374290595910 : True := trivial
theorem top.tw4859757453598101857 : True := trivial
theorem top.tw4916261283513009128 : True := trivial
theorem top.tw4940147422707163885 : True := trivial
theorem top.tw4997509813036325311 : True := trivial
theorem top.tw501154541418245514 : True := trivial
theorem top.tw5058314954733539658 : True := trivial
theorem top.tw5118827330378232414 : True := trivial
theorem top.tw5155950481276406077 : True := trivial
theorem top.tw5244899138074338376 : True := trivial
theorem top.tw5245862010334584759 : True := trivial
theorem top.tw5303079699428457377 : True := trivial
theorem top.tw53344730913325255 : True := trivial
theorem top.tw5398424786039705171 : True := trivial
theorem top.tw543904627247523499 : True := trivial
theorem top.tw5476889619067714990 : True := trivial
theorem top.tw5523086135645875356 : True := trivial
theorem top.tw5581607755468803823 : True := trivial
theorem top.tw5597187220613765494 : True := trivial
theorem top.tw5609151216138764652 : True := trivial
theorem top.tw5667650583090716360 : True := trivial
theorem top.tw575894324575664597 : True := trivial
theorem top.tw5766051744304087583 : True := trivial
theorem top.tw5839659824258004927 : True := trivial
theorem top.tw5860347150701562758 : True := trivial
theorem top.tw5868845118606482295 : True := trivial
theorem top.tw5889316905344633881 : True := trivial
theorem top.tw5915399644114372684 : True := trivial
theorem top.tw5938664839603501006 : True := trivial
theorem top.tw5969682004907312646 : True := trivial
theorem top.tw5983031951866500094 : True := trivial
theorem top.tw6042063481754889096 : True := trivial
theorem top.tw6124053682588569230 : True := trivial
theorem top.tw6127594578889010139 : True := trivial
theorem top.tw6176384092110617959 : True := trivial
theorem top.tw6189502492464219833 : True := trivial
theorem top.tw6196800358849779857 : True := trivial
theorem top.tw620129878449983639 : True := trivial
theorem top.tw6211089042160764376 : True := trivial
theorem top.tw6240723676877644813 : True := trivial
theorem top.tw6265701101103706036 : True := trivial
theorem top.tw6286779285267259847 : True := trivial
theorem top.tw6292954644110606532 : True := trivial
theorem top.tw64160974332178212 : True := trivial
theorem top.tw6430265229019958763 : True := trivial
theorem top.tw6431110157172167083 : True := trivial
theorem top.tw6438537300738474071 : True := trivial
theorem top.tw6487610083215253720 : True := trivial
theorem top.tw6491118196486620199 : True := trivial
theorem top.tw6505410396798821541 : True := trivial
theorem top.tw6520327441239513222 : True := trivial
theorem top.tw6572447435987645144 : True := trivial
theorem top.tw6624316729101989866 : True := trivial
theorem top.tw6662652255960138227 : True := trivial
theorem top.tw6664487174759623829 : True := trivial
theorem top.tw6674990990233134667 : True := trivial
theorem top.tw6694047246710070196 : True := trivial
theorem top.tw672699306608606093 : True := trivial
theorem top.tw6756868429301003459 : True := trivial
theorem top.tw6761616313442571491 : True := trivial
theorem top.tw6770250462446803022 : True := trivial
theorem top.tw6812286434817487243 : True := trivial
theorem top.tw681777741448182936 : True := trivial
theorem top.tw6859976401760118174 : True := trivial
theorem top.tw6883741973766446791 : True := trivial
theorem top.tw6898770573198911631 : True := trivial
theorem top.tw6906291655842520137 : True := trivial
theorem top.tw6930518751129746686 : True := trivial
theorem top.tw6973401727384321114 : True := trivial
theorem top.tw7008692893051332821 : True := trivial
theorem top.tw705360758644809490 : True := trivial
theorem top.tw708234853630380328 : True := trivial
theorem top.tw7198060816514059695 : True := trivial
theorem top.tw7204493036743257322 : True := trivial
theorem top.tw72247145696351765 : True := trivial
theorem top.tw7250933059871147345 : True := trivial
theorem top.tw728428047077509346 : True := trivial
theorem top.tw7297446738713254254 : True := trivial
theorem top.tw7381879191629600215 : True := trivial
theorem top.tw7386116660499605909 : True := trivial
theorem top.tw7414872774492366064 : True := trivial
theorem top.tw7429413206186439793 : True := trivial
theorem top.tw7444641836354208208 : True := trivial
theorem top.tw7458633546980236471 : True := trivial
theorem top.tw7527032243904285869 : True := trivial
theorem top.tw7600245330811189008 : True := trivial
theorem top.tw76412952228603488 : True := trivial
theorem top.tw7671549972530922468 : True := trivial
theorem top.tw7673058066778466091 : True := trivial
theorem top.tw7681529838311687354 : True := trivial
theorem top.tw7715697345341360870 : True := trivial
theorem top.tw7743179893348639699 : True := trivial
theorem top.tw775762912060472103 : True := trivial
theorem top.tw7830913209206220567 : True := trivial
theorem top.tw7847352863974893604 : True := trivial
theorem top.tw7847650389618582240 : True := trivial
theorem top.tw795583310449317561 : True := trivial
theorem top.tw7990429038631628895 : True := trivial
theorem top.tw8043003576528973991 : True := trivial
theorem top.tw8107780213005350392 : True := trivial
theorem top.tw8139039716903228087 : True := trivial
theorem top.tw8140125068956082859 : True := trivial
theorem top.tw814325599930780420 : True := trivial
theorem top.tw8143265674769528471 : True := trivial
theorem top.tw8148004212497801138 : True := trivial
theorem top.tw81815255157605957 : True := trivial
theorem top.tw8184561461823581802 : True := trivial
theorem top.tw8204474986945543665 : True := trivial
theorem top.tw8237333600419904120 : True := trivial
theorem top.tw8265191368974092141 : True := trivial
theorem top.tw8265311939077410998 : True := trivial
theorem top.tw8281120267493503204 : True := trivial
theorem top.tw8311017846404947139 : True := trivial
theorem top.tw8321918168302905379 : True := trivial
theorem top.tw8345894832289464959 : True := trivial
theorem top.tw8363718466572441477 : True := trivial
theorem top.tw8410488445778877200 : True := trivial
theorem top.tw84136930442132756 : True := trivial
theorem top.tw8435561252592420358 : True := trivial
theorem top.tw8443935842833279946 : True := trivial
theorem top.tw8472579005086612782 : True := trivial
theorem top.tw8507776931139520737 : True := trivial
theorem top.tw8523463495250067690 : True := trivial
theorem top.tw8531415777343470585 : True := trivial
theorem top.tw8538268897159353584 : True := trivial
theorem top.tw8560541052185303311 : True := trivial
theorem top.tw860223938195835975 : True := trivial
theorem top.tw8622502720953521162 : True := trivial
theorem top.tw8640399195822439974 : True := trivial
theorem top.tw8645369167282567922 : True := trivial
theorem top.tw864819663365544661 : True := trivial
theorem top.tw8657480035899644758 : True := trivial
theorem top.tw8679839319945467846 : True := trivial
theorem top.tw8686120805559085162 : True := trivial
theorem top.tw8689318265317240412 : True := trivial
theorem top.tw8694864300669457046 : True := trivial
theorem top.tw8729362747519067210 : True := trivial
theorem top.tw8735323631387419056 : True := trivial
theorem top.tw8813761850579938390 : True := trivial
theorem top.tw8874702517807110003 : True := trivial
theorem top.tw8892184565913893157 : True := trivial
theorem top.tw8973803690348224638 : True := trivial
theorem top.tw9059672392935016618 : True := trivial
theorem top.tw9059832203979395877 : True := trivial
theorem top.tw9063741608606530840 : True := trivial
theorem top.tw908825868028484722 : True := trivial
theorem top.tw9165953624949470791 : True := trivial
theorem top.tw9166809390415177425 : True := trivial
theorem top.tw9178861053002065721 : True := trivial
theorem top.tw9227057690007400460 : True := trivial
theorem top.tw9227541089923242437 : True := trivial
theorem top.tw9229161468869434483 : True := trivial
theorem top.tw9233335307524088747 : True := trivial
theorem top.tw9250929264650014679 : True := trivial
theorem top.tw9272544492142499777 : True := trivial
theorem top.tw9305691244287143441 : True := trivial
theorem top.tw9361663168868926718 : True := trivial
theorem top.tw9366391650621772374 : True := trivial
theorem top.tw9378254376102152143 : True := trivial
theorem top.tw9382581127745807760 : True := trivial
theorem top.tw9442318146202087700 : True := trivial
theorem top.tw9503340733035011235 : True := trivial
theorem top.tw956942650209027819 : True := trivial
theorem top.tw9589608677651300831 : True := trivial
theorem top.tw9601329371697537090 : True := trivial
theorem top.tw9614876229902214918 : True := trivial
theorem top.tw9631074621892390191 : True := trivial
theorem top.tw9739860059890490050 : True := trivial
theorem top.tw9743097575036673082 : True := trivial
theorem top.tw9759319705405543751 : True := trivial
theorem top.tw9768079942903668216 : True := trivial
theorem top.tw9800703332001039478 : True := trivial
theorem top.tw9851269098105209369 : True := trivial
theorem top.tw987869383939708018 : True := trivial
theorem top.tw9951221954081769418 : True := trivial
theorem top.tw9953747333497923681 : True := trivial
theorem top.tw9961057766049560675 : True := trivial
theorem top.tw9962302188120564619 : True := trivial
set_option Elab.async true in
theorem top : PySem.Challenge.rw_on0247_01.Holds := by
  w_on; o_law; k_head
  case hw => w_witness2
  exact walk _ (by with_unfolding_all rfl)
end Mine
theorem PySem.Challenge.cw_on0247_01_holds : PySem.Challenge.rw_on0247_01.Holds :=
  Mine.top
