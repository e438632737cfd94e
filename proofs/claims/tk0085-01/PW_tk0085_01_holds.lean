import PyProof.Rows.All
import Wide.All
import OpenK.AllK
import Wide.FinOn
import Lean
import PySem.Challenge.RW_tk0085_01
set_option Elab.async false
set_option rowWalk.seconds 6000
set_option linter.all false

namespace Mine
local macro_rules | `(tactic| walk_at $s:str) => `(tactic| k_extra $(Lean.Syntax.mkStrLit ("own " ++ s.getString)))
local macro_rules | `(tactic| k_in) => `(tactic| k_extra "own in")

section
open PySem PySem.W PyProof.Rows
set_option maxRecDepth 100000 in
set_option maxHeartbeats 8000000 in
open_top hd for PySem.Challenge.rw_tk0085_01

end

section
open PySem PySem.W PyProof.Rows PySem.Calls
open Builtin Builtin.ObjectAttr

/-- an exception object of the text's own class -/
abbrev excO (C : Addr) (dd : Option Addr) (t : Addr) : Obj := { cls := .ref C, dict := dd, data := .fields #[.ref t, .none, .none, .none, .bool false, .none] }
abbrev bmE : List Value := [.type "Exception", .type "BaseException", .type "object"]

section
variable {prog : Program} {w : World} {A : Around} {E : Value → Shared → Prop} {h : Heap} {g : Array GenState} {d : Drawn} {t : Nat} {os : OsState}
variable {nm q : Str} {C N : Addr} {bs : List Value} {sn : List Str} {sub : List Value} {ab : Bool} {col : Option Bool} {dd : Option Addr} {k0 k1 k2 k3 k5 : Option Value} {mN : Str → Option Value}

/-- an own exception class whose own def is its init: called -/
theorem call_excD {rest : List Value} {fI : Addr} {oI : Obj} {Q : Value → Shared → Prop}
    (hC : h.get? C = some (excClassObj nm q C N bs bmE true sn sub ab col dd k0 k1 k2 k3 k5 "Exception.__new__")) (hn : h.Ns N mN) (hi : mN "__init__" = some (.ref fI))
    (hfI : h.get? fI = some oI) (hfc : oI.cls = .type "function")
    (hq : wpAny (model prog w) (A.under (.builtin "type.__call__" ⟨.ref C :: rest, []⟩)) (call (.ref fI) (.ref (h.objs.size + 1) :: rest)) (fun r s' => r = .none ∧ Q (.ref (h.objs.size + 1)) s') E
      ⟨(h.push { cls := .type "tuple", data := .seq rest.toArray }).push (excO C none h.objs.size), g, d, t, os⟩) (hrest : rest.length ≤ sizeLine) :
    wpAny (model prog w) A (call (.ref C) rest) Q E ⟨h, g, d, t, os⟩ := by
  have Fn := PySem.F.excBase_Exception
  have f1 := tc_lookup
  have f2 := tc_bind (.ref C)
  have hT : (⟨h, g, d, t, os⟩ : Shared).TypeIs (.ref C) "type" := ⟨_, hC, rfl⟩
  refine wpAny_call (codeAny_of_tree ?_)
  show wpAny _ _ (callAny (.ref C) _) _ _ _
  repeat (any_goals (first | assumption | with_reducible refine wpAny_loadPart_at hC ?_ | wp_step))
  refine ⟨rfl, ?_⟩
  refine codeAny_call_builtin_at (Code.quiet_builtin _ (by decide +kernel)) entry_typeCall (wpAny_check_type_call_sub hC ?_)
  repeat (first | with_reducible refine wpAny_loadPart_at hC ?_ | with_reducible refine wpAny_madeBy_exc hC ?_ | wp_step)
  refine codeAny_call_builtin_code (Code.quiet_builtin _ Fn.quiet) (wpAny_check_new_subU Fn (by decide +kernel) .base hC ?_)
  refine codeAny_exc_new_subU Fn (by decide +kernel) Fn .base hC ?_ hrest
  show wpAny _ _ _ _ _ _
  have up : ∀ b o, h.get? b = some o → ((h.push { cls := .type "tuple", data := .seq rest.toArray }).push (excO C none h.objs.size)).get? b = some o := fun b o e => Heap.get?_push_of_some _ (Heap.get?_push_of_some _ e)
  have hC₁ := up _ _ hC
  have hfI₁ := up _ _ hfI
  have hn₁ := hn.keeps up
  have hget : ((h.push { cls := .type "tuple", data := .seq rest.toArray }).push (excO C none h.objs.size)).get? (h.objs.size + 1) = some (excO C none h.objs.size) := by heap_get
  have hcC : (Value.ref C :: bmE).contains (.ref C) = true := by simp
  show wpAny _ _ _ _ _ ⟨(h.push { cls := .type "tuple", data := .seq rest.toArray }).push (excO C none h.objs.size), g, d, t, os⟩
  unfold isInstance
  repeat (first | with_reducible refine wpAny_loadPart_at hget ?_ | (show wpAny _ _ (isSubtype (.ref C) (.ref C)) _ _ _; with_reducible refine wpAny_isSubtype_exc hC₁ ?_; rw [hcC]) | wp_step)
  show wpAny _ _ (typeLookup (.ref C) _) _ _ _
  refine wpAny_typeLookup_exc hC₁ hn₁ Fn.mroIs Fn.init.lookup ?_
  rw [hi]
  refine wpAny_holding (wpAny_bind ?_)
  unfold bindSpecial
  refine wpAny_bind (wpAny_typeOf (T := "function") ⟨_, hfI₁, hfc⟩ ?_)
  rw [if_pos (by decide)]
  refine wpAny_pure (wpAny_bind (wpAny_mono hq (fun r s' hr => ?_) fun _ _ x => x))
  obtain ⟨rfl, hQ⟩ := hr
  wp_walk
  exact hQ

/-- Exception.__init__ on such an object -/
theorem init_exc {e tu : Addr} {rest : List Value} {dx : Option Addr} {Q : Value → Shared → Prop}
    (hC : h.get? C = some (excClassObj nm q C N bs bmE true sn sub ab col dd k0 k1 k2 k3 k5 "Exception.__new__")) (he : h.get? e = some (excO C dx tu)) (hrest : rest.length ≤ sizeLine)
    (hq : ∀ h' t', h'.get? e = some (excO C dx t') → (∀ b o, b ≠ e → h.get? b = some o → h'.get? b = some o) → Q .none ⟨h', g, d, t, os⟩) :
    wpAny (model prog w) A (call (.builtin "Exception.__init__") (.ref e :: rest)) Q E ⟨h, g, d, t, os⟩ := by
  have Fn := PySem.F.excBase_Exception
  refine wpAny_call (codeAny_call_builtin Fn.init.plain Fn.initEntry (wpAny_check_init_subU Fn (.base (h := h)) hC he rfl ?_))
  wp_walk
  refine hq _ h.objs.size ?_ fun b o hb hk => ?_
  · rw [Heap.get?_update_self _ (Heap.get?_push_of_some _ he) rfl]
    rfl
  · rw [Heap.get?_update_other _ _ (Ne.symm hb)]
    exact Heap.get?_push_of_some _ hk

theorem store1_entry {sa owner : String} {e : Addr} {o : Obj} {name : Str} {v : Value} {tk : Tok} {Q : Fin → Shared → Prop} (SF : StoreFacts "Exception" bmE sa owner)
    (hC : h.get? C = some (excClassObj nm q C N bs bmE true sn sub ab col dd k0 k1 k2 k3 k5 "Exception.__new__")) (hn : h.Ns N mN) (hna : mN name = none)
    (hB : typeLookup (.type "Exception") name = pure none) (hx : h.get? e = some o) (hc : o.cls = .ref C) (hdn : o.dict = none) (hnc : ∀ c, o.data ≠ .cls c) (hfr : o.isFreed = false)
    (hq : ∀ h' dx tk', h'.get? e = some ⟨o.cls, some dx, o.data, o.slots⟩ → h'.Ns1 dx (fun y => if y = name then some v else none) → h.get? dx = none → h.objs.size ≤ dx → dx ≠ e → (∀ b o, b ≠ e → h.get? b = some o → h'.get? b = some o) → Q (.done (.ret .none)) ⟨h', g, d, tk', os⟩) :
    wpAny (model prog w) A (Builtin.«object.__setattr__» ⟨[.ref e, .str name tk, v], []⟩) Q E ⟨h, g, d, t, os⟩ := by
  have hpass := SF.passes (.ref e)
  unfold Builtin.«object.__setattr__»
  repeat (first | rw [refuse_eq] | (rw [refuseLoop_ref, hpass]) | (with_reducible refine wpAny_loadPart_at hx ?_; rw [hc]) | with_reducible refine wpAny_mroOf_exc hC ?_ | (with_reducible refine wpAny_typeLookup_exc hC hn SF.mro hB ?_; rw [hna]) | wp_step)
  have hex : e ≠ h.objs.size := Nat.ne_of_lt (Heap.lt_size hx)
  have hx₁ : (h.push { cls := .type "dict", data := .dict #[] }).get? e = some o := Heap.get?_push_of_some _ hx
  have hgd : ((h.push { cls := .type "dict", data := .dict #[] }).update e fun o => { cls := o.cls, dict := some h.objs.size, data := o.data, slots := o.slots }).get? h.objs.size
      = some { cls := .type "dict", data := .dict #[] } :=
    (Heap.get?_update_ne _ _ _ _ hex.symm).trans (Heap.get?_push_at rfl rfl)
  have hnd : ((h.push { cls := .type "dict", data := .dict #[] }).update e fun o => { cls := o.cls, dict := some h.objs.size, data := o.data, slots := o.slots }).Ns h.objs.size (fun _ => none) :=
    ⟨_, #[], _, hgd, rfl, fun e he => absurd he (by simp), fun _ => rfl⟩
  rw [hdn, if_neg (by simp [typeHasDict])]
  split
  · rename_i hcd
    cases hcd
  split
  · rename_i c hcd
    exact absurd hcd (hnc c)
  refine wpAny_bind (wpAny_alloc' ?_)
  refine wpAny_bind (wpAny_update' hx₁ ?_)
  refine wpAny_pure ?_
  show wpAny _ _ (storeInDict h.objs.size (.str name tk) name v) _ _ _
  unfold storeInDict newKeyGuard
  refine wpAny_bind (wpAny_pure (wpAny_bind (wpAny_nsSet1 (Heap.Ns1.of_empty hnd) fun h' hn' hs => ?_)))
  obtain ⟨oD, esD, epD, hoD, hdD, hcD⟩ := hn'.count (Within.cons name v Within.nil)
  refine wpAny_bind (wpAny_lookBehind hoD (by rw [hdD]; exact pastItsLine_dict (Nat.le_trans hcD (by rw [List.length_cons, List.length_nil, sizeLine_eq]; omega))) ?_)
  wp_walk
  refine hq h' h.objs.size _ ?_ hn' (Heap.get?_none_of_le (Nat.le_refl _)) (Nat.le_refl _) hex.symm fun b ob hbx hb => ?_
  · refine (hs.2 e hex).trans (Heap.get?_update_self _ hx₁ ?_)
    obtain ⟨oc, od, odt, osl⟩ := o
    cases odt <;> first | rfl | exact hfr
  · exact (hs.2 b (Nat.ne_of_lt (Heap.lt_size hb))).trans ((Heap.get?_update_ne _ _ _ _ hbx).trans (Heap.get?_push_of_some _ hb))

theorem store1_call {sa owner : String} {e : Addr} {o : Obj} {name : Str} {v : Value} {tk : Tok} {R : Result → Shared → Prop} (SF : StoreFacts "Exception" bmE sa owner)
    (hC : h.get? C = some (excClassObj nm q C N bs bmE true sn sub ab col dd k0 k1 k2 k3 k5 "Exception.__new__")) (hn : h.Ns N mN) (hna : mN name = none)
    (hB : typeLookup (.type "Exception") name = pure none) (hx : h.get? e = some o) (hc : o.cls = .ref C) (hdn : o.dict = none) (hnc : ∀ c, o.data ≠ .cls c) (hfr : o.isFreed = false)
    (hq : ∀ h' dx tk', h'.get? e = some ⟨o.cls, some dx, o.data, o.slots⟩ → h'.Ns1 dx (fun y => if y = name then some v else none) → h.get? dx = none → h.objs.size ≤ dx → dx ≠ e → (∀ b o, b ≠ e → h.get? b = some o → h'.get? b = some o) → R (.ok (.ret .none)) ⟨h', g, d, tk', os⟩) :
    codeAny (model prog w) A (.call (.builtin sa) ⟨[.ref e, .str name tk, v], []⟩) R ⟨h, g, d, t, os⟩ :=
  codeAny_call_builtin SF.slot.plain SF.entry (wpAny_check_sa SF hC hx hc (store1_entry SF hC hn hna hB hx hc hdn hnc hfr hq))

/-- the first store makes the dict -/
theorem store1_exc {sa owner : String} {e : Addr} {o : Obj} {name : Str} {v : Value} {Q : Unit → Shared → Prop} (SF : StoreFacts "Exception" bmE sa owner)
    (hC : h.get? C = some (excClassObj nm q C N bs bmE true sn sub ab col dd k0 k1 k2 k3 k5 "Exception.__new__")) (hn : h.Ns N mN) (hns : mN "__setattr__" = none) (hna : mN name = none)
    (hB : typeLookup (.type "Exception") name = pure none) (hx : h.get? e = some o) (hc : o.cls = .ref C) (hdn : o.dict = none) (hnc : ∀ c, o.data ≠ .cls c) (hfr : o.isFreed = false)
    (hq : ∀ h' dx tk', h'.get? e = some ⟨o.cls, some dx, o.data, o.slots⟩ → h'.Ns1 dx (fun y => if y = name then some v else none) → h.get? dx = none → h.objs.size ≤ dx → dx ≠ e → (∀ b o, b ≠ e → h.get? b = some o → h'.get? b = some o) → Q () ⟨h', g, d, tk', os⟩) :
    wpAny (model prog w) A (setAttr (.ref e) name v) Q E ⟨h, g, d, t, os⟩ := by
  have f3 := SF.slot.bind (.ref e)
  unfold setAttr callSpecial? specialOf
  repeat (any_goals (first | assumption | (with_reducible refine wpAny_loadPart_at hx ?_; rw [hc]) | (with_reducible refine wpAny_typeLookup_exc hC hn SF.mro SF.slot.lookup ?_; rw [hns]) | wp_step))
  refine store1_call SF hC hn hna hB hx hc hdn hnc hfr (fun h' dx tk' a1 a2 a3 a4 a5 a6 => ?_)
  repeat (any_goals (first | assumption | wp_step))
  exact hq h' dx tk' a1 a2 a3 a4 a5 a6

/-- a name of its own dict, loaded -/
theorem load_exc {e dx : Addr} {sl : Array (Option Value)} {vs : Array Value} {name : Str} {v : Value} {expr : Bool} {mA : Str → Option Value} {Q : Value → Shared → Prop}
    (hC : h.get? C = some (excClassObj nm q C N bs bmE true sn sub ab col dd k0 k1 k2 k3 k5 "Exception.__new__")) (hn : h.Ns N mN) (hng : mN "__getattribute__" = none) (hnh : mN "__getattr__" = none) (hna : mN name = none)
    (hB : typeLookup (.type "Exception") name = pure none) (hx : h.get? e = some ⟨.ref C, some dx, .fields vs, sl⟩) (hns : h.Ns dx mA) (hv : mA name = some v) (hh : handedOut v = pure v) (hq : ∀ tk, Q v ⟨h, g, d, tk, os⟩) :
    wpAny (model prog w) A (getAttr (.ref e) name expr) Q E ⟨h, g, d, t, os⟩ := by
  have FB := PySem.F.attrBase_Exception
  have hc : (⟨.ref C, some dx, .fields vs, sl⟩ : Obj).cls = .ref C := rfl
  have f3 := FB.ga.bind (.ref e)
  have hx0 : (expr && onTheHeap (Value.builtin "BaseException.__getattribute__")) = false := by cases expr <;> rfl
  have hx2 : (Value.builtin "BaseException.__getattribute__" == Value.builtin "object.__getattribute__") = false := by decide +kernel
  have hx1 : (onTheHeap (Value.ref C) && Value.builtin "BaseException.__getattribute__" == Value.builtin "object.__getattribute__") = false := by rw [hx2]; rfl
  unfold getAttr getAttrBy
  repeat (any_goals (first | assumption | (with_reducible refine wpAny_loadPart_at hx ?_; rw [hc]) | (with_reducible refine wpAny_typeLookup_exc hC hn FB.mro FB.ga.lookup ?_; rw [hng]) | (with_reducible refine wpAny_typeLookup_exc hC hn FB.mro FB.noGetattr ?_; rw [hnh]) | wp_step))
  refine codeAny_call_builtin FB.ga.plain PySem.F.entry_bexc_ga (wpAny_check_ga_own FB hC .base hx hc ?_)
  unfold Builtin.«object.__getattribute__»
  repeat (any_goals (first | assumption | (with_reducible refine wpAny_loadPart_at hx ?_; rw [hc]) | (with_reducible refine wpAny_typeLookup_exc hC hn FB.mro hB ?_; rw [hna]) | wp_step))
  obtain ⟨oD, esD, epD, hoD, hdD, hkD, hfD⟩ := hns
  have hlk : nsLook name oD = pure (some v) := by
    have hf := (hfD name).trans hv
    unfold nsFind findBy at hf
    obtain ⟨en, he, rfl⟩ := Option.map_eq_some_iff.mp hf
    rw [nsLook_eq]
    unfold nsLookByArray
    rw [hdD]
    dsimp only
    rw [he]
  refine wpAny_loadPart_at hoD ?_
  rw [hlk]
  repeat (any_goals (first | assumption | wp_step))
  exact hq _
end

end

section
open PySem PySem.W PyProof.Rows PySem.Calls

/-- a tree shown for more room holds for less -/
theorem weakenA {α : Type} {M : Model} {A A' : Around} {t : Sem α} {Q : α → Shared → Prop} {E : Value → Shared → Prop} {s : Shared} (h : wpAny M A t Q E s)
    (hh : A'.handled = A.handled) (hd : A'.depth ≤ A.depth) (hu : A'.units ≤ A.units) (hf : A.frames = none ∨ A.frames = A'.frames) (hg : A.guards = none ∨ A.guards = A'.guards) : wpAny M A' t Q E s :=
  fun Γ p hΓ => h Γ p ⟨hΓ.1.trans hh, Nat.le_trans hΓ.2.1 hd, fun l hl => hΓ.2.2.1 l (hf.elim (fun e => by rw [e] at hl; cases hl) fun e => e ▸ hl),
    fun g hl => hΓ.2.2.2.1 g (hg.elim (fun e => by rw [e] at hl; cases hl) fun e => e ▸ hl), Nat.le_trans hΓ.2.2.2.2 hu⟩

theorem ns_some_of {K : Frag} {h : Heap} {N : Addr} {mg : Str → Option Value} {n : Str} {v : Value} (X : K.In h) (G : h.Ns N mg) (e : nsIn K N n = some (some v)) : mg n = some v := by
  obtain ⟨o, es, ep, ho, hd, _, hf⟩ := G
  unfold nsIn at e
  split at e
  · rename_i c d es' n' sl q
    have := X _ _ q
    rw [ho] at this
    cases this
    cases hd
    split at e
    · rename_i en he
      cases e
      rw [← hf]
      unfold nsFind findBy
      rw [← Array.find?_toList, he]
      rfl
    · split at e <;> cases e
  · cases e
/-- the class as the heap has it -/
def QuicAt (h : Heap) : Prop := ∃ nm qn N bs sn sub ab col dd k0 k1 k2 k3 k5, h.get? 38 = some (excClassObj nm qn 38 N bs bmE true sn sub ab col dd k0 k1 k2 k3 k5 "Exception.__new__") ∧
    ∃ mN, h.Ns N mN ∧ mN "__init__" = some (.ref 35) ∧ mN "__setattr__" = none ∧ mN "__getattribute__" = none ∧ mN "__getattr__" = none ∧ mN "code" = none ∧ mN "frame_type" = none ∧ mN "text" = none
theorem quic_at {w : World} {h : Heap} (X : (Mine.hd.heap_39 w.params).In h) : QuicAt h := by
  have z : PySem.Challenge.rw_tk0085_01 = PySem.Challenge.rw_tk0085_01 := rfl
  revert z X
  k_fill
  intro X _
  have hC := X 38 _ (by k_is)
  have G := Heap.Ns.of_isNs (isNs_of_in X (N := 37) (by kernel_rfl))
  refine ⟨_, _, _, _, _, _, _, _, _, _, _, _, _, _, hC, _, G, ?_, ?_, ?_, ?_, ?_, ?_, ?_⟩
  · exact ns_some_of X G (by k_is)
  all_goals exact ns_none_of X G (by k_is)

/-- an exception of the class, its dict bearing the given names, apart from the ground and the frame -/
structure EI (h₀ : Heap) (L : Addr) (h : Heap) (e : Addr) (mA : Str → Option Value) : Prop where
  obj : ∃ dd t, h.get? e = some (excO 38 dd t) ∧ ((dd = none ∧ mA = fun _ => none) ∨ ∃ dx, dd = some dx ∧ dx ≠ e ∧ dx ≠ L ∧ h₀.get? dx = none ∧ h.Ns1 dx mA)
  frame : e ≠ L
  new : h₀.get? e = none

def HasCode (o : Obj) : Prop := ∃ es n t, o.data = .dict es n ∧ StrKeys es ∧ nsFind es (Str.ofString "code") = some (.int 3 t)

section
variable {prog : Program} {w : World} {A : Around} {E : Value → Shared → Prop} {s : Shared} {h₀ : Heap} {L e : Addr} {m mA : Str → Option Value}
theorem Fr.but {h h' : Heap} (F : Fr h₀ L h m) (hk : ∀ b o, b ≠ e → h.get? b = some o → h'.get? b = some o) (hL : e ≠ L) (hn : h₀.get? e = none) : Fr h₀ L h' m := by
  obtain ⟨o, es, ep, ho, r⟩ := F.ns
  exact ⟨⟨o, es, ep, hk _ _ (Ne.symm hL) ho, r⟩, fun b o q => hk b o (fun z => by rw [z, hn] at q; cases q) (F.keep b o q), F.above⟩

theorem init_K {v : Value} {Q : Value → Shared → Prop} (F : Fr h₀ L s.heap m) (C : QuicAt h₀) (I : EI h₀ L s.heap e mA)
    (hq : ∀ h', Fr h₀ L h' m → EI h₀ L h' e mA → Q .none { s with heap := h' }) :
    wpAny (model prog w) A (call (.builtin "Exception.__init__") [.ref e, v]) Q E s := by
  obtain ⟨nm, qn, N, bs, sn, sub, ab, col, dd, k0, k1, k2, k3, k5, hC, -⟩ := C
  obtain ⟨⟨dx, t, he, hd⟩, hL, hn⟩ := I
  obtain ⟨hp, g, dr, tk, os⟩ := s
  refine init_exc (F.keep _ _ hC) he (by size_fits) fun h' t' he' hk => hq h' (Fr.but F hk hL hn) ⟨⟨dx, t', he', ?_⟩, hL, hn⟩
  rcases hd with hd | ⟨d, a, b, c, c', q⟩
  · exact .inl hd
  · exact .inr ⟨d, a, b, c, c', q.at fun o z => hk _ _ b z⟩

theorem store_K {name : Str} {v : Value} {ns : List Str} {Q : Unit → Shared → Prop} (F : Fr h₀ L s.heap m) (C : QuicAt h₀) (I : EI h₀ L s.heap e mA) (hnm : name = Str.ofString "code" ∨ name = Str.ofString "frame_type" ∨ name = Str.ofString "text")
    (hB : typeLookup (.type "Exception") name = pure none) (hw : Within mA ns) (hsz : ns.length ≤ sizeLine)
    (hq : ∀ h' tk', Fr h₀ L h' m → EI h₀ L h' e (fun y => if y = name then some v else mA y) → Q () { s with heap := h', toks := tk' }) :
    wpAny (model prog w) A (setAttr (.ref e) name v) Q E s := by
  obtain ⟨nm, qn, N, bs, sn, sub, ab, col, dd, k0, k1, k2, k3, k5, hC, mN, hN, -, n1, -, -, n2, n3, n4⟩ := C
  obtain ⟨⟨dx, t, he, hd⟩, hL, hn⟩ := I
  obtain ⟨hp, g, dr, tk, os⟩ := s
  have hna : mN name = none := by rcases hnm with rfl | rfl | rfl <;> assumption
  have hN' := hN.keeps F.keep
  rcases hd with ⟨rfl, rfl⟩ | ⟨d, rfl, b, c, c', q⟩
  · refine store1_exc PySem.F.store_Exception (F.keep _ _ hC) hN' n1 hna hB he rfl rfl (fun _ => by simp) rfl fun h' dx tk' e1 e2 e3 e4 e5 hk => hq h' tk' (Fr.but F hk hL hn) ⟨⟨some dx, t, e1, .inr ⟨dx, rfl, e5, ?_, ?_, e2⟩⟩, hL, hn⟩
    · intro z
      exact absurd (z ▸ e4 : hp.objs.size ≤ L) (Nat.not_le.mpr F.ns.lt)
    · cases q : h₀.get? dx with
      | none => rfl
      | some o => rw [F.keep _ _ q] at e3; cases e3
  · refine store_attr PySem.F.store_Exception (F.keep _ _ hC) hN' n1 hna hB (fun z => ?_) ⟨_, he, rfl, fun _ => by simp, .inr ⟨d, rfl, b, q⟩⟩ (fun h' tk' I' hk hsame => ?_) hw hsz
    · rw [z, hC] at hn; cases hn
    · have hk' : ∀ b o, b ≠ e → b ≠ d → hp.get? b = some o → h'.get? b = some o := fun b o q1 q2 q3 => hk b o q1 (fun o₀ dx h1 h2 => by rw [he] at h1; cases h1; cases h2; exact q2) q3
      obtain ⟨o₁, ho₁, z1, z2, z3, z4⟩ := hsame _ he
      obtain ⟨o₂, ho₂, y1, y2, y3⟩ := I'
      rw [ho₁] at ho₂
      cases ho₂
      obtain ⟨oc, od, odt, osl⟩ := o₁
      dsimp only at z1 z2 z3 z4 y3
      have z5 := z4 d rfl
      subst z1 z2 z3 z5
      refine hq h' tk' ⟨?_, fun b' o q1 => hk' b' o (fun z => by rw [z, hn] at q1; cases q1) (fun z => by rw [z, c'] at q1; cases q1) (F.keep b' o q1), F.above⟩ ⟨⟨some d, t, ho₁, .inr ⟨d, rfl, b, c, c', ?_⟩⟩, hL, hn⟩
      · obtain ⟨o, es, ep, ho, r⟩ := F.ns
        exact ⟨o, es, ep, hk' _ _ (Ne.symm hL) (Ne.symm c) ho, r⟩
      · rcases y3 with ⟨y3, _⟩ | ⟨d', y3, _, y4⟩
        · cases y3
        · cases y3; exact y4

theorem code_none : typeLookup (.type "Exception") (Str.ofString "code") = pure none := by rw [typeLookup_type, builtinLookup_eq_fast]; kernel_rfl
theorem frame_none : typeLookup (.type "Exception") (Str.ofString "frame_type") = pure none := by rw [typeLookup_type, builtinLookup_eq_fast]; kernel_rfl
theorem text_none : typeLookup (.type "Exception") (Str.ofString "text") = pure none := by rw [typeLookup_type, builtinLookup_eq_fast]; kernel_rfl
theorem meta_exc : typeOf (.type "Exception") = pure (.type "type") := by kernel_rfl
end

end

section
open PySem PySem.W PyProof.Rows PySem.Calls
section
variable {prog : Program} {w : World} {A : Around} {s : Shared} {K : Frag} {R : Result → Shared → Prop} {name qual : Str} {params : Arguments} {body : List Stmt} {scope : Scope} {dV kV doc pm cdv ct oc : Value} {an od : Option Addr} {osl : Array (Option Value)} {f : Addr} {args : Args} {binds : List (Str × Value)}
/-- into a def, nothing said of the frames -/
theorem code_W (X : K.In s.heap) (hl : s.heap.NoLimit) (ho : K.lookup f = some ⟨oc, od, .func (fnOf name qual params body scope dV kV doc pm an cdv ct), osl⟩) (hcd : codeIn K cdv qual = true) (hroom : A.depth < recursionLimit)
    (hbind : BindsTo s (fnOf name qual params body scope dV kV doc pm an cdv ct) args binds) (hloc : ∀ y ∈ binds, scope.names.lookup y.1 = some .local)
    (h : ∀ h₁, h₁.Ns s.heap.objs.size (fun y => binds.reverse.lookup y) → (∀ b o, s.heap.get? b = some o → h₁.get? b = some o) →
      wpAny (model prog w) (A.deeper (envOf qual scope s.heap.objs.size f cdv)) (execs body (envOf qual scope s.heap.objs.size f cdv)) (fun fl s' => R (.ok (.ret (match fl with | .ret v => v | _ => .none))) s')
        (fun e s' => wpAny (model prog w) (A.deeper (envOf qual scope s.heap.objs.size f cdv)) (leaving (envOf qual scope s.heap.objs.size f cdv) e) (fun _ s'' => R (.error e) s'') (fun e' s'' => R (.error e') s'') s')
        { s with heap := h₁, toks := s.toks + binds.length })
    (hco : scope.isCoroutine = false) (hgen : scope.isGenerator = false) (hk : scope.kind = .function)
    (hcell : ∀ x ∈ scope.names, x.2 ≠ .cell) : codeAny (model prog w) A (.call (.ref f) args) R s :=
  codeAny_call_def (fd := fnOf name qual params body scope dV kV doc pm an cdv ct) (body := body) (binds := binds) hroom (X _ _ ho) rfl hl (codeRec_of X hcd) rfl hbind hcell hloc h hco hgen hk
end
section
set_option maxRecDepth 100000 in
set_option maxHeartbeats 8000000 in
theorem initW (w : World) {mean : ExcName → Option Value} {mg mb : Str → Option Value} (s : Shared) (Q E : Value → Shared → Prop) (t1 t2 t3 : Tok) (e t : Addr) (h₀ : Heap)
    (X : (Mine.hd.heap_39 w.params).In h₀) (T : Top Mine.hd.view_39 (looseW Mine.hd.view_39 []) mean mg mb h₀) (up : ∀ b o, h₀.get? b = some o → s.heap.get? b = some o) (hsz : h₀.objs.size ≤ s.heap.objs.size) (hn : h₀.get? e = none) (he : s.heap.get? e = some (excO 38 none t))
    (C : QuicAt h₀) (hQ : ∀ L h' tk' m mA, Fr h₀ L h' m → EI h₀ L h' e mA → mA (Str.ofString "code") = some (.int 3 t1) → Q .none { s with heap := h', toks := tk' }) :
    wpAny (model PySem.Challenge.rw_tk0085_01.row.prog w) {handled := none, depth := 981, frames := none, guards := none, units := 6000} (call (.ref 35) [.ref e, .int 3 t1, .int 0 t2, .str (Str.ofString "more than is let") t3]) Q E s := by
  k_with_none
  w_top off
  k_with "own getMethod type:Exception" => ((k_here; refine' method_type ?o9F ?o9X ?o9m (by decide +kernel) ?o9e ?o9h ?_; (case o9F => k_asm); (case o9X => k_asm); (case o9m => exact meta_exc); (case o9e => k_dflt k_is); (case o9h => k_handed)))
  revert X
  k_fill
  intro X
  have X' := X.keeps up
  refine wpAny_call ?_
  k_dflt (refine' code_W ?k3 ?kl ?k6 ?k7 ?k8 ?k9 ?kB ?_ ?c2 ?c3 ?c4 ?c5; (case k3 => exact X'); (case kl => exact T.nolimit.keeps up); (case k6 => k_is); (case k7 => k_is); (case k8 => k_room); (case k9 => exact BindsTo.of_eq rfl); (case c5 => decide); (case kB => exact locs rfl); (case c2 => exact rfl); (case c3 => exact rfl); (case c4 => exact rfl); k_whole)
  intro h₁ hns hk₁
  obtain ⟨L, hL⟩ : ∃ L, s.heap.objs.size = L := ⟨_, rfl⟩
  rw [hL] at hns ⊢
  have F : Fr h₀ L h₁ _ := ⟨hns, fun b o q => hk₁ b o (up b o q), hL ▸ hsz⟩
  have I : EI h₀ L h₁ e (fun _ => none) := ⟨⟨none, t, hk₁ _ _ he, .inl ⟨rfl, rfl⟩⟩, fun z => absurd (Heap.lt_size he) (by rw [z, hL]; exact Nat.lt_irrefl _), hn⟩
  have N : News h₀ L h₁ [] := fun p hp => nomatch hp
  clear hns hk₁
  (try dsimp only)
  k_steps
  refine init_K F C I fun h2 F2 I2 => ?_
  clear F I N
  have N2 : News h₀ L h2 [] := fun p hp => nomatch hp
  k_steps
  refine store_K F2 C I2 (.inl rfl) code_none .nil (by size_fits) fun h3 tk3 F3 I3 => ?_
  clear F2 I2 N2
  have N3 : News h₀ L h3 [] := fun p hp => nomatch hp
  k_steps
  refine store_K F3 C I3 (.inr (.inl rfl)) frame_none (.cons _ _ .nil) (by size_fits) fun h4 tk4 F4 I4 => ?_
  clear F3 I3 N3
  have N4 : News h₀ L h4 [] := fun p hp => nomatch hp
  k_steps
  refine store_K F4 C I4 (.inr (.inr rfl)) text_none (.cons _ _ (.cons _ _ .nil)) (by size_fits) fun h5 tk5 F5 I5 => ?_
  clear F4 I4 N4
  have N5 : News h₀ L h5 [] := fun p hp => nomatch hp
  k_steps
  exact hQ _ _ _ _ _ F5 I5 rfl
end

/-- a new exception of the text's own class, with its dict -/
structure MadeQ (h h' : Heap) (e : Addr) : Prop where
  keeps : ∀ b o, h.get? b = some o → h'.get? b = some o
  new : h.get? e = none
  there : ∃ d od t, h'.get? e = some (excO 38 (some d) t) ∧ h'.get? d = some od ∧ HasCode od ∧ h.get? d = none

theorem madeQ_of {h h' : Heap} {L e : Addr} {m mA : Str → Option Value} {t : Tok} (F : Fr h L h' m) (I : EI h L h' e mA) (hm : mA (Str.ofString "code") = some (.int 3 t)) : MadeQ h h' e := by
  obtain ⟨⟨dd, tu, he, hd⟩, hL, hn⟩ := I
  refine ⟨F.keep, hn, ?_⟩
  rcases hd with ⟨_, rfl⟩ | ⟨d, rfl, _, _, c, o, es, n, ho, hdt, hk, _, hf⟩
  · cases hm
  · exact ⟨d, o, tu, he, ho, ⟨es, n, t, hdt, hk, (hf _).trans hm⟩, c⟩

theorem mkExc (w : World) {mean : ExcName → Option Value} {mg mb : Str → Option Value} (s : Shared) (Q E : Value → Shared → Prop) (t1 t2 t3 : Tok) (X : (Mine.hd.heap_39 w.params).In s.heap) (T : Top Mine.hd.view_39 (looseW Mine.hd.view_39 []) mean mg mb s.heap)
    (hQ : ∀ e h' tk, MadeQ s.heap h' e → Q (.ref e) { s with heap := h', toks := tk }) :
    wpAny (model PySem.Challenge.rw_tk0085_01.row.prog w) {handled := none, depth := 980, frames := none, guards := none, units := 5000} (call (.ref 38) [.int 3 t1, .int 0 t2, .str (Str.ofString "more than is let") t3]) Q E s := by
  have C := quic_at X
  obtain ⟨nm, qn, N, bs, sn, sub, ab, col, dd, k0, k1, k2, k3, k5, hC, mN, hN, n0, -⟩ := id C
  obtain ⟨hp, g, dr, tk, os⟩ := s
  obtain ⟨oI, hI, hc⟩ : ∃ oI, hp.get? 35 = some oI ∧ oI.cls = .type "function" := by
    revert X
    k_fill
    intro X
    exact ⟨_, X _ _ (by k_is), rfl⟩
  have up : ∀ b o, hp.get? b = some o → ((hp.push { cls := .type "tuple", data := .seq [Value.int 3 t1, .int 0 t2, .str (Str.ofString "more than is let") t3].toArray }).push (excO 38 none hp.objs.size)).get? b = some o := fun b o e => Heap.get?_push_of_some _ (Heap.get?_push_of_some _ e)
  refine call_excD hC hN n0 hI hc (weakenA (initW w ⟨_, g, dr, tk, os⟩ _ E t1 t2 t3 (hp.objs.size + 1) hp.objs.size hp X T up (by simp only [Heap.size_push]; omega) (Heap.get?_none_of_le (Nat.le_succ _)) (by heap_get) C fun L h' tk' m mA F I hm => ⟨rfl, hQ _ h' tk' (madeQ_of F I hm)⟩) rfl (Nat.le_of_ble_eq_true rfl) (Nat.le_of_ble_eq_true rfl) (.inl rfl) (.inl rfl)) (by size_fits)

end

section
open PySem PySem.W PyProof.Rows PySem.Calls

theorem dict_mapFields (o : Obj) (f : Array Value → Array Value) : (Obj.mapFields f o).dict = o.dict := by
  obtain ⟨c, d, dt, sl⟩ := o
  cases dt <;> rfl

/-- an exception of the text's own class in flight, its dict kept -/
def FlyD (B : Heap) (l : List Env) (e d : Addr) (fl : Value) (h : Heap) : Prop :=
  B.StaysIn h ∧ B.get? e = none ∧ h.FunFrames B l ∧
  ∃ oe vs T oT ts, h.get? e = some oe ∧ (oe.cls = .ref 38 ∧ oe.dict = some d) ∧ oe.data = .fields vs ∧ vs[1]? = some (.ref T) ∧ B.get? T = none ∧ T ≠ e ∧ h.get? T = some oT ∧ oT.data = .fields ts ∧ ts[3]? = some fl

section
variable {M : Model} {A : Around} {E : Value → Shared → Prop} {s : Shared}

theorem entryD {B : Heap} {env : Env} {outer : List Env} {L e d : Addr} {oe : Obj} {vs : Array Value} {head : Value} {hadNext : Bool} {Q : Unit → Shared → Prop}
    (hfr : A.frames = some (env :: outer)) (hl : s.heap.FunFrames B (env :: outer)) (hf : env.frame = some L)
    (he : s.heap.get? e = some oe) (hkb : B.StaysIn s.heap) (hen : B.get? e = none) (hd : oe.data = .fields vs) (hsz : 1 < vs.size) (hc : oe.cls = .ref 38 ∧ oe.dict = some d)
    (h : ∀ h', FlyD B (env :: outer) e d (rawInt L) h' → s.heap.UpToSlots h' → Q () { s with heap := h' }) :
    wpAny M A (do let a ← frameOf env; let pl ← entryPlaceOf L hadNext; let b ← EntryCells.newEntry head a .none (rawInt L) .none pl; setField (.ref e) 1 b) Q E s := by
  have hene : e ∉ (env :: outer).filterMap (·.frame) := fun hm => by
    obtain ⟨_, o, ho, hnf⟩ := hl.mem hm
    rw [he] at ho
    cases ho
    exact hnf vs hd
  refine wpAny_bind (wpAny_frameOf_fun hfr hl hf fun h₁ hs₁ => ?_)
  refine wpAny_bind (wpAny_entryPlaceOf fun pl hpl => ?_)
  unfold EntryCells.newEntry newFields
  refine wpAny_bind (wpAny_newObj_type ?_ (hpl.sizeOk5 _ _ _ _ _))
  have he₁ : h₁.get? e = some oe := (hs₁.2.1 e hene).trans he
  have kb₁ : B.StaysIn h₁ := fun b o hbo => (hs₁.2.1 b fun hm => by rw [(hl.mem hm).1] at hbo; cases hbo).trans (hkb b o hbo)
  generalize hTo : ({ cls := .type "traceback", dict := none, data := .fields ([head, .ref L, .none, rawInt L, .none] ++ (if pl.isEmpty then List.replicate 6 Value.none else pl)).toArray } : Obj) = To
  have he₂ := Heap.get?_push_of_some (h := h₁) To he₁
  refine wpAny_setField he₂ hd hsz (h _ ?_ ?_)
  all_goals
    have hTe : h₁.objs.size ≠ e := Nat.ne_of_gt (Heap.lt_size he₁)
    have hd₃ := Obj.data_mapFields hd (·.setIfInBounds 1 (Value.ref h₁.objs.size))
    have he₃ := Heap.get?_update_self (Obj.mapFields (·.setIfInBounds 1 (Value.ref h₁.objs.size))) he₂ (Obj.isFreed_of_fields hd₃)
    have keep : ∀ b o, b ≠ e → h₁.get? b = some o → ((h₁.push To).update e (Obj.mapFields (·.setIfInBounds 1 (Value.ref h₁.objs.size)))).get? b = some o := fun b o hbe hb => by
      rw [Heap.get?_update_other _ _ (Ne.symm hbe)]
      exact Heap.get?_push_of_some _ hb
    have noRecord : ∀ b o, s.heap.get? b = some o → (∀ vs, o.data ≠ .fields vs) → b ≠ e := fun b o hb hnf q => by
      rw [q, he] at hb
      cases hb
      exact hnf vs hd
  · have hT₃ := (Heap.get?_update_other (h₁.push To) (Obj.mapFields (·.setIfInBounds 1 (Value.ref h₁.objs.size))) (Ne.symm hTe)).trans (Heap.get?_push_size h₁ (by subst hTo; rfl))
    refine ⟨fun b o hbo => keep b o (fun q => by rw [q, hen] at hbo; cases hbo) (kb₁ b o hbo), hen, hl.of_keeps fun b o hb hnf => ?_, ?_⟩
    · obtain ⟨sl, hs⟩ := hs₁.2.2 b o hb
      exact ⟨_, keep b _ (noRecord b o hb hnf) hs, rfl⟩
    · subst hTo
      exact ⟨_, _, h₁.objs.size, _, _, he₃, ⟨(Obj.cls_mapFields _ _).trans hc.1, (dict_mapFields _ _).trans hc.2⟩, hd₃, by simp [hsz], kb₁.fresh, hTe, hT₃, rfl, by first | (simp; done) | (rcases hpl with rfl | ⟨_, _, _, _, _, _, _, rfl⟩ <;> simp)⟩
  · intro b o hb hnf
    obtain ⟨sl, hs⟩ := hs₁.2.2 b o hb
    exact ⟨sl, keep b _ (noRecord b o hb hnf) hs⟩

theorem noteD_first {B : Heap} {env : Env} {outer : List Env} {L e d : Addr} {oe : Obj} {vs : Array Value} {Q : Unit → Shared → Prop}
    (hfr : A.frames = some (env :: outer)) (hl : s.heap.FunFrames B (env :: outer)) (hf : env.frame = some L)
    (he : s.heap.get? e = some oe) (hkb : B.StaysIn s.heap) (hen : B.get? e = none) (hd : oe.data = .fields vs) (h1 : vs[1]? = some .none) (hc : oe.cls = .ref 38 ∧ oe.dict = some d)
    (h : ∀ h', FlyD B (env :: outer) e d (rawInt L) h' → s.heap.UpToSlots h' → Q () { s with heap := h' }) : wpAny M A (noteFrame (.ref e) env) Q E s := by
  unfold noteFrame
  simp only [hf]
  refine wpAny_bind (wpAny_field he hd h1 ?_)
  rw [if_neg (by decide)]
  exact entryD hfr hl hf he hkb hen hd (Array.getElem?_eq_some_iff.mp h1).1 hc h

theorem noteD_next {B : Heap} {env : Env} {outer : List Env} {L e d : Addr} {Q : Unit → Shared → Prop}
    (hfr : A.frames = some (env :: outer)) (hf : env.frame = some L) (R : FlyD B (env :: outer) e d .none s.heap)
    (h : ∀ h', FlyD B (env :: outer) e d (rawInt L) h' → s.heap.UpToSlots h' → Q () { s with heap := h' }) : wpAny M A (noteFrame (.ref e) env) Q E s := by
  obtain ⟨hkb, hen, hl, oe, vs, T, oT, ts, he, hc, hd, h1, hnT, hTe, hT, hdT, h3⟩ := R
  unfold noteFrame
  simp only [hf]
  refine wpAny_bind (wpAny_field he hd h1 ?_)
  rw [if_pos (show (Value.ref T != Value.none) = true from by simp)]
  refine wpAny_bind (wpAny_field hT hdT h3 ?_)
  rw [if_neg (show ¬ ((Value.none == rawInt L) = true) from by simp [rawInt])]
  refine wpAny_bind (wpAny_setField hT hdT (Array.getElem?_eq_some_iff.mp h3).1 ?_)
  have other : ∀ b, b ≠ T → (s.heap.update T (Obj.mapFields (·.setIfInBounds 3 Value.none))).get? b = s.heap.get? b := fun b hb => Heap.get?_update_other _ _ (Ne.symm hb)
  have noRecord : ∀ b o, s.heap.get? b = some o → (∀ vs, o.data ≠ .fields vs) → b ≠ T := fun b o hb hnf q => by
    rw [q, hT] at hb
    cases hb
    exact hnf ts hdT
  refine entryD hfr (hl.of_keeps fun b o hb hnf => ⟨o, (other b (noRecord b o hb hnf)).trans hb, rfl⟩) hf ((other e (Ne.symm hTe)).trans he)
    (fun b o hbo => (other b fun q => by rw [q, hnT] at hbo; cases hbo).trans (hkb b o hbo)) hen hd (Array.getElem?_eq_some_iff.mp h1).1 hc
    fun h' x1 x4 => h h' x1 fun b o hb hnf => x4 b o ((other b (noRecord b o hb hnf)).trans hb) hnf

theorem flightD {B : Heap} {l : List Env} {e d : Addr} {fl : Value} {Q : Unit → Shared → Prop} (R : FlyD B l e d fl s.heap)
    (h : ∀ h', FlyD B l e d .none h' → s.heap.UpToSlots h' → Q () { s with heap := h' }) : wpAny M A (setFlight (.ref e) none) Q E s := by
  obtain ⟨hkb, hen, hl, oe, vs, T, oT, ts, he, hc, hd, h1, hnT, hTe, hT, hdT, h3⟩ := R
  have hsz3 : 3 < ts.size := (Array.getElem?_eq_some_iff.mp h3).1
  have other : ∀ b, b ≠ T → (s.heap.update T (Obj.mapFields (·.setIfInBounds 3 ((none : Option Addr).elim Value.none fun f => rawInt f)))).get? b = s.heap.get? b :=
    fun b hb => Heap.get?_update_other _ _ (Ne.symm hb)
  have noRecord : ∀ b o, s.heap.get? b = some o → (∀ vs, o.data ≠ .fields vs) → b ≠ T := fun b o hb hnf q => by
    rw [q, hT] at hb
    cases hb
    exact hnf ts hdT
  unfold setFlight
  refine wpAny_bind (wpAny_field he hd h1 ?_)
  rw [if_pos (show (Value.ref T != Value.none) = true from by simp)]
  refine wpAny_setField hT hdT hsz3 (h _ ⟨fun b o hbo => (other b fun q => by rw [q, hnT] at hbo; cases hbo).trans (hkb b o hbo), hen,
    hl.of_keeps fun b o hb hnf => ⟨o, (other b (noRecord b o hb hnf)).trans hb, rfl⟩,
    oe, vs, T, _, _, (other e (Ne.symm hTe)).trans he, hc, hd, h1, hnT, hTe, Heap.get?_update_self _ hT (Obj.isFreed_of_fields (Obj.data_mapFields hdT _)), Obj.data_mapFields hdT _, by simp [hsz3]⟩
    fun b o hb hnf => ⟨o.slots, (other b (noRecord b o hb hnf)).trans hb⟩)

theorem FlyD.tail {B h : Heap} {env : Env} {l : List Env} {e d : Addr} {fl : Value} (R : FlyD B (env :: l) e d fl h) : FlyD B l e d fl h :=
  let ⟨a, b, ⟨_, _, c⟩, r⟩ := R; ⟨a, b, c, r⟩
end

end

section
open PySem PySem.W PyProof.Rows

theorem get_code (w : World) {A : Around} {E : Value → Shared → Prop} {s : Shared} {Q : Value → Shared → Prop} {e d : Addr} {vs : Array Value} {sl : Array (Option Value)} {od : Obj} {expr : Bool} (X : (Mine.hd.heap_39 w.params).In s.heap)
    (he : s.heap.get? e = some ⟨.ref 38, some d, .fields vs, sl⟩) (hd : s.heap.get? d = some od) (hc : HasCode od) (hQ : ∀ t tk, Q (.int 3 t) { s with toks := tk }) :
    wpAny (model PySem.Challenge.rw_tk0085_01.row.prog w) A (getAttr (.ref e) (Str.ofString "code") expr) Q E s := by
  obtain ⟨nm, qn, N, bs, sn, sub, ab, col, dd, k0, k1, k2, k3, k5, hC, mN, hN, -, -, n1, n2, n3, -⟩ := quic_at X
  obtain ⟨es, n, t, hdt, hk, hf⟩ := hc
  obtain ⟨hp, g, dr, tk, os⟩ := s
  exact load_exc hC hN n1 n2 n3 code_none he ⟨od, es, n, hd, hdt, hk, fun _ => rfl⟩ hf rfl fun tk => hQ t tk

end

section
open PySem PySem.W PyProof.Rows PySem.Calls

/-- raised, its dict in the ledger -/
def RaisedD (base G : Heap) (l : List Env) (e d : Addr) (od : Obj) (news : List (Addr × Obj)) (h : Heap) : Prop :=
  ∃ B, base.StaysIn B ∧ (∀ b o, G.get? b = some o → b ∉ l.filterMap (·.frame) → B.get? b = some o) ∧ (∀ q ∈ (d, od) :: news, B.get? q.1 = some q.2 ∧ G.get? q.1 = none ∧ base.get? q.1 = none) ∧ FlyD B l e d .none h

section
variable {M : Model} {A : Around} {E : Value → Shared → Prop} {s' : Shared} {base g h : Heap} {outer : List Env} {L a e : Addr} {m : Str → Option Value} {name : Str} {scope : Scope} {cd : Value} {Q : Unit → Shared → Prop} {news : List (Addr × Obj)}
theorem leave_raiseD (K : Below A base outer g) (hx : MadeQ h s'.heap e) (F : Fr g L h m) (N : News g L h news)
    (hQ : ∀ h' d od, HasCode od → RaisedD base g outer e d od news h' → g.UpToSlots h' → Q () { s' with heap := h' }) (hk : scope.kind = .function := by rfl) :
    wpAny M (A.deeper (envOf name scope L a cd)) (leaving (envOf name scope L a cd) (.ref e)) Q E s' := by
  have K' := K.push (name := name) (a := a) (cd := cd) F hk
  obtain ⟨d, od, t, he, hd, hc, hdn⟩ := hx.there
  generalize hfs : (envOf name scope L a cd :: outer).filterMap (·.frame) = fs at *
  have memK : ∀ b ∈ fs, base.get? b = none ∧ ∃ o, h.get? b = some o ∧ ∀ vs, o.data ≠ .fields vs := fun b hb => by
    subst hfs
    exact K'.frames.mem hb
  have newB : ∀ b o, h.get? b = some o → b ∉ fs → (hideAll s'.heap (e :: fs)).get? b = some o := fun b o q nm => hideAll_get _ (hx.keeps b o q) fun hm => by
    rcases List.mem_cons.mp hm with rfl | hm
    · rw [hx.new] at q
      cases q
    · exact nm hm
  have st : base.StaysIn (hideAll s'.heap (e :: fs)) := fun b o q => newB b o (K'.stays b o q) fun hm => by
    rw [(memK b hm).1] at q
    cases q
  have sg : ∀ b o, g.get? b = some o → b ∉ outer.filterMap (·.frame) → (hideAll s'.heap (e :: fs)).get? b = some o := fun b o q nm => newB b o (F.keep b o q) fun hm => by
    subst hfs
    rcases kts_mem hm with z | z
    · rw [z, kts_self F] at q
      cases q
    · exact nm z
  have hen : (hideAll s'.heap (e :: fs)).get? e = none := hideAll_none _ (.head _)
  have hff : s'.heap.FunFrames (hideAll s'.heap (e :: fs)) (envOf name scope L a cd :: outer) :=
    funFrames_hide (K'.frames.of_keeps fun b o hb _ => ⟨o, hx.keeps b o hb, rfl⟩) fun env he' b hb => by
      subst hfs
      exact .tail _ (List.mem_filterMap.mpr ⟨env, he', hb⟩)
  have gb : ∀ b, g.get? b = none → base.get? b = none := fun b hb => fresh_of_stays K.stays hb
  have hl : ∀ q ∈ (d, od) :: news, (hideAll s'.heap (e :: fs)).get? q.1 = some q.2 ∧ g.get? q.1 = none ∧ base.get? q.1 = none := fun q hq => by
    rcases List.mem_cons.mp hq with rfl | hq
    · have gd : g.get? d = none := kts_none F.keep hdn
      refine ⟨hideAll_get _ hd fun hm => ?_, gd, gb _ gd⟩
      rcases List.mem_cons.mp hm with z | hm
      · have z' : d = e := z
        rw [z', he] at hd
        obtain ⟨es, n, t, hdt, _⟩ := hc
        cases hd
        cases hdt
      · obtain ⟨_, o, ho, _⟩ := memK d hm
        rw [hdn] at ho
        cases ho
    · obtain ⟨n1, n2, n3⟩ := N q hq
      refine ⟨newB _ _ n1 fun hm => ?_, n3, gb _ n3⟩
      subst hfs
      rcases kts_mem hm with z | z
      · exact n2 z
      · obtain ⟨_, o, ho, _⟩ := K.frames.mem z
        rw [n3] at ho
        cases ho
  unfold leaving
  refine wpAny_bind (noteD_first (d := d) K'.stack hff rfl he (fun b o q => of_hideAll _ q) hen rfl rfl ⟨rfl, rfl⟩ fun h₁ R₁ u₁ => ?_)
  refine flightD R₁ fun h₂ R₂ u₂ => ?_
  exact hQ h₂ d od hc ⟨_, st, sg, hl, R₂.tail⟩ (((Heap.UpToSlots.of_keeps F.keep).trans (Heap.UpToSlots.of_keeps hx.keeps)).trans (u₁.trans u₂))
end

section
variable {w : World} {A₀ : Around} {E : Value → Shared → Prop} {s' : Shared} {base g g₀ G : Heap} {outer : List Env} {L a e d : Addr} {od : Obj} {m : Str → Option Value} {name : Str} {scope : Scope} {cd : Value}
  {n : Str} {b₀ : Stmt} {suite : List Stmt} {pos np : Pos} {rest : List ExceptHandler} {Q : Flow → Shared → Prop} {news : List (Addr × Obj)} {KF : Frag} {prog : Program}
  {p : Program} {loose : List Str} {mean : ExcName → Option Value} {mg mb : Str → Option Value} {x : Str}
theorem caught_Q (R : RaisedD base G (envOf name scope L a cd :: outer) e d od news s'.heap) (F : Fr g L G m) (K : Below A₀ base outer g) (hsm : G.UpToSlots s'.heap) (XB : KF.In base) (TB : Top p loose mean mg mb base)
    (D : KtsDicts (outer.filterMap (·.frame)) g) (T0 : KtsTurn (outer.filterMap (·.frame)) g₀ g)
    (ex : nsIn KF mainGlobals x = some (some (.ref 38))) (q : ktsIn KF 38 "BaseException" = true)
    (k : ∀ h' g' tk oe vs, KtsTurn (outer.filterMap (·.frame)) g₀ g' → Fr g' L h' (fun y => if y = n then some (.ref e) else m y) → News g' L h' ((e, oe) :: (d, od) :: news) → oe.cls = .ref 38 → oe.dict = some d → oe.data = .fields vs → Below A₀ base outer g' → KF.In g' → Top p loose mean mg mb g' → KtsDicts (outer.filterMap (·.frame)) g' →
      wpAny (model prog w) ((A₀.deeper (envOf name scope L a cd)).mark (some (.ref e))) (execs (b₀ :: suite) (envOf name scope L a cd))
        (fun f s₄ => wpAny (model prog w) (A₀.deeper (envOf name scope L a cd)) (do bindName (envOf name scope L a cd) n .none; unbindBehindTheSuite (envOf name scope L a cd) n pos) (fun _ s₅ => Q f s₅) E s₄)
        (AsSuiteRaised (model prog w) ((A₀.deeper (envOf name scope L a cd)).mark (some (.ref e))) (envOf name scope L a cd) n pos (notedBy (model prog w) ((A₀.deeper (envOf name scope L a cd)).mark (some (.ref e))) (envOf name scope L a cd) (cameBackBy (model prog w) (A₀.deeper (envOf name scope L a cd)) (envOf name scope L a cd) E)))
        { s' with heap := h', toks := tk })
    (hk : scope.kind = .function := by rfl) (hlo : (envOf name scope L a cd).kindOf n = some .local := by rfl) (hx : (envOf name scope L a cd).kindOf x = some .globalImplicit := by rfl) (hd : (x == ("__debug__" : Str)) = false := by decide) :
    wpAny (model prog w) (A₀.deeper (envOf name scope L a cd)) (noteFrame (.ref e) (envOf name scope L a cd))
      (fun _ s₂ => wpAny (model prog w) (A₀.deeper (envOf name scope L a cd)) (setFlight (.ref e) none) (fun _ s₃ =>
        wpAny (model prog w) (A₀.deeper (envOf name scope L a cd)) (handleBy (.ref e) (envOf name scope L a cd) (.ExceptHandler (some (.Name x np)) (some n) (b₀ :: suite) pos :: rest)) Q E s₃) E s₂) E s' := by
  obtain ⟨B, hB, hBG, hl, hfl⟩ := R
  have hL : B.get? L = none := by
    obtain ⟨_, ⟨L', _, hf, hn', _⟩, _⟩ := hfl.2.2.1
    obtain rfl : L = L' := Option.some.inj hf
    exact hn'
  refine noteD_next (Around.frames_deeper K.stack) rfl hfl fun h₄ hheld₄ hsm₄ => ?_
  refine flightD hheld₄ fun h₅ hheld hsm₅' => ?_
  have hsm₅ := hsm₄.trans hsm₅'
  obtain ⟨g₅, T₅, F₅, K₅⟩ := kts_ground K F hBG hheld.1 (hsm.trans hsm₅)
  have X₅ : KF.In g₅ := XB.keeps K₅.stays
  have P₅ : TopRead p loose mg mb g₅ := topRead_of (TB.keeps K₅.stays)
  obtain ⟨oe₅, _, _, _, _, hob, hobc, _⟩ := hheld.2.2.2
  obtain ⟨nm, q', N, bs, bm, hdct, sn, sub, ab, col, dd, k0, k1, k2, k3, k5, newId, hC, hbase, hbT⟩ := kts_cls X₅ q
  have hC₅ := F₅.keep _ _ hC
  refine wpAny_handleBy_cons (codeAny_handlers_test (name_K F₅ X₅ P₅ ex ?_ hk hx hd)) (by intro q; cases q)
  refine wpAny_excMatches_sub_self hC₅ hob hobc.1 hbase (codeAny_handlers_suite_as ?_)
  refine flightD hheld fun h₆ hfl₆ hsm₆ => ?_
  obtain ⟨g₆, T₆, F₆, K₆⟩ := kts_ground K F hBG hfl₆.1 ((hsm.trans hsm₅).trans hsm₆)
  obtain ⟨oe, ws, _, _, _, hoe, hoec, hoed, _⟩ := hfl₆.2.2.2
  have ne₆ : g₆.get? e = none := T₆.none_ _ (kts_fresh F hBG hfl₆.2.1 fun o ho m => by
    obtain ⟨_, o', ho', hd⟩ := K.frames.mem m
    rw [ho] at ho'
    cases ho'
    obtain ⟨sl, hs⟩ := ((hsm.trans hsm₅).trans hsm₆) _ _ (F.keep _ _ ho) hd
    rw [hoe] at hs
    cases hs
    exact hd _ hoed)
  have Nl : News g₆ L h₆ ((d, od) :: news) := fun q hq => ⟨hfl₆.1 _ _ (hl q hq).1, (fun z => by have := (hl q hq).1; rw [z, hL] at this; cases this), T₆.none_ _ (kts_none F.keep (hl q hq).2.1)⟩
  have N₆ := News.more F₆ Nl hoe (fun es n q => by rw [hoed] at q; cases q) ne₆
  refine stN F₆ N₆ (fun h₇ F₇ N₇ => ?_) hk hlo
  exact k h₇ g₆ _ oe ws (T0.trans T₆) F₇ N₇ hoec.1 hoec.2 hoed K₆ (XB.keeps K₆.stays) (TB.keeps K₆.stays) (D.turn T₆)
end

section
variable {w : World} {A : Around} {E : Value → Shared → Prop} {s : Shared} {env : Env}

/-- what may be raised: an exception of the text's own class -/
def RaisableQ (K : Frag) (E : Value → Shared → Prop) (v : Value) (s₁ : Shared) : Prop :=
  ∃ e d t, v = .ref e ∧ K.In s₁.heap ∧ s₁.heap.get? e = some { cls := .ref 38, dict := some d, data := .fields #[.ref t, .none, .none, .none, .bool false, .none] } ∧ E (.ref e) s₁

theorem Raise_q {M : Model} {K : Frag} {h₀ : Heap} {x : Expr} {pos : Pos} {Q : Flow → Shared → Prop} (X₀ : K.In h₀) (hh : A.handled = none) (q : ktsIn K 38 "BaseException" = true)
    (h : wpAny M A (eval x env) (RaisableQ K E) E s) : wpAny M A (exec (.Raise (some x) none pos) env) Q E s := by
  show wpAny M A (do standAt pos; raiseStmt env (some (do let v ← eval x env; standAt pos; pure v)) none) Q E s
  refine wpAny_bind (wpAny_standAt ?_)
  unfold raiseStmt
  refine wpAny_bind (wpAny_bind (wpAny_mono h (fun v s₁ h₁ => wpAny_bind (wpAny_standAt (wpAny_pure ?_))) fun _ _ x => x))
  obtain ⟨e, d, t, rfl, X, he, hE⟩ := h₁
  obtain ⟨nm, q', N, bs, bm, hdct, sn, sub, ab, col, dd, k0, k1, k2, k3, k5, newId, hC, hbase, hbT⟩ := kts_cls X q
  have hcB : (Value.ref 38 :: bm).contains (.type "BaseException") = true := by rw [List.contains_cons, hbase, Bool.or_true]
  obtain ⟨hp, g, dr, tk, os⟩ := s₁
  repeat (first | with_reducible refine wpAny_loadPart_at he ?_ | with_reducible refine wpAny_loadPart_at hC ?_ | (with_reducible refine wpAny_isSubtype_exc hC ?_; rw [hcB]) | wp_step)
  exact wpAny_raiseNew_none hh hE

theorem call_q {mean : ExcName → Option Value} {mg mb : Str → Option Value} {h₀ : Heap} {L : Addr} {m : Str → Option Value} {t1 t2 t3 : Tok} (F : Fr h₀ L s.heap m) (X₀ : (Mine.hd.heap_39 w.params).In h₀) (T : Top Mine.hd.view_39 (looseW Mine.hd.view_39 []) mean mg mb h₀) (hh : A.handled = none) (hdp : A.depth ≤ 980) (hun : A.units ≤ 5000)
    (h : ∀ e h' tk, MadeQ s.heap h' e → E (.ref e) { s with heap := h', toks := tk }) :
    wpAny (model PySem.Challenge.rw_tk0085_01.row.prog w) A (call (.ref 38) [.int 3 t1, .int 0 t2, .str (Str.ofString "more than is let") t3]) (RaisableQ (Mine.hd.heap_39 w.params) E) E s := by
  have X := X₀.keeps F.keep
  refine weakenA (mkExc w s _ E t1 t2 t3 X (T.keeps F.keep) fun e h' tk hm => ?_) hh hdp hun (.inl rfl) (.inl rfl)
  obtain ⟨d, od, t, he, _⟩ := hm.there
  exact ⟨e, d, t, rfl, X.keeps hm.keeps, he, h e h' tk hm⟩
end

end

section
open PySem PySem.W PyProof.Rows PySem.Calls

theorem get_codeN {w : World} {A : Around} {E : Value → Shared → Prop} {s : Shared} {Q : Value → Shared → Prop} {h₀ : Heap} {L : Addr} {m : Str → Option Value} {e d : Addr} {oe od : Obj} {vs : Array Value} {news : List (Addr × Obj)} {expr : Bool} (F : Fr h₀ L s.heap m) (X : (Mine.hd.heap_39 w.params).In h₀)
    (N : News h₀ L s.heap ((e, oe) :: (d, od) :: news)) (h1 : oe.cls = .ref 38) (h2 : oe.dict = some d) (h3 : oe.data = .fields vs) (hc : HasCode od)
    (hQ : ∀ t tk, Q (.int 3 t) { s with toks := tk }) :
    wpAny (model PySem.Challenge.rw_tk0085_01.row.prog w) A (getAttr (.ref e) (Str.ofString "code") expr) Q E s := by
  obtain ⟨c, d', dt, sl⟩ := oe
  dsimp only at h1 h2 h3
  subst h1 h2 h3
  exact get_code w (X.keeps F.keep) (N _ (.head _)).1 (N _ (.tail _ (.head _))).1 hc hQ


/-- a credit's dict -/
abbrev crD (w : World) (limit used : Int) (told : Value) (t1 t2 k1 k2 k3 : Tok) : Obj :=
  dictOf [⟨PyData.keyHash w.params (Str.ofString "limit"), .str (Str.ofString "limit") k1, .int limit t1⟩, ⟨PyData.keyHash w.params (Str.ofString "used"), .str (Str.ofString "used") k2, .int used t2⟩, ⟨PyData.keyHash w.params (Str.ofString "told_at"), .str (Str.ofString "told_at") k3, told⟩] 3

section
set_option maxRecDepth 100000 in
set_option maxHeartbeats 8000000 in
theorem spentF (w : World) {mean : ExcName → Option Value} {mg mb : Str → Option Value} (gd : Option (List Code)) (cn : Str) (cs : Scope) (a : Addr) (ccd : Value) (outer : List Env) (A₀ : Around) (base h₀ g₀ : Heap) (L : Addr) (m : Str → Option Value) (s : Shared) (Q E : Value → Shared → Prop)
    (news : List (Addr × Obj)) (cr d : Addr) (limit used many : Int) (t1 t2 t3 k1 k2 k3 : Tok) (told : Value)
    (B : Below A₀ base outer h₀) (F : Fr h₀ L s.heap m) (X : (Mine.hd.heap_39 w.params).In h₀)
    (N : News h₀ L s.heap ((cr, instObj 93 d) :: (d, crD w limit used told t1 t2 k1 k2 k3) :: news))
    (T : Top Mine.hd.view_39 (looseW Mine.hd.view_39 []) mean mg mb h₀) (XB : (Mine.hd.heap_39 w.params).In base) (TB : Top Mine.hd.view_39 (looseW Mine.hd.view_39 []) mean mg mb base)
    (D : KtsDicts (outer.filterMap (·.frame)) h₀) (T0 : KtsTurn (outer.filterMap (·.frame)) g₀ h₀)
    (hcs : cs.kind = .function) (hlt : @LT.lt Nat _ d cr) (hoff : OwnOff news [d]) (hm : many > limit - used)
    (hret : ∀ g' h' tk', KtsTurn (outer.filterMap (·.frame)) g₀ g' → Fr g' L h' m → News g' L h' ((cr, instObj 93 d) :: (d, crD w limit used told t1 t2 k1 k2 k3) :: news) → Below A₀ base outer g' → (Mine.hd.heap_39 w.params).In g' → Top Mine.hd.view_39 (looseW Mine.hd.view_39 []) mean mg mb g' → KtsDicts (outer.filterMap (·.frame)) g' → Q (.bool false) { s with heap := h', toks := tk' }) :
    wpAny (model PySem.Challenge.rw_tk0085_01.row.prog w) (ktrTop 900 900 gd cn cs L a ccd [] outer) (call (.ref 111) [.ref cr, .int many t3]) Q E s := by
  k_with_none
  w_top off
  k_with "own exec Raise some none" => ((k_here; k_dflt (refine' Raise_q ?o9X ?o9h ?o9q ?_; (case o9X => k_asm); (case o9h => exact rfl); (case o9q => kts_isx); k_whole)))
  k_with "own call ref" => ((k_here; (with_reducible show wpAny _ _ (PySem.call (Value.ref 38) _) _ _ _); k_dflt (refine' call_q ?o9F ?o9X ?o9T ?o9h ?o9d ?o9u ?_; (case o9F => k_asm); (case o9X => k_asm); (case o9T => k_asm); (case o9h => exact rfl); (case o9d => exact Nat.le_of_ble_eq_true rfl); (case o9u => exact Nat.le_of_ble_eq_true rfl); k_whole); intro _ _ _ _))
  k_with "own leaving ref" => ((k_here; (refine' leave_raiseD ?o9k1 ?o9k0 ?o9k2 ?o9k3 ?_; (case o9k0 => assumption); (case o9k1 => assumption); (case o9k2 => assumption); (case o9k3 => k_asm); k_whole); intro _ _ _ _ R' U'; (try dsimp only at R' U' ⊢)))
  k_with "own noteFrame ref" => ((k_here; k_dflt (refine' caught_Q ?o9R ?o9F ?o9K ?o9U ?o9XB ?o9TB ?o9D ?o9T0 ?o9ex ?o9q ?_; (case o9R => assumption); (case o9F => assumption); (case o9K => assumption); (case o9U => assumption); (case o9XB => assumption); (case o9TB => assumption); (case o9D => assumption); (case o9T0 => first | assumption | exact KtsTurn.refl); (case o9ex => k_is); (case o9q => kts_isx); k_whole); intro _ _ _ _ _ _ _ _ _ _ _ K' _ _ _; (try k_lift K'); (try k_sweep)))
  k_with "own getAttr ref" => ((k_here; (with_reducible show wpAny _ _ (PySem.getAttr (Value.ref _) (Str.ofString "code") _) _ _ _); k_dflt (refine' get_codeN ?o9F ?o9X ?o9N ?o9h1 ?o9h2 ?o9h3 ?o9hc ?_; (case o9F => k_asm); (case o9X => k_asm); (case o9N => k_asm); (case o9h1 => assumption); (case o9h2 => assumption); (case o9h3 => assumption); (case o9hc => assumption); k_whole); intro _ _))
  revert X
  k_fill
  intro X
  refine wpAny_call ?_
  k_dflt (refine' code_defS ?k1 ?k2 ?k3 ?k4 ?k5 ?XB ?TB ?D ?T0 ?kA ?k6 ?k7 ?k8 ?k9 ?kB ?_ ?cK ?c2 ?c3 ?c4 ?c5; (case kA => exact rfl); (case k2 => k_asm); (case k1 => k_asm); (case XB => exact XB); (case TB => exact TB); (case D => exact D); (case T0 => exact T0); (case k3 => k_asm); (case k4 => k_asm); (case k5 => k_asm); (case k6 => k_is); (case k7 => k_is); (case k8 => k_room); (case k9 => exact BindsTo.of_eq rfl); (case kB => exact locs rfl); (case cK => assumption); (case c2 => exact rfl); (case c3 => exact rfl); (case c4 => exact rfl); (case c5 => decide); k_whole; intro g' L' h' FG' F' N' B' X' T' D'; (try dsimp only); (try k_fold))
  k_steps
  exact hret _ _ _ (by assumption) (by assumption) (kst_newsOf (by assumption) (fun p hp => .tail _ (.tail _ hp))) (by assumption) (by assumption) (by assumption) (by assumption)

set_option maxRecDepth 100000 in
set_option maxHeartbeats 8000000 in
theorem spentT (w : World) {mean : ExcName → Option Value} {mg mb : Str → Option Value} (gd : Option (List Code)) (cn : Str) (cs : Scope) (a : Addr) (ccd : Value) (outer : List Env) (A₀ : Around) (base h₀ g₀ : Heap) (L : Addr) (m : Str → Option Value) (s : Shared) (Q E : Value → Shared → Prop)
    (news : List (Addr × Obj)) (cr d : Addr) (limit used many : Int) (t1 t2 t3 k1 k2 k3 : Tok) (told : Value)
    (B : Below A₀ base outer h₀) (F : Fr h₀ L s.heap m) (X : (Mine.hd.heap_39 w.params).In h₀)
    (N : News h₀ L s.heap ((cr, instObj 93 d) :: (d, crD w limit used told t1 t2 k1 k2 k3) :: news))
    (T : Top Mine.hd.view_39 (looseW Mine.hd.view_39 []) mean mg mb h₀) (XB : (Mine.hd.heap_39 w.params).In base) (TB : Top Mine.hd.view_39 (looseW Mine.hd.view_39 []) mean mg mb base)
    (D : KtsDicts (outer.filterMap (·.frame)) h₀) (T0 : KtsTurn (outer.filterMap (·.frame)) g₀ h₀)
    (hcs : cs.kind = .function) (hlt : @LT.lt Nat _ d cr) (hoff : OwnOff news [d]) (hm : many ≤ limit - used)
    (hret : ∀ h' tk' t', Fr h₀ L h' m → News h₀ L h' ((cr, instObj 93 d) :: (d, crD w limit (used + many) told t1 t' k1 k2 k3) :: news) → Q (.bool true) { s with heap := h', toks := tk' }) :
    wpAny (model PySem.Challenge.rw_tk0085_01.row.prog w) (ktrTop 900 900 gd cn cs L a ccd [] outer) (call (.ref 111) [.ref cr, .int many t3]) Q E s := by
  k_with_none
  w_top off
  k_with "own exec Raise some none" => ((k_here; k_dflt (refine' Raise_q ?o9X ?o9h ?o9q ?_; (case o9X => k_asm); (case o9h => exact rfl); (case o9q => kts_isx); k_whole)))
  k_with "own call ref" => ((k_here; (with_reducible show wpAny _ _ (PySem.call (Value.ref 38) _) _ _ _); k_dflt (refine' call_q ?o9F ?o9X ?o9T ?o9h ?o9d ?o9u ?_; (case o9F => k_asm); (case o9X => k_asm); (case o9T => k_asm); (case o9h => exact rfl); (case o9d => exact Nat.le_of_ble_eq_true rfl); (case o9u => exact Nat.le_of_ble_eq_true rfl); k_whole); intro _ _ _ _))
  k_with "own leaving ref" => ((k_here; (refine' leave_raiseD ?o9k1 ?o9k0 ?o9k2 ?o9k3 ?_; (case o9k0 => assumption); (case o9k1 => assumption); (case o9k2 => assumption); (case o9k3 => k_asm); k_whole); intro _ _ _ _ R' U'; (try dsimp only at R' U' ⊢)))
  k_with "own noteFrame ref" => ((k_here; k_dflt (refine' caught_Q ?o9R ?o9F ?o9K ?o9U ?o9XB ?o9TB ?o9D ?o9T0 ?o9ex ?o9q ?_; (case o9R => assumption); (case o9F => assumption); (case o9K => assumption); (case o9U => assumption); (case o9XB => assumption); (case o9TB => assumption); (case o9D => assumption); (case o9T0 => first | assumption | exact KtsTurn.refl); (case o9ex => k_is); (case o9q => kts_isx); k_whole); intro _ _ _ _ _ _ _ _ _ _ _ K' _ _ _; (try k_lift K'); (try k_sweep)))
  k_with "own getAttr ref" => ((k_here; (with_reducible show wpAny _ _ (PySem.getAttr (Value.ref _) (Str.ofString "code") _) _ _ _); k_dflt (refine' get_codeN ?o9F ?o9X ?o9N ?o9h1 ?o9h2 ?o9h3 ?o9hc ?_; (case o9F => k_asm); (case o9X => k_asm); (case o9N => k_asm); (case o9h1 => assumption); (case o9h2 => assumption); (case o9h3 => assumption); (case o9hc => assumption); k_whole); intro _ _))
  revert X
  k_fill
  intro X
  refine wpAny_call ?_
  k_dflt (refine' code_defS ?k1 ?k2 ?k3 ?k4 ?k5 ?XB ?TB ?D ?T0 ?kA ?k6 ?k7 ?k8 ?k9 ?kB ?_ ?cK ?c2 ?c3 ?c4 ?c5; (case kA => exact rfl); (case k2 => k_asm); (case k1 => k_asm); (case XB => exact XB); (case TB => exact TB); (case D => exact D); (case T0 => exact T0); (case k3 => k_asm); (case k4 => k_asm); (case k5 => k_asm); (case k6 => k_is); (case k7 => k_is); (case k8 => k_room); (case k9 => exact BindsTo.of_eq rfl); (case kB => exact locs rfl); (case cK => assumption); (case c2 => exact rfl); (case c3 => exact rfl); (case c4 => exact rfl); (case c5 => decide); k_whole; intro g' L' h' FG' F' N' B' X' T' D'; (try dsimp only); (try k_fold))
  k_steps
  exact hret _ _ _ (by assumption) (by assumption)
end

/-- one spending, either way: the caller's ground may be another one behind it -/
theorem spent_c (w : World) {mean : ExcName → Option Value} {mg mb : Str → Option Value} {A : Around} {cn : Str} {cs : Scope} {a : Addr} {ccd : Value} {outer : List Env} {A₀ : Around} {base h₀ g₀ : Heap} {L : Addr} {m : Str → Option Value} {s : Shared} {Q E : Value → Shared → Prop}
    {news : List (Addr × Obj)} {cr d : Addr} {limit used many : Int} {t1 t2 t3 k1 k2 k3 : Tok} {told : Value}
    (B : Below A₀ base outer h₀) (F : Fr h₀ L s.heap m) (X : (Mine.hd.heap_39 w.params).In h₀)
    (N : News h₀ L s.heap ((cr, instObj 93 d) :: (d, crD w limit used told t1 t2 k1 k2 k3) :: news))
    (T : Top Mine.hd.view_39 (looseW Mine.hd.view_39 []) mean mg mb h₀) (XB : (Mine.hd.heap_39 w.params).In base) (TB : Top Mine.hd.view_39 (looseW Mine.hd.view_39 []) mean mg mb base)
    (D : KtsDicts (outer.filterMap (·.frame)) h₀) (T0 : KtsTurn (outer.filterMap (·.frame)) g₀ h₀)
    (hA : A.frames = some (envOf cn cs L a ccd :: outer)) (hh : A.handled = none) (hdp : A.depth ≤ 900) (hun : A.units ≤ 900)
    (hcs : cs.kind = .function) (hlt : @LT.lt Nat _ d cr) (hoff : OwnOff news [d])
    (hT : many ≤ limit - used → ∀ h' tk' t', Fr h₀ L h' m → News h₀ L h' ((cr, instObj 93 d) :: (d, crD w limit (used + many) told t1 t' k1 k2 k3) :: news) → Q (.bool true) { s with heap := h', toks := tk' })
    (hF : many > limit - used → ∀ g' h' tk', KtsTurn (outer.filterMap (·.frame)) g₀ g' → Fr g' L h' m → News g' L h' ((cr, instObj 93 d) :: (d, crD w limit used told t1 t2 k1 k2 k3) :: news) → Below A₀ base outer g' → (Mine.hd.heap_39 w.params).In g' → Top Mine.hd.view_39 (looseW Mine.hd.view_39 []) mean mg mb g' → KtsDicts (outer.filterMap (·.frame)) g' →
      Q (.bool false) { s with heap := h', toks := tk' }) :
    wpAny (model PySem.Challenge.rw_tk0085_01.row.prog w) A (call (.ref 111) [.ref cr, .int many t3]) Q E s := by
  by_cases hm : many ≤ limit - used
  · exact weakenA (spentT w A.guards cn cs a ccd outer A₀ base h₀ g₀ L m s Q E news cr d limit used many t1 t2 t3 k1 k2 k3 told B F X N T XB TB D T0 hcs hlt hoff hm (hT hm)) hh hdp hun (.inr hA.symm) (.inr rfl)
  · have hm' : many > limit - used := by omega
    exact weakenA (spentF w A.guards cn cs a ccd outer A₀ base h₀ g₀ L m s Q E news cr d limit used many t1 t2 t3 k1 k2 k3 told B F X N T XB TB D T0 hcs hlt hoff hm' (hF hm')) hh hdp hun (.inr hA.symm) (.inr rfl)

/-- the same, the ledger in the order in which the loops keep it -/
theorem spent_p {w : World} {mean : ExcName → Option Value} {mg mb : Str → Option Value} {A : Around} {cn : Str} {cs : Scope} {a : Addr} {ccd : Value} {outer : List Env} {A₀ : Around} {base h₀ g₀ : Heap} {L : Addr} {m : Str → Option Value} {s : Shared} {Q E : Value → Shared → Prop}
    {post : List (Addr × Obj)} {p1 p2 : Addr × Obj} {cr d : Addr} {limit used many : Int} {t1 t2 t3 k1 k2 k3 : Tok} {told : Value}
    (B : Below A₀ base outer h₀) (F : Fr h₀ L s.heap m) (X : (Mine.hd.heap_39 w.params).In h₀)
    (N : News h₀ L s.heap (p1 :: p2 :: (cr, instObj 93 d) :: (d, crD w limit used told t1 t2 k1 k2 k3) :: post))
    (T : Top Mine.hd.view_39 (looseW Mine.hd.view_39 []) mean mg mb h₀) (XB : (Mine.hd.heap_39 w.params).In base) (TB : Top Mine.hd.view_39 (looseW Mine.hd.view_39 []) mean mg mb base)
    (D : KtsDicts (outer.filterMap (·.frame)) h₀) (T0 : KtsTurn (outer.filterMap (·.frame)) g₀ h₀)
    (hA : A.frames = some (envOf cn cs L a ccd :: outer)) (hh : A.handled = none) (hdp : A.depth ≤ 900) (hun : A.units ≤ 900)
    (hcs : cs.kind = .function) (hlt : @LT.lt Nat _ d cr) (h1 : p1.1 ≠ d) (h2 : p2.1 ≠ d) (hpost : ∀ p ∈ post, p.1 ≠ d)
    (hT : many ≤ limit - used → ∀ h' tk' t', Fr h₀ L h' m → News h₀ L h' (p1 :: p2 :: (cr, instObj 93 d) :: (d, crD w limit (used + many) told t1 t' k1 k2 k3) :: post) → Q (.bool true) { s with heap := h', toks := tk' })
    (hF : many > limit - used → ∀ g' h' tk', KtsTurn (outer.filterMap (·.frame)) g₀ g' → Fr g' L h' m → News g' L h' (p1 :: p2 :: (cr, instObj 93 d) :: (d, crD w limit used told t1 t2 k1 k2 k3) :: post) → Below A₀ base outer g' → (Mine.hd.heap_39 w.params).In g' → Top Mine.hd.view_39 (looseW Mine.hd.view_39 []) mean mg mb g' → KtsDicts (outer.filterMap (·.frame)) g' →
      Q (.bool false) { s with heap := h', toks := tk' }) :
    wpAny (model PySem.Challenge.rw_tk0085_01.row.prog w) A (call (.ref 111) [.ref cr, .int many t3]) Q E s := by
  have one : ∀ {a b c e : Addr × Obj} {l : List (Addr × Obj)} (p : Addr × Obj), p ∈ c :: e :: a :: b :: l → p ∈ a :: b :: c :: e :: l := fun p hp => by
    rcases List.mem_cons.mp hp with rfl | hp
    · exact .tail _ (.tail _ (.head _))
    · rcases List.mem_cons.mp hp with rfl | hp
      · exact .tail _ (.tail _ (.tail _ (.head _)))
      · rcases List.mem_cons.mp hp with rfl | hp
        · exact .head _
        · rcases List.mem_cons.mp hp with rfl | hp
          · exact .tail _ (.head _)
          · exact .tail _ (.tail _ (.tail _ (.tail _ hp)))
  refine spent_c w (news := p1 :: p2 :: post) B F X (kst_newsOf N one) T XB TB D T0 hA hh hdp hun hcs hlt ?_ (fun hm h' tk' t' F' N' => hT hm h' tk' t' F' (kst_newsOf N' one)) fun hm g' h' tk' T' F' N' => hF hm g' h' tk' T' F' (kst_newsOf N' one)
  intro p hp b hb
  obtain rfl := List.mem_singleton.mp hb
  rcases List.mem_cons.mp hp with rfl | hp
  · exact h1
  · rcases List.mem_cons.mp hp with rfl | hp
    · exact h2
    · exact hpost p hp

end

section
open PySem PySem.W PyProof.Rows PySem.Calls

def IterAt (o : Obj) (l : Addr) (i : Nat) : Prop := o.cls = .type "list_iterator" ∧ o.data = .fields #[.ref l, .int i 0]

/-- a turn's end, the ground under it another one -/
def EndG (L it l : Addr) (ol oit : Obj) (Inv : Addr → Nat → Heap → (Str → Option Value) → List (Addr × Obj) → Prop) (i : Nat) (s : Shared) (Q : Flow → Shared → Prop) (f : Flow) (s₃ : Shared) : Prop :=
  match f with
  | .ret v => Q (.ret v) s₃
  | .brk => Q .next s₃
  | _ => ∃ g m news h tk, s₃ = { s with heap := h, toks := tk } ∧ Fr g L h m ∧ News g L h ((it, oit) :: (l, ol) :: news) ∧ (∀ p ∈ news, p.1 ≠ it) ∧ Inv it (i + 1) g m news

section
variable {prog : Program} {w : World} {A : Around} {s : Shared} {env : Env}

theorem For_ground {E : Value → Shared → Prop} {Q : Flow → Shared → Prop} {x y : Str} {px py pos : Pos} {body : List Stmt} {l : Addr} {vs : List Value} {nn : Nat} {g₀ : Heap} {m₀ : Str → Option Value} {news₀ : List (Addr × Obj)}
    (Inv : Addr → Nat → Heap → (Str → Option Value) → List (Addr × Obj) → Prop)
    (hh : A.handled = none) (hx : env.kindOf x = some .local) (hp : (env.scope.kind == .class || (env.scope.kind == .module && env.locals != env.globals)) = false)
    (hv : wpAny (model prog w) A (eval (.Name y py) env) (fun v s₁ => v = .ref l ∧ s₁ = s) E s)
    (F : Fr g₀ env.locals s.heap m₀) (N : News g₀ env.locals s.heap ((l, listOf vs.toArray nn) :: news₀))
    (h0 : ∀ it, @LT.lt Nat _ l it → (∀ p ∈ news₀, p.1 < it) → Inv it 0 g₀ m₀ news₀)
    (turn : ∀ it i v g m news h tk oit, vs[i]? = some v → Inv it i g m news → Fr g env.locals h (fun z => if z = x then some v else m z) →
      News g env.locals h ((it, oit) :: (l, listOf vs.toArray nn) :: news) → (∀ p ∈ news, p.1 ≠ it) → @LT.lt Nat _ l it →
      wpAny (model prog w) A (execs body env) (EndG env.locals it l (listOf vs.toArray nn) oit Inv i s Q) E { s with heap := h, toks := tk })
    (done : ∀ it g m news h tk, Inv it vs.length g m news → Fr g env.locals h m → News g env.locals h ((l, listOf vs.toArray nn) :: news) → Q .next { s with heap := h, toks := tk })
    (hE : PassesOwn (model prog w) A env E := by passes_own) :
    wpAny (model prog w) A (exec (.For (.Name x px) (.Name y py) body [] pos) env) Q E s := by
  refine wpAny_For (wpAny_mono hv (fun v s₁ hv' => ?_) fun _ _ e => e) (by intro _; rfl)
  obtain ⟨rfl, rfl⟩ := hv'
  have hls : s₁.heap.IsList l vs.toArray := ⟨_, (N _ (.head _)).1, rfl, nn, rfl⟩
  refine wpAny_pyIter_list hls ?_
  generalize hit : s₁.heap.objs.size = it
  have hlit : @LT.lt Nat _ l it := hit ▸ Heap.lt_size (N _ (.head _)).1
  have low : ∀ p ∈ news₀, p.1 < it := fun p hp => hit ▸ Heap.lt_size (N p (.tail _ hp)).1
  refine codeAny_forLoop (R := fun r s' => match r with | .ok f => Q f s' | .error e => cameBackBy (model prog w) A env E e s')
    (fun k s' => ∃ i g m news h tk oit, k = vs.length + 1 - i ∧ i ≤ vs.length ∧ s' = { s₁ with heap := h, toks := tk } ∧ IterAt oit l i ∧ Fr g env.locals h m ∧ News g env.locals h ((it, oit) :: (l, listOf vs.toArray nn) :: news) ∧ (∀ p ∈ news, p.1 ≠ it) ∧ Inv it i g m news) ?_ (vs.length + 1) ?_
  · rintro k s' ⟨i, g, m, news, h, tk, oit, rfl, hi, rfl, hoit, F', N', off, hI⟩
    have nit := N' _ (.head _)
    have itL : it ≠ env.locals := nit.2.1
    have hli : (⟨h, s₁.gens, s₁.drawn, tk, s₁.os⟩ : Shared).heap.IsListIter it l i := ⟨oit, nit.1, hoit⟩
    have hl' : (⟨h, s₁.gens, s₁.drawn, tk, s₁.os⟩ : Shared).heap.IsList l vs.toArray := ⟨_, (N' _ (.tail _ (.head _))).1, rfl, nn, rfl⟩
    have lne : l ≠ it := Nat.ne_of_lt hlit
    have onward : ∀ h₁ : Heap, Heap.ExtBut it h h₁ → Fr g env.locals h₁ m ∧ News g env.locals h₁ ((l, listOf vs.toArray nn) :: news) := fun h₁ hs₁ => by
      obtain ⟨oL, a1, a2, hL, a3⟩ := F'.ns
      refine ⟨⟨⟨oL, a1, a2, hs₁ _ _ (Ne.symm itL) hL, a3⟩, fun b o e => hs₁ b o (fun q => by rw [q, nit.2.2] at e; cases e) (F'.keep b o e), F'.above⟩, fun p hp => ?_⟩
      have z := N' p (.tail _ hp)
      refine ⟨hs₁ _ _ ?_ z.1, z.2⟩
      rcases List.mem_cons.mp hp with rfl | hp
      · exact lne
      · exact off p hp
    by_cases hlt : i < vs.length
    · have hxi : vs.toArray[i]? = some vs[i] := by simp [hlt]
      refine wpAny_pyNext_list_item hli hl' hxi fun h₁ hit₁ hs₁ => ?_
      obtain ⟨F₁, N₁⟩ := onward h₁ hs₁.extBut
      obtain ⟨oit₁, ho₁, hd₁⟩ := hit₁
      refine wpAny_assign_Name (wpAny_storeName_local hx F₁.ns (fun h₂ hn₂ hs₂ => ?_) hp)
      have F₂ := F₁.set hn₂ hs₂
      have N₂ : News g env.locals h₂ ((it, oit₁) :: (l, listOf vs.toArray nn) :: news) := fun p hp => by
        rcases List.mem_cons.mp hp with rfl | hp
        · exact ⟨(hs₂.2 _ itL).trans ho₁, itL, nit.2.2⟩
        · exact N₁.set hs₂ p hp
      refine wpAny_passesOwn hE (wpAny_mono (turn it i vs[i] g m news h₂ _ oit₁ (by simp [hlt]) hI F₂ N₂ off hlit) (fun f s₃ h₃ => ?_) fun _ _ e => e)
      cases f with
      | ret v => exact h₃
      | brk => exact h₃
      | next =>
        obtain ⟨g₃, m₃, news₃, h₃', tk₃, rfl, F₃, N₃, off₃, hI₃⟩ := h₃
        exact ⟨_, by omega, i + 1, g₃, m₃, news₃, h₃', tk₃, oit₁, rfl, hlt, rfl, hd₁, F₃, N₃, off₃, hI₃⟩
      | cont =>
        obtain ⟨g₃, m₃, news₃, h₃', tk₃, rfl, F₃, N₃, off₃, hI₃⟩ := h₃
        exact ⟨_, by omega, i + 1, g₃, m₃, news₃, h₃', tk₃, oit₁, rfl, hlt, rfl, hd₁, F₃, N₃, off₃, hI₃⟩
    · have hin : i = vs.length := by omega
      subst hin
      refine wpAny_pyNext_list_end hh hli hl' (by simp) fun h₁ hs₁ => wpAny_execs_nil ?_
      obtain ⟨F₁, N₁⟩ := onward h₁ hs₁
      exact done it g m news h₁ tk hI F₁ N₁
  · refine ⟨0, g₀, m₀, news₀, _, s₁.toks, { cls := .type "list_iterator", data := .fields #[.ref l, .int 0 0] }, rfl, Nat.zero_le _, rfl, ⟨rfl, rfl⟩, F.push { cls := .type "list_iterator", data := .fields #[.ref l, .int 0 0] }, ?_, fun p hp => Nat.ne_of_lt (low p hp), h0 it hlit low⟩
    have z := News.push F N { cls := .type "list_iterator", data := .fields #[.ref l, .int 0 0] }
    rw [hit] at z
    exact z

/-- the same where no turn goes back: what comes behind the loop is not in sight -/
theorem For_groundQ {E : Value → Shared → Prop} {Q : Flow → Shared → Prop} {x y : Str} {px py pos : Pos} {body : List Stmt} {l : Addr} {vs : List Value} {nn : Nat} {g₀ : Heap} {m₀ : Str → Option Value} {news₀ : List (Addr × Obj)}
    (Inv : Addr → Nat → Heap → (Str → Option Value) → List (Addr × Obj) → Prop)
    (hh : A.handled = none) (hx : env.kindOf x = some .local) (hp : (env.scope.kind == .class || (env.scope.kind == .module && env.locals != env.globals)) = false)
    (hv : wpAny (model prog w) A (eval (.Name y py) env) (fun v s₁ => v = .ref l ∧ s₁ = s) E s)
    (F : Fr g₀ env.locals s.heap m₀) (N : News g₀ env.locals s.heap ((l, listOf vs.toArray nn) :: news₀))
    (h0 : ∀ it, @LT.lt Nat _ l it → (∀ p ∈ news₀, p.1 < it) → Inv it 0 g₀ m₀ news₀)
    (turn : ∀ it i v g m news h tk oit, vs[i]? = some v → Inv it i g m news → Fr g env.locals h (fun z => if z = x then some v else m z) →
      News g env.locals h ((it, oit) :: (l, listOf vs.toArray nn) :: news) → (∀ p ∈ news, p.1 ≠ it) → @LT.lt Nat _ l it →
      ∀ (Q' : Flow → Shared → Prop) (E' : Value → Shared → Prop), wpAny (model prog w) A (execs body env) (EndG env.locals it l (listOf vs.toArray nn) oit Inv i s Q') E' { s with heap := h, toks := tk })
    (done : ∀ it g m news h tk, Inv it vs.length g m news → Fr g env.locals h m → News g env.locals h ((l, listOf vs.toArray nn) :: news) → Q .next { s with heap := h, toks := tk })
    (hE : PassesOwn (model prog w) A env E := by passes_own) :
    wpAny (model prog w) A (exec (.For (.Name x px) (.Name y py) body [] pos) env) Q E s :=
  For_ground Inv hh hx hp hv F N h0 (fun it i v g m news h tk oit a b c d e f => turn it i v g m news h tk oit a b c d e f Q E) done hE
end

end

section
open PySem PySem.W PyProof.Rows PySem.Calls PySem.Spec
section
variable {prog : Program} {w : World} {A₀ A : Around} {s : Shared} {h₀ : Heap} {L : Addr} {m : Str → Option Value} {news : List (Addr × Obj)} {K : Frag} {p : Program} {loose : List Str} {mean : ExcName → Option Value} {mg mb : Str → Option Value} {env : Env}
    {R : Result → Shared → Prop} {name qual : Str} {params : Arguments} {body : List Stmt} {scope : Scope} {dV kV doc pm cdv ct oc : Value} {an od : Option Addr} {osl : Array (Option Value)} {f : Addr} {args : Args} {binds : List (Str × Value)}

/-- into a def that may catch, from the bottom frame, which may have cells -/
theorem code_S1 (B : Below A₀ h₀ [] h₀) (F : Fr h₀ L s.heap m) (X₀ : K.In h₀) (N : News h₀ L s.heap news) {rest : List (Addr × Obj)} (NR : News h₀ L s.heap rest) (off : ∀ p ∈ rest, ∀ q ∈ news, p.1 ≠ q.1) (T : Top p loose mean mg mb h₀) (hA : A.frames = some [env]) (hf : env.frame = some L) (hke : env.scope.kind = .function)
    (ho : K.lookup f = some ⟨oc, od, .func (fnOf name qual params body scope dV kV doc pm an cdv ct), osl⟩) (hcd : codeIn K cdv qual = true) (hroom : A.depth < recursionLimit)
    (hbind : BindsTo s (fnOf name qual params body scope dV kV doc pm an cdv ct) args binds) (hloc : ∀ y ∈ binds, scope.names.lookup y.1 = some .local)
    (h : ∀ g L' h₁, Fr h₀ L g m → Fr g L' h₁ (fun y => binds.reverse.lookup y) → News g L' h₁ news → Below A h₀ [env] g → K.In g → Top p loose mean mg mb g → KtsDicts ([env].filterMap (·.frame)) g →
      wpAny (model prog w) (A.deeper (envOf qual scope L' f cdv)) (execs body (envOf qual scope L' f cdv))
        (fun fl s' => LeaveS0 ([env].filterMap (·.frame)) h₀ L m g (fun r s' => News h₀ L s'.heap rest → R r s') (match fl with | .ret v => v | _ => .none) s')
        (fun e s' => wpAny (model prog w) (A.deeper (envOf qual scope L' f cdv)) (leaving (envOf qual scope L' f cdv) e) (fun _ s'' => R (.error e) s'') (fun e' s'' => R (.error e') s'') s')
        { s with heap := h₁, toks := s.toks + binds.length })
    (hco : scope.isCoroutine = false) (hgen : scope.isGenerator = false) (hk : scope.kind = .function)
    (hcell : ∀ x ∈ scope.names, x.2 ≠ .cell) : codeAny (model prog w) A (.call (.ref f) args) R s := by
  have X := X₀.keeps F.keep
  refine codeAny_call_def (fd := fnOf name qual params body scope dV kV doc pm an cdv ct) (body := body) (binds := binds) hroom (X _ _ ho) rfl (T.nolimit.keeps F.keep) (codeRec_of X hcd) rfl hbind hcell hloc (fun h₁ hns hk₁ => ?_) hco hgen hk
  obtain ⟨FG, BG, st, _⟩ := groundX (R := R) B F N hA hf hke
  obtain ⟨oL, es, ep, hLg, hLd, hLk, hLf⟩ := FG.ns
  have hfs : [env].filterMap (·.frame) = [L] := by simp [hf]
  refine wpAny_mono (h _ s.heap.objs.size h₁ FG ⟨hns, fun b o e => hk₁ b o (of_hideAll _ e), Nat.le_of_eq (hideAll_size _ _)⟩
    (fun p hp => ⟨hk₁ _ _ (N p hp).1, Nat.ne_of_lt (Heap.lt_size (N p hp).1), hideAll_none _ (List.mem_map_of_mem hp)⟩) BG (X₀.keeps st) (T.keeps st) (fun b hb => by
      rw [hfs] at hb
      obtain rfl := List.mem_singleton.mp hb
      exact ⟨oL, es, ep, hLg, hLd⟩)) (fun fl s' hl => ?_) fun _ _ y => y
  obtain ⟨g', L', m', news', T', F', N', k⟩ := hl
  rw [hfs] at T'
  have nL₀ : h₀.get? L = none := kts_self F
  obtain ⟨sl, hs⟩ := T'.up hLg
  have kp : ∀ p ∈ rest, s'.heap.get? p.1 = some p.2 := fun p hp => by
    have e1 := hideAll_get (news.map (·.1)) (NR p hp).1 fun hm => by
      obtain ⟨q, hq, e⟩ := List.mem_map.mp hm
      exact off p hp q hq e.symm
    exact F'.keep _ _ (T'.other _ _ e1 fun q => (NR p hp).2.1 (List.mem_singleton.mp q))
  refine k ⟨⟨_, es, ep, F'.keep _ _ hs, hLd, hLk, hLf⟩, fun b o e => F'.keep b o (T'.other b o (st b o e) (fun q => by
    rw [List.mem_singleton.mp q, nL₀] at e
    cases e)), F.above⟩ (fun p hp => ⟨(N' p hp).1, fun q => ?_, ?_⟩) ?_
  · have := (N' p hp).2.2
    rw [q, hs] at this
    cases this
  · cases q : h₀.get? p.1 with
    | none => rfl
    | some o =>
      obtain ⟨sl', hs'⟩ := T'.up (st _ _ q)
      have := (N' p hp).2.2
      rw [hs'] at this
      cases this
  · exact fun p hp => ⟨kp p hp, (NR p hp).2⟩
end

end

section
open PySem PySem.W PyProof.Rows PySem.Calls

/-- what holds_out answers, by the room that is left -/
noncomputable def holdsFrom : Int → List Int → Bool
  | _, [] => true
  | room, t :: r => if t > room + 1 then false else if room + 1 - t = 0 then false else holdsFrom (room + 1 - t) r

theorem mem_rot {α : Type} {a b c p : α} (h : p ∈ [a, b, c]) : p ∈ [b, c, a] := by
  rcases List.mem_cons.mp h with rfl | h
  · exact .tail _ (.tail _ (.head _))
  · rcases List.mem_cons.mp h with rfl | h
    · exact .head _
    · exact .tail _ ((List.mem_singleton.mp h) ▸ .head _)

/-- a ledger without one address -/
def offOf (l : Addr) (all : List (Addr × Obj)) : List (Addr × Obj) := all.filter fun p => decide (@Ne Nat p.1 l)
theorem offOf_sub {l : Addr} {all : List (Addr × Obj)} {p : Addr × Obj} (h : p ∈ offOf l all) : p ∈ all := (List.mem_filter.mp h).1
theorem offOf_ne {l : Addr} {o : Obj} {all : List (Addr × Obj)} : ∀ p ∈ offOf l all, ∀ q ∈ [(l, o)], p.1 ≠ q.1 := fun p hp q hq => by
  obtain rfl := List.mem_singleton.mp hq
  exact of_decide_eq_true (List.mem_filter.mp hp).2
theorem news_offOf {h₀ h h' : Heap} {L l : Addr} {o : Obj} {all : List (Addr × Obj)} (N : News h₀ L h all) (hl : (l, o) ∈ all) (N' : News h₀ L h' [(l, o)]) (R : News h₀ L h' (offOf l all)) : News h₀ L h' all := fun p hp => by
  by_cases e : p.1 = l
  · have e1 := (N p hp).1
    have e2 := (N _ hl).1
    rw [e] at e1
    have : p = (l, o) := Prod.ext e (Option.some.inj (e1.symm.trans e2))
    rw [this]
    exact N' _ (.head _)
  · exact R p (List.mem_filter.mpr ⟨hp, decide_eq_true e⟩)

/-- what holds between the turns of holds_out -/
def HInv (w : World) (A₀ : Around) (base : Heap) (outer : List Env) (mean : ExcName → Option Value) (mg mb : Str → Option Value) (g₀ : Heap) (l cr d : Addr) (ns : List Int) (it : Addr) (i : Nat) (g : Heap) (m : Str → Option Value) (nw : List (Addr × Obj)) : Prop :=
  ∃ (limit used : Int) (told : Value) (t1 t2 k1 k2 k3 : Tok), nw = [(cr, instObj 93 d), (d, crD w limit used told t1 t2 k1 k2 k3)] ∧ m (Str.ofString "credit") = some (.ref cr) ∧ holdsFrom (limit - used) (ns.drop i) = holdsFrom 0 ns ∧
    @LT.lt Nat _ l d ∧ @LT.lt Nat _ d cr ∧ @LT.lt Nat _ cr it ∧ KtsTurn (outer.filterMap (·.frame)) g₀ g ∧ Below A₀ base outer g ∧ (Mine.hd.heap_39 w.params).In g ∧ Top Mine.hd.view_39 (looseW Mine.hd.view_39 []) mean mg mb g ∧ KtsDicts (outer.filterMap (·.frame)) g

section
set_option maxRecDepth 100000 in
set_option maxHeartbeats 8000000 in
theorem holdsA (w : World) {mean : ExcName → Option Value} {mg mb : Str → Option Value} (gd : Option (List Code)) (env : Env) (A₀ : Around) (h₀ : Heap) (L : Addr) (m : Str → Option Value) (s : Shared) (Q E : Value → Shared → Prop)
    (all : List (Addr × Obj)) (l : Addr) (vs : List Value) (ns : List Int) (nn : Nat)
    (B : Below A₀ h₀ [] h₀) (F : Fr h₀ L s.heap m) (X : (Mine.hd.heap_39 w.params).In h₀)
    (NA : News h₀ L s.heap all) (hl : (l, listOf vs.toArray nn) ∈ all)
    (T : Top Mine.hd.view_39 (looseW Mine.hd.view_39 []) mean mg mb h₀) (hf : env.frame = some L) (hke : env.scope.kind = .function) (hi : IntsAre vs ns)
    (hret : ∀ h' tk', Fr h₀ L h' m → News h₀ L h' all → Q (.bool (holdsFrom 0 ns)) { s with heap := h', toks := tk' }) :
    wpAny (model PySem.Challenge.rw_tk0085_01.row.prog w) { handled := none, depth := 800, frames := some [env], guards := gd, units := 800 } (call (.ref 137) [.ref l]) Q E s := by
  k_with_none
  w_top off
  k_with "own steps" => (repeat' (first
  | ((fail_if_success (with_reducible show wpAny _ _ (PySem.execs (Stmt.For _ _ _ _ _ :: _) _) _ _ _)); first | (k_unfold; (try dsimp only)) | (k_end; wrow_close) | walk1 | (dsimp only; walk1) | (leave1; walk_say "STEP leave1"; try dsimp only))
  | fail "no step"))
  k_with "own call ref" => ((k_here; (with_reducible show wpAny _ _ (PySem.call (Value.ref 111) _) _ _ _); k_dflt (refine' spent_p ?o9B ?o9F ?o9X ?o9N ?o9T ?o9XB ?o9TB ?o9D ?o9T0 ?o9hA ?o9hh ?o9hd ?o9hu ?o9hc ?o9hl ?o9h1 ?o9h2 ?o9hp ?o9hT ?o9hF; (case o9F => k_asm); (case o9N => k_asm); (case o9hA => exact rfl); (case o9B => k_asm); (case o9X => k_asm); (case o9T => k_asm); (case o9XB => k_asm); (case o9TB => k_asm); (case o9D => k_asm); (case o9T0 => k_asm); (case o9hh => exact rfl); (case o9hd => exact Nat.le_of_ble_eq_true rfl); (case o9hu => exact Nat.le_of_ble_eq_true rfl); (case o9hc => exact rfl); (case o9hl => k_asm); (case o9h1 => k_ne); (case o9h2 => k_ne); (case o9hp => k_all)); (case' o9hT => (intro _ _ _ _ _ _; (try k_sweep))); (case' o9hF => (intro _ _ _ _ _ _ _ _ _ _ _; (try k_sweep)))))
  revert X
  k_fill
  intro X
  have N : News h₀ L s.heap [(l, listOf vs.toArray nn)] := kst_newsOf NA fun p hp => by obtain rfl := List.mem_singleton.mp hp; exact hl
  have NR : News h₀ L s.heap (offOf l all) := kst_newsOf NA fun p hp => offOf_sub hp
  replace hret : ∀ h' tk', Fr h₀ L h' m → News h₀ L h' [(l, listOf vs.toArray nn)] → News h₀ L h' (offOf l all) → Q (.bool (holdsFrom 0 ns)) { s with heap := h', toks := tk' } :=
    fun h' tk' F' N' R' => hret h' tk' F' (news_offOf NA hl N' R')
  clear NA hl
  refine wpAny_call ?_
  k_dflt (refine' code_S1 ?k1 ?k2 ?k3 ?k4 ?kNR ?kO ?k5 ?kA ?kf ?kk ?k6 ?k7 ?k8 ?k9 ?kB ?_ ?c2 ?c3 ?c4 ?c5; (case kNR => exact NR); (case k4 => exact N); (case kO => exact offOf_ne); (case kA => exact rfl); (case kf => exact hf); (case kk => exact hke); (case k2 => k_asm); (case k1 => k_asm); (case k3 => k_asm); (case k5 => k_asm); (case k6 => k_is); (case k7 => k_is); (case k8 => k_room); (case k9 => exact BindsTo.of_eq rfl); (case kB => exact locs rfl); (case c2 => exact rfl); (case c3 => exact rfl); (case c4 => exact rfl); (case c5 => decide); k_whole; intro g1 L1 h1 FG1 F1 N1 B1 X1 T1 D1; (try dsimp only); (try k_fold))
  k_extra "own steps"
  k_gentoks
  rename_i cr d hq1 l1 l2 gq Lq hq2 Bq Xq Tq tkq hq3 hq4 hq5 Fq Nq Tcq kXq h2 F2 N2
  obtain ⟨t1, t2, k1, k2, k3, N3⟩ : ∃ t1 t2 k1 k2 k3, News g1 L1 h2 [(l, listOf vs.toArray nn), (cr, instObj 93 d), (d, crD w 0 0 .none t1 t2 k1 k2 k3)] := ⟨_, _, _, _, _, kst_newsOf N2 fun p hp => mem_rot hp⟩
  refine wpAny_execs_cons ?_
  try dsimp only
  refine For_ground (l := l) (vs := vs) (nn := nn) (g₀ := g1) (news₀ := [(cr, instObj 93 d), (d, crD w 0 0 .none t1 t2 k1 k2 k3)]) (HInv w { handled := none, depth := 800, frames := some [env], guards := gd, units := 800 } h₀ [env] mean mg mb g1 l cr d ns) rfl rfl rfl (ld F2 rfl ⟨rfl, rfl⟩) F2 N3 ?_ ?_ ?_
  · intro it lit low
    exact ⟨0, 0, .none, t1, t2, k1, k2, k3, rfl, rfl, by rw [List.drop_zero]; rfl, l1, l2, low _ (.head _), KtsTurn.refl, B1, X1, T1, D1⟩
  · rintro it i v g m' nw h tk oit hvi ⟨limit, used, told, t1, t2, k1, k2, k3, rfl, hm, hho, l3, l4, l5, T0, B', X', T', D'⟩ F' N' off lit
    obtain ⟨n, t, hni, rfl⟩ : ∃ n t, ns[i]? = some n ∧ v = .int n t := by
      have hlt : i < ns.length := by
        have := (List.getElem?_eq_some_iff.mp hvi).1
        have e := hi.length
        omega
      refine ⟨ns[i], ?_⟩
      obtain ⟨t, ht⟩ := hi.get i _ (List.getElem?_eq_getElem hlt)
      exact ⟨t, List.getElem?_eq_getElem hlt, Option.some.inj (hvi.symm.trans ht)⟩
    have hdr : ns.drop i = n :: ns.drop (i + 1) := by
      obtain ⟨hlt, rfl⟩ := List.getElem?_eq_some_iff.mp hni
      exact List.drop_eq_getElem_cons hlt
    rw [hdr, holdsFrom] at hho
    rw [map_one hm (fun _ _ _ => rfl)] at F'
    clear F2 N2 N3 Nq Fq hq1 hq2 hq3 hq4 hq5 Tcq kXq
    k_extra "own steps"
    · have hb : holdsFrom 0 ns = false := by rw [← hho, if_pos (by omega)]
      rw [hb] at hret
      dsimp only [EndG]
      refine leaveS0_ (by assumption) (by assumption) (by assumption) fun F' N' R' => ?_
      exact hret _ _ F' (fun p hp => N' p (by simp only [List.mem_singleton] at hp; subst hp; simp)) R'
    · have hb : holdsFrom 0 ns = false := by rw [← hho, if_neg (by omega), if_pos (by omega)]
      rw [hb] at hret
      dsimp only [EndG]
      refine leaveS0_ (by assumption) (by assumption) T0 fun F' N' R' => ?_
      exact hret _ _ F' (fun p hp => N' p (by simp only [List.mem_singleton] at hp; subst hp; simp)) R'
    · refine ⟨g, _, _, _, _, rfl, by assumption, by assumption, ?_, limit + 1, used + n, told, _, _, _, _, _, rfl, ?_, ?_, l3, l4, l5, T0, B', X', T', D'⟩
      · intro p hp
        rcases List.mem_cons.mp hp with rfl | hp
        · exact off _ (.head _)
        · obtain rfl := List.mem_singleton.mp hp
          exact off (d, crD w limit used told t1 t2 k1 k2 k3) (.tail _ (.head _))
      · exact (if_neg (by decide)).trans ((if_neg (by decide)).trans (if_pos rfl))
      · rw [← hho, if_neg (by omega), if_neg (by omega)]
        congr 1
        omega
  · rintro it g m' nw h tk ⟨limit, used, told, t1, t2, k1, k2, k3, rfl, hm, hho, l3, l4, l5, T0, B', X', T', D'⟩ F' N'
    have hb : holdsFrom 0 ns = true := by
      rw [← hho, hi.length, List.drop_length]; rfl
    rw [hb] at hret
    clear F2 N2 N3 Nq Fq hq1 hq2 hq3 hq4 hq5 Tcq kXq
    k_extra "own steps"
    rename_i kF kN _ _ kR
    exact hret _ _ kF (fun p hp => kN p (by simp only [List.mem_singleton] at hp; subst hp; simp)) kR

end

theorem holds_c {w : World} {mean : ExcName → Option Value} {mg mb : Str → Option Value} {A : Around} {env : Env} {A₀ : Around} {h₀ : Heap} {L : Addr} {m : Str → Option Value} {s : Shared} {Q E : Value → Shared → Prop}
    {all : List (Addr × Obj)} {l : Addr} {vs : List Value} {ns : List Int} {nn : Nat}
    (B : Below A₀ h₀ [] h₀) (F : Fr h₀ L s.heap m) (X : (Mine.hd.heap_39 w.params).In h₀)
    (NA : News h₀ L s.heap all) (hl : (l, listOf vs.toArray nn) ∈ all)
    (T : Top Mine.hd.view_39 (looseW Mine.hd.view_39 []) mean mg mb h₀)
    (hA : A.frames = some [env]) (hh : A.handled = none) (hdp : A.depth ≤ 800) (hun : A.units ≤ 800) (hf : env.frame = some L) (hke : env.scope.kind = .function) (hi : IntsAre vs ns)
    (hret : ∀ h' tk', Fr h₀ L h' m → News h₀ L h' all → Q (.bool (holdsFrom 0 ns)) { s with heap := h', toks := tk' }) :
    wpAny (model PySem.Challenge.rw_tk0085_01.row.prog w) A (call (.ref 137) [.ref l]) Q E s :=
  weakenA (holdsA w A.guards env A₀ h₀ L m s Q E all l vs ns nn B F X NA hl T hf hke hi hret) hh hdp hun (.inr hA.symm) (.inr rfl)

end

section
/-- what reflected answers: how low the sum came -/
noncomputable def reflFrom : Int → Int → List Int → Int
  | _, low, [] => 0 - low
  | at', low, n :: r => reflFrom (at' + n) (if at' + n < low then at' + n else low) r

end

section
open PySem PySem.W PyProof.Rows PySem.Calls

structure ToldAt (v : Int) (known : List Int) (limit : Int) : Prop where
  here : v ∈ known
  most : ∀ k ∈ known, k ≤ v
  below : v ≤ limit
/-- what was told, and at which limits -/
def ToldOk (told : Value) (known : List Int) (limit : Int) : Prop :=
  (told = .none ∧ known = []) ∨ ∃ v t, told = .int v t ∧ ToldAt v known limit
theorem ToldAt.any {v : Int} {known : List Int} {limit : Int} (h : ToldAt v known limit) : (known.any fun x => x == limit) = decide (v = limit) := by
  by_cases e : v = limit
  · subst e
    rw [decide_eq_true rfl]
    exact List.any_eq_true.mpr ⟨v, h.here, by simp⟩
  · rw [decide_eq_false e]
    refine Bool.eq_false_iff.mpr fun q => e ?_
    obtain ⟨k, hk, e'⟩ := List.any_eq_true.mp q
    have e2 : k = limit := by simpa using e'
    have := h.most k hk
    have := h.below
    omega
theorem ToldOk.up {told : Value} {known : List Int} {limit limit' : Int} (h : ToldOk told known limit) (hl : limit ≤ limit') : ToldOk told known limit' := by
  rcases h with ⟨a, b⟩ | ⟨v, t, a, b⟩
  · exact .inl ⟨a, b⟩
  · exact .inr ⟨v, t, a, b.here, b.most, Int.le_trans b.below hl⟩
theorem ToldOk.same {told : Value} {known : List Int} {limit limit' : Int} (h : ToldOk told known limit) (hl : limit ≤ limit') : ToldOk told (known ++ []) limit' := by
  rw [List.append_nil]
  exact h.up hl
theorem ToldOk.new {told : Value} {known : List Int} {limit limit' : Int} {t : Tok} (h : ToldOk told known limit) (hl : limit ≤ limit') : ToldOk (.int limit' t) (known ++ [limit']) limit' := by
  refine .inr ⟨limit', t, rfl, by simp, fun k hk => ?_, Int.le_refl _⟩
  rcases List.mem_append.mp hk with hk | hk
  · rcases h with ⟨a, b⟩ | ⟨v, t, a, b⟩
    · rw [b] at hk; cases hk
    · exact Int.le_trans (b.most k hk) (Int.le_trans b.below hl)
  · rw [List.mem_singleton.mp hk]; exact Int.le_refl _

section
set_option maxRecDepth 100000 in
set_option maxHeartbeats 8000000 in
theorem nbA (w : World) {mean : ExcName → Option Value} {mg mb : Str → Option Value} (gd : Option (List Code)) (cn : Str) (cs : Scope) (a : Addr) (ccd : Value) (outer : List Env) (A₀ : Around) (base h₀ : Heap) (L : Addr) (m : Str → Option Value) (s : Shared) (Q E : Value → Shared → Prop)
    (news : List (Addr × Obj)) (cr d : Addr) (limit used : Int) (t1 t2 k1 k2 k3 : Tok) (told : Value) (known : List Int)
    (B : Below A₀ base outer h₀) (F : Fr h₀ L s.heap m) (X : (Mine.hd.heap_39 w.params).In h₀)
    (N : News h₀ L s.heap ((cr, instObj 93 d) :: (d, crD w limit used told t1 t2 k1 k2 k3) :: news))
    (T : Top Mine.hd.view_39 (looseW Mine.hd.view_39 []) mean mg mb h₀)
    (hcs : cs.kind = .function) (hlt : @LT.lt Nat _ d cr) (hoff : OwnOff news [d]) (hto : ToldOk told known limit)
    (hN : (0 < limit - used ∨ (known.any fun x => x == limit) = true) → ∀ h' tk', Fr h₀ L h' m → News h₀ L h' ((cr, instObj 93 d) :: (d, crD w limit used told t1 t2 k1 k2 k3) :: news) → Q .none { s with heap := h', toks := tk' })
    (hI : ¬ 0 < limit - used → (known.any fun x => x == limit) = false → ∀ h' tk' t', Fr h₀ L h' m → News h₀ L h' ((cr, instObj 93 d) :: (d, crD w limit used (.int limit t') t1 t2 k1 k2 k3) :: news) → Q (.int limit t') { s with heap := h', toks := tk' }) :
    wpAny (model PySem.Challenge.rw_tk0085_01.row.prog w) (ktrTop 900 900 gd cn cs L a ccd [] outer) (call (.ref 83) [.ref cr]) Q E s := by
  k_with_none
  w_top off
  k_with "own in" => (first | with_reducible assumption | exact Frag.In.keeps (by k_asm) (Fr.keep (by k_asm)))
  k_with "own LeaveK" => ((k_dflt (refine' leaveK_ ?o9k1 ?o9k2 ?_; (case o9k1 => k_asm); (case o9k2 => k_asm); k_whole); intro kF kN; (try dsimp only at kF kN); ground_anew kF; (have kX := kFor kF (by k_asm)); (try dsimp only [PySem.W.InitBack, PySem.W.CmpBack, PySem.W.LenBack, PySem.W.StrBack, PySem.W.BoolBack]); (try refine ⟨rfl, ?_⟩); (try dsimp only [PySem.W.CmpBack, PySem.W.LenBack, PySem.W.StrBack, PySem.W.BoolBack]); (try (refine ⟨⟨by omega, by omega⟩, ?_⟩)); (try (refine handed_on rfl ?_; try dsimp only))))
  revert X
  k_fill
  intro X
  show wpAny _ { handled := none, depth := 900, frames := some (envOf cn cs L a ccd :: outer), guards := gd, units := 900 } _ _ _ _
  rcases hto with ⟨rfl, rfl⟩ | ⟨tv, tt, rfl, hto⟩
  · (refine wpAny_call ?_; k_dflt (refine' code_def ?k1 ?k2 ?k3 ?k4 ?k5 ?kA ?kF ?kK ?k6 ?k7 ?k8 ?k9 ?kB ?_ ?c2 ?c3 ?c4 ?c5; (case kA => exact rfl); (case kF => exact rfl); (case kK => exact hcs); (case k1 => k_asm); (case k2 => k_asm); (case k3 => k_asm); (case k4 => k_asm); (case k5 => k_asm); (case k6 => k_is); (case k7 => k_is); (case k8 => k_room); (case k9 => exact BindsTo.of_eq rfl); (case c5 => decide); (case kB => exact locs rfl); (case c2 => exact rfl); (case c3 => exact rfl); (case c4 => exact rfl); k_whole; intro g' L' h' FG' F' N' B' X' T'; (try dsimp only); (try k_lift B'); (try k_fold)))
    k_steps
    all_goals first | exact hN (.inl (by omega)) _ _ (by assumption) (by assumption) | exact hI (by omega) rfl _ _ _ (by assumption) (by assumption)
  · have hany := hto.any
    (refine wpAny_call ?_; k_dflt (refine' code_def ?k1 ?k2 ?k3 ?k4 ?k5 ?kA ?kF ?kK ?k6 ?k7 ?k8 ?k9 ?kB ?_ ?c2 ?c3 ?c4 ?c5; (case kA => exact rfl); (case kF => exact rfl); (case kK => exact hcs); (case k1 => k_asm); (case k2 => k_asm); (case k3 => k_asm); (case k4 => k_asm); (case k5 => k_asm); (case k6 => k_is); (case k7 => k_is); (case k8 => k_room); (case k9 => exact BindsTo.of_eq rfl); (case c5 => decide); (case kB => exact locs rfl); (case c2 => exact rfl); (case c3 => exact rfl); (case c4 => exact rfl); k_whole; intro g' L' h' FG' F' N' B' X' T'; (try dsimp only); (try k_lift B'); (try k_fold)))
    k_steps
    all_goals first | exact hN (.inl (by omega)) _ _ (by assumption) (by assumption) | exact hN (.inr (by rw [hany]; exact decide_eq_true (by omega))) _ _ (by assumption) (by assumption) | exact hI (by omega) (by rw [hany]; exact decide_eq_false (by omega)) _ _ _ (by assumption) (by assumption)
end

theorem nb_p {w : World} {mean : ExcName → Option Value} {mg mb : Str → Option Value} {A : Around} {cn : Str} {cs : Scope} {a : Addr} {ccd : Value} {outer : List Env} {A₀ : Around} {base h₀ : Heap} {L : Addr} {m : Str → Option Value} {s : Shared} {Q E : Value → Shared → Prop}
    {post : List (Addr × Obj)} {p1 p2 : Addr × Obj} {cr d : Addr} {limit used : Int} {t1 t2 k1 k2 k3 : Tok} {told : Value} {known : List Int}
    (B : Below A₀ base outer h₀) (F : Fr h₀ L s.heap m) (X : (Mine.hd.heap_39 w.params).In h₀)
    (N : News h₀ L s.heap (p1 :: p2 :: (cr, instObj 93 d) :: (d, crD w limit used told t1 t2 k1 k2 k3) :: post))
    (T : Top Mine.hd.view_39 (looseW Mine.hd.view_39 []) mean mg mb h₀)
    (hA : A.frames = some (envOf cn cs L a ccd :: outer)) (hh : A.handled = none) (hdp : A.depth ≤ 900) (hun : A.units ≤ 900)
    (hcs : cs.kind = .function) (hlt : @LT.lt Nat _ d cr) (h1 : p1.1 ≠ d) (h2 : p2.1 ≠ d) (hpost : ∀ p ∈ post, p.1 ≠ d) (hto : ToldOk told known limit)
    (hN : (0 < limit - used ∨ (known.any fun x => x == limit) = true) → ∀ h' tk', Fr h₀ L h' m → News h₀ L h' (p1 :: p2 :: (cr, instObj 93 d) :: (d, crD w limit used told t1 t2 k1 k2 k3) :: post) → Q .none { s with heap := h', toks := tk' })
    (hI : ¬ 0 < limit - used → (known.any fun x => x == limit) = false → ∀ h' tk' t', Fr h₀ L h' m → News h₀ L h' (p1 :: p2 :: (cr, instObj 93 d) :: (d, crD w limit used (.int limit t') t1 t2 k1 k2 k3) :: post) → Q (.int limit t') { s with heap := h', toks := tk' }) :
    wpAny (model PySem.Challenge.rw_tk0085_01.row.prog w) A (call (.ref 83) [.ref cr]) Q E s := by
  have one : ∀ {a b c e : Addr × Obj} {l : List (Addr × Obj)} (p : Addr × Obj), p ∈ c :: e :: a :: b :: l → p ∈ a :: b :: c :: e :: l := fun p hp => by
    rcases List.mem_cons.mp hp with rfl | hp
    · exact .tail _ (.tail _ (.head _))
    · rcases List.mem_cons.mp hp with rfl | hp
      · exact .tail _ (.tail _ (.tail _ (.head _)))
      · rcases List.mem_cons.mp hp with rfl | hp
        · exact .head _
        · rcases List.mem_cons.mp hp with rfl | hp
          · exact .tail _ (.head _)
          · exact .tail _ (.tail _ (.tail _ (.tail _ hp)))
  refine weakenA (nbA w A.guards cn cs a ccd outer A₀ base h₀ L m s Q E (p1 :: p2 :: post) cr d limit used t1 t2 k1 k2 k3 told known B F X (kst_newsOf N one) T hcs hlt ?_ hto (fun hm h' tk' F' N' => hN hm h' tk' F' (kst_newsOf N' one)) fun hm hk h' tk' t' F' N' => hI hm hk h' tk' t' F' (kst_newsOf N' one)) hh hdp hun (.inr hA.symm) (.inr rfl)
  intro p hp b hb
  obtain rfl := List.mem_singleton.mp hb
  rcases List.mem_cons.mp hp with rfl | hp
  · exact h1
  · rcases List.mem_cons.mp hp with rfl | hp
    · exact h2
    · exact hpost p hp

end

section
open PySem PySem.W PyProof.Rows PySem.Calls

theorem pick7 {x y a b c e z p : Addr × Obj} (hp : p ∈ [a, b, c, e, x]) : p ∈ [x, y, a, b, c, e, z] := by
  rcases List.mem_cons.mp hp with rfl | hp
  · exact .tail _ (.tail _ (.head _))
  · rcases List.mem_cons.mp hp with rfl | hp
    · exact .tail _ (.tail _ (.tail _ (.head _)))
    · rcases List.mem_cons.mp hp with rfl | hp
      · exact .tail _ (.tail _ (.tail _ (.tail _ (.head _))))
      · rcases List.mem_cons.mp hp with rfl | hp
        · exact .tail _ (.tail _ (.tail _ (.tail _ (.tail _ (.head _)))))
        · exact (List.mem_singleton.mp hp) ▸ .head _

theorem pick7c {a b c e x p : Addr × Obj} (hp : p ∈ [a, b, c, e, x]) : p ∈ [a, b, c, e, x] := hp
/-- what holds between the turns of reflected -/
inductive RInv (w : World) (A₀ : Around) (base : Heap) (outer : List Env) (mean : ExcName → Option Value) (mg mb : Str → Option Value) (g₀ : Heap) (l cr d : Addr) (ns : List Int) (it : Addr) (i : Nat) (g : Heap) (m : Str → Option Value) : List (Addr × Obj) → Prop where
  | mk (limit used at' low rf : Int) (told : Value) (t1 t2 k1 k2 k3 u1 u2 u3 : Tok) (kn : Addr) (kvs : List Value) (known : List Int) (kk : Nat) (hki : IntsAre kvs known) (hkl : known.length ≤ i) (hto : ToldOk told known limit)
    (m1 : m (Str.ofString "credit") = some (.ref cr)) (m2 : m (Str.ofString "refused") = some (.int rf u1)) (hrf : rf = 0 - low) (m3 : m (Str.ofString "low") = some (.int low u2)) (m4 : m (Str.ofString "at") = some (.int at' u3)) (m5 : m (Str.ofString "known") = some (.ref kn)) (hrm : limit - used = at' - low) (hla : low ≤ at') (hho : reflFrom at' low (ns.drop i) = reflFrom 0 0 ns)
    (l3 : @LT.lt Nat _ l d) (l4 : @LT.lt Nat _ d cr) (l5 : @LT.lt Nat _ cr it) (l6 : @LT.lt Nat _ cr kn) (T0 : KtsTurn (outer.filterMap (·.frame)) g₀ g) (B : Below A₀ base outer g) (X : (Mine.hd.heap_39 w.params).In g) (T : Top Mine.hd.view_39 (looseW Mine.hd.view_39 []) mean mg mb g) (D : KtsDicts (outer.filterMap (·.frame)) g) :
    RInv w A₀ base outer mean mg mb g₀ l cr d ns it i g m [(cr, instObj 93 d), (d, crD w limit used told t1 t2 k1 k2 k3), (kn, listOf kvs.toArray kk)]

theorem execs_app (a rest : List Stmt) (env : Env) : execs (a ++ rest) env = execs a env >>= fun f => match f with | .next => execs rest env | f => pure f := by
  induction a with
  | nil => rfl
  | cons x a ih =>
    show execs (x :: (a ++ rest)) env = _
    rw [execs_cons, execs_cons, bind_assoc]
    congr 1
    funext f
    cases f <;> first | exact ih | rfl
/-- to the middle of a body -/
def ToMid (Mid : Shared → Prop) (Q : Flow → Shared → Prop) (f : Flow) (s' : Shared) : Prop := match f with
  | .next => Mid s'
  | f => Q f s'
theorem cut_execs {M : Model} {A : Around} {a rest : List Stmt} {env : Env} {Q : Flow → Shared → Prop} {E : Value → Shared → Prop} {s : Shared} (Mid : Shared → Prop) (h1 : wpAny M A (execs a env) (ToMid Mid Q) E s)
    (h2 : ∀ s', Mid s' → wpAny M A (execs rest env) Q E s') : wpAny M A (execs (a ++ rest) env) Q E s := by
  rw [execs_app]
  refine wpAny_bind (wpAny_mono h1 (fun f s' h => ?_) fun _ _ e => e)
  cases f <;> first | exact h2 _ h | exact wpAny_pure h
theorem cut1 {M : Model} {A : Around} {a : Stmt} {rest : List Stmt} {env : Env} {Q : Flow → Shared → Prop} {E : Value → Shared → Prop} {s : Shared} (Mid : Shared → Prop) (h1 : wpAny M A (execs [a] env) (ToMid Mid Q) E s)
    (h2 : ∀ s', Mid s' → wpAny M A (execs rest env) Q E s') : wpAny M A (execs (a :: rest) env) Q E s := cut_execs (a := [a]) Mid h1 h2
theorem cut3 {M : Model} {A : Around} {a b c : Stmt} {rest : List Stmt} {env : Env} {Q : Flow → Shared → Prop} {E : Value → Shared → Prop} {s : Shared} (Mid : Shared → Prop) (h1 : wpAny M A (execs [a, b, c] env) (ToMid Mid Q) E s)
    (h2 : ∀ s', Mid s' → wpAny M A (execs rest env) Q E s') : wpAny M A (execs (a :: b :: c :: rest) env) Q E s := cut_execs (a := [a, b, c]) Mid h1 h2

/-- in a turn: the word is taken -/
inductive MidA (w : World) (A₀ : Around) (base : Heap) (outer : List Env) (mean : ExcName → Option Value) (mg mb : Str → Option Value) (g₀ : Heap) (L it l cr d kn : Addr) (oit : Obj) (vs : List Value) (nn : Nat) (kvs : List Value) (kk : Nat) (told : Value) (limit at' low : Int) (s : Shared) : Shared → Prop where
  | mk (g h : Heap) (tk : Nat) (m : Str → Option Value) (limit' used' rf : Int) (t1 t2 k1 k2 k3 u1 u2 u3 : Tok) (F : Fr g L h m)
    (N : News g L h [(it, oit), (l, listOf vs.toArray nn), (cr, instObj 93 d), (d, crD w limit' used' told t1 t2 k1 k2 k3), (kn, listOf kvs.toArray kk)])
    (m1 : m (Str.ofString "credit") = some (.ref cr)) (m2 : m (Str.ofString "refused") = some (.int rf u1)) (hrf : rf = 0 - low) (m3 : m (Str.ofString "low") = some (.int low u2)) (m4 : m (Str.ofString "at") = some (.int at' u3)) (m5 : m (Str.ofString "known") = some (.ref kn)) (hrm : limit' - used' = at' - low) (hla : low ≤ at') (hle : limit ≤ limit') (T0 : KtsTurn (outer.filterMap (·.frame)) g₀ g) (B : Below A₀ base outer g) (X : (Mine.hd.heap_39 w.params).In g) (T : Top Mine.hd.view_39 (looseW Mine.hd.view_39 []) mean mg mb g) (D : KtsDicts (outer.filterMap (·.frame)) g) :
    MidA w A₀ base outer mean mg mb g₀ L it l cr d kn oit vs nn kvs kk told limit at' low s { s with heap := h, toks := tk }
/-- in a turn: what is told is known -/
inductive MidB (w : World) (A₀ : Around) (base : Heap) (outer : List Env) (mean : ExcName → Option Value) (mg mb : Str → Option Value) (g₀ : Heap) (L it l cr d : Addr) (oit : Obj) (vs : List Value) (nn : Nat) (i : Nat) (at' low : Int) (s : Shared) : Shared → Prop where
  | mk (kn : Addr) (kvs : List Value) (known : List Int) (kk : Nat) (told : Value) (g h : Heap) (tk : Nat) (m : Str → Option Value) (limit' used' rf : Int) (t1 t2 k1 k2 k3 u1 u2 u3 : Tok) (F : Fr g L h m)
    (N : News g L h [(it, oit), (l, listOf vs.toArray nn), (cr, instObj 93 d), (d, crD w limit' used' told t1 t2 k1 k2 k3), (kn, listOf kvs.toArray kk)]) (hki : IntsAre kvs known) (hkl : known.length ≤ i + 1) (hto : ToldOk told known limit')
    (m1 : m (Str.ofString "credit") = some (.ref cr)) (m2 : m (Str.ofString "refused") = some (.int rf u1)) (hrf : rf = 0 - low) (m3 : m (Str.ofString "low") = some (.int low u2)) (m4 : m (Str.ofString "at") = some (.int at' u3)) (m5 : m (Str.ofString "known") = some (.ref kn)) (hrm : limit' - used' = at' - low) (hla : low ≤ at') (l6 : @LT.lt Nat _ cr kn) (k6 : @Ne Nat kn it) (T0 : KtsTurn (outer.filterMap (·.frame)) g₀ g) (B : Below A₀ base outer g) (X : (Mine.hd.heap_39 w.params).In g) (T : Top Mine.hd.view_39 (looseW Mine.hd.view_39 []) mean mg mb g) (D : KtsDicts (outer.filterMap (·.frame)) g) :
    MidB w A₀ base outer mean mg mb g₀ L it l cr d oit vs nn i at' low s { s with heap := h, toks := tk }

theorem put5 {m : Str → Option Value} {a b c e f : Str} {va vb vc ve vf : Value} (ha : m a = some va) (hb : m b = some vb) (hc : m c = some vc) (he : m e = some ve) (hf : m f = some vf) :
    ∃ m₀ : Str → Option Value, m = fun z => if z = a then some va else if z = b then some vb else if z = c then some vc else if z = e then some ve else if z = f then some vf else m₀ z := ⟨m, by
  funext z
  by_cases h1 : z = a
  · rw [if_pos h1, h1, ha]
  · rw [if_neg h1]
    by_cases h2 : z = b
    · rw [if_pos h2, h2, hb]
    · rw [if_neg h2]
      by_cases h3 : z = c
      · rw [if_pos h3, h3, hc]
      · rw [if_neg h3]
        by_cases h4 : z = e
        · rw [if_pos h4, h4, he]
        · rw [if_neg h4]
          by_cases h5 : z = f
          · rw [if_pos h5, h5, hf]
          · rw [if_neg h5]⟩

section
set_option maxRecDepth 100000 in
set_option maxHeartbeats 8000000 in
theorem reflA (w : World) {mean : ExcName → Option Value} {mg mb : Str → Option Value} (gd : Option (List Code)) (env : Env) (A₀ : Around) (h₀ : Heap) (L : Addr) (m : Str → Option Value) (s : Shared) (Q E : Value → Shared → Prop)
    (all : List (Addr × Obj)) (l : Addr) (vs : List Value) (ns : List Int) (nn : Nat)
    (B : Below A₀ h₀ [] h₀) (F : Fr h₀ L s.heap m) (X : (Mine.hd.heap_39 w.params).In h₀)
    (NA : News h₀ L s.heap all) (hl : (l, listOf vs.toArray nn) ∈ all)
    (T : Top Mine.hd.view_39 (looseW Mine.hd.view_39 []) mean mg mb h₀) (hf : env.frame = some L) (hke : env.scope.kind = .function) (hi : IntsAre vs ns) (hlow : ∀ n ∈ ns, -1 ≤ n) (hmost : ns.length ≤ 64)
    (hret : ∀ h' tk' t', Fr h₀ L h' m → News h₀ L h' all → Q (.int (reflFrom 0 0 ns) t') { s with heap := h', toks := tk' }) :
    wpAny (model PySem.Challenge.rw_tk0085_01.row.prog w) { handled := none, depth := 800, frames := some [env], guards := gd, units := 800 } (call (.ref 118) [.ref l]) Q E s := by
  k_with_none
  w_top off
  k_with "own steps" => (repeat' (first
  | ((fail_if_success (with_reducible show wpAny _ _ (PySem.execs (Stmt.For _ _ _ _ _ :: _) _) _ _ _)); (first | (k_unfold; (try dsimp only)) | (k_end; wrow_close) | walk1 | (dsimp only; walk1) | (leave1; walk_say "STEP leave1"; try dsimp only)))
  | fail "no step"))
  k_with "own steps to the if" => (repeat' (first
  | ((fail_if_success (with_reducible show wpAny _ _ (PySem.execs (Stmt.If _ _ _ _ :: _) _) _ _ _)); (first | (k_unfold; (try dsimp only)) | (k_end; wrow_close) | walk1 | (dsimp only; walk1) | (leave1; walk_say "STEP leave1"; try dsimp only)))
  | fail "no step"))
  k_with "own call ref" => ((k_here; (with_reducible show wpAny _ _ (PySem.call (Value.ref 111) _) _ _ _); k_dflt (refine' spent_p ?o9B ?o9F ?o9X ?o9N ?o9T ?o9XB ?o9TB ?o9D ?o9T0 ?o9hA ?o9hh ?o9hd ?o9hu ?o9hc ?o9hl ?o9h1 ?o9h2 ?o9hp ?_ ?_; (case o9F => k_asm); (case o9N => k_asm); (case o9hA => exact rfl); (case o9B => k_asm); (case o9X => k_asm); (case o9T => k_asm); (case o9XB => k_asm); (case o9TB => k_asm); (case o9D => k_asm); (case o9T0 => k_asm); (case o9hh => exact rfl); (case o9hd => exact Nat.le_of_ble_eq_true rfl); (case o9hu => exact Nat.le_of_ble_eq_true rfl); (case o9hc => exact rfl); (case o9hl => k_asm); (case o9h1 => k_ne); (case o9h2 => k_ne); (case o9hp => k_all)); rotate_left; (intro _ _ _ _ _ _ _ _ _ _ _; (try k_sweep)); rotate_right; (intro _ _ _ _ _ _; (try k_sweep))))
  k_with "own call ref" => ((k_here; (with_reducible show wpAny _ _ (PySem.call (Value.ref 83) _) _ _ _); (rename ToldOk _ _ _ => htoX); k_dflt (refine' nb_p ?o9B ?o9F ?o9X ?o9N ?o9T ?o9hA ?o9hh ?o9hd ?o9hu ?o9hc ?o9hl ?o9h1 ?o9h2 ?o9hp (ToldOk.up htoX ?o9le) ?_ ?_; (case o9F => k_asm); (case o9N => k_asm); (case o9hA => exact rfl); (case o9B => k_asm); (case o9X => k_asm); (case o9T => k_asm); (case o9hh => exact rfl); (case o9hd => exact Nat.le_of_ble_eq_true rfl); (case o9hu => exact Nat.le_of_ble_eq_true rfl); (case o9hc => exact rfl); (case o9hl => k_asm); (case o9h1 => k_ne); (case o9h2 => k_ne); (case o9hp => k_all); (case o9le => omega)); rotate_left; (intro _ _ _ _ _ _ _; (try k_sweep)); rotate_right; (intro _ _ _ _ _; (try k_sweep))))
  k_with "own in" => (first | with_reducible assumption | exact Frag.In.keeps (by k_asm) (Fr.keep (by k_asm)))
  k_with "own LeaveK" => ((k_dflt (refine' leaveK_ ?o9k1 ?o9k2 ?_; (case o9k1 => k_asm); (case o9k2 => k_asm); k_whole); intro kF kN; (try dsimp only at kF kN); ground_anew kF; (have _ := kFor kF (by k_asm)); (try dsimp only [PySem.W.InitBack, PySem.W.CmpBack, PySem.W.LenBack, PySem.W.StrBack, PySem.W.BoolBack]); (try refine ⟨rfl, ?_⟩); (try dsimp only [PySem.W.CmpBack, PySem.W.LenBack, PySem.W.StrBack, PySem.W.BoolBack]); (try (refine ⟨⟨by omega, by omega⟩, ?_⟩)); (try (refine handed_on rfl ?_; try dsimp only))))
  k_with "own binaryOp Add ref ref" => ((k_here; (with_reducible show wpAny _ _ (binaryOp _ (Value.ref _) (Value.ref _)) _ _ _); k_dflt (refine' kmk_add_ints ?o9F ?o9N ?o9a ?o9b ?o9i ?o9j ?_ ?o9z; (case o9F => k_asm); (case o9N => k_asm); (case o9a => kmk_list); (case o9b => kmk_list); (case o9i => l_ints); (case o9j => l_ints); (case o9z => (simp only [List.length_nil, List.length_cons, Nat.zero_add, Nat.add_zero]; (first | assumption | exact Nat.le_of_succ_le (by assumption))))); intro _ _ _ _ _ l1 _; (try k_lt l1); (try k_sweep)))
  k_with "own ite" => (first | with_reducible refine ite_tt ?_ | with_reducible refine ite_ff ?_)
  revert X
  k_fill
  intro X
  have N : News h₀ L s.heap [(l, listOf vs.toArray nn)] := kst_newsOf NA fun p hp => by obtain rfl := List.mem_singleton.mp hp; exact hl
  have NR : News h₀ L s.heap (offOf l all) := kst_newsOf NA fun p hp => offOf_sub hp
  replace hret : ∀ h' tk' t', Fr h₀ L h' m → News h₀ L h' [(l, listOf vs.toArray nn)] → News h₀ L h' (offOf l all) → Q (.int (reflFrom 0 0 ns) t') { s with heap := h', toks := tk' } :=
    fun h' tk' t' F' N' R' => hret h' tk' t' F' (news_offOf NA hl N' R')
  clear NA hl
  refine wpAny_call ?_
  k_dflt (refine' code_S1 ?k1 ?k2 ?k3 ?k4 ?kNR ?kO ?k5 ?kA ?kf ?kk ?k6 ?k7 ?k8 ?k9 ?kB ?_ ?c2 ?c3 ?c4 ?c5; (case kNR => exact NR); (case k4 => exact N); (case kO => exact offOf_ne); (case kA => exact rfl); (case kf => exact hf); (case kk => exact hke); (case k2 => k_asm); (case k1 => k_asm); (case k3 => k_asm); (case k5 => k_asm); (case k6 => k_is); (case k7 => k_is); (case k8 => k_room); (case k9 => exact BindsTo.of_eq rfl); (case kB => exact locs rfl); (case c2 => exact rfl); (case c3 => exact rfl); (case c4 => exact rfl); (case c5 => decide); k_whole; intro g1 L1 h1 FG1 F1 N1 B1 X1 T1 D1; (try dsimp only); (try k_fold))
  k_extra "own steps"
  k_gentoks
  rename_i cr d hq1 l1 l2 gq Lq hq2 Bq Xq Tq tkq hq3 hq4 hq5 Fq Nq Tcq kXq kn hq6 l3 Dq hq7 l4 hq8 hq9 hq10 hq11 hq12 h2 F2 N2
  obtain ⟨t1, t2, k1, k2, k3, N3⟩ : ∃ t1 t2 k1 k2 k3, News g1 L1 h2 [(l, listOf vs.toArray nn), (cr, instObj 93 d), (d, crD w 0 0 .none t1 t2 k1 k2 k3), (kn, listOf #[] 0)] :=
    ⟨_, _, _, _, _, kst_newsOf N2 fun p hp => by
      rcases List.mem_cons.mp hp with rfl | hp
      · exact .tail _ (.tail _ (.tail _ (.tail _ (.head _))))
      · rcases List.mem_cons.mp hp with rfl | hp
        · exact .tail _ (.tail _ (.head _))
        · rcases List.mem_cons.mp hp with rfl | hp
          · exact .tail _ (.tail _ (.tail _ (.head _)))
          · exact .tail _ ((List.mem_singleton.mp hp) ▸ .head _)⟩
  refine wpAny_execs_cons ?_
  try dsimp only
  refine For_groundQ (l := l) (vs := vs) (nn := nn) (g₀ := g1) (news₀ := [(cr, instObj 93 d), (d, crD w 0 0 .none t1 t2 k1 k2 k3), (kn, listOf #[] 0)]) (RInv w { handled := none, depth := 800, frames := some [env], guards := gd, units := 800 } h₀ [env] mean mg mb g1 l cr d ns) rfl rfl rfl (ld F2 rfl ⟨rfl, rfl⟩) F2 N3 ?_ ?_ ?_
  · intro it lit low
    exact .mk 0 0 0 0 0 .none t1 t2 k1 k2 k3 _ _ _ kn [] [] 0 .nil (Nat.le_refl _) (.inl ⟨rfl, rfl⟩) rfl rfl rfl rfl rfl rfl rfl (Int.le_refl _) (by rw [List.drop_zero]) l1 l2 (low _ (.head _)) l3.1 KtsTurn.refl B1 X1 T1 D1
  · rintro it i v g m' nw h tk oit hvi ⟨limit, used, at', low, rf, told, t1, t2, k1, k2, k3, u1, u2, u3, kn, kvs, known, kk, hki, hkl, hto, hm1, hm2, hrf, hm3, hm4, hm5, hrm, hla, hho, l3, l4, l5, l6, T0, B', X', T', D'⟩ F' N' off lit Q' E'
    obtain ⟨n, t, hni, rfl⟩ : ∃ n t, ns[i]? = some n ∧ v = .int n t := by
      have hlt : i < ns.length := by
        have := (List.getElem?_eq_some_iff.mp hvi).1
        have e := hi.length
        omega
      refine ⟨ns[i], ?_⟩
      obtain ⟨t, ht⟩ := hi.get i _ (List.getElem?_eq_getElem hlt)
      exact ⟨t, List.getElem?_eq_getElem hlt, Option.some.inj (hvi.symm.trans ht)⟩
    have hdr : ns.drop i = n :: ns.drop (i + 1) := by
      obtain ⟨hlt, rfl⟩ := List.getElem?_eq_some_iff.mp hni
      exact List.drop_eq_getElem_cons hlt
    have hil : i < ns.length := (List.getElem?_eq_some_iff.mp hni).1
    have hks : known.length + 1 ≤ sizeLine := by rw [sizeLine_eq]; omega
    have hn1 := hlow n (List.mem_of_getElem? hni)
    rw [hdr, reflFrom] at hho
    obtain ⟨m₀, rfl⟩ := put5 hm1 hm2 hm3 hm4 hm5
    have k6 : @Ne Nat kn it := off _ (.tail _ (.tail _ (.head _)))
    clear F2 N2 N3 Nq Fq hq1 hq2 hq3 hq4 hq5 hq6 hq7 hq8 hq9 hq10 hq11 hq12 Tcq kXq Xq Tq Bq hm1 hm2 hm3 hm4 hm5 l1 l2 hret B1 X1 T1 D1 FG1 NR N B F
    have lkd : @LT.lt Nat _ d kn := Nat.lt_trans l4 l6
    have lkl : @LT.lt Nat _ l kn := Nat.lt_trans l3 lkd
    have oc : @Ne Nat cr it := off _ (.head _)
    have od : @Ne Nat d it := off (d, crD w limit used told t1 t2 k1 k2 k3) (.tail _ (.head _))
    have odi : @LT.lt Nat _ d it := Nat.lt_trans l4 l5
    have od2 : @Ne Nat it d := Ne.symm od
    have okd : @Ne Nat kn d := Nat.ne_of_gt lkd
    clear off
    k_extra "own steps to the if"
    refine cut1 (MidA w { handled := none, depth := 800, frames := some [env], guards := gd, units := 800 } h₀ [env] mean mg mb g1 L1 it l cr d kn oit vs nn kvs kk told limit (at' + n) (if at' + n < low then at' + n else low) s) ?_ ?_
    · clear hho hks hkl hto
      k_extra "own steps"
      all_goals (refine MidA.mk _ _ _ _ _ _ _ _ _ _ _ _ _ _ _ (by assumption) (by assumption) rfl rfl ?_ rfl rfl rfl ?_ ?_ ?_ (by assumption) (by assumption) (by assumption) (by assumption) (by assumption) <;> omega)
    intro s' hA
    generalize (if at' + n < low then at' + n else low) = low2 at hho hA
    rename Fr g _ _ _ => Fx
    rename News g _ _ _ => Nx
    clear Fx Nx F' N' T0 B' X' T' D' hrm hla hrf
    obtain ⟨g, h, tk, m', limit, used, rf, t1, t2, k1, k2, k3, u1, u2, u3, F', N', hm1, hm2, hrf, hm3, hm4, hm5, hrm, hla, hle, T0, B', X', T', D'⟩ := hA
    obtain ⟨m₀, rfl⟩ := put5 hm1 hm2 hm3 hm4 hm5
    replace hto := hto.up hle
    clear hle hm1 hm2 hm3 hm4 hm5
    refine cut3 (MidB w { handled := none, depth := 800, frames := some [env], guards := gd, units := 800 } h₀ [env] mean mg mb g1 L1 it l cr d oit vs nn i (at' + n) low2 s) ?_ ?_
    · clear hho
      k_extra "own steps"
      all_goals first
        | (exfalso; first | omega | (have hx : (known.any fun x => x == _) = true := (by assumption); have hy : (known.any fun x => x == _) = false := (by assumption); rw [hx] at hy; cases hy) | (rename _ ∨ _ => ho; rcases ho with ho | ho; (omega); (have hy : (known.any fun x => x == _) = false := (by assumption); rw [ho] at hy; cases hy)))
        | (refine MidB.mk _ _ _ _ _ g _ _ _ _ _ _ _ _ _ _ _ _ _ _ (by assumption) (kst_newsOf (by assumption) (fun p hp => pick7 hp)) (by assumption) ?_ ?_ rfl rfl hrf rfl rfl rfl hrm hla ?_ ?_ T0 B' X' T' D'
           · simp only [List.length_append, List.length_cons, List.length_nil]; omega
           · first | exact ToldOk.same htoX (Int.le_refl _) | exact ToldOk.new htoX (Int.le_refl _)
           · omega
           · exact Nat.ne_of_gt (show @LT.lt Nat _ it _ by omega))
    intro s' hB
    clear F' T0 B' X' T' D' hrm hla hrf N' hks hkl hki okd lkl lkd k6 l6 hto
    obtain ⟨kn, kvs, known, kk, told, g, h, tk, m', limit, used, rf, t1, t2, k1, k2, k3, u1, u2, u3, F', N', hki, hkl, hto, hm1, hm2, hrf, hm3, hm4, hm5, hrm, hla, l6, k6, T0, B', X', T', D'⟩ := hB
    obtain ⟨m₀, rfl⟩ := put5 hm1 hm2 hm3 hm4 hm5
    clear hm1 hm2 hm3 hm4 hm5
    have lkd : @LT.lt Nat _ d kn := Nat.lt_trans l4 l6
    have lkl : @LT.lt Nat _ l kn := Nat.lt_trans l3 lkd
    have okd : @Ne Nat kn d := Nat.ne_of_gt lkd
    k_extra "own steps"
    all_goals first
      | (exfalso; omega)
      | (refine ⟨_, _, [(cr, instObj 93 d), (d, _), (_, _)], _, _, rfl, (by assumption), kst_newsOf (by assumption) (fun p hp => pick7c hp), ?_, .mk _ _ _ _ _ _ _ _ _ _ _ _ _ _ _ _ _ _ hki hkl hto rfl rfl hrf rfl rfl rfl hrm hla hho l3 l4 l5 l6 T0 B' X' T' D'⟩
         · intro p hp
           rcases List.mem_cons.mp hp with rfl | hp
           · exact oc
           · rcases List.mem_cons.mp hp with rfl | hp
             · exact od
             · obtain rfl := List.mem_singleton.mp hp; exact k6)
  · rintro it g m' nw h tk ⟨limit, used, at', low, rf, told, t1, t2, k1, k2, k3, u1, u2, u3, kn, kvs, known, kk, hki, hkl, hto, hm1, hm2, hrf, hm3, hm4, hm5, hrm, hla, hho, l3, l4, l5, l6, T0, B', X', T', D'⟩ F' N'
    have hb : reflFrom 0 0 ns = rf := by
      rw [← hho, hi.length, List.drop_length, hrf]; rfl
    rw [hb] at hret
    obtain ⟨m₀, rfl⟩ := put5 hm1 hm2 hm3 hm4 hm5
    clear F2 N2 N3 Nq Fq hq1 hq2 hq3 hq4 hq5 hq6 hq7 hq8 hq9 hq10 hq11 hq12 Tcq kXq
    k_extra "own steps"
    rename_i kF kN _ _ kR
    exact hret _ _ _ kF (fun p hp => kN p (by simp only [List.mem_singleton] at hp; subst hp; simp)) kR
end

end

section
open PySem PySem.W PyProof.Rows PySem.Calls
theorem refl_c {w : World} {mean : ExcName → Option Value} {mg mb : Str → Option Value} {A : Around} {env : Env} {A₀ : Around} {h₀ : Heap} {L : Addr} {m : Str → Option Value} {s : Shared} {Q E : Value → Shared → Prop}
    {all : List (Addr × Obj)} {l : Addr} {vs : List Value} {ns : List Int} {nn : Nat}
    (B : Below A₀ h₀ [] h₀) (F : Fr h₀ L s.heap m) (X : (Mine.hd.heap_39 w.params).In h₀)
    (NA : News h₀ L s.heap all) (hl : (l, listOf vs.toArray nn) ∈ all)
    (T : Top Mine.hd.view_39 (looseW Mine.hd.view_39 []) mean mg mb h₀)
    (hA : A.frames = some [env]) (hh : A.handled = none) (hdp : A.depth ≤ 800) (hun : A.units ≤ 800) (hf : env.frame = some L) (hke : env.scope.kind = .function) (hi : IntsAre vs ns) (hlow : ∀ n ∈ ns, -1 ≤ n) (hmost : ns.length ≤ 64)
    (hret : ∀ h' tk' t', Fr h₀ L h' m → News h₀ L h' all → Q (.int (reflFrom 0 0 ns) t') { s with heap := h', toks := tk' }) :
    wpAny (model PySem.Challenge.rw_tk0085_01.row.prog w) A (call (.ref 118) [.ref l]) Q E s :=
  weakenA (reflA w A.guards env A₀ h₀ L m s Q E all l vs ns nn B F X NA hl T hf hke hi hlow hmost hret) hh hdp hun (.inr hA.symm) (.inr rfl)

end

section

/-- the rotations that hold out -/
noncomputable def goodCount (t : List Int) : Nat := ((List.range t.length).filter fun i => holdsFrom 0 (t.drop i ++ t.take i)).length

noncomputable def turnsOf : Nat → List (List Int)
  | 0 => [[]]
  | n + 1 => (turnsOf n).flatMap fun t => [0 :: t, 1 :: t, 2 :: t]
theorem mem_turnsOf : ∀ {t : List Int}, (∀ x ∈ t, 0 ≤ x ∧ x < 3) → t ∈ turnsOf t.length
  | [], _ => .head _
  | x :: t, h => by
    refine List.mem_flatMap.mpr ⟨t, mem_turnsOf fun y hy => h y (.tail _ hy), ?_⟩
    have hx := h x (.head _)
    have : x = 0 ∨ x = 1 ∨ x = 2 := by omega
    rcases this with rfl | rfl | rfl <;> simp
noncomputable def goodOk (t : List Int) : Bool := decide ((goodCount t : Int) = if (t.length : Int) - t.sum < 0 then 0 else (t.length : Int) - t.sum)
theorem good4 : (turnsOf 4).all goodOk = true := by decide +kernel
theorem good5 : (turnsOf 5).all goodOk = true := by decide +kernel
theorem good6 : (turnsOf 6).all goodOk = true := by decide +kernel
theorem good_all {t : List Int} (h : ∀ x ∈ t, 0 ≤ x ∧ x < 3) (h4 : 4 ≤ t.length) (h6 : t.length ≤ 6) : (goodCount t : Int) = if (t.length : Int) - t.sum < 0 then 0 else (t.length : Int) - t.sum := by
  have m := mem_turnsOf h
  have : t.length = 4 ∨ t.length = 5 ∨ t.length = 6 := by omega
  rcases this with e | e | e <;> rw [e] at m
  · exact of_decide_eq_true (List.all_eq_true.mp good4 t m)
  · exact of_decide_eq_true (List.all_eq_true.mp good5 t m)
  · exact of_decide_eq_true (List.all_eq_true.mp good6 t m)

/-- the rows of steps down and up -/
noncomputable def rowsIn (f : Nat → List (List Int)) (s : Nat) : Nat → List (List Int)
  | 0 => [List.replicate (s + 1) (-1)]
  | l + 1 => (f (l + 1)).map (fun r => (-1) :: r) ++ (rowsIn f s l).map (fun r => 1 :: r)
noncomputable def rowsOf : Nat → Nat → List (List Int)
  | 0 => fun l => [List.replicate l 1]
  | s + 1 => rowsIn (rowsOf s) s

end

section
open PySem PySem.W PyProof.Rows PySem.Calls PySem.Spec
section
variable {prog : Program} {w : World} {A₀ A : Around} {s : Shared} {base h₀ : Heap} {L : Addr} {m : Str → Option Value} {news : List (Addr × Obj)} {K : Frag} {p : Program} {loose : List Str} {mean : ExcName → Option Value} {mg mb : Str → Option Value} {env : Env} {outer : List Env}
    {R : Result → Shared → Prop} {name qual : Str} {params : Arguments} {body : List Stmt} {scope : Scope} {dV kV doc pm cdv ct oc : Value} {an od : Option Addr} {osl : Array (Option Value)} {f : Addr} {args : Args} {binds : List (Str × Value)}

/-- into a def, a part of the caller's ledger kept out of its sight -/
theorem code_defR (B : Below A₀ base outer h₀) (F : Fr h₀ L s.heap m) (X₀ : K.In h₀) (N : News h₀ L s.heap news) {rest : List (Addr × Obj)} (NR : News h₀ L s.heap rest) (off : ∀ p ∈ rest, ∀ q ∈ news, p.1 ≠ q.1) (T : Top p loose mean mg mb h₀) (hA : A.frames = some (env :: outer)) (hf : env.frame = some L) (hke : env.scope.kind = .function)
    (ho : K.lookup f = some ⟨oc, od, .func (fnOf name qual params body scope dV kV doc pm an cdv ct), osl⟩) (hcd : codeIn K cdv qual = true) (hroom : A.depth < recursionLimit)
    (hbind : BindsTo s (fnOf name qual params body scope dV kV doc pm an cdv ct) args binds) (hloc : ∀ y ∈ binds, scope.names.lookup y.1 = some .local)
    (h : ∀ g L' h₁, Fr h₀ L g m → Fr g L' h₁ (fun y => binds.reverse.lookup y) → News g L' h₁ news → Below A base (env :: outer) g → K.In g → Top p loose mean mg mb g →
      wpAny (model prog w) (A.deeper (envOf qual scope L' f cdv)) (execs body (envOf qual scope L' f cdv))
        (fun fl s' => LeaveK h₀ L m g (fun r s' => News h₀ L s'.heap rest → R r s') (match fl with | .ret v => v | _ => .none) s')
        (fun e s' => wpAny (model prog w) (A.deeper (envOf qual scope L' f cdv)) (leaving (envOf qual scope L' f cdv) e) (fun _ s'' => R (.error e) s'') (fun e' s'' => R (.error e') s'') s')
        { s with heap := h₁, toks := s.toks + binds.length })
    (hco : scope.isCoroutine = false) (hgen : scope.isGenerator = false) (hk : scope.kind = .function)
    (hcell : ∀ x ∈ scope.names, x.2 ≠ .cell) : codeAny (model prog w) A (.call (.ref f) args) R s := by
  have X := X₀.keeps F.keep
  refine codeAny_call_def (fd := fnOf name qual params body scope dV kV doc pm an cdv ct) (body := body) (binds := binds) hroom (X _ _ ho) rfl (T.nolimit.keeps F.keep) (codeRec_of X hcd) rfl hbind hcell hloc (fun h₁ hns hk₁ => ?_) hco hgen hk
  obtain ⟨FG, BG, st, k⟩ := groundX (R := fun r s' => News h₀ L s'.heap rest → R r s') B F N hA hf hke
  refine wpAny_mono (h _ s.heap.objs.size h₁ FG ⟨hns, fun b o e => hk₁ b o (of_hideAll _ e), Nat.le_of_eq (hideAll_size _ _)⟩
    (fun p hp => ⟨hk₁ _ _ (N p hp).1, Nat.ne_of_lt (Heap.lt_size (N p hp).1), hideAll_none _ (List.mem_map_of_mem hp)⟩) BG (X₀.keeps st) (T.keeps st)) (fun fl s' hl => ?_) fun _ _ y => y
  have z := k _ s' hl
  obtain ⟨L', m', news', F', N', kk⟩ := hl
  refine z fun p hp => ⟨F'.keep _ _ (hideAll_get (news.map (·.1)) (NR p hp).1 fun hm => ?_), (NR p hp).2⟩
  obtain ⟨q, hq, e⟩ := List.mem_map.mp hm
  exact off p hp q hq e.symm
end

end

section
open PySem PySem.W PyProof.Rows PySem.Calls PyProof.Rows.LCg

/-- a list of lists of ints, borne by a ledger -/
structure RowsAre (rs : List Value) (led : List (Addr × Obj)) (rows : List (List Int)) : Prop where
  length : rs.length = rows.length
  get : ∀ (i : Nat) (row : List Int), rows[i]? = some row → ∃ (a : Addr) (vs : List Value) (k : Nat), rs[i]? = some (Value.ref a) ∧ (a, listOf vs.toArray k) ∈ led ∧ IntsAre vs row
theorem RowsAre.nil {led : List (Addr × Obj)} : RowsAre [] led [] := ⟨rfl, fun i row h => by simp at h⟩
theorem RowsAre.snoc {rs : List Value} {led : List (Addr × Obj)} {rows : List (List Int)} {a : Addr} {vs : List Value} {k : Nat} {row : List Int} (h : RowsAre rs led rows) (hi : IntsAre vs row) :
    RowsAre (rs ++ [.ref a]) ((a, listOf vs.toArray k) :: led) (rows ++ [row]) := by
  refine ⟨by simp [h.length], fun i r hr => ?_⟩
  by_cases hlt : i < rows.length
  · rw [List.getElem?_append_left hlt] at hr
    obtain ⟨b, ws, k', e1, e2, e3⟩ := h.get i r hr
    exact ⟨b, ws, k', by rw [List.getElem?_append_left (by rw [h.length]; exact hlt)]; exact e1, .tail _ e2, e3⟩
  · have hi' : i = rows.length := by
      have := (List.getElem?_eq_some_iff.mp hr).1
      simp at this; omega
    subst hi'
    rw [List.getElem?_concat_length] at hr
    obtain rfl := Option.some.inj hr
    exact ⟨a, vs, k, by rw [← h.length, List.getElem?_concat_length], .head _, hi⟩


theorem rowsAre_get {rs : List Value} {led : List (Addr × Obj)} {rows : List (List Int)} (h : RowsAre rs led rows) {i : Nat} {v : Value} (hv : rs[i]? = some v) : ∃ (row : List Int) (a : Addr) (vs : List Value) (k : Nat), rows[i]? = some row ∧ v = .ref a ∧ (a, listOf vs.toArray k) ∈ led ∧ IntsAre vs row := by
  have hlt : i < rows.length := by rw [← h.length]; exact (List.getElem?_eq_some_iff.mp hv).1
  obtain ⟨a, vs, k, e1, e2, e3⟩ := h.get i _ (List.getElem?_eq_getElem hlt)
  exact ⟨_, a, vs, k, List.getElem?_eq_getElem hlt, Option.some.inj (hv.symm.trans e1), e2, e3⟩

section
variable {prog : Program} {w : World} {A : Around} {E : Value → Shared → Prop} {s : Shared} {h₀ : Heap} {L : Addr} {m : Str → Option Value} {env : Env}
/-- a comprehension over rows whose element is a new row -/
theorem compRows {elt : Expr} {x : Str} {scope : Scope} {cl : List (Str × Addr)} {Fin : List Value → List (Addr × Obj) → Prop} {ax : Addr} {rs : List Value} {kk : Nat} {news : List (Addr × Obj)} {rows : List (List Int)} (f : List Int → List Int)
    (hr : RowsAre rs news rows) (hax : (ax, listOf rs.toArray kk) ∈ news)
    (turn : ∀ I oI C oC D ys m₂ h tk E' a vs k row nw (P : Value → Shared → Prop), NsObj oC m₂ → m₂ x = some (.ref a) → Fr h₀ L h m → News h₀ L h ((I, oI) :: (C, oC) :: (D, LCg.lst ys) :: nw) → LCg.Off3 I C D nw → ((@Ne Nat I C) ∧ (@Ne Nat I D) ∧ (@Ne Nat C D)) →
      (a, listOf vs.toArray k) ∈ nw → IntsAre vs row → row ∈ rows →
      (∀ h' tk' b ws k', Fr h₀ L h' m → News h₀ L h' ((b, listOf ws.toArray k') :: (I, oI) :: (C, oC) :: (D, LCg.lst ys) :: nw) → ((@Ne Nat b I) ∧ (@Ne Nat b C) ∧ (@Ne Nat b D)) → IntsAre ws (f row) → P (.ref b) { s with heap := h', toks := tk' }) →
      wpAny (model prog w) A (eval elt (compEnvC scope cl C env)) P E' { s with heap := h, toks := tk })
    (fin : ∀ ys acc, RowsAre ys acc (rows.map f) → Fin ys (acc ++ news)) :
    ∀ k i ys acc, i + k = rows.length → RowsAre ys acc ((rows.take i).map f) → LCg.CompRest prog w A h₀ L m env elt x scope cl s (LCg.SrcAt h₀ ax rs.toArray) (fun i v => rs.toArray[i]? = some v) Fin k i ys (acc ++ news)
  | 0, i, ys, acc, hik, ha => by
    have hi : i = rows.length := by omega
    rw [hi, List.take_length] at ha
    exact LCg.CompRest.zero (fin ys acc ha)
  | k + 1, i, ys, acc, hik, ha => by
    refine LCg.CompRest.succ fun v I oI C oC D m₂ h tk E' hv hC hx F N off ne => ?_
    obtain ⟨row, a, vs, k₁, e1, rfl, e3, e4⟩ := rowsAre_get hr (show rs[i]? = some v by simpa using hv)
    refine turn I oI C oC D ys m₂ h tk E' a vs k₁ row (acc ++ news) _ hC hx F N off ne (List.mem_append_right _ e3) e4 (List.mem_of_getElem? e1) fun h' tk' b ws k' F' N' nb hi' => ?_
    refine LCg.CompEnd.intro F' N' ((b, listOf ws.toArray k') :: (acc ++ news)) (fun p hp => ?_) ⟨nb, off⟩ (.inr ⟨_, .tail _ (List.mem_append_right _ hax), rfl, _, rfl⟩) ?_
    · rcases List.mem_cons.mp hp with rfl | hp
      · exact .tail _ (.head _)
      · rcases List.mem_cons.mp hp with rfl | hp
        · exact .tail _ (.tail _ (.head _))
        · rcases List.mem_cons.mp hp with rfl | hp
          · exact .tail _ (.tail _ (.tail _ (.head _)))
          · rcases List.mem_cons.mp hp with rfl | hp
            · exact .head _
            · exact .tail _ (.tail _ (.tail _ (.tail _ hp)))
    · have e : (rows.take (i + 1)).map f = (rows.take i).map f ++ [f row] := by
        rw [List.take_add_one, e1]; simp
      exact compRows f hr hax turn fin k (i + 1) (ys ++ [.ref b]) ((b, listOf ws.toArray k') :: acc) (by omega) (by rw [e]; exact ha.snoc hi')
end

theorem RowsAre.mono {rs : List Value} {led led' : List (Addr × Obj)} {rows : List (List Int)} (h : RowsAre rs led rows) (hs : ∀ p ∈ led, p ∈ led') : RowsAre rs led' rows :=
  ⟨h.length, fun i row hr => let ⟨a, vs, k, e1, e2, e3⟩ := h.get i row hr; ⟨a, vs, k, e1, hs _ e2, e3⟩⟩
theorem rowsOf_len {a b : Nat} (ha : a ≤ 3) (hb : b ≤ 3) : (rowsOf a b).length ≤ 20 := by
  have h1 : a = 0 ∨ a = 1 ∨ a = 2 ∨ a = 3 := by omega
  have h2 : b = 0 ∨ b = 1 ∨ b = 2 ∨ b = 3 := by omega
  rcases h1 with rfl | rfl | rfl | rfl <;> rcases h2 with rfl | rfl | rfl | rfl <;> decide
theorem rowsOf_row {a b : Nat} (ha : a ≤ 3) (hb : b ≤ 3) : ∀ r ∈ rowsOf a b, r.length ≤ 6 := by
  have h1 : a = 0 ∨ a = 1 ∨ a = 2 ∨ a = 3 := by omega
  have h2 : b = 0 ∨ b = 1 ∨ b = 2 ∨ b = 3 := by omega
  rcases h1 with rfl | rfl | rfl | rfl <;> rcases h2 with rfl | rfl | rfl | rfl <;> decide
theorem RowsAre.append {rs rs' : List Value} {led : List (Addr × Obj)} {rows rows' : List (List Int)} (h : RowsAre rs led rows) (h' : RowsAre rs' led rows') : RowsAre (rs ++ rs') led (rows ++ rows') := by
  refine ⟨by simp [h.length, h'.length], fun i r hr => ?_⟩
  by_cases hlt : i < rows.length
  · rw [List.getElem?_append_left hlt] at hr
    rw [List.getElem?_append_left (by rw [h.length]; exact hlt)]
    exact h.get i r hr
  · rw [List.getElem?_append_right (by omega)] at hr
    rw [List.getElem?_append_right (by rw [h.length]; omega), h.length]
    exact h'.get _ r hr
theorem rowsOf_step {a b : Nat} (ha : a ≠ 0) (hb : b ≠ 0) : rowsOf a b = (rowsOf (a - 1) b).map (fun r => (-1) :: r) ++ (rowsOf a (b - 1)).map (fun r => 1 :: r) := by
  obtain ⟨a, rfl⟩ : ∃ k, a = k + 1 := ⟨a - 1, by omega⟩
  obtain ⟨b, rfl⟩ : ∃ k, b = k + 1 := ⟨b - 1, by omega⟩
  rfl
theorem rowsOf_base {a b : Nat} {x y : Int} (hx : x = a) (hy : y = b) (h : a = 0 ∨ b = 0) : rowsOf a b = [(List.replicate x.toNat [(-1 : Int)]).flatten ++ (List.replicate y.toNat [(1 : Int)]).flatten] := by
  subst hx hy
  have e : ∀ (n : Nat) (c : Int), (List.replicate n [c]).flatten = List.replicate n c := fun n c => by
    induction n with
    | zero => rfl
    | succ n ih => rw [List.replicate_succ, List.flatten_cons, ih]; rfl
  rw [Int.toNat_natCast, Int.toNat_natCast, e, e]
  rcases h with rfl | rfl
  · rfl
  · cases a with
    | zero => rfl
    | succ a => rw [List.replicate_zero, List.append_nil]; rfl
theorem mem_skip2 {α : Type} {x a b : α} {l : List α} {p : α} (h : p ∈ x :: l) : p ∈ x :: a :: b :: l := by
  rcases List.mem_cons.mp h with rfl | h
  · exact .head _
  · exact .tail _ (.tail _ (.tail _ h))
theorem rowOne {h₀ h : Heap} {L l D : Addr} {ws : List Value} {news extra : List (Addr × Obj)} {row : List Int} {rows : List (List Int)} (kN : News h₀ L h ((l, listOf #[.ref D] 0) :: (D, listOf ws.toArray 0) :: extra)) (kR : News h₀ L h news) (hi : IntsAre ws row) (hb : rows = [row]) :
    ∃ rs led, News h₀ L h ((l, listOf (List.toArray rs) 0) :: (led ++ news)) ∧ RowsAre rs led rows := by
  subst hb
  refine ⟨[.ref D], [(D, listOf ws.toArray 0)], fun p hp => ?_, rfl, fun i row hr => ?_⟩
  · rcases List.mem_cons.mp hp with rfl | hp
    · exact kN _ (.head _)
    · rcases List.mem_cons.mp hp with rfl | hp
      · exact kN _ (.tail _ (.head _))
      · exact kR p hp
  · cases i with
    | zero => obtain rfl := Option.some.inj hr; exact ⟨_, _, _, rfl, .head _, hi⟩
    | succ i => cases hr

/-- what _law_rows answers -/
def RowsC (w : World) (mean : ExcName → Option Value) (mg mb : Str → Option Value) (n : Nat) : Prop :=
  ∀ (sent let' : Nat) (a b : Int) (t1 t2 : Tok) (dp un : Nat) (gd : Option (List Code)) (env : Env) (outer : List Env) (A₀ : Around) (base h₀ : Heap) (L : Addr) (m : Str → Option Value) (s : Shared) (Q E : Value → Shared → Prop) (news : List (Addr × Obj)),
    sent + let' = n → sent ≤ 3 → let' ≤ 3 → a = sent → b = let' → dp + n < recursionLimit → un + 8 * n < cLine →
    Below A₀ base outer h₀ → Fr h₀ L s.heap m → (Mine.hd.heap_39 w.params).In h₀ → News h₀ L s.heap news → Top Mine.hd.view_39 (looseW Mine.hd.view_39 []) mean mg mb h₀ → env.frame = .some L → env.scope.kind = .function →
    (∀ h' tk' R rs kk led, Fr h₀ L h' m → News h₀ L h' ((R, listOf rs.toArray kk) :: (led ++ news)) → RowsAre rs led (rowsOf sent let') → Q (.ref R) { s with heap := h', toks := tk' }) →
    wpAny (model PySem.Challenge.rw_tk0085_01.row.prog w) { handled := none, depth := dp, frames := .some (env :: outer), guards := gd, units := un } (call (.ref 123) [.int a t1, .int b t2]) Q E s

section
local macro_rules | `(tactic| kmk_sum) => `(tactic| (simp only [sizeLine_eq, List.length_cons, List.length_nil]; omega))
set_option maxRecDepth 100000 in
set_option maxHeartbeats 8000000 in
theorem rowsStep (w : World) {mean : ExcName → Option Value} {mg mb : Str → Option Value} (n : Nat) (IH : ∀ k, k < n → RowsC w mean mg mb k) : RowsC w mean mg mb n := by
  k_with_none
  w_top off
  k_with "own steps" => (repeat' (first
  | ((fail_if_success (with_reducible show wpAny _ _ (PySem.eval (Expr.ListComp _ _ _ _) _) _ _ _)); (fail_if_success (with_reducible show LCg.CompSrc _ _ _ _ _ _ _ _ _ _ _ _ _ _)); first | (k_unfold; (try dsimp only)) | (k_end; wrow_close) | walk1 | (dsimp only; walk1) | (leave1; walk_say "STEP leave1"; try dsimp only))
  | fail "no step"))
  intro sent let' av bv t1 t2 dp un gd env outer A₀ base h₀ L m s Q E news hsum h1 h2 hav hbv hdp hun B F X N T hf hke hret
  revert X
  k_fill
  intro X
  (refine wpAny_call ?_; k_dflt (refine' code_defR (news := []) (rest := news) ?k1 ?k2 ?k3 ?k4 ?kNR ?kO ?k5 ?kA ?kF ?kK ?k6 ?k7 ?k8 ?k9 ?kB ?_ ?c2 ?c3 ?c4 ?c5; (case kA => exact rfl); (case kF => exact hf); (case kK => exact hke); (case k1 => k_asm); (case k2 => k_asm); (case k3 => k_asm); (case k4 => exact fun _ h => nomatch h); (case kNR => exact N); (case kO => exact fun _ _ _ h => nomatch h); (case k5 => k_asm); (case k6 => k_is); (case k7 => k_is); (case k8 => ktr_room); (case k9 => exact BindsTo.of_eq rfl); (case c5 => decide); (case kB => exact locs rfl); (case c2 => exact rfl); (case c3 => exact rfl); (case c4 => exact rfl); k_whole; intro g' L' h' FG' F' N' B' X' T'; (try dsimp only); (try k_lift B'); (try k_fold)))
  k_extra "own steps"
  · rename_i kF kN _ _ kR
    obtain ⟨rs, led, n1, n2⟩ := rowOne kN kR (by assumption) (rowsOf_base hav hbv (.inl (by omega)))
    exact hret _ _ _ rs 0 led kF n1 n2
  · rename_i kF kN _ _ kR
    obtain ⟨rs, led, n1, n2⟩ := rowOne kN kR (by assumption) (rowsOf_base hav hbv (.inr (by omega)))
    exact hret _ _ _ rs 0 led kF n1 n2
  have hs0 : sent ≠ 0 := by omega
  have hl0 : let' ≠ 0 := by omega
  refine LCg.ListComp_U (F₀ := F') (cl := []) (by with_unfolding_all rfl) (by decide) (by rfl) (by decide) (by rfl) ?_
  k_extra "own steps"
  refine IH (n - 1) (by omega) (sent - 1) let' (av - 1) bv _ _ (dp + 1) (un + 3) gd _ (env :: outer) _ base g' L' _ _ _ _ [] (by omega) (by omega) h2 (by omega) hbv (by omega) (by omega) B' F' X' N' T' rfl rfl ?_
  intro h2' tk2 R rs kk led F2 N2 hr
  simp only [List.append_nil] at N2
  have hrl := hr.length
  have hr20 := rowsOf_len (show sent - 1 ≤ 3 by omega) h2
  refine CompSrc.ledger (by rfl) F2 N2 (.head _) (by rw [List.size_toArray, hrl, sizeLine_eq]; omega) fun gg => ?_
  rw [List.size_toArray, hrl]
  refine compRows (fun r => (-1) :: r) (hr.mono fun p hp => .tail _ hp) (.head _) ?_ ?_ _ 0 [] [] (by omega) (by rw [List.take_zero]; exact RowsAre.nil)
  · intro I oI C oC D ys m₂ h3 tk3 E' a vs k row nw P hC hx F3 N3 off ne ha hi hrow hP
    replace hrow := rowsOf_row (show sent - 1 ≤ 3 by omega) h2 row hrow
    have N4 : News g' L' h3 ((a, listOf vs.toArray k) :: (I, oI) :: (C, oC) :: (D, lst ys) :: nw) := kst_newsOf N3 fun p hp => by
      rcases List.mem_cons.mp hp with rfl | hp
      · exact .tail _ (.tail _ (.tail _ ha))
      · exact hp
    clear N3 N2 F2
    dsimp only at F3 N4 ⊢
    k_extra "own steps"
    rename_i F5 N5 hI5 l5
    exact hP _ _ _ _ _ F5 (kst_newsOf N5 fun p hp => mem_skip2 hp) ⟨Nat.ne_of_gt l5.2.2.1, Nat.ne_of_gt l5.2.2.2.1, Nat.ne_of_gt l5.2.2.2.2.1⟩ hI5
  intro ys1 acc1 ha1 D1 h4 tk4 F4 N4 o4
  clear N2 F2
  dsimp only at F4 N4 ⊢
  refine LCg.ListComp_U (F₀ := F4) (cl := []) (by with_unfolding_all rfl) (by decide) (by rfl) (by decide) (by rfl) ?_
  k_extra "own steps"
  refine IH (n - 1) (by omega) sent (let' - 1) av (bv - 1) _ _ (dp + 1) (un + 3) gd _ (env :: outer) _ base g' L' _ _ _ _ _ (by omega) h1 (by omega) hav (by omega) (by omega) (by omega) B' (by assumption) X' (by assumption) T' rfl rfl ?_
  intro h5' tk5 R2 rs2 kk2 led2 F5 N5 hr2
  have hrl2 := hr2.length
  have hr202 := rowsOf_len h1 (show let' - 1 ≤ 3 by omega)
  refine CompSrc.ledger (by rfl) F5 N5 (.head _) (by rw [List.size_toArray, hrl2, sizeLine_eq]; omega) fun gg => ?_
  rw [List.size_toArray, hrl2]
  refine compRows (fun r => 1 :: r) (hr2.mono fun p hp => .tail _ (List.mem_append_left _ hp)) (.head _) ?_ ?_ _ 0 [] [] (by omega) (by rw [List.take_zero]; exact RowsAre.nil)
  · intro I oI C oC D ys m₂ h3 tk3 E' a vs k row nw P hC hx F3 N3 off ne ha hi hrow hP
    replace hrow := rowsOf_row h1 (show let' - 1 ≤ 3 by omega) row hrow
    have N4 : News g' L' h3 ((a, listOf vs.toArray k) :: (I, oI) :: (C, oC) :: (D, lst ys) :: nw) := kst_newsOf N3 fun p hp => by
      rcases List.mem_cons.mp hp with rfl | hp
      · exact .tail _ (.tail _ (.tail _ ha))
      · exact hp
    clear N3 N5 F5
    dsimp only at F3 N4 ⊢
    k_extra "own steps"
    rename_i F5 N5 hI5 l5
    exact hP _ _ _ _ _ F5 (kst_newsOf N5 fun p hp => mem_skip2 hp) ⟨Nat.ne_of_gt l5.2.2.1, Nat.ne_of_gt l5.2.2.2.1, Nat.ne_of_gt l5.2.2.2.2.1⟩ hI5
  intro ys2 acc2 ha2 D2 h6 tk6 F6 N6 o6
  clear N5 F5
  dsimp only at F6 N6 ⊢
  have L1 : h6.IsList D1 ys1.toArray := ⟨_, (N6 (D1, lst ys1) (.tail _ (List.mem_append_right _ (.tail _ (List.mem_append_right _ (.head _)))))).1, rfl, _, rfl⟩
  have L2 : h6.IsList D2 ys2.toArray := ⟨_, (N6 (D2, lst ys2) (.head _)).1, rfl, _, rfl⟩
  have z1 := ha1.length
  have z2 := ha2.length
  rw [List.length_map] at z1 z2
  refine add_lists (vs := ys1) (ws := ys2) F6 N6 L1 L2 (fun h7 F7 N7 => ?_) (by rw [z1, z2, sizeLine_eq]; omega)
  clear N6
  k_extra "own steps"
  rename_i kF kN _ _ kR
  refine hret _ _ _ (ys1 ++ ys2) 0 (acc1 ++ acc2) kF (fun p hp => ?_) ?_
  · rcases List.mem_cons.mp hp with rfl | hp
    · exact kN _ (.head _)
    · rcases List.mem_append.mp hp with hp | hp
      · refine kN _ (.tail _ (.tail _ ?_))
        rcases List.mem_append.mp hp with hp | hp
        · exact List.mem_append_right _ (.tail _ (List.mem_append_right _ (.tail _ (List.mem_append_left _ hp))))
        · exact List.mem_append_left _ hp
      · exact kR p hp
  · rw [rowsOf_step hs0 hl0]
    exact RowsAre.append (ha1.mono fun p hp => List.mem_append_left _ hp) (ha2.mono fun p hp => List.mem_append_right _ hp)
end

theorem rowsC (w : World) (mean : ExcName → Option Value) (mg mb : Str → Option Value) : ∀ n, RowsC w mean mg mb n := by
  have all : ∀ n k, k < n → RowsC w mean mg mb k := by
    intro n
    induction n with
    | zero => intro k h; exact absurd h (Nat.not_lt_zero _)
    | succ n ih => exact fun k h => rowsStep w k fun j hj => ih j (by omega)
  exact fun n => all _ n (Nat.lt_succ_self _)

theorem rows_c {w : World} {mean : ExcName → Option Value} {mg mb : Str → Option Value} {A : Around} {env : Env} {outer : List Env} {A₀ : Around} {base h₀ : Heap} {L : Addr} {m : Str → Option Value} {s : Shared} {Q E : Value → Shared → Prop}
    {news : List (Addr × Obj)} {sent let' : Nat} {a b : Int} {t1 t2 : Tok}
    (B : Below A₀ base outer h₀) (F : Fr h₀ L s.heap m) (X : (Mine.hd.heap_39 w.params).In h₀)
    (N : News h₀ L s.heap news)
    (T : Top Mine.hd.view_39 (looseW Mine.hd.view_39 []) mean mg mb h₀)
    (hA : A.frames = .some (env :: outer)) (hh : A.handled = none) (hdp : A.depth ≤ 800) (hun : A.units ≤ 800) (hf : env.frame = .some L) (hke : env.scope.kind = .function)
    (h1 : sent ≤ 3) (h2 : let' ≤ 3) (ha : a = sent) (hb : b = let')
    (hret : ∀ h' tk' R rs kk led, Fr h₀ L h' m → News h₀ L h' ((R, listOf rs.toArray kk) :: (led ++ news)) → RowsAre rs led (rowsOf sent let') → Q (.ref R) { s with heap := h', toks := tk' }) :
    wpAny (model PySem.Challenge.rw_tk0085_01.row.prog w) A (call (.ref 123) [.int a t1, .int b t2]) Q E s :=
  weakenA (rowsC w mean mg mb _ sent let' a b t1 t2 800 800 A.guards env outer A₀ base h₀ L m s Q E news rfl h1 h2 ha hb (by show 800 + (sent + let') < 1000; omega) (by show 800 + 8 * (sent + let') < 9900; omega) B F X N T hf hke hret) hh hdp hun (.inr hA.symm) (.inr rfl)

end

section
open PySem PySem.W PyProof.Rows PySem.Calls

/-- the pool of draws: the numbers and the place -/
abbrev poolO (c : Addr) (spot : Int) (t : Tok) (k : Nat) : Obj := listOf #[.ref c, .int spot t] k

section
set_option maxRecDepth 100000 in
set_option maxHeartbeats 8000000 in
theorem drawA (w : World) {mean : ExcName → Option Value} {mg mb : Str → Option Value} (gd : Option (List Code)) (env : Env) (A₀ : Around) (h₀ : Heap) (L : Addr) (m : Str → Option Value) (s : Shared) (Q E : Value → Shared → Prop)
    (rest : List (Addr × Obj)) (p c : Addr) (vs : List Value) (ns : List Int) (nn kk : Nat) (spot many : Int) (t t3 : Tok)
    (B : Below A₀ h₀ [] h₀) (F : Fr h₀ L s.heap m) (X : (Mine.hd.heap_39 w.params).In h₀)
    (NA : News h₀ L s.heap [(p, poolO c spot t kk), (c, listOf vs.toArray nn)]) (NR : News h₀ L s.heap rest) (hoff : ∀ q ∈ rest, ∀ r ∈ [(p, poolO c spot t kk), (c, listOf vs.toArray nn)], q.1 ≠ r.1) (hpc : @LT.lt Nat _ c p)
    (T : Top Mine.hd.view_39 (looseW Mine.hd.view_39 []) mean mg mb h₀) (hf : env.frame = some L) (hke : env.scope.kind = .function) (hi : IntsAre vs ns) (h0 : 0 ≤ spot) (hlen : ns.length ≤ 63) (hm : 0 < many) (hm2 : many < 10)
    (hret : ∀ h' tk' v t1 t2, 0 ≤ v → v < many → Fr h₀ L h' m → News h₀ L h' [(p, poolO c (spot + 1) t1 kk), (c, listOf vs.toArray nn)] → News h₀ L h' rest → Q (.int v t2) { s with heap := h', toks := tk' }) :
    wpAny (model PySem.Challenge.rw_tk0085_01.row.prog w) { handled := none, depth := 800, frames := some [env], guards := gd, units := 800 } (call (.ref 104) [.ref p, .int many t3]) Q E s := by
  k_with_none
  w_top off
  k_with "own steps" => (repeat' (first
  | ((fail_if_success (with_reducible show wpAny _ _ (PySem.exec (Stmt.For _ _ _ _ _) _) _ _ _)); first | (k_unfold; (try dsimp only)) | (k_end; wrow_close) | walk1 | (dsimp only; walk1) | (leave1; walk_say "STEP leave1"; try dsimp only))
  | fail "no step"))
  revert X
  k_fill
  intro X
  refine wpAny_call ?_
  k_dflt (refine' code_S1 ?k1 ?k2 ?k3 ?k4 ?kNR ?kO ?k5 ?kA ?kf ?kk ?k6 ?k7 ?k8 ?k9 ?kB ?_ ?c2 ?c3 ?c4 ?c5; (case kNR => exact NR); (case k4 => exact NA); (case kO => exact hoff); (case kA => exact rfl); (case kf => exact hf); (case kk => exact hke); (case k2 => k_asm); (case k1 => k_asm); (case k3 => k_asm); (case k5 => k_asm); (case k6 => k_is); (case k7 => k_is); (case k8 => k_room); (case k9 => exact BindsTo.of_eq rfl); (case kB => exact locs rfl); (case c2 => exact rfl); (case c3 => exact rfl); (case c4 => exact rfl); (case c5 => decide); k_whole; intro g1 L1 h1 FG1 F1 N1 B1 X1 T1 D1; (try dsimp only); (try k_fold))
  k_extra "own steps"
  all_goals rename_i kF kN _ _ kR
  · exact hret _ _ _ _ _ (Int.fmod_nonneg_of_pos _ hm) (Int.fmod_lt_of_pos _ hm) kF kN kR
  · exact hret _ _ _ _ _ (Int.fmod_nonneg_of_pos _ hm) (Int.fmod_lt_of_pos _ hm) kF (kst_newsOf kN fun q hq => .tail _ hq) kR
end

/-- one draw, any room -/
theorem draw_c {w : World} {mean : ExcName → Option Value} {mg mb : Str → Option Value} {A : Around} {env : Env} {A₀ : Around} {h₀ : Heap} {L : Addr} {m : Str → Option Value} {s : Shared} {Q E : Value → Shared → Prop}
    {rest : List (Addr × Obj)} {p c : Addr} {vs : List Value} {ns : List Int} {nn kk : Nat} {spot many : Int} {t t3 : Tok}
    (B : Below A₀ h₀ [] h₀) (F : Fr h₀ L s.heap m) (X : (Mine.hd.heap_39 w.params).In h₀)
    (NA : News h₀ L s.heap ((p, poolO c spot t kk) :: (c, listOf vs.toArray nn) :: rest)) (hp : ∀ q ∈ rest, @Ne Nat q.1 p) (hc : ∀ q ∈ rest, @Ne Nat q.1 c) (hpc : @LT.lt Nat _ c p)
    (T : Top Mine.hd.view_39 (looseW Mine.hd.view_39 []) mean mg mb h₀)
    (hA : A.frames = some [env]) (hh : A.handled = none) (hdp : A.depth ≤ 800) (hun : A.units ≤ 800) (hf : env.frame = some L) (hke : env.scope.kind = .function) (hi : IntsAre vs ns) (h0 : 0 ≤ spot) (hlen : ns.length ≤ 63) (hm : 0 < many) (hm2 : many < 10)
    (hret : ∀ h' tk' v t1 t2, 0 ≤ v → v < many → Fr h₀ L h' m → News h₀ L h' ((p, poolO c (spot + 1) t1 kk) :: (c, listOf vs.toArray nn) :: rest) → Q (.int v t2) { s with heap := h', toks := tk' }) :
    wpAny (model PySem.Challenge.rw_tk0085_01.row.prog w) A (call (.ref 104) [.ref p, .int many t3]) Q E s := by
  refine weakenA (drawA w A.guards env A₀ h₀ L m s Q E rest p c vs ns nn kk spot many t t3 B F X (kst_newsOf NA fun q hq => ?_) (kst_newsOf NA fun q hq => .tail _ (.tail _ hq)) (fun q hq r hr => ?_) hpc T hf hke hi h0 hlen hm hm2 fun h' tk' v t1 t2 a b F' N' R' => hret h' tk' v t1 t2 a b F' fun q hq => ?_) hh hdp hun (.inr hA.symm) (.inr rfl)
  · rcases List.mem_cons.mp hq with rfl | hq
    · exact .head _
    · obtain rfl := List.mem_singleton.mp hq; exact .tail _ (.head _)
  · rcases List.mem_cons.mp hr with rfl | hr
    · exact hp q hq
    · obtain rfl := List.mem_singleton.mp hr; exact hc q hq
  · rcases List.mem_cons.mp hq with rfl | hq
    · exact N' _ (.head _)
    · rcases List.mem_cons.mp hq with rfl | hq
      · exact N' _ (.tail _ (.head _))
      · exact R' q hq

end

section
open PySem PySem.W PyProof.Rows PySem.Calls

/-- choices of some out of many -/
def choicesF (many some : Int) : Int := if some < 0 then 0 else (List.range some.toNat).foldl (fun (f : Int) (i : Nat) => (f * (many - (i : Int))).fdiv ((i : Int) + 1)) 1

section
set_option maxRecDepth 100000 in
set_option maxHeartbeats 8000000 in
theorem choicesA (w : World) {mean : ExcName → Option Value} {mg mb : Str → Option Value} (gd : Option (List Code)) (env : Env) (outer : List Env) (A₀ : Around) (base h₀ : Heap) (L : Addr) (m : Str → Option Value) (s : Shared) (Q E : Value → Shared → Prop)
    (news : List (Addr × Obj)) (many some : Int) (t1 t2 : Tok)
    (B : Below A₀ base outer h₀) (F : Fr h₀ L s.heap m) (X : (Mine.hd.heap_39 w.params).In h₀)
    (N : News h₀ L s.heap news)
    (T : Top Mine.hd.view_39 (looseW Mine.hd.view_39 []) mean mg mb h₀) (hf : env.frame = .some L) (hke : env.scope.kind = .function)
    (h1 : 0 ≤ many) (h2 : many ≤ 6) (h3 : some ≤ 3)
    (hret : ∀ h' tk' t', Fr h₀ L h' m → News h₀ L h' news → Q (.int (choicesF many some) t') { s with heap := h', toks := tk' }) :
    wpAny (model PySem.Challenge.rw_tk0085_01.row.prog w) { handled := none, depth := 800, frames := .some (env :: outer), guards := gd, units := 800 } (call (.ref 130) [.int many t1, .int some t2]) Q E s := by
  k_with_none
  w_top off
  revert X
  k_fill
  intro X
  (refine wpAny_call ?_; k_dflt (refine' code_defR (news := []) (rest := news) ?k1 ?k2 ?k3 ?k4 ?kNR ?kO ?k5 ?kA ?kF ?kK ?k6 ?k7 ?k8 ?k9 ?kB ?_ ?c2 ?c3 ?c4 ?c5; (case kA => exact rfl); (case kF => exact hf); (case kK => exact hke); (case k1 => k_asm); (case k2 => k_asm); (case k3 => k_asm); (case k4 => exact fun _ h => nomatch h); (case kNR => exact N); (case kO => exact fun _ _ _ h => nomatch h); (case k5 => k_asm); (case k6 => k_is); (case k7 => k_is); (case k8 => k_room); (case k9 => exact BindsTo.of_eq rfl); (case c5 => decide); (case kB => exact locs rfl); (case c2 => exact rfl); (case c3 => exact rfl); (case c4 => exact rfl); k_whole; intro g' L' h' FG' F' N' B' X' T'; (try dsimp only); (try k_lift B'); (try k_fold)))
  by_cases hn : some < 0
  · have hz : choicesF many some = 0 := if_pos hn
    rw [hz] at hret
    k_steps
    all_goals (rename_i kF kN _ _ kR; exact hret _ _ _ kF kR)
  · have hc : some = 0 ∨ some = 1 ∨ some = 2 ∨ some = 3 := by omega
    rcases hc with rfl | rfl | rfl | rfl
    all_goals k_steps
    all_goals (rename_i kF kN _ _ kR; exact Eq.mp (congrArg (fun z => Q (Value.int z _) _) (show choicesF many _ = _ by rfl)) (hret _ _ _ kF kR))
end

theorem choices_c {w : World} {mean : ExcName → Option Value} {mg mb : Str → Option Value} {A : Around} {env : Env} {outer : List Env} {A₀ : Around} {base h₀ : Heap} {L : Addr} {m : Str → Option Value} {s : Shared} {Q E : Value → Shared → Prop}
    {news : List (Addr × Obj)} {many some : Int} {t1 t2 : Tok}
    (B : Below A₀ base outer h₀) (F : Fr h₀ L s.heap m) (X : (Mine.hd.heap_39 w.params).In h₀)
    (N : News h₀ L s.heap news)
    (T : Top Mine.hd.view_39 (looseW Mine.hd.view_39 []) mean mg mb h₀)
    (hA : A.frames = .some (env :: outer)) (hh : A.handled = none) (hdp : A.depth ≤ 800) (hun : A.units ≤ 800) (hf : env.frame = .some L) (hke : env.scope.kind = .function)
    (h1 : 0 ≤ many) (h2 : many ≤ 6) (h3 : some ≤ 3)
    (hret : ∀ h' tk' t', Fr h₀ L h' m → News h₀ L h' news → Q (.int (choicesF many some) t') { s with heap := h', toks := tk' }) :
    wpAny (model PySem.Challenge.rw_tk0085_01.row.prog w) A (call (.ref 130) [.int many t1, .int some t2]) Q E s :=
  weakenA (choicesA w A.guards env outer A₀ base h₀ L m s Q E news many some t1 t2 B F X N T hf hke h1 h2 h3 hret) hh hdp hun (.inr hA.symm) (.inr rfl)

end

section
open PySem PySem.W PyProof.Rows PySem.Calls
def lawStmt : Stmt := (PySem.Challenge.pw_tk0085_01.main.body.getLast?).getD (.Pass ⟨0, 0, 0, 0⟩)
def bodyOf : Stmt → List Stmt
  | .FunctionDef _ _ body _ _ _ _ _ _ _ => body
  | _ => []
def scopeOf : Stmt → Scope
  | .FunctionDef _ _ _ _ _ _ sc _ _ _ => sc
  | _ => default
/-- the law's statements from the k-th on -/
def lawFrom (k : Nat) : List Stmt := (bodyOf lawStmt).drop k
abbrev lawEnv (L fa : Addr) (cd : Value) : Env := envOfC (Str.ofString "law") (scopeOf lawStmt) L fa cd
abbrev lawA (L fa : Addr) (cd : Value) : Around := callerA.deeper (lawEnv L fa cd)

end

section
open PySem PySem.W PyProof.Rows PySem.Calls PyProof.Rows.LCg PySem.Spec
section
variable {prog : Program} {w : World} {A : Around} {E : Value → Shared → Prop} {s : Shared} {env : Env} {h₀ : Heap} {x : Str} {body : List Stmt} {Q : Flow → Shared → Prop}
/-- a loop over a range by what holds at its i-th turn -/
theorem iter_rangeI {r : Addr} {b₀ : Int} {t₀ u₀ v₀ : Tok} {n : Nat} {m₀ : Str → Option Value} {news : List (Addr × Obj)} (J : Nat → (Str → Option Value) → List (Addr × Obj) → Prop)
    (hh : A.handled = none) (hr : IsRange s.heap r 0 b₀ 1 t₀ u₀ v₀) (hb : b₀ = n) (hn : n ≤ 1000) (F : Fr h₀ env.locals s.heap m₀) (N : News h₀ env.locals s.heap news) (hj : J 0 m₀ news)
    (turn : ∀ i t m₁ nx h tk own, i < n → OwnOff own (news.map (·.1)) → J i m₁ nx → Fr h₀ env.locals h (fun y => if y = x then some (.int (i : Int) t) else m₁ y) → News h₀ env.locals h (nx ++ own) →
      wpAny (model prog w) A (execs body env) (InvPostN h₀ env.locals (J (i + 1)) own (news.map (·.1)) { s with heap := h, toks := tk } Q) E { s with heap := h, toks := tk })
    (done : ∀ m₁ nx h tk, J n m₁ nx → Fr h₀ env.locals h m₁ → News h₀ env.locals h nx → Q .next { s with heap := h, toks := tk }) :
    wpAny (model prog w) A (pyIter (.ref r)) (fun it s₂ => LoopAtV prog w A h₀ env x body Q E it s₂) E s := by
  refine wpAny_pyIter_range hr (small_one (by omega) (by omega) (by omega) (by omega)) ?_
  have hsz : Builtin.Range.rangeSize 0 b₀ 1 = (n : Int) := by rw [rangeSize_nat]; omega
  have low : ∀ q ∈ news, q.1 ≠ s.heap.objs.size := fun q hq => Nat.ne_of_lt (Heap.lt_size (N q hq).1)
  refine loop_invN J (range_walks hh 0 n) (fun hm => Nat.ne_of_lt F.ns.lt (List.mem_singleton.mp hm)) (fun b hb => (List.mem_singleton.mp hb) ▸ next_is_new F) (fun q hq hm => low q hq (List.mem_singleton.mp hm)) (fun q hq hm => low q hq (List.mem_singleton.mp hm))
    (by show IsRangeIter _ _ _ _ _; rw [hsz]; simpa using Heap.get?_push_size _ rfl) (F.push _) (fun q hq => ⟨Heap.get?_push_of_some _ (N q hq).1, (N q hq).2⟩) hj (fun i v m₁ nx h tk own hi hP _ ho hJ F' N' => ?_) fun m₁ nx h tk hJ F' N' => done m₁ nx h tk hJ F' N'
  obtain ⟨t, rfl⟩ := hP
  rw [Int.zero_add] at F'
  exact turn i t m₁ nx h tk own hi ho hJ F' N'
end

end

section
open PySem PySem.W PyProof.Rows PySem.Calls PyProof.Rows.LCg
section
variable {prog : Program} {w : World} {A : Around} {s : Shared} {h₀ : Heap} {L : Addr} {m : Str → Option Value} {env : Env}

/-- where a turn of a comprehension stands -/
structure TurnAt (h₀ : Heap) (L : Addr) (m : Str → Option Value) (x : Str) (v : Value) (news : List (Addr × Obj)) (I : Addr) (oI : Obj) (C : Addr) (oC : Obj) (D : Addr) (ys : List Value) (m₂ : Str → Option Value) (h : Heap) : Prop where
  ns : NsObj oC m₂
  at' : m₂ x = some v
  F : Fr h₀ L h m
  N : News h₀ L h ((I, oI) :: (C, oC) :: (D, lst ys) :: news)
  off : Off3 I C D news
  ne : (@Ne Nat I C) ∧ (@Ne Nat I D) ∧ (@Ne Nat C D)

theorem intsSnoc {ys : List Value} {n : Nat} {f : Nat → Int} {t : Tok} (h : IntsAre ys ((List.range n).map f)) : IntsAre (ys ++ [.int (f n) t]) ((List.range (n + 1)).map f) := by
  rw [List.range_succ, List.map_append]
  exact h.append (.cons _ _ .nil)

theorem compIntsAux {elt : Expr} {x : Str} {scope : Scope} {cl : List (Str × Addr)} {S : List (Addr × Obj) → Prop} {P : Nat → Value → Prop} {Fin : List Value → List (Addr × Obj) → Prop} {news : List (Addr × Obj)} {n : Nat} (f : Nat → Int) (hS : S news)
    (turn : ∀ i v I oI C oC D ys m₂ h tk E' (P' : Value → Shared → Prop), i < n → P i v → TurnAt h₀ L m x v news I oI C oC D ys m₂ h →
      (∀ h' tk' t, Fr h₀ L h' m → News h₀ L h' ((I, oI) :: (C, oC) :: (D, lst ys) :: news) → P' (.int (f i) t) { s with heap := h', toks := tk' }) →
      wpAny (model prog w) A (eval elt (compEnvC scope cl C env)) P' E' { s with heap := h, toks := tk })
    (fin : ∀ ys, IntsAre ys ((List.range n).map f) → Fin ys news) :
    ∀ k i ys, i + k = n → IntsAre ys ((List.range i).map f) → CompRest prog w A h₀ L m env elt x scope cl s S P Fin k i ys news
  | 0, i, ys, hik, hI => CompRest.zero (fin ys (by rw [← hik]; exact hI))
  | k + 1, i, ys, hik, hI => by
    refine CompRest.succ fun v I oI C oC D m₂ h tk E' hv hC hx F N off ne => ?_
    refine turn i v I oI C oC D ys m₂ h tk E' _ (by omega) hv ⟨hC, hx, F, N, off, ne⟩ fun h' tk' t F' N' => ?_
    exact CompEnd.intro F' N' news (fun p hp => hp) off hS (compIntsAux f hS turn fin k (i + 1) _ (by omega) (intsSnoc hI))

/-- a comprehension of ints, the ledger as it was -/
theorem compInts {elt : Expr} {x : Str} {scope : Scope} {cl : List (Str × Addr)} {S : List (Addr × Obj) → Prop} {P : Nat → Value → Prop} {Fin : List Value → List (Addr × Obj) → Prop} {news : List (Addr × Obj)} {n : Nat} (f : Nat → Int) (hS : S news)
    (turn : ∀ i v I oI C oC D ys m₂ h tk E' (P' : Value → Shared → Prop), i < n → P i v → TurnAt h₀ L m x v news I oI C oC D ys m₂ h →
      (∀ h' tk' t, Fr h₀ L h' m → News h₀ L h' ((I, oI) :: (C, oC) :: (D, lst ys) :: news) → P' (.int (f i) t) { s with heap := h', toks := tk' }) →
      wpAny (model prog w) A (eval elt (compEnvC scope cl C env)) P' E' { s with heap := h, toks := tk })
    (fin : ∀ ys, IntsAre ys ((List.range n).map f) → Fin ys news) : CompRest prog w A h₀ L m env elt x scope cl s S P Fin n 0 [] news :=
  compIntsAux f hS turn fin n 0 [] (by omega) .nil

theorem compTestAux {ct elt : Expr} {x : Str} {scope : Scope} {cl : List (Str × Addr)} {S : List (Addr × Obj) → Prop} {P : Nat → Value → Prop} {Fin : List Value → List (Addr × Obj) → Prop} {news : List (Addr × Obj)} {n : Nat} (p : Nat → Bool) (hS : S news)
    (test : ∀ i v I oI C oC D ys m₂ h tk E' (P' : Bool → Shared → Prop), i < n → P i v → TurnAt h₀ L m x v news I oI C oC D ys m₂ h →
      (∀ h' tk', Fr h₀ L h' m → News h₀ L h' ((I, oI) :: (C, oC) :: (D, lst ys) :: news) → P' (p i) { s with heap := h', toks := tk' }) →
      wpAny (model prog w) A (isTrue ct (compEnvC scope cl C env) (eval ct (compEnvC scope cl C env))) P' E' { s with heap := h, toks := tk })
    (one : ∀ i v I oI C oC D ys m₂ h tk E' (P' : Value → Shared → Prop), i < n → P i v → TurnAt h₀ L m x v news I oI C oC D ys m₂ h →
      (∀ h' tk' t, Fr h₀ L h' m → News h₀ L h' ((I, oI) :: (C, oC) :: (D, lst ys) :: news) → P' (.int 1 t) { s with heap := h', toks := tk' }) →
      wpAny (model prog w) A (eval elt (compEnvC scope cl C env)) P' E' { s with heap := h, toks := tk })
    (fin : ∀ ys, IntsAre ys (List.replicate ((List.range n).filter p).length (1 : Int)) → Fin ys news) :
    ∀ k i ys, i + k = n → IntsAre ys (List.replicate ((List.range i).filter p).length (1 : Int)) → LCt.CompRestT prog w A h₀ L m env ct elt x scope cl s S P Fin k i ys news
  | 0, i, ys, hik, hI => LCt.CompRestT.zero (fin ys (by rw [← hik]; exact hI))
  | k + 1, i, ys, hik, hI => by
    refine LCt.CompRestT.succ fun v I oI C oC D m₂ h tk E' hv hC hx F N off ne => ?_
    refine test i v I oI C oC D ys m₂ h tk E' _ (by omega) hv ⟨hC, hx, F, N, off, ne⟩ fun h' tk' F' N' => ?_
    have hr : ((List.range (i + 1)).filter p).length = ((List.range i).filter p).length + (if p i = true then 1 else 0) := by
      rw [List.range_succ, List.filter_append, List.length_append, List.filter_cons]
      cases p i <;> rfl
    by_cases hp : p i = true
    · rw [if_pos hp] at hr ⊢
      refine one i v I oI C oC D ys m₂ h' tk' E' _ (by omega) hv ⟨hC, hx, F', N', off, ne⟩ fun h2 tk2 t2 F2 N2 => ?_
      exact CompEnd.intro F2 N2 news (fun p hp => hp) off hS (compTestAux p hS test one fin k (i + 1) _ (by omega) (by rw [hr, List.replicate_succ']; exact hI.append (.cons _ _ .nil)))
    · rw [if_neg hp] at hr ⊢
      exact CompEnd.intro F' N' news (fun p hp => hp) off hS (compTestAux p hS test one fin k (i + 1) _ (by omega) (by rw [hr]; exact hI))

/-- a comprehension that counts, the ledger as it was -/
theorem compTest {ct elt : Expr} {x : Str} {scope : Scope} {cl : List (Str × Addr)} {S : List (Addr × Obj) → Prop} {P : Nat → Value → Prop} {Fin : List Value → List (Addr × Obj) → Prop} {news : List (Addr × Obj)} {n : Nat} (p : Nat → Bool) (hS : S news)
    (test : ∀ i v I oI C oC D ys m₂ h tk E' (P' : Bool → Shared → Prop), i < n → P i v → TurnAt h₀ L m x v news I oI C oC D ys m₂ h →
      (∀ h' tk', Fr h₀ L h' m → News h₀ L h' ((I, oI) :: (C, oC) :: (D, lst ys) :: news) → P' (p i) { s with heap := h', toks := tk' }) →
      wpAny (model prog w) A (isTrue ct (compEnvC scope cl C env) (eval ct (compEnvC scope cl C env))) P' E' { s with heap := h, toks := tk })
    (one : ∀ i v I oI C oC D ys m₂ h tk E' (P' : Value → Shared → Prop), i < n → P i v → TurnAt h₀ L m x v news I oI C oC D ys m₂ h →
      (∀ h' tk' t, Fr h₀ L h' m → News h₀ L h' ((I, oI) :: (C, oC) :: (D, lst ys) :: news) → P' (.int 1 t) { s with heap := h', toks := tk' }) →
      wpAny (model prog w) A (eval elt (compEnvC scope cl C env)) P' E' { s with heap := h, toks := tk })
    (fin : ∀ ys, IntsAre ys (List.replicate ((List.range n).filter p).length (1 : Int)) → Fin ys news) : LCt.CompRestT prog w A h₀ L m env ct elt x scope cl s S P Fin n 0 [] news :=
  compTestAux p hS test one fin n 0 [] (by omega) .nil
end

end

section
open PySem PySem.W PyProof.Rows PySem.Calls PyProof.Rows.LCg

abbrev nsObj0 : Obj := { cls := .type "dict", data := .dict #[] }
abbrev cellObj0 : Obj := { cls := .type "cell", data := .cell none }

theorem newEnvCell {M : Model} {A : Around} {E : Value → Shared → Prop} {s : Shared} {scope : Scope} {globals : Addr} {cl : List (Str × Addr)} {qual : Str} {outer : Env} {Q : Env → Shared → Prop} {x : Str}
    (hcs : ∀ n, cellsFrom n scope.names cl = (x, n) :: cl) (hps : ∀ h, pushCells h scope.names = h.push cellObj0)
    (hQ : Q { scope, locals := s.heap.objs.size, globals, cells := (x, s.heap.objs.size + 1) :: cl, qual, func := none, code := outer.code, frame := outer.frame, builtins := outer.builtins } { s with heap := (s.heap.push nsObj0).push cellObj0 }) :
    wpAny M A (newFunctionEnv scope globals cl [] qual none .none (some outer)) Q E s := by
  simp only [newFunctionEnv, Option.isSome_some, if_true]
  refine wpAny_bind (wpAny_alloc ?_)
  refine wpAny_bind (wpAny_layCells _ (fun name kind cells => by cases hkc : kind == NameKind.cell <;> simp) _ _ _ _ ?_)
  rw [hcs, hps, show ({ s with heap := s.heap.push nsObj0 } : Shared).heap.objs.size = s.heap.objs.size + 1 from Heap.size_push ..]
  refine wpAny_bind ?_
  rw [List.forIn_nil]
  exact wpAny_pure (wpAny_pure hQ)

abbrev itObj (n i : Nat) : Obj := { cls := .type "range_iterator", dict := none, data := .fields #[rawInt (i : Int), rawInt ((n : Int) - (i : Int)), rawInt 1], slots := #[] }
theorem newsUpd {h₀ h h' : Heap} {L b : Addr} {o o' : Obj} {all all' : List (Addr × Obj)} (N : News h₀ L h all) (hb : (b, o) ∈ all) (hx : Heap.ExtBut b h h') (hn : h'.get? b = some o') (hs : ∀ p ∈ all', p = (b, o') ∨ (p ∈ all ∧ p.1 ≠ b)) : News h₀ L h' all' := fun p hp => by
  rcases hs p hp with rfl | ⟨h1, h2⟩
  · exact ⟨hn, (N _ hb).2⟩
  · exact ⟨hx _ _ h2 (N p h1).1, (N p h1).2⟩
theorem frUpd {h₀ h h' : Heap} {L b : Addr} {o : Obj} {m : Str → Option Value} {all : List (Addr × Obj)} (F : Fr h₀ L h m) (N : News h₀ L h all) (hb : (b, o) ∈ all) (hx : Heap.ExtBut b h h') : Fr h₀ L h' m :=
  ⟨F.ns.at' fun o e => hx L o (Ne.symm (N _ hb).2.1) e, fun c o e => hx c o (fun q => by rw [q, (N _ hb).2.2] at e; cases e) (F.keep c o e), F.above⟩
theorem ns0 {h : Heap} {C : Addr} (e : h.get? C = some nsObj0) : h.Ns C (fun _ => none) := by
  obtain ⟨o, es, ep, h1, h2, h3, h4⟩ := Heap.Ns.new h (.type "dict")
  have z : (h.push nsObj0).get? h.objs.size = some nsObj0 := Heap.get?_push_size _ rfl
  have h1' : (h.push nsObj0).get? h.objs.size = some o := h1
  rw [z] at h1'
  obtain rfl := Option.some.inj h1'
  exact ⟨nsObj0, es, ep, e, h2, h3, h4⟩

section
variable {prog : Program} {w : World} {A : Around} {E : Value → Shared → Prop} {s : Shared} {h₀ : Heap} {L : Addr} {m : Str → Option Value} {env : Env}

/-- a comprehension of ints over a range whose own variable is a cell, the ledger as it was -/
theorem ListComp_cell {elt iter : Expr} {x : Str} {px : Pos} {scope : Scope} {cl : List (Str × Addr)} {pos : Pos} {Q : Value → Shared → Prop} {news : List (Addr × Obj)} {n : Nat} (f : Nat → Int)
    (hclos : closureFor scope env = pure cl) (hkind : scope.kind = .function) (hnames : ∀ y ∈ scope.names, y.2 = .local → scope.names.lookup y.1 = some .local)
    (hcs : ∀ n, cellsFrom n scope.names cl = (x, n) :: cl) (hps : ∀ h, pushCells h scope.names = h.push cellObj0) (hx : (relabel scope env).names.lookup x = some .cell) (hh : A.handled = none) (hn : n ≤ 1000)
    (h : wpAny (model prog w) A (eval iter env) (fun xv s₁ => ∃ r b t u v, xv = .ref r ∧ IsRange s₁.heap r 0 b 1 t u v ∧ b = (n : Int) ∧ Fr h₀ L s₁.heap m ∧ News h₀ L s₁.heap news ∧
      (∀ i t I oI C oC D X oX ys h tk E' (P' : Value → Shared → Prop), i < n → oX.data = .cell (some (.int (i : Int) t)) → Fr h₀ L h m → News h₀ L h ((X, oX) :: (I, oI) :: (C, oC) :: (D, lst ys) :: news) →
        (∀ q ∈ news, q.1 < I) → @LT.lt Nat _ I D → @LT.lt Nat _ D C → @LT.lt Nat _ C X →
        (∀ h' tk' t, Fr h₀ L h' m → News h₀ L h' ((X, oX) :: (I, oI) :: (C, oC) :: (D, lst ys) :: news) → P' (.int (f i) t) { s₁ with heap := h', toks := tk' }) →
        wpAny (model prog w) A (eval elt (compEnvC scope ((x, X) :: cl) C env)) P' E' { s₁ with heap := h, toks := tk }) ∧
      (∀ D h tk ys, IntsAre ys ((List.range n).map f) → Fr h₀ L h m → News h₀ L h ((D, lst ys) :: news) → (∀ q ∈ news, q.1 < D) → Q (.ref D) { s₁ with heap := h, toks := tk })) E s)
    (hs : ∀ x, foldedSetIterable iter env x = pure x := by intro _; rfl) :
    wpAny (model prog w) A (eval (.ListComp elt [⟨.Name x px, iter, [], 0⟩] scope pos) env) Q E s := by
  rw [eval_ListComp]
  refine wpAny_comprehension_free (use := none) rfl hs hclos hkind hnames (wpAny_mono h (fun xv s₁ h₁ => ?_) fun _ _ e => e)
  obtain ⟨r, b, t, u, v, rfl, hr, rfl, F, N, turn, fin⟩ := h₁
  refine wpAny_pyIter_range hr (small_one (by omega) (by omega) (by omega) (by omega)) ?_
  rw [show Builtin.Range.rangeSize 0 (n : Int) 1 = (n : Int) by rw [rangeSize_nat]; omega]
  generalize hI : s₁.heap.objs.size = I
  refine wpAny_newObj_type (newEnvCell (x := x) hcs hps ?_)
  dsimp only
  have sz1 : ∀ (h : Heap) (o : Obj), (h.push o).objs.size = h.objs.size + 1 := fun h o => Heap.size_push ..
  simp only [sz1, hI]
  generalize hH : (((s₁.heap.push { cls := .type "range_iterator", data := .fields #[rawInt 0, rawInt (n : Int), rawInt 1] }).push { cls := .type "list", data := .seq ([] : List Value).toArray }).push nsObj0).push cellObj0 = H
  have up : ∀ b o, s₁.heap.get? b = some o → H.get? b = some o := fun b o e => hH ▸ Heap.get?_push_of_some _ (Heap.get?_push_of_some _ (Heap.get?_push_of_some _ (Heap.get?_push_of_some _ e)))
  have eI : IsRangeIter H I 0 (n : Int) 1 := by
    subst hI hH
    exact Heap.get?_push_of_some _ (Heap.get?_push_of_some _ (Heap.get?_push_of_some _ (Heap.get?_push_size _ rfl)))
  have eD : H.get? (I + 1) = some (lst []) := by
    subst hI hH
    have z := Heap.get?_push_size (s₁.heap.push { cls := .type "range_iterator", data := .fields #[rawInt 0, rawInt (n : Int), rawInt 1] }) (o := { cls := .type "list", data := .seq ([] : List Value).toArray }) rfl
    rw [sz1] at z
    exact Heap.get?_push_of_some _ (Heap.get?_push_of_some _ z)
  have eC : H.get? (I + 1 + 1) = some nsObj0 := by
    subst hI hH
    have z := Heap.get?_push_size ((s₁.heap.push { cls := .type "range_iterator", data := .fields #[rawInt 0, rawInt (n : Int), rawInt 1] }).push { cls := .type "list", data := .seq ([] : List Value).toArray }) (o := nsObj0) rfl
    rw [sz1, sz1] at z
    exact Heap.get?_push_of_some _ z
  have eX : H.get? (I + 1 + 1 + 1) = some cellObj0 := by
    subst hI hH
    have z := Heap.get?_push_size (((s₁.heap.push { cls := .type "range_iterator", data := .fields #[rawInt 0, rawInt (n : Int), rawInt 1] }).push { cls := .type "list", data := .seq ([] : List Value).toArray }).push nsObj0) (o := cellObj0) rfl
    rw [sz1, sz1, sz1] at z
    exact z
  have low : ∀ q ∈ news, @LT.lt Nat _ q.1 I := fun q hq => hI ▸ Heap.lt_size (N q hq).1
  have new : ∀ k, I ≤ k → k ≠ L ∧ h₀.get? k = none := fun k hk => by
    have h1 : L < I := hI ▸ F.ns.lt
    refine ⟨Nat.ne_of_gt (Nat.lt_of_lt_of_le h1 hk), ?_⟩
    cases e : h₀.get? k with
    | none => rfl
    | some o => exact absurd (hI ▸ Heap.lt_size (F.keep k o e) : k < I) (Nat.not_lt.mpr hk)
  generalize hD : I + 1 = D at eD eC eX ⊢
  generalize hC : D + 1 = C at eC eX ⊢
  generalize hX : C + 1 = X at eX ⊢
  have lID : @LT.lt Nat _ I D := hD ▸ Nat.lt_succ_self _
  have lDC : @LT.lt Nat _ D C := hC ▸ Nat.lt_succ_self _
  have lCX : @LT.lt Nat _ C X := hX ▸ Nat.lt_succ_self _
  have lIC := Nat.lt_trans lID lDC
  have lIX := Nat.lt_trans lIC lCX
  have lDX := Nat.lt_trans lDC lCX
  have N0 : News h₀ L H ((X, cellObj0) :: (I, itObj n 0) :: (C, nsObj0) :: (D, lst []) :: news) := fun p hp => by
    rcases List.mem_cons.mp hp with rfl | hp
    · exact ⟨eX, new _ (Nat.le_of_lt lIX)⟩
    · rcases List.mem_cons.mp hp with rfl | hp
      · exact ⟨by show H.get? I = some (itObj n 0); unfold itObj; rw [show ((n : Int) - ((0 : Nat) : Int)) = n by omega]; exact eI, new _ (Nat.le_refl _)⟩
      · rcases List.mem_cons.mp hp with rfl | hp
        · exact ⟨eC, new _ (Nat.le_of_lt lIC)⟩
        · rcases List.mem_cons.mp hp with rfl | hp
          · exact ⟨eD, new _ (Nat.le_of_lt lID)⟩
          · exact ⟨up _ _ (N p hp).1, (N p hp).2⟩
  have F0 : Fr h₀ L H m := F.keeps up
  have mX : ∀ {oX oI oC oD}, (X, oX) ∈ (X, oX) :: (I, oI) :: (C, oC) :: (D, oD) :: news := .head _
  have mI : ∀ {oX oI oC oD}, (I, oI) ∈ (X, oX) :: (I, oI) :: (C, oC) :: (D, oD) :: news := .tail _ (.head _)
  have mC : ∀ {oX oI oC oD}, (C, oC) ∈ (X, oX) :: (I, oI) :: (C, oC) :: (D, oD) :: news := .tail _ (.tail _ (.head _))
  have mD : ∀ {oX oI oC oD}, (D, oD) ∈ (X, oX) :: (I, oI) :: (C, oC) :: (D, oD) :: news := .tail _ (.tail _ (.tail _ (.head _)))
  have tail4 : ∀ {oX oI oC oD p}, p ∈ news → p ∈ (X, oX) :: (I, oI) :: (C, oC) :: (D, oD) :: news := fun hp => .tail _ (.tail _ (.tail _ (.tail _ hp)))
  have hne : ∀ q ∈ news, q.1 ≠ I ∧ q.1 ≠ D ∧ q.1 ≠ X := fun q hq => ⟨Nat.ne_of_lt (low q hq), Nat.ne_of_lt (Nat.lt_trans (low q hq) lID), Nat.ne_of_lt (Nat.lt_trans (low q hq) lIX)⟩
  have loop : ∀ s₃ : Shared, (∃ tk, s₃ = { s₁ with heap := H, toks := tk }) →
      codeAny (model prog w) A (.compLoop (.ListComp elt [⟨.Name x px, iter, [], 0⟩] scope pos) 0 (.ref I) (.ref D) (compEnvC scope ((x, X) :: cl) C env)) (compPost (model prog w) A E none Q (.ref D) C) s₃ := by
    rintro s₃ ⟨tk₀, rfl⟩
    refine codeAny_compLoop_tests (fun k s' => ∃ i h tk ys oX v0, k = n + 1 - i ∧ i ≤ n ∧ s' = { s₁ with heap := h, toks := tk } ∧ Fr h₀ L h m ∧ News h₀ L h ((X, oX) :: (I, itObj n i) :: (C, nsObj0) :: (D, lst ys) :: news) ∧ oX.data = .cell v0 ∧ IntsAre ys ((List.range i).map f)) ?_ (n + 1)
      ⟨0, H, tk₀, [], cellObj0, none, rfl, Nat.zero_le _, rfl, F0, N0, rfl, .nil⟩
    rintro k s' ⟨i, h, tk, ys, oX, v0, rfl, hi, rfl, F', N', hd, hI'⟩
    have hyl : ys.length = i := by rw [hI'.length, List.length_map, List.length_range]
    by_cases hlt : i < n
    · refine wpAny_pyNext_range_item (N' (I, itObj n i) mI).1 (by omega) fun h₁ hit₁ hs₁ => ?_
      have e₁ : h₁.get? I = some (itObj n (i + 1)) := by
        unfold itObj
        rw [show (((i + 1 : Nat)) : Int) = (i : Int) + 1 by omega, show (n : Int) - ((i : Int) + 1) = (n : Int) - (i : Int) - 1 by omega]
        exact hit₁
      have F₁ := frUpd F' N' mI hs₁.extBut
      have N₁ : News h₀ L h₁ ((X, oX) :: (I, itObj n (i + 1)) :: (C, nsObj0) :: (D, lst ys) :: news) := newsUpd N' mI hs₁.extBut e₁ fun p hp => by
        rcases List.mem_cons.mp hp with rfl | hp
        · exact .inr ⟨mX, Nat.ne_of_gt lIX⟩
        · rcases List.mem_cons.mp hp with rfl | hp
          · exact .inl rfl
          · rcases List.mem_cons.mp hp with rfl | hp
            · exact .inr ⟨mC, Nat.ne_of_gt lIC⟩
            · rcases List.mem_cons.mp hp with rfl | hp
              · exact .inr ⟨mD, Nat.ne_of_gt lID⟩
              · exact .inr ⟨tail4 hp, (hne p hp).1⟩
      refine wpAny_assign_Name (wpAny_storeName_cell (c := X) hkind hx (by simp [compEnvC]) ⟨oX, (N₁ _ mX).1, hd⟩ fun h₂ hv₂ hs₂ => ?_)
      obtain ⟨oX₂, e₂, d₂⟩ := hv₂
      have F₂ := frUpd F₁ N₁ mX hs₂.extBut
      have N₂ : News h₀ L h₂ ((X, oX₂) :: (I, itObj n (i + 1)) :: (C, nsObj0) :: (D, lst ys) :: news) := newsUpd N₁ mX hs₂.extBut e₂ fun p hp => by
        rcases List.mem_cons.mp hp with rfl | hp
        · exact .inl rfl
        · rcases List.mem_cons.mp hp with rfl | hp
          · exact .inr ⟨mI, Nat.ne_of_lt lIX⟩
          · rcases List.mem_cons.mp hp with rfl | hp
            · exact .inr ⟨mC, Nat.ne_of_lt lCX⟩
            · rcases List.mem_cons.mp hp with rfl | hp
              · exact .inr ⟨mD, Nat.ne_of_lt lDX⟩
              · exact .inr ⟨tail4 hp, (hne p hp).2.2⟩
      refine wpAny_tests_nil ?_
      simp only [if_true]
      refine turn i _ I _ C _ D X oX₂ ys h₂ _ _ _ hlt d₂ F₂ N₂ low lID lDC lCX fun h₃ tk₃ t₃ F₃ N₃ => ?_
      refine append_at (hsz := by rw [List.size_toArray, hyl, sizeLine_eq]; omega) (N₃ (D, lst ys) mD).1 fun h₄ hs₄ e₄ => ?_
      have e₄' : h₄.get? D = some (lst (ys ++ [Value.int (f i) t₃])) := e₄.trans (congrArg some (lst_snoc ys _))
      refine ⟨n + 1 - (i + 1), by omega, i + 1, h₄, _, ys ++ [Value.int (f i) t₃], oX₂, _, rfl, hlt, rfl, frUpd F₃ N₃ mD hs₄.extBut, newsUpd N₃ mD hs₄.extBut e₄' fun p hp => ?_, d₂, intsSnoc hI'⟩
      rcases List.mem_cons.mp hp with rfl | hp
      · exact .inr ⟨mX, Nat.ne_of_gt lDX⟩
      · rcases List.mem_cons.mp hp with rfl | hp
        · exact .inr ⟨mI, Nat.ne_of_lt lID⟩
        · rcases List.mem_cons.mp hp with rfl | hp
          · exact .inr ⟨mC, Nat.ne_of_gt lDC⟩
          · rcases List.mem_cons.mp hp with rfl | hp
            · exact .inl rfl
            · exact .inr ⟨tail4 hp, (hne p hp).2.1⟩
    · obtain rfl : i = n := Nat.le_antisymm hi (Nat.not_lt.mp hlt)
      refine wpAny_pyNext_range_end hh (N' (I, itObj i i) mI).1 (by omega) fun h₁ hx₁ => ?_
      have nC : h₁.get? C = some nsObj0 := hx₁ _ _ (Nat.ne_of_gt lIC) (N' _ mC).1
      have F₁ := frUpd F' N' mI hx₁
      refine ⟨_, ns0 nC, fun h'' hs'' => fin D h'' tk ys hI' (frUpd (o := nsObj0) F₁ (all := [(C, nsObj0)]) (fun p hp => ?_) (.head _) hs''.extBut) (fun p hp => ?_) fun q hq => Nat.lt_trans (low q hq) lID⟩
      · obtain rfl := List.mem_singleton.mp hp
        exact ⟨nC, (N' _ mC).2⟩
      · rcases List.mem_cons.mp hp with rfl | hp
        · exact ⟨hs''.extBut _ _ (Nat.ne_of_lt lDC) (hx₁ _ _ (Nat.ne_of_gt lID) (N' _ mD).1), (N' _ mD).2⟩
        · exact ⟨hs''.extBut _ _ (Nat.ne_of_lt (Nat.lt_trans (low p hp) lIC)) (hx₁ _ _ (hne p hp).1 (N' _ (tail4 hp)).1), (N' _ (tail4 hp)).2⟩
  exact codeAny_compStart_list (loop _ ⟨_, rfl⟩) (wpAny_pyIter_rangeiter eI (loop _ ⟨_, rfl⟩))
end

end

section
open PySem PySem.W PyProof.Rows PySem.Calls PyProof.Rows.LCg
/-- between the turns of a loop that draws -/
def TurnsAre (p c tl : Addr) (kk : Nat) (oc : Obj) (post : List (Addr × Obj)) (hi lo : Int) (mb : Str → Option Value) (k : Nat) (m : Str → Option Value) (nx : List (Addr × Obj)) : Prop :=
  ∃ (u : Option Value) (spot : Int) (tp : Tok) (tvs : List Value) (ts : List Int) (tn : Nat), m = (fun z => if z = Str.ofString "at" then u else mb z) ∧ nx = (p, poolO c spot tp kk) :: (c, oc) :: (tl, listOf (List.toArray tvs) tn) :: post ∧ IntsAre tvs ts ∧ ts.length = k ∧ (∀ x ∈ ts, lo ≤ x ∧ x < hi) ∧ 0 ≤ spot
theorem map_same {x : Str} {mb : Str → Option Value} : mb = fun z => if z = x then mb x else mb z := by
  funext z
  by_cases h : z = x
  · rw [if_pos h, h]
  · rw [if_neg h]
theorem map_over {x : Str} {u v : Option Value} {mb : Str → Option Value} : (fun y => if y = x then v else (fun z => if z = x then u else mb z) y) = fun y => if y = x then v else mb y := by
  funext z
  by_cases h : z = x
  · rw [if_pos h, if_pos h]
  · rw [if_neg h, if_neg h]; exact if_neg h
theorem turnsEnd {h₀ h' : Heap} {L p c tl : Addr} {kk tn i : Nat} {oc : Obj} {post own : List (Addr × Obj)} {hi lo spot v : Int} {tp t : Tok} {mb : Str → Option Value} {va : Option Value} {tvs : List Value} {ts : List Int} {s₁ : Shared} {tk : Nat}
    (F : Fr h₀ L h' (fun y => if y = Str.ofString "at" then va else mb y)) (N : News h₀ L h' ((p, poolO c spot tp kk) :: (c, oc) :: (tl, listOf (tvs.toArray.push (.int v t)) tn) :: (post ++ own)))
    (hI : IntsAre tvs ts) (hl : ts.length = i) (hb : ∀ x ∈ ts, lo ≤ x ∧ x < hi) (h0 : 0 ≤ spot) (hv : lo ≤ v) (hv' : v < hi) : InvEndN h₀ L (TurnsAre p c tl kk oc post hi lo mb (i + 1)) own (p :: c :: tl :: post.map (·.1)) s₁ { s₁ with heap := h', toks := tk } := by
  rw [List.push_toArray] at N
  refine InvEndN.intro (nx := (p, poolO c spot tp kk) :: (c, oc) :: (tl, listOf (List.toArray (tvs ++ [Value.int v t])) tn) :: post) F N ⟨va, spot, tp, tvs ++ [Value.int v t], ts ++ [v], tn, rfl, rfl, hI.append (.cons _ _ .nil), by rw [List.length_append, hl]; rfl, fun x hx => ?_, h0⟩ rfl (fun q hq => ?_) fun q hq => .tail _ (.tail _ (.tail _ (List.mem_append_right _ hq)))
  · rcases List.mem_append.mp hx with hx | hx
    · exact hb x hx
    · obtain rfl := List.mem_singleton.mp hx; exact ⟨hv, hv'⟩
  · rcases List.mem_cons.mp hq with rfl | hq
    · exact .head _
    · rcases List.mem_cons.mp hq with rfl | hq
      · exact .tail _ (.head _)
      · rcases List.mem_cons.mp hq with rfl | hq
        · exact .tail _ (.tail _ (.head _))
        · exact .tail _ (.tail _ (.tail _ (List.mem_append_left _ hq)))
section
set_option maxRecDepth 100000 in
set_option maxHeartbeats 8000000 in
theorem law9 (w : World) {mean : ExcName → Option Value} {mg mb : Str → Option Value} (h₀ : Heap) (L fa : Addr) (cd : Value) (m₀ : Str → Option Value) (s : Shared) (Q : Flow → Shared → Prop) (E : Value → Shared → Prop) (hE : PassesOwn (model PySem.Challenge.rw_tk0085_01.row.prog w) (lawA L fa cd) (lawEnv L fa cd) E)
    (p c tl : Addr) (cvs : List Value) (cns : List Int) (spot : Int) (tp : Tok) (kk cn tn : Nat) (o1 : Obj)
    (B : Below callerA h₀ [] h₀) (F : Fr h₀ L s.heap (fun z => if z = Str.ofString "pool" then some (.ref p) else m₀ z)) (X : (Mine.hd.heap_39 w.params).In h₀)
    (T : Top Mine.hd.view_39 (looseW Mine.hd.view_39 []) mean mg mb h₀)
    (N : News h₀ L s.heap [(p, poolO c spot tp kk), (c, listOf cvs.toArray cn), (tl, listOf #[] tn), (L + 1, o1)]) (d1 : o1.data = .cell (some (.ref tl)))
    (hi : IntsAre cvs cns) (hlen : cns.length ≤ 63) (h0 : 0 ≤ spot) (l1 : @Ne Nat (L + 1) c) (l0 : @LT.lt Nat _ (L + 1) p) (l2 : @LT.lt Nat _ c p) (l3 : @LT.lt Nat _ p tl)
    (hret : ∀ h' tk' m', Fr h₀ L h' m' → Q (.ret (.bool true)) { s with heap := h', toks := tk' }) :
    wpAny (model PySem.Challenge.rw_tk0085_01.row.prog w) (lawA L fa cd) (execs (lawFrom 9) (lawEnv L fa cd)) Q E s := by
  k_with_none
  w_top off
  k_with "own steps" => (repeat' (first
  | ((fail_if_success (with_reducible show wpAny _ _ (PySem.execs (Stmt.For _ _ _ _ _ :: _) _) _ _ _)); (fail_if_success (with_reducible show wpAny _ _ (PySem.pyIter _) _ _ _)); (fail_if_success (with_reducible show wpAny _ _ (PySem.eval (Expr.ListComp _ _ _ _) _) _ _ _)); (fail_if_success (with_reducible show LCg.CompSrc _ _ _ _ _ _ _ _ _ _ _ _ _ _)); (fail_if_success (with_reducible show LCt.CompSrcT _ _ _ _ _ _ _ _ _ _ _ _ _ _ _)); first | (k_unfold; (try dsimp only)) | (k_end; wrow_close) | walk1 | (dsimp only; walk1) | (leave1; walk_say "STEP leave1"; try dsimp only))
  | fail "no step"))
  k_with "own call ref" => ((k_here; (with_reducible show wpAny _ _ (PySem.call (Value.ref 104) _) _ _ _); k_dflt (refine' draw_c ?o9B ?o9F ?o9X ?o9N ?o9hp ?o9hc ?o9hpc ?o9T ?o9hA ?o9hh ?o9hd ?o9hu ?o9hf ?o9hk ?o9hi ?o9h0 ?o9hl ?o9hm ?o9hm2 ?_; (case o9F => k_asm); (case o9N => k_asm); (case o9B => k_asm); (case o9X => k_asm); (case o9T => k_asm); (case o9hA => exact rfl); (case o9hp => k_all); (case o9hc => k_all); (case o9hpc => k_asm); (case o9hh => exact rfl); (case o9hd => exact Nat.le_of_ble_eq_true rfl); (case o9hu => exact Nat.le_of_ble_eq_true rfl); (case o9hf => exact rfl); (case o9hk => exact rfl); (case o9hi => l_ints); (case o9h0 => omega); (case o9hl => assumption); (case o9hm => decide); (case o9hm2 => decide)); intro _ _ _ _ _ _ _ _ _; (try k_sweep)))
  k_with "own call type:range" => ((k_here; (with_reducible show wpAny _ _ (PySem.call (Value.type "range") [Value.int _ _]) _ _ _); k_dflt (refine' range1_rows ?o9F ?o9N ?_; (case o9F => k_asm); (case o9N => k_asm)); intro _ _ _ _ _ _ _ _ _; (try k_sweep)))
  k_with "own call ref" => ((k_here; (with_reducible show wpAny _ _ (PySem.call (Value.ref 137) _) _ _ _); k_dflt (refine' holds_c ?o9B ?o9F ?o9X ?o9N ?o9l ?o9T ?o9hA ?o9hh ?o9hd ?o9hu ?o9hf ?o9hk ?o9hi ?_; (case o9F => k_asm); (case o9N => k_asm); (case o9l => k_mem); (case o9B => k_asm); (case o9X => k_asm); (case o9T => k_asm); (case o9hA => exact rfl); (case o9hh => exact rfl); (case o9hd => exact Nat.le_of_ble_eq_true rfl); (case o9hu => exact Nat.le_of_ble_eq_true rfl); (case o9hf => exact rfl); (case o9hk => exact rfl); (case o9hi => l_ints)); intro _ _ _ _; (try k_sweep)))
  k_with "own subscriptTail Name Slice ref ref" => ((k_here; (with_reducible show wpAny _ _ (subscriptTail _ (PySem.Expr.Slice _ _ none _) (Value.ref _) (Value.ref _)) _ _ _); k_dflt (refine' kmk_slice_ints ?o9F ?o9N ?o9l ?o9p ?o9q ?o9i ?o9m ?o9c ?_ ?o9s ?o9t ?o9z; (case o9F => k_asm); (case o9N => k_asm); (case o9l => kmk_list); (case o9p => kmk_part); (case o9q => kmk_part); (case o9i => with_reducible assumption); (case o9m => first | with_reducible exact kmk_from (by with_reducible assumption) (by omega) | with_reducible exact kmk_upto (by with_reducible assumption) (by omega)); (case o9c => exact rfl); (case o9s => with_unfolding_all rfl); (case o9t => kmk_pure); (case o9z => (refine kmk_sz (by with_reducible assumption) ?_; (rw [sizeLine_eq]; omega)))); intro _ _ _ _ _ l1 _ _ _; (try k_lt l1); (try k_sweep)))
  revert X
  k_fill
  intro X
  have e1 : (lawFrom 9 : List Stmt) = lawFrom 9 := rfl
  conv at e1 => rhs; whnf
  rw [e1]
  clear e1
  have e2 : scopeOf lawStmt = scopeOf lawStmt := rfl
  conv at e2 => rhs; whnf
  rw [lawA, lawEnv, e2] at hE ⊢
  clear e2
  k_extra "own steps"
  try k_gentoks
  refine wpAny_execs_cons ?_
  try dsimp only
  refine For_invV (h₀ := h₀) rfl rfl ?_ (hE := hE)
  k_extra "own steps"
  rename_i v' _ _ v0 v1 _ _ _ _ _ hr F1 N1 kp
  refine iter_rangeI (n := (4 + v').toNat) (TurnsAre p c tl kk (listOf cvs.toArray cn) [(L + 1, o1)] 3 0 (fun z => if z = Str.ofString "pool" then some (.ref p) else m₀ z)) rfl hr (by omega) (by omega) F1 N1 ?_ ?_ ?_
  · exact ⟨_, _, _, [], [], _, map_same, rfl, .nil, rfl, (fun x hx => nomatch hx), by omega⟩
  · rintro i tk1 m₁ nx h2 tk2 own hk hown ⟨u₂, spot2, tp2, tvs, ts, tn2, rfl, rfl, hI, hl, hb, h02⟩ F2 N2
    have hl6 : ts.length ≤ 6 := by omega
    clear F1 N1 hr kp hret h0
    rw [map_over] at F2
    simp only [List.map_cons, List.map_nil] at hown
    simp only [List.cons_append, List.nil_append] at N2
    dsimp only at F2 N2 ⊢
    k_extra "own steps"
    exact turnsEnd (by assumption) (by assumption) hI hl hb (by omega) (by assumption) (by assumption)
  · rintro m₁ nx h2 tk2 ⟨u₂, spot2, tp2, tvs, ts, tn2, rfl, rfl, hI, hl, hb, h02⟩ F2 N2
    clear F1 N1 hr kp h0 hE
    have hl4 : 4 ≤ ts.length := by omega
    have hl6 : ts.length ≤ 6 := by omega
    dsimp only at F2 N2 ⊢
    k_extra "own steps"
    refine LCt.ListComp_T (F₀ := F2) (by with_unfolding_all rfl) (by decide) (by rfl) (by decide) (by rfl) ?_
    k_extra "own steps"
    rename_i hr2 F3 N3 _
    refine LCt.CompSrcT.range rfl F3 N3 hr2 (small_one (by omega) (by omega) (by omega) (by omega)) (n := ts.length) (by rw [rangeSize_nat]; omega) (by rw [sizeLine_eq]; omega) fun gg => ?_
    refine compTest (fun i => holdsFrom 0 (ts.drop i ++ ts.take i)) trivial ?_ ?_ ?_
    · rintro i v I oI C oC D ys m₂ h3 tk3 E' P' hi9 ⟨t9, rfl⟩ ⟨hC, hx, F4, N4, off, ne⟩ hP
      clear F3 N3 hr2 hret
      dsimp only at F4 N4 ⊢
      k_extra "own steps"
      rename_i F5 N5
      rw [show (0 + (i : Int)).toNat = i by omega]
      exact hP _ _ F5 (kst_newsOf N5 fun q hq => .tail _ (.tail _ (.tail _ hq)))
    · rintro i v I oI C oC D ys m₂ h3 tk3 E' P' hi9 ⟨t9, rfl⟩ ⟨hC, hx, F4, N4, off, ne⟩ hP
      clear F3 N3 hr2 hret
      dsimp only at F4 N4 ⊢
      k_extra "own steps"
      exact hP _ _ _ F4 N4
    · intro ys hy D2 h4 tk4 F4 N4 o4
      have hg := good_all hb hl4 hl6
      have hgl : ((List.range ts.length).filter fun i => holdsFrom 0 (ts.drop i ++ ts.take i)).length ≤ 6 := Nat.le_trans (List.length_filter_le _ _) (by rw [List.length_range]; exact hl6)
      have hgg : goodCount ts = ((List.range ts.length).filter fun i => holdsFrom 0 (ts.drop i ++ ts.take i)).length := rfl
      rw [hgg] at hg
      clear hgg
      generalize ((List.range ts.length).filter fun i => holdsFrom 0 (ts.drop i ++ ts.take i)).length = gc at hy hg hgl
      clear F3 N3 hr2
      dsimp only at F4 N4 ⊢
      k_extra "own steps"
      refine KM.len_K N4 (.head _) (n := gc) (by rw [List.size_toArray, hy.length, List.length_replicate]) (by omega) ?_
      k_extra "own steps"
      have hfin : ((gc : Int) == if (ts.length : Int) - ts.sum > 0 then (ts.length : Int) - ts.sum else 0) = true := by
        rw [beq_iff_eq, hg]
        split <;> split <;> omega
      rw [hfin]
      exact hret _ _ _ (by assumption)
end

end

section
open PySem PySem.W PyProof.Rows PySem.Calls PyProof.Rows.LCg
theorem off1_mem {D : Addr} : ∀ {l : List (Addr × Obj)}, Off1 D l → ∀ p ∈ l, @Ne Nat p.1 D
  | [], _, _, h => nomatch h
  | _ :: _, x, p, h => by
    rcases List.mem_cons.mp h with rfl | h
    · exact x.1
    · exact off1_mem x.2 p h
theorem map_pool {h₀ h : Heap} {L p D : Addr} {v : Option Value} {m : Str → Option Value} (F : Fr h₀ L h (fun z => if z = Str.ofString "due" then some (.ref D) else if z = Str.ofString "let" then v else if z = Str.ofString "pool" then some (.ref p) else m z)) :
    Fr h₀ L h (fun z => if z = Str.ofString "pool" then some (.ref p) else (fun z => if z = Str.ofString "due" then some (.ref D) else if z = Str.ofString "let" then v else m z) z) := by
  have e : (fun z => if z = Str.ofString "pool" then some (Value.ref p) else (fun z => if z = Str.ofString "due" then some (.ref D) else if z = Str.ofString "let" then v else m z) z) = fun z => if z = Str.ofString "due" then some (.ref D) else if z = Str.ofString "let" then v else if z = Str.ofString "pool" then some (.ref p) else m z := by
    funext z
    by_cases h1 : z = Str.ofString "pool"
    · subst h1
      rw [if_pos rfl, if_neg (by decide), if_neg (by decide), if_pos rfl]
    · rw [if_neg h1]
      dsimp only
      rw [if_neg h1]
  rw [e]
  exact F
/-- of the sequences, those that refuse r -/
theorem andre {sent let' : Nat} {a b : Int} (h1 : 1 ≤ sent) (h2 : sent ≤ let') (h3 : let' ≤ 3) (ha : a = sent) (hb : b = let') :
    (List.range (sent + 1)).map (fun (r : Nat) => ((((List.range (rowsOf sent let').length).filter fun i => reflFrom 0 0 ((rowsOf sent let').getD i []) == (r : Int)).length : Nat) : Int)) = (List.range (sent + 1)).map fun (r : Nat) => choicesF (a + b) (a - (r : Int)) - choicesF (a + b) (a - (r : Int) - 1) := by
  subst ha hb
  have c1 : sent = 1 ∨ sent = 2 ∨ sent = 3 := by omega
  have c2 : let' = 1 ∨ let' = 2 ∨ let' = 3 := by omega
  rcases c1 with rfl | rfl | rfl <;> rcases c2 with rfl | rfl | rfl <;> first | (exfalso; omega) | decide +kernel
theorem rowsOf_low {a b : Nat} (ha : a ≤ 3) (hb : b ≤ 3) : ∀ r ∈ rowsOf a b, ∀ n ∈ r, -1 ≤ n := by
  have h1 : a = 0 ∨ a = 1 ∨ a = 2 ∨ a = 3 := by omega
  have h2 : b = 0 ∨ b = 1 ∨ b = 2 ∨ b = 3 := by omega
  rcases h1 with rfl | rfl | rfl | rfl <;> rcases h2 with rfl | rfl | rfl | rfl <;> decide +kernel
section
set_option maxRecDepth 100000 in
set_option maxHeartbeats 8000000 in
theorem law5 (w : World) {mean : ExcName → Option Value} {mg mb : Str → Option Value} (h₀ : Heap) (L fa : Addr) (cd : Value) (m₀ : Str → Option Value) (s : Shared) (Q : Flow → Shared → Prop) (E : Value → Shared → Prop)
    (p tl : Addr) (op otl o1 o2 o3 o4 : Obj) (x3 x4 : Option Value) (sent let' : Nat) (a b : Int) (ta tb : Tok)
    (B : Below callerA h₀ [] h₀) (F : Fr h₀ L s.heap (fun z => if z = Str.ofString "let" then some (.int b tb) else if z = Str.ofString "pool" then some (.ref p) else m₀ z)) (X : (Mine.hd.heap_39 w.params).In h₀)
    (T : Top Mine.hd.view_39 (looseW Mine.hd.view_39 []) mean mg mb h₀)
    (rest : List (Addr × Obj))
    (N : News h₀ L s.heap ((L + 1 + 1 + 1 + 1, o4) :: (L + 1 + 1 + 1, o3) :: (L + 1 + 1, o2) :: rest)) (d2 : o2.data = .cell (some (.int a ta))) (d3 : o3.data = .cell x3) (d4 : o4.data = .cell x4)
    (hr4 : ∀ q ∈ rest, q.1 ≠ L + 1 + 1 + 1 + 1) (hr3 : ∀ q ∈ rest, q.1 ≠ L + 1 + 1 + 1) (hr2 : ∀ q ∈ rest, q.1 ≠ L + 1 + 1)
    (hs1 : 1 ≤ sent) (hsl : sent ≤ let') (hl3 : let' ≤ 3) (ha : a = sent) (hb : b = let')
    (hret : ∀ (h' : Heap) (tk' : Nat) (m' : Str → Option Value), Fr h₀ L h' (fun z => if z = Str.ofString "pool" then some (.ref p) else m' z) → News h₀ L h' rest → wpAny (model PySem.Challenge.rw_tk0085_01.row.prog w) (lawA L fa cd) (execs (lawFrom 9) (lawEnv L fa cd)) Q E { s with heap := h', toks := tk' }) :
    wpAny (model PySem.Challenge.rw_tk0085_01.row.prog w) (lawA L fa cd) (execs (lawFrom 5) (lawEnv L fa cd)) Q E s := by
  k_with_none
  w_top off
  k_with "own steps" => (repeat' (first
  | ((fail_if_success (with_reducible show wpAny _ _ (PySem.execs (Stmt.For _ _ _ _ _ :: _) _) _ _ _)); (fail_if_success (with_reducible show wpAny _ _ (PySem.exec (Stmt.For _ _ _ _ _) _) _ _ _)); (fail_if_success (with_reducible show wpAny _ _ (PySem.pyIter _) _ _ _)); (fail_if_success (with_reducible show wpAny _ _ (PySem.eval (Expr.ListComp _ _ _ _) _) _ _ _)); (fail_if_success (with_reducible show wpAny _ _ (PySem.exec (Stmt.Assign _ (Expr.ListComp _ _ _ _) _) _) _ _ _)); (fail_if_success (with_reducible show wpAny _ _ (PySem.call (Value.ref 123) _) _ _ _)); (fail_if_success (with_reducible show LCg.CompSrc _ _ _ _ _ _ _ _ _ _ _ _ _ _)); (fail_if_success (with_reducible show LCt.CompSrcT _ _ _ _ _ _ _ _ _ _ _ _ _ _ _)); first | (k_unfold; (try dsimp only)) | (k_end; wrow_close) | walk1 | (dsimp only; walk1) | (leave1; walk_say "STEP leave1"; try dsimp only))
  | fail "no step"))
  k_with "own call type:range" => ((k_here; (with_reducible show wpAny _ _ (PySem.call (Value.type "range") [Value.int _ _]) _ _ _); k_dflt (refine' range1_rows ?o9F ?o9N ?_; (case o9F => k_asm); (case o9N => k_asm)); intro _ _ _ _ _ _ _ _ _; (try k_sweep)))
  k_with "own call ref" => ((k_here; (with_reducible show wpAny _ _ (PySem.call (Value.ref 118) _) _ _ _); k_dflt (refine' refl_c ?o9B ?o9F ?o9X ?o9N ?o9l ?o9T ?o9hA ?o9hh ?o9hd ?o9hu ?o9hf ?o9hk ?o9hi ?o9lo ?o9mo ?_; (case o9F => k_asm); (case o9N => k_asm); (case o9l => k_mem); (case o9B => k_asm); (case o9X => k_asm); (case o9T => k_asm); (case o9hA => exact rfl); (case o9hh => exact rfl); (case o9hd => exact Nat.le_of_ble_eq_true rfl); (case o9hu => exact Nat.le_of_ble_eq_true rfl); (case o9hf => exact rfl); (case o9hk => exact rfl); (case o9hi => with_reducible assumption); (case o9lo => with_reducible assumption); (case o9mo => with_reducible assumption)); intro _ _ _ _ _; (try k_sweep)))
  k_with "own call ref" => ((k_here; (with_reducible show wpAny _ _ (PySem.call (Value.ref 130) _) _ _ _); k_dflt (refine' choices_c ?o9B ?o9F ?o9X ?o9N ?o9T ?o9hA ?o9hh ?o9hd ?o9hu ?o9hf ?o9hk ?o9c1 ?o9c2 ?o9c3 ?_; (case o9F => k_asm); (case o9N => k_asm); (case o9B => k_asm); (case o9X => k_asm); (case o9T => k_asm); (case o9hA => exact rfl); (case o9hh => exact rfl); (case o9hd => exact Nat.le_of_ble_eq_true rfl); (case o9hu => exact Nat.le_of_ble_eq_true rfl); (case o9hf => exact rfl); (case o9hk => exact rfl); (case o9c1 => omega); (case o9c2 => omega); (case o9c3 => omega)); intro _ _ _ _ _; (try k_sweep)))
  revert X
  k_fill
  intro X
  have e1 : (lawFrom 5 : List Stmt) = lawFrom 5 := rfl
  conv at e1 => rhs; whnf
  rw [e1]
  clear e1
  have e2 : scopeOf lawStmt = scopeOf lawStmt := rfl
  conv at e2 => rhs; whnf
  rw [lawA, lawEnv, e2]
  clear e2
  k_extra "own steps"
  walk1
  k_extra "own steps"
  refine LCg.ListComp_U (F₀ := F) (cl := []) (by with_unfolding_all rfl) (by decide) (by rfl) (by decide) (by rfl) ?_
  k_extra "own steps"
  refine rows_c (sent := sent) (let' := let') B F X N T rfl rfl (Nat.le_of_ble_eq_true rfl) (Nat.le_of_ble_eq_true rfl) rfl rfl (by omega) hl3 ha hb ?_
  intro h2 tk2 R rs kk led F2 N2 hr
  have hrl := hr.length
  have hr20 := rowsOf_len (show sent ≤ 3 by omega) hl3
  obtain ⟨nw, hnw⟩ : ∃ nw, nw = (R, listOf rs.toArray kk) :: (led ++ ((L + 1 + 1 + 1 + 1, o4) :: (L + 1 + 1 + 1, o3) :: (L + 1 + 1, o2) :: rest)) := ⟨_, rfl⟩
  rw [← hnw] at N2
  have hmR : (R, listOf rs.toArray kk) ∈ nw := hnw ▸ .head _
  have hrw : RowsAre rs nw (rowsOf sent let') := hr.mono fun q hq => hnw ▸ .tail _ (List.mem_append_left _ hq)
  have hmr : ∀ q ∈ ((L + 1 + 1 + 1 + 1, o4) :: (L + 1 + 1 + 1, o3) :: (L + 1 + 1, o2) :: rest), q ∈ nw := fun q hq => hnw ▸ .tail _ (List.mem_append_right _ hq)
  clear hnw hr
  refine CompSrc.ledger (by rfl) F2 N2 hmR (by rw [List.size_toArray, hrl, sizeLine_eq]; omega) fun gg => ?_
  rw [List.size_toArray, hrl]
  refine compInts (fun i => reflFrom 0 0 ((rowsOf sent let').getD i [])) (.inr ⟨_, hmR, rfl, _, rfl⟩) ?_ ?_
  · rintro i v I oI C oC D ys m₂ h3 tk3 E' P' hi9 hv ⟨hC, hx, F4, N4, off, ne⟩ hP
    obtain ⟨row, ar, vs, k, e1, rfl, e3, hI⟩ := rowsAre_get hrw (show rs[i]? = some v by simpa using hv)
    have hrow6 := rowsOf_row (show sent ≤ 3 by omega) hl3 row (List.mem_of_getElem? e1)
    have hrow1 := rowsOf_low (show sent ≤ 3 by omega) hl3 row (List.mem_of_getElem? e1)
    have hrow64 : row.length ≤ 64 := by omega
    have hgd : (rowsOf sent let').getD i [] = row := by rw [List.getD_eq_getElem?_getD, e1]; rfl
    dsimp only at hP
    rw [hgd] at hP
    have N5 : News h₀ L h3 ((ar, listOf vs.toArray k) :: (I, oI) :: (C, oC) :: (D, lst ys) :: nw) := kst_newsOf N4 fun q hq => by
      rcases List.mem_cons.mp hq with rfl | hq
      · exact .tail _ (.tail _ (.tail _ e3))
      · exact hq
    clear N4 N2 F2 hret F
    dsimp only at F4 N5 ⊢
    k_extra "own steps"
    rename_i F5 N6
    exact hP _ _ _ F5 (kst_newsOf N6 fun q hq => .tail _ hq)
  intro tys hty D2 h4 tk4 F4 N4 hof
  have off := off1_mem hof
  have N5 : News h₀ L h4 ((D2, listOf tys.toArray tys.length) :: (L + 1 + 1 + 1 + 1, o4) :: (L + 1 + 1 + 1, o3) :: (L + 1 + 1, o2) :: rest) := kst_newsOf N4 fun q hq => by
    rcases List.mem_cons.mp hq with rfl | hq
    · exact .head _
    · exact .tail _ (hmr q hq)
  have n4 : @Ne Nat (L + 1 + 1 + 1 + 1) D2 := off _ (hmr _ (.head _))
  have n3 : @Ne Nat (L + 1 + 1 + 1) D2 := off _ (hmr _ (.tail _ (.head _)))
  have n2 : @Ne Nat (L + 1 + 1) D2 := off _ (hmr _ (.tail _ (.tail _ (.head _))))
  have nr : ∀ q ∈ rest, @Ne Nat q.1 D2 := fun q hq => off _ (hmr _ (.tail _ (.tail _ (.tail _ hq))))
  have ho : OwnOff rest [L + 1 + 1 + 1 + 1, L + 1 + 1 + 1, L + 1 + 1, D2] := fun q hq z hz => by
    rcases List.mem_cons.mp hz with rfl | hz
    · exact hr4 q hq
    · rcases List.mem_cons.mp hz with rfl | hz
      · exact hr3 q hq
      · rcases List.mem_cons.mp hz with rfl | hz
        · exact hr2 q hq
        · obtain rfl := List.mem_singleton.mp hz; exact nr q hq
  clear N4 hof off hmr hmR hrw hrl hr20 F2 N2 F
  dsimp only at F4 N5 ⊢
  k_extra "own steps"
  rename_i _ o3' d3' h5 o4' F6 N7 d4'
  refine LCg.Assign_ListComp_U (F₀ := F6) (by rfl) (by with_unfolding_all rfl) (by with_unfolding_all rfl) (by decide) (by rfl) (by decide) (by rfl) (by rfl) (by rfl) ?_
  k_extra "own steps"
  rename_i hr7 F7 N8 _
  refine CompSrc.range rfl F7 N8 hr7 (small_one (by omega) (by omega) (by omega) (by omega)) (n := sent + 1) (by rw [rangeSize_nat]; omega) (by rw [sizeLine_eq]; omega) fun g7 => ?_
  refine compInts (fun r => choicesF (a + b) (a - (r : Int)) - choicesF (a + b) (a - (r : Int) - 1)) trivial ?_ ?_
  · rintro i v I oI C oC D ys m₂ h8 tk8 E' P' hi9 ⟨t9, rfl⟩ ⟨hC, hx, F8, N9, off, ne⟩ hP
    clear F7 N8 hr7 hret hty
    dsimp only at F8 N9 hP ⊢
    k_extra "own steps"
    rename_i F10 N10
    rw [Int.zero_add]
    exact hP _ _ _ F10 N10
  intro dys hdy D3 h9 tk9 F9 N9 off9
  clear F7 N8 hr7
  have off := off1_mem off9
  have m4 : @Ne Nat (L + 1 + 1 + 1 + 1) D3 := off _ (.tail _ (.head _))
  have m3 : @Ne Nat (L + 1 + 1 + 1) D3 := off _ (.tail _ (.tail _ (.head _)))
  have m2 : @Ne Nat (L + 1 + 1) D3 := off _ (.tail _ (.tail _ (.tail _ (.head _))))
  have m1 : @Ne Nat D2 D3 := off _ (.head _)
  have N10 : News h₀ L h9 ((D3, listOf dys.toArray dys.length) :: (D2, listOf tys.toArray tys.length) :: (L + 1 + 1 + 1 + 1, o4') :: (L + 1 + 1 + 1, o3') :: (L + 1 + 1, o2) :: rest) := N9
  clear N9 off9
  dsimp only at F9 N10 ⊢
  k_extra "own steps"
  refine ListComp_cell (h₀ := h₀) (L := L) (m := fun z => if z = Str.ofString "due" then some (.ref D3) else if z = Str.ofString "let" then some (.int b tb) else if z = Str.ofString "pool" then some (.ref p) else m₀ z) (n := sent + 1) (news := (D3, listOf dys.toArray dys.length) :: (D2, listOf tys.toArray tys.length) :: (L + 1 + 1 + 1 + 1, o4') :: (L + 1 + 1 + 1, o3') :: (L + 1 + 1, o2) :: rest) (fun r => ((((List.range (rowsOf sent let').length).filter fun i => reflFrom 0 0 ((rowsOf sent let').getD i []) == (r : Int)).length : Nat) : Int)) (by with_unfolding_all rfl) (by rfl) (by decide) (by intro _; rfl) (by intro _; rfl) (by rfl) (by rfl) (by omega) ?_
  k_extra "own steps"
  · omega
  · assumption
  · assumption
  · rename_i i t I oI C oC D X oX ys h tk E' P' hi dX F11 N11 low lID lDC lCX hP
    clear hret hdy
    refine LCt.ListComp_T (F₀ := F11) (by with_unfolding_all rfl) (by decide) (by rfl) (by decide) (by rfl) ?_
    k_extra "own steps"
    have hn20 := rowsOf_len (show sent ≤ 3 by omega) hl3
    have htl : tys.toArray.size = (rowsOf sent let').length := by rw [List.size_toArray, hty.length, List.length_map, List.length_range]
    have mD2 : (D2, listOf tys.toArray tys.length) ∈ (X, oX) :: (I, oI) :: (C, oC) :: (D, lst ys) :: (D3, listOf dys.toArray dys.length) :: (D2, listOf tys.toArray tys.length) :: (L + 1 + 1 + 1 + 1, o4') :: (L + 1 + 1 + 1, o3') :: (L + 1 + 1, o2) :: rest := .tail _ (.tail _ (.tail _ (.tail _ (.tail _ (.head _)))))
    refine LCt.CompSrcT.ledger (by rfl) F11 N11 mD2 (by rw [htl, sizeLine_eq]; omega) fun gg2 => ?_
    rw [htl]
    refine compTest (fun j => reflFrom 0 0 ((rowsOf sent let').getD j []) == (i : Int)) (.inr ⟨_, mD2, rfl, _, rfl⟩) ?_ ?_ ?_
    · rintro j v I2 oI2 C2 oC2 D4 ys2 m₂ h12 tk12 E2 P2 hj hv ⟨hC, hx, F12, N12, off, ne⟩ hP2
      obtain ⟨t12, ht12⟩ := hty.get j (reflFrom 0 0 ((rowsOf sent let').getD j [])) (by rw [List.getElem?_map, List.getElem?_range hj]; rfl)
      obtain rfl : v = .int (reflFrom 0 0 ((rowsOf sent let').getD j [])) t12 := by
        have hv' : tys[j]? = some v := by simpa using hv
        exact Option.some.inj (hv'.symm.trans ht12)
      clear N11 F11 hP hty htl
      dsimp only at F12 N12 hP2 ⊢
      generalize reflFrom 0 0 ((rowsOf sent let').getD j []) = fj at hx hP2
      k_extra "own steps"
      exact hP2 _ _ F12 N12
    · rintro j v I2 oI2 C2 oC2 D4 ys2 m₂ h12 tk12 E2 P2 hj hv ⟨hC, hx, F12, N12, off, ne⟩ hP2
      clear N11 F11 hP hty htl
      dsimp only at F12 N12 hP2 ⊢
      k_extra "own steps"
      exact hP2 _ _ _ F12 N12
    · intro zs hzs D4 h12 tk12 F12 N12 o12
      have hcl : ((List.range (rowsOf sent let').length).filter fun j => reflFrom 0 0 ((rowsOf sent let').getD j []) == (i : Int)).length ≤ 20 := Nat.le_trans (List.length_filter_le _ _) (by rw [List.length_range]; exact hn20)
      generalize ((List.range (rowsOf sent let').length).filter fun j => reflFrom 0 0 ((rowsOf sent let').getD j []) == (i : Int)).length = cc at hzs hcl hP
      clear hty htl
      dsimp only at F12 N12 hP ⊢
      k_extra "own steps"
      refine KM.len_K N12 (.head _) (n := cc) (by rw [List.size_toArray, hzs.length, List.length_replicate]) (by omega) ?_
      exact hP _ _ _ F12 (kst_newsOf N12 fun q hq => .tail _ hq)
  · rename_i F13 N13 _ _
    exact hret _ _ (fun z => if z = Str.ofString "due" then some (.ref D3) else if z = Str.ofString "let" then some (.int b tb) else m₀ z) (map_pool F13) (kst_newsOf N13 fun q hq => .tail _ (.tail _ (.tail _ (.tail _ (.tail _ (.tail _ hq))))))
  · rename_i hne
    exact absurd (andre hs1 hsl hl3 ha hb) hne
end

end

section
open PySem PySem.W PyProof.Rows PySem.Calls PyProof.Rows.LCg
theorem mem_bring7 {α : Type} {x1 x2 x3 x4 x5 x6 x7 p c q : α} {l : List α} (h : q ∈ p :: c :: x1 :: x2 :: x3 :: x4 :: x5 :: x6 :: x7 :: l) : q ∈ x1 :: x2 :: x3 :: x4 :: x5 :: x6 :: x7 :: p :: c :: l := by
  simp only [List.mem_cons] at h ⊢
  rcases h with h | h | h | h | h | h | h | h | h | h <;> simp [h]
theorem mem_pick7 {α : Type} {y1 y2 y3 y4 y5 y6 y7 p c tl b1 a4 a3 a2 q : α} (h : q ∈ [a4, a3, a2, p, c, tl, b1]) : q ∈ [p, c, y1, y2, y3, y4, y5, y6, y7, tl, b1, a4, a3, a2] := by
  simp only [List.mem_cons, List.not_mem_nil, or_false] at h ⊢
  rcases h with h | h | h | h | h | h | h <;> simp [h]
section
set_option maxRecDepth 100000 in
set_option maxHeartbeats 8000000 in
theorem law4 (b4 : List Stmt) (hb4 : lawFrom 4 = b4) (w : World) {mean : ExcName → Option Value} {mg mb : Str → Option Value} (h₀ : Heap) (L fa : Addr) (cd : Value) (m₀ : Str → Option Value) (s : Shared) (Q : Flow → Shared → Prop) (E : Value → Shared → Prop) (hE : PassesOwn (model PySem.Challenge.rw_tk0085_01.row.prog w) (lawA L fa cd) (lawEnv L fa cd) E)
    (p c tl : Addr) (cvs : List Value) (cns : List Int) (spot : Int) (tp : Tok) (kk cn tn : Nat) (o1 o2 o3 o4 : Obj) (x2 x3 x4 : Option Value)
    (B : Below callerA h₀ [] h₀) (F : Fr h₀ L s.heap (fun z => if z = Str.ofString "pool" then some (.ref p) else m₀ z)) (X : (Mine.hd.heap_39 w.params).In h₀)
    (T : Top Mine.hd.view_39 (looseW Mine.hd.view_39 []) mean mg mb h₀)
    (N : News h₀ L s.heap [(p, poolO c spot tp kk), (c, listOf cvs.toArray cn), (tl, listOf #[] tn), (L + 1, o1), (L + 1 + 1 + 1 + 1, o4), (L + 1 + 1 + 1, o3), (L + 1 + 1, o2)]) (d1 : o1.data = .cell (some (.ref tl))) (d2 : o2.data = .cell x2) (d3 : o3.data = .cell x3) (d4 : o4.data = .cell x4)
    (hi : IntsAre cvs cns) (hlen : cns.length ≤ 63) (h0 : 0 ≤ spot) (n1 : @Ne Nat (L + 1) c) (n2 : @Ne Nat (L + 1 + 1) c) (n3 : @Ne Nat (L + 1 + 1 + 1) c) (n4 : @Ne Nat (L + 1 + 1 + 1 + 1) c) (l0 : @LT.lt Nat _ (L + 1 + 1 + 1 + 1) p) (l2 : @LT.lt Nat _ c p) (l3 : @LT.lt Nat _ p tl)
    (hret : ∀ (h' : Heap) (tk' : Nat) (m' : Str → Option Value), Fr h₀ L h' m' → Q (.ret (.bool true)) { s with heap := h', toks := tk' }) :
    wpAny (model PySem.Challenge.rw_tk0085_01.row.prog w) (lawA L fa cd) (execs b4 (lawEnv L fa cd)) Q E s := by
  k_with_none
  w_top off
  k_with "own steps" => (repeat' (first
  | ((fail_if_success (with_reducible show wpAny _ _ (PySem.execs (Stmt.Assign _ (Expr.ListComp _ _ _ _) _ :: _) _) _ _ _)); (fail_if_success (with_reducible show wpAny _ _ (PySem.call (Value.ref 104) _) _ _ _)); first | (k_unfold; (try dsimp only)) | (k_end; wrow_close) | walk1 | (dsimp only; walk1) | (leave1; walk_say "STEP leave1"; try dsimp only))
  | fail "no step"))
  revert X
  k_fill
  intro X
  conv at hb4 => lhs; whnf
  subst hb4
  have e2 : scopeOf lawStmt = scopeOf lawStmt := rfl
  conv at e2 => rhs; whnf
  rw [lawA, lawEnv, e2]
  clear e2
  k_extra "own steps"
  rename_i F5 N5 l5
  refine draw_c B F5 X (kst_newsOf N5 fun q hq => mem_bring7 hq) (by k_all) (by k_all) l2 T rfl rfl (Nat.le_of_ble_eq_true rfl) (Nat.le_of_ble_eq_true rfl) rfl rfl hi h0 hlen (by decide) (by decide) ?_
  intro h6 tk6 v t1 t2 v0 v1 F6 N6
  clear N5 F5
  dsimp only at F6 N6 ⊢
  have lA : @LT.lt Nat _ (L + 1) p := by omega
  have hr4 : ∀ q ∈ ([(p, poolO c (spot + 1) t1 kk), (c, listOf cvs.toArray cn), (tl, listOf #[] tn), (L + 1, o1)] : List (Addr × Obj)), q.1 ≠ L + 1 + 1 + 1 + 1 := by
    intro q hq
    simp only [List.mem_cons, List.not_mem_nil, or_false] at hq
    rcases hq with rfl | rfl | rfl | rfl <;> (show @Ne Nat _ _; dsimp only; omega)
  have hr3 : ∀ q ∈ ([(p, poolO c (spot + 1) t1 kk), (c, listOf cvs.toArray cn), (tl, listOf #[] tn), (L + 1, o1)] : List (Addr × Obj)), q.1 ≠ L + 1 + 1 + 1 := by
    intro q hq
    simp only [List.mem_cons, List.not_mem_nil, or_false] at hq
    rcases hq with rfl | rfl | rfl | rfl <;> (show @Ne Nat _ _; dsimp only; omega)
  have hr2 : ∀ q ∈ ([(p, poolO c (spot + 1) t1 kk), (c, listOf cvs.toArray cn), (tl, listOf #[] tn), (L + 1, o1)] : List (Addr × Obj)), q.1 ≠ L + 1 + 1 := by
    intro q hq
    simp only [List.mem_cons, List.not_mem_nil, or_false] at hq
    rcases hq with rfl | rfl | rfl | rfl <;> (show @Ne Nat _ _; dsimp only; omega)
  have h01 : 0 ≤ spot + 1 := by omega
  have hv : v = 0 ∨ v = 1 ∨ v = 2 ∨ v = 3 ∨ v = 4 ∨ v = 5 := by omega
  rcases hv with rfl | rfl | rfl | rfl | rfl | rfl
  all_goals k_extra "own steps"
  · rename_i d2' h7 F7 N7
    refine law5 w h₀ L fa cd m₀ _ _ _ p tl o1 o1 o1 _ o3 _ x3 x4 1 1 1 1 _ _ B F7 X T [(p, poolO c (spot + 1) t1 kk), (c, listOf cvs.toArray cn), (tl, listOf #[] tn), (L + 1, o1)] (kst_newsOf N7 fun q hq => mem_pick7 hq) d2' d3 d4 hr4 hr3 hr2 (by decide) (by decide) (by decide) rfl rfl ?_
    intro h' tk' m' F' N'
    exact law9 w h₀ L fa cd m' _ Q E hE p c tl cvs cns (spot + 1) t1 kk cn tn o1 B F' X T N' d1 hi hlen h01 n1 lA l2 l3 hret
  · rename_i d2' h7 F7 N7
    refine law5 w h₀ L fa cd m₀ _ _ _ p tl o1 o1 o1 _ o3 _ x3 x4 1 2 1 2 _ _ B F7 X T [(p, poolO c (spot + 1) t1 kk), (c, listOf cvs.toArray cn), (tl, listOf #[] tn), (L + 1, o1)] (kst_newsOf N7 fun q hq => mem_pick7 hq) d2' d3 d4 hr4 hr3 hr2 (by decide) (by decide) (by decide) rfl rfl ?_
    intro h' tk' m' F' N'
    exact law9 w h₀ L fa cd m' _ Q E hE p c tl cvs cns (spot + 1) t1 kk cn tn o1 B F' X T N' d1 hi hlen h01 n1 lA l2 l3 hret
  · rename_i d2' h7 F7 N7
    refine law5 w h₀ L fa cd m₀ _ _ _ p tl o1 o1 o1 _ o3 _ x3 x4 2 2 2 2 _ _ B F7 X T [(p, poolO c (spot + 1) t1 kk), (c, listOf cvs.toArray cn), (tl, listOf #[] tn), (L + 1, o1)] (kst_newsOf N7 fun q hq => mem_pick7 hq) d2' d3 d4 hr4 hr3 hr2 (by decide) (by decide) (by decide) rfl rfl ?_
    intro h' tk' m' F' N'
    exact law9 w h₀ L fa cd m' _ Q E hE p c tl cvs cns (spot + 1) t1 kk cn tn o1 B F' X T N' d1 hi hlen h01 n1 lA l2 l3 hret
  · rename_i d2' h7 F7 N7
    refine law5 w h₀ L fa cd m₀ _ _ _ p tl o1 o1 o1 _ o3 _ x3 x4 1 3 1 3 _ _ B F7 X T [(p, poolO c (spot + 1) t1 kk), (c, listOf cvs.toArray cn), (tl, listOf #[] tn), (L + 1, o1)] (kst_newsOf N7 fun q hq => mem_pick7 hq) d2' d3 d4 hr4 hr3 hr2 (by decide) (by decide) (by decide) rfl rfl ?_
    intro h' tk' m' F' N'
    exact law9 w h₀ L fa cd m' _ Q E hE p c tl cvs cns (spot + 1) t1 kk cn tn o1 B F' X T N' d1 hi hlen h01 n1 lA l2 l3 hret
  · rename_i d2' h7 F7 N7
    refine law5 w h₀ L fa cd m₀ _ _ _ p tl o1 o1 o1 _ o3 _ x3 x4 2 3 2 3 _ _ B F7 X T [(p, poolO c (spot + 1) t1 kk), (c, listOf cvs.toArray cn), (tl, listOf #[] tn), (L + 1, o1)] (kst_newsOf N7 fun q hq => mem_pick7 hq) d2' d3 d4 hr4 hr3 hr2 (by decide) (by decide) (by decide) rfl rfl ?_
    intro h' tk' m' F' N'
    exact law9 w h₀ L fa cd m' _ Q E hE p c tl cvs cns (spot + 1) t1 kk cn tn o1 B F' X T N' d1 hi hlen h01 n1 lA l2 l3 hret
  · rename_i d2' h7 F7 N7
    refine law5 w h₀ L fa cd m₀ _ _ _ p tl o1 o1 o1 _ o3 _ x3 x4 3 3 3 3 _ _ B F7 X T [(p, poolO c (spot + 1) t1 kk), (c, listOf cvs.toArray cn), (tl, listOf #[] tn), (L + 1, o1)] (kst_newsOf N7 fun q hq => mem_pick7 hq) d2' d3 d4 hr4 hr3 hr2 (by decide) (by decide) (by decide) rfl rfl ?_
    intro h' tk' m' F' N'
    exact law9 w h₀ L fa cd m' _ Q E hE p c tl cvs cns (spot + 1) t1 kk cn tn o1 B F' X T N' d1 hi hlen h01 n1 lA l2 l3 hret
end

end

section
open PySem PySem.W PyProof.Rows PySem.Calls PyProof.Rows.LCg
theorem map_pool3 {h₀ h : Heap} {L p : Addr} {u v : Option Value} {m : Str → Option Value} (F : Fr h₀ L h (fun z => if z = Str.ofString "at" then u else if z = Str.ofString "words" then v else if z = Str.ofString "pool" then some (.ref p) else m z)) :
    Fr h₀ L h (fun z => if z = Str.ofString "pool" then some (.ref p) else (fun z => if z = Str.ofString "at" then u else if z = Str.ofString "words" then v else m z) z) := by
  have e : (fun z => if z = Str.ofString "pool" then some (Value.ref p) else (fun z => if z = Str.ofString "at" then u else if z = Str.ofString "words" then v else m z) z) = fun z => if z = Str.ofString "at" then u else if z = Str.ofString "words" then v else if z = Str.ofString "pool" then some (.ref p) else m z := by
    funext z
    by_cases h1 : z = Str.ofString "pool"
    · subst h1
      rw [if_pos rfl, if_neg (by decide), if_neg (by decide), if_pos rfl]
    · rw [if_neg h1]
      dsimp only
      rw [if_neg h1]
  rw [e]
  exact F
section
set_option maxRecDepth 100000 in
set_option maxHeartbeats 8000000 in
theorem law2 (w : World) {mean : ExcName → Option Value} {mg mb : Str → Option Value} (h₀ : Heap) (L fa : Addr) (cd : Value) (m₀ : Str → Option Value) (s : Shared) (Q : Flow → Shared → Prop) (E : Value → Shared → Prop) (hE : PassesOwn (model PySem.Challenge.rw_tk0085_01.row.prog w) (lawA L fa cd) (lawEnv L fa cd) E)
    (p c wl tl : Addr) (cvs : List Value) (cns : List Int) (spot : Int) (tp : Tok) (kk cn wn tn : Nat) (o1 o2 o3 o4 : Obj)
    (B : Below callerA h₀ [] h₀) (F : Fr h₀ L s.heap (fun z => if z = Str.ofString "words" then some (.ref wl) else if z = Str.ofString "pool" then some (.ref p) else m₀ z)) (X : (Mine.hd.heap_39 w.params).In h₀)
    (T : Top Mine.hd.view_39 (looseW Mine.hd.view_39 []) mean mg mb h₀)
    (N : News h₀ L s.heap [(p, poolO c spot tp kk), (c, listOf cvs.toArray cn), (wl, listOf #[] wn), (tl, listOf #[] tn), (L + 1, o1), (L + 1 + 1 + 1 + 1, o4), (L + 1 + 1 + 1, o3), (L + 1 + 1, o2)])
    (hi : IntsAre cvs cns) (hlen : cns.length ≤ 63) (h0 : 0 ≤ spot) (n1 : @Ne Nat (L + 1) c) (n2 : @Ne Nat (L + 1 + 1) c) (n3 : @Ne Nat (L + 1 + 1 + 1) c) (n4 : @Ne Nat (L + 1 + 1 + 1 + 1) c) (l0 : @LT.lt Nat _ (L + 1 + 1 + 1 + 1) p) (l2 : @LT.lt Nat _ c p) (l3 : @LT.lt Nat _ p wl) (l4 : @LT.lt Nat _ wl tl)
    (body4 : List Stmt) (hb4 : lawFrom 4 = body4)
    (hret : ∀ (h' : Heap) (tk' : Nat) (m' : Str → Option Value) (spot' : Int) (tp' : Tok), 0 ≤ spot' → Fr h₀ L h' (fun z => if z = Str.ofString "pool" then some (.ref p) else m' z) →
      News h₀ L h' [(p, poolO c spot' tp' kk), (c, listOf cvs.toArray cn), (tl, listOf #[] tn), (L + 1, o1), (L + 1 + 1 + 1 + 1, o4), (L + 1 + 1 + 1, o3), (L + 1 + 1, o2)] →
      wpAny (model PySem.Challenge.rw_tk0085_01.row.prog w) (lawA L fa cd) (execs body4 (lawEnv L fa cd)) Q E { s with heap := h', toks := tk' }) :
    wpAny (model PySem.Challenge.rw_tk0085_01.row.prog w) (lawA L fa cd) (execs (lawFrom 2) (lawEnv L fa cd)) Q E s := by
  k_with_none
  w_top off
  k_with "own steps" => (repeat' (first
  | ((fail_if_success (with_reducible show wpAny _ _ (PySem.execs (Stmt.Assign [Expr.Tuple _ _ _] _ _ :: _) _) _ _ _)); (fail_if_success (with_reducible show wpAny _ _ (PySem.execs (Stmt.For _ _ _ _ _ :: _) _) _ _ _)); (fail_if_success (with_reducible show wpAny _ _ (PySem.pyIter _) _ _ _)); first | (k_unfold; (try dsimp only)) | (k_end; wrow_close) | walk1 | (dsimp only; walk1) | (leave1; walk_say "STEP leave1"; try dsimp only))
  | fail "no step"))
  k_with "own call ref" => ((k_here; (with_reducible show wpAny _ _ (PySem.call (Value.ref 104) _) _ _ _); k_dflt (refine' draw_c ?o9B ?o9F ?o9X ?o9N ?o9hp ?o9hc ?o9hpc ?o9T ?o9hA ?o9hh ?o9hd ?o9hu ?o9hf ?o9hk ?o9hi ?o9h0 ?o9hl ?o9hm ?o9hm2 ?_; (case o9F => k_asm); (case o9N => k_asm); (case o9B => k_asm); (case o9X => k_asm); (case o9T => k_asm); (case o9hA => exact rfl); (case o9hp => k_all); (case o9hc => k_all); (case o9hpc => k_asm); (case o9hh => exact rfl); (case o9hd => exact Nat.le_of_ble_eq_true rfl); (case o9hu => exact Nat.le_of_ble_eq_true rfl); (case o9hf => exact rfl); (case o9hk => exact rfl); (case o9hi => l_ints); (case o9h0 => omega); (case o9hl => assumption); (case o9hm => decide); (case o9hm2 => decide)); intro _ _ _ _ _ _ _ _ _; (try k_sweep)))
  k_with "own call ref" => ((k_here; (with_reducible show wpAny _ _ (PySem.call (Value.ref 118) _) _ _ _); k_dflt (refine' refl_c ?o9B ?o9F ?o9X ?o9N ?o9l ?o9T ?o9hA ?o9hh ?o9hd ?o9hu ?o9hf ?o9hk ?o9hi ?o9lo ?o9mo ?_; (case o9F => k_asm); (case o9N => k_asm); (case o9l => k_mem); (case o9B => k_asm); (case o9X => k_asm); (case o9T => k_asm); (case o9hA => exact rfl); (case o9hh => exact rfl); (case o9hd => exact Nat.le_of_ble_eq_true rfl); (case o9hu => exact Nat.le_of_ble_eq_true rfl); (case o9hf => exact rfl); (case o9hk => exact rfl); (case o9hi => with_reducible assumption); (case o9lo => with_reducible assumption); (case o9mo => with_reducible assumption)); intro _ _ _ _ _; (try k_sweep)))
  k_with "own call type:range" => ((k_here; (with_reducible show wpAny _ _ (PySem.call (Value.type "range") [Value.int _ _]) _ _ _); k_dflt (refine' range1_rows ?o9F ?o9N ?_; (case o9F => k_asm); (case o9N => k_asm)); intro _ _ _ _ _ _ _ _ _; (try k_sweep)))
  k_with "own ite" => (first | with_reducible refine ite_tt ?_ | with_reducible refine ite_ff ?_)
  revert X
  k_fill
  intro X
  have e1 : (lawFrom 2 : List Stmt) = lawFrom 2 := rfl
  conv at e1 => rhs; whnf
  rw [e1]
  clear e1
  have e2 : scopeOf lawStmt = scopeOf lawStmt := rfl
  conv at e2 => rhs; whnf
  rw [lawA, lawEnv, e2] at hE ⊢
  clear e2
  k_extra "own steps"
  try k_gentoks
  refine wpAny_execs_cons ?_
  try dsimp only
  refine For_invV (h₀ := h₀) rfl rfl ?_ (hE := hE)
  k_extra "own steps"
  rename_i v' _ _ v0 v1 _ _ _ _ _ hr F1 N1 kp
  refine iter_rangeI (n := (5 + v').toNat) (TurnsAre p c wl kk (listOf cvs.toArray cn) [(tl, listOf #[] tn), (L + 1, o1), (L + 1 + 1 + 1 + 1, o4), (L + 1 + 1 + 1, o3), (L + 1 + 1, o2)] 3 (-1) (fun z => if z = Str.ofString "words" then some (.ref wl) else if z = Str.ofString "pool" then some (.ref p) else m₀ z)) rfl hr (by omega) (by omega) F1 N1 ?_ ?_ ?_
  · exact ⟨_, _, _, [], [], _, map_same, rfl, .nil, rfl, (fun x hx => nomatch hx), by omega⟩
  · rintro i tk1 m₁ nx h2 tk2 own hk hown ⟨u₂, spot2, tp2, tvs, ts, tn2, rfl, rfl, hI, hl, hb, h02⟩ F2 N2
    have hl8 : ts.length ≤ 8 := by omega
    clear F1 N1 hr kp hret h0
    rw [map_over] at F2
    simp only [List.map_cons, List.map_nil] at hown
    simp only [List.cons_append, List.nil_append] at N2
    dsimp only at F2 N2 ⊢
    k_extra "own steps"
    exact turnsEnd (by assumption) (by assumption) hI hl hb (by omega) (by omega) (by omega)
  · rintro m₁ nx h2 tk2 ⟨u₂, spot2, tp2, tvs, ts, tn2, rfl, rfl, hI, hl, hb, h02⟩ F2 N2
    clear F1 N1 hr kp h0 hE
    have hl64 : ts.length ≤ 64 := by omega
    have hlo : ∀ n ∈ ts, -1 ≤ n := fun n hn => (hb n hn).1
    dsimp only at F2 N2 ⊢
    k_extra "own steps"
    rename_i F3 N3
    dsimp only
    have F4 := map_pool3 F3
    have N4 := kst_newsOf (l' := [(p, poolO c spot2 tp2 kk), (c, listOf cvs.toArray cn), (tl, listOf #[] tn), (L + 1, o1), (L + 1 + 1 + 1 + 1, o4), (L + 1 + 1 + 1, o3), (L + 1 + 1, o2)]) N3 fun q hq => by
      rcases List.mem_cons.mp hq with rfl | hq
      · exact .head _
      · rcases List.mem_cons.mp hq with rfl | hq
        · exact .tail _ (.head _)
        · exact .tail _ (.tail _ (.tail _ hq))
    clear F3 N3
    conv at hb4 => lhs; whnf
    rw [hb4]
    clear hb4
    exact hret _ _ _ spot2 tp2 h02 F4 N4
end

end

section
open PySem PySem.W PyProof.Rows PySem.Calls PyProof.Rows.LCg
theorem mem_pick8 {α : Type} {y1 y2 p c wl tl b1 a4 a3 a2 q : α} (h : q ∈ [p, c, wl, tl, b1, a4, a3, a2]) : q ∈ [y1, tl, wl, p, c, y2, a4, a3, a2, b1] := by
  simp only [List.mem_cons, List.not_mem_nil, or_false] at h ⊢
  rcases h with h | h | h | h | h | h | h | h <;> simp [h]
section
set_option maxRecDepth 100000 in
set_option maxHeartbeats 8000000 in
theorem law0 : PySem.Challenge.rw_tk0085_01.Holds := hd (by
  k_with_none
  w_top off
  k_with "own steps" => (repeat' (first
  | ((fail_if_success (with_reducible show wpAny _ _ (PySem.execs (Stmt.For _ _ _ _ _ :: _) _) _ _ _)); first | (k_unfold; (try dsimp only)) | (k_end; wrow_close) | walk1 | (dsimp only; walk1) | (leave1; walk_say "STEP leave1"; try dsimp only))
  | fail "no step"))
  k_go0; (all_goals try k_fold)
  k_extra "own steps"
  rename_i hI8 hL8 c hc7 tkp o1x p hp6 lp hp5 wl hw4 lw tl ht3 lt Dt hd2 ld ha hb hcc oc F1 N1 d1
  have e1 : (lawFrom 2 : List Stmt) = lawFrom 2 := rfl
  conv at e1 => rhs; whnf
  rw [← e1]
  clear e1
  have e2 : scopeOf lawStmt = scopeOf lawStmt := rfl
  conv at e2 => rhs; whnf
  rw [← e2]
  clear e2
  have hlen := hI8.length
  rw [hL8, List.length_map, List.length_take] at hlen
  obtain ⟨n4, n3, n2, n1⟩ := o1x.2
  have l0 := lp.2.2.1
  have l2 := lp.1
  have l3 := lw.1
  have l4 := lt.1
  have l5 := lt.2.1
  obtain ⟨b4, hb4⟩ : ∃ b, lawFrom 4 = b := ⟨_, rfl⟩
  refine law2 _ _ _ _ _ _ _ _ _ ?hE _ _ _ _ _ _ 0 _ _ _ _ _ _ _ _ _ (by assumption) F1 (by assumption) (by assumption) (kst_newsOf N1 fun q hq => mem_pick8 hq) hI8 (by rw [List.length_map, List.length_take]; omega) (by decide) n1 n2 n3 n4 l0 l2 l3 l4 b4 hb4 ?hret
  case hE => passes_own
  case hret =>
    intro h' tk' m' spot' tp' h0' F' N'
    refine law4 b4 hb4 _ _ _ _ _ _ _ _ _ ?hE2 _ _ _ _ _ _ _ _ _ _ _ _ _ _ _ _ _ (by assumption) F' (by assumption) (by assumption) N' d1 (by assumption) (by assumption) (by assumption) hI8 (by rw [List.length_map, List.length_take]; omega) h0' n1 n2 n3 n4 l0 l2 l5 ?hret2
    case hE2 => passes_own
    case hret2 =>
      intro h2 tk2 m2 F2
      clear F' N' F1 N1 d1
      dsimp only [qk]
      k_end
      wrow_close)
end

end

end Mine
set_option maxRecDepth 100000 in
set_option maxHeartbeats 8000000 in
theorem PySem.Challenge.cw_tk0085_01_holds : PySem.Challenge.rw_tk0085_01.Holds := by
  exact Mine.law0

