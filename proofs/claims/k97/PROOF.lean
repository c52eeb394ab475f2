import PyProof.Rows.All
import Wide.All
import OpenK.AllK
import Wide.FinOn
import HandS.ForExc
import HandS.Flow
import HandS.Finally
import HandS.TryMany
import HandS.ExcCtx
import HandS.Hot
import HandS.HotCalls
import HandS.SuiteRaise
import HandS.RaiseFrom
import HandS.ExcInit
import HandS.ExcInitHot
import HandS.ExcField
import HandS.Defaults
import HandS.MakeKwOnly
import HandS.ClsMeth
import HandS.More
import HandS.CallSlots
import HandS.IsInst
import HandS.HeadHook1
import HandS.HeadHook2
import PySem.Challenge.RW_sipstack_k97_whole_poured_through_a_pipe
import KE.KStateDown
import HandS.Head0
import HandS.Head1
import HandS.Head2
import HandS.HeadEnd
import HandS.Iter
import HandS.Wide
import HandS.Comp
set_option Elab.async false
set_option linter.all false
set_option maxRecDepth 100000
set_option maxHeartbeats 4000000
/-! Rules of our own: exception classes called with keywords. -/
noncomputable section
namespace PySem
namespace SipX
open PySem.W PySem.Calls PyProof.Rows PySem.HandSPX
section
variable {M : Model} {A : Around} {E : Value → Shared → Prop} {h : Heap} {g : Array GenState} {d : Drawn} {t : Nat} {os : OsState}
variable {nm q : Str} {C N : Addr} {bs bm bmB : List Value} {hdct : Bool} {sn : List Str} {sub : List Value} {ab : Bool} {col : Option Bool} {dd : Option Addr} {k0 k1 k2 k3 k5 : Option Value} {B newId initId : String}
theorem check_new_kw (F : ExcBaseFacts B newId initId bmB) (hT : ∀ X : String, bm.contains (.type X) = bmB.contains (.type X)) {rest : List Value} {kw : List (Str × Value)} {Q : Unit → Shared → Prop}
    (hC : h.get? C = some (excClassObj nm q C N bs bm hdct sn sub ab col dd k0 k1 k2 k3 k5 newId)) (hq : Q () ⟨h, g, d, t, os⟩) : wpAny M A (checkBuiltinCall newId ⟨.ref C :: rest, kw⟩) Q E ⟨h, g, d, t, os⟩ := by
  have hcont : (Value.ref C :: bm).contains (.type B) = true := by rw [List.contains_cons, hT, F.hasB, Bool.or_true]
  have hstar := F.noStar
  simp only [checkBuiltinCall, F.newKind, F.newSplit, F.newRow]
  repeat (first | refine wpAny_loadPart_at hC ?_ | (refine wpAny_isSubtype_exc hC ?_; rw [hcont]) | refine wpAny_staticBase_exc hC ?_ | refine wpAny_madeBy_exc hC ?_ | simp only [bne_self_eq_false, Bool.false_eq_true, if_false] | wp_step)
  exact hq
end
section
variable {prog : Program} {w : World} {A : Around} {E : Value → Shared → Prop} {R : Result → Shared → Prop} {h : Heap} {g : Array GenState} {d : Drawn} {t : Nat} {os : OsState}
variable {nm q : Str} {C N : Addr} {bs bm bmB : List Value} {hdct : Bool} {sn : List Str} {sub : List Value} {ab : Bool} {col : Option Bool} {dd : Option Addr} {k0 k1 k2 k3 k5 : Option Value} {B newId initId : String}
theorem new_kw (F : ExcBaseFacts B newId initId bmB) (hT : ∀ X : String, bm.contains (.type X) = bmB.contains (.type X)) {rest : List Value} {kw : List (Str × Value)}
    (hC : h.get? C = some (excClassObj nm q C N bs bm hdct sn sub ab col dd k0 k1 k2 k3 k5 newId))
    (hq : R (.ok (.ret (.ref (h.objs.size + 1)))) ⟨(h.push { cls := .type "tuple", data := .seq rest.toArray }).push
      { cls := .ref C, data := .fields #[.ref h.objs.size, .none, .none, .none, .bool false, .none] }, g, d, t, os⟩) (hrest : rest.length ≤ sizeLine) :
    codeAny (model prog w) A (.builtin newId ⟨.ref C :: rest, kw⟩) R ⟨h, g, d, t, os⟩ := by
  have hends := F.ends
  have hcB : (Value.ref C :: bm).contains (.type B) = true := by rw [List.contains_cons, hT, F.hasB, Bool.or_true]
  have hcA : (Value.ref C :: bm).contains (.type "AttributeError") = false := by rw [List.contains_cons, hT, F.noAttr]; rfl
  have hcN : (Value.ref C :: bm).contains (.type "NameError") = false := by rw [List.contains_cons, hT, F.noName]; rfl
  refine codeAny_builtinAt F.entry ?_
  unfold Builtin.«BaseException.__new__»
  refine wpAt_bind ?_
  show wpAt _ _ _ (stack >>= _) _ _ _
  refine wpAt_bind (wpAt_stack fun p below => wpAt_of_wpAny ?_)
  wp_walk
  refine wpAt_of_wpAny ?_
  rw [F.owner]
  repeat (first | with_reducible refine wpAny_madeHere_exc F.canon hC ?_ | with_reducible refine wpAny_loadPart_at hC ?_ | (with_reducible refine wpAny_isSubtype_exc hC ?_; first | rw [hcB] | rw [hcA] | rw [hcN]) | wp_step)
  show R _ _
  rw [Heap.size_push]
  exact hq
theorem type_call_kw (F : ExcBaseFacts B newId initId bmB) (hT : ∀ X : String, bm.contains (.type X) = bmB.contains (.type X)) {rest : List Value} {kw : List (Str × Value)} {fI : Addr} {Q : Fin → Shared → Prop}
    (hC : h.get? C = some (excClassObj nm q C N bs bm hdct sn sub ab col dd k0 k1 k2 k3 k5 newId))
    (hi : W.Looks (model prog w) h (typeLookup (.ref C) "__init__") (some (.ref fI))) (hb : ∀ self, W.Looks (model prog w) h (bindSpecial (.ref fI) self) (.ref fI, [self])) (hrest : rest.length ≤ sizeLine)
    (hq : codeAny (model prog w) A (.call (.ref fI) ⟨.ref (h.objs.size + 1) :: rest, kw⟩)
      (fun r s' => match r with | .ok (.ret v) => v = .none ∧ Q (.done (.ret (.ref (h.objs.size + 1)))) s' | .ok _ => False | .error e => E e s')
      ⟨(h.push (W.kdv_tup rest)).push (excO C h.objs.size), g, d, t, os⟩) :
    wpAny (model prog w) A (Builtin.«type.__call__» ⟨.ref C :: rest, kw⟩) Q E ⟨h, g, d, t, os⟩ := by
  repeat (first | with_reducible refine wpAny_loadPart_at hC ?_ | with_reducible refine wpAny_madeBy_exc hC ?_ | wp_step)
  refine codeAny_call_builtin_code (Code.quiet_builtin _ F.quiet) (check_new_kw F hT hC ?_)
  refine new_kw F hT hC ?_ hrest
  show wpAny _ _ _ _ _ _
  have k : ∀ b o, h.get? b = some o → ((h.push (W.kdv_tup rest)).push (excO C h.objs.size)).get? b = some o := fun b o e => Heap.get?_push_of_some _ (Heap.get?_push_of_some _ e)
  have hC₁ := k _ _ hC
  have hget : ((h.push (W.kdv_tup rest)).push (excO C h.objs.size)).get? (h.objs.size + 1) = some (excO C h.objs.size) := by heap_get
  have hcC : (Value.ref C :: bm).contains (.ref C) = true := by simp
  have i1 := hi.keeps k
  have b1 := (hb (.ref (h.objs.size + 1))).keeps k
  unfold isInstance
  repeat (first | with_reducible refine wpAny_loadPart_at hget ?_ | (with_reducible refine wpAny_isSubtype_exc hC₁ ?_; rw [hcC]) | wp_step)
  show wpAny _ _ (typeLookup (.ref C) _) _ _ _
  refine i1.at ?_
  refine wpAny_holding (wpAny_bind (b1.at ?_))
  refine wpAny_bind (wpAny_call (codeAny_mono hq fun r s' z => ?_))
  rcases r with e | (v | _ | _ | _) <;> first | exact z | exact z.elim | skip
  obtain ⟨rfl, z⟩ := z
  first
    | exact wpAny_pure (wpAny_pure z)
    | (wp_walk; exact z)
theorem call_kw (F : ExcBaseFacts B newId initId bmB) (hT : ∀ X : String, bm.contains (.type X) = bmB.contains (.type X)) {rest : List Value} {kw : List (Str × Value)} {fI : Addr}
    (hC : h.get? C = some (excClassObj nm q C N bs bm hdct sn sub ab col dd k0 k1 k2 k3 k5 newId))
    (hi : W.Looks (model prog w) h (typeLookup (.ref C) "__init__") (some (.ref fI))) (hb : ∀ self, W.Looks (model prog w) h (bindSpecial (.ref fI) self) (.ref fI, [self])) (hrest : rest.length ≤ sizeLine)
    (hq : codeAny (model prog w) (A.under (.builtin "type.__call__" ⟨.ref C :: rest, kw⟩)) (.call (.ref fI) ⟨.ref (h.objs.size + 1) :: rest, kw⟩) (W.InitBack (h.objs.size + 1) R)
      ⟨(h.push (W.kdv_tup rest)).push (excO C h.objs.size), g, d, t, os⟩) :
    codeAny (model prog w) A (.call (.ref C) ⟨rest, kw⟩) R ⟨h, g, d, t, os⟩ := by
  have f1 := tc_lookup
  have f2 := tc_bind (.ref C)
  have hTy : (⟨h, g, d, t, os⟩ : Shared).TypeIs (.ref C) "type" := ⟨_, hC, rfl⟩
  have hTL : W.Looks (model prog w) h (isInstance (.ref C) (.type "type")) true := by
    have h1 : W.Looks (model prog w) h (typeOf (.ref C)) (.type "type") := fun A Q E s k q => wpAny_typeOf_ref (k _ _ hC) q
    refine h1.andThen ?_
    rw [tc_sub]
    exact .now
  refine codeAny_of_tree ?_
  show wpAny _ _ (callAny (.ref C) _) _ _ _
  repeat (any_goals (first | assumption | with_reducible refine wpAny_loadPart_at hC ?_ | wp_step))
  refine ⟨rfl, ?_⟩
  refine codeAny_call_builtin_at (Code.quiet_builtin _ (by decide +kernel)) entry_typeCall (W.check_slot tc_kind tc_split hTL (W.tc_args _ _ _) (type_call_kw F hT hC hi hb hrest ?_))
  refine codeAny_mono hq fun r s' z => ?_
  rcases r with e | (v | _ | _ | _) <;> exact z
end
end SipX
end PySem

set_option Elab.async false
set_option linter.all false
set_option maxRecDepth 100000
set_option maxHeartbeats 4000000
noncomputable section
namespace SipX
open PySem PySem.Spec PyProof.Rows L2 HotX L2H
/-- what the making of an exception by its own __init__ wishes of the def's promise -/
def exQ (C a : Addr) (H2 : Hp) (Q : XK) : VK := fun v H3 => v = .non ∧ ∃ (d : Addr) (fs : List (Str × V)), H3 a = some (exo a C (some d)) ∧ H3 d = some (exd d fs) ∧ H2 d = none ∧ Q (.ref C) (some d) (upd (del H3 a) d (.xd fs))
abbrev X0 : XK := fun _ _ _ => False
section
variable {X : Cx} {CX : CXT} {C fI : Addr} {k : Nat} {fd : FuncData} {ps : List Str} {sp : Sp}
/-- the call of the class: calm -/
theorem core_kw (T : OexC X.K C) (iC : PySem.W.findIn X.K (.ref C) "__init__" = some (some (.ref fI))) (tI : PySem.W.typeIn X.K (.ref fI) = some (.type "function"))
    (F1 : FnOk X.prog X.w X.K X.mg X.base CX k fI fd ps sp) (hr : Room (k + 1) X.A) (hx : Passes CX X X0) {pins : List (Addr × Obj)} {σ : L2.St} {H1 : Hp} {s1 : Shared} {Q : XK} {us : List Value} {kw : List (Str × Value)} {vals : Addr → List Value} {vv : Addr → List V}
    (I1 : Inv X pins σ H1 s1) (hus : us.length ≤ sizeLine) (hbt : ∀ (s : Shared) (a : Addr), X.K.In s.heap → BindsTo s fd ⟨.ref a :: us, kw⟩ (ps.zip (vals a))) (hr2 : ∀ a, Vals (vv a) (vals a))
    (q1 : ∀ a, H1 a = none → sp (vv a) (upd H1 a (exo a C none)) (exQ C a H1 Q) X0) :
    wpAny (model X.prog X.w) X.A (call (.ref C) us kw) (fun u s' => L2N.MkP X pins σ Q u s' ∧ Six u s') X.xe s1 := by
  obtain ⟨nm, q, N, bs, bm, sn, sub, ab, col, dd, k0, k1, k2, k3, k5, hC, hbm⟩ := T.cls
  obtain ⟨hp, g, dr, tk, os⟩ := s1
  have hsz : hp.objs.size ≤ hp.objs.size + 1 := Nat.le_succ _
  have hn : H1 (hp.objs.size + 1) = none := I1.hok.fresh hsz
  have hq := q1 (hp.objs.size + 1) hn
  have kk : ∀ b o, hp.get? b = some o → ((hp.push (PySem.W.kdv_tup us)).push (PySem.HandSPX.excO C hp.objs.size)).get? b = some o := fun b o e => Heap.get?_push_of_some _ (Heap.get?_push_of_some _ e)
  have hget : ((hp.push (PySem.W.kdv_tup us)).push (PySem.HandSPX.excO C hp.objs.size)).get? (hp.objs.size + 1) = some (PySem.HandSPX.excO C hp.objs.size) := by heap_get
  have I2 : Inv X pins σ (upd H1 (hp.objs.size + 1) (exo (hp.objs.size + 1) C none)) ⟨(hp.push (PySem.W.kdv_tup us)).push (PySem.HandSPX.excO C hp.objs.size), g, dr, tk, os⟩ :=
    I1.laid (t' := tk) (a := hp.objs.size + 1) (o := exo (hp.objs.size + 1) C none) (h' := (hp.push (PySem.W.kdv_tup us)).push (PySem.HandSPX.excO C hp.objs.size)) kk hsz (exo_ok hget)
  refine wpAny_call (PySem.SipX.call_kw F.excBase_ValueError (fun Y => PySem.HandSPX.refsVE_contains Y bm hbm) (I1.kIn _ _ hC) (PySem.W.looks_findIn I1.kIn iC) (fun self => PySem.W.bind_fn I1.kIn self tI) hus
    (codeAny_mono (F1.run _ X.stack _ _ ⟨Value.ref (hp.objs.size + 1) :: us, kw⟩ (vals (hp.objs.size + 1)) _ _ X0 (hr.make C us kw) (I2.env0.make C us kw) (hbt _ (hp.objs.size + 1) I2.kIn) (hr2 _) hq) fun r s' hq' => ?_))
  cases r with
  | error er => exact hx pins σ _ _ er s' I2 hq'
  | ok fl =>
    cases fl with
    | ret u =>
      obtain ⟨v, H2, os2, bare2, un2, hok2, rv, ev, d, fs, ea, ed, hd1, q2⟩ := hq'
      subst ev
      obtain ⟨h2, g2, d2, t2, os'⟩ := s'
      obtain ⟨t0, G, J, kG, ge, hoe, na⟩ := mk_end0 (d2 := d2) (t2 := t2) I1 hsz kk un2 hok2 os2 bare2 ea ed hd1
      refine ⟨rv, ⟨hp.objs.size + 1, _, _, ⟨G, g2, d2, t2, os'⟩, _, .ref C, some d, rfl, J, kG, ge, hoe, ⟨rfl, rfl, fun vs hv => ?_⟩, rfl, rfl, na, rfl, bare2, raises_own T.exC T.tyC, q2⟩, fun a oe vs ea2 hg2 hd2 => ?_⟩
      · cases hv
        rfl
      · cases ea2
        have hg3 : h2.get? (hp.objs.size + 1) = some oe := hg2
        rw [hoe] at hg3
        cases hg3
        cases hd2
        show (4 : Nat) < 6
        decide
    | next => exact False.elim hq'
    | brk => exact False.elim hq'
    | cont => exact False.elim hq'
/-- the same while an exception is handled -/
theorem core_kwH (T : OexC X.K C) (iC : PySem.W.findIn X.K (.ref C) "__init__" = some (some (.ref fI))) (tI : PySem.W.typeIn X.K (.ref fI) = some (.type "function"))
    (F1 : FnH X.prog X.w X.K X.mg X.base CX k fI fd ps sp) (hr : RoomH (k + 1) X.A) (hc : HotC X) (hx : Passes CX X X0) {pins : List (Addr × Obj)} {σ : L2.St} {H1 : Hp} {s1 : Shared} {Q : XK} {us : List Value} {kw : List (Str × Value)} {vals : Addr → List Value} {vv : Addr → List V}
    (I1 : Inv X pins σ H1 s1) (hus : us.length ≤ sizeLine) (hbt : ∀ (s : Shared) (a : Addr), X.K.In s.heap → BindsTo s fd ⟨.ref a :: us, kw⟩ (ps.zip (vals a))) (hr2 : ∀ a, Vals (vv a) (vals a))
    (q1 : ∀ a, H1 a = none → sp (vv a) (upd H1 a (exo a C none)) (exQ C a H1 Q) X0) :
    wpAny (model X.prog X.w) X.A (call (.ref C) us kw) (fun u s' => L2N.MkP X pins σ Q u s' ∧ Six u s') X.xe s1 := by
  obtain ⟨nm, q, N, bs, bm, sn, sub, ab, col, dd, k0, k1, k2, k3, k5, hC, hbm⟩ := T.cls
  obtain ⟨pn, hot, hpn⟩ := hc
  obtain ⟨hp, g, dr, tk, os⟩ := s1
  have hsz : hp.objs.size ≤ hp.objs.size + 1 := Nat.le_succ _
  have hn : H1 (hp.objs.size + 1) = none := I1.hok.fresh hsz
  have hq := q1 (hp.objs.size + 1) hn
  have kk : ∀ b o, hp.get? b = some o → ((hp.push (PySem.W.kdv_tup us)).push (PySem.HandSPX.excO C hp.objs.size)).get? b = some o := fun b o e => Heap.get?_push_of_some _ (Heap.get?_push_of_some _ e)
  have hget : ((hp.push (PySem.W.kdv_tup us)).push (PySem.HandSPX.excO C hp.objs.size)).get? (hp.objs.size + 1) = some (PySem.HandSPX.excO C hp.objs.size) := by heap_get
  have I2 : Inv X pins σ (upd H1 (hp.objs.size + 1) (exo (hp.objs.size + 1) C none)) ⟨(hp.push (PySem.W.kdv_tup us)).push (PySem.HandSPX.excO C hp.objs.size), g, dr, tk, os⟩ :=
    I1.laid (t' := tk) (a := hp.objs.size + 1) (o := exo (hp.objs.size + 1) C none) (h' := (hp.push (PySem.W.kdv_tup us)).push (PySem.HandSPX.excO C hp.objs.size)) kk hsz (exo_ok hget)
  have P1 := I2.pin pn (List.mem_append_left _ hpn)
  have hpin : PinOk X.stack (upd H1 (hp.objs.size + 1) (exo (hp.objs.size + 1) C none)) ⟨(hp.push (PySem.W.kdv_tup us)).push (PySem.HandSPX.excO C hp.objs.size), g, dr, tk, os⟩ pn :=
    ⟨P1.1, P1.2.1, fun hmm => (List.mem_cons.mp (I2.stkSub pn.1 hmm)).elim P1.2.2.1 P1.2.2.2.1, P1.2.2.2.2⟩
  refine wpAny_call (PySem.SipX.call_kw F.excBase_ValueError (fun Y => PySem.HandSPX.refsVE_contains Y bm hbm) (I1.kIn _ _ hC) (PySem.W.looks_findIn I1.kIn iC) (fun self => PySem.W.bind_fn I1.kIn self tI) hus
    (codeAny_mono (F1.run _ X.stack _ _ ⟨Value.ref (hp.objs.size + 1) :: us, kw⟩ (vals (hp.objs.size + 1)) _ _ X0 pn (RoomH.make hr C us kw) ⟨hot.1, hot.2⟩ hpin (I2.env0.make C us kw) (hbt _ (hp.objs.size + 1) I2.kIn) (hr2 _) hq) fun r s' hq' => ?_))
  cases r with
  | error er => exact hx pins σ _ _ er s' I2 hq'
  | ok fl =>
    cases fl with
    | ret u =>
      obtain ⟨v, H2, os2, bare2, un2, hok2, rv, ev, d, fs, ea, ed, hd1, q2⟩ := hq'
      subst ev
      obtain ⟨h2, g2, d2, t2, os'⟩ := s'
      obtain ⟨t0, G, J, kG, ge, hoe, na⟩ := mk_end0 (d2 := d2) (t2 := t2) I1 hsz kk un2 hok2 os2 bare2 ea ed hd1
      refine ⟨rv, ⟨hp.objs.size + 1, _, _, ⟨G, g2, d2, t2, os'⟩, _, .ref C, some d, rfl, J, kG, ge, hoe, ⟨rfl, rfl, fun vs hv => ?_⟩, rfl, rfl, na, rfl, bare2, raises_own T.exC T.tyC, q2⟩, fun a oe vs ea2 hg2 hd2 => ?_⟩
      · cases hv
        rfl
      · cases ea2
        have hg3 : h2.get? (hp.objs.size + 1) = some oe := hg2
        rw [hoe] at hg3
        cases hg3
        cases hd2
        show (4 : Nat) < 6
        decide
    | next => exact False.elim hq'
    | brk => exact False.elim hq'
    | cont => exact False.elim hq'
end
end SipX

set_option Elab.async false
set_option linter.all false
set_option maxRecDepth 100000
set_option maxHeartbeats 4000000
noncomputable section
namespace SipX
open PySem PySem.Spec PyProof.Rows L2 HotX L2H
/-- C(e, .., k = v, ..), C's own __init__ keeping sp -/
def tMkK (C : Addr) (n m : Nat) (sp : Sp) (gV : List V → List V → List V) (t tk : TA) : L2.St → Hp → XK → Prop := fun σ H Q => t σ H fun vs H1 => tk σ H1 fun zs H2 => vs.length = n ∧ zs.length = m ∧ ∀ a, H2 a = none →
  sp (gV (.ref a :: vs) zs) (upd H2 a (exo a C none)) (exQ C a H2 Q) X0
def tMkP (C : Addr) (sp : Sp) (dvs : List V) (t : TA) : L2.St → Hp → XK → Prop := fun σ H Q => t σ H fun vs H1 => vs.length ≤ 1000 ∧ ∀ a, H1 a = none →
  sp (.ref a :: (vs ++ dvs)) (upd H1 a (exo a C none)) (exQ C a H1 Q) X0
section
variable {X : Cx} {CX : CXT} {C fI : Addr} {k n : Nat} {fd : FuncData} {ps ks : List Str} {sp : Sp} {x : Str} {p pos : Pos} {e : Expr} {es : List Expr} {kws : List Keyword} {t tk : TA} {g : List Value → List Value → List Value} {gV : List V → List V → List V} {dvs : List V} {ds : List Value}
theorem pmk_kw (T : OexC X.K C) (iC : PySem.W.findIn X.K (.ref C) "__init__" = some (some (.ref fI))) (tI : PySem.W.typeIn X.K (.ref fI) = some (.type "function"))
    (F1 : FnOk X.prog X.w X.K X.mg X.base CX k fI fd ps sp) (hr : Room (k + 1) X.A) (hb : KBn X.K fd ps (n + 1) ks g gV) (hn : n ≤ 1000) (hx : Passes CX X X0) (hg : Gl X x) (hm : X.mg x = some (.ref C)) (ha : PA X (e :: es) t) (hkw : PK X kws tk)
    (hall : (backToKw pos (keywordEach kws X.env)).all (·.1.isSome) = true := by rfl) (hks : (backToKw pos (keywordEach kws X.env)).filterMap (·.1) = ks := by rfl) (hdb : (x == ("__debug__" : Str)) = false := by decide)
    (he : starEach (e :: es) X.env = (false, eval e X.env) :: starEach es X.env := by rfl) (hpl : ((backTo pos (starEach (e :: es) X.env)).any (·.1) || (backToKw pos (keywordEach kws X.env)).any (·.1.isNone)) = false := by rfl) :
    PMk5 X (.Call (.Name x p) (e :: es) kws pos) (tMkK C n ks.length sp gV t tk) := by
  intro pins s σ H Q I h
  refine wpAny_Call_Name_kw (ld_glob I hg hm ?_ hdb)
  refine PySem.W.callWith_KW (h₀ := X.base) I.ok.mod.kin T.kC hall (thn (ha.run pos pins s σ H _ I h) fun us s1 ⟨vs, H1, I1, r, q⟩ => ?_) hpl he
  refine thn (hkw.run pos pins s1 σ H1 _ I1 q) fun ws s2 ⟨zs, H2, I2, rz, l1, l2, q2⟩ => ⟨I2.kIn, ?_⟩
  rw [hks]
  have lus : us.length = n := r.length.symm.trans l1
  exact core_kw (us := us) (kw := ks.zip ws) (vals := fun a => g (.ref a :: us) ws) (vv := fun a => gV (.ref a :: vs) zs) T iC tI F1 hr hx I2 (Nat.le_trans (Nat.le_of_eq lus) (Nat.le_trans hn (by decide)))
    (fun s a X1 => hb.to s (.ref a :: us) ws X1 (by rw [List.length_cons, lus]) (rz.length.symm.trans l2)) (fun a => hb.rel (.cons rfl r) rz) q2
theorem pmk_kw0 (T : OexC X.K C) (iC : PySem.W.findIn X.K (.ref C) "__init__" = some (some (.ref fI))) (tI : PySem.W.typeIn X.K (.ref fI) = some (.type "function"))
    (F1 : FnOk X.prog X.w X.K X.mg X.base CX k fI fd ps sp) (hr : Room (k + 1) X.A) (hb : KBn X.K fd ps 1 ks g gV) (hx : Passes CX X X0) (hg : Gl X x) (hm : X.mg x = some (.ref C)) (hkw : PK X kws tk)
    (hall : (backToKw pos (keywordEach kws X.env)).all (·.1.isSome) = true := by rfl) (hks : (backToKw pos (keywordEach kws X.env)).filterMap (·.1) = ks := by rfl) (hdb : (x == ("__debug__" : Str)) = false := by decide)
    (hpl : ((backTo pos (starEach [] X.env)).any (·.1) || (backToKw pos (keywordEach kws X.env)).any (·.1.isNone)) = false := by rfl) :
    PMk5 X (.Call (.Name x p) [] kws pos) (tMkK C 0 ks.length sp gV tNil tk) := by
  intro pins s σ H Q I h
  refine wpAny_Call_Name_kw (ld_glob I hg hm ?_ hdb)
  refine PySem.W.callWith_KW0 (h₀ := X.base) I.ok.mod.kin T.kC hall ?_ hpl
  refine thn (hkw.run pos pins s σ H _ I h) fun ws s2 ⟨zs, H2, I2, rz, l1, l2, q2⟩ => ⟨I2.kIn, ?_⟩
  rw [hks]
  exact core_kw (us := []) (kw := ks.zip ws) (vals := fun a => g [.ref a] ws) (vv := fun a => gV [.ref a] zs) T iC tI F1 hr hx I2 (Nat.zero_le _)
    (fun s a X1 => hb.to s [.ref a] ws X1 rfl (rz.length.symm.trans l2)) (fun a => hb.rel (.cons rfl .nil) rz) q2
theorem pmk_pos (T : OexC X.K C) (iC : PySem.W.findIn X.K (.ref C) "__init__" = some (some (.ref fI))) (tI : PySem.W.typeIn X.K (.ref fI) = some (.type "function"))
    (F1 : FnOk X.prog X.w X.K X.mg X.base CX k fI fd ps sp) (hr : Room (k + 1) X.A) (hb : Binds X.K fd ps ds) (hd : Vals dvs ds) (hx : Passes CX X X0) (hg : Gl X x) (hm : X.mg x = some (.ref C)) (ha : PA X (e :: es) t) (hz : (e :: es).length + 1 + dvs.length = ps.length) (hz1 : (e :: es).length ≤ sizeLine)
    (hdb : (x == ("__debug__" : Str)) = false := by decide) (he : starEach (e :: es) X.env = (false, eval e X.env) :: starEach es X.env := by rfl) (hpl : (backTo pos (starEach es X.env)).any (·.1) = false := by rfl) :
    PMk5 X (.Call (.Name x p) (e :: es) [] pos) (fun σ H Q => t σ H fun vs H1 => vs.length = (e :: es).length ∧ ∀ a, H1 a = none → sp (.ref a :: (vs ++ dvs)) (upd H1 a (exo a C none)) (exQ C a H1 Q) X0) := by
  intro pins s σ H Q I h
  refine wpAny_Call_Name_kw (ld_glob I hg hm ?_ hdb)
  refine PySem.W.callWith_K (h₀ := X.base) I.ok.mod.kin T.kC (thn (ha.run pos pins s σ H _ I h) fun us s1 ⟨vs, H1, I1, r1, l1, q1⟩ => ⟨I1.kIn, ?_⟩) he hpl
  have lus : us.length = (e :: es).length := r1.length.symm.trans l1
  have lds : ds.length = dvs.length := hd.length.symm
  exact core_kw (us := us) (kw := []) (vals := fun a => .ref a :: (us ++ ds)) (vv := fun a => .ref a :: (vs ++ dvs)) T iC tI F1 hr hx I1 (by rw [lus]; exact hz1)
    (fun s a X1 => hb s (.ref a :: us) X1 (by rw [List.length_append, List.length_cons, lus, lds]; exact hz)) (fun a => .cons rfl (r1.append hd)) q1
theorem pmk_none (T : OexC X.K C) (iC : PySem.W.findIn X.K (.ref C) "__init__" = some (some (.ref fI))) (tI : PySem.W.typeIn X.K (.ref fI) = some (.type "function"))
    (F1 : FnOk X.prog X.w X.K X.mg X.base CX k fI fd ps sp) (hr : Room (k + 1) X.A) (hb : Binds X.K fd ps ds) (hd : Vals dvs ds) (hx : Passes CX X X0) (hg : Gl X x) (hm : X.mg x = some (.ref C)) (hz : 1 + dvs.length = ps.length)
    (hdb : (x == ("__debug__" : Str)) = false := by decide) :
    PMk5 X (.Call (.Name x p) [] [] pos) (fun _ H Q => ∀ a, H a = none → sp (.ref a :: dvs) (upd H a (exo a C none)) (exQ C a H Q) X0) := by
  intro pins s σ H Q I h
  refine wpAny_Call_Name_kw (ld_glob I hg hm ?_ hdb)
  have lds : ds.length = dvs.length := hd.length.symm
  exact PySem.W.callWith_K0 I.kIn T.kC (core_kw (us := []) (kw := []) (vals := fun a => .ref a :: ds) (vv := fun a => .ref a :: dvs) T iC tI F1 hr hx I (Nat.zero_le _)
    (fun s a X1 => hb s [.ref a] X1 (by rw [List.length_append, List.length_singleton, lds]; exact hz)) (fun a => .cons rfl hd) h)
/-- the same with keywords, while an exception is handled -/
theorem pmk_kwH (T : OexC X.K C) (iC : PySem.W.findIn X.K (.ref C) "__init__" = some (some (.ref fI))) (tI : PySem.W.typeIn X.K (.ref fI) = some (.type "function"))
    (F1 : FnH X.prog X.w X.K X.mg X.base CX k fI fd ps sp) (hr : RoomH (k + 1) X.A) (hc : HotC X) (hb : KBn X.K fd ps (n + 1) ks g gV) (hn : n ≤ 1000) (hx : Passes CX X X0) (hg : Gl X x) (hm : X.mg x = some (.ref C)) (ha : PA X (e :: es) t) (hkw : PK X kws tk)
    (hall : (backToKw pos (keywordEach kws X.env)).all (·.1.isSome) = true := by rfl) (hks : (backToKw pos (keywordEach kws X.env)).filterMap (·.1) = ks := by rfl) (hdb : (x == ("__debug__" : Str)) = false := by decide)
    (he : starEach (e :: es) X.env = (false, eval e X.env) :: starEach es X.env := by rfl) (hpl : ((backTo pos (starEach (e :: es) X.env)).any (·.1) || (backToKw pos (keywordEach kws X.env)).any (·.1.isNone)) = false := by rfl) :
    PMk5 X (.Call (.Name x p) (e :: es) kws pos) (tMkK C n ks.length sp gV t tk) := by
  intro pins s σ H Q I h
  refine wpAny_Call_Name_kw (ld_glob I hg hm ?_ hdb)
  refine PySem.W.callWith_KW (h₀ := X.base) I.ok.mod.kin T.kC hall (thn (ha.run pos pins s σ H _ I h) fun us s1 ⟨vs, H1, I1, r, q⟩ => ?_) hpl he
  refine thn (hkw.run pos pins s1 σ H1 _ I1 q) fun ws s2 ⟨zs, H2, I2, rz, l1, l2, q2⟩ => ⟨I2.kIn, ?_⟩
  rw [hks]
  have lus : us.length = n := r.length.symm.trans l1
  exact core_kwH (us := us) (kw := ks.zip ws) (vals := fun a => g (.ref a :: us) ws) (vv := fun a => gV (.ref a :: vs) zs) T iC tI F1 hr hc hx I2 (Nat.le_trans (Nat.le_of_eq lus) (Nat.le_trans hn (by decide)))
    (fun s a X1 => hb.to s (.ref a :: us) ws X1 (by rw [List.length_cons, lus]) (rz.length.symm.trans l2)) (fun a => hb.rel (.cons rfl r) rz) q2
theorem PMk5.calm {e : Expr} {t : L2.St → Hp → XK → Prop} (h : PMk5 X e t) : L2.PMk X e t := fun pins s σ H Q I q => thn (h pins s σ H Q I q) fun u s' x => by
  obtain ⟨⟨a, oe, vs, sI, H', cls, d, e1, J, k, hne, ha, hz, r⟩, _⟩ := x
  exact ⟨a, oe, vs, sI, H', cls, d, e1, J, k, hne, ha, hz.zc, r⟩
end
/-! ### what leaves with no context leaves -/
theorem cxn_cx {P : Program} {w : World} {outer : List Env} {H : Hp} {s : Shared} {E : XK} {u : Value} {s' : Shared} (c : L2N.CX P w outer H s E u s') : L2.CX P w outer H s E u s' := by
  obtain ⟨a, B, H', cls, d, e, fl, r⟩ := c
  exact ⟨a, B, H', cls, d, e, flyingZ_imp (fun _ z => z.zc) fl, r⟩
section
variable {X : Cx} {W : WX} {E : XK}
theorem xen_xe {u : Value} {s' : Shared} (x : L2N.XE X W u s') : L2.XE X W u s' := by
  obtain ⟨a, B, sI, pins, σ, H, cls, d, e, I, nb, up, sky, r⟩ := x
  refine ⟨a, B, sI, pins, σ, H, cls, d, e, I, nb, up, ?_, r⟩
  rcases sky with ⟨hB, hn, hl, oe, vs, he, hz, z⟩ | fl | ⟨k1, k2, k3, tr⟩
  · exact .inl ⟨hB, hn, hl, oe, vs, he, hz.zc, z⟩
  · exact .inr (.inl (flyingZ_imp (fun _ z => z.zc) fl))
  · exact .inr (.inr ⟨k1, k2, k3, tracedZ_imp (fun _ z => z.zc) tr⟩)
theorem takes_n (tk : L2.Takes X W) : L2N.Takes X W := fun u s' x => tk u s' (xen_xe x)
/-- a call whose exception has no context, the wish L2's -/
theorem passAtN (tk : L2.Takes X W) (σ : L2.St) : PassesAt (L2N.CX X.prog X.w) X σ (L2.WE W σ) := L2N.passAt (takes_n tk) σ
theorem passN_call (tk : L2.Takes X W) (hW : ∀ cls d σ H, E cls d H → W cls d σ H) : Passes (L2N.CX X.prog X.w) X E := fun pins σ H s e s' I c => L2.passes_call tk hW pins σ H s e s' I (cxn_cx c)
end
end SipX

set_option Elab.async false
set_option linter.all false
set_option maxRecDepth 100000
set_option maxHeartbeats 4000000
noncomputable section
namespace SipX
open PySem PySem.Spec PyProof.Rows L2 HotX L2H
/-! ### raise X(..) from e, in an except suite -/
def causeFrom (cv : Value) (h : Heap) (a : Addr) : Heap := (h.update a (Obj.mapFields (·.setIfInBounds 3 cv))).update a (Obj.mapFields (·.setIfInBounds 4 (.bool true)))
theorem causeFrom_at {cv : Value} {h : Heap} {a : Addr} {oe : Obj} {vs : Array Value} (ha : h.get? a = some oe) (hd : oe.data = .fields vs) :
    (causeFrom cv h a).get? a = some ((oe.mapFields (·.setIfInBounds 3 cv)).mapFields (·.setIfInBounds 4 (.bool true))) ∧ ((oe.mapFields (·.setIfInBounds 3 cv)).mapFields (·.setIfInBounds 4 (.bool true))).data = .fields ((vs.setIfInBounds 3 cv).setIfInBounds 4 (.bool true)) := by
  have hd3 := Obj.data_mapFields hd (·.setIfInBounds 3 cv)
  have ha3 := Heap.get?_update_self (Obj.mapFields (·.setIfInBounds 3 cv)) ha (Obj.isFreed_of_fields hd3)
  have hd4 := Obj.data_mapFields hd3 (·.setIfInBounds 4 (.bool true))
  exact ⟨Heap.get?_update_self (Obj.mapFields (·.setIfInBounds 4 (.bool true))) ha3 (Obj.isFreed_of_fields hd4), hd4⟩
theorem causeFrom_other {cv : Value} {h : Heap} {a b : Addr} (hne : a ≠ b) : (causeFrom cv h a).get? b = h.get? b := by
  unfold causeFrom
  rw [Heap.get?_update_other _ _ hne, Heap.get?_update_other _ _ hne]
theorem raise_made_hotF {prog : Program} {w : World} {A : Around} {E : Value → Shared → Prop} {env : Env} {s : Shared} {x c : Sem Value} {Q : Flow → Shared → Prop} {x1 b : Addr} {J : Shared → Prop}
    (hcs : ∀ (s : Shared) (Q' : Value → Shared → Prop), J s → Q' (.ref b) s → wpAny (model prog w) A c Q' E s)
    (h : wpAny (model prog w) A x (fun v s₁ => ∃ a oe vs cls, v = .ref a ∧ s₁.heap.get? a = some oe ∧ oe.cls = cls ∧ oe.data = .fields vs ∧ vs[1]? = some .none ∧ 4 < vs.size ∧ x1 ≠ a ∧ HotAt A x1 s₁.heap ∧ J s₁ ∧ (∃ ob vb clb, s₁.heap.get? b = some ob ∧ ob.cls = clb ∧ ob.data = .fields vb ∧ PySem.W.Looks (model prog w) s₁.heap (isSubtype clb (.type "BaseException")) true) ∧
      PySem.W.Looks (model prog w) s₁.heap (isSubtype cls (.type "BaseException")) true ∧ PySem.W.Looks (model prog w) (causeFrom (.ref b) s₁.heap a) (typeOf cls) (.type "type") ∧
      E (.ref a) { s₁ with heap := (causeFrom (.ref b) s₁.heap a).update a (Obj.mapFields (·.setIfInBounds 2 (.ref x1))) }) E s) :
    wpAny (model prog w) A (raiseStmt env (some x) (some c)) Q E s := by
  unfold raiseStmt
  dsimp only
  refine wpAny_bind (wpAny_mono h (fun v s₁ h₁ => ?_) fun _ _ x => x)
  obtain ⟨a, oe, vs, cls, rfl, ha, hcls, hd, h1, hi, hne, hot, hJ, ⟨ob, vb, clb, hb0, hclb, hdb, LB⟩, L1, L3, hE⟩ := h₁
  have LTb : PySem.W.Looks (model prog w) s₁.heap (typeOf (.ref b)) clb := fun A Q E s k q => wpAny_typeOf_ref (k _ _ hb0) (by rw [hclb]; exact q)
  have LIb : PySem.W.Looks (model prog w) s₁.heap (isInstance (.ref b) (.type "BaseException")) true := LTb.andThen LB
  have hntb : ∀ {Q' : Bool → Shared → Prop}, Q' false s₁ → wpAny (model prog w) A (isType (.ref b)) Q' E s₁ := by
    intro Q' hq
    simp only [isType, loadHead]
    refine wpAny_bind (wpAny_loadPart hb0 ?_)
    rw [hdb]; exact wpAny_pure hq
  have LT : PySem.W.Looks (model prog w) s₁.heap (typeOf (.ref a)) cls := fun A Q E s k q => wpAny_typeOf_ref (k _ _ ha) (by rw [hcls]; exact q)
  have LI : PySem.W.Looks (model prog w) s₁.heap (isInstance (.ref a) (.type "BaseException")) true := LT.andThen L1
  have hnt : ∀ {Q' : Bool → Shared → Prop}, Q' false s₁ → wpAny (model prog w) A (isType (.ref a)) Q' E s₁ := by
    intro Q' hq
    simp only [isType, loadHead]
    refine wpAny_bind (wpAny_loadPart ha ?_)
    rw [hd]; exact wpAny_pure hq
  have hd3 := Obj.data_mapFields hd (·.setIfInBounds 3 (.ref b))
  have ha3 := Heap.get?_update_self (Obj.mapFields (·.setIfInBounds 3 (.ref b))) ha (Obj.isFreed_of_fields hd3)
  obtain ⟨ha4, hd4⟩ := causeFrom_at ha hd
  have s3 : 3 < vs.size := by omega
  have s4 : 4 < (vs.setIfInBounds 3 (Value.ref b)).size := by rw [set_size]; exact hi
  have s2 : 2 < ((vs.setIfInBounds 3 (Value.ref b)).setIfInBounds 4 (Value.bool true)).size := by rw [set_size, set_size]; omega
  have h14 : ((vs.setIfInBounds 3 (Value.ref b)).setIfInBounds 4 (Value.bool true))[1]? = some Value.none := set_other (by decide) (set_other (by decide) h1)
  have hcls4 : ((oe.mapFields (·.setIfInBounds 3 (.ref b))).mapFields (·.setIfInBounds 4 (.bool true))).cls = cls := by rw [Obj.cls_mapFields, Obj.cls_mapFields]; exact hcls
  have LT4 : PySem.W.Looks (model prog w) (causeFrom (.ref b) s₁.heap a) (typeOf (.ref a)) cls := fun A Q E s k q => wpAny_typeOf_ref (k _ _ ha4) (by rw [hcls4]; exact q)
  have hnt4 : ∀ {Q' : Bool → Shared → Prop}, Q' false { s₁ with heap := causeFrom (.ref b) s₁.heap a } → wpAny (model prog w) A (isType (.ref a)) Q' E { s₁ with heap := causeFrom (.ref b) s₁.heap a } := by
    intro Q' hq
    simp only [isType, loadHead]
    refine wpAny_bind (wpAny_loadPart ha4 ?_)
    rw [hd4]; exact wpAny_pure hq
  have hot4 : HotAt A x1 (causeFrom (.ref b) s₁.heap a) := by
    obtain ⟨q1, o, vs', q2, q3, q4⟩ := hot
    exact ⟨q1, o, vs', by rw [causeFrom_other (Ne.symm hne)]; exact q2, q3, q4⟩
  -- what stands behind the two stores
  have rest : wpAny (model prog w) A (do
      let b ← isType (.ref a)
      if b = true then do
        let e ← holding [.ref a] (raisedFor (.ref a) (.ref a))
        setFlight e none
        raiseNew e
      else do
        let e ← raisedInstance (.ref a)
        setFlight e none
        raiseNew e : Sem Flow) Q E { s₁ with heap := causeFrom (.ref b) s₁.heap a } := by
    refine wpAny_bind (hnt4 ?_)
    simp only [Bool.false_eq_true, if_false]
    unfold raisedInstance
    refine wpAny_bind (wpAny_bind (LT4.here (wpAny_bind (L3.here ?_))))
    rw [if_pos (beq_self_eq_true _)]
    refine wpAny_pure ?_
    unfold setFlight
    refine wpAny_bind (wpAny_bind (wpAny_field ha4 hd4 h14 ?_))
    rw [if_neg (by decide)]
    refine wpAny_pure ?_
    exact raiseNew_hot hot4 hne ha4 hd4 s2 hE
  refine wpAny_bind (wpAny_holding (hcs _ _ hJ (wpAny_bind (wpAny_pure ?_))))
  dsimp only
  have exA : ∀ {Q' : Value → Shared → Prop} (m : String), Q' (.ref a) s₁ → wpAny (model prog w) A (excFromValue (.ref a) m) Q' E s₁ := fun {Q'} m hq => by
    unfold excFromValue isExcClass
    refine wpAny_bind (wpAny_bind (hnt ?_))
    simp only [Bool.false_eq_true, if_false]
    refine wpAny_pure ?_
    simp only [Bool.false_eq_true, if_false]
    refine wpAny_bind (LI.here ?_)
    simp only [if_true]
    exact wpAny_pure hq
  have exB : ∀ {Q' : Value → Shared → Prop} (m : String), Q' (.ref b) s₁ → wpAny (model prog w) A (excFromValue (.ref b) m) Q' E s₁ := fun {Q'} m hq => by
    unfold excFromValue isExcClass
    refine wpAny_bind (wpAny_bind (hntb ?_))
    simp only [Bool.false_eq_true, if_false]
    refine wpAny_pure ?_
    simp only [Bool.false_eq_true, if_false]
    refine wpAny_bind (LIb.here ?_)
    simp only [if_true]
    exact wpAny_pure hq
  refine wpAny_bind (wpAny_holding (exA _ ?_))
  have hbn : (Value.ref b == Value.none) = false := rfl
  simp only [hbn, Bool.false_eq_true, if_false]
  refine wpAny_bind (wpAny_holding (exB _ ?_))
  refine wpAny_bind (wpAny_setField ha hd s3 (wpAny_bind (wpAny_setField ha3 hd3 s4 ?_)))
  exact rest

/-- raise X(..) from n, n the name of the exception that is handled -/
theorem ps_raiseFrom {Y : Cx} {a0 : Addr} {oe0 : Obj} {cls0 : Value} {d0 : Option Addr} {pn : List (Addr × Obj)} {W : WX} {e : Expr} {t : L2.St → Hp → XK → Prop} {i : Nat} {x : Str} {cpos pos : Pos} (hN : Y.N[i]? = some x) (hv : Y.env.kindOf x = some .local)
    (hz0 : L2N.Zn cls0 d0 oe0) (hf0 : ∃ vs, oe0.data = .fields vs) (hd : (x == ("__debug__" : Str)) = false := by decide) (hcd : (x == ("__classdict__" : Str)) = false := by decide)
    (hc : HotC (suiteX Y a0 ((a0, oe0) :: pn))) (tk : L2.Takes (suiteX Y a0 ((a0, oe0) :: pn)) W) (he : PMk5 (suiteX Y a0 ((a0, oe0) :: pn)) e t) :
    PS (suiteX Y a0 ((a0, oe0) :: pn)) (.Raise (some e) (some (.Name x cpos)) pos) (fun _ σ H => t σ H fun cls d H' => PySem.W.subIn Y.K cls0 (.type "BaseException") = some true ∧ σ[i]? = some (some (.ref a0)) ∧ W cls d σ H') := by
  refine ⟨fun pins s σ H D I h => ?_⟩
  obtain ⟨vs0, hdv0⟩ := hf0
  have hh : (suiteX Y a0 ((a0, oe0) :: pn)).A.handled = some (.ref a0) := rfl
  show wpAny _ _ (do standAt pos; raiseStmt Y.env (some (do let v ← eval e Y.env; standAt pos; pure v)) (some (do let v ← eval (.Name x cpos) Y.env; standAt pos; pure v))) _ _ _
  refine wpAny_bind (wpAny_standAt (raise_made_hotF (x1 := a0) (b := a0) (J := fun s2 => ∃ (H2 : Hp) (sI : Shared), Inv (suiteX Y a0 ((a0, oe0) :: pn)) pins σ H2 sI ∧ (∀ b u, sI.heap.get? b = some u → s2.heap.get? b = some u) ∧ σ[i]? = some (some (.ref a0))) (fun s2 Q2 hJ q2 => ?_) (wpAny_bind (wpAny_mono (he pins s σ H _ I h) (fun u s1 hu => wpAny_bind (wpAny_standAt (wpAny_pure ?_))) fun _ _ x => x))))
  · obtain ⟨H2, sI, J, k, hs⟩ := hJ
    obtain ⟨m, hn, hl⟩ := J.loc
    obtain ⟨u, r, l⟩ := hl i x (.ref a0) hN hs (Or.inl hv)
    obtain rfl : u = Value.ref a0 := r
    have hn2 : s2.heap.Ns Y.env.locals m := by
      obtain ⟨o, es, ep, ho, r⟩ := hn
      exact ⟨o, es, ep, k _ _ ho, r⟩
    have fin : wpAny (model Y.prog Y.w) (Y.A.mark (some (.ref a0))) (do standAt pos; pure (Value.ref a0)) Q2 (suiteX Y a0 ((a0, oe0) :: pn)).xe s2 := wpAny_bind (wpAny_standAt (wpAny_pure q2))
    rcases l with ⟨hk, hm⟩ | ⟨hk, c, hcc, hcell⟩
    · exact wpAny_bind (wpAny_Name (wpAny_loadName_local J.ok.kind hk hn2 hm (wpAny_bind (wpAny_standAt (wpAny_pure q2)))) hd)
    · exfalso
      rw [show (suiteX Y a0 ((a0, oe0) :: pn)).env.kindOf x = some .local from hv] at hk
      rcases hk with hk | hk <;> cases hk
  · obtain ⟨⟨a, oe, vs, sI, H', cls, d, rfl, J, k, hne, ha, hz, hdd, h1, na, os, ag, r, hb0, hs, q⟩, h5⟩ := hu
    have hi : 4 < vs.size := h5 a oe vs rfl ha hdd
    have k4 : ∀ b u, sI.heap.get? b = some u → (causeFrom (.ref a0) s1.heap a).get? b = some u := fun b u z => by
      have nab : a ≠ b := fun y => by
        rw [← y, hne] at z
        cases z
      rw [causeFrom_other nab]
      exact k b u z
    obtain ⟨r1, _⟩ := r (model Y.prog Y.w) s1.heap (J.kIn.keeps k)
    obtain ⟨_, r2⟩ := r (model Y.prog Y.w) (causeFrom (.ref a0) s1.heap a) (J.kIn.keeps k4)
    have P1 := (J.pin (a0, oe0) (List.mem_append_left _ List.mem_cons_self)).1
    have nap : a0 ≠ a := fun z => by
      rw [z, hne] at P1
      cases P1
    obtain ⟨ha4, hd4⟩ := causeFrom_at (cv := .ref a0) ha hdd
    have h12 : (((vs.setIfInBounds 3 (Value.ref a0)).setIfInBounds 4 (Value.bool true)).setIfInBounds 2 (Value.ref a0))[1]? = some Value.none := set_other (by decide) (set_other (by decide) (set_other (by decide) h1))
    refine ⟨a, oe, vs, cls, rfl, ha, hz.1, hdd, h1, hi, nap, ⟨hh, oe0, vs0, k _ _ P1, hdv0, hz0.2.2 vs0 hdv0⟩, ⟨H', sI, J, k, hs⟩, ⟨oe0, vs0, cls0, k _ _ P1, hz0.1, hdv0, PySem.W.looks_subIn (J.kIn.keeps k) hb0⟩, r1, r2, tk _ _ (L2.XE.new J (fun b u z => ?_) hne (Heap.get?_update_self _ ha4 (Obj.isFreed_of_fields (Obj.data_mapFields hd4 _)))
      ⟨by rw [Obj.cls_mapFields, Obj.cls_mapFields, Obj.cls_mapFields]; exact hz.1, by rw [HandSPX.dict_mapFields, HandSPX.dict_mapFields, HandSPX.dict_mapFields]; exact hz.2.1⟩ (Obj.data_mapFields hd4 _) h12 na os ag q)⟩
    have nab : a ≠ b := fun y => by
      rw [← y, hne] at z
      cases z
    show ((causeFrom (.ref a0) s1.heap a).update a (Obj.mapFields (·.setIfInBounds 2 (.ref a0)))).get? b = some u
    rw [Heap.get?_update_other _ _ nab]
    exact k4 b u z
end SipX

set_option Elab.async false
set_option linter.all false
set_option maxRecDepth 100000
set_option maxHeartbeats 4000000
noncomputable section
namespace SipX
open PySem PySem.Spec PyProof.Rows L2 HotX L2H
/-- the context of an except suite that may raise, with a wish of its own -/
abbrev suiteZ (X : Cx) (a : Addr) (pn : List (Addr × Obj)) (xe : Value → Shared → Prop) : Cx := suiteX (X.tr X.pn xe) a pn
section
variable {X : Cx} {pins : List (Addr × Obj)} {σ : L2.St} {H : Hp} {s : Shared}
theorem suiteZ_of {a : Addr} {pn pn' : List (Addr × Obj)} {xe : Value → Shared → Prop} (I : Inv (X.suite a pn) pn' σ H s) : Inv (suiteZ X a pn xe) pn' σ H s := Inv.unwish (X := suiteZ X a pn xe) (E := fun _ _ => False) I
theorem unsuiteZ {a : Addr} {q : Addr × Obj} {pn' : List (Addr × Obj)} {xe : Value → Shared → Prop} (I : Inv (suiteZ X a (q :: (X.pn ++ pins)) xe) pn' σ H s) (ok : X.Ok) : Inv X pins σ H s :=
  Inv.unsuite (X := X) (a := a) (q := q) (pn' := pn') (show Inv (X.suite a (q :: (X.pn ++ pins))) pn' σ H s from I.wish fun _ _ => False) ok
/-- an exception out of a named clause's suite: noted, the name gone, on it flies -/
theorem fin_as {Wout : WX} {a0 : Addr} {oe0 : Obj} {xe : Value → Shared → Prop} {u : Value} {s' : Shared} {n : Str} {i : Nat} {pos : Pos} {E2 E3 : Value → Shared → Prop} (hs : X.stack = X.env :: X.outer) (hf : X.env.frame = some X.env.locals) (hex : X.ex = []) (ok : X.Ok) (tk : L2.Takes X Wout)
    (hN : X.N.Nodup) (hi : X.N[i]? = some n) (hln : X.env.kindOf n = some .local) (hE : ∀ x s, X.xe x s → E2 x s)
    (xx : L2.XE (suiteZ X a0 ((a0, oe0) :: (X.pn ++ pins)) xe) (fun cls d σ H => Wout cls d (σ.set i none) H) u s') :
    wpAny (model X.prog X.w) (X.A.mark (some (.ref a0))) (noteFrame u X.env) (fun _ s3 => wpAny (model X.prog X.w) (X.A.mark (some (.ref a0))) (do bindName X.env n .none; unbindBehindTheSuite X.env n pos)
      (fun _ s4 => wpAny (model X.prog X.w) (X.A.mark (some (.ref a0))) (PySem.passOn "try.except-as" u X.env : Sem Flow) (fun _ _ => False) E2 s4) (E3) s3) E2 s' := by
  have hfr : (X.A.mark (some (.ref a0))).frames = some (X.env :: X.outer) := by
    have := ok.frames
    rw [hs] at this
    exact this
  obtain ⟨a, B, sI, pins', σ', H', cls, d, rfl, J', nb, up, sky, na, os, ag, hw⟩ := xx
  have J : Inv X pins σ' H' sI := unsuiteZ J' ok
  have sky' : Sky B (X.env :: X.outer) a (Zc cls d) X.env.locals s'.heap := by rw [← hs]; exact sky
  have nb : ∀ b o, sI.heap.get? b = some o → b ∉ frs X.stack → B.get? b = some o := nb
  have fin : ∀ h1, HandSPX.HeldZ B (X.env :: X.outer) a (Zc cls d) X.env.locals h1 → s'.heap.UpToSlots h1 → wpAny (model X.prog X.w) (X.A.mark (some (.ref a0))) (do bindName X.env n .none; unbindBehindTheSuite X.env n pos)
      (fun _ s4 => wpAny (model X.prog X.w) (X.A.mark (some (.ref a0))) (PySem.passOn "try.except-as" (.ref a) X.env : Sem Flow) (fun _ _ => False) E2 s4) E3 { s' with heap := h1 } := fun h1 hh1 up1 => by
    have J3 : Inv X pins σ' H' { s' with heap := h1 } := J.landed nb hh1.1 (up.trans up1) os ag
    obtain ⟨k1, k2, k3, oe, vs, T, oT, ts, he3, hz, hd, hv1, hnT, hTe, hT, hdT, ht3⟩ := id hh1
    have nT : H' T = none := (J.inGround nb).gone hnT
    have notFr : ∀ (b : Addr) (o : Obj) (fv : Array Value), h1.get? b = some o → o.data = .fields fv → b ∉ frs (X.env :: X.outer) := fun b o fv e dd hm => by
      obtain ⟨_, o', e', hnf⟩ := k3.mem hm
      have eo : o = o' := Option.some.inj (e.symm.trans e')
      rw [← eo] at hnf
      exact hnf _ dd
    have locF : X.env.locals ∈ frs (X.env :: X.outer) := List.mem_filterMap.mpr ⟨X.env, List.mem_cons_self, hf⟩
    have fsF : ∀ b, b ∈ X.fs → b ∈ frs (X.env :: X.outer) := fun b hm => by
      obtain ⟨e, he, q⟩ := List.mem_filterMap.mp hm
      exact List.mem_filterMap.mpr ⟨e, List.mem_cons_of_mem _ he, q⟩
    have fa := notFr a oe vs he3 hd
    have fT := notFr T oT ts hT hdT
    have S3 : Inv (X.suite a ((a, oe) :: (T, oT) :: (X.pn ++ pins))) [] σ' H' { s' with heap := h1 } :=
      ⟨J3.ok.suite _ _, J3.os, J3.bare, J3.base, J3.loc, J3.cell, J3.free, J3.freeC, fun p hp => by
        rw [List.append_nil] at hp
        rcases List.mem_cons.mp hp with z | hp
        · rw [z]
          exact ⟨he3, na, fun z2 => fa (by rw [show a = X.env.locals from z2]; exact locF), fun z2 => fa (fsF _ z2), fun v z2 => by
            have z3 : oe.data = .cell v := z2
            rw [hd] at z3
            cases z3⟩
        · rcases List.mem_cons.mp hp with z | hp
          · rw [z]
            exact ⟨hT, nT, fun z2 => fT (by rw [show T = X.env.locals from z2]; exact locF), fun z2 => fT (fsF _ z2), fun v z2 => by
              have z3 : oT.data = .cell v := z2
              rw [hdT] at z3
              cases z3⟩
          · exact J3.pin p hp, J3.hok, J3.len⟩
    refine gone_ok (X := X.suite a ((a, oe) :: (T, oT) :: (X.pn ++ pins))) S3 hN hi hln fun s6 S6 => ?_
    have J6 : Inv X pins (σ'.set i none) H' s6 := ⟨ok, S6.os, S6.bare, S6.base, S6.loc, S6.cell, S6.free, S6.freeC, fun p hp => S6.pin p (List.mem_append_left _ (List.mem_cons_of_mem _ (List.mem_cons_of_mem _ hp))), S6.hok, S6.len⟩
    have pa := S6.pin (a, oe) (List.mem_append_left _ List.mem_cons_self)
    have pT := S6.pin (T, oT) (List.mem_append_left _ (List.mem_cons_of_mem _ List.mem_cons_self))
    have ga : s6.heap.get? a = some oe := pa.1
    have gT : s6.heap.get? T = some oT := pT.1
    have far : ∀ b o, sI.heap.get? b = some o → b ≠ a ∧ b ≠ T := fun b o e => by
      by_cases hb : b ∈ frs X.stack
      · rw [hs] at hb
        exact ⟨fun z => fa (by rw [← z]; exact hb), fun z => fT (by rw [← z]; exact hb)⟩
      · have q := nb b o e hb
        exact ⟨fun z => by
          rw [z, k2] at q
          exact (nomatch q), fun z => by
          rw [z, hnT] at q
          cases q⟩
    have far0 : ∀ b o, X.s_0.heap.get? b = some o → b ≠ a ∧ b ≠ T := fun b o e => by
      obtain ⟨o', q⟩ := J.base.there b o e (by rw [hex]; simp)
      exact far b o' q
    have farP : ∀ p ∈ X.pn ++ pins, p.1 ≠ a ∧ p.1 ≠ T := fun p hp => far p.1 p.2 (J.pin p hp).1
    obtain ⟨G, g1, g2⟩ := restrict s6.heap fun b => !(decide (b = a) || decide (b = T))
    have gIn : ∀ b o, G.get? b = some o → s6.heap.get? b = some o ∧ b ≠ a ∧ b ≠ T := fun b o e => by
      cases q : (!(decide (b = a) || decide (b = T))) with
      | false =>
        rw [g2 b q] at e
        cases e
      | true =>
        rw [g1 b q] at e
        simp only [Bool.not_eq_true', Bool.or_eq_false_iff, decide_eq_false_iff_not] at q
        exact ⟨e, q.1, q.2⟩
    have gOf : ∀ b o, b ≠ a → b ≠ T → s6.heap.get? b = some o → G.get? b = some o := fun b o h1 h2 e => by
      rw [g1 b (by simp [h1, h2])]
      exact e
    have I6 : Inv X pins (σ'.set i none) H' { s6 with heap := G } := J6.less (fun b o e => (gIn b o e).1) gOf ⟨oe, vs, ga, hd⟩ ⟨oT, ts, gT, hdT⟩ na nT far0 farP
    have B6in : ∀ b o, (PySem.W.hideAll G (frs X.stack)).get? b = some o → s6.heap.get? b = some o := fun b o e => (gIn b o (PySem.W.of_hideAll _ e)).1
    have Bno : ∀ b, (b = a ∨ b = T) → (PySem.W.hideAll G (frs X.stack)).get? b = none := fun b hb => by
      cases q : (PySem.W.hideAll G (frs X.stack)).get? b with
      | none => rfl
      | some o =>
        obtain ⟨_, n1, n2⟩ := gIn b o (PySem.W.of_hideAll _ q)
        rcases hb with z | z
        · exact absurd z n1
        · exact absurd z n2
    have hh6 : HandSPX.HeldZ (PySem.W.hideAll G (frs X.stack)) (X.env :: X.outer) a (Zc cls d) X.env.locals s6.heap := by
      refine ⟨B6in, Bno a (.inl rfl), ?_, oe, vs, T, oT, ts, ga, hz, hd, hv1, Bno T (.inr rfl), hTe, gT, hdT, ht3⟩
      have ff := funFrames_none (B := PySem.W.hideAll G (frs X.stack)) J6.stack fun b hb => PySem.W.hideAll_none _ hb
      rw [← hs]
      exact ff
    unfold PySem.passOn
    refine wpAny_bind (wpAny_field ga hd hv1 ?_)
    rw [if_neg (show ¬ ((Value.ref T == Value.none) = true) from by simp)]
    have goOn : wpAny (model X.prog X.w) (X.A.mark (some (.ref a0))) (setFlight (.ref a) X.env.frame) (fun _ s7 => wpAny (model X.prog X.w) (X.A.mark (some (.ref a0))) (throw (.ref a) : Sem Flow) (fun _ _ => False) E2 s7) E2 s6 := by
      rw [hf]
      refine HandSPX.setFlight_onZ hh6 fun h7 hh7 up7 => wpAny_throw (hE _ _ (tk _ _ ?_))
      refine ⟨a, PySem.W.hideAll G (frs X.stack), { s6 with heap := G }, pins, σ'.set i none, H', cls, d, rfl, I6, fun b o e hb => PySem.W.hideAll_get _ e hb, ?_, .inr (.inr (by rw [← hs] at hh7; exact hh7)), na, rfl, J6.bare, hw⟩
      exact Heap.UpToSlots.trans (Heap.UpToSlots.of_keeps fun b o e => (gIn b o e).1) up7
    first
      | exact wpAny_bind (wpAny_pure (wpAny_bind goOn))
      | exact wpAny_bind goOn
  rcases sky' with ⟨hB, hn, hl, oe, vs, he0, hz, hd, hv1⟩ | fl | hh
  · exact HandSPX.look_newZ Zc.steady hfr hl hf he0 hB hn hd hv1 hz fin
  · exact HandSPX.looks_onZ Zc.steady hfr hf fl fin
  · exact HandSPX.againZ hf hh.2.2.2 (fin s'.heap hh (Heap.UpToSlots.refl _))
end
end SipX

set_option Elab.async false
set_option linter.all false
set_option maxRecDepth 100000
set_option maxHeartbeats 4000000
noncomputable section
namespace SipX
open PySem PySem.Spec PyProof.Rows L2 HotX L2H
/-- what the clauses wish of an exception of the body, one behind the other; a named one: its slot -/
def wAllN (K : PySem.W.Frag) (Wout : WX) (D : Ends) : List (Value × Option Nat × (Addr → Value → Option Addr → TS)) → WX
  | [] => Wout
  | (c, none, ts) :: r => fun cls d σ H => ∃ b, PySem.W.exmOne K cls c = some b ∧ (b = true → ∀ a, H a = none → ts a cls d D σ H) ∧ (b = false → wAllN K Wout D r cls d σ H)
  | (c, some i, ts) :: r => fun cls d σ H => ∃ b, PySem.W.exmOne K cls c = some b ∧
      (b = true → ∀ a, H a = none → ts a cls d { nx := fun σ' H' => D.nx (σ'.set i none) H', rt := D.rt, bk := fun σ' H' => D.bk (σ'.set i none) H', ct := fun σ' H' => D.ct (σ'.set i none) H' } (σ.set i (some (.ref a))) H) ∧ (b = false → wAllN K Wout D r cls d σ H)
inductive HdsAN (X : Cx) (Wout : WX) : List ExceptHandler → List (Value × Option Nat × (Addr → Value → Option Addr → TS)) → Prop
  | nil : HdsAN X Wout [] []
  | one {x : Str} {c : Value} {ts : Addr → Value → Option Addr → TS} {b₀ : Stmt} {suite : List Stmt} {np pos' : Pos} {hds : List ExceptHandler} {l : List (Value × Option Nat × (Addr → Value → Option Addr → TS))} (hc : Names X x c)
      (hsu : ∀ (a : Addr) (oe : Obj) (cls : Value) (d : Option Addr) (pn : List (Addr × Obj)) (xe : Value → Shared → Prop), L2N.Zn cls d oe → (∃ vs, oe.data = .fields vs) → L2.Takes (suiteZ X a ((a, oe) :: pn) xe) Wout → HotC (suiteZ X a ((a, oe) :: pn) xe) →
        PSs (suiteZ X a ((a, oe) :: pn) xe) (b₀ :: suite) (ts a cls d)) (r : HdsAN X Wout hds l) :
      HdsAN X Wout (.ExceptHandler (some (.Name x np)) none (b₀ :: suite) pos' :: hds) ((c, none, ts) :: l)
  | as {x n : Str} {c : Value} {i : Nat} {ts : Addr → Value → Option Addr → TS} {b₀ : Stmt} {suite : List Stmt} {np pos' : Pos} {hds : List ExceptHandler} {l : List (Value × Option Nat × (Addr → Value → Option Addr → TS))} (hc : Names X x c)
      (hi : X.N[i]? = some n) (hln : X.env.kindOf n = some .local)
      (hsu : ∀ (a : Addr) (oe : Obj) (cls : Value) (d : Option Addr) (pn : List (Addr × Obj)) (xe : Value → Shared → Prop), L2N.Zn cls d oe → (∃ vs, oe.data = .fields vs) → L2.Takes (suiteZ X a ((a, oe) :: pn) xe) (fun cls d σ H => Wout cls d (σ.set i none) H) → HotC (suiteZ X a ((a, oe) :: pn) xe) →
        PSs (suiteZ X a ((a, oe) :: pn) xe) (b₀ :: suite) (ts a cls d)) (r : HdsAN X Wout hds l) :
      HdsAN X Wout (.ExceptHandler (some (.Name x np)) (some n) (b₀ :: suite) pos' :: hds) ((c, some i, ts) :: l)
section
variable {X : Cx} {body : List Stmt} {h₀ : ExceptHandler} {hds : List ExceptHandler} {l : List (Value × Option Nat × (Addr → Value → Option Addr → TS))} {pos : Pos} {tb : WX → TS} {Wout : WX}
theorem ps_tryAN (hs : X.stack = X.env :: X.outer) (hf : X.env.frame = some X.env.locals) (hex : X.ex = []) (hN : X.N.Nodup) (hpa : ∀ hd : Option Value, PassesOwnAt (model X.prog X.w) (X.A.mark hd) X.A X.env X.xe) (tk : L2.Takes X Wout)
    (hb : ∀ (W : WX) (pn : List (Addr × Obj)) (xe : Value → Shared → Prop), L2N.Takes (X.tr pn xe) W → PassesOwn (model X.prog X.w) X.A X.env xe → PSs (X.tr pn xe) body (tb W))
    (hh : HdsAN X Wout (h₀ :: hds) l) : PS X (.Try body (h₀ :: hds) [] [] pos) (fun D σ H => tb (wAllN X.K Wout D l) D σ H) := by
  refine ⟨fun pins s σ H D I h => ?_⟩
  have ok := I.ok
  have hfr : X.A.frames = some (X.env :: X.outer) := by rw [ok.frames, hs]
  refine wpAny_Try_except ?_
  refine wpAny_mono ((hb (wAllN X.K Wout D l) (X.pn ++ pins) (fun e s₁ => wpAny (model X.prog X.w) X.A (noteFrame e X.env) (fun _ s₂ => wpAny (model X.prog X.w) X.A (setFlight e none) (fun _ s₃ =>
    wpAny (model X.prog X.w) X.A (handleBy e X.env (h₀ :: hds)) (SP X pins D) X.xe s₃) X.xe s₂) X.xe s₁) (fun u s' xx => ?_) PassesOwn.looking).run [] s σ H D (I.toTry _) h) (fun f s1 hsp => ?_) (fun e s1 he => he)
  · obtain ⟨a, B, sI, pins', σ', H', cls, d, rfl, J', nb, up, sky, na, os, ag, w⟩ := xx
    have J : Inv X pins σ' H' sI := J'.ofTry ok
    have sky' : Sky B (X.env :: X.outer) a (L2N.Zn cls d) X.env.locals s'.heap := by rw [← hs]; exact sky
    show wpAny (model X.prog X.w) X.A (noteFrame (.ref a) X.env) _ _ _
    refine L2N.Sky.land L2N.Zn.steady hfr hf sky' fun h3 fl3 up3 => ?_
    have J3 : Inv X pins σ' H' { s' with heap := h3 } := J.landed nb fl3.1 (up.trans up3) os ag
    obtain ⟨oe3, vs3, he3, hz3, hd3⟩ := fl3.there
    have notFr : ∀ {h : Heap} {o : Obj} {vs : Array Value}, h.FunFrames B (X.env :: X.outer) → h.get? a = some o → o.data = .fields vs → a ∉ frs (X.env :: X.outer) := fun {h o vs} ff e dd hm => by
      obtain ⟨_, o', e', hnf⟩ := ff.mem hm
      rw [e] at e'; cases e'
      exact hnf _ dd
    have nfr := notFr fl3.2.2.1 he3 hd3
    have nL : a ≠ X.env.locals := fun z => nfr (List.mem_filterMap.mpr ⟨X.env, List.mem_cons_self, by rw [hf, z]⟩)
    have nF : a ∉ X.fs := fun hm => by
      obtain ⟨e, he, q⟩ := List.mem_filterMap.mp hm
      exact nfr (List.mem_filterMap.mpr ⟨e, List.mem_cons_of_mem _ he, q⟩)
    have S3 := J3.suite he3 hd3 na nL nF
    have go : ∀ {hds' : List ExceptHandler} {l' : List (Value × Option Nat × (Addr → Value → Option Addr → TS))}, HdsAN X Wout hds' l' → wAllN X.K Wout D l' cls d σ' H' →
        wpAny (model X.prog X.w) X.A (handleBy (.ref a) X.env hds') (SP X pins D) X.xe { s' with heap := h3 } := by
      intro hds' l' hk
      induction hk with
      | nil =>
        intro w
        refine wpAny_handleBy_nil ?_
        obtain ⟨k1, k2, k3, oe, vs, T, oT, ts', he, hz, hd, h1, hr⟩ := id fl3
        unfold PySem.passOn
        refine wpAny_bind (wpAny_field he hd h1 ?_)
        rw [if_neg (show ¬ ((Value.ref T == Value.none) = true) from by simp)]
        have fin : wpAny (model X.prog X.w) X.A (setFlight (.ref a) X.env.frame) (fun _ s4 => wpAny (model X.prog X.w) X.A (throw (.ref a) : Sem Flow) (SP X pins D) X.xe s4) X.xe { s' with heap := h3 } := by
          rw [hf]
          refine HandSPX.setFlight_upZ fl3 fun h4 hh4 up4 => wpAny_throw (tk _ _ (xen_xe ?_))
          exact ⟨a, B, sI, pins, σ', H', cls, d, rfl, J, nb, (up.trans up3).trans up4, .inr (.inr (by rw [hs]; exact hh4)), na, os, ag, w⟩
        first
          | exact wpAny_bind (wpAny_pure (wpAny_bind fin))
          | exact wpAny_bind fin
      | @one x c ts b₀ suite np pos' hds2 l2 hc hsu r ih =>
        intro w
        obtain ⟨b, hb1, hyes, hno⟩ := w
        refine wpAny_handleBy_cons (codeAny_handlers_test ?_) (by intro q; cases q)
        have LT : PySem.W.Looks (model X.prog X.w) h3 (typeOf (.ref a)) cls := fun A Q E s k q => wpAny_typeOf_ref (k _ _ he3) (by rw [hz3.1]; exact q)
        have LM := PySem.W.exm_one (M := model X.prog X.w) (J3.kIn) LT hb1
        have test : ∀ {Q : Value → Shared → Prop} {E : Value → Shared → Prop}, Q c { s' with heap := h3 } → wpAny (model X.prog X.w) (X.A.mark (some (.ref a))) (eval (.Name x np) X.env) Q E { s' with heap := h3 } := fun {Q E} q => by
          obtain ⟨hg, hdbg, hm | ⟨hm, hv, hnn⟩⟩ := hc
          · exact ld_glob (X := X.suite a ((a, oe3) :: (X.pn ++ pins))) S3 hg hm q hdbg
          · exact ld_blt (X := X.suite a ((a, oe3) :: (X.pn ++ pins))) S3 hg hm hv q hnn hdbg
        refine test (LM.here ?_)
        cases b with
        | true =>
          refine codeAny_handlers_suite ?_
          refine HandSPX.lands_againZ fl3 fun h4 fl4 up4 => ?_
          have J4 : Inv X pins σ' H' { s' with heap := h4 } := J.landed nb fl4.1 ((up.trans up3).trans up4) os ag
          obtain ⟨oe4, vs4, he4, hz4, hd4⟩ := fl4.there
          have S4 := J4.suite he4 hd4 na nL nF
          have tkS : L2.Takes (suiteZ X a ((a, oe4) :: (X.pn ++ pins)) X.xe) Wout := fun u2 s2 x2 => by
            obtain ⟨a2, B2, sI2, pn2, σ2, H2, cls2, d2, e2, I2, nb2, up2, sky2, na2, os2, ag2, w2⟩ := x2
            exact tk u2 s2 ⟨a2, B2, sI2, pins, σ2, H2, cls2, d2, e2, unsuiteZ I2 ok, nb2, up2, sky2, na2, os2, ag2, w2⟩
          refine wpAny_mono ((hsu a oe4 cls d (X.pn ++ pins) X.xe hz4 ⟨_, hd4⟩ tkS ⟨(a, oe4), ⟨rfl, vs4, hd4, hz4.2.2 vs4 hd4⟩, List.mem_cons_self⟩).run [] _ _ H' _ (suiteZ_of S4) (hyes rfl a na)) (fun f s6 hsp => ?_) (fun e6 s6 z => hpa (some (.ref a)) e6 s6 z)
          cases f with
          | next =>
            obtain ⟨σ6, H6, S6, q6⟩ := hsp
            exact ⟨_, _, unsuiteZ S6 ok, q6⟩
          | brk =>
            obtain ⟨σ6, H6, S6, q6⟩ := hsp
            exact ⟨_, _, unsuiteZ S6 ok, q6⟩
          | cont =>
            obtain ⟨σ6, H6, S6, q6⟩ := hsp
            exact ⟨_, _, unsuiteZ S6 ok, q6⟩
          | ret u =>
            obtain ⟨v6, σ6, H6, S6, r6, q6⟩ := hsp
            exact ⟨_, _, _, unsuiteZ S6 ok, r6, q6⟩
        | false =>
          show wpAny _ X.A (handleBy (.ref a) X.env hds2) _ _ _
          exact ih (hno rfl)
      | @as x n c i ts b₀ suite np pos' hds2 l2 hc hi hln hsu r ih =>
        intro w
        obtain ⟨b, hb1, hyes, hno⟩ := w
        have hloc : Loc X.env.scope n := .inl hln
        refine wpAny_handleBy_cons (codeAny_handlers_test ?_) (by intro q; cases q)
        have LT : PySem.W.Looks (model X.prog X.w) h3 (typeOf (.ref a)) cls := fun A Q E s k q => wpAny_typeOf_ref (k _ _ he3) (by rw [hz3.1]; exact q)
        have LM := PySem.W.exm_one (M := model X.prog X.w) (J3.kIn) LT hb1
        have test : ∀ {Q : Value → Shared → Prop} {E : Value → Shared → Prop}, Q c { s' with heap := h3 } → wpAny (model X.prog X.w) (X.A.mark (some (.ref a))) (eval (.Name x np) X.env) Q E { s' with heap := h3 } := fun {Q E} q => by
          obtain ⟨hg, hdbg, hm | ⟨hm, hv, hnn⟩⟩ := hc
          · exact ld_glob (X := X.suite a ((a, oe3) :: (X.pn ++ pins))) S3 hg hm q hdbg
          · exact ld_blt (X := X.suite a ((a, oe3) :: (X.pn ++ pins))) S3 hg hm hv q hnn hdbg
        refine test (LM.here ?_)
        cases b with
        | true =>
          refine codeAny_handlers_suite_as ?_
          refine HandSPX.lands_againZ fl3 fun h4 fl4 up4 => ?_
          have J4 : Inv X pins σ' H' { s' with heap := h4 } := J.landed nb fl4.1 ((up.trans up3).trans up4) os ag
          obtain ⟨oe4, vs4, he4, hz4, hd4⟩ := fl4.there
          have S4 := J4.suite he4 hd4 na nL nF
          refine store_ok (X := X.suite a ((a, oe4) :: (X.pn ++ pins))) (v := .ref a) S4 hN hi hloc rfl (fun s5 S5 => ?_) (.inr hln)
          refine wpAny_mono ((hsu a oe4 cls d (X.pn ++ pins) _ hz4 ⟨_, hd4⟩ (fun u2 s2 x2 => fin_as hs hf hex ok tk hN hi hln (fun x s z => hpa (some (.ref a)) x s z) x2) ⟨(a, oe4), ⟨rfl, vs4, hd4, hz4.2.2 vs4 hd4⟩, List.mem_cons_self⟩).run [] s5 _ H' _ (suiteZ_of S5) (hyes rfl a na)) (fun f s6 hsp => ?_) (fun _ _ z => z)
          have end_ : ∀ {σ6 : L2.St} {H6 : Hp} {Q : Shared → Prop} {E : Value → Shared → Prop}, Inv X pins σ6 H6 s6 → (∀ s7, Inv X pins (σ6.set i none) H6 s7 → Q s7) →
              wpAny (model X.prog X.w) X.A (do bindName X.env n .none; unbindBehindTheSuite X.env n pos') (fun _ s7 => Q s7) E s6 := fun {σ6 H6 Q E} S6 hq => gone_ok S6 hN hi hln hq
          cases f with
          | next =>
            obtain ⟨σ6, H6, S6, q6⟩ := hsp
            exact end_ (unsuiteZ S6 ok) fun s7 J7 => ⟨_, _, J7, q6⟩
          | brk =>
            obtain ⟨σ6, H6, S6, q6⟩ := hsp
            exact end_ (unsuiteZ S6 ok) fun s7 J7 => ⟨_, _, J7, q6⟩
          | cont =>
            obtain ⟨σ6, H6, S6, q6⟩ := hsp
            exact end_ (unsuiteZ S6 ok) fun s7 J7 => ⟨_, _, J7, q6⟩
          | ret u =>
            obtain ⟨v6, σ6, H6, S6, r6, q6⟩ := hsp
            exact end_ (unsuiteZ S6 ok) fun s7 J7 => ⟨_, _, _, J7, r6, q6⟩
        | false =>
          show wpAny _ X.A (handleBy (.ref a) X.env hds2) _ _ _
          exact ih (hno rfl)
    exact go hh w
  · cases f with
    | next =>
      obtain ⟨σ', H', J', q⟩ := hsp
      exact wpAny_execs_nil ⟨σ', H', J'.ofTry ok, q⟩
    | brk =>
      obtain ⟨σ', H', J', q⟩ := hsp
      exact ⟨σ', H', J'.ofTry ok, q⟩
    | cont =>
      obtain ⟨σ', H', J', q⟩ := hsp
      exact ⟨σ', H', J'.ofTry ok, q⟩
    | ret u =>
      obtain ⟨v, σ', H', J', r, q⟩ := hsp
      exact ⟨v, σ', H', J'.ofTry ok, r, q⟩
end

/-- what the clauses wish of an exception of the body, one behind the other; a named one: its slot -/
def wAllC (K : PySem.W.Frag) (Wout : WX) (D : Ends) : List (Value × Option Nat × (Addr → Value → Option Addr → TS)) → WX
  | [] => Wout
  | (c, none, ts) :: r => fun cls d σ H => ∃ b, PySem.W.exmOne K cls c = some b ∧ (b = true → ∀ a, H a = none → ts a cls d D σ H) ∧ (b = false → wAllC K Wout D r cls d σ H)
  | (c, some i, ts) :: r => fun cls d σ H => ∃ b, PySem.W.exmOne K cls c = some b ∧
      (b = true → ∀ a, H a = none → ts a cls d { nx := fun σ' H' => D.nx (σ'.set i none) H', rt := D.rt, bk := fun σ' H' => D.bk (σ'.set i none) H', ct := fun σ' H' => D.ct (σ'.set i none) H' } (σ.set i (some (.ref a))) H) ∧ (b = false → wAllC K Wout D r cls d σ H)
inductive HdsAC (X : Cx) (Wout : WX) : List ExceptHandler → List (Value × Option Nat × (Addr → Value → Option Addr → TS)) → Prop
  | nil : HdsAC X Wout [] []
  | one {x : Str} {c : Value} {ts : Addr → Value → Option Addr → TS} {b₀ : Stmt} {suite : List Stmt} {np pos' : Pos} {hds : List ExceptHandler} {l : List (Value × Option Nat × (Addr → Value → Option Addr → TS))} (hc : Names X x c)
      (hsu : ∀ (a : Addr) (oe : Obj) (cls : Value) (d : Option Addr) (pn : List (Addr × Obj)) (xe : Value → Shared → Prop), Zc cls d oe → (∃ vs, oe.data = .fields vs) → L2.Takes (suiteZ X a ((a, oe) :: pn) xe) Wout → 
        PSs (suiteZ X a ((a, oe) :: pn) xe) (b₀ :: suite) (ts a cls d)) (r : HdsAC X Wout hds l) :
      HdsAC X Wout (.ExceptHandler (some (.Name x np)) none (b₀ :: suite) pos' :: hds) ((c, none, ts) :: l)
  | as {x n : Str} {c : Value} {i : Nat} {ts : Addr → Value → Option Addr → TS} {b₀ : Stmt} {suite : List Stmt} {np pos' : Pos} {hds : List ExceptHandler} {l : List (Value × Option Nat × (Addr → Value → Option Addr → TS))} (hc : Names X x c)
      (hi : X.N[i]? = some n) (hln : X.env.kindOf n = some .local)
      (hsu : ∀ (a : Addr) (oe : Obj) (cls : Value) (d : Option Addr) (pn : List (Addr × Obj)) (xe : Value → Shared → Prop), Zc cls d oe → (∃ vs, oe.data = .fields vs) → L2.Takes (suiteZ X a ((a, oe) :: pn) xe) (fun cls d σ H => Wout cls d (σ.set i none) H) → 
        PSs (suiteZ X a ((a, oe) :: pn) xe) (b₀ :: suite) (ts a cls d)) (r : HdsAC X Wout hds l) :
      HdsAC X Wout (.ExceptHandler (some (.Name x np)) (some n) (b₀ :: suite) pos' :: hds) ((c, some i, ts) :: l)
section
variable {X : Cx} {body : List Stmt} {h₀ : ExceptHandler} {hds : List ExceptHandler} {l : List (Value × Option Nat × (Addr → Value → Option Addr → TS))} {pos : Pos} {tb : WX → TS} {Wout : WX}
theorem ps_tryAC (hs : X.stack = X.env :: X.outer) (hf : X.env.frame = some X.env.locals) (hex : X.ex = []) (hN : X.N.Nodup) (hpa : ∀ hd : Option Value, PassesOwnAt (model X.prog X.w) (X.A.mark hd) X.A X.env X.xe) (tk : L2.Takes X Wout)
    (hb : ∀ (W : WX) (pn : List (Addr × Obj)) (xe : Value → Shared → Prop), L2.Takes (X.tr pn xe) W → PassesOwn (model X.prog X.w) X.A X.env xe → PSs (X.tr pn xe) body (tb W))
    (hh : HdsAC X Wout (h₀ :: hds) l) : PS X (.Try body (h₀ :: hds) [] [] pos) (fun D σ H => tb (wAllC X.K Wout D l) D σ H) := by
  refine ⟨fun pins s σ H D I h => ?_⟩
  have ok := I.ok
  have hfr : X.A.frames = some (X.env :: X.outer) := by rw [ok.frames, hs]
  refine wpAny_Try_except ?_
  refine wpAny_mono ((hb (wAllC X.K Wout D l) (X.pn ++ pins) (fun e s₁ => wpAny (model X.prog X.w) X.A (noteFrame e X.env) (fun _ s₂ => wpAny (model X.prog X.w) X.A (setFlight e none) (fun _ s₃ =>
    wpAny (model X.prog X.w) X.A (handleBy e X.env (h₀ :: hds)) (SP X pins D) X.xe s₃) X.xe s₂) X.xe s₁) (fun u s' xx => ?_) PassesOwn.looking).run [] s σ H D (I.toTry _) h) (fun f s1 hsp => ?_) (fun e s1 he => he)
  · obtain ⟨a, B, sI, pins', σ', H', cls, d, rfl, J', nb, up, sky, na, os, ag, w⟩ := xx
    have J : Inv X pins σ' H' sI := J'.ofTry ok
    have sky' : Sky B (X.env :: X.outer) a (Zc cls d) X.env.locals s'.heap := by rw [← hs]; exact sky
    show wpAny (model X.prog X.w) X.A (noteFrame (.ref a) X.env) _ _ _
    refine L2.Sky.land Zc.steady hfr hf sky' fun h3 fl3 up3 => ?_
    have J3 : Inv X pins σ' H' { s' with heap := h3 } := J.landed nb fl3.1 (up.trans up3) os ag
    obtain ⟨oe3, vs3, he3, hz3, hd3⟩ := fl3.there
    have notFr : ∀ {h : Heap} {o : Obj} {vs : Array Value}, h.FunFrames B (X.env :: X.outer) → h.get? a = some o → o.data = .fields vs → a ∉ frs (X.env :: X.outer) := fun {h o vs} ff e dd hm => by
      obtain ⟨_, o', e', hnf⟩ := ff.mem hm
      rw [e] at e'; cases e'
      exact hnf _ dd
    have nfr := notFr fl3.2.2.1 he3 hd3
    have nL : a ≠ X.env.locals := fun z => nfr (List.mem_filterMap.mpr ⟨X.env, List.mem_cons_self, by rw [hf, z]⟩)
    have nF : a ∉ X.fs := fun hm => by
      obtain ⟨e, he, q⟩ := List.mem_filterMap.mp hm
      exact nfr (List.mem_filterMap.mpr ⟨e, List.mem_cons_of_mem _ he, q⟩)
    have S3 := J3.suite he3 hd3 na nL nF
    have go : ∀ {hds' : List ExceptHandler} {l' : List (Value × Option Nat × (Addr → Value → Option Addr → TS))}, HdsAC X Wout hds' l' → wAllC X.K Wout D l' cls d σ' H' →
        wpAny (model X.prog X.w) X.A (handleBy (.ref a) X.env hds') (SP X pins D) X.xe { s' with heap := h3 } := by
      intro hds' l' hk
      induction hk with
      | nil =>
        intro w
        refine wpAny_handleBy_nil ?_
        obtain ⟨k1, k2, k3, oe, vs, T, oT, ts', he, hz, hd, h1, hr⟩ := id fl3
        unfold PySem.passOn
        refine wpAny_bind (wpAny_field he hd h1 ?_)
        rw [if_neg (show ¬ ((Value.ref T == Value.none) = true) from by simp)]
        have fin : wpAny (model X.prog X.w) X.A (setFlight (.ref a) X.env.frame) (fun _ s4 => wpAny (model X.prog X.w) X.A (throw (.ref a) : Sem Flow) (SP X pins D) X.xe s4) X.xe { s' with heap := h3 } := by
          rw [hf]
          refine HandSPX.setFlight_upZ fl3 fun h4 hh4 up4 => wpAny_throw (tk _ _ ?_)
          exact ⟨a, B, sI, pins, σ', H', cls, d, rfl, J, nb, (up.trans up3).trans up4, .inr (.inr (by rw [hs]; exact hh4)), na, os, ag, w⟩
        first
          | exact wpAny_bind (wpAny_pure (wpAny_bind fin))
          | exact wpAny_bind fin
      | @one x c ts b₀ suite np pos' hds2 l2 hc hsu r ih =>
        intro w
        obtain ⟨b, hb1, hyes, hno⟩ := w
        refine wpAny_handleBy_cons (codeAny_handlers_test ?_) (by intro q; cases q)
        have LT : PySem.W.Looks (model X.prog X.w) h3 (typeOf (.ref a)) cls := fun A Q E s k q => wpAny_typeOf_ref (k _ _ he3) (by rw [hz3.1]; exact q)
        have LM := PySem.W.exm_one (M := model X.prog X.w) (J3.kIn) LT hb1
        have test : ∀ {Q : Value → Shared → Prop} {E : Value → Shared → Prop}, Q c { s' with heap := h3 } → wpAny (model X.prog X.w) (X.A.mark (some (.ref a))) (eval (.Name x np) X.env) Q E { s' with heap := h3 } := fun {Q E} q => by
          obtain ⟨hg, hdbg, hm | ⟨hm, hv, hnn⟩⟩ := hc
          · exact ld_glob (X := X.suite a ((a, oe3) :: (X.pn ++ pins))) S3 hg hm q hdbg
          · exact ld_blt (X := X.suite a ((a, oe3) :: (X.pn ++ pins))) S3 hg hm hv q hnn hdbg
        refine test (LM.here ?_)
        cases b with
        | true =>
          refine codeAny_handlers_suite ?_
          refine HandSPX.lands_againZ fl3 fun h4 fl4 up4 => ?_
          have J4 : Inv X pins σ' H' { s' with heap := h4 } := J.landed nb fl4.1 ((up.trans up3).trans up4) os ag
          obtain ⟨oe4, vs4, he4, hz4, hd4⟩ := fl4.there
          have S4 := J4.suite he4 hd4 na nL nF
          have tkS : L2.Takes (suiteZ X a ((a, oe4) :: (X.pn ++ pins)) X.xe) Wout := fun u2 s2 x2 => by
            obtain ⟨a2, B2, sI2, pn2, σ2, H2, cls2, d2, e2, I2, nb2, up2, sky2, na2, os2, ag2, w2⟩ := x2
            exact tk u2 s2 ⟨a2, B2, sI2, pins, σ2, H2, cls2, d2, e2, unsuiteZ I2 ok, nb2, up2, sky2, na2, os2, ag2, w2⟩
          refine wpAny_mono ((hsu a oe4 cls d (X.pn ++ pins) X.xe hz4 ⟨_, hd4⟩ tkS ).run [] _ _ H' _ (suiteZ_of S4) (hyes rfl a na)) (fun f s6 hsp => ?_) (fun e6 s6 z => hpa (some (.ref a)) e6 s6 z)
          cases f with
          | next =>
            obtain ⟨σ6, H6, S6, q6⟩ := hsp
            exact ⟨_, _, unsuiteZ S6 ok, q6⟩
          | brk =>
            obtain ⟨σ6, H6, S6, q6⟩ := hsp
            exact ⟨_, _, unsuiteZ S6 ok, q6⟩
          | cont =>
            obtain ⟨σ6, H6, S6, q6⟩ := hsp
            exact ⟨_, _, unsuiteZ S6 ok, q6⟩
          | ret u =>
            obtain ⟨v6, σ6, H6, S6, r6, q6⟩ := hsp
            exact ⟨_, _, _, unsuiteZ S6 ok, r6, q6⟩
        | false =>
          show wpAny _ X.A (handleBy (.ref a) X.env hds2) _ _ _
          exact ih (hno rfl)
      | @as x n c i ts b₀ suite np pos' hds2 l2 hc hi hln hsu r ih =>
        intro w
        obtain ⟨b, hb1, hyes, hno⟩ := w
        have hloc : Loc X.env.scope n := .inl hln
        refine wpAny_handleBy_cons (codeAny_handlers_test ?_) (by intro q; cases q)
        have LT : PySem.W.Looks (model X.prog X.w) h3 (typeOf (.ref a)) cls := fun A Q E s k q => wpAny_typeOf_ref (k _ _ he3) (by rw [hz3.1]; exact q)
        have LM := PySem.W.exm_one (M := model X.prog X.w) (J3.kIn) LT hb1
        have test : ∀ {Q : Value → Shared → Prop} {E : Value → Shared → Prop}, Q c { s' with heap := h3 } → wpAny (model X.prog X.w) (X.A.mark (some (.ref a))) (eval (.Name x np) X.env) Q E { s' with heap := h3 } := fun {Q E} q => by
          obtain ⟨hg, hdbg, hm | ⟨hm, hv, hnn⟩⟩ := hc
          · exact ld_glob (X := X.suite a ((a, oe3) :: (X.pn ++ pins))) S3 hg hm q hdbg
          · exact ld_blt (X := X.suite a ((a, oe3) :: (X.pn ++ pins))) S3 hg hm hv q hnn hdbg
        refine test (LM.here ?_)
        cases b with
        | true =>
          refine codeAny_handlers_suite_as ?_
          refine HandSPX.lands_againZ fl3 fun h4 fl4 up4 => ?_
          have J4 : Inv X pins σ' H' { s' with heap := h4 } := J.landed nb fl4.1 ((up.trans up3).trans up4) os ag
          obtain ⟨oe4, vs4, he4, hz4, hd4⟩ := fl4.there
          have S4 := J4.suite he4 hd4 na nL nF
          refine store_ok (X := X.suite a ((a, oe4) :: (X.pn ++ pins))) (v := .ref a) S4 hN hi hloc rfl (fun s5 S5 => ?_) (.inr hln)
          refine wpAny_mono ((hsu a oe4 cls d (X.pn ++ pins) _ hz4 ⟨_, hd4⟩ (fun u2 s2 x2 => fin_as hs hf hex ok tk hN hi hln (fun x s z => hpa (some (.ref a)) x s z) x2) ).run [] s5 _ H' _ (suiteZ_of S5) (hyes rfl a na)) (fun f s6 hsp => ?_) (fun _ _ z => z)
          have end_ : ∀ {σ6 : L2.St} {H6 : Hp} {Q : Shared → Prop} {E : Value → Shared → Prop}, Inv X pins σ6 H6 s6 → (∀ s7, Inv X pins (σ6.set i none) H6 s7 → Q s7) →
              wpAny (model X.prog X.w) X.A (do bindName X.env n .none; unbindBehindTheSuite X.env n pos') (fun _ s7 => Q s7) E s6 := fun {σ6 H6 Q E} S6 hq => gone_ok S6 hN hi hln hq
          cases f with
          | next =>
            obtain ⟨σ6, H6, S6, q6⟩ := hsp
            exact end_ (unsuiteZ S6 ok) fun s7 J7 => ⟨_, _, J7, q6⟩
          | brk =>
            obtain ⟨σ6, H6, S6, q6⟩ := hsp
            exact end_ (unsuiteZ S6 ok) fun s7 J7 => ⟨_, _, J7, q6⟩
          | cont =>
            obtain ⟨σ6, H6, S6, q6⟩ := hsp
            exact end_ (unsuiteZ S6 ok) fun s7 J7 => ⟨_, _, J7, q6⟩
          | ret u =>
            obtain ⟨v6, σ6, H6, S6, r6, q6⟩ := hsp
            exact end_ (unsuiteZ S6 ok) fun s7 J7 => ⟨_, _, _, J7, r6, q6⟩
        | false =>
          show wpAny _ X.A (handleBy (.ref a) X.env hds2) _ _ _
          exact ih (hno rfl)
    exact go hh w
  · cases f with
    | next =>
      obtain ⟨σ', H', J', q⟩ := hsp
      exact wpAny_execs_nil ⟨σ', H', J'.ofTry ok, q⟩
    | brk =>
      obtain ⟨σ', H', J', q⟩ := hsp
      exact ⟨σ', H', J'.ofTry ok, q⟩
    | cont =>
      obtain ⟨σ', H', J', q⟩ := hsp
      exact ⟨σ', H', J'.ofTry ok, q⟩
    | ret u =>
      obtain ⟨v, σ', H', J', r, q⟩ := hsp
      exact ⟨v, σ', H', J'.ofTry ok, r, q⟩
end
end SipX

set_option Elab.async false
set_option linter.all false
set_option maxRecDepth 100000
set_option maxHeartbeats 4000000
noncomputable section
namespace SipX
open PySem PySem.Spec PyProof.Rows L2 HotX L2H
section
variable {M : Model} {prog : Program} {w : World} {A : Around} {E : Value → Shared → Prop} {s : Shared} {K : PySem.W.Frag} {x y C : Addr} {ox oy : Obj} {od od' : Option Obj}
theorem entry_two {Q : Fin → Shared → Prop} (hxy : x ≠ y) (hx : s.heap.get? x = some ox) (hy : s.heap.get? y = some oy) (hnt : ox.cls ≠ .type "tuple") (hq : Q (.done (.ret .notImplemented)) s) :
    wpAny M A (Builtin.«object.__eq__» ⟨[.ref x, .ref y], []⟩) Q E s := objEq_entry_other hxy hx hy hnt hq
theorem call_objEq2 {Q : Value → Shared → Prop} (X : K.In s.heap) (I : PySem.W.InstAt s.heap x ox C od) (hm : PySem.W.mroIn K C (.type "object") = some true) (hxy : x ≠ y) (hy : s.heap.get? y = some oy) (hq : Q .notImplemented s) :
    wpAny (model prog w) A (call (.builtin "object.__eq__") [.ref x, .ref y]) Q E s :=
  wpAny_call (codeAny_call_builtin F.cmp_object.eq.plain F.cmpEntry_eq (PySem.W.check_slot F.cmpKind_eq F.cmpSplit_eq (I.type.andThen (PySem.W.looks_mroIn X hm)) (F.cmpArgs_eq _ _) (entry_two hxy I.1 hy (by rw [I.cls]; intro z; cases z) hq)))
/-- two instances of one class that has no __eq__ of its own -/
theorem rc_two (hu : A.units < cLine) (X : K.In s.heap) (I : PySem.W.InstAt s.heap x ox C od) (J : PySem.W.InstAt s.heap y oy C od') (hxy : x ≠ y) (hm : PySem.W.mroIn K C (.type "object") = some true)
    (hs : PySem.W.findIn K (.ref C) "__eq__" = some (some (.builtin "object.__eq__"))) {Q : Value → Shared → Prop} (h : Q (.bool false) s) : wpAny (model prog w) A (richCompare .Eq (.ref x) (.ref y)) Q E s := by
  have one : wpAny (model prog w) A (tryCompare (.ref x) "__eq__" (.ref y)) (fun r s' => r = none ∧ s' = s) E s := by
    unfold tryCompare
    exact wpAny_bind (HN.ifBound_objEq X I hs (call_objEq2 X I hm hxy J.1 (wpAny_pure ⟨rfl, rfl⟩)))
  have two : wpAny (model prog w) A (tryCompare (.ref y) "__eq__" (.ref x)) (fun r s' => r = none ∧ s' = s) E s := by
    unfold tryCompare
    exact wpAny_bind (HN.ifBound_objEq X J hs (call_objEq2 X J hm (Ne.symm hxy) I.1 (wpAny_pure ⟨rfl, rfl⟩)))
  have h1 : oneThing? .Eq (.ref x) (.ref y) = none := rfl
  simp only [richCompare, cmpInfo_Eq, h1]
  refine wpAny_holding (wpAny_bind (wpAny_cRoomFor hu ?_))
  refine wpAny_bind (I.type.here ?_)
  refine wpAny_bind (J.type.here ?_)
  rw [if_neg (by simp)]
  refine wpAny_bind (wpAny_pure ?_)
  simp only [Bool.false_eq_true, if_false, Bool.not_false, if_true]
  refine wpAny_bind (m := tryCompare (.ref x) _ (.ref y)) (wpAny_mono one (fun r s1 z => ?_) fun _ _ e => e)
  obtain ⟨z1, z2⟩ := z
  subst z1
  subst z2
  refine wpAny_bind (m := tryCompare (.ref y) _ (.ref x)) (wpAny_mono two (fun r s2 z => ?_) fun _ _ e => e)
  obtain ⟨z1, z2⟩ := z
  subst z1
  subst z2
  exact wpAny_bind (wpAny_rule (wpAny_bind (wpAny_isSame_ref_other hxy I.1 J.1 (by rw [I.cls]; intro z; cases z) (wpAny_pure h))))
end
def rEqIns (K : PySem.W.Frag) : R2 := fun x y H Q => ∃ a b C da db fa fb, x = .ref a ∧ y = .ref b ∧ a ≠ b ∧ H a = some (.ins C da fa) ∧ H b = some (.ins C db fb) ∧ PySem.W.mroIn K C (.type "object") = some true ∧
  PySem.W.findIn K (.ref C) "__eq__" = some (some (.builtin "object.__eq__")) ∧ Q (.bl false) H
def rIsRB : R2 := fun x y H Q => ∃ a b, x = .ref a ∧ y = .bl b ∧ Q (.bl false) H
def rIsntRB : R2 := fun x y H Q => ∃ a b, x = .ref a ∧ y = .bl b ∧ Q (.bl true) H
section
variable {X : Cx}
theorem op_eqIns (hu : X.A.units + 1 < cLine) : OpR X (compareOp .Eq) (rEqIns X.K) := by
  intro pins s σ H x y v u Q I rx ry h
  obtain ⟨a, b, C, da, db, fa, fb, rfl, rfl, hab, ha, hb, hm, hs, q⟩ := h
  cases rx
  cases ry
  obtain ⟨mA, O, _⟩ := ins_get I.hok ha
  obtain ⟨od, J, _⟩ := O.look
  obtain ⟨mB, O2, _⟩ := ins_get I.hok hb
  obtain ⟨od2, J2, _⟩ := O2.look
  show wpAny (model X.prog X.w) X.A (richCompare .Eq (.ref a) (.ref b)) (EP X pins σ Q) X.xe s
  exact rc_two (by omega) I.kIn J J2 hab hm hs ⟨.bl false, H, I, rfl, q⟩
theorem op_isRB : OpR X (compareOp .Is) rIsRB := by
  intro pins s σ H x y v u Q I rx ry h
  obtain ⟨a, b, rfl, rfl, q⟩ := h
  cases rx
  cases (show u = Value.bool b from ry)
  show wpAny _ _ (do return Value.bool (← isSame (.ref a) (.bool b))) _ _ _
  exact wpAny_bind (wpAny_of_eq (rfl : isSame (.ref a) (.bool b) = pure false) (wpAny_pure ⟨.bl false, H, I, rfl, q⟩))
theorem op_isntRB : OpR X (compareOp .IsNot) rIsntRB := by
  intro pins s σ H x y v u Q I rx ry h
  obtain ⟨a, b, rfl, rfl, q⟩ := h
  cases rx
  cases (show u = Value.bool b from ry)
  show wpAny _ _ (do return Value.bool (!(← isSame (.ref a) (.bool b)))) _ _ _
  exact wpAny_bind (wpAny_of_eq (rfl : isSame (.ref a) (.bool b) = pure false) (wpAny_pure ⟨.bl true, H, I, rfl, q⟩))
end
/-! ### calls -/
/-- C.m(e, ..): a def of the class at C, called by the class -/
def tClsM (C : Addr) (sp : Sp) (E : XK) (ta : TE) (t : TA) : TE := fun σ H Q => ta σ H fun x H1 => x = .ref C ∧ t σ H1 fun vs H2 => sp vs H2 Q E
def tMethD (C : Addr) (m : Str) (sp : Sp) (dvs : List V) (E : L2.St → XK) (ta : TE) (t : TA) : TE := fun σ H Q => ta σ H fun x H1 => ∃ a dx fs, x = .ref a ∧ H1 a = some (.ins C dx fs) ∧ fs.lookup m = none ∧
  t σ H1 fun vs H2 => sp (x :: (vs ++ dvs)) H2 Q (E σ)
def tCallNS (n m : Nat) (sp : Sp) (gV : List V → List V → List V) (E : L2.St → XK) (t tk : TA) : TE := fun σ H Q => t σ H fun vs H1 => tk σ H1 fun zs H2 => vs.length = n ∧ zs.length = m ∧ sp (gV vs zs) H2 Q (E σ)
section
variable {X : Cx} {CX : CXT} {k n : Nat} {f C : Addr} {mc : Value} {fd : FuncData} {ps ks : List Str} {sp : Sp} {dvs : List V} {ds : List Value} {x m : Str} {p pos apos : Pos} {e o : Expr} {es : List Expr} {kws : List Keyword} {ta : TE} {t tk : TA} {pl : Sem Bool}
  {g : List Value → List Value → List Value} {gV : List V → List V → List V}
theorem pe_clsm {E : XK} (he : PE X o ta) (r : ClX.CRead X.K C mc) (c : ClX.CVal X.K C mc m (.ref f) (.ref f)) (kp : PySem.W.keepIn X.K (.ref f) = true) (F : FnOk X.prog X.w X.K X.mg X.base CX k f fd ps sp) (hr : Room k X.A) (hb : Binds X.K fd ps []) (hx : Passes CX X E) (ha : PA X (e :: es) t)
    (hst : starEach (e :: es) X.env = (false, eval e X.env) :: starEach es X.env := by rfl) (hpl : (backTo pos (starEach es X.env)).any (·.1) = false := by rfl)
    (ht : eval (.Call (.Attribute o m apos) (e :: es) [] pos) X.env = (do
      let ov ← eval o X.env
      standAt apos.atName
      let (f, first) ← holding [ov] (getMethod ov m pl)
      callWith pos f first (backTo pos (starEach (e :: es) X.env)) (backToKw pos (keywordEach [] X.env))) := by rfl) :
    PE X (.Call (.Attribute o m apos) (e :: es) [] pos) (tClsM C sp E ta t) := by
  refine ⟨fun pins s σ H Q I h => ?_⟩
  refine PySem.W.methodCall_KW (pl := pl) (thn (he.run pins s σ H _ I h) fun u s1 ⟨x, H1, I1, rx, ex, q⟩ => ?_) ht
  subst ex
  obtain rfl : u = Value.ref C := rx
  refine PySem.W.method_cls I1.kIn r.ga (ClX.getcval_ok I1 r c fun s2 I2 => ?_)
  refine PySem.W.callWith_K (first := []) (h₀ := X.base) I.ok.mod.kin kp (thn (ha.run pos pins s2 σ H1 _ I2 q) fun us s3 ⟨vs, H2, I3, r3, q3⟩ => ⟨I3.kIn, ?_⟩) hst hpl
  exact run_fn (dvs := []) (ds := []) F hr hb .nil hx I3 r3 (by rw [List.append_nil]; exact q3)
/-- o.m(e, ..): what it raises is wished for at the slots as they stand -/
theorem pe_methD {E : L2.St → XK} (he : PE X o ta) (c : Cls X.K C) (hm : Meth X.K C m f) (F : FnOk X.prog X.w X.K X.mg X.base CX k f fd ps sp) (hr : Room k X.A) (hb : Binds X.K fd ps ds) (hd : Vals dvs ds) (hx : ∀ σ, PassesAt CX X σ (E σ)) (ha : PA X (e :: es) t)
    (hst : starEach (e :: es) X.env = (false, eval e X.env) :: starEach es X.env := by rfl) (hpl : (backTo pos (starEach es X.env)).any (·.1) = false := by rfl)
    (ht : eval (.Call (.Attribute o m apos) (e :: es) [] pos) X.env = (do
      let ov ← eval o X.env
      standAt apos.atName
      let (f, first) ← holding [ov] (getMethod ov m pl)
      callWith pos f first (backTo pos (starEach (e :: es) X.env)) (backToKw pos (keywordEach [] X.env))) := by rfl) :
    PE X (.Call (.Attribute o m apos) (e :: es) [] pos) (tMethD C m sp dvs E ta t) := by
  refine ⟨fun pins s σ H Q I h => ?_⟩
  refine PySem.W.methodCall_KW (pl := pl) (thn (he.run pins s σ H _ I h) fun u s1 ⟨x, H1, I1, rx, a, dx, fs, ex, ea, l, q⟩ => ?_) ht
  subst ex
  obtain rfl : u = Value.ref a := rx
  refine getmeth_ok I1 ea c hm l ?_
  refine PySem.W.callWith_K (first := [.ref a]) (h₀ := X.base) I.ok.mod.kin hm.kp (thn (ha.run pos pins s1 σ H1 _ I1 q) fun us s2 ⟨vs, H2, I2, r, q2⟩ => ⟨I2.kIn, ?_⟩) hst hpl
  exact run_fnSD (us := .ref a :: us) (vs := .ref a :: vs) F hr hb hd (hx σ) I2 (.cons rfl r) q2
theorem pe_methD0 {E : L2.St → XK} (he : PE X o ta) (c : Cls X.K C) (hm : Meth X.K C m f) (F : FnOk X.prog X.w X.K X.mg X.base CX k f fd ps sp) (hr : Room k X.A) (hb : Binds X.K fd ps ds) (hd : Vals dvs ds) (hx : ∀ σ, PassesAt CX X σ (E σ))
    (ht : eval (.Call (.Attribute o m apos) [] [] pos) X.env = (do
      let ov ← eval o X.env
      standAt apos.atName
      let (f, first) ← holding [ov] (getMethod ov m pl)
      callWith pos f first (backTo pos (starEach [] X.env)) (backToKw pos (keywordEach [] X.env))) := by rfl) :
    PE X (.Call (.Attribute o m apos) [] [] pos) (tMethD C m sp dvs E ta tNil) := by
  refine ⟨fun pins s σ H Q I h => ?_⟩
  refine PySem.W.methodCall_KW (pl := pl) (thn (he.run pins s σ H _ I h) fun u s1 ⟨x, H1, I1, rx, a, dx, fs, ex, ea, l, q⟩ => ?_) ht
  subst ex
  obtain rfl : u = Value.ref a := rx
  refine getmeth_ok I1 ea c hm l ?_
  exact PySem.W.callWith_K0 (first := [.ref a]) I1.kIn hm.kp (run_fnSD (us := [.ref a]) (vs := [.ref a]) F hr hb hd (hx σ) I1 (.cons rfl .nil) q)
/-- f(e, .., k = v, ..), likewise -/
theorem pe_callNS {E : L2.St → XK} (F : FnOk X.prog X.w X.K X.mg X.base CX k f fd ps sp) (hr : Room k X.A) (hg : Gl X x) (hm : X.mg x = some (.ref f)) (hk : PySem.W.keepIn X.K (.ref f) = true) (hb : KBn X.K fd ps n ks g gV) (hx : ∀ σ, PassesAt CX X σ (E σ))
    (ha : PA X (e :: es) t) (hkw : PK X kws tk) (hall : (backToKw pos (keywordEach kws X.env)).all (·.1.isSome) = true := by rfl) (hks : (backToKw pos (keywordEach kws X.env)).filterMap (·.1) = ks := by rfl)
    (hdb : (x == ("__debug__" : Str)) = false := by decide) (he : starEach (e :: es) X.env = (false, eval e X.env) :: starEach es X.env := by rfl)
    (hpl : ((backTo pos (starEach (e :: es) X.env)).any (·.1) || (backToKw pos (keywordEach kws X.env)).any (·.1.isNone)) = false := by rfl) :
    PE X (.Call (.Name x p) (e :: es) kws pos) (tCallNS n ks.length sp gV E t tk) := by
  refine ⟨fun pins s σ H Q I h => ?_⟩
  refine wpAny_Call_Name_kw (ld_glob I hg hm ?_ hdb)
  refine PySem.W.callWith_KW (h₀ := X.base) I.ok.mod.kin hk hall (thn (ha.run pos pins s σ H _ I h) fun us s1 ⟨vs, H1, I1, r, q⟩ => ?_) hpl he
  refine thn (hkw.run pos pins s1 σ H1 _ I1 q) fun ws s2 ⟨zs, H2, I2, rz, l1, l2, q2⟩ => ⟨I2.kIn, ?_⟩
  rw [hks]
  have r2 := hb.rel r rz
  refine wpAny_call (codeAny_mono (F.run X.A X.stack s2 H2 ⟨us, ks.zip ws⟩ (g us ws) (gV vs zs) Q (E σ) hr I2.env0 (hb.to s2 us ws I2.kIn (r.length.symm.trans l1) (rz.length.symm.trans l2)) r2 q2) fun r s' hq => ?_)
  cases r with
  | error e => exact hx σ pins H2 s2 e s' I2 hq
  | ok fl =>
    cases fl with
    | ret u => exact I2.after hq
    | next => exact False.elim hq
    | brk => exact False.elim hq
    | cont => exact False.elim hq
end
end SipX

set_option Elab.async false
set_option linter.all false
set_option maxRecDepth 100000
set_option maxHeartbeats 4000000
noncomputable section
namespace Sip
open PySem PySem.Spec PyProof.Rows L2 SipX
noncomputable def top (i : Nat) : Stmt := PySem.Challenge.pw_sipstack_k97_whole_poured_through_a_pipe.main.body.getD i (.Pass ⟨0, 0, 0, 0⟩)
abbrev s_Fault___init__ : Stmt := inClass (top 11) 0
theorem sc_Fault___init__ : FnScope ["self", "number", "taken"] ["self", "number", "taken"] (defScope s_Fault___init__) := ⟨rfl, rfl, rfl, by decide +kernel, rfl, by decide +kernel, by decide +kernel⟩
abbrev d_Fault___init__ : He.DefD := ⟨("Fault", some "__init__"), "__init__", "Fault.__init__", defArgs s_Fault___init__, defBody s_Fault___init__, defScope s_Fault___init__, [], [("taken", .int 0)]⟩
abbrev s_Stalled___init__ : Stmt := inClass (top 12) 0
theorem sc_Stalled___init__ : FnScope ["self", "taken"] ["self", "taken"] (defScope s_Stalled___init__) := ⟨rfl, rfl, rfl, by decide +kernel, rfl, by decide +kernel, by decide +kernel⟩
abbrev d_Stalled___init__ : He.DefD := ⟨("Stalled", some "__init__"), "__init__", "Stalled.__init__", defArgs s_Stalled___init__, defBody s_Stalled___init__, defScope s_Stalled___init__, [], [("taken", .int 0)]⟩
abbrev s_PourFault___init__ : Stmt := inClass (top 21) 0
theorem sc_PourFault___init__ : FnScope ["self", "number", "count", "side"] ["self", "number", "count", "side"] (defScope s_PourFault___init__) := ⟨rfl, rfl, rfl, by decide +kernel, rfl, by decide +kernel, by decide +kernel⟩
abbrev d_PourFault___init__ : He.DefD := ⟨("PourFault", some "__init__"), "__init__", "PourFault.__init__", defArgs s_PourFault___init__, defBody s_PourFault___init__, defScope s_PourFault___init__, [], [("count", .int 0), ("side", .str "source")]⟩
abbrev s_is_byte : Stmt := top 33
theorem sc_is_byte : FnScope ["thing"] ["thing"] (defScope s_is_byte) := ⟨rfl, rfl, rfl, by decide +kernel, rfl, by decide +kernel, by decide +kernel⟩
abbrev d_is_byte : He.DefD := ⟨("is_byte", none), "is_byte", "is_byte", defArgs s_is_byte, defBody s_is_byte, defScope s_is_byte, [], []⟩
abbrev s_count_asked : Stmt := top 34
theorem sc_count_asked : FnScope ["many"] ["many"] (defScope s_count_asked) := ⟨rfl, rfl, rfl, by decide +kernel, rfl, by decide +kernel, by decide +kernel⟩
abbrev d_count_asked : He.DefD := ⟨("count_asked", none), "count_asked", "count_asked", defArgs s_count_asked, defBody s_count_asked, defScope s_count_asked, [], []⟩
abbrev s_bytes_asked : Stmt := top 35
theorem sc_bytes_asked : FnScope ["data", "at", "thing"] ["data"] (defScope s_bytes_asked) := ⟨rfl, rfl, rfl, by decide +kernel, rfl, by decide +kernel, by decide +kernel⟩
abbrev d_bytes_asked : He.DefD := ⟨("bytes_asked", none), "bytes_asked", "bytes_asked", defArgs s_bytes_asked, defBody s_bytes_asked, defScope s_bytes_asked, [], []⟩
abbrev s_length_asked : Stmt := top 36
theorem sc_length_asked : FnScope ["length"] ["length"] (defScope s_length_asked) := ⟨rfl, rfl, rfl, by decide +kernel, rfl, by decide +kernel, by decide +kernel⟩
abbrev d_length_asked : He.DefD := ⟨("length_asked", none), "length_asked", "length_asked", defArgs s_length_asked, defBody s_length_asked, defScope s_length_asked, [], []⟩
abbrev s_File___init__ : Stmt := inClass (top 42) 0
theorem sc_File___init__ : FnScope ["self", "raw", "room", "reads", "writes"] ["self", "raw", "room", "reads", "writes"] (defScope s_File___init__) := ⟨rfl, rfl, rfl, by decide +kernel, rfl, by decide +kernel, by decide +kernel⟩
abbrev d_File___init__ : He.DefD := ⟨("File", some "__init__"), "__init__", "File.__init__", defArgs s_File___init__, defBody s_File___init__, defScope s_File___init__, [], [("room", .int 8), ("reads", .bl true), ("writes", .bl true)]⟩
abbrev s_File_living : Stmt := inClass (top 42) 1
theorem sc_File_living : FnScope ["self"] ["self"] (defScope s_File_living) := ⟨rfl, rfl, rfl, by decide +kernel, rfl, by decide +kernel, by decide +kernel⟩
abbrev d_File_living : He.DefD := ⟨("File", some "living"), "living", "File.living", defArgs s_File_living, defBody s_File_living, defScope s_File_living, [], []⟩
abbrev s_File_readable : Stmt := inClass (top 42) 2
theorem sc_File_readable : FnScope ["self", "many"] ["self", "many"] (defScope s_File_readable) := ⟨rfl, rfl, rfl, by decide +kernel, rfl, by decide +kernel, by decide +kernel⟩
abbrev d_File_readable : He.DefD := ⟨("File", some "readable"), "readable", "File.readable", defArgs s_File_readable, defBody s_File_readable, defScope s_File_readable, [], []⟩
abbrev s_File_writable : Stmt := inClass (top 42) 3
theorem sc_File_writable : FnScope ["self"] ["self"] (defScope s_File_writable) := ⟨rfl, rfl, rfl, by decide +kernel, rfl, by decide +kernel, by decide +kernel⟩
abbrev d_File_writable : He.DefD := ⟨("File", some "writable"), "writable", "File.writable", defArgs s_File_writable, defBody s_File_writable, defScope s_File_writable, [], []⟩
abbrev s_File_lead : Stmt := inClass (top 42) 5
theorem sc_File_lead : FnScope ["self", "place"] ["self", "place"] (defScope s_File_lead) := ⟨rfl, rfl, rfl, by decide +kernel, rfl, by decide +kernel, by decide +kernel⟩
abbrev d_File_lead : He.DefD := ⟨("File", some "lead"), "lead", "File.lead", defArgs s_File_lead, defBody s_File_lead, defScope s_File_lead, [], []⟩
abbrev s_File_hand_on : Stmt := inClass (top 42) 6
theorem sc_File_hand_on : FnScope ["self", "many"] ["self"] (defScope s_File_hand_on) := ⟨rfl, rfl, rfl, by decide +kernel, rfl, by decide +kernel, by decide +kernel⟩
abbrev d_File_hand_on : He.DefD := ⟨("File", some "hand_on"), "hand_on", "File.hand_on", defArgs s_File_hand_on, defBody s_File_hand_on, defScope s_File_hand_on, [], []⟩
abbrev s_File_fetched : Stmt := inClass (top 42) 7
theorem sc_File_fetched : FnScope ["self", "many", "came"] ["self", "many"] (defScope s_File_fetched) := ⟨rfl, rfl, rfl, by decide +kernel, rfl, by decide +kernel, by decide +kernel⟩
abbrev d_File_fetched : He.DefD := ⟨("File", some "fetched"), "fetched", "File.fetched", defArgs s_File_fetched, defBody s_File_fetched, defScope s_File_fetched, [], []⟩
abbrev s_File_gathered : Stmt := inClass (top 42) 8
theorem sc_File_gathered : FnScope ["self", "many", "lacking", "came"] ["self", "many"] (defScope s_File_gathered) := ⟨rfl, rfl, rfl, by decide +kernel, rfl, by decide +kernel, by decide +kernel⟩
abbrev d_File_gathered : He.DefD := ⟨("File", some "gathered"), "gathered", "File.gathered", defArgs s_File_gathered, defBody s_File_gathered, defScope s_File_gathered, [], []⟩
abbrev s_File_shown : Stmt := inClass (top 42) 9
theorem sc_File_shown : FnScope ["self", "many", "whole", "found"] ["self", "many", "whole"] (defScope s_File_shown) := ⟨rfl, rfl, rfl, by decide +kernel, rfl, by decide +kernel, by decide +kernel⟩
abbrev d_File_shown : He.DefD := ⟨("File", some "shown"), "shown", "File.shown", defArgs s_File_shown, defBody s_File_shown, defScope s_File_shown, [], []⟩
abbrev s_File_pulled : Stmt := inClass (top 42) 10
theorem sc_File_pulled : FnScope ["self", "many", "whole", "found"] ["self", "many", "whole"] (defScope s_File_pulled) := ⟨rfl, rfl, rfl, by decide +kernel, rfl, by decide +kernel, by decide +kernel⟩
abbrev d_File_pulled : He.DefD := ⟨("File", some "pulled"), "pulled", "File.pulled", defArgs s_File_pulled, defBody s_File_pulled, defScope s_File_pulled, [], []⟩
abbrev s_File_read : Stmt := inClass (top 42) 11
theorem sc_File_read : FnScope ["self", "many", "whole"] ["self", "many"] (defScope s_File_read) := ⟨rfl, rfl, rfl, by decide +kernel, rfl, by decide +kernel, by decide +kernel⟩
abbrev d_File_read : He.DefD := ⟨("File", some "read"), "read", "File.read", defArgs s_File_read, defBody s_File_read, defScope s_File_read, [.non], []⟩
abbrev s_File_some : Stmt := inClass (top 42) 12
theorem sc_File_some : FnScope ["self", "many"] ["self", "many"] (defScope s_File_some) := ⟨rfl, rfl, rfl, by decide +kernel, rfl, by decide +kernel, by decide +kernel⟩
abbrev d_File_some : He.DefD := ⟨("File", some "some"), "some", "File.some", defArgs s_File_some, defBody s_File_some, defScope s_File_some, [], []⟩
abbrev s_File_peek : Stmt := inClass (top 42) 14
theorem sc_File_peek : FnScope ["self", "many", "whole"] ["self", "many"] (defScope s_File_peek) := ⟨rfl, rfl, rfl, by decide +kernel, rfl, by decide +kernel, by decide +kernel⟩
abbrev d_File_peek : He.DefD := ⟨("File", some "peek"), "peek", "File.peek", defArgs s_File_peek, defBody s_File_peek, defScope s_File_peek, [.int 1], []⟩
abbrev s_File_freed : Stmt := inClass (top 42) 18
theorem sc_File_freed : FnScope ["self", "taken", "e"] ["self", "taken"] (defScope s_File_freed) := ⟨rfl, rfl, rfl, by decide +kernel, rfl, by decide +kernel, by decide +kernel⟩
abbrev d_File_freed : He.DefD := ⟨("File", some "freed"), "freed", "File.freed", defArgs s_File_freed, defBody s_File_freed, defScope s_File_freed, [], []⟩
abbrev s_File_write : Stmt := inClass (top 42) 19
theorem sc_File_write : FnScope ["self", "data", "taken", "whole", "some"] ["self", "data"] (defScope s_File_write) := ⟨rfl, rfl, rfl, by decide +kernel, rfl, by decide +kernel, by decide +kernel⟩
abbrev d_File_write : He.DefD := ⟨("File", some "write"), "write", "File.write", defArgs s_File_write, defBody s_File_write, defScope s_File_write, [], []⟩
abbrev s_File_tell : Stmt := inClass (top 42) 21
theorem sc_File_tell : FnScope ["self"] ["self"] (defScope s_File_tell) := ⟨rfl, rfl, rfl, by decide +kernel, rfl, by decide +kernel, by decide +kernel⟩
abbrev d_File_tell : He.DefD := ⟨("File", some "tell"), "tell", "File.tell", defArgs s_File_tell, defBody s_File_tell, defScope s_File_tell, [], []⟩
abbrev s_File_flush : Stmt := inClass (top 42) 24
theorem sc_File_flush : FnScope ["self"] ["self"] (defScope s_File_flush) := ⟨rfl, rfl, rfl, by decide +kernel, rfl, by decide +kernel, by decide +kernel⟩
abbrev d_File_flush : He.DefD := ⟨("File", some "flush"), "flush", "File.flush", defArgs s_File_flush, defBody s_File_flush, defScope s_File_flush, [], []⟩
abbrev s_File_waiting : Stmt := inClass (top 42) 25
theorem sc_File_waiting : FnScope ["self"] ["self"] (defScope s_File_waiting) := ⟨rfl, rfl, rfl, by decide +kernel, rfl, by decide +kernel, by decide +kernel⟩
abbrev d_File_waiting : He.DefD := ⟨("File", some "waiting"), "waiting", "File.waiting", defArgs s_File_waiting, defBody s_File_waiting, defScope s_File_waiting, [], []⟩
abbrev s_File_close : Stmt := inClass (top 42) 27
theorem sc_File_close : FnScope ["self"] ["self"] (defScope s_File_close) := ⟨rfl, rfl, rfl, by decide +kernel, rfl, by decide +kernel, by decide +kernel⟩
abbrev d_File_close : He.DefD := ⟨("File", some "close"), "close", "File.close", defArgs s_File_close, defBody s_File_close, defScope s_File_close, [], []⟩
abbrev s_File_lost : Stmt := inClass (top 42) 28
theorem sc_File_lost : FnScope ["self"] ["self"] (defScope s_File_lost) := ⟨rfl, rfl, rfl, by decide +kernel, rfl, by decide +kernel, by decide +kernel⟩
abbrev d_File_lost : He.DefD := ⟨("File", some "lost"), "lost", "File.lost", defArgs s_File_lost, defBody s_File_lost, defScope s_File_lost, [], []⟩
abbrev s_File_closed : Stmt := inClass (top 42) 29
theorem sc_File_closed : FnScope ["self"] ["self"] (defScope s_File_closed) := ⟨rfl, rfl, rfl, by decide +kernel, rfl, by decide +kernel, by decide +kernel⟩
abbrev d_File_closed : He.DefD := ⟨("File", some "closed"), "closed", "File.closed", defArgs s_File_closed, defBody s_File_closed, defScope s_File_closed, [], []⟩
abbrev s_File_busy : Stmt := inClass (top 42) 30
theorem sc_File_busy : FnScope ["self"] ["self"] (defScope s_File_busy) := ⟨rfl, rfl, rfl, by decide +kernel, rfl, by decide +kernel, by decide +kernel⟩
abbrev d_File_busy : He.DefD := ⟨("File", some "busy"), "busy", "File.busy", defArgs s_File_busy, defBody s_File_busy, defScope s_File_busy, [], []⟩
abbrev s_alike : Stmt := top 77
theorem sc_alike : FnScope ["source", "target"] ["source", "target"] (defScope s_alike) := ⟨rfl, rfl, rfl, by decide +kernel, rfl, by decide +kernel, by decide +kernel⟩
abbrev d_alike : He.DefD := ⟨("alike", none), "alike", "alike", defArgs s_alike, defBody s_alike, defScope s_alike, [], []⟩
abbrev s_seen_ahead : Stmt := top 78
theorem sc_seen_ahead : FnScope ["source", "many", "count", "e"] ["source", "many", "count"] (defScope s_seen_ahead) := ⟨rfl, rfl, rfl, by decide +kernel, rfl, by decide +kernel, by decide +kernel⟩
abbrev d_seen_ahead : He.DefD := ⟨("seen_ahead", none), "seen_ahead", "seen_ahead", defArgs s_seen_ahead, defBody s_seen_ahead, defScope s_seen_ahead, [], []⟩
abbrev s_handed_on : Stmt := top 79
theorem sc_handed_on : FnScope ["target", "piece", "e"] ["target", "piece"] (defScope s_handed_on) := ⟨rfl, rfl, rfl, by decide +kernel, rfl, by decide +kernel, by decide +kernel⟩
abbrev d_handed_on : He.DefD := ⟨("handed_on", none), "handed_on", "handed_on", defArgs s_handed_on, defBody s_handed_on, defScope s_handed_on, [], []⟩
abbrev s_poured : Stmt := top 80
theorem sc_poured : FnScope ["source", "target", "room", "most", "count", "many", "piece", "taken", "word", "number"] ["source", "target", "room", "most"] (defScope s_poured) := ⟨rfl, rfl, rfl, by decide +kernel, rfl, by decide +kernel, by decide +kernel⟩
abbrev d_poured : He.DefD := ⟨("poured", none), "poured", "poured", defArgs s_poured, defBody s_poured, defScope s_poured, [], []⟩
abbrev s_pour : Stmt := top 81
theorem sc_pour : FnScope ["source", "target", "room", "most"] ["source", "target", "room", "most"] (defScope s_pour) := ⟨rfl, rfl, rfl, by decide +kernel, rfl, by decide +kernel, by decide +kernel⟩
abbrev d_pour : He.DefD := ⟨("pour", none), "pour", "pour", defArgs s_pour, defBody s_pour, defScope s_pour, [], [("room", .int 8), ("most", .non)]⟩
abbrev s_told_anew : Stmt := top 83
theorem sc_told_anew : FnScope ["thing"] ["thing"] (defScope s_told_anew) := ⟨rfl, rfl, rfl, by decide +kernel, rfl, by decide +kernel, by decide +kernel⟩
abbrev d_told_anew : He.DefD := ⟨("told_anew", none), "told_anew", "told_anew", defArgs s_told_anew, defBody s_told_anew, defScope s_told_anew, [], []⟩
abbrev s_Raw___init__ : Stmt := inClass (top 84) 0
theorem sc_Raw___init__ : FnScope ["self"] ["self"] (defScope s_Raw___init__) := ⟨rfl, rfl, rfl, by decide +kernel, rfl, by decide +kernel, by decide +kernel⟩
abbrev d_Raw___init__ : He.DefD := ⟨("Raw", some "__init__"), "__init__", "Raw.__init__", defArgs s_Raw___init__, defBody s_Raw___init__, defScope s_Raw___init__, [], []⟩
abbrev s_Raw_is_shut : Stmt := inClass (top 84) 9
theorem sc_Raw_is_shut : FnScope ["self"] ["self"] (defScope s_Raw_is_shut) := ⟨rfl, rfl, rfl, by decide +kernel, rfl, by decide +kernel, by decide +kernel⟩
abbrev d_Raw_is_shut : He.DefD := ⟨("Raw", some "is_shut"), "is_shut", "Raw.is_shut", defArgs s_Raw_is_shut, defBody s_Raw_is_shut, defScope s_Raw_is_shut, [], []⟩
abbrev s_Raw_asked : Stmt := inClass (top 84) 10
theorem sc_Raw_asked : FnScope ["self"] ["self"] (defScope s_Raw_asked) := ⟨rfl, rfl, rfl, by decide +kernel, rfl, by decide +kernel, by decide +kernel⟩
abbrev d_Raw_asked : He.DefD := ⟨("Raw", some "asked"), "asked", "Raw.asked", defArgs s_Raw_asked, defBody s_Raw_asked, defScope s_Raw_asked, [], []⟩
abbrev s_Raw_noted : Stmt := inClass (top 84) 11
theorem sc_Raw_noted : FnScope ["self", "word", "place", "handed", "came"] ["self", "word", "place", "handed", "came"] (defScope s_Raw_noted) := ⟨rfl, rfl, rfl, by decide +kernel, rfl, by decide +kernel, by decide +kernel⟩
abbrev d_Raw_noted : He.DefD := ⟨("Raw", some "noted"), "noted", "Raw.noted", defArgs s_Raw_noted, defBody s_Raw_noted, defScope s_Raw_noted, [], []⟩
abbrev s_Raw_log : Stmt := inClass (top 84) 12
theorem sc_Raw_log : FnScope ["self", "word", "place", "handed", "came"] ["self"] (defScope s_Raw_log) := ⟨rfl, rfl, rfl, by decide +kernel, rfl, by decide +kernel, by decide +kernel⟩
abbrev d_Raw_log : He.DefD := ⟨("Raw", some "log"), "log", "Raw.log", defArgs s_Raw_log, defBody s_Raw_log, defScope s_Raw_log, [], []⟩
abbrev s_laid : Stmt := top 88
theorem sc_laid : FnScope ["row", "place", "data", "filled"] ["row", "place", "data"] (defScope s_laid) := ⟨rfl, rfl, rfl, by decide +kernel, rfl, by decide +kernel, by decide +kernel⟩
abbrev d_laid : He.DefD := ⟨("laid", none), "laid", "laid", defArgs s_laid, defBody s_laid, defScope s_laid, [], []⟩
abbrev s_Device___init__ : Stmt := inClass (top 91) 0
theorem sc_Device___init__ : FnScope ["self", "content", "plan", "seeks"] ["self", "content", "plan", "seeks"] (defScope s_Device___init__) := ⟨rfl, rfl, rfl, by decide +kernel, rfl, by decide +kernel, by decide +kernel⟩
abbrev d_Device___init__ : He.DefD := ⟨("Device", some "__init__"), "__init__", "Device.__init__", defArgs s_Device___init__, defBody s_Device___init__, defScope s_Device___init__, [], [("seeks", .bl true)]⟩
abbrev s_Device_seeks : Stmt := inClass (top 91) 1
theorem sc_Device_seeks : FnScope ["self"] ["self"] (defScope s_Device_seeks) := ⟨rfl, rfl, rfl, by decide +kernel, rfl, by decide +kernel, by decide +kernel⟩
abbrev d_Device_seeks : He.DefD := ⟨("Device", some "seeks"), "seeks", "Device.seeks", defArgs s_Device_seeks, defBody s_Device_seeks, defScope s_Device_seeks, [], []⟩
abbrev s_Device_seeking : Stmt := inClass (top 91) 2
theorem sc_Device_seeking : FnScope ["self"] ["self"] (defScope s_Device_seeking) := ⟨rfl, rfl, rfl, by decide +kernel, rfl, by decide +kernel, by decide +kernel⟩
abbrev d_Device_seeking : He.DefD := ⟨("Device", some "seeking"), "seeking", "Device.seeking", defArgs s_Device_seeking, defBody s_Device_seeking, defScope s_Device_seeking, [], []⟩
abbrev s_Device_place : Stmt := inClass (top 91) 3
theorem sc_Device_place : FnScope ["self"] ["self"] (defScope s_Device_place) := ⟨rfl, rfl, rfl, by decide +kernel, rfl, by decide +kernel, by decide +kernel⟩
abbrev d_Device_place : He.DefD := ⟨("Device", some "place"), "place", "Device.place", defArgs s_Device_place, defBody s_Device_place, defScope s_Device_place, [], []⟩
abbrev s_Device_longer : Stmt := inClass (top 91) 5
theorem sc_Device_longer : FnScope ["self", "length"] ["self", "length"] (defScope s_Device_longer) := ⟨rfl, rfl, rfl, by decide +kernel, rfl, by decide +kernel, by decide +kernel⟩
abbrev d_Device_longer : He.DefD := ⟨("Device", some "longer"), "longer", "Device.longer", defArgs s_Device_longer, defBody s_Device_longer, defScope s_Device_longer, [], []⟩
abbrev s_Device_drawn : Stmt := inClass (top 91) 6
theorem sc_Device_drawn : FnScope ["self", "word", "handed", "at", "number"] ["self", "word", "handed"] (defScope s_Device_drawn) := ⟨rfl, rfl, rfl, by decide +kernel, rfl, by decide +kernel, by decide +kernel⟩
abbrev d_Device_drawn : He.DefD := ⟨("Device", some "drawn"), "drawn", "Device.drawn", defArgs s_Device_drawn, defBody s_Device_drawn, defScope s_Device_drawn, [], []⟩
abbrev s_Device_take : Stmt := inClass (top 91) 7
theorem sc_Device_take : FnScope ["self", "many", "number", "most", "found"] ["self", "many"] (defScope s_Device_take) := ⟨rfl, rfl, rfl, by decide +kernel, rfl, by decide +kernel, by decide +kernel⟩
abbrev d_Device_take : He.DefD := ⟨("Device", some "take"), "take", "Device.take", defArgs s_Device_take, defBody s_Device_take, defScope s_Device_take, [], []⟩
abbrev s_Device_put : Stmt := inClass (top 91) 8
theorem sc_Device_put : FnScope ["self", "data", "number", "many"] ["self", "data"] (defScope s_Device_put) := ⟨rfl, rfl, rfl, by decide +kernel, rfl, by decide +kernel, by decide +kernel⟩
abbrev d_Device_put : He.DefD := ⟨("Device", some "put"), "put", "Device.put", defArgs s_Device_put, defBody s_Device_put, defScope s_Device_put, [], []⟩
abbrev s_Device_content : Stmt := inClass (top 91) 12
theorem sc_Device_content : FnScope ["self"] ["self"] (defScope s_Device_content) := ⟨rfl, rfl, rfl, by decide +kernel, rfl, by decide +kernel, by decide +kernel⟩
abbrev d_Device_content : He.DefD := ⟨("Device", some "content"), "content", "Device.content", defArgs s_Device_content, defBody s_Device_content, defScope s_Device_content, [], []⟩
abbrev s_End___init__ : Stmt := inClass (top 94) 0
theorem sc_End___init__ : FnScope ["self", "pipe"] ["self", "pipe"] (defScope s_End___init__) := ⟨rfl, rfl, rfl, by decide +kernel, rfl, by decide +kernel, by decide +kernel⟩
abbrev d_End___init__ : He.DefD := ⟨("End", some "__init__"), "__init__", "End.__init__", defArgs s_End___init__, defBody s_End___init__, defScope s_End___init__, [], []⟩
abbrev s_End_seeks : Stmt := inClass (top 94) 5
theorem sc_End_seeks : FnScope ["self"] ["self"] (defScope s_End_seeks) := ⟨rfl, rfl, rfl, by decide +kernel, rfl, by decide +kernel, by decide +kernel⟩
abbrev d_End_seeks : He.DefD := ⟨("End", some "seeks"), "seeks", "End.seeks", defArgs s_End_seeks, defBody s_End_seeks, defScope s_End_seeks, [], []⟩
abbrev s_Mouth_put : Stmt := inClass (top 95) 1
theorem sc_Mouth_put : FnScope ["self", "data", "fit"] ["self", "data"] (defScope s_Mouth_put) := ⟨rfl, rfl, rfl, by decide +kernel, rfl, by decide +kernel, by decide +kernel⟩
abbrev d_Mouth_put : He.DefD := ⟨("Mouth", some "put"), "put", "Mouth.put", defArgs s_Mouth_put, defBody s_Mouth_put, defScope s_Mouth_put, [], []⟩
abbrev s_Drain_take : Stmt := inClass (top 96) 0
theorem sc_Drain_take : FnScope ["self", "many", "found"] ["self", "many"] (defScope s_Drain_take) := ⟨rfl, rfl, rfl, by decide +kernel, rfl, by decide +kernel, by decide +kernel⟩
abbrev d_Drain_take : He.DefD := ⟨("Drain", some "take"), "take", "Drain.take", defArgs s_Drain_take, defBody s_Drain_take, defScope s_Drain_take, [], []⟩
abbrev s_Mouth_take : Stmt := inClass (top 95) 0
theorem sc_Mouth_take : FnScope ["self", "many"] ["self", "many"] (defScope s_Mouth_take) := ⟨rfl, rfl, rfl, by decide +kernel, rfl, by decide +kernel, by decide +kernel⟩
abbrev d_Mouth_take : He.DefD := ⟨("Mouth", some "take"), "take", "Mouth.take", defArgs s_Mouth_take, defBody s_Mouth_take, defScope s_Mouth_take, [], []⟩
abbrev s_Drain_put : Stmt := inClass (top 96) 1
theorem sc_Drain_put : FnScope ["self", "data"] ["self", "data"] (defScope s_Drain_put) := ⟨rfl, rfl, rfl, by decide +kernel, rfl, by decide +kernel, by decide +kernel⟩
abbrev d_Drain_put : He.DefD := ⟨("Drain", some "put"), "put", "Drain.put", defArgs s_Drain_put, defBody s_Drain_put, defScope s_Drain_put, [], []⟩
abbrev s_Pipe___init__ : Stmt := inClass (top 97) 0
theorem sc_Pipe___init__ : FnScope ["self", "room"] ["self", "room"] (defScope s_Pipe___init__) := ⟨rfl, rfl, rfl, by decide +kernel, rfl, by decide +kernel, by decide +kernel⟩
abbrev d_Pipe___init__ : He.DefD := ⟨("Pipe", some "__init__"), "__init__", "Pipe.__init__", defArgs s_Pipe___init__, defBody s_Pipe___init__, defScope s_Pipe___init__, [], [("room", .int 8)]⟩
abbrev s_Pipe_into : Stmt := inClass (top 97) 1
theorem sc_Pipe_into : FnScope ["self"] ["self"] (defScope s_Pipe_into) := ⟨rfl, rfl, rfl, by decide +kernel, rfl, by decide +kernel, by decide +kernel⟩
abbrev d_Pipe_into : He.DefD := ⟨("Pipe", some "into"), "into", "Pipe.into", defArgs s_Pipe_into, defBody s_Pipe_into, defScope s_Pipe_into, [], []⟩
abbrev s_Pipe_out : Stmt := inClass (top 97) 2
theorem sc_Pipe_out : FnScope ["self"] ["self"] (defScope s_Pipe_out) := ⟨rfl, rfl, rfl, by decide +kernel, rfl, by decide +kernel, by decide +kernel⟩
abbrev d_Pipe_out : He.DefD := ⟨("Pipe", some "out"), "out", "Pipe.out", defArgs s_Pipe_out, defBody s_Pipe_out, defScope s_Pipe_out, [], []⟩
abbrev s_Pipe_held : Stmt := inClass (top 97) 3
theorem sc_Pipe_held : FnScope ["self"] ["self"] (defScope s_Pipe_held) := ⟨rfl, rfl, rfl, by decide +kernel, rfl, by decide +kernel, by decide +kernel⟩
abbrev d_Pipe_held : He.DefD := ⟨("Pipe", some "held"), "held", "Pipe.held", defArgs s_Pipe_held, defBody s_Pipe_held, defScope s_Pipe_held, [], []⟩
abbrev s__law_pool : Stmt := top 99
theorem sc__law_pool : FnScope ["_law_script", "_law_at", "_law_cell", "_law_digits"] ["_law_script", "_law_at"] (defScope s__law_pool) := ⟨rfl, rfl, rfl, by decide +kernel, rfl, by decide +kernel, by decide +kernel⟩
abbrev d__law_pool : He.DefD := ⟨("_law_pool", none), "_law_pool", "_law_pool", defArgs s__law_pool, defBody s__law_pool, defScope s__law_pool, [], []⟩
abbrev s__law_take : Stmt := top 100
theorem sc__law_take : FnScope ["_law_pool_here", "_law_wide", "_law_found", "_law_seed"] ["_law_pool_here", "_law_wide"] (defScope s__law_take) := ⟨rfl, rfl, rfl, by decide +kernel, rfl, by decide +kernel, by decide +kernel⟩
abbrev d__law_take : He.DefD := ⟨("_law_take", none), "_law_take", "_law_take", defArgs s__law_take, defBody s__law_take, defScope s__law_take, [], []⟩
abbrev s__law_row : Stmt := top 101
theorem sc__law_row : FnScope ["_law_pool_here", "_law_long", "_law_row_here", "_law_k", "_law_way"] ["_law_pool_here", "_law_long"] (defScope s__law_row) := ⟨rfl, rfl, rfl, by decide +kernel, rfl, by decide +kernel, by decide +kernel⟩
abbrev d__law_row : He.DefD := ⟨("_law_row", none), "_law_row", "_law_row", defArgs s__law_row, defBody s__law_row, defScope s__law_row, [], []⟩
abbrev s__law_plan : Stmt := top 102
theorem sc__law_plan : FnScope ["_law_pool_here", "_law_long", "_law_troubles", "_law_numbers", "_law_k", "_law_way"] ["_law_pool_here", "_law_long", "_law_troubles"] (defScope s__law_plan) := ⟨rfl, rfl, rfl, by decide +kernel, rfl, by decide +kernel, by decide +kernel⟩
abbrev d__law_plan : He.DefD := ⟨("_law_plan", none), "_law_plan", "_law_plan", defArgs s__law_plan, defBody s__law_plan, defScope s__law_plan, [], []⟩
abbrev s__law_laid : Stmt := top 103
theorem sc__law_laid : FnScope ["_law_row_here", "_law_place", "_law_data", "_law_found"] ["_law_row_here", "_law_place", "_law_data"] (defScope s__law_laid) := ⟨rfl, rfl, rfl, by decide +kernel, rfl, by decide +kernel, by decide +kernel⟩
abbrev d__law_laid : He.DefD := ⟨("_law_laid", none), "_law_laid", "_law_laid", defArgs s__law_laid, defBody s__law_laid, defScope s__law_laid, [], []⟩
abbrev s__law_poured : Stmt := top 104
theorem sc__law_poured : FnScope ["_law_source", "_law_target", "_law_wide", "_law_limit", "_law_one", "_law_other", "_law_word", "_law_count", "e"] ["_law_source", "_law_target", "_law_wide", "_law_limit"] (defScope s__law_poured) := ⟨rfl, rfl, rfl, by decide +kernel, rfl, by decide +kernel, by decide +kernel⟩
abbrev d__law_poured : He.DefD := ⟨("_law_poured", none), "_law_poured", "_law_poured", defArgs s__law_poured, defBody s__law_poured, defScope s__law_poured, [], []⟩
abbrev s__law_flushed : Stmt := top 105
theorem sc__law_flushed : FnScope ["_law_file", "_law_taken", "e"] ["_law_file"] (defScope s__law_flushed) := ⟨rfl, rfl, rfl, by decide +kernel, rfl, by decide +kernel, by decide +kernel⟩
abbrev d__law_flushed : He.DefD := ⟨("_law_flushed", none), "_law_flushed", "_law_flushed", defArgs s__law_flushed, defBody s__law_flushed, defScope s__law_flushed, [], []⟩
abbrev s__law_stands : Stmt := top 106
theorem sc__law_stands : FnScope ["_law_m", "_law_row_here", "_law_taken", "_law_word", "_law_place", "_law_handed", "_law_came", "_law_there", "_law_wait", "_law_way"] ["_law_m"] (defScope s__law_stands) := ⟨rfl, rfl, rfl, by decide +kernel, rfl, by decide +kernel, by decide +kernel⟩
abbrev d__law_stands : He.DefD := ⟨("_law_stands", none), "_law_stands", "_law_stands", defArgs s__law_stands, defBody s__law_stands, defScope s__law_stands, [], []⟩
abbrev s__law_deed : Stmt := top 107
theorem sc__law_deed : FnScope ["_law_pool_here", "_law_m", "_law_way", "_law_wide", "_law_limit"] ["_law_pool_here", "_law_m"] (defScope s__law_deed) := ⟨rfl, rfl, rfl, by decide +kernel, rfl, by decide +kernel, by decide +kernel⟩
abbrev d__law_deed : He.DefD := ⟨("_law_deed", none), "_law_deed", "_law_deed", defArgs s__law_deed, defBody s__law_deed, defScope s__law_deed, [], []⟩
abbrev s__law_all_come : Stmt := top 108
theorem sc__law_all_come : FnScope ["_law_m", "_law_k", "_law_one", "_law_emptied", "_law_other"] ["_law_m"] (defScope s__law_all_come) := ⟨rfl, rfl, rfl, by decide +kernel, rfl, by decide +kernel, by decide +kernel⟩
abbrev d__law_all_come : He.DefD := ⟨("_law_all_come", none), "_law_all_come", "_law_all_come", defArgs s__law_all_come, defBody s__law_all_come, defScope s__law_all_come, [], []⟩
abbrev s_law : Stmt := top 109
theorem sc_law : FnScope ["_law_script", "_law_pool_here", "_law_row_here", "_law_behind", "_law_device", "_law_there", "_law_pipe", "_law_m", "_law_k", "_law_found"] ["_law_script"] (defScope s_law) := ⟨rfl, rfl, rfl, by decide +kernel, rfl, by decide +kernel, by decide +kernel⟩
abbrev d_law : He.DefD := ⟨("law", none), "law", "law", defArgs s_law, defBody s_law, defScope s_law, [], []⟩
/-- the function object of a def -/
def fdO (K : PySem.W.Frag) (d : He.DefD) : FuncData := match K.lookup (He.fAd K d.at_) with
  | some ⟨_, _, .func fd, _⟩ => fd
  | _ => PySem.W.fnOf d.name d.qual d.params d.body d.scope .none .none .none .none none .none .none
abbrev FD (K : PySem.W.Frag) (d : He.DefD) : Prop := FunD K d.name d.qual d.params d.body d.scope (d.dvs K) (d.kws K) (He.fAd K d.at_) (fdO K d)
theorem fd_of {fa : List He.Fa} {fn : List He.DefD} {K : PySem.W.Frag} (c : He.SaysD fa fn K) (i : Nat) {d : He.DefD} (h : fn[i]? = some d) : FD K d := by
  obtain ⟨fd, F⟩ := c.def_ i h
  have e : fdO K d = fd := by
    obtain ⟨oc, od, dV, kV, doc, pm, an, cdv, ct, osl, e1, lk, _⟩ := F.ex
    unfold fdO
    rw [lk]
  rw [← e] at F
  exact F
def methB (K : PySem.W.Frag) (x m : Str) (d : He.DefD) : Bool := He.eqO (PySem.W.findIn K (.ref (He.ga K x)) m) (some (some (.ref (He.fAd K d.at_)))) && (PySem.W.isFn K (.ref (He.fAd K d.at_)) && PySem.W.keepIn K (.ref (He.fAd K d.at_)))
theorem methB_ok {K : PySem.W.Frag} {x m : Str} {d : He.DefD} (h : methB K x m d = true) : Meth K (He.ga K x) m (He.fAd K d.at_) := by
  obtain ⟨h1, h⟩ := He.ba h
  obtain ⟨h2, h3⟩ := He.ba h
  exact ⟨He.eqO_ok h1, h2, h3⟩
def mkB (K : PySem.W.Frag) (x : Str) (d : He.DefD) : Bool := PySem.W.makesIn K (He.ga K x) && (He.eqO (PySem.W.findIn K (.ref (He.ga K x)) "__init__") (some (some (.ref (He.fAd K d.at_)))) && (PySem.W.isFn K (.ref (He.fAd K d.at_)) && PySem.W.keepIn K (.ref (He.ga K x))))
theorem mkB_ok {K : PySem.W.Frag} {x : Str} {d : He.DefD} (h : mkB K x d = true) : Mk K (He.ga K x) (He.fAd K d.at_) := by
  obtain ⟨h1, h⟩ := He.ba h
  obtain ⟨h2, h⟩ := He.ba h
  obtain ⟨h3, h4⟩ := He.ba h
  exact ⟨h1, He.eqO_ok h2, h3, h4⟩
def initB (K : PySem.W.Frag) (x : Str) (d : He.DefD) : Bool := He.eqO (PySem.W.findIn K (.ref (He.ga K x)) "__init__") (some (some (.ref (He.fAd K d.at_)))) && decide (PySem.W.typeIn K (.ref (He.fAd K d.at_)) = some (.type "function"))
theorem initB_ok {K : PySem.W.Frag} {x : Str} {d : He.DefD} (h : initB K x d = true) : PySem.W.findIn K (.ref (He.ga K x)) "__init__" = some (some (.ref (He.fAd K d.at_))) ∧ PySem.W.typeIn K (.ref (He.fAd K d.at_)) = some (.type "function") := by
  obtain ⟨h1, h2⟩ := He.ba h
  exact ⟨He.eqO_ok h1, of_decide_eq_true h2⟩
/-- an exception's class object as ValueError's own children have it -/
def oexO (K : PySem.W.Frag) (C : Addr) : Bool := match K.lookup C with
  | some ⟨cl, od, .cls ⟨nm, bs, c0 :: bm, N, q, true, sn, sub, ab, col, hd⟩, sl⟩ => (match cl, sl.toList with
    | .type m, [k0, k1, k2, k3, k4, k5] => decide (m = "type") && (decide (c0 = .ref C) && (!hd && (decide (k4 = some (.builtin "ValueError.__new__")) && PySem.HandSPX.refsVE bm)))
    | _, _ => false)
  | _ => false
def oexB (K : PySem.W.Frag) (C : Addr) : Bool := oexO K C && (He.eqO (PySem.W.findIn K (.ref C) "__setattr__") (some (some (.builtin "object.__setattr__"))) && (decide (PySem.W.subIn K (.ref C) (.type "BaseException") = some true) && (decide (PySem.W.typeIn K (.ref C) = some (.type "type")) && PySem.W.keepIn K (.ref C))))
theorem oexB_ok {K : PySem.W.Frag} {C : Addr} (h : oexB K C = true) : OexC K C := by
  obtain ⟨h1, h⟩ := He.ba h
  obtain ⟨h2, h⟩ := He.ba h
  obtain ⟨h3, h⟩ := He.ba h
  obtain ⟨h4, h5⟩ := He.ba h
  refine ⟨?_, He.eqO_ok h2, of_decide_eq_true h3, of_decide_eq_true h4, h5⟩
  unfold oexO at h1
  split at h1
  · rename_i cl od nm bs c0 bm N q sn sub ab col hd sl e
    split at h1
    · rename_i m k0 k1 k2 k3 k4 k5 es
      obtain ⟨a1, h1⟩ := He.ba h1
      obtain ⟨a2, h1⟩ := He.ba h1
      obtain ⟨a3, h1⟩ := He.ba h1
      obtain ⟨a4, a5⟩ := He.ba h1
      have b1 := of_decide_eq_true a1
      have b2 := of_decide_eq_true a2
      have b4 := of_decide_eq_true a4
      have b3 : hd = false := by simpa using a3
      subst b1 b2 b3 b4
      refine ⟨nm, q, N, bs, bm, sn, sub, ab, col, od, k0, k1, k2, k3, k5, ?_, a5⟩
      rw [e]
      have : sl = #[k0, k1, k2, k3, some (.builtin "ValueError.__new__"), k5] := by
        apply Array.toList_inj.mp
        exact es
      rw [this]
    · cases h1
  · cases h1
def rawB (K : PySem.W.Frag) : Bool := PySem.W.readsIn K (He.ga K "Raw") (.type "type") && (decide (PySem.W.specialIn K (.ref (He.ga K "Raw")) "__getattribute__" = some (some (.builtin "type.__getattribute__"))) && (match PySem.W.findCls K (.ref (He.ga K "Raw")) (.type "type") "__init__" with
  | some (.val v) => decide (v = .ref (He.fAd K d_Raw___init__.at_))
  | _ => false))
theorem rawB_ok {K : PySem.W.Frag} (h : rawB K = true) : ClX.CRead K (He.ga K "Raw") (.type "type") ∧ ClX.CVal K (He.ga K "Raw") (.type "type") "__init__" (.ref (He.fAd K d_Raw___init__.at_)) (.ref (He.fAd K d_Raw___init__.at_)) := by
  obtain ⟨h1, h⟩ := He.ba h
  obtain ⟨h2, h3⟩ := He.ba h
  refine ⟨⟨h1, of_decide_eq_true h2⟩, ⟨?_, rfl⟩⟩
  split at h3
  · rename_i v e
    rw [e, of_decide_eq_true h3]
  · cases h3
/-- an own class whose instances' class is asked, and which has object's == -/
structure InsC (K : PySem.W.Frag) (C : Addr) : Prop where
  ha : PySem.W.findIn K (.ref C) "__class__" = some (some (.builtin "object.__class__"))
  hn : PySem.W.specialIn K (.builtin "object.__class__") "__get__" = some (some (.builtin "getset_descriptor.__get__"))
  htk : PySem.W.takesIn K (.builtin "object.__class__") = some true
  hm : PySem.W.mroIn K C (.type "object") = some true
  eq : PySem.W.findIn K (.ref C) "__eq__" = some (some (.builtin "object.__eq__"))
def insB (K : PySem.W.Frag) (C : Addr) : Bool := He.eqO (PySem.W.findIn K (.ref C) "__class__") (some (some (.builtin "object.__class__"))) && (He.eqO (PySem.W.specialIn K (.builtin "object.__class__") "__get__") (some (some (.builtin "getset_descriptor.__get__"))) &&
  (decide (PySem.W.takesIn K (.builtin "object.__class__") = some true) && (decide (PySem.W.mroIn K C (.type "object") = some true) && He.eqO (PySem.W.findIn K (.ref C) "__eq__") (some (some (.builtin "object.__eq__"))))))
theorem insB_ok {K : PySem.W.Frag} {C : Addr} (h : insB K C = true) : InsC K C := by
  obtain ⟨h1, h⟩ := He.ba h
  obtain ⟨h2, h⟩ := He.ba h
  obtain ⟨h3, h⟩ := He.ba h
  obtain ⟨h4, h5⟩ := He.ba h
  exact ⟨He.eqO_ok h1, He.eqO_ok h2, of_decide_eq_true h3, of_decide_eq_true h4, He.eqO_ok h5⟩
def fnL : List He.DefD := [d_Fault___init__, d_Stalled___init__, d_PourFault___init__, d_is_byte, d_count_asked, d_bytes_asked, d_length_asked, d_File___init__, d_File_living, d_File_readable, d_File_writable, d_File_lead, d_File_hand_on, d_File_fetched, d_File_gathered, d_File_shown, d_File_pulled, d_File_read, d_File_some, d_File_peek, d_File_freed, d_File_write, d_File_tell, d_File_flush, d_File_waiting, d_File_close, d_File_lost, d_File_closed, d_File_busy, d_alike, d_seen_ahead, d_handed_on, d_poured, d_pour, d_told_anew, d_Raw___init__, d_Raw_is_shut, d_Raw_asked, d_Raw_noted, d_Raw_log, d_laid, d_Device___init__, d_Device_seeks, d_Device_seeking, d_Device_place, d_Device_longer, d_Device_drawn, d_Device_take, d_Device_put, d_Device_content, d_End___init__, d_End_seeks, d_Mouth_put, d_Drain_take, d_Mouth_take, d_Drain_put, d_Pipe___init__, d_Pipe_into, d_Pipe_out, d_Pipe_held, d__law_pool, d__law_take, d__law_row, d__law_plan, d__law_laid, d__law_poured, d__law_flushed, d__law_stands, d__law_deed, d__law_all_come, d_law]
def faL : List He.Fa := List.append [.cls "File", .cls "Device", .cls "Mouth", .cls "Drain", .cls "Pipe", .noat "File" "raw", .noat "File" "room", .noat "File" "reading", .noat "File" "writing", .noat "File" "pouring", .noat "File" "live", .noat "File" "cursor", .noat "File" "ahead", .noat "File" "delayed", .noat "File" "missed", .noat "Device" "live", .noat "Device" "notes", .noat "Device" "stock", .noat "Device" "plan", .noat "Device" "spot"] (List.append [.noat "Device" "steady", .noat "Mouth" "live", .noat "Mouth" "notes", .noat "Mouth" "pipe", .noat "Mouth" "gone", .noat "Drain" "live", .noat "Drain" "notes", .noat "Drain" "pipe", .noat "Drain" "gone", .noat "Pipe" "room", .noat "Pipe" "inside", .noat "Pipe" "high", .noat "Pipe" "low", .noat "Fault" "number", .noat "Fault" "taken", .noat "Stalled" "taken", .noat "PourFault" "number", .noat "PourFault" "count", .noat "PourFault" "side", .glo "is_byte"] (List.append [.glo "count_asked", .glo "bytes_asked", .glo "length_asked", .glo "alike", .glo "seen_ahead", .glo "handed_on", .glo "poured", .glo "pour", .glo "told_anew", .glo "laid", .glo "_law_pool", .glo "_law_take", .glo "_law_row", .glo "_law_plan", .glo "_law_laid", .glo "_law_poured", .glo "_law_flushed", .glo "_law_stands", .glo "_law_deed", .glo "_law_all_come"] (List.append [.glo "law", .glo "File", .glo "Device", .glo "Mouth", .glo "Drain", .glo "Pipe", .glo "Fault", .glo "Stalled", .glo "PourFault", .glo "Raw", .free "len", .free "list", .free "isinstance", .free "int", .free "bool", .free "enumerate", .free "max", .free "min", .free "range", .int "LONGEST" 4000] [.int "GREATEST" 255, .int "MOST_ROOM_files" 64, .int "MOST_ROOM_pouring" 64, .int "MOST_ROOM_pipe" 64, .int "BROKEN" 99, .exm "Stalled" "Stalled" true, .exm "Fault" "Stalled" false, .exm "Fault" "Fault" true, .exm "PourFault" "PourFault" true, .exm "Stalled" "Fault" false])))
def xbL (K : PySem.W.Frag) : List Bool := [methB K "File" "living" d_File_living, methB K "File" "readable" d_File_readable, methB K "File" "writable" d_File_writable, methB K "File" "lead" d_File_lead, methB K "File" "hand_on" d_File_hand_on, methB K "File" "fetched" d_File_fetched, methB K "File" "gathered" d_File_gathered, methB K "File" "shown" d_File_shown, methB K "File" "pulled" d_File_pulled, methB K "File" "read" d_File_read, methB K "File" "some" d_File_some, methB K "File" "peek" d_File_peek, methB K "File" "freed" d_File_freed, methB K "File" "write" d_File_write, methB K "File" "tell" d_File_tell, methB K "File" "flush" d_File_flush, methB K "File" "waiting" d_File_waiting, methB K "File" "close" d_File_close, methB K "File" "lost" d_File_lost, methB K "File" "closed" d_File_closed] ++ ([methB K "File" "busy" d_File_busy, methB K "Device" "is_shut" d_Raw_is_shut, methB K "Device" "asked" d_Raw_asked, methB K "Device" "noted" d_Raw_noted, methB K "Device" "seeks" d_Device_seeks, methB K "Device" "seeking" d_Device_seeking, methB K "Device" "place" d_Device_place, methB K "Device" "longer" d_Device_longer, methB K "Device" "drawn" d_Device_drawn, methB K "Device" "take" d_Device_take, methB K "Device" "put" d_Device_put, methB K "Device" "content" d_Device_content, methB K "Mouth" "is_shut" d_Raw_is_shut, methB K "Mouth" "asked" d_Raw_asked, methB K "Mouth" "noted" d_Raw_noted, methB K "Mouth" "seeks" d_End_seeks, methB K "Mouth" "put" d_Mouth_put, methB K "Mouth" "take" d_Mouth_take, methB K "Drain" "is_shut" d_Raw_is_shut, methB K "Drain" "asked" d_Raw_asked] ++ ([methB K "Drain" "noted" d_Raw_noted, methB K "Drain" "log" d_Raw_log, methB K "Drain" "seeks" d_End_seeks, methB K "Drain" "take" d_Drain_take, methB K "Drain" "put" d_Drain_put, methB K "Pipe" "into" d_Pipe_into, methB K "Pipe" "out" d_Pipe_out, methB K "Pipe" "held" d_Pipe_held, mkB K "File" d_File___init__, mkB K "Device" d_Device___init__, mkB K "Mouth" d_End___init__, mkB K "Drain" d_End___init__, mkB K "Pipe" d_Pipe___init__, oexB K (He.ga K "Fault"), xfB K (He.ga K "Fault"), initB K "Fault" d_Fault___init__, oexB K (He.ga K "Stalled"), xfB K (He.ga K "Stalled"), initB K "Stalled" d_Stalled___init__, oexB K (He.ga K "PourFault")] ++ ([xfB K (He.ga K "PourFault"), initB K "PourFault" d_PourFault___init__, rawB K, insB K (He.ga K "File")])))

/-- what the walk leans on -/
structure Txt (K : PySem.W.Frag) (mg : Str → Option Value) : Prop where
  fn : ∀ (i : Nat) (d : He.DefD), fnL[i]? = some d → FD K d
  fa : ∀ (i : Nat) (f : He.Fa), faL[i]? = some f → f.ok K = true
  xb : ∀ (i : Nat) (b : Bool), (xbL K)[i]? = some b → b = true
  glo : ∀ (i : Nat) (f : He.Fa), faL[i]? = some f → ∀ (x : Str), f = He.Fa.glo x → mg x = some (.ref (He.ga K x))
  free : ∀ (i : Nat) (f : He.Fa), faL[i]? = some f → ∀ (x : Str), f = He.Fa.free x → mg x = none
  int : ∀ (i : Nat) (f : He.Fa), faL[i]? = some f → ∀ (x : Str) (n : Int), f = He.Fa.int x n → ∃ t, mg x = some (.int n t)
section
variable {K : PySem.W.Frag} {mg : Str → Option Value}
theorem txt_of {h : Heap} (X : K.In h) (G : h.Ns mainGlobals mg) (c : He.SaysD faL fnL K) (c2 : (xbL K).all id = true) : Txt K mg where
  fn := fun i d e => fd_of c i e
  fa := fun i f e => c.fact i e
  xb := fun i b e => List.all_eq_true.mp c2 b (List.mem_of_getElem? e)
  glo := fun i f e x z => He.glo_ok X G (by rw [← z]; exact c.fact i e)
  free := fun i f e x z => He.free_ok X G (by rw [← z]; exact c.fact i e)
  int := fun i f e x n z => He.int_ok X G (by rw [← z]; exact c.fact i e)
theorem Txt.F_Fault___init__ (T : Txt K mg) : FD K d_Fault___init__ := T.fn 0 _ rfl
theorem Txt.F_Stalled___init__ (T : Txt K mg) : FD K d_Stalled___init__ := T.fn 1 _ rfl
theorem Txt.F_PourFault___init__ (T : Txt K mg) : FD K d_PourFault___init__ := T.fn 2 _ rfl
theorem Txt.F_is_byte (T : Txt K mg) : FD K d_is_byte := T.fn 3 _ rfl
theorem Txt.b_is_byte (T : Txt K mg) : Binds K (fdO K d_is_byte) ["thing"] [] := (T.F_is_byte).bindsN fun _ _ _ _ _ _ us hl => match us, hl with | [_], _ => rfl
theorem Txt.F_count_asked (T : Txt K mg) : FD K d_count_asked := T.fn 4 _ rfl
theorem Txt.b_count_asked (T : Txt K mg) : Binds K (fdO K d_count_asked) ["many"] [] := (T.F_count_asked).bindsN fun _ _ _ _ _ _ us hl => match us, hl with | [_], _ => rfl
theorem Txt.F_bytes_asked (T : Txt K mg) : FD K d_bytes_asked := T.fn 5 _ rfl
theorem Txt.b_bytes_asked (T : Txt K mg) : Binds K (fdO K d_bytes_asked) ["data"] [] := (T.F_bytes_asked).bindsN fun _ _ _ _ _ _ us hl => match us, hl with | [_], _ => rfl
theorem Txt.F_length_asked (T : Txt K mg) : FD K d_length_asked := T.fn 6 _ rfl
theorem Txt.b_length_asked (T : Txt K mg) : Binds K (fdO K d_length_asked) ["length"] [] := (T.F_length_asked).bindsN fun _ _ _ _ _ _ us hl => match us, hl with | [_], _ => rfl
theorem Txt.F_File___init__ (T : Txt K mg) : FD K d_File___init__ := T.fn 7 _ rfl
theorem Txt.F_File_living (T : Txt K mg) : FD K d_File_living := T.fn 8 _ rfl
theorem Txt.b_File_living (T : Txt K mg) : Binds K (fdO K d_File_living) ["self"] [] := (T.F_File_living).bindsN fun _ _ _ _ _ _ us hl => match us, hl with | [_], _ => rfl
theorem Txt.F_File_readable (T : Txt K mg) : FD K d_File_readable := T.fn 9 _ rfl
theorem Txt.b_File_readable (T : Txt K mg) : Binds K (fdO K d_File_readable) ["self", "many"] [] := (T.F_File_readable).bindsN fun _ _ _ _ _ _ us hl => match us, hl with | [_, _], _ => rfl
theorem Txt.F_File_writable (T : Txt K mg) : FD K d_File_writable := T.fn 10 _ rfl
theorem Txt.b_File_writable (T : Txt K mg) : Binds K (fdO K d_File_writable) ["self"] [] := (T.F_File_writable).bindsN fun _ _ _ _ _ _ us hl => match us, hl with | [_], _ => rfl
theorem Txt.F_File_lead (T : Txt K mg) : FD K d_File_lead := T.fn 11 _ rfl
theorem Txt.b_File_lead (T : Txt K mg) : Binds K (fdO K d_File_lead) ["self", "place"] [] := (T.F_File_lead).bindsN fun _ _ _ _ _ _ us hl => match us, hl with | [_, _], _ => rfl
theorem Txt.F_File_hand_on (T : Txt K mg) : FD K d_File_hand_on := T.fn 12 _ rfl
theorem Txt.b_File_hand_on (T : Txt K mg) : Binds K (fdO K d_File_hand_on) ["self"] [] := (T.F_File_hand_on).bindsN fun _ _ _ _ _ _ us hl => match us, hl with | [_], _ => rfl
theorem Txt.F_File_fetched (T : Txt K mg) : FD K d_File_fetched := T.fn 13 _ rfl
theorem Txt.b_File_fetched (T : Txt K mg) : Binds K (fdO K d_File_fetched) ["self", "many"] [] := (T.F_File_fetched).bindsN fun _ _ _ _ _ _ us hl => match us, hl with | [_, _], _ => rfl
theorem Txt.F_File_gathered (T : Txt K mg) : FD K d_File_gathered := T.fn 14 _ rfl
theorem Txt.b_File_gathered (T : Txt K mg) : Binds K (fdO K d_File_gathered) ["self", "many"] [] := (T.F_File_gathered).bindsN fun _ _ _ _ _ _ us hl => match us, hl with | [_, _], _ => rfl
theorem Txt.F_File_shown (T : Txt K mg) : FD K d_File_shown := T.fn 15 _ rfl
theorem Txt.b_File_shown (T : Txt K mg) : Binds K (fdO K d_File_shown) ["self", "many", "whole"] [] := (T.F_File_shown).bindsN fun _ _ _ _ _ _ us hl => match us, hl with | [_, _, _], _ => rfl
theorem Txt.F_File_pulled (T : Txt K mg) : FD K d_File_pulled := T.fn 16 _ rfl
theorem Txt.b_File_pulled (T : Txt K mg) : Binds K (fdO K d_File_pulled) ["self", "many", "whole"] [] := (T.F_File_pulled).bindsN fun _ _ _ _ _ _ us hl => match us, hl with | [_, _, _], _ => rfl
theorem Txt.F_File_read (T : Txt K mg) : FD K d_File_read := T.fn 17 _ rfl
theorem Txt.F_File_some (T : Txt K mg) : FD K d_File_some := T.fn 18 _ rfl
theorem Txt.b_File_some (T : Txt K mg) : Binds K (fdO K d_File_some) ["self", "many"] [] := (T.F_File_some).bindsN fun _ _ _ _ _ _ us hl => match us, hl with | [_, _], _ => rfl
theorem Txt.F_File_peek (T : Txt K mg) : FD K d_File_peek := T.fn 19 _ rfl
theorem Txt.F_File_freed (T : Txt K mg) : FD K d_File_freed := T.fn 20 _ rfl
theorem Txt.b_File_freed (T : Txt K mg) : Binds K (fdO K d_File_freed) ["self", "taken"] [] := (T.F_File_freed).bindsN fun _ _ _ _ _ _ us hl => match us, hl with | [_, _], _ => rfl
theorem Txt.F_File_write (T : Txt K mg) : FD K d_File_write := T.fn 21 _ rfl
theorem Txt.b_File_write (T : Txt K mg) : Binds K (fdO K d_File_write) ["self", "data"] [] := (T.F_File_write).bindsN fun _ _ _ _ _ _ us hl => match us, hl with | [_, _], _ => rfl
theorem Txt.F_File_tell (T : Txt K mg) : FD K d_File_tell := T.fn 22 _ rfl
theorem Txt.b_File_tell (T : Txt K mg) : Binds K (fdO K d_File_tell) ["self"] [] := (T.F_File_tell).bindsN fun _ _ _ _ _ _ us hl => match us, hl with | [_], _ => rfl
theorem Txt.F_File_flush (T : Txt K mg) : FD K d_File_flush := T.fn 23 _ rfl
theorem Txt.b_File_flush (T : Txt K mg) : Binds K (fdO K d_File_flush) ["self"] [] := (T.F_File_flush).bindsN fun _ _ _ _ _ _ us hl => match us, hl with | [_], _ => rfl
theorem Txt.F_File_waiting (T : Txt K mg) : FD K d_File_waiting := T.fn 24 _ rfl
theorem Txt.b_File_waiting (T : Txt K mg) : Binds K (fdO K d_File_waiting) ["self"] [] := (T.F_File_waiting).bindsN fun _ _ _ _ _ _ us hl => match us, hl with | [_], _ => rfl
theorem Txt.F_File_close (T : Txt K mg) : FD K d_File_close := T.fn 25 _ rfl
theorem Txt.b_File_close (T : Txt K mg) : Binds K (fdO K d_File_close) ["self"] [] := (T.F_File_close).bindsN fun _ _ _ _ _ _ us hl => match us, hl with | [_], _ => rfl
theorem Txt.F_File_lost (T : Txt K mg) : FD K d_File_lost := T.fn 26 _ rfl
theorem Txt.b_File_lost (T : Txt K mg) : Binds K (fdO K d_File_lost) ["self"] [] := (T.F_File_lost).bindsN fun _ _ _ _ _ _ us hl => match us, hl with | [_], _ => rfl
theorem Txt.F_File_closed (T : Txt K mg) : FD K d_File_closed := T.fn 27 _ rfl
theorem Txt.b_File_closed (T : Txt K mg) : Binds K (fdO K d_File_closed) ["self"] [] := (T.F_File_closed).bindsN fun _ _ _ _ _ _ us hl => match us, hl with | [_], _ => rfl
theorem Txt.F_File_busy (T : Txt K mg) : FD K d_File_busy := T.fn 28 _ rfl
theorem Txt.b_File_busy (T : Txt K mg) : Binds K (fdO K d_File_busy) ["self"] [] := (T.F_File_busy).bindsN fun _ _ _ _ _ _ us hl => match us, hl with | [_], _ => rfl
theorem Txt.F_alike (T : Txt K mg) : FD K d_alike := T.fn 29 _ rfl
theorem Txt.b_alike (T : Txt K mg) : Binds K (fdO K d_alike) ["source", "target"] [] := (T.F_alike).bindsN fun _ _ _ _ _ _ us hl => match us, hl with | [_, _], _ => rfl
theorem Txt.F_seen_ahead (T : Txt K mg) : FD K d_seen_ahead := T.fn 30 _ rfl
theorem Txt.b_seen_ahead (T : Txt K mg) : Binds K (fdO K d_seen_ahead) ["source", "many", "count"] [] := (T.F_seen_ahead).bindsN fun _ _ _ _ _ _ us hl => match us, hl with | [_, _, _], _ => rfl
theorem Txt.F_handed_on (T : Txt K mg) : FD K d_handed_on := T.fn 31 _ rfl
theorem Txt.b_handed_on (T : Txt K mg) : Binds K (fdO K d_handed_on) ["target", "piece"] [] := (T.F_handed_on).bindsN fun _ _ _ _ _ _ us hl => match us, hl with | [_, _], _ => rfl
theorem Txt.F_poured (T : Txt K mg) : FD K d_poured := T.fn 32 _ rfl
theorem Txt.b_poured (T : Txt K mg) : Binds K (fdO K d_poured) ["source", "target", "room", "most"] [] := (T.F_poured).bindsN fun _ _ _ _ _ _ us hl => match us, hl with | [_, _, _, _], _ => rfl
theorem Txt.F_pour (T : Txt K mg) : FD K d_pour := T.fn 33 _ rfl
theorem Txt.F_told_anew (T : Txt K mg) : FD K d_told_anew := T.fn 34 _ rfl
theorem Txt.b_told_anew (T : Txt K mg) : Binds K (fdO K d_told_anew) ["thing"] [] := (T.F_told_anew).bindsN fun _ _ _ _ _ _ us hl => match us, hl with | [_], _ => rfl
theorem Txt.F_Raw___init__ (T : Txt K mg) : FD K d_Raw___init__ := T.fn 35 _ rfl
theorem Txt.b_Raw___init__ (T : Txt K mg) : Binds K (fdO K d_Raw___init__) ["self"] [] := (T.F_Raw___init__).bindsN fun _ _ _ _ _ _ us hl => match us, hl with | [_], _ => rfl
theorem Txt.F_Raw_is_shut (T : Txt K mg) : FD K d_Raw_is_shut := T.fn 36 _ rfl
theorem Txt.b_Raw_is_shut (T : Txt K mg) : Binds K (fdO K d_Raw_is_shut) ["self"] [] := (T.F_Raw_is_shut).bindsN fun _ _ _ _ _ _ us hl => match us, hl with | [_], _ => rfl
theorem Txt.F_Raw_asked (T : Txt K mg) : FD K d_Raw_asked := T.fn 37 _ rfl
theorem Txt.b_Raw_asked (T : Txt K mg) : Binds K (fdO K d_Raw_asked) ["self"] [] := (T.F_Raw_asked).bindsN fun _ _ _ _ _ _ us hl => match us, hl with | [_], _ => rfl
theorem Txt.F_Raw_noted (T : Txt K mg) : FD K d_Raw_noted := T.fn 38 _ rfl
theorem Txt.b_Raw_noted (T : Txt K mg) : Binds K (fdO K d_Raw_noted) ["self", "word", "place", "handed", "came"] [] := (T.F_Raw_noted).bindsN fun _ _ _ _ _ _ us hl => match us, hl with | [_, _, _, _, _], _ => rfl
theorem Txt.F_Raw_log (T : Txt K mg) : FD K d_Raw_log := T.fn 39 _ rfl
theorem Txt.b_Raw_log (T : Txt K mg) : Binds K (fdO K d_Raw_log) ["self"] [] := (T.F_Raw_log).bindsN fun _ _ _ _ _ _ us hl => match us, hl with | [_], _ => rfl
theorem Txt.F_laid (T : Txt K mg) : FD K d_laid := T.fn 40 _ rfl
theorem Txt.b_laid (T : Txt K mg) : Binds K (fdO K d_laid) ["row", "place", "data"] [] := (T.F_laid).bindsN fun _ _ _ _ _ _ us hl => match us, hl with | [_, _, _], _ => rfl
theorem Txt.F_Device___init__ (T : Txt K mg) : FD K d_Device___init__ := T.fn 41 _ rfl
theorem Txt.F_Device_seeks (T : Txt K mg) : FD K d_Device_seeks := T.fn 42 _ rfl
theorem Txt.b_Device_seeks (T : Txt K mg) : Binds K (fdO K d_Device_seeks) ["self"] [] := (T.F_Device_seeks).bindsN fun _ _ _ _ _ _ us hl => match us, hl with | [_], _ => rfl
theorem Txt.F_Device_seeking (T : Txt K mg) : FD K d_Device_seeking := T.fn 43 _ rfl
theorem Txt.b_Device_seeking (T : Txt K mg) : Binds K (fdO K d_Device_seeking) ["self"] [] := (T.F_Device_seeking).bindsN fun _ _ _ _ _ _ us hl => match us, hl with | [_], _ => rfl
theorem Txt.F_Device_place (T : Txt K mg) : FD K d_Device_place := T.fn 44 _ rfl
theorem Txt.b_Device_place (T : Txt K mg) : Binds K (fdO K d_Device_place) ["self"] [] := (T.F_Device_place).bindsN fun _ _ _ _ _ _ us hl => match us, hl with | [_], _ => rfl
theorem Txt.F_Device_longer (T : Txt K mg) : FD K d_Device_longer := T.fn 45 _ rfl
theorem Txt.b_Device_longer (T : Txt K mg) : Binds K (fdO K d_Device_longer) ["self", "length"] [] := (T.F_Device_longer).bindsN fun _ _ _ _ _ _ us hl => match us, hl with | [_, _], _ => rfl
theorem Txt.F_Device_drawn (T : Txt K mg) : FD K d_Device_drawn := T.fn 46 _ rfl
theorem Txt.b_Device_drawn (T : Txt K mg) : Binds K (fdO K d_Device_drawn) ["self", "word", "handed"] [] := (T.F_Device_drawn).bindsN fun _ _ _ _ _ _ us hl => match us, hl with | [_, _, _], _ => rfl
theorem Txt.F_Device_take (T : Txt K mg) : FD K d_Device_take := T.fn 47 _ rfl
theorem Txt.b_Device_take (T : Txt K mg) : Binds K (fdO K d_Device_take) ["self", "many"] [] := (T.F_Device_take).bindsN fun _ _ _ _ _ _ us hl => match us, hl with | [_, _], _ => rfl
theorem Txt.F_Device_put (T : Txt K mg) : FD K d_Device_put := T.fn 48 _ rfl
theorem Txt.b_Device_put (T : Txt K mg) : Binds K (fdO K d_Device_put) ["self", "data"] [] := (T.F_Device_put).bindsN fun _ _ _ _ _ _ us hl => match us, hl with | [_, _], _ => rfl
theorem Txt.F_Device_content (T : Txt K mg) : FD K d_Device_content := T.fn 49 _ rfl
theorem Txt.b_Device_content (T : Txt K mg) : Binds K (fdO K d_Device_content) ["self"] [] := (T.F_Device_content).bindsN fun _ _ _ _ _ _ us hl => match us, hl with | [_], _ => rfl
theorem Txt.F_End___init__ (T : Txt K mg) : FD K d_End___init__ := T.fn 50 _ rfl
theorem Txt.b_End___init__ (T : Txt K mg) : Binds K (fdO K d_End___init__) ["self", "pipe"] [] := (T.F_End___init__).bindsN fun _ _ _ _ _ _ us hl => match us, hl with | [_, _], _ => rfl
theorem Txt.F_End_seeks (T : Txt K mg) : FD K d_End_seeks := T.fn 51 _ rfl
theorem Txt.b_End_seeks (T : Txt K mg) : Binds K (fdO K d_End_seeks) ["self"] [] := (T.F_End_seeks).bindsN fun _ _ _ _ _ _ us hl => match us, hl with | [_], _ => rfl
theorem Txt.F_Mouth_put (T : Txt K mg) : FD K d_Mouth_put := T.fn 52 _ rfl
theorem Txt.b_Mouth_put (T : Txt K mg) : Binds K (fdO K d_Mouth_put) ["self", "data"] [] := (T.F_Mouth_put).bindsN fun _ _ _ _ _ _ us hl => match us, hl with | [_, _], _ => rfl
theorem Txt.F_Drain_take (T : Txt K mg) : FD K d_Drain_take := T.fn 53 _ rfl
theorem Txt.b_Drain_take (T : Txt K mg) : Binds K (fdO K d_Drain_take) ["self", "many"] [] := (T.F_Drain_take).bindsN fun _ _ _ _ _ _ us hl => match us, hl with | [_, _], _ => rfl
theorem Txt.F_Mouth_take (T : Txt K mg) : FD K d_Mouth_take := T.fn 54 _ rfl
theorem Txt.b_Mouth_take (T : Txt K mg) : Binds K (fdO K d_Mouth_take) ["self", "many"] [] := (T.F_Mouth_take).bindsN fun _ _ _ _ _ _ us hl => match us, hl with | [_, _], _ => rfl
theorem Txt.F_Drain_put (T : Txt K mg) : FD K d_Drain_put := T.fn 55 _ rfl
theorem Txt.b_Drain_put (T : Txt K mg) : Binds K (fdO K d_Drain_put) ["self", "data"] [] := (T.F_Drain_put).bindsN fun _ _ _ _ _ _ us hl => match us, hl with | [_, _], _ => rfl
theorem Txt.F_Pipe___init__ (T : Txt K mg) : FD K d_Pipe___init__ := T.fn 56 _ rfl
theorem Txt.F_Pipe_into (T : Txt K mg) : FD K d_Pipe_into := T.fn 57 _ rfl
theorem Txt.b_Pipe_into (T : Txt K mg) : Binds K (fdO K d_Pipe_into) ["self"] [] := (T.F_Pipe_into).bindsN fun _ _ _ _ _ _ us hl => match us, hl with | [_], _ => rfl
theorem Txt.F_Pipe_out (T : Txt K mg) : FD K d_Pipe_out := T.fn 58 _ rfl
theorem Txt.b_Pipe_out (T : Txt K mg) : Binds K (fdO K d_Pipe_out) ["self"] [] := (T.F_Pipe_out).bindsN fun _ _ _ _ _ _ us hl => match us, hl with | [_], _ => rfl
theorem Txt.F_Pipe_held (T : Txt K mg) : FD K d_Pipe_held := T.fn 59 _ rfl
theorem Txt.b_Pipe_held (T : Txt K mg) : Binds K (fdO K d_Pipe_held) ["self"] [] := (T.F_Pipe_held).bindsN fun _ _ _ _ _ _ us hl => match us, hl with | [_], _ => rfl
theorem Txt.F__law_pool (T : Txt K mg) : FD K d__law_pool := T.fn 60 _ rfl
theorem Txt.b__law_pool (T : Txt K mg) : Binds K (fdO K d__law_pool) ["_law_script", "_law_at"] [] := (T.F__law_pool).bindsN fun _ _ _ _ _ _ us hl => match us, hl with | [_, _], _ => rfl
theorem Txt.F__law_take (T : Txt K mg) : FD K d__law_take := T.fn 61 _ rfl
theorem Txt.b__law_take (T : Txt K mg) : Binds K (fdO K d__law_take) ["_law_pool_here", "_law_wide"] [] := (T.F__law_take).bindsN fun _ _ _ _ _ _ us hl => match us, hl with | [_, _], _ => rfl
theorem Txt.F__law_row (T : Txt K mg) : FD K d__law_row := T.fn 62 _ rfl
theorem Txt.b__law_row (T : Txt K mg) : Binds K (fdO K d__law_row) ["_law_pool_here", "_law_long"] [] := (T.F__law_row).bindsN fun _ _ _ _ _ _ us hl => match us, hl with | [_, _], _ => rfl
theorem Txt.F__law_plan (T : Txt K mg) : FD K d__law_plan := T.fn 63 _ rfl
theorem Txt.b__law_plan (T : Txt K mg) : Binds K (fdO K d__law_plan) ["_law_pool_here", "_law_long", "_law_troubles"] [] := (T.F__law_plan).bindsN fun _ _ _ _ _ _ us hl => match us, hl with | [_, _, _], _ => rfl
theorem Txt.F__law_laid (T : Txt K mg) : FD K d__law_laid := T.fn 64 _ rfl
theorem Txt.b__law_laid (T : Txt K mg) : Binds K (fdO K d__law_laid) ["_law_row_here", "_law_place", "_law_data"] [] := (T.F__law_laid).bindsN fun _ _ _ _ _ _ us hl => match us, hl with | [_, _, _], _ => rfl
theorem Txt.F__law_poured (T : Txt K mg) : FD K d__law_poured := T.fn 65 _ rfl
theorem Txt.b__law_poured (T : Txt K mg) : Binds K (fdO K d__law_poured) ["_law_source", "_law_target", "_law_wide", "_law_limit"] [] := (T.F__law_poured).bindsN fun _ _ _ _ _ _ us hl => match us, hl with | [_, _, _, _], _ => rfl
theorem Txt.F__law_flushed (T : Txt K mg) : FD K d__law_flushed := T.fn 66 _ rfl
theorem Txt.b__law_flushed (T : Txt K mg) : Binds K (fdO K d__law_flushed) ["_law_file"] [] := (T.F__law_flushed).bindsN fun _ _ _ _ _ _ us hl => match us, hl with | [_], _ => rfl
theorem Txt.F__law_stands (T : Txt K mg) : FD K d__law_stands := T.fn 67 _ rfl
theorem Txt.b__law_stands (T : Txt K mg) : Binds K (fdO K d__law_stands) ["_law_m"] [] := (T.F__law_stands).bindsN fun _ _ _ _ _ _ us hl => match us, hl with | [_], _ => rfl
theorem Txt.F__law_deed (T : Txt K mg) : FD K d__law_deed := T.fn 68 _ rfl
theorem Txt.b__law_deed (T : Txt K mg) : Binds K (fdO K d__law_deed) ["_law_pool_here", "_law_m"] [] := (T.F__law_deed).bindsN fun _ _ _ _ _ _ us hl => match us, hl with | [_, _], _ => rfl
theorem Txt.F__law_all_come (T : Txt K mg) : FD K d__law_all_come := T.fn 69 _ rfl
theorem Txt.b__law_all_come (T : Txt K mg) : Binds K (fdO K d__law_all_come) ["_law_m"] [] := (T.F__law_all_come).bindsN fun _ _ _ _ _ _ us hl => match us, hl with | [_], _ => rfl
theorem Txt.F_law (T : Txt K mg) : FD K d_law := T.fn 70 _ rfl
theorem Txt.b_law (T : Txt K mg) : Binds K (fdO K d_law) ["_law_script"] [] := (T.F_law).bindsN fun _ _ _ _ _ _ us hl => match us, hl with | [_], _ => rfl
theorem Txt.cls_File (T : Txt K mg) : Cls K (He.ga K "File") := He.cls_ok (T.fa 0 _ rfl)
theorem Txt.cls_Device (T : Txt K mg) : Cls K (He.ga K "Device") := He.cls_ok (T.fa 1 _ rfl)
theorem Txt.cls_Mouth (T : Txt K mg) : Cls K (He.ga K "Mouth") := He.cls_ok (T.fa 2 _ rfl)
theorem Txt.cls_Drain (T : Txt K mg) : Cls K (He.ga K "Drain") := He.cls_ok (T.fa 3 _ rfl)
theorem Txt.cls_Pipe (T : Txt K mg) : Cls K (He.ga K "Pipe") := He.cls_ok (T.fa 4 _ rfl)
theorem Txt.n_File_raw (T : Txt K mg) : NoAttr K (He.ga K "File") "raw" := He.noat_ok (T.fa 5 _ rfl)
theorem Txt.n_File_room (T : Txt K mg) : NoAttr K (He.ga K "File") "room" := He.noat_ok (T.fa 6 _ rfl)
theorem Txt.n_File_reading (T : Txt K mg) : NoAttr K (He.ga K "File") "reading" := He.noat_ok (T.fa 7 _ rfl)
theorem Txt.n_File_writing (T : Txt K mg) : NoAttr K (He.ga K "File") "writing" := He.noat_ok (T.fa 8 _ rfl)
theorem Txt.n_File_pouring (T : Txt K mg) : NoAttr K (He.ga K "File") "pouring" := He.noat_ok (T.fa 9 _ rfl)
theorem Txt.n_File_live (T : Txt K mg) : NoAttr K (He.ga K "File") "live" := He.noat_ok (T.fa 10 _ rfl)
theorem Txt.n_File_cursor (T : Txt K mg) : NoAttr K (He.ga K "File") "cursor" := He.noat_ok (T.fa 11 _ rfl)
theorem Txt.n_File_ahead (T : Txt K mg) : NoAttr K (He.ga K "File") "ahead" := He.noat_ok (T.fa 12 _ rfl)
theorem Txt.n_File_delayed (T : Txt K mg) : NoAttr K (He.ga K "File") "delayed" := He.noat_ok (T.fa 13 _ rfl)
theorem Txt.n_File_missed (T : Txt K mg) : NoAttr K (He.ga K "File") "missed" := He.noat_ok (T.fa 14 _ rfl)
theorem Txt.n_Device_live (T : Txt K mg) : NoAttr K (He.ga K "Device") "live" := He.noat_ok (T.fa 15 _ rfl)
theorem Txt.n_Device_notes (T : Txt K mg) : NoAttr K (He.ga K "Device") "notes" := He.noat_ok (T.fa 16 _ rfl)
theorem Txt.n_Device_stock (T : Txt K mg) : NoAttr K (He.ga K "Device") "stock" := He.noat_ok (T.fa 17 _ rfl)
theorem Txt.n_Device_plan (T : Txt K mg) : NoAttr K (He.ga K "Device") "plan" := He.noat_ok (T.fa 18 _ rfl)
theorem Txt.n_Device_spot (T : Txt K mg) : NoAttr K (He.ga K "Device") "spot" := He.noat_ok (T.fa 19 _ rfl)
theorem Txt.n_Device_steady (T : Txt K mg) : NoAttr K (He.ga K "Device") "steady" := He.noat_ok (T.fa 20 _ rfl)
theorem Txt.n_Mouth_live (T : Txt K mg) : NoAttr K (He.ga K "Mouth") "live" := He.noat_ok (T.fa 21 _ rfl)
theorem Txt.n_Mouth_notes (T : Txt K mg) : NoAttr K (He.ga K "Mouth") "notes" := He.noat_ok (T.fa 22 _ rfl)
theorem Txt.n_Mouth_pipe (T : Txt K mg) : NoAttr K (He.ga K "Mouth") "pipe" := He.noat_ok (T.fa 23 _ rfl)
theorem Txt.n_Mouth_gone (T : Txt K mg) : NoAttr K (He.ga K "Mouth") "gone" := He.noat_ok (T.fa 24 _ rfl)
theorem Txt.n_Drain_live (T : Txt K mg) : NoAttr K (He.ga K "Drain") "live" := He.noat_ok (T.fa 25 _ rfl)
theorem Txt.n_Drain_notes (T : Txt K mg) : NoAttr K (He.ga K "Drain") "notes" := He.noat_ok (T.fa 26 _ rfl)
theorem Txt.n_Drain_pipe (T : Txt K mg) : NoAttr K (He.ga K "Drain") "pipe" := He.noat_ok (T.fa 27 _ rfl)
theorem Txt.n_Drain_gone (T : Txt K mg) : NoAttr K (He.ga K "Drain") "gone" := He.noat_ok (T.fa 28 _ rfl)
theorem Txt.n_Pipe_room (T : Txt K mg) : NoAttr K (He.ga K "Pipe") "room" := He.noat_ok (T.fa 29 _ rfl)
theorem Txt.n_Pipe_inside (T : Txt K mg) : NoAttr K (He.ga K "Pipe") "inside" := He.noat_ok (T.fa 30 _ rfl)
theorem Txt.n_Pipe_high (T : Txt K mg) : NoAttr K (He.ga K "Pipe") "high" := He.noat_ok (T.fa 31 _ rfl)
theorem Txt.n_Pipe_low (T : Txt K mg) : NoAttr K (He.ga K "Pipe") "low" := He.noat_ok (T.fa 32 _ rfl)
theorem Txt.n_Fault_number (T : Txt K mg) : NoAttr K (He.ga K "Fault") "number" := He.noat_ok (T.fa 33 _ rfl)
theorem Txt.n_Fault_taken (T : Txt K mg) : NoAttr K (He.ga K "Fault") "taken" := He.noat_ok (T.fa 34 _ rfl)
theorem Txt.n_Stalled_taken (T : Txt K mg) : NoAttr K (He.ga K "Stalled") "taken" := He.noat_ok (T.fa 35 _ rfl)
theorem Txt.n_PourFault_number (T : Txt K mg) : NoAttr K (He.ga K "PourFault") "number" := He.noat_ok (T.fa 36 _ rfl)
theorem Txt.n_PourFault_count (T : Txt K mg) : NoAttr K (He.ga K "PourFault") "count" := He.noat_ok (T.fa 37 _ rfl)
theorem Txt.n_PourFault_side (T : Txt K mg) : NoAttr K (He.ga K "PourFault") "side" := He.noat_ok (T.fa 38 _ rfl)
theorem Txt.g_is_byte (T : Txt K mg) : mg "is_byte" = some (.ref (He.ga K "is_byte")) := T.glo 39 _ rfl "is_byte" rfl
theorem Txt.g_count_asked (T : Txt K mg) : mg "count_asked" = some (.ref (He.ga K "count_asked")) := T.glo 40 _ rfl "count_asked" rfl
theorem Txt.g_bytes_asked (T : Txt K mg) : mg "bytes_asked" = some (.ref (He.ga K "bytes_asked")) := T.glo 41 _ rfl "bytes_asked" rfl
theorem Txt.g_length_asked (T : Txt K mg) : mg "length_asked" = some (.ref (He.ga K "length_asked")) := T.glo 42 _ rfl "length_asked" rfl
theorem Txt.g_alike (T : Txt K mg) : mg "alike" = some (.ref (He.ga K "alike")) := T.glo 43 _ rfl "alike" rfl
theorem Txt.g_seen_ahead (T : Txt K mg) : mg "seen_ahead" = some (.ref (He.ga K "seen_ahead")) := T.glo 44 _ rfl "seen_ahead" rfl
theorem Txt.g_handed_on (T : Txt K mg) : mg "handed_on" = some (.ref (He.ga K "handed_on")) := T.glo 45 _ rfl "handed_on" rfl
theorem Txt.g_poured (T : Txt K mg) : mg "poured" = some (.ref (He.ga K "poured")) := T.glo 46 _ rfl "poured" rfl
theorem Txt.g_pour (T : Txt K mg) : mg "pour" = some (.ref (He.ga K "pour")) := T.glo 47 _ rfl "pour" rfl
theorem Txt.g_told_anew (T : Txt K mg) : mg "told_anew" = some (.ref (He.ga K "told_anew")) := T.glo 48 _ rfl "told_anew" rfl
theorem Txt.g_laid (T : Txt K mg) : mg "laid" = some (.ref (He.ga K "laid")) := T.glo 49 _ rfl "laid" rfl
theorem Txt.g__law_pool (T : Txt K mg) : mg "_law_pool" = some (.ref (He.ga K "_law_pool")) := T.glo 50 _ rfl "_law_pool" rfl
theorem Txt.g__law_take (T : Txt K mg) : mg "_law_take" = some (.ref (He.ga K "_law_take")) := T.glo 51 _ rfl "_law_take" rfl
theorem Txt.g__law_row (T : Txt K mg) : mg "_law_row" = some (.ref (He.ga K "_law_row")) := T.glo 52 _ rfl "_law_row" rfl
theorem Txt.g__law_plan (T : Txt K mg) : mg "_law_plan" = some (.ref (He.ga K "_law_plan")) := T.glo 53 _ rfl "_law_plan" rfl
theorem Txt.g__law_laid (T : Txt K mg) : mg "_law_laid" = some (.ref (He.ga K "_law_laid")) := T.glo 54 _ rfl "_law_laid" rfl
theorem Txt.g__law_poured (T : Txt K mg) : mg "_law_poured" = some (.ref (He.ga K "_law_poured")) := T.glo 55 _ rfl "_law_poured" rfl
theorem Txt.g__law_flushed (T : Txt K mg) : mg "_law_flushed" = some (.ref (He.ga K "_law_flushed")) := T.glo 56 _ rfl "_law_flushed" rfl
theorem Txt.g__law_stands (T : Txt K mg) : mg "_law_stands" = some (.ref (He.ga K "_law_stands")) := T.glo 57 _ rfl "_law_stands" rfl
theorem Txt.g__law_deed (T : Txt K mg) : mg "_law_deed" = some (.ref (He.ga K "_law_deed")) := T.glo 58 _ rfl "_law_deed" rfl
theorem Txt.g__law_all_come (T : Txt K mg) : mg "_law_all_come" = some (.ref (He.ga K "_law_all_come")) := T.glo 59 _ rfl "_law_all_come" rfl
theorem Txt.g_law (T : Txt K mg) : mg "law" = some (.ref (He.ga K "law")) := T.glo 60 _ rfl "law" rfl
theorem Txt.g_File (T : Txt K mg) : mg "File" = some (.ref (He.ga K "File")) := T.glo 61 _ rfl "File" rfl
theorem Txt.g_Device (T : Txt K mg) : mg "Device" = some (.ref (He.ga K "Device")) := T.glo 62 _ rfl "Device" rfl
theorem Txt.g_Mouth (T : Txt K mg) : mg "Mouth" = some (.ref (He.ga K "Mouth")) := T.glo 63 _ rfl "Mouth" rfl
theorem Txt.g_Drain (T : Txt K mg) : mg "Drain" = some (.ref (He.ga K "Drain")) := T.glo 64 _ rfl "Drain" rfl
theorem Txt.g_Pipe (T : Txt K mg) : mg "Pipe" = some (.ref (He.ga K "Pipe")) := T.glo 65 _ rfl "Pipe" rfl
theorem Txt.g_Fault (T : Txt K mg) : mg "Fault" = some (.ref (He.ga K "Fault")) := T.glo 66 _ rfl "Fault" rfl
theorem Txt.g_Stalled (T : Txt K mg) : mg "Stalled" = some (.ref (He.ga K "Stalled")) := T.glo 67 _ rfl "Stalled" rfl
theorem Txt.g_PourFault (T : Txt K mg) : mg "PourFault" = some (.ref (He.ga K "PourFault")) := T.glo 68 _ rfl "PourFault" rfl
theorem Txt.g_Raw (T : Txt K mg) : mg "Raw" = some (.ref (He.ga K "Raw")) := T.glo 69 _ rfl "Raw" rfl
theorem Txt.n_len (T : Txt K mg) : mg "len" = none := T.free 70 _ rfl "len" rfl
theorem Txt.n_list (T : Txt K mg) : mg "list" = none := T.free 71 _ rfl "list" rfl
theorem Txt.n_isinstance (T : Txt K mg) : mg "isinstance" = none := T.free 72 _ rfl "isinstance" rfl
theorem Txt.n_int (T : Txt K mg) : mg "int" = none := T.free 73 _ rfl "int" rfl
theorem Txt.n_bool (T : Txt K mg) : mg "bool" = none := T.free 74 _ rfl "bool" rfl
theorem Txt.n_enumerate (T : Txt K mg) : mg "enumerate" = none := T.free 75 _ rfl "enumerate" rfl
theorem Txt.n_max (T : Txt K mg) : mg "max" = none := T.free 76 _ rfl "max" rfl
theorem Txt.n_min (T : Txt K mg) : mg "min" = none := T.free 77 _ rfl "min" rfl
theorem Txt.n_range (T : Txt K mg) : mg "range" = none := T.free 78 _ rfl "range" rfl
theorem Txt.i_LONGEST (T : Txt K mg) : ∃ t, mg "LONGEST" = some (.int 4000 t) := T.int 79 _ rfl "LONGEST" 4000 rfl
theorem Txt.i_GREATEST (T : Txt K mg) : ∃ t, mg "GREATEST" = some (.int 255 t) := T.int 80 _ rfl "GREATEST" 255 rfl
theorem Txt.i_MOST_ROOM_files (T : Txt K mg) : ∃ t, mg "MOST_ROOM_files" = some (.int 64 t) := T.int 81 _ rfl "MOST_ROOM_files" 64 rfl
theorem Txt.i_MOST_ROOM_pouring (T : Txt K mg) : ∃ t, mg "MOST_ROOM_pouring" = some (.int 64 t) := T.int 82 _ rfl "MOST_ROOM_pouring" 64 rfl
theorem Txt.i_MOST_ROOM_pipe (T : Txt K mg) : ∃ t, mg "MOST_ROOM_pipe" = some (.int 64 t) := T.int 83 _ rfl "MOST_ROOM_pipe" 64 rfl
theorem Txt.i_BROKEN (T : Txt K mg) : ∃ t, mg "BROKEN" = some (.int 99 t) := T.int 84 _ rfl "BROKEN" 99 rfl
theorem Txt.x_Stalled_Stalled (T : Txt K mg) : PySem.W.exmOne K (.ref (He.ga K "Stalled")) (.ref (He.ga K "Stalled")) = some true := He.exm_ok (T.fa 85 _ rfl)
theorem Txt.x_Fault_Stalled (T : Txt K mg) : PySem.W.exmOne K (.ref (He.ga K "Fault")) (.ref (He.ga K "Stalled")) = some false := He.exm_ok (T.fa 86 _ rfl)
theorem Txt.x_Fault_Fault (T : Txt K mg) : PySem.W.exmOne K (.ref (He.ga K "Fault")) (.ref (He.ga K "Fault")) = some true := He.exm_ok (T.fa 87 _ rfl)
theorem Txt.x_PourFault_PourFault (T : Txt K mg) : PySem.W.exmOne K (.ref (He.ga K "PourFault")) (.ref (He.ga K "PourFault")) = some true := He.exm_ok (T.fa 88 _ rfl)
theorem Txt.x_Stalled_Fault (T : Txt K mg) : PySem.W.exmOne K (.ref (He.ga K "Stalled")) (.ref (He.ga K "Fault")) = some false := He.exm_ok (T.fa 89 _ rfl)
theorem Txt.m_File_living (T : Txt K mg) : Meth K (He.ga K "File") "living" (He.fAd K d_File_living.at_) := methB_ok (T.xb 0 _ rfl)
theorem Txt.m_File_readable (T : Txt K mg) : Meth K (He.ga K "File") "readable" (He.fAd K d_File_readable.at_) := methB_ok (T.xb 1 _ rfl)
theorem Txt.m_File_writable (T : Txt K mg) : Meth K (He.ga K "File") "writable" (He.fAd K d_File_writable.at_) := methB_ok (T.xb 2 _ rfl)
theorem Txt.m_File_lead (T : Txt K mg) : Meth K (He.ga K "File") "lead" (He.fAd K d_File_lead.at_) := methB_ok (T.xb 3 _ rfl)
theorem Txt.m_File_hand_on (T : Txt K mg) : Meth K (He.ga K "File") "hand_on" (He.fAd K d_File_hand_on.at_) := methB_ok (T.xb 4 _ rfl)
theorem Txt.m_File_fetched (T : Txt K mg) : Meth K (He.ga K "File") "fetched" (He.fAd K d_File_fetched.at_) := methB_ok (T.xb 5 _ rfl)
theorem Txt.m_File_gathered (T : Txt K mg) : Meth K (He.ga K "File") "gathered" (He.fAd K d_File_gathered.at_) := methB_ok (T.xb 6 _ rfl)
theorem Txt.m_File_shown (T : Txt K mg) : Meth K (He.ga K "File") "shown" (He.fAd K d_File_shown.at_) := methB_ok (T.xb 7 _ rfl)
theorem Txt.m_File_pulled (T : Txt K mg) : Meth K (He.ga K "File") "pulled" (He.fAd K d_File_pulled.at_) := methB_ok (T.xb 8 _ rfl)
theorem Txt.m_File_read (T : Txt K mg) : Meth K (He.ga K "File") "read" (He.fAd K d_File_read.at_) := methB_ok (T.xb 9 _ rfl)
theorem Txt.m_File_some (T : Txt K mg) : Meth K (He.ga K "File") "some" (He.fAd K d_File_some.at_) := methB_ok (T.xb 10 _ rfl)
theorem Txt.m_File_peek (T : Txt K mg) : Meth K (He.ga K "File") "peek" (He.fAd K d_File_peek.at_) := methB_ok (T.xb 11 _ rfl)
theorem Txt.m_File_freed (T : Txt K mg) : Meth K (He.ga K "File") "freed" (He.fAd K d_File_freed.at_) := methB_ok (T.xb 12 _ rfl)
theorem Txt.m_File_write (T : Txt K mg) : Meth K (He.ga K "File") "write" (He.fAd K d_File_write.at_) := methB_ok (T.xb 13 _ rfl)
theorem Txt.m_File_tell (T : Txt K mg) : Meth K (He.ga K "File") "tell" (He.fAd K d_File_tell.at_) := methB_ok (T.xb 14 _ rfl)
theorem Txt.m_File_flush (T : Txt K mg) : Meth K (He.ga K "File") "flush" (He.fAd K d_File_flush.at_) := methB_ok (T.xb 15 _ rfl)
theorem Txt.m_File_waiting (T : Txt K mg) : Meth K (He.ga K "File") "waiting" (He.fAd K d_File_waiting.at_) := methB_ok (T.xb 16 _ rfl)
theorem Txt.m_File_close (T : Txt K mg) : Meth K (He.ga K "File") "close" (He.fAd K d_File_close.at_) := methB_ok (T.xb 17 _ rfl)
theorem Txt.m_File_lost (T : Txt K mg) : Meth K (He.ga K "File") "lost" (He.fAd K d_File_lost.at_) := methB_ok (T.xb 18 _ rfl)
theorem Txt.m_File_closed (T : Txt K mg) : Meth K (He.ga K "File") "closed" (He.fAd K d_File_closed.at_) := methB_ok (T.xb 19 _ rfl)
theorem Txt.m_File_busy (T : Txt K mg) : Meth K (He.ga K "File") "busy" (He.fAd K d_File_busy.at_) := methB_ok (T.xb 20 _ rfl)
theorem Txt.m_Device_is_shut (T : Txt K mg) : Meth K (He.ga K "Device") "is_shut" (He.fAd K d_Raw_is_shut.at_) := methB_ok (T.xb 21 _ rfl)
theorem Txt.m_Device_asked (T : Txt K mg) : Meth K (He.ga K "Device") "asked" (He.fAd K d_Raw_asked.at_) := methB_ok (T.xb 22 _ rfl)
theorem Txt.m_Device_noted (T : Txt K mg) : Meth K (He.ga K "Device") "noted" (He.fAd K d_Raw_noted.at_) := methB_ok (T.xb 23 _ rfl)
theorem Txt.m_Device_seeks (T : Txt K mg) : Meth K (He.ga K "Device") "seeks" (He.fAd K d_Device_seeks.at_) := methB_ok (T.xb 24 _ rfl)
theorem Txt.m_Device_seeking (T : Txt K mg) : Meth K (He.ga K "Device") "seeking" (He.fAd K d_Device_seeking.at_) := methB_ok (T.xb 25 _ rfl)
theorem Txt.m_Device_place (T : Txt K mg) : Meth K (He.ga K "Device") "place" (He.fAd K d_Device_place.at_) := methB_ok (T.xb 26 _ rfl)
theorem Txt.m_Device_longer (T : Txt K mg) : Meth K (He.ga K "Device") "longer" (He.fAd K d_Device_longer.at_) := methB_ok (T.xb 27 _ rfl)
theorem Txt.m_Device_drawn (T : Txt K mg) : Meth K (He.ga K "Device") "drawn" (He.fAd K d_Device_drawn.at_) := methB_ok (T.xb 28 _ rfl)
theorem Txt.m_Device_take (T : Txt K mg) : Meth K (He.ga K "Device") "take" (He.fAd K d_Device_take.at_) := methB_ok (T.xb 29 _ rfl)
theorem Txt.m_Device_put (T : Txt K mg) : Meth K (He.ga K "Device") "put" (He.fAd K d_Device_put.at_) := methB_ok (T.xb 30 _ rfl)
theorem Txt.m_Device_content (T : Txt K mg) : Meth K (He.ga K "Device") "content" (He.fAd K d_Device_content.at_) := methB_ok (T.xb 31 _ rfl)
theorem Txt.m_Mouth_is_shut (T : Txt K mg) : Meth K (He.ga K "Mouth") "is_shut" (He.fAd K d_Raw_is_shut.at_) := methB_ok (T.xb 32 _ rfl)
theorem Txt.m_Mouth_asked (T : Txt K mg) : Meth K (He.ga K "Mouth") "asked" (He.fAd K d_Raw_asked.at_) := methB_ok (T.xb 33 _ rfl)
theorem Txt.m_Mouth_noted (T : Txt K mg) : Meth K (He.ga K "Mouth") "noted" (He.fAd K d_Raw_noted.at_) := methB_ok (T.xb 34 _ rfl)
theorem Txt.m_Mouth_seeks (T : Txt K mg) : Meth K (He.ga K "Mouth") "seeks" (He.fAd K d_End_seeks.at_) := methB_ok (T.xb 35 _ rfl)
theorem Txt.m_Mouth_put (T : Txt K mg) : Meth K (He.ga K "Mouth") "put" (He.fAd K d_Mouth_put.at_) := methB_ok (T.xb 36 _ rfl)
theorem Txt.m_Mouth_take (T : Txt K mg) : Meth K (He.ga K "Mouth") "take" (He.fAd K d_Mouth_take.at_) := methB_ok (T.xb 37 _ rfl)
theorem Txt.m_Drain_is_shut (T : Txt K mg) : Meth K (He.ga K "Drain") "is_shut" (He.fAd K d_Raw_is_shut.at_) := methB_ok (T.xb 38 _ rfl)
theorem Txt.m_Drain_asked (T : Txt K mg) : Meth K (He.ga K "Drain") "asked" (He.fAd K d_Raw_asked.at_) := methB_ok (T.xb 39 _ rfl)
theorem Txt.m_Drain_noted (T : Txt K mg) : Meth K (He.ga K "Drain") "noted" (He.fAd K d_Raw_noted.at_) := methB_ok (T.xb 40 _ rfl)
theorem Txt.m_Drain_log (T : Txt K mg) : Meth K (He.ga K "Drain") "log" (He.fAd K d_Raw_log.at_) := methB_ok (T.xb 41 _ rfl)
theorem Txt.m_Drain_seeks (T : Txt K mg) : Meth K (He.ga K "Drain") "seeks" (He.fAd K d_End_seeks.at_) := methB_ok (T.xb 42 _ rfl)
theorem Txt.m_Drain_take (T : Txt K mg) : Meth K (He.ga K "Drain") "take" (He.fAd K d_Drain_take.at_) := methB_ok (T.xb 43 _ rfl)
theorem Txt.m_Drain_put (T : Txt K mg) : Meth K (He.ga K "Drain") "put" (He.fAd K d_Drain_put.at_) := methB_ok (T.xb 44 _ rfl)
theorem Txt.m_Pipe_into (T : Txt K mg) : Meth K (He.ga K "Pipe") "into" (He.fAd K d_Pipe_into.at_) := methB_ok (T.xb 45 _ rfl)
theorem Txt.m_Pipe_out (T : Txt K mg) : Meth K (He.ga K "Pipe") "out" (He.fAd K d_Pipe_out.at_) := methB_ok (T.xb 46 _ rfl)
theorem Txt.m_Pipe_held (T : Txt K mg) : Meth K (He.ga K "Pipe") "held" (He.fAd K d_Pipe_held.at_) := methB_ok (T.xb 47 _ rfl)
theorem Txt.mk_File (T : Txt K mg) : Mk K (He.ga K "File") (He.fAd K d_File___init__.at_) := mkB_ok (T.xb 48 _ rfl)
theorem Txt.mk_Device (T : Txt K mg) : Mk K (He.ga K "Device") (He.fAd K d_Device___init__.at_) := mkB_ok (T.xb 49 _ rfl)
theorem Txt.mk_Mouth (T : Txt K mg) : Mk K (He.ga K "Mouth") (He.fAd K d_End___init__.at_) := mkB_ok (T.xb 50 _ rfl)
theorem Txt.mk_Drain (T : Txt K mg) : Mk K (He.ga K "Drain") (He.fAd K d_End___init__.at_) := mkB_ok (T.xb 51 _ rfl)
theorem Txt.mk_Pipe (T : Txt K mg) : Mk K (He.ga K "Pipe") (He.fAd K d_Pipe___init__.at_) := mkB_ok (T.xb 52 _ rfl)
theorem Txt.o_Fault (T : Txt K mg) : OexC K (He.ga K "Fault") := oexB_ok (T.xb 53 _ rfl)
theorem Txt.f_Fault (T : Txt K mg) : XfC K (He.ga K "Fault") := xfB_ok (T.xb 54 _ rfl)
theorem Txt.ii_Fault (T : Txt K mg) : PySem.W.findIn K (.ref (He.ga K "Fault")) "__init__" = some (some (.ref (He.fAd K d_Fault___init__.at_))) ∧ PySem.W.typeIn K (.ref (He.fAd K d_Fault___init__.at_)) = some (.type "function") := initB_ok (T.xb 55 _ rfl)
theorem Txt.o_Stalled (T : Txt K mg) : OexC K (He.ga K "Stalled") := oexB_ok (T.xb 56 _ rfl)
theorem Txt.f_Stalled (T : Txt K mg) : XfC K (He.ga K "Stalled") := xfB_ok (T.xb 57 _ rfl)
theorem Txt.ii_Stalled (T : Txt K mg) : PySem.W.findIn K (.ref (He.ga K "Stalled")) "__init__" = some (some (.ref (He.fAd K d_Stalled___init__.at_))) ∧ PySem.W.typeIn K (.ref (He.fAd K d_Stalled___init__.at_)) = some (.type "function") := initB_ok (T.xb 58 _ rfl)
theorem Txt.o_PourFault (T : Txt K mg) : OexC K (He.ga K "PourFault") := oexB_ok (T.xb 59 _ rfl)
theorem Txt.f_PourFault (T : Txt K mg) : XfC K (He.ga K "PourFault") := xfB_ok (T.xb 60 _ rfl)
theorem Txt.ii_PourFault (T : Txt K mg) : PySem.W.findIn K (.ref (He.ga K "PourFault")) "__init__" = some (some (.ref (He.fAd K d_PourFault___init__.at_))) ∧ PySem.W.typeIn K (.ref (He.fAd K d_PourFault___init__.at_)) = some (.type "function") := initB_ok (T.xb 61 _ rfl)
theorem Txt.raw (T : Txt K mg) : ClX.CRead K (He.ga K "Raw") (.type "type") ∧ ClX.CVal K (He.ga K "Raw") (.type "type") "__init__" (.ref (He.fAd K d_Raw___init__.at_)) (.ref (He.fAd K d_Raw___init__.at_)) := rawB_ok (T.xb 62 _ rfl)
theorem Txt.ins_File (T : Txt K mg) : InsC K (He.ga K "File") := insB_ok (T.xb 63 _ rfl)
end
end Sip

set_option Elab.async false
set_option linter.all false
set_option maxRecDepth 100000
set_option maxHeartbeats 0
noncomputable section
namespace SipHd
open PySem PySem.Spec PyProof.Rows L2 Sip PySem.W PySem.Calls
def clsN : List Str := ["File", "Raw", "Device", "End", "Mouth", "Drain", "Pipe", "SipError", "Fault", "Stalled", "PourFault"]
/-- what the facts lean on: the module's names, the classes, their names, the defs and what these name -/
def asX (g : Addr → Option Obj) : List Addr :=
  let K0 := He.frG g [mainGlobals]
  let cA := clsN.map (He.ga K0)
  let nA := cA.flatMap fun a => match g a with
    | some ⟨_, _, .cls cd, _⟩ => [cd.ns]
    | _ => []
  let K1 := He.frG g (mainGlobals :: (cA ++ nA))
  let fA := fnL.map fun d => He.fAd K1 d.at_
  mainGlobals :: (cStatics :: (cA ++ (nA ++ (fA ++ fA.flatMap fun a => match g a with
    | some o => He.refsD o
    | none => []))))
abbrev AlX : Type := Bool × He.AlD
def obsX (K : PySem.W.Frag) : AlX := ((xbL K).all id, He.obsD faL fnL K)
def valX : AlX := (true, He.valD fnL)
def obsXG (g : Addr → Option Obj) : AlX := obsX (He.frG g (asX g))
def hookX : PySem.W.Hook where
  α := AlX
  obs := fun s => obsXG s.heap.get?
  val := fun _ => valX
  says := fun _ h => ∃ K : PySem.W.Frag, K.In h ∧ obsX K = valX
  of := fun _ _ e => ⟨_, He.frG_in, e⟩
  keeps := fun _ _ _ ⟨K, hK, c⟩ k => ⟨K, PySem.W.Frag.In.keeps hK k, c⟩
def ob (s : PySem.W.SharedT) : AlX := obsXG (HandSHeadRun.getT s)
theorem ob_eq (s : PySem.W.SharedT) : ob s = hookX.obs s.abs := by
  have e : HandSHeadRun.getT s = s.abs.heap.get? := funext (HandSHeadRun.getT_eq s)
  unfold ob
  rw [e] <;> rfl
abbrev RW : PySem.W.OpenLaw := PySem.Challenge.rw_sipstack_k97_whole_poured_through_a_pipe
abbrev R : PySem.W.OpenRow := PySem.W.OpenLaw.row RW
def names1 : List PySem.Str := ["_wall", "SipError", "Closed", "NoSeek", "NoReads", "NoWrites", "BadCount", "BadStart", "BadRoom", "Same", "Fault", "Stalled", "TooLong", "BadPlace", "NotByte", "BadCode", "NoSign", "NoCode", "NoEnds", "NoWay"]
def names2 : List PySem.Str := ["PourFault", "LONGEST", "ROOM", "BROKEN", "STEPS", "ANY", "KEPT", "BOTH", "STRICT", "MARK", "GREATEST", "is_byte", "count_asked", "bytes_asked", "length_asked", "goal_asked", "goal_of", "MOST_ROOM_files", "LINE_FEED", "File"]
def names3 : List PySem.Str := ["SIZES", "LEADS", "plain_read", "following", "steps_read", "wide_read", "turn_read", "plain_written", "steps_written", "wide_written", "turn_written", "READERS", "WRITERS", "first_state", "read_sign", "write_signs", "FEEDS", "written_ends", "ends_line", "first_line"]
def names4 : List PySem.Str := ["WRONG_SIGN", "MOST_BYTES", "known_words", "signs_of_row", "feeds_joined", "items_of", "PIECE", "Text", "MOST_ROOM_pouring", "alike", "seen_ahead", "handed_on", "poured", "pour", "told_anew", "Raw", "FIGURES", "BASE", "laid", "row_text"]
def names5 : List PySem.Str := ["Device", "MOST_ROOM_pipe", "End", "Mouth", "Drain", "Pipe", "_law_pool", "_law_take", "_law_row", "_law_plan", "_law_laid", "_law_poured", "_law_flushed", "_law_stands", "_law_deed", "_law_all_come"]
def names : List PySem.Str := names1 ++ (names2 ++ (names3 ++ (names4 ++ names5)))
theorem join2 {σ α β γ : Type} {e : Option σ} {f : σ → α} {g : σ → β} {h : σ → γ} {a : α} {b : β} {c : γ} (h1 : e.map (fun s => (f s, g s)) = some (a, b)) (h3 : e.map h = some c) : e.map (fun s => (f s, g s, h s)) = some (a, b, c) := by
  cases e with
  | none => cases h1
  | some s =>
    injection h1 with h1
    injection h1 with h1 h2
    injection h3 with h3
    rw [Option.map_some, h1, h2, h3]
def RunL (w : World) : Prop := ∀ os : OsState, (HandSHeadRun.endF (HandSHeadRun.stepQ (HandSHeadRun.denQ HandSHeadRun.tabQ) R.prog w) 13000 R.prog w os).map (fun s => (HandSHeadRun.looksF R.prog (boot_heap w.params) s.abs, HandSHeadRun.seenQ (PySem.W.view R.prog [109]) names (importedModules R.prog.main.body) (fun s => PySem.W.xlAt (PySem.W.view R.prog [109]) [] s && PySem.W.recOk R.toRowW.records s) s.abs)) = some (true, PySem.W.openGood (PySem.W.view R.prog [109]) names)
def RunO (w : World) : Prop := ∀ os : OsState, (HandSHeadRun.endF (HandSHeadRun.stepQ (HandSHeadRun.denQ HandSHeadRun.tabQ) R.prog w) 13000 R.prog w os).map ob = some (hookX.val w)
theorem joinR {w : World} (h1 : RunL w) (h3 : RunO w) : HandSHeadRun.RunEq R (PySem.W.view R.prog [109]) hookX ob 13000 names w := fun os => join2 (h1 os) (h3 os)
end SipHd

set_option Elab.async false
set_option linter.all false
set_option maxRecDepth 100000
set_option maxHeartbeats 0
noncomputable section
namespace SipHd
open PySem
theorem runLF (w : World) : RunL (w.withFollow "special-get-raises" false) := by
  intro os
  kernel_rfl
theorem runOF (w : World) : RunO (w.withFollow "special-get-raises" false) := by
  intro os
  kernel_rfl
theorem runLT (w : World) : RunL (w.withFollow "special-get-raises" true) := by
  intro os
  kernel_rfl
theorem runOT (w : World) : RunO (w.withFollow "special-get-raises" true) := by
  intro os
  kernel_rfl
theorem run (w : World) : HandSHeadRun.RunEq R (PySem.W.view R.prog [109]) hookX ob 13000 names w := joinR (PySem.W.byRow2 "special-get-raises" runLF runLT w) (PySem.W.byRow2 "special-get-raises" runOF runOT w)
end SipHd

set_option Elab.async false
set_option linter.all false
set_option maxRecDepth 100000
set_option maxHeartbeats 0
noncomputable section
namespace SipHd
open PySem PySem.W PySem.Calls PyProof.Rows
abbrev qv : Program := PySem.W.view R.prog [109]
abbrev dv : DefRec := HandSHeadRun.topDef R.prog 109
theorem z_open : opening R.prog = plainProg R.prog.main.scope.names := by kernel_rfl
theorem z_fence : ∀ s, fenceModules? R.prog s = some s := fun s => by kernel_rfl
theorem z_def : defOf qv R.name = some (dv, []) := by kernel_rfl
theorem z_the : R.prog.theDef R.name = some (dv.params, dv.body, dv.scope) := by kernel_rfl
theorem z_kw : kwWritten? dv.params.kwonlyargs dv.params.kw_defaults = some [] := by kernel_rfl
theorem z_ok : (chainsOk qv && opensWell R.prog && (frees R.toRowW && R.within.isEmpty)) = true := by decide +kernel
theorem z_wr : (!R.writes || R.records.isEmpty) = true := by rfl
theorem z_bare : R.prog.bare := ⟨rfl, rfl, rfl, rfl, rfl, by decide +kernel⟩
theorem z_hw : R.toRowW.promised := by w_witness2
theorem z_dn : dv.name = ("law" : PySem.Str) := by kernel_rfl
/-- the looks at the law, ahead of all else -/
theorem z_law (h : R.wellSaid = true → R.Holds) : RW.Holds := by
  w_on; o_law
  exact h (by assumption)
theorem z_head (said : R.wellSaid = true) (run : ∀ w, HandSHeadRun.RunEq R qv hookX ob 13000 names w) (hc : WalkO qv names (XL qv []) hookX.says R.toRowW dv [] fun f vs => PySem.call f vs) : R.Holds :=
  HandSHeadRun.head_any ob_eq z_open z_fence run z_def z_the z_kw z_wr said z_ok z_bare z_hw hc
end SipHd

set_option Elab.async false
set_option linter.all false
set_option maxRecDepth 100000
set_option maxHeartbeats 4000000
noncomputable section
namespace Sip
open PySem PySem.Spec PyProof.Rows L2 SipX
/-! ### the fields of the objects, in the order in which they are laid -/
def fF (raw room rd wr po li cu ah de mi : V) : List (Str × V) := [("raw", raw), ("room", room), ("reading", rd), ("writing", wr), ("pouring", po), ("live", li), ("cursor", cu), ("ahead", ah), ("delayed", de), ("missed", mi)]
def dF (li no st pl sp sy : V) : List (Str × V) := [("live", li), ("notes", no), ("stock", st), ("plan", pl), ("spot", sp), ("steady", sy)]
def eF (li no pi go : V) : List (Str × V) := [("live", li), ("notes", no), ("pipe", pi), ("gone", go)]
def pF (ro ins hi lo : V) : List (Str × V) := [("room", ro), ("inside", ins), ("high", hi), ("low", lo)]
section
variable {raw room rd wr po li cu ah de mi x : V}
theorem fF_raw : (fF raw room rd wr po li cu ah de mi).lookup ("raw" : Str) = some raw := by kernel_rfl
theorem fF_put_raw : putF "raw" x (fF raw room rd wr po li cu ah de mi) = fF x room rd wr po li cu ah de mi := by kernel_rfl
theorem fF_room : (fF raw room rd wr po li cu ah de mi).lookup ("room" : Str) = some room := by kernel_rfl
theorem fF_put_room : putF "room" x (fF raw room rd wr po li cu ah de mi) = fF raw x rd wr po li cu ah de mi := by kernel_rfl
theorem fF_reading : (fF raw room rd wr po li cu ah de mi).lookup ("reading" : Str) = some rd := by kernel_rfl
theorem fF_put_reading : putF "reading" x (fF raw room rd wr po li cu ah de mi) = fF raw room x wr po li cu ah de mi := by kernel_rfl
theorem fF_writing : (fF raw room rd wr po li cu ah de mi).lookup ("writing" : Str) = some wr := by kernel_rfl
theorem fF_put_writing : putF "writing" x (fF raw room rd wr po li cu ah de mi) = fF raw room rd x po li cu ah de mi := by kernel_rfl
theorem fF_pouring : (fF raw room rd wr po li cu ah de mi).lookup ("pouring" : Str) = some po := by kernel_rfl
theorem fF_put_pouring : putF "pouring" x (fF raw room rd wr po li cu ah de mi) = fF raw room rd wr x li cu ah de mi := by kernel_rfl
theorem fF_live : (fF raw room rd wr po li cu ah de mi).lookup ("live" : Str) = some li := by kernel_rfl
theorem fF_put_live : putF "live" x (fF raw room rd wr po li cu ah de mi) = fF raw room rd wr po x cu ah de mi := by kernel_rfl
theorem fF_cursor : (fF raw room rd wr po li cu ah de mi).lookup ("cursor" : Str) = some cu := by kernel_rfl
theorem fF_put_cursor : putF "cursor" x (fF raw room rd wr po li cu ah de mi) = fF raw room rd wr po li x ah de mi := by kernel_rfl
theorem fF_ahead : (fF raw room rd wr po li cu ah de mi).lookup ("ahead" : Str) = some ah := by kernel_rfl
theorem fF_put_ahead : putF "ahead" x (fF raw room rd wr po li cu ah de mi) = fF raw room rd wr po li cu x de mi := by kernel_rfl
theorem fF_delayed : (fF raw room rd wr po li cu ah de mi).lookup ("delayed" : Str) = some de := by kernel_rfl
theorem fF_put_delayed : putF "delayed" x (fF raw room rd wr po li cu ah de mi) = fF raw room rd wr po li cu ah x mi := by kernel_rfl
theorem fF_missed : (fF raw room rd wr po li cu ah de mi).lookup ("missed" : Str) = some mi := by kernel_rfl
theorem fF_put_missed : putF "missed" x (fF raw room rd wr po li cu ah de mi) = fF raw room rd wr po li cu ah de x := by kernel_rfl
theorem fF_no_living : (fF raw room rd wr po li cu ah de mi).lookup ("living" : Str) = none := by kernel_rfl
theorem fF_no_readable : (fF raw room rd wr po li cu ah de mi).lookup ("readable" : Str) = none := by kernel_rfl
theorem fF_no_writable : (fF raw room rd wr po li cu ah de mi).lookup ("writable" : Str) = none := by kernel_rfl
theorem fF_no_lead : (fF raw room rd wr po li cu ah de mi).lookup ("lead" : Str) = none := by kernel_rfl
theorem fF_no_hand_on : (fF raw room rd wr po li cu ah de mi).lookup ("hand_on" : Str) = none := by kernel_rfl
theorem fF_no_fetched : (fF raw room rd wr po li cu ah de mi).lookup ("fetched" : Str) = none := by kernel_rfl
theorem fF_no_gathered : (fF raw room rd wr po li cu ah de mi).lookup ("gathered" : Str) = none := by kernel_rfl
theorem fF_no_shown : (fF raw room rd wr po li cu ah de mi).lookup ("shown" : Str) = none := by kernel_rfl
theorem fF_no_pulled : (fF raw room rd wr po li cu ah de mi).lookup ("pulled" : Str) = none := by kernel_rfl
theorem fF_no_read : (fF raw room rd wr po li cu ah de mi).lookup ("read" : Str) = none := by kernel_rfl
theorem fF_no_some : (fF raw room rd wr po li cu ah de mi).lookup ("some" : Str) = none := by kernel_rfl
theorem fF_no_peek : (fF raw room rd wr po li cu ah de mi).lookup ("peek" : Str) = none := by kernel_rfl
theorem fF_no_freed : (fF raw room rd wr po li cu ah de mi).lookup ("freed" : Str) = none := by kernel_rfl
theorem fF_no_write : (fF raw room rd wr po li cu ah de mi).lookup ("write" : Str) = none := by kernel_rfl
theorem fF_no_tell : (fF raw room rd wr po li cu ah de mi).lookup ("tell" : Str) = none := by kernel_rfl
theorem fF_no_flush : (fF raw room rd wr po li cu ah de mi).lookup ("flush" : Str) = none := by kernel_rfl
theorem fF_no_waiting : (fF raw room rd wr po li cu ah de mi).lookup ("waiting" : Str) = none := by kernel_rfl
theorem fF_no_close : (fF raw room rd wr po li cu ah de mi).lookup ("close" : Str) = none := by kernel_rfl
theorem fF_no_lost : (fF raw room rd wr po li cu ah de mi).lookup ("lost" : Str) = none := by kernel_rfl
theorem fF_no_closed : (fF raw room rd wr po li cu ah de mi).lookup ("closed" : Str) = none := by kernel_rfl
theorem fF_no_busy : (fF raw room rd wr po li cu ah de mi).lookup ("busy" : Str) = none := by kernel_rfl
theorem fF_len : (fF raw room rd wr po li cu ah de mi).length = 10 := rfl
end
section
variable {li no st pl sp sy x : V}
theorem dF_live : (dF li no st pl sp sy).lookup ("live" : Str) = some li := by kernel_rfl
theorem dF_put_live : putF "live" x (dF li no st pl sp sy) = dF x no st pl sp sy := by kernel_rfl
theorem dF_notes : (dF li no st pl sp sy).lookup ("notes" : Str) = some no := by kernel_rfl
theorem dF_put_notes : putF "notes" x (dF li no st pl sp sy) = dF li x st pl sp sy := by kernel_rfl
theorem dF_stock : (dF li no st pl sp sy).lookup ("stock" : Str) = some st := by kernel_rfl
theorem dF_put_stock : putF "stock" x (dF li no st pl sp sy) = dF li no x pl sp sy := by kernel_rfl
theorem dF_plan : (dF li no st pl sp sy).lookup ("plan" : Str) = some pl := by kernel_rfl
theorem dF_put_plan : putF "plan" x (dF li no st pl sp sy) = dF li no st x sp sy := by kernel_rfl
theorem dF_spot : (dF li no st pl sp sy).lookup ("spot" : Str) = some sp := by kernel_rfl
theorem dF_put_spot : putF "spot" x (dF li no st pl sp sy) = dF li no st pl x sy := by kernel_rfl
theorem dF_steady : (dF li no st pl sp sy).lookup ("steady" : Str) = some sy := by kernel_rfl
theorem dF_put_steady : putF "steady" x (dF li no st pl sp sy) = dF li no st pl sp x := by kernel_rfl
theorem dF_no_is_shut : (dF li no st pl sp sy).lookup ("is_shut" : Str) = none := by kernel_rfl
theorem dF_no_asked : (dF li no st pl sp sy).lookup ("asked" : Str) = none := by kernel_rfl
theorem dF_no_noted : (dF li no st pl sp sy).lookup ("noted" : Str) = none := by kernel_rfl
theorem dF_no_seeks : (dF li no st pl sp sy).lookup ("seeks" : Str) = none := by kernel_rfl
theorem dF_no_seeking : (dF li no st pl sp sy).lookup ("seeking" : Str) = none := by kernel_rfl
theorem dF_no_place : (dF li no st pl sp sy).lookup ("place" : Str) = none := by kernel_rfl
theorem dF_no_longer : (dF li no st pl sp sy).lookup ("longer" : Str) = none := by kernel_rfl
theorem dF_no_drawn : (dF li no st pl sp sy).lookup ("drawn" : Str) = none := by kernel_rfl
theorem dF_no_take : (dF li no st pl sp sy).lookup ("take" : Str) = none := by kernel_rfl
theorem dF_no_put : (dF li no st pl sp sy).lookup ("put" : Str) = none := by kernel_rfl
theorem dF_no_content : (dF li no st pl sp sy).lookup ("content" : Str) = none := by kernel_rfl
theorem dF_len : (dF li no st pl sp sy).length = 6 := rfl
end
section
variable {li no pi go x : V}
theorem eF_live : (eF li no pi go).lookup ("live" : Str) = some li := by kernel_rfl
theorem eF_put_live : putF "live" x (eF li no pi go) = eF x no pi go := by kernel_rfl
theorem eF_notes : (eF li no pi go).lookup ("notes" : Str) = some no := by kernel_rfl
theorem eF_put_notes : putF "notes" x (eF li no pi go) = eF li x pi go := by kernel_rfl
theorem eF_pipe : (eF li no pi go).lookup ("pipe" : Str) = some pi := by kernel_rfl
theorem eF_put_pipe : putF "pipe" x (eF li no pi go) = eF li no x go := by kernel_rfl
theorem eF_gone : (eF li no pi go).lookup ("gone" : Str) = some go := by kernel_rfl
theorem eF_put_gone : putF "gone" x (eF li no pi go) = eF li no pi x := by kernel_rfl
theorem eF_no_is_shut : (eF li no pi go).lookup ("is_shut" : Str) = none := by kernel_rfl
theorem eF_no_asked : (eF li no pi go).lookup ("asked" : Str) = none := by kernel_rfl
theorem eF_no_noted : (eF li no pi go).lookup ("noted" : Str) = none := by kernel_rfl
theorem eF_no_log : (eF li no pi go).lookup ("log" : Str) = none := by kernel_rfl
theorem eF_no_seeks : (eF li no pi go).lookup ("seeks" : Str) = none := by kernel_rfl
theorem eF_no_take : (eF li no pi go).lookup ("take" : Str) = none := by kernel_rfl
theorem eF_no_put : (eF li no pi go).lookup ("put" : Str) = none := by kernel_rfl
theorem eF_len : (eF li no pi go).length = 4 := rfl
end
section
variable {ro ins hi lo x : V}
theorem pF_room : (pF ro ins hi lo).lookup ("room" : Str) = some ro := by kernel_rfl
theorem pF_put_room : putF "room" x (pF ro ins hi lo) = pF x ins hi lo := by kernel_rfl
theorem pF_inside : (pF ro ins hi lo).lookup ("inside" : Str) = some ins := by kernel_rfl
theorem pF_put_inside : putF "inside" x (pF ro ins hi lo) = pF ro x hi lo := by kernel_rfl
theorem pF_high : (pF ro ins hi lo).lookup ("high" : Str) = some hi := by kernel_rfl
theorem pF_put_high : putF "high" x (pF ro ins hi lo) = pF ro ins x lo := by kernel_rfl
theorem pF_low : (pF ro ins hi lo).lookup ("low" : Str) = some lo := by kernel_rfl
theorem pF_put_low : putF "low" x (pF ro ins hi lo) = pF ro ins hi x := by kernel_rfl
theorem pF_no_into : (pF ro ins hi lo).lookup ("into" : Str) = none := by kernel_rfl
theorem pF_no_out : (pF ro ins hi lo).lookup ("out" : Str) = none := by kernel_rfl
theorem pF_no_held : (pF ro ins hi lo).lookup ("held" : Str) = none := by kernel_rfl
theorem pF_len : (pF ro ins hi lo).length = 4 := rfl
end
end Sip

set_option Elab.async false
set_option linter.all false
set_option maxRecDepth 100000
set_option maxHeartbeats 4000000
noncomputable section
namespace Sip
open PySem PySem.Spec PyProof.Rows L2 SipX
abbrev CXz : CXT := fun _ _ _ _ _ _ => False
theorem pz {X : Cx} : Passes CXz X (fun _ _ _ => False) := fun _ _ _ _ _ _ _ h => h.elim
inductive Ix | fr | wi | ro | to
  deriving DecidableEq
inductive Sl | f (i : Ix) | r (i : Ix) | n (i : Ix) | p
  deriving DecidableEq
structure Pm where
  A : Sl → Addr
  D : Sl → Addr
  inj : ∀ s t, A s = A t → s = t
  row : List Int
  beh : List Int
  plan : Ix → List Int
  pl : Ix → Addr
  room : Ix → Int
  proom : Int
  hN : row.length ≤ 40
  hB : beh.length ≤ 12
  hroom : ∀ i, 1 ≤ room i ∧ room i ≤ 64
  hpr : 1 ≤ proom ∧ proom ≤ 64
  hpl : ∀ i, (plan i).length ≤ 30
  hby : ∀ x ∈ row, 0 ≤ x ∧ x ≤ 255
def up {α : Type} (f : Ix → α) (i : Ix) (v : α) : Ix → α := fun j => if j = i then v else f j
theorem up_same {α : Type} {f : Ix → α} {i : Ix} {v : α} : up f i v i = v := if_pos rfl
theorem up_ne {α : Type} {f : Ix → α} {i j : Ix} {v : α} (h : j ≠ i) : up f i v j = f j := if_neg h
theorem up_self {α : Type} {f : Ix → α} {i : Ix} : up f i (f i) = f := by
  funext j
  by_cases h : j = i
  · subst h; exact up_same
  · exact up_ne h
theorem up_up {α : Type} {f : Ix → α} {i : Ix} {v v' : α} : up (up f i v) i v' = up f i v' := by
  funext j
  by_cases h : j = i
  · subst h; rw [up_same, up_same]
  · rw [up_ne h, up_ne h, up_ne h]
structure FR where
  po : Bool
  lv : Bool
  cu : Int
  ah : List Int
  de : List Int
  mi : List Int
structure RR where
  lv : Bool
  sp : Int
  st : List Int
abbrev NR := List (Option (List Int))
structure WS where
  f : Ix → FR
  r : Ix → RR
  n : Ix → NR
  p : List Int
def dvB : Ix → Bool | .fr => true | .wi => false | .ro => false | .to => true
def rdB : Ix → Bool | .fr => true | .wi => false | .ro => true | .to => true
def wrB : Ix → Bool | .fr => true | .wi => true | .ro => false | .to => true
def rC (K : PySem.W.Frag) : Ix → Addr | .fr => He.ga K "Device" | .wi => He.ga K "Mouth" | .ro => He.ga K "Drain" | .to => He.ga K "Device"
/-! ### what is kept -/
def Keep (P : Pm) (H H' : Hp) : Prop := ∀ b o, (∀ s, b ≠ P.A s) → H b = some o → H' b = some o
def Only (P : Pm) (z : Sl) (H H' : Hp) : Prop := ∀ b o, b ≠ P.A z → H b = some o → H' b = some o
def Ex (H H' : Hp) : Prop := ∀ b o, H b = some o → H' b = some o
theorem Keep.refl {P : Pm} {H : Hp} : Keep P H H := fun _ _ _ h => h
theorem Keep.trans {P : Pm} {H H1 H2 : Hp} (a : Keep P H H1) (b : Keep P H1 H2) : Keep P H H2 := fun x o n h => b x o n (a x o n h)
theorem Only.keep {P : Pm} {z : Sl} {H H' : Hp} (h : Only P z H H') : Keep P H H' := fun b o n e => h b o (n z) e
theorem Ex.keep {P : Pm} {H H' : Hp} (h : Ex H H') : Keep P H H' := fun b o _ e => h b o e
theorem Ex.only {P : Pm} {z : Sl} {H H' : Hp} (h : Ex H H') : Only P z H H' := fun b o _ e => h b o e
theorem Ex.new {H : Hp} {p : Addr} {o : HO} (h : H p = none) : Ex H (upd H p o) := fun a u e => by
  rw [upd_ne (ne_of_none e h)]
  exact e
theorem Only.upd {P : Pm} {z : Sl} {H : Hp} {o : HO} : Only P z H (upd H (P.A z) o) := fun b u n e => by
  rw [upd_ne n]
  exact e
theorem Only.ex {P : Pm} {z : Sl} {H H1 H2 : Hp} (a : Only P z H H1) (b : Ex H1 H2) : Only P z H H2 := fun x o n h => b x o (a x o n h)
def Lst (P : Pm) (H : Hp) (l : Addr) (xs : List Int) : Prop := H l = some (.lst (xs.map V.int)) ∧ ∀ s, l ≠ P.A s
theorem Lst.keep {P : Pm} {H H' : Hp} {l : Addr} {xs : List Int} (h : Lst P H l xs) (k : Keep P H H') : Lst P H' l xs := ⟨k _ _ h.2 h.1, h.2⟩
theorem Lst.sq {P : Pm} {K : PySem.W.Frag} {H : Hp} {l : Addr} {xs : List Int} (h : Lst P H l xs) : SqL K H l (xs.map V.int) := Or.inl (Or.inl h.1)
def fObj (P : Pm) (K : PySem.W.Frag) (i : Ix) (x : FR) (ah de mi : Addr) : HO := .ins (He.ga K "File") (P.D (.f i)) (fF (.ref (P.A (.r i))) (.int (P.room i)) (.bl (rdB i)) (.bl (wrB i)) (.bl x.po) (.bl x.lv) (.int x.cu) (.ref ah) (.ref de) (.ref mi))
def FileAt (P : Pm) (K : PySem.W.Frag) (H : Hp) (i : Ix) (x : FR) : Prop := ∃ ah de mi, H (P.A (.f i)) = some (fObj P K i x ah de mi) ∧ Lst P H ah x.ah ∧ Lst P H de x.de ∧ Lst P H mi x.mi
def dObj (P : Pm) (K : PySem.W.Frag) (i : Ix) (x : RR) (st : Addr) : HO := .ins (He.ga K "Device") (P.D (.r i)) (dF (.bl x.lv) (.ref (P.A (.n i))) (.ref st) (.ref (P.pl i)) (.int x.sp) (.bl true))
def eObj (P : Pm) (K : PySem.W.Frag) (i : Ix) (x : RR) : HO := .ins (rC K i) (P.D (.r i)) (eF (.bl x.lv) (.ref (P.A (.n i))) (.ref (P.A .p)) (.int x.sp))
def RawAt (P : Pm) (K : PySem.W.Frag) (H : Hp) (i : Ix) (x : RR) : Prop :=
  if dvB i = true then ∃ st, H (P.A (.r i)) = some (dObj P K i x st) ∧ Lst P H st x.st ∧ Lst P H (P.pl i) (P.plan i) else H (P.A (.r i)) = some (eObj P K i x)
def pObj (P : Pm) (K : PySem.W.Frag) (ia : Addr) : HO := .ins (He.ga K "Pipe") (P.D .p) (pF (.int P.proom) (.ref ia) (.ref (P.A (.r .wi))) (.ref (P.A (.r .ro))))
def PipeAt (P : Pm) (K : PySem.W.Frag) (H : Hp) (l : List Int) : Prop := ∃ ia, H (P.A .p) = some (pObj P K ia) ∧ Lst P H ia l
/-- a list of ints, or an int or a text -/
def Tv (P : Pm) (H : Hp) (v : V) (o : Option (List Int)) : Prop := (∃ q l, v = .ref q ∧ o = some l ∧ Lst P H q l) ∨ (o = none ∧ ((∃ n, v = .int n) ∨ ∃ s, v = .str s))
def Nt (P : Pm) (H : Hp) (v : V) (o : Option (List Int)) : Prop := ∃ t a b c d, v = .ref t ∧ H t = some (.tup [a, b, c, d]) ∧ (∀ s, t ≠ P.A s) ∧ (∃ oc, Tv P H c oc) ∧ Tv P H d o
theorem Tv.keep {P : Pm} {H H' : Hp} {v : V} {o : Option (List Int)} (h : Tv P H v o) (k : Keep P H H') : Tv P H' v o := by
  rcases h with ⟨q, l, e, e2, h⟩ | h
  · exact .inl ⟨q, l, e, e2, h.keep k⟩
  · exact .inr h
theorem Nt.keep {P : Pm} {H H' : Hp} {v : V} {o : Option (List Int)} (h : Nt P H v o) (k : Keep P H H') : Nt P H' v o := by
  obtain ⟨t, a, b, c, d, e, ht, hn, ⟨oc, hc⟩, hd⟩ := h
  exact ⟨t, a, b, c, d, e, k _ _ hn ht, hn, ⟨oc, hc.keep k⟩, hd.keep k⟩
def NoteAt (P : Pm) (H : Hp) (i : Ix) (ns : NR) : Prop := ∃ xs, H (P.A (.n i)) = some (.lst xs) ∧ Paired (Nt P H) xs ns
theorem paired_imp {α β : Type} {R S : α → β → Prop} (h : ∀ a b, R a b → S a b) : ∀ {xs : List α} {ys : List β}, Paired R xs ys → Paired S xs ys
  | _, _, .nil => .nil
  | _, _, .cons r t => .cons (h _ _ r) (paired_imp h t)
structure W (P : Pm) (K : PySem.W.Frag) (H : Hp) (s : WS) : Prop where
  file : ∀ i, FileAt P K H i (s.f i)
  raw : ∀ i, RawAt P K H i (s.r i)
  note : ∀ i, NoteAt P H i (s.n i)
  pipe : PipeAt P K H s.p
section
variable {P : Pm} {K : PySem.W.Frag} {H H' : Hp} {s : WS} {z : Sl} {i : Ix}
theorem pne {a b : Sl} (h : a ≠ b) : P.A a ≠ P.A b := fun e => h (P.inj _ _ e)
theorem FileAt.only {x : FR} (h : FileAt P K H i x) (o : Only P z H H') (n : z ≠ .f i) : FileAt P K H' i x := by
  obtain ⟨ah, de, mi, e, h1, h2, h3⟩ := h
  exact ⟨ah, de, mi, o _ _ (pne n.symm) e, h1.keep o.keep, h2.keep o.keep, h3.keep o.keep⟩
theorem RawAt.only {x : RR} (h : RawAt P K H i x) (o : Only P z H H') (n : z ≠ .r i) : RawAt P K H' i x := by
  unfold RawAt at h ⊢
  split at h
  · rename_i e
    rw [if_pos e]
    obtain ⟨st, e, h1, h2⟩ := h
    exact ⟨st, o _ _ (pne n.symm) e, h1.keep o.keep, h2.keep o.keep⟩
  · rename_i e
    rw [if_neg e]
    exact o _ _ (pne n.symm) h
theorem NoteAt.only {x : NR} (h : NoteAt P H i x) (o : Only P z H H') (n : z ≠ .n i) : NoteAt P H' i x := by
  obtain ⟨xs, e, h1⟩ := h
  exact ⟨xs, o _ _ (pne n.symm) e, paired_imp (fun _ _ h => h.keep o.keep) h1⟩
theorem PipeAt.only {x : List Int} (h : PipeAt P K H x) (o : Only P z H H') (n : z ≠ .p) : PipeAt P K H' x := by
  obtain ⟨ia, e, h1⟩ := h
  exact ⟨ia, o _ _ (pne n.symm) e, h1.keep o.keep⟩
theorem W.fresh (w : W P K H s) {p : Addr} (h : H p = none) : ∀ t, p ≠ P.A t := fun t e => by
  subst e
  cases t with
  | f i => obtain ⟨_, _, _, e, _⟩ := w.file i; rw [h] at e; cases e
  | r i =>
    have := w.raw i
    unfold RawAt at this
    split at this
    · obtain ⟨_, e, _⟩ := this; rw [h] at e; cases e
    · rw [h] at this; cases this
  | n i => obtain ⟨_, e, _⟩ := w.note i; rw [h] at e; cases e
  | p => obtain ⟨_, e, _⟩ := w.pipe; rw [h] at e; cases e
theorem W.ex (w : W P K H s) (k : Ex H H') : W P K H' s := by
  refine ⟨fun i => ?_, fun i => ?_, fun i => ?_, ?_⟩
  · exact (w.file i).only (z := .p) k.only (by intro e; cases e)
  · exact (w.raw i).only (z := .p) k.only (by intro e; cases e)
  · exact (w.note i).only (z := .p) k.only (by intro e; cases e)
  · exact w.pipe.only (z := .f .fr) k.only (by intro e; cases e)
theorem W.new (w : W P K H s) {p : Addr} {o : HO} (h : H p = none) : W P K (upd H p o) s := w.ex (Ex.new h)
theorem W.setF (w : W P K H s) (x : FR) (o : Only P (.f i) H H') (h : FileAt P K H' i x) : W P K H' { s with f := up s.f i x } := by
  refine ⟨fun j => ?_, fun j => ?_, fun j => ?_, ?_⟩
  · by_cases e : j = i
    · subst e
      show FileAt P K H' j (up s.f j x j)
      rw [up_same]
      exact h
    · show FileAt P K H' j (up s.f i x j)
      rw [up_ne e]
      exact (w.file j).only o (by intro q; injection q with q; exact e q.symm)
  · exact (w.raw j).only o (by intro e; cases e)
  · exact (w.note j).only o (by intro e; cases e)
  · exact w.pipe.only o (by intro e; cases e)
theorem W.setR (w : W P K H s) (x : RR) (o : Only P (.r i) H H') (h : RawAt P K H' i x) : W P K H' { s with r := up s.r i x } := by
  refine ⟨fun j => ?_, fun j => ?_, fun j => ?_, ?_⟩
  · exact (w.file j).only o (by intro e; cases e)
  · by_cases e : j = i
    · subst e
      show RawAt P K H' j (up s.r j x j)
      rw [up_same]
      exact h
    · show RawAt P K H' j (up s.r i x j)
      rw [up_ne e]
      exact (w.raw j).only o (by intro q; injection q with q; exact e q.symm)
  · exact (w.note j).only o (by intro e; cases e)
  · exact w.pipe.only o (by intro e; cases e)
theorem W.setN (w : W P K H s) (x : NR) (o : Only P (.n i) H H') (h : NoteAt P H' i x) : W P K H' { s with n := up s.n i x } := by
  refine ⟨fun j => ?_, fun j => ?_, fun j => ?_, ?_⟩
  · exact (w.file j).only o (by intro e; cases e)
  · exact (w.raw j).only o (by intro e; cases e)
  · by_cases e : j = i
    · subst e
      show NoteAt P H' j (up s.n j x j)
      rw [up_same]
      exact h
    · show NoteAt P H' j (up s.n i x j)
      rw [up_ne e]
      exact (w.note j).only o (by intro q; injection q with q; exact e q.symm)
  · exact w.pipe.only o (by intro e; cases e)
theorem W.setP (w : W P K H s) (x : List Int) (o : Only P .p H H') (h : PipeAt P K H' x) : W P K H' { s with p := x } :=
  ⟨fun j => (w.file j).only o (by intro e; cases e), fun j => (w.raw j).only o (by intro e; cases e), fun j => (w.note j).only o (by intro e; cases e), h⟩
/-! ### stores -/
variable {ah de mi l : Addr} {xs : List Int}
theorem W.s_pouring (w : W P K H s) (e : H (P.A (.f i)) = some (fObj P K i (s.f i) ah de mi)) (h1 : Lst P H ah (s.f i).ah) (h2 : Lst P H de (s.f i).de) (h3 : Lst P H mi (s.f i).mi) {b : Bool} :
    W P K (upd H (P.A (.f i)) (.ins (He.ga K "File") (P.D (.f i)) (putF "pouring" (.bl b) (fF (.ref (P.A (.r i))) (.int (P.room i)) (.bl (rdB i)) (.bl (wrB i)) (.bl (s.f i).po) (.bl (s.f i).lv) (.int (s.f i).cu) (.ref ah) (.ref de) (.ref mi))))) { s with f := up s.f i { s.f i with po := b } } := by
  rw [fF_put_pouring]
  exact w.setF _ Only.upd ⟨ah, de, mi, upd_same, h1.keep Only.upd.keep, h2.keep Only.upd.keep, h3.keep Only.upd.keep⟩
theorem W.s_live (w : W P K H s) (e : H (P.A (.f i)) = some (fObj P K i (s.f i) ah de mi)) (h1 : Lst P H ah (s.f i).ah) (h2 : Lst P H de (s.f i).de) (h3 : Lst P H mi (s.f i).mi) {b : Bool} :
    W P K (upd H (P.A (.f i)) (.ins (He.ga K "File") (P.D (.f i)) (putF "live" (.bl b) (fF (.ref (P.A (.r i))) (.int (P.room i)) (.bl (rdB i)) (.bl (wrB i)) (.bl (s.f i).po) (.bl (s.f i).lv) (.int (s.f i).cu) (.ref ah) (.ref de) (.ref mi))))) { s with f := up s.f i { s.f i with lv := b } } := by
  rw [fF_put_live]
  exact w.setF _ Only.upd ⟨ah, de, mi, upd_same, h1.keep Only.upd.keep, h2.keep Only.upd.keep, h3.keep Only.upd.keep⟩
theorem W.s_cursor (w : W P K H s) (e : H (P.A (.f i)) = some (fObj P K i (s.f i) ah de mi)) (h1 : Lst P H ah (s.f i).ah) (h2 : Lst P H de (s.f i).de) (h3 : Lst P H mi (s.f i).mi) {b : Int} :
    W P K (upd H (P.A (.f i)) (.ins (He.ga K "File") (P.D (.f i)) (putF "cursor" (.int b) (fF (.ref (P.A (.r i))) (.int (P.room i)) (.bl (rdB i)) (.bl (wrB i)) (.bl (s.f i).po) (.bl (s.f i).lv) (.int (s.f i).cu) (.ref ah) (.ref de) (.ref mi))))) { s with f := up s.f i { s.f i with cu := b } } := by
  rw [fF_put_cursor]
  exact w.setF _ Only.upd ⟨ah, de, mi, upd_same, h1.keep Only.upd.keep, h2.keep Only.upd.keep, h3.keep Only.upd.keep⟩
theorem W.s_ahead (w : W P K H s) (e : H (P.A (.f i)) = some (fObj P K i (s.f i) ah de mi)) (h2 : Lst P H de (s.f i).de) (h3 : Lst P H mi (s.f i).mi) (h : Lst P H l xs) :
    W P K (upd H (P.A (.f i)) (.ins (He.ga K "File") (P.D (.f i)) (putF "ahead" (.ref l) (fF (.ref (P.A (.r i))) (.int (P.room i)) (.bl (rdB i)) (.bl (wrB i)) (.bl (s.f i).po) (.bl (s.f i).lv) (.int (s.f i).cu) (.ref ah) (.ref de) (.ref mi))))) { s with f := up s.f i { s.f i with ah := xs } } := by
  rw [fF_put_ahead]
  exact w.setF _ Only.upd ⟨l, de, mi, upd_same, h.keep Only.upd.keep, h2.keep Only.upd.keep, h3.keep Only.upd.keep⟩
theorem W.s_delayed (w : W P K H s) (e : H (P.A (.f i)) = some (fObj P K i (s.f i) ah de mi)) (h1 : Lst P H ah (s.f i).ah) (h3 : Lst P H mi (s.f i).mi) (h : Lst P H l xs) :
    W P K (upd H (P.A (.f i)) (.ins (He.ga K "File") (P.D (.f i)) (putF "delayed" (.ref l) (fF (.ref (P.A (.r i))) (.int (P.room i)) (.bl (rdB i)) (.bl (wrB i)) (.bl (s.f i).po) (.bl (s.f i).lv) (.int (s.f i).cu) (.ref ah) (.ref de) (.ref mi))))) { s with f := up s.f i { s.f i with de := xs } } := by
  rw [fF_put_delayed]
  exact w.setF _ Only.upd ⟨ah, l, mi, upd_same, h1.keep Only.upd.keep, h.keep Only.upd.keep, h3.keep Only.upd.keep⟩
theorem W.s_missed (w : W P K H s) (e : H (P.A (.f i)) = some (fObj P K i (s.f i) ah de mi)) (h1 : Lst P H ah (s.f i).ah) (h2 : Lst P H de (s.f i).de) (h : Lst P H l xs) :
    W P K (upd H (P.A (.f i)) (.ins (He.ga K "File") (P.D (.f i)) (putF "missed" (.ref l) (fF (.ref (P.A (.r i))) (.int (P.room i)) (.bl (rdB i)) (.bl (wrB i)) (.bl (s.f i).po) (.bl (s.f i).lv) (.int (s.f i).cu) (.ref ah) (.ref de) (.ref mi))))) { s with f := up s.f i { s.f i with mi := xs } } := by
  rw [fF_put_missed]
  exact w.setF _ Only.upd ⟨ah, de, l, upd_same, h1.keep Only.upd.keep, h2.keep Only.upd.keep, h.keep Only.upd.keep⟩
theorem W.dev (w : W P K H s) (h : dvB i = true) : ∃ st, H (P.A (.r i)) = some (dObj P K i (s.r i) st) ∧ Lst P H st (s.r i).st ∧ Lst P H (P.pl i) (P.plan i) := by
  have := w.raw i
  unfold RawAt at this
  rw [if_pos h] at this
  exact this
theorem W.end_ (w : W P K H s) (h : dvB i = false) : H (P.A (.r i)) = some (eObj P K i (s.r i)) := by
  have := w.raw i
  unfold RawAt at this
  rw [if_neg (by rw [h]; decide)] at this
  exact this
theorem W.s_stock (w : W P K H s) (hd : dvB i = true) {st : Addr} (e : H (P.A (.r i)) = some (dObj P K i (s.r i) st)) (h2 : Lst P H (P.pl i) (P.plan i)) (h : Lst P H l xs) :
    W P K (upd H (P.A (.r i)) (.ins (He.ga K "Device") (P.D (.r i)) (putF "stock" (.ref l) (dF (.bl (s.r i).lv) (.ref (P.A (.n i))) (.ref st) (.ref (P.pl i)) (.int (s.r i).sp) (.bl true))))) { s with r := up s.r i { s.r i with st := xs } } := by
  rw [dF_put_stock]
  refine w.setR _ Only.upd ?_
  unfold RawAt
  rw [if_pos hd]
  exact ⟨l, upd_same, h.keep Only.upd.keep, h2.keep Only.upd.keep⟩
theorem W.s_spot (w : W P K H s) (hd : dvB i = true) {st : Addr} (e : H (P.A (.r i)) = some (dObj P K i (s.r i) st)) (h : Lst P H st (s.r i).st) (h2 : Lst P H (P.pl i) (P.plan i)) {b : Int} :
    W P K (upd H (P.A (.r i)) (.ins (He.ga K "Device") (P.D (.r i)) (putF "spot" (.int b) (dF (.bl (s.r i).lv) (.ref (P.A (.n i))) (.ref st) (.ref (P.pl i)) (.int (s.r i).sp) (.bl true))))) { s with r := up s.r i { s.r i with sp := b } } := by
  rw [dF_put_spot]
  refine w.setR _ Only.upd ?_
  unfold RawAt
  rw [if_pos hd]
  exact ⟨st, upd_same, h.keep Only.upd.keep, h2.keep Only.upd.keep⟩
theorem W.s_gone (w : W P K H s) (hd : dvB i = false) {b : Int} :
    W P K (upd H (P.A (.r i)) (.ins (rC K i) (P.D (.r i)) (putF "gone" (.int b) (eF (.bl (s.r i).lv) (.ref (P.A (.n i))) (.ref (P.A .p)) (.int (s.r i).sp))))) { s with r := up s.r i { s.r i with sp := b } } := by
  rw [eF_put_gone]
  refine w.setR _ Only.upd ?_
  unfold RawAt
  rw [if_neg (by rw [hd]; decide)]
  exact upd_same
theorem W.s_rlive (w : W P K H s) (hd : dvB i = false) {b : Bool} :
    W P K (upd H (P.A (.r i)) (.ins (rC K i) (P.D (.r i)) (putF "live" (.bl b) (eF (.bl (s.r i).lv) (.ref (P.A (.n i))) (.ref (P.A .p)) (.int (s.r i).sp))))) { s with r := up s.r i { s.r i with lv := b } } := by
  rw [eF_put_live]
  refine w.setR _ Only.upd ?_
  unfold RawAt
  rw [if_neg (by rw [hd]; decide)]
  exact upd_same
theorem W.s_inside (w : W P K H s) {ia : Addr} (h : Lst P H l xs) :
    W P K (upd H (P.A .p) (.ins (He.ga K "Pipe") (P.D .p) (putF "inside" (.ref l) (pF (.int P.proom) (.ref ia) (.ref (P.A (.r .wi))) (.ref (P.A (.r .ro))))))) { s with p := xs } := by
  rw [pF_put_inside]
  exact w.setP _ Only.upd ⟨l, upd_same, h.keep Only.upd.keep⟩
theorem W.s_note (w : W P K H s) {vs : List V} (e : H (P.A (.n i)) = some (.lst vs)) (hp : Paired (Nt P H) vs (s.n i)) {v : V} {o : Option (List Int)} (h : Nt P H v o) :
    W P K (upd H (P.A (.n i)) (.lst (vs ++ [v]))) { s with n := up s.n i (s.n i ++ [o]) } :=
  w.setN _ Only.upd ⟨_, upd_same, Paired.snoc (paired_imp (fun _ _ h => h.keep Only.upd.keep) hp) (h.keep Only.upd.keep)⟩
theorem lst_new (w : W P K H s) {p : Addr} (h : H p = none) : Lst P (upd H p (.lst (xs.map V.int))) p xs := ⟨upd_same, w.fresh h⟩
theorem lst_newE (w : W P K H s) {p : Addr} {ys : List V} (h : H p = none) (e : ys = xs.map V.int) : Lst P (upd H p (.lst ys)) p xs := by
  subst e
  exact lst_new w h
end
/-- a raw as its callers see it -/
theorem W.rget {P : Pm} {K : PySem.W.Frag} {H : Hp} {s : WS} (w : W P K H s) (i : Ix) : ∃ fs : List (Str × V), H (P.A (.r i)) = some (.ins (rC K i) (P.D (.r i)) fs) ∧ fs.lookup ("live" : Str) = some (V.bl (s.r i).lv) ∧ fs.lookup ("notes" : Str) = some (V.ref (P.A (.n i))) ∧
    fs.lookup ("asked" : Str) = none ∧ fs.lookup ("noted" : Str) = none ∧ fs.lookup ("seeks" : Str) = none ∧ fs.lookup ("take" : Str) = none ∧ fs.lookup ("put" : Str) = none ∧ (dvB i = true → fs.lookup ("steady" : Str) = some (V.bl true)) := by
  cases h : dvB i with
  | true =>
    obtain ⟨st, e, _⟩ := w.dev h
    refine ⟨dF (.bl (s.r i).lv) (.ref (P.A (.n i))) (.ref st) (.ref (P.pl i)) (.int (s.r i).sp) (.bl true), ?_, dF_live, dF_notes, dF_no_asked, dF_no_noted, dF_no_seeks, dF_no_take, dF_no_put, fun _ => dF_steady⟩
    rw [e]
    cases i <;> first | rfl | cases h
  | false => exact ⟨eF (.bl (s.r i).lv) (.ref (P.A (.n i))) (.ref (P.A .p)) (.int (s.r i).sp), w.end_ h, eF_live, eF_notes, eF_no_asked, eF_no_noted, eF_no_seeks, eF_no_take, eF_no_put, fun q => by cases q⟩
/-! ### lists -/
theorem map_len (xs : List Int) : (xs.map V.int).length = xs.length := List.length_map ..
theorem cut_to (xs : List Int) (n : Nat) : cutV (xs.map V.int) none (some (n : Int)) = (xs.take n).map V.int := by
  unfold cutV
  rw [HT.sIx_none, HT.sIx_nat, List.drop_zero, Nat.sub_zero, ← List.map_take, List.length_map]
  congr 1
  by_cases h : n ≤ xs.length
  · rw [Nat.min_eq_left h]
  · rw [Nat.min_eq_right (by omega), List.take_of_length_le (Nat.le_refl _), List.take_of_length_le (by omega)]
theorem cut_from (xs : List Int) (n : Nat) : cutV (xs.map V.int) (some (n : Int)) none = (xs.drop n).map V.int := by
  unfold cutV
  rw [HT.sIx_none, HT.sIx_nat, List.length_map, ← List.map_drop, ← List.map_take]
  congr 1
  by_cases h : n ≤ xs.length
  · rw [Nat.min_eq_left h, List.take_of_length_le (by rw [List.length_drop]; exact Nat.le_refl _)]
  · rw [Nat.min_eq_right (by omega), Nat.sub_self, List.take_zero, List.drop_eq_nil_of_le (by omega)]
theorem cut_mid (xs : List Int) (n m : Nat) : cutV (xs.map V.int) (some (n : Int)) (some (m : Int)) = ((xs.take m).drop n).map V.int := by
  unfold cutV
  rw [HT.sIx_nat, HT.sIx_nat, List.length_map, ← List.map_drop, ← List.map_take]
  congr 1
  rw [List.drop_take]
  by_cases h : n ≤ xs.length
  · rw [Nat.min_eq_left h]
    by_cases h2 : m ≤ xs.length
    · rw [Nat.min_eq_left h2]
    · rw [Nat.min_eq_right (by omega), List.take_of_length_le (l := xs.drop n) (i := m - n) (by rw [List.length_drop]; omega), List.take_of_length_le (by rw [List.length_drop]; exact Nat.le_refl _)]
  · rw [Nat.min_eq_right (b := xs.length) (a := n) (by omega), List.drop_eq_nil_of_le (Nat.le_refl _), List.drop_eq_nil_of_le (by omega)]
    simp
theorem cat_map (xs ys : List Int) : xs.map V.int ++ ys.map V.int = (xs ++ ys).map V.int := (List.map_append ..).symm
def seg (xs : List Int) (a b : Nat) : List Int := (xs.take b).drop a
theorem seg_len {xs : List Int} {a b : Nat} (h : b ≤ xs.length) : (seg xs a b).length = b - a := by
  unfold seg
  rw [List.length_drop, List.length_take, Nat.min_eq_left h]
theorem seg_self {xs : List Int} {a : Nat} : seg xs a a = [] := by
  unfold seg
  exact List.drop_eq_nil_of_le (by rw [List.length_take]; exact Nat.min_le_left _ _)
theorem seg_app {xs : List Int} {a b c : Nat} (h1 : a ≤ b) (h2 : b ≤ c) (h3 : c ≤ xs.length) : seg xs a b ++ seg xs b c = seg xs a c := by
  unfold seg
  rw [List.drop_take, List.drop_take, List.drop_take]
  have e : xs.drop b = (xs.drop a).drop (b - a) := by rw [List.drop_drop]; congr 1; omega
  rw [e, show c - a = (b - a) + (c - b) by omega, List.take_add]
theorem seg_take {xs : List Int} {a b m : Nat} (h : a + m ≤ b) : (seg xs a b).take m = seg xs a (a + m) := by
  unfold seg
  rw [List.drop_take, List.drop_take, List.take_take]
  congr 1
  omega
theorem seg_drop {xs : List Int} {a b m : Nat} : (seg xs a b).drop m = seg xs (a + m) b := by
  unfold seg
  rw [List.drop_drop]
theorem seg_all {xs : List Int} {b : Nat} (h : xs.length ≤ b) : seg xs 0 b = xs := by
  unfold seg
  rw [List.drop_zero, List.take_of_length_le h]
theorem seg_zero {xs : List Int} {b : Nat} : seg xs 0 b = xs.take b := by
  unfold seg
  rw [List.drop_zero]
/-! ### the world by numbers -/
def isT : Ix → Bool | .fr => false | .wi => true | .ro => false | .to => true
structure Z where
  lo : Ix → Nat
  c : Ix → Nat
  hi : Ix → Nat
  sp : Ix → Nat
  n : Ix → NR
  lv : Bool
  po : Ix → Bool
def lvI (b : Bool) : Ix → Bool | .wi => b | _ => true
def stk (P : Pm) (k : Nat) : Ix → List Int | .to => P.row.take k ++ P.beh.drop k | _ => P.row
def toWS (P : Pm) (z : Z) : WS where
  f := fun i => ⟨z.po i, lvI z.lv i, z.c i, seg P.row (z.c i) (z.hi i), seg P.row (z.lo i) (z.c i), []⟩
  r := fun i => ⟨lvI z.lv i, z.sp i, stk P (z.sp i) i⟩
  n := z.n
  p := seg P.row (z.sp .ro) (z.sp .wi)
def cat : NR → List Int
  | [] => []
  | some l :: r => l ++ cat r
  | none :: r => cat r
theorem cat_app : ∀ (a b : NR), cat (a ++ b) = cat a ++ cat b
  | [], b => rfl
  | some l :: r, b => by
    show l ++ cat (r ++ b) = l ++ cat r ++ cat b
    rw [cat_app r b, List.append_assoc]
  | none :: r, b => cat_app r b
/-- what holds between the deeds -/
structure ZI (P : Pm) (z : Z) : Prop where
  src : ∀ i, isT i = false → z.lo i = z.c i ∧ z.sp i = z.hi i ∧ z.c i ≤ z.hi i ∧ z.hi i ≤ P.row.length
  tgt : ∀ i, isT i = true → z.hi i = z.c i ∧ z.sp i = z.lo i ∧ z.lo i ≤ z.c i ∧ z.c i ≤ P.row.length
  pip : z.sp .ro ≤ z.sp .wi ∧ (z.sp .wi : Int) - z.sp .ro ≤ P.proom
  log : cat (z.n .ro) = seg P.row 0 (z.sp .ro)
  rm : ∀ i, isT i = true → (z.c i : Int) - z.lo i ≤ P.room i
theorem WS.eq {s t : WS} (h1 : ∀ i, s.f i = t.f i) (h2 : ∀ i, s.r i = t.r i) (h3 : ∀ i, s.n i = t.n i) (h4 : s.p = t.p) : s = t := by
  obtain ⟨a, b, c, d⟩ := s
  obtain ⟨a', b', c', d'⟩ := t
  have e1 : a = a' := funext h1
  have e2 : b = b' := funext h2
  have e3 : c = c' := funext h3
  have e4 : d = d' := h4
  rw [e1, e2, e3, e4]
theorem W.cast {P : Pm} {K : PySem.W.Frag} {H : Hp} {s t : WS} (w : W P K H s) (e : s = t) : W P K H t := e ▸ w
theorem sz1 {n : Nat} (h : n ≤ 10000000) : n ≤ sizeLine := Nat.le_trans h (by decide)
theorem sz2 {n : Nat} (h : n < 10000000) : n < sizeLine := Nat.lt_of_lt_of_le h (by decide)
theorem pt_never {X : Cx} {e : Expr} : PT X e (fun _ _ _ => False) := ⟨fun _ _ _ _ _ _ h => h.elim⟩
theorem pe_never {X : Cx} {e : Expr} : PE X e (fun _ _ _ => False) := ⟨fun _ _ _ _ _ _ h => h.elim⟩
section
variable {K : PySem.W.Frag} {mg : Str → Option Value}
theorem Txt.clsR (T : Txt K mg) (i : Ix) : Cls K (rC K i) := by
  cases i
  · exact T.cls_Device
  · exact T.cls_Mouth
  · exact T.cls_Drain
  · exact T.cls_Device
theorem Txt.nR_live (T : Txt K mg) (i : Ix) : NoAttr K (rC K i) "live" := by
  cases i
  · exact T.n_Device_live
  · exact T.n_Mouth_live
  · exact T.n_Drain_live
  · exact T.n_Device_live
theorem Txt.nR_notes (T : Txt K mg) (i : Ix) : NoAttr K (rC K i) "notes" := by
  cases i
  · exact T.n_Device_notes
  · exact T.n_Mouth_notes
  · exact T.n_Drain_notes
  · exact T.n_Device_notes
theorem Txt.mR_is_shut (T : Txt K mg) (i : Ix) : Meth K (rC K i) "is_shut" (He.fAd K d_Raw_is_shut.at_) := by
  cases i
  · exact T.m_Device_is_shut
  · exact T.m_Mouth_is_shut
  · exact T.m_Drain_is_shut
  · exact T.m_Device_is_shut
end
end Sip

set_option Elab.async false
set_option linter.all false
set_option maxRecDepth 100000
set_option maxHeartbeats 4000000
noncomputable section
namespace Sip
open PySem PySem.Spec PyProof.Rows L2 SipX L2H HotX
theorem ifT {c : Bool} {A B : Prop} (h : c = true) (q : A) : if c = true then A else B := by rw [if_pos h]; exact q
theorem ifF {c : Bool} {A B : Prop} (h : c = false) (q : B) : if c = true then A else B := by rw [if_neg (by rw [h]; decide)]; exact q
/-! ### the exceptions' own dicts -/
def spFault (K : PySem.W.Frag) : Sp := fun vs H Q _ => ∃ a x y, vs = [.ref a, x, y] ∧ H a = some (exo a (He.ga K "Fault") none) ∧ ∀ dx, dx ≠ a → H dx = none →
  Q .non (upd (upd (upd H dx (exd dx [("number", x)])) a (exo a (He.ga K "Fault") (some dx))) dx (exd dx [("taken", y), ("number", x)]))
def spStalled (K : PySem.W.Frag) : Sp := fun vs H Q _ => ∃ a x, vs = [.ref a, x] ∧ H a = some (exo a (He.ga K "Stalled") none) ∧ ∀ dx, dx ≠ a → H dx = none →
  Q .non (upd (upd H dx (exd dx [("taken", x)])) a (exo a (He.ga K "Stalled") (some dx)))
def spPourFault (K : PySem.W.Frag) : Sp := fun vs H Q _ => ∃ a x y z, vs = [.ref a, x, y, z] ∧ H a = some (exo a (He.ga K "PourFault") none) ∧ ∀ dx, dx ≠ a → H dx = none →
  Q .non (upd (upd (upd (upd H dx (exd dx [("number", x)])) a (exo a (He.ga K "PourFault") (some dx))) dx (exd dx [("count", y), ("number", x)])) dx (exd dx [("side", z), ("count", y), ("number", x)]))
section
variable {K : PySem.W.Frag} {H2 : Hp} {a : Addr} {x y z : V} {Q : XK}
theorem spFault_q (h : ∀ d Hx, H2 d = none → Ex H2 Hx → Hx d = some (.xd [("taken", y), ("number", x)]) → Q (.ref (He.ga K "Fault")) (some d) Hx) (na : H2 a = none) :
    spFault K [.ref a, x, y] (upd H2 a (exo a (He.ga K "Fault") none)) (exQ (He.ga K "Fault") a H2 Q) X0 := by
  refine ⟨a, x, y, rfl, upd_same, fun d hne hd => ?_⟩
  rw [upd_ne hne] at hd
  refine ⟨rfl, d, _, by rw [upd_ne hne.symm, upd_same], upd_same, hd, h d _ hd (fun b o e => ?_) upd_same⟩
  have h1 : b ≠ a := ne_of_none e na
  have h2 : b ≠ d := ne_of_none e hd
  rw [upd_ne h2, del_ne h1, upd_ne h2, upd_ne h1, upd_ne h2, upd_ne h1]
  exact e
theorem spStalled_q (h : ∀ d Hx, H2 d = none → Ex H2 Hx → Hx d = some (.xd [("taken", x)]) → Q (.ref (He.ga K "Stalled")) (some d) Hx) (na : H2 a = none) :
    spStalled K [.ref a, x] (upd H2 a (exo a (He.ga K "Stalled") none)) (exQ (He.ga K "Stalled") a H2 Q) X0 := by
  refine ⟨a, x, rfl, upd_same, fun d hne hd => ?_⟩
  rw [upd_ne hne] at hd
  refine ⟨rfl, d, _, upd_same, by rw [upd_ne hne, upd_same], hd, h d _ hd (fun b o e => ?_) upd_same⟩
  have h1 : b ≠ a := ne_of_none e na
  have h2 : b ≠ d := ne_of_none e hd
  rw [upd_ne h2, del_ne h1, upd_ne h1, upd_ne h2, upd_ne h1]
  exact e
theorem spPourFault_q (h : ∀ d Hx, H2 d = none → Ex H2 Hx → Hx d = some (.xd [("side", z), ("count", y), ("number", x)]) → Q (.ref (He.ga K "PourFault")) (some d) Hx) (na : H2 a = none) :
    spPourFault K [.ref a, x, y, z] (upd H2 a (exo a (He.ga K "PourFault") none)) (exQ (He.ga K "PourFault") a H2 Q) X0 := by
  refine ⟨a, x, y, z, rfl, upd_same, fun d hne hd => ?_⟩
  rw [upd_ne hne] at hd
  refine ⟨rfl, d, _, by rw [upd_ne hne.symm, upd_ne hne.symm, upd_same], upd_same, hd, h d _ hd (fun b o e => ?_) upd_same⟩
  have h1 : b ≠ a := ne_of_none e na
  have h2 : b ≠ d := ne_of_none e hd
  rw [upd_ne h2, del_ne h1, upd_ne h2, upd_ne h2, upd_ne h1, upd_ne h2, upd_ne h1]
  exact e
end
section
variable {prog : Program} {w : World} {base : Heap} {K : PySem.W.Frag} {mg : Str → Option Value}
theorem ok_Fault___init__ (T : Txt K mg) : FnOk prog w K mg base CXz 1 (He.fAd K d_Fault___init__.at_) (fdO K d_Fault___init__) ["self", "number", "taken"] (spFault K) :=
  T.F_Fault___init__.ok sc_Fault___init__ (fun vs H Q E h => by obtain ⟨_, _, _, rfl, _⟩ := h; rfl) fun cdv A outer st H vs Q E hr h => by
    obtain ⟨a, x, y, rfl, ha, q⟩ := h
    refine ⟨_, (pss_cons (ps_ost (pv 0) (pv 1)) (pss_one (ps_ost (pv 0) (pv 2)))), ?_⟩
    refine ⟨_, rfl, _, rfl, a, _, rfl, T.o_Fault, T.n_Fault_number, .inl ⟨ha, fun dx n hne => ?_⟩⟩
    exact ⟨_, rfl, _, rfl, a, _, rfl, T.o_Fault, T.n_Fault_taken, .inr ⟨dx, _, upd_same, by rw [upd_ne hne, upd_same], Nat.le_of_ble_eq_true rfl, q dx hne n⟩⟩
theorem okH_Fault___init__ (T : Txt K mg) : FnH prog w K mg base CXz 1 (He.fAd K d_Fault___init__.at_) (fdO K d_Fault___init__) ["self", "number", "taken"] (spFault K) := by
  obtain ⟨oc, od, dV, kV, doc, pm, an, cdv, ct, osl, e1, lk, hcd, _⟩ := T.F_Fault___init__.ex
  rw [e1] at lk ⊢
  refine fn_ofH lk hcd sc_Fault___init__ (fun vs H Q E h => by obtain ⟨_, _, _, rfl, _⟩ := h; rfl) fun A outer st H vs Q E p hot hr h => ?_
  obtain ⟨a, x, y, rfl, ha, q⟩ := h
  refine ⟨_, (pss_cons (ps_ost (pv 0) (pv 1)) (pss_one (ps_ost (pv 0) (pv 2)))), ?_⟩
  refine ⟨_, rfl, _, rfl, a, _, rfl, T.o_Fault, T.n_Fault_number, .inl ⟨ha, fun dx n hne => ?_⟩⟩
  exact ⟨_, rfl, _, rfl, a, _, rfl, T.o_Fault, T.n_Fault_taken, .inr ⟨dx, _, upd_same, by rw [upd_ne hne, upd_same], Nat.le_of_ble_eq_true rfl, q dx hne n⟩⟩
theorem ok_Stalled___init__ (T : Txt K mg) : FnOk prog w K mg base CXz 1 (He.fAd K d_Stalled___init__.at_) (fdO K d_Stalled___init__) ["self", "taken"] (spStalled K) :=
  T.F_Stalled___init__.ok sc_Stalled___init__ (fun vs H Q E h => by obtain ⟨_, _, rfl, _⟩ := h; rfl) fun cdv A outer st H vs Q E hr h => by
    obtain ⟨a, x, rfl, ha, q⟩ := h
    refine ⟨_, (pss_one (ps_ost (pv 0) (pv 1))), ?_⟩
    exact ⟨_, rfl, _, rfl, a, _, rfl, T.o_Stalled, T.n_Stalled_taken, .inl ⟨ha, fun dx n hne => q dx hne n⟩⟩
theorem ok_PourFault___init__ (T : Txt K mg) : FnOk prog w K mg base CXz 1 (He.fAd K d_PourFault___init__.at_) (fdO K d_PourFault___init__) ["self", "number", "count", "side"] (spPourFault K) :=
  T.F_PourFault___init__.ok sc_PourFault___init__ (fun vs H Q E h => by obtain ⟨_, _, _, _, rfl, _⟩ := h; rfl) fun cdv A outer st H vs Q E hr h => by
    obtain ⟨a, x, y, z, rfl, ha, q⟩ := h
    refine ⟨_, (pss_cons (ps_ost (pv 0) (pv 1)) (pss_cons (ps_ost (pv 0) (pv 2)) (pss_one (ps_ost (pv 0) (pv 3))))), ?_⟩
    refine ⟨_, rfl, _, rfl, a, _, rfl, T.o_PourFault, T.n_PourFault_number, .inl ⟨ha, fun dx n hne => ?_⟩⟩
    refine ⟨_, rfl, _, rfl, a, _, rfl, T.o_PourFault, T.n_PourFault_count, .inr ⟨dx, _, upd_same, by rw [upd_ne hne, upd_same], Nat.le_of_ble_eq_true rfl, ?_⟩⟩
    exact ⟨_, rfl, _, rfl, a, _, rfl, T.o_PourFault, T.n_PourFault_side, .inr ⟨dx, _, by rw [upd_ne hne.symm, upd_same], upd_same, Nat.le_of_ble_eq_true rfl, q dx hne n⟩⟩
theorem okH_PourFault___init__ (T : Txt K mg) : FnH prog w K mg base CXz 1 (He.fAd K d_PourFault___init__.at_) (fdO K d_PourFault___init__) ["self", "number", "count", "side"] (spPourFault K) := by
  obtain ⟨oc, od, dV, kV, doc, pm, an, cdv, ct, osl, e1, lk, hcd, _⟩ := T.F_PourFault___init__.ex
  rw [e1] at lk ⊢
  refine fn_ofH lk hcd sc_PourFault___init__ (fun vs H Q E h => by obtain ⟨_, _, _, _, rfl, _⟩ := h; rfl) fun A outer st H vs Q E p hot hr h => ?_
  obtain ⟨a, x, y, z, rfl, ha, q⟩ := h
  refine ⟨_, (pss_cons (ps_ost (pv 0) (pv 1)) (pss_cons (ps_ost (pv 0) (pv 2)) (pss_one (ps_ost (pv 0) (pv 3))))), ?_⟩
  refine ⟨_, rfl, _, rfl, a, _, rfl, T.o_PourFault, T.n_PourFault_number, .inl ⟨ha, fun dx n hne => ?_⟩⟩
  refine ⟨_, rfl, _, rfl, a, _, rfl, T.o_PourFault, T.n_PourFault_count, .inr ⟨dx, _, upd_same, by rw [upd_ne hne, upd_same], Nat.le_of_ble_eq_true rfl, ?_⟩⟩
  exact ⟨_, rfl, _, rfl, a, _, rfl, T.o_PourFault, T.n_PourFault_side, .inr ⟨dx, _, by rw [upd_ne hne.symm, upd_same], upd_same, Nat.le_of_ble_eq_true rfl, q dx hne n⟩⟩
/-! ### small defs -/
def spTold : Sp := fun vs H Q _ => ∃ (P : Pm) (v : V) (o : Option (List Int)), vs = [v] ∧ (∀ p, H p = none → ∀ s, p ≠ P.A s) ∧ Tv P H v o ∧ ∀ v' H', Ex H H' → Tv P H' v' o → (∀ q, v' = .ref q → H q = none) → Q v' H'
def spIsByte : Sp := fun vs H Q _ => ∃ n : Int, vs = [.int n] ∧ 0 ≤ n ∧ n ≤ 255 ∧ Q (.bl true) H
def spCount : Sp := fun vs H Q _ => ∃ n : Int, vs = [.int n] ∧ 0 ≤ n ∧ Q .non H
def spLength : Sp := fun vs H Q _ => ∃ n : Int, vs = [.int n] ∧ n ≤ 4000 ∧ Q .non H
theorem ok_is_byte (T : Txt K mg) : FnOk prog w K mg base CXz 1 (He.fAd K d_is_byte.at_) (fdO K d_is_byte) ["thing"] (spIsByte) :=
  T.F_is_byte.ok sc_is_byte (fun vs H Q E h => by obtain ⟨_, rfl, _⟩ := h; rfl) fun cdv A outer st H vs Q E hr h => by
    obtain ⟨n, rfl, h0, h1, q⟩ := h
    obtain ⟨tG, hi_GREATEST⟩ := T.i_GREATEST
    refine ⟨_, (pss_one (ps_ret (pe_and (pe_callB call_isi (by rfl) T.n_isinstance (by decide +kernel) (pa_cons (pv 0) (pa_cons (pe_bltn (v := .ty "int") (by rfl) T.n_int (by decide +kernel) rfl) pa_nil))) (pe_and (pe_not (pe_callB call_isi (by rfl) T.n_isinstance (by decide +kernel) (pa_cons (pv 0) (pa_cons (pe_bltn (v := .ty "bool") (by rfl) T.n_bool (by decide +kernel) rfl) pa_nil)))) (pe_one (pe_chain op_le op_le pe_int (pv 0) (pe_glob (v := .int 255) rfl hi_GREATEST ⟨_, rfl⟩))))))), ?_⟩
    refine ⟨_, rfl, _, _, _, _, true, rfl, .ty "int", .base (.int n), kit_ty (by decide +kernel), true, rfl, ifT rfl ?_⟩
    refine ⟨_, rfl, _, _, _, _, false, rfl, .ty "bool", .base (.int n), kit_ty (by decide +kernel), false, rfl, true, rfl, ifT rfl ?_⟩
    refine ⟨_, rfl, _, _, rfl, rfl, _, rfl, ifT (decide_eq_true h0) ⟨_, _, rfl, rfl, ?_⟩⟩
    show Q (V.bl (decide (n ≤ 255))) H
    rw [decide_eq_true h1]
    exact q
theorem ok_count_asked (T : Txt K mg) : FnOk prog w K mg base CXz 1 (He.fAd K d_count_asked.at_) (fdO K d_count_asked) ["many"] (spCount) :=
  T.F_count_asked.ok sc_count_asked (fun vs H Q E h => by obtain ⟨_, rfl, _⟩ := h; rfl) fun cdv A outer st H vs Q E hr h => by
    obtain ⟨n, rfl, h0, q⟩ := h
    refine ⟨_, (pss_one (ps_if (PW.pt (pw_and (pt_cmpR op_notN (pv 0) pe_non (nomark _)) (pw_and1 (pt_cmpR op_lt (pv 0) pe_int (nomark _))))) (pss_one ps_never) pss_nil)), ?_⟩
    refine ⟨_, rfl, rfl, true, rfl, ifT rfl ⟨_, rfl, _, _, rfl, rfl, _, rfl, ifF (decide_eq_false (by omega)) q⟩⟩
theorem ok_length_asked (T : Txt K mg) : FnOk prog w K mg base CXz 1 (He.fAd K d_length_asked.at_) (fdO K d_length_asked) ["length"] (spLength) :=
  T.F_length_asked.ok sc_length_asked (fun vs H Q E h => by obtain ⟨_, rfl, _⟩ := h; rfl) fun cdv A outer st H vs Q E hr h => by
    obtain ⟨n, rfl, h0, q⟩ := h
    obtain ⟨tG, hi_LONGEST⟩ := T.i_LONGEST
    refine ⟨_, (pss_one (ps_if (pt_cmpR op_gt (pv 0) (pe_glob (v := .int 4000) rfl hi_LONGEST ⟨_, rfl⟩) (nomark _)) (pss_one ps_never) pss_nil)), ?_⟩
    refine ⟨_, rfl, _, _, rfl, rfl, _, rfl, ifF (decide_eq_false (by omega)) q⟩
theorem ok_told_anew (T : Txt K mg) : FnOk prog w K mg base CXz 1 (He.fAd K d_told_anew.at_) (fdO K d_told_anew) ["thing"] (spTold) :=
  T.F_told_anew.ok sc_told_anew (fun vs H Q E h => by obtain ⟨_, _, _, rfl, _⟩ := h; rfl) fun cdv A outer st H vs Q E hr h => by
    obtain ⟨P, v, o, rfl, hf, tv, q⟩ := h
    refine ⟨_, (pss_cons (ps_if (pt_val (pe_callB call_isi (by rfl) T.n_isinstance (by decide +kernel) (pa_cons (pv 0) (pa_cons (pe_bltn (v := .ty "list") (by rfl) T.n_list (by decide +kernel) rfl) pa_nil)))) (pss_one (ps_ret (pe_callTy call_list_of (by rfl) T.n_list (by decide +kernel) (pa_cons (pv 0) pa_nil)))) pss_nil) (pss_one (ps_ret (pv 0)))), ?_⟩
    rcases tv with ⟨b, l, rfl, rfl, hl⟩ | ⟨rfl, ⟨n, rfl⟩ | ⟨z, rfl⟩⟩
    · refine ⟨_, rfl, _, _, _, _, true, rfl, .ty "list", .base (.lst hl.1), kit_ty (by decide +kernel), true, rfl, ifT rfl ?_⟩
      exact ⟨_, rfl, _, _, rfl, .inl hl.sq, fun p hp => q _ _ (Ex.new hp) (.inl ⟨p, l, rfl, rfl, upd_same, hf p hp⟩) (fun q e => by injection e with e; rw [← e]; exact hp)⟩
    · refine ⟨_, rfl, _, _, _, _, false, rfl, .ty "list", .base (.int n), kit_ty (by decide +kernel), false, rfl, ifF rfl ?_⟩
      exact ⟨_, rfl, q _ _ (fun _ _ e => e) (.inr ⟨rfl, .inl ⟨n, rfl⟩⟩) (fun q e => by cases e)⟩
    · refine ⟨_, rfl, _, _, _, _, false, rfl, .ty "list", .base (.str z), kit_ty (by decide +kernel), false, rfl, ifF rfl ?_⟩
      exact ⟨_, rfl, q _ _ (fun _ _ e => e) (.inr ⟨rfl, .inr ⟨z, rfl⟩⟩) (fun q e => by cases e)⟩
end
end Sip

set_option Elab.async false
set_option linter.all false
set_option maxRecDepth 100000
set_option maxHeartbeats 4000000
noncomputable section
namespace Sip
open PySem PySem.Spec PyProof.Rows L2 SipX L2H HotX
def spAsked (K : PySem.W.Frag) : Sp := fun vs H Q _ => ∃ (i : Ix) (a dx : Addr) (fs : List (Str × V)), vs = [.ref a] ∧ H a = some (.ins (rC K i) dx fs) ∧ fs.lookup ("live" : Str) = some (V.bl true) ∧ Q .non H
def spIsShut (K : PySem.W.Frag) : Sp := fun vs H Q _ => ∃ (i : Ix) (a dx : Addr) (fs : List (Str × V)), vs = [.ref a] ∧ H a = some (.ins (rC K i) dx fs) ∧ fs.lookup ("live" : Str) = some (V.bl true) ∧ Q (.bl false) H
def spSeeks (K : PySem.W.Frag) (i : Ix) : Sp := fun vs H Q _ => ∃ (a dx : Addr) (fs : List (Str × V)), vs = [.ref a] ∧ H a = some (.ins (rC K i) dx fs) ∧ (dvB i = true → fs.lookup ("steady" : Str) = some (V.bl true)) ∧ Q (.bl (dvB i)) H
def spSeeking (K : PySem.W.Frag) : Sp := fun vs H Q _ => ∃ (a dx : Addr) (fs : List (Str × V)), vs = [.ref a] ∧ H a = some (.ins (He.ga K "Device") dx fs) ∧ fs.lookup ("steady" : Str) = some (V.bl true) ∧ Q .non H
def spPlace (K : PySem.W.Frag) : Sp := fun vs H Q _ => ∃ (a dx : Addr) (fs : List (Str × V)) (v : V), vs = [.ref a] ∧ H a = some (.ins (He.ga K "Device") dx fs) ∧ fs.lookup ("steady" : Str) = some (V.bl true) ∧ fs.lookup ("spot" : Str) = some v ∧ fs.lookup ("seeking" : Str) = none ∧ Q v H
def spNoted (K : PySem.W.Frag) : Sp := fun vs H Q _ => ∃ (P : Pm) (s : WS) (i : Ix) (wd pl hd cm : V) (o : Option (List Int)), vs = [.ref (P.A (.r i)), wd, pl, hd, cm] ∧ W P K H s ∧ (∃ oc, Tv P H hd oc) ∧ Tv P H cm o ∧ (s.n i).length ≤ 9000000 ∧
  ∀ H', Keep P H H' → W P K H' { s with n := up s.n i (s.n i ++ [o]) } → Q .non H'
def spDrawn (K : PySem.W.Frag) : Sp := fun vs H Q E => ∃ (P : Pm) (s : WS) (i : Ix) (wd hd : V), vs = [.ref (P.A (.r i)), wd, hd] ∧ dvB i = true ∧ W P K H s ∧ (∃ oc, Tv P H hd oc) ∧ (s.n i).length ≤ 9000000 ∧
  ((P.plan i).length ≤ (s.n i).length → Q .non H) ∧ (∀ x, (P.plan i)[(s.n i).length]? = some x → 0 ≤ x → Q (.int x) H) ∧
  ∀ H' d x, (s.n i).length < (P.plan i).length → 1 ≤ x → Keep P H H' → W P K H' { s with n := up s.n i (s.n i ++ [none]) } → H' d = some (.xd [("taken", .int 0), ("number", .int x)]) → E (.ref (He.ga K "Fault")) (some d) H'
def spLonger (K : PySem.W.Frag) : Sp := fun vs H Q _ => ∃ (P : Pm) (s : WS) (i : Ix) (n : Int), vs = [.ref (P.A (.r i)), .int n] ∧ dvB i = true ∧ W P K H s ∧ n ≤ 4000 ∧ (s.r i).st.length ≤ 4000 ∧ Q .non H
def spLaid : Sp := fun vs H Q _ => ∃ (r d : Addr) (p : Nat) (xs ys : List Int), vs = [.ref r, .int p, .ref d] ∧ H r = some (.lst (xs.map V.int)) ∧ H d = some (.lst (ys.map V.int)) ∧ p ≤ xs.length ∧ xs.length ≤ 1000 ∧ ys.length ≤ 1000 ∧
  ∀ l H', Ex H H' → H l = none → H' l = some (.lst ((xs.take p ++ ys ++ xs.drop (p + ys.length)).map V.int)) → Q (.ref l) H'
def spContent (K : PySem.W.Frag) : Sp := fun vs H Q _ => ∃ (P : Pm) (s : WS) (i : Ix), vs = [.ref (P.A (.r i))] ∧ dvB i = true ∧ W P K H s ∧ ∀ l H', Ex H H' → H l = none → Lst P H' l (s.r i).st → Q (.ref l) H'
section
variable {prog : Program} {w : World} {base : Heap} {K : PySem.W.Frag} {mg : Str → Option Value}
theorem Txt.mR_asked (T : Txt K mg) (i : Ix) : Meth K (rC K i) "asked" (He.fAd K d_Raw_asked.at_) := by
  cases i
  · exact T.m_Device_asked
  · exact T.m_Mouth_asked
  · exact T.m_Drain_asked
  · exact T.m_Device_asked
theorem Txt.mR_noted (T : Txt K mg) (i : Ix) : Meth K (rC K i) "noted" (He.fAd K d_Raw_noted.at_) := by
  cases i
  · exact T.m_Device_noted
  · exact T.m_Mouth_noted
  · exact T.m_Drain_noted
  · exact T.m_Device_noted
theorem ok_Raw_is_shut (T : Txt K mg) : FnOk prog w K mg base CXz 1 (He.fAd K d_Raw_is_shut.at_) (fdO K d_Raw_is_shut) ["self"] (spIsShut K) :=
  T.F_Raw_is_shut.ok sc_Raw_is_shut (fun vs H Q E h => by obtain ⟨_, _, _, _, rfl, _⟩ := h; rfl) fun cdv A outer st H vs Q E hr h => by
    obtain ⟨i, a, dx, fs, rfl, ha, l, q⟩ := h
    refine ⟨_, (pss_one (ps_ret (pe_not (pe_fld (pv 0) rfl)))), ?_⟩
    exact ⟨_, rfl, _, _, _, _, _, rfl, ha, T.clsR i, T.nR_live i, l, _, rfl, q⟩
theorem ok_Raw_asked (T : Txt K mg) : FnOk prog w K mg base CXz 1 (He.fAd K d_Raw_asked.at_) (fdO K d_Raw_asked) ["self"] (spAsked K) :=
  T.F_Raw_asked.ok sc_Raw_asked (fun vs H Q E h => by obtain ⟨_, _, _, _, rfl, _⟩ := h; rfl) fun cdv A outer st H vs Q E hr h => by
    obtain ⟨i, a, dx, fs, rfl, ha, l, q⟩ := h
    refine ⟨_, (pss_one (ps_if (pt_not (pt_val (pe_fld (pv 0) rfl))) (pss_one ps_never) pss_nil)), ?_⟩
    exact ⟨_, rfl, _, _, _, _, _, rfl, ha, T.clsR i, T.nR_live i, l, _, rfl, ifF rfl q⟩
theorem ok_Device_seeks (T : Txt K mg) (i : Ix) (hi : dvB i = true) : FnOk prog w K mg base CXz 1 (He.fAd K d_Device_seeks.at_) (fdO K d_Device_seeks) ["self"] (spSeeks K i) :=
  T.F_Device_seeks.ok sc_Device_seeks (fun vs H Q E h => by obtain ⟨_, _, _, rfl, _⟩ := h; rfl) fun cdv A outer st H vs Q E hr h => by
    obtain ⟨a, dx, fs, rfl, ha, l, q⟩ := h
    refine ⟨_, (pss_one (ps_ret (pe_fld (pv 0) rfl))), ?_⟩
    rw [hi] at q
    have e : rC K i = He.ga K "Device" := by cases i <;> first | rfl | cases hi
    rw [e] at ha
    exact ⟨_, rfl, _, _, _, _, _, rfl, ha, T.cls_Device, T.n_Device_steady, l hi, q⟩
theorem ok_End_seeks (T : Txt K mg) (i : Ix) (hi : dvB i = false) : FnOk prog w K mg base CXz 1 (He.fAd K d_End_seeks.at_) (fdO K d_End_seeks) ["self"] (spSeeks K i) :=
  T.F_End_seeks.ok sc_End_seeks (fun vs H Q E h => by obtain ⟨_, _, _, rfl, _⟩ := h; rfl) fun cdv A outer st H vs Q E hr h => by
    obtain ⟨a, dx, fs, rfl, ha, l, q⟩ := h
    refine ⟨_, (pss_one (ps_ret pe_bl)), ?_⟩
    rw [hi] at q
    exact q
theorem ok_Device_seeking (T : Txt K mg) : FnOk prog w K mg base CXz 1 (He.fAd K d_Device_seeking.at_) (fdO K d_Device_seeking) ["self"] (spSeeking K) :=
  T.F_Device_seeking.ok sc_Device_seeking (fun vs H Q E h => by obtain ⟨_, _, _, rfl, _⟩ := h; rfl) fun cdv A outer st H vs Q E hr h => by
    obtain ⟨a, dx, fs, rfl, ha, l, q⟩ := h
    refine ⟨_, (pss_one (ps_if (pt_not (pt_val (pe_fld (pv 0) rfl))) (pss_one ps_never) pss_nil)), ?_⟩
    exact ⟨_, rfl, _, _, _, _, _, rfl, ha, T.cls_Device, T.n_Device_steady, l, _, rfl, ifF rfl q⟩
theorem ok_Device_place (T : Txt K mg) : FnOk prog w K mg base CXz 2 (He.fAd K d_Device_place.at_) (fdO K d_Device_place) ["self"] (spPlace K) :=
  T.F_Device_place.ok sc_Device_place (fun vs H Q E h => by obtain ⟨_, _, _, _, rfl, _⟩ := h; rfl) fun cdv A outer st H vs Q E hr h => by
    obtain ⟨a, dx, fs, v, rfl, ha, l, l2, l3, q⟩ := h
    refine ⟨_, (pss_cons (ps_expr (pe_meth0 (pv 0) T.cls_Device T.m_Device_seeking (ok_Device_seeking T) (hr.mono (by decide)) T.b_Device_seeking .nil pz)) (pss_one (ps_ret (pe_fld (pv 0) rfl)))), ?_⟩
    exact ⟨_, rfl, _, _, _, rfl, ha, l3, _, _, _, rfl, ha, l, _, rfl, _, _, _, _, _, rfl, ha, T.cls_Device, T.n_Device_spot, l2, q⟩
theorem ok_Raw_noted (T : Txt K mg) : FnOk prog w K mg base CXz 2 (He.fAd K d_Raw_noted.at_) (fdO K d_Raw_noted) ["self", "word", "place", "handed", "came"] (spNoted K) :=
  T.F_Raw_noted.ok sc_Raw_noted (fun vs H Q E h => by obtain ⟨_, _, _, _, _, _, _, _, rfl, _⟩ := h; rfl) fun cdv A outer st H vs Q E hr h => by
    obtain ⟨P, s, i, wd, pl, hd, cm, o, rfl, w, ⟨oc, thd⟩, tcm, hn, q⟩ := h
    obtain ⟨fs, ha, l1, l2, _⟩ := w.rget i
    obtain ⟨xs, hx, hp⟩ := w.note i
    refine ⟨_, (pss_one (ps_expr (pe_bm PySem.F.plainAttrs_list PySem.F.slot_list_append PySem.F.type_list_append mt_append (pe_fld (pv 0) rfl) (pa_cons (pe_tup (pa_cons (pv 1) (pa_cons (pv 2) (pa_cons (pe_call (ok_told_anew T) (hr.mono (by decide)) (by rfl) T.g_told_anew T.F_told_anew.kp T.b_told_anew .nil pz (pa_cons (pv 3) pa_nil)) (pa_cons (pe_call (ok_told_anew T) (hr.mono (by decide)) (by rfl) T.g_told_anew T.F_told_anew.kp T.b_told_anew .nil pz (pa_cons (pv 4) pa_nil)) pa_nil))))) pa_nil)))), ?_⟩
    refine ⟨_, rfl, _, _, _, _, _, rfl, ha, T.clsR i, T.nR_notes i, l2, .inl ⟨rfl, xs, .inl (.inl hx)⟩, _, rfl, _, rfl, _, rfl, P, _, oc, rfl, fun p hp => w.fresh hp, thd, fun v1 H1 e1 t1 _ => ?_⟩
    have w1 := w.ex e1
    refine ⟨_, rfl, P, _, o, rfl, fun p hp => w1.fresh hp, tcm.keep e1.keep, fun v2 H2 e2 t2 _ => ?_⟩
    have w2 := w1.ex e2
    refine ⟨sz1 (by simp), fun t ht => ?_⟩
    have w3 := w2.new (o := .tup [wd, pl, v1, v2]) ht
    have hn3 : upd H2 t (.tup [wd, pl, v1, v2]) (P.A (.n i)) = some (.lst xs) := Ex.new ht _ _ (e2 _ _ (e1 _ _ hx))
    have len : xs.length = (s.n i).length := hp.length
    have k3 : Keep P H (upd H2 t (.tup [wd, pl, v1, v2])) := (e1.keep.trans e2.keep).trans (Ex.new ht).keep
    refine ⟨_, _, _, rfl, rfl, hn3, sz2 (by omega), q _ (k3.trans Only.upd.keep) ?_⟩
    exact w3.s_note hn3 (paired_imp (fun _ _ h => h.keep k3) hp) ⟨t, wd, pl, v1, v2, rfl, upd_same, w2.fresh ht, ⟨oc, (t1.keep e2.keep).keep (Ex.new ht).keep⟩, t2.keep (Ex.new ht).keep⟩
theorem ok_Device_longer (T : Txt K mg) : FnOk prog w K mg base CXz 2 (He.fAd K d_Device_longer.at_) (fdO K d_Device_longer) ["self", "length"] (spLonger K) :=
  T.F_Device_longer.ok sc_Device_longer (fun vs H Q E h => by obtain ⟨_, _, _, _, rfl, _⟩ := h; rfl) fun cdv A outer st H vs Q E hr h => by
    obtain ⟨P, s, i, n, rfl, hd, w, hn, hl, q⟩ := h
    obtain ⟨sa, hD, hst, hpl⟩ := w.dev hd
    refine ⟨_, (pss_one (ps_if (pt_val (pe_fld (pv 0) rfl)) (pss_one (ps_expr (pe_call (ok_length_asked T) (hr.mono (by decide)) (by rfl) T.g_length_asked T.F_length_asked.kp T.b_length_asked .nil pz (pa_cons (pe_callB (call_max2 rfl) (by rfl) T.n_max (by decide +kernel) (pa_cons (pv 1) (pa_cons (pe_callB call_len_seq (by rfl) T.n_len PySem.boot_len (pa_cons (pe_fld (pv 0) rfl) pa_nil)) pa_nil))) pa_nil)))) pss_nil)), ?_⟩
    refine ⟨_, rfl, _, _, _, _, _, rfl, hD, T.cls_Device, T.n_Device_steady, dF_steady, _, rfl, ifT rfl ⟨_, rfl, _, rfl, _, _, _, _, _, rfl, hD, T.cls_Device, T.n_Device_stock, dF_stock, _, _, rfl, .inl hst.sq, _, _, rfl, _, rfl, ?_, q⟩⟩
    rw [map_len]
    split <;> omega
theorem ok_Device_content (T : Txt K mg) : FnOk prog w K mg base CXz 1 (He.fAd K d_Device_content.at_) (fdO K d_Device_content) ["self"] (spContent K) :=
  T.F_Device_content.ok sc_Device_content (fun vs H Q E h => by obtain ⟨_, _, _, rfl, _⟩ := h; rfl) fun cdv A outer st H vs Q E hr h => by
    obtain ⟨P, s, i, rfl, hd, w, q⟩ := h
    obtain ⟨sa, hD, hst, hpl⟩ := w.dev hd
    refine ⟨_, (pss_one (ps_ret (pe_callTy call_list_of (by rfl) T.n_list (by decide +kernel) (pa_cons (pe_fld (pv 0) rfl) pa_nil)))), ?_⟩
    exact ⟨_, rfl, _, _, _, _, _, rfl, hD, T.cls_Device, T.n_Device_stock, dF_stock, _, _, rfl, .inl hst.sq, fun p hp => q p _ (Ex.new hp) hp (lst_new w hp)⟩
theorem ok_laid (T : Txt K mg) : FnOk prog w K mg base CXz 1 (He.fAd K d_laid.at_) (fdO K d_laid) ["row", "place", "data"] (spLaid) :=
  T.F_laid.ok sc_laid (fun vs H Q E h => by obtain ⟨_, _, _, _, _, rfl, _⟩ := h; rfl) fun cdv A outer st H vs Q E hr h => by
    obtain ⟨r, d, p, xs, ys, rfl, h1, h2, hp, hx, hy, q⟩ := h
    refine ⟨_, (pss_cons (ps_if (pt_cmpR op_eq (pe_callB call_len_seq (by rfl) T.n_len PySem.boot_len (pa_cons (pv 2) pa_nil)) pe_int (nomark _)) (pss_one (ps_ret (pe_callTy call_list_of (by rfl) T.n_list (by decide +kernel) (pa_cons (pv 0) pa_nil)))) pss_nil) (pss_cons (ps_set (i := 3) sc_laid.nd rfl (Or.inl rfl) (pe_op op_cat (pe_callTy call_list_of (by rfl) T.n_list (by decide +kernel) (pa_cons (pv 0) pa_nil)) (pe_op op_rep (pe_lst (pa_cons pe_int pa_nil)) (pe_op op_sub (pv 1) (pe_callB call_len_seq (by rfl) T.n_len PySem.boot_len (pa_cons (pv 0) pa_nil)))))) (pss_one (ps_ret (pe_op op_cat (pe_op op_cat (pe_slice sl_list (pv 3) po_none (po_some (pv 1))) (pe_callTy call_list_of (by rfl) T.n_list (by decide +kernel) (pa_cons (pv 2) pa_nil))) (pe_slice sl_list (pv 3) (po_some (pe_op op_add (pv 1) (pe_callB call_len_seq (by rfl) T.n_len PySem.boot_len (pa_cons (pv 2) pa_nil)))) po_none)))))), ?_⟩
    refine ⟨_, rfl, d, _, rfl, .inl (.inl (.inl h2)), rfl, _, rfl, ite2 (fun e => ?_) fun e => ?_⟩
    · have e0 : ys = [] := by
        have := of_decide_eq_true e
        injection this with this
        rw [map_len] at this
        exact List.eq_nil_of_length_eq_zero (by omega)
      subst e0
      refine ⟨_, rfl, r, _, rfl, .inl (.inl (.inl h1)), fun l hl => q l _ (Ex.new hl) hl ?_⟩
      rw [List.append_nil, List.length_nil, Nat.add_zero, List.take_append_drop]
      exact upd_same
    · refine ⟨_, rfl, r, _, rfl, .inl (.inl (.inl h1)), fun l hl => ⟨sz1 (by simp), fun b hb => ?_⟩⟩
      have hb0 : H b = none := by
        have : b ≠ l := fun z => by rw [z, upd_same] at hb; cases hb
        rwa [upd_ne this] at hb
      have h1b : upd (upd H l (.lst (xs.map V.int))) b (.lst [.int 0]) r = some (.lst (xs.map V.int)) := Ex.new hb _ _ (Ex.new hl _ _ h1)
      refine ⟨_, rfl, _, rfl, r, _, rfl, .inl (.inl (.inl h1b)), _, _, rfl, rfl, _, _, _, rfl, rfl, upd_same, ?_, ?_, ?_, fun c hc => ?_⟩
      · rw [map_len]; omega
      · rw [map_len]; omega
      · exact sz1 (by rw [map_len]; simp; omega)
      · have e0 : (List.replicate ((p : Int) - ((xs.map V.int).length : Int)).toNat [V.int 0]).flatten = [] := by
          have : ((p : Int) - ((xs.map V.int).length : Int)).toNat = 0 := by rw [map_len]; omega
          rw [this]
          rfl
        rw [e0]
        have k1 : Ex H (upd (upd (upd H l (.lst (xs.map V.int))) b (.lst [.int 0])) c (.lst [])) := fun _ _ e => Ex.new hc _ _ (Ex.new hb _ _ (Ex.new hl _ _ e))
        have hlb : upd (upd (upd H l (.lst (xs.map V.int))) b (.lst [.int 0])) c (.lst []) l = some (.lst (xs.map V.int)) := Ex.new hc _ _ (Ex.new hb _ _ upd_same)
        have hcc : upd (upd (upd H l (.lst (xs.map V.int))) b (.lst [.int 0])) c (.lst []) c = some (.lst []) := upd_same
        refine ⟨_, _, _, _, rfl, rfl, hlb, hcc, sz1 (by rw [map_len]; simp; omega), fun f hf => ?_⟩
        revert k1 hlb hcc hf
        generalize upd (upd (upd H l (.lst (xs.map V.int))) b (.lst [.int 0])) c (.lst []) = H1
        intro k1 hlb hcc hf
        rw [List.append_nil]
        have hff : upd H1 f (.lst (xs.map V.int)) f = some (.lst (xs.map V.int)) := upd_same
        refine ⟨_, rfl, _, rfl, _, rfl, f, _, rfl, .inl (.inl hff), fun u hu => ?_⟩
        rw [cut_to]
        have k2 : Ex H1 (upd (upd H1 f (.lst (xs.map V.int))) u (.lst ((xs.take p).map V.int))) := fun _ _ e => Ex.new hu _ _ (Ex.new hf _ _ e)
        refine ⟨_, rfl, d, _, rfl, .inl (.inl (.inl (k2 _ _ (k1 _ _ h2)))), fun v hv => ?_⟩
        refine ⟨_, _, _, _, rfl, rfl, Ex.new hv _ _ upd_same, upd_same, sz1 (by rw [map_len, map_len, List.length_take]; omega), fun x hx' => ?_⟩
        have k3 : Ex (upd H1 f (.lst (xs.map V.int))) (upd (upd (upd (upd H1 f (.lst (xs.map V.int))) u (.lst ((xs.take p).map V.int))) v (.lst (ys.map V.int))) x (.lst ((xs.take p).map V.int ++ ys.map V.int))) := fun _ _ e => Ex.new hx' _ _ (Ex.new hv _ _ (Ex.new hu _ _ e))
        have hfx := k3 _ _ hff
        have hdx := k3 _ _ (Ex.new hf _ _ (k1 _ _ h2))
        have k4 : Ex H (upd (upd (upd (upd H1 f (.lst (xs.map V.int))) u (.lst ((xs.take p).map V.int))) v (.lst (ys.map V.int))) x (.lst ((xs.take p).map V.int ++ ys.map V.int))) := fun _ _ e => k3 _ _ (Ex.new hf _ _ (k1 _ _ e))
        have hxx : upd (upd (upd (upd H1 f (.lst (xs.map V.int))) u (.lst ((xs.take p).map V.int))) v (.lst (ys.map V.int))) x (.lst ((xs.take p).map V.int ++ ys.map V.int)) x = some (.lst ((xs.take p).map V.int ++ ys.map V.int)) := upd_same
        revert hfx hdx k4 hxx
        generalize upd (upd (upd (upd H1 f (.lst (xs.map V.int))) u (.lst ((xs.take p).map V.int))) v (.lst (ys.map V.int))) x (.lst ((xs.take p).map V.int ++ ys.map V.int)) = H2
        intro hfx hdx k4 hxx
        refine ⟨_, rfl, _, rfl, _, rfl, d, _, rfl, .inl (.inl (.inl hdx)), _, _, rfl, rfl, _, rfl, f, _, rfl, .inl (.inl hfx), fun y hy' => ?_⟩
        rw [map_len, show (p : Int) + (ys.length : Int) = ((p + ys.length : Nat) : Int) by omega, cut_from]
        refine ⟨_, _, _, _, rfl, rfl, Ex.new hy' _ _ hxx, upd_same, sz1 (by rw [List.length_append, map_len, map_len, map_len, List.length_take, List.length_drop]; omega), fun r' hr' => ?_⟩
        refine q r' _ (fun _ _ e => Ex.new hr' _ _ (Ex.new hy' _ _ (k4 _ _ e))) ?_ ?_
        · cases hH : H r' with
          | none => rfl
          | some o => rw [Ex.new hy' _ _ (k4 _ _ hH)] at hr'; cases hr'
        · rw [upd_same, cat_map, cat_map]
end
end Sip

set_option Elab.async false
set_option linter.all false
set_option maxRecDepth 100000
set_option maxHeartbeats 4000000
noncomputable section
namespace Sip
open PySem PySem.Spec PyProof.Rows L2 SipX L2H HotX
/-- an ask: the raw's place is m from then on, its notes are ns -/
def Z.ask (z : Z) (i : Ix) (m : Nat) (ns : NR) : Z := { z with sp := up z.sp i m, n := up z.n i ns }
def spPut (K : PySem.W.Frag) (i : Ix) : Sp := fun vs H Q E => ∃ (P : Pm) (z : Z) (l : Addr) (c : Nat), vs = [.ref (P.A (.r i)), .ref l] ∧ W P K H (toWS P z) ∧ Lst P H l (seg P.row (z.sp i) c) ∧ z.sp i < c ∧ c ≤ P.row.length ∧ (z.n i).length ≤ 8000000 ∧
  (i = .wi → z.lv = true ∧ z.sp .ro ≤ z.sp .wi ∧ (z.sp .wi : Int) - z.sp .ro ≤ P.proom) ∧
  (∀ (m : Nat) H', z.sp i < m → m ≤ c → (i = .wi → (m : Int) - z.sp .ro ≤ P.proom) → Keep P H H' → W P K H' (toWS P (z.ask i m (z.n i ++ [none]))) → Q (.int ((m - z.sp i : Nat) : Int)) H') ∧
  (∀ H', (i = .to → (z.n i).length < (P.plan i).length) → (i = .wi → (z.sp .wi : Int) - z.sp .ro = P.proom) → Keep P H H' → W P K H' (toWS P (z.ask i (z.sp i) (z.n i ++ [none]))) → Q .non H') ∧
  ∀ H' d x, i = .to → (z.n i).length < (P.plan i).length → 1 ≤ x → Keep P H H' → W P K H' (toWS P (z.ask i (z.sp i) (z.n i ++ [none]))) → H' d = some (.xd [("taken", .int 0), ("number", .int x)]) → E (.ref (He.ga K "Fault")) (some d) H'
def spTake (K : PySem.W.Frag) (i : Ix) : Sp := fun vs H Q E => ∃ (P : Pm) (z : Z) (many : Int), vs = [.ref (P.A (.r i)), .int many] ∧ 1 ≤ many ∧ many ≤ 4000 ∧ W P K H (toWS P z) ∧ z.sp i ≤ P.row.length ∧ (z.n i).length ≤ 8000000 ∧
  (i = .ro → z.sp .ro ≤ z.sp .wi ∧ z.sp .wi ≤ P.row.length) ∧
  (∀ (m : Nat) l H', z.sp i ≤ m → m ≤ P.row.length → (i = .ro → m ≤ z.sp .wi) → (m = z.sp i → (i = .fr → z.sp .fr = P.row.length) ∧ (i = .ro → z.lv = false ∧ z.sp .ro = z.sp .wi)) → Keep P H H' → Lst P H' l (seg P.row (z.sp i) m) →
    W P K H' (toWS P (z.ask i m (z.n i ++ [some (seg P.row (z.sp i) m)]))) → Q (.ref l) H') ∧
  (∀ H', (i = .fr → (z.n i).length < (P.plan i).length) → (i = .ro → z.lv = true ∧ z.sp .ro = z.sp .wi) → Keep P H H' → W P K H' (toWS P (z.ask i (z.sp i) (z.n i ++ [none]))) → Q .non H') ∧
  ∀ H' d x, i = .fr → (z.n i).length < (P.plan i).length → 1 ≤ x → Keep P H H' → W P K H' (toWS P (z.ask i (z.sp i) (z.n i ++ [none]))) → H' d = some (.xd [("taken", .int 0), ("number", .int x)]) → E (.ref (He.ga K "Fault")) (some d) H'
theorem stk_len {P : Pm} {k : Nat} {i : Ix} : (stk P k i).length ≤ 60 := by
  have := P.hN
  have := P.hB
  cases i <;> simp only [stk, List.length_append, List.length_take, List.length_drop] <;> omega
theorem stk_put {P : Pm} {k m : Nat} (h : k ≤ m) (hm : m ≤ P.row.length) : (stk P k .to).take k ++ seg P.row k m ++ (stk P k .to).drop (k + (seg P.row k m).length) = stk P m .to := by
  have hk : (P.row.take k).length = k := by rw [List.length_take]; omega
  rw [seg_len hm]
  show (P.row.take k ++ P.beh.drop k).take k ++ seg P.row k m ++ (P.row.take k ++ P.beh.drop k).drop (k + (m - k)) = P.row.take m ++ P.beh.drop m
  rw [List.take_append_of_le_length (by omega), List.take_of_length_le (by omega), show k + (m - k) = m by omega, List.drop_append, List.drop_eq_nil_of_le (by omega), List.nil_append, hk, List.drop_drop, show k + (m - k) = m by omega]
  congr 1
  rw [← seg_zero, ← seg_zero, seg_app (Nat.zero_le _) h hm]
section
variable {prog : Program} {w : World} {base : Heap} {K : PySem.W.Frag} {mg : Str → Option Value}
theorem ok_Device_drawn (T : Txt K mg) : FnOk prog w K mg base (L2N.CX prog w) 3 (He.fAd K d_Device_drawn.at_) (fdO K d_Device_drawn) ["self", "word", "handed"] (spDrawn K) :=
  T.F_Device_drawn.ok sc_Device_drawn (fun vs H Q E h => by obtain ⟨_, _, _, _, _, rfl, _⟩ := h; rfl) fun cdv A outer st H vs Q E hr h => by
    obtain ⟨P, s, i, wd, hd, rfl, hi, w, ⟨oc, th⟩, hn, qN, qV, qX⟩ := h
    obtain ⟨sa, hD, hst, hpl⟩ := w.dev hi
    obtain ⟨xs, hx, hp⟩ := w.note i
    have len : xs.length = (s.n i).length := hp.length
    obtain ⟨dsF, vdF, bF⟩ : ∃ ds, Vals [.int 0] ds ∧ Binds K (fdO K d_Fault___init__) ["self", "number", "taken"] ds := T.F_Fault___init__.binds0 2 (fun z => by cases (show [(("taken" : Str), V.int 0)] = [] from z)) rfl fun D doc pm an cdv ct us ks hu hk => by
      match us, hu, ks, hk with
      | [_, _], _, [_], _ => exact ⟨_, _, _, _, _, _, rfl, rfl, rfl⟩
    refine ⟨_, (pss_cons (ps_set (i := 3) sc_Device_drawn.nd rfl (Or.inl rfl) (pe_callB call_len_seq (by rfl) T.n_len PySem.boot_len (pa_cons (pe_fld (pv 0) rfl) pa_nil))) (pss_cons (ps_if (pt_cmpR op_ge (pv 3) (pe_callB call_len_seq (by rfl) T.n_len PySem.boot_len (pa_cons (pe_fld (pv 0) rfl) pa_nil)) (nomark _)) (pss_one (ps_ret pe_non)) pss_nil) (pss_cons (ps_set (i := 4) sc_Device_drawn.nd rfl (Or.inl rfl) (pe_ix ix_list (pe_fld (pv 0) rfl) (pv 3) (fun _ _ => rfl))) (pss_cons (ps_if (pt_cmpR op_lt (pv 4) pe_int (nomark _)) (pss_cons (ps_expr (pe_meth (pv 0) T.cls_Device T.m_Device_noted (ok_Raw_noted T) (hr.mono (by decide)) T.b_Raw_noted .nil pz (pa_cons (pv 1) (pa_cons (pe_fld (pv 0) rfl) (pa_cons (pv 2) (pa_cons pe_str pa_nil)))))) (pss_one (L2N.ps_raise rfl (L2N.takes_of rfl rfl rfl rfl) (PMk5.pmk (pmk_pos T.o_Fault T.ii_Fault.1 T.ii_Fault.2 (ok_Fault___init__ T) (hr.mono (by decide)) bF vdF pz (by rfl) T.g_Fault (pa_cons (pe_un un_neg (pv 4)) pa_nil) rfl (by decide)))))) pss_nil) (pss_one (ps_ret (pv 4))))))), ?_⟩
    refine ⟨_, rfl, _, _, _, _, _, rfl, hD, T.cls_Device, T.n_Device_notes, dF_notes, _, _, rfl, .inl (.inl (.inl hx)), _, rfl, _, rfl, _, _, _, _, _, rfl, hD, T.cls_Device, T.n_Device_plan, dF_plan, _, _, rfl, .inl hpl.sq, _, _, rfl, rfl, _, rfl, ite2 (fun e => ?_) fun e => ?_⟩
    · exact qN (by have := of_decide_eq_true e; rw [map_len, len] at this; omega)
    · have hlt : (s.n i).length < (P.plan i).length := by
        simp only [decide_eq_true_eq, map_len, len] at e
        omega
      obtain ⟨x, hxx⟩ : ∃ x, (P.plan i)[(s.n i).length]? = some x := ⟨_, List.getElem?_eq_getElem hlt⟩
      refine ⟨_, rfl, _, _, _, _, _, rfl, hD, T.cls_Device, T.n_Device_plan, dF_plan, _, rfl, _, _, _, V.int x, rfl, rfl, hpl.sq, ?_, _, rfl, _, _, rfl, rfl, _, rfl, ite2 (fun e2 => ?_) fun e2 => ?_⟩
      · rw [len]
        exact atI_nat (by rw [List.getElem?_map, hxx]; rfl)
      · have hneg := of_decide_eq_true e2
        refine ⟨_, rfl, _, _, _, rfl, hD, dF_no_noted, _, rfl, _, rfl, _, _, _, _, _, rfl, hD, T.cls_Device, T.n_Device_spot, dF_spot, _, rfl, P, s, i, wd, _, hd, _, none, rfl, w, ⟨oc, th⟩, .inr ⟨rfl, .inr ⟨_, rfl⟩⟩, by omega, fun H1 k1 w1 => ?_⟩
        refine ⟨_, rfl, x, rfl, rfl, fun a na => ?_⟩
        refine spFault_q (fun d Hx nd ex hdx => ?_) na
        exact qX Hx d (-x) hlt (by omega) (k1.trans ex.keep) (w1.ex ex) hdx
      · exact ⟨_, rfl, qV x hxx (by simp only [decide_eq_true_eq] at e2; omega)⟩
theorem ask_stall {P : Pm} {z : Z} {i : Ix} {ns : NR} : { toWS P z with n := up (toWS P z).n i ns } = toWS P (z.ask i (z.sp i) ns) := by
  simp only [toWS, Z.ask, up_self]
theorem seg_min {xs : List Int} {a b : Nat} : seg xs a b = seg xs a (min b xs.length) := by
  unfold seg
  by_cases h : b ≤ xs.length
  · rw [Nat.min_eq_left h]
  · rw [Nat.min_eq_right (by omega), List.take_of_length_le (by omega), List.take_of_length_le (Nat.le_refl _)]
theorem ok_Device_take (T : Txt K mg) : FnOk prog w K mg base (L2N.CX prog w) 4 (He.fAd K d_Device_take.at_) (fdO K d_Device_take) ["self", "many"] (spTake K .fr) :=
  T.F_Device_take.ok sc_Device_take (fun vs H Q E h => by obtain ⟨_, _, _, rfl, _⟩ := h; rfl) fun cdv A outer st H vs Q E hr h => by
    obtain ⟨P, z, many, rfl, h1, h2, w, hsp, hn, _, qV, qN, qX⟩ := h
    obtain ⟨sa, hD, hst, hpl⟩ := w.dev (i := .fr) rfl
    refine ⟨_, (pss_cons (ps_expr (pe_meth0 (pv 0) T.cls_Device T.m_Device_asked (ok_Raw_asked T) (hr.mono (by decide)) T.b_Raw_asked .nil pz)) (pss_cons (ps_set (i := 2) sc_Device_take.nd rfl (Or.inl rfl) (pe_meth (pv 0) T.cls_Device T.m_Device_drawn (ok_Device_drawn T) (hr.mono (by decide)) T.b_Device_drawn .nil (L2N.passes_call (L2N.takes_of rfl rfl rfl rfl) (fun _ _ _ _ h => h)) (pa_cons pe_str (pa_cons (pv 1) pa_nil)))) (pss_cons (ps_if (pt_cmpR op_eq (pv 2) pe_int (nomark _)) (pss_cons (ps_expr (pe_meth (pv 0) T.cls_Device T.m_Device_noted (ok_Raw_noted T) (hr.mono (by decide)) T.b_Raw_noted .nil pz (pa_cons pe_str (pa_cons (pe_fld (pv 0) rfl) (pa_cons (pv 1) (pa_cons pe_str pa_nil)))))) (pss_one (ps_ret pe_non))) pss_nil) (pss_cons (ps_set (i := 3) sc_Device_take.nd rfl (Or.inl rfl) (pv 1)) (pss_cons (ps_if (pt_cmpR op_notN (pv 2) pe_non (nomark _)) (pss_one (ps_set (i := 3) sc_Device_take.nd rfl (Or.inl rfl) (pe_callB (call_min2 rfl) (by rfl) T.n_min (by decide +kernel) (pa_cons (pv 1) (pa_cons (pv 2) pa_nil))))) pss_nil) (pss_cons (ps_set (i := 4) sc_Device_take.nd rfl (Or.inl rfl) (pe_slice sl_list (pe_fld (pv 0) rfl) (po_some (pe_fld (pv 0) rfl)) (po_some (pe_op op_add (pe_fld (pv 0) rfl) (pv 3))))) (pss_cons (ps_expr (pe_meth (pv 0) T.cls_Device T.m_Device_noted (ok_Raw_noted T) (hr.mono (by decide)) T.b_Raw_noted .nil pz (pa_cons pe_str (pa_cons (pe_fld (pv 0) rfl) (pa_cons (pv 1) (pa_cons (pv 4) pa_nil)))))) (pss_cons (ps_fld (pv 0) (pe_op op_add (pe_fld (pv 0) rfl) (pe_callB call_len_seq (by rfl) T.n_len PySem.boot_len (pa_cons (pv 4) pa_nil))) rfl) (pss_one (ps_ret (pv 4))))))))))), ?_⟩
    refine ⟨_, rfl, _, _, _, rfl, hD, dF_no_asked, .fr, _, _, _, rfl, hD, dF_live, ?_⟩
    refine ⟨_, rfl, _, _, _, rfl, hD, dF_no_drawn, _, rfl, P, _, .fr, _, _, rfl, rfl, w, ⟨none, .inr ⟨rfl, .inl ⟨_, rfl⟩⟩⟩, Nat.le_trans hn (by decide), fun hge => ?_, fun x hx hx0 => ?_, fun H1 d x hlt hx k w1 hd => qX H1 d x rfl hlt hx k (w1.cast ask_stall) hd⟩
    · refine ⟨_, rfl, rfl, _, rfl, ifF rfl ?_⟩
      refine ⟨_, rfl, _, rfl, rfl, _, rfl, ifF rfl ?_⟩
      obtain ⟨M, hM⟩ : ∃ M : Nat, many = (M : Int) := ⟨many.toNat, by omega⟩
      refine ⟨_, rfl, _, _, _, _, _, rfl, hD, T.cls_Device, T.n_Device_stock, dF_stock, _, rfl, _, _, _, _, _, rfl, hD, T.cls_Device, T.n_Device_spot, dF_spot, _, rfl, _, rfl, _, _, _, _, _, rfl, hD, T.cls_Device, T.n_Device_spot, dF_spot, _, rfl, _, _, rfl, rfl, _, rfl, _, _, rfl, hst.sq, fun p hp => ?_⟩
      have eS : cutV (((toWS P z).r .fr).st.map V.int) (some ((toWS P z).r .fr).sp) (some (((toWS P z).r .fr).sp + many)) = (seg P.row (z.sp .fr) (min (z.sp .fr + M) P.row.length)).map V.int := by
        show cutV (P.row.map V.int) (some ((z.sp .fr : Nat) : Int)) (some (((z.sp .fr : Nat) : Int) + many)) = _
        rw [hM, show ((z.sp .fr : Nat) : Int) + (M : Int) = ((z.sp .fr + M : Nat) : Int) by omega, cut_mid, ← seg_min]
        rfl
      rw [eS]
      have w1 := w.new (o := .lst ((seg P.row (z.sp .fr) (min (z.sp .fr + M) P.row.length)).map V.int)) hp
      have hl1 : Lst P (upd H p (.lst ((seg P.row (z.sp .fr) (min (z.sp .fr + M) P.row.length)).map V.int))) p (seg P.row (z.sp .fr) (min (z.sp .fr + M) P.row.length)) := lst_new w hp
      have k1 : Keep P H (upd H p (.lst ((seg P.row (z.sp .fr) (min (z.sp .fr + M) P.row.length)).map V.int))) := (Ex.new hp).keep
      obtain ⟨sa1, hD1, hst1, hpl1⟩ := w1.dev (i := .fr) rfl
      refine ⟨_, rfl, _, _, _, rfl, hD1, dF_no_noted, _, rfl, _, _, _, _, _, rfl, hD1, T.cls_Device, T.n_Device_spot, dF_spot, _, rfl, _, rfl, P, _, .fr, _, _, _, _, some _, rfl, w1, ⟨none, .inr ⟨rfl, .inl ⟨_, rfl⟩⟩⟩, .inl ⟨p, _, rfl, rfl, hl1⟩, Nat.le_trans hn (by decide), fun H2 k2 w2 => ?_⟩
      obtain ⟨sa2, hD2, hst2, hpl2⟩ := w2.dev (i := .fr) rfl
      have hl2 := hl1.keep k2
      refine ⟨_, rfl, _, _, _, _, _, rfl, hD2, T.cls_Device, T.n_Device_spot, dF_spot, _, rfl, _, _, rfl, .inl hl2.sq, _, _, rfl, rfl, _, rfl, _, _, _, _, rfl, hD2, T.cls_Device, T.n_Device_spot, Nat.lt_of_le_of_lt (Nat.le_of_eq dF_len) (by decide), _, rfl, ?_⟩
      have w3 := w2.s_spot rfl hD2 hst2 hpl2 (b := ((toWS P z).r .fr).sp + (((seg P.row (z.sp .fr) (min (z.sp .fr + M) P.row.length)).map V.int).length : Int))
      refine qV (min (z.sp .fr + M) P.row.length) p _ (by omega) (by omega) (fun z => by cases z) (fun e => ⟨fun _ => by omega, fun z => by cases z⟩) ((k1.trans k2).trans Only.upd.keep) (hl2.keep Only.upd.keep) (w3.cast (WS.eq (fun i => rfl) (fun i => ?_) (fun i => rfl) rfl))
      cases i
      · show (⟨_, (z.sp .fr : Int) + _, _⟩ : RR) = ⟨_, ((min (z.sp .fr + M) P.row.length : Nat) : Int), _⟩
        rw [map_len, seg_len (by omega)]
        congr 1
        omega
      · rfl
      · rfl
      · rfl
    · refine ⟨_, rfl, rfl, _, rfl, ite2 (fun e => ?_) fun e => ?_⟩
      · refine ⟨_, rfl, _, _, _, rfl, hD, dF_no_noted, _, rfl, _, _, _, _, _, rfl, hD, T.cls_Device, T.n_Device_spot, dF_spot, _, rfl, P, _, .fr, _, _, _, _, none, rfl, w, ⟨none, .inr ⟨rfl, .inl ⟨_, rfl⟩⟩⟩, .inr ⟨rfl, .inr ⟨_, rfl⟩⟩, Nat.le_trans hn (by decide), fun H1 k1 w1 => ?_⟩
        exact qN H1 (fun _ => (List.getElem?_eq_some_iff.mp hx).1) (fun z => by cases z) k1 (w1.cast ask_stall)
      · have hx1 : x ≠ 0 := fun e0 => e (decide_eq_true (by rw [e0]))
        refine ⟨_, rfl, _, rfl, rfl, _, rfl, ifT rfl ⟨_, rfl, _, rfl, _, _, rfl, ?_⟩⟩
        obtain ⟨M, hM, hM1⟩ : ∃ M : Nat, (if x < many then x else many) = (M : Int) ∧ 1 ≤ M := ⟨(if x < many then x else many).toNat, by split <;> omega, by split <;> omega⟩
        refine ⟨_, rfl, _, _, _, _, _, rfl, hD, T.cls_Device, T.n_Device_stock, dF_stock, _, rfl, _, _, _, _, _, rfl, hD, T.cls_Device, T.n_Device_spot, dF_spot, _, rfl, _, rfl, _, _, _, _, _, rfl, hD, T.cls_Device, T.n_Device_spot, dF_spot, _, rfl, _, _, rfl, rfl, _, rfl, _, _, rfl, hst.sq, fun p hp => ?_⟩
        have eS : cutV (((toWS P z).r .fr).st.map V.int) (some ((toWS P z).r .fr).sp) (some (((toWS P z).r .fr).sp + (if x < many then x else many))) = (seg P.row (z.sp .fr) (min (z.sp .fr + M) P.row.length)).map V.int := by
          show cutV (P.row.map V.int) (some ((z.sp .fr : Nat) : Int)) (some (((z.sp .fr : Nat) : Int) + (if x < many then x else many))) = _
          rw [hM, show ((z.sp .fr : Nat) : Int) + (M : Int) = ((z.sp .fr + M : Nat) : Int) by omega, cut_mid, ← seg_min]
          rfl
        rw [eS]
        have w1 := w.new (o := .lst ((seg P.row (z.sp .fr) (min (z.sp .fr + M) P.row.length)).map V.int)) hp
        have hl1 : Lst P (upd H p (.lst ((seg P.row (z.sp .fr) (min (z.sp .fr + M) P.row.length)).map V.int))) p (seg P.row (z.sp .fr) (min (z.sp .fr + M) P.row.length)) := lst_new w hp
        have k1 : Keep P H (upd H p (.lst ((seg P.row (z.sp .fr) (min (z.sp .fr + M) P.row.length)).map V.int))) := (Ex.new hp).keep
        obtain ⟨sa1, hD1, hst1, hpl1⟩ := w1.dev (i := .fr) rfl
        refine ⟨_, rfl, _, _, _, rfl, hD1, dF_no_noted, _, rfl, _, _, _, _, _, rfl, hD1, T.cls_Device, T.n_Device_spot, dF_spot, _, rfl, _, rfl, P, _, .fr, _, _, _, _, some _, rfl, w1, ⟨none, .inr ⟨rfl, .inl ⟨_, rfl⟩⟩⟩, .inl ⟨p, _, rfl, rfl, hl1⟩, Nat.le_trans hn (by decide), fun H2 k2 w2 => ?_⟩
        obtain ⟨sa2, hD2, hst2, hpl2⟩ := w2.dev (i := .fr) rfl
        have hl2 := hl1.keep k2
        refine ⟨_, rfl, _, _, _, _, _, rfl, hD2, T.cls_Device, T.n_Device_spot, dF_spot, _, rfl, _, _, rfl, .inl hl2.sq, _, _, rfl, rfl, _, rfl, _, _, _, _, rfl, hD2, T.cls_Device, T.n_Device_spot, Nat.lt_of_le_of_lt (Nat.le_of_eq dF_len) (by decide), _, rfl, ?_⟩
        have w3 := w2.s_spot rfl hD2 hst2 hpl2 (b := ((toWS P z).r .fr).sp + (((seg P.row (z.sp .fr) (min (z.sp .fr + M) P.row.length)).map V.int).length : Int))
        refine qV (min (z.sp .fr + M) P.row.length) p _ (by omega) (by omega) (fun z => by cases z) (fun e => ⟨fun _ => by omega, fun z => by cases z⟩) ((k1.trans k2).trans Only.upd.keep) (hl2.keep Only.upd.keep) (w3.cast (WS.eq (fun i => rfl) (fun i => ?_) (fun i => rfl) rfl))
        cases i
        · show (⟨_, (z.sp .fr : Int) + _, _⟩ : RR) = ⟨_, ((min (z.sp .fr + M) P.row.length : Nat) : Int), _⟩
          rw [map_len, seg_len (by omega)]
          congr 1
          omega
        · rfl
        · rfl
        · rfl
theorem ok_Device_put (T : Txt K mg) : FnOk prog w K mg base (L2N.CX prog w) 4 (He.fAd K d_Device_put.at_) (fdO K d_Device_put) ["self", "data"] (spPut K .to) :=
  T.F_Device_put.ok sc_Device_put (fun vs H Q E h => by obtain ⟨_, _, _, _, rfl, _⟩ := h; rfl) fun cdv A outer st H vs Q E hr h => by
    obtain ⟨P, z, l, c, rfl, w, hl, hc, hcN, hn, _, qV, qN, qX⟩ := h
    obtain ⟨sa, hD, hst, hpl⟩ := w.dev (i := .to) rfl
    have hN := P.hN
    have hlen : ((seg P.row (z.sp .to) c).map V.int).length = c - z.sp .to := by rw [map_len, seg_len hcN]
    have hs60 := stk_len (P := P) (k := z.sp .to) (i := .to)
    refine ⟨_, (pss_cons (ps_expr (pe_meth0 (pv 0) T.cls_Device T.m_Device_asked (ok_Raw_asked T) (hr.mono (by decide)) T.b_Raw_asked .nil pz)) (pss_cons (ps_expr (pe_meth (pv 0) T.cls_Device T.m_Device_longer (ok_Device_longer T) (hr.mono (by decide)) T.b_Device_longer .nil pz (pa_cons (pe_op op_add (pe_fld (pv 0) rfl) (pe_callB call_len_seq (by rfl) T.n_len PySem.boot_len (pa_cons (pv 1) pa_nil))) pa_nil))) (pss_cons (ps_set (i := 2) sc_Device_put.nd rfl (Or.inl rfl) (pe_meth (pv 0) T.cls_Device T.m_Device_drawn (ok_Device_drawn T) (hr.mono (by decide)) T.b_Device_drawn .nil (L2N.passes_call (L2N.takes_of rfl rfl rfl rfl) (fun _ _ _ _ h => h)) (pa_cons pe_str (pa_cons (pv 1) pa_nil)))) (pss_cons (ps_if (pt_cmpR op_eq (pv 2) pe_int (nomark _)) (pss_cons (ps_expr (pe_meth (pv 0) T.cls_Device T.m_Device_noted (ok_Raw_noted T) (hr.mono (by decide)) T.b_Raw_noted .nil pz (pa_cons pe_str (pa_cons (pe_fld (pv 0) rfl) (pa_cons (pv 1) (pa_cons pe_str pa_nil)))))) (pss_one (ps_ret pe_non))) pss_nil) (pss_cons (ps_set (i := 3) sc_Device_put.nd rfl (Or.inl rfl) (pe_callB call_len_seq (by rfl) T.n_len PySem.boot_len (pa_cons (pv 1) pa_nil))) (pss_cons (ps_if (pt_cmpR op_notN (pv 2) pe_non (nomark _)) (pss_one (ps_set (i := 3) sc_Device_put.nd rfl (Or.inl rfl) (pe_callB (call_min2 rfl) (by rfl) T.n_min (by decide +kernel) (pa_cons (pv 3) (pa_cons (pv 2) pa_nil))))) pss_nil) (pss_cons (ps_expr (pe_meth (pv 0) T.cls_Device T.m_Device_noted (ok_Raw_noted T) (hr.mono (by decide)) T.b_Raw_noted .nil pz (pa_cons pe_str (pa_cons (pe_fld (pv 0) rfl) (pa_cons (pv 1) (pa_cons (pv 3) pa_nil)))))) (pss_cons (ps_fld (pv 0) (pe_call (ok_laid T) (hr.mono (by decide)) (by rfl) T.g_laid T.F_laid.kp T.b_laid .nil pz (pa_cons (pe_fld (pv 0) rfl) (pa_cons (pe_fld (pv 0) rfl) (pa_cons (pe_slice sl_list (pv 1) po_none (po_some (pv 3))) pa_nil)))) rfl) (pss_cons (ps_fld (pv 0) (pe_op op_add (pe_fld (pv 0) rfl) (pv 3)) rfl) (pss_one (ps_ret (pv 3)))))))))))), ?_⟩
    refine ⟨_, rfl, _, _, _, rfl, hD, dF_no_asked, .to, _, _, _, rfl, hD, dF_live, ?_⟩
    refine ⟨_, rfl, _, _, _, rfl, hD, dF_no_longer, _, rfl, _, _, _, _, _, rfl, hD, T.cls_Device, T.n_Device_spot, dF_spot, _, rfl, _, _, rfl, .inl hl.sq, _, _, rfl, rfl, P, _, .to, _, rfl, rfl, w, ?_, Nat.le_trans hs60 (by decide), ?_⟩
    · show ((z.sp .to : Nat) : Int) + _ ≤ 4000
      omega
    refine ⟨_, rfl, _, _, _, rfl, hD, dF_no_drawn, _, rfl, P, _, .to, _, _, rfl, rfl, w, ⟨some _, .inl ⟨l, _, rfl, rfl, hl⟩⟩, Nat.le_trans hn (by decide), fun hge => ?_, fun x hx hx0 => ?_, fun H1 d x hlt hx k w1 hd => qX H1 d x rfl hlt hx k (w1.cast ask_stall) hd⟩
    · refine ⟨_, rfl, rfl, _, rfl, ifF rfl ?_⟩
      refine ⟨_, rfl, _, _, rfl, .inl hl.sq, _, rfl, rfl, _, rfl, ifF rfl ?_⟩
      obtain ⟨M, hM, hM1, hM2⟩ : ∃ M : Nat, (((seg P.row (z.sp .to) c).map V.int).length : Int) = (M : Int) ∧ 1 ≤ M ∧ M ≤ c - z.sp .to := ⟨c - z.sp .to, by omega, by omega, by omega⟩
      rw [hM]
      refine ⟨_, rfl, _, _, _, rfl, hD, dF_no_noted, _, rfl, _, _, _, _, _, rfl, hD, T.cls_Device, T.n_Device_spot, dF_spot, _, rfl, _, rfl, P, _, .to, _, _, _, _, none, rfl, w, ⟨some _, .inl ⟨l, _, rfl, rfl, hl⟩⟩, .inr ⟨rfl, .inl ⟨_, rfl⟩⟩, Nat.le_trans hn (by decide), fun H1 k1 w1 => ?_⟩
      obtain ⟨sa1, hD1, hst1, hpl1⟩ := w1.dev (i := .to) rfl
      have hl1 := hl.keep k1
      refine ⟨_, rfl, _, _, _, _, _, rfl, hD1, T.cls_Device, T.n_Device_stock, dF_stock, _, rfl, _, _, _, _, _, rfl, hD1, T.cls_Device, T.n_Device_spot, dF_spot, _, rfl, _, rfl, _, rfl, _, _, rfl, hl1.sq, fun p hp => ?_⟩
      rw [cut_to, seg_take (by omega)]
      have w2 := w1.new (o := .lst ((seg P.row (z.sp .to) (z.sp .to + M)).map V.int)) hp
      refine ⟨_, _, z.sp .to, stk P (z.sp .to) .to, seg P.row (z.sp .to) (z.sp .to + M), rfl, Ex.new hp _ _ hst1.1, upd_same, ?_, by omega, by rw [seg_len (by omega)]; omega, fun q H2 e2 nq hq => ?_⟩
      · show z.sp .to ≤ (P.row.take (z.sp .to) ++ P.beh.drop (z.sp .to)).length
        rw [List.length_append, List.length_take]
        omega
      rw [stk_put (by omega) (by omega)] at hq
      have w3 := w2.ex e2
      obtain ⟨sa3, hD3, hst3, hpl3⟩ := w3.dev (i := .to) rfl
      refine ⟨_, rfl, _, _, _, _, rfl, hD3, T.cls_Device, T.n_Device_stock, Nat.lt_of_le_of_lt (Nat.le_of_eq dF_len) (by decide), ?_⟩
      have hlq : Lst P H2 q (stk P (z.sp .to + M) .to) := ⟨hq, w2.fresh nq⟩
      have w4 := w3.s_stock (i := .to) rfl hD3 hpl3 hlq
      obtain ⟨sa4, hD4, hst4, hpl4⟩ := w4.dev (i := .to) rfl
      refine ⟨_, rfl, _, _, _, _, _, rfl, hD4, T.cls_Device, T.n_Device_spot, dF_spot, _, rfl, _, _, rfl, rfl, _, rfl, _, _, _, _, rfl, hD4, T.cls_Device, T.n_Device_spot, Nat.lt_of_le_of_lt (Nat.le_of_eq dF_len) (by decide), ?_⟩
      have w5 := w4.s_spot (i := .to) rfl hD4 hst4 hpl4 (b := ((toWS P z).r .to).sp + (M : Int))
      refine ⟨_, rfl, ?_⟩
      have q5 := qV (z.sp .to + M) _ (by omega) (by omega) (fun z => by cases z) ((((k1.trans (Ex.new hp).keep).trans e2.keep).trans Only.upd.keep).trans Only.upd.keep) (w5.cast (WS.eq (fun i => rfl) (fun i => by cases i <;> rfl) (fun i => rfl) rfl))
      rw [show z.sp .to + M - z.sp .to = M by omega] at q5
      exact q5
    · refine ⟨_, rfl, rfl, _, rfl, ite2 (fun e => ?_) fun e => ?_⟩
      · refine ⟨_, rfl, _, _, _, rfl, hD, dF_no_noted, _, rfl, _, _, _, _, _, rfl, hD, T.cls_Device, T.n_Device_spot, dF_spot, _, rfl, P, _, .to, _, _, _, _, none, rfl, w, ⟨some _, .inl ⟨l, _, rfl, rfl, hl⟩⟩, .inr ⟨rfl, .inr ⟨_, rfl⟩⟩, Nat.le_trans hn (by decide), fun H1 k1 w1 => ?_⟩
        exact qN H1 (fun _ => (List.getElem?_eq_some_iff.mp hx).1) (fun z => by cases z) k1 (w1.cast ask_stall)
      · have hx1 : x ≠ 0 := fun e0 => e (decide_eq_true (by rw [e0]))
        refine ⟨_, rfl, _, _, rfl, .inl hl.sq, _, rfl, rfl, _, rfl, ifT rfl ⟨_, rfl, _, rfl, _, _, rfl, ?_⟩⟩
        obtain ⟨M, hM, hM1, hM2⟩ : ∃ M : Nat, (if x < (((seg P.row (z.sp .to) c).map V.int).length : Int) then x else (((seg P.row (z.sp .to) c).map V.int).length : Int)) = (M : Int) ∧ 1 ≤ M ∧ M ≤ c - z.sp .to :=
          ⟨(if x < (((seg P.row (z.sp .to) c).map V.int).length : Int) then x else (((seg P.row (z.sp .to) c).map V.int).length : Int)).toNat, by split <;> omega, by split <;> omega, by split <;> omega⟩
        rw [hM]
        refine ⟨_, rfl, _, _, _, rfl, hD, dF_no_noted, _, rfl, _, _, _, _, _, rfl, hD, T.cls_Device, T.n_Device_spot, dF_spot, _, rfl, _, rfl, P, _, .to, _, _, _, _, none, rfl, w, ⟨some _, .inl ⟨l, _, rfl, rfl, hl⟩⟩, .inr ⟨rfl, .inl ⟨_, rfl⟩⟩, Nat.le_trans hn (by decide), fun H1 k1 w1 => ?_⟩
        obtain ⟨sa1, hD1, hst1, hpl1⟩ := w1.dev (i := .to) rfl
        have hl1 := hl.keep k1
        refine ⟨_, rfl, _, _, _, _, _, rfl, hD1, T.cls_Device, T.n_Device_stock, dF_stock, _, rfl, _, _, _, _, _, rfl, hD1, T.cls_Device, T.n_Device_spot, dF_spot, _, rfl, _, rfl, _, rfl, _, _, rfl, hl1.sq, fun p hp => ?_⟩
        rw [cut_to, seg_take (by omega)]
        have w2 := w1.new (o := .lst ((seg P.row (z.sp .to) (z.sp .to + M)).map V.int)) hp
        refine ⟨_, _, z.sp .to, stk P (z.sp .to) .to, seg P.row (z.sp .to) (z.sp .to + M), rfl, Ex.new hp _ _ hst1.1, upd_same, ?_, by omega, by rw [seg_len (by omega)]; omega, fun q H2 e2 nq hq => ?_⟩
        · show z.sp .to ≤ (P.row.take (z.sp .to) ++ P.beh.drop (z.sp .to)).length
          rw [List.length_append, List.length_take]
          omega
        rw [stk_put (by omega) (by omega)] at hq
        have w3 := w2.ex e2
        obtain ⟨sa3, hD3, hst3, hpl3⟩ := w3.dev (i := .to) rfl
        refine ⟨_, rfl, _, _, _, _, rfl, hD3, T.cls_Device, T.n_Device_stock, Nat.lt_of_le_of_lt (Nat.le_of_eq dF_len) (by decide), ?_⟩
        have hlq : Lst P H2 q (stk P (z.sp .to + M) .to) := ⟨hq, w2.fresh nq⟩
        have w4 := w3.s_stock (i := .to) rfl hD3 hpl3 hlq
        obtain ⟨sa4, hD4, hst4, hpl4⟩ := w4.dev (i := .to) rfl
        refine ⟨_, rfl, _, _, _, _, _, rfl, hD4, T.cls_Device, T.n_Device_spot, dF_spot, _, rfl, _, _, rfl, rfl, _, rfl, _, _, _, _, rfl, hD4, T.cls_Device, T.n_Device_spot, Nat.lt_of_le_of_lt (Nat.le_of_eq dF_len) (by decide), ?_⟩
        have w5 := w4.s_spot (i := .to) rfl hD4 hst4 hpl4 (b := ((toWS P z).r .to).sp + (M : Int))
        refine ⟨_, rfl, ?_⟩
        have q5 := qV (z.sp .to + M) _ (by omega) (by omega) (fun z => by cases z) ((((k1.trans (Ex.new hp).keep).trans e2.keep).trans Only.upd.keep).trans Only.upd.keep) (w5.cast (WS.eq (fun i => rfl) (fun i => by cases i <;> rfl) (fun i => rfl) rfl))
        rw [show z.sp .to + M - z.sp .to = M by omega] at q5
        exact q5
theorem ok_Mouth_put (T : Txt K mg) : FnOk prog w K mg base (L2N.CX prog w) 4 (He.fAd K d_Mouth_put.at_) (fdO K d_Mouth_put) ["self", "data"] (spPut K .wi) :=
  T.F_Mouth_put.ok sc_Mouth_put (fun vs H Q E h => by obtain ⟨_, _, _, _, rfl, _⟩ := h; rfl) fun cdv A outer st H vs Q E hr h => by
    obtain ⟨P, z, l, c, rfl, w, hl, hc, hcN, hn, hp, qV, qN, qX⟩ := h
    obtain ⟨hlv, hp1, hp2⟩ := hp rfl
    have hM := w.end_ (i := .wi) rfl
    have hL := w.end_ (i := .ro) rfl
    obtain ⟨ia, hP, hia⟩ := w.pipe
    have hlen : (seg P.row (z.sp .wi) c).length = c - z.sp .wi := seg_len hcN
    have hsW : z.sp .wi ≤ P.row.length := by omega
    have hN := P.hN
    have hpr := P.hpr
    obtain ⟨F, hF⟩ : ∃ F : Nat, P.proom - (((seg P.row (z.sp .ro) (z.sp .wi)).map V.int).length : Int) = (F : Int) := ⟨(P.proom - (((seg P.row (z.sp .ro) (z.sp .wi)).map V.int).length : Int)).toNat, by rw [map_len, seg_len hsW]; omega⟩
    have hF' : P.proom - ((z.sp .wi : Int) - z.sp .ro) = (F : Int) := by rw [← hF, map_len, seg_len hsW]; omega
    refine ⟨_, (pss_cons (ps_expr (pe_meth0 (pv 0) T.cls_Mouth T.m_Mouth_asked (ok_Raw_asked T) (hr.mono (by decide)) T.b_Raw_asked .nil pz)) (pss_cons (ps_if (pt_not (pt_val (pe_fld (pe_fld (pe_fld (pv 0) rfl) rfl) rfl))) (pss_cons (ps_expr (pe_meth (pv 0) T.cls_Mouth T.m_Mouth_noted (ok_Raw_noted T) (hr.mono (by decide)) T.b_Raw_noted .nil pz (pa_cons pe_str (pa_cons (pe_fld (pv 0) rfl) (pa_cons (pv 1) (pa_cons pe_str pa_nil)))))) (pss_one ps_never)) pss_nil) (pss_cons (ps_set (i := 2) sc_Mouth_put.nd rfl (Or.inl rfl) (pe_slice sl_list (pv 1) po_none (po_some (pe_op op_sub (pe_fld (pe_fld (pv 0) rfl) rfl) (pe_callB call_len_seq (by rfl) T.n_len PySem.boot_len (pa_cons (pe_fld (pe_fld (pv 0) rfl) rfl) pa_nil)))))) (pss_cons (ps_if (pt_cmpR op_eq (pe_callB call_len_seq (by rfl) T.n_len PySem.boot_len (pa_cons (pv 2) pa_nil)) pe_int (nomark _)) (pss_cons (ps_expr (pe_meth (pv 0) T.cls_Mouth T.m_Mouth_noted (ok_Raw_noted T) (hr.mono (by decide)) T.b_Raw_noted .nil pz (pa_cons pe_str (pa_cons (pe_fld (pv 0) rfl) (pa_cons (pv 1) (pa_cons pe_str pa_nil)))))) (pss_one (ps_ret pe_non))) pss_nil) (pss_cons (ps_expr (pe_meth (pv 0) T.cls_Mouth T.m_Mouth_noted (ok_Raw_noted T) (hr.mono (by decide)) T.b_Raw_noted .nil pz (pa_cons pe_str (pa_cons (pe_fld (pv 0) rfl) (pa_cons (pv 1) (pa_cons (pe_callB call_len_seq (by rfl) T.n_len PySem.boot_len (pa_cons (pv 2) pa_nil)) pa_nil)))))) (pss_cons (ps_fld (pe_fld (pv 0) rfl) (pe_op op_cat (pe_fld (pe_fld (pv 0) rfl) rfl) (pe_callTy call_list_of (by rfl) T.n_list (by decide +kernel) (pa_cons (pv 2) pa_nil))) rfl) (pss_cons (ps_fldaug (pv 0) (pe_callB call_len_seq (by rfl) T.n_len PySem.boot_len (pa_cons (pv 2) pa_nil)) in_add) (pss_one (ps_ret (pe_callB call_len_seq (by rfl) T.n_len PySem.boot_len (pa_cons (pv 2) pa_nil))))))))))), ?_⟩
    refine ⟨_, rfl, _, _, _, rfl, hM, eF_no_asked, .wi, _, _, _, rfl, hM, ?_, ?_⟩
    · rw [eF_live]
      show some (V.bl z.lv) = _
      rw [hlv]
    refine ⟨_, rfl, _, _, _, _, _, rfl, hM, T.cls_Mouth, T.n_Mouth_pipe, eF_pipe, _, _, _, _, _, rfl, hP, T.cls_Pipe, T.n_Pipe_low, pF_low, _, _, _, _, _, rfl, hL, T.cls_Drain, T.n_Drain_live, eF_live, _, rfl, ifF rfl ?_⟩
    refine ⟨_, rfl, _, rfl, _, _, _, _, _, rfl, hM, T.cls_Mouth, T.n_Mouth_pipe, eF_pipe, _, _, _, _, _, rfl, hP, T.cls_Pipe, T.n_Pipe_room, pF_room, _, rfl, _, _, _, _, _, rfl, hM, T.cls_Mouth, T.n_Mouth_pipe, eF_pipe, _, _, _, _, _, rfl, hP, T.cls_Pipe, T.n_Pipe_inside, pF_inside, _, _, rfl, .inl hia.sq, _, _, rfl, rfl, _, rfl, _, _, rfl, hl.sq, fun p np => ?_⟩
    have hm : ∃ m, m = min (z.sp .wi + F) c := ⟨_, rfl⟩
    obtain ⟨m, hm⟩ := hm
    have eS : cutV ((seg P.row (z.sp .wi) c).map V.int) none (some (P.proom - (((toWS P z).p.map V.int).length : Int))) = (seg P.row (z.sp .wi) m).map V.int := by
      show cutV ((seg P.row (z.sp .wi) c).map V.int) none (some (P.proom - (((seg P.row (z.sp .ro) (z.sp .wi)).map V.int).length : Int))) = _
      rw [hF, cut_to]
      by_cases h : z.sp .wi + F ≤ c
      · rw [hm, Nat.min_eq_left h, seg_take h]
      · rw [hm, Nat.min_eq_right (by omega), List.take_of_length_le (by omega)]
    rw [eS]
    have w1 := w.new (o := .lst ((seg P.row (z.sp .wi) m).map V.int)) np
    have hf1 : Lst P (upd H p (.lst ((seg P.row (z.sp .wi) m).map V.int))) p (seg P.row (z.sp .wi) m) := lst_new w np
    have k1 : Keep P H (upd H p (.lst ((seg P.row (z.sp .wi) m).map V.int))) := (Ex.new np).keep
    have hM1 := w1.end_ (i := .wi) rfl
    have flen : (seg P.row (z.sp .wi) m).length = m - z.sp .wi := seg_len (by omega)
    refine ⟨_, rfl, _, _, rfl, .inl hf1.sq, rfl, _, rfl, ite2 (fun e => ?_) fun e => ?_⟩
    · have e0 := of_decide_eq_true e
      injection e0 with e0
      rw [map_len, flen] at e0
      refine ⟨_, rfl, _, _, _, rfl, hM1, eF_no_noted, _, rfl, _, _, _, _, _, rfl, hM1, T.cls_Mouth, T.n_Mouth_gone, eF_gone, _, rfl, P, _, .wi, _, _, _, _, none, rfl, w1, ⟨some _, .inl ⟨l, _, rfl, rfl, hl.keep k1⟩⟩, .inr ⟨rfl, .inr ⟨_, rfl⟩⟩, Nat.le_trans hn (by decide), fun H2 k2 w2 => ?_⟩
      exact qN H2 (fun z => by cases z) (fun _ => by omega) (k1.trans k2) (w2.cast ask_stall)
    · have hlt : z.sp .wi < m := by
        rcases Nat.lt_or_ge (z.sp .wi) m with h | h
        · exact h
        · exact absurd (decide_eq_true (by rw [map_len, flen, show m - z.sp .wi = 0 by omega]; rfl)) e
      refine ⟨_, rfl, _, _, _, rfl, hM1, eF_no_noted, _, rfl, _, _, _, _, _, rfl, hM1, T.cls_Mouth, T.n_Mouth_gone, eF_gone, _, rfl, _, rfl, _, _, rfl, .inl hf1.sq, P, _, .wi, _, _, _, _, none, rfl, w1, ⟨some _, .inl ⟨l, _, rfl, rfl, hl.keep k1⟩⟩, .inr ⟨rfl, .inl ⟨_, rfl⟩⟩, Nat.le_trans hn (by decide), fun H2 k2 w2 => ?_⟩
      have hM2 := w2.end_ (i := .wi) rfl
      obtain ⟨ia2, hP2, hia2⟩ := w2.pipe
      have hf2 := hf1.keep k2
      refine ⟨_, rfl, _, _, _, _, _, rfl, hM2, T.cls_Mouth, T.n_Mouth_pipe, eF_pipe, _, _, _, _, _, rfl, hP2, T.cls_Pipe, T.n_Pipe_inside, pF_inside, _, rfl, _, _, rfl, .inl hf2.sq, fun b nb => ?_⟩
      have w3 := w2.new (o := .lst ((seg P.row (z.sp .wi) m).map V.int)) nb
      refine ⟨_, _, _, _, rfl, rfl, Ex.new nb _ _ hia2.1, upd_same, sz1 ?_, fun c' nc => ?_⟩
      · show ((seg P.row (z.sp .ro) (z.sp .wi)).map V.int).length + _ ≤ 10000000
        rw [map_len, map_len, seg_len hsW, flen]
        omega
      have w4 := w3.new (o := .lst ((seg P.row (z.sp .ro) (z.sp .wi)).map V.int ++ (seg P.row (z.sp .wi) m).map V.int)) nc
      obtain ⟨ia4, hP4, hia4⟩ := w4.pipe
      have hM4 := w4.end_ (i := .wi) rfl
      have hc4 : Lst P (upd (upd H2 b (.lst ((seg P.row (z.sp .wi) m).map V.int))) c' (.lst ((seg P.row (z.sp .ro) (z.sp .wi)).map V.int ++ (seg P.row (z.sp .wi) m).map V.int))) c' (seg P.row (z.sp .ro) m) :=
        lst_newE w3 nc (by rw [cat_map, seg_app hp1 (by omega) (by omega)])
      refine ⟨_, rfl, _, _, _, _, _, rfl, hM4, T.cls_Mouth, T.n_Mouth_pipe, eF_pipe, _, _, _, _, rfl, hP4, T.cls_Pipe, T.n_Pipe_inside, Nat.lt_of_le_of_lt (Nat.le_of_eq pF_len) (by decide), ?_⟩
      have w5 := w4.s_inside (ia := ia4) hc4
      have hM5 := w5.end_ (i := .wi) rfl
      have k5 := ((Ex.new nb).keep.trans (Ex.new nc).keep).trans (Only.upd (P := P) (z := .p) (H := upd (upd H2 b (.lst ((seg P.row (z.sp .wi) m).map V.int))) c' (.lst ((seg P.row (z.sp .ro) (z.sp .wi)).map V.int ++ (seg P.row (z.sp .wi) m).map V.int)))
        (o := .ins (He.ga K "Pipe") (P.D .p) (putF "inside" (.ref c') (pF (.int P.proom) (.ref ia4) (.ref (P.A (.r .wi))) (.ref (P.A (.r .ro))))))).keep
      have hf5 := hf2.keep k5
      refine ⟨_, rfl, _, _, _, _, _, rfl, hM5, T.cls_Mouth, T.n_Mouth_gone, eF_gone, _, rfl, _, _, rfl, .inl hf5.sq, _, _, rfl, rfl, _, _, hM5, Nat.lt_of_le_of_lt (Nat.le_of_eq eF_len) (by decide), ?_⟩
      have w6 := w5.s_gone (i := .wi) rfl (b := ((toWS P z).r .wi).sp + ((((seg P.row (z.sp .wi) m).map V.int).length : Nat) : Int))
      refine ⟨_, rfl, _, _, rfl, .inl (hf5.keep Only.upd.keep).sq, ?_⟩
      have q6 := qV m _ hlt (by omega) (fun _ => by omega) (((k1.trans k2).trans k5).trans Only.upd.keep) (w6.cast (WS.eq (fun i => rfl) (fun i => ?_) (fun i => rfl) rfl))
      · rw [show m - z.sp .wi = ((seg P.row (z.sp .wi) m).map V.int).length by rw [map_len, flen]] at q6
        exact q6
      · cases i
        · rfl
        · show (⟨_, (z.sp .wi : Int) + _, _⟩ : RR) = ⟨_, (m : Int), _⟩
          rw [map_len, flen]
          congr 1
          omega
        · rfl
        · rfl
theorem ok_Drain_take (T : Txt K mg) : FnOk prog w K mg base (L2N.CX prog w) 4 (He.fAd K d_Drain_take.at_) (fdO K d_Drain_take) ["self", "many"] (spTake K .ro) :=
  T.F_Drain_take.ok sc_Drain_take (fun vs H Q E h => by obtain ⟨_, _, _, rfl, _⟩ := h; rfl) fun cdv A outer st H vs Q E hr h => by
    obtain ⟨P, z, many, rfl, h1, h2, w, hsp, hn, hp, qV, qN, qX⟩ := h
    obtain ⟨hp1, hp2⟩ := hp rfl
    have hL := w.end_ (i := .ro) rfl
    have hM := w.end_ (i := .wi) rfl
    obtain ⟨ia, hP, hia⟩ := w.pipe
    have hN := P.hN
    obtain ⟨F, hF⟩ : ∃ F : Nat, many = (F : Int) := ⟨many.toNat, by omega⟩
    subst hF
    obtain ⟨m, hm⟩ : ∃ m, m = min (z.sp .ro + F) (z.sp .wi) := ⟨_, rfl⟩
    have flen : (seg P.row (z.sp .ro) m).length = m - z.sp .ro := seg_len (by omega)
    have eS : cutV ((toWS P z).p.map V.int) none (some (F : Int)) = (seg P.row (z.sp .ro) m).map V.int := by
      show cutV ((seg P.row (z.sp .ro) (z.sp .wi)).map V.int) none (some (F : Int)) = _
      rw [cut_to]
      by_cases h : z.sp .ro + F ≤ z.sp .wi
      · rw [hm, Nat.min_eq_left h, seg_take h]
      · rw [hm, Nat.min_eq_right (by omega), List.take_of_length_le (by rw [seg_len hp2]; omega)]
    refine ⟨_, (pss_cons (ps_expr (pe_meth0 (pv 0) T.cls_Drain T.m_Drain_asked (ok_Raw_asked T) (hr.mono (by decide)) T.b_Raw_asked .nil pz)) (pss_cons (ps_set (i := 2) sc_Drain_take.nd rfl (Or.inl rfl) (pe_slice sl_list (pe_fld (pe_fld (pv 0) rfl) rfl) po_none (po_some (pv 1)))) (pss_cons (ps_if (PW.pt (pw_and (pt_cmpR op_eq (pe_callB call_len_seq (by rfl) T.n_len PySem.boot_len (pa_cons (pv 2) pa_nil)) pe_int (nomark _)) (pw_and1 (pt_val (pe_fld (pe_fld (pe_fld (pv 0) rfl) rfl) rfl))))) (pss_cons (ps_expr (pe_meth (pv 0) T.cls_Drain T.m_Drain_noted (ok_Raw_noted T) (hr.mono (by decide)) T.b_Raw_noted .nil pz (pa_cons pe_str (pa_cons (pe_fld (pv 0) rfl) (pa_cons (pv 1) (pa_cons pe_str pa_nil)))))) (pss_one (ps_ret pe_non))) pss_nil) (pss_cons (ps_expr (pe_meth (pv 0) T.cls_Drain T.m_Drain_noted (ok_Raw_noted T) (hr.mono (by decide)) T.b_Raw_noted .nil pz (pa_cons pe_str (pa_cons (pe_fld (pv 0) rfl) (pa_cons (pv 1) (pa_cons (pv 2) pa_nil)))))) (pss_cons (ps_fld (pe_fld (pv 0) rfl) (pe_slice sl_list (pe_fld (pe_fld (pv 0) rfl) rfl) (po_some (pe_callB call_len_seq (by rfl) T.n_len PySem.boot_len (pa_cons (pv 2) pa_nil))) po_none) rfl) (pss_cons (ps_fldaug (pv 0) (pe_callB call_len_seq (by rfl) T.n_len PySem.boot_len (pa_cons (pv 2) pa_nil)) in_add) (pss_one (ps_ret (pv 2))))))))), ?_⟩
    refine ⟨_, rfl, _, _, _, rfl, hL, eF_no_asked, .ro, _, _, _, rfl, hL, eF_live, ?_⟩
    refine ⟨_, rfl, _, _, _, _, _, rfl, hL, T.cls_Drain, T.n_Drain_pipe, eF_pipe, _, _, _, _, _, rfl, hP, T.cls_Pipe, T.n_Pipe_inside, pF_inside, _, rfl, _, rfl, _, _, rfl, hia.sq, fun p np => ?_⟩
    rw [eS]
    have w1 := w.new (o := .lst ((seg P.row (z.sp .ro) m).map V.int)) np
    have hf1 : Lst P (upd H p (.lst ((seg P.row (z.sp .ro) m).map V.int))) p (seg P.row (z.sp .ro) m) := lst_new w np
    have k1 : Keep P H (upd H p (.lst ((seg P.row (z.sp .ro) m).map V.int))) := (Ex.new np).keep
    have hL1 := w1.end_ (i := .ro) rfl
    have hM1 := w1.end_ (i := .wi) rfl
    obtain ⟨ia1, hP1, hia1⟩ := w1.pipe
    refine ⟨_, rfl, _, _, rfl, .inl hf1.sq, rfl, _, rfl, ite2 (fun e => ?_) fun e => ?_⟩
    · have e0 := of_decide_eq_true e
      injection e0 with e0
      rw [map_len, flen] at e0
      have e1 : z.sp .ro = z.sp .wi := by omega
      refine ⟨_, rfl, _, _, _, _, _, rfl, hL1, T.cls_Drain, T.n_Drain_pipe, eF_pipe, _, _, _, _, _, rfl, hP1, T.cls_Pipe, T.n_Pipe_high, pF_high, _, _, _, _, _, rfl, hM1, T.cls_Mouth, T.n_Mouth_live, eF_live, _, rfl, ite2 (fun e2 => ?_) fun e2 => ?_⟩
      · have hlv : z.lv = true := e2
        refine ⟨_, rfl, _, _, _, rfl, hL1, eF_no_noted, _, rfl, _, _, _, _, _, rfl, hL1, T.cls_Drain, T.n_Drain_gone, eF_gone, _, rfl, P, _, .ro, _, _, _, _, none, rfl, w1, ⟨none, .inr ⟨rfl, .inl ⟨_, rfl⟩⟩⟩, .inr ⟨rfl, .inr ⟨_, rfl⟩⟩, Nat.le_trans hn (by decide), fun H2 k2 w2 => ?_⟩
        exact qN H2 (fun z => by cases z) (fun _ => ⟨hlv, e1⟩) (k1.trans k2) (w2.cast ask_stall)
      · have hlv : z.lv = false := by
          cases hz : z.lv with
          | true => exact absurd hz e2
          | false => rfl
        refine ⟨_, rfl, _, _, _, rfl, hL1, eF_no_noted, _, rfl, _, _, _, _, _, rfl, hL1, T.cls_Drain, T.n_Drain_gone, eF_gone, _, rfl, _, rfl, P, _, .ro, _, _, _, _, some _, rfl, w1, ⟨none, .inr ⟨rfl, .inl ⟨_, rfl⟩⟩⟩, .inl ⟨p, _, rfl, rfl, hf1⟩, Nat.le_trans hn (by decide), fun H2 k2 w2 => ?_⟩
        have hL2 := w2.end_ (i := .ro) rfl
        obtain ⟨ia2, hP2, hia2⟩ := w2.pipe
        have hf2 := hf1.keep k2
        refine ⟨_, rfl, _, _, _, _, _, rfl, hL2, T.cls_Drain, T.n_Drain_pipe, eF_pipe, _, _, _, _, _, rfl, hP2, T.cls_Pipe, T.n_Pipe_inside, pF_inside, _, rfl, _, _, rfl, .inl hf2.sq, _, rfl, _, _, rfl, hia2.sq, fun c nc => ?_⟩
        have eC : cutV ((toWS P z).p.map V.int) (some ((((seg P.row (z.sp .ro) m).map V.int).length : Nat) : Int)) none = (seg P.row m (z.sp .wi)).map V.int := by
          show cutV ((seg P.row (z.sp .ro) (z.sp .wi)).map V.int) _ none = _
          rw [cut_from, map_len, flen, seg_drop, show z.sp .ro + (m - z.sp .ro) = m by omega]
        rw [eC]
        have w3 := w2.new (o := .lst ((seg P.row m (z.sp .wi)).map V.int)) nc
        have hc3 : Lst P (upd H2 c (.lst ((seg P.row m (z.sp .wi)).map V.int))) c (seg P.row m (z.sp .wi)) := lst_new w2 nc
        obtain ⟨ia3, hP3, hia3⟩ := w3.pipe
        have hL3 := w3.end_ (i := .ro) rfl
        refine ⟨_, rfl, _, _, _, _, _, rfl, hL3, T.cls_Drain, T.n_Drain_pipe, eF_pipe, _, _, _, _, rfl, hP3, T.cls_Pipe, T.n_Pipe_inside, Nat.lt_of_le_of_lt (Nat.le_of_eq pF_len) (by decide), ?_⟩
        have w4 := w3.s_inside (ia := ia3) hc3
        have hL4 := w4.end_ (i := .ro) rfl
        have k4 := (Ex.new nc).keep.trans (Only.upd (P := P) (z := .p) (H := upd H2 c (.lst ((seg P.row m (z.sp .wi)).map V.int)))
          (o := .ins (He.ga K "Pipe") (P.D .p) (putF "inside" (.ref c) (pF (.int P.proom) (.ref ia3) (.ref (P.A (.r .wi))) (.ref (P.A (.r .ro))))))).keep
        have hf4 := hf2.keep k4
        refine ⟨_, rfl, _, _, _, _, _, rfl, hL4, T.cls_Drain, T.n_Drain_gone, eF_gone, _, rfl, _, _, rfl, .inl hf4.sq, _, _, rfl, rfl, _, _, hL4, Nat.lt_of_le_of_lt (Nat.le_of_eq eF_len) (by decide), ?_⟩
        have w5 := w4.s_gone (i := .ro) rfl (b := ((toWS P z).r .ro).sp + ((((seg P.row (z.sp .ro) m).map V.int).length : Nat) : Int))
        refine ⟨_, rfl, ?_⟩
        refine qV m _ _ (by omega) (by omega) (fun _ => by omega) (fun _ => ⟨fun z => (by cases z), fun _ => ⟨hlv, e1⟩⟩) (((k1.trans k2).trans k4).trans Only.upd.keep) (hf4.keep Only.upd.keep) (w5.cast (WS.eq (fun i => rfl) (fun i => ?_) (fun i => rfl) rfl))
        cases i
        · rfl
        · rfl
        · show (⟨_, (z.sp .ro : Int) + _, _⟩ : RR) = ⟨_, (m : Int), _⟩
          rw [map_len, flen]
          congr 1
          omega
        · rfl
    · have hne : m ≠ z.sp .ro := fun z => e (decide_eq_true (by rw [map_len, flen, z, Nat.sub_self]; rfl))
      refine ifF rfl ?_
      refine ⟨_, rfl, _, _, _, rfl, hL1, eF_no_noted, _, rfl, _, _, _, _, _, rfl, hL1, T.cls_Drain, T.n_Drain_gone, eF_gone, _, rfl, _, rfl, P, _, .ro, _, _, _, _, some _, rfl, w1, ⟨none, .inr ⟨rfl, .inl ⟨_, rfl⟩⟩⟩, .inl ⟨p, _, rfl, rfl, hf1⟩, Nat.le_trans hn (by decide), fun H2 k2 w2 => ?_⟩
      have hL2 := w2.end_ (i := .ro) rfl
      obtain ⟨ia2, hP2, hia2⟩ := w2.pipe
      have hf2 := hf1.keep k2
      refine ⟨_, rfl, _, _, _, _, _, rfl, hL2, T.cls_Drain, T.n_Drain_pipe, eF_pipe, _, _, _, _, _, rfl, hP2, T.cls_Pipe, T.n_Pipe_inside, pF_inside, _, rfl, _, _, rfl, .inl hf2.sq, _, rfl, _, _, rfl, hia2.sq, fun c nc => ?_⟩
      have eC : cutV ((toWS P z).p.map V.int) (some ((((seg P.row (z.sp .ro) m).map V.int).length : Nat) : Int)) none = (seg P.row m (z.sp .wi)).map V.int := by
        show cutV ((seg P.row (z.sp .ro) (z.sp .wi)).map V.int) _ none = _
        rw [cut_from, map_len, flen, seg_drop, show z.sp .ro + (m - z.sp .ro) = m by omega]
      rw [eC]
      have w3 := w2.new (o := .lst ((seg P.row m (z.sp .wi)).map V.int)) nc
      have hc3 : Lst P (upd H2 c (.lst ((seg P.row m (z.sp .wi)).map V.int))) c (seg P.row m (z.sp .wi)) := lst_new w2 nc
      obtain ⟨ia3, hP3, hia3⟩ := w3.pipe
      have hL3 := w3.end_ (i := .ro) rfl
      refine ⟨_, rfl, _, _, _, _, _, rfl, hL3, T.cls_Drain, T.n_Drain_pipe, eF_pipe, _, _, _, _, rfl, hP3, T.cls_Pipe, T.n_Pipe_inside, Nat.lt_of_le_of_lt (Nat.le_of_eq pF_len) (by decide), ?_⟩
      have w4 := w3.s_inside (ia := ia3) hc3
      have hL4 := w4.end_ (i := .ro) rfl
      have k4 := (Ex.new nc).keep.trans (Only.upd (P := P) (z := .p) (H := upd H2 c (.lst ((seg P.row m (z.sp .wi)).map V.int)))
        (o := .ins (He.ga K "Pipe") (P.D .p) (putF "inside" (.ref c) (pF (.int P.proom) (.ref ia3) (.ref (P.A (.r .wi))) (.ref (P.A (.r .ro))))))).keep
      have hf4 := hf2.keep k4
      refine ⟨_, rfl, _, _, _, _, _, rfl, hL4, T.cls_Drain, T.n_Drain_gone, eF_gone, _, rfl, _, _, rfl, .inl hf4.sq, _, _, rfl, rfl, _, _, hL4, Nat.lt_of_le_of_lt (Nat.le_of_eq eF_len) (by decide), ?_⟩
      have w5 := w4.s_gone (i := .ro) rfl (b := ((toWS P z).r .ro).sp + ((((seg P.row (z.sp .ro) m).map V.int).length : Nat) : Int))
      refine ⟨_, rfl, ?_⟩
      refine qV m _ _ (by omega) (by omega) (fun _ => by omega) (fun z => absurd z hne) (((k1.trans k2).trans k4).trans Only.upd.keep) (hf4.keep Only.upd.keep) (w5.cast (WS.eq (fun i => rfl) (fun i => ?_) (fun i => rfl) rfl))
      cases i
      · rfl
      · rfl
      · show (⟨_, (z.sp .ro : Int) + _, _⟩ : RR) = ⟨_, (m : Int), _⟩
        rw [map_len, flen]
        congr 1
        omega
      · rfl
end
end Sip

set_option Elab.async false
set_option linter.all false
set_option maxRecDepth 100000
set_option maxHeartbeats 4000000
noncomputable section
namespace Sip
open PySem PySem.Spec PyProof.Rows L2 SipX L2H HotX
/-! ### files: what asks nothing of the raw -/
def spLiving (K : PySem.W.Frag) : Sp := fun vs H Q _ => ∃ (P : Pm) (s : WS) (i : Ix), vs = [.ref (P.A (.f i))] ∧ W P K H s ∧ (s.f i).lv = true ∧ Q .non H
def spReadable (K : PySem.W.Frag) : Sp := fun vs H Q _ => ∃ (P : Pm) (s : WS) (i : Ix) (n : Int), vs = [.ref (P.A (.f i)), .int n] ∧ W P K H s ∧ (s.f i).lv = true ∧ rdB i = true ∧ 0 ≤ n ∧ Q .non H
def spWritable (K : PySem.W.Frag) : Sp := fun vs H Q _ => ∃ (P : Pm) (s : WS) (i : Ix), vs = [.ref (P.A (.f i))] ∧ W P K H s ∧ (s.f i).lv = true ∧ wrB i = true ∧ Q .non H
def spTell (K : PySem.W.Frag) : Sp := fun vs H Q _ => ∃ (P : Pm) (s : WS) (i : Ix), vs = [.ref (P.A (.f i))] ∧ W P K H s ∧ (s.f i).lv = true ∧ Q (.int (s.f i).cu) H
def spBusy (K : PySem.W.Frag) : Sp := fun vs H Q _ => ∃ (P : Pm) (s : WS) (i : Ix), vs = [.ref (P.A (.f i))] ∧ W P K H s ∧ Q (.bl (s.f i).po) H
def spClosed (K : PySem.W.Frag) : Sp := fun vs H Q _ => ∃ (P : Pm) (s : WS) (i : Ix), vs = [.ref (P.A (.f i))] ∧ W P K H s ∧ Q (.bl (!(s.f i).lv)) H
def spWaiting (K : PySem.W.Frag) : Sp := fun vs H Q _ => ∃ (P : Pm) (s : WS) (i : Ix), vs = [.ref (P.A (.f i))] ∧ W P K H s ∧ (s.f i).lv = true ∧ ∀ l H', Ex H H' → Lst P H' l (s.f i).de → Q (.ref l) H'
def spLost (K : PySem.W.Frag) : Sp := fun vs H Q _ => ∃ (P : Pm) (s : WS) (i : Ix), vs = [.ref (P.A (.f i))] ∧ W P K H s ∧ ∀ l H', Ex H H' → Lst P H' l (s.f i).mi → Q (.ref l) H'
def spLead (K : PySem.W.Frag) : Sp := fun vs H Q _ => ∃ (P : Pm) (s : WS) (i : Ix) (v : Int), vs = [.ref (P.A (.f i)), .int v] ∧ W P K H s ∧ (dvB i = true → v = (s.r i).sp) ∧ Q .non H
def spBytes : Sp := fun vs H Q _ => ∃ (l : Addr) (xs : List Int), vs = [.ref l] ∧ H l = some (.lst (xs.map V.int)) ∧ (∀ x ∈ xs, 0 ≤ x ∧ x ≤ 255) ∧ ∀ H', Ex H H' → Q .non H'
def spShown (K : PySem.W.Frag) : Sp := fun vs H Q _ => ∃ (P : Pm) (s : WS) (i : Ix) (m : Nat) (b : Bool), vs = [.ref (P.A (.f i)), .int m, .bl b] ∧ W P K H s ∧
  ((s.f i).ah.take m ≠ [] ∨ b = true → ∀ l H', Ex H H' → Lst P H' l ((s.f i).ah.take m) → Q (.ref l) H') ∧ ((s.f i).ah.take m = [] → b = false → ∀ H', Ex H H' → Q .non H')
def spGathered (K : PySem.W.Frag) : Sp := fun vs H Q _ => ∃ (P : Pm) (s : WS) (i : Ix) (m : Nat), vs = [.ref (P.A (.f i)), .int m] ∧ W P K H s ∧ m ≤ (s.f i).ah.length ∧ Q (.bl true) H
def spPulled (K : PySem.W.Frag) : Sp := fun vs H Q _ => ∃ (P : Pm) (s : WS) (i : Ix) (m : Nat), vs = [.ref (P.A (.f i)), .int m, .bl true] ∧ W P K H s ∧ m ≤ (s.f i).ah.length ∧
  ∀ l H', Keep P H H' → W P K H' { s with f := up s.f i { s.f i with ah := (s.f i).ah.drop m, cu := (s.f i).cu + m } } → Q (.ref l) H'
def spHandOn0 (K : PySem.W.Frag) : Sp := fun vs H Q _ => ∃ (P : Pm) (s : WS) (i : Ix), vs = [.ref (P.A (.f i))] ∧ W P K H s ∧ (s.f i).de = [] ∧ Q .non H
/-- m bytes are read away -/
def Z.rd (z : Z) (i : Ix) (m : Nat) : Z := { z with c := up z.c i m, lo := up z.lo i m }
def spRead (K : PySem.W.Frag) : Sp := fun vs H Q _ => ∃ (P : Pm) (z : Z) (i : Ix) (m : Nat), vs = [.ref (P.A (.f i)), .int m] ∧ W P K H (toWS P z) ∧ lvI z.lv i = true ∧ rdB i = true ∧ 1 ≤ m ∧ z.c i + m ≤ z.hi i ∧ z.hi i ≤ P.row.length ∧ z.lo i = z.c i ∧
  ∀ l H', Keep P H H' → W P K H' (toWS P (z.rd i (z.c i + m))) → Q (.ref l) H'
def aSeeks (K : PySem.W.Frag) (i : Ix) : Addr := if dvB i = true then He.fAd K d_Device_seeks.at_ else He.fAd K d_End_seeks.at_
def fdSeeks (K : PySem.W.Frag) (i : Ix) : FuncData := if dvB i = true then fdO K d_Device_seeks else fdO K d_End_seeks
section
variable {prog : Program} {w : World} {base : Heap} {K : PySem.W.Frag} {mg : Str → Option Value}
theorem okR_seeks (T : Txt K mg) (i : Ix) : FnOk prog w K mg base CXz 1 (aSeeks K i) (fdSeeks K i) ["self"] (spSeeks K i) := by
  unfold aSeeks fdSeeks
  cases h : dvB i with
  | true => rw [if_pos rfl, if_pos rfl]; exact ok_Device_seeks T i h
  | false => rw [if_neg (by decide), if_neg (by decide)]; exact ok_End_seeks T i h
theorem Txt.bR_seeks (T : Txt K mg) (i : Ix) : Binds K (fdSeeks K i) ["self"] [] := by
  unfold fdSeeks
  cases h : dvB i with
  | true => rw [if_pos rfl]; exact T.b_Device_seeks
  | false => rw [if_neg (by decide)]; exact T.b_End_seeks
theorem Txt.mR_seeks (T : Txt K mg) (i : Ix) : Meth K (rC K i) "seeks" (aSeeks K i) := by
  cases i
  · exact T.m_Device_seeks
  · exact T.m_Mouth_seeks
  · exact T.m_Drain_seeks
  · exact T.m_Device_seeks
theorem ok_File_living (T : Txt K mg) : FnOk prog w K mg base CXz 1 (He.fAd K d_File_living.at_) (fdO K d_File_living) ["self"] (spLiving K) :=
  T.F_File_living.ok sc_File_living (fun vs H Q E h => by obtain ⟨_, _, _, rfl, _⟩ := h; rfl) fun cdv A outer st H vs Q E hr h => by
    obtain ⟨P, s, i, rfl, w, lv, q⟩ := h
    obtain ⟨ah, de, mi, hF, hah, hde, hmi⟩ := w.file i
    exact ⟨_, (pss_one (ps_if (pt_not (pt_val (pe_fld (pv 0) rfl))) (pss_one ps_never) pss_nil)), _, rfl, _, _, _, _, _, rfl, hF, T.cls_File, T.n_File_live, fF_live, _, rfl, ifF (by rw [lv]; rfl) q⟩
theorem ok_File_tell (T : Txt K mg) : FnOk prog w K mg base CXz 2 (He.fAd K d_File_tell.at_) (fdO K d_File_tell) ["self"] (spTell K) :=
  T.F_File_tell.ok sc_File_tell (fun vs H Q E h => by obtain ⟨_, _, _, rfl, _⟩ := h; rfl) fun cdv A outer st H vs Q E hr h => by
    obtain ⟨P, s, i, rfl, w, lv, q⟩ := h
    obtain ⟨ah, de, mi, hF, hah, hde, hmi⟩ := w.file i
    refine ⟨_, (pss_cons (ps_expr (pe_meth0 (pv 0) T.cls_File T.m_File_living (ok_File_living T) (hr.mono (by decide)) T.b_File_living .nil pz)) (pss_one (ps_ret (pe_fld (pv 0) rfl)))), ?_⟩
    exact ⟨_, rfl, _, _, _, rfl, hF, fF_no_living, P, s, i, rfl, w, lv, _, rfl, _, _, _, _, _, rfl, hF, T.cls_File, T.n_File_cursor, fF_cursor, q⟩
theorem ok_File_busy (T : Txt K mg) : FnOk prog w K mg base CXz 1 (He.fAd K d_File_busy.at_) (fdO K d_File_busy) ["self"] (spBusy K) :=
  T.F_File_busy.ok sc_File_busy (fun vs H Q E h => by obtain ⟨_, _, _, rfl, _⟩ := h; rfl) fun cdv A outer st H vs Q E hr h => by
    obtain ⟨P, s, i, rfl, w, q⟩ := h
    obtain ⟨ah, de, mi, hF, hah, hde, hmi⟩ := w.file i
    exact ⟨_, (pss_one (ps_ret (pe_fld (pv 0) rfl))), _, rfl, _, _, _, _, _, rfl, hF, T.cls_File, T.n_File_pouring, fF_pouring, q⟩
theorem ok_File_closed (T : Txt K mg) : FnOk prog w K mg base CXz 1 (He.fAd K d_File_closed.at_) (fdO K d_File_closed) ["self"] (spClosed K) :=
  T.F_File_closed.ok sc_File_closed (fun vs H Q E h => by obtain ⟨_, _, _, rfl, _⟩ := h; rfl) fun cdv A outer st H vs Q E hr h => by
    obtain ⟨P, s, i, rfl, w, q⟩ := h
    obtain ⟨ah, de, mi, hF, hah, hde, hmi⟩ := w.file i
    exact ⟨_, (pss_one (ps_ret (pe_not (pe_fld (pv 0) rfl)))), _, rfl, _, _, _, _, _, rfl, hF, T.cls_File, T.n_File_live, fF_live, _, rfl, q⟩
theorem ok_File_waiting (T : Txt K mg) : FnOk prog w K mg base CXz 2 (He.fAd K d_File_waiting.at_) (fdO K d_File_waiting) ["self"] (spWaiting K) :=
  T.F_File_waiting.ok sc_File_waiting (fun vs H Q E h => by obtain ⟨_, _, _, rfl, _⟩ := h; rfl) fun cdv A outer st H vs Q E hr h => by
    obtain ⟨P, s, i, rfl, w, lv, q⟩ := h
    obtain ⟨ah, de, mi, hF, hah, hde, hmi⟩ := w.file i
    refine ⟨_, (pss_cons (ps_expr (pe_meth0 (pv 0) T.cls_File T.m_File_living (ok_File_living T) (hr.mono (by decide)) T.b_File_living .nil pz)) (pss_one (ps_ret (pe_callTy call_list_of (by rfl) T.n_list (by decide +kernel) (pa_cons (pe_fld (pv 0) rfl) pa_nil))))), ?_⟩
    exact ⟨_, rfl, _, _, _, rfl, hF, fF_no_living, P, s, i, rfl, w, lv, _, rfl, _, _, _, _, _, rfl, hF, T.cls_File, T.n_File_delayed, fF_delayed, _, _, rfl, .inl hde.sq, fun p hp => q p _ (Ex.new hp) (lst_new w hp)⟩
theorem ok_File_lost (T : Txt K mg) : FnOk prog w K mg base CXz 1 (He.fAd K d_File_lost.at_) (fdO K d_File_lost) ["self"] (spLost K) :=
  T.F_File_lost.ok sc_File_lost (fun vs H Q E h => by obtain ⟨_, _, _, rfl, _⟩ := h; rfl) fun cdv A outer st H vs Q E hr h => by
    obtain ⟨P, s, i, rfl, w, q⟩ := h
    obtain ⟨ah, de, mi, hF, hah, hde, hmi⟩ := w.file i
    refine ⟨_, (pss_one (ps_ret (pe_callTy call_list_of (by rfl) T.n_list (by decide +kernel) (pa_cons (pe_fld (pv 0) rfl) pa_nil)))), ?_⟩
    exact ⟨_, rfl, _, _, _, _, _, rfl, hF, T.cls_File, T.n_File_missed, fF_missed, _, _, rfl, .inl hmi.sq, fun p hp => q p _ (Ex.new hp) (lst_new w hp)⟩
theorem ok_File_readable (T : Txt K mg) : FnOk prog w K mg base CXz 2 (He.fAd K d_File_readable.at_) (fdO K d_File_readable) ["self", "many"] (spReadable K) :=
  T.F_File_readable.ok sc_File_readable (fun vs H Q E h => by obtain ⟨_, _, _, _, rfl, _⟩ := h; rfl) fun cdv A outer st H vs Q E hr h => by
    obtain ⟨P, s, i, n, rfl, w, lv, rd, hn, q⟩ := h
    obtain ⟨ah, de, mi, hF, hah, hde, hmi⟩ := w.file i
    refine ⟨_, (pss_cons (ps_expr (pe_meth0 (pv 0) T.cls_File T.m_File_living (ok_File_living T) (hr.mono (by decide)) T.b_File_living .nil pz)) (pss_cons (ps_if (pt_not (pt_val (pe_fld (pv 0) rfl))) (pss_one ps_never) pss_nil) (pss_one (ps_expr (pe_call (ok_count_asked T) (hr.mono (by decide)) (by rfl) T.g_count_asked T.F_count_asked.kp T.b_count_asked .nil pz (pa_cons (pv 1) pa_nil)))))), ?_⟩
    exact ⟨_, rfl, _, _, _, rfl, hF, fF_no_living, P, s, i, rfl, w, lv, _, rfl, _, _, _, _, _, rfl, hF, T.cls_File, T.n_File_reading, fF_reading, _, rfl, ifF (by rw [rd]; rfl) ⟨_, rfl, n, rfl, hn, q⟩⟩
theorem ok_File_writable (T : Txt K mg) : FnOk prog w K mg base CXz 2 (He.fAd K d_File_writable.at_) (fdO K d_File_writable) ["self"] (spWritable K) :=
  T.F_File_writable.ok sc_File_writable (fun vs H Q E h => by obtain ⟨_, _, _, rfl, _⟩ := h; rfl) fun cdv A outer st H vs Q E hr h => by
    obtain ⟨P, s, i, rfl, w, lv, rd, q⟩ := h
    obtain ⟨ah, de, mi, hF, hah, hde, hmi⟩ := w.file i
    refine ⟨_, (pss_cons (ps_expr (pe_meth0 (pv 0) T.cls_File T.m_File_living (ok_File_living T) (hr.mono (by decide)) T.b_File_living .nil pz)) (pss_one (ps_if (pt_not (pt_val (pe_fld (pv 0) rfl))) (pss_one ps_never) pss_nil))), ?_⟩
    exact ⟨_, rfl, _, _, _, rfl, hF, fF_no_living, P, s, i, rfl, w, lv, _, rfl, _, _, _, _, _, rfl, hF, T.cls_File, T.n_File_writing, fF_writing, _, rfl, ifF (by rw [rd]; rfl) q⟩
theorem ok_File_lead (T : Txt K mg) : FnOk prog w K mg base CXz 3 (He.fAd K d_File_lead.at_) (fdO K d_File_lead) ["self", "place"] (spLead K) :=
  T.F_File_lead.ok sc_File_lead (fun vs H Q E h => by obtain ⟨_, _, _, _, rfl, _⟩ := h; rfl) fun cdv A outer st H vs Q E hr h => by
    obtain ⟨P, s, i, v, rfl, w, hv, q⟩ := h
    obtain ⟨ah, de, mi, hF, hah, hde, hmi⟩ := w.file i
    obtain ⟨fs, hR, l1, l2, l3, l4, l5, l6, l7, l8⟩ := w.rget i
    cases hd : dvB i with
    | true =>
      obtain ⟨sa, hD, hst, hpl⟩ := w.dev hd
      refine ⟨_, (pss_one (ps_if (PW.pt (pw_and (pt_val (pe_meth0 (pe_fld (pv 0) rfl) (T.clsR i) (T.mR_seeks i) (okR_seeks T i) (hr.mono (by decide)) (T.bR_seeks i) .nil pz)) (pw_and1 (pt_cmpR op_ne (pe_meth0 (pe_fld (pv 0) rfl) T.cls_Device T.m_Device_place (ok_Device_place T) (hr.mono (by decide)) T.b_Device_place .nil pz) (pv 1) (nomark _))))) (pss_one ps_never) pss_nil)), ?_⟩
      refine ⟨_, rfl, _, _, _, _, _, rfl, hF, T.cls_File, T.n_File_raw, fF_raw, _, _, _, rfl, hR, l5, _, _, _, rfl, hR, l8, _, rfl, ifT hd ?_⟩
      refine ⟨_, rfl, _, _, _, _, _, rfl, hF, T.cls_File, T.n_File_raw, fF_raw, _, _, _, rfl, hD, dF_no_place, _, _, _, _, rfl, hD, dF_steady, dF_spot, dF_no_seeking, _, rfl, rfl, _, rfl, ifF ?_ q⟩
      rw [hv hd]
      simp
    | false =>
      refine ⟨_, (pss_one (ps_if (PW.pt (pw_and (pt_val (pe_meth0 (pe_fld (pv 0) rfl) (T.clsR i) (T.mR_seeks i) (okR_seeks T i) (hr.mono (by decide)) (T.bR_seeks i) .nil pz)) (pw_and1 pt_never))) (pss_one ps_never) pss_nil)), ?_⟩
      refine ⟨_, rfl, _, _, _, _, _, rfl, hF, T.cls_File, T.n_File_raw, fF_raw, _, _, _, rfl, hR, l5, _, _, _, rfl, hR, l8, _, rfl, ?_⟩
      rw [hd]
      exact q
theorem ok_bytes_asked (T : Txt K mg) : FnOk prog w K mg base CXz 2 (He.fAd K d_bytes_asked.at_) (fdO K d_bytes_asked) ["data"] (spBytes) :=
  T.F_bytes_asked.ok sc_bytes_asked (fun vs H Q E h => by obtain ⟨_, _, rfl, _⟩ := h; rfl) fun cdv A outer st H vs Q E hr h => by
    obtain ⟨l, xs, rfl, hl, hb, q⟩ := h
    refine ⟨_, (pss_one (ps_for PassesOwn.leaving rfl (pi_enum (by rfl) T.n_enumerate (pa_cons (pv 0) pa_nil)) (pg_tup rfl (pgs_cons (pg_name (i := 1) sc_bytes_asked.nd rfl (Or.inl rfl)) (pgs_cons (pg_name (i := 2) sc_bytes_asked.nd rfl (Or.inl rfl)) pgs_nil)))
      (pss_one (ps_if (pt_not (pt_val (pe_call (ok_is_byte T) (hr.mono (by decide)) (by rfl) T.g_is_byte T.F_is_byte.kp T.b_is_byte .nil pz (pa_cons (pv 2) pa_nil)))) (pss_one ps_never) pss_nil)))), ?_⟩
    refine ⟨_, rfl, l, _, rfl, .inl (.inl hl), ?_⟩
    refine ⟨fun i m σ H' => m + i = xs.length ∧ Ex H H' ∧ ∃ a b c, σ = [a, b, c], ⟨xs.length, by omega, fun _ _ e => e, _, _, _, rfl⟩, fun i m σ H' hW => ?_⟩
    obtain ⟨h1, h2, a, b, c, rfl⟩ := hW
    have hl' : SqL K H' l (xs.map V.int) := .inl (.inl (h2 _ _ hl))
    by_cases hi : i < xs.length
    · refine .inr ⟨⟨_, .int xs[i], hl', by rw [List.getElem?_map, List.getElem?_eq_getElem hi]; rfl⟩, fun σ' H'' => ∃ m', m' < m ∧ (m' + (i + 1) = xs.length ∧ Ex H H'' ∧ ∃ a b c, σ' = [a, b, c]), fun _ _ z => z, fun x H2 hy => ?_⟩
      obtain ⟨t, y, rfl, nt, rfl, hx⟩ := hy
      have ey := hx _ hl'
      rw [List.getElem?_map, List.getElem?_eq_getElem hi] at ey
      cases ey
      have hbx := hb xs[i] (List.getElem_mem hi)
      refine ⟨t, _, rfl, .inl (.inl upd_same), rfl, _, _, rfl, _, _, rfl, rfl, ?_⟩
      exact ⟨_, rfl, _, rfl, hbx.1, hbx.2, _, rfl, ifF rfl ⟨m - 1, by omega, by omega, fun _ _ e => Ex.new nt _ _ (h2 _ _ e), _, _, _, rfl⟩⟩
    · exact .inl ⟨⟨_, hl', by rw [List.length_map]; omega⟩, q H' h2⟩
theorem ok_File_shown (T : Txt K mg) : FnOk prog w K mg base CXz 1 (He.fAd K d_File_shown.at_) (fdO K d_File_shown) ["self", "many", "whole"] (spShown K) :=
  T.F_File_shown.ok sc_File_shown (fun vs H Q E h => by obtain ⟨_, _, _, _, _, rfl, _⟩ := h; rfl) fun cdv A outer st H vs Q E hr h => by
    obtain ⟨P, s, i, m, b, rfl, w, q1, q2⟩ := h
    obtain ⟨ah, de, mi, hF, hah, hde, hmi⟩ := w.file i
    refine ⟨_, (pss_cons (ps_set (i := 3) sc_File_shown.nd rfl (Or.inl rfl) (pe_callTy call_list_of (by rfl) T.n_list (by decide +kernel) (pa_cons (pe_fld (pv 0) rfl) pa_nil))) (pss_cons (ps_if (pt_cmpR op_notN (pv 1) pe_non (nomark _)) (pss_one (ps_set (i := 3) sc_File_shown.nd rfl (Or.inl rfl) (pe_slice sl_list (pe_fld (pv 0) rfl) po_none (po_some (pv 1))))) pss_nil) (pss_cons (ps_if (PW.pt (pw_and (pt_cmpR op_eq (pe_callB call_len_seq (by rfl) T.n_len PySem.boot_len (pa_cons (pv 3) pa_nil)) pe_int (nomark _)) (pw_and1 (pt_not (pt_val (pv 2)))))) (pss_one (ps_ret pe_non)) pss_nil) (pss_one (ps_ret (pv 3)))))), ?_⟩
    refine ⟨_, rfl, _, _, _, _, _, rfl, hF, T.cls_File, T.n_File_ahead, fF_ahead, _, _, rfl, .inl hah.sq, fun p hp => ?_⟩
    have w1 := w.new (o := .lst ((s.f i).ah.map V.int)) hp
    obtain ⟨ah1, de1, mi1, hF1, hah1, hde1, hmi1⟩ := w1.file i
    refine ⟨_, rfl, rfl, _, rfl, ifT rfl ⟨_, rfl, _, _, _, _, _, rfl, hF1, T.cls_File, T.n_File_ahead, fF_ahead, _, rfl, _, rfl, _, _, rfl, hah1.sq, fun p2 hp2 => ?_⟩⟩
    rw [cut_to]
    have e2 : Ex H (upd (upd H p (.lst ((s.f i).ah.map V.int))) p2 (.lst (((s.f i).ah.take m).map V.int))) := fun _ _ e => Ex.new hp2 _ _ (Ex.new hp _ _ e)
    have hl2 : Lst P (upd (upd H p (.lst ((s.f i).ah.map V.int))) p2 (.lst (((s.f i).ah.take m).map V.int))) p2 ((s.f i).ah.take m) := lst_new w1 hp2
    refine ⟨_, rfl, _, _, rfl, .inl hl2.sq, rfl, _, rfl, ?_⟩
    rw [map_len]
    by_cases he : (s.f i).ah.take m = []
    · rw [he]
      refine ifT rfl ⟨_, rfl, _, rfl, ?_⟩
      rw [he] at hl2 e2 q1
      cases b with
      | true => exact ifF rfl ⟨_, rfl, q1 (.inr rfl) _ _ e2 hl2⟩
      | false => exact ifT rfl (q2 he rfl _ e2)
    · have hl0 : ((s.f i).ah.take m).length ≠ 0 := fun z => he (List.eq_nil_of_length_eq_zero z)
      refine ifF (decide_eq_false (fun z => by injection z with z; omega)) (ifF rfl ⟨_, rfl, q1 (.inl he) _ _ e2 hl2⟩)
theorem ok_File_gathered (T : Txt K mg) : FnOk prog w K mg base CXz 6 (He.fAd K d_File_gathered.at_) (fdO K d_File_gathered) ["self", "many"] (spGathered K) :=
  T.F_File_gathered.ok sc_File_gathered (fun vs H Q E h => by obtain ⟨_, _, _, _, rfl, _⟩ := h; rfl) fun cdv A outer st H vs Q E hr h => by
    obtain ⟨P, s, i, m, rfl, w, hm, q⟩ := h
    obtain ⟨ah, de, mi, hF, hah, hde, hmi⟩ := w.file i
    refine ⟨_, (pss_cons (ps_while PassesOwn.leaving (PW.pt (pw_or (pt_cmpR op_isN (pv 1) pe_non (nomark _)) (pw_or1 (pt_cmpR op_lt (pe_callB call_len_seq (by rfl) T.n_len PySem.boot_len (pa_cons (pe_fld (pv 0) rfl) pa_nil)) (pv 1) (nomark _))))) pss_never) (pss_one (ps_ret pe_bl))), ?_⟩
    refine ⟨fun _ σ H' => σ = L2.start ["self", "many", "lacking", "came"] [.ref (P.A (.f i)), .int m] ∧ H' = H, ⟨0, rfl, rfl⟩, fun _ σ H' hW => ?_⟩
    obtain ⟨rfl, rfl⟩ := hW
    refine ⟨_, rfl, rfl, _, rfl, ifF rfl ⟨_, rfl, _, _, _, _, _, rfl, hF, T.cls_File, T.n_File_ahead, fF_ahead, _, _, rfl, .inl hah.sq, _, rfl, _, _, rfl, rfl, _, rfl, ifF (decide_eq_false (by rw [map_len]; omega)) q⟩⟩
theorem ok_File_pulled (T : Txt K mg) : FnOk prog w K mg base CXz 2 (He.fAd K d_File_pulled.at_) (fdO K d_File_pulled) ["self", "many", "whole"] (spPulled K) :=
  T.F_File_pulled.ok sc_File_pulled (fun vs H Q E h => by obtain ⟨_, _, _, _, rfl, _⟩ := h; rfl) fun cdv A outer st H vs Q E hr h => by
    obtain ⟨P, s, i, m, rfl, w, hm, q⟩ := h
    obtain ⟨ah, de, mi, hF, hah, hde, hmi⟩ := w.file i
    refine ⟨_, (pss_cons (ps_set (i := 3) sc_File_pulled.nd rfl (Or.inl rfl) (pe_meth (pv 0) T.cls_File T.m_File_shown (ok_File_shown T) (hr.mono (by decide)) T.b_File_shown .nil pz (pa_cons (pv 1) (pa_cons (pv 2) pa_nil)))) (pss_cons (ps_if (pt_cmpR op_notN (pv 3) pe_non (nomark _)) (pss_cons (ps_fld (pv 0) (pe_slice sl_list (pe_fld (pv 0) rfl) (po_some (pe_callB call_len_seq (by rfl) T.n_len PySem.boot_len (pa_cons (pv 3) pa_nil))) po_none) rfl) (pss_one (ps_fld (pv 0) (pe_op op_add (pe_fld (pv 0) rfl) (pe_callB call_len_seq (by rfl) T.n_len PySem.boot_len (pa_cons (pv 3) pa_nil))) rfl))) pss_nil) (pss_one (ps_ret (pv 3))))), ?_⟩
    refine ⟨_, rfl, _, _, _, rfl, hF, fF_no_shown, _, rfl, _, rfl, P, s, i, m, true, rfl, w, fun _ l H1 e1 hl1 => ?_, fun _ z => by cases z⟩
    have w1 := w.ex e1
    obtain ⟨ah1, de1, mi1, hF1, hah1, hde1, hmi1⟩ := w1.file i
    have elen : (((s.f i).ah.take m).map V.int).length = m := by rw [map_len, List.length_take]; omega
    refine ⟨_, rfl, rfl, _, rfl, ifT rfl ⟨_, rfl, _, _, _, _, _, rfl, hF1, T.cls_File, T.n_File_ahead, fF_ahead, _, rfl, _, _, rfl, .inl hl1.sq, _, rfl, _, _, rfl, hah1.sq, fun p hp => ?_⟩⟩
    rw [elen, cut_from]
    have w2 := w1.new (o := .lst (((s.f i).ah.drop m).map V.int)) hp
    have hp2 : Lst P (upd H1 p (.lst (((s.f i).ah.drop m).map V.int))) p ((s.f i).ah.drop m) := lst_new w1 hp
    obtain ⟨ah2, de2, mi2, hF2, hah2, hde2, hmi2⟩ := w2.file i
    refine ⟨_, rfl, _, _, _, _, rfl, hF2, T.cls_File, T.n_File_ahead, Nat.lt_of_le_of_lt (Nat.le_of_eq fF_len) (by decide), ?_⟩
    have w3 := w2.s_ahead hF2 hde2 hmi2 hp2
    obtain ⟨ah3, de3, mi3, hF3, hah3, hde3, hmi3⟩ := w3.file i
    have hl3 := (hl1.keep (Ex.new hp).keep).keep (Only.upd (P := P) (z := .f i) (H := upd H1 p (.lst (((s.f i).ah.drop m).map V.int))) (o := .ins (He.ga K "File") (P.D (.f i)) (putF "ahead" (.ref p) (fF (.ref (P.A (.r i))) (.int (P.room i)) (.bl (rdB i)) (.bl (wrB i)) (.bl (s.f i).po) (.bl (s.f i).lv) (.int (s.f i).cu) (.ref ah2) (.ref de2) (.ref mi2))))).keep
    refine ⟨_, rfl, _, _, _, _, _, rfl, hF3, T.cls_File, T.n_File_cursor, fF_cursor, _, rfl, _, _, rfl, .inl hl3.sq, _, _, rfl, rfl, _, rfl, _, _, _, _, rfl, hF3, T.cls_File, T.n_File_cursor, Nat.lt_of_le_of_lt (Nat.le_of_eq fF_len) (by decide), ?_⟩
    refine ⟨_, rfl, ?_⟩
    refine q l _ ((((e1.keep).trans (Ex.new hp).keep).trans Only.upd.keep).trans Only.upd.keep) ((w3.s_cursor hF3 hah3 hde3 hmi3).cast (WS.eq (fun j => ?_) (fun _ => rfl) (fun _ => rfl) rfl))
    show up (up s.f i _) i _ j = up s.f i _ j
    rw [up_up]
    by_cases hj : j = i
    · subst hj
      rw [up_same, up_same, elen]
      show (⟨(up s.f j _ j).po, (up s.f j _ j).lv, (up s.f j _ j).cu + _, (up s.f j _ j).ah, (up s.f j _ j).de, (up s.f j _ j).mi⟩ : FR) = _
      rw [up_same]
    · rw [up_ne hj, up_ne hj]
theorem ok_File_hand_on0 (T : Txt K mg) : FnOk prog w K mg base CXz 5 (He.fAd K d_File_hand_on.at_) (fdO K d_File_hand_on) ["self"] (spHandOn0 K) :=
  T.F_File_hand_on.ok sc_File_hand_on (fun vs H Q E h => by obtain ⟨_, _, _, rfl, _⟩ := h; rfl) fun cdv A outer st H vs Q E hr h => by
    obtain ⟨P, s, i, rfl, w, hd, q⟩ := h
    obtain ⟨ah, de, mi, hF, hah, hde, hmi⟩ := w.file i
    refine ⟨_, (pss_one (ps_while PassesOwn.leaving (pt_cmpR op_gt (pe_callB call_len_seq (by rfl) T.n_len PySem.boot_len (pa_cons (pe_fld (pv 0) rfl) pa_nil)) pe_int (nomark _)) pss_never)), ?_⟩
    refine ⟨fun _ σ H' => σ = L2.start ["self", "many"] [.ref (P.A (.f i))] ∧ H' = H, ⟨0, rfl, rfl⟩, fun _ σ H' hW => ?_⟩
    obtain ⟨rfl, rfl⟩ := hW
    exact ⟨_, rfl, _, _, _, _, _, rfl, hF, T.cls_File, T.n_File_delayed, fF_delayed, _, _, rfl, .inl hde.sq, _, _, rfl, rfl, _, rfl, ifF (decide_eq_false (by rw [map_len, hd]; decide)) q⟩
theorem ok_File_read (T : Txt K mg) : FnOk prog w K mg base CXz 7 (He.fAd K d_File_read.at_) (fdO K d_File_read) ["self", "many"] (spRead K) :=
  T.F_File_read.ok sc_File_read (fun vs H Q E h => by obtain ⟨_, _, _, _, rfl, _⟩ := h; rfl) fun cdv A outer st H vs Q E hr h => by
    obtain ⟨P, z, i, m, rfl, w, lv, rd, hm, hc, hN, hlo, q⟩ := h
    obtain ⟨ah, de, mi, hF, hah, hde, hmi⟩ := w.file i
    refine ⟨_, (pss_cons (ps_expr (pe_meth (pv 0) T.cls_File T.m_File_readable (ok_File_readable T) (hr.mono (by decide)) T.b_File_readable .nil pz (pa_cons (pv 1) pa_nil))) (pss_cons (ps_if (pt_cmpR op_eq (pv 1) pe_int (nomark _)) (pss_one (ps_ret (pe_lst pa_nil))) pss_nil) (pss_cons (ps_expr (pe_meth0 (pv 0) T.cls_File T.m_File_hand_on (ok_File_hand_on0 T) (hr.mono (by decide)) T.b_File_hand_on .nil pz)) (pss_cons (ps_set (i := 2) sc_File_read.nd rfl (Or.inl rfl) (pe_meth (pv 0) T.cls_File T.m_File_gathered (ok_File_gathered T) (hr.mono (by decide)) T.b_File_gathered .nil pz (pa_cons (pv 1) pa_nil))) (pss_one (ps_ret (pe_meth (pv 0) T.cls_File T.m_File_pulled (ok_File_pulled T) (hr.mono (by decide)) T.b_File_pulled .nil pz (pa_cons (pv 1) (pa_cons (pv 2) pa_nil))))))))), ?_⟩
    refine ⟨_, rfl, _, _, _, rfl, hF, fF_no_readable, _, rfl, P, _, i, _, rfl, w, lv, rd, by omega, ?_⟩
    refine ⟨_, rfl, rfl, _, rfl, ifF (decide_eq_false (fun z => by injection z with z; omega)) ?_⟩
    have hde0 : ((toWS P z).f i).de = [] := by
      show seg P.row (z.lo i) (z.c i) = []
      rw [hlo, seg_self]
    have hal : m ≤ ((toWS P z).f i).ah.length := by
      show m ≤ (seg P.row (z.c i) (z.hi i)).length
      rw [seg_len hN]
      omega
    refine ⟨_, rfl, _, _, _, rfl, hF, fF_no_hand_on, P, _, i, rfl, w, hde0, ?_⟩
    refine ⟨_, rfl, _, _, _, rfl, hF, fF_no_gathered, _, rfl, P, _, i, m, rfl, w, hal, ?_⟩
    refine ⟨_, rfl, _, _, _, rfl, hF, fF_no_pulled, _, rfl, _, rfl, P, _, i, m, rfl, w, hal, fun l H1 k1 w1 => ?_⟩
    refine q l H1 k1 (w1.cast (WS.eq (fun j => ?_) (fun _ => rfl) (fun _ => rfl) rfl))
    by_cases hj : j = i
    · subst hj
      show up _ j _ j = (⟨_, _, ((up z.c j _ j : Nat) : Int), seg P.row (up z.c j _ j) (z.hi j), seg P.row (up z.lo j _ j) (up z.c j _ j), []⟩ : FR)
      rw [up_same, up_same, up_same, seg_self]
      show (⟨_, _, ((z.c j : Nat) : Int) + (m : Int), (seg P.row (z.c j) (z.hi j)).drop m, seg P.row (z.lo j) (z.c j), []⟩ : FR) = _
      rw [seg_drop, hlo, seg_self]
      congr 1
    · show up _ i _ j = (⟨_, _, ((up z.c i _ j : Nat) : Int), seg P.row (up z.c i _ j) (z.hi j), seg P.row (up z.lo i _ j) (up z.c i _ j), []⟩ : FR)
      rw [up_ne hj, up_ne hj, up_ne hj]
      rfl
end
end Sip

set_option Elab.async false
set_option linter.all false
set_option maxRecDepth 100000
set_option maxHeartbeats 4000000
noncomputable section
namespace Sip
open PySem PySem.Spec PyProof.Rows L2 SipX L2H HotX
/-! ### files: what asks the raw -/
def Z.mv (z : Z) (i : Ix) (m : Nat) (ns : NR) : Z := { z with lo := up z.lo i m, sp := up z.sp i m, n := up z.n i ns }
def Z.fet (z : Z) (i : Ix) (m : Nat) (ns : NR) : Z := { z with hi := up z.hi i m, sp := up z.sp i m, n := up z.n i ns }
structure Tg (P : Pm) (z : Z) (i : Ix) : Prop where
  sp : z.sp i = z.lo i
  lo : z.lo i ≤ z.c i
  c : z.c i ≤ P.row.length
  n : (z.n i).length ≤ 7000000
  w : i = .wi → z.lv = true ∧ z.sp .ro ≤ z.sp .wi ∧ (z.sp .wi : Int) - z.sp .ro ≤ P.proom
structure Sr (P : Pm) (z : Z) (i : Ix) : Prop where
  lo : z.lo i = z.c i
  sp : z.sp i = z.hi i
  c : z.c i ≤ z.hi i
  hi : z.hi i ≤ P.row.length
  n : (z.n i).length ≤ 7000000
  r : i = .ro → z.sp .ro ≤ z.sp .wi ∧ z.sp .wi ≤ P.row.length
def EndC (P : Pm) (z : Z) (i : Ix) : Prop := (i = .fr → z.sp .fr = P.row.length) ∧ (i = .ro → z.lv = false ∧ z.sp .ro = z.sp .wi)
def StC (P : Pm) (z : Z) (i : Ix) : Prop := (i = .fr → (z.n i).length < (P.plan i).length) ∧ (i = .ro → z.lv = true ∧ z.sp .ro = z.sp .wi)
/-- a target's stop at m -/
structure Sto (P : Pm) (z : Z) (i : Ix) (m : Nat) (ns : NR) : Prop where
  lo : z.lo i ≤ m
  c : m < z.c i
  n1 : (z.n i).length < ns.length
  n2 : ns.length ≤ (z.n i).length + (m - z.lo i) + 1
  w : i = .wi → (m : Int) - z.sp .ro = P.proom
  t : i = .to → (z.n i).length < (P.plan i).length
def spHandOn (K : PySem.W.Frag) (i : Ix) : Sp := fun vs H Q E => ∃ (P : Pm) (z : Z), vs = [.ref (P.A (.f i))] ∧ W P K H (toWS P z) ∧ Tg P z i ∧
  (∀ ns H', (z.n i).length ≤ ns.length → ns.length ≤ (z.n i).length + (z.c i - z.lo i) → (i = .wi → (z.c i : Int) - z.sp .ro ≤ P.proom) → Keep P H H' → W P K H' (toWS P (z.mv i (z.c i) ns)) → Q .non H') ∧
  (∀ m ns H' d, Sto P z i m ns → Keep P H H' → W P K H' (toWS P (z.mv i m ns)) → H' d = some (.xd [("taken", .int 0)]) → E (.ref (He.ga K "Stalled")) (some d) H') ∧
  ∀ m ns H' d x, i = .to → Sto P z i m ns → 1 ≤ x → Keep P H H' → W P K H' (toWS P (z.mv i m ns)) → H' d = some (.xd [("taken", .int 0), ("number", .int x)]) → E (.ref (He.ga K "Fault")) (some d) H'
def spFetched (K : PySem.W.Frag) (i : Ix) : Sp := fun vs H Q E => ∃ (P : Pm) (z : Z) (many : Nat), vs = [.ref (P.A (.f i)), .int many] ∧ many ≤ 64 ∧ W P K H (toWS P z) ∧ Sr P z i ∧
  (∀ m l H', z.hi i ≤ m → m ≤ P.row.length → (i = .ro → m ≤ z.sp .wi) → (m = z.hi i → EndC P z i) → Keep P H H' → W P K H' (toWS P (z.fet i m (z.n i ++ [some (seg P.row (z.hi i) m)]))) → Q (.ref l) H') ∧
  (∀ H', StC P z i → Keep P H H' → W P K H' (toWS P (z.fet i (z.hi i) (z.n i ++ [none]))) → Q .non H') ∧
  ∀ H' d x, i = .fr → StC P z i → 1 ≤ x → Keep P H H' → W P K H' (toWS P (z.fet i (z.hi i) (z.n i ++ [none]))) → H' d = some (.xd [("taken", .int 0), ("number", .int x)]) → E (.ref (He.ga K "Fault")) (some d) H'
def spSome (K : PySem.W.Frag) (i : Ix) : Sp := fun vs H Q E => ∃ (P : Pm) (z : Z) (many : Nat), vs = [.ref (P.A (.f i)), .int many] ∧ many ≤ 64 ∧ W P K H (toWS P z) ∧ Sr P z i ∧
  (z.c i < z.hi i → Q (.bl true) H) ∧
  (∀ m H', z.c i = z.hi i → z.hi i ≤ m → m ≤ P.row.length → (i = .ro → m ≤ z.sp .wi) → (m = z.hi i → EndC P z i) → Keep P H H' → W P K H' (toWS P (z.fet i m (z.n i ++ [some (seg P.row (z.hi i) m)]))) → Q (.bl true) H') ∧
  (∀ H', z.c i = z.hi i → StC P z i → Keep P H H' → W P K H' (toWS P (z.fet i (z.hi i) (z.n i ++ [none]))) → Q (.bl false) H') ∧
  ∀ H' d x, i = .fr → StC P z i → 1 ≤ x → Keep P H H' → W P K H' (toWS P (z.fet i (z.hi i) (z.n i ++ [none]))) → H' d = some (.xd [("taken", .int 0), ("number", .int x)]) → E (.ref (He.ga K "Fault")) (some d) H'
/-- what a peek brings: the known bytes' end is m, the notes are ns -/
structure Got (P : Pm) (z : Z) (i : Ix) (m : Nat) (ns : NR) : Prop where
  lo : z.hi i ≤ m
  N : m ≤ P.row.length
  r : i = .ro → m ≤ z.sp .wi
  e : m = z.c i → EndC P z i
  n1 : (z.n i).length ≤ ns.length
  n2 : ns.length ≤ (z.n i).length + 1
  cat : cat ns = cat (z.n i) ++ seg P.row (z.hi i) m
def spPeek (K : PySem.W.Frag) (i : Ix) : Sp := fun vs H Q E => ∃ (P : Pm) (z : Z) (many : Nat), vs = [.ref (P.A (.f i)), .int many] ∧ 1 ≤ many ∧ many ≤ 64 ∧ W P K H (toWS P z) ∧ Sr P z i ∧ lvI z.lv i = true ∧
  (∀ m ns l H', Got P z i m ns → Keep P H H' → W P K H' (toWS P (z.fet i m ns)) → Lst P H' l (seg P.row (z.c i) (min (z.c i + many) m)) → Q (.ref l) H') ∧
  (∀ H', z.c i = z.hi i → StC P z i → Keep P H H' → W P K H' (toWS P (z.fet i (z.hi i) (z.n i ++ [none]))) → Q .non H') ∧
  ∀ H' d x, i = .fr → StC P z i → 1 ≤ x → Keep P H H' → W P K H' (toWS P (z.fet i (z.hi i) (z.n i ++ [none]))) → H' d = some (.xd [("taken", .int 0), ("number", .int x)]) → E (.ref (He.ga K "Fault")) (some d) H'
def aPut (K : PySem.W.Frag) : Ix → Addr | .wi => He.fAd K d_Mouth_put.at_ | _ => He.fAd K d_Device_put.at_
def fdPut (K : PySem.W.Frag) : Ix → FuncData | .wi => fdO K d_Mouth_put | _ => fdO K d_Device_put
def aTake (K : PySem.W.Frag) : Ix → Addr | .ro => He.fAd K d_Drain_take.at_ | _ => He.fAd K d_Device_take.at_
def fdTake (K : PySem.W.Frag) : Ix → FuncData | .ro => fdO K d_Drain_take | _ => fdO K d_Device_take
theorem mv_ro {z : Z} {m : Nat} {ns : NR} : (z.mv .wi m ns).sp .ro = z.sp .ro := by
  show up z.sp .wi m .ro = _
  exact up_ne (by decide)
theorem mv_self {z : Z} {i : Ix} (h : z.sp i = z.lo i) : z.mv i (z.lo i) (z.n i) = z := by
  obtain ⟨a, b, c, d, e, f, g⟩ := z
  unfold Z.mv
  simp only at h ⊢
  rw [up_self, up_self, ← h, up_self]
theorem fet_self {z : Z} {i : Ix} (h : z.sp i = z.hi i) : z.fet i (z.hi i) (z.n i) = z := by
  obtain ⟨a, b, c, d, e, f, g⟩ := z
  unfold Z.fet
  simp only at h ⊢
  rw [up_self, up_self, ← h, up_self]
section
variable {prog : Program} {w : World} {base : Heap} {K : PySem.W.Frag} {mg : Str → Option Value}
theorem okR_put (T : Txt K mg) (i : Ix) (hi : isT i = true) : FnOk prog w K mg base (L2N.CX prog w) 4 (aPut K i) (fdPut K i) ["self", "data"] (spPut K i) := by
  cases i
  · cases hi
  · exact ok_Mouth_put T
  · cases hi
  · exact ok_Device_put T
theorem okR_take (T : Txt K mg) (i : Ix) (hi : isT i = false) : FnOk prog w K mg base (L2N.CX prog w) 4 (aTake K i) (fdTake K i) ["self", "many"] (spTake K i) := by
  cases i
  · exact ok_Device_take T
  · cases hi
  · exact ok_Drain_take T
  · cases hi
theorem Txt.mR_put (T : Txt K mg) (i : Ix) (hi : isT i = true) : Meth K (rC K i) "put" (aPut K i) := by
  cases i
  · cases hi
  · exact T.m_Mouth_put
  · cases hi
  · exact T.m_Device_put
theorem Txt.mR_take (T : Txt K mg) (i : Ix) (hi : isT i = false) : Meth K (rC K i) "take" (aTake K i) := by
  cases i
  · exact T.m_Device_take
  · cases hi
  · exact T.m_Drain_take
  · cases hi
theorem Txt.bR_put (T : Txt K mg) (i : Ix) (hi : isT i = true) : Binds K (fdPut K i) ["self", "data"] [] := by
  cases i
  · cases hi
  · exact T.b_Mouth_put
  · cases hi
  · exact T.b_Device_put
theorem Txt.bR_take (T : Txt K mg) (i : Ix) (hi : isT i = false) : Binds K (fdTake K i) ["self", "many"] [] := by
  cases i
  · exact T.b_Device_take
  · cases hi
  · exact T.b_Drain_take
  · cases hi
theorem Txt.bS (T : Txt K mg) : ∃ ds, Vals [.int 0] ds ∧ Binds K (fdO K d_Stalled___init__) ["self", "taken"] ds := T.F_Stalled___init__.binds0 1 (fun z => by cases (show [(("taken" : Str), V.int 0)] = [] from z)) rfl fun D doc pm an cdv ct us ks hu hk => by
  match us, hu, ks, hk with
  | [_], _, [_], _ => exact ⟨_, _, _, _, _, _, rfl, rfl, rfl⟩
theorem ok_File_hand_on (T : Txt K mg) (i : Ix) (hi : isT i = true) : FnOk prog w K mg base (L2N.CX prog w) 5 (He.fAd K d_File_hand_on.at_) (fdO K d_File_hand_on) ["self"] (spHandOn K i) :=
  T.F_File_hand_on.ok sc_File_hand_on (fun vs H Q E h => by obtain ⟨_, _, rfl, _⟩ := h; rfl) fun cdv A outer st H vs Q E hr h => by
    obtain ⟨P, z, rfl, w, tg, qV, qN, qX⟩ := h
    obtain ⟨dsS, vdS, bS⟩ := T.bS
    refine ⟨_, (pss_one (ps_while PassesOwn.leaving (pt_cmpR op_gt (pe_callB call_len_seq (by rfl) T.n_len PySem.boot_len (pa_cons (pe_fld (pv 0) rfl) pa_nil)) pe_int (nomark _)) (pss_cons (ps_expr (pe_meth (pv 0) T.cls_File T.m_File_lead (ok_File_lead T) (hr.mono (by decide)) T.b_File_lead .nil pz (pa_cons (pe_op op_sub (pe_fld (pv 0) rfl) (pe_callB call_len_seq (by rfl) T.n_len PySem.boot_len (pa_cons (pe_fld (pv 0) rfl) pa_nil))) pa_nil))) (pss_cons (ps_set (i := 1) sc_File_hand_on.nd rfl (Or.inl rfl) (pe_meth (pe_fld (pv 0) rfl) (T.clsR i) (T.mR_put i hi) (okR_put T i hi) (hr.mono (by decide)) (T.bR_put i hi) .nil (L2N.passes_call (L2N.takes_of rfl rfl rfl rfl) (fun _ _ _ _ h => h)) (pa_cons (pe_fld (pv 0) rfl) pa_nil))) (pss_cons (ps_if (pt_cmpR op_isN (pv 1) pe_non (nomark _)) (pss_one (L2N.ps_raise rfl (L2N.takes_of rfl rfl rfl rfl) (PMk5.pmk (pmk_none T.o_Stalled T.ii_Stalled.1 T.ii_Stalled.2 (ok_Stalled___init__ T) (hr.mono (by decide)) bS vdS pz (by rfl) T.g_Stalled rfl)))) pss_nil) (pss_one (ps_fld (pv 0) (pe_slice sl_list (pe_fld (pv 0) rfl) (po_some (pv 1)) po_none) rfl))))))), ?_⟩
    refine ⟨fun mes σ H1 => ∃ m ns b, σ = [some (.ref (P.A (.f i))), b] ∧ W P K H1 (toWS P (z.mv i m ns)) ∧ Keep P H H1 ∧ z.lo i ≤ m ∧ m ≤ z.c i ∧ mes = z.c i - m ∧ (z.n i).length ≤ ns.length ∧ ns.length ≤ (z.n i).length + (m - z.lo i) ∧ (i = .wi → (m : Int) - z.sp .ro ≤ P.proom),
      ⟨z.c i - z.lo i, z.lo i, z.n i, none, rfl, by rw [mv_self tg.sp]; exact w, Keep.refl, Nat.le_refl _, tg.lo, rfl, Nat.le_refl _, by omega, fun e => ?_⟩, fun mes σ H1 hW => ?_⟩
    · subst e
      have := (tg.w rfl).2.2
      rw [tg.sp] at this
      exact this
    obtain ⟨m, ns, b, rfl, w1, k1, hm1, hm2, rfl, hn1, hn2, hp⟩ := hW
    have hN := P.hN
    have hcN := tg.c
    have hn7 := tg.n
    obtain ⟨ah, de, mi, hF, hah, hde, hmi⟩ := w1.file i
    obtain ⟨fs, hR, l1, l2, l3, l4, l5, l6, l7, l8⟩ := w1.rget i
    have eDe : ((toWS P (z.mv i m ns)).f i).de = seg P.row m (z.c i) := by
      show seg P.row (up z.lo i m i) (z.c i) = _
      rw [up_same]
    have eSp : (z.mv i m ns).sp i = m := up_same
    have eNs : (z.mv i m ns).n i = ns := up_same
    have eSeg : (seg P.row m (z.c i)).length = z.c i - m := seg_len hcN
    rw [eDe] at hde
    refine ⟨_, rfl, _, _, _, _, _, rfl, hF, T.cls_File, T.n_File_delayed, fF_delayed, _, _, rfl, .inl hde.sq, _, _, rfl, rfl, _, rfl, ite2 (fun e => ?_) fun e => ?_⟩
    · have e1 := of_decide_eq_true e
      rw [map_len, eSeg] at e1
      refine ⟨fun σ' H' => ∃ m', m' < z.c i - m ∧ (∃ m ns b, σ' = [some (.ref (P.A (.f i))), b] ∧ W P K H' (toWS P (z.mv i m ns)) ∧ Keep P H H' ∧ z.lo i ≤ m ∧ m ≤ z.c i ∧ m' = z.c i - m ∧ (z.n i).length ≤ ns.length ∧ ns.length ≤ (z.n i).length + (m - z.lo i) ∧ (i = .wi → (m : Int) - z.sp .ro ≤ P.proom)), fun _ _ h => h, ?_⟩
      refine ⟨_, rfl, _, _, _, rfl, hF, fF_no_lead, _, rfl, _, _, _, _, _, rfl, hF, T.cls_File, T.n_File_cursor, fF_cursor, _, rfl, _, _, _, _, _, rfl, hF, T.cls_File, T.n_File_delayed, fF_delayed, _, _, rfl, .inl hde.sq, _, _, rfl, rfl, P, _, i, _, rfl, w1, fun _ => ?_, ?_⟩
      · show ((z.c i : Nat) : Int) - _ = (((z.mv i m ns).sp i : Nat) : Int)
        rw [map_len, eSeg, eSp]
        omega
      refine ⟨_, rfl, _, _, _, _, _, rfl, hF, T.cls_File, T.n_File_raw, fF_raw, _, _, _, rfl, hR, l7, _, rfl, _, _, _, _, _, rfl, hF, T.cls_File, T.n_File_delayed, fF_delayed, P, z.mv i m ns, _, z.c i, rfl, w1, by rw [eSp]; exact hde, by rw [eSp]; omega, hcN, by rw [eNs]; omega, fun ew => ?_, fun m' H2 hm' hm'' hpp k2 w2 => ?_, fun H2 ht hw k2 w2 => ?_, fun H2 d x et hlt hx k2 w2 hd => ?_⟩
      · subst ew
        obtain ⟨q1, q2, q3⟩ := tg.w rfl
        have e2 : (z.mv .wi m ns).sp .ro = z.sp .ro := mv_ro
        rw [e2, eSp]
        have := tg.sp
        exact ⟨q1, by omega, hp rfl⟩
      · rw [eSp] at hm'
        refine ⟨_, rfl, rfl, _, rfl, ifF rfl ?_⟩
        obtain ⟨ah2, de2, mi2, hF2, hah2, hde2, hmi2⟩ := w2.file i
        have eDe2 : ((toWS P ((z.mv i m ns).ask i m' ((z.mv i m ns).n i ++ [none]))).f i).de = seg P.row m (z.c i) := eDe
        rw [eDe2] at hde2
        rw [eSp]
        refine ⟨_, rfl, _, _, _, _, _, rfl, hF2, T.cls_File, T.n_File_delayed, fF_delayed, _, rfl, _, rfl, _, _, rfl, hde2.sq, fun p hp2 => ?_⟩
        rw [cut_from, seg_drop, show m + (m' - m) = m' by omega]
        have w3 := w2.new (o := .lst ((seg P.row m' (z.c i)).map V.int)) hp2
        have hl3 : Lst P (upd H2 p (.lst ((seg P.row m' (z.c i)).map V.int))) p (seg P.row m' (z.c i)) := lst_new w2 hp2
        obtain ⟨ah3, de3, mi3, hF3, hah3, hde3, hmi3⟩ := w3.file i
        refine ⟨_, rfl, _, _, _, _, rfl, hF3, T.cls_File, T.n_File_delayed, Nat.lt_of_le_of_lt (Nat.le_of_eq fF_len) (by decide), ?_⟩
        refine ⟨z.c i - m', by omega, m', ns ++ [none], _, rfl, (w3.s_delayed hF3 hah3 hmi3 hl3).cast (WS.eq (fun j => ?_) (fun j => ?_) (fun j => ?_) ?_), ((k1.trans k2).trans (Ex.new hp2).keep).trans Only.upd.keep, by omega, hm'', rfl, by rw [List.length_append]; omega, by rw [List.length_append, List.length_singleton]; omega, fun ew => ?_⟩
        · by_cases hj : j = i
          · subst hj
            show up _ j _ j = (⟨z.po j, lvI z.lv j, (z.c j : Nat), seg P.row (z.c j) (z.hi j), seg P.row (up z.lo j m' j) (z.c j), []⟩ : FR)
            rw [up_same, up_same]
            rfl
          · show up _ i _ j = (⟨z.po j, lvI z.lv j, (z.c j : Nat), seg P.row (z.c j) (z.hi j), seg P.row (up z.lo i m' j) (z.c j), []⟩ : FR)
            rw [up_ne hj, up_ne hj]
            show (⟨z.po j, lvI z.lv j, (z.c j : Nat), seg P.row (z.c j) (z.hi j), seg P.row (up z.lo i m j) (z.c j), []⟩ : FR) = _
            rw [up_ne hj]
        · show (⟨lvI z.lv j, ((up (up z.sp i m) i m' j : Nat) : Int), stk P (up (up z.sp i m) i m' j) j⟩ : RR) = ⟨lvI z.lv j, ((up z.sp i m' j : Nat) : Int), stk P (up z.sp i m' j) j⟩
          rw [up_up]
        · show up (up z.n i ns) i (up z.n i ns i ++ [none]) j = up z.n i (ns ++ [none]) j
          rw [up_up, up_same]
        · show seg P.row (up (up z.sp i m) i m' .ro) (up (up z.sp i m) i m' .wi) = seg P.row (up z.sp i m' .ro) (up z.sp i m' .wi)
          rw [up_up]
        · subst ew
          have := hpp rfl
          have e2 : (z.mv .wi m ns).sp .ro = z.sp .ro := mv_ro
          rw [e2] at this
          exact this
      · have e9 : (z.mv i m ns).ask i ((z.mv i m ns).sp i) ((z.mv i m ns).n i ++ [none]) = z.mv i m (ns ++ [none]) := by
          rw [eSp, eNs]
          unfold Z.ask Z.mv
          simp only [up_up]
        rw [e9] at w2
        have sto : Sto P z i m (ns ++ [none]) := ⟨hm1, by omega, by rw [List.length_append, List.length_singleton]; omega, by rw [List.length_append, List.length_singleton]; omega, (fun ew => by subst ew; have := hw rfl; rw [mv_ro, eSp] at this; exact this), (fun et => by have := ht et; rw [eNs] at this; omega)⟩
        refine ⟨_, rfl, rfl, _, rfl, ifT rfl fun a na => spStalled_q (fun d Hx nd ex hd => ?_) na⟩
        exact qN m _ Hx d sto ((k1.trans k2).trans ex.keep) (w2.ex ex) hd
      · have e9 : (z.mv i m ns).ask i ((z.mv i m ns).sp i) ((z.mv i m ns).n i ++ [none]) = z.mv i m (ns ++ [none]) := by
          rw [eSp, eNs]
          unfold Z.ask Z.mv
          simp only [up_up]
        rw [e9] at w2
        have sto : Sto P z i m (ns ++ [none]) := ⟨hm1, by omega, by rw [List.length_append, List.length_singleton]; omega, by rw [List.length_append, List.length_singleton]; omega, (fun ew => by rw [ew] at et; cases et), (fun et => by have := hlt; rw [eNs] at this; omega)⟩
        exact qX m _ H2 d x et sto hx (k1.trans k2) w2 hd
    · have e1 : ¬ (0 < (z.c i : Int) - m) := by
        intro z1
        exact e (decide_eq_true (by rw [map_len, eSeg]; omega))
      have e2 : m = z.c i := by omega
      subst e2
      exact qV ns H1 hn1 hn2 hp k1 w1
theorem isT_rd {i : Ix} (h : isT i = false) : rdB i = true := by cases i <;> first | rfl | cases h
theorem ok_File_fetched (T : Txt K mg) (i : Ix) (hi : isT i = false) : FnOk prog w K mg base (L2N.CX prog w) 5 (He.fAd K d_File_fetched.at_) (fdO K d_File_fetched) ["self", "many"] (spFetched K i) :=
  T.F_File_fetched.ok sc_File_fetched (fun vs H Q E h => by obtain ⟨_, _, _, rfl, _⟩ := h; rfl) fun cdv A outer st H vs Q E hr h => by
    obtain ⟨P, z, many, rfl, hmany, w, sr, qV, qN, qX⟩ := h
    have hN := P.hN
    have hro := P.hroom i
    have h1 := sr.c
    have h2 := sr.hi
    have hn7 := sr.n
    obtain ⟨ah, de, mi, hF, hah, hde, hmi⟩ := w.file i
    obtain ⟨fs, hR, l1, l2, l3, l4, l5, l6, l7, l8⟩ := w.rget i
    have eSeg : (((toWS P z).f i).ah.map V.int).length = z.hi i - z.c i := by
      rw [map_len]
      exact seg_len h2
    refine ⟨_, (pss_cons (ps_expr (pe_meth (pv 0) T.cls_File T.m_File_lead (ok_File_lead T) (hr.mono (by decide)) T.b_File_lead .nil pz (pa_cons (pe_op op_add (pe_fld (pv 0) rfl) (pe_callB call_len_seq (by rfl) T.n_len PySem.boot_len (pa_cons (pe_fld (pv 0) rfl) pa_nil))) pa_nil))) (pss_cons (ps_set (i := 2) sc_File_fetched.nd rfl (Or.inl rfl) (pe_meth (pe_fld (pv 0) rfl) (T.clsR i) (T.mR_take i hi) (okR_take T i hi) (hr.mono (by decide)) (T.bR_take i hi) .nil (L2N.passes_call (L2N.takes_of rfl rfl rfl rfl) (fun _ _ _ _ h => h)) (pa_cons (pe_callB (call_max2 rfl) (by rfl) T.n_max (by decide +kernel) (pa_cons (pv 1) (pa_cons (pe_fld (pv 0) rfl) pa_nil))) pa_nil))) (pss_cons (ps_if (pt_cmpR op_notN (pv 2) pe_non (nomark _)) (pss_one (ps_fld (pv 0) (pe_op op_cat (pe_fld (pv 0) rfl) (pv 2)) rfl)) pss_nil) (pss_one (ps_ret (pv 2)))))), ?_⟩
    refine ⟨_, rfl, _, _, _, rfl, hF, fF_no_lead, _, rfl, _, _, _, _, _, rfl, hF, T.cls_File, T.n_File_cursor, fF_cursor, _, rfl, _, _, _, _, _, rfl, hF, T.cls_File, T.n_File_ahead, fF_ahead, _, _, rfl, .inl hah.sq, _, _, rfl, rfl, P, _, i, _, rfl, w, fun _ => ?_, ?_⟩
    · show ((z.c i : Nat) : Int) + _ = ((z.sp i : Nat) : Int)
      rw [eSeg, sr.sp]
      omega
    have e9 : ∀ m ns, z.ask i m ns = { z with sp := up z.sp i m, n := up z.n i ns } := fun _ _ => rfl
    have e8 : ∀ ns, z.ask i (z.sp i) ns = z.fet i (z.hi i) ns := fun ns => by
      have a1 : up z.hi i (z.hi i) = z.hi := up_self
      have a2 : up z.sp i (z.hi i) = up z.sp i (z.sp i) := by rw [sr.sp]
      unfold Z.ask Z.fet
      rw [a1, a2]
    refine ⟨_, rfl, _, _, _, _, _, rfl, hF, T.cls_File, T.n_File_raw, fF_raw, _, _, _, rfl, hR, l6, _, rfl, _, rfl, _, _, _, _, _, rfl, hF, T.cls_File, T.n_File_room, fF_room, _, _, rfl, P, z, _, rfl, ?_, ?_, w, by rw [sr.sp]; exact h2, by omega, sr.r, fun m l H1 hm hmN hrw hend k1 hl w1 => ?_, fun H1 ht hw k1 w1 => ?_, fun H1 d x et hlt hx k1 w1 hd => ?_⟩
    · split <;> omega
    · split <;> omega
    · rw [sr.sp] at hm hend hl w1
      refine ⟨_, rfl, rfl, _, rfl, ifT rfl ?_⟩
      obtain ⟨ah1, de1, mi1, hF1, hah1, hde1, hmi1⟩ := w1.file i
      have hah1' : Lst P H1 ah1 (seg P.row (z.c i) (z.hi i)) := hah1
      refine ⟨_, rfl, _, _, _, _, _, rfl, hF1, T.cls_File, T.n_File_ahead, fF_ahead, _, rfl, _, _, _, _, rfl, rfl, hah1'.1, hl.1, sz1 (by rw [map_len, map_len, seg_len h2, seg_len hmN]; omega), fun p hp => ?_⟩
      rw [cat_map, seg_app h1 hm hmN]
      have w2 := w1.new (o := .lst ((seg P.row (z.c i) m).map V.int)) hp
      have hl2 : Lst P (upd H1 p (.lst ((seg P.row (z.c i) m).map V.int))) p (seg P.row (z.c i) m) := lst_new w1 hp
      obtain ⟨ah2, de2, mi2, hF2, hah2, hde2, hmi2⟩ := w2.file i
      refine ⟨_, rfl, _, _, _, _, rfl, hF2, T.cls_File, T.n_File_ahead, Nat.lt_of_le_of_lt (Nat.le_of_eq fF_len) (by decide), ?_⟩
      refine ⟨_, rfl, qV m l _ hm hmN hrw hend ((k1.trans (Ex.new hp).keep).trans Only.upd.keep) ((w2.s_ahead hF2 hde2 hmi2 hl2).cast (WS.eq (fun j => ?_) (fun _ => rfl) (fun _ => rfl) rfl))⟩
      by_cases hj : j = i
      · subst hj
        show up _ j _ j = (⟨z.po j, lvI z.lv j, (z.c j : Nat), seg P.row (z.c j) (up z.hi j m j), seg P.row (z.lo j) (z.c j), []⟩ : FR)
        rw [up_same, up_same]
        rfl
      · show up _ i _ j = (⟨z.po j, lvI z.lv j, (z.c j : Nat), seg P.row (z.c j) (up z.hi i m j), seg P.row (z.lo j) (z.c j), []⟩ : FR)
        rw [up_ne hj, up_ne hj]
        rfl
    · rw [e8] at w1
      exact ⟨_, rfl, rfl, _, rfl, ifF rfl ⟨_, rfl, qN H1 ⟨ht, hw⟩ k1 w1⟩⟩
    · rw [e8] at w1
      exact qX H1 d x et ⟨fun _ => hlt, fun e => by rw [e] at et; cases et⟩ hx k1 w1 hd
theorem ok_File_some (T : Txt K mg) (i : Ix) (hi : isT i = false) : FnOk prog w K mg base (L2N.CX prog w) 6 (He.fAd K d_File_some.at_) (fdO K d_File_some) ["self", "many"] (spSome K i) :=
  T.F_File_some.ok sc_File_some (fun vs H Q E h => by obtain ⟨_, _, _, rfl, _⟩ := h; rfl) fun cdv A outer st H vs Q E hr h => by
    obtain ⟨P, z, many, rfl, hmany, w, sr, qA, qV, qN, qX⟩ := h
    have h1 := sr.c
    have h2 := sr.hi
    obtain ⟨ah, de, mi, hF, hah, hde, hmi⟩ := w.file i
    have hde0 : ((toWS P z).f i).de = [] := by
      show seg P.row (z.lo i) (z.c i) = []
      rw [sr.lo, seg_self]
    have eSeg : (((toWS P z).f i).ah.map V.int).length = z.hi i - z.c i := by
      rw [map_len]
      exact seg_len h2
    refine ⟨_, (pss_cons (ps_expr (pe_meth0 (pv 0) T.cls_File T.m_File_hand_on (ok_File_hand_on0 T) (hr.mono (by decide)) T.b_File_hand_on .nil pz)) (pss_cons (ps_if (pt_cmpR op_gt (pe_callB call_len_seq (by rfl) T.n_len PySem.boot_len (pa_cons (pe_fld (pv 0) rfl) pa_nil)) pe_int (nomark _)) (pss_one (ps_ret pe_bl)) pss_nil) (pss_one (ps_ret (pe_cmpR op_notN (pe_meth (pv 0) T.cls_File T.m_File_fetched (ok_File_fetched T i hi) (hr.mono (by decide)) T.b_File_fetched .nil (L2N.passes_call (L2N.takes_of rfl rfl rfl rfl) (fun _ _ _ _ h => h)) (pa_cons (pv 1) pa_nil)) pe_non (nomark _)))))), ?_⟩
    refine ⟨_, rfl, _, _, _, rfl, hF, fF_no_hand_on, P, _, i, rfl, w, hde0, ?_⟩
    refine ⟨_, rfl, _, _, _, _, _, rfl, hF, T.cls_File, T.n_File_ahead, fF_ahead, _, _, rfl, .inl hah.sq, _, _, rfl, rfl, _, rfl, ite2 (fun e => ?_) fun e => ?_⟩
    · have := of_decide_eq_true e
      rw [eSeg] at this
      exact qA (by omega)
    · have e1 : z.c i = z.hi i := by
        rcases Nat.lt_or_ge (z.c i) (z.hi i) with hlt | hge
        · exact absurd (decide_eq_true (by rw [eSeg]; omega)) e
        · omega
      refine ⟨_, rfl, _, _, _, rfl, hF, fF_no_fetched, _, rfl, P, z, many, rfl, hmany, w, sr, fun m l H1 a b c d k w1 => ?_, fun H1 s k w1 => ?_, qX⟩
      · exact ⟨rfl, qV m H1 e1 a b c d k w1⟩
      · exact ⟨rfl, qN H1 e1 s k w1⟩
theorem ok_File_peek (T : Txt K mg) (i : Ix) (hi : isT i = false) : FnOk prog w K mg base (L2N.CX prog w) 7 (He.fAd K d_File_peek.at_) (fdO K d_File_peek) ["self", "many"] (spPeek K i) :=
  T.F_File_peek.ok sc_File_peek (fun vs H Q E h => by obtain ⟨_, _, _, rfl, _⟩ := h; rfl) fun cdv A outer st H vs Q E hr h => by
    obtain ⟨P, z, many, rfl, h1m, hmany, w, sr, hlv, qV, qN, qX⟩ := h
    have h1 := sr.c
    have h2 := sr.hi
    obtain ⟨ah, de, mi, hF, hah, hde, hmi⟩ := w.file i
    refine ⟨_, (pss_cons (ps_expr (pe_meth (pv 0) T.cls_File T.m_File_readable (ok_File_readable T) (hr.mono (by decide)) T.b_File_readable .nil pz (pa_cons (pv 1) pa_nil))) (pss_cons (ps_if (pt_cmpR op_eq (pv 1) pe_int (nomark _)) (pss_one (ps_ret (pe_lst pa_nil))) pss_nil) (pss_cons (ps_set (i := 2) sc_File_peek.nd rfl (Or.inl rfl) (pe_meth (pv 0) T.cls_File T.m_File_some (ok_File_some T i hi) (hr.mono (by decide)) T.b_File_some .nil (L2N.passes_call (L2N.takes_of rfl rfl rfl rfl) (fun _ _ _ _ h => h)) (pa_cons (pv 1) pa_nil))) (pss_one (ps_ret (pe_meth (pv 0) T.cls_File T.m_File_shown (ok_File_shown T) (hr.mono (by decide)) T.b_File_shown .nil pz (pa_cons (pv 1) (pa_cons (pv 2) pa_nil)))))))), ?_⟩
    refine ⟨_, rfl, _, _, _, rfl, hF, fF_no_readable, _, rfl, P, _, i, _, rfl, w, hlv, isT_rd hi, by omega, ?_⟩
    refine ⟨_, rfl, rfl, _, rfl, ifF (decide_eq_false (fun z => by injection z with z; omega)) ?_⟩
    refine ⟨_, rfl, _, _, _, rfl, hF, fF_no_some, _, rfl, P, z, many, rfl, hmany, w, sr, fun hlt => ?_, fun m H1 ec hm hmN hrw hend k1 w1 => ?_, fun H1 ec s k1 w1 => ?_, qX⟩
    · have e0 : ((toWS P z).f i).ah.take many = seg P.row (z.c i) (min (z.c i + many) (z.hi i)) := by
        show (seg P.row (z.c i) (z.hi i)).take many = _
        by_cases h : z.c i + many ≤ z.hi i
        · rw [Nat.min_eq_left h, seg_take h]
        · rw [Nat.min_eq_right (by omega), List.take_of_length_le (by rw [seg_len h2]; omega)]
      refine ⟨_, rfl, _, _, _, rfl, hF, fF_no_shown, _, rfl, _, rfl, P, _, i, many, true, rfl, w, fun _ l H2 e2 hl2 => ?_, fun _ z => by cases z⟩
      rw [e0] at hl2
      refine qV (z.hi i) (z.n i) l H2 ⟨Nat.le_refl _, h2, fun e => ?_, fun e => by omega, Nat.le_refl _, by omega, by rw [seg_self, List.append_nil]⟩ e2.keep (by rw [fet_self sr.sp]; exact w.ex e2) hl2
      have := sr.r e
      rw [← sr.sp]
      subst e
      exact this.1
    · obtain ⟨ah1, de1, mi1, hF1, hah1, hde1, hmi1⟩ := w1.file i
      have e0 : ((toWS P (z.fet i m (z.n i ++ [some (seg P.row (z.hi i) m)]))).f i).ah.take many = seg P.row (z.c i) (min (z.c i + many) m) := by
        show (seg P.row (z.c i) (up z.hi i m i)).take many = _
        rw [up_same]
        by_cases h : z.c i + many ≤ m
        · rw [Nat.min_eq_left h, seg_take h]
        · rw [Nat.min_eq_right (by omega), List.take_of_length_le (by rw [seg_len hmN]; omega)]
      refine ⟨_, rfl, _, _, _, rfl, hF1, fF_no_shown, _, rfl, _, rfl, P, _, i, many, true, rfl, w1, fun _ l H2 e2 hl2 => ?_, fun _ z => by cases z⟩
      rw [e0] at hl2
      refine qV m _ l H2 ⟨hm, hmN, hrw, fun e => hend (by omega), by rw [List.length_append]; omega, by rw [List.length_append, List.length_singleton]; omega, ?_⟩ (k1.trans e2.keep) (w1.ex e2) hl2
      rw [cat_app]
      congr 1
      exact List.append_nil _
    · obtain ⟨ah1, de1, mi1, hF1, hah1, hde1, hmi1⟩ := w1.file i
      have e0 : ((toWS P (z.fet i (z.hi i) (z.n i ++ [none]))).f i).ah.take many = [] := by
        show (seg P.row (z.c i) (up z.hi i (z.hi i) i)).take many = _
        rw [up_same, ec, seg_self, List.take_nil]
      refine ⟨_, rfl, _, _, _, rfl, hF1, fF_no_shown, _, rfl, _, rfl, P, _, i, many, false, rfl, w1, fun z => ?_, fun _ _ H2 e2 => qN H2 ec s (k1.trans e2.keep) (w1.ex e2)⟩
      rcases z with z | z
      · exact absurd e0 z
      · cases z
end
end Sip

set_option Elab.async false
set_option linter.all false
set_option maxRecDepth 100000
set_option maxHeartbeats 4000000
noncomputable section
namespace Sip
open PySem PySem.Spec PyProof.Rows L2 SipX L2H HotX
theorem pe_xfZ {Y : Cx} {a C : Addr} {oe : Obj} {cls : Value} {d : Option Addr} {e : Expr} {te : TE} {pos : Pos} {n : Str} (T : XfC Y.K C) (hno : PySem.W.findIn Y.K (.ref C) n = some none)
    (hz : Zc cls d oe) (hf : ∃ vs, oe.data = .fields vs) (hm : (a, oe) ∈ Y.pn) (he : PE Y e te) (hb : attributeBase e n Y.env (eval e Y.env) = eval e Y.env := by rfl) : PE Y (.Attribute e n pos) (tXf a cls d C n te) := by
  refine ⟨fun pins s σ H Q I h => ?_⟩
  refine attr_of hb (thn (he.run pins s σ H _ I h) fun u s1 hh => ?_)
  obtain ⟨x, H1, I1, rx, ex, ec, dd, fs, v, ed, ea, l, q⟩ := hh
  subst ex
  obtain rfl : u = Value.ref a := rx
  subst ec
  subst ed
  obtain ⟨ha, _⟩ := I1.pin (a, oe) (List.mem_append_left _ hm)
  obtain ⟨vs, hd⟩ := hf
  have hx : ObjOk Y.prog Y.w H1 s1.heap dd (.xd fs) := I1.hok dd _ ea
  obtain ⟨mA, hns, hr⟩ := hx
  obtain ⟨od, ho, hl⟩ := lookIn_ns hns
  obtain ⟨u, hu, ru⟩ := RelO.some_of (v := v) (o := mA n) (by rw [← l]; exact hr n)
  have J : PySem.W.InstAt s1.heap a oe C (some od) := ⟨ha, hz.1, by unfold PySem.W.notCls; rw [hd] <;> rfl, by rw [hz.2]; exact ho⟩
  exact HandSPX.exc_get I1.kIn J T.ga T.gg T.exC (PySem.W.findObj_own T.hdC hno rfl (by rw [hl, hu])) (handed_of ru) ⟨v, H1, I1.tok _, ru, q⟩
theorem lk_tn {x y : V} : List.lookup ("number" : Str) [(("taken" : Str), x), ("number", y)] = some y := by kernel_rfl
theorem lk_tt {x y : V} : List.lookup ("taken" : Str) [(("taken" : Str), x), ("number", y)] = some x := by kernel_rfl
theorem lk_t {x : V} : List.lookup ("taken" : Str) [(("taken" : Str), x)] = some x := by kernel_rfl
theorem lk_pc {x y z : V} : List.lookup ("count" : Str) [(("side" : Str), x), ("count", y), ("number", z)] = some y := by kernel_rfl
theorem lk_ps {x y z : V} : List.lookup ("side" : Str) [(("side" : Str), x), ("count", y), ("number", z)] = some x := by kernel_rfl
theorem lk_pn {x y z : V} : List.lookup ("number" : Str) [(("side" : Str), x), ("count", y), ("number", z)] = some z := by kernel_rfl
theorem Txt.kF {K : PySem.W.Frag} {mg : Str → Option Value} (T : Txt K mg) : KBn K (fdO K d_Fault___init__) ["self", "number", "taken"] 2 ["taken"] (fun us ws => us ++ ws) (fun vs zs => vs ++ zs) := by
  obtain ⟨mv, h⟩ := T.F_Fault___init__.kbinds0 (ps := ["self", "number", "taken"]) 2 ["taken"] [] (fun us _ ws => us ++ ws) (fun z => by cases (show [(("taken" : Str), V.int 0)] = [] from z)) (fun q hq => by cases hq) (fun a _ c => a.append c) fun D doc pm an cdv ct us mv ws hu hm hw => by
    match us, hu, ws, hw with
    | [_, _], _, [_], _ => rfl
  exact h
theorem Txt.kS {K : PySem.W.Frag} {mg : Str → Option Value} (T : Txt K mg) : KBn K (fdO K d_Stalled___init__) ["self", "taken"] 1 ["taken"] (fun us ws => us ++ ws) (fun vs zs => vs ++ zs) := by
  obtain ⟨mv, h⟩ := T.F_Stalled___init__.kbinds0 (ps := ["self", "taken"]) 1 ["taken"] [] (fun us _ ws => us ++ ws) (fun z => by cases (show [(("taken" : Str), V.int 0)] = [] from z)) (fun q hq => by cases hq) (fun a _ c => a.append c) fun D doc pm an cdv ct us mv ws hu hm hw => by
    match us, hu, ws, hw with
    | [_], _, [_], _ => rfl
  exact h
theorem Txt.kP {K : PySem.W.Frag} {mg : Str → Option Value} (T : Txt K mg) : KBn K (fdO K d_PourFault___init__) ["self", "number", "count", "side"] 2 ["count", "side"] (fun us ws => us ++ ws) (fun vs zs => vs ++ zs) := by
  obtain ⟨mv, h⟩ := T.F_PourFault___init__.kbinds0 (ps := ["self", "number", "count", "side"]) 2 ["count", "side"] [] (fun us _ ws => us ++ ws) (fun z => by cases (show [(("count" : Str), V.int 0), ("side", .str "source")] = [] from z)) (fun q hq => by cases hq) (fun a _ c => a.append c) fun D doc pm an cdv ct us mv ws hu hm hw => by
    match us, hu, ws, hw with
    | [_, _], _, [_, _], _ => rfl
  exact h
def spFreed (K : PySem.W.Frag) (i : Ix) : Sp := fun vs H Q E => ∃ (P : Pm) (z : Z) (t : Int), vs = [.ref (P.A (.f i)), .int t] ∧ W P K H (toWS P z) ∧ Tg P z i ∧
  (∀ ns H', (z.n i).length ≤ ns.length → ns.length ≤ (z.n i).length + (z.c i - z.lo i) → (i = .wi → (z.c i : Int) - z.sp .ro ≤ P.proom) → Keep P H H' → W P K H' (toWS P (z.mv i (z.c i) ns)) → Q (.bl true) H') ∧
  (∀ m ns H', Sto P z i m ns → Keep P H H' → W P K H' (toWS P (z.mv i m ns)) → Q (.bl false) H') ∧
  ∀ m ns H' d x, i = .to → Sto P z i m ns → 1 ≤ x → Keep P H H' → W P K H' (toWS P (z.mv i m ns)) → H' d = some (.xd [("taken", .int t), ("number", .int x)]) → E (.ref (He.ga K "Fault")) (some d) H'
def Z.wr (z : Z) (i : Ix) (c m : Nat) (ns : NR) : Z := { z with c := up z.c i c, hi := up z.hi i c, lo := up z.lo i m, sp := up z.sp i m, n := up z.n i ns }
/-- a write's stop: t of k bytes are in, the raw has those ahead of m -/
structure WSto (P : Pm) (z : Z) (i : Ix) (k t m : Nat) (ns : NR) : Prop where
  tk : t < k
  lo : z.lo i ≤ m
  c : m ≤ z.c i + t
  rm : ((z.c i + t : Nat) : Int) - m ≤ P.room i
  n1 : (z.n i).length < ns.length
  n2 : ns.length ≤ (z.n i).length + (m - z.lo i) + t + 1
  w : i = .wi → (m : Int) - z.sp .ro = P.proom
  p : i = .to → (z.n i).length < (P.plan i).length
def spWrite (K : PySem.W.Frag) (i : Ix) : Sp := fun vs H Q E => ∃ (P : Pm) (z : Z) (l : Addr) (k : Nat), vs = [.ref (P.A (.f i)), .ref l] ∧ W P K H (toWS P z) ∧ Tg P z i ∧ z.hi i = z.c i ∧ (z.n i).length ≤ 6000000 ∧ ((z.c i : Nat) : Int) - z.lo i ≤ P.room i ∧
  Lst P H l (seg P.row (z.c i) (z.c i + k)) ∧ 1 ≤ k ∧ z.c i + k ≤ P.row.length ∧
  (∀ m ns H', z.lo i ≤ m → m ≤ z.c i + k → ((z.c i + k : Nat) : Int) - m ≤ P.room i → (z.n i).length ≤ ns.length → ns.length ≤ (z.n i).length + (m - z.lo i) + k → (i = .wi → (m : Int) - z.sp .ro ≤ P.proom) → Keep P H H' →
    W P K H' (toWS P (z.wr i (z.c i + k) m ns)) → Q (.int (k : Nat)) H') ∧
  (∀ t m ns H' d, WSto P z i k t m ns → Keep P H H' → W P K H' (toWS P (z.wr i (z.c i + t) m ns)) → H' d = some (.xd [("taken", .int (t : Nat))]) → E (.ref (He.ga K "Stalled")) (some d) H') ∧
  ∀ t m ns H' d x, i = .to → WSto P z i k t m ns → 1 ≤ x → Keep P H H' → W P K H' (toWS P (z.wr i (z.c i + t) m ns)) → H' d = some (.xd [("taken", .int (t : Nat)), ("number", .int x)]) → E (.ref (He.ga K "Fault")) (some d) H'
theorem wr_self {z : Z} {i : Ix} (h : z.sp i = z.lo i) (h2 : z.hi i = z.c i) : z.wr i (z.c i) (z.lo i) (z.n i) = z := by
  obtain ⟨a, b, c, d, e, f, g⟩ := z
  unfold Z.wr
  simp only at h h2 ⊢
  have a1 : up d i (a i) = d := by rw [← h, up_self]
  have a2 : up c i (b i) = c := by rw [← h2, up_self]
  rw [up_self, up_self, up_self, a1, a2]
theorem wr_mv {z : Z} {i : Ix} {c m m' : Nat} {ns ns' : NR} : (z.wr i c m ns).mv i m' ns' = z.wr i c m' ns' := by
  unfold Z.wr Z.mv
  simp only [up_up]
theorem wr_ro {z : Z} {c m : Nat} {ns : NR} : (z.wr .wi c m ns).sp .ro = z.sp .ro := by
  show up z.sp .wi m .ro = _
  exact up_ne (by decide)
theorem seg_mid {xs : List Int} {c d a b : Nat} : ((seg xs c d).take a).drop b = seg xs (c + b) (min (c + a) d) := by
  by_cases h : c + a ≤ d
  · rw [Nat.min_eq_left h, seg_take h, seg_drop]
  · rw [Nat.min_eq_right (by omega), List.take_of_length_le, seg_drop]
    unfold seg
    rw [List.length_drop, List.length_take]
    omega
section
variable {prog : Program} {w : World} {base : Heap} {K : PySem.W.Frag} {mg : Str → Option Value}
theorem ok_File_freed (T : Txt K mg) (i : Ix) (hi : isT i = true) : FnOk prog w K mg base (L2.CX prog w) 6 (He.fAd K d_File_freed.at_) (fdO K d_File_freed) ["self", "taken"] (spFreed K i) :=
  T.F_File_freed.ok sc_File_freed (fun vs H Q E h => by obtain ⟨_, _, _, rfl, _⟩ := h; rfl) fun cdv A outer st H vs Q E hr h => by
    obtain ⟨P, z, t, rfl, w, tg, qV, qN, qX⟩ := h
    obtain ⟨ah, de, mi, hF, hah, hde, hmi⟩ := w.file i
    refine ⟨_, (pss_cons (ps_tryAN rfl rfl rfl sc_File_freed.nd (fun hd => PassesOwnAt.leaving) (L2.takes_of rfl rfl rfl rfl)
      (fun W pn xe tk own => pss_one (ps_expr (pe_methD0 (E := L2.WE W) (pv 0) T.cls_File T.m_File_hand_on (ok_File_hand_on T i hi) (hr.mono (by decide)) T.b_File_hand_on .nil (fun σ => L2N.passAt tk σ) rfl)))
      (.one ⟨by rfl, by decide, .inl T.g_Stalled⟩ (fun a oe cls d pn xe zn hv tk hot => pss_one (ps_ret pe_bl))
        (.as (i := 2) ⟨by rfl, by decide, .inl T.g_Fault⟩ rfl rfl (fun a oe cls d pn xe zn hv tk hot => pss_one (L2H.ps_raiseHN hot tk (pmk_kwH T.o_Fault T.ii_Fault.1 T.ii_Fault.2 (okH_Fault___init__ T) (roomH_mark (hr.mono (by decide)) _) hot T.kF (by decide) pz (by rfl) T.g_Fault
            (pa_cons (pe_xfZ T.f_Fault T.n_Fault_number zn.zc hv (List.mem_cons_self ..) (pv 2)) pa_nil) (pk_cons (pv 1) pk_nil)))) .nil)))
      (pss_one (ps_ret pe_bl))), ?_⟩
    refine ⟨_, rfl, _, _, _, rfl, hF, fF_no_hand_on, P, z, rfl, w, tg, fun ns H1 a b c k w1 => ?_, fun m ns H1 d sto k w1 hd => ?_, fun m ns H1 d x et sto hx k w1 hd => ?_⟩
    · exact qV ns H1 a b c k w1
    · exact ⟨true, T.x_Stalled_Stalled, fun _ a na => qN m ns H1 sto k w1, fun q => by cases q⟩
    · refine ⟨false, T.x_Fault_Stalled, (fun q => Bool.noConfusion q), fun _ => ⟨true, T.x_Fault_Fault, fun _ a na => ?_, fun q => by cases q⟩⟩
      refine ⟨_, rfl, rfl, rfl, d, _, _, rfl, hd, lk_tn, _, rfl, rfl, rfl, fun b nb => ?_⟩
      exact spFault_q (fun d2 Hx nd ex hdx => qX m ns Hx d2 x et sto hx (k.trans ex.keep) (w1.ex ex) hdx) nb
theorem isT_wr {i : Ix} (h : isT i = true) : wrB i = true := by cases i <;> first | rfl | cases h
theorem tg_lv {P : Pm} {z : Z} {i : Ix} (h : Tg P z i) : lvI z.lv i = true := by
  cases i
  · rfl
  · exact (h.w rfl).1
  · rfl
  · rfl
theorem ok_File_write (T : Txt K mg) (i : Ix) (hi : isT i = true) : FnOk prog w K mg base (L2.CX prog w) 7 (He.fAd K d_File_write.at_) (fdO K d_File_write) ["self", "data"] (spWrite K i) :=
  T.F_File_write.ok sc_File_write (fun vs H Q E h => by obtain ⟨_, _, _, _, rfl, _⟩ := h; rfl) fun cdv A outer st H vs Q E hr h => by
    obtain ⟨P, z, l, k, rfl, w, tg, hhi, hn6, hrm, hl, hk, hkN, qV, qN, qX⟩ := h
    have hN := P.hN
    have hro := P.hroom i
    have hlo := tg.lo
    obtain ⟨ah, de, mi, hF, hah, hde, hmi⟩ := w.file i
    refine ⟨_, (pss_cons (ps_expr (pe_meth0 (pv 0) T.cls_File T.m_File_writable (ok_File_writable T) (hr.mono (by decide)) T.b_File_writable .nil pz)) (pss_cons (ps_expr (pe_call (ok_bytes_asked T) (hr.mono (by decide)) (by rfl) T.g_bytes_asked T.F_bytes_asked.kp T.b_bytes_asked .nil pz (pa_cons (pv 1) pa_nil))) (pss_cons (ps_if (pt_cmpR op_eq (pe_callB call_len_seq (by rfl) T.n_len PySem.boot_len (pa_cons (pv 1) pa_nil)) pe_int (nomark _)) (pss_one (ps_ret pe_int)) pss_nil) (pss_cons (ps_if (pt_val (pe_meth0 (pe_fld (pv 0) rfl) (T.clsR i) (T.mR_seeks i) (okR_seeks T i) (hr.mono (by decide)) (T.bR_seeks i) .nil pz)) (pss_one (ps_expr (pe_call (ok_length_asked T) (hr.mono (by decide)) (by rfl) T.g_length_asked T.F_length_asked.kp T.b_length_asked .nil pz (pa_cons (pe_op op_add (pe_fld (pv 0) rfl) (pe_callB call_len_seq (by rfl) T.n_len PySem.boot_len (pa_cons (pv 1) pa_nil))) pa_nil)))) pss_nil) (pss_cons (ps_fld (pv 0) (pe_lst pa_nil) rfl) (pss_cons (ps_set (i := 2) sc_File_write.nd rfl (Or.inl rfl) pe_int) (pss_cons (ps_while PassesOwn.leaving (pt_cmpR op_lt (pv 2) (pe_callB call_len_seq (by rfl) T.n_len PySem.boot_len (pa_cons (pv 1) pa_nil)) (nomark _)) (pss_cons (ps_set (i := 3) sc_File_write.nd rfl (Or.inl rfl) (pe_or (pe_cmpR op_lt (pe_callB call_len_seq (by rfl) T.n_len PySem.boot_len (pa_cons (pe_fld (pv 0) rfl) pa_nil)) (pe_fld (pv 0) rfl) (nomark _)) (pe_one (pe_meth (pv 0) T.cls_File T.m_File_freed (ok_File_freed T i hi) (hr.mono (by decide)) T.b_File_freed .nil (L2.passes_call (L2.takes_of rfl rfl rfl rfl) (fun _ _ _ _ h => h)) (pa_cons (pv 2) pa_nil))))) (pss_cons (ps_set (i := 4) sc_File_write.nd rfl (Or.inl rfl) (pe_callTy call_list_of (by rfl) T.n_list (by decide +kernel) (pa_cons (pe_slice sl_list (pv 1) (po_some (pv 2)) (po_some (pe_op op_sub (pe_op op_add (pv 2) (pe_fld (pv 0) rfl)) (pe_callB call_len_seq (by rfl) T.n_len PySem.boot_len (pa_cons (pe_fld (pv 0) rfl) pa_nil))))) pa_nil))) (pss_cons (ps_fld (pv 0) (pe_op op_cat (pe_fld (pv 0) rfl) (pv 4)) rfl) (pss_cons (ps_fld (pv 0) (pe_op op_add (pe_fld (pv 0) rfl) (pe_callB call_len_seq (by rfl) T.n_len PySem.boot_len (pa_cons (pv 4) pa_nil))) rfl) (pss_cons (ps_set (i := 2) sc_File_write.nd rfl (Or.inl rfl) (pe_op op_add (pv 2) (pe_callB call_len_seq (by rfl) T.n_len PySem.boot_len (pa_cons (pv 4) pa_nil)))) (pss_one (ps_if (PW.pt (pw_and (pt_not (pt_val (pv 3))) (pw_and1 (pt_cmpR op_lt (pv 2) (pe_callB call_len_seq (by rfl) T.n_len PySem.boot_len (pa_cons (pv 1) pa_nil)) (nomark _))))) (pss_one (L2.ps_raise rfl (L2.takes_of rfl rfl rfl rfl) (PMk5.calm (pmk_kw0 T.o_Stalled T.ii_Stalled.1 T.ii_Stalled.2 (ok_Stalled___init__ T) (hr.mono (by decide)) T.kS pz (by rfl) T.g_Stalled (pk_cons (pv 2) pk_nil))))) pss_nil)))))))) (pss_one (ps_ret (pv 2)))))))))), ?_⟩
    refine ⟨_, rfl, _, _, _, rfl, hF, fF_no_writable, P, _, i, rfl, w, tg_lv tg, isT_wr hi, ?_⟩
    refine ⟨_, rfl, l, _, rfl, hl.1, fun x hx => P.hby x (List.mem_of_mem_take (List.mem_of_mem_drop hx)), fun H1 e1 => ?_⟩
    have w1 := w.ex e1
    have hl1 := hl.keep e1.keep
    obtain ⟨ah1, de1, mi1, hF1, hah1, hde1, hmi1⟩ := w1.file i
    obtain ⟨fs, hR, l1, l2, l3, l4, l5, l6, l7, l8⟩ := w1.rget i
    have elen : (seg P.row (z.c i) (z.c i + k)).length = k := by rw [seg_len hkN]; omega
    refine ⟨_, rfl, _, _, rfl, .inl hl1.sq, rfl, _, rfl, ifF (decide_eq_false (fun z => by injection z with z; rw [map_len, elen] at z; omega)) ?_⟩
    refine ⟨_, rfl, _, _, _, _, _, rfl, hF1, T.cls_File, T.n_File_raw, fF_raw, _, _, _, rfl, hR, l5, _, _, _, rfl, hR, l8, _, rfl, ?_⟩
    refine (fun h => ite2 (fun _ => ⟨_, rfl, _, _, _, _, _, rfl, hF1, T.cls_File, T.n_File_cursor, fF_cursor, _, rfl, _, _, rfl, .inl hl1.sq, _, _, rfl, rfl, _, rfl, (by
      show ((z.c i : Nat) : Int) + _ ≤ 4000
      rw [map_len, elen]
      omega), h⟩) (fun _ => h)) ?_
    refine ⟨sz1 (by simp), fun p hp => ?_⟩
    have w2 := w1.new (o := .lst []) hp
    have hl2 : Lst P (upd H1 p (.lst [])) p [] := lst_newE w1 (ys := []) hp rfl
    obtain ⟨ah2, de2, mi2, hF2, hah2, hde2, hmi2⟩ := w2.file i
    refine ⟨_, rfl, _, _, _, _, rfl, hF2, T.cls_File, T.n_File_ahead, Nat.lt_of_le_of_lt (Nat.le_of_eq fF_len) (by decide), ?_⟩
    have w3 := (w2.s_ahead hF2 hde2 hmi2 hl2).cast (t := toWS P (z.wr i (z.c i) (z.lo i) (z.n i))) (WS.eq (fun j => by
      rw [wr_self tg.sp hhi]
      by_cases hj : j = i
      · subst hj
        show up _ j _ j = (⟨z.po j, lvI z.lv j, (z.c j : Nat), seg P.row (z.c j) (z.hi j), seg P.row (z.lo j) (z.c j), []⟩ : FR)
        rw [up_same, hhi, seg_self]
        rfl
      · show up _ i _ j = _
        rw [up_ne hj]) (fun j => by rw [wr_self tg.sp hhi]) (fun j => by rw [wr_self tg.sp hhi]) (by rw [wr_self tg.sp hhi]))
    have k3 := (e1.keep.trans (Ex.new hp).keep).trans (Only.upd (P := P) (z := .f i) (H := upd H1 p (.lst [])) (o := .ins (He.ga K "File") (P.D (.f i)) (putF "ahead" (.ref p) (fF (.ref (P.A (.r i))) (.int (P.room i)) (.bl (rdB i)) (.bl (wrB i)) (.bl ((toWS P z).f i).po) (.bl ((toWS P z).f i).lv) (.int ((toWS P z).f i).cu) (.ref ah2) (.ref de2) (.ref mi2))))).keep
    refine ⟨fun mes σ H4 => ∃ (t m : Nat) (ns : NR) (b3 b4 : Option V), σ = [some (.ref (P.A (.f i))), some (.ref l), some (.int (t : Nat)), b3, b4] ∧ W P K H4 (toWS P (z.wr i (z.c i + t) m ns)) ∧ Keep P H H4 ∧ t ≤ k ∧ mes = k - t ∧ z.lo i ≤ m ∧ m ≤ z.c i + t ∧
        ((z.c i + t : Nat) : Int) - m ≤ P.room i ∧ (z.n i).length ≤ ns.length ∧ ns.length ≤ (z.n i).length + (m - z.lo i) + t ∧ (i = .wi → (m : Int) - z.sp .ro ≤ P.proom),
      ⟨k, 0, z.lo i, z.n i, none, none, rfl, w3, k3, by omega, by omega, Nat.le_refl _, hlo, by omega, Nat.le_refl _, by omega, fun e => ?_⟩, fun mes σ H4 hW => ?_⟩
    · subst e
      have := (tg.w rfl).2.2
      rw [tg.sp] at this
      exact this
    obtain ⟨t, m, ns, b3, b4, rfl, w4, k4, ht, rfl, hm1, hm2, hm3, hn1, hn2, hp4⟩ := hW
    have hl4 := hl.keep k4
    refine ⟨_, rfl, _, rfl, _, _, rfl, .inl hl4.sq, _, _, rfl, rfl, _, rfl, ite2 (fun e => ?_) fun e => ?_⟩
    · have htk : t < k := by
        have := of_decide_eq_true e
        rw [map_len, elen] at this
        omega
      refine ⟨fun σ' H' => ∃ m', m' < k - t ∧ (∃ (t m : Nat) (ns : NR) (b3 b4 : Option V), σ' = [some (.ref (P.A (.f i))), some (.ref l), some (.int (t : Nat)), b3, b4] ∧ W P K H' (toWS P (z.wr i (z.c i + t) m ns)) ∧ Keep P H H' ∧ t ≤ k ∧ m' = k - t ∧ z.lo i ≤ m ∧ m ≤ z.c i + t ∧
        ((z.c i + t : Nat) : Int) - m ≤ P.room i ∧ (z.n i).length ≤ ns.length ∧ ns.length ≤ (z.n i).length + (m - z.lo i) + t ∧ (i = .wi → (m : Int) - z.sp .ro ≤ P.proom)), fun _ _ h => h, ?_⟩
      obtain ⟨ah4, de4, mi4, hF4, hah4, hde4, hmi4⟩ := w4.file i
      have eC : (z.wr i (z.c i + t) m ns).c i = z.c i + t := up_same
      have eLo : (z.wr i (z.c i + t) m ns).lo i = m := up_same
      have eSp : (z.wr i (z.c i + t) m ns).sp i = m := up_same
      have eNs : (z.wr i (z.c i + t) m ns).n i = ns := up_same
      have eD4 : ((toWS P (z.wr i (z.c i + t) m ns)).f i).de = seg P.row m (z.c i + t) := by
        show seg P.row ((z.wr i (z.c i + t) m ns).lo i) ((z.wr i (z.c i + t) m ns).c i) = _
        rw [eC, eLo]
      rw [eD4] at hde4
      have eL4 : ((seg P.row m (z.c i + t)).map V.int).length = z.c i + t - m := by rw [map_len, seg_len (by omega)]
      refine ⟨_, rfl, _, _, _, _, _, rfl, hF4, T.cls_File, T.n_File_delayed, fF_delayed, _, _, rfl, .inl hde4.sq, _, rfl, _, _, _, _, _, rfl, hF4, T.cls_File, T.n_File_room, fF_room, _, _, rfl, rfl, _, rfl, ite2 (fun e5 => ?_) fun e5 => ?_⟩
      · have hlt := of_decide_eq_true e5
        rw [eL4] at hlt
        obtain ⟨m5, ns5, H5, w5, k5, hA, hB, hC, hD, hE, hG⟩ : ∃ (m5 : Nat) (ns5 : NR) (H5 : Hp), W P K H5 (toWS P (z.wr i (z.c i + t) m5 ns5)) ∧ Keep P H H5 ∧ H5 = H4 ∧ m5 = m ∧ ns5 = ns ∧ True ∧ True ∧ True := ⟨m, ns, H4, w4, k4, rfl, rfl, rfl, trivial, trivial, trivial⟩
        rw [← hA]
        rw [← hB] at hlt hm1 hm2 hm3 hn2 hp4
        rw [← hC] at hn1 hn2
        have hl5 := hl.keep k5
        obtain ⟨ah5, de5, mi5, hF5, hah5, hde5, hmi5⟩ := w5.file i
        have eD5 : ((toWS P (z.wr i (z.c i + t) m5 ns5)).f i).de = seg P.row m5 (z.c i + t) := by
          show seg P.row (up z.lo i m5 i) (up z.c i (z.c i + t) i) = _
          rw [up_same, up_same]
        rw [eD5] at hde5
        have eL5 : ((seg P.row m5 (z.c i + t)).map V.int).length = z.c i + t - m5 := by rw [map_len, seg_len (by omega)]
        obtain ⟨F, hF0⟩ : ∃ F : Nat, P.room i - ((z.c i + t - m5 : Nat) : Int) = (F : Int) := ⟨(P.room i - ((z.c i + t - m5 : Nat) : Int)).toNat, by omega⟩
        obtain ⟨c2, hc2⟩ : ∃ c2, c2 = min (z.c i + t + F) (z.c i + k) := ⟨_, rfl⟩
        refine ⟨_, rfl, _, rfl, _, rfl, _, rfl, _, rfl, _, _, _, _, _, rfl, hF5, T.cls_File, T.n_File_room, fF_room, _, _, rfl, rfl, _, rfl, _, _, _, _, _, rfl, hF5, T.cls_File, T.n_File_delayed, fF_delayed, _, _, rfl, .inl hde5.sq, _, _, rfl, rfl, _, rfl, _, _, rfl, hl5.sq, fun p6 hp6 => ?_⟩
        have eS : cutV ((seg P.row (z.c i) (z.c i + k)).map V.int) (some ((t : Nat) : Int)) (some (((t : Nat) : Int) + P.room i - (((seg P.row m5 (z.c i + t)).map V.int).length : Int))) = (seg P.row (z.c i + t) c2).map V.int := by
          rw [eL5, show ((t : Nat) : Int) + P.room i - ((z.c i + t - m5 : Nat) : Int) = ((t + F : Nat) : Int) by omega, cut_mid, seg_mid, hc2, Nat.add_assoc]
        rw [eS]
        have w6 := w5.new (o := .lst ((seg P.row (z.c i + t) c2).map V.int)) hp6
        have hs6 : Lst P (upd H5 p6 (.lst ((seg P.row (z.c i + t) c2).map V.int))) p6 (seg P.row (z.c i + t) c2) := lst_new w5 hp6
        refine ⟨_, _, rfl, .inl hs6.sq, fun p7 hp7 => ?_⟩
        have w7 := w6.new (o := .lst ((seg P.row (z.c i + t) c2).map V.int)) hp7
        have hs7 : Lst P (upd (upd H5 p6 (.lst ((seg P.row (z.c i + t) c2).map V.int))) p7 (.lst ((seg P.row (z.c i + t) c2).map V.int))) p7 (seg P.row (z.c i + t) c2) := lst_new w6 hp7
        have k7 := (k5.trans (Ex.new hp6).keep).trans (Ex.new (o := .lst ((seg P.row (z.c i + t) c2).map V.int)) hp7).keep
        revert w7 hs7 k7
        generalize upd (upd H5 p6 (.lst ((seg P.row (z.c i + t) c2).map V.int))) p7 (.lst ((seg P.row (z.c i + t) c2).map V.int)) = H7
        intro w7 hs7 k7
        obtain ⟨ah7, de7, mi7, hF7, hah7, hde7, hmi7⟩ := w7.file i
        rw [eD5] at hde7
        have eL7 : ((seg P.row (z.c i + t) c2).map V.int).length = c2 - (z.c i + t) := by rw [map_len, seg_len (by omega)]
        refine ⟨_, rfl, _, _, _, _, _, rfl, hF7, T.cls_File, T.n_File_delayed, fF_delayed, _, rfl, _, _, _, _, rfl, rfl, hde7.1, hs7.1, sz1 (by rw [map_len, seg_len (by omega), eL7]; omega), fun p8 hp8 => ?_⟩
        rw [cat_map, seg_app (by omega) (by omega) (by omega)]
        have w8 := w7.new (o := .lst ((seg P.row m5 c2).map V.int)) hp8
        have hs8 : Lst P (upd H7 p8 (.lst ((seg P.row m5 c2).map V.int))) p8 (seg P.row m5 c2) := lst_new w7 hp8
        obtain ⟨ah8, de8, mi8, hF8, hah8, hde8, hmi8⟩ := w8.file i
        refine ⟨_, rfl, _, _, _, _, rfl, hF8, T.cls_File, T.n_File_delayed, Nat.lt_of_le_of_lt (Nat.le_of_eq fF_len) (by decide), ?_⟩
        have w9 := w8.s_delayed hF8 hah8 hmi8 hs8
        have k8 := k7.trans (Ex.new (o := .lst ((seg P.row m5 c2).map V.int)) hp8).keep
        have hs9 := hs7.keep (Ex.new (o := .lst ((seg P.row m5 c2).map V.int)) hp8).keep
        obtain ⟨ah9, de9, mi9, hF9, hah9, hde9, hmi9⟩ := w9.file i
        refine ⟨_, rfl, _, _, _, _, _, rfl, hF9, T.cls_File, T.n_File_cursor, fF_cursor, _, rfl, _, _, rfl, .inl (hs9.keep Only.upd.keep).sq, _, _, rfl, rfl, _, rfl, _, _, _, _, rfl, hF9, T.cls_File, T.n_File_cursor, Nat.lt_of_le_of_lt (Nat.le_of_eq fF_len) (by decide), ?_⟩
        have wA := (w9.s_cursor hF9 hah9 hde9 hmi9 (b := ({ toWS P (z.wr i (z.c i + t) m5 ns5) with f := up (toWS P (z.wr i (z.c i + t) m5 ns5)).f i { (toWS P (z.wr i (z.c i + t) m5 ns5)).f i with de := seg P.row m5 c2 } }.f i).cu + ((((seg P.row (z.c i + t) c2).map V.int).length : Nat) : Int))).cast (t := toWS P (z.wr i (z.c i + (c2 - z.c i)) m5 ns5)) (WS.eq (fun j => by
          rw [show z.c i + (c2 - z.c i) = c2 by omega]
          by_cases hj : j = i
          · subst hj
            show up _ j _ j = (⟨z.po j, lvI z.lv j, ((up z.c j c2 j : Nat) : Int), seg P.row (up z.c j c2 j) (up z.hi j c2 j), seg P.row (up z.lo j m5 j) (up z.c j c2 j), []⟩ : FR)
            rw [up_same, up_same, up_same, up_same, seg_self]
            show (⟨FR.po (up _ j _ j), FR.lv (up _ j _ j), FR.cu (up _ j _ j) + _, FR.ah (up _ j _ j), FR.de (up _ j _ j), FR.mi (up _ j _ j)⟩ : FR) = _
            rw [up_same, eL7]
            show (⟨z.po j, lvI z.lv j, ((up z.c j (z.c j + t) j : Nat) : Int) + _, seg P.row (up z.c j (z.c j + t) j) (up z.hi j (z.c j + t) j), seg P.row m5 c2, []⟩ : FR) = _
            rw [up_same, up_same, seg_self]
            congr 1
            omega
          · show up _ i _ j = (⟨z.po j, lvI z.lv j, ((up z.c i c2 j : Nat) : Int), seg P.row (up z.c i c2 j) (up z.hi i c2 j), seg P.row (up z.lo i m5 j) (up z.c i c2 j), []⟩ : FR)
            rw [up_ne hj, up_ne hj, up_ne hj, up_ne hj]
            show up _ i _ j = _
            rw [up_ne hj]
            show (⟨z.po j, lvI z.lv j, ((up z.c i (z.c i + t) j : Nat) : Int), seg P.row (up z.c i (z.c i + t) j) (up z.hi i (z.c i + t) j), seg P.row (up z.lo i m5 j) (up z.c i (z.c i + t) j), []⟩ : FR) = _
            rw [up_ne hj, up_ne hj, up_ne hj]) (fun _ => rfl) (fun _ => rfl) rfl)
        refine ⟨_, rfl, _, rfl, _, _, rfl, .inl ((hs9.keep Only.upd.keep).keep Only.upd.keep).sq, _, _, rfl, rfl, ?_⟩
        dsimp only
        rw [show ((t : Nat) : Int) + ((((seg P.row (z.c i + t) c2).map V.int).length : Nat) : Int) = ((c2 - z.c i : Nat) : Int) by rw [eL7]; omega]
        have hc2t : z.c i + t < c2 := by omega
        refine ⟨_, rfl, _, rfl, ifF rfl ⟨k - (c2 - z.c i), by omega, c2 - z.c i, m5, ns5, _, _, rfl, wA, (k8.trans Only.upd.keep).trans Only.upd.keep, by omega, rfl, hm1, by omega, by omega, hn1, by omega, hp4⟩⟩
      · refine ⟨_, rfl, _, _, _, rfl, hF4, fF_no_freed, _, rfl, P, z.wr i (z.c i + t) m ns, _, rfl, w4, ⟨by rw [eSp, eLo], by rw [eLo, eC]; exact hm2, by rw [eC]; omega, by rw [eNs]; have := tg.n; omega, fun ew => ?_⟩, fun ns5 H5 hn5 hn6 hp5 k5 w5 => ?_, fun m5 ns5 H5 sto k5 w5 => ?_, fun m5 ns5 H5 d x et sto hx k5 w5 hd => ?_⟩
        · subst ew
          obtain ⟨q1, q2, q3⟩ := tg.w rfl
          rw [wr_ro, eSp]
          have := tg.sp
          exact ⟨q1, by omega, hp4 rfl⟩
        · rw [eC, wr_mv] at w5
          rw [eNs] at hn5 hn6
          rw [eC, eLo] at hn6
          have hpq : i = .wi → ((z.c i + t : Nat) : Int) - z.sp .ro ≤ P.proom := fun ew => by
            have := hp5 ew
            rw [eC] at this
            subst ew
            rw [wr_ro] at this
            exact this
          obtain ⟨m5, hm5⟩ : ∃ m5, m5 = z.c i + t := ⟨_, rfl⟩
          have w5' : W P K H5 (toWS P (z.wr i (z.c i + t) m5 ns5)) := by rw [hm5]; exact w5
          clear w5
          have w5 := w5'
          have k5' := k4.trans k5
          clear k5
          have k5 := k5'
          have hl5 := hl.keep k5
          obtain ⟨ah5, de5, mi5, hF5, hah5, hde5, hmi5⟩ := w5.file i
          have eD5 : ((toWS P (z.wr i (z.c i + t) m5 ns5)).f i).de = seg P.row m5 (z.c i + t) := by
            show seg P.row (up z.lo i m5 i) (up z.c i (z.c i + t) i) = _
            rw [up_same, up_same]
          rw [eD5] at hde5
          have eL5 : ((seg P.row m5 (z.c i + t)).map V.int).length = z.c i + t - m5 := by rw [map_len, seg_len (by omega)]
          obtain ⟨F, hF0⟩ : ∃ F : Nat, P.room i - ((z.c i + t - m5 : Nat) : Int) = (F : Int) := ⟨(P.room i - ((z.c i + t - m5 : Nat) : Int)).toNat, by omega⟩
          obtain ⟨c2, hc2⟩ : ∃ c2, c2 = min (z.c i + t + F) (z.c i + k) := ⟨_, rfl⟩
          refine ⟨_, rfl, _, rfl, _, rfl, _, rfl, _, rfl, _, _, _, _, _, rfl, hF5, T.cls_File, T.n_File_room, fF_room, _, _, rfl, rfl, _, rfl, _, _, _, _, _, rfl, hF5, T.cls_File, T.n_File_delayed, fF_delayed, _, _, rfl, .inl hde5.sq, _, _, rfl, rfl, _, rfl, _, _, rfl, hl5.sq, fun p6 hp6 => ?_⟩
          have eS : cutV ((seg P.row (z.c i) (z.c i + k)).map V.int) (some ((t : Nat) : Int)) (some (((t : Nat) : Int) + P.room i - (((seg P.row m5 (z.c i + t)).map V.int).length : Int))) = (seg P.row (z.c i + t) c2).map V.int := by
            rw [eL5, show ((t : Nat) : Int) + P.room i - ((z.c i + t - m5 : Nat) : Int) = ((t + F : Nat) : Int) by omega, cut_mid, seg_mid, hc2, Nat.add_assoc]
          rw [eS]
          have w6 := w5.new (o := .lst ((seg P.row (z.c i + t) c2).map V.int)) hp6
          have hs6 : Lst P (upd H5 p6 (.lst ((seg P.row (z.c i + t) c2).map V.int))) p6 (seg P.row (z.c i + t) c2) := lst_new w5 hp6
          refine ⟨_, _, rfl, .inl hs6.sq, fun p7 hp7 => ?_⟩
          have w7 := w6.new (o := .lst ((seg P.row (z.c i + t) c2).map V.int)) hp7
          have hs7 : Lst P (upd (upd H5 p6 (.lst ((seg P.row (z.c i + t) c2).map V.int))) p7 (.lst ((seg P.row (z.c i + t) c2).map V.int))) p7 (seg P.row (z.c i + t) c2) := lst_new w6 hp7
          have k7 := (k5.trans (Ex.new hp6).keep).trans (Ex.new (o := .lst ((seg P.row (z.c i + t) c2).map V.int)) hp7).keep
          revert w7 hs7 k7
          generalize upd (upd H5 p6 (.lst ((seg P.row (z.c i + t) c2).map V.int))) p7 (.lst ((seg P.row (z.c i + t) c2).map V.int)) = H7
          intro w7 hs7 k7
          obtain ⟨ah7, de7, mi7, hF7, hah7, hde7, hmi7⟩ := w7.file i
          rw [eD5] at hde7
          have eL7 : ((seg P.row (z.c i + t) c2).map V.int).length = c2 - (z.c i + t) := by rw [map_len, seg_len (by omega)]
          refine ⟨_, rfl, _, _, _, _, _, rfl, hF7, T.cls_File, T.n_File_delayed, fF_delayed, _, rfl, _, _, _, _, rfl, rfl, hde7.1, hs7.1, sz1 (by rw [map_len, seg_len (by omega), eL7]; omega), fun p8 hp8 => ?_⟩
          rw [cat_map, seg_app (by omega) (by omega) (by omega)]
          have w8 := w7.new (o := .lst ((seg P.row m5 c2).map V.int)) hp8
          have hs8 : Lst P (upd H7 p8 (.lst ((seg P.row m5 c2).map V.int))) p8 (seg P.row m5 c2) := lst_new w7 hp8
          obtain ⟨ah8, de8, mi8, hF8, hah8, hde8, hmi8⟩ := w8.file i
          refine ⟨_, rfl, _, _, _, _, rfl, hF8, T.cls_File, T.n_File_delayed, Nat.lt_of_le_of_lt (Nat.le_of_eq fF_len) (by decide), ?_⟩
          have w9 := w8.s_delayed hF8 hah8 hmi8 hs8
          have k8 := k7.trans (Ex.new (o := .lst ((seg P.row m5 c2).map V.int)) hp8).keep
          have hs9 := hs7.keep (Ex.new (o := .lst ((seg P.row m5 c2).map V.int)) hp8).keep
          obtain ⟨ah9, de9, mi9, hF9, hah9, hde9, hmi9⟩ := w9.file i
          refine ⟨_, rfl, _, _, _, _, _, rfl, hF9, T.cls_File, T.n_File_cursor, fF_cursor, _, rfl, _, _, rfl, .inl (hs9.keep Only.upd.keep).sq, _, _, rfl, rfl, _, rfl, _, _, _, _, rfl, hF9, T.cls_File, T.n_File_cursor, Nat.lt_of_le_of_lt (Nat.le_of_eq fF_len) (by decide), ?_⟩
          have wA := (w9.s_cursor hF9 hah9 hde9 hmi9 (b := ({ toWS P (z.wr i (z.c i + t) m5 ns5) with f := up (toWS P (z.wr i (z.c i + t) m5 ns5)).f i { (toWS P (z.wr i (z.c i + t) m5 ns5)).f i with de := seg P.row m5 c2 } }.f i).cu + ((((seg P.row (z.c i + t) c2).map V.int).length : Nat) : Int))).cast (t := toWS P (z.wr i (z.c i + (c2 - z.c i)) m5 ns5)) (WS.eq (fun j => by
            rw [show z.c i + (c2 - z.c i) = c2 by omega]
            by_cases hj : j = i
            · subst hj
              show up _ j _ j = (⟨z.po j, lvI z.lv j, ((up z.c j c2 j : Nat) : Int), seg P.row (up z.c j c2 j) (up z.hi j c2 j), seg P.row (up z.lo j m5 j) (up z.c j c2 j), []⟩ : FR)
              rw [up_same, up_same, up_same, up_same, seg_self]
              show (⟨FR.po (up _ j _ j), FR.lv (up _ j _ j), FR.cu (up _ j _ j) + _, FR.ah (up _ j _ j), FR.de (up _ j _ j), FR.mi (up _ j _ j)⟩ : FR) = _
              rw [up_same, eL7]
              show (⟨z.po j, lvI z.lv j, ((up z.c j (z.c j + t) j : Nat) : Int) + _, seg P.row (up z.c j (z.c j + t) j) (up z.hi j (z.c j + t) j), seg P.row m5 c2, []⟩ : FR) = _
              rw [up_same, up_same, seg_self]
              congr 1
              omega
            · show up _ i _ j = (⟨z.po j, lvI z.lv j, ((up z.c i c2 j : Nat) : Int), seg P.row (up z.c i c2 j) (up z.hi i c2 j), seg P.row (up z.lo i m5 j) (up z.c i c2 j), []⟩ : FR)
              rw [up_ne hj, up_ne hj, up_ne hj, up_ne hj]
              show up _ i _ j = _
              rw [up_ne hj]
              show (⟨z.po j, lvI z.lv j, ((up z.c i (z.c i + t) j : Nat) : Int), seg P.row (up z.c i (z.c i + t) j) (up z.hi i (z.c i + t) j), seg P.row (up z.lo i m5 j) (up z.c i (z.c i + t) j), []⟩ : FR) = _
              rw [up_ne hj, up_ne hj, up_ne hj]) (fun _ => rfl) (fun _ => rfl) rfl)
          refine ⟨_, rfl, _, rfl, _, _, rfl, .inl ((hs9.keep Only.upd.keep).keep Only.upd.keep).sq, _, _, rfl, rfl, ?_⟩
          dsimp only
          rw [show ((t : Nat) : Int) + ((((seg P.row (z.c i + t) c2).map V.int).length : Nat) : Int) = ((c2 - z.c i : Nat) : Int) by rw [eL7]; omega]
          have hc2t : z.c i + t < c2 := by omega
          refine ⟨_, rfl, _, rfl, ifF rfl ⟨k - (c2 - z.c i), by omega, c2 - z.c i, m5, ns5, _, _, rfl, wA, (k8.trans Only.upd.keep).trans Only.upd.keep, by omega, rfl, by omega, by omega, by omega, by omega, by omega, fun ew => by rw [hm5]; exact hpq ew⟩⟩
        · rw [wr_mv] at w5
          have s1 := sto.lo
          have s2 := sto.c
          have s3 := sto.n1
          have s4 := sto.n2
          rw [eLo] at s1 s4
          rw [eC] at s2
          rw [eNs] at s3 s4
          have k5' := k4.trans k5
          clear k5
          have k5 := k5'
          have hpw : i = .wi → (m5 : Int) - z.sp .ro = P.proom := fun ew => by
            have := sto.w ew
            subst ew
            rw [wr_ro] at this
            exact this
          have hpt : i = .to → (z.n i).length < (P.plan i).length := fun et => by
            have := sto.t et
            rw [eNs] at this
            omega
          have hl5 := hl.keep k5
          obtain ⟨ah5, de5, mi5, hF5, hah5, hde5, hmi5⟩ := w5.file i
          have eD5 : ((toWS P (z.wr i (z.c i + t) m5 ns5)).f i).de = seg P.row m5 (z.c i + t) := by
            show seg P.row (up z.lo i m5 i) (up z.c i (z.c i + t) i) = _
            rw [up_same, up_same]
          rw [eD5] at hde5
          have eL5 : ((seg P.row m5 (z.c i + t)).map V.int).length = z.c i + t - m5 := by rw [map_len, seg_len (by omega)]
          obtain ⟨F, hF0⟩ : ∃ F : Nat, P.room i - ((z.c i + t - m5 : Nat) : Int) = (F : Int) := ⟨(P.room i - ((z.c i + t - m5 : Nat) : Int)).toNat, by omega⟩
          obtain ⟨c2, hc2⟩ : ∃ c2, c2 = min (z.c i + t + F) (z.c i + k) := ⟨_, rfl⟩
          refine ⟨_, rfl, _, rfl, _, rfl, _, rfl, _, rfl, _, _, _, _, _, rfl, hF5, T.cls_File, T.n_File_room, fF_room, _, _, rfl, rfl, _, rfl, _, _, _, _, _, rfl, hF5, T.cls_File, T.n_File_delayed, fF_delayed, _, _, rfl, .inl hde5.sq, _, _, rfl, rfl, _, rfl, _, _, rfl, hl5.sq, fun p6 hp6 => ?_⟩
          have eS : cutV ((seg P.row (z.c i) (z.c i + k)).map V.int) (some ((t : Nat) : Int)) (some (((t : Nat) : Int) + P.room i - (((seg P.row m5 (z.c i + t)).map V.int).length : Int))) = (seg P.row (z.c i + t) c2).map V.int := by
            rw [eL5, show ((t : Nat) : Int) + P.room i - ((z.c i + t - m5 : Nat) : Int) = ((t + F : Nat) : Int) by omega, cut_mid, seg_mid, hc2, Nat.add_assoc]
          rw [eS]
          have w6 := w5.new (o := .lst ((seg P.row (z.c i + t) c2).map V.int)) hp6
          have hs6 : Lst P (upd H5 p6 (.lst ((seg P.row (z.c i + t) c2).map V.int))) p6 (seg P.row (z.c i + t) c2) := lst_new w5 hp6
          refine ⟨_, _, rfl, .inl hs6.sq, fun p7 hp7 => ?_⟩
          have w7 := w6.new (o := .lst ((seg P.row (z.c i + t) c2).map V.int)) hp7
          have hs7 : Lst P (upd (upd H5 p6 (.lst ((seg P.row (z.c i + t) c2).map V.int))) p7 (.lst ((seg P.row (z.c i + t) c2).map V.int))) p7 (seg P.row (z.c i + t) c2) := lst_new w6 hp7
          have k7 := (k5.trans (Ex.new hp6).keep).trans (Ex.new (o := .lst ((seg P.row (z.c i + t) c2).map V.int)) hp7).keep
          revert w7 hs7 k7
          generalize upd (upd H5 p6 (.lst ((seg P.row (z.c i + t) c2).map V.int))) p7 (.lst ((seg P.row (z.c i + t) c2).map V.int)) = H7
          intro w7 hs7 k7
          obtain ⟨ah7, de7, mi7, hF7, hah7, hde7, hmi7⟩ := w7.file i
          rw [eD5] at hde7
          have eL7 : ((seg P.row (z.c i + t) c2).map V.int).length = c2 - (z.c i + t) := by rw [map_len, seg_len (by omega)]
          refine ⟨_, rfl, _, _, _, _, _, rfl, hF7, T.cls_File, T.n_File_delayed, fF_delayed, _, rfl, _, _, _, _, rfl, rfl, hde7.1, hs7.1, sz1 (by rw [map_len, seg_len (by omega), eL7]; omega), fun p8 hp8 => ?_⟩
          rw [cat_map, seg_app (by omega) (by omega) (by omega)]
          have w8 := w7.new (o := .lst ((seg P.row m5 c2).map V.int)) hp8
          have hs8 : Lst P (upd H7 p8 (.lst ((seg P.row m5 c2).map V.int))) p8 (seg P.row m5 c2) := lst_new w7 hp8
          obtain ⟨ah8, de8, mi8, hF8, hah8, hde8, hmi8⟩ := w8.file i
          refine ⟨_, rfl, _, _, _, _, rfl, hF8, T.cls_File, T.n_File_delayed, Nat.lt_of_le_of_lt (Nat.le_of_eq fF_len) (by decide), ?_⟩
          have w9 := w8.s_delayed hF8 hah8 hmi8 hs8
          have k8 := k7.trans (Ex.new (o := .lst ((seg P.row m5 c2).map V.int)) hp8).keep
          have hs9 := hs7.keep (Ex.new (o := .lst ((seg P.row m5 c2).map V.int)) hp8).keep
          obtain ⟨ah9, de9, mi9, hF9, hah9, hde9, hmi9⟩ := w9.file i
          refine ⟨_, rfl, _, _, _, _, _, rfl, hF9, T.cls_File, T.n_File_cursor, fF_cursor, _, rfl, _, _, rfl, .inl (hs9.keep Only.upd.keep).sq, _, _, rfl, rfl, _, rfl, _, _, _, _, rfl, hF9, T.cls_File, T.n_File_cursor, Nat.lt_of_le_of_lt (Nat.le_of_eq fF_len) (by decide), ?_⟩
          have wA := (w9.s_cursor hF9 hah9 hde9 hmi9 (b := ({ toWS P (z.wr i (z.c i + t) m5 ns5) with f := up (toWS P (z.wr i (z.c i + t) m5 ns5)).f i { (toWS P (z.wr i (z.c i + t) m5 ns5)).f i with de := seg P.row m5 c2 } }.f i).cu + ((((seg P.row (z.c i + t) c2).map V.int).length : Nat) : Int))).cast (t := toWS P (z.wr i (z.c i + (c2 - z.c i)) m5 ns5)) (WS.eq (fun j => by
            rw [show z.c i + (c2 - z.c i) = c2 by omega]
            by_cases hj : j = i
            · subst hj
              show up _ j _ j = (⟨z.po j, lvI z.lv j, ((up z.c j c2 j : Nat) : Int), seg P.row (up z.c j c2 j) (up z.hi j c2 j), seg P.row (up z.lo j m5 j) (up z.c j c2 j), []⟩ : FR)
              rw [up_same, up_same, up_same, up_same, seg_self]
              show (⟨FR.po (up _ j _ j), FR.lv (up _ j _ j), FR.cu (up _ j _ j) + _, FR.ah (up _ j _ j), FR.de (up _ j _ j), FR.mi (up _ j _ j)⟩ : FR) = _
              rw [up_same, eL7]
              show (⟨z.po j, lvI z.lv j, ((up z.c j (z.c j + t) j : Nat) : Int) + _, seg P.row (up z.c j (z.c j + t) j) (up z.hi j (z.c j + t) j), seg P.row m5 c2, []⟩ : FR) = _
              rw [up_same, up_same, seg_self]
              congr 1
              omega
            · show up _ i _ j = (⟨z.po j, lvI z.lv j, ((up z.c i c2 j : Nat) : Int), seg P.row (up z.c i c2 j) (up z.hi i c2 j), seg P.row (up z.lo i m5 j) (up z.c i c2 j), []⟩ : FR)
              rw [up_ne hj, up_ne hj, up_ne hj, up_ne hj]
              show up _ i _ j = _
              rw [up_ne hj]
              show (⟨z.po j, lvI z.lv j, ((up z.c i (z.c i + t) j : Nat) : Int), seg P.row (up z.c i (z.c i + t) j) (up z.hi i (z.c i + t) j), seg P.row (up z.lo i m5 j) (up z.c i (z.c i + t) j), []⟩ : FR) = _
              rw [up_ne hj, up_ne hj, up_ne hj]) (fun _ => rfl) (fun _ => rfl) rfl)
          refine ⟨_, rfl, _, rfl, _, _, rfl, .inl ((hs9.keep Only.upd.keep).keep Only.upd.keep).sq, _, _, rfl, rfl, ?_⟩
          dsimp only
          rw [show ((t : Nat) : Int) + ((((seg P.row (z.c i + t) c2).map V.int).length : Nat) : Int) = ((c2 - z.c i : Nat) : Int) by rw [eL7]; omega]
          refine ⟨_, rfl, _, rfl, ifT rfl ⟨_, rfl, _, rfl, _, _, rfl, .inl (hl.keep ((k8.trans Only.upd.keep).trans Only.upd.keep)).sq, _, _, rfl, rfl, _, rfl, ite2 (fun e7 => ?_) fun e7 => ?_⟩⟩
          · have e8 := of_decide_eq_true e7
            rw [map_len, elen] at e8
            refine ⟨_, rfl, rfl, rfl, fun a na => spStalled_q (fun d Hx nd ex hd => ?_) na⟩
            exact qN (c2 - z.c i) m5 ns5 Hx d ⟨by omega, by omega, by omega, by omega, by omega, by omega, hpw, hpt⟩ (((k8.trans Only.upd.keep).trans Only.upd.keep).trans ex.keep) (wA.ex ex) hd
          · have e8 : ¬ ((c2 - z.c i : Nat) : Int) < (k : Int) := fun q => e7 (decide_eq_true (by rw [map_len, elen]; exact q))
            exact ⟨0, by omega, c2 - z.c i, m5, ns5, _, _, rfl, wA, (k8.trans Only.upd.keep).trans Only.upd.keep, by omega, by omega, by omega, by omega, by omega, by omega, by omega, fun ew => by rw [hpw ew]; exact Int.le_refl _⟩
        · rw [wr_mv] at w5
          have s1 := sto.lo
          have s2 := sto.c
          have s3 := sto.n1
          have s4 := sto.n2
          have s5 := sto.t et
          rw [eLo] at s1 s4
          rw [eC] at s2
          rw [eNs] at s3 s4 s5
          exact qX t m5 ns5 H5 d x et ⟨htk, by omega, by omega, by omega, by omega, by omega, (fun ew => by rw [ew] at et; cases et), fun _ => by omega⟩ hx (k4.trans k5) w5 hd
    · have e1 : t = k := by
        rcases Nat.lt_or_ge t k with h | h
        · exact absurd (decide_eq_true (by rw [map_len, elen]; omega)) e
        · omega
      subst e1
      exact ⟨_, rfl, qV m ns H4 hm1 hm2 hm3 hn1 hn2 hp4 k4 w4⟩
end
end Sip

set_option Elab.async false
set_option linter.all false
set_option maxRecDepth 100000
set_option maxHeartbeats 4000000
noncomputable section
namespace Sip
open PySem PySem.Spec PyProof.Rows L2 SipX L2H HotX
/-- try: body finally: suite, where the body raises nothing and ends at its end -/
theorem ps_bodyFin {X : Cx} {body : List Stmt} {f₀ : Stmt} {fs : List Stmt} {tb tf : TS} {pos : Pos} (hb : PSs X.nox body tb) (hf : PSs X.nox (f₀ :: fs) tf) :
    PS X (.Try body [] [] (f₀ :: fs) pos) (fun D σ H => tb { nx := fun σ' H' => tf D σ' H', rt := fun _ _ => False } σ H) := by
  refine ⟨fun pins s σ H D I h => ?_⟩
  refine wpAny_Try_finally (wpAny_mono (hb.run pins s σ H _ (I.wish _) h) (fun f s1 z => ?_) fun _ _ z => False.elim z)
  have z' := z.unwish
  cases f with
  | next =>
    obtain ⟨σ1, H1, I1, q⟩ := z'
    refine wpAny_execs_nil ?_
    refine wpAny_mono (hf.run pins s1 σ1 H1 D (I1.wish _) q) (fun g s2 q2 => ?_) fun _ _ z => False.elim z
    have q' : SP X pins D g s2 := q2.unwish
    cases g with
    | next => exact q'
    | ret w2 => exact q'
    | brk => exact q'
    | cont => exact q'
  | ret w2 => obtain ⟨v, σ1, H1, I1, r, q⟩ := z'; exact q.elim
  | brk => obtain ⟨σ1, H1, I1, q⟩ := z'; exact q.elim
  | cont => obtain ⟨σ1, H1, I1, q⟩ := z'; exact q.elim
theorem takes_no {X : Cx} : L2.Takes X (fun _ _ _ _ => False) := fun u s' x => by
  obtain ⟨a, B, sI, pins, σ, H, cls, d, e, I, nb, up, sky, na, os, ag, w⟩ := x
  exact w.elim
theorem ps_raiseFromZ {X : Cx} {a0 : Addr} {oe0 : Obj} {cls0 : Value} {d0 : Option Addr} {pn : List (Addr × Obj)} {xe : Value → Shared → Prop} {W : WX} {e : Expr} {t : L2.St → Hp → XK → Prop} {i : Nat} {x : Str} {cpos pos : Pos} (hN : X.N[i]? = some x) (hv : X.env.kindOf x = some .local)
    (hz0 : L2N.Zn cls0 d0 oe0) (hf0 : ∃ vs, oe0.data = .fields vs) (hd : (x == ("__debug__" : Str)) = false) (hcd : (x == ("__classdict__" : Str)) = false)
    (hc : HotC (suiteZ X a0 ((a0, oe0) :: pn) xe)) (tk : L2.Takes (suiteZ X a0 ((a0, oe0) :: pn) xe) W) (he : PMk5 (suiteZ X a0 ((a0, oe0) :: pn) xe) e t) :
    PS (suiteZ X a0 ((a0, oe0) :: pn) xe) (.Raise (some e) (some (.Name x cpos)) pos) (fun _ σ H => t σ H fun cls d H' => PySem.W.subIn X.K cls0 (.type "BaseException") = some true ∧ σ[i]? = some (some (.ref a0)) ∧ W cls d σ H') :=
  ps_raiseFrom (Y := X.tr X.pn xe) hN hv hz0 hf0 hd hcd hc tk he
def spClose (K : PySem.W.Frag) : Sp := fun vs H Q _ => ∃ (P : Pm) (z : Z), vs = [.ref (P.A (.f .wi))] ∧ W P K H (toWS P z) ∧ z.lv = true ∧ z.lo .wi = z.c .wi ∧ ∀ H', Keep P H H' → W P K H' (toWS P { z with lv := false }) → Q .non H'
def spAlike (K : PySem.W.Frag) : Sp := fun vs H Q _ => ∃ (P : Pm) (s : WS) (i j : Ix), vs = [.ref (P.A (.f i)), .ref (P.A (.f j))] ∧ W P K H s ∧ Q (.bl true) H
def spSeen (K : PySem.W.Frag) (i : Ix) : Sp := fun vs H Q E => ∃ (P : Pm) (z : Z) (many : Nat) (cnt : Int), vs = [.ref (P.A (.f i)), .int many, .int cnt] ∧ 1 ≤ many ∧ many ≤ 64 ∧ W P K H (toWS P z) ∧ Sr P z i ∧ lvI z.lv i = true ∧
  (∀ m ns l H', Got P z i m ns → Keep P H H' → W P K H' (toWS P (z.fet i m ns)) → Lst P H' l (seg P.row (z.c i) (min (z.c i + many) m)) → Q (.ref l) H') ∧
  (∀ H', z.c i = z.hi i → StC P z i → Keep P H H' → W P K H' (toWS P (z.fet i (z.hi i) (z.n i ++ [none]))) → Q .non H') ∧
  ∀ H' d x, i = .fr → StC P z i → 1 ≤ x → Keep P H H' → W P K H' (toWS P (z.fet i (z.hi i) (z.n i ++ [none]))) → H' d = some (.xd [("side", .str "source"), ("count", .int cnt), ("number", .int x)]) → E (.ref (He.ga K "PourFault")) (some d) H'
def spHanded (K : PySem.W.Frag) (i : Ix) : Sp := fun vs H Q _ => ∃ (P : Pm) (z : Z) (l : Addr) (k : Nat), vs = [.ref (P.A (.f i)), .ref l] ∧ W P K H (toWS P z) ∧ Tg P z i ∧ z.hi i = z.c i ∧ (z.n i).length ≤ 6000000 ∧ ((z.c i : Nat) : Int) - z.lo i ≤ P.room i ∧
  Lst P H l (seg P.row (z.c i) (z.c i + k)) ∧ 1 ≤ k ∧ z.c i + k ≤ P.row.length ∧
  (∀ m ns p H', z.lo i ≤ m → m ≤ z.c i + k → ((z.c i + k : Nat) : Int) - m ≤ P.room i → (z.n i).length ≤ ns.length → ns.length ≤ (z.n i).length + (m - z.lo i) + k → (i = .wi → (m : Int) - z.sp .ro ≤ P.proom) → Keep P H H' →
    W P K H' (toWS P (z.wr i (z.c i + k) m ns)) → H' p = some (.tup [.int (k : Nat), .str "", .int 0]) → Q (.ref p) H') ∧
  (∀ t m ns p H', WSto P z i k t m ns → Keep P H H' → W P K H' (toWS P (z.wr i (z.c i + t) m ns)) → H' p = some (.tup [.int (t : Nat), .str "stalled", .int 0]) → Q (.ref p) H') ∧
  ∀ t m ns p H' x, i = .to → WSto P z i k t m ns → 1 ≤ x → Keep P H H' → W P K H' (toWS P (z.wr i (z.c i + t) m ns)) → H' p = some (.tup [.int (t : Nat), .str "fault", .int x]) → Q (.ref p) H'
section
variable {prog : Program} {w : World} {base : Heap} {K : PySem.W.Frag} {mg : Str → Option Value}
theorem Txt.b_File_peek (T : Txt K mg) : Binds K (fdO K d_File_peek) ["self", "many"] [] := by
  obtain ⟨ds, v, b⟩ := T.F_File_peek.binds1 (ps := ["self", "many"]) 2 1 (fun z => by cases (show [V.int 1] = [] from z)) rfl fun T kV doc pm an cdv ct us its hu hi => by
    match us, hu, its, hi with
    | [_, _], _, [_], _ => exact ⟨_, rfl, rfl⟩
  cases v
  exact b
theorem Txt.b_File_read (T : Txt K mg) : Binds K (fdO K d_File_read) ["self", "many"] [] := by
  obtain ⟨ds, v, b⟩ := T.F_File_read.binds1 (ps := ["self", "many"]) 2 1 (fun z => by cases (show [V.non] = [] from z)) rfl fun T kV doc pm an cdv ct us its hu hi => by
    match us, hu, its, hi with
    | [_, _], _, [_], _ => exact ⟨_, rfl, rfl⟩
  cases v
  exact b
theorem ok_File_flush (T : Txt K mg) (i : Ix) (hi : isT i = true) : FnOk prog w K mg base (L2N.CX prog w) 6 (He.fAd K d_File_flush.at_) (fdO K d_File_flush) ["self"] (spHandOn K i) :=
  T.F_File_flush.ok sc_File_flush (fun vs H Q E h => by obtain ⟨_, _, rfl, _⟩ := h; rfl) fun cdv A outer st H vs Q E hr h => by
    obtain ⟨P, z, rfl, w, tg, qV, qN, qX⟩ := h
    obtain ⟨ah, de, mi, hF, hah, hde, hmi⟩ := w.file i
    refine ⟨_, (pss_cons (ps_expr (pe_meth0 (pv 0) T.cls_File T.m_File_living (ok_File_living T) (hr.mono (by decide)) T.b_File_living .nil pz)) (pss_one (ps_expr (pe_meth0 (pv 0) T.cls_File T.m_File_hand_on (ok_File_hand_on T i hi) (hr.mono (by decide)) T.b_File_hand_on .nil (L2N.passes_call (L2N.takes_of rfl rfl rfl rfl) (fun _ _ _ _ h => h)))))), ?_⟩
    exact ⟨_, rfl, _, _, _, rfl, hF, fF_no_living, P, _, i, rfl, w, tg_lv tg, _, rfl, _, _, _, rfl, hF, fF_no_hand_on, P, z, rfl, w, tg, qV, qN, qX⟩
theorem ok_File_close (T : Txt K mg) : FnOk prog w K mg base CXz 6 (He.fAd K d_File_close.at_) (fdO K d_File_close) ["self"] (spClose K) :=
  T.F_File_close.ok sc_File_close (fun vs H Q E h => by obtain ⟨_, _, rfl, _⟩ := h; rfl) fun cdv A outer st H vs Q E hr h => by
    obtain ⟨P, z, rfl, w, hlv, hlo, q⟩ := h
    obtain ⟨ah, de, mi, hF, hah, hde, hmi⟩ := w.file .wi
    refine ⟨_, (pss_one (ps_if (pt_val (pe_fld (pv 0) rfl)) (pss_one (ps_bodyFin (pss_one (ps_expr (pe_meth0 (pv 0) T.cls_File T.m_File_hand_on (ok_File_hand_on0 T) (hr.mono (by decide)) T.b_File_hand_on .nil pz)))
      (pss_cons (ps_fld (pv 0) pe_bl rfl) (pss_cons (ps_fld (pe_fld (pv 0) rfl) pe_bl rfl) (pss_cons (ps_fld (pv 0) (pe_fld (pv 0) rfl) rfl) (pss_one (ps_fld (pv 0) (pe_lst pa_nil) rfl))))))) pss_nil)), ?_⟩
    have hde0 : ((toWS P z).f .wi).de = [] := by
      show seg P.row (z.lo .wi) (z.c .wi) = []
      rw [hlo, seg_self]
    refine ⟨_, rfl, _, _, _, _, _, rfl, hF, T.cls_File, T.n_File_live, fF_live, _, rfl, ifT hlv ?_⟩
    refine ⟨_, rfl, _, _, _, rfl, hF, fF_no_hand_on, P, _, .wi, rfl, w, hde0, ?_⟩
    refine ⟨_, rfl, _, _, _, _, rfl, hF, T.cls_File, T.n_File_live, Nat.lt_of_le_of_lt (Nat.le_of_eq fF_len) (by decide), ?_⟩
    have w1 := w.s_live hF hah hde hmi (b := false)
    obtain ⟨ah1, de1, mi1, hF1, hah1, hde1, hmi1⟩ := w1.file .wi
    have hM1 := w1.end_ (i := .wi) rfl
    refine ⟨_, rfl, _, _, _, _, _, rfl, hF1, T.cls_File, T.n_File_raw, fF_raw, _, _, _, _, rfl, hM1, T.cls_Mouth, T.n_Mouth_live, Nat.lt_of_le_of_lt (Nat.le_of_eq eF_len) (by decide), ?_⟩
    have w2 := w1.s_rlive (i := .wi) rfl (b := false)
    obtain ⟨ah2, de2, mi2, hF2, hah2, hde2, hmi2⟩ := w2.file .wi
    refine ⟨_, rfl, _, _, _, _, _, rfl, hF2, T.cls_File, T.n_File_delayed, fF_delayed, _, rfl, _, _, _, _, rfl, hF2, T.cls_File, T.n_File_missed, Nat.lt_of_le_of_lt (Nat.le_of_eq fF_len) (by decide), ?_⟩
    have w3 := w2.s_missed hF2 hah2 hde2 hde2
    refine ⟨sz1 (by simp), fun p hp => ?_⟩
    have w4 := w3.new (o := .lst []) hp
    have hl4 : Lst P (upd _ p (.lst [])) p [] := lst_newE w3 (ys := []) hp rfl
    obtain ⟨ah4, de4, mi4, hF4, hah4, hde4, hmi4⟩ := w4.file .wi
    refine ⟨_, rfl, _, _, _, _, rfl, hF4, T.cls_File, T.n_File_delayed, Nat.lt_of_le_of_lt (Nat.le_of_eq fF_len) (by decide), ?_⟩
    refine q _ ((((Only.upd.keep.trans Only.upd.keep).trans Only.upd.keep).trans (Ex.new hp).keep).trans Only.upd.keep) ((w4.s_delayed hF4 hah4 hmi4 hl4).cast (WS.eq (fun j => ?_) (fun j => ?_) (fun _ => rfl) rfl))
    · have e0 : seg P.row (z.lo .wi) (z.c .wi) = [] := hde0
      cases j
      · rfl
      · show (⟨z.po .wi, false, (z.c .wi : Nat), seg P.row (z.c .wi) (z.hi .wi), [], seg P.row (z.lo .wi) (z.c .wi)⟩ : FR) = ⟨z.po .wi, false, (z.c .wi : Nat), seg P.row (z.c .wi) (z.hi .wi), seg P.row (z.lo .wi) (z.c .wi), []⟩
        rw [e0]
      · rfl
      · rfl
    · cases j <;> rfl
theorem ok_alike (T : Txt K mg) : FnOk prog w K mg base CXz 1 (He.fAd K d_alike.at_) (fdO K d_alike) ["source", "target"] (spAlike K) :=
  T.F_alike.ok sc_alike (fun vs H Q E h => by obtain ⟨_, _, _, _, rfl, _⟩ := h; rfl) fun cdv A outer st H vs Q E hr h => by
    obtain ⟨P, s, i, j, rfl, w, q⟩ := h
    obtain ⟨ah, de, mi, hF, hah, hde, hmi⟩ := w.file i
    obtain ⟨ah2, de2, mi2, hF2, hah2, hde2, hmi2⟩ := w.file j
    have I := T.ins_File
    have kit : PySem.W.kitOne K (.ref (He.ga K "File")) (.ref (He.ga K "File")) = some true := by
      unfold PySem.W.kitOne
      rw [if_pos (by simp)]
    refine ⟨_, (pss_cons (ps_if (pt_val (pe_callB call_isi (by rfl) T.n_isinstance (by decide +kernel) (pa_cons (pv 0) (pa_cons (pe_glob (v := .ref (He.ga K "File")) rfl T.g_File rfl) pa_nil))))
      (pss_one (ps_ret (pe_callB call_isi (by rfl) T.n_isinstance (by decide +kernel) (pa_cons (pv 1) (pa_cons (pe_glob (v := .ref (He.ga K "File")) rfl T.g_File rfl) pa_nil))))) pss_nil) (pss_one ps_never)), ?_⟩
    refine ⟨_, rfl, _, _, _, _, true, rfl, .own _, .base (.ins hF T.cls_File I.ha I.hn I.htk I.hm), kit, true, rfl, ifT rfl ?_⟩
    exact ⟨_, rfl, _, _, _, _, true, rfl, .own _, .base (.ins hF2 T.cls_File I.ha I.hn I.htk I.hm), kit, q⟩
theorem ok_seen_ahead (T : Txt K mg) (i : Ix) (hi : isT i = false) : FnOk prog w K mg base (L2.CX prog w) 8 (He.fAd K d_seen_ahead.at_) (fdO K d_seen_ahead) ["source", "many", "count"] (spSeen K i) :=
  T.F_seen_ahead.ok sc_seen_ahead (fun vs H Q E h => by obtain ⟨_, _, _, _, rfl, _⟩ := h; rfl) fun cdv A outer st H vs Q E hr h => by
    obtain ⟨P, z, many, cnt, rfl, h1m, hmany, w, sr, hlv, qV, qN, qX⟩ := h
    obtain ⟨ah, de, mi, hF, hah, hde, hmi⟩ := w.file i
    refine ⟨_, (pss_one (ps_tryAN rfl rfl rfl sc_seen_ahead.nd (fun hd => PassesOwnAt.leaving) (L2.takes_of rfl rfl rfl rfl)
      (fun W pn xe tk own => pss_one (ps_ret (pe_methD (E := L2.WE W) (pv 0) T.cls_File T.m_File_peek (ok_File_peek T i hi) (hr.mono (by decide)) T.b_File_peek .nil (fun σ => L2N.passAt tk σ) (pa_cons (pv 1) pa_nil) rfl rfl rfl)))
      (.one ⟨by rfl, by decide, .inl T.g_Stalled⟩ (fun a oe cls d pn xe zn hv tk hot => pss_one (ps_ret pe_non))
        (.as (i := 3) ⟨by rfl, by decide, .inl T.g_Fault⟩ rfl rfl (fun a oe cls d pn xe zn hv tk hot => pss_one (ps_raiseFromZ (i := 3) rfl rfl zn hv (by decide) (by decide) hot tk (pmk_kwH T.o_PourFault T.ii_PourFault.1 T.ii_PourFault.2 (okH_PourFault___init__ T) (roomH_mark (hr.mono (by decide)) _) hot T.kP (by decide) pz (by rfl) T.g_PourFault
            (pa_cons (pe_xfZ T.f_Fault T.n_Fault_number zn.zc hv (List.mem_cons_self ..) (pv 3)) pa_nil) (pk_cons (pv 2) (pk_cons pe_str pk_nil))))) .nil)))), ?_⟩
    refine ⟨_, rfl, _, _, _, rfl, hF, fF_no_peek, _, rfl, P, z, many, rfl, h1m, hmany, w, sr, hlv, qV, qN, fun H1 d x et sc hx k w1 hd => ?_⟩
    refine ⟨false, T.x_Fault_Stalled, (fun q => Bool.noConfusion q), fun _ => ⟨true, T.x_Fault_Fault, fun _ a na => ?_, fun q => Bool.noConfusion q⟩⟩
    refine ⟨_, rfl, rfl, rfl, d, _, _, rfl, hd, lk_tn, _, rfl, rfl, rfl, fun b nb => ?_⟩
    exact spPourFault_q (fun d2 Hx nd ex hdx => ⟨T.o_Fault.exC, rfl, qX Hx d2 x et sc hx (k.trans ex.keep) (w1.ex ex) hdx⟩) nb
theorem ok_handed_on (T : Txt K mg) (i : Ix) (hi : isT i = true) : FnOk prog w K mg base CXz 8 (He.fAd K d_handed_on.at_) (fdO K d_handed_on) ["target", "piece"] (spHanded K i) :=
  T.F_handed_on.ok sc_handed_on (fun vs H Q E h => by obtain ⟨_, _, _, _, rfl, _⟩ := h; rfl) fun cdv A outer st H vs Q E hr h => by
    obtain ⟨P, z, l, k, rfl, w, tg, hhi, hn6, hrm, hl, hk, hkN, qV, qN, qX⟩ := h
    obtain ⟨ah, de, mi, hF, hah, hde, hmi⟩ := w.file i
    refine ⟨_, (pss_one (ps_tryAC rfl rfl rfl sc_handed_on.nd (fun hd => PassesOwnAt.leaving) takes_no
      (fun W pn xe tk own => pss_one (ps_ret (pe_tup (pa_cons (pe_methD (E := L2.WE W) (pv 0) T.cls_File T.m_File_write (ok_File_write T i hi) (hr.mono (by decide)) T.b_File_write .nil (fun σ => L2.passAt tk σ) (pa_cons (pv 1) pa_nil) rfl rfl rfl) (pa_cons pe_str (pa_cons pe_int pa_nil))))))
      (.as (i := 2) ⟨by rfl, by decide, .inl T.g_Stalled⟩ rfl rfl (fun a oe cls d pn xe zn hv tk => pss_one (ps_ret (pe_tup (pa_cons (pe_xfZ T.f_Stalled T.n_Stalled_taken zn hv (List.mem_cons_self ..) (pv 2)) (pa_cons pe_str (pa_cons pe_int pa_nil))))))
        (.as (i := 2) ⟨by rfl, by decide, .inl T.g_Fault⟩ rfl rfl (fun a oe cls d pn xe zn hv tk => pss_one (ps_ret (pe_tup (pa_cons (pe_xfZ T.f_Fault T.n_Fault_taken zn hv (List.mem_cons_self ..) (pv 2)) (pa_cons pe_str (pa_cons (pe_xfZ T.f_Fault T.n_Fault_number zn hv (List.mem_cons_self ..) (pv 2)) pa_nil)))))) .nil)))), ?_⟩
    refine ⟨_, rfl, _, _, _, rfl, hF, fF_no_write, _, rfl, P, z, l, k, rfl, w, tg, hhi, hn6, hrm, hl, hk, hkN, fun m ns H1 a b c d e f g w1 => ?_, fun t m ns H1 d sto kk w1 hd => ?_, fun t m ns H1 d x et sto hx kk w1 hd => ?_⟩
    · exact ⟨sz1 (by simp), fun p hp => qV m ns p _ a b c d e f (g.trans (Ex.new hp).keep) (w1.new hp) upd_same⟩
    · refine ⟨true, T.x_Stalled_Stalled, fun _ a na => ?_, fun q => Bool.noConfusion q⟩
      exact ⟨_, rfl, rfl, rfl, d, _, _, rfl, hd, lk_t, sz1 (by simp), fun p hp => qN t m ns p _ sto (kk.trans (Ex.new hp).keep) (w1.new hp) upd_same⟩
    · refine ⟨false, T.x_Fault_Stalled, (fun q => Bool.noConfusion q), fun _ => ⟨true, T.x_Fault_Fault, fun _ a na => ?_, fun q => Bool.noConfusion q⟩⟩
      exact ⟨_, rfl, rfl, rfl, d, _, _, rfl, hd, lk_tt, _, rfl, rfl, rfl, d, _, _, rfl, hd, lk_tn, sz1 (by simp), fun p hp => qX t m ns p _ x et sto hx (kk.trans (Ex.new hp).keep) (w1.new hp) upd_same⟩
end
end Sip

set_option Elab.async false
set_option linter.all false
set_option maxRecDepth 100000
set_option maxHeartbeats 4000000
noncomputable section
namespace Sip
open PySem PySem.Spec PyProof.Rows L2 SipX L2H HotX
def ds : Ix → Ix | .fr => .wi | .wi => .wi | .ro => .to | .to => .to
theorem ds_ne {s : Ix} (h : isT s = false) : s ≠ ds s := by
  cases s
  · intro e; cases e
  · cases h
  · intro e; cases e
  · cases h
theorem ds_t {s : Ix} (h : isT s = false) : isT (ds s) = true := by
  cases s
  · rfl
  · cases h
  · rfl
  · cases h
/-- what a pouring out of s has come to -/
structure R (P : Pm) (s : Ix) (e : Nat) (z0 z : Z) : Prop where
  zi : ZI P z
  ceq : z.c s = z.c (ds s)
  cle : z0.c s ≤ z.c s
  oth : ∀ i, i ≠ s → i ≠ ds s → z.lo i = z0.lo i ∧ z.c i = z0.c i ∧ z.hi i = z0.hi i ∧ z.sp i = z0.sp i ∧ z.n i = z0.n i
  lv : z.lv = z0.lv
  po : z.po = z0.po
  sps : z0.sp s ≤ z.sp s
  spt : z0.sp (ds s) ≤ z.sp (ds s)
  lom : z0.lo (ds s) ≤ z.lo (ds s)
  n1 : (z0.n s).length ≤ (z.n s).length
  n1t : (z0.n (ds s)).length ≤ (z.n (ds s)).length
  n2 : (z.n s).length ≤ (z0.n s).length + (z.c s - z0.c s) + e
  n3 : (z.n (ds s)).length ≤ (z0.n (ds s)).length + (z.lo (ds s) - z0.lo (ds s)) + (z.c s - z0.c s) + e
def Us (P : Pm) (i : Ix) (z0 z : Z) : Prop := (z0.n i).length < (P.plan i).length ∧ (z0.n i).length < (z.n i).length
def Dr (z : Z) : Prop := z.c .ro = z.sp .ro ∧ z.sp .ro = z.sp .wi
def Full (P : Pm) (z : Z) : Prop := (z.sp .wi : Int) - z.sp .ro = P.proom
inductive Out (P : Pm) : Ix → Z → Z → Str → Prop
  | frS {z0 z : Z} (h : Us P .fr z0 z) : Out P .fr z0 z "stalled"
  | frF {z0 z : Z} (h : Full P z) : Out P .fr z0 z "stalled"
  | roS {z0 z : Z} (l : z.lv = true) (h : Dr z) : Out P .ro z0 z "stalled"
  | roT {z0 z : Z} (h : Us P .to z0 z) : Out P .ro z0 z "stalled"
  | frE {z0 z : Z} (h : z.c .fr = P.row.length) : Out P .fr z0 z "end"
  | roE {z0 z : Z} (l : z.lv = false) (h : Dr z) : Out P .ro z0 z "end"
  | most {s : Ix} {z0 z : Z} : Out P s z0 z "most"
inductive OutF (P : Pm) : Ix → Z → Z → Prop
  | fr {z0 z : Z} (h : Us P .fr z0 z) : OutF P .fr z0 z
  | ro {z0 z : Z} (h : Us P .to z0 z) : OutF P .ro z0 z
theorem ZI.sr {P : Pm} {z : Z} {s : Ix} (h : ZI P z) (hs : isT s = false) (hn : (z.n s).length ≤ 6000000) : Sr P z s := by
  obtain ⟨a, b, c, d⟩ := h.src s hs
  refine ⟨a, b, c, d, by omega, fun e => ⟨h.pip.1, ?_⟩⟩
  have := h.tgt .wi rfl
  omega
theorem ZI.tg {P : Pm} {z : Z} {t : Ix} (h : ZI P z) (ht : isT t = true) (hn : (z.n t).length ≤ 6000000) (hl : t = .wi → z.lv = true) : Tg P z t := by
  obtain ⟨a, b, c, d⟩ := h.tgt t ht
  exact ⟨b, c, d, by omega, fun e => ⟨hl e, h.pip.1, h.pip.2⟩⟩
theorem R.fet {P : Pm} {s : Ix} {z0 z : Z} {m : Nat} {ns : NR} (hs : isT s = false) (r : R P s 0 z0 z) (h1 : z.hi s ≤ m) (h2 : m ≤ P.row.length) (h3 : s = .ro → m ≤ z.sp .wi) (h4 : (z.n s).length ≤ ns.length) (h5 : ns.length ≤ (z.n s).length + 1)
    (h6 : cat ns = cat (z.n s) ++ seg P.row (z.hi s) m) : R P s 1 z0 (z.fet s m ns) := by
  have zi := r.zi
  have q1 := r.n1
  have q2 := r.n2
  have q3 := r.n3
  have q4 := r.sps
  have a0 := zi.src .fr rfl
  have a1 := zi.src .ro rfl
  have a2 := zi.tgt .wi rfl
  have a3 := zi.tgt .to rfl
  have a4 := zi.pip
  have a5 := zi.log
  have a6 := zi.rm
  cases s
  · refine ⟨⟨fun i hi => ?_, fun i hi => ?_, a4, a5, a6⟩, r.ceq, r.cle, fun i e1 e2 => ?_, r.lv, r.po, ?_, r.spt, r.lom, ?_, r.n1t, ?_, ?_⟩
    · cases i
      · show z.lo .fr = z.c .fr ∧ m = m ∧ z.c .fr ≤ m ∧ m ≤ P.row.length
        omega
      · cases hi
      · exact a1
      · cases hi
    · cases i
      · cases hi
      · exact a2
      · cases hi
      · exact a3
    · have := r.oth i e1 e2
      cases i
      · exact absurd rfl e1
      · exact this
      · exact this
      · exact this
    · show z0.sp .fr ≤ m
      omega
    · show (z0.n .fr).length ≤ ns.length
      omega
    · show ns.length ≤ (z0.n .fr).length + (z.c .fr - z0.c .fr) + 1
      omega
    · show (z.n .wi).length ≤ (z0.n .wi).length + (z.lo .wi - z0.lo .wi) + (z.c .fr - z0.c .fr) + 1
      have : (z.n .wi).length ≤ (z0.n .wi).length + (z.lo .wi - z0.lo .wi) + (z.c .fr - z0.c .fr) + 0 := q3
      omega
  · cases hs
  · have h3' := h3 rfl
    have h6' : cat ns = seg P.row 0 m := by
      rw [h6, a5, a1.2.1]
      exact seg_app (Nat.zero_le _) h1 h2
    refine ⟨⟨fun i hi => ?_, fun i hi => ?_, ?_, h6', a6⟩, r.ceq, r.cle, fun i e1 e2 => ?_, r.lv, r.po, ?_, r.spt, r.lom, ?_, r.n1t, ?_, ?_⟩
    · cases i
      · exact a0
      · cases hi
      · show z.lo .ro = z.c .ro ∧ m = m ∧ z.c .ro ≤ m ∧ m ≤ P.row.length
        omega
      · cases hi
    · cases i
      · cases hi
      · exact a2
      · cases hi
      · exact a3
    · show m ≤ z.sp .wi ∧ ((z.sp .wi : Nat) : Int) - (m : Int) ≤ P.proom
      omega
    · have := r.oth i e1 e2
      cases i
      · exact this
      · exact this
      · exact absurd rfl e1
      · exact this
    · show z0.sp .ro ≤ m
      omega
    · show (z0.n .ro).length ≤ ns.length
      omega
    · show ns.length ≤ (z0.n .ro).length + (z.c .ro - z0.c .ro) + 1
      omega
    · show (z.n .to).length ≤ (z0.n .to).length + (z.lo .to - z0.lo .to) + (z.c .ro - z0.c .ro) + 1
      have : (z.n .to).length ≤ (z0.n .to).length + (z.lo .to - z0.lo .to) + (z.c .ro - z0.c .ro) + 0 := q3
      omega
  · cases hs
theorem R.step {P : Pm} {s : Ix} {z0 z : Z} {m m' k e : Nat} {ns ns' : NR} (hs : isT s = false) (r : R P s 0 z0 z) (g : Got P z s m ns) (hk : z.c s + k ≤ m) (he : 1 ≤ k + e)
    (w1 : z.lo (ds s) ≤ m') (w2 : m' ≤ z.c s + k) (w3 : ((z.c s + k : Nat) : Int) - m' ≤ P.room (ds s)) (w4 : (z.n (ds s)).length ≤ ns'.length) (w5 : ns'.length ≤ (z.n (ds s)).length + (m' - z.lo (ds s)) + k + e) (w6 : s = .fr → (m' : Int) - z.sp .ro ≤ P.proom) :
    R P s e z0 (((z.fet s m ns).wr (ds s) (z.c s + k) m' ns').rd s (z.c s + k)) := by
  have h1 := g.lo
  have h2 := g.N
  have h4 := g.n1
  have h5 := g.n2
  have h6 := g.cat
  have zi := r.zi
  have q1 := r.n1
  have q2 := r.n2
  have q3 := r.n3
  have q4 := r.sps
  have q5 := r.spt
  have q6 := r.n1t
  have q7 := r.cle
  have q8 := r.ceq
  have q9 := r.lom
  have a0 := zi.src .fr rfl
  have a1 := zi.src .ro rfl
  have a2 := zi.tgt .wi rfl
  have a3 := zi.tgt .to rfl
  have a4 := zi.pip
  have a5 := zi.log
  have a6 := zi.rm
  cases s
  · have w6' := w6 rfl
    have q8' : z.c .fr = z.c .wi := q8
    have w1' : z.lo .wi ≤ m' := w1
    have w5' : ns'.length ≤ (z.n .wi).length + (m' - z.lo .wi) + k + e := w5
    have w4' : (z.n .wi).length ≤ ns'.length := w4
    have q3' : (z.n .wi).length ≤ (z0.n .wi).length + (z.lo .wi - z0.lo .wi) + (z.c .fr - z0.c .fr) + 0 := q3
    have q5' : z0.sp .wi ≤ z.sp .wi := q5
    have q6' : (z0.n .wi).length ≤ (z.n .wi).length := q6
    refine ⟨⟨fun i hi => ?_, fun i hi => ?_, ?_, a5, fun i hi => ?_⟩, rfl, ?_, fun i e1 e2 => ?_, r.lv, r.po, ?_, ?_, ?_, ?_, ?_, ?_, ?_⟩
    · cases i
      · show z.c .fr + k = z.c .fr + k ∧ m = m ∧ z.c .fr + k ≤ m ∧ m ≤ P.row.length
        omega
      · cases hi
      · exact a1
      · cases hi
    · cases i
      · cases hi
      · show z.c .fr + k = z.c .fr + k ∧ m' = m' ∧ m' ≤ z.c .fr + k ∧ z.c .fr + k ≤ P.row.length
        omega
      · cases hi
      · exact a3
    · show z.sp .ro ≤ m' ∧ (m' : Int) - z.sp .ro ≤ P.proom
      omega
    · cases i
      · cases hi
      · exact w3
      · cases hi
      · exact a6 .to rfl
    · show z0.c .fr ≤ z.c .fr + k
      omega
    · have := r.oth i e1 e2
      cases i
      · exact absurd rfl e1
      · exact absurd rfl e2
      · exact this
      · exact this
    · show z0.sp .fr ≤ m
      omega
    · show z0.sp .wi ≤ m'
      omega
    · show z0.lo .wi ≤ m'
      have q9' : z0.lo .wi ≤ z.lo .wi := q9
      omega
    · show (z0.n .fr).length ≤ ns.length
      omega
    · show (z0.n .wi).length ≤ ns'.length
      omega
    · show ns.length ≤ (z0.n .fr).length + (z.c .fr + k - z0.c .fr) + e
      omega
    · have q9' : z0.lo .wi ≤ z.lo .wi := q9
      show ns'.length ≤ (z0.n .wi).length + (m' - z0.lo .wi) + (z.c .fr + k - z0.c .fr) + e
      omega
  · cases hs
  · have h3' := g.r rfl
    have h6' : cat ns = seg P.row 0 m := by
      rw [h6, a5, a1.2.1]
      exact seg_app (Nat.zero_le _) h1 h2
    have q8' : z.c .ro = z.c .to := q8
    have w1' : z.lo .to ≤ m' := w1
    have w5' : ns'.length ≤ (z.n .to).length + (m' - z.lo .to) + k + e := w5
    have w4' : (z.n .to).length ≤ ns'.length := w4
    have q3' : (z.n .to).length ≤ (z0.n .to).length + (z.lo .to - z0.lo .to) + (z.c .ro - z0.c .ro) + 0 := q3
    have q5' : z0.sp .to ≤ z.sp .to := q5
    have q6' : (z0.n .to).length ≤ (z.n .to).length := q6
    refine ⟨⟨fun i hi => ?_, fun i hi => ?_, ?_, h6', fun i hi => ?_⟩, rfl, ?_, fun i e1 e2 => ?_, r.lv, r.po, ?_, ?_, ?_, ?_, ?_, ?_, ?_⟩
    · cases i
      · exact a0
      · cases hi
      · show z.c .ro + k = z.c .ro + k ∧ m = m ∧ z.c .ro + k ≤ m ∧ m ≤ P.row.length
        omega
      · cases hi
    · cases i
      · cases hi
      · exact a2
      · cases hi
      · show z.c .ro + k = z.c .ro + k ∧ m' = m' ∧ m' ≤ z.c .ro + k ∧ z.c .ro + k ≤ P.row.length
        omega
    · show m ≤ z.sp .wi ∧ ((z.sp .wi : Nat) : Int) - (m : Int) ≤ P.proom
      omega
    · cases i
      · cases hi
      · exact a6 .wi rfl
      · cases hi
      · exact w3
    · show z0.c .ro ≤ z.c .ro + k
      omega
    · have := r.oth i e1 e2
      cases i
      · exact this
      · exact this
      · exact absurd rfl e1
      · exact absurd rfl e2
    · show z0.sp .ro ≤ m
      omega
    · show z0.sp .to ≤ m'
      omega
    · show z0.lo .to ≤ m'
      have q9' : z0.lo .to ≤ z.lo .to := q9
      omega
    · show (z0.n .ro).length ≤ ns.length
      omega
    · show (z0.n .to).length ≤ ns'.length
      omega
    · show ns.length ≤ (z0.n .ro).length + (z.c .ro + k - z0.c .ro) + e
      omega
    · have q9' : z0.lo .to ≤ z.lo .to := q9
      show ns'.length ≤ (z0.n .to).length + (m' - z0.lo .to) + (z.c .ro + k - z0.c .ro) + e
      omega
  · cases hs
end Sip

set_option Elab.async false
set_option linter.all false
set_option maxRecDepth 100000
set_option maxHeartbeats 4000000
noncomputable section
namespace Sip
open PySem PySem.Spec PyProof.Rows L2 SipX L2H HotX
def spPoured (K : PySem.W.Frag) (s : Ix) : Sp := fun vs H Q E => ∃ (P : Pm) (z0 : Z) (room : Nat) (mo : V), vs = [.ref (P.A (.f s)), .ref (P.A (.f (ds s))), .int room, mo] ∧ (mo = .non ∨ ∃ n : Nat, mo = .int n) ∧ 1 ≤ room ∧ room ≤ 64 ∧
  W P K H (toWS P z0) ∧ R P s 0 z0 z0 ∧ (∀ i, (z0.n i).length ≤ 5000000) ∧ (s = .fr → z0.lv = true) ∧
  (∀ z wd p H', R P s 1 z0 z → Out P s z0 z wd → (wd = "most" ↔ mo = .int ((z.c s - z0.c s : Nat) : Int)) → Keep P H H' → W P K H' (toWS P z) → H' p = some (.tup [.int ((z.c s - z0.c s : Nat) : Int), .str wd]) → Q (.ref p) H') ∧
  ∀ z sd x d H', (sd = "source" ∨ sd = "target") → R P s 1 z0 z → OutF P s z0 z → 1 ≤ x → Keep P H H' → W P K H' (toWS P z) → H' d = some (.xd [("side", .str sd), ("count", .int ((z.c s - z0.c s : Nat) : Int)), ("number", .int x)]) → E (.ref (He.ga K "PourFault")) (some d) H'
theorem nE1 : ¬ V.str "" = V.str "stalled" := by decide
theorem nE2 : ¬ V.str "" = V.str "fault" := by decide
theorem nE3 : ¬ V.str "fault" = V.str "stalled" := by decide
theorem nE4 : ¬ ("end" : Str) = "most" := by decide
theorem nE5 : ¬ ("stalled" : Str) = "most" := by decide
theorem R.up1 {P : Pm} {s : Ix} {z0 z : Z} (r : R P s 0 z0 z) : R P s 1 z0 z := ⟨r.zi, r.ceq, r.cle, r.oth, r.lv, r.po, r.sps, r.spt, r.lom, r.n1, r.n1t, Nat.le_trans r.n2 (Nat.le_add_right _ 1), Nat.le_trans r.n3 (Nat.le_add_right _ 1)⟩
theorem lvs {s : Ix} (h : isT s = false) (b : Bool) : lvI b s = true := by
  cases s
  · rfl
  · cases h
  · rfl
  · cases h
theorem rd_self {z : Z} {s : Ix} (h : z.lo s = z.c s) : z.rd s (z.c s) = z := by
  obtain ⟨a, b, c, d, e, f, g⟩ := z
  unfold Z.rd
  simp only at h ⊢
  have : up a s (b s) = a := by rw [← h, up_self]
  rw [up_self, this]
section
variable {prog : Program} {w : World} {base : Heap} {K : PySem.W.Frag} {mg : Str → Option Value}
theorem ok_poured (T : Txt K mg) (s : Ix) (hs : isT s = false) : FnOk prog w K mg base (L2.CX prog w) 9 (He.fAd K d_poured.at_) (fdO K d_poured) ["source", "target", "room", "most"] (spPoured K s) :=
  T.F_poured.ok sc_poured (fun vs H Q E h => by obtain ⟨_, _, _, _, rfl, _⟩ := h; rfl) fun cdv A outer st H vs Q E hr h => by
    obtain ⟨P, z0, room, mo, rfl, hmo, hr1, hr2, w, r0, hn, hlv, qV, qX⟩ := h
    have hN := P.hN
    have hne := ds_ne hs
    have hdt := ds_t hs
    refine ⟨_, (pss_cons (ps_set (i := 4) sc_poured.nd rfl (Or.inl rfl) pe_int) (pss_cons (ps_while PassesOwn.leaving (PW.pt (pw_or (pt_cmpR op_isN (pv 3) pe_non (nomark _)) (pw_or1 (pt_cmpR op_lt (pv 4) (pv 3) (nomark _))))) (pss_cons (ps_set (i := 5) sc_poured.nd rfl (Or.inl rfl) (pv 2)) (pss_cons (ps_if (pt_cmpR op_notN (pv 3) pe_non (nomark _)) (pss_one (ps_set (i := 5) sc_poured.nd rfl (Or.inl rfl) (pe_callB (call_min2 rfl) (by rfl) T.n_min (by decide +kernel) (pa_cons (pv 2) (pa_cons (pe_op op_sub (pv 3) (pv 4)) pa_nil))))) pss_nil) (pss_cons (ps_set (i := 6) sc_poured.nd rfl (Or.inl rfl) (pe_call (ok_seen_ahead T s hs) (hr.mono (by decide)) (by rfl) T.g_seen_ahead T.F_seen_ahead.kp T.b_seen_ahead .nil (L2.passes_call (L2.takes_of rfl rfl rfl rfl) (fun _ _ _ _ h => h)) (pa_cons (pv 0) (pa_cons (pv 5) (pa_cons (pv 4) pa_nil))))) (pss_cons (ps_if (pt_cmpR op_isN (pv 6) pe_non (nomark _)) (pss_one (ps_ret (pe_tup (pa_cons (pv 4) (pa_cons pe_str pa_nil))))) pss_nil) (pss_cons (ps_if (pt_cmpR op_eq (pe_callB call_len_seq (by rfl) T.n_len PySem.boot_len (pa_cons (pv 6) pa_nil)) pe_int (nomark _)) (pss_one (ps_ret (pe_tup (pa_cons (pv 4) (pa_cons pe_str pa_nil))))) pss_nil) (pss_cons (ps_asg (pe_call (ok_handed_on T (ds s) hdt) (hr.mono (by decide)) (by rfl) T.g_handed_on T.F_handed_on.kp T.b_handed_on .nil pz (pa_cons (pv 1) (pa_cons (pv 6) pa_nil))) (pg_tup (by rfl) (pgs_cons (pg_name (i := 7) sc_poured.nd rfl (Or.inl rfl)) (pgs_cons (pg_name (i := 8) sc_poured.nd rfl (Or.inl rfl)) (pgs_cons (pg_name (i := 9) sc_poured.nd rfl (Or.inl rfl)) pgs_nil))))) (pss_cons (ps_if (pt_cmpR op_gt (pv 7) pe_int (nomark _)) (pss_one (ps_expr (pe_meth (pv 0) T.cls_File T.m_File_read (ok_File_read T) (hr.mono (by decide)) T.b_File_read .nil pz (pa_cons (pv 7) pa_nil)))) pss_nil) (pss_cons (ps_aug (i := 4) sc_poured.nd rfl (.inl rfl) (pv 7) ip_add) (pss_cons (ps_if (pt_cmpR op_eq (pv 8) pe_str (nomark _)) (pss_one (ps_ret (pe_tup (pa_cons (pv 4) (pa_cons (pv 8) pa_nil))))) pss_nil) (pss_one (ps_if (pt_cmpR op_eq (pv 8) pe_str (nomark _)) (pss_one (L2.ps_raise rfl (L2.takes_of rfl rfl rfl rfl) (PMk5.calm (pmk_kw T.o_PourFault T.ii_PourFault.1 T.ii_PourFault.2 (ok_PourFault___init__ T) (hr.mono (by decide)) T.kP (by decide) pz (by rfl) T.g_PourFault (pa_cons (pv 9) pa_nil) (pk_cons (pv 4) (pk_cons pe_str pk_nil)))))) pss_nil)))))))))))) (pss_one (ps_ret (pe_tup (pa_cons (pv 4) (pa_cons pe_str pa_nil))))))), ?_⟩
    refine ⟨fun mes σ H1 => ∃ (z : Z) (b5 b6 b7 b8 b9 : Option V), σ = [some (.ref (P.A (.f s))), some (.ref (P.A (.f (ds s)))), some (.int (room : Nat)), some mo, some (.int ((z.c s - z0.c s : Nat) : Int)), b5, b6, b7, b8, b9] ∧ W P K H1 (toWS P z) ∧ Keep P H H1 ∧ R P s 0 z0 z ∧
        mes = P.row.length - z.c s ∧ (∀ n : Nat, mo = .int n → z.c s - z0.c s ≤ n),
      ⟨_, z0, none, none, none, none, none, by rw [Nat.sub_self]; rfl, w, Keep.refl, r0, rfl, fun n _ => by omega⟩, fun mes σ H1 hW => ?_⟩
    obtain ⟨z, b5, b6, b7, b8, b9, rfl, w1, k1, r, rfl, hmost⟩ := hW
    have hsrc := r.zi.src s hs
    have htgt := r.zi.tgt _ hdt
    have hcq := r.ceq
    have hcl := r.cle
    have hn2 := r.n2
    have hn3 := r.n3
    have hns := hn s
    have hnt := hn (ds s)
    have sr : Sr P z s := r.zi.sr hs (by omega)
    have hlv' : z.lv = z0.lv := r.lv
    have tg : Tg P z (ds s) := r.zi.tg hdt (by omega) (fun e => by
      rw [hlv']
      cases s
      · exact hlv rfl
      · cases hs
      · cases e
      · cases hs)
    have usS : ∀ z2 : Z, StC P z s → s = .fr → (z.n s).length < (z2.n s).length → Us P .fr z0 z2 := fun z2 sc e hl => by
      have h1 := sc.1 e
      have h2 := r.n1
      subst e
      exact ⟨by omega, by omega⟩
    rcases hmo with rfl | ⟨n, rfl⟩
    · have hM1 := hr1
      have hM2 := hr2
      obtain ⟨M, hMe⟩ : ∃ M, M = room := ⟨_, rfl⟩
      rw [← hMe] at hM1 hM2
      have hM3 : ∀ n : Nat, V.non = V.int n → z.c s - z0.c s + M ≤ n := fun n e => by cases e
      have hX : ∀ k : Nat, k < M → V.non ≠ V.int ((z.c s - z0.c s + k : Nat) : Int) := fun k _ e => by cases e
      refine ⟨_, rfl, rfl, _, rfl, ifT rfl ⟨fun σ' H' => ∃ m', m' < P.row.length - z.c s ∧ (∃ (z : Z) (b5 b6 b7 b8 b9 : Option V), σ' = [some (.ref (P.A (.f s))), some (.ref (P.A (.f (ds s)))), some (.int (room : Nat)), some V.non, some (.int ((z.c s - z0.c s : Nat) : Int)), b5, b6, b7, b8, b9] ∧ W P K H' (toWS P z) ∧ Keep P H H' ∧ R P s 0 z0 z ∧
        m' = P.row.length - z.c s ∧ (∀ n : Nat, V.non = V.int n → z.c s - z0.c s ≤ n)), fun _ _ h => h, ?_⟩⟩
      rw [← hMe]
      refine ⟨_, rfl, _, rfl, rfl, _, rfl, ifF rfl ?_⟩
      refine ⟨_, rfl, _, rfl, _, rfl, P, z, M, _, rfl, hM1, hM2, w1, sr, lvs hs _, fun m ns l H2 g k2 w2 hl => ?_, fun H2 ec sc k2 w2 => ?_, fun H2 d x et sc hx k2 w2 hd => ?_⟩
      · have g1 := g.lo
        have g2 := g.N
        have hll : (seg P.row (z.c s) (min (z.c s + M) m)).length = min M (m - z.c s) := by rw [seg_len (by omega)]; omega
        refine ⟨_, rfl, rfl, _, rfl, ifF rfl ⟨_, rfl, _, _, rfl, .inl hl.sq, rfl, _, rfl, ite2 (fun e => ?_) fun e => ?_⟩⟩
        · have e0 := of_decide_eq_true e
          injection e0 with e0
          rw [map_len, hll] at e0
          have em : m = z.c s := by omega
          have hend := g.e em
          refine ⟨_, rfl, sz1 (by simp), fun p hp => ?_⟩
          refine qV (z.fet s m ns) "end" p _ (r.fet hs g1 g2 g.r g.n1 g.n2 g.cat) ?_ ⟨fun e => absurd e nE4, fun e => absurd e (hX 0 (by omega))⟩ ((k1.trans k2).trans (Ex.new hp).keep) (w2.new hp) upd_same
          cases s
          · refine .frE ?_
            show z.c .fr = P.row.length
            have h1 := hend.1 rfl
            have h2 : z.sp .fr = z.hi .fr := sr.sp
            omega
          · cases hs
          · obtain ⟨h1, h2⟩ := hend.2 rfl
            have h3 : z.sp .ro = z.hi .ro := sr.sp
            refine .roE h1 ⟨?_, ?_⟩
            · show z.c .ro = m
              omega
            · show m = z.sp .wi
              have := g.r rfl
              omega
          · cases hs
        · have hk1 : 1 ≤ min M (m - z.c s) := by
            rcases Nat.eq_zero_or_pos (min M (m - z.c s)) with h | h
            · exact absurd (decide_eq_true (by rw [map_len, hll, h]; rfl)) e
            · exact h
          obtain ⟨k, hk⟩ : ∃ k, k = min M (m - z.c s) := ⟨_, rfl⟩
          have eC2 : (z.fet s m ns).c (ds s) = z.c s := hcq.symm
          have eLo2 : (z.fet s m ns).lo (ds s) = z.lo (ds s) := rfl
          have eN2 : (z.fet s m ns).n (ds s) = z.n (ds s) := up_ne hne.symm
          have eSp2 : (z.fet s m ns).sp (ds s) = z.sp (ds s) := up_ne hne.symm
          have eHi2 : (z.fet s m ns).hi (ds s) = z.hi (ds s) := up_ne hne.symm
          have tg2 : Tg P (z.fet s m ns) (ds s) := ⟨by rw [eSp2, eLo2]; exact tg.sp, by rw [eLo2, eC2]; omega, by rw [eC2]; omega, by rw [eN2]; exact tg.n, fun e => by
            have := tg.w e
            cases s
            · exact this
            · cases hs
            · cases e
            · cases hs⟩
          have hl' : Lst P H2 l (seg P.row ((z.fet s m ns).c (ds s)) ((z.fet s m ns).c (ds s) + k)) := by
            rw [eC2, hk, show z.c s + min M (m - z.c s) = min (z.c s + M) m by omega]
            exact hl
          have hw6 : ∀ m' : Nat, (ds s = .wi → (m' : Int) - (z.fet s m ns).sp .ro ≤ P.proom) → s = .fr → (m' : Int) - z.sp .ro ≤ P.proom := fun m' h e => by
            subst e
            exact h rfl
          have hrm : ((z.c s : Nat) : Int) - z.lo (ds s) ≤ P.room (ds s) := by
            have := r.zi.rm _ hdt
            rw [← hcq] at this
            exact this
          refine ⟨_, rfl, _, rfl, P, z.fet s m ns, l, k, rfl, w2, tg2, by rw [eHi2, eC2]; omega, by rw [eN2]; omega, by rw [eC2, eLo2]; exact hrm, hl', by omega, by rw [eC2]; omega,
            fun m' ns' p H3 a1 a2 a3 a4 a5 a6 k3 w3 hp => ?_, fun t m' ns' p H3 sto k3 w3 hp => ?_, fun t m' ns' p H3 x et sto hx k3 w3 hp => ?_⟩
          · rw [eC2] at a2 a3 w3
            rw [eLo2] at a1 a5
            rw [eN2] at a4 a5
            have rS := r.step (e := 0) (ns' := ns') hs g (by omega : z.c s + k ≤ m) (by omega) a1 a2 a3 a4 (by omega) (hw6 m' a6)
            refine ⟨p, _, rfl, .inl (.inl hp), rfl, _, _, rfl, _, _, rfl, _, _, rfl, rfl, ?_⟩
            have e3C : (((z.fet s m ns).wr (ds s) (z.c s + k) m' ns')).c s = z.c s := up_ne hne
            have e3H : (((z.fet s m ns).wr (ds s) (z.c s + k) m' ns')).hi s = m := by
              show up (up z.hi s m) (ds s) _ s = m
              rw [up_ne hne, up_same]
            have e3L : (((z.fet s m ns).wr (ds s) (z.c s + k) m' ns')).lo s = z.c s := by
              show up z.lo (ds s) _ s = _
              rw [up_ne hne]
              exact hsrc.1
            obtain ⟨ah3, de3, mi3, hF3, hah3, hde3, hmi3⟩ := w3.file s
            have eF : (((z.fet s m ns).wr (ds s) (z.c s + k) m' ns').rd s (z.c s + k)).c s = z.c s + k := up_same
            have eCn : (((z.fet s m ns).wr (ds s) (z.c s + k) m' ns').rd s (z.c s + k)).c s - z0.c s = z.c s - z0.c s + k := by rw [eF]; omega
            have eCi : (((((z.fet s m ns).wr (ds s) (z.c s + k) m' ns').rd s (z.c s + k)).c s - z0.c s : Nat) : Int) = ((z.c s - z0.c s : Nat) : Int) + (k : Nat) := by rw [eCn]; omega
            refine ⟨_, rfl, _, _, rfl, rfl, _, rfl, ifT (decide_eq_true (by omega)) ⟨_, rfl, _, _, _, rfl, hF3, fF_no_read, _, rfl, P, _, s, k, rfl, w3, lvs hs _, isT_rd hs, by omega, by rw [e3C, e3H]; omega, by rw [e3H]; exact g2, by rw [e3L, e3C], fun l4 H4 k4 w4 => ?_⟩⟩
            rw [e3C] at w4
            refine ⟨_, rfl, _, rfl, _, _, rfl, rfl, _, rfl, rfl, _, rfl, ifF (decide_eq_false nE1) ⟨_, rfl, rfl, _, rfl, ifF (decide_eq_false nE2) ?_⟩⟩
            exact ⟨P.row.length - (z.c s + k), by omega, ((z.fet s m ns).wr (ds s) (z.c s + k) m' ns').rd s (z.c s + k), _, _, _, _, _, by rw [eCi]; rfl, w4, ((k1.trans k2).trans k3).trans k4, rS, by rw [eF], fun n hnn => by rw [eCn]; have := hM3 n hnn; omega⟩
          · have s1 := sto.tk
            have s2 := sto.lo
            have s3 := sto.c
            have s4 := sto.rm
            have s5 := sto.n1
            have s6 := sto.n2
            rw [eC2] at s3 s4 w3
            rw [eLo2] at s2 s6
            rw [eN2] at s5 s6
            have rS := r.step (e := 1) (ns' := ns') hs g (by omega : z.c s + t ≤ m) (by omega) s2 s3 s4 (by omega) (by omega) (hw6 m' fun e => Int.le_of_eq (sto.w e))
            refine ⟨p, _, rfl, .inl (.inl hp), rfl, _, _, rfl, _, _, rfl, _, _, rfl, rfl, ?_⟩
            have e3C : (((z.fet s m ns).wr (ds s) (z.c s + t) m' ns')).c s = z.c s := up_ne hne
            have e3H : (((z.fet s m ns).wr (ds s) (z.c s + t) m' ns')).hi s = m := by
              show up (up z.hi s m) (ds s) _ s = m
              rw [up_ne hne, up_same]
            have e3L : (((z.fet s m ns).wr (ds s) (z.c s + t) m' ns')).lo s = z.c s := by
              show up z.lo (ds s) _ s = _
              rw [up_ne hne]
              exact hsrc.1
            obtain ⟨ah3, de3, mi3, hF3, hah3, hde3, hmi3⟩ := w3.file s
            have eF : (((z.fet s m ns).wr (ds s) (z.c s + t) m' ns').rd s (z.c s + t)).c s = z.c s + t := up_same
            have eCn : (((z.fet s m ns).wr (ds s) (z.c s + t) m' ns').rd s (z.c s + t)).c s - z0.c s = z.c s - z0.c s + t := by rw [eF]; omega
            have eCi : (((((z.fet s m ns).wr (ds s) (z.c s + t) m' ns').rd s (z.c s + t)).c s - z0.c s : Nat) : Int) = ((z.c s - z0.c s : Nat) : Int) + (t : Nat) := by rw [eCn]; omega
            have oS : Out P s z0 (((z.fet s m ns).wr (ds s) (z.c s + t) m' ns').rd s (z.c s + t)) "stalled" := by
              have q3 := r.n1t
              cases s
              · exact .frF (sto.w rfl)
              · cases hs
              · have q4 : (z.n .to).length < (P.plan .to).length := sto.p rfl
                have q5 : (z0.n .to).length ≤ (z.n .to).length := q3
                have q6 : (z.n .to).length < ns'.length := s5
                exact .roT ⟨by omega, show (z0.n .to).length < ns'.length by omega⟩
              · cases hs
            refine ⟨_, rfl, _, _, rfl, rfl, _, rfl, ite2 (fun ht => ?_) fun ht => ?_⟩
            · have ht' := of_decide_eq_true ht
              refine ⟨_, rfl, _, _, _, rfl, hF3, fF_no_read, _, rfl, P, _, s, t, rfl, w3, lvs hs _, isT_rd hs, by omega, by rw [e3C, e3H]; omega, by rw [e3H]; exact g2, by rw [e3L, e3C], fun l4 H4 k4 w4 => ?_⟩
              rw [e3C] at w4
              have kk := ((k1.trans k2).trans k3).trans k4
              refine ⟨_, rfl, _, rfl, _, _, rfl, rfl, _, rfl, rfl, _, rfl, ifT (decide_eq_true rfl) ⟨_, rfl, _, rfl, sz1 (by simp), fun q hq => ?_⟩⟩
              exact qV _ "stalled" q _ rS oS ⟨fun e => absurd e nE5, fun e => absurd (by rw [← eCn]; exact e) (hX t (by omega))⟩ (kk.trans (Ex.new hq).keep) (w4.new hq) (by rw [upd_same, eCi])
            · have ht0 : t = 0 := by
                rcases Nat.eq_zero_or_pos t with h | h
                · exact h
                · exact absurd (decide_eq_true (by omega)) ht
              have w4 : W P K H3 (toWS P (((z.fet s m ns).wr (ds s) (z.c s + t) m' ns').rd s (z.c s + t))) := by
                have e4 := rd_self (z := (z.fet s m ns).wr (ds s) (z.c s + t) m' ns') (s := s) (by rw [e3L, e3C])
                rw [e3C] at e4
                rw [show ((z.fet s m ns).wr (ds s) (z.c s + t) m' ns').rd s (z.c s + t) = ((z.fet s m ns).wr (ds s) (z.c s + t) m' ns').rd s (z.c s) by rw [ht0]; rfl, e4]
                exact w3
              have kk := (k1.trans k2).trans k3
              refine ⟨_, rfl, _, rfl, _, _, rfl, rfl, _, rfl, rfl, _, rfl, ifT (decide_eq_true rfl) ⟨_, rfl, _, rfl, sz1 (by simp), fun q hq => ?_⟩⟩
              exact qV _ "stalled" q _ rS oS ⟨fun e => absurd e nE5, fun e => absurd (by rw [← eCn]; exact e) (hX t (by omega))⟩ (kk.trans (Ex.new hq).keep) (w4.new hq) (by rw [upd_same, eCi])
          · have s1 := sto.tk
            have s2 := sto.lo
            have s3 := sto.c
            have s4 := sto.rm
            have s5 := sto.n1
            have s6 := sto.n2
            rw [eC2] at s3 s4 w3
            rw [eLo2] at s2 s6
            rw [eN2] at s5 s6
            have rS := r.step (e := 1) (ns' := ns') hs g (by omega : z.c s + t ≤ m) (by omega) s2 s3 s4 (by omega) (by omega) (hw6 m' fun e => Int.le_of_eq (sto.w e))
            refine ⟨p, _, rfl, .inl (.inl hp), rfl, _, _, rfl, _, _, rfl, _, _, rfl, rfl, ?_⟩
            have e3C : (((z.fet s m ns).wr (ds s) (z.c s + t) m' ns')).c s = z.c s := up_ne hne
            have e3H : (((z.fet s m ns).wr (ds s) (z.c s + t) m' ns')).hi s = m := by
              show up (up z.hi s m) (ds s) _ s = m
              rw [up_ne hne, up_same]
            have e3L : (((z.fet s m ns).wr (ds s) (z.c s + t) m' ns')).lo s = z.c s := by
              show up z.lo (ds s) _ s = _
              rw [up_ne hne]
              exact hsrc.1
            obtain ⟨ah3, de3, mi3, hF3, hah3, hde3, hmi3⟩ := w3.file s
            have eF : (((z.fet s m ns).wr (ds s) (z.c s + t) m' ns').rd s (z.c s + t)).c s = z.c s + t := up_same
            have eCn : (((z.fet s m ns).wr (ds s) (z.c s + t) m' ns').rd s (z.c s + t)).c s - z0.c s = z.c s - z0.c s + t := by rw [eF]; omega
            have eCi : (((((z.fet s m ns).wr (ds s) (z.c s + t) m' ns').rd s (z.c s + t)).c s - z0.c s : Nat) : Int) = ((z.c s - z0.c s : Nat) : Int) + (t : Nat) := by rw [eCn]; omega
            have oF : OutF P s z0 (((z.fet s m ns).wr (ds s) (z.c s + t) m' ns').rd s (z.c s + t)) := by
              have q3 := r.n1t
              cases s
              · cases et
              · cases hs
              · have q4 : (z.n .to).length < (P.plan .to).length := sto.p rfl
                have q5 : (z0.n .to).length ≤ (z.n .to).length := q3
                have q6 : (z.n .to).length < ns'.length := s5
                exact .ro ⟨by omega, show (z0.n .to).length < ns'.length by omega⟩
              · cases hs
            refine ⟨_, rfl, _, _, rfl, rfl, _, rfl, ite2 (fun ht => ?_) fun ht => ?_⟩
            · have ht' := of_decide_eq_true ht
              refine ⟨_, rfl, _, _, _, rfl, hF3, fF_no_read, _, rfl, P, _, s, t, rfl, w3, lvs hs _, isT_rd hs, by omega, by rw [e3C, e3H]; omega, by rw [e3H]; exact g2, by rw [e3L, e3C], fun l4 H4 k4 w4 => ?_⟩
              rw [e3C] at w4
              have kk := ((k1.trans k2).trans k3).trans k4
              refine ⟨_, rfl, _, rfl, _, _, rfl, rfl, _, rfl, rfl, _, rfl, ifF (decide_eq_false nE3) ⟨_, rfl, rfl, _, rfl, ifT (decide_eq_true rfl) ⟨_, rfl, _, rfl, rfl, rfl, fun a na => ?_⟩⟩⟩
              exact spPourFault_q (fun d2 Hx nd ex hdx => qX _ "target" x d2 Hx (.inr rfl) rS oF hx (kk.trans ex.keep) (w4.ex ex) (by rw [hdx, eCi])) na
            · have ht0 : t = 0 := by
                rcases Nat.eq_zero_or_pos t with h | h
                · exact h
                · exact absurd (decide_eq_true (by omega)) ht
              have w4 : W P K H3 (toWS P (((z.fet s m ns).wr (ds s) (z.c s + t) m' ns').rd s (z.c s + t))) := by
                have e4 := rd_self (z := (z.fet s m ns).wr (ds s) (z.c s + t) m' ns') (s := s) (by rw [e3L, e3C])
                rw [e3C] at e4
                rw [show ((z.fet s m ns).wr (ds s) (z.c s + t) m' ns').rd s (z.c s + t) = ((z.fet s m ns).wr (ds s) (z.c s + t) m' ns').rd s (z.c s) by rw [ht0]; rfl, e4]
                exact w3
              have kk := (k1.trans k2).trans k3
              refine ⟨_, rfl, _, rfl, _, _, rfl, rfl, _, rfl, rfl, _, rfl, ifF (decide_eq_false nE3) ⟨_, rfl, rfl, _, rfl, ifT (decide_eq_true rfl) ⟨_, rfl, _, rfl, rfl, rfl, fun a na => ?_⟩⟩⟩
              exact spPourFault_q (fun d2 Hx nd ex hdx => qX _ "target" x d2 Hx (.inr rfl) rS oF hx (kk.trans ex.keep) (w4.ex ex) (by rw [hdx, eCi])) na
      · refine ⟨_, rfl, rfl, _, rfl, ifT rfl ⟨_, rfl, sz1 (by simp), fun p hp => ?_⟩⟩
        refine qV (z.fet s (z.hi s) (z.n s ++ [none])) "stalled" p _ (r.fet hs (Nat.le_refl _) sr.hi (fun e => by rw [← sr.sp]; subst e; exact (sr.r rfl).1) (by rw [List.length_append]; omega) (by rw [List.length_append]; exact Nat.le_refl _) (by rw [cat_app, seg_self]; rfl)) ?_ ⟨fun e => absurd e nE5, fun e => absurd e (hX 0 (by omega))⟩ ((k1.trans k2).trans (Ex.new hp).keep) (w2.new hp) upd_same
        cases s
        · exact .frS (usS _ sc rfl (by show _ < (up z.n .fr (z.n .fr ++ [none]) .fr).length; rw [up_same, List.length_append, List.length_singleton]; omega))
        · cases hs
        · obtain ⟨h1, h2⟩ := sc.2 rfl
          have h3 : z.sp .ro = z.hi .ro := sr.sp
          refine .roS h1 ⟨?_, ?_⟩
          · show z.c .ro = z.hi .ro
            exact ec
          · show z.hi .ro = z.sp .wi
            omega
        · cases hs
      · refine qX (z.fet s (z.hi s) (z.n s ++ [none])) "source" x d H2 (.inl rfl) (r.fet hs (Nat.le_refl _) sr.hi (fun e => by rw [← sr.sp]; subst e; exact (sr.r rfl).1) (by rw [List.length_append]; omega) (by rw [List.length_append]; exact Nat.le_refl _) (by rw [cat_app, seg_self]; rfl)) ?_ hx (k1.trans k2) w2 hd
        subst et
        exact .fr (usS _ sc rfl (by show _ < (up z.n .fr (z.n .fr ++ [none]) .fr).length; rw [up_same, List.length_append, List.length_singleton]; omega))
    · have hle := hmost n rfl
      refine ⟨_, rfl, rfl, _, rfl, ifF rfl ⟨_, rfl, _, rfl, _, _, rfl, rfl, _, rfl, ite2 (fun e => ?_) fun e => ?_⟩⟩
      · have hlt := of_decide_eq_true e
        obtain ⟨M, hMe, hM1, hM2, hM4⟩ : ∃ M : Nat, (if ((n : Nat) : Int) - ((z.c s - z0.c s : Nat) : Int) < (room : Int) then ((n : Nat) : Int) - ((z.c s - z0.c s : Nat) : Int) else (room : Int)) = (M : Int) ∧ 1 ≤ M ∧ M ≤ 64 ∧ z.c s - z0.c s + M ≤ n :=
          ⟨(if ((n : Nat) : Int) - ((z.c s - z0.c s : Nat) : Int) < (room : Int) then ((n : Nat) : Int) - ((z.c s - z0.c s : Nat) : Int) else (room : Int)).toNat, by split <;> omega, by split <;> omega, by split <;> omega, by split <;> omega⟩
        have hM3 : ∀ n' : Nat, V.int (n : Nat) = V.int n' → z.c s - z0.c s + M ≤ n' := fun n' e => by injection e with e; omega
        have hX : ∀ k : Nat, k < M → V.int (n : Nat) ≠ V.int ((z.c s - z0.c s + k : Nat) : Int) := fun k hk e => by injection e with e; omega
        refine ⟨fun σ' H' => ∃ m', m' < P.row.length - z.c s ∧ (∃ (z : Z) (b5 b6 b7 b8 b9 : Option V), σ' = [some (.ref (P.A (.f s))), some (.ref (P.A (.f (ds s)))), some (.int (room : Nat)), some (V.int (n : Nat)), some (.int ((z.c s - z0.c s : Nat) : Int)), b5, b6, b7, b8, b9] ∧ W P K H' (toWS P z) ∧ Keep P H H' ∧ R P s 0 z0 z ∧
          m' = P.row.length - z.c s ∧ (∀ n' : Nat, V.int (n : Nat) = V.int n' → z.c s - z0.c s ≤ n')), fun _ _ h => h, ?_⟩
        refine ⟨_, rfl, _, rfl, rfl, _, rfl, ifT rfl ⟨_, rfl, _, rfl, _, rfl, _, _, rfl, rfl, _, _, rfl, ?_⟩⟩
        rw [hMe]
        refine ⟨_, rfl, _, rfl, _, rfl, P, z, M, _, rfl, hM1, hM2, w1, sr, lvs hs _, fun m ns l H2 g k2 w2 hl => ?_, fun H2 ec sc k2 w2 => ?_, fun H2 d x et sc hx k2 w2 hd => ?_⟩
        · have g1 := g.lo
          have g2 := g.N
          have hll : (seg P.row (z.c s) (min (z.c s + M) m)).length = min M (m - z.c s) := by rw [seg_len (by omega)]; omega
          refine ⟨_, rfl, rfl, _, rfl, ifF rfl ⟨_, rfl, _, _, rfl, .inl hl.sq, rfl, _, rfl, ite2 (fun e => ?_) fun e => ?_⟩⟩
          · have e0 := of_decide_eq_true e
            injection e0 with e0
            rw [map_len, hll] at e0
            have em : m = z.c s := by omega
            have hend := g.e em
            refine ⟨_, rfl, sz1 (by simp), fun p hp => ?_⟩
            refine qV (z.fet s m ns) "end" p _ (r.fet hs g1 g2 g.r g.n1 g.n2 g.cat) ?_ ⟨fun e => absurd e nE4, fun e => absurd e (hX 0 (by omega))⟩ ((k1.trans k2).trans (Ex.new hp).keep) (w2.new hp) upd_same
            cases s
            · refine .frE ?_
              show z.c .fr = P.row.length
              have h1 := hend.1 rfl
              have h2 : z.sp .fr = z.hi .fr := sr.sp
              omega
            · cases hs
            · obtain ⟨h1, h2⟩ := hend.2 rfl
              have h3 : z.sp .ro = z.hi .ro := sr.sp
              refine .roE h1 ⟨?_, ?_⟩
              · show z.c .ro = m
                omega
              · show m = z.sp .wi
                have := g.r rfl
                omega
            · cases hs
          · have hk1 : 1 ≤ min M (m - z.c s) := by
              rcases Nat.eq_zero_or_pos (min M (m - z.c s)) with h | h
              · exact absurd (decide_eq_true (by rw [map_len, hll, h]; rfl)) e
              · exact h
            obtain ⟨k, hk⟩ : ∃ k, k = min M (m - z.c s) := ⟨_, rfl⟩
            have eC2 : (z.fet s m ns).c (ds s) = z.c s := hcq.symm
            have eLo2 : (z.fet s m ns).lo (ds s) = z.lo (ds s) := rfl
            have eN2 : (z.fet s m ns).n (ds s) = z.n (ds s) := up_ne hne.symm
            have eSp2 : (z.fet s m ns).sp (ds s) = z.sp (ds s) := up_ne hne.symm
            have eHi2 : (z.fet s m ns).hi (ds s) = z.hi (ds s) := up_ne hne.symm
            have tg2 : Tg P (z.fet s m ns) (ds s) := ⟨by rw [eSp2, eLo2]; exact tg.sp, by rw [eLo2, eC2]; omega, by rw [eC2]; omega, by rw [eN2]; exact tg.n, fun e => by
              have := tg.w e
              cases s
              · exact this
              · cases hs
              · cases e
              · cases hs⟩
            have hl' : Lst P H2 l (seg P.row ((z.fet s m ns).c (ds s)) ((z.fet s m ns).c (ds s) + k)) := by
              rw [eC2, hk, show z.c s + min M (m - z.c s) = min (z.c s + M) m by omega]
              exact hl
            have hw6 : ∀ m' : Nat, (ds s = .wi → (m' : Int) - (z.fet s m ns).sp .ro ≤ P.proom) → s = .fr → (m' : Int) - z.sp .ro ≤ P.proom := fun m' h e => by
              subst e
              exact h rfl
            have hrm : ((z.c s : Nat) : Int) - z.lo (ds s) ≤ P.room (ds s) := by
              have := r.zi.rm _ hdt
              rw [← hcq] at this
              exact this
            refine ⟨_, rfl, _, rfl, P, z.fet s m ns, l, k, rfl, w2, tg2, by rw [eHi2, eC2]; omega, by rw [eN2]; omega, by rw [eC2, eLo2]; exact hrm, hl', by omega, by rw [eC2]; omega,
              fun m' ns' p H3 a1 a2 a3 a4 a5 a6 k3 w3 hp => ?_, fun t m' ns' p H3 sto k3 w3 hp => ?_, fun t m' ns' p H3 x et sto hx k3 w3 hp => ?_⟩
            · rw [eC2] at a2 a3 w3
              rw [eLo2] at a1 a5
              rw [eN2] at a4 a5
              have rS := r.step (e := 0) (ns' := ns') hs g (by omega : z.c s + k ≤ m) (by omega) a1 a2 a3 a4 (by omega) (hw6 m' a6)
              refine ⟨p, _, rfl, .inl (.inl hp), rfl, _, _, rfl, _, _, rfl, _, _, rfl, rfl, ?_⟩
              have e3C : (((z.fet s m ns).wr (ds s) (z.c s + k) m' ns')).c s = z.c s := up_ne hne
              have e3H : (((z.fet s m ns).wr (ds s) (z.c s + k) m' ns')).hi s = m := by
                show up (up z.hi s m) (ds s) _ s = m
                rw [up_ne hne, up_same]
              have e3L : (((z.fet s m ns).wr (ds s) (z.c s + k) m' ns')).lo s = z.c s := by
                show up z.lo (ds s) _ s = _
                rw [up_ne hne]
                exact hsrc.1
              obtain ⟨ah3, de3, mi3, hF3, hah3, hde3, hmi3⟩ := w3.file s
              have eF : (((z.fet s m ns).wr (ds s) (z.c s + k) m' ns').rd s (z.c s + k)).c s = z.c s + k := up_same
              have eCn : (((z.fet s m ns).wr (ds s) (z.c s + k) m' ns').rd s (z.c s + k)).c s - z0.c s = z.c s - z0.c s + k := by rw [eF]; omega
              have eCi : (((((z.fet s m ns).wr (ds s) (z.c s + k) m' ns').rd s (z.c s + k)).c s - z0.c s : Nat) : Int) = ((z.c s - z0.c s : Nat) : Int) + (k : Nat) := by rw [eCn]; omega
              refine ⟨_, rfl, _, _, rfl, rfl, _, rfl, ifT (decide_eq_true (by omega)) ⟨_, rfl, _, _, _, rfl, hF3, fF_no_read, _, rfl, P, _, s, k, rfl, w3, lvs hs _, isT_rd hs, by omega, by rw [e3C, e3H]; omega, by rw [e3H]; exact g2, by rw [e3L, e3C], fun l4 H4 k4 w4 => ?_⟩⟩
              rw [e3C] at w4
              refine ⟨_, rfl, _, rfl, _, _, rfl, rfl, _, rfl, rfl, _, rfl, ifF (decide_eq_false nE1) ⟨_, rfl, rfl, _, rfl, ifF (decide_eq_false nE2) ?_⟩⟩
              exact ⟨P.row.length - (z.c s + k), by omega, ((z.fet s m ns).wr (ds s) (z.c s + k) m' ns').rd s (z.c s + k), _, _, _, _, _, by rw [eCi]; rfl, w4, ((k1.trans k2).trans k3).trans k4, rS, by rw [eF], fun n hnn => by rw [eCn]; have := hM3 n hnn; omega⟩
            · have s1 := sto.tk
              have s2 := sto.lo
              have s3 := sto.c
              have s4 := sto.rm
              have s5 := sto.n1
              have s6 := sto.n2
              rw [eC2] at s3 s4 w3
              rw [eLo2] at s2 s6
              rw [eN2] at s5 s6
              have rS := r.step (e := 1) (ns' := ns') hs g (by omega : z.c s + t ≤ m) (by omega) s2 s3 s4 (by omega) (by omega) (hw6 m' fun e => Int.le_of_eq (sto.w e))
              refine ⟨p, _, rfl, .inl (.inl hp), rfl, _, _, rfl, _, _, rfl, _, _, rfl, rfl, ?_⟩
              have e3C : (((z.fet s m ns).wr (ds s) (z.c s + t) m' ns')).c s = z.c s := up_ne hne
              have e3H : (((z.fet s m ns).wr (ds s) (z.c s + t) m' ns')).hi s = m := by
                show up (up z.hi s m) (ds s) _ s = m
                rw [up_ne hne, up_same]
              have e3L : (((z.fet s m ns).wr (ds s) (z.c s + t) m' ns')).lo s = z.c s := by
                show up z.lo (ds s) _ s = _
                rw [up_ne hne]
                exact hsrc.1
              obtain ⟨ah3, de3, mi3, hF3, hah3, hde3, hmi3⟩ := w3.file s
              have eF : (((z.fet s m ns).wr (ds s) (z.c s + t) m' ns').rd s (z.c s + t)).c s = z.c s + t := up_same
              have eCn : (((z.fet s m ns).wr (ds s) (z.c s + t) m' ns').rd s (z.c s + t)).c s - z0.c s = z.c s - z0.c s + t := by rw [eF]; omega
              have eCi : (((((z.fet s m ns).wr (ds s) (z.c s + t) m' ns').rd s (z.c s + t)).c s - z0.c s : Nat) : Int) = ((z.c s - z0.c s : Nat) : Int) + (t : Nat) := by rw [eCn]; omega
              have oS : Out P s z0 (((z.fet s m ns).wr (ds s) (z.c s + t) m' ns').rd s (z.c s + t)) "stalled" := by
                have q3 := r.n1t
                cases s
                · exact .frF (sto.w rfl)
                · cases hs
                · have q4 : (z.n .to).length < (P.plan .to).length := sto.p rfl
                  have q5 : (z0.n .to).length ≤ (z.n .to).length := q3
                  have q6 : (z.n .to).length < ns'.length := s5
                  exact .roT ⟨by omega, show (z0.n .to).length < ns'.length by omega⟩
                · cases hs
              refine ⟨_, rfl, _, _, rfl, rfl, _, rfl, ite2 (fun ht => ?_) fun ht => ?_⟩
              · have ht' := of_decide_eq_true ht
                refine ⟨_, rfl, _, _, _, rfl, hF3, fF_no_read, _, rfl, P, _, s, t, rfl, w3, lvs hs _, isT_rd hs, by omega, by rw [e3C, e3H]; omega, by rw [e3H]; exact g2, by rw [e3L, e3C], fun l4 H4 k4 w4 => ?_⟩
                rw [e3C] at w4
                have kk := ((k1.trans k2).trans k3).trans k4
                refine ⟨_, rfl, _, rfl, _, _, rfl, rfl, _, rfl, rfl, _, rfl, ifT (decide_eq_true rfl) ⟨_, rfl, _, rfl, sz1 (by simp), fun q hq => ?_⟩⟩
                exact qV _ "stalled" q _ rS oS ⟨fun e => absurd e nE5, fun e => absurd (by rw [← eCn]; exact e) (hX t (by omega))⟩ (kk.trans (Ex.new hq).keep) (w4.new hq) (by rw [upd_same, eCi])
              · have ht0 : t = 0 := by
                  rcases Nat.eq_zero_or_pos t with h | h
                  · exact h
                  · exact absurd (decide_eq_true (by omega)) ht
                have w4 : W P K H3 (toWS P (((z.fet s m ns).wr (ds s) (z.c s + t) m' ns').rd s (z.c s + t))) := by
                  have e4 := rd_self (z := (z.fet s m ns).wr (ds s) (z.c s + t) m' ns') (s := s) (by rw [e3L, e3C])
                  rw [e3C] at e4
                  rw [show ((z.fet s m ns).wr (ds s) (z.c s + t) m' ns').rd s (z.c s + t) = ((z.fet s m ns).wr (ds s) (z.c s + t) m' ns').rd s (z.c s) by rw [ht0]; rfl, e4]
                  exact w3
                have kk := (k1.trans k2).trans k3
                refine ⟨_, rfl, _, rfl, _, _, rfl, rfl, _, rfl, rfl, _, rfl, ifT (decide_eq_true rfl) ⟨_, rfl, _, rfl, sz1 (by simp), fun q hq => ?_⟩⟩
                exact qV _ "stalled" q _ rS oS ⟨fun e => absurd e nE5, fun e => absurd (by rw [← eCn]; exact e) (hX t (by omega))⟩ (kk.trans (Ex.new hq).keep) (w4.new hq) (by rw [upd_same, eCi])
            · have s1 := sto.tk
              have s2 := sto.lo
              have s3 := sto.c
              have s4 := sto.rm
              have s5 := sto.n1
              have s6 := sto.n2
              rw [eC2] at s3 s4 w3
              rw [eLo2] at s2 s6
              rw [eN2] at s5 s6
              have rS := r.step (e := 1) (ns' := ns') hs g (by omega : z.c s + t ≤ m) (by omega) s2 s3 s4 (by omega) (by omega) (hw6 m' fun e => Int.le_of_eq (sto.w e))
              refine ⟨p, _, rfl, .inl (.inl hp), rfl, _, _, rfl, _, _, rfl, _, _, rfl, rfl, ?_⟩
              have e3C : (((z.fet s m ns).wr (ds s) (z.c s + t) m' ns')).c s = z.c s := up_ne hne
              have e3H : (((z.fet s m ns).wr (ds s) (z.c s + t) m' ns')).hi s = m := by
                show up (up z.hi s m) (ds s) _ s = m
                rw [up_ne hne, up_same]
              have e3L : (((z.fet s m ns).wr (ds s) (z.c s + t) m' ns')).lo s = z.c s := by
                show up z.lo (ds s) _ s = _
                rw [up_ne hne]
                exact hsrc.1
              obtain ⟨ah3, de3, mi3, hF3, hah3, hde3, hmi3⟩ := w3.file s
              have eF : (((z.fet s m ns).wr (ds s) (z.c s + t) m' ns').rd s (z.c s + t)).c s = z.c s + t := up_same
              have eCn : (((z.fet s m ns).wr (ds s) (z.c s + t) m' ns').rd s (z.c s + t)).c s - z0.c s = z.c s - z0.c s + t := by rw [eF]; omega
              have eCi : (((((z.fet s m ns).wr (ds s) (z.c s + t) m' ns').rd s (z.c s + t)).c s - z0.c s : Nat) : Int) = ((z.c s - z0.c s : Nat) : Int) + (t : Nat) := by rw [eCn]; omega
              have oF : OutF P s z0 (((z.fet s m ns).wr (ds s) (z.c s + t) m' ns').rd s (z.c s + t)) := by
                have q3 := r.n1t
                cases s
                · cases et
                · cases hs
                · have q4 : (z.n .to).length < (P.plan .to).length := sto.p rfl
                  have q5 : (z0.n .to).length ≤ (z.n .to).length := q3
                  have q6 : (z.n .to).length < ns'.length := s5
                  exact .ro ⟨by omega, show (z0.n .to).length < ns'.length by omega⟩
                · cases hs
              refine ⟨_, rfl, _, _, rfl, rfl, _, rfl, ite2 (fun ht => ?_) fun ht => ?_⟩
              · have ht' := of_decide_eq_true ht
                refine ⟨_, rfl, _, _, _, rfl, hF3, fF_no_read, _, rfl, P, _, s, t, rfl, w3, lvs hs _, isT_rd hs, by omega, by rw [e3C, e3H]; omega, by rw [e3H]; exact g2, by rw [e3L, e3C], fun l4 H4 k4 w4 => ?_⟩
                rw [e3C] at w4
                have kk := ((k1.trans k2).trans k3).trans k4
                refine ⟨_, rfl, _, rfl, _, _, rfl, rfl, _, rfl, rfl, _, rfl, ifF (decide_eq_false nE3) ⟨_, rfl, rfl, _, rfl, ifT (decide_eq_true rfl) ⟨_, rfl, _, rfl, rfl, rfl, fun a na => ?_⟩⟩⟩
                exact spPourFault_q (fun d2 Hx nd ex hdx => qX _ "target" x d2 Hx (.inr rfl) rS oF hx (kk.trans ex.keep) (w4.ex ex) (by rw [hdx, eCi])) na
              · have ht0 : t = 0 := by
                  rcases Nat.eq_zero_or_pos t with h | h
                  · exact h
                  · exact absurd (decide_eq_true (by omega)) ht
                have w4 : W P K H3 (toWS P (((z.fet s m ns).wr (ds s) (z.c s + t) m' ns').rd s (z.c s + t))) := by
                  have e4 := rd_self (z := (z.fet s m ns).wr (ds s) (z.c s + t) m' ns') (s := s) (by rw [e3L, e3C])
                  rw [e3C] at e4
                  rw [show ((z.fet s m ns).wr (ds s) (z.c s + t) m' ns').rd s (z.c s + t) = ((z.fet s m ns).wr (ds s) (z.c s + t) m' ns').rd s (z.c s) by rw [ht0]; rfl, e4]
                  exact w3
                have kk := (k1.trans k2).trans k3
                refine ⟨_, rfl, _, rfl, _, _, rfl, rfl, _, rfl, rfl, _, rfl, ifF (decide_eq_false nE3) ⟨_, rfl, rfl, _, rfl, ifT (decide_eq_true rfl) ⟨_, rfl, _, rfl, rfl, rfl, fun a na => ?_⟩⟩⟩
                exact spPourFault_q (fun d2 Hx nd ex hdx => qX _ "target" x d2 Hx (.inr rfl) rS oF hx (kk.trans ex.keep) (w4.ex ex) (by rw [hdx, eCi])) na
        · refine ⟨_, rfl, rfl, _, rfl, ifT rfl ⟨_, rfl, sz1 (by simp), fun p hp => ?_⟩⟩
          refine qV (z.fet s (z.hi s) (z.n s ++ [none])) "stalled" p _ (r.fet hs (Nat.le_refl _) sr.hi (fun e => by rw [← sr.sp]; subst e; exact (sr.r rfl).1) (by rw [List.length_append]; omega) (by rw [List.length_append]; exact Nat.le_refl _) (by rw [cat_app, seg_self]; rfl)) ?_ ⟨fun e => absurd e nE5, fun e => absurd e (hX 0 (by omega))⟩ ((k1.trans k2).trans (Ex.new hp).keep) (w2.new hp) upd_same
          cases s
          · exact .frS (usS _ sc rfl (by show _ < (up z.n .fr (z.n .fr ++ [none]) .fr).length; rw [up_same, List.length_append, List.length_singleton]; omega))
          · cases hs
          · obtain ⟨h1, h2⟩ := sc.2 rfl
            have h3 : z.sp .ro = z.hi .ro := sr.sp
            refine .roS h1 ⟨?_, ?_⟩
            · show z.c .ro = z.hi .ro
              exact ec
            · show z.hi .ro = z.sp .wi
              omega
          · cases hs
        · refine qX (z.fet s (z.hi s) (z.n s ++ [none])) "source" x d H2 (.inl rfl) (r.fet hs (Nat.le_refl _) sr.hi (fun e => by rw [← sr.sp]; subst e; exact (sr.r rfl).1) (by rw [List.length_append]; omega) (by rw [List.length_append]; exact Nat.le_refl _) (by rw [cat_app, seg_self]; rfl)) ?_ hx (k1.trans k2) w2 hd
          subst et
          exact .fr (usS _ sc rfl (by show _ < (up z.n .fr (z.n .fr ++ [none]) .fr).length; rw [up_same, List.length_append, List.length_singleton]; omega))
      · have heq : z.c s - z0.c s = n := by
          have : ¬ ((z.c s - z0.c s : Nat) : Int) < (n : Int) := fun q => e (decide_eq_true q)
          omega
        refine ⟨_, rfl, sz1 (by simp), fun p hp => ?_⟩
        exact qV z "most" p _ r.up1 .most ⟨fun _ => by rw [heq], fun _ => rfl⟩ (k1.trans (Ex.new hp).keep) (w1.new hp) upd_same
end
end Sip

set_option Elab.async false
set_option linter.all false
set_option maxRecDepth 100000
set_option maxHeartbeats 4000000
noncomputable section
namespace Sip
open PySem PySem.Spec PyProof.Rows L2 SipX L2H HotX
/-- o.f = .. as a target -/
def gFld (K : PySem.W.Frag) (ta : TE) (f : Str) : TG := fun v σ H Q => ta σ H fun x H2 => ∃ a C dx fs, x = .ref a ∧ H2 a = some (.ins C dx fs) ∧ Cls K C ∧ NoAttr K C f ∧ fs.length < 1000 ∧ Q σ (upd H2 a (.ins C dx (putF f v fs)))
theorem pg_fld {X : Cx} {o : Expr} {f : Str} {pos : Pos} {ta : TE} (ha : PE X o ta) : PG X (.Attribute o f pos) (gFld X.K ta f) := by
  refine ⟨fun pins s σ H v u Q I r h => ?_⟩
  refine PySem.W.kas_attr (thn (ha.run pins s σ H _ I h) fun ov s2 ⟨x, H2, I2, rx, a, C, dx, fs, ex, ea, c, n, l, q2⟩ => ?_)
  subst ex
  obtain rfl : ov = Value.ref a := rx
  exact setattr_ok I2 ea c n l r fun s3 I3 => ⟨σ, _, I3, q2⟩
def spPour (K : PySem.W.Frag) (s : Ix) : Sp := fun vs H Q E => ∃ (P : Pm) (z0 : Z) (room : Nat) (mo : V), vs = [.ref (P.A (.f s)), .ref (P.A (.f (ds s))), .int room, mo] ∧ (mo = .non ∨ ∃ n : Nat, mo = .int n) ∧ 1 ≤ room ∧ room ≤ 64 ∧
  W P K H (toWS P z0) ∧ R P s 0 z0 z0 ∧ (∀ i, (z0.n i).length ≤ 5000000) ∧ (s = .fr → z0.lv = true) ∧ z0.po s = false ∧ z0.po (ds s) = false ∧
  (∀ z wd p H', R P s 1 z0 z → Out P s z0 z wd → (wd = "most" ↔ mo = .int ((z.c s - z0.c s : Nat) : Int)) → Keep P H H' → W P K H' (toWS P z) → H' p = some (.tup [.int ((z.c s - z0.c s : Nat) : Int), .str wd]) → Q (.ref p) H') ∧
  ∀ z sd x d H', (sd = "source" ∨ sd = "target") → R P s 1 z0 z → OutF P s z0 z → 1 ≤ x → Keep P H H' → W P K H' (toWS P z) → H' d = some (.xd [("side", .str sd), ("count", .int ((z.c s - z0.c s : Nat) : Int)), ("number", .int x)]) → E (.ref (He.ga K "PourFault")) (some d) H'
theorem R.flag {P : Pm} {s : Ix} {e : Nat} {z0 z : Z} {p q : Ix → Bool} (r : R P s e z0 z) (h : q = p) : R P s e { z0 with po := p } { z with po := q } :=
  ⟨⟨r.zi.src, r.zi.tgt, r.zi.pip, r.zi.log, r.zi.rm⟩, r.ceq, r.cle, r.oth, r.lv, h, r.sps, r.spt, r.lom, r.n1, r.n1t, r.n2, r.n3⟩
theorem Out.flag {P : Pm} {s : Ix} {z0 z : Z} {p q : Ix → Bool} {wd : Str} (h : Out P s z0 z wd) : Out P s { z0 with po := p } { z with po := q } wd := by
  cases h with
  | frS h => exact .frS h
  | frF h => exact .frF h
  | roS l h => exact .roS l h
  | roT h => exact .roT h
  | frE h => exact .frE h
  | roE l h => exact .roE l h
  | most => exact .most
theorem OutF.flag {P : Pm} {s : Ix} {z0 z : Z} {p q : Ix → Bool} (h : OutF P s z0 z) : OutF P s { z0 with po := p } { z with po := q } := by
  cases h with
  | fr h => exact .fr h
  | ro h => exact .ro h
theorem po_cast {P : Pm} {z : Z} {i : Ix} {b : Bool} : { toWS P z with f := up (toWS P z).f i { (toWS P z).f i with po := b } } = toWS P { z with po := up z.po i b } := by
  refine WS.eq (fun j => ?_) (fun _ => rfl) (fun _ => rfl) rfl
  by_cases hj : j = i
  · subst hj
    show up _ j _ j = (⟨up z.po j b j, _, _, _, _, _⟩ : FR)
    rw [up_same, up_same]
    rfl
  · show up _ i _ j = (⟨up z.po i b j, _, _, _, _, _⟩ : FR)
    rw [up_ne hj, up_ne hj]
    rfl
theorem po_back {z0 : Z} {s t : Ix} (h1 : z0.po s = false) (h2 : z0.po t = false) : up (up (up (up z0.po s true) t true) s false) t false = z0.po := by
  funext j
  by_cases hj : j = t
  · subst hj
    rw [up_same, h2]
  · rw [up_ne hj]
    by_cases hs : j = s
    · subst hs
      rw [up_same, h1]
    · rw [up_ne hs, up_ne hj, up_ne hs]
section
variable {prog : Program} {w : World} {base : Heap} {K : PySem.W.Frag} {mg : Str → Option Value}
theorem ok_pour (T : Txt K mg) (s : Ix) (hs : isT s = false) : FnOk prog w K mg base (L2.CX prog w) 10 (He.fAd K d_pour.at_) (fdO K d_pour) ["source", "target", "room", "most"] (spPour K s) :=
  T.F_pour.ok sc_pour (fun vs H Q E h => by obtain ⟨_, _, _, _, rfl, _⟩ := h; rfl) fun cdv A outer st H vs Q E hr h => by
    obtain ⟨P, z0, room, mo, rfl, hmo, hr1, hr2, w, r0, hn, hlv, hp1, hp2, qV, qX⟩ := h
    have hne := ds_ne hs
    obtain ⟨tG, hi_MOST_ROOM_pouring⟩ := T.i_MOST_ROOM_pouring
    obtain ⟨ah, de, mi, hF, hah, hde, hmi⟩ := w.file s
    obtain ⟨ahT, deT, miT, hG, hahT, hdeT, hmiT⟩ := w.file (ds s)
    have I := T.ins_File
    refine ⟨_, (pss_cons (ps_if (PW.pt (pw_or (pt_cmpR op_lt (pv 2) pe_int (nomark _)) (pw_or1 (pt_cmpR op_gt (pv 2) (pe_glob (v := .int 64) rfl hi_MOST_ROOM_pouring ⟨_, rfl⟩) (nomark _))))) (pss_one ps_never) pss_nil) (pss_cons (ps_if (PW.pt (pw_and (pt_cmpR op_notN (pv 3) pe_non (nomark _)) (pw_and1 (pt_cmpR op_lt (pv 3) pe_int (nomark _))))) (pss_one ps_never) pss_nil) (pss_cons (ps_if (pt_not (pt_val (pe_call (ok_alike T) (hr.mono (by decide)) (by rfl) T.g_alike T.F_alike.kp T.b_alike .nil pz (pa_cons (pv 0) (pa_cons (pv 1) pa_nil))))) (pss_one ps_never) pss_nil) (pss_cons (ps_if (pt_cmpR (op_eqIns (hu_of hr)) (pv 0) (pv 1) (nomark _)) (pss_one ps_never) pss_nil) (pss_cons (ps_asg2 pe_bl (pg_fld (pv 0)) (pg_fld (pv 1))) (pss_one (ps_retFinX (tfs := tSeq (sFld K (tVar 0) (tC (.bl false)) "pouring") (sFld K (tVar 1) (tC (.bl false)) "pouring")) rfl rfl rfl (L2.takes_of rfl rfl rfl rfl) (fun W pn xe tk own => pe_callSD (E := L2.WE W) (ok_poured T s hs) (hr.mono (by decide)) (by rfl) T.g_poured T.F_poured.kp T.b_poured .nil (fun σ => L2.passAt tk σ) (pa_cons (pv 0) (pa_cons (pv 1) (pa_cons (pv 2) (pa_cons (pv 3) pa_nil))))) (pss_cons (ps_fld (pv 0) pe_bl rfl) (pss_one (ps_fld (pv 1) pe_bl rfl))) ?hs))))))), ?_⟩
    case hs =>
      intro a pn
      exact pss_cons (ps_fld (pv 0) pe_bl rfl) (pss_one (ps_fld (pv 1) pe_bl rfl))
    refine ⟨_, rfl, _, _, rfl, rfl, _, rfl, ifF (decide_eq_false (by omega)) ⟨_, rfl, _, _, rfl, rfl, _, rfl, ifF (decide_eq_false (by omega)) ?_⟩⟩
    refine (fun h => ⟨_, rfl, rfl, _, rfl, ite2 (fun hc => (by
      obtain ⟨n, hmn⟩ : ∃ n : Nat, mo = .int n := by
        rcases hmo with h0 | h0
        · rw [h0] at hc
          exact absurd hc (by decide)
        · exact h0
      exact ⟨_, rfl, _, _, hmn, rfl, _, rfl, ifF (decide_eq_false (by omega)) h⟩)) (fun _ => ifF rfl h)⟩) ?_
    refine ⟨_, rfl, _, rfl, P, _, s, ds s, rfl, w, true, rfl, ifF rfl ?_⟩
    refine ⟨_, rfl, _, rfl, _, _, _, _, _, _, _, rfl, rfl, pne (by intro e; injection e with e; exact hne e), hF, hG, I.hm, I.eq, _, rfl, ifF rfl ?_⟩
    refine ⟨_, rfl, _, _, _, _, rfl, hF, T.cls_File, T.n_File_pouring, Nat.lt_of_le_of_lt (Nat.le_of_eq fF_len) (by decide), ?_⟩
    have w1 := (w.s_pouring hF hah hde hmi (b := true)).cast po_cast
    obtain ⟨ah1, de1, mi1, hF1, hah1, hde1, hmi1⟩ := w1.file (ds s)
    refine ⟨_, rfl, _, _, _, _, rfl, hF1, T.cls_File, T.n_File_pouring, Nat.lt_of_le_of_lt (Nat.le_of_eq fF_len) (by decide), ?_⟩
    have w2 := (w1.s_pouring hF1 hah1 hde1 hmi1 (b := true)).cast po_cast
    obtain ⟨z1, hz1⟩ : ∃ z1 : Z, z1 = { { z0 with po := up z0.po s true } with po := up ({ z0 with po := up z0.po s true } : Z).po (ds s) true } := ⟨_, rfl⟩
    rw [← hz1] at w2
    have ez : z1 = { z0 with po := up (up z0.po s true) (ds s) true } := hz1
    have r1 : R P s 0 z1 z1 := by rw [ez]; exact r0.flag rfl
    have eback : ∀ z : Z, z.po = z1.po → up (up z.po s false) (ds s) false = z0.po := fun z h => by
      rw [h, ez]
      exact po_back hp1 hp2
    have eR : ∀ z : Z, R P s 1 z1 z → R P s 1 z0 { { z with po := up z.po s false } with po := up (up z.po s false) (ds s) false } := fun z r => by
      have := r.flag (p := z0.po) (q := up (up z.po s false) (ds s) false) (eback z r.po)
      rw [ez] at this
      exact this
    have eO : ∀ (z : Z) wd, Out P s z1 z wd → Out P s z0 { { z with po := up z.po s false } with po := up (up z.po s false) (ds s) false } wd := fun z wd o => by
      have := o.flag (p := z0.po) (q := up (up z.po s false) (ds s) false)
      rw [ez] at this
      exact this
    have eOF : ∀ (z : Z), OutF P s z1 z → OutF P s z0 { { z with po := up z.po s false } with po := up (up z.po s false) (ds s) false } := fun z o => by
      have := o.flag (p := z0.po) (q := up (up z.po s false) (ds s) false)
      rw [ez] at this
      exact this
    have ec : ∀ z : Z, z.c s - z1.c s = z.c s - z0.c s := fun z => by rw [ez]
    refine ⟨_, rfl, _, rfl, _, rfl, _, rfl, P, z1, room, mo, rfl, hmo, hr1, hr2, w2, r1, fun i => by rw [ez]; exact hn i, fun e => by rw [ez]; exact hlv e, fun z wd p H3 r o hw k3 w3 hp => ?_, fun z sd x d H3 hsd r o hx k3 w3 hd => ?_⟩
    · obtain ⟨ah3, de3, mi3, hF3, hah3, hde3, hmi3⟩ := w3.file s
      refine ⟨_, rfl, _, _, _, _, rfl, hF3, T.cls_File, T.n_File_pouring, Nat.lt_of_le_of_lt (Nat.le_of_eq fF_len) (by decide), ?_⟩
      have w4 := (w3.s_pouring hF3 hah3 hde3 hmi3 (b := false)).cast po_cast
      obtain ⟨ah4, de4, mi4, hF4, hah4, hde4, hmi4⟩ := w4.file (ds s)
      refine ⟨_, rfl, _, _, _, _, rfl, hF4, T.cls_File, T.n_File_pouring, Nat.lt_of_le_of_lt (Nat.le_of_eq fF_len) (by decide), ?_⟩
      have w5 := (w4.s_pouring hF4 hah4 hde4 hmi4 (b := false)).cast po_cast
      rw [ec] at hw hp
      have np : ∀ t, p ≠ P.A (.f t) := fun t => by
        obtain ⟨_, _, _, hFt, _⟩ := w3.file t
        exact ne_of hp hFt (by intro z; cases z)
      exact qV _ wd p _ (eR z r) (eO z wd o) hw (((Only.upd.keep.trans Only.upd.keep).trans k3).trans (Only.upd.keep.trans Only.upd.keep)) w5 (by rw [upd_ne (np _), upd_ne (np _)]; exact hp)
    · obtain ⟨ah3, de3, mi3, hF3, hah3, hde3, hmi3⟩ := w3.file s
      refine ⟨_, rfl, _, _, _, _, rfl, hF3, T.cls_File, T.n_File_pouring, Nat.lt_of_le_of_lt (Nat.le_of_eq fF_len) (by decide), ?_⟩
      have w4 := (w3.s_pouring hF3 hah3 hde3 hmi3 (b := false)).cast po_cast
      obtain ⟨ah4, de4, mi4, hF4, hah4, hde4, hmi4⟩ := w4.file (ds s)
      refine ⟨_, rfl, _, _, _, _, rfl, hF4, T.cls_File, T.n_File_pouring, Nat.lt_of_le_of_lt (Nat.le_of_eq fF_len) (by decide), ?_⟩
      have w5 := (w4.s_pouring hF4 hah4 hde4 hmi4 (b := false)).cast po_cast
      rw [ec] at hd
      have np : ∀ t, d ≠ P.A (.f t) := fun t => by
        obtain ⟨_, _, _, hFt, _⟩ := w3.file t
        exact ne_of hd hFt (by intro z; cases z)
      exact qX _ sd x d _ hsd (eR z r) (eOF z o) hx (((Only.upd.keep.trans Only.upd.keep).trans k3).trans (Only.upd.keep.trans Only.upd.keep)) w5 (by rw [upd_ne (np _), upd_ne (np _)]; exact hd)
end
end Sip

set_option Elab.async false
set_option linter.all false
set_option maxRecDepth 100000
set_option maxHeartbeats 4000000
noncomputable section
namespace Sip
open PySem PySem.Spec PyProof.Rows L2 SipX L2H HotX
/-! ### the law's own draws -/
def KeepA (a : Addr) (H H' : Hp) : Prop := ∀ b o, b ≠ a → H b = some o → H' b = some o
def Pool (H : Hp) (a : Addr) (n : Nat) : Prop := ∃ d c, H a = some (.lst [.int d, .int (n : Nat), .int c])
def spPool (K : PySem.W.Frag) : Sp := fun vs H Q _ => ∃ (a : Addr) (ns : List Int) (t : Nat), vs = [.ref a, .int t] ∧ SqL K H a (ns.map V.int) ∧ t ≤ 100 ∧ ∀ l H', H l = none → Ex H H' → Pool H' l (1000 * t) → Q (.ref l) H'
def spTake0 : Sp := fun vs H Q _ => ∃ (a : Addr) (n wide : Nat), vs = [.ref a, .int wide] ∧ Pool H a n ∧ n ≤ 1000000 ∧ 1 ≤ wide ∧ wide ≤ 1000 ∧ ∀ r n' H', r < wide → n' ≤ n + 1 → KeepA a H H' → Pool H' a n' → Q (.int (r : Nat)) H'
def spRow : Sp := fun vs H Q _ => ∃ (a : Addr) (n long : Nat), vs = [.ref a, .int long] ∧ Pool H a n ∧ n ≤ 900000 ∧ long ≤ 100 ∧ ∀ l (xs : List Int) n' H', H l = none → l ≠ a → KeepA a H H' → Pool H' a n' → n' ≤ n + 400 → H' l = some (.lst (xs.map V.int)) → xs.length ≤ long → (∀ x ∈ xs, 0 ≤ x ∧ x ≤ 255) → Q (.ref l) H'
def spPlan : Sp := fun vs H Q _ => ∃ (a : Addr) (n long : Nat) (t : Int), vs = [.ref a, .int long, .int t] ∧ Pool H a n ∧ n ≤ 900000 ∧ long ≤ 100 ∧ ∀ l (xs : List Int) n' H', H l = none → l ≠ a → KeepA a H H' → Pool H' a n' → n' ≤ n + 400 → H' l = some (.lst (xs.map V.int)) → xs.length ≤ long → Q (.ref l) H'
theorem KeepA.refl {a : Addr} {H : Hp} : KeepA a H H := fun _ _ _ e => e
theorem KeepA.trans {a : Addr} {H H1 H2 : Hp} (h : KeepA a H H1) (h2 : KeepA a H1 H2) : KeepA a H H2 := fun b o n e => h2 b o n (h b o n e)
theorem KeepA.ex {a : Addr} {H H1 : Hp} (h : Ex H H1) : KeepA a H H1 := fun b o _ e => h b o e
theorem KeepA.upd {a : Addr} {H : Hp} {o : HO} : KeepA a H (upd H a o) := fun b u n e => by
  rw [upd_ne n]
  exact e
theorem Pool.ex {a : Addr} {H H1 : Hp} {n : Nat} (h : Pool H a n) (e : Ex H H1) : Pool H1 a n := by
  obtain ⟨d, c, h⟩ := h
  exact ⟨d, c, e _ _ h⟩
section
variable {prog : Program} {w : World} {base : Heap} {K : PySem.W.Frag} {mg : Str → Option Value}
theorem ok__law_pool (T : Txt K mg) : FnOk prog w K mg base CXz 1 (He.fAd K d__law_pool.at_) (fdO K d__law_pool) ["_law_script", "_law_at"] (spPool K) :=
  T.F__law_pool.ok sc__law_pool (fun vs H Q E h => by obtain ⟨_, _, _, rfl, _⟩ := h; rfl) fun cdv A outer st H vs Q E hr h => by
    obtain ⟨a, ns, t, rfl, ha, ht, q⟩ := h
    refine ⟨_, (pss_cons (ps_set (i := 2) sc__law_pool.nd rfl (Or.inl rfl) pe_int) (pss_cons (ps_if (pt_cmpR op_gt (pe_callB call_len_seq (by rfl) T.n_len PySem.boot_len (pa_cons (pv 0) pa_nil)) pe_int (nomark _)) (pss_one (ps_set (i := 2) sc__law_pool.nd rfl (Or.inl rfl) (pe_ix ix_list (pv 0) (pe_op op_mod (pv 1) (pe_callB call_len_seq (by rfl) T.n_len PySem.boot_len (pa_cons (pv 0) pa_nil))) (fun _ _ => rfl)))) pss_nil) (pss_cons (ps_set (i := 3) sc__law_pool.nd rfl (Or.inl rfl) pe_int) (pss_cons (ps_if (PW.pt (pw_and (pt_cmpR op_ge (pv 2) (pe_op op_pow pe_int pe_int) (nomark _)) (pw_and1 (pt_cmpR op_lt (pv 1) (pe_callB call_len_seq (by rfl) T.n_len PySem.boot_len (pa_cons (pv 0) pa_nil)) (nomark _))))) (pss_one (ps_set (i := 3) sc__law_pool.nd rfl (Or.inl rfl) (pv 2))) pss_nil) (pss_one (ps_ret (pe_lst (pa_cons (pv 3) (pa_cons (pe_op op_mul pe_int (pv 1)) (pa_cons (pv 2) pa_nil)))))))))), ?_⟩
    refine ⟨_, rfl, a, _, rfl, .inl ha, _, _, rfl, rfl, _, rfl, ?_⟩
    refine ite2 (fun e0 => ?_) fun e0 => ?_
    · have hpos := of_decide_eq_true e0
      rw [map_len] at hpos
      have hlt : t % ns.length < ns.length := Nat.mod_lt _ (by omega)
      obtain ⟨x, hx⟩ : ∃ x, ns[t % ns.length]? = some x := ⟨_, List.getElem?_eq_getElem hlt⟩
      refine ⟨_, rfl, _, rfl, _, rfl, a, _, rfl, .inl ha, _, _, rfl, rfl, (by rw [map_len]; exact hpos), a, _, _, V.int x, rfl, rfl, ha, ?_, ?_⟩
      · rw [map_len, show ((t : Nat) : Int) % ((ns.length : Nat) : Int) = ((t % ns.length : Nat) : Int) by simp]
        exact atI_nat (by rw [List.getElem?_map, hx]; rfl)
      refine ⟨_, rfl, _, _, rfl, rfl, ⟨by decide, by decide, by decide⟩, _, _, rfl, rfl, _, rfl, ite2 (fun e => ?_) fun e => ?_⟩
      · refine ⟨_, rfl, _, rfl, a, _, rfl, .inl ha, _, _, rfl, rfl, _, rfl, ite2 (fun e2 => ?_) fun e2 => ?_⟩
        · exact ⟨_, rfl, _, rfl, _, rfl, _, _, rfl, rfl, .inl ⟨by decide, by decide⟩, _, rfl, sz1 (by simp), fun l hl => q l _ hl (Ex.new hl) ⟨_, _, by rw [upd_same]; rfl⟩⟩
        · exact ⟨_, rfl, _, rfl, _, _, rfl, rfl, .inl ⟨by decide, by decide⟩, _, rfl, sz1 (by simp), fun l hl => q l _ hl (Ex.new hl) ⟨_, _, by rw [upd_same]; rfl⟩⟩
      · exact ⟨_, rfl, _, rfl, _, _, rfl, rfl, .inl ⟨by decide, by decide⟩, _, rfl, sz1 (by simp), fun l hl => q l _ hl (Ex.new hl) ⟨_, _, by rw [upd_same]; rfl⟩⟩
    · refine ⟨_, rfl, _, _, rfl, rfl, ⟨by decide, by decide, by decide⟩, _, _, rfl, rfl, _, rfl, ite2 (fun e => ?_) fun e => ?_⟩
      · refine ⟨_, rfl, _, rfl, a, _, rfl, .inl ha, _, _, rfl, rfl, _, rfl, ite2 (fun e2 => ?_) fun e2 => ?_⟩
        · exact ⟨_, rfl, _, rfl, _, rfl, _, _, rfl, rfl, .inl ⟨by decide, by decide⟩, _, rfl, sz1 (by simp), fun l hl => q l _ hl (Ex.new hl) ⟨_, _, by rw [upd_same]; rfl⟩⟩
        · exact ⟨_, rfl, _, rfl, _, _, rfl, rfl, .inl ⟨by decide, by decide⟩, _, rfl, sz1 (by simp), fun l hl => q l _ hl (Ex.new hl) ⟨_, _, by rw [upd_same]; rfl⟩⟩
      · exact ⟨_, rfl, _, rfl, _, _, rfl, rfl, .inl ⟨by decide, by decide⟩, _, rfl, sz1 (by simp), fun l hl => q l _ hl (Ex.new hl) ⟨_, _, by rw [upd_same]; rfl⟩⟩
theorem ok__law_take (T : Txt K mg) : FnOk prog w K mg base CXz 1 (He.fAd K d__law_take.at_) (fdO K d__law_take) ["_law_pool_here", "_law_wide"] (spTake0) :=
  T.F__law_take.ok sc__law_take (fun vs H Q E h => by obtain ⟨_, _, _, rfl, _⟩ := h; rfl) fun cdv A outer st H vs Q E hr h => by
    obtain ⟨a, n, wide, rfl, ⟨d, c, ha⟩, hn, hw, hw2, q⟩ := h
    have hw0 : (0 : Int) < (wide : Nat) := by omega
    refine ⟨_, (pss_cons (ps_if (pt_cmpR op_gt (pe_ix ix_list (pv 0) pe_int (fun _ _ => rfl)) pe_int (nomark _)) (pss_cons (ps_set (i := 2) sc__law_take.nd rfl (Or.inl rfl) (pe_op op_mod (pe_ix ix_list (pv 0) pe_int (fun _ _ => rfl)) (pv 1))) (pss_cons (ps_asg (pe_op op_fdivW (pe_ix ix_list (pv 0) pe_int (fun _ _ => rfl)) (pv 1)) (pg_sub (pv 0) pe_int set_list)) (pss_one (ps_ret (pv 2))))) pss_nil) (pss_cons (ps_asg (pe_op op_add (pe_ix ix_list (pv 0) pe_int (fun _ _ => rfl)) pe_int) (pg_sub (pv 0) pe_int set_list)) (pss_cons (ps_set (i := 3) sc__law_take.nd rfl (Or.inl rfl) (pe_op op_mod (pe_op op_pow (pe_op op_add (pe_op op_mod (pe_ix ix_list (pv 0) pe_int (fun _ _ => rfl)) pe_int) (pe_op op_mul pe_int (pe_ix ix_list (pv 0) pe_int (fun _ _ => rfl)))) pe_int) pe_int)) (pss_cons (ps_set (i := 3) sc__law_take.nd rfl (Or.inl rfl) (pe_op op_add (pe_op op_mul (pv 3) pe_int) (pe_op op_mul (pe_op op_mul (pe_ix ix_list (pv 0) pe_int (fun _ _ => rfl)) (pe_ix ix_list (pv 0) pe_int (fun _ _ => rfl))) pe_int))) (pss_one (ps_ret (pe_op op_mod (pe_op op_fdiv (pe_op op_mod (pe_op op_add (pv 3) (pe_op op_fdivW (pe_ix ix_list (pv 0) pe_int (fun _ _ => rfl)) pe_int)) pe_int) pe_int) (pv 1)))))))), ?_⟩
    have hdiv : ∀ x : Int, CDivW x (wide : Nat) := fun x => wide_div hw0 (b := 10) (by omega) (by decide) (by decide)
    have fin : ∀ (x : Int) (H' : Hp) (n' : Nat), n' ≤ n + 1 → KeepA a H H' → Pool H' a n' → Q (.int (x % (wide : Nat))) H' := fun x H' n' h1 h2 h3 => by
      have b1 := Int.emod_nonneg x (b := (wide : Nat)) (by omega)
      have b2 := Int.emod_lt_of_pos x hw0
      rw [show x % ((wide : Nat) : Int) = (((x % ((wide : Nat) : Int)).toNat : Nat) : Int) by omega]
      exact q _ n' H' (by omega) h1 h2 h3
    refine ⟨_, rfl, a, _, _, _, rfl, rfl, .inl (.inl ha), rfl, _, _, rfl, rfl, _, rfl, ite2 (fun e => ?_) fun e => ?_⟩
    · refine ⟨_, rfl, a, _, _, _, rfl, rfl, .inl (.inl ha), rfl, _, rfl, _, _, rfl, rfl, hw0, _, rfl, a, _, _, _, rfl, rfl, .inl (.inl ha), rfl, _, rfl, _, _, rfl, rfl, hdiv _, _, rfl, a, _, _, 0, rfl, rfl, ha, rfl, _, rfl, ?_⟩
      exact fin _ _ n (by omega) KeepA.upd ⟨_, _, upd_same⟩
    · refine ⟨_, rfl, a, _, _, _, rfl, rfl, .inl (.inl ha), rfl, _, _, rfl, rfl, _, rfl, a, _, _, 1, rfl, rfl, ha, rfl, ?_⟩
      have ha1 : upd H a (.lst [.int d, .int ((n : Nat) + 1), .int c]) a = some (.lst [.int d, .int ((n : Nat) + 1), .int c]) := upd_same
      have c1 := Int.emod_nonneg c (b := 2147483647) (by decide)
      have c2 := Int.emod_lt_of_pos c (b := 2147483647) (by decide)
      refine ⟨_, rfl, a, _, _, _, rfl, rfl, .inl (.inl ha1), rfl, _, _, rfl, rfl, (by show (0 : Int) < 2147483647; decide), _, rfl, a, _, _, _, rfl, rfl, .inl (.inl ha1), rfl, _, _, rfl, rfl, .inl ⟨by decide, by decide⟩, _, _, rfl, rfl, _, _, rfl, rfl, ⟨by decide, by decide, ?_⟩, _, _, rfl, rfl, (by show (0 : Int) < 2147483647; decide), ?_⟩
      · show (c % 2147483647 + 40503 * ((n : Nat) + 1)).natAbs < 2 ^ 64
        omega
      refine ⟨_, rfl, _, _, rfl, rfl, .inr ⟨by decide, by decide⟩, _, rfl, a, _, _, _, rfl, rfl, .inl (.inl ha1), rfl, _, rfl, a, _, _, _, rfl, rfl, .inl (.inl ha1), rfl, _, _, rfl, rfl, .inl ⟨?_, ?_⟩, _, _, rfl, rfl, .inr ⟨by decide, by decide⟩, _, _, rfl, rfl, ?_⟩
      · show -(2 ^ 64) < ((n : Nat) : Int) + 1
        omega
      · show ((n : Nat) : Int) + 1 < 2 ^ 64
        omega
      refine ⟨_, rfl, _, rfl, a, _, _, _, rfl, rfl, .inl (.inl ha1), rfl, _, _, rfl, rfl, wide_div (b := 32) (by decide) (by decide) (by decide) (by decide), _, _, rfl, rfl, _, _, rfl, rfl, (by show (0 : Int) < 1000000007; decide), _, _, rfl, rfl, ⟨by decide, by decide⟩, _, rfl, _, _, rfl, rfl, hw0, ?_⟩
      exact fin _ _ (n + 1) (by omega) KeepA.upd ⟨_, _, upd_same⟩
theorem bytes5 (w : Nat) (h : w < 5) : ∃ v : Int, atI [V.int 0, .int 10, .int 10, .int 13, .int 255] (w : Int) = some (V.int v) ∧ 0 ≤ v ∧ v ≤ 255 := by
  match w, h with
  | 0, _ => exact ⟨0, rfl, by decide, by decide⟩
  | 1, _ => exact ⟨10, rfl, by decide, by decide⟩
  | 2, _ => exact ⟨10, rfl, by decide, by decide⟩
  | 3, _ => exact ⟨13, rfl, by decide, by decide⟩
  | 4, _ => exact ⟨255, rfl, by decide, by decide⟩
theorem wides4 (w : Nat) (h : w < 4) : ∃ v : Nat, atI [V.int 3, .int 3, .int 9, .int 400] (w : Int) = some (V.int (v : Nat)) ∧ 1 ≤ v ∧ v ≤ 1000 := by
  match w, h with
  | 0, _ => exact ⟨3, rfl, by decide, by decide⟩
  | 1, _ => exact ⟨3, rfl, by decide, by decide⟩
  | 2, _ => exact ⟨9, rfl, by decide, by decide⟩
  | 3, _ => exact ⟨400, rfl, by decide, by decide⟩
theorem ok__law_row (T : Txt K mg) : FnOk prog w K mg base CXz 2 (He.fAd K d__law_row.at_) (fdO K d__law_row) ["_law_pool_here", "_law_long"] (spRow) :=
  T.F__law_row.ok sc__law_row (fun vs H Q E h => by obtain ⟨_, _, _, rfl, _⟩ := h; rfl) fun cdv A outer st H vs Q E hr h => by
    obtain ⟨a, n, long, rfl, hp, hn, hlong, q⟩ := h
    refine ⟨_, (pss_cons (ps_set (i := 2) sc__law_row.nd rfl (Or.inl rfl) (pe_lst pa_nil)) (pss_cons (ps_for PassesOwn.leaving rfl (pi_range1 (by rfl) T.n_range (pa_cons (pe_call (ok__law_take T) (hr.mono (by decide)) (by rfl) T.g__law_take T.F__law_take.kp T.b__law_take .nil pz (pa_cons (pv 0) (pa_cons (pe_op op_add (pv 1) pe_int) pa_nil))) pa_nil)) (pg_name (i := 3) sc__law_row.nd rfl (Or.inl rfl)) (pss_cons (ps_set (i := 4) sc__law_row.nd rfl (Or.inl rfl) (pe_call (ok__law_take T) (hr.mono (by decide)) (by rfl) T.g__law_take T.F__law_take.kp T.b__law_take .nil pz (pa_cons (pv 0) (pa_cons pe_int pa_nil)))) (pss_one (ps_if (pt_cmpR op_lt (pv 4) pe_int (nomark _)) (pss_one (ps_expr (pe_bm PySem.F.plainAttrs_list PySem.F.slot_list_append PySem.F.type_list_append mt_append (pv 2) (pa_cons (pe_ix ix_list (pe_lst (pa_cons pe_int (pa_cons pe_int (pa_cons pe_int (pa_cons pe_int (pa_cons pe_int pa_nil)))))) (pv 4) (fun _ _ => rfl)) pa_nil)))) (pss_one (ps_expr (pe_bm PySem.F.plainAttrs_list PySem.F.slot_list_append PySem.F.type_list_append mt_append (pv 2) (pa_cons (pe_call (ok__law_take T) (hr.mono (by decide)) (by rfl) T.g__law_take T.F__law_take.kp T.b__law_take .nil pz (pa_cons (pv 0) (pa_cons pe_int pa_nil))) pa_nil)))))))) (pss_one (ps_ret (pv 2))))), ?_⟩
    refine ⟨sz1 (by simp), fun l hl => ?_⟩
    have hla : l ≠ a := by
      obtain ⟨d, c, hp⟩ := hp
      exact (ne_of_none hp hl).symm
    refine ⟨_, rfl, _, rfl, _, _, rfl, rfl, a, n, long + 1, rfl, hp.ex (Ex.new hl), by omega, by omega, by omega, fun r n1 H1 hr1 hn1 k1 hp1 => ?_⟩
    refine ⟨_, rfl, by omega, by omega, for_range (fun i σ H' => ∃ n' xs b3 b4, σ = [some (.ref a), some (.int (long : Nat)), some (.ref l), b3, b4] ∧ KeepA a H H' ∧ Pool H' a n' ∧ n' ≤ n + 1 + 2 * i ∧ H' l = some (.lst (xs.map V.int)) ∧ xs.length = i ∧ ∀ x ∈ xs, 0 ≤ x ∧ x ≤ 255)
      ⟨n1, [], none, none, rfl, (KeepA.ex (Ex.new hl)).trans k1, hp1, by omega, k1 _ _ hla upd_same, rfl, fun x hx => by cases hx⟩ (fun i σ H' hi hP => ?_) fun σ H' hP => ?_⟩
    · obtain ⟨n2, xs, b3, b4, rfl, k2, hp2, hn2, hx2, hlen, hby⟩ := hP
      refine ⟨_, rfl, a, n2, 8, rfl, hp2, by omega, by decide, by decide, fun w n3 H3 hw hn3 k3 hp3 => ?_⟩
      have hx3 := k3 _ _ hla hx2
      refine ⟨_, rfl, _, _, rfl, rfl, _, rfl, ite2 (fun e => ?_) fun e => ?_⟩
      · have e' := of_decide_eq_true e
        obtain ⟨v, hv, v0, v1⟩ := bytes5 w (by omega)
        refine ⟨_, rfl, .inl ⟨rfl, _, .inl (.inl hx3)⟩, sz1 (by simp), fun p hpn => ⟨_, rfl, p, _, _, V.int v, rfl, rfl, .inl (.inl upd_same), hv, l, _, _, rfl, rfl, Ex.new hpn _ _ hx3, sz2 (by rw [map_len]; omega), ?_⟩⟩
        have hlp : l ≠ p := ne_of_none hx3 hpn
        refine ⟨n3, xs ++ [v], _, _, rfl, fun b o nb eb => ?_, ?_, by omega, by rw [upd_same, List.map_append]; rfl, by rw [List.length_append, hlen]; rfl, fun x hx => ?_⟩
        · have nl : b ≠ l := ne_of_none eb hl
          rw [upd_ne nl]
          exact Ex.new hpn _ _ (k3 _ _ nb (k2 _ _ nb eb))
        · obtain ⟨d, c, hp3⟩ := hp3
          exact ⟨d, c, by rw [upd_ne (Ne.symm hla)]; exact Ex.new hpn _ _ hp3⟩
        · rcases List.mem_append.mp hx with h | h
          · exact hby x h
          · rw [List.mem_singleton.mp h]
            exact ⟨v0, v1⟩
      · refine ⟨_, rfl, .inl ⟨rfl, _, .inl (.inl hx3)⟩, _, rfl, a, n3, 256, rfl, hp3, by omega, by decide, by decide, fun v n4 H4 hv hn4 k4 hp4 => ?_⟩
        have hx4 := k4 _ _ hla hx3
        refine ⟨l, _, _, rfl, rfl, hx4, sz2 (by rw [map_len]; omega), ?_⟩
        refine ⟨n4, xs ++ [(v : Int)], _, _, rfl, fun b o nb eb => ?_, ?_, by omega, by rw [upd_same, List.map_append]; rfl, by rw [List.length_append, hlen]; rfl, fun x hx => ?_⟩
        · have nl : b ≠ l := ne_of_none eb hl
          rw [upd_ne nl]
          exact k4 _ _ nb (k3 _ _ nb (k2 _ _ nb eb))
        · obtain ⟨d, c, hp4⟩ := hp4
          exact ⟨d, c, by rw [upd_ne (Ne.symm hla)]; exact hp4⟩
        · rcases List.mem_append.mp hx with h | h
          · exact hby x h
          · rw [List.mem_singleton.mp h]
            omega
    · obtain ⟨n2, xs, b3, b4, rfl, k2, hp2, hn2, hx2, hlen, hby⟩ := hP
      have : (((r : Nat) : Int)).toNat = r := by omega
      rw [this] at hn2 hlen
      exact ⟨_, rfl, q l xs n2 H' hl hla k2 hp2 (by omega) hx2 (by omega) hby⟩
theorem ok__law_plan (T : Txt K mg) : FnOk prog w K mg base CXz 2 (He.fAd K d__law_plan.at_) (fdO K d__law_plan) ["_law_pool_here", "_law_long", "_law_troubles"] (spPlan) :=
  T.F__law_plan.ok sc__law_plan (fun vs H Q E h => by obtain ⟨_, _, _, _, rfl, _⟩ := h; rfl) fun cdv A outer st H vs Q E hr h => by
    obtain ⟨a, n, long, tr, rfl, hp, hn, hlong, q⟩ := h
    refine ⟨_, (pss_cons (ps_set (i := 3) sc__law_plan.nd rfl (Or.inl rfl) (pe_lst pa_nil)) (pss_cons (ps_for PassesOwn.leaving rfl (pi_range1 (by rfl) T.n_range (pa_cons (pe_call (ok__law_take T) (hr.mono (by decide)) (by rfl) T.g__law_take T.F__law_take.kp T.b__law_take .nil pz (pa_cons (pv 0) (pa_cons (pe_op op_add (pv 1) pe_int) pa_nil))) pa_nil)) (pg_name (i := 4) sc__law_plan.nd rfl (Or.inl rfl)) (pss_cons (ps_set (i := 5) sc__law_plan.nd rfl (Or.inl rfl) (pe_call (ok__law_take T) (hr.mono (by decide)) (by rfl) T.g__law_take T.F__law_take.kp T.b__law_take .nil pz (pa_cons (pv 0) (pa_cons pe_int pa_nil)))) (pss_one (ps_if (PW.pt (pw_and (pt_cmpR op_lt (pv 5) pe_int (nomark _)) (pw_and1 (pt_cmpR op_eq (pe_op op_mod (pv 2) pe_int) pe_int (nomark _))))) (pss_one (ps_expr (pe_bm PySem.F.plainAttrs_list PySem.F.slot_list_append PySem.F.type_list_append mt_append (pv 3) (pa_cons pe_int pa_nil)))) (pss_one (ps_if (PW.pt (pw_and (pt_cmpR op_eq (pv 5) pe_int (nomark _)) (pw_and1 (pt_cmpR op_gt (pv 2) pe_int (nomark _))))) (pss_one (ps_expr (pe_bm PySem.F.plainAttrs_list PySem.F.slot_list_append PySem.F.type_list_append mt_append (pv 3) (pa_cons (pe_op op_sub (pe_un un_neg pe_int) (pe_call (ok__law_take T) (hr.mono (by decide)) (by rfl) T.g__law_take T.F__law_take.kp T.b__law_take .nil pz (pa_cons (pv 0) (pa_cons pe_int pa_nil)))) pa_nil)))) (pss_one (ps_expr (pe_bm PySem.F.plainAttrs_list PySem.F.slot_list_append PySem.F.type_list_append mt_append (pv 3) (pa_cons (pe_op op_add pe_int (pe_call (ok__law_take T) (hr.mono (by decide)) (by rfl) T.g__law_take T.F__law_take.kp T.b__law_take .nil pz (pa_cons (pv 0) (pa_cons (pe_ix ix_list (pe_lst (pa_cons pe_int (pa_cons pe_int (pa_cons pe_int (pa_cons pe_int pa_nil))))) (pe_call (ok__law_take T) (hr.mono (by decide)) (by rfl) T.g__law_take T.F__law_take.kp T.b__law_take .nil pz (pa_cons (pv 0) (pa_cons pe_int pa_nil))) (fun _ _ => rfl)) pa_nil)))) pa_nil)))))))))) (pss_one (ps_ret (pv 3))))), ?_⟩
    refine ⟨sz1 (by simp), fun l hl => ?_⟩
    have hla : l ≠ a := by
      obtain ⟨d, c, hp⟩ := hp
      exact (ne_of_none hp hl).symm
    refine ⟨_, rfl, _, rfl, _, _, rfl, rfl, a, n, long + 1, rfl, hp.ex (Ex.new hl), by omega, by omega, by omega, fun r n1 H1 hr1 hn1 k1 hp1 => ?_⟩
    refine ⟨_, rfl, by omega, by omega, for_range (fun i σ H' => ∃ n' xs b3 b4, σ = [some (.ref a), some (.int (long : Nat)), some (.int tr), some (.ref l), b3, b4] ∧ KeepA a H H' ∧ Pool H' a n' ∧ n' ≤ n + 1 + 3 * i ∧ H' l = some (.lst (xs.map V.int)) ∧ xs.length = i)
      ⟨n1, [], none, none, rfl, (KeepA.ex (Ex.new hl)).trans k1, hp1, by omega, k1 _ _ hla upd_same, rfl⟩ (fun i σ H' hi hP => ?_) fun σ H' hP => ?_⟩
    · obtain ⟨n2, xs, b3, b4, rfl, k2, hp2, hn2, hx2, hlen⟩ := hP
      refine ⟨_, rfl, a, n2, 8, rfl, hp2, by omega, by decide, by decide, fun w n3 H3 hw hn3 k3 hp3 => ?_⟩
      have hx3 := k3 _ _ hla hx2
      refine ⟨_, rfl, _, _, rfl, rfl, _, rfl, ite2 (fun e => ?_) fun e => ?_⟩
      · refine ⟨_, rfl, _, _, rfl, rfl, (by show (0 : Int) < 2; decide), rfl, _, rfl, ite2 (fun e2 => ?_) fun e2 => ?_⟩
        · refine ⟨_, rfl, .inl ⟨rfl, _, .inl (.inl hx3)⟩, ?_⟩
          refine ⟨l, _, _, rfl, rfl, hx3, sz2 (by rw [map_len]; omega), ?_⟩
          refine ⟨n3, xs ++ [0], _, _, rfl, fun b o nb eb => ?_, ?_, by omega, by rw [upd_same, List.map_append]; rfl, by rw [List.length_append, hlen]; rfl⟩
          · have nl : b ≠ l := ne_of_none eb hl
            rw [upd_ne nl]
            exact k3 _ _ nb (k2 _ _ nb eb)
          · obtain ⟨d, c, hp9⟩ := hp3
            exact ⟨d, c, by rw [upd_ne (Ne.symm hla)]; exact hp9⟩
        · refine ⟨_, rfl, rfl, _, rfl, ite2 (fun e2 => ?_) fun e2 => ?_⟩
          · refine ⟨_, rfl, _, _, rfl, rfl, _, rfl, ite2 (fun e3 => ?_) fun e3 => ?_⟩
            · refine ⟨_, rfl, .inl ⟨rfl, _, .inl (.inl hx3)⟩, _, rfl, _, rfl, a, n3, 99, rfl, hp3, by omega, by decide, by decide, fun u n5 H5 hu hn5 k5 hp5 => ?_⟩
              refine ⟨_, _, rfl, rfl, ?_⟩
              have hx5 := k5 _ _ hla hx3
              refine ⟨l, _, _, rfl, rfl, hx5, sz2 (by rw [map_len]; omega), ?_⟩
              refine ⟨n5, xs ++ [-1 - (u : Int)], _, _, rfl, fun b o nb eb => ?_, ?_, by omega, by rw [upd_same, List.map_append]; rfl, by rw [List.length_append, hlen]; rfl⟩
              · have nl : b ≠ l := ne_of_none eb hl
                rw [upd_ne nl]
                exact k5 _ _ nb (k3 _ _ nb (k2 _ _ nb eb))
              · obtain ⟨d, c, hp9⟩ := hp5
                exact ⟨d, c, by rw [upd_ne (Ne.symm hla)]; exact hp9⟩
            · refine ⟨_, rfl, .inl ⟨rfl, _, .inl (.inl hx3)⟩, _, rfl, sz1 (by simp), fun p hpn => ⟨_, rfl, a, n3, 4, rfl, hp3.ex (Ex.new hpn), by omega, by decide, by decide, fun w4 n4 H4 hw4 hn4 k4 hp4 => ?_⟩⟩
              obtain ⟨v, hv, v0, v1⟩ := wides4 w4 hw4
              have hpa : p ≠ a := by
                obtain ⟨d, c, hp3⟩ := hp3
                exact (ne_of_none hp3 hpn).symm
              refine ⟨p, _, _, _, rfl, rfl, .inl (.inl (k4 _ _ hpa upd_same)), hv, a, n4, v, rfl, hp4, by omega, v0, v1, fun u n5 H5 hu hn5 k5 hp5 => ?_⟩
              refine ⟨_, _, rfl, rfl, ?_⟩
              have hx5 := k5 _ _ hla (k4 _ _ hla (Ex.new hpn _ _ hx3))
              refine ⟨l, _, _, rfl, rfl, hx5, sz2 (by rw [map_len]; omega), ?_⟩
              refine ⟨n5, xs ++ [1 + (u : Int)], _, _, rfl, fun b o nb eb => ?_, ?_, by omega, by rw [upd_same, List.map_append]; rfl, by rw [List.length_append, hlen]; rfl⟩
              · have nl : b ≠ l := ne_of_none eb hl
                rw [upd_ne nl]
                exact k5 _ _ nb (k4 _ _ nb (Ex.new hpn _ _ (k3 _ _ nb (k2 _ _ nb eb))))
              · obtain ⟨d, c, hp9⟩ := hp5
                exact ⟨d, c, by rw [upd_ne (Ne.symm hla)]; exact hp9⟩
          · refine ⟨_, rfl, .inl ⟨rfl, _, .inl (.inl hx3)⟩, _, rfl, sz1 (by simp), fun p hpn => ⟨_, rfl, a, n3, 4, rfl, hp3.ex (Ex.new hpn), by omega, by decide, by decide, fun w4 n4 H4 hw4 hn4 k4 hp4 => ?_⟩⟩
            obtain ⟨v, hv, v0, v1⟩ := wides4 w4 hw4
            have hpa : p ≠ a := by
              obtain ⟨d, c, hp3⟩ := hp3
              exact (ne_of_none hp3 hpn).symm
            refine ⟨p, _, _, _, rfl, rfl, .inl (.inl (k4 _ _ hpa upd_same)), hv, a, n4, v, rfl, hp4, by omega, v0, v1, fun u n5 H5 hu hn5 k5 hp5 => ?_⟩
            refine ⟨_, _, rfl, rfl, ?_⟩
            have hx5 := k5 _ _ hla (k4 _ _ hla (Ex.new hpn _ _ hx3))
            refine ⟨l, _, _, rfl, rfl, hx5, sz2 (by rw [map_len]; omega), ?_⟩
            refine ⟨n5, xs ++ [1 + (u : Int)], _, _, rfl, fun b o nb eb => ?_, ?_, by omega, by rw [upd_same, List.map_append]; rfl, by rw [List.length_append, hlen]; rfl⟩
            · have nl : b ≠ l := ne_of_none eb hl
              rw [upd_ne nl]
              exact k5 _ _ nb (k4 _ _ nb (Ex.new hpn _ _ (k3 _ _ nb (k2 _ _ nb eb))))
            · obtain ⟨d, c, hp9⟩ := hp5
              exact ⟨d, c, by rw [upd_ne (Ne.symm hla)]; exact hp9⟩
      · refine ⟨_, rfl, rfl, _, rfl, ite2 (fun e2 => ?_) fun e2 => ?_⟩
        · refine ⟨_, rfl, _, _, rfl, rfl, _, rfl, ite2 (fun e3 => ?_) fun e3 => ?_⟩
          · refine ⟨_, rfl, .inl ⟨rfl, _, .inl (.inl hx3)⟩, _, rfl, _, rfl, a, n3, 99, rfl, hp3, by omega, by decide, by decide, fun u n5 H5 hu hn5 k5 hp5 => ?_⟩
            refine ⟨_, _, rfl, rfl, ?_⟩
            have hx5 := k5 _ _ hla hx3
            refine ⟨l, _, _, rfl, rfl, hx5, sz2 (by rw [map_len]; omega), ?_⟩
            refine ⟨n5, xs ++ [-1 - (u : Int)], _, _, rfl, fun b o nb eb => ?_, ?_, by omega, by rw [upd_same, List.map_append]; rfl, by rw [List.length_append, hlen]; rfl⟩
            · have nl : b ≠ l := ne_of_none eb hl
              rw [upd_ne nl]
              exact k5 _ _ nb (k3 _ _ nb (k2 _ _ nb eb))
            · obtain ⟨d, c, hp9⟩ := hp5
              exact ⟨d, c, by rw [upd_ne (Ne.symm hla)]; exact hp9⟩
          · refine ⟨_, rfl, .inl ⟨rfl, _, .inl (.inl hx3)⟩, _, rfl, sz1 (by simp), fun p hpn => ⟨_, rfl, a, n3, 4, rfl, hp3.ex (Ex.new hpn), by omega, by decide, by decide, fun w4 n4 H4 hw4 hn4 k4 hp4 => ?_⟩⟩
            obtain ⟨v, hv, v0, v1⟩ := wides4 w4 hw4
            have hpa : p ≠ a := by
              obtain ⟨d, c, hp3⟩ := hp3
              exact (ne_of_none hp3 hpn).symm
            refine ⟨p, _, _, _, rfl, rfl, .inl (.inl (k4 _ _ hpa upd_same)), hv, a, n4, v, rfl, hp4, by omega, v0, v1, fun u n5 H5 hu hn5 k5 hp5 => ?_⟩
            refine ⟨_, _, rfl, rfl, ?_⟩
            have hx5 := k5 _ _ hla (k4 _ _ hla (Ex.new hpn _ _ hx3))
            refine ⟨l, _, _, rfl, rfl, hx5, sz2 (by rw [map_len]; omega), ?_⟩
            refine ⟨n5, xs ++ [1 + (u : Int)], _, _, rfl, fun b o nb eb => ?_, ?_, by omega, by rw [upd_same, List.map_append]; rfl, by rw [List.length_append, hlen]; rfl⟩
            · have nl : b ≠ l := ne_of_none eb hl
              rw [upd_ne nl]
              exact k5 _ _ nb (k4 _ _ nb (Ex.new hpn _ _ (k3 _ _ nb (k2 _ _ nb eb))))
            · obtain ⟨d, c, hp9⟩ := hp5
              exact ⟨d, c, by rw [upd_ne (Ne.symm hla)]; exact hp9⟩
        · refine ⟨_, rfl, .inl ⟨rfl, _, .inl (.inl hx3)⟩, _, rfl, sz1 (by simp), fun p hpn => ⟨_, rfl, a, n3, 4, rfl, hp3.ex (Ex.new hpn), by omega, by decide, by decide, fun w4 n4 H4 hw4 hn4 k4 hp4 => ?_⟩⟩
          obtain ⟨v, hv, v0, v1⟩ := wides4 w4 hw4
          have hpa : p ≠ a := by
            obtain ⟨d, c, hp3⟩ := hp3
            exact (ne_of_none hp3 hpn).symm
          refine ⟨p, _, _, _, rfl, rfl, .inl (.inl (k4 _ _ hpa upd_same)), hv, a, n4, v, rfl, hp4, by omega, v0, v1, fun u n5 H5 hu hn5 k5 hp5 => ?_⟩
          refine ⟨_, _, rfl, rfl, ?_⟩
          have hx5 := k5 _ _ hla (k4 _ _ hla (Ex.new hpn _ _ hx3))
          refine ⟨l, _, _, rfl, rfl, hx5, sz2 (by rw [map_len]; omega), ?_⟩
          refine ⟨n5, xs ++ [1 + (u : Int)], _, _, rfl, fun b o nb eb => ?_, ?_, by omega, by rw [upd_same, List.map_append]; rfl, by rw [List.length_append, hlen]; rfl⟩
          · have nl : b ≠ l := ne_of_none eb hl
            rw [upd_ne nl]
            exact k5 _ _ nb (k4 _ _ nb (Ex.new hpn _ _ (k3 _ _ nb (k2 _ _ nb eb))))
          · obtain ⟨d, c, hp9⟩ := hp5
            exact ⟨d, c, by rw [upd_ne (Ne.symm hla)]; exact hp9⟩
    · obtain ⟨n2, xs, b3, b4, rfl, k2, hp2, hn2, hx2, hlen⟩ := hP
      have : (((r : Nat) : Int)).toNat = r := by omega
      rw [this] at hn2 hlen
      exact ⟨_, rfl, q l xs n2 H' hl hla k2 hp2 (by omega) hx2 (by omega)⟩
end
end Sip

set_option Elab.async false
set_option linter.all false
set_option maxRecDepth 100000
set_option maxHeartbeats 4000000
noncomputable section
namespace Sip
open PySem PySem.Spec PyProof.Rows L2 SipX L2H HotX
/-! ### the making of the objects -/
def spRawInit (K : PySem.W.Frag) : Sp := fun vs H Q _ => ∃ (i : Ix) (a dx : Addr), vs = [.ref a] ∧ H a = some (.ins (rC K i) dx []) ∧
  ∀ n H', H n = none → KeepA a H H' → H' a = some (.ins (rC K i) dx [("live", .bl true), ("notes", .ref n)]) → H' n = some (.lst []) → Q .non H'
def spDevInit (K : PySem.W.Frag) : Sp := fun vs H Q _ => ∃ (a dx l p : Addr) (xs ys : List Int), vs = [.ref a, .ref l, .ref p, .bl true] ∧ H a = some (.ins (He.ga K "Device") dx []) ∧ H l = some (.lst (xs.map V.int)) ∧ H p = some (.lst (ys.map V.int)) ∧
  ∀ n st pl H', H n = none → H st = none → H pl = none → st ≠ n → pl ≠ n → KeepA a H H' → H' a = some (.ins (He.ga K "Device") dx (dF (.bl true) (.ref n) (.ref st) (.ref pl) (.int 0) (.bl true))) → H' n = some (.lst []) → H' st = some (.lst (xs.map V.int)) → H' pl = some (.lst (ys.map V.int)) → Q .non H'
def spEndInit (K : PySem.W.Frag) (i : Ix) : Sp := fun vs H Q _ => ∃ (a dx p : Addr), vs = [.ref a, .ref p] ∧ H a = some (.ins (rC K i) dx []) ∧
  ∀ n H', H n = none → KeepA a H H' → H' a = some (.ins (rC K i) dx (eF (.bl true) (.ref n) (.ref p) (.int 0))) → H' n = some (.lst []) → Q .non H'
def spPipeInit (K : PySem.W.Frag) : Sp := fun vs H Q _ => ∃ (a dx : Addr) (room : Int), vs = [.ref a, .int room] ∧ 1 ≤ room ∧ room ≤ 64 ∧ H a = some (.ins (He.ga K "Pipe") dx []) ∧
  ∀ ins m dm nm d dd nd H', H m = none → H nm = none → H d = none → H nd = none → H ins = none → [a, m, nm, d, nd].Nodup → (∀ x ∈ [a, m, nm, d, nd], ins ≠ x) → KeepA a H H' → H' a = some (.ins (He.ga K "Pipe") dx (pF (.int room) (.ref ins) (.ref m) (.ref d))) → H' ins = some (.lst []) →
    H' m = some (.ins (He.ga K "Mouth") dm (eF (.bl true) (.ref nm) (.ref a) (.int 0))) → H' nm = some (.lst []) → H' d = some (.ins (He.ga K "Drain") dd (eF (.bl true) (.ref nd) (.ref a) (.int 0))) → H' nd = some (.lst []) → Q .non H'
def spFileInit (K : PySem.W.Frag) (i : Ix) : Sp := fun vs H Q _ => ∃ (a dx r dr : Addr) (fs : List (Str × V)) (room : Int), vs = [.ref a, .ref r, .int room, .bl (rdB i), .bl (wrB i)] ∧ 1 ≤ room ∧ room ≤ 64 ∧ H a = some (.ins (He.ga K "File") dx []) ∧ H r = some (.ins (rC K i) dr fs) ∧
  fs.lookup ("live" : Str) = some (V.bl true) ∧ fs.lookup ("is_shut" : Str) = none ∧ fs.lookup ("seeks" : Str) = none ∧ (dvB i = true → fs.lookup ("steady" : Str) = some (V.bl true) ∧ fs.lookup ("spot" : Str) = some (V.int 0) ∧ fs.lookup ("seeking" : Str) = none ∧ fs.lookup ("place" : Str) = none) ∧
  ∀ ah de mi H', H ah = none → H de = none → H mi = none → KeepA a H H' → H' a = some (.ins (He.ga K "File") dx (fF (.ref r) (.int room) (.bl (rdB i)) (.bl (wrB i)) (.bl false) (.bl true) (.int 0) (.ref ah) (.ref de) (.ref mi))) → H' ah = some (.lst []) → H' de = some (.lst []) → H' mi = some (.lst []) → Q .non H'
theorem pR {x y : V} : putF "notes" y (putF "live" x []) = ([("live", x), ("notes", y)] : List (Str × V)) := by kernel_rfl
theorem pD {a b c d e f : V} : putF "steady" f (putF "spot" e (putF "plan" d (putF "stock" c [("live", a), ("notes", b)]))) = dF a b c d e f := by kernel_rfl
theorem pE {a b c d : V} : putF "gone" d (putF "pipe" c [("live", a), ("notes", b)]) = eF a b c d := by kernel_rfl
theorem pP {a b c d : V} : putF "low" d (putF "high" c (putF "inside" b (putF "room" a []))) = pF a b c d := by kernel_rfl
theorem pF1 {a b c d e f g h i j : V} : putF "missed" j (putF "delayed" i (putF "ahead" h (putF "cursor" g (putF "live" f (putF "pouring" e (putF "writing" d (putF "reading" c (putF "room" b (putF "raw" a []))))))))) = fF a b c d e f g h i j := by kernel_rfl
theorem pF2 {a b c d e f g g' h i j : V} : putF "missed" j (putF "delayed" i (putF "ahead" h (putF "cursor" g' (putF "cursor" g (putF "live" f (putF "pouring" e (putF "writing" d (putF "reading" c (putF "room" b (putF "raw" a [])))))))))) = fF a b c d e f g' h i j := by kernel_rfl
theorem putF_len (f : Str) (v : V) : ∀ fs : List (Str × V), (putF f v fs).length ≤ fs.length + 1
  | [] => Nat.le_refl _
  | (g, x) :: r => by
    show (if g = f then (g, v) :: r else (g, x) :: putF f v r).length ≤ _
    split
    · exact Nat.le_succ _
    · exact Nat.succ_le_succ (putF_len f v r)
theorem lt0 : ([] : List (Str × V)).length < 1000 := by decide
theorem lt2 {p q : Str × V} : [p, q].length < 1000 := by show 2 < 1000; decide
theorem ltp {f : Str} {v : V} {fs : List (Str × V)} {n : Nat} (h : fs.length ≤ n) : (putF f v fs).length ≤ n + 1 := Nat.le_trans (putF_len f v fs) (Nat.succ_le_succ h)
section
variable {prog : Program} {w : World} {base : Heap} {K : PySem.W.Frag} {mg : Str → Option Value}
theorem ok_Raw___init__ (T : Txt K mg) : FnOk prog w K mg base CXz 1 (He.fAd K d_Raw___init__.at_) (fdO K d_Raw___init__) ["self"] (spRawInit K) :=
  T.F_Raw___init__.ok sc_Raw___init__ (fun vs H Q E h => by obtain ⟨_, _, _, rfl, _⟩ := h; rfl) fun cdv A outer st H vs Q E hr h => by
    obtain ⟨i, a, dx, rfl, ha, q⟩ := h
    refine ⟨_, (pss_cons (ps_fld (pv 0) pe_bl rfl) (pss_one (ps_fld (pv 0) (pe_lst pa_nil) rfl))), ?_⟩
    refine ⟨_, rfl, _, _, _, _, rfl, ha, T.clsR i, T.nR_live i, by decide, ?_⟩
    refine ⟨sz1 (by simp), fun n hn => ?_⟩
    have hna : n ≠ a := fun e => by
      subst e
      rw [upd_same] at hn
      cases hn
    have hn0 : H n = none := by rwa [upd_ne hna] at hn
    refine ⟨_, rfl, _, _, _, _, rfl, by rw [upd_ne hna.symm, upd_same], T.clsR i, T.nR_notes i, Nat.lt_of_le_of_lt (ltp (n := 0) (Nat.le_refl _)) (by decide), ?_⟩
    refine q n _ hn0 (fun b o nb e => ?_) ?_ ?_
    · rw [upd_ne nb, upd_ne (ne_of_none e hn0), upd_ne nb]
      exact e
    · rw [upd_same, pR]
    · rw [upd_ne hna, upd_same]
theorem ok_Device___init__ (T : Txt K mg) : FnOk prog w K mg base CXz 2 (He.fAd K d_Device___init__.at_) (fdO K d_Device___init__) ["self", "content", "plan", "seeks"] (spDevInit K) :=
  T.F_Device___init__.ok sc_Device___init__ (fun vs H Q E h => by obtain ⟨_, _, _, _, _, _, rfl, _⟩ := h; rfl) fun cdv A outer st H vs Q E hr h => by
    obtain ⟨a, dx, l, p, xs, ys, rfl, ha, hl, hp, q⟩ := h
    refine ⟨_, (pss_cons (ps_expr (pe_clsm (pe_glob (v := .ref (He.ga K "Raw")) rfl T.g_Raw rfl) T.raw.1 T.raw.2 T.F_Raw___init__.kp (ok_Raw___init__ T) (hr.mono (by decide)) T.b_Raw___init__ pz (pa_cons (pv 0) pa_nil))) (pss_cons (ps_fld (pv 0) (pe_callTy call_list_of (by rfl) T.n_list (by decide +kernel) (pa_cons (pv 1) pa_nil)) rfl) (pss_cons (ps_fld (pv 0) (pe_callTy call_list_of (by rfl) T.n_list (by decide +kernel) (pa_cons (pv 2) pa_nil)) rfl) (pss_cons (ps_fld (pv 0) pe_int rfl) (pss_one (ps_fld (pv 0) (pv 3) rfl)))))), ?_⟩
    have hla : l ≠ a := ne_of hl ha (by intro z; cases z)
    have hpa : p ≠ a := ne_of hp ha (by intro z; cases z)
    refine ⟨rfl, _, rfl, .fr, a, dx, rfl, ha, fun n H1 hn k1 ha1 hn1 => ?_⟩
    replace ha1 : H1 a = some (.ins (He.ga K "Device") dx [("live", .bl true), ("notes", .ref n)]) := ha1
    have hna : n ≠ a := (ne_of_none ha hn).symm
    have hl1 := k1 _ _ hla hl
    refine ⟨_, rfl, l, _, rfl, .inl (.inl (.inl hl1)), fun s hs => ?_⟩
    have hsn : s ≠ n := (ne_of_none hn1 hs).symm
    have hsa : s ≠ a := (ne_of_none ha1 hs).symm
    have hs0 : H s = none := by
      cases e : H s with
      | none => rfl
      | some o => rw [k1 _ _ hsa e] at hs; cases hs
    refine ⟨_, rfl, _, _, _, _, rfl, Ex.new hs _ _ ha1, T.cls_Device, T.n_Device_stock, lt2, ?_⟩
    have hp2 : upd (upd H1 s (.lst (xs.map V.int))) a (.ins (He.ga K "Device") dx (putF "stock" (.ref s) [("live", .bl true), ("notes", .ref n)])) p = some (.lst (ys.map V.int)) := by
      rw [upd_ne hpa]
      exact Ex.new hs _ _ (k1 _ _ hpa hp)
    refine ⟨_, rfl, p, _, rfl, .inl (.inl (.inl hp2)), fun t ht => ?_⟩
    have hta : t ≠ a := fun e => by subst e; rw [upd_same] at ht; cases ht
    have ht1 : upd H1 s (.lst (xs.map V.int)) t = none := by rwa [upd_ne hta] at ht
    have hts : t ≠ s := fun e => by subst e; rw [upd_same] at ht1; cases ht1
    have ht2 : H1 t = none := by rwa [upd_ne hts] at ht1
    have htn : t ≠ n := (ne_of_none hn1 ht2).symm
    have ht0 : H t = none := by
      cases e : H t with
      | none => rfl
      | some o => rw [k1 _ _ hta e] at ht2; cases ht2
    refine ⟨_, rfl, _, _, _, _, rfl, (upd_ne hta.symm).trans upd_same, T.cls_Device, T.n_Device_plan, Nat.lt_of_le_of_lt (ltp (n := 2) (Nat.le_refl _)) (by decide), ?_⟩
    refine ⟨_, rfl, _, _, _, _, rfl, upd_same, T.cls_Device, T.n_Device_spot, Nat.lt_of_le_of_lt (ltp (ltp (n := 2) (Nat.le_refl _))) (by decide), ?_⟩
    refine ⟨_, rfl, _, rfl, _, _, _, _, rfl, upd_same, T.cls_Device, T.n_Device_steady, Nat.lt_of_le_of_lt (ltp (ltp (ltp (n := 2) (Nat.le_refl _)))) (by decide), ?_⟩
    refine q n s t _ hn hs0 ht0 hsn htn (fun b o nb e => ?_) ?_ ?_ ?_ ?_
    · rw [upd_ne nb, upd_ne nb, upd_ne nb, upd_ne (ne_of_none e ht0), upd_ne nb, upd_ne (ne_of_none e hs0)]
      exact k1 _ _ nb e
    · rw [upd_same, pD]
    · rw [upd_ne hna, upd_ne hna, upd_ne hna, upd_ne htn.symm, upd_ne hna, upd_ne hsn.symm]
      exact hn1
    · rw [upd_ne hsa, upd_ne hsa, upd_ne hsa, upd_ne hts.symm, upd_ne hsa, upd_same]
    · rw [upd_ne hta, upd_ne hta, upd_ne hta, upd_same]
theorem updd {H : Hp} {a : Addr} {o o' : HO} : upd (upd H a o) a o' = upd H a o' := by
  funext b
  by_cases h : b = a
  · subst h; rw [upd_same, upd_same]
  · rw [upd_ne h, upd_ne h, upd_ne h]
theorem mk_keep {H H' : Hp} {x dx : Addr} {o1 o2 : HO} (h1 : H x = none) (h2 : H dx = none) (k : KeepA x (upd (upd H dx o1) x o2) H') : Ex H H' := fun b o e => by
  have n1 := ne_of_none e h1
  have n2 := ne_of_none e h2
  exact k b o n1 (by rw [upd_ne n1, upd_ne n2]; exact e)
theorem KeepA.back {a b : Addr} {H H' : Hp} (k : KeepA a H H') (n : b ≠ a) (h : H' b = none) : H b = none := by
  cases e : H b with
  | none => rfl
  | some o => rw [k b o n e] at h; cases h
theorem Ex.back {b : Addr} {H H' : Hp} (k : Ex H H') (h : H' b = none) : H b = none := by
  cases e : H b with
  | none => rfl
  | some o => rw [k b o e] at h; cases h
theorem ok_End___init__ (T : Txt K mg) (i : Ix) (hi : dvB i = false) : FnOk prog w K mg base CXz 2 (He.fAd K d_End___init__.at_) (fdO K d_End___init__) ["self", "pipe"] (spEndInit K i) :=
  T.F_End___init__.ok sc_End___init__ (fun vs H Q E h => by obtain ⟨_, _, _, rfl, _⟩ := h; rfl) fun cdv A outer st H vs Q E hr h => by
    obtain ⟨a, dx, p, rfl, ha, q⟩ := h
    have n1 : NoAttr K (rC K i) "pipe" := by
      cases i
      · cases hi
      · exact T.n_Mouth_pipe
      · exact T.n_Drain_pipe
      · cases hi
    have n2 : NoAttr K (rC K i) "gone" := by
      cases i
      · cases hi
      · exact T.n_Mouth_gone
      · exact T.n_Drain_gone
      · cases hi
    refine ⟨_, (pss_cons (ps_expr (pe_clsm (pe_glob (v := .ref (He.ga K "Raw")) rfl T.g_Raw rfl) T.raw.1 T.raw.2 T.F_Raw___init__.kp (ok_Raw___init__ T) (hr.mono (by decide)) T.b_Raw___init__ pz (pa_cons (pv 0) pa_nil))) (pss_cons (ps_fld (pv 0) (pv 1) rfl) (pss_one (ps_fld (pv 0) pe_int rfl)))), ?_⟩
    refine ⟨rfl, _, rfl, i, a, dx, rfl, ha, fun n H1 hn k1 ha1 hn1 => ?_⟩
    have hna : n ≠ a := (ne_of_none ha hn).symm
    refine ⟨_, rfl, _, rfl, _, _, _, _, rfl, ha1, T.clsR i, n1, lt2, ?_⟩
    refine ⟨_, rfl, _, _, _, _, rfl, upd_same, T.clsR i, n2, Nat.lt_of_le_of_lt (ltp (n := 2) (Nat.le_refl _)) (by decide), ?_⟩
    rw [updd]
    exact q n _ hn (k1.trans KeepA.upd) (by rw [upd_same, pE]; rfl) (by rw [upd_ne hna]; exact hn1)
theorem ok_Pipe___init__ (T : Txt K mg) : FnOk prog w K mg base CXz 4 (He.fAd K d_Pipe___init__.at_) (fdO K d_Pipe___init__) ["self", "room"] (spPipeInit K) :=
  T.F_Pipe___init__.ok sc_Pipe___init__ (fun vs H Q E h => by obtain ⟨_, _, _, rfl, _⟩ := h; rfl) fun cdv A outer st H vs Q E hr h => by
    obtain ⟨a, dx, room, rfl, hr1, hr2, ha, q⟩ := h
    obtain ⟨tG, hi_MOST_ROOM_pipe⟩ := T.i_MOST_ROOM_pipe
    refine ⟨_, (pss_cons (ps_if (PW.pt (pw_or (pt_cmpR op_lt (pv 1) pe_int (nomark _)) (pw_or1 (pt_cmpR op_gt (pv 1) (pe_glob (v := .int 64) rfl hi_MOST_ROOM_pipe ⟨_, rfl⟩) (nomark _))))) (pss_one ps_never) pss_nil) (pss_cons (ps_fld (pv 0) (pv 1) rfl) (pss_cons (ps_fld (pv 0) (pe_lst pa_nil) rfl) (pss_cons (ps_fld (pv 0) (pe_make T.mk_Mouth (ok_End___init__ T .wi rfl) (hr.mono (by decide)) (by rfl) T.g_Mouth T.b_End___init__ .nil pz (pa_cons (pv 0) pa_nil)) rfl) (pss_one (ps_fld (pv 0) (pe_make T.mk_Drain (ok_End___init__ T .ro rfl) (hr.mono (by decide)) (by rfl) T.g_Drain T.b_End___init__ .nil pz (pa_cons (pv 0) pa_nil)) rfl)))))), ?_⟩
    refine ⟨_, rfl, _, _, rfl, rfl, _, rfl, ifF (decide_eq_false (by omega)) ⟨_, rfl, _, _, rfl, rfl, _, rfl, ifF (decide_eq_false (by omega)) ?_⟩⟩
    refine ⟨_, rfl, _, rfl, _, _, _, _, rfl, ha, T.cls_Pipe, T.n_Pipe_room, lt0, ?_⟩
    refine ⟨sz1 (by simp), fun ins hins => ?_⟩
    have hia : ins ≠ a := fun e => by subst e; rw [upd_same] at hins; cases hins
    refine ⟨_, rfl, _, _, _, _, rfl, (upd_ne hia.symm).trans upd_same, T.cls_Pipe, T.n_Pipe_inside, Nat.lt_of_le_of_lt (ltp (n := 0) (Nat.le_refl _)) (by decide), ?_⟩
    have hins0 : H ins = none := KeepA.upd.back hia hins
    obtain ⟨G1, hG1⟩ : ∃ G1, G1 = upd (upd (upd H a (.ins (He.ga K "Pipe") dx (putF "room" (.int room) []))) ins (.lst [])) a (.ins (He.ga K "Pipe") dx (putF "inside" (.ref ins) (putF "room" (.int room) []))) := ⟨_, rfl⟩
    rw [← hG1]
    have k1 : KeepA a H G1 := by
      rw [hG1]
      exact (KeepA.upd.trans (KeepA.ex (Ex.new hins))).trans KeepA.upd
    have a1 : G1 a = some (.ins (He.ga K "Pipe") dx (putF "inside" (.ref ins) (putF "room" (.int room) []))) := by rw [hG1, upd_same]
    have i1 : G1 ins = some (.lst []) := by rw [hG1, upd_ne hia, upd_same]
    refine ⟨_, rfl, fun m dm hm hdm hmd => ⟨m, dm, a, rfl, upd_same, fun nm G2 hnm k2 m2 nm2 => ⟨rfl, ?_⟩⟩⟩
    have e2 : Ex G1 G2 := mk_keep hm hdm k2
    have hnmm : nm ≠ m := fun e => by subst e; rw [upd_same] at hnm; cases hnm
    have hnmd : nm ≠ dm := fun e => by subst e; rw [upd_ne hnmm, upd_same] at hnm; cases hnm
    have hnm1 : G1 nm = none := by rwa [upd_ne hnmm, upd_ne hnmd] at hnm
    refine ⟨_, rfl, _, _, _, _, rfl, e2 _ _ a1, T.cls_Pipe, T.n_Pipe_high, Nat.lt_of_le_of_lt (ltp (ltp (n := 0) (Nat.le_refl _))) (by decide), ?_⟩
    obtain ⟨G3, hG3⟩ : ∃ G3, G3 = upd G2 a (.ins (He.ga K "Pipe") dx (putF "high" (.ref m) (putF "inside" (.ref ins) (putF "room" (.int room) [])))) := ⟨_, rfl⟩
    rw [← hG3]
    have hma : m ≠ a := (ne_of_none a1 hm).symm
    have hmi : ins ≠ m := ne_of_none i1 hm
    have hnma : nm ≠ a := (ne_of_none a1 hnm1).symm
    have hnmi : ins ≠ nm := ne_of_none i1 hnm1
    have k3 : KeepA a G2 G3 := by
      rw [hG3]
      exact KeepA.upd
    have a3 : G3 a = some (.ins (He.ga K "Pipe") dx (putF "high" (.ref m) (putF "inside" (.ref ins) (putF "room" (.int room) [])))) := by rw [hG3, upd_same]
    have m3 := k3 _ _ hma m2
    have nm3 := k3 _ _ hnma nm2
    have i3 := k3 _ _ hia (e2 _ _ i1)
    refine ⟨_, rfl, fun d dd hd hdd hdn => ⟨d, dd, a, rfl, upd_same, fun nd G4 hnd k4 d4 nd4 => ⟨rfl, ?_⟩⟩⟩
    have e4 : Ex G3 G4 := mk_keep hd hdd k4
    have hndd : nd ≠ d := fun e => by subst e; rw [upd_same] at hnd; cases hnd
    have hnde : nd ≠ dd := fun e => by subst e; rw [upd_ne hndd, upd_same] at hnd; cases hnd
    have hnd3 : G3 nd = none := by rwa [upd_ne hndd, upd_ne hnde] at hnd
    refine ⟨_, rfl, _, _, _, _, rfl, e4 _ _ a3, T.cls_Pipe, T.n_Pipe_low, Nat.lt_of_le_of_lt (ltp (ltp (ltp (n := 0) (Nat.le_refl _)))) (by decide), ?_⟩
    have hda : d ≠ a := (ne_of_none a3 hd).symm
    have hdm' : m ≠ d := ne_of_none m3 hd
    have hdnm : nm ≠ d := ne_of_none nm3 hd
    have hdi : ins ≠ d := ne_of_none i3 hd
    have hna : nd ≠ a := (ne_of_none a3 hnd3).symm
    have hnm' : m ≠ nd := ne_of_none m3 hnd3
    have hnnm : nm ≠ nd := ne_of_none nm3 hnd3
    have hni : ins ≠ nd := ne_of_none i3 hnd3
    have k02 : KeepA a H G2 := k1.trans (KeepA.ex e2)
    have k03 : KeepA a H G3 := k02.trans k3
    refine q ins m dm nm d dd nd _ (k1.back hma hm) (k1.back hnma hnm1) (k03.back hda hd) (k03.back hna hnd3) hins0 ?_ ?_ ((k03.trans (KeepA.ex e4)).trans KeepA.upd) (by rw [upd_same, pP]) ?_ ?_ ?_ ?_ ?_
    · simp [hma, hma.symm, hnma.symm, hda.symm, hna.symm, hnmm.symm, hdm', hnm', hdnm, hnnm, hndd.symm]
    · intro x hx
      simp only [List.mem_cons, List.mem_nil_iff, or_false] at hx
      rcases hx with rfl | rfl | rfl | rfl | rfl
      · exact hia
      · exact hmi
      · exact hnmi
      · exact hdi
      · exact hni
    · rw [upd_ne hia]; exact e4 _ _ i3
    · rw [upd_ne hma]; exact e4 _ _ m3
    · rw [upd_ne hnma]; exact e4 _ _ nm3
    · rw [upd_ne hda]; exact d4
    · rw [upd_ne hna]; exact nd4
theorem Txt.bR_is_shut (T : Txt K mg) (i : Ix) : Binds K (fdO K d_Raw_is_shut) ["self"] [] := T.b_Raw_is_shut
theorem ok_File___init__ (T : Txt K mg) (i : Ix) : FnOk prog w K mg base CXz 3 (He.fAd K d_File___init__.at_) (fdO K d_File___init__) ["self", "raw", "room", "reads", "writes"] (spFileInit K i) :=
  T.F_File___init__.ok sc_File___init__ (fun vs H Q E h => by obtain ⟨_, _, _, _, _, _, rfl, _⟩ := h; rfl) fun cdv A outer st H vs Q E hr h => by
    obtain ⟨a, dx, r, dr, fs, room, rfl, hr1, hr2, ha, hrr, l1, l2, l3, l4, q⟩ := h
    obtain ⟨tG, hi_MOST_ROOM_files⟩ := T.i_MOST_ROOM_files
    have hCC : rC K i ≠ He.ga K "File" ∨ True := .inr trivial
    have hra : r ≠ a := fun e => by
      subst e
      rw [ha] at hrr
      injection hrr with h
      injection h with h1 h2 h3
      subst h3
      cases l1
    cases hd : dvB i with
    | true =>
      obtain ⟨m1, m2, m3, m4⟩ := l4 hd
      have hrd : rdB i = true := by cases i <;> first | rfl | cases hd
      have hwr : wrB i = true := by cases i <;> first | rfl | cases hd
      have eC : rC K i = He.ga K "Device" := by cases i <;> first | rfl | cases hd
      refine ⟨_, (pss_cons (ps_if (pt_val (pe_meth0 (pv 1) (T.clsR i) (T.mR_is_shut i) (ok_Raw_is_shut T) (hr.mono (by decide)) T.b_Raw_is_shut .nil pz)) (pss_one ps_never) pss_nil) (pss_cons (ps_if (PW.pt (pw_or (pt_cmpR op_lt (pv 2) pe_int (nomark _)) (pw_or1 (pt_cmpR op_gt (pv 2) (pe_glob (v := .int 64) rfl hi_MOST_ROOM_files ⟨_, rfl⟩) (nomark _))))) (pss_one ps_never) pss_nil) (pss_cons (ps_if (PW.pt (pw_and (pt_val (pv 3)) (pw_and (pt_val (pv 4)) (pw_and1 (pt_not (pt_val (pe_meth0 (pv 1) (T.clsR i) (T.mR_seeks i) (okR_seeks T i) (hr.mono (by decide)) (T.bR_seeks i) .nil pz))))))) (pss_one ps_never) pss_nil) (pss_cons (ps_fld (pv 0) (pv 1) rfl) (pss_cons (ps_fld (pv 0) (pv 2) rfl) (pss_cons (ps_fld (pv 0) (pv 3) rfl) (pss_cons (ps_fld (pv 0) (pv 4) rfl) (pss_cons (ps_fld (pv 0) pe_bl rfl) (pss_cons (ps_fld (pv 0) pe_bl rfl) (pss_cons (ps_fld (pv 0) pe_int rfl) (pss_cons (ps_if (pt_val (pe_meth0 (pv 1) (T.clsR i) (T.mR_seeks i) (okR_seeks T i) (hr.mono (by decide)) (T.bR_seeks i) .nil pz)) (pss_one (ps_fld (pv 0) (pe_meth0 (pv 1) T.cls_Device T.m_Device_place (ok_Device_place T) (hr.mono (by decide)) T.b_Device_place .nil pz) rfl)) pss_nil) (pss_cons (ps_fld (pv 0) (pe_lst pa_nil) rfl) (pss_cons (ps_fld (pv 0) (pe_lst pa_nil) rfl) (pss_one (ps_fld (pv 0) (pe_lst pa_nil) rfl))))))))))))))), ?_⟩
      refine ⟨_, rfl, _, _, _, rfl, hrr, l2, i, _, _, _, rfl, hrr, l1, _, rfl, ifF rfl ?_⟩
      refine ⟨_, rfl, _, _, rfl, rfl, _, rfl, ifF (decide_eq_false (by omega)) ⟨_, rfl, _, _, rfl, rfl, _, rfl, ifF (decide_eq_false (by omega)) ?_⟩⟩
      refine ⟨_, rfl, _, rfl, ifT hrd ⟨_, rfl, _, rfl, ifT hwr ⟨_, rfl, _, _, _, rfl, hrr, l3, _, _, _, rfl, hrr, fun _ => m1, _, rfl, ifF (by rw [hd]; rfl) ?_⟩⟩⟩
      refine ⟨_, rfl, _, rfl, _, _, _, _, rfl, ha, T.cls_File, T.n_File_raw, lt0, ?_⟩
      refine ⟨_, rfl, _, rfl, _, _, _, _, rfl, upd_same, T.cls_File, T.n_File_room, Nat.lt_of_le_of_lt (ltp (n := 0) (Nat.le_refl _)) (by decide), ?_⟩
      refine ⟨_, rfl, _, rfl, _, _, _, _, rfl, upd_same, T.cls_File, T.n_File_reading, Nat.lt_of_le_of_lt (ltp (ltp (n := 0) (Nat.le_refl _))) (by decide), ?_⟩
      refine ⟨_, rfl, _, rfl, _, _, _, _, rfl, upd_same, T.cls_File, T.n_File_writing, Nat.lt_of_le_of_lt (ltp (ltp (ltp (n := 0) (Nat.le_refl _)))) (by decide), ?_⟩
      refine ⟨_, rfl, _, _, _, _, rfl, upd_same, T.cls_File, T.n_File_pouring, Nat.lt_of_le_of_lt (ltp (ltp (ltp (ltp (n := 0) (Nat.le_refl _))))) (by decide), ?_⟩
      refine ⟨_, rfl, _, _, _, _, rfl, upd_same, T.cls_File, T.n_File_live, Nat.lt_of_le_of_lt (ltp (ltp (ltp (ltp (ltp (n := 0) (Nat.le_refl _)))))) (by decide), ?_⟩
      refine ⟨_, rfl, _, _, _, _, rfl, upd_same, T.cls_File, T.n_File_cursor, Nat.lt_of_le_of_lt (ltp (ltp (ltp (ltp (ltp (ltp (n := 0) (Nat.le_refl _))))))) (by decide), ?_⟩
      rw [updd, updd, updd, updd, updd, updd]
      have hr3 : upd H a (.ins (He.ga K "File") dx (putF "cursor" (.int 0) (putF "live" (.bl true) (putF "pouring" (.bl false) (putF "writing" (.bl (wrB i)) (putF "reading" (.bl (rdB i)) (putF "room" (.int room) (putF "raw" (.ref r) [])))))))) r = some (.ins (rC K i) dr fs) := by
        rw [upd_ne hra]
        exact hrr
      have hr3' := hr3
      rw [eC] at hr3'
      refine ⟨_, rfl, _, _, _, rfl, hr3, l3, _, _, _, rfl, hr3, fun _ => m1, _, rfl, ifT hd ?_⟩
      refine ⟨_, rfl, _, _, _, rfl, hr3', m4, _, _, _, _, rfl, hr3', m1, m2, m3, _, rfl, _, _, _, _, rfl, upd_same, T.cls_File, T.n_File_cursor, Nat.lt_of_le_of_lt (ltp (ltp (ltp (ltp (ltp (ltp (ltp (n := 0) (Nat.le_refl _)))))))) (by decide), ?_⟩
      rw [updd]
      refine ⟨sz1 (by simp), fun ah hah => ?_⟩
      have haa : ah ≠ a := fun e => by subst e; rw [upd_same] at hah; cases hah
      have hah0 : H ah = none := KeepA.upd.back haa hah
      refine ⟨_, rfl, _, _, _, _, rfl, (upd_ne haa.symm).trans upd_same, T.cls_File, T.n_File_ahead, Nat.lt_of_le_of_lt (ltp (ltp (ltp (ltp (ltp (ltp (ltp (ltp (n := 0) (Nat.le_refl _))))))))) (by decide), ?_⟩
      obtain ⟨G1, hG1⟩ : ∃ G1, G1 = upd (upd (upd H a (.ins (He.ga K "File") dx (putF "cursor" (.int 0) (putF "cursor" (.int 0) (putF "live" (.bl true) (putF "pouring" (.bl false) (putF "writing" (.bl (wrB i)) (putF "reading" (.bl (rdB i)) (putF "room" (.int room) (putF "raw" (.ref r) [])))))))))) ah (.lst [])) a (.ins (He.ga K "File") dx (putF "ahead" (.ref ah) (putF "cursor" (.int 0) (putF "cursor" (.int 0) (putF "live" (.bl true) (putF "pouring" (.bl false) (putF "writing" (.bl (wrB i)) (putF "reading" (.bl (rdB i)) (putF "room" (.int room) (putF "raw" (.ref r) [])))))))))) := ⟨_, rfl⟩
      rw [← hG1]
      have k1 : KeepA a H G1 := by
        rw [hG1]
        exact (KeepA.upd.trans (KeepA.ex (Ex.new hah))).trans KeepA.upd
      have a1 : G1 a = some (.ins (He.ga K "File") dx (putF "ahead" (.ref ah) (putF "cursor" (.int 0) (putF "cursor" (.int 0) (putF "live" (.bl true) (putF "pouring" (.bl false) (putF "writing" (.bl (wrB i)) (putF "reading" (.bl (rdB i)) (putF "room" (.int room) (putF "raw" (.ref r) [])))))))))) := by rw [hG1, upd_same]
      have ah1 : G1 ah = some (.lst []) := by rw [hG1, upd_ne haa, upd_same]
      refine ⟨sz1 (by simp), fun de hde => ?_⟩
      have hda : de ≠ a := (ne_of_none a1 hde).symm
      have hdah : ah ≠ de := ne_of_none ah1 hde
      have hde0 : H de = none := k1.back hda hde
      refine ⟨_, rfl, _, _, _, _, rfl, Ex.new hde _ _ a1, T.cls_File, T.n_File_delayed, Nat.lt_of_le_of_lt (ltp (ltp (ltp (ltp (ltp (ltp (ltp (ltp (ltp (n := 0) (Nat.le_refl _)))))))))) (by decide), ?_⟩
      obtain ⟨G2, hG2⟩ : ∃ G2, G2 = upd (upd G1 de (.lst [])) a (.ins (He.ga K "File") dx (putF "delayed" (.ref de) (putF "ahead" (.ref ah) (putF "cursor" (.int 0) (putF "cursor" (.int 0) (putF "live" (.bl true) (putF "pouring" (.bl false) (putF "writing" (.bl (wrB i)) (putF "reading" (.bl (rdB i)) (putF "room" (.int room) (putF "raw" (.ref r) []))))))))))) := ⟨_, rfl⟩
      rw [← hG2]
      have k2 : KeepA a H G2 := by
        rw [hG2]
        exact (k1.trans (KeepA.ex (Ex.new hde))).trans KeepA.upd
      have a2 : G2 a = some (.ins (He.ga K "File") dx (putF "delayed" (.ref de) (putF "ahead" (.ref ah) (putF "cursor" (.int 0) (putF "cursor" (.int 0) (putF "live" (.bl true) (putF "pouring" (.bl false) (putF "writing" (.bl (wrB i)) (putF "reading" (.bl (rdB i)) (putF "room" (.int room) (putF "raw" (.ref r) []))))))))))) := by rw [hG2, upd_same]
      have ah2 : G2 ah = some (.lst []) := by rw [hG2, upd_ne haa]; exact Ex.new hde _ _ ah1
      have de2 : G2 de = some (.lst []) := by rw [hG2, upd_ne hda, upd_same]
      refine ⟨sz1 (by simp), fun mi hmi => ?_⟩
      have hma : mi ≠ a := (ne_of_none a2 hmi).symm
      have hmi0 : H mi = none := k2.back hma hmi
      refine ⟨_, rfl, _, _, _, _, rfl, Ex.new hmi _ _ a2, T.cls_File, T.n_File_missed, Nat.lt_of_le_of_lt (ltp (ltp (ltp (ltp (ltp (ltp (ltp (ltp (ltp (ltp (n := 0) (Nat.le_refl _))))))))))) (by decide), ?_⟩
      refine q ah de mi _ hah0 hde0 hmi0 ((k2.trans (KeepA.ex (Ex.new hmi))).trans KeepA.upd) (by rw [upd_same, pF2]) ?_ ?_ ?_
      · rw [upd_ne haa]; exact Ex.new hmi _ _ ah2
      · rw [upd_ne hda]; exact Ex.new hmi _ _ de2
      · rw [upd_ne hma, upd_same]
    | false =>
      refine ⟨_, (pss_cons (ps_if (pt_val (pe_meth0 (pv 1) (T.clsR i) (T.mR_is_shut i) (ok_Raw_is_shut T) (hr.mono (by decide)) T.b_Raw_is_shut .nil pz)) (pss_one ps_never) pss_nil) (pss_cons (ps_if (PW.pt (pw_or (pt_cmpR op_lt (pv 2) pe_int (nomark _)) (pw_or1 (pt_cmpR op_gt (pv 2) (pe_glob (v := .int 64) rfl hi_MOST_ROOM_files ⟨_, rfl⟩) (nomark _))))) (pss_one ps_never) pss_nil) (pss_cons (ps_if (PW.pt (pw_and (pt_val (pv 3)) (pw_and (pt_val (pv 4)) (pw_and1 (pt_not (pt_val (pe_meth0 (pv 1) (T.clsR i) (T.mR_seeks i) (okR_seeks T i) (hr.mono (by decide)) (T.bR_seeks i) .nil pz))))))) (pss_one ps_never) pss_nil) (pss_cons (ps_fld (pv 0) (pv 1) rfl) (pss_cons (ps_fld (pv 0) (pv 2) rfl) (pss_cons (ps_fld (pv 0) (pv 3) rfl) (pss_cons (ps_fld (pv 0) (pv 4) rfl) (pss_cons (ps_fld (pv 0) pe_bl rfl) (pss_cons (ps_fld (pv 0) pe_bl rfl) (pss_cons (ps_fld (pv 0) pe_int rfl) (pss_cons (ps_if (pt_val (pe_meth0 (pv 1) (T.clsR i) (T.mR_seeks i) (okR_seeks T i) (hr.mono (by decide)) (T.bR_seeks i) .nil pz)) (pss_one ps_never) pss_nil) (pss_cons (ps_fld (pv 0) (pe_lst pa_nil) rfl) (pss_cons (ps_fld (pv 0) (pe_lst pa_nil) rfl) (pss_one (ps_fld (pv 0) (pe_lst pa_nil) rfl))))))))))))))), ?_⟩
      refine ⟨_, rfl, _, _, _, rfl, hrr, l2, i, _, _, _, rfl, hrr, l1, _, rfl, ifF rfl ?_⟩
      refine ⟨_, rfl, _, _, rfl, rfl, _, rfl, ifF (decide_eq_false (by omega)) ⟨_, rfl, _, _, rfl, rfl, _, rfl, ifF (decide_eq_false (by omega)) ?_⟩⟩
      refine (fun h => ⟨_, rfl, _, rfl, ite2 (fun h1 => ⟨_, rfl, _, rfl, ite2 (fun h2 => (by
        exfalso
        cases i <;> first | exact absurd h1 (by decide) | exact absurd h2 (by decide) | exact absurd hd (by decide))) (fun _ => ifF rfl h)⟩) (fun _ => ifF rfl h)⟩) ?_
      refine ⟨_, rfl, _, rfl, _, _, _, _, rfl, ha, T.cls_File, T.n_File_raw, lt0, ?_⟩
      refine ⟨_, rfl, _, rfl, _, _, _, _, rfl, upd_same, T.cls_File, T.n_File_room, Nat.lt_of_le_of_lt (ltp (n := 0) (Nat.le_refl _)) (by decide), ?_⟩
      refine ⟨_, rfl, _, rfl, _, _, _, _, rfl, upd_same, T.cls_File, T.n_File_reading, Nat.lt_of_le_of_lt (ltp (ltp (n := 0) (Nat.le_refl _))) (by decide), ?_⟩
      refine ⟨_, rfl, _, rfl, _, _, _, _, rfl, upd_same, T.cls_File, T.n_File_writing, Nat.lt_of_le_of_lt (ltp (ltp (ltp (n := 0) (Nat.le_refl _)))) (by decide), ?_⟩
      refine ⟨_, rfl, _, _, _, _, rfl, upd_same, T.cls_File, T.n_File_pouring, Nat.lt_of_le_of_lt (ltp (ltp (ltp (ltp (n := 0) (Nat.le_refl _))))) (by decide), ?_⟩
      refine ⟨_, rfl, _, _, _, _, rfl, upd_same, T.cls_File, T.n_File_live, Nat.lt_of_le_of_lt (ltp (ltp (ltp (ltp (ltp (n := 0) (Nat.le_refl _)))))) (by decide), ?_⟩
      refine ⟨_, rfl, _, _, _, _, rfl, upd_same, T.cls_File, T.n_File_cursor, Nat.lt_of_le_of_lt (ltp (ltp (ltp (ltp (ltp (ltp (n := 0) (Nat.le_refl _))))))) (by decide), ?_⟩
      rw [updd, updd, updd, updd, updd, updd]
      have hr3 : upd H a (.ins (He.ga K "File") dx (putF "cursor" (.int 0) (putF "live" (.bl true) (putF "pouring" (.bl false) (putF "writing" (.bl (wrB i)) (putF "reading" (.bl (rdB i)) (putF "room" (.int room) (putF "raw" (.ref r) [])))))))) r = some (.ins (rC K i) dr fs) := by
        rw [upd_ne hra]
        exact hrr
      refine ⟨_, rfl, _, _, _, rfl, hr3, l3, _, _, _, rfl, hr3, (fun z => by rw [hd] at z; cases z), _, rfl, ifF hd ?_⟩
      refine ⟨sz1 (by simp), fun ah hah => ?_⟩
      have haa : ah ≠ a := fun e => by subst e; rw [upd_same] at hah; cases hah
      have hah0 : H ah = none := KeepA.upd.back haa hah
      refine ⟨_, rfl, _, _, _, _, rfl, (upd_ne haa.symm).trans upd_same, T.cls_File, T.n_File_ahead, Nat.lt_of_le_of_lt (ltp (ltp (ltp (ltp (ltp (ltp (ltp (n := 0) (Nat.le_refl _)))))))) (by decide), ?_⟩
      obtain ⟨G1, hG1⟩ : ∃ G1, G1 = upd (upd (upd H a (.ins (He.ga K "File") dx (putF "cursor" (.int 0) (putF "live" (.bl true) (putF "pouring" (.bl false) (putF "writing" (.bl (wrB i)) (putF "reading" (.bl (rdB i)) (putF "room" (.int room) (putF "raw" (.ref r) []))))))))) ah (.lst [])) a (.ins (He.ga K "File") dx (putF "ahead" (.ref ah) (putF "cursor" (.int 0) (putF "live" (.bl true) (putF "pouring" (.bl false) (putF "writing" (.bl (wrB i)) (putF "reading" (.bl (rdB i)) (putF "room" (.int room) (putF "raw" (.ref r) []))))))))) := ⟨_, rfl⟩
      rw [← hG1]
      have k1 : KeepA a H G1 := by
        rw [hG1]
        exact (KeepA.upd.trans (KeepA.ex (Ex.new hah))).trans KeepA.upd
      have a1 : G1 a = some (.ins (He.ga K "File") dx (putF "ahead" (.ref ah) (putF "cursor" (.int 0) (putF "live" (.bl true) (putF "pouring" (.bl false) (putF "writing" (.bl (wrB i)) (putF "reading" (.bl (rdB i)) (putF "room" (.int room) (putF "raw" (.ref r) []))))))))) := by rw [hG1, upd_same]
      have ah1 : G1 ah = some (.lst []) := by rw [hG1, upd_ne haa, upd_same]
      refine ⟨sz1 (by simp), fun de hde => ?_⟩
      have hda : de ≠ a := (ne_of_none a1 hde).symm
      have hdah : ah ≠ de := ne_of_none ah1 hde
      have hde0 : H de = none := k1.back hda hde
      refine ⟨_, rfl, _, _, _, _, rfl, Ex.new hde _ _ a1, T.cls_File, T.n_File_delayed, Nat.lt_of_le_of_lt (ltp (ltp (ltp (ltp (ltp (ltp (ltp (ltp (n := 0) (Nat.le_refl _))))))))) (by decide), ?_⟩
      obtain ⟨G2, hG2⟩ : ∃ G2, G2 = upd (upd G1 de (.lst [])) a (.ins (He.ga K "File") dx (putF "delayed" (.ref de) (putF "ahead" (.ref ah) (putF "cursor" (.int 0) (putF "live" (.bl true) (putF "pouring" (.bl false) (putF "writing" (.bl (wrB i)) (putF "reading" (.bl (rdB i)) (putF "room" (.int room) (putF "raw" (.ref r) [])))))))))) := ⟨_, rfl⟩
      rw [← hG2]
      have k2 : KeepA a H G2 := by
        rw [hG2]
        exact (k1.trans (KeepA.ex (Ex.new hde))).trans KeepA.upd
      have a2 : G2 a = some (.ins (He.ga K "File") dx (putF "delayed" (.ref de) (putF "ahead" (.ref ah) (putF "cursor" (.int 0) (putF "live" (.bl true) (putF "pouring" (.bl false) (putF "writing" (.bl (wrB i)) (putF "reading" (.bl (rdB i)) (putF "room" (.int room) (putF "raw" (.ref r) [])))))))))) := by rw [hG2, upd_same]
      have ah2 : G2 ah = some (.lst []) := by rw [hG2, upd_ne haa]; exact Ex.new hde _ _ ah1
      have de2 : G2 de = some (.lst []) := by rw [hG2, upd_ne hda, upd_same]
      refine ⟨sz1 (by simp), fun mi hmi => ?_⟩
      have hma : mi ≠ a := (ne_of_none a2 hmi).symm
      have hmi0 : H mi = none := k2.back hma hmi
      refine ⟨_, rfl, _, _, _, _, rfl, Ex.new hmi _ _ a2, T.cls_File, T.n_File_missed, Nat.lt_of_le_of_lt (ltp (ltp (ltp (ltp (ltp (ltp (ltp (ltp (ltp (n := 0) (Nat.le_refl _)))))))))) (by decide), ?_⟩
      refine q ah de mi _ hah0 hde0 hmi0 ((k2.trans (KeepA.ex (Ex.new hmi))).trans KeepA.upd) (by rw [upd_same, pF1]) ?_ ?_ ?_
      · rw [upd_ne haa]; exact Ex.new hmi _ _ ah2
      · rw [upd_ne hda]; exact Ex.new hmi _ _ de2
      · rw [upd_ne hma, upd_same]
theorem ok_Pipe_into (T : Txt K mg) : FnOk prog w K mg base CXz 1 (He.fAd K d_Pipe_into.at_) (fdO K d_Pipe_into) ["self"] (fun (vs : List V) (H : Hp) (Q : VK) (_ : XK) => ∃ (a C dx : Addr) (ro ins hi lo : V), vs = [.ref a] ∧ H a = some (.ins (He.ga K "Pipe") dx (pF ro ins hi lo)) ∧ Q hi H) :=
  T.F_Pipe_into.ok sc_Pipe_into (fun vs H Q E h => by obtain ⟨_, _, _, _, _, _, _, rfl, _⟩ := h; rfl) fun cdv A outer st H vs Q E hr h => by
    obtain ⟨a, C, dx, ro, ins, hi, lo, rfl, ha, q⟩ := h
    exact ⟨_, (pss_one (ps_ret (pe_fld (pv 0) rfl))), _, rfl, _, _, _, _, _, rfl, ha, T.cls_Pipe, T.n_Pipe_high, pF_high, q⟩
theorem ok_Pipe_out (T : Txt K mg) : FnOk prog w K mg base CXz 1 (He.fAd K d_Pipe_out.at_) (fdO K d_Pipe_out) ["self"] (fun (vs : List V) (H : Hp) (Q : VK) (_ : XK) => ∃ (a C dx : Addr) (ro ins hi lo : V), vs = [.ref a] ∧ H a = some (.ins (He.ga K "Pipe") dx (pF ro ins hi lo)) ∧ Q lo H) :=
  T.F_Pipe_out.ok sc_Pipe_out (fun vs H Q E h => by obtain ⟨_, _, _, _, _, _, _, rfl, _⟩ := h; rfl) fun cdv A outer st H vs Q E hr h => by
    obtain ⟨a, C, dx, ro, ins, hi, lo, rfl, ha, q⟩ := h
    exact ⟨_, (pss_one (ps_ret (pe_fld (pv 0) rfl))), _, rfl, _, _, _, _, _, rfl, ha, T.cls_Pipe, T.n_Pipe_low, pF_low, q⟩
theorem ok_Pipe_held (T : Txt K mg) : FnOk prog w K mg base CXz 1 (He.fAd K d_Pipe_held.at_) (fdO K d_Pipe_held) ["self"] (fun (vs : List V) (H : Hp) (Q : VK) (_ : XK) => ∃ (P : Pm) (s : WS), vs = [.ref (P.A .p)] ∧ W P K H s ∧ (s.r .ro).lv = true ∧ ∀ l H', Ex H H' → H l = none → Lst P H' l s.p → Q (.ref l) H') :=
  T.F_Pipe_held.ok sc_Pipe_held (fun vs H Q E h => by obtain ⟨_, _, rfl, _⟩ := h; rfl) fun cdv A outer st H vs Q E hr h => by
    obtain ⟨P, s, rfl, w, lv, q⟩ := h
    obtain ⟨ia, hP, hia⟩ := w.pipe
    have hL := w.end_ (i := .ro) rfl
    refine ⟨_, (pss_cons (ps_if (pt_not (pt_val (pe_fld (pe_fld (pv 0) rfl) rfl))) (pss_one (ps_ret (pe_lst pa_nil))) pss_nil) (pss_one (ps_ret (pe_callTy call_list_of (by rfl) T.n_list (by decide +kernel) (pa_cons (pe_fld (pv 0) rfl) pa_nil))))), ?_⟩
    refine ⟨_, rfl, _, _, _, _, _, rfl, hP, T.cls_Pipe, T.n_Pipe_low, pF_low, _, _, _, _, _, rfl, hL, T.cls_Drain, T.n_Drain_live, eF_live, _, rfl, ifF (by rw [lv]; rfl) ?_⟩
    exact ⟨_, rfl, _, _, _, _, _, rfl, hP, T.cls_Pipe, T.n_Pipe_inside, pF_inside, _, _, rfl, .inl hia.sq, fun l hl => q l _ (Ex.new hl) hl (lst_new w hl)⟩
theorem ok__law_laid (T : Txt K mg) : FnOk prog w K mg base CXz 1 (He.fAd K d__law_laid.at_) (fdO K d__law_laid) ["_law_row_here", "_law_place", "_law_data"] (spLaid) :=
  T.F__law_laid.ok sc__law_laid (fun vs H Q E h => by obtain ⟨_, _, _, _, _, rfl, _⟩ := h; rfl) fun cdv A outer st H vs Q E hr h => by
    obtain ⟨r, d, p, xs, ys, rfl, h1, h2, hp, hx, hy, q⟩ := h
    refine ⟨_, (pss_cons (ps_if (pt_cmpR op_eq (pe_callB call_len_seq (by rfl) T.n_len PySem.boot_len (pa_cons (pv 2) pa_nil)) pe_int (nomark _)) (pss_one (ps_ret (pe_callTy call_list_of (by rfl) T.n_list (by decide +kernel) (pa_cons (pv 0) pa_nil)))) pss_nil) (pss_cons (ps_set (i := 3) sc__law_laid.nd rfl (Or.inl rfl) (pe_op op_cat (pv 0) (pe_op op_rep (pe_lst (pa_cons pe_int pa_nil)) (pe_op op_sub (pv 1) (pe_callB call_len_seq (by rfl) T.n_len PySem.boot_len (pa_cons (pv 0) pa_nil)))))) (pss_one (ps_ret (pe_op op_cat (pe_op op_cat (pe_slice sl_list (pv 3) po_none (po_some (pv 1))) (pe_callTy call_list_of (by rfl) T.n_list (by decide +kernel) (pa_cons (pv 2) pa_nil))) (pe_slice sl_list (pv 3) (po_some (pe_op op_add (pv 1) (pe_callB call_len_seq (by rfl) T.n_len PySem.boot_len (pa_cons (pv 2) pa_nil)))) po_none)))))), ?_⟩
    refine ⟨_, rfl, d, _, rfl, .inl (.inl (.inl h2)), rfl, _, rfl, ite2 (fun e => ?_) fun e => ?_⟩
    · have e0 : ys = [] := by
        have := of_decide_eq_true e
        injection this with this
        rw [map_len] at this
        exact List.eq_nil_of_length_eq_zero (by omega)
      subst e0
      refine ⟨_, rfl, r, _, rfl, .inl (.inl (.inl h1)), fun l hl => q l _ (Ex.new hl) hl ?_⟩
      rw [List.append_nil, List.length_nil, Nat.add_zero, List.take_append_drop]
      exact upd_same
    · refine ⟨_, rfl, sz1 (by simp), fun b hb => ?_⟩
      have h1b : upd H b (.lst [.int 0]) r = some (.lst (xs.map V.int)) := Ex.new hb _ _ h1
      refine ⟨_, rfl, _, rfl, r, _, rfl, .inl (.inl (.inl h1b)), _, _, rfl, rfl, _, _, _, rfl, rfl, upd_same, ?_, ?_, ?_, fun c hc => ?_⟩
      · rw [map_len]; omega
      · rw [map_len]; omega
      · exact sz1 (by rw [map_len]; simp; omega)
      · have e0 : (List.replicate ((p : Int) - ((xs.map V.int).length : Int)).toNat [V.int 0]).flatten = [] := by
          have : ((p : Int) - ((xs.map V.int).length : Int)).toNat = 0 := by rw [map_len]; omega
          rw [this]
          rfl
        rw [e0]
        have k1 : Ex H (upd (upd H b (.lst [.int 0])) c (.lst [])) := fun _ _ e => Ex.new hc _ _ (Ex.new hb _ _ e)
        have hrc : upd (upd H b (.lst [.int 0])) c (.lst []) r = some (.lst (xs.map V.int)) := Ex.new hc _ _ h1b
        have hcc : upd (upd H b (.lst [.int 0])) c (.lst []) c = some (.lst []) := upd_same
        refine ⟨_, _, _, _, rfl, rfl, hrc, hcc, sz1 (by rw [map_len]; simp; omega), fun f hf => ?_⟩
        revert k1 hrc hcc hf
        generalize upd (upd H b (.lst [.int 0])) c (.lst []) = H1
        intro k1 hrc hcc hf
        rw [List.append_nil]
        have hff : upd H1 f (.lst (xs.map V.int)) f = some (.lst (xs.map V.int)) := upd_same
        refine ⟨_, rfl, _, rfl, _, rfl, f, _, rfl, .inl (.inl hff), fun u hu => ?_⟩
        rw [cut_to]
        have k2 : Ex H1 (upd (upd H1 f (.lst (xs.map V.int))) u (.lst ((xs.take p).map V.int))) := fun _ _ e => Ex.new hu _ _ (Ex.new hf _ _ e)
        refine ⟨_, rfl, d, _, rfl, .inl (.inl (.inl (k2 _ _ (k1 _ _ h2)))), fun v hv => ?_⟩
        refine ⟨_, _, _, _, rfl, rfl, Ex.new hv _ _ upd_same, upd_same, sz1 (by rw [map_len, map_len, List.length_take]; omega), fun x hx' => ?_⟩
        have k3 : Ex (upd H1 f (.lst (xs.map V.int))) (upd (upd (upd (upd H1 f (.lst (xs.map V.int))) u (.lst ((xs.take p).map V.int))) v (.lst (ys.map V.int))) x (.lst ((xs.take p).map V.int ++ ys.map V.int))) := fun _ _ e => Ex.new hx' _ _ (Ex.new hv _ _ (Ex.new hu _ _ e))
        have hfx := k3 _ _ hff
        have hdx := k3 _ _ (Ex.new hf _ _ (k1 _ _ h2))
        have k4 : Ex H (upd (upd (upd (upd H1 f (.lst (xs.map V.int))) u (.lst ((xs.take p).map V.int))) v (.lst (ys.map V.int))) x (.lst ((xs.take p).map V.int ++ ys.map V.int))) := fun _ _ e => k3 _ _ (Ex.new hf _ _ (k1 _ _ e))
        have hxx : upd (upd (upd (upd H1 f (.lst (xs.map V.int))) u (.lst ((xs.take p).map V.int))) v (.lst (ys.map V.int))) x (.lst ((xs.take p).map V.int ++ ys.map V.int)) x = some (.lst ((xs.take p).map V.int ++ ys.map V.int)) := upd_same
        revert hfx hdx k4 hxx
        generalize upd (upd (upd (upd H1 f (.lst (xs.map V.int))) u (.lst ((xs.take p).map V.int))) v (.lst (ys.map V.int))) x (.lst ((xs.take p).map V.int ++ ys.map V.int)) = H2
        intro hfx hdx k4 hxx
        refine ⟨_, rfl, _, rfl, _, rfl, d, _, rfl, .inl (.inl (.inl hdx)), _, _, rfl, rfl, _, rfl, f, _, rfl, .inl (.inl hfx), fun y hy' => ?_⟩
        rw [map_len, show (p : Int) + (ys.length : Int) = ((p + ys.length : Nat) : Int) by omega, cut_from]
        refine ⟨_, _, _, _, rfl, rfl, Ex.new hy' _ _ hxx, upd_same, sz1 (by rw [List.length_append, map_len, map_len, map_len, List.length_take, List.length_drop]; omega), fun r' hr' => ?_⟩
        refine q r' _ (fun _ _ e => Ex.new hr' _ _ (Ex.new hy' _ _ (k4 _ _ e))) ?_ ?_
        · cases hH : H r' with
          | none => rfl
          | some o => rw [Ex.new hy' _ _ (k4 _ _ hH)] at hr'; cases hr'
        · rw [upd_same, cat_map, cat_map]
end
end Sip

set_option Elab.async false
set_option linter.all false
set_option maxRecDepth 100000
set_option maxHeartbeats 4000000
noncomputable section
namespace Sip
open PySem PySem.Spec PyProof.Rows L2 SipX L2H HotX
def spLog (K : PySem.W.Frag) : Sp := fun vs H Q _ => ∃ (P : Pm) (s : WS), vs = [.ref (P.A (.r .ro))] ∧ W P K H s ∧ (s.n .ro).length ≤ 9000000 ∧ ∀ D H' ys, Ex H H' → (∀ t, D ≠ P.A t) → H' D = some (.lst ys) → Paired (Nt P H') ys (s.n .ro) → Q (.ref D) H'
theorem paired_get {α β : Type} {F : α → β → Prop} : ∀ {xs : List α} {ys : List β} {i : Nat} {x : α}, Paired F xs ys → xs[i]? = some x → ∃ y, ys[i]? = some y ∧ F x y
  | _, _, _, _, .nil, h => by cases h
  | _, _, 0, _, .cons r _, h => by cases h; exact ⟨_, rfl, r⟩
  | _, _, i + 1, _, .cons _ t, h => paired_get (i := i) t h
theorem dpInts {K : PySem.W.Frag} {H : Hp} : ∀ xs : List Int, DpAll K H (xs.map V.int) (xs.map PyData.int)
  | [] => .nil
  | x :: r => .cons (.int x) (dpInts r)
theorem dpL {P : Pm} {K : PySem.W.Frag} {H : Hp} {l : Addr} {xs : List Int} (h : Lst P H l xs) : Dp K H (.ref l) (.list (xs.map PyData.int)) := .lst h.sq (dpInts xs)
/-- a pouring as the law asks it -/
def vO : Option Str → V | none => .non | some x => .str x
def OutO (P : Pm) (s : Ix) (z0 z : Z) : Option Str → Prop | none => OutF P s z0 z | some x => Out P s z0 z x
def spLPoured (K : PySem.W.Frag) (s : Ix) : Sp := fun vs H Q _ => ∃ (P : Pm) (z0 : Z) (room : Nat) (mo : V), vs = [.ref (P.A (.f s)), .ref (P.A (.f (ds s))), .int room, mo] ∧ (mo = .non ∨ ∃ n : Nat, mo = .int n) ∧ 1 ≤ room ∧ room ≤ 64 ∧
  W P K H (toWS P z0) ∧ R P s 0 z0 z0 ∧ (∀ i, (z0.n i).length ≤ 5000000) ∧ (s = .fr → z0.lv = true) ∧ z0.po s = false ∧ z0.po (ds s) = false ∧
  ∀ z o p H', R P s 1 z0 z → OutO P s z0 z o → (o = some ("most" : Str) → mo ≠ .non) → Keep P H H' → W P K H' (toWS P z) → H' p = some (.lst [vO o, .int ((z.c s - z0.c s : Nat) : Int)]) → (∀ t, p ≠ P.A t) → Q (.ref p) H'
def spLFlushed (K : PySem.W.Frag) (i : Ix) : Sp := fun vs H Q _ => ∃ (P : Pm) (z : Z), vs = [.ref (P.A (.f i))] ∧ W P K H (toWS P z) ∧ Tg P z i ∧
  (∀ ns H', (z.n i).length ≤ ns.length → ns.length ≤ (z.n i).length + (z.c i - z.lo i) → (i = .wi → (z.c i : Int) - z.sp .ro ≤ P.proom) → Keep P H H' → W P K H' (toWS P (z.mv i (z.c i) ns)) → Q (.int 1) H') ∧
  (∀ m ns H', Sto P z i m ns → Keep P H H' → W P K H' (toWS P (z.mv i m ns)) → Q (.int 0) H')
section
variable {prog : Program} {w : World} {base : Heap} {K : PySem.W.Frag} {mg : Str → Option Value}
theorem ok_Raw_log (T : Txt K mg) : FnOk prog w K mg base CXz 2 (He.fAd K d_Raw_log.at_) (fdO K d_Raw_log) ["self"] (spLog K) :=
  T.F_Raw_log.ok sc_Raw_log (fun vs H Q E h => by obtain ⟨_, _, rfl, _⟩ := h; rfl) fun cdv A outer st H vs Q E hr h => by
    obtain ⟨P, s, rfl, w, hn, q⟩ := h
    have hL := w.end_ (i := .ro) rfl
    obtain ⟨xs, hx, hp⟩ := w.note .ro
    have hxl : xs.length = (s.n .ro).length := hp.length
    refine ⟨_, (pss_one (ps_ret (pe_lc (g := gTup K 4 (gCons (gName 1) (gCons (gName 2) (gCons (gName 3) (gCons (gName 4) gNil))))) (own := [("word", 1), ("place", 2), ("handed", 3), ("came", 4)]) (tt := tYes) rfl sc_Raw_log.nd (pi_list (pe_fld (pv 0) rfl)) (blkOk_by (N := ["self", "word", "place", "handed", "came"]) (sc := defScope s_Raw_log) (by decide +kernel))
      (fun _ _ _ _ _ => pg_tup rfl (pgs_cons (pg_name (i := 1) sc_Raw_log.nd rfl (Or.inl rfl)) (pgs_cons (pg_name (i := 2) sc_Raw_log.nd rfl (Or.inl rfl)) (pgs_cons (pg_name (i := 3) sc_Raw_log.nd rfl (Or.inl rfl)) (pgs_cons (pg_name (i := 4) sc_Raw_log.nd rfl (Or.inl rfl)) pgs_nil))))) (fun _ _ _ _ _ => pts_nil)
      (fun _ _ _ _ _ => pe_tup (pa_cons (pv 1) (pa_cons (pv 2) (pa_cons (pe_call (ok_told_anew T) (hr.mono (by decide)) (by rfl) T.g_told_anew T.F_told_anew.kp T.b_told_anew .nil pz (pa_cons (pv 3) pa_nil)) (pa_cons (pe_call (ok_told_anew T) (hr.mono (by decide)) (by rfl) T.g_told_anew T.F_told_anew.kp T.b_told_anew .nil pz (pa_cons (pv 4) pa_nil)) pa_nil)))))))), ?_⟩
    refine ⟨_, rfl, _, _, _, _, _, rfl, hL, T.cls_Drain, T.n_Drain_notes, eF_notes, _, rfl, ⟨xs, .inl (.inl hx)⟩, fun D hD => ?_⟩
    have exD : ∀ H', Ex (del H' D) H' := fun H' b o e => by
      by_cases h : b = D
      · subst h; rw [del_same] at e; cases e
      · rwa [del_ne h] at e
    refine lc_list (K := K) (xs := xs) (fun i H' => ∃ ys, Ex H H' ∧ H' D = some (.lst ys) ∧ Paired (Nt P (del H' D)) ys ((s.n .ro).take i)) ⟨[], Ex.new hD, upd_same, .nil⟩ (fun i H' _ p => ?_) (fun i x H' hi p => ?_) (fun H' p => ?_)
    · obtain ⟨ys, e1, _⟩ := p
      exact .inl (.inl (e1 _ _ hx))
    · obtain ⟨ys, e1, hy, hpy⟩ := p
      obtain ⟨o, ho, t, a, b, c, d, rfl, ht, htn, ⟨oc, htc⟩, htd⟩ := paired_get hp hi
      have hil : i < (s.n .ro).length := (List.getElem?_eq_some_iff.mp ho).1
      have hyl : ys.length = i := by rw [hpy.length, List.length_take]; omega
      refine ⟨t, _, rfl, .inl (.inl (e1 _ _ ht)), rfl, _, _, rfl, _, _, rfl, _, _, rfl, _, _, rfl, rfl, rfl, ?_⟩
      have w1 := w.ex e1
      refine ⟨_, rfl, _, rfl, _, rfl, P, c, oc, rfl, fun p hp => w1.fresh hp, htc.keep e1.keep, fun v1 H1 e2 t1 f1 => ?_⟩
      have w2 := w1.ex e2
      refine ⟨_, rfl, P, d, o, rfl, fun p hp => w2.fresh hp, (htd.keep e1.keep).keep e2.keep, fun v2 H2 e3 t2 f2 => ?_⟩
      have w3 := w2.ex e3
      refine ⟨sz1 (by simp), fun p hp => ?_⟩
      have hD3 : upd H2 p (.tup [a, b, v1, v2]) D = some (.lst ys) := Ex.new hp _ _ (e3 _ _ (e2 _ _ hy))
      have hpD : p ≠ D := (ne_of_none (e3 _ _ (e2 _ _ hy)) hp).symm
      refine ⟨ys, hD3, sz2 (by omega), ys ++ [.ref p], fun b0 o0 eb => ?_, upd_same, ?_⟩
      · rw [upd_ne (ne_of_none eb hD)]
        exact Ex.new hp _ _ (e3 _ _ (e2 _ _ (e1 _ _ eb)))
      · have e4 : Ex (del H' D) (del (upd (upd H2 p (.tup [a, b, v1, v2])) D (.lst (ys ++ [.ref p]))) D) := fun b0 o0 eb => by
          by_cases h : b0 = D
          · subst h; rw [del_same] at eb; cases eb
          · rw [del_ne h] at eb
            rw [del_ne h, upd_ne h]
            exact Ex.new hp _ _ (e3 _ _ (e2 _ _ eb))
        have tv : ∀ {H0 : Hp} {v : V} {o : Option (List Int)}, Ex H0 (upd H2 p (.tup [a, b, v1, v2])) → Tv P H0 v o → (∀ q, v = .ref q → q ≠ D) → Tv P (del (upd (upd H2 p (.tup [a, b, v1, v2])) D (.lst (ys ++ [.ref p]))) D) v o := by
          intro H0 v o e0 hv hq
          rcases hv with ⟨q', l', rfl, rfl, hl'⟩ | h
          · have hqD := hq q' rfl
            refine .inl ⟨q', l', rfl, rfl, ?_, hl'.2⟩
            rw [del_ne hqD, upd_ne hqD]
            exact e0 _ _ hl'.1
          · exact .inr h
        have q1 : ∀ q, v1 = .ref q → q ≠ D := fun q e z => by
          have := f1 q e
          rw [z, hy] at this
          cases this
        have q2 : ∀ q, v2 = .ref q → q ≠ D := fun q e z => by
          have := f2 q e
          rw [z, e2 _ _ hy] at this
          cases this
        rw [List.take_add_one, ho]
        refine Paired.snoc (paired_imp (fun _ _ h => h.keep e4.keep) hpy) ⟨p, a, b, v1, v2, rfl, ?_, w3.fresh hp, ⟨oc, tv (fun _ _ e => Ex.new hp _ _ (e3 _ _ e)) t1 q1⟩, tv (Ex.new hp) t2 q2⟩
        rw [del_ne hpD, upd_ne hpD, upd_same]
    · obtain ⟨ys, e1, hy, hpy⟩ := p
      rw [hxl, List.take_length] at hpy
      exact q D H' ys e1 (w.fresh hD) hy (paired_imp (fun _ _ h => h.keep (exD H').keep) hpy)
end
end Sip

set_option Elab.async false
set_option linter.all false
set_option maxRecDepth 100000
set_option maxHeartbeats 4000000
noncomputable section
namespace Sip
open PySem PySem.Spec PyProof.Rows L2 SipX L2H HotX
theorem ndF {x y : V} (h : x = y) : (!decide (x = y)) = false := by rw [decide_eq_true h]; rfl
theorem Txt.kPour {K : PySem.W.Frag} {mg : Str → Option Value} (T : Txt K mg) : KBn K (fdO K d_pour) ["source", "target", "room", "most"] 2 ["room", "most"] (fun us ws => us ++ ws) (fun vs zs => vs ++ zs) := by
  obtain ⟨mv, h⟩ := T.F_pour.kbinds0 (ps := ["source", "target", "room", "most"]) 2 ["room", "most"] [] (fun us _ ws => us ++ ws) (fun z => by cases (show [(("room" : Str), V.int 8), ("most", .non)] = [] from z)) (fun q hq => by cases hq) (fun a _ c => a.append c) fun D doc pm an cdv ct us mv ws hu hm hw => by
    match us, hu, ws, hw with
    | [_, _], _, [_, _], _ => rfl
  exact h
theorem outIn {P : Pm} {s : Ix} {z0 z : Z} {o : Option Str} (h : OutO P s z0 z o) : inV (vO o) [V.non, .str "most", .str "end", .str "stalled"] = true ∧ flatV (vO o) = true := by
  cases o with
  | none => exact ⟨by kernel_rfl, rfl⟩
  | some x =>
    have h' : Out P s z0 z x := h
    cases h' <;> exact ⟨by kernel_rfl, rfl⟩
section
variable {prog : Program} {w : World} {base : Heap} {K : PySem.W.Frag} {mg : Str → Option Value}
theorem ok__law_poured (T : Txt K mg) (s : Ix) (hs : isT s = false) : FnOk prog w K mg base CXz 11 (He.fAd K d__law_poured.at_) (fdO K d__law_poured) ["_law_source", "_law_target", "_law_wide", "_law_limit"] (spLPoured K s) :=
  T.F__law_poured.ok sc__law_poured (fun vs H Q E h => by obtain ⟨_, _, _, _, rfl, _⟩ := h; rfl) fun cdv A outer st H vs Q E hr h => by
    obtain ⟨P, z0, room, mo, rfl, hmo, hr1, hr2, w, r0, hn, hlv, hp1, hp2, q⟩ := h
    obtain ⟨ah, de, mi, hF, hah, hde, hmi⟩ := w.file s
    obtain ⟨ahT, deT, miT, hG, hahT, hdeT, hmiT⟩ := w.file (ds s)
    have hlT : lvI z0.lv (ds s) = true := by
      cases s
      · exact hlv rfl
      · cases hs
      · rfl
      · cases hs
    refine ⟨_, (pss_cons (ps_set (i := 4) sc__law_poured.nd rfl (Or.inl rfl) (pe_meth0 (pv 0) T.cls_File T.m_File_tell (ok_File_tell T) (hr.mono (by decide)) T.b_File_tell .nil pz)) (pss_cons (ps_set (i := 5) sc__law_poured.nd rfl (Or.inl rfl) (pe_meth0 (pv 1) T.cls_File T.m_File_tell (ok_File_tell T) (hr.mono (by decide)) T.b_File_tell .nil pz)) (pss_cons (ps_set (i := 6) sc__law_poured.nd rfl (Or.inl rfl) pe_non) (pss_cons (ps_tryAC rfl rfl rfl sc__law_poured.nd (fun hd => PassesOwnAt.leaving) takes_no (fun W pn xe tk own => pss_one (ps_asg (g := gTup K 2 (gCons (gName 7) (gCons (gName 6) gNil))) (pe_callNS (E := L2.WE W) (ok_pour T s hs) (hr.mono (by decide)) (by rfl) T.g_pour T.F_pour.kp T.kPour (fun σ => L2.passAt tk σ) (pa_cons (pv 0) (pa_cons (pv 1) pa_nil)) (pk_cons (pv 2) (pk_cons (pv 3) pk_nil))) (pg_tup rfl (pgs_cons (pg_name (i := 7) sc__law_poured.nd rfl (Or.inl rfl)) (pgs_cons (pg_name (i := 6) sc__law_poured.nd rfl (Or.inl rfl)) pgs_nil))))) (.as (i := 8) ⟨by rfl, by decide, .inl T.g_PourFault⟩ rfl rfl (fun a oe cls d pn xe zn hv tk => pss_cons (ps_set (i := 7) sc__law_poured.nd rfl (Or.inl rfl) (pe_xfZ T.f_PourFault T.n_PourFault_count zn hv (List.mem_cons_self ..) (pv 8))) (pss_one (ps_if (PW.pt (pw_or (pt_cmpR (r := rIn K true) op_notIn_seq (pe_xfZ T.f_PourFault T.n_PourFault_side zn hv (List.mem_cons_self ..) (pv 8)) (pe_lst (pa_cons pe_str (pa_cons pe_str pa_nil))) (by rfl)) (pw_or1 (pt_cmpR op_lt (pe_xfZ T.f_PourFault T.n_PourFault_number zn hv (List.mem_cons_self ..) (pv 8)) pe_int (nomark _))))) (pss_one (ps_ret pe_bl)) pss_nil))) .nil)) (pss_cons (ps_if (PW.pt (pw_or (pt_cmpR op_ne (pe_op op_sub (pe_meth0 (pv 0) T.cls_File T.m_File_tell (ok_File_tell T) (hr.mono (by decide)) T.b_File_tell .nil pz) (pv 4)) (pv 7) (nomark _)) (pw_or (pt_cmpR op_ne (pe_op op_sub (pe_meth0 (pv 1) T.cls_File T.m_File_tell (ok_File_tell T) (hr.mono (by decide)) T.b_File_tell .nil pz) (pv 5)) (pv 7) (nomark _)) (pw_or (pt_val (pe_meth0 (pv 0) T.cls_File T.m_File_busy (ok_File_busy T) (hr.mono (by decide)) T.b_File_busy .nil pz)) (pw_or1 (pt_val (pe_meth0 (pv 1) T.cls_File T.m_File_busy (ok_File_busy T) (hr.mono (by decide)) T.b_File_busy .nil pz))))))) (pss_one (ps_ret pe_bl)) pss_nil) (pss_cons (ps_if (PW.pt (pw_or (pt_cmpR op_notIn_seq (pv 6) (pe_lst (pa_cons pe_non (pa_cons pe_str (pa_cons pe_str (pa_cons pe_str pa_nil))))) (by rfl)) (pw_or1 (pt_cmpR op_ne (pe_cmpR op_eq (pv 6) pe_str (nomark _)) (pe_and (pe_cmpR op_notN (pv 6) pe_non (nomark _)) (pe_one (pe_cmpR op_eq (pv 7) (pv 3) (nomark _)))) (nomark _))))) (pss_one (ps_ret pe_bl)) pss_nil) (pss_one (ps_ret (pe_lst (pa_cons (pv 6) (pa_cons (pv 7) pa_nil))))))))))), ?_⟩
    refine ⟨_, rfl, _, _, _, rfl, hF, fF_no_tell, P, _, s, rfl, w, lvs hs _, _, rfl, _, _, _, rfl, hG, fF_no_tell, P, _, ds s, rfl, w, hlT, ?_⟩
    refine ⟨_, rfl, _, rfl, _, rfl, _, rfl, rfl, rfl, P, z0, room, mo, rfl, hmo, hr1, hr2, w, r0, hn, hlv, hp1, hp2, fun z wd p H3 r ho' hw k3 w3 hp => ?_, fun z sd x d H3 hsd r ho' hx k3 w3 hd => ?_⟩
    · refine ⟨p, _, rfl, .inl (.inl hp), rfl, _, _, rfl, _, _, rfl, rfl, ?_⟩
      have ho : OutO P s z0 z (some wd) := ho'
      obtain ⟨o, hoe⟩ : ∃ o, o = some wd := ⟨_, rfl⟩
      have hv : V.str wd = vO o := by rw [hoe]; rfl
      rw [← hoe] at ho
      rw [hv]
      obtain ⟨ah3, de3, mi3, hF3, hah3, hde3, hmi3⟩ := w3.file s
      obtain ⟨ahT3, deT3, miT3, hG3, hahT3, hdeT3, hmiT3⟩ := w3.file (ds s)
      have hcl := r.cle
      have hc1 := r.ceq
      have hc0 := r0.ceq
      have hlT3 : lvI z.lv (ds s) = true := by rw [r.lv]; exact hlT
      have hpo1 : z.po s = false := by rw [r.po]; exact hp1
      have hpo2 : z.po (ds s) = false := by rw [r.po]; exact hp2
      refine ⟨_, rfl, _, _, _, rfl, hF3, fF_no_tell, P, _, s, rfl, w3, lvs hs _, _, rfl, _, _, rfl, rfl, _, rfl, rfl, _, rfl, ifF (ndF (by
        show V.int (((z.c s : Nat) : Int) - ((z0.c s : Nat) : Int)) = V.int ((z.c s - z0.c s : Nat) : Int)
        congr 1
        omega)) ?_⟩
      refine ⟨_, rfl, _, _, _, rfl, hG3, fF_no_tell, P, _, ds s, rfl, w3, hlT3, _, rfl, _, _, rfl, rfl, _, rfl, rfl, _, rfl, ifF (ndF (by
        show V.int (((z.c (ds s) : Nat) : Int) - ((z0.c (ds s) : Nat) : Int)) = V.int ((z.c s - z0.c s : Nat) : Int)
        congr 1
        omega)) ?_⟩
      refine ⟨_, rfl, _, _, _, rfl, hF3, fF_no_busy, P, _, s, rfl, w3, _, rfl, ifF hpo1 ⟨_, rfl, _, _, _, rfl, hG3, fF_no_busy, P, _, ds s, rfl, w3, _, rfl, ifF hpo2 ?_⟩⟩
      refine ⟨_, rfl, sz1 (by simp), fun p1 hp1' => ?_⟩
      refine ⟨p1, _, rfl, .inl (.inl (.inl upd_same)), (outIn ho).2, rfl, _, rfl, ifF (by
        show (!inV (vO o) [V.non, .str "most", .str "end", .str "stalled"]) = false
        rw [show inV (vO o) [V.non, .str "most", .str "end", .str "stalled"] = true from (outIn ho).1]
        rfl) ?_⟩
      subst hoe
      refine ⟨_, rfl, rfl, _, rfl, rfl, _, rfl, ifT rfl ⟨_, rfl, _, rfl, ?_, ?_⟩⟩
      · rcases hmo with rfl | ⟨n, rfl⟩ <;> rfl
      · refine ⟨rfl, _, rfl, ifF (ndF (congrArg V.bl (decide_eq_decide.mpr ⟨fun e => ?_, fun e => ?_⟩))) ?_⟩
        · have e' : V.str wd = V.str "most" := e
          injection e' with e'
          exact (hw.mp e').symm
        · have e' := hw.mpr e.symm
          show V.str wd = V.str "most"
          rw [e']
        · refine ⟨_, rfl, _, rfl, sz1 (by simp), fun p2 hp2' => ?_⟩
          exact q z (some wd) p2 _ r ho (fun e z => by injection e with e; have := hw.mp e; rw [z] at this; cases this) ((k3.trans (Ex.new hp1').keep).trans (Ex.new hp2').keep) ((w3.new hp1').new hp2') upd_same ((w3.new hp1').fresh hp2')
    · refine ⟨true, T.x_PourFault_PourFault, fun _ a na => ?_, fun q => Bool.noConfusion q⟩
      refine ⟨_, rfl, rfl, rfl, d, _, _, rfl, hd, lk_pc, ?_⟩
      refine ⟨_, rfl, rfl, rfl, d, _, _, rfl, hd, lk_ps, sz1 (by simp), fun q1 hq1 => ?_⟩
      have hd1 := Ex.new (o := .lst [.str "source", .str "target"]) hq1 _ _ hd
      refine ⟨q1, _, rfl, .inl (.inl (.inl upd_same)), rfl, rfl, _, rfl, ifF (by rcases hsd with rfl | rfl <;> kernel_rfl) ⟨_, rfl, rfl, rfl, d, _, _, rfl, hd1, lk_pn, _, _, rfl, rfl, _, rfl, ifF (decide_eq_false (by omega)) ?_⟩⟩
      have ho : OutO P s z0 z none := ho'
      have w3' := w3.new (o := .lst [.str "source", .str "target"]) hq1
      have k3' := k3.trans (Ex.new (o := .lst [.str "source", .str "target"]) hq1).keep
      clear w3 k3
      have w3 := w3'
      have k3 := k3'
      obtain ⟨ah3, de3, mi3, hF3, hah3, hde3, hmi3⟩ := w3.file s
      obtain ⟨ahT3, deT3, miT3, hG3, hahT3, hdeT3, hmiT3⟩ := w3.file (ds s)
      have hcl := r.cle
      have hc1 := r.ceq
      have hc0 := r0.ceq
      have hlT3 : lvI z.lv (ds s) = true := by rw [r.lv]; exact hlT
      have hpo1 : z.po s = false := by rw [r.po]; exact hp1
      have hpo2 : z.po (ds s) = false := by rw [r.po]; exact hp2
      refine ⟨_, rfl, _, _, _, rfl, hF3, fF_no_tell, P, _, s, rfl, w3, lvs hs _, _, rfl, _, _, rfl, rfl, _, rfl, rfl, _, rfl, ifF (ndF (by
        show V.int (((z.c s : Nat) : Int) - ((z0.c s : Nat) : Int)) = V.int ((z.c s - z0.c s : Nat) : Int)
        congr 1
        omega)) ?_⟩
      refine ⟨_, rfl, _, _, _, rfl, hG3, fF_no_tell, P, _, ds s, rfl, w3, hlT3, _, rfl, _, _, rfl, rfl, _, rfl, rfl, _, rfl, ifF (ndF (by
        show V.int (((z.c (ds s) : Nat) : Int) - ((z0.c (ds s) : Nat) : Int)) = V.int ((z.c s - z0.c s : Nat) : Int)
        congr 1
        omega)) ?_⟩
      refine ⟨_, rfl, _, _, _, rfl, hF3, fF_no_busy, P, _, s, rfl, w3, _, rfl, ifF hpo1 ⟨_, rfl, _, _, _, rfl, hG3, fF_no_busy, P, _, ds s, rfl, w3, _, rfl, ifF hpo2 ?_⟩⟩
      refine ⟨_, rfl, sz1 (by simp), fun p1 hp1' => ?_⟩
      refine ⟨p1, _, rfl, .inl (.inl (.inl upd_same)), (outIn ho).2, rfl, _, rfl, ifF (by
        show (!inV (V.non) [V.non, .str "most", .str "end", .str "stalled"]) = false
        rw [show inV (V.non) [V.non, .str "most", .str "end", .str "stalled"] = true from (outIn ho).1]
        rfl) ?_⟩
      refine ⟨_, rfl, rfl, _, rfl, rfl, _, rfl, ifF rfl ⟨rfl, _, rfl, ifF (ndF rfl) ?_⟩⟩
      refine ⟨_, rfl, _, rfl, sz1 (by simp), fun p2 hp2' => ?_⟩
      exact q z none p2 _ r ho (fun e => by cases e) ((k3.trans (Ex.new hp1').keep).trans (Ex.new hp2').keep) ((w3.new hp1').new hp2') upd_same ((w3.new hp1').fresh hp2')
theorem ok__law_flushed (T : Txt K mg) (i : Ix) (hi : isT i = true) : FnOk prog w K mg base CXz 7 (He.fAd K d__law_flushed.at_) (fdO K d__law_flushed) ["_law_file"] (spLFlushed K i) :=
  T.F__law_flushed.ok sc__law_flushed (fun vs H Q E h => by obtain ⟨_, _, rfl, _⟩ := h; rfl) fun cdv A outer st H vs Q E hr h => by
    obtain ⟨P, z, rfl, w, tg, q1, q0⟩ := h
    obtain ⟨ah, de, mi, hF, hah, hde, hmi⟩ := w.file i
    refine ⟨_, (pss_cons (ps_set (i := 1) sc__law_flushed.nd rfl (Or.inl rfl) pe_non) (pss_cons (ps_tryAC rfl rfl rfl sc__law_flushed.nd (fun hd => PassesOwnAt.leaving) takes_no (fun W pn xe tk own => pss_one (ps_expr (pe_methD0 (E := L2.WE W) (pv 0) T.cls_File T.m_File_flush (ok_File_flush T i hi) (hr.mono (by decide)) T.b_File_flush .nil (fun σ => passAtN tk σ) rfl))) (.as (i := 2) ⟨by rfl, by decide, .inl T.g_Stalled⟩ rfl rfl (fun a oe cls d pn xe zn hv tk => pss_one (ps_set (i := 1) sc__law_flushed.nd rfl (Or.inl rfl) (pe_xfZ T.f_Stalled T.n_Stalled_taken zn hv (List.mem_cons_self ..) (pv 2)))) (.as (i := 2) ⟨by rfl, by decide, .inl T.g_Fault⟩ rfl rfl (fun a oe cls d pn xe zn hv tk => pss_one (ps_set (i := 1) sc__law_flushed.nd rfl (Or.inl rfl) (pe_xfZ T.f_Fault T.n_Fault_taken zn hv (List.mem_cons_self ..) (pv 2)))) .nil))) (pss_cons (ps_if (pt_cmpR op_isN (pv 1) pe_non (nomark _)) (pss_one (ps_ret (pe_op op_add pe_int (pe_callTy call_int1 (by rfl) T.n_int (by decide +kernel) (pa_cons (pe_cmpR (op_neD hr.units) (pe_meth0 (pv 0) T.cls_File T.m_File_waiting (ok_File_waiting T) (hr.mono (by decide)) T.b_File_waiting .nil pz) (pe_lst pa_nil) (nomark _)) pa_nil))))) pss_nil) (pss_one (ps_ret (pe_op op_mul pe_int (pe_callTy call_int1 (by rfl) T.n_int (by decide +kernel) (pa_cons (pe_cmpR op_ne (pv 1) pe_int (nomark _)) pa_nil)))))))), ?_⟩
    refine ⟨_, rfl, _, _, _, rfl, hF, fF_no_flush, P, z, rfl, w, tg, fun ns H1 a b c k w1 => ?_, fun m ns H1 d sto k w1 hd => ?_, fun m ns H1 d x et sto hx k w1 hd => ?_⟩
    · obtain ⟨ah1, de1, mi1, hF1, hah1, hde1, hmi1⟩ := w1.file i
      have tlv : ((toWS P (z.mv i (z.c i) ns)).f i).lv = true := (show lvI z.lv i = true from tg_lv tg)
      refine ⟨_, rfl, rfl, _, rfl, ifT rfl ?_⟩
      refine ⟨_, rfl, _, _, _, rfl, hF1, fF_no_waiting, P, _, i, rfl, w1, tlv, fun l H2 e2 hl2 => ⟨sz1 (by simp), fun p hp => ?_⟩⟩
      have hl3 : Lst P (upd H2 p (.lst [])) l [] := by
        have := hl2.keep (Ex.new (o := .lst []) hp).keep
        rw [show ((toWS P (z.mv i (z.c i) ns)).f i).de = [] from (by
          show seg P.row (up z.lo i (z.c i) i) (z.c i) = []
          rw [up_same, seg_self])] at this
        exact this
      refine ⟨.list [], .list [], .lst (xs := []) hl3.sq .nil, .lst (xs := []) (.inl (.inl upd_same)) .nil, rfl, rfl, .inr ⟨_, rfl, _, _, rfl, rfl, ?_⟩⟩
      exact q1 ns _ a b c ((k.trans e2.keep).trans (Ex.new hp).keep) ((w1.ex e2).new hp)
    · refine ⟨true, T.x_Stalled_Stalled, fun _ a na => ?_, fun q => Bool.noConfusion q⟩
      refine ⟨_, rfl, rfl, rfl, d, _, _, rfl, hd, lk_t, ?_⟩
      refine ⟨_, rfl, rfl, _, rfl, ifF rfl ?_⟩
      exact ⟨_, rfl, rfl, .inr ⟨_, rfl, _, _, rfl, rfl, .inl ⟨by decide, by decide⟩, q0 m ns H1 sto k w1⟩⟩
    · refine ⟨false, T.x_Fault_Stalled, (fun q => Bool.noConfusion q), fun _ => ⟨true, T.x_Fault_Fault, fun _ a na => ?_, fun q => Bool.noConfusion q⟩⟩
      refine ⟨_, rfl, rfl, rfl, d, _, _, rfl, hd, lk_tt, ?_⟩
      refine ⟨_, rfl, rfl, _, rfl, ifF rfl ?_⟩
      exact ⟨_, rfl, rfl, .inr ⟨_, rfl, _, _, rfl, rfl, .inl ⟨by decide, by decide⟩, q0 m ns H1 sto k w1⟩⟩
end
end Sip

set_option Elab.async false
set_option linter.all false
set_option maxRecDepth 100000
set_option maxHeartbeats 4000000
noncomputable section
namespace Sip
open PySem PySem.Spec PyProof.Rows L2 SipX L2H HotX
/-! ### the law's dict -/
def mD (P : Pm) (rl : Addr) : List (Key × V) := [(Sum.inr "row", .ref rl), (Sum.inr "there", .ref (P.A (.r .to))), (Sum.inr "pipe", .ref (P.A .p)), (Sum.inr "from", .ref (P.A (.f .fr))), (Sum.inr "in", .ref (P.A (.f .wi))), (Sum.inr "out", .ref (P.A (.f .ro))), (Sum.inr "into", .ref (P.A (.f .to)))]
structure Mm (P : Pm) (H : Hp) (dm rl : Addr) : Prop where
  d : H dm = some (.dK (mD P rl))
  n : ∀ s, dm ≠ P.A s
  l : Lst P H rl P.row
theorem Mm.keep {P : Pm} {H H' : Hp} {dm rl : Addr} (h : Mm P H dm rl) (k : Keep P H H') : Mm P H' dm rl := ⟨k _ _ h.n h.d, h.n, h.l.keep k⟩
theorem vrow {P : Pm} {rl : Addr} : valV (mD P rl) (Sum.inr "row") = some (.ref rl) := by kernel_rfl
theorem vthere {P : Pm} {rl : Addr} : valV (mD P rl) (Sum.inr "there") = some (.ref (P.A (.r .to))) := by kernel_rfl
theorem vpipe {P : Pm} {rl : Addr} : valV (mD P rl) (Sum.inr "pipe") = some (.ref (P.A .p)) := by kernel_rfl
theorem vfrom {P : Pm} {rl : Addr} : valV (mD P rl) (Sum.inr "from") = some (.ref (P.A (.f .fr))) := by kernel_rfl
theorem vin {P : Pm} {rl : Addr} : valV (mD P rl) (Sum.inr "in") = some (.ref (P.A (.f .wi))) := by kernel_rfl
theorem vout {P : Pm} {rl : Addr} : valV (mD P rl) (Sum.inr "out") = some (.ref (P.A (.f .ro))) := by kernel_rfl
theorem vinto {P : Pm} {rl : Addr} : valV (mD P rl) (Sum.inr "into") = some (.ref (P.A (.f .to))) := by kernel_rfl
section
variable {P : Pm} {H : Hp} {dm rl : Addr}
theorem Mm.row (h : Mm P H dm rl) : DGet H dm (.str "row") (some (.ref rl)) := vrow ▸ DGet.k (k := Sum.inr "row") h.d
theorem Mm.there (h : Mm P H dm rl) : DGet H dm (.str "there") (some (.ref (P.A (.r .to)))) := vthere ▸ DGet.k (k := Sum.inr "there") h.d
theorem Mm.pipe (h : Mm P H dm rl) : DGet H dm (.str "pipe") (some (.ref (P.A .p))) := vpipe ▸ DGet.k (k := Sum.inr "pipe") h.d
theorem Mm.frm (h : Mm P H dm rl) : DGet H dm (.str "from") (some (.ref (P.A (.f .fr)))) := vfrom ▸ DGet.k (k := Sum.inr "from") h.d
theorem Mm.inn (h : Mm P H dm rl) : DGet H dm (.str "in") (some (.ref (P.A (.f .wi)))) := vin ▸ DGet.k (k := Sum.inr "in") h.d
theorem Mm.out (h : Mm P H dm rl) : DGet H dm (.str "out") (some (.ref (P.A (.f .ro)))) := vout ▸ DGet.k (k := Sum.inr "out") h.d
theorem Mm.into (h : Mm P H dm rl) : DGet H dm (.str "into") (some (.ref (P.A (.f .to)))) := vinto ▸ DGet.k (k := Sum.inr "into") h.d
end
def spStands (K : PySem.W.Frag) : Sp := fun vs H Q _ => ∃ (P : Pm) (z : Z) (dm rl : Addr), vs = [.ref dm] ∧ W P K H (toWS P z) ∧ Mm P H dm rl ∧ ZI P z ∧ z.c .fr = z.c .wi ∧ z.c .ro = z.c .to ∧ (∀ i, (z.n i).length ≤ 5000000) ∧ (z.lv = false → z.lo .wi = z.c .wi) ∧ ∀ H', Ex H H' → Q (.bl true) H'
theorem eqv_ints (xs : List Int) : PyData.eqv (.list (xs.map PyData.int)) (.list (xs.map PyData.int)) = true := SeqAt.eqv_refl _ (SeqAt.canLay_of_shaped (PySem.W.ke_shaped_ints xs))
section
variable {prog : Program} {w : World} {base : Heap} {K : PySem.W.Frag} {mg : Str → Option Value}
theorem ok__law_stands (T : Txt K mg) : FnOk prog w K mg base CXz 3 (He.fAd K d__law_stands.at_) (fdO K d__law_stands) ["_law_m"] (spStands K) :=
  T.F__law_stands.ok sc__law_stands (fun vs H Q E h => by obtain ⟨_, _, _, _, rfl, _⟩ := h; rfl) fun cdv A outer st H vs Q E hr h => by
    obtain ⟨P, z, dm, rl, rfl, w, M, zi, hc1, hc2, hn, hlv, q⟩ := h
    have hN := P.hN
    have s0 := zi.src .fr rfl
    have s1 := zi.src .ro rfl
    have s2 := zi.tgt .wi rfl
    have s3 := zi.tgt .to rfl
    have s4 := zi.pip
    obtain ⟨ah, de, mi, hF, hah, hde, hmi⟩ := w.file .fr
    refine ⟨_, (pss_cons (ps_set (i := 1) sc__law_stands.nd rfl (Or.inl rfl) (pe_slice sl_list (pe_dget (hu_of hr) (pv 0) pe_str (fun _ _ => rfl)) po_none (po_some (pe_meth0 (pe_dget (hu_of hr) (pv 0) pe_str (fun _ _ => rfl)) T.cls_File T.m_File_tell (ok_File_tell T) (hr.mono (by decide)) T.b_File_tell .nil pz)))) (pss_cons (ps_set (i := 2) sc__law_stands.nd rfl (Or.inl rfl) (pe_lst pa_nil)) (pss_cons (ps_for PassesOwn.leaving rfl (pi_list (pe_meth0 (pe_meth0 (pe_dget (hu_of hr) (pv 0) pe_str (fun _ _ => rfl)) T.cls_Pipe T.m_Pipe_out (ok_Pipe_out T) (hr.mono (by decide)) T.b_Pipe_out .nil pz) T.cls_Drain T.m_Drain_log (ok_Raw_log T) (hr.mono (by decide)) T.b_Raw_log .nil pz)) (pg_tup rfl (pgs_cons (pg_name (i := 3) sc__law_stands.nd rfl (Or.inl rfl)) (pgs_cons (pg_name (i := 4) sc__law_stands.nd rfl (Or.inl rfl)) (pgs_cons (pg_name (i := 5) sc__law_stands.nd rfl (Or.inl rfl)) (pgs_cons (pg_name (i := 6) sc__law_stands.nd rfl (Or.inl rfl)) pgs_nil))))) (pss_one (ps_if (pt_val (pe_callB call_isi (by rfl) T.n_isinstance (by decide +kernel) (pa_cons (pv 6) (pa_cons (pe_bltn (v := .ty "list") (by rfl) T.n_list (by decide +kernel) rfl) pa_nil)))) (pss_one (ps_set (i := 2) sc__law_stands.nd rfl (Or.inl rfl) (pe_op op_cat (pv 2) (pv 6)))) pss_nil))) (pss_cons (ps_set (i := 7) sc__law_stands.nd rfl (Or.inl rfl) (pe_meth0 (pe_dget (hu_of hr) (pv 0) pe_str (fun _ _ => rfl)) T.cls_Device T.m_Device_content (ok_Device_content T) (hr.mono (by decide)) T.b_Device_content .nil pz)) (pss_cons (ps_set (i := 8) sc__law_stands.nd rfl (Or.inl rfl) (pe_meth0 (pe_dget (hu_of hr) (pv 0) pe_str (fun _ _ => rfl)) T.cls_File T.m_File_waiting (ok_File_waiting T) (hr.mono (by decide)) T.b_File_waiting .nil pz)) (pss_cons (ps_set (i := 4) sc__law_stands.nd rfl (Or.inl rfl) (pe_meth0 (pe_dget (hu_of hr) (pv 0) pe_str (fun _ _ => rfl)) T.cls_File T.m_File_tell (ok_File_tell T) (hr.mono (by decide)) T.b_File_tell .nil pz)) (pss_cons (ps_set (i := 7) sc__law_stands.nd rfl (Or.inl rfl) (pe_slice sl_list (pe_call (ok__law_laid T) (hr.mono (by decide)) (by rfl) T.g__law_laid T.F__law_laid.kp T.b__law_laid .nil pz (pa_cons (pv 7) (pa_cons (pe_op op_sub (pv 4) (pe_callB call_len_seq (by rfl) T.n_len PySem.boot_len (pa_cons (pv 8) pa_nil))) (pa_cons (pv 8) pa_nil)))) po_none (po_some (pv 4)))) (pss_cons (ps_set (i := 9) sc__law_stands.nd rfl (Or.inl rfl) (pe_op op_cat (pe_slice sl_list (pv 2) (po_some (pe_meth0 (pe_dget (hu_of hr) (pv 0) pe_str (fun _ _ => rfl)) T.cls_File T.m_File_tell (ok_File_tell T) (hr.mono (by decide)) T.b_File_tell .nil pz)) po_none) (pe_meth0 (pe_dget (hu_of hr) (pv 0) pe_str (fun _ _ => rfl)) T.cls_Pipe T.m_Pipe_held (ok_Pipe_held T) (hr.mono (by decide)) T.b_Pipe_held .nil pz))) (pss_cons (ps_if (pt_not (pt_val (pe_meth0 (pe_dget (hu_of hr) (pv 0) pe_str (fun _ _ => rfl)) T.cls_File T.m_File_closed (ok_File_closed T) (hr.mono (by decide)) T.b_File_closed .nil pz))) (pss_one (ps_set (i := 9) sc__law_stands.nd rfl (Or.inl rfl) (pe_op op_cat (pv 9) (pe_meth0 (pe_dget (hu_of hr) (pv 0) pe_str (fun _ _ => rfl)) T.cls_File T.m_File_waiting (ok_File_waiting T) (hr.mono (by decide)) T.b_File_waiting .nil pz)))) pss_nil) (pss_one (ps_ret (pe_cmpR (op_eqD hr.units) (pv 1) (pe_op op_cat (pv 7) (pv 9)) (nomark _))))))))))))), ?_⟩
    refine ⟨_, rfl, dm, _, rfl, M.row, _, rfl, dm, _, rfl, M.frm, _, _, _, rfl, hF, fF_no_tell, P, _, .fr, rfl, w, rfl, _, rfl, rl, _, rfl, M.l.sq, fun p1 hp1 => ?_⟩
    have eA : cutV (P.row.map V.int) none (some ((toWS P z).f .fr).cu) = (P.row.take (z.c .fr)).map V.int := cut_to _ _
    rw [eA]
    have ae : Ex H (upd H p1 (.lst ((P.row.take (z.c .fr)).map V.int))) := Ex.new hp1
    have al : Lst P (upd H p1 (.lst ((P.row.take (z.c .fr)).map V.int))) p1 (P.row.take (z.c .fr)) := lst_new w hp1
    revert ae al
    generalize upd H p1 (.lst ((P.row.take (z.c .fr)).map V.int)) = H1
    intro ae al
    have w1 := w.ex ae
    have M1 := M.keep ae.keep
    refine ⟨sz1 (by simp), fun p2 hp2 => ?_⟩
    have be0 : Ex H1 (upd H1 p2 (.lst [])) := Ex.new hp2
    have bl : Lst P (upd H1 p2 (.lst [])) p2 [] := lst_newE w1 (ys := []) hp2 rfl
    revert be0 bl
    generalize upd H1 p2 (.lst []) = H2
    intro be0 bl
    have w2 := w1.ex be0
    have M2 := M1.keep be0.keep
    have al2 := al.keep be0.keep
    obtain ⟨ia2, hP2, hia2⟩ := w2.pipe
    have hL2 := w2.end_ (i := .ro) rfl
    refine ⟨_, rfl, dm, _, rfl, M2.pipe, _, _, _, rfl, hP2, pF_no_out, P.A .p, P.A .p, _, _, _, _, _, rfl, hP2, _, _, _, rfl, hL2, eF_no_log, P, _, rfl, w2, Nat.le_trans (hn .ro) (by decide), fun D H3 ys ce hDt hD hpair => ?_⟩
    have w3 := w2.ex ce
    have M3 := M2.keep ce.keep
    have al3 := al2.keep ce.keep
    have bl3 := bl.keep ce.keep
    have hcat : ∀ i, (cat ((z.n .ro).take i)).length ≤ 40 := fun i => by
      have h1 : cat (z.n .ro) = cat ((z.n .ro).take i) ++ cat ((z.n .ro).drop i) := by rw [← cat_app, List.take_append_drop]
      have h2 : (cat (z.n .ro)).length = z.sp .ro := by rw [zi.log, seg_len (by omega)]; rfl
      rw [h1, List.length_append] at h2
      omega
    refine ⟨D, rfl, ⟨ys, .inl (.inl hD)⟩, for_list (K := K) (xs := ys) (fun i σ H' => ∃ tk c3 c4 c5 c6, σ = [some (.ref dm), some (.ref p1), some (.ref tk), c3, c4, c5, c6, none, none, none] ∧ Ex H3 H' ∧ Lst P H' tk (cat ((z.n .ro).take i)))
      ⟨p2, none, none, none, none, rfl, fun _ _ e => e, bl3⟩ (fun i σ H' _ hP => ?_) (fun i x σ H' hx hP => ?_) (fun σ H' hP => ?_)⟩
    · obtain ⟨tk, c3, c4, c5, c6, rfl, e3, hl⟩ := hP
      exact .inl (.inl (e3 _ _ hD))
    · obtain ⟨tk, c3, c4, c5, c6, rfl, e3, hl⟩ := hP
      obtain ⟨o, ho, t, a, b, c, d, rfl, ht, htn, ⟨oc, htc⟩, htd⟩ := paired_get hpair hx
      have ho' : (z.n .ro)[i]? = some o := ho
      have ht' := e3 _ _ ht
      refine ⟨t, _, rfl, .inl (.inl ht'), rfl, _, _, rfl, _, _, rfl, _, _, rfl, _, _, rfl, rfl, ?_⟩
      have hnx : (z.n .ro).take (i + 1) = (z.n .ro).take i ++ [o] := by rw [List.take_add_one, ho']; rfl
      rcases htd.keep e3.keep with ⟨qd, ld, rfl, rfl, hld⟩ | ⟨rfl, ⟨n, rfl⟩ | ⟨x, rfl⟩⟩
      · refine ⟨_, rfl, _, _, _, _, true, rfl, .ty "list", .base (.lst hld.1), kit_ty (by decide +kernel), true, rfl, ifT rfl ?_⟩
        have h40 := hcat (i + 1)
        rw [hnx, cat_app, show cat [some ld] = ld from List.append_nil _] at h40
        refine ⟨_, rfl, _, rfl, _, _, _, _, rfl, rfl, hl.1, hld.1, sz1 (by rw [map_len, map_len, ← List.length_append]; omega), fun p hp => ?_⟩
        rw [cat_map]
        refine ⟨p, _, _, _, _, rfl, fun _ _ e => Ex.new hp _ _ (e3 _ _ e), ?_⟩
        rw [hnx, cat_app, show cat [some ld] = ld from List.append_nil _]
        exact lst_new (w3.ex e3) hp
      · refine ⟨_, rfl, _, _, _, _, false, rfl, .ty "list", .base (.int n), kit_ty (by decide +kernel), false, rfl, ifF rfl ?_⟩
        refine ⟨tk, _, _, _, _, rfl, e3, ?_⟩
        rw [hnx, cat_app, show cat [none] = [] from rfl, List.append_nil]
        exact hl
      · refine ⟨_, rfl, _, _, _, _, false, rfl, .ty "list", .base (.str x), kit_ty (by decide +kernel), false, rfl, ifF rfl ?_⟩
        refine ⟨tk, _, _, _, _, rfl, e3, ?_⟩
        rw [hnx, cat_app, show cat [none] = [] from rfl, List.append_nil]
        exact hl
    · obtain ⟨tk, c3, c4, c5, c6, rfl, de, hl⟩ := hP
      have hyl : ys.length = (z.n .ro).length := hpair.length
      rw [hyl, List.take_length, zi.log] at hl
      have w4 := w3.ex de
      have M4 := M3.keep de.keep
      have al4 := al3.keep de.keep
      obtain ⟨sa4, hD4, hst4, hpl4⟩ := w4.dev (i := .to) rfl
      refine ⟨_, rfl, dm, _, rfl, M4.there, _, _, _, rfl, hD4, dF_no_content, P, _, .to, rfl, rfl, w4, fun p5 H5 ee np5 cl => ?_⟩
      have w5 := w4.ex ee
      have M5 := M4.keep ee.keep
      have al5 := al4.keep ee.keep
      have hl5 := hl.keep ee.keep
      have cl5 : Lst P H5 p5 (stk P (z.sp .to) .to) := cl
      obtain ⟨ah5, de5, mi5, hF5, hah5, hde5, hmi5⟩ := w5.file .to
      refine ⟨_, rfl, dm, _, rfl, M5.into, _, _, _, rfl, hF5, fF_no_waiting, P, _, .to, rfl, w5, rfl, fun p6 H6 fe dl => ?_⟩
      have w6 := w5.ex fe
      have M6 := M5.keep fe.keep
      have al6 := al5.keep fe.keep
      have hl6 := hl5.keep fe.keep
      have cl6 := cl5.keep fe.keep
      have dl6 : Lst P H6 p6 (seg P.row (z.lo .to) (z.c .to)) := dl
      obtain ⟨ah6, de6, mi6, hF6, hah6, hde6, hmi6⟩ := w6.file .to
      refine ⟨_, rfl, dm, _, rfl, M6.into, _, _, _, rfl, hF6, fF_no_tell, P, _, .to, rfl, w6, rfl, ?_⟩
      have dlen : ((seg P.row (z.lo .to) (z.c .to)).map V.int).length = z.c .to - z.lo .to := by rw [map_len, seg_len (by omega)]
      have slen : z.sp .to ≤ (stk P (z.sp .to) .to).length := by
        show z.sp .to ≤ (P.row.take (z.sp .to) ++ P.beh.drop (z.sp .to)).length
        rw [List.length_append, List.length_take]
        omega
      have s60 := stk_len (P := P) (k := z.sp .to) (i := .to)
      refine ⟨_, rfl, _, rfl, _, rfl, _, _, rfl, .inl dl6.sq, _, _, rfl, rfl, _, rfl, p5, p6, z.sp .to, _, _, ?_, cl6.1, dl6.1, slen, by omega, by rw [← map_len, dlen]; omega, fun p7 H7 ge np7 el => ?_⟩
      · show [V.ref p5, V.int (((z.c .to : Nat) : Int) - (((seg P.row (z.lo .to) (z.c .to)).map V.int).length : Int)), V.ref p6] = _
        rw [dlen, show ((z.c .to : Nat) : Int) - ((z.c .to - z.lo .to : Nat) : Int) = ((z.sp .to : Nat) : Int) by omega]
      have w7 := w6.ex ge
      have M7 := M6.keep ge.keep
      have al7 := al6.keep ge.keep
      have hl7 := hl6.keep ge.keep
      have el7 : Lst P H7 p7 _ := ⟨el, w6.fresh np7⟩
      have e7 : (stk P (z.sp .to) .to).take (z.sp .to) ++ seg P.row (z.lo .to) (z.c .to) ++ (stk P (z.sp .to) .to).drop (z.sp .to + (seg P.row (z.lo .to) (z.c .to)).length) = stk P (z.c .to) .to := by
        rw [← s3.2.1]
        exact stk_put (by omega) (by omega)
      rw [e7] at el7
      refine ⟨_, rfl, _, rfl, p7, _, rfl, el7.sq, fun p8 hp8 => ?_⟩
      have eB : cutV ((stk P (z.c .to) .to).map V.int) none (some ((toWS P z).f .to).cu) = (seg P.row 0 (z.c .to)).map V.int := by
        refine (cut_to _ _).trans ?_
        congr 1
        show (P.row.take (z.c .to) ++ P.beh.drop (z.c .to)).take (z.c .to) = _
        have hk : (P.row.take (z.c .to)).length = z.c .to := by rw [List.length_take]; omega
        rw [List.take_append_of_le_length (by omega), List.take_of_length_le (by omega), seg_zero]
      rw [eB]
      have be : Ex H7 (upd H7 p8 (.lst ((seg P.row 0 (z.c .to)).map V.int))) := Ex.new hp8
      have bl : Lst P (upd H7 p8 (.lst ((seg P.row 0 (z.c .to)).map V.int))) p8 (seg P.row 0 (z.c .to)) := lst_new w7 hp8
      revert be bl
      generalize upd H7 p8 (.lst ((seg P.row 0 (z.c .to)).map V.int)) = H8
      intro be bl
      have w8 := w7.ex be
      have M8 := M7.keep be.keep
      have al8 := al7.keep be.keep
      have hl8 := hl7.keep be.keep
      obtain ⟨ah8, de8, mi8, hF8, hah8, hde8, hmi8⟩ := w8.file .ro
      refine ⟨_, rfl, _, rfl, dm, _, rfl, M8.out, _, _, _, rfl, hF8, fF_no_tell, P, _, .ro, rfl, w8, rfl, _, rfl, tk, _, rfl, hl8.sq, fun p9 hp9 => ?_⟩
      have eC : cutV ((seg P.row 0 (z.sp .ro)).map V.int) (some ((toWS P z).f .ro).cu) none = (seg P.row (z.c .ro) (z.sp .ro)).map V.int := by
        refine (cut_from _ _).trans ?_
        rw [seg_drop, Nat.zero_add]
      rw [eC]
      have he : Ex H8 (upd H8 p9 (.lst ((seg P.row (z.c .ro) (z.sp .ro)).map V.int))) := Ex.new hp9
      have hl : Lst P (upd H8 p9 (.lst ((seg P.row (z.c .ro) (z.sp .ro)).map V.int))) p9 (seg P.row (z.c .ro) (z.sp .ro)) := lst_new w8 hp9
      revert he hl
      generalize upd H8 p9 (.lst ((seg P.row (z.c .ro) (z.sp .ro)).map V.int)) = H9
      intro he hl
      have w9 := w8.ex he
      have M9 := M8.keep he.keep
      have al9 := al8.keep he.keep
      have bl9 := bl.keep he.keep
      obtain ⟨ia9, hP9, hia9⟩ := w9.pipe
      refine ⟨_, rfl, dm, _, rfl, M9.pipe, _, _, _, rfl, hP9, pF_no_held, P, _, rfl, w9, rfl, fun pA HA ie npA il => ?_⟩
      have il' : Lst P HA pA (seg P.row (z.sp .ro) (z.sp .wi)) := il
      have wA := w9.ex ie
      have MA := M9.keep ie.keep
      have alA := al9.keep ie.keep
      have blA := bl9.keep ie.keep
      have hlA := hl.keep ie.keep
      refine ⟨_, _, _, _, rfl, rfl, hlA.1, il'.1, sz1 (by rw [map_len, map_len, seg_len (by omega), seg_len (by omega)]; omega), fun pB hpB => ?_⟩
      rw [cat_map, seg_app (by omega) (by omega) (by omega)]
      have je : Ex HA (upd HA pB (.lst ((seg P.row (z.c .ro) (z.sp .wi)).map V.int))) := Ex.new hpB
      have jl : Lst P (upd HA pB (.lst ((seg P.row (z.c .ro) (z.sp .wi)).map V.int))) pB (seg P.row (z.c .ro) (z.sp .wi)) := lst_new wA hpB
      revert je jl
      generalize upd HA pB (.lst ((seg P.row (z.c .ro) (z.sp .wi)).map V.int)) = HB
      intro je jl
      have wB := wA.ex je
      have MB := MA.keep je.keep
      have alB := alA.keep je.keep
      have blB := blA.keep je.keep
      obtain ⟨ahB, deB, miB, hFB, hahB, hdeB, hmiB⟩ := wB.file .wi
      have exB : Ex H HB := fun _ _ e => je _ _ (ie _ _ (he _ _ (be _ _ (ge _ _ (fe _ _ (ee _ _ (de _ _ (ce _ _ (be0 _ _ (ae _ _ e))))))))))
      have fin : ∀ pw HC, Ex HB HC → Lst P HC pw (seg P.row (z.c .ro) (z.c .wi)) → ∀ pz, HC pz = none → Dp K (upd HC pz (.lst ((seg P.row 0 (z.c .to) ++ seg P.row (z.c .ro) (z.c .wi)).map V.int))) (.ref p1) (.list ((P.row.take (z.c .fr)).map PyData.int)) ∧ Dp K (upd HC pz (.lst ((seg P.row 0 (z.c .to) ++ seg P.row (z.c .ro) (z.c .wi)).map V.int))) (.ref pz) (.list ((P.row.take (z.c .fr)).map PyData.int)) := fun pw HC e hl pz hpz => by
        have wC := wB.ex e
        refine ⟨dpL ((alB.keep e.keep).keep (Ex.new hpz).keep), ?_⟩
        have := lst_new (xs := seg P.row 0 (z.c .to) ++ seg P.row (z.c .ro) (z.c .wi)) wC hpz
        have e2 : seg P.row 0 (z.c .to) ++ seg P.row (z.c .ro) (z.c .wi) = P.row.take (z.c .fr) := by
          rw [hc2, seg_app (Nat.zero_le _) (by omega) (by omega), seg_zero, hc1]
        have := dpL (K := K) this
        rw [e2] at this ⊢
        exact this
      refine ⟨_, rfl, dm, _, rfl, MB.inn, _, _, _, rfl, hFB, fF_no_closed, P, _, .wi, rfl, wB, _, rfl, ?_⟩
      cases hz : z.lv with
      | true =>
        refine ifT (by show (!(!z.lv)) = true; rw [hz]; rfl) ?_
        refine ⟨_, rfl, _, rfl, dm, _, rfl, MB.inn, _, _, _, rfl, hFB, fF_no_waiting, P, _, .wi, rfl, wB, hz, fun pC HC ke kl => ?_⟩
        have kl' : Lst P HC pC (seg P.row (z.lo .wi) (z.c .wi)) := kl
        have jlC := jl.keep ke.keep
        refine ⟨_, _, _, _, rfl, rfl, jlC.1, kl'.1, sz1 (by rw [map_len, map_len, seg_len (by omega), seg_len (by omega)]; omega), fun pD hpD => ?_⟩
        rw [cat_map, show z.lo .wi = z.sp .wi by omega, seg_app (by omega) (by omega) (by omega)]
        have wC := wB.ex ke
        have me : Ex HC (upd HC pD (.lst ((seg P.row (z.c .ro) (z.c .wi)).map V.int))) := Ex.new hpD
        have ml : Lst P (upd HC pD (.lst ((seg P.row (z.c .ro) (z.c .wi)).map V.int))) pD (seg P.row (z.c .ro) (z.c .wi)) := lst_new wC hpD
        revert me ml
        generalize upd HC pD (.lst ((seg P.row (z.c .ro) (z.c .wi)).map V.int)) = HD
        intro me ml
        have ne : Ex HB HD := fun _ _ e => me _ _ (ke _ _ e)
        refine ⟨_, rfl, _, rfl, _, rfl, _, _, _, _, rfl, rfl, (blB.keep ne.keep).1, ml.1, sz1 (by rw [map_len, map_len, seg_len (by omega), seg_len (by omega)]; omega), fun pz hpz => ?_⟩
        rw [cat_map]
        obtain ⟨d1, d2⟩ := fin pD _ ne ml pz hpz
        refine ⟨_, _, d1, d2, PySem.W.ke_shaped_ints _, PySem.W.ke_shaped_ints _, ?_⟩
        rw [eqv_ints]
        exact q _ (fun _ _ e => Ex.new hpz _ _ (ne _ _ (exB _ _ e)))
      | false =>
        refine ifF (by show (!(!z.lv)) = false; rw [hz]; rfl) ?_
        have hlw := hlv hz
        have ne : Ex HB HB := fun _ _ e => e
        have jl' : Lst P HB pB (seg P.row (z.c .ro) (z.c .wi)) := by
          rw [show z.c .wi = z.sp .wi by omega]
          exact jl
        refine ⟨_, rfl, _, rfl, _, rfl, _, _, _, _, rfl, rfl, (blB.keep ne.keep).1, jl'.1, sz1 (by rw [map_len, map_len, seg_len (by omega), seg_len (by omega)]; omega), fun pz hpz => ?_⟩
        rw [cat_map]
        obtain ⟨d1, d2⟩ := fin pB _ ne jl' pz hpz
        refine ⟨_, _, d1, d2, PySem.W.ke_shaped_ints _, PySem.W.ke_shaped_ints _, ?_⟩
        rw [eqv_ints]
        exact q _ (fun _ _ e => Ex.new hpz _ _ (ne _ _ (exB _ _ e)))
end
end Sip

set_option Elab.async false
set_option linter.all false
set_option maxRecDepth 100000
set_option maxHeartbeats 4000000
noncomputable section
namespace Sip
open PySem PySem.Spec PyProof.Rows L2 SipX L2H HotX
/-! ### between the deeds -/
structure J (P : Pm) (b : Nat) (z : Z) : Prop where
  zi : ZI P z
  c1 : z.c .fr = z.c .wi
  c2 : z.c .ro = z.c .to
  n : ∀ i, (z.n i).length ≤ b
  po : ∀ i, z.po i = false
  cl : z.lv = false → z.lo .wi = z.c .wi
theorem J.mono {P : Pm} {b b' : Nat} {z : Z} (h : J P b z) (e : b ≤ b') : J P b' z := ⟨h.zi, h.c1, h.c2, fun i => Nat.le_trans (h.n i) e, h.po, h.cl⟩
theorem J.r {P : Pm} {b : Nat} {z : Z} {s : Ix} (h : J P b z) (hs : isT s = false) : R P s 0 z z := by
  refine ⟨h.zi, ?_, Nat.le_refl _, fun _ _ _ => ⟨rfl, rfl, rfl, rfl, rfl⟩, rfl, rfl, Nat.le_refl _, Nat.le_refl _, Nat.le_refl _, Nat.le_refl _, Nat.le_refl _, by omega, by omega⟩
  cases s
  · exact h.c1
  · cases hs
  · exact h.c2
  · cases hs
theorem R.cN {P : Pm} {s : Ix} {e : Nat} {z0 z : Z} (hs : isT s = false) (r : R P s e z0 z) : z.c s ≤ P.row.length ∧ z.lo (ds s) ≤ P.row.length := by
  have h1 := r.zi.src s hs
  have h2 := r.zi.tgt _ (ds_t hs)
  omega
theorem J.step {P : Pm} {b : Nat} {z z' : Z} {s : Ix} (hs : isT s = false) (h : J P b z) (r : R P s 1 z z') (hl : s = .fr → z.lv = true) : J P (b + 200) z' := by
  have hN := P.hN
  have hc := r.cN hs
  have n2 := r.n2
  have n3 := r.n3
  have hc1 := h.c1
  have hc2 := h.c2
  refine ⟨r.zi, ?_, ?_, fun i => ?_, fun i => by rw [r.po]; exact h.po i, fun e => ?_⟩
  · cases s
    · exact r.ceq
    · cases hs
    · rw [(r.oth .fr (by decide) (by decide)).2.1, (r.oth .wi (by decide) (by decide)).2.1]
      exact hc1
    · cases hs
  · cases s
    · rw [(r.oth .ro (by decide) (by decide)).2.1, (r.oth .to (by decide) (by decide)).2.1]
      exact hc2
    · cases hs
    · exact r.ceq
    · cases hs
  · by_cases e1 : i = s
    · subst e1
      have := h.n i
      omega
    · by_cases e2 : i = ds s
      · subst e2
        have := h.n (ds s)
        omega
      · rw [(r.oth i e1 e2).2.2.2.2]
        have := h.n i
        omega
  · rw [r.lv] at e
    cases s
    · rw [hl rfl] at e
      cases e
    · cases hs
    · rw [(r.oth .wi (by decide) (by decide)).1, (r.oth .wi (by decide) (by decide)).2.1]
      exact h.cl e
    · cases hs
theorem J.mv {P : Pm} {b : Nat} {z : Z} {i : Ix} {m : Nat} {ns : NR} (hi : isT i = true) (h : J P b z) (h1 : z.lo i ≤ m) (h2 : m ≤ z.c i) (h3 : ns.length ≤ (z.n i).length + 41) (h4 : i = .wi → (m : Int) - z.sp .ro ≤ P.proom) (hl : i = .wi → z.lv = true) : J P (b + 200) (z.mv i m ns) := by
  have zi := h.zi
  have a0 := zi.src .fr rfl
  have a1 := zi.src .ro rfl
  have a2 := zi.tgt .wi rfl
  have a3 := zi.tgt .to rfl
  have a4 := zi.pip
  have a6 := zi.rm
  have a7 := a6 i hi
  cases i
  · cases hi
  · have h4' := h4 rfl
    refine ⟨⟨fun i hi => ?_, fun i hi => ?_, ?_, zi.log, fun i hi => ?_⟩, h.c1, h.c2, fun i => ?_, h.po, fun e => ?_⟩
    · cases i
      · exact a0
      · cases hi
      · exact a1
      · cases hi
    · cases i
      · cases hi
      · show z.hi .wi = z.c .wi ∧ m = m ∧ m ≤ z.c .wi ∧ z.c .wi ≤ P.row.length
        omega
      · cases hi
      · exact a3
    · show z.sp .ro ≤ m ∧ (m : Int) - z.sp .ro ≤ P.proom
      omega
    · cases i
      · cases hi
      · show ((z.c .wi : Nat) : Int) - (m : Int) ≤ P.room .wi
        omega
      · cases hi
      · exact a6 .to rfl
    · have h0 := h.n .fr
      have h1 := h.n .wi
      have h2 := h.n .ro
      have h3 := h.n .to
      cases i
      · show (z.n .fr).length ≤ b + 200
        omega
      · show ns.length ≤ b + 200
        omega
      · show (z.n .ro).length ≤ b + 200
        omega
      · show (z.n .to).length ≤ b + 200
        omega
    · have e' : z.lv = false := e
      rw [hl rfl] at e'
      cases e'
  · cases hi
  · refine ⟨⟨fun i hi => ?_, fun i hi => ?_, a4, zi.log, fun i hi => ?_⟩, h.c1, h.c2, fun i => ?_, h.po, h.cl⟩
    · cases i
      · exact a0
      · cases hi
      · exact a1
      · cases hi
    · cases i
      · cases hi
      · exact a2
      · cases hi
      · show z.hi .to = z.c .to ∧ m = m ∧ m ≤ z.c .to ∧ z.c .to ≤ P.row.length
        omega
    · cases i
      · cases hi
      · exact a6 .wi rfl
      · cases hi
      · show ((z.c .to : Nat) : Int) - (m : Int) ≤ P.room .to
        omega
    · have h0 := h.n .fr
      have h1 := h.n .wi
      have h2 := h.n .ro
      have h3 := h.n .to
      cases i
      · show (z.n .fr).length ≤ b + 200
        omega
      · show (z.n .wi).length ≤ b + 200
        omega
      · show (z.n .ro).length ≤ b + 200
        omega
      · show ns.length ≤ b + 200
        omega
def mu (P : Pm) (i : Ix) (z : Z) : Nat := (P.plan i).length - (z.n i).length
inductive Fl (P : Pm) (i : Ix) (z : Z) : Int → Z → Prop
  | one {ns : NR} : Fl P i z 1 (z.mv i (z.c i) ns)
  | nought {m : Nat} {ns : NR} (h : Sto P z i m ns) : Fl P i z 0 (z.mv i m ns)
theorem round1 {P : Pm} {z z1 z2 z3 : Z} {o1 o3 : Option Str} {em : Int} (hlv : z.lv = true) (r1 : R P .fr 1 z z1) (ho1 : OutO P .fr z z1 o1) (hm1 : o1 ≠ some ("most" : Str)) (f : Fl P .wi z1 em z2) (hz2 : ZI P z2) (r3 : R P .ro 1 z2 z3) (ho3 : OutO P .ro z2 z3 o3) (hm3 : o3 ≠ some ("most" : Str))
    (hun : ¬ (o1 = some ("end" : Str) ∧ em = 1)) : mu P .fr z3 + mu P .to z3 + (P.row.length - z3.sp .ro) + 1 ≤ mu P .fr z + mu P .to z + (P.row.length - z.sp .ro) := by
  have hpr := P.hpr
  have t1 := r1.zi.tgt .wi rfl
  have t2 := hz2.pip
  have p1 := r1.zi.pip
  have e1 : z2.n .fr = z1.n .fr ∧ z2.n .to = z1.n .to ∧ z2.sp .ro = z1.sp .ro ∧ z1.sp .wi ≤ z2.sp .wi ∧ z2.lv = z1.lv := by
    cases f with
    | one =>
      refine ⟨rfl, rfl, rfl, ?_, rfl⟩
      show z1.sp .wi ≤ z1.c .wi
      omega
    | @nought m ns h =>
      have := h.lo
      refine ⟨rfl, rfl, rfl, ?_, rfl⟩
      show z1.sp .wi ≤ m
      omega
  obtain ⟨a1, a2, a3, a4, a5⟩ := e1
  have b1 : (z.n .fr).length ≤ (z1.n .fr).length := r1.n1
  have b2 := (r1.oth .to (by decide) (by decide)).2.2.2.2
  have b3 := (r1.oth .ro (by decide) (by decide)).2.2.2.1
  have c1 := (r3.oth .fr (by decide) (by decide)).2.2.2.2
  have c2 : (z2.n .to).length ≤ (z3.n .to).length := r3.n1t
  have c3 : z2.sp .ro ≤ z3.sp .ro := r3.sps
  have c4 := r3.zi.src .ro rfl
  have c5 := (r3.oth .wi (by decide) (by decide)).2.2.2.1
  have g1 : mu P .fr z3 ≤ mu P .fr z := by
    unfold mu
    rw [c1, a1]
    omega
  have g2 : mu P .to z3 ≤ mu P .to z := by
    unfold mu
    rw [a2, b2] at c2
    omega
  have key : mu P .fr z3 < mu P .fr z ∨ z2.sp .ro < z2.sp .wi := by
    have us : Us P .fr z z1 → mu P .fr z3 < mu P .fr z := fun u => by
      have u1 := u.1
      have u2 := u.2
      unfold mu
      rw [c1, a1]
      omega
    cases o1 with
    | none =>
      have h : OutF P .fr z z1 := ho1
      cases h with
      | fr h => exact .inl (us h)
    | some x =>
      have h : Out P .fr z z1 x := ho1
      cases h with
      | frS h => exact .inl (us h)
      | frF h =>
        have h' : (z1.sp .wi : Int) - z1.sp .ro = P.proom := h
        right
        omega
      | frE h =>
        cases f with
        | one => exact absurd ⟨rfl, rfl⟩ hun
        | @nought m ns h =>
          have h' := h.w rfl
          right
          show z1.sp .ro < m
          omega
      | most => exact absurd rfl hm1
  rcases key with h | h
  · omega
  · have us : Us P .to z2 z3 → mu P .to z3 < mu P .to z := fun u => by
      have u1 := u.1
      have u2 := u.2
      rw [a2, b2] at u1 u2
      unfold mu
      omega
    cases o3 with
    | none =>
      have h3 : OutF P .ro z2 z3 := ho3
      cases h3 with
      | ro h3 =>
        have := us h3
        omega
    | some x =>
      have h3 : Out P .ro z2 z3 x := ho3
      cases h3 with
      | roS l h3 =>
        obtain ⟨d1, d2⟩ := h3
        omega
      | roT h3 =>
        have := us h3
        omega
      | roE l h3 =>
        rw [r3.lv, a5, r1.lv, hlv] at l
        cases l
      | most => exact absurd rfl hm3
theorem exA {H0 H : Hp} {a : Addr} (h : H0 a = none) (k : KeepA a H0 H) : Ex H0 H := fun b o e => k b o (ne_of_none e h) e
theorem FnOk.any {ι : Type} {prog : Program} {w : World} {K : PySem.W.Frag} {mg : Str → Option Value} {base : Heap} {CX : CXT} {k : Nat} {f : Addr} {fd : FuncData} {ps : List Str} {sp : ι → Sp} (h : ∀ i, FnOk prog w K mg base CX k f fd ps (sp i)) :
    FnOk prog w K mg base CX k f fd ps (fun vs H Q E => ∃ i, sp i vs H Q E) :=
  ⟨fun vs H Q E ⟨i, q⟩ => (h i).len vs H Q E q, fun A outer s H args us vs Q E hr e0 hb r ⟨i, q⟩ => (h i).run A outer s H args us vs Q E hr e0 hb r q⟩
abbrev Src := { s : Ix // isT s = false }
abbrev Tgt := { s : Ix // isT s = true }
abbrev spP (K : PySem.W.Frag) : Sp := fun vs H Q E => ∃ s : Src, spLPoured K s.1 vs H Q E
abbrev spF (K : PySem.W.Frag) : Sp := fun vs H Q E => ∃ i : Tgt, spLFlushed K i.1 vs H Q E
def spDeed (K : PySem.W.Frag) : Sp := fun vs H Q _ => ∃ (P : Pm) (z : Z) (dm rl a : Addr) (n b : Nat) (H0 : Hp), vs = [.ref a, .ref dm] ∧ W P K H0 (toWS P z) ∧ Mm P H0 dm rl ∧ H0 a = none ∧ KeepA a H0 H ∧ Pool H a n ∧ n ≤ 900000 ∧ J P b z ∧ b ≤ 4000000 ∧ z.lv = true ∧
  ∀ z' H', J P (b + 200) z' → z'.lv = true → Keep P H0 H' → W P K H' (toWS P z') → Q (.bl true) H'
theorem wides (w : Nat) (h : w < 4) : ∃ v : Nat, atI [V.int 1, .int 2, .int 8, .int 64] (w : Int) = some (V.int (v : Nat)) ∧ 1 ≤ v ∧ v ≤ 64 := by
  match w, h with
  | 0, _ => exact ⟨1, rfl, by decide, by decide⟩
  | 1, _ => exact ⟨2, rfl, by decide, by decide⟩
  | 2, _ => exact ⟨8, rfl, by decide, by decide⟩
  | 3, _ => exact ⟨64, rfl, by decide, by decide⟩
theorem limits (w : Nat) (h : w < 5) : ∃ v : V, atI [V.non, .int 0, .int 1, .int 5, .int 30] (w : Int) = some v ∧ (v = .non ∨ ∃ n : Nat, v = .int n) := by
  match w, h with
  | 0, _ => exact ⟨.non, rfl, .inl rfl⟩
  | 1, _ => exact ⟨.int 0, rfl, .inr ⟨0, rfl⟩⟩
  | 2, _ => exact ⟨.int 1, rfl, .inr ⟨1, rfl⟩⟩
  | 3, _ => exact ⟨.int 5, rfl, .inr ⟨5, rfl⟩⟩
  | 4, _ => exact ⟨.int 30, rfl, .inr ⟨30, rfl⟩⟩
section
variable {prog : Program} {w : World} {base : Heap} {K : PySem.W.Frag} {mg : Str → Option Value}
theorem okP (T : Txt K mg) : FnOk prog w K mg base CXz 11 (He.fAd K d__law_poured.at_) (fdO K d__law_poured) ["_law_source", "_law_target", "_law_wide", "_law_limit"] (spP K) := FnOk.any fun s : Src => ok__law_poured T s.1 s.2
theorem okF (T : Txt K mg) : FnOk prog w K mg base CXz 7 (He.fAd K d__law_flushed.at_) (fdO K d__law_flushed) ["_law_file"] (spF K) := FnOk.any fun i : Tgt => ok__law_flushed T i.1 i.2
theorem ok__law_deed (T : Txt K mg) : FnOk prog w K mg base CXz 12 (He.fAd K d__law_deed.at_) (fdO K d__law_deed) ["_law_pool_here", "_law_m"] (spDeed K) :=
  T.F__law_deed.ok sc__law_deed (fun vs H Q E h => by obtain ⟨_, _, _, _, _, _, _, _, rfl, _⟩ := h; rfl) fun cdv A outer st H vs Q E hr h => by
    obtain ⟨P, z, dm, rl, a, n, b, H0, rfl, w, M, ha, k0, hp, hn, j, hb, hlv, q⟩ := h
    refine ⟨_, (pss_cons (ps_set (i := 2) sc__law_deed.nd rfl (Or.inl rfl) (pe_call (ok__law_take T) (hr.mono (by decide)) (by rfl) T.g__law_take T.F__law_take.kp T.b__law_take .nil pz (pa_cons (pv 0) (pa_cons pe_int pa_nil)))) (pss_cons (ps_set (i := 3) sc__law_deed.nd rfl (Or.inl rfl) (pe_ix ix_list (pe_lst (pa_cons pe_int (pa_cons pe_int (pa_cons pe_int (pa_cons pe_int pa_nil))))) (pe_call (ok__law_take T) (hr.mono (by decide)) (by rfl) T.g__law_take T.F__law_take.kp T.b__law_take .nil pz (pa_cons (pv 0) (pa_cons pe_int pa_nil))) (fun _ _ => rfl))) (pss_cons (ps_set (i := 4) sc__law_deed.nd rfl (Or.inl rfl) (pe_ix ix_list (pe_lst (pa_cons pe_non (pa_cons pe_int (pa_cons pe_int (pa_cons pe_int (pa_cons pe_int pa_nil)))))) (pe_call (ok__law_take T) (hr.mono (by decide)) (by rfl) T.g__law_take T.F__law_take.kp T.b__law_take .nil pz (pa_cons (pv 0) (pa_cons pe_int pa_nil))) (fun _ _ => rfl))) (pss_cons (ps_if (pt_cmpR op_lt (pv 2) pe_int (nomark _)) (pss_one (ps_ret (pe_cmpR op_isntRB (pe_call (okP T) (hr.mono (by decide)) (by rfl) T.g__law_poured T.F__law_poured.kp T.b__law_poured .nil pz (pa_cons (pe_dget (hu_of hr) (pv 1) pe_str (fun _ _ => rfl)) (pa_cons (pe_dget (hu_of hr) (pv 1) pe_str (fun _ _ => rfl)) (pa_cons (pv 3) (pa_cons (pv 4) pa_nil))))) pe_bl (nomark _)))) pss_nil) (pss_cons (ps_if (pt_cmpR op_lt (pv 2) pe_int (nomark _)) (pss_one (ps_ret (pe_cmpR op_isntRB (pe_call (okP T) (hr.mono (by decide)) (by rfl) T.g__law_poured T.F__law_poured.kp T.b__law_poured .nil pz (pa_cons (pe_dget (hu_of hr) (pv 1) pe_str (fun _ _ => rfl)) (pa_cons (pe_dget (hu_of hr) (pv 1) pe_str (fun _ _ => rfl)) (pa_cons (pv 3) (pa_cons (pv 4) pa_nil))))) pe_bl (nomark _)))) pss_nil) (pss_one (ps_ret (pe_cmpR op_lt (pe_call (okF T) (hr.mono (by decide)) (by rfl) T.g__law_flushed T.F__law_flushed.kp T.b__law_flushed .nil pz (pa_cons (pe_dget (hu_of hr) (pv 1) (pe_ix ix_list (pe_lst (pa_cons pe_str (pa_cons pe_str pa_nil))) (pe_op op_sub (pv 2) pe_int) (fun _ _ => rfl)) (fun _ _ => rfl)) pa_nil)) pe_int (nomark _))))))))), ?_⟩
    refine ⟨_, rfl, a, n, 6, rfl, hp, by omega, by decide, by decide, fun way n1 H1 hway hn1 k1 hp1 => ?_⟩
    refine ⟨sz1 (by simp), fun p1 hp1n => ?_⟩
    have hp1a : p1 ≠ a := by
      obtain ⟨d, c, h⟩ := hp1
      exact (ne_of_none h hp1n).symm
    refine ⟨_, rfl, a, n1, 4, rfl, hp1.ex (Ex.new hp1n), by omega, by decide, by decide, fun w1 n2 H2 hw1 hn2 k2 hp2 => ?_⟩
    obtain ⟨wide, hwide, wd1, wd2⟩ := wides w1 hw1
    refine ⟨p1, _, _, _, rfl, rfl, .inl (.inl (k2 _ _ hp1a upd_same)), hwide, ?_⟩
    refine ⟨sz1 (by simp), fun p2 hp2n => ?_⟩
    have hp2a : p2 ≠ a := by
      obtain ⟨d, c, h⟩ := hp2
      exact (ne_of_none h hp2n).symm
    refine ⟨_, rfl, a, n2, 5, rfl, hp2.ex (Ex.new hp2n), by omega, by decide, by decide, fun w2 n3 H3 hw2 hn3 k3 hp3 => ?_⟩
    obtain ⟨lim, hlim, hlim2⟩ := limits w2 hw2
    refine ⟨p2, _, _, _, rfl, rfl, .inl (.inl (k3 _ _ hp2a upd_same)), hlim, ?_⟩
    have e3 : Ex H0 H3 := exA ha ((((k0.trans k1).trans (KeepA.ex (Ex.new hp1n))).trans k2).trans ((KeepA.ex (Ex.new hp2n)).trans k3))
    have w3 := w.ex e3
    have M3 := M.keep e3.keep
    refine ⟨_, rfl, _, _, rfl, rfl, _, rfl, ite2 (fun e => ?_) fun e => ?_⟩
    · refine ⟨_, rfl, dm, _, rfl, M3.frm, _, rfl, dm, _, rfl, M3.inn, _, rfl, _, rfl, ⟨.fr, rfl⟩, P, z, wide, lim, rfl, hlim2, wd1, wd2, w3, j.r rfl, fun i => Nat.le_trans (j.n i) (by omega), fun _ => hlv, j.po _, j.po _, fun z' o p H4 r ho hm k4 w4 hp4 _ => ?_⟩
      refine ⟨p, _, rfl, rfl, ?_⟩
      exact q z' H4 (j.step rfl r (fun _ => hlv)) (by rw [r.lv]; exact hlv) (e3.keep.trans k4) w4
    · refine ⟨_, rfl, _, _, rfl, rfl, _, rfl, ite2 (fun e2 => ?_) fun e2 => ?_⟩
      · refine ⟨_, rfl, dm, _, rfl, M3.out, _, rfl, dm, _, rfl, M3.into, _, rfl, _, rfl, ⟨.ro, rfl⟩, P, z, wide, lim, rfl, hlim2, wd1, wd2, w3, j.r rfl, fun i => Nat.le_trans (j.n i) (by omega), fun e => (by cases e), j.po _, j.po _, fun z' o p H4 r ho hm k4 w4 hp4 _ => ?_⟩
        refine ⟨p, _, rfl, rfl, ?_⟩
        exact q z' H4 (j.step rfl r (fun e => by cases e)) (by rw [r.lv]; exact hlv) (e3.keep.trans k4) w4
      · have h4 : way = 4 ∨ way = 5 := by
          simp only [decide_eq_true_eq] at e e2
          omega
        refine ⟨_, rfl, sz1 (by simp), fun p5 hp5 => ?_⟩
        have e5 := Ex.new (o := .lst [.str "in", .str "into"]) hp5
        have w5 := w3.ex e5
        have M5 := M3.keep e5.keep
        rcases h4 with rfl | rfl
        · refine ⟨_, rfl, _, _, rfl, rfl, p5, _, _, _, rfl, rfl, .inl (.inl upd_same), rfl, dm, _, rfl, M5.inn, ⟨Ix.wi, rfl⟩, P, z, rfl, w5, j.zi.tg rfl (Nat.le_trans (j.n _) (by omega)) (fun _ => hlv), fun ns H6 g1 g2 g3 k6 w6 => ?_, fun m ns H6 sto k6 w6 => ?_⟩
          · refine ⟨_, _, rfl, rfl, ?_⟩
            have hN := P.hN
            have ht := j.zi.tgt Ix.wi rfl
            have g2' : ns.length ≤ (z.n Ix.wi).length + (z.c Ix.wi - z.lo Ix.wi) := g2
            exact q _ H6 (j.mv rfl ht.2.2.1 (Nat.le_refl _) (by omega) g3 (fun _ => hlv)) hlv ((e3.keep.trans e5.keep).trans k6) w6
          · refine ⟨_, _, rfl, rfl, ?_⟩
            have hN := P.hN
            have ht := j.zi.tgt Ix.wi rfl
            have s1 : z.lo Ix.wi ≤ m := sto.lo
            have s2 : m < z.c Ix.wi := sto.c
            have s3 : ns.length ≤ (z.n Ix.wi).length + (m - z.lo Ix.wi) + 1 := sto.n2
            exact q _ H6 (j.mv rfl s1 (by omega) (by omega) (fun e => Int.le_of_eq (sto.w e)) (fun _ => hlv)) hlv ((e3.keep.trans e5.keep).trans k6) w6
        · refine ⟨_, rfl, _, _, rfl, rfl, p5, _, _, _, rfl, rfl, .inl (.inl upd_same), rfl, dm, _, rfl, M5.into, ⟨Ix.to, rfl⟩, P, z, rfl, w5, j.zi.tg rfl (Nat.le_trans (j.n _) (by omega)) (fun _ => hlv), fun ns H6 g1 g2 g3 k6 w6 => ?_, fun m ns H6 sto k6 w6 => ?_⟩
          · refine ⟨_, _, rfl, rfl, ?_⟩
            have hN := P.hN
            have ht := j.zi.tgt Ix.to rfl
            have g2' : ns.length ≤ (z.n Ix.to).length + (z.c Ix.to - z.lo Ix.to) := g2
            exact q _ H6 (j.mv rfl ht.2.2.1 (Nat.le_refl _) (by omega) g3 (fun _ => hlv)) hlv ((e3.keep.trans e5.keep).trans k6) w6
          · refine ⟨_, _, rfl, rfl, ?_⟩
            have hN := P.hN
            have ht := j.zi.tgt Ix.to rfl
            have s1 : z.lo Ix.to ≤ m := sto.lo
            have s2 : m < z.c Ix.to := sto.c
            have s3 : ns.length ≤ (z.n Ix.to).length + (m - z.lo Ix.to) + 1 := sto.n2
            exact q _ H6 (j.mv rfl s1 (by omega) (by omega) (fun e => Int.le_of_eq (sto.w e)) (fun _ => hlv)) hlv ((e3.keep.trans e5.keep).trans k6) w6
end
end Sip

set_option Elab.async false
set_option linter.all false
set_option maxRecDepth 100000
set_option maxHeartbeats 4000000
noncomputable section
namespace Sip
open PySem PySem.Spec PyProof.Rows L2 SipX L2H HotX
def spAllCome (K : PySem.W.Frag) : Sp := fun vs H Q _ => ∃ (P : Pm) (z : Z) (dm rl : Addr) (b : Nat), vs = [.ref dm] ∧ W P K H (toWS P z) ∧ Mm P H dm rl ∧ J P b z ∧ b ≤ 1000000 ∧ z.lv = true ∧
  ∀ z' H', J P (b + 200000) z' → z'.lv = false → z'.c .fr = P.row.length → Keep P H H' → W P K H' (toWS P z') → Q (.bl true) H'
theorem vO_end {o : Option Str} (h : V.str "end" = vO o) : o = some ("end" : Str) := by
  cases o with
  | none => cases h
  | some x =>
    have h' : V.str "end" = V.str x := h
    injection h' with h'
    rw [h']
theorem scal_end (o : Option Str) : scal (vO o) (.str "end") = true := by cases o <;> rfl
theorem not_most {o : Option Str} (h : o = some ("most" : Str) → V.non ≠ V.non) : o ≠ some ("most" : Str) := fun e => h e rfl
section
variable {prog : Program} {w : World} {base : Heap} {K : PySem.W.Frag} {mg : Str → Option Value}
theorem ok__law_all_come (T : Txt K mg) : FnOk prog w K mg base CXz 12 (He.fAd K d__law_all_come.at_) (fdO K d__law_all_come) ["_law_m"] (spAllCome K) :=
  T.F__law_all_come.ok sc__law_all_come (fun vs H Q E h => by obtain ⟨_, _, _, _, _, rfl, _⟩ := h; rfl) fun cdv A outer st H vs Q E hr h => by
    obtain ⟨P, z00, dm, rl, b, rfl, w, M, j0, hb, hlv0, q⟩ := h
    have hN := P.hN
    refine ⟨_, (pss_cons (ps_for PassesOwn.leaving rfl (pi_range1 (by rfl) T.n_range (pa_cons pe_int pa_nil)) (pg_name (i := 1) sc__law_all_come.nd rfl (Or.inl rfl)) (pss_cons (ps_set (i := 2) sc__law_all_come.nd rfl (Or.inl rfl) (pe_call (okP T) (hr.mono (by decide)) (by rfl) T.g__law_poured T.F__law_poured.kp T.b__law_poured .nil pz (pa_cons (pe_dget (hu_of hr) (pv 0) pe_str (fun _ _ => rfl)) (pa_cons (pe_dget (hu_of hr) (pv 0) pe_str (fun _ _ => rfl)) (pa_cons pe_int (pa_cons pe_non pa_nil)))))) (pss_cons (ps_set (i := 3) sc__law_all_come.nd rfl (Or.inl rfl) (pe_call (okF T) (hr.mono (by decide)) (by rfl) T.g__law_flushed T.F__law_flushed.kp T.b__law_flushed .nil pz (pa_cons (pe_dget (hu_of hr) (pv 0) pe_str (fun _ _ => rfl)) pa_nil))) (pss_cons (ps_set (i := 4) sc__law_all_come.nd rfl (Or.inl rfl) (pe_call (okP T) (hr.mono (by decide)) (by rfl) T.g__law_poured T.F__law_poured.kp T.b__law_poured .nil pz (pa_cons (pe_dget (hu_of hr) (pv 0) pe_str (fun _ _ => rfl)) (pa_cons (pe_dget (hu_of hr) (pv 0) pe_str (fun _ _ => rfl)) (pa_cons pe_int (pa_cons pe_non pa_nil)))))) (pss_cons (ps_if (PW.pt (pw_or (pt_cmpR op_isRB (pv 2) pe_bl (nomark _)) (pw_or (pt_cmpR op_isRB (pv 4) pe_bl (nomark _)) (pw_or (pt_cmpR op_gt (pv 3) pe_int (nomark _)) (pw_or1 (pt_not (pt_val (pe_call (ok__law_stands T) (hr.mono (by decide)) (by rfl) T.g__law_stands T.F__law_stands.kp T.b__law_stands .nil pz (pa_cons (pv 0) pa_nil))))))))) (pss_one (ps_ret pe_bl)) pss_nil) (pss_one (ps_if (PW.pt (pw_and (pt_cmpR op_eq (pe_ix ix_list (pv 2) pe_int (fun _ _ => rfl)) pe_str (nomark _)) (pw_and1 (pt_cmpR op_eq (pv 3) pe_int (nomark _))))) (pss_cons (ps_expr (pe_meth0 (pe_dget (hu_of hr) (pv 0) pe_str (fun _ _ => rfl)) T.cls_File T.m_File_close (ok_File_close T) (hr.mono (by decide)) T.b_File_close .nil pz)) (pss_one (ps_ret (pe_cmpR (op_eqD hr.units) (pe_meth0 (pe_dget (hu_of hr) (pv 0) pe_str (fun _ _ => rfl)) T.cls_File T.m_File_lost (ok_File_lost T) (hr.mono (by decide)) T.b_File_lost .nil pz) (pe_lst pa_nil) (nomark _))))) pss_nil))))))) (pss_one (ps_ret pe_bl))), ?_⟩
    refine ⟨200, rfl, by decide, by decide, for_range (n := 200) (fun i σ H' => ∃ z c1 c2 c3 c4, σ = [some (.ref dm), c1, c2, c3, c4] ∧ W P K H' (toWS P z) ∧ Keep P H H' ∧ J P (b + 600 * i) z ∧ z.lv = true ∧ mu P .fr z + mu P .to z + (P.row.length - z.sp .ro) + i ≤ 100)
      ⟨z00, _, _, _, _, rfl, w, Keep.refl, j0, hlv0, ?_⟩ (fun i σ H1 hi hP => ?_) (fun σ H1 hP => ?_)⟩
    · have h1 := P.hpl .fr
      have h2 := P.hpl .to
      unfold mu
      omega
    · obtain ⟨z, c1, c2, c3, c4, rfl, w1, k1, j, hlv, hmu⟩ := hP
      have M1 := M.keep k1
      have jb : ∀ i, (z.n i).length ≤ 5000000 := fun i => Nat.le_trans (j.n i) (by omega)
      refine ⟨_, rfl, dm, _, rfl, M1.frm, _, rfl, dm, _, rfl, M1.inn, ⟨.fr, rfl⟩, P, z, 8, .non, rfl, .inl rfl, by decide, by decide, w1, j.r rfl, jb, fun _ => hlv, j.po _, j.po _, fun z1 o1 p1 H2 r1 ho1 hm1 k2 w2 hp1 np1 => ?_⟩
      have M2 := M1.keep k2
      have hlv1 : z1.lv = true := by rw [r1.lv]; exact hlv
      have j1 : J P (b + 600 * i + 200) z1 := j.step rfl r1 (fun _ => hlv)
      have tg1 : Tg P z1 .wi := j1.zi.tg rfl (Nat.le_trans (j1.n _) (by omega)) (fun _ => hlv1)
      have ht1 := j1.zi.tgt .wi rfl
      refine ⟨_, rfl, dm, _, rfl, M2.inn, ⟨.wi, rfl⟩, P, z1, rfl, w2, tg1, fun ns H3 g1 g2 g3 k3 w3 => ?_, fun m ns H3 sto k3 w3 => ?_⟩
      · have g2' : ns.length ≤ (z1.n .wi).length + (z1.c .wi - z1.lo .wi) := g2
        obtain ⟨z2, hz2⟩ : ∃ z2, z2 = z1.mv .wi (z1.c .wi) ns := ⟨_, rfl⟩
        have fl : Fl P .wi z1 1 z2 := by rw [hz2]; exact .one
        have j2 : J P (b + 600 * i + 200 + 200) z2 := by rw [hz2]; exact j1.mv rfl ht1.2.2.1 (Nat.le_refl _) (by omega) g3 (fun _ => hlv1)
        have hlv2 : z2.lv = true := by rw [hz2]; exact hlv1
        have w3' : W P K H3 (toWS P z2) := by rw [hz2]; exact w3
        clear w3
        have w3 := w3'
        have M3 := M2.keep k3
        have jb2 : ∀ i, (z2.n i).length ≤ 5000000 := fun i => Nat.le_trans (j2.n i) (by omega)
        refine ⟨_, rfl, dm, _, rfl, M3.out, _, rfl, dm, _, rfl, M3.into, ⟨.ro, rfl⟩, P, z2, 8, .non, rfl, .inl rfl, by decide, by decide, w3, j2.r rfl, jb2, fun e => (by cases e), j2.po _, j2.po _, fun z3 o3 p3 H4 r3 ho3 hm3 k4 w4 hp3 np3 => ?_⟩
        have M4 := M3.keep k4
        have hlv3 : z3.lv = true := by rw [r3.lv]; exact hlv2
        have j3 : J P (b + 600 * i + 600) z3 := (j2.step rfl r3 (fun e => by cases e)).mono (by omega)
        have hp1' := k4 _ _ np1 (k3 _ _ np1 hp1)
        refine ⟨_, rfl, _, _, rfl, rfl, _, rfl, ifF rfl ⟨_, rfl, _, _, rfl, rfl, _, rfl, ifF rfl ⟨_, rfl, _, _, rfl, rfl, _, rfl, ifF (decide_eq_false (by decide)) ?_⟩⟩⟩
        refine ⟨_, rfl, P, z3, dm, rl, rfl, w4, M4, j3.zi, j3.c1, j3.c2, fun i => Nat.le_trans (j3.n i) (by omega), fun e => (by rw [hlv3] at e; cases e), fun H5 e5 => ⟨_, rfl, ifF rfl ?_⟩⟩
        have w5 := w4.ex e5
        have M5 := M4.keep e5.keep
        have hp1'' := e5 _ _ hp1'
        have kk := (((k1.trans k2).trans k3).trans k4).trans e5.keep
        have next : ¬ (o1 = some ("end" : Str) ∧ (1 : Int) = 1) → mu P .fr z3 + mu P .to z3 + (P.row.length - z3.sp .ro) + (i + 1) ≤ 100 := fun hun => by
          have := round1 hlv r1 ho1 (not_most hm1) fl j2.zi r3 ho3 (not_most hm3) hun
          omega
        refine ⟨_, rfl, p1, _, _, vO o1, rfl, rfl, .inl (.inl hp1''), rfl, scal_end o1, _, rfl, ite2 (fun e => ?_) fun e => ?_⟩
        · have eo : o1 = some ("end" : Str) := vO_end (of_decide_eq_true e).symm
          refine ⟨_, rfl, rfl, _, rfl, ?_⟩
          refine ifT (decide_eq_true rfl) ?_
          obtain ⟨ah5, de5, mi5, hF5, hah5, hde5, hmi5⟩ := w5.file .wi
          have hlo : z3.lo .wi = z3.c .wi := by
            rw [(r3.oth .wi (by decide) (by decide)).1, (r3.oth .wi (by decide) (by decide)).2.1, hz2]
            rfl
          have hcN : z3.c .fr = P.row.length := by
            rw [(r3.oth .fr (by decide) (by decide)).2.1, hz2]
            show z1.c .fr = P.row.length
            rw [eo] at ho1
            have h : Out P .fr z z1 "end" := ho1
            cases h with
            | frE h => exact h
          refine ⟨_, rfl, dm, _, rfl, M5.inn, _, _, _, rfl, hF5, fF_no_close, P, z3, rfl, w5, hlv3, hlo, fun H6 k6 w6 => ?_⟩
          have M6 := M5.keep k6
          obtain ⟨ah6, de6, mi6, hF6, hah6, hde6, hmi6⟩ := w6.file .wi
          refine ⟨_, rfl, dm, _, rfl, M6.inn, _, _, _, rfl, hF6, fF_no_lost, P, _, .wi, rfl, w6, fun l H7 e7 hl7 => ⟨sz1 (by simp), fun p hp => ?_⟩⟩
          have hl8 : Lst P (upd H7 p (.lst [])) l [] := hl7.keep (Ex.new hp).keep
          refine ⟨.list [], .list [], .lst (xs := []) hl8.sq .nil, .lst (xs := []) (.inl (.inl upd_same)) .nil, rfl, rfl, ?_⟩
          have j4 : J P (b + 200000) { z3 with lv := false } := ⟨⟨j3.zi.src, j3.zi.tgt, j3.zi.pip, j3.zi.log, j3.zi.rm⟩, j3.c1, j3.c2, fun i => Nat.le_trans (j3.n i) (by omega), j3.po, fun _ => hlo⟩
          exact q _ _ j4 rfl hcN (((kk.trans k6).trans e7.keep).trans (Ex.new hp).keep) ((w6.ex e7).new hp)
        · exact ⟨z3, _, _, _, _, rfl, w5, kk, j3.mono (by omega), hlv3, next (fun h => e (decide_eq_true (by rw [h.1]; rfl)))⟩
      · have s1 : z1.lo .wi ≤ m := sto.lo
        have s2 : m < z1.c .wi := sto.c
        have s3 : ns.length ≤ (z1.n .wi).length + (m - z1.lo .wi) + 1 := sto.n2
        obtain ⟨z2, hz2⟩ : ∃ z2, z2 = z1.mv .wi m ns := ⟨_, rfl⟩
        have fl : Fl P .wi z1 0 z2 := by rw [hz2]; exact .nought sto
        have j2 : J P (b + 600 * i + 200 + 200) z2 := by rw [hz2]; exact j1.mv rfl s1 (by omega) (by omega) (fun e => Int.le_of_eq (sto.w e)) (fun _ => hlv1)
        have hlv2 : z2.lv = true := by rw [hz2]; exact hlv1
        have w3' : W P K H3 (toWS P z2) := by rw [hz2]; exact w3
        clear w3
        have w3 := w3'
        have M3 := M2.keep k3
        have jb2 : ∀ i, (z2.n i).length ≤ 5000000 := fun i => Nat.le_trans (j2.n i) (by omega)
        refine ⟨_, rfl, dm, _, rfl, M3.out, _, rfl, dm, _, rfl, M3.into, ⟨.ro, rfl⟩, P, z2, 8, .non, rfl, .inl rfl, by decide, by decide, w3, j2.r rfl, jb2, fun e => (by cases e), j2.po _, j2.po _, fun z3 o3 p3 H4 r3 ho3 hm3 k4 w4 hp3 np3 => ?_⟩
        have M4 := M3.keep k4
        have hlv3 : z3.lv = true := by rw [r3.lv]; exact hlv2
        have j3 : J P (b + 600 * i + 600) z3 := (j2.step rfl r3 (fun e => by cases e)).mono (by omega)
        have hp1' := k4 _ _ np1 (k3 _ _ np1 hp1)
        refine ⟨_, rfl, _, _, rfl, rfl, _, rfl, ifF rfl ⟨_, rfl, _, _, rfl, rfl, _, rfl, ifF rfl ⟨_, rfl, _, _, rfl, rfl, _, rfl, ifF (decide_eq_false (by decide)) ?_⟩⟩⟩
        refine ⟨_, rfl, P, z3, dm, rl, rfl, w4, M4, j3.zi, j3.c1, j3.c2, fun i => Nat.le_trans (j3.n i) (by omega), fun e => (by rw [hlv3] at e; cases e), fun H5 e5 => ⟨_, rfl, ifF rfl ?_⟩⟩
        have w5 := w4.ex e5
        have M5 := M4.keep e5.keep
        have hp1'' := e5 _ _ hp1'
        have kk := (((k1.trans k2).trans k3).trans k4).trans e5.keep
        have next : ¬ (o1 = some ("end" : Str) ∧ (0 : Int) = 1) → mu P .fr z3 + mu P .to z3 + (P.row.length - z3.sp .ro) + (i + 1) ≤ 100 := fun hun => by
          have := round1 hlv r1 ho1 (not_most hm1) fl j2.zi r3 ho3 (not_most hm3) hun
          omega
        refine ⟨_, rfl, p1, _, _, vO o1, rfl, rfl, .inl (.inl hp1''), rfl, scal_end o1, _, rfl, ite2 (fun e => ?_) fun e => ?_⟩
        · have eo : o1 = some ("end" : Str) := vO_end (of_decide_eq_true e).symm
          refine ⟨_, rfl, rfl, _, rfl, ?_⟩
          refine ifF (decide_eq_false (fun z => by injection z with z; omega)) ?_
          exact ⟨z3, _, _, _, _, rfl, w5, kk, j3.mono (by omega), hlv3, next (fun h => by have := h.2; omega)⟩
        · exact ⟨z3, _, _, _, _, rfl, w5, kk, j3.mono (by omega), hlv3, next (fun h => e (decide_eq_true (by rw [h.1]; rfl)))⟩
    · obtain ⟨z, c1, c2, c3, c4, rfl, w1, k1, j, hlv, hmu⟩ := hP
      omega
end
end Sip

set_option Elab.async false
set_option linter.all false
set_option maxRecDepth 100000
set_option maxHeartbeats 8000000
noncomputable section
namespace Sip
open PySem PySem.Spec PyProof.Rows L2 SipX L2H HotX
def Aof (a b c d e f g h i j k l m : Addr) : Sl → Addr
  | .f .fr => a | .f .wi => b | .f .ro => c | .f .to => d | .r .fr => e | .r .wi => f | .r .ro => g | .r .to => h | .n .fr => i | .n .wi => j | .n .ro => k | .n .to => l | .p => m
def sIx : Sl → Nat
  | .f .fr => 0 | .f .wi => 1 | .f .ro => 2 | .f .to => 3 | .r .fr => 4 | .r .wi => 5 | .r .ro => 6 | .r .to => 7 | .n .fr => 8 | .n .wi => 9 | .n .ro => 10 | .n .to => 11 | .p => 12
theorem sIx_inj {s t : Sl} (h : sIx s = sIx t) : s = t := by
  cases s with
  | f i => cases t with
    | f j => cases i <;> cases j <;> first | rfl | cases h
    | r j => cases i <;> cases j <;> cases h
    | n j => cases i <;> cases j <;> cases h
    | p => cases i <;> cases h
  | r i => cases t with
    | f j => cases i <;> cases j <;> cases h
    | r j => cases i <;> cases j <;> first | rfl | cases h
    | n j => cases i <;> cases j <;> cases h
    | p => cases i <;> cases h
  | n i => cases t with
    | f j => cases i <;> cases j <;> cases h
    | r j => cases i <;> cases j <;> cases h
    | n j => cases i <;> cases j <;> first | rfl | cases h
    | p => cases i <;> cases h
  | p => cases t with
    | f j => cases j <;> cases h
    | r j => cases j <;> cases h
    | n j => cases j <;> cases h
    | p => rfl
theorem Aof_inj {a b c d e f g h i j k l m : Addr} (hn : [a, b, c, d, e, f, g, h, i, j, k, l, m].Nodup) (s t : Sl) (e1 : Aof a b c d e f g h i j k l m s = Aof a b c d e f g h i j k l m t) : s = t := by
  have get : ∀ s, [a, b, c, d, e, f, g, h, i, j, k, l, m][sIx s]? = some (Aof a b c d e f g h i j k l m s) := fun s => by
    cases s with
    | f x => cases x <;> rfl
    | r x => cases x <;> rfl
    | n x => cases x <;> rfl
    | p => rfl
  have lt : ∀ s, sIx s < [a, b, c, d, e, f, g, h, i, j, k, l, m].length := fun s => (List.getElem?_eq_some_iff.mp (get s)).1
  refine sIx_inj ((List.getElem?_inj (lt s) hn).mp ?_)
  rw [get s, get t, e1]
theorem poolne {H : Hp} {a y : Addr} {n : Nat} (h : Pool H a n) (hy : H y = none) : y ≠ a := by
  obtain ⟨d, c, h⟩ := h
  exact (ne_of_none h hy).symm
theorem Pool.keepA {H H' : Hp} {a m : Addr} {n : Nat} (h : Pool H a n) (k : KeepA m H H') (ne : a ≠ m) : Pool H' a n := by
  obtain ⟨d, c, h⟩ := h
  exact ⟨d, c, k _ _ ne h⟩
theorem mkEx {H : Hp} {x dx : Addr} {o1 o2 : HO} (h1 : H x = none) (h2 : H dx = none) : Ex H (upd (upd H dx o1) x o2) := fun b o e => by
  rw [upd_ne (ne_of_none e h1), upd_ne (ne_of_none e h2)]
  exact e
theorem sq_keep {K : PySem.W.Frag} {H H' : Hp} {a : Addr} {xs : List V} (h : SqL K H a xs) (k : ∀ o, H a = some o → H' a = some o) : SqL K H' a xs := by
  rcases h with h | h
  · refine .inl ?_
    rcases h with h | ⟨o, h⟩
    · exact .inl (k _ h)
    · exact .inr ⟨o, k _ h⟩
  · exact .inr h
theorem rooms5 (w : Nat) (h : w < 5) : ∃ v : Int, atI [V.int 1, .int 2, .int 3, .int 8, .int 64] (w : Int) = some (V.int v) ∧ 1 ≤ v ∧ v ≤ 64 := by
  match w, h with
  | 0, _ => exact ⟨1, rfl, by decide, by decide⟩
  | 1, _ => exact ⟨2, rfl, by decide, by decide⟩
  | 2, _ => exact ⟨3, rfl, by decide, by decide⟩
  | 3, _ => exact ⟨8, rfl, by decide, by decide⟩
  | 4, _ => exact ⟨64, rfl, by decide, by decide⟩
theorem rooms4 (w : Nat) (h : w < 4) : ∃ v : Int, atI [V.int 1, .int 3, .int 8, .int 64] (w : Int) = some (V.int v) ∧ 1 ≤ v ∧ v ≤ 64 := by
  match w, h with
  | 0, _ => exact ⟨1, rfl, by decide, by decide⟩
  | 1, _ => exact ⟨3, rfl, by decide, by decide⟩
  | 2, _ => exact ⟨8, rfl, by decide, by decide⟩
  | 3, _ => exact ⟨64, rfl, by decide, by decide⟩
theorem putK_le {kvs : List (Key × V)} {k : Key} {v : V} {n : Nat} (h : kvs.length ≤ n) : (putK kvs k v).length ≤ n + 1 := by
  unfold putK
  split
  · rw [List.length_map]
    omega
  · rw [List.length_append, List.length_singleton]
    omega
theorem mk3_len {a b c : Key × V} : (mergeK [] [a, b, c]).length ≤ 3 := putK_le (putK_le (putK_le (Nat.le_refl _)))
def z00 : Z := ⟨fun _ => 0, fun _ => 0, fun _ => 0, fun _ => 0, fun _ => [], true, fun _ => false⟩
theorem kvs4 {rl x2 xp y1 y2 y3 y4 : Addr} : putK (putK (putK (putK (mergeK [] [(Sum.inr "row", .ref rl), (Sum.inr "there", .ref x2), (Sum.inr "pipe", .ref xp)]) (Sum.inr "from") (.ref y1)) (Sum.inr "in") (.ref y2)) (Sum.inr "out") (.ref y3)) (Sum.inr "into") (.ref y4) =
    ([(Sum.inr "row", .ref rl), (Sum.inr "there", .ref x2), (Sum.inr "pipe", .ref xp), (Sum.inr "from", .ref y1), (Sum.inr "in", .ref y2), (Sum.inr "out", .ref y3), (Sum.inr "into", .ref y4)] : List (Key × V)) := by kernel_rfl
theorem Txt.kDev {K : PySem.W.Frag} {mg : Str → Option Value} (T : Txt K mg) : ∃ mv : List Value, KBn K (fdO K d_Device___init__) ["self", "content", "plan", "seeks"] 2 ["plan"] (fun us ws => us ++ (ws ++ mv)) (fun vs zs => vs ++ (zs ++ [V.bl true])) :=
  T.F_Device___init__.kbinds0 (ps := ["self", "content", "plan", "seeks"]) 2 ["plan"] [("seeks", .bl true)] (fun us mv ws => us ++ (ws ++ mv)) (fun z => by cases (show [(("seeks" : Str), V.bl true)] = [] from z)) (fun q hq => hq) (fun a b c => a.append (c.append b)) fun D doc pm an cdv ct us mv ws hu hm hw => by
    match us, hu, mv, hm, ws, hw with
    | [_, _], _, [_], _, [_], _ => exact ⟨_, _, _, _, _, _, rfl, rfl, rfl⟩
theorem Txt.kPipe {K : PySem.W.Frag} {mg : Str → Option Value} (T : Txt K mg) : KBn K (fdO K d_Pipe___init__) ["self", "room"] 1 ["room"] (fun us ws => us ++ ws) (fun vs zs => vs ++ zs) := by
  obtain ⟨mv, h⟩ := T.F_Pipe___init__.kbinds0 (ps := ["self", "room"]) 1 ["room"] [] (fun us _ ws => us ++ ws) (fun z => by cases (show [(("room" : Str), V.int 8)] = [] from z)) (fun q hq => by cases hq) (fun a _ c => a.append c) fun D doc pm an cdv ct us mv ws hu hm hw => by
    match us, hu, ws, hw with
    | [_], _, [_], _ => rfl
  exact h
theorem Txt.kFile1 {K : PySem.W.Frag} {mg : Str → Option Value} (T : Txt K mg) : ∃ mv : List Value, KBn K (fdO K d_File___init__) ["self", "raw", "room", "reads", "writes"] 2 ["room"] (fun us ws => us ++ (ws ++ mv)) (fun vs zs => vs ++ (zs ++ [V.bl true, .bl true])) :=
  T.F_File___init__.kbinds0 (ps := ["self", "raw", "room", "reads", "writes"]) 2 ["room"] [("reads", .bl true), ("writes", .bl true)] (fun us mv ws => us ++ (ws ++ mv)) (fun z => by cases (show [(("room" : Str), V.int 8), ("reads", .bl true), ("writes", .bl true)] = [] from z)) (fun q hq => .tail _ hq) (fun a b c => a.append (c.append b)) fun D doc pm an cdv ct us mv ws hu hm hw => by
    match us, hu, mv, hm, ws, hw with
    | [_, _], _, [_, _], _, [_], _ => exact ⟨_, _, _, _, _, _, rfl, rfl, _, _, _, _, _, _, rfl, rfl, rfl⟩
theorem Txt.kFile2 {K : PySem.W.Frag} {mg : Str → Option Value} (T : Txt K mg) : ∃ mv : List Value, KBn K (fdO K d_File___init__) ["self", "raw", "room", "reads", "writes"] 2 ["room", "reads"] (fun us ws => us ++ (ws ++ mv)) (fun vs zs => vs ++ (zs ++ [V.bl true])) :=
  T.F_File___init__.kbinds0 (ps := ["self", "raw", "room", "reads", "writes"]) 2 ["room", "reads"] [("writes", .bl true)] (fun us mv ws => us ++ (ws ++ mv)) (fun z => by cases (show [(("room" : Str), V.int 8), ("reads", .bl true), ("writes", .bl true)] = [] from z)) (fun q hq => .tail _ (.tail _ hq)) (fun a b c => a.append (c.append b)) fun D doc pm an cdv ct us mv ws hu hm hw => by
    match us, hu, mv, hm, ws, hw with
    | [_, _], _, [_], _, [_, _], _ => exact ⟨_, _, _, _, _, _, rfl, rfl, rfl⟩
theorem Txt.kFile3 {K : PySem.W.Frag} {mg : Str → Option Value} (T : Txt K mg) : ∃ mv : List Value, KBn K (fdO K d_File___init__) ["self", "raw", "room", "reads", "writes"] 2 ["room", "writes"] (fun us ws => us ++ (ws.take 1 ++ (mv ++ ws.drop 1))) (fun vs zs => vs ++ (zs.take 1 ++ ([V.bl true] ++ zs.drop 1))) :=
  T.F_File___init__.kbinds0 (ps := ["self", "raw", "room", "reads", "writes"]) 2 ["room", "writes"] [("reads", .bl true)] (fun us mv ws => us ++ (ws.take 1 ++ (mv ++ ws.drop 1))) (fun z => by cases (show [(("room" : Str), V.int 8), ("reads", .bl true), ("writes", .bl true)] = [] from z)) (fun q hq => by
      rw [List.mem_singleton.mp hq]
      exact .tail _ (.head _)) (fun a b c => a.append ((c.take 1).append (b.append (c.drop 1)))) fun D doc pm an cdv ct us mv ws hu hm hw => by
    match us, hu, mv, hm, ws, hw with
    | [_, _], _, [_], _, [_, _], _ => exact ⟨_, _, _, _, _, _, rfl, rfl, rfl⟩
def spLaw (K : PySem.W.Frag) : Sp := fun vs H Q _ => ∃ (a : Addr) (ns : List Int), vs = [.ref a] ∧ SqL K H a (ns.map V.int) ∧ ns.length ≤ 63 ∧ ∀ H', Q (.bl true) H'
section
variable {prog : Program} {w : World} {base : Heap} {K : PySem.W.Frag} {mg : Str → Option Value}
theorem ok_law (T : Txt K mg) : FnOk prog w K mg base CXz 13 (He.fAd K d_law.at_) (fdO K d_law) ["_law_script"] (spLaw K) :=
  T.F_law.ok sc_law (fun vs H Q E h => by obtain ⟨_, _, rfl, _⟩ := h; rfl) fun cdv A outer st H vs Q E hr h => by
    obtain ⟨a0, ns, rfl, hsc, hns, q⟩ := h
    obtain ⟨mvD, kD⟩ := T.kDev
    obtain ⟨mv1, kF1⟩ := T.kFile1
    obtain ⟨mv2, kF2⟩ := T.kFile2
    obtain ⟨mv3, kF3⟩ := T.kFile3
    refine ⟨_, (pss_cons (ps_set (i := 1) sc_law.nd rfl (Or.inl rfl) (pe_call (ok__law_pool T) (hr.mono (by decide)) (by rfl) T.g__law_pool T.F__law_pool.kp T.b__law_pool .nil pz (pa_cons (pv 0) (pa_cons pe_int pa_nil)))) (pss_cons (ps_set (i := 2) sc_law.nd rfl (Or.inl rfl) (pe_call (ok__law_row T) (hr.mono (by decide)) (by rfl) T.g__law_row T.F__law_row.kp T.b__law_row .nil pz (pa_cons (pv 1) (pa_cons pe_int pa_nil)))) (pss_cons (ps_set (i := 3) sc_law.nd rfl (Or.inl rfl) (pe_call (ok__law_row T) (hr.mono (by decide)) (by rfl) T.g__law_row T.F__law_row.kp T.b__law_row .nil pz (pa_cons (pv 1) (pa_cons pe_int pa_nil)))) (pss_cons (ps_set (i := 4) sc_law.nd rfl (Or.inl rfl) (pe_makeK T.mk_Device (ok_Device___init__ T) (hr.mono (by decide)) (by rfl) T.g_Device kD pz (pa_cons (pv 2) pa_nil) (pk_cons (pe_call (ok__law_plan T) (hr.mono (by decide)) (by rfl) T.g__law_plan T.F__law_plan.kp T.b__law_plan .nil pz (pa_cons (pv 1) (pa_cons pe_int (pa_cons (pe_call (ok__law_take T) (hr.mono (by decide)) (by rfl) T.g__law_take T.F__law_take.kp T.b__law_take .nil pz (pa_cons (pv 1) (pa_cons pe_int pa_nil))) pa_nil)))) pk_nil))) (pss_cons (ps_set (i := 5) sc_law.nd rfl (Or.inl rfl) (pe_makeK T.mk_Device (ok_Device___init__ T) (hr.mono (by decide)) (by rfl) T.g_Device kD pz (pa_cons (pv 3) pa_nil) (pk_cons (pe_call (ok__law_plan T) (hr.mono (by decide)) (by rfl) T.g__law_plan T.F__law_plan.kp T.b__law_plan .nil pz (pa_cons (pv 1) (pa_cons pe_int (pa_cons (pe_call (ok__law_take T) (hr.mono (by decide)) (by rfl) T.g__law_take T.F__law_take.kp T.b__law_take .nil pz (pa_cons (pv 1) (pa_cons pe_int pa_nil))) pa_nil)))) pk_nil))) (pss_cons (ps_set (i := 6) sc_law.nd rfl (Or.inl rfl) (pe_makeK0 T.mk_Pipe (ok_Pipe___init__ T) (hr.mono (by decide)) (by rfl) T.g_Pipe T.kPipe pz (pk_cons (pe_ix ix_list (pe_lst (pa_cons pe_int (pa_cons pe_int (pa_cons pe_int (pa_cons pe_int (pa_cons pe_int pa_nil)))))) (pe_call (ok__law_take T) (hr.mono (by decide)) (by rfl) T.g__law_take T.F__law_take.kp T.b__law_take .nil pz (pa_cons (pv 1) (pa_cons pe_int pa_nil))) (fun _ _ => rfl)) pk_nil))) (pss_cons (ps_set (i := 7) sc_law.nd rfl (Or.inl rfl) (pe_disp (pps_cons pe_str (pv 2) (pps_cons pe_str (pv 5) (pps_cons pe_str (pv 6) pps_nil))) (by rfl) (by rfl) (fun z => by cases z) (by decide))) (pss_cons (ps_dput (hu_of hr) (pv 7) pe_str (pe_makeK T.mk_File (ok_File___init__ T .fr) (hr.mono (by decide)) (by rfl) T.g_File kF1 pz (pa_cons (pv 4) pa_nil) (pk_cons (pe_ix ix_list (pe_lst (pa_cons pe_int (pa_cons pe_int (pa_cons pe_int (pa_cons pe_int pa_nil))))) (pe_call (ok__law_take T) (hr.mono (by decide)) (by rfl) T.g__law_take T.F__law_take.kp T.b__law_take .nil pz (pa_cons (pv 1) (pa_cons pe_int pa_nil))) (fun _ _ => rfl)) pk_nil)) rfl) (pss_cons (ps_dput (hu_of hr) (pv 7) pe_str (pe_makeK T.mk_File (ok_File___init__ T .wi) (hr.mono (by decide)) (by rfl) T.g_File kF2 pz (pa_cons (pe_meth0 (pv 6) T.cls_Pipe T.m_Pipe_into (ok_Pipe_into T) (hr.mono (by decide)) T.b_Pipe_into .nil pz) pa_nil) (pk_cons (pe_ix ix_list (pe_lst (pa_cons pe_int (pa_cons pe_int (pa_cons pe_int (pa_cons pe_int pa_nil))))) (pe_call (ok__law_take T) (hr.mono (by decide)) (by rfl) T.g__law_take T.F__law_take.kp T.b__law_take .nil pz (pa_cons (pv 1) (pa_cons pe_int pa_nil))) (fun _ _ => rfl)) (pk_cons pe_bl pk_nil))) rfl) (pss_cons (ps_dput (hu_of hr) (pv 7) pe_str (pe_makeK T.mk_File (ok_File___init__ T .ro) (hr.mono (by decide)) (by rfl) T.g_File kF3 pz (pa_cons (pe_meth0 (pv 6) T.cls_Pipe T.m_Pipe_out (ok_Pipe_out T) (hr.mono (by decide)) T.b_Pipe_out .nil pz) pa_nil) (pk_cons (pe_ix ix_list (pe_lst (pa_cons pe_int (pa_cons pe_int (pa_cons pe_int (pa_cons pe_int pa_nil))))) (pe_call (ok__law_take T) (hr.mono (by decide)) (by rfl) T.g__law_take T.F__law_take.kp T.b__law_take .nil pz (pa_cons (pv 1) (pa_cons pe_int pa_nil))) (fun _ _ => rfl)) (pk_cons pe_bl pk_nil))) rfl) (pss_cons (ps_dput (hu_of hr) (pv 7) pe_str (pe_makeK T.mk_File (ok_File___init__ T .to) (hr.mono (by decide)) (by rfl) T.g_File kF1 pz (pa_cons (pv 5) pa_nil) (pk_cons (pe_ix ix_list (pe_lst (pa_cons pe_int (pa_cons pe_int (pa_cons pe_int (pa_cons pe_int pa_nil))))) (pe_call (ok__law_take T) (hr.mono (by decide)) (by rfl) T.g__law_take T.F__law_take.kp T.b__law_take .nil pz (pa_cons (pv 1) (pa_cons pe_int pa_nil))) (fun _ _ => rfl)) pk_nil)) rfl) (pss_cons (ps_for PassesOwn.leaving rfl (pi_range2 (by rfl) T.n_range (pa_cons pe_int (pa_cons (pe_callB (call_max2 rfl) (by rfl) T.n_max (by decide +kernel) (pa_cons pe_int (pa_cons (pe_callB (call_min2 rfl) (by rfl) T.n_min (by decide +kernel) (pa_cons pe_int (pa_cons (pe_callB call_len_seq (by rfl) T.n_len PySem.boot_len (pa_cons (pv 0) pa_nil)) pa_nil))) pa_nil))) pa_nil))) (pg_name (i := 8) sc_law.nd rfl (Or.inl rfl)) (pss_one (ps_if (PW.pt (pw_or (pt_not (pt_val (pe_call (ok__law_deed T) (hr.mono (by decide)) (by rfl) T.g__law_deed T.F__law_deed.kp T.b__law_deed .nil pz (pa_cons (pe_call (ok__law_pool T) (hr.mono (by decide)) (by rfl) T.g__law_pool T.F__law_pool.kp T.b__law_pool .nil pz (pa_cons (pv 0) (pa_cons (pv 8) pa_nil))) (pa_cons (pv 7) pa_nil))))) (pw_or1 (pt_not (pt_val (pe_call (ok__law_stands T) (hr.mono (by decide)) (by rfl) T.g__law_stands T.F__law_stands.kp T.b__law_stands .nil pz (pa_cons (pv 7) pa_nil))))))) (pss_one (ps_ret pe_bl)) pss_nil))) (pss_cons (ps_if (pt_not (pt_val (pe_call (ok__law_all_come T) (hr.mono (by decide)) (by rfl) T.g__law_all_come T.F__law_all_come.kp T.b__law_all_come .nil pz (pa_cons (pv 7) pa_nil)))) (pss_one (ps_ret pe_bl)) pss_nil) (pss_cons (ps_for PassesOwn.leaving rfl (pi_range1 (by rfl) T.n_range (pa_cons pe_int pa_nil)) (pg_name (i := 8) sc_law.nd rfl (Or.inl rfl)) (pss_cons (ps_set (i := 9) sc_law.nd rfl (Or.inl rfl) (pe_call (okP T) (hr.mono (by decide)) (by rfl) T.g__law_poured T.F__law_poured.kp T.b__law_poured .nil pz (pa_cons (pe_dget (hu_of hr) (pv 7) pe_str (fun _ _ => rfl)) (pa_cons (pe_dget (hu_of hr) (pv 7) pe_str (fun _ _ => rfl)) (pa_cons pe_int (pa_cons pe_non pa_nil)))))) (pss_cons (ps_if (PW.pt (pw_or (pt_cmpR op_isRB (pv 9) pe_bl (nomark _)) (pw_or1 (pt_not (pt_val (pe_call (ok__law_stands T) (hr.mono (by decide)) (by rfl) T.g__law_stands T.F__law_stands.kp T.b__law_stands .nil pz (pa_cons (pv 7) pa_nil))))))) (pss_one (ps_ret pe_bl)) pss_nil) (pss_one (ps_if (PW.pt (pw_and (pt_cmpR op_eq (pe_ix ix_list (pv 9) pe_int (fun _ _ => rfl)) pe_str (nomark _)) (pw_and1 (pt_cmpR op_eq (pe_call (okF T) (hr.mono (by decide)) (by rfl) T.g__law_flushed T.F__law_flushed.kp T.b__law_flushed .nil pz (pa_cons (pe_dget (hu_of hr) (pv 7) pe_str (fun _ _ => rfl)) pa_nil)) pe_int (nomark _))))) (pss_one (ps_ret (pe_cmpR (op_eqD hr.units) (pe_meth0 (pv 5) T.cls_Device T.m_Device_content (ok_Device_content T) (hr.mono (by decide)) T.b_Device_content .nil pz) (pe_call (ok__law_laid T) (hr.mono (by decide)) (by rfl) T.g__law_laid T.F__law_laid.kp T.b__law_laid .nil pz (pa_cons (pv 3) (pa_cons pe_int (pa_cons (pv 2) pa_nil)))) (nomark _)))) pss_nil))))) (pss_one (ps_ret pe_bl)))))))))))))))), ?_⟩
    refine ⟨_, rfl, a0, ns, 0, rfl, hsc, by decide, fun a G1 ha e1 hp1 => ?_⟩
    have hSa : ∀ o, H a0 = some o → a0 ≠ a := fun o h => ne_of_none h ha
    have hS_0 : ∀ o, H a0 = some o → G1 a0 = some o := fun o h => e1 _ _ h
    refine ⟨_, rfl, a, _, 40, rfl, hp1, by omega, by decide, fun rl row m2 G2 hrl hra k2 hp2 hm2 f_rl hrowl hby => ?_⟩
    have na_rl : rl ≠ a := poolne hp1 hrl
    have hS_1 : ∀ o, H a0 = some o → _ := fun o h => k2 _ _ (hSa o h) (hS_0 o h)
    refine ⟨_, rfl, a, _, 12, rfl, hp2, by omega, by decide, fun bl beh m3 G3 hbl hba k3 hp3 hm3 f_bl hbehl _ => ?_⟩
    have na_bl : bl ≠ a := poolne hp2 hbl
    have ne_bl_rl : bl ≠ rl := (ne_of_none f_rl hbl).symm
    have f_rl_2 := k3 _ _ na_rl f_rl
    have hS_2 : ∀ o, H a0 = some o → _ := fun o h => k3 _ _ (hSa o h) (hS_1 o h)
    refine ⟨_, rfl, _, rfl, _, rfl, a, _, 4, rfl, hp3, by omega, by decide, by decide, fun tr1 mt1 K1 htr1 hmt1 kt1 hpt1 => ?_⟩
    have f_rl_3 := kt1 _ _ na_rl f_rl_2
    have f_bl_3 := kt1 _ _ na_bl f_bl
    have hS_3 : ∀ o, H a0 = some o → _ := fun o h => kt1 _ _ (hSa o h) (hS_2 o h)
    refine ⟨a, _, 30, _, rfl, hpt1, by omega, by decide, fun q1 plan1 mq1 L1 hq1 hqa1 kq1 hpq1 hmq1 f_q1 hplan1 => ⟨rfl, rfl, ?_⟩⟩
    have na_q1 : q1 ≠ a := poolne hpt1 hq1
    have ne_q1_rl : q1 ≠ rl := (ne_of_none f_rl_3 hq1).symm
    have ne_q1_bl : q1 ≠ bl := (ne_of_none f_bl_3 hq1).symm
    have f_rl_4 := kq1 _ _ na_rl f_rl_3
    have f_bl_4 := kq1 _ _ na_bl f_bl_3
    have hS_4 : ∀ o, H a0 = some o → _ := fun o h => kq1 _ _ (hSa o h) (hS_3 o h)
    refine fun x1 dx1 hx1 hdx1 hxd1 => ?_
    have em1 : Ex L1 (upd (upd L1 dx1 (.own x1)) x1 (.ins (He.ga K "Device") dx1 [])) := mkEx hx1 hdx1
    refine ⟨x1, dx1, rl, q1, _, _, rfl, upd_same, em1 _ _ f_rl_4, em1 _ _ f_q1, fun n1 st1 pl1 M1 hn1 hst1 hpl1 hstn1 hpln1 ki1 f_x1 f_n1 f_st1 f_pl1 => ⟨rfl, ?_⟩⟩
    have ei1 : Ex L1 M1 := mk_keep hx1 hdx1 ki1
    have na_x1 : x1 ≠ a := poolne hpq1 hx1
    have sne_x1 : ∀ o, H a0 = some o → a0 ≠ x1 := fun o h => ne_of_none (hS_4 o h) hx1
    have ne_x1_rl : x1 ≠ rl := (ne_of_none f_rl_4 hx1).symm
    have ne_x1_bl : x1 ≠ bl := (ne_of_none f_bl_4 hx1).symm
    have ne_x1_q1 : x1 ≠ q1 := (ne_of_none f_q1 hx1).symm
    have na_n1 : n1 ≠ a := poolne hpq1 (em1.back hn1)
    have sne_n1 : ∀ o, H a0 = some o → a0 ≠ n1 := fun o h => ne_of_none (hS_4 o h) (em1.back hn1)
    have ne_n1_rl : n1 ≠ rl := (ne_of_none f_rl_4 (em1.back hn1)).symm
    have ne_n1_bl : n1 ≠ bl := (ne_of_none f_bl_4 (em1.back hn1)).symm
    have ne_n1_q1 : n1 ≠ q1 := (ne_of_none f_q1 (em1.back hn1)).symm
    have na_st1 : st1 ≠ a := poolne hpq1 (em1.back hst1)
    have ne_st1_rl : st1 ≠ rl := (ne_of_none f_rl_4 (em1.back hst1)).symm
    have ne_st1_bl : st1 ≠ bl := (ne_of_none f_bl_4 (em1.back hst1)).symm
    have ne_st1_q1 : st1 ≠ q1 := (ne_of_none f_q1 (em1.back hst1)).symm
    have na_pl1 : pl1 ≠ a := poolne hpq1 (em1.back hpl1)
    have ne_pl1_rl : pl1 ≠ rl := (ne_of_none f_rl_4 (em1.back hpl1)).symm
    have ne_pl1_bl : pl1 ≠ bl := (ne_of_none f_bl_4 (em1.back hpl1)).symm
    have ne_pl1_q1 : pl1 ≠ q1 := (ne_of_none f_q1 (em1.back hpl1)).symm
    have ne_n1_x1 : n1 ≠ x1 := fun e => by rw [e, upd_same] at hn1; cases hn1
    have f_rl_5 := ei1 _ _ f_rl_4
    have f_bl_5 := ei1 _ _ f_bl_4
    have f_q1_5 := ei1 _ _ f_q1
    have hp_5 := Pool.ex hpq1 ei1
    have hS_5 : ∀ o, H a0 = some o → _ := fun o h => ei1 _ _ (hS_4 o h)
    refine ⟨_, rfl, _, rfl, _, rfl, a, _, 4, rfl, hp_5, by omega, by decide, by decide, fun tr2 mt2 K2 htr2 hmt2 kt2 hpt2 => ?_⟩
    have f_rl_6 := kt2 _ _ na_rl f_rl_5
    have f_bl_6 := kt2 _ _ na_bl f_bl_5
    have f_q1_6 := kt2 _ _ na_q1 f_q1_5
    have f_x1_6 := kt2 _ _ na_x1 f_x1
    have f_n1_6 := kt2 _ _ na_n1 f_n1
    have f_st1_6 := kt2 _ _ na_st1 f_st1
    have f_pl1_6 := kt2 _ _ na_pl1 f_pl1
    have hS_6 : ∀ o, H a0 = some o → _ := fun o h => kt2 _ _ (hSa o h) (hS_5 o h)
    refine ⟨a, _, 30, _, rfl, hpt2, by omega, by decide, fun q2 plan2 mq2 L2 hq2 hqa2 kq2 hpq2 hmq2 f_q2 hplan2 => ⟨rfl, rfl, ?_⟩⟩
    have na_q2 : q2 ≠ a := poolne hpt2 hq2
    have ne_q2_rl : q2 ≠ rl := (ne_of_none f_rl_6 hq2).symm
    have ne_q2_bl : q2 ≠ bl := (ne_of_none f_bl_6 hq2).symm
    have ne_q2_q1 : q2 ≠ q1 := (ne_of_none f_q1_6 hq2).symm
    have ne_q2_x1 : q2 ≠ x1 := (ne_of_none f_x1_6 hq2).symm
    have ne_q2_n1 : q2 ≠ n1 := (ne_of_none f_n1_6 hq2).symm
    have ne_q2_st1 : q2 ≠ st1 := (ne_of_none f_st1_6 hq2).symm
    have ne_q2_pl1 : q2 ≠ pl1 := (ne_of_none f_pl1_6 hq2).symm
    have f_rl_7 := kq2 _ _ na_rl f_rl_6
    have f_bl_7 := kq2 _ _ na_bl f_bl_6
    have f_q1_7 := kq2 _ _ na_q1 f_q1_6
    have f_x1_7 := kq2 _ _ na_x1 f_x1_6
    have f_n1_7 := kq2 _ _ na_n1 f_n1_6
    have f_st1_7 := kq2 _ _ na_st1 f_st1_6
    have f_pl1_7 := kq2 _ _ na_pl1 f_pl1_6
    have hS_7 : ∀ o, H a0 = some o → _ := fun o h => kq2 _ _ (hSa o h) (hS_6 o h)
    refine fun x2 dx2 hx2 hdx2 hxd2 => ?_
    have em2 : Ex L2 (upd (upd L2 dx2 (.own x2)) x2 (.ins (He.ga K "Device") dx2 [])) := mkEx hx2 hdx2
    refine ⟨x2, dx2, bl, q2, _, _, rfl, upd_same, em2 _ _ f_bl_7, em2 _ _ f_q2, fun n2 st2 pl2 M2 hn2 hst2 hpl2 hstn2 hpln2 ki2 f_x2 f_n2 f_st2 f_pl2 => ⟨rfl, ?_⟩⟩
    have ei2 : Ex L2 M2 := mk_keep hx2 hdx2 ki2
    have na_x2 : x2 ≠ a := poolne hpq2 hx2
    have sne_x2 : ∀ o, H a0 = some o → a0 ≠ x2 := fun o h => ne_of_none (hS_7 o h) hx2
    have ne_x2_rl : x2 ≠ rl := (ne_of_none f_rl_7 hx2).symm
    have ne_x2_bl : x2 ≠ bl := (ne_of_none f_bl_7 hx2).symm
    have ne_x2_q1 : x2 ≠ q1 := (ne_of_none f_q1_7 hx2).symm
    have ne_x2_x1 : x2 ≠ x1 := (ne_of_none f_x1_7 hx2).symm
    have ne_x2_n1 : x2 ≠ n1 := (ne_of_none f_n1_7 hx2).symm
    have ne_x2_st1 : x2 ≠ st1 := (ne_of_none f_st1_7 hx2).symm
    have ne_x2_pl1 : x2 ≠ pl1 := (ne_of_none f_pl1_7 hx2).symm
    have ne_x2_q2 : x2 ≠ q2 := (ne_of_none f_q2 hx2).symm
    have na_n2 : n2 ≠ a := poolne hpq2 (em2.back hn2)
    have sne_n2 : ∀ o, H a0 = some o → a0 ≠ n2 := fun o h => ne_of_none (hS_7 o h) (em2.back hn2)
    have ne_n2_rl : n2 ≠ rl := (ne_of_none f_rl_7 (em2.back hn2)).symm
    have ne_n2_bl : n2 ≠ bl := (ne_of_none f_bl_7 (em2.back hn2)).symm
    have ne_n2_q1 : n2 ≠ q1 := (ne_of_none f_q1_7 (em2.back hn2)).symm
    have ne_n2_x1 : n2 ≠ x1 := (ne_of_none f_x1_7 (em2.back hn2)).symm
    have ne_n2_n1 : n2 ≠ n1 := (ne_of_none f_n1_7 (em2.back hn2)).symm
    have ne_n2_st1 : n2 ≠ st1 := (ne_of_none f_st1_7 (em2.back hn2)).symm
    have ne_n2_pl1 : n2 ≠ pl1 := (ne_of_none f_pl1_7 (em2.back hn2)).symm
    have ne_n2_q2 : n2 ≠ q2 := (ne_of_none f_q2 (em2.back hn2)).symm
    have na_st2 : st2 ≠ a := poolne hpq2 (em2.back hst2)
    have ne_st2_rl : st2 ≠ rl := (ne_of_none f_rl_7 (em2.back hst2)).symm
    have ne_st2_bl : st2 ≠ bl := (ne_of_none f_bl_7 (em2.back hst2)).symm
    have ne_st2_q1 : st2 ≠ q1 := (ne_of_none f_q1_7 (em2.back hst2)).symm
    have ne_st2_x1 : st2 ≠ x1 := (ne_of_none f_x1_7 (em2.back hst2)).symm
    have ne_st2_n1 : st2 ≠ n1 := (ne_of_none f_n1_7 (em2.back hst2)).symm
    have ne_st2_st1 : st2 ≠ st1 := (ne_of_none f_st1_7 (em2.back hst2)).symm
    have ne_st2_pl1 : st2 ≠ pl1 := (ne_of_none f_pl1_7 (em2.back hst2)).symm
    have ne_st2_q2 : st2 ≠ q2 := (ne_of_none f_q2 (em2.back hst2)).symm
    have na_pl2 : pl2 ≠ a := poolne hpq2 (em2.back hpl2)
    have ne_pl2_rl : pl2 ≠ rl := (ne_of_none f_rl_7 (em2.back hpl2)).symm
    have ne_pl2_bl : pl2 ≠ bl := (ne_of_none f_bl_7 (em2.back hpl2)).symm
    have ne_pl2_q1 : pl2 ≠ q1 := (ne_of_none f_q1_7 (em2.back hpl2)).symm
    have ne_pl2_x1 : pl2 ≠ x1 := (ne_of_none f_x1_7 (em2.back hpl2)).symm
    have ne_pl2_n1 : pl2 ≠ n1 := (ne_of_none f_n1_7 (em2.back hpl2)).symm
    have ne_pl2_st1 : pl2 ≠ st1 := (ne_of_none f_st1_7 (em2.back hpl2)).symm
    have ne_pl2_pl1 : pl2 ≠ pl1 := (ne_of_none f_pl1_7 (em2.back hpl2)).symm
    have ne_pl2_q2 : pl2 ≠ q2 := (ne_of_none f_q2 (em2.back hpl2)).symm
    have ne_n2_x2 : n2 ≠ x2 := fun e => by rw [e, upd_same] at hn2; cases hn2
    have f_rl_8 := ei2 _ _ f_rl_7
    have f_bl_8 := ei2 _ _ f_bl_7
    have f_q1_8 := ei2 _ _ f_q1_7
    have f_x1_8 := ei2 _ _ f_x1_7
    have f_n1_8 := ei2 _ _ f_n1_7
    have f_st1_8 := ei2 _ _ f_st1_7
    have f_pl1_8 := ei2 _ _ f_pl1_7
    have f_q2_8 := ei2 _ _ f_q2
    have hp_8 := Pool.ex hpq2 ei2
    have hS_8 : ∀ o, H a0 = some o → _ := fun o h => ei2 _ _ (hS_7 o h)
    refine ⟨sz1 (by simp), fun pp hpp => ?_⟩
    have epp := Ex.new (o := .lst [.int 1, .int 2, .int 3, .int 8, .int 64]) hpp
    have npp : pp ≠ a := poolne hp_8 hpp
    refine ⟨_, rfl, a, _, 5, rfl, Pool.ex hp_8 epp, by omega, by decide, by decide, fun rp mp N1 hrp hmp kp hpp1 => ?_⟩
    have kpp := (KeepA.ex (a := a) epp).trans kp
    obtain ⟨proom, hproom, hpr1, hpr2⟩ := rooms5 rp hrp
    refine ⟨pp, _, _, _, rfl, rfl, .inl (.inl (kp _ _ npp upd_same)), hproom, rfl, rfl, ?_⟩
    have f_rl_9 := kpp _ _ na_rl f_rl_8
    have f_bl_9 := kpp _ _ na_bl f_bl_8
    have f_q1_9 := kpp _ _ na_q1 f_q1_8
    have f_x1_9 := kpp _ _ na_x1 f_x1_8
    have f_n1_9 := kpp _ _ na_n1 f_n1_8
    have f_st1_9 := kpp _ _ na_st1 f_st1_8
    have f_pl1_9 := kpp _ _ na_pl1 f_pl1_8
    have f_q2_9 := kpp _ _ na_q2 f_q2_8
    have f_x2_9 := kpp _ _ na_x2 f_x2
    have f_n2_9 := kpp _ _ na_n2 f_n2
    have f_st2_9 := kpp _ _ na_st2 f_st2
    have f_pl2_9 := kpp _ _ na_pl2 f_pl2
    have hS_9 : ∀ o, H a0 = some o → _ := fun o h => kpp _ _ (hSa o h) (hS_8 o h)
    refine fun xp dxp hxp hdxp hxdp => ⟨xp, dxp, proom, rfl, hpr1, hpr2, upd_same, fun ins xm dm1 nm xd dd1 nd1 O1 hxm hnm hxd hnd hins hnod hinsne kip f_xp f_ins f_xm f_nm f_xd f_nd => ⟨rfl, ?_⟩⟩
    have emp : Ex N1 (upd (upd N1 dxp (.own xp)) xp (.ins (He.ga K "Pipe") dxp [])) := mkEx hxp hdxp
    have eip : Ex N1 O1 := mk_keep hxp hdxp kip
    have na_xp : xp ≠ a := poolne hpp1 hxp
    have sne_xp : ∀ o, H a0 = some o → a0 ≠ xp := fun o h => ne_of_none (hS_9 o h) hxp
    have ne_xp_rl : xp ≠ rl := (ne_of_none f_rl_9 hxp).symm
    have ne_xp_bl : xp ≠ bl := (ne_of_none f_bl_9 hxp).symm
    have ne_xp_q1 : xp ≠ q1 := (ne_of_none f_q1_9 hxp).symm
    have ne_xp_x1 : xp ≠ x1 := (ne_of_none f_x1_9 hxp).symm
    have ne_xp_n1 : xp ≠ n1 := (ne_of_none f_n1_9 hxp).symm
    have ne_xp_st1 : xp ≠ st1 := (ne_of_none f_st1_9 hxp).symm
    have ne_xp_pl1 : xp ≠ pl1 := (ne_of_none f_pl1_9 hxp).symm
    have ne_xp_q2 : xp ≠ q2 := (ne_of_none f_q2_9 hxp).symm
    have ne_xp_x2 : xp ≠ x2 := (ne_of_none f_x2_9 hxp).symm
    have ne_xp_n2 : xp ≠ n2 := (ne_of_none f_n2_9 hxp).symm
    have ne_xp_st2 : xp ≠ st2 := (ne_of_none f_st2_9 hxp).symm
    have ne_xp_pl2 : xp ≠ pl2 := (ne_of_none f_pl2_9 hxp).symm
    have na_xm : xm ≠ a := poolne hpp1 (emp.back hxm)
    have sne_xm : ∀ o, H a0 = some o → a0 ≠ xm := fun o h => ne_of_none (hS_9 o h) (emp.back hxm)
    have ne_xm_rl : xm ≠ rl := (ne_of_none f_rl_9 (emp.back hxm)).symm
    have ne_xm_bl : xm ≠ bl := (ne_of_none f_bl_9 (emp.back hxm)).symm
    have ne_xm_q1 : xm ≠ q1 := (ne_of_none f_q1_9 (emp.back hxm)).symm
    have ne_xm_x1 : xm ≠ x1 := (ne_of_none f_x1_9 (emp.back hxm)).symm
    have ne_xm_n1 : xm ≠ n1 := (ne_of_none f_n1_9 (emp.back hxm)).symm
    have ne_xm_st1 : xm ≠ st1 := (ne_of_none f_st1_9 (emp.back hxm)).symm
    have ne_xm_pl1 : xm ≠ pl1 := (ne_of_none f_pl1_9 (emp.back hxm)).symm
    have ne_xm_q2 : xm ≠ q2 := (ne_of_none f_q2_9 (emp.back hxm)).symm
    have ne_xm_x2 : xm ≠ x2 := (ne_of_none f_x2_9 (emp.back hxm)).symm
    have ne_xm_n2 : xm ≠ n2 := (ne_of_none f_n2_9 (emp.back hxm)).symm
    have ne_xm_st2 : xm ≠ st2 := (ne_of_none f_st2_9 (emp.back hxm)).symm
    have ne_xm_pl2 : xm ≠ pl2 := (ne_of_none f_pl2_9 (emp.back hxm)).symm
    have na_nm : nm ≠ a := poolne hpp1 (emp.back hnm)
    have sne_nm : ∀ o, H a0 = some o → a0 ≠ nm := fun o h => ne_of_none (hS_9 o h) (emp.back hnm)
    have ne_nm_rl : nm ≠ rl := (ne_of_none f_rl_9 (emp.back hnm)).symm
    have ne_nm_bl : nm ≠ bl := (ne_of_none f_bl_9 (emp.back hnm)).symm
    have ne_nm_q1 : nm ≠ q1 := (ne_of_none f_q1_9 (emp.back hnm)).symm
    have ne_nm_x1 : nm ≠ x1 := (ne_of_none f_x1_9 (emp.back hnm)).symm
    have ne_nm_n1 : nm ≠ n1 := (ne_of_none f_n1_9 (emp.back hnm)).symm
    have ne_nm_st1 : nm ≠ st1 := (ne_of_none f_st1_9 (emp.back hnm)).symm
    have ne_nm_pl1 : nm ≠ pl1 := (ne_of_none f_pl1_9 (emp.back hnm)).symm
    have ne_nm_q2 : nm ≠ q2 := (ne_of_none f_q2_9 (emp.back hnm)).symm
    have ne_nm_x2 : nm ≠ x2 := (ne_of_none f_x2_9 (emp.back hnm)).symm
    have ne_nm_n2 : nm ≠ n2 := (ne_of_none f_n2_9 (emp.back hnm)).symm
    have ne_nm_st2 : nm ≠ st2 := (ne_of_none f_st2_9 (emp.back hnm)).symm
    have ne_nm_pl2 : nm ≠ pl2 := (ne_of_none f_pl2_9 (emp.back hnm)).symm
    have na_xd : xd ≠ a := poolne hpp1 (emp.back hxd)
    have sne_xd : ∀ o, H a0 = some o → a0 ≠ xd := fun o h => ne_of_none (hS_9 o h) (emp.back hxd)
    have ne_xd_rl : xd ≠ rl := (ne_of_none f_rl_9 (emp.back hxd)).symm
    have ne_xd_bl : xd ≠ bl := (ne_of_none f_bl_9 (emp.back hxd)).symm
    have ne_xd_q1 : xd ≠ q1 := (ne_of_none f_q1_9 (emp.back hxd)).symm
    have ne_xd_x1 : xd ≠ x1 := (ne_of_none f_x1_9 (emp.back hxd)).symm
    have ne_xd_n1 : xd ≠ n1 := (ne_of_none f_n1_9 (emp.back hxd)).symm
    have ne_xd_st1 : xd ≠ st1 := (ne_of_none f_st1_9 (emp.back hxd)).symm
    have ne_xd_pl1 : xd ≠ pl1 := (ne_of_none f_pl1_9 (emp.back hxd)).symm
    have ne_xd_q2 : xd ≠ q2 := (ne_of_none f_q2_9 (emp.back hxd)).symm
    have ne_xd_x2 : xd ≠ x2 := (ne_of_none f_x2_9 (emp.back hxd)).symm
    have ne_xd_n2 : xd ≠ n2 := (ne_of_none f_n2_9 (emp.back hxd)).symm
    have ne_xd_st2 : xd ≠ st2 := (ne_of_none f_st2_9 (emp.back hxd)).symm
    have ne_xd_pl2 : xd ≠ pl2 := (ne_of_none f_pl2_9 (emp.back hxd)).symm
    have na_nd1 : nd1 ≠ a := poolne hpp1 (emp.back hnd)
    have sne_nd1 : ∀ o, H a0 = some o → a0 ≠ nd1 := fun o h => ne_of_none (hS_9 o h) (emp.back hnd)
    have ne_nd1_rl : nd1 ≠ rl := (ne_of_none f_rl_9 (emp.back hnd)).symm
    have ne_nd1_bl : nd1 ≠ bl := (ne_of_none f_bl_9 (emp.back hnd)).symm
    have ne_nd1_q1 : nd1 ≠ q1 := (ne_of_none f_q1_9 (emp.back hnd)).symm
    have ne_nd1_x1 : nd1 ≠ x1 := (ne_of_none f_x1_9 (emp.back hnd)).symm
    have ne_nd1_n1 : nd1 ≠ n1 := (ne_of_none f_n1_9 (emp.back hnd)).symm
    have ne_nd1_st1 : nd1 ≠ st1 := (ne_of_none f_st1_9 (emp.back hnd)).symm
    have ne_nd1_pl1 : nd1 ≠ pl1 := (ne_of_none f_pl1_9 (emp.back hnd)).symm
    have ne_nd1_q2 : nd1 ≠ q2 := (ne_of_none f_q2_9 (emp.back hnd)).symm
    have ne_nd1_x2 : nd1 ≠ x2 := (ne_of_none f_x2_9 (emp.back hnd)).symm
    have ne_nd1_n2 : nd1 ≠ n2 := (ne_of_none f_n2_9 (emp.back hnd)).symm
    have ne_nd1_st2 : nd1 ≠ st2 := (ne_of_none f_st2_9 (emp.back hnd)).symm
    have ne_nd1_pl2 : nd1 ≠ pl2 := (ne_of_none f_pl2_9 (emp.back hnd)).symm
    have na_ins : ins ≠ a := poolne hpp1 (emp.back hins)
    have ne_ins_rl : ins ≠ rl := (ne_of_none f_rl_9 (emp.back hins)).symm
    have ne_ins_bl : ins ≠ bl := (ne_of_none f_bl_9 (emp.back hins)).symm
    have ne_ins_q1 : ins ≠ q1 := (ne_of_none f_q1_9 (emp.back hins)).symm
    have ne_ins_x1 : ins ≠ x1 := (ne_of_none f_x1_9 (emp.back hins)).symm
    have ne_ins_n1 : ins ≠ n1 := (ne_of_none f_n1_9 (emp.back hins)).symm
    have ne_ins_st1 : ins ≠ st1 := (ne_of_none f_st1_9 (emp.back hins)).symm
    have ne_ins_pl1 : ins ≠ pl1 := (ne_of_none f_pl1_9 (emp.back hins)).symm
    have ne_ins_q2 : ins ≠ q2 := (ne_of_none f_q2_9 (emp.back hins)).symm
    have ne_ins_x2 : ins ≠ x2 := (ne_of_none f_x2_9 (emp.back hins)).symm
    have ne_ins_n2 : ins ≠ n2 := (ne_of_none f_n2_9 (emp.back hins)).symm
    have ne_ins_st2 : ins ≠ st2 := (ne_of_none f_st2_9 (emp.back hins)).symm
    have ne_ins_pl2 : ins ≠ pl2 := (ne_of_none f_pl2_9 (emp.back hins)).symm
    simp only [List.nodup_cons, List.mem_cons, List.mem_nil_iff, or_false, not_or] at hnod
    obtain ⟨⟨z1, z2, z3, z4⟩, ⟨z5, z6, z7⟩, ⟨z8, z9⟩, z10, _⟩ := hnod
    have f_rl_10 := eip _ _ f_rl_9
    have f_bl_10 := eip _ _ f_bl_9
    have f_q1_10 := eip _ _ f_q1_9
    have f_x1_10 := eip _ _ f_x1_9
    have f_n1_10 := eip _ _ f_n1_9
    have f_st1_10 := eip _ _ f_st1_9
    have f_pl1_10 := eip _ _ f_pl1_9
    have f_q2_10 := eip _ _ f_q2_9
    have f_x2_10 := eip _ _ f_x2_9
    have f_n2_10 := eip _ _ f_n2_9
    have f_st2_10 := eip _ _ f_st2_9
    have f_pl2_10 := eip _ _ f_pl2_9
    have hp_10 := Pool.ex hpp1 eip
    have hS_10 : ∀ o, H a0 = some o → _ := fun o h => eip _ _ (hS_9 o h)
    refine fun dm hdm => ⟨_, rfl, _, rfl, _, rfl, upd_same, [(Sum.inr "row", .ref rl), (Sum.inr "there", .ref x2), (Sum.inr "pipe", .ref xp)], rfl, Nat.le_of_ble_eq_true rfl, ?_⟩
    have na_dm : dm ≠ a := poolne hp_10 hdm
    have hSd : ∀ o, H a0 = some o → a0 ≠ dm := fun o h => ne_of_none (hS_10 o h) hdm
    have nd_rl : rl ≠ dm := ne_of_none f_rl_10 hdm
    have nd_bl : bl ≠ dm := ne_of_none f_bl_10 hdm
    have nd_q1 : q1 ≠ dm := ne_of_none f_q1_10 hdm
    have nd_x1 : x1 ≠ dm := ne_of_none f_x1_10 hdm
    have nd_n1 : n1 ≠ dm := ne_of_none f_n1_10 hdm
    have nd_st1 : st1 ≠ dm := ne_of_none f_st1_10 hdm
    have nd_pl1 : pl1 ≠ dm := ne_of_none f_pl1_10 hdm
    have nd_q2 : q2 ≠ dm := ne_of_none f_q2_10 hdm
    have nd_x2 : x2 ≠ dm := ne_of_none f_x2_10 hdm
    have nd_n2 : n2 ≠ dm := ne_of_none f_n2_10 hdm
    have nd_st2 : st2 ≠ dm := ne_of_none f_st2_10 hdm
    have nd_pl2 : pl2 ≠ dm := ne_of_none f_pl2_10 hdm
    have nd_xp : xp ≠ dm := ne_of_none f_xp hdm
    have nd_ins : ins ≠ dm := ne_of_none f_ins hdm
    have nd_xm : xm ≠ dm := ne_of_none f_xm hdm
    have nd_nm : nm ≠ dm := ne_of_none f_nm hdm
    have nd_xd : xd ≠ dm := ne_of_none f_xd hdm
    have nd_nd1 : nd1 ≠ dm := ne_of_none f_nd hdm
    rw [updd]
    obtain ⟨G12, hG12⟩ : ∃ G, G = upd O1 dm (.dK (mergeK [] [(Sum.inr "row", .ref rl), (Sum.inr "there", .ref x2), (Sum.inr "pipe", .ref xp)])) := ⟨_, rfl⟩
    rw [← hG12]
    have e12 : Ex O1 G12 := by rw [hG12]; exact Ex.new hdm
    have f_rl_11 := e12 _ _ f_rl_10
    have f_bl_11 := e12 _ _ f_bl_10
    have f_q1_11 := e12 _ _ f_q1_10
    have f_x1_11 := e12 _ _ f_x1_10
    have f_n1_11 := e12 _ _ f_n1_10
    have f_st1_11 := e12 _ _ f_st1_10
    have f_pl1_11 := e12 _ _ f_pl1_10
    have f_q2_11 := e12 _ _ f_q2_10
    have f_x2_11 := e12 _ _ f_x2_10
    have f_n2_11 := e12 _ _ f_n2_10
    have f_st2_11 := e12 _ _ f_st2_10
    have f_pl2_11 := e12 _ _ f_pl2_10
    have f_xp_11 := e12 _ _ f_xp
    have f_ins_11 := e12 _ _ f_ins
    have f_xm_11 := e12 _ _ f_xm
    have f_nm_11 := e12 _ _ f_nm
    have f_xd_11 := e12 _ _ f_xd
    have f_nd1_11 := e12 _ _ f_nd
    have hp_11 := Pool.ex hp_10 e12
    have hS_11 : ∀ o, H a0 = some o → _ := fun o h => e12 _ _ (hS_10 o h)
    have f_dm : G12 dm = some (.dK (mergeK [] [(Sum.inr "row", .ref rl), (Sum.inr "there", .ref x2), (Sum.inr "pipe", .ref xp)])) := by rw [hG12, upd_same]
    refine ⟨_, rfl, ?_⟩
    refine ⟨sz1 (by simp), fun pf1 hpf1 => ?_⟩
    have epf1 := Ex.new (o := .lst [.int 1, .int 3, .int 8, .int 64]) hpf1
    have npf1 : pf1 ≠ a := poolne hp_11 hpf1
    refine ⟨_, rfl, a, _, 4, rfl, Pool.ex hp_11 epf1, by omega, by decide, by decide, fun rf1 mf1 P1 hrf1 hmf1 kf1 hpff1 => ?_⟩
    have kff1 := (KeepA.ex (a := a) epf1).trans kf1
    obtain ⟨room1, hroom1, hrm1, hrn1⟩ := rooms4 rf1 hrf1
    refine ⟨pf1, _, _, _, rfl, rfl, .inl (.inl (kf1 _ _ npf1 upd_same)), hroom1, rfl, rfl, ?_⟩
    have f_rl_12 := kff1 _ _ na_rl f_rl_11
    have f_bl_12 := kff1 _ _ na_bl f_bl_11
    have f_q1_12 := kff1 _ _ na_q1 f_q1_11
    have f_x1_12 := kff1 _ _ na_x1 f_x1_11
    have f_n1_12 := kff1 _ _ na_n1 f_n1_11
    have f_st1_12 := kff1 _ _ na_st1 f_st1_11
    have f_pl1_12 := kff1 _ _ na_pl1 f_pl1_11
    have f_q2_12 := kff1 _ _ na_q2 f_q2_11
    have f_x2_12 := kff1 _ _ na_x2 f_x2_11
    have f_n2_12 := kff1 _ _ na_n2 f_n2_11
    have f_st2_12 := kff1 _ _ na_st2 f_st2_11
    have f_pl2_12 := kff1 _ _ na_pl2 f_pl2_11
    have f_xp_12 := kff1 _ _ na_xp f_xp_11
    have f_ins_12 := kff1 _ _ na_ins f_ins_11
    have f_xm_12 := kff1 _ _ na_xm f_xm_11
    have f_nm_12 := kff1 _ _ na_nm f_nm_11
    have f_xd_12 := kff1 _ _ na_xd f_xd_11
    have f_nd1_12 := kff1 _ _ na_nd1 f_nd1_11
    have f_dm_12 := kff1 _ _ na_dm f_dm
    have hS_12 : ∀ o, H a0 = some o → _ := fun o h => kff1 _ _ (hSa o h) (hS_11 o h)
    refine fun y1 dy1 hy1 hdy1 hyd1 => ?_
    have em11 : Ex P1 (upd (upd P1 dy1 (.own y1)) y1 (.ins (He.ga K "File") dy1 [])) := mkEx hy1 hdy1
    refine ⟨y1, dy1, x1, _, _, room1, rfl, hrm1, hrn1, upd_same, em11 _ _ f_x1_12, dF_live, dF_no_is_shut, dF_no_seeks, fun _ => ⟨dF_steady, dF_spot, dF_no_seeking, dF_no_place⟩, fun ah1 de1 mi1 Q1 hah1 hde1 hmi1 ki11 f_y1 f_ah1 f_de1 f_mi1 => ⟨rfl, ?_⟩⟩
    have ei11 : Ex P1 Q1 := mk_keep hy1 hdy1 ki11
    have na_y1 : y1 ≠ a := poolne hpff1 hy1
    have sne_y1 : ∀ o, H a0 = some o → a0 ≠ y1 := fun o h => ne_of_none (hS_12 o h) hy1
    have nd_y1 : y1 ≠ dm := (ne_of_none f_dm_12 hy1).symm
    have ne_y1_rl : y1 ≠ rl := (ne_of_none f_rl_12 hy1).symm
    have ne_y1_bl : y1 ≠ bl := (ne_of_none f_bl_12 hy1).symm
    have ne_y1_q1 : y1 ≠ q1 := (ne_of_none f_q1_12 hy1).symm
    have ne_y1_x1 : y1 ≠ x1 := (ne_of_none f_x1_12 hy1).symm
    have ne_y1_n1 : y1 ≠ n1 := (ne_of_none f_n1_12 hy1).symm
    have ne_y1_st1 : y1 ≠ st1 := (ne_of_none f_st1_12 hy1).symm
    have ne_y1_pl1 : y1 ≠ pl1 := (ne_of_none f_pl1_12 hy1).symm
    have ne_y1_q2 : y1 ≠ q2 := (ne_of_none f_q2_12 hy1).symm
    have ne_y1_x2 : y1 ≠ x2 := (ne_of_none f_x2_12 hy1).symm
    have ne_y1_n2 : y1 ≠ n2 := (ne_of_none f_n2_12 hy1).symm
    have ne_y1_st2 : y1 ≠ st2 := (ne_of_none f_st2_12 hy1).symm
    have ne_y1_pl2 : y1 ≠ pl2 := (ne_of_none f_pl2_12 hy1).symm
    have ne_y1_xp : y1 ≠ xp := (ne_of_none f_xp_12 hy1).symm
    have ne_y1_ins : y1 ≠ ins := (ne_of_none f_ins_12 hy1).symm
    have ne_y1_xm : y1 ≠ xm := (ne_of_none f_xm_12 hy1).symm
    have ne_y1_nm : y1 ≠ nm := (ne_of_none f_nm_12 hy1).symm
    have ne_y1_xd : y1 ≠ xd := (ne_of_none f_xd_12 hy1).symm
    have ne_y1_nd1 : y1 ≠ nd1 := (ne_of_none f_nd1_12 hy1).symm
    have na_ah1 : ah1 ≠ a := poolne hpff1 (em11.back hah1)
    have nd_ah1 : ah1 ≠ dm := (ne_of_none f_dm_12 (em11.back hah1)).symm
    have ne_ah1_rl : ah1 ≠ rl := (ne_of_none f_rl_12 (em11.back hah1)).symm
    have ne_ah1_bl : ah1 ≠ bl := (ne_of_none f_bl_12 (em11.back hah1)).symm
    have ne_ah1_q1 : ah1 ≠ q1 := (ne_of_none f_q1_12 (em11.back hah1)).symm
    have ne_ah1_x1 : ah1 ≠ x1 := (ne_of_none f_x1_12 (em11.back hah1)).symm
    have ne_ah1_n1 : ah1 ≠ n1 := (ne_of_none f_n1_12 (em11.back hah1)).symm
    have ne_ah1_st1 : ah1 ≠ st1 := (ne_of_none f_st1_12 (em11.back hah1)).symm
    have ne_ah1_pl1 : ah1 ≠ pl1 := (ne_of_none f_pl1_12 (em11.back hah1)).symm
    have ne_ah1_q2 : ah1 ≠ q2 := (ne_of_none f_q2_12 (em11.back hah1)).symm
    have ne_ah1_x2 : ah1 ≠ x2 := (ne_of_none f_x2_12 (em11.back hah1)).symm
    have ne_ah1_n2 : ah1 ≠ n2 := (ne_of_none f_n2_12 (em11.back hah1)).symm
    have ne_ah1_st2 : ah1 ≠ st2 := (ne_of_none f_st2_12 (em11.back hah1)).symm
    have ne_ah1_pl2 : ah1 ≠ pl2 := (ne_of_none f_pl2_12 (em11.back hah1)).symm
    have ne_ah1_xp : ah1 ≠ xp := (ne_of_none f_xp_12 (em11.back hah1)).symm
    have ne_ah1_ins : ah1 ≠ ins := (ne_of_none f_ins_12 (em11.back hah1)).symm
    have ne_ah1_xm : ah1 ≠ xm := (ne_of_none f_xm_12 (em11.back hah1)).symm
    have ne_ah1_nm : ah1 ≠ nm := (ne_of_none f_nm_12 (em11.back hah1)).symm
    have ne_ah1_xd : ah1 ≠ xd := (ne_of_none f_xd_12 (em11.back hah1)).symm
    have ne_ah1_nd1 : ah1 ≠ nd1 := (ne_of_none f_nd1_12 (em11.back hah1)).symm
    have na_de1 : de1 ≠ a := poolne hpff1 (em11.back hde1)
    have nd_de1 : de1 ≠ dm := (ne_of_none f_dm_12 (em11.back hde1)).symm
    have ne_de1_rl : de1 ≠ rl := (ne_of_none f_rl_12 (em11.back hde1)).symm
    have ne_de1_bl : de1 ≠ bl := (ne_of_none f_bl_12 (em11.back hde1)).symm
    have ne_de1_q1 : de1 ≠ q1 := (ne_of_none f_q1_12 (em11.back hde1)).symm
    have ne_de1_x1 : de1 ≠ x1 := (ne_of_none f_x1_12 (em11.back hde1)).symm
    have ne_de1_n1 : de1 ≠ n1 := (ne_of_none f_n1_12 (em11.back hde1)).symm
    have ne_de1_st1 : de1 ≠ st1 := (ne_of_none f_st1_12 (em11.back hde1)).symm
    have ne_de1_pl1 : de1 ≠ pl1 := (ne_of_none f_pl1_12 (em11.back hde1)).symm
    have ne_de1_q2 : de1 ≠ q2 := (ne_of_none f_q2_12 (em11.back hde1)).symm
    have ne_de1_x2 : de1 ≠ x2 := (ne_of_none f_x2_12 (em11.back hde1)).symm
    have ne_de1_n2 : de1 ≠ n2 := (ne_of_none f_n2_12 (em11.back hde1)).symm
    have ne_de1_st2 : de1 ≠ st2 := (ne_of_none f_st2_12 (em11.back hde1)).symm
    have ne_de1_pl2 : de1 ≠ pl2 := (ne_of_none f_pl2_12 (em11.back hde1)).symm
    have ne_de1_xp : de1 ≠ xp := (ne_of_none f_xp_12 (em11.back hde1)).symm
    have ne_de1_ins : de1 ≠ ins := (ne_of_none f_ins_12 (em11.back hde1)).symm
    have ne_de1_xm : de1 ≠ xm := (ne_of_none f_xm_12 (em11.back hde1)).symm
    have ne_de1_nm : de1 ≠ nm := (ne_of_none f_nm_12 (em11.back hde1)).symm
    have ne_de1_xd : de1 ≠ xd := (ne_of_none f_xd_12 (em11.back hde1)).symm
    have ne_de1_nd1 : de1 ≠ nd1 := (ne_of_none f_nd1_12 (em11.back hde1)).symm
    have na_mi1 : mi1 ≠ a := poolne hpff1 (em11.back hmi1)
    have nd_mi1 : mi1 ≠ dm := (ne_of_none f_dm_12 (em11.back hmi1)).symm
    have ne_mi1_rl : mi1 ≠ rl := (ne_of_none f_rl_12 (em11.back hmi1)).symm
    have ne_mi1_bl : mi1 ≠ bl := (ne_of_none f_bl_12 (em11.back hmi1)).symm
    have ne_mi1_q1 : mi1 ≠ q1 := (ne_of_none f_q1_12 (em11.back hmi1)).symm
    have ne_mi1_x1 : mi1 ≠ x1 := (ne_of_none f_x1_12 (em11.back hmi1)).symm
    have ne_mi1_n1 : mi1 ≠ n1 := (ne_of_none f_n1_12 (em11.back hmi1)).symm
    have ne_mi1_st1 : mi1 ≠ st1 := (ne_of_none f_st1_12 (em11.back hmi1)).symm
    have ne_mi1_pl1 : mi1 ≠ pl1 := (ne_of_none f_pl1_12 (em11.back hmi1)).symm
    have ne_mi1_q2 : mi1 ≠ q2 := (ne_of_none f_q2_12 (em11.back hmi1)).symm
    have ne_mi1_x2 : mi1 ≠ x2 := (ne_of_none f_x2_12 (em11.back hmi1)).symm
    have ne_mi1_n2 : mi1 ≠ n2 := (ne_of_none f_n2_12 (em11.back hmi1)).symm
    have ne_mi1_st2 : mi1 ≠ st2 := (ne_of_none f_st2_12 (em11.back hmi1)).symm
    have ne_mi1_pl2 : mi1 ≠ pl2 := (ne_of_none f_pl2_12 (em11.back hmi1)).symm
    have ne_mi1_xp : mi1 ≠ xp := (ne_of_none f_xp_12 (em11.back hmi1)).symm
    have ne_mi1_ins : mi1 ≠ ins := (ne_of_none f_ins_12 (em11.back hmi1)).symm
    have ne_mi1_xm : mi1 ≠ xm := (ne_of_none f_xm_12 (em11.back hmi1)).symm
    have ne_mi1_nm : mi1 ≠ nm := (ne_of_none f_nm_12 (em11.back hmi1)).symm
    have ne_mi1_xd : mi1 ≠ xd := (ne_of_none f_xd_12 (em11.back hmi1)).symm
    have ne_mi1_nd1 : mi1 ≠ nd1 := (ne_of_none f_nd1_12 (em11.back hmi1)).symm
    have f_rl_13 := ei11 _ _ f_rl_12
    have f_bl_13 := ei11 _ _ f_bl_12
    have f_q1_13 := ei11 _ _ f_q1_12
    have f_x1_13 := ei11 _ _ f_x1_12
    have f_n1_13 := ei11 _ _ f_n1_12
    have f_st1_13 := ei11 _ _ f_st1_12
    have f_pl1_13 := ei11 _ _ f_pl1_12
    have f_q2_13 := ei11 _ _ f_q2_12
    have f_x2_13 := ei11 _ _ f_x2_12
    have f_n2_13 := ei11 _ _ f_n2_12
    have f_st2_13 := ei11 _ _ f_st2_12
    have f_pl2_13 := ei11 _ _ f_pl2_12
    have f_xp_13 := ei11 _ _ f_xp_12
    have f_ins_13 := ei11 _ _ f_ins_12
    have f_xm_13 := ei11 _ _ f_xm_12
    have f_nm_13 := ei11 _ _ f_nm_12
    have f_xd_13 := ei11 _ _ f_xd_12
    have f_nd1_13 := ei11 _ _ f_nd1_12
    have f_dm_13 := ei11 _ _ f_dm_12
    have hp_13 := Pool.ex hpff1 ei11
    have hS_13 : ∀ o, H a0 = some o → _ := fun o h => ei11 _ _ (hS_12 o h)
    refine ⟨_, rfl, dm, _, rfl, DPut.k (k := Sum.inr "from") f_dm_13 (sz2 (Nat.lt_of_le_of_lt mk3_len (by decide))), ?_⟩
    obtain ⟨S1, hS1⟩ : ∃ G, G = upd Q1 dm (.dK (putK (mergeK [] [(Sum.inr "row", .ref rl), (Sum.inr "there", .ref x2), (Sum.inr "pipe", .ref xp)]) (Sum.inr "from") (.ref y1))) := ⟨_, rfl⟩
    rw [← hS1]
    have kd1 : KeepA dm Q1 S1 := by rw [hS1]; exact KeepA.upd
    have f_dmS1 : S1 dm = some (.dK (putK (mergeK [] [(Sum.inr "row", .ref rl), (Sum.inr "there", .ref x2), (Sum.inr "pipe", .ref xp)]) (Sum.inr "from") (.ref y1))) := by rw [hS1, upd_same]
    have f_rl_14 := kd1 _ _ nd_rl f_rl_13
    have f_bl_14 := kd1 _ _ nd_bl f_bl_13
    have f_q1_14 := kd1 _ _ nd_q1 f_q1_13
    have f_x1_14 := kd1 _ _ nd_x1 f_x1_13
    have f_n1_14 := kd1 _ _ nd_n1 f_n1_13
    have f_st1_14 := kd1 _ _ nd_st1 f_st1_13
    have f_pl1_14 := kd1 _ _ nd_pl1 f_pl1_13
    have f_q2_14 := kd1 _ _ nd_q2 f_q2_13
    have f_x2_14 := kd1 _ _ nd_x2 f_x2_13
    have f_n2_14 := kd1 _ _ nd_n2 f_n2_13
    have f_st2_14 := kd1 _ _ nd_st2 f_st2_13
    have f_pl2_14 := kd1 _ _ nd_pl2 f_pl2_13
    have f_xp_14 := kd1 _ _ nd_xp f_xp_13
    have f_ins_14 := kd1 _ _ nd_ins f_ins_13
    have f_xm_14 := kd1 _ _ nd_xm f_xm_13
    have f_nm_14 := kd1 _ _ nd_nm f_nm_13
    have f_xd_14 := kd1 _ _ nd_xd f_xd_13
    have f_nd1_14 := kd1 _ _ nd_nd1 f_nd1_13
    have f_y1_14 := kd1 _ _ nd_y1 f_y1
    have f_ah1_14 := kd1 _ _ nd_ah1 f_ah1
    have f_de1_14 := kd1 _ _ nd_de1 f_de1
    have f_mi1_14 := kd1 _ _ nd_mi1 f_mi1
    have hp_14 := Pool.keepA hp_13 kd1 na_dm.symm
    have hS_14 : ∀ o, H a0 = some o → _ := fun o h => kd1 _ _ (hSd o h) (hS_13 o h)
    refine ⟨_, rfl, _, _, _, rfl, f_xp_14, pF_no_into, xp, xp, _, _, _, _, _, rfl, f_xp_14, ?_⟩
    refine ⟨sz1 (by simp), fun pf2 hpf2 => ?_⟩
    have epf2 := Ex.new (o := .lst [.int 1, .int 3, .int 8, .int 64]) hpf2
    have npf2 : pf2 ≠ a := poolne hp_14 hpf2
    refine ⟨_, rfl, a, _, 4, rfl, Pool.ex hp_14 epf2, by omega, by decide, by decide, fun rf2 mf2 P2 hrf2 hmf2 kf2 hpff2 => ?_⟩
    have kff2 := (KeepA.ex (a := a) epf2).trans kf2
    obtain ⟨room2, hroom2, hrm2, hrn2⟩ := rooms4 rf2 hrf2
    refine ⟨pf2, _, _, _, rfl, rfl, .inl (.inl (kf2 _ _ npf2 upd_same)), hroom2, rfl, rfl, ?_⟩
    have f_rl_15 := kff2 _ _ na_rl f_rl_14
    have f_bl_15 := kff2 _ _ na_bl f_bl_14
    have f_q1_15 := kff2 _ _ na_q1 f_q1_14
    have f_x1_15 := kff2 _ _ na_x1 f_x1_14
    have f_n1_15 := kff2 _ _ na_n1 f_n1_14
    have f_st1_15 := kff2 _ _ na_st1 f_st1_14
    have f_pl1_15 := kff2 _ _ na_pl1 f_pl1_14
    have f_q2_15 := kff2 _ _ na_q2 f_q2_14
    have f_x2_15 := kff2 _ _ na_x2 f_x2_14
    have f_n2_15 := kff2 _ _ na_n2 f_n2_14
    have f_st2_15 := kff2 _ _ na_st2 f_st2_14
    have f_pl2_15 := kff2 _ _ na_pl2 f_pl2_14
    have f_xp_15 := kff2 _ _ na_xp f_xp_14
    have f_ins_15 := kff2 _ _ na_ins f_ins_14
    have f_xm_15 := kff2 _ _ na_xm f_xm_14
    have f_nm_15 := kff2 _ _ na_nm f_nm_14
    have f_xd_15 := kff2 _ _ na_xd f_xd_14
    have f_nd1_15 := kff2 _ _ na_nd1 f_nd1_14
    have f_y1_15 := kff2 _ _ na_y1 f_y1_14
    have f_ah1_15 := kff2 _ _ na_ah1 f_ah1_14
    have f_de1_15 := kff2 _ _ na_de1 f_de1_14
    have f_mi1_15 := kff2 _ _ na_mi1 f_mi1_14
    have f_dm_15 := kff2 _ _ na_dm f_dmS1
    have hS_15 : ∀ o, H a0 = some o → _ := fun o h => kff2 _ _ (hSa o h) (hS_14 o h)
    refine fun y2 dy2 hy2 hdy2 hyd2 => ?_
    have em12 : Ex P2 (upd (upd P2 dy2 (.own y2)) y2 (.ins (He.ga K "File") dy2 [])) := mkEx hy2 hdy2
    refine ⟨y2, dy2, xm, _, _, room2, rfl, hrm2, hrn2, upd_same, em12 _ _ f_xm_15, eF_live, eF_no_is_shut, eF_no_seeks, (fun z => by cases z), fun ah2 de2 mi2 Q2 hah2 hde2 hmi2 ki12 f_y2 f_ah2 f_de2 f_mi2 => ⟨rfl, ?_⟩⟩
    have ei12 : Ex P2 Q2 := mk_keep hy2 hdy2 ki12
    have na_y2 : y2 ≠ a := poolne hpff2 hy2
    have sne_y2 : ∀ o, H a0 = some o → a0 ≠ y2 := fun o h => ne_of_none (hS_15 o h) hy2
    have nd_y2 : y2 ≠ dm := (ne_of_none f_dm_15 hy2).symm
    have ne_y2_rl : y2 ≠ rl := (ne_of_none f_rl_15 hy2).symm
    have ne_y2_bl : y2 ≠ bl := (ne_of_none f_bl_15 hy2).symm
    have ne_y2_q1 : y2 ≠ q1 := (ne_of_none f_q1_15 hy2).symm
    have ne_y2_x1 : y2 ≠ x1 := (ne_of_none f_x1_15 hy2).symm
    have ne_y2_n1 : y2 ≠ n1 := (ne_of_none f_n1_15 hy2).symm
    have ne_y2_st1 : y2 ≠ st1 := (ne_of_none f_st1_15 hy2).symm
    have ne_y2_pl1 : y2 ≠ pl1 := (ne_of_none f_pl1_15 hy2).symm
    have ne_y2_q2 : y2 ≠ q2 := (ne_of_none f_q2_15 hy2).symm
    have ne_y2_x2 : y2 ≠ x2 := (ne_of_none f_x2_15 hy2).symm
    have ne_y2_n2 : y2 ≠ n2 := (ne_of_none f_n2_15 hy2).symm
    have ne_y2_st2 : y2 ≠ st2 := (ne_of_none f_st2_15 hy2).symm
    have ne_y2_pl2 : y2 ≠ pl2 := (ne_of_none f_pl2_15 hy2).symm
    have ne_y2_xp : y2 ≠ xp := (ne_of_none f_xp_15 hy2).symm
    have ne_y2_ins : y2 ≠ ins := (ne_of_none f_ins_15 hy2).symm
    have ne_y2_xm : y2 ≠ xm := (ne_of_none f_xm_15 hy2).symm
    have ne_y2_nm : y2 ≠ nm := (ne_of_none f_nm_15 hy2).symm
    have ne_y2_xd : y2 ≠ xd := (ne_of_none f_xd_15 hy2).symm
    have ne_y2_nd1 : y2 ≠ nd1 := (ne_of_none f_nd1_15 hy2).symm
    have ne_y2_y1 : y2 ≠ y1 := (ne_of_none f_y1_15 hy2).symm
    have ne_y2_ah1 : y2 ≠ ah1 := (ne_of_none f_ah1_15 hy2).symm
    have ne_y2_de1 : y2 ≠ de1 := (ne_of_none f_de1_15 hy2).symm
    have ne_y2_mi1 : y2 ≠ mi1 := (ne_of_none f_mi1_15 hy2).symm
    have na_ah2 : ah2 ≠ a := poolne hpff2 (em12.back hah2)
    have nd_ah2 : ah2 ≠ dm := (ne_of_none f_dm_15 (em12.back hah2)).symm
    have ne_ah2_rl : ah2 ≠ rl := (ne_of_none f_rl_15 (em12.back hah2)).symm
    have ne_ah2_bl : ah2 ≠ bl := (ne_of_none f_bl_15 (em12.back hah2)).symm
    have ne_ah2_q1 : ah2 ≠ q1 := (ne_of_none f_q1_15 (em12.back hah2)).symm
    have ne_ah2_x1 : ah2 ≠ x1 := (ne_of_none f_x1_15 (em12.back hah2)).symm
    have ne_ah2_n1 : ah2 ≠ n1 := (ne_of_none f_n1_15 (em12.back hah2)).symm
    have ne_ah2_st1 : ah2 ≠ st1 := (ne_of_none f_st1_15 (em12.back hah2)).symm
    have ne_ah2_pl1 : ah2 ≠ pl1 := (ne_of_none f_pl1_15 (em12.back hah2)).symm
    have ne_ah2_q2 : ah2 ≠ q2 := (ne_of_none f_q2_15 (em12.back hah2)).symm
    have ne_ah2_x2 : ah2 ≠ x2 := (ne_of_none f_x2_15 (em12.back hah2)).symm
    have ne_ah2_n2 : ah2 ≠ n2 := (ne_of_none f_n2_15 (em12.back hah2)).symm
    have ne_ah2_st2 : ah2 ≠ st2 := (ne_of_none f_st2_15 (em12.back hah2)).symm
    have ne_ah2_pl2 : ah2 ≠ pl2 := (ne_of_none f_pl2_15 (em12.back hah2)).symm
    have ne_ah2_xp : ah2 ≠ xp := (ne_of_none f_xp_15 (em12.back hah2)).symm
    have ne_ah2_ins : ah2 ≠ ins := (ne_of_none f_ins_15 (em12.back hah2)).symm
    have ne_ah2_xm : ah2 ≠ xm := (ne_of_none f_xm_15 (em12.back hah2)).symm
    have ne_ah2_nm : ah2 ≠ nm := (ne_of_none f_nm_15 (em12.back hah2)).symm
    have ne_ah2_xd : ah2 ≠ xd := (ne_of_none f_xd_15 (em12.back hah2)).symm
    have ne_ah2_nd1 : ah2 ≠ nd1 := (ne_of_none f_nd1_15 (em12.back hah2)).symm
    have ne_ah2_y1 : ah2 ≠ y1 := (ne_of_none f_y1_15 (em12.back hah2)).symm
    have ne_ah2_ah1 : ah2 ≠ ah1 := (ne_of_none f_ah1_15 (em12.back hah2)).symm
    have ne_ah2_de1 : ah2 ≠ de1 := (ne_of_none f_de1_15 (em12.back hah2)).symm
    have ne_ah2_mi1 : ah2 ≠ mi1 := (ne_of_none f_mi1_15 (em12.back hah2)).symm
    have na_de2 : de2 ≠ a := poolne hpff2 (em12.back hde2)
    have nd_de2 : de2 ≠ dm := (ne_of_none f_dm_15 (em12.back hde2)).symm
    have ne_de2_rl : de2 ≠ rl := (ne_of_none f_rl_15 (em12.back hde2)).symm
    have ne_de2_bl : de2 ≠ bl := (ne_of_none f_bl_15 (em12.back hde2)).symm
    have ne_de2_q1 : de2 ≠ q1 := (ne_of_none f_q1_15 (em12.back hde2)).symm
    have ne_de2_x1 : de2 ≠ x1 := (ne_of_none f_x1_15 (em12.back hde2)).symm
    have ne_de2_n1 : de2 ≠ n1 := (ne_of_none f_n1_15 (em12.back hde2)).symm
    have ne_de2_st1 : de2 ≠ st1 := (ne_of_none f_st1_15 (em12.back hde2)).symm
    have ne_de2_pl1 : de2 ≠ pl1 := (ne_of_none f_pl1_15 (em12.back hde2)).symm
    have ne_de2_q2 : de2 ≠ q2 := (ne_of_none f_q2_15 (em12.back hde2)).symm
    have ne_de2_x2 : de2 ≠ x2 := (ne_of_none f_x2_15 (em12.back hde2)).symm
    have ne_de2_n2 : de2 ≠ n2 := (ne_of_none f_n2_15 (em12.back hde2)).symm
    have ne_de2_st2 : de2 ≠ st2 := (ne_of_none f_st2_15 (em12.back hde2)).symm
    have ne_de2_pl2 : de2 ≠ pl2 := (ne_of_none f_pl2_15 (em12.back hde2)).symm
    have ne_de2_xp : de2 ≠ xp := (ne_of_none f_xp_15 (em12.back hde2)).symm
    have ne_de2_ins : de2 ≠ ins := (ne_of_none f_ins_15 (em12.back hde2)).symm
    have ne_de2_xm : de2 ≠ xm := (ne_of_none f_xm_15 (em12.back hde2)).symm
    have ne_de2_nm : de2 ≠ nm := (ne_of_none f_nm_15 (em12.back hde2)).symm
    have ne_de2_xd : de2 ≠ xd := (ne_of_none f_xd_15 (em12.back hde2)).symm
    have ne_de2_nd1 : de2 ≠ nd1 := (ne_of_none f_nd1_15 (em12.back hde2)).symm
    have ne_de2_y1 : de2 ≠ y1 := (ne_of_none f_y1_15 (em12.back hde2)).symm
    have ne_de2_ah1 : de2 ≠ ah1 := (ne_of_none f_ah1_15 (em12.back hde2)).symm
    have ne_de2_de1 : de2 ≠ de1 := (ne_of_none f_de1_15 (em12.back hde2)).symm
    have ne_de2_mi1 : de2 ≠ mi1 := (ne_of_none f_mi1_15 (em12.back hde2)).symm
    have na_mi2 : mi2 ≠ a := poolne hpff2 (em12.back hmi2)
    have nd_mi2 : mi2 ≠ dm := (ne_of_none f_dm_15 (em12.back hmi2)).symm
    have ne_mi2_rl : mi2 ≠ rl := (ne_of_none f_rl_15 (em12.back hmi2)).symm
    have ne_mi2_bl : mi2 ≠ bl := (ne_of_none f_bl_15 (em12.back hmi2)).symm
    have ne_mi2_q1 : mi2 ≠ q1 := (ne_of_none f_q1_15 (em12.back hmi2)).symm
    have ne_mi2_x1 : mi2 ≠ x1 := (ne_of_none f_x1_15 (em12.back hmi2)).symm
    have ne_mi2_n1 : mi2 ≠ n1 := (ne_of_none f_n1_15 (em12.back hmi2)).symm
    have ne_mi2_st1 : mi2 ≠ st1 := (ne_of_none f_st1_15 (em12.back hmi2)).symm
    have ne_mi2_pl1 : mi2 ≠ pl1 := (ne_of_none f_pl1_15 (em12.back hmi2)).symm
    have ne_mi2_q2 : mi2 ≠ q2 := (ne_of_none f_q2_15 (em12.back hmi2)).symm
    have ne_mi2_x2 : mi2 ≠ x2 := (ne_of_none f_x2_15 (em12.back hmi2)).symm
    have ne_mi2_n2 : mi2 ≠ n2 := (ne_of_none f_n2_15 (em12.back hmi2)).symm
    have ne_mi2_st2 : mi2 ≠ st2 := (ne_of_none f_st2_15 (em12.back hmi2)).symm
    have ne_mi2_pl2 : mi2 ≠ pl2 := (ne_of_none f_pl2_15 (em12.back hmi2)).symm
    have ne_mi2_xp : mi2 ≠ xp := (ne_of_none f_xp_15 (em12.back hmi2)).symm
    have ne_mi2_ins : mi2 ≠ ins := (ne_of_none f_ins_15 (em12.back hmi2)).symm
    have ne_mi2_xm : mi2 ≠ xm := (ne_of_none f_xm_15 (em12.back hmi2)).symm
    have ne_mi2_nm : mi2 ≠ nm := (ne_of_none f_nm_15 (em12.back hmi2)).symm
    have ne_mi2_xd : mi2 ≠ xd := (ne_of_none f_xd_15 (em12.back hmi2)).symm
    have ne_mi2_nd1 : mi2 ≠ nd1 := (ne_of_none f_nd1_15 (em12.back hmi2)).symm
    have ne_mi2_y1 : mi2 ≠ y1 := (ne_of_none f_y1_15 (em12.back hmi2)).symm
    have ne_mi2_ah1 : mi2 ≠ ah1 := (ne_of_none f_ah1_15 (em12.back hmi2)).symm
    have ne_mi2_de1 : mi2 ≠ de1 := (ne_of_none f_de1_15 (em12.back hmi2)).symm
    have ne_mi2_mi1 : mi2 ≠ mi1 := (ne_of_none f_mi1_15 (em12.back hmi2)).symm
    have f_rl_16 := ei12 _ _ f_rl_15
    have f_bl_16 := ei12 _ _ f_bl_15
    have f_q1_16 := ei12 _ _ f_q1_15
    have f_x1_16 := ei12 _ _ f_x1_15
    have f_n1_16 := ei12 _ _ f_n1_15
    have f_st1_16 := ei12 _ _ f_st1_15
    have f_pl1_16 := ei12 _ _ f_pl1_15
    have f_q2_16 := ei12 _ _ f_q2_15
    have f_x2_16 := ei12 _ _ f_x2_15
    have f_n2_16 := ei12 _ _ f_n2_15
    have f_st2_16 := ei12 _ _ f_st2_15
    have f_pl2_16 := ei12 _ _ f_pl2_15
    have f_xp_16 := ei12 _ _ f_xp_15
    have f_ins_16 := ei12 _ _ f_ins_15
    have f_xm_16 := ei12 _ _ f_xm_15
    have f_nm_16 := ei12 _ _ f_nm_15
    have f_xd_16 := ei12 _ _ f_xd_15
    have f_nd1_16 := ei12 _ _ f_nd1_15
    have f_y1_16 := ei12 _ _ f_y1_15
    have f_ah1_16 := ei12 _ _ f_ah1_15
    have f_de1_16 := ei12 _ _ f_de1_15
    have f_mi1_16 := ei12 _ _ f_mi1_15
    have f_dm_16 := ei12 _ _ f_dm_15
    have hp_16 := Pool.ex hpff2 ei12
    have hS_16 : ∀ o, H a0 = some o → _ := fun o h => ei12 _ _ (hS_15 o h)
    refine ⟨_, rfl, dm, _, rfl, DPut.k (k := Sum.inr "in") f_dm_16 (sz2 (Nat.lt_of_le_of_lt (putK_le mk3_len) (by decide))), ?_⟩
    obtain ⟨S2, hS2⟩ : ∃ G, G = upd Q2 dm (.dK (putK (putK (mergeK [] [(Sum.inr "row", .ref rl), (Sum.inr "there", .ref x2), (Sum.inr "pipe", .ref xp)]) (Sum.inr "from") (.ref y1)) (Sum.inr "in") (.ref y2))) := ⟨_, rfl⟩
    rw [← hS2]
    have kd2 : KeepA dm Q2 S2 := by rw [hS2]; exact KeepA.upd
    have f_dmS2 : S2 dm = some (.dK (putK (putK (mergeK [] [(Sum.inr "row", .ref rl), (Sum.inr "there", .ref x2), (Sum.inr "pipe", .ref xp)]) (Sum.inr "from") (.ref y1)) (Sum.inr "in") (.ref y2))) := by rw [hS2, upd_same]
    have f_rl_17 := kd2 _ _ nd_rl f_rl_16
    have f_bl_17 := kd2 _ _ nd_bl f_bl_16
    have f_q1_17 := kd2 _ _ nd_q1 f_q1_16
    have f_x1_17 := kd2 _ _ nd_x1 f_x1_16
    have f_n1_17 := kd2 _ _ nd_n1 f_n1_16
    have f_st1_17 := kd2 _ _ nd_st1 f_st1_16
    have f_pl1_17 := kd2 _ _ nd_pl1 f_pl1_16
    have f_q2_17 := kd2 _ _ nd_q2 f_q2_16
    have f_x2_17 := kd2 _ _ nd_x2 f_x2_16
    have f_n2_17 := kd2 _ _ nd_n2 f_n2_16
    have f_st2_17 := kd2 _ _ nd_st2 f_st2_16
    have f_pl2_17 := kd2 _ _ nd_pl2 f_pl2_16
    have f_xp_17 := kd2 _ _ nd_xp f_xp_16
    have f_ins_17 := kd2 _ _ nd_ins f_ins_16
    have f_xm_17 := kd2 _ _ nd_xm f_xm_16
    have f_nm_17 := kd2 _ _ nd_nm f_nm_16
    have f_xd_17 := kd2 _ _ nd_xd f_xd_16
    have f_nd1_17 := kd2 _ _ nd_nd1 f_nd1_16
    have f_y1_17 := kd2 _ _ nd_y1 f_y1_16
    have f_ah1_17 := kd2 _ _ nd_ah1 f_ah1_16
    have f_de1_17 := kd2 _ _ nd_de1 f_de1_16
    have f_mi1_17 := kd2 _ _ nd_mi1 f_mi1_16
    have f_y2_17 := kd2 _ _ nd_y2 f_y2
    have f_ah2_17 := kd2 _ _ nd_ah2 f_ah2
    have f_de2_17 := kd2 _ _ nd_de2 f_de2
    have f_mi2_17 := kd2 _ _ nd_mi2 f_mi2
    have hp_17 := Pool.keepA hp_16 kd2 na_dm.symm
    have hS_17 : ∀ o, H a0 = some o → _ := fun o h => kd2 _ _ (hSd o h) (hS_16 o h)
    refine ⟨_, rfl, _, _, _, rfl, f_xp_17, pF_no_out, xp, xp, _, _, _, _, _, rfl, f_xp_17, ?_⟩
    refine ⟨sz1 (by simp), fun pf3 hpf3 => ?_⟩
    have epf3 := Ex.new (o := .lst [.int 1, .int 3, .int 8, .int 64]) hpf3
    have npf3 : pf3 ≠ a := poolne hp_17 hpf3
    refine ⟨_, rfl, a, _, 4, rfl, Pool.ex hp_17 epf3, by omega, by decide, by decide, fun rf3 mf3 P3 hrf3 hmf3 kf3 hpff3 => ?_⟩
    have kff3 := (KeepA.ex (a := a) epf3).trans kf3
    obtain ⟨room3, hroom3, hrm3, hrn3⟩ := rooms4 rf3 hrf3
    refine ⟨pf3, _, _, _, rfl, rfl, .inl (.inl (kf3 _ _ npf3 upd_same)), hroom3, rfl, rfl, ?_⟩
    have f_rl_18 := kff3 _ _ na_rl f_rl_17
    have f_bl_18 := kff3 _ _ na_bl f_bl_17
    have f_q1_18 := kff3 _ _ na_q1 f_q1_17
    have f_x1_18 := kff3 _ _ na_x1 f_x1_17
    have f_n1_18 := kff3 _ _ na_n1 f_n1_17
    have f_st1_18 := kff3 _ _ na_st1 f_st1_17
    have f_pl1_18 := kff3 _ _ na_pl1 f_pl1_17
    have f_q2_18 := kff3 _ _ na_q2 f_q2_17
    have f_x2_18 := kff3 _ _ na_x2 f_x2_17
    have f_n2_18 := kff3 _ _ na_n2 f_n2_17
    have f_st2_18 := kff3 _ _ na_st2 f_st2_17
    have f_pl2_18 := kff3 _ _ na_pl2 f_pl2_17
    have f_xp_18 := kff3 _ _ na_xp f_xp_17
    have f_ins_18 := kff3 _ _ na_ins f_ins_17
    have f_xm_18 := kff3 _ _ na_xm f_xm_17
    have f_nm_18 := kff3 _ _ na_nm f_nm_17
    have f_xd_18 := kff3 _ _ na_xd f_xd_17
    have f_nd1_18 := kff3 _ _ na_nd1 f_nd1_17
    have f_y1_18 := kff3 _ _ na_y1 f_y1_17
    have f_ah1_18 := kff3 _ _ na_ah1 f_ah1_17
    have f_de1_18 := kff3 _ _ na_de1 f_de1_17
    have f_mi1_18 := kff3 _ _ na_mi1 f_mi1_17
    have f_y2_18 := kff3 _ _ na_y2 f_y2_17
    have f_ah2_18 := kff3 _ _ na_ah2 f_ah2_17
    have f_de2_18 := kff3 _ _ na_de2 f_de2_17
    have f_mi2_18 := kff3 _ _ na_mi2 f_mi2_17
    have f_dm_18 := kff3 _ _ na_dm f_dmS2
    have hS_18 : ∀ o, H a0 = some o → _ := fun o h => kff3 _ _ (hSa o h) (hS_17 o h)
    refine fun y3 dy3 hy3 hdy3 hyd3 => ?_
    have em13 : Ex P3 (upd (upd P3 dy3 (.own y3)) y3 (.ins (He.ga K "File") dy3 [])) := mkEx hy3 hdy3
    refine ⟨y3, dy3, xd, _, _, room3, rfl, hrm3, hrn3, upd_same, em13 _ _ f_xd_18, eF_live, eF_no_is_shut, eF_no_seeks, (fun z => by cases z), fun ah3 de3 mi3 Q3 hah3 hde3 hmi3 ki13 f_y3 f_ah3 f_de3 f_mi3 => ⟨rfl, ?_⟩⟩
    have ei13 : Ex P3 Q3 := mk_keep hy3 hdy3 ki13
    have na_y3 : y3 ≠ a := poolne hpff3 hy3
    have sne_y3 : ∀ o, H a0 = some o → a0 ≠ y3 := fun o h => ne_of_none (hS_18 o h) hy3
    have nd_y3 : y3 ≠ dm := (ne_of_none f_dm_18 hy3).symm
    have ne_y3_rl : y3 ≠ rl := (ne_of_none f_rl_18 hy3).symm
    have ne_y3_bl : y3 ≠ bl := (ne_of_none f_bl_18 hy3).symm
    have ne_y3_q1 : y3 ≠ q1 := (ne_of_none f_q1_18 hy3).symm
    have ne_y3_x1 : y3 ≠ x1 := (ne_of_none f_x1_18 hy3).symm
    have ne_y3_n1 : y3 ≠ n1 := (ne_of_none f_n1_18 hy3).symm
    have ne_y3_st1 : y3 ≠ st1 := (ne_of_none f_st1_18 hy3).symm
    have ne_y3_pl1 : y3 ≠ pl1 := (ne_of_none f_pl1_18 hy3).symm
    have ne_y3_q2 : y3 ≠ q2 := (ne_of_none f_q2_18 hy3).symm
    have ne_y3_x2 : y3 ≠ x2 := (ne_of_none f_x2_18 hy3).symm
    have ne_y3_n2 : y3 ≠ n2 := (ne_of_none f_n2_18 hy3).symm
    have ne_y3_st2 : y3 ≠ st2 := (ne_of_none f_st2_18 hy3).symm
    have ne_y3_pl2 : y3 ≠ pl2 := (ne_of_none f_pl2_18 hy3).symm
    have ne_y3_xp : y3 ≠ xp := (ne_of_none f_xp_18 hy3).symm
    have ne_y3_ins : y3 ≠ ins := (ne_of_none f_ins_18 hy3).symm
    have ne_y3_xm : y3 ≠ xm := (ne_of_none f_xm_18 hy3).symm
    have ne_y3_nm : y3 ≠ nm := (ne_of_none f_nm_18 hy3).symm
    have ne_y3_xd : y3 ≠ xd := (ne_of_none f_xd_18 hy3).symm
    have ne_y3_nd1 : y3 ≠ nd1 := (ne_of_none f_nd1_18 hy3).symm
    have ne_y3_y1 : y3 ≠ y1 := (ne_of_none f_y1_18 hy3).symm
    have ne_y3_ah1 : y3 ≠ ah1 := (ne_of_none f_ah1_18 hy3).symm
    have ne_y3_de1 : y3 ≠ de1 := (ne_of_none f_de1_18 hy3).symm
    have ne_y3_mi1 : y3 ≠ mi1 := (ne_of_none f_mi1_18 hy3).symm
    have ne_y3_y2 : y3 ≠ y2 := (ne_of_none f_y2_18 hy3).symm
    have ne_y3_ah2 : y3 ≠ ah2 := (ne_of_none f_ah2_18 hy3).symm
    have ne_y3_de2 : y3 ≠ de2 := (ne_of_none f_de2_18 hy3).symm
    have ne_y3_mi2 : y3 ≠ mi2 := (ne_of_none f_mi2_18 hy3).symm
    have na_ah3 : ah3 ≠ a := poolne hpff3 (em13.back hah3)
    have nd_ah3 : ah3 ≠ dm := (ne_of_none f_dm_18 (em13.back hah3)).symm
    have ne_ah3_rl : ah3 ≠ rl := (ne_of_none f_rl_18 (em13.back hah3)).symm
    have ne_ah3_bl : ah3 ≠ bl := (ne_of_none f_bl_18 (em13.back hah3)).symm
    have ne_ah3_q1 : ah3 ≠ q1 := (ne_of_none f_q1_18 (em13.back hah3)).symm
    have ne_ah3_x1 : ah3 ≠ x1 := (ne_of_none f_x1_18 (em13.back hah3)).symm
    have ne_ah3_n1 : ah3 ≠ n1 := (ne_of_none f_n1_18 (em13.back hah3)).symm
    have ne_ah3_st1 : ah3 ≠ st1 := (ne_of_none f_st1_18 (em13.back hah3)).symm
    have ne_ah3_pl1 : ah3 ≠ pl1 := (ne_of_none f_pl1_18 (em13.back hah3)).symm
    have ne_ah3_q2 : ah3 ≠ q2 := (ne_of_none f_q2_18 (em13.back hah3)).symm
    have ne_ah3_x2 : ah3 ≠ x2 := (ne_of_none f_x2_18 (em13.back hah3)).symm
    have ne_ah3_n2 : ah3 ≠ n2 := (ne_of_none f_n2_18 (em13.back hah3)).symm
    have ne_ah3_st2 : ah3 ≠ st2 := (ne_of_none f_st2_18 (em13.back hah3)).symm
    have ne_ah3_pl2 : ah3 ≠ pl2 := (ne_of_none f_pl2_18 (em13.back hah3)).symm
    have ne_ah3_xp : ah3 ≠ xp := (ne_of_none f_xp_18 (em13.back hah3)).symm
    have ne_ah3_ins : ah3 ≠ ins := (ne_of_none f_ins_18 (em13.back hah3)).symm
    have ne_ah3_xm : ah3 ≠ xm := (ne_of_none f_xm_18 (em13.back hah3)).symm
    have ne_ah3_nm : ah3 ≠ nm := (ne_of_none f_nm_18 (em13.back hah3)).symm
    have ne_ah3_xd : ah3 ≠ xd := (ne_of_none f_xd_18 (em13.back hah3)).symm
    have ne_ah3_nd1 : ah3 ≠ nd1 := (ne_of_none f_nd1_18 (em13.back hah3)).symm
    have ne_ah3_y1 : ah3 ≠ y1 := (ne_of_none f_y1_18 (em13.back hah3)).symm
    have ne_ah3_ah1 : ah3 ≠ ah1 := (ne_of_none f_ah1_18 (em13.back hah3)).symm
    have ne_ah3_de1 : ah3 ≠ de1 := (ne_of_none f_de1_18 (em13.back hah3)).symm
    have ne_ah3_mi1 : ah3 ≠ mi1 := (ne_of_none f_mi1_18 (em13.back hah3)).symm
    have ne_ah3_y2 : ah3 ≠ y2 := (ne_of_none f_y2_18 (em13.back hah3)).symm
    have ne_ah3_ah2 : ah3 ≠ ah2 := (ne_of_none f_ah2_18 (em13.back hah3)).symm
    have ne_ah3_de2 : ah3 ≠ de2 := (ne_of_none f_de2_18 (em13.back hah3)).symm
    have ne_ah3_mi2 : ah3 ≠ mi2 := (ne_of_none f_mi2_18 (em13.back hah3)).symm
    have na_de3 : de3 ≠ a := poolne hpff3 (em13.back hde3)
    have nd_de3 : de3 ≠ dm := (ne_of_none f_dm_18 (em13.back hde3)).symm
    have ne_de3_rl : de3 ≠ rl := (ne_of_none f_rl_18 (em13.back hde3)).symm
    have ne_de3_bl : de3 ≠ bl := (ne_of_none f_bl_18 (em13.back hde3)).symm
    have ne_de3_q1 : de3 ≠ q1 := (ne_of_none f_q1_18 (em13.back hde3)).symm
    have ne_de3_x1 : de3 ≠ x1 := (ne_of_none f_x1_18 (em13.back hde3)).symm
    have ne_de3_n1 : de3 ≠ n1 := (ne_of_none f_n1_18 (em13.back hde3)).symm
    have ne_de3_st1 : de3 ≠ st1 := (ne_of_none f_st1_18 (em13.back hde3)).symm
    have ne_de3_pl1 : de3 ≠ pl1 := (ne_of_none f_pl1_18 (em13.back hde3)).symm
    have ne_de3_q2 : de3 ≠ q2 := (ne_of_none f_q2_18 (em13.back hde3)).symm
    have ne_de3_x2 : de3 ≠ x2 := (ne_of_none f_x2_18 (em13.back hde3)).symm
    have ne_de3_n2 : de3 ≠ n2 := (ne_of_none f_n2_18 (em13.back hde3)).symm
    have ne_de3_st2 : de3 ≠ st2 := (ne_of_none f_st2_18 (em13.back hde3)).symm
    have ne_de3_pl2 : de3 ≠ pl2 := (ne_of_none f_pl2_18 (em13.back hde3)).symm
    have ne_de3_xp : de3 ≠ xp := (ne_of_none f_xp_18 (em13.back hde3)).symm
    have ne_de3_ins : de3 ≠ ins := (ne_of_none f_ins_18 (em13.back hde3)).symm
    have ne_de3_xm : de3 ≠ xm := (ne_of_none f_xm_18 (em13.back hde3)).symm
    have ne_de3_nm : de3 ≠ nm := (ne_of_none f_nm_18 (em13.back hde3)).symm
    have ne_de3_xd : de3 ≠ xd := (ne_of_none f_xd_18 (em13.back hde3)).symm
    have ne_de3_nd1 : de3 ≠ nd1 := (ne_of_none f_nd1_18 (em13.back hde3)).symm
    have ne_de3_y1 : de3 ≠ y1 := (ne_of_none f_y1_18 (em13.back hde3)).symm
    have ne_de3_ah1 : de3 ≠ ah1 := (ne_of_none f_ah1_18 (em13.back hde3)).symm
    have ne_de3_de1 : de3 ≠ de1 := (ne_of_none f_de1_18 (em13.back hde3)).symm
    have ne_de3_mi1 : de3 ≠ mi1 := (ne_of_none f_mi1_18 (em13.back hde3)).symm
    have ne_de3_y2 : de3 ≠ y2 := (ne_of_none f_y2_18 (em13.back hde3)).symm
    have ne_de3_ah2 : de3 ≠ ah2 := (ne_of_none f_ah2_18 (em13.back hde3)).symm
    have ne_de3_de2 : de3 ≠ de2 := (ne_of_none f_de2_18 (em13.back hde3)).symm
    have ne_de3_mi2 : de3 ≠ mi2 := (ne_of_none f_mi2_18 (em13.back hde3)).symm
    have na_mi3 : mi3 ≠ a := poolne hpff3 (em13.back hmi3)
    have nd_mi3 : mi3 ≠ dm := (ne_of_none f_dm_18 (em13.back hmi3)).symm
    have ne_mi3_rl : mi3 ≠ rl := (ne_of_none f_rl_18 (em13.back hmi3)).symm
    have ne_mi3_bl : mi3 ≠ bl := (ne_of_none f_bl_18 (em13.back hmi3)).symm
    have ne_mi3_q1 : mi3 ≠ q1 := (ne_of_none f_q1_18 (em13.back hmi3)).symm
    have ne_mi3_x1 : mi3 ≠ x1 := (ne_of_none f_x1_18 (em13.back hmi3)).symm
    have ne_mi3_n1 : mi3 ≠ n1 := (ne_of_none f_n1_18 (em13.back hmi3)).symm
    have ne_mi3_st1 : mi3 ≠ st1 := (ne_of_none f_st1_18 (em13.back hmi3)).symm
    have ne_mi3_pl1 : mi3 ≠ pl1 := (ne_of_none f_pl1_18 (em13.back hmi3)).symm
    have ne_mi3_q2 : mi3 ≠ q2 := (ne_of_none f_q2_18 (em13.back hmi3)).symm
    have ne_mi3_x2 : mi3 ≠ x2 := (ne_of_none f_x2_18 (em13.back hmi3)).symm
    have ne_mi3_n2 : mi3 ≠ n2 := (ne_of_none f_n2_18 (em13.back hmi3)).symm
    have ne_mi3_st2 : mi3 ≠ st2 := (ne_of_none f_st2_18 (em13.back hmi3)).symm
    have ne_mi3_pl2 : mi3 ≠ pl2 := (ne_of_none f_pl2_18 (em13.back hmi3)).symm
    have ne_mi3_xp : mi3 ≠ xp := (ne_of_none f_xp_18 (em13.back hmi3)).symm
    have ne_mi3_ins : mi3 ≠ ins := (ne_of_none f_ins_18 (em13.back hmi3)).symm
    have ne_mi3_xm : mi3 ≠ xm := (ne_of_none f_xm_18 (em13.back hmi3)).symm
    have ne_mi3_nm : mi3 ≠ nm := (ne_of_none f_nm_18 (em13.back hmi3)).symm
    have ne_mi3_xd : mi3 ≠ xd := (ne_of_none f_xd_18 (em13.back hmi3)).symm
    have ne_mi3_nd1 : mi3 ≠ nd1 := (ne_of_none f_nd1_18 (em13.back hmi3)).symm
    have ne_mi3_y1 : mi3 ≠ y1 := (ne_of_none f_y1_18 (em13.back hmi3)).symm
    have ne_mi3_ah1 : mi3 ≠ ah1 := (ne_of_none f_ah1_18 (em13.back hmi3)).symm
    have ne_mi3_de1 : mi3 ≠ de1 := (ne_of_none f_de1_18 (em13.back hmi3)).symm
    have ne_mi3_mi1 : mi3 ≠ mi1 := (ne_of_none f_mi1_18 (em13.back hmi3)).symm
    have ne_mi3_y2 : mi3 ≠ y2 := (ne_of_none f_y2_18 (em13.back hmi3)).symm
    have ne_mi3_ah2 : mi3 ≠ ah2 := (ne_of_none f_ah2_18 (em13.back hmi3)).symm
    have ne_mi3_de2 : mi3 ≠ de2 := (ne_of_none f_de2_18 (em13.back hmi3)).symm
    have ne_mi3_mi2 : mi3 ≠ mi2 := (ne_of_none f_mi2_18 (em13.back hmi3)).symm
    have f_rl_19 := ei13 _ _ f_rl_18
    have f_bl_19 := ei13 _ _ f_bl_18
    have f_q1_19 := ei13 _ _ f_q1_18
    have f_x1_19 := ei13 _ _ f_x1_18
    have f_n1_19 := ei13 _ _ f_n1_18
    have f_st1_19 := ei13 _ _ f_st1_18
    have f_pl1_19 := ei13 _ _ f_pl1_18
    have f_q2_19 := ei13 _ _ f_q2_18
    have f_x2_19 := ei13 _ _ f_x2_18
    have f_n2_19 := ei13 _ _ f_n2_18
    have f_st2_19 := ei13 _ _ f_st2_18
    have f_pl2_19 := ei13 _ _ f_pl2_18
    have f_xp_19 := ei13 _ _ f_xp_18
    have f_ins_19 := ei13 _ _ f_ins_18
    have f_xm_19 := ei13 _ _ f_xm_18
    have f_nm_19 := ei13 _ _ f_nm_18
    have f_xd_19 := ei13 _ _ f_xd_18
    have f_nd1_19 := ei13 _ _ f_nd1_18
    have f_y1_19 := ei13 _ _ f_y1_18
    have f_ah1_19 := ei13 _ _ f_ah1_18
    have f_de1_19 := ei13 _ _ f_de1_18
    have f_mi1_19 := ei13 _ _ f_mi1_18
    have f_y2_19 := ei13 _ _ f_y2_18
    have f_ah2_19 := ei13 _ _ f_ah2_18
    have f_de2_19 := ei13 _ _ f_de2_18
    have f_mi2_19 := ei13 _ _ f_mi2_18
    have f_dm_19 := ei13 _ _ f_dm_18
    have hp_19 := Pool.ex hpff3 ei13
    have hS_19 : ∀ o, H a0 = some o → _ := fun o h => ei13 _ _ (hS_18 o h)
    refine ⟨_, rfl, dm, _, rfl, DPut.k (k := Sum.inr "out") f_dm_19 (sz2 (Nat.lt_of_le_of_lt (putK_le (putK_le mk3_len)) (by decide))), ?_⟩
    obtain ⟨S3, hS3⟩ : ∃ G, G = upd Q3 dm (.dK (putK (putK (putK (mergeK [] [(Sum.inr "row", .ref rl), (Sum.inr "there", .ref x2), (Sum.inr "pipe", .ref xp)]) (Sum.inr "from") (.ref y1)) (Sum.inr "in") (.ref y2)) (Sum.inr "out") (.ref y3))) := ⟨_, rfl⟩
    rw [← hS3]
    have kd3 : KeepA dm Q3 S3 := by rw [hS3]; exact KeepA.upd
    have f_dmS3 : S3 dm = some (.dK (putK (putK (putK (mergeK [] [(Sum.inr "row", .ref rl), (Sum.inr "there", .ref x2), (Sum.inr "pipe", .ref xp)]) (Sum.inr "from") (.ref y1)) (Sum.inr "in") (.ref y2)) (Sum.inr "out") (.ref y3))) := by rw [hS3, upd_same]
    have f_rl_20 := kd3 _ _ nd_rl f_rl_19
    have f_bl_20 := kd3 _ _ nd_bl f_bl_19
    have f_q1_20 := kd3 _ _ nd_q1 f_q1_19
    have f_x1_20 := kd3 _ _ nd_x1 f_x1_19
    have f_n1_20 := kd3 _ _ nd_n1 f_n1_19
    have f_st1_20 := kd3 _ _ nd_st1 f_st1_19
    have f_pl1_20 := kd3 _ _ nd_pl1 f_pl1_19
    have f_q2_20 := kd3 _ _ nd_q2 f_q2_19
    have f_x2_20 := kd3 _ _ nd_x2 f_x2_19
    have f_n2_20 := kd3 _ _ nd_n2 f_n2_19
    have f_st2_20 := kd3 _ _ nd_st2 f_st2_19
    have f_pl2_20 := kd3 _ _ nd_pl2 f_pl2_19
    have f_xp_20 := kd3 _ _ nd_xp f_xp_19
    have f_ins_20 := kd3 _ _ nd_ins f_ins_19
    have f_xm_20 := kd3 _ _ nd_xm f_xm_19
    have f_nm_20 := kd3 _ _ nd_nm f_nm_19
    have f_xd_20 := kd3 _ _ nd_xd f_xd_19
    have f_nd1_20 := kd3 _ _ nd_nd1 f_nd1_19
    have f_y1_20 := kd3 _ _ nd_y1 f_y1_19
    have f_ah1_20 := kd3 _ _ nd_ah1 f_ah1_19
    have f_de1_20 := kd3 _ _ nd_de1 f_de1_19
    have f_mi1_20 := kd3 _ _ nd_mi1 f_mi1_19
    have f_y2_20 := kd3 _ _ nd_y2 f_y2_19
    have f_ah2_20 := kd3 _ _ nd_ah2 f_ah2_19
    have f_de2_20 := kd3 _ _ nd_de2 f_de2_19
    have f_mi2_20 := kd3 _ _ nd_mi2 f_mi2_19
    have f_y3_20 := kd3 _ _ nd_y3 f_y3
    have f_ah3_20 := kd3 _ _ nd_ah3 f_ah3
    have f_de3_20 := kd3 _ _ nd_de3 f_de3
    have f_mi3_20 := kd3 _ _ nd_mi3 f_mi3
    have hp_20 := Pool.keepA hp_19 kd3 na_dm.symm
    have hS_20 : ∀ o, H a0 = some o → _ := fun o h => kd3 _ _ (hSd o h) (hS_19 o h)
    refine ⟨_, rfl, ?_⟩
    refine ⟨sz1 (by simp), fun pf4 hpf4 => ?_⟩
    have epf4 := Ex.new (o := .lst [.int 1, .int 3, .int 8, .int 64]) hpf4
    have npf4 : pf4 ≠ a := poolne hp_20 hpf4
    refine ⟨_, rfl, a, _, 4, rfl, Pool.ex hp_20 epf4, by omega, by decide, by decide, fun rf4 mf4 P4 hrf4 hmf4 kf4 hpff4 => ?_⟩
    have kff4 := (KeepA.ex (a := a) epf4).trans kf4
    obtain ⟨room4, hroom4, hrm4, hrn4⟩ := rooms4 rf4 hrf4
    refine ⟨pf4, _, _, _, rfl, rfl, .inl (.inl (kf4 _ _ npf4 upd_same)), hroom4, rfl, rfl, ?_⟩
    have f_rl_21 := kff4 _ _ na_rl f_rl_20
    have f_bl_21 := kff4 _ _ na_bl f_bl_20
    have f_q1_21 := kff4 _ _ na_q1 f_q1_20
    have f_x1_21 := kff4 _ _ na_x1 f_x1_20
    have f_n1_21 := kff4 _ _ na_n1 f_n1_20
    have f_st1_21 := kff4 _ _ na_st1 f_st1_20
    have f_pl1_21 := kff4 _ _ na_pl1 f_pl1_20
    have f_q2_21 := kff4 _ _ na_q2 f_q2_20
    have f_x2_21 := kff4 _ _ na_x2 f_x2_20
    have f_n2_21 := kff4 _ _ na_n2 f_n2_20
    have f_st2_21 := kff4 _ _ na_st2 f_st2_20
    have f_pl2_21 := kff4 _ _ na_pl2 f_pl2_20
    have f_xp_21 := kff4 _ _ na_xp f_xp_20
    have f_ins_21 := kff4 _ _ na_ins f_ins_20
    have f_xm_21 := kff4 _ _ na_xm f_xm_20
    have f_nm_21 := kff4 _ _ na_nm f_nm_20
    have f_xd_21 := kff4 _ _ na_xd f_xd_20
    have f_nd1_21 := kff4 _ _ na_nd1 f_nd1_20
    have f_y1_21 := kff4 _ _ na_y1 f_y1_20
    have f_ah1_21 := kff4 _ _ na_ah1 f_ah1_20
    have f_de1_21 := kff4 _ _ na_de1 f_de1_20
    have f_mi1_21 := kff4 _ _ na_mi1 f_mi1_20
    have f_y2_21 := kff4 _ _ na_y2 f_y2_20
    have f_ah2_21 := kff4 _ _ na_ah2 f_ah2_20
    have f_de2_21 := kff4 _ _ na_de2 f_de2_20
    have f_mi2_21 := kff4 _ _ na_mi2 f_mi2_20
    have f_y3_21 := kff4 _ _ na_y3 f_y3_20
    have f_ah3_21 := kff4 _ _ na_ah3 f_ah3_20
    have f_de3_21 := kff4 _ _ na_de3 f_de3_20
    have f_mi3_21 := kff4 _ _ na_mi3 f_mi3_20
    have f_dm_21 := kff4 _ _ na_dm f_dmS3
    have hS_21 : ∀ o, H a0 = some o → _ := fun o h => kff4 _ _ (hSa o h) (hS_20 o h)
    refine fun y4 dy4 hy4 hdy4 hyd4 => ?_
    have em14 : Ex P4 (upd (upd P4 dy4 (.own y4)) y4 (.ins (He.ga K "File") dy4 [])) := mkEx hy4 hdy4
    refine ⟨y4, dy4, x2, _, _, room4, rfl, hrm4, hrn4, upd_same, em14 _ _ f_x2_21, dF_live, dF_no_is_shut, dF_no_seeks, fun _ => ⟨dF_steady, dF_spot, dF_no_seeking, dF_no_place⟩, fun ah4 de4 mi4 Q4 hah4 hde4 hmi4 ki14 f_y4 f_ah4 f_de4 f_mi4 => ⟨rfl, ?_⟩⟩
    have ei14 : Ex P4 Q4 := mk_keep hy4 hdy4 ki14
    have na_y4 : y4 ≠ a := poolne hpff4 hy4
    have sne_y4 : ∀ o, H a0 = some o → a0 ≠ y4 := fun o h => ne_of_none (hS_21 o h) hy4
    have nd_y4 : y4 ≠ dm := (ne_of_none f_dm_21 hy4).symm
    have ne_y4_rl : y4 ≠ rl := (ne_of_none f_rl_21 hy4).symm
    have ne_y4_bl : y4 ≠ bl := (ne_of_none f_bl_21 hy4).symm
    have ne_y4_q1 : y4 ≠ q1 := (ne_of_none f_q1_21 hy4).symm
    have ne_y4_x1 : y4 ≠ x1 := (ne_of_none f_x1_21 hy4).symm
    have ne_y4_n1 : y4 ≠ n1 := (ne_of_none f_n1_21 hy4).symm
    have ne_y4_st1 : y4 ≠ st1 := (ne_of_none f_st1_21 hy4).symm
    have ne_y4_pl1 : y4 ≠ pl1 := (ne_of_none f_pl1_21 hy4).symm
    have ne_y4_q2 : y4 ≠ q2 := (ne_of_none f_q2_21 hy4).symm
    have ne_y4_x2 : y4 ≠ x2 := (ne_of_none f_x2_21 hy4).symm
    have ne_y4_n2 : y4 ≠ n2 := (ne_of_none f_n2_21 hy4).symm
    have ne_y4_st2 : y4 ≠ st2 := (ne_of_none f_st2_21 hy4).symm
    have ne_y4_pl2 : y4 ≠ pl2 := (ne_of_none f_pl2_21 hy4).symm
    have ne_y4_xp : y4 ≠ xp := (ne_of_none f_xp_21 hy4).symm
    have ne_y4_ins : y4 ≠ ins := (ne_of_none f_ins_21 hy4).symm
    have ne_y4_xm : y4 ≠ xm := (ne_of_none f_xm_21 hy4).symm
    have ne_y4_nm : y4 ≠ nm := (ne_of_none f_nm_21 hy4).symm
    have ne_y4_xd : y4 ≠ xd := (ne_of_none f_xd_21 hy4).symm
    have ne_y4_nd1 : y4 ≠ nd1 := (ne_of_none f_nd1_21 hy4).symm
    have ne_y4_y1 : y4 ≠ y1 := (ne_of_none f_y1_21 hy4).symm
    have ne_y4_ah1 : y4 ≠ ah1 := (ne_of_none f_ah1_21 hy4).symm
    have ne_y4_de1 : y4 ≠ de1 := (ne_of_none f_de1_21 hy4).symm
    have ne_y4_mi1 : y4 ≠ mi1 := (ne_of_none f_mi1_21 hy4).symm
    have ne_y4_y2 : y4 ≠ y2 := (ne_of_none f_y2_21 hy4).symm
    have ne_y4_ah2 : y4 ≠ ah2 := (ne_of_none f_ah2_21 hy4).symm
    have ne_y4_de2 : y4 ≠ de2 := (ne_of_none f_de2_21 hy4).symm
    have ne_y4_mi2 : y4 ≠ mi2 := (ne_of_none f_mi2_21 hy4).symm
    have ne_y4_y3 : y4 ≠ y3 := (ne_of_none f_y3_21 hy4).symm
    have ne_y4_ah3 : y4 ≠ ah3 := (ne_of_none f_ah3_21 hy4).symm
    have ne_y4_de3 : y4 ≠ de3 := (ne_of_none f_de3_21 hy4).symm
    have ne_y4_mi3 : y4 ≠ mi3 := (ne_of_none f_mi3_21 hy4).symm
    have na_ah4 : ah4 ≠ a := poolne hpff4 (em14.back hah4)
    have nd_ah4 : ah4 ≠ dm := (ne_of_none f_dm_21 (em14.back hah4)).symm
    have ne_ah4_rl : ah4 ≠ rl := (ne_of_none f_rl_21 (em14.back hah4)).symm
    have ne_ah4_bl : ah4 ≠ bl := (ne_of_none f_bl_21 (em14.back hah4)).symm
    have ne_ah4_q1 : ah4 ≠ q1 := (ne_of_none f_q1_21 (em14.back hah4)).symm
    have ne_ah4_x1 : ah4 ≠ x1 := (ne_of_none f_x1_21 (em14.back hah4)).symm
    have ne_ah4_n1 : ah4 ≠ n1 := (ne_of_none f_n1_21 (em14.back hah4)).symm
    have ne_ah4_st1 : ah4 ≠ st1 := (ne_of_none f_st1_21 (em14.back hah4)).symm
    have ne_ah4_pl1 : ah4 ≠ pl1 := (ne_of_none f_pl1_21 (em14.back hah4)).symm
    have ne_ah4_q2 : ah4 ≠ q2 := (ne_of_none f_q2_21 (em14.back hah4)).symm
    have ne_ah4_x2 : ah4 ≠ x2 := (ne_of_none f_x2_21 (em14.back hah4)).symm
    have ne_ah4_n2 : ah4 ≠ n2 := (ne_of_none f_n2_21 (em14.back hah4)).symm
    have ne_ah4_st2 : ah4 ≠ st2 := (ne_of_none f_st2_21 (em14.back hah4)).symm
    have ne_ah4_pl2 : ah4 ≠ pl2 := (ne_of_none f_pl2_21 (em14.back hah4)).symm
    have ne_ah4_xp : ah4 ≠ xp := (ne_of_none f_xp_21 (em14.back hah4)).symm
    have ne_ah4_ins : ah4 ≠ ins := (ne_of_none f_ins_21 (em14.back hah4)).symm
    have ne_ah4_xm : ah4 ≠ xm := (ne_of_none f_xm_21 (em14.back hah4)).symm
    have ne_ah4_nm : ah4 ≠ nm := (ne_of_none f_nm_21 (em14.back hah4)).symm
    have ne_ah4_xd : ah4 ≠ xd := (ne_of_none f_xd_21 (em14.back hah4)).symm
    have ne_ah4_nd1 : ah4 ≠ nd1 := (ne_of_none f_nd1_21 (em14.back hah4)).symm
    have ne_ah4_y1 : ah4 ≠ y1 := (ne_of_none f_y1_21 (em14.back hah4)).symm
    have ne_ah4_ah1 : ah4 ≠ ah1 := (ne_of_none f_ah1_21 (em14.back hah4)).symm
    have ne_ah4_de1 : ah4 ≠ de1 := (ne_of_none f_de1_21 (em14.back hah4)).symm
    have ne_ah4_mi1 : ah4 ≠ mi1 := (ne_of_none f_mi1_21 (em14.back hah4)).symm
    have ne_ah4_y2 : ah4 ≠ y2 := (ne_of_none f_y2_21 (em14.back hah4)).symm
    have ne_ah4_ah2 : ah4 ≠ ah2 := (ne_of_none f_ah2_21 (em14.back hah4)).symm
    have ne_ah4_de2 : ah4 ≠ de2 := (ne_of_none f_de2_21 (em14.back hah4)).symm
    have ne_ah4_mi2 : ah4 ≠ mi2 := (ne_of_none f_mi2_21 (em14.back hah4)).symm
    have ne_ah4_y3 : ah4 ≠ y3 := (ne_of_none f_y3_21 (em14.back hah4)).symm
    have ne_ah4_ah3 : ah4 ≠ ah3 := (ne_of_none f_ah3_21 (em14.back hah4)).symm
    have ne_ah4_de3 : ah4 ≠ de3 := (ne_of_none f_de3_21 (em14.back hah4)).symm
    have ne_ah4_mi3 : ah4 ≠ mi3 := (ne_of_none f_mi3_21 (em14.back hah4)).symm
    have na_de4 : de4 ≠ a := poolne hpff4 (em14.back hde4)
    have nd_de4 : de4 ≠ dm := (ne_of_none f_dm_21 (em14.back hde4)).symm
    have ne_de4_rl : de4 ≠ rl := (ne_of_none f_rl_21 (em14.back hde4)).symm
    have ne_de4_bl : de4 ≠ bl := (ne_of_none f_bl_21 (em14.back hde4)).symm
    have ne_de4_q1 : de4 ≠ q1 := (ne_of_none f_q1_21 (em14.back hde4)).symm
    have ne_de4_x1 : de4 ≠ x1 := (ne_of_none f_x1_21 (em14.back hde4)).symm
    have ne_de4_n1 : de4 ≠ n1 := (ne_of_none f_n1_21 (em14.back hde4)).symm
    have ne_de4_st1 : de4 ≠ st1 := (ne_of_none f_st1_21 (em14.back hde4)).symm
    have ne_de4_pl1 : de4 ≠ pl1 := (ne_of_none f_pl1_21 (em14.back hde4)).symm
    have ne_de4_q2 : de4 ≠ q2 := (ne_of_none f_q2_21 (em14.back hde4)).symm
    have ne_de4_x2 : de4 ≠ x2 := (ne_of_none f_x2_21 (em14.back hde4)).symm
    have ne_de4_n2 : de4 ≠ n2 := (ne_of_none f_n2_21 (em14.back hde4)).symm
    have ne_de4_st2 : de4 ≠ st2 := (ne_of_none f_st2_21 (em14.back hde4)).symm
    have ne_de4_pl2 : de4 ≠ pl2 := (ne_of_none f_pl2_21 (em14.back hde4)).symm
    have ne_de4_xp : de4 ≠ xp := (ne_of_none f_xp_21 (em14.back hde4)).symm
    have ne_de4_ins : de4 ≠ ins := (ne_of_none f_ins_21 (em14.back hde4)).symm
    have ne_de4_xm : de4 ≠ xm := (ne_of_none f_xm_21 (em14.back hde4)).symm
    have ne_de4_nm : de4 ≠ nm := (ne_of_none f_nm_21 (em14.back hde4)).symm
    have ne_de4_xd : de4 ≠ xd := (ne_of_none f_xd_21 (em14.back hde4)).symm
    have ne_de4_nd1 : de4 ≠ nd1 := (ne_of_none f_nd1_21 (em14.back hde4)).symm
    have ne_de4_y1 : de4 ≠ y1 := (ne_of_none f_y1_21 (em14.back hde4)).symm
    have ne_de4_ah1 : de4 ≠ ah1 := (ne_of_none f_ah1_21 (em14.back hde4)).symm
    have ne_de4_de1 : de4 ≠ de1 := (ne_of_none f_de1_21 (em14.back hde4)).symm
    have ne_de4_mi1 : de4 ≠ mi1 := (ne_of_none f_mi1_21 (em14.back hde4)).symm
    have ne_de4_y2 : de4 ≠ y2 := (ne_of_none f_y2_21 (em14.back hde4)).symm
    have ne_de4_ah2 : de4 ≠ ah2 := (ne_of_none f_ah2_21 (em14.back hde4)).symm
    have ne_de4_de2 : de4 ≠ de2 := (ne_of_none f_de2_21 (em14.back hde4)).symm
    have ne_de4_mi2 : de4 ≠ mi2 := (ne_of_none f_mi2_21 (em14.back hde4)).symm
    have ne_de4_y3 : de4 ≠ y3 := (ne_of_none f_y3_21 (em14.back hde4)).symm
    have ne_de4_ah3 : de4 ≠ ah3 := (ne_of_none f_ah3_21 (em14.back hde4)).symm
    have ne_de4_de3 : de4 ≠ de3 := (ne_of_none f_de3_21 (em14.back hde4)).symm
    have ne_de4_mi3 : de4 ≠ mi3 := (ne_of_none f_mi3_21 (em14.back hde4)).symm
    have na_mi4 : mi4 ≠ a := poolne hpff4 (em14.back hmi4)
    have nd_mi4 : mi4 ≠ dm := (ne_of_none f_dm_21 (em14.back hmi4)).symm
    have ne_mi4_rl : mi4 ≠ rl := (ne_of_none f_rl_21 (em14.back hmi4)).symm
    have ne_mi4_bl : mi4 ≠ bl := (ne_of_none f_bl_21 (em14.back hmi4)).symm
    have ne_mi4_q1 : mi4 ≠ q1 := (ne_of_none f_q1_21 (em14.back hmi4)).symm
    have ne_mi4_x1 : mi4 ≠ x1 := (ne_of_none f_x1_21 (em14.back hmi4)).symm
    have ne_mi4_n1 : mi4 ≠ n1 := (ne_of_none f_n1_21 (em14.back hmi4)).symm
    have ne_mi4_st1 : mi4 ≠ st1 := (ne_of_none f_st1_21 (em14.back hmi4)).symm
    have ne_mi4_pl1 : mi4 ≠ pl1 := (ne_of_none f_pl1_21 (em14.back hmi4)).symm
    have ne_mi4_q2 : mi4 ≠ q2 := (ne_of_none f_q2_21 (em14.back hmi4)).symm
    have ne_mi4_x2 : mi4 ≠ x2 := (ne_of_none f_x2_21 (em14.back hmi4)).symm
    have ne_mi4_n2 : mi4 ≠ n2 := (ne_of_none f_n2_21 (em14.back hmi4)).symm
    have ne_mi4_st2 : mi4 ≠ st2 := (ne_of_none f_st2_21 (em14.back hmi4)).symm
    have ne_mi4_pl2 : mi4 ≠ pl2 := (ne_of_none f_pl2_21 (em14.back hmi4)).symm
    have ne_mi4_xp : mi4 ≠ xp := (ne_of_none f_xp_21 (em14.back hmi4)).symm
    have ne_mi4_ins : mi4 ≠ ins := (ne_of_none f_ins_21 (em14.back hmi4)).symm
    have ne_mi4_xm : mi4 ≠ xm := (ne_of_none f_xm_21 (em14.back hmi4)).symm
    have ne_mi4_nm : mi4 ≠ nm := (ne_of_none f_nm_21 (em14.back hmi4)).symm
    have ne_mi4_xd : mi4 ≠ xd := (ne_of_none f_xd_21 (em14.back hmi4)).symm
    have ne_mi4_nd1 : mi4 ≠ nd1 := (ne_of_none f_nd1_21 (em14.back hmi4)).symm
    have ne_mi4_y1 : mi4 ≠ y1 := (ne_of_none f_y1_21 (em14.back hmi4)).symm
    have ne_mi4_ah1 : mi4 ≠ ah1 := (ne_of_none f_ah1_21 (em14.back hmi4)).symm
    have ne_mi4_de1 : mi4 ≠ de1 := (ne_of_none f_de1_21 (em14.back hmi4)).symm
    have ne_mi4_mi1 : mi4 ≠ mi1 := (ne_of_none f_mi1_21 (em14.back hmi4)).symm
    have ne_mi4_y2 : mi4 ≠ y2 := (ne_of_none f_y2_21 (em14.back hmi4)).symm
    have ne_mi4_ah2 : mi4 ≠ ah2 := (ne_of_none f_ah2_21 (em14.back hmi4)).symm
    have ne_mi4_de2 : mi4 ≠ de2 := (ne_of_none f_de2_21 (em14.back hmi4)).symm
    have ne_mi4_mi2 : mi4 ≠ mi2 := (ne_of_none f_mi2_21 (em14.back hmi4)).symm
    have ne_mi4_y3 : mi4 ≠ y3 := (ne_of_none f_y3_21 (em14.back hmi4)).symm
    have ne_mi4_ah3 : mi4 ≠ ah3 := (ne_of_none f_ah3_21 (em14.back hmi4)).symm
    have ne_mi4_de3 : mi4 ≠ de3 := (ne_of_none f_de3_21 (em14.back hmi4)).symm
    have ne_mi4_mi3 : mi4 ≠ mi3 := (ne_of_none f_mi3_21 (em14.back hmi4)).symm
    have f_rl_22 := ei14 _ _ f_rl_21
    have f_bl_22 := ei14 _ _ f_bl_21
    have f_q1_22 := ei14 _ _ f_q1_21
    have f_x1_22 := ei14 _ _ f_x1_21
    have f_n1_22 := ei14 _ _ f_n1_21
    have f_st1_22 := ei14 _ _ f_st1_21
    have f_pl1_22 := ei14 _ _ f_pl1_21
    have f_q2_22 := ei14 _ _ f_q2_21
    have f_x2_22 := ei14 _ _ f_x2_21
    have f_n2_22 := ei14 _ _ f_n2_21
    have f_st2_22 := ei14 _ _ f_st2_21
    have f_pl2_22 := ei14 _ _ f_pl2_21
    have f_xp_22 := ei14 _ _ f_xp_21
    have f_ins_22 := ei14 _ _ f_ins_21
    have f_xm_22 := ei14 _ _ f_xm_21
    have f_nm_22 := ei14 _ _ f_nm_21
    have f_xd_22 := ei14 _ _ f_xd_21
    have f_nd1_22 := ei14 _ _ f_nd1_21
    have f_y1_22 := ei14 _ _ f_y1_21
    have f_ah1_22 := ei14 _ _ f_ah1_21
    have f_de1_22 := ei14 _ _ f_de1_21
    have f_mi1_22 := ei14 _ _ f_mi1_21
    have f_y2_22 := ei14 _ _ f_y2_21
    have f_ah2_22 := ei14 _ _ f_ah2_21
    have f_de2_22 := ei14 _ _ f_de2_21
    have f_mi2_22 := ei14 _ _ f_mi2_21
    have f_y3_22 := ei14 _ _ f_y3_21
    have f_ah3_22 := ei14 _ _ f_ah3_21
    have f_de3_22 := ei14 _ _ f_de3_21
    have f_mi3_22 := ei14 _ _ f_mi3_21
    have f_dm_22 := ei14 _ _ f_dm_21
    have hp_22 := Pool.ex hpff4 ei14
    have hS_22 : ∀ o, H a0 = some o → _ := fun o h => ei14 _ _ (hS_21 o h)
    refine ⟨_, rfl, dm, _, rfl, DPut.k (k := Sum.inr "into") f_dm_22 (sz2 (Nat.lt_of_le_of_lt (putK_le (putK_le (putK_le mk3_len))) (by decide))), ?_⟩
    obtain ⟨S4, hS4⟩ : ∃ G, G = upd Q4 dm (.dK (putK (putK (putK (putK (mergeK [] [(Sum.inr "row", .ref rl), (Sum.inr "there", .ref x2), (Sum.inr "pipe", .ref xp)]) (Sum.inr "from") (.ref y1)) (Sum.inr "in") (.ref y2)) (Sum.inr "out") (.ref y3)) (Sum.inr "into") (.ref y4))) := ⟨_, rfl⟩
    rw [← hS4]
    have kd4 : KeepA dm Q4 S4 := by rw [hS4]; exact KeepA.upd
    have f_dmS4 : S4 dm = some (.dK (putK (putK (putK (putK (mergeK [] [(Sum.inr "row", .ref rl), (Sum.inr "there", .ref x2), (Sum.inr "pipe", .ref xp)]) (Sum.inr "from") (.ref y1)) (Sum.inr "in") (.ref y2)) (Sum.inr "out") (.ref y3)) (Sum.inr "into") (.ref y4))) := by rw [hS4, upd_same]
    have f_rl_23 := kd4 _ _ nd_rl f_rl_22
    have f_bl_23 := kd4 _ _ nd_bl f_bl_22
    have f_q1_23 := kd4 _ _ nd_q1 f_q1_22
    have f_x1_23 := kd4 _ _ nd_x1 f_x1_22
    have f_n1_23 := kd4 _ _ nd_n1 f_n1_22
    have f_st1_23 := kd4 _ _ nd_st1 f_st1_22
    have f_pl1_23 := kd4 _ _ nd_pl1 f_pl1_22
    have f_q2_23 := kd4 _ _ nd_q2 f_q2_22
    have f_x2_23 := kd4 _ _ nd_x2 f_x2_22
    have f_n2_23 := kd4 _ _ nd_n2 f_n2_22
    have f_st2_23 := kd4 _ _ nd_st2 f_st2_22
    have f_pl2_23 := kd4 _ _ nd_pl2 f_pl2_22
    have f_xp_23 := kd4 _ _ nd_xp f_xp_22
    have f_ins_23 := kd4 _ _ nd_ins f_ins_22
    have f_xm_23 := kd4 _ _ nd_xm f_xm_22
    have f_nm_23 := kd4 _ _ nd_nm f_nm_22
    have f_xd_23 := kd4 _ _ nd_xd f_xd_22
    have f_nd1_23 := kd4 _ _ nd_nd1 f_nd1_22
    have f_y1_23 := kd4 _ _ nd_y1 f_y1_22
    have f_ah1_23 := kd4 _ _ nd_ah1 f_ah1_22
    have f_de1_23 := kd4 _ _ nd_de1 f_de1_22
    have f_mi1_23 := kd4 _ _ nd_mi1 f_mi1_22
    have f_y2_23 := kd4 _ _ nd_y2 f_y2_22
    have f_ah2_23 := kd4 _ _ nd_ah2 f_ah2_22
    have f_de2_23 := kd4 _ _ nd_de2 f_de2_22
    have f_mi2_23 := kd4 _ _ nd_mi2 f_mi2_22
    have f_y3_23 := kd4 _ _ nd_y3 f_y3_22
    have f_ah3_23 := kd4 _ _ nd_ah3 f_ah3_22
    have f_de3_23 := kd4 _ _ nd_de3 f_de3_22
    have f_mi3_23 := kd4 _ _ nd_mi3 f_mi3_22
    have f_y4_23 := kd4 _ _ nd_y4 f_y4
    have f_ah4_23 := kd4 _ _ nd_ah4 f_ah4
    have f_de4_23 := kd4 _ _ nd_de4 f_de4
    have f_mi4_23 := kd4 _ _ nd_mi4 f_mi4
    have hp_23 := Pool.keepA hp_22 kd4 na_dm.symm
    have hS_23 : ∀ o, H a0 = some o → _ := fun o h => kd4 _ _ (hSd o h) (hS_22 o h)
    have hnod : [y1, y2, y3, y4, x1, xm, xd, x2, n1, nm, nd1, n2, xp].Nodup := by
      have w_y1_y2 : y1 ≠ y2 := ne_y2_y1.symm
      have w_y1_y3 : y1 ≠ y3 := ne_y3_y1.symm
      have w_y1_y4 : y1 ≠ y4 := ne_y4_y1.symm
      have w_y1_x1 : y1 ≠ x1 := ne_y1_x1
      have w_y1_xm : y1 ≠ xm := ne_y1_xm
      have w_y1_xd : y1 ≠ xd := ne_y1_xd
      have w_y1_x2 : y1 ≠ x2 := ne_y1_x2
      have w_y1_n1 : y1 ≠ n1 := ne_of f_y1_23 f_n1_23 (by intro z; cases z)
      have w_y1_nm : y1 ≠ nm := ne_of f_y1_23 f_nm_23 (by intro z; cases z)
      have w_y1_nd1 : y1 ≠ nd1 := ne_of f_y1_23 f_nd1_23 (by intro z; cases z)
      have w_y1_n2 : y1 ≠ n2 := ne_of f_y1_23 f_n2_23 (by intro z; cases z)
      have w_y1_xp : y1 ≠ xp := ne_y1_xp
      have w_y2_y3 : y2 ≠ y3 := ne_y3_y2.symm
      have w_y2_y4 : y2 ≠ y4 := ne_y4_y2.symm
      have w_y2_x1 : y2 ≠ x1 := ne_y2_x1
      have w_y2_xm : y2 ≠ xm := ne_y2_xm
      have w_y2_xd : y2 ≠ xd := ne_y2_xd
      have w_y2_x2 : y2 ≠ x2 := ne_y2_x2
      have w_y2_n1 : y2 ≠ n1 := ne_of f_y2_23 f_n1_23 (by intro z; cases z)
      have w_y2_nm : y2 ≠ nm := ne_of f_y2_23 f_nm_23 (by intro z; cases z)
      have w_y2_nd1 : y2 ≠ nd1 := ne_of f_y2_23 f_nd1_23 (by intro z; cases z)
      have w_y2_n2 : y2 ≠ n2 := ne_of f_y2_23 f_n2_23 (by intro z; cases z)
      have w_y2_xp : y2 ≠ xp := ne_y2_xp
      have w_y3_y4 : y3 ≠ y4 := ne_y4_y3.symm
      have w_y3_x1 : y3 ≠ x1 := ne_y3_x1
      have w_y3_xm : y3 ≠ xm := ne_y3_xm
      have w_y3_xd : y3 ≠ xd := ne_y3_xd
      have w_y3_x2 : y3 ≠ x2 := ne_y3_x2
      have w_y3_n1 : y3 ≠ n1 := ne_of f_y3_23 f_n1_23 (by intro z; cases z)
      have w_y3_nm : y3 ≠ nm := ne_of f_y3_23 f_nm_23 (by intro z; cases z)
      have w_y3_nd1 : y3 ≠ nd1 := ne_of f_y3_23 f_nd1_23 (by intro z; cases z)
      have w_y3_n2 : y3 ≠ n2 := ne_of f_y3_23 f_n2_23 (by intro z; cases z)
      have w_y3_xp : y3 ≠ xp := ne_y3_xp
      have w_y4_x1 : y4 ≠ x1 := ne_y4_x1
      have w_y4_xm : y4 ≠ xm := ne_y4_xm
      have w_y4_xd : y4 ≠ xd := ne_y4_xd
      have w_y4_x2 : y4 ≠ x2 := ne_y4_x2
      have w_y4_n1 : y4 ≠ n1 := ne_of f_y4_23 f_n1_23 (by intro z; cases z)
      have w_y4_nm : y4 ≠ nm := ne_of f_y4_23 f_nm_23 (by intro z; cases z)
      have w_y4_nd1 : y4 ≠ nd1 := ne_of f_y4_23 f_nd1_23 (by intro z; cases z)
      have w_y4_n2 : y4 ≠ n2 := ne_of f_y4_23 f_n2_23 (by intro z; cases z)
      have w_y4_xp : y4 ≠ xp := ne_y4_xp
      have w_x1_xm : x1 ≠ xm := ne_xm_x1.symm
      have w_x1_xd : x1 ≠ xd := ne_xd_x1.symm
      have w_x1_x2 : x1 ≠ x2 := ne_x2_x1.symm
      have w_x1_n1 : x1 ≠ n1 := ne_of f_x1_23 f_n1_23 (by intro z; cases z)
      have w_x1_nm : x1 ≠ nm := ne_of f_x1_23 f_nm_23 (by intro z; cases z)
      have w_x1_nd1 : x1 ≠ nd1 := ne_of f_x1_23 f_nd1_23 (by intro z; cases z)
      have w_x1_n2 : x1 ≠ n2 := ne_of f_x1_23 f_n2_23 (by intro z; cases z)
      have w_x1_xp : x1 ≠ xp := ne_xp_x1.symm
      have w_xm_xd : xm ≠ xd := z6
      have w_xm_x2 : xm ≠ x2 := ne_xm_x2
      have w_xm_n1 : xm ≠ n1 := ne_of f_xm_23 f_n1_23 (by intro z; cases z)
      have w_xm_nm : xm ≠ nm := ne_of f_xm_23 f_nm_23 (by intro z; cases z)
      have w_xm_nd1 : xm ≠ nd1 := ne_of f_xm_23 f_nd1_23 (by intro z; cases z)
      have w_xm_n2 : xm ≠ n2 := ne_of f_xm_23 f_n2_23 (by intro z; cases z)
      have w_xm_xp : xm ≠ xp := (Ne.symm z1)
      have w_xd_x2 : xd ≠ x2 := ne_xd_x2
      have w_xd_n1 : xd ≠ n1 := ne_of f_xd_23 f_n1_23 (by intro z; cases z)
      have w_xd_nm : xd ≠ nm := ne_of f_xd_23 f_nm_23 (by intro z; cases z)
      have w_xd_nd1 : xd ≠ nd1 := ne_of f_xd_23 f_nd1_23 (by intro z; cases z)
      have w_xd_n2 : xd ≠ n2 := ne_of f_xd_23 f_n2_23 (by intro z; cases z)
      have w_xd_xp : xd ≠ xp := (Ne.symm z3)
      have w_x2_n1 : x2 ≠ n1 := ne_of f_x2_23 f_n1_23 (by intro z; cases z)
      have w_x2_nm : x2 ≠ nm := ne_of f_x2_23 f_nm_23 (by intro z; cases z)
      have w_x2_nd1 : x2 ≠ nd1 := ne_of f_x2_23 f_nd1_23 (by intro z; cases z)
      have w_x2_n2 : x2 ≠ n2 := ne_of f_x2_23 f_n2_23 (by intro z; cases z)
      have w_x2_xp : x2 ≠ xp := ne_xp_x2.symm
      have w_n1_nm : n1 ≠ nm := ne_nm_n1.symm
      have w_n1_nd1 : n1 ≠ nd1 := ne_nd1_n1.symm
      have w_n1_n2 : n1 ≠ n2 := ne_n2_n1.symm
      have w_n1_xp : n1 ≠ xp := ne_of f_n1_23 f_xp_23 (by intro z; cases z)
      have w_nm_nd1 : nm ≠ nd1 := z9
      have w_nm_n2 : nm ≠ n2 := ne_nm_n2
      have w_nm_xp : nm ≠ xp := ne_of f_nm_23 f_xp_23 (by intro z; cases z)
      have w_nd1_n2 : nd1 ≠ n2 := ne_nd1_n2
      have w_nd1_xp : nd1 ≠ xp := ne_of f_nd1_23 f_xp_23 (by intro z; cases z)
      have w_n2_xp : n2 ≠ xp := ne_of f_n2_23 f_xp_23 (by intro z; cases z)
      simp only [List.nodup_cons, List.mem_cons, List.mem_nil_iff, or_false, not_or, not_false_eq_true, List.nodup_nil, and_true]
      exact ⟨⟨w_y1_y2, w_y1_y3, w_y1_y4, w_y1_x1, w_y1_xm, w_y1_xd, w_y1_x2, w_y1_n1, w_y1_nm, w_y1_nd1, w_y1_n2, w_y1_xp⟩, ⟨w_y2_y3, w_y2_y4, w_y2_x1, w_y2_xm, w_y2_xd, w_y2_x2, w_y2_n1, w_y2_nm, w_y2_nd1, w_y2_n2, w_y2_xp⟩, ⟨w_y3_y4, w_y3_x1, w_y3_xm, w_y3_xd, w_y3_x2, w_y3_n1, w_y3_nm, w_y3_nd1, w_y3_n2, w_y3_xp⟩, ⟨w_y4_x1, w_y4_xm, w_y4_xd, w_y4_x2, w_y4_n1, w_y4_nm, w_y4_nd1, w_y4_n2, w_y4_xp⟩, ⟨w_x1_xm, w_x1_xd, w_x1_x2, w_x1_n1, w_x1_nm, w_x1_nd1, w_x1_n2, w_x1_xp⟩, ⟨w_xm_xd, w_xm_x2, w_xm_n1, w_xm_nm, w_xm_nd1, w_xm_n2, w_xm_xp⟩, ⟨w_xd_x2, w_xd_n1, w_xd_nm, w_xd_nd1, w_xd_n2, w_xd_xp⟩, ⟨w_x2_n1, w_x2_nm, w_x2_nd1, w_x2_n2, w_x2_xp⟩, ⟨w_n1_nm, w_n1_nd1, w_n1_n2, w_n1_xp⟩, ⟨w_nm_nd1, w_nm_n2, w_nm_xp⟩, ⟨w_nd1_n2, w_nd1_xp⟩, w_n2_xp⟩
    let P : Pm := ⟨Aof y1 y2 y3 y4 x1 xm xd x2 n1 nm nd1 n2 xp, Aof dy1 dy2 dy3 dy4 dx1 dm1 dd1 dx2 0 0 0 0 dxp, Aof_inj hnod, row, beh, (fun i => match i with | .fr => plan1 | .to => plan2 | _ => []), (fun i => match i with | .fr => pl1 | .to => pl2 | _ => 0), (fun i => match i with | .fr => room1 | .wi => room2 | .ro => room3 | .to => room4), proom, hrowl, hbehl, (fun i => by cases i <;> exact ⟨by assumption, by assumption⟩), ⟨hpr1, hpr2⟩, (fun i => by cases i <;> first | assumption | exact Nat.zero_le 30), hby⟩
    have nl : ∀ l xs, S4 l = some (.lst xs) → l ≠ n1 → l ≠ nm → l ≠ nd1 → l ≠ n2 → ∀ s, l ≠ P.A s := fun l xs h h1 h2 h3 h4 s => by
      cases s with
      | f i => cases i
               · exact ne_of h f_y1_23 (by intro z; cases z)
               · exact ne_of h f_y2_23 (by intro z; cases z)
               · exact ne_of h f_y3_23 (by intro z; cases z)
               · exact ne_of h f_y4_23 (by intro z; cases z)
      | r i => cases i
               · exact ne_of h f_x1_23 (by intro z; cases z)
               · exact ne_of h f_xm_23 (by intro z; cases z)
               · exact ne_of h f_xd_23 (by intro z; cases z)
               · exact ne_of h f_x2_23 (by intro z; cases z)
      | n i => cases i
               · exact h1
               · exact h2
               · exact h3
               · exact h4
      | p => exact ne_of h f_xp_23 (by intro z; cases z)
    have l_rl : Lst P S4 rl row := ⟨f_rl_23, nl _ _ f_rl_23 (ne_n1_rl.symm) (ne_nm_rl.symm) (ne_nd1_rl.symm) (ne_n2_rl.symm)⟩
    have l_bl : Lst P S4 bl beh := ⟨f_bl_23, nl _ _ f_bl_23 (ne_n1_bl.symm) (ne_nm_bl.symm) (ne_nd1_bl.symm) (ne_n2_bl.symm)⟩
    have l_st1 : Lst P S4 st1 row := ⟨f_st1_23, nl _ _ f_st1_23 (hstn1) (ne_nm_st1.symm) (ne_nd1_st1.symm) (ne_n2_st1.symm)⟩
    have l_pl1 : Lst P S4 pl1 plan1 := ⟨f_pl1_23, nl _ _ f_pl1_23 (hpln1) (ne_nm_pl1.symm) (ne_nd1_pl1.symm) (ne_n2_pl1.symm)⟩
    have l_st2 : Lst P S4 st2 beh := ⟨f_st2_23, nl _ _ f_st2_23 (ne_st2_n1) (ne_nm_st2.symm) (ne_nd1_st2.symm) (hstn2)⟩
    have l_pl2 : Lst P S4 pl2 plan2 := ⟨f_pl2_23, nl _ _ f_pl2_23 (ne_pl2_n1) (ne_nm_pl2.symm) (ne_nd1_pl2.symm) (hpln2)⟩
    have l_ins : Lst P S4 ins [] := ⟨f_ins_23, nl _ _ f_ins_23 (ne_ins_n1) ((hinsne nm (by simp))) ((hinsne nd1 (by simp))) (ne_ins_n2)⟩
    have l_ah1 : Lst P S4 ah1 [] := ⟨f_ah1_23, nl _ _ f_ah1_23 (ne_ah1_n1) (ne_ah1_nm) (ne_ah1_nd1) (ne_ah1_n2)⟩
    have l_de1 : Lst P S4 de1 [] := ⟨f_de1_23, nl _ _ f_de1_23 (ne_de1_n1) (ne_de1_nm) (ne_de1_nd1) (ne_de1_n2)⟩
    have l_mi1 : Lst P S4 mi1 [] := ⟨f_mi1_23, nl _ _ f_mi1_23 (ne_mi1_n1) (ne_mi1_nm) (ne_mi1_nd1) (ne_mi1_n2)⟩
    have l_ah2 : Lst P S4 ah2 [] := ⟨f_ah2_23, nl _ _ f_ah2_23 (ne_ah2_n1) (ne_ah2_nm) (ne_ah2_nd1) (ne_ah2_n2)⟩
    have l_de2 : Lst P S4 de2 [] := ⟨f_de2_23, nl _ _ f_de2_23 (ne_de2_n1) (ne_de2_nm) (ne_de2_nd1) (ne_de2_n2)⟩
    have l_mi2 : Lst P S4 mi2 [] := ⟨f_mi2_23, nl _ _ f_mi2_23 (ne_mi2_n1) (ne_mi2_nm) (ne_mi2_nd1) (ne_mi2_n2)⟩
    have l_ah3 : Lst P S4 ah3 [] := ⟨f_ah3_23, nl _ _ f_ah3_23 (ne_ah3_n1) (ne_ah3_nm) (ne_ah3_nd1) (ne_ah3_n2)⟩
    have l_de3 : Lst P S4 de3 [] := ⟨f_de3_23, nl _ _ f_de3_23 (ne_de3_n1) (ne_de3_nm) (ne_de3_nd1) (ne_de3_n2)⟩
    have l_mi3 : Lst P S4 mi3 [] := ⟨f_mi3_23, nl _ _ f_mi3_23 (ne_mi3_n1) (ne_mi3_nm) (ne_mi3_nd1) (ne_mi3_n2)⟩
    have l_ah4 : Lst P S4 ah4 [] := ⟨f_ah4_23, nl _ _ f_ah4_23 (ne_ah4_n1) (ne_ah4_nm) (ne_ah4_nd1) (ne_ah4_n2)⟩
    have l_de4 : Lst P S4 de4 [] := ⟨f_de4_23, nl _ _ f_de4_23 (ne_de4_n1) (ne_de4_nm) (ne_de4_nd1) (ne_de4_n2)⟩
    have l_mi4 : Lst P S4 mi4 [] := ⟨f_mi4_23, nl _ _ f_mi4_23 (ne_mi4_n1) (ne_mi4_nm) (ne_mi4_nd1) (ne_mi4_n2)⟩
    have wW : W P K S4 (toWS P z00) := by
      refine ⟨fun i => ?_, fun i => ?_, fun i => ?_, ?_⟩
      · cases i
        · refine ⟨ah1, de1, mi1, f_y1_23, ?_, ?_, l_mi1⟩ <;> (show Lst P S4 _ (seg row 0 0); rw [seg_self]; assumption)
        · refine ⟨ah2, de2, mi2, f_y2_23, ?_, ?_, l_mi2⟩ <;> (show Lst P S4 _ (seg row 0 0); rw [seg_self]; assumption)
        · refine ⟨ah3, de3, mi3, f_y3_23, ?_, ?_, l_mi3⟩ <;> (show Lst P S4 _ (seg row 0 0); rw [seg_self]; assumption)
        · refine ⟨ah4, de4, mi4, f_y4_23, ?_, ?_, l_mi4⟩ <;> (show Lst P S4 _ (seg row 0 0); rw [seg_self]; assumption)
      · cases i
        · exact ⟨st1, f_x1_23, l_st1, l_pl1⟩
        · exact f_xm_23
        · exact f_xd_23
        · exact ⟨st2, f_x2_23, l_st2, l_pl2⟩
      · cases i
        · exact ⟨[], f_n1_23, .nil⟩
        · exact ⟨[], f_nm_23, .nil⟩
        · exact ⟨[], f_nd1_23, .nil⟩
        · exact ⟨[], f_n2_23, .nil⟩
      · refine ⟨ins, f_xp_23, ?_⟩
        show Lst P S4 _ (seg row 0 0)
        rw [seg_self]
        exact l_ins
    have hM : Mm P S4 dm rl := by
      refine ⟨?_, fun s => ?_, l_rl⟩
      · rw [f_dmS4]
        exact congrArg (fun z => some (HO.dK z)) kvs4
      · cases s with
        | f i => cases i
                 · exact ne_of f_dmS4 f_y1_23 (by intro z; cases z)
                 · exact ne_of f_dmS4 f_y2_23 (by intro z; cases z)
                 · exact ne_of f_dmS4 f_y3_23 (by intro z; cases z)
                 · exact ne_of f_dmS4 f_y4_23 (by intro z; cases z)
        | r i => cases i
                 · exact ne_of f_dmS4 f_x1_23 (by intro z; cases z)
                 · exact ne_of f_dmS4 f_xm_23 (by intro z; cases z)
                 · exact ne_of f_dmS4 f_xd_23 (by intro z; cases z)
                 · exact ne_of f_dmS4 f_x2_23 (by intro z; cases z)
        | n i => cases i
                 · exact ne_of f_dmS4 f_n1_23 (by intro z; cases z)
                 · exact ne_of f_dmS4 f_nm_23 (by intro z; cases z)
                 · exact ne_of f_dmS4 f_nd1_23 (by intro z; cases z)
                 · exact ne_of f_dmS4 f_n2_23 (by intro z; cases z)
        | p => exact ne_of f_dmS4 f_xp_23 (by intro z; cases z)
    have hS : ∀ o, H a0 = some o → S4 a0 = some o := hS_23
    have nS : ∀ o, H a0 = some o → ∀ s, a0 ≠ P.A s := fun o h s => by
      cases s with
      | f i => cases i
               · exact sne_y1 o h
               · exact sne_y2 o h
               · exact sne_y3 o h
               · exact sne_y4 o h
      | r i => cases i
               · exact sne_x1 o h
               · exact sne_xm o h
               · exact sne_xd o h
               · exact sne_x2 o h
      | n i => cases i
               · exact sne_n1 o h
               · exact sne_nm o h
               · exact sne_nd1 o h
               · exact sne_n2 o h
      | p => exact sne_xp o h
    have hN := P.hN
    have j0 : J P 0 z00 := by
      refine ⟨⟨fun i _ => ⟨rfl, rfl, Nat.le_refl _, Nat.zero_le _⟩, fun i _ => ⟨rfl, rfl, Nat.le_refl _, Nat.zero_le _⟩, ⟨Nat.le_refl _, ?_⟩, ?_, fun i _ => ?_⟩, rfl, rfl, fun _ => Nat.le_refl _, fun _ => rfl, fun e => by cases e⟩
      · show (0 : Int) - 0 ≤ P.proom
        have := P.hpr
        omega
      · show ([] : List Int) = seg P.row 0 0
        rw [seg_self]
      · show (0 : Int) - 0 ≤ P.room i
        have := P.hroom i
        omega
    have lbl : Lst P S4 bl P.beh := l_bl
    have hto : V.ref x2 = V.ref (P.A (.r .to)) := rfl
    clear_value P
    have hscK : ∀ H', Keep P S4 H' → SqL K H' a0 (ns.map V.int) := fun H' k => sq_keep hsc fun o h => k _ _ (nS o h) (hS o h)
    obtain ⟨hi, hhi, hi1, hi2⟩ : ∃ hi : Int, (if (if ((ns.map V.int).length : Int) < 41 then ((ns.map V.int).length : Int) else 41) > 11 then (if ((ns.map V.int).length : Int) < 41 then ((ns.map V.int).length : Int) else 41) else 11) = hi ∧ 11 ≤ hi ∧ hi ≤ 41 :=
      ⟨_, rfl, by split <;> omega, by split <;> (try split) <;> omega⟩
    refine ⟨_, rfl, a0, _, rfl, .inl (hscK _ Keep.refl), _, _, rfl, _, _, rfl, ?_⟩
    rw [hhi]
    refine ⟨_, _, rfl, ⟨by omega, by omega, by omega, by omega⟩, for_range (lo := 1) (n := (hi - 1).toNat) (fun i σ H' => ∃ z c8 c9, σ = [some (.ref a0), some (.ref a), some (.ref rl), some (.ref bl), some (.ref x1), some (.ref x2), some (.ref xp), some (.ref dm), c8, c9] ∧ W P K H' (toWS P z) ∧ Keep P S4 H' ∧ J P (200 * i) z ∧ z.lv = true)
      ⟨z00, _, _, rfl, wW, Keep.refl, j0, rfl⟩ (fun i σ H1 hi3 hP => ?_) (fun σ H1 hP => ?_)⟩
    · obtain ⟨z, c8, c9, rfl, w1, k1, j, hlv⟩ := hP
      have M1 := hM.keep k1
      have hs1 := hscK _ k1
      refine ⟨_, rfl, _, rfl, a0, ns, 1 + i, rfl, hs1, by omega, fun l H2 hl e2 hp => ?_⟩
      refine ⟨_, rfl, P, z, dm, rl, l, _, 200 * i, H1, rfl, w1, M1, hl, KeepA.ex e2, hp, by omega, j, by omega, hlv, fun z2 H3 j2 hlv2 k3 w3 => ?_⟩
      have M3 := M1.keep k3
      refine ⟨_, rfl, ifF rfl ⟨_, rfl, P, z2, dm, rl, rfl, w3, M3, j2.zi, j2.c1, j2.c2, fun i => Nat.le_trans (j2.n i) (by omega), fun e => (by rw [hlv2] at e; cases e), fun H4 e4 => ⟨_, rfl, ifF rfl ?_⟩⟩⟩
      exact ⟨z2, _, _, rfl, w3.ex e4, (k1.trans k3).trans e4.keep, j2.mono (by omega), hlv2⟩
    · obtain ⟨z, c8, c9, rfl, w1, k1, j, hlv⟩ := hP
      have M1 := hM.keep k1
      refine ⟨_, rfl, P, z, dm, rl, _, rfl, w1, M1, j, by omega, hlv, fun z2 H2 j2 hlv2 hc2 k2 w2 => ⟨_, rfl, ifF rfl ?_⟩⟩
      refine ⟨120, rfl, by decide, by decide, for_range (n := 120) (fun i σ H' => ∃ z c8 c9, σ = [some (.ref a0), some (.ref a), some (.ref rl), some (.ref bl), some (.ref x1), some (.ref x2), some (.ref xp), some (.ref dm), c8, c9] ∧ W P K H' (toWS P z) ∧ Keep P S4 H' ∧ J P (300000 + 400 * i) z ∧ z.lv = false ∧ z.c .fr = P.row.length ∧ mu P .to z + i ≤ 30)
        ⟨z2, _, _, rfl, w2, k1.trans k2, j2.mono (by omega), hlv2, hc2, ?_⟩ (fun i σ H3 hi3 hP => ?_) (fun σ H3 hP => ?_)⟩
      · have := P.hpl .to
        unfold mu
        omega
      · obtain ⟨z, c8, c9, rfl, w3, k3, j, hlv, hcN, hmu⟩ := hP
        have M3 := hM.keep k3
        have jb : ∀ i, (z.n i).length ≤ 5000000 := fun i => Nat.le_trans (j.n i) (by omega)
        refine ⟨_, rfl, dm, _, rfl, M3.out, _, rfl, dm, _, rfl, M3.into, ⟨.ro, rfl⟩, P, z, 8, .non, rfl, .inl rfl, by decide, by decide, w3, j.r rfl, jb, (fun e => by cases e), j.po _, j.po _, fun z1 o p1 H4 r1 ho hm k4 w4 hp1 np1 => ?_⟩
        have M4 := M3.keep k4
        have hlv1 : z1.lv = false := by rw [r1.lv]; exact hlv
        have j1 : J P (300000 + 400 * i + 200) z1 := j.step rfl r1 (fun e => by cases e)
        have hc1 : z1.c .fr = P.row.length := by rw [(r1.oth .fr (by decide) (by decide)).2.1]; exact hcN
        refine ⟨_, rfl, _, _, rfl, rfl, _, rfl, ifF rfl ⟨_, rfl, P, z1, dm, rl, rfl, w4, M4, j1.zi, j1.c1, j1.c2, fun i => Nat.le_trans (j1.n i) (by omega), j1.cl, fun H5 e5 => ⟨_, rfl, ifF rfl ?_⟩⟩⟩
        have w5 := w4.ex e5
        have M5 := M4.keep e5.keep
        have kk := (k3.trans k4).trans e5.keep
        have n1t : (z.n .to).length ≤ (z1.n .to).length := r1.n1t
        refine ⟨_, rfl, p1, _, _, vO o, rfl, rfl, .inl (.inl (e5 _ _ hp1)), rfl, scal_end o, _, rfl, ite2 (fun e => ?_) fun e => ?_⟩
        · have eo : o = some ("end" : Str) := vO_end (of_decide_eq_true e).symm
          have tg1 : Tg P z1 .to := j1.zi.tg rfl (Nat.le_trans (j1.n _) (by omega)) (fun e => by cases e)
          refine ⟨_, rfl, dm, _, rfl, M5.into, ⟨.to, rfl⟩, P, z1, rfl, w5, tg1, fun ms H6 g1 g2 g3 k6 w6 => ?_, fun m ms H6 sto k6 w6 => ?_⟩
          · refine ⟨rfl, _, rfl, ifT (decide_eq_true rfl) ?_⟩
            have hcto : z1.c .to = P.row.length := by
              rw [eo] at ho
              have h : Out P .ro z z1 "end" := ho
              cases h with
              | roE l d =>
                obtain ⟨d1, d2⟩ := d
                have t1 := j1.zi.tgt .wi rfl
                have t2 := j1.cl hlv1
                have t3 := j1.c1
                have t4 := j1.c2
                omega
            obtain ⟨sa6, hD6, hst6, hpl6⟩ := w6.dev (i := .to) rfl
            refine ⟨_, rfl, _, _, _, hto, hD6, dF_no_content, P, _, .to, congrArg (fun v => [v]) hto, rfl, w6, fun p7 H7 e7 np7 cl7 => ?_⟩
            have kB := (kk.trans k6).trans e7.keep
            have lb7 := lbl.keep kB
            have lr7 := hM.l.keep kB
            have hB := P.hB
            refine ⟨_, rfl, _, rfl, bl, rl, 0, P.beh, P.row, rfl, lb7.1, lr7.1, Nat.zero_le _, by omega, by omega, fun p8 H8 e8 np8 hp8 => ?_⟩
            have w7 := w6.ex e7
            have cl8 := cl7.keep e8.keep
            have e9 : ((toWS P (z1.mv .to (z1.c .to) ms)).r .to).st = P.row ++ P.beh.drop P.row.length := by
              show P.row.take (z1.c .to) ++ P.beh.drop (z1.c .to) = _
              rw [hcto, List.take_length]
            have e10 : P.beh.take 0 ++ P.row ++ P.beh.drop (0 + P.row.length) = P.row ++ P.beh.drop P.row.length := by
              rw [List.take_zero, List.nil_append, Nat.zero_add]
            rw [e9] at cl8
            rw [e10] at hp8
            have l8 : Lst P H8 p8 (P.row ++ P.beh.drop P.row.length) := ⟨hp8, w7.fresh np8⟩
            refine ⟨_, _, dpL cl8, dpL l8, PySem.W.ke_shaped_ints _, PySem.W.ke_shaped_ints _, ?_⟩
            rw [eqv_ints]
            exact q H8
          · refine ⟨rfl, _, rfl, ifF (decide_eq_false (fun z => by injection z with z; omega)) ?_⟩
            have ht1 := j1.zi.tgt .to rfl
            have s1 : z1.lo .to ≤ m := sto.lo
            have s2 : m < z1.c .to := sto.c
            have s3 : ms.length ≤ (z1.n .to).length + (m - z1.lo .to) + 1 := sto.n2
            have s4 : (z1.n .to).length < ms.length := sto.n1
            have s5 : (z1.n .to).length < (P.plan .to).length := sto.t rfl
            have j2 : J P (300000 + 400 * (i + 1)) (z1.mv .to m ms) := (j1.mv rfl s1 (by omega) (by omega) (fun e => by cases e) (fun e => by cases e)).mono (by omega)
            refine ⟨z1.mv .to m ms, _, _, rfl, w6, kk.trans k6, j2, hlv1, hc1, ?_⟩
            show (P.plan .to).length - ms.length + (i + 1) ≤ 30
            unfold mu at hmu
            omega
        · have us : Us P .to z z1 → mu P .to z1 + (i + 1) ≤ 30 := fun u => by
            have u1 := u.1
            have u2 := u.2
            unfold mu at hmu ⊢
            omega
          refine ⟨z1, _, _, rfl, w5, kk, j1.mono (by omega), hlv1, hc1, ?_⟩
          cases o with
          | none =>
            have h : OutF P .ro z z1 := ho
            cases h with
            | ro h => exact us h
          | some x =>
            have h : Out P .ro z z1 x := ho
            cases h with
            | roS l h => rw [hlv1] at l; cases l
            | roT h => exact us h
            | roE l h => exact absurd (decide_eq_true rfl) e
            | most => exact absurd rfl (hm rfl)
      · obtain ⟨z, c8, c9, rfl, w3, k3, j, hlv, hcN, hmu⟩ := hP
        omega
end
end Sip

set_option Elab.async false
set_option linter.all false
set_option maxRecDepth 100000
set_option maxHeartbeats 4000000
noncomputable section
namespace Sip
open PySem PySem.Spec PyProof.Rows L2
theorem facts {prog : Program} {w : World} {h : Heap} {mg : Str → Option Value} {f : Addr} (Y : SipHd.hookX.says w h) (G : h.Ns mainGlobals mg) (hfa : mg ("law" : Str) = some (.ref f)) :
    ∃ (K : PySem.W.Frag) (fd : FuncData), K.In h ∧ (∀ (s : Shared) (v : Value), BindsTo s fd ⟨[v], []⟩ [("_law_script", v)]) ∧ ∀ base : Heap, K.In base → base.Ns mainGlobals mg → FnOk prog w K mg base CXz 13 f fd ["_law_script"] (spLaw K) := by
  obtain ⟨K, KX, e⟩ := Y
  have e1 : (xbL K).all id = true := congrArg Prod.fst e
  have e2 : He.obsD faL fnL K = He.valD fnL := congrArg Prod.snd e
  have c : He.SaysD faL fnL K := e2
  have T := txt_of KX G c e1
  have eg := hfa.symm.trans T.g_law
  cases eg
  refine ⟨K, _, KX, fun s v => ?_, fun base _ _ => ok_law T⟩
  exact FunD.bindsA (ps := ["_law_script"]) T.F_law (fun _ _ _ _ _ _ us hl => match us, hl with | [_], _ => rfl) s [v] rfl
end Sip
open PySem PySem.W PySem.Calls PyProof.Rows
theorem SipHd.z_call : WalkO SipHd.qv SipHd.names (XL SipHd.qv []) SipHd.hookX.says SipHd.R.toRowW SipHd.dv [] fun f vs => PySem.call f vs := by
  refine L2.walk_ofE (l := PySem.Challenge.rw_sipstack_k97_whole_poured_through_a_pipe) (n := 63) (k := 13) (x := "_law_script") (CX := Sip.CXz) rfl (by decide) (by kernel_rfl) ⟨rfl, by decide, by decide⟩ ?F (fun _ _ _ _ z => z)
  intro w mg fa h Y G hmg0
  have hmg : mg ("law" : PySem.Str) = some (.ref fa) := by
    rw [← SipHd.z_dn]
    exact hmg0
  obtain ⟨K, fd, KX, hb, hF⟩ := Sip.facts (prog := (PySem.Challenge.rw_sipstack_k97_whole_poured_through_a_pipe).prog) Y G hmg
  exact ⟨K, fd, Sip.spLaw K, KX, hb, fun H a ns hl _ hS => ⟨a, ns, rfl, hS, hl, fun _ => rfl⟩, hF⟩
theorem PySem.Challenge.cw_sipstack_k97_whole_poured_through_a_pipe_holds : PySem.Challenge.rw_sipstack_k97_whole_poured_through_a_pipe.Holds := by
  exact SipHd.z_law fun said => SipHd.z_head said SipHd.run SipHd.z_call
